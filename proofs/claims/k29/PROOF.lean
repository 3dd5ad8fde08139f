import PyProof.Rows.All
import Wide.All
import OpenK.AllK
import Wide.FinOn
import HandS.ForMost
import HandS.ForExc
import HandS.Wide
import HandS.Style
import HandS.Flow
import HandS.IsInst
import HandS.OwnEq
import PyProof.Rows.SetFrom
import PyProof.StrWalks
import PyProof.InstNe
import HandS.Exc
import HandS.Defaults
import HandS.Walk
import PyProof.Rows.StrRev
import HandS.Steps
import PySem.Challenge.RW_crosswalls_k29_lots_hold_rooms
import KE.GoesMore
import HandS.TupLe
import HandS.ExcOwn
import HandS.ExcIs
import PyProof.ExcBaseAll.ValueError
import HandS.Iter
import HandS.Conv
import HandS.More
import HandS.WordsExc
import HandS.MakeKw
import HandS.MakeKwOnly
import HandS.Replace
import HandS.Codes
import PyProof.FString5
import PyProof.ListStr
import HandS.DeepEq
import PyProof.NeKinds
import HandS.SortInts
import HandS.SortKw
import HandS.Set
import HandS.SetFor
import HandS.RaiseMore
import PyProof.JoinWalk
import PyProof.CollectIter
import PyProof.DictWalks
import PyProof.FactsAll.dict_keyiterator_1
import PyProof.Rows.StrJoin2
import KE.KDictList
import HandS.TryOnly
import HandS.Deep
import KE.KOpsOwn
import PyProof.CallStr
import HandS.Property
import HandS.ClsMeth
import PyProof.Rows.Range3
import HandS.Ends
import KE.KStateDown
import HandS.Head0
import HandS.Head1
import HandS.Head2
set_option Elab.async false
set_option maxRecDepth 100000
set_option maxHeartbeats 4000000
/-! Own words over the hand layer: defs by name, texts as lists of codes. -/
namespace Cw
open PySem PySem.Spec PyProof.Rows L2

/-! ### defs by their module name -/
/-- a def of the module stands as the text has it -/
structure FnAt (K : PySem.W.Frag) (mg : Str → Option Value) (x : Str) (st : Stmt) : Prop where
  ex : ∃ f fd, mg x = some (.ref f) ∧ Fun K x x st f fd
/-- how a def's arguments bind where all are given, and where it stands -/
structure Bd (K : PySem.W.Frag) (f : Addr) (fd : FuncData) (ps : List Str) : Prop where
  b : Binds K fd ps []
  lk : ∃ oc od osl, K.lookup f = some ⟨oc, od, .func fd, osl⟩
theorem funLk {K : PySem.W.Frag} {x qual : Str} {st : Stmt} {f : Addr} {fd : FuncData} (F : Fun K x qual st f fd) : ∃ oc od osl, K.lookup f = some ⟨oc, od, .func fd, osl⟩ := by
  obtain ⟨oc, od, kV, doc, pm, an, cdv, ct, osl, rfl, lk, _⟩ := F.ex
  exact ⟨oc, od, osl, lk⟩
/-- a def of the module keeps a promise -/
structure Def (P : Program) (w : World) (K : PySem.W.Frag) (mg : Str → Option Value) (base : Heap) (CX : CXT) (k : Nat) (x : Str) (ps : List Str) (sp : Sp) : Prop where
  ex : ∃ f fd, mg x = some (.ref f) ∧ PySem.W.keepIn K (.ref f) = true ∧ Bd K f fd ps ∧ FnOk P w K mg base CX k f fd ps sp
section
variable {P : Program} {w : World} {K : PySem.W.Frag} {mg : Str → Option Value} {base : Heap} {CX : CXT} {k : Nat} {x : Str} {ps N : List Str} {sp : Sp} {st : Stmt}
theorem Def.mono {j : Nat} (D : Def P w K mg base CX j x ps sp) (h : j ≤ k) : Def P w K mg base CX k x ps sp := by
  obtain ⟨f, fd, a, b, c, d⟩ := D.ex
  exact ⟨f, fd, a, b, c, d.mono h⟩
theorem Def.imp {sp' : Sp} (D : Def P w K mg base CX k x ps sp) (h : ∀ vs H Q E, sp' vs H Q E → sp vs H Q E) : Def P w K mg base CX k x ps sp' := by
  obtain ⟨f, fd, a, b, c, d⟩ := D.ex
  exact ⟨f, fd, a, b, c, d.imp h⟩
/-- a def that lets no exception out -/
theorem FnAt.ok (F : FnAt K mg x st) (S : FnScope N ps (defScope st))
    (hb : ∀ (kV doc pm : Value) (an : Option Addr) (cdv ct : Value) (us : List Value), us.length = ps.length → bindArgs (PySem.W.fnOf x x (defArgs st) (defBody st) (defScope st) .none kV doc pm an cdv ct) ⟨us, []⟩ = pure (ps.zip us))
    (len : ∀ vs H Q E, sp vs H Q E → vs.length = ps.length)
    (hbody : ∀ (f : Addr) (cdv : Value) (A : Around) (outer : List Env) (s : Shared) (H : Hp) (vs : List V) (Q : VK) (E : XK), Room k (A.deeper (envOfC x (defScope st) s.heap.objs.size f cdv)) → sp vs H Q E →
      ∃ t, PSs (cxOf CX0 P w K mg base N x (defScope st) f cdv A outer s H E).nox (defBody st) t ∧ t { nx := fun _ H' => Q .non H', rt := Q } (start N vs) H) : Def P w K mg base CX0 (k + 1) x ps sp := by
  obtain ⟨f, fd, hm, F⟩ := F.ex
  exact ⟨f, fd, hm, F.kp, ⟨F.binds hb, funLk F⟩, F.ok S len fun cdv A outer s H vs Q E hr h => hbody f cdv A outer s H vs Q E hr h⟩
/-- a def that may raise -/
theorem FnAt.okX (F : FnAt K mg x st) (S : FnScope N ps (defScope st))
    (hb : ∀ (kV doc pm : Value) (an : Option Addr) (cdv ct : Value) (us : List Value), us.length = ps.length → bindArgs (PySem.W.fnOf x x (defArgs st) (defBody st) (defScope st) .none kV doc pm an cdv ct) ⟨us, []⟩ = pure (ps.zip us))
    (len : ∀ vs H Q E, sp vs H Q E → vs.length = ps.length)
    (hbody : ∀ (f : Addr) (cdv : Value) (A : Around) (outer : List Env) (s : Shared) (H : Hp) (vs : List V) (Q : VK) (E : XK), Room k (A.deeper (envOfC x (defScope st) s.heap.objs.size f cdv)) → sp vs H Q E →
      ∃ t, PSs (cxOf (L2.CX P w) P w K mg base N x (defScope st) f cdv A outer s H E) (defBody st) t ∧ t { nx := fun _ H' => Q .non H', rt := Q } (start N vs) H) : Def P w K mg base (L2.CX P w) (k + 1) x ps sp := by
  obtain ⟨f, fd, hm, F⟩ := F.ex
  exact ⟨f, fd, hm, F.kp, ⟨F.binds hb, funLk F⟩, F.okX S len fun cdv A outer s H vs Q E hr h => hbody f cdv A outer s H vs Q E hr h⟩
end
section
variable {X : Cx} {CX : CXT} {k : Nat} {ps : List Str} {sp : Sp} {E : XK} {x : Str} {p pos : PySem.Pos} {e : Expr} {es : List Expr} {t : TA}
/-- f(e, ..) of a def that is known by its name -/
theorem pe_cd (D : Def X.prog X.w X.K X.mg X.base CX k x ps sp) (hr : Room k X.A) (hx : Passes CX X E) (ha : PA X (e :: es) t) (hg : Gl X x := by rfl) (hdb : (x == ("__debug__" : Str)) = false := by decide)
    (he : starEach (e :: es) X.env = (false, eval e X.env) :: starEach es X.env := by rfl) (hpl : (backTo pos (starEach es X.env)).any (·.1) = false := by rfl) : PE X (.Call (.Name x p) (e :: es) [] pos) (tCall sp [] E t) := by
  obtain ⟨f, fd, a, b, c, d⟩ := D.ex
  exact pe_call d hr hg a b c.b .nil hx ha hdb he hpl
end
/-! ### heaps -/
/-- all but the object at p is kept -/
def Keep (p : Addr) (H H' : Hp) : Prop := ∀ b o, H b = some o → b ≠ p → H' b = some o
theorem Keep.refl (p : Addr) (H : Hp) : Keep p H H := fun _ _ h _ => h
theorem Keep.trans {p : Addr} {H H1 H2 : Hp} (a : Keep p H H1) (b : Keep p H1 H2) : Keep p H H2 := fun c o h n => b c o (a c o h n) n
theorem Keep.of {p : Addr} {H H' : Hp} (a : Same H H') : Keep p H H' := fun c o h _ => a c o h
theorem Same.at {H H' : Hp} {a : Addr} {o : HO} (S : Same H H') (h : H a = some o) : H' a = some o := S a o h
theorem Keep.at {p : Addr} {H H' : Hp} {a : Addr} {o : HO} (S : Keep p H H') (h : H a = some o) (n : a ≠ p) : H' a = some o := S a o h n
theorem Same.new {H : Hp} {p : Addr} {o : HO} (h : H p = none) : Same H (upd H p o) := fun a u e => by
  rw [upd_ne (ne_of_none e h)]
  exact e
theorem Keep.put {p : Addr} {H : Hp} {o : HO} : Keep p H (upd H p o) := fun a u e n => by
  rw [upd_ne n]
  exact e
end Cw
set_option Elab.async false
set_option linter.all false
set_option maxRecDepth 100000
set_option maxHeartbeats 4000000
namespace Cw
open PySem PySem.Spec L2
/-! ### texts as lists of codes -/
abbrev tx (l : List Nat) : Str := ⟨l.toArray⟩
theorem tx_len (l : List Nat) : (tx l).length = l.length := by
  show (l.toArray).size = l.length
  simp
theorem tx_app (a b : List Nat) : tx a ++ tx b = tx (a ++ b) := by
  show (⟨a.toArray ++ b.toArray⟩ : Str) = ⟨(a ++ b).toArray⟩
  simp
theorem tx_eq {z : Str} : z = tx z.cps.toList := by
  cases z
  simp [tx]
theorem tx_inj {a b : List Nat} : tx a = tx b ↔ a = b := by
  constructor
  · intro h
    have := congrArg (fun z : Str => z.cps.toList) h
    simpa using this
  · intro h
    rw [h]
theorem dec_tx {a b : List Nat} : decide (V.str (tx a) = V.str (tx b)) = decide (a = b) := by
  rw [Bool.eq_iff_iff, decide_eq_true_iff, decide_eq_true_iff]
  constructor
  · intro h
    injection h with h
    exact tx_inj.mp h
  · intro h
    rw [h]

/-! ### stepping: expressions -/
section
variable {σ : St} {H : Hp} {Q : VK} {i : Nat} {v x y : V} {ta tb te : TE} {r : R2} {D : Ends} {K : PySem.W.Frag}
theorem e_c (q : Q v H) : tC v σ H Q := q
theorem e_op (q : ta σ H fun x H1 => tb σ H1 fun y H2 => r x y H2 Q) : tOp r ta tb σ H Q := q
theorem e_un {r : V → Hp → VK → Prop} (q : ta σ H fun x H1 => r x H1 Q) : tUn r ta σ H Q := q
theorem v_I0 {g : Int → Int → V} {a b : Int} (q : Q (g a b) H) : rI0 g (.int a) (.int b) H Q := ⟨a, b, rfl, rfl, q⟩
theorem v_I {C : Int → Int → Prop} {g : Int → Int → V} {a b : Int} (c : C a b) (q : Q (g a b) H) : rI C g (.int a) (.int b) H Q := ⟨a, b, rfl, rfl, c, q⟩
theorem v_eq (c : scal x y = true) (q : Q (.bl (decide (x = y))) H) : rEq x y H Q := ⟨c, q⟩
theorem v_ne (c : scal x y = true) (q : Q (.bl (!decide (x = y))) H) : rNe x y H Q := ⟨c, q⟩
theorem v_bl {P : Bool → Prop} {b : Bool} (q : P b) : ∃ k, V.bl b = V.bl k ∧ P k := ⟨b, rfl, q⟩
theorem v_int {P : Int → Prop} {b : Int} (q : P b) : ∃ k, V.int b = V.int k ∧ P k := ⟨b, rfl, q⟩
theorem v_str {P : Str → Prop} {b : Str} (q : P b) : ∃ k, V.str b = V.str k ∧ P k := ⟨b, rfl, q⟩
theorem e_andV (q : ta σ H fun x H1 => ∃ c, x = .bl c ∧ if c = true then tb σ H1 Q else Q (.bl false) H1) : tAndV ta tb σ H Q := q
theorem e_orV (q : ta σ H fun x H1 => ∃ c, x = .bl c ∧ if c = true then Q (.bl true) H1 else tb σ H1 Q) : tOrV ta tb σ H Q := q
theorem e_notV (q : ta σ H fun x H1 => ∃ c, x = .bl c ∧ Q (.bl (!c)) H1) : tNotV ta σ H Q := q
theorem e_if {t : TT} (q : t σ H fun c H1 => if c = true then ta σ H1 Q else tb σ H1 Q) : tIf t ta tb σ H Q := q
theorem e_nil {Q : List V → Hp → Prop} (q : Q [] H) : tNil σ H Q := q
theorem e_cons {tr : TA} {Q : List V → Hp → Prop} (q : ta σ H fun x H1 => tr σ H1 fun xs H2 => Q (x :: xs) H2) : tCons ta tr σ H Q := q
theorem e_cb {r : List V → Hp → VK → Prop} {t : TA} (q : t σ H fun vs H1 => r vs H1 Q) : tCB r t σ H Q := q
theorem e_call {sp : Sp} {E : XK} {t : TA} (q : t σ H fun vs H1 => sp vs H1 Q E) : tCall sp [] E t σ H Q := by
  show t σ H fun vs H1 => sp (vs ++ []) H1 Q E
  simpa using q
theorem e_fld {f : Str} (q : ta σ H fun x H1 => ∃ a C dx fs v, x = .ref a ∧ H1 a = some (.ins C dx fs) ∧ Cls K C ∧ NoAttr K C f ∧ fs.lookup f = some v ∧ Q v H1) : tFld K ta f σ H Q := q
theorem e_dget (q : ta σ H fun x H1 => tb σ H1 fun y H2 => ∃ a v, x = .ref a ∧ DGet H2 a y (some v) ∧ Q v H2) : tDGet ta tb σ H Q := q
theorem v_dget {P : V → Prop} {a : Addr} (h : DGet H a y (some v)) (q : P v) : ∃ a' v, V.ref a = .ref a' ∧ DGet H a' y (some v) ∧ P v := ⟨a, v, rfl, h, q⟩
theorem e_lst {t : TA} (q : t σ H fun xs H1 => xs.length ≤ sizeLine ∧ ∀ p H2, H1 p = none → H2 = upd H1 p (.lst xs) → Q (.ref p) H2) : tLst t σ H Q := by
  have e : (fun (xs : List V) (H1 : Hp) => xs.length ≤ sizeLine ∧ ∀ p H2, H1 p = none → H2 = upd H1 p (.lst xs) → Q (.ref p) H2) = (fun xs H1 => xs.length ≤ sizeLine ∧ ∀ p, H1 p = none → Q (.ref p) (upd H1 p (.lst xs))) := by
    funext xs H1
    exact propext ⟨fun h => ⟨h.1, fun p hp => h.2 p _ hp rfl⟩, fun h => ⟨h.1, fun p H2 hp e => e ▸ h.2 p hp⟩⟩
  rw [e] at q
  exact q
theorem e_tup {t : TA} (q : t σ H fun xs H1 => xs.length ≤ sizeLine ∧ ∀ p H2, H1 p = none → H2 = upd H1 p (.tup xs) → Q (.ref p) H2) : tTup t σ H Q := by
  have e : (fun (xs : List V) (H1 : Hp) => xs.length ≤ sizeLine ∧ ∀ p H2, H1 p = none → H2 = upd H1 p (.tup xs) → Q (.ref p) H2) = (fun xs H1 => xs.length ≤ sizeLine ∧ ∀ p, H1 p = none → Q (.ref p) (upd H1 p (.tup xs))) := by
    funext xs H1
    exact propext ⟨fun h => ⟨h.1, fun p hp => h.2 p _ hp rfl⟩, fun h => ⟨h.1, fun p H2 hp e => e ▸ h.2 p hp⟩⟩
  rw [e] at q
  exact q
theorem e_dnew (q : ∀ p H', H p = none → Same H H' → H' p = some (.dK []) → Q (.ref p) H') : tDNewK σ H Q := fun p h => q p _ h (Same.new h) upd_same
theorem szl {n : Nat} (h : n ≤ 1000000) : n ≤ sizeLine := Nat.le_trans h (by decide)
theorem szlt {n : Nat} (h : n < 1000000) : n < sizeLine := Nat.lt_of_lt_of_le h (by decide)
theorem v_lst {xs : List V} {P : Addr → Hp → Prop} (h : xs.length ≤ 1000000) (q : ∀ p H', H p = none → Same H H' → H' p = some (.lst xs) → P p H') : xs.length ≤ sizeLine ∧ ∀ p H2, H p = none → H2 = upd H p (.lst xs) → P p H2 := ⟨szl h, fun p H2 hp e => q p H2 hp (e ▸ Same.new hp) (e ▸ upd_same)⟩
theorem v_tup {xs : List V} {P : Addr → Hp → Prop} (h : xs.length ≤ 1000000) (q : ∀ p H', H p = none → Same H H' → H' p = some (.tup xs) → P p H') : xs.length ≤ sizeLine ∧ ∀ p H2, H p = none → H2 = upd H p (.tup xs) → P p H2 := ⟨szl h, fun p H2 hp e => q p H2 hp (e ▸ Same.new hp) (e ▸ upd_same)⟩
theorem v_ixL {p : Addr} {xs : List V} {a : Int} (h : H p = some (.lst xs)) (c : atI xs a = some v) (q : Q v H) : rIxL K (.ref p) (.int a) H Q := ⟨p, xs, a, v, rfl, rfl, SqL.of h, c, q⟩
theorem v_ixS {l : List Nat} {a : Int} {c : Nat} (h : l.length ≤ 1000000) (e : atI l a = some c) (q : Q (.str (tx [c])) H) : rIxS (.str (tx l)) (.int a) H Q := ⟨tx l, a, c, rfl, rfl, by rw [tx_len]; exact szl h, by simpa using e, q⟩
end
/-! ### named relations of built-in calls -/
def rInt : List V → Hp → VK → Prop := fun xs H Q => (∃ i, xs = [.int i] ∧ Q (.int i) H) ∨ ∃ k, xs = [.bl k] ∧ Q (.int (if k then 1 else 0)) H
theorem c_int {X : Cx} : CallR X (.type "int") rInt := call_int1
def rLen (K : PySem.W.Frag) : List V → Hp → VK → Prop := fun xs H Q => ∃ p ys, xs = [.ref p] ∧ (SqL K H p ys ∨ SqT K H p ys) ∧ Q (.int ys.length) H
theorem c_len {X : Cx} : CallR X (.builtin "len") (rLen X.K) := call_len_seq
def rLenS : List V → Hp → VK → Prop := fun xs H Q => ∃ x, xs = [.str x] ∧ x.length ≤ sizeLine ∧ Q (.int x.length) H
theorem c_lenS {X : Cx} : CallR X (.builtin "len") rLenS := call_len_str
section
variable {σ : St} {H : Hp} {Q : VK} {i : Nat} {v x y : V} {K : PySem.W.Frag}
theorem v_inti {a : Int} (q : Q (.int a) H) : rInt [.int a] H Q := .inl ⟨a, rfl, q⟩
theorem v_intb {k : Bool} (q : Q (.int (if k then 1 else 0)) H) : rInt [.bl k] H Q := .inr ⟨k, rfl, q⟩
theorem v_len {p : Addr} {ys : List V} (h : H p = some (.lst ys)) (q : Q (.int ys.length) H) : rLen K [.ref p] H Q := ⟨p, ys, rfl, .inl (SqL.of h), q⟩
theorem v_lenS {l : List Nat} (h : l.length ≤ 1000000) (q : Q (.int l.length) H) : rLenS [.str (tx l)] H Q := ⟨tx l, rfl, by rw [tx_len]; exact szl h, by rw [tx_len]; exact q⟩
end
/-! ### stepping: statements -/
section
variable {σ : St} {H : Hp} {i : Nat} {v : V} {te : TE} {tt u : TT} {t1 t2 : TS} {D : Ends}
theorem s_start {N : List Str} {vs : List V} {t : TS} (s0 : St) (h : start N vs = s0) (q : t D s0 H) : t D (start N vs) H := by rw [h]; exact q
theorem s_seq (q : t1 { D with nx := t2 D } σ H) : tSeq t1 t2 D σ H := q
theorem s_next (q : D.nx σ H) : tNext D σ H := q
theorem s_brk (q : D.bk σ H) : tBreak D σ H := q
theorem s_set (q : te σ H fun v H1 => D.nx (σ.set i (some v)) H1) : tAsg te (gName i) D σ H := q
theorem s_drop (q : te σ H fun _ H1 => D.nx σ H1) : tDrop te D σ H := q
theorem s_ret (q : te σ H D.rt) : tRet te D σ H := q
theorem s_if (q : tt σ H fun b H1 => if b = true then t1 D σ H1 else t2 D σ H1) : tIfS tt t1 t2 D σ H := q
theorem t_test {Q : Bool → Hp → Prop} (q : te σ H fun x H' => ∃ k, x = .bl k ∧ Q k H') : tTest te σ H Q := q
theorem t_B {Q : Bool → Hp → Prop} (q : te σ H fun x H' => ∃ k, x = .bl k ∧ Q k H') : tB te σ H Q := q
theorem t_and {Q : Bool → Hp → Prop} (q : tt σ H fun c H1 => if c = true then u σ H1 Q else Q false H1) : tAnd tt u σ H Q := q
theorem t_or {Q : Bool → Hp → Prop} (q : tt σ H fun c H1 => if c = true then Q true H1 else u σ H1 Q) : tOr tt u σ H Q := q
theorem t_not {Q : Bool → Hp → Prop} (q : tt σ H fun c H1 => Q (!c) H1) : tNot tt σ H Q := q
theorem s_dput {td ty tv : TE} (q : tv σ H fun v H1 => td σ H1 fun x H2 => ty σ H2 fun y H3 => ∃ a H4, x = .ref a ∧ DPut H3 a y v H4 ∧ D.nx σ H4) : sDPut td ty tv D σ H := q
theorem if_dec {c A B : Prop} [Decidable c] (h1 : c → A) (h2 : ¬ c → B) : if decide c = true then A else B := by
  by_cases h : c
  · rw [decide_eq_true h, if_pos rfl]; exact h1 h
  · rw [decide_eq_false h, if_neg Bool.false_ne_true]; exact h2 h
theorem if_ndec {c A B : Prop} [Decidable c] (h1 : ¬ c → A) (h2 : c → B) : if (!decide c) = true then A else B := by
  by_cases h : c
  · rw [decide_eq_true h]; exact iteF (h2 h)
  · rw [decide_eq_false h]; exact iteT (h1 h)
theorem if_bool {b : Bool} {A B : Prop} (h1 : b = true → A) (h2 : b = false → B) : if b = true then A else B := by
  cases b with
  | true => exact iteT (h1 rfl)
  | false => exact iteF (h2 rfl)
end

/-! ### cuts: what follows is shown once -/
section
variable {X : Cx} {σ : St} {H : Hp} {D : Ends} {t u : TS}
def tCutE (te : TE) : TE := fun σ H Q => ∃ Mid : V → Hp → Prop, te σ H Mid ∧ ∀ v H', Mid v H' → Q v H'
theorem pe_cut {e : Expr} {te : TE} (h : PE X e te) : PE X e (tCutE te) := by
  refine ⟨fun pins s σ H Q I q => ?_⟩
  obtain ⟨Mid, hm, hu⟩ := q
  exact thn (h.run pins s σ H Mid I hm) fun u s1 ⟨x, H1, I1, r1, q1⟩ => ⟨x, H1, I1, r1, hu x H1 q1⟩
theorem e_cut {te : TE} {Q : VK} (Mid : V → Hp → Prop) (h : te σ H Mid) (q : ∀ v H', Mid v H' → Q v H') : tCutE te σ H Q := ⟨Mid, h, q⟩
def tCutS (t u : TS) : TS := fun D σ H => ∃ Mid : St → Hp → Prop, t { D with nx := Mid } σ H ∧ ∀ σ' H', Mid σ' H' → u D σ' H'
theorem pss_cutS {st : Stmt} {rest : List Stmt} (h1 : PS X st t) (h2 : PSs X rest u) : PSs X (st :: rest) (tCutS t u) := by
  refine ⟨fun pins s σ H D I h => ?_⟩
  obtain ⟨Mid, hm, hu⟩ := h
  refine wpAny_execs_cons (thn (h1.run pins s σ H { D with nx := Mid } I hm) fun f s1 q => ?_)
  cases f with
  | next =>
    obtain ⟨σ', H', I', q⟩ := q
    exact h2.run pins s1 σ' H' D I' (hu σ' H' q)
  | ret v => exact q
  | brk => exact q
  | cont => exact q
theorem s_cut (Mid : St → Hp → Prop) (h : t { D with nx := Mid } σ H) (q : ∀ σ' H', Mid σ' H' → u D σ' H') : tCutS t u D σ H := ⟨Mid, h, q⟩
end
section
variable {σ : St} {H : Hp} {v y : V}
theorem v_put {P : Hp → Prop} {a : Addr} {o : HO} (h : DPut H a y v (upd H a o)) (q : ∀ H', Keep a H H' → H' a = some o → P H') : ∃ a' H4, V.ref a = .ref a' ∧ DPut H a' y v H4 ∧ P H4 := ⟨a, _, rfl, h, q _ Keep.put upd_same⟩
end
/-! ### data -/
theorem dp_ints {K : PySem.W.Frag} {H : Hp} : ∀ ns : List Int, DpAll K H (ns.map V.int) (ns.map PyData.int)
  | [] => .nil
  | n :: r => .cons (.int n) (dp_ints r)
theorem dp_strs {K : PySem.W.Frag} {H : Hp} : ∀ ns : List Str, DpAll K H (ns.map V.str) (ns.map PyData.str)
  | [] => .nil
  | n :: r => .cons (.str n) (dp_strs r)
theorem lay_ints : ∀ ns : List Int, PyData.canLayAll0 (ns.map PyData.int) = true
  | [] => rfl
  | n :: r => lay_ints r
theorem lay_strs : ∀ ns : List Str, (∀ x ∈ ns, PyData.strOk x = true) → PyData.canLayAll0 (ns.map PyData.str) = true
  | [], _ => rfl
  | n :: r, h => by
    show (PyData.strOk n && PyData.canLayAll0 (r.map PyData.str)) = true
    rw [h n (List.mem_cons_self ..), lay_strs r fun x hx => h x (List.mem_cons_of_mem _ hx)]
    rfl
theorem dep_ints : ∀ ns : List Int, PyData.depthAll (ns.map PyData.int) ≤ 1
  | [] => by decide
  | n :: r => Nat.max_le.mpr ⟨by show PyData.depth (.int n) ≤ 1; simp [PyData.depth], dep_ints r⟩
theorem dep_strs : ∀ ns : List Str, PyData.depthAll (ns.map PyData.str) ≤ 1
  | [] => by decide
  | n :: r => Nat.max_le.mpr ⟨by show PyData.depth (.str n) ≤ 1; simp [PyData.depth], dep_strs r⟩
theorem shaped_ints (ns : List Int) : SeqAt.shaped (.list (ns.map PyData.int)) = true := by
  have h := dep_ints ns
  have h2 : (PyData.list (ns.map PyData.int)).depth ≤ 64 := by simp only [PyData.depth]; omega
  have h3 : (PyData.list (ns.map PyData.int)).canLay0 = true := by simp only [PyData.canLay0]; exact lay_ints ns
  simp [SeqAt.shaped, h2, h3]
theorem shaped_strsT (ns : List Str) (h0 : ∀ x ∈ ns, PyData.strOk x = true) : SeqAt.shaped (.tuple (ns.map PyData.str)) = true := by
  have h := dep_strs ns
  have h2 : (PyData.tuple (ns.map PyData.str)).depth ≤ 64 := by simp only [PyData.depth]; omega
  have h3 : (PyData.tuple (ns.map PyData.str)).canLay0 = true := by simp only [PyData.canLay0]; exact lay_strs ns h0
  simp [SeqAt.shaped, h2, h3]
theorem shaped_nil : SeqAt.shaped (.list []) = true := shaped_ints []
theorem eqv_nil {ds : List PyData} : PyData.eqv (.list ds) (.list []) = ds.isEmpty := by
  cases ds <;> simp [PyData.eqv, PyData.eqvAll]
theorem eqvAll_strs : ∀ (a b : List Str), PyData.eqvAll (a.map PyData.str) (b.map PyData.str) = decide (a = b)
  | [], [] => by simp [PyData.eqvAll]
  | [], _ :: _ => by simp [PyData.eqvAll]
  | _ :: _, [] => by simp [PyData.eqvAll]
  | x :: a, y :: b => by
    simp only [List.map_cons, PyData.eqvAll, PyData.eqv, eqvAll_strs a b]
    by_cases e : x = y
    · subst e; simp
    · simp [e]
section
variable {H : Hp} {Q : VK} {K : PySem.W.Frag} {p q : Addr}
theorem v_neNilI {ns : List Int} (h : H p = some (.lst (ns.map V.int))) (hq : H q = some (.lst [])) (k : Q (.bl (!ns.isEmpty)) H) : rNeD K (.ref p) (.ref q) H Q := by
  refine ⟨.list (ns.map PyData.int), .list [], .lst (SqL.of h) (dp_ints ns), .lst (SqL.of hq) .nil, shaped_ints ns, shaped_nil, ?_⟩
  rw [eqv_nil, List.isEmpty_map]
  exact k
end
theorem ok_tx {l : List Nat} (h : ∀ c ∈ l, c < 1000) : PyData.strOk (tx l) = true := by
  show (l.toArray).all (fun c => decide (c < 0x110000)) = true
  rw [List.all_toArray, List.all_eq_true]
  intro c hc
  have := h c hc
  simp
  omega
theorem wdiv {i m : Int} (h : 0 < m) (h2 : m < 1000000) : CDivW i m := wide_div (b := 20) h (by omega) (by decide) (by decide)
end Cw
set_option Elab.async false
set_option linter.all false
set_option maxRecDepth 100000
set_option maxHeartbeats 4000000
/-! set(text), len(set(..)): a set of texts out of anything that is walked. -/
namespace Cw
open PySem PySem.Spec L2
/-- the different ones, in the order in which they are met -/
def metAdd (l : List Str) (z : Str) : List Str := if z ∈ l then l else l ++ [z]
def metOf (l : List Str) : List Str := l.foldl metAdd []
theorem metAdd_mem {l : List Str} {z y : Str} : y ∈ metAdd l z ↔ y ∈ l ∨ y = z := by
  unfold metAdd
  by_cases h : z ∈ l
  · rw [if_pos h]
    exact ⟨Or.inl, fun k => k.elim id fun e => e ▸ h⟩
  · rw [if_neg h, List.mem_append, List.mem_singleton]
theorem metOf_snoc (l : List Str) (z : Str) : metOf (l ++ [z]) = metAdd (metOf l) z := by
  unfold metOf
  rw [List.foldl_append]
  rfl
theorem metAdd_len (l : List Str) (z : Str) : (metAdd l z).length = if z ∈ l then l.length else l.length + 1 := by
  unfold metAdd
  split <;> simp
theorem metFold_len : ∀ (l acc : List Str), (l.foldl metAdd acc).length ≤ acc.length + l.length
  | [], acc => Nat.le_refl _
  | z :: r, acc => by
    have h1 := metFold_len r (metAdd acc z)
    have h2 := metAdd_len acc z
    rw [List.foldl_cons, List.length_cons]
    split at h2 <;> omega
theorem metOf_len (l : List Str) : (metOf l).length ≤ l.length := by
  have h := metFold_len l []
  simp only [List.length_nil, Nat.zero_add] at h
  exact h
theorem metFold_nodup : ∀ (l acc : List Str), (acc ++ l).Nodup → l.foldl metAdd acc = acc ++ l
  | [], acc, _ => by simp
  | z :: r, acc, h => by
    have hz : ¬ z ∈ acc := fun m => by
      have := (List.nodup_append.mp h).2.2 z m z (List.mem_cons_self ..)
      exact this rfl
    have e : metAdd acc z = acc ++ [z] := by unfold metAdd; rw [if_neg hz]
    rw [List.foldl_cons, e, metFold_nodup r (acc ++ [z]) (by simpa using h)]
    simp
theorem metOf_nodup {l : List Str} (h : l.Nodup) : metOf l = l := by
  unfold metOf
  rw [metFold_nodup l [] (by simpa using h)]
  rfl
/-- fewer, where one comes twice -/
theorem metFold_lt : ∀ (l acc : List Str), acc.Nodup → (¬ l.Nodup ∨ ∃ z, z ∈ l ∧ z ∈ acc) → (l.foldl metAdd acc).length < acc.length + l.length
  | [], acc, _, h => by
    rcases h with h | ⟨z, h, _⟩
    · exact absurd List.nodup_nil h
    · cases h
  | z :: r, acc, ha, h => by
    rw [List.foldl_cons, List.length_cons]
    have hl := metAdd_len acc z
    by_cases hz : z ∈ acc
    · rw [if_pos hz] at hl
      have h1 := metFold_len r (metAdd acc z)
      omega
    · rw [if_neg hz] at hl
      have e : metAdd acc z = acc ++ [z] := by unfold metAdd; rw [if_neg hz]
      have nd : (metAdd acc z).Nodup := by
        rw [e]
        exact nd_snoc ha hz
      have k : ¬ r.Nodup ∨ ∃ y, y ∈ r ∧ y ∈ metAdd acc z := by
        rcases h with h | ⟨y, h1, h2⟩
        · rw [List.nodup_cons] at h
          by_cases hr : z ∈ r
          · exact Or.inr ⟨z, hr, by rw [e]; simp⟩
          · exact Or.inl fun n => h ⟨hr, n⟩
        · rcases List.mem_cons.mp h1 with q | q
          · exact absurd (q ▸ h2) hz
          · exact Or.inr ⟨y, q, by rw [e]; simp [h2]⟩
      have h1 := metFold_lt r (metAdd acc z) nd k
      omega
theorem metOf_lt {l : List Str} (h : ¬ l.Nodup) : (metOf l).length < l.length := by
  have k := metFold_lt l [] List.nodup_nil (Or.inl h)
  simp only [List.length_nil, Nat.zero_add] at k
  exact k
/-- the set at a holds just the texts of l -/
abbrev SetIs (P : Program) (w : World) (h : Heap) (a : Addr) (l : List Str) : Prop := h.SetOf (PySem.strKind P w) a (fun z => decide (z ∈ l)) l.length
theorem SetIs.at {P : Program} {w : World} {h h' : Heap} {a : Addr} {l : List Str} (R : SetIs P w h a l) (k : ∀ o, h.get? a = some o → h'.get? a = some o) : SetIs P w h' a l := by
  obtain ⟨o, es, ep, t, ho, r⟩ := R
  exact ⟨o, es, ep, t, k o ho, r⟩
section
variable {P : Program} {w : World} {A : Around} {R : Result → Shared → Prop} {J : Addr} {fp wr : List Addr} {n : Nat} {Y : Nat → Value → Prop} {St : Nat → Heap → Prop}
theorem set_loop (W : Walks P w A.in1 J fp wr n Y St) (S : Addr) (hS : S ∉ fp) (xs : List Str) (hn : xs.length = n) (hy : ∀ i v, Y i v → ∃ x t, xs[i]? = some x ∧ v = .str x t) (hb : n + 1 < scanBound) :
    ∀ (k i : Nat) (s : Shared), n - i = k → i ≤ n → St i s.heap → SetIs P w s.heap S (metOf (xs.take i)) →
      (∀ h' tk, (∀ b o, b ∉ S :: wr → s.heap.get? b = some o → h'.get? b = some o) → SetIs P w h' S (metOf xs) → R (.ok (.ret .none)) { s with heap := h', toks := tk }) →
      codeAny (model P w) A (.builtin "set.update.loop" ⟨[.ref S, .ref J], []⟩) R s := by
  have hw : S ∉ wr := fun h => hS (W.sub _ h)
  intro k
  induction k with
  | zero =>
    intro i s hk hi st hset q
    have e : i = n := by omega
    subst e
    refine codeAny_builtin PyProof.Rows.F.entry_set_update_loop ?_
    rw [Around.under_plainId PyProof.Rows.F.plain_set_update_loop _]
    show wpAny _ A.in1 (pyNext (.ref J) >>= _) _ _ s
    refine wpAny_bind (W.done s _ _ st fun h' tk kp => ?_)
    show wpAny _ A.in1 (ret Value.none) _ _ _
    refine wpAny_pure (q h' tk (fun b o nb eb => kp b o (fun z => nb (List.mem_cons_of_mem _ z)) eb) ?_)
    rw [List.take_of_length_le (by omega)] at hset
    exact hset.at fun o eo => kp S o hw eo
  | succ k ih =>
    intro i s hk hi st hset q
    have hlt : i < n := by omega
    refine codeAny_builtin PyProof.Rows.F.entry_set_update_loop ?_
    rw [Around.under_plainId PyProof.Rows.F.plain_set_update_loop _]
    show wpAny _ A.in1 (pyNext (.ref J) >>= _) _ _ s
    refine wpAny_bind (W.item i s _ _ hlt st fun v h1 tk hv st1 kp => ?_)
    obtain ⟨x, t, hx, rfl⟩ := hy i v hv
    have hset1 := hset.at (h' := h1) fun o eo => kp S o hw eo
    show wpAny _ A.in1 (holding [Value.str x t] (setAdd S (.str x t)) >>= _) _ _ _
    refine wpAny_bind (wpAny_holding ?_)
    unfold setAdd
    refine wpAny_holding (wpAny_bind ((PySem.strKind P w).pyHash (k := x) (strKind_is _ _ _ _) ?_))
    have hroom : (metOf (xs.take i)).length + 1 < scanBound := by
      have h2 := metOf_len (xs.take i)
      rw [List.length_take] at h2
      omega
    refine wpAny_setAddHashed_of (knd := PySem.strKind P w) (s := { heap := h1, gens := s.gens, drawn := s.drawn, toks := tk + 1, os := s.os }) (strKind_is _ _ _ _) rfl hset1 hroom fun h2 sb hset2 => ?_
    have e1 : xs.take (i + 1) = xs.take i ++ [x] := by
      rw [List.take_add_one, hx]
      rfl
    have hset3 : SetIs P w h2 S (metOf (xs.take (i + 1))) := by
      refine PyProof.Rows.SetOf_congr hset2 (fun z => ?_) ?_
      · rw [e1, metOf_snoc, Bool.eq_iff_iff]
        simp only [Bool.or_eq_true, decide_eq_true_eq]
        exact metAdd_mem.symm
      · rw [e1, metOf_snoc, metAdd_len]
        simp only [decide_eq_true_eq]
    refine wpAny_pure ⟨plainId_quiet PyProof.Rows.F.plain_set_update_loop _, ih (i + 1) _ (by omega) hlt (W.frame _ _ _ st1 fun b hb o eo => ?_) hset3 fun h3 tk3 kp3 hs3 => ?_⟩
    · rw [sb.2 b fun z => hS (z ▸ hb)]
      exact eo
    · refine q h3 tk3 (fun b o nb eb => kp3 b o nb ?_) hs3
      show h2.get? b = some o
      rw [sb.2 b fun z => nb (z ▸ List.mem_cons_self ..)]
      exact kp b o (fun z => nb (List.mem_cons_of_mem _ z)) eb
end

/-! ### the call -/
abbrev freshSet (b : Bool) : Obj := { cls := .type "set", dict := none, data := .set #[] 0 (.fresh 0 0 b) }
section
variable {P : Program} {w : World} {A : Around} {E : Value → Shared → Prop} {s : Shared}
theorem set_of_text {x : Str} {t : Tok} {Q : Value → Shared → Prop} (hh : A.handled = none) (hb : x.cps.size + 1 < scanBound)
    (h : ∀ (h' : Heap) (tk : Nat), SetIs P w h' s.heap.objs.size (metOf (x.cps.toList.map fun c => (⟨#[c]⟩ : Str))) → (∀ b o, b < s.heap.objs.size → s.heap.get? b = some o → h'.get? b = some o) → Q (.ref s.heap.objs.size) { s with heap := h', toks := tk }) :
    wpAny (model P w) A (call (.type "set") [.str x t]) Q E s := by
  obtain ⟨c, tl, hmro⟩ := PySem.F.called_set.mro
  have hmade := PySem.F.called_set.made
  have hsub := PySem.F.called_set.sub
  refine wpAny_call (codeAny_of_tree ?_)
  show wpAny _ _ (callAny (.type "set") _) _ _ _
  refine wpAny_pure ⟨Code.quiet_builtin _ (by decide +kernel), codeAny_builtin PySem.F.entry_type_call ?_⟩
  rw [Around.under_plain (weight_type_call_type "set" [.str x t] []) rfl]
  have h1 := PySem.F.called_set.notType
  have h2 := PySem.F.called_set.canCreate
  have hct := PySem.F.typeCall_set_1 (.str x t)
  repeat (any_goals (first | assumption | wp_step))
  refine codeAny_mono (code_set_new_1 (.str x t) (E := E) (Q₁ := fun obj s1 => ∃ b : Bool, obj = .ref s.heap.objs.size ∧ s1 = { s with heap := s.heap.push (freshSet b) }) fun b => ⟨b, rfl, rfl⟩) fun r s1 hr => ?_
  cases r with
  | error e => exact hr
  | ok fl =>
    cases fl with
    | ret obj =>
      obtain ⟨b, rfl, rfl⟩ := hr
      have hS : (s.heap.push (freshSet b)).get? s.heap.objs.size = some (freshSet b) := Heap.get?_push_size _ rfl
      have hT : Shared.TypeIs { s with heap := s.heap.push (freshSet b) } (.ref s.heap.objs.size) "set" := ⟨_, hS, rfl⟩
      have hli := PySem.F.called_set.init.lookup
      have hbi := PySem.F.called_set.init.bind (.ref s.heap.objs.size)
      repeat (any_goals (first | assumption | wp_step))
      refine codeAny_mono (codeAny_call_builtin (R := wants (fun r s2 => r = .none ∧ ∃ h' tk, s2 = { s with heap := h', toks := tk } ∧ SetIs P w h' s.heap.objs.size (metOf (x.cps.toList.map fun c => (⟨#[c]⟩ : Str))) ∧
          (∀ b o, b < s.heap.objs.size → s.heap.get? b = some o → h'.get? b = some o)) E) PySem.F.called_set.init.plain PySem.F.entry_set_init (check_set_init_1 hT ?_)) fun r2 s2 hr2 => ?_
      · have k1 := F.sub_str_set
        have k2 := F.sub_str_frozenset
        have k3 : (Value.type "str" == Value.type "dict") = false := by decide
        unfold Builtin.«set.__init__» noKeywords Builtin.Frozenset.updateFrom
        generalize hPI : pyIter = PI
        wp_walk
        subst hPI
        refine wpAny_pyIter_str fun ob St hw st => ?_
        refine wpAny_bind (wpAny_runValue ?_)
        have hh3 : A.in1.in1.in1.handled = none := by simp [hh]
        have hne : s.heap.objs.size ∉ [(s.heap.push (freshSet b)).objs.size] := by
          rw [Heap.size_push, List.mem_singleton]
          exact Nat.ne_of_lt (Nat.lt_succ_self _)
        refine set_loop (hw _ hh3) s.heap.objs.size hne (x.cps.toList.map fun c => (⟨#[c]⟩ : Str)) (by simp) (fun i v hv => ?_) hb _ 0 _ rfl (Nat.zero_le _) st ?_ fun h' tk kp hs => ?_
        · obtain ⟨c, u, hc, rfl⟩ := hv
          exact ⟨⟨#[c]⟩, u, by simp [hc], rfl⟩
        · have hg : ((s.heap.push (freshSet b)).push ob).get? s.heap.objs.size = some (freshSet b) := Heap.get?_push_of_some _ hS
          exact PyProof.Rows.SetOf_congr ((PyProof.Rows.setObjOf_fresh (knd := PySem.strKind P w) b).setOf hg (by unfold scanBound; omega)) (fun z => by simp [metOf]) rfl
        · refine wpAny_pure ?_
          show wpAny _ _ (ret Value.none) _ _ _
          refine wpAny_pure ⟨rfl, h', tk, rfl, hs, fun a o ha eo => kp a o ?_ (Heap.get?_push_of_some _ (Heap.get?_push_of_some _ eo))⟩
          rw [Heap.size_push]
          simp only [List.mem_cons, List.not_mem_nil, or_false, not_or]
          exact ⟨Nat.ne_of_lt ha, Nat.ne_of_lt (Nat.lt_succ_of_lt ha)⟩
      · cases r2 with
        | error e => exact hr2
        | ok fl2 =>
          cases fl2 with
          | ret r =>
            obtain ⟨rfl, h', tk, rfl, hs', hk'⟩ := hr2
            repeat (any_goals (first | assumption | wp_step))
            exact h _ _ hs' hk'
          | _ => exact hr2.elim
    | _ => exact hr.elim
end
/-! ### over the layer -/
/-- a set of texts -/
def SetT (P : Program) (w : World) (a : Addr) (l : List Str) : HO := .ext fun h => SetIs P w h a l
theorem setT_new {P : Program} {w : World} {H : Hp} {h : Heap} {a : Addr} {l : List Str} (R : SetIs P w h a l) : ObjOk P w H h a (SetT P w a l) := by
  have ⟨o, _, _, _, ho, _⟩ := R
  exact ⟨R, ⟨o, ho⟩, fun h1 h2 q k => SetIs.at q k⟩
def rSetTx (P : Program) (w : World) : List V → Hp → VK → Prop := fun xs H Q => ∃ l : List Nat, xs = [.str (tx l)] ∧ l.length + 1 < scanBound ∧ ∀ p, H p = none → Q (.ref p) (upd H p (SetT P w p (metOf (l.map fun c => tx [c]))))
def rLenSet (P : Program) (w : World) : List V → Hp → VK → Prop := fun xs H Q => ∃ (p : Addr) (l : List Str), xs = [.ref p] ∧ H p = some (SetT P w p l) ∧ Q (.int l.length) H
section
variable {X : Cx}
theorem c_setS (hc : X.calm = true) : CallR X (.type "set") (rSetTx X.prog X.w) := by
  intro pins s σ H xs us Q I r h
  obtain ⟨l, rfl, hl, q⟩ := h
  obtain ⟨u, rfl, t, rfl⟩ := vals1 r
  refine set_of_text (I.ok.hd hc) (by simpa using hl) fun h' tk hs hk => ?_
  have hp : H s.heap.objs.size = none := I.hok.fresh (Nat.le_refl _)
  refine ⟨.ref s.heap.objs.size, upd H s.heap.objs.size (SetT X.prog X.w s.heap.objs.size (metOf (l.map fun c => tx [c]))), I.laid (h' := h') (t' := tk) (fun b o e => hk b o (Heap.lt_size e) e) (Nat.le_refl _) (setT_new ?_), rfl, q _ hp⟩
  simpa using hs
theorem c_lenSet : CallR X (.builtin "len") (rLenSet X.prog X.w) := by
  intro pins s σ H xs us Q I r h
  obtain ⟨p, l, rfl, hp, q⟩ := h
  obtain ⟨u, rfl, ru⟩ := vals1 r
  cases ru
  have hs : SetIs X.prog X.w s.heap p l := (I.hok p _ hp).1
  obtain ⟨o, es, ep, t, ho, hex, hd, h1, h2, h3, hf, hn⟩ := hs
  refine call_len_set ho hex hd hf ?_ ⟨.int l.length, H, I.tok _, ⟨_, by rw [hn]⟩, q⟩
  have : es.size < scanBound := h3
  unfold scanBound at this
  omega
end
theorem v_setS {P : Program} {w : World} {H : Hp} {Q : VK} {l : List Nat} (h : l.length < 1000) (q : ∀ p H', H p = none → Same H H' → H' p = some (SetT P w p (metOf (l.map fun c => tx [c]))) → Q (.ref p) H') : rSetTx P w [.str (tx l)] H Q :=
  ⟨l, rfl, by unfold scanBound; omega, fun p hp => q p _ hp (Same.new hp) upd_same⟩
theorem v_lenSet {P : Program} {w : World} {H : Hp} {Q : VK} {p : Addr} {l : List Str} (h : H p = some (SetT P w p l)) (q : Q (.int l.length) H) : rLenSet P w [.ref p] H Q := ⟨p, l, rfl, h, q⟩
end Cw
set_option Elab.async false
set_option linter.all false
set_option maxRecDepth 100000
set_option maxHeartbeats 4000000
/-! operators of classes of one's own -/
namespace PySem.W
open PySem PySem.Calls PyProof.Rows Builtin
section
variable {prog : Program} {w : World} {A : Around} {E : Value → Shared → Prop} {s : Shared} {K : Frag} {x C L f : Addr} {h0 : Heap} {m : Str → Option Value} {ox : Obj} {od : Option Obj} {b tb : Value}
theorem ifBound_obj {M : Model} {args : List Value} {name : Str} {id : String} {Q : Option Value → Shared → Prop} (X : K.In s.heap) (I : InstAt s.heap x ox C od) (hs : findIn K (.ref C) name = some (some (.builtin id)))
    (hbd : ∀ v, bindSpecial (.builtin id) v = pure (.builtin id, [v])) (h : wpAny M A (call (.builtin id) (.ref x :: args)) (fun v => Q (some v)) E s) : wpAny M A (callSpecialIfBound? (.ref x) name args) Q E s := by
  simp only [callSpecialIfBound?, bindSpecialIfBound?]
  refine wpAny_holding (wpAny_bind (wpAny_bind (wpAny_bind (I.type.here ((looks_findIn X hs).here ?_)))))
  have e := hbd (.ref x)
  simp only [e]
  have k : wpAny M A (call (.builtin id) ([.ref x] ++ args) >>= fun v => pure (some v)) Q E s := wpAny_bind (wpAny_mono h (fun _ _ z => wpAny_pure z) fun _ _ z => z)
  refine wpAny_bind (wpAny_askSetting (wpAny_ite ?_))
  split
  · exact wpAny_bind (wpAny_pure (wpAny_pure k))
  · exact wpAny_tryCatch (wpAny_bind (wpAny_pure (wpAny_pure k)))
theorem check_obj {M : Model} {id owner n : String} {rest : List Value} {Q : Unit → Shared → Prop} (X : K.In s.heap) (I : InstAt s.heap x ox C od) (hk : builtinKind id = some .slot) (hs : splitId id = some (owner, n))
    (ha : argsOk id ⟨.ref x :: rest, []⟩) (ho : subIn K (.ref C) (.type owner) = some true) (q : Q () s) : wpAny M A (checkBuiltinCall id ⟨.ref x :: rest, []⟩) Q E s := by
  simp only [checkBuiltinCall, hk, hs]
  unfold isInstance
  refine wpAny_bind (wpAny_bind (I.type.here ((looks_subIn X ho).here ?_)))
  rw [if_neg (by simp)]
  cases hsig : Manifest.signature? id with
  | none => exact wpAny_pure q
  | some sig =>
    simp only [argsOk, hsig] at ha
    have h2 : Bind.checkArgs id sig ⟨.ref x :: rest, []⟩ = pure () := ha
    show wpAny M A (Bind.checkArgs id sig ⟨.ref x :: rest, []⟩) Q E _
    rw [h2]
    exact wpAny_pure q
theorem neBody (X : K.In s.heap) (I : InstAt s.heap x ox C od) (hu : A.units < cLine) (hs : findIn K (.ref C) "__eq__" = some (some (.ref f))) (hf : isFn K (.ref f) = true) {Q : Fin → Shared → Prop}
    (h : wpAny (model prog w) A (call (.ref f) [.ref x, b]) (fun v s' => ∃ r, v = .bool r ∧ Q (.done (.ret (.bool (!r)))) s') E s) : wpAny (model prog w) A (Builtin.«object.__ne__» ⟨[.ref x, b], []⟩) Q E s := by
  unfold Builtin.«object.__ne__»
  refine wpAny_bind (m := slotArgs "__ne__" 1 _) (wpAny_pure ?_)
  refine wpAny_bind (wpAny_cRoomFor hu ?_)
  refine wpAny_bind (m := callSpecialIfBound? (.ref x) (Str.ofString "__eq__") [b]) (ifBound_K X I hs hf (wpAny_mono h (fun v s' z => ?_) fun _ _ z => z))
  obtain ⟨r, rfl, z⟩ := z
  exact wpAny_bind (wpAny_truthy_bool (wpAny_pure z))
/-- != of an object whose class has its own == and no != -/
theorem ne_own {Q : Value → Shared → Prop} (hu : A.units + 1 < cLine) (F : Fr h0 L s.heap m) (X0 : K.In h0) (I : InstAt s.heap x ox C od) (hb : Looks (model prog w) s.heap (typeOf b) tb) (hn : notFirst K C tb = true)
    (hne : findIn K (.ref C) "__ne__" = some (some (.builtin "object.__ne__"))) (ho : subIn K (.ref C) (.type "object") = some true) (hs : findIn K (.ref C) "__eq__" = some (some (.ref f))) (hf : isFn K (.ref f) = true)
    (h : wpAny (model prog w) A.in1 (call (.ref f) [.ref x, b]) (fun v s' => ∃ r, v = .bool r ∧ Q (.bool (!r)) s') E s) : wpAny (model prog w) A (richCompare .NotEq (.ref x) b) Q E s := by
  have X := X0.keeps F.keep
  have pl : plainId "object.__ne__" = true := by decide +kernel
  have one : wpAny (model prog w) A (tryCompare (.ref x) (cmpInfo .NotEq).2.1 b) (fun r s' => ∃ v, r = some v ∧ Q v s') E s := by
    unfold tryCompare
    refine wpAny_bind (ifBound_obj X I (id := "object.__ne__") hne (fun v => ?_) ?_)
    · exact (PySem.F.slot_tuple_iterator_ne).bind v
    · refine wpAny_call (codeAny_call_builtin pl PySem.F.cmpEntry_ne (check_obj X I PySem.F.cmpKind_ne PySem.F.cmpSplit_ne (PySem.F.cmpArgs_ne _ _) ho ?_))
      refine neBody (A := A.in1) X I hu hs hf (wpAny_mono h (fun v s' z => ?_) fun _ _ z => z)
      obtain ⟨r, rfl, z⟩ := z
      exact ⟨r, rfl, wpAny_pure ⟨_, rfl, z⟩⟩
  unfold richCompare
  simp only [oneThing_ref]
  refine wpAny_holding (wpAny_bind (wpAny_cRoomFor (Nat.lt_of_succ_lt hu) ?_))
  refine wpAny_bind (I.type.here (wpAny_bind (hb.here ?_)))
  have k : ∀ z : Bool, z = false → wpAny (model prog w) A (tryCompare (.ref x) (cmpInfo .NotEq).2.1 b) (fun r s' => ∃ v, r = some v ∧ Q v s') E s := fun _ _ => one
  split
  · rename_i q
    have e : subIn K tb (.ref C) = some false := by
      rcases Bool.or_eq_true_iff.mp hn with e | e
      · rw [beq_iff_eq.mp e] at q; simp at q
      · exact beq_iff_eq.mp e
    refine wpAny_bind ((looks_subIn X e).here ?_)
    simp only [Bool.false_eq_true, if_false]
    refine wpAny_bind (wpAny_mono one (fun r s' z => ?_) fun _ _ e => e)
    obtain ⟨v, rfl, z⟩ := z
    exact wpAny_pure z
  · refine wpAny_bind (wpAny_pure ?_)
    simp only [Bool.false_eq_true, if_false]
    refine wpAny_bind (wpAny_mono one (fun r s' z => ?_) fun _ _ e => e)
    obtain ⟨v, rfl, z⟩ := z
    exact wpAny_pure z
end
end PySem.W
set_option Elab.async false
set_option linter.all false
set_option maxRecDepth 100000
set_option maxHeartbeats 4000000
namespace Cw
open PySem PySem.Spec L2
/-! ### methods -/
structure MAt (K : PySem.W.Frag) (C : Addr) (m qual : Str) (st : Stmt) : Prop where
  ex : ∃ f fd, PySem.W.findIn K (.ref C) m = some (some (.ref f)) ∧ PySem.W.isFn K (.ref f) = true ∧ Fun K m qual st f fd
structure MDef (P : Program) (w : World) (K : PySem.W.Frag) (mg : Str → Option Value) (base : Heap) (CX : CXT) (k : Nat) (C : Addr) (m : Str) (ps : List Str) (sp : Sp) : Prop where
  ex : ∃ f fd, PySem.W.findIn K (.ref C) m = some (some (.ref f)) ∧ PySem.W.isFn K (.ref f) = true ∧ PySem.W.keepIn K (.ref f) = true ∧ Bd K f fd ps ∧ FnOk P w K mg base CX k f fd ps sp
section
variable {P : Program} {w : World} {K : PySem.W.Frag} {mg : Str → Option Value} {base : Heap} {CX : CXT} {k : Nat} {C : Addr} {m qual : Str} {ps N : List Str} {sp : Sp} {st : Stmt}
theorem MDef.mono {j : Nat} (D : MDef P w K mg base CX j C m ps sp) (h : j ≤ k) : MDef P w K mg base CX k C m ps sp := by
  obtain ⟨f, fd, a, b, c, d, e⟩ := D.ex
  exact ⟨f, fd, a, b, c, d, e.mono h⟩
theorem MDef.imp {sp' : Sp} (D : MDef P w K mg base CX k C m ps sp) (h : ∀ vs H Q E, sp' vs H Q E → sp vs H Q E) : MDef P w K mg base CX k C m ps sp' := by
  obtain ⟨f, fd, a, b, c, d, e⟩ := D.ex
  exact ⟨f, fd, a, b, c, d, e.imp h⟩
theorem MAt.ok (F : MAt K C m qual st) (S : FnScope N ps (defScope st))
    (hb : ∀ (kV doc pm : Value) (an : Option Addr) (cdv ct : Value) (us : List Value), us.length = ps.length → bindArgs (PySem.W.fnOf m qual (defArgs st) (defBody st) (defScope st) .none kV doc pm an cdv ct) ⟨us, []⟩ = pure (ps.zip us))
    (len : ∀ vs H Q E, sp vs H Q E → vs.length = ps.length)
    (hbody : ∀ (f : Addr) (cdv : Value) (A : Around) (outer : List Env) (s : Shared) (H : Hp) (vs : List V) (Q : VK) (E : XK), Room k (A.deeper (PyProof.Rows.envOfC qual (defScope st) s.heap.objs.size f cdv)) → sp vs H Q E →
      ∃ t, PSs (cxOf CX0 P w K mg base N qual (defScope st) f cdv A outer s H E).nox (defBody st) t ∧ t { nx := fun _ H' => Q .non H', rt := Q } (start N vs) H) : MDef P w K mg base CX0 (k + 1) C m ps sp := by
  obtain ⟨f, fd, h1, h2, F⟩ := F.ex
  exact ⟨f, fd, h1, h2, F.kp, ⟨F.binds hb, funLk F⟩, F.ok S len fun cdv A outer s H vs Q E hr h => hbody f cdv A outer s H vs Q E hr h⟩
theorem MAt.okX (F : MAt K C m qual st) (S : FnScope N ps (defScope st))
    (hb : ∀ (kV doc pm : Value) (an : Option Addr) (cdv ct : Value) (us : List Value), us.length = ps.length → bindArgs (PySem.W.fnOf m qual (defArgs st) (defBody st) (defScope st) .none kV doc pm an cdv ct) ⟨us, []⟩ = pure (ps.zip us))
    (len : ∀ vs H Q E, sp vs H Q E → vs.length = ps.length)
    (hbody : ∀ (f : Addr) (cdv : Value) (A : Around) (outer : List Env) (s : Shared) (H : Hp) (vs : List V) (Q : VK) (E : XK), Room k (A.deeper (PyProof.Rows.envOfC qual (defScope st) s.heap.objs.size f cdv)) → sp vs H Q E →
      ∃ t, PSs (cxOf (L2.CX P w) P w K mg base N qual (defScope st) f cdv A outer s H E) (defBody st) t ∧ t { nx := fun _ H' => Q .non H', rt := Q } (start N vs) H) : MDef P w K mg base (L2.CX P w) (k + 1) C m ps sp := by
  obtain ⟨f, fd, h1, h2, F⟩ := F.ex
  exact ⟨f, fd, h1, h2, F.kp, ⟨F.binds hb, funLk F⟩, F.okX S len fun cdv A outer s H vs Q E hr h => hbody f cdv A outer s H vs Q E hr h⟩
end
section
variable {X : Cx} {CX : CXT} {k : Nat} {C : Addr} {m : Str} {ps : List Str} {sp : Sp} {E : XK} {pos apos : PySem.Pos} {o e : Expr} {es : List Expr} {ta : TE} {t : TA}
theorem pe_md {pl : Sem Bool} (D : MDef X.prog X.w X.K X.mg X.base CX k C m ps sp) (c : Cls X.K C) (hr : Room k X.A) (hx : Passes CX X E) (he : PE X o ta) (ha : PA X (e :: es) t)
    (hst : starEach (e :: es) X.env = (false, eval e X.env) :: starEach es X.env := by rfl) (hpl : (backTo pos (starEach es X.env)).any (·.1) = false := by rfl)
    (ht : eval (.Call (.Attribute o m apos) (e :: es) [] pos) X.env = (do
      let ov ← eval o X.env
      standAt apos.atName
      let (f, first) ← holding [ov] (getMethod ov m pl)
      callWith pos f first (backTo pos (starEach (e :: es) X.env)) (backToKw pos (keywordEach [] X.env))) := by rfl) :
    PE X (.Call (.Attribute o m apos) (e :: es) [] pos) (tMeth C m sp [] E ta t) := by
  obtain ⟨f, fd, a, b, kp, ⟨d, _⟩, g⟩ := D.ex
  exact pe_meth (pl := pl) he c ⟨a, b, kp⟩ g hr d .nil hx ha hst hpl ht
/-- two instances of the class at C, by its own operator -/
def rM2 (C : Addr) (sp : Sp) (E : XK) : R2 := fun x y H Q => ∃ a b dx dy fs gs, x = .ref a ∧ y = .ref b ∧ H a = some (.ins C dx fs) ∧ H b = some (.ins C dy gs) ∧ sp [.ref a, .ref b] H Q E
def rM2n (C : Addr) (sp : Sp) (E : XK) : R2 := fun x y H Q => ∃ a b dx dy fs gs, x = .ref a ∧ y = .ref b ∧ H a = some (.ins C dx fs) ∧ H b = some (.ins C dy gs) ∧ sp [.ref a, .ref b] H (fun v H' => ∃ r, v = .bl r ∧ Q (.bl (!r)) H') E
theorem op_cmpM {op : CmpOp} (hop : ∀ u v, compareOp op u v = richCompare op u v) (D : MDef X.prog X.w X.K X.mg X.base CX k C (cmpInfo op).2.1 ps sp) (hr : Room k X.A) (hx : Passes CX X E) : OpR X (compareOp op) (rM2 C sp E) := by
  obtain ⟨f, fd, h1, h2, kp, ⟨hb, _⟩, F⟩ := D.ex
  intro pins s σ H x y v u Q I rx ry h
  obtain ⟨a, b, dx, dy, fs, gs, rfl, rfl, ha, hb', hq⟩ := h
  cases rx
  cases ry
  obtain ⟨mA, J, _⟩ := ins_get I.hok ha
  obtain ⟨mB, J', _⟩ := ins_get I.hok hb'
  obtain ⟨od, J, _⟩ := J.look
  obtain ⟨od', J', _⟩ := J'.look
  obtain ⟨mm, hF⟩ := I.fr
  rw [hop]
  refine PySem.W.cmp_K (op := op) (tb := .ref C) hr.units0 hF I.ok.mod.kin J J'.type (by simp [PySem.W.notFirst]) h1 h2 ?_
  have z := run_fn (us := [.ref a, .ref b]) (vs := [.ref a, .ref b]) (dvs := []) F hr hb .nil hx I (.cons rfl (.cons rfl .nil)) hq
  refine wpAny_mono z (fun v s' q => ?_) fun _ _ q => q
  obtain ⟨y, H', I', r, q⟩ := q
  have k : EP X pins σ Q v s' := ⟨y, H', I', r, q⟩
  cases v <;> first | exact k | (exfalso; cases y <;> first | (obtain ⟨_, r⟩ := r; cases r) | cases r)
theorem op_neM (D : MDef X.prog X.w X.K X.mg X.base CX k C "__eq__" ps sp) (hne : PySem.W.findIn X.K (.ref C) "__ne__" = some (some (.builtin "object.__ne__"))) (ho : PySem.W.subIn X.K (.ref C) (.type "object") = some true)
    (hr : Room (k + 1) X.A) (hx : Passes CX X E) : OpR X (compareOp .NotEq) (rM2n C sp E) := by
  obtain ⟨f, fd, h1, h2, kp, ⟨hb, _⟩, F⟩ := D.ex
  intro pins s σ H x y v u Q I rx ry h
  obtain ⟨a, b, dx, dy, fs, gs, rfl, rfl, ha, hb', hq⟩ := h
  cases rx
  cases ry
  obtain ⟨mA, J, _⟩ := ins_get I.hok ha
  obtain ⟨mB, J', _⟩ := ins_get I.hok hb'
  obtain ⟨od, J, _⟩ := J.look
  obtain ⟨od', J', _⟩ := J'.look
  obtain ⟨mm, hF⟩ := I.fr
  show wpAny (model X.prog X.w) X.A (richCompare .NotEq _ _) _ _ _
  refine PySem.W.ne_own (tb := .ref C) (hu_of hr) hF I.ok.mod.kin J J'.type (by simp [PySem.W.notFirst]) hne ho h1 h2 ?_
  have hl := F.len _ _ _ _ hq
  have r2 : Vals [V.ref a, V.ref b] [Value.ref a, Value.ref b] := .cons rfl (.cons rfl .nil)
  refine wpAny_call (codeAny_mono (F.run X.A.in1 X.stack s H ⟨[.ref a, .ref b], []⟩ [.ref a, .ref b] [.ref a, .ref b] _ E hr.in1 I.env0.in1 (by
    have := hb s [.ref a, .ref b] I.kIn (by simpa using hl)
    simpa using this) r2 hq) fun r s' hq => ?_)
  cases r with
  | error e => exact hx pins σ H s e s' I hq
  | ok fl =>
    cases fl with
    | ret w =>
      obtain ⟨z, H', I', rz, r, ez, q⟩ := I.after hq
      subst ez
      cases rz
      exact ⟨r, rfl, ⟨.bl (!r), H', I', rfl, q⟩⟩
    | next => exact False.elim hq
    | brk => exact False.elim hq
    | cont => exact False.elim hq
/-- len(o) -/
def rLenM (C : Addr) (sp : Sp) (E : XK) : List V → Hp → VK → Prop := fun xs H Q => ∃ a dx fs, xs = [.ref a] ∧ H a = some (.ins C dx fs) ∧ sp [.ref a] H (fun v H' => ∃ n : Nat, v = .int n ∧ n < 1000000 ∧ Q (.int n) H') E
end
section
variable {C : Addr} {sp : Sp} {E : XK} {H : Hp} {Q : VK} {a b dx dy : Addr} {fs gs : List (Str × V)}
theorem v_M2 (ha : H a = some (.ins C dx fs)) (hb : H b = some (.ins C dy gs)) (q : sp [.ref a, .ref b] H Q E) : rM2 C sp E (.ref a) (.ref b) H Q := ⟨a, b, dx, dy, fs, gs, rfl, rfl, ha, hb, q⟩
theorem v_M2n (ha : H a = some (.ins C dx fs)) (hb : H b = some (.ins C dy gs)) (q : sp [.ref a, .ref b] H (fun v H' => ∃ r, v = .bl r ∧ Q (.bl (!r)) H') E) : rM2n C sp E (.ref a) (.ref b) H Q := ⟨a, b, dx, dy, fs, gs, rfl, rfl, ha, hb, q⟩
theorem v_lenM (ha : H a = some (.ins C dx fs)) (q : sp [.ref a] H (fun v H' => ∃ n : Nat, v = .int n ∧ n < 1000000 ∧ Q (.int n) H') E) : rLenM C sp E [.ref a] H Q := ⟨a, dx, fs, rfl, ha, q⟩
end
end Cw
set_option Elab.async false
set_option linter.all false
set_option maxRecDepth 100000
set_option maxHeartbeats 4000000
namespace Cw
open PySem PySem.Spec L2
/-! ### texts as lists of codes: operators -/
def rTAdd : R2 := fun x y H Q => ∃ a b : List Nat, x = .str (tx a) ∧ y = .str (tx b) ∧ a.length + b.length ≤ 1000000 ∧ Q (.str (tx (a ++ b))) H
def rTLt : R2 := fun x y H Q => ∃ a b : List Nat, x = .str (tx a) ∧ y = .str (tx b) ∧ Q (.bl (decide (a < b))) H
section
variable {X : Cx}
theorem op_addS : OpR X (binaryOp .Add) rTAdd := by
  intro pins s σ H x y v u Q I rx ry h
  obtain ⟨a, b, rfl, rfl, hl, q⟩ := h
  refine op_add_str pins s σ H _ _ v u Q I rx ry ⟨tx a, tx b, rfl, rfl, ?_, ?_⟩
  · rw [tx_len, tx_len]; exact szl hl
  · rw [tx_app]; exact q
theorem op_ltS : OpR X (compareOp .Lt) rTLt := by
  intro pins s σ H x y v u Q I rx ry h
  obtain ⟨a, b, rfl, rfl, q⟩ := h
  exact op_lt_str pins s σ H _ _ v u Q I rx ry ⟨tx a, tx b, rfl, rfl, by simpa using q⟩
/-- text[::-1] -/
def tRevS (te : TE) : TE := fun σ H Q => te σ H fun x H1 => ∃ l : List Nat, x = .str (tx l) ∧ l.length ≤ 1000000 ∧ Q (.str (tx l.reverse)) H1
theorem pe_revS {e : Expr} {te : TE} {k : Nat} {p1 p2 p3 pos : PySem.Pos} (he : PE X e te) : PE X (.Subscript e (.Slice none none (some (.UnaryOp .USub (.Constant (.int 1) k p1) p2)) p3) pos) (tRevS te) := by
  refine ⟨fun pins s σ H Q I h => ?_⟩
  refine PyProof.Rows.Subscript_ (thn (he.run pins s σ H _ I h) fun v s1 ⟨x, H1, I1, r1, l, ex, hl, q⟩ => ?_)
  subst ex
  obtain ⟨t, rfl⟩ := r1
  have hst : PO X (some (.UnaryOp .USub (.Constant (.int 1) k p1) p2)) (tPart (tUn (rU fun i => .int (-i)) (tC (.int 1)))) := po_some (pe_un un_neg pe_int)
  refine wpAny_Slice (thn (po_none.run pins s1 σ H1 (fun o H2 => o = none ∧ H2 = H1) I1 ⟨rfl, rfl⟩) fun vl s2 ⟨o1, H2, I2, w1, e1, e2⟩ => ?_)
  subst e1 e2
  refine thn (po_none.run pins s2 σ H2 (fun o H3 => o = none ∧ H3 = H2) I2 ⟨rfl, rfl⟩) fun vu s3 ⟨o2, H3, I3, w2, e3, e4⟩ => ?_
  subst e3 e4
  refine thn (hst.run pins s3 σ H3 (fun o H4 => o = some (-1) ∧ H4 = H3) I3 ⟨1, rfl, -1, rfl, rfl, rfl⟩) fun vs s4 ⟨o3, H4, I4, w3, e5, e6⟩ => ?_
  subst e5 e6
  obtain ⟨l1, rfl, m1⟩ := IsPart.raw w1
  obtain ⟨l2, rfl, m2⟩ := IsPart.raw w2
  obtain ⟨l3, rfl, m3⟩ := IsPart.raw w3
  have I5 : Inv X pins σ H4 { s4 with heap := s4.heap.push { cls := .type "slice", data := .fields #[partValue l1, partValue l2, partValue l3] } } := I4.kept (t' := s4.toks) fun b ob q => Heap.get?_push_of_some _ q
  show wpAny (model X.prog X.w) X.A (PyProof.Rows.subscriptTail e (.Slice none none (some (.UnaryOp .USub (.Constant (.int 1) k p1) p2)) p3) (.str (tx l) t) (.ref s4.heap.objs.size)) (EP X pins σ Q) X.xe _
  refine PyProof.Rows.tail_any (ops := [.str (tx l) t, .ref s4.heap.objs.size]) (typeIs_str _ _ _) F.slot_str_getitem.lookup ?_ (by with_unfolding_all rfl)
  refine wpAny_getItem_str_slice (l := l1) (u := l2) (st := l3) ⟨_, Heap.get?_push_size _ rfl, rfl, rfl⟩ (by rw [m3]; rfl) ?_
  unfold sliceMade slicePicked
  rw [m1, m2, m3]
  have e : (⟨((Builtin.Str.strSliceIndices none none ((some (-1 : Int)).getD 1) (tx l).length).filterMap ((tx l).cps[·]?)).toArray⟩ : Str) = tx l.reverse := by
    show (⟨((Builtin.Str.strSliceIndices none none (-1) (tx l).length).filterMap ((tx l).cps[·]?)).toArray⟩ : Str) = tx l.reverse
    rw [PyProof.Rows.picked_rev, tx_len, PySem.W.krv_range]
    have k2 := PySem.W.krv_all (tx l).cps
    rw [show (tx l).cps.size = l.length from tx_len l] at k2
    rw [List.filterMap_reverse, k2]
  rw [e]
  rw [if_neg (by simp)]
  refine ⟨?_, .str (tx l.reverse), H4, I5.tok _, ⟨_, rfl⟩, q⟩
  rw [tx_len, List.length_reverse]
  exact szl hl
end
section
variable {σ : St} {H : Hp} {Q : VK}
theorem v_addS {a b : List Nat} (h : a.length + b.length ≤ 1000000) (q : Q (.str (tx (a ++ b))) H) : rTAdd (.str (tx a)) (.str (tx b)) H Q := ⟨a, b, rfl, rfl, h, q⟩
theorem v_ltS {a b : List Nat} (q : Q (.bl (decide (a < b))) H) : rTLt (.str (tx a)) (.str (tx b)) H Q := ⟨a, b, rfl, rfl, q⟩
theorem e_revS {te : TE} (q : te σ H fun x H1 => ∃ l : List Nat, x = .str (tx l) ∧ l.length ≤ 1000000 ∧ Q (.str (tx l.reverse)) H1) : tRevS te σ H Q := q
theorem v_revS {l : List Nat} {P : List Nat → Prop} (h : l.length ≤ 1000000) (q : P l) : ∃ l' : List Nat, V.str (tx l) = .str (tx l') ∧ l'.length ≤ 1000000 ∧ P l' := ⟨l, rfl, h, q⟩
end
end Cw
set_option Elab.async false
set_option linter.all false
set_option maxRecDepth 100000
set_option maxHeartbeats 4000000
namespace Cw
open PySem PySem.Spec L2
/-! ### constants and globals -/
section
variable {X : Cx} {x : Str} {pos : PySem.Pos} {j : Nat}
theorem pe_tx {kd : _} (l : List Nat) (h : x = tx l) : PE X (.Constant (.str x) kd pos) (tC (.str (tx l))) := by
  rw [h]
  exact pe_str
theorem pe_globS {z : Str} (h : ∃ t, X.mg x = some (.str z t)) (hg : Gl X x := by rfl) (hd : (x == ("__debug__" : Str)) = false := by decide) : PE X (.Name x pos) (tC (.str z)) := by
  obtain ⟨t, h⟩ := h
  exact pe_glob hg h ⟨t, rfl⟩ hd
theorem pe_globI {z : Int} (h : ∃ t, X.mg x = some (.int z t)) (hg : Gl X x := by rfl) (hd : (x == ("__debug__" : Str)) = false := by decide) : PE X (.Name x pos) (tC (.int z)) := by
  obtain ⟨t, h⟩ := h
  exact pe_glob hg h ⟨t, rfl⟩ hd
/-- a class of one's own as a value -/
theorem pe_globC {C : Addr} (h : X.mg x = some (.ref C)) (hg : Gl X x := by rfl) (hd : (x == ("__debug__" : Str)) = false := by decide) : PE X (.Name x pos) (tC (.ref C)) := pe_glob hg h rfl hd
end
/-! ### slices of texts -/
theorem sl_S {X : Cx} : SlR X rSlS := sl_str
section
variable {σ : St} {H : Hp} {Q : VK} {te : TE} {tl th : TO} {K : PySem.W.Frag}
theorem e_sl {r : V → Option Int → Option Int → Hp → VK → Prop} (q : te σ H fun x H1 => tl σ H1 fun l H2 => th σ H2 fun u H3 => r x l u H3 Q) : tSl r te tl th σ H Q := q
theorem e_nopart {Q : Option Int → Hp → Prop} (q : Q none H) : tNoPart σ H Q := q
theorem e_part {Q : Option Int → Hp → Prop} (q : te σ H fun x H1 => ∃ i, x = .int i ∧ Q (some i) H1) : tPart te σ H Q := q
theorem cut_to (l : List Nat) {n : Int} (h : 0 ≤ n) : cutS (tx l) none (some n) = tx (l.take n.toNat) := by
  unfold cutS
  rw [tx_len]
  show (⟨((l.toArray.toList.drop 0).take ((if n < 0 then _ else min n.toNat l.length) - 0)).toArray⟩ : Str) = _
  rw [if_neg (by omega)]
  simp only [List.drop_zero, Nat.sub_zero]
  rw [← List.take_take]
  simp
theorem cut_from (l : List Nat) {n : Int} (h : 0 ≤ n) : cutS (tx l) (some n) none = tx (l.drop n.toNat) := by
  unfold cutS
  rw [tx_len]
  show (⟨((l.toArray.toList.drop (if n < 0 then _ else min n.toNat l.length)).take (l.length - (if n < 0 then _ else min n.toNat l.length))).toArray⟩ : Str) = _
  rw [if_neg (by omega)]
  have e : (l.drop (min n.toNat l.length)) = l.drop n.toNat := by
    by_cases hl : n.toNat ≤ l.length
    · rw [Nat.min_eq_left hl]
    · rw [Nat.min_eq_right (by omega), List.drop_of_length_le (by omega), List.drop_of_length_le (by omega)]
  simp only
  rw [e, List.take_of_length_le (by rw [List.length_drop]; omega)]
theorem v_slTo {l : List Nat} {n : Int} (hl : l.length ≤ 1000000) (h : 0 ≤ n) (q : Q (.str (tx (l.take n.toNat))) H) : rSlS (.str (tx l)) none (some n) H Q := ⟨tx l, rfl, by rw [tx_len]; exact szl hl, by rw [cut_to l h]; exact q⟩
theorem v_slFrom {l : List Nat} {n : Int} (hl : l.length ≤ 1000000) (h : 0 ≤ n) (q : Q (.str (tx (l.drop n.toNat))) H) : rSlS (.str (tx l)) (some n) none H Q := ⟨tx l, rfl, by rw [tx_len]; exact szl hl, by rw [cut_from l h]; exact q⟩
end
/-! ### join -/
def rJoinT (K : PySem.W.Frag) : V → List V → Hp → VK → Prop := fun x xs H Q => ∃ (p : Addr) (ls : List (List Nat)), x = .str (tx []) ∧ xs = [.ref p] ∧ (SqL K H p (ls.map fun l => V.str (tx l)) ∨ SqT K H p (ls.map fun l => V.str (tx l))) ∧ ls.flatten.length ≤ 1000000 ∧ Q (.str (tx ls.flatten)) H
theorem join_empty (ls : List (List Nat)) : Txt.join (tx []) (ls.map tx) = tx ls.flatten := by
  have e : ∀ ls : List (List Nat), TL.joinL [] ls = ls.flatten := by
    intro ls
    induction ls with
    | nil => rfl
    | cons p r ih =>
      cases r with
      | nil => simp [TL.joinL]
      | cons q r =>
        show p ++ ([] ++ TL.joinL [] (q :: r)) = _
        rw [ih]
        simp
  have h := TL.tl_join (tx []) (ls.map tx)
  have h2 : (Str.join (tx []) (ls.map tx)).cps.toList = ls.flatten := by
    refine Eq.trans h ?_
    show TL.joinL [] ((ls.map tx).map TL.tl) = _
    rw [List.map_map, e]
    congr 1
    have : (TL.tl ∘ tx) = id := by
      funext l
      show (tx l).cps.toList = l
      simp
    rw [this, List.map_id]
  have g : Txt.join (tx []) (ls.map tx) = Str.join (tx []) (ls.map tx) := by
    show Builtin.Str.glued _ _ = _
    rw [StrLaws.glued_eq_join]
  rw [g, tx_eq (z := Str.join (tx []) (ls.map tx)), h2]
section
variable {X : Cx} {o e : Expr} {to te : TE}
theorem mt_joinT : MtR X "str.join" (rJoinT X.K) := by
  intro pins s σ H x xs v us Q I rx rs h
  obtain ⟨p, ls, rfl, rfl, hp, hl, q⟩ := h
  refine mt_join pins s σ H _ _ v us Q I rx rs ⟨tx [], p, ls.map tx, rfl, rfl, ?_, ?_, ?_⟩
  · simpa [List.map_map, Function.comp_def] using hp
  · have e : ((ls.map tx).map (·.length)).sum = ls.flatten.length := by
      rw [List.map_map, List.length_flatten]
      exact congrArg List.sum (List.map_congr_left fun l _ => tx_len l)
    rw [e]
    have e0 : (tx []).length = 0 := rfl
    rw [e0]
    omega
  · rw [join_empty]
    exact q
theorem pe_joinT {apos pos : PySem.Pos} (ho : PE X o to) (he : PE X e te) (hs : starEach [e] X.env = [(false, eval e X.env)] := by rfl) (hbase : attributeBase o "join" X.env (eval o X.env) = eval o X.env := by rfl) (hline : (apos.endLine == pos.line) = true := by rfl) :
    PE X (.Call (.Attribute o "join" apos) [e] [] pos) (tM1 (rJoinT X.K) to te) := pe_m1 F.slot_str_join F.type_str_join mt_joinT ho he hs hbase hline
end
section
variable {σ : St} {H : Hp} {Q : VK} {to te : TE} {K : PySem.W.Frag}
theorem e_m1 {r : V → List V → Hp → VK → Prop} (q : to σ H fun x H1 => (∃ a, x = .str a) ∧ te σ H1 fun y H2 => r x [y] H2 Q) : tM1 r to te σ H Q := q
theorem v_isS {a : Str} {P : Prop} (q : P) : (∃ b, V.str a = .str b) ∧ P := ⟨⟨a, rfl⟩, q⟩
theorem v_join {p : Addr} {ls : List (List Nat)} (h : H p = some (.lst (ls.map fun l => V.str (tx l)))) (hl : ls.flatten.length ≤ 1000000) (q : Q (.str (tx ls.flatten)) H) : rJoinT K (.str (tx [])) [.ref p] H Q := ⟨p, ls, rfl, rfl, .inl (SqL.of h), hl, q⟩
/-! ### membership -/
theorem v_inS {c : Nat} {l : List Nat} (q : Q (.bl (decide (c ∈ l))) H) : rInS (.str (tx [c])) (.str (tx l)) H Q := ⟨c, tx l, rfl, rfl, by simpa using q⟩
theorem v_notInS {c : Nat} {l : List Nat} (q : Q (.bl (!decide (c ∈ l))) H) : rNotInS (.str (tx [c])) (.str (tx l)) H Q := ⟨c, tx l, rfl, rfl, by simpa using q⟩
theorem inV_tx {x : List Nat} : ∀ {ls : List (List Nat)}, inV (.str (tx x)) (ls.map fun l => V.str (tx l)) = decide (x ∈ ls)
  | [] => by simp [inV]
  | l :: r => by
    have ih := inV_tx (x := x) (ls := r)
    unfold inV at ih ⊢
    rw [List.map_cons, List.any_cons, ih]
    by_cases e : l = x
    · subst e
      simp [eqV]
    · have e2 : ¬ tx l = tx x := fun z => e (tx_inj.mp z)
      have e3 : ¬ x = l := fun z => e z.symm
      simp [eqV, e2, e3]
theorem flat_tx (ls : List (List Nat)) : (ls.map fun l => V.str (tx l)).all flatV = true := by
  rw [List.all_map]
  exact List.all_eq_true.mpr fun _ _ => rfl
theorem v_inL {x : List Nat} {ls : List (List Nat)} {p : Addr} (h : H p = some (.lst (ls.map fun l => V.str (tx l)))) (q : Q (.bl (decide (x ∈ ls))) H) : rIn K false (.str (tx x)) (.ref p) H Q :=
  ⟨p, _, rfl, .inl (SqL.of h), rfl, flat_tx ls, by rw [inV_tx]; exact q⟩
theorem v_inT {x : List Nat} {ls : List (List Nat)} {p : Addr} (h : SqT K H p (ls.map fun l => V.str (tx l))) (q : Q (.bl (decide (x ∈ ls))) H) : rIn K false (.str (tx x)) (.ref p) H Q :=
  ⟨p, _, rfl, .inr h, rfl, flat_tx ls, by rw [inV_tx]; exact q⟩
end
/-! ### comprehensions -/
theorem wipe1 {σ : St} {i : Nat} {x : Option V} : wipe ((wipe σ [i]).set i x) [i] = wipe σ [i] := by
  show (((σ.set i none).set i x).set i none) = σ.set i none
  rw [List.set_set, List.set_set]
section
variable {σ : St} {H : Hp} {Q : VK} {wi : TI} {g : TG} {tt : TT} {te t0 : TE} {i : Nat} {K : PySem.W.Frag}
/-- what a comprehension's new list is, item by item: Y tells the turn's items -/
theorem lc_gen {P : Addr → Hp → Prop} {J : It} {n : Nat} {G : Hp → Prop} {it : Nat → V} {b : Nat → Bool} {f : Nat → V} (w : Walk J n G (fun k H x H' => H' = H ∧ x = it k)) (hG : ∀ H', Same H H' → G H') (hn : n ≤ 1000000)
    (ht : ∀ k, k < n → ∀ H1, Same H H1 → ∀ R : Bool → Hp → Prop, (∀ H2, Same H1 H2 → R (b k) H2) → tt ((wipe σ [i]).set i (some (it k))) H1 R)
    (he : ∀ k, k < n → b k = true → ∀ H1, Same H H1 → ∀ R : VK, (∀ H2, Same H1 H2 → R (f k) H2) → te ((wipe σ [i]).set i (some (it k))) H1 R)
    (q : ∀ D H', H D = none → Same H H' → H' D = some (.lst (((List.range n).filter b).map f)) → P D H') :
    ∀ D, H D = none → ∃ W : Nat → Nat → Hp → Prop, (∃ m, W 0 m (upd H D (.lst []))) ∧ ∀ k m H, W k m H →
      (J.stop k H ∧ P D H) ∨ (J.go k H ∧ ∃ Nx : Hp → Prop, (∀ H', Nx H' → ∃ m', m' < m ∧ W (k + 1) m' H') ∧ ∀ x H', J.yld k H x H' → (gName i) x (wipe σ [i]) H' fun s2 H2 => wipe s2 [i] = wipe σ [i] ∧ tt s2 H2 fun c H3 =>
        if c = true then te s2 H3 fun y H4 => ∃ acc, H4 D = some (.lst acc) ∧ acc.length < sizeLine ∧ Nx (upd H4 D (.lst (acc ++ [y]))) else Nx H3) := by
  intro D hD
  refine lc_it w (vs := [i]) (σ := σ) (g := gName i) (tt := tt) (te := te) (Qd := fun H' => P D H') (fun k H' => Same H H' ∧ H' D = some (.lst (((List.range k).filter b).map f)))
    ⟨Same.new hD, upd_same⟩ (fun k H' _ p => hG H' p.1) (fun k x H1 H2 hk p y => ?_) (fun H' p => q D H' hD p.1 p.2)
  obtain ⟨p1, p2⟩ := p
  obtain ⟨rfl, rfl⟩ := y
  refine ⟨wipe1, ht k hk _ p1 _ fun H3 s3 => ?_⟩
  have e1 : (List.range (k + 1)).filter b = (List.range k).filter b ++ (if b k = true then [k] else []) := by
    rw [List.range_succ, List.filter_append]
    congr 1
    by_cases c : b k = true
    · simp [c]
    · simp [c]
  by_cases c : b k = true
  · rw [if_pos c]
    refine he k hk c _ (p1.trans s3) _ fun H4 s4 => ?_
    refine ⟨_, s4 _ _ (s3 _ _ p2), ?_, fun a o ha => ?_, ?_⟩
    · rw [List.length_map]
      have h1 := List.length_filter_le b (List.range k)
      rw [List.length_range] at h1
      exact szlt (by omega)
    · rw [upd_ne (ne_of_none ha hD)]
      exact s4 _ _ (s3 _ _ (p1 _ _ ha))
    · rw [upd_same, e1, if_pos c, List.map_append]
      rfl
  · rw [if_neg c]
    refine ⟨p1.trans s3, ?_⟩
    rw [e1, if_neg c, List.append_nil]
    exact s3 _ _ p2
theorem e_lc {vs : List Nat} (q : wi σ H fun J H1 => ∀ D, H1 D = none → ∃ W : Nat → Nat → Hp → Prop, (∃ m, W 0 m (upd H1 D (.lst []))) ∧ ∀ i m H, W i m H →
    (J.stop i H ∧ Q (.ref D) H) ∨ (J.go i H ∧ ∃ Nx : Hp → Prop, (∀ H', Nx H' → ∃ m', m' < m ∧ W (i + 1) m' H') ∧ ∀ x H', J.yld i H x H' → g x (wipe σ vs) H' fun s2 H2 => wipe s2 vs = wipe σ vs ∧ tt s2 H2 fun b H3 =>
      if b = true then te s2 H3 fun y H4 => ∃ acc, H4 D = some (.lst acc) ∧ acc.length < sizeLine ∧ Nx (upd H4 D (.lst (acc ++ [y]))) else Nx H3)) : tLc wi g tt te vs σ H Q := q
theorem range_map {α : Type} (l : List Nat) (b : Nat → Bool) (f : Nat → α) : ((List.range l.length).filter fun k => b (l.getD k 0)).map (fun k => f (l.getD k 0)) = (l.filter b).map f := by
  have e : l = (List.range l.length).map fun k => l.getD k 0 := by
    apply List.ext_getElem
    · simp
    · intro j h1 h2
      simp [List.getD, h1]
  conv => rhs; rw [e, List.filter_map, List.map_map]
  rfl
/-- [e for c in text if t] -/
theorem v_lcS {P : Addr → Hp → Prop} {l : List Nat} {b : Nat → Bool} {f : Nat → V} (hn : l.length ≤ 1000000)
    (ht : ∀ c, c ∈ l → ∀ H1, Same H H1 → ∀ R : Bool → Hp → Prop, (∀ H2, Same H1 H2 → R (b c) H2) → tt ((wipe σ [i]).set i (some (.str (tx [c])))) H1 R)
    (he : ∀ c, c ∈ l → b c = true → ∀ H1, Same H H1 → ∀ R : VK, (∀ H2, Same H1 H2 → R (f c) H2) → te ((wipe σ [i]).set i (some (.str (tx [c])))) H1 R)
    (q : ∀ D H', H D = none → Same H H' → H' D = some (.lst ((l.filter b).map f)) → P D H') :
    ∀ D, H D = none → ∃ W : Nat → Nat → Hp → Prop, (∃ m, W 0 m (upd H D (.lst []))) ∧ ∀ k m H, W k m H →
      ((Its (tx l)).stop k H ∧ P D H) ∨ ((Its (tx l)).go k H ∧ ∃ Nx : Hp → Prop, (∀ H', Nx H' → ∃ m', m' < m ∧ W (k + 1) m' H') ∧ ∀ x H', (Its (tx l)).yld k H x H' → (gName i) x (wipe σ [i]) H' fun s2 H2 => wipe s2 [i] = wipe σ [i] ∧ tt s2 H2 fun c H3 =>
        if c = true then te s2 H3 fun y H4 => ∃ acc, H4 D = some (.lst acc) ∧ acc.length < sizeLine ∧ Nx (upd H4 D (.lst (acc ++ [y]))) else Nx H3) := by
  have mem : ∀ k, k < l.length → l.getD k 0 ∈ l := fun k hk => by
    rw [List.getD_eq_getElem?_getD, List.getElem?_eq_getElem hk]
    exact List.getElem_mem hk
  have w : Walk (Its (tx l)) l.length (fun _ => True) (fun k H x H' => H' = H ∧ x = .str (tx [l.getD k 0])) := by
    refine ⟨fun k H hk _ => by show k < (tx l).cps.size; simpa using hk, fun H _ => by show (tx l).cps.size ≤ l.length; simp, fun k H x H' hk _ y => ?_⟩
    obtain ⟨e, c, hc, rfl⟩ := y
    refine ⟨e, ?_⟩
    have hc : l[k]? = some c := by simpa using hc
    rw [List.getD_eq_getElem?_getD, hc]
    rfl
  refine lc_gen (b := fun k => b (l.getD k 0)) (f := fun k => f (l.getD k 0)) w (fun _ _ => trivial) hn (fun k hk H1 s1 R r => ht _ (mem k hk) H1 s1 R r) (fun k hk c H1 s1 R r => he _ (mem k hk) c H1 s1 R r) (fun D H' hD s' e => q D H' hD s' ?_)
  rw [e, range_map]
end
end Cw
set_option Elab.async false
set_option linter.all false
set_option maxRecDepth 100000
set_option maxHeartbeats 4000000
namespace Cw
open PySem PySem.Spec L2
/-! ### a comprehension of two fors over texts -/
theorem lc_in {J : It} {n : Nat} {G : Hp → Prop} {Y : Nat → Hp → V → Hp → Prop} (w : Walk J n G Y) {g : TG} {tt : TT} {te : TE} {vs : List Nat} {σ : St} {H1 : Hp} {D : Addr} {Qd : Hp → Prop} (Pv : Nat → Hp → Prop) (h0 : Pv 0 H1) (hG : ∀ i H, i ≤ n → Pv i H → G H)
    (hs : ∀ i x H H', i < n → Pv i H → Y i H x H' → g x (wipe σ vs) H' fun s2 H2 => wipe s2 vs = wipe σ vs ∧ tt s2 H2 fun b H3 =>
      if b = true then te s2 H3 fun y H4 => ∃ acc, H4 D = some (.lst acc) ∧ acc.length < sizeLine ∧ Pv (i + 1) (upd H4 D (.lst (acc ++ [y]))) else Pv (i + 1) H3) (hd : ∀ H, Pv n H → Qd H) :
    ∃ W : Nat → Nat → Hp → Prop, (∃ m, W 0 m H1) ∧ ∀ i m H, W i m H →
      (J.stop i H ∧ Qd H) ∨ (J.go i H ∧ ∃ Nx : Hp → Prop, (∀ H', Nx H' → ∃ m', m' < m ∧ W (i + 1) m' H') ∧ ∀ x H', J.yld i H x H' → g x (wipe σ vs) H' fun s2 H2 => wipe s2 vs = wipe σ vs ∧ tt s2 H2 fun b H3 =>
        if b = true then te s2 H3 fun y H4 => ∃ acc, H4 D = some (.lst acc) ∧ acc.length < sizeLine ∧ Nx (upd H4 D (.lst (acc ++ [y]))) else Nx H3) := by
  refine ⟨fun i m H => m = n - i ∧ i ≤ n ∧ Pv i H, ⟨n, rfl, Nat.zero_le _, h0⟩, ?_⟩
  rintro i m H ⟨rfl, hi, p⟩
  by_cases c : i < n
  · exact Or.inr ⟨w.goes i H c (hG i H hi p), Pv (i + 1), fun H' p' => ⟨_, by omega, rfl, c, p'⟩, fun x H' y => hs i x H H' c p (w.yields i H x H' c (hG i H hi p) y)⟩
  · have e : i = n := by omega
    rw [e] at p ⊢
    exact Or.inl ⟨w.stops H (hG n H (Nat.le_refl _) p), hd H p⟩
theorem walk_tx (l : List Nat) : Walk (Its (tx l)) l.length (fun _ => True) (fun k H x H' => H' = H ∧ x = .str (tx [l.getD k 0])) := by
  refine ⟨fun k H hk _ => by show k < (tx l).cps.size; simpa using hk, fun H _ => by show (tx l).cps.size ≤ l.length; simp, fun k H x H' hk _ y => ?_⟩
  obtain ⟨e, c, hc, rfl⟩ := y
  refine ⟨e, ?_⟩
  have hc : l[k]? = some c := by simpa using hc
  rw [List.getD_eq_getElem?_getD, hc]
  rfl
theorem getD_mem {l : List Nat} {k : Nat} (hk : k < l.length) : l.getD k 0 ∈ l := by
  rw [List.getD_eq_getElem?_getD, List.getElem?_eq_getElem hk]
  exact List.getElem_mem hk
theorem take_getD {l : List Nat} {k : Nat} (hk : k < l.length) : l.take (k + 1) = l.take k ++ [l.getD k 0] := by
  rw [List.take_add_one, List.getD_eq_getElem?_getD, List.getElem?_eq_getElem hk]
  rfl
section
variable {σ : St} {H : Hp} {Q : VK} {tt1 : TT} {te t1 : TE} {i j : Nat}
theorem v_lc2S {la lb : List Nat} {b : Nat → Nat → Bool} {f : Nat → Nat → V} (hij : i ≠ j) (hsz : la.length * lb.length < 1000000)
    (h1 : ∀ c, c ∈ la → ∀ H1, Same H H1 → ∀ R : VK, R (.str (tx lb)) H1 → t1 (((σ.set j none).set i none).set i (some (.str (tx [c])))) H1 R)
    (ht : ∀ c d, c ∈ la → d ∈ lb → ∀ H1, Same H H1 → ∀ R : Bool → Hp → Prop, (∀ H2, Same H1 H2 → R (b c d) H2) → tt1 (((((σ.set j none).set i none).set i (some (.str (tx [c])))).set j none).set j (some (.str (tx [d])))) H1 R)
    (he : ∀ c d, c ∈ la → d ∈ lb → b c d = true → ∀ H1, Same H H1 → ∀ R : VK, (∀ H2, Same H1 H2 → R (f c d) H2) → te (((((σ.set j none).set i none).set i (some (.str (tx [c])))).set j none).set j (some (.str (tx [d])))) H1 R)
    (q : ∀ D H', H D = none → Same H H' → H' D = some (.lst (la.flatMap fun c => (lb.filter (b c)).map (f c))) → Q (.ref D) H') :
    tLc2 (iStr (tC (.str (tx la)))) (gName i) tYes (iStr t1) (gName j) tt1 te [i, j] [j] σ H Q := by
  refine ⟨tx la, rfl, fun D hD => ?_⟩
  have len : ∀ l : List Nat, (l.flatMap fun c => (lb.filter (b c)).map (f c)).length ≤ l.length * lb.length := by
    intro l
    induction l with
    | nil => simp
    | cons c r ih =>
      rw [List.flatMap_cons, List.length_append, List.length_map, List.length_cons, Nat.succ_mul]
      have := List.length_filter_le (b c) lb
      omega
  refine ⟨fun k m H' => m = la.length - k ∧ k ≤ la.length ∧ Same H H' ∧ H' D = some (.lst ((la.take k).flatMap fun c => (lb.filter (b c)).map (f c))), ⟨_, rfl, Nat.zero_le _, Same.new hD, upd_same⟩, ?_⟩
  rintro k m H1 ⟨rfl, hk, s1, e1⟩
  have w := walk_tx la
  by_cases c : k < la.length
  · refine Or.inr ⟨w.goes k H1 c trivial, fun H' => Same H H' ∧ H' D = some (.lst ((la.take (k + 1)).flatMap fun c => (lb.filter (b c)).map (f c))), fun H' p => ⟨_, by omega, rfl, c, p.1, p.2⟩, fun x H2 y => ?_⟩
    obtain ⟨rfl, rfl⟩ := w.yields k H1 x H2 c trivial y
    have hm := getD_mem c
    refine ⟨?_, ?_⟩
    · show ((((σ.set j none).set i none).set i _).set j none).set i none = (σ.set j none).set i none
      rw [List.set_comm _ _ hij.symm, List.set_set, List.set_set, List.set_comm _ _ hij, List.set_set]
    · unfold tYes
      refine iteT ?_
      refine h1 _ hm _ s1 _ ⟨tx lb, rfl, ?_⟩
      refine lc_in (walk_tx lb) (fun z H' => Same H H' ∧ H' D = some (.lst (((la.take k).flatMap fun c => (lb.filter (b c)).map (f c)) ++ ((lb.take z).filter (b (la.getD k 0))).map (f (la.getD k 0))))) ⟨s1, by simpa using e1⟩ (fun _ _ _ _ => trivial) ?_ ?_
      · rintro z x H3 H4 hz ⟨s3, e3⟩ ⟨rfl, rfl⟩
        have hm2 := getD_mem hz
        have et := take_getD hz
        refine ⟨?_, ht _ _ hm hm2 _ s3 _ fun H5 s5 => ?_⟩
        · exact wipe1
        · show (if b (la.getD k 0) (lb.getD z 0) = true then _ else _)
          by_cases cb : b (la.getD k 0) (lb.getD z 0) = true
          · rw [if_pos cb]
            refine he _ _ hm hm2 cb _ (s3.trans s5) _ fun H6 s6 => ⟨_, s6 _ _ (s5 _ _ e3), ?_, fun a o ha => ?_, ?_⟩
            · have n1 := len (la.take k)
              have n2 : ((lb.take z).filter (b (la.getD k 0))).length ≤ z := by
                have := List.length_filter_le (b (la.getD k 0)) (lb.take z)
                rw [List.length_take] at this
                omega
              rw [List.length_append, List.length_map]
              rw [List.length_take, Nat.min_eq_left (by omega)] at n1
              have n3 : k * lb.length + lb.length ≤ la.length * lb.length := by
                rw [← Nat.succ_mul]
                exact Nat.mul_le_mul_right _ c
              exact szlt (by omega)
            · rw [upd_ne (ne_of_none ha hD)]
              exact s6 _ _ (s5 _ _ (s3 _ _ ha))
            · rw [upd_same, et, List.filter_append, List.map_append, List.append_assoc, List.filter_cons, if_pos cb]
              rfl
          · rw [if_neg cb]
            refine ⟨s3.trans s5, ?_⟩
            rw [s5 _ _ e3, et, List.filter_append, List.filter_cons, if_neg cb, List.filter_nil, List.append_nil]
      · rintro H' ⟨s', e'⟩
        refine ⟨s', ?_⟩
        rw [e', take_getD c, List.flatMap_append, List.take_of_length_le (Nat.le_refl _)]
        simp
  · have e : k = la.length := by omega
    subst e
    refine Or.inl ⟨w.stops H1 trivial, q D H1 hD s1 ?_⟩
    rw [e1, List.take_of_length_le (Nat.le_refl _)]
end
end Cw
set_option Elab.async false
set_option linter.all false
set_option maxRecDepth 100000
set_option maxHeartbeats 4000000
/-! plain words about plans -/
namespace Cw
open PySem L2
def LET : List Nat := [97, 98, 99, 100, 101, 102, 103, 104, 105, 106, 107, 108, 109, 110, 111, 112, 113, 114, 115, 116, 117, 118, 119, 120, 121, 122]
def ascOf (l : List Nat) : List Nat := LET.filter fun c => decide (c ∈ l)
def pairsOf (found : List (List Nat)) : List (List Nat) := LET.flatMap fun a => (LET.filter fun b => decide ([a, b] ∈ found)).map fun b => [a, b]
def crossOf (ks : List Nat) (ps : List (List Nat)) (k : Nat) : List Nat := ks.filter fun o => decide ([k, o] ∈ ps) || decide ([o, k] ∈ ps)
/-- the pairs that a plan may be told by: two different kinds each -/
def PairsIn (ks : List Nat) (ps : List (List Nat)) : Prop := ∀ p ∈ ps, ∃ a b, p = [a, b] ∧ a ≠ b ∧ a ∈ ks ∧ b ∈ ks
def crossKV (ks : List Nat) (ps : List (List Nat)) (l : List Nat) : List (Key × V) := l.map fun k => (Sum.inr (tx [k]), V.str (tx (crossOf ks ps k)))
/-- a list of texts as values -/
abbrev strsV (ls : List (List Nat)) : List V := ls.map fun l => V.str (tx l)
theorem LET_lt {c : Nat} (h : c ∈ LET) : 97 ≤ c ∧ c < 123 := by
  unfold LET at h
  simp only [List.mem_cons, List.not_mem_nil, or_false] at h
  omega
theorem ascOf_mem {l : List Nat} {c : Nat} : c ∈ ascOf l ↔ c ∈ LET ∧ c ∈ l := by
  unfold ascOf
  rw [List.mem_filter, decide_eq_true_iff]
theorem ascOf_len (l : List Nat) : (ascOf l).length ≤ 26 := List.length_filter_le _ _
theorem LET_nodup : LET.Nodup := by decide
theorem ascOf_nodup (l : List Nat) : (ascOf l).Nodup := LET_nodup.filter _
theorem pairsOf_mem {f : List (List Nat)} {p : List Nat} : p ∈ pairsOf f ↔ ∃ a b, p = [a, b] ∧ a ∈ LET ∧ b ∈ LET ∧ [a, b] ∈ f := by
  unfold pairsOf
  simp only [List.mem_flatMap, List.mem_map, List.mem_filter, decide_eq_true_iff]
  constructor
  · rintro ⟨a, ha, b, ⟨hb, hf⟩, rfl⟩
    exact ⟨a, b, rfl, ha, hb, hf⟩
  · rintro ⟨a, b, rfl, ha, hb, hf⟩
    exact ⟨a, ha, b, ⟨hb, hf⟩, rfl⟩
theorem pairsOf_len (f : List (List Nat)) : (pairsOf f).length ≤ 676 := by
  have h : ∀ l : List Nat, (l.flatMap fun a => (LET.filter fun b => decide ([a, b] ∈ f)).map fun b => [a, b]).length ≤ l.length * 26 := by
    intro l
    induction l with
    | nil => simp
    | cons c r ih =>
      rw [List.flatMap_cons, List.length_append, List.length_map, List.length_cons, Nat.succ_mul]
      have := List.length_filter_le (fun b => decide ([c, b] ∈ f)) LET
      have e : LET.length = 26 := rfl
      omega
  exact h LET
theorem pairsOf_congr {f g : List (List Nat)} (h : ∀ a b, a ∈ LET → b ∈ LET → ([a, b] ∈ f ↔ [a, b] ∈ g)) : pairsOf f = pairsOf g := by
  unfold pairsOf
  have h2 : ∀ l : List Nat, (∀ a ∈ l, a ∈ LET) → (l.flatMap fun a => (LET.filter fun b => decide ([a, b] ∈ f)).map fun b => [a, b]) = (l.flatMap fun a => (LET.filter fun b => decide ([a, b] ∈ g)).map fun b => [a, b]) := by
    intro l
    induction l with
    | nil => intro _; rfl
    | cons c r ih =>
      intro hm
      rw [List.flatMap_cons, List.flatMap_cons, ih fun a ha => hm a (List.mem_cons_of_mem _ ha)]
      congr 2
      refine List.filter_congr fun b hb => ?_
      exact decide_eq_decide.mpr (h c b (hm c (List.mem_cons_self ..)) hb)
  exact h2 LET fun a ha => ha
theorem filter_yes {α : Type} (l : List α) : l.filter (fun _ => true) = l := List.filter_eq_self.mpr fun _ _ => rfl
theorem flat_ones (l : List Nat) : (l.map fun c => [c]).flatten = l := by
  induction l with
  | nil => rfl
  | cons c r ih => rw [List.map_cons, List.flatten_cons, ih]; rfl
theorem strs_ones (l : List Nat) : (l.map fun c => V.str (tx [c])) = strsV (l.map fun c => [c]) := by
  unfold strsV
  rw [List.map_map]
  rfl
theorem nodup_ones {l : List Nat} : (l.map fun c => tx [c]).Nodup ↔ l.Nodup := by
  induction l with
  | nil => simp
  | cons c r ih =>
    rw [List.map_cons, List.nodup_cons, List.nodup_cons, ih]
    refine and_congr_left fun _ => not_congr ?_
    rw [List.mem_map]
    constructor
    · rintro ⟨d, hd, e⟩
      have : [d] = [c] := tx_inj.mp e
      injection this with e _
      exact e ▸ hd
    · intro h
      exact ⟨c, h, rfl⟩
theorem metOf_ones (l : List Nat) : ((metOf (l.map fun c => tx [c])).length = l.length) ↔ l.Nodup := by
  by_cases h : l.Nodup
  · rw [metOf_nodup (nodup_ones.mpr h), List.length_map]
    exact ⟨fun _ => h, fun _ => rfl⟩
  · have := metOf_lt (fun n => h (nodup_ones.mp n))
    rw [List.length_map] at this
    exact ⟨fun e => by omega, fun n => absurd n h⟩
theorem crossOf_len (ks : List Nat) (ps : List (List Nat)) (k : Nat) : (crossOf ks ps k).length ≤ ks.length := List.length_filter_le _ _
section
variable {σ : L2.St} {H : Hp} {Q : VK} {te : TE} {K : PySem.W.Frag}
theorem e_iStr {R : It → Hp → Prop} (q : te σ H fun v H1 => ∃ x, v = .str x ∧ R (Its x) H1) : iStr te σ H R := q
theorem e_iL {R : It → Hp → Prop} (q : te σ H fun x H1 => ∃ a, x = .ref a ∧ (∃ xs, SqL K H1 a xs) ∧ R (Itl K a) H1) : iList K te σ H R := q
theorem v_iL {P : Addr → Prop} {a : Addr} {xs : List V} (h : H a = some (.lst xs)) (q : P a) : ∃ a', V.ref a = .ref a' ∧ (∃ xs, SqL K H a' xs) ∧ P a' := ⟨a, rfl, ⟨xs, SqL.of h⟩, q⟩
theorem e_iR1 {ta : TA} {R : It → Hp → Prop} (q : ta σ H fun vs H1 => ∃ j : Int, vs = [.int j] ∧ -(2 ^ 62) ≤ j ∧ j < 2 ^ 62 ∧ R (Itr 0 j.toNat) H1) : iRng1 ta σ H R := q
theorem v_iR1 {P : Int → Prop} {j : Int} (h1 : -1000000 ≤ j) (h2 : j < 1000000) (q : P j) : ∃ j' : Int, [V.int j] = [.int j'] ∧ -(2 ^ 62) ≤ j' ∧ j' < 2 ^ 62 ∧ P j' := ⟨j, rfl, by omega, by omega, q⟩
theorem e_iR2 {ta : TA} {R : It → Hp → Prop} (q : ta σ H fun vs H1 => ∃ i j : Int, vs = [.int i, .int j] ∧ (-(2 ^ 62) ≤ i ∧ i < 2 ^ 62 ∧ -(2 ^ 62) ≤ j ∧ j < 2 ^ 62) ∧ R (Itr i (j - i).toNat) H1) : iRng2 ta σ H R := q
theorem v_iR2 {P : Int → Int → Prop} {i j : Int} (h1 : -1000000 ≤ i ∧ i < 1000000 ∧ -1000000 ≤ j ∧ j < 1000000) (q : P i j) : ∃ i' j' : Int, [V.int i, V.int j] = [.int i', .int j'] ∧ (-(2 ^ 62) ≤ i' ∧ i' < 2 ^ 62 ∧ -(2 ^ 62) ≤ j' ∧ j' < 2 ^ 62) ∧ P i' j' := ⟨i, j, rfl, by omega, q⟩
theorem e_for {wi : TI} {g : TG} {tb : TS} {D : Ends} (q : wi σ H fun J H1 => ∃ W : Nat → Nat → L2.St → Hp → Prop, (∃ m, W 0 m σ H1) ∧ ∀ i m σ H, W i m σ H →
    (J.stop i H ∧ D.nx σ H) ∨ (J.go i H ∧ ∃ N : L2.St → Hp → Prop, (∀ σ' H', N σ' H' → ∃ m', m' < m ∧ W (i + 1) m' σ' H') ∧ ∀ x H', J.yld i H x H' → g x σ H' fun s2 H2 => tb { D with nx := N, ct := N, bk := D.nx } s2 H2)) : tFor wi g tb D σ H := q
theorem iteNT {A B : Prop} (h : B) : if (!true) = true then A else B := by
  rw [if_neg (by decide)]
  exact h
theorem iteNF {A B : Prop} (h : A) : if (!false) = true then A else B := by
  rw [if_pos (by decide)]
  exact h
theorem e_yes {Q : Bool → Hp → Prop} (q : Q true H) : tYes σ H Q := q
theorem v_isiS {x : Str} (q : Q (.bl true) H) : rIsi K [.str x, .ty "str"] H Q := ⟨.str x, .ty "str", .type "str", .type "str", true, rfl, .ty "str", .base (.str x), kit_ty (by decide +kernel), q⟩
theorem v_all {p : Addr} {bs : List Bool} (h : H p = some (.lst (bs.map V.bl))) (q : Q (.bl (bs.all id)) H) : rAll K [.ref p] H Q := ⟨p, bs, rfl, SqL.of h, q⟩
theorem v_fld {P : V → Prop} {a C dx : Addr} {fs : List (Str × V)} {f : Str} {v : V} (h : H a = some (.ins C dx fs)) (c : Cls K C) (n : NoAttr K C f) (l : fs.lookup f = some v) (q : P v) : ∃ a' C dx fs v, V.ref a = .ref a' ∧ H a' = some (.ins C dx fs) ∧ Cls K C ∧ NoAttr K C f ∧ fs.lookup f = some v ∧ P v := ⟨a, C, dx, fs, v, rfl, h, c, n, l, q⟩
theorem e_sfld {ta tv : TE} {f : Str} {D : Ends} (q : tv σ H fun y H1 => ta σ H1 fun x H2 => ∃ a C dx fs, x = .ref a ∧ H2 a = some (.ins C dx fs) ∧ Cls K C ∧ NoAttr K C f ∧ fs.length < 1000 ∧ D.nx σ (upd H2 a (.ins C dx (putF f y fs)))) : sFld K ta tv f D σ H := q
theorem v_sfld {P : Hp → Prop} {a C dx : Addr} {fs : List (Str × V)} {f : Str} {y : V} (h : H a = some (.ins C dx fs)) (c : Cls K C) (n : NoAttr K C f) (l : fs.length < 1000) (q : ∀ H', Keep a H H' → H' a = some (.ins C dx (putF f y fs)) → P H') :
    ∃ a' C dx fs, V.ref a = .ref a' ∧ H a' = some (.ins C dx fs) ∧ Cls K C ∧ NoAttr K C f ∧ fs.length < 1000 ∧ P (upd H a' (.ins C dx (putF f y fs))) := ⟨a, C, dx, fs, rfl, h, c, n, l, q _ Keep.put upd_same⟩
/-- a class of the text -/
structure ClsF (K : PySem.W.Frag) (mg : Str → Option Value) (x : Str) (C : Addr) : Prop where
  «at» : mg x = some (.ref C)
  cl : Cls K C
  mks : PySem.W.makesIn K C = true
  kp : PySem.W.keepIn K (.ref C) = true
  ha : PySem.W.findIn K (.ref C) "__class__" = some (some (.builtin "object.__class__"))
  hn : PySem.W.specialIn K (.builtin "object.__class__") "__get__" = some (some (.builtin "getset_descriptor.__get__"))
  ht : PySem.W.takesIn K (.builtin "object.__class__") = some true
  hm : PySem.W.mroIn K C (.type "object") = some true
  ob : PySem.W.subIn K (.ref C) (.type "object") = some true
  ne : PySem.W.findIn K (.ref C) "__ne__" = some (some (.builtin "object.__ne__"))
theorem kit_same {C : Addr} : PySem.W.kitOne K (.ref C) (.ref C) = some true := by
  unfold PySem.W.kitOne
  rw [if_pos (by simp)]
theorem v_isiC {mg : Str → Option Value} {x : Str} {a C dx : Addr} {fs : List (Str × V)} (F : ClsF K mg x C) (h : H a = some (.ins C dx fs)) (q : Q (.bl true) H) : rIsi K [.ref a, .ref C] H Q :=
  ⟨.ref a, .ref C, .ref C, .ref C, true, rfl, .own C, .base (.ins h F.cl F.ha F.hn F.ht F.hm), kit_same, q⟩
theorem v_isiL {p t : Addr} {xs : List V} (h : H p = some (.lst xs)) (ht : H t = some (.tup [.ty "list", .ty "tuple"])) (q : Q (.bl true) H) : rIsiT K [.ref p, .ref t] H Q :=
  ⟨.ref p, t, _, .type "list", [.type "list", .type "tuple"], true, rfl, ht, .cons (.ty _) (.cons (.ty _) .nil), .base (.lst h), kitAny_cons (b := true) (kit_ty (by decide +kernel)) (fun z => nomatch z) (fun _ => rfl), q⟩
end
def rTuple (K : PySem.W.Frag) : List V → Hp → VK → Prop := fun xs H Q => ∃ p ys, xs = [.ref p] ∧ ((SqL K H p ys ∧ ∀ l, H l = none → Q (.ref l) (upd H l (.tup ys))) ∨ (SqT K H p ys ∧ Q (.ref p) H))
theorem c_tuple {X : Cx} : CallR X (.type "tuple") (rTuple X.K) := call_tuple_of
theorem v_tuple {K : PySem.W.Frag} {H : Hp} {Q : VK} {p : Addr} {ys : List V} (h : H p = some (.lst ys)) (q : ∀ l H', H l = none → Same H H' → H' l = some (.tup ys) → Q (.ref l) H') : rTuple K [.ref p] H Q :=
  ⟨p, ys, rfl, .inl ⟨SqL.of h, fun l hl => q l _ hl (Same.new hl) upd_same⟩⟩
def rList (K : PySem.W.Frag) : List V → Hp → VK → Prop := fun xs H Q => ∃ p ys, xs = [.ref p] ∧ (SqL K H p ys ∨ SqT K H p ys) ∧ ∀ l, H l = none → Q (.ref l) (upd H l (.lst ys))
theorem c_list {X : Cx} : CallR X (.type "list") (rList X.K) := call_list_of
theorem v_list {K : PySem.W.Frag} {H : Hp} {Q : VK} {p : Addr} {ys : List V} (h : SqL K H p ys) (q : ∀ l H', H l = none → Same H H' → H' l = some (.lst ys) → Q (.ref l) H') : rList K [.ref p] H Q :=
  ⟨p, ys, rfl, .inl h, fun l hl => q l _ hl (Same.new hl) upd_same⟩
section
variable {σ : L2.St} {H : Hp} {Q : VK} {K : PySem.W.Frag}
theorem e_bm {T : String} {r : V → List V → Hp → VK → Prop} {to : TE} {t : TA} (q : to σ H fun x H1 => tyV K T x H1 ∧ t σ H1 fun xs H2 => r x xs H2 Q) : tBM K T r to t σ H Q := q
theorem e_bm0 {T : String} {r : V → List V → Hp → VK → Prop} {to : TE} (q : to σ H fun x H1 => tyV K T x H1 ∧ r x [] H1 Q) : tBM0 K T r to σ H Q := q
theorem v_tyL {P : Prop} {p : Addr} {xs : List V} (h : H p = some (.lst xs)) (q : P) : tyV K "list" (.ref p) H ∧ P := ⟨.inl ⟨rfl, _, SqL.of h⟩, q⟩
theorem v_app {p : Addr} {xs : List V} {y : V} (h : H p = some (.lst xs)) (hl : xs.length < 1000000) (q : ∀ H', Keep p H H' → H' p = some (.lst (xs ++ [y])) → Q .non H') : rAppend (.ref p) [y] H Q :=
  ⟨p, xs, y, rfl, rfl, h, szlt hl, q _ Keep.put upd_same⟩
end
/-! ### rules with the written part named (in a comprehension's block too) -/
section
variable {X : Cx} {K : PySem.W.Frag}
theorem op_inLK (h : X.K = K) : OpR X (compareOp .In) (rIn K false) := h ▸ op_in_seq
theorem ix_LK (h : X.K = K) : IxR X (rIxL K) := h ▸ ix_list
theorem ix_TK (h : X.K = K) : IxR X (rIxT K) := h ▸ ix_tup
theorem pe_flK {e : Expr} {f : Str} {pos : PySem.Pos} {ta : TE} (h : X.K = K) (he : PE X e ta) (hb : attributeBase e f X.env (eval e X.env) = eval e X.env) : PE X (.Attribute e f pos) (tFld K ta f) := h ▸ pe_fld he hb
theorem ps_flK {o value : Expr} {f : Str} {pos pos' : PySem.Pos} {ta tv : TE} (h : X.K = K) (ha : PE X o ta) (hv : PE X value tv) (hs : swapsWith value (some (.Attribute o f pos')) pos.line X.env = pure false) : PS X (.Assign [.Attribute o f pos'] value pos) (sFld K ta tv f) := h ▸ ps_fld ha hv hs
theorem pe_joinK {o e : Expr} {to te : TE} {apos pos : PySem.Pos} (h : X.K = K) (ho : PE X o to) (he : PE X e te) (hs : starEach [e] X.env = [(false, eval e X.env)] := by rfl) (hbase : attributeBase o "join" X.env (eval o X.env) = eval o X.env := by rfl) (hline : (apos.endLine == pos.line) = true := by rfl) :
    PE X (.Call (.Attribute o "join" apos) [e] [] pos) (tM1 (rJoinT K) to te) := h ▸ pe_joinT ho he hs hbase hline
theorem c_lenK (h : X.K = K) : CallR X (.builtin "len") (rLen K) := h ▸ c_len
theorem c_isiK (h : X.K = K) : CallR X (.builtin "isinstance") (rIsi K) := h ▸ call_isi
theorem c_isiTK (h : X.K = K) : CallR X (.builtin "isinstance") (rIsiT K) := h ▸ call_isiT
theorem c_listK (h : X.K = K) : CallR X (.type "list") (rList K) := h ▸ c_list
theorem c_tupleK (h : X.K = K) : CallR X (.type "tuple") (rTuple K) := h ▸ c_tuple
theorem c_allK (h : X.K = K) (hc : X.calm = true) : CallR X (.builtin "all") (rAll K) := h ▸ cr_all hc
theorem c_anyK (h : X.K = K) (hc : X.calm = true) : CallR X (.builtin "any") (rAny K) := h ▸ cr_any hc
theorem sl_LK (h : X.K = K) : SlR X (rSlL K) := h ▸ sl_list
theorem op_eqDK (h : X.K = K) (hu : X.A.units + 64 < cLine) : OpR X (compareOp .Eq) (rEqD K) := h ▸ op_eqD hu
theorem op_neDK (h : X.K = K) (hu : X.A.units + 64 < cLine) : OpR X (compareOp .NotEq) (rNeD K) := h ▸ op_neD hu
theorem pi_listK {tg e : Expr} {te : TE} (h : X.K = K) (he : PE X e te) : PI X tg e (iList K te) := h ▸ pi_list he
theorem pi_tupK {tg e : Expr} {te : TE} (h : X.K = K) (he : PE X e te) : PI X tg e (iTup K te) := h ▸ pi_tup he
theorem pe_appK {o e : Expr} {to te : TE} {apos cpos : PySem.Pos} (h : X.K = K) (ho : PE X o to) (he : PE X e te) (hbase : attributeBase o "append" X.env (eval o X.env) = eval o X.env := by rfl)
    (hfew : ((backTo cpos (starEach [e] X.env)).all (fun x => !x.1) && (backToKw cpos (keywordEach [] X.env)).all (fun x => x.1.isSome) && decide ([e].length + ([] : List Keyword).length + (if ([] : List Keyword).isEmpty then 0 else 1) < 30)) = true := by rfl)
    (hline : (apos.endLine == cpos.line) = true := by rfl) (hs : starEach [e] X.env = (false, eval e X.env) :: starEach [] X.env := by rfl) (hplain : (backTo cpos (starEach [] X.env)).any (·.1) = false := by rfl) :
    PE X (.Call (.Attribute o "append" apos) [e] [] cpos) (tBM K "list" rAppend to (tCons te tNil)) := h ▸ pe_bm PySem.F.plainAttrs_list PySem.F.slot_list_append PySem.F.type_list_append mt_append ho (pa_cons he pa_nil hs) hbase hfew hline hs hplain
end
/-- two readings of one walk -/
def iOr (a b : TI) : TI := fun σ H R => a σ H R ∨ b σ H R
theorem pi_or {X : Cx} {tg e : Expr} {a b : TI} (h1 : PI X tg e a) (h2 : PI X tg e b) : PI X tg e (iOr a b) :=
  ⟨fun pos s σ H R I h => h.elim (h1.run pos s σ H R I) (h2.run pos s σ H R I)⟩
/-- a list or a tuple, or the empty tuple of the top -/
def SeqO (K : PySem.W.Frag) (H : Hp) (p : Addr) (xs : List V) : Prop := H p = some (.lst xs) ∨ H p = some (.tup xs) ∨ (xs = [] ∧ ∃ o n, K.lookup p = some o ∧ o.cls = .type "tuple" ∧ o.data = .seq #[] n)
section
variable {K : PySem.W.Frag} {H H' : Hp} {p x : Addr} {xs : List V}
theorem SeqO.go (h : SeqO K H p xs) (s : ∀ o, H p = some o → H' p = some o) : SeqO K H' p xs := h.imp (s _) (fun z => z.imp (s _) id)
theorem SeqO.same (h : SeqO K H p xs) (s : Same H H') : SeqO K H' p xs := h.go (s _)
theorem SeqO.keepI {C dx : Addr} {fs : List (Str × V)} (h : SeqO K H p xs) (s : Keep x H H') (hx : H x = some (.ins C dx fs)) : SeqO K H' p xs := by
  rcases h with h | h | h
  · exact .inl (s _ _ h (ne_of h hx (by intro z; cases z)))
  · exact .inr (.inl (s _ _ h (ne_of h hx (by intro z; cases z))))
  · exact .inr (.inr h)
theorem v_isiQ {Q : VK} {t : Addr} (h : SeqO K H p xs) (ht : H t = some (.tup [.ty "list", .ty "tuple"])) (q : Q (.bl true) H) : rIsiT K [.ref p, .ref t] H Q := by
  have key : TyX K H (.ref p) (.type "tuple") → rIsiT K [.ref p, .ref t] H Q := fun ty => ⟨.ref p, t, _, .type "tuple", [.type "list", .type "tuple"], true, rfl, ht, .cons (.ty _) (.cons (.ty _) .nil), ty, kitAny_cons (b := false) (kit_ty (by decide +kernel)) (fun _ => kitAny_cons (b := true) (kit_ty (by decide +kernel)) (fun z => nomatch z) (fun _ => rfl)) (fun z => nomatch z), q⟩
  rcases h with h | h | ⟨_, o, n, h, c, _⟩
  · exact v_isiL h ht q
  · exact key (.base (.tup h))
  · exact key (.kTuple h c)
/-- a for over a list or a tuple -/
theorem e_forSeq {te : TE} {g : TG} {tb : TS} {D : Ends} {σ : L2.St} {H0 : Hp} (hp : SeqO K H0 p xs) (s0 : Same H0 H) (ht : ∀ Q : VK, Q (.ref p) H → te σ H Q) (Pv : Nat → L2.St → Hp → Prop) (h0 : Pv 0 σ H) (hG : ∀ i σ' H', Pv i σ' H' → Same H0 H')
    (hs : ∀ i x σ H H', i < xs.length → Pv i σ H → YAt xs i H x H' → g x σ H' fun σ2 H2 => tb { D with nx := Pv (i + 1), ct := Pv (i + 1), bk := D.nx } σ2 H2) (hd : ∀ σ H, Pv xs.length σ H → D.nx σ H) : tFor (iOr (iList K te) (iTup K te)) g tb D σ H := by
  rcases hp with hp | hp | ⟨rfl, o, n, h, c, e⟩
  · exact Or.inl (ht _ ⟨p, rfl, ⟨xs, SqL.of (s0 _ _ hp)⟩, for_it walk_list Pv h0 (fun i σ' H' _ z => SqL.of (hG i σ' H' z _ _ hp)) hs hd⟩)
  · exact Or.inr (ht _ ⟨p, rfl, ⟨xs, SqT.of (s0 _ _ hp)⟩, for_it walk_tup Pv h0 (fun i σ' H' _ z => SqT.of (hG i σ' H' z _ _ hp)) hs hd⟩)
  · have k : ∀ H', SqT K H' p [] := fun H' => .inr ⟨o, #[], n, h, c, e, by decide, .nil⟩
    exact Or.inr (ht _ ⟨p, rfl, ⟨[], k _⟩, for_it walk_tup Pv h0 (fun i σ' H' _ z => k _) hs hd⟩)
end
theorem DPut.cross {H : Hp} {a : Addr} {kvs : List (Key × V)} {l : List Nat} {v : V} (e : H a = some (.dK kvs)) (hn : valV kvs (Sum.inr (tx l)) = none) (hl : kvs.length < 1000000) : DPut H a (.str (tx l)) v (upd H a (.dK (kvs ++ [(Sum.inr (tx l), v)]))) := by
  have h := DPut.k (k := Sum.inr (tx l)) (v := v) e (szlt hl)
  rw [putK_new v hn] at h
  exact h
theorem key_tx {a b : List Nat} : (Sum.inr (tx a) : Key) = Sum.inr (tx b) ↔ a = b := by
  constructor
  · intro h
    injection h with h
    exact tx_inj.mp h
  · intro h
    rw [h]
/-- a dict by letters -/
theorem letV_none {g : Nat → V} {k : Nat} : ∀ {l : List Nat}, ¬ k ∈ l → valV (l.map fun c => ((Sum.inr (tx [c]) : Key), g c)) (Sum.inr (tx [k])) = none
  | [], _ => rfl
  | c :: r, h => by
    rw [List.map_cons, valV_neg, letV_none fun z => h (List.mem_cons_of_mem _ z)]
    intro e
    have := key_tx.mp e
    injection this with e _
    exact h (e ▸ List.mem_cons_self ..)
theorem letV_some {g : Nat → V} {k : Nat} : ∀ {l : List Nat}, k ∈ l → valV (l.map fun c => ((Sum.inr (tx [c]) : Key), g c)) (Sum.inr (tx [k])) = some (g k)
  | [], h => by cases h
  | c :: r, h => by
    by_cases e : c = k
    · subst e
      rw [List.map_cons, valV_pos rfl]
    · rw [List.map_cons, valV_neg, letV_some ((List.mem_cons.mp h).resolve_left fun z => e z.symm)]
      intro z
      have := key_tx.mp z
      injection this with z _
      exact e z
theorem dget_let {H : Hp} {d : Addr} {g : Nat → V} {k : Nat} {l : List Nat} (h : H d = some (.dK (l.map fun c => ((Sum.inr (tx [c]) : Key), g c)))) (hk : k ∈ l) : DGet H d (.str (tx [k])) (some (g k)) := by
  have e := DGet.k (k := Sum.inr (tx [k])) h
  rw [letV_some hk] at e
  exact e
theorem take_notin {l : List Nat} (h : l.Nodup) {i : Nat} (hi : i < l.length) : ¬ l.getD i 0 ∈ l.take i := by
  intro m
  obtain ⟨j, hj, e⟩ := List.mem_iff_getElem.mp m
  rw [List.length_take] at hj
  rw [List.getElem_take, List.getD_eq_getElem?_getD, List.getElem?_eq_getElem hi] at e
  have := (List.getElem_inj h).mp e
  omega
end Cw
set_option Elab.async false
set_option linter.all false
set_option maxRecDepth 100000
set_option maxHeartbeats 4000000
/-! the same steps, what is to be found asked behind the match -/
namespace Cw
open PySem PySem.Spec L2
section
variable {σ : St} {H : Hp} {Q : VK} {i : Nat} {y : V} {K : PySem.W.Frag}
theorem e_varG (q : ∃ v, σ[i]? = some (some v) ∧ Q v H) : tVar i σ H Q := q
theorem v_lenG {p : Addr} (q : ∃ ys, H p = some (.lst ys) ∧ Q (.int (ys.length : Nat)) H) : rLen K [.ref p] H Q := by
  obtain ⟨ys, h, q⟩ := q
  exact v_len h q
theorem v_inLG {x : List Nat} {p : Addr} (q : ∃ ls : List (List Nat), H p = some (.lst (ls.map fun l => V.str (tx l))) ∧ Q (.bl (decide (x ∈ ls))) H) : rIn K false (.str (tx x)) (.ref p) H Q := by
  obtain ⟨ys, h, q⟩ := q
  exact v_inL h q
theorem v_lenSetG {P : Program} {w : World} {p : Addr} (q : ∃ l : List Str, H p = some (SetT P w p l) ∧ Q (.int (l.length : Nat)) H) : rLenSet P w [.ref p] H Q := by
  obtain ⟨ys, h, q⟩ := q
  exact v_lenSet h q
theorem v_tyLG {P : Prop} {p : Addr} (q : ∃ xs, H p = some (.lst xs) ∧ P) : tyV K "list" (.ref p) H ∧ P := by
  obtain ⟨ys, h, q⟩ := q
  exact v_tyL h q
theorem v_iLG {P : Addr → Prop} {a : Addr} (q : ∃ xs, H a = some (.lst xs) ∧ P a) : ∃ a', V.ref a = .ref a' ∧ (∃ xs, SqL K H a' xs) ∧ P a' := by
  obtain ⟨ys, h, q⟩ := q
  exact v_iL h q
theorem v_dgetG {P : V → Prop} {a : Addr} (q : ∃ v, DGet H a y (some v) ∧ P v) : ∃ a' v, V.ref a = .ref a' ∧ DGet H a' y (some v) ∧ P v := by
  obtain ⟨v, h, q⟩ := q
  exact v_dget h q
end
end Cw
set_option Elab.async false
set_option linter.all false
set_option maxRecDepth 100000
set_option maxHeartbeats 4000000
/-! C(..) as a call with a promise of its own -/
namespace Cw
open PySem PySem.Spec L2
/-- from what a caller wants of C(..) to what __init__ promises -/
def Conv (C : Addr) (sp0 sp : Sp) : Prop := ∀ vs H Q E, sp vs H Q E → ∀ x dx, H x = none → H dx = none → dx ≠ x → sp0 (.ref x :: vs) (upd (upd H dx (.own x)) x (.ins C dx [])) (fun v H2 => v = .non ∧ Q (.ref x) H2) E
structure CDef (P : Program) (w : World) (K : PySem.W.Frag) (mg : Str → Option Value) (base : Heap) (CX : CXT) (k : Nat) (x : Str) (C : Addr) (sp : Sp) : Prop where
  ex : ∃ f fd ps sp0, mg x = some (.ref C) ∧ Mk K C f ∧ Binds K fd ps [] ∧ FnOk P w K mg base CX k f fd ps sp0 ∧ Conv C sp0 sp
section
variable {X : Cx} {CX : CXT} {k : Nat} {sp : Sp} {E : XK} {x : Str} {C : Addr} {p pos : PySem.Pos} {e : Expr} {es : List Expr} {t : TA}
theorem pe_mk (D : CDef X.prog X.w X.K X.mg X.base CX k x C sp) (hr : Room (k + 1) X.A) (hx : Passes CX X E) (ha : PA X (e :: es) t) (hg : Gl X x := by rfl) (hdb : (x == ("__debug__" : Str)) = false := by decide)
    (he : starEach (e :: es) X.env = (false, eval e X.env) :: starEach es X.env := by rfl) (hpl : (backTo pos (starEach es X.env)).any (·.1) = false := by rfl) : PE X (.Call (.Name x p) (e :: es) [] pos) (tCall sp [] E t) := by
  obtain ⟨f, fd, ps, sp0, hm, M, hb, F, cv⟩ := D.ex
  refine ⟨fun pins s σ H Q I h => ?_⟩
  refine wpAny_Call_Name_kw (ld_glob I hg hm ?_ hdb)
  refine PySem.W.callWith_K (h₀ := X.base) I.ok.mod.kin M.kp (thn (ha.run pos pins s σ H _ I h) fun us s1 ⟨vs, H1, I1, r, q⟩ => ⟨I1.kIn, ?_⟩) he hpl
  refine run_make M F hr hb .nil hx I1 r fun a da n1 n2 n3 => ?_
  have q : sp (vs ++ []) H1 Q E := q
  rw [List.append_nil] at q ⊢
  exact cv vs H1 Q E q a da n1 n2 n3
end
/-- a method with defaults, all parameters given -/
structure MAtD (K : PySem.W.Frag) (C : Addr) (m qual : Str) (st : Stmt) (dvs : List V) : Prop where
  ex : ∃ f fd, PySem.W.findIn K (.ref C) m = some (some (.ref f)) ∧ PySem.W.isFn K (.ref f) = true ∧ FunD K m qual (defArgs st) (defBody st) (defScope st) dvs [] f fd
section
variable {P : Program} {w : World} {K : PySem.W.Frag} {mg : Str → Option Value} {base : Heap} {CX : CXT} {k : Nat} {C : Addr} {x qual : Str} {ps N : List Str} {sp sp0 : Sp} {st : Stmt} {dvs : List V}
/-- C(..) by its __init__ -/
structure CMk (P : Program) (w : World) (K : PySem.W.Frag) (mg : Str → Option Value) (base : Heap) (CX : CXT) (k : Nat) (x : Str) (C : Addr) (sp : Sp) (ps : List Str) (qual : Str) (st : Stmt) (dvs : List V) : Prop where
  ex : ∃ f fd sp0, mg x = some (.ref C) ∧ Mk K C f ∧ Binds K fd ps [] ∧ FnOk P w K mg base CX k f fd ps sp0 ∧ Conv C sp0 sp ∧ FunD K "__init__" qual (defArgs st) (defBody st) (defScope st) dvs [] f fd
theorem CMk.cdef (D : CMk P w K mg base CX k x C sp ps qual st dvs) : CDef P w K mg base CX k x C sp := by
  obtain ⟨f, fd, sp0, a, b, c, d, e, _⟩ := D.ex
  exact ⟨f, fd, ps, sp0, a, b, c, d, e⟩
/-- C(..) by its __init__, that lets nothing out; h: how the arguments bind where all are given -/
theorem MAtD.make (F : MAtD K C "__init__" qual st dvs) (cf : ClsF K mg x C) (S : FnScope N ps (defScope st)) (hd : dvs ≠ [])
    (hb : ∀ (T : Addr) (kV doc pm : Value) (an : Option Addr) (cdv ct : Value) (us its : List Value), us.length = ps.length → its.length = dvs.length →
      ∃ k, bindArgs (PySem.W.fnOf "__init__" qual (defArgs st) (defBody st) (defScope st) (.ref T) kV doc pm an cdv ct) ⟨us, []⟩ = seqItems? (.ref T) >>= k ∧ k (some its.toArray) = pure (ps.zip (us ++ its.drop dvs.length)))
    (len : ∀ vs H Q E, sp0 vs H Q E → vs.length = ps.length) (cv : Conv C sp0 sp)
    (hbody : ∀ (f : Addr) (cdv : Value) (A : Around) (outer : List Env) (s : Shared) (H : Hp) (vs : List V) (Q : VK) (E : XK), Room k (A.deeper (PyProof.Rows.envOfC qual (defScope st) s.heap.objs.size f cdv)) → sp0 vs H Q E →
      ∃ t, PSs (cxOf CX0 P w K mg base N qual (defScope st) f cdv A outer s H E).nox (defBody st) t ∧ t { nx := fun _ H' => Q .non H', rt := Q } (start N vs) H) : CMk P w K mg base CX0 (k + 1) x C sp ps qual st dvs := by
  obtain ⟨f, fd, h1, h2, F⟩ := F.ex
  have B : Binds K fd ps [] := by
    obtain ⟨ds, r, b⟩ := F.binds1 (ps := ps) ps.length dvs.length hd (by omega) fun T kV doc pm an cdv ct us its l1 l2 => hb T kV doc pm an cdv ct us its l1 l2
    rw [List.drop_of_length_le (Nat.le_refl _)] at r
    cases r
    exact b
  refine ⟨f, fd, sp0, cf.at, ⟨cf.mks, h1, h2, cf.kp⟩, B, F.ok S len fun cdv A outer s H vs Q E hr h => ?_, cv, F⟩
  obtain ⟨t, a, b⟩ := hbody f cdv A outer s H vs Q E hr h
  exact ⟨t, a.nox, b⟩
theorem CDef.mono {j : Nat} (D : CDef P w K mg base CX j x C sp) (h : j ≤ k) : CDef P w K mg base CX k x C sp := by
  obtain ⟨f, fd, ps, sp0, a, b, c, d, e⟩ := D.ex
  exact ⟨f, fd, ps, sp0, a, b, c, d.mono h, e⟩
end
end Cw
set_option Elab.async false
set_option linter.all false
set_option maxRecDepth 100000
set_option maxHeartbeats 4000000
/-! enumerate(text) -/
namespace Cw
open PySem PySem.Spec L2
def Itx (l : List Nat) : It := ⟨fun i _ => i < l.length, fun i H v H' => ∃ T c, v = .ref T ∧ H T = none ∧ H' = upd H T (.tup [.int (i : Nat), .str (tx [c])]) ∧ l[i]? = some c, fun i _ => l.length ≤ i⟩
theorem turn_enumS {P : Program} {w : World} {K : PySem.W.Frag} {elts : List Expr} {kk : Nat} {tpos : PySem.Pos} (l : List Nat) (t : Tok) (e it : Addr) (hne : e ≠ it) :
    Turn P w K (.Tuple elts kk tpos) (Itx l) [e, it] e (fun i h => i ≤ l.length ∧ (∃ old, IsEnum h e it (i : Nat) old) ∧ h.IsStrIter it (strIterType (tx l)) (tx l) t i) where
  mem := by simp
  obj := fun i h st b hb => by
    obtain ⟨_, ⟨old, he⟩, ⟨o, ho, hc, hd⟩⟩ := st
    simp only [List.mem_cons, List.not_mem_nil, or_false] at hb
    rcases hb with z | z
    · subst z; exact ⟨_, he, fun v q => nomatch q⟩
    · subst z; exact ⟨o, ho, fun v q => by rw [hd] at q; cases q⟩
  keep := fun i h h' st k => by
    obtain ⟨a, ⟨old, he⟩, ⟨o, ho, r⟩⟩ := st
    exact ⟨a, ⟨old, k e (by simp) _ he⟩, ⟨o, k it (by simp) o ho, r⟩⟩
  item := by
    intro X hP hw hK hc i pins s σ H E I hf st hg
    subst hP hw hK
    obtain ⟨hi, st⟩ := st
    have hg : i < l.length := hg
    have W := WalksT.enumerateD (A := X.A) (Draws.text (prog := X.prog) (w := X.w) (A := X.A.in1) (I.ok.hd hc) it (tx l) t) e hne (by simp [hne]) (by simp)
    have hel : e < s.heap.objs.size := by obtain ⟨⟨_, he⟩, _⟩ := st; exact Heap.lt_size he
    have hil : it < s.heap.objs.size := by obtain ⟨_, ⟨_, q, _⟩⟩ := st; exact Heap.lt_size q
    refine W.item i s _ E (by simpa using hg) st fun T vals h' tk hv hT isT mid kp => ⟨_, rfl, W.go elts kk tpos i T { s with heap := h', toks := tk } _ E mid fun h2 st2 kp2 => ?_⟩
    obtain ⟨t', x, hx, rfl⟩ := hv
    obtain ⟨c, u, hc', rfl⟩ := hx
    have hTw := W.apart i T h' mid
    obtain ⟨o, ho, r⟩ := isT
    have isT2 : h2.IsTuple T #[.int i t', .str ⟨#[c]⟩ u] := ⟨o, kp2 T o hTw ho, r⟩
    have new : ObjOk X.prog X.w (upd H T (.tup [.int (i : Nat), .str (tx [c])])) h2 T (.tup [.int (i : Nat), .str (tx [c])]) := ⟨by show 2 ≤ sizeLine; decide, [.int i t', .str ⟨#[c]⟩ u], .cons ⟨_, rfl⟩ (.cons ⟨_, rfl⟩ .nil), isT2⟩
    refine ⟨.ref T, _, I.turnedNew (ch := [e, it]) (t' := tk) (fun b ob hb q => kp2 b ob hb (kp b ob hb q)) hf hT new, rfl, ⟨T, c, rfl, I.hok.fresh hT, rfl, by simpa using hc'⟩, ⟨hg, st2⟩, fun b hb => ?_⟩
    have hb2 : b < T := by
      simp only [List.mem_cons, List.not_mem_nil, or_false] at hb
      rcases hb with z | z
      · rw [z]; exact Nat.lt_of_lt_of_le hel hT
      · rw [z]; exact Nat.lt_of_lt_of_le hil hT
    rw [upd_ne (Nat.ne_of_lt hb2)]
    exact (hf b hb).1
  done := by
    intro X hP hw hK hc i pins s σ H E I hf st hg
    subst hP hw hK
    obtain ⟨hi, st⟩ := st
    have hg : l.length ≤ i := hg
    have e1 : i = (tx l).cps.size := by
      have : (tx l).cps.size = l.length := by simp
      omega
    subst e1
    have W := WalksT.enumerateD (A := X.A) (Draws.text (prog := X.prog) (w := X.w) (A := X.A.in1) (I.ok.hd hc) it (tx l) t) e hne (by simp [hne]) (by simp)
    exact W.done s _ E st fun h' tk kp => ⟨rfl, I.turnedL kp hf⟩
  self := fun A i s Q E st h => by
    obtain ⟨_, ⟨_, he⟩, _⟩ := st
    exact wpAny_pyIter_enum he h
def iEnumS (ta : TA) : TI := fun σ H R => ta σ H fun vs H1 => ∃ l : List Nat, vs = [.str (tx l)] ∧ R (Itx l) H1
theorem pi_enumS {X : Cx} {e : Expr} {ta : TA} {p pos tpos : PySem.Pos} {elts : List Expr} {kk : Nat} (hg : Gl X "enumerate") (hm : X.mg "enumerate" = none) (ha : PA X [e] ta) (hs : starEach [e] X.env = [(false, eval e X.env)] := by rfl) :
    PI X (.Tuple elts kk tpos) (.Call (.Name "enumerate" p) [e] [] pos) (iEnumS ta) := by
  refine ⟨fun pins s σ H R I h => ?_⟩
  refine PyProof.Rows.Call_ (ld_blt I hg hm PyProof.Rows.boot_enumerate (PyProof.Rows.callWith_type1 (thn (ha.run pos pins s σ H _ I h) fun us s1 ⟨vs, H1, I1, r1, l, ex, q⟩ => ?_) hs rfl))
  subst ex
  obtain ⟨u, rfl, t, rfl⟩ := vals1 r1
  refine call_enumerate_str fun h' he hit hsz hk => wpAny_pyIter_enum he ?_
  have I2 : L2.Inv X pins σ H1 { s1 with heap := h' } := I1.kept (t' := s1.toks) hk
  refine ⟨s1.heap.objs.size + 1, [s1.heap.objs.size + 1, s1.heap.objs.size], _, _, H1, rfl, I2, turn_enumS l t (s1.heap.objs.size + 1) s1.heap.objs.size (Nat.succ_ne_self _), ⟨Nat.zero_le _, ⟨.none, he⟩, hit⟩, fun b hb => ?_, q⟩
  have hle : s1.heap.objs.size ≤ b := by
    simp only [List.mem_cons, List.not_mem_nil, or_false] at hb
    rcases hb with z | z
    · rw [z]; exact Nat.le_succ _
    · rw [z]; exact Nat.le_refl _
  exact I1.fpOk hle (I1.hok.fresh hle)
theorem walk_enumS (l : List Nat) : Walk (Itx l) l.length (fun _ => True) (fun i H v H' => ∃ T c, v = .ref T ∧ H T = none ∧ H' = upd H T (.tup [.int (i : Nat), .str (tx [c])]) ∧ l[i]? = some c) :=
  ⟨fun _ _ hi _ => hi, fun _ _ => Nat.le_refl _, fun _ _ _ _ _ _ y => y⟩
section
variable {σ : St} {H : Hp}
theorem e_iEnumS {ta : TA} {R : It → Hp → Prop} (q : ta σ H fun vs H1 => ∃ l : List Nat, vs = [.str (tx l)] ∧ R (Itx l) H1) : iEnumS ta σ H R := q
theorem v_iEnumS {P : List Nat → Prop} {l : List Nat} (q : P l) : ∃ l' : List Nat, [V.str (tx l)] = [.str (tx l')] ∧ P l' := ⟨l, rfl, q⟩
end
end Cw
set_option Elab.async false
set_option linter.all false
set_option maxRecDepth 100000
set_option maxHeartbeats 4000000
/-! pairs of a number and a text, compared -/
namespace Cw
open PySem PySem.Spec L2
section
variable {X : Cx} {op : CmpOp} {ri : Int → Int → Bool} {rs : List Nat → List Nat → Bool} {z : Bool}
end
end Cw
set_option Elab.async false
set_option linter.all false
set_option maxRecDepth 100000
set_option maxHeartbeats 4000000
/-! names: one step, as a plain function -/
namespace Cw
open PySem PySem.Spec L2
/-- the name (turned about) without its last letters out of part, and these -/
def splitB (part : List Nat) : List Nat → List Nat → List Nat × List Nat
  | [], b => ([], b)
  | x :: r, b => if x ∈ part then splitB part r (x :: b) else (x :: r, b)
def putIn (k : Nat) (b : List Nat) : List Nat := b.takeWhile (fun c => decide (c < k)) ++ k :: b.dropWhile (fun c => decide (c < k))
def stepAt (k : Nat) (ra b : List Nat) : List Nat := if ra.head? = some k then ra.tail.reverse ++ b else ra.reverse ++ putIn k b
def stepOf (part name : List Nat) (k : Nat) : List Nat := stepAt k (splitB part name.reverse []).1 (splitB part name.reverse []).2
def joinOf (ks : List Nat) (ps : List (List Nat)) (name way : List Nat) : List Nat := way.foldl (fun n k => stepOf (crossOf ks ps k) n k) name
def backOf (ks : List Nat) (ps : List (List Nat)) (name : List Nat) : List Nat := joinOf ks ps [] name.reverse
def wayOf (ks : List Nat) (ps : List (List Nat)) (name goal : List Nat) : List Nat := joinOf ks ps (backOf ks ps name) goal
theorem splitB_eq (part : List Nat) : ∀ ra b : List Nat, (splitB part ra b).1.reverse ++ (splitB part ra b).2 = ra.reverse ++ b
  | [], b => rfl
  | x :: r, b => by
    unfold splitB
    by_cases h : x ∈ part
    · rw [if_pos h, splitB_eq part r (x :: b), List.reverse_cons, List.append_assoc]
      rfl
    · rw [if_neg h]
theorem putIn_len (k : Nat) (b : List Nat) : (putIn k b).length = b.length + 1 := by
  unfold putIn
  have h : (b.takeWhile (fun c => decide (c < k)) ++ b.dropWhile (fun c => decide (c < k))).length = b.length := by rw [List.takeWhile_append_dropWhile]
  rw [List.length_append] at h
  rw [List.length_append, List.length_cons]
  omega
theorem putIn_mem {k c : Nat} {b : List Nat} (h : c ∈ putIn k b) : c = k ∨ c ∈ b := by
  unfold putIn at h
  rw [List.mem_append, List.mem_cons] at h
  rcases h with h | h | h
  · exact .inr (List.takeWhile_sublist _ |>.subset h)
  · exact .inl h
  · exact .inr (List.dropWhile_sublist _ |>.subset h)
theorem stepAt_len (k : Nat) (ra b : List Nat) : (stepAt k ra b).length ≤ ra.length + b.length + 1 := by
  unfold stepAt
  split
  · rw [List.length_append, List.length_reverse, List.length_tail]
    omega
  · rw [List.length_append, List.length_reverse, putIn_len]
    omega
theorem stepAt_mem {k c : Nat} {ra b : List Nat} (h : c ∈ stepAt k ra b) : c = k ∨ c ∈ ra.reverse ++ b := by
  unfold stepAt at h
  split at h
  · rw [List.mem_append, List.mem_reverse] at h
    rcases h with h | h
    · exact .inr (List.mem_append_left _ (List.mem_reverse.mpr (List.mem_of_mem_tail h)))
    · exact .inr (List.mem_append_right _ h)
  · rw [List.mem_append] at h
    rcases h with h | h
    · exact .inr (List.mem_append_left _ h)
    · rcases putIn_mem h with e | e
      · exact .inl e
      · exact .inr (List.mem_append_right _ e)
theorem stepOf_len (part name : List Nat) (k : Nat) : (stepOf part name k).length ≤ name.length + 1 := by
  have h := congrArg List.length (splitB_eq part name.reverse [])
  simp only [List.length_append, List.length_reverse, List.length_nil] at h
  have := stepAt_len k (splitB part name.reverse []).1 (splitB part name.reverse []).2
  unfold stepOf
  omega
theorem stepOf_mem {part name : List Nat} {k c : Nat} (h : c ∈ stepOf part name k) : c = k ∨ c ∈ name := by
  have := stepAt_mem h
  rw [splitB_eq, List.reverse_reverse, List.append_nil] at this
  exact this
theorem joinOf_len (ks : List Nat) (ps : List (List Nat)) : ∀ (way name : List Nat), (joinOf ks ps name way).length ≤ name.length + way.length
  | [], name => Nat.le_refl _
  | k :: r, name => by
    show (joinOf ks ps (stepOf (crossOf ks ps k) name k) r).length ≤ _
    have := joinOf_len ks ps r (stepOf (crossOf ks ps k) name k)
    have := stepOf_len (crossOf ks ps k) name k
    rw [List.length_cons]
    omega
theorem joinOf_mem {ks : List Nat} {ps : List (List Nat)} {c : Nat} : ∀ {way name : List Nat}, c ∈ joinOf ks ps name way → c ∈ name ∨ c ∈ way
  | [], name, h => .inl h
  | k :: r, name, h => by
    rcases joinOf_mem (way := r) (name := stepOf (crossOf ks ps k) name k) h with z | z
    · rcases stepOf_mem z with e | e
      · exact .inr (e ▸ List.mem_cons_self ..)
      · exact .inl e
    · exact .inr (List.mem_cons_of_mem _ z)
theorem joinOf_snoc {ks : List Nat} {ps : List (List Nat)} {name way : List Nat} {k : Nat} : joinOf ks ps name (way ++ [k]) = stepOf (crossOf ks ps k) (joinOf ks ps name way) k := by
  unfold joinOf
  rw [List.foldl_append]
  rfl
theorem backOf_len (ks : List Nat) (ps : List (List Nat)) (name : List Nat) : (backOf ks ps name).length ≤ name.length := by
  have := joinOf_len ks ps name.reverse []
  rw [List.length_reverse, List.length_nil] at this
  unfold backOf
  omega
theorem backOf_mem {ks : List Nat} {ps : List (List Nat)} {c : Nat} {name : List Nat} (h : c ∈ backOf ks ps name) : c ∈ name := by
  rcases joinOf_mem h with z | z
  · cases z
  · exact List.mem_reverse.mp z
theorem wayOf_len (ks : List Nat) (ps : List (List Nat)) (name goal : List Nat) : (wayOf ks ps name goal).length ≤ name.length + goal.length := by
  have := joinOf_len ks ps goal (backOf ks ps name)
  have := backOf_len ks ps name
  unfold wayOf
  omega
/-! ### letters at their places -/
theorem at_last {x : Nat} {r b : List Nat} : atI ((x :: r).reverse ++ b) (((x :: r).length : Int) - 1) = some x := by
  have e : (((x :: r).length : Int) - 1) = ((r.length : Nat) : Int) := by
    rw [List.length_cons]
    omega
  rw [e]
  refine atI_nat ?_
  rw [List.reverse_cons, List.append_assoc, List.getElem?_append_right (by rw [List.length_reverse]; exact Nat.le_refl _), List.length_reverse, Nat.sub_self]
  rfl
theorem at_mid {x : Nat} {a b : List Nat} : atI (a ++ x :: b) ((a.length : Nat) : Int) = some x := by
  refine atI_nat ?_
  rw [List.getElem?_append_right (Nat.le_refl _), Nat.sub_self]
  rfl
theorem lt_one {a k : Nat} : decide ([a] < [k]) = decide (a < k) := by
  refine decide_eq_decide.mpr ⟨fun h => ?_, fun h => List.Lex.rel h⟩
  cases h with
  | rel h => exact h
  | cons h => cases h
section
variable {σ : St} {H : Hp} {tb : TS} {D : Ends} {tt : TT}
theorem g_nm {i : Nat} {v : V} {Q : St → Hp → Prop} (q : Q (σ.set i (some v)) H) : gName i v σ H Q := q
theorem s_while (W : Nat → St → Hp → Prop) (m : Nat) (h0 : W m σ H) (hs : ∀ m σ H, W m σ H → tt σ H fun b H1 => if b = true then ∃ N : St → Hp → Prop, (∀ σ' H', N σ' H' → ∃ m', m' < m ∧ W m' σ' H') ∧ tb { D with nx := N, ct := N, bk := D.nx } σ H1 else D.nx σ H1) : tWhile tt tb D σ H := ⟨W, ⟨m, h0⟩, hs⟩
theorem v_turn {W : Nat → St → Hp → Prop} {m : Nat} (q : tb { D with nx := fun σ' H' => ∃ m', m' < m ∧ W m' σ' H', ct := fun σ' H' => ∃ m', m' < m ∧ W m' σ' H', bk := D.nx } σ H) : ∃ N : St → Hp → Prop, (∀ σ' H', N σ' H' → ∃ m', m' < m ∧ W m' σ' H') ∧ tb { D with nx := N, ct := N, bk := D.nx } σ H := ⟨_, fun _ _ h => h, q⟩
end
section
variable {H : Hp} {Q : VK} {K : PySem.W.Frag} {p q : Addr}
theorem ok_strs {ls : List (List Nat)} (h : ∀ l ∈ ls, ∀ c ∈ l, c < 1000) : ∀ x ∈ ls.map tx, PyData.strOk x = true := by
  intro x hx
  obtain ⟨l, hl, rfl⟩ := List.mem_map.mp hx
  exact ok_tx (h l hl)
theorem map_tx_inj {a b : List (List Nat)} : a.map tx = b.map tx ↔ a = b := by
  constructor
  · intro h
    induction a generalizing b with
    | nil => cases b with
      | nil => rfl
      | cons y b => cases h
    | cons x a ih => cases b with
      | nil => cases h
      | cons y b =>
        rw [List.map_cons, List.map_cons] at h
        injection h with h1 h2
        rw [tx_inj.mp h1, ih h2]
  · intro h
    rw [h]
theorem strsV_map (ls : List (List Nat)) : strsV ls = (ls.map tx).map V.str := by
  unfold strsV
  rw [List.map_map]
  rfl
theorem v_eqT {a b : List (List Nat)} (h1 : H p = some (.tup (strsV a))) (h2 : H q = some (.tup (strsV b))) (ha : ∀ l ∈ a, ∀ c ∈ l, c < 1000) (hb : ∀ l ∈ b, ∀ c ∈ l, c < 1000) (k : Q (.bl (decide (a = b))) H) : rEqD K (.ref p) (.ref q) H Q := by
  rw [strsV_map] at h1 h2
  refine ⟨.tuple ((a.map tx).map PyData.str), .tuple ((b.map tx).map PyData.str), .tup (SqT.of h1) (dp_strs _), .tup (SqT.of h2) (dp_strs _), shaped_strsT _ (ok_strs ha), shaped_strsT _ (ok_strs hb), ?_⟩
  have e : PyData.eqv (.tuple ((a.map tx).map PyData.str)) (.tuple ((b.map tx).map PyData.str)) = decide (a = b) := by
    show PyData.eqvAll _ _ = _
    rw [eqvAll_strs, decide_eq_decide]
    exact map_tx_inj
  rw [e]
  exact k
end
end Cw
set_option Elab.async false
set_option linter.all false
set_option maxRecDepth 100000
set_option maxHeartbeats 4000000
/-! errors of one's own without values -/
namespace Cw
open PySem PySem.Spec L2
/-- an error class of the text, down from ValueError, without an __init__ -/
structure ExcF (K : PySem.W.Frag) (mg : Str → Option Value) (x : Str) (C : Addr) : Prop where
  «at» : mg x = some (.ref C)
  exc : PySem.W.excIn K C [.type "ValueError", .type "Exception", .type "BaseException", .type "object"] "ValueError.__new__" = true
  kp : PySem.W.keepIn K (.ref C) = true
  ty : PySem.W.typeIn K (.ref C) = some (.type "type")
  ec : ExcC K C
section
variable {X : Cx} {C : Addr} {x : Str} {p pos : PySem.Pos}
theorem pmk_own0 (F : ExcF X.K X.mg x C) (hg : Gl X x := by rfl) (hdb : (x == ("__debug__" : Str)) = false := by decide) : PMk X (.Call (.Name x p) [] [] pos) (fun _ H Q => Q (.ref C) none H) := by
  intro pins s σ H Q I h
  refine PySem.wpAny_Call_Name_kw (ld_glob I hg F.at ?_ hdb)
  refine PySem.W.callWith_K0 I.kIn F.kp ?_
  show wpAny _ _ (call (.ref C) []) _ _ _
  obtain ⟨bm, N, nm, qn, bs, hdct, sn, sub, ab, col, dd, k0, k1, k2, k3, k5, mN, hC, hN, hni, T⟩ := exc_obj I.kIn F.exc
  refine wpAny_call_exc_subT PySem.F.excBase_ValueError T hC hN hni (fun h' e hm => ?_) (Nat.zero_le _)
  exact mk_of I hm (raises_own F.ec.hs F.ty) h (I.hok.gone hm.new)
end
theorem v_gTup2 {K : PySem.W.Frag} {n i j : Nat} {σ : St} {H : Hp} {Q : St → Hp → Prop} {p : Addr} {a b : V} (hn : n = 2) (h : H p = some (.tup [a, b])) (q : Q ((σ.set i (some a)).set j (some b)) H) : gTup K n (gCons (gName i) (gCons (gName j) gNil)) (.ref p) σ H Q :=
  ⟨p, _, rfl, SqT.of h, hn.symm, a, [b], rfl, b, [], rfl, rfl, q⟩
theorem e_md {C : Addr} {m : Str} {sp : Sp} {E : XK} {ta : TE} {t : TA} {σ : St} {H : Hp} {Q : VK} (q : ta σ H fun x H1 => ∃ a dx fs, x = .ref a ∧ H1 a = some (.ins C dx fs) ∧ fs.lookup m = none ∧ t σ H1 fun vs H2 => sp (x :: vs) H2 Q E) : tMeth C m sp [] E ta t σ H Q := by
  have e : tMeth C m sp [] E ta t = fun σ H Q => ta σ H fun x H1 => ∃ a dx fs, x = .ref a ∧ H1 a = some (.ins C dx fs) ∧ fs.lookup m = none ∧ t σ H1 fun vs H2 => sp (x :: vs) H2 Q E := by
    unfold tMeth
    simp only [List.append_nil]
  rw [e]
  exact q
end Cw
set_option Elab.async false
set_option linter.all false
set_option maxRecDepth 100000
set_option maxHeartbeats 4000000
/-! what the laws' own helpers need: copies of dicts, pop, several names at once, walks over dicts -/
namespace Cw
open PySem PySem.Spec L2
section
variable {σ : St} {H : Hp} {Q : VK} {D : Ends} {K : PySem.W.Frag} {X : Cx}
theorem v_listD {a : Addr} {kvs : List (Key × V)} (h : H a = some (.dK kvs)) (q : ∀ p H', H p = none → Same H H' → H' p = some (.lst (kvs.map fun kv => kV kv.1)) → Q (.ref p) H') : rListD [.ref a] H Q := ⟨a, kvs, rfl, h, fun p hp => q p _ hp (Same.new hp) upd_same⟩
theorem pe_popK {o e : Expr} {to te : TE} {apos cpos : PySem.Pos} (h : X.K = K) (ho : PE X o to) (he : PE X e te) (hbase : attributeBase o "pop" X.env (eval o X.env) = eval o X.env := by rfl)
    (hfew : ((backTo cpos (starEach [e] X.env)).all (fun x => !x.1) && (backToKw cpos (keywordEach [] X.env)).all (fun x => x.1.isSome) && decide ([e].length + ([] : List Keyword).length + (if ([] : List Keyword).isEmpty then 0 else 1) < 30)) = true := by rfl)
    (hline : (apos.endLine == cpos.line) = true := by rfl) (hs : starEach [e] X.env = (false, eval e X.env) :: starEach [] X.env := by rfl) (hplain : (backTo cpos (starEach [] X.env)).any (·.1) = false := by rfl) :
    PE X (.Call (.Attribute o "pop" apos) [e] [] cpos) (tBM K "list" rPopAt to (tCons te tNil)) := h ▸ pe_bm PySem.F.plainAttrs_list PySem.F.slot_list_pop PySem.F.type_list_pop mt_popAt ho (pa_cons he pa_nil hs) hbase hfew hline hs hplain
theorem v_pop {p : Addr} {xs : List V} {i : Int} {y : V} (h : H p = some (.lst xs)) (h0 : 0 ≤ i) (h1 : i < xs.length) (h2 : xs.length ≤ 1000000) (hy : xs[i.toNat]? = some y) (q : ∀ H', Keep p H H' → H' p = some (.lst (xs.eraseIdx i.toNat)) → Q y H') : rPopAt (.ref p) [.int i] H Q := by
  refine ⟨p, xs, i, i.toNat, y, rfl, rfl, h, by omega, by omega, ?_, hy, q _ Keep.put upd_same⟩
  unfold seqIndex?
  simp only [if_neg (show ¬ i < 0 by omega)]
  first
    | rw [if_pos (by omega)]
    | simp [h0, h1]
theorem e_par {i j : Nat} {ta : TA} (q : ta σ H fun vs H1 => ∃ v w, vs = [v, w] ∧ D.nx ((σ.set i (some v)).set j (some w)) H1) : tPar i j ta D σ H := q
theorem v_par {v w : V} {P : V → V → Prop} (q : P v w) : ∃ v' w', [v, w] = [v', w'] ∧ P v' w' := ⟨v, w, rfl, q⟩
theorem e_par3 {i j l : Nat} {ta : TA} (q : ta σ H fun vs H1 => ∃ u v w, vs = [u, v, w] ∧ D.nx (((σ.set i (some u)).set j (some v)).set l (some w)) H1) : tPar3 i j l ta D σ H := q
theorem v_par3 {u v w : V} {P : V → V → V → Prop} (q : P u v w) : ∃ u' v' w', [u, v, w] = [u', v', w'] ∧ P u' v' w' := ⟨u, v, w, rfl, q⟩
theorem e_iK {td : TE} {R : It → Hp → Prop} (q : td σ H fun x H1 => ∃ d o, x = .ref d ∧ ((∃ kvs, H1 d = some (.frz o (.dK kvs)) ∧ R (Itk d o kvs) H1) ∨ ∃ kvs, H1 d = some (.frz o (.dT kvs)) ∧ R (Itkt d o kvs) H1)) : iKeys td σ H R := q
theorem e_dnotin {ty td : TE} (q : ty σ H fun y H1 => td σ H1 fun x H2 => ∃ a o, x = .ref a ∧ DGet H2 a y o ∧ Q (.bl (!o.isSome)) H2) : tDNotIn ty td σ H Q := q
end
theorem erase_perm {α : Type} : ∀ (l : List α) (i : Nat) (h : i < l.length), (l[i] :: l.eraseIdx i).Perm l
  | x :: r, 0, _ => .refl _
  | x :: r, i + 1, h => by
    have h' : i < r.length := by simpa using h
    have ih := erase_perm r i h'
    show (r[i] :: x :: r.eraseIdx i).Perm (x :: r)
    exact (List.Perm.swap x _ _).trans (ih.cons x)
/-! ### tables by letters -/
def tabKV (ls : List Nat) (f : Nat → List Nat) : List (Key × V) := ls.map fun c => ((Sum.inr (tx [c]) : Key), V.str (tx (f c)))
structure Tab (ls : List Nat) (f : Nat → List Nat) : Prop where
  nd : ls.Nodup
  lt : ∀ c ∈ ls, c ∈ LET
  len : ls.length ≤ 8
  sub : ∀ a ∈ ls, ∀ b ∈ f a, b ∈ ls ∧ b ≠ a ∧ a ∈ f b
  gl : ∀ a ∈ ls, (f a).length ≤ 8
def tabPairs (ls : List Nat) (f : Nat → List Nat) : List (List Nat) := pairsOf (ls.flatMap fun a => (f a).map fun b => ascOf [a, b])
theorem tab_get {H : Hp} {d : Addr} {ls : List Nat} {f : Nat → List Nat} {k : Nat} (h : H d = some (.dK (tabKV ls f))) (hk : k ∈ ls) : DGet H d (.str (tx [k])) (some (.str (tx (f k)))) := dget_let (g := fun c => V.str (tx (f c))) h hk
theorem putTab {f : Nat → List Nat} {k : Nat} {z : List Nat} : ∀ {ls : List Nat}, k ∈ ls → putK (tabKV ls f) (Sum.inr (tx [k])) (V.str (tx z)) = tabKV ls (fun c => if c = k then z else f c) := by
  intro ls hk
  unfold putK
  have h1 : valV (tabKV ls f) (Sum.inr (tx [k])) = some (V.str (tx (f k))) := letV_some (g := fun c => V.str (tx (f c))) hk
  rw [if_pos (by rw [valV_any, h1]; rfl)]
  unfold tabKV
  rw [List.map_map]
  refine List.map_congr_left fun c _ => ?_
  show (if (Sum.inr (tx [c]) : Key) = Sum.inr (tx [k]) then _ else _) = _
  by_cases e : c = k
  · subst e
    rw [if_pos rfl]
    show (_, _) = (_, V.str (tx (if c = c then z else f c)))
    rw [if_pos rfl]
  · rw [if_neg (fun z => e (by have := key_tx.mp z; injection this))]
    show (_, _) = (_, V.str (tx (if c = k then z else f c)))
    rw [if_neg e]
theorem tab_put {H : Hp} {d : Addr} {ls : List Nat} {f : Nat → List Nat} {k : Nat} {z : List Nat} (h : H d = some (.dK (tabKV ls f))) (hk : k ∈ ls) (hl : ls.length < 1000000) : DPut H d (.str (tx [k])) (.str (tx z)) (upd H d (.dK (tabKV ls (fun c => if c = k then z else f c)))) := by
  have e := DPut.k (k := Sum.inr (tx [k])) (v := V.str (tx z)) h (szlt (by unfold tabKV; rw [List.length_map]; exact hl))
  rw [putTab hk] at e
  exact e
theorem tab_new {H : Hp} {d : Addr} {ls : List Nat} {f : Nat → List Nat} {k : Nat} (h : H d = some (.dK (tabKV ls f))) (hk : ¬ k ∈ ls) (hf : f k = []) (hl : ls.length < 1000000) : DPut H d (.str (tx [k])) (.str (tx [])) (upd H d (.dK (tabKV (ls ++ [k]) f))) := by
  have e := DPut.cross (l := [k]) (v := V.str (tx [])) h (letV_none (g := fun c => V.str (tx (f c))) hk) (by unfold tabKV; rw [List.length_map]; exact hl)
  have e2 : tabKV (ls ++ [k]) f = tabKV ls f ++ [((Sum.inr (tx [k]) : Key), V.str (tx []))] := by
    unfold tabKV
    rw [List.map_append]
    show _ ++ [((Sum.inr (tx [k]) : Key), V.str (tx (f k)))] = _
    rw [hf]
  rw [e2]
  exact e
theorem asc2_all : ∀ a ∈ LET, ∀ b ∈ LET, a < b → ascOf [a, b] = [a, b] ∧ ascOf [b, a] = [a, b] := by decide +kernel
theorem asc2 {a b : Nat} (ha : a ∈ LET) (hb : b ∈ LET) (h : a < b) : ascOf [a, b] = [a, b] ∧ ascOf [b, a] = [a, b] := asc2_all a ha b hb h
theorem pairsOf_small (f : List (List Nat)) : ∀ l ∈ pairsOf f, ∀ c ∈ l, c < 1000 := by
  intro l hl c hc
  obtain ⟨a, b, rfl, ha, hb, _⟩ := pairsOf_mem.mp hl
  have h1 := LET_lt ha
  have h2 := LET_lt hb
  simp only [List.mem_cons, List.not_mem_nil, or_false] at hc
  rcases hc with rfl | rfl <;> omega
end Cw
set_option Elab.async false
set_option linter.all false
set_option maxRecDepth 100000
set_option maxHeartbeats 4000000
/-! the drawn tables, in plain words -/
namespace Cw
open PySem PySem.Spec L2
def ABC : List (List Nat) := [[97, 98, 99, 100, 101, 102, 103, 104], [98, 100, 102, 104, 106, 108, 110, 112], [115, 116, 117, 118, 119, 120, 121, 122]]
def addRel (rel : Nat → Nat → Bool) (x y : Nat) : Nat → Nat → Bool := fun a b => rel a b || (a == x && b == y) || (a == y && b == x)
/-- which kinds cross: both ways, never with itself, kinds alone -/
structure RelOk (ls : List Nat) (rel : Nat → Nat → Bool) : Prop where
  sym : ∀ a b, rel a b = rel b a
  «in» : ∀ a b, rel a b = true → a ∈ ls ∧ b ∈ ls ∧ a ≠ b
/-- only pairs up to here -/
def Upto (ls : List Nat) (rel : Nat → Nat → Bool) (i j : Nat) : Prop := ∀ i1 j1, i1 < j1 → j1 < ls.length → rel (ls.getD i1 0) (ls.getD j1 0) = true → i1 < i ∨ (i1 = i ∧ j1 < j)
def crossBy (ls : List Nat) (rel : Nat → Nat → Bool) (c : Nat) : List Nat := ls.filter (rel c)
theorem getD_inj {ls : List Nat} (h : ls.Nodup) {i j : Nat} (hi : i < ls.length) (hj : j < ls.length) (e : ls.getD i 0 = ls.getD j 0) : i = j := by
  rw [List.getD_eq_getElem?_getD, List.getD_eq_getElem?_getD, List.getElem?_eq_getElem hi, List.getElem?_eq_getElem hj] at e
  exact (List.getElem_inj h).mp e
section
variable {ls : List Nat} {rel : Nat → Nat → Bool} {i j : Nat}
theorem RelOk.add (ok : RelOk ls rel) {x y : Nat} (hx : x ∈ ls) (hy : y ∈ ls) (ne : x ≠ y) : RelOk ls (addRel rel x y) where
  sym a b := by
    unfold addRel
    rw [ok.sym a b, Bool.or_assoc, Bool.or_assoc]
    congr 1
    rw [Bool.or_comm, Bool.and_comm, Bool.and_comm (a == x)]
  «in» a b h := by
    unfold addRel at h
    simp only [Bool.or_eq_true, Bool.and_eq_true, beq_iff_eq] at h
    rcases h with (h | ⟨rfl, rfl⟩) | ⟨rfl, rfl⟩
    · exact ok.in a b h
    · exact ⟨hx, hy, ne⟩
    · exact ⟨hy, hx, ne.symm⟩
theorem Upto.add (hn : ls.Nodup) (hij : i < j) (hj : j < ls.length) (up : Upto ls rel i j) : Upto ls (addRel rel (ls.getD i 0) (ls.getD j 0)) i (j + 1) := by
  intro i1 j1 h1 h2 h3
  unfold addRel at h3
  simp only [Bool.or_eq_true, Bool.and_eq_true, beq_iff_eq] at h3
  rcases h3 with (h | ⟨h4, h5⟩) | ⟨h4, h5⟩
  · have := up i1 j1 h1 h2 h
    omega
  · have a := getD_inj hn (by omega) (by omega) h4
    have b := getD_inj hn h2 hj h5
    omega
  · have a := getD_inj hn (by omega) hj h4
    have b := getD_inj hn h2 (by omega) h5
    omega
theorem Upto.more (up : Upto ls rel i j) : Upto ls rel i (j + 1) := fun i1 j1 h1 h2 h3 => by
  have := up i1 j1 h1 h2 h3
  omega
theorem Upto.turn {k : Nat} (up : Upto ls rel i j) (h : ls.length ≤ j) : Upto ls rel (i + 1) k := fun i1 j1 h1 h2 h3 => by
  have := up i1 j1 h1 h2 h3
  omega
end
theorem walk_rI {lo : Int} {n : Nat} (f : Nat → Int) (h : ∀ k : Nat, lo + (k : Int) = f k) : Walk (Itr lo n) n (fun _ => True) (YFn fun k => .int (f k)) :=
  walk_range.mono (fun _ h => h) fun i H x H' _ _ y => ⟨y.1, by show x = V.int (f i); rw [← h i]; exact y.2⟩
theorem at_getD {ls : List Nat} {i : Nat} (h : i < ls.length) : atI ls ((i : Nat) : Int) = some (ls.getD i 0) := by
  refine atI_nat ?_
  rw [List.getD_eq_getElem?_getD, List.getElem?_eq_getElem h]
  rfl
theorem ascOf_congr {a b : List Nat} (h : ∀ c, c ∈ a ↔ c ∈ b) : ascOf a = ascOf b := by
  unfold ascOf
  exact List.filter_congr fun c _ => decide_eq_decide.mpr (h c)
/-- the pairs that the laws tell a plan by -/
theorem tabPairs_eq {ls : List Nat} {f : Nat → List Nat} {ps : List (List Nat)} (T : Tab ls f) (h1 : ∀ p ∈ ps, ∃ a b, p = [a, b] ∧ a ∈ ls ∧ b ∈ f a) (h2 : ∀ a ∈ ls, ∀ b ∈ f a, a < b → [a, b] ∈ ps) : pairsOf (ps.map ascOf) = tabPairs ls f := by
  unfold tabPairs
  refine pairsOf_congr fun a b _ _ => ?_
  rw [List.mem_map, List.mem_flatMap]
  constructor
  · rintro ⟨p, hp, e⟩
    obtain ⟨x, y, rfl, hx, hy⟩ := h1 p hp
    exact ⟨x, hx, List.mem_map.mpr ⟨y, hy, e⟩⟩
  · rintro ⟨x, hx, hm⟩
    obtain ⟨y, hy, e⟩ := List.mem_map.mp hm
    obtain ⟨y1, y2, y3⟩ := T.sub x hx y hy
    by_cases h : x < y
    · exact ⟨_, h2 x hx y hy h, e⟩
    · have hlt : y < x := by omega
      refine ⟨_, h2 y y1 x y3 hlt, ?_⟩
      have := asc2 (T.lt y y1) (T.lt x hx) hlt
      rw [this.1, ← this.2]
      exact e
/-- a drawn table: a beginning of one of the three texts -/
structure Flr (num : Nat) (ls : List Nat) (rel : Nat → Nat → Bool) : Prop where
  cut : ∃ t ∈ ABC, ∃ m, 1 ≤ m ∧ m ≤ num ∧ ls = t.take m
  ok : RelOk ls rel
theorem abc_ok : ∀ t ∈ ABC, t.Nodup ∧ (∀ c ∈ t, c ∈ LET) ∧ t.length = 8 ∧ t.Pairwise (· < ·) := by decide +kernel
section
variable {num : Nat} {ls : List Nat} {rel : Nat → Nat → Bool}
theorem cut_nd (h : ∃ t ∈ ABC, ∃ m, 1 ≤ m ∧ m ≤ num ∧ ls = t.take m) : ls.Nodup := by
  obtain ⟨t, ht, m, h1, h2, rfl⟩ := h
  exact (List.take_sublist m t).nodup (abc_ok t ht).1
theorem cut_lt (h : ∃ t ∈ ABC, ∃ m, 1 ≤ m ∧ m ≤ num ∧ ls = t.take m) : ∀ c ∈ ls, c ∈ LET := by
  obtain ⟨t, ht, m, h1, h2, rfl⟩ := h
  exact fun c hc => (abc_ok t ht).2.1 c ((List.take_sublist m t).subset hc)
theorem cut_len (h : ∃ t ∈ ABC, ∃ m, 1 ≤ m ∧ m ≤ num ∧ ls = t.take m) : ls.length ≤ 8 ∧ ls.length ≤ num ∧ 1 ≤ ls.length := by
  obtain ⟨t, ht, m, h1, h2, rfl⟩ := h
  have := (abc_ok t ht).2.2.1
  rw [List.length_take]
  omega
theorem cut_lt' (h : ∃ t ∈ ABC, ∃ m, 1 ≤ m ∧ m ≤ num ∧ ls = t.take m) : ls.Pairwise (· < ·) := by
  obtain ⟨t, ht, m, h1, h2, rfl⟩ := h
  exact List.Pairwise.sublist (List.take_sublist m t) (abc_ok t ht).2.2.2
theorem Flr.tab (h : Flr num ls rel) : Tab ls (crossBy ls rel) where
  nd := cut_nd h.cut
  lt := cut_lt h.cut
  len := (cut_len h.cut).1
  sub a ha b hb := by
    obtain ⟨h1, h2⟩ := List.mem_filter.mp hb
    refine ⟨h1, (h.ok.in a b h2).2.2.symm, List.mem_filter.mpr ⟨ha, ?_⟩⟩
    rw [h.ok.sym]
    exact h2
  gl a ha := Nat.le_trans (List.length_filter_le _ _) (cut_len h.cut).1
end
end Cw
set_option Elab.async false
set_option linter.all false
set_option maxRecDepth 100000
set_option maxHeartbeats 4000000
/-! calls within a try; calls that raise nothing after all -/
namespace Cw
open PySem PySem.Spec L2
section
variable {P : Program} {w : World} {K : PySem.W.Frag} {mg : Str → Option Value} {base : Heap} {k : Nat} {f : Addr} {fd : FuncData} {ps : List Str} {sp : Sp}
/-- a promise whose wishes for errors are none -/
def calmOf (sp : Sp) : Sp := fun vs H Q _ => sp vs H Q fun _ _ _ => False
theorem calm_fn (F : FnOk P w K mg base (L2.CX P w) k f fd ps sp) : FnOk P w K mg base CX0 k f fd ps (calmOf sp) := by
  refine ⟨fun vs H Q E h => F.len _ _ _ _ h, fun A outer s H args us vs Q E hr e0 hb hv h => ?_⟩
  refine codeAny_mono (F.run A outer s H args us vs Q (fun _ _ _ => False) hr e0 hb hv h) fun r s' q => ?_
  cases r with
  | ok fl => cases fl <;> exact q
  | error e =>
    obtain ⟨a, B, H', cls, d, _, _, _, _, _, _, _, z⟩ := q
    exact z.elim
theorem Def.calm {x : Str} (D : Def P w K mg base (L2.CX P w) k x ps sp) : Def P w K mg base CX0 k x ps (calmOf sp) := by
  obtain ⟨f, fd, a, b, c, d⟩ := D.ex
  exact ⟨f, fd, a, b, c, calm_fn d⟩
theorem MDef.calm {C : Addr} {m : Str} (D : MDef P w K mg base (L2.CX P w) k C m ps sp) : MDef P w K mg base CX0 k C m ps (calmOf sp) := by
  obtain ⟨f, fd, a, b, c, d, e⟩ := D.ex
  exact ⟨f, fd, a, b, c, d, calm_fn e⟩
end
section
variable {X : Cx} {CX : CXT} {k : Nat} {C : Addr} {x m : Str} {ps : List Str} {sp : Sp} {E : St → XK} {p pos apos : PySem.Pos} {o e : Expr} {es : List Expr} {ta : TE} {t : TA}
def tMethS (C : Addr) (m : Str) (sp : Sp) (E : St → XK) (ta : TE) (t : TA) : TE := fun σ H Q => ta σ H fun x H1 => ∃ a dx fs, x = .ref a ∧ H1 a = some (.ins C dx fs) ∧ fs.lookup m = none ∧ t σ H1 fun vs H2 => sp (x :: vs) H2 Q (E σ)
end
/-- a try with one clause, its reading by name -/
def tTryA (K : PySem.W.Frag) (c : Value) (i : Nat) (ts : Addr → Value → Option Addr → TS) (Wout : WX) (tb : WX → TS) : TS := fun D σ H => tb (wAs K c i ts Wout D) D σ H
theorem e_tryA {K : PySem.W.Frag} {c : Value} {i : Nat} {ts : Addr → Value → Option Addr → TS} {Wout : WX} {tb : WX → TS} {D : Ends} {σ : St} {H : Hp} (q : tb (wAs K c i ts Wout D) D σ H) : tTryA K c i ts Wout tb D σ H := q
section
variable {σ : St} {H : Hp} {Q : VK} {C : Addr} {m : Str} {sp : Sp} {E : St → XK} {ta : TE} {t : TA}
theorem e_callS (q : t σ H fun vs H1 => sp vs H1 Q (E σ)) : tCallS sp E t σ H Q := q
theorem e_mdS (q : ta σ H fun x H1 => ∃ a dx fs, x = .ref a ∧ H1 a = some (.ins C dx fs) ∧ fs.lookup m = none ∧ t σ H1 fun vs H2 => sp (x :: vs) H2 Q (E σ)) : tMethS C m sp E ta t σ H Q := q
end
theorem sl_TK {X : Cx} {K : PySem.W.Frag} (h : X.K = K) : SlR X (rSlT K) := h ▸ sl_tup
theorem s_asgT {te : TE} {K : PySem.W.Frag} {n : Nat} {t : TGs} {D : Ends} {σ : St} {H : Hp} (q : te σ H fun v H1 => gTup K n t v σ H1 fun σ' H' => D.nx σ' H') : tAsg te (gTup K n t) D σ H := q
theorem e_pr {tk tv : TE} {r : List (TE × TE)} {σ : St} {H : Hp} {Q : List (V × V) → Hp → Prop} (q : tk σ H fun x H1 => tv σ H1 fun y H2 => tPairs r σ H2 fun ps H3 => Q ((x, y) :: ps) H3) : tPairs ((tk, tv) :: r) σ H Q := q
theorem e_pr0 {σ : St} {H : Hp} {Q : List (V × V) → Hp → Prop} (q : Q [] H) : tPairs [] σ H Q := q
theorem e_disp {trs : List (TE × TE)} {σ : St} {H : Hp} {Q : VK} (q : ∀ p, H p = none → tPairs trs σ (upd H p (.dK [])) fun ps H2 => H2 p = some (.dK []) ∧ ∃ kvs : List (Key × V), ps = kvs.map (fun kv => (kV kv.1, kv.2)) ∧ kvs.length ≤ 15 ∧ Q (.ref p) (upd H2 p (.dK (mergeK [] kvs)))) : tDisp trs σ H Q := q
theorem sqL_same {K : PySem.W.Frag} {H H' : Hp} {a : Addr} {xs : List V} (h : SqL K H a xs) (s : Same H H') : SqL K H' a xs := by
  rcases h with (h | ⟨o, h⟩) | h
  · exact .inl (.inl (s _ _ h))
  · exact .inl (.inr ⟨o, s _ _ h⟩)
  · exact .inr h
theorem v_slL {K : PySem.W.Frag} {H : Hp} {Q : VK} {a : Addr} {xs : List V} {lo hi : Option Int} (h : SqL K H a xs) (q : ∀ p H', H p = none → Same H H' → H' p = some (.lst (cutV xs lo hi)) → Q (.ref p) H') : rSlL K (.ref a) lo hi H Q := ⟨a, xs, rfl, h, fun p hp => q p _ hp (Same.new hp) upd_same⟩
end Cw
set_option Elab.async false
set_option linter.all false
set_option maxRecDepth 100000
set_option maxHeartbeats 4000000
/-! plans that are not equal, in plain words -/
namespace Cw
open PySem PySem.Spec L2
/-- the end of a body, by a name: smaller goals -/
theorem s_hide {t : TS} {D0 : Ends} {σ : St} {H : Hp} (h : ∀ D : Ends, (∀ σ H, D0.nx σ H → D.nx σ H) → t D σ H) : t D0 σ H := h D0 fun _ _ z => z
theorem pairsOf_nodup (f : List (List Nat)) : (pairsOf f).Nodup := by
  have h : ∀ l : List Nat, l.Nodup → (l.flatMap fun a => (LET.filter fun b => decide ([a, b] ∈ f)).map fun b => [a, b]).Nodup := by
    intro l
    induction l with
    | nil => intro _; exact List.nodup_nil
    | cons c r ih =>
      intro hn
      rw [List.nodup_cons] at hn
      rw [List.flatMap_cons, List.nodup_append]
      refine ⟨?_, ih hn.2, ?_⟩
      · have : (LET.filter fun b => decide ([c, b] ∈ f)).Nodup := (LET_nodup.filter fun b => decide ([c, b] ∈ f))
        generalize LET.filter (fun b => decide ([c, b] ∈ f)) = m at this ⊢
        induction m with
        | nil => exact List.nodup_nil
        | cons x y ih2 =>
          rw [List.nodup_cons] at this
          rw [List.map_cons, List.nodup_cons]
          refine ⟨?_, ih2 this.2⟩
          intro z
          obtain ⟨w, hw, e⟩ := List.mem_map.mp z
          injection e with _ e
          injection e with e
          exact this.1 (e ▸ hw)
      · intro p hp q hq e
        subst e
        obtain ⟨b, _, e1⟩ := List.mem_map.mp hp
        obtain ⟨a, ha, hm⟩ := List.mem_flatMap.mp hq
        obtain ⟨b', _, e2⟩ := List.mem_map.mp hm
        have e3 := e1.trans e2.symm
        injection e3 with e3
        exact hn.1 (e3 ▸ ha)
  exact h LET LET_nodup
theorem tabPairs_lt {ls : List Nat} {f : Nat → List Nat} (T : Tab ls f) {p : List Nat} (h : p ∈ tabPairs ls f) : ∃ a b, p = [a, b] ∧ a < b ∧ a ∈ ls ∧ b ∈ ls ∧ b ∈ f a := by
  obtain ⟨a, b, rfl, ha, hb, hm⟩ := pairsOf_mem.mp h
  obtain ⟨x, hx, hm⟩ := List.mem_flatMap.mp hm
  obtain ⟨y, hy, e⟩ := List.mem_map.mp hm
  obtain ⟨y1, y2, y3⟩ := T.sub x hx y hy
  by_cases hl : x < y
  · rw [(asc2 (T.lt x hx) (T.lt y y1) hl).1] at e
    injection e with e1 e2
    injection e2 with e2
    subst e1 e2
    exact ⟨_, _, rfl, hl, hx, y1, hy⟩
  · have hl : y < x := by omega
    rw [(asc2 (T.lt y y1) (T.lt x hx) hl).2] at e
    injection e with e1 e2
    injection e2 with e2
    subst e1 e2
    exact ⟨_, _, rfl, hl, y1, hx, y3⟩
theorem asc_asc (ls : List Nat) : ascOf (ascOf ls) = ascOf ls := by
  unfold ascOf
  refine List.filter_congr fun c hc => decide_eq_decide.mpr ?_
  rw [List.mem_filter, decide_eq_true_iff]
  exact ⟨fun z => z.2, fun z => ⟨hc, z⟩⟩
section
variable {K : PySem.W.Frag} {H : Hp} {Q : VK} {p q : Addr} {n m : Int} {a b : List Nat}
end
end Cw
set_option Elab.async false
set_option linter.all false
set_option maxRecDepth 100000
set_option maxHeartbeats 4000000
/-! calls with keywords and with defaults, by where each parameter comes from -/
namespace Cw
open PySem PySem.Spec L2
/-- a parameter's value: the i-th that is given, a default, a keyword's -/
inductive Src where
  | pos (i : Nat)
  | dfl (i : Nat)
  | kw (i : Nat)
def Src.up : Src → Src
  | .pos i => .pos (i + 1)
  | .dfl i => .dfl i
  | .kw i => .kw i
def getS {α : Type} (us its ws : List α) : Src → Option α
  | .pos i => us[i]?
  | .dfl i => its[i]?
  | .kw i => ws[i]?
def gS (ss : List Src) {α : Type} (us its ws : List α) : List α := ss.filterMap (getS us its ws)
theorem vals_get : ∀ {vs : List V} {us : List Value}, Vals vs us → ∀ i : Nat, (vs[i]? = none ∧ us[i]? = none) ∨ ∃ v u, vs[i]? = some v ∧ us[i]? = some u ∧ RelV v u
  | _, _, .nil, i => .inl ⟨rfl, rfl⟩
  | _, _, .cons r t, 0 => .inr ⟨_, _, rfl, rfl, r⟩
  | _, _, .cons r t, i + 1 => by
    have := vals_get t i
    simpa using this
theorem gS_rel {vs ds zs : List V} {us its ws : List Value} (r1 : Vals vs us) (r2 : Vals ds its) (r3 : Vals zs ws) : ∀ ss : List Src, Vals (gS ss vs ds zs) (gS ss us its ws)
  | [] => .nil
  | s :: ss => by
    have ih := gS_rel r1 r2 r3 ss
    have key : (getS vs ds zs s = none ∧ getS us its ws s = none) ∨ ∃ v u, getS vs ds zs s = some v ∧ getS us its ws s = some u ∧ RelV v u := by
      cases s with
      | pos i => exact vals_get r1 i
      | dfl i => exact vals_get r2 i
      | kw i => exact vals_get r3 i
    unfold gS at ih ⊢
    rcases key with ⟨a, b⟩ | ⟨v, u, a, b, r⟩
    · rw [List.filterMap_cons_none a, List.filterMap_cons_none b]
      exact ih
    · rw [List.filterMap_cons_some a, List.filterMap_cons_some b]
      exact .cons r ih
theorem gS_up {α : Type} {x : α} {vs ds zs : List α} : ∀ ss : List Src, gS (.pos 0 :: ss.map Src.up) (x :: vs) ds zs = x :: gS ss vs ds zs := by
  intro ss
  unfold gS
  rw [List.filterMap_cons_some (show getS (x :: vs) ds zs (.pos 0) = some x from rfl), List.filterMap_map]
  congr 1
  congr 1
  funext s
  cases s <;> rfl
/-- how a call binds its n values and its keywords ks -/
abbrev KB (K : PySem.W.Frag) (fd : FuncData) (ps : List Str) (n : Nat) (ks : List Str) (ss : List Src) (dvs : List V) : Prop := ∃ g, KBn K fd ps n ks g (fun vs zs => gS ss vs dvs zs)
section
variable {K : PySem.W.Frag} {x qual : Str} {params : Arguments} {body : List Stmt} {scope : Scope} {dvs : List V} {f : Addr} {fd : FuncData} {ps : List Str}
theorem FunD.kb (F : FunD K x qual params body scope dvs [] f fd) (n : Nat) (ks : List Str) (ss : List Src) (hd : dvs ≠ [])
    (h : ∀ (T : Addr) (kV doc pm : Value) (an : Option Addr) (cdv ct : Value) (us its ws : List Value), us.length = n → its.length = dvs.length → ws.length = ks.length →
      ∃ k, bindArgs (PySem.W.fnOf x qual params body scope (.ref T) kV doc pm an cdv ct) ⟨us, ks.zip ws⟩ = seqItems? (.ref T) >>= k ∧ k (some its.toArray) = pure (ps.zip (gS ss us its ws))) : KB K fd ps n ks ss dvs := by
  obtain ⟨its, b⟩ := F.kbindsD (ps := ps) n ks (fun {_} vs ds zs => gS ss vs ds zs) hd (fun r1 r2 r3 => gS_rel r1 r2 r3 ss) h
  exact ⟨_, b⟩
end
/-- C(..) by n values and the keywords ks -/
structure CDefN (P : Program) (w : World) (K : PySem.W.Frag) (mg : Str → Option Value) (base : Heap) (CX : CXT) (k : Nat) (x : Str) (C : Addr) (sp : Sp) (n : Nat) (ks : List Str) (ss : List Src) (dvs : List V) : Prop where
  ex : ∃ f fd ps sp0, mg x = some (.ref C) ∧ Mk K C f ∧ KB K fd ps (n + 1) ks (.pos 0 :: ss.map Src.up) dvs ∧ FnOk P w K mg base CX k f fd ps sp0 ∧ Conv C sp0 sp
/-- the reading of such a call -/
def tCN (sp : Sp) (n m : Nat) (ss : List Src) (dvs : List V) (E : XK) (t tk : TA) : TE := fun σ H Q => t σ H fun vs H1 => tk σ H1 fun zs H2 => vs.length = n ∧ zs.length = m ∧ sp (gS ss vs dvs zs) H2 Q E
section
variable {P : Program} {w : World} {K : PySem.W.Frag} {mg : Str → Option Value} {base : Heap} {CX : CXT} {k : Nat} {C : Addr} {x qual : Str} {sp : Sp} {st : Stmt} {dvs : List V} {n : Nat} {ks : List Str} {ss : List Src}
theorem CDefN.mono {j : Nat} (D : CDefN P w K mg base CX j x C sp n ks ss dvs) (h : j ≤ k) : CDefN P w K mg base CX k x C sp n ks ss dvs := by
  obtain ⟨f, fd, ps, sp0, a, b, c, d, e⟩ := D.ex
  exact ⟨f, fd, ps, sp0, a, b, c, d.mono h, e⟩
theorem CMk.kw {ps : List Str} (D : CMk P w K mg base CX k x C sp ps qual st dvs) (n : Nat) (ks : List Str) (ss : List Src) (hd : dvs ≠ [])
    (h : ∀ (T : Addr) (kV doc pm : Value) (an : Option Addr) (cdv ct : Value) (us its ws : List Value), us.length = n + 1 → its.length = dvs.length → ws.length = ks.length →
      ∃ k, bindArgs (PySem.W.fnOf "__init__" qual (defArgs st) (defBody st) (defScope st) (.ref T) kV doc pm an cdv ct) ⟨us, ks.zip ws⟩ = seqItems? (.ref T) >>= k ∧ k (some its.toArray) = pure (ps.zip (gS (.pos 0 :: ss.map Src.up) us its ws))) : CDefN P w K mg base CX k x C sp n ks ss dvs := by
  obtain ⟨f, fd, sp0, a, b, c, d, e, G⟩ := D.ex
  exact ⟨f, fd, ps, sp0, a, b, FunD.kb G (n + 1) ks _ hd h, d, e⟩
end
section
variable {X : Cx} {CX : CXT} {k n : Nat} {sp : Sp} {E : XK} {x : Str} {C : Addr} {p pos : PySem.Pos} {e : Expr} {es : List Expr} {kws : List Keyword} {t tk : TA} {ks : List Str} {ss : List Src} {dvs : List V}
theorem run_mkN {pins : List (Addr × Obj)} {σ : St} {H : Hp} {s : Shared} {Q : VK} {us ws : List Value} {vs zs : List V} {f : Addr} {fd : FuncData} {ps : List Str} {sp0 : Sp} {g : List Value → List Value → List Value} (M : Mk X.K C f) (F : FnOk X.prog X.w X.K X.mg X.base CX k f fd ps sp0) (cv : Conv C sp0 sp) (hr : Room (k + 1) X.A) (hb : KBn X.K fd ps (n + 1) ks g (fun vs zs => gS (.pos 0 :: ss.map Src.up) vs dvs zs))
    (hx : Passes CX X E) (I : Inv X pins σ H s) (r : Vals vs us) (rz : Vals zs ws) (l1 : vs.length = n) (l2 : zs.length = ks.length) (h : sp (gS ss vs dvs zs) H Q E) :
    wpAny (model X.prog X.w) X.A (call (.ref C) us (ks.zip ws)) (EP X pins σ Q) X.xe s := by
  refine run_makeN M F hr hb hx I r rz l1 l2 fun a da n1 n2 n3 => ?_
  rw [gS_up]
  exact cv _ H Q E h a da n1 n2 n3
theorem pe_mkN (D : CDefN X.prog X.w X.K X.mg X.base CX k x C sp n ks ss dvs) (hr : Room (k + 1) X.A) (hx : Passes CX X E) (ha : PA X (e :: es) t) (hkw : PK X kws tk) (hg : Gl X x := by rfl)
    (hall : (backToKw pos (keywordEach kws X.env)).all (·.1.isSome) = true := by rfl) (hks : (backToKw pos (keywordEach kws X.env)).filterMap (·.1) = ks := by rfl)
    (hdb : (x == ("__debug__" : Str)) = false := by decide) (he : starEach (e :: es) X.env = (false, eval e X.env) :: starEach es X.env := by rfl)
    (hpl : ((backTo pos (starEach (e :: es) X.env)).any (·.1) || (backToKw pos (keywordEach kws X.env)).any (·.1.isNone)) = false := by rfl) :
    PE X (.Call (.Name x p) (e :: es) kws pos) (tCN sp n ks.length ss dvs E t tk) := by
  obtain ⟨f, fd, ps, sp0, a, M, ⟨g, kb⟩, F, cv⟩ := D.ex
  refine ⟨fun pins s σ H Q I h => ?_⟩
  refine wpAny_Call_Name_kw (ld_glob I hg a ?_ hdb)
  refine PySem.W.callWith_KW (h₀ := X.base) I.ok.mod.kin M.kp hall (thn (ha.run pos pins s σ H _ I h) fun us s1 ⟨vs, H1, I1, r, q⟩ => ?_) hpl he
  refine thn (hkw.run pos pins s1 σ H1 _ I1 q) fun ws s2 ⟨zs, H2, I2, rz, l1, l2, q2⟩ => ⟨I2.kIn, ?_⟩
  rw [hks]
  exact run_mkN M F cv hr kb hx I2 r rz l1 l2 q2
end
/-! ### defs and methods by keywords -/
structure DefN (P : Program) (w : World) (K : PySem.W.Frag) (mg : Str → Option Value) (base : Heap) (CX : CXT) (k : Nat) (x : Str) (sp : Sp) (n : Nat) (ks : List Str) (ss : List Src) (dvs : List V) : Prop where
  ex : ∃ f fd ps, mg x = some (.ref f) ∧ PySem.W.keepIn K (.ref f) = true ∧ KB K fd ps n ks ss dvs ∧ FnOk P w K mg base CX k f fd ps sp
structure MDefN (P : Program) (w : World) (K : PySem.W.Frag) (mg : Str → Option Value) (base : Heap) (CX : CXT) (k : Nat) (C : Addr) (m : Str) (sp : Sp) (n : Nat) (ks : List Str) (ss : List Src) (dvs : List V) : Prop where
  ex : ∃ f fd ps, PySem.W.findIn K (.ref C) m = some (some (.ref f)) ∧ PySem.W.isFn K (.ref f) = true ∧ PySem.W.keepIn K (.ref f) = true ∧ KB K fd ps (n + 1) ks (.pos 0 :: ss.map Src.up) dvs ∧ FnOk P w K mg base CX k f fd ps sp
section
variable {P : Program} {w : World} {K : PySem.W.Frag} {mg : Str → Option Value} {base : Heap} {CX : CXT} {k : Nat} {C : Addr} {x m qual : Str} {sp : Sp} {st : Stmt} {dvs : List V} {n : Nat} {ks ps : List Str} {ss : List Src}
theorem DefN.mono {j : Nat} (D : DefN P w K mg base CX j x sp n ks ss dvs) (h : j ≤ k) : DefN P w K mg base CX k x sp n ks ss dvs := by
  obtain ⟨f, fd, ps, a, b, c, d⟩ := D.ex
  exact ⟨f, fd, ps, a, b, c, d.mono h⟩
theorem MDefN.mono {j : Nat} (D : MDefN P w K mg base CX j C m sp n ks ss dvs) (h : j ≤ k) : MDefN P w K mg base CX k C m sp n ks ss dvs := by
  obtain ⟨f, fd, ps, a, b, c, d, e⟩ := D.ex
  exact ⟨f, fd, ps, a, b, c, d, e.mono h⟩
theorem kb_of {fd : FuncData} (h : ∀ us ws : List Value, us.length = n → ws.length = ks.length → bindArgs fd ⟨us, ks.zip ws⟩ = pure (ps.zip (gS ss us [] ws))) : KB K fd ps n ks ss [] :=
  ⟨fun us ws => gS ss us [] ws, ⟨fun s us ws _ l1 l2 => .of_eq (h us ws l1 l2), fun r1 r2 => gS_rel r1 .nil r2 ss⟩⟩
theorem fd_eq {f : Addr} {fd fd' : FuncData} (h : ∃ oc od osl, K.lookup f = some ⟨oc, od, .func fd, osl⟩) (h' : ∃ oc od osl, K.lookup f = some ⟨oc, od, .func fd', osl⟩) : fd = fd' := by
  obtain ⟨_, _, _, h⟩ := h
  obtain ⟨_, _, _, h'⟩ := h'
  rw [h] at h'
  injection h' with h'
  injection h' with _ _ h' _
  injection h'
theorem Def.kw (D : Def P w K mg base CX k x ps sp) (F : FnAt K mg x st) (n : Nat) (ks : List Str) (ss : List Src)
    (h : ∀ (kV doc pm : Value) (an : Option Addr) (cdv ct : Value) (us ws : List Value), us.length = n → ws.length = ks.length → bindArgs (PySem.W.fnOf x x (defArgs st) (defBody st) (defScope st) .none kV doc pm an cdv ct) ⟨us, ks.zip ws⟩ = pure (ps.zip (gS ss us [] ws))) : DefN P w K mg base CX k x sp n ks ss [] := by
  obtain ⟨f, fd, a, b, c, d⟩ := D.ex
  obtain ⟨f', fd', a', G⟩ := F.ex
  rw [a] at a'
  injection a' with a'
  injection a' with a'
  subst a'
  have e := fd_eq c.lk (funLk G)
  subst e
  refine ⟨f, fd, ps, a, b, ?_, d⟩
  obtain ⟨oc, od, kV, doc, pm, an, cdv, ct, osl, rfl, _⟩ := G.ex
  exact kb_of (h kV doc pm an cdv ct)
theorem MDef.kw (D : MDef P w K mg base CX k C m ps sp) (F : MAt K C m qual st) (n : Nat) (ks : List Str) (ss : List Src)
    (h : ∀ (kV doc pm : Value) (an : Option Addr) (cdv ct : Value) (us ws : List Value), us.length = n + 1 → ws.length = ks.length → bindArgs (PySem.W.fnOf m qual (defArgs st) (defBody st) (defScope st) .none kV doc pm an cdv ct) ⟨us, ks.zip ws⟩ = pure (ps.zip (gS (.pos 0 :: ss.map Src.up) us [] ws))) : MDefN P w K mg base CX k C m sp n ks ss [] := by
  obtain ⟨f, fd, a, b, kp, c, d⟩ := D.ex
  obtain ⟨f', fd', a', b', G⟩ := F.ex
  rw [a] at a'
  injection a' with a'
  injection a' with a'
  injection a' with a'
  subst a'
  have e := fd_eq c.lk (funLk G)
  subst e
  refine ⟨f, fd, ps, a, b, kp, ?_, d⟩
  obtain ⟨oc, od, kV, doc, pm, an, cdv, ct, osl, rfl, _⟩ := G.ex
  exact kb_of (h kV doc pm an cdv ct)
end
section
variable {X : Cx} {CX : CXT} {k n : Nat} {sp : Sp} {E : XK} {x m : Str} {C : Addr} {p pos apos : PySem.Pos} {o e : Expr} {es : List Expr} {kws : List Keyword} {ta : TE} {t tk : TA} {ks : List Str} {ss : List Src} {dvs : List V}
/-- o.m(.., k = v) -/
def tMN (C : Addr) (m : Str) (sp : Sp) (n l : Nat) (ss : List Src) (dvs : List V) (E : XK) (ta : TE) (t tk : TA) : TE := fun σ H Q => ta σ H fun x H1 => ∃ a dx fs, x = .ref a ∧ H1 a = some (.ins C dx fs) ∧ fs.lookup m = none ∧ t σ H1 fun vs H2 => tk σ H2 fun zs H3 => vs.length = n ∧ zs.length = l ∧ sp (x :: gS ss vs dvs zs) H3 Q E
end
section
variable {X : Cx} {CX : CXT} {k : Nat} {C : Addr} {m : Str} {ps : List Str} {sp : Sp} {E : XK} {pos apos : PySem.Pos} {o : Expr} {ta : TE}
end
section
variable {σ : St} {H : Hp} {Q : VK}
theorem e_CN {sp : Sp} {n m : Nat} {ss : List Src} {dvs : List V} {E : XK} {t tk : TA} (q : t σ H fun vs H1 => tk σ H1 fun zs H2 => vs.length = n ∧ zs.length = m ∧ sp (gS ss vs dvs zs) H2 Q E) : tCN sp n m ss dvs E t tk σ H Q := q
end
end Cw
set_option Elab.async false
set_option linter.all false
set_option maxRecDepth 100000
set_option maxHeartbeats 4000000
/-! names in plain words: no letter stands behind a greater or an equal one that it could be exchanged back to -/
namespace Cw
structure CrOk (cr : Nat → List Nat) : Prop where
  sym : ∀ a b, a ∈ cr b → b ∈ cr a
  irr : ∀ a, ¬ a ∈ cr a
/-- s may stand behind the letters of the list (the nearest first) -/
def okAt (cr : Nat → List Nat) (s : Nat) : List Nat → Prop
  | [] => True
  | t :: r => t ≠ s ∧ (t ∈ cr s → t < s ∧ okAt cr s r)
/-- a name, its last letter first -/
def NFr (cr : Nat → List Nat) : List Nat → Prop
  | [] => True
  | s :: r => okAt cr s r ∧ NFr cr r
def NF (cr : Nat → List Nat) (w : List Nat) : Prop := NFr cr w.reverse
section
variable {cr : Nat → List Nat} {s k x : Nat} {d e : List Nat}
theorem okAt_app : ∀ {q : List Nat}, okAt cr s (q ++ e) → (∀ y ∈ q, y ∈ cr s) → okAt cr s e
  | [], h, _ => h
  | y :: q, h, hq => okAt_app (q := q) (h.2 (hq y (List.mem_cons_self ..))).2 fun z hz => hq z (List.mem_cons_of_mem _ hz)
theorem okAt_lt : ∀ {q : List Nat}, okAt cr s (q ++ e) → (∀ y ∈ q, y ∈ cr s) → ∀ y ∈ q, y < s
  | [], _, _, y, hy => nomatch hy
  | z :: q, h, hq, y, hy => by
    have h2 := h.2 (hq z (List.mem_cons_self ..))
    rcases List.mem_cons.mp hy with rfl | hy
    · exact h2.1
    · exact okAt_lt h2.2 (fun z hz => hq z (List.mem_cons_of_mem _ hz)) y hy
theorem okAt_remove (hk : k ∈ cr s) : ∀ {q : List Nat}, okAt cr s (q ++ k :: e) → okAt cr s (q ++ e)
  | [], h => (h.2 hk).2
  | y :: q, h => ⟨h.1, fun z => ⟨(h.2 z).1, okAt_remove hk (h.2 z).2⟩⟩
theorem okAt_insert (hk : k ≠ s) : ∀ {q : List Nat}, okAt cr s (q ++ e) → ((∀ y ∈ q, y ∈ cr s) → k < s) → okAt cr s (q ++ k :: e)
  | [], h, hl => ⟨hk, fun _ => ⟨hl (fun _ z => nomatch z), h⟩⟩
  | y :: q, h, hl => ⟨h.1, fun z => ⟨(h.2 z).1, okAt_insert hk (h.2 z).2 fun hq => hl fun w hw => by
      rcases List.mem_cons.mp hw with rfl | hw
      · exact z
      · exact hq w hw⟩⟩
theorem NFr_right : ∀ {a b : List Nat}, NFr cr (a ++ b) → NFr cr b
  | [], _, h => h
  | _ :: a, b, h => NFr_right (a := a) h.2
theorem NFr_remove (ok : CrOk cr) : ∀ {d : List Nat}, (∀ y ∈ d, y ∈ cr k) → NFr cr (d ++ k :: e) → NFr cr (d ++ e)
  | [], _, h => h.2
  | y :: d, hd, h => ⟨okAt_remove (ok.sym _ _ (hd y (List.mem_cons_self ..))) h.1, NFr_remove ok (fun z hz => hd z (List.mem_cons_of_mem _ hz)) h.2⟩
theorem NFr_insert (ok : CrOk cr) {h0 : Nat} (hh : k < h0) (hok : okAt cr k e) : ∀ {d : List Nat}, (∀ y ∈ d, y ∈ cr k) → NFr cr (d ++ h0 :: e) → h0 ∈ cr k → NFr cr (d ++ h0 :: k :: e)
  | [], _, h, hc => ⟨okAt_insert (q := []) (by omega) h.1 fun _ => hh, hok, h.2⟩
  | y :: d, hd, h, hc => by
    have hy := hd y (List.mem_cons_self ..)
    refine ⟨?_, NFr_insert ok hh hok (fun z hz => hd z (List.mem_cons_of_mem _ hz)) h.2 hc⟩
    have h1 : okAt cr y ((d ++ [h0]) ++ e) := by
      rw [List.append_assoc]
      exact h.1
    have h2 : okAt cr y ((d ++ [h0]) ++ k :: e) := okAt_insert (fun z : k = y => ok.irr k (by rw [← z] at hy; exact hy)) h1 fun hq => by
      have := okAt_lt h1 hq h0 (by simp)
      omega
    rw [List.append_assoc] at h2
    exact h2
/-! ### what a step does -/
theorem splitB_spec (part : List Nat) : ∀ ra b : List Nat, ∃ c, (splitB part ra b).2 = c ++ b ∧ (∀ y ∈ c, y ∈ part) ∧ ra = c.reverse ++ (splitB part ra b).1 ∧ ∀ y, (splitB part ra b).1.head? = some y → ¬ y ∈ part
  | [], b => ⟨[], rfl, fun _ z => (nomatch z), rfl, fun _ z => (nomatch z)⟩
  | y :: r, b => by
    unfold splitB
    by_cases h : y ∈ part
    · rw [if_pos h]
      obtain ⟨c, h1, h2, h3, h4⟩ := splitB_spec part r (y :: b)
      refine ⟨c ++ [y], by rw [h1, List.append_assoc]; rfl, fun z hz => ?_, ?_, h4⟩
      · rcases List.mem_append.mp hz with z | z
        · exact h2 _ z
        · rw [List.mem_singleton.mp z]
          exact h
      · rw [List.reverse_append]
        show y :: r = y :: (c.reverse ++ _)
        rw [← h3]
    · rw [if_neg h]
      refine ⟨[], rfl, fun _ z => (nomatch z), rfl, fun z hz => ?_⟩
      injection hz with hz
      exact hz ▸ h
/-- the two ways of a step, the name's last letter first: d are exchanged, then the kind is found or not -/
theorem stepOf_cases (part name : List Nat) (k : Nat) : ∃ d e : List Nat, name.reverse = d ++ e ∧ (∀ y ∈ d, y ∈ part) ∧ (∀ y, e.head? = some y → ¬ y ∈ part) ∧
    ((∃ e', e = k :: e' ∧ (stepOf part name k).reverse = d ++ e') ∨ (e.head? ≠ some k ∧ (stepOf part name k).reverse = (putIn k d.reverse).reverse ++ e)) := by
  obtain ⟨c, h1, h2, h3, h4⟩ := splitB_spec part name.reverse []
  rw [List.append_nil] at h1
  refine ⟨c.reverse, (splitB part name.reverse []).1, h3, fun y hy => h2 y (List.mem_reverse.mp hy), h4, ?_⟩
  unfold stepOf
  rw [h1]
  generalize (splitB part name.reverse []).1 = ra
  unfold stepAt
  by_cases hc : ra.head? = some k
  · rw [if_pos hc]
    cases ra with
    | nil => cases hc
    | cons y r =>
      injection hc with hc
      subst hc
      exact .inl ⟨r, rfl, by simp⟩
  · rw [if_neg hc]
    exact .inr ⟨hc, by simp⟩
/-- the letters below k, the others -/
theorem putIn_split (k : Nat) (b : List Nat) : ∃ b1 b2, b = b1 ++ b2 ∧ putIn k b = b1 ++ k :: b2 ∧ (∀ y ∈ b1, y < k) ∧ ∀ y, b2.head? = some y → ¬ y < k := by
  refine ⟨b.takeWhile (fun c => decide (c < k)), b.dropWhile (fun c => decide (c < k)), List.takeWhile_append_dropWhile.symm, rfl, fun y hy => ?_, fun y hy => ?_⟩
  · have := List.all_eq_true.mp (List.all_takeWhile (p := fun c => decide (c < k)) (l := b)) y hy
    exact of_decide_eq_true this
  · have := List.head?_dropWhile_not (fun c => decide (c < k)) b
    rw [hy] at this
    simpa using this
theorem okAt_all : ∀ {q : List Nat}, (∀ y ∈ q, y < k) → okAt cr k e → (∀ y ∈ q, y ∈ cr k) → okAt cr k (q ++ e)
  | [], _, h, _ => h
  | y :: q, hl, h, hq => ⟨by have := hl y (List.mem_cons_self ..); omega, fun _ => ⟨hl y (List.mem_cons_self ..), okAt_all (fun z hz => hl z (List.mem_cons_of_mem _ hz)) h fun z hz => hq z (List.mem_cons_of_mem _ hz)⟩⟩
theorem okAt_stop (h1 : e.head? ≠ some k) (h2 : ∀ y, e.head? = some y → ¬ y ∈ cr k) : okAt cr k e := by
  cases e with
  | nil => trivial
  | cons y r => exact ⟨fun z => h1 (by rw [z]; rfl), fun z => absurd z (h2 y rfl)⟩
theorem NF_step (ok : CrOk cr) {name : List Nat} (h : NF cr name) : NF cr (stepOf (cr k) name k) := by
  obtain ⟨d, e, e1, hd, he, hc⟩ := stepOf_cases (cr k) name k
  unfold NF at h ⊢
  rw [e1] at h
  rcases hc with ⟨e', rfl, e2⟩ | ⟨hk, e2⟩
  · rw [e2]
    exact NFr_remove ok hd h
  · rw [e2]
    obtain ⟨b1, b2, eb, ep, hb1, hb2⟩ := putIn_split k d.reverse
    have ed : d = b2.reverse ++ b1.reverse := by
      have := congrArg List.reverse eb
      rw [List.reverse_reverse, List.reverse_append] at this
      exact this
    rw [ep, List.reverse_append, List.reverse_cons]
    have hd1 : ∀ y ∈ b1.reverse, y ∈ cr k := fun y hy => hd y (by rw [ed]; exact List.mem_append_right _ hy)
    have hok : okAt cr k (b1.reverse ++ e) := okAt_all (fun y hy => hb1 y (List.mem_reverse.mp hy)) (okAt_stop hk he) hd1
    have hn : NFr cr (b1.reverse ++ e) := by
      rw [ed, List.append_assoc] at h
      exact NFr_right h
    cases b2 with
    | nil =>
      show NFr cr (([] ++ [k] ++ b1.reverse) ++ e)
      exact ⟨hok, hn⟩
    | cons y r =>
      have hy : ¬ y < k := hb2 y rfl
      have hyc : y ∈ cr k := hd y (by rw [ed]; simp)
      have hne : y ≠ k := fun z => ok.irr k (z ▸ hyc)
      have e3 : ((y :: r).reverse ++ [k] ++ b1.reverse) ++ e = r.reverse ++ y :: k :: (b1.reverse ++ e) := by simp
      rw [e3]
      refine NFr_insert ok (by omega) hok (fun z hz => hd z (by rw [ed, List.reverse_cons]; exact List.mem_append_left _ (List.mem_append_left _ hz))) ?_ hyc
      rw [ed] at h
      have e4 : ((y :: r).reverse ++ b1.reverse) ++ e = r.reverse ++ y :: (b1.reverse ++ e) := by simp
      rw [e4] at h
      exact h
/-- a name with one letter more, if it is one -/
theorem step_snoc {name : List Nat} (h : okAt cr k name.reverse) : stepOf (cr k) name k = name ++ [k] := by
  obtain ⟨d, e, e1, hd, he, hc⟩ := stepOf_cases (cr k) name k
  rw [e1] at h
  have h2 := okAt_app h hd
  have h3 := okAt_lt h hd
  rcases hc with ⟨e', rfl, e2⟩ | ⟨hk, e2⟩
  · exact absurd rfl h2.1
  · obtain ⟨b1, b2, eb, ep, hb1, hb2⟩ := putIn_split k d.reverse
    have : b2 = [] := by
      cases b2 with
      | nil => rfl
      | cons y r =>
        have hy := hb2 y rfl
        have : y ∈ d := List.mem_reverse.mp (by rw [eb]; simp)
        exact absurd (h3 y this) hy
    rw [this] at ep eb
    rw [List.append_nil] at eb
    rw [ep, ← eb] at e2
    have e5 := congrArg List.reverse e2
    rw [List.reverse_reverse] at e5
    rw [e5]
    have e6 := congrArg List.reverse e1
    rw [List.reverse_reverse] at e6
    rw [e6]
    simp
end
/-! ### ways -/
def joinC (cr : Nat → List Nat) (name way : List Nat) : List Nat := way.foldl (fun n k => stepOf (cr k) n k) name
theorem joinOf_C (ks : List Nat) (ps : List (List Nat)) (name way : List Nat) : joinOf ks ps name way = joinC (crossOf ks ps) name way := rfl
section
variable {cr : Nat → List Nat}
theorem joinC_app (name a b : List Nat) : joinC cr name (a ++ b) = joinC cr (joinC cr name a) b := by
  unfold joinC
  rw [List.foldl_append]
theorem NF_join (ok : CrOk cr) : ∀ {way name : List Nat}, NF cr name → NF cr (joinC cr name way)
  | [], _, h => h
  | k :: r, name, h => NF_join (way := r) ok (NF_step ok h)
theorem NF_nil : NF cr [] := trivial
theorem NF_left {a b : List Nat} (h : NF cr (a ++ b)) : NF cr a := by
  unfold NF at h ⊢
  rw [List.reverse_append] at h
  exact NFr_right h
theorem join_NF : ∀ {way name : List Nat}, NF cr (name ++ way) → joinC cr name way = name ++ way
  | [], name, _ => (List.append_nil name).symm
  | k :: r, name, h => by
    have e : name ++ k :: r = (name ++ [k]) ++ r := by simp
    rw [e] at h ⊢
    have h1 : NF cr (name ++ [k]) := NF_left h
    have h2 : okAt cr k name.reverse := by
      unfold NF at h1
      rw [List.reverse_append] at h1
      exact h1.1
    show joinC cr (stepOf (cr k) name k) r = _
    rw [step_snoc h2]
    exact join_NF h
theorem is_NF (ok : CrOk cr) {w : List Nat} : joinC cr [] w = w ↔ NF cr w := ⟨fun h => h ▸ NF_join ok NF_nil, fun h => join_NF (name := []) h⟩
/-- the same by any two letters -/
theorem NF.two {w : List Nat} (h : NF cr w) {p q r : List Nat} {t s : Nat} (e : w = p ++ t :: (q ++ s :: r)) (hq : ∀ y ∈ q, y ∈ cr s) : t ≠ s ∧ (t ∈ cr s → t < s) := by
  unfold NF at h
  have e2 : w.reverse = r.reverse ++ s :: (q.reverse ++ t :: p.reverse) := by rw [e]; simp
  rw [e2] at h
  have h1 := (NFr_right h).1
  have h2 := okAt_app h1 fun y hy => hq y (List.mem_reverse.mp hy)
  exact ⟨h2.1, fun z => (h2.2 z).1⟩
end
end Cw
set_option Elab.async false
set_option linter.all false
set_option maxRecDepth 100000
set_option maxHeartbeats 4000000
/-! the vectors of the laws, in plain words -/
namespace Cw
/-- one coordinate of the marks, behind the door d -/
def thr (cr : Nat → List Nat) (d : Nat) (f : Nat → Int) : Nat → Int := fun e => if e = d then - f d else if e ∈ cr d then f e else f e + 2 * f d
/-- the first letter of the list is the last door -/
def act (cr : Nat → List Nat) (w : List Nat) (f : Nat → Int) : Nat → Int := w.foldr (thr cr) f
def unit (x : Nat) : Nat → Int := fun e => if e = x then 1 else 0
section
variable {cr : Nat → List Nat} {a b d e k : Nat} {f : Nat → Int} {w : List Nat}
theorem act_app (u v : List Nat) (f : Nat → Int) : act cr (u ++ v) f = act cr u (act cr v f) := by
  unfold act
  rw [List.foldr_append]
theorem thr_self : thr cr d f d = - f d := if_pos rfl
theorem thr_cr (ok : CrOk cr) (h : e ∈ cr d) : thr cr d f e = f e := by
  unfold thr
  rw [if_neg (fun z : e = d => ok.irr d (by rw [z] at h; exact h)), if_pos h]
theorem thr_not (h : e ≠ d) (h2 : ¬ e ∈ cr d) : thr cr d f e = f e + 2 * f d := by
  unfold thr
  rw [if_neg h, if_neg h2]
theorem thr_thr (ok : CrOk cr) : thr cr d (thr cr d f) = f := by
  funext e
  by_cases h : e = d
  · subst h
    rw [thr_self, thr_self]
    omega
  · by_cases h2 : e ∈ cr d
    · rw [thr_cr ok h2, thr_cr ok h2]
    · rw [thr_not h h2, thr_not h h2, thr_self]
      omega
theorem thr_comm (ok : CrOk cr) (h : a ∈ cr b) : thr cr a (thr cr b f) = thr cr b (thr cr a f) := by
  have h' := ok.sym _ _ h
  have ne : a ≠ b := fun z => ok.irr b (z ▸ h)
  funext e
  by_cases e1 : e = a
  · subst e1
    rw [thr_self, thr_cr ok h, thr_cr ok h, thr_self]
  · by_cases e2 : e = b
    · subst e2
      rw [thr_cr ok h', thr_self, thr_self, thr_cr ok h']
    · by_cases c1 : e ∈ cr a
      · by_cases c2 : e ∈ cr b
        · rw [thr_cr ok c1, thr_cr ok c2, thr_cr ok c2, thr_cr ok c1]
        · rw [thr_cr ok c1, thr_not e2 c2, thr_not e2 c2, thr_cr ok c1, thr_cr ok h']
      · by_cases c2 : e ∈ cr b
        · rw [thr_not e1 c1, thr_cr ok c2, thr_cr ok h, thr_cr ok c2, thr_not e1 c1]
        · rw [thr_not e1 c1, thr_not e2 c2, thr_cr ok h, thr_not e2 c2, thr_not e1 c1, thr_cr ok h']
          omega
theorem act_comm (ok : CrOk cr) : ∀ {q : List Nat}, (∀ y ∈ q, y ∈ cr k) → act cr q (thr cr k f) = thr cr k (act cr q f)
  | [], _ => rfl
  | y :: q, h => by
    show thr cr y (act cr q (thr cr k f)) = thr cr k (thr cr y (act cr q f))
    rw [act_comm ok fun z hz => h z (List.mem_cons_of_mem _ hz), thr_comm ok (h y (List.mem_cons_self ..))]
theorem act_step (ok : CrOk cr) (name : List Nat) (k : Nat) (f : Nat → Int) : act cr (stepOf (cr k) name k) f = act cr (name ++ [k]) f := by
  obtain ⟨d, e, e1, hd, he, hc⟩ := stepOf_cases (cr k) name k
  have e1' := congrArg List.reverse e1
  rw [List.reverse_reverse, List.reverse_append] at e1'
  have hd' : ∀ y ∈ d.reverse, y ∈ cr k := fun y hy => hd y (List.mem_reverse.mp hy)
  rcases hc with ⟨e', rfl, e2⟩ | ⟨hk, e2⟩
  · have e3 := congrArg List.reverse e2
    rw [List.reverse_reverse, List.reverse_append] at e3
    rw [e3, e1', List.reverse_cons, act_app, act_app, act_app, act_app]
    show _ = act cr e'.reverse (thr cr k (act cr d.reverse (thr cr k f)))
    rw [act_comm ok hd', thr_thr ok]
  · have e3 := congrArg List.reverse e2
    rw [List.reverse_reverse, List.reverse_append, List.reverse_reverse] at e3
    obtain ⟨b1, b2, eb, ep, hb1, hb2⟩ := putIn_split k d.reverse
    rw [e3, e1', ep, eb]
    have h2 : ∀ y ∈ b2, y ∈ cr k := fun y hy => hd' y (by rw [eb]; exact List.mem_append_right _ hy)
    simp only [act_app]
    show act cr e.reverse (act cr b1 (thr cr k (act cr b2 f))) = act cr e.reverse (act cr b1 (act cr b2 (thr cr k f)))
    rw [act_comm ok h2]
theorem act_join (ok : CrOk cr) : ∀ (way name : List Nat) (f : Nat → Int), act cr (joinC cr name way) f = act cr (name ++ way) f
  | [], name, f => by rw [List.append_nil]; rfl
  | k :: r, name, f => by
    show act cr (joinC cr (stepOf (cr k) name k) r) f = _
    rw [act_join ok r, act_app, act_step ok, ← act_app, List.append_assoc]
    rfl
/-! ### doors that lead back -/
def desc (cr : Nat → List Nat) (s : Nat) : List Nat → Prop
  | [] => False
  | t :: r => t = s ∨ (t ∈ cr s ∧ desc cr s r)
def Red (cr : Nat → List Nat) : List Nat → Prop
  | [] => True
  | t :: r => ¬ desc cr t r ∧ Red cr r
theorem desc_split {s : Nat} : ∀ {w : List Nat}, desc cr s w → ∃ p q, w = p ++ s :: q ∧ ∀ y ∈ p, y ∈ cr s
  | [], h => h.elim
  | t :: r, h => by
    rcases h with rfl | ⟨h1, h2⟩
    · exact ⟨[], r, rfl, fun _ z => (nomatch z)⟩
    · obtain ⟨p, q, rfl, hp⟩ := desc_split h2
      refine ⟨t :: p, q, rfl, fun y hy => ?_⟩
      rcases List.mem_cons.mp hy with rfl | hy
      · exact h1
      · exact hp y hy
theorem desc_of {s : Nat} : ∀ {p q : List Nat}, (∀ y ∈ p, y ∈ cr s) → desc cr s (p ++ s :: q)
  | [], _, _ => .inl rfl
  | y :: p, q, h => .inr ⟨h y (List.mem_cons_self ..), desc_of fun z hz => h z (List.mem_cons_of_mem _ hz)⟩
theorem desc_pass {s : Nat} (ok : CrOk cr) {q : List Nat} : ∀ {p : List Nat}, (∀ y ∈ p, y ∈ cr s) → (desc cr s (p ++ q) ↔ desc cr s q)
  | [], _ => Iff.rfl
  | y :: p, h => by
    have hy := h y (List.mem_cons_self ..)
    have ih := desc_pass (q := q) ok (p := p) fun z hz => h z (List.mem_cons_of_mem _ hz)
    constructor
    · rintro (rfl | ⟨_, h2⟩)
      · exact absurd hy (ok.irr _)
      · exact ih.mp h2
    · exact fun z => .inr ⟨hy, ih.mpr z⟩
/-- taken out: the door before its letter keeps what it is -/
theorem desc_out {s t : Nat} (ok : CrOk cr) (h : s ∈ cr t) {q : List Nat} : ∀ {p : List Nat}, desc cr t (p ++ q) → desc cr t (p ++ s :: q)
  | [], z => .inr ⟨h, z⟩
  | y :: p, z => by
    rcases z with z | ⟨z1, z2⟩
    · exact .inl z
    · exact .inr ⟨z1, desc_out ok h z2⟩
theorem Red_out {s : Nat} (ok : CrOk cr) {q : List Nat} : ∀ {p : List Nat}, (∀ y ∈ p, y ∈ cr s) → Red cr (p ++ s :: q) → Red cr (p ++ q)
  | [], _, h => h.2
  | y :: p, hp, h => ⟨fun z => h.1 (desc_out ok (ok.sym _ _ (hp y (List.mem_cons_self ..))) z), Red_out ok (fun z hz => hp z (List.mem_cons_of_mem _ hz)) h.2⟩
theorem Red_right : ∀ {p q : List Nat}, Red cr (p ++ q) → Red cr q
  | [], _, h => h
  | _ :: p, _, h => Red_right (p := p) h.2
/-- what is taken out of a reduced way -/
theorem Red_desc {s : Nat} (ok : CrOk cr) (h : Red cr w) (hs : desc cr s w) : ∃ u, Red cr u ∧ ¬ desc cr s u ∧ u.length + 1 = w.length ∧ (∀ f, act cr w f = thr cr s (act cr u f)) ∧ ∀ y ∈ u, y ∈ w := by
  obtain ⟨p, q, rfl, hp⟩ := desc_split hs
  refine ⟨p ++ q, Red_out ok hp h, ?_, by simp; omega, fun f => ?_, fun y hy => ?_⟩
  · rw [desc_pass ok hp]
    exact (Red_right h).1
  · rw [act_app, act_app]
    show act cr p (thr cr s (act cr q f)) = _
    rw [act_comm ok hp]
  · rcases List.mem_append.mp hy with z | z
    · exact List.mem_append_left _ z
    · exact List.mem_append_right _ (List.mem_cons_of_mem _ z)
end
/-- all coordinates are at least nought, one is above -/
def Pos (ls : List Nat) (v : Nat → Int) : Prop := (∀ x ∈ ls, 0 ≤ v x) ∧ ∃ x ∈ ls, 0 < v x
theorem mul_nn {c x : Int} (h : 0 ≤ c) (h2 : 0 ≤ x) : 0 ≤ c * x := Int.mul_nonneg h h2
theorem Pos.comb {ls : List Nat} {u v : Nat → Int} {c b : Int} (hu : Pos ls u) (hv : Pos ls v) (hc : 0 ≤ c) (hb : 0 < b) : Pos ls fun x => c * u x + b * v x := by
  refine ⟨fun x hx => ?_, ?_⟩
  · have := mul_nn hc (hu.1 x hx)
    have := mul_nn (Int.le_of_lt hb) (hv.1 x hx)
    show 0 ≤ c * u x + b * v x
    omega
  · obtain ⟨x, hx, h⟩ := hv.2
    refine ⟨x, hx, ?_⟩
    have := mul_nn hc (hu.1 x hx)
    have := Int.mul_pos hb h
    show 0 < c * u x + b * v x
    omega
theorem Pos.congr {ls : List Nat} {u v : Nat → Int} (hu : Pos ls u) (h : ∀ x ∈ ls, v x = u x) : Pos ls v := by
  refine ⟨fun x hx => h x hx ▸ hu.1 x hx, ?_⟩
  obtain ⟨x, hx, p⟩ := hu.2
  exact ⟨x, hx, h x hx ▸ p⟩
/-- the mark of the door e behind the way w, coordinate by coordinate -/
def mark (cr : Nat → List Nat) (w : List Nat) (e : Nat) : Nat → Int := fun x => act cr w (unit x) e
section
variable {cr : Nat → List Nat} {ls : List Nat}
theorem mark_pos (ok : CrOk cr) : ∀ (n : Nat) (w : List Nat), w.length = n → Red cr w → (∀ y ∈ w, y ∈ ls) →
    (∀ s ∈ ls, ¬ desc cr s w → Pos ls (mark cr w s)) ∧
    (∀ s ∈ ls, ∀ t ∈ ls, s ≠ t → ¬ s ∈ cr t → desc cr s w → ¬ desc cr t w → ∀ a b : Int, 0 ≤ a → a ≤ b → 0 < b → Pos ls fun x => a * mark cr w s x + b * mark cr w t x) := by
  intro n
  induction n using Nat.strongRecOn with
  | ind n ih =>
    intro w hn hr hw
    refine ⟨fun s hs hd => ?_, fun s hs t ht ne nc hd hd2 a b ha hab hb => ?_⟩
    · cases w with
      | nil =>
        refine ⟨fun x _ => ?_, s, hs, ?_⟩
        · show 0 ≤ unit x s
          unfold unit
          split <;> omega
        · show 0 < unit s s
          unfold unit
          rw [if_pos rfl]
          omega
      | cons t r =>
        have hr' : r.length < n := by rw [← hn]; simp
        have ht : t ∈ ls := hw t (List.mem_cons_self ..)
        have ne : s ≠ t := fun z => hd (.inl z.symm)
        obtain ⟨i1, i2⟩ := ih r.length hr' r rfl hr.2 fun y hy => hw y (List.mem_cons_of_mem _ hy)
        by_cases hc : s ∈ cr t
        · have hsr : ¬ desc cr s r := fun z => hd (.inr ⟨ok.sym _ _ hc, z⟩)
          refine (i1 s hs hsr).congr fun x _ => ?_
          show thr cr t (act cr r (unit x)) s = _
          rw [thr_cr ok hc]
          rfl
        · have key : ∀ x ∈ ls, mark cr (t :: r) s x = 1 * mark cr r s x + 2 * mark cr r t x := by
            intro x _
            show thr cr t (act cr r (unit x)) s = _
            rw [thr_not ne hc]
            show mark cr r s x + 2 * mark cr r t x = _
            omega
          by_cases hsr : desc cr s r
          · exact (i2 s hs t ht ne hc hsr hr.1 1 2 (by decide) (by decide) (by decide)).congr key
          · exact ((i1 s hs hsr).comb (i1 t ht hr.1) (by decide) (by decide)).congr key
    · obtain ⟨u, ru, du, lu, au, mu⟩ := Red_desc ok hr hd
      obtain ⟨i1, i2⟩ := ih u.length (by omega) u rfl ru fun y hy => hw y (mu y hy)
      have nc' : ¬ t ∈ cr s := fun z => nc (ok.sym _ _ z)
      have key : ∀ x ∈ ls, a * mark cr w s x + b * mark cr w t x = b * mark cr u t x + (2 * b - a) * mark cr u s x := by
        intro x _
        have e1 : mark cr w s x = - mark cr u s x := by
          show act cr w (unit x) s = _
          rw [au, thr_self]
          rfl
        have e2 : mark cr w t x = mark cr u t x + 2 * mark cr u s x := by
          show act cr w (unit x) t = _
          rw [au, thr_not ne.symm nc']
          rfl
        rw [e1, e2, Int.mul_neg, Int.mul_add, Int.sub_mul, ← Int.mul_assoc, Int.mul_comm b 2]
        omega
      by_cases htu : desc cr t u
      · exact (i2 t ht s hs ne.symm nc' htu du b (2 * b - a) (by omega) (by omega) (by omega)).congr key
      · exact ((i1 t ht htu).comb (i1 s hs du) (by omega) (by omega)).congr key
/-- a door leads back just if a coordinate of its mark is below nought -/
theorem mark_neg (ok : CrOk cr) {w : List Nat} (hr : Red cr w) (hw : ∀ y ∈ w, y ∈ ls) {s : Nat} (hs : s ∈ ls) : (∃ x ∈ ls, mark cr w s x < 0) ↔ desc cr s w := by
  constructor
  · rintro ⟨x, hx, h⟩
    by_cases hd : desc cr s w
    · exact hd
    · have := ((mark_pos ok _ w rfl hr hw).1 s hs hd).1 x hx
      omega
  · intro hd
    obtain ⟨u, ru, du, lu, au, mu⟩ := Red_desc ok hr hd
    obtain ⟨x, hx, h⟩ := ((mark_pos ok _ u rfl ru fun y hy => hw y (mu y hy)).1 s hs du).2
    refine ⟨x, hx, ?_⟩
    show act cr w (unit x) s < 0
    rw [au, thr_self]
    have : 0 < act cr u (unit x) s := h
    omega
/-! ### names by marks -/
theorem NF.tail {c : Nat} {r : List Nat} (h : NF cr (c :: r)) : NF cr r := by
  unfold NF at h ⊢
  rw [List.reverse_cons] at h
  have key : ∀ {a b : List Nat}, NFr cr (a ++ b) → NFr cr a := by
    intro a b
    induction a with
    | nil => intro _; trivial
    | cons s a ih =>
      intro h
      refine ⟨?_, ih h.2⟩
      have h1 := h.1
      clear h ih
      induction a with
      | nil => trivial
      | cons t a ih => exact ⟨h1.1, fun z => ⟨(h1.2 z).1, ih (h1.2 z).2⟩⟩
  exact key h
theorem NF.red : ∀ {w : List Nat}, NF cr w → Red cr w
  | [], _ => trivial
  | t :: r, h => by
    refine ⟨fun z => ?_, NF.red h.tail⟩
    obtain ⟨p, q, rfl, hp⟩ := desc_split z
    exact (h.two (p := []) (q := p) (r := q) rfl hp).1 rfl
/-- the first letter is the least door back -/
theorem NF.least {c s : Nat} {r : List Nat} (h : NF cr (c :: r)) (hs : desc cr s (c :: r)) : c ≤ s := by
  rcases hs with rfl | ⟨h1, h2⟩
  · exact Nat.le_refl _
  · obtain ⟨p, q, rfl, hp⟩ := desc_split h2
    exact Nat.le_of_lt ((h.two (p := []) (q := p) (r := q) rfl hp).2 h1)
/-- two names with the same marks are the same -/
theorem NF.uniq (ok : CrOk cr) : ∀ {w v : List Nat}, NF cr w → NF cr v → (∀ y ∈ w, y ∈ ls) → (∀ y ∈ v, y ∈ ls) → (∀ x ∈ ls, ∀ s, act cr w (unit x) s = act cr v (unit x) s) → w = v
  | [], [], _, _, _, _, _ => rfl
  | [], c :: v, h, h', hw, hv, he => by
    have := (mark_neg ok h'.red hv (hv c (List.mem_cons_self ..))).mpr (.inl rfl)
    obtain ⟨x, hx, z⟩ := this
    have := (mark_neg ok h.red hw (hv c (List.mem_cons_self ..))).mp ⟨x, hx, by unfold mark; rw [he x hx]; exact z⟩
    exact this.elim
  | c :: w, [], h, h', hw, hv, he => by
    have := (mark_neg ok h.red hw (hw c (List.mem_cons_self ..))).mpr (.inl rfl)
    obtain ⟨x, hx, z⟩ := this
    have := (mark_neg ok h'.red hv (hw c (List.mem_cons_self ..))).mp ⟨x, hx, by unfold mark; rw [← he x hx]; exact z⟩
    exact this.elim
  | c :: w, b :: v, h, h', hw, hv, he => by
    have hc := hw c (List.mem_cons_self ..)
    have hb := hv b (List.mem_cons_self ..)
    have h1 : desc cr c (b :: v) := by
      obtain ⟨x, hx, z⟩ := (mark_neg ok h.red hw hc).mpr (.inl rfl)
      exact (mark_neg ok h'.red hv hc).mp ⟨x, hx, by unfold mark; rw [← he x hx]; exact z⟩
    have h2 : desc cr b (c :: w) := by
      obtain ⟨x, hx, z⟩ := (mark_neg ok h'.red hv hb).mpr (.inl rfl)
      exact (mark_neg ok h.red hw hb).mp ⟨x, hx, by unfold mark; rw [he x hx]; exact z⟩
    have e1 := h.least h2
    have e2 := h'.least h1
    have e : c = b := by omega
    subst e
    congr 1
    refine NF.uniq ok h.tail h'.tail (fun y hy => hw y (List.mem_cons_of_mem _ hy)) (fun y hy => hv y (List.mem_cons_of_mem _ hy)) fun x hx s => ?_
    have e3 : act cr (c :: w) (unit x) = act cr (c :: v) (unit x) := funext (he x hx)
    have e4 := congrArg (thr cr c) e3
    have e5 : thr cr c (thr cr c (act cr w (unit x))) = thr cr c (thr cr c (act cr v (unit x))) := e4
    rw [thr_thr ok, thr_thr ok] at e5
    rw [e5]
end
end Cw
set_option Elab.async false
set_option linter.all false
set_option maxRecDepth 100000
set_option maxHeartbeats 4000000
/-! a drawn floor, in plain words -/
namespace Cw
theorem splitB_congr {p p' : List Nat} : ∀ {a b : List Nat}, (∀ c ∈ a, c ∈ p ↔ c ∈ p') → splitB p a b = splitB p' a b
  | [], b, _ => rfl
  | x :: r, b, h => by
    have hx := h x (List.mem_cons_self ..)
    unfold splitB
    by_cases c : x ∈ p
    · rw [if_pos c, if_pos (hx.mp c)]
      exact splitB_congr fun c hc => h c (List.mem_cons_of_mem _ hc)
    · rw [if_neg c, if_neg (fun z => c (hx.mpr z))]
theorem stepOf_congr {p p' name : List Nat} {k : Nat} (h : ∀ c ∈ name, c ∈ p ↔ c ∈ p') : stepOf p name k = stepOf p' name k := by
  unfold stepOf
  rw [splitB_congr (p' := p') fun c hc => h c (List.mem_reverse.mp hc)]
theorem joinC_congr {f f' : Nat → List Nat} {ls : List Nat} (h : ∀ k ∈ ls, ∀ c ∈ ls, c ∈ f k ↔ c ∈ f' k) : ∀ {way name : List Nat}, (∀ c ∈ name, c ∈ ls) → (∀ c ∈ way, c ∈ ls) → joinC f name way = joinC f' name way
  | [], name, _, _ => rfl
  | k :: r, name, hn, hw => by
    show joinC f (stepOf (f k) name k) r = joinC f' (stepOf (f' k) name k) r
    have hk := hw k (List.mem_cons_self ..)
    rw [stepOf_congr (p' := f' k) fun c hc => h k hk c (hn c hc)]
    refine joinC_congr h (fun c hc => ?_) fun c hc => hw c (List.mem_cons_of_mem _ hc)
    rcases stepOf_mem hc with e | e
    · rw [e]
      exact hk
    · exact hn c e
/-- the letters of a drawn floor and which cross -/
structure Fl (ls : List Nat) (f : Nat → List Nat) : Prop where
  tab : Tab ls f
  ok : CrOk f
  asc : ls.Pairwise (· < ·)
  pos : 0 < ls.length
theorem Flr.fl {num : Nat} {ls : List Nat} {rel : Nat → Nat → Bool} (h : Flr num ls rel) : Fl ls (crossBy ls rel) where
  tab := h.tab
  asc := cut_lt' h.cut
  pos := (cut_len h.cut).2.2
  ok := by
    refine ⟨fun a b hab => ?_, fun a ha => ?_⟩
    · obtain ⟨h1, h2⟩ := List.mem_filter.mp hab
      have h3 := h.ok.in b a h2
      refine List.mem_filter.mpr ⟨h3.1, ?_⟩
      rw [h.ok.sym]
      exact h2
    · obtain ⟨h1, h2⟩ := List.mem_filter.mp ha
      exact (h.ok.in a a h2).2.2 rfl
theorem Fl.plain {ls : List Nat} {f : Nat → List Nat} (h : Fl ls f) : Fl ls (fun _ => []) where
  tab := ⟨h.tab.nd, h.tab.lt, h.tab.len, fun _ _ _ z => (nomatch z), fun _ _ => by simp⟩
  ok := ⟨fun _ _ z => (nomatch z), fun _ z => (nomatch z)⟩
  asc := h.asc
  pos := h.pos
section
variable {ls : List Nat} {f : Nat → List Nat}
theorem cross_tab (T : Tab ls f) {k c : Nat} (hk : k ∈ ls) (hc : c ∈ ls) : c ∈ crossOf (ascOf ls) (tabPairs ls f) k ↔ c ∈ f k := by
  unfold crossOf
  rw [List.mem_filter, Bool.or_eq_true, decide_eq_true_iff, decide_eq_true_iff]
  have mk : ∀ a b, a ∈ ls → b ∈ f a → b ∈ ls → ascOf [a, b] ∈ ls.flatMap fun a => (f a).map fun b => ascOf [a, b] := fun a b ha hb _ => List.mem_flatMap.mpr ⟨a, ha, List.mem_map.mpr ⟨b, hb, rfl⟩⟩
  constructor
  · rintro ⟨_, h | h⟩
    · obtain ⟨a, b, e, _, _, _, hb⟩ := tabPairs_lt T h
      injection e with e1 e2
      injection e2 with e2
      rw [e1, e2]
      exact hb
    · obtain ⟨a, b, e, _, ha, _, hb⟩ := tabPairs_lt T h
      injection e with e1 e2
      injection e2 with e2
      rw [e1, e2]
      exact (T.sub a ha b hb).2.2
  · intro h
    refine ⟨ascOf_mem.mpr ⟨T.lt c hc, hc⟩, ?_⟩
    have s := T.sub k hk c h
    rcases Nat.lt_or_gt_of_ne s.2.1 with l | l
    · refine .inr (pairsOf_mem.mpr ⟨c, k, rfl, T.lt c hc, T.lt k hk, ?_⟩)
      have := mk k c hk h hc
      rw [(asc2 (T.lt c hc) (T.lt k hk) l).2] at this
      exact this
    · refine .inl (pairsOf_mem.mpr ⟨k, c, rfl, T.lt k hk, T.lt c hc, ?_⟩)
      have := mk k c hk h hc
      rw [(asc2 (T.lt k hk) (T.lt c hc) l).1] at this
      exact this
theorem joinOf_tab (T : Tab ls f) {name way : List Nat} (hn : ∀ c ∈ name, c ∈ ls) (hw : ∀ c ∈ way, c ∈ ls) : joinOf (ascOf ls) (tabPairs ls f) name way = joinC f name way := by
  rw [joinOf_C]
  exact joinC_congr (fun k hk c hc => cross_tab T hk hc) hn hw
theorem stepOf_tab (T : Tab ls f) {name : List Nat} {k : Nat} (hk : k ∈ ls) (hn : ∀ c ∈ name, c ∈ ls) : stepOf (crossOf (ascOf ls) (tabPairs ls f) k) name k = stepOf (f k) name k := stepOf_congr fun c hc => cross_tab T hk (hn c hc)
theorem joinC_mem' {cr : Nat → List Nat} {c : Nat} : ∀ {way name : List Nat}, c ∈ joinC cr name way → c ∈ name ∨ c ∈ way
  | [], name, h => .inl h
  | k :: r, name, h => by
    rcases joinC_mem' (way := r) (name := stepOf (cr k) name k) h with z | z
    · rcases stepOf_mem z with e | e
      · exact .inr (e ▸ List.mem_cons_self ..)
      · exact .inl e
    · exact .inr (List.mem_cons_of_mem _ z)
/-- the name of a way -/
abbrev nameOf (f : Nat → List Nat) (w : List Nat) : List Nat := joinC f [] w
theorem name_mem {w : List Nat} {c : Nat} (h : c ∈ nameOf f w) : c ∈ w := (joinC_mem' h).elim (fun z => (nomatch z)) id
theorem name_len (f : Nat → List Nat) (w : List Nat) : (nameOf f w).length ≤ w.length := by
  have key : ∀ (way name : List Nat), (joinC f name way).length ≤ name.length + way.length := by
    intro way
    induction way with
    | nil => intro name; exact Nat.le_refl _
    | cons k r ih =>
      intro name
      have := ih (stepOf (f k) name k)
      have := stepOf_len (f k) name k
      show (joinC f (stepOf (f k) name k) r).length ≤ _
      rw [List.length_cons]
      omega
  have := key w []
  rw [List.length_nil] at this
  show (joinC f [] w).length ≤ _
  omega
theorem name_NF (ok : CrOk f) (w : List Nat) : NF f (nameOf f w) := NF_join ok NF_nil
/-- two ways with the same marks have one name -/
theorem name_eq (ok : CrOk f) {v w : List Nat} (h : ∀ g, act f v g = act f w g) : nameOf f v = nameOf f w := by
  refine NF.uniq (ls := v ++ w) ok (name_NF ok v) (name_NF ok w) (fun y hy => List.mem_append_left _ (name_mem hy)) (fun y hy => List.mem_append_right _ (name_mem hy)) fun x _ s => ?_
  have e1 := act_join ok v [] (unit x)
  have e2 := act_join ok w [] (unit x)
  rw [List.nil_append] at e1 e2
  rw [show act f (nameOf f v) (unit x) = act f v (unit x) from e1, show act f (nameOf f w) (unit x) = act f w (unit x) from e2, h]
theorem name_act (ok : CrOk f) (w : List Nat) (g : Nat → Int) : act f (nameOf f w) g = act f w g := act_join ok w [] g
theorem name_twice (ok : CrOk f) (a : List Nat) (k : Nat) : nameOf f (a ++ [k] ++ [k]) = nameOf f a := by
  refine name_eq ok fun g => ?_
  rw [List.append_assoc, act_app]
  show act f a (thr f k (thr f k g)) = _
  rw [thr_thr ok]
end
end Cw
set_option Elab.async false
set_option linter.all false
set_option maxRecDepth 100000
set_option maxHeartbeats 4000000
/-! more operators of classes of one's own: o + text, o[text], o == text -/
namespace PySem.W
open PySem PySem.Calls PyProof.Rows Builtin
section
variable {prog : Program} {w : World} {A : Around} {E : Value → Shared → Prop} {s : Shared} {K : Frag} {x C L f : Addr} {h0 : Heap} {m : Str → Option Value} {ox : Obj} {od : Option Obj}
end
end PySem.W
namespace Cw
open PySem PySem.Spec L2
section
variable {X : Cx} {CX : CXT} {k : Nat} {C : Addr} {m : Str} {ps : List Str} {sp : Sp} {E : XK}
/-- o op text, by the class's own method -/
def rMS (C : Addr) (sp : Sp) (E : XK) : R2 := fun x y H Q => ∃ a dx fs z, x = .ref a ∧ y = .str z ∧ H a = some (.ins C dx fs) ∧ sp [.ref a, .str z] H Q E
end
section
variable {σ : St} {H : Hp} {Q : VK} {K : PySem.W.Frag}
theorem v_MS {C : Addr} {sp : Sp} {E : XK} {a dx : Addr} {fs : List (Str × V)} {z : Str} (h : H a = some (.ins C dx fs)) (q : sp [.ref a, .str z] H Q E) : rMS C sp E (.ref a) (.str z) H Q := ⟨a, dx, fs, z, rfl, rfl, h, q⟩
end
end Cw
set_option Elab.async false
set_option linter.all false
set_option maxRecDepth 100000
set_option maxHeartbeats 4000000
/-! tables of vectors -/
namespace Cw
open PySem PySem.Spec L2
def marksKV (ls : List Nat) (A : Nat → Addr) : List (Key × V) := ls.map fun c => ((Sum.inr (tx [c]) : Key), V.ref (A c))
def vecV (ls : List Nat) (v : Nat → Int) : List V := ls.map fun x => V.int (v x)
structure MarksAt (H : Hp) (m : Addr) (ls : List Nat) (M : Nat → Nat → Int) : Prop where
  ex : ∃ A : Nat → Addr, H m = some (.dK (marksKV ls A)) ∧ ∀ c ∈ ls, H (A c) = some (.tup (vecV ls (M c)))
theorem MarksAt.same {H H' : Hp} {m : Addr} {ls : List Nat} {M : Nat → Nat → Int} (h : MarksAt H m ls M) (s : Same H H') : MarksAt H' m ls M := by
  obtain ⟨A, a, b⟩ := h.ex
  exact ⟨A, s _ _ a, fun c hc => s _ _ (b c hc)⟩
theorem MarksAt.congr {H : Hp} {m : Addr} {ls : List Nat} {M M' : Nat → Nat → Int} (h : MarksAt H m ls M) (e : ∀ c ∈ ls, ∀ x ∈ ls, M c x = M' c x) : MarksAt H m ls M' := by
  obtain ⟨A, a, b⟩ := h.ex
  refine ⟨A, a, fun c hc => ?_⟩
  rw [b c hc]
  congr 2
  exact List.map_congr_left fun x hx => by rw [e c hc x hx]
theorem vecV_len (ls : List Nat) (v : Nat → Int) : (vecV ls v).length = ls.length := by unfold vecV; rw [List.length_map]
section
variable {K : PySem.W.Frag} {a : Addr} {ls : List Nat} {f : Nat → V}
end
section
variable {σ : St} {H : Hp} {Q : VK} {te : TE} {K : PySem.W.Frag}
theorem e_iT {R : It → Hp → Prop} (q : te σ H fun x H1 => ∃ a, x = .ref a ∧ (∃ xs, SqT K H1 a xs) ∧ R (Itt K a) H1) : iTup K te σ H R := q
theorem v_ixT {p : Addr} {xs : List V} {a : Int} {v : V} (h : H p = some (.tup xs)) (c : atI xs a = some v) (q : Q v H) : rIxT K (.ref p) (.int a) H Q := ⟨p, xs, a, v, rfl, rfl, SqT.of h, c, q⟩
theorem vals_all {σ : St} {i : Nat} {tt : TT} {te : TE} {P : Addr → Hp → Prop} {J : It} {G : Hp → Prop} {ls : List Nat} {it f : Nat → V} (w : Walk J ls.length G (YFn fun k => it (ls.getD k 0))) (hG : ∀ H', Same H H' → G H') (hn : ls.length ≤ 1000000)
    (ht : ∀ c ∈ ls, ∀ H1, Same H H1 → ∀ R : Bool → Hp → Prop, (∀ H2, Same H1 H2 → R true H2) → tt ((wipe σ [i]).set i (some (it c))) H1 R)
    (he : ∀ c ∈ ls, ∀ H1, Same H H1 → ∀ R : VK, (∀ H2, Same H1 H2 → R (f c) H2) → te ((wipe σ [i]).set i (some (it c))) H1 R)
    (q : ∀ D H', H D = none → Same H H' → H' D = some (.lst (ls.map f)) → P D H') :
    ∀ D, H D = none → ∃ W : Nat → Nat → Hp → Prop, (∃ m, W 0 m (upd H D (.lst []))) ∧ ∀ k m H, W k m H →
      (J.stop k H ∧ P D H) ∨ (J.go k H ∧ ∃ Nx : Hp → Prop, (∀ H', Nx H' → ∃ m', m' < m ∧ W (k + 1) m' H') ∧ ∀ x H', J.yld k H x H' → (gName i) x (wipe σ [i]) H' fun s2 H2 => wipe s2 [i] = wipe σ [i] ∧ tt s2 H2 fun c H3 =>
        if c = true then te s2 H3 fun y H4 => ∃ acc, H4 D = some (.lst acc) ∧ acc.length < sizeLine ∧ Nx (upd H4 D (.lst (acc ++ [y]))) else Nx H3) := by
  refine lc_gen (b := fun _ => true) (f := fun k => f (ls.getD k 0)) w hG hn (fun k hk H1 s1 R r => ht _ (getD_mem hk) H1 s1 R r) (fun k hk c H1 s1 R r => he _ (getD_mem hk) H1 s1 R r) (fun D H' hD s' e => q D H' hD s' ?_)
  rw [e, range_map ls (fun _ => true) f, List.filter_eq_self.mpr (fun _ _ => rfl)]
end
theorem cr_minK {X : Cx} {K : PySem.W.Frag} (h : X.K = K) (hc : X.calm = true) : CallR X (.builtin "min") (rMin K) := h ▸ cr_min hc
end Cw
namespace Cw
open PySem PySem.Spec L2
end Cw
set_option Elab.async false
set_option linter.all false
set_option maxRecDepth 100000
set_option maxHeartbeats 4000000
/-! ways turned back; the doors that lead nearer -/
namespace Cw
section
variable {cr f : Nat → List Nat} {ls : List Nat}
theorem act_rev (ok : CrOk f) : ∀ (w : List Nat) (g : Nat → Int), act f w.reverse (act f w g) = g
  | [], g => rfl
  | k :: r, g => by
    rw [List.reverse_cons, act_app]
    show act f r.reverse (thr f k (thr f k (act f r g))) = g
    rw [thr_thr ok, act_rev ok r]
theorem act_rev' (ok : CrOk f) (w : List Nat) (g : Nat → Int) : act f w (act f w.reverse g) = g := by
  have := act_rev ok w.reverse g
  rw [List.reverse_reverse] at this
  exact this
theorem act_rev_eq (ok : CrOk f) {v w : List Nat} (h : ∀ g, act f v g = act f w g) (g : Nat → Int) : act f v.reverse g = act f w.reverse g := by
  have e1 := act_rev' ok w g
  rw [← h] at e1
  have e2 := congrArg (act f v.reverse) e1
  rw [act_rev ok] at e2
  exact e2.symm
theorem name_catR (ok : CrOk f) (a b : List Nat) : nameOf f (a ++ nameOf f b) = nameOf f (a ++ b) := name_eq ok fun g => by
  rw [act_app, act_app, name_act ok]
theorem name_back (ok : CrOk f) (a : List Nat) : nameOf f (a.reverse ++ a) = [] := name_eq (w := []) ok fun g => by
  rw [act_app, act_rev ok]
  rfl
theorem name_there (ok : CrOk f) (a b : List Nat) : nameOf f (a ++ (a.reverse ++ b)) = nameOf f b := name_eq ok fun g => by
  rw [act_app, act_app, act_rev' ok]
/-- the way from one room to another one -/
def wayC (f : Nat → List Nat) (a b : List Nat) : List Nat := nameOf f (a.reverse ++ b)
theorem way_name (ok : CrOk f) (a b : List Nat) : wayC f (nameOf f a) (nameOf f b) = wayC f a b := name_eq ok fun g => by
  rw [act_app, act_app, name_act ok b, act_rev_eq ok (name_act ok a)]
theorem way_self (ok : CrOk f) (a : List Nat) : wayC f a a = [] := name_back ok a
theorem way_goes (ok : CrOk f) (a b : List Nat) : nameOf f (a ++ wayC f a b) = nameOf f b := by
  unfold wayC
  rw [name_catR ok, name_there ok]
/-! ### odd and even -/
/-! ### doors nearer -/
instance descDec (cr : Nat → List Nat) (s : Nat) : (w : List Nat) → Decidable (desc cr s w)
  | [] => isFalse id
  | t :: r => by
    have := descDec cr s r
    exact inferInstanceAs (Decidable (t = s ∨ (t ∈ cr s ∧ desc cr s r)))
theorem Red_iff : ∀ {w : List Nat}, Red cr w ↔ ∀ p t q r, w = p ++ t :: (q ++ t :: r) → ¬ ∀ y ∈ q, y ∈ cr t
  | [] => ⟨fun _ p t q r e => (by cases p <;> cases e), fun _ => trivial⟩
  | x :: w => by
    constructor
    · intro h p t q r e hq
      cases p with
      | nil =>
        injection e with e1 e2
        subst e1
        exact h.1 (e2 ▸ desc_of hq)
      | cons y p =>
        injection e with e1 e2
        exact Red_iff.mp h.2 p t q r e2 hq
    · intro h
      refine ⟨fun z => ?_, Red_iff.mpr fun p t q r e hq => h (x :: p) t q r (by rw [e]; rfl) hq⟩
      obtain ⟨p, q, e, hp⟩ := desc_split z
      exact h [] x p q (by rw [e]; rfl) hp
theorem Red.rev {w : List Nat} (h : Red cr w) : Red cr w.reverse := by
  rw [Red_iff]
  intro p t q r e hq
  have e2 := congrArg List.reverse e
  rw [List.reverse_reverse] at e2
  refine Red_iff.mp h r.reverse t q.reverse p.reverse ?_ fun y hy => hq y (List.mem_reverse.mp hy)
  rw [e2]
  simp
theorem step_len_desc (ok : CrOk cr) (name : List Nat) (k : Nat) : (desc cr k name.reverse → (stepOf (cr k) name k).length + 1 = name.length) ∧ (¬ desc cr k name.reverse → (stepOf (cr k) name k).length = name.length + 1) := by
  obtain ⟨d, e, e1, hd, he, hc⟩ := stepOf_cases (cr k) name k
  have l1 := congrArg List.length e1
  rw [List.length_reverse, List.length_append] at l1
  rw [e1]
  have hp := desc_pass (q := e) ok hd
  rcases hc with ⟨e', rfl, e2⟩ | ⟨hk, e2⟩
  · have l2 := congrArg List.length e2
    rw [List.length_reverse, List.length_append] at l2
    rw [List.length_cons] at l1
    exact ⟨fun _ => by omega, fun z => absurd (hp.mpr (.inl rfl)) z⟩
  · have l2 := congrArg List.length e2
    rw [List.length_reverse, List.length_append, List.length_reverse, putIn_len, List.length_reverse] at l2
    refine ⟨fun z => ?_, fun _ => by omega⟩
    have z := hp.mp z
    cases e with
    | nil => exact z.elim
    | cons y r =>
      rcases z with z | ⟨z, _⟩
      · exact absurd (by rw [z]; rfl) hk
      · exact absurd z (he y rfl)
/-- letters of a way that all before them cross -/
def frees (f : Nat → List Nat) (ks : List Nat) (p : List Nat) : List Nat := p.foldl (fun free k => free.filter fun o => decide (o ∈ f k)) ks
def founds (f : Nat → List Nat) : List Nat → List Nat → List Nat
  | _, [] => []
  | free, k :: r => (if k ∈ free then [k] else []) ++ founds f (free.filter fun o => decide (o ∈ f k)) r
theorem founds_mem (ok : CrOk f) {s : Nat} : ∀ {w free : List Nat}, s ∈ founds f free w ↔ s ∈ free ∧ desc f s w
  | [], free => ⟨fun z => (nomatch z), fun z => z.2.elim⟩
  | k :: r, free => by
    have ih := founds_mem ok (s := s) (w := r) (free := free.filter fun o => decide (o ∈ f k))
    show s ∈ (if k ∈ free then [k] else []) ++ founds f _ r ↔ s ∈ free ∧ (k = s ∨ (k ∈ f s ∧ desc f s r))
    rw [List.mem_append, ih, List.mem_filter, decide_eq_true_iff]
    constructor
    · rintro (h | ⟨⟨h1, h2⟩, h3⟩)
      · by_cases c : k ∈ free
        · rw [if_pos c, List.mem_singleton] at h
          exact ⟨h ▸ c, .inl h.symm⟩
        · rw [if_neg c] at h
          cases h
      · exact ⟨h1, .inr ⟨ok.sym _ _ h2, h3⟩⟩
    · rintro ⟨h1, rfl | ⟨h2, h3⟩⟩
      · left
        rw [if_pos h1]
        exact List.mem_singleton.mpr rfl
      · right
        exact ⟨⟨h1, ok.sym _ _ h2⟩, h3⟩
theorem founds_nil (f : Nat → List Nat) : ∀ w : List Nat, founds f [] w = []
  | [] => rfl
  | k :: r => by
    show (if k ∈ ([] : List Nat) then [k] else []) ++ founds f [] r = []
    rw [if_neg (fun z => nomatch z), founds_nil f r]
    rfl
end
end Cw
set_option Elab.async false
set_option linter.all false
set_option maxRecDepth 100000
set_option maxHeartbeats 4000000
/-! walls in plain words: two doors of one kind lie in one wall just if their marks agree but for the sign -/
namespace Cw
/-! ### sums of coordinates -/
def sumL : List Nat → (Nat → Int) → Int
  | [], _ => 0
  | x :: r, v => v x + sumL r v
theorem sumL_congr {u v : Nat → Int} : ∀ {ls : List Nat}, (∀ x ∈ ls, u x = v x) → sumL ls u = sumL ls v
  | [], _ => rfl
  | x :: r, h => by
    show u x + sumL r u = v x + sumL r v
    rw [h x (List.mem_cons_self ..), sumL_congr fun y hy => h y (List.mem_cons_of_mem _ hy)]
theorem sumL_comb (a b : Int) (u v : Nat → Int) : ∀ ls : List Nat, sumL ls (fun x => a * u x + b * v x) = a * sumL ls u + b * sumL ls v
  | [] => by simp [sumL]
  | x :: r => by
    show (a * u x + b * v x) + sumL r _ = a * (u x + sumL r u) + b * (v x + sumL r v)
    rw [sumL_comb a b u v r, Int.mul_add, Int.mul_add]
    omega
theorem sumL_nonneg {v : Nat → Int} : ∀ {ls : List Nat}, (∀ x ∈ ls, 0 ≤ v x) → 0 ≤ sumL ls v
  | [], _ => by simp [sumL]
  | x :: r, h => by
    show 0 ≤ v x + sumL r v
    have := h x (List.mem_cons_self ..)
    have := sumL_nonneg (ls := r) fun y hy => h y (List.mem_cons_of_mem _ hy)
    omega
theorem sumL_nonpos {v : Nat → Int} : ∀ {ls : List Nat}, (∀ x ∈ ls, v x ≤ 0) → sumL ls v ≤ 0
  | [], _ => by simp [sumL]
  | x :: r, h => by
    show v x + sumL r v ≤ 0
    have := h x (List.mem_cons_self ..)
    have := sumL_nonpos (ls := r) fun y hy => h y (List.mem_cons_of_mem _ hy)
    omega
theorem sumL_pos {v : Nat → Int} : ∀ {ls : List Nat}, Pos ls v → 1 ≤ sumL ls v
  | [], h => by
    obtain ⟨x, hx, _⟩ := h.2
    cases hx
  | y :: r, h => by
    show 1 ≤ v y + sumL r v
    have h1 := h.1 y (List.mem_cons_self ..)
    have h2 := sumL_nonneg (ls := r) fun z hz => h.1 z (List.mem_cons_of_mem _ hz)
    obtain ⟨x, hx, hp⟩ := h.2
    rcases List.mem_cons.mp hx with rfl | hx
    · omega
    · have := sumL_pos (ls := r) ⟨fun z hz => h.1 z (List.mem_cons_of_mem _ hz), x, hx, hp⟩
      omega
theorem sumL_out {g : Nat → Int} {s : Nat} : ∀ {ls : List Nat}, ¬ s ∈ ls → sumL ls (fun x => g x * unit x s) = 0
  | [], _ => rfl
  | y :: r, h => by
    show g y * unit y s + sumL r _ = 0
    rw [sumL_out fun z => h (List.mem_cons_of_mem _ z)]
    unfold unit
    rw [if_neg fun z : s = y => h (z ▸ List.mem_cons_self ..)]
    simp
theorem sumL_unit {g : Nat → Int} {s : Nat} : ∀ {ls : List Nat}, ls.Nodup → s ∈ ls → sumL ls (fun x => g x * unit x s) = g s
  | [], _, h => nomatch h
  | y :: r, hn, h => by
    show g y * unit y s + sumL r _ = g s
    have hn' := List.nodup_cons.mp hn
    by_cases e : s = y
    · subst e
      rw [sumL_out hn'.1]
      unfold unit
      rw [if_pos rfl]
      omega
    · rw [sumL_unit hn'.2 ((List.mem_cons.mp h).resolve_left e)]
      unfold unit
      rw [if_neg e]
      omega
theorem sumL_one {s : Nat} {ls : List Nat} (hn : ls.Nodup) (hs : s ∈ ls) : sumL ls (fun x => unit x s) = 1 := by
  have := sumL_unit (g := fun _ => 1) hn hs
  rw [← this]
  exact sumL_congr fun x _ => by omega
section
variable {f : Nat → List Nat} {ls : List Nat} {s t : Nat}
/-- a way acts as a matrix of whole numbers -/
theorem act_lin (hn : ls.Nodup) (ok : CrOk f) (g : Nat → Int) : ∀ {w : List Nat} {s : Nat}, (∀ y ∈ w, y ∈ ls) → s ∈ ls → act f w g s = sumL ls fun x => g x * mark f w s x
  | [], s, _, hs => (sumL_unit hn hs).symm
  | t :: r, s, hw, hs => by
    have ht := hw t (List.mem_cons_self ..)
    have hr : ∀ y ∈ r, y ∈ ls := fun y hy => hw y (List.mem_cons_of_mem _ hy)
    show thr f t (act f r g) s = _
    by_cases e : s = t
    · subst e
      rw [thr_self, act_lin hn ok g hr hs]
      have := sumL_comb (-1) 0 (fun x => g x * mark f r s x) (fun _ => 0) ls
      have e2 : sumL ls (fun x => g x * mark f (s :: r) s x) = sumL ls fun x => -1 * (g x * mark f r s x) + 0 * 0 := sumL_congr fun x _ => by
        show g x * thr f s (act f r (unit x)) s = _
        rw [thr_self, Int.mul_neg]
        show -(g x * mark f r s x) = _
        omega
      rw [e2, this]
      omega
    · by_cases c : s ∈ f t
      · rw [thr_cr ok c, act_lin hn ok g hr hs]
        refine sumL_congr fun x _ => ?_
        show _ = g x * thr f t (act f r (unit x)) s
        rw [thr_cr ok c]
        rfl
      · rw [thr_not e c, act_lin hn ok g hr hs, act_lin hn ok g hr ht]
        have := sumL_comb 1 2 (fun x => g x * mark f r s x) (fun x => g x * mark f r t x) ls
        have e2 : sumL ls (fun x => g x * mark f (t :: r) s x) = sumL ls fun x => 1 * (g x * mark f r s x) + 2 * (g x * mark f r t x) := sumL_congr fun x _ => by
          show g x * thr f t (act f r (unit x)) s = _
          rw [thr_not e c]
          show g x * (mark f r s x + 2 * mark f r t x) = _
          rw [Int.mul_add, ← Int.mul_assoc, Int.mul_comm (g x) 2, Int.mul_assoc]
          omega
        rw [e2, this]
        omega
theorem mark_nn (ok : CrOk f) {w : List Nat} (hr : Red f w) (hw : ∀ y ∈ w, y ∈ ls) (hs : s ∈ ls) (hd : ¬ desc f s w) : Pos ls (mark f w s) := (mark_pos ok _ w rfl hr hw).1 s hs hd
theorem mark_np (ok : CrOk f) {w : List Nat} (hr : Red f w) (hw : ∀ y ∈ w, y ∈ ls) (hs : s ∈ ls) (hd : desc f s w) : ∀ x ∈ ls, mark f w s x ≤ 0 := by
  intro x hx
  obtain ⟨u, ru, du, lu, au, mu⟩ := Red_desc ok hr hd
  have := (mark_nn ok ru (fun y hy => hw y (mu y hy)) hs du).1 x hx
  show act f w (unit x) s ≤ 0
  rw [au, thr_self]
  have : 0 ≤ act f u (unit x) s := this
  omega
/-- a way that leaves the mark of a kind goes through kinds that cross it -/
theorem mark_fix (hn : ls.Nodup) (ok : CrOk f) (hs : s ∈ ls) : ∀ {w : List Nat}, Red f w → (∀ y ∈ w, y ∈ ls) → (∀ x ∈ ls, mark f w s x = unit x s) → ∀ y ∈ w, y ∈ f s
  | [], _, _, _, y, hy => nomatch hy
  | t :: r, hr, hw, he, y, hy => by
    have ht := hw t (List.mem_cons_self ..)
    have hr' : ∀ y ∈ r, y ∈ ls := fun y hy => hw y (List.mem_cons_of_mem _ hy)
    have S1 : sumL ls (mark f (t :: r) s) = 1 := by rw [sumL_congr he, sumL_one hn hs]
    have Pt := sumL_pos (mark_nn ok hr.2 hr' ht hr.1)
    by_cases e : s = t
    · subst e
      have e2 : sumL ls (mark f (s :: r) s) = sumL ls fun x => -1 * mark f r s x + 0 * mark f r s x := sumL_congr fun x _ => by
        show thr f s (act f r (unit x)) s = _
        rw [thr_self]
        show - mark f r s x = _
        omega
      rw [e2, sumL_comb] at S1
      omega
    · by_cases c : s ∈ f t
      · have ih := mark_fix hn ok hs hr.2 hr' fun x hx => by
          rw [← he x hx]
          show act f r (unit x) s = thr f t (act f r (unit x)) s
          rw [thr_cr ok c]
        rcases List.mem_cons.mp hy with rfl | hy
        · exact ok.sym _ _ c
        · exact ih y hy
      · have e2 : sumL ls (mark f (t :: r) s) = sumL ls fun x => 1 * mark f r s x + 2 * mark f r t x := sumL_congr fun x _ => by
          show thr f t (act f r (unit x)) s = _
          rw [thr_not e c]
          show mark f r s x + 2 * mark f r t x = _
          omega
        rw [e2, sumL_comb] at S1
        by_cases d : desc f s r
        · have := sumL_pos ((mark_pos ok _ r rfl hr.2 hr').2 s hs t ht e c d hr.1 1 1 (by decide) (by decide) (by decide))
          rw [sumL_comb] at this
          omega
        · have := sumL_pos (mark_nn ok hr.2 hr' hs d)
          omega
theorem mark_zero (ok : CrOk f) {x : Nat} : ∀ {w : List Nat} {s : Nat}, ¬ x ∈ w → x ≠ s → mark f w s x = 0
  | [], s, _, h => by
    show unit x s = 0
    unfold unit
    rw [if_neg fun z : s = x => h z.symm]
  | t :: r, s, hw, h => by
    have h1 : ¬ x ∈ r := fun z => hw (List.mem_cons_of_mem _ z)
    have h2 : x ≠ t := fun z => hw (z ▸ List.mem_cons_self ..)
    have e1 := mark_zero ok h1 h
    have e2 := mark_zero ok h1 h2
    show thr f t (act f r (unit x)) s = 0
    have e1 : act f r (unit x) s = 0 := e1
    have e2 : act f r (unit x) t = 0 := e2
    unfold thr
    split
    · omega
    · split <;> omega
theorem act_of_name (ok : CrOk f) (w : List Nat) (g : Nat → Int) : act f (nameOf f w).reverse g = act f w.reverse g := act_rev_eq ok (name_act ok w) g
/-- two rooms from which no door of a kind that crosses s leads back, with one mark of s, are one -/
theorem wall_uniq (hn : ls.Nodup) (ok : CrOk f) (hs : s ∈ ls) {m n : List Nat} (hm : NF f m) (hn' : NF f n) (im : ∀ y ∈ m, y ∈ ls) (in' : ∀ y ∈ n, y ∈ ls)
    (dm : ∀ t ∈ f s, ¬ desc f t m.reverse) (dn : ∀ t ∈ f s, ¬ desc f t n.reverse) (he : ∀ x ∈ ls, mark f m.reverse s x = mark f n.reverse s x) : m = n := by
  have imr : ∀ y ∈ m.reverse, y ∈ ls := fun y hy => im y (List.mem_reverse.mp hy)
  have inr' : ∀ y ∈ n.reverse, y ∈ ls := fun y hy => in' y (List.mem_reverse.mp hy)
  have au : ∀ g, act f (wayC f n m).reverse g = act f m.reverse (act f n g) := fun g => by
    unfold wayC
    rw [act_of_name ok, List.reverse_append, List.reverse_reverse, act_app]
  have iu : ∀ y ∈ (wayC f n m).reverse, y ∈ ls := fun y hy => by
    rcases List.mem_append.mp (name_mem (List.mem_reverse.mp hy)) with z | z
    · exact in' y (List.mem_reverse.mp z)
    · exact im y z
  have ru : Red f (wayC f n m).reverse := (name_NF ok _).red.rev
  have fx : ∀ x ∈ ls, mark f (wayC f n m).reverse s x = unit x s := by
    intro x hx
    show act f (wayC f n m).reverse (unit x) s = _
    rw [au, act_lin hn ok _ imr hs, sumL_congr (v := fun y => act f n (unit x) y * mark f n.reverse s y) fun y hy => by rw [he y hy], ← act_lin hn ok _ inr' hs, act_rev ok]
  have uin := mark_fix hn ok hs ru iu fx
  have hg := way_goes ok n m
  have am : ∀ g, act f m.reverse g = act f (wayC f n m).reverse (act f n.reverse g) := fun g => by
    rw [← act_app, ← List.reverse_append, ← act_of_name ok (n ++ wayC f n m), hg, act_of_name ok]
  cases hu : (wayC f n m).reverse with
  | nil =>
    have : wayC f n m = [] := by simpa using hu
    rw [this, List.append_nil] at hg
    have e1 : nameOf f n = n := (is_NF ok).mpr hn'
    have e2 : nameOf f m = m := (is_NF ok).mpr hm
    rw [e1, e2] at hg
    exact hg.symm
  | cons t r =>
    have tin : t ∈ f s := uin t (by rw [hu]; exact List.mem_cons_self ..)
    have tls : t ∈ ls := iu t (by rw [hu]; exact List.mem_cons_self ..)
    have hd : desc f t (wayC f n m).reverse := by rw [hu]; exact .inl rfl
    obtain ⟨x, hx, hp⟩ := (mark_nn ok hm.red.rev imr tls (dm t tin)).2
    have e1 : mark f m.reverse t x = sumL ls fun y => act f n.reverse (unit x) y * mark f (wayC f n m).reverse t y := by
      show act f m.reverse (unit x) t = _
      rw [am, act_lin hn ok _ iu tls]
    have e2 : (sumL ls fun y => act f n.reverse (unit x) y * mark f (wayC f n m).reverse t y) ≤ 0 := by
      refine sumL_nonpos fun y hy => ?_
      have np := mark_np ok ru iu tls hd y hy
      by_cases c : y ∈ f s
      · have := (mark_nn ok hn'.red.rev inr' hy (dn y c)).1 x hx
        have this : 0 ≤ act f n.reverse (unit x) y := this
        exact Int.mul_nonpos_of_nonneg_of_nonpos this np
      · have z := mark_zero ok (x := y) (w := (wayC f n m).reverse) (s := t) (fun z => c (uin y z)) (fun z => c (z ▸ tin))
        rw [z]
        omega
    omega
/-! ### the end of a way that may be left off -/
/-- letters out of free that may be brought ahead, and the rest -/
def splitA (f : Nat → List Nat) : List Nat → List Nat → List Nat × List Nat
  | _, [] => ([], [])
  | free, k :: r => if k ∈ free then (k :: (splitA f free r).1, (splitA f free r).2) else ((splitA f (free.filter fun o => decide (o ∈ f k)) r).1, k :: (splitA f (free.filter fun o => decide (o ∈ f k)) r).2)
theorem splitA_in (f : Nat → List Nat) : ∀ (w free : List Nat), ∀ y ∈ (splitA f free w).1, y ∈ free
  | [], _, y, hy => nomatch hy
  | k :: r, free, y, hy => by
    unfold splitA at hy
    by_cases c : k ∈ free
    · rw [if_pos c] at hy
      rcases List.mem_cons.mp hy with rfl | hy
      · exact c
      · exact splitA_in f r free y hy
    · rw [if_neg c] at hy
      exact (List.mem_filter.mp (splitA_in f r _ y hy)).1
theorem splitA_mem1 (f : Nat → List Nat) : ∀ (w free : List Nat), ∀ y ∈ (splitA f free w).1, y ∈ w
  | [], _, y, hy => nomatch hy
  | k :: r, free, y, hy => by
    unfold splitA at hy
    by_cases c : k ∈ free
    · rw [if_pos c] at hy
      rcases List.mem_cons.mp hy with rfl | hy
      · exact List.mem_cons_self ..
      · exact List.mem_cons_of_mem _ (splitA_mem1 f r free y hy)
    · rw [if_neg c] at hy
      exact List.mem_cons_of_mem _ (splitA_mem1 f r _ y hy)
theorem splitA_mem2 (f : Nat → List Nat) : ∀ (w free : List Nat), ∀ y ∈ (splitA f free w).2, y ∈ w
  | [], _, y, hy => nomatch hy
  | k :: r, free, y, hy => by
    unfold splitA at hy
    by_cases c : k ∈ free
    · rw [if_pos c] at hy
      exact List.mem_cons_of_mem _ (splitA_mem2 f r free y hy)
    · rw [if_neg c] at hy
      rcases List.mem_cons.mp hy with rfl | hy
      · exact List.mem_cons_self ..
      · exact List.mem_cons_of_mem _ (splitA_mem2 f r _ y hy)
theorem splitA_len (f : Nat → List Nat) : ∀ (w free : List Nat), (splitA f free w).1.length + (splitA f free w).2.length = w.length
  | [], _ => rfl
  | k :: r, free => by
    unfold splitA
    by_cases c : k ∈ free
    · rw [if_pos c]
      have := splitA_len f r free
      simp only [List.length_cons]
      omega
    · rw [if_neg c]
      have := splitA_len f r (free.filter fun o => decide (o ∈ f k))
      simp only [List.length_cons]
      omega
theorem splitA_nil (f : Nat → List Nat) : ∀ w : List Nat, splitA f [] w = ([], w)
  | [] => rfl
  | k :: r => by
    unfold splitA
    rw [if_neg (fun z => nomatch z)]
    show ((splitA f [] r).1, k :: (splitA f [] r).2) = _
    rw [splitA_nil f r]
theorem splitA_act (ok : CrOk f) (g : Nat → Int) : ∀ (w free : List Nat), act f ((splitA f free w).1 ++ (splitA f free w).2) g = act f w g
  | [], _ => rfl
  | k :: r, free => by
    unfold splitA
    by_cases c : k ∈ free
    · rw [if_pos c]
      show thr f k (act f ((splitA f free r).1 ++ (splitA f free r).2) g) = thr f k (act f r g)
      rw [splitA_act ok g r free]
    · rw [if_neg c]
      show act f ((splitA f _ r).1 ++ k :: (splitA f _ r).2) g = thr f k (act f r g)
      rw [← splitA_act ok g r (free.filter fun o => decide (o ∈ f k)), act_app, act_app]
      show act f (splitA f _ r).1 (thr f k (act f (splitA f _ r).2 g)) = _
      rw [act_comm ok fun y hy => of_decide_eq_true (List.mem_filter.mp (splitA_in f r _ y hy)).2]
theorem splitA_desc (ok : CrOk f) : ∀ (w free : List Nat), ∀ t ∈ free, ¬ desc f t (splitA f free w).2
  | [], _, t, _ => id
  | k :: r, free, t, ht => by
    unfold splitA
    by_cases c : k ∈ free
    · rw [if_pos c]
      exact splitA_desc ok r free t ht
    · rw [if_neg c]
      rintro (z | ⟨z1, z2⟩)
      · exact c (z ▸ ht)
      · exact splitA_desc ok r _ t (List.mem_filter.mpr ⟨ht, decide_eq_true (ok.sym _ _ z1)⟩) z2
theorem splitA_back {k : Nat} : ∀ {w free : List Nat}, (∀ y ∈ free, y ∈ f k) → desc f k (splitA f free w).2 → desc f k w
  | [], _, _, h => h
  | c :: r, free, hf, h => by
    unfold splitA at h
    by_cases e : c ∈ free
    · rw [if_pos e] at h
      exact .inr ⟨hf c e, splitA_back hf h⟩
    · rw [if_neg e] at h
      rcases h with h | ⟨h1, h2⟩
      · exact .inl h
      · exact .inr ⟨h1, splitA_back (fun y hy => hf y (List.mem_filter.mp hy).1) h2⟩
theorem okAt_rest {k : Nat} : ∀ {w free : List Nat}, (∀ y ∈ free, y ∈ f k) → okAt f k w → okAt f k (splitA f free w).2
  | [], _, _, h => h
  | c :: r, free, hf, h => by
    unfold splitA
    by_cases e : c ∈ free
    · rw [if_pos e]
      exact okAt_rest hf (h.2 (hf c e)).2
    · rw [if_neg e]
      exact ⟨h.1, fun z => ⟨(h.2 z).1, okAt_rest (fun y hy => hf y (List.mem_filter.mp hy).1) (h.2 z).2⟩⟩
theorem NFr_rest : ∀ {w free : List Nat}, NFr f w → NFr f (splitA f free w).2
  | [], _, h => h
  | c :: r, free, h => by
    unfold splitA
    by_cases e : c ∈ free
    · rw [if_pos e]
      exact NFr_rest h.2
    · rw [if_neg e]
      exact ⟨okAt_rest (fun y hy => of_decide_eq_true (List.mem_filter.mp hy).2) h.1, NFr_rest h.2⟩
theorem splitA_congr {g : Nat → List Nat} : ∀ {w free free' : List Nat}, (∀ c ∈ w, c ∈ free ↔ c ∈ free') → (∀ k ∈ w, ∀ c ∈ w, c ∈ f k ↔ c ∈ g k) → splitA f free w = splitA g free' w
  | [], _, _, _, _ => rfl
  | k :: r, free, free', h1, h2 => by
    have hk := h1 k (List.mem_cons_self ..)
    have h2' : ∀ k ∈ r, ∀ c ∈ r, c ∈ f k ↔ c ∈ g k := fun y hy c hc => h2 y (List.mem_cons_of_mem _ hy) c (List.mem_cons_of_mem _ hc)
    unfold splitA
    by_cases c : k ∈ free
    · rw [if_pos c, if_pos (hk.mp c), splitA_congr (fun y hy => h1 y (List.mem_cons_of_mem _ hy)) h2']
    · rw [if_neg c, if_neg fun z => c (hk.mpr z), splitA_congr (free' := free'.filter fun o => decide (o ∈ g k)) (fun y hy => ?_) h2']
      rw [List.mem_filter, List.mem_filter, decide_eq_true_iff, decide_eq_true_iff, h1 y (List.mem_cons_of_mem _ hy), h2 k (List.mem_cons_self ..) y (List.mem_cons_of_mem _ hy)]
/-! ### where a wall begins -/
def nearC (f : Nat → List Nat) (name : List Nat) (s : Nat) : List Nat := if desc f s name.reverse then stepOf (f s) name s else name
def startC (f : Nat → List Nat) (name : List Nat) (s : Nat) : List Nat := (splitA f (f s) (nearC f name s).reverse).2.reverse
theorem near_not (ok : CrOk f) {name : List Nat} (h : NF f name) (s : Nat) : ¬ desc f s (nearC f name s).reverse := by
  unfold nearC
  by_cases c : desc f s name.reverse
  · rw [if_pos c]
    intro z
    have l1 := (step_len_desc ok name s).1 c
    have l2 := (step_len_desc ok (stepOf (f s) name s) s).1 z
    have e : stepOf (f s) (stepOf (f s) name s) s = name := by
      have e1 : nameOf f name = name := (is_NF ok).mpr h
      have e2 := name_twice ok name s
      rw [e1] at e2
      have e3 : nameOf f (name ++ [s] ++ [s]) = stepOf (f s) (stepOf (f s) (nameOf f name) s) s := by
        show joinC f [] (name ++ [s] ++ [s]) = _
        rw [joinC_app, joinC_app]
        rfl
      rw [e3, e1] at e2
      exact e2
    rw [e] at l2
    omega
  · rw [if_neg c]
    exact c
theorem near_NF (ok : CrOk f) {name : List Nat} (h : NF f name) (s : Nat) : NF f (nearC f name s) := by
  unfold nearC
  split
  · exact NF_step ok h
  · exact h
theorem near_mem {name : List Nat} {s c : Nat} (h : c ∈ nearC f name s) : c = s ∨ c ∈ name := by
  unfold nearC at h
  split at h
  · exact stepOf_mem h
  · exact .inr h
theorem near_len (ok : CrOk f) (name : List Nat) (s : Nat) : (nearC f name s).length ≤ name.length := by
  unfold nearC
  split
  · have := (step_len_desc ok name s).1 (by assumption)
    omega
  · omega
theorem start_NF (ok : CrOk f) {name : List Nat} (h : NF f name) (s : Nat) : NF f (startC f name s) := by
  unfold startC NF
  rw [List.reverse_reverse]
  exact NFr_rest (near_NF ok h s)
theorem start_not (ok : CrOk f) {name : List Nat} (h : NF f name) (s : Nat) : ¬ desc f s (startC f name s).reverse := by
  unfold startC
  rw [List.reverse_reverse]
  exact fun z => near_not ok h s (splitA_back (fun y hy => hy) z)
theorem start_free (ok : CrOk f) (name : List Nat) (s : Nat) : ∀ t ∈ f s, ¬ desc f t (startC f name s).reverse := by
  unfold startC
  rw [List.reverse_reverse]
  exact splitA_desc ok _ _
theorem start_mem {name : List Nat} {s c : Nat} (h : c ∈ startC f name s) : c = s ∨ c ∈ name := near_mem (List.mem_reverse.mp (splitA_mem2 f _ _ c (List.mem_reverse.mp h)))
theorem start_len (ok : CrOk f) (name : List Nat) (s : Nat) : (startC f name s).length ≤ name.length := by
  unfold startC
  have := splitA_len f (nearC f name s).reverse (f s)
  have := near_len ok name s
  rw [List.length_reverse] at *
  omega
theorem mark_along (ok : CrOk f) {g : Nat → Int} {v : List Nat} : ∀ {u : List Nat}, (∀ y ∈ u, y ∈ f s) → act f (u ++ v) g s = act f v g s
  | [], _ => rfl
  | y :: u, h => by
    show thr f y (act f (u ++ v) g) s = _
    rw [thr_cr ok (ok.sym _ _ (h y (List.mem_cons_self ..))), mark_along ok fun z hz => h z (List.mem_cons_of_mem _ hz)]
theorem start_mark (ok : CrOk f) (name : List Nat) (s : Nat) (g : Nat → Int) : act f (startC f name s).reverse g s = act f (nearC f name s).reverse g s := by
  unfold startC
  rw [List.reverse_reverse, ← splitA_act ok g (nearC f name s).reverse (f s)]
  exact (mark_along ok (splitA_in f _ _)).symm
theorem near_mark (ok : CrOk f) (name : List Nat) (s : Nat) (g : Nat → Int) : act f (nearC f name s).reverse g s = if desc f s name.reverse then - act f name.reverse g s else act f name.reverse g s := by
  unfold nearC
  by_cases c : desc f s name.reverse
  · rw [if_pos c, if_pos c, act_rev_eq ok (fun g => act_step ok name s g), List.reverse_append]
    show thr f s (act f name.reverse g) s = _
    rw [thr_self]
  · rw [if_neg c, if_neg c]
/-- the mark or its opposite, whichever is not below nought -/
def posM (f : Nat → List Nat) (ls : List Nat) (w : List Nat) (s : Nat) : Nat → Int := if ∃ x ∈ ls, act f w.reverse (unit x) s < 0 then fun x => - act f w.reverse (unit x) s else fun x => act f w.reverse (unit x) s
theorem pos_start (ok : CrOk f) {w : List Nat} (hw : ∀ y ∈ w, y ∈ ls) (hs : s ∈ ls) (x : Nat) : posM f ls w s x = mark f (startC f (nameOf f w) s).reverse s x := by
  have hr := (name_NF ok w).red.rev
  have h1 := mark_neg (ls := ls) ok hr (fun y hy => hw y (name_mem (List.mem_reverse.mp hy))) hs
  show _ = act f (startC f (nameOf f w) s).reverse (unit x) s
  rw [start_mark ok, near_mark ok]
  unfold posM
  have e : (∃ x ∈ ls, act f w.reverse (unit x) s < 0) ↔ desc f s (nameOf f w).reverse := by
    rw [← h1]
    unfold mark
    simp only [act_of_name ok]
  by_cases c : desc f s (nameOf f w).reverse
  · rw [if_pos c, if_pos (e.mpr c), act_of_name ok]
  · rw [if_neg c, if_neg fun z => c (e.mp z), act_of_name ok]
end
end Cw
set_option Elab.async false
set_option linter.all false
set_option maxRecDepth 100000
set_option maxHeartbeats 4000000
/-! more of walls in plain words -/
namespace Cw
section
variable {f : Nat → List Nat} {ls : List Nat} {s t : Nat}
end
end Cw
set_option Elab.async false
set_option linter.all false
set_option maxRecDepth 100000
set_option maxHeartbeats 4000000
/-! rooms beyond a wall, by the marks of the doors of a shortest way -/
namespace Cw
section
variable {f : Nat → List Nat} {ls : List Nat} {s c : Nat}
theorem int_one {k t : Int} (h : k * t = 1) (hk : 0 < k) : k = 1 := by
  have ht : 0 < t := by
    rcases Int.lt_or_le 0 t with z | z
    · exact z
    · have := Int.mul_nonpos_of_nonneg_of_nonpos (Int.le_of_lt hk) z
      omega
  have h1 : k * 1 ≤ k * t := Int.mul_le_mul_of_nonneg_left (by omega) (by omega)
  omega
theorem unit_thr {x e : Nat} (hx : x ≠ c) : thr f c (unit x) e = unit x e := by
  have h0 : unit x c = 0 := by
    unfold unit
    rw [if_neg hx.symm]
  unfold thr
  by_cases h : e = c
  · rw [if_pos h, h, h0]
    rfl
  · rw [if_neg h]
    split
    · rfl
    · rw [h0]
      omega
/-- what stands on one side of all, in a word -/
theorem sign_def (ok : CrOk f) {w : List Nat} (hw : ∀ y ∈ w, y ∈ ls) (hs : s ∈ ls) : Pos ls (mark f w s) ∨ ((∀ x ∈ ls, mark f w s x ≤ 0) ∧ ∃ x ∈ ls, mark f w s x < 0) := by
  have hm : ∀ y ∈ nameOf f w, y ∈ ls := fun y hy => hw y (name_mem hy)
  have hr := (name_NF ok w).red
  have e : ∀ x, mark f (nameOf f w) s x = mark f w s x := fun x => by
    unfold mark
    rw [name_act ok]
  by_cases d : desc f s (nameOf f w)
  · right
    have h1 := mark_np ok hr hm hs d
    have h2 := (mark_neg (ls := ls) ok hr hm hs).mpr d
    simp only [e] at h1 h2
    exact ⟨h1, h2⟩
  · left
    exact (mark_nn ok hr hm hs d).congr fun x _ => (e x).symm
end
end Cw
set_option Elab.async false
set_option linter.all false
set_option maxRecDepth 100000
set_option maxHeartbeats 4000000
/-! the middle of three rooms, in plain words -/
namespace Cw
section
variable {f : Nat → List Nat} {ls : List Nat} {s t c : Nat}
/-- the mark has a coordinate below nought -/
def Ng (f : Nat → List Nat) (ls : List Nat) (w : List Nat) (s : Nat) : Prop := ∃ x ∈ ls, mark f w s x < 0
theorem ng_desc (ok : CrOk f) {w : List Nat} (hr : Red f w) (hw : ∀ y ∈ w, y ∈ ls) (hs : s ∈ ls) : Ng f ls w s ↔ desc f s w := mark_neg ok hr hw hs
theorem ng_name (ok : CrOk f) (w : List Nat) (s : Nat) : Ng f ls (nameOf f w) s ↔ Ng f ls w s := by
  unfold Ng mark
  simp only [name_act ok]
theorem ng_act {v w : List Nat} (h : ∀ g, act f v g = act f w g) (s : Nat) : Ng f ls v s ↔ Ng f ls w s := by
  unfold Ng mark
  simp only [h]
theorem not_ng (ok : CrOk f) {w : List Nat} (hw : ∀ y ∈ w, y ∈ ls) (hs : s ∈ ls) : ¬ Ng f ls w s ↔ Pos ls (mark f w s) := by
  constructor
  · intro h
    exact (sign_def ok hw hs).resolve_right fun z => h z.2
  · rintro ⟨h1, _⟩ ⟨x, hx, z⟩
    have := h1 x hx
    omega
theorem ng_np (ok : CrOk f) {w : List Nat} (hw : ∀ y ∈ w, y ∈ ls) (hs : s ∈ ls) (h : Ng f ls w s) : ∀ x ∈ ls, mark f w s x ≤ 0 := by
  rcases sign_def ok hw hs with z | z
  · exact absurd h ((not_ng ok hw hs).mpr z)
  · exact z.1
theorem desc_left {s : Nat} {b : List Nat} : ∀ {a : List Nat}, desc f s a → desc f s (a ++ b)
  | [], h => h.elim
  | y :: a, h => by
    rcases h with h | ⟨h1, h2⟩
    · exact .inl h
    · exact .inr ⟨h1, desc_left h2⟩
/-- where the sign turns along a way, one door of the way lies in the wall -/
theorem turn_door (hn : ls.Nodup) (ok : CrOk f) {z : List Nat} (hz : ∀ y ∈ z, y ∈ ls) (hs : s ∈ ls) : ∀ (u : List Nat), (∀ y ∈ u, y ∈ ls) → ¬ (Ng f ls z s ↔ Ng f ls (z ++ u) s) → ∃ p c q, u = p ++ c :: q ∧ ((∀ g, act f (z ++ p) g s = g c) ∨ (∀ g, act f (z ++ p) g s = - g c)) := by
  intro u hu h
  -- the first place where the sign turns
  have key : ∀ (p q : List Nat), u = p ++ q → ¬ (Ng f ls (z ++ p) s ↔ Ng f ls (z ++ u) s) → ∃ p c q, u = p ++ c :: q ∧ ¬ (Ng f ls (z ++ p) s ↔ Ng f ls (z ++ (p ++ [c])) s) := by
    intro p q
    induction q generalizing p with
    | nil =>
      intro e h
      rw [List.append_nil] at e
      rw [e] at h
      exact absurd Iff.rfl h
    | cons c q ih =>
      intro e h
      by_cases d : Ng f ls (z ++ p) s ↔ Ng f ls (z ++ (p ++ [c])) s
      · refine ih (p ++ [c]) (by rw [e, List.append_assoc]; rfl) fun w => h (d.trans w)
      · exact ⟨p, c, q, e, d⟩
  obtain ⟨p, c, q, e, d⟩ := key [] u rfl (by rw [List.append_nil]; exact h)
  refine ⟨p, c, q, e, ?_⟩
  subst e
  have hc : c ∈ ls := hu c (List.mem_append_right _ (List.mem_cons_self ..))
  have hzp : ∀ y ∈ z ++ p, y ∈ ls := fun y hy => (List.mem_append.mp hy).elim (hz y) fun w => hu y (List.mem_append_left _ w)
  have hzc : ∀ y ∈ z ++ (p ++ [c]), y ∈ ls := fun y hy => by
    rw [← List.append_assoc] at hy
    rcases List.mem_append.mp hy with w | w
    · exact hzp y w
    · rw [List.mem_singleton.mp w]
      exact hc
  have same : ∀ x, x ≠ c → mark f (z ++ (p ++ [c])) s x = mark f (z ++ p) s x := fun x hx => by
    unfold mark
    rw [← List.append_assoc, act_app]
    show act f (z ++ p) (thr f c (unit x)) s = _
    rw [show thr f c (unit x) = unit x from funext fun e => unit_thr hx]
  have eq0 : ∀ x ∈ ls, x ≠ c → mark f (z ++ p) s x = 0 := by
    intro x hx hxc
    have e := same x hxc
    by_cases n : Ng f ls (z ++ p) s
    · have n2 : ¬ Ng f ls (z ++ (p ++ [c])) s := fun w => d ⟨fun _ => w, fun _ => n⟩
      have a1 := ng_np ok hzp hs n x hx
      have a2 := ((not_ng ok hzc hs).mp n2).1 x hx
      omega
    · have n2 : Ng f ls (z ++ (p ++ [c])) s := Classical.byContradiction fun w => d ⟨fun a => absurd a n, fun a => absurd a w⟩
      have a1 := ((not_ng ok hzp hs).mp n).1 x hx
      have a2 := ng_np ok hzc hs n2 x hx
      omega
  have lin : ∀ g, act f (z ++ p) g s = mark f (z ++ p) s c * g c := by
    intro g
    rw [act_lin hn ok g hzp hs]
    have e2 : sumL ls (fun x => g x * mark f (z ++ p) s x) = sumL ls fun x => (mark f (z ++ p) s c * g x) * unit x c := sumL_congr fun x hx => by
      unfold unit
      by_cases e : c = x
      · rw [if_pos e, ← e, Int.mul_one, Int.mul_comm]
      · rw [if_neg e, eq0 x hx fun w => e w.symm]
        omega
    rw [e2]
    exact sumL_unit (g := fun x => mark f (z ++ p) s c * g x) hn hc
  have h1 := lin (act f (z ++ p).reverse (unit s))
  rw [act_rev' ok] at h1
  have hu1 : unit s s = 1 := if_pos rfl
  rw [hu1] at h1
  rcases Int.lt_or_le 0 (mark f (z ++ p) s c) with k0 | k0
  · have one := int_one h1.symm k0
    exact .inl fun g => by rw [lin, one, Int.one_mul]
  · have hk : mark f (z ++ p) s c ≠ 0 := fun w => by rw [w] at h1; omega
    have one : - mark f (z ++ p) s c = 1 := int_one (t := - act f (z ++ p).reverse (unit s) c) (by rw [Int.neg_mul_neg]; exact h1.symm) (by omega)
    exact .inr fun g => by
      rw [lin]
      have : mark f (z ++ p) s c = -1 := by omega
      rw [this]
      omega
end
end Cw
set_option Elab.async false
set_option linter.all false
set_option maxRecDepth 100000
set_option maxHeartbeats 4000000
/-! the room between each two of three -/
namespace Cw
section
variable {f : Nat → List Nat} {ls : List Nat} {s t k : Nat}
theorem red_of_len (ok : CrOk f) {w : List Nat} (h : (nameOf f w).length = w.length) : Red f w := by
  rw [Red_iff]
  intro p t q r e hq
  have e2 : nameOf f w = nameOf f (p ++ (q ++ r)) := name_eq ok fun g => by
    rw [e]
    simp only [act_app]
    show act f p (thr f t (act f (q ++ t :: r) g)) = _
    rw [act_app]
    show act f p (thr f t (act f q (thr f t (act f r g)))) = _
    rw [act_comm ok hq, thr_thr ok]
  have l1 := name_len f (p ++ (q ++ r))
  rw [← e2, h, e] at l1
  simp only [List.length_append, List.length_cons] at l1
  omega
/-- one letter less -/
theorem erase_desc (ok : CrOk f) {w : List Nat} (h : desc f k w) : ∃ p q, w = p ++ k :: q ∧ (∀ y ∈ p, y ∈ f k) ∧ w.erase k = p ++ q := by
  obtain ⟨p, q, rfl, hp⟩ := desc_split h
  refine ⟨p, q, rfl, hp, ?_⟩
  rw [List.erase_append_right _ fun z => ok.irr k (hp k z), List.erase_cons_head]
theorem erase_red (ok : CrOk f) {w : List Nat} (h : desc f k w) (hr : Red f w) : Red f (w.erase k) := by
  obtain ⟨p, q, rfl, hp, e⟩ := erase_desc ok h
  rw [e]
  exact Red_out ok hp hr
theorem erase_act (ok : CrOk f) {w : List Nat} (h : desc f k w) (g : Nat → Int) : act f (k :: w.erase k) g = act f w g := by
  obtain ⟨p, q, rfl, hp, e⟩ := erase_desc ok h
  rw [e]
  show thr f k (act f (p ++ q) g) = _
  rw [act_app, act_app]
  show _ = act f p (thr f k (act f q g))
  rw [act_comm ok hp]
theorem erase_len {w : List Nat} (h : desc f k w) : (w.erase k).length + 1 = w.length := by
  obtain ⟨p, q, rfl, hp⟩ := desc_split h
  have : k ∈ p ++ k :: q := List.mem_append_right _ (List.mem_cons_self ..)
  rw [List.length_erase_of_mem this]
  have : 0 < (p ++ k :: q).length := by rw [List.length_append, List.length_cons]; omega
  omega
/-- what is in common at the beginning of two ways, and the rests -/
structure Share (f : Nat → List Nat) (ls u v fd u' v' : List Nat) : Prop where
  au : ∀ g, act f u g = act f (fd ++ u') g
  av : ∀ g, act f v g = act f (fd ++ v') g
  ru : Red f u'
  rv : Red f v'
  mu : ∀ y ∈ u', y ∈ ls
  mv : ∀ y ∈ v', y ∈ ls
  mf : ∀ y ∈ fd, y ∈ ls
  lu : fd.length + u'.length = u.length
  lv : fd.length + v'.length = v.length
theorem Share.start {u v : List Nat} (ru : Red f u) (rv : Red f v) (mu : ∀ y ∈ u, y ∈ ls) (mv : ∀ y ∈ v, y ∈ ls) : Share f ls u v [] u v := ⟨fun _ => rfl, fun _ => rfl, ru, rv, mu, mv, fun _ z => (nomatch z), by simp, by simp⟩
theorem Share.step (ok : CrOk f) {u v fd u' v' : List Nat} (h : Share f ls u v fd u' v') (hk : k ∈ ls) (hu : desc f k u') (hv : desc f k v') : Share f ls u v (fd ++ [k]) (u'.erase k) (v'.erase k) where
  au := fun g => by rw [h.au, List.append_assoc, act_app, act_app]; show _ = act f fd (act f (k :: u'.erase k) g); rw [erase_act ok hu]
  av := fun g => by rw [h.av, List.append_assoc, act_app, act_app]; show _ = act f fd (act f (k :: v'.erase k) g); rw [erase_act ok hv]
  ru := erase_red ok hu h.ru
  rv := erase_red ok hv h.rv
  mu := fun y hy => h.mu y (List.mem_of_mem_erase hy)
  mv := fun y hy => h.mv y (List.mem_of_mem_erase hy)
  mf := fun y hy => (List.mem_append.mp hy).elim (h.mf y) fun z => by rw [List.mem_singleton.mp z]; exact hk
  lu := by
    have := erase_len hu
    have := h.lu
    rw [List.length_append, List.length_singleton]
    omega
  lv := by
    have := erase_len hv
    have := h.lv
    rw [List.length_append, List.length_singleton]
    omega
/-- the middle of three rooms, by all walls -/
structure Mid (f : Nat → List Nat) (ls a b c M : List Nat) : Prop where
  nf : NF f M
  mem : ∀ y ∈ M, y ∈ ls
  by' : ∀ z : List Nat, (∀ y ∈ z, y ∈ ls) → ∀ s ∈ ls, (Ng f ls (z ++ M) s ↔ (Ng f ls (z ++ a) s ∧ Ng f ls (z ++ b) s) ∨ (Ng f ls (z ++ a) s ∧ Ng f ls (z ++ c) s) ∨ (Ng f ls (z ++ b) s ∧ Ng f ls (z ++ c) s))
theorem ng_nil {s : Nat} : ¬ Ng f ls [] s := by
  rintro ⟨x, _, h⟩
  have h : unit x s < 0 := h
  unfold unit at h
  split at h <;> omega
theorem ng_back (ok : CrOk f) (m : List Nat) (s : Nat) : ¬ Ng f ls (m.reverse ++ m) s := fun z => ng_nil (f := f) (ls := ls) (s := s) ((ng_act (w := []) (fun g => by rw [act_app, act_rev ok]; rfl) s).mp z)
/-- rooms that no wall parts are one -/
theorem room_uniq (ok : CrOk f) {M N : List Nat} (hM : NF f M) (hN : NF f N) (mM : ∀ y ∈ M, y ∈ ls) (mN : ∀ y ∈ N, y ∈ ls) (h : ∀ s ∈ ls, ¬ Ng f ls (M.reverse ++ N) s) : M = N := by
  have hw : ∀ y ∈ wayC f M N, y ∈ ls := fun y hy => by
    rcases List.mem_append.mp (name_mem hy) with z | z
    · exact mM y (List.mem_reverse.mp z)
    · exact mN y z
  have e : wayC f M N = [] := by
    cases hc : wayC f M N with
    | nil => rfl
    | cons t r =>
      exfalso
      have ht : t ∈ ls := hw t (by rw [hc]; exact List.mem_cons_self ..)
      refine h t ht ((ng_name ok _ t).mp ((ng_desc ok (name_NF ok _).red hw ht).mpr ?_))
      show desc f t (wayC f M N)
      rw [hc]
      exact .inl rfl
  have := way_goes ok M N
  rw [e, List.append_nil] at this
  have e1 : nameOf f M = M := (is_NF ok).mpr hM
  have e2 : nameOf f N = N := (is_NF ok).mpr hN
  rw [e1, e2] at this
  exact this
theorem Mid.uniq (ok : CrOk f) {a b c a' b' c' M N : List Nat} (h : Mid f ls a b c M) (h' : Mid f ls a' b' c' N)
    (hp : ∀ z : List Nat, (∀ y ∈ z, y ∈ ls) → ∀ s ∈ ls, (((Ng f ls (z ++ a) s ∧ Ng f ls (z ++ b) s) ∨ (Ng f ls (z ++ a) s ∧ Ng f ls (z ++ c) s) ∨ (Ng f ls (z ++ b) s ∧ Ng f ls (z ++ c) s)) ↔ ((Ng f ls (z ++ a') s ∧ Ng f ls (z ++ b') s) ∨ (Ng f ls (z ++ a') s ∧ Ng f ls (z ++ c') s) ∨ (Ng f ls (z ++ b') s ∧ Ng f ls (z ++ c') s)))) : M = N := by
  refine room_uniq (ls := ls) ok h.nf h'.nf h.mem h'.mem fun s hs z => ng_back (ls := ls) ok M s ?_
  have mz : ∀ y ∈ M.reverse, y ∈ ls := fun y hy => h.mem y (List.mem_reverse.mp hy)
  exact (h.by' _ mz s hs).mpr ((hp _ mz s hs).mpr ((h'.by' _ mz s hs).mp z))
end
end Cw
set_option Elab.async false
set_option linter.all false
set_option maxRecDepth 100000
set_option maxHeartbeats 4000000
/-! text.replace(letter, "", 1): the first such letter is left out -/
namespace Cw
open PySem PySem.Spec L2 PyProof.Rows Builtin Builtin.Str
theorem occ_one {p q : List Nat} {c : Nat} (hp : ¬ c ∈ p) : occurrences (tx (p ++ c :: q)) (tx [c]) 0 (tx (p ++ c :: q)).length 1 = [p.length] := by
  have hat : ∀ i, StrLaws.At (tx (p ++ c :: q)) (tx [c]) (tx (p ++ c :: q)).length i ↔ (p ++ c :: q)[i]? = some c := fun i => StrLaws.subAt_one (tx (p ++ c :: q)) c i
  have h0 : (p ++ c :: q)[p.length]? = some c := by rw [List.getElem?_append_right (Nat.le_refl _), Nat.sub_self]; rfl
  have hl := StrLaws.occ_length_le (tx (p ++ c :: q)) (tx [c]) 0 (tx (p ++ c :: q)).length 1
  rcases StrLaws.occ_head (tx (p ++ c :: q)) (tx [c]) 1 (Nat.le_refl _) with ⟨_, h⟩ | ⟨i, r, e, h1, h2⟩
  · exact absurd ((hat _).mpr h0) (h _)
  · rw [e] at hl ⊢
    have hr : r = [] := by
      cases r with
      | nil => rfl
      | cons a r => simp at hl
    have hi := (hat i).mp h1
    have e1 : ¬ i < p.length := by
      intro z
      rw [List.getElem?_append_left z] at hi
      exact hp (List.mem_of_getElem? hi)
    have e2 : ¬ p.length < i := fun z => h2 _ z ((hat _).mpr h0)
    rw [hr, show i = p.length by omega]
theorem cut_one {p q : List Nat} {c : Nat} (hp : ¬ c ∈ p) : glued (tx []) (partsBetween (tx (p ++ c :: q)) [p.length] 1) = tx (p ++ q) := by
  apply Str.ext'
  apply Array.toList_inj.mp
  rw [StrLaws.partsBetween_eq]
  show (([strSub (tx (p ++ c :: q)) (p.length + 1) (tx (p ++ c :: q)).length].foldl (fun acc z => acc ++ (tx []).cps ++ z.cps) (strSub (tx (p ++ c :: q)) 0 p.length).cps)).toList = p ++ q
  rw [List.foldl_cons, List.foldl_nil, Array.toList_append, Array.toList_append, StrLaws.strSub_toList, StrLaws.strSub_toList]
  show ((p ++ c :: q).drop 0).take (p.length - 0) ++ [] ++ ((p ++ c :: q).drop (p.length + 1)).take _ = _
  rw [List.drop_zero, Nat.sub_zero, List.take_left, List.append_nil]
  congr 1
  have e : (p ++ c :: q).drop (p.length + 1) = q := by
    rw [← List.drop_drop, List.drop_left]
    rfl
  rw [e]
  apply List.take_of_length_le
  show q.length ≤ (p ++ c :: q).toArray.size - _
  simp
  omega
theorem gives_cut (x y z : Str) (t u v k : Tok) (hu : (u == 0 || v == 0) = false) (huv : (u == v) = false) (hyz : (y == z) = false)
    (hl : tooLong (x.length + (occurrences x y 0 x.length 1).length * z.length) = false) (hc : ((occurrences x y 0 x.length 1).isEmpty || (y.length == 0 && z.length == 0)) = false) :
    Gives («str.replace» ⟨[.str x t, .str y u, .str z v, .int 1 k], []⟩) (.str (glued z (partsBetween x (occurrences x y 0 x.length 1) y.length))) := by
  show Gives (if ((occurrences x y 0 x.length 1).isEmpty || (y.length == 0 && z.length == 0)) = true then (do rule "str.replace.nothing"; ret (.str x t)) else (do
    let same ← isSame (.str y u) (.str z v); if same = true then (do rule "str.replace.old-is-new"; ret (.str x t)) else if tooLong (x.length + (occurrences x y 0 x.length 1).length * z.length) = true then unsupported "str.replace:memory" else
      retStr (glued z (partsBetween x (occurrences x y 0 x.length 1) y.length)))) _
  rw [hc, isSame_str_other y z u v hu huv hyz, hl]
  exact .of_eq rfl
theorem call_cut {prog : Program} {w : World} {A : Around} {E : Value → Shared → Prop} {s : Shared} {Q : Value → Shared → Prop} {p q : List Nat} {c : Nat} {t u v k : Tok} (hp : ¬ c ∈ p) (hl : (p ++ c :: q).length ≤ 1000000) (hu : u ≠ 0) (hv : v ≠ 0) (huv : u ≠ v)
    (hq : ∀ t' k, Q (.str (tx (p ++ q)) t') { s with toks := k }) : wpAny (model prog w) A (call (.builtin "str.replace") [.str (tx (p ++ c :: q)) t, .str (tx [c]) u, .str (tx []) v, .int 1 k]) Q E s := by
  have ho := occ_one (q := q) hp
  have hg := cut_one (q := q) hp
  have g := gives_cut (tx (p ++ c :: q)) (tx [c]) (tx []) t u v k (by simp [hu, hv]) (by simp [huv]) (by
    apply beq_eq_false_iff_ne.mpr
    intro z
    have := tx_inj.mp z
    cases this) (by
    rw [ho]
    unfold tooLong sizeLine
    refine decide_eq_false ?_
    show ¬ (p ++ c :: q).toArray.size + [p.length].length * 0 > 2 ^ 24
    rw [List.size_toArray]
    omega) (by rw [ho]; rfl)
  rw [ho, show (tx [c]).length = 1 from rfl, hg] at g
  refine call_gives F.slot_str_replace (typeIs_str _ _ _) F.entry_str_replace (F.args_str_replace_4 _ _ _ _) g ?_
  refine ⟨?_, hq _ _⟩
  show (p ++ q).toArray.size ≤ sizeLine
  rw [List.size_toArray]
  simp only [List.length_append, List.length_cons] at hl ⊢
  have : (1000000 : Nat) ≤ sizeLine := by decide
  omega
theorem meth3 {prog : Program} {w : World} {A : Around} {E : Value → Shared → Prop} {s : Shared} {env : Env} {Q : Value → Shared → Prop} {o a b c : Expr} {name : Str} {apos pos : PySem.Pos} (hbase : attributeBase o name env (eval o env) = eval o env)
    (hs : starEach [a, b, c] env = [(false, eval a env), (false, eval b env), (false, eval c env)]) (hline : (apos.endLine == pos.line) = true) (h : wpAny (model prog w) A (eval o env) (fun ov s1 => MethodOnS prog w A E name ov pos [(false, eval a env), (false, eval b env), (false, eval c env)] Q s1) E s) :
    wpAny (model prog w) A (eval (.Call (.Attribute o name apos) [a, b, c] [] pos) env) Q E s := by
  refine wpAny_Call_method_lateS hbase (by rw [hs]; rfl) hline ?_
  rw [hs]
  exact h
/-! ### def without_first(way, kind): return way.replace(kind, "", 1) -/
/-- its promise, of raw arguments -/
def CutRun (P : Program) (w : World) (K : PySem.W.Frag) (mg : Str → Option Value) (base : Heap) (CX : CXT) (k : Nat) (f : Addr) : Prop :=
  ∀ (A : Around) (outer : List Env) (s : Shared) (H : Hp) (p q : List Nat) (c : Nat) (t u : Tok) (Q : VK) (E : XK), Room k A → Env0 P w K mg base A outer s H → u ≠ 0 → u < s.toks → ¬ c ∈ p → (p ++ c :: q).length ≤ 1000000 → Q (.str (tx (p ++ q))) H →
    codeAny (model P w) A (.call (.ref f) ⟨[.str (tx (p ++ c :: q)) t, .str (tx [c]) u], []⟩) (CR CX outer P w H s Q E) s
theorem cut_run {CX : CXT} {P : Program} {w : World} {K : PySem.W.Frag} {mg : Str → Option Value} {base : Heap} {k : Nat} {f : Addr} {fd : FuncData} {x a0 a1 z : Str} {st : Stmt} {N : List Str} {p1 p2 c2 c3 apos cpos rpos : PySem.Pos} {j2 j3 : Nat} (Fn : Fun K x x st f fd) (S : FnScope N [a0, a1] (defScope st)) (hz : z = tx [])
    (hbd : defBody st = [.Return (some (.Call (.Attribute (.Name a0 p1) "replace" apos) [.Name a1 p2, .Constant (.str z) j2 c2, .Constant (.int 1) j3 c3] [] cpos)) rpos])
    (hb : ∀ (kV doc pm : Value) (an : Option Addr) (cdv ct : Value) (us : List Value), us.length = 2 → bindArgs (PySem.W.fnOf x x (defArgs st) (defBody st) (defScope st) .none kV doc pm an cdv ct) ⟨us, []⟩ = pure ([a0, a1].zip us))
    (l0 : (defScope st).names.lookup a0 = some .local) (l1 : (defScope st).names.lookup a1 = some .local) (d0 : (a0 == ("__debug__" : Str)) = false) (d1 : (a1 == ("__debug__" : Str)) = false) (hline : (apos.endLine == cpos.line) = true) : CutRun P w K mg base CX (k + 1) f := by
  obtain ⟨oc, od, kV, doc, pm, an, cdv, ct, osl, rfl, lk, hcd⟩ := Fn.ex
  subst hz
  intro A outer s H p q c t u Q E hr ev hu hut hp hl fin
  rw [hbd] at lk hb
  have inK : K.In s.heap := ev.mod.kin.keeps fun b o z => (ev.bs b o z).1
  have nl : s.heap.NoLimit := ev.mod.nolimit.keeps fun b o z => (ev.bs b o z).1
  have kinds : ∀ y ∈ [a0, a1].zip [Value.str (tx (p ++ c :: q)) t, .str (tx [c]) u], (defScope st).names.lookup y.1 = some .local ∨ ((defScope st).names.lookup y.1 = some .cell ∧ ((cellsFrom (s.heap.objs.size + 1) (defScope st).names []).lookup y.1).isSome = true) := fun ⟨n, v⟩ hy => by
    rcases S.par n (List.of_mem_zip hy).1 with r | r
    · exact .inl r
    · exact .inr ⟨r, PySem.W.cellsFrom_some _ _ _ (.inl r)⟩
  refine codeAny_call_function hr.depth (inK _ _ lk) rfl S.co S.gen rfl (PySem.W.codeRec_of inK hcd) (BindsTo.of_eq (hb kV doc pm an cdv ct [.str (tx (p ++ c :: q)) t, .str (tx [c]) u] rfl) _ _ _ _ ?_)
  refine wpAny_mono (PySem.wpAny_toks (wpAny_newFunctionEnv_cells (Q := fun env s1 => env = _ ∧ InCallC s _ _ _ _ s1) S.kind kinds fun env he s1 xx => ⟨he, xx⟩)) (fun env s1 hh => ?_) fun _ _ y => y.2
  obtain ⟨tk, he, xx⟩ := hh
  subst he
  refine ⟨nl.keeps xx.toInCall.keep, codeAny_func ?_⟩
  have vals : Vals [V.str (tx (p ++ c :: q)), .str (tx [c])] [Value.str (tx (p ++ c :: q)) t, .str (tx [c]) u] := .cons ⟨t, rfl⟩ (.cons ⟨u, rfl⟩ .nil)
  have tk : s.toks ≤ s1.toks := tk
  have hut : u < s.toks := hut
  have J0 : Inv (cxOf CX P w K mg base N x (defScope st) f cdv A outer s H E) [] (start N [.str (tx (p ++ c :: q)), .str (tx [c])]) H s1 := inv_start S hr.hd ev rfl vals xx
  have ns := xx.toInCall.ns
  have two : [a0, a1].Nodup := by
    rw [show [a0, a1] = N.take 2 from S.pre.symm]
    exact S.nd.sublist (List.take_sublist _ _)
  have g0 := bindL_get (kindOf := (envOfC x (defScope st) s.heap.objs.size f cdv).kindOf) (x := a0) (v := Value.str (tx (p ++ c :: q)) t) (P := [a0, a1]) (vs := [.str (tx (p ++ c :: q)) t, .str (tx [c]) u]) (i := 0) (m := fun _ => none) two rfl rfl l0
  have g1 := bindL_get (kindOf := (envOfC x (defScope st) s.heap.objs.size f cdv).kindOf) (x := a1) (v := Value.str (tx [c]) u) (P := [a0, a1]) (vs := [.str (tx (p ++ c :: q)) t, .str (tx [c]) u]) (i := 1) (m := fun _ => none) two rfl rfl l1
  refine wpAny_execs_cons (wpAny_Return_some (meth3 rfl rfl hline (wpAny_Name (wpAny_loadName_local S.kind l0 ns g0 ?_) d0)))
  refine ⟨"str", _, F.plainAttrs_str, F.slot_str_replace, F.type_str_replace, typeIs_str _ _ _, (fun _ z => nomatch z), Calls.callWith_builtin rfl (Calls.evalArgs_plain (Calls.spliced_cons ?_))⟩
  refine wpAny_Name (wpAny_loadName_local S.kind l1 ns g1 ?_) d1
  refine Calls.spliced_cons (Calls.Constant_str ?_)
  refine Calls.spliced_cons (wpAny_Constant_int ?_)
  refine Calls.spliced_nil ?_
  refine call_cut hp hl hu (Nat.ne_of_gt (Nat.lt_of_lt_of_le (Nat.lt_of_le_of_lt (Nat.zero_le u) hut) tk)) (Nat.ne_of_lt (Nat.lt_of_lt_of_le hut tk)) fun t' k' => ?_
  have J := J0.tok k'
  exact ⟨.str (tx (p ++ q)), H, J.os, J.bare, J.base, J.hok, ⟨t', rfl⟩, fin⟩
end Cw
set_option Elab.async false
set_option linter.all false
set_option maxRecDepth 100000
set_option maxHeartbeats 4000000
/-! a loop over a text whose letters go on to text.replace: the letter's token is carried in its name -/
namespace Cw
open PySem PySem.Spec L2
theorem ns_one {h : Heap} {a : Addr} {m m' : Str → Option Value} (x : h.Ns a m) (y : h.Ns a m') : m = m' := by
  obtain ⟨o, es, ep, e1, e2, _, e4⟩ := x
  obtain ⟨o', es', ep', f1, f2, _, f4⟩ := y
  rw [e1] at f1
  cases f1
  rw [e2] at f2
  cases f2
  funext z
  rw [← e4, f4]
section
variable {X : Cx} {pins : List (Addr × Obj)} {σ : St} {H : Hp} {s : Shared}
/-- the letter c stands under the name x, with the token u -/
def RawAt (X : Cx) (x : Str) (c : Nat) (u : Tok) (s : Shared) : Prop := ∃ m, s.heap.Ns X.env.locals m ∧ m x = some (.str (tx [c]) u) ∧ u ≠ 0 ∧ u < s.toks
/-- a local name is stored, all seen -/
theorem stored {i : Nat} {y : Str} {v : V} {u : Value} {m : Str → Option Value} {h1 : Heap} {tk : Nat} (I : Inv X pins σ H s) (hN : X.N.Nodup) (hi : X.N[i]? = some y) (hk : X.env.kindOf y = some .local) (r : RelV v u) (hm : s.heap.Ns X.env.locals m)
    (hn : h1.Ns X.env.locals (fun z => if z = y then some u else m z)) (sb : Heap.SameBut X.env.locals s.heap h1) : Inv X pins (σ.set i (some v)) H { s with heap := h1, toks := tk } := by
  have mv : ∀ b, b ≠ X.env.locals → h1.get? b = s.heap.get? b := sb.2
  have old : ∀ {b : Addr} {o : Obj}, X.s_0.heap.get? b = some o → b ≠ X.env.locals := fun e => Nat.ne_of_lt (Nat.lt_of_lt_of_le (Heap.lt_size e) I.ok.above)
  have ne := I.cne
  obtain ⟨m0, n0, l0⟩ := I.loc
  obtain rfl := ns_one n0 hm
  obtain ⟨oL, _, _, hoL, _⟩ := id hm
  have cell' : ∀ {c : Addr} {w : Option Value}, c ≠ X.env.locals → s.heap.IsCell c w → h1.IsCell c w := fun hc z => z.sameBut sb hc
  exact {
    ok := I.ok
    os := I.os
    bare := I.bare
    base := {
      keep := fun b o e n f x => (mv b (old e)).trans (I.base.keep b o e n f x)
      slot := fun b o e n f x => by
        obtain ⟨sl, z⟩ := I.base.slot b o e n f x
        exact ⟨sl, (mv b (old e)).trans z⟩
      free := I.base.free
      there := fun b o e x => by
        obtain ⟨o', z⟩ := I.base.there b o e x
        exact ⟨o', (mv b (old e)).trans z⟩
      tups := I.base.tups
      frzs := I.base.frzs
      tbls := I.base.tbls }
    loc := by
      refine ⟨_, hn, fun j z w e1 e2 e3 => ?_⟩
      by_cases hj : i = j
      · subst hj
        rw [hi] at e1
        cases e1
        rw [List.getElem?_set_self (by rw [I.len]; exact (List.getElem?_eq_some_iff.mp hi).1)] at e2
        cases e2
        exact ⟨u, r, .inl ⟨hk, if_pos rfl⟩⟩
      · rw [List.getElem?_set_ne hj] at e2
        obtain ⟨u', r', q⟩ := l0 j z w e1 e2 e3
        refine ⟨u', r', ?_⟩
        rcases q with ⟨k, e⟩ | ⟨k, c, e, q⟩
        · have hz : z ≠ y := fun e => hj (nodup_ix hN hi (e ▸ e1))
          exact .inl ⟨k, by show (if z = y then _ else _) = _; rw [if_neg hz]; exact e⟩
        · exact .inr ⟨k, c, e, cell' (ne z c e) q⟩
    cell := fun z c e => by
      obtain ⟨w, q⟩ := I.cell z c e
      exact ⟨w, cell' (ne z c e) q⟩
    free := I.free
    freeC := I.freeC
    pin := fun p hp => by
      obtain ⟨e, n, nl, nf, d⟩ := I.pin p hp
      exact ⟨(mv p.1 nl).trans e, n, nl, nf, d⟩
    hok := fun b o e => (I.hok b o e).stay (fun c w hc q => (mv c (by
      rintro rfl
      rcases hc with z | z
      · rw [← z, I.free] at e
        cases e
      · rw [I.free] at z
        cases z)).trans q) (fun _ q => q) fun _ _ q => q
    len := by rw [List.length_set]; exact I.len }
/-- a value is stored under another name: the letter stays -/
theorem store_raw {M : Model} {A : Around} {E : Value → Shared → Prop} {i : Nat} {x y : Str} {c : Nat} {t : Tok} {v : V} {u : Value} {Q : Unit → Shared → Prop} (I : Inv X pins σ H s) (hN : X.N.Nodup) (hi : X.N[i]? = some y) (hk : X.env.kindOf y = some .local) (hxy : x ≠ y) (r : RelV v u) (hR : RawAt X x c t s)
    (q : ∀ s', Inv X pins (σ.set i (some v)) H s' → RawAt X x c t s' → Q () s') : wpAny M A (storeName X.env y u) Q E s := by
  obtain ⟨m, hm, hx, h0, ht⟩ := hR
  have hcls : (X.env.scope.kind == .class || (X.env.scope.kind == .module && X.env.locals != X.env.globals)) = false := by rw [I.ok.kind]; rfl
  refine wpAny_storeName_local hk hm (fun h1 hn sb => ?_) hcls
  refine q _ (stored I hN hi hk r hm hn sb) ⟨_, hn, ?_, h0, Nat.lt_succ_of_lt ht⟩
  show (if x = y then _ else _) = _
  rw [if_neg hxy]
  exact hx
/-- the letter itself is stored -/
theorem store_new {M : Model} {A : Around} {E : Value → Shared → Prop} {i : Nat} {x : Str} {c : Nat} {t : Tok} {Q : Unit → Shared → Prop} (I : Inv X pins σ H s) (hN : X.N.Nodup) (hi : X.N[i]? = some x) (hk : X.env.kindOf x = some .local) (h0 : t ≠ 0) (ht : t < s.toks)
    (q : ∀ s', Inv X pins (σ.set i (some (.str (tx [c])))) H s' → RawAt X x c t s' → Q () s') : wpAny M A (storeName X.env x (.str (tx [c]) t)) Q E s := by
  obtain ⟨m, hm, _⟩ := id I.loc
  have hcls : (X.env.scope.kind == .class || (X.env.scope.kind == .module && X.env.locals != X.env.globals)) = false := by rw [I.ok.kind]; rfl
  refine wpAny_storeName_local hk hm (fun h1 hn sb => ?_) hcls
  exact q _ (stored I hN hi hk ⟨t, rfl⟩ hm hn sb) ⟨_, hn, if_pos rfl, h0, Nat.lt_succ_of_lt ht⟩
end
/-! ### judgements that carry the letter -/
def PSsR (X : Cx) (ix : Nat) (x : Str) (st : List Stmt) (t : TS) : Prop :=
  ∀ (pins : List (Addr × Obj)) (s : Shared) (σ : St) (H : Hp) (D : Ends) (c : Nat) (u : Tok), Inv X pins σ H s → σ[ix]? = some (some (.str (tx [c]))) → RawAt X x c u s → t D σ H → wpAny (model X.prog X.w) X.A (execs st X.env) (SP X pins D) X.xe s
section
variable {X : Cx} {ix : Nat} {x : Str} {rest : List Stmt} {u : TS}
theorem PSsR.of (h : PSs X rest u) : PSsR X ix x rest u := fun pins s σ H D _ _ I _ _ q => h.run pins s σ H D I q
theorem raw_after {c : Nat} {t : Tok} {pins : List (Addr × Obj)} {σ : St} {H H' : Hp} {s s' : Shared} (I : Inv X pins σ H s) (un : Un (frs X.stack) [] H H' s.heap s'.heap) (hR : RawAt X x c t s) (hk : s.toks ≤ s'.toks) : RawAt X x c t s' := by
  obtain ⟨m, ⟨o, es, ep, ho, r⟩, hx, h0, ht⟩ := hR
  obtain ⟨sl, hL⟩ := un.any ho I.free (fun z => nomatch z)
  exact ⟨m, ⟨_, es, ep, hL, r⟩, hx, h0, Nat.lt_of_lt_of_le ht hk⟩
/-- the next letter of a text: its token is new -/
theorem next_letter {prog : Program} {w : World} {A : Around} {E : Value → Shared → Prop} {s : Shared} {it : Addr} {xs : Str} {t : Tok} {i c : Nat} {ty : String} {Q : Option Value → Shared → Prop} (hty : ty = "str_ascii_iterator" ∨ ty = "str_iterator") (hit : s.heap.IsStrIter it ty xs t i) (hx : xs.cps[i]? = some c)
    (hQ : ∀ h', h'.IsStrIter it ty xs t (i + 1) → Heap.SameBut it s.heap h' → Q (some (.str ⟨#[c]⟩ s.toks)) { s with heap := h', toks := s.toks + 1 }) : wpAny (model prog w) A (pyNext (.ref it)) Q E s := by
  rcases hty with e | e
  · subst e
    exact PySem.wpAny_pyNext_ascii_item hit hx hQ
  · subst e
    exact PySem.wpAny_pyNext_wide_item hit hx hQ
/-- the walk over a text, its iterator laid -/
theorem letters_go {p0 : PySem.Pos} {body : List Stmt} {tb : TS} {pins : List (Addr × Obj)} {s : Shared} {σ : St} {H : Hp} {D : Ends} {xs : Str} {t : Tok} {ty : String} {it : Addr} (hp : PassesOwn (model X.prog X.w) X.A X.env X.xe) (hc : X.calm = true) (hN : X.N.Nodup) (hx : X.N[ix]? = some x) (kx : X.env.kindOf x = some .local)
    (hb : PSsR X ix x body tb) (hty : ty = "str_ascii_iterator" ∨ ty = "str_iterator") (I : Inv X pins σ H s) (h0 : 1 ≤ s.toks) (fr : FpOk X pins H it) (st : s.heap.IsStrIter it ty xs t 0)
    (h : ∃ W : Nat → Nat → St → Hp → Prop, (∃ m, W 0 m σ H) ∧ ∀ i m σ H, W i m σ H → ((Its xs).stop i H ∧ D.nx σ H) ∨ ((Its xs).go i H ∧ ∃ N : St → Hp → Prop, (∀ σ' H', N σ' H' → ∃ m', m' < m ∧ W (i + 1) m' σ' H') ∧ ∀ v H', (Its xs).yld i H v H' → gName ix v σ H' fun σ2 H2 => tb { D with nx := N, ct := N, bk := D.nx } σ2 H2)) :
    codeAny (model X.prog X.w) X.A (.forLoop (.Name x p0) (.ref it) body [] X.env) (fun r s' => match r with | .ok f => SP X pins D f s' | .error e => cameBackBy (model X.prog X.w) X.A X.env X.xe e s') s := by
  obtain ⟨W, ⟨m0, w0⟩, turn⟩ := h
  have T := turn_str (P := X.prog) (w := X.w) (K := X.K) (tg := .Name x p0) it xs t ty hty
  have only : ∀ {H' : Hp}, H' it = none → ∀ b ∈ [it], FpOk X pins H' b := fun {H'} hn b hb => by
    obtain rfl : b = it := by simpa using hb
    exact ⟨hn, fr.2⟩
  have hno : ["enumerate", "zip", "dict_itemiterator", "dict_reverseitemiterator", "odict_iterator", "itertools.zip_longest", "itertools.pairwise"].contains ty = false := by rcases hty with e | e <;> (subst e; decide)
  refine codeAny_forLoop_any (fun n s' => 1 ≤ s'.toks ∧ ∃ i σ' H', Inv X pins σ' H' s' ∧ s'.heap.IsStrIter it ty xs t i ∧ H' it = none ∧ W i n σ' H') ?_ m0 ⟨h0, 0, σ, H, I, st, fr.1, w0⟩
  rintro n s3 ⟨t3, i, σ3, H3, I3, st3, fr3, w3⟩
  rcases turn i n σ3 H3 w3 with ⟨stop, qn⟩ | ⟨go, N, again, step⟩
  · refine wpAny_passesOwn hp (thn (T.done X rfl rfl rfl hc i pins s3 σ3 H3 X.xe I3 (only fr3) st3 stop) fun r s4 hr => ?_)
    obtain ⟨rfl, I4⟩ := hr
    exact wpAny_execs_nil ⟨σ3, H3, I4, qn⟩
  · have hcx : xs.cps[i]? = some xs.cps[i] := Array.getElem?_eq_getElem go
    refine wpAny_passesOwn hp (next_letter hty st3 hcx fun h' st4 sb => ?_)
    obtain ⟨f0, f1, f2, f3, f4, f5⟩ := only fr3 it (by simp)
    have I4 : Inv X pins σ3 H3 { s3 with heap := h', toks := s3.toks + 1 } := I3.turned (fun b o hb e => (sb.2 b hb).trans e) f0 f1 f3 f4 f5
    obtain ⟨o4, e4, c4, d4⟩ := id st4
    refine wpAny_passesOwn hp (go_of (s := { s3 with heap := h', toks := s3.toks + 1 }) e4 c4 d4 hno ?_)
    have I5 := I4.pinned (only fr3) (T.obj _ _ st4)
    have q := step (.str ⟨#[xs.cps[i]]⟩) H3 ⟨rfl, _, hcx, rfl⟩
    refine wpAny_passesOwn hp (wpAny_assign_Name (store_new (c := xs.cps[i]) I5 hN hx kx (Nat.ne_of_gt t3) (Nat.lt_succ_self _) fun s6 I6 R6 => ?_))
    have hσ6 : (σ3.set ix (some (.str (tx [xs.cps[i]]))))[ix]? = some (some (.str (tx [xs.cps[i]]))) := List.getElem?_set_self (by rw [I3.len]; exact (List.getElem?_eq_some_iff.mp hx).1)
    have t6 : 1 ≤ s6.toks := by
      obtain ⟨_, _, _, _, z⟩ := R6
      exact Nat.lt_of_le_of_lt (Nat.zero_le _) z
    refine wpAny_passesOwn hp (wpAny_mono (PySem.wpAny_toks_of t6 (hb _ s6 _ H3 _ _ _ I6 hσ6 R6 q)) (fun f s7 hh => ?_) fun _ _ z => z.2)
    obtain ⟨t7, q7⟩ := hh
    have on : (∃ σ' H', Inv X (pins ++ pinsAt [it] h') σ' H' s7 ∧ N σ' H') → ∃ m, m < n ∧ 1 ≤ s7.toks ∧ ∃ i σ' H', Inv X pins σ' H' s7 ∧ s7.heap.IsStrIter it ty xs t i ∧ H' it = none ∧ W i m σ' H' := fun ⟨σ7, H7, I7, n7⟩ => by
      obtain ⟨m, hm, w7⟩ := again σ7 H7 n7
      have hpin := fun b hb o (e : Heap.get? h' b = some o) => I7.pin (b, o) (List.mem_append_right _ (List.mem_append_right _ (mem_pinsAt (fp := [it]) hb e)))
      exact ⟨m, hm, t7, i + 1, σ7, H7, I7.unpinned, T.keep _ _ _ st4 fun b hb o e => (hpin b hb o e).1, (hpin it (by simp) o4 e4).2.1, w7⟩
    cases f with
    | next => exact on q7
    | cont => exact on q7
    | brk =>
      obtain ⟨σ7, H7, I7, q7⟩ := q7
      exact ⟨σ7, H7, I7.unpinned, q7⟩
    | ret v =>
      obtain ⟨x7, σ7, H7, I7, r7, q7⟩ := q7
      exact ⟨x7, σ7, H7, I7.unpinned, r7, q7⟩
end
end Cw
set_option Elab.async false
set_option linter.all false
set_option maxRecDepth 100000
set_option maxHeartbeats 4000000
/-! more words: >, upper, list + list, parts of texts, values that are no texts -/
namespace Cw
open PySem PySem.Spec L2
section
variable {X : Cx}
theorem op_cat1 : OpR X (binaryOp .Add) rCat := op_cat
end
section
variable {σ : St} {H : Hp} {Q : VK} {K : PySem.W.Frag}
theorem v_cat {l b : Addr} {xs zs : List V} (h1 : H l = some (.lst xs)) (h2 : H b = some (.lst zs)) (hl : xs.length + zs.length ≤ 1000000) (q : ∀ p H', H p = none → Same H H' → H' p = some (.lst (xs ++ zs)) → Q (.ref p) H') : rCat (.ref l) (.ref b) H Q :=
  ⟨l, b, xs, zs, rfl, rfl, h1, h2, szl hl, fun p hp => q p _ hp (Same.new hp) upd_same⟩
end
end Cw
set_option Elab.async false
set_option linter.all false
set_option maxRecDepth 100000
set_option maxHeartbeats 4000000
/-! text.replace from behind, of raw arguments; `letter in text`, the letter's token carried -/
namespace Cw
open PySem PySem.Spec L2 PyProof.Rows Builtin Builtin.Str
/-- e[::-1], all seen -/
theorem raw_rev {prog : Program} {w : World} {A : Around} {E : Value → Shared → Prop} {env : Env} {e : Expr} {j : Nat} {p1 p2 p3 pos : PySem.Pos} {Q : Value → Shared → Prop} {s : Shared}
    (he : wpAny (model prog w) A (eval e env) (fun v s1 => ∃ (l : List Nat) (t : Tok), v = .str (tx l) t ∧ l.length ≤ 1000000 ∧ ∀ (o : Obj) (t' : Tok) (k : Nat), s1.toks < k → Q (.str (tx l.reverse) t') { s1 with heap := s1.heap.push o, toks := k }) E s) :
    wpAny (model prog w) A (eval (.Subscript e (.Slice none none (some (.UnaryOp .USub (.Constant (.int 1) j p1) p2)) p3) pos) env) Q E s := by
  refine PyProof.Rows.Subscript_ (wpAny_mono he (fun v s1 hv => ?_) fun _ _ z => z)
  obtain ⟨l, t, rfl, hl, q⟩ := hv
  refine wpAny_Slice ?_
  rw [evalPart_none]
  refine wpAny_pure ?_
  refine wpAny_pure ?_
  rw [evalPart_some]
  refine UnaryOp_ (wpAny_Constant_int (neg_int ?_))
  refine PyProof.Rows.tail_any (ops := [.str (tx l) t, .ref _]) (typeIs_str _ _ _) F.slot_str_getitem.lookup ?_ (by with_unfolding_all rfl)
  refine wpAny_getItem_str_slice (l := none) (u := none) (st := some (-1, _)) ⟨_, Heap.get?_push_size _ rfl, rfl, rfl⟩ (by rfl) ?_
  unfold sliceMade slicePicked
  have e : (⟨((Builtin.Str.strSliceIndices none none ((some (-1 : Int)).getD 1) (tx l).length).filterMap ((tx l).cps[·]?)).toArray⟩ : Str) = tx l.reverse := by
    show (⟨((Builtin.Str.strSliceIndices none none (-1) (tx l).length).filterMap ((tx l).cps[·]?)).toArray⟩ : Str) = tx l.reverse
    rw [PyProof.Rows.picked_rev, tx_len, PySem.W.krv_range]
    have k2 := PySem.W.krv_all (tx l).cps
    rw [show (tx l).cps.size = l.length from tx_len l] at k2
    rw [List.filterMap_reverse, k2]
  rw [if_neg (by simp)]
  show (Made.str (⟨((Builtin.Str.strSliceIndices none none ((some (-1 : Int)).getD 1) (tx l).length).filterMap ((tx l).cps[·]?)).toArray⟩ : Str)).post Q _
  rw [e]
  exact ⟨by rw [tx_len, List.length_reverse]; exact szl hl, q _ _ _ (by show s1.toks < s1.toks + 1 + 1 + 1; omega)⟩
theorem RawAt.push {X : Cx} {x : Str} {c : Nat} {u : Tok} {s : Shared} (h : RawAt X x c u s) (o : Obj) {k : Nat} (hk : s.toks ≤ k) : RawAt X x c u { s with heap := s.heap.push o, toks := k } := by
  obtain ⟨m, ⟨ob, es, ep, ho, r⟩, hx, h0, ht⟩ := h
  exact ⟨m, ⟨ob, es, ep, Heap.get?_push_of_some _ ho, r⟩, hx, h0, Nat.lt_of_lt_of_le ht hk⟩
/-- without_first(z[::-1], x)[::-1] -/
theorem per_last {X : Cx} {CX : CXT} {k j : Nat} {f1 : Addr} {E : XK} {fw z x : Str} {p1 p2 p3 p4 p5 p6 p7 p8 p9 pf cpos spos : PySem.Pos} {j1 j2 : Nat} {pins : List (Addr × Obj)} {σ : L2.St} {H : Hp} {s : Shared} {p q : List Nat} {c : Nat} {u : Tok} {Q : Value → Shared → Prop}
    (R : CutRun X.prog X.w X.K X.mg X.base CX k f1) (hr : Room k X.A) (hx : Passes CX X E) (hg : Gl X fw) (hm : X.mg fw = some (.ref f1)) (hk : PySem.W.keepIn X.K (.ref f1) = true) (hj : X.N[j]? = some z) (vz : Vis X.env.scope z) (kx : X.env.kindOf x = some .local)
    (I : Inv X pins σ H s) (hσ : σ[j]? = some (some (.str (tx (p ++ c :: q).reverse)))) (hR : RawAt X x c u s) (hp : ¬ c ∈ p) (hl : (p ++ c :: q).length ≤ 1000000) (fin : ∀ v s', Inv X pins σ H s' → RelV (.str (tx (p ++ q).reverse)) v → Q v s')
    (df : (fw == ("__debug__" : Str)) = false := by decide) (dz : (z == ("__debug__" : Str)) = false := by decide) (cz : (z == ("__classdict__" : Str)) = false := by decide) (dx : (x == ("__debug__" : Str)) = false := by decide) :
    wpAny (model X.prog X.w) X.A (eval (.Subscript (.Call (.Name fw pf) [.Subscript (.Name z p1) (.Slice none none (some (.UnaryOp .USub (.Constant (.int 1) j1 p2) p3)) p4) p5, .Name x p6] [] cpos) (.Slice none none (some (.UnaryOp .USub (.Constant (.int 1) j2 p7) p8)) p9) spos) X.env) Q X.xe s := by
  refine raw_rev (wpAny_Call_Name_kw (ld_glob I hg hm ?_ df))
  refine PySem.W.callWith_K (h₀ := X.base) I.ok.mod.kin hk ?_ rfl rfl
  refine Calls.spliced_cons (raw_rev (raw_name hj vz I hσ (fun w r => ?_) dz cz))
  obtain ⟨t1, rfl⟩ := r
  refine ⟨_, t1, rfl, by rw [List.length_reverse]; exact hl, fun o t' k2 hk2 => ?_⟩
  have I2 := I.kept (t' := k2) (h' := s.heap.push o) fun b ob z => Heap.get?_push_of_some _ z
  have R2 := hR.push o (Nat.le_of_lt hk2)
  obtain ⟨m, hm', hxm, h0, ht⟩ := id R2
  refine Calls.spliced_cons (wpAny_Name (wpAny_loadName_local I.ok.kind kx hm' hxm ?_) dx)
  refine Calls.spliced_nil ⟨I2.kIn, ?_⟩
  rw [List.reverse_reverse]
  refine wpAny_mono (wpAny_call (Q := fun w s' => CE X.stack X.prog X.w H { s with heap := s.heap.push o, toks := k2 } (fun v H' => v = .str (tx (p ++ q)) ∧ H' = H) w s') (E := X.xe) (codeAny_mono (R X.A X.stack _ H p q c t' u (fun v H' => v = .str (tx (p ++ q)) ∧ H' = H) E hr I2.env0 h0 ht hp hl ⟨rfl, rfl⟩) fun r s' hq => ?_)) (fun w s' hh => ?_) fun _ _ z => z
  · cases r with
    | error e => exact hx pins σ H _ e s' I2 hq
    | ok fl =>
      cases fl with
      | ret w => exact hq
      | next => exact False.elim hq
      | brk => exact False.elim hq
      | cont => exact False.elim hq
  · obtain ⟨v, H', I3, rv, rfl, rfl⟩ := I2.after hh
    obtain ⟨t3, rfl⟩ := rv
    refine ⟨_, t3, rfl, by rw [List.length_append] at hl ⊢; rw [List.length_cons] at hl; omega, fun o2 t4 k4 hk4 => ?_⟩
    exact fin _ _ (I3.kept (t' := k4) (h' := s'.heap.push o2) fun b ob z => Heap.get?_push_of_some _ z) ⟨t4, rfl⟩
/-! ### def without_last(way, kind): return without_first(way[::-1], kind)[::-1] -/
/-- its promise, of raw arguments -/
def LastRun (P : Program) (w : World) (K : PySem.W.Frag) (mg : Str → Option Value) (base : Heap) (CX : CXT) (k : Nat) (f : Addr) : Prop :=
  ∀ (A : Around) (outer : List Env) (s : Shared) (H : Hp) (p q : List Nat) (c : Nat) (t u : Tok) (Q : VK) (E : XK), Room k A → Env0 P w K mg base A outer s H → u ≠ 0 → u < s.toks → ¬ c ∈ p → (p ++ c :: q).length ≤ 1000000 → Q (.str (tx (p ++ q).reverse)) H →
    codeAny (model P w) A (.call (.ref f) ⟨[.str (tx (p ++ c :: q).reverse) t, .str (tx [c]) u], []⟩) (CR CX outer P w H s Q E) s
theorem last_run {CX : CXT} {P : Program} {w : World} {K : PySem.W.Frag} {mg : Str → Option Value} {base : Heap} {k : Nat} {f f1 : Addr} {fd : FuncData} {x a0 a1 fw : Str} {st : Stmt} {N : List Str} {p1 p2 p3 p4 p5 p6 p7 p8 p9 pf cpos spos rpos : PySem.Pos} {j1 j2 : Nat} (Fn : Fun K x x st f fd) (S : FnScope N [a0, a1] (defScope st)) (R : CutRun P w K mg base CX0 k f1) (hm : mg fw = some (.ref f1)) (hk : PySem.W.keepIn K (.ref f1) = true)
    (hbd : defBody st = [.Return (some (.Subscript (.Call (.Name fw pf) [.Subscript (.Name a0 p1) (.Slice none none (some (.UnaryOp .USub (.Constant (.int 1) j1 p2) p3)) p4) p5, .Name a1 p6] [] cpos) (.Slice none none (some (.UnaryOp .USub (.Constant (.int 1) j2 p7) p8)) p9) spos)) rpos])
    (hb : ∀ (kV doc pm : Value) (an : Option Addr) (cdv ct : Value) (us : List Value), us.length = 2 → bindArgs (PySem.W.fnOf x x (defArgs st) (defBody st) (defScope st) .none kV doc pm an cdv ct) ⟨us, []⟩ = pure ([a0, a1].zip us))
    (hg : (defScope st).names.lookup fw = some .globalImplicit) (l0 : (defScope st).names.lookup a0 = some .local) (l1 : (defScope st).names.lookup a1 = some .local) (df : (fw == ("__debug__" : Str)) = false) (d0 : (a0 == ("__debug__" : Str)) = false) (d1 : (a1 == ("__debug__" : Str)) = false) (cz : (a0 == ("__classdict__" : Str)) = false) : LastRun P w K mg base CX (k + 1) f := by
  obtain ⟨oc, od, kV, doc, pm, an, cdv, ct, osl, rfl, lk, hcd⟩ := Fn.ex
  intro A outer s H p q c t u Q E hr ev hu hut hp hl fin
  rw [hbd] at lk hb
  have inK : K.In s.heap := ev.mod.kin.keeps fun b o z => (ev.bs b o z).1
  have nl : s.heap.NoLimit := ev.mod.nolimit.keeps fun b o z => (ev.bs b o z).1
  have kinds : ∀ y ∈ [a0, a1].zip [Value.str (tx (p ++ c :: q).reverse) t, .str (tx [c]) u], (defScope st).names.lookup y.1 = some .local ∨ ((defScope st).names.lookup y.1 = some .cell ∧ ((cellsFrom (s.heap.objs.size + 1) (defScope st).names []).lookup y.1).isSome = true) := fun ⟨n, v⟩ hy => by
    rcases S.par n (List.of_mem_zip hy).1 with r | r
    · exact .inl r
    · exact .inr ⟨r, PySem.W.cellsFrom_some _ _ _ (.inl r)⟩
  refine codeAny_call_function hr.depth (inK _ _ lk) rfl S.co S.gen rfl (PySem.W.codeRec_of inK hcd) (BindsTo.of_eq (hb kV doc pm an cdv ct [.str (tx (p ++ c :: q).reverse) t, .str (tx [c]) u] rfl) _ _ _ _ ?_)
  refine wpAny_mono (PySem.wpAny_toks (wpAny_newFunctionEnv_cells (Q := fun env s1 => env = _ ∧ InCallC s _ _ _ _ s1) S.kind kinds fun env he s1 xx => ⟨he, xx⟩)) (fun env s1 hh => ?_) fun _ _ y => y.2
  obtain ⟨tk, he, xx⟩ := hh
  subst he
  refine ⟨nl.keeps xx.toInCall.keep, codeAny_func ?_⟩
  have vals : Vals [V.str (tx (p ++ c :: q).reverse), .str (tx [c])] [Value.str (tx (p ++ c :: q).reverse) t, .str (tx [c]) u] := .cons ⟨t, rfl⟩ (.cons ⟨u, rfl⟩ .nil)
  have tk : s.toks ≤ s1.toks := tk
  have hut : u < s.toks := hut
  have J0 : Inv (cxOf CX P w K mg base N x (defScope st) f cdv A outer s H E) [] (start N [.str (tx (p ++ c :: q).reverse), .str (tx [c])]) H s1 := inv_start S hr.hd ev rfl vals xx
  have ns := xx.toInCall.ns
  have two : [a0, a1].Nodup := by
    rw [show [a0, a1] = N.take 2 from S.pre.symm]
    exact S.nd.sublist (List.take_sublist _ _)
  have g0 := bindL_get (kindOf := (envOfC x (defScope st) s.heap.objs.size f cdv).kindOf) (x := a0) (v := Value.str (tx (p ++ c :: q).reverse) t) (P := [a0, a1]) (vs := [.str (tx (p ++ c :: q).reverse) t, .str (tx [c]) u]) (i := 0) (m := fun _ => none) two rfl rfl l0
  have g1 := bindL_get (kindOf := (envOfC x (defScope st) s.heap.objs.size f cdv).kindOf) (x := a1) (v := Value.str (tx [c]) u) (P := [a0, a1]) (vs := [.str (tx (p ++ c :: q).reverse) t, .str (tx [c]) u]) (i := 1) (m := fun _ => none) two rfl rfl l1
  have hN0 : N[0]? = some a0 := by
    have := congrArg (fun l => l[0]?) S.pre
    simpa using this
  refine wpAny_execs_cons (wpAny_Return_some (per_last (X := cxOf CX P w K mg base N x (defScope st) f cdv A outer s H E) (j := 0) R (hr.deeper _) pass0 hg hm hk hN0 (.inl l0) l1 J0 rfl ⟨_, ns, g1, hu, Nat.lt_of_lt_of_le hut tk⟩ hp hl (fun v s' I' r => ?_) df d0 cz d1))
  exact ⟨_, H, I'.os, I'.bare, I'.base, I'.hok, r, fin⟩
section
variable {X : Cx} {ix : Nat} {x : Str} {rest : List Stmt} {u : TS}
/-- what the callee of without_last reads -/
def tCutL (j ix : Nat) : TE := fun σ H Q => ∃ p q c, σ[j]? = some (some (.str (tx (p ++ c :: q).reverse))) ∧ σ[ix]? = some (some (.str (tx [c]))) ∧ ¬ c ∈ p ∧ (p ++ c :: q).length ≤ 1000000 ∧ Q (.str (tx (p ++ q).reverse)) H
/-- y = without_last(z, x) -/
theorem psr_last {CX : CXT} {k : Nat} {f : Addr} {E : XK} {i j : Nat} {fx y z : Str} {p0 p1 p2 pf cpos pos : PySem.Pos} (R : LastRun X.prog X.w X.K X.mg X.base CX k f) (hr : Room k X.A) (hp : Passes CX X E) (hg : Gl X fx) (hm : X.mg fx = some (.ref f)) (hk : PySem.W.keepIn X.K (.ref f) = true)
    (hN : X.N.Nodup) (hi : X.N[i]? = some y) (hj : X.N[j]? = some z) (hx : X.N[ix]? = some x) (ky : X.env.kindOf y = some .local) (kx : X.env.kindOf x = some .local) (vz : Vis X.env.scope z) (hxy : x ≠ y) (h2 : PSsR X ix x rest u)
    (hs : swapsWith (.Call (.Name fx pf) [.Name z p1, .Name x p2] [] cpos) (some (.Name y p0)) pos.line X.env = pure false := by rfl) (df : (fx == ("__debug__" : Str)) = false := by decide) (dz : (z == ("__debug__" : Str)) = false := by decide) (cz : (z == ("__classdict__" : Str)) = false := by decide) (dx : (x == ("__debug__" : Str)) = false := by decide) :
    PSsR X ix x (.Assign [.Name y p0] (.Call (.Name fx pf) [.Name z p1, .Name x p2] [] cpos) pos :: rest) (tSeq (tAsg (tCutL j ix) (gName i)) u) := by
  intro pins s σ H D c t I hσ hR h
  obtain ⟨a, b, c', h1, hc', ha, hl, q⟩ := h
  rw [hσ] at hc'
  obtain rfl : c = c' := by
    injection hc' with hc'
    injection hc' with hc'
    injection hc' with hc'
    have := tx_inj.mp hc'
    injection this
  obtain ⟨m, hm', hxm, h0, ht⟩ := id hR
  have hne : i ≠ ix := by
    rintro rfl
    rw [hx] at hi
    cases hi
    exact hxy rfl
  refine wpAny_execs_cons (wpAny_Assign_Name (wpAny_Call_Name_kw (ld_glob I hg hm ?_ df)) hs)
  refine PySem.W.callWith_K (h₀ := X.base) I.ok.mod.kin hk ?_ rfl rfl
  show wpAny _ _ (spliced ((false, eval (.Name z p1) X.env) :: backTo cpos (starEach [.Name x p2] X.env))) _ _ s
  refine Calls.spliced_cons (raw_name hj vz I h1 (fun w r => ?_) dz cz)
  obtain ⟨t1, rfl⟩ := r
  show wpAny _ _ (spliced ((false, eval (.Name x p2) X.env) :: backTo cpos (starEach [] X.env))) _ _ s
  refine Calls.spliced_cons (wpAny_Name (wpAny_loadName_local I.ok.kind kx hm' hxm ?_) dx)
  refine Calls.spliced_nil ⟨I.kIn, ?_⟩
  refine wpAny_mono (PySem.wpAny_toks (wpAny_call (Q := fun w s' => CE X.stack X.prog X.w H s (fun v H' => u D (σ.set i (some v)) H') w s') (E := X.xe) (codeAny_mono (R X.A X.stack s H a b c t1 t (fun v H' => u D (σ.set i (some v)) H') E hr I.env0 h0 ht ha hl q) fun r s' hq => ?_))) (fun w s' hh => ?_) fun _ _ z => z.2
  · cases r with
    | error e => exact hp pins σ H _ e s' I hq
    | ok fl =>
      cases fl with
      | ret w => exact hq
      | next => exact False.elim hq
      | brk => exact False.elim hq
      | cont => exact False.elim hq
  · obtain ⟨hkt, ce⟩ := hh
    have R2 : RawAt X x c t s' := by
      obtain ⟨v, H', _, _, un, _⟩ := id ce
      exact raw_after I un hR hkt
    obtain ⟨v, H', I2, rv, q2⟩ := I.after ce
    exact store_raw I2 hN hi ky hxy rv R2 fun s2 I3 R3 => h2 pins s2 _ H' D c t I3 (by rw [List.getElem?_set_ne hne]; exact hσ) R3 q2
theorem occ_in {l : List Nat} {c : Nat} : (!(occurrences (tx l) (tx [c]) 0 (tx l).length 1).isEmpty) = decide (c ∈ l) := by
  have hat : ∀ i, StrLaws.At (tx l) (tx [c]) (tx l).length i ↔ l[i]? = some c := fun i => StrLaws.subAt_one (tx l) c i
  rcases StrLaws.occ_head (tx l) (tx [c]) 1 (Nat.le_refl _) with ⟨e, h⟩ | ⟨i, r, e, h1, h2⟩
  · rw [e]
    refine (decide_eq_false fun z => ?_).symm
    obtain ⟨i, hi, ei⟩ := List.getElem_of_mem z
    exact h i ((hat i).mpr (by rw [List.getElem?_eq_getElem hi, ei]))
  · rw [e]
    exact (decide_eq_true (List.mem_of_getElem? ((hat i).mp h1))).symm
/-- if x in z: .. -/
def tInL (ix j : Nat) (u : TS) : TS := fun D σ H => ∃ c l, σ[ix]? = some (some (.str (tx [c]))) ∧ σ[j]? = some (some (.str (tx l))) ∧ if c ∈ l then u D σ H else D.nx σ H
theorem psr_ifin {j : Nat} {z : Str} {p1 p2 pc pos : PySem.Pos} {body : List Stmt} (hj : X.N[j]? = some z) (kx : X.env.kindOf x = some .local) (vz : Vis X.env.scope z) (h2 : PSsR X ix x body u)
    (dz : (z == ("__debug__" : Str)) = false := by decide) (cz : (z == ("__classdict__" : Str)) = false := by decide) (dx : (x == ("__debug__" : Str)) = false := by decide) (hmk : behindInMarks .In (.Name z p2) = false := by with_unfolding_all rfl) :
    PSsR X ix x [.If (.Compare (.Name x p1) [.In] [.Name z p2] pc) body [] pos] (tInL ix j u) := by
  intro pins s σ H D c t I hσ hR h
  obtain ⟨c', l, hc', hz, q⟩ := h
  rw [hσ] at hc'
  obtain rfl : c = c' := by
    injection hc' with hc'
    injection hc' with hc'
    injection hc' with hc'
    have := tx_inj.mp hc'
    injection this
  obtain ⟨m, hm', hxm, h0, ht⟩ := id hR
  refine wpAny_execs_cons (wpAny_If (wpAny_isTrue_Compare1 (wpAny_Name (wpAny_loadName_local I.ok.kind kx hm' hxm ?_) dx) hmk))
  refine raw_name hj vz I hz (fun w r => ?_) dz cz
  obtain ⟨t1, rfl⟩ := r
  refine in_str (wpAny_truthy_bool ?_)
  rw [occ_in]
  by_cases hc : c ∈ l
  · rw [if_pos hc] at q
    rw [decide_eq_true hc]
    refine wpAny_mono (h2 pins s σ H D c t I hσ hR q) (fun f s' hf => ?_) fun _ _ z => z
    cases f with
    | next => exact wpAny_execs_nil hf
    | brk => exact hf
    | cont => exact hf
    | ret v => exact hf
  · rw [if_neg hc] at q
    rw [decide_eq_false hc]
    exact wpAny_execs_nil (wpAny_execs_nil ⟨σ, H, I, q⟩)
end
end Cw
set_option Elab.async false
set_option linter.all false
set_option maxRecDepth 100000
set_option maxHeartbeats 4000000
/-! a call behind which a token is out; a loop over its text, the letter's token carried -/
namespace Cw
open PySem PySem.Spec L2 PyProof.Rows Builtin Builtin.Str
/-- as PE; behind it a token is out -/
def PET (X : Cx) (e : Expr) (te : TE) : Prop := ∀ (pins : List (Addr × Obj)) (s : Shared) (σ : L2.St) (H : Hp) (Q : VK), Inv X pins σ H s → te σ H Q → wpAny (model X.prog X.w) X.A (eval e X.env) (fun v s' => 1 ≤ s'.toks ∧ EP X pins σ Q v s') X.xe s
/-- for x in e: .., e a text -/
theorem ps_lettersT {X : Cx} {ix : Nat} {x : Str} {p0 pos : PySem.Pos} {iter : Expr} {te : TE} {body : List Stmt} {tb : TS} (hp : PassesOwn (model X.prog X.w) X.A X.env X.xe) (hc : X.calm = true) (hN : X.N.Nodup) (hx : X.N[ix]? = some x) (kx : X.env.kindOf x = some .local) (he : PET X iter te) (hb : PSsR X ix x body tb)
    (hs : ∀ v, foldedSetIterable iter X.env v = pure v := by intro _; rfl) : PS X (.For (.Name x p0) iter body [] pos) (tFor (iStr te) (gName ix) tb) := by
  refine ⟨fun pins s σ H D I h => ?_⟩
  refine wpAny_For (wpAny_mono (he pins s σ H _ I h) (fun v s1 hh => ?_) fun _ _ z => z) hs
  obtain ⟨t1, y, H1, I1, r1, xs, rfl, q⟩ := hh
  obtain ⟨t, rfl⟩ := r1
  have hf : H1 s1.heap.objs.size = none := I1.hok.fresh (Nat.le_refl _)
  have fin : ∀ {ty : String} {o : Obj}, (ty = "str_ascii_iterator" ∨ ty = "str_iterator") → (s1.heap.push o).IsStrIter s1.heap.objs.size ty xs t 0 → codeAny (model X.prog X.w) X.A (.forLoop (.Name x p0) (.ref s1.heap.objs.size) body [] X.env) (fun r s' => match r with | .ok f => SP X pins D f s' | .error e => cameBackBy (model X.prog X.w) X.A X.env X.xe e s') { s1 with heap := s1.heap.push o } := fun hty hit => by
    refine codeAny_mono (letters_go hp hc hN hx kx hb hty (I1.kept (t' := s1.toks) fun b ob e => Heap.get?_push_of_some _ e) t1 (I1.fpOk (Nat.le_refl _) hf) hit q) fun r s' z => ?_
    cases r with
    | ok f => first | exact z | exact z.2
    | error e => exact z
  cases ha : xs.cps.all (· < 128)
  · refine wpAny_pyIter_wide ha ?_
    exact fin (.inr rfl) ⟨_, Heap.get?_push_size _ rfl, rfl, rfl⟩
  · refine wpAny_pyIter_ascii ha ?_
    exact fin (.inl rfl) ⟨_, Heap.get?_push_size _ rfl, rfl, rfl⟩
/-! ### def last_kinds(plan, way): return first_kinds(plan, way[::-1]) -/
/-- its promise; behind it a token is out -/
def LkRun (P : Program) (w : World) (K : PySem.W.Frag) (mg : Str → Option Value) (base : Heap) (k : Nat) (f : Addr) (sp : Sp) : Prop :=
  ∀ (A : Around) (outer : List Env) (s : Shared) (H : Hp) (a : V) (l : List Nat) (us : List Value) (Q : VK), Room k A → Env0 P w K mg base A outer s H → Vals [a, .str (tx l)] us → l.length ≤ 1000000 → sp [a, .str (tx l.reverse)] H Q E0 →
    codeAny (model P w) A (.call (.ref f) ⟨us, []⟩) (fun r s' => 1 ≤ s'.toks ∧ CR CX0 outer P w H s Q E0 r s') s
theorem per_lk {X : Cx} {CX : CXT} {k i j : Nat} {f1 : Addr} {fd : FuncData} {ps : List Str} {sp : Sp} {E : XK} {fw y z : Str} {p1 p2 p3 p4 p5 p6 pf cpos : PySem.Pos} {j1 : Nat} {pins : List (Addr × Obj)} {σ : L2.St} {H : Hp} {s : Shared} {a : V} {l : List Nat} {Q : VK}
    (F : FnOk X.prog X.w X.K X.mg X.base CX k f1 fd ps sp) (hb : Binds X.K fd ps []) (hr : Room k X.A) (hx : Passes CX X E) (hg : Gl X fw) (hm : X.mg fw = some (.ref f1)) (hk : PySem.W.keepIn X.K (.ref f1) = true) (hi : X.N[i]? = some y) (vy : Vis X.env.scope y) (hj : X.N[j]? = some z) (vz : Vis X.env.scope z)
    (I : Inv X pins σ H s) (hσ1 : σ[i]? = some (some a)) (hσ : σ[j]? = some (some (.str (tx l)))) (hl : l.length ≤ 1000000) (q : sp [a, .str (tx l.reverse)] H Q E)
    (df : (fw == ("__debug__" : Str)) = false := by decide) (dy : (y == ("__debug__" : Str)) = false := by decide) (cy : (y == ("__classdict__" : Str)) = false := by decide) (dz : (z == ("__debug__" : Str)) = false := by decide) (cz : (z == ("__classdict__" : Str)) = false := by decide) :
    wpAny (model X.prog X.w) X.A (eval (.Call (.Name fw pf) [.Name y p1, .Subscript (.Name z p2) (.Slice none none (some (.UnaryOp .USub (.Constant (.int 1) j1 p3) p4)) p5) p6] [] cpos) X.env) (fun v s' => 1 ≤ s'.toks ∧ EP X pins σ Q v s') (fun e s' => 1 ≤ s'.toks ∧ X.xe e s') s := by
  refine wpAny_Call_Name_kw (ld_glob I hg hm ?_ df)
  refine PySem.W.callWith_K (h₀ := X.base) I.ok.mod.kin hk ?_ rfl rfl
  refine Calls.spliced_cons (raw_name hi vy I hσ1 (fun w1 r1 => ?_) dy cy)
  refine Calls.spliced_cons (raw_rev (raw_name hj vz I hσ (fun w r => ?_) dz cz))
  obtain ⟨t1, rfl⟩ := r
  refine ⟨_, t1, rfl, hl, fun o t' k2 hk2 => ?_⟩
  have I2 := I.kept (t' := k2) (h' := s.heap.push o) fun b ob z => Heap.get?_push_of_some _ z
  refine Calls.spliced_nil ⟨I2.kIn, ?_⟩
  exact PySem.wpAny_toks_of (n := 1) (Nat.lt_of_le_of_lt (Nat.zero_le _) hk2) (run_fn (us := [w1, .str (tx l.reverse) t']) (vs := [a, .str (tx l.reverse)]) (dvs := []) F hr hb .nil hx I2 (.cons r1 (.cons ⟨t', rfl⟩ .nil)) q)
theorem lk_run {P : Program} {w : World} {K : PySem.W.Frag} {mg : Str → Option Value} {base : Heap} {k : Nat} {f : Addr} {fd : FuncData} {x a0 a1 fw : Str} {st : Stmt} {N ps : List Str} {sp : Sp} {p1 p2 p3 p4 p5 p6 pf cpos rpos : PySem.Pos} {j1 : Nat} (Fn : Fun K x x st f fd) (S : FnScope N [a0, a1] (defScope st)) (D : Def P w K mg base CX0 k fw ps sp)
    (hbd : defBody st = [.Return (some (.Call (.Name fw pf) [.Name a0 p1, .Subscript (.Name a1 p2) (.Slice none none (some (.UnaryOp .USub (.Constant (.int 1) j1 p3) p4)) p5) p6] [] cpos)) rpos])
    (hb : ∀ (kV doc pm : Value) (an : Option Addr) (cdv ct : Value) (us : List Value), us.length = 2 → bindArgs (PySem.W.fnOf x x (defArgs st) (defBody st) (defScope st) .none kV doc pm an cdv ct) ⟨us, []⟩ = pure ([a0, a1].zip us))
    (hg : (defScope st).names.lookup fw = some .globalImplicit) (l0 : (defScope st).names.lookup a0 = some .local) (l1 : (defScope st).names.lookup a1 = some .local) (df : (fw == ("__debug__" : Str)) = false) (d0 : (a0 == ("__debug__" : Str)) = false) (d1 : (a1 == ("__debug__" : Str)) = false) (c0 : (a0 == ("__classdict__" : Str)) = false) (c1 : (a1 == ("__classdict__" : Str)) = false) : LkRun P w K mg base (k + 1) f sp := by
  obtain ⟨oc, od, kV, doc, pm, an, cdv, ct, osl, rfl, lk, hcd⟩ := Fn.ex
  obtain ⟨f1, fd1, hm, hk, bd, F⟩ := D.ex
  intro A outer s H a l us Q hr ev vals hl fin
  rw [hbd] at lk hb
  obtain ⟨u0, u1, rfl⟩ : ∃ u0 u1, us = [u0, u1] := by
    cases vals with
    | cons r0 rr =>
      cases rr with
      | cons r1 rr =>
        cases rr
        exact ⟨_, _, rfl⟩
  have inK : K.In s.heap := ev.mod.kin.keeps fun b o z => (ev.bs b o z).1
  have nl : s.heap.NoLimit := ev.mod.nolimit.keeps fun b o z => (ev.bs b o z).1
  have kinds : ∀ y ∈ [a0, a1].zip [u0, u1], (defScope st).names.lookup y.1 = some .local ∨ ((defScope st).names.lookup y.1 = some .cell ∧ ((cellsFrom (s.heap.objs.size + 1) (defScope st).names []).lookup y.1).isSome = true) := fun ⟨n, v⟩ hy => by
    rcases S.par n (List.of_mem_zip hy).1 with r | r
    · exact .inl r
    · exact .inr ⟨r, PySem.W.cellsFrom_some _ _ _ (.inl r)⟩
  refine codeAny_call_function hr.depth (inK _ _ lk) rfl S.co S.gen rfl (PySem.W.codeRec_of inK hcd) (BindsTo.of_eq (hb kV doc pm an cdv ct [u0, u1] rfl) _ _ _ _ ?_)
  refine wpAny_mono (wpAny_newFunctionEnv_cells (Q := fun env s1 => env = _ ∧ InCallC s _ _ _ _ s1) S.kind kinds fun env he s1 xx => ⟨he, xx⟩) (fun env s1 hh => ?_) fun _ _ y => y
  obtain ⟨he, xx⟩ := hh
  subst he
  refine ⟨nl.keeps xx.toInCall.keep, codeAny_func ?_⟩
  have J0 : Inv (cxOf CX0 P w K mg base N x (defScope st) f cdv A outer s H E0) [] (start N [a, .str (tx l)]) H s1 := inv_start S hr.hd ev rfl vals xx
  have hN : ∀ i, i < 2 → N[i]? = [a0, a1][i]? := fun i hi => by
    rw [← S.pre]
    exact (List.getElem?_take_of_lt (by simpa using hi)).symm
  refine wpAny_execs_cons (wpAny_Return_some (wpAny_mono (per_lk (X := cxOf CX0 P w K mg base N x (defScope st) f cdv A outer s H E0) (i := 0) (j := 1) F bd.b (hr.deeper _) pass0 hg hm hk (hN 0 (by omega)) (.inl l0) (hN 1 (by omega)) (.inl l1) J0 rfl rfl hl fin df d0 c0 d1 c1) (fun v s' hh => ?_) fun e s' z => ?_))
  rotate_left
  · exact PySem.wpAny_toks_of z.1 z.2
  obtain ⟨t1, y, H', I', r, q⟩ := hh
  exact ⟨t1, y, H', I'.os, I'.bare, I'.base, I'.hok, r, q⟩
/-- last_kinds(y, z) -/
theorem pet_lk {X : Cx} {k i j : Nat} {f1 : Addr} {sp : Sp} {fw y z : Str} {p1 p2 pf cpos : PySem.Pos} (R : LkRun X.prog X.w X.K X.mg X.base k f1 sp) (hr : Room k X.A) (hg : Gl X fw) (hm : X.mg fw = some (.ref f1)) (hk : PySem.W.keepIn X.K (.ref f1) = true) (hi : X.N[i]? = some y) (vy : Vis X.env.scope y) (hj : X.N[j]? = some z) (vz : Vis X.env.scope z)
    (df : (fw == ("__debug__" : Str)) = false := by decide) (dy : (y == ("__debug__" : Str)) = false := by decide) (cy : (y == ("__classdict__" : Str)) = false := by decide) (dz : (z == ("__debug__" : Str)) = false := by decide) (cz : (z == ("__classdict__" : Str)) = false := by decide) :
    PET X (.Call (.Name fw pf) [.Name y p1, .Name z p2] [] cpos) (fun σ H Q => ∃ a l, σ[i]? = some (some a) ∧ σ[j]? = some (some (.str (tx l))) ∧ l.length ≤ 1000000 ∧ sp [a, .str (tx l.reverse)] H Q E0) := by
  rintro pins s σ H Q I ⟨a, l, hσ1, hσ2, hl, q⟩
  refine wpAny_Call_Name_kw (ld_glob I hg hm ?_ df)
  refine PySem.W.callWith_K (h₀ := X.base) I.ok.mod.kin hk ?_ rfl rfl
  refine Calls.spliced_cons (raw_name hi vy I hσ1 (fun w1 r1 => ?_) dy cy)
  refine Calls.spliced_cons (raw_name hj vz I hσ2 (fun w r => ?_) dz cz)
  refine Calls.spliced_nil ⟨I.kIn, ?_⟩
  refine wpAny_mono (wpAny_call (Q := fun w s' => 1 ≤ s'.toks ∧ CE X.stack X.prog X.w H s Q w s') (E := X.xe) (codeAny_mono (R X.A X.stack s H a l [w1, w] Q hr I.env0 (.cons r1 (.cons r .nil)) hl q) fun r s' hq => ?_)) (fun w s' hh => ?_) fun _ _ z => z
  · obtain ⟨t1, hq⟩ := hq
    cases r with
    | error e => exact (pass0 (X := X)) pins σ H _ e s' I hq
    | ok fl =>
      cases fl with
      | ret w => exact ⟨t1, hq⟩
      | next => exact False.elim hq
      | brk => exact False.elim hq
      | cont => exact False.elim hq
  · exact ⟨hh.1, I.after hh.2⟩
end Cw
set_option Elab.async false
set_option linter.all false
set_option maxRecDepth 100000
set_option maxHeartbeats 4000000
/-! the product of two marks: how two walls lie -/
namespace Cw
section
variable {f : Nat → List Nat} {ls : List Nat} {s t c : Nat}
/-! ### the kind of a wall by its mark -/
theorem act_par (f : Nat → List Nat) (g : Nat → Int) : ∀ (w : List Nat) (s : Nat), ∃ k : Int, act f w g s = g s + 2 * k
  | [], s => ⟨0, by show g s = _; omega⟩
  | d :: r, s => by
    obtain ⟨k, h⟩ := act_par f g r s
    obtain ⟨j, h'⟩ := act_par f g r d
    show ∃ k : Int, thr f d (act f r g) s = _
    unfold thr
    split
    · rename_i e
      refine ⟨- g d - j, ?_⟩
      rw [h', e]
      omega
    · split
      · exact ⟨k, h⟩
      · refine ⟨k + (g d + 2 * j), ?_⟩
        rw [h, h']
        omega
theorem root_kind {v w : List Nat} (hs : s ∈ ls) (h : ∀ x ∈ ls, act f v (unit x) s = act f w (unit x) t) : s = t := by
  have h := h s hs
  obtain ⟨k, e1⟩ := act_par f (unit s) v s
  obtain ⟨j, e2⟩ := act_par f (unit s) w t
  rw [e1, e2] at h
  unfold unit at h
  rw [if_pos rfl] at h
  by_cases e : t = s
  · exact e.symm
  · rw [if_neg e] at h
    omega
/-! ### the product -/
def bt (f : Nat → List Nat) (t : Nat) : Nat → Int := fun e => if e = t then 1 else if e ∈ f t then 0 else -1
theorem bt_self : bt f t t = 1 := if_pos rfl
theorem bt_in (ok : CrOk f) (h : s ∈ f t) : bt f t s = 0 := by
  unfold bt
  rw [if_neg fun z : s = t => ok.irr t (z ▸ h), if_pos h]
theorem bt_out (h : s ≠ t) (h2 : ¬ s ∈ f t) : bt f t s = -1 := by
  unfold bt
  rw [if_neg h, if_neg h2]
theorem bt_sym (ok : CrOk f) (s t : Nat) : bt f t s = bt f s t := by
  by_cases e : s = t
  · rw [e]
  · by_cases c : s ∈ f t
    · rw [bt_in ok c, bt_in ok (ok.sym _ _ c)]
    · rw [bt_out e c, bt_out (fun z => e z.symm) fun z => c (ok.sym _ _ z)]
theorem col_eq (ok : CrOk f) (x : Nat) : thr f c (unit c) x = unit c x - 2 * bt f x c := by
  have u1 : unit c c = 1 := if_pos rfl
  unfold thr
  by_cases e : x = c
  · rw [if_pos e, e, u1, bt_self]
    rfl
  · have u2 : unit c x = 0 := if_neg e
    rw [if_neg e, u1, u2]
    by_cases h : x ∈ f c
    · rw [if_pos h, bt_in ok (ok.sym _ _ h)]
      rfl
    · rw [if_neg h, bt_out (fun z => e z.symm) fun z => h (ok.sym _ _ z)]
      rfl
theorem psi_act (hn : ls.Nodup) (ok : CrOk f) (ht : t ∈ ls) : ∀ {n : List Nat} {e : Nat}, (∀ y ∈ n, y ∈ ls) → e ∈ ls → sumL ls (fun y => mark f n.reverse t y * bt f y e) = act f n (bt f t) e
  | [], e, _, he => by
    have h := sumL_unit (g := fun y => bt f y e) hn ht
    rw [← show bt f t e = act f [] (bt f t) e from rfl, ← h]
    exact sumL_congr fun y _ => by
      show unit y t * bt f y e = bt f y e * unit y t
      rw [Int.mul_comm]
  | c :: n, e, hw, he => by
    have hc := hw c (List.mem_cons_self ..)
    have hn' : ∀ y ∈ n, y ∈ ls := fun y hy => hw y (List.mem_cons_of_mem _ hy)
    have hnr : ∀ y ∈ n.reverse, y ∈ ls := fun y hy => hn' y (List.mem_reverse.mp hy)
    have ie := psi_act hn ok ht hn' he
    have ic := psi_act hn ok ht hn' hc
    have key : ∀ y ∈ ls, mark f (c :: n).reverse t y = 1 * mark f n.reverse t y + (-2 * act f n (bt f t) c) * unit y c := by
      intro y hy
      have e1 : mark f (c :: n).reverse t y = act f n.reverse (thr f c (unit y)) t := by
        unfold mark
        rw [List.reverse_cons, act_app]
        rfl
      by_cases hyc : y = c
      · subst hyc
        rw [e1, act_lin hn ok _ hnr ht, show unit y y = 1 from if_pos rfl, ← ic]
        have e2 : sumL ls (fun x => thr f y (unit y) x * mark f n.reverse t x) = sumL ls fun x => 1 * (mark f n.reverse t x * unit x y) + (-2) * (mark f n.reverse t x * bt f x y) := sumL_congr fun x _ => by
          have u : unit y x = unit x y := by
            unfold unit
            by_cases q : x = y
            · rw [if_pos q, if_pos q.symm]
            · rw [if_neg q, if_neg fun z => q z.symm]
          rw [col_eq ok, u, Int.sub_mul, Int.mul_comm (unit x y), Int.mul_assoc, Int.mul_comm (bt f x y)]
          omega
        rw [e2, sumL_comb, sumL_unit (g := fun x => mark f n.reverse t x) hn hc]
        omega
      · rw [e1, show thr f c (unit y) = unit y from funext fun e => unit_thr hyc, show unit y c = 0 from if_neg fun z => hyc z.symm]
        show mark f n.reverse t y = _
        omega
    have e3 : sumL ls (fun y => mark f (c :: n).reverse t y * bt f y e) = sumL ls fun y => 1 * (mark f n.reverse t y * bt f y e) + (-2 * act f n (bt f t) c) * (bt f y e * unit y c) := sumL_congr fun y hy => by
      rw [key y hy, Int.add_mul, Int.mul_assoc, Int.mul_assoc, Int.mul_comm (unit y c)]
    rw [e3, sumL_comb, ie, sumL_unit (g := fun y => bt f y e) hn hc]
    show _ = thr f c (act f n (bt f t)) e
    by_cases h1 : e = c
    · rw [h1, thr_self, bt_self]
      omega
    · by_cases h2 : e ∈ f c
      · rw [thr_cr ok h2, bt_in ok h2]
        omega
      · rw [thr_not h1 h2, bt_out h1 h2]
        omega
/-- the first letter's coordinate -/
theorem mark_head (hn : ls.Nodup) (ok : CrOk f) (ht : t ∈ ls) {n : List Nat} (hn' : ∀ y ∈ n, y ∈ ls) (hc : c ∈ ls) : mark f (c :: n).reverse t c = mark f n.reverse t c - 2 * act f n (bt f t) c := by
  have hnr : ∀ y ∈ n.reverse, y ∈ ls := fun y hy => hn' y (List.mem_reverse.mp hy)
  have e1 : mark f (c :: n).reverse t c = act f n.reverse (thr f c (unit c)) t := by
    unfold mark
    rw [List.reverse_cons, act_app]
    rfl
  rw [e1, act_lin hn ok _ hnr ht, ← psi_act hn ok ht hn' hc]
  have e2 : sumL ls (fun x => thr f c (unit c) x * mark f n.reverse t x) = sumL ls fun x => 1 * (mark f n.reverse t x * unit x c) + (-2) * (mark f n.reverse t x * bt f x c) := sumL_congr fun x _ => by
    have u : unit c x = unit x c := by
      unfold unit
      by_cases q : x = c
      · rw [if_pos q, if_pos q.symm]
      · rw [if_neg q, if_neg fun z => q z.symm]
    rw [col_eq ok, u, Int.sub_mul, Int.mul_comm (unit x c), Int.mul_assoc, Int.mul_comm (bt f x c)]
    omega
  rw [e2, sumL_comb, sumL_unit (g := fun x => mark f n.reverse t x) hn hc]
  omega
def prodV (f : Nat → List Nat) (ls : List Nat) (a b : Nat → Int) : Int := sumL ls fun x => a x * sumL ls fun y => b y * bt f y x
theorem prod_act (hn : ls.Nodup) (ok : CrOk f) {m n : List Nat} (hm : ∀ y ∈ m, y ∈ ls) (hn' : ∀ y ∈ n, y ∈ ls) (hs : s ∈ ls) (ht : t ∈ ls) : prodV f ls (mark f m.reverse s) (mark f n.reverse t) = act f (m.reverse ++ n) (bt f t) s := by
  unfold prodV
  rw [act_app, act_lin hn ok _ (fun y hy => hm y (List.mem_reverse.mp hy)) hs]
  exact sumL_congr fun x hx => by rw [psi_act hn ok ht hn' hx, Int.mul_comm]
/-! ### its sign -/
/-- no door of the kind t, or of one that crosses it, leads back -/
structure Strt (f : Nat → List Nat) (t : Nat) (v : List Nat) : Prop where
  red : Red f v
  td : ¬ desc f t v.reverse
  fr : ∀ y ∈ f t, ¬ desc f y v.reverse
theorem Strt.tail {v : List Nat} (h : Strt f t (c :: v)) : Strt f t v where
  red := h.red.2
  td := fun z => h.td (by rw [List.reverse_cons]; exact desc_left z)
  fr := fun y hy z => h.fr y hy (by rw [List.reverse_cons]; exact desc_left z)
theorem desc_mem {s : Nat} : ∀ {w : List Nat}, desc f s w → s ∈ w
  | [], h => h.elim
  | y :: w, h => by
    rcases h with h | ⟨_, h⟩
    · exact h ▸ List.mem_cons_self ..
    · exact List.mem_cons_of_mem _ (desc_mem h)
theorem desc_thru (ok : CrOk f) {y : Nat} {pr : List Nat} (hp : ∀ z ∈ pr, z ∈ f s) : ∀ {qr : List Nat}, desc f y (qr ++ pr) → desc f y (qr ++ s :: pr)
  | [], h => .inr ⟨ok.sym _ _ (hp y (desc_mem h)), h⟩
  | z :: qr, h => by
    rcases h with h | ⟨h1, h2⟩
    · exact .inl h
    · exact .inr ⟨h1, desc_thru ok hp h2⟩
theorem Strt.out (ok : CrOk f) {p q : List Nat} (hp : ∀ y ∈ p, y ∈ f s) (h : Strt f t (p ++ s :: q)) : Strt f t (p ++ q) := by
  have key : ∀ y, desc f y (p ++ q).reverse → desc f y (p ++ s :: q).reverse := by
    intro y z
    rw [List.reverse_append] at z
    have e : (p ++ s :: q).reverse = q.reverse ++ s :: p.reverse := by simp
    rw [e]
    exact desc_thru ok (fun w hw => hp w (List.mem_reverse.mp hw)) z
  exact ⟨Red_out ok hp h.red, fun z => h.td (key _ z), fun y hy z => h.fr y hy (key y z)⟩
theorem neg_start (ok : CrOk f) {p q : List Nat} (st : Strt f t (p ++ s :: q)) (hp : ∀ y ∈ p, y ∈ f s) (i1 : ¬ (p ++ q = [] ∧ s = t) → act f (p ++ q) (bt f t) s ≤ 0 ∧ (act f (p ++ q) (bt f t) s = 0 → (∀ y ∈ p ++ q, y ∈ f s) ∧ t ∈ f s)) : act f (p ++ q) (bt f t) s ≤ -1 := by
  have er : (p ++ s :: q).reverse = q.reverse ++ s :: p.reverse := by simp
  have ex : ¬ (p ++ q = [] ∧ s = t) := by
    rintro ⟨e1, rfl⟩
    obtain ⟨rfl, rfl⟩ := List.append_eq_nil_iff.mp e1
    exact st.td (.inl rfl)
  obtain ⟨a1, a2⟩ := i1 ex
  by_cases z : act f (p ++ q) (bt f t) s = 0
  · obtain ⟨b1, b2⟩ := a2 z
    refine absurd ?_ (st.fr s (ok.sym _ _ b2))
    rw [er]
    exact desc_of fun y hy => b1 y (List.mem_append_right _ (List.mem_reverse.mp hy))
  · omega
theorem bsign (ok : CrOk f) (ht : t ∈ ls) : ∀ (n : Nat) (v : List Nat), v.length = n → Strt f t v → (∀ y ∈ v, y ∈ ls) →
    (∀ s ∈ ls, ¬ desc f s v → ¬ (v = [] ∧ s = t) → act f v (bt f t) s ≤ 0 ∧ (act f v (bt f t) s = 0 → (∀ y ∈ v, y ∈ f s) ∧ t ∈ f s)) ∧
    (∀ s ∈ ls, ∀ c ∈ ls, s ≠ c → ¬ s ∈ f c → desc f s v → ¬ desc f c v → ∀ a b : Int, 0 ≤ a → a < b → a * act f v (bt f t) s + b * act f v (bt f t) c < 0) := by
  intro n
  induction n using Nat.strongRecOn with
  | ind n ih =>
    intro v hv st hm
    refine ⟨fun s hs hd he => ?_, fun s hs c hc ne nc hd hd2 a b ha hab => ?_⟩
    · cases v with
      | nil =>
        have hst : s ≠ t := fun z => he ⟨rfl, z⟩
        show bt f t s ≤ 0 ∧ (bt f t s = 0 → _)
        by_cases c : s ∈ f t
        · rw [bt_in ok c]
          exact ⟨by omega, fun _ => ⟨fun _ z => (nomatch z), ok.sym _ _ c⟩⟩
        · rw [bt_out hst c]
          exact ⟨by omega, fun z => by omega⟩
      | cons c v =>
        have hl : v.length < n := by rw [← hv]; simp
        have hc : c ∈ ls := hm c (List.mem_cons_self ..)
        have ne : s ≠ c := fun z => hd (.inl z.symm)
        have rc : ¬ desc f c v := st.red.1
        obtain ⟨i1, i2⟩ := ih v.length hl v rfl st.tail fun y hy => hm y (List.mem_cons_of_mem _ hy)
        by_cases hsc : s ∈ f c
        · have e : act f (c :: v) (bt f t) s = act f v (bt f t) s := thr_cr ok hsc
          rw [e]
          have hcs := ok.sym _ _ hsc
          have ex : ¬ (v = [] ∧ s = t) := by
            rintro ⟨rfl, rfl⟩
            exact st.fr c hcs (.inl rfl)
          obtain ⟨a1, a2⟩ := i1 s hs (fun z => hd (.inr ⟨hcs, z⟩)) ex
          refine ⟨a1, fun z => ⟨fun y hy => ?_, (a2 z).2⟩⟩
          rcases List.mem_cons.mp hy with rfl | hy
          · exact hcs
          · exact (a2 z).1 y hy
        · have e : act f (c :: v) (bt f t) s = act f v (bt f t) s + 2 * act f v (bt f t) c := thr_not ne hsc
          rw [e]
          have pc : act f v (bt f t) c ≤ -1 := by
            have ex : ¬ (v = [] ∧ c = t) := by
              rintro ⟨rfl, rfl⟩
              exact st.td (.inl rfl)
            obtain ⟨a1, a2⟩ := i1 c hc rc ex
            by_cases z : act f v (bt f t) c = 0
            · obtain ⟨b1, b2⟩ := a2 z
              refine absurd ?_ (st.fr c (ok.sym _ _ b2))
              rw [List.reverse_cons]
              exact desc_of fun y hy => b1 y (List.mem_reverse.mp hy)
            · omega
          by_cases ds : desc f s v
          · have := i2 s hs c hc ne hsc ds rc 1 2 (by decide) (by decide)
            exact ⟨by omega, fun z => by omega⟩
          · by_cases ex : v = [] ∧ s = t
            · have : act f v (bt f t) s = 1 := by
                rw [ex.1, ex.2]
                exact bt_self
              exact ⟨by omega, fun z => by omega⟩
            · have := (i1 s hs ds ex).1
              exact ⟨by omega, fun z => by omega⟩
    · obtain ⟨p, q, rfl, hp⟩ := desc_split hd
      have su := st.out ok hp
      have nds : ¬ desc f s (p ++ q) := by
        rw [desc_pass ok hp]
        exact (Red_right st.red).1
      have eu : ∀ g, act f (p ++ s :: q) g = thr f s (act f (p ++ q) g) := fun g => by
        rw [act_app, act_app]
        show act f p (thr f s (act f q g)) = _
        rw [act_comm ok hp]
      have hl : (p ++ q).length < n := by
        rw [← hv]
        simp only [List.length_append, List.length_cons]
        omega
      obtain ⟨i1, i2⟩ := ih (p ++ q).length hl (p ++ q) rfl su fun y hy => hm y ((List.mem_append.mp hy).elim (fun z => List.mem_append_left _ z) fun z => List.mem_append_right _ (List.mem_cons_of_mem _ z))
      have nc' : ¬ c ∈ f s := fun z => nc (ok.sym _ _ z)
      rw [eu, thr_self, thr_not ne.symm nc']
      have ps := neg_start ok st hp (i1 s hs nds)
      by_cases dc : desc f c (p ++ q)
      · have := i2 c hc s hs ne.symm nc' dc nds b (2 * b - a) (by omega) (by omega)
        rw [Int.sub_mul, Int.mul_assoc] at this
        rw [Int.mul_neg, Int.mul_add, ← Int.mul_assoc, Int.mul_comm b 2, Int.mul_assoc]
        omega
      · by_cases ex : p ++ q = [] ∧ c = t
        · have e1 : act f (p ++ q) (bt f t) c = 1 := by
            rw [ex.1, ex.2]
            exact bt_self
          have e2 : act f (p ++ q) (bt f t) s = -1 := by
            rw [ex.1]
            exact bt_out (ex.2 ▸ ne) (ex.2 ▸ nc)
          rw [e1, e2]
          omega
        · have h1 := (i1 c hc dc ex).1
          have h2 : b * act f (p ++ q) (bt f t) c ≤ 0 := Int.mul_nonpos_of_nonneg_of_nonpos (by omega) h1
          have h3 : (2 * b - a) * act f (p ++ q) (bt f t) s < 0 := Int.mul_neg_of_pos_of_neg (by omega) (by omega)
          rw [Int.sub_mul, Int.mul_assoc] at h3
          rw [Int.mul_neg, Int.mul_add, ← Int.mul_assoc, Int.mul_comm b 2, Int.mul_assoc]
          omega
/-- how the wall of the kind s at home lies to the wall (v, t) -/
theorem b_pos (ok : CrOk f) (ht : t ∈ ls) {v : List Nat} (st : Strt f t v) (hm : ∀ y ∈ v, y ∈ ls) (hs : s ∈ ls) (hd : desc f s v) : 0 < act f v (bt f t) s := by
  obtain ⟨p, q, rfl, hp⟩ := desc_split hd
  have su := st.out ok hp
  have nds : ¬ desc f s (p ++ q) := by
    rw [desc_pass ok hp]
    exact (Red_right st.red).1
  have eu : ∀ g, act f (p ++ s :: q) g = thr f s (act f (p ++ q) g) := fun g => by
    rw [act_app, act_app]
    show act f p (thr f s (act f q g)) = _
    rw [act_comm ok hp]
  have i1 := (bsign ok ht _ (p ++ q) rfl su fun y hy => hm y ((List.mem_append.mp hy).elim (fun z => List.mem_append_left _ z) fun z => List.mem_append_right _ (List.mem_cons_of_mem _ z))).1 s hs nds
  have := neg_start ok st hp i1
  rw [eu, thr_self]
  omega
theorem b_zero (ok : CrOk f) (ht : t ∈ ls) {v : List Nat} (st : Strt f t v) (hm : ∀ y ∈ v, y ∈ ls) (hs : s ∈ ls) (ex : ¬ (v = [] ∧ s = t)) : act f v (bt f t) s = 0 ↔ (∀ y ∈ v, y ∈ f s) ∧ t ∈ f s := by
  constructor
  · intro h
    by_cases hd : desc f s v
    · have := b_pos ok ht st hm hs hd
      omega
    · exact ((bsign ok ht _ v rfl st hm).1 s hs hd ex).2 h
  · rintro ⟨h1, h2⟩
    have := mark_along (f := f) (s := s) (g := bt f t) (v := []) ok h1
    rw [List.append_nil] at this
    rw [this]
    exact bt_in ok (ok.sym _ _ h2)
end
end Cw
set_option Elab.async false
set_option linter.all false
set_option maxRecDepth 100000
set_option maxHeartbeats 4000000
/-! how two walls lie, by the product of their marks -/
namespace Cw
section
variable {f : Nat → List Nat} {ls : List Nat} {s t c : Nat}
theorem near_split (ok : CrOk f) {u : List Nat} (hd : desc f t u.reverse) : (∀ g, act f u g = act f (nearC f u t ++ [t]) g) ∧ (nearC f u t).length + 1 = u.length := by
  unfold nearC
  rw [if_pos hd]
  refine ⟨fun g => ?_, (step_len_desc ok u t).1 hd⟩
  rw [act_app, act_step ok, act_app]
  show act f u g = act f u (thr f t (thr f t g))
  rw [thr_thr ok]
theorem near_same {u : List Nat} (hd : ¬ desc f t u.reverse) : nearC f u t = u := by
  unfold nearC
  rw [if_neg hd]
theorem start_split (ok : CrOk f) (u : List Nat) (t : Nat) : ∃ y, (∀ z ∈ y, z ∈ f t) ∧ (∀ z ∈ y, z ∈ nearC f u t) ∧ (∀ g, act f (nearC f u t) g = act f (startC f u t ++ y) g) ∧ (startC f u t).length + y.length = (nearC f u t).length := by
  refine ⟨(splitA f (f t) (nearC f u t).reverse).1.reverse, fun z hz => splitA_in f _ _ z (List.mem_reverse.mp hz), fun z hz => List.mem_reverse.mp (splitA_mem1 f _ _ z (List.mem_reverse.mp hz)), fun g => ?_, ?_⟩
  · have h := act_rev_eq ok (fun g => splitA_act ok g (nearC f u t).reverse (f t)) g
    rw [List.reverse_append, List.reverse_reverse] at h
    exact h.symm
  · have h := splitA_len f (nearC f u t).reverse (f t)
    unfold startC
    rw [List.length_reverse] at *
    rw [List.length_reverse]
    omega
theorem red_cat (ok : CrOk f) {u w : List Nat} (hu : NF f u) (e : ∀ g, act f u g = act f w g) (l : w.length = u.length) : Red f w := by
  refine red_of_len ok ?_
  have e1 : nameOf f w = nameOf f u := (name_eq ok e).symm
  have e2 : nameOf f u = u := (is_NF ok).mpr hu
  rw [e1, e2, l]
theorem desc_act (ok : CrOk f) {u w : List Nat} (ru : Red f u) (rw' : Red f w) (mu : ∀ y ∈ u, y ∈ ls) (mw : ∀ y ∈ w, y ∈ ls) (hs : s ∈ ls) (e : ∀ g, act f u g = act f w g) : desc f s u ↔ desc f s w := by
  rw [← ng_desc ok ru mu hs, ← ng_desc ok rw' mw hs]
  exact ng_act e s
theorem Strt.of (ok : CrOk f) {u : List Nat} (hu : NF f u) (t : Nat) : Strt f t (startC f u t) := ⟨(start_NF ok hu t).red, start_not ok hu t, start_free ok u t⟩
theorem st_mem {u : List Nat} (mu : ∀ y ∈ u, y ∈ ls) (ht : t ∈ ls) : ∀ y ∈ startC f u t, y ∈ ls := fun y hy => (start_mem hy).elim (fun z => z ▸ ht) (mu y)
theorem nr_mem {u : List Nat} (mu : ∀ y ∈ u, y ∈ ls) (ht : t ∈ ls) : ∀ y ∈ nearC f u t, y ∈ ls := fun y hy => (near_mem hy).elim (fun z => z ▸ ht) (mu y)
/-- what begins the way to the wall begins the way to each of its doors -/
theorem desc_start (ok : CrOk f) {u : List Nat} (hu : NF f u) (mu : ∀ y ∈ u, y ∈ ls) (hs : s ∈ ls) (ht : t ∈ ls) (h : desc f s (startC f u t)) : desc f s u := by
  obtain ⟨y, y1, y2, ey, ly⟩ := start_split ok u t
  have my : ∀ z ∈ startC f u t ++ y, z ∈ ls := fun z hz => (List.mem_append.mp hz).elim (st_mem mu ht z) fun w => nr_mem mu ht z (y2 z w)
  have nn := near_NF ok hu t
  have r1 : Red f (startC f u t ++ y) := red_cat ok nn ey (by rw [List.length_append, ly])
  have d1 : desc f s (nearC f u t) := (desc_act ok nn.red r1 (nr_mem mu ht) my hs ey).mpr (desc_left h)
  by_cases hd : desc f t u.reverse
  · obtain ⟨e2, l2⟩ := near_split ok hd
    have r2 : Red f (nearC f u t ++ [t]) := red_cat ok hu e2 (by rw [List.length_append, List.length_singleton, l2])
    exact (desc_act ok hu.red r2 mu (fun z hz => (List.mem_append.mp hz).elim (nr_mem mu ht z) fun w => by rw [List.mem_singleton.mp w]; exact ht) hs e2).mpr (desc_left d1)
  · rw [near_same hd] at d1
    exact d1
theorem act_zero (ok : CrOk f) {g : Nat → Int} {E : List Nat} (hg : ∀ e ∈ E, g e = 0) : ∀ {w : List Nat} {c : Nat}, (∀ y ∈ w, y ∈ E) → c ∈ E → act f w g c = 0
  | [], c, _, hc => hg c hc
  | d :: r, c, hw, hc => by
    have hr : ∀ y ∈ r, y ∈ E := fun y hy => hw y (List.mem_cons_of_mem _ hy)
    have h1 := act_zero ok hg hr hc
    have h2 := act_zero ok hg hr (hw d (List.mem_cons_self ..))
    show thr f d (act f r g) c = 0
    unfold thr
    rw [h1, h2]
    split
    · rfl
    · split <;> rfl
theorem b_eq (hn : ls.Nodup) (ok : CrOk f) {u : List Nat} (mu : ∀ y ∈ u, y ∈ ls) (hs : s ∈ ls) (ht : t ∈ ls) : act f u (bt f t) s = if desc f t u.reverse then - act f (startC f u t) (bt f t) s else act f (startC f u t) (bt f t) s := by
  rw [← psi_act hn ok ht mu hs, ← psi_act hn ok ht (st_mem mu ht) hs]
  have e : ∀ y, mark f (startC f u t).reverse t y = if desc f t u.reverse then - mark f u.reverse t y else mark f u.reverse t y := fun y => by
    unfold mark
    rw [start_mark ok, near_mark ok]
  by_cases hd : desc f t u.reverse
  · rw [if_pos hd]
    have e2 : sumL ls (fun y => mark f (startC f u t).reverse t y * bt f y s) = sumL ls fun y => (-1) * (mark f u.reverse t y * bt f y s) + 0 * 0 := sumL_congr fun y _ => by
      rw [e, if_pos hd, Int.neg_mul]
      omega
    rw [e2, sumL_comb (-1) 0 (fun y => mark f u.reverse t y * bt f y s) (fun _ => 0)]
    omega
  · rw [if_neg hd]
    exact sumL_congr fun y _ => by rw [e, if_neg hd]
theorem NF.pre {w : List Nat} (n : Nat) (h : NF f w) : NF f (w.take n) := by
  unfold NF at h ⊢
  rw [← List.take_append_drop n w, List.reverse_append] at h
  exact NFr_right h
/-! ### two walls -/
structure W2 (f : Nat → List Nat) (ls : List Nat) (m : List Nat) (s : Nat) (n : List Nat) (t : Nat) : Prop where
  nd : ls.Nodup
  ok : CrOk f
  hs : s ∈ ls
  ht : t ∈ ls
  m1 : NF f m
  n1 : NF f n
  mm : ∀ y ∈ m, y ∈ ls
  mn : ∀ y ∈ n, y ∈ ls
  sm : Strt f s m
  sn : Strt f t n
section
variable {m n : List Nat}
theorem W2.symm (h : W2 f ls m s n t) : W2 f ls n t m s := ⟨h.nd, h.ok, h.ht, h.hs, h.n1, h.m1, h.mn, h.mm, h.sn, h.sm⟩
theorem W2.same (h : W2 f ls m s n t) : (∀ x ∈ ls, mark f m.reverse s x = mark f n.reverse t x) ↔ s = t ∧ m = n := by
  constructor
  · intro e
    have ek : s = t := root_kind h.hs e
    subst ek
    exact ⟨rfl, wall_uniq h.nd h.ok h.hs h.m1 h.n1 h.mm h.mn h.sm.fr h.sn.fr e⟩
  · rintro ⟨rfl, rfl⟩ x _
    rfl
theorem W2.mu (h : W2 f ls m s n t) : ∀ y ∈ wayC f m n, y ∈ ls := fun y hy => by
  rcases List.mem_append.mp (name_mem hy) with z | z
  · exact h.mm y (List.mem_reverse.mp z)
  · exact h.mn y z
/-- the product of the marks -/
theorem W2.prod (h : W2 f ls m s n t) : prodV f ls (mark f m.reverse s) (mark f n.reverse t) = act f (wayC f m n) (bt f t) s := by
  rw [prod_act h.nd h.ok h.mm h.mn h.hs h.ht]
  unfold wayC
  rw [name_act h.ok]
theorem W2.npos (h : W2 f ls m s n t) : Pos ls (mark f n.reverse t) := mark_nn h.ok h.n1.red.rev (fun y hy => h.mn y (List.mem_reverse.mp hy)) h.ht h.sn.td
theorem W2.mpos (h : W2 f ls m s n t) : Pos ls (mark f m.reverse s) := h.symm.npos
theorem W2.goes (h : W2 f ls m s n t) (g : Nat → Int) : act f n.reverse g = act f (wayC f m n).reverse (act f m.reverse g) := by
  have e := way_goes h.ok m n
  have e1 : nameOf f n = n := (is_NF h.ok).mpr h.n1
  rw [e1] at e
  rw [← act_app, ← List.reverse_append, ← act_of_name h.ok (m ++ wayC f m n), e]
theorem W2.uNF (h : W2 f ls m s n t) : NF f (wayC f m n) := name_NF h.ok _
theorem W2.vmark (h : W2 f ls m s n t) (g : Nat → Int) : act f (startC f (wayC f m n) t).reverse g t = if desc f t (wayC f m n).reverse then - act f (wayC f m n).reverse g t else act f (wayC f m n).reverse g t := by rw [start_mark h.ok, near_mark h.ok]
theorem W2.exc (h : W2 f ls m s n t) (ns : ¬ (s = t ∧ m = n)) : ¬ (startC f (wayC f m n) t = [] ∧ s = t) := by
  rintro ⟨e1, rfl⟩
  apply ns
  refine (h.same).mp fun x hx => ?_
  have hv := h.vmark (act f m.reverse (unit x))
  rw [e1, ← h.goes] at hv
  have hv : act f m.reverse (unit x) s = if desc f s (wayC f m n).reverse then - act f n.reverse (unit x) s else act f n.reverse (unit x) s := hv
  by_cases d : desc f s (wayC f m n).reverse
  · exfalso
    obtain ⟨y, hy, p1⟩ := h.npos.2
    have hw := h.vmark (act f m.reverse (unit y))
    rw [e1, ← h.goes, if_pos d] at hw
    have hw : act f m.reverse (unit y) s = - act f n.reverse (unit y) s := hw
    have p2 := h.mpos.1 y hy
    have p1 : 0 < act f n.reverse (unit y) s := p1
    have p2 : 0 ≤ act f m.reverse (unit y) s := p2
    omega
  · rw [if_neg d] at hv
    exact hv
theorem W2.vst (h : W2 f ls m s n t) : Strt f t (startC f (wayC f m n) t) := Strt.of h.ok h.uNF t
/-- the way on from the wall to its door -/
theorem W2.tail (h : W2 f ls m s n t) : ∃ y, (∀ z ∈ y, z ∈ f t ∨ z = t) ∧ (∀ p c q, y = p ++ c :: q → ∀ z ∈ p, z ∈ f t) ∧ (∀ z ∈ y, z ∈ ls) ∧ ∀ g, act f (wayC f m n) g = act f (startC f (wayC f m n) t ++ y) g := by
  obtain ⟨y, y1, y2, ey, ly⟩ := start_split h.ok (wayC f m n) t
  have my : ∀ z ∈ y, z ∈ ls := fun z hz => nr_mem h.mu h.ht z (y2 z hz)
  by_cases hd : desc f t (wayC f m n).reverse
  · obtain ⟨e2, _⟩ := near_split h.ok hd
    refine ⟨y ++ [t], fun z hz => (List.mem_append.mp hz).elim (fun w => .inl (y1 z w)) fun w => .inr (List.mem_singleton.mp w), fun p c q e z hz => ?_, fun z hz => (List.mem_append.mp hz).elim (my z) fun w => by rw [List.mem_singleton.mp w]; exact h.ht, fun g => ?_⟩
    · have hl := congrArg List.length e
      simp only [List.length_append, List.length_cons, List.length_nil] at hl
      have hp : p = (y ++ [t]).take p.length := by rw [e]; simp
      rw [List.take_append_of_le_length (by omega)] at hp
      exact y1 z (List.mem_of_mem_take (by rw [← hp]; exact hz))
    · rw [e2, act_app, ey, ← act_app, List.append_assoc]
  · refine ⟨y, fun z hz => .inl (y1 z hz), fun p c q e z hz => y1 z (by rw [e]; exact List.mem_append_left _ hz), my, fun g => ?_⟩
    rw [← ey, near_same hd]
theorem W2.zero (h : W2 f ls m s n t) (ns : ¬ (s = t ∧ m = n)) : act f (wayC f m n) (bt f t) s = 0 ↔ (∀ y ∈ startC f (wayC f m n) t, y ∈ f s) ∧ t ∈ f s := by
  rw [← b_zero h.ok h.ht h.vst (st_mem h.mu h.ht) h.hs (h.exc ns), b_eq h.nd h.ok h.mu h.hs h.ht]
  split <;> omega
theorem W2.one (h : W2 f ls m s n t) (hs : s = t ∧ m = n) : act f (wayC f m n) (bt f t) s = 1 := by
  obtain ⟨rfl, rfl⟩ := hs
  rw [way_self h.ok]
  exact bt_self
/-- whether they cross, as the program finds it -/
theorem W2.crosses (h : W2 f ls m s n t) : act f (wayC f m n) (bt f t) s = 0 ↔ t ∈ f s ∧ startC f (nameOf f (m ++ (splitA f (f s) (wayC f m n)).1)) t = n := by
  have ok := h.ok
  have al1 := splitA_in f (wayC f m n) (f s)
  have al2 := splitA_mem1 f (wayC f m n) (f s)
  have ra := fun g => splitA_act ok g (wayC f m n) (f s)
  have rl := splitA_len f (wayC f m n) (f s)
  have rd := splitA_desc ok (wayC f m n) (f s)
  have rm := splitA_mem2 f (wayC f m n) (f s)
  generalize (splitA f (f s) (wayC f m n)).1 = al at al1 al2 ra rl
  generalize (splitA f (f s) (wayC f m n)).2 = rs at ra rl rd rm
  have mal : ∀ y ∈ al, y ∈ ls := fun y hy => h.mu y (al2 y hy)
  have mrs : ∀ y ∈ rs, y ∈ ls := fun y hy => h.mu y (rm y hy)
  have mma : ∀ y ∈ m ++ al, y ∈ ls := fun y hy => (List.mem_append.mp hy).elim (h.mm y) (mal y)
  have mnm : ∀ y ∈ nameOf f (m ++ al), y ∈ ls := fun y hy => mma y (name_mem hy)
  have sg : ∀ g, act f (startC f (nameOf f (m ++ al)) t).reverse g t = if desc f t (nameOf f (m ++ al)).reverse then - act f (m ++ al).reverse g t else act f (m ++ al).reverse g t := fun g => by rw [start_mark ok, near_mark ok, act_of_name ok]
  constructor
  · intro hz
    have ns : ¬ (s = t ∧ m = n) := fun z => by rw [h.one z] at hz; omega
    obtain ⟨hv, hts⟩ := (h.zero ns).mp hz
    refine ⟨hts, ?_⟩
    -- the rest leaves the mark of t but for the sign
    have rr : Red f rs := Red_right (red_cat ok h.uNF (fun g => (ra g).symm) (by rw [List.length_append, rl]))
    have nrs : NF f (nameOf f rs) := name_NF ok rs
    have mnr : ∀ y ∈ nameOf f rs, y ∈ ls := fun y hy => mrs y (name_mem hy)
    have s2 : ∀ g, act f (startC f (nameOf f rs) t).reverse g t = if desc f t (nameOf f rs).reverse then - act f rs.reverse g t else act f rs.reverse g t := fun g => by rw [start_mark ok, near_mark ok, act_of_name ok]
    have back : ∀ g, act f rs.reverse g t = act f (wayC f m n).reverse (act f al g) t := fun g => by
      have := act_rev_eq ok ra (act f al g)
      rw [List.reverse_append, act_app, act_rev ok] at this
      rw [this]
    have v2 : startC f (nameOf f rs) t = [] := by
      have st2 := Strt.of ok nrs t
      have m2 := st_mem (f := f) (t := t) mnr h.ht
      cases e : startC f (nameOf f rs) t with
      | nil => rfl
      | cons c v' =>
        exfalso
        rw [e] at st2 m2
        have hcl : c ∈ ls := m2 c (List.mem_cons_self ..)
        have hcs : ¬ c ∈ f s := fun z => by
          have d1 : desc f c (nameOf f rs) := desc_start ok nrs mnr hcl h.ht (by rw [e]; exact .inl rfl)
          exact rd c z ((ng_desc ok rr mrs hcl).mp ((ng_name ok rs c).mp ((ng_desc ok nrs.red mnr hcl).mpr d1)))
        have hct : c ≠ t := fun z => hcs (z ▸ hts)
        -- its coordinate c is nought
        have z1 : act f rs.reverse (unit c) t = 0 := by
          have e3 := h.vmark (act f al (unit c))
          have e4 : act f (startC f (wayC f m n) t).reverse (act f al (unit c)) t = 0 := by
            rw [← act_app]
            refine mark_zero ok (x := c) (w := (startC f (wayC f m n) t).reverse ++ al) (s := t) (fun z => ?_) hct
            rcases List.mem_append.mp z with z | z
            · exact hcs (hv c (List.mem_reverse.mp z))
            · exact hcs (al1 c z)
          rw [e4] at e3
          rw [back]
          split at e3 <;> omega
        have z2 : mark f (c :: v').reverse t c = 0 := by
          have := s2 (unit c)
          rw [e, z1] at this
          show act f (c :: v').reverse (unit c) t = 0
          rw [this]
          split <;> rfl
        -- but it is not
        have hl := bsign ok h.ht _ v' rfl st2.tail fun y hy => m2 y (List.mem_cons_of_mem _ hy)
        have nc := neg_start (p := []) (q := v') ok st2 (fun _ z => (nomatch z)) (hl.1 c hcl st2.red.1)
        have nc : act f v' (bt f t) c ≤ -1 := nc
        have mv' : ∀ y ∈ v', y ∈ ls := fun y hy => m2 y (List.mem_cons_of_mem _ hy)
        have p1 := (mark_nn ok st2.tail.red.rev (fun y hy => mv' y (List.mem_reverse.mp hy)) h.ht st2.tail.td).1 c hcl
        have k1 := mark_head h.nd ok h.ht mv' hcl
        omega
    have sR : (∀ g, act f rs.reverse g t = g t) ∨ (∀ g, act f rs.reverse g t = - g t) := by
      by_cases d : desc f t (nameOf f rs).reverse
      · right
        intro g
        have := s2 g
        rw [v2, if_pos d] at this
        have this : g t = - act f rs.reverse g t := this
        omega
      · left
        intro g
        have := s2 g
        rw [v2, if_neg d] at this
        have this : g t = act f rs.reverse g t := this
        omega
    have eU : ∀ g, act f (wayC f m n).reverse g t = act f rs.reverse (act f al.reverse g) t := fun g => by
      have := act_rev_eq ok ra g
      rw [← this, List.reverse_append, act_app]
    have eN : (∀ g, act f n.reverse g t = act f (m ++ al).reverse g t) ∨ (∀ g, act f n.reverse g t = - act f (m ++ al).reverse g t) := by
      rcases sR with sR | sR
      · left
        intro g
        rw [h.goes, eU, sR, List.reverse_append, act_app]
      · right
        intro g
        rw [h.goes, eU, sR, List.reverse_append, act_app]
    refine wall_uniq h.nd ok h.ht (start_NF ok (name_NF ok _) t) h.n1 (st_mem mnm h.ht) h.mn (start_free ok _ t) h.sn.fr fun x hx => ?_
    have p1 := mark_nn (ls := ls) ok (start_NF ok (name_NF ok (m ++ al)) t).red.rev (fun y hy => st_mem mnm h.ht y (List.mem_reverse.mp hy)) h.ht (start_not ok (name_NF ok _) t)
    have p2 := h.npos
    have key : (∀ g, act f (startC f (nameOf f (m ++ al)) t).reverse g t = act f n.reverse g t) ∨ (∀ g, act f (startC f (nameOf f (m ++ al)) t).reverse g t = - act f n.reverse g t) := by
      by_cases d : desc f t (nameOf f (m ++ al)).reverse
      · rcases eN with eN | eN
        · right
          intro g
          rw [sg, if_pos d, eN]
        · left
          intro g
          rw [sg, if_pos d, eN]
      · rcases eN with eN | eN
        · left
          intro g
          rw [sg, if_neg d, eN]
        · right
          intro g
          rw [sg, if_neg d, eN]
          omega
    rcases key with key | key
    · exact key (unit x)
    · exfalso
      obtain ⟨z, hz', w⟩ := p2.2
      have w : 0 < act f n.reverse (unit z) t := w
      have w2 : 0 ≤ act f (startC f (nameOf f (m ++ al)) t).reverse (unit z) t := p1.1 z hz'
      rw [key] at w2
      omega
  · rintro ⟨hts, e⟩
    rw [← h.prod]
    have e1 : ∀ y, mark f n.reverse t y = if desc f t (nameOf f (m ++ al)).reverse then - mark f (m ++ al).reverse t y else mark f (m ++ al).reverse t y := fun y => by
      have := sg (unit y)
      rw [e] at this
      exact this
    have e2 : prodV f ls (mark f m.reverse s) (mark f (m ++ al).reverse t) = 0 := by
      rw [prod_act h.nd ok h.mm mma h.hs h.ht, ← List.append_assoc, act_app, act_app, act_rev ok]
      have := mark_along (f := f) (s := s) (g := bt f t) (v := []) ok al1
      rw [List.append_nil] at this
      rw [this]
      exact bt_in ok (ok.sym _ _ hts)
    unfold prodV at e2 ⊢
    by_cases d : desc f t (nameOf f (m ++ al)).reverse
    · have e3 : sumL ls (fun x => mark f m.reverse s x * sumL ls fun y => mark f n.reverse t y * bt f y x) = sumL ls fun x => (-1) * (mark f m.reverse s x * sumL ls fun y => mark f (m ++ al).reverse t y * bt f y x) + 0 * 0 := sumL_congr fun x _ => by
        have e4 : sumL ls (fun y => mark f n.reverse t y * bt f y x) = sumL ls fun y => (-1) * (mark f (m ++ al).reverse t y * bt f y x) + 0 * 0 := sumL_congr fun y _ => by
          rw [e1, if_pos d, Int.neg_mul]
          omega
        rw [e4, sumL_comb (-1) 0 (fun y => mark f (m ++ al).reverse t y * bt f y x) (fun _ => 0), Int.mul_add, ← Int.mul_assoc, Int.mul_comm _ (-1), Int.mul_assoc]
        omega
      rw [e3, sumL_comb (-1) 0 _ (fun _ => 0), e2]
      omega
    · have e3 : sumL ls (fun x => mark f m.reverse s x * sumL ls fun y => mark f n.reverse t y * bt f y x) = sumL ls fun x => mark f m.reverse s x * sumL ls fun y => mark f (m ++ al).reverse t y * bt f y x := sumL_congr fun x _ => by
        rw [sumL_congr (u := fun y => mark f n.reverse t y * bt f y x) (v := fun y => mark f (m ++ al).reverse t y * bt f y x) fun y _ => by rw [e1, if_neg d]]
      rw [e3, e2]
end
end
end Cw
set_option Elab.async false
set_option linter.all false
set_option maxRecDepth 100000
set_option maxHeartbeats 4000000
/-! the five words of how two walls lie -/
namespace Cw
theorem sumL_zero : ∀ ls : List Nat, sumL ls (fun _ => 0) = 0
  | [] => rfl
  | _ :: r => by
    show 0 + sumL r _ = 0
    rw [sumL_zero r]
    rfl
theorem sumL_add (u v : Nat → Int) (ls : List Nat) : sumL ls (fun x => u x + v x) = sumL ls u + sumL ls v := by
  have := sumL_comb 1 1 u v ls
  rw [← sumL_congr (u := fun x => 1 * u x + 1 * v x) (v := fun x => u x + v x) fun x _ => by omega, this]
  omega
theorem sumL_swap (F : Nat → Nat → Int) : ∀ (ls ks : List Nat), sumL ls (fun x => sumL ks fun y => F x y) = sumL ks fun y => sumL ls fun x => F x y
  | [], ks => (sumL_zero ks).symm
  | x :: r, ks => by
    show sumL ks (fun y => F x y) + sumL r _ = sumL ks fun y => F x y + sumL r fun x => F x y
    rw [sumL_add, sumL_swap F r ks]
theorem sumL_mul (k : Int) (u : Nat → Int) (ls : List Nat) : sumL ls (fun x => k * u x) = k * sumL ls u := by
  have := sumL_comb k 0 u (fun _ => 0) ls
  rw [← sumL_congr (u := fun x => k * u x + 0 * 0) (v := fun x => k * u x) fun x _ => by omega, this]
  omega
section
variable {f : Nat → List Nat} {ls : List Nat} {s t c : Nat} {m n : List Nat}
theorem prod_comm (ok : CrOk f) (a b : Nat → Int) : prodV f ls a b = prodV f ls b a := by
  unfold prodV
  have e1 : sumL ls (fun x => a x * sumL ls fun y => b y * bt f y x) = sumL ls fun x => sumL ls fun y => a x * (b y * bt f y x) := sumL_congr fun x _ => (sumL_mul _ _ _).symm
  have e2 : sumL ls (fun x => b x * sumL ls fun y => a y * bt f y x) = sumL ls fun x => sumL ls fun y => b x * (a y * bt f y x) := sumL_congr fun x _ => (sumL_mul _ _ _).symm
  rw [e1, e2, sumL_swap]
  exact sumL_congr fun y _ => sumL_congr fun x _ => by
    rw [bt_sym ok, ← Int.mul_assoc, ← Int.mul_assoc, Int.mul_comm (a x)]
theorem W2.pcomm (h : W2 f ls m s n t) : act f (wayC f n m) (bt f s) t = act f (wayC f m n) (bt f t) s := by
  rw [← h.prod, ← h.symm.prod, prod_comm h.ok]
/-- the rooms just beyond the first wall lie to the second wall as its own room -/
theorem W2.over (h : W2 f ls m s n t) (ns : ¬ (s = t ∧ m = n)) (h0 : act f (wayC f m n) (bt f t) s ≠ 0) {y : List Nat} (hy : ∀ z ∈ y, z ∈ f s) (my : ∀ z ∈ y, z ∈ ls) : Ng f ls (n.reverse ++ m ++ (y ++ [s])) t ↔ Ng f ls (n.reverse ++ m) t := by
  have ok := h.ok
  apply Classical.byContradiction
  intro w
  have mz : ∀ z ∈ n.reverse ++ m, z ∈ ls := fun z hz => (List.mem_append.mp hz).elim (fun q => h.mn z (List.mem_reverse.mp q)) (h.mm z)
  have mys : ∀ z ∈ y ++ [s], z ∈ ls := fun z hz => (List.mem_append.mp hz).elim (my z) fun q => by rw [List.mem_singleton.mp q]; exact h.hs
  obtain ⟨p, c, q, e, hg⟩ := turn_door h.nd ok mz h.ht (y ++ [s]) mys fun z => w z.symm
  have hl := congrArg List.length e
  simp only [List.length_append, List.length_cons, List.length_nil] at hl
  have hpy : ∀ z ∈ p, z ∈ f s := fun z hz => by
    have hp : p = (y ++ [s]).take p.length := by rw [e]; simp
    rw [List.take_append_of_le_length (by omega)] at hp
    exact hy z (List.mem_of_mem_take (by rw [← hp]; exact hz))
  have hpr : ∀ z ∈ p.reverse, z ∈ f s := fun z hz => hpy z (List.mem_reverse.mp hz)
  have ez : ∀ g, act f (n.reverse ++ m) g t = act f (n.reverse ++ m ++ p) (act f p.reverse g) t := fun g => by rw [act_app (n.reverse ++ m) p, act_rev' ok]
  have eP : act f (n.reverse ++ m) (bt f s) t = act f (wayC f m n) (bt f t) s := by
    rw [← h.pcomm]
    unfold wayC
    rw [name_act ok]
  have hc : c ∈ y ++ [s] := by rw [e]; exact List.mem_append_right _ (List.mem_cons_self ..)
  rcases List.mem_append.mp hc with hc | hc
  · have e0 : act f p.reverse (bt f s) c = 0 := act_zero ok (E := f s) (fun e he => bt_in ok he) hpr (hy c hc)
    apply h0
    rw [← eP, ez]
    rcases hg with hg | hg <;> rw [hg, e0]
    rfl
  · obtain rfl : c = s := List.mem_singleton.mp hc
    have ea : ∀ g, act f p.reverse g c = g c := fun g => by
      have := mark_along (f := f) (s := c) (g := g) (v := []) ok hpr
      rw [List.append_nil] at this
      exact this
    have eN : ∀ g, act f n.reverse g t = act f (n.reverse ++ m) (act f m.reverse g) t := fun g => by rw [act_app, act_rev' ok]
    rcases hg with hg | hg
    · apply ns
      refine h.same.mp fun x _ => ?_
      show act f m.reverse (unit x) c = act f n.reverse (unit x) t
      rw [eN, ez, hg, ea]
    · obtain ⟨x, hx, p1⟩ := h.npos.2
      have p1 : 0 < act f n.reverse (unit x) t := p1
      have p2 : 0 ≤ act f m.reverse (unit x) c := h.mpos.1 x hx
      rw [eN, ez, hg, ea] at p1
      omega
end
/-! ### the words -/
def crossP (f : Nat → List Nat) (m : List Nat) (s : Nat) (n : List Nat) (t : Nat) : Prop := t ∈ f s ∧ startC f (nameOf f (m ++ (splitA f (f s) (wayC f m n)).1)) t = n
instance (f : Nat → List Nat) (m : List Nat) (s : Nat) (n : List Nat) (t : Nat) : Decidable (crossP f m s n t) := inferInstanceAs (Decidable (_ ∧ _))
section
variable {f : Nat → List Nat} {ls : List Nat} {s t : Nat} {m n : List Nat}
end
end Cw
set_option Elab.async false
set_option linter.all false
set_option maxRecDepth 100000
set_option maxHeartbeats 4000000
/-! how two walls lie, as the law tells it -/
namespace Cw
section
variable {f : Nat → List Nat} {ls : List Nat} {s t : Nat} {w v : List Nat}
theorem W2.of (hn : ls.Nodup) (ok : CrOk f) (hs : s ∈ ls) (ht : t ∈ ls) (hw : ∀ y ∈ w, y ∈ ls) (hv : ∀ y ∈ v, y ∈ ls) : W2 f ls (startC f (nameOf f w) s) s (startC f (nameOf f v) t) t where
  nd := hn
  ok := ok
  hs := hs
  ht := ht
  m1 := start_NF ok (name_NF ok w) s
  n1 := start_NF ok (name_NF ok v) t
  mm := st_mem (fun y hy => hw y (name_mem hy)) hs
  mn := st_mem (fun y hy => hv y (name_mem hy)) ht
  sm := Strt.of ok (name_NF ok w) s
  sn := Strt.of ok (name_NF ok v) t
end
end Cw
set_option Elab.async false
set_option linter.all false
set_option maxRecDepth 100000
set_option maxHeartbeats 4000000
/-! when two half floors meet -/
namespace Cw
section
variable {f : Nat → List Nat} {ls : List Nat} {s t c : Nat} {m n : List Nat}
/-- the room at the end of w is beyond the wall -/
def Bz (f : Nat → List Nat) (ls m : List Nat) (s : Nat) (w : List Nat) : Prop := Ng f ls (m.reverse ++ w) s
/-- the door s of the room at the end of r lies in the wall -/
def Tch (f : Nat → List Nat) (m : List Nat) (s : Nat) (r : List Nat) : Prop := (∀ g, act f (m.reverse ++ r) g s = g s) ∨ ∀ g, act f (m.reverse ++ r) g s = - g s
theorem cat_mem {a b : List Nat} (ha : ∀ y ∈ a, y ∈ ls) (hb : ∀ y ∈ b, y ∈ ls) : ∀ y ∈ a ++ b, y ∈ ls := fun y hy => (List.mem_append.mp hy).elim (ha y) (hb y)
theorem rv_mem {a : List Nat} (ha : ∀ y ∈ a, y ∈ ls) : ∀ y ∈ a.reverse, y ∈ ls := fun y hy => ha y (List.mem_reverse.mp hy)
theorem bz_act {w v : List Nat} (h : ∀ g, act f w g = act f v g) : Bz f ls m s w ↔ Bz f ls m s v := ng_act (fun g => by rw [act_app, act_app, h]) s
theorem ng_same {v w : List Nat} (h : ∀ g, act f v g s = act f w g t) : Ng f ls v s ↔ Ng f ls w t := by
  unfold Ng mark
  simp only [h]
theorem ng_turn (ok : CrOk f) {v w : List Nat} (hw : ∀ y ∈ w, y ∈ ls) (ht : t ∈ ls) (h : ∀ g, act f v g s = - act f w g t) : Ng f ls v s ↔ ¬ Ng f ls w t := by
  rw [not_ng ok hw ht]
  unfold Ng mark
  simp only [h]
  constructor
  · rintro ⟨x, hx, z⟩
    rcases sign_def ok hw ht with p | ⟨p, _⟩
    · exact p
    · have := p x hx
      unfold mark at this
      omega
  · rintro ⟨_, x, hx, z⟩
    refine ⟨x, hx, ?_⟩
    have z : 0 < act f w (unit x) t := z
    omega
/-- a door that leads through the wall -/
theorem door_tch (hn : ls.Nodup) (ok : CrOk f) (hm : ∀ y ∈ m, y ∈ ls) {w : List Nat} (hw : ∀ y ∈ w, y ∈ ls) (hs : s ∈ ls) (hc : c ∈ ls) (h : ¬ (Bz f ls m s w ↔ Bz f ls m s (w ++ [c]))) : c = s ∧ Tch f m s w := by
  have hz := cat_mem (rv_mem hm) hw
  obtain ⟨p, c', q, e, hg⟩ := turn_door hn ok hz hs [c] (fun y hy => by rw [List.mem_singleton.mp hy]; exact hc) (by rw [List.append_assoc]; exact h)
  have ep : p = [] ∧ c' = c := by
    cases p with
    | nil =>
      injection e with e _
      exact ⟨rfl, e.symm⟩
    | cons a r =>
      injection e with _ e
      cases r <;> cases e
  obtain ⟨rfl, rfl⟩ := ep
  rw [List.append_nil] at hg
  have ek : s = c' := by
    rcases hg with hg | hg
    · exact root_kind (v := m.reverse ++ w) (w := []) hs fun x _ => hg (unit x)
    · refine root_kind (f := f) (v := (m.reverse ++ w) ++ [c']) (w := []) hs fun x _ => ?_
      rw [act_app, hg]
      show - thr f c' (unit x) c' = unit x c'
      rw [thr_self]
      omega
  subst ek
  exact ⟨rfl, hg⟩
theorem prodV_mul (k j : Int) (a b : Nat → Int) : prodV f ls (fun x => k * a x) (fun x => j * b x) = k * j * prodV f ls a b := by
  unfold prodV
  rw [← sumL_mul]
  refine sumL_congr fun x _ => ?_
  have e : (sumL ls fun y => j * b y * bt f y x) = j * sumL ls fun y => b y * bt f y x := by
    rw [← sumL_mul]
    exact sumL_congr fun y _ => Int.mul_assoc ..
  rw [e]
  generalize (sumL ls fun y => b y * bt f y x) = q
  rw [Int.mul_assoc, Int.mul_assoc, Int.mul_left_comm (a x)]
theorem prodV_congr {a a' b b' : Nat → Int} (ha : ∀ x ∈ ls, a x = a' x) (hb : ∀ x ∈ ls, b x = b' x) : prodV f ls a b = prodV f ls a' b' := by
  unfold prodV
  refine sumL_congr fun x hx => ?_
  rw [ha x hx]
  congr 1
  exact sumL_congr fun y hy => by rw [hb y hy]
theorem prodV_symm (ok : CrOk f) (a b : Nat → Int) : prodV f ls a b = prodV f ls b a := by
  unfold prodV
  have e1 : ∀ x, a x * (sumL ls fun y => b y * bt f y x) = sumL ls fun y => a x * (b y * bt f y x) := fun x => (sumL_mul _ _ _).symm
  have e2 : ∀ x, b x * (sumL ls fun y => a y * bt f y x) = sumL ls fun y => b x * (a y * bt f y x) := fun x => (sumL_mul _ _ _).symm
  rw [sumL_congr fun x _ => e1 x, sumL_congr fun x _ => e2 x, sumL_swap]
  refine sumL_congr fun y _ => sumL_congr fun x _ => ?_
  rw [bt_sym ok x y, Int.mul_left_comm]
theorem W2.prod0 (h : W2 f ls m s n t) : act f (wayC f m n) (bt f t) s = 0 ↔ act f (wayC f n m) (bt f s) t = 0 := by
  rw [← h.prod, ← h.symm.prod, prodV_symm h.ok]
/-- the way from one room at a wall to another one -/
theorem tch_way (hn : ls.Nodup) (ok : CrOk f) (ht : t ∈ ls) (hnn : ∀ y ∈ n, y ∈ ls) {a b : List Nat} (ma : ∀ y ∈ a, y ∈ ls) (mb : ∀ y ∈ b, y ∈ ls) (ta : Tch f n t a) (tb : Tch f n t b) :
    ∃ y, (∀ z ∈ y, z ∈ ls) ∧ (∀ z ∈ y, z ∈ f t ∨ z = t) ∧ (∀ p c q, y = p ++ c :: q → ∀ z ∈ p, z ∈ f t) ∧ ∀ g, act f y g = act f (a.reverse ++ b) g := by
  have inv : ∀ g, act f (n.reverse ++ a) (act f (a.reverse ++ n) g) = g := fun g => by
    rw [act_app, act_app, act_rev' ok, act_rev ok]
  have mab := cat_mem (rv_mem ma) mb
  have key : (∀ g, act f (a.reverse ++ b) g t = g t) ∨ ∀ g, act f (a.reverse ++ b) g t = - g t := by
    have e : ∀ g, act f (a.reverse ++ b) g t = act f (a.reverse ++ n) (act f (n.reverse ++ b) g) t := fun g => by
      rw [act_app, act_app, act_app, act_rev' ok]
    have ia : (∀ g, act f (a.reverse ++ n) g t = g t) ∨ ∀ g, act f (a.reverse ++ n) g t = - g t := by
      rcases ta with ta | ta
      · refine .inl fun g => ?_
        have := ta (act f (a.reverse ++ n) g)
        rw [inv] at this
        exact this.symm
      · refine .inr fun g => ?_
        have := ta (act f (a.reverse ++ n) g)
        rw [inv] at this
        omega
    rcases ia with ia | ia <;> rcases tb with tb | tb
    · exact .inl fun g => by rw [e, ia, tb]
    · exact .inr fun g => by rw [e, ia, tb]
    · exact .inr fun g => by rw [e, ia, tb]
    · exact .inl fun g => by rw [e, ia, tb]; omega
  rcases key with key | key
  · have mu : ∀ y ∈ nameOf f (a.reverse ++ b), y ∈ ls := fun y hy => mab y (name_mem hy)
    have fx := mark_fix hn ok ht (name_NF ok (a.reverse ++ b)).red mu fun x _ => by
      unfold mark
      rw [name_act ok, key]
    exact ⟨_, mu, fun z hz => .inl (fx z hz), fun p c q e z hz => fx z (by rw [e]; exact List.mem_append_left _ hz), name_act ok _⟩
  · have mab1 : ∀ y ∈ (a.reverse ++ b) ++ [t], y ∈ ls := cat_mem mab fun y hy => by rw [List.mem_singleton.mp hy]; exact ht
    have mu : ∀ y ∈ nameOf f ((a.reverse ++ b) ++ [t]), y ∈ ls := fun y hy => mab1 y (name_mem hy)
    have fx := mark_fix hn ok ht (name_NF ok ((a.reverse ++ b) ++ [t])).red mu fun x _ => by
      unfold mark
      rw [name_act ok, act_app, key]
      show - thr f t (unit x) t = unit x t
      rw [thr_self]
      omega
    refine ⟨nameOf f ((a.reverse ++ b) ++ [t]) ++ [t], cat_mem mu fun y hy => by rw [List.mem_singleton.mp hy]; exact ht, fun z hz => (List.mem_append.mp hz).elim (fun w => .inl (fx z w)) fun w => .inr (List.mem_singleton.mp w), fun p c q e z hz => ?_, fun g => ?_⟩
    · have hl := congrArg List.length e
      simp only [List.length_append, List.length_cons, List.length_nil] at hl
      have hp : p = (nameOf f ((a.reverse ++ b) ++ [t]) ++ [t]).take p.length := by rw [e]; simp
      rw [List.take_append_of_le_length (by omega)] at hp
      exact fx z (List.mem_of_mem_take (by rw [← hp]; exact hz))
    · rw [act_app, name_act ok, act_app]
      show act f (a.reverse ++ b) (thr f t (thr f t g)) = _
      rw [thr_thr ok]
/-- walls that do not cross: the rooms at the one are on one side of the other -/
theorem tch_side (h : W2 f ls m s n t) (ns : ¬ (s = t ∧ m = n)) (h0 : act f (wayC f m n) (bt f t) s ≠ 0) {a b : List Nat} (ma : ∀ y ∈ a, y ∈ ls) (mb : ∀ y ∈ b, y ∈ ls) (ta : Tch f n t a) (tb : Tch f n t b) : Bz f ls m s a ↔ Bz f ls m s b := by
  have ok := h.ok
  obtain ⟨y, y1, y2, y3, y4⟩ := tch_way h.nd ok h.ht h.mn ma mb ta tb
  have hz := cat_mem (rv_mem h.mm) ma
  have eb : Bz f ls m s b ↔ Ng f ls ((m.reverse ++ a) ++ y) s := ng_act (fun g => by rw [act_app, act_app, act_app, y4, act_app, act_rev' ok]) s
  apply Classical.byContradiction
  intro hno
  rw [eb] at hno
  obtain ⟨p, c, q, e, hg⟩ := turn_door h.nd ok hz h.hs y y1 hno
  have hp := y3 p c q e
  have hcy : c ∈ y := by rw [e]; exact List.mem_append_right _ (List.mem_cons_self ..)
  have hc := y1 c hcy
  have mp : ∀ z ∈ p, z ∈ ls := fun z hz => y1 z (by rw [e]; exact List.mem_append_left _ hz)
  have mr := cat_mem ma mp
  have hgt : ∀ g, act f p g t = g t := fun g => by
    have := mark_along (f := f) (s := t) (g := g) (v := []) ok hp
    rw [List.append_nil] at this
    exact this
  obtain ⟨k, hk, ek⟩ : ∃ k : Int, (k = 1 ∨ k = -1) ∧ ∀ x, mark f m.reverse s x = k * mark f (a ++ p).reverse c x := by
    have e1 : ∀ x, mark f m.reverse s x = act f ((m.reverse ++ a) ++ p) (act f (a ++ p).reverse (unit x)) s := fun x => by
      unfold mark
      rw [List.append_assoc, act_app, act_rev' ok]
    rcases hg with hg | hg
    · exact ⟨1, .inl rfl, fun x => by rw [e1, hg, Int.one_mul]; rfl⟩
    · exact ⟨-1, .inr rfl, fun x => by rw [e1, hg, Int.neg_mul, Int.one_mul]; rfl⟩
  obtain ⟨j, hj, ej⟩ : ∃ j : Int, (j = 1 ∨ j = -1) ∧ ∀ x, mark f n.reverse t x = j * mark f (a ++ p).reverse t x := by
    have e1 : ∀ x, mark f n.reverse t x = act f (n.reverse ++ a) (act f p (act f (a ++ p).reverse (unit x))) t := fun x => by
      unfold mark
      rw [← act_app, List.append_assoc, act_app, act_rev' ok]
    rcases ta with ta | ta
    · exact ⟨1, .inl rfl, fun x => by rw [e1, ta, hgt, Int.one_mul]; rfl⟩
    · exact ⟨-1, .inr rfl, fun x => by rw [e1, ta, hgt, Int.neg_mul, Int.one_mul]; rfl⟩
  have pr := h.prod
  rw [prodV_congr (fun x _ => ek x) (fun x _ => ej x), prodV_mul, prod_act h.nd ok mr mr hc h.ht, act_app, act_rev ok] at pr
  rcases y2 c hcy with z | rfl
  · apply h0
    rw [← pr, bt_in ok z, Int.mul_zero]
  · apply ns
    refine h.same.mp fun x hx => ?_
    obtain ⟨p1, x1, hx1, p2⟩ := h.mpos
    obtain ⟨p3, _⟩ := h.npos
    have a1 := ek x1
    have a2 := ej x1
    have a3 := p3 x1 hx1
    rw [ek x, ej x]
    rcases hk with rfl | rfl <;> rcases hj with rfl | rfl
    · rfl
    · omega
    · omega
    · rfl
/-- each room is on the side of the one wall on which the other one is, or the other way about -/
theorem quad (h : W2 f ls m s n t) (ns : ¬ (s = t ∧ m = n)) (h0 : act f (wayC f m n) (bt f t) s ≠ 0) {w1 w2 : List Nat} (m1 : ∀ y ∈ w1, y ∈ ls) (m2 : ∀ y ∈ w2, y ∈ ls) (t1 : Tch f m s w1) (t2 : Tch f n t w2) :
    ∀ (u w : List Nat), (∀ y ∈ u, y ∈ ls) → (∀ y ∈ w, y ∈ ls) → (∀ g, act f (w ++ u) g = act f w2 g) → (Bz f ls m s w ↔ Bz f ls m s w2) ∨ (Bz f ls n t w ↔ Bz f ls n t w1)
  | [], w, _, _, e => .inl (bz_act fun g => by rw [← e, List.append_nil])
  | c :: u, w, hu, hw, e => by
    have hc := hu c (List.mem_cons_self ..)
    by_cases d1 : Bz f ls m s w ↔ Bz f ls m s (w ++ [c])
    · by_cases d2 : Bz f ls n t w ↔ Bz f ls n t (w ++ [c])
      · rw [d1, d2]
        exact quad h ns h0 m1 m2 t1 t2 u (w ++ [c]) (fun y hy => hu y (List.mem_cons_of_mem _ hy)) (cat_mem hw fun y hy => by rw [List.mem_singleton.mp hy]; exact hc) fun g => by rw [List.append_assoc]; exact e g
      · exact .inl (tch_side h ns h0 hw m2 (door_tch h.nd h.ok h.mn hw h.ht hc d2).2 t2)
    · exact .inr (tch_side h.symm (fun z => ns ⟨z.1.symm, z.2.symm⟩) (fun z => h0 (h.prod0.mpr z)) hw m1 (door_tch h.nd h.ok h.mm hw h.hs hc d1).2 t1)
end
end Cw
set_option Elab.async false
set_option linter.all false
set_option maxRecDepth 100000
set_option maxHeartbeats 4000000
/-! the gate of a half floor; when two half floors meet -/
namespace Cw
section
variable {f : Nat → List Nat} {ls : List Nat} {s t c : Nat} {m n x g w : List Nat}
theorem star_row (ok : CrOk f) : ∀ {z : List Nat}, (∀ y ∈ z, y ∈ f t ∨ y = t) → (∀ h, act f z h t = h t) ∨ ∀ h, act f z h t = - h t
  | [], _ => .inl fun _ => rfl
  | c :: z, hz => by
    have ih := star_row ok fun y hy => hz y (List.mem_cons_of_mem _ hy)
    rcases hz c (List.mem_cons_self ..) with hc | rfl
    · have e : ∀ h, act f (c :: z) h t = act f z h t := fun h => by
        show thr f c (act f z h) t = _
        rw [thr_cr ok (ok.sym _ _ hc)]
      rcases ih with ih | ih
      · exact .inl fun h => by rw [e, ih]
      · exact .inr fun h => by rw [e, ih]
    · have e : ∀ h, act f (c :: z) h c = - act f z h c := fun h => by
        show thr f c (act f z h) c = _
        rw [thr_self]
      rcases ih with ih | ih
      · exact .inr fun h => by rw [e, ih]
      · exact .inl fun h => by rw [e, ih, Int.neg_neg]
theorem star_loc (ok : CrOk f) {h h' : Nat → Int} (hh : ∀ e ∈ f t, h e = h' e) : ∀ {z : List Nat}, (∀ y ∈ z, y ∈ f t ∨ y = t) → ∀ e ∈ f t, act f z h e = act f z h' e
  | [], _, e, he => hh e he
  | c :: z, hz, e, he => by
    have ih := star_loc ok hh fun y hy => hz y (List.mem_cons_of_mem _ hy)
    show thr f c (act f z h) e = thr f c (act f z h') e
    unfold thr
    rcases hz c (List.mem_cons_self ..) with hc | rfl
    · rw [ih c hc, ih e he]
    · rw [if_neg (fun q : e = c => ok.irr c (q ▸ he)), if_neg (fun q : e = c => ok.irr c (q ▸ he)), if_pos he, if_pos he, ih e he]
/-- the way to the gate: w, and what was cut away -/
structure GateW (f : Nat → List Nat) (ls n : List Nat) (t : Nat) (x w : List Nat) : Prop where
  mw : ∀ y ∈ w, y ∈ ls
  red : Red f w
  ex : ∃ z, (∀ y ∈ z, y ∈ ls) ∧ (∀ y ∈ z, y ∈ f t ∨ y = t) ∧ ∀ h, act f (x.reverse ++ n) h = act f (w ++ z) h
  last : ∀ y ∈ ls, y ∈ f t ∨ y = t → ¬ desc f y w.reverse
def Gate (f : Nat → List Nat) (ls n : List Nat) (t : Nat) (b : Bool) (x g : List Nat) : Prop := ((Bz f ls n t x ↔ b = true) ∧ ∀ h, act f g h = act f x h) ∨ (¬ (Bz f ls n t x ↔ b = true) ∧ ∃ w, GateW f ls n t x w ∧ ∀ h, act f g h = act f (x ++ (w ++ [t])) h)
theorem GateW.back (ok : CrOk f) {z : List Nat} (e : ∀ h, act f (x.reverse ++ n) h = act f (w ++ z) h) (h : Nat → Int) : act f (n.reverse ++ x) h = act f (z.reverse ++ w.reverse) h := by
  have := act_rev_eq ok e h
  simpa [List.reverse_append] using this
theorem GateW.over (ok : CrOk f) {z : List Nat} (e : ∀ h, act f (x.reverse ++ n) h = act f (w ++ z) h) (eg : ∀ h, act f g h = act f (x ++ (w ++ [t])) h) (h : Nat → Int) : act f (n.reverse ++ g) h = act f z.reverse (thr f t h) := by
  rw [act_app, eg, act_app, ← act_app, GateW.back ok e, act_app, act_app, act_rev ok]
  rfl
theorem gate_far (ok : CrOk f) (ht : t ∈ ls) (G : GateW f ls n t x w) (eg : ∀ h, act f g h = act f (x ++ (w ++ [t])) h) : (Bz f ls n t g ↔ ¬ Bz f ls n t x) ∧ Tch f n t g := by
  obtain ⟨z, z1, z2, z3⟩ := G.ex
  have pw : Pos ls (mark f w.reverse t) := mark_nn ok G.red.rev (rv_mem G.mw) ht (G.last t ht (.inr rfl))
  have np : ¬ Ng f ls w.reverse t := (not_ng ok (rv_mem G.mw) ht).mpr pw
  have b1 := GateW.back ok z3
  have b2 := GateW.over ok z3 eg
  have zr := star_row (t := t) ok (z := z.reverse) fun y hy => z2 y (List.mem_reverse.mp hy)
  have u1 : unit t t = 1 := if_pos rfl
  rcases zr with zr | zr
  · have nx : ¬ Bz f ls n t x := fun q => np ((ng_same fun h => by rw [b1, act_app, zr]).mp q)
    have gg : ∀ h, act f (n.reverse ++ g) h t = - h t := fun h => by rw [b2, zr, thr_self]
    refine ⟨iff_of_true ⟨t, ht, ?_⟩ nx, .inr gg⟩
    show act f (n.reverse ++ g) (unit t) t < 0
    rw [gg, u1]
    decide
  · have nx : Bz f ls n t x := (ng_turn ok (rv_mem G.mw) ht fun h => by rw [b1, act_app, zr]).mpr np
    have gg : ∀ h, act f (n.reverse ++ g) h t = h t := fun h => by rw [b2, zr, thr_self, Int.neg_neg]
    refine ⟨iff_of_false ?_ (not_not_intro nx), .inl gg⟩
    rintro ⟨y, _, q⟩
    have q : act f (n.reverse ++ g) (unit y) t < 0 := q
    rw [gg] at q
    unfold unit at q
    split at q <;> omega
/-- the gate is on the side -/
theorem Gate.side (ok : CrOk f) (ht : t ∈ ls) {b : Bool} (G : Gate f ls n t b x g) : Bz f ls n t g ↔ b = true := by
  rcases G with ⟨h, e⟩ | ⟨h, w, G, e⟩
  · rw [bz_act e]
    exact h
  · rw [(gate_far ok ht G e).1]
    cases b <;> by_cases q : Bz f ls n t x <;> simp_all
/-- letters of a wall's own rooms, with a way behind that does not begin with one -/
theorem star_far (hn : ls.Nodup) (ok : CrOk f) (hs : s ∈ ls) (st : s ∈ f t) {q u : List Nat} (hq : ∀ y ∈ q, y ∈ ls) (hu : ∀ y ∈ u, y ∈ ls) (q2 : ∀ y ∈ q, y ∈ f t ∨ y = t) (pu : ∀ e ∈ f t, e ∈ ls → Pos ls (mark f u e)) : Ng f ls (q ++ u) s ↔ Ng f ls q s := by
  have z0 : ∀ e, ¬ e ∈ f t → mark f q s e = 0 := fun e he => by
    show act f q (unit e) s = 0
    rw [star_loc ok (h := unit e) (h' := fun _ => 0) (fun y hy => if_neg fun z : y = e => he (z ▸ hy)) q2 s st]
    exact act_zero ok (E := ls) (fun _ _ => rfl) hq hs
  have sm : ∀ x, mark f (q ++ u) s x = sumL ls fun e => mark f u e x * mark f q s e := fun x => by
    show act f (q ++ u) (unit x) s = _
    rw [act_app, act_lin hn ok _ hq hs]
    rfl
  rcases sign_def ok hq hs with p | ⟨p, e0, he0, p0⟩
  · refine iff_of_false ?_ ((not_ng ok hq hs).mpr p)
    rintro ⟨x, hx, z⟩
    rw [sm] at z
    have := sumL_nonneg (v := fun e => mark f u e x * mark f q s e) (ls := ls) fun e he => by
      by_cases c : e ∈ f t
      · exact mul_nn ((pu e c he).1 x hx) (p.1 e he)
      · rw [z0 e c, Int.mul_zero]
        exact Int.le_refl 0
    omega
  · refine iff_of_true ?_ ⟨e0, he0, p0⟩
    have c0 : e0 ∈ f t := Classical.byContradiction fun c => by
      rw [z0 e0 c] at p0
      omega
    obtain ⟨x, hx, px⟩ := (pu e0 c0 he0).2
    refine ⟨x, hx, ?_⟩
    rw [sm]
    have := sumL_pos (v := fun e => (-1) * (mark f u e x * mark f q s e)) (ls := ls) ⟨fun e he => ?_, e0, he0, ?_⟩
    · rw [sumL_mul] at this
      omega
    · show 0 ≤ (-1) * (mark f u e x * mark f q s e)
      by_cases c : e ∈ f t
      · have a1 := (pu e c he).1 x hx
        have a2 := p e he
        have := mul_nn a1 (show 0 ≤ - mark f q s e by omega)
        rw [Int.mul_neg] at this
        omega
      · rw [z0 e c, Int.mul_zero, Int.mul_zero]
        exact Int.le_refl 0
    · show 0 < (-1) * (mark f u e0 x * mark f q s e0)
      have := Int.mul_pos px (show 0 < - mark f q s e0 by omega)
      rw [Int.mul_neg] at this
      omega
/-- walls that cross: the way to the gate at the one does not lead through the other -/
theorem gate_cross (h : W2 f ls m s n t) (ns : ¬ (s = t ∧ m = n)) (h0 : act f (wayC f m n) (bt f t) s = 0) (G : GateW f ls n t x w) (eg : ∀ h, act f g h = act f (x ++ (w ++ [t])) h) : Bz f ls m s g ↔ Bz f ls m s x := by
  have ok := h.ok
  obtain ⟨v1, ts⟩ := (h.zero ns).mp h0
  have st := ok.sym _ _ ts
  obtain ⟨y, y1, _, y3, y4⟩ := h.tail
  obtain ⟨z, z1, z2, z3⟩ := G.ex
  have mv := st_mem (f := f) h.mu h.ht
  generalize startC f (wayC f m n) t = v at v1 y4 mv
  have hv : ∀ k, act f v k s = k s := fun k => by
    have := mark_along (f := f) (s := s) (g := k) (v := []) ok v1
    rw [List.append_nil] at this
    exact this
  have cn : ∀ k, act f (v.reverse ++ (m.reverse ++ n)) k = act f y k := fun k => by
    have e : act f (m.reverse ++ n) k = act f (wayC f m n) k := (name_act ok (m.reverse ++ n) k).symm
    rw [act_app, e, y4, act_app, act_rev ok]
  have key : ∀ (u r : List Nat), (∀ k, act f (n.reverse ++ u) k = act f r k) → ∀ k, act f (m.reverse ++ u) k s = act f (y ++ r) k s := fun u r e k => by
    have e1 : act f (m.reverse ++ u) k = act f v (act f (v.reverse ++ (m.reverse ++ n)) (act f (n.reverse ++ u) k)) := by
      rw [act_app v.reverse, act_rev' ok, act_app, act_app, act_app, act_rev' ok]
    rw [e1, hv, cn, e, act_app]
  have q1 : ∀ p ∈ y ++ z.reverse, p ∈ ls := cat_mem y3 (rv_mem z1)
  have q2 : ∀ p ∈ y ++ z.reverse, p ∈ f t ∨ p = t := fun p hp => (List.mem_append.mp hp).elim (y1 p) fun w => z2 p (List.mem_reverse.mp w)
  have ex : Bz f ls m s x ↔ Ng f ls (y ++ z.reverse) s := by
    rw [← star_far h.nd ok h.hs st q1 (rv_mem G.mw) q2 fun e he hl => mark_nn ok G.red.rev (rv_mem G.mw) hl (G.last e hl (.inl he))]
    exact ng_same fun k => by rw [key x _ (GateW.back ok z3), List.append_assoc]
  have eg' : Bz f ls m s g ↔ Ng f ls (y ++ z.reverse) s := by
    refine ng_same fun k => ?_
    rw [key g (z.reverse ++ [t]) (fun k => by rw [GateW.over ok z3 eg, act_app]; rfl), ← List.append_assoc, act_app]
    exact star_loc ok (fun e he => thr_cr ok he) q2 s st
  rw [ex, eg']
/-- from a room of the one side to the gate of the other one: it is on both just if the sides meet -/
theorem meet_law (h : W2 f ls m s n t) (ns : ¬ (s = t ∧ m = n)) {b1 b2 : Bool} (mx : ∀ y ∈ x, y ∈ ls) (mg : ∀ y ∈ g, y ∈ ls) (hx : Bz f ls m s x ↔ b1 = true) (G : Gate f ls n t b2 x g) {w1 w2 : List Nat} (m1 : ∀ y ∈ w1, y ∈ ls) (m2 : ∀ y ∈ w2, y ∈ ls) (t1 : Tch f m s w1) (t2 : Tch f n t w2) :
    (Bz f ls m s g ↔ b1 = true) ↔ act f (wayC f m n) (bt f t) s = 0 ∨ (Bz f ls m s w2 ↔ b1 = true) ∨ (Bz f ls n t w1 ↔ b2 = true) := by
  have ok := h.ok
  have qd : act f (wayC f m n) (bt f t) s ≠ 0 → (Bz f ls m s x ↔ Bz f ls m s w2) ∨ (Bz f ls n t x ↔ Bz f ls n t w1) := fun h0 => quad h ns h0 m1 m2 t1 t2 (x.reverse ++ w2) x (cat_mem (rv_mem mx) m2) mx fun k => by rw [act_app, act_app, act_rev' ok]
  rcases G with ⟨hb, e⟩ | ⟨hb, w, G, e⟩
  · rw [bz_act e, hx]
    refine iff_of_true Iff.rfl ?_
    by_cases h0 : act f (wayC f m n) (bt f t) s = 0
    · exact .inl h0
    · rcases qd h0 with q | q
      · exact .inr (.inl (q.symm.trans hx))
      · exact .inr (.inr (q.symm.trans hb))
  · by_cases h0 : act f (wayC f m n) (bt f t) s = 0
    · rw [gate_cross h ns h0 G e]
      exact iff_of_true hx (.inl h0)
    · rw [tch_side h ns h0 mg m2 (gate_far ok h.ht G e).2 t2]
      constructor
      · exact fun q => .inr (.inl q)
      · rintro (q | q | q)
        · exact absurd q h0
        · exact q
        · rcases qd h0 with p | p
          · exact p.symm.trans hx
          · exact absurd (p.trans q) hb
end
end Cw
set_option Elab.async false
set_option linter.all false
set_option maxRecDepth 100000
set_option maxHeartbeats 4000000
/-! list(text) -/
namespace Cw
open PySem PySem.Spec L2
def rListTx : List V → Hp → VK → Prop := fun xs H Q => ∃ l : List Nat, xs = [.str (tx l)] ∧ l.length ≤ 1000 ∧ ∀ p, H p = none → Q (.ref p) (upd H p (.lst (l.map fun c => V.str (tx [c]))))
theorem vals_of_get : ∀ {vs : List V} {us : List Value}, vs.length = us.length → (∀ (i : Nat) v u, vs[i]? = some v → us[i]? = some u → RelV v u) → Vals vs us
  | [], [], _, _ => .nil
  | [], _ :: _, h, _ => by simp at h
  | _ :: _, [], h, _ => by simp at h
  | v :: vs, u :: us, h, r => .cons (r 0 v u rfl rfl) (vals_of_get (by simpa using h) fun i a b h1 h2 => r (i + 1) a b h1 h2)
theorem c_listTx {X : Cx} (hc : X.calm = true) : CallR X (.type "list") rListTx := by
  intro pins s σ H xs us Q I r h
  obtain ⟨l, rfl, hl, q⟩ := h
  obtain ⟨u, rfl, t, rfl⟩ := vals1 r
  refine PySem.call_list_str (I.ok.hd hc) (tx l) t (fun h' tk acc c k e items => ?_) ?hn
  case hn => exact szl (by simpa using Nat.le_trans hl (by decide : (1000 : Nat) ≤ 1000000))
  have hs : acc.size = l.length := by
    have := items.1
    simpa using this
  have rel : Vals (l.map fun c => V.str (tx [c])) acc.toList := by
    refine vals_of_get (by simpa using hs.symm) fun i v u h1 h2 => ?_
    obtain ⟨c, u', hc', rfl⟩ := items.2 i u (by simpa using h2)
    have hc' : l[i]? = some c := by simpa using hc'
    rw [List.getElem?_map, hc'] at h1
    injection h1 with h1
    subst h1
    exact ⟨u', rfl⟩
  have hz : (l.map fun c => V.str (tx [c])).length ≤ sizeLine := by
    rw [List.length_map]
    exact szl (by omega)
  refine ⟨.ref s.heap.objs.size, _, I.laid (t' := tk) k (Nat.le_refl _) (show ObjOk X.prog X.w _ h' _ (.lst (l.map fun c => V.str (tx [c]))) from ⟨hz, acc.toList, c, rel, e⟩), rfl, q _ (I.hok.fresh (Nat.le_refl _))⟩
def rListOr (K : PySem.W.Frag) : List V → Hp → VK → Prop := fun xs H Q => rList K xs H Q ∨ rListTx xs H Q
theorem c_listOr {X : Cx} {K : PySem.W.Frag} (h : X.K = K) (hc : X.calm = true := by rfl) : CallR X (.type "list") (rListOr K) := h ▸ CallR.or c_list (c_listTx hc)
theorem v_listTx {H : Hp} {Q : VK} {l : List Nat} (hl : l.length ≤ 1000) (q : ∀ p H', H p = none → Same H H' → H' p = some (.lst (l.map fun c => V.str (tx [c]))) → Q (.ref p) H') : rListTx [.str (tx l)] H Q := ⟨l, rfl, hl, fun p hp => q p _ hp (Same.new hp) upd_same⟩
end Cw
set_option Elab.async false
set_option linter.all false
set_option maxRecDepth 100000
set_option maxHeartbeats 4000000
/-! xs != ys of lists: their lengths differ, or they hold the same objects -/
namespace Cw
open PySem PySem.Spec L2
def rNeL (K : PySem.W.Frag) : R2 := fun x y H Q => ∃ a b xs ys, x = .ref a ∧ y = .ref b ∧ SqL K H a xs ∧ SqL K H b ys ∧ ((¬ xs.length = ys.length ∧ Q (.bl true) H) ∨ ((∃ As : List Addr, xs = As.map V.ref ∧ ys = As.map V.ref) ∧ Q (.bl false) H))
theorem vals_refs : ∀ {As : List Addr} {us : List Value}, Vals (As.map V.ref) us → us = As.map Value.ref
  | [], _, .nil => rfl
  | a :: As, _, .cons h t => by
    cases (show _ = Value.ref a from h)
    rw [vals_refs t]
    rfl
theorem op_neL {X : Cx} {K : PySem.W.Frag} (h : X.K = K) (hu : X.A.units < cLine) : OpR X (compareOp .NotEq) (rNeL K) := by
  subst h
  intro pins s σ H x y v u Q I rx ry h
  obtain ⟨a, b, xs, ys, rfl, rfl, ha, hb, h⟩ := h
  cases (show v = Value.ref a from rx)
  cases (show u = Value.ref b from ry)
  obtain ⟨us, r1, p1, _⟩ := I.list ha
  obtain ⟨ws, r2, p2, _⟩ := I.list hb
  have l1 := r1.length
  have l2 := r2.length
  rcases h with ⟨hn, q⟩ | ⟨⟨As, rfl, rfl⟩, q⟩
  · exact SeqAt.RcNeAt.lists_lengths p1.isList p2.isList (by rw [List.size_toArray, List.size_toArray, ← l1, ← l2]; simpa using hn) hu X.prog X.w _ _ ⟨.bl true, H, I, rfl, q⟩
  · obtain rfl := vals_refs r1
    obtain rfl := vals_refs r2
    refine SeqAt.RcNeAt.lists (e := fun _ => true) p1.isList p2.isList rfl hu (fun j h1 h2 => SeqAt.EqAt.same _) X.prog X.w _ _ ?_
    rw [show ((List.range (As.map Value.ref).toArray.size).all fun _ => true) = true from List.all_eq_true.mpr fun _ _ => rfl]
    exact ⟨.bl false, H, I, rfl, q⟩
theorem v_neL {K : PySem.W.Frag} {H : Hp} {Q : VK} {p q : Addr} {xs ys : List V} (h1 : H p = some (.lst xs)) (h2 : H q = some (.lst ys)) (n : ¬ xs.length = ys.length) (k : Q (.bl true) H) : rNeL K (.ref p) (.ref q) H Q := ⟨p, q, xs, ys, rfl, rfl, SqL.of h1, SqL.of h2, .inl ⟨n, k⟩⟩
theorem v_neLsame {K : PySem.W.Frag} {H : Hp} {Q : VK} {p q : Addr} {As : List Addr} (h1 : H p = some (.lst (As.map V.ref))) (h2 : H q = some (.lst (As.map V.ref))) (k : Q (.bl false) H) : rNeL K (.ref p) (.ref q) H Q := ⟨p, q, _, _, rfl, rfl, SqL.of h1, SqL.of h2, .inr ⟨⟨As, rfl, rfl⟩, k⟩⟩
end Cw
set_option Elab.async false
set_option linter.all false
set_option maxRecDepth 100000
set_option maxHeartbeats 4000000
/-! ascending pairs of kinds -/
namespace Cw
open PySem PySem.Spec L2
def pairLt (p q : List Nat) : Prop := p.getD 0 0 < q.getD 0 0 ∨ (p.getD 0 0 = q.getD 0 0 ∧ p.getD 1 0 < q.getD 1 0)
theorem pairLt_mk {a b c d : Nat} : pairLt [a, b] [c, d] ↔ a < c ∨ (a = c ∧ b < d) := Iff.rfl
theorem LET_asc : LET.Pairwise (· < ·) := by decide +kernel
theorem pairsOf_sorted (f : List (List Nat)) : (pairsOf f).Pairwise pairLt := by
  unfold pairsOf
  have key : ∀ l : List Nat, l.Pairwise (· < ·) → (l.flatMap fun a => (LET.filter fun b => decide ([a, b] ∈ f)).map fun b => [a, b]).Pairwise pairLt := by
    intro l
    induction l with
    | nil => intro _; exact .nil
    | cons a r ih =>
      intro h
      obtain ⟨h1, h2⟩ := List.pairwise_cons.mp h
      rw [List.flatMap_cons]
      refine List.pairwise_append.mpr ⟨?_, ih h2, ?_⟩
      · refine List.pairwise_map.mpr ((List.Pairwise.filter _ LET_asc).imp fun {x y} h => ?_)
        exact .inr ⟨rfl, h⟩
      · intro p hp q hq
        obtain ⟨x, _, rfl⟩ := List.mem_map.mp hp
        obtain ⟨c, hc, hq⟩ := List.mem_flatMap.mp hq
        obtain ⟨y, _, rfl⟩ := List.mem_map.mp hq
        exact .inl (h1 c hc)
  exact key LET LET_asc
theorem pairLt_irr {p q : List Nat} (h : pairLt p q) : p ≠ q := by
  rintro rfl
  unfold pairLt at h
  omega
/-- the pairs of a plan with the kinds ls, ascending -/
structure Prs (ls : List Nat) (ps : List (List Nat)) : Prop where
  srt : ps.Pairwise pairLt
  mem : ∀ p ∈ ps, ∃ a b, p = [a, b] ∧ a < b ∧ a ∈ ls ∧ b ∈ ls
theorem prs_eq {ls : List Nat} {ps f : List (List Nat)} (h : Prs ls ps) (hl : ∀ c ∈ ls, c ∈ LET) (e : ∀ a b, a ∈ LET → b ∈ LET → ([a, b] ∈ f ↔ [a, b] ∈ ps)) : pairsOf f = ps := by
  have nd1 : (pairsOf f).Nodup := pairsOf_nodup f
  have nd2 : ps.Nodup := h.srt.imp fun {a b} z => pairLt_irr z
  have p : (pairsOf f).Perm ps := (List.perm_ext_iff_of_nodup nd1 nd2).mpr fun q => by
    rw [pairsOf_mem]
    constructor
    · rintro ⟨a, b, rfl, ha, hb, hm⟩
      exact (e a b ha hb).mp hm
    · intro hq
      obtain ⟨a, b, rfl, _, ha, hb⟩ := h.mem q hq
      exact ⟨a, b, rfl, hl a ha, hl b hb, (e a b (hl a ha) (hl b hb)).mpr hq⟩
  refine p.eq_of_pairwise (le := pairLt) (fun a b ha hb h1 h2 => ?_) (pairsOf_sorted f) h.srt
  unfold pairLt at h1 h2
  omega
theorem Prs.filter {ls : List Nat} {ps : List (List Nat)} (h : Prs ls ps) (t : List Nat → Bool) : Prs ls (ps.filter t) := ⟨h.srt.sublist List.filter_sublist, fun p hp => h.mem p (List.mem_filter.mp hp).1⟩
theorem crossOf_mem {ls : List Nat} {ps : List (List Nat)} {a b : Nat} : b ∈ crossOf ls ps a ↔ b ∈ ls ∧ ([a, b] ∈ ps ∨ [b, a] ∈ ps) := by
  unfold crossOf
  rw [List.mem_filter, Bool.or_eq_true, decide_eq_true_iff, decide_eq_true_iff]
theorem Prs.in_ls {ls : List Nat} {ps : List (List Nat)} (h : Prs ls ps) {a b : Nat} (m : [a, b] ∈ ps) : a < b ∧ a ∈ ls ∧ b ∈ ls := by
  obtain ⟨x, y, e, l, hx, hy⟩ := h.mem _ m
  injection e with e1 e2
  injection e2 with e2 _
  subst e1
  subst e2
  exact ⟨l, hx, hy⟩
theorem Prs.ok {ls : List Nat} {ps : List (List Nat)} (h : Prs ls ps) : CrOk (crossOf ls ps) where
  sym a b hb := by
    obtain ⟨h1, h2⟩ := crossOf_mem.mp hb
    refine crossOf_mem.mpr ⟨?_, h2.symm⟩
    rcases h2 with z | z
    · exact (h.in_ls z).2.1
    · exact (h.in_ls z).2.2
  irr a ha := by
    obtain ⟨_, h2⟩ := crossOf_mem.mp ha
    rcases h2 with z | z
    · exact Nat.lt_irrefl _ (h.in_ls z).1
    · exact Nat.lt_irrefl _ (h.in_ls z).1
theorem Prs.tab {ls : List Nat} {ps : List (List Nat)} (h : Prs ls ps) (nd : ls.Nodup) (lt : ∀ c ∈ ls, c ∈ LET) (l8 : ls.length ≤ 8) : Tab ls (crossOf ls ps) where
  nd := nd
  lt := lt
  len := l8
  sub a ha b hb := by
    obtain ⟨h1, h2⟩ := crossOf_mem.mp hb
    refine ⟨h1, fun e => ?_, crossOf_mem.mpr ⟨ha, h2.symm⟩⟩
    subst e
    rcases h2 with z | z
    · exact Nat.lt_irrefl _ (h.in_ls z).1
    · exact Nat.lt_irrefl _ (h.in_ls z).1
  gl a ha := Nat.le_trans (List.length_filter_le _ _) l8
theorem asc_two {a b : Nat} (ha : a ∈ LET) (hb : b ∈ LET) (h : a < b) : ascOf [a, b] = [a, b] ∧ ascOf [b, a] = [a, b] := by
  have p : (ascOf [a, b]).Perm [a, b] := by
    refine (List.perm_ext_iff_of_nodup (ascOf_nodup _) (by simp; omega)).mpr fun c => ?_
    rw [ascOf_mem]
    refine ⟨fun z => z.2, fun z => ⟨?_, z⟩⟩
    simp only [List.mem_cons, List.not_mem_nil, or_false] at z
    rcases z with rfl | rfl
    · exact ha
    · exact hb
  have s1 : (ascOf [a, b]).Pairwise (· < ·) := List.Pairwise.filter _ LET_asc
  have e : ascOf [a, b] = [a, b] := p.eq_of_pairwise (fun a b _ _ h1 h2 => by omega) s1 (by simp [h])
  exact ⟨e, by rw [ascOf_congr (b := [a, b]) fun c => by simp [or_comm]]; exact e⟩
end Cw
set_option Elab.async false
set_option linter.all false
set_option maxRecDepth 100000
set_option maxHeartbeats 4000000
/-! text[lo:hi:step] with a step that is drawn -/
namespace Cw
open PySem PySem.Spec L2
section
variable {X : Cx}
end
end Cw
set_option Elab.async false
set_option linter.all false
set_option maxRecDepth 100000
set_option maxHeartbeats 4000000
/-! sorted of texts, any number of them -/
namespace Cw
open PySem PySem.Spec L2 PyProof.Rows SrtO
/-- the codes of a text -/
def sv : Value → List Nat
  | .str x _ => x.cps.toList
  | _ => []
def ltSv (v u : Value) : Bool := decide (sv v < sv u)
theorem swo_str : Swo ltSv := by
  refine ⟨fun x y h => ?_, fun x y z h1 h2 => ?_⟩
  · have a := of_decide_eq_true (p := sv x < sv y) h
    exact decide_eq_false (p := sv y < sv x) (List.lt_asymm a)
  · have a := of_decide_eq_false (p := sv y < sv x) h1
    have b := of_decide_eq_false (p := sv z < sv y) h2
    exact decide_eq_false (p := sv z < sv x) fun c => by
      by_cases d : sv z < sv y
      · exact b d
      · exact a (List.lt_of_le_of_lt (List.not_lt.mp d) c)
section
variable {prog : Program} {w : World} {A : Around} {s : Shared}
theorem str_sortable {a : Addr} {vs : List Value} {ss : List Str} (hS : StrsAre vs ss) (h2 : 2 ≤ vs.length) : SortableO prog w A s a vs ltSv := by
  intro h' _
  refine ⟨oneType', fun Q E hq => ?_, fun p q hm hm' => ?_⟩
  · match vs, hS, h2 with
    | v1 :: v2 :: rest, hS, _ =>
      rw [keyKind_strs hS]
      exact wpAny_pure hq
    | [], _, h => exact absurd h (by decide)
    | [v], _, h => exact absurd h (by simp)
  · obtain ⟨x, t, e⟩ := hS.all _ hm
    obtain ⟨y, u, e'⟩ := hS.all _ hm'
    show wpAny (model prog w) A (keyLt' oneType' p.1 q.1) (fun r s' => s' = { s with heap := h' } ∧ r = ltSv p.1 q.1) (fun _ _ => False) { s with heap := h' }
    rw [e, e', keyLt'_oneType]
    exact oneLt_str ⟨rfl, rfl⟩
end
theorem sv_str {vs : List Value} {ls : List (List Nat)} (h : StrsAre vs (ls.map tx)) : vs.map sv = ls := by
  have key : ∀ {vs : List Value} {ss : List Str}, StrsAre vs ss → vs.map sv = ss.map fun x => x.cps.toList := by
    intro vs ss h
    induction h with
    | nil => rfl
    | cons x t r ih => rw [List.map_cons, List.map_cons, ih]; rfl
  rw [key h, List.map_map]
  have : ((fun x : Str => x.cps.toList) ∘ tx) = id := funext fun l => rfl
  rw [this, List.map_id]
theorem str_sv {vs : List Value} (h : ∀ v ∈ vs, ∃ x t, v = Value.str x t) : StrsAre vs ((vs.map sv).map tx) := by
  have e : (vs.map sv).map tx = vs.map strOf := by
    rw [List.map_map]
    refine List.map_congr_left fun v hv => ?_
    obtain ⟨x, t, rfl⟩ := h v hv
    show tx x.cps.toList = x
    exact tx_eq.symm
  rw [e]
  exact strsAre_map vs h
/-- sorted(xs), texts, any number of them -/
def rSortedS (K : PySem.W.Frag) : List V → Hp → VK → Prop := fun vs H Q => ∃ (a : Addr) (ls : List (List Nat)), vs = [V.ref a] ∧ SqL K H a (ls.map fun l => V.str (tx l)) ∧
  ∀ (ls' : List (List Nat)) (p : Addr), ls'.Perm ls → ls'.Pairwise (fun a b => ¬ b < a) → H p = none → Q (.ref p) (upd H p (.lst (ls'.map fun l => V.str (tx l))))
theorem map_tx (ls : List (List Nat)) : (ls.map fun l => V.str (tx l)) = (ls.map tx).map V.str := by rw [List.map_map]; rfl
section
variable {X : Cx}
theorem cr_sortedT : CallR X (.builtin "sorted") (rSortedS X.K) := by
  intro pins s σ H vs us Q I r h
  obtain ⟨a, ls, rfl, hs, q⟩ := h
  rw [map_tx] at hs
  obtain ⟨its, rv, hl, hz⟩ := I.list hs
  rw [Vals.ref1 r]
  have hi := rv.strs
  refine sorted_ord swo_str hl.isList (by rw [← rv.length]; exact hz) (fun h2 h₁ a' _ _ => str_sortable hi h2) fun out h1 h2 => ?_
  have all := fun v hv => hi.all v (h2.perm.mem_iff.mp hv)
  have k1 : StrsAre out ((out.map sv).map tx) := str_sv all
  have k2 : (out.map sv).Perm ls := by
    have := h2.perm.map sv
    rw [sv_str hi] at this
    exact this
  have k3 : (out.map sv).Pairwise (fun a b => ¬ b < a) := List.pairwise_map.mpr (h1.imp fun {x y} h => of_decide_eq_false (p := sv y < sv x) h)
  obtain ⟨ep, he'⟩ := sortedAll_at s.heap its out.toArray
  have hlen : (((out.map sv).map tx).map V.str).length ≤ sizeLine := by
    rw [List.length_map, List.length_map, k2.length_eq]
    rw [List.length_map, List.length_map] at hz
    exact hz
  have q := q _ (s.heap.objs.size + 1) k2 k3 (I.hok.fresh (Nat.le_succ _))
  rw [map_tx] at q
  exact ⟨.ref _, upd H (s.heap.objs.size + 1) (.lst (((out.map sv).map tx).map V.str)), I.laid (t' := s.toks) (fun _ _ => sortedAll_old) (Nat.le_succ _) ⟨hlen, out, ep, vals_of_strs k1, he'⟩, rfl, q⟩
end
end Cw
set_option Elab.async false
set_option linter.all false
set_option maxRecDepth 100000
set_option maxHeartbeats 4000000
/-! sets of texts that can be walked: set(a list of texts), sorted(set(..)) -/
namespace Cw
open PySem PySem.Spec L2 PyProof.Rows SrtO
def strK (e : Int × Value) : Str := match e.2 with | .str x _ => x | _ => Str.empty
def GoodS (P : Program) (w : World) (e : Int × Value) : Prop := ∃ x t, e.2 = Value.str x t ∧ e.1 = (PySem.strKind P w).hash x
/-- the set at a holds just the texts of l, each once -/
def SetS (P : Program) (w : World) (h : Heap) (a : Addr) (l : List Str) : Prop :=
  ∃ o es ep t, h.get? a = some o ∧ o.ExactSet ∧ o.data = .set es ep t ∧ (∀ e ∈ es.toList, GoodS P w e) ∧ (es.toList.map strK).Perm l ∧ l.Nodup ∧
    es.size < scanBound ∧ t.fits es.size = true ∧ Ris t.place.toList ∧ (w.params.followText "set-order" = true ∨ t.led = true)
section
variable {P : Program} {w : World} {h h' : Heap} {a : Addr} {l : List Str}
theorem SetS.at (R : SetS P w h a l) (k : ∀ o, h.get? a = some o → h'.get? a = some o) : SetS P w h' a l := by
  obtain ⟨o, es, ep, t, ho, r⟩ := R
  exact ⟨o, es, ep, t, k o ho, r⟩
end
section
variable {P : Program} {w : World} {A : Around} {E : Value → Shared → Prop} {s : Shared} {a : Addr} {l : List Str}
end
section
variable {P : Program} {w : World} {A : Around} {R : Result → Shared → Prop} {J : Addr} {fp wr : List Addr} {n : Nat} {Y : Nat → Value → Prop} {St : Nat → Heap → Prop}
end
section
variable {P : Program} {w : World} {A : Around} {E : Value → Shared → Prop} {s : Shared}
end
/-! ### sorted(set), and the layer -/
theorem nodup_le {α : Type} [DecidableEq α] : ∀ {a b : List α}, a.Nodup → (∀ x ∈ a, x ∈ b) → a.length ≤ b.length
  | [], _, _, _ => Nat.zero_le _
  | x :: a, b, nd, h => by
    obtain ⟨n1, n2⟩ := List.nodup_cons.mp nd
    have hx := h x (List.mem_cons_self ..)
    have := nodup_le (b := b.erase x) n2 fun y hy => (List.mem_erase_of_ne fun e : y = x => n1 (e ▸ hy)).mpr (h y (List.mem_cons_of_mem _ hy))
    rw [List.length_erase_of_mem hx] at this
    have := List.length_pos_of_mem hx
    rw [List.length_cons]
    omega
section
variable {X : Cx}
end
end Cw
set_option Elab.async false
set_option linter.all false
set_option maxRecDepth 100000
set_option maxHeartbeats 4000000
/-! ascending pairs: of any pairs, sorted, told in any way -/
namespace Cw
open PySem PySem.Spec L2
theorem pair_ltL {a b c d : Nat} : ([a, b] : List Nat) < [c, d] ↔ a < c ∨ (a = c ∧ b < d) := by
  rw [List.cons_lt_cons_iff, List.cons_lt_cons_iff]
  simp
theorem asc_pw (l : List Nat) : (ascOf l).Pairwise (· < ·) := List.Pairwise.filter _ LET_asc
theorem prs_of {ls : List Nat} {f : List (List Nat)} (h : PairsIn ls f) : Prs ls (pairsOf (f.map ascOf)) := by
  refine ⟨pairsOf_sorted _, fun p hp => ?_⟩
  obtain ⟨a, b, rfl, ha, hb, m⟩ := pairsOf_mem.mp hp
  obtain ⟨r, hr, e⟩ := List.mem_map.mp m
  obtain ⟨x, y, rfl, n, hx, hy⟩ := h r hr
  have s : ([a, b] : List Nat).Pairwise (· < ·) := e ▸ asc_pw [x, y]
  have ma : a ∈ ascOf [x, y] := by rw [e]; simp
  have mb : b ∈ ascOf [x, y] := by rw [e]; simp
  have i : ∀ c ∈ ascOf [x, y], c ∈ ls := fun c hc => by
    have z := (ascOf_mem.mp hc).2
    simp only [List.mem_cons, List.not_mem_nil, or_false] at z
    rcases z with rfl | rfl
    · exact hx
    · exact hy
  exact ⟨a, b, rfl, by simpa using s, i a ma, i b mb⟩
theorem Prs.nd {ls : List Nat} {ps : List (List Nat)} (h : Prs ls ps) : ps.Nodup := h.srt.imp fun {a b} z => pairLt_irr z
theorem pairs_len (la lb : List Nat) : (la.flatMap fun a => lb.map fun b => [a, b]).length = la.length * lb.length := by
  induction la with
  | nil => simp
  | cons a r ih => rw [List.flatMap_cons, List.length_append, List.length_map, ih, List.length_cons, Nat.succ_mul, Nat.add_comm]
theorem Prs.len {ls : List Nat} {ps : List (List Nat)} (h : Prs ls ps) (l8 : ls.length ≤ 8) : ps.length ≤ 64 := by
  refine Nat.le_trans (nodup_le (b := ls.flatMap fun a => ls.map fun b => [a, b]) h.nd fun p hp => ?_) ?_
  · obtain ⟨a, b, rfl, _, ha, hb⟩ := h.mem p hp
    exact List.mem_flatMap.mpr ⟨a, ha, List.mem_map.mpr ⟨b, hb, rfl⟩⟩
  · rw [pairs_len]
    exact Nat.mul_le_mul l8 l8
/-- the letters and the pairs of a drawn plan -/
structure LPlan (ls : List Nat) (ps : List (List Nat)) : Prop where
  prs : Prs ls ps
  asc : ls.Pairwise (· < ·)
  lt : ∀ c ∈ ls, c ∈ LET
  nz : ∀ c ∈ ls, c ≠ 122
  l8 : ls.length ≤ 8
theorem LPlan.nd {ls : List Nat} {ps : List (List Nat)} (h : LPlan ls ps) : ls.Nodup := h.asc.imp fun {a b} z e => by omega
theorem LPlan.of {ls : List Nat} {ps f : List (List Nat)} (h : LPlan ls ps) (hf : PairsIn ls f) : LPlan ls (pairsOf (f.map ascOf)) := ⟨prs_of hf, h.asc, h.lt, h.nz, h.l8⟩
theorem LPlan.tail {ls : List Nat} {ps : List (List Nat)} (h : LPlan ls ps) (n : Nat) : LPlan ls (ps.drop n) := ⟨⟨h.prs.srt.sublist (List.drop_sublist _ _), fun p hp => h.prs.mem p (List.mem_of_mem_drop hp)⟩, h.asc, h.lt, h.nz, h.l8⟩
theorem Prs.pin {ls : List Nat} {ps : List (List Nat)} (h : Prs ls ps) : PairsIn ls ps := fun p hp => by
  obtain ⟨a, b, e, l, ha, hb⟩ := h.mem p hp
  exact ⟨a, b, e, by omega, ha, hb⟩
/-- pairs sorted, each once -/
theorem sorted_pairs {ls : List Nat} {ws f : List (List Nat)} (nd : ws.Nodup) (pw : ws.Pairwise fun a b => ¬ b < a) (hm : ∀ p, p ∈ ws ↔ p ∈ f) (hf : ∀ p ∈ f, ∃ a b, p = [a, b] ∧ a < b ∧ a ∈ ls ∧ b ∈ ls) (lt : ∀ c ∈ ls, c ∈ LET) : ws = pairsOf (f.map ascOf) := by
  have hp : Prs ls ws := by
    refine ⟨?_, fun p hp => hf p ((hm p).mp hp)⟩
    refine List.Pairwise.imp_of_mem (fun {a b} ha hb h => ?_) (List.Pairwise.and nd pw)
    obtain ⟨n, l⟩ := h
    obtain ⟨x, y, rfl, _, _, _⟩ := hf a ((hm a).mp ha)
    obtain ⟨u, v, rfl, _, _, _⟩ := hf b ((hm b).mp hb)
    rw [pair_ltL] at l
    refine pairLt_mk.mpr ?_
    have : ¬ (x = u ∧ y = v) := fun e => n (by rw [e.1, e.2])
    omega
  refine (prs_eq hp lt fun a b ha hb => ?_).symm
  rw [hm]
  have key : ∀ r ∈ f, ascOf r = r := fun r hr => by
    obtain ⟨x, y, rfl, l, hx, hy⟩ := hf r hr
    exact (asc_two (lt x hx) (lt y hy) l).1
  rw [List.mem_map]
  constructor
  · rintro ⟨r, hr, e⟩
    rw [key r hr] at e
    exact e ▸ hr
  · intro h
    exact ⟨_, h, key _ h⟩
theorem perm_ones {ws : List (List Nat)} {ls : List Nat} (h : ws.Perm (ls.map fun c => [c])) : ∃ l' : List Nat, ws = l'.map (fun c => [c]) ∧ l'.Perm ls := by
  refine ⟨ws.map fun w => w.getD 0 0, ?_, ?_⟩
  · rw [List.map_map]
    have : ∀ w ∈ ws, w = ((fun c => [c]) ∘ fun w : List Nat => w.getD 0 0) w := fun w hw => by
      obtain ⟨c, _, rfl⟩ := List.mem_map.mp (h.subset hw)
      rfl
    conv => lhs; rw [← List.map_id ws]
    exact List.map_congr_left fun w hw => this w hw
  · have := h.map fun w : List Nat => w.getD 0 0
    rw [List.map_map] at this
    have e : ((fun w : List Nat => w.getD 0 0) ∘ fun c => [c]) = id := rfl
    rw [e, List.map_id] at this
    exact this
theorem PairsIn.sub {l m : List Nat} {ps : List (List Nat)} (h : PairsIn l ps) (s : ∀ c ∈ l, c ∈ m) : PairsIn m ps := fun q hq => by
  obtain ⟨a, b, e, n, ha, hb⟩ := h q hq
  exact ⟨a, b, e, n, s a ha, s b hb⟩
/-- the plan of some of the kinds -/
theorem LPlan.part {ls low : List Nat} {ps : List (List Nat)} (h : LPlan ls ps) (s : low.Sublist ls) : LPlan low (ps.filter fun p => decide (p.getD 0 0 ∈ low) && decide (p.getD 1 0 ∈ low)) where
  prs := by
    refine ⟨h.prs.srt.sublist List.filter_sublist, fun p hp => ?_⟩
    obtain ⟨hp, c⟩ := List.mem_filter.mp hp
    obtain ⟨a, b, rfl, l, _, _⟩ := h.prs.mem p hp
    rw [Bool.and_eq_true, decide_eq_true_iff, decide_eq_true_iff] at c
    exact ⟨a, b, rfl, l, c.1, c.2⟩
  asc := h.asc.sublist s
  lt c hc := h.lt c (s.subset hc)
  nz c hc := h.nz c (s.subset hc)
  l8 := Nat.le_trans s.length_le h.l8
theorem LPlan.kinds {ls : List Nat} {ps : List (List Nat)} (h : LPlan ls ps) : ascOf ls = ls := by
  have h1 : (ascOf ls).Perm ls := by
    refine (List.perm_ext_iff_of_nodup (ascOf_nodup ls) h.nd).mpr fun c => ?_
    rw [ascOf_mem]
    exact ⟨fun z => z.2, fun z => ⟨h.lt c z, z⟩⟩
  exact h1.eq_of_pairwise (fun a b _ _ h1 h2 => by omega) (asc_pw ls) h.asc
/-- pairs of a plan sorted, each once: the pairs of the plan that is told by them -/
theorem LPlan.sorted {ls : List Nat} {ps ws f : List (List Nat)} (h : LPlan ls ps) (nd : ws.Nodup) (pw : ws.Pairwise fun a b => ¬ b < a) (hm : ∀ p, p ∈ ws ↔ p ∈ f) (hf : ∀ p ∈ f, ∃ a b, p = [a, b] ∧ a < b ∧ a ∈ ls ∧ b ∈ ls) : ws = pairsOf (f.map ascOf) := sorted_pairs nd pw hm hf h.lt
end Cw
set_option Elab.async false
set_option linter.all false
set_option maxRecDepth 100000
set_option maxHeartbeats 4000000
/-! sorted(xs, key=len) of texts, any number of them: stable -/
namespace Cw
open PySem PySem.Spec PyProof.Rows Srt SrtO
def ltLen (v u : Value) : Bool := decide ((sv v).length < (sv u).length)
section
variable {prog : Program} {w : World} {A : Around} {E : Value → Shared → Prop} {s : Shared} {a kS : Addr} {vs : List Value} {keys : Array Value} {e e1 : Nat} {R : PySem.Fin → Shared → Prop}
/-- the end of a sort by keys: the keys go, the items are laid -/
theorem len_tail {st : SortSt} (hk : s.heap.get? kS = some (seqObj "list" keys e)) (ha : s.heap.get? a = some (seqObj "list" #[] e1)) (ne : kS ≠ a) (zk : keys.size ≤ sizeLine) (zs : (arrOf st).size ≤ sizeLine) (hf : failedOf st = none)
    (q : ∀ h', (∀ b o, b ≠ a → b ≠ kS → s.heap.get? b = some o → h'.get? b = some o) → (∃ c, h'.get? a = some (seqObj "list" ((arrOf st).map (·.2)) c)) → R (.done (.ret .none)) { s with heap := h' }) :
    wpAny (model prog w) A (ksk_tail a false e1 (.ref kS) st) R E s := by
  have b1 := Heap.SameBut.update s.heap kS (Obj.mapSeq fun _ => (#[] : Array Value))
  have a1 := (b1.2 a ne.symm).trans ha
  have b2 := Heap.SameBut.update (s.heap.update kS (Obj.mapSeq fun _ => (#[] : Array Value))) a (Obj.mapSeq fun _ => (arrOf st).map (·.2))
  have a2 := get?_update_seq a1 fun _ => (arrOf st).map (·.2)
  unfold ksk_tail
  dsimp only
  refine wpAny_bind (listUpdate_at hk rfl ?_ zk (Nat.zero_le _))
  refine wpAny_bind (wpAny_letGo ?_)
  refine wpAny_bind (seqEpoch_at a1 rfl ?_)
  refine wpAny_bind (listUpdate_at a1 rfl ?_ (Nat.zero_le _) (by
    show ((arrOf st).map (·.2)).size ≤ sizeLine + 1
    rw [Array.size_map]
    omega))
  rw [hf]
  simp only [bne_self_eq_false, Bool.false_eq_true, if_false]
  exact wpAny_pure (q _ (fun b o n1 n2 z => (b2.2 b n1).trans ((b1.2 b n2).trans z)) ⟨_, a2⟩)
theorem zip_keys (ks : Array Value) (xs : List Value) : (ks.zip xs.toArray).toList = ks.toList.zip xs := by simp
/-- what the pairs of lengths and texts come to -/
theorem len_out {xs ks : List Value} (hS : ∀ v ∈ xs, ∃ x t, v = Value.str x t) (hk : ks.map iv = xs.map fun v => ((sv v).length : Int)) {l : List Keyed} (h1 : Srtd (lt2 ltIv) l) (h2 : Stb (lt2 ltIv) l (ks.zip xs)) : Srtd ltLen (l.map (·.2)) ∧ Stb ltLen (l.map (·.2)) xs := by
  have hl : ks.length = xs.length := by
    have := congrArg List.length hk
    rw [List.length_map, List.length_map] at this
    exact this
  have pair : ∀ p ∈ ks.zip xs, iv p.1 = ((sv p.2).length : Int) := by
    intro p hp
    obtain ⟨i, hi, rfl⟩ := List.mem_iff_getElem.mp hp
    rw [List.length_zip] at hi
    have := congrArg (·[i]?) hk
    simp only [List.getElem?_map] at this
    rw [List.getElem?_eq_getElem (by omega), List.getElem?_eq_getElem (by omega)] at this
    rw [List.getElem_zip]
    injection this
  have pl : ∀ p ∈ l, iv p.1 = ((sv p.2).length : Int) := fun p hp => pair p (h2.perm.mem_iff.mp hp)
  have lt_eq : ∀ p q : Keyed, iv p.1 = ((sv p.2).length : Int) → iv q.1 = ((sv q.2).length : Int) → lt2 ltIv p q = ltLen p.2 q.2 := by
    intro p q e1 e2
    show decide (iv p.1 < iv q.1) = decide _
    rw [e1, e2]
    exact decide_eq_decide.mpr (by omega)
  refine ⟨?_, ?_, fun v => ?_⟩
  · show (l.map (·.2)).Pairwise _
    rw [List.pairwise_map]
    refine List.Pairwise.imp_of_mem (fun {p q} hp hq h => ?_) h1
    rw [← lt_eq q p (pl q hq) (pl p hp)]
    exact h
  · have := h2.perm.map (·.2)
    rw [List.map_snd_zip (by omega)] at this
    exact this
  · have c := congrArg (List.map (·.2)) (h2.cls ((.int ((sv v).length : Int) 0, v) : Keyed))
    have key : ∀ m : List Keyed, (∀ p ∈ m, iv p.1 = ((sv p.2).length : Int)) → (m.filter (eqv (lt2 ltIv) ((.int ((sv v).length : Int) 0, v) : Keyed))).map (·.2) = (m.map (·.2)).filter (eqv ltLen v) := by
      intro m hm
      rw [List.filter_map]
      congr 1
      refine List.filter_congr fun p hp => ?_
      show eqv (lt2 ltIv) _ p = eqv ltLen v p.2
      unfold eqv
      rw [lt_eq _ p rfl (hm p hp), lt_eq p _ (hm p hp) rfl]
    rw [key l pl, key _ pair, List.map_snd_zip (by omega)] at c
    exact c
theorem len_end {ss : List Str} (hS : StrsAre vs ss) (hk : s.heap.get? kS = some (seqObj "list" keys e)) (ha : s.heap.get? a = some (seqObj "list" #[] e1)) (ne : kS ≠ a) (zv : vs.length ≤ sizeLine) (hi : IntsAre keys.toList (vs.map fun v => ((sv v).length : Int)))
    (q : ∀ h' (out : List Value), (∀ b o, b ≠ a → b ≠ kS → s.heap.get? b = some o → h'.get? b = some o) → (∃ c, h'.get? a = some (seqObj "list" out.toArray c)) → Srtd ltLen out → Stb ltLen out vs → R (.done (.ret .none)) { s with heap := h' }) :
    wpAny (model prog w) A (ksk_end a false vs.toArray e1 (.ref kS) keys) R E s := by
  have hl : keys.size = vs.length := by
    have := hi.length
    rw [Array.length_toList, List.length_map] at this
    exact this
  have hkz : (keys.zip vs.toArray).toList = keys.toList.zip vs := zip_keys _ _
  have zz : (keys.zip vs.toArray).size = vs.length := by rw [Array.size_zip, hl, List.size_toArray, Nat.min_self]
  have fin : ∀ st' : SortSt, Srtd (lt2 ltIv) (arrOf st').toList → Stb (lt2 ltIv) (arrOf st').toList (keys.zip vs.toArray).toList → failedOf st' = none → wpAny (model prog w) A (ksk_tail a false e1 (.ref kS) st') R E s := by
    intro st' h1 h2 h3
    have hz : (arrOf st').size = vs.length := by
      have := h2.perm.length_eq
      rw [Array.length_toList, Array.length_toList, zz] at this
      exact this
    rw [hkz] at h2
    obtain ⟨k1, k2⟩ := len_out (fun v hv => hS.all v hv) (iv_ints hi) h1 h2
    refine len_tail hk ha ne (by rw [hl]; exact zv) (by rw [hz]; exact zv) h3 fun h' kp ⟨c, hc⟩ => ?_
    refine q h' ((arrOf st').toList.map (·.2)) kp ⟨c, ?_⟩ k1 k2
    rw [hc]
    congr 2
    apply Array.ext'
    simp
  unfold ksk_end
  dsimp only
  rw [if_neg Bool.false_ne_true]
  by_cases h2 : vs.toArray.size < 2
  · rw [if_pos h2, if_pos h2]
    refine wpAny_bind (wpAny_pure ?_)
    rw [StateT.run_pure]
    refine wpAny_bind (wpAny_pure ?_)
    refine fin (SortSt.mk' general' (keys.zip vs.toArray) #[] 7 none) ?_ (Stb.refl _) rfl
    show Srtd (lt2 ltIv) (keys.zip vs.toArray).toList
    have hlen : (keys.zip vs.toArray).toList.length < 2 := by
      rw [Array.length_toList, zz]
      rw [List.size_toArray] at h2
      exact h2
    match (keys.zip vs.toArray).toList, hlen with
    | [], _ => exact List.Pairwise.nil
    | [v], _ => exact List.pairwise_singleton _ _
    | _ :: _ :: l, h => exact absurd h (by simp)
  · rw [if_neg h2, if_neg h2]
    rw [List.size_toArray] at h2
    rw [ksk_kind hi (by rw [hl]; omega)]
    refine wpAny_bind (wpAny_pure ?_)
    have all : AllL (fun p : Keyed => p.1 ∈ keys.toList) (keys.zip vs.toArray).toList := fun p hm => by
      rw [hkz] at hm
      obtain ⟨x, y⟩ := p
      exact (List.of_mem_zip hm).1
    refine wpAny_bind (wpAny_mono (wpS_sortO (st0 := SortSt.mk' oneType' (keys.zip vs.toArray) #[] 7 none)
      (Q := fun _ st' => Srtd (lt2 ltIv) (arrOf st').toList ∧ Stb (lt2 ltIv) (arrOf st').toList (keys.zip vs.toArray).toList ∧ failedOf st' = none) (swo2 swo_int) (int_cmp hi) rfl all rfl rfl fun st' c1 c2 c3 => ⟨c1, c2, c3⟩) ?_ fun _ _ z => z)
    rintro ⟨⟨⟩, st'⟩ s' ⟨rfl, c1, c2, c3⟩
    exact fin st' c1 c2 c3
theorem ints_app {n : Int} {t : Tok} : ∀ {xs : List Value} {ns : List Int}, IntsAre xs ns → IntsAre (xs ++ [.int n t]) (ns ++ [n])
  | _, _, .nil => .cons n t .nil
  | _, _, .cons m u r => .cons m u (ints_app r)
/-- the lengths are taken one by one -/
theorem len_rest {ss : List Str} (hS : StrsAre vs ss) (hz : ∀ v ∈ vs, (sv v).length ≤ 1000000) (hk : s.heap.get? kS = some (seqObj "list" #[] e)) (ha : s.heap.get? a = some (seqObj "list" #[] e1)) (ne : kS ≠ a) (zv : vs.length ≤ sizeLine)
    (q : ∀ h' tk (out : List Value), (∀ b o, b ≠ a → b ≠ kS → s.heap.get? b = some o → h'.get? b = some o) → (∃ c, h'.get? a = some (seqObj "list" out.toArray c)) → Srtd ltLen out → Stb ltLen out vs → R (.done (.ret .none)) { s with heap := h', toks := tk }) :
    wpAny (model prog w) A (ksk_rest a (.builtin "len") false vs.toArray e1 (.ref kS)) R E s := by
  unfold ksk_rest
  refine wpAny_bind (wpAny_rule ?_)
  rw [List.forIn_toArray]
  refine wpAny_bind (ksk_fold (fun i s' => ∃ h' tk kA c, s' = { s with heap := h', toks := tk } ∧ (∀ b o, b ≠ a → b ≠ kS → s.heap.get? b = some o → h'.get? b = some o) ∧ h'.get? kS = some (seqObj "list" kA c) ∧ h'.get? a = some (seqObj "list" #[] e1) ∧ IntsAre kA.toList ((vs.map fun v => ((sv v).length : Int)).take i)) vs 0 s
    ⟨s.heap, s.toks, #[], e, rfl, fun _ _ _ _ z => z, hk, ha, by simpa using IntsAre.nil⟩ ?step ?done)
  case step =>
    rintro j x s' hx ⟨h', tk, kA, c, rfl, kp, k1, a1, hi⟩
    simp only [Nat.zero_add] at hi ⊢
    have hj : j < vs.length := (List.getElem?_eq_some_iff.mp hx).1
    have hm : x ∈ vs := List.mem_of_getElem? hx
    obtain ⟨y, t, rfl⟩ := hS.all _ hm
    have ly : (y.length : Int) = ((sv (.str y t)).length : Int) := by
      show (y.cps.size : Int) = (y.cps.toList.length : Int)
      rw [Array.length_toList]
    have lz : y.length ≤ 1000000 := by
      have := hz _ hm
      omega
    have zk : kA.size ≤ vs.length := by
      have := hi.length
      rw [Array.length_toList, List.length_take, List.length_map] at this
      omega
    refine wpAny_bind (wpAny_attempt (PySem.P.len_str (by omega) ?_))
    dsimp only
    have b1 := Heap.SameBut.update h' kS (Obj.mapSeq (·.push (.int y.length (tk + 1))))
    have k2 := get?_update_seq k1 (·.push (Value.int y.length (tk + 1)))
    refine wpAny_bind (listUpdate_at k1 rfl ?_ (Nat.le_trans zk zv) (Nat.le_trans (Nat.le_of_eq (Array.size_push ..)) (Nat.succ_le_succ (Nat.le_trans zk zv))))
    refine wpAny_pure ⟨rfl, _, _, kA.push (.int y.length (tk + 1)), _, rfl, fun b o n1 n2 z => (b1.2 b n2).trans (kp b o n1 n2 z), k2, (b1.2 a ne.symm).trans a1, ?_⟩
    have ek : (vs.map fun v => ((sv v).length : Int)).take (j + 1) = (vs.map fun v => ((sv v).length : Int)).take j ++ [(y.length : Int)] := by
      rw [List.take_add_one, List.getElem?_map, hx, ly]
      rfl
    rw [ek, Array.toList_push]
    exact ints_app hi
  case done =>
    rintro s' ⟨h', tk, kA, c, rfl, kp, k1, a1, hi⟩
    have ek : (vs.map fun v => ((sv v).length : Int)).take (0 + vs.length) = vs.map fun v => ((sv v).length : Int) := List.take_of_length_le (by rw [List.length_map]; omega)
    rw [ek] at hi
    refine wpAny_bind (listItems_at k1 rfl ?_)
    exact len_end hS k1 a1 ne zv hi fun h2 out kp2 ho r1 r2 => q h2 tk out (fun b o n1 n2 z => kp2 b o n1 n2 (kp b o n1 n2 z)) ho r1 r2
theorem len_sort {ss : List Str} {n : Nat} (hS : StrsAre vs ss) (hz : ∀ v ∈ vs, (sv v).length ≤ 1000000) (ho : s.heap.get? a = some (seqObj "list" vs.toArray n)) (zv : vs.length ≤ sizeLine)
    (q : ∀ h' tk (out : List Value), (∀ b o, b ≠ a → s.heap.get? b = some o → h'.get? b = some o) → (∃ c, h'.get? a = some (seqObj "list" out.toArray c)) → Srtd ltLen out → Stb ltLen out vs → R (.done (.ret .none)) { s with heap := h', toks := tk }) :
    wpAny (model prog w) A (ksk_tree a (.builtin "len") false) R E s := by
  have la : a < s.heap.objs.size := Heap.lt_size ho
  have b1 := Heap.SameBut.update s.heap a (Obj.mapSeq fun _ => (#[] : Array Value))
  have a1 := get?_update_seq ho fun _ => (#[] : Array Value)
  have hk : ((s.heap.update a (Obj.mapSeq fun _ => (#[] : Array Value))).push (seqObj "tuple" vs.toArray 0)).objs.size = s.heap.objs.size + 1 := by rw [size_push', Heap.size_update]
  unfold ksk_tree
  refine wpAny_bind (listItems_at ho rfl ?_)
  refine wpAny_bind (listUpdate_at ho rfl ?_ (by rw [List.size_toArray]; exact zv) (Nat.zero_le _))
  refine wpAny_bind (seqEpoch_at a1 rfl ?_)
  refine wpAny_bind (wpAny_newTuple ?_ (by show vs.length ≤ _; exact zv))
  refine wpAny_bind (wpAny_newList ?_ (Nat.zero_le _))
  refine wpAny_holding ?_
  have more : ∀ b o, b ≠ a → s.heap.get? b = some o → (((s.heap.update a (Obj.mapSeq fun _ => (#[] : Array Value))).push (seqObj "tuple" vs.toArray 0)).push (seqObj "list" #[] 0)).get? b = some o := fun b o nb z => Heap.get?_push_of_some _ (Heap.get?_push_of_some _ ((b1.2 b nb).trans z))
  refine len_rest (s := { s with heap := ((s.heap.update a (Obj.mapSeq fun _ => (#[] : Array Value))).push (seqObj "tuple" vs.toArray 0)).push (seqObj "list" #[] 0) }) (kS := ((s.heap.update a (Obj.mapSeq fun _ => (#[] : Array Value))).push (seqObj "tuple" vs.toArray 0)).objs.size) (e := 0) hS hz
    (Heap.get?_push_size _ rfl) (Heap.get?_push_of_some _ (Heap.get?_push_of_some _ a1)) (by rw [hk]; exact Nat.ne_of_gt (Nat.lt_succ_of_lt la)) zv fun h' tk out kp ho' r1 r2 => ?_
  refine q h' tk out (fun b o nb z => ?_) ho' r1 r2
  have lb : b < s.heap.objs.size := Heap.lt_size z
  exact kp b o nb (by rw [hk]; exact Nat.ne_of_lt (Nat.lt_succ_of_lt lb)) (more b o nb z)
/-- sorted(l, key=len) -/
theorem len_sorted {ss : List Str} {l : Addr} {Q : Value → Shared → Prop} (hS : StrsAre vs ss) (hz : ∀ v ∈ vs, (sv v).length ≤ 1000000) (hl : s.heap.IsList l vs.toArray) (zv : vs.length ≤ sizeLine)
    (q : ∀ h' tk (out : List Value), (∀ b o, s.heap.get? b = some o → h'.get? b = some o) → (∃ c, h'.get? (s.heap.objs.size + 1) = some (seqObj "list" out.toArray c)) → Srtd ltLen out → Stb ltLen out vs → Q (.ref (s.heap.objs.size + 1)) { s with heap := h', toks := tk }) :
    wpAny (model prog w) A (call (.builtin "sorted") [.ref l] [(Str.ofString "key", .builtin "len")]) Q E s := by
  refine call_function_entry_kw kind_sorted plain_sorted entry_sorted (ksk_s1 _ _) ?_
  unfold Builtin.«sorted»
  refine wpAny_bind (m := checkCount "sorted" 1 1 _) (wpAny_pure ?_)
  refine wpAny_bind (collect_list hl ?_ zv)
  refine wpAny_bind (wpAny_newList ?_ zv)
  have zs : ((s.heap.push (seqObj "list" #[] 0)).update s.heap.objs.size (Obj.mapSeq (· ++ vs.toArray))).objs.size = s.heap.objs.size + 1 := by rw [Heap.size_update, size_push']
  have hL : (((s.heap.push (seqObj "list" #[] 0)).update s.heap.objs.size (Obj.mapSeq (· ++ vs.toArray))).push (seqObj "list" vs.toArray 0)).get? (s.heap.objs.size + 1) = some (seqObj "list" vs.toArray 0) := by
    rw [← zs]
    exact Heap.get?_push_size _ rfl
  have kp : ∀ b o, s.heap.get? b = some o → b ≠ s.heap.objs.size + 1 ∧ (((s.heap.push (seqObj "list" #[] 0)).update s.heap.objs.size (Obj.mapSeq (· ++ vs.toArray))).push (seqObj "list" vs.toArray 0)).get? b = some o := fun b o z => by
    have lb : b < s.heap.objs.size := Heap.lt_size z
    refine ⟨Nat.ne_of_lt (Nat.lt_succ_of_lt lb), Heap.get?_push_of_some _ ?_⟩
    rw [Heap.get?_update_ne _ _ _ _ (Nat.ne_of_lt lb)]
    exact Heap.get?_push_of_some _ z
  show wpAny _ _ _ _ _ { s with heap := ((s.heap.push (seqObj "list" #[] 0)).update s.heap.objs.size (Obj.mapSeq (· ++ vs.toArray))).push (seqObj "list" vs.toArray 0) }
  rw [zs]
  refine wpAny_bind (wpAny_holding (wpAny_call_entry_kw slot_list_sort ⟨_, hL, rfl⟩ entry_list_sort ?body (ksk_l1 _ _)))
  case body =>
    show wpAny (model prog w) A.in1.in1 (Builtin.«list.sort» ⟨[.ref (s.heap.objs.size + 1)], [(Str.ofString "key", .builtin "len")]⟩) _ _ _
    rw [ksk_t4]
    refine len_sort (s := { s with heap := ((s.heap.push (seqObj "list" #[] 0)).update s.heap.objs.size (Obj.mapSeq (· ++ vs.toArray))).push (seqObj "list" vs.toArray 0) }) hS hz hL zv fun h' tk out kp2 ho r1 r2 => ⟨_, rfl, ?_⟩
    exact wpAny_pure ⟨_, rfl, q h' tk out (fun b o z => kp2 b o (kp b o z).1 (kp b o z).2) ho r1 r2⟩
end
end Cw
set_option Elab.async false
set_option linter.all false
set_option maxRecDepth 100000
set_option maxHeartbeats 4000000
/-! the expression sorted(xs, key=len) -/
namespace Cw
open PySem PySem.Spec L2
def rSortedL (K : PySem.W.Frag) : List V → Hp → VK → Prop := fun vs H Q => ∃ (a : Addr) (ls : List (List Nat)), vs = [V.ref a] ∧ SqL K H a (ls.map fun l => V.str (tx l)) ∧ (∀ l ∈ ls, l.length ≤ 1000000) ∧
  ∀ (ls' : List (List Nat)) (p : Addr), ls'.Perm ls → ls'.Pairwise (fun a b => a.length ≤ b.length) → (∀ n, (ls'.filter fun l => decide (l.length = n)) = ls.filter fun l => decide (l.length = n)) → H p = none → Q (.ref p) (upd H p (.lst (ls'.map fun l => V.str (tx l))))
def tSortL (K : PySem.W.Frag) (t : TA) : TE := fun σ H Q => t σ H fun vs H1 => rSortedL K vs H1 Q
theorem e_sortL {K : PySem.W.Frag} {t : TA} {σ : St} {H : Hp} {Q : VK} (q : t σ H fun vs H1 => rSortedL K vs H1 Q) : tSortL K t σ H Q := q
theorem pe_sortL {X : Cx} {K : PySem.W.Frag} {p pos p2 kp : PySem.Pos} {e : Expr} {t : TA} (h : X.K = K) (hg : Gl X "sorted") (hm : X.mg "sorted" = none) (hgl : Gl X "len") (hml : X.mg "len" = none) (ha : PA X [e] t)
    (he : backTo pos (starEach [e] X.env) = (false, eval e X.env) :: backTo pos (starEach [] X.env) := by rfl) (hpl : (backTo pos (starEach [e] X.env)).any (·.1) = false := by rfl) :
    PE X (.Call (.Name "sorted" p) [e] [⟨some "key", .Name "len" p2, kp⟩] pos) (tSortL K t) := by
  subst h
  refine ⟨fun pins s σ H Q I hq => ?_⟩
  refine wpAny_Call_Name_kw (ld_blt I hg hm (u := .builtin "sorted") (by decide +kernel) ?_ (by decide) (by decide))
  refine PyProof.Rows.callWith_kw (thn (ha.run pos pins s σ H _ I hq) fun us s1 ⟨vs, H1, I1, r1, q1⟩ => ?_) he hpl rfl rfl
  show wpAny _ _ (evalAll ((do let v ← eval (.Name "len" p2) X.env; standAt pos; pure v) :: (backToKw pos (keywordEach [] X.env)).map (·.2))) _ _ s1
  refine PySem.wpAny_evalAll_cons (wpAny_bind (ld_blt I1 hgl hml (u := .builtin "len") (by decide +kernel) ?_ (by decide) (by decide)))
  refine wpAny_bind (wpAny_standAt (wpAny_pure ?_))
  refine PySem.wpAny_evalAll_nil ?_
  obtain ⟨a, ls, rfl, hs, lz, q⟩ := q1
  rw [map_tx] at hs
  obtain ⟨its, rv, hl, hz⟩ := I1.list hs
  obtain rfl := Vals.ref1 r1
  have hi := rv.strs
  have zi : its.length ≤ sizeLine := by
    rw [← rv.length]
    exact hz
  have svl : its.map sv = ls := sv_str hi
  show wpAny _ _ (call (.builtin "sorted") [.ref a] [(Str.ofString "key", .builtin "len")]) _ _ s1
  refine len_sorted hi (fun v hv => lz _ (by rw [← svl]; exact List.mem_map.mpr ⟨v, hv, rfl⟩)) hl.isList zi fun h' tk out kp ho r1 r2 => ?_
  have all := fun v hv => hi.all v (r2.perm.mem_iff.mp hv)
  have k1 : PyProof.Rows.StrsAre out ((out.map sv).map tx) := str_sv all
  have k2 : (out.map sv).Perm ls := by
    have := r2.perm.map sv
    rw [svl] at this
    exact this
  have k3 : (out.map sv).Pairwise (fun a b => a.length ≤ b.length) := List.pairwise_map.mpr (r1.imp fun {x y} h => by
    have := of_decide_eq_false (p := (sv y).length < (sv x).length) h
    omega)
  have k4 : ∀ n, ((out.map sv).filter fun l => decide (l.length = n)) = ls.filter fun l => decide (l.length = n) := by
    intro n
    have c := congrArg (List.map sv) (r2.cls (.str (tx (List.replicate n 0)) 0))
    have key : ∀ m : List Value, (m.filter (SrtO.eqv ltLen (.str (tx (List.replicate n 0)) 0))).map sv = (m.map sv).filter fun l => decide (l.length = n) := by
      intro m
      rw [List.filter_map]
      congr 1
      refine List.filter_congr fun v _ => ?_
      show SrtO.eqv ltLen _ v = decide ((sv v).length = n)
      unfold SrtO.eqv ltLen
      have e0 : (sv (.str (tx (List.replicate n 0)) 0)).length = n := by
        show (List.replicate n 0).length = n
        rw [List.length_replicate]
      rw [e0, Bool.eq_iff_iff]
      simp only [Bool.and_eq_true, Bool.not_eq_true', decide_eq_false_iff_not, decide_eq_true_eq]
      omega
    rw [key, key, svl] at c
    exact c
  obtain ⟨ep, he'⟩ := ho
  have hlen : (((out.map sv).map tx).map V.str).length ≤ sizeLine := by
    rw [List.length_map, List.length_map, k2.length_eq, ← svl, List.length_map]
    exact zi
  have q := q _ (s1.heap.objs.size + 1) k2 k3 k4 (I1.hok.fresh (Nat.le_succ _))
  rw [map_tx] at q
  exact ⟨.ref _, upd H1 (s1.heap.objs.size + 1) (.lst (((out.map sv).map tx).map V.str)), I1.laid (t' := tk) kp (Nat.le_succ _) ⟨hlen, out, ep, vals_of_strs k1, he'⟩, rfl, q⟩
def rStrS : List V → Hp → VK → Prop := fun xs H Q => ∃ a, xs = [.str a] ∧ Q (.str a) H
theorem c_strS {X : Cx} : CallR X (.type "str") rStrS := SkE.call_str_str
theorem v_strS {H : Hp} {Q : VK} {a : Str} (q : Q (.str a) H) : rStrS [.str a] H Q := ⟨a, rfl, q⟩
theorem cr_sortedTK {X : Cx} {K : PySem.W.Frag} (h : X.K = K) : CallR X (.builtin "sorted") (rSortedS K) := h ▸ cr_sortedT
/-- texts by length, then by the alphabet -/
def shortLe (a b : List Nat) : Prop := a.length < b.length ∨ (a.length = b.length ∧ ¬ b < a)
theorem sorted_twice {l m n : List (List Nat)} (h1 : m.Perm l) (h2 : m.Pairwise fun a b => ¬ b < a) (h3 : n.Perm m) (h4 : n.Pairwise fun a b => a.length ≤ b.length) (h5 : ∀ k, (n.filter fun l => decide (l.length = k)) = m.filter fun l => decide (l.length = k)) : n.Perm l ∧ n.Pairwise shortLe := by
  refine ⟨h3.trans h1, ?_⟩
  rw [List.pairwise_iff_getElem] at h4 ⊢
  intro i j hi hj hij
  have hl := h4 i j hi hj hij
  by_cases c : n[i].length = n[j].length
  · right
    refine ⟨c, ?_⟩
    have hp : (n.filter fun l => decide (l.length = n[j].length)).Pairwise fun a b => ¬ b < a := by
      rw [h5]
      exact h2.filter _
    have e : n = n.take i ++ (n[i] :: (n.drop (i + 1)).take (j - i - 1) ++ n[j] :: n.drop (j + 1)) := by
      have e1 : n.drop (i + 1) = (n.drop (i + 1)).take (j - i - 1) ++ n[j] :: n.drop (j + 1) := by
        have := List.take_append_drop (j - i - 1) (n.drop (i + 1))
        rw [List.drop_drop, show i + 1 + (j - i - 1) = j by omega] at this
        rw [← List.drop_eq_getElem_cons hj]
        exact this.symm
      rw [List.cons_append, ← e1, ← List.drop_eq_getElem_cons hi, List.take_append_drop]
    generalize hx : n[i] = x at *
    generalize hy : n[j] = y at *
    rw [e, List.filter_append, List.filter_append] at hp
    have hp := (List.pairwise_append.mp hp).2.1
    have px : decide (x.length = y.length) = true := decide_eq_true c
    have py : decide (y.length = y.length) = true := decide_eq_true rfl
    rw [List.filter_cons_of_pos (by simpa using c), List.filter_cons_of_pos (by simp)] at hp
    exact (List.pairwise_append.mp hp).2.2 x (List.mem_cons_self ..) y (List.mem_cons_self ..)
  · left
    omega
end Cw
set_option Elab.async false
set_option linter.all false
set_option maxRecDepth 100000
set_option maxHeartbeats 4000000
/-! some of a list of texts -/
namespace Cw
open PySem PySem.Spec L2
end Cw
set_option Elab.async false
set_option linter.all false
set_option maxRecDepth 100000
set_option maxHeartbeats 4000000
/-! len of a dict -/
namespace Cw
open PySem PySem.Spec L2
end Cw
set_option Elab.async false
set_option linter.all false
set_option maxRecDepth 100000
set_option maxHeartbeats 4000000
/-! a comprehension over a dict's keys, the dict locked meanwhile -/
namespace Cw
open PySem PySem.Spec L2
/-- all but d stands as it stood; d is locked -/
structure Lk (d : Addr) (u : HO) (H H' : Hp) : Prop where
  at' : ∃ od, H' d = some (.frz od u)
  oth : ∀ b o, H b = some o → b ≠ d → H' b = some o
theorem Lk.same {d : Addr} {u : HO} {H H' H2 : Hp} (h : Lk d u H H') (s : Same H' H2) : Lk d u H H2 := ⟨h.at'.elim fun od e => ⟨od, s _ _ e⟩, fun b o e n => s _ _ (h.oth b o e n)⟩
/-- a test, cut off from what follows -/
def tCutT (t : TT) : TT := fun σ H Q => ∃ Mid : Bool → Hp → Prop, t σ H Mid ∧ ∀ b H', Mid b H' → Q b H'
theorem pt_cut {X : Cx} {e : Expr} {t : TT} (h : PT X e t) : PT X e (tCutT t) := by
  refine ⟨fun pins s σ H Q I q => ?_⟩
  obtain ⟨Mid, hm, hu⟩ := q
  exact thn (h.run pins s σ H Mid I hm) fun b s1 ⟨H1, I1, q1⟩ => ⟨H1, I1, hu b H1 q1⟩
theorem t_cut {t : TT} {σ : L2.St} {H : Hp} {Q : Bool → Hp → Prop} (Mid : Bool → Hp → Prop) (h : t σ H Mid) (q : ∀ b H', Mid b H' → Q b H') : tCutT t σ H Q := ⟨Mid, h, q⟩
end Cw
set_option Elab.async false
set_option linter.all false
set_option maxRecDepth 100000
set_option maxHeartbeats 4000000
/-! ''.join(d): the keys of a dict, one behind another -/
namespace PySem
open Builtin Builtin.Str
section
variable {prog : Program} {w : World} {A : Around} {E : Value → Shared → Prop} {s : Shared} {J : Addr} {fp wr : List Addr} {G : Array GenState → Array GenState → Prop} {m : Nat} {P : Nat → Value → Prop} {Z : Nat → Shared → Prop}
end
section
variable {prog : Program} {w : World} {A : Around} {E : Value → Shared → Prop} {s : Shared} {sep : Str} {t : Tok} {Q : Value → Shared → Prop}
end
end PySem

namespace Cw
open PySem PySem.Spec L2 PyProof.Rows
section
variable {X : Cx} {K : PySem.W.Frag}
end
/-- [e for x in ..]: e makes new objects; Rel tells of each item what it is -/
theorem lc_mapA {σ : L2.St} {H : Hp} {i : Nat} {tt : TT} {te : TE} {P : Addr → Hp → Prop} {J : It} {n : Nat} {G : Hp → Prop} {it : Nat → V} (Rel : Nat → V → Hp → Prop) (w : Walk J n G (fun k H x H' => H' = H ∧ x = it k)) (hG : ∀ H', Same H H' → G H') (hn : n ≤ 1000000)
    (m1 : ∀ k v H1 H2, Rel k v H1 → Same H1 H2 → Rel k v H2) (m2 : ∀ k v H1 H2 D l, Rel k v H1 → H1 D = some (.lst l) → Keep D H1 H2 → Rel k v H2)
    (ht : ∀ k, k < n → ∀ H1, Same H H1 → ∀ R : Bool → Hp → Prop, (∀ H2, Same H1 H2 → R true H2) → tt ((wipe σ [i]).set i (some (it k))) H1 R)
    (he : ∀ k, k < n → ∀ H1, Same H H1 → ∀ R : VK, (∀ v H2, Same H1 H2 → Rel k v H2 → R v H2) → te ((wipe σ [i]).set i (some (it k))) H1 R)
    (q : ∀ D H' vs, H D = none → Same H H' → H' D = some (.lst vs) → vs.length = n → (∀ k v, vs[k]? = some v → Rel k v H') → P D H') :
    ∀ D, H D = none → ∃ W : Nat → Nat → Hp → Prop, (∃ m, W 0 m (upd H D (.lst []))) ∧ ∀ k m H, W k m H →
      (J.stop k H ∧ P D H) ∨ (J.go k H ∧ ∃ Nx : Hp → Prop, (∀ H', Nx H' → ∃ m', m' < m ∧ W (k + 1) m' H') ∧ ∀ x H', J.yld k H x H' → (gName i) x (wipe σ [i]) H' fun s2 H2 => wipe s2 [i] = wipe σ [i] ∧ tt s2 H2 fun c H3 =>
        if c = true then te s2 H3 fun y H4 => ∃ acc, H4 D = some (.lst acc) ∧ acc.length < sizeLine ∧ Nx (upd H4 D (.lst (acc ++ [y]))) else Nx H3) := by
  intro D hD
  refine lc_it w (vs := [i]) (σ := σ) (g := gName i) (tt := tt) (te := te) (Qd := fun H' => P D H') (fun k H' => Same H H' ∧ ∃ vs, H' D = some (.lst vs) ∧ vs.length = k ∧ ∀ j v, vs[j]? = some v → Rel j v H')
    ⟨Same.new hD, [], upd_same, rfl, fun j v z => by simp at z⟩ (fun k H' _ p => hG H' p.1) (fun k x H1 H2 hk p y => ?_) (fun H' p => ?_)
  · obtain ⟨p1, vs, p2, p3, p4⟩ := p
    obtain ⟨rfl, rfl⟩ := y
    refine ⟨wipe1, ht k hk _ p1 _ fun H3 s3 => ?_⟩
    rw [if_pos rfl]
    refine he k hk _ (p1.trans s3) _ fun v H4 s4 r4 => ?_
    have e4 := s4 _ _ (s3 _ _ p2)
    refine ⟨vs, e4, szlt (by omega), fun a o ha => ?_, vs ++ [v], upd_same, by rw [List.length_append, p3]; rfl, fun j u hj => ?_⟩
    · rw [upd_ne (ne_of_none ha hD)]
      exact s4 _ _ (s3 _ _ (p1 _ _ ha))
    · by_cases c : j < vs.length
      · rw [List.getElem?_append_left c] at hj
        exact m2 _ _ _ _ D vs (m1 _ _ _ _ (p4 j u hj) (s3.trans s4)) e4 Keep.put
      · have e : j = vs.length := by
          have := (List.getElem?_eq_some_iff.mp hj).1
          rw [List.length_append, List.length_singleton] at this
          omega
        rw [e, List.getElem?_append_right (Nat.le_refl _), Nat.sub_self] at hj
        injection hj with hj
        rw [e, ← hj, p3]
        exact m2 _ _ _ _ D vs r4 e4 Keep.put
  · obtain ⟨p1, vs, p2, p3, p4⟩ := p
    exact q D H' vs hD p1 p2 p3 p4
section
variable {σ : L2.St} {H : Hp} {Q : VK} {te ta : TE} {D : Ends} {K : PySem.W.Frag} {n : Nat} {t : TGs}
theorem s_asgL (q : te σ H fun v H1 => gLst K n t v σ H1 fun σ2 H2 => D.nx σ2 H2) : tAsg te (gLst K n t) D σ H := q
theorem e_MN {C : Addr} {m : Str} {sp : Sp} {n l : Nat} {ss : List Src} {dvs : List V} {E : XK} {t tk : TA} (q : ta σ H fun x H1 => ∃ a dx fs, x = .ref a ∧ H1 a = some (.ins C dx fs) ∧ fs.lookup m = none ∧ t σ H1 fun vs H2 => tk σ H2 fun zs H3 => vs.length = n ∧ zs.length = l ∧ sp (x :: gS ss vs dvs zs) H3 Q E) : tMN C m sp n l ss dvs E ta t tk σ H Q := q
end
end Cw
set_option Elab.async false
set_option linter.all false
set_option maxRecDepth 100000
set_option maxHeartbeats 4000000
/-! text.index(letter); vectors turned by one kind -/
namespace Cw
open PySem PySem.Spec PyProof.Rows L2
def rIdx : V → List V → Hp → VK → Prop := fun x xs H Q => ∃ a b i rest, x = .str a ∧ xs = [.str b] ∧ Builtin.Str.occurrences a b 0 a.length 1 = i :: rest ∧ Q (.int (i : Nat)) H
theorem pe_index {X : Cx} {o e : Expr} {to te : TE} {apos pos : PySem.Pos} (ho : PE X o to) (he : PE X e te) (hs : starEach [e] X.env = [(false, eval e X.env)] := by rfl) (hbase : attributeBase o "index" X.env (eval o X.env) = eval o X.env := by rfl) (hline : (apos.endLine == pos.line) = true := by rfl) :
    PE X (.Call (.Attribute o "index" apos) [e] [] pos) (tM1 rIdx to te) := pe_m1 F.slot_str_index F.type_str_index mt_sindex ho he hs hbase hline
/-- the first place of a letter -/
def ixOf (l : List Nat) (c : Nat) : Nat := l.idxOf c
theorem lt_ixOf : ∀ {l : List Nat} {c j : Nat}, j < l.idxOf c → l[j]? ≠ some c
  | [], c, j, h => by simp
  | a :: r, c, j, h => by
    rw [List.idxOf_cons] at h
    by_cases e : a = c
    · subst e
      simp at h
    · have e' : (a == c) = false := beq_eq_false_iff_ne.mpr e
      rw [e'] at h
      simp only [cond_false] at h
      cases j with
      | zero =>
        rw [List.getElem?_cons_zero]
        exact fun z => e (Option.some.inj z)
      | succ j =>
        rw [List.getElem?_cons_succ]
        exact lt_ixOf (by omega)
theorem v_index {H : Hp} {Q : VK} {l : List Nat} {c : Nat} (h : c ∈ l) (q : Q (.int ((ixOf l c : Nat) : Int)) H) : rIdx (.str (tx l)) [.str (tx [c])] H Q := by
  have hi : ixOf l c < l.length := List.idxOf_lt_length_iff.mpr h
  have e : l = l.take (ixOf l c) ++ c :: l.drop (ixOf l c + 1) := by
    have e1 : l[ixOf l c] = c := List.getElem_idxOf hi
    conv => lhs; rw [← List.take_append_drop (ixOf l c) l, List.drop_eq_getElem_cons hi, e1]
  have hn : ¬ c ∈ l.take (ixOf l c) := fun m => by
    obtain ⟨j, hj, ej⟩ := List.getElem_of_mem m
    rw [List.length_take] at hj
    rw [List.getElem_take] at ej
    have hj2 : j < ixOf l c := by omega
    exact lt_ixOf hj2 (by rw [List.getElem?_eq_getElem (show j < l.length by omega), ej])
  refine ⟨_, _, ixOf l c, [], rfl, rfl, ?_, q⟩
  have o := occ_one (q := l.drop (ixOf l c + 1)) hn
  rw [← e] at o
  rw [o, List.length_take, Nat.min_eq_left (by omega)]
theorem ixOf_get {l : List Nat} {c : Nat} (h : c ∈ l) : ixOf l c < l.length ∧ l.getD (ixOf l c) 0 = c := by
  have hi : ixOf l c < l.length := List.idxOf_lt_length_iff.mpr h
  refine ⟨hi, ?_⟩
  rw [List.getD_eq_getElem?_getD, List.getElem?_eq_getElem hi]
  exact List.getElem_idxOf hi
/-! ### one turn of a vector -/
def pL (f : Nat → List Nat) (d : Nat) (v : Nat → Int) : List Nat → Int → Int
  | [], s => s
  | y :: r, s => pL f d v r (if y = d ∨ y ∈ f d then s else s + 2 * v y)
theorem pL_snoc {f : Nat → List Nat} {d : Nat} {v : Nat → Int} : ∀ {l : List Nat} {s : Int} {y : Nat}, pL f d v (l ++ [y]) s = if y = d ∨ y ∈ f d then pL f d v l s else pL f d v l s + 2 * v y
  | [], s, y => rfl
  | a :: l, s, y => pL_snoc (l := l)
def trn (f : Nat → List Nat) (ls : List Nat) (d : Nat) (v : Nat → Int) : Nat → Int := fun x => if x = d then pL f d v ls (- v d) else v x
theorem pL_sum {f : Nat → List Nat} {d : Nat} {v : Nat → Int} (ok : CrOk f) : ∀ {l : List Nat} {s : Int}, ¬ d ∈ l → pL f d v l s = s + sumL l fun y => thr f d (unit d) y * v y
  | [], s, _ => by
    show s = s + 0
    omega
  | y :: l, s, h => by
    have hy : y ≠ d := fun e => h (e ▸ List.mem_cons_self ..)
    have ih := pL_sum (v := v) ok (l := l) (s := if y = d ∨ y ∈ f d then s else s + 2 * v y) fun m => h (List.mem_cons_of_mem _ m)
    show pL f d v l _ = s + (thr f d (unit d) y * v y + sumL l fun y => thr f d (unit d) y * v y)
    rw [ih]
    have hu : unit d d = 1 := if_pos rfl
    have hu2 : unit d y = 0 := if_neg hy
    by_cases c : y ∈ f d
    · rw [if_pos (.inr c), thr_cr ok c, hu2]
      omega
    · rw [if_neg (fun z => z.elim hy c), thr_not hy c, hu2, hu]
      have : (0 + 2 * 1 : Int) * v y = 2 * v y := by omega
      rw [this]
      omega
theorem pL_all {f : Nat → List Nat} {d : Nat} {v : Nat → Int} (ok : CrOk f) : ∀ {l : List Nat} {s : Int}, l.Nodup → d ∈ l → pL f d v l (s - v d) = s + sumL l fun y => thr f d (unit d) y * v y
  | y :: l, s, hn, h => by
    have hn' := List.nodup_cons.mp hn
    have hu : unit d d = 1 := if_pos rfl
    show pL f d v l _ = s + (thr f d (unit d) y * v y + sumL l fun y => thr f d (unit d) y * v y)
    by_cases e : y = d
    · subst e
      rw [if_pos (.inl rfl), pL_sum ok hn'.1, thr_self, hu]
      omega
    · have hd : d ∈ l := by
        rcases List.mem_cons.mp h with z | z
        · exact absurd z.symm e
        · exact z
      have hu2 : unit d y = 0 := if_neg e
      by_cases c : y ∈ f d
      · rw [if_pos (.inr c), pL_all ok hn'.2 hd, thr_cr ok c, hu2]
        omega
      · rw [if_neg (fun z => z.elim e c), show s - v d + 2 * v y = (s + 2 * v y) - v d by omega, pL_all ok hn'.2 hd, thr_not e c, hu2, hu]
        have : (0 + 2 * 1 : Int) * v y = 2 * v y := by omega
        rw [this]
        omega
theorem trn_mark {f : Nat → List Nat} {ls : List Nat} {w : List Nat} {s d : Nat} (hn : ls.Nodup) (ok : CrOk f) (hw : ∀ y ∈ w, y ∈ ls) (hs : s ∈ ls) (hd : d ∈ ls) {x : Nat} (hx : x ∈ ls) : trn f ls d (mark f w s) x = mark f (w ++ [d]) s x := by
  have e : mark f (w ++ [d]) s x = sumL ls fun y => thr f d (unit x) y * mark f w s y := by
    show act f (w ++ [d]) (unit x) s = _
    rw [act_app]
    exact act_lin hn ok _ hw hs
  rw [e]
  unfold trn
  by_cases c : x = d
  · subst c
    rw [if_pos rfl]
    have := pL_all (v := mark f w s) (s := 0) ok hn hd
    rw [show (0 : Int) - mark f w s x = - mark f w s x by omega] at this
    rw [this]
    omega
  · rw [if_neg c]
    have e2 : (sumL ls fun y => thr f d (unit x) y * mark f w s y) = sumL ls fun y => mark f w s y * unit y x := sumL_congr fun y hy => by
      rw [unit_thr c, Int.mul_comm]
      congr 1
      unfold unit
      by_cases e : y = x
      · rw [if_pos e, if_pos e.symm]
      · rw [if_neg e, if_neg (fun z => e z.symm)]
    rw [e2]
    exact (sumL_unit (g := fun y => mark f w s y) hn hx).symm
end Cw
set_option Elab.async false
set_option linter.all false
set_option maxRecDepth 100000
set_option maxHeartbeats 4000000
/-! classes without defaults; == with an object of another class -/
namespace Cw
open PySem PySem.Spec L2
section
variable {P : Program} {w : World} {K : PySem.W.Frag} {mg : Str → Option Value} {base : Heap} {CX : CXT} {k : Nat} {C : Addr} {x qual : Str} {ps N : List Str} {sp sp0 : Sp} {st : Stmt}
/-- C(..) by its __init__, which has no defaults -/
structure CMk0 (P : Program) (w : World) (K : PySem.W.Frag) (mg : Str → Option Value) (base : Heap) (CX : CXT) (k : Nat) (x : Str) (C : Addr) (sp : Sp) (ps : List Str) (qual : Str) (st : Stmt) : Prop where
  ex : ∃ f fd sp0, mg x = some (.ref C) ∧ Mk K C f ∧ Binds K fd ps [] ∧ FnOk P w K mg base CX k f fd ps sp0 ∧ Conv C sp0 sp ∧ Fun K "__init__" qual st f fd
theorem CMk0.cdef (D : CMk0 P w K mg base CX k x C sp ps qual st) : CDef P w K mg base CX k x C sp := by
  obtain ⟨f, fd, sp0, a, b, c, d, e, _⟩ := D.ex
  exact ⟨f, fd, ps, sp0, a, b, c, d, e⟩
theorem MAt.make0 (F : MAt K C "__init__" qual st) (cf : ClsF K mg x C) (S : FnScope N ps (defScope st))
    (hb : ∀ (kV doc pm : Value) (an : Option Addr) (cdv ct : Value) (us : List Value), us.length = ps.length → bindArgs (PySem.W.fnOf "__init__" qual (defArgs st) (defBody st) (defScope st) .none kV doc pm an cdv ct) ⟨us, []⟩ = pure (ps.zip us))
    (len : ∀ vs H Q E, sp0 vs H Q E → vs.length = ps.length) (cv : Conv C sp0 sp)
    (hbody : ∀ (f : Addr) (cdv : Value) (A : Around) (outer : List Env) (s : Shared) (H : Hp) (vs : List V) (Q : VK) (E : XK), Room k (A.deeper (PyProof.Rows.envOfC qual (defScope st) s.heap.objs.size f cdv)) → sp0 vs H Q E →
      ∃ t, PSs (cxOf CX0 P w K mg base N qual (defScope st) f cdv A outer s H E).nox (defBody st) t ∧ t { nx := fun _ H' => Q .non H', rt := Q } (start N vs) H) : CMk0 P w K mg base CX0 (k + 1) x C sp ps qual st := by
  obtain ⟨f, fd, h1, h2, F⟩ := F.ex
  exact ⟨f, fd, sp0, cf.at, ⟨cf.mks, h1, h2, cf.kp⟩, F.binds hb, F.ok S len fun cdv A outer s H vs Q E hr h => hbody f cdv A outer s H vs Q E hr h, cv, F⟩
theorem CMk0.kw (D : CMk0 P w K mg base CX k x C sp ps qual st) (n : Nat) (ks : List Str) (ss : List Src)
    (h : ∀ (kV doc pm : Value) (an : Option Addr) (cdv ct : Value) (us ws : List Value), us.length = n + 1 → ws.length = ks.length → bindArgs (PySem.W.fnOf "__init__" qual (defArgs st) (defBody st) (defScope st) .none kV doc pm an cdv ct) ⟨us, ks.zip ws⟩ = pure (ps.zip (gS (.pos 0 :: ss.map Src.up) us [] ws))) : CDefN P w K mg base CX k x C sp n ks ss [] := by
  obtain ⟨f, fd, sp0, a, b, c, d, e, G⟩ := D.ex
  refine ⟨f, fd, ps, sp0, a, b, ?_, d, e⟩
  obtain ⟨oc, od, kV, doc, pm, an, cdv, ct, osl, rfl, _⟩ := G.ex
  exact kb_of (h kV doc pm an cdv ct)
end
section
variable {X : Cx} {CX : CXT} {k : Nat} {C C' : Addr} {m : Str} {ps : List Str} {sp : Sp} {E : XK}
end
end Cw
set_option Elab.async false
set_option linter.all false
set_option maxRecDepth 100000
set_option maxHeartbeats 4000000
/-! ~o by o's own method; o == any value; str(bool); three names at once -/
namespace Cw
open PySem PySem.Spec PyProof.Rows L2
section
variable {X : Cx} {CX : CXT} {k : Nat} {C : Addr} {ps : List Str} {sp : Sp} {E : XK}
def rMU (C : Addr) (sp : Sp) (E : XK) : V → Hp → VK → Prop := fun x H Q => ∃ a dx fs, x = .ref a ∧ H a = some (.ins C dx fs) ∧ sp [.ref a] H Q E
theorem un_invM (D : MDef X.prog X.w X.K X.mg X.base CX k C "__invert__" ps sp) (hr : Room k X.A) (hx : Passes CX X E) : UnR X (unaryOp .Invert) (rMU C sp E) := by
  obtain ⟨f, fd, h1, h2, kp, ⟨hb, _⟩, F⟩ := D.ex
  intro pins s σ H x v Q I rx h
  obtain ⟨a, dx, fs, rfl, ha, hq⟩ := h
  cases rx
  obtain ⟨mA, J, _⟩ := ins_get I.hok ha
  obtain ⟨od, J, _⟩ := J.look
  obtain ⟨mm, hF⟩ := I.fr
  refine PySem.W.ksp_inv hF I.ok.mod.kin J h1 h2 ?_
  exact run_fn (us := [.ref a]) (vs := [.ref a]) (dvs := []) F hr hb .nil hx I (.cons rfl .nil) hq
/-- o == v, v of another type, by o's own method -/
def rMEq (K : PySem.W.Frag) (C : Addr) (sp : Sp) (E : XK) : R2 := fun x y H Q => ∃ a dx fs tb, x = .ref a ∧ H a = some (.ins C dx fs) ∧ TyX K H y tb ∧ PySem.W.notFirst K C tb = true ∧ sp [.ref a, y] H Q E
theorem op_eqMA {K : PySem.W.Frag} (hK : X.K = K) (D : MDef X.prog X.w X.K X.mg X.base CX k C "__eq__" ps sp) (hr : Room k X.A) (hx : Passes CX X E) : OpR X (compareOp .Eq) (rMEq K C sp E) := by
  subst hK
  obtain ⟨f, fd, h1, h2, kp, ⟨hb, _⟩, F⟩ := D.ex
  intro pins s σ H x y v u Q I rx ry h
  obtain ⟨a, dx, fs, tb, rfl, ha, ty, hn, hq⟩ := h
  cases rx
  obtain ⟨P, Z, hP, _⟩ := kit_of I ry ty
  obtain ⟨mA, J, _⟩ := ins_get I.hok ha
  obtain ⟨od, J, _⟩ := J.look
  obtain ⟨mm, hF⟩ := I.fr
  show wpAny (model X.prog X.w) X.A (richCompare .Eq _ _) _ _ _
  refine PySem.W.cmp_K (op := .Eq) (tb := tb) hr.units0 hF I.ok.mod.kin J (Z.ty _ _ I.kIn hP) hn h1 h2 ?_
  have z := run_fn (us := [.ref a, u]) (vs := [.ref a, y]) (dvs := []) F hr hb .nil hx I (.cons rfl (.cons ry .nil)) hq
  refine wpAny_mono z (fun v s' q => ?_) fun _ _ q => q
  obtain ⟨y', H', I', r, q⟩ := q
  have k : EP X pins σ Q v s' := ⟨y', H', I', r, q⟩
  cases v <;> first | exact k | (exfalso; cases y' <;> first | (obtain ⟨_, r⟩ := r; cases r) | cases r)
end
def rBoolB : List V → Hp → VK → Prop := fun xs H Q => (∃ i, xs = [.int i] ∧ Q (.bl (i != 0)) H) ∨ ∃ k, xs = [.bl k] ∧ Q (.bl k) H
theorem c_bool {X : Cx} : CallR X (.type "bool") rBoolB := call_bool1
theorem v_gTup3 {K : PySem.W.Frag} {n i j l : Nat} {σ : L2.St} {H : Hp} {Q : L2.St → Hp → Prop} {p : Addr} {a b c : V} (hn : n = 3) (h : H p = some (.tup [a, b, c])) (q : Q (((σ.set i (some a)).set j (some b)).set l (some c)) H) : gTup K n (gCons (gName i) (gCons (gName j) (gCons (gName l) gNil))) (.ref p) σ H Q :=
  ⟨p, _, rfl, SqT.of h, hn.symm, a, [b, c], rfl, b, [c], rfl, c, [], rfl, rfl, q⟩
end Cw
set_option Elab.async false
set_option linter.all false
set_option maxRecDepth 100000
set_option maxHeartbeats 4000000
/-! x in c, by c's own __contains__ -/
namespace Cw
open PySem PySem.Spec L2
section
variable {X : Cx} {CX : CXT} {k : Nat} {C : Addr} {m : Str} {ps : List Str} {sp : Sp} {E : XK}
def rMIn (C : Addr) (sp : Sp) (E : XK) (n : Bool) : R2 := fun x y H Q => ∃ a dx fs, y = .ref a ∧ H a = some (.ins C dx fs) ∧ sp [.ref a, x] H (fun v H' => ∃ b, v = .bl b ∧ Q (.bl (b != n)) H') E
theorem in_run {Q : VK} {n : Bool} (D : MDef X.prog X.w X.K X.mg X.base CX k C "__contains__" ps sp) (hr : Room k X.A) (hx : Passes CX X E) {pins : List (Addr × Obj)} {s : Shared} {σ : St} {H : Hp} {x y : V} {v u : Value} (I : Inv X pins σ H s) (rx : RelV x v) (ry : RelV y u) (h : rMIn C sp E n x y H Q) :
    wpAny (model X.prog X.w) X.A (contains u v) (fun b s' => EP X pins σ Q (.bool (b != n)) s') X.xe s := by
  obtain ⟨f, fd, h1, h2, kp, ⟨hb, _⟩, F⟩ := D.ex
  obtain ⟨a, dx, fs, rfl, ha, hq⟩ := h
  cases ry
  obtain ⟨mA, J, _⟩ := ins_get I.hok ha
  obtain ⟨od, J, _⟩ := J.look
  obtain ⟨mm, hF⟩ := I.fr
  refine PySem.W.contains_K hF I.ok.mod.kin J h1 h2 ?_
  have z := run_fn (us := [.ref a, v]) (vs := [.ref a, x]) (dvs := []) F hr hb .nil hx I (.cons rfl (.cons rx .nil)) hq
  refine wpAny_mono z (fun w s' q => ?_) fun _ _ q => q
  obtain ⟨y, H', I', r, b, rfl, q⟩ := q
  cases r
  exact wpAny_truthy_bool ⟨.bl (b != n), H', I', rfl, q⟩
theorem op_inM (D : MDef X.prog X.w X.K X.mg X.base CX k C "__contains__" ps sp) (hr : Room k X.A) (hx : Passes CX X E) : OpR X (compareOp .In) (rMIn C sp E false) := by
  intro pins s σ H x y v u Q I rx ry h
  show wpAny (model X.prog X.w) X.A (contains u v >>= fun b => pure (Value.bool b)) _ _ _
  refine wpAny_bind (wpAny_mono (in_run D hr hx I rx ry h) (fun b s' q => wpAny_pure ?_) fun _ _ q => q)
  simpa using q
theorem op_notInM (D : MDef X.prog X.w X.K X.mg X.base CX k C "__contains__" ps sp) (hr : Room k X.A) (hx : Passes CX X E) : OpR X (compareOp .NotIn) (rMIn C sp E true) := by
  intro pins s σ H x y v u Q I rx ry h
  show wpAny (model X.prog X.w) X.A (contains u v >>= fun b => pure (Value.bool (!b))) _ _ _
  refine wpAny_bind (wpAny_mono (in_run D hr hx I rx ry h) (fun b s' q => wpAny_pure ?_) fun _ _ q => q)
  simpa using q
end
section
variable {σ : St} {H : Hp} {Q : VK}
theorem v_MIn {C : Addr} {sp : Sp} {E : XK} {a dx : Addr} {fs : List (Str × V)} {x : V} {n : Bool} (h : H a = some (.ins C dx fs)) (q : sp [.ref a, x] H (fun v H' => ∃ b, v = .bl b ∧ Q (.bl (b != n)) H') E) : rMIn C sp E n x (.ref a) H Q := ⟨a, dx, fs, rfl, h, q⟩
end
end Cw
set_option Elab.async false
set_option linter.all false
set_option maxRecDepth 100000
set_option maxHeartbeats 4000000
/-! C.f(..), f a static method; o.f, f a property -/
namespace Cw
open PySem PySem.Spec L2
/-- the static method f of the class at C -/
structure StAt (K : PySem.W.Frag) (C : Addr) (f qual : Str) (st : Stmt) : Prop where
  ex : ∃ (mc : Value) (p g : Addr) (rest : List Value) (fd : FuncData), ClX.CRead K C mc ∧ PySem.W.findCls K (.ref C) mc f = some (.get (.builtin "staticmethod.__get__") (.ref p) .none (.ref C)) ∧ PySem.W.recIn K p "staticmethod" = some (.ref g :: rest) ∧ Fun K f qual st g fd
structure StDef (P : Program) (w : World) (K : PySem.W.Frag) (mg : Str → Option Value) (base : Heap) (CX : CXT) (k : Nat) (C : Addr) (f : Str) (sp : Sp) : Prop where
  ex : ∃ (mc : Value) (p g : Addr) (rest : List Value) (fd : FuncData) (ps : List Str), ClX.CRead K C mc ∧ PySem.W.findCls K (.ref C) mc f = some (.get (.builtin "staticmethod.__get__") (.ref p) .none (.ref C)) ∧ PySem.W.recIn K p "staticmethod" = some (.ref g :: rest) ∧ PySem.W.keepIn K (.ref g) = true ∧ Binds K fd ps [] ∧ FnOk P w K mg base CX k g fd ps sp
/-- the property f of the class at C -/
structure PrAt (K : PySem.W.Frag) (C : Addr) (f qual : Str) (st : Stmt) : Prop where
  ex : ∃ (p g : Addr) (fd : FuncData), PropOf K C f p g ∧ Fun K f qual st g fd
structure PrDef (P : Program) (w : World) (K : PySem.W.Frag) (mg : Str → Option Value) (base : Heap) (CX : CXT) (k : Nat) (C : Addr) (f : Str) (sp : Sp) : Prop where
  ex : ∃ (p g : Addr) (fd : FuncData) (ps : List Str), PropOf K C f p g ∧ Binds K fd ps [] ∧ FnOk P w K mg base CX k g fd ps sp
section
variable {P : Program} {w : World} {K : PySem.W.Frag} {mg : Str → Option Value} {base : Heap} {CX : CXT} {j k : Nat} {C : Addr} {f qual : Str} {ps N : List Str} {sp : Sp} {st : Stmt}
theorem StDef.mono (D : StDef P w K mg base CX j C f sp) (h : j ≤ k) : StDef P w K mg base CX k C f sp := by
  obtain ⟨mc, p, g, rest, fd, ps, a, b, c, d, e, F⟩ := D.ex
  exact ⟨mc, p, g, rest, fd, ps, a, b, c, d, e, F.mono h⟩
theorem PrDef.mono (D : PrDef P w K mg base CX j C f sp) (h : j ≤ k) : PrDef P w K mg base CX k C f sp := by
  obtain ⟨p, g, fd, ps, a, b, F⟩ := D.ex
  exact ⟨p, g, fd, ps, a, b, F.mono h⟩
theorem StAt.ok (F : StAt K C f qual st) (S : FnScope N ps (defScope st))
    (hb : ∀ (kV doc pm : Value) (an : Option Addr) (cdv ct : Value) (us : List Value), us.length = ps.length → bindArgs (PySem.W.fnOf f qual (defArgs st) (defBody st) (defScope st) .none kV doc pm an cdv ct) ⟨us, []⟩ = pure (ps.zip us))
    (len : ∀ vs H Q E, sp vs H Q E → vs.length = ps.length)
    (hbody : ∀ (f : Addr) (cdv : Value) (A : Around) (outer : List Env) (s : Shared) (H : Hp) (vs : List V) (Q : VK) (E : XK), Room k (A.deeper (PyProof.Rows.envOfC qual (defScope st) s.heap.objs.size f cdv)) → sp vs H Q E →
      ∃ t, PSs (cxOf CX0 P w K mg base N qual (defScope st) f cdv A outer s H E).nox (defBody st) t ∧ t { nx := fun _ H' => Q .non H', rt := Q } (start N vs) H) : StDef P w K mg base CX0 (k + 1) C f sp := by
  obtain ⟨mc, p, g, rest, fd, a, b, c, G⟩ := F.ex
  exact ⟨mc, p, g, rest, fd, ps, a, b, c, G.kp, G.binds hb, G.ok S len fun cdv A outer s H vs Q E hr h => hbody g cdv A outer s H vs Q E hr h⟩
theorem PrAt.ok (F : PrAt K C f qual st) (S : FnScope N ps (defScope st))
    (hb : ∀ (kV doc pm : Value) (an : Option Addr) (cdv ct : Value) (us : List Value), us.length = ps.length → bindArgs (PySem.W.fnOf f qual (defArgs st) (defBody st) (defScope st) .none kV doc pm an cdv ct) ⟨us, []⟩ = pure (ps.zip us))
    (len : ∀ vs H Q E, sp vs H Q E → vs.length = ps.length)
    (hbody : ∀ (f : Addr) (cdv : Value) (A : Around) (outer : List Env) (s : Shared) (H : Hp) (vs : List V) (Q : VK) (E : XK), Room k (A.deeper (PyProof.Rows.envOfC qual (defScope st) s.heap.objs.size f cdv)) → sp vs H Q E →
      ∃ t, PSs (cxOf CX0 P w K mg base N qual (defScope st) f cdv A outer s H E).nox (defBody st) t ∧ t { nx := fun _ H' => Q .non H', rt := Q } (start N vs) H) : PrDef P w K mg base CX0 (k + 1) C f sp := by
  obtain ⟨p, g, fd, a, G⟩ := F.ex
  exact ⟨p, g, fd, ps, a, G.binds hb, G.ok S len fun cdv A outer s H vs Q E hr h => hbody g cdv A outer s H vs Q E hr h⟩
end
section
variable {X : Cx} {CX : CXT} {k : Nat} {C : Addr} {x f : Str} {sp : Sp} {E : XK} {e o : Expr} {es : List Expr} {p apos pos : PySem.Pos} {t : TA} {ta : TE} {pl : Sem Bool}
theorem pe_stc (D : StDef X.prog X.w X.K X.mg X.base CX k C f sp) (hm : X.mg x = some (.ref C)) (hr : Room k X.A) (hx : Passes CX X E) (ha : PA X (e :: es) t) (hg : Gl X x := by rfl) (hdb : (x == ("__debug__" : Str)) = false := by decide)
    (hst : starEach (e :: es) X.env = (false, eval e X.env) :: starEach es X.env := by rfl) (hpl : (backTo pos (starEach es X.env)).any (·.1) = false := by rfl)
    (ht : eval (.Call (.Attribute (.Name x p) f apos) (e :: es) [] pos) X.env = (do
      let ov ← eval (.Name x p) X.env
      standAt apos.atName
      let (f, first) ← holding [ov] (getMethod ov f pl)
      callWith pos f first (backTo pos (starEach (e :: es) X.env)) (backToKw pos (keywordEach [] X.env))) := by rfl) :
    PE X (.Call (.Attribute (.Name x p) f apos) (e :: es) [] pos) (tCall sp [] E t) := by
  obtain ⟨mc, q, g, rest, fd, ps, r, a, b, c, hb, F⟩ := D.ex
  refine ⟨fun pins s σ H Q I h => ?_⟩
  refine PySem.W.methodCall_KW (pl := pl) (ld_glob I hg hm ?_ hdb) ht
  refine PySem.W.method_cls I.kIn r.ga (PySem.W.cls_bind I.kIn r.rd a ?_)
  refine wpAny_call (PySem.W.sm_get (s := { s with toks := s.toks + 1 }) I.kIn b (PySem.W.handed_on rfl ?_))
  refine PySem.W.callWith_K (first := []) (h₀ := X.base) I.ok.mod.kin c (thn (ha.run pos pins _ σ H _ (I.tok _) h) fun us s1 ⟨vs, H1, I1, r1, q1⟩ => ⟨I1.kIn, ?_⟩) hst hpl
  exact run_fn F hr hb .nil hx I1 r1 q1
end
end Cw
set_option Elab.async false
set_option linter.all false
set_option maxRecDepth 100000
set_option maxHeartbeats 4000000
/-! the walls on shortest ways from home, as lists of marks -/
namespace Cw
/-- without two that are alike -/
def NdV (ls : List Nat) (us : List (Nat → Int)) : Prop := us.Pairwise fun u v => ¬ ∀ x ∈ ls, u x = v x
theorem key_iff {ls : List Nat} {u v : Nat → Int} : ls.map u = ls.map v ↔ ∀ x ∈ ls, u x = v x := by
  induction ls with
  | nil => exact ⟨fun _ _ h => (nomatch h), fun _ => rfl⟩
  | cons y r ih =>
    rw [List.map_cons, List.map_cons, List.cons.injEq, ih]
    exact ⟨fun h x hx => (List.mem_cons.mp hx).elim (fun z => z ▸ h.1) (h.2 x), fun h => ⟨h y (List.mem_cons_self ..), fun x hx => h x (List.mem_cons_of_mem _ hx)⟩⟩
theorem NdV.key {ls : List Nat} {us : List (Nat → Int)} (h : NdV ls us) : (us.map fun u => ls.map u).Nodup := by
  unfold List.Nodup
  rw [List.pairwise_map]
  exact h.imp fun {a b} n z => n (key_iff.mp z)
section
variable {f : Nat → List Nat} {ls : List Nat} {s : Nat}
/-! ### the middle -/
end
end Cw
set_option Elab.async false
set_option linter.all false
set_option maxRecDepth 100000
set_option maxHeartbeats 4000000
/-! the walls between two rooms, in plain words -/
namespace Cw
/-- a wall by the room that touches it and its kind -/
structure KeyOk (fn : Nat → List Nat) (ls : List Nat) (m : List Nat) (k : Nat) : Prop where
  nf : NF fn m
  mem : ∀ y ∈ m, y ∈ ls
  hk : k ∈ ls
  td : ¬ desc fn k m.reverse
  fr : ∀ t ∈ fn k, ¬ desc fn t m.reverse
section
variable {f : Nat → List Nat} {ls : List Nat} {s : Nat}
end
end Cw
set_option Elab.async false
set_option linter.all false
set_option maxRecDepth 100000
set_option maxHeartbeats 4000000
/-! [e for i, x in enumerate(list)] -/
namespace Cw
open PySem PySem.Spec L2
section
variable {K : PySem.W.Frag} {σ : L2.St} {H : Hp} {i j : Nat} {tt : TT} {te : TE} {P : Addr → Hp → Prop} {a : Addr}
end
end Cw
set_option Elab.async false
set_option linter.all false
set_option maxRecDepth 100000
set_option maxHeartbeats 4000000
/-! enumerate(tuple) -/
namespace PySem
open Sem (wp)
open AutoSeq1 (wpAny_loadPart')
section
variable {prog : Program} {w : World} {A : Around} {E : Value → Shared → Prop} {s : Shared}
end
end PySem
namespace Cw
open PySem PySem.Spec L2
end Cw
set_option Elab.async false
set_option linter.all false
set_option maxRecDepth 100000
set_option maxHeartbeats 4000000
/-! lists and tuples of objects, each of which stands for a value -/
namespace Cw
open PySem PySem.Spec L2
section
variable {α : Type} {R : Hp → Addr → α → Prop} {H H' : Hp} {t : Addr} {D : List α}
/-- the values, each with its object -/
abbrev refV (E : List (α × Addr)) : List V := E.map fun e => V.ref e.2
structure RefsL (R : Hp → Addr → α → Prop) (H : Hp) (t : Addr) (D : List α) : Prop where
  ex : ∃ E : List (α × Addr), E.map (·.1) = D ∧ H t = some (.lst (refV E)) ∧ ∀ e ∈ E, R H e.2 e.1
structure RefsT (R : Hp → Addr → α → Prop) (H : Hp) (t : Addr) (D : List α) : Prop where
  ex : ∃ E : List (α × Addr), E.map (·.1) = D ∧ H t = some (.tup (refV E)) ∧ ∀ e ∈ E, R H e.2 e.1
theorem RefsL.same (h : RefsL R H t D) (s : Same H H') (hr : ∀ p a, R H p a → R H' p a) : RefsL R H' t D := by
  obtain ⟨E, e1, e2, e3⟩ := h.ex
  exact ⟨E, e1, s _ _ e2, fun e he => hr _ _ (e3 e he)⟩
theorem RefsT.same (h : RefsT R H t D) (s : Same H H') (hr : ∀ p a, R H p a → R H' p a) : RefsT R H' t D := by
  obtain ⟨E, e1, e2, e3⟩ := h.ex
  exact ⟨E, e1, s _ _ e2, fun e he => hr _ _ (e3 e he)⟩
theorem refs_of : ∀ {vs : List V} {D : List α}, vs.length = D.length → (∀ (k : Nat) v d, vs[k]? = some v → D[k]? = some d → ∃ p, v = .ref p ∧ R H p d) → ∃ E : List (α × Addr), E.map (·.1) = D ∧ vs = refV E ∧ ∀ e ∈ E, R H e.2 e.1
  | [], [], _, _ => ⟨[], rfl, rfl, fun _ z => nomatch z⟩
  | [], _ :: _, h, _ => nomatch h
  | _ :: _, [], h, _ => nomatch h
  | v :: vs, d :: D, hl, h => by
    obtain ⟨p, rfl, r⟩ := h 0 v d rfl rfl
    obtain ⟨E, e1, e2, e3⟩ := refs_of (vs := vs) (D := D) (Nat.succ.inj hl) fun k v d h1 h2 => h (k + 1) v d h1 h2
    refine ⟨(d, p) :: E, by rw [List.map_cons, e1], by rw [e2]; rfl, fun e he => ?_⟩
    rcases List.mem_cons.mp he with rfl | he
    · exact r
    · exact e3 e he
theorem walk_refE {K : PySem.W.Frag} {E : List (α × Addr)} : Walk (Itl K t) E.length (fun H => SqL K H t (refV E)) (fun k H x H' => H' = H ∧ ∃ e, E[k]? = some e ∧ x = V.ref e.2) := by
  have w := walk_list (K := K) (a := t) (xs := refV E)
  rw [List.length_map] at w
  refine w.mono (fun _ z => z) fun i H x H' hi _ y => ?_
  obtain ⟨rfl, e⟩ := y
  rw [List.getElem?_map] at e
  obtain ⟨z, h1, h2⟩ := Option.map_eq_some_iff.mp e
  exact ⟨rfl, z, h1, h2.symm⟩
theorem take_succ_get {l : List α} {i : Nat} {a : α} (h : l[i]? = some a) : l.take (i + 1) = l.take i ++ [a] := by rw [List.take_succ, h]; rfl
theorem refs_get {E : List (α × Addr)} {i : Nat} {e : α × Addr} (h : E[i]? = some e) : (E.map (·.1))[i]? = some e.1 := by rw [List.getElem?_map, h]; rfl
end
/-- a list whose image is another order of an image -/
theorem perm_map_ex {α β : Type} {g : α → β} {m m' : List β} (h : m'.Perm m) : ∀ {l : List α}, m = l.map g → ∃ r : List α, r.Perm l ∧ m' = r.map g := by
  induction h with
  | nil => exact fun {l} e => ⟨[], by rw [List.map_eq_nil_iff.mp e.symm], rfl⟩
  | cons x p ih =>
    intro l e
    match l, e with
    | a :: l, e =>
      injection e with e1 e2
      obtain ⟨r, h1, h2⟩ := ih e2
      exact ⟨a :: r, h1.cons a, by rw [h2, e1]; rfl⟩
  | swap x y p =>
    intro l e
    match l, e with
    | a :: b :: l, e =>
      injection e with e1 e2
      injection e2 with e2 e3
      exact ⟨b :: a :: l, List.Perm.swap a b l, by rw [e1, e2, e3]; rfl⟩
  | trans p q ih1 ih2 =>
    intro l e
    obtain ⟨r, h1, h2⟩ := ih2 e
    obtain ⟨r', h3, h4⟩ := ih1 h2
    exact ⟨r', h3.trans h1, h4⟩
section
variable {K : PySem.W.Frag} {H H0 : Hp} {p : Addr} {te0 te : TE} {σ : L2.St}
/-- a loop over a list or a tuple -/
theorem e_forSeqA {xs : List V} {g : TG} {tb : TS} {D : Ends} (hp : SeqO K H0 p xs) (s0 : Same H0 H) (ht : ∀ Q : VK, Q (.ref p) H → te0 σ H Q) (Pv : Nat → L2.St → Hp → Prop) (h0 : Pv 0 σ H) (hG : ∀ i σ' H', Pv i σ' H' → Same H0 H')
    (hs : ∀ i x σ H1, xs[i]? = some x → Pv i σ H1 → g x σ H1 fun σ2 H2 => tb { D with nx := Pv (i + 1), ct := Pv (i + 1), bk := D.nx } σ2 H2) (hd : ∀ σ H, Pv xs.length σ H → D.nx σ H) : tFor (iOr (iList K te0) (iTup K te0)) g tb D σ H := by
  rcases hp with hp | hp | ⟨rfl, o, n, h, c, e⟩
  · refine Or.inl (ht _ ⟨p, rfl, ⟨xs, SqL.of (s0 _ _ hp)⟩, for_it (walk_list (K := K) (xs := xs)) Pv h0 (fun i σ' H' _ z => SqL.of (hG i σ' H' z _ _ hp)) (fun i v σ' H1 H2 hi pv y => ?_) hd⟩)
    obtain ⟨rfl, hx⟩ := y
    exact hs i v σ' _ hx pv
  · refine Or.inr (ht _ ⟨p, rfl, ⟨xs, SqT.of (s0 _ _ hp)⟩, for_it (walk_tup (K := K) (xs := xs)) Pv h0 (fun i σ' H' _ z => SqT.of (hG i σ' H' z _ _ hp)) (fun i v σ' H1 H2 hi pv y => ?_) hd⟩)
    obtain ⟨rfl, hx⟩ := y
    exact hs i v σ' _ hx pv
  · have k0 : ∀ H', SqT K H' p [] := fun H' => .inr ⟨o, #[], n, h, c, e, by decide, .nil⟩
    exact Or.inr (ht _ ⟨p, rfl, ⟨[], k0 _⟩, for_it (walk_tup (K := K) (xs := [])) Pv h0 (fun i σ' H' _ z => k0 _) (fun i v σ' H1 H2 hi _ _ => absurd hi (Nat.not_lt_zero _)) hd⟩)
variable {α : Type} {E : List (α × Addr)} {R' : Hp → V → α → Prop} {i : Nat} {tt : TT} {Q : VK}
theorem refV_get {k : Nat} {e : α × Addr} (h : E[k]? = some e) : (refV E).getD k .non = .ref e.2 := by rw [List.getD_eq_getElem?_getD, List.getElem?_map, h]; rfl
theorem lc_refsW {P : Addr → Hp → Prop} {J : It} {G : Hp → Prop} (w : Walk J E.length G (fun k H x H' => H' = H ∧ x = (refV E).getD k .non)) (hG : ∀ H', Same H H' → G H') (hl : E.length ≤ 1000000) (m1 : ∀ v a H1 H2, R' H1 v a → Same H1 H2 → R' H2 v a) (m2 : ∀ v a H1 H2 D l, R' H1 v a → H1 D = some (.lst l) → Keep D H1 H2 → R' H2 v a)
    (ht : ∀ e ∈ E, ∀ H1, Same H H1 → ∀ R : Bool → Hp → Prop, (∀ H2, Same H1 H2 → R true H2) → tt ((wipe σ [i]).set i (some (.ref e.2))) H1 R)
    (he : ∀ e ∈ E, ∀ H1, Same H H1 → ∀ R : VK, (∀ v H2, Same H1 H2 → R' H2 v e.1 → R v H2) → te ((wipe σ [i]).set i (some (.ref e.2))) H1 R)
    (q : ∀ D H' vs, H D = none → Same H H' → H' D = some (.lst vs) → vs.length = E.length → (∀ (k : Nat) (v : V) (e : α × Addr), vs[k]? = some v → E[k]? = some e → R' H' v e.1) → P D H') :
    ∀ D, H D = none → ∃ W : Nat → Nat → Hp → Prop, (∃ m, W 0 m (upd H D (.lst []))) ∧ ∀ k m H, W k m H →
      (J.stop k H ∧ P D H) ∨ (J.go k H ∧ ∃ Nx : Hp → Prop, (∀ H', Nx H' → ∃ m', m' < m ∧ W (k + 1) m' H') ∧ ∀ x H', J.yld k H x H' → (gName i) x (wipe σ [i]) H' fun s2 H2 => wipe s2 [i] = wipe σ [i] ∧ tt s2 H2 fun c H3 =>
        if c = true then te s2 H3 fun y H4 => ∃ acc, H4 D = some (.lst acc) ∧ acc.length < sizeLine ∧ Nx (upd H4 D (.lst (acc ++ [y]))) else Nx H3) := by
  refine lc_mapA (P := P) (fun k v H' => ∀ e, E[k]? = some e → R' H' v e.1) w hG hl (fun k v H1 H2 h s e z => m1 _ _ _ _ (h e z) s) (fun k v H1 H2 D l h e0 kp e z => m2 _ _ _ _ _ _ (h e z) e0 kp) (fun k hk H1 s1 R r => ?_) (fun k hk H1 s1 R r => ?_) (fun D H' vs hD s e l h => q D H' vs hD s e l fun k v e h1 h2 => h k v h1 e h2)
  · have z : E[k]? = some E[k] := List.getElem?_eq_getElem hk
    rw [refV_get z]
    exact ht _ (List.getElem_mem hk) H1 s1 R r
  · have z : E[k]? = some E[k] := List.getElem?_eq_getElem hk
    rw [refV_get z]
    exact he _ (List.getElem_mem hk) H1 s1 R fun v H2 s2 h => r v H2 s2 fun e h2 => by
      rw [z] at h2
      injection h2 with h2
      rw [← h2]
      exact h
theorem yld_get {xs : List V} {k : Nat} {v : V} (h : xs[k]? = some v) : v = xs.getD k .non := by rw [List.getD_eq_getElem?_getD, h]; rfl
/-- a comprehension over a list or a tuple of objects -/
theorem i_refs {P : Addr → Hp → Prop} (hp : SeqO K H0 p (refV E)) (s0 : Same H0 H) (hl : E.length ≤ 1000000) (ht0 : ∀ Q : VK, Q (.ref p) H → te0 σ H Q) (m1 : ∀ v a H1 H2, R' H1 v a → Same H1 H2 → R' H2 v a) (m2 : ∀ v a H1 H2 D l, R' H1 v a → H1 D = some (.lst l) → Keep D H1 H2 → R' H2 v a)
    (ht : ∀ e ∈ E, ∀ H1, Same H H1 → ∀ R : Bool → Hp → Prop, (∀ H2, Same H1 H2 → R true H2) → tt ((wipe σ [i]).set i (some (.ref e.2))) H1 R)
    (he : ∀ e ∈ E, ∀ H1, Same H H1 → ∀ R : VK, (∀ v H2, Same H1 H2 → R' H2 v e.1 → R v H2) → te ((wipe σ [i]).set i (some (.ref e.2))) H1 R)
    (q : ∀ D H' vs, H D = none → Same H H' → H' D = some (.lst vs) → vs.length = E.length → (∀ (k : Nat) (v : V) (e : α × Addr), vs[k]? = some v → E[k]? = some e → R' H' v e.1) → P D H') : iOr (iList K te0) (iTup K te0) σ H fun J H1 => ∀ D, H1 D = none → ∃ W : Nat → Nat → Hp → Prop, (∃ m, W 0 m (upd H1 D (.lst []))) ∧ ∀ k m H, W k m H →
      (J.stop k H ∧ P D H) ∨ (J.go k H ∧ ∃ Nx : Hp → Prop, (∀ H', Nx H' → ∃ m', m' < m ∧ W (k + 1) m' H') ∧ ∀ x H', J.yld k H x H' → (gName i) x (wipe σ [i]) H' fun s2 H2 => wipe s2 [i] = wipe σ [i] ∧ tt s2 H2 fun c H3 =>
        if c = true then te s2 H3 fun y H4 => ∃ acc, H4 D = some (.lst acc) ∧ acc.length < sizeLine ∧ Nx (upd H4 D (.lst (acc ++ [y]))) else Nx H3) := by
  rcases hp with hp | hp | ⟨hn, o, n, h, c, e⟩
  · refine Or.inl (ht0 _ ⟨p, rfl, ⟨_, SqL.of (s0 _ _ hp)⟩, ?_⟩)
    have w := walk_list (K := K) (a := p) (xs := refV E)
    rw [List.length_map] at w
    exact lc_refsW (P := P) (w.mono (G' := fun H' => Same H H') (fun H' s => SqL.of (s _ _ (s0 _ _ hp))) fun k H' v H2 hk _ y => ⟨y.1, yld_get y.2⟩) (fun _ s => s) hl m1 m2 ht he q
  · refine Or.inr (ht0 _ ⟨p, rfl, ⟨_, SqT.of (s0 _ _ hp)⟩, ?_⟩)
    have w := walk_tup (K := K) (a := p) (xs := refV E)
    rw [List.length_map] at w
    exact lc_refsW (P := P) (w.mono (G' := fun H' => Same H H') (fun H' s => SqT.of (s _ _ (s0 _ _ hp))) fun k H' v H2 hk _ y => ⟨y.1, yld_get y.2⟩) (fun _ s => s) hl m1 m2 ht he q
  · have k0 : ∀ H', SqT K H' p [] := fun H' => .inr ⟨o, #[], n, h, c, e, by decide, .nil⟩
    obtain rfl : E = [] := List.map_eq_nil_iff.mp hn
    refine Or.inr (ht0 _ ⟨p, rfl, ⟨[], k0 _⟩, ?_⟩)
    exact lc_refsW (P := P) (E := ([] : List (α × Addr))) ((walk_tup (K := K) (a := p) (xs := [])).mono (G' := fun H' => Same H H') (fun H' s => k0 _) fun k H' v H2 hk _ y => absurd hk (Nat.not_lt_zero _)) (fun _ s => s) (Nat.zero_le _) m1 m2 ht he q
/-- .. over a list -/
theorem lc_refsL {P : Addr → Hp → Prop} (hp : H p = some (.lst (refV E))) (hl : E.length ≤ 1000000) (m1 : ∀ v a H1 H2, R' H1 v a → Same H1 H2 → R' H2 v a) (m2 : ∀ v a H1 H2 D l, R' H1 v a → H1 D = some (.lst l) → Keep D H1 H2 → R' H2 v a)
    (ht : ∀ e ∈ E, ∀ H1, Same H H1 → ∀ R : Bool → Hp → Prop, (∀ H2, Same H1 H2 → R true H2) → tt ((wipe σ [i]).set i (some (.ref e.2))) H1 R)
    (he : ∀ e ∈ E, ∀ H1, Same H H1 → ∀ R : VK, (∀ v H2, Same H1 H2 → R' H2 v e.1 → R v H2) → te ((wipe σ [i]).set i (some (.ref e.2))) H1 R)
    (q : ∀ D H' vs, H D = none → Same H H' → H' D = some (.lst vs) → vs.length = E.length → (∀ (k : Nat) (v : V) (e : α × Addr), vs[k]? = some v → E[k]? = some e → R' H' v e.1) → P D H') :
    ∀ D, H D = none → ∃ W : Nat → Nat → Hp → Prop, (∃ m, W 0 m (upd H D (.lst []))) ∧ ∀ k m H, W k m H →
      ((Itl K p).stop k H ∧ P D H) ∨ ((Itl K p).go k H ∧ ∃ Nx : Hp → Prop, (∀ H', Nx H' → ∃ m', m' < m ∧ W (k + 1) m' H') ∧ ∀ x H', (Itl K p).yld k H x H' → (gName i) x (wipe σ [i]) H' fun s2 H2 => wipe s2 [i] = wipe σ [i] ∧ tt s2 H2 fun c H3 =>
        if c = true then te s2 H3 fun y H4 => ∃ acc, H4 D = some (.lst acc) ∧ acc.length < sizeLine ∧ Nx (upd H4 D (.lst (acc ++ [y]))) else Nx H3) := by
  have w := walk_list (K := K) (a := p) (xs := refV E)
  rw [List.length_map] at w
  exact lc_refsW (P := P) (w.mono (G' := fun H' => Same H H') (fun H' s => SqL.of (s _ _ hp)) fun k H' v H2 hk _ y => ⟨y.1, yld_get y.2⟩) (fun _ s => s) hl m1 m2 ht he q
/-- .. over a tuple -/
theorem lc_refsT {P : Addr → Hp → Prop} (hp : H p = some (.tup (refV E))) (hl : E.length ≤ 1000000) (m1 : ∀ v a H1 H2, R' H1 v a → Same H1 H2 → R' H2 v a) (m2 : ∀ v a H1 H2 D l, R' H1 v a → H1 D = some (.lst l) → Keep D H1 H2 → R' H2 v a)
    (ht : ∀ e ∈ E, ∀ H1, Same H H1 → ∀ R : Bool → Hp → Prop, (∀ H2, Same H1 H2 → R true H2) → tt ((wipe σ [i]).set i (some (.ref e.2))) H1 R)
    (he : ∀ e ∈ E, ∀ H1, Same H H1 → ∀ R : VK, (∀ v H2, Same H1 H2 → R' H2 v e.1 → R v H2) → te ((wipe σ [i]).set i (some (.ref e.2))) H1 R)
    (q : ∀ D H' vs, H D = none → Same H H' → H' D = some (.lst vs) → vs.length = E.length → (∀ (k : Nat) (v : V) (e : α × Addr), vs[k]? = some v → E[k]? = some e → R' H' v e.1) → P D H') :
    ∀ D, H D = none → ∃ W : Nat → Nat → Hp → Prop, (∃ m, W 0 m (upd H D (.lst []))) ∧ ∀ k m H, W k m H →
      ((Itt K p).stop k H ∧ P D H) ∨ ((Itt K p).go k H ∧ ∃ Nx : Hp → Prop, (∀ H', Nx H' → ∃ m', m' < m ∧ W (k + 1) m' H') ∧ ∀ x H', (Itt K p).yld k H x H' → (gName i) x (wipe σ [i]) H' fun s2 H2 => wipe s2 [i] = wipe σ [i] ∧ tt s2 H2 fun c H3 =>
        if c = true then te s2 H3 fun y H4 => ∃ acc, H4 D = some (.lst acc) ∧ acc.length < sizeLine ∧ Nx (upd H4 D (.lst (acc ++ [y]))) else Nx H3) := by
  have w := walk_tup (K := K) (a := p) (xs := refV E)
  rw [List.length_map] at w
  exact lc_refsW (P := P) (w.mono (G' := fun H' => Same H H') (fun H' s => SqT.of (s _ _ hp)) fun k H' v H2 hk _ y => ⟨y.1, yld_get y.2⟩) (fun _ s => s) hl m1 m2 ht he q
end
end Cw
set_option Elab.async false
set_option linter.all false
set_option maxRecDepth 100000
/-! x or y by truth -/
namespace Cw
open PySem PySem.Spec L2
theorem pe_orTK {X : Cx} {K : PySem.W.Frag} {a b : Expr} {rest : List Expr} {pos : PySem.Pos} {ta tb : TE} (h : X.K = K) (ha : PE X a ta) (hb : PE X (.BoolOp .Or (b :: rest) pos) tb) : PE X (.BoolOp .Or (a :: b :: rest) pos) (tOrT K ta tb) := h ▸ pe_orT ha hb
theorem e_orT {K : PySem.W.Frag} {ta tb : TE} {σ : L2.St} {H : Hp} {Q : VK} (q : ta σ H fun x H1 => ∃ k, TruV K x H1 k ∧ if k = true then Q x H1 else tb σ H1 Q) : tOrT K ta tb σ H Q := q
theorem v_isN0 {H : Hp} {Q : VK} {v : V} (q : Q (.bl (decide (v = .non))) H) : rIsN v .non H Q := ⟨rfl, q⟩
theorem v_notN0 {H : Hp} {Q : VK} {v : V} (q : Q (.bl (!decide (v = .non))) H) : rNotN v .non H Q := ⟨rfl, q⟩
end Cw
set_option Elab.async false
set_option linter.all false
set_option maxRecDepth 100000
set_option maxHeartbeats 4000000
/-! tuples of the same values, compared -/
namespace Cw
open PySem PySem.Spec PyProof.Rows L2
theorem OpR.or {X : Cx} {op : Value → Value → Sem Value} {r1 r2 : R2} (h1 : OpR X op r1) (h2 : OpR X op r2) : OpR X op (fun x y H Q => r1 x y H Q ∨ r2 x y H Q) := by
  intro pins s σ H x y v u Q I rx ry h
  rcases h with h | h
  · exact h1 pins s σ H x y v u Q I rx ry h
  · exact h2 pins s σ H x y v u Q I rx ry h
section
variable {X : Cx} {K : PySem.W.Frag}
end
end Cw
set_option Elab.async false
set_option linter.all false
set_option maxRecDepth 100000
set_option maxHeartbeats 4000000
/-! raising: a static method, an __init__ without defaults; static calls within a try; lists of the same values, compared -/
namespace Cw
open PySem PySem.Spec PyProof.Rows L2
section
variable {P : Program} {w : World} {K : PySem.W.Frag} {mg : Str → Option Value} {base : Heap} {k : Nat} {C : Addr} {x f qual : Str} {ps N : List Str} {sp sp0 : Sp} {st : Stmt}
theorem StAt.okR (F : StAt K C f qual st) (S : FnScope N ps (defScope st))
    (hb : ∀ (kV doc pm : Value) (an : Option Addr) (cdv ct : Value) (us : List Value), us.length = ps.length → bindArgs (PySem.W.fnOf f qual (defArgs st) (defBody st) (defScope st) .none kV doc pm an cdv ct) ⟨us, []⟩ = pure (ps.zip us))
    (len : ∀ vs H Q E, sp vs H Q E → vs.length = ps.length)
    (hbody : ∀ (f : Addr) (cdv : Value) (A : Around) (outer : List Env) (s : Shared) (H : Hp) (vs : List V) (Q : VK) (E : XK), Room k (A.deeper (PyProof.Rows.envOfC qual (defScope st) s.heap.objs.size f cdv)) → sp vs H Q E →
      ∃ t, PSs (cxOf (L2.CX P w) P w K mg base N qual (defScope st) f cdv A outer s H E) (defBody st) t ∧ t { nx := fun _ H' => Q .non H', rt := Q } (start N vs) H) : StDef P w K mg base (L2.CX P w) (k + 1) C f sp := by
  obtain ⟨mc, p, g, rest, fd, a, b, c, G⟩ := F.ex
  exact ⟨mc, p, g, rest, fd, ps, a, b, c, G.kp, G.binds hb, G.okX S len fun cdv A outer s H vs Q E hr h => hbody g cdv A outer s H vs Q E hr h⟩
end
section
variable {X : Cx} {CX : CXT} {k : Nat} {C : Addr} {x f : Str} {sp : Sp} {E : L2.St → XK} {e o : Expr} {es : List Expr} {p apos pos : PySem.Pos} {t : TA} {pl : Sem Bool}
end
/-! ### what is of no own class -/
def isTyV : Value → Bool
  | .type _ => true
  | _ => false
theorem sub_own {K : PySem.W.Frag} {T : String} {C : Addr} (h : ((fastBuiltinMro T).map fun l => l.all isTyV) = some true) : PySem.W.subIn K (.type T) (.ref C) = some false := by
  obtain ⟨l, e, h⟩ := Option.map_eq_some_iff.mp h
  show (fastBuiltinMro T).map (·.contains (Value.ref C)) = some false
  rw [e]
  show some (l.contains (Value.ref C)) = some false
  congr 1
  cases z : l.contains (Value.ref C) with
  | false => rfl
  | true =>
    have m := List.contains_iff_mem.mp z
    have := List.all_eq_true.mp h _ m
    cases this
theorem kit_own {K : PySem.W.Frag} {T : String} {C : Addr} {t0 : Value} {b : Bool} (h0 : PySem.W.kitOne K t0 (.ref C) = some b) (n0 : t0 ≠ .ref C) (h : ((fastBuiltinMro T).map fun l => l.all isTyV) = some true) : PySem.W.kitOne K (.type T) (.ref C) = some false := by
  unfold PySem.W.kitOne at h0 ⊢
  rw [if_neg (by intro z; exact n0 (beq_iff_eq.mp z))] at h0
  rw [if_neg (by intro z; cases beq_iff_eq.mp z)]
  unfold PySem.W.kitCls at h0 ⊢
  simp only at h0 ⊢
  split at h0
  · rename_i z
    rw [if_pos z]
    exact sub_own h
  · cases h0
theorem kit_nf {K : PySem.W.Frag} {t : Value} {C : Addr} (h : PySem.W.kitOne K t (.ref C) = some false) : PySem.W.notFirst K C t = true := by
  unfold PySem.W.kitOne at h
  split at h
  · cases h
  · unfold PySem.W.kitCls at h
    simp only at h
    split at h
    · unfold PySem.W.notFirst
      rw [h, Bool.or_eq_true]
      exact .inr (beq_self_eq_true _)
    · cases h
end Cw
set_option Elab.async false
set_option linter.all false
set_option maxRecDepth 100000
set_option maxHeartbeats 4000000
/-! x in a list that has x itself, its items of an own class with its own == -/
namespace CwM
open PySem PySem.SeqAt PySem.MeetsSeq PySem.MeetsSeq2 PySem.MeetsSeq3 PySem.SeqRoads2
section
variable {prog : Program} {w : World} {A : Around} {R : Result → Shared → Prop}
theorem mem_loop (l a : Addr) (items : Array Value) (j : Nat) (hj : items[j]? = some (.ref a)) (J : Shared → Prop) (hl : ∀ s, J s → ∃ n, s.heap.get? l = some { cls := .type "list", data := .seq items n })
    (turn : ∀ (i : Nat) (h : i < items.size) s, J s → wpAny (model prog w) A.in1 (eqBool items[i] (.ref a)) (fun r s' => (items[i] = .ref a → r = true) ∧ J s') (fun e s' => R (.error e) s') s) (fin : ∀ s, J s → R (.ok (.ret (.bool true))) s) :
    ∀ (k i : Nat), j - i = k → i ≤ j → ∀ s, J s → wpAny (model prog w) A.in1 (Builtin.«list.__contains__.loop» ⟨[.ref l, .ref a, rawInt i], []⟩) (GQ.FinOf prog w A R) (fun e s' => R (.error e) s') s := by
  have lj : j < items.size := (Array.getElem?_eq_some_iff.mp hj).1
  intro k
  induction k with
  | zero =>
    intro i hk hi s h
    obtain ⟨n, e⟩ := hl s h
    have ij : i = j := by omega
    subst ij
    have ht := turn i lj s h
    obtain ⟨hp, g, d, tk, os⟩ := s
    wp_walk using AutoSeq1.wpAny_loadPart' e
    have g1 : items[((i : Nat) : Int).toNat]? = some items[i] := by simp [lj]
    rw [g1]
    have g2 : items[i] = .ref a := by
      have := hj
      rw [Array.getElem?_eq_getElem lj] at this
      exact Option.some.inj this
    refine wpAny_bind (wpAny_mono ht (fun r s2 h2 => ?_) fun _ _ x => x)
    obtain ⟨hr, h2⟩ := h2
    rw [hr g2]
    wp_walk
    exact fin _ h2
  | succ k ih =>
    intro i hk hi s h
    obtain ⟨n, e⟩ := hl s h
    have li : i < items.size := by omega
    have ht := turn i li s h
    obtain ⟨hp, g, d, tk, os⟩ := s
    wp_walk using AutoSeq1.wpAny_loadPart' e
    have g1 : items[((i : Nat) : Int).toNat]? = some items[i] := by simp [li]
    have hc : ((i : Int) + 1) = ((i + 1 : Nat) : Int) := by omega
    rw [g1]
    refine wpAny_bind (wpAny_mono ht (fun r s2 h2 => ?_) fun _ _ x => x)
    obtain ⟨_, h2⟩ := h2
    have hf := fin _ h2
    have hrec := ih (i + 1) (by omega) (by omega) s2 h2
    obtain ⟨hp2, g2, d2, tk2, os2⟩ := s2
    cases r with
    | true =>
      wp_walk
      exact hf
    | false =>
      wp_walk
      rw [hc]
      exact ⟨plainId_quiet plain_contains_loop _, codeAny_builtin entry_contains_loop (by
        rw [Around.under_plainId plain_contains_loop _]
        exact hrec)⟩
theorem mem_list (l a : Addr) (items : Array Value) (j : Nat) (hj : items[j]? = some (.ref a)) (J : Shared → Prop) (hl : ∀ s, J s → ∃ n, s.heap.get? l = some { cls := .type "list", data := .seq items n })
    (turn : ∀ (i : Nat) (h : i < items.size) s, J s → wpAny (model prog w) A.in1 (eqBool items[i] (.ref a)) (fun r s' => (items[i] = .ref a → r = true) ∧ J s') (fun e s' => R (.error e) s') s) (fin : ∀ s, J s → R (.ok (.ret (.bool true))) s) {s : Shared} (h : J s) :
    wpAny (model prog w) A.in1 (Builtin.«list.__contains__» ⟨[.ref l, .ref a], []⟩) (GQ.FinOf prog w A R) (fun e s' => R (.error e) s') s := by
  obtain ⟨n, e⟩ := hl s h
  have hrec := mem_loop (A := A) (R := R) l a items j hj J hl turn fin _ 0 rfl (Nat.zero_le _) s h
  obtain ⟨hp, g, d, tk, os⟩ := s
  wp_walk using AutoSeq1.wpAny_loadPart' e
  exact ⟨plainId_quiet plain_contains_loop _, codeAny_builtin entry_contains_loop (by
    rw [Around.under_plainId plain_contains_loop _]
    exact hrec)⟩
theorem mem_run {E : Value → Shared → Prop} {Q : Bool → Shared → Prop} (l a : Addr) (items : Array Value) (j : Nat) (hj : items[j]? = some (.ref a)) (J : Shared → Prop) (hl : ∀ s, J s → ∃ n, s.heap.get? l = some { cls := .type "list", data := .seq items n })
    (turn : ∀ (i : Nat) (h : i < items.size) s, J s → wpAny (model prog w) A.in1 (eqBool items[i] (.ref a)) (fun r s' => (items[i] = .ref a → r = true) ∧ J s') E s) (fin : ∀ s, J s → Q true s) {s : Shared} (h : J s) : wpAny (model prog w) A (contains (.ref l) (.ref a)) Q E s := by
  obtain ⟨n, e⟩ := hl s h
  refine wpAny_contains_slot ⟨_, e, rfl⟩ F.slot_list_contains (wpAny_mono (GQ.call_here (E := E) (Q := fun r s' => r = .bool true ∧ J s') F.slot_list_contains ⟨_, e, rfl⟩ F.entry_list_contains (F.args_list_contains_2 _ _) ?_) (fun v s' hv => ?_) fun _ _ e => e)
  · exact mem_list (R := wants (fun r s' => r = .bool true ∧ J s') E) l a items j hj J hl turn (fun s' q => ⟨rfl, q⟩) h
  · obtain ⟨rfl, q⟩ := hv
    exact wpAny_truthy_bool (fin s' q)
end
end CwM
namespace Cw
open PySem PySem.Spec L2
section
variable {X : Cx} {k : Nat} {C : Addr} {ps : List Str} {sp : Sp}
def rInO (C : Addr) (sp : Sp) (n : Bool) : R2 := fun x y H Q => ∃ (a l : Addr) (hs : List Addr), x = .ref a ∧ y = .ref l ∧ H l = some (.lst (hs.map V.ref)) ∧ a ∈ hs ∧
  (∀ h ∈ hs, ∀ H', Same H H' → (∃ dx fs dy gs, H' h = some (.ins C dx fs) ∧ H' a = some (.ins C dy gs)) ∧ sp [.ref h, .ref a] H' (fun v H'' => (∃ b, v = .bl b) ∧ Same H' H'') E0) ∧ ∀ H', Same H H' → Q (.bl (!n)) H'
/-- the list's values are known -/
theorem vals_refsM : ∀ {hs : List Addr} {its : List Value}, Vals (hs.map V.ref) its → its = hs.map Value.ref
  | [], [], _ => rfl
  | h :: hs, i :: its, .cons r rr => by
    rw [vals_refsM rr]
    have r : i = Value.ref h := r
    rw [r]
    rfl
theorem in_runO (D : MDef X.prog X.w X.K X.mg X.base CX0 k C "__eq__" ps sp) (hr : Room (k + 2) X.A) {pins : List (Addr × Obj)} {s : Shared} {σ : St} {H : Hp} {a l : Addr} {hs : List Addr} (I : Inv X pins σ H s) (hl : H l = some (.lst (hs.map V.ref))) (ha : a ∈ hs)
    (he : ∀ h ∈ hs, ∀ H', Same H H' → (∃ dx fs dy gs, H' h = some (.ins C dx fs) ∧ H' a = some (.ins C dy gs)) ∧ sp [.ref h, .ref a] H' (fun v H'' => (∃ b, v = .bl b) ∧ Same H' H'') E0) :
    wpAny (model X.prog X.w) X.A (contains (.ref l) (.ref a)) (fun b s' => b = true ∧ ∃ H', Inv X pins σ H' s' ∧ Same H H') X.xe s := by
  obtain ⟨f, fd, h1, h2, kp, ⟨hb, _⟩, F⟩ := D.ex
  obtain ⟨j, hj, ej⟩ := List.getElem_of_mem ha
  refine CwM.mem_run l a (hs.map Value.ref).toArray j (by simp [hj, ej]) (fun s' => ∃ H', Inv X pins σ H' s' ∧ Same H H') (fun s' q => ?_) (fun i hi s' q => ?_) (fun s' q => ⟨rfl, q⟩) ⟨H, I, Same.refl _⟩
  · obtain ⟨H', I', sm⟩ := q
    obtain ⟨z, its, n, r, e⟩ := I'.hok l _ (sm _ _ hl)
    rw [vals_refsM r] at e
    exact ⟨n, e⟩
  · obtain ⟨H', I', sm⟩ := q
    have hi2 : i < hs.length := by simpa using hi
    have ei : (hs.map Value.ref).toArray[i] = .ref hs[i] := by simp
    rw [ei]
    by_cases hab : hs[i] = a
    · rw [hab]
      exact SeqAt.EqAt.same (A := X.A.in1) (s := s') (.ref a) X.prog X.w X.xe _ ⟨fun _ => rfl, H', I', sm⟩
    · obtain ⟨⟨dx, fs, dy, gs, hx, hy⟩, hsp⟩ := he _ (List.getElem_mem hi2) H' sm
      refine GQ.eqBool_refG hab ?_
      obtain ⟨mA, J, _⟩ := ins_get I'.hok hx
      obtain ⟨mB, J', _⟩ := ins_get I'.hok hy
      obtain ⟨od, J, _⟩ := J.look
      obtain ⟨od', J', _⟩ := J'.look
      obtain ⟨m, hF⟩ := I'.fr
      have rm : Room k X.A.in1 := (hr.mono (Nat.le_succ _)).in1
      refine PySem.W.cmp_K (op := .Eq) (tb := .ref C) rm.units0 hF I'.ok.mod.kin J J'.type (by simp [PySem.W.notFirst]) h1 h2 ?_
      have e0 : Env0 X.prog X.w X.K X.mg X.base X.A.in1 X.stack s' H' := by
        have e := I'.env0
        exact ⟨e.frames, e.mod, e.bs, e.bsz, e.funs, e.frf, e.hok, e.bare⟩
      have len := F.len _ _ _ _ hsp
      refine wpAny_call (codeAny_mono (F.run X.A.in1 X.stack s' H' ⟨[.ref hs[i], .ref a], []⟩ [.ref hs[i], .ref a] [V.ref hs[i], V.ref a] _ E0 rm e0 (by
        have := hb s' [.ref hs[i], .ref a] I'.kIn (by simpa using len)
        simpa using this) (.cons rfl (.cons rfl .nil)) hsp) fun r s2 hq => ?_)
      cases r with
      | error e => exact (pass0 (X := X)) pins σ H' s' e s2 I' hq
      | ok fl =>
        cases fl with
        | ret w =>
          obtain ⟨z, H2, I2, rz, ⟨b, rfl⟩, sm2⟩ := I'.after hq
          cases rz
          exact ⟨b, rfl, fun z => absurd (by injection z) hab, H2, I2, sm.trans sm2⟩
        | next => exact False.elim hq
        | brk => exact False.elim hq
        | cont => exact False.elim hq
theorem op_notInO (D : MDef X.prog X.w X.K X.mg X.base CX0 k C "__eq__" ps sp) (hr : Room (k + 2) X.A) : OpR X (compareOp .NotIn) (rInO C sp true) := by
  intro pins s σ H x y v u Q I rx ry h
  obtain ⟨a, l, hs, rfl, rfl, hl, ha, he, q⟩ := h
  cases rx
  cases ry
  show wpAny (model X.prog X.w) X.A (contains (.ref l) (.ref a) >>= fun b => pure (Value.bool (!b))) _ _ _
  refine wpAny_bind (wpAny_mono (in_runO D hr I hl ha he) (fun b s' z => wpAny_pure ?_) fun _ _ z => z)
  obtain ⟨rfl, H', I', sm⟩ := z
  exact ⟨.bl false, H', I', rfl, q H' sm⟩
end
end Cw
set_option Elab.async false
set_option linter.all false
set_option maxRecDepth 100000
set_option maxHeartbeats 4000000
/-! bool(o), by o's own __bool__ -/
namespace CwM
open PySem PySem.Calls PyProof.Rows
section
variable {prog : Program} {w : World}
theorem bool_new_in (x : Addr) : MeetsIn prog w (Builtin.«bool.__new__» ⟨[.type "bool", .ref x], []⟩) (fun A R s => wpAny (model prog w) A.in1 (truthy (.ref x)) (fun b s' => R (.ok (.ret (.bool b))) s') (fun e s' => R (.error e) s') s) := fun A R s h => by
  have f1 := F.conv_sub_bool
  obtain ⟨hp, g, d, tk, os⟩ := s
  repeat (any_goals (first | assumption | (with_reducible refine wpAny_mono h (fun b s' q => ?_) (fun _ _ q => q)) | wp_step))
  all_goals exact q
theorem truthy_K {M : Model} {A : Around} {E : Value → Shared → Prop} {s : Shared} {K : PySem.W.Frag} {x C L f : Addr} {h₀ : Heap} {m : Str → Option Value} {ox : Obj} {od : Option Obj} {Q : Bool → Shared → Prop} (F : Fr h₀ L s.heap m) (X₀ : K.In h₀) (I : PySem.W.InstAt s.heap x ox C od)
    (hs : PySem.W.findIn K (.ref C) "__bool__" = some (some (.ref f))) (hf : PySem.W.isFn K (.ref f) = true) (h : wpAny M A (call (.ref f) [.ref x]) (fun r s' => ∃ b, r = .bool b ∧ Q b s') E s) : wpAny M A (truthy (.ref x)) Q E s := by
  unfold truthy
  first
    | (refine wpAny_bind (m := callSpecial? (.ref x) (Str.ofString "__bool__")) (PySem.W.special_fn (X₀.keeps F.keep) I hs (beq_iff_eq.mp hf) (wpAny_mono h (fun r s' hr => ?_) fun _ _ y => y)))
    | (refine wpAny_bind (wpAny_pure ?_); refine wpAny_bind (m := callSpecial? (.ref x) (Str.ofString "__bool__")) (PySem.W.special_fn (X₀.keeps F.keep) I hs (beq_iff_eq.mp hf) (wpAny_mono h (fun r s' hr => ?_) fun _ _ y => y)))
  obtain ⟨b, rfl, hq⟩ := hr
  exact wpAny_pure hq
end
end CwM
namespace Cw
open PySem PySem.Spec PyProof.Rows L2
section
variable {X : Cx} {k : Nat} {C : Addr} {ps : List Str} {sp : Sp}
def rBoolO (C : Addr) (sp : Sp) : List V → Hp → VK → Prop := fun xs H Q => ∃ a dx fs, xs = [.ref a] ∧ H a = some (.ins C dx fs) ∧ sp [.ref a] H (fun v H' => ∃ b, v = .bl b ∧ Q (.bl b) H') E0
theorem c_boolO (D : MDef X.prog X.w X.K X.mg X.base CX0 k C "__bool__" ps sp) (hr : Room (k + 3) X.A) : CallR X (.type "bool") (rBoolO C sp) := by
  obtain ⟨f, fd, h1, h2, kp, ⟨hb, _⟩, Fk⟩ := D.ex
  intro pins s σ H xs us Q I r h
  obtain ⟨a, dx, fs, rfl, ha, hsp⟩ := h
  obtain rfl := Vals.ref1 r
  obtain ⟨mA, J, _⟩ := ins_get I.hok ha
  obtain ⟨od, J, _⟩ := J.look
  obtain ⟨m, hF⟩ := I.fr
  have rm : Room k X.A.in1.in1 := ((hr.mono (Nat.le_succ _)).in1).in1
  refine callType_newIn F.called_bool F.newNe_bool (F.typeCall_bool_1 _) (F.newCall_bool_1 _) (fun obj => F.args_object_init_2 obj _) F.entry_bool_new (CwM.bool_new_in a) ?_
  refine CwM.truthy_K hF I.ok.mod.kin J h1 h2 ?_
  have e0 : Env0 X.prog X.w X.K X.mg X.base X.A.in1.in1 X.stack s H := by
    have e := I.env0
    exact ⟨e.frames, e.mod, e.bs, e.bsz, e.funs, e.frf, e.hok, e.bare⟩
  have len := Fk.len _ _ _ _ hsp
  refine wpAny_call (codeAny_mono (Fk.run X.A.in1.in1 X.stack s H ⟨[.ref a], []⟩ [.ref a] [V.ref a] _ E0 rm e0 (by
    have := hb s [.ref a] I.kIn (by simpa using len)
    simpa using this) (.cons rfl .nil) hsp) fun r s2 hq => ?_)
  cases r with
  | error e => exact (pass0 (X := X)) pins σ H s e s2 I hq
  | ok fl =>
    cases fl with
    | ret w =>
      obtain ⟨z, H2, I2, rz, b, rfl, q⟩ := I.after hq
      cases rz
      exact ⟨b, rfl, rfl, .bl b, H2, I2, rfl, q⟩
    | next => exact False.elim hq
    | brk => exact False.elim hq
    | cont => exact False.elim hq
end
end Cw
set_option Elab.async false
set_option linter.all false
set_option maxRecDepth 100000
set_option maxHeartbeats 4000000
/-! what the top has left, one lemma a kind -/
namespace Cw
open PySem PySem.Spec L2
section
variable {K : PySem.W.Frag} {h : Heap} {mg : Str → Option Value} {x m qual : Str} {st : Stmt} {f C T : Addr} {oc kV dc pm cd ct oc2 : Value} {od an od2 : Option Addr} {sl sl2 : Array (Option Value)}
theorem glob_mk {v : Value} (X : K.In h) (G : h.Ns mainGlobals mg) (a : PySem.W.nsIn K mainGlobals x = some (some v)) : mg x = some v := PySem.W.mg_of X G a
theorem fnAt_mk (X : K.In h) (G : h.Ns mainGlobals mg) (a : PySem.W.nsIn K mainGlobals x = some (some (.ref f))) (l : K.lookup f = some ⟨oc, od, .func (PySem.W.fnOf x x (defArgs st) (defBody st) (defScope st) .none kV dc pm an cd ct), sl⟩)
    (c : PySem.W.codeIn K cd x = true) (k : PySem.W.keepIn K (.ref f) = true) : FnAt K mg x st := ⟨f, _, PySem.W.mg_of X G a, fun_mk (st := st) l c k⟩
theorem mAt_mk (a : PySem.W.findIn K (.ref C) m = some (some (.ref f))) (i : PySem.W.isFn K (.ref f) = true) (l : K.lookup f = some ⟨oc, od, .func (PySem.W.fnOf m qual (defArgs st) (defBody st) (defScope st) .none kV dc pm an cd ct), sl⟩)
    (c : PySem.W.codeIn K cd qual = true) (k : PySem.W.keepIn K (.ref f) = true) : MAt K C m qual st := ⟨f, _, a, i, fun_mk (st := st) l c k⟩
theorem mAtD_mk {arr : Array Value} {n : Nat} {dvs : List V} (a : PySem.W.findIn K (.ref C) m = some (some (.ref f))) (i : PySem.W.isFn K (.ref f) = true) (l : K.lookup f = some ⟨oc, od, .func (PySem.W.fnOf m qual (defArgs st) (defBody st) (defScope st) (.ref T) kV dc pm an cd ct), sl⟩)
    (c : PySem.W.codeIn K cd qual = true) (k : PySem.W.keepIn K (.ref f) = true) (t : K.lookup T = some ⟨oc2, od2, .seq arr n, sl2⟩) (hv : Vals dvs arr.toList) (hd : dvs ≠ []) : MAtD K C m qual st dvs :=
  ⟨f, _, a, i, ⟨⟨oc, od, .ref T, kV, dc, pm, an, cd, ct, sl, rfl, l, c, .inr ⟨hd, T, _, arr.toList, n, rfl, t, rfl, hv⟩, .inl rfl⟩, k⟩⟩
theorem cls_mk (X : K.In h) (G : h.Ns mainGlobals mg) (a : PySem.W.nsIn K mainGlobals x = some (some (.ref C))) (pg : PySem.W.plainGet K C Str.empty = true) (hd : PySem.W.hasDictIn K C = true) (po : PySem.W.plainOver K C = true)
    (sa : PySem.W.findIn K (.ref C) "__setattr__" = some (some (.builtin "object.__setattr__"))) (mk : PySem.W.makesIn K C = true) (kc : PySem.W.keepIn K (.ref C) = true)
    (ha : PySem.W.findIn K (.ref C) "__class__" = some (some (.builtin "object.__class__"))) (hn : PySem.W.specialIn K (.builtin "object.__class__") "__get__" = some (some (.builtin "getset_descriptor.__get__"))) (ht : PySem.W.takesIn K (.builtin "object.__class__") = some true)
    (hm : PySem.W.mroIn K C (.type "object") = some true) (ob : PySem.W.subIn K (.ref C) (.type "object") = some true) (ne : PySem.W.findIn K (.ref C) "__ne__" = some (some (.builtin "object.__ne__"))) : ClsF K mg x C :=
  ⟨PySem.W.mg_of X G a, ⟨pg, hd, po, sa⟩, mk, kc, ha, hn, ht, hm, ob, ne⟩
theorem exc_mk (X : K.In h) (G : h.Ns mainGlobals mg) (a : PySem.W.nsIn K mainGlobals x = some (some (.ref C))) (e : PySem.W.excIn K C [.type "ValueError", .type "Exception", .type "BaseException", .type "object"] "ValueError.__new__" = true) (k : PySem.W.keepIn K (.ref C) = true) (ty : PySem.W.typeIn K (.ref C) = some (.type "type"))
    (hg : PySem.W.findIn K (.ref C) "__getattribute__" = some (some (.builtin "BaseException.__getattribute__"))) (hk : PySem.W.findIn K (.ref C) "__getattr__" = some none) (hs : PySem.W.subIn K (.ref C) (.type "BaseException") = some true) (hd : PySem.W.hasDictIn K C = true)
    (ha : PySem.W.findIn K (.ref C) "__class__" = some (some (.builtin "object.__class__"))) (hn : PySem.W.specialIn K (.builtin "object.__class__") "__get__" = some (some (.builtin "getset_descriptor.__get__"))) (ht : PySem.W.takesIn K (.builtin "object.__class__") = some true) (hm : PySem.W.mroIn K C (.type "object") = some true) : ExcF K mg x C :=
  ⟨PySem.W.mg_of X G a, e, k, ty, ⟨hg, hk, hs, hd, ha, hn, ht, hm⟩⟩
theorem fun1_mk (X : K.In h) (G : h.Ns mainGlobals mg) {fa : Addr} (hm : mg x = some (.ref fa)) (a : PySem.W.nsIn K mainGlobals x = some (some (.ref f))) (l : K.lookup f = some ⟨oc, od, .func (PySem.W.fnOf x x (defArgs st) (defBody st) (defScope st) .none kV dc pm an cd ct), sl⟩)
    (c : PySem.W.codeIn K cd x = true) (k : PySem.W.keepIn K (.ref f) = true) : Fun K x x st fa (PySem.W.fnOf x x (defArgs st) (defBody st) (defScope st) .none kV dc pm an cd ct) := by
  have e := hm.symm.trans (PySem.W.mg_of X G a)
  cases e
  exact fun_mk (st := st) l c k
end
/-- the law's end: its def's promise -/
theorem end_walk {l : PySem.W.OpenLaw} {q : Program} {loose : List Str} {XP : (Str → Option Value) → Heap → Prop} {YP : World → Heap → Prop} {d : DefRec} {K : Params → PySem.W.Frag} {k : Nat} {x : Str} {sp : PySem.W.Frag → Sp} (hn : l.most = some 63) (hdf : d.params.defaults = []) (hr : Room k callerA)
    (hY : ∀ (w : World) (h : Heap), YP w h → (K w.params).In h)
    (hsp : ∀ (K : PySem.W.Frag) (H : Hp) (a : Addr) (ns : List Int), ns.length ≤ 63 → Only H → SqL K H a (ns.map V.int) → sp K [.ref a] H (fun v _ => v = .bl true) fun _ _ _ => False)
    (F : ∀ (w : World) (mg : Str → Option Value) (fa : Addr) (h : Heap), (K w.params).In h → h.Ns mainGlobals mg → mg d.name = some (.ref fa) →
      ∃ fd : FuncData, (∀ (s : Shared) (u : Value), BindsTo s fd ⟨[u], []⟩ [(x, u)]) ∧ ∀ base : Heap, (K w.params).In base → base.Ns mainGlobals mg → FnOk l.prog w (K w.params) mg base CX0 k fa fd [x] (sp (K w.params))) :
    PySem.W.WalkO q loose XP YP l.row.toRowW d [] (fun f vs => PySem.call f vs) := L2.walk_ofK (n := 63) hn (by decide) hdf hr hY F hsp fun _ _ _ _ z => z
end Cw
set_option Elab.async false
set_option linter.all false
set_option maxRecDepth 100000
set_option maxHeartbeats 4000000
/-! what the top has left: static methods and properties -/
namespace Cw
open PySem PySem.Spec L2
section
variable {K : PySem.W.Frag} {m qual : Str} {st : Stmt} {C p g : Addr} {rest : List Value} {oc kV dc pm cd ct : Value} {od an : Option Addr} {sl : Array (Option Value)}
theorem stAt_mk (rd : PySem.W.readsIn K C (.type "type") = true) (ga : PySem.W.specialIn K (.ref C) "__getattribute__" = some (some (.builtin "type.__getattribute__")))
    (a : PySem.W.findCls K (.ref C) (.type "type") m = some (.get (.builtin "staticmethod.__get__") (.ref p) .none (.ref C))) (r : PySem.W.recIn K p "staticmethod" = some (.ref g :: rest))
    (l : K.lookup g = some ⟨oc, od, .func (PySem.W.fnOf m qual (defArgs st) (defBody st) (defScope st) .none kV dc pm an cd ct), sl⟩)
    (c : PySem.W.codeIn K cd qual = true) (k : PySem.W.keepIn K (.ref g) = true) : StAt K C m qual st := ⟨_, p, g, rest, _, ⟨rd, ga⟩, a, r, fun_mk (st := st) l c k⟩
end
end Cw
set_option Elab.async false
set_option linter.all false
set_option maxRecDepth 100000
set_option maxHeartbeats 4000000
/-! CwHeadK: the head with the law's heap told, by one run of the top over the tree -/
namespace CwTop
open PySem PySem.W PySem.Calls PyProof.Rows
/-- a hook named -/
def TagH (_ : Hook) : Prop := True
theorem headK {r : OpenRow} {q : Program} {K : Params → PySem.W.Frag} {as : List Addr} {ek : ∀ P, as = (K P).map (·.1)} {M : Nat} {loose : List PySem.Str} {d : DefRec} {kwd : List (PySem.Str × PySem.Expr)} (_ : TagH (kHook K as ek))
    (e : opening r.prog = plainProg r.prog.main.scope.names) (f : ∀ s, fenceModules? r.prog s = some s) (run : ∀ w, HandSHeadRun.RunEq r q (kHook K as ek) (fun s => as.map (HandSHeadRun.getT s)) M loose w)
    (hdef : defOf q r.name = some (d, kwd)) (hp : r.prog.theDef r.name = some (d.params, d.body, d.scope)) (hk : kwWritten? d.params.kwonlyargs d.params.kw_defaults = some kwd)
    (hwr : (!r.writes || r.records.isEmpty) = true) (k1 : r.wellSaid = true) (ok : (chainsOk q && opensWell r.prog && (frees r.toRowW && r.within.isEmpty)) = true) (hb : r.prog.bare) (hw : r.toRowW.promised)
    (call : WalkO q loose (XL q []) (kHook K as ek).says r.toRowW d kwd fun f vs => PySem.call f vs) : r.Holds :=
  HandSHeadRun.head_any (ob := fun s => as.map (HandSHeadRun.getT s)) (fun s => List.map_congr_left fun a _ => HandSHeadRun.getT_eq s a) e f run hdef hp hk hwr k1 ok hb hw call
end CwTop
set_option Elab.async false
set_option linter.all false
set_option maxRecDepth 100000
namespace CwTop
open PySem PySem.W PySem.Calls PyProof.Rows
abbrev topRow : OpenRow := OpenLaw.row PySem.Challenge.rw_crosswalls_k29_lots_hold_rooms
abbrev topView : Program := view topRow.prog [topRow.prog.main.body.length - 1]
def topLoose : List PySem.Str := topRow.prog.boundNames.filter fun x => x != topRow.name
end CwTop
open PySem PySem.W PySem.Calls PyProof.Rows in
local macro_rules | `(tactic| o_head $H) => `(tactic| refine CwTop.headK (r := CwTop.topRow) (q := CwTop.topView) (M := 9000) (loose := CwTop.topLoose) (show CwTop.TagH $H from trivial) (by kernel_rfl) (fun s => by kernel_rfl) (fun w => by intro os; kernel_rfl) (by rfl) (by rfl) (by rfl) (by rfl) (by first | assumption | decide +kernel) (by decide +kernel) ⟨rfl, rfl, rfl, rfl, rfl, by decide +kernel⟩ ?hw ?hc)
open PySem PySem.W PyProof.Rows in
set_option maxHeartbeats 0 in
open_top Cw.headOf for PySem.Challenge.rw_crosswalls_k29_lots_hold_rooms
set_option Elab.async false
set_option linter.all false
set_option maxRecDepth 100000
set_option maxHeartbeats 4000000
namespace Cw
open PySem PySem.Spec L2
local macro_rules | `(tactic| walk_at "side") => `(tactic| first | omega | assumption | (dsimp only; omega) | (unfold CMul; omega) | exact ⟨by decide, by decide, by decide⟩ | exact wdiv (by first | assumption | decide | omega) (by first | assumption | decide | omega) | (simp only [List.length_cons, List.length_nil]; omega) | rfl)
local macro_rules | `(tactic| walk_at "hl") => `(tactic| first | assumption | exact upd_same | ((refine Cw.Same.at (by assumption) ?_); walk_at "hl") | ((refine Cw.Keep.at (by assumption) ?_ (by assumption)); walk_at "hl"))
local macro_rules | `(tactic| walk_at "st") => `(tactic| first
  | (with_reducible refine s_seq ?_) | (with_reducible refine g_nm ?_) | (with_reducible refine s_next ?_) | (with_reducible refine s_set ?_) | (with_reducible refine s_drop ?_) | (with_reducible refine s_ret ?_) | (with_reducible refine s_if ?_)
  | ((with_reducible refine e_varG ?_); refine ⟨_, (by with_unfolding_all rfl), ?_⟩) | (with_reducible refine e_c ?_) | (with_reducible refine e_op ?_) | (with_reducible refine e_un ?_)
  | (with_reducible refine e_cons ?_) | (with_reducible refine e_nil ?_) | (with_reducible refine e_cb ?_) | (with_reducible refine e_call ?_) | (with_reducible refine e_md ?_)
  | (with_reducible refine t_test ?_) | (with_reducible refine t_B ?_) | (with_reducible refine t_and ?_) | (with_reducible refine t_or ?_) | (with_reducible refine t_not ?_)
  | (with_reducible refine e_andV ?_) | (with_reducible refine e_orV ?_) | (with_reducible refine e_notV ?_) | (with_reducible refine e_if ?_)
  | (with_reducible refine v_I0 ?_) | ((with_reducible refine v_I ?c ?_); try (case c => walk_at "side")) | (with_reducible refine v_bl ?_)
  | ((with_reducible refine v_eq ?c ?_); (case c => with_unfolding_all rfl)) | ((with_reducible refine v_ne ?c ?_); (case c => with_unfolding_all rfl))
  | (with_reducible refine v_inti ?_) | (with_reducible refine v_intb ?_) | ((with_reducible refine v_lenG ?_); refine ⟨_, (by walk_at "hl"), ?_⟩)
  | ((with_reducible refine v_lenS ?c ?_); try (case c => walk_at "side"))
  | (with_reducible refine e_dnew ?_) | (with_reducible refine e_dget ?_) | (with_reducible refine s_dput ?_) | (with_reducible refine e_lst ?_) | (with_reducible refine e_tup ?_)
  | ((with_reducible refine v_lst ?c ?_); (case c => walk_at "side")) | ((with_reducible refine v_tup ?c ?_); (case c => walk_at "side"))
  | ((with_reducible refine v_dgetG ?_); refine ⟨_, (by assumption), ?_⟩)
  | (with_reducible refine e_sl ?_) | (with_reducible refine e_nopart ?_) | (with_reducible refine e_part ?_) | (with_reducible refine e_m1 ?_) | (with_reducible refine v_isS ?_) | (with_reducible refine v_int ?_)
  | (with_reducible refine e_lc ?_) | (with_reducible refine e_iStr ?_) | (with_reducible refine e_iEnumS ?_) | (with_reducible refine v_iEnumS ?_) | (with_reducible refine v_str ?_) | (with_reducible refine e_yes ?_) | (with_reducible refine e_fld ?_) | (with_reducible refine e_sfld ?_)
  | ((with_reducible refine v_addS ?c ?_); try (case c => walk_at "side")) | (with_reducible refine v_inS ?_) | (with_reducible refine v_notInS ?_) | (with_reducible refine v_ltS ?_)
  | ((with_reducible refine v_inLG ?_); refine ⟨_, (by walk_at "hl"), ?_⟩) | (with_reducible refine v_isiS ?_) | (with_reducible refine e_revS ?_) | ((with_reducible refine v_revS ?c ?_); try (case c => walk_at "side"))
  | ((with_reducible refine v_lenSetG ?_); refine ⟨_, (by walk_at "hl"), ?_⟩)
  | (with_reducible refine e_bm ?_) | (with_reducible refine e_bm0 ?_) | ((with_reducible refine v_tyLG ?_); refine ⟨_, (by walk_at "hl"), ?_⟩)
  | (with_reducible refine iteNT ?_) | (with_reducible refine iteNF ?_) | (with_reducible refine e_for ?_)
  | (with_reducible refine e_iL ?_) | (with_reducible refine e_iT ?_) | ((with_reducible refine v_iLG ?_); refine ⟨_, (by walk_at "hl"), ?_⟩) | (with_reducible refine e_iR1 ?_) | ((with_reducible refine v_iR1 ?c1 ?c2 ?_); try (case c1 => walk_at "side"); try (case c2 => walk_at "side"))
  | (with_reducible refine e_iR2 ?_) | ((with_reducible refine v_iR2 ?c1 ?_); try (case c1 => walk_at "side"))
  | (with_reducible refine e_pr0 ?_) | (with_reducible refine e_pr ?_) | (with_reducible refine e_disp ?_) | (with_reducible refine s_asgT ?_) | (with_reducible refine e_tryA ?_) | (with_reducible refine e_callS ?_) | (with_reducible refine e_mdS ?_) | (with_reducible refine e_par ?_) | (with_reducible refine v_par ?_) | (with_reducible refine e_par3 ?_) | (with_reducible refine v_par3 ?_) | (with_reducible refine e_iK ?_) | (with_reducible refine e_dnotin ?_)
  | (with_reducible refine iteT ?_) | (with_reducible refine iteF ?_))
local macro_rules | `(tactic| walk_at "go") => `(tactic| repeat walk_at "st")
section
open PySem PySem.Spec L2
def top (i : Nat) : Stmt := PySem.Challenge.pw_crosswalls_k29_lots_hold_rooms.main.body.getD i (.Pass ⟨0, 0, 0, 0⟩)
/-! ### the pen -/
def penL (cl : Addr) (a r : Int) : List (Key × V) := [(Sum.inr "cells", .ref cl), (Sum.inr "spot", .int a), (Sum.inr "left", .int r)]
structure Pen where
  p : Addr
  cl : Addr
  cells : List Int
structure PenAt (g : Pen) (H : Hp) (n : Nat) : Prop where
  ex : ∃ (a r : Int), H g.p = some (.dK (penL g.cl a r)) ∧ H g.cl = some (.lst (g.cells.map V.int)) ∧ g.cells.length ≤ 63 ∧ 0 ≤ a ∧ a ≤ n ∧ 0 ≤ r
section
variable {g : Pen} {H H' : Hp} {n m : Nat} {q : Addr}
theorem PenAt.mono (h : PenAt g H n) (l : n ≤ m) : PenAt g H m := by
  obtain ⟨a, r, h1, h2, h3, h4, h5, h6⟩ := h.ex
  exact ⟨a, r, h1, h2, h3, h4, by omega, h6⟩
theorem PenAt.same (h : PenAt g H n) (s : Same H H') : PenAt g H' n := by
  obtain ⟨a, r, h1, h2, h3, h4, h5, h6⟩ := h.ex
  exact ⟨a, r, s _ _ h1, s _ _ h2, h3, h4, h5, h6⟩
theorem PenAt.keep (h : PenAt g H n) (s : Keep q H H') (n1 : g.p ≠ q) (n2 : g.cl ≠ q) : PenAt g H' n := by
  obtain ⟨a, r, h1, h2, h3, h4, h5, h6⟩ := h.ex
  exact ⟨a, r, s _ _ h1 n1, s _ _ h2 n2, h3, h4, h5, h6⟩
theorem PenAt.p_ne (h : PenAt g H n) (s : H q = none) : g.p ≠ q := by
  obtain ⟨a, r, h1, h2, h3, h4, h5, h6⟩ := h.ex
  exact ne_of_none h1 s
theorem PenAt.cl_ne (h : PenAt g H n) (s : H q = none) : g.cl ≠ q := by
  obtain ⟨a, r, h1, h2, h3, h4, h5, h6⟩ := h.ex
  exact ne_of_none h2 s
end
theorem kcp : ¬ ((Sum.inr ("cells" : Str) : Key) = Sum.inr ("spot" : Str)) := by decide +kernel
theorem kcr : ¬ ((Sum.inr ("cells" : Str) : Key) = Sum.inr ("left" : Str)) := by decide +kernel
theorem kpr : ¬ ((Sum.inr ("spot" : Str) : Key) = Sum.inr ("left" : Str)) := by decide +kernel
section
variable {H : Hp} {p cl : Addr} {a r z : Int}
theorem pen_cells (h : H p = some (.dK (penL cl a r))) : DGet H p (.str "cells") (some (.ref cl)) := by
  have e := DGet.k (k := Sum.inr "cells") h
  rw [penL, valV_pos rfl] at e
  exact e
theorem pen_place (h : H p = some (.dK (penL cl a r))) : DGet H p (.str "spot") (some (.int a)) := by
  have e := DGet.k (k := Sum.inr "spot") h
  rw [penL, valV_neg kcp, valV_pos rfl] at e
  exact e
theorem pen_rest (h : H p = some (.dK (penL cl a r))) : DGet H p (.str "left") (some (.int r)) := by
  have e := DGet.k (k := Sum.inr "left") h
  rw [penL, valV_neg kcr, valV_neg kpr, valV_pos rfl] at e
  exact e
theorem put_place : putK (penL cl a r) (Sum.inr "spot") (.int z) = penL cl z r := by
  unfold putK penL
  rw [if_pos (by rw [valV_any]; first | (rw [valV_neg kcp, valV_pos rfl] <;> rfl) | (rw [valV_neg kcr, valV_neg kpr, valV_pos rfl] <;> rfl))]
  show [(if _ then _ else _), (if _ then _ else _), (if _ then _ else _)] = _
  rw [if_neg kcp, if_pos rfl, if_neg (fun e => kpr e.symm)]
theorem put_rest : putK (penL cl a r) (Sum.inr "left") (.int z) = penL cl a z := by
  unfold putK penL
  rw [if_pos (by rw [valV_any]; first | (rw [valV_neg kcp, valV_pos rfl] <;> rfl) | (rw [valV_neg kcr, valV_neg kpr, valV_pos rfl] <;> rfl))]
  show [(if _ then _ else _), (if _ then _ else _), (if _ then _ else _)] = _
  rw [if_neg kcr, if_neg kpr, if_pos rfl]
theorem pen_setPlace (h : H p = some (.dK (penL cl a r))) : DPut H p (.str "spot") (.int z) (upd H p (.dK (penL cl z r))) := by
  have e := DPut.k (k := Sum.inr "spot") (v := .int z) h (by show 3 < sizeLine; decide)
  rw [put_place] at e
  exact e
theorem pen_setRest (h : H p = some (.dK (penL cl a r))) : DPut H p (.str "left") (.int z) (upd H p (.dK (penL cl a z))) := by
  have e := DPut.k (k := Sum.inr "left") (v := .int z) h (by show 3 < sizeLine; decide)
  rw [put_rest] at e
  exact e
end
/-! ### the module's built-in names -/
structure Txt (K : PySem.W.Frag) (mg : Str → Option Value) : Prop where
  len : mg "len" = none
  int : mg "int" = none
  list : mg "list" = none
def spDraw : Sp := fun vs H Q _ => ∃ (g : Pen) (m : Int) (n : Nat), vs = [.ref g.p, .int m] ∧ 0 < m ∧ m < 1000000 ∧ PenAt g H n ∧ n < 1000000 ∧
  ∀ (z : Int) (H' : Hp), 0 ≤ z → z < m → PenAt g H' (n + 1) → Keep g.p H H' → Q (.int z) H'
section
variable {P : Program} {w : World} {K : PySem.W.Frag} {mg : Str → Option Value} {base : Heap}
abbrev stdraw : Stmt := (top 79)
abbrev Ndraw : List Str := ["_law_pen", "_law_span", "_law_digit", "_law_spot", "_law_cell", "_law_first", "_law_mixed"]
theorem scdraw : FnScope Ndraw ["_law_pen", "_law_span"] (defScope stdraw) := ⟨rfl, rfl, rfl, by decide +kernel, rfl, by decide +kernel, by decide +kernel⟩

theorem ok_draw (F : FnAt K mg "_law_draw" stdraw) (T : Txt K mg) : Def P w K mg base CX0 1 "_law_draw" ["_law_pen", "_law_span"] spDraw := by
  refine F.ok scdraw (fun _ _ _ _ _ _ us hl => match us, hl with | [_, _], _ => rfl) (fun vs H Q E h => ?_) (fun f cdv A outer s H vs Q E hr h => ?_)
  · obtain ⟨p, m, n, rfl, _⟩ := h
    rfl
  obtain ⟨⟨p, cl, cells⟩, m, n, rfl, hm0, hm1, hp, hn, k⟩ := h
  have hu := hu_of hr
  have nd := scdraw.nd
  refine ⟨_, (pss_cons (ps_if (pt_cmpR op_ge (pe_dget hu (pv 0) pe_str (fun _ _ => rfl)) (pv 1) (nomark _))
      (pss_cons (ps_set (i := 2) nd rfl (Or.inl rfl) (pe_op op_mod (pe_callTy c_int (by rfl) T.int (by decide +kernel) (pa_cons (pe_dget hu (pv 0) pe_str (fun _ _ => rfl)) pa_nil)) (pv 1)))
        (pss_cons (ps_dput hu (pv 0) pe_str (pe_op op_fdivW (pe_dget hu (pv 0) pe_str (fun _ _ => rfl)) (pv 1)) rfl)
        (pss_one (ps_ret (pv 2)))))
      pss_nil)
      (pss_cons (ps_set (i := 3) nd rfl (Or.inl rfl) (pe_dget hu (pv 0) pe_str (fun _ _ => rfl)))
      (pss_cons (ps_dput hu (pv 0) pe_str (pe_op op_add (pv 3) pe_int) rfl)
      (pss_cons (ps_set (i := 4) nd rfl (Or.inl rfl) (pe_op op_add (pe_op op_mul pe_int (pv 3)) pe_int))
      (pss_cutS (ps_if (pt_cmpR (op_neDK (K := K) rfl hr.units) (pe_dget hu (pv 0) pe_str (fun _ _ => rfl)) (pe_lst pa_nil) (nomark _))
      (pss_one (ps_set (i := 4) nd rfl (Or.inl rfl) (pe_ix (ix_LK (K := K) rfl) (pe_dget hu (pv 0) pe_str (fun _ _ => rfl)) (pe_op op_mod (pe_callTy c_int (by rfl) T.int (by decide +kernel) (pa_cons (pv 3) pa_nil)) (pe_callB (c_lenK (K := K) rfl) (by rfl) T.len PySem.boot_len (pa_cons (pe_dget hu (pv 0) pe_str (fun _ _ => rfl)) pa_nil))) (fun _ _ => rfl))))
      pss_nil)
      (pss_cutS (ps_if (PW.pt (pw_and (pt_cmpR op_lt (pv 3) (pe_callB (c_lenK (K := K) rfl) (by rfl) T.len PySem.boot_len (pa_cons (pe_dget hu (pv 0) pe_str (fun _ _ => rfl)) pa_nil)) (nomark _)) (pw_and1 (pt_cmpR op_ge (pv 4) (pe_op op_pow pe_int pe_int) (nomark _)))))
      (pss_cons (ps_dput hu (pv 0) pe_str (pe_op op_fdivW (pe_op op_sub (pv 4) (pe_op op_pow pe_int pe_int)) (pv 1)) rfl)
        (pss_one (ps_ret (pe_op op_mod (pe_callTy c_int (by rfl) T.int (by decide +kernel) (pa_cons (pe_op op_sub (pv 4) (pe_op op_pow pe_int pe_int)) pa_nil)) (pv 1)))))
      pss_nil)
      (pss_cons (ps_set (i := 5) nd rfl (Or.inl rfl) (pe_op op_add (pe_op op_mul (pe_op op_mod (pe_callTy c_int (by rfl) T.int (by decide +kernel) (pa_cons (pv 4) pa_nil)) pe_int) pe_int) (pe_op op_mul (pe_op op_mul pe_int (pv 3)) (pv 3))))
      (pss_cons (ps_set (i := 6) nd rfl (Or.inl rfl) (pe_op op_mod (pe_callTy c_int (by rfl) T.int (by decide +kernel) (pa_cons (pe_op op_add (pe_op op_add (pv 5) (pe_op op_mul pe_int (pv 3))) pe_int) pa_nil)) pe_int))
      (pss_cons (ps_set (i := 6) nd rfl (Or.inl rfl) (pe_op op_mod (pe_callTy c_int (by rfl) T.int (by decide +kernel) (pa_cons (pe_op op_mul (pv 6) (pe_op op_add (pv 6) pe_int)) pa_nil)) pe_int))
      (pss_one (ps_ret (pe_op op_mod (pe_callTy c_int (by rfl) T.int (by decide +kernel) (pa_cons (pe_op op_fdivW (pe_op op_mod (pe_callTy c_int (by rfl) T.int (by decide +kernel) (pa_cons (pe_op op_add (pe_op op_mul (pv 6) (pv 6)) (pe_op op_mul pe_int (pv 6))) pa_nil)) pe_int) pe_int) pa_nil)) (pv 1))))))))))))), ?_⟩
  refine s_start [some _, some _, none, none, none, none, none] rfl ?_
  obtain ⟨a, r, h1, h2, h3, h4, h5, h6⟩ := hp.ex
  dsimp only at h1 h2 h3 k ⊢
  have g1 := pen_rest h1
  have g2 := pen_place h1
  have g3 := pen_cells h1
  have fin : ∀ (H2 : Hp) (a2 r2 z : Int), H2 p = some (.dK (penL cl a2 r2)) → Keep p H H2 → 0 ≤ a2 → a2 ≤ a + 1 → 0 ≤ r2 → 0 ≤ z → z < m → Q (.int z) H2 := by
    intro H2 a2 r2 z e1 e2 e3 e4 e5 e6 e7
    have ne : cl ≠ p := ne_of h2 h1 (by intro z; cases z)
    exact k z H2 e6 e7 ⟨a2, r2, e1, e2 _ _ h2 ne, h3, e3, by omega, e5⟩ e2
  walk_at "go"
  refine if_dec (fun c => ?_) (fun c => ?_)
  · walk_at "go"
    refine v_put (pen_setRest h1) fun H1 s1 e1 => ?_
    walk_at "go"
    refine fin H1 _ _ _ e1 s1 h4 (by omega) (Int.ediv_nonneg h6 (by omega)) (Int.emod_nonneg _ (by omega)) (Int.emod_lt_of_pos _ hm0)
  · walk_at "go"
    refine v_put (pen_setPlace h1) fun H1 s1 e1 => ?_
    have ne : cl ≠ p := ne_of h2 h1 (by intro z; cases z)
    have h2' := s1 _ _ h2 ne
    have g1 := pen_rest e1
    have g3 := pen_cells e1
    walk_at "go"
    refine s_cut (fun σ' H' => ∃ c : Int, σ' = [some (.ref p), some (.int m), none, some (.int a), some (.int c), none, none] ∧ Same H1 H') ?_ ?_
    · walk_at "go"
      intro q H2 hq s2 e2
      refine v_neNilI (s2 _ _ h2') e2 ?_
      have g3 := pen_cells (s2 _ _ e1)
      walk_at "go"
      refine if_bool (fun c => ?_) (fun c => ?_)
      · have hne : 0 < cells.length := by
          cases cells with
          | nil => simp at c
          | cons _ _ => simp
        walk_at "go"
        · rw [List.length_map]; omega
        walk_at "go"
        rw [List.length_map]
        have hz0 : 0 ≤ a % (cells.length : Int) := Int.emod_nonneg _ (by omega)
        have hz1 : a % (cells.length : Int) < cells.length := Int.emod_lt_of_pos _ (by omega)
        have hlt : (a % (cells.length : Int)).toNat < cells.length := by omega
        refine v_ixL (s2 _ _ h2') (at_of (j := (a % (cells.length : Int)).toNat) (by omega) (by rw [List.getElem?_map, List.getElem?_eq_getElem hlt]; rfl)) ?_
        exact ⟨_, rfl, s2⟩
      · walk_at "go"
        exact ⟨_, rfl, s2⟩
    · rintro σ' H2 ⟨c, rfl, s2⟩
      have e2 := s2 _ _ e1
      have h22 := s2 _ _ h2'
      have g3 := pen_cells e2
      have kk : Keep p H H2 := s1.trans (Keep.of s2)
      have ze : (10 : Int) ^ (18 : Int).toNat = 1000000000000000000 := by decide
      refine s_cut (fun σ' H' => σ' = [some (.ref p), some (.int m), none, some (.int a), some (.int c), none, none] ∧ H' = H2) ?_ ?_
      · walk_at "go"
        refine if_dec (fun c1 => ?_) (fun c1 => ?_)
        · walk_at "go"
          rw [ze]
          refine if_dec (fun c2 => ?_) (fun c2 => ?_)
          · walk_at "go"
            rw [ze]
            refine v_put (pen_setRest e2) fun H3 s3 e3 => ?_
            walk_at "go"
            rw [ze]
            exact fin H3 _ _ _ e3 (kk.trans s3) (by omega) (by omega) (Int.ediv_nonneg (by omega) (by omega)) (Int.emod_nonneg _ (by omega)) (Int.emod_lt_of_pos _ hm0)
          · walk_at "go"
            exact ⟨rfl, rfl⟩
        · walk_at "go"
          exact ⟨rfl, rfl⟩
      · rintro σ' H' ⟨rfl, rfl⟩
        walk_at "go"
        exact fin H' _ _ _ e2 kk (by omega) (by omega) h6 (Int.emod_nonneg _ (by omega)) (Int.emod_lt_of_pos _ hm0)
end
end
section
open PySem PySem.Spec L2
structure TxtP (K : PySem.W.Frag) (mg : Str → Option Value) (C : Addr) : Prop where
  len : mg "len" = none
  int : mg "int" = none
  list : mg "list" = none
  isinstance : mg "isinstance" = none
  str : mg "str" = none
  all : mg "all" = none
  set : mg "set" = none
  tuple : mg "tuple" = none
  g_LETTERS : ∃ t, mg "LETTERS" = some (.str (tx LET) t)
  g_MOST_KINDS : ∃ t, mg "MOST_KINDS" = some (.int 8 t)
  Plan : ClsF K mg "Plan" C
  nK : NoAttr K C "kinds"
  nP : NoAttr K C "pairs"
  nO : NoAttr K C "own_crossing"
def spAreLetters : Sp := fun vs H Q _ => ∃ l : List Nat, vs = [.str (tx l)] ∧ l.length < 1000 ∧ ∀ H', Same H H' → Q (.bl (decide ((∀ c ∈ l, c ∈ LET) ∧ l.Nodup))) H'
def spAscending : Sp := fun vs H Q _ => ∃ l : List Nat, vs = [.str (tx l)] ∧ ∀ H', Same H H' → Q (.str (tx (ascOf l))) H'
def spIsList (K : PySem.W.Frag) : Sp := fun vs H Q _ => ∃ (p : Addr) (xs : List V), vs = [.ref p] ∧ SeqO K H p xs ∧ ∀ H', Same H H' → Q (.bl true) H'
def spNeedFew : Sp := fun vs H Q _ => ∃ l : List Nat, vs = [.str (tx l)] ∧ l.length ≤ 8 ∧ Q .non H
section
variable {P : Program} {w : World} {K : PySem.W.Frag} {mg : Str → Option Value} {base : Heap} {C : Addr}
abbrev stare_letters : Stmt := (top 39)
abbrev Nare_letters : List Str := ["value", "letter"]
theorem scare_letters : FnScope Nare_letters ["value"] (defScope stare_letters) := ⟨rfl, rfl, rfl, by decide +kernel, rfl, by decide +kernel, by decide +kernel⟩

theorem ok_are_letters (F : FnAt K mg "are_letters" stare_letters) (T : TxtP K mg C) : Def P w K mg base CX0 1 "are_letters" ["value"] spAreLetters := by
  refine F.ok scare_letters (fun _ _ _ _ _ _ us hl => match us, hl with | [_], _ => rfl) (fun vs H Q E h => ?_) (fun f cdv A outer s H vs Q E hr h => ?_)
  · obtain ⟨l, rfl, _⟩ := h
    rfl
  obtain ⟨l, rfl, hl, k⟩ := h
  have hu := hu_of hr
  have nd := scare_letters.nd
  refine ⟨_, (pss_one (ps_ret (pe_and (pe_callB (c_isiK (K := K) rfl) (by rfl) T.isinstance (by decide +kernel) (pa_cons (pv 0) (pa_cons (pe_bltn (v := .ty "str") (u := .type "str") (by rfl) T.str (by decide +kernel) rfl) pa_nil))) (pe_and (pe_callB (c_allK (K := K) rfl rfl) (by rfl) T.all (by decide +kernel) (pa_cons (pe_lc (own := [("letter", 1)]) (g := gName 1) (by rfl) nd (pi_str (pv 0)) (blkOk_by (own := [("letter", 1)]) (N := Nare_letters) (sc := defScope stare_letters) (by decide +kernel)) (fun _ _ _ _ _ => (pg_name (i := 1) nd rfl (Or.inl rfl))) (fun _ _ _ _ _ => pts_nil) (fun _ _ _ _ _ => (pe_cmpR op_inS (pv 1) (pe_globS T.g_LETTERS) (by rfl)))) pa_nil)) (pe_one (pe_cmpR op_eq (pe_callB c_lenSet (by rfl) T.len PySem.boot_len (pa_cons (pe_callTy (c_setS rfl) (by rfl) T.set (by decide +kernel) (pa_cons (pv 0) pa_nil)) pa_nil)) (pe_callB c_lenS (by rfl) T.len PySem.boot_len (pa_cons (pv 0) pa_nil)) (nomark _))))))), ?_⟩
  refine s_start [some _, none] rfl ?_
  walk_at "go"
  refine v_lcS (b := fun _ => true) (f := fun c => V.bl (decide (c ∈ LET))) (by omega) (fun c _ H1 s1 R r => ?_) (fun c _ _ H1 s1 R r => ?_) (fun D H1 hD s1 e1 => ?_)
  · walk_at "go"
    exact r H1 (Same.refl _)
  · walk_at "go"
    exact r H1 (Same.refl _)
  walk_at "go"
  have e2 : H1 D = some (.lst ((l.map fun c => decide (c ∈ LET)).map V.bl)) := by
    rw [e1, List.map_map, filter_yes]
    rfl
  refine v_all e2 ?_
  walk_at "go"
  have ha : (l.map fun c => decide (c ∈ LET)).all id = decide (∀ c ∈ l, c ∈ LET) := by
    rw [Bool.eq_iff_iff, List.all_eq_true, decide_eq_true_iff]
    simp
  rw [ha]
  refine if_dec (fun c => ?_) (fun c => ?_)
  · walk_at "go"
    refine v_setS (by omega) fun p H2 hp s2 e2 => ?_
    walk_at "go"
    have e3 : decide (V.int ((metOf (l.map fun c => tx [c])).length : Int) = V.int (l.length : Int)) = decide ((∀ c ∈ l, c ∈ LET) ∧ l.Nodup) := by
      rw [dec_int, Bool.eq_iff_iff, decide_eq_true_iff, beq_iff_eq]
      have := metOf_ones l
      constructor
      · intro e
        exact ⟨c, this.mp (by omega)⟩
      · intro e
        have := this.mpr e.2
        omega
    rw [e3]
    exact k H2 (s1.trans s2)
  · have e3 : decide ((∀ c ∈ l, c ∈ LET) ∧ l.Nodup) = false := decide_eq_false fun z => c z.1
    rw [e3] at k
    exact k H1 s1
abbrev stascending : Stmt := (top 40)
abbrev Nascending : List Str := ["letters", "letter"]
theorem scascending : FnScope Nascending ["letters"] (defScope stascending) := ⟨rfl, rfl, rfl, by decide +kernel, rfl, by decide +kernel, by decide +kernel⟩

theorem ok_ascending (F : FnAt K mg "ascending" stascending) (T : TxtP K mg C) : Def P w K mg base CX0 1 "ascending" ["letters"] spAscending := by
  refine F.ok scascending (fun _ _ _ _ _ _ us hl => match us, hl with | [_], _ => rfl) (fun vs H Q E h => ?_) (fun f cdv A outer s H vs Q E hr h => ?_)
  · obtain ⟨l, rfl, _⟩ := h
    rfl
  obtain ⟨l, rfl, k⟩ := h
  have hu := hu_of hr
  have nd := scascending.nd
  refine ⟨_, (pss_one (ps_ret (pe_joinK (K := K) rfl (pe_tx [] (by decide +kernel)) (pe_lc (own := [("letter", 1)]) (g := gName 1) (by rfl) nd (pi_str (pe_globS T.g_LETTERS)) (blkOk_by (own := [("letter", 1)]) (N := Nascending) (sc := defScope stascending) (by decide +kernel)) (fun _ _ _ _ _ => (pg_name (i := 1) nd rfl (Or.inl rfl))) (fun _ _ _ _ _ => (pts_one (pt_cmpR op_inS (pv 1) (pv 0) (by rfl)))) (fun _ _ _ _ _ => (pv 1)))))), ?_⟩
  refine s_start [some _, none] rfl ?_
  walk_at "go"
  refine v_lcS (l := LET) (b := fun c => decide (c ∈ l)) (f := fun c => V.str (tx [c])) (by decide) (fun c _ H1 s1 R r => ?_) (fun c _ _ H1 s1 R r => ?_) (fun D H1 hD s1 e1 => ?_)
  · walk_at "go"
    exact r H1 (Same.refl _)
  · walk_at "go"
    exact r H1 (Same.refl _)
  walk_at "go"
  rw [strs_ones] at e1
  refine v_join e1 ?_ ?_
  · rw [flat_ones]
    have := ascOf_len l
    unfold ascOf at this
    omega
  · rw [flat_ones]
    exact k H1 s1
abbrev stis_list : Stmt := (top 28)
abbrev Nis_list : List Str := ["value"]
theorem scis_list : FnScope Nis_list ["value"] (defScope stis_list) := ⟨rfl, rfl, rfl, by decide +kernel, rfl, by decide +kernel, by decide +kernel⟩

theorem ok_is_list (F : FnAt K mg "is_list" stis_list) (T : TxtP K mg C) : Def P w K mg base CX0 1 "is_list" ["value"] (spIsList K) := by
  refine F.ok scis_list (fun _ _ _ _ _ _ us hl => match us, hl with | [_], _ => rfl) (fun vs H Q E h => ?_) (fun f cdv A outer s H vs Q E hr h => ?_)
  · obtain ⟨p, xs, rfl, _⟩ := h
    rfl
  obtain ⟨p, xs, rfl, hp, k⟩ := h
  have hu := hu_of hr
  have nd := scis_list.nd
  refine ⟨_, (pss_one (ps_ret (pe_callB (c_isiTK (K := K) rfl) (by rfl) T.isinstance (by decide +kernel) (pa_cons (pv 0) (pa_cons (pe_tup (pa_cons (pe_bltn (v := .ty "list") (u := .type "list") (by rfl) T.list (by decide +kernel) rfl) (pa_cons (pe_bltn (v := .ty "tuple") (u := .type "tuple") (by rfl) T.tuple (by decide +kernel) rfl) pa_nil))) pa_nil))))), ?_⟩
  refine s_start [some _] rfl ?_
  walk_at "go"
  intro t H1 ht s1 e1
  walk_at "go"
  exact v_isiQ (hp.same s1) e1 (k H1 s1)
abbrev stneed_few : Stmt := (top 43)
abbrev Nneed_few : List Str := ["kinds"]
theorem scneed_few : FnScope Nneed_few ["kinds"] (defScope stneed_few) := ⟨rfl, rfl, rfl, by decide +kernel, rfl, by decide +kernel, by decide +kernel⟩

theorem ok_need_few (F : FnAt K mg "need_few" stneed_few) (T : TxtP K mg C) : Def P w K mg base CX0 1 "need_few" ["kinds"] spNeedFew := by
  refine F.ok scneed_few (fun _ _ _ _ _ _ us hl => match us, hl with | [_], _ => rfl) (fun vs H Q E h => ?_) (fun f cdv A outer s H vs Q E hr h => ?_)
  · obtain ⟨l, rfl, _⟩ := h
    rfl
  obtain ⟨l, rfl, hl, k⟩ := h
  have hu := hu_of hr
  have nd := scneed_few.nd
  refine ⟨_, (pss_one (ps_if (pt_cmpR op_gt (pe_callB c_lenS (by rfl) T.len PySem.boot_len (pa_cons (pv 0) pa_nil)) (pe_globI T.g_MOST_KINDS) (nomark _))
      (pss_one ps_never)
      pss_nil)), ?_⟩
  refine s_start [some _] rfl ?_
  walk_at "go"
  refine if_dec (fun c => ?_) (fun c => ?_)
  · omega
  · walk_at "go"
    exact k
end
end
section
open PySem PySem.Spec L2
def spChecked (K : PySem.W.Frag) : Sp := fun vs H Q _ => ∃ (ks : List Nat) (p : Addr) (ps : List (List Nat)), vs = [.str (tx ks), .ref p] ∧ SeqO K H p (strsV ps) ∧ ps.length < 1000 ∧ PairsIn ks ps ∧ (∀ c ∈ ks, c ∈ LET) ∧
  ∀ t H', H t = none → Same H H' → H' t = some (.tup (strsV (pairsOf (ps.map ascOf)))) → Q (.ref t) H'
def spCross : Sp := fun vs H Q _ => ∃ (ks : List Nat) (t : Addr) (ps : List (List Nat)), vs = [.str (tx ks), .ref t] ∧ H t = some (.tup (strsV ps)) ∧ ks.length < 1000 ∧ ks.Nodup ∧
  ∀ d H', H d = none → Same H H' → H' d = some (.dK (crossKV ks ps ks)) → Q (.ref d) H'
section
variable {P : Program} {w : World} {K : PySem.W.Frag} {mg : Str → Option Value} {base : Heap} {C : Addr}
abbrev stchecked_pairs : Stmt := (top 41)
abbrev Nchecked_pairs : List Str := ["kinds", "crossing", "found", "pair", "a", "b"]
theorem scchecked_pairs : FnScope Nchecked_pairs ["kinds", "crossing"] (defScope stchecked_pairs) := ⟨rfl, rfl, rfl, by decide +kernel, rfl, by decide +kernel, by decide +kernel⟩

theorem ok_checked_pairs (F : FnAt K mg "checked_pairs" stchecked_pairs) (T : TxtP K mg C) (D_is_list : Def P w K mg base CX0 1 "is_list" ["value"] (spIsList K)) (D_are_letters : Def P w K mg base CX0 1 "are_letters" ["value"] spAreLetters) (D_ascending : Def P w K mg base CX0 1 "ascending" ["letters"] spAscending) :
    Def P w K mg base CX0 2 "checked_pairs" ["kinds", "crossing"] (spChecked K) := by
  refine F.ok scchecked_pairs (fun _ _ _ _ _ _ us hl => match us, hl with | [_, _], _ => rfl) (fun vs H Q E h => ?_) (fun f cdv A outer s H vs Q E hr h => ?_)
  · obtain ⟨ks, p, ps, rfl, _⟩ := h
    rfl
  obtain ⟨ks, p, ps, rfl, hp, hl, hps, hks, k⟩ := h
  have hu := hu_of hr
  have nd := scchecked_pairs.nd
  refine ⟨_, (pss_cons (ps_if (pt_not (pt_val (pe_cd D_is_list hr pass0 (pa_cons (pv 1) pa_nil))))
      (pss_one ps_never)
      pss_nil)
      (pss_cons (ps_set (i := 2) nd rfl (Or.inr rfl) (pe_lst pa_nil))
      (pss_cons (ps_for PassesOwn.never rfl (pi_or (pi_listK (K := K) rfl (pv 1)) (pi_tupK (K := K) rfl (pv 1))) (pg_name (i := 3) nd rfl (Or.inl rfl))
      (pss_cutS (ps_if (PW.pt (pw_or (pt_not (pt_val (pe_callB (c_isiK (K := K) rfl) (by rfl) T.isinstance (by decide +kernel) (pa_cons (pv 3) (pa_cons (pe_bltn (v := .ty "str") (u := .type "str") (by rfl) T.str (by decide +kernel) rfl) pa_nil))))) (pw_or (pt_cmpR op_ne (pe_callB c_lenS (by rfl) T.len PySem.boot_len (pa_cons (pv 3) pa_nil)) pe_int (nomark _)) (pw_or1 (pt_not (pt_val (pe_cd D_are_letters hr pass0 (pa_cons (pv 3) pa_nil))))))))
        (pss_one ps_never)
        pss_nil)
        (pss_cutS (ps_if (PW.pt (pw_or (pt_cmpR op_notInS (pe_ix ix_str (pv 3) pe_int (fun _ _ => rfl)) (pv 0) (by rfl)) (pw_or1 (pt_cmpR op_notInS (pe_ix ix_str (pv 3) pe_int (fun _ _ => rfl)) (pv 0) (by rfl)))))
        (pss_one ps_never)
        pss_nil)
        (pss_one (ps_expr (pe_appK (K := K) rfl (pv 2) (pe_cd D_ascending hr pass0 (pa_cons (pv 3) pa_nil))))))))
      (pss_one (ps_ret (pe_callTy (c_tupleK (K := K) rfl) (by rfl) T.tuple (by decide +kernel) (pa_cons (pe_lc2 (own := [("a", 4), ("b", 5)]) (vs1 := [5]) (by rfl) nd (pi_str (pe_globS T.g_LETTERS)) (blkOk_by (own := [("a", 4), ("b", 5)]) (N := Nchecked_pairs) (sc := defScope stchecked_pairs) (by decide +kernel)) (by decide) (fun _ _ _ _ _ => (pg_name (i := 4) nd rfl (Or.inl rfl))) (fun _ _ _ _ _ => pts_nil) (fun _ _ _ _ _ => (pi_str (pe_globS T.g_LETTERS))) (fun _ _ _ _ _ => (pg_name (i := 5) nd rfl (Or.inl rfl))) (fun _ _ _ _ _ => (pts_one (pt_cmpR (op_inLK (K := K) rfl) (pe_op op_addS (pv 4) (pv 5)) (pv 2) (by rfl)))) (fun _ _ _ _ _ => (pe_op op_addS (pv 4) (pv 5)))) pa_nil))))))), ?_⟩
  refine s_start [some _, some _, none, none, none, none] rfl ?_
  walk_at "go"
  refine ⟨p, _, rfl, hp, fun H1 s1 => ?_⟩
  walk_at "go"
  intro q H2 hq s2 e2
  walk_at "go"
  refine e_forSeq (xs := strsV ps) hp (s1.trans s2) (fun Q q => by walk_at "go"; exact q) (fun k σ H' => ∃ x, σ = [some (.str (tx ks)), some (.ref p), some (.ref q), x, none, none] ∧ Same H H' ∧ H' q = some (.lst (strsV ((ps.take k).map ascOf)))) ⟨_, rfl, s1.trans s2, e2⟩ ?_ ?_ ?_
  · rintro i σ H' ⟨x, rfl, s3, e3⟩
    exact s3
  · rintro i v σ H3 H4 hi ⟨x, rfl, s3, e3⟩ ⟨rfl, hv⟩
    have hi' : i < ps.length := by simpa using hi
    obtain ⟨a, b, hab, hne, ha, hb⟩ := hps _ (List.getElem_mem hi')
    have hv' : v = .str (tx [a, b]) := by
      have : (strsV ps)[i]? = some (V.str (tx ps[i])) := by
        rw [List.getElem?_map, List.getElem?_eq_getElem hi']
        rfl
      rw [hv, hab] at this
      exact Option.some.inj this
    subst hv'
    have ha2 := hks a ha
    have hb2 := hks b hb
    refine s_cut (fun σ' H' => σ' = [some (.str (tx ks)), some (.ref p), some (.ref q), some (.str (tx [a, b])), none, none] ∧ Same H4 H') ?_ ?_
    · walk_at "go"
      refine if_ndec (fun c => absurd rfl c) (fun _ => ?_)
      walk_at "go"
      refine ⟨[a, b], rfl, by simp, fun H5 s5 => ?_⟩
      have e5 : decide ((∀ c ∈ [a, b], c ∈ LET) ∧ [a, b].Nodup) = true := by
        rw [decide_eq_true_iff]
        refine ⟨?_, by simp [hne]⟩
        intro c hc
        simp only [List.mem_cons, List.not_mem_nil, or_false] at hc
        rcases hc with rfl | rfl <;> assumption
      rw [e5]
      walk_at "go"
      exact ⟨rfl, s5⟩
    · rintro σ' H5 ⟨rfl, s5⟩
      refine s_cut (fun σ' H' => σ' = [some (.str (tx ks)), some (.ref p), some (.ref q), some (.str (tx [a, b])), none, none] ∧ H' = H5) ?_ ?_
      · walk_at "go"
        refine v_ixS (c := a) (by simp) rfl ?_
        walk_at "go"
        refine if_ndec (fun c => absurd ha c) (fun _ => ?_)
        walk_at "go"
        refine v_ixS (c := b) (by simp) rfl ?_
        walk_at "go"
        refine if_ndec (fun c => absurd hb c) (fun _ => ?_)
        walk_at "go"
        exact ⟨rfl, rfl⟩
      · rintro σ' H6 ⟨rfl, rfl⟩
        have e6 := s5 _ _ e3
        walk_at "go"
        refine ⟨[a, b], rfl, fun H7 s7 => ?_⟩
        walk_at "go"
        refine v_app (s7 _ _ e6) ?_ fun H8 s8 e8 => ?_
        · simp only [strsV, List.length_map, List.length_take]
          omega
        refine ⟨_, rfl, fun b' o hb' => s8 _ _ (s7 _ _ (s5 _ _ (s3 _ _ hb'))) (ne_of_none hb' (L2.Same.free s1 hq)), ?_⟩
        rw [e8, List.take_add_one, List.getElem?_eq_getElem hi', hab, List.map_append]
        simp only [strsV, List.map_append]
        rfl
  · rintro σ H3 ⟨x, rfl, s3, e3⟩
    walk_at "go"
    rw [List.take_of_length_le (by simp)] at e3
    refine v_lc2S (lb := LET) (b := fun a b => decide ([a, b] ∈ ps.map ascOf)) (f := fun a b => V.str (tx [a, b])) (by decide) (by decide) (fun c _ H1 s1 R r => r) (fun c d _ _ H1 s1 R r => ?_) (fun c d _ _ _ H1 s1 R r => ?_) (fun D H5 hD s5 e5 => ?_)
    · have e1 := s1 _ _ e3
      walk_at "go"
      exact r H1 (Same.refl _)
    · walk_at "go"
      exact r H1 (Same.refl _)
    · walk_at "go"
      refine v_tuple e5 fun t H6 ht s6 e6 => ?_
      refine k t H6 (L2.Same.free s3 (L2.Same.free s5 ht)) ((s3.trans s5).trans s6) ?_
      rw [e6]
      unfold strsV pairsOf
      rw [List.map_flatMap]
      simp only [List.map_map]
      rfl
abbrev stcrossing_table : Stmt := (top 45)
abbrev Ncrossing_table : List Str := ["kinds", "pairs", "found", "kind", "other"]
theorem sccrossing_table : FnScope Ncrossing_table ["kinds", "pairs"] (defScope stcrossing_table) := ⟨rfl, rfl, rfl, by decide +kernel, rfl, by decide +kernel, by decide +kernel⟩

theorem ok_crossing_table (F : FnAt K mg "crossing_table" stcrossing_table) (T : TxtP K mg C) : Def P w K mg base CX0 1 "crossing_table" ["kinds", "pairs"] spCross := by
  refine F.ok sccrossing_table (fun _ _ _ _ _ _ us hl => match us, hl with | [_, _], _ => rfl) (fun vs H Q E h => ?_) (fun f cdv A outer s H vs Q E hr h => ?_)
  · obtain ⟨ks, t, ps, rfl, _⟩ := h
    rfl
  obtain ⟨ks, t, ps, rfl, ht, hl, hnd, k⟩ := h
  have hu := hu_of hr
  have nd := sccrossing_table.nd
  refine ⟨_, (pss_cons (ps_set (i := 2) nd rfl (Or.inl rfl) pe_dnewK)
      (pss_cons (ps_for PassesOwn.never rfl (pi_str (pv 0)) (pg_name (i := 3) nd rfl (Or.inr rfl))
      (pss_one (ps_dput hu (pv 2) (pv 3) (pe_joinK (K := K) rfl (pe_tx [] (by decide +kernel)) (pe_lc (own := [("other", 4)]) (g := gName 4) (by rfl) nd (pi_str (pv 0)) (blkOk_by (own := [("other", 4)]) (N := Ncrossing_table) (sc := defScope stcrossing_table) (by decide +kernel)) (fun _ _ _ _ _ => (pg_name (i := 4) nd rfl (Or.inl rfl))) (fun _ _ _ _ _ => (pts_one (PW.pt (pw_or (pt_cmpR (op_inLK (K := K) rfl) (pe_op op_addS (pv 3) (pv 4)) (pv 1) (by rfl)) (pw_or1 (pt_cmpR (op_inLK (K := K) rfl) (pe_op op_addS (pv 4) (pv 3)) (pv 1) (by rfl))))))) (fun _ _ _ _ _ => (pv 4)))) rfl)))
      (pss_one (ps_ret (pv 2))))), ?_⟩
  refine s_start [some _, some _, none, none, none] rfl ?_
  walk_at "go"
  intro d H1 hd s1 e1
  walk_at "go"
  refine for_it (walk_tx ks) (fun k σ H' => ∃ x, σ = [some (.str (tx ks)), some (.ref t), some (.ref d), x, none] ∧ Same H H' ∧ H' d = some (.dK (crossKV ks ps (ks.take k)))) ⟨_, rfl, s1, e1⟩ (fun _ _ _ _ _ => trivial) ?_ ?_
  · rintro i v σ H2 H3 hi ⟨x, rfl, s2, e2⟩ ⟨rfl, rfl⟩
    have h0 := s2 _ _ ht
    show sDPut _ _ _ _ _ _
    walk_at "go"
    refine v_lcS (b := fun o => decide ([ks.getD i 0, o] ∈ ps) || decide ([o, ks.getD i 0] ∈ ps)) (f := fun c => V.str (tx [c])) (by omega) (fun c _ H1 s1 R r => ?_) (fun c _ _ H1 s1 R r => ?_) (fun D H4 hD s4 e4 => ?_)
    · have h1 := s1 _ _ h0
      walk_at "go"
      refine v_inT (SqT.of h1) ?_
      walk_at "go"
      refine if_dec (fun c1 => ?_) (fun c1 => ?_)
      · rw [show [ks.getD i 0] ++ [c] = [ks.getD i 0, c] from rfl] at c1
        rw [decide_eq_true c1, Bool.true_or] at r
        exact r H1 (Same.refl _)
      · rw [show [ks.getD i 0] ++ [c] = [ks.getD i 0, c] from rfl] at c1
        walk_at "go"
        refine v_inT (SqT.of h1) ?_
        walk_at "go"
        rw [decide_eq_false c1, Bool.false_or] at r
        exact r H1 (Same.refl _)
    · walk_at "go"
      exact r H1 (Same.refl _)
    walk_at "go"
    rw [strs_ones] at e4
    refine v_join e4 ?_ ?_
    · rw [flat_ones]
      have := crossOf_len ks ps (ks.getD i 0)
      unfold crossOf at this
      omega
    rw [flat_ones]
    walk_at "go"
    have e5 := s4 _ _ e2
    have hz : valV (crossKV ks ps (ks.take i)) (Sum.inr (tx [ks.getD i 0])) = none := letV_none (take_notin hnd hi)
    refine v_put (DPut.cross e5 hz ?_) fun H6 s6 e6 => ?_
    · unfold crossKV
      rw [List.length_map, List.length_take]
      omega
    refine ⟨_, rfl, fun b o hb => s6 _ _ (s4 _ _ (s2 _ _ hb)) (ne_of_none hb hd), ?_⟩
    rw [e6, take_getD hi]
    unfold crossKV
    rw [List.map_append]
    rfl
  · rintro σ H2 ⟨x, rfl, s2, e2⟩
    rw [List.take_of_length_le (Nat.le_refl _)] at e2
    walk_at "go"
    exact k d H2 hd s2 e2
end
end
section
open PySem PySem.Spec L2
def planF (ks : List Nat) (t d : Addr) : List (Str × V) := putF "own_crossing" (.ref d) (putF "pairs" (.ref t) (putF "kinds" (.str (tx ks)) []))
theorem nkp : ¬ (("kinds" : Str) = "pairs") := by decide +kernel
theorem nko : ¬ (("kinds" : Str) = "own_crossing") := by decide +kernel
theorem npo : ¬ (("pairs" : Str) = "own_crossing") := by decide +kernel
section
variable {ks : List Nat} {t d : Addr}
theorem planF_k : (planF ks t d).lookup ("kinds" : Str) = some (.str (tx ks)) := by
  unfold planF
  rw [lookup_putF, if_neg nko, lookup_putF, if_neg nkp, lookup_putF, if_pos rfl]
theorem planF_p : (planF ks t d).lookup ("pairs" : Str) = some (.ref t) := by
  unfold planF
  rw [lookup_putF, if_neg npo, lookup_putF, if_pos rfl]
theorem planF_o : (planF ks t d).lookup ("own_crossing" : Str) = some (.ref d) := by
  unfold planF
  rw [lookup_putF, if_pos rfl]
end
/-- a plan of the kinds ks and the pairs ps stands at x -/
structure PlanAt (C : Addr) (H : Hp) (x : Addr) (ks : List Nat) (ps : List (List Nat)) : Prop where
  ex : ∃ dx t d, H x = some (.ins C dx (planF ks t d)) ∧ H t = some (.tup (strsV ps)) ∧ H d = some (.dK (crossKV ks ps ks))
theorem PlanAt.same {C : Addr} {H H' : Hp} {x : Addr} {ks : List Nat} {ps : List (List Nat)} (h : PlanAt C H x ks ps) (s : Same H H') : PlanAt C H' x ks ps := by
  obtain ⟨dx, t, d, a, b, c⟩ := h.ex
  exact ⟨dx, t, d, s _ _ a, s _ _ b, s _ _ c⟩
/-- the plan at x does not rest on the object at b -/
def PlanOff (C : Addr) (H : Hp) (x b : Addr) : Prop := ∃ dx ks t d, H x = some (.ins C dx (planF ks t d)) ∧ b ≠ t ∧ b ≠ d
theorem PlanOff.same {C : Addr} {H H' : Hp} {x b : Addr} (h : PlanOff C H x b) (s : Same H H') : PlanOff C H' x b := by
  obtain ⟨dx, ks, t, d, e, n⟩ := h
  exact ⟨dx, ks, t, d, s _ _ e, n⟩
theorem PlanAt.off {C : Addr} {H H' : Hp} {x b : Addr} {ks : List Nat} {ps : List (List Nat)} (h : PlanAt C H x ks ps) (n : PlanOff C H x b) (nx : x ≠ b) (k : Keep b H H') : PlanAt C H' x ks ps := by
  obtain ⟨dx, t, d, a1, a2, a3⟩ := h.ex
  obtain ⟨dx', ks', t', d', e, n1, n2⟩ := n
  rw [a1] at e
  injection e with e
  injection e with _ _ e
  have e1 := planF_p (ks := ks) (t := t) (d := d)
  rw [e, planF_p] at e1
  injection e1 with e1
  injection e1 with e1
  have e2 := planF_o (ks := ks) (t := t) (d := d)
  rw [e, planF_o] at e2
  injection e2 with e2
  injection e2 with e2
  exact ⟨dx, t, d, k _ _ a1 nx, k _ _ a2 (fun z => n1 (z.symm.trans e1.symm)), k _ _ a3 (fun z => n2 (z.symm.trans e2.symm))⟩
/-- the kinds and pairs of Plan(l, ps) -/
abbrev kindsOf (l : List Nat) : List Nat := ascOf l
abbrev prsOf (ps : List (List Nat)) : List (List Nat) := pairsOf (ps.map ascOf)
def PlanArgs (K : PySem.W.Frag) (H : Hp) (l : List Nat) (p : Addr) (ps : List (List Nat)) : Prop := SeqO K H p (strsV ps) ∧ ps.length < 1000 ∧ PairsIn l ps ∧ (∀ c ∈ l, c ∈ LET) ∧ l.Nodup ∧ l.length ≤ 8
def spPlan0 (K : PySem.W.Frag) (C : Addr) : Sp := fun vs H Q _ => ∃ (x dx : Addr) (l : List Nat) (p : Addr) (ps : List (List Nat)), vs = [.ref x, .str (tx l), .ref p] ∧ H x = some (.ins C dx []) ∧ PlanArgs K H l p ps ∧
  ∀ H', Keep x H H' → PlanAt C H' x (kindsOf l) (prsOf ps) → (∀ b o, H b = some o → b ≠ x → PlanOff C H' x b) → Q .non H'
def spPlan (K : PySem.W.Frag) (C : Addr) : Sp := fun vs H Q _ => ∃ (l : List Nat) (p : Addr) (ps : List (List Nat)), vs = [.str (tx l), .ref p] ∧ PlanArgs K H l p ps ∧ ∀ x H', H x = none → Same H H' → PlanAt C H' x (kindsOf l) (prsOf ps) → (∀ b o, H b = some o → PlanOff C H' x b) → Q (.ref x) H'
theorem conv_plan (K : PySem.W.Frag) (C : Addr) : Conv C (spPlan0 K C) (spPlan K C) := by
  rintro vs H Q E ⟨l, p, ps, rfl, ⟨hp, hr⟩, k⟩ x dx hx hdx hne
  refine ⟨x, dx, l, p, ps, rfl, upd_same, ⟨hp.go fun o ho => by rw [upd_ne (ne_of_none ho hx), upd_ne (ne_of_none ho hdx)]; exact ho, hr⟩, fun H' s' a off => ⟨rfl, k x H' hx (fun b o hb => ?_) a fun b o hb => off b o (by rw [upd_ne (ne_of_none hb hx), upd_ne (ne_of_none hb hdx)]; exact hb) (ne_of_none hb hx)⟩⟩
  refine s' b o ?_ (ne_of_none hb hx)
  rw [upd_ne (ne_of_none hb hx), upd_ne (ne_of_none hb hdx)]
  exact hb
theorem asc_len {l : List Nat} (h1 : ∀ c ∈ l, c ∈ LET) (h2 : l.Nodup) : (ascOf l).length = l.length := by
  have p : (ascOf l).Perm l := by
    refine (List.perm_ext_iff_of_nodup (ascOf_nodup l) h2).mpr fun c => ?_
    rw [ascOf_mem]
    exact ⟨fun z => z.2, fun z => ⟨h1 c z, z⟩⟩
  exact p.length_eq
section
variable {P : Program} {w : World} {K : PySem.W.Frag} {mg : Str → Option Value} {base : Heap} {C : Addr}
abbrev stPlan_init : Stmt := (inClass (top 44) 0)
abbrev NPlan_init : List Str := ["self", "kinds", "crossing"]
theorem scPlan_init : FnScope NPlan_init ["self", "kinds", "crossing"] (defScope stPlan_init) := ⟨rfl, rfl, rfl, by decide +kernel, rfl, by decide +kernel, by decide +kernel⟩

theorem ok_Plan {dvs : List V} (F : MAtD K C "__init__" "Plan.__init__" stPlan_init dvs) (hd : dvs.length = 1) (T : TxtP K mg C) (D_are_letters : Def P w K mg base CX0 1 "are_letters" ["value"] spAreLetters) (D_ascending : Def P w K mg base CX0 1 "ascending" ["letters"] spAscending)
    (D_checked_pairs : Def P w K mg base CX0 2 "checked_pairs" ["kinds", "crossing"] (spChecked K)) (D_need_few : Def P w K mg base CX0 1 "need_few" ["kinds"] spNeedFew) (D_crossing_table : Def P w K mg base CX0 1 "crossing_table" ["kinds", "pairs"] spCross) :
    CMk P w K mg base CX0 3 "Plan" C (spPlan K C) ["self", "kinds", "crossing"] "Plan.__init__" stPlan_init dvs := by
  refine F.make (sp0 := spPlan0 K C) T.Plan scPlan_init (by intro z; rw [z] at hd; cases hd) (fun T kV doc pm an cdv ct us its l1 l2 => ?_) (fun vs H Q E h => ?_) (conv_plan K C) (fun f cdv A outer s H vs Q E hr h => ?_)
  · rw [hd] at l2 ⊢
    match us, l1, its, l2 with
    | [_, _, _], _, [_], _ => exact ⟨_, rfl, rfl⟩
  · obtain ⟨x, dx, l, p, ps, rfl, _⟩ := h
    rfl
  obtain ⟨x, dx, l, p, ps, rfl, hx, ⟨hp, h1, h2, h3, h4, h5⟩, k⟩ := h
  have hu := hu_of hr
  have nd := scPlan_init.nd
  replace D_are_letters := D_are_letters.mono (show 1 ≤ 2 by decide)
  replace D_ascending := D_ascending.mono (show 1 ≤ 2 by decide)
  replace D_need_few := D_need_few.mono (show 1 ≤ 2 by decide)
  replace D_crossing_table := D_crossing_table.mono (show 1 ≤ 2 by decide)
  refine ⟨_, (pss_cons (ps_if (pt_not (pt_val (pe_cd D_are_letters hr pass0 (pa_cons (pv 1) pa_nil))))
      (pss_one ps_never)
      pss_nil)
      (pss_cons (ps_flK (K := K) rfl (pv 0) (pe_cd D_ascending hr pass0 (pa_cons (pv 1) pa_nil)) rfl)
      (pss_cons (ps_flK (K := K) rfl (pv 0) (pe_cd D_checked_pairs hr pass0 (pa_cons (pe_flK (K := K) rfl (pv 0) rfl) (pa_cons (pv 2) pa_nil))) rfl)
      (pss_cons (ps_expr (pe_cd D_need_few hr pass0 (pa_cons (pe_flK (K := K) rfl (pv 0) rfl) pa_nil)))
      (pss_one (ps_flK (K := K) rfl (pv 0) (pe_cd D_crossing_table hr pass0 (pa_cons (pe_flK (K := K) rfl (pv 0) rfl) (pa_cons (pe_flK (K := K) rfl (pv 0) rfl) pa_nil))) rfl)))))), ?_⟩
  refine s_start [some _, some _, some _] rfl ?_
  walk_at "go"
  refine ⟨l, rfl, by omega, fun H1 s1 => ?_⟩
  rw [decide_eq_true (show (∀ c ∈ l, c ∈ LET) ∧ l.Nodup from ⟨h3, h4⟩)]
  walk_at "go"
  refine ⟨l, rfl, fun H2 s2 => ?_⟩
  walk_at "go"
  have s12 := s1.trans s2
  refine v_sfld (s12 _ _ hx) T.Plan.cl T.nK (by decide) fun H3 s3 e3 => ?_
  have hp3 := (hp.same s12).keepI s3 (s12 _ _ hx)
  walk_at "go"
  refine v_fld e3 T.Plan.cl T.nK (by rw [lookup_putF, if_pos rfl]) ?_
  walk_at "go"
  refine ⟨ascOf l, p, ps, rfl, hp3, h1, ?_, fun c hc => (ascOf_mem.mp hc).1, fun t H4 ht s4 e4 => ?_⟩
  · intro q hq
    obtain ⟨a, b, e, n, ha, hb⟩ := h2 q hq
    exact ⟨a, b, e, n, ascOf_mem.mpr ⟨h3 a ha, ha⟩, ascOf_mem.mpr ⟨h3 b hb, hb⟩⟩
  walk_at "go"
  refine v_sfld (s4 _ _ e3) T.Plan.cl T.nP (by show 1 < 1000; decide) fun H5 s5 e5 => ?_
  have nt : t ≠ x := fun z => by rw [z, e3] at ht; cases ht
  have e5t := s5 _ _ e4 nt
  walk_at "go"
  refine v_fld e5 T.Plan.cl T.nK (by rw [lookup_putF, if_neg nkp, lookup_putF, if_pos rfl]) ?_
  walk_at "go"
  refine ⟨ascOf l, rfl, by rw [asc_len h3 h4]; exact h5, ?_⟩
  walk_at "go"
  refine v_fld e5 T.Plan.cl T.nK (by rw [lookup_putF, if_neg nkp, lookup_putF, if_pos rfl]) ?_
  walk_at "go"
  refine v_fld e5 T.Plan.cl T.nP (by rw [lookup_putF, if_pos rfl]) ?_
  walk_at "go"
  refine ⟨ascOf l, t, _, rfl, e5t, by have := ascOf_len l; omega, ascOf_nodup l, fun d H6 hd s6 e6 => ?_⟩
  walk_at "go"
  refine v_sfld (s6 _ _ e5) T.Plan.cl T.nO (by show 2 < 1000; decide) fun H7 s7 e7 => ?_
  have ndx : d ≠ x := fun z => by rw [z, e5] at hd; cases hd
  refine k H7 (fun b o hb nb => s7 _ _ (s6 _ _ (s5 _ _ (s4 _ _ (s3 _ _ (s12 _ _ hb) nb)) nb)) nb) ⟨dx, t, d, e7, s7 _ _ (s6 _ _ e5t) nt, s7 _ _ e6 ndx⟩ fun b o hb nb => ⟨dx, _, t, d, e7, ?_, ?_⟩
  · exact ne_of_none (s3 _ _ (s12 _ _ hb) nb) ht
  · exact ne_of_none (s5 _ _ (s4 _ _ (s3 _ _ (s12 _ _ hb) nb)) nb) hd
end
end
section
open PySem PySem.Spec L2
/-- letters alone -/
def PsOk (ps : List (List Nat)) : Prop := ∀ l ∈ ps, ∀ c ∈ l, c < 1000
def spPlanEq (C : Addr) : Sp := fun vs H Q _ => ∃ (x y : Addr) (ks ks' : List Nat) (ps ps' : List (List Nat)), vs = [.ref x, .ref y] ∧ PlanAt C H x ks ps ∧ PlanAt C H y ks' ps' ∧ PsOk ps ∧ PsOk ps' ∧ Q (.bl (decide (ks = ks' ∧ ps = ps'))) H
def spStepped (C : Addr) : Sp := fun vs H Q _ => ∃ (x : Addr) (ks : List Nat) (ps : List (List Nat)) (name : List Nat) (k : Nat), vs = [.ref x, .str (tx name), .str (tx [k])] ∧ PlanAt C H x ks ps ∧ k ∈ ks ∧ name.length ≤ 100000 ∧ Q (.str (tx (stepOf (crossOf ks ps k) name k))) H
def spJoined (C : Addr) : Sp := fun vs H Q _ => ∃ (x : Addr) (ks : List Nat) (ps : List (List Nat)) (name way : List Nat), vs = [.ref x, .str (tx name), .str (tx way)] ∧ PlanAt C H x ks ps ∧ (∀ c ∈ way, c ∈ ks) ∧ name.length + way.length ≤ 100000 ∧ Q (.str (tx (joinOf ks ps name way))) H
def spBack (C : Addr) : Sp := fun vs H Q _ => ∃ (x : Addr) (ks : List Nat) (ps : List (List Nat)) (name : List Nat), vs = [.ref x, .str (tx name)] ∧ PlanAt C H x ks ps ∧ (∀ c ∈ name, c ∈ ks) ∧ name.length ≤ 50000 ∧ Q (.str (tx (backOf ks ps name))) H
def spWayFrom (C : Addr) : Sp := fun vs H Q _ => ∃ (x : Addr) (ks : List Nat) (ps : List (List Nat)) (name goal : List Nat), vs = [.ref x, .str (tx name), .str (tx goal)] ∧ PlanAt C H x ks ps ∧ (∀ c ∈ name, c ∈ ks) ∧ (∀ c ∈ goal, c ∈ ks) ∧ name.length ≤ 50000 ∧ goal.length ≤ 50000 ∧ Q (.str (tx (wayOf ks ps name goal))) H
section
variable {P : Program} {w : World} {K : PySem.W.Frag} {mg : Str → Option Value} {base : Heap} {C : Addr}
abbrev stPlan_eq : Stmt := (inClass (top 44) 2)
abbrev NPlan_eq : List Str := ["self", "other"]
theorem scPlan_eq : FnScope NPlan_eq ["self", "other"] (defScope stPlan_eq) := ⟨rfl, rfl, rfl, by decide +kernel, rfl, by decide +kernel, by decide +kernel⟩

theorem ok_Plan_eq (F : MAt K C "__eq__" "Plan.__eq__" stPlan_eq) (T : TxtP K mg C) : MDef P w K mg base CX0 1 C "__eq__" ["self", "other"] (spPlanEq C) := by
  refine F.ok scPlan_eq (fun _ _ _ _ _ _ us hl => match us, hl with | [_, _], _ => rfl) (fun vs H Q E h => ?_) (fun f cdv A outer s H vs Q E hr h => ?_)
  · obtain ⟨x, y, ks, ks', ps, ps', rfl, _⟩ := h
    rfl
  obtain ⟨x, y, ks, ks', ps, ps', rfl, h1, h2, o1, o2, k⟩ := h
  have hu := hu_of hr
  have nd := scPlan_eq.nd
  refine ⟨_, (pss_one (ps_ret (pe_and (pe_callB (c_isiK (K := K) rfl) (by rfl) T.isinstance (by decide +kernel) (pa_cons (pv 1) (pa_cons (pe_globC T.Plan.at) pa_nil))) (pe_and (pe_cmpR op_eq (pe_flK (K := K) rfl (pv 0) rfl) (pe_flK (K := K) rfl (pv 1) rfl) (nomark _)) (pe_one (pe_cmpR (op_eqDK (K := K) rfl hr.units) (pe_flK (K := K) rfl (pv 0) rfl) (pe_flK (K := K) rfl (pv 1) rfl) (nomark _))))))), ?_⟩
  refine s_start [some _, some _] rfl ?_
  obtain ⟨dx, t, d, a1, a2, a3⟩ := h1.ex
  obtain ⟨dy, t', d', b1, b2, b3⟩ := h2.ex
  walk_at "go"
  refine v_isiC T.Plan b1 ?_
  walk_at "go"
  refine v_fld a1 T.Plan.cl T.nK planF_k ?_
  walk_at "go"
  refine v_fld b1 T.Plan.cl T.nK planF_k ?_
  walk_at "go"
  rw [dec_tx]
  refine if_dec (fun c => ?_) (fun c => ?_)
  · walk_at "go"
    refine v_fld a1 T.Plan.cl T.nP planF_p ?_
    walk_at "go"
    refine v_fld b1 T.Plan.cl T.nP planF_p ?_
    walk_at "go"
    refine v_eqT a2 b2 o1 o2 ?_
    have e : decide (ks = ks' ∧ ps = ps') = decide (ps = ps') := decide_eq_decide.mpr ⟨fun z => z.2, fun z => ⟨c, z⟩⟩
    rw [e] at k
    exact k
  · rw [decide_eq_false fun z => c z.1] at k
    exact k
abbrev ststepped : Stmt := (top 12)
abbrev Nstepped : List Str := ["plan", "name", "kind", "partners", "place"]
theorem scstepped : FnScope Nstepped ["plan", "name", "kind"] (defScope ststepped) := ⟨rfl, rfl, rfl, by decide +kernel, rfl, by decide +kernel, by decide +kernel⟩

theorem ok_stepped (F : FnAt K mg "stepped" ststepped) (T : TxtP K mg C) : Def P w K mg base CX0 1 "stepped" ["plan", "name", "kind"] (spStepped C) := by
  refine F.ok scstepped (fun _ _ _ _ _ _ us hl => match us, hl with | [_, _, _], _ => rfl) (fun vs H Q E h => ?_) (fun f cdv A outer s H vs Q E hr h => ?_)
  · obtain ⟨x, ks, ps, name, k, rfl, _⟩ := h
    rfl
  obtain ⟨x, ks, ps, name, k, rfl, h1, hk, hl, q⟩ := h
  have hu := hu_of hr
  have nd := scstepped.nd
  refine ⟨_, (pss_cons (ps_set (i := 3) nd rfl (Or.inl rfl) (pe_dget hu (pe_flK (K := K) rfl (pv 0) rfl) (pv 2) (fun _ _ => rfl)))
      (pss_cons (ps_set (i := 4) nd rfl (Or.inl rfl) (pe_callB c_lenS (by rfl) T.len PySem.boot_len (pa_cons (pv 1) pa_nil)))
      (pss_cutS (ps_while PassesOwn.never (PW.pt (pw_and (pt_cmpR op_gt (pv 4) pe_int (nomark _)) (pw_and1 (pt_cmpR op_inS (pe_ix ix_str (pv 1) (pe_op op_sub (pv 4) pe_int) (fun _ _ => rfl)) (pv 3) (by rfl)))))
      (pss_one (ps_set (i := 4) nd rfl (Or.inl rfl) (pe_op op_sub (pv 4) pe_int))))
      (pss_cutS (ps_if (PW.pt (pw_and (pt_cmpR op_gt (pv 4) pe_int (nomark _)) (pw_and1 (pt_cmpR op_eq (pe_ix ix_str (pv 1) (pe_op op_sub (pv 4) pe_int) (fun _ _ => rfl)) (pv 2) (nomark _)))))
      (pss_one (ps_ret (pe_op op_addS (pe_slice sl_S (pv 1) po_none (po_some (pe_op op_sub (pv 4) pe_int))) (pe_slice sl_S (pv 1) (po_some (pv 4)) po_none))))
      pss_nil)
      (pss_cutS (ps_while PassesOwn.never (PW.pt (pw_and (pt_cmpR op_lt (pv 4) (pe_callB c_lenS (by rfl) T.len PySem.boot_len (pa_cons (pv 1) pa_nil)) (nomark _)) (pw_and1 (pt_cmpR op_ltS (pe_ix ix_str (pv 1) (pv 4) (fun _ _ => rfl)) (pv 2) (nomark _)))))
      (pss_one (ps_set (i := 4) nd rfl (Or.inl rfl) (pe_op op_add (pv 4) pe_int))))
      (pss_one (ps_ret (pe_op op_addS (pe_op op_addS (pe_slice sl_S (pv 1) po_none (po_some (pv 4))) (pv 2)) (pe_slice sl_S (pv 1) (po_some (pv 4)) po_none))))))))), ?_⟩
  refine s_start [some _, some _, some _, none, none] rfl ?_
  obtain ⟨dx, t, d, a1, a2, a3⟩ := h1.ex
  walk_at "go"
  refine v_fld a1 T.Plan.cl T.nO planF_o ?_
  walk_at "go"
  refine v_dget (dget_let (g := fun k => V.str (tx (crossOf ks ps k))) a3 hk) ?_
  walk_at "go"
  refine s_cut (fun σ H' => ∃ ra b : List Nat, name = ra.reverse ++ b ∧ splitB (crossOf ks ps k) name.reverse [] = (ra, b) ∧ σ = [some (.ref x), some (.str (tx name)), some (.str (tx [k])), some (.str (tx (crossOf ks ps k))), some (.int (ra.length : Nat))] ∧ H' = H) ?_ ?_
  · refine s_while (fun m σ H' => ∃ ra b : List Nat, m = ra.length ∧ name = ra.reverse ++ b ∧ splitB (crossOf ks ps k) name.reverse [] = splitB (crossOf ks ps k) ra b ∧ σ = [some (.ref x), some (.str (tx name)), some (.str (tx [k])), some (.str (tx (crossOf ks ps k))), some (.int (ra.length : Nat))] ∧ H' = H) name.length ⟨name.reverse, [], by simp, by simp, rfl, by simp, rfl⟩ ?_
    rintro m σ H' ⟨ra, b, rfl, e1, e2, rfl, rfl⟩
    walk_at "go"
    cases ra with
    | nil =>
      refine if_dec (fun c => absurd c (by simp)) (fun _ => ?_)
      walk_at "go"
      exact ⟨[], b, e1, e2, rfl, rfl⟩
    | cons y r =>
      refine if_dec (fun _ => ?_) (fun c => absurd (by simp) c)
      walk_at "go"
      refine v_ixS (c := y) (by omega) (by rw [e1]; exact at_last) ?_
      walk_at "go"
      refine if_dec (fun c => ?_) (fun c => ?_)
      · refine v_turn ?_
        walk_at "go"
        refine ⟨r.length, by simp, r, y :: b, rfl, ?_, ?_, ?_, rfl⟩
        · rw [e1, List.reverse_cons, List.append_assoc]
          rfl
        · rw [e2]
          show (if y ∈ crossOf ks ps k then _ else _) = _
          rw [if_pos c]
        · have e : (((y :: r).length : Nat) : Int) - 1 = (r.length : Nat) := by
            rw [List.length_cons]
            omega
          rw [e]
          rfl
      · walk_at "go"
        refine ⟨y :: r, b, e1, ?_, rfl, rfl⟩
        rw [e2]
        show (if y ∈ crossOf ks ps k then _ else _) = _
        rw [if_neg c]
  rintro σ H' ⟨ra, b, e1, e2, rfl, rfl⟩
  have hl2 : ra.length + b.length = name.length := by
    rw [e1, List.length_append, List.length_reverse]
  have q : Q (.str (tx (stepAt k ra b))) H' := by
    have e : stepOf (crossOf ks ps k) name k = stepAt k ra b := by
      unfold stepOf
      rw [e2]
    rw [e] at q
    exact q
  refine s_cut (fun σ H2 => ra.head? ≠ some k ∧ σ = [some (.ref x), some (.str (tx name)), some (.str (tx [k])), some (.str (tx (crossOf ks ps k))), some (.int (ra.length : Nat))] ∧ H2 = H') ?_ ?_
  · walk_at "go"
    cases ra with
    | nil =>
      refine if_dec (fun c => absurd c (by simp)) (fun _ => ?_)
      walk_at "go"
      exact ⟨by simp, rfl, rfl⟩
    | cons y r =>
      refine if_dec (fun _ => ?_) (fun c => absurd (by simp) c)
      walk_at "go"
      refine v_ixS (c := y) (by omega) (by rw [e1]; exact at_last) ?_
      walk_at "go"
      rw [dec_tx]
      refine if_dec (fun c => ?_) (fun c => ?_)
      · walk_at "go"
        have ey : y = k := by
          injection c
        subst ey
        have e3 : (((y :: r).length : Nat) : Int) - 1 = (r.length : Nat) := by
          rw [List.length_cons]
          omega
        rw [e3]
        refine v_slTo (by omega) (by omega) ?_
        walk_at "go"
        refine v_slFrom (by omega) (by omega) ?_
        have e4 : name.take ((r.length : Nat) : Int).toNat = r.reverse := by
          rw [e1, List.reverse_cons, List.append_assoc]
          exact List.take_left' (by simp)
        have e5 : name.drop (((y :: r).length : Nat) : Int).toNat = b := by
          rw [e1]
          exact List.drop_left' (by simp)
        rw [e4, e5]
        refine v_addS (by rw [List.length_reverse]; rw [List.length_cons] at hl2; omega) ?_
        have e6 : stepAt y (y :: r) b = r.reverse ++ b := by
          unfold stepAt
          rw [if_pos (show (y :: r).head? = some y from rfl)]
          rfl
        rw [e6] at q
        exact q
      · walk_at "go"
        refine ⟨?_, rfl, rfl⟩
        intro z
        injection z with z
        exact c (by rw [z])
  rintro σ H2 ⟨hh, rfl, rfl⟩
  refine s_cut (fun σ H3 => ∃ c d : List Nat, b = c ++ d ∧ putIn k b = c ++ k :: d ∧ σ = [some (.ref x), some (.str (tx name)), some (.str (tx [k])), some (.str (tx (crossOf ks ps k))), some (.int ((ra.length + c.length : Nat) : Int))] ∧ H3 = H2) ?_ ?_
  · refine s_while (fun m σ H3 => ∃ c d : List Nat, m = d.length ∧ b = c ++ d ∧ putIn k b = c ++ putIn k d ∧ σ = [some (.ref x), some (.str (tx name)), some (.str (tx [k])), some (.str (tx (crossOf ks ps k))), some (.int ((ra.length + c.length : Nat) : Int))] ∧ H3 = H2) b.length ⟨[], b, rfl, rfl, rfl, rfl, rfl⟩ ?_
    rintro m σ H3 ⟨c, d, rfl, e3, e4, rfl, rfl⟩
    have hl3 : ra.length + (c.length + d.length) = name.length := by
      rw [← hl2, e3, List.length_append]
    walk_at "go"
    cases d with
    | nil =>
      refine if_dec (fun z => ?_) (fun _ => ?_)
      · rw [List.length_nil] at hl3
        omega
      walk_at "go"
      exact ⟨c, [], e3, e4, rfl, rfl⟩
    | cons y r =>
      rw [List.length_cons] at hl3
      refine if_dec (fun _ => ?_) (fun z => by omega)
      walk_at "go"
      refine v_ixS (c := y) (by omega) ?_ ?_
      · rw [e1, e3, ← List.append_assoc]
        have := at_mid (x := y) (a := ra.reverse ++ c) (b := r)
        rw [List.length_append, List.length_reverse] at this
        exact this
      walk_at "go"
      rw [lt_one]
      refine if_dec (fun z => ?_) (fun z => ?_)
      · refine v_turn ?_
        walk_at "go"
        refine ⟨r.length, by simp, c ++ [y], r, rfl, ?_, ?_, ?_, rfl⟩
        · rw [e3, List.append_assoc]
          rfl
        · rw [e4, List.append_assoc]
          congr 1
          unfold putIn
          rw [List.takeWhile_cons_of_pos (by simpa using z), List.dropWhile_cons_of_pos (by simpa using z)]
          rfl
        · have e : ((ra.length + c.length : Nat) : Int) + 1 = ((ra.length + (c ++ [y]).length : Nat) : Int) := by
            rw [List.length_append, List.length_singleton]
            omega
          rw [e]
          rfl
      · walk_at "go"
        refine ⟨c, y :: r, e3, ?_, rfl, rfl⟩
        rw [e4]
        congr 1
        unfold putIn
        rw [List.takeWhile_cons_of_neg (by simpa using z), List.dropWhile_cons_of_neg (by simpa using z)]
        rfl
  rintro σ H3 ⟨c, d, e3, e4, rfl, rfl⟩
  have hl3 : ra.length + (c.length + d.length) = name.length := by
    rw [← hl2, e3, List.length_append]
  walk_at "go"
  refine v_slTo (by omega) (by omega) ?_
  have e5 : name.take ((ra.length + c.length : Nat) : Int).toNat = ra.reverse ++ c := by
    rw [e1, e3, ← List.append_assoc]
    exact List.take_left' (by rw [List.length_append, List.length_reverse]; omega)
  have e6 : name.drop ((ra.length + c.length : Nat) : Int).toNat = d := by
    rw [e1, e3, ← List.append_assoc]
    exact List.drop_left' (by rw [List.length_append, List.length_reverse]; omega)
  rw [e5]
  have l1 : (ra.reverse ++ c).length + [k].length ≤ 1000000 := by
    rw [List.length_append, List.length_reverse, List.length_singleton]
    omega
  have l2 : (ra.reverse ++ c ++ [k]).length + d.length ≤ 1000000 := by
    rw [List.length_append, List.length_append, List.length_reverse, List.length_singleton]
    omega
  walk_at "go"
  refine v_slFrom (by omega) (by omega) ?_
  rw [e6]
  refine v_addS l2 ?_
  have e7 : stepAt k ra b = ra.reverse ++ c ++ [k] ++ d := by
    unfold stepAt
    rw [if_neg hh, e4]
    simp
  rw [e7] at q
  exact q
abbrev stjoined : Stmt := (top 13)
abbrev Njoined : List Str := ["plan", "name", "way", "kind"]
theorem scjoined : FnScope Njoined ["plan", "name", "way"] (defScope stjoined) := ⟨rfl, rfl, rfl, by decide +kernel, rfl, by decide +kernel, by decide +kernel⟩

theorem ok_joined (F : FnAt K mg "joined" stjoined) (D_stepped : Def P w K mg base CX0 1 "stepped" ["plan", "name", "kind"] (spStepped C)) : Def P w K mg base CX0 2 "joined" ["plan", "name", "way"] (spJoined C) := by
  refine F.ok scjoined (fun _ _ _ _ _ _ us hl => match us, hl with | [_, _, _], _ => rfl) (fun vs H Q E h => ?_) (fun f cdv A outer s H vs Q E hr h => ?_)
  · obtain ⟨x, ks, ps, name, k, rfl, _⟩ := h
    rfl
  obtain ⟨x, ks, ps, name, way, rfl, h1, hk, hl, q⟩ := h
  have hu := hu_of hr
  have nd := scjoined.nd
  refine ⟨_, (pss_cons (ps_for PassesOwn.never rfl (pi_str (pv 2)) (pg_name (i := 3) nd rfl (Or.inl rfl))
      (pss_one (ps_set (i := 1) nd rfl (Or.inl rfl) (pe_cd D_stepped hr pass0 (pa_cons (pv 0) (pa_cons (pv 1) (pa_cons (pv 3) pa_nil)))))))
      (pss_one (ps_ret (pv 1)))), ?_⟩
  refine s_start [some _, some _, some _, none] rfl ?_
  walk_at "go"
  refine for_it (walk_tx way) (fun i σ H' => ∃ z, σ = [some (.ref x), some (.str (tx (joinOf ks ps name (way.take i)))), some (.str (tx way)), z] ∧ H' = H) ⟨_, rfl, rfl⟩ (fun _ _ _ _ _ => trivial) ?_ ?_
  · rintro i v σ H2 H3 hi ⟨z, rfl, rfl⟩ ⟨rfl, rfl⟩
    walk_at "go"
    refine ⟨x, ks, ps, _, way.getD i 0, rfl, h1, hk _ (getD_mem hi), ?_, ?_⟩
    · have := joinOf_len ks ps (way.take i) name
      rw [List.length_take] at this
      omega
    walk_at "go"
    rw [← joinOf_snoc, ← take_getD hi]
    exact ⟨_, rfl, rfl⟩
  · rintro σ H2 ⟨z, rfl, rfl⟩
    walk_at "go"
    rw [List.take_of_length_le (Nat.le_refl _)]
    exact q
end
end
section
open PySem PySem.Spec L2
def roomF (x : Addr) (name : List Nat) : List (Str × V) := putF "name" (.str (tx name)) (putF "plan" (.ref x) [])
theorem npn : ¬ (("plan" : Str) = "name") := by decide +kernel
theorem roomF_p {x : Addr} {name : List Nat} : (roomF x name).lookup ("plan" : Str) = some (.ref x) := by
  unfold roomF
  rw [lookup_putF, if_neg npn, lookup_putF, if_pos rfl]
theorem roomF_n {x : Addr} {name : List Nat} : (roomF x name).lookup ("name" : Str) = some (.str (tx name)) := by
  unfold roomF
  rw [lookup_putF, if_pos rfl]
/-- a room of the plan at x stands at r -/
structure RoomAt (R : Addr) (H : Hp) (r x : Addr) (name : List Nat) : Prop where
  ex : ∃ dx, H r = some (.ins R dx (roomF x name))
theorem RoomAt.same {R : Addr} {H H' : Hp} {r x : Addr} {name : List Nat} (h : RoomAt R H r x name) (s : Same H H') : RoomAt R H' r x name := by
  obtain ⟨dx, e⟩ := h.ex
  exact ⟨dx, s _ _ e⟩
structure TxtR (K : PySem.W.Frag) (mg : Str → Option Value) (C R O : Addr) : Prop extends TxtP K mg C where
  enumerate : mg "enumerate" = none
  g_MOST_LETTERS : ∃ t, mg "MOST_LETTERS" = some (.int 2000 t)
  Room : ClsF K mg "Room" R
  nPl : NoAttr K R "plan"
  nNm : NoAttr K R "name"
  OtherPlan : ExcF K mg "OtherPlan" O
def spNeedWay (C : Addr) : Sp := fun vs H Q _ => ∃ (x : Addr) (ks : List Nat) (ps : List (List Nat)) (way : List Nat), vs = [.ref x, .str (tx way)] ∧ PlanAt C H x ks ps ∧ (∀ c ∈ way, c ∈ ks) ∧ way.length ≤ 2000 ∧ ∀ H', Same H H' → Q (.str (tx way)) H'
/-- two plans, and what is due if they are equal and if not -/
def Plans2 (C : Addr) (H : Hp) (x y : Addr) (e : Bool) : Prop := ∃ (ks ks' : List Nat) (ps ps' : List (List Nat)), PlanAt C H x ks ps ∧ PlanAt C H y ks' ps' ∧ PsOk ps ∧ PsOk ps' ∧ e = decide (ks = ks' ∧ ps = ps')
def spNeedSame (C O : Addr) : Sp := fun vs H Q E => ∃ (x y : Addr) (e : Bool), vs = [.ref x, .ref y] ∧ Plans2 C H x y e ∧ (e = true → Q .non H) ∧ (e = false → E (.ref O) none H)
def spRoom0 (C R : Addr) : Sp := fun vs H Q _ => ∃ (r dx x : Addr) (ks : List Nat) (ps : List (List Nat)) (way : List Nat), vs = [.ref r, .ref x, .str (tx way)] ∧ H r = some (.ins R dx []) ∧ PlanAt C H x ks ps ∧ (∀ c ∈ way, c ∈ ks) ∧ way.length ≤ 2000 ∧
  ∀ H', Keep r H H' → RoomAt R H' r x (joinOf ks ps [] way) → Q .non H'
def spRoom (C R : Addr) : Sp := fun vs H Q _ => ∃ (x : Addr) (ks : List Nat) (ps : List (List Nat)) (way : List Nat), vs = [.ref x, .str (tx way)] ∧ PlanAt C H x ks ps ∧ (∀ c ∈ way, c ∈ ks) ∧ way.length ≤ 2000 ∧ ∀ r H', H r = none → Same H H' → RoomAt R H' r x (joinOf ks ps [] way) → Q (.ref r) H'
theorem PlanAt.none {C : Addr} {H : Hp} {x : Addr} {ks : List Nat} {ps : List (List Nat)} (h : PlanAt C H x ks ps) {a b : Addr} {o u : HO} (ha : H a = none) (hb : H b = none) : PlanAt C (upd (upd H a o) b u) x ks ps := by
  refine h.same fun c z hc => ?_
  rw [upd_ne (ne_of_none hc hb), upd_ne (ne_of_none hc ha)]
  exact hc
theorem conv_room (C R : Addr) : Conv R (spRoom0 C R) (spRoom C R) := by
  rintro vs H Q E ⟨x, ks, ps, way, rfl, hp, h1, h2, k⟩ r dx hx hdx hne
  refine ⟨r, dx, x, ks, ps, way, rfl, upd_same, hp.none hdx hx, h1, h2, fun H' s' a => ⟨rfl, k r H' hx (fun b o hb => ?_) a⟩⟩
  refine s' b o ?_ (ne_of_none hb hx)
  rw [upd_ne (ne_of_none hb hx), upd_ne (ne_of_none hb hdx)]
  exact hb
section
variable {P : Program} {w : World} {K : PySem.W.Frag} {mg : Str → Option Value} {base : Heap} {C R O : Addr}
abbrev stneed_way : Stmt := (top 31)
abbrev Nneed_way : List Str := ["plan", "way", "index", "letter"]
theorem scneed_way : FnScope Nneed_way ["plan", "way"] (defScope stneed_way) := ⟨rfl, rfl, rfl, by decide +kernel, rfl, by decide +kernel, by decide +kernel⟩

theorem ok_need_way (F : FnAt K mg "need_way" stneed_way) (T : TxtR K mg C R O) : Def P w K mg base CX0 1 "need_way" ["plan", "way"] (spNeedWay C) := by
  refine F.ok scneed_way (fun _ _ _ _ _ _ us hl => match us, hl with | [_, _], _ => rfl) (fun vs H Q E h => ?_) (fun f cdv A outer s H vs Q E hr h => ?_)
  · obtain ⟨x, ks, ps, way, rfl, _⟩ := h
    rfl
  obtain ⟨x, ks, ps, way, rfl, h1, hk, hl, q⟩ := h
  have hu := hu_of hr
  have nd := scneed_way.nd
  refine ⟨_, (pss_cons (ps_if (pt_not (pt_val (pe_callB (c_isiK (K := K) rfl) (by rfl) T.isinstance (by decide +kernel) (pa_cons (pv 1) (pa_cons (pe_bltn (v := .ty "str") (u := .type "str") (by rfl) T.str (by decide +kernel) rfl) pa_nil)))))
      (pss_one ps_never)
      pss_nil)
      (pss_cons (ps_for PassesOwn.never rfl (pi_enumS (by rfl) T.enumerate (pa_cons (pv 1) pa_nil)) (pg_tup rfl (pgs_cons (pg_name (i := 2) nd rfl (Or.inl rfl)) (pgs_cons (pg_name (i := 3) nd rfl (Or.inl rfl)) pgs_nil)))
      (pss_one (ps_if (pt_cmpR op_notInS (pv 3) (pe_flK (K := K) rfl (pv 0) rfl) (by rfl))
        (pss_one ps_never)
        pss_nil)))
      (pss_cons (ps_if (pt_cmpR op_gt (pe_callB c_lenS (by rfl) T.len PySem.boot_len (pa_cons (pv 1) pa_nil)) (pe_globI T.g_MOST_LETTERS) (nomark _))
      (pss_one ps_never)
      pss_nil)
      (pss_one (ps_ret (pv 1)))))), ?_⟩
  refine s_start [some _, some _, none, none] rfl ?_
  walk_at "go"
  refine for_it (walk_enumS way) (fun i σ H' => ∃ y z, σ = [some (.ref x), some (.str (tx way)), y, z] ∧ Same H H') ⟨_, _, rfl, Same.refl _⟩ (fun _ _ _ _ _ => trivial) ?_ ?_
  · rintro i v σ H2 H3 hi ⟨y, z, rfl, s2⟩ ⟨t, c, rfl, ht, rfl, hc⟩
    have s3 : Same H (upd H2 t (.tup [.int (i : Nat), .str (tx [c])])) := s2.trans (Same.new ht)
    obtain ⟨dx, t', d, a1, a2, a3⟩ := h1.ex
    refine v_gTup2 rfl upd_same ?_
    walk_at "go"
    refine v_fld (s3 _ _ a1) T.Plan.cl T.nK planF_k ?_
    walk_at "go"
    refine if_ndec (fun z => absurd (hk c (List.mem_of_getElem? hc)) z) (fun _ => ?_)
    walk_at "go"
    exact ⟨_, _, rfl, s3⟩
  · rintro σ H2 ⟨y, z, rfl, s2⟩
    walk_at "go"
    refine if_dec (fun c => ?_) (fun c => ?_)
    · omega
    walk_at "go"
    exact q H2 s2
abbrev stneed_same : Stmt := (top 32)
abbrev Nneed_same : List Str := ["plan", "other"]
theorem scneed_same : FnScope Nneed_same ["plan", "other"] (defScope stneed_same) := ⟨rfl, rfl, rfl, by decide +kernel, rfl, by decide +kernel, by decide +kernel⟩

theorem ok_need_same (F : FnAt K mg "need_same" stneed_same) (T : TxtR K mg C R O) (N_Plan_eq : MDef P w K mg base CX0 1 C "__eq__" ["self", "other"] (spPlanEq C)) : Def P w K mg base (L2.CX P w) 3 "need_same" ["plan", "other"] (spNeedSame C O) := by
  refine F.okX scneed_same (fun _ _ _ _ _ _ us hl => match us, hl with | [_, _], _ => rfl) (fun vs H Q E h => ?_) (fun f cdv A outer s H vs Q E hr h => ?_)
  · obtain ⟨x, y, e, rfl, _⟩ := h
    rfl
  obtain ⟨x, y, e, rfl, ⟨ks, ks', ps, ps', p1, p2, o1, o2, he⟩, q1, q2⟩ := h
  have hu := hu_of hr
  have nd := scneed_same.nd
  refine ⟨_, (pss_one (ps_if (pt_cmpR (op_neM N_Plan_eq T.Plan.ne T.Plan.ob hr pass0) (pv 0) (pv 1) (nomark _))
      (pss_one (ps_raise rfl (takes_of rfl rfl rfl rfl) (pmk_own0 T.OtherPlan)))
      pss_nil)), ?_⟩
  refine s_start [some _, some _] rfl ?_
  walk_at "go"
  obtain ⟨dx, t, d, a1, a2, a3⟩ := p1.ex
  obtain ⟨dy, t', d', b1, b2, b3⟩ := p2.ex
  refine v_M2n a1 b1 ?_
  refine ⟨x, y, ks, ks', ps, ps', rfl, p1, p2, o1, o2, ?_⟩
  refine ⟨_, rfl, ?_⟩
  walk_at "go"
  refine if_ndec (fun c => ?_) (fun c => ?_)
  · exact q2 (by rw [he, decide_eq_false c])
  · walk_at "go"
    exact q1 (by rw [he, decide_eq_true c])
abbrev stRoom_init : Stmt := (inClass (top 34) 0)
abbrev NRoom_init : List Str := ["self", "plan", "way"]
theorem scRoom_init : FnScope NRoom_init ["self", "plan", "way"] (defScope stRoom_init) := ⟨rfl, rfl, rfl, by decide +kernel, rfl, by decide +kernel, by decide +kernel⟩

theorem ok_Room {dvs : List V} (F : MAtD K R "__init__" "Room.__init__" stRoom_init dvs) (hd : dvs.length = 1) (T : TxtR K mg C R O) (D_need_way : Def P w K mg base CX0 1 "need_way" ["plan", "way"] (spNeedWay C)) (D_joined : Def P w K mg base CX0 2 "joined" ["plan", "name", "way"] (spJoined C)) :
    CMk P w K mg base CX0 3 "Room" R (spRoom C R) ["self", "plan", "way"] "Room.__init__" stRoom_init dvs := by
  refine F.make (sp0 := spRoom0 C R) T.Room scRoom_init (by intro z; rw [z] at hd; cases hd) (fun T kV doc pm an cdv ct us its l1 l2 => ?_) (fun vs H Q E h => ?_) (conv_room C R) (fun f cdv A outer s H vs Q E hr h => ?_)
  · rw [hd] at l2 ⊢
    match us, l1, its, l2 with
    | [_, _, _], _, [_], _ => exact ⟨_, rfl, rfl⟩
  · obtain ⟨r, dx, x, ks, ps, way, rfl, _⟩ := h
    rfl
  obtain ⟨r, dx, x, ks, ps, way, rfl, hx, hp, h1, h2, k⟩ := h
  have hu := hu_of hr
  have nd := scRoom_init.nd
  replace D_need_way := D_need_way.mono (show 1 ≤ 2 by decide)
  refine ⟨_, (pss_cons (ps_flK (K := K) rfl (pv 0) (pv 1) rfl)
      (pss_one (ps_flK (K := K) rfl (pv 0) (pe_cd D_joined hr pass0 (pa_cons (pv 1) (pa_cons (pe_tx [] (by decide +kernel)) (pa_cons (pe_cd D_need_way hr pass0 (pa_cons (pv 1) (pa_cons (pv 2) pa_nil))) pa_nil)))) rfl))), ?_⟩
  refine s_start [some _, some _, some _] rfl ?_
  walk_at "go"
  refine v_sfld hx T.Room.cl T.nPl (by decide) fun H1 s1 e1 => ?_
  walk_at "go"
  have hp1 : PlanAt C H1 x ks ps := by
    obtain ⟨dx', t', d, a1, a2, a3⟩ := hp.ex
    exact ⟨dx', t', d, s1 _ _ a1 (fun z => by rw [z, hx] at a1; injection a1 with a1; injection a1 with _ _ a1; cases a1), s1 _ _ a2 (ne_of a2 hx (by intro z; cases z)), s1 _ _ a3 (ne_of a3 hx (by intro z; cases z))⟩
  refine ⟨x, ks, ps, way, rfl, hp1, h1, h2, fun H2 s2 => ?_⟩
  walk_at "go"
  refine ⟨x, ks, ps, [], way, rfl, hp1.same s2, h1, by rw [List.length_nil]; omega, ?_⟩
  walk_at "go"
  refine v_sfld (s2 _ _ e1) T.Room.cl T.nNm (by show 1 < 1000; decide) fun H3 s3 e3 => ?_
  refine k H3 (fun b o hb nb => s3 _ _ (s2 _ _ (s1 _ _ hb nb)) nb) ⟨dx, e3⟩
end
end
section
open PySem PySem.Spec L2
theorem Plans2.same {C : Addr} {H H' : Hp} {x y : Addr} {e : Bool} (h : Plans2 C H x y e) (s : Same H H') : Plans2 C H' x y e := by
  obtain ⟨ks, ks', ps, ps', a, b, c⟩ := h
  exact ⟨ks, ks', ps, ps', a.same s, b.same s, c⟩
def spRoomLen (R : Addr) : Sp := fun vs H Q _ => ∃ (r x : Addr) (name : List Nat), vs = [.ref r] ∧ RoomAt R H r x name ∧ name.length ≤ 100000 ∧ Q (.int name.length) H
/-- two rooms, and whether their plans are equal -/
structure Rooms2 (C R : Addr) (H : Hp) (r x : Addr) (a : List Nat) (r' y : Addr) (b : List Nat) (e : Bool) : Prop where
  one : RoomAt R H r x a
  two : RoomAt R H r' y b
  pl : Plans2 C H x y e
  la : a.length ≤ 2000
  lb : b.length ≤ 2000
theorem Rooms2.same {C R : Addr} {H H' : Hp} {r x : Addr} {a : List Nat} {r' y : Addr} {b : List Nat} {e : Bool} (h : Rooms2 C R H r x a r' y b e) (s : Same H H') : Rooms2 C R H' r x a r' y b e := ⟨h.one.same s, h.two.same s, h.pl.same s, h.la, h.lb⟩
def spRoomEq (C R : Addr) : Sp := fun vs H Q _ => ∃ (r x : Addr) (a : List Nat) (r' y : Addr) (b : List Nat) (e : Bool), vs = [.ref r, .ref r'] ∧ Rooms2 C R H r x a r' y b e ∧ Q (.bl (e && decide (a = b))) H
theorem roomF_no {x : Addr} {name : List Nat} {m : Str} (h1 : ¬ m = "name") (h2 : ¬ m = "plan") : (roomF x name).lookup m = none := by
  unfold roomF
  rw [lookup_putF, if_neg h1, lookup_putF, if_neg h2]
  rfl
section
variable {P : Program} {w : World} {K : PySem.W.Frag} {mg : Str → Option Value} {base : Heap} {C R O : Addr}
abbrev stRoom_eq : Stmt := (inClass (top 34) 9)
abbrev NRoom_eq : List Str := ["self", "other"]
theorem scRoom_eq : FnScope NRoom_eq ["self", "other"] (defScope stRoom_eq) := ⟨rfl, rfl, rfl, by decide +kernel, rfl, by decide +kernel, by decide +kernel⟩

theorem ok_Room_eq (F : MAt K R "__eq__" "Room.__eq__" stRoom_eq) (T : TxtR K mg C R O) (M_Plan_eq : MDef P w K mg base CX0 1 C "__eq__" ["self", "other"] (spPlanEq C)) : MDef P w K mg base CX0 2 R "__eq__" ["self", "other"] (spRoomEq C R) := by
  refine F.ok scRoom_eq (fun _ _ _ _ _ _ us hl => match us, hl with | [_, _], _ => rfl) (fun vs H Q E h => ?_) (fun f cdv A outer s H vs Q E hr h => ?_)
  · obtain ⟨r, x, a, r', y, b, e, rfl, _⟩ := h
    rfl
  obtain ⟨r, x, a, r', y, b, e, rfl, h, q⟩ := h
  have hu := hu_of hr
  have nd := scRoom_eq.nd
  refine ⟨_, (pss_one (ps_ret (pe_and (pe_callB (c_isiK (K := K) rfl) (by rfl) T.isinstance (by decide +kernel) (pa_cons (pv 1) (pa_cons (pe_globC T.Room.at) pa_nil))) (pe_and (pe_cmpR (op_cmpM (op := .Eq) (fun _ _ => rfl) M_Plan_eq hr pass0) (pe_flK (K := K) rfl (pv 0) rfl) (pe_flK (K := K) rfl (pv 1) rfl) (nomark _)) (pe_one (pe_cmpR op_eq (pe_flK (K := K) rfl (pv 0) rfl) (pe_flK (K := K) rfl (pv 1) rfl) (nomark _))))))), ?_⟩
  refine s_start [some _, some _] rfl ?_
  obtain ⟨dr, a1⟩ := h.one.ex
  obtain ⟨dr', b1⟩ := h.two.ex
  obtain ⟨ks, ks', ps, ps', p1, p2, o1, o2, he⟩ := h.pl
  obtain ⟨dx, t, d, c1, c2, c3⟩ := p1.ex
  obtain ⟨dy, t', d', d1, d2, d3⟩ := p2.ex
  walk_at "go"
  refine v_isiC T.Room b1 ?_
  walk_at "go"
  refine v_fld a1 T.Room.cl T.nPl roomF_p ?_
  walk_at "go"
  refine v_fld b1 T.Room.cl T.nPl roomF_p ?_
  refine v_M2 c1 d1 ⟨x, y, ks, ks', ps, ps', rfl, p1, p2, o1, o2, ?_⟩
  rw [← he]
  walk_at "go"
  cases e with
  | true =>
    walk_at "go"
    refine v_fld a1 T.Room.cl T.nNm roomF_n ?_
    walk_at "go"
    refine v_fld b1 T.Room.cl T.nNm roomF_n ?_
    walk_at "go"
    rw [dec_tx]
    exact q
  | false =>
    walk_at "go"
    exact q
end
end
section
open PySem PySem.Spec L2
def spPen (K : PySem.W.Frag) : Sp := fun vs H Q _ => ∃ (a : Addr) (ns : List Int), vs = [.ref a] ∧ SqL K H a (ns.map V.int) ∧ ns.length ≤ 63 ∧ ∀ (g : Pen) (H' : Hp), PenAt g H' 0 → Same H H' → H g.p = none → Q (.ref g.p) H'
theorem cut_ints (ns : List Int) (lo hi : Option Int) : ∃ ms : List Int, cutV (ns.map V.int) lo hi = ms.map V.int ∧ ms.length ≤ ns.length := by
  unfold cutV
  rw [← List.map_drop, ← List.map_take]
  refine ⟨_, rfl, ?_⟩
  rw [List.length_take, List.length_drop]
  omega
section
variable {P : Program} {w : World} {K : PySem.W.Frag} {mg : Str → Option Value} {base : Heap}
abbrev stpen : Stmt := (top 78)
abbrev Npen : List Str := ["_law_script"]
theorem scpen : FnScope Npen ["_law_script"] (defScope stpen) := ⟨rfl, rfl, rfl, by decide +kernel, rfl, by decide +kernel, by decide +kernel⟩

theorem ok_pen (F : FnAt K mg "_law_begin" stpen) (T : Txt K mg) : Def P w K mg base CX0 1 "_law_begin" ["_law_script"] (spPen K) := by
  refine F.ok scpen (fun _ _ _ _ _ _ us hl => match us, hl with | [_], _ => rfl) (fun vs H Q E h => ?_) (fun f cdv A outer s H vs Q E hr h => ?_)
  · obtain ⟨a, ns, rfl, _⟩ := h
    rfl
  obtain ⟨a, ns, rfl, ha, hn, k⟩ := h
  have hu := hu_of hr
  have nd := scpen.nd
  refine ⟨_, (pss_one (ps_ret (pe_disp (pps_cons pe_str (pe_callTy (c_listK (K := K) rfl) (by rfl) T.list (by decide +kernel) (pa_cons (pe_slice (sl_LK (K := K) rfl) (pv 0) po_none (po_some pe_int)) pa_nil)) (pps_cons pe_str pe_int (pps_cons pe_str pe_int pps_nil))) (by rfl) (by rfl) (fun z => by cases z) (by decide)))), ?_⟩
  refine s_start [some _] rfl ?_
  walk_at "go"
  intro p hp
  have s1 : Same H (upd H p (.dK [])) := Same.new hp
  obtain ⟨ms, e1, l1⟩ := cut_ints ns none (some 63)
  walk_at "go"
  refine v_slL (sqL_same ha s1) fun b H2 hb s2 e2 => ?_
  rw [e1] at e2
  walk_at "go"
  refine v_list (SqL.of e2) fun c H3 hc s3 e3 => ?_
  walk_at "go"
  have ep : H3 p = some (.dK []) := s3 _ _ (s2 _ _ upd_same)
  refine ⟨ep, [(Sum.inr "cells", .ref c), (Sum.inr "spot", .int 0), (Sum.inr "left", .int 0)], rfl, (by show 3 ≤ 15; decide), ?_⟩
  have hcp : c ≠ p := (ne_of_none (s2 _ _ upd_same) hc).symm
  have em : mergeK [] [(Sum.inr ("cells" : Str), V.ref c), (Sum.inr ("spot" : Str), .int 0), (Sum.inr ("left" : Str), .int 0)] = penL c 0 0 := by
    unfold mergeK penL
    rw [List.foldl_cons, List.foldl_cons, List.foldl_cons, List.foldl_nil]
    rw [putK_new (k := Sum.inr ("cells" : Str)) _ rfl, putK_new (k := Sum.inr ("spot" : Str)) _ (by rw [List.nil_append, valV_neg kcp]; rfl), putK_new (k := Sum.inr ("left" : Str)) _ (by rw [List.nil_append, List.cons_append, valV_neg kcr, List.nil_append, valV_neg kpr]; rfl)]
    rfl
  rw [em]
  have s4 : Same H (upd H3 p (.dK (penL c 0 0))) := fun b' o hb' => by
    rw [upd_ne (ne_of_none hb' hp)]
    exact s3 _ _ (s2 _ _ (s1 _ _ hb'))
  refine k ⟨p, c, ms⟩ _ ⟨0, 0, upd_same, ?_, by show ms.length ≤ 63; omega, by omega, by omega, by omega⟩ s4 hp
  show upd H3 p _ c = _
  rw [upd_ne hcp]
  exact e3
end
end
section
open PySem PySem.Spec L2
theorem cells_ne {k : Nat} : ¬ ((Sum.inr (tx [k]) : Key) = Sum.inr ("cells" : Str)) := by
  intro h
  injection h with h
  have : (tx [k]).length = ("cells" : Str).length := by rw [h]
  rw [tx_len, List.length_singleton] at this
  exact absurd this (by decide +kernel)
theorem RoomAt.pen {R : Addr} {H H' : Hp} {r x : Addr} {nm : List Nat} {g : Pen} {n : Nat} (h : RoomAt R H r x nm) (p : PenAt g H n) (k : Keep g.p H H') : RoomAt R H' r x nm := by
  obtain ⟨dx, e⟩ := h.ex
  obtain ⟨a, b, h1, _⟩ := p.ex
  exact ⟨dx, k _ _ e (ne_of e h1 (by intro z; cases z))⟩
theorem PlanAt.pen {C : Addr} {H H' : Hp} {x : Addr} {ks : List Nat} {ps : List (List Nat)} {g : Pen} {n : Nat} (h : PlanAt C H x ks ps) (p : PenAt g H n) (k : Keep g.p H H') : PlanAt C H' x ks ps := by
  obtain ⟨dx, t, d, a1, a2, a3⟩ := h.ex
  obtain ⟨a, b, h1, _⟩ := p.ex
  refine ⟨dx, t, d, k _ _ a1 (ne_of a1 h1 (by intro z; cases z)), k _ _ a2 (ne_of a2 h1 (by intro z; cases z)), k _ _ a3 fun z => ?_⟩
  rw [z, h1] at a3
  injection a3 with a3
  injection a3 with a3
  unfold crossKV penL at a3
  generalize hk : ks.map _ = m at a3
  cases ks with
  | nil => rw [List.map_nil] at hk; rw [← hk] at a3; cases a3
  | cons c r =>
    rw [List.map_cons] at hk
    rw [← hk] at a3
    injection a3 with a3 _
    injection a3 with a3 _
    exact cells_ne a3.symm
theorem RoomAt.lst {R : Addr} {H H' : Hp} {r x q : Addr} {nm : List Nat} {l : List V} (h : RoomAt R H r x nm) (e0 : H q = some (.lst l)) (k : Keep q H H') : RoomAt R H' r x nm := by
  obtain ⟨dx, e⟩ := h.ex
  exact ⟨dx, k _ _ e (ne_of e e0 (by intro z; cases z))⟩
theorem PlanAt.lst {C : Addr} {H H' : Hp} {x q : Addr} {ks : List Nat} {ps : List (List Nat)} {l : List V} (h : PlanAt C H x ks ps) (e0 : H q = some (.lst l)) (k : Keep q H H') : PlanAt C H' x ks ps := by
  obtain ⟨dx, t, d, a1, a2, a3⟩ := h.ex
  exact ⟨dx, t, d, k _ _ a1 (ne_of a1 e0 (by intro z; cases z)), k _ _ a2 (ne_of a2 e0 (by intro z; cases z)), k _ _ a3 (ne_of a3 e0 (by intro z; cases z))⟩
end
section
open PySem PySem.Spec L2
def spIsKind (C : Addr) : Sp := fun vs H Q _ => ∃ (x : Addr) (ks : List Nat) (ps : List (List Nat)) (k : Nat), vs = [.ref x, .str (tx [k])] ∧ PlanAt C H x ks ps ∧ k ∈ ks ∧ Q (.bl true) H
def spNeedKind (C : Addr) : Sp := fun vs H Q _ => ∃ (x : Addr) (ks : List Nat) (ps : List (List Nat)) (k : Nat), vs = [.ref x, .str (tx [k])] ∧ PlanAt C H x ks ps ∧ k ∈ ks ∧ Q (.str (tx [k])) H
/-- a room and a text -/
def spRoomEqS (R : Addr) : Sp := fun vs H Q _ => ∃ (r : Addr) (z : Str), vs = [.ref r, .str z] ∧ Q (.bl false) H
section
variable {P : Program} {w : World} {K : PySem.W.Frag} {mg : Str → Option Value} {base : Heap} {C R O : Addr}
abbrev stis_kind : Stmt := (top 29)
abbrev Nis_kind : List Str := ["plan", "value"]
theorem scis_kind : FnScope Nis_kind ["plan", "value"] (defScope stis_kind) := ⟨rfl, rfl, rfl, by decide +kernel, rfl, by decide +kernel, by decide +kernel⟩

theorem ok_is_kind (F : FnAt K mg "is_kind" stis_kind) (T : TxtP K mg C) : Def P w K mg base CX0 1 "is_kind" ["plan", "value"] (spIsKind C) := by
  refine F.ok scis_kind (fun _ _ _ _ _ _ us hl => match us, hl with | [_, _], _ => rfl) (fun vs H Q E h => ?_) (fun f cdv A outer s H vs Q E hr h => ?_)
  · obtain ⟨x, ks, ps, k, rfl, _⟩ := h
    rfl
  obtain ⟨x, ks, ps, k, rfl, h1, hk, q⟩ := h
  have hu := hu_of hr
  have nd := scis_kind.nd
  refine ⟨_, (pss_one (ps_ret (pe_and (pe_callB (c_isiK (K := K) rfl) (by rfl) T.isinstance (by decide +kernel) (pa_cons (pv 1) (pa_cons (pe_bltn (v := .ty "str") (u := .type "str") (by rfl) T.str (by decide +kernel) rfl) pa_nil))) (pe_and (pe_cmpR op_eq (pe_callB c_lenS (by rfl) T.len PySem.boot_len (pa_cons (pv 1) pa_nil)) pe_int (nomark _)) (pe_one (pe_cmpR op_inS (pv 1) (pe_flK (K := K) rfl (pv 0) rfl) (by rfl))))))), ?_⟩
  refine s_start [some _, some _] rfl ?_
  obtain ⟨dx, t, d, a1, a2, a3⟩ := h1.ex
  have l1 : [k].length ≤ 1000000 := by simp
  walk_at "go"
  refine if_dec (fun c => ?_) (fun c => (c (by rfl)).elim)
  walk_at "go"
  refine v_fld a1 T.Plan.cl T.nK planF_k ?_
  walk_at "go"
  rw [decide_eq_true hk]
  exact q
abbrev stneed_kind : Stmt := (top 30)
abbrev Nneed_kind : List Str := ["plan", "value"]
theorem scneed_kind : FnScope Nneed_kind ["plan", "value"] (defScope stneed_kind) := ⟨rfl, rfl, rfl, by decide +kernel, rfl, by decide +kernel, by decide +kernel⟩

theorem ok_need_kind (F : FnAt K mg "need_kind" stneed_kind) (D_is_kind : Def P w K mg base CX0 1 "is_kind" ["plan", "value"] (spIsKind C)) : Def P w K mg base CX0 2 "need_kind" ["plan", "value"] (spNeedKind C) := by
  refine F.ok scneed_kind (fun _ _ _ _ _ _ us hl => match us, hl with | [_, _], _ => rfl) (fun vs H Q E h => ?_) (fun f cdv A outer s H vs Q E hr h => ?_)
  · obtain ⟨x, ks, ps, k, rfl, _⟩ := h
    rfl
  obtain ⟨x, ks, ps, k, rfl, h1, hk, q⟩ := h
  have hu := hu_of hr
  have nd := scneed_kind.nd
  refine ⟨_, (pss_cons (ps_if (pt_not (pt_val (pe_cd D_is_kind hr pass0 (pa_cons (pv 0) (pa_cons (pv 1) pa_nil)))))
      (pss_one ps_never)
      pss_nil)
      (pss_one (ps_ret (pv 1)))), ?_⟩
  refine s_start [some _, some _] rfl ?_
  walk_at "go"
  refine ⟨x, ks, ps, k, rfl, h1, hk, ?_⟩
  walk_at "go"
  exact q
end
end
section
open PySem PySem.Spec L2
section
variable {P : Program} {w : World} {K : PySem.W.Frag} {mg : Str → Option Value} {base : Heap}
end
end
section
open PySem PySem.Spec L2
structure TxtH (K : PySem.W.Frag) (mg : Str → Option Value) : Prop extends Txt K mg where
  range : mg "range" = none
section
variable {P : Program} {w : World} {K : PySem.W.Frag} {mg : Str → Option Value} {base : Heap}
end
end
section
open PySem PySem.Spec L2
structure TxtV (K : PySem.W.Frag) (mg : Str → Option Value) : Prop extends TxtH K mg where
  tuple : mg "tuple" = none
  min : mg "min" = none
  dict : mg "dict" = none
section
variable {P : Program} {w : World} {K : PySem.W.Frag} {mg : Str → Option Value} {base : Heap}
end
end
section
open PySem PySem.Spec L2
section
variable {P : Program} {w : World} {K : PySem.W.Frag} {mg : Str → Option Value} {base : Heap}
end
end
section
open PySem PySem.Spec L2
section
variable {P : Program} {w : World} {K : PySem.W.Frag} {mg : Str → Option Value} {base : Heap}
end
end
section
open PySem PySem.Spec L2
section
variable {P : Program} {w : World} {K : PySem.W.Frag} {mg : Str → Option Value} {base : Heap}
end
end
section
open PySem PySem.Spec L2
def spLaw (K : PySem.W.Frag) : Sp := fun vs H Q _ => ∃ (a : Addr) (ns : List Int), vs = [.ref a] ∧ SqL K H a (ns.map V.int) ∧ ns.length ≤ 63 ∧ ∀ H', Q (.bl true) H'
theorem if_nI {c A B : Prop} {inst : Decidable c} (h : c) (q : B) : if (!decide c) = true then A else B := if_ndec (fun z => absurd h z) (fun _ => q)
theorem if_I {c A B : Prop} {inst : Decidable c} (h : c) (q : A) : if decide c = true then A else B := if_dec (fun _ => q) (fun z => absurd h z)
/-! ### rooms of one plan -/
theorem RoomAt.go {R : Addr} {H H' : Hp} {r x : Addr} {name : List Nat} (s : Same H H') (h : RoomAt R H r x name) : RoomAt R H' r x name := h.same s
theorem PlanAt.go {C : Addr} {H H' : Hp} {x : Addr} {ks : List Nat} {ps : List (List Nat)} (s : Same H H') (h : PlanAt C H x ks ps) : PlanAt C H' x ks ps := h.same s
section
variable {K : PySem.W.Frag} {H : Hp} {Q : VK} {C R r r' x : Addr} {a b : List Nat} {ks : List Nat} {ps : List (List Nat)} {E : XK}
theorem v_rname {P : V → Prop} (h : RoomAt R H r x a) (c : Cls K R) (n : NoAttr K R "name") (q : P (.str (tx a))) : ∃ a' C dx fs v, V.ref r = .ref a' ∧ H a' = some (.ins C dx fs) ∧ Cls K C ∧ NoAttr K C "name" ∧ fs.lookup ("name" : Str) = some v ∧ P v := by
  obtain ⟨dx, e⟩ := h.ex
  exact v_fld e c n roomF_n q
theorem v_rnameG {P : V → Prop} (q : ∃ R x a, RoomAt R H r x a ∧ Cls K R ∧ NoAttr K R "name" ∧ P (.str (tx a))) : ∃ a' C dx fs v, V.ref r = .ref a' ∧ H a' = some (.ins C dx fs) ∧ Cls K C ∧ NoAttr K C "name" ∧ fs.lookup ("name" : Str) = some v ∧ P v := by
  obtain ⟨R, x, a, h, c, n, q⟩ := q
  exact v_rname h c n q
theorem v_rplan {P : V → Prop} (h : RoomAt R H r x a) (c : Cls K R) (n : NoAttr K R "plan") (q : P (.ref x)) : ∃ a' C dx fs v, V.ref r = .ref a' ∧ H a' = some (.ins C dx fs) ∧ Cls K C ∧ NoAttr K C "plan" ∧ fs.lookup ("plan" : Str) = some v ∧ P v := by
  obtain ⟨dx, e⟩ := h.ex
  exact v_fld e c n roomF_p q
theorem v_rplanG {P : V → Prop} (q : ∃ R x a, RoomAt R H r x a ∧ Cls K R ∧ NoAttr K R "plan" ∧ P (.ref x)) : ∃ a' C dx fs v, V.ref r = .ref a' ∧ H a' = some (.ins C dx fs) ∧ Cls K C ∧ NoAttr K C "plan" ∧ fs.lookup ("plan" : Str) = some v ∧ P v := by
  obtain ⟨R, x, a, h, c, n, q⟩ := q
  exact v_rplan h c n q
theorem rooms2 (h1 : RoomAt R H r x a) (h2 : RoomAt R H r' x b) (pl : PlanAt C H x ks ps) (ok : PsOk ps) (la : a.length ≤ 2000) (lb : b.length ≤ 2000) : Rooms2 C R H r x a r' x b true := ⟨h1, h2, ⟨ks, ks, ps, ps, pl, pl, ok, ok, (decide_eq_true ⟨rfl, rfl⟩).symm⟩, la, lb⟩
theorem v_req (h1 : RoomAt R H r x a) (h2 : RoomAt R H r' x b) (pl : PlanAt C H x ks ps) (ok : PsOk ps) (la : a.length ≤ 2000) (lb : b.length ≤ 2000) (q : Q (.bl (decide (a = b))) H) : rM2 R (spRoomEq C R) E (.ref r) (.ref r') H Q := by
  obtain ⟨dx, e1⟩ := h1.ex
  obtain ⟨dy, e2⟩ := h2.ex
  refine v_M2 e1 e2 ⟨_, _, _, _, _, _, _, rfl, rooms2 h1 h2 pl ok la lb, ?_⟩
  rw [Bool.true_and]
  exact q
theorem v_rne (h1 : RoomAt R H r x a) (h2 : RoomAt R H r' x b) (pl : PlanAt C H x ks ps) (ok : PsOk ps) (la : a.length ≤ 2000) (lb : b.length ≤ 2000) (q : Q (.bl (!decide (a = b))) H) : rM2n R (spRoomEq C R) E (.ref r) (.ref r') H Q := by
  obtain ⟨dx, e1⟩ := h1.ex
  obtain ⟨dy, e2⟩ := h2.ex
  refine v_M2n e1 e2 ⟨_, _, _, _, _, _, _, rfl, rooms2 h1 h2 pl ok la lb, ?_⟩
  rw [Bool.true_and]
  exact ⟨_, rfl, q⟩
theorem v_rlen (h : RoomAt R H r x a) (l : a.length ≤ 100000) (q : Q (.int a.length) H) : rLenM R (spRoomLen R) E [.ref r] H Q := by
  obtain ⟨dx, e⟩ := h.ex
  exact v_lenM e ⟨_, _, _, rfl, h, l, a.length, rfl, by omega, q⟩
theorem v_reqT {z : Str} (h : RoomAt R H r x a) (q : Q (.bl false) H) : rMS R (spRoomEqS R) E (.ref r) (.str z) H Q := by
  obtain ⟨dx, e⟩ := h.ex
  exact v_MS e ⟨_, _, rfl, q⟩
theorem v_rlenG (q : ∃ x a, RoomAt R H r x a ∧ a.length ≤ 100000 ∧ Q (.int a.length) H) : rLenM R (spRoomLen R) E [.ref r] H Q := by
  obtain ⟨x, a, h, l, q⟩ := q
  exact v_rlen h l q
theorem v_reqG (q : ∃ x a b ks ps, RoomAt R H r x a ∧ RoomAt R H r' x b ∧ PlanAt C H x ks ps ∧ PsOk ps ∧ a.length ≤ 2000 ∧ b.length ≤ 2000 ∧ Q (.bl (decide (a = b))) H) : rM2 R (spRoomEq C R) E (.ref r) (.ref r') H Q := by
  obtain ⟨x, a, b, ks, ps, h1, h2, h3, h4, h5, h6, q⟩ := q
  exact v_req h1 h2 h3 h4 h5 h6 q
theorem v_rneG (q : ∃ x a b ks ps, RoomAt R H r x a ∧ RoomAt R H r' x b ∧ PlanAt C H x ks ps ∧ PsOk ps ∧ a.length ≤ 2000 ∧ b.length ≤ 2000 ∧ Q (.bl (!decide (a = b))) H) : rM2n R (spRoomEq C R) E (.ref r) (.ref r') H Q := by
  obtain ⟨x, a, b, ks, ps, h1, h2, h3, h4, h5, h6, q⟩ := q
  exact v_rne h1 h2 h3 h4 h5 h6 q
theorem v_reqTG {z : Str} (q : ∃ x a, RoomAt R H r x a ∧ Q (.bl false) H) : rMS R (spRoomEqS R) E (.ref r) (.str z) H Q := by
  obtain ⟨x, a, h, q⟩ := q
  exact v_reqT h q
theorem v_peqS {x : Addr} (pl : PlanAt C H x ks ps) (ok : PsOk ps) (q : Q (.bl true) H) : rM2 C (spPlanEq C) E (.ref x) (.ref x) H Q := by
  obtain ⟨dx, t, d, e, _⟩ := pl.ex
  refine v_M2 e e ⟨_, _, _, _, _, _, rfl, pl, pl, ok, ok, ?_⟩
  rw [decide_eq_true ⟨rfl, rfl⟩]
  exact q
theorem v_peqG {x : Addr} (q : ∃ ks ps, PlanAt C H x ks ps ∧ PsOk ps ∧ Q (.bl true) H) : rM2 C (spPlanEq C) E (.ref x) (.ref x) H Q := by
  obtain ⟨ks, ps, h1, h2, q⟩ := q
  exact v_peqS h1 h2 q
end
/-! ### rooms of a drawn floor -/
section
variable {K : PySem.W.Frag} {H : Hp} {Q : VK} {C R r x : Addr} {ls : List Nat} {fn : Nat → List Nat} {a b w : List Nat} {k : Nat} {E : XK}
theorem inAsc (T : Tab ls fn) (h : ∀ c ∈ a, c ∈ ls) : ∀ c ∈ a, c ∈ ascOf ls := fun c hc => ascOf_mem.mpr ⟨T.lt c (h c hc), h c hc⟩
theorem memN (h : ∀ c ∈ a, c ∈ ls) : ∀ c ∈ joinC fn [] a, c ∈ ls := fun c hc => h c (name_mem hc)
theorem sp_room (fl : Fl ls fn) (pl : PlanAt C H x (ascOf ls) (tabPairs ls fn)) (hw : ∀ c ∈ w, c ∈ ls) (l : w.length ≤ 2000) (q : ∀ r H', H r = none → Same H H' → RoomAt R H' r x (joinC fn [] w) → Q (.ref r) H') : spRoom C R [.ref x, .str (tx w)] H Q E := by
  refine ⟨x, _, _, w, rfl, pl, inAsc fl.tab hw, l, fun r H' h s ro => q r H' h s ?_⟩
  rw [joinOf_tab fl.tab (name := []) (by simp) hw] at ro
  exact ro
end
theorem v_mdRG {R r : Addr} {H : Hp} {m : Str} {P : Prop} (q : ∃ x a, RoomAt R H r x a ∧ (¬ m = "name" ∧ ¬ m = "plan") ∧ P) : ∃ a dx fs, V.ref r = .ref a ∧ H a = some (.ins R dx fs) ∧ fs.lookup m = none ∧ P := by
  obtain ⟨x, a, h, ⟨h1, h2⟩, q⟩ := q
  obtain ⟨dx, e⟩ := h.ex
  exact ⟨r, dx, _, rfl, e, roomF_no h1 h2, q⟩
end
section
open PySem PySem.Spec L2
section
variable {P : Program} {w : World} {K : PySem.W.Frag} {mg : Str → Option Value} {base : Heap} {C : Addr}
abbrev stturned_back : Stmt := (top 14)
abbrev Nturned_back : List Str := ["plan", "name"]
theorem scturned_back : FnScope Nturned_back ["plan", "name"] (defScope stturned_back) := ⟨rfl, rfl, rfl, by decide +kernel, rfl, by decide +kernel, by decide +kernel⟩

theorem ok_turned_back (F : FnAt K mg "turned_back" stturned_back) (D_joined : Def P w K mg base CX0 2 "joined" ["plan", "name", "way"] (spJoined C)) : Def P w K mg base CX0 3 "turned_back" ["plan", "name"] (spBack C) := by
  refine F.ok scturned_back (fun _ _ _ _ _ _ us hl => match us, hl with | [_, _], _ => rfl) (fun vs H Q E h => ?_) (fun f cdv A outer s H vs Q E hr h => ?_)
  · obtain ⟨x, ks, ps, name, rfl, _⟩ := h
    rfl
  obtain ⟨x, ks, ps, name, rfl, h1, hk, hl, q⟩ := h
  have hu := hu_of hr
  have nd := scturned_back.nd
  refine ⟨_, (pss_one (ps_ret (pe_cd D_joined hr pass0 (pa_cons (pv 0) (pa_cons (pe_tx [] (by decide +kernel)) (pa_cons (pe_revS (pv 1)) pa_nil)))))), ?_⟩
  refine s_start [some _, some _] rfl ?_
  walk_at "go"

  refine ⟨x, ks, ps, [], name.reverse, rfl, h1, fun c hc => hk c (List.mem_reverse.mp hc), ?_, q⟩
  rw [List.length_reverse, List.length_nil]
  omega
abbrev stway_from : Stmt := (top 15)
abbrev Nway_from : List Str := ["plan", "name", "goal"]
theorem scway_from : FnScope Nway_from ["plan", "name", "goal"] (defScope stway_from) := ⟨rfl, rfl, rfl, by decide +kernel, rfl, by decide +kernel, by decide +kernel⟩

theorem ok_way_from (F : FnAt K mg "way_from" stway_from) (D_joined : Def P w K mg base CX0 2 "joined" ["plan", "name", "way"] (spJoined C)) (D_turned_back : Def P w K mg base CX0 3 "turned_back" ["plan", "name"] (spBack C)) : Def P w K mg base CX0 4 "way_from" ["plan", "name", "goal"] (spWayFrom C) := by
  refine F.ok scway_from (fun _ _ _ _ _ _ us hl => match us, hl with | [_, _, _], _ => rfl) (fun vs H Q E h => ?_) (fun f cdv A outer s H vs Q E hr h => ?_)
  · obtain ⟨x, ks, ps, name, goal, rfl, _⟩ := h
    rfl
  obtain ⟨x, ks, ps, name, goal, rfl, h1, hk, hg, hl, hm, q⟩ := h
  have hu := hu_of hr
  have nd := scway_from.nd
  replace D_joined := D_joined.mono (show 2 ≤ 3 by decide)
  refine ⟨_, (pss_one (ps_ret (pe_cd D_joined hr pass0 (pa_cons (pv 0) (pa_cons (pe_cd D_turned_back hr pass0 (pa_cons (pv 0) (pa_cons (pv 1) pa_nil))) (pa_cons (pv 2) pa_nil)))))), ?_⟩
  refine s_start [some _, some _, some _] rfl ?_
  walk_at "go"
  refine ⟨x, ks, ps, name, rfl, h1, hk, hl, ?_⟩
  walk_at "go"
  refine ⟨x, ks, ps, _, goal, rfl, h1, hg, ?_, q⟩
  have := backOf_len ks ps name
  omega
end
end
section
open PySem PySem.Spec L2
section
variable {P : Program} {w : World} {K : PySem.W.Frag} {mg : Str → Option Value} {base : Heap} {C R O : Addr}
end
end
section
open PySem PySem.Spec L2
def spFree (C : Addr) : Sp := fun vs H Q _ => ∃ (x : Addr) (ks : List Nat) (ps : List (List Nat)) (free : List Nat) (k : Nat), vs = [.ref x, .str (tx free), .str (tx [k])] ∧ PlanAt C H x ks ps ∧ k ∈ ks ∧ free.length ≤ 1000 ∧ ∀ H', Same H H' → Q (.str (tx (free.filter fun o => decide (o ∈ crossOf ks ps k)))) H'
/-- the kinds in front of a way -/
def firstsOf (ks : List Nat) (ps : List (List Nat)) (way : List Nat) : List Nat := ks.filter fun s => decide (s ∈ founds (crossOf ks ps) ks way)
def spFirst (C : Addr) : Sp := fun vs H Q _ => ∃ (x : Addr) (ks : List Nat) (ps : List (List Nat)) (way : List Nat), vs = [.ref x, .str (tx way)] ∧ PlanAt C H x ks ps ∧ (∀ c ∈ way, c ∈ ks) ∧ ks.length ≤ 1000 ∧ way.length ≤ 100000 ∧ ∀ H', Same H H' → Q (.str (tx (firstsOf ks ps way))) H'
def spLast (C : Addr) : Sp := fun vs H Q _ => ∃ (x : Addr) (ks : List Nat) (ps : List (List Nat)) (way : List Nat), vs = [.ref x, .str (tx way)] ∧ PlanAt C H x ks ps ∧ (∀ c ∈ way, c ∈ ks) ∧ ks.length ≤ 1000 ∧ way.length ≤ 100000 ∧ ∀ H', Same H H' → Q (.str (tx (firstsOf ks ps way.reverse))) H'
theorem filt_len {p : Nat → Bool} {l : List Nat} : (l.filter p).length ≤ l.length := List.length_filter_le p l
theorem founds_len (f : Nat → List Nat) : ∀ (w free : List Nat), (founds f free w).length ≤ w.length
  | [], _ => Nat.le_refl _
  | k :: r, free => by
    have := founds_len f r (free.filter fun o => decide (o ∈ f k))
    show ((if k ∈ free then [k] else []) ++ founds f _ r).length ≤ _
    rw [List.length_append, List.length_cons]
    split <;> simp <;> omega
section
variable {P : Program} {w : World} {K : PySem.W.Frag} {mg : Str → Option Value} {base : Heap} {C R O : Addr}
abbrev ststill_free : Stmt := (top 16)
abbrev Nstill_free : List Str := ["plan", "kinds", "kind", "other"]
theorem scstill_free : FnScope Nstill_free ["plan", "kinds", "kind"] (defScope ststill_free) := ⟨rfl, rfl, rfl, by decide +kernel, rfl, by decide +kernel, by decide +kernel⟩

theorem ok_still_free (F : FnAt K mg "still_free" ststill_free) (T : TxtP K mg C) : Def P w K mg base CX0 1 "still_free" ["plan", "kinds", "kind"] (spFree C) := by
  refine F.ok scstill_free (fun _ _ _ _ _ _ us hl => match us, hl with | [_, _, _], _ => rfl) (fun vs H Q E h => ?_) (fun f cdv A outer s H vs Q E hr h => ?_)
  · obtain ⟨x, ks, ps, free, k, rfl, _⟩ := h
    rfl
  obtain ⟨x, ks, ps, free, k, rfl, h1, hk, hl, q⟩ := h
  have hu := hu_of hr
  have nd := scstill_free.nd
  refine ⟨_, (pss_one (ps_ret (pe_joinK (K := K) rfl (pe_tx [] (by decide +kernel)) (pe_lc (own := [("other", 3)]) (g := gName 3) (by rfl) nd (pi_str (pv 1)) (blkOk_by (own := [("other", 3)]) (N := Nstill_free) (sc := defScope ststill_free) (by decide +kernel)) (fun _ _ _ _ _ => (pg_name (i := 3) nd rfl (Or.inl rfl))) (fun _ _ _ _ _ => (pts_one (pt_cmpR op_inS (pv 3) (pe_dget hu (pe_flK (K := K) rfl (pv 0) rfl) (pv 2) (fun _ _ => rfl)) (by rfl)))) (fun _ _ _ _ _ => (pv 3)))))), ?_⟩
  refine s_start [some _, some _, some _, none] rfl ?_
  obtain ⟨dx, t, d, a1, a2, a3⟩ := h1.ex
  walk_at "go"
  refine v_lcS (l := free) (b := fun c => decide (c ∈ crossOf ks ps k)) (f := fun c => V.str (tx [c])) (by omega) (fun c _ H1 s1 R r => ?_) (fun c _ _ H1 s1 R r => ?_) (fun D H1 hD s1 e1 => ?_)
  · walk_at "go"
    refine v_fld (s1 _ _ a1) T.Plan.cl T.nO planF_o ?_
    walk_at "go"
    refine v_dget (dget_let (g := fun k => V.str (tx (crossOf ks ps k))) (s1 _ _ a3) hk) ?_
    walk_at "go"
    exact r H1 (Same.refl _)
  · walk_at "go"
    exact r H1 (Same.refl _)
  walk_at "go"
  rw [strs_ones] at e1
  have hl2 := filt_len (p := fun c => decide (c ∈ crossOf ks ps k)) (l := free)
  refine v_join e1 (by rw [flat_ones]; omega) ?_
  rw [flat_ones]
  exact q H1 s1
abbrev stfirst_kinds : Stmt := (top 17)
abbrev Nfirst_kinds : List Str := ["plan", "way", "found", "free", "kind"]
theorem scfirst_kinds : FnScope Nfirst_kinds ["plan", "way"] (defScope stfirst_kinds) := ⟨rfl, rfl, rfl, by decide +kernel, rfl, by decide +kernel, by decide +kernel⟩

theorem ok_first_kinds (F : FnAt K mg "first_kinds" stfirst_kinds) (T : TxtP K mg C) (D_still_free : Def P w K mg base CX0 1 "still_free" ["plan", "kinds", "kind"] (spFree C)) : Def P w K mg base CX0 2 "first_kinds" ["plan", "way"] (spFirst C) := by
  refine F.ok scfirst_kinds (fun _ _ _ _ _ _ us hl => match us, hl with | [_, _], _ => rfl) (fun vs H Q E h => ?_) (fun f cdv A outer s H vs Q E hr h => ?_)
  · obtain ⟨x, ks, ps, way, rfl, _⟩ := h
    rfl
  obtain ⟨x, ks, ps, way, rfl, h1, hw, hk, hl, q⟩ := h
  have hu := hu_of hr
  have nd := scfirst_kinds.nd
  refine ⟨_, (pss_cons (ps_set (i := 2) nd rfl (Or.inr rfl) (pe_tx [] (by decide +kernel)))
      (pss_cons (ps_set (i := 3) nd rfl (Or.inl rfl) (pe_flK (K := K) rfl (pv 0) rfl))
      (pss_cutS (ps_for PassesOwn.never rfl (pi_str (pv 1)) (pg_name (i := 4) nd rfl (Or.inl rfl))
      (pss_cons (ps_if (pt_cmpR op_eq (pv 3) (pe_tx [] (by decide +kernel)) (nomark _))
        (pss_one ps_break)
        pss_nil)
        (pss_cutS (ps_if (pt_cmpR op_inS (pv 4) (pv 3) (by rfl))
        (pss_one (ps_set (i := 2) nd rfl (Or.inr rfl) (pe_op op_addS (pv 2) (pv 4))))
        pss_nil)
        (pss_one (ps_set (i := 3) nd rfl (Or.inl rfl) (pe_cd D_still_free hr pass0 (pa_cons (pv 0) (pa_cons (pv 3) (pa_cons (pv 4) pa_nil)))))))))
      (pss_one (ps_ret (pe_joinK (K := K) rfl (pe_tx [] (by decide +kernel)) (pe_lc (own := [("kind", 4)]) (g := gName 4) (by rfl) nd (pi_str (pe_flK (K := K) rfl (pv 0) rfl)) (blkOk_by (own := [("kind", 4)]) (N := Nfirst_kinds) (sc := defScope stfirst_kinds) (by decide +kernel)) (fun _ _ _ _ _ => (pg_name (i := 4) nd rfl (Or.inl rfl))) (fun _ _ _ _ _ => (pts_one (pt_cmpR op_inS (pv 4) (pv 2) (by rfl)))) (fun _ _ _ _ _ => (pv 4))))))))), ?_⟩
  refine s_start [some _, some _, none, none, none] rfl ?_
  obtain ⟨dx, t, d, a1, a2, a3⟩ := h1.ex
  have fl := founds_len (crossOf ks ps) way ks
  walk_at "go"
  refine v_fld a1 T.Plan.cl T.nK planF_k ?_
  walk_at "go"
  refine s_cut (fun σ H' => ∃ free z, σ = [some (.ref x), some (.str (tx way)), some (.str (tx (founds (crossOf ks ps) ks way))), some (.str (tx free)), z] ∧ Same H H') ?_ ?_
  · walk_at "go"
    refine for_it (walk_tx way) (fun i σ H' => ∃ fd free z, σ = [some (.ref x), some (.str (tx way)), some (.str (tx fd)), some (.str (tx free)), z] ∧ Same H H' ∧ free.length ≤ 1000 ∧ founds (crossOf ks ps) ks way = fd ++ founds (crossOf ks ps) free (way.drop i)) ⟨[], ks, _, rfl, Same.refl _, hk, rfl⟩ (fun _ _ _ _ _ => trivial) ?_ ?_
    · rintro i v σ H2 H3 hi ⟨fd, free, z, rfl, s2, lf, e2⟩ ⟨rfl, rfl⟩
      have dr : way.drop i = way.getD i 0 :: way.drop (i + 1) := by
        rw [List.drop_eq_getElem_cons hi, List.getD_eq_getElem?_getD, List.getElem?_eq_getElem hi]
        rfl
      have hc := hw _ (getD_mem hi)
      rw [dr] at e2
      generalize way.getD i 0 = c at *
      have l2 := congrArg List.length e2
      rw [List.length_append] at l2
      walk_at "go"
      rw [dec_tx]
      refine if_dec (fun c1 => ?_) (fun c1 => ?_)
      · refine s_brk ?_
        rw [c1, founds_nil, List.append_nil] at e2
        rw [e2]
        exact ⟨_, _, rfl, s2⟩
      walk_at "go"
      have e3 : founds (crossOf ks ps) free (c :: way.drop (i + 1)) = (if c ∈ free then [c] else []) ++ founds (crossOf ks ps) (free.filter fun o => decide (o ∈ crossOf ks ps c)) (way.drop (i + 1)) := rfl
      rw [e3, ← List.append_assoc] at e2
      have lf2 := filt_len (p := fun o => decide (o ∈ crossOf ks ps c)) (l := free)
      refine s_cut (fun σ H' => σ = [some (.ref x), some (.str (tx way)), some (.str (tx (fd ++ if c ∈ free then [c] else []))), some (.str (tx free)), some (.str (tx [c]))] ∧ H' = H3) ?_ ?_
      · walk_at "go"
        refine if_dec (fun c2 => ?_) (fun c2 => ?_)
        · have l3 : fd.length + [c].length ≤ 1000000 := by
            rw [List.length_singleton]
            omega
          walk_at "go"
          rw [if_pos c2]
          exact ⟨rfl, rfl⟩
        · walk_at "go"
          rw [if_neg c2, List.append_nil]
          exact ⟨rfl, rfl⟩
      rintro σ H4 ⟨rfl, rfl⟩
      walk_at "go"
      refine ⟨x, ks, ps, free, c, rfl, h1.same s2, hc, lf, fun H5 s5 => ?_⟩
      exact ⟨_, _, _, rfl, s2.trans s5, by omega, e2⟩
    · rintro σ H2 ⟨fd, free, z, rfl, s2, lf, e2⟩
      rw [List.drop_length] at e2
      have e2 : founds (crossOf ks ps) ks way = fd := by
        rw [e2]
        exact List.append_nil _
      rw [e2]
      exact ⟨_, _, rfl, s2⟩
  rintro σ H2 ⟨free, z, rfl, s2⟩
  walk_at "go"
  refine v_fld (s2 _ _ a1) T.Plan.cl T.nK planF_k ?_
  walk_at "go"
  refine v_lcS (l := ks) (b := fun c => decide (c ∈ founds (crossOf ks ps) ks way)) (f := fun c => V.str (tx [c])) (by omega) (fun c _ H1 s1 R r => ?_) (fun c _ _ H1 s1 R r => ?_) (fun D H3 hD s3 e3 => ?_)
  · walk_at "go"
    exact r H1 (Same.refl _)
  · walk_at "go"
    exact r H1 (Same.refl _)
  walk_at "go"
  rw [strs_ones] at e3
  have hl2 := filt_len (p := fun c => decide (c ∈ founds (crossOf ks ps) ks way)) (l := ks)
  refine v_join e3 (by rw [flat_ones]; omega) ?_
  rw [flat_ones]
  exact q H3 (s2.trans s3)
abbrev stlast_kinds : Stmt := (top 18)
abbrev Nlast_kinds : List Str := ["plan", "way"]
theorem sclast_kinds : FnScope Nlast_kinds ["plan", "way"] (defScope stlast_kinds) := ⟨rfl, rfl, rfl, by decide +kernel, rfl, by decide +kernel, by decide +kernel⟩

theorem ok_last_kinds (F : FnAt K mg "last_kinds" stlast_kinds) (D_first_kinds : Def P w K mg base CX0 2 "first_kinds" ["plan", "way"] (spFirst C)) : Def P w K mg base CX0 3 "last_kinds" ["plan", "way"] (spLast C) := by
  refine F.ok sclast_kinds (fun _ _ _ _ _ _ us hl => match us, hl with | [_, _], _ => rfl) (fun vs H Q E h => ?_) (fun f cdv A outer s H vs Q E hr h => ?_)
  · obtain ⟨x, ks, ps, way, rfl, _⟩ := h
    rfl
  obtain ⟨x, ks, ps, way, rfl, h1, hw, hk, hl, q⟩ := h
  have hu := hu_of hr
  have nd := sclast_kinds.nd
  refine ⟨_, (pss_one (ps_ret (pe_cd D_first_kinds hr pass0 (pa_cons (pv 0) (pa_cons (pe_revS (pv 1)) pa_nil))))), ?_⟩
  refine s_start [some _, some _] rfl ?_
  walk_at "go"
  exact ⟨x, ks, ps, _, rfl, h1, fun c hc => hw c (List.mem_reverse.mp hc), hk, by rw [List.length_reverse]; exact hl, q⟩
end
/-! ### of a drawn floor -/
section
variable {K : PySem.W.Frag} {H : Hp} {Q : VK} {C R O r r' x : Addr} {ls : List Nat} {fn : Nat → List Nat} {a b : List Nat} {E : XK}
theorem way_tab (fl : Fl ls fn) (ha : ∀ c ∈ a, c ∈ ls) (hb : ∀ c ∈ b, c ∈ ls) : wayOf (ascOf ls) (tabPairs ls fn) (joinC fn [] a) (joinC fn [] b) = wayC fn a b := by
  have m1 : ∀ c ∈ (joinC fn [] a).reverse, c ∈ ls := fun c hc => memN ha c (List.mem_reverse.mp hc)
  unfold wayOf backOf
  rw [joinOf_tab fl.tab (name := []) (by simp) m1, joinOf_tab fl.tab (memN m1) (memN hb), ← joinC_app]
  exact way_name fl.ok a b
theorem asc_self (fl : Fl ls fn) : ascOf ls = ls := by
  have h1 : (ascOf ls).Perm ls := by
    refine (List.perm_ext_iff_of_nodup (ascOf_nodup ls) fl.tab.nd).mpr fun c => ?_
    rw [ascOf_mem]
    exact ⟨fun z => z.2, fun z => ⟨fl.tab.lt c z, z⟩⟩
  have s1 : (ascOf ls).Pairwise (· < ·) := List.Pairwise.filter _ (by decide +kernel : LET.Pairwise (· < ·))
  exact h1.eq_of_pairwise (fun a b _ _ h1 h2 => by omega) s1 fl.asc
theorem founds_congr {f g : Nat → List Nat} : ∀ {w free : List Nat}, (∀ k ∈ w, ∀ c ∈ free, c ∈ f k ↔ c ∈ g k) → founds f free w = founds g free w
  | [], free, _ => rfl
  | k :: r, free, h => by
    have e : (free.filter fun o => decide (o ∈ f k)) = free.filter fun o => decide (o ∈ g k) := List.filter_congr fun c hc => decide_eq_decide.mpr (h k (List.mem_cons_self ..) c hc)
    show (if k ∈ free then [k] else []) ++ founds f _ r = (if k ∈ free then [k] else []) ++ founds g _ r
    rw [e, founds_congr fun y hy c hc => h y (List.mem_cons_of_mem _ hy) c (List.mem_filter.mp hc).1]
/-- nearer, by the marks -/
theorem firsts_tab (fl : Fl ls fn) (ha : ∀ c ∈ a, c ∈ ls) : firstsOf (ascOf ls) (tabPairs ls fn) (joinC fn [] a).reverse = ls.filter fun c => decide (desc fn c (joinC fn [] a).reverse) := by
  unfold firstsOf
  rw [asc_self fl]
  refine List.filter_congr fun c hc => decide_eq_decide.mpr ?_
  rw [founds_congr (g := fn) fun k hk c hc => ?_, founds_mem fl.ok]
  · exact ⟨fun z => z.2, fun z => ⟨hc, z⟩⟩
  · have := cross_tab fl.tab (memN ha k (List.mem_reverse.mp hk)) hc
    rw [asc_self fl] at this
    exact this
end
end
section
open PySem PySem.Spec L2
section
variable {ls : List Nat} {fn : Nat → List Nat} {m n : List Nat} {k j : Nat}
theorem firsts_iff (fl : Fl ls fn) {w : List Nat} (hw : ∀ c ∈ w, c ∈ ls) (hk : k ∈ ls) : k ∈ firstsOf (ascOf ls) (tabPairs ls fn) w ↔ desc fn k w := by
  unfold firstsOf
  rw [asc_self fl, List.mem_filter, decide_eq_true_iff, founds_congr (g := fn) fun j hj c hc => ?_, founds_mem fl.ok]
  · exact ⟨fun z => z.2.2, fun z => ⟨hk, hk, z⟩⟩
  · have := cross_tab fl.tab (hw j hj) hc
    rw [asc_self fl] at this
    exact this
theorem firsts_sub (fl : Fl ls fn) {w : List Nat} (h : k ∈ firstsOf (ascOf ls) (tabPairs ls fn) w) : k ∈ ls := by
  unfold firstsOf at h
  rw [asc_self fl] at h
  exact (List.mem_filter.mp h).1
theorem firsts_nodup (fl : Fl ls fn) (w : List Nat) : (firstsOf (ascOf ls) (tabPairs ls fn) w).Nodup := by
  unfold firstsOf
  rw [asc_self fl]
  exact fl.tab.nd.sublist (List.filter_sublist)
theorem firsts_len (fl : Fl ls fn) (w : List Nat) : (firstsOf (ascOf ls) (tabPairs ls fn) w).length ≤ 1000 := by
  have h : (firstsOf (ascOf ls) (tabPairs ls fn) w).length ≤ (ascOf ls).length := List.length_filter_le _ _
  have h2 : (ascOf ls).length = ls.length := by rw [asc_self fl]
  have := fl.tab.len
  omega
end
end
section
open PySem PySem.Spec L2
/-- a def that cuts the first such letter out of a text -/
structure CutDef (P : Program) (w : World) (K : PySem.W.Frag) (mg : Str → Option Value) (base : Heap) (k : Nat) : Prop where
  ex : ∃ f, mg "without_first" = some (.ref f) ∧ PySem.W.keepIn K (.ref f) = true ∧ CutRun P w K mg base CX0 k f
theorem CutRun.mono {P : Program} {w : World} {K : PySem.W.Frag} {mg : Str → Option Value} {base : Heap} {CX : CXT} {j k : Nat} {f : Addr} (R : CutRun P w K mg base CX j f) (h : j ≤ k) : CutRun P w K mg base CX k f := fun A outer s H p q c t u Q E hr => R A outer s H p q c t u Q E (hr.mono h)
theorem CutDef.mono {P : Program} {w : World} {K : PySem.W.Frag} {mg : Str → Option Value} {base : Heap} {j k : Nat} (R : CutDef P w K mg base j) (h : j ≤ k) : CutDef P w K mg base k := by
  obtain ⟨f, a, b, c⟩ := R.ex
  exact ⟨f, a, b, c.mono h⟩
section
variable {P : Program} {w : World} {K : PySem.W.Frag} {mg : Str → Option Value} {base : Heap} {C R O : Addr}
abbrev stwithout_first : Stmt := (top 19)
abbrev Nwithout_first : List Str := ["way", "kind"]
theorem scwithout_first : FnScope Nwithout_first ["way", "kind"] (defScope stwithout_first) := ⟨rfl, rfl, rfl, by decide +kernel, rfl, by decide +kernel, by decide +kernel⟩

theorem ok_without_first (F : FnAt K mg "without_first" stwithout_first) : CutDef P w K mg base 1 := by
  obtain ⟨f, fd, hm, F⟩ := F.ex
  exact ⟨f, hm, F.kp, cut_run F scwithout_first rfl rfl (fun _ _ _ _ _ _ us hl => match us, hl with | [_, _], _ => rfl) rfl rfl rfl rfl rfl⟩
end
end
section
open PySem PySem.Spec L2
/-- items, in a list or told as the letters of one text -/
def ItemsAt (H : Hp) (v : V) (xs : List V) : Prop := (∃ q, v = .ref q ∧ H q = some (.lst xs)) ∨ ∃ l : List Nat, v = .str (tx l) ∧ xs = l.map fun c => V.str (tx [c])
def spPick2 : Sp := fun vs H Q _ => ∃ (g : Pen) (n : Nat) (v : V) (xs : List V), vs = [.ref g.p, v] ∧ ItemsAt H v xs ∧ 0 < xs.length ∧ xs.length < 1000000 ∧ PenAt g H n ∧ n < 1000000 ∧
  ∀ u H', u ∈ xs → PenAt g H' (n + 1) → Keep g.p H H' → Q u H'
def spShuf2 : Sp := fun vs H Q _ => ∃ (g : Pen) (n : Nat) (v : V) (xs : List V), vs = [.ref g.p, v] ∧ ItemsAt H v xs ∧ xs.length ≤ 1000 ∧ PenAt g H n ∧ n < 950000 ∧
  ∀ (l : Addr) (ys : List V) (H' : Hp), H l = none → ys.Perm xs → H' l = some (.lst ys) → PenAt g H' (n + xs.length) → Keep g.p H H' → Q (.ref l) H'
theorem PenAt.lst_ne {g : Pen} {H : Hp} {n : Nat} {q : Addr} {xs : List V} (h : PenAt g H n) (e : H q = some (.lst xs)) : q ≠ g.p := by
  obtain ⟨a, r, h1, _⟩ := h.ex
  exact ne_of e h1 (by intro z; cases z)
section
variable {P : Program} {w : World} {K : PySem.W.Frag} {mg : Str → Option Value} {base : Heap}
abbrev stpick2 : Stmt := (top 80)
abbrev Npick2 : List Str := ["_law_pen", "_law_some"]
theorem scpick2 : FnScope Npick2 ["_law_pen", "_law_some"] (defScope stpick2) := ⟨rfl, rfl, rfl, by decide +kernel, rfl, by decide +kernel, by decide +kernel⟩

theorem ok_pick2 (F : FnAt K mg "_law_pick" stpick2) (T : Txt K mg) (D_draw : Def P w K mg base CX0 1 "_law_draw" ["_law_pen", "_law_span"] spDraw) : Def P w K mg base CX0 2 "_law_pick" ["_law_pen", "_law_some"] spPick2 := by
  refine F.ok scpick2 (fun _ _ _ _ _ _ us hl => match us, hl with | [_, _], _ => rfl) (fun vs H Q E h => ?_) (fun f cdv A outer s H vs Q E hr h => ?_)
  · obtain ⟨g, n, v, xs, rfl, _⟩ := h
    rfl
  obtain ⟨g, n, v, xs, rfl, hv, h0, h1, hp, hn, k⟩ := h
  have hu := hu_of hr
  have nd := scpick2.nd
  refine ⟨_, (pss_one (ps_ret (pe_ix (IxR.or (ix_LK (K := K) rfl) ix_str) (pv 1) (pe_cd D_draw hr pass0 (pa_cons (pv 0) (pa_cons (pe_callB (CallR.or (c_lenK (K := K) rfl) c_lenS) (by rfl) T.len PySem.boot_len (pa_cons (pv 1) pa_nil)) pa_nil))) (fun _ _ => rfl)))), ?_⟩
  refine s_start [some _, some _] rfl ?_
  rcases hv with ⟨q, rfl, hq⟩ | ⟨l, rfl, rfl⟩
  · walk_at "go"
    refine .inl (v_lenG ⟨_, hq, ?_⟩)
    walk_at "go"
    refine ⟨g, xs.length, n, rfl, by omega, by omega, hp, hn, fun z H1 z0 z1 p1 k1 => ?_⟩
    walk_at "go"
    have hz : z.toNat < xs.length := by omega
    refine .inl (v_ixL (k1 _ _ hq (hp.lst_ne hq)) (at_of (j := z.toNat) (by omega) (List.getElem?_eq_getElem hz)) ?_)
    exact k _ H1 (List.getElem_mem hz) p1 k1
  · rw [List.length_map] at h0 h1
    have l1 : l.length ≤ 1000000 := by omega
    walk_at "go"
    refine .inr (v_lenS l1 ?_)
    walk_at "go"
    refine ⟨g, l.length, n, rfl, by omega, by omega, hp, hn, fun z H1 z0 z1 p1 k1 => ?_⟩
    walk_at "go"
    obtain ⟨i, rfl⟩ : ∃ i : Nat, z = (i : Int) := ⟨z.toNat, by omega⟩
    have hz : i < l.length := by omega
    refine .inr (v_ixS l1 (show atI l ((i : Nat) : Int) = some l[i] from atI_nat (List.getElem?_eq_getElem hz)) ?_)
    exact k _ H1 (List.mem_map.mpr ⟨_, List.getElem_mem hz, rfl⟩) p1 k1
abbrev stshuf2 : Stmt := (top 81)
abbrev Nshuf2 : List Str := ["_law_pen", "_law_some", "_law_rest", "_law_found"]
theorem scshuf2 : FnScope Nshuf2 ["_law_pen", "_law_some"] (defScope stshuf2) := ⟨rfl, rfl, rfl, by decide +kernel, rfl, by decide +kernel, by decide +kernel⟩

theorem ok_shuf2 (F : FnAt K mg "_law_shuffled" stshuf2) (T : Txt K mg) (D_draw : Def P w K mg base CX0 1 "_law_draw" ["_law_pen", "_law_span"] spDraw) : Def P w K mg base CX0 2 "_law_shuffled" ["_law_pen", "_law_some"] spShuf2 := by
  refine F.ok scshuf2 (fun _ _ _ _ _ _ us hl => match us, hl with | [_, _], _ => rfl) (fun vs H Q E h => ?_) (fun f cdv A outer s H vs Q E hr h => ?_)
  · obtain ⟨g, n, v, xs, rfl, _⟩ := h
    rfl
  obtain ⟨g, n, v, ws, rfl, tv, h1, hp, hn, k⟩ := h
  have hu := hu_of hr
  have nd := scshuf2.nd
  refine ⟨_, (pss_cons (ps_par (i := 2) (j := 3) (by rfl) nd rfl rfl (by decide) rfl rfl (pa_cons (pe_callTy (c_listOr (K := K) rfl) (by rfl) T.list (by decide +kernel) (pa_cons (pv 1) pa_nil)) (pa_cons (pe_lst pa_nil) pa_nil)) (by rfl))
      (pss_cutS (ps_while PassesOwn.never (pt_cmpR (op_neL (K := K) rfl (Nat.lt_of_le_of_lt (Nat.le_add_right _ 64) hr.units)) (pv 2) (pe_lst pa_nil) (nomark _))
      (pss_one (ps_expr (pe_appK (K := K) rfl (pv 3) (pe_popK (K := K) rfl (pv 2) (pe_cd D_draw hr pass0 (pa_cons (pv 0) (pa_cons (pe_callB (c_lenK (K := K) rfl) (by rfl) T.len PySem.boot_len (pa_cons (pv 2) pa_nil)) pa_nil))))))))
      (pss_one (ps_ret (pv 3))))), ?_⟩
  refine s_start [some _, some _, none, none] rfl ?_
  walk_at "go"
  have go : ∀ R : VK, (∀ a H1, H a = none → Same H H1 → H1 a = some (.lst ws) → R (.ref a) H1) → rListOr K [v] H R := fun R r => by
    rcases tv with ⟨q, rfl, hq⟩ | ⟨l, rfl, rfl⟩
    · exact .inl (v_list (SqL.of hq) r)
    · exact .inr (v_listTx (by rw [List.length_map] at h1; exact h1) fun p H1 a b c => r p H1 a b c)
  refine go _ fun a H1 ha s1 e1 => ?_
  walk_at "go"
  intro b H2 hb s2 e2
  walk_at "go"
  have hab : a ≠ b := ne_of_none e1 hb
  have nag : a ≠ g.p := (hp.p_ne ha).symm
  have nbg : b ≠ g.p := ((hp.same s1).p_ne hb).symm
  clear go
  refine s_cut (fun σ H' => ∃ ys : List V, σ = [some (.ref g.p), some v, some (.ref a), some (.ref b)] ∧ ys.Perm ws ∧ H' b = some (.lst ys) ∧ PenAt g H' (n + ws.length) ∧ Keep g.p H H') ?_ ?_
  · refine s_while (fun m σ H' => ∃ xs ys : List V, m = xs.length ∧ σ = [some (.ref g.p), some v, some (.ref a), some (.ref b)] ∧ (ys ++ xs).Perm ws ∧ H' a = some (.lst xs) ∧ H' b = some (.lst ys) ∧ PenAt g H' (n + ys.length) ∧ Keep g.p H H') ws.length ⟨ws, [], rfl, rfl, .refl _, s2 _ _ e1, e2, hp.same (s1.trans s2), Keep.of (s1.trans s2)⟩ ?_
    rintro m σ H3 ⟨xs, ys, rfl, rfl, pm, ea, eb, p3, k3⟩
    have hl := pm.length_eq
    rw [List.length_append] at hl
    walk_at "go"
    intro e H4 he s4 e4
    have ea4 := s4 _ _ ea
    have eb4 := s4 _ _ eb
    cases xs with
    | nil =>
      refine v_neLsame (As := []) ea4 e4 ?_
      walk_at "go"
      exact ⟨ys, rfl, by simpa using pm, eb4, (p3.same s4).mono (by omega), fun c o hc nc => s4 _ _ (k3 _ _ hc nc)⟩
    | cons x0 xr =>
      refine v_neL ea4 e4 (by simp) ?_
      walk_at "go"
      refine v_turn ?_
      walk_at "go"
      refine ⟨g, _, n + ys.length, rfl, ?_, ?_, p3.same s4, by omega, fun z H5 z0 z1 p5 k5 => ?_⟩
      · rw [List.length_cons]; omega
      · omega
      have hz : z.toNat < (x0 :: xr).length := by omega
      walk_at "go"
      refine v_pop (k5 _ _ ea4 nag) z0 (by omega) (by omega) (y := (x0 :: xr)[z.toNat]) (List.getElem?_eq_getElem hz) fun H6 k6 e6 => ?_
      walk_at "go"
      have eb6 := k6 _ _ (k5 _ _ eb4 nbg) hab.symm
      refine v_app eb6 (by omega) fun H7 k7 e7 => ?_
      walk_at "go"
      refine ⟨xr.length, by simp, (x0 :: xr).eraseIdx z.toNat, ys ++ [(x0 :: xr)[z.toNat]], ?_, rfl, ?_, k7 _ _ e6 hab, e7, ?_, ?_⟩
      · rw [List.length_eraseIdx_of_lt hz]
        rfl
      · refine .trans ?_ pm
        rw [List.append_assoc]
        exact .append_left _ (erase_perm _ _ hz)
      · have q6 := p5.keep k6 (hp.p_ne ha) (hp.cl_ne ha)
        have q7 := q6.keep k7 ((hp.same s1).p_ne hb) ((hp.same s1).cl_ne hb)
        rw [List.length_append]
        exact q7
      · intro c o hc nc
        exact k7 _ _ (k6 _ _ (k5 _ _ (s4 _ _ (k3 _ _ hc nc)) nc) (ne_of_none hc ha)) (ne_of_none (s1 _ _ hc) hb)
  rintro σ H3 ⟨ys, rfl, pm, eb, p3, k3⟩
  walk_at "go"
  exact k b ys H3 (L2.Same.free s1 hb) pm eb p3 k3
end
end
section
open PySem PySem.Spec L2
def spIsCr : Sp := fun vs H Q _ => ∃ (g : Pen) (n : Nat) (a b c m : Int), vs = [.ref g.p, .int a, .int b, .int c, .int m] ∧ 0 ≤ a ∧ a ≤ 6 ∧ PenAt g H n ∧ n < 950000 ∧ ∀ (b : Bool) H', PenAt g H' (n + 1) → Keep g.p H H' → Q (.bl b) H'
/-- tables grown pair by pair -/
structure Gr (ls : List Nat) (f : Nat → List Nat) (j i : Nat) : Prop where
  sym : ∀ a b, a ∈ f b → b ∈ f a
  ins : ∀ a b, a ∈ f b → a ∈ ls ∧ b ∈ ls ∧ a ≠ b
  nd : ∀ c, (f c).Nodup
  up : ∀ i1 j1, i1 < j1 → j1 < ls.length → ls.getD i1 0 ∈ f (ls.getD j1 0) → j1 < j ∨ (j1 = j ∧ i1 < i)
theorem Gr.more {ls : List Nat} {f : Nat → List Nat} {j i : Nat} (h : Gr ls f j i) : Gr ls f j (i + 1) := ⟨h.sym, h.ins, h.nd, fun a b c d e => by have := h.up a b c d e; omega⟩
theorem Gr.turn {ls : List Nat} {f : Nat → List Nat} {j i : Nat} (h : Gr ls f j i) (l : j ≤ i) : Gr ls f (j + 1) 0 := ⟨h.sym, h.ins, h.nd, fun a b c d e => by have := h.up a b c d e; omega⟩
/-- two letters more that cross -/
def addF (f : Nat → List Nat) (x y : Nat) : Nat → List Nat := fun c => if c = y then f y ++ [x] else if c = x then f x ++ [y] else f c
theorem Gr.add {ls : List Nat} {f : Nat → List Nat} {j i : Nat} (h : Gr ls f j i) (hn : ls.Nodup) (l : i < j) (hj : j < ls.length) : Gr ls (addF f (ls.getD j 0) (ls.getD i 0)) j (i + 1) := by
  have hx : ls.getD j 0 ∈ ls := getD_mem hj
  have hy : ls.getD i 0 ∈ ls := getD_mem (by omega)
  have ne : ls.getD j 0 ≠ ls.getD i 0 := fun e => by have := getD_inj hn hj (by omega) e; omega
  have no : ¬ ls.getD i 0 ∈ f (ls.getD j 0) := fun e => by have := h.up i j l hj e; omega
  have no' : ¬ ls.getD j 0 ∈ f (ls.getD i 0) := fun e => no (h.sym _ _ e)
  have up := h.up
  have inj : ∀ k, k < ls.length → (ls.getD k 0 = ls.getD j 0 → k = j) ∧ (ls.getD k 0 = ls.getD i 0 → k = i) := fun k hk => ⟨getD_inj hn hk hj, getD_inj hn hk (by omega)⟩
  generalize ls.getD j 0 = x at *
  generalize ls.getD i 0 = y at *
  have mem : ∀ a b, a ∈ addF f x y b ↔ a ∈ f b ∨ (a = x ∧ b = y) ∨ (a = y ∧ b = x) := fun a b => by
    unfold addF
    by_cases h1 : b = y
    · subst h1
      rw [if_pos rfl, List.mem_append, List.mem_singleton]
      constructor
      · rintro (z | z)
        · exact .inl z
        · exact .inr (.inl ⟨z, rfl⟩)
      · rintro (z | ⟨z, _⟩ | ⟨_, z⟩)
        · exact .inl z
        · exact .inr z
        · exact absurd z.symm ne
    · rw [if_neg h1]
      by_cases h2 : b = x
      · subst h2
        rw [if_pos rfl, List.mem_append, List.mem_singleton]
        constructor
        · rintro (z | z)
          · exact .inl z
          · exact .inr (.inr ⟨z, rfl⟩)
        · rintro (z | ⟨_, z⟩ | ⟨z, _⟩)
          · exact .inl z
          · exact absurd z h1
          · exact .inr z
      · rw [if_neg h2]
        constructor
        · exact .inl
        · rintro (z | ⟨_, z⟩ | ⟨_, z⟩)
          · exact z
          · exact absurd z h1
          · exact absurd z h2
  refine ⟨fun a b hab => ?_, fun a b hab => ?_, fun c => ?_, fun a b l1 l2 hab => ?_⟩
  · rw [mem] at hab ⊢
    rcases hab with z | z | z
    · exact .inl (h.sym _ _ z)
    · exact .inr (.inr z.symm)
    · exact .inr (.inl z.symm)
  · rw [mem] at hab
    rcases hab with z | ⟨rfl, rfl⟩ | ⟨rfl, rfl⟩
    · exact h.ins a b z
    · exact ⟨hx, hy, ne⟩
    · exact ⟨hy, hx, ne.symm⟩
  · unfold addF
    split
    · exact List.nodup_append.mpr ⟨h.nd _, by simp, fun a ha b hb e => no' (by rw [List.mem_singleton.mp hb] at e; exact e ▸ ha)⟩
    · split
      · exact List.nodup_append.mpr ⟨h.nd _, by simp, fun a ha b hb e => no (by rw [List.mem_singleton.mp hb] at e; exact e ▸ ha)⟩
      · exact h.nd c
  · rw [mem] at hab
    rcases hab with z | ⟨z1, z2⟩ | ⟨z1, z2⟩
    · have := up a b l1 l2 z
      omega
    · have e1 := (inj a (by omega)).1 z1
      have e2 := (inj b l2).2 z2
      omega
    · have e1 := (inj a (by omega)).2 z1
      have e2 := (inj b l2).1 z2
      omega
/-- the letters of a drawn floor and which cross; there may be none -/
structure FlE (ls : List Nat) (f : Nat → List Nat) : Prop where
  tab : Tab ls f
  ok : CrOk f
  asc : ls.Pairwise (· < ·)
theorem FlE.fl {ls : List Nat} {f : Nat → List Nat} (h : FlE ls f) (p : 0 < ls.length) : Fl ls f := ⟨h.tab, h.ok, h.asc, p⟩
theorem FlE.plain {ls : List Nat} {f : Nat → List Nat} (h : FlE ls f) : FlE ls (fun _ => []) where
  tab := ⟨h.tab.nd, h.tab.lt, h.tab.len, fun _ _ _ z => (nomatch z), fun _ _ => by simp⟩
  ok := ⟨fun _ _ z => (nomatch z), fun _ z => (nomatch z)⟩
  asc := h.asc
theorem Gr.fle {ls : List Nat} {f : Nat → List Nat} {j i : Nat} (h : Gr ls f j i) (as : ls.Pairwise (· < ·)) (lt : ∀ c ∈ ls, c ∈ LET) (l8 : ls.length ≤ 8) : FlE ls f where
  tab := ⟨as.imp fun {a b} z e => by omega, lt, l8, fun a ha b hb => ⟨(h.ins b a hb).1, (h.ins b a hb).2.2, h.sym _ _ hb⟩, fun a ha => Nat.le_trans (List.Nodup.length_le_of_subset (h.nd a) fun c hc => (h.ins c a hc).1) l8⟩
  ok := ⟨h.sym, fun a ha => (h.ins a a ha).2.2 rfl⟩
  asc := as
/-! ### the floor told as a dict -/
def flKV (ls : List Nat) (d : Addr) : List (Key × V) := [(Sum.inr "kinds", .str (tx ls)), (Sum.inr "cross", .ref d)]
structure FloorAt (H : Hp) (q : Addr) (ls : List Nat) (f : Nat → List Nat) : Prop where
  ex : ∃ d, H q = some (.dK (flKV ls d)) ∧ H d = some (.dK (tabKV ls f))
theorem kkc : ¬ ((Sum.inr ("kinds" : Str) : Key) = Sum.inr ("cross" : Str)) := by decide +kernel
theorem fl_kinds {H : Hp} {q d : Addr} {ls : List Nat} (h : H q = some (.dK (flKV ls d))) : DGet H q (.str "kinds") (some (.str (tx ls))) := by
  have e := DGet.k (k := Sum.inr "kinds") h
  rw [flKV, valV_pos rfl] at e
  exact e
theorem fl_cross {H : Hp} {q d : Addr} {ls : List Nat} (h : H q = some (.dK (flKV ls d))) : DGet H q (.str "cross") (some (.ref d)) := by
  have e := DGet.k (k := Sum.inr "cross") h
  rw [flKV, valV_neg kkc, valV_pos rfl] at e
  exact e
theorem FloorAt.same {H H1 : Hp} {q : Addr} {ls : List Nat} {f : Nat → List Nat} (h : FloorAt H q ls f) (s : Same H H1) : FloorAt H1 q ls f := by
  obtain ⟨d, a, b⟩ := h.ex
  exact ⟨d, s _ _ a, s _ _ b⟩
theorem FloorAt.pen {H H1 : Hp} {q : Addr} {ls : List Nat} {f : Nat → List Nat} {g : Pen} {n : Nat} (h : FloorAt H q ls f) (p : PenAt g H n) (k : Keep g.p H H1) : FloorAt H1 q ls f := by
  obtain ⟨d, a, b⟩ := h.ex
  obtain ⟨x, y, h1, _⟩ := p.ex
  refine ⟨d, k _ _ a fun z => ?_, k _ _ b fun z => ?_⟩
  · rw [z, h1] at a
    injection a with a
    injection a with a
    unfold flKV penL at a
    have := congrArg List.length a
    simp at this
  · rw [z, h1] at b
    injection b with b
    injection b with b
    unfold penL tabKV at b
    cases ls with
    | nil => cases b
    | cons c r =>
      rw [List.map_cons] at b
      injection b with b _
      injection b with b _
      exact cells_ne b.symm
def spDFloor : Sp := fun vs H Q _ => ∃ (g : Pen) (n num : Nat), vs = [.ref g.p, .int num] ∧ num ≤ 8 ∧ PenAt g H n ∧ n < 900000 ∧
  ∀ (q : Addr) (ls : List Nat) (f : Nat → List Nat) (H' : Hp), H q = none → FlE ls f → FloorAt H' q ls f → PenAt g H' (n + 100) → Keep g.p H H' → Q (.ref q) H'
section
variable {P : Program} {w : World} {K : PySem.W.Frag} {mg : Str → Option Value} {base : Heap}
abbrev stiscr : Stmt := (top 82)
abbrev Niscr : List Str := ["_law_pen", "_law_way", "_law_low", "_law_high", "_law_many"]
theorem sciscr : FnScope Niscr ["_law_pen", "_law_way", "_law_low", "_law_high", "_law_many"] (defScope stiscr) := ⟨rfl, rfl, rfl, by decide +kernel, rfl, by decide +kernel, by decide +kernel⟩

theorem ok_iscr (F : FnAt K mg "_law_is_crossing" stiscr) (T : Txt K mg) (D_draw : Def P w K mg base CX0 1 "_law_draw" ["_law_pen", "_law_span"] spDraw) : Def P w K mg base CX0 2 "_law_is_crossing" ["_law_pen", "_law_way", "_law_low", "_law_high", "_law_many"] spIsCr := by
  refine F.ok sciscr (fun _ _ _ _ _ _ us hl => match us, hl with | [_, _, _, _, _], _ => rfl) (fun vs H Q E h => ?_) (fun f cdv A outer s H vs Q E hr h => ?_)
  · obtain ⟨g, n, a, b, c, m, rfl, _⟩ := h
    rfl
  obtain ⟨g, n, a, b, c, m, rfl, a0, a6, hp, hn, k⟩ := h
  have hu := hu_of hr
  have nd := sciscr.nd
  refine ⟨_, (pss_cons (ps_if (pt_cmpR op_lt (pv 1) pe_int (nomark _))
      (pss_one (ps_ret (pe_cmpR op_eq (pv 1) pe_int (nomark _))))
      pss_nil)
      (pss_cons (ps_if (pt_cmpR op_lt (pv 1) pe_int (nomark _))
      (pss_one (ps_ret (pe_or (pe_cmpR op_eq (pe_op op_sub (pv 3) (pv 2)) pe_int (nomark _)) (pe_one (pe_and (pe_cmpR op_gt (pv 4) pe_int (nomark _)) (pe_one (pe_cmpR op_eq (pe_op op_sub (pv 3) (pv 2)) (pe_op op_sub (pv 4) pe_int) (nomark _))))))))
      pss_nil)
      (pss_cons (ps_if (pt_cmpR op_eq (pv 1) pe_int (nomark _))
      (pss_one (ps_ret (pe_or (pe_cmpR op_eq (pv 2) pe_int (nomark _)) (pe_one (pe_cmpR op_eq (pe_cd D_draw hr pass0 (pa_cons (pv 0) (pa_cons pe_int pa_nil))) pe_int (nomark _))))))
      pss_nil)
      (pss_one (ps_ret (pe_cmpR op_eq (pe_cd D_draw hr pass0 (pa_cons (pv 0) (pa_cons (pe_op op_sub (pv 1) pe_int) pa_nil))) pe_int (nomark _))))))), ?_⟩
  refine s_start [some _, some _, some _, some _, some _] rfl ?_
  have p1 := hp.mono (show n ≤ n + 1 by omega)
  walk_at "go"
  refine if_dec (fun _ => ?_) (fun _ => ?_)
  · walk_at "go"
    exact k _ _ p1 (Keep.refl _ _)
  walk_at "go"
  refine if_dec (fun _ => ?_) (fun _ => ?_)
  · walk_at "go"
    refine if_dec (fun _ => ?_) (fun _ => ?_)
    · exact k _ _ p1 (Keep.refl _ _)
    walk_at "go"
    refine if_dec (fun _ => ?_) (fun _ => ?_)
    · walk_at "go"
      exact k _ _ p1 (Keep.refl _ _)
    · exact k _ _ p1 (Keep.refl _ _)
  walk_at "go"
  refine if_dec (fun _ => ?_) (fun _ => ?_)
  · walk_at "go"
    refine if_dec (fun _ => ?_) (fun _ => ?_)
    · exact k _ _ p1 (Keep.refl _ _)
    walk_at "go"
    refine ⟨g, 2, n, rfl, by omega, by omega, hp, by omega, fun z H1 _ _ p2 k2 => ?_⟩
    walk_at "go"
    exact k _ _ p2 k2
  walk_at "go"
  refine ⟨g, a - 3, n, rfl, by omega, by omega, hp, by omega, fun z H1 _ _ p2 k2 => ?_⟩
  walk_at "go"
  exact k _ _ p2 k2
end
end
section
open PySem PySem.Spec L2
def SPS : List Nat := [1, 3, 5, 7, 9, 11, 15, 17, 19, 21, 23, 25]
def MNY : List Nat := [0, 1, 2, 2, 3, 3, 3, 4, 4, 4, 5, 5, 5, 6, 7, 8]
def ltr (f s k : Nat) : Nat := LET.getD ((f + s * k) % 26) 0
theorem ltr_nd_all : ∀ f ∈ List.range 26, ∀ s ∈ SPS, ((List.range 8).map (ltr f s)).Nodup ∧ ∀ c ∈ (List.range 8).map (ltr f s), c ∈ LET := by decide +kernel
theorem ltr_nd {f s m : Nat} (hf : f < 26) (hs : s ∈ SPS) (hm : m ≤ 8) : ((List.range m).map (ltr f s)).Nodup ∧ ∀ c ∈ (List.range m).map (ltr f s), c ∈ LET := by
  obtain ⟨h1, h2⟩ := ltr_nd_all f (List.mem_range.mpr hf) s hs
  have sub : ((List.range m).map (ltr f s)).Sublist ((List.range 8).map (ltr f s)) := by
    refine List.Sublist.map _ ?_
    rw [← Nat.min_eq_left hm, ← List.take_range]
    exact List.take_sublist _ _
  exact ⟨h1.sublist sub, fun c hc => h2 c (sub.subset hc)⟩
theorem sorted_ones {ws : List (List Nat)} {ls : List Nat} (pm : ws.Perm (ls.map fun c => [c])) (nd : ls.Nodup) (pw : ws.Pairwise fun a b => ¬ b < a) : ∃ ks : List Nat, ws = ks.map (fun c => [c]) ∧ ks.Perm ls ∧ ks.Pairwise (· < ·) := by
  obtain ⟨ks, rfl, pk⟩ := perm_ones pm
  refine ⟨ks, rfl, pk, ?_⟩
  have nk : ks.Nodup := pk.symm.nodup nd
  rw [List.pairwise_map] at pw
  refine List.pairwise_iff_getElem.mpr fun i j hi hj l => ?_
  have h1 := List.pairwise_iff_getElem.mp pw i j hi hj l
  have h2 : ks[i] ≠ ks[j] := fun e => by have := (List.getElem_inj nk).mp e; omega
  have h3 : ¬ ks[j] < ks[i] := fun z => h1 (List.cons_lt_cons_iff.mpr (.inl z))
  omega
section
variable {P : Program} {w : World} {K : PySem.W.Frag} {mg : Str → Option Value} {base : Heap}
structure TxtF (K : PySem.W.Frag) (mg : Str → Option Value) : Prop extends Txt K mg where
  range : mg "range" = none
  min : mg "min" = none
  max : mg "max" = none
  sorted : mg "sorted" = none
  str : mg "str" = none
abbrev stdfloor : Stmt := (top 83)
abbrev Ndfloor : List Str := ["_law_pen", "_law_upto", "_law_letters", "_law_front", "_law_step", "_law_many", "_law_kinds", "_law_way", "_law_spots", "_law_cross", "_law_kind", "_law_at", "_law_near", "_law_low", "_law_high", "_law_k"]
theorem scdfloor : FnScope Ndfloor ["_law_pen", "_law_upto"] (defScope stdfloor) := ⟨rfl, rfl, rfl, by decide +kernel, rfl, by decide +kernel, by decide +kernel⟩

theorem ok_dfloor (F : FnAt K mg "_law_drawn_floor" stdfloor) (T : TxtF K mg) (D_draw : Def P w K mg base CX0 1 "_law_draw" ["_law_pen", "_law_span"] spDraw) (D_pick : Def P w K mg base CX0 2 "_law_pick" ["_law_pen", "_law_some"] spPick2) (D_shuffled : Def P w K mg base CX0 2 "_law_shuffled" ["_law_pen", "_law_some"] spShuf2) (D_is_crossing : Def P w K mg base CX0 2 "_law_is_crossing" ["_law_pen", "_law_way", "_law_low", "_law_high", "_law_many"] spIsCr) : Def P w K mg base CX0 3 "_law_drawn_floor" ["_law_pen", "_law_upto"] spDFloor := by
  refine F.ok scdfloor (fun _ _ _ _ _ _ us hl => match us, hl with | [_, _], _ => rfl) (fun vs H Q E h => ?_) (fun f cdv A outer s H vs Q E hr h => ?_)
  · obtain ⟨g, n, num, rfl, _⟩ := h
    rfl
  obtain ⟨g, n, num, rfl, n8, hp, hn, k⟩ := h
  have hu := hu_of hr
  have nd := scdfloor.nd
  replace D_draw := D_draw.mono (show 1 ≤ 2 by decide)
  refine ⟨_, (pss_cons (ps_asg (pe_tup (pa_cons (pe_tx [97, 98, 99, 100, 101, 102, 103, 104, 105, 106, 107, 108, 109, 110, 111, 112, 113, 114, 115, 116, 117, 118, 119, 120, 121, 122] (by decide +kernel)) (pa_cons (pe_cd D_draw hr pass0 (pa_cons (pv 0) (pa_cons pe_int pa_nil))) pa_nil))) (pg_tup rfl (pgs_cons (pg_name (i := 2) nd rfl (Or.inr rfl)) (pgs_cons (pg_name (i := 3) nd rfl (Or.inr rfl)) pgs_nil))))
      (pss_cons (ps_set (i := 4) nd rfl (Or.inr rfl) (pe_cd D_pick hr pass0 (pa_cons (pv 0) (pa_cons (pe_lst (pa_cons pe_int (pa_cons pe_int (pa_cons pe_int (pa_cons pe_int (pa_cons pe_int (pa_cons pe_int (pa_cons pe_int (pa_cons pe_int (pa_cons pe_int (pa_cons pe_int (pa_cons pe_int (pa_cons pe_int pa_nil))))))))))))) pa_nil))))
      (pss_cons (ps_set (i := 5) nd rfl (Or.inl rfl) (pe_callB (call_min2 rfl) (by rfl) T.min (by decide +kernel) (pa_cons (pe_callTy c_int (by rfl) T.int (by decide +kernel) (pa_cons (pv 1) pa_nil)) (pa_cons (pe_callTy c_int (by rfl) T.int (by decide +kernel) (pa_cons (pe_cd D_pick hr pass0 (pa_cons (pv 0) (pa_cons (pe_lst (pa_cons pe_int (pa_cons pe_int (pa_cons pe_int (pa_cons pe_int (pa_cons pe_int (pa_cons pe_int (pa_cons pe_int (pa_cons pe_int (pa_cons pe_int (pa_cons pe_int (pa_cons pe_int (pa_cons pe_int (pa_cons pe_int (pa_cons pe_int (pa_cons pe_int (pa_cons pe_int pa_nil))))))))))))))))) pa_nil))) pa_nil)) pa_nil))))
      (pss_cons (ps_set (i := 6) nd rfl (Or.inl rfl) (pe_joinK (K := K) rfl (pe_tx [] (by decide +kernel)) (pe_callB (cr_sortedTK (K := K) rfl) (by rfl) T.sorted (by decide +kernel) (pa_cons (pe_lc (own := [("_law_k", 15)]) (g := gName 15) (by rfl) nd (pi_range1 (by rfl) T.range (pa_cons (pv 5) pa_nil)) (blkOk_by (own := [("_law_k", 15)]) (N := Ndfloor) (sc := defScope stdfloor) (by decide +kernel)) (fun _ _ _ _ _ => (pg_name (i := 15) nd rfl (Or.inl rfl))) (fun _ _ _ _ _ => pts_nil) (fun _ _ _ _ _ => (pe_callTy c_strS (by rfl) T.str (by decide +kernel) (pa_cons (pe_ix ix_str (pv 2) (pe_op op_mod (pe_callTy c_int (by rfl) T.int (by decide +kernel) (pa_cons (pe_op op_add (pv 3) (pe_op op_mul (pv 4) (pv 15))) pa_nil)) pe_int) (fun _ _ => rfl)) pa_nil)))) pa_nil))))
      (pss_cons (ps_par3 (i := 7) (j := 8) (l := 9) (by rfl) nd rfl rfl rfl (by decide) (by decide) (by decide) rfl rfl rfl (pa_cons (pe_cd D_draw hr pass0 (pa_cons (pv 0) (pa_cons pe_int pa_nil))) (pa_cons (pe_cd D_shuffled hr pass0 (pa_cons (pv 0) (pa_cons (pe_listRg rfl (by rfl) T.list (prg_1 (by rfl) T.range (pv 5))) pa_nil))) (pa_cons pe_dnewK pa_nil))) (by rfl))
      (pss_cons (ps_for PassesOwn.never rfl (pi_str (pv 6)) (pg_name (i := 10) nd rfl (Or.inl rfl))
      (pss_one (ps_dput hu (pv 9) (pv 10) (pe_tx [] (by decide +kernel)) rfl)))
      (pss_cons (ps_for PassesOwn.never rfl (pi_range1 (by rfl) T.range (pa_cons (pv 5) pa_nil)) (pg_name (i := 11) nd rfl (Or.inl rfl))
      (pss_one (ps_for PassesOwn.never rfl (pi_range1 (by rfl) T.range (pa_cons (pv 11) pa_nil)) (pg_name (i := 12) nd rfl (Or.inl rfl))
        (pss_cons (ps_par (i := 13) (j := 14) (by rfl) nd rfl rfl (by decide) rfl rfl (pa_cons (pe_callB (call_min2 rfl) (by rfl) T.min (by decide +kernel) (pa_cons (pe_callTy c_int (by rfl) T.int (by decide +kernel) (pa_cons (pe_ix (ix_LK (K := K) rfl) (pv 8) (pv 11) (fun _ _ => rfl)) pa_nil)) (pa_cons (pe_callTy c_int (by rfl) T.int (by decide +kernel) (pa_cons (pe_ix (ix_LK (K := K) rfl) (pv 8) (pv 12) (fun _ _ => rfl)) pa_nil)) pa_nil))) (pa_cons (pe_callB (call_max2 rfl) (by rfl) T.max (by decide +kernel) (pa_cons (pe_callTy c_int (by rfl) T.int (by decide +kernel) (pa_cons (pe_ix (ix_LK (K := K) rfl) (pv 8) (pv 11) (fun _ _ => rfl)) pa_nil)) (pa_cons (pe_callTy c_int (by rfl) T.int (by decide +kernel) (pa_cons (pe_ix (ix_LK (K := K) rfl) (pv 8) (pv 12) (fun _ _ => rfl)) pa_nil)) pa_nil))) pa_nil)) (by rfl))
          (pss_one (ps_if (pt_val (pe_cd D_is_crossing hr pass0 (pa_cons (pv 0) (pa_cons (pv 7) (pa_cons (pv 13) (pa_cons (pv 14) (pa_cons (pv 5) pa_nil)))))))
          (pss_cons (ps_dput hu (pv 9) (pe_ix ix_str (pv 6) (pv 11) (fun _ _ => rfl)) (pe_op op_addS (pe_dget hu (pv 9) (pe_ix ix_str (pv 6) (pv 11) (fun _ _ => rfl)) (fun _ _ => rfl)) (pe_ix ix_str (pv 6) (pv 12) (fun _ _ => rfl))) rfl)
            (pss_one (ps_dput hu (pv 9) (pe_ix ix_str (pv 6) (pv 12) (fun _ _ => rfl)) (pe_op op_addS (pe_dget hu (pv 9) (pe_ix ix_str (pv 6) (pv 12) (fun _ _ => rfl)) (fun _ _ => rfl)) (pe_ix ix_str (pv 6) (pv 11) (fun _ _ => rfl))) rfl)))
          pss_nil))))))
      (pss_one (ps_ret (pe_disp (pps_cons pe_str (pv 6) (pps_cons pe_str (pv 9) pps_nil)) (by rfl) (by rfl) (fun z => by cases z) (by decide))))))))))), ?_⟩
  refine s_start [some _, some _, none, none, none, none, none, none, none, none, none, none, none, none, none, none] rfl ?_
  walk_at "go"
  refine ⟨g, 26, n, rfl, by omega, by omega, hp, by omega, fun z H1 z0 z1 p1 k1 => ?_⟩
  obtain ⟨fr, rfl⟩ : ∃ fr : Nat, z = (fr : Int) := ⟨z.toNat, by omega⟩
  have hfr : fr < 26 := by omega
  walk_at "go"
  intro q0 H2 hq0 s2 e2
  refine v_gTup2 rfl e2 ?_
  walk_at "go"
  intro q1 H3 hq1 s3 e3
  have p3 := (p1.same s2).same s3
  have k3 : Keep g.p H H3 := fun b o hb nb => s3 _ _ (s2 _ _ (k1 _ _ hb nb))
  walk_at "go"
  refine ⟨g, n + 1, .ref q1, _, rfl, .inl ⟨q1, rfl, e3⟩, by simp, by simp, p3, by omega, fun v H4 hv p4 k4 => ?_⟩
  obtain ⟨sp, hsp, rfl⟩ : ∃ sp ∈ SPS, v = V.int (sp : Nat) := by
    simp only [List.mem_cons, List.not_mem_nil, or_false] at hv
    rcases hv with rfl | rfl | rfl | rfl | rfl | rfl | rfl | rfl | rfl | rfl | rfl | rfl
    · exact ⟨1, by decide, rfl⟩
    · exact ⟨3, by decide, rfl⟩
    · exact ⟨5, by decide, rfl⟩
    · exact ⟨7, by decide, rfl⟩
    · exact ⟨9, by decide, rfl⟩
    · exact ⟨11, by decide, rfl⟩
    · exact ⟨15, by decide, rfl⟩
    · exact ⟨17, by decide, rfl⟩
    · exact ⟨19, by decide, rfl⟩
    · exact ⟨21, by decide, rfl⟩
    · exact ⟨23, by decide, rfl⟩
    · exact ⟨25, by decide, rfl⟩
  have k4' : Keep g.p H H4 := fun b o hb nb => k4 _ _ (k3 _ _ hb nb) nb
  clear hv e2 e3 s2 s3 k1 p1 hq0 hq1 k3 p3 k4
  walk_at "go"
  intro q2 H5 hq2 s5 e5
  walk_at "go"
  refine ⟨g, n + 2, .ref q2, _, rfl, .inl ⟨q2, rfl, e5⟩, by simp, by simp, p4.same s5, by omega, fun v H6 hv p6 k6 => ?_⟩
  obtain ⟨m0, hm0, rfl⟩ : ∃ m0 ∈ MNY, v = V.int (m0 : Nat) := by
    simp only [List.mem_cons, List.not_mem_nil, or_false] at hv
    rcases hv with rfl | rfl | rfl | rfl | rfl | rfl | rfl | rfl | rfl | rfl | rfl | rfl | rfl | rfl | rfl | rfl
    · exact ⟨0, by decide, rfl⟩
    · exact ⟨1, by decide, rfl⟩
    · exact ⟨2, by decide, rfl⟩
    · exact ⟨2, by decide, rfl⟩
    · exact ⟨3, by decide, rfl⟩
    · exact ⟨3, by decide, rfl⟩
    · exact ⟨3, by decide, rfl⟩
    · exact ⟨4, by decide, rfl⟩
    · exact ⟨4, by decide, rfl⟩
    · exact ⟨4, by decide, rfl⟩
    · exact ⟨5, by decide, rfl⟩
    · exact ⟨5, by decide, rfl⟩
    · exact ⟨5, by decide, rfl⟩
    · exact ⟨6, by decide, rfl⟩
    · exact ⟨7, by decide, rfl⟩
    · exact ⟨8, by decide, rfl⟩
  have k6' : Keep g.p H H6 := fun b o hb nb => k6 _ _ (s5 _ _ (k4' _ _ hb nb)) nb
  clear hv hm0 e5 s5 k6 hq2 p4 k4'
  walk_at "go"
  refine ⟨_, _, rfl, ?_⟩
  obtain ⟨m, hm, em⟩ : ∃ m : Nat, m ≤ num ∧ (if ((m0 : Nat) : Int) < ((num : Nat) : Int) then ((m0 : Nat) : Int) else ((num : Nat) : Int)) = (m : Int) := by
    by_cases c : m0 < num
    · exact ⟨m0, by omega, by rw [if_pos (by omega)]⟩
    · exact ⟨num, Nat.le_refl _, by rw [if_neg (by omega)]⟩
  rw [em]
  clear em
  walk_at "go"
  rw [show ((m : Nat) : Int).toNat = m by omega]
  obtain ⟨lnd, lle⟩ := ltr_nd hfr hsp (show m ≤ 8 by omega)
  have sp25 : sp ≤ 25 := by
    have : ∀ s ∈ SPS, s ≤ 25 := by decide
    exact this sp hsp
  refine lc_gen (n := m) (b := fun _ => true) (it := fun k => .int ((k : Nat) : Int)) (f := fun k => V.str (tx [ltr fr sp k])) (walk_rI (fun k => ((k : Nat) : Int)) (fun k => Int.zero_add _)) (fun _ _ => trivial) (by omega) (fun k hk Ha sa R r => ?_) (fun k hk _ Ha sa R r => ?_) (fun D H7 hD s7 e7 => ?_)
  · walk_at "go"
    exact r Ha (Same.refl _)
  · have hz : (((fr : Nat) : Int) + (sp : Int) * (k : Int)) % 26 = (((fr + sp * k) % 26 : Nat) : Int) := by
      rw [Int.natCast_emod, Int.natCast_add, Int.natCast_mul]
      rfl
    have hb : sp * k ≤ 25 * 8 := Nat.mul_le_mul sp25 (by omega)
    have hb2 : 0 ≤ ((sp : Int) * (k : Int)) ∧ ((sp : Int) * (k : Int)) ≤ 200 := by
      rw [← Int.natCast_mul]
      omega
    walk_at "go"
    rw [hz]
    have h26 : (fr + sp * k) % 26 < LET.length := Nat.mod_lt _ (by decide)
    refine v_ixS (l := LET) (by decide) (show atI LET (((fr + sp * k) % 26 : Nat) : Int) = some (ltr fr sp k) from at_getD h26) ?_
    walk_at "go"
    exact ⟨_, rfl, r Ha (Same.refl _)⟩
  rw [filter_yes] at e7
  have e7 : H7 D = some (.lst ((((List.range m).map (ltr fr sp)).map fun c => [c]).map fun l => V.str (tx l))) := by
    rw [e7, List.map_map, List.map_map]
    rfl
  generalize hL : (List.range m).map (ltr fr sp) = L at e7 lnd lle
  have lL : L.length = m := by rw [← hL, List.length_map, List.length_range]
  clear hL
  walk_at "go"
  refine ⟨D, _, rfl, SqL.of e7, fun ws p pmW pwW hp7 => ?_⟩
  obtain ⟨ks, rfl, pk, as⟩ := sorted_ones pmW lnd pwW
  have lk : ks.length = m := by rw [pk.length_eq, lL]
  have klt : ∀ c ∈ ks, c ∈ LET := fun c hc => lle c (pk.subset hc)
  have s8 : Same H7 (upd H7 p (.lst ((ks.map fun c => [c]).map fun l => V.str (tx l)))) := Same.new hp7
  have e8 : (upd H7 p (.lst ((ks.map fun c => [c]).map fun l => V.str (tx l)))) p = some (.lst ((ks.map fun c => [c]).map fun l => V.str (tx l))) := upd_same
  generalize upd H7 p (.lst ((ks.map fun c => [c]).map fun l => V.str (tx l))) = H8 at s8 e8 ⊢
  walk_at "go"
  refine v_join e8 (by rw [flat_ones]; omega) ?_
  rw [flat_ones]
  have s68 := s7.trans s8
  have p8 := p6.same s68
  have k8 : Keep g.p H H8 := fun b o hb nb => s68 _ _ (k6' _ _ hb nb)
  clear e7 e8 s7 s8 s68 pmW pwW hp7 hD lnd lle lL p6 k6' pk
  have ksnd : ks.Nodup := as.imp fun {a b} z e => by omega
  walk_at "go"
  refine ⟨g, 7, n + 3, rfl, by omega, by omega, p8, by omega, fun wy H9 w0 w1 p9 k9 => ?_⟩
  walk_at "go"
  have e_lrg : ∀ {te : L2.St → Hp → (Int → Int → Hp → Prop) → Prop} {σ : L2.St} {H : Hp} {Q : VK}, (te σ H fun a b H1 => RgOk a b ∧ ∀ q, H1 q = none → Q (.ref q) (upd H1 q (.lst (rgV a b)))) → tLstRg te σ H Q := fun h => h
  have e_rg1 : ∀ {ta : TE} {σ : L2.St} {H : Hp} {Q : Int → Int → Hp → Prop}, (ta σ H fun x H1 => ∃ n, x = .int n ∧ Q 0 n H1) → tRg1 ta σ H Q := fun h => h
  refine e_lrg (e_rg1 ?_)
  walk_at "go"
  refine ⟨RgOk.of_le (by omega) (by omega) (by omega) (by omega), fun q3 hq3 => ?_⟩
  have s10 : Same H9 (upd H9 q3 (.lst (rgV 0 m))) := Same.new hq3
  have e10 : (upd H9 q3 (.lst (rgV 0 m))) q3 = some (.lst (rgV 0 m)) := upd_same
  generalize upd H9 q3 (.lst (rgV 0 m)) = H10 at s10 e10 ⊢
  have rl : (rgV 0 (m : Int)).length = m := by rw [rgV_length]; omega
  walk_at "go"
  refine ⟨g, n + 4, .ref q3, _, rfl, .inl ⟨q3, rfl, e10⟩, by omega, p9.same s10, by omega, fun sp2 ys H11 hs2 pmY e11 p11 k11 => ?_⟩
  have yint : ∀ i, i < m → ∃ z : Int, ys[i]? = some (.int z) := fun i hi => by
    have hy : i < ys.length := by rw [pmY.length_eq, rl]; exact hi
    have hm := pmY.subset (List.getElem_mem hy)
    unfold rgV at hm
    obtain ⟨j, _, e⟩ := List.mem_map.mp hm
    exact ⟨_, by rw [List.getElem?_eq_getElem hy, ← e]⟩
  have ns2 : sp2 ≠ g.p := ((p9.same s10).p_ne hs2).symm
  have k11' : Keep g.p H H11 := fun b o hb nb => k11 _ _ (s10 _ _ (k9 _ _ (k8 _ _ hb nb) nb)) nb
  have p11 := p11.mono (show n + 4 + (rgV 0 (m : Int)).length ≤ n + 12 by omega)
  clear e10 s10 hq3 p9 k9 k11 p8 k8 pmY e_lrg e_rg1 rl
  walk_at "go"
  intro d H12 hd s12 e12
  have hd0 : H d = none := by
    cases z : H d with
    | none => rfl
    | some o =>
      by_cases e : d = g.p
      · exact absurd e (p11.p_ne hd).symm
      · have := k11' _ _ z e
        rw [hd] at this
        cases this
  have ndp := (p11.p_ne hd)
  have ndc := (p11.cl_ne hd)
  have nds : sp2 ≠ d := ne_of_none e11 hd
  have p12 := p11.same s12
  have k12 : Keep g.p H H12 := fun b o hb nb => s12 _ _ (k11' _ _ hb nb)
  have es12 := s12 _ _ e11
  clear p11 k11' s12 e11 hs2
  refine ⟨_, _, _, rfl, ?_⟩
  walk_at "go"
  refine for_it (walk_tx ks) (fun i σ H' => ∃ x, σ = [some (.ref g.p), some (.int (num : Nat)), some (.str (tx LET)), some (.int (fr : Nat)), some (.int (sp : Nat)), some (.int (m : Nat)), some (.str (tx ks)), some (.int wy), some (.ref sp2), some (.ref d), x, none, none, none, none, none] ∧ PenAt g H' (n + 12) ∧ Keep g.p H H' ∧ H' sp2 = some (.lst ys) ∧ H' d = some (.dK (tabKV (ks.take i) fun _ => []))) ⟨_, rfl, p12, k12, es12, e12⟩ (fun _ _ _ _ _ => trivial) ?_ ?_
  · rintro i v σ H13 H14 hi ⟨x, rfl, p13, k13, es13, e13⟩ ⟨rfl, rfl⟩
    walk_at "go"
    refine v_put (tab_new e13 (take_notin ksnd hi) rfl (by rw [List.length_take]; omega)) fun H15 k15 e15 => ?_
    refine ⟨_, rfl, p13.keep k15 ndp ndc, fun b o hb nb => k15 _ _ (k13 _ _ hb nb) (ne_of_none hb hd0), k15 _ _ es13 nds, ?_⟩
    rw [take_getD hi]
    exact e15
  rintro σ H13 ⟨x, rfl, p13, k13, es13, e13⟩
  rw [List.take_of_length_le (Nat.le_refl _)] at e13
  clear p12 k12 es12 e12 hd
  walk_at "go"
  refine for_it (walk_rI (fun i => ((i : Nat) : Int)) (fun k => Int.zero_add _)) (fun j σ H' => ∃ x1 x2 x3 x4 x5 f, σ = [some (.ref g.p), some (.int (num : Nat)), some (.str (tx LET)), some (.int (fr : Nat)), some (.int (sp : Nat)), some (.int (m : Nat)), some (.str (tx ks)), some (.int wy), some (.ref sp2), some (.ref d), x1, x2, x3, x4, x5, none] ∧ PenAt g H' (n + 12 + 8 * j) ∧ Keep g.p H H' ∧ H' sp2 = some (.lst ys) ∧ Gr ks f j 0 ∧ H' d = some (.dK (tabKV ks f))) ⟨_, _, _, _, _, _, rfl, p13, k13, es13, ⟨fun _ _ h => (by cases h), fun _ _ h => (by cases h), fun _ => .nil, fun _ _ _ _ h => (by cases h)⟩, e13⟩ (fun _ _ _ _ _ => trivial) ?_ ?_
  · rintro j v σ H14 H15 hj ⟨x1, x2, x3, x4, x5, f, rfl, p15, k15, es15, G, e15⟩ ⟨rfl, rfl⟩
    have hj' : j < ks.length := by omega
    walk_at "go"
    refine for_it (walk_rI (fun i => ((i : Nat) : Int)) (fun k => Int.zero_add _)) (fun i σ H' => ∃ x3 x4 x5 f, σ = [some (.ref g.p), some (.int (num : Nat)), some (.str (tx LET)), some (.int (fr : Nat)), some (.int (sp : Nat)), some (.int (m : Nat)), some (.str (tx ks)), some (.int wy), some (.ref sp2), some (.ref d), x1, some (.int (j : Nat)), x3, x4, x5, none] ∧ PenAt g H' (n + 12 + 8 * j + i) ∧ Keep g.p H H' ∧ H' sp2 = some (.lst ys) ∧ Gr ks f j i ∧ H' d = some (.dK (tabKV ks f))) ⟨_, _, _, f, rfl, p15, k15, es15, G, e15⟩ (fun _ _ _ _ _ => trivial) ?_ ?_
    · rintro i v σ H16 H17 hi ⟨y3, y4, y5, f, rfl, p17, k17, es17, G, e17⟩ ⟨rfl, rfl⟩
      have hi' : i < j := by omega
      obtain ⟨z1, hz1⟩ := yint j (by omega)
      obtain ⟨z2, hz2⟩ := yint i (by omega)
      walk_at "go"
      refine v_ixL es17 (at_of (j := j) rfl hz1) ?_
      walk_at "go"
      refine v_ixL es17 (at_of (j := i) rfl hz2) ?_
      walk_at "go"
      refine ⟨_, _, rfl, ?_⟩
      walk_at "go"
      refine v_ixL es17 (at_of (j := j) rfl hz1) ?_
      walk_at "go"
      refine v_ixL es17 (at_of (j := i) rfl hz2) ?_
      walk_at "go"
      refine ⟨_, _, rfl, ?_⟩
      walk_at "go"
      refine ⟨g, _, wy, _, _, _, rfl, w0, by omega, p17, by omega, fun b H18 p18 k18 => ?_⟩
      have e18 := k18 _ _ e17 ndp.symm
      have es18 := k18 _ _ es17 ns2
      have k18' : Keep g.p H H18 := fun b o hb nb => k18 _ _ (k17 _ _ hb nb) nb
      walk_at "go"
      cases b with
      | false =>
        walk_at "go"
        exact ⟨_, _, _, f, rfl, p18.mono (by omega), k18', es18, G.more, e18⟩
      | true =>
        have hx : ks.getD j 0 ∈ ks := getD_mem hj'
        have hy : ks.getD i 0 ∈ ks := getD_mem (by omega)
        have hxy : ks.getD i 0 ≠ ks.getD j 0 := fun z => by have := getD_inj ksnd (by omega) hj' z; omega
        have lf : ∀ c, (f c).length ≤ 8 := fun c => Nat.le_trans (List.Nodup.length_le_of_subset (G.nd c) fun a ha => (G.ins a c ha).1) (by omega)
        have l1 : (f (ks.getD j 0)).length + [ks.getD i 0].length ≤ 1000000 := by rw [List.length_singleton]; have := lf (ks.getD j 0); omega
        have l2 : (f (ks.getD i 0)).length + [ks.getD j 0].length ≤ 1000000 := by rw [List.length_singleton]; have := lf (ks.getD i 0); omega
        walk_at "go"
        refine v_ixS (by omega) (at_getD hj') ?_
        walk_at "go"
        refine v_dget (tab_get e18 hx) ?_
        walk_at "go"
        refine v_ixS (by omega) (at_getD (show i < ks.length by omega)) ?_
        walk_at "go"
        refine v_ixS (by omega) (at_getD hj') ?_
        walk_at "go"
        refine v_put (tab_put e18 hx (by omega)) fun H19 k19 e19 => ?_
        walk_at "go"
        refine v_ixS (by omega) (at_getD (show i < ks.length by omega)) ?_
        walk_at "go"
        refine v_dget (tab_get e19 hy) ?_
        rw [if_neg hxy]
        walk_at "go"
        refine v_ixS (by omega) (at_getD hj') ?_
        walk_at "go"
        refine v_ixS (by omega) (at_getD (show i < ks.length by omega)) ?_
        walk_at "go"
        refine v_put (tab_put e19 hy (by omega)) fun H20 k20 e20 => ?_
        refine ⟨_, _, _, addF f (ks.getD j 0) (ks.getD i 0), rfl, ((p18.keep k19 ndp ndc).keep k20 ndp ndc).mono (by omega), fun b o hb nb => k20 _ _ (k19 _ _ (k18' _ _ hb nb) (ne_of_none hb hd0)) (ne_of_none hb hd0), k20 _ _ (k19 _ _ es18 nds) nds, G.add ksnd hi' hj', ?_⟩
        rw [e20]
        rfl
    · rintro σ H16 ⟨y3, y4, y5, f, rfl, p17, k17, es17, G, e17⟩
      exact ⟨_, _, _, _, _, f, rfl, p17.mono (by omega), k17, es17, G.turn (by omega), e17⟩
  rintro σ H14 ⟨x1, x2, x3, x4, x5, f, rfl, p14, k14, es14, G, e14⟩
  walk_at "go"
  intro p hp14
  walk_at "go"
  refine ⟨upd_same, [(Sum.inr "kinds", .str (tx ks)), (Sum.inr "cross", .ref d)], rfl, (by show 2 ≤ 15; decide), ?_⟩
  have em : mergeK [] [(Sum.inr ("kinds" : Str), V.str (tx ks)), (Sum.inr ("cross" : Str), .ref d)] = flKV ks d := by
    unfold mergeK flKV
    rw [List.foldl_cons, List.foldl_cons, List.foldl_nil]
    rw [putK_new (k := Sum.inr ("kinds" : Str)) _ rfl, putK_new (k := Sum.inr ("cross" : Str)) _ (by rw [List.nil_append, valV_neg kkc]; rfl)]
    rfl
  rw [em]
  have s15 : Same H14 (upd (upd H14 p (.dK [])) p (.dK (flKV ks d))) := fun b o hb => by
    rw [upd_ne (ne_of_none hb hp14), upd_ne (ne_of_none hb hp14)]
    exact hb
  have hpH : H p = none := by
    cases z : H p with
    | none => rfl
    | some o =>
      by_cases e : p = g.p
      · exact absurd e (p14.p_ne hp14).symm
      · have := k14 _ _ z e
        rw [hp14] at this
        cases this
  exact k p ks f _ hpH (G.fle as klt (by omega)) ⟨d, upd_same, s15 _ _ e14⟩ ((p14.same s15).mono (by omega)) fun b o hb nb => s15 _ _ (k14 _ _ hb nb)
end
end
section
open PySem PySem.Spec L2
theorem Keep.free {p x : Addr} {H H' : Hp} (k : Keep p H H') (h : H' x = none) (n : x ≠ p) : H x = none := by
  cases z : H x with
  | none => rfl
  | some o =>
    have := k _ _ z n
    rw [h] at this
    cases this
section
variable {P : Program} {w : World} {K : PySem.W.Frag} {mg : Str → Option Value} {base : Heap} {C R O : Addr}
end
end
section
open PySem PySem.Spec L2
/-- [e for x in ..]: e draws and makes new objects; Rel tells of each item what it is -/
theorem lc_mapP {σ : L2.St} {H : Hp} {i : Nat} {tt : TT} {te : TE} {P : Addr → Hp → Prop} {J : It} {n : Nat} {G : Hp → Prop} {it : Nat → V} {g : Pen} {n0 a : Nat} (Rel : Nat → V → Hp → Prop) (w : Walk J n G (fun k H x H' => H' = H ∧ x = it k)) (hG : ∀ H', Keep g.p H H' → G H') (hn : n ≤ 1000000)
    (m1 : ∀ k v H1 H2, Rel k v H1 → Keep g.p H1 H2 → Rel k v H2) (m2 : ∀ k v H1 H2 D l, Rel k v H1 → H1 D = some (.lst l) → Keep D H1 H2 → Rel k v H2) (p0 : PenAt g H n0)
    (ht : ∀ k, k < n → ∀ H1, Keep g.p H H1 → PenAt g H1 (n0 + a * k) → ∀ R : Bool → Hp → Prop, (∀ H2, Same H1 H2 → R true H2) → tt ((wipe σ [i]).set i (some (it k))) H1 R)
    (he : ∀ k, k < n → ∀ H1, Keep g.p H H1 → PenAt g H1 (n0 + a * k) → ∀ R : VK, (∀ v H2, Keep g.p H1 H2 → PenAt g H2 (n0 + a * k + a) → Rel k v H2 → R v H2) → te ((wipe σ [i]).set i (some (it k))) H1 R)
    (q : ∀ D H' vs, H D = none → Keep g.p H H' → PenAt g H' (n0 + a * n) → H' D = some (.lst vs) → vs.length = n → (∀ k v, vs[k]? = some v → Rel k v H') → P D H') :
    ∀ D, H D = none → ∃ W : Nat → Nat → Hp → Prop, (∃ m, W 0 m (upd H D (.lst []))) ∧ ∀ k m H, W k m H →
      (J.stop k H ∧ P D H) ∨ (J.go k H ∧ ∃ Nx : Hp → Prop, (∀ H', Nx H' → ∃ m', m' < m ∧ W (k + 1) m' H') ∧ ∀ x H', J.yld k H x H' → (gName i) x (wipe σ [i]) H' fun s2 H2 => wipe s2 [i] = wipe σ [i] ∧ tt s2 H2 fun c H3 =>
        if c = true then te s2 H3 fun y H4 => ∃ acc, H4 D = some (.lst acc) ∧ acc.length < sizeLine ∧ Nx (upd H4 D (.lst (acc ++ [y]))) else Nx H3) := by
  intro D hD
  have nD := p0.p_ne hD
  have nC := p0.cl_ne hD
  refine lc_it w (vs := [i]) (σ := σ) (g := gName i) (tt := tt) (te := te) (Qd := fun H' => P D H') (fun k H' => Keep g.p H H' ∧ PenAt g H' (n0 + a * k) ∧ ∃ vs, H' D = some (.lst vs) ∧ vs.length = k ∧ ∀ j v, vs[j]? = some v → Rel j v H')
    ⟨Keep.of (Same.new hD), p0.same (Same.new hD), [], upd_same, rfl, fun j v z => by simp at z⟩ (fun k H' _ p => hG H' p.1) (fun k x H1 H2 hk p y => ?_) (fun H' p => ?_)
  · obtain ⟨p1, pp, vs, p2, p3, p4⟩ := p
    obtain ⟨rfl, rfl⟩ := y
    refine ⟨wipe1, ht k hk _ p1 pp _ fun H3 s3 => ?_⟩
    rw [if_pos rfl]
    refine he k hk _ (p1.trans (Keep.of s3)) (pp.same s3) _ fun v H4 k4 pp4 r4 => ?_
    have e4 := k4 _ _ (s3 _ _ p2) nD.symm
    refine ⟨vs, e4, szlt (by omega), fun b o hb nb => ?_, ?_, vs ++ [v], upd_same, by rw [List.length_append, p3]; rfl, fun j u hj => ?_⟩
    · rw [upd_ne (ne_of_none hb hD)]
      exact k4 _ _ (s3 _ _ (p1 _ _ hb nb)) nb
    · rw [Nat.mul_succ]
      exact (pp4.keep Keep.put nD nC).mono (by omega)
    · by_cases c : j < vs.length
      · rw [List.getElem?_append_left c] at hj
        exact m2 _ _ _ _ D vs (m1 _ _ _ _ (p4 j u hj) ((Keep.of s3).trans k4)) e4 Keep.put
      · have e : j = vs.length := by
          have := (List.getElem?_eq_some_iff.mp hj).1
          rw [List.length_append, List.length_singleton] at this
          omega
        subst e
        rw [List.getElem?_append_right (Nat.le_refl _), Nat.sub_self] at hj
        injection hj with hj
        rw [← hj, p3]
        exact m2 _ _ _ _ D vs r4 e4 Keep.put
  · obtain ⟨p1, pp, vs, p2, p3, p4⟩ := p
    exact q D H' vs hD p1 pp p2 p3 p4
end
section
open PySem PySem.Spec L2
def spAsPlan (C : Addr) : Sp := fun vs H Q _ => ∃ (g : Pen) (n : Nat) (q : Addr) (ls : List Nat) (f : Nat → List Nat), vs = [.ref g.p, .ref q] ∧ PenAt g H n ∧ n < 900000 ∧ FloorAt H q ls f ∧ FlE ls f ∧
  ∀ x H', H x = none → Keep g.p H H' → PenAt g H' (n + 300) → PlanAt C H' x (ascOf ls) (tabPairs ls f) → Q (.ref x) H'
def spDWay : Sp := fun vs H Q _ => ∃ (g : Pen) (n : Nat) (q : Addr) (ls : List Nat) (f : Nat → List Nat) (num : Nat), vs = [.ref g.p, .ref q, .int num] ∧ PenAt g H n ∧ n < 900000 ∧ FloorAt H q ls f ∧ ls.length ≤ 8 ∧ num ≤ 300 ∧
  ∀ w H', (∀ c ∈ w, c ∈ ls) → w.length ≤ num → Keep g.p H H' → PenAt g H' (n + 1 + num) → Q (.str (tx w)) H'
theorem tabPairs_eq2 {ls : List Nat} {f : Nat → List Nat} {ps : List (List Nat)} (T : Tab ls f) (h1 : ∀ p ∈ ps, ∃ a b, p = [a, b] ∧ a ∈ ls ∧ b ∈ f a) (h2 : ∀ a ∈ ls, ∀ b ∈ f a, a < b → [a, b] ∈ ps ∨ [b, a] ∈ ps) : pairsOf (ps.map ascOf) = tabPairs ls f := by
  have e : pairsOf (ps.map ascOf) = pairsOf ((ps.map ascOf).map ascOf) := by
    rw [List.map_map]
    congr 1
    exact List.map_congr_left fun p _ => (asc_asc p).symm
  rw [e]
  refine tabPairs_eq T (fun p hp => ?_) fun a ha b hb hab => ?_
  · obtain ⟨q, hq, rfl⟩ := List.mem_map.mp hp
    obtain ⟨a, b, rfl, ha, hb⟩ := h1 q hq
    obtain ⟨b1, b2, b3⟩ := T.sub a ha b hb
    rcases Nat.lt_or_ge a b with l | l
    · exact ⟨a, b, (asc2 (T.lt a ha) (T.lt b b1) l).1, ha, hb⟩
    · exact ⟨b, a, (asc2 (T.lt b b1) (T.lt a ha) (by omega)).2, b1, b3⟩
  · obtain ⟨b1, b2, b3⟩ := T.sub a ha b hb
    have z := asc2 (T.lt a ha) (T.lt b b1) hab
    rcases h2 a ha b hb hab with m | m
    · exact List.mem_map.mpr ⟨_, m, z.1⟩
    · exact List.mem_map.mpr ⟨_, m, z.2⟩
theorem perm_strsV {ws : List V} {ps : List (List Nat)} (h : ws.Perm (strsV ps)) : ∃ qs : List (List Nat), ws = strsV qs ∧ ∀ p, p ∈ qs ↔ p ∈ ps := by
  have key : ∀ ws : List V, (∀ v ∈ ws, ∃ p : List Nat, v = .str (tx p)) → ∃ qs : List (List Nat), ws = strsV qs := by
    intro ws
    induction ws with
    | nil => intro _; exact ⟨[], rfl⟩
    | cons v r ih =>
      intro hv
      obtain ⟨p, rfl⟩ := hv v (List.mem_cons_self ..)
      obtain ⟨qs, rfl⟩ := ih fun u hu => hv u (List.mem_cons_of_mem _ hu)
      exact ⟨p :: qs, rfl⟩
  obtain ⟨qs, rfl⟩ := key ws fun v hv => by
    obtain ⟨p, _, e⟩ := List.mem_map.mp (h.subset hv)
    exact ⟨p, e.symm⟩
  refine ⟨qs, rfl, fun p => ?_⟩
  have m : V.str (tx p) ∈ strsV qs ↔ V.str (tx p) ∈ strsV ps := h.mem_iff
  have one : ∀ l : List (List Nat), V.str (tx p) ∈ strsV l ↔ p ∈ l := fun l => by
    unfold strsV
    rw [List.mem_map]
    exact ⟨fun ⟨q, hq, e⟩ => by
      have e : q = p := by
        injection e with e
        exact tx_inj.mp e
      exact e ▸ hq, fun h => ⟨p, h, rfl⟩⟩
  rw [one, one] at m
  exact m
def deV : V → Nat
  | .str z => z.cps.toList.getD 0 0
  | _ => 0
theorem perm_letV {ys : List V} {ls : List Nat} (h : ys.Perm (ls.map fun c => V.str (tx [c]))) : ∃ l' : List Nat, ys = l'.map (fun c => V.str (tx [c])) ∧ l'.Perm ls := by
  refine ⟨ys.map deV, ?_, ?_⟩
  · rw [List.map_map]
    have : ∀ v ∈ ys, v = ((fun c => V.str (tx [c])) ∘ deV) v := fun v hv => by
      obtain ⟨c, _, rfl⟩ := List.mem_map.mp (h.subset hv)
      rfl
    conv => lhs; rw [← List.map_id ys]
    exact List.map_congr_left fun v hv => this v hv
  · have := h.map deV
    rw [List.map_map] at this
    have e : (ls.map (deV ∘ fun c => V.str (tx [c]))) = ls := by
      conv => rhs; rw [← List.map_id ls]
      exact List.map_congr_left fun c _ => rfl
    rw [e] at this
    exact this
section
variable {P : Program} {w : World} {K : PySem.W.Frag} {mg : Str → Option Value} {base : Heap} {C R O : Addr}
abbrev stasplan : Stmt := (top 84)
abbrev Nasplan : List Str := ["_law_pen", "_law_floor", "_law_pairs", "_law_kind", "_law_other"]
theorem scasplan : FnScope Nasplan ["_law_pen", "_law_floor"] (defScope stasplan) := ⟨rfl, rfl, rfl, by decide +kernel, rfl, by decide +kernel, by decide +kernel⟩

theorem ok_asplan (F : FnAt K mg "_law_as_plan" stasplan) (T : TxtP K mg C) (D_draw : Def P w K mg base CX0 1 "_law_draw" ["_law_pen", "_law_span"] spDraw) (D_pick : Def P w K mg base CX0 2 "_law_pick" ["_law_pen", "_law_some"] spPick2) (D_shuffled : Def P w K mg base CX0 2 "_law_shuffled" ["_law_pen", "_law_some"] spShuf2) (C_Plan : CDef P w K mg base CX0 3 "Plan" C (spPlan K C)) : Def P w K mg base CX0 5 "_law_as_plan" ["_law_pen", "_law_floor"] (spAsPlan C) := by
  refine F.ok scasplan (fun _ _ _ _ _ _ us hl => match us, hl with | [_, _], _ => rfl) (fun vs H Q E h => ?_) (fun f cdv A outer s H vs Q E hr h => ?_)
  · obtain ⟨g, n, q, ls, f, rfl, _⟩ := h
    rfl
  obtain ⟨g, n, q0, ls, fn, rfl, hp, hn, fl, fe, k⟩ := h
  have hu := hu_of hr
  have nd := scasplan.nd
  replace D_draw := D_draw.mono (show 1 ≤ 4 by decide)
  replace D_pick := D_pick.mono (show 2 ≤ 4 by decide)
  replace D_shuffled := D_shuffled.mono (show 2 ≤ 4 by decide)
  have tab := fe.tab
  have tl := tab.len
  refine ⟨_, (pss_cons (ps_set (i := 2) nd rfl (Or.inl rfl) (pe_lst pa_nil))
      (pss_cons (ps_for PassesOwn.never rfl (pi_str (pe_dget hu (pv 1) pe_str (fun _ _ => rfl))) (pg_name (i := 3) nd rfl (Or.inl rfl))
      (pss_one (ps_for PassesOwn.never rfl (pi_str (pe_dget hu (pe_dget hu (pv 1) pe_str (fun _ _ => rfl)) (pv 3) (fun _ _ => rfl))) (pg_name (i := 4) nd rfl (Or.inl rfl))
        (pss_one (ps_if (pt_cut (PW.pt (pw_or (pt_cmpR op_ltS (pv 3) (pv 4) (nomark _)) (pw_or1 (pt_cmpR op_eq (pe_cd D_draw hr pass0 (pa_cons (pv 0) (pa_cons pe_int pa_nil))) pe_int (nomark _))))))
          (pss_one (ps_expr (pe_appK (K := K) rfl (pv 2) (pe_cd D_pick hr pass0 (pa_cons (pv 0) (pa_cons (pe_lst (pa_cons (pe_op op_addS (pv 3) (pv 4)) (pa_cons (pe_op op_addS (pv 4) (pv 3)) pa_nil))) pa_nil))))))
          pss_nil)))))
      (pss_one (ps_ret (pe_mk C_Plan hr pass0 (pa_cons (pe_joinK (K := K) rfl (pe_tx [] (by decide +kernel)) (pe_cd D_shuffled hr pass0 (pa_cons (pv 0) (pa_cons (pe_dget hu (pv 1) pe_str (fun _ _ => rfl)) pa_nil)))) (pa_cons (pe_cd D_shuffled hr pass0 (pa_cons (pv 0) (pa_cons (pv 2) pa_nil))) pa_nil))))))), ?_⟩
  refine s_start [some _, some _, none, none, none] rfl ?_
  walk_at "go"
  intro q H1 hq s1 e1
  have nqp := hp.p_ne hq
  have nqc := hp.cl_ne hq
  have k1 : Keep g.p H H1 := Keep.of s1
  have p1 := hp.same s1
  have fl1 := fl.same s1
  clear s1 fl hp
  walk_at "go"
  obtain ⟨d1, fa, fb⟩ := fl1.ex
  refine v_dget (fl_kinds fa) ?_
  walk_at "go"
  refine for_it (walk_tx ls) (fun i σ H' => ∃ x1 x2 ps, σ = [some (.ref g.p), some (.ref q0), some (.ref q), x1, x2] ∧ PenAt g H' (n + 16 * i) ∧ Keep g.p H H' ∧ FloorAt H' q0 ls fn ∧ H' q = some (.lst (strsV ps)) ∧ ps.length ≤ 8 * i ∧
    (∀ p ∈ ps, ∃ a b, p = [a, b] ∧ a ∈ ls ∧ b ∈ fn a) ∧ ∀ a ∈ ls.take i, ∀ b ∈ fn a, a < b → [a, b] ∈ ps ∨ [b, a] ∈ ps) ⟨_, _, [], rfl, p1, k1, fl1, e1, by simp, by simp, by simp⟩ (fun _ _ _ _ _ => trivial) ?_ ?_
  · rintro i v σ H2 H3 hi ⟨x1, x2, ps, rfl, p2, k2, fl2, q2, l2, h2, g2⟩ ⟨rfl, rfl⟩
    have hx : ls.getD i 0 ∈ ls := getD_mem hi
    have hgl := tab.gl _ hx
    obtain ⟨d2, fa2, fb2⟩ := fl2.ex
    walk_at "go"
    refine v_dget (fl_cross fa2) ?_
    walk_at "go"
    refine v_dget (tab_get fb2 hx) ?_
    walk_at "go"
    refine for_it (walk_tx (fn (ls.getD i 0))) (fun j σ H' => ∃ x2 ps, σ = [some (.ref g.p), some (.ref q0), some (.ref q), some (.str (tx [ls.getD i 0])), x2] ∧ PenAt g H' (n + 16 * i + 2 * j) ∧ Keep g.p H H' ∧ FloorAt H' q0 ls fn ∧ H' q = some (.lst (strsV ps)) ∧ ps.length ≤ 8 * i + j ∧
      (∀ p ∈ ps, ∃ a b, p = [a, b] ∧ a ∈ ls ∧ b ∈ fn a) ∧ (∀ a ∈ ls.take i, ∀ b ∈ fn a, a < b → [a, b] ∈ ps ∨ [b, a] ∈ ps) ∧ ∀ b ∈ (fn (ls.getD i 0)).take j, ls.getD i 0 < b → [ls.getD i 0, b] ∈ ps ∨ [b, ls.getD i 0] ∈ ps) ⟨_, ps, rfl, p2, k2, fl2, q2, l2, h2, g2, by simp⟩ (fun _ _ _ _ _ => trivial) ?_ ?_
    · rintro j v σ H4 H5 hj ⟨x2, ps, rfl, p4, k4, fl4, q4, l4, h4, g4, t4⟩ ⟨rfl, rfl⟩
      have hy : (fn (ls.getD i 0)).getD j 0 ∈ fn (ls.getD i 0) := getD_mem hj
      generalize hyy : (fn (ls.getD i 0)).getD j 0 = y at hy ⊢
      generalize hxx : ls.getD i 0 = x at *
      have hyl := tab.sub x hx y hy
      have l3 : [x].length + [y].length ≤ 1000000 := by simp
      have l3' : [y].length + [x].length ≤ 1000000 := by simp
      walk_at "go"
      refine t_cut (fun b H' => (x < y → b = true) ∧ PenAt g H' (n + 16 * i + 2 * j + 1) ∧ Keep g.p H5 H') ?_ ?_
      · walk_at "go"
        rw [lt_one]
        refine if_dec (fun c => ?_) (fun c => ?_)
        · exact ⟨fun _ => rfl, p4.mono (by omega), Keep.refl _ _⟩
        walk_at "go"
        refine ⟨g, 4, _, rfl, by omega, by omega, p4, by omega, fun z H6 _ _ p6 k6 => ?_⟩
        walk_at "go"
        exact ⟨fun z => absurd z c, p6, k6⟩
      rintro b H6 ⟨hb, p6, k6⟩
      have fl6 := fl4.pen p4 k6
      have q6 := k6 _ _ q4 nqp.symm
      have k6' : Keep g.p H H6 := fun b o hb nb => k6 _ _ (k4 _ _ hb nb) nb
      walk_at "go"
      cases b with
      | false =>
        walk_at "go"
        refine ⟨_, ps, rfl, p6.mono (by omega), k6', fl6, q6, by omega, h4, g4, fun b hb' hab => ?_⟩
        rw [take_getD hj, List.mem_append, List.mem_singleton] at hb'
        rcases hb' with z | z
        · exact t4 b z hab
        · rw [z, hyy] at hab
          have := hb hab
          cases this
      | true =>
        walk_at "go"
        intro q3 H7 hq3 s7 e7
        have nq3 : q3 ≠ q := (ne_of_none q6 hq3).symm
        walk_at "go"
        refine ⟨g, _, .ref q3, _, rfl, .inl ⟨q3, rfl, e7⟩, by simp, by simp, p6.same s7, by omega, fun u H8 hu8 p8 k8 => ?_⟩
        have q8 := k8 _ _ (s7 _ _ q6) nqp.symm
        obtain ⟨pr, hpr, rfl⟩ : ∃ pr, (pr = [x, y] ∨ pr = [y, x]) ∧ u = .str (tx pr) := by
          simp only [List.mem_cons, List.not_mem_nil, or_false] at hu8
          rcases hu8 with rfl | rfl
          · exact ⟨_, .inl rfl, rfl⟩
          · exact ⟨_, .inr rfl, rfl⟩
        walk_at "go"
        refine v_app q8 (by rw [List.length_map]; omega) fun H9 k9 e9 => ?_
        refine ⟨_, ps ++ [pr], rfl, (p8.keep k9 nqp nqc).mono (by omega), fun b o hb nb => k9 _ _ (k8 _ _ (s7 _ _ (k6' _ _ hb nb)) nb) (ne_of_none hb hq), ?_, ?_, ?_, ?_, ?_, ?_⟩
        · obtain ⟨dd, u1, u2⟩ := ((fl6.same s7).pen (p6.same s7) k8).ex
          exact ⟨dd, k9 _ _ u1 (ne_of u1 q8 (by intro z; cases z)), k9 _ _ u2 (ne_of u2 q8 (by intro z; cases z))⟩
        · rw [e9]
          unfold strsV
          rw [List.map_append]
          rfl
        · rw [List.length_append, List.length_singleton]
          omega
        · intro p hp'
          rcases List.mem_append.mp hp' with z | z
          · exact h4 p z
          · rw [List.mem_singleton.mp z]
            rcases hpr with rfl | rfl
            · exact ⟨x, y, rfl, hx, hy⟩
            · exact ⟨y, x, rfl, hyl.1, hyl.2.2⟩
        · intro a ha b hb' hab
          exact (g4 a ha b hb' hab).imp (List.mem_append_left _) (List.mem_append_left _)
        · intro b hb' hab
          rw [take_getD hj, List.mem_append, List.mem_singleton] at hb'
          rcases hb' with z | z
          · exact (t4 b z hab).imp (List.mem_append_left _) (List.mem_append_left _)
          · rw [z, hyy]
            rcases hpr with rfl | rfl
            · exact .inl (List.mem_append_right _ (List.mem_singleton.mpr rfl))
            · exact .inr (List.mem_append_right _ (List.mem_singleton.mpr rfl))
    · rintro σ H4 ⟨x2, ps, rfl, p4, k4, fl4, q4, l4, h4, g4, t4⟩
      rw [List.take_of_length_le (Nat.le_refl _)] at t4
      refine ⟨_, _, ps, rfl, p4.mono (by omega), k4, fl4, q4, by omega, h4, ?_⟩
      intro a ha b hb hab
      rw [take_getD hi, List.mem_append, List.mem_singleton] at ha
      rcases ha with z | z
      · exact g4 a z b hb hab
      · subst z
        exact t4 b hb hab
  rintro σ H2 ⟨x1, x2, ps, rfl, p2, k2, fl2, q2, l2, h2, g2⟩
  rw [List.take_of_length_le (Nat.le_refl _)] at g2
  obtain ⟨d2, fa2, fb2⟩ := fl2.ex
  walk_at "go"
  refine v_dget (fl_kinds fa2) ?_
  walk_at "go"
  refine ⟨g, _, .str (tx ls), _, rfl, .inr ⟨ls, rfl, rfl⟩, by rw [List.length_map]; omega, p2, by omega, fun y ws H5 hy pm e5 p5 k5 => ?_⟩
  obtain ⟨ks, rfl, pk⟩ := perm_letV pm
  have q5 := k5 _ _ q2 nqp.symm
  have lk := pk.length_eq
  rw [strs_ones] at e5
  refine v_join e5 (by rw [flat_ones]; omega) ?_
  rw [flat_ones]
  walk_at "go"
  rw [List.length_map] at p5
  refine ⟨g, _, .ref q, _, rfl, .inl ⟨q, rfl, q5⟩, by rw [List.length_map]; omega, p5, by omega, fun y2 ws H6 hy2 pm2 e6 p6 k6 => ?_⟩
  obtain ⟨qs, rfl, mq⟩ := perm_strsV pm2
  have lq := pm2.length_eq
  rw [List.length_map, List.length_map] at lq
  walk_at "go"
  refine ⟨ks, y2, qs, rfl, ⟨.inl e6, by omega, ?_, fun c hc => tab.lt c (pk.subset hc), pk.nodup_iff.mpr tab.nd, by omega⟩, fun x H7 hx s7 pl off => ?_⟩
  · intro p hp
    obtain ⟨a, b, rfl, ha, hb⟩ := h2 p ((mq p).mp hp)
    obtain ⟨b1, b2, b3⟩ := tab.sub a ha b hb
    exact ⟨a, b, rfl, b2.symm, pk.mem_iff.mpr ha, pk.mem_iff.mpr b1⟩
  rw [show kindsOf ks = ascOf ls from ascOf_congr fun c => pk.mem_iff, show prsOf qs = tabPairs ls fn from tabPairs_eq2 tab (fun p hp => h2 p ((mq p).mp hp)) fun a ha b hb hab => (g2 a ha b hb hab).imp (mq _).mpr (mq _).mpr] at pl
  have kB : Keep g.p H H6 := fun b o hb nb => k6 _ _ (k5 _ _ (k2 _ _ hb nb) nb) nb
  have kA : Keep g.p H H7 := fun b o hb nb => s7 _ _ (kB _ _ hb nb)
  rw [List.length_map] at p6
  exact k x H7 (kB.free hx (p6.p_ne hx).symm) kA ((p6.same s7).mono (by omega)) pl
abbrev stdway : Stmt := (top 85)
abbrev Ndway : List Str := ["_law_pen", "_law_floor", "_law_upto", "_law_k"]
theorem scdway : FnScope Ndway ["_law_pen", "_law_floor", "_law_upto"] (defScope stdway) := ⟨rfl, rfl, rfl, by decide +kernel, rfl, by decide +kernel, by decide +kernel⟩

theorem ok_dway (F : FnAt K mg "_law_drawn_way" stdway) (T : TxtF K mg) (D_draw : Def P w K mg base CX0 1 "_law_draw" ["_law_pen", "_law_span"] spDraw) (D_pick : Def P w K mg base CX0 2 "_law_pick" ["_law_pen", "_law_some"] spPick2) : Def P w K mg base CX0 3 "_law_drawn_way" ["_law_pen", "_law_floor", "_law_upto"] spDWay := by
  refine F.ok scdway (fun _ _ _ _ _ _ us hl => match us, hl with | [_, _, _], _ => rfl) (fun vs H Q E h => ?_) (fun f cdv A outer s H vs Q E hr h => ?_)
  · obtain ⟨g, n, q, ls, f, num, rfl, _⟩ := h
    rfl
  obtain ⟨g, n, q0, ls, fn, num, rfl, hp, hn, fl, l8, hnum, k⟩ := h
  have hu := hu_of hr
  have nd := scdway.nd
  replace D_draw := D_draw.mono (show 1 ≤ 2 by decide)
  refine ⟨_, (pss_cons (ps_if (pt_cmpR op_eq (pe_dget hu (pv 1) pe_str (fun _ _ => rfl)) (pe_tx [] (by decide +kernel)) (nomark _))
      (pss_one (ps_ret (pe_tx [] (by decide +kernel))))
      pss_nil)
      (pss_one (ps_ret (pe_joinK (K := K) rfl (pe_tx [] (by decide +kernel)) (pe_lc (own := [("_law_k", 3)]) (g := gName 3) (by rfl) nd (pi_range1 (by rfl) T.range (pa_cons (pe_cd D_draw hr pass0 (pa_cons (pv 0) (pa_cons (pe_op op_add (pv 2) pe_int) pa_nil))) pa_nil)) (blkOk_by (own := [("_law_k", 3)]) (N := Ndway) (sc := defScope stdway) (by decide +kernel)) (fun _ _ _ _ _ => (pg_name (i := 3) nd rfl (Or.inl rfl))) (fun _ _ _ _ _ => pts_nil) (fun _ _ _ _ _ => (pe_cd D_pick hr pass0 (pa_cons (pv 0) (pa_cons (pe_dget hu (pv 1) pe_str (fun _ _ => rfl)) pa_nil))))))))), ?_⟩
  refine s_start [some _, some _, some _, none] rfl ?_
  obtain ⟨d1, fa, fb⟩ := fl.ex
  walk_at "go"
  refine v_dget (fl_kinds fa) ?_
  walk_at "go"
  refine if_dec (fun c => ?_) (fun c => ?_)
  · walk_at "go"
    exact k [] H (fun _ h => nomatch h) (Nat.zero_le _) (Keep.refl _ _) (hp.mono (by omega))
  have hpos : 0 < ls.length := by
    cases ls with
    | nil => exact absurd rfl c
    | cons _ _ => simp
  walk_at "go"
  refine ⟨g, (num : Int) + 1, n, rfl, by omega, by omega, hp, by omega, fun z H1 z0 z1 p1 k1 => ?_⟩
  obtain ⟨m, rfl⟩ : ∃ m : Nat, z = (m : Int) := ⟨z.toNat, by omega⟩
  have fl1 := fl.pen hp k1
  walk_at "go"
  rw [show ((m : Nat) : Int).toNat = m by omega]
  refine lc_mapP (g := g) (a := 1) (n := m) (n0 := n + 1) (it := fun k => .int ((k : Nat) : Int)) (fun k v H' => ∃ c ∈ ls, v = V.str (tx [c])) (walk_rI (fun k => ((k : Nat) : Int)) (fun k => Int.zero_add _)) (fun _ _ => trivial) (by omega) (fun _ _ _ _ h _ => h) (fun _ _ _ _ _ _ h _ _ => h) p1 ?_ ?_ ?_
  · intro k hk Ha ka pa R r
    walk_at "go"
    exact r Ha (Same.refl _)
  · intro k hk Ha ka pa R r
    have fla := fl1.pen p1 ka
    obtain ⟨d2, fa2, fb2⟩ := fla.ex
    walk_at "go"
    refine v_dget (fl_kinds fa2) ?_
    walk_at "go"
    refine ⟨g, _, .str (tx ls), _, rfl, .inr ⟨ls, rfl, rfl⟩, by rw [List.length_map]; exact hpos, by rw [List.length_map]; omega, pa, by omega, fun u H' hu' p' k' => ?_⟩
    obtain ⟨c, hc, rfl⟩ := List.mem_map.mp hu'
    exact r _ _ k' (p'.mono (by omega)) ⟨c, hc, rfl⟩
  intro D H2 vs hD k2 p2 e2 lvs rel
  obtain ⟨w2, rfl, hw2⟩ : ∃ w2 : List Nat, vs = w2.map (fun c => V.str (tx [c])) ∧ ∀ c ∈ w2, c ∈ ls := by
    refine ⟨vs.map deV, ?_, fun c hc => ?_⟩
    · rw [List.map_map]
      conv => lhs; rw [← List.map_id vs]
      refine List.map_congr_left fun v hv => ?_
      obtain ⟨i, hi, e⟩ := List.getElem_of_mem hv
      obtain ⟨c, _, rfl⟩ := rel i v (by rw [List.getElem?_eq_getElem hi, e])
      rfl
    · obtain ⟨v, hv, rfl⟩ := List.mem_map.mp hc
      obtain ⟨i, hi, e⟩ := List.getElem_of_mem hv
      obtain ⟨c2, hc2, rfl⟩ := rel i v (by rw [List.getElem?_eq_getElem hi, e])
      exact hc2
  rw [List.length_map] at lvs
  rw [strs_ones] at e2
  refine v_join e2 (by rw [flat_ones]; omega) ?_
  rw [flat_ones]
  exact k w2 H2 hw2 (by omega) (fun b o hb nb => k2 _ _ (k1 _ _ hb nb) nb) (p2.mono (by omega))
end
end
section
open PySem PySem.Spec L2
theorem s_asgSub {te to ti : TE} {D : Ends} {σ : L2.St} {H : Hp} (q : te σ H fun v H1 => to σ H1 fun o H2 => ti σ H2 fun i H3 => rSetL o i v H3 fun H4 => D.nx σ H4) : tAsg te (gSub to ti rSetL) D σ H := q
theorem v_setLs {H : Hp} {Q : Hp → Prop} {p : Addr} {xs : List V} {j : Nat} {v : V} (h : H p = some (.lst xs)) (hj : j < xs.length) (q : ∀ H', Keep p H H' → H' p = some (.lst (xs.set j v)) → Q H') : rSetL (.ref p) (.int (j : Nat)) v H Q := by
  refine ⟨p, xs, j, j, rfl, rfl, h, ?_, q _ (fun b o hb nb => by rw [upd_ne nb]; exact hb) upd_same⟩
  unfold ixN
  rw [if_pos (by omega), if_pos (by omega)]
  rfl
theorem vecV_get {ls : List Nat} {v : Nat → Int} {i : Nat} (h : i < ls.length) : (vecV ls v)[i]? = some (.int (v (ls.getD i 0))) := by
  unfold vecV
  rw [List.getElem?_map, List.getD_eq_getElem?_getD, List.getElem?_eq_getElem h]
  rfl
theorem vecV_congr {ls : List Nat} {u v : Nat → Int} (h : ∀ x ∈ ls, u x = v x) : vecV ls u = vecV ls v := List.map_congr_left fun x hx => by rw [h x hx]
theorem vecV_set {ls : List Nat} {v : Nat → Int} {d : Nat} {z : Int} (hn : ls.Nodup) (hd : d ∈ ls) : (vecV ls v).set (ixOf ls d) (.int z) = vecV ls fun x => if x = d then z else v x := by
  obtain ⟨hi, hg⟩ := ixOf_get hd
  apply List.ext_getElem?
  intro j
  rw [List.getElem?_set]
  by_cases h : ixOf ls d = j
  · subst h
    rw [if_pos rfl, if_pos (by rw [vecV_len]; exact hi), vecV_get hi, hg, if_pos rfl]
  · rw [if_neg h]
    by_cases hj : j < ls.length
    · rw [vecV_get hj, vecV_get hj, if_neg fun e => h (getD_inj hn hi hj (by rw [hg, e]))]
    · rw [List.getElem?_eq_none (by rw [vecV_len]; omega), List.getElem?_eq_none (by rw [vecV_len]; omega)]
theorem walk_lstM {K : PySem.W.Frag} {a : Addr} {ls : List Nat} {f : Nat → V} : Walk (Itl K a) ls.length (fun H => SqL K H a (ls.map f)) (YFn fun k => f (ls.getD k 0)) := by
  have w := walk_list (K := K) (a := a) (xs := ls.map f)
  rw [List.length_map] at w
  refine w.mono (fun _ z => z) fun i H x H' hi _ y => ?_
  obtain ⟨rfl, e⟩ := y
  rw [List.getElem?_map, List.getElem?_eq_getElem hi] at e
  refine ⟨rfl, ?_⟩
  injection e with e
  show x = f (ls.getD i 0)
  rw [List.getD_eq_getElem?_getD, List.getElem?_eq_getElem hi]
  exact e.symm
def spTurned : Sp := fun vs H Q _ => ∃ (q p : Addr) (ls : List Nat) (f : Nat → List Nat) (d : Nat) (v : Nat → Int), vs = [.ref q, .ref p, .str (tx [d])] ∧ FloorAt H q ls f ∧ FlE ls f ∧ H p = some (.lst (vecV ls v)) ∧ d ∈ ls ∧
  ∀ p' H', H p' = none → Same H H' → H' p' = some (.lst (vecV ls (trn f ls d v))) → Q (.ref p') H'
def spIsBey : Sp := fun vs H Q _ => ∃ (q p : Addr) (ls : List Nat) (f : Nat → List Nat) (W w : List Nat) (s : Nat), vs = [.ref q, .ref p, .str (tx w)] ∧ FloorAt H q ls f ∧ FlE ls f ∧ H p = some (.lst (vecV ls (mark f W s))) ∧ (∀ c ∈ W, c ∈ ls) ∧ (∀ c ∈ w, c ∈ ls) ∧ s ∈ ls ∧
  ∀ H', Same H H' → Q (.bl (decide (∃ x ∈ ls, mark f (W ++ w) s x < 0))) H'
def spRootOf : Sp := fun vs H Q _ => ∃ (q : Addr) (ls : List Nat) (f : Nat → List Nat) (a : List Nat) (s : Nat), vs = [.ref q, .str (tx a), .str (tx [s])] ∧ FloorAt H q ls f ∧ FlE ls f ∧ (∀ c ∈ a, c ∈ ls) ∧ a.length ≤ 100000 ∧ s ∈ ls ∧
  ∀ p' H', H p' = none → Same H H' → H' p' = some (.lst (vecV ls (posM f ls a s))) → Q (.ref p') H'
structure TxtG2 (K : PySem.W.Frag) (mg : Str → Option Value) : Prop extends TxtF K mg where
section
variable {P : Program} {w : World} {K : PySem.W.Frag} {mg : Str → Option Value} {base : Heap} {C R O : Addr}
abbrev stturned : Stmt := (top 86)
abbrev Nturned : List Str := ["_law_floor", "_law_vector", "_law_letter", "_law_spot", "_law_found", "_law_part", "_law_at"]
theorem scturned : FnScope Nturned ["_law_floor", "_law_vector", "_law_letter"] (defScope stturned) := ⟨rfl, rfl, rfl, by decide +kernel, rfl, by decide +kernel, by decide +kernel⟩

theorem ok_turned (F : FnAt K mg "_law_turned" stturned) (T : TxtF K mg) : Def P w K mg base CX0 1 "_law_turned" ["_law_floor", "_law_vector", "_law_letter"] spTurned := by
  refine F.ok scturned (fun _ _ _ _ _ _ us hl => match us, hl with | [_, _, _], _ => rfl) (fun vs H Q E h => ?_) (fun f cdv A outer s H vs Q E hr h => ?_)
  · obtain ⟨q, p, ls, f, d, v, rfl, _⟩ := h
    rfl
  obtain ⟨q, p, ls, fn, d, v, rfl, fl, fe, hp, hd, k⟩ := h
  have hu := hu_of hr
  have nd := scturned.nd
  refine ⟨_, (pss_cons (ps_set (i := 3) nd rfl (Or.inl rfl) (pe_index (pe_dget hu (pv 0) pe_str (fun _ _ => rfl)) (pv 2)))
      (pss_cons (ps_par (i := 4) (j := 5) (by rfl) nd rfl rfl (by decide) rfl rfl (pa_cons (pe_callTy (c_listK (K := K) rfl) (by rfl) T.list (by decide +kernel) (pa_cons (pv 1) pa_nil)) (pa_cons (pe_un un_neg (pe_ix (ix_LK (K := K) rfl) (pv 1) (pv 3) (fun _ _ => rfl))) pa_nil)) (by rfl))
      (pss_cons (ps_for PassesOwn.never rfl (pi_range1 (by rfl) T.range (pa_cons (pe_callB (c_lenK (K := K) rfl) (by rfl) T.len PySem.boot_len (pa_cons (pv 1) pa_nil)) pa_nil)) (pg_name (i := 6) nd rfl (Or.inl rfl))
      (pss_one (ps_if (PW.pt (pw_and (pt_cmpR op_ne (pv 6) (pv 3) (nomark _)) (pw_and1 (pt_cmpR op_notInS (pe_ix ix_str (pe_dget hu (pv 0) pe_str (fun _ _ => rfl)) (pv 6) (fun _ _ => rfl)) (pe_dget hu (pe_dget hu (pv 0) pe_str (fun _ _ => rfl)) (pv 2) (fun _ _ => rfl)) (by rfl)))))
        (pss_one (ps_set (i := 5) nd rfl (Or.inl rfl) (pe_op op_add (pv 5) (pe_op op_mul pe_int (pe_ix (ix_LK (K := K) rfl) (pv 1) (pv 6) (fun _ _ => rfl))))))
        pss_nil)))
      (pss_cons (ps_asg (pv 5) (pg_sub (pv 4) (pv 3) set_list))
      (pss_one (ps_ret (pv 4))))))), ?_⟩
  refine s_start [some _, some _, some _, none, none, none, none] rfl ?_
  obtain ⟨dd, fa, fb⟩ := fl.ex
  have l8 := fe.tab.len
  have l1 : (vecV ls v).length = ls.length := vecV_len ls v
  obtain ⟨hx0, hg⟩ := ixOf_get hd
  walk_at "go"
  refine v_dget (fl_kinds fa) ?_
  walk_at "go"
  refine v_index hd ?_
  walk_at "go"
  refine v_list (SqL.of hp) fun p1 H1 hp1 s1 e1 => ?_
  walk_at "go"
  refine v_ixL (s1 _ _ hp) (at_of (j := ixOf ls d) rfl (vecV_get hx0)) ?_
  rw [hg]
  walk_at "go"
  refine ⟨_, rfl, ?_⟩
  walk_at "go"
  have hp1' := s1 _ _ hp
  have fa1 := s1 _ _ fa
  have fb1 := s1 _ _ fb
  refine for_it (walk_rI (fun i => ((i : Nat) : Int)) (fun k => Int.zero_add _)) (fun i σ H' => ∃ x6, σ = [some (.ref q), some (.ref p), some (.str (tx [d])), some (.int ((ixOf ls d : Nat) : Int)), some (.ref p1), some (.int (pL fn d v (ls.take i) (- v d))), x6] ∧ H' = H1) ⟨_, rfl, rfl⟩ (fun _ _ _ _ _ => trivial) ?_ ?_
  · rintro i y σ H2 H3 hi ⟨x6, rfl, rfl⟩ ⟨rfl, rfl⟩
    have hi' : i < ls.length := by omega
    have tk : ls.take (i + 1) = ls.take i ++ [ls.getD i 0] := take_getD hi'
    have hx : ls.getD i 0 ∈ ls := getD_mem hi'
    have same : V.int (i : Nat) = V.int ((ixOf ls d : Nat) : Int) ↔ ls.getD i 0 = d := ⟨fun e => by
      have : i = ixOf ls d := by
        injection e with e
        omega
      rw [this, hg], fun e => by
      have := getD_inj fe.tab.nd hi' hx0 (by rw [hg, e])
      rw [this]⟩
    walk_at "go"
    refine if_ndec (fun c => ?_) (fun c => ?_)
    · walk_at "go"
      refine v_dget (fl_kinds fa1) ?_
      walk_at "go"
      refine v_ixS (by omega) (at_getD hi') ?_
      walk_at "go"
      refine v_dget (fl_cross fa1) ?_
      walk_at "go"
      refine v_dget (tab_get fb1 hd) ?_
      walk_at "go"
      refine if_ndec (fun c2 => ?_) (fun c2 => ?_)
      · walk_at "go"
        refine v_ixL hp1' (at_of (j := i) rfl (vecV_get hi')) ?_
        walk_at "go"
        refine ⟨some (.int (i : Nat)), ?_, rfl⟩
        rw [tk, pL_snoc, if_neg fun z => z.elim (fun e => c (same.mpr e)) c2]
        rfl
      · walk_at "go"
        refine ⟨some (.int (i : Nat)), ?_, rfl⟩
        rw [tk, pL_snoc, if_pos (.inr c2)]
        rfl
    · walk_at "go"
      refine ⟨some (.int (i : Nat)), ?_, rfl⟩
      rw [tk, pL_snoc, if_pos (.inl (same.mp c))]
      rfl
  rintro σ H2 ⟨x6, rfl, rfl⟩
  rw [show ((vecV ls v).length : Int).toNat = ls.length by omega, List.take_of_length_le (Nat.le_refl _)]
  walk_at "go"
  refine s_asgSub ?_
  walk_at "go"
  refine v_setLs e1 (by omega) fun H3 k3 e3 => ?_
  walk_at "go"
  rw [vecV_set fe.tab.nd hd] at e3
  refine k p1 H3 hp1 (fun b o hb => k3 _ _ (s1 _ _ hb) (ne_of_none hb hp1)) ?_
  rw [e3]
  rfl
abbrev stisbey : Stmt := (top 88)
abbrev Nisbey : List Str := ["_law_floor", "_law_beam", "_law_way", "_law_vector", "_law_letter", "_law_part"]
theorem scisbey : FnScope Nisbey ["_law_floor", "_law_beam", "_law_way"] (defScope stisbey) := ⟨rfl, rfl, rfl, by decide +kernel, rfl, by decide +kernel, by decide +kernel⟩

theorem ok_isbey (F : FnAt K mg "_law_is_beyond" stisbey) (T : TxtF K mg) (D_turned : Def P w K mg base CX0 1 "_law_turned" ["_law_floor", "_law_vector", "_law_letter"] spTurned) : Def P w K mg base CX0 2 "_law_is_beyond" ["_law_floor", "_law_beam", "_law_way"] spIsBey := by
  refine F.ok scisbey (fun _ _ _ _ _ _ us hl => match us, hl with | [_, _, _], _ => rfl) (fun vs H Q E h => ?_) (fun f cdv A outer s H vs Q E hr h => ?_)
  · obtain ⟨q, p, ls, f, W, w, s, rfl, _⟩ := h
    rfl
  obtain ⟨q, p, ls, fn, W, w, s0, rfl, fl, fe, hp, hW, hw, hs, k⟩ := h
  have hu := hu_of hr
  have nd := scisbey.nd
  refine ⟨_, (pss_cons (ps_set (i := 3) nd rfl (Or.inl rfl) (pe_callTy (c_listK (K := K) rfl) (by rfl) T.list (by decide +kernel) (pa_cons (pv 1) pa_nil)))
      (pss_cons (ps_for PassesOwn.never rfl (pi_str (pv 2)) (pg_name (i := 4) nd rfl (Or.inl rfl))
      (pss_one (ps_set (i := 3) nd rfl (Or.inl rfl) (pe_cd D_turned hr pass0 (pa_cons (pv 0) (pa_cons (pv 3) (pa_cons (pv 4) pa_nil)))))))
      (pss_one (ps_ret (pe_cmpR op_lt (pe_callB (cr_minK (K := K) rfl rfl) (by rfl) T.min (by decide +kernel) (pa_cons (pe_lc (own := [("_law_part", 5)]) (g := gName 5) (by rfl) nd (pi_listK (K := K) rfl (pv 3)) (blkOk_by (own := [("_law_part", 5)]) (N := Nisbey) (sc := defScope stisbey) (by decide +kernel)) (fun _ _ _ _ _ => (pg_name (i := 5) nd rfl (Or.inl rfl))) (fun _ _ _ _ _ => pts_nil) (fun _ _ _ _ _ => (pe_callTy c_int (by rfl) T.int (by decide +kernel) (pa_cons (pv 5) pa_nil)))) pa_nil)) pe_int (nomark _)))))), ?_⟩
  refine s_start [some _, some _, some _, none, none, none] rfl ?_
  have l8 := fe.tab.len
  walk_at "go"
  refine v_list (SqL.of hp) fun p1 H1 hp1 s1 e1 => ?_
  walk_at "go"
  refine for_it (walk_tx w) (fun i σ H' => ∃ p1 x4, σ = [some (.ref q), some (.ref p), some (.str (tx w)), some (.ref p1), x4, none] ∧ Same H H' ∧ H' p1 = some (.lst (vecV ls (mark fn (W ++ w.take i) s0)))) ⟨_, _, rfl, s1, by rw [List.take_zero, List.append_nil]; exact e1⟩ (fun _ _ _ _ _ => trivial) ?_ ?_
  · rintro i y σ H2 H3 hi ⟨p1, x4, rfl, s2, e2⟩ ⟨rfl, rfl⟩
    have hd : w.getD i 0 ∈ ls := hw _ (getD_mem hi)
    walk_at "go"
    refine ⟨q, p1, ls, fn, _, _, rfl, fl.same s2, fe, e2, hd, fun p2 H4 hp2 s4 e4 => ?_⟩
    walk_at "go"
    refine ⟨p2, _, rfl, s2.trans s4, ?_⟩
    rw [e4, take_getD hi, ← List.append_assoc]
    have hz : ∀ y ∈ W ++ w.take i, y ∈ ls := fun y hy => (List.mem_append.mp hy).elim (hW y) fun h => hw y (List.mem_of_mem_take h)
    rw [vecV_congr fun x hx => trn_mark fe.tab.nd fe.ok hz hs hd hx]
  rintro σ H2 ⟨p1, x4, rfl, s2, e2⟩
  rw [List.take_of_length_le (Nat.le_refl _)] at e2
  have lne : 0 < ls.length := by
    cases ls with
    | nil => cases hs
    | cons _ _ => simp
  walk_at "go"
  refine vals_all (ls := ls) (it := fun x => V.int (mark fn (W ++ w) s0 x)) (f := fun x => V.int (mark fn (W ++ w) s0 x)) (walk_lstM (ls := ls) (f := fun x => V.int (mark fn (W ++ w) s0 x))) (fun H' s' => SqL.of (s' _ _ e2)) (by omega) (fun y hy H5 s5 R r => ?_) (fun y hy H5 s5 R r => ?_) (fun D H5 hD s5 e5 => ?_)
  · exact r H5 (Same.refl _)
  · walk_at "go"
    exact r H5 (Same.refl _)
  walk_at "go"
  have e6 : H5 D = some (.lst ((ls.map (mark fn (W ++ w) s0)).map V.int)) := by
    rw [e5, List.map_map]
    rfl
  refine ⟨D, _, rfl, SqL.of e6, by rw [List.length_map]; exact lne, fun z hz hle => ?_⟩
  walk_at "go"
  have e7 : decide (z < 0) = decide (∃ x ∈ ls, mark fn (W ++ w) s0 x < 0) := by
    refine decide_eq_decide.mpr ⟨fun h => ?_, fun h => ?_⟩
    · obtain ⟨x, hx, e⟩ := List.mem_map.mp hz
      exact ⟨x, hx, by omega⟩
    · obtain ⟨x, hx, e⟩ := h
      have := hle (mark fn (W ++ w) s0 x) (List.mem_map.mpr ⟨x, hx, rfl⟩)
      omega
  rw [e7]
  exact k H5 (s2.trans s5)
abbrev strootof : Stmt := (top 87)
abbrev Nrootof : List Str := ["_law_floor", "_law_way", "_law_kind", "_law_vector", "_law_letter", "_law_other", "_law_part"]
theorem scrootof : FnScope Nrootof ["_law_floor", "_law_way", "_law_kind"] (defScope strootof) := ⟨rfl, rfl, rfl, by decide +kernel, rfl, by decide +kernel, by decide +kernel⟩

theorem ok_rootof (F : FnAt K mg "_law_root_of" strootof) (T : TxtF K mg) (D_turned : Def P w K mg base CX0 1 "_law_turned" ["_law_floor", "_law_vector", "_law_letter"] spTurned) : Def P w K mg base CX0 2 "_law_root_of" ["_law_floor", "_law_way", "_law_kind"] spRootOf := by
  refine F.ok scrootof (fun _ _ _ _ _ _ us hl => match us, hl with | [_, _, _], _ => rfl) (fun vs H Q E h => ?_) (fun f cdv A outer s H vs Q E hr h => ?_)
  · obtain ⟨q, ls, f, a, s, rfl, _⟩ := h
    rfl
  obtain ⟨q, ls, fn, a, s0, rfl, fl, fe, ha, la, hs, k⟩ := h
  have hu := hu_of hr
  have nd := scrootof.nd
  refine ⟨_, (pss_cons (ps_setLc (i := 3) (own := [("_law_other", 5)]) (g := gName 5) (by rfl) nd rfl rfl (sw_true rfl rfl rfl (by decide +kernel)) (pi_str (pe_dget hu (pv 0) pe_str (fun _ _ => rfl))) (blkOk_by (own := [("_law_other", 5)]) (N := Nrootof) (sc := defScope strootof) (by decide +kernel)) (fun _ _ _ _ _ => (pg_name (i := 5) nd rfl (Or.inl rfl))) (fun _ _ _ _ _ => pts_nil) (fun _ _ _ _ _ => (pe_callTy c_int (by rfl) T.int (by decide +kernel) (pa_cons (pe_cmpR op_eq (pv 5) (pv 2) (nomark _)) pa_nil))))
      (pss_cons (ps_for PassesOwn.never rfl (pi_str (pe_revS (pv 1))) (pg_name (i := 4) nd rfl (Or.inl rfl))
      (pss_one (ps_set (i := 3) nd rfl (Or.inl rfl) (pe_cd D_turned hr pass0 (pa_cons (pv 0) (pa_cons (pv 3) (pa_cons (pv 4) pa_nil)))))))
      (pss_cons (ps_if (pt_cmpR op_lt (pe_callB (cr_minK (K := K) rfl rfl) (by rfl) T.min (by decide +kernel) (pa_cons (pe_lc (own := [("_law_part", 6)]) (g := gName 6) (by rfl) nd (pi_listK (K := K) rfl (pv 3)) (blkOk_by (own := [("_law_part", 6)]) (N := Nrootof) (sc := defScope strootof) (by decide +kernel)) (fun _ _ _ _ _ => (pg_name (i := 6) nd rfl (Or.inl rfl))) (fun _ _ _ _ _ => pts_nil) (fun _ _ _ _ _ => (pe_callTy c_int (by rfl) T.int (by decide +kernel) (pa_cons (pv 6) pa_nil)))) pa_nil)) pe_int (nomark _))
      (pss_one (ps_ret (pe_lc (own := [("_law_part", 6)]) (g := gName 6) (by rfl) nd (pi_listK (K := K) rfl (pv 3)) (blkOk_by (own := [("_law_part", 6)]) (N := Nrootof) (sc := defScope strootof) (by decide +kernel)) (fun _ _ _ _ _ => (pg_name (i := 6) nd rfl (Or.inl rfl))) (fun _ _ _ _ _ => pts_nil) (fun _ _ _ _ _ => (pe_un un_neg (pv 6))))))
      pss_nil)
      (pss_one (ps_ret (pv 3)))))), ?_⟩
  refine s_start [some _, some _, some _, none, none, none, none] rfl ?_
  have l8 := fe.tab.len
  have lne : 0 < ls.length := by
    cases ls with
    | nil => cases hs
    | cons _ _ => simp
  obtain ⟨dd, fa, fb⟩ := fl.ex
  walk_at "go"
  refine v_dget (fl_kinds fa) ?_
  walk_at "go"
  refine v_lcS (l := ls) (b := fun _ => true) (f := fun c => V.int (unit c s0)) (by omega) (fun c _ Ha sa R r => ?_) (fun c _ _ Ha sa R r => ?_) (fun D H1 hD s1 e1 => ?_)
  · walk_at "go"
    exact r Ha (Same.refl _)
  · walk_at "go"
    have e : (if decide (V.str (tx [c]) = V.str (tx [s0])) = true then (1 : Int) else 0) = unit c s0 := by
      unfold unit
      by_cases h : s0 = c
      · rw [if_pos h, if_pos (decide_eq_true (by rw [h]))]
      · rw [if_neg h, if_neg (by
          rw [dec_tx, decide_eq_true_iff]
          intro z
          injection z with z
          exact h z.symm)]
    rw [e]
    exact r Ha (Same.refl _)
  rw [filter_yes] at e1
  have e1 : H1 D = some (.lst (vecV ls (mark fn [] s0))) := e1
  walk_at "go"
  refine for_it (walk_tx a.reverse) (fun i σ H' => ∃ p1 x4, σ = [some (.ref q), some (.str (tx a)), some (.str (tx [s0])), some (.ref p1), x4, none, none] ∧ H p1 = none ∧ Same H H' ∧ H' p1 = some (.lst (vecV ls (mark fn (a.reverse.take i) s0)))) ⟨_, _, rfl, hD, s1, e1⟩ (fun _ _ _ _ _ => trivial) ?_ ?_
  · rintro i y σ H2 H3 hi ⟨p1, x4, rfl, h1, s2, e2⟩ ⟨rfl, rfl⟩
    have hd : a.reverse.getD i 0 ∈ ls := ha _ (List.mem_reverse.mp (getD_mem hi))
    walk_at "go"
    refine ⟨q, p1, ls, fn, _, _, rfl, fl.same s2, fe, e2, hd, fun p2 H4 hp2 s4 e4 => ?_⟩
    walk_at "go"
    refine ⟨p2, _, rfl, L2.Same.free s2 hp2, s2.trans s4, ?_⟩
    rw [e4, take_getD hi]
    have hz : ∀ y ∈ a.reverse.take i, y ∈ ls := fun y hy => ha y (List.mem_reverse.mp (List.mem_of_mem_take hy))
    rw [vecV_congr fun x hx => trn_mark fe.tab.nd fe.ok hz hs hd hx]
  rintro σ H2 ⟨p1, x4, rfl, h1, s2, e2⟩
  rw [List.take_of_length_le (Nat.le_refl _)] at e2
  walk_at "go"
  refine vals_all (ls := ls) (it := fun x => V.int (mark fn a.reverse s0 x)) (f := fun x => V.int (mark fn a.reverse s0 x)) (walk_lstM (ls := ls) (f := fun x => V.int (mark fn a.reverse s0 x))) (fun H' s' => SqL.of (s' _ _ e2)) (by omega) (fun y hy H5 s5 R r => ?_) (fun y hy H5 s5 R r => ?_) (fun D H5 hD s5 e5 => ?_)
  · exact r H5 (Same.refl _)
  · walk_at "go"
    exact r H5 (Same.refl _)
  walk_at "go"
  have e6 : H5 D = some (.lst ((ls.map (mark fn a.reverse s0)).map V.int)) := by
    rw [e5, List.map_map]
    rfl
  have e25 := s5 _ _ e2
  refine ⟨D, _, rfl, SqL.of e6, by rw [List.length_map]; exact lne, fun z hz hle => ?_⟩
  walk_at "go"
  have e7 : z < 0 ↔ ∃ x ∈ ls, act fn a.reverse (unit x) s0 < 0 := by
    refine ⟨fun h => ?_, fun h => ?_⟩
    · obtain ⟨x, hx, e⟩ := List.mem_map.mp hz
      refine ⟨x, hx, ?_⟩
      have e : act fn a.reverse (unit x) s0 = z := e
      omega
    · obtain ⟨x, hx, e⟩ := h
      have := hle (mark fn a.reverse s0 x) (List.mem_map.mpr ⟨x, hx, rfl⟩)
      have this : z ≤ act fn a.reverse (unit x) s0 := this
      omega
  refine if_dec (fun c => ?_) (fun c => ?_)
  · walk_at "go"
    refine vals_all (ls := ls) (it := fun x => V.int (mark fn a.reverse s0 x)) (f := fun x => V.int (- mark fn a.reverse s0 x)) (walk_lstM (ls := ls) (f := fun x => V.int (mark fn a.reverse s0 x))) (fun H' s' => SqL.of (s' _ _ e25)) (by omega) (fun y hy H6 s6 R r => ?_) (fun y hy H6 s6 R r => ?_) (fun D2 H6 hD2 s6 e6 => ?_)
    · exact r H6 (Same.refl _)
    · walk_at "go"
      exact ⟨_, rfl, r H6 (Same.refl _)⟩
    refine k D2 H6 (L2.Same.free s2 (L2.Same.free s5 hD2)) ((s2.trans s5).trans s6) ?_
    rw [e6]
    unfold posM
    rw [if_pos (e7.mp c)]
    rfl
  · walk_at "go"
    refine k p1 H5 h1 (s2.trans s5) ?_
    rw [e25]
    unfold posM
    rw [if_neg fun z => c (e7.mpr z)]
    rfl
end
end
section
open PySem PySem.Spec L2
def spSplit (C : Addr) : Sp := fun vs H Q _ => ∃ (x : Addr) (ks : List Nat) (ps : List (List Nat)) (way kinds : List Nat), vs = [.ref x, .str (tx way), .str (tx kinds)] ∧ PlanAt C H x ks ps ∧ (∀ c ∈ way, c ∈ ks) ∧ kinds.length ≤ 1000 ∧ way.length ≤ 100000 ∧
  ∀ p H', H p = none → Same H H' → H' p = some (.tup [.str (tx (splitA (crossOf ks ps) kinds way).1), .str (tx (splitA (crossOf ks ps) kinds way).2)]) → Q (.ref p) H'
def spNoEnd (C : Addr) : Sp := fun vs H Q _ => ∃ (x : Addr) (ks : List Nat) (ps : List (List Nat)) (way kinds : List Nat), vs = [.ref x, .str (tx way), .str (tx kinds)] ∧ PlanAt C H x ks ps ∧ (∀ c ∈ way, c ∈ ks) ∧ kinds.length ≤ 1000 ∧ way.length ≤ 100000 ∧
  ∀ H', Same H H' → Q (.str (tx (splitA (crossOf ks ps) kinds way.reverse).2.reverse)) H'
def nearOf (ks : List Nat) (ps : List (List Nat)) (name : List Nat) (k : Nat) : List Nat := if k ∈ firstsOf ks ps name.reverse then stepOf (crossOf ks ps k) name k else name
def startOf (ks : List Nat) (ps : List (List Nat)) (name : List Nat) (k : Nat) : List Nat := (splitA (crossOf ks ps) (crossOf ks ps k) (nearOf ks ps name k).reverse).2.reverse
def spStart (C : Addr) : Sp := fun vs H Q _ => ∃ (x : Addr) (ks : List Nat) (ps : List (List Nat)) (name : List Nat) (k : Nat), vs = [.ref x, .str (tx name), .str (tx [k])] ∧ PlanAt C H x ks ps ∧ (∀ c ∈ name, c ∈ ks) ∧ k ∈ ks ∧ ks.length ≤ 1000 ∧ name.length ≤ 50000 ∧
  ∀ H', Same H H' → Q (.str (tx (startOf ks ps name k))) H'
theorem nearOf_len (ks : List Nat) (ps : List (List Nat)) (name : List Nat) (k : Nat) : (nearOf ks ps name k).length ≤ name.length + 1 := by
  unfold nearOf
  split
  · exact stepOf_len _ _ _
  · omega
theorem nearOf_mem {ks : List Nat} {ps : List (List Nat)} {name : List Nat} {k c : Nat} (h : c ∈ nearOf ks ps name k) : c = k ∨ c ∈ name := by
  unfold nearOf at h
  split at h
  · exact stepOf_mem h
  · exact .inr h
theorem startOf_mem {ks : List Nat} {ps : List (List Nat)} {name : List Nat} {k c : Nat} (h : c ∈ startOf ks ps name k) : c = k ∨ c ∈ name := nearOf_mem (List.mem_reverse.mp (splitA_mem2 _ _ _ c (List.mem_reverse.mp h)))
theorem startOf_len (ks : List Nat) (ps : List (List Nat)) (name : List Nat) (k : Nat) : (startOf ks ps name k).length ≤ name.length + 1 := by
  unfold startOf
  have h1 := splitA_len (crossOf ks ps) (nearOf ks ps name k).reverse (crossOf ks ps k)
  have h2 := nearOf_len ks ps name k
  rw [List.length_reverse] at *
  omega
theorem splitA_yes {f : Nat → List Nat} {k : Nat} {free r : List Nat} (h : k ∈ free) : splitA f free (k :: r) = (k :: (splitA f free r).1, (splitA f free r).2) := by
  conv => lhs; unfold splitA
  exact if_pos h
theorem splitA_no {f : Nat → List Nat} {k : Nat} {free r : List Nat} (h : ¬ k ∈ free) : splitA f free (k :: r) = ((splitA f (free.filter fun o => decide (o ∈ f k)) r).1, k :: (splitA f (free.filter fun o => decide (o ∈ f k)) r).2) := by
  conv => lhs; unfold splitA
  exact if_neg h
/-! ### walls -/
def wallF (x : Addr) (k : Nat) (r : Addr) : List (Str × V) := putF "room" (.ref r) (putF "kind" (.str (tx [k])) (putF "plan" (.ref x) []))
theorem nwpk : ¬ (("plan" : Str) = "kind") := by decide +kernel
theorem nwpr : ¬ (("plan" : Str) = "room") := by decide +kernel
theorem nwkr : ¬ (("kind" : Str) = "room") := by decide +kernel
theorem wallF_p {x r : Addr} {k : Nat} : (wallF x k r).lookup ("plan" : Str) = some (.ref x) := by
  unfold wallF
  rw [lookup_putF, if_neg nwpr, lookup_putF, if_neg nwpk, lookup_putF, if_pos rfl]
theorem wallF_k {x r : Addr} {k : Nat} : (wallF x k r).lookup ("kind" : Str) = some (.str (tx [k])) := by
  unfold wallF
  rw [lookup_putF, if_neg nwkr, lookup_putF, if_pos rfl]
theorem wallF_r {x r : Addr} {k : Nat} : (wallF x k r).lookup ("room" : Str) = some (.ref r) := by
  unfold wallF
  rw [lookup_putF, if_pos rfl]
theorem wallF_no {x r : Addr} {k : Nat} {m : Str} (h1 : ¬ m = "plan") (h2 : ¬ m = "kind") (h3 : ¬ m = "room") : (wallF x k r).lookup m = none := by
  unfold wallF
  rw [lookup_putF, if_neg h3, lookup_putF, if_neg h2, lookup_putF, if_neg h1]
  rfl
/-- a wall stands at a; its room, which has the name m, at r -/
structure WallAt (W R : Addr) (H : Hp) (a r x : Addr) (k : Nat) (m : List Nat) : Prop where
  ex : ∃ dx, H a = some (.ins W dx (wallF x k r))
  ro : RoomAt R H r x m
theorem WallAt.same {W R : Addr} {H H' : Hp} {a r x : Addr} {k : Nat} {m : List Nat} (h : WallAt W R H a r x k m) (s : Same H H') : WallAt W R H' a r x k m := by
  obtain ⟨⟨dx, e⟩, ro⟩ := h
  exact ⟨⟨dx, s _ _ e⟩, ro.same s⟩
structure TxtW (K : PySem.W.Frag) (mg : Str → Option Value) (C R O W : Addr) : Prop extends TxtR K mg C R O where
  Wall : ClsF K mg "Wall" W
  nWp : NoAttr K W "plan"
  nWk : NoAttr K W "kind"
  nWr : NoAttr K W "room"
def spWall0 (C R W : Addr) : Sp := fun vs H Q _ => ∃ (a dx r x : Addr) (ks : List Nat) (ps : List (List Nat)) (name : List Nat) (k : Nat), vs = [.ref a, .ref r, .str (tx [k])] ∧ H a = some (.ins W dx []) ∧ RoomAt R H r x name ∧ PlanAt C H x ks ps ∧ (∀ c ∈ name, c ∈ ks) ∧ k ∈ ks ∧ ks.length ≤ 1000 ∧ name.length < 2000 ∧
  ∀ r' H', Keep a H H' → WallAt W R H' a r' x k (joinOf ks ps [] (startOf ks ps name k)) → Q .non H'
def spWall (C R W : Addr) : Sp := fun vs H Q _ => ∃ (r x : Addr) (ks : List Nat) (ps : List (List Nat)) (name : List Nat) (k : Nat), vs = [.ref r, .str (tx [k])] ∧ RoomAt R H r x name ∧ PlanAt C H x ks ps ∧ (∀ c ∈ name, c ∈ ks) ∧ k ∈ ks ∧ ks.length ≤ 1000 ∧ name.length < 2000 ∧
  ∀ a r' H', H a = none → Same H H' → WallAt W R H' a r' x k (joinOf ks ps [] (startOf ks ps name k)) → Q (.ref a) H'
theorem conv_wall (C R W : Addr) : Conv W (spWall0 C R W) (spWall C R W) := by
  rintro vs H Q E ⟨r, x, ks, ps, name, k, rfl, hr, hp, h1, h2, h3, h4, q⟩ a dx hx hdx hne
  have s0 : Same H (upd (upd H dx (.own a)) a (.ins W dx [])) := fun b o hb => by
    rw [upd_ne (ne_of_none hb hx), upd_ne (ne_of_none hb hdx)]
    exact hb
  refine ⟨a, dx, r, x, ks, ps, name, k, rfl, upd_same, hr.same s0, hp.same s0, h1, h2, h3, h4, fun r' H' s' z => ⟨rfl, q a r' H' hx (fun b o hb => ?_) z⟩⟩
  exact s' b o (s0 _ _ hb) (ne_of_none hb hx)
section
variable {P : Program} {w : World} {K : PySem.W.Frag} {mg : Str → Option Value} {base : Heap} {C R O W : Addr}
abbrev stsplit_ahead : Stmt := (top 21)
abbrev Nsplit_ahead : List Str := ["plan", "way", "kinds", "begun", "rest", "free", "at", "kind"]
theorem scsplit_ahead : FnScope Nsplit_ahead ["plan", "way", "kinds"] (defScope stsplit_ahead) := ⟨rfl, rfl, rfl, by decide +kernel, rfl, by decide +kernel, by decide +kernel⟩

theorem ok_split_ahead (F : FnAt K mg "split_ahead" stsplit_ahead) (T : TxtR K mg C R O) (D_still_free : Def P w K mg base CX0 1 "still_free" ["plan", "kinds", "kind"] (spFree C)) : Def P w K mg base CX0 2 "split_ahead" ["plan", "way", "kinds"] (spSplit C) := by
  refine F.ok scsplit_ahead (fun _ _ _ _ _ _ us hl => match us, hl with | [_, _, _], _ => rfl) (fun vs H Q E h => ?_) (fun f cdv A outer s H vs Q E hr h => ?_)
  · obtain ⟨x, ks, ps, way, kinds, rfl, _⟩ := h
    rfl
  obtain ⟨x, ks, ps, way, kinds, rfl, h1, hw, hk, hl, q⟩ := h
  have hu := hu_of hr
  have nd := scsplit_ahead.nd
  refine ⟨_, (pss_cons (ps_set (i := 3) nd rfl (Or.inl rfl) (pe_tx [] (by decide +kernel)))
      (pss_cons (ps_set (i := 4) nd rfl (Or.inl rfl) (pe_tx [] (by decide +kernel)))
      (pss_cons (ps_set (i := 5) nd rfl (Or.inl rfl) (pv 2))
      (pss_cons (ps_for PassesOwn.never rfl (pi_enumS (by rfl) T.enumerate (pa_cons (pv 1) pa_nil)) (pg_tup rfl (pgs_cons (pg_name (i := 6) nd rfl (Or.inl rfl)) (pgs_cons (pg_name (i := 7) nd rfl (Or.inl rfl)) pgs_nil)))
      (pss_cons (ps_if (pt_cmpR op_eq (pv 5) (pe_tx [] (by decide +kernel)) (nomark _))
        (pss_one (ps_ret (pe_tup (pa_cons (pv 3) (pa_cons (pe_op op_addS (pv 4) (pe_slice sl_S (pv 1) (po_some (pv 6)) po_none)) pa_nil)))))
        pss_nil)
        (pss_one (ps_if (pt_cmpR op_inS (pv 7) (pv 5) (by rfl))
        (pss_one (ps_set (i := 3) nd rfl (Or.inl rfl) (pe_op op_addS (pv 3) (pv 7))))
        (pss_cons (ps_set (i := 4) nd rfl (Or.inl rfl) (pe_op op_addS (pv 4) (pv 7)))
          (pss_one (ps_set (i := 5) nd rfl (Or.inl rfl) (pe_cd D_still_free hr pass0 (pa_cons (pv 0) (pa_cons (pv 5) (pa_cons (pv 7) pa_nil)))))))))))
      (pss_one (ps_ret (pe_tup (pa_cons (pv 3) (pa_cons (pv 4) pa_nil))))))))), ?_⟩
  refine s_start [some _, some _, some _, none, none, none, none, none] rfl ?_
  have sl := splitA_len (crossOf ks ps) way kinds
  walk_at "go"
  refine for_it (walk_enumS way) (fun i σ H' => ∃ bg rs free y z, σ = [some (.ref x), some (.str (tx way)), some (.str (tx kinds)), some (.str (tx bg)), some (.str (tx rs)), some (.str (tx free)), y, z] ∧ Same H H' ∧ free.length ≤ 1000 ∧ splitA (crossOf ks ps) kinds way = (bg ++ (splitA (crossOf ks ps) free (way.drop i)).1, rs ++ (splitA (crossOf ks ps) free (way.drop i)).2)) ⟨[], [], kinds, _, _, rfl, Same.refl _, hk, rfl⟩ (fun _ _ _ _ _ => trivial) ?_ ?_
  · rintro i v σ H2 H3 hi ⟨bg, rs, free, y, z, rfl, s2, lf, e2⟩ ⟨t, c, rfl, ht, rfl, hc⟩
    have s3 : Same H (upd H2 t (.tup [.int (i : Nat), .str (tx [c])])) := s2.trans (Same.new ht)
    refine v_gTup2 rfl upd_same ?_
    generalize upd H2 t (.tup [.int (i : Nat), .str (tx [c])]) = H4 at s3 ⊢
    have l1 : bg.length + rs.length ≤ 100000 := by
      have a1 := congrArg (fun p => p.1.length) e2
      have a2 := congrArg (fun p => p.2.length) e2
      simp only [List.length_append] at a1 a2
      omega
    have hd : way.drop i = c :: way.drop (i + 1) := by
      rw [List.drop_eq_getElem_cons hi]
      congr 1
      rw [List.getElem?_eq_getElem hi] at hc
      injection hc
    walk_at "go"
    rw [dec_tx]
    refine if_dec (fun c1 => ?_) (fun c1 => ?_)
    · subst c1
      rw [splitA_nil, List.append_nil] at e2
      walk_at "go"
      refine v_slFrom (by omega) (by omega) ?_
      have e3 : way.drop ((i : Nat) : Int).toNat = way.drop i := rfl
      rw [e3]
      have l2 : rs.length + (way.drop i).length ≤ 1000000 := by rw [List.length_drop]; omega
      walk_at "go"
      intro p H5 hp s5 e5
      refine q p H5 ?_ (s3.trans s5) ?_
      · exact L2.Same.free s3 hp
      · rw [e2]
        exact e5
    walk_at "go"
    refine if_dec (fun c2 => ?_) (fun c2 => ?_)
    · have l3 : bg.length + [c].length ≤ 1000000 := by rw [List.length_singleton]; omega
      walk_at "go"
      refine ⟨bg ++ [c], rs, free, _, _, rfl, s3, lf, ?_⟩
      rw [e2, hd, splitA_yes c2, List.append_assoc]
      rfl
    · have l3 : rs.length + [c].length ≤ 1000000 := by rw [List.length_singleton]; omega
      walk_at "go"
      have hc2 : c ∈ ks := hw c (List.mem_of_getElem? hc)
      refine ⟨x, ks, ps, free, c, rfl, h1.same s3, hc2, lf, fun H5 s5 => ?_⟩
      have lf2 := filt_len (p := fun o => decide (o ∈ crossOf ks ps c)) (l := free)
      refine ⟨bg, rs ++ [c], _, _, _, rfl, s3.trans s5, by omega, ?_⟩
      rw [e2, hd, splitA_no c2, List.append_assoc]
      rfl
  · rintro σ H2 ⟨bg, rs, free, y, z, rfl, s2, lf, e2⟩
    rw [List.drop_length] at e2
    have e2 : splitA (crossOf ks ps) kinds way = (bg, rs) := by
      rw [e2]
      show (bg ++ [], rs ++ []) = _
      rw [List.append_nil, List.append_nil]
    walk_at "go"
    intro p H5 hp s5 e5
    refine q p H5 ?_ (s2.trans s5) ?_
    · exact L2.Same.free s2 hp
    · rw [e2]
      exact e5
abbrev stwithout_end : Stmt := (top 22)
abbrev Nwithout_end : List Str := ["plan", "way", "kinds", "begun", "rest"]
theorem scwithout_end : FnScope Nwithout_end ["plan", "way", "kinds"] (defScope stwithout_end) := ⟨rfl, rfl, rfl, by decide +kernel, rfl, by decide +kernel, by decide +kernel⟩

theorem ok_without_end (F : FnAt K mg "without_end" stwithout_end) (D_split_ahead : Def P w K mg base CX0 2 "split_ahead" ["plan", "way", "kinds"] (spSplit C)) : Def P w K mg base CX0 3 "without_end" ["plan", "way", "kinds"] (spNoEnd C) := by
  refine F.ok scwithout_end (fun _ _ _ _ _ _ us hl => match us, hl with | [_, _, _], _ => rfl) (fun vs H Q E h => ?_) (fun f cdv A outer s H vs Q E hr h => ?_)
  · obtain ⟨x, ks, ps, way, kinds, rfl, _⟩ := h
    rfl
  obtain ⟨x, ks, ps, way, kinds, rfl, h1, hw, hk, hl, q⟩ := h
  have hu := hu_of hr
  have nd := scwithout_end.nd
  refine ⟨_, (pss_cons (ps_asg (pe_cd D_split_ahead hr pass0 (pa_cons (pv 0) (pa_cons (pe_revS (pv 1)) (pa_cons (pv 2) pa_nil)))) (pg_tup rfl (pgs_cons (pg_name (i := 3) nd rfl (Or.inl rfl)) (pgs_cons (pg_name (i := 4) nd rfl (Or.inl rfl)) pgs_nil))))
      (pss_one (ps_ret (pe_revS (pv 4))))), ?_⟩
  refine s_start [some _, some _, some _, none, none] rfl ?_
  have sl := splitA_len (crossOf ks ps) way.reverse kinds
  rw [List.length_reverse] at sl
  walk_at "go"
  refine ⟨x, ks, ps, way.reverse, kinds, rfl, h1, fun c hc => hw c (List.mem_reverse.mp hc), hk, by rw [List.length_reverse]; exact hl, fun p H2 hp s2 e2 => ?_⟩
  refine v_gTup2 rfl e2 ?_
  have l3 : (splitA (crossOf ks ps) kinds way.reverse).2.length ≤ 1000000 := by omega
  walk_at "go"
  exact q H2 s2
abbrev stwall_start : Stmt := (top 36)
abbrev Nwall_start : List Str := ["plan", "name", "kind"]
theorem scwall_start : FnScope Nwall_start ["plan", "name", "kind"] (defScope stwall_start) := ⟨rfl, rfl, rfl, by decide +kernel, rfl, by decide +kernel, by decide +kernel⟩

theorem ok_wall_start (F : FnAt K mg "wall_start" stwall_start) (T : TxtR K mg C R O) (D_last_kinds : Def P w K mg base CX0 3 "last_kinds" ["plan", "way"] (spLast C)) (D_stepped : Def P w K mg base CX0 1 "stepped" ["plan", "name", "kind"] (spStepped C)) (D_without_end : Def P w K mg base CX0 3 "without_end" ["plan", "way", "kinds"] (spNoEnd C)) : Def P w K mg base CX0 4 "wall_start" ["plan", "name", "kind"] (spStart C) := by
  refine F.ok scwall_start (fun _ _ _ _ _ _ us hl => match us, hl with | [_, _, _], _ => rfl) (fun vs H Q E h => ?_) (fun f cdv A outer s H vs Q E hr h => ?_)
  · obtain ⟨x, ks, ps, name, k, rfl, _⟩ := h
    rfl
  obtain ⟨x, ks, ps, name, k, rfl, h1, hw, hk, hks, hl, q⟩ := h
  have hu := hu_of hr
  have nd := scwall_start.nd
  replace D_stepped := D_stepped.mono (show 1 ≤ 3 by decide)
  refine ⟨_, (pss_cutS (ps_if (pt_cmpR op_inS (pv 2) (pe_cd D_last_kinds hr pass0 (pa_cons (pv 0) (pa_cons (pv 1) pa_nil))) (by rfl))
      (pss_one (ps_set (i := 1) nd rfl (Or.inl rfl) (pe_cd D_stepped hr pass0 (pa_cons (pv 0) (pa_cons (pv 1) (pa_cons (pv 2) pa_nil))))))
      pss_nil)
      (pss_one (ps_ret (pe_cd D_without_end hr pass0 (pa_cons (pv 0) (pa_cons (pv 1) (pa_cons (pe_dget hu (pe_flK (K := K) rfl (pv 0) rfl) (pv 2) (fun _ _ => rfl)) pa_nil))))))), ?_⟩
  refine s_start [some _, some _, some _] rfl ?_
  refine s_cut (fun σ H' => σ = [some (.ref x), some (.str (tx (nearOf ks ps name k))), some (.str (tx [k]))] ∧ Same H H') ?_ ?_
  · walk_at "go"
    refine ⟨x, ks, ps, name, rfl, h1, hw, hks, by omega, fun H2 s2 => ?_⟩
    walk_at "go"
    unfold nearOf
    refine if_dec (fun c1 => ?_) (fun c1 => ?_)
    · walk_at "go"
      refine ⟨x, ks, ps, name, k, rfl, h1.same s2, hk, by omega, ?_⟩
      rw [if_pos c1]
      exact ⟨rfl, s2⟩
    · walk_at "go"
      rw [if_neg c1]
      exact ⟨rfl, s2⟩
  rintro σ H2 ⟨rfl, s2⟩
  have h2 := h1.same s2
  obtain ⟨dx, t, d, a1, a2, a3⟩ := h2.ex
  have nl := nearOf_len ks ps name k
  walk_at "go"
  refine v_fld a1 T.Plan.cl T.nO planF_o ?_
  walk_at "go"
  refine v_dget (dget_let (g := fun k => V.str (tx (crossOf ks ps k))) a3 hk) ?_
  walk_at "go"
  have cl : (crossOf ks ps k).length ≤ 1000 := Nat.le_trans (List.length_filter_le _ _) hks
  exact ⟨x, ks, ps, _, _, rfl, h2, fun c hc => (nearOf_mem hc).elim (fun z => z ▸ hk) (hw c), cl, by omega, fun H3 s3 => q H3 (s2.trans s3)⟩
abbrev stWall_init : Stmt := (inClass (top 37) 0)
abbrev NWall_init : List Str := ["self", "room", "kind"]
theorem scWall_init : FnScope NWall_init ["self", "room", "kind"] (defScope stWall_init) := ⟨rfl, rfl, rfl, by decide +kernel, rfl, by decide +kernel, by decide +kernel⟩

theorem ok_Wall (F : MAt K W "__init__" "Wall.__init__" stWall_init) (T : TxtW K mg C R O W) (D_need_kind : Def P w K mg base CX0 2 "need_kind" ["plan", "value"] (spNeedKind C)) (D_wall_start : Def P w K mg base CX0 4 "wall_start" ["plan", "name", "kind"] (spStart C)) (C_Room : CDef P w K mg base CX0 3 "Room" R (spRoom C R)) :
    CMk0 P w K mg base CX0 5 "Wall" W (spWall C R W) ["self", "room", "kind"] "Wall.__init__" stWall_init := by
  refine F.make0 (sp0 := spWall0 C R W) T.Wall scWall_init (fun _ _ _ _ _ _ us hl => match us, hl with | [_, _, _], _ => rfl) (fun vs H Q E h => ?_) (conv_wall C R W) (fun f cdv A outer s H vs Q E hr h => ?_)
  · obtain ⟨a, dx, r, x, ks, ps, name, k, rfl, _⟩ := h
    rfl
  obtain ⟨a, dx, r, x, ks, ps, name, k, rfl, hx, hr', hp, h1, h2, h3, h4, q⟩ := h
  have hu := hu_of hr
  have nd := scWall_init.nd
  replace D_need_kind := D_need_kind.mono (show 2 ≤ 4 by decide)
  refine ⟨_, (pss_cons (ps_flK (K := K) rfl (pv 0) (pe_flK (K := K) rfl (pv 1) rfl) rfl)
      (pss_cons (ps_flK (K := K) rfl (pv 0) (pe_cd D_need_kind hr pass0 (pa_cons (pe_flK (K := K) rfl (pv 1) rfl) (pa_cons (pv 2) pa_nil))) rfl)
      (pss_one (ps_flK (K := K) rfl (pv 0) (pe_mk C_Room hr pass0 (pa_cons (pe_flK (K := K) rfl (pv 1) rfl) (pa_cons (pe_cd D_wall_start hr pass0 (pa_cons (pe_flK (K := K) rfl (pv 1) rfl) (pa_cons (pe_flK (K := K) rfl (pv 1) rfl) (pa_cons (pv 2) pa_nil)))) pa_nil))) rfl)))), ?_⟩
  refine s_start [some _, some _, some _] rfl ?_
  obtain ⟨dr, er⟩ := hr'.ex
  have nra : r ≠ a := ne_of er hx (by intro z; injection z with _ _ z; cases z)
  walk_at "go"
  refine v_fld er T.Room.cl T.nPl roomF_p ?_
  walk_at "go"
  refine v_sfld hx T.Wall.cl T.nWp (by decide) fun H1 s1 e1 => ?_
  walk_at "go"
  have er1 := s1 _ _ er nra
  have pk : ∀ {H H' : Hp} {fs : List (Str × V)}, Keep a H H' → PlanAt C H x ks ps → H a = some (.ins W dx fs) → x ≠ a → PlanAt C H' x ks ps := by
    intro H H' fs s1 hp hx nx
    obtain ⟨dx', t', d, a1, a2, a3⟩ := hp.ex
    exact ⟨dx', t', d, s1 _ _ a1 nx, s1 _ _ a2 (ne_of a2 hx (by intro z; cases z)), s1 _ _ a3 (ne_of a3 hx (by intro z; cases z))⟩
  have nxa : x ≠ a := by
    obtain ⟨dx', t', d, a1, a2, a3⟩ := hp.ex
    exact ne_of a1 hx (by intro z; injection z with _ _ z; cases z)
  have hp1 := pk s1 hp hx nxa
  refine v_fld er1 T.Room.cl T.nPl roomF_p ?_
  walk_at "go"
  refine ⟨x, ks, ps, k, rfl, hp1, h2, ?_⟩
  walk_at "go"
  refine v_sfld e1 T.Wall.cl T.nWk (by show 1 < 1000; decide) fun H2 s2 e2 => ?_
  walk_at "go"
  have er2 := s2 _ _ er1 nra
  have hp2 := pk s2 hp1 e1 nxa
  refine v_fld er2 T.Room.cl T.nPl roomF_p ?_
  walk_at "go"
  refine v_fld er2 T.Room.cl T.nPl roomF_p ?_
  walk_at "go"
  refine v_fld er2 T.Room.cl T.nNm roomF_n ?_
  walk_at "go"
  refine ⟨x, ks, ps, name, k, rfl, hp2, h1, h2, h3, by omega, fun H3 s3 => ?_⟩
  walk_at "go"
  have sl := startOf_len ks ps name k
  refine ⟨x, ks, ps, _, rfl, hp2.same s3, fun c hc => (startOf_mem hc).elim (fun z => z ▸ h2) (h1 c), by omega, fun r' H4 hr4 s4 ro4 => ?_⟩
  have e4 := s4 _ _ (s3 _ _ e2)
  walk_at "go"
  refine v_sfld e4 T.Wall.cl T.nWr (by show 2 < 1000; decide) fun H5 s5 e5 => ?_
  obtain ⟨dr4, er4⟩ := ro4.ex
  have nr4 : r' ≠ a := (ne_of_none (s3 _ _ e2) hr4).symm
  refine q r' H5 (fun b o hb nb => s5 _ _ (s4 _ _ (s3 _ _ (s2 _ _ (s1 _ _ hb nb) nb))) nb) ⟨⟨dx, e5⟩, ⟨dr4, s5 _ _ er4 nr4⟩⟩
end
/-! ### of a drawn floor -/
section
variable {K : PySem.W.Frag} {H : Hp} {Q : VK} {C R W r x : Addr} {ls : List Nat} {fn : Nat → List Nat} {a : List Nat} {k : Nat} {E : XK}
theorem start_tab (fl : Fl ls fn) (ha : ∀ c ∈ a, c ∈ ls) (hk : k ∈ ls) : startOf (ascOf ls) (tabPairs ls fn) (joinC fn [] a) k = startC fn (joinC fn [] a) k := by
  have e1 : nearOf (ascOf ls) (tabPairs ls fn) (joinC fn [] a) k = nearC fn (joinC fn [] a) k := by
    unfold nearOf nearC
    rw [firsts_tab fl ha, stepOf_tab fl.tab hk (memN ha)]
    have e2 : k ∈ (ls.filter fun c => decide (desc fn c (joinC fn [] a).reverse)) ↔ desc fn k (joinC fn [] a).reverse := by
      rw [List.mem_filter, decide_eq_true_iff]
      exact ⟨fun z => z.2, fun z => ⟨hk, z⟩⟩
    by_cases c : desc fn k (joinC fn [] a).reverse
    · rw [if_pos c, if_pos (e2.mpr c)]
    · rw [if_neg c, if_neg fun z => c (e2.mp z)]
  unfold startOf startC
  rw [e1]
  have mm : ∀ c ∈ (nearC fn (joinC fn [] a) k).reverse, c ∈ ls := fun c hc => (near_mem (List.mem_reverse.mp hc)).elim (fun z => z ▸ hk) (memN ha c)
  rw [splitA_congr (g := fn) (free' := fn k) (fun c hc => cross_tab fl.tab hk (mm c hc)) fun j hj c hc => cross_tab fl.tab (mm j hj) (mm c hc)]
theorem sp_wall (fl : Fl ls fn) (h : RoomAt R H r x (joinC fn [] a)) (pl : PlanAt C H x (ascOf ls) (tabPairs ls fn)) (ha : ∀ c ∈ a, c ∈ ls) (hk : k ∈ ls) (la : a.length < 2000) (q : ∀ b r' H', H b = none → Same H H' → WallAt W R H' b r' x k (startC fn (joinC fn [] a) k) → Q (.ref b) H') : spWall C R W [.ref r, .str (tx [k])] H Q E := by
  have n1 : (joinC fn [] a).length ≤ a.length := name_len fn a
  have tl := fl.tab.len
  refine ⟨r, x, _, _, _, k, rfl, h, pl, inAsc fl.tab (memN ha), inAsc (a := [k]) fl.tab (by simpa using hk) k (by simp), by rw [asc_self fl]; omega, by omega, fun b r' H' hb s' wa => q b r' H' hb s' ?_⟩
  rw [start_tab fl ha hk, joinOf_tab fl.tab (name := []) (by simp) fun c hc => (start_mem hc).elim (fun z => z ▸ hk) (memN ha c), show joinC fn [] (startC fn (joinC fn [] a) k) = startC fn (joinC fn [] a) k from (is_NF fl.ok).mpr (start_NF fl.ok (name_NF fl.ok a) k)] at wa
  exact wa
end
end
section
open PySem PySem.Spec L2
section
variable {P : Program} {w : World} {K : PySem.W.Frag} {mg : Str → Option Value} {base : Heap}
end
end
section
open PySem PySem.Spec L2
section
variable {P : Program} {w : World} {K : PySem.W.Frag} {mg : Str → Option Value} {base : Heap} {C R O W : Addr}
end
/-! ### vectors -/
section
variable {H : Hp} {Q : VK} {K : PySem.W.Frag} {p q : Addr} {ls : List Nat} {u v : Nat → Int}
end
end
section
open PySem PySem.Spec L2
structure VecsAt (H : Hp) (D : Addr) (ls : List Nat) (us : List (Nat → Int)) : Prop where
  ex : ∃ As : List Addr, H D = some (.lst (As.map V.ref)) ∧ Paired (fun a u => H a = some (.tup (vecV ls u))) As us
theorem paired_imp {α β : Type} {r r' : α → β → Prop} (h : ∀ a b, r a b → r' a b) : ∀ {as : List α} {bs : List β}, Paired r as bs → Paired r' as bs
  | _, _, .nil => .nil
  | _, _, .cons a t => .cons (h _ _ a) (paired_imp h t)
theorem VecsAt.same {H H' : Hp} {D : Addr} {ls : List Nat} {us : List (Nat → Int)} (h : VecsAt H D ls us) (s : Same H H') : VecsAt H' D ls us := by
  obtain ⟨As, e, p⟩ := h.ex
  exact ⟨As, s _ _ e, paired_imp (fun _ _ z => s _ _ z) p⟩
theorem MarksAt.lst {H H' : Hp} {m q : Addr} {ls : List Nat} {M : Nat → Nat → Int} {l : List V} (h : MarksAt H m ls M) (e0 : H q = some (.lst l)) (k : Keep q H H') : MarksAt H' m ls M := by
  obtain ⟨A, a, b⟩ := h.ex
  exact ⟨A, k _ _ a (ne_of a e0 (by intro z; cases z)), fun c hc => k _ _ (b c hc) (ne_of (b c hc) e0 (by intro z; cases z))⟩
/-! ### a vector among vectors -/
section
variable {H : Hp} {Q : VK} {K : PySem.W.Frag} {p D : Addr} {ls : List Nat} {v : Nat → Int} {us : List (Nat → Int)}
end
/-! ### beyond, touches -/
def spBeyond (C R O W : Addr) : Sp := fun vs H Q E => ∃ (a r x : Addr) (k : Nat) (m : List Nat) (b y : Addr) (n : List Nat) (e : Bool) (ks : List Nat) (ps : List (List Nat)), vs = [.ref a, .ref b] ∧ WallAt W R H a r x k m ∧ RoomAt R H b y n ∧ Plans2 C H x y e ∧
  PlanAt C H x ks ps ∧ (∀ c ∈ m, c ∈ ks) ∧ (e = true → ∀ c ∈ n, c ∈ ks) ∧ ks.length ≤ 1000 ∧ m.length ≤ 2000 ∧ n.length ≤ 2000 ∧ (e = true → ∀ H', Same H H' → Q (.bl (decide (k ∈ firstsOf ks ps (wayOf ks ps m n)))) H') ∧ (e = false → E (.ref O) none H)
section
variable {P : Program} {w : World} {K : PySem.W.Frag} {mg : Str → Option Value} {base : Heap} {C R O W : Addr}
abbrev stWall_beyond : Stmt := (inClass (top 37) 1)
abbrev NWall_beyond : List Str := ["self", "room"]
theorem scWall_beyond : FnScope NWall_beyond ["self", "room"] (defScope stWall_beyond) := ⟨rfl, rfl, rfl, by decide +kernel, rfl, by decide +kernel, by decide +kernel⟩

theorem ok_Wall_beyond (F : MAt K W "beyond" "Wall.beyond" stWall_beyond) (T : TxtW K mg C R O W) (D_need_same : Def P w K mg base (L2.CX P w) 3 "need_same" ["plan", "other"] (spNeedSame C O)) (D_way_from : Def P w K mg base CX0 4 "way_from" ["plan", "name", "goal"] (spWayFrom C)) (D_first_kinds : Def P w K mg base CX0 2 "first_kinds" ["plan", "way"] (spFirst C)) : MDef P w K mg base (L2.CX P w) 5 W "beyond" ["self", "room"] (spBeyond C R O W) := by
  refine F.okX scWall_beyond (fun _ _ _ _ _ _ us hl => match us, hl with | [_, _], _ => rfl) (fun vs H Q E h => ?_) (fun f cdv A outer s H vs Q E hr h => ?_)
  · obtain ⟨a, r, x, k, m, b, y, n, e, ks, ps, rfl, _⟩ := h
    rfl
  obtain ⟨a, r, x, k, m, b, y, n, e, ks, ps, rfl, h1, h2, hpp, hp, hm, hb, lk, lm, ln, q1, q2⟩ := h
  have hu := hu_of hr
  have nd := scWall_beyond.nd
  replace D_need_same := D_need_same.mono (show 3 ≤ 4 by decide)
  replace D_first_kinds := D_first_kinds.mono (show 2 ≤ 4 by decide)
  refine ⟨_, (pss_cons (ps_expr (pe_cd D_need_same hr (passes_call (takes_of rfl rfl rfl rfl) (fun _ _ _ _ h => h)) (pa_cons (pe_flK (K := K) rfl (pv 0) rfl) (pa_cons (pe_flK (K := K) rfl (pv 1) rfl) pa_nil))))
      (pss_one (ps_ret (pe_cmpR op_inS (pe_flK (K := K) rfl (pv 0) rfl) (pe_cd D_first_kinds hr pass0 (pa_cons (pe_flK (K := K) rfl (pv 0) rfl) (pa_cons (pe_cd D_way_from hr pass0 (pa_cons (pe_flK (K := K) rfl (pv 0) rfl) (pa_cons (pe_flK (K := K) rfl (pe_flK (K := K) rfl (pv 0) rfl) rfl) (pa_cons (pe_flK (K := K) rfl (pv 1) rfl) pa_nil)))) pa_nil))) (by rfl))))), ?_⟩
  refine s_start [some _, some _] rfl ?_
  obtain ⟨dw, a1⟩ := h1.ex
  obtain ⟨dr, a2⟩ := h1.ro.ex
  obtain ⟨db, b1⟩ := h2.ex
  walk_at "go"
  refine v_fld a1 T.Wall.cl T.nWp wallF_p ?_
  walk_at "go"
  refine v_fld b1 T.Room.cl T.nPl roomF_p ?_
  walk_at "go"
  refine ⟨x, y, e, rfl, hpp, fun ht => ?_, fun hf => q2 hf⟩
  have wl := wayOf_len ks ps m n
  walk_at "go"
  refine v_fld a1 T.Wall.cl T.nWk wallF_k ?_
  walk_at "go"
  refine v_fld a1 T.Wall.cl T.nWp wallF_p ?_
  walk_at "go"
  refine v_fld a1 T.Wall.cl T.nWp wallF_p ?_
  walk_at "go"
  refine v_fld a1 T.Wall.cl T.nWr wallF_r ?_
  walk_at "go"
  refine v_fld a2 T.Room.cl T.nNm roomF_n ?_
  walk_at "go"
  refine v_fld b1 T.Room.cl T.nNm roomF_n ?_
  walk_at "go"
  refine ⟨x, ks, ps, m, n, rfl, hp, hm, hb ht, by omega, by omega, ?_⟩
  walk_at "go"
  refine ⟨x, ks, ps, _, rfl, hp, fun c hc => ?_, lk, by omega, fun H2 s2 => ?_⟩
  · unfold wayOf at hc
    rcases joinOf_mem hc with z | z
    · exact hm c (backOf_mem z)
    · exact hb ht c z
  walk_at "go"
  exact q1 ht H2 s2
end
/-! ### of a drawn floor -/
section
variable {K : PySem.W.Frag} {H : Hp} {Q : VK} {C R O W r x y : Addr} {a' b' : Addr} {ls : List Nat} {fn : Nat → List Nat} {a b : List Nat} {k : Nat} {E : XK} {m : List Nat}
theorem sp_beyond (fl : Fl ls fn) (h1 : WallAt W R H a' r x k m) (h2 : RoomAt R H b' y (joinC fn [] b)) (pl : PlanAt C H x (ascOf ls) (tabPairs ls fn)) (pl' : PlanAt C H y (ascOf ls) (tabPairs ls fn)) (hm : ∀ c ∈ m, c ∈ ls) (hmn : NF fn m) (hk : k ∈ ls) (hb : ∀ c ∈ b, c ∈ ls) (la : m.length ≤ 2000) (lb : b.length ≤ 2000) (q : ∀ H', Same H H' → Q (.bl (decide (desc fn k (wayC fn m b)))) H') : calmOf (spBeyond C R O W) [.ref a', .ref b'] H Q E := by
  have n2 : (joinC fn [] b).length ≤ b.length := name_len fn b
  have tl := fl.tab.len
  have ps := pairsOf_small (ls.flatMap fun a => (fn a).map fun b => ascOf [a, b])
  refine ⟨a', r, x, k, m, b', y, _, true, _, _, rfl, h1, h2, ⟨_, _, _, _, pl, pl', ps, ps, (decide_eq_true ⟨rfl, rfl⟩).symm⟩, pl, inAsc fl.tab hm, fun _ => inAsc fl.tab (memN hb), by rw [asc_self fl]; omega, la, by omega, fun _ H' s' => ?_, fun z => (nomatch z)⟩
  have mm : joinC fn [] m = m := (is_NF fl.ok).mpr hmn
  have e1 := way_tab fl hm hb
  rw [mm] at e1
  have hw : ∀ c ∈ wayC fn m b, c ∈ ls := fun c hc => by
    rcases List.mem_append.mp (name_mem hc) with z | z
    · exact hm c (List.mem_reverse.mp z)
    · exact hb c z
  rw [e1, show decide (k ∈ firstsOf (ascOf ls) (tabPairs ls fn) (wayC fn m b)) = decide (desc fn k (wayC fn m b)) from decide_eq_decide.mpr ?_]
  · exact q H' s'
  · unfold firstsOf
    rw [asc_self fl, List.mem_filter, decide_eq_true_iff, founds_congr (g := fn) fun j hj c hc => ?_, founds_mem fl.ok]
    · exact ⟨fun z => z.2.2, fun z => ⟨hk, hk, z⟩⟩
    · have := cross_tab fl.tab (hw j hj) hc
      rw [asc_self fl] at this
      exact this
end
end
section
open PySem PySem.Spec L2
/-- whether the room at the end of w is beyond the wall of the door s behind a -/
def BeyP (f : Nat → List Nat) (a : List Nat) (s : Nat) (w : List Nat) : Prop := desc f s (wayC f (startC f (nameOf f a) s) w)
instance (f : Nat → List Nat) (a : List Nat) (s : Nat) (w : List Nat) : Decidable (BeyP f a s w) := by unfold BeyP; infer_instance
theorem bey_mark {f : Nat → List Nat} {ls a w : List Nat} {s : Nat} (ok : CrOk f) (ha : ∀ c ∈ a, c ∈ ls) (hw : ∀ c ∈ w, c ∈ ls) (hs : s ∈ ls) : (∃ x ∈ ls, mark f ((startC f (nameOf f a) s).reverse ++ w) s x < 0) ↔ BeyP f a s w := by
  have hM : ∀ c ∈ startC f (nameOf f a) s, c ∈ ls := fun c hc => (start_mem hc).elim (fun e => e ▸ hs) fun h => ha c (name_mem h)
  have hW : ∀ y ∈ wayC f (startC f (nameOf f a) s) w, y ∈ ls := fun y hy => by
    rcases List.mem_append.mp (name_mem hy) with z | z
    · exact hM y (List.mem_reverse.mp z)
    · exact hw y z
  have := mark_neg (ls := ls) ok (name_NF ok ((startC f (nameOf f a) s).reverse ++ w)).red hW hs
  unfold BeyP
  rw [show wayC f (startC f (nameOf f a) s) w = nameOf f ((startC f (nameOf f a) s).reverse ++ w) from rfl, ← this]
  refine exists_congr fun x => and_congr_right fun _ => ?_
  show act f _ (unit x) s < 0 ↔ act f (nameOf f _) (unit x) s < 0
  rw [name_act ok]
def hfKV (a : List Nat) (s : Nat) (b : Bool) (p : Addr) : List (Key × V) := [(Sum.inr "way", .str (tx a)), (Sum.inr "kind", .str (tx [s])), (Sum.inr "side", .bl b), (Sum.inr "root", .ref p)]
structure HalfD (H : Hp) (h : Addr) (ls : List Nat) (f : Nat → List Nat) (a : List Nat) (s : Nat) (b : Bool) : Prop where
  ex : ∃ p, H h = some (.dK (hfKV a s b p)) ∧ H p = some (.lst (vecV ls (posM f ls a s)))
theorem khwk : ¬ ((Sum.inr ("way" : Str) : Key) = Sum.inr ("kind" : Str)) := by decide +kernel
theorem khws : ¬ ((Sum.inr ("way" : Str) : Key) = Sum.inr ("side" : Str)) := by decide +kernel
theorem khwr : ¬ ((Sum.inr ("way" : Str) : Key) = Sum.inr ("root" : Str)) := by decide +kernel
theorem khks : ¬ ((Sum.inr ("kind" : Str) : Key) = Sum.inr ("side" : Str)) := by decide +kernel
theorem khkr : ¬ ((Sum.inr ("kind" : Str) : Key) = Sum.inr ("root" : Str)) := by decide +kernel
theorem khsr : ¬ ((Sum.inr ("side" : Str) : Key) = Sum.inr ("root" : Str)) := by decide +kernel
section
variable {H : Hp} {h p : Addr} {a : List Nat} {s : Nat} {b : Bool}
theorem hf_way (e : H h = some (.dK (hfKV a s b p))) : DGet H h (.str "way") (some (.str (tx a))) := by
  have z := DGet.k (k := Sum.inr "way") e
  rw [hfKV, valV_pos rfl] at z
  exact z
theorem hf_kind (e : H h = some (.dK (hfKV a s b p))) : DGet H h (.str "kind") (some (.str (tx [s]))) := by
  have z := DGet.k (k := Sum.inr "kind") e
  rw [hfKV, valV_neg khwk, valV_pos rfl] at z
  exact z
theorem hf_side (e : H h = some (.dK (hfKV a s b p))) : DGet H h (.str "side") (some (.bl b)) := by
  have z := DGet.k (k := Sum.inr "side") e
  rw [hfKV, valV_neg khws, valV_neg khks, valV_pos rfl] at z
  exact z
theorem hf_root (e : H h = some (.dK (hfKV a s b p))) : DGet H h (.str "root") (some (.ref p)) := by
  have z := DGet.k (k := Sum.inr "root") e
  rw [hfKV, valV_neg khwr, valV_neg khkr, valV_neg khsr, valV_pos rfl] at z
  exact z
end
theorem HalfD.same {H H1 : Hp} {h : Addr} {ls : List Nat} {f : Nat → List Nat} {a : List Nat} {s : Nat} {b : Bool} (x : HalfD H h ls f a s b) (z : Same H H1) : HalfD H1 h ls f a s b := by
  obtain ⟨p, e1, e2⟩ := x.ex
  exact ⟨p, z _ _ e1, z _ _ e2⟩
theorem HalfD.pen {H H1 : Hp} {h : Addr} {ls : List Nat} {f : Nat → List Nat} {a : List Nat} {s : Nat} {b : Bool} {g : Pen} {n : Nat} (x : HalfD H h ls f a s b) (pa : PenAt g H n) (k : Keep g.p H H1) : HalfD H1 h ls f a s b := by
  obtain ⟨p, e1, e2⟩ := x.ex
  obtain ⟨u, v, h1, _⟩ := pa.ex
  refine ⟨p, k _ _ e1 fun z => ?_, k _ _ e2 (pa.lst_ne e2)⟩
  rw [z, h1] at e1
  injection e1 with e1
  injection e1 with e1
  have := congrArg List.length e1
  unfold penL hfKV at this
  simp at this
def spHalfOf : Sp := fun vs H Q _ => ∃ (q : Addr) (ls : List Nat) (f : Nat → List Nat) (a : List Nat) (s : Nat) (b : Bool), vs = [.ref q, .str (tx a), .str (tx [s]), .bl b] ∧ FloorAt H q ls f ∧ FlE ls f ∧ (∀ c ∈ a, c ∈ ls) ∧ a.length ≤ 100000 ∧ s ∈ ls ∧
  ∀ h H', H h = none → Same H H' → HalfD H' h ls f a s b → Q (.ref h) H'
def spHas : Sp := fun vs H Q _ => ∃ (q h : Addr) (ls : List Nat) (f : Nat → List Nat) (a w : List Nat) (s : Nat) (b : Bool), vs = [.ref q, .ref h, .str (tx w)] ∧ FloorAt H q ls f ∧ FlE ls f ∧ HalfD H h ls f a s b ∧ (∀ c ∈ a, c ∈ ls) ∧ (∀ c ∈ w, c ∈ ls) ∧ s ∈ ls ∧
  ∀ H', Same H H' → Q (.bl (decide (BeyP f a s w) == b)) H'
section
variable {P : Program} {w : World} {K : PySem.W.Frag} {mg : Str → Option Value} {base : Heap} {C R O : Addr}
abbrev sthalfof : Stmt := (top 89)
abbrev Nhalfof : List Str := ["_law_floor", "_law_way", "_law_kind", "_law_side"]
theorem schalfof : FnScope Nhalfof ["_law_floor", "_law_way", "_law_kind", "_law_side"] (defScope sthalfof) := ⟨rfl, rfl, rfl, by decide +kernel, rfl, by decide +kernel, by decide +kernel⟩

theorem ok_halfof (F : FnAt K mg "_law_half_of" sthalfof) (D_root_of : Def P w K mg base CX0 2 "_law_root_of" ["_law_floor", "_law_way", "_law_kind"] spRootOf) : Def P w K mg base CX0 3 "_law_half_of" ["_law_floor", "_law_way", "_law_kind", "_law_side"] spHalfOf := by
  refine F.ok schalfof (fun _ _ _ _ _ _ us hl => match us, hl with | [_, _, _, _], _ => rfl) (fun vs H Q E h => ?_) (fun f cdv A outer s H vs Q E hr h => ?_)
  · obtain ⟨q, ls, f, a, s, b, rfl, _⟩ := h
    rfl
  obtain ⟨q, ls, fn, a, s0, b, rfl, fl, fe, ha, la, hs, k⟩ := h
  have hu := hu_of hr
  have nd := schalfof.nd
  refine ⟨_, (pss_one (ps_ret (pe_disp (pps_cons pe_str (pv 1) (pps_cons pe_str (pv 2) (pps_cons pe_str (pv 3) (pps_cons pe_str (pe_cd D_root_of hr pass0 (pa_cons (pv 0) (pa_cons (pv 1) (pa_cons (pv 2) pa_nil)))) pps_nil)))) (by rfl) (by rfl) (fun z => by cases z) (by decide)))), ?_⟩
  refine s_start [some _, some _, some _, some _] rfl ?_
  walk_at "go"
  intro p hp
  walk_at "go"
  have s1 : Same H (upd H p (.dK [])) := Same.new hp
  refine ⟨q, ls, fn, a, s0, rfl, fl.same s1, fe, ha, la, hs, fun p' H2 hp' s2 e2 => ?_⟩
  have ep : H2 p = some (.dK []) := s2 _ _ upd_same
  walk_at "go"
  refine ⟨ep, [(Sum.inr "way", .str (tx a)), (Sum.inr "kind", .str (tx [s0])), (Sum.inr "side", .bl b), (Sum.inr "root", .ref p')], rfl, (by show 4 ≤ 15; decide), ?_⟩
  have em : mergeK [] [(Sum.inr ("way" : Str), V.str (tx a)), (Sum.inr ("kind" : Str), .str (tx [s0])), (Sum.inr ("side" : Str), .bl b), (Sum.inr ("root" : Str), .ref p')] = hfKV a s0 b p' := by
    unfold mergeK hfKV
    rw [List.foldl_cons, List.foldl_cons, List.foldl_cons, List.foldl_cons, List.foldl_nil]
    rw [putK_new (k := Sum.inr ("way" : Str)) _ rfl, putK_new (k := Sum.inr ("kind" : Str)) _ (by rw [List.nil_append, valV_neg khwk]; rfl), putK_new (k := Sum.inr ("side" : Str)) _ (by rw [List.nil_append, List.cons_append, valV_neg khws, List.nil_append, valV_neg khks]; rfl), putK_new (k := Sum.inr ("root" : Str)) _ (by simp only [List.nil_append, List.cons_append]; rw [valV_neg khwr, valV_neg khkr, valV_neg khsr]; rfl)]
    rfl
  rw [em]
  have npp : p' ≠ p := (ne_of_none (show upd H p (.dK []) p = some (.dK []) from upd_same) hp').symm
  refine k p _ hp (fun b' o hb => by
    rw [upd_ne (ne_of_none hb hp)]
    exact s2 _ _ (s1 _ _ hb)) ⟨p', upd_same, ?_⟩
  rw [upd_ne npp]
  exact e2
abbrev sthas : Stmt := (top 90)
abbrev Nhas : List Str := ["_law_floor", "_law_half", "_law_way"]
theorem schas : FnScope Nhas ["_law_floor", "_law_half", "_law_way"] (defScope sthas) := ⟨rfl, rfl, rfl, by decide +kernel, rfl, by decide +kernel, by decide +kernel⟩

theorem ok_has (F : FnAt K mg "_law_has" sthas) (D_is_beyond : Def P w K mg base CX0 2 "_law_is_beyond" ["_law_floor", "_law_beam", "_law_way"] spIsBey) : Def P w K mg base CX0 3 "_law_has" ["_law_floor", "_law_half", "_law_way"] spHas := by
  refine F.ok schas (fun _ _ _ _ _ _ us hl => match us, hl with | [_, _, _], _ => rfl) (fun vs H Q E h => ?_) (fun f cdv A outer s H vs Q E hr h => ?_)
  · obtain ⟨q, h, ls, f, a, w, s, b, rfl, _⟩ := h
    rfl
  obtain ⟨q, h, ls, fn, a, w, s0, b, rfl, fl, fe, hh, ha, hw, hs, k⟩ := h
  have hu := hu_of hr
  have nd := schas.nd
  refine ⟨_, (pss_one (ps_ret (pe_cmpR op_eq (pe_cd D_is_beyond hr pass0 (pa_cons (pv 0) (pa_cons (pe_dget hu (pv 1) pe_str (fun _ _ => rfl)) (pa_cons (pv 2) pa_nil)))) (pe_dget hu (pv 1) pe_str (fun _ _ => rfl)) (nomark _)))), ?_⟩
  refine s_start [some _, some _, some _] rfl ?_
  obtain ⟨p, e1, e2⟩ := hh.ex
  have e2 : H p = some (.lst (vecV ls (mark fn (startC fn (nameOf fn a) s0).reverse s0))) := by
    rw [e2, vecV_congr fun x hx => pos_start fe.ok ha hs x]
  have hM : ∀ c ∈ (startC fn (nameOf fn a) s0).reverse, c ∈ ls := fun c hc => (start_mem (List.mem_reverse.mp hc)).elim (fun e => e ▸ hs) fun h => ha c (name_mem h)
  walk_at "go"
  refine v_dget (hf_root e1) ?_
  walk_at "go"
  refine ⟨q, p, ls, fn, _, w, s0, rfl, fl, fe, e2, hM, hw, hs, fun H1 s1 => ?_⟩
  walk_at "go"
  refine v_dget (hf_side (s1 _ _ e1)) ?_
  walk_at "go"
  rw [decide_eq_decide.mpr (bey_mark fe.ok ha hw hs)]
  have e : decide (V.bl (decide (BeyP fn a s0 w)) = V.bl b) = (decide (BeyP fn a s0 w) == b) := by
    cases decide (BeyP fn a s0 w) <;> cases b <;> rfl
  rw [e]
  exact k H1 s1
end
end
local macro_rules | `(tactic| walk_at "ro") => `(tactic| first | assumption | ((apply RoomAt.go (by assumption)); walk_at "ro"))
local macro_rules | `(tactic| walk_at "pl") => `(tactic| first | assumption | ((apply PlanAt.go (by assumption)); walk_at "pl"))
local macro_rules | `(tactic| walk_at "st2") => `(tactic| first
  | (walk_at "st")
  | ((with_reducible refine v_rnameG ?_); refine ⟨_, _, _, (by walk_at "ro"), (by assumption), (by assumption), ?_⟩)
  | ((with_reducible refine v_rplanG ?_); refine ⟨_, _, _, (by walk_at "ro"), (by assumption), (by assumption), ?_⟩)
  | ((with_reducible refine v_rlenG ?_); refine ⟨_, _, (by walk_at "ro"), (by omega), ?_⟩)
  | ((with_reducible refine v_reqG ?_); refine ⟨_, _, _, _, _, (by walk_at "ro"), (by walk_at "ro"), (by walk_at "pl"), (by assumption), (by omega), (by omega), ?_⟩)
  | ((with_reducible refine v_rneG ?_); refine ⟨_, _, _, _, _, (by walk_at "ro"), (by walk_at "ro"), (by walk_at "pl"), (by assumption), (by omega), (by omega), ?_⟩)
  | ((with_reducible refine v_reqTG ?_); refine ⟨_, _, (by walk_at "ro"), ?_⟩)
  | ((with_reducible refine v_peqG ?_); refine ⟨_, _, (by walk_at "pl"), (by assumption), ?_⟩)
  | (with_reducible refine if_nI rfl ?_)
  | (with_reducible refine if_I rfl ?_)
  | ((with_reducible refine v_mdRG ?_); refine ⟨_, _, (by walk_at "ro"), (by decide +kernel), ?_⟩)
  | (with_reducible refine s_asgL ?_) | (with_reducible refine e_MN ?_)
  | (with_reducible refine e_CN ?_) | (refine ⟨rfl, rfl, ?_⟩))
local macro_rules | `(tactic| walk_at "go2") => `(tactic| repeat walk_at "st2")
section
open PySem PySem.Spec L2
theorem wayOf_mem {ks : List Nat} {ps : List (List Nat)} {m n : List Nat} {c : Nat} (hc : c ∈ wayOf ks ps m n) : c ∈ m ∨ c ∈ n := by
  unfold wayOf at hc
  rcases joinOf_mem hc with z | z
  · unfold backOf at z
    rcases joinOf_mem z with z | z
    · cases z
    · exact .inl (List.mem_reverse.mp z)
  · exact .inr z
def spOn (C : Addr) : Sp := fun vs H Q _ => ∃ (x t : Addr) (ks : List Nat) (ps : List (List Nat)) (m n : List Nat) (k : Nat) (b : Bool), vs = [.ref x, .ref t, .str (tx n)] ∧ PlanAt C H x ks ps ∧ H t = some (.tup [.str (tx m), .str (tx [k]), .bl b]) ∧ (∀ c ∈ m, c ∈ ks) ∧ (∀ c ∈ n, c ∈ ks) ∧ ks.length ≤ 1000 ∧ m.length ≤ 2000 ∧ n.length ≤ 2000 ∧
  ∀ H', Same H H' → Q (.bl (decide (k ∈ firstsOf ks ps (wayOf ks ps m n)) == b)) H'
/-! ### what a half holds -/
def halfF (a : Addr) (b : Bool) (x t : Addr) : List (Str × V) := putF "own_side" (.ref t) (putF "plan" (.ref x) (putF "far" (.bl b) (putF "wall" (.ref a) [])))
theorem nhwf : ¬ (("wall" : Str) = "far") := by decide +kernel
theorem nhwp : ¬ (("wall" : Str) = "plan") := by decide +kernel
theorem nhwo : ¬ (("wall" : Str) = "own_side") := by decide +kernel
theorem nhfp : ¬ (("far" : Str) = "plan") := by decide +kernel
theorem nhfo : ¬ (("far" : Str) = "own_side") := by decide +kernel
theorem nhpo : ¬ (("plan" : Str) = "own_side") := by decide +kernel
theorem halfF_w {a x t : Addr} {b : Bool} : (halfF a b x t).lookup ("wall" : Str) = some (.ref a) := by
  unfold halfF
  rw [lookup_putF, if_neg nhwo, lookup_putF, if_neg nhwp, lookup_putF, if_neg nhwf, lookup_putF, if_pos rfl]
theorem halfF_f {a x t : Addr} {b : Bool} : (halfF a b x t).lookup ("far" : Str) = some (.bl b) := by
  unfold halfF
  rw [lookup_putF, if_neg nhfo, lookup_putF, if_neg nhfp, lookup_putF, if_pos rfl]
theorem halfF_p {a x t : Addr} {b : Bool} : (halfF a b x t).lookup ("plan" : Str) = some (.ref x) := by
  unfold halfF
  rw [lookup_putF, if_neg nhpo, lookup_putF, if_pos rfl]
theorem halfF_o {a x t : Addr} {b : Bool} : (halfF a b x t).lookup ("own_side" : Str) = some (.ref t) := by
  unfold halfF
  rw [lookup_putF, if_pos rfl]
structure HalfAt (HC W R : Addr) (H : Hp) (h a r x : Addr) (k : Nat) (m : List Nat) (b : Bool) : Prop where
  ex : ∃ dx t, H h = some (.ins HC dx (halfF a b x t)) ∧ H t = some (.tup [.str (tx m), .str (tx [k]), .bl b])
  wall : WallAt W R H a r x k m
theorem HalfAt.same {HC W R : Addr} {H H1 : Hp} {h a r x : Addr} {k : Nat} {m : List Nat} {b : Bool} (z : HalfAt HC W R H h a r x k m b) (s : Same H H1) : HalfAt HC W R H1 h a r x k m b := by
  obtain ⟨dx, t, e1, e2⟩ := z.ex
  exact ⟨⟨dx, t, s _ _ e1, s _ _ e2⟩, z.wall.same s⟩
structure TxtHf (K : PySem.W.Frag) (mg : Str → Option Value) (C R O W HC : Addr) : Prop extends TxtW K mg C R O W where
  bool : mg "bool" = none
  Half : ClsF K mg "Half" HC
  nHw : NoAttr K HC "wall"
  nHf : NoAttr K HC "far"
  nHp : NoAttr K HC "plan"
  nHo : NoAttr K HC "own_side"
def spHalf0 (C R W HC : Addr) : Sp := fun vs H Q _ => ∃ (h dx a r x : Addr) (k : Nat) (m : List Nat) (b : Bool), vs = [.ref h, .ref a, .bl b] ∧ H h = some (.ins HC dx []) ∧ WallAt W R H a r x k m ∧ HC ≠ W ∧ HC ≠ R ∧
  ∀ H', Keep h H H' → HalfAt HC W R H' h a r x k m b → Q .non H'
def spHalf (C R W HC : Addr) : Sp := fun vs H Q _ => ∃ (a r x : Addr) (k : Nat) (m : List Nat) (b : Bool), vs = [.ref a, .bl b] ∧ WallAt W R H a r x k m ∧ HC ≠ W ∧ HC ≠ R ∧
  ∀ h H', H h = none → Same H H' → HalfAt HC W R H' h a r x k m b → Q (.ref h) H'
section
variable {P : Program} {w : World} {K : PySem.W.Frag} {mg : Str → Option Value} {base : Heap} {C R O W HC : Addr}
abbrev stway_between : Stmt := (top 47)
abbrev Nway_between : List Str := ["plan", "one", "other"]
theorem scway_between : FnScope Nway_between ["plan", "one", "other"] (defScope stway_between) := ⟨rfl, rfl, rfl, by decide +kernel, rfl, by decide +kernel, by decide +kernel⟩

theorem ok_way_between (F : FnAt K mg "way_between" stway_between) (D_joined : Def P w K mg base CX0 2 "joined" ["plan", "name", "way"] (spJoined C)) (D_turned_back : Def P w K mg base CX0 3 "turned_back" ["plan", "name"] (spBack C)) : Def P w K mg base CX0 4 "way_between" ["plan", "one", "other"] (spWayFrom C) := by
  refine F.ok scway_between (fun _ _ _ _ _ _ us hl => match us, hl with | [_, _, _], _ => rfl) (fun vs H Q E h => ?_) (fun f cdv A outer s H vs Q E hr h => ?_)
  · obtain ⟨x, ks, ps, name, goal, rfl, _⟩ := h
    rfl
  obtain ⟨x, ks, ps, name, goal, rfl, h1, hk, hg, hl, hm, q⟩ := h
  have hu := hu_of hr
  have nd := scway_between.nd
  replace D_joined := D_joined.mono (show 2 ≤ 3 by decide)
  refine ⟨_, (pss_one (ps_ret (pe_cd D_joined hr pass0 (pa_cons (pv 0) (pa_cons (pe_cd D_turned_back hr pass0 (pa_cons (pv 0) (pa_cons (pv 1) pa_nil))) (pa_cons (pv 2) pa_nil)))))), ?_⟩
  refine s_start [some _, some _, some _] rfl ?_
  walk_at "go"
  refine ⟨x, ks, ps, name, rfl, h1, hk, hl, ?_⟩
  walk_at "go"
  refine ⟨x, ks, ps, _, goal, rfl, h1, hg, ?_, q⟩
  have := backOf_len ks ps name
  omega
abbrev stis_on : Stmt := (top 51)
abbrev Nis_on : List Str := ["plan", "side", "name", "start", "kind", "far", "beyond"]
theorem scis_on : FnScope Nis_on ["plan", "side", "name"] (defScope stis_on) := ⟨rfl, rfl, rfl, by decide +kernel, rfl, by decide +kernel, by decide +kernel⟩

theorem ok_is_on (F : FnAt K mg "is_on" stis_on) (D_first_kinds : Def P w K mg base CX0 2 "first_kinds" ["plan", "way"] (spFirst C)) (D_way_between : Def P w K mg base CX0 4 "way_between" ["plan", "one", "other"] (spWayFrom C)) : Def P w K mg base CX0 5 "is_on" ["plan", "side", "name"] (spOn C) := by
  refine F.ok scis_on (fun _ _ _ _ _ _ us hl => match us, hl with | [_, _, _], _ => rfl) (fun vs H Q E h => ?_) (fun f cdv A outer s H vs Q E hr h => ?_)
  · obtain ⟨x, t, ks, ps, m, n, k, b, rfl, _⟩ := h
    rfl
  obtain ⟨x, t, ks, ps, m, n, k, b, rfl, h1, ht, hm, hn, h4, h5, h6, q⟩ := h
  have hu := hu_of hr
  have nd := scis_on.nd
  replace D_first_kinds := D_first_kinds.mono (show 2 ≤ 4 by decide)
  refine ⟨_, (pss_cons (ps_asg (pv 1) (pg_tup rfl (pgs_cons (pg_name (i := 3) nd rfl (Or.inl rfl)) (pgs_cons (pg_name (i := 4) nd rfl (Or.inl rfl)) (pgs_cons (pg_name (i := 5) nd rfl (Or.inl rfl)) pgs_nil)))))
      (pss_cons (ps_set (i := 6) nd rfl (Or.inl rfl) (pe_cmpR op_inS (pv 4) (pe_cd D_first_kinds hr pass0 (pa_cons (pv 0) (pa_cons (pe_cd D_way_between hr pass0 (pa_cons (pv 0) (pa_cons (pv 3) (pa_cons (pv 2) pa_nil)))) pa_nil))) (by rfl)))
      (pss_one (ps_ret (pe_cmpR op_eq (pv 6) (pv 5) (nomark _)))))), ?_⟩
  refine s_start [some _, some _, some _, none, none, none, none] rfl ?_
  walk_at "go"
  refine v_gTup3 rfl ht ?_
  walk_at "go"
  refine ⟨x, ks, ps, m, n, rfl, h1, hm, hn, by omega, by omega, ?_⟩
  walk_at "go"
  have wl := wayOf_len ks ps m n
  refine ⟨x, ks, ps, _, rfl, h1, fun c hc => (wayOf_mem hc).elim (hm c) (hn c), h4, by omega, fun H1 s1 => ?_⟩
  walk_at "go"
  have e : decide (V.bl (decide (k ∈ firstsOf ks ps (wayOf ks ps m n))) = V.bl b) = (decide (k ∈ firstsOf ks ps (wayOf ks ps m n)) == b) := by
    cases decide (k ∈ firstsOf ks ps (wayOf ks ps m n)) <;> cases b <;> rfl
  rw [e]
  exact q H1 s1
theorem conv_half (C R W HC : Addr) : Conv HC (spHalf0 C R W HC) (spHalf C R W HC) := by
  rintro vs H Q E ⟨a, r, x, k, m, b, rfl, hw, n1, n2, q⟩ h dx hx hdx hne
  obtain ⟨dw, e1⟩ := hw.ex
  obtain ⟨dr, e2⟩ := hw.ro.ex
  have up : ∀ {b : Addr} {o : HO}, H b = some o → upd (upd H h (.ins HC dx [])) dx (.own h) b = some o := fun {b o} hb => by
    first
      | (rw [upd_ne (ne_of_none hb hdx), upd_ne (ne_of_none hb hx)]; exact hb)
      | (rw [upd_ne (ne_of_none hb hx), upd_ne (ne_of_none hb hdx)]; exact hb)
  refine ⟨h, dx, a, r, x, k, m, b, rfl, upd_same, ⟨⟨dw, ?_⟩, ⟨dr, ?_⟩⟩, n1, n2, fun H' s' z => ⟨rfl, q h H' hx (fun b o hb => ?_) z⟩⟩
  · rw [upd_ne (ne_of_none e1 hx), upd_ne (ne_of_none e1 hdx)]; exact e1
  · rw [upd_ne (ne_of_none e2 hx), upd_ne (ne_of_none e2 hdx)]; exact e2
  · refine s' b o ?_ (ne_of_none hb hx)
    rw [upd_ne (ne_of_none hb hx), upd_ne (ne_of_none hb hdx)]
    exact hb
abbrev stHalf_init : Stmt := (inClass (top 73) 0)
abbrev NHalf_init : List Str := ["self", "wall", "far"]
theorem scHalf_init : FnScope NHalf_init ["self", "wall", "far"] (defScope stHalf_init) := ⟨rfl, rfl, rfl, by decide +kernel, rfl, by decide +kernel, by decide +kernel⟩

theorem ok_Half {dvs : List V} (F : MAtD K HC "__init__" "Half.__init__" stHalf_init dvs) (hd : dvs.length = 1) (T : TxtHf K mg C R O W HC) : CMk P w K mg base CX0 1 "Half" HC (spHalf C R W HC) ["self", "wall", "far"] "Half.__init__" stHalf_init dvs := by
  refine F.make (sp0 := spHalf0 C R W HC) T.Half scHalf_init (by intro z; rw [z] at hd; cases hd) (fun T kV doc pm an cdv ct us its l1 l2 => ?_) (fun vs H Q E h => ?_) (conv_half C R W HC) (fun f cdv A outer s H vs Q E hr h => ?_)
  · rw [hd] at l2 ⊢
    match us, l1, its, l2 with
    | [_, _, _], _, [_], _ => exact ⟨_, rfl, rfl⟩
  · obtain ⟨h, dx, a, r, x, k, m, b, rfl, _⟩ := h
    rfl
  obtain ⟨h, dx, a, r, x, k, m, b, rfl, hx, hw, n1, n2, q⟩ := h
  have hu := hu_of hr
  have nd := scHalf_init.nd
  refine ⟨_, (pss_cons (ps_flK (K := K) rfl (pv 0) (pv 1) rfl)
      (pss_cons (ps_flK (K := K) rfl (pv 0) (pe_callTy c_bool (by rfl) T.bool (by decide +kernel) (pa_cons (pv 2) pa_nil)) rfl)
      (pss_cons (ps_flK (K := K) rfl (pv 0) (pe_flK (K := K) rfl (pv 1) rfl) rfl)
      (pss_one (ps_flK (K := K) rfl (pv 0) (pe_tup (pa_cons (pe_flK (K := K) rfl (pe_flK (K := K) rfl (pv 1) rfl) rfl) (pa_cons (pe_flK (K := K) rfl (pv 1) rfl) (pa_cons (pe_flK (K := K) rfl (pv 0) rfl) pa_nil)))) rfl))))), ?_⟩
  refine s_start [some _, some _, some _] rfl ?_
  obtain ⟨dw, ew⟩ := hw.ex
  obtain ⟨dr, er⟩ := hw.ro.ex
  have na : a ≠ h := ne_of ew hx (by intro z; injection z with z _ _; exact n1 z.symm)
  have nr : r ≠ h := ne_of er hx (by intro z; injection z with z _ _; exact n2 z.symm)
  walk_at "go"
  refine v_sfld hx T.Half.cl T.nHw (by decide) fun H1 s1 e1 => ?_
  walk_at "go"
  refine .inr ⟨b, rfl, ?_⟩
  walk_at "go"
  refine v_sfld e1 T.Half.cl T.nHf (by show 1 < 1000; decide) fun H2 s2 e2 => ?_
  have ew2 := s2 _ _ (s1 _ _ ew na) na
  walk_at "go"
  refine v_fld ew2 T.Wall.cl T.nWp wallF_p ?_
  walk_at "go"
  refine v_sfld e2 T.Half.cl T.nHp (by show 2 < 1000; decide) fun H3 s3 e3 => ?_
  have ew3 := s3 _ _ ew2 na
  have er3 := s3 _ _ (s2 _ _ (s1 _ _ er nr) nr) nr
  walk_at "go"
  refine v_fld ew3 T.Wall.cl T.nWr wallF_r ?_
  walk_at "go"
  refine v_fld er3 T.Room.cl T.nNm roomF_n ?_
  walk_at "go"
  refine v_fld ew3 T.Wall.cl T.nWk wallF_k ?_
  walk_at "go"
  refine v_fld e3 T.Half.cl T.nHf (by rw [lookup_putF, if_neg nhfp, lookup_putF, if_pos rfl]) ?_
  walk_at "go"
  intro t H4 ht s4 e4
  walk_at "go"
  refine v_sfld (s4 _ _ e3) T.Half.cl T.nHo (by show 3 < 1000; decide) fun H5 s5 e5 => ?_
  have nt : t ≠ h := (ne_of_none e3 ht).symm
  exact q H5 (fun b' o hb nb => s5 _ _ (s4 _ _ (s3 _ _ (s2 _ _ (s1 _ _ hb nb) nb) nb)) nb) ⟨⟨dx, t, e5, s5 _ _ e4 nt⟩, ⟨⟨dw, s5 _ _ (s4 _ _ ew3) na⟩, ⟨dr, s5 _ _ (s4 _ _ er3) nr⟩⟩⟩
end
end
section
open PySem PySem.Spec L2
structure TxtL (K : PySem.W.Frag) (mg : Str → Option Value) (C R O W : Addr) : Prop extends TxtW K mg C R O W where
  range : mg "range" = none
  min : mg "min" = none
section
variable {P : Program} {w : World} {K : PySem.W.Frag} {mg : Str → Option Value} {base : Heap} {C R O W e0 : Addr}
end
end
section
open PySem PySem.Spec L2
/-- the half at h: of the wall of the door s behind a, b tells the far side -/
structure HalfOn (HC W R C : Addr) (H : Hp) (h : Addr) (ls : List Nat) (fn : Nat → List Nat) (a : List Nat) (s : Nat) (b : Bool) : Prop where
  ex : ∃ wa r x, HalfAt HC W R H h wa r x s (startC fn (nameOf fn a) s) b ∧ PlanAt C H x (ascOf ls) (tabPairs ls fn)
theorem HalfOn.same {HC W R C : Addr} {H H1 : Hp} {h : Addr} {ls : List Nat} {fn : Nat → List Nat} {a : List Nat} {s : Nat} {b : Bool} (z : HalfOn HC W R C H h ls fn a s b) (e : Same H H1) : HalfOn HC W R C H1 h ls fn a s b := by
  obtain ⟨wa, r, x, h1, h2⟩ := z.ex
  exact ⟨wa, r, x, h1.same e, h2.same e⟩
def spBesideF (C R W HC : Addr) : Sp := fun vs H Q _ => ∃ (r x : Addr) (ls : List Nat) (fn : Nat → List Nat) (a : List Nat) (s : Nat), vs = [.ref r, .str (tx [s])] ∧ RoomAt R H r x (nameOf fn a) ∧ PlanAt C H x (ascOf ls) (tabPairs ls fn) ∧ Fl ls fn ∧ (∀ c ∈ a, c ∈ ls) ∧ s ∈ ls ∧ a.length < 1900 ∧ HC ≠ W ∧ HC ≠ R ∧
  ∀ h wa r' H', H h = none → Same H H' → HalfAt HC W R H' h wa r' x s (startC fn (nameOf fn a) s) (decide (BeyP fn a s a)) → Q (.ref h) H'
def spInvert (R W HC : Addr) : Sp := fun vs H Q _ => ∃ (h wa r x : Addr) (k : Nat) (m : List Nat) (b : Bool), vs = [.ref h] ∧ HalfAt HC W R H h wa r x k m b ∧ HC ≠ W ∧ HC ≠ R ∧ ∀ h' H', H h' = none → Same H H' → HalfAt HC W R H' h' wa r x k m (!b) → Q (.ref h') H'
def spHalfEq (C R W HC : Addr) : Sp := fun vs H Q _ => ∃ (h wa r x : Addr) (k : Nat) (m : List Nat) (b : Bool) (h' wa' r' x' : Addr) (k' : Nat) (m' : List Nat) (b' e : Bool), vs = [.ref h, .ref h'] ∧ HalfAt HC W R H h wa r x k m b ∧ HalfAt HC W R H h' wa' r' x' k' m' b' ∧ Plans2 C H x x' e ∧ (∀ c ∈ m, c < 1000) ∧ (∀ c ∈ m', c < 1000) ∧ k < 1000 ∧ k' < 1000 ∧
  Q (.bl (e && decide (m = m' ∧ k = k' ∧ b = b'))) H
theorem v_eqSide {K : PySem.W.Frag} {H : Hp} {Q : VK} {p q : Addr} {m m' : List Nat} {k k' : Nat} {b b' : Bool} (h1 : H p = some (.tup [.str (tx m), .str (tx [k]), .bl b])) (h2 : H q = some (.tup [.str (tx m'), .str (tx [k']), .bl b'])) (hm : ∀ c ∈ m, c < 1000) (hm' : ∀ c ∈ m', c < 1000) (hk : k < 1000) (hk' : k' < 1000) (r : Q (.bl (decide (m = m' ∧ k = k' ∧ b = b'))) H) : rEqD K (.ref p) (.ref q) H Q := by
  have sh : ∀ {m : List Nat} {k : Nat} {b : Bool}, (∀ c ∈ m, c < 1000) → k < 1000 → SeqAt.shaped (.tuple [.str (tx m), .str (tx [k]), .bool b]) = true := fun {m k b} hm hk => by
    have h2 : (PyData.tuple [.str (tx m), .str (tx [k]), .bool b]).depth ≤ 64 := by simp [PyData.depth, PyData.depthAll]
    have o2 := ok_tx (l := [k]) (fun c hc => by rw [List.mem_singleton.mp hc]; exact hk)
    have h3 : (PyData.tuple [.str (tx m), .str (tx [k]), .bool b]).canLay0 = true := by simp [PyData.canLay0, PyData.canLayAll0, ok_tx hm, o2]
    simp [SeqAt.shaped, h2, h3]
  refine ⟨_, _, .tup (SqT.of h1) (.cons (.str _) (.cons (.str _) (.cons (.bl _) .nil))), .tup (SqT.of h2) (.cons (.str _) (.cons (.str _) (.cons (.bl _) .nil))), sh hm hk, sh hm' hk', ?_⟩
  have e : PyData.eqv (.tuple [.str (tx m), .str (tx [k]), .bool b]) (.tuple [.str (tx m'), .str (tx [k']), .bool b']) = decide (m = m' ∧ k = k' ∧ b = b') := by
    simp only [PyData.eqv, PyData.eqvAll, Bool.and_true]
    rw [Bool.eq_iff_iff]
    simp [tx_inj]
  rw [e]
  exact r
section
variable {P : Program} {w : World} {K : PySem.W.Frag} {mg : Str → Option Value} {base : Heap} {C R O W HC : Addr}
abbrev stHalf_beside : Stmt := (inClass (top 73) 1)
abbrev NHalf_beside : List Str := ["room", "kind", "wall"]
theorem scHalf_beside : FnScope NHalf_beside ["room", "kind"] (defScope stHalf_beside) := ⟨rfl, rfl, rfl, by decide +kernel, rfl, by decide +kernel, by decide +kernel⟩

theorem ok_Half_beside (F : StAt K HC "beside" "Half.beside" stHalf_beside) (T : TxtHf K mg C R O W HC) (C_Wall : CDef P w K mg base CX0 5 "Wall" W (spWall C R W)) (M_Wall_beyond : MDef P w K mg base CX0 5 W "beyond" ["self", "room"] (calmOf (spBeyond C R O W))) (C_Half : CDef P w K mg base CX0 1 "Half" HC (spHalf C R W HC)) : StDef P w K mg base CX0 7 HC "beside" (spBesideF C R W HC) := by
  refine F.ok scHalf_beside (fun _ _ _ _ _ _ us hl => match us, hl with | [_, _], _ => rfl) (fun vs H Q E h => ?_) (fun f cdv A outer s H vs Q E hr h => ?_)
  · obtain ⟨r, x, ls, fn, a, s, rfl, _⟩ := h
    rfl
  obtain ⟨r, x, ls, fn, a, s0, rfl, ro, pl, fl, ha, hs, la, n1, n2, q⟩ := h
  have hu := hu_of hr
  have nd := scHalf_beside.nd
  replace M_Wall_beyond := M_Wall_beyond.mono (show 5 ≤ 6 by decide)
  replace C_Half := C_Half.mono (show 1 ≤ 5 by decide)
  refine ⟨_, (pss_cons (ps_set (i := 2) nd rfl (Or.inl rfl) (pe_mk C_Wall hr pass0 (pa_cons (pv 0) (pa_cons (pv 1) pa_nil))))
      (pss_one (ps_ret (pe_mk C_Half hr pass0 (pa_cons (pv 2) (pa_cons (pe_md M_Wall_beyond T.Wall.cl hr pass0 (pv 2) (pa_cons (pv 0) pa_nil)) pa_nil)))))), ?_⟩
  refine s_start [some _, some _, none] rfl ?_
  have nl := name_len fn a
  walk_at "go"
  refine sp_wall fl ro pl ha hs (by omega) fun wa r' H1 hwa s1 wl => ?_
  have mm : ∀ c ∈ startC fn (nameOf fn a) s0, c ∈ ls := fun c hc => (start_mem hc).elim (fun e => e ▸ hs) fun h => ha c (name_mem h)
  have ml := start_len fl.ok (nameOf fn a) s0
  have ml2 : (startC fn (joinC fn [] a) s0).length ≤ 1900 := by
    show (startC fn (nameOf fn a) s0).length ≤ 1900
    omega
  have pl1 := pl.same s1
  walk_at "go2"
  obtain ⟨dw, ew⟩ := wl.ex
  refine ⟨wa, dw, _, rfl, ew, wallF_no (by decide +kernel) (by decide +kernel) (by decide +kernel), ?_⟩
  walk_at "go2"
  refine sp_beyond fl wl (ro.same s1) pl1 pl1 mm (start_NF fl.ok (name_NF fl.ok a) s0) hs ha (by omega) (by omega) fun H2 s2 => ?_
  rw [show decide (desc fn s0 (wayC fn (startC fn (nameOf fn a) s0) a)) = decide (BeyP fn a s0 a) from decide_eq_decide.mpr Iff.rfl]
  walk_at "go2"
  refine ⟨wa, r', x, s0, _, _, rfl, wl.same s2, n1, n2, fun h H3 hh s3 z => ?_⟩
  walk_at "go2"
  exact q h wa r' H3 (L2.Same.free s1 (L2.Same.free s2 hh)) ((s1.trans s2).trans s3) z
abbrev stHalf_invert : Stmt := (inClass (top 73) 3)
abbrev NHalf_invert : List Str := ["self"]
theorem scHalf_invert : FnScope NHalf_invert ["self"] (defScope stHalf_invert) := ⟨rfl, rfl, rfl, by decide +kernel, rfl, by decide +kernel, by decide +kernel⟩

theorem ok_Half_invert (F : MAt K HC "__invert__" "Half.__invert__" stHalf_invert) (T : TxtHf K mg C R O W HC) (C_Half : CDef P w K mg base CX0 1 "Half" HC (spHalf C R W HC)) : MDef P w K mg base CX0 3 HC "__invert__" ["self"] (spInvert R W HC) := by
  refine F.ok scHalf_invert (fun _ _ _ _ _ _ us hl => match us, hl with | [_], _ => rfl) (fun vs H Q E h => ?_) (fun f cdv A outer s H vs Q E hr h => ?_)
  · obtain ⟨h, wa, r, x, k, m, b, rfl, _⟩ := h
    rfl
  obtain ⟨h, wa, r, x, k, m, b, rfl, hh, n1, n2, q⟩ := h
  have hu := hu_of hr
  have nd := scHalf_invert.nd
  refine ⟨_, (pss_one (ps_ret (pe_mk C_Half hr pass0 (pa_cons (pe_flK (K := K) rfl (pv 0) rfl) (pa_cons (pe_not (pe_flK (K := K) rfl (pv 0) rfl)) pa_nil))))), ?_⟩
  refine s_start [some _] rfl ?_
  obtain ⟨dx, t, e1, e2⟩ := hh.ex
  walk_at "go"
  refine v_fld e1 T.Half.cl T.nHw halfF_w ?_
  walk_at "go"
  refine v_fld e1 T.Half.cl T.nHf halfF_f ?_
  walk_at "go"
  refine ⟨wa, r, x, k, m, !b, rfl, hh.wall, n1, n2, fun h' H1 hh' s1 z => ?_⟩
  exact q h' H1 hh' s1 z
abbrev stHalf_eq : Stmt := (inClass (top 73) 6)
abbrev NHalf_eq : List Str := ["self", "other"]
theorem scHalf_eq : FnScope NHalf_eq ["self", "other"] (defScope stHalf_eq) := ⟨rfl, rfl, rfl, by decide +kernel, rfl, by decide +kernel, by decide +kernel⟩

theorem ok_Half_eq (F : MAt K HC "__eq__" "Half.__eq__" stHalf_eq) (T : TxtHf K mg C R O W HC) (M_Plan_eq : MDef P w K mg base CX0 1 C "__eq__" ["self", "other"] (spPlanEq C)) : MDef P w K mg base CX0 3 HC "__eq__" ["self", "other"] (spHalfEq C R W HC) := by
  refine F.ok scHalf_eq (fun _ _ _ _ _ _ us hl => match us, hl with | [_, _], _ => rfl) (fun vs H Q E h => ?_) (fun f cdv A outer s H vs Q E hr h => ?_)
  · obtain ⟨h, wa, r, x, k, m, b, h', wa', r', x', k', m', b', e, rfl, _⟩ := h
    rfl
  obtain ⟨h, wa, r, x, k, m, b, h', wa', r', x', k', m', b', e, rfl, h1, h2, pp, m1, m2, k1, k2, q⟩ := h
  have hu := hu_of hr
  have nd := scHalf_eq.nd
  replace M_Plan_eq := M_Plan_eq.mono (show 1 ≤ 2 by decide)
  refine ⟨_, (pss_one (ps_ret (pe_and (pe_callB (c_isiK (K := K) rfl) (by rfl) T.isinstance (by decide +kernel) (pa_cons (pv 1) (pa_cons (pe_globC T.Half.at) pa_nil))) (pe_and (pe_cmpR (op_cmpM (op := .Eq) (fun _ _ => rfl) M_Plan_eq hr pass0) (pe_flK (K := K) rfl (pv 0) rfl) (pe_flK (K := K) rfl (pv 1) rfl) (nomark _)) (pe_one (pe_cmpR (op_eqDK (K := K) rfl hr.units) (pe_flK (K := K) rfl (pv 0) rfl) (pe_flK (K := K) rfl (pv 1) rfl) (nomark _))))))), ?_⟩
  refine s_start [some _, some _] rfl ?_
  obtain ⟨dx, t, e1, e2⟩ := h1.ex
  obtain ⟨dy, t', f1, f2⟩ := h2.ex
  obtain ⟨ks, ks', ps, ps', p1, p2, o1, o2, rfl⟩ := pp
  obtain ⟨d1, u1, u2, a1, _⟩ := p1.ex
  obtain ⟨d2, v1, v2, b1, _⟩ := p2.ex
  walk_at "go"
  refine v_isiC T.Half f1 ?_
  walk_at "go"
  refine v_fld e1 T.Half.cl T.nHp halfF_p ?_
  walk_at "go"
  refine v_fld f1 T.Half.cl T.nHp halfF_p ?_
  refine v_M2 a1 b1 ⟨x, x', _, _, _, _, rfl, p1, p2, o1, o2, ?_⟩
  cases hd : decide (ks = ks' ∧ ps = ps') with
  | false =>
    rw [hd, Bool.false_and] at q
    walk_at "go"
    exact q
  | true =>
    rw [hd, Bool.true_and] at q
    walk_at "go"
    refine v_fld e1 T.Half.cl T.nHo halfF_o ?_
    walk_at "go"
    refine v_fld f1 T.Half.cl T.nHo halfF_o ?_
    refine v_eqSide e2 f2 m1 m2 k1 k2 ?_
    exact q
end
end
section
open PySem PySem.Spec L2
theorem LastRun.mono {P : Program} {w : World} {K : PySem.W.Frag} {mg : Str → Option Value} {base : Heap} {CX : CXT} {j k : Nat} {f : Addr} (R : LastRun P w K mg base CX j f) (h : j ≤ k) : LastRun P w K mg base CX k f := fun A outer s H p q c t u Q E hr => R A outer s H p q c t u Q E (hr.mono h)
theorem LkRun.mono {P : Program} {w : World} {K : PySem.W.Frag} {mg : Str → Option Value} {base : Heap} {j k : Nat} {f : Addr} {sp : Sp} (R : LkRun P w K mg base j f sp) (h : j ≤ k) : LkRun P w K mg base k f sp := fun A outer s H a l us Q hr => R A outer s H a l us Q (hr.mono h)
structure LastDef (P : Program) (w : World) (K : PySem.W.Frag) (mg : Str → Option Value) (base : Heap) (k : Nat) : Prop where
  ex : ∃ f, mg "without_last" = some (.ref f) ∧ PySem.W.keepIn K (.ref f) = true ∧ LastRun P w K mg base CX0 k f
structure LkDef (P : Program) (w : World) (K : PySem.W.Frag) (mg : Str → Option Value) (base : Heap) (C : Addr) (k : Nat) : Prop where
  ex : ∃ f, mg "last_kinds" = some (.ref f) ∧ PySem.W.keepIn K (.ref f) = true ∧ LkRun P w K mg base k f (spFirst C)
/-- what is left of a way behind which letters of B are cut away -/
structure Strip (ls : List Nat) (f : Nat → List Nat) (B w0 w : List Nat) : Prop where
  red : Red f w
  mem : ∀ y ∈ w, y ∈ ls
  len : w.length ≤ w0.length
  ex : ∃ z, (∀ y ∈ z, y ∈ ls) ∧ (∀ y ∈ z, y ∈ B) ∧ (∀ h, act f w0 h = act f (w ++ z) h) ∧ w.length + z.length ≤ w0.length
theorem desc_other {f : Nat → List Nat} {t c : Nat} (ne : c ≠ t) {q : List Nat} : ∀ {p : List Nat}, desc f t (p ++ c :: q) → desc f t (p ++ q)
  | [], h => h.elim (fun e => absurd e ne) fun z => z.2
  | y :: p, h => h.imp id fun z => ⟨z.1, desc_other ne z.2⟩
theorem Strip.step {ls : List Nat} {f : Nat → List Nat} {B w0 w p q : List Nat} {c : Nat} (S : Strip ls f B w0 w) (ok : CrOk f) (hB : c ∈ B) (hc : c ∈ ls) (e : w.reverse = p ++ c :: q) (hp : ∀ y ∈ p, y ∈ f c) : Strip ls f B w0 (p ++ q).reverse ∧ (p ++ q).reverse.length + 1 = w.length := by
  have ew : w = (p ++ c :: q).reverse := by rw [← e, List.reverse_reverse]
  have rr := S.red.rev
  rw [e] at rr
  have mm : ∀ y ∈ p ++ c :: q, y ∈ ls := fun y hy => S.mem y (List.mem_reverse.mp (by rw [e]; exact hy))
  have lw : (p ++ q).reverse.length + 1 = w.length := by
    rw [ew, List.length_reverse, List.length_reverse, List.length_append, List.length_append, List.length_cons]
    omega
  obtain ⟨z, z1, z2, z3, z4⟩ := S.ex
  have sl := S.len
  have act1 : ∀ h, act f (p ++ c :: q) h = act f (c :: (p ++ q)) h := fun h => by
    rw [act_app]
    show act f p (thr f c (act f q h)) = thr f c (act f (p ++ q) h)
    rw [act_comm ok hp, act_app]
  have act2 : ∀ h, act f w h = act f ((p ++ q).reverse ++ [c]) h := fun h => by
    have := act_rev_eq ok act1 h
    rw [List.reverse_cons] at this
    rw [ew]
    exact this
  refine ⟨⟨(Red_out ok hp rr).rev, fun y hy => ?_, by omega, c :: z, fun y hy => ?_, fun y hy => ?_, fun h => ?_, by rw [List.length_cons]; omega⟩, lw⟩
  · rcases List.mem_append.mp (List.mem_reverse.mp hy) with a | a
    · exact mm y (List.mem_append_left _ a)
    · exact mm y (List.mem_append_right _ (List.mem_cons_of_mem _ a))
  · rcases List.mem_cons.mp hy with rfl | a
    · exact hc
    · exact z1 y a
  · rcases List.mem_cons.mp hy with rfl | a
    · exact hB
    · exact z2 y a
  · rw [z3, act_app, act2, act_app, act_app]
    rfl
def spCutB (C : Addr) : Sp := fun vs H Q _ => ∃ (x : Addr) (ls : List Nat) (f : Nat → List Nat) (w0 B : List Nat), vs = [.ref x, .str (tx w0), .str (tx B)] ∧ PlanAt C H x (ascOf ls) (tabPairs ls f) ∧ Fl ls f ∧ Red f w0 ∧ (∀ y ∈ w0, y ∈ ls) ∧ w0.length ≤ 10000 ∧
  ∀ w H', Same H H' → Strip ls f B w0 w → (∀ t ∈ ls, t ∈ B → ¬ desc f t w.reverse) → Q (.str (tx w)) H'
section
variable {P : Program} {w : World} {K : PySem.W.Frag} {mg : Str → Option Value} {base : Heap} {C R O : Addr}
abbrev stwithout_last : Stmt := (top 20)
abbrev Nwithout_last : List Str := ["way", "kind"]
theorem scwithout_last : FnScope Nwithout_last ["way", "kind"] (defScope stwithout_last) := ⟨rfl, rfl, rfl, by decide +kernel, rfl, by decide +kernel, by decide +kernel⟩

theorem ok_without_last (F : FnAt K mg "without_last" stwithout_last) (D_without_first : CutDef P w K mg base 1) : LastDef P w K mg base 2 := by
  obtain ⟨f, fd, hm, F⟩ := F.ex
  obtain ⟨fc, hmc, hk, R⟩ := D_without_first.ex
  exact ⟨f, hm, F.kp, last_run F scwithout_last R hmc hk rfl (fun _ _ _ _ _ _ us hl => match us, hl with | [_, _], _ => rfl) rfl rfl rfl rfl rfl rfl rfl⟩
theorem ok_lk (F : FnAt K mg "last_kinds" stlast_kinds) (D_first_kinds : Def P w K mg base CX0 2 "first_kinds" ["plan", "way"] (spFirst C)) : LkDef P w K mg base C 3 := by
  obtain ⟨f, fd, hm, F⟩ := F.ex
  exact ⟨f, hm, F.kp, lk_run F sclast_kinds D_first_kinds rfl (fun _ _ _ _ _ _ us hl => match us, hl with | [_, _], _ => rfl) rfl rfl rfl rfl rfl rfl rfl rfl⟩
abbrev stcut_back : Stmt := (top 49)
abbrev Ncut_back : List Str := ["plan", "name", "kinds", "found", "going", "kind"]
theorem sccut_back : FnScope Ncut_back ["plan", "name", "kinds"] (defScope stcut_back) := ⟨rfl, rfl, rfl, by decide +kernel, rfl, by decide +kernel, by decide +kernel⟩

theorem ok_cut_back (F : FnAt K mg "cut_back" stcut_back) (D_last_kinds : LkDef P w K mg base C 3) (D_without_last : LastDef P w K mg base 2) : Def P w K mg base CX0 4 "cut_back" ["plan", "name", "kinds"] (spCutB C) := by
  refine F.ok sccut_back (fun _ _ _ _ _ _ us hl => match us, hl with | [_, _, _], _ => rfl) (fun vs H Q E h => ?_) (fun f cdv A outer s H vs Q E hr h => ?_)
  · obtain ⟨x, ls, f, w0, B, rfl, _⟩ := h
    rfl
  obtain ⟨x, ls, fn, w0, B, rfl, pl, fl, r0, m0, l0, k⟩ := h
  have hu := hu_of hr
  have nd := sccut_back.nd
  have ok := fl.ok
  obtain ⟨fk, hmk, hkk, Rk⟩ := D_last_kinds.ex
  obtain ⟨fc, hmc, hkc, Rc⟩ := D_without_last.ex
  replace Rc := Rc.mono (show 2 ≤ 3 by decide)
  refine ⟨_, (pss_cons (ps_set (i := 3) nd rfl (Or.inl rfl) (pv 1))
    (pss_cons (ps_set (i := 4) nd rfl (Or.inl rfl) pe_bl)
    (pss_cons (ps_while PassesOwn.never (pt_val (pv 4))
      (pss_cons (ps_set (i := 4) nd rfl (Or.inl rfl) pe_bl)
        (pss_one (ps_lettersT (ix := 5) PassesOwn.never rfl nd rfl rfl (pet_lk (i := 0) (j := 3) Rk hr rfl hmk hkk rfl (Or.inl rfl) rfl (Or.inl rfl))
          (psr_ifin (j := 2) rfl rfl (Or.inl rfl) (psr_last (ix := 5) (i := 3) (j := 3) (E := E0) Rc hr pass0 rfl hmc hkc nd rfl rfl rfl rfl rfl (Or.inl rfl) (by decide)
            (PSsR.of (pss_one (ps_set (i := 4) nd rfl (Or.inl rfl) pe_bl)))))))))
    (pss_one (ps_ret (pv 3)))))), ?_⟩
  refine s_start [some _, some _, some _, none, none, none] rfl ?_
  walk_at "go"
  refine s_while (fun n σ H' => ∃ (w : List Nat) (g : Bool) (z : Option V), n = 2 * w.length + (if g then 1 else 0) ∧ σ = [some (.ref x), some (.str (tx w0)), some (.str (tx B)), some (.str (tx w)), some (.bl g), z] ∧ Same H H' ∧ Strip ls fn B w0 w ∧ (g = false → ∀ t ∈ ls, t ∈ B → ¬ desc fn t w.reverse)) (2 * w0.length + 1) ⟨w0, true, _, rfl, rfl, Same.refl _, ⟨r0, m0, Nat.le_refl _, [], (fun y hy => nomatch hy), (fun y hy => nomatch hy), (fun h => by rw [List.append_nil]), Nat.le_refl _⟩, fun z => nomatch z⟩ ?_
  rintro n σ H4 ⟨w, g, z, rfl, rfl, s4, S, hg⟩
  walk_at "go"
  have sl := S.len
  refine if_bool (fun c => ?_) (fun c => ?_)
  · subst c
    refine v_turn ?_
    walk_at "go"
    have tl := fl.tab.len
    have la : (ascOf ls).length ≤ 1000 := by
      rw [asc_self fl]
      omega
    have mr : ∀ y ∈ w.reverse, y ∈ ls := fun y hy => S.mem y (List.mem_reverse.mp hy)
    refine ⟨.ref x, w, rfl, rfl, by omega, x, _, _, w.reverse, rfl, pl.same s4, inAsc fl.tab mr, la, by rw [List.length_reverse]; omega, fun H5 s5 => ?_⟩
    have s05 := s4.trans s5
    have Ln := firsts_nodup fl w.reverse
    have Lm := fun c => firsts_iff (k := c) fl mr
    have Ls := fun c => firsts_sub (k := c) (w := w.reverse) fl
    have Ll := firsts_len fl w.reverse
    generalize firstsOf (ascOf ls) (tabPairs ls fn) w.reverse = L at Ln Lm Ls Ll
    walk_at "go"
    refine for_it (walk_tx L) (fun i σ H' => ∃ (w1 : List Nat) (g : Bool) (z : Option V), σ = [some (.ref x), some (.str (tx w0)), some (.str (tx B)), some (.str (tx w1)), some (.bl g), z] ∧ H' = H5 ∧ Strip ls fn B w0 w1 ∧ (∀ t ∈ L.drop i, desc fn t w1.reverse) ∧ ((g = true ∧ w1.length < w.length) ∨ (g = false ∧ w1 = w ∧ ∀ t ∈ L.take i, ¬ t ∈ B))) ⟨w, false, _, rfl, rfl, S, fun t ht => (Lm t (Ls t ht)).mp ht, .inr ⟨rfl, rfl, fun t ht => by simp at ht⟩⟩ (fun _ _ _ _ _ => trivial) ?_ ?_
    · rintro i v σ H6 H7 hi ⟨w1, g, z, rfl, rfl, S1, h1, h2⟩ ⟨rfl, rfl⟩
      have dr : L.drop i = L.getD i 0 :: L.drop (i + 1) := by
        rw [List.drop_eq_getElem_cons hi, List.getD_eq_getElem?_getD, List.getElem?_eq_getElem hi]
        rfl
      have tk := take_getD hi
      have hc : L.getD i 0 ∈ ls := Ls _ (getD_mem hi)
      rw [dr] at h1
      have Ln2 : (L.getD i 0 :: L.drop (i + 1)).Nodup := by
        rw [← dr]
        exact Ln.sublist (List.drop_sublist _ _)
      rw [tk]
      generalize L.getD i 0 = c at hc h1 Ln2
      walk_at "go"
      refine ⟨c, B, rfl, rfl, ?_⟩
      by_cases hB : c ∈ B
      · rw [if_pos hB]
        obtain ⟨p, q, e, hp⟩ := desc_split (h1 c (List.mem_cons_self ..))
        have ncp : ¬ c ∈ p := fun z => ok.irr c (hp c z)
        obtain ⟨S2, l2⟩ := S1.step ok hB hc e hp
        have ew : w1 = (p ++ c :: q).reverse := by rw [← e, List.reverse_reverse]
        have sl1 := S1.len
        have lpq : (p ++ c :: q).length ≤ 1000000 := by
          rw [← e, List.length_reverse]
          omega
        walk_at "go"
        refine ⟨p, q, c, by rw [ew]; rfl, rfl, ncp, lpq, ?_⟩
        walk_at "go"
        refine ⟨_, true, _, rfl, rfl, S2, fun t ht => ?_, .inl ⟨rfl, ?_⟩⟩
        · have nt : c ≠ t := fun z => (List.nodup_cons.mp Ln2).1 (z ▸ ht)
          have := h1 t (List.mem_cons_of_mem _ ht)
          rw [e] at this
          rw [List.reverse_reverse]
          exact desc_other nt this
        · rcases h2 with ⟨_, z⟩ | ⟨_, z, _⟩
          · omega
          · rw [z] at l2
            omega
      · rw [if_neg hB]
        refine ⟨w1, g, _, rfl, rfl, S1, fun t ht => h1 t (List.mem_cons_of_mem _ ht), ?_⟩
        rcases h2 with z | ⟨a, b, d⟩
        · exact .inl z
        · refine .inr ⟨a, b, fun t ht => ?_⟩
          rcases List.mem_append.mp ht with y | y
          · exact d t y
          · rw [List.mem_singleton.mp y]
            exact hB
    · rintro σ H6 ⟨w1, g, z, rfl, rfl, S1, h1, h2⟩
      rw [List.take_of_length_le (Nat.le_refl _)] at h2
      refine ⟨_, ?_, w1, g, z, rfl, rfl, s05, S1, fun e t ht hB hd => ?_⟩
      · rcases h2 with ⟨rfl, z⟩ | ⟨rfl, rfl, _⟩
        · simp only [if_true]
          omega
        · simp
      · rcases h2 with ⟨a, _⟩ | ⟨_, rfl, d⟩
        · rw [a] at e
          cases e
        · exact d t ((Lm t ht).mpr hd) hB
  · subst c
    walk_at "go"
    exact k w H4 s4 S (hg rfl)
end
end
section
open PySem PySem.Spec L2
def spCrossesK (C : Addr) : Sp := fun vs H Q _ => ∃ (x : Addr) (ks : List Nat) (ps : List (List Nat)) (a b : Nat), vs = [.ref x, .str (tx [a]), .str (tx [b])] ∧ PlanAt C H x ks ps ∧ a ∈ ks ∧ b ∈ ks ∧ Q (.bl (decide (b ∈ crossOf ks ps a))) H
def spBesideK (C : Addr) : Sp := fun vs H Q _ => ∃ (x : Addr) (ls : List Nat) (f : Nat → List Nat) (k : Nat), vs = [.ref x, .str (tx [k])] ∧ PlanAt C H x (ascOf ls) (tabPairs ls f) ∧ Fl ls f ∧ k ∈ ls ∧ ∀ B H', Same H H' → (∀ c ∈ ls, c ∈ B ↔ c = k ∨ c ∈ f k) → (∀ c ∈ B, c ∈ ls) → Q (.str (tx B)) H'
def spGateOn (C : Addr) : Sp := fun vs H Q _ => ∃ (x t : Addr) (ls : List Nat) (f : Nat → List Nat) (m n : List Nat) (k : Nat) (b : Bool), vs = [.ref x, .ref t, .str (tx n)] ∧ PlanAt C H x (ascOf ls) (tabPairs ls f) ∧ Fl ls f ∧ H t = some (.tup [.str (tx m), .str (tx [k]), .bl b]) ∧ NF f m ∧ NF f n ∧ (∀ c ∈ m, c ∈ ls) ∧ (∀ c ∈ n, c ∈ ls) ∧ k ∈ ls ∧ m.length ≤ 2000 ∧ n.length ≤ 2000 ∧
  ∀ g H', Same H H' → NF f g → (∀ c ∈ g, c ∈ ls) → g.length ≤ n.length + m.length + 1 → Gate f ls m k b n g → Q (.str (tx g)) H'
theorem on_bz {ls : List Nat} {f : Nat → List Nat} {m n : List Nat} {k : Nat} (fl : Fl ls f) (hm : NF f m) (hn : NF f n) (mm : ∀ c ∈ m, c ∈ ls) (mn : ∀ c ∈ n, c ∈ ls) (hk : k ∈ ls) : wayOf (ascOf ls) (tabPairs ls f) m n = wayC f m n ∧ (k ∈ firstsOf (ascOf ls) (tabPairs ls f) (wayOf (ascOf ls) (tabPairs ls f) m n) ↔ Bz f ls m k n) := by
  have e := way_tab fl mm mn
  rw [show joinC f [] m = m from (is_NF fl.ok).mpr hm, show joinC f [] n = n from (is_NF fl.ok).mpr hn] at e
  have mw : ∀ c ∈ wayC f m n, c ∈ ls := fun c hc => by
    rcases List.mem_append.mp (name_mem hc) with z | z
    · exact mm c (List.mem_reverse.mp z)
    · exact mn c z
  refine ⟨e, ?_⟩
  rw [e]
  exact (firsts_iff fl mw hk).trans ((ng_desc fl.ok (name_NF fl.ok (m.reverse ++ n)).red mw hk).symm.trans (ng_name fl.ok _ k))
theorem joinC_len2 (f : Nat → List Nat) : ∀ (way name : List Nat), (joinC f name way).length ≤ name.length + way.length
  | [], name => Nat.le_refl _
  | k :: r, name => by
    have h1 := joinC_len2 f r (stepOf (f k) name k)
    have h2 := stepOf_len (f k) name k
    show (joinC f (stepOf (f k) name k) r).length ≤ _
    rw [List.length_cons]
    omega
theorem planF_no {ks : List Nat} {t d : Addr} {m : Str} (h1 : ¬ m = "kinds") (h2 : ¬ m = "pairs") (h3 : ¬ m = "own_crossing") : (planF ks t d).lookup m = none := by
  unfold planF
  first
    | rw [lookup_putF, if_neg h3, lookup_putF, if_neg h2, lookup_putF, if_neg h1]; rfl
    | simp [lookup_putF, h1, h2, h3]
theorem beq_yes {p B : Prop} [Decidable p] {b : Bool} (h : p ↔ B) (on : B ↔ b = true) : (decide p == b) = true := by
  cases b with
  | true => rw [decide_eq_true (h.mpr (on.mpr rfl))]; rfl
  | false => rw [decide_eq_false fun z => (nomatch on.mp (h.mp z))]; rfl
theorem beq_no {p B : Prop} [Decidable p] {b : Bool} (h : p ↔ B) (on : ¬ (B ↔ b = true)) : (decide p == b) = false := by
  cases b with
  | true => rw [decide_eq_false fun z => on (iff_of_true (h.mp z) rfl)]; rfl
  | false => rw [decide_eq_true (Classical.byContradiction fun z => on (iff_of_false (fun y => z (h.mpr y)) (fun y => nomatch y)))]; rfl
section
variable {P : Program} {w : World} {K : PySem.W.Frag} {mg : Str → Option Value} {base : Heap} {C R O : Addr}
abbrev stPlan_crossesK : Stmt := (inClass (top 44) 6)
abbrev NPlan_crossesK : List Str := ["self", "a", "b", "partners"]
theorem scPlan_crossesK : FnScope NPlan_crossesK ["self", "a", "b"] (defScope stPlan_crossesK) := ⟨rfl, rfl, rfl, by decide +kernel, rfl, by decide +kernel, by decide +kernel⟩

theorem ok_Plan_crossesK (F : MAt K C "crosses" "Plan.crosses" stPlan_crossesK) (T : TxtP K mg C) (D_need_kind : Def P w K mg base CX0 2 "need_kind" ["plan", "value"] (spNeedKind C)) : MDef P w K mg base CX0 3 C "crosses" ["self", "a", "b"] (spCrossesK C) := by
  refine F.ok scPlan_crossesK (fun _ _ _ _ _ _ us hl => match us, hl with | [_, _, _], _ => rfl) (fun vs H Q E h => ?_) (fun f cdv A outer s H vs Q E hr h => ?_)
  · obtain ⟨x, ks, ps, a, b, rfl, _⟩ := h
    rfl
  obtain ⟨x, ks, ps, a, b, rfl, pl, ha, hb, q⟩ := h
  have hu := hu_of hr
  have nd := scPlan_crossesK.nd
  refine ⟨_, (pss_cons (ps_set (i := 3) nd rfl (Or.inl rfl) (pe_dget hu (pe_flK (K := K) rfl (pv 0) rfl) (pe_cd D_need_kind hr pass0 (pa_cons (pv 0) (pa_cons (pv 1) pa_nil))) (fun _ _ => rfl)))
      (pss_one (ps_ret (pe_cmpR op_inS (pe_cd D_need_kind hr pass0 (pa_cons (pv 0) (pa_cons (pv 2) pa_nil))) (pv 3) (by rfl))))), ?_⟩
  refine s_start [some _, some _, some _, none] rfl ?_
  obtain ⟨dx, t, d, a1, a2, a3⟩ := pl.ex
  walk_at "go"
  refine v_fld a1 T.Plan.cl T.nO planF_o ?_
  walk_at "go"
  refine ⟨x, ks, ps, a, rfl, pl, ha, ?_⟩
  walk_at "go"
  refine v_dget (dget_let (g := fun k => V.str (tx (crossOf ks ps k))) a3 ha) ?_
  walk_at "go"
  refine ⟨x, ks, ps, b, rfl, pl, hb, ?_⟩
  walk_at "go"
  exact q
abbrev stbeside_kinds : Stmt := (top 48)
abbrev Nbeside_kinds : List Str := ["plan", "kind", "other"]
theorem scbeside_kinds : FnScope Nbeside_kinds ["plan", "kind"] (defScope stbeside_kinds) := ⟨rfl, rfl, rfl, by decide +kernel, rfl, by decide +kernel, by decide +kernel⟩

theorem ok_beside_kinds (F : FnAt K mg "beside_kinds" stbeside_kinds) (T : TxtP K mg C) (M_Plan_crosses : MDef P w K mg base CX0 3 C "crosses" ["self", "a", "b"] (spCrossesK C)) : Def P w K mg base CX0 4 "beside_kinds" ["plan", "kind"] (spBesideK C) := by
  refine F.ok scbeside_kinds (fun _ _ _ _ _ _ us hl => match us, hl with | [_, _], _ => rfl) (fun vs H Q E h => ?_) (fun f cdv A outer s H vs Q E hr h => ?_)
  · obtain ⟨x, ls, f, k, rfl, _⟩ := h
    rfl
  obtain ⟨x, ls, fn, k, rfl, pl, fl, hk, q⟩ := h
  have hu := hu_of hr
  have nd := scbeside_kinds.nd
  refine ⟨_, (pss_one (ps_ret (pe_joinK (K := K) rfl (pe_tx [] (by decide +kernel)) (pe_lc (own := [("other", 2)]) (g := gName 2) (by rfl) nd (pi_str (pe_flK (K := K) rfl (pv 0) rfl)) (blkOk_by (own := [("other", 2)]) (N := Nbeside_kinds) (sc := defScope stbeside_kinds) (by decide +kernel)) (fun _ _ _ _ _ => (pg_name (i := 2) nd rfl (Or.inl rfl))) (fun _ _ _ _ _ => (pts_one (PW.pt (pw_or (pt_cmpR op_eq (pv 2) (pv 1) (nomark _)) (pw_or1 (pt_val (pe_md M_Plan_crosses T.Plan.cl hr pass0 (pv 0) (pa_cons (pv 1) (pa_cons (pv 2) pa_nil))))))))) (fun _ _ _ _ _ => (pv 2)))))), ?_⟩
  refine s_start [some _, some _, none] rfl ?_
  obtain ⟨dx, t, d, a1, a2, a3⟩ := pl.ex
  have asl := asc_self fl
  have tl := fl.tab.len
  have la : (ascOf ls).length ≤ 1000000 := by rw [asl]; omega
  have hka : k ∈ ascOf ls := by rw [asl]; exact hk
  walk_at "go"
  refine v_fld a1 T.Plan.cl T.nK planF_k ?_
  walk_at "go"
  refine v_lcS (l := ascOf ls) (b := fun c => decide (c = k) || decide (c ∈ crossOf (ascOf ls) (tabPairs ls fn) k)) (f := fun c => V.str (tx [c])) la (fun c hc H1 s1 R r => ?_) (fun c _ _ H1 s1 R r => ?_) (fun D H1 hD s1 e1 => ?_)
  · obtain ⟨dy, u1, u2, b1, _⟩ := (pl.same s1).ex
    walk_at "go"
    by_cases e : c = k
    · rw [e, decide_eq_true rfl]
      walk_at "go"
      rw [decide_eq_true e] at r
      exact r H1 (Same.refl _)
    · rw [decide_eq_false (show ¬ V.str (tx [c]) = V.str (tx [k]) from fun z => by
        injection z with z
        have := tx_inj.mp z
        injection this with this
        exact e this)]
      walk_at "go"
      refine ⟨x, dy, _, rfl, b1, planF_no (by decide +kernel) (by decide +kernel) (by decide +kernel), ?_⟩
      walk_at "go"
      refine ⟨x, _, _, k, c, rfl, pl.same s1, hka, hc, ?_⟩
      walk_at "go"
      rw [decide_eq_false e, Bool.false_or] at r
      exact r H1 (Same.refl _)
  · walk_at "go"
    exact r H1 (Same.refl _)
  walk_at "go"
  rw [strs_ones] at e1
  have hl2 := filt_len (p := fun c => decide (c = k) || decide (c ∈ crossOf (ascOf ls) (tabPairs ls fn) k)) (l := ascOf ls)
  refine v_join e1 (by rw [flat_ones]; omega) ?_
  rw [flat_ones]
  refine q _ H1 s1 (fun c hc => ?_) fun c hc => by
    have := (List.mem_filter.mp hc).1
    rw [asl] at this
    exact this
  rw [List.mem_filter, Bool.or_eq_true, decide_eq_true_iff, decide_eq_true_iff, asl]
  have ct := cross_tab fl.tab hk hc
  rw [asl] at ct
  exact ⟨fun z => z.2.imp id fun y => ct.mp y, fun z => ⟨hc, z.imp id fun y => ct.mpr y⟩⟩
abbrev stgate_on : Stmt := (top 52)
abbrev Ngate_on : List Str := ["plan", "side", "name", "way"]
theorem scgate_on : FnScope Ngate_on ["plan", "side", "name"] (defScope stgate_on) := ⟨rfl, rfl, rfl, by decide +kernel, rfl, by decide +kernel, by decide +kernel⟩

theorem ok_gate_on (F : FnAt K mg "gate_on" stgate_on) (D_is_on : Def P w K mg base CX0 5 "is_on" ["plan", "side", "name"] (spOn C)) (D_cut_back : Def P w K mg base CX0 4 "cut_back" ["plan", "name", "kinds"] (spCutB C)) (D_way_between : Def P w K mg base CX0 4 "way_between" ["plan", "one", "other"] (spWayFrom C)) (D_beside_kinds : Def P w K mg base CX0 4 "beside_kinds" ["plan", "kind"] (spBesideK C)) (D_joined : Def P w K mg base CX0 2 "joined" ["plan", "name", "way"] (spJoined C)) : Def P w K mg base CX0 6 "gate_on" ["plan", "side", "name"] (spGateOn C) := by
  refine F.ok scgate_on (fun _ _ _ _ _ _ us hl => match us, hl with | [_, _, _], _ => rfl) (fun vs H Q E h => ?_) (fun f cdv A outer s H vs Q E hr h => ?_)
  · obtain ⟨x, t, ls, f, m, n, k, b, rfl, _⟩ := h
    rfl
  obtain ⟨x, t, ls, fn, m, n, k0, b, rfl, pl, fl, ht, nm, nn, mm, mn, hk, lm, ln, q⟩ := h
  have hu := hu_of hr
  have nd := scgate_on.nd
  replace D_cut_back := D_cut_back.mono (show 4 ≤ 5 by decide)
  replace D_way_between := D_way_between.mono (show 4 ≤ 5 by decide)
  replace D_beside_kinds := D_beside_kinds.mono (show 4 ≤ 5 by decide)
  replace D_joined := D_joined.mono (show 2 ≤ 5 by decide)
  refine ⟨_, (pss_cons (ps_if (pt_val (pe_cd D_is_on hr pass0 (pa_cons (pv 0) (pa_cons (pv 1) (pa_cons (pv 2) pa_nil)))))
      (pss_one (ps_ret (pv 2)))
      pss_nil)
      (pss_cons (ps_set (i := 3) nd rfl (Or.inl rfl) (pe_cd D_cut_back hr pass0 (pa_cons (pv 0) (pa_cons (pe_cd D_way_between hr pass0 (pa_cons (pv 0) (pa_cons (pv 2) (pa_cons (pe_ix (ix_TK (K := K) rfl) (pv 1) pe_int (fun _ _ => rfl)) pa_nil)))) (pa_cons (pe_cd D_beside_kinds hr pass0 (pa_cons (pv 0) (pa_cons (pe_ix (ix_TK (K := K) rfl) (pv 1) pe_int (fun _ _ => rfl)) pa_nil))) pa_nil)))))
      (pss_one (ps_ret (pe_cd D_joined hr pass0 (pa_cons (pv 0) (pa_cons (pv 2) (pa_cons (pe_op op_addS (pv 3) (pe_ix (ix_TK (K := K) rfl) (pv 1) pe_int (fun _ _ => rfl))) pa_nil)))))))), ?_⟩
  refine s_start [some _, some _, some _, none] rfl ?_
  have ok := fl.ok
  have tl := fl.tab.len
  have asl := asc_self fl
  obtain ⟨ew, eb⟩ := on_bz fl nm nn mm mn hk
  obtain ⟨ew2, _⟩ := on_bz fl nn nm mn mm hk
  walk_at "go"
  refine ⟨x, t, _, _, m, n, k0, b, rfl, pl, ht, inAsc fl.tab mm, inAsc fl.tab mn, by rw [asl]; omega, lm, ln, fun H1 s1 => ?_⟩
  by_cases on : Bz fn ls m k0 n ↔ b = true
  · rw [beq_yes eb on]
    walk_at "go"
    exact q n H1 s1 nn mn (by omega) (.inl ⟨on, fun _ => rfl⟩)
  rw [beq_no eb on]
  walk_at "go"
  have at0 : atI [V.str (tx m), .str (tx [k0]), .bl b] 0 = some (.str (tx m)) := rfl
  have at1 : atI [V.str (tx m), .str (tx [k0]), .bl b] 1 = some (.str (tx [k0])) := rfl
  refine v_ixT (s1 _ _ ht) at0 ?_
  walk_at "go"
  refine ⟨x, _, _, n, m, rfl, pl.same s1, inAsc fl.tab mn, inAsc fl.tab mm, by omega, by omega, ?_⟩
  rw [ew2]
  walk_at "go"
  refine v_ixT (s1 _ _ ht) at1 ?_
  walk_at "go"
  refine ⟨x, ls, fn, k0, rfl, pl.same s1, fl, hk, fun B H2 s2 hB hB2 => ?_⟩
  have s02 := s1.trans s2
  walk_at "go"
  have mw : ∀ c ∈ wayC fn n m, c ∈ ls := fun c hc => by
    rcases List.mem_append.mp (name_mem hc) with z | z
    · exact mn c (List.mem_reverse.mp z)
    · exact mm c z
  have lw : (wayC fn n m).length ≤ n.length + m.length := by
    have := name_len fn (n.reverse ++ m)
    rw [List.length_append, List.length_reverse] at this
    exact this
  refine ⟨x, ls, fn, _, B, rfl, pl.same s02, fl, (name_NF ok _).red, mw, by omega, fun w H3 s3 S hl => ?_⟩
  have s03 := s02.trans s3
  have sl := S.len
  have zz : w.length + [k0].length ≤ 1000000 := by rw [List.length_singleton]; omega
  walk_at "go"
  refine v_ixT (s03 _ _ ht) at1 ?_
  walk_at "go"
  have mwk : ∀ c ∈ w ++ [k0], c ∈ ls := fun c hc => (List.mem_append.mp hc).elim (S.mem c) fun z => List.mem_singleton.mp z ▸ hk
  refine ⟨x, _, _, n, w ++ [k0], rfl, pl.same s03, inAsc fl.tab mwk, by rw [List.length_append, List.length_singleton]; omega, ?_⟩
  rw [joinOf_tab fl.tab mn mwk]
  obtain ⟨z, z1, z2, z3, z4⟩ := S.ex
  have jl := joinC_len2 fn (w ++ [k0]) n
  rw [List.length_append, List.length_singleton] at jl
  have jl2 : (joinC fn n (w ++ [k0])).length ≤ m.length + z.length + 1 := by
    have mzr : ∀ y ∈ m ++ (z.reverse ++ [k0]), y ∈ ls := fun y hy => by
      rcases List.mem_append.mp hy with h | h
      · exact mm y h
      rcases List.mem_append.mp h with h | h
      · exact z1 y (List.mem_reverse.mp h)
      · exact List.mem_singleton.mp h ▸ hk
    have e : joinC fn n (w ++ [k0]) = nameOf fn (m ++ (z.reverse ++ [k0])) := by
      refine NF.uniq ok (NF_join ok nn) (name_NF ok _) (fun c hc => (joinC_mem' hc).elim (mn c) (mwk c)) (fun c hc => mzr c (name_mem hc)) fun x _ s => ?_
      rw [act_join ok, name_act ok]
      have key : ∀ h, act fn (n.reverse ++ m) h = act fn (w ++ z) h := fun h => by rw [← z3]; exact (name_act ok (n.reverse ++ m) h).symm
      have k2 : ∀ h, act fn (n ++ w) h = act fn (m ++ z.reverse) h := fun h => by
        have e1 : act fn m (act fn z.reverse h) = act fn n (act fn (n.reverse ++ m) (act fn z.reverse h)) := by rw [act_app, act_rev' ok]
        rw [act_app, act_app, e1, key, act_app, act_rev' ok]
      have k3 := k2 (act fn [k0] (unit x))
      rw [← act_app, ← act_app] at k3
      rw [← List.append_assoc, ← List.append_assoc, k3]
    rw [e]
    have := name_len fn (m ++ (z.reverse ++ [k0]))
    simp only [List.length_append, List.length_reverse, List.length_singleton] at this
    omega
  refine q _ H3 s03 (NF_join ok nn) (fun c hc => (joinC_mem' hc).elim (mn c) (mwk c)) (by omega) (.inr ⟨on, w, ⟨S.mem, S.red, ⟨z, z1, fun y hy => ?_, fun h => ?_⟩, fun y hy hs => hl y hy ((hB y hy).mpr hs.symm)⟩, fun h => act_join ok _ _ h⟩)
  · exact ((hB y (z1 y hy)).mp (z2 y hy)).symm
  · rw [← z3]
    exact (name_act ok (n.reverse ++ m) h).symm
end
end
section
open PySem PySem.Spec L2
/-- what the program answers of two sides -/
def MeetR (f : Nat → List Nat) (ls m : List Nat) (s : Nat) (b1 : Bool) (n : List Nat) (t : Nat) (b2 r : Bool) : Prop :=
  ((s = t ∧ m = n) → r = (b1 == b2)) ∧ (¬ (s = t ∧ m = n) → ∀ w1 w2, (∀ y ∈ w1, y ∈ ls) → (∀ y ∈ w2, y ∈ ls) → Tch f m s w1 → Tch f n t w2 → (r = true ↔ act f (wayC f m n) (bt f t) s = 0 ∨ (Bz f ls m s w2 ↔ b1 = true) ∨ (Bz f ls n t w1 ↔ b2 = true)))
def spTurnS : Sp := fun vs H Q _ => ∃ (p : Addr) (m : List Nat) (k : Nat) (b : Bool), vs = [.ref p] ∧ H p = some (.tup [.str (tx m), .str (tx [k]), .bl b]) ∧ ∀ q H', Same H H' → H' q = some (.tup [.str (tx m), .str (tx [k]), .bl (!b)]) → Q (.ref q) H'
def spMeetS (C : Addr) : Sp := fun vs H Q _ => ∃ (x p1 p2 : Addr) (ls : List Nat) (f : Nat → List Nat) (m n : List Nat) (s t : Nat) (b1 b2 : Bool), vs = [.ref x, .ref p1, .ref p2] ∧ PlanAt C H x (ascOf ls) (tabPairs ls f) ∧ Fl ls f ∧ H p1 = some (.tup [.str (tx m), .str (tx [s]), .bl b1]) ∧ H p2 = some (.tup [.str (tx n), .str (tx [t]), .bl b2]) ∧ W2 f ls m s n t ∧ m.length ≤ 500 ∧ n.length ≤ 500 ∧
  ∀ r H', Same H H' → MeetR f ls m s b1 n t b2 r → Q (.bl r) H'
def spLiesS (C : Addr) : Sp := fun vs H Q _ => ∃ (x p1 p2 : Addr) (ls : List Nat) (f : Nat → List Nat) (m n : List Nat) (s t : Nat) (b1 b2 : Bool), vs = [.ref x, .ref p1, .ref p2] ∧ PlanAt C H x (ascOf ls) (tabPairs ls f) ∧ Fl ls f ∧ H p1 = some (.tup [.str (tx m), .str (tx [s]), .bl b1]) ∧ H p2 = some (.tup [.str (tx n), .str (tx [t]), .bl b2]) ∧ W2 f ls m s n t ∧ m.length ≤ 500 ∧ n.length ≤ 500 ∧
  ∀ r H', Same H H' → MeetR f ls m s b1 n t (!b2) r → Q (.bl (!r)) H'
theorem v_eqT2 {K : PySem.W.Frag} {H : Hp} {Q : VK} {p q : Addr} {m m' : List Nat} {k k' : Nat} (h1 : H p = some (.tup [.str (tx m), .str (tx [k])])) (h2 : H q = some (.tup [.str (tx m'), .str (tx [k'])])) (hm : ∀ c ∈ m, c < 1000) (hm' : ∀ c ∈ m', c < 1000) (hk : k < 1000) (hk' : k' < 1000) (r : Q (.bl (decide (k = k' ∧ m = m'))) H) : rEqD K (.ref p) (.ref q) H Q := by
  have sh : ∀ {m : List Nat} {k : Nat}, (∀ c ∈ m, c < 1000) → k < 1000 → SeqAt.shaped (.tuple [.str (tx m), .str (tx [k])]) = true := fun {m k} hm hk => by
    have h2 : (PyData.tuple [.str (tx m), .str (tx [k])]).depth ≤ 64 := by simp [PyData.depth, PyData.depthAll]
    have o2 := ok_tx (l := [k]) (fun c hc => by rw [List.mem_singleton.mp hc]; exact hk)
    have h3 : (PyData.tuple [.str (tx m), .str (tx [k])]).canLay0 = true := by simp [PyData.canLay0, PyData.canLayAll0, ok_tx hm, o2]
    simp [SeqAt.shaped, h2, h3]
  refine ⟨_, _, .tup (SqT.of h1) (.cons (.str _) (.cons (.str _) .nil)), .tup (SqT.of h2) (.cons (.str _) (.cons (.str _) .nil)), sh hm hk, sh hm' hk', ?_⟩
  have e : PyData.eqv (.tuple [.str (tx m), .str (tx [k])]) (.tuple [.str (tx m'), .str (tx [k'])]) = decide (k = k' ∧ m = m') := by
    simp only [PyData.eqv, PyData.eqvAll, Bool.and_true]
    rw [Bool.eq_iff_iff]
    simp [tx_inj, and_comm]
  rw [e]
  exact r
theorem let_small {ls : List Nat} {f : Nat → List Nat} (fl : Fl ls f) {m : List Nat} (mm : ∀ c ∈ m, c ∈ ls) : ∀ c ∈ m, c < 1000 := fun c hc => by
  have let_lt : ∀ c ∈ LET, c < 1000 := by decide
  exact let_lt c (fl.tab.lt c (mm c hc))
section
variable {P : Program} {w : World} {K : PySem.W.Frag} {mg : Str → Option Value} {base : Heap} {C R O W HC : Addr}
abbrev stturnS : Stmt := (top 50)
abbrev NturnS : List Str := ["side"]
theorem scturnS : FnScope NturnS ["side"] (defScope stturnS) := ⟨rfl, rfl, rfl, by decide +kernel, rfl, by decide +kernel, by decide +kernel⟩

theorem ok_turnS (F : FnAt K mg "turned" stturnS) : Def P w K mg base CX0 1 "turned" ["side"] spTurnS := by
  refine F.ok scturnS (fun _ _ _ _ _ _ us hl => match us, hl with | [_], _ => rfl) (fun vs H Q E h => ?_) (fun f cdv A outer s H vs Q E hr h => ?_)
  · obtain ⟨p, m, k, b, rfl, _⟩ := h
    rfl
  obtain ⟨p, m, k, b, rfl, h1, q⟩ := h
  have hu := hu_of hr
  have nd := scturnS.nd
  refine ⟨_, (pss_one (ps_ret (pe_tup (pa_cons (pe_ix (ix_TK (K := K) rfl) (pv 0) pe_int (fun _ _ => rfl)) (pa_cons (pe_ix (ix_TK (K := K) rfl) (pv 0) pe_int (fun _ _ => rfl)) (pa_cons (pe_not (pe_ix (ix_TK (K := K) rfl) (pv 0) pe_int (fun _ _ => rfl))) pa_nil)))))), ?_⟩
  refine s_start [some _] rfl ?_
  have at0 : atI [V.str (tx m), .str (tx [k]), .bl b] 0 = some (.str (tx m)) := rfl
  have at1 : atI [V.str (tx m), .str (tx [k]), .bl b] 1 = some (.str (tx [k])) := rfl
  have at2 : atI [V.str (tx m), .str (tx [k]), .bl b] 2 = some (.bl b) := rfl
  walk_at "go"
  refine v_ixT h1 at0 ?_
  walk_at "go"
  refine v_ixT h1 at1 ?_
  walk_at "go"
  refine v_ixT h1 at2 ?_
  walk_at "go"
  intro q' H1 hq s1 e1
  exact q q' H1 s1 e1
abbrev stmeet : Stmt := (top 53)
abbrev Nmeet : List Str := ["plan", "one", "two"]
theorem scmeet : FnScope Nmeet ["plan", "one", "two"] (defScope stmeet) := ⟨rfl, rfl, rfl, by decide +kernel, rfl, by decide +kernel, by decide +kernel⟩

theorem ok_meetS (F : FnAt K mg "meet" stmeet) (D_is_on : Def P w K mg base CX0 5 "is_on" ["plan", "side", "name"] (spOn C)) (D_gate_on : Def P w K mg base CX0 6 "gate_on" ["plan", "side", "name"] (spGateOn C)) : Def P w K mg base CX0 7 "meet" ["plan", "one", "two"] (spMeetS C) := by
  refine F.ok scmeet (fun _ _ _ _ _ _ us hl => match us, hl with | [_, _, _], _ => rfl) (fun vs H Q E h => ?_) (fun f cdv A outer s H vs Q E hr h => ?_)
  · obtain ⟨x, p1, p2, ls, f, m, n, s, t, b1, b2, rfl, _⟩ := h
    rfl
  obtain ⟨x, p1, p2, ls, fn, m, n, s0, t0, b1, b2, rfl, pl, fl, h1, h2, W, lm, ln, q⟩ := h
  have hu := hu_of hr
  have nd := scmeet.nd
  replace D_is_on := D_is_on.mono (show 5 ≤ 6 by decide)
  refine ⟨_, (pss_cons (ps_if (pt_cmpR (op_eqDK (K := K) rfl hr.units) (pe_slice (sl_TK (K := K) rfl) (pv 1) po_none (po_some pe_int)) (pe_slice (sl_TK (K := K) rfl) (pv 2) po_none (po_some pe_int)) (nomark _))
      (pss_one (ps_ret (pe_cmpR (op_eqDK (K := K) rfl hr.units) (pv 1) (pv 2) (nomark _))))
      pss_nil)
      (pss_one (ps_ret (pe_cd D_is_on hr pass0 (pa_cons (pv 0) (pa_cons (pv 1) (pa_cons (pe_cd D_gate_on hr pass0 (pa_cons (pv 0) (pa_cons (pv 2) (pa_cons (pe_cd D_gate_on hr pass0 (pa_cons (pv 0) (pa_cons (pv 1) (pa_cons (pe_tx [] (by decide +kernel)) pa_nil)))) pa_nil)))) pa_nil))))))), ?_⟩
  refine s_start [some _, some _, some _] rfl ?_
  have asl := asc_self fl
  have tl := fl.tab.len
  have m1 := let_small fl W.mm
  have m2 := let_small fl W.mn
  have k1 := let_small fl (m := [s0]) (fun c hc => List.mem_singleton.mp hc ▸ W.hs) s0 (List.mem_singleton.mpr rfl)
  have k2 := let_small fl (m := [t0]) (fun c hc => List.mem_singleton.mp hc ▸ W.ht) t0 (List.mem_singleton.mpr rfl)
  walk_at "go"
  refine ⟨p1, _, rfl, SqT.of h1, (by show ¬ (HT.sIx 3 0 none = 0 ∧ HT.sIx 3 3 (some 2) = 3); decide), fun q1 hq1 => ?_⟩
  have s1 : Same H _ := Same.new (o := .tup (cutV [V.str (tx m), .str (tx [s0]), .bl b1] none (some 2))) hq1
  have e1 : (upd H q1 (.tup (cutV [V.str (tx m), .str (tx [s0]), .bl b1] none (some 2)))) q1 = some (.tup [.str (tx m), .str (tx [s0])]) := by rw [upd_same]; rfl
  generalize upd H q1 (.tup (cutV [V.str (tx m), .str (tx [s0]), .bl b1] none (some 2))) = H1 at s1 e1 ⊢
  walk_at "go"
  refine ⟨p2, _, rfl, SqT.of (s1 _ _ h2), (by show ¬ (HT.sIx 3 0 none = 0 ∧ HT.sIx 3 3 (some 2) = 3); decide), fun q2 hq2 => ?_⟩
  have s2 : Same H1 _ := Same.new (o := .tup (cutV [V.str (tx n), .str (tx [t0]), .bl b2] none (some 2))) hq2
  have e2 : (upd H1 q2 (.tup (cutV [V.str (tx n), .str (tx [t0]), .bl b2] none (some 2)))) q2 = some (.tup [.str (tx n), .str (tx [t0])]) := by rw [upd_same]; rfl
  generalize upd H1 q2 (.tup (cutV [V.str (tx n), .str (tx [t0]), .bl b2] none (some 2))) = H2 at s2 e2 ⊢
  have s02 := s1.trans s2
  refine v_eqT2 (s2 _ _ e1) e2 m1 m2 k1 k2 ?_
  walk_at "go"
  refine if_dec (fun c => ?_) (fun c => ?_)
  · walk_at "go"
    refine v_eqSide (s02 _ _ h1) (s02 _ _ h2) m1 m2 k1 k2 ?_
    rw [show decide (m = n ∧ s0 = t0 ∧ b1 = b2) = (b1 == b2) from by rw [c.1, c.2]; cases b1 <;> cases b2 <;> simp]
    exact q _ H2 s02 ⟨fun _ => rfl, fun z => absurd c z⟩
  walk_at "go"
  refine ⟨x, p1, ls, fn, m, [], s0, b1, rfl, pl.same s02, fl, s02 _ _ h1, W.m1, NF_nil, W.mm, (fun c z => nomatch z), W.hs, by omega, by simp, fun g1 H3 s3 n1 mg1 lg1 G1 => ?_⟩
  rw [List.length_nil] at lg1
  have s03 := s02.trans s3
  walk_at "go"
  refine ⟨x, p2, ls, fn, n, g1, t0, b2, rfl, pl.same s03, fl, s03 _ _ h2, W.n1, n1, W.mn, mg1, W.ht, by omega, by omega, fun g2 H4 s4 n2 mg2 lg2 G2 => ?_⟩
  have s04 := s03.trans s4
  walk_at "go"
  refine ⟨x, p1, _, _, m, g2, s0, b1, rfl, pl.same s04, s04 _ _ h1, inAsc fl.tab W.mm, inAsc fl.tab mg2, by rw [asl]; omega, by omega, by omega, fun H5 s5 => ?_⟩
  refine q _ H5 (s04.trans s5) ⟨fun z => absurd z c, fun _ w1 w2 a1 a2 t1 t2 => ?_⟩
  rw [← meet_law W c mg1 mg2 (G1.side fl.ok W.hs) G2 a1 a2 t1 t2]
  have ob := (on_bz fl W.m1 n2 W.mm mg2 W.hs).2
  by_cases z : Bz fn ls m s0 g2 ↔ b1 = true
  · exact iff_of_true (beq_yes ob z) z
  · refine iff_of_false ?_ z
    rw [beq_no ob z]
    decide
abbrev stlies_in : Stmt := (top 54)
abbrev Nlies_in : List Str := ["plan", "one", "two"]
theorem sclies_in : FnScope Nlies_in ["plan", "one", "two"] (defScope stlies_in) := ⟨rfl, rfl, rfl, by decide +kernel, rfl, by decide +kernel, by decide +kernel⟩

theorem ok_liesS (F : FnAt K mg "lies_in" stlies_in) (D_meet : Def P w K mg base CX0 7 "meet" ["plan", "one", "two"] (spMeetS C)) (D_turned : Def P w K mg base CX0 1 "turned" ["side"] spTurnS) : Def P w K mg base CX0 8 "lies_in" ["plan", "one", "two"] (spLiesS C) := by
  refine F.ok sclies_in (fun _ _ _ _ _ _ us hl => match us, hl with | [_, _, _], _ => rfl) (fun vs H Q E h => ?_) (fun f cdv A outer s H vs Q E hr h => ?_)
  · obtain ⟨x, p1, p2, ls, f, m, n, s, t, b1, b2, rfl, _⟩ := h
    rfl
  obtain ⟨x, p1, p2, ls, fn, m, n, s0, t0, b1, b2, rfl, pl, fl, h1, h2, W, lm, ln, q⟩ := h
  have hu := hu_of hr
  have nd := sclies_in.nd
  replace D_turned := D_turned.mono (show 1 ≤ 7 by decide)
  refine ⟨_, (pss_one (ps_ret (pe_not (pe_cd D_meet hr pass0 (pa_cons (pv 0) (pa_cons (pv 1) (pa_cons (pe_cd D_turned hr pass0 (pa_cons (pv 2) pa_nil)) pa_nil))))))), ?_⟩
  refine s_start [some _, some _, some _] rfl ?_
  walk_at "go"
  refine ⟨p2, n, t0, b2, rfl, h2, fun p3 H1 s1 e3 => ?_⟩
  walk_at "go"
  refine ⟨x, p1, p3, ls, fn, m, n, s0, t0, b1, !b2, rfl, pl.same s1, fl, s1 _ _ h1, e3, W, lm, ln, fun r H2 s2 mr => ?_⟩
  walk_at "go"
  exact q r H2 (s1.trans s2) mr
end
end
section
open PySem PySem.Spec L2
section
variable {P : Program} {w : World} {K : PySem.W.Frag} {mg : Str → Option Value} {base : Heap} {C R O W HC : Addr}
end
end
section
open PySem PySem.Spec L2
theorem sumL_snoc (v : Nat → Int) (z : Nat) : ∀ l : List Nat, sumL (l ++ [z]) v = sumL l v + v z
  | [] => by
    show v z + 0 = 0 + v z
    omega
  | x :: r => by
    show v x + sumL (r ++ [z]) v = v x + sumL r v + v z
    rw [sumL_snoc v z r]
    omega
theorem nd_getD {l : List Nat} (h : l.Nodup) {i j : Nat} (hi : i < l.length) (hj : j < l.length) (ne : i ≠ j) : l.getD i 0 ≠ l.getD j 0 := by
  rw [List.getD_eq_getElem?_getD, List.getElem?_eq_getElem hi, List.getD_eq_getElem?_getD, List.getElem?_eq_getElem hj]
  have h := List.pairwise_iff_getElem.mp h
  show l[i] ≠ l[j]
  rcases Nat.lt_or_gt_of_ne ne with z | z
  · exact h i j hi hj z
  · exact (h j i hj hi z).symm
theorem act_bound {f : Nat → List Nat} {g : Nat → Int} (hg : ∀ e, (g e).natAbs ≤ 1) : ∀ (w : List Nat) (e : Nat), (act f w g e).natAbs ≤ 3 ^ w.length
  | [], e => hg e
  | d :: r, e => by
    have h1 := act_bound (f := f) hg r e
    have h2 := act_bound (f := f) hg r d
    show (thr f d (act f r g) e).natAbs ≤ 3 ^ (r.length + 1)
    rw [Nat.pow_succ]
    unfold thr
    split
    · omega
    · split <;> omega
theorem log_bound {x n : Nat} (h : x ≤ 3 ^ n) : x.log2 ≤ 2 * n := by
  by_cases z : x = 0
  · rw [z]
    simp
  · have h2 : x < 2 ^ (2 * n + 1) := by
      have : (3 : Nat) ^ n ≤ 4 ^ n := Nat.pow_le_pow_left (by decide) n
      have e : (4 : Nat) ^ n = 2 ^ (2 * n) := by rw [Nat.pow_mul]
      have : (2 : Nat) ^ (2 * n) < 2 ^ (2 * n + 1) := Nat.pow_lt_pow_right (by decide) (by omega)
      omega
    have := (Nat.log2_lt z).mpr h2
    omega
theorem pos_log {f : Nat → List Nat} {ls w : List Nat} {s x : Nat} : (posM f ls w s x).natAbs.log2 ≤ 2 * w.length := by
  have h := act_bound (f := f) (g := unit x) (fun e => by unfold unit; split <;> decide) w.reverse s
  rw [List.length_reverse] at h
  refine log_bound ?_
  unfold posM
  split
  · show (- act f w.reverse (unit x) s).natAbs ≤ _
    omega
  · exact h
theorem gd' {l : List Nat} {m : Nat} (h : m < l.length) : l[m]? = some (l.getD m 0) := by
  rw [List.getD_eq_getElem?_getD, List.getElem?_eq_getElem h]
  rfl
theorem at_vec' {ls : List Nat} {v : Nat → Int} {i x : Nat} (h : ls[i]? = some x) : atI (vecV ls v) ((i : Nat) : Int) = some (V.int (v x)) := by
  refine atI_nat ?_
  unfold vecV
  rw [List.getElem?_map, h]
  rfl
def spTurnH : Sp := fun vs H Q _ => ∃ (h : Addr) (ls : List Nat) (f : Nat → List Nat) (a : List Nat) (s : Nat) (b : Bool), vs = [.ref h] ∧ HalfD H h ls f a s b ∧ ∀ h' H', H h' = none → Same H H' → HalfD H' h' ls f a s (!b) → Q (.ref h') H'
def spProd2 : Sp := fun vs H Q _ => ∃ (d p q : Addr) (ls : List Nat) (f : Nat → List Nat) (a b : Nat → Int), vs = [.ref d, .ref p, .ref q] ∧ FloorAt H d ls f ∧ FlE ls f ∧ H p = some (.lst (vecV ls a)) ∧ H q = some (.lst (vecV ls b)) ∧ (∀ x ∈ ls, (a x).natAbs.log2 ≤ 1000) ∧ (∀ x ∈ ls, (b x).natAbs.log2 ≤ 1000) ∧ ∀ H', Same H H' → Q (.int (prodV f ls a b)) H'
section
variable {P : Program} {w : World} {K : PySem.W.Frag} {mg : Str → Option Value} {base : Heap} {C R O W : Addr}
abbrev stturnH : Stmt := (top 91)
abbrev NturnH : List Str := ["_law_half"]
theorem scturnH : FnScope NturnH ["_law_half"] (defScope stturnH) := ⟨rfl, rfl, rfl, by decide +kernel, rfl, by decide +kernel, by decide +kernel⟩

theorem ok_turnH (F : FnAt K mg "_law_turned_half" stturnH) : Def P w K mg base CX0 1 "_law_turned_half" ["_law_half"] spTurnH := by
  refine F.ok scturnH (fun _ _ _ _ _ _ us hl => match us, hl with | [_], _ => rfl) (fun vs H Q E h => ?_) (fun f cdv A outer s H vs Q E hr h => ?_)
  · obtain ⟨h, ls, f, a, s, b, rfl, _⟩ := h
    rfl
  obtain ⟨h, ls, fn, a, s0, b, rfl, hh, k⟩ := h
  have hu := hu_of hr
  have nd := scturnH.nd
  refine ⟨_, (pss_one (ps_ret (pe_disp (pps_cons pe_str (pe_dget hu (pv 0) pe_str (fun _ _ => rfl)) (pps_cons pe_str (pe_dget hu (pv 0) pe_str (fun _ _ => rfl)) (pps_cons pe_str (pe_not (pe_dget hu (pv 0) pe_str (fun _ _ => rfl))) (pps_cons pe_str (pe_dget hu (pv 0) pe_str (fun _ _ => rfl)) pps_nil)))) (by rfl) (by rfl) (fun z => by cases z) (by decide)))), ?_⟩
  refine s_start [some _] rfl ?_
  obtain ⟨p, e1, e2⟩ := hh.ex
  walk_at "go"
  intro p1 hp1
  have s1 : Same H (upd H p1 (.dK [])) := Same.new hp1
  generalize hH1 : upd H p1 (.dK []) = H1 at *
  have ep : H1 p1 = some (.dK []) := by rw [← hH1]; exact upd_same
  walk_at "go"
  refine v_dget (hf_way (s1 _ _ e1)) ?_
  walk_at "go"
  refine v_dget (hf_kind (s1 _ _ e1)) ?_
  walk_at "go"
  refine v_dget (hf_side (s1 _ _ e1)) ?_
  walk_at "go"
  refine v_dget (hf_root (s1 _ _ e1)) ?_
  walk_at "go"
  refine ⟨ep, [(Sum.inr "way", .str (tx a)), (Sum.inr "kind", .str (tx [s0])), (Sum.inr "side", .bl (!b)), (Sum.inr "root", .ref p)], rfl, (by show 4 ≤ 15; decide), ?_⟩
  have em : mergeK [] [(Sum.inr ("way" : Str), V.str (tx a)), (Sum.inr ("kind" : Str), .str (tx [s0])), (Sum.inr ("side" : Str), .bl (!b)), (Sum.inr ("root" : Str), .ref p)] = hfKV a s0 (!b) p := by
    unfold mergeK hfKV
    rw [List.foldl_cons, List.foldl_cons, List.foldl_cons, List.foldl_cons, List.foldl_nil]
    rw [putK_new (k := Sum.inr ("way" : Str)) _ rfl, putK_new (k := Sum.inr ("kind" : Str)) _ (by rw [List.nil_append, valV_neg khwk]; rfl), putK_new (k := Sum.inr ("side" : Str)) _ (by rw [List.nil_append, List.cons_append, valV_neg khws, List.nil_append, valV_neg khks]; rfl), putK_new (k := Sum.inr ("root" : Str)) _ (by simp only [List.nil_append, List.cons_append]; rw [valV_neg khwr, valV_neg khkr, valV_neg khsr]; rfl)]
    rfl
  rw [em]
  refine k p1 _ hp1 (fun b' o hb => by
    rw [upd_ne (ne_of_none hb hp1)]
    exact s1 _ _ hb) ⟨p, upd_same, ?_⟩
  rw [upd_ne (ne_of_none e2 hp1)]
  exact s1 _ _ e2
abbrev stprod2 : Stmt := (top 92)
abbrev Nprod2 : List Str := ["_law_floor", "_law_one", "_law_two", "_law_found", "_law_kinds", "_law_at", "_law_near"]
theorem scprod2 : FnScope Nprod2 ["_law_floor", "_law_one", "_law_two"] (defScope stprod2) := ⟨rfl, rfl, rfl, by decide +kernel, rfl, by decide +kernel, by decide +kernel⟩

theorem ok_prod2 (F : FnAt K mg "_law_product" stprod2) (T : TxtF K mg) : Def P w K mg base CX0 1 "_law_product" ["_law_floor", "_law_one", "_law_two"] spProd2 := by
  refine F.ok scprod2 (fun _ _ _ _ _ _ us hl => match us, hl with | [_, _, _], _ => rfl) (fun vs H Q E h => ?_) (fun f cdv A outer s H vs Q E hr h => ?_)
  · obtain ⟨d, p, q, ls, fn, a, b, rfl, _⟩ := h
    rfl
  obtain ⟨d, p, q, ls, fn, a, b, rfl, fl, fE, p1, q1, ba, bb, k⟩ := h
  have hu := hu_of hr
  have nd := scprod2.nd
  have tab := fE.tab
  have ok := fE.ok
  have tl := tab.len
  refine ⟨_, (pss_cons (ps_par (i := 3) (j := 4) (by rfl) nd rfl rfl (by decide) rfl rfl (pa_cons pe_int (pa_cons (pe_dget hu (pv 0) pe_str (fun _ _ => rfl)) pa_nil)) (by rfl))
      (pss_cons (ps_for PassesOwn.never rfl (pi_range1 (by rfl) T.range (pa_cons (pe_callB (c_lenK (K := K) rfl) (by rfl) T.len PySem.boot_len (pa_cons (pv 1) pa_nil)) pa_nil)) (pg_name (i := 5) nd rfl (Or.inl rfl))
      (pss_one (ps_for PassesOwn.never rfl (pi_range1 (by rfl) T.range (pa_cons (pe_callB (c_lenK (K := K) rfl) (by rfl) T.len PySem.boot_len (pa_cons (pv 2) pa_nil)) pa_nil)) (pg_name (i := 6) nd rfl (Or.inl rfl))
        (pss_one (ps_if (pt_cmpR op_eq (pv 5) (pv 6) (nomark _))
          (pss_one (ps_set (i := 3) nd rfl (Or.inl rfl) (pe_op op_add (pv 3) (pe_op op_mulW (pe_ix (ix_LK (K := K) rfl) (pv 1) (pv 5) (fun _ _ => rfl)) (pe_ix (ix_LK (K := K) rfl) (pv 2) (pv 6) (fun _ _ => rfl))))))
          (pss_one (ps_if (pt_cmpR op_notInS (pe_ix ix_str (pv 4) (pv 6) (fun _ _ => rfl)) (pe_dget hu (pe_dget hu (pv 0) pe_str (fun _ _ => rfl)) (pe_ix ix_str (pv 4) (pv 5) (fun _ _ => rfl)) (fun _ _ => rfl)) (by rfl))
            (pss_one (ps_set (i := 3) nd rfl (Or.inl rfl) (pe_op op_sub (pv 3) (pe_op op_mulW (pe_ix (ix_LK (K := K) rfl) (pv 1) (pv 5) (fun _ _ => rfl)) (pe_ix (ix_LK (K := K) rfl) (pv 2) (pv 6) (fun _ _ => rfl))))))
            pss_nil)))))))
      (pss_one (ps_ret (pv 3))))), ?_⟩
  refine s_start [some _, some _, some _, none, none, none, none] rfl ?_
  obtain ⟨dd, fa, fb⟩ := fl.ex
  have la : (vecV ls a).length = ls.length := vecV_len ls a
  have lb : (vecV ls b).length = ls.length := vecV_len ls b
  walk_at "go"
  refine v_dget (fl_kinds fa) ?_
  walk_at "go"
  refine for_it (walk_rI (fun i => ((i : Nat) : Int)) (fun k => Int.zero_add _)) (fun i σ H' => ∃ x5 x6, σ = [some (.ref d), some (.ref p), some (.ref q), some (.int (sumL (ls.take i) fun x => a x * sumL ls fun y => b y * bt fn y x)), some (.str (tx ls)), x5, x6] ∧ H' = H) ⟨_, _, rfl, rfl⟩ (fun _ _ _ _ _ => trivial) ?_ ?_
  · rintro i v σ H2 H3 hi ⟨x5, x6, rfl, rfl⟩ ⟨rfl, rfl⟩
    have hi : i < ls.length := by omega
    have hx := getD_mem hi
    have gi := gd' hi
    generalize hxx : ls.getD i 0 = x at hx gi
    generalize hT : (sumL (ls.take i) fun x => a x * sumL ls fun y => b y * bt fn y x) = T0
    walk_at "go"
    refine for_it (walk_rI (fun i => ((i : Nat) : Int)) (fun k => Int.zero_add _)) (fun j σ H' => ∃ x6, σ = [some (.ref d), some (.ref p), some (.ref q), some (.int (T0 + a x * sumL (ls.take j) fun y => b y * bt fn y x)), some (.str (tx ls)), some (.int (i : Nat)), x6] ∧ H' = H3) ⟨_, by rw [List.take_zero]; show _ = [_, _, _, some (V.int (T0 + a x * 0)), _, _, _]; rw [Int.mul_zero, Int.add_zero]; rfl, rfl⟩ (fun _ _ _ _ _ => trivial) ?_ ?_
    · rintro j v σ H4 H5 hj ⟨x6, rfl, rfl⟩ ⟨rfl, rfl⟩
      have hj : j < ls.length := by omega
      have hy := getD_mem hj
      have gj := gd' hj
      have tk : sumL (ls.take (j + 1)) (fun y => b y * bt fn y x) = sumL (ls.take j) (fun y => b y * bt fn y x) + b (ls.getD j 0) * bt fn (ls.getD j 0) x := by rw [take_getD hj, sumL_snoc]
      have ne : i ≠ j → x ≠ ls.getD j 0 := fun z => hxx ▸ nd_getD tab.nd hi hj z
      have eqi : i = j → x = ls.getD j 0 := fun z => by rw [← hxx, z]
      generalize ls.getD j 0 = y at hy gj tk ne eqi
      have cm : CMulW (a x) (b y) := by
        have h1 := ba x hx
        have h2 := bb y hy
        show (a x).natAbs.log2 + (b y).natAbs.log2 < 1000000
        omega
      rw [tk]
      generalize sumL (ls.take j) (fun y => b y * bt fn y x) = S at *
      have va : atI (vecV ls a) ((i : Nat) : Int) = some (V.int (a x)) := at_vec' gi
      have vb : atI (vecV ls b) ((j : Nat) : Int) = some (V.int (b y)) := at_vec' gj
      walk_at "go"
      refine if_dec (fun c => ?_) (fun c => ?_)
      · have c : i = j := by
          injection c with c
          omega
        have ex := eqi c
        walk_at "go"
        refine v_ixL p1 va ?_
        walk_at "go"
        refine v_ixL q1 vb ?_
        walk_at "go"
        refine ⟨some (V.int ((j : Nat) : Int)), ?_, rfl⟩
        have e : T0 + a x * S + a x * b y = T0 + a x * (S + b y * bt fn y x) := by
          rw [← ex, bt_self, Int.mul_one, Int.mul_add]
          omega
        rw [e]
        rfl
      · have c : i ≠ j := fun z => c (by rw [z])
        have nxy := ne c
        walk_at "go"
        refine v_ixS (by omega) (atI_nat (j := j) gj) ?_
        walk_at "go"
        refine v_dget (fl_cross fa) ?_
        walk_at "go"
        refine v_ixS (by omega) (atI_nat (j := i) gi) ?_
        walk_at "go"
        refine v_dget (tab_get fb hx) ?_
        walk_at "go"
        refine if_ndec (fun c2 => ?_) (fun c2 => ?_)
        · walk_at "go"
          refine v_ixL p1 va ?_
          walk_at "go"
          refine v_ixL q1 vb ?_
          walk_at "go"
          refine ⟨some (V.int ((j : Nat) : Int)), ?_, rfl⟩
          have e : T0 + a x * S - a x * b y = T0 + a x * (S + b y * bt fn y x) := by
            rw [bt_out nxy fun z => c2 (ok.sym _ _ z), Int.mul_add, Int.mul_neg, Int.mul_one, Int.mul_neg]
            omega
          rw [e]
          rfl
        · walk_at "go"
          refine ⟨some (V.int ((j : Nat) : Int)), ?_, rfl⟩
          have e : T0 + a x * S = T0 + a x * (S + b y * bt fn y x) := by
            rw [bt_in ok (ok.sym _ _ c2), Int.mul_zero, Int.add_zero]
          rw [← e]
          rfl
    · rintro σ H4 ⟨x6, rfl, rfl⟩
      refine ⟨some (V.int ((i : Nat) : Int)), x6, ?_, rfl⟩
      have e : sumL (ls.take (i + 1)) (fun x => a x * sumL ls fun y => b y * bt fn y x) = T0 + a x * sumL ls fun y => b y * bt fn y x := by
        rw [take_getD hi, sumL_snoc, hT, hxx]
      rw [e]
      have e2 : ls.take ((vecV ls b).length : Int).toNat = ls := List.take_of_length_le (by omega)
      rw [e2]
  rintro σ H2 ⟨x5, x6, rfl, rfl⟩
  walk_at "go"
  have e2 : ls.take ((vecV ls a).length : Int).toNat = ls := List.take_of_length_le (by omega)
  rw [e2]
  exact k H2 (Same.refl _)
end
end
section
open PySem PySem.Spec L2
/-! ### a door leads through its own wall -/
theorem wall_sign {f : Nat → List Nat} {ls w : List Nat} {s : Nat} (hn : ls.Nodup) (ok : CrOk f) (hw : ∀ y ∈ w, y ∈ ls) (hs : s ∈ ls) : ∃ k : Int, (k = 1 ∨ k = -1) ∧ ∀ g : Nat → Int, act f (startC f (nameOf f w) s).reverse g s = k * act f w.reverse g s := by
  have hM : ∀ c ∈ (startC f (nameOf f w) s).reverse, c ∈ ls := fun c hc => (start_mem (List.mem_reverse.mp hc)).elim (fun e => e ▸ hs) fun h => hw c (name_mem h)
  have hr : ∀ c ∈ w.reverse, c ∈ ls := fun c hc => hw c (List.mem_reverse.mp hc)
  have key : ∃ k : Int, (k = 1 ∨ k = -1) ∧ ∀ x, posM f ls w s x = k * mark f w.reverse s x := by
    unfold posM mark
    split
    · exact ⟨-1, .inr rfl, fun x => by simp⟩
    · exact ⟨1, .inl rfl, fun x => by simp⟩
  obtain ⟨k, hk, e⟩ := key
  refine ⟨k, hk, fun g => ?_⟩
  rw [act_lin hn ok g hM hs, act_lin hn ok g hr hs]
  have e2 := sumL_comb k 0 (fun x => g x * mark f w.reverse s x) (fun _ => 0) ls
  simp only [Int.zero_mul, Int.add_zero] at e2
  rw [← e2]
  refine sumL_congr fun x _ => ?_
  rw [← pos_start ok hw hs x, e, Int.mul_left_comm]
theorem WallAt.pen {W R : Addr} {H H' : Hp} {a r x : Addr} {k : Nat} {m : List Nat} {g : Pen} {n : Nat} (h : WallAt W R H a r x k m) (p : PenAt g H n) (kp : Keep g.p H H') : WallAt W R H' a r x k m := by
  obtain ⟨⟨dx, e⟩, ro⟩ := h
  obtain ⟨_, _, h1, _⟩ := p.ex
  exact ⟨⟨dx, kp _ _ e (ne_of e h1 (by intro z; cases z))⟩, ro.pen p kp⟩
theorem HalfOn.pen {HC W R C : Addr} {H H' : Hp} {h : Addr} {ls : List Nat} {fn : Nat → List Nat} {a : List Nat} {s : Nat} {b : Bool} {g : Pen} {n : Nat} (z : HalfOn HC W R C H h ls fn a s b) (p : PenAt g H n) (kp : Keep g.p H H') : HalfOn HC W R C H' h ls fn a s b := by
  obtain ⟨wa, r, x, ha, pl⟩ := z.ex
  obtain ⟨dx, t, e1, e2⟩ := ha.ex
  obtain ⟨_, _, h1, _⟩ := p.ex
  exact ⟨wa, r, x, ⟨⟨dx, t, kp _ _ e1 (ne_of e1 h1 (by intro z; cases z)), kp _ _ e2 (ne_of e2 h1 (by intro z; cases z))⟩, ha.wall.pen p kp⟩, pl.pen p kp⟩
section
variable {K : PySem.W.Frag} {H : Hp} {Q : VK} {C R W a b r r' x : Addr} {k j : Nat} {m n : List Nat} {ks : List Nat} {ps : List (List Nat)} {E : XK}
end
/-! ### the same kinds, none crossing -/
structure TxtB (K : PySem.W.Frag) (mg : Str → Option Value) : Prop where
  dict : mg "dict" = none
section
variable {P : Program} {w : World} {K : PySem.W.Frag} {mg : Str → Option Value} {base : Heap} {C R O W HC : Addr}
/-! ### the side asked -/
end
end
section
open PySem PySem.Spec L2
/-- what the law answers of two of its halves -/
def ApartR (f : Nat → List Nat) (ls a1 : List Nat) (s : Nat) (b1 : Bool) (a2 : List Nat) (t : Nat) (b2 r : Bool) : Prop :=
  ((s = t ∧ startC f (nameOf f a1) s = startC f (nameOf f a2) t) → r = (b1 != b2)) ∧ (¬ (s = t ∧ startC f (nameOf f a1) s = startC f (nameOf f a2) t) → (r = true ↔ act f (wayC f (startC f (nameOf f a1) s) (startC f (nameOf f a2) t)) (bt f t) s ≠ 0 ∧ ¬ (Bz f ls (startC f (nameOf f a1) s) s a2 ↔ b1 = true) ∧ ¬ (Bz f ls (startC f (nameOf f a2) t) t a1 ↔ b2 = true)))
theorem way_tch {f : Nat → List Nat} {ls w : List Nat} {s : Nat} (hn : ls.Nodup) (ok : CrOk f) (hw : ∀ y ∈ w, y ∈ ls) (hs : s ∈ ls) : Tch f (startC f (nameOf f w) s) s w := by
  obtain ⟨k, hk, e⟩ := wall_sign hn ok hw hs
  rcases hk with rfl | rfl
  · exact .inl fun g => by rw [act_app, e, act_rev ok, Int.one_mul]
  · exact .inr fun g => by rw [act_app, e, act_rev ok, Int.neg_mul, Int.one_mul]
def spApart : Sp := fun vs H Q _ => ∃ (q h1 h2 : Addr) (ls : List Nat) (f : Nat → List Nat) (a1 a2 : List Nat) (s t : Nat) (b1 b2 : Bool), vs = [.ref q, .ref h1, .ref h2] ∧ FloorAt H q ls f ∧ FlE ls f ∧ HalfD H h1 ls f a1 s b1 ∧ HalfD H h2 ls f a2 t b2 ∧ (∀ c ∈ a1, c ∈ ls) ∧ (∀ c ∈ a2, c ∈ ls) ∧ s ∈ ls ∧ t ∈ ls ∧ a1.length ≤ 400 ∧ a2.length ≤ 400 ∧
  ∀ r H', Same H H' → ApartR f ls a1 s b1 a2 t b2 r → Q (.bl r) H'
def spLiesH : Sp := fun vs H Q _ => ∃ (q h1 h2 : Addr) (ls : List Nat) (f : Nat → List Nat) (a1 a2 : List Nat) (s t : Nat) (b1 b2 : Bool), vs = [.ref q, .ref h1, .ref h2] ∧ FloorAt H q ls f ∧ FlE ls f ∧ HalfD H h1 ls f a1 s b1 ∧ HalfD H h2 ls f a2 t b2 ∧ (∀ c ∈ a1, c ∈ ls) ∧ (∀ c ∈ a2, c ∈ ls) ∧ s ∈ ls ∧ t ∈ ls ∧ a1.length ≤ 400 ∧ a2.length ≤ 400 ∧
  ∀ r H', Same H H' → ApartR f ls a1 s b1 a2 t (!b2) r → Q (.bl r) H'
theorem dp_intsF {K : PySem.W.Frag} {H : Hp} (u : Nat → Int) : ∀ ls : List Nat, DpAll K H (vecV ls u) (ls.map fun x => PyData.int (u x))
  | [] => .nil
  | b :: r => .cons (.int _) (dp_intsF u r)
theorem lay_intsF (u : Nat → Int) : ∀ ls : List Nat, PyData.canLayAll0 (ls.map fun x => PyData.int (u x)) = true
  | [] => rfl
  | b :: r => by
    rw [List.map_cons]
    simp only [PyData.canLayAll0, PyData.canLay0, lay_intsF u r, Bool.and_true]
theorem dep_intsF (u : Nat → Int) : ∀ ls : List Nat, PyData.depthAll (ls.map fun x => PyData.int (u x)) ≤ 1
  | [] => by show PyData.depthAll [] ≤ 1; decide
  | b :: r => Nat.max_le.mpr ⟨by show PyData.depth (.int _) ≤ 1; simp [PyData.depth], dep_intsF u r⟩
theorem shaped_intsF (u : Nat → Int) (ls : List Nat) : SeqAt.shaped (.list (ls.map fun x => PyData.int (u x))) = true := by
  have h := dep_intsF u ls
  have h2 : (PyData.list (ls.map fun x => PyData.int (u x))).depth ≤ 64 := by simp only [PyData.depth]; omega
  have h3 : (PyData.list (ls.map fun x => PyData.int (u x))).canLay0 = true := by simp only [PyData.canLay0]; exact lay_intsF u ls
  simp [SeqAt.shaped, h2, h3]
theorem eqv_intsF (u v : Nat → Int) : ∀ ls : List Nat, PyData.eqvAll (ls.map fun x => PyData.int (u x)) (ls.map fun x => PyData.int (v x)) = true ↔ ∀ x ∈ ls, u x = v x
  | [] => ⟨fun _ x hx => (nomatch hx), fun _ => by simp [PyData.eqvAll]⟩
  | b :: r => by
    have ih := eqv_intsF u v r
    rw [List.map_cons, List.map_cons]
    simp only [PyData.eqvAll, PyData.eqv, Bool.and_eq_true, ih, List.mem_cons, forall_eq_or_imp]
    simp
theorem v_eqVL {K : PySem.W.Frag} {H : Hp} {Q : VK} {p q : Addr} {ls : List Nat} {u v : Nat → Int} (h1 : H p = some (.lst (vecV ls u))) (h2 : H q = some (.lst (vecV ls v))) (r : ∀ b : Bool, (b = true ↔ ∀ x ∈ ls, u x = v x) → Q (.bl b) H) : rEqD K (.ref p) (.ref q) H Q := by
  refine ⟨_, _, .lst (SqL.of h1) (dp_intsF u ls), .lst (SqL.of h2) (dp_intsF v ls), shaped_intsF u ls, shaped_intsF v ls, r _ ?_⟩
  have e : PyData.eqv (.list (ls.map fun x => PyData.int (u x))) (.list (ls.map fun x => PyData.int (v x))) = PyData.eqvAll (ls.map fun x => PyData.int (u x)) (ls.map fun x => PyData.int (v x)) := by simp only [PyData.eqv]
  rw [e]
  exact eqv_intsF u v ls
section
variable {P : Program} {w : World} {K : PySem.W.Frag} {mg : Str → Option Value} {base : Heap} {C R O W : Addr}
abbrev stapart2 : Stmt := (top 93)
abbrev Napart2 : List Str := ["_law_floor", "_law_one", "_law_two"]
theorem scapart2 : FnScope Napart2 ["_law_floor", "_law_one", "_law_two"] (defScope stapart2) := ⟨rfl, rfl, rfl, by decide +kernel, rfl, by decide +kernel, by decide +kernel⟩

theorem ok_apart2 (F : FnAt K mg "_law_are_apart" stapart2) (D_product : Def P w K mg base CX0 1 "_law_product" ["_law_floor", "_law_one", "_law_two"] spProd2) (D_has : Def P w K mg base CX0 3 "_law_has" ["_law_floor", "_law_half", "_law_way"] spHas) : Def P w K mg base CX0 4 "_law_are_apart" ["_law_floor", "_law_one", "_law_two"] spApart := by
  refine F.ok scapart2 (fun _ _ _ _ _ _ us hl => match us, hl with | [_, _, _], _ => rfl) (fun vs H Q E h => ?_) (fun f cdv A outer s H vs Q E hr h => ?_)
  · obtain ⟨q, h1, h2, ls, f, a1, a2, s, t, b1, b2, rfl, _⟩ := h
    rfl
  obtain ⟨q, h1, h2, ls, fn, a1, a2, s0, t0, b1, b2, rfl, fl, fE, hh1, hh2, m1, m2, hs, ht, l1, l2, k⟩ := h
  have hu := hu_of hr
  have nd := scapart2.nd
  replace D_product := D_product.mono (show 1 ≤ 3 by decide)
  refine ⟨_, (pss_cons (ps_if (pt_cmpR (op_eqDK (K := K) rfl hr.units) (pe_dget hu (pv 1) pe_str (fun _ _ => rfl)) (pe_dget hu (pv 2) pe_str (fun _ _ => rfl)) (nomark _))
      (pss_one (ps_ret (pe_cmpR op_ne (pe_dget hu (pv 1) pe_str (fun _ _ => rfl)) (pe_dget hu (pv 2) pe_str (fun _ _ => rfl)) (nomark _))))
      pss_nil)
      (pss_cons (ps_if (pt_cmpR op_eq (pe_cd D_product hr pass0 (pa_cons (pv 0) (pa_cons (pe_dget hu (pv 1) pe_str (fun _ _ => rfl)) (pa_cons (pe_dget hu (pv 2) pe_str (fun _ _ => rfl)) pa_nil)))) pe_int (nomark _))
      (pss_one (ps_ret pe_bl))
      pss_nil)
      (pss_one (ps_ret (pe_and (pe_not (pe_cd D_has hr pass0 (pa_cons (pv 0) (pa_cons (pv 1) (pa_cons (pe_dget hu (pv 2) pe_str (fun _ _ => rfl)) pa_nil))))) (pe_one (pe_not (pe_cd D_has hr pass0 (pa_cons (pv 0) (pa_cons (pv 2) (pa_cons (pe_dget hu (pv 1) pe_str (fun _ _ => rfl)) pa_nil))))))))))), ?_⟩
  refine s_start [some _, some _, some _] rfl ?_
  obtain ⟨p1, e1, e2⟩ := hh1.ex
  obtain ⟨p2, c1, c2⟩ := hh2.ex
  have Ww := W2.of fE.tab.nd fE.ok hs ht m1 m2
  walk_at "go"
  refine v_dget (hf_root e1) ?_
  walk_at "go"
  refine v_dget (hf_root c1) ?_
  walk_at "go"
  refine v_eqVL e2 c2 fun b hb => ?_
  have hb : b = true ↔ s0 = t0 ∧ startC fn (nameOf fn a1) s0 = startC fn (nameOf fn a2) t0 := by
    rw [hb, ← Ww.same]
    exact ⟨fun z x hx => by rw [← pos_start fE.ok m1 hs, ← pos_start fE.ok m2 ht]; exact z x hx, fun z x hx => by rw [pos_start fE.ok m1 hs, pos_start fE.ok m2 ht]; exact z x hx⟩
  walk_at "go"
  refine if_bool (fun c => ?_) (fun c => ?_)
  · have c := hb.mp c
    walk_at "go"
    refine v_dget (hf_side e1) ?_
    walk_at "go"
    refine v_dget (hf_side c1) ?_
    walk_at "go"
    rw [show (!decide (V.bl b1 = V.bl b2)) = (b1 != b2) from by cases b1 <;> cases b2 <;> rfl]
    exact k _ H (Same.refl _) ⟨fun _ => rfl, fun z => absurd c z⟩
  have nc : ¬ (s0 = t0 ∧ startC fn (nameOf fn a1) s0 = startC fn (nameOf fn a2) t0) := fun z => by
    rw [hb.mpr z] at c
    cases c
  walk_at "go"
  refine v_dget (hf_root e1) ?_
  walk_at "go"
  refine v_dget (hf_root c1) ?_
  walk_at "go"
  refine ⟨q, p1, p2, ls, fn, _, _, rfl, fl, fE, e2, c2, fun x _ => Nat.le_trans pos_log (by omega), fun x _ => Nat.le_trans pos_log (by omega), fun H1 s1 => ?_⟩
  rw [prodV_congr (fun x _ => pos_start fE.ok m1 hs x) (fun x _ => pos_start fE.ok m2 ht x)]
  rw [show prodV fn ls (fun x => mark fn (startC fn (nameOf fn a1) s0).reverse s0 x) (fun x => mark fn (startC fn (nameOf fn a2) t0).reverse t0 x) = act fn (wayC fn (startC fn (nameOf fn a1) s0) (startC fn (nameOf fn a2) t0)) (bt fn t0) s0 from Ww.prod]
  walk_at "go"
  refine if_dec (fun c => ?_) (fun c => ?_)
  · walk_at "go"
    exact k false H1 s1 ⟨fun z => absurd z nc, fun _ => iff_of_false (fun z => nomatch z) fun z => z.1 (V.int.inj c)⟩
  have c0 : act fn (wayC fn (startC fn (nameOf fn a1) s0) (startC fn (nameOf fn a2) t0)) (bt fn t0) s0 ≠ 0 := fun z => c (by rw [z])
  have by1 : BeyP fn a1 s0 a2 ↔ Bz fn ls (startC fn (nameOf fn a1) s0) s0 a2 := (bey_mark fE.ok m1 m2 hs).symm
  have by2 : BeyP fn a2 t0 a1 ↔ Bz fn ls (startC fn (nameOf fn a2) t0) t0 a1 := (bey_mark fE.ok m2 m1 ht).symm
  walk_at "go"
  refine v_dget (hf_way (s1 _ _ c1)) ?_
  walk_at "go"
  refine ⟨q, h1, ls, fn, a1, a2, s0, b1, rfl, fl.same s1, fE, hh1.same s1, m1, m2, hs, fun H2 s2 => ?_⟩
  have s12 := s1.trans s2
  by_cases z1 : Bz fn ls (startC fn (nameOf fn a1) s0) s0 a2 ↔ b1 = true
  · rw [beq_yes by1 z1]
    walk_at "go"
    exact k false H2 s12 ⟨fun z => absurd z nc, fun _ => iff_of_false (fun z => nomatch z) fun z => z.2.1 z1⟩
  rw [beq_no by1 z1]
  walk_at "go"
  refine v_dget (hf_way (s12 _ _ e1)) ?_
  walk_at "go"
  refine ⟨q, h2, ls, fn, a2, a1, t0, b2, rfl, fl.same s12, fE, hh2.same s12, m2, m1, ht, fun H3 s3 => ?_⟩
  by_cases z2 : Bz fn ls (startC fn (nameOf fn a2) t0) t0 a1 ↔ b2 = true
  · rw [beq_yes by2 z2]
    walk_at "go"
    exact k false H3 (s12.trans s3) ⟨fun z => absurd z nc, fun _ => iff_of_false (fun z => nomatch z) fun z => z.2.2 z2⟩
  rw [beq_no by2 z2]
  walk_at "go"
  exact k true H3 (s12.trans s3) ⟨fun z => absurd z nc, fun _ => iff_of_true rfl ⟨c0, z1, z2⟩⟩
abbrev stliesH : Stmt := (top 94)
abbrev NliesH : List Str := ["_law_floor", "_law_one", "_law_two"]
theorem scliesH : FnScope NliesH ["_law_floor", "_law_one", "_law_two"] (defScope stliesH) := ⟨rfl, rfl, rfl, by decide +kernel, rfl, by decide +kernel, by decide +kernel⟩

theorem ok_liesH (F : FnAt K mg "_law_lies_in" stliesH) (D_are_apart : Def P w K mg base CX0 4 "_law_are_apart" ["_law_floor", "_law_one", "_law_two"] spApart) (D_turned_half : Def P w K mg base CX0 1 "_law_turned_half" ["_law_half"] spTurnH) : Def P w K mg base CX0 5 "_law_lies_in" ["_law_floor", "_law_one", "_law_two"] spLiesH := by
  refine F.ok scliesH (fun _ _ _ _ _ _ us hl => match us, hl with | [_, _, _], _ => rfl) (fun vs H Q E h => ?_) (fun f cdv A outer s H vs Q E hr h => ?_)
  · obtain ⟨q, h1, h2, ls, f, a1, a2, s, t, b1, b2, rfl, _⟩ := h
    rfl
  obtain ⟨q, h1, h2, ls, fn, a1, a2, s0, t0, b1, b2, rfl, fl, fE, hh1, hh2, m1, m2, hs, ht, l1, l2, k⟩ := h
  have hu := hu_of hr
  have nd := scliesH.nd
  replace D_turned_half := D_turned_half.mono (show 1 ≤ 4 by decide)
  refine ⟨_, (pss_one (ps_ret (pe_cd D_are_apart hr pass0 (pa_cons (pv 0) (pa_cons (pv 1) (pa_cons (pe_cd D_turned_half hr pass0 (pa_cons (pv 2) pa_nil)) pa_nil)))))), ?_⟩
  refine s_start [some _, some _, some _] rfl ?_
  walk_at "go"
  refine ⟨h2, ls, fn, a2, t0, b2, rfl, hh2, fun h3 H1 hn3 s1 z3 => ?_⟩
  walk_at "go"
  refine ⟨q, h1, h3, ls, fn, a1, a2, s0, t0, b1, !b2, rfl, fl.same s1, fE, hh1.same s1, z3, m1, m2, hs, ht, l1, l2, fun r H2 s2 ar => ?_⟩
  exact k r H2 (s1.trans s2) ar
end
end
section
section
variable {f : Nat → List Nat} {ls : List Nat}
/-- a side: the wall's room, its kind, whether it is the far side -/
structure Sd where
  m : List Nat
  k : Nat
  b : Bool
deriving DecidableEq
def Sd.neg (d : Sd) : Sd := ⟨d.m, d.k, !d.b⟩
/-- the side of the wall of a door -/
def sdOf (f : Nat → List Nat) (a : List Nat) (s : Nat) (b : Bool) : Sd := ⟨startC f (nameOf f a) s, s, b⟩
def On (f : Nat → List Nat) (ls : List Nat) (d : Sd) (w : List Nat) : Prop := Bz f ls d.m d.k w ↔ d.b = true
structure SdOk (f : Nat → List Nat) (ls : List Nat) (d : Sd) : Prop where
  ex : ∃ a, (∀ y ∈ a, y ∈ ls) ∧ d.m = startC f (nameOf f a) d.k
  hk : d.k ∈ ls
theorem sdOf_ok {a : List Nat} {s : Nat} {b : Bool} (ha : ∀ y ∈ a, y ∈ ls) (hs : s ∈ ls) : SdOk f ls (sdOf f a s b) := ⟨⟨a, ha, rfl⟩, hs⟩
theorem SdOk.neg {d : Sd} (h : SdOk f ls d) : SdOk f ls d.neg := ⟨h.ex, h.hk⟩
theorem SdOk.mem {d : Sd} (h : SdOk f ls d) : ∀ y ∈ d.m, y ∈ ls := fun y hy => by
  obtain ⟨a, ha, e⟩ := h.ex
  rw [e] at hy
  exact (start_mem hy).elim (fun z => z ▸ h.hk) fun z => ha y (name_mem z)
theorem SdOk.w2 {d e : Sd} (hn : ls.Nodup) (ok : CrOk f) (h : SdOk f ls d) (h' : SdOk f ls e) : W2 f ls d.m d.k e.m e.k := by
  obtain ⟨a, ha, ea⟩ := h.ex
  obtain ⟨c, hc, ec⟩ := h'.ex
  rw [ea, ec]
  exact W2.of hn ok h.hk h'.hk ha hc
theorem on_neg {d : Sd} {w : List Nat} : On f ls d.neg w ↔ ¬ On f ls d w := by
  unfold On Sd.neg
  obtain ⟨m, k, b⟩ := d
  cases b <;> by_cases h : Bz f ls m k w <;> simp [h]
theorem Sd.neg_neg (d : Sd) : d.neg.neg = d := by
  obtain ⟨m, k, b⟩ := d
  unfold Sd.neg
  rw [Bool.not_not]
/-- a room at the wall, on the side -/
theorem SdOk.room {d : Sd} (hn : ls.Nodup) (ok : CrOk f) (h : SdOk f ls d) : ∃ w, (∀ y ∈ w, y ∈ ls) ∧ Tch f d.m d.k w ∧ On f ls d w := by
  obtain ⟨a, ha, ea⟩ := h.ex
  have t1 : Tch f d.m d.k a := by
    rw [ea]
    exact way_tch hn ok ha h.hk
  have mk : ∀ y ∈ a ++ [d.k], y ∈ ls := cat_mem ha fun y hy => by rw [List.mem_singleton.mp hy]; exact h.hk
  have row : ∀ g, act f (d.m.reverse ++ (a ++ [d.k])) g d.k = act f (d.m.reverse ++ a) (thr f d.k g) d.k := fun g => by
    rw [← List.append_assoc, act_app]
    rfl
  have t2 : Tch f d.m d.k (a ++ [d.k]) := by
    rcases t1 with t1 | t1
    · exact .inr fun g => by rw [row, t1, thr_self]
    · exact .inl fun g => by rw [row, t1, thr_self, Int.neg_neg]
  have fl : Bz f ls d.m d.k (a ++ [d.k]) ↔ ¬ Bz f ls d.m d.k a := by
    refine ng_turn ok (cat_mem (rv_mem h.mem) ha) h.hk fun g => ?_
    rw [row]
    rcases t1 with t1 | t1
    · rw [t1, t1, thr_self]
    · rw [t1, t1, thr_self]
  by_cases c : On f ls d a
  · exact ⟨a, ha, t1, c⟩
  · refine ⟨_, mk, t2, ?_⟩
    unfold On at c ⊢
    rw [fl]
    by_cases z : Bz f ls d.m d.k a
    · match hb : d.b with
      | true => exact absurd (iff_of_true z hb) c
      | false => exact iff_of_false (not_not_intro z) fun q => nomatch q
    · match hb : d.b with
      | true => exact iff_of_true z rfl
      | false => exact absurd (iff_of_false z fun q => by rw [hb] at q; cases q) c
theorem strip_ex (ok : CrOk f) {B w0 : List Nat} : ∀ (N : Nat) {w : List Nat}, w.length ≤ N → Strip ls f B w0 w → ∃ w', Strip ls f B w0 w' ∧ ∀ t ∈ ls, t ∈ B → ¬ desc f t w'.reverse
  | 0, w, hl, S => ⟨w, S, fun t _ _ z => by
    have : w = [] := List.eq_nil_of_length_eq_zero (by omega)
    subst this
    exact z⟩
  | N + 1, w, hl, S => by
    by_cases h : ∃ t, t ∈ ls ∧ t ∈ B ∧ desc f t w.reverse
    · obtain ⟨t, h1, h2, h3⟩ := h
      obtain ⟨p, q, e, hp⟩ := desc_split h3
      obtain ⟨S2, l2⟩ := S.step ok h2 h1 e hp
      exact strip_ex ok N (by omega) S2
    · exact ⟨w, S, fun t h1 h2 h3 => h ⟨t, h1, h2, h3⟩⟩
/-- each room has a gate -/
theorem gate_ex (ok : CrOk f) {d : Sd} (h : SdOk f ls d) {x : List Nat} (hx : ∀ y ∈ x, y ∈ ls) : ∃ g, (∀ y ∈ g, y ∈ ls) ∧ Gate f ls d.m d.k d.b x g := by
  by_cases c : Bz f ls d.m d.k x ↔ d.b = true
  · exact ⟨x, hx, .inl ⟨c, fun _ => rfl⟩⟩
  · have mz := cat_mem (rv_mem hx) h.mem
    have S0 : Strip ls f (d.k :: f d.k) (nameOf f (x.reverse ++ d.m)) (nameOf f (x.reverse ++ d.m)) := ⟨(name_NF ok _).red, fun y hy => mz y (name_mem hy), Nat.le_refl _, [], (fun _ z => nomatch z), (fun _ z => nomatch z), (fun g => by rw [List.append_nil]), Nat.le_refl _⟩
    obtain ⟨w, S, hw⟩ := strip_ex ok _ (Nat.le_refl _) S0
    have mw : ∀ y ∈ w ++ [d.k], y ∈ ls := cat_mem S.mem fun y hy => by rw [List.mem_singleton.mp hy]; exact h.hk
    obtain ⟨z, z1, z2, z3, _⟩ := S.ex
    refine ⟨x ++ (w ++ [d.k]), cat_mem hx mw, .inr ⟨c, w, ⟨S.mem, S.red, ⟨z, z1, fun y hy => ?_, fun g => ?_⟩, fun y hy hh => hw y hy ?_⟩, fun _ => rfl⟩⟩
    · rcases List.mem_cons.mp (z2 y hy) with e | e
      · exact .inr e
      · exact .inl e
    · rw [← z3, name_act ok]
    · rcases hh with e | e
      · exact List.mem_cons_of_mem _ e
      · exact e ▸ List.mem_cons_self ..
/-- two sides have a room in common -/
def Mt (f : Nat → List Nat) (ls : List Nat) (d e : Sd) : Prop := ∃ w, (∀ y ∈ w, y ∈ ls) ∧ On f ls d w ∧ On f ls e w
theorem Mt.symm {d e : Sd} : Mt f ls d e → Mt f ls e d := fun ⟨w, h1, h2, h3⟩ => ⟨w, h1, h3, h2⟩
theorem mt_same (hn : ls.Nodup) (ok : CrOk f) {d e : Sd} (h : SdOk f ls d) (hm : d.m = e.m) (hk : d.k = e.k) : Mt f ls d e ↔ d.b = e.b := by
  constructor
  · rintro ⟨w, _, h1, h2⟩
    unfold On at h1 h2
    rw [hm, hk, h2] at h1
    cases hb : d.b <;> cases hc : e.b <;> simp_all
  · intro hb
    obtain ⟨w, w1, _, w3⟩ := h.room hn ok
    refine ⟨w, w1, w3, ?_⟩
    unfold On at w3 ⊢
    rw [← hm, ← hk, ← hb]
    exact w3
/-- the walls' words for it -/
theorem mt_iff (hn : ls.Nodup) (ok : CrOk f) {d e : Sd} (h : SdOk f ls d) (h' : SdOk f ls e) (ns : ¬ (d.k = e.k ∧ d.m = e.m)) {w1 w2 : List Nat} (m1 : ∀ y ∈ w1, y ∈ ls) (m2 : ∀ y ∈ w2, y ∈ ls) (t1 : Tch f d.m d.k w1) (t2 : Tch f e.m e.k w2) :
    Mt f ls d e ↔ act f (wayC f d.m e.m) (bt f e.k) d.k = 0 ∨ (Bz f ls d.m d.k w2 ↔ d.b = true) ∨ (Bz f ls e.m e.k w1 ↔ e.b = true) := by
  have W := h.w2 hn ok h'
  constructor
  · rintro ⟨w, mw, o1, o2⟩
    exact (meet_law W ns mw mw o1 (.inl ⟨o2, fun _ => rfl⟩) m1 m2 t1 t2).mp o1
  · intro z
    obtain ⟨x, mx, _, ox⟩ := h.room hn ok
    obtain ⟨g, mg, G⟩ := gate_ex ok h' mx
    exact ⟨g, mg, (meet_law W ns mx mg ox G m1 m2 t1 t2).mpr z, G.side ok h'.hk⟩
theorem meetR_iff (hn : ls.Nodup) (ok : CrOk f) {d e : Sd} (h : SdOk f ls d) (h' : SdOk f ls e) {r : Bool} (R : MeetR f ls d.m d.k d.b e.m e.k e.b r) : r = true ↔ Mt f ls d e := by
  by_cases c : d.k = e.k ∧ d.m = e.m
  · rw [R.1 c, mt_same hn ok h c.2 c.1, beq_iff_eq]
  · obtain ⟨w1, m1, t1, _⟩ := h.room hn ok
    obtain ⟨w2, m2, t2, _⟩ := h'.room hn ok
    rw [R.2 c w1 w2 m1 m2 t1 t2, mt_iff hn ok h h' c m1 m2 t1 t2]
theorem apartR_iff (hn : ls.Nodup) (ok : CrOk f) {a1 a2 : List Nat} {s t : Nat} {b1 b2 r : Bool} (h1 : ∀ y ∈ a1, y ∈ ls) (h2 : ∀ y ∈ a2, y ∈ ls) (hs : s ∈ ls) (ht : t ∈ ls) (R : ApartR f ls a1 s b1 a2 t b2 r) : r = true ↔ ¬ Mt f ls (sdOf f a1 s b1) (sdOf f a2 t b2) := by
  have o1 := sdOf_ok (f := f) (b := b1) h1 hs
  have o2 := sdOf_ok (f := f) (b := b2) h2 ht
  by_cases c : s = t ∧ startC f (nameOf f a1) s = startC f (nameOf f a2) t
  · have q : Mt f ls (sdOf f a1 s b1) (sdOf f a2 t b2) ↔ b1 = b2 := mt_same hn ok o1 c.2 c.1
    rw [R.1 c, q, bne_iff_ne]
  · have q := mt_iff hn ok o1 o2 c h1 h2 (way_tch hn ok h1 hs) (way_tch hn ok h2 ht)
    rw [q, R.2 c, not_or, not_or]
    exact Iff.rfl
/-- each room on the one side is on the other -/
def In (f : Nat → List Nat) (ls : List Nat) (d e : Sd) : Prop := ∀ w, (∀ y ∈ w, y ∈ ls) → On f ls d w → On f ls e w
theorem in_iff {d e : Sd} : In f ls d e ↔ ¬ Mt f ls d e.neg := by
  constructor
  · rintro h ⟨w, m, h1, h2⟩
    exact on_neg.mp h2 (h w m h1)
  · intro h w m h1
    exact Classical.byContradiction fun c => h ⟨w, m, h1, on_neg.mpr c⟩
theorem In.refl (d : Sd) : In f ls d d := fun _ _ h => h
theorem In.trans {a b c : Sd} (h : In f ls a b) (k : In f ls b c) : In f ls a c := fun w m z => k w m (h w m z)
theorem In.anti (hn : ls.Nodup) (ok : CrOk f) {d e : Sd} (h : SdOk f ls d) (h' : SdOk f ls e) (a : In f ls d e) (b : In f ls e d) : d = e := by
  by_cases c : d.k = e.k ∧ d.m = e.m
  · obtain ⟨m, k, x⟩ := d
    obtain ⟨m', k', y⟩ := e
    obtain ⟨rfl, rfl⟩ := c
    by_cases z : x = y
    · rw [z]
    · exact absurd a (fun q => in_iff.mp q ((mt_same (e := Sd.neg ⟨m, k, y⟩) hn ok h rfl rfl).mpr (show x = !y by cases x <;> cases y <;> simp_all)))
  · obtain ⟨w1, m1, t1, o1⟩ := h.room hn ok
    obtain ⟨w2, m2, t2, o2⟩ := h'.room hn ok
    have q1 : ¬ Mt f ls d e.neg := in_iff.mp a
    have q2 : ¬ Mt f ls e d.neg := in_iff.mp b
    rw [mt_iff hn ok h h'.neg c m1 m2 t1 t2] at q1
    rw [mt_iff hn ok h' h.neg (fun z => c ⟨z.1.symm, z.2.symm⟩) m2 m1 t2 t1] at q2
    have u1 : ¬ (Bz f ls e.m e.k w1 ↔ e.neg.b = true) := fun z => q1 (.inr (.inr z))
    have u2 : ¬ (Bz f ls e.m e.k w1 ↔ e.b = true) := fun z => q2 (.inr (.inl z))
    exact absurd (on_neg.mpr u2) u1
/-! ### what is common -/
/-- all of some sides have a room in common, two by two -/
def Pw (f : Nat → List Nat) (ls : List Nat) (S : List Sd) : Prop := ∀ d ∈ S, ∀ e ∈ S, Mt f ls d e
def AllOn (f : Nat → List Nat) (ls : List Nat) (S : List Sd) (w : List Nat) : Prop := ∀ d ∈ S, On f ls d w
/-- one gate after the other -/
inductive Gts (f : Nat → List Nat) (ls : List Nat) : List Sd → List Nat → List Nat → Prop
  | nil {x} : Gts f ls [] x x
  | cons {d S x g y} : (∀ z ∈ g, z ∈ ls) → Gate f ls d.m d.k d.b x g → Gts f ls S g y → Gts f ls (d :: S) x y
theorem gate_keeps (hn : ls.Nodup) (ok : CrOk f) {d e : Sd} (h : SdOk f ls d) (h' : SdOk f ls e) (m : Mt f ls d e) {x g : List Nat} (mx : ∀ y ∈ x, y ∈ ls) (mg : ∀ y ∈ g, y ∈ ls) (ox : On f ls d x) (G : Gate f ls e.m e.k e.b x g) : On f ls d g := by
  by_cases c : d.k = e.k ∧ d.m = e.m
  · have z := (mt_same hn ok h c.2 c.1).mp m
    have q := G.side ok h'.hk
    unfold On
    rw [c.1, c.2, z]
    exact q
  · obtain ⟨w1, m1, t1, _⟩ := h.room hn ok
    obtain ⟨w2, m2, t2, _⟩ := h'.room hn ok
    exact (meet_law (h.w2 hn ok h') c mx mg ox G m1 m2 t1 t2).mpr ((mt_iff hn ok h h' c m1 m2 t1 t2).mp m)
theorem Gts.mem {S : List Sd} {x y : List Nat} (G : Gts f ls S x y) (mx : ∀ z ∈ x, z ∈ ls) : ∀ z ∈ y, z ∈ ls := by
  induction G with
  | nil => exact mx
  | cons mg _ _ ih => exact ih mg
theorem Gts.on (hn : ls.Nodup) (ok : CrOk f) : ∀ {S T : List Sd} {x y : List Nat}, Gts f ls S x y → (∀ z ∈ x, z ∈ ls) → (∀ d ∈ T ++ S, SdOk f ls d) → Pw f ls (T ++ S) → AllOn f ls T x → AllOn f ls (T ++ S) y
  | [], T, x, _, .nil, _, _, _, o => by
    rw [List.append_nil]
    exact o
  | d :: S, T, x, y, .cons mg G r, mx, hs, hp, o => by
    have hd : d ∈ T ++ d :: S := List.mem_append_right _ (List.mem_cons_self ..)
    have e : T ++ d :: S = (T ++ [d]) ++ S := by simp
    rw [e] at hs hp hd ⊢
    refine r.on hn ok mg hs hp fun c hc => ?_
    rcases List.mem_append.mp hc with z | z
    · have hc' : c ∈ (T ++ [d]) ++ S := List.mem_append_left _ hc
      exact gate_keeps hn ok (hs c hc') (hs d hd) (hp c hc' d hd) mx mg (o c z) G
    · rw [List.mem_singleton.mp z]
      exact G.side ok (hs d hd).hk
/-- the last gate is on all sides just if they have rooms in common, two by two -/
theorem gts_all (hn : ls.Nodup) (ok : CrOk f) {S : List Sd} {x y : List Nat} (G : Gts f ls S x y) (mx : ∀ z ∈ x, z ∈ ls) (hs : ∀ d ∈ S, SdOk f ls d) : AllOn f ls S y ↔ Pw f ls S :=
  ⟨fun h d hd e he => ⟨y, G.mem mx, h d hd, h e he⟩, fun h => G.on (T := []) hn ok mx hs h fun _ z => nomatch z⟩
end
end
section
theorem sorted_uniq {α : Type} {r : α → α → Prop} (as : ∀ a b, r a b → r b a → a = b) : ∀ {l m : List α}, l.Pairwise r → m.Pairwise r → l.Nodup → m.Nodup → (∀ x, x ∈ l ↔ x ∈ m) → l = m
  | [], [], _, _, _, _, _ => rfl
  | [], b :: m, _, _, _, _, h => nomatch (h b).mpr (List.mem_cons_self ..)
  | a :: l, [], _, _, _, _, h => nomatch (h a).mp (List.mem_cons_self ..)
  | a :: l, b :: m, h1, h2, n1, n2, h => by
    obtain ⟨p1, q1⟩ := List.pairwise_cons.mp h1
    obtain ⟨p2, q2⟩ := List.pairwise_cons.mp h2
    obtain ⟨d1, e1⟩ := List.nodup_cons.mp n1
    obtain ⟨d2, e2⟩ := List.nodup_cons.mp n2
    have ab : a = b := by
      rcases List.mem_cons.mp ((h a).mp (List.mem_cons_self ..)) with e | ha
      · exact e
      rcases List.mem_cons.mp ((h b).mpr (List.mem_cons_self ..)) with e | hb
      · exact e.symm
      exact as a b (p1 b hb) (p2 a ha)
    subst ab
    rw [sorted_uniq as q1 q2 e1 e2 fun x => ?_]
    constructor
    · intro hx
      rcases List.mem_cons.mp ((h x).mp (List.mem_cons_of_mem _ hx)) with e | z
      · exact absurd (e ▸ hx) d1
      · exact z
    · intro hx
      rcases List.mem_cons.mp ((h x).mpr (List.mem_cons_of_mem _ hx)) with e | z
      · exact absurd (e ▸ hx) d2
      · exact z
theorem shortLe_anti {a b : List Nat} (h : shortLe a b) (k : shortLe b a) : a = b := by
  rcases h with h | ⟨h1, h2⟩
  · rcases k with k | ⟨k1, _⟩ <;> omega
  · rcases k with k | ⟨k1, k2⟩
    · omega
    · exact List.le_antisymm (List.not_lt.mp h2) (List.not_lt.mp k2)
/-- a side's text -/
def Sd.key (d : Sd) : List Nat := d.m ++ [d.k] ++ [if d.b then 49 else 48]
theorem key_inj {d e : Sd} (h : d.key = e.key) : d = e := by
  obtain ⟨m, k, b⟩ := d
  obtain ⟨n, l, c⟩ := e
  unfold Sd.key at h
  obtain ⟨h1, h2⟩ := List.append_inj' h rfl
  obtain ⟨h3, h4⟩ := List.append_inj' h1 rfl
  have h4 : k = l := by injection h4
  have h2 : (if b then 49 else 48) = if c then 49 else 48 := by injection h2
  have h3 : m = n := h3
  have h5 : b = c := by cases b <;> cases c <;> simp_all
  rw [h3, h4, h5]
def SdLe (d e : Sd) : Prop := shortLe d.key e.key
theorem SdLe.anti (d e : Sd) (h : SdLe d e) (k : SdLe e d) : d = e := key_inj (shortLe_anti h k)
/-- some sides, each once, ascending -/
structure OrdR (S R : List Sd) : Prop where
  asc : R.Pairwise SdLe
  nd : R.Nodup
  mem : ∀ d, d ∈ R ↔ d ∈ S
theorem OrdR.uniq {S S' R R' : List Sd} (h : OrdR S R) (h' : OrdR S' R') (e : ∀ d, d ∈ S ↔ d ∈ S') : R = R' := sorted_uniq SdLe.anti h.asc h'.asc h.nd h'.nd fun x => by rw [h.mem, h'.mem, e]
theorem filter_le {α : Type} {p q : α → Bool} (pq : ∀ a, p a = true → q a = true) : ∀ l : List α, (l.filter p).length ≤ (l.filter q).length
  | [] => Nat.le_refl _
  | b :: l => by
    have ih := filter_le pq l
    by_cases c : p b = true
    · rw [List.filter_cons_of_pos c, List.filter_cons_of_pos (pq b c), List.length_cons, List.length_cons]
      exact Nat.succ_le_succ ih
    · rw [List.filter_cons_of_neg c]
      by_cases d : q b = true
      · rw [List.filter_cons_of_pos d, List.length_cons]
        exact Nat.le_succ_of_le ih
      · rw [List.filter_cons_of_neg d]
        exact ih
theorem filter_lt {α : Type} {p q : α → Bool} (pq : ∀ a, p a = true → q a = true) : ∀ {l : List α} {z : α}, z ∈ l → p z = false → q z = true → (l.filter p).length < (l.filter q).length
  | a :: l, z, hz, h1, h2 => by
    have le := filter_le pq l
    rcases List.mem_cons.mp hz with rfl | hz
    · rw [List.filter_cons_of_neg (by rw [h1]; decide), List.filter_cons_of_pos h2, List.length_cons]
      omega
    · have ih := filter_lt pq hz h1 h2
      by_cases c : p a = true
      · rw [List.filter_cons_of_pos c, List.filter_cons_of_pos (pq a c), List.length_cons, List.length_cons]
        omega
      · rw [List.filter_cons_of_neg c]
        by_cases d : q a = true
        · rw [List.filter_cons_of_pos d, List.length_cons]
          omega
        · rw [List.filter_cons_of_neg d]
          exact ih
section
variable {f : Nat → List Nat} {ls : List Nat}
def Least (f : Nat → List Nat) (ls : List Nat) (R : List Sd) (r : Sd) : Prop := ∀ o ∈ R, o ≠ r → ¬ In f ls o r
open Classical in
/-- those in which no other one lies -/
noncomputable def minR (f : Nat → List Nat) (ls : List Nat) (R : List Sd) : List Sd := R.filter fun r => decide (Least f ls R r)
open Classical in
theorem mem_min {R : List Sd} {r : Sd} : r ∈ minR f ls R ↔ r ∈ R ∧ Least f ls R r := by
  unfold minR
  rw [List.mem_filter, decide_eq_true_iff]
open Classical in
noncomputable def blw (f : Nat → List Nat) (ls : List Nat) (r o : Sd) : Bool := decide (o ≠ r ∧ In f ls o r)
open Classical in
theorem blw_iff {r o : Sd} : blw f ls r o = true ↔ o ≠ r ∧ In f ls o r := by
  unfold blw
  exact decide_eq_true_iff
theorem min_below (hn : ls.Nodup) (ok : CrOk f) {R : List Sd} (hR : ∀ d ∈ R, SdOk f ls d) : ∀ (N : Nat) {r : Sd}, r ∈ R → (R.filter (blw f ls r)).length ≤ N → ∃ o ∈ minR f ls R, In f ls o r := by
  intro N
  induction N with
  | zero =>
    intro r hr h
    refine ⟨r, mem_min.mpr ⟨hr, fun o ho ne hi => ?_⟩, In.refl r⟩
    have := List.length_pos_of_mem (List.mem_filter.mpr ⟨ho, blw_iff.mpr ⟨ne, hi⟩⟩)
    omega
  | succ N ih =>
    intro r hr h
    by_cases c : Least f ls R r
    · exact ⟨r, mem_min.mpr ⟨hr, c⟩, In.refl r⟩
    · have : ∃ o ∈ R, o ≠ r ∧ In f ls o r := Classical.byContradiction fun z => c fun o ho ne hi => z ⟨o, ho, ne, hi⟩
      obtain ⟨o, ho, ne, hi⟩ := this
      have lt : (R.filter (blw f ls o)).length < (R.filter (blw f ls r)).length := by
        refine filter_lt (z := o) (fun a ha => ?_) ho ?_ (blw_iff.mpr ⟨ne, hi⟩)
        · obtain ⟨a1, a2⟩ := blw_iff.mp ha
          refine blw_iff.mpr ⟨fun e => ?_, a2.trans hi⟩
          subst e
          exact ne (In.anti hn ok (hR o ho) (hR a hr) hi a2)
        · match z : blw f ls o o with
          | true => exact absurd rfl (blw_iff.mp z).1
          | false => rfl
      obtain ⟨q, hq, hq2⟩ := ih ho (by omega)
      exact ⟨q, hq, hq2.trans hi⟩
theorem min_ex (hn : ls.Nodup) (ok : CrOk f) {R : List Sd} (hR : ∀ d ∈ R, SdOk f ls d) {r : Sd} (hr : r ∈ R) : ∃ o ∈ minR f ls R, In f ls o r := min_below hn ok hR _ hr (Nat.le_refl _)
theorem min_all (hn : ls.Nodup) (ok : CrOk f) {R : List Sd} (hR : ∀ d ∈ R, SdOk f ls d) {w : List Nat} (mw : ∀ y ∈ w, y ∈ ls) : AllOn f ls (minR f ls R) w ↔ AllOn f ls R w := by
  constructor
  · intro h d hd
    obtain ⟨o, ho, hi⟩ := min_ex hn ok hR hd
    exact hi w mw (h o ho)
  · exact fun h d hd => h d (mem_min.mp hd).1
/-- what a lot keeps of its halves' sides -/
def OwnR (f : Nat → List Nat) (ls : List Nat) (S : List Sd) (o : Option (List Sd)) : Prop := (Pw f ls S → ∃ R, OrdR S R ∧ o = some (minR f ls R)) ∧ (¬ Pw f ls S → o = none)
theorem Pw.congr {S S' : List Sd} (e : ∀ d, d ∈ S ↔ d ∈ S') : Pw f ls S ↔ Pw f ls S' := by
  unfold Pw
  simp only [e]
theorem OwnR.uniq {S S' : List Sd} {o o' : Option (List Sd)} (h : OwnR f ls S o) (h' : OwnR f ls S' o') (e : ∀ d, d ∈ S ↔ d ∈ S') : o = o' := by
  by_cases c : Pw f ls S
  · obtain ⟨R, r1, r2⟩ := h.1 c
    obtain ⟨R', r1', r2'⟩ := h'.1 ((Pw.congr e).mp c)
    rw [r2, r2', r1.uniq r1' e]
  · rw [h.2 c, h'.2 fun z => c ((Pw.congr e).mpr z)]
theorem OwnR.none {S : List Sd} {o : Option (List Sd)} (h : OwnR f ls S o) : o = none ↔ ¬ Pw f ls S := by
  constructor
  · intro e c
    obtain ⟨R, _, r2⟩ := h.1 c
    rw [e] at r2
    cases r2
  · exact h.2
/-- the lot's rooms -/
theorem OwnR.on (hn : ls.Nodup) (ok : CrOk f) {S D : List Sd} (hS : ∀ d ∈ S, SdOk f ls d) (h : OwnR f ls S (some D)) {w : List Nat} (mw : ∀ y ∈ w, y ∈ ls) : AllOn f ls D w ↔ AllOn f ls S w := by
  by_cases c : Pw f ls S
  · obtain ⟨R, r1, r2⟩ := h.1 c
    injection r2 with r2
    rw [r2, min_all hn ok (fun d hd => hS d ((r1.mem d).mp hd)) mw]
    unfold AllOn
    simp only [r1.mem]
  · cases h.2 c
theorem OwnR.sub {S D : List Sd} (h : OwnR f ls S (some D)) : ∀ d ∈ D, d ∈ S := by
  by_cases c : Pw f ls S
  · obtain ⟨R, r1, r2⟩ := h.1 c
    injection r2 with r2
    intro d hd
    rw [r2] at hd
    exact (r1.mem d).mp (mem_min.mp hd).1
  · cases h.2 c
/-- one half more -/
theorem own_more (hn : ls.Nodup) (ok : CrOk f) {S : List Sd} {n : Sd} {o o' : Option (List Sd)} (hS : ∀ d ∈ S, SdOk f ls d) (hN : SdOk f ls n) (h : OwnR f ls S o) (h' : OwnR f ls (S ++ [n]) o') : o = o' ↔ ¬ Pw f ls S ∨ ∃ q ∈ S, In f ls q n := by
  have hS' : ∀ d ∈ S ++ [n], SdOk f ls d := fun d hd => (List.mem_append.mp hd).elim (hS d) fun z => List.mem_singleton.mp z ▸ hN
  by_cases c : Pw f ls S
  · obtain ⟨R, r1, r2⟩ := h.1 c
    have hR : ∀ d ∈ R, SdOk f ls d := fun d hd => hS d ((r1.mem d).mp hd)
    constructor
    · intro e
      by_cases c' : Pw f ls (S ++ [n])
      · obtain ⟨R', r1', r2'⟩ := h'.1 c'
        have hR' : ∀ d ∈ R', SdOk f ls d := fun d hd => hS' d ((r1'.mem d).mp hd)
        obtain ⟨m, hm, hi⟩ := min_ex hn ok hR' ((r1'.mem n).mpr (List.mem_append_right _ (List.mem_singleton.mpr rfl)))
        rw [r2, r2'] at e
        injection e with e
        rw [← e] at hm
        exact .inr ⟨m, (r1.mem m).mp (mem_min.mp hm).1, hi⟩
      · rw [r2, h'.2 c'] at e
        cases e
    · rintro (z | ⟨q, hq, hi⟩)
      · exact absurd c z
      have meetN : ∀ d ∈ S, Mt f ls d n := fun d hd => by
        obtain ⟨w, mw, w1, w2⟩ := c d hd q hq
        exact ⟨w, mw, w1, hi w mw w2⟩
      have c' : Pw f ls (S ++ [n]) := fun d hd e he => by
        rcases List.mem_append.mp hd with hd | hd <;> rcases List.mem_append.mp he with he | he
        · exact c d hd e he
        · rw [List.mem_singleton.mp he]
          exact meetN d hd
        · rw [List.mem_singleton.mp hd]
          exact (meetN e he).symm
        · rw [List.mem_singleton.mp hd, List.mem_singleton.mp he]
          obtain ⟨w, mw, _, w2⟩ := meetN q hq
          exact ⟨w, mw, w2, w2⟩
      obtain ⟨R', r1', r2'⟩ := h'.1 c'
      have hR' : ∀ d ∈ R', SdOk f ls d := fun d hd => hS' d ((r1'.mem d).mp hd)
      have inR : ∀ {d}, d ∈ R → d ∈ R' := fun {d} hd => (r1'.mem d).mpr (List.mem_append_left _ ((r1.mem d).mp hd))
      have hq' : q ∈ R := (r1.mem q).mpr hq
      rw [r2, r2']
      congr 1
      refine sorted_uniq SdLe.anti (r1.asc.sublist List.filter_sublist) (r1'.asc.sublist List.filter_sublist) (r1.nd.sublist List.filter_sublist) (r1'.nd.sublist List.filter_sublist) fun x => ?_
      rw [mem_min, mem_min]
      constructor
      · rintro ⟨hx, lx⟩
        refine ⟨inR hx, fun p hp ne hp2 => ?_⟩
        rcases List.mem_append.mp ((r1'.mem p).mp hp) with z | z
        · exact lx p ((r1.mem p).mpr z) ne hp2
        · obtain rfl := List.mem_singleton.mp z
          by_cases e : q = x
          · subst e
            exact ne (In.anti hn ok hN (hS q hq) hp2 hi)
          · exact lx q hq' e (hi.trans hp2)
      · rintro ⟨hx, lx⟩
        have xR : x ∈ R := by
          rcases List.mem_append.mp ((r1'.mem x).mp hx) with z | z
          · exact (r1.mem x).mpr z
          · obtain rfl := List.mem_singleton.mp z
            by_cases e : q = x
            · exact e ▸ hq'
            · exact absurd hi (lx q (inR hq') e)
        exact ⟨xR, fun p hp ne => lx p (inR hp) ne⟩
  · rw [h.2 c, h'.2 fun z => c fun d hd e he => z d (List.mem_append_left _ hd) e (List.mem_append_left _ he)]
    exact iff_of_true rfl (.inl c)
end
end
section
open PySem PySem.Spec L2
structure TxtO (K : PySem.W.Frag) (mg : Str → Option Value) : Prop where
  sorted : mg "sorted" = none
  len : mg "len" = none
  str : mg "str" = none
def spInOrder : Sp := fun vs H Q _ => ∃ (a : Addr) (ls : List (List Nat)), vs = [.ref a] ∧ H a = some (.lst (ls.map fun l => V.str (tx l))) ∧ (∀ l ∈ ls, l.length ≤ 1000000) ∧ ls.length ≤ 1000000 ∧
  ∀ (ls' : List (List Nat)) p H', H p = none → Same H H' → H' p = some (.lst (ls'.map fun l => V.str (tx l))) → ls'.Perm ls → ls'.Pairwise shortLe → Q (.ref p) H'
theorem walk_txs {K : PySem.W.Frag} {a : Addr} {ws : List (List Nat)} : Walk (Itl K a) ws.length (fun H => SqL K H a (ws.map fun l => V.str (tx l))) (fun k H x H' => H' = H ∧ x = V.str (tx (ws.getD k []))) := by
  have w := walk_list (K := K) (a := a) (xs := ws.map fun l => V.str (tx l))
  rw [List.length_map] at w
  refine w.mono (fun _ z => z) fun i H x H' hi _ y => ?_
  obtain ⟨rfl, e⟩ := y
  refine ⟨rfl, ?_⟩
  rw [List.getElem?_map, List.getElem?_eq_getElem hi] at e
  injection e with e
  rw [List.getD_eq_getElem?_getD, List.getElem?_eq_getElem hi]
  exact e.symm
theorem range_txs (ls : List (List Nat)) : ((List.range ls.length).filter fun _ => true).map (fun k => V.str (tx (ls.getD k []))) = ls.map fun l => V.str (tx l) := by
  rw [List.filter_eq_self.mpr fun _ _ => rfl]
  apply List.ext_getElem
  · simp
  · intro i h1 h2
    simp only [List.getElem_map, List.getElem_range]
    have h3 : i < ls.length := by simpa using h2
    rw [List.getD_eq_getElem?_getD, List.getElem?_eq_getElem h3]
    rfl
section
variable {P : Program} {w : World} {K : PySem.W.Frag} {mg : Str → Option Value} {base : Heap} {C R O W : Addr}
abbrev stin_order : Stmt := (top 23)
abbrev Nin_order : List Str := ["names", "name"]
theorem scin_order : FnScope Nin_order ["names"] (defScope stin_order) := ⟨rfl, rfl, rfl, by decide +kernel, rfl, by decide +kernel, by decide +kernel⟩

theorem ok_in_order (F : FnAt K mg "in_order" stin_order) (T : TxtO K mg) : Def P w K mg base CX0 1 "in_order" ["names"] spInOrder := by
  refine F.ok scin_order (fun _ _ _ _ _ _ us hl => match us, hl with | [_], _ => rfl) (fun vs H Q E h => ?_) (fun f cdv A outer s H vs Q E hr h => ?_)
  · obtain ⟨a, ls, rfl, _⟩ := h
    rfl
  obtain ⟨a, ls, rfl, ha, hz, hl, q⟩ := h
  have hu := hu_of hr
  have nd := scin_order.nd
  refine ⟨_, (pss_one (ps_ret (pe_sortL (K := K) rfl (by rfl) T.sorted (by rfl) T.len (pa_cons (pe_callB (cr_sortedTK (K := K) rfl) (by rfl) T.sorted (by decide +kernel) (pa_cons (pe_lc (own := [("name", 1)]) (g := gName 1) (by rfl) nd (pi_listK (K := K) rfl (pv 0)) (blkOk_by (own := [("name", 1)]) (N := Nin_order) (sc := defScope stin_order) (by decide +kernel)) (fun _ _ _ _ _ => (pg_name (i := 1) nd rfl (Or.inl rfl))) (fun _ _ _ _ _ => pts_nil) (fun _ _ _ _ _ => (pe_callTy c_strS (by rfl) T.str (by decide +kernel) (pa_cons (pv 1) pa_nil)))) pa_nil)) pa_nil)))), ?_⟩
  refine s_start [some _, none] rfl ?_
  walk_at "go"
  refine e_sortL ?_
  walk_at "go"
  refine lc_gen (n := ls.length) (it := fun k => V.str (tx (ls.getD k []))) (b := fun _ => true) (f := fun k => V.str (tx (ls.getD k []))) walk_txs (fun H' s' => SqL.of (s' _ _ ha)) hl (fun k hk H1 s1 R r => ?_) (fun k hk _ H1 s1 R r => ?_) (fun D H1 hD s1 e1 => ?_)
  · exact r H1 (Same.refl _)
  · walk_at "go"
    refine v_strS ?_
    exact r H1 (Same.refl _)
  rw [range_txs] at e1
  walk_at "go"
  refine ⟨D, ls, rfl, SqL.of e1, fun m p hm1 hm2 hp => ?_⟩
  walk_at "go"
  have s2 : Same H1 (upd H1 p (.lst (m.map fun l => V.str (tx l)))) := Same.new hp
  refine ⟨p, m, rfl, SqL.of upd_same, fun l hl => hz l (hm1.mem_iff.mp hl), fun n p2 hn1 hn2 hn3 hp2 => ?_⟩
  obtain ⟨r1, r2⟩ := sorted_twice hm1 hm2 hn1 hn2 hn3
  exact q n p2 _ (L2.Same.free (s1.trans s2) hp2) ((s1.trans s2).trans (Same.new hp2)) upd_same r1 r2
end
/-! ### the walls between two rooms -/
structure WallsAt (W R : Addr) (H : Hp) (p x : Addr) (keys : List (List Nat)) : Prop where
  ex : ∃ As : List Addr, H p = some (.lst (As.map V.ref)) ∧ Paired (fun a key => ∃ r m k, key = m ++ [k] ∧ WallAt W R H a r x k m) As keys
theorem WallsAt.same {W R : Addr} {H H' : Hp} {p x : Addr} {keys : List (List Nat)} (h : WallsAt W R H p x keys) (s : Same H H') : WallsAt W R H' p x keys := by
  obtain ⟨As, e, pr⟩ := h.ex
  exact ⟨As, s _ _ e, paired_imp (fun a key ⟨r, m, k, e, w⟩ => ⟨r, m, k, e, w.same s⟩) pr⟩
section
variable {P : Program} {w : World} {K : PySem.W.Frag} {mg : Str → Option Value} {base : Heap} {C R O W : Addr}
end
end
section
open PySem PySem.Spec L2
/-- a side's tuple -/
abbrev TupSd (H : Hp) (p : Addr) (d : Sd) : Prop := H p = some (.tup [.str (tx d.m), .str (tx [d.k]), .bl d.b])
abbrev SdsL (H : Hp) (t : Addr) (D : List Sd) : Prop := RefsL TupSd H t D
abbrev SdsT (H : Hp) (t : Addr) (D : List Sd) : Prop := RefsT TupSd H t D
theorem SdsL.keep {H H' : Hp} {t : Addr} {D : List Sd} (h : SdsL H t D) (s : Same H H') : SdsL H' t D := h.same s fun p a e => s _ _ e
theorem SdsT.keep {H H' : Hp} {t : Addr} {D : List Sd} (h : SdsT H t D) (s : Same H H') : SdsT H' t D := h.same s fun p a e => s _ _ e
def rStr01 : List V → Hp → VK → Prop := fun xs H Q => ∃ b : Bool, xs = [.int (if b then 1 else 0)] ∧ Q (.str (tx [if b then 49 else 48])) H
theorem c_str {X : Cx} : CallR X (.type "str") rStr01 := by
  intro pins s σ H xs us Q I r h
  obtain ⟨b, rfl, q⟩ := h
  refine call_str_int pins s σ H _ us Q I r ⟨_, rfl, by cases b <;> decide, ?_⟩
  cases b <;> exact q
/-- the dict of the sides by their texts -/
def kvS (E : List (Sd × Addr)) : List (Key × V) := E.map fun e => (Sum.inr (tx e.1.key), V.ref e.2)
def putS (E : List (Sd × Addr)) (d : Sd) (p : Addr) : List (Sd × Addr) := if d ∈ E.map (·.1) then E.map (fun e => if e.1 = d then (d, p) else e) else E ++ [(d, p)]
theorem key_eq {d e : Sd} : (Sum.inr (tx d.key) : Key) = Sum.inr (tx e.key) ↔ d = e := ⟨fun h => by injection h with h; exact key_inj (tx_inj.mp h), fun h => by rw [h]⟩
theorem kvS_any (E : List (Sd × Addr)) (d : Sd) : ((kvS E).any fun kv => decide (kv.1 = (Sum.inr (tx d.key) : Key))) = decide (d ∈ E.map (·.1)) := by
  rw [Bool.eq_iff_iff, List.any_eq_true, decide_eq_true_iff, List.mem_map]
  constructor
  · rintro ⟨kv, h1, h2⟩
    obtain ⟨e, he, rfl⟩ := List.mem_map.mp h1
    exact ⟨e, he, key_eq.mp (of_decide_eq_true h2)⟩
  · rintro ⟨e, he, rfl⟩
    exact ⟨_, List.mem_map.mpr ⟨e, he, rfl⟩, decide_eq_true rfl⟩
theorem kvS_put (E : List (Sd × Addr)) (d : Sd) (p : Addr) : putK (kvS E) (Sum.inr (tx d.key)) (V.ref p) = kvS (putS E d p) := by
  unfold putK putS
  rw [kvS_any]
  by_cases h : d ∈ E.map (·.1)
  · rw [if_pos (decide_eq_true h), if_pos h]
    unfold kvS
    rw [List.map_map, List.map_map]
    refine List.map_congr_left fun e _ => ?_
    obtain ⟨e1, e2⟩ := e
    show (if (Sum.inr (tx e1.key) : Key) = Sum.inr (tx d.key) then ((Sum.inr (tx e1.key) : Key), V.ref p) else (Sum.inr (tx e1.key), V.ref e2)) = (Sum.inr (tx (if e1 = d then (d, p) else (e1, e2)).1.key), V.ref (if e1 = d then (d, p) else (e1, e2)).2)
    by_cases c : e1 = d
    · subst c
      rw [if_pos rfl, if_pos rfl]
    · rw [if_neg fun z => c (key_eq.mp z), if_neg c]
  · rw [if_neg (by rw [decide_eq_false h]; decide), if_neg h]
    unfold kvS
    rw [List.map_append]
    rfl
theorem putS_fst (E : List (Sd × Addr)) (d : Sd) (p : Addr) : (putS E d p).map (·.1) = if d ∈ E.map (·.1) then E.map (·.1) else E.map (·.1) ++ [d] := by
  unfold putS
  by_cases h : d ∈ E.map (·.1)
  · rw [if_pos h, if_pos h, List.map_map]
    refine List.map_congr_left fun e _ => ?_
    show (if e.1 = d then (d, p) else e).1 = e.1
    by_cases c : e.1 = d
    · rw [if_pos c, c]
    · rw [if_neg c]
  · rw [if_neg h, if_neg h, List.map_append]
    rfl
theorem putS_mem {E : List (Sd × Addr)} {d : Sd} {p : Addr} {e : Sd × Addr} (h : e ∈ putS E d p) : e ∈ E ∨ e = (d, p) := by
  unfold putS at h
  split at h
  · obtain ⟨z, hz, rfl⟩ := List.mem_map.mp h
    by_cases c : z.1 = d
    · rw [if_pos c]
      exact .inr rfl
    · rw [if_neg c]
      exact .inl hz
  · rcases List.mem_append.mp h with h | h
    · exact .inl h
    · exact .inr (List.mem_singleton.mp h)
theorem kvS_get {E : List (Sd × Addr)} {d : Sd} (h : d ∈ E.map (·.1)) : ∃ p, valV (kvS E) (Sum.inr (tx d.key)) = some (V.ref p) ∧ (d, p) ∈ E := by
  induction E with
  | nil => exact nomatch h
  | cons e E ih =>
    by_cases c : e.1 = d
    · refine ⟨e.2, valV_pos (key_eq.mpr c), ?_⟩
      rw [← c]
      exact List.mem_cons_self ..
    · have hd : d ∈ E.map (·.1) := by
        rw [List.map_cons] at h
        rcases List.mem_cons.mp h with z | z
        · exact absurd z.symm c
        · exact z
      obtain ⟨p, h1, h2⟩ := ih hd
      exact ⟨p, (valV_neg fun z => c (key_eq.mp z)).trans h1, List.mem_cons_of_mem _ h2⟩
def spHalfSd (C R W HC : Addr) : Sp := fun vs H Q _ => ∃ (x p : Addr) (ls : List Nat) (f : Nat → List Nat) (d : Sd), vs = [.ref x, .ref p] ∧ PlanAt C H x (ascOf ls) (tabPairs ls f) ∧ FlE ls f ∧ TupSd H p d ∧ SdOk f ls d ∧ d.m.length ≤ 900 ∧ HC ≠ W ∧ HC ≠ R ∧
  ∀ h wa r H', H h = none → Same H H' → HalfAt HC W R H' h wa r x d.k d.m d.b → Q (.ref h) H'
def spGateIn (K : PySem.W.Frag) (C : Addr) : Sp := fun vs H Q _ => ∃ (x t : Addr) (ls : List Nat) (f : Nat → List Nat) (D : List Sd) (n : List Nat), vs = [.ref x, .ref t, .str (tx n)] ∧ PlanAt C H x (ascOf ls) (tabPairs ls f) ∧ FlE ls f ∧ (SdsL H t D ∨ SdsT H t D) ∧ (∀ d ∈ D, SdOk f ls d ∧ d.m.length ≤ 100) ∧ D.length ≤ 12 ∧ NF f n ∧ (∀ c ∈ n, c ∈ ls) ∧ n.length ≤ 500 ∧
  ∀ g H', Same H H' → NF f g → (∀ c ∈ g, c ∈ ls) → g.length ≤ n.length + 101 * D.length → Gts f ls D n g → Q (.str (tx g)) H'
def spOrdered : Sp := fun vs H Q _ => ∃ (t : Addr) (D : List Sd), vs = [.ref t] ∧ SdsL H t D ∧ (∀ d ∈ D, d.m.length ≤ 900) ∧ D.length ≤ 1000 ∧ ∀ q R H', H q = none → Same H H' → SdsL H' q R → OrdR D R → Q (.ref q) H'
theorem SdOk.pos {f : Nat → List Nat} {ls : List Nat} {d : Sd} (h : SdOk f ls d) : 0 < ls.length := List.length_pos_of_mem h.hk
theorem SdOk.nf {f : Nat → List Nat} {ls : List Nat} {d : Sd} (hn : ls.Nodup) (ok : CrOk f) (h : SdOk f ls d) : NF f d.m := (h.w2 hn ok h).m1
theorem splitA_none29 {f : Nat → List Nat} (ok : CrOk f) : ∀ {w free : List Nat}, (∀ t ∈ free, ¬ desc f t w) → splitA f free w = ([], w)
  | [], _, _ => rfl
  | k :: r, free, h => by
    have hk : ¬ k ∈ free := fun z => h k z (.inl rfl)
    rw [splitA_no hk, splitA_none29 ok fun t ht z => ?_]
    obtain ⟨h1, h2⟩ := List.mem_filter.mp ht
    exact h t h1 (.inr ⟨ok.sym _ _ (of_decide_eq_true h2), z⟩)
theorem start_self29 {f : Nat → List Nat} (ok : CrOk f) {m : List Nat} {s : Nat} (h1 : ¬ desc f s m.reverse) (h2 : ∀ t ∈ f s, ¬ desc f t m.reverse) : startC f m s = m := by
  unfold startC nearC
  rw [if_neg h1]
  rw [splitA_none29 ok h2, List.reverse_reverse]
theorem SdOk.start {f : Nat → List Nat} {ls : List Nat} {d : Sd} (hn : ls.Nodup) (ok : CrOk f) (h : SdOk f ls d) : startC f (nameOf f d.m) d.k = d.m := by
  have W := h.w2 hn ok h
  rw [show nameOf f d.m = d.m from (is_NF ok).mpr W.m1]
  exact start_self29 ok W.sm.td W.sm.fr
theorem Gts.snoc {f : Nat → List Nat} {ls : List Nat} {d : Sd} : ∀ {S : List Sd} {x y g : List Nat}, Gts f ls S x y → (∀ z ∈ g, z ∈ ls) → Gate f ls d.m d.k d.b y g → Gts f ls (S ++ [d]) x g
  | [], _, _, _, .nil, mg, G => .cons mg G .nil
  | e :: S, _, _, _, .cons m1 G1 r, mg, G => .cons m1 G1 (r.snoc mg G)
section
variable {P : Program} {w : World} {K : PySem.W.Frag} {mg : Str → Option Value} {base : Heap} {C R O W HC : Addr}
abbrev sthalf_of : Stmt := (top 74)
abbrev Nhalf_of : List Str := ["plan", "side"]
theorem schalf_of : FnScope Nhalf_of ["plan", "side"] (defScope sthalf_of) := ⟨rfl, rfl, rfl, by decide +kernel, rfl, by decide +kernel, by decide +kernel⟩

theorem ok_half_ofS (F : FnAt K mg "half_of" sthalf_of) (C_Room : CDef P w K mg base CX0 3 "Room" R (spRoom C R)) (C_Wall : CDef P w K mg base CX0 5 "Wall" W (spWall C R W)) (C_Half : CDef P w K mg base CX0 1 "Half" HC (spHalf C R W HC)) : Def P w K mg base CX0 7 "half_of" ["plan", "side"] (spHalfSd C R W HC) := by
  refine F.ok schalf_of (fun _ _ _ _ _ _ us hl => match us, hl with | [_, _], _ => rfl) (fun vs H Q E h => ?_) (fun f cdv A outer s H vs Q E hr h => ?_)
  · obtain ⟨x, p, ls, fn, d, rfl, _⟩ := h
    rfl
  obtain ⟨x, p, ls, fn, d, rfl, pl, fE, hp, ok, lm, n1, n2, q⟩ := h
  have fl := fE.fl ok.pos
  have hu := hu_of hr
  have nd := schalf_of.nd
  replace C_Room := C_Room.mono (show 3 ≤ 5 by decide)
  replace C_Half := C_Half.mono (show 1 ≤ 5 by decide)
  refine ⟨_, (pss_one (ps_ret (pe_mk C_Half hr pass0 (pa_cons (pe_mk C_Wall hr pass0 (pa_cons (pe_mk C_Room hr pass0 (pa_cons (pv 0) (pa_cons (pe_ix (ix_TK (K := K) rfl) (pv 1) pe_int (fun _ _ => rfl)) pa_nil))) (pa_cons (pe_ix (ix_TK (K := K) rfl) (pv 1) pe_int (fun _ _ => rfl)) pa_nil))) (pa_cons (pe_ix (ix_TK (K := K) rfl) (pv 1) pe_int (fun _ _ => rfl)) pa_nil))))), ?_⟩
  refine s_start [some _, some _] rfl ?_
  have at0 : atI [V.str (tx d.m), .str (tx [d.k]), .bl d.b] 0 = some (.str (tx d.m)) := rfl
  have at1 : atI [V.str (tx d.m), .str (tx [d.k]), .bl d.b] 1 = some (.str (tx [d.k])) := rfl
  have at2 : atI [V.str (tx d.m), .str (tx [d.k]), .bl d.b] 2 = some (.bl d.b) := rfl
  walk_at "go2"
  refine v_ixT hp at0 ?_
  walk_at "go2"
  refine sp_room fl pl ok.mem (by omega) fun r H1 hr1 s1 ro => ?_
  walk_at "go2"
  refine v_ixT (s1 _ _ hp) at1 ?_
  walk_at "go2"
  refine sp_wall (a := d.m) fl ro (pl.same s1) ok.mem ok.hk (by omega) fun wa r' H2 hwa s2 wl => ?_
  rw [show joinC fn [] d.m = nameOf fn d.m from rfl, ok.start fl.tab.nd fl.ok] at wl
  walk_at "go2"
  refine v_ixT (s2 _ _ (s1 _ _ hp)) at2 ?_
  walk_at "go2"
  refine ⟨wa, r', x, d.k, d.m, d.b, rfl, wl, n1, n2, fun h H3 hh s3 z => ?_⟩
  exact q h wa r' H3 (L2.Same.free (s1.trans s2) hh) ((s1.trans s2).trans s3) z
abbrev stgate_in : Stmt := (top 55)
abbrev Ngate_in : List Str := ["plan", "sides", "name", "found", "side"]
theorem scgate_in : FnScope Ngate_in ["plan", "sides", "name"] (defScope stgate_in) := ⟨rfl, rfl, rfl, by decide +kernel, rfl, by decide +kernel, by decide +kernel⟩

theorem ok_gate_in (F : FnAt K mg "gate_in" stgate_in) (D_gate_on : Def P w K mg base CX0 6 "gate_on" ["plan", "side", "name"] (spGateOn C)) : Def P w K mg base CX0 7 "gate_in" ["plan", "sides", "name"] (spGateIn K C) := by
  refine F.ok scgate_in (fun _ _ _ _ _ _ us hl => match us, hl with | [_, _, _], _ => rfl) (fun vs H Q E h => ?_) (fun f cdv A outer s H vs Q E hr h => ?_)
  · obtain ⟨x, t, ls, fn, D, n, rfl, _⟩ := h
    rfl
  obtain ⟨x, t, ls, fn, D, n, rfl, pl, fE, hD, okD, lD, nn, mn, ln, q⟩ := h
  have hu := hu_of hr
  have nd := scgate_in.nd
  refine ⟨_, (pss_cons (ps_set (i := 3) nd rfl (Or.inl rfl) (pv 2))
      (pss_cons (ps_for PassesOwn.never rfl (pi_or (pi_listK (K := K) rfl (pv 1)) (pi_tupK (K := K) rfl (pv 1))) (pg_name (i := 4) nd rfl (Or.inl rfl))
      (pss_one (ps_set (i := 3) nd rfl (Or.inl rfl) (pe_cd D_gate_on hr pass0 (pa_cons (pv 0) (pa_cons (pv 4) (pa_cons (pv 3) pa_nil)))))))
      (pss_one (ps_ret (pv 3))))), ?_⟩
  refine s_start [some _, some _, some _, none, none] rfl ?_
  walk_at "go"
  obtain ⟨E, e1, e2, e3⟩ : ∃ E : List (Sd × Addr), E.map (·.1) = D ∧ SeqO K H t (refV E) ∧ ∀ e ∈ E, TupSd H e.2 e.1 := by
    rcases hD with h | h
    · obtain ⟨E, e1, e2, e3⟩ := h.ex
      exact ⟨E, e1, .inl e2, e3⟩
    · obtain ⟨E, e1, e2, e3⟩ := h.ex
      exact ⟨E, e1, .inr (.inl e2), e3⟩
  have lE : E.length = D.length := by rw [← e1, List.length_map]
  refine e_forSeqA (xs := refV E) e2 (Same.refl _) (fun R r => ?_) (fun i σ H' => ∃ g z, σ = [some (.ref x), some (.ref t), some (.str (tx n)), some (.str (tx g)), z] ∧ Same H H' ∧ NF fn g ∧ (∀ c ∈ g, c ∈ ls) ∧ g.length ≤ n.length + 101 * i ∧ Gts fn ls (D.take i) n g) ⟨n, _, rfl, Same.refl _, nn, mn, by omega, by rw [List.take_zero]; exact .nil⟩ (fun i σ' H' ⟨_, _, _, s, _⟩ => s) ?_ ?_
  · walk_at "go"
    exact r
  · rintro i v σ H1 hv ⟨g, z, rfl, s1, ng, mgg, lg, G⟩
    rw [List.getElem?_map] at hv
    obtain ⟨e, he, rfl⟩ := Option.map_eq_some_iff.mp hv
    have em := List.mem_of_getElem? he
    have hd : D[i]? = some e.1 := by rw [← e1]; exact refs_get he
    obtain ⟨od, ld⟩ := okD e.1 (List.mem_of_getElem? hd)
    have hi : i < E.length := (List.getElem?_eq_some_iff.mp he).1
    have fl := fE.fl od.pos
    walk_at "go"
    refine ⟨x, e.2, ls, fn, e.1.m, g, e.1.k, e.1.b, rfl, pl.same s1, fl, s1 _ _ (e3 e em), od.nf fl.tab.nd fl.ok, ng, od.mem, mgg, od.hk, by omega, by omega, fun g' H2 s2 ng' mg' lg' G' => ?_⟩
    refine ⟨g', _, rfl, s1.trans s2, ng', mg', by omega, ?_⟩
    rw [take_succ_get hd]
    exact G.snoc mg' G'
  rintro σ H1 ⟨g, z, rfl, s1, ng, mgg, lg, G⟩
  rw [show (refV E).length = D.length by rw [List.length_map, lE]] at lg G
  rw [List.take_length] at G
  walk_at "go"
  exact q g H1 s1 ng mgg lg G
abbrev stordered_sides : Stmt := (top 56)
abbrev Nordered_sides : List Str := ["sides", "texts", "name", "kind", "far", "text"]
theorem scordered_sides : FnScope Nordered_sides ["sides"] (defScope stordered_sides) := ⟨rfl, rfl, rfl, by decide +kernel, rfl, by decide +kernel, by decide +kernel⟩

theorem ok_ordered (F : FnAt K mg "ordered_sides" stordered_sides) (T : TxtHf K mg C R O W HC) (D_in_order : Def P w K mg base CX0 1 "in_order" ["names"] spInOrder) : Def P w K mg base CX0 2 "ordered_sides" ["sides"] spOrdered := by
  refine F.ok scordered_sides (fun _ _ _ _ _ _ us hl => match us, hl with | [_], _ => rfl) (fun vs H Q E h => ?_) (fun f cdv A outer s H vs Q E hr h => ?_)
  · obtain ⟨t, D, rfl, _⟩ := h
    rfl
  obtain ⟨t, D, rfl, hD, lm, lD, q⟩ := h
  have hu := hu_of hr
  have nd := scordered_sides.nd
  refine ⟨_, (pss_cons (ps_set (i := 1) nd rfl (Or.inr rfl) pe_dnewK)
      (pss_cons (ps_for PassesOwn.never rfl (pi_listK (K := K) rfl (pv 0)) (pg_tup rfl (pgs_cons (pg_name (i := 2) nd rfl (Or.inl rfl)) (pgs_cons (pg_name (i := 3) nd rfl (Or.inl rfl)) (pgs_cons (pg_name (i := 4) nd rfl (Or.inl rfl)) pgs_nil))))
      (pss_one (ps_dput hu (pv 1) (pe_op op_addS (pe_op op_addS (pv 2) (pv 3)) (pe_callTy c_str (by rfl) T.str (by decide +kernel) (pa_cons (pe_callTy c_int (by rfl) T.int (by decide +kernel) (pa_cons (pv 4) pa_nil)) pa_nil))) (pe_tup (pa_cons (pv 2) (pa_cons (pv 3) (pa_cons (pv 4) pa_nil)))) rfl)))
      (pss_one (ps_ret (pe_lc (own := [("text", 5)]) (g := gName 5) (by rfl) nd (pi_listK (K := K) rfl (pe_cd D_in_order hr pass0 (pa_cons (pe_callTy (call_list_dK rfl) (by rfl) T.list (by decide +kernel) (pa_cons (pv 1) pa_nil)) pa_nil))) (blkOk_by (own := [("text", 5)]) (N := Nordered_sides) (sc := defScope stordered_sides) (by decide +kernel)) (fun _ _ _ _ _ => (pg_name (i := 5) nd rfl (Or.inl rfl))) (fun _ _ _ _ _ => pts_nil) (fun _ _ _ _ _ => (pe_dget hu (pv 1) (pv 5) (fun _ _ => rfl)))))))), ?_⟩
  refine s_start [some _, none, none, none, none, none] rfl ?_
  obtain ⟨E, e1, e2, e3⟩ := hD.ex
  have lE : E.length = D.length := by rw [← e1, List.length_map]
  walk_at "go"
  intro dd H0 hdd s0 ed0
  walk_at "go"
  refine for_it (walk_refE (K := K) (E := E)) (fun i σ H' => ∃ (F : List (Sd × Addr)) (z1 z2 z3 : Option V), σ = [some (.ref t), some (.ref dd), z1, z2, z3, none] ∧ Same H H' ∧ H' dd = some (.dK (kvS F)) ∧ (F.map (·.1)).Nodup ∧ (∀ d, d ∈ F.map (·.1) ↔ d ∈ D.take i) ∧ F.length ≤ i ∧ ∀ e ∈ F, TupSd H' e.2 e.1) ⟨[], _, _, _, rfl, s0, ed0, List.nodup_nil, (fun d => by rw [List.take_zero]; exact Iff.rfl), Nat.le_refl _, (fun e z => nomatch z)⟩ (fun i σ H' _ ⟨_, _, _, _, _, s, _⟩ => SqL.of (s _ _ e2)) ?_ ?_
  · rintro i v σ H1 H2 hi ⟨F, z1, z2, z3, rfl, s1, ed, nF, mF, lF, tF⟩ ⟨rfl, e, he, rfl⟩
    have em := List.mem_of_getElem? he
    have hd : D[i]? = some e.1 := by rw [← e1]; exact refs_get he
    have et := s1 _ _ (e3 e em)
    have lmm := lm e.1 (List.mem_of_getElem? hd)
    have hi2 : i < D.length := by rw [← lE]; exact hi
    have zz1 : e.1.m.length + [e.1.k].length ≤ 1000000 := by rw [List.length_singleton]; omega
    have zz2 : (e.1.m ++ [e.1.k]).length + [if e.1.b then 49 else 48].length ≤ 1000000 := by rw [List.length_append, List.length_singleton, List.length_singleton]; omega
    refine v_gTup3 rfl et ?_
    walk_at "go"
    intro p H3 hp s3 ep
    walk_at "go"
    refine ⟨e.1.b, rfl, ?_⟩
    walk_at "go"
    refine v_put (DPut.k (k := Sum.inr (tx e.1.key)) (s3 _ _ ed) (szlt (by unfold kvS; rw [List.length_map]; omega))) fun H4 k4 e4 => ?_
    rw [kvS_put] at e4
    have hpd : p ≠ dd := fun z => by
      rw [z, ed] at hp
      cases hp
    refine ⟨putS F e.1 p, _, _, _, rfl, fun b o hb => ?_, e4, ?_, fun d => ?_, ?_, fun c hc => ?_⟩
    · exact k4 _ _ (s3 _ _ (s1 _ _ hb)) (fun z => by rw [z, hdd] at hb; cases hb)
    · rw [putS_fst]
      split
      · exact nF
      · rename_i c
        exact List.nodup_append.mpr ⟨nF, List.nodup_cons.mpr ⟨List.not_mem_nil, List.nodup_nil⟩, fun a ha b hb z => c (by rw [List.mem_singleton.mp hb] at z; exact z ▸ ha)⟩
    · rw [putS_fst, take_succ_get hd, List.mem_append, List.mem_singleton, ← mF]
      split
      · rename_i c
        exact ⟨.inl, fun z => z.elim id fun y => y ▸ c⟩
      · rw [List.mem_append, List.mem_singleton]
    · have := congrArg List.length (putS_fst F e.1 p)
      rw [List.length_map] at this
      rw [this]
      split
      · rw [List.length_map]
        omega
      · rw [List.length_append, List.length_map, List.length_singleton]
        omega
    · rcases putS_mem hc with z | rfl
      · exact k4 _ _ (s3 _ _ (tF c z)) (fun y => by rw [← y, tF c z] at ed; cases ed)
      · exact k4 _ _ ep hpd
  rintro σ H1 ⟨F, z1, z2, z3, rfl, s1, ed, nF, mF, lF, tF⟩
  rw [lE, List.take_length] at mF
  walk_at "go"
  refine v_listD ed fun p H2 hp s2 ep => ?_
  have ek : ((kvS F).map fun kv => kV kv.1) = ((F.map (·.1)).map Sd.key).map fun l => V.str (tx l) := by
    unfold kvS
    rw [List.map_map, List.map_map, List.map_map]
    rfl
  rw [ek] at ep
  have ld : ∀ d ∈ F.map (·.1), d.key.length ≤ 902 := fun d hd => by
    have := lm d ((mF d).mp hd)
    unfold Sd.key
    rw [List.length_append, List.length_append, List.length_singleton, List.length_singleton]
    omega
  walk_at "go"
  refine ⟨p, _, rfl, ep, fun l hl => ?_, by rw [List.length_map, List.length_map]; omega, fun ls' r H3 hr3 s3 e3 pm pw => ?_⟩
  · obtain ⟨d, hd, rfl⟩ := List.mem_map.mp hl
    have := ld d hd
    omega
  obtain ⟨R, pR, rfl⟩ := perm_map_ex pm rfl
  have s13 := s2.trans s3
  walk_at "go"
  have lR : R.length ≤ 1000 := by
    rw [pR.length_eq, List.length_map]
    omega
  have get : ∀ k, k < R.length → ∃ d, R[k]? = some d ∧ (R.map Sd.key).getD k [] = d.key := fun k hk => ⟨R[k], List.getElem?_eq_getElem hk, by rw [List.getD_eq_getElem?_getD, List.getElem?_map, List.getElem?_eq_getElem hk]; rfl⟩
  refine lc_mapA (fun k v H' => ∀ d, R[k]? = some d → ∃ p', v = .ref p' ∧ TupSd H' p' d) walk_txs (fun H' s' => SqL.of (s' _ _ e3)) (by rw [List.length_map]; omega) ?_ ?_ ?_ ?_ ?_
  · rintro k v H4 H5 h s d hd
    obtain ⟨p', rfl, e⟩ := h d hd
    exact ⟨p', rfl, s _ _ e⟩
  · rintro k v H4 H5 D' l' h e0 kp d hd
    obtain ⟨p', rfl, e⟩ := h d hd
    exact ⟨p', rfl, kp _ _ e (ne_of e e0 (by intro z; cases z))⟩
  · intro k hk H4 s4 R' r'
    walk_at "go"
    exact r' H4 (Same.refl _)
  · intro k hk H4 s4 R' r'
    rw [List.length_map] at hk
    obtain ⟨d, hd, ed'⟩ := get k hk
    have dm : d ∈ F.map (·.1) := pR.mem_iff.mp (List.mem_of_getElem? hd)
    obtain ⟨p', g1, g2⟩ := kvS_get dm
    walk_at "go"
    rw [ed']
    have dg := DGet.k (k := Sum.inr (tx d.key)) (s4 _ _ (s13 _ _ ed))
    rw [g1] at dg
    refine v_dget dg ?_
    refine r' _ H4 (Same.refl _) fun d' hd' => ?_
    rw [hd] at hd'
    injection hd' with hd'
    subst hd'
    exact ⟨p', rfl, s4 _ _ (s13 _ _ (tF _ g2))⟩
  intro q' H4 vs hq4 s4 e4 l4 r4
  rw [List.length_map] at l4
  obtain ⟨G, g1, rfl, g3⟩ := refs_of (R := TupSd) (H := H4) (D := R) l4 fun k v d h1 h2 => r4 k v h1 d h2
  walk_at "go"
  refine q q' R H4 (L2.Same.free (s1.trans s13) hq4) ((s1.trans s13).trans s4) ⟨G, g1, e4, g3⟩ ⟨?_, ?_, fun d => ?_⟩
  · exact (List.pairwise_map (f := Sd.key) (R := shortLe)).mp pw
  · exact pR.nodup_iff.mpr nF
  · rw [pR.mem_iff, mF]
end
end
section
open PySem PySem.Spec L2
open Classical in
noncomputable def onB (f : Nat → List Nat) (ls w : List Nat) (d : Sd) : Bool := decide (On f ls d w)
open Classical in
theorem onB_iff {f : Nat → List Nat} {ls w : List Nat} {d : Sd} : onB f ls w d = true ↔ On f ls d w := by
  unfold onB
  exact decide_eq_true_iff
open Classical in
noncomputable def allB (f : Nat → List Nat) (ls w : List Nat) (D : List Sd) : Bool := decide (AllOn f ls D w)
open Classical in
theorem allB_iff {f : Nat → List Nat} {ls w : List Nat} {D : List Sd} : allB f ls w D = true ↔ AllOn f ls D w := by
  unfold allB
  exact decide_eq_true_iff
theorem all_onB {f : Nat → List Nat} {ls w : List Nat} {D : List Sd} : (D.map (onB f ls w)).all id = allB f ls w D := by
  rw [Bool.eq_iff_iff, allB_iff, List.all_eq_true]
  constructor
  · exact fun h d hd => onB_iff.mp (h _ (List.mem_map.mpr ⟨d, hd, rfl⟩))
  · intro h b hb
    obtain ⟨d, hd, rfl⟩ := List.mem_map.mp hb
    exact onB_iff.mpr (h d hd)
open Classical in
noncomputable def leastB (f : Nat → List Nat) (ls : List Nat) (R : List Sd) (r : Sd) : Bool := decide (Least f ls R r)
open Classical in
theorem leastB_iff {f : Nat → List Nat} {ls : List Nat} {R : List Sd} {r : Sd} : leastB f ls R r = true ↔ Least f ls R r := by
  unfold leastB
  exact decide_eq_true_iff
theorem any_blw {f : Nat → List Nat} {ls : List Nat} {R : List Sd} {r : Sd} : (R.map (blw f ls r)).any id = !leastB f ls R r := by
  have e : leastB f ls R r = true ↔ Least f ls R r := leastB_iff
  have k : (R.map (blw f ls r)).any id = true ↔ ¬ leastB f ls R r = true := by
    rw [e, List.any_eq_true]
    constructor
    · rintro ⟨b, hb, h⟩ l
      obtain ⟨o, ho, rfl⟩ := List.mem_map.mp hb
      obtain ⟨ne, hi⟩ := blw_iff.mp h
      exact l o ho ne hi
    · intro l
      apply Classical.byContradiction
      intro z
      exact l fun o ho ne hi => z ⟨_, List.mem_map.mpr ⟨o, ho, rfl⟩, blw_iff.mpr ⟨ne, hi⟩⟩
  cases h : leastB f ls R r with
  | true =>
    rw [h] at k
    cases h2 : (R.map (blw f ls r)).any id with
    | true => exact absurd rfl (k.mp h2)
    | false => rfl
  | false =>
    rw [h] at k
    exact k.mpr fun z => nomatch z
theorem min_filter {f : Nat → List Nat} {ls : List Nat} {R : List Sd} : minR f ls R = R.filter (leastB f ls R) := rfl
def LeastAt (H : Hp) (v : V) : Option (List Sd) → Prop
  | none => v = .non
  | some D => ∃ t, v = .ref t ∧ SdsT H t D
theorem LeastAt.keep {H H' : Hp} {v : V} {o : Option (List Sd)} (h : LeastAt H v o) (s : Same H H') : LeastAt H' v o := by
  cases o with
  | none => exact h
  | some D =>
    obtain ⟨t, e, z⟩ := h
    exact ⟨t, e, z.keep s⟩
def spLeast (C : Addr) : Sp := fun vs H Q _ => ∃ (x t : Addr) (ls : List Nat) (f : Nat → List Nat) (S : List Sd), vs = [.ref x, .ref t] ∧ PlanAt C H x (ascOf ls) (tabPairs ls f) ∧ FlE ls f ∧ SdsL H t S ∧ (∀ d ∈ S, SdOk f ls d ∧ d.m.length ≤ 100) ∧ S.length ≤ 12 ∧
  ∀ v o H', Same H H' → OwnR f ls S o → LeastAt H' v o → Q v H'
theorem sd_eq {d e : Sd} : d = e ↔ d.m = e.m ∧ d.k = e.k ∧ d.b = e.b := by
  obtain ⟨m, k, b⟩ := d
  obtain ⟨m', k', b'⟩ := e
  exact ⟨fun z => by injection z with a b c; exact ⟨a, b, c⟩, fun ⟨a, b, c⟩ => by congr⟩
theorem vs_bl {E : List (Sd × Addr)} {vs : List V} {g : Sd → Bool} (hl : vs.length = E.length) (h : ∀ (k : Nat) (v : V) (e : Sd × Addr), vs[k]? = some v → E[k]? = some e → v = .bl (g e.1)) : vs = ((E.map (·.1)).map g).map V.bl := by
  apply List.ext_getElem?
  intro k
  rw [List.map_map, List.getElem?_map, List.getElem?_map]
  cases hE : E[k]? with
  | none =>
    have := List.getElem?_eq_none_iff.mp hE
    rw [List.getElem?_eq_none_iff.mpr (by omega)]
    rfl
  | some e =>
    have hk := (List.getElem?_eq_some_iff.mp hE).1
    have hv : vs[k]? = some vs[k] := List.getElem?_eq_getElem (by omega)
    rw [hv, h k _ e hv hE]
    rfl
theorem v_any29 {K : PySem.W.Frag} {H : Hp} {Q : VK} {p : Addr} {bs : List Bool} (h : H p = some (.lst (bs.map V.bl))) (q : Q (.bl (bs.any id)) H) : rAny K [.ref p] H Q := ⟨p, bs, rfl, SqL.of h, q⟩
theorem v_neSide {K : PySem.W.Frag} {H : Hp} {Q : VK} {p q : Addr} {d e : Sd} (h1 : TupSd H p d) (h2 : TupSd H q e) (m1 : ∀ c ∈ d.m, c < 1000) (m2 : ∀ c ∈ e.m, c < 1000) (k1 : d.k < 1000) (k2 : e.k < 1000) (r : Q (.bl (!decide (d = e))) H) : rNeD K (.ref p) (.ref q) H Q := by
  have z := v_eqSide (K := K) (Q := fun v _ => v = .bl (decide (d = e))) h1 h2 m1 m2 k1 k2 (by rw [decide_eq_decide.mpr sd_eq])
  obtain ⟨u, v, a, b, c, g, y⟩ := z
  injection y with y
  exact ⟨u, v, a, b, c, g, by rw [y]; exact r⟩
structure TxtLt (K : PySem.W.Frag) (mg : Str → Option Value) (C R O W HC : Addr) : Prop extends TxtHf K mg C R O W HC where
  any : mg "any" = none
section
variable {P : Program} {w : World} {K : PySem.W.Frag} {mg : Str → Option Value} {base : Heap} {C R O W HC : Addr}
abbrev stleast_sides : Stmt := (top 57)
abbrev Nleast_sides : List Str := ["plan", "sides", "rows", "room", "found", "row", "other"]
theorem scleast_sides : FnScope Nleast_sides ["plan", "sides"] (defScope stleast_sides) := ⟨rfl, rfl, rfl, by decide +kernel, rfl, by decide +kernel, by decide +kernel⟩

theorem ok_least (F : FnAt K mg "least_sides" stleast_sides) (T : TxtLt K mg C R O W HC) (D_ordered_sides : Def P w K mg base CX0 2 "ordered_sides" ["sides"] spOrdered) (D_gate_in : Def P w K mg base CX0 7 "gate_in" ["plan", "sides", "name"] (spGateIn K C)) (D_is_on : Def P w K mg base CX0 5 "is_on" ["plan", "side", "name"] (spOn C)) (D_lies_in : Def P w K mg base CX0 8 "lies_in" ["plan", "one", "two"] (spLiesS C)) : Def P w K mg base CX0 9 "least_sides" ["plan", "sides"] (spLeast C) := by
  refine F.ok scleast_sides (fun _ _ _ _ _ _ us hl => match us, hl with | [_, _], _ => rfl) (fun vs H Q E h => ?_) (fun f cdv A outer s H vs Q E hr h => ?_)
  · obtain ⟨x, t, ls, fn, S, rfl, _⟩ := h
    rfl
  obtain ⟨x, t, ls, fn, S, rfl, pl, fE, hS, okS, lS, q⟩ := h
  have hu := hu_of hr
  have nd := scleast_sides.nd
  replace D_ordered_sides := D_ordered_sides.mono (show 2 ≤ 8 by decide)
  replace D_gate_in := D_gate_in.mono (show 7 ≤ 8 by decide)
  replace D_is_on := D_is_on.mono (show 5 ≤ 8 by decide)
  refine ⟨_, (pss_cons (ps_set (i := 2) nd rfl (Or.inl rfl) (pe_cd D_ordered_sides hr pass0 (pa_cons (pv 1) pa_nil)))
      (pss_cons (ps_set (i := 3) nd rfl (Or.inr rfl) (pe_cd D_gate_in hr pass0 (pa_cons (pv 0) (pa_cons (pv 2) (pa_cons (pe_tx [] (by decide +kernel)) pa_nil)))))
      (pss_cons (ps_if (pt_not (pt_val (pe_callB (c_allK (K := K) rfl rfl) (by rfl) T.all (by decide +kernel) (pa_cons (pe_lc (own := [("row", 5)]) (g := gName 5) (by rfl) nd (pi_listK (K := K) rfl (pv 2)) (blkOk_by (own := [("row", 5)]) (N := Nleast_sides) (sc := defScope stleast_sides) (by decide +kernel)) (fun _ _ _ _ _ => (pg_name (i := 5) nd rfl (Or.inl rfl))) (fun _ _ _ _ _ => pts_nil) (fun _ _ _ _ _ => (pe_cd D_is_on hr pass0 (pa_cons (pv 0) (pa_cons (pv 5) (pa_cons (pv 3) pa_nil)))))) pa_nil))))
      (pss_one (ps_ret pe_non))
      pss_nil)
      (pss_cons (ps_set (i := 4) nd rfl (Or.inl rfl) (pe_lst pa_nil))
      (pss_cons (ps_for PassesOwn.never rfl (pi_listK (K := K) rfl (pv 2)) (pg_name (i := 5) nd rfl (Or.inr rfl))
      (pss_one (ps_if (pt_not (pt_val (pe_callB (c_anyK (K := K) rfl rfl) (by rfl) T.any (by decide +kernel) (pa_cons (pe_lc (own := [("other", 6)]) (g := gName 6) (by rfl) nd (pi_listK (K := K) rfl (pv 2)) (blkOk_by (own := [("other", 6)]) (N := Nleast_sides) (sc := defScope stleast_sides) (by decide +kernel)) (fun _ _ _ _ _ => (pg_name (i := 6) nd rfl (Or.inl rfl))) (fun _ _ _ _ _ => pts_nil) (fun _ _ _ _ _ => (pe_and (pe_cmpR (op_neDK (K := K) rfl hr.units) (pv 6) (pv 5) (nomark _)) (pe_one (pe_cd D_lies_in hr pass0 (pa_cons (pv 0) (pa_cons (pv 6) (pa_cons (pv 5) pa_nil)))))))) pa_nil))))
        (pss_one (ps_expr (pe_appK (K := K) rfl (pv 4) (pv 5))))
        pss_nil)))
      (pss_one (ps_ret (pe_callTy (c_tupleK (K := K) rfl) (by rfl) T.tuple (by decide +kernel) (pa_cons (pv 4) pa_nil))))))))), ?_⟩
  refine s_start [some _, some _, none, none, none, none, none] rfl ?_
  have hn := fE.tab.nd
  have ok := fE.ok
  have tl := fE.tab.len
  walk_at "go"
  refine ⟨t, S, rfl, hS, fun d hd => by have := (okS d hd).2; omega, by omega, fun t1 R' H1 ht1 s1 hR oR => ?_⟩
  have okR : ∀ d ∈ R', SdOk fn ls d ∧ d.m.length ≤ 100 := fun d hd => okS d ((oR.mem d).mp hd)
  have lR : R'.length ≤ 12 := Nat.le_trans (List.Nodup.length_le_of_subset oR.nd fun d hd => (oR.mem d).mp hd) lS
  walk_at "go"
  refine ⟨x, t1, ls, fn, R', [], rfl, pl.same s1, fE, .inl hR, okR, lR, trivial, (fun _ z => nomatch z), by decide, fun g H2 s2 ng mgg lg G => ?_⟩
  have all := gts_all hn ok G (fun _ z => nomatch z) fun d hd => (okR d hd).1
  have s12 := s1.trans s2
  have hR2 := hR.keep s2
  obtain ⟨E, e1, e2, e3⟩ := hR2.ex
  have lE : E.length = R'.length := by rw [← e1, List.length_map]
  have pl2 := pl.same s12
  simp only [List.length_nil] at lg
  walk_at "go"
  refine lc_refsL (K := K) (E := E) (R' := fun _ v d => v = .bl (onB fn ls g d)) e2 (by omega) (fun _ _ _ _ h _ => h) (fun _ _ _ _ _ _ h _ _ => h) (fun e he H3 s3 R r => ?_) (fun e he H3 s3 R r => ?_) (fun D H3 vs hD s3 eD l3 r3 => ?_)
  · walk_at "go"
    exact r H3 (Same.refl _)
  · have em : e.1 ∈ R' := by rw [← e1]; exact List.mem_map.mpr ⟨e, he, rfl⟩
    obtain ⟨od, ld⟩ := okR e.1 em
    have fl := fE.fl od.pos
    have asl := asc_self fl
    walk_at "go"
    refine ⟨x, e.2, _, _, e.1.m, g, e.1.k, e.1.b, rfl, pl2.same s3, s3 _ _ (e3 e he), inAsc fl.tab od.mem, inAsc fl.tab mgg, by rw [asl]; omega, by omega, by omega, fun H4 s4 => ?_⟩
    obtain ⟨ew, eb⟩ := on_bz fl (od.nf hn ok) ng od.mem mgg od.hk
    refine r _ H4 s4 ?_
    by_cases on : On fn ls e.1 g
    · rw [beq_yes eb on, onB_iff.mpr on]
    · rw [beq_no eb on]
      cases z : onB fn ls g e.1 with
      | true => exact absurd (onB_iff.mp z) on
      | false => rfl
  have evs : vs = (R'.map (onB fn ls g)).map V.bl := by
    rw [← e1]
    exact vs_bl l3 r3
  walk_at "go"
  refine v_all (bs := R'.map (onB fn ls g)) (by rw [eD, evs]) ?_
  rw [all_onB]
  refine ⟨_, rfl, ?_⟩
  by_cases pw : Pw fn ls R'
  · rw [allB_iff.mpr (all.mpr pw)]
    walk_at "go"
    intro fd H4 hfd s4 efd
    have s34 := s3.trans s4
    walk_at "go"
    refine for_it (walk_refE (K := K) (E := E)) (fun i σ H' => ∃ (z1 z2 : Option V), σ = [some (.ref x), some (.ref t), some (.ref t1), some (.str (tx g)), some (.ref fd), z1, z2] ∧ Same H3 H' ∧ H' fd = some (.lst (refV ((E.take i).filter fun e => leastB fn ls R' e.1)))) ⟨_, _, rfl, s4, efd⟩ (fun i σ H' _ ⟨_, _, _, s, _⟩ => SqL.of (s _ _ (s3 _ _ e2))) ?_ ?_
    · rintro i v σ H5 H6 hi ⟨z1, z2, rfl, s5, e5⟩ ⟨rfl, e, he, rfl⟩
      have em := List.mem_of_getElem? he
      have eR : e.1 ∈ R' := by rw [← e1]; exact List.mem_map.mpr ⟨e, em, rfl⟩
      obtain ⟨od, ld⟩ := okR e.1 eR
      have fl := fE.fl od.pos
      have s25 := s3.trans s5
      have lf : ((E.take i).filter fun e => leastB fn ls R' e.1).length ≤ E.length := Nat.le_trans (List.length_filter_le _ _) (by rw [List.length_take]; omega)
      walk_at "go"
      refine lc_refsL (K := K) (E := E) (R' := fun _ v d => v = .bl (blw fn ls e.1 d)) (s25 _ _ e2) (by omega) (fun _ _ _ _ h _ => h) (fun _ _ _ _ _ _ h _ _ => h) (fun c hc H7 s7 R r => ?_) (fun c hc H7 s7 R r => ?_) (fun D2 H7 vs2 hD2 s7 eD2 l7 r7 => ?_)
      · walk_at "go"
        exact r H7 (Same.refl _)
      · have cR : c.1 ∈ R' := by rw [← e1]; exact List.mem_map.mpr ⟨c, hc, rfl⟩
        obtain ⟨oc, lc⟩ := okR c.1 cR
        have tc := s7 _ _ (s25 _ _ (e3 c hc))
        have te := s7 _ _ (s25 _ _ (e3 e em))
        have small := fun {m : List Nat} (h : ∀ y ∈ m, y ∈ ls) => let_small fl h
        have k1 := let_small fl (m := [c.1.k]) (fun y hy => by rw [List.mem_singleton.mp hy]; exact oc.hk) c.1.k (List.mem_singleton.mpr rfl)
        have k2 := let_small fl (m := [e.1.k]) (fun y hy => by rw [List.mem_singleton.mp hy]; exact od.hk) e.1.k (List.mem_singleton.mpr rfl)
        walk_at "go"
        refine v_neSide tc te (let_small fl oc.mem) (let_small fl od.mem) k1 k2 ?_
        refine ⟨_, rfl, ?_⟩
        by_cases ce : c.1 = e.1
        · rw [decide_eq_true ce]
          walk_at "go"
          refine r _ H7 (Same.refl _) ?_
          cases z : blw fn ls e.1 c.1 with
          | true => exact absurd ce (blw_iff.mp z).1
          | false => rfl
        · rw [decide_eq_false ce]
          walk_at "go"
          refine ⟨x, c.2, e.2, ls, fn, _, _, _, _, _, _, rfl, pl2.same (s25.trans s7), fl, tc, te, oc.w2 hn ok od, by omega, by omega, fun rr H8 s8 mr => ?_⟩
          refine r _ H8 s8 ?_
          have key := meetR_iff hn ok oc od.neg (e := e.1.neg) mr
          cases z : blw fn ls e.1 c.1 with
          | true =>
            have : ¬ rr = true := fun y => in_iff.mp (blw_iff.mp z).2 (key.mp y)
            cases rr with
            | true => exact absurd rfl this
            | false => rfl
          | false =>
            have : rr = true := Classical.byContradiction fun y => by
              have q1 : In fn ls c.1 e.1 := in_iff.mpr fun w => y (key.mpr w)
              rw [blw_iff.mpr ⟨ce, q1⟩] at z
              cases z
            rw [this]
            rfl
      have evs2 : vs2 = (R'.map (blw fn ls e.1)).map V.bl := by
        rw [← e1]
        exact vs_bl l7 r7
      walk_at "go"
      refine v_any29 (bs := R'.map (blw fn ls e.1)) (by rw [eD2, evs2]) ?_
      rw [any_blw]
      refine ⟨_, rfl, ?_⟩
      rw [Bool.not_not]
      have tk := take_succ_get he
      have e7 := s7 _ _ e5
      refine if_bool (fun c => ?_) (fun c => ?_)
      · walk_at "go"
        refine v_app e7 (by rw [List.length_map]; omega) fun H8 k8 e8 => ?_
        refine ⟨_, _, rfl, fun b o hb => k8 _ _ (s7 _ _ (s5 _ _ hb)) (ne_of_none hb hfd), ?_⟩
        rw [e8, tk, List.filter_append, List.filter_cons_of_pos (p := fun (e : Sd × Addr) => leastB fn ls R' e.1) (a := e) c]
        unfold refV
        rw [List.map_append]
        rfl
      · walk_at "go"
        refine ⟨_, _, rfl, s5.trans s7, ?_⟩
        rw [e7, tk, List.filter_append, List.filter_cons_of_neg (p := fun (e : Sd × Addr) => leastB fn ls R' e.1) (a := e) (by rw [c]; decide)]
        rw [List.filter_nil, List.append_nil]
    rintro σ H5 ⟨z1, z2, rfl, s5, e5⟩
    rw [List.take_length] at e5
    walk_at "go"
    refine v_tuple e5 fun p H6 hp s6 ep => ?_
    refine q (.ref p) (some (minR fn ls R')) H6 (((s12.trans s3).trans s5).trans s6) ⟨fun _ => ⟨R', oR, rfl⟩, fun z => absurd ((Pw.congr oR.mem).mp pw) z⟩ ⟨p, rfl, ⟨E.filter fun e => leastB fn ls R' e.1, ?_, ep, fun e he => ?_⟩⟩
    · rw [min_filter, ← e1, List.filter_map]
      rfl
    · exact s6 _ _ (s5 _ _ (s3 _ _ (e3 e (List.mem_filter.mp he).1)))
  · have na : allB fn ls g R' = false := by
      cases z : allB fn ls g R' with
      | true => exact absurd (all.mp (allB_iff.mp z)) pw
      | false => rfl
    rw [na]
    walk_at "go"
    exact q .non none H3 (s12.trans s3) ⟨fun z => absurd ((Pw.congr oR.mem).mpr z) pw, fun _ => rfl⟩ rfl
end
end
section
open PySem PySem.Spec L2
def lotF (x : Addr) (v : V) (q : Addr) : List (Str × V) := putF "halves" (.ref q) (putF "own_sides" v (putF "plan" (.ref x) []))
theorem nlpo : ¬ (("plan" : Str) = "own_sides") := by decide +kernel
theorem nlph : ¬ (("plan" : Str) = "halves") := by decide +kernel
theorem nloh : ¬ (("own_sides" : Str) = "halves") := by decide +kernel
theorem lotF_p {x q : Addr} {v : V} : (lotF x v q).lookup ("plan" : Str) = some (.ref x) := by
  unfold lotF
  rw [lookup_putF, if_neg nlph, lookup_putF, if_neg nlpo, lookup_putF, if_pos rfl]
theorem lotF_o {x q : Addr} {v : V} : (lotF x v q).lookup ("own_sides" : Str) = some v := by
  unfold lotF
  rw [lookup_putF, if_neg nloh, lookup_putF, if_pos rfl]
theorem lotF_h {x q : Addr} {v : V} : (lotF x v q).lookup ("halves" : Str) = some (.ref q) := by
  unfold lotF
  rw [lookup_putF, if_pos rfl]
theorem LeastAt.keepI {H H' : Hp} {v : V} {o : Option (List Sd)} {l c dx : Addr} {fs : List (Str × V)} (h : LeastAt H v o) (k : Keep l H H') (hl : H l = some (.ins c dx fs)) : LeastAt H' v o := by
  cases o with
  | none => exact h
  | some D =>
    obtain ⟨t, e, ⟨E, e1, e2, e3⟩⟩ := h
    exact ⟨t, e, ⟨E, e1, k _ _ e2 (ne_of e2 hl (by intro z; cases z)), fun e he => k _ _ (e3 e he) (ne_of (e3 e he) hl (by intro z; cases z))⟩⟩
/-- own_sides or () -/
theorem v_sidesOr {K : PySem.W.Frag} {H : Hp} {Q : VK} {v : V} {o : Option (List Sd)} {te : TE} {σ : L2.St} (la : LeastAt H v o) (h0 : ∀ R : VK, (∀ p H', Same H H' → H' p = some (.tup []) → R (.ref p) H') → te σ H R)
    (q : ∀ (p : Addr) (E : List (Sd × Addr)) H', Same H H' → H' p = some (.tup (refV E)) → E.map (·.1) = o.getD [] → (∀ e ∈ E, TupSd H' e.2 e.1) → Q (.ref p) H') : ∃ k, TruV K v H k ∧ if k = true then Q v H else te σ H Q := by
  have z : o.getD [] = [] → te σ H Q := fun e => h0 Q fun p H' s hp => q p [] H' s hp e.symm fun _ y => nomatch y
  cases o with
  | none =>
    obtain rfl : v = .non := la
    exact ⟨false, rfl, z rfl⟩
  | some D =>
    obtain ⟨t, rfl, ⟨E, e1, e2, e3⟩⟩ := la
    cases E with
    | nil => exact ⟨false, .inr (.inl ⟨[], SqT.of e2, rfl⟩), z e1.symm⟩
    | cons a E => exact ⟨true, .inr (.inl ⟨_, SqT.of e2, rfl⟩), q t (a :: E) H (Same.refl _) e2 e1 e3⟩
/-- a half of the plan at x, of a side -/
def HvAt (HC W R x : Addr) (H : Hp) (h : Addr) (d : Sd) : Prop := ∃ wa r, HalfAt HC W R H h wa r x d.k d.m d.b
theorem HvAt.keep {HC W R x : Addr} {H H' : Hp} {h : Addr} {d : Sd} (z : HvAt HC W R x H h d) (s : Same H H') : HvAt HC W R x H' h d := by
  obtain ⟨wa, r, z⟩ := z
  exact ⟨wa, r, z.same s⟩
/-- a half of a plan that equals -/
def HvEq (C HC W R : Addr) (ls : List Nat) (f : Nat → List Nat) (H : Hp) (h : Addr) (d : Sd) : Prop := ∃ x, HvAt HC W R x H h d ∧ PlanAt C H x (ascOf ls) (tabPairs ls f)
theorem HvEq.keep {C HC W R : Addr} {ls : List Nat} {f : Nat → List Nat} {H H' : Hp} {h : Addr} {d : Sd} (z : HvEq C HC W R ls f H h d) (s : Same H H') : HvEq C HC W R ls f H' h d := by
  obtain ⟨x, z, p⟩ := z
  exact ⟨x, z.keep s, p.same s⟩
structure LotAt (L HC W R : Addr) (H : Hp) (l x : Addr) (o : Option (List Sd)) : Prop where
  ex : ∃ dx v q, H l = some (.ins L dx (lotF x v q)) ∧ LeastAt H v o ∧ RefsT (HvAt HC W R x) H q (o.getD [])
theorem LotAt.keep {L HC W R : Addr} {H H' : Hp} {l x : Addr} {o : Option (List Sd)} (h : LotAt L HC W R H l x o) (s : Same H H') : LotAt L HC W R H' l x o := by
  obtain ⟨dx, v, q, e1, e2, e3⟩ := h.ex
  exact ⟨dx, v, q, s _ _ e1, e2.keep s, e3.same s fun p a z => HvAt.keep z s⟩
structure TxtLot (K : PySem.W.Frag) (mg : Str → Option Value) (C R O W HC L : Addr) : Prop extends TxtLt K mg C R O W HC where
  Lot : ClsF K mg "Lot" L
  nLp : NoAttr K L "plan"
  nLo : NoAttr K L "own_sides"
  nLh : NoAttr K L "halves"
/-- what a lot is made of -/
structure LotArg (K : PySem.W.Frag) (C R W HC : Addr) (H : Hp) (x t : Addr) (ls : List Nat) (f : Nat → List Nat) (S : List Sd) : Prop where
  pl : PlanAt C H x (ascOf ls) (tabPairs ls f)
  fE : FlE ls f
  ex : ∃ E : List (Sd × Addr), E.map (·.1) = S ∧ SeqO K H t (refV E) ∧ ∀ e ∈ E, HvEq C HC W R ls f H e.2 e.1
  ok : ∀ d ∈ S, SdOk f ls d ∧ d.m.length ≤ 100
  few : S.length ≤ 12
theorem LotArg.keep {K : PySem.W.Frag} {C R W HC : Addr} {H H' : Hp} {x t : Addr} {ls : List Nat} {f : Nat → List Nat} {S : List Sd} (h : LotArg K C R W HC H x t ls f S) (s : Same H H') : LotArg K C R W HC H' x t ls f S := by
  obtain ⟨E, e1, e2, e3⟩ := h.ex
  exact ⟨h.pl.same s, h.fE, ⟨E, e1, e2.same s, fun e he => (e3 e he).keep s⟩, h.ok, h.few⟩
/-- classes that differ -/
structure Apart5 (C R W HC L : Addr) : Prop where
  hw : HC ≠ W
  hr : HC ≠ R
  lh : L ≠ HC
  lw : L ≠ W
  lr : L ≠ R
  lc : L ≠ C
def spLot0 (K : PySem.W.Frag) (C R W HC L : Addr) : Sp := fun vs H Q _ => ∃ (l dx x t : Addr) (ls : List Nat) (f : Nat → List Nat) (S : List Sd), vs = [.ref l, .ref x, .ref t] ∧ H l = some (.ins L dx []) ∧ LotArg K C R W HC H x t ls f S ∧ Apart5 C R W HC L ∧
  ∀ o H', Keep l H H' → OwnR f ls S o → LotAt L HC W R H' l x o → Q .non H'
def spLot (K : PySem.W.Frag) (C R W HC L : Addr) : Sp := fun vs H Q _ => ∃ (x t : Addr) (ls : List Nat) (f : Nat → List Nat) (S : List Sd), vs = [.ref x, .ref t] ∧ LotArg K C R W HC H x t ls f S ∧ Apart5 C R W HC L ∧
  ∀ l o H', H l = none → Same H H' → OwnR f ls S o → LotAt L HC W R H' l x o → Q (.ref l) H'
theorem conv_lot (K : PySem.W.Frag) (C R W HC L : Addr) : Conv L (spLot0 K C R W HC L) (spLot K C R W HC L) := by
  rintro vs H Q E ⟨x, t, ls, f, S, rfl, ha, ap, q⟩ a dx hx hdx hne
  have s0 : Same H (upd (upd H dx (.own a)) a (.ins L dx [])) := fun b o hb => by
    rw [upd_ne (ne_of_none hb hx), upd_ne (ne_of_none hb hdx)]
    exact hb
  refine ⟨a, dx, x, t, ls, f, S, rfl, upd_same, ha.keep s0, ap, fun o H' s' ow z => ⟨rfl, q a o H' hx (fun b o hb => ?_) ow z⟩⟩
  exact s' b o (s0 _ _ hb) (ne_of_none hb hx)
section
variable {P : Program} {w : World} {K : PySem.W.Frag} {mg : Str → Option Value} {base : Heap} {C R O W HC L : Addr}
abbrev stLot_init : Stmt := (inClass (top 75) 0)
abbrev NLot_init : List Str := ["self", "plan", "halves", "half", "side"]
theorem scLot_init : FnScope NLot_init ["self", "plan", "halves"] (defScope stLot_init) := ⟨rfl, rfl, rfl, by decide +kernel, rfl, by decide +kernel, by decide +kernel⟩

theorem ok_Lot {dvs : List V} (F : MAtD K L "__init__" "Lot.__init__" stLot_init dvs) (hd : dvs.length = 1) (T : TxtLot K mg C R O W HC L) (D_need_same : Def P w K mg base CX0 3 "need_same" ["plan", "other"] (calmOf (spNeedSame C O))) (D_least_sides : Def P w K mg base CX0 9 "least_sides" ["plan", "sides"] (spLeast C)) (D_half_of : Def P w K mg base CX0 7 "half_of" ["plan", "side"] (spHalfSd C R W HC)) :
    CMk P w K mg base CX0 10 "Lot" L (spLot K C R W HC L) ["self", "plan", "halves"] "Lot.__init__" stLot_init dvs := by
  refine F.make (sp0 := spLot0 K C R W HC L) T.Lot scLot_init (by intro z; rw [z] at hd; cases hd) (fun T kV doc pm an cdv ct us its l1 l2 => ?_) (fun vs H Q E h => ?_) (conv_lot K C R W HC L) (fun f cdv A outer s H vs Q E hr h => ?_)
  · rw [hd] at l2 ⊢
    match us, l1, its, l2 with
    | [_, _, _], _, [_], _ => exact ⟨_, rfl, rfl⟩
  · obtain ⟨l, dx, x, t, ls, f, S, rfl, _⟩ := h
    rfl
  obtain ⟨l, dx, x, t, ls, fn, S, rfl, hl, ha, ap, q⟩ := h
  have hu := hu_of hr
  have nd := scLot_init.nd
  replace D_need_same := D_need_same.mono (show 3 ≤ 9 by decide)
  replace D_half_of := D_half_of.mono (show 7 ≤ 9 by decide)
  refine ⟨_, (pss_cons (ps_for PassesOwn.never rfl (pi_or (pi_listK (K := K) rfl (pv 2)) (pi_tupK (K := K) rfl (pv 2))) (pg_name (i := 3) nd rfl (Or.inl rfl))
      (pss_one (ps_expr (pe_cd D_need_same hr pass0 (pa_cons (pv 1) (pa_cons (pe_flK (K := K) rfl (pv 3) rfl) pa_nil))))))
      (pss_cons (ps_flK (K := K) rfl (pv 0) (pv 1) rfl)
      (pss_cons (ps_flK (K := K) rfl (pv 0) (pe_cd D_least_sides hr pass0 (pa_cons (pv 1) (pa_cons (pe_lc (own := [("half", 3)]) (g := gName 3) (by rfl) nd (pi_or (pi_listK (K := K) rfl (pv 2)) (pi_tupK (K := K) rfl (pv 2))) (blkOk_by (own := [("half", 3)]) (N := NLot_init) (sc := defScope stLot_init) (by decide +kernel)) (fun _ _ _ _ _ => (pg_name (i := 3) nd rfl (Or.inl rfl))) (fun _ _ _ _ _ => pts_nil) (fun _ _ _ _ _ => (pe_flK (K := K) rfl (pv 3) rfl))) pa_nil))) rfl)
      (pss_one (ps_flK (K := K) rfl (pv 0) (pe_callTy (c_tupleK (K := K) rfl) (by rfl) T.tuple (by decide +kernel) (pa_cons (pe_lc (own := [("side", 4)]) (g := gName 4) (by rfl) nd (pi_tupK (K := K) rfl (pe_orTK (K := K) rfl (pe_flK (K := K) rfl (pv 0) rfl) (pe_one (pe_tup pa_nil)))) (blkOk_by (own := [("side", 4)]) (N := NLot_init) (sc := defScope stLot_init) (by decide +kernel)) (fun _ _ _ _ _ => (pg_name (i := 4) nd rfl (Or.inl rfl))) (fun _ _ _ _ _ => pts_nil) (fun _ _ _ _ _ => (pe_cd D_half_of hr pass0 (pa_cons (pv 1) (pa_cons (pv 4) pa_nil))))) pa_nil)) rfl))))), ?_⟩
  refine s_start [some _, some _, some _, none, none] rfl ?_
  have pl := ha.pl
  have fE := ha.fE
  obtain ⟨Es, e1, e2, e3⟩ := ha.ex
  have lS := ha.few
  have lE : Es.length = S.length := by rw [← e1, List.length_map]
  have psk : PsOk (tabPairs ls fn) := pairsOf_small (ls.flatMap fun a => (fn a).map fun b => ascOf [a, b])
  walk_at "go"
  refine e_forSeqA (xs := refV Es) e2 (Same.refl _) (fun R r => ?_) (fun i σ H' => ∃ z, σ = [some (.ref l), some (.ref x), some (.ref t), z, none] ∧ H' = H) ⟨_, rfl, rfl⟩ (fun i σ' H' ⟨_, _, e⟩ => e ▸ Same.refl _) ?_ ?_
  · walk_at "go"
    exact r
  · rintro i v σ H1 hv ⟨z, rfl, rfl⟩
    rw [List.getElem?_map] at hv
    obtain ⟨e, he, rfl⟩ := Option.map_eq_some_iff.mp hv
    obtain ⟨y, ⟨wa, r, zz⟩, py⟩ := e3 e (List.mem_of_getElem? he)
    obtain ⟨dh, th, f1, f2⟩ := zz.ex
    walk_at "go"
    refine v_fld f1 T.Half.cl T.nHp halfF_p ?_
    walk_at "go"
    refine ⟨x, y, true, rfl, ⟨_, _, _, _, pl, py, psk, psk, (decide_eq_true ⟨rfl, rfl⟩).symm⟩, fun _ => ?_, fun z => nomatch z⟩
    exact ⟨_, rfl, rfl⟩
  rintro σ H1 ⟨z, rfl, rfl⟩
  walk_at "go"
  refine v_sfld hl T.Lot.cl T.nLp (by decide) fun H2 k2 f2 => ?_
  have e2' : SeqO K H2 t (refV Es) := e2.keepI k2 hl
  have e3' : ∀ e ∈ Es, HvEq C HC W R ls fn H2 e.2 e.1 := fun e he => by
    obtain ⟨y, ⟨wa, r, zz⟩, py⟩ := e3 e he
    obtain ⟨dh, th, g1, g2⟩ := zz.ex
    obtain ⟨dw, ew⟩ := zz.wall.ex
    obtain ⟨dr, er⟩ := zz.wall.ro.ex
    obtain ⟨dp, tp, dq, a1, a2, a3⟩ := py.ex
    have nn : ∀ {b : Addr} {c' d' : Addr} {fs : List (Str × V)}, H1 b = some (.ins c' d' fs) → L ≠ c' → b ≠ l := fun hb hc => ne_of hb hl (by intro z; injection z with z _ _; exact hc z.symm)
    have ni : ∀ {b : Addr} {o : HO}, H1 b = some o → (∀ c' d' fs, o ≠ .ins c' d' fs) → b ≠ l := fun hb hc => ne_of hb hl (hc _ _ _)
    exact ⟨y, ⟨wa, r, ⟨⟨dh, th, k2 _ _ g1 (nn g1 ap.lh), k2 _ _ g2 (ni g2 fun _ _ _ z => nomatch z)⟩, ⟨⟨dw, k2 _ _ ew (nn ew ap.lw)⟩, ⟨dr, k2 _ _ er (nn er ap.lr)⟩⟩⟩⟩, ⟨dp, tp, dq, k2 _ _ a1 (nn a1 ap.lc), k2 _ _ a2 (ni a2 fun _ _ _ z => nomatch z), k2 _ _ a3 (ni a3 fun _ _ _ z => nomatch z)⟩⟩
  have pl2 : PlanAt C H2 x (ascOf ls) (tabPairs ls fn) := by
    obtain ⟨dp, tp, dq, a1, a2, a3⟩ := pl.ex
    have ni : ∀ {b : Addr} {o : HO}, H1 b = some o → (∀ c' d' fs, o ≠ .ins c' d' fs) → b ≠ l := fun hb hc => ne_of hb hl (hc _ _ _)
    exact ⟨dp, tp, dq, k2 _ _ a1 (ne_of a1 hl (by intro z; injection z with z _ _; exact ap.lc z.symm)), k2 _ _ a2 (ni a2 fun _ _ _ z => nomatch z), k2 _ _ a3 (ni a3 fun _ _ _ z => nomatch z)⟩
  walk_at "go"
  refine i_refs (E := Es) (R' := fun H v d => ∃ p, v = .ref p ∧ TupSd H p d) e2' (Same.refl _) (by omega) (fun R r => ?_) (fun v d H3 H4 ⟨p, e, h⟩ s => ⟨p, e, s _ _ h⟩) (fun v d H3 H4 D l' ⟨p, e, h⟩ e0 kp => ⟨p, e, kp _ _ h (ne_of h e0 (by intro z; cases z))⟩) (fun e he H3 s3 R r => ?_) (fun e he H3 s3 R r => ?_) (fun D H3 vs hD s3 eD l3 r3 => ?_)
  · walk_at "go"
    exact r
  · walk_at "go"
    exact r H3 (Same.refl _)
  · obtain ⟨y, ⟨wa, r', zz⟩, py⟩ := e3' e he
    obtain ⟨dh, th, g1, g2⟩ := zz.ex
    walk_at "go"
    refine v_fld (s3 _ _ g1) T.Half.cl T.nHo halfF_o ?_
    exact r _ H3 (Same.refl _) ⟨th, rfl, s3 _ _ g2⟩
  obtain ⟨G, g1, rfl, g3⟩ := refs_of (R := TupSd) (H := H3) (D := S) (by rw [← lE]; exact l3) fun k v d h1 h2 => by
    have hk : k < Es.length := by
      have := (List.getElem?_eq_some_iff.mp h1).1
      omega
    have hE : Es[k]? = some Es[k] := List.getElem?_eq_getElem hk
    have hd2 := refs_get hE
    rw [e1, h2] at hd2
    injection hd2 with hd2
    rw [hd2]
    exact r3 k v _ h1 hE
  walk_at "go"
  refine ⟨x, D, ls, fn, S, rfl, pl2.same s3, fE, ⟨G, g1, eD, g3⟩, ha.ok, lS, fun v o H4 s4 ow la => ?_⟩
  have f4 := s4 _ _ (s3 _ _ f2)
  walk_at "go"
  refine v_sfld f4 T.Lot.cl T.nLo (by show 1 < 1000; decide) fun H5 k5 f5 => ?_
  have la5 := la.keepI k5 f4
  walk_at "go"
  refine e_orT ?_
  walk_at "go"
  refine v_fld f5 T.Lot.cl T.nLo (by rw [lookup_putF, if_pos rfl]) ?_
  refine v_sidesOr la5 (fun R r => ?_) fun p G2 H6 s6 ep m2 t2 => ?_
  · walk_at "go"
    intro p H6 hp s6 e6
    exact r p H6 s6 e6
  have sub : ∀ d ∈ o.getD [], d ∈ S := by
    cases o with
    | none => exact fun _ z => nomatch z
    | some D => exact ow.sub
  have l2 : G2.length ≤ 1000 := by
    have e := congrArg List.length m2
    rw [List.length_map] at e
    cases o with
    | none =>
      have : G2.length = 0 := e
      omega
    | some D' =>
      by_cases pw : Pw fn ls S
      · obtain ⟨R0, r1, r2⟩ := ow.1 pw
        injection r2 with r2
        have h1 : (minR fn ls R0).length ≤ R0.length := List.length_filter_le _ _
        have h2 : R0.length ≤ S.length := List.Nodup.length_le_of_subset r1.nd fun d hd => (r1.mem d).mp hd
        have e : G2.length = D'.length := e
        rw [r2] at e
        omega
      · cases ow.2 pw
  have s35 : Same H3 H4 := s4
  have pl6 : PlanAt C H6 x (ascOf ls) (tabPairs ls fn) := by
    obtain ⟨dp, tp, dq, a1, a2, a3⟩ := (pl2.same (s3.trans s4)).ex
    have ni : ∀ {b : Addr} {o : HO}, H4 b = some o → (∀ c' d' fs, o ≠ .ins c' d' fs) → b ≠ l := fun hb hc => ne_of hb f4 (hc _ _ _)
    exact ⟨dp, tp, dq, s6 _ _ (k5 _ _ a1 (ne_of a1 f4 (by intro z; injection z with z _ _; exact ap.lc z.symm))), s6 _ _ (k5 _ _ a2 (ni a2 fun _ _ _ z => nomatch z)), s6 _ _ (k5 _ _ a3 (ni a3 fun _ _ _ z => nomatch z))⟩
  refine ⟨p, rfl, ⟨_, SqT.of ep⟩, ?_⟩
  refine lc_refsT (K := K) (E := G2) (R' := fun H v d => ∃ h, v = .ref h ∧ HvAt HC W R x H h d) ep (by omega) (fun v d H7 H8 ⟨h, e, z⟩ s => ⟨h, e, z.keep s⟩) (fun v d H7 H8 D l' ⟨h, e, ⟨wa, r, z⟩⟩ e0 kp => ⟨h, e, wa, r, ?_⟩) (fun e he H7 s7 R r => ?_) (fun e he H7 s7 R r => ?_) (fun D2 H7 vs hD2 s7 eD2 l7 r7 => ?_)
  · obtain ⟨dh, th, g1, g2⟩ := z.ex
    obtain ⟨dw, ew⟩ := z.wall.ex
    obtain ⟨dr, er⟩ := z.wall.ro.ex
    exact ⟨⟨dh, th, kp _ _ g1 (ne_of g1 e0 (by intro z; cases z)), kp _ _ g2 (ne_of g2 e0 (by intro z; cases z))⟩, ⟨⟨dw, kp _ _ ew (ne_of ew e0 (by intro z; cases z))⟩, ⟨dr, kp _ _ er (ne_of er e0 (by intro z; cases z))⟩⟩⟩
  · walk_at "go"
    exact r H7 (Same.refl _)
  · have dS : e.1 ∈ S := sub _ (by rw [← m2]; exact List.mem_map.mpr ⟨e, he, rfl⟩)
    obtain ⟨od, ld⟩ := ha.ok _ dS
    walk_at "go"
    refine ⟨x, e.2, ls, fn, e.1, rfl, pl6.same s7, fE, s7 _ _ (t2 e he), od, by omega, ap.hw, ap.hr, fun h wa r1 H8 hh s8 z => ?_⟩
    exact r _ H8 s8 ⟨h, rfl, wa, _, z⟩
  obtain ⟨G3, g4, rfl, g6⟩ := refs_of (R := HvAt HC W R x) (H := H7) (D := o.getD []) (by rw [l7, ← m2, List.length_map]) fun k v d h1 h2 => by
    have hk : k < G2.length := by
      have := (List.getElem?_eq_some_iff.mp h1).1
      omega
    have hE : G2[k]? = some G2[k] := List.getElem?_eq_getElem hk
    have hd2 := refs_get hE
    rw [m2, h2] at hd2
    injection hd2 with hd2
    rw [hd2]
    exact r7 k v _ h1 hE
  walk_at "go"
  refine v_tuple eD2 fun qh H8 hqh s8 eqh => ?_
  walk_at "go"
  have f8 := s8 _ _ (s7 _ _ (s6 _ _ f5))
  refine v_sfld f8 T.Lot.cl T.nLh (by show 2 < 1000; decide) fun H9 k9 f9 => ?_
  refine q o H9 (fun b ob hb nb => k9 _ _ (s8 _ _ (s7 _ _ (s6 _ _ (k5 _ _ (s4 _ _ (s3 _ _ (k2 _ _ hb nb))) nb)))) nb) ow ⟨dx, v, qh, f9, ?_, ?_⟩
  · exact (((la5.keep s6).keep s7).keep s8).keepI k9 f8
  · refine ⟨G3, g4, k9 _ _ eqh (ne_of eqh f8 (by intro z; cases z)), fun e he => ?_⟩
    obtain ⟨wa, r, z⟩ := g6 e he
    have z := z.same s8
    obtain ⟨dh, th, g1, g2⟩ := z.ex
    obtain ⟨dw, ew⟩ := z.wall.ex
    obtain ⟨dr, er⟩ := z.wall.ro.ex
    have nn : ∀ {b : Addr} {c' d' : Addr} {fs : List (Str × V)}, H8 b = some (.ins c' d' fs) → L ≠ c' → b ≠ l := fun hb hc => ne_of hb f8 (by intro z; injection z with z _ _; exact hc z.symm)
    exact ⟨wa, r, ⟨⟨dh, th, k9 _ _ g1 (nn g1 ap.lh), k9 _ _ g2 (ne_of g2 f8 (by intro z; cases z))⟩, ⟨⟨dw, k9 _ _ ew (nn ew ap.lw)⟩, ⟨dr, k9 _ _ er (nn er ap.lr)⟩⟩⟩⟩
end
end
section
open PySem PySem.Spec L2
/-! ### sides as data -/
def sdD (d : Sd) : PyData := .tuple [.str (tx d.m), .str (tx [d.k]), .bool d.b]
def SdSmall (d : Sd) : Prop := (∀ c ∈ d.m, c < 1000) ∧ d.k < 1000
theorem sdD_eqv {d e : Sd} : PyData.eqv (sdD d) (sdD e) = decide (d = e) := by
  unfold sdD
  simp only [PyData.eqv, PyData.eqvAll, Bool.and_true]
  rw [Bool.eq_iff_iff, decide_eq_true_iff, sd_eq]
  simp [tx_inj]
theorem sdsD_eqv : ∀ D D' : List Sd, PyData.eqvAll (D.map sdD) (D'.map sdD) = decide (D = D')
  | [], [] => by simp [PyData.eqvAll]
  | [], _ :: _ => by simp [PyData.eqvAll]
  | _ :: _, [] => by simp [PyData.eqvAll]
  | d :: D, e :: D' => by
    rw [List.map_cons, List.map_cons]
    simp only [PyData.eqvAll, sdsD_eqv D D', sdD_eqv]
    rw [Bool.eq_iff_iff]
    simp
theorem sdD_lay {d : Sd} (h : SdSmall d) : (sdD d).canLay0 = true := by
  have o2 := ok_tx (l := [d.k]) (fun c hc => by rw [List.mem_singleton.mp hc]; exact h.2)
  simp [sdD, PyData.canLay0, PyData.canLayAll0, ok_tx h.1, o2]
theorem sdsD_lay : ∀ {D : List Sd}, (∀ d ∈ D, SdSmall d) → PyData.canLayAll0 (D.map sdD) = true
  | [], _ => rfl
  | d :: D, h => by
    rw [List.map_cons]
    simp only [PyData.canLayAll0, sdD_lay (h d (List.mem_cons_self ..)), sdsD_lay fun e he => h e (List.mem_cons_of_mem _ he), Bool.and_true]
theorem sdsD_dep : ∀ D : List Sd, PyData.depthAll (D.map sdD) ≤ 4
  | [] => by show PyData.depthAll [] ≤ 4; decide
  | d :: D => Nat.max_le.mpr ⟨by show PyData.depth (sdD d) ≤ 4; simp [sdD, PyData.depth, PyData.depthAll], sdsD_dep D⟩
def ownD : Option (List Sd) → PyData
  | none => .none
  | some D => .tuple (D.map sdD)
theorem ownD_eqv (o o' : Option (List Sd)) : PyData.eqv (ownD o) (ownD o') = decide (o = o') := by
  cases o with
  | none => cases o' <;> simp [ownD, PyData.eqv]
  | some D =>
    cases o' with
    | none => simp [ownD, PyData.eqv]
    | some D' => simp [ownD, PyData.eqv, sdsD_eqv]
theorem ownD_shaped {o : Option (List Sd)} (h : ∀ d ∈ o.getD [], SdSmall d) : SeqAt.shaped (ownD o) = true := by
  cases o with
  | none => simp [SeqAt.shaped, ownD, PyData.canLay0, PyData.depth]
  | some D =>
    have h1 := sdsD_dep D
    have h2 : (PyData.tuple (D.map sdD)).depth ≤ 64 := by simp only [PyData.depth]; omega
    have h3 : (PyData.tuple (D.map sdD)).canLay0 = true := by simp only [PyData.canLay0]; exact sdsD_lay h
    simp [SeqAt.shaped, ownD, h2, h3]
section
variable {K : PySem.W.Frag} {H : Hp} {Q : VK}
theorem dp_sides : ∀ {E : List (Sd × Addr)}, (∀ e ∈ E, TupSd H e.2 e.1) → DpAll K H (refV E) ((E.map (·.1)).map sdD)
  | [], _ => .nil
  | e :: E, h => .cons (.tup (SqT.of (h e (List.mem_cons_self ..))) (.cons (.str _) (.cons (.str _) (.cons (.bl _) .nil)))) (dp_sides fun c hc => h c (List.mem_cons_of_mem _ hc))
theorem LeastAt.dp {v : V} {o : Option (List Sd)} (h : LeastAt H v o) : Dp K H v (ownD o) := by
  cases o with
  | none =>
    obtain rfl : v = .non := h
    exact .non
  | some D =>
    obtain ⟨t, rfl, ⟨E, e1, e2, e3⟩⟩ := h
    subst e1
    exact .tup (SqT.of e2) (dp_sides e3)
theorem v_eqOwn {v v' : V} {o o' : Option (List Sd)} (h : LeastAt H v o) (h' : LeastAt H v' o') (s : ∀ d ∈ o.getD [], SdSmall d) (s' : ∀ d ∈ o'.getD [], SdSmall d) (q : Q (.bl (decide (o = o'))) H) : rEqD K v v' H Q :=
  ⟨_, _, h.dp, h'.dp, ownD_shaped s, ownD_shaped s', by rw [ownD_eqv]; exact q⟩
end
theorem LeastAt.isNon {H : Hp} {v : V} {o : Option (List Sd)} (h : LeastAt H v o) : decide (v = .non) = o.isNone := by
  cases o with
  | none =>
    obtain rfl : v = .non := h
    rfl
  | some D =>
    obtain ⟨t, rfl, _⟩ := h
    rfl
/-- whether a room is in a lot -/
noncomputable def lotB (f : Nat → List Nat) (ls w : List Nat) : Option (List Sd) → Bool
  | none => false
  | some D => allB f ls w D
def spLotBool (L HC W R : Addr) : Sp := fun vs H Q _ => ∃ (l x : Addr) (o : Option (List Sd)), vs = [.ref l] ∧ LotAt L HC W R H l x o ∧ Q (.bl o.isSome) H
def spLotIn (C R W HC L : Addr) : Sp := fun vs H Q _ => ∃ (l x r y : Addr) (ls : List Nat) (f : Nat → List Nat) (o : Option (List Sd)) (n : List Nat) (e : Bool), vs = [.ref l, .ref r] ∧ LotAt L HC W R H l x o ∧ PlanAt C H x (ascOf ls) (tabPairs ls f) ∧ FlE ls f ∧ RoomAt R H r y n ∧ Plans2 C H y x e ∧
  (∀ d ∈ o.getD [], SdOk f ls d ∧ d.m.length ≤ 100) ∧ (o.getD []).length ≤ 12 ∧ (e = true → NF f n ∧ (∀ c ∈ n, c ∈ ls) ∧ n.length ≤ 2000) ∧ ∀ H', Same H H' → Q (.bl (e && lotB f ls n o)) H'
def spLotInN (K : PySem.W.Frag) (R L HC W : Addr) : Sp := fun vs H Q _ => ∃ (l x : Addr) (o : Option (List Sd)) (v : V), vs = [.ref l, v] ∧ LotAt L HC W R H l x o ∧ (∃ t, TyX K H v t ∧ PySem.W.kitOne K t (.ref R) = some false) ∧ Q (.bl false) H
def spLotEq (C R W HC L : Addr) : Sp := fun vs H Q _ => ∃ (l x l' x' : Addr) (o o' : Option (List Sd)) (e : Bool), vs = [.ref l, .ref l'] ∧ LotAt L HC W R H l x o ∧ LotAt L HC W R H l' x' o' ∧ Plans2 C H x x' e ∧ (∀ d ∈ o.getD [], SdSmall d) ∧ (∀ d ∈ o'.getD [], SdSmall d) ∧ Q (.bl (e && decide (o = o'))) H
def spLotEqN (K : PySem.W.Frag) (L : Addr) : Sp := fun vs H Q _ => ∃ (l : Addr) (v : V), vs = [.ref l, v] ∧ (∃ t, TyX K H v t ∧ PySem.W.kitOne K t (.ref L) = some false) ∧ Q (.bl false) H
section
variable {P : Program} {w : World} {K : PySem.W.Frag} {mg : Str → Option Value} {base : Heap} {C R O W HC L : Addr}
abbrev stLot_bool : Stmt := (inClass (top 75) 2)
abbrev NLot_bool : List Str := ["self"]
theorem scLot_bool : FnScope NLot_bool ["self"] (defScope stLot_bool) := ⟨rfl, rfl, rfl, by decide +kernel, rfl, by decide +kernel, by decide +kernel⟩

theorem ok_Lot_bool (F : MAt K L "__bool__" "Lot.__bool__" stLot_bool) (T : TxtLot K mg C R O W HC L) : MDef P w K mg base CX0 1 L "__bool__" ["self"] (spLotBool L HC W R) := by
  refine F.ok scLot_bool (fun _ _ _ _ _ _ us hl => match us, hl with | [_], _ => rfl) (fun vs H Q E h => ?_) (fun f cdv A outer s H vs Q E hr h => ?_)
  · obtain ⟨l, x, o, rfl, _⟩ := h
    rfl
  obtain ⟨l, x, o, rfl, hl, q⟩ := h
  have hu := hu_of hr
  have nd := scLot_bool.nd
  refine ⟨_, (pss_one (ps_ret (pe_cmpR op_notN1 (pe_flK (K := K) rfl (pv 0) rfl) pe_non (nomark _)))), ?_⟩
  refine s_start [some _] rfl ?_
  obtain ⟨dx, v, q', e1, e2, e3⟩ := hl.ex
  walk_at "go"
  refine v_fld e1 T.Lot.cl T.nLo lotF_o ?_
  walk_at "go"
  refine v_notN0 ?_
  rw [e2.isNon]
  cases o <;> exact q
abbrev stLot_contains : Stmt := (inClass (top 75) 3)
abbrev NLot_contains : List Str := ["self", "value", "side"]
theorem scLot_contains : FnScope NLot_contains ["self", "value"] (defScope stLot_contains) := ⟨rfl, rfl, rfl, by decide +kernel, rfl, by decide +kernel, by decide +kernel⟩

theorem ok_Lot_in (F : MAt K L "__contains__" "Lot.__contains__" stLot_contains) (T : TxtLot K mg C R O W HC L) (N_Plan_eq : MDef P w K mg base CX0 1 C "__eq__" ["self", "other"] (spPlanEq C)) (D_is_on : Def P w K mg base CX0 5 "is_on" ["plan", "side", "name"] (spOn C)) : MDef P w K mg base CX0 6 L "__contains__" ["self", "value"] (spLotIn C R W HC L) := by
  refine F.ok scLot_contains (fun _ _ _ _ _ _ us hl => match us, hl with | [_, _], _ => rfl) (fun vs H Q E h => ?_) (fun f cdv A outer s H vs Q E hr h => ?_)
  · obtain ⟨l, x, r, y, ls, fn, o, n, e, rfl, _⟩ := h
    rfl
  obtain ⟨l, x, r, y, ls, fn, o, n, e, rfl, hl, pl, fE, ro, ⟨ks, ks', ps, ps', pa, pb, oa, ob, he⟩, okD, lD, hn, q⟩ := h
  have hu := hu_of hr
  have nd := scLot_contains.nd
  replace N_Plan_eq := N_Plan_eq.mono (show 1 ≤ 4 by decide)
  refine ⟨_, (pss_cutS (ps_if (PW.pt (pw_or (pt_cmpR op_isN1 (pe_flK (K := K) rfl (pv 0) rfl) pe_non (nomark _)) (pw_or (pt_not (pt_val (pe_callB (c_isiK (K := K) rfl) (by rfl) T.isinstance (by decide +kernel) (pa_cons (pv 1) (pa_cons (pe_globC T.Room.at) pa_nil))))) (pw_or1 (pt_cmpR (op_neM N_Plan_eq T.Plan.ne T.Plan.ob hr pass0) (pe_flK (K := K) rfl (pv 1) rfl) (pe_flK (K := K) rfl (pv 0) rfl) (nomark _))))))
      (pss_one (ps_ret pe_bl))
      pss_nil)
      (pss_one (ps_ret (pe_callB (c_allK (K := K) rfl rfl) (by rfl) T.all (by decide +kernel) (pa_cons (pe_lc (own := [("side", 2)]) (g := gName 2) (by rfl) nd (pi_tupK (K := K) rfl (pe_flK (K := K) rfl (pv 0) rfl)) (blkOk_by (own := [("side", 2)]) (N := NLot_contains) (sc := defScope stLot_contains) (by decide +kernel)) (fun _ _ _ _ _ => (pg_name (i := 2) nd rfl (Or.inl rfl))) (fun _ _ _ _ _ => pts_nil) (fun _ _ _ _ _ => (pe_cd D_is_on hr pass0 (pa_cons (pe_flK (K := K) rfl (pv 0) rfl) (pa_cons (pv 2) (pa_cons (pe_flK (K := K) rfl (pv 1) rfl) pa_nil)))))) pa_nil))))), ?_⟩
  refine s_start [some _, some _, none] rfl ?_
  obtain ⟨dx, v, q', e1, e2, e3⟩ := hl.ex
  obtain ⟨dr, er⟩ := ro.ex
  obtain ⟨dpa, ta, da, ga, _⟩ := pa.ex
  obtain ⟨dpb, tb, db, gb, _⟩ := pb.ex
  walk_at "go"
  refine s_cut (fun σ' H' => σ' = [some (.ref l), some (.ref r), none] ∧ H' = H ∧ e = true ∧ ∃ D, o = some D) ?_ ?_
  · walk_at "go"
    refine v_fld e1 T.Lot.cl T.nLo lotF_o ?_
    walk_at "go"
    refine v_isN0 ?_
    rw [e2.isNon]
    refine ⟨_, rfl, ?_⟩
    cases o with
    | none =>
      walk_at "go"
      have q := q H (Same.refl _)
      rw [show (e && lotB fn ls n none) = false from by cases e <;> rfl] at q
      exact q
    | some D =>
      rw [show (some D).isNone = false from rfl]
      walk_at "go"
      refine v_isiC T.Room er ?_
      refine ⟨_, rfl, ?_⟩
      walk_at "go"
      refine v_fld er T.Room.cl T.nPl roomF_p ?_
      walk_at "go"
      refine v_fld e1 T.Lot.cl T.nLp lotF_p ?_
      refine v_M2n ga gb ⟨y, x, _, _, _, _, rfl, pa, pb, oa, ob, _, rfl, ?_⟩
      rw [← he]
      cases e with
      | true =>
        walk_at "go"
        exact ⟨rfl, rfl, rfl, D, rfl⟩
      | false =>
        walk_at "go"
        exact q H (Same.refl _)
  rintro σ' H' ⟨rfl, rfl, rfl, D, rfl⟩
  obtain ⟨nn, mn, ln⟩ := hn rfl
  obtain ⟨t, rfl, ⟨Es, g1, g2, g3⟩⟩ := e2
  have g1 : Es.map (·.1) = D := g1
  have lE : Es.length = D.length := by rw [← g1, List.length_map]
  have lD : D.length ≤ 12 := lD
  walk_at "go"
  refine v_fld e1 T.Lot.cl T.nLo lotF_o ?_
  refine ⟨t, rfl, ⟨_, SqT.of g2⟩, ?_⟩
  refine lc_refsT (K := K) (E := Es) (R' := fun _ v d => v = .bl (onB fn ls n d)) g2 (by omega) (fun _ _ _ _ h _ => h) (fun _ _ _ _ _ _ h _ _ => h) (fun c hc H3 s3 R r => ?_) (fun c hc H3 s3 R r => ?_) (fun D3 H3 vs hD s3 eD l3 r3 => ?_)
  · walk_at "go"
    exact r H3 (Same.refl _)
  · have em : c.1 ∈ D := by rw [← g1]; exact List.mem_map.mpr ⟨c, hc, rfl⟩
    obtain ⟨od, ld⟩ := okD c.1 em
    have fl := fE.fl od.pos
    have asl := asc_self fl
    have tl := fE.tab.len
    walk_at "go"
    refine v_fld (s3 _ _ e1) T.Lot.cl T.nLp lotF_p ?_
    walk_at "go"
    refine v_fld (s3 _ _ er) T.Room.cl T.nNm roomF_n ?_
    walk_at "go"
    refine ⟨x, c.2, _, _, c.1.m, n, c.1.k, c.1.b, rfl, pl.same s3, s3 _ _ (g3 c hc), inAsc fl.tab od.mem, inAsc fl.tab mn, by rw [asl]; omega, by omega, by omega, fun H4 s4 => ?_⟩
    obtain ⟨ew, eb⟩ := on_bz fl (od.nf fE.tab.nd fE.ok) nn od.mem mn od.hk
    refine r _ H4 s4 ?_
    by_cases on : On fn ls c.1 n
    · rw [beq_yes eb on, onB_iff.mpr on]
    · rw [beq_no eb on]
      cases z : onB fn ls n c.1 with
      | true => exact absurd (onB_iff.mp z) on
      | false => rfl
  have evs : vs = (D.map (onB fn ls n)).map V.bl := by
    rw [← g1]
    exact vs_bl l3 r3
  walk_at "go"
  refine v_all (bs := D.map (onB fn ls n)) (by rw [eD, evs]) ?_
  rw [all_onB]
  exact q H3 s3
abbrev stLot_contains2 : Stmt := (inClass (top 75) 3)
abbrev NLot_contains2 : List Str := ["self", "value", "side"]
theorem scLot_contains2 : FnScope NLot_contains2 ["self", "value"] (defScope stLot_contains2) := ⟨rfl, rfl, rfl, by decide +kernel, rfl, by decide +kernel, by decide +kernel⟩

theorem ok_Lot_inN (F : MAt K L "__contains__" "Lot.__contains__" stLot_contains2) (T : TxtLot K mg C R O W HC L) (N_Plan_eq : MDef P w K mg base CX0 1 C "__eq__" ["self", "other"] (spPlanEq C)) (D_is_on : Def P w K mg base CX0 5 "is_on" ["plan", "side", "name"] (spOn C)) : MDef P w K mg base CX0 6 L "__contains__" ["self", "value"] (spLotInN K R L HC W) := by
  refine F.ok scLot_contains2 (fun _ _ _ _ _ _ us hl => match us, hl with | [_, _], _ => rfl) (fun vs H Q E h => ?_) (fun f cdv A outer s H vs Q E hr h => ?_)
  · obtain ⟨l, x, o, v, rfl, _⟩ := h
    rfl
  obtain ⟨l, x, o, u, rfl, hl, ⟨t, ty, kt⟩, q⟩ := h
  have hu := hu_of hr
  have nd := scLot_contains2.nd
  replace N_Plan_eq := N_Plan_eq.mono (show 1 ≤ 4 by decide)
  refine ⟨_, (pss_cutS (ps_if (PW.pt (pw_or (pt_cmpR op_isN1 (pe_flK (K := K) rfl (pv 0) rfl) pe_non (nomark _)) (pw_or (pt_not (pt_val (pe_callB (c_isiK (K := K) rfl) (by rfl) T.isinstance (by decide +kernel) (pa_cons (pv 1) (pa_cons (pe_globC T.Room.at) pa_nil))))) (pw_or1 (pt_cmpR (op_neM N_Plan_eq T.Plan.ne T.Plan.ob hr pass0) (pe_flK (K := K) rfl (pv 1) rfl) (pe_flK (K := K) rfl (pv 0) rfl) (nomark _))))))
      (pss_one (ps_ret pe_bl))
      pss_nil)
      (pss_one (ps_ret (pe_callB (c_allK (K := K) rfl rfl) (by rfl) T.all (by decide +kernel) (pa_cons (pe_lc (own := [("side", 2)]) (g := gName 2) (by rfl) nd (pi_tupK (K := K) rfl (pe_flK (K := K) rfl (pv 0) rfl)) (blkOk_by (own := [("side", 2)]) (N := NLot_contains2) (sc := defScope stLot_contains2) (by decide +kernel)) (fun _ _ _ _ _ => (pg_name (i := 2) nd rfl (Or.inl rfl))) (fun _ _ _ _ _ => pts_nil) (fun _ _ _ _ _ => (pe_cd D_is_on hr pass0 (pa_cons (pe_flK (K := K) rfl (pv 0) rfl) (pa_cons (pv 2) (pa_cons (pe_flK (K := K) rfl (pv 1) rfl) pa_nil)))))) pa_nil))))), ?_⟩
  refine s_start [some _, some _, none] rfl ?_
  obtain ⟨dx, v, q', e1, e2, e3⟩ := hl.ex
  walk_at "go"
  refine s_cut (fun _ _ => False) ?_ (fun _ _ z => z.elim)
  walk_at "go"
  refine v_fld e1 T.Lot.cl T.nLo lotF_o ?_
  walk_at "go"
  refine v_isN0 ?_
  rw [e2.isNon]
  refine ⟨_, rfl, ?_⟩
  cases o with
  | none =>
    walk_at "go"
    exact q
  | some D =>
    rw [show (some D).isNone = false from rfl]
    walk_at "go"
    refine ⟨u, .ref R, t, .ref R, false, rfl, .own R, ty, kt, ?_⟩
    refine ⟨_, rfl, ?_⟩
    walk_at "go"
    exact q
abbrev stLot_eq : Stmt := (inClass (top 75) 6)
abbrev NLot_eq : List Str := ["self", "other"]
theorem scLot_eq : FnScope NLot_eq ["self", "other"] (defScope stLot_eq) := ⟨rfl, rfl, rfl, by decide +kernel, rfl, by decide +kernel, by decide +kernel⟩

theorem ok_Lot_eq (F : MAt K L "__eq__" "Lot.__eq__" stLot_eq) (T : TxtLot K mg C R O W HC L) (M_Plan_eq : MDef P w K mg base CX0 1 C "__eq__" ["self", "other"] (spPlanEq C)) : MDef P w K mg base CX0 3 L "__eq__" ["self", "other"] (spLotEq C R W HC L) := by
  refine F.ok scLot_eq (fun _ _ _ _ _ _ us hl => match us, hl with | [_, _], _ => rfl) (fun vs H Q E h => ?_) (fun f cdv A outer s H vs Q E hr h => ?_)
  · obtain ⟨l, x, l', x', o, o', e, rfl, _⟩ := h
    rfl
  obtain ⟨l, x, l', x', o, o', e, rfl, hl, hl', ⟨ks, ks', ps, ps', pa, pb, oa, ob, he⟩, sm, sm', q⟩ := h
  have hu := hu_of hr
  have nd := scLot_eq.nd
  replace M_Plan_eq := M_Plan_eq.mono (show 1 ≤ 2 by decide)
  refine ⟨_, (pss_one (ps_ret (pe_and (pe_callB (c_isiK (K := K) rfl) (by rfl) T.isinstance (by decide +kernel) (pa_cons (pv 1) (pa_cons (pe_globC T.Lot.at) pa_nil))) (pe_and (pe_cmpR (op_cmpM (op := .Eq) (fun _ _ => rfl) M_Plan_eq hr pass0) (pe_flK (K := K) rfl (pv 0) rfl) (pe_flK (K := K) rfl (pv 1) rfl) (nomark _)) (pe_one (pe_cmpR (op_eqDK (K := K) rfl hr.units) (pe_flK (K := K) rfl (pv 0) rfl) (pe_flK (K := K) rfl (pv 1) rfl) (nomark _))))))), ?_⟩
  refine s_start [some _, some _] rfl ?_
  obtain ⟨dx, v, q', e1, e2, e3⟩ := hl.ex
  obtain ⟨dx', v', q2, f1, f2, f3⟩ := hl'.ex
  obtain ⟨dpa, ta, da, ga, _⟩ := pa.ex
  obtain ⟨dpb, tb, db, gb, _⟩ := pb.ex
  walk_at "go"
  refine v_isiC T.Lot f1 ?_
  walk_at "go"
  refine v_fld e1 T.Lot.cl T.nLp lotF_p ?_
  walk_at "go"
  refine v_fld f1 T.Lot.cl T.nLp lotF_p ?_
  refine v_M2 ga gb ⟨x, x', _, _, _, _, rfl, pa, pb, oa, ob, ?_⟩
  rw [← he]
  refine ⟨_, rfl, ?_⟩
  cases e with
  | true =>
    walk_at "go"
    refine v_fld e1 T.Lot.cl T.nLo lotF_o ?_
    walk_at "go"
    refine v_fld f1 T.Lot.cl T.nLo lotF_o ?_
    exact v_eqOwn e2 f2 sm sm' q
  | false =>
    walk_at "go"
    exact q
abbrev stLot_eq2 : Stmt := (inClass (top 75) 6)
abbrev NLot_eq2 : List Str := ["self", "other"]
theorem scLot_eq2 : FnScope NLot_eq2 ["self", "other"] (defScope stLot_eq2) := ⟨rfl, rfl, rfl, by decide +kernel, rfl, by decide +kernel, by decide +kernel⟩

theorem ok_Lot_eqN (F : MAt K L "__eq__" "Lot.__eq__" stLot_eq2) (T : TxtLot K mg C R O W HC L) (M_Plan_eq : MDef P w K mg base CX0 1 C "__eq__" ["self", "other"] (spPlanEq C)) : MDef P w K mg base CX0 3 L "__eq__" ["self", "other"] (spLotEqN K L) := by
  refine F.ok scLot_eq2 (fun _ _ _ _ _ _ us hl => match us, hl with | [_, _], _ => rfl) (fun vs H Q E h => ?_) (fun f cdv A outer s H vs Q E hr h => ?_)
  · obtain ⟨l, v, rfl, _⟩ := h
    rfl
  obtain ⟨l, v, rfl, ⟨t, ty, kt⟩, q⟩ := h
  have hu := hu_of hr
  have nd := scLot_eq2.nd
  replace M_Plan_eq := M_Plan_eq.mono (show 1 ≤ 2 by decide)
  refine ⟨_, (pss_one (ps_ret (pe_and (pe_callB (c_isiK (K := K) rfl) (by rfl) T.isinstance (by decide +kernel) (pa_cons (pv 1) (pa_cons (pe_globC T.Lot.at) pa_nil))) (pe_and (pe_cmpR (op_cmpM (op := .Eq) (fun _ _ => rfl) M_Plan_eq hr pass0) (pe_flK (K := K) rfl (pv 0) rfl) (pe_flK (K := K) rfl (pv 1) rfl) (nomark _)) (pe_one (pe_cmpR (op_eqDK (K := K) rfl hr.units) (pe_flK (K := K) rfl (pv 0) rfl) (pe_flK (K := K) rfl (pv 1) rfl) (nomark _))))))), ?_⟩
  refine s_start [some _, some _] rfl ?_
  walk_at "go"
  refine ⟨v, .ref L, t, .ref L, false, rfl, .own L, ty, kt, ?_⟩
  walk_at "go"
  exact q
end
end
section
open PySem PySem.Spec L2
theorem prs_tab {ls : List Nat} {fn : Nat → List Nat} (T : Tab ls fn) : pairsOf ((tabPairs ls fn).map ascOf) = tabPairs ls fn := by
  refine tabPairs_eq2 T (fun p hp => ?_) fun a ha b hb hab => .inl ?_
  · obtain ⟨a, b, rfl, _, ha, _, hm⟩ := tabPairs_lt T hp
    exact ⟨a, b, rfl, ha, hm⟩
  · obtain ⟨b1, b2, b3⟩ := T.sub a ha b hb
    refine pairsOf_mem.mpr ⟨a, b, rfl, T.lt a ha, T.lt b b1, List.mem_flatMap.mpr ⟨a, ha, List.mem_map.mpr ⟨b, hb, (asc2 (T.lt a ha) (T.lt b b1) hab).1⟩⟩⟩
section
variable {K : PySem.W.Frag} {H : Hp} {Q : VK} {C R W HC h1 h2 w1 w2 r1 r2 x1 x2 : Addr} {k : Nat} {m : List Nat} {b1 b2 : Bool} {ks : List Nat} {ps : List (List Nat)}
theorem v_hinv (z1 : HalfAt HC W R H h1 w1 r1 x1 k m b1) (n1 : HC ≠ W) (n2 : HC ≠ R) (q : ∀ h' H', Same H H' → HalfAt HC W R H' h' w1 r1 x1 k m (!b1) → Q (.ref h') H') : rMU HC (spInvert R W HC) E0 (.ref h1) H Q := by
  obtain ⟨dx, t, e1, _⟩ := z1.ex
  exact ⟨h1, dx, _, rfl, e1, h1, w1, r1, x1, k, m, b1, rfl, z1, n1, n2, fun h' H' _ s z => q h' H' s z⟩
end
def spDrawnH : Sp := fun vs H Q _ => ∃ (g : Pen) (n : Nat) (q : Addr) (ls : List Nat) (f : Nat → List Nat) (c : List Nat) (num : Nat), vs = [.ref g.p, .ref q, .str (tx c), .int num] ∧ PenAt g H n ∧ n < 800000 ∧ FloorAt H q ls f ∧ Fl ls f ∧ (∀ y ∈ c, y ∈ ls) ∧ c.length + num ≤ 100 ∧
  ∀ h a s b H', HalfD H' h ls f a s b → (∀ y ∈ a, y ∈ ls) → s ∈ ls → a.length ≤ c.length + num → PenAt g H' (n + num + 10) → Keep g.p H H' → Q (.ref h) H'
def spAsHalf (C R W HC : Addr) : Sp := fun vs H Q _ => ∃ (g : Pen) (n : Nat) (x hd : Addr) (ls : List Nat) (f : Nat → List Nat) (a : List Nat) (s : Nat) (b : Bool), vs = [.ref g.p, .ref x, .ref hd] ∧ PenAt g H n ∧ n < 800000 ∧ PlanAt C H x (ascOf ls) (tabPairs ls f) ∧ Fl ls f ∧ HalfD H hd ls f a s b ∧ (∀ y ∈ a, y ∈ ls) ∧ s ∈ ls ∧ a.length ≤ 400 ∧ HC ≠ W ∧ HC ≠ R ∧
  ∀ h H', HalfOn HC W R C H' h ls f a s b → PenAt g H' (n + 2) → Keep g.p H H' → Q (.ref h) H'
section
variable {P : Program} {w : World} {K : PySem.W.Frag} {mg : Str → Option Value} {base : Heap} {C R O W HC : Addr}
abbrev stdrawnH : Stmt := (top 96)
abbrev NdrawnH : List Str := ["_law_pen", "_law_floor", "_law_center", "_law_upto", "_law_way", "_law_kind"]
theorem scdrawnH : FnScope NdrawnH ["_law_pen", "_law_floor", "_law_center", "_law_upto"] (defScope stdrawnH) := ⟨rfl, rfl, rfl, by decide +kernel, rfl, by decide +kernel, by decide +kernel⟩

theorem ok_drawnH (F : FnAt K mg "_law_drawn_half" stdrawnH) (D_drawn_way : Def P w K mg base CX0 3 "_law_drawn_way" ["_law_pen", "_law_floor", "_law_upto"] spDWay) (D_draw : Def P w K mg base CX0 1 "_law_draw" ["_law_pen", "_law_span"] spDraw) (D_pick : Def P w K mg base CX0 2 "_law_pick" ["_law_pen", "_law_some"] spPick2) (D_half_of : Def P w K mg base CX0 3 "_law_half_of" ["_law_floor", "_law_way", "_law_kind", "_law_side"] spHalfOf) (D_root_of : Def P w K mg base CX0 2 "_law_root_of" ["_law_floor", "_law_way", "_law_kind"] spRootOf) (D_is_beyond : Def P w K mg base CX0 2 "_law_is_beyond" ["_law_floor", "_law_beam", "_law_way"] spIsBey) : Def P w K mg base CX0 4 "_law_drawn_half" ["_law_pen", "_law_floor", "_law_center", "_law_upto"] spDrawnH := by
  refine F.ok scdrawnH (fun _ _ _ _ _ _ us hl => match us, hl with | [_, _, _, _], _ => rfl) (fun vs H Q E h => ?_) (fun f cdv A outer s H vs Q E hr h => ?_)
  · obtain ⟨g, n, q, ls, f, c, num, rfl, _⟩ := h
    rfl
  obtain ⟨g, n, q, ls, fn, c, num, rfl, p0, hn, fl, fe, hc, lc, k⟩ := h
  have hu := hu_of hr
  have nd := scdrawnH.nd
  replace D_draw := D_draw.mono (show 1 ≤ 3 by decide)
  replace D_pick := D_pick.mono (show 2 ≤ 3 by decide)
  replace D_root_of := D_root_of.mono (show 2 ≤ 3 by decide)
  replace D_is_beyond := D_is_beyond.mono (show 2 ≤ 3 by decide)
  refine ⟨_, (pss_cons (ps_set (i := 4) nd rfl (Or.inl rfl) (pe_cd D_drawn_way hr pass0 (pa_cons (pv 0) (pa_cons (pv 1) (pa_cons (pv 3) pa_nil)))))
      (pss_cutS (ps_if (pt_cmpR op_gt (pe_cd D_draw hr pass0 (pa_cons (pv 0) (pa_cons pe_int pa_nil))) pe_int (nomark _))
      (pss_one (ps_set (i := 4) nd rfl (Or.inl rfl) (pe_op op_addS (pv 2) (pv 4))))
      pss_nil)
      (pss_cons (ps_set (i := 5) nd rfl (Or.inl rfl) (pe_cd D_pick hr pass0 (pa_cons (pv 0) (pa_cons (pe_dget hu (pv 1) pe_str (fun _ _ => rfl)) pa_nil))))
      (pss_one (ps_ret (pe_cd D_half_of hr pass0 (pa_cons (pv 1) (pa_cons (pv 4) (pa_cons (pv 5) (pa_cons (pe_cd D_is_beyond hr pass0 (pa_cons (pv 1) (pa_cons (pe_cd D_root_of hr pass0 (pa_cons (pv 1) (pa_cons (pv 4) (pa_cons (pv 5) pa_nil)))) (pa_cons (pv 2) pa_nil)))) pa_nil)))))))))), ?_⟩
  refine s_start [some _, some _, some _, some _, none, none] rfl ?_
  have fE : FlE ls fn := ⟨fe.tab, fe.ok, fe.asc⟩
  have tl := fe.tab.len
  walk_at "go"
  refine ⟨g, n, q, ls, fn, num, rfl, p0, by omega, fl, tl, by omega, fun w1 H1 m1 l1 k1 p1 => ?_⟩
  replace fl := fl.pen p0 k1
  walk_at "go"
  refine s_cut (fun σ H' => ∃ a, σ = [some (.ref g.p), some (.ref q), some (.str (tx c)), some (.int (num : Nat)), some (.str (tx a)), none] ∧ (∀ y ∈ a, y ∈ ls) ∧ a.length ≤ c.length + num ∧ PenAt g H' (n + 1 + num + 1) ∧ Keep g.p H1 H') ?_ ?_
  · walk_at "go"
    refine ⟨g, 3, _, rfl, by omega, by omega, p1, by omega, fun z H2 _ _ p2 k2 => ?_⟩
    have zz : c.length + w1.length ≤ 1000000 := by omega
    walk_at "go"
    refine if_dec (fun _ => ?_) (fun _ => ?_)
    · walk_at "go"
      exact ⟨c ++ w1, rfl, fun y hy => (List.mem_append.mp hy).elim (hc y) (m1 y), by rw [List.length_append]; omega, p2, k2⟩
    · walk_at "go"
      exact ⟨w1, rfl, m1, by omega, p2, k2⟩
  rintro σ H2 ⟨a, rfl, ha, la, p2, k2⟩
  replace fl := fl.pen p1 k2
  have k02 : Keep g.p H H2 := fun b o hb nb => k2 _ _ (k1 _ _ hb nb) nb
  obtain ⟨d2, fa2, fb2⟩ := fl.ex
  walk_at "go"
  refine v_dget (fl_kinds fa2) ?_
  walk_at "go"
  refine ⟨g, _, .str (tx ls), _, rfl, .inr ⟨ls, rfl, rfl⟩, by rw [List.length_map]; exact fe.pos, by rw [List.length_map]; omega, p2, by omega, fun u H3 hu' p3 k3 => ?_⟩
  obtain ⟨s0, hs, rfl⟩ := List.mem_map.mp hu'
  replace fl := fl.pen p2 k3
  have k03 : Keep g.p H H3 := fun b o hb nb => k3 _ _ (k02 _ _ hb nb) nb
  walk_at "go"
  refine ⟨q, ls, fn, a, s0, rfl, fl, fE, ha, by omega, hs, fun pr H4 hpr s4 e4 => ?_⟩
  walk_at "go"
  have e4' : H4 pr = some (.lst (vecV ls (mark fn (startC fn (nameOf fn a) s0).reverse s0))) := by
    rw [e4, vecV_congr fun x hx => pos_start fe.ok ha hs x]
  have hM : ∀ y ∈ (startC fn (nameOf fn a) s0).reverse, y ∈ ls := fun y hy => (start_mem (List.mem_reverse.mp hy)).elim (fun e => e ▸ hs) fun h => ha y (name_mem h)
  refine ⟨q, pr, ls, fn, _, c, s0, rfl, fl.same s4, fE, e4', hM, hc, hs, fun H5 s5 => ?_⟩
  have s35 := s4.trans s5
  walk_at "go"
  refine ⟨q, ls, fn, a, s0, _, rfl, fl.same s35, fE, ha, by omega, hs, fun h H6 hh s6 z => ?_⟩
  have s36 := s35.trans s6
  exact k h a s0 _ H6 z ha hs (by omega) ((p3.same s36).mono (by omega)) fun b o hb nb => s36 _ _ (k03 _ _ hb nb)
abbrev stasHalf : Stmt := (top 98)
abbrev NasHalf : List Str := ["_law_pen", "_law_plan", "_law_half", "_law_equal", "_law_shut", "_law_way", "_law_found"]
theorem scasHalf : FnScope NasHalf ["_law_pen", "_law_plan", "_law_half"] (defScope stasHalf) := ⟨rfl, rfl, rfl, by decide +kernel, rfl, by decide +kernel, by decide +kernel⟩

theorem ok_asHalf (F : FnAt K mg "_law_as_half" stasHalf) (T : TxtHf K mg C R O W HC) (D_draw : Def P w K mg base CX0 1 "_law_draw" ["_law_pen", "_law_span"] spDraw) (C_Plan : CDef P w K mg base CX0 3 "Plan" C (spPlan K C)) (C_Room : CDef P w K mg base CX0 3 "Room" R (spRoom C R)) (C_Wall : CDef P w K mg base CX0 5 "Wall" W (spWall C R W)) (C_Half : CDef P w K mg base CX0 1 "Half" HC (spHalf C R W HC)) (C_Half_1_far : CDefN P w K mg base CX0 1 "Half" HC (spHalf C R W HC) 1 ["far"] [.pos 0, .kw 0] [.bl false]) (M_Half_invert : MDef P w K mg base CX0 3 HC "__invert__" ["self"] (spInvert R W HC)) (S_Half_beside : StDef P w K mg base CX0 7 HC "beside" (spBesideF C R W HC)) : Def P w K mg base CX0 8 "_law_as_half" ["_law_pen", "_law_plan", "_law_half"] (spAsHalf C R W HC) := by
  refine F.ok scasHalf (fun _ _ _ _ _ _ us hl => match us, hl with | [_, _, _], _ => rfl) (fun vs H Q E h => ?_) (fun f cdv A outer s H vs Q E hr h => ?_)
  · obtain ⟨g, n, x, hd, ls, f, a, s, b, rfl, _⟩ := h
    rfl
  obtain ⟨g, n, x, hd, ls, fn, a, s0, b, rfl, p0, hn, pl, fe, hh, ha, hs, la, n1, n2, k⟩ := h
  have hu := hu_of hr
  have nd := scasHalf.nd
  replace D_draw := D_draw.mono (show 1 ≤ 7 by decide)
  replace C_Plan := C_Plan.mono (show 3 ≤ 6 by decide)
  replace C_Room := C_Room.mono (show 3 ≤ 6 by decide)
  replace C_Wall := C_Wall.mono (show 5 ≤ 6 by decide)
  replace C_Half := C_Half.mono (show 1 ≤ 6 by decide)
  replace C_Half_1_far := C_Half_1_far.mono (show 1 ≤ 6 by decide)
  replace M_Half_invert := M_Half_invert.mono (show 3 ≤ 7 by decide)
  refine ⟨_, (pss_cons (ps_set (i := 3) nd rfl (Or.inl rfl) (pe_cut (pe_ifExp (pt_cmpR op_eq (pe_cd D_draw hr pass0 (pa_cons (pv 0) (pa_cons pe_int pa_nil))) pe_int (nomark _)) (pe_mk C_Plan hr pass0 (pa_cons (pe_flK (K := K) rfl (pv 1) rfl) (pa_cons (pe_flK (K := K) rfl (pv 1) rfl) pa_nil))) (pv 1))))
      (pss_cons (ps_set (i := 4) nd rfl (Or.inl rfl) (pe_mk C_Wall hr pass0 (pa_cons (pe_mk C_Room hr pass0 (pa_cons (pv 3) (pa_cons (pe_dget hu (pv 2) pe_str (fun _ _ => rfl)) pa_nil))) (pa_cons (pe_dget hu (pv 2) pe_str (fun _ _ => rfl)) pa_nil))))
      (pss_cons (ps_set (i := 5) nd rfl (Or.inl rfl) (pe_cd D_draw hr pass0 (pa_cons (pv 0) (pa_cons pe_int pa_nil))))
      (pss_cons (ps_if (pt_cmpR op_eq (pv 5) pe_int (nomark _))
      (pss_one (ps_ret (pe_mkN C_Half_1_far hr pass0 (pa_cons (pv 4) pa_nil) (pk_cons (pe_dget hu (pv 2) pe_str (fun _ _ => rfl)) pk_nil))))
      pss_nil)
      (pss_cons (ps_if (pt_cmpR op_eq (pv 5) pe_int (nomark _))
      (pss_one (ps_ret (pe_un (un_invM M_Half_invert hr pass0) (pe_mk C_Half hr pass0 (pa_cons (pv 4) (pa_cons (pe_not (pe_dget hu (pv 2) pe_str (fun _ _ => rfl))) pa_nil))))))
      pss_nil)
      (pss_cons (ps_set (i := 6) nd rfl (Or.inl rfl) (pe_stc S_Half_beside T.Half.at hr pass0 (pa_cons (pe_mk C_Room hr pass0 (pa_cons (pv 1) (pa_cons (pe_dget hu (pv 2) pe_str (fun _ _ => rfl)) pa_nil))) (pa_cons (pe_dget hu (pv 2) pe_str (fun _ _ => rfl)) pa_nil))))
      (pss_one (ps_ret (pe_ifExp (pt_cmpR op_eq (pe_flK (K := K) rfl (pv 6) rfl) (pe_dget hu (pv 2) pe_str (fun _ _ => rfl)) (nomark _)) (pv 6) (pe_un (un_invM M_Half_invert hr pass0) (pv 6))))))))))), ?_⟩
  refine s_start [some _, some _, some _, none, none, none, none] rfl ?_
  walk_at "go"
  refine e_cut (fun v H' => ∃ y, v = .ref y ∧ PlanAt C H' y (ascOf ls) (tabPairs ls fn) ∧ PenAt g H' (n + 1) ∧ Keep g.p H H') ?_ ?_
  · walk_at "go2"
    refine ⟨g, 3, n, rfl, by omega, by omega, p0, by omega, fun z H1 _ _ p1 k1 => ?_⟩
    walk_at "go2"
    refine if_dec (fun _ => ?_) (fun _ => ?_)
    · obtain ⟨dp, tp, dq, a1, a2, a3⟩ := (pl.pen p0 k1).ex
      walk_at "go2"
      refine v_fld a1 T.Plan.cl T.nK planF_k ?_
      walk_at "go2"
      refine v_fld a1 T.Plan.cl T.nP planF_p ?_
      walk_at "go2"
      have plen := pairsOf_len (ls.flatMap fun a => (fn a).map fun b => ascOf [a, b])
      have plen : (tabPairs ls fn).length < 1000 := Nat.lt_of_le_of_lt plen (by decide)
      have asl := asc_self fe
      have tl := fe.tab.len
      refine ⟨ascOf ls, tp, tabPairs ls fn, rfl, ⟨.inr (.inl a2), plen, fun p hp => ?_, fun c hc => (ascOf_mem.mp hc).1, ascOf_nodup ls, by rw [asl]; exact tl⟩, fun y H2 hy s2 ply _ => ?_⟩
      · obtain ⟨a', b', rfl, l, ha', hb', _⟩ := tabPairs_lt fe.tab hp
        exact ⟨a', b', rfl, by omega, by rw [asl]; exact ha', by rw [asl]; exact hb'⟩
      rw [show kindsOf (ascOf ls) = ascOf ls from asc_asc ls, show prsOf (tabPairs ls fn) = tabPairs ls fn from prs_tab fe.tab] at ply
      exact ⟨y, rfl, ply, p1.same s2, fun b o hb nb => s2 _ _ (k1 _ _ hb nb)⟩
    · walk_at "go2"
      exact ⟨x, rfl, pl.pen p0 k1, p1, k1⟩
  rintro v H1 ⟨y, rfl, ply, p1, k1⟩
  have hh1 := hh.pen p0 k1
  have pl1 := pl.pen p0 k1
  obtain ⟨pr, r1, r2⟩ := hh1.ex
  walk_at "go2"
  refine v_dget (hf_way r1) ?_
  walk_at "go2"
  refine sp_room fe ply ha (by omega) fun r H2 hr2 s2 ro => ?_
  walk_at "go2"
  refine v_dget (hf_kind (s2 _ _ r1)) ?_
  walk_at "go2"
  refine sp_wall fe ro (ply.same s2) ha hs (by omega) fun wa r' H3 hwa s3 wl => ?_
  have s13 := s2.trans s3
  walk_at "go2"
  refine ⟨g, 3, _, rfl, by omega, by omega, p1.same s13, by omega, fun z H4 z0 z3 p4 k4 => ?_⟩
  have k14 : Keep g.p H1 H4 := (Keep.of s13).trans k4
  have k04 : Keep g.p H H4 := k1.trans k14
  have wl4 := wl.pen (p1.same s13) k4
  have ply4 := ply.pen p1 k14
  have pl4 := pl1.pen p1 k14
  obtain ⟨pr, r1, r2⟩ := (hh1.pen p1 k14).ex
  walk_at "go2"
  refine if_dec (fun _ => ?_) (fun _ => ?_)
  · walk_at "go2"
    refine v_dget (hf_side r1) ?_
    walk_at "go2"
    refine ⟨wa, r', y, s0, _, b, rfl, wl4, n1, n2, fun h H5 hh5 s5 z => ?_⟩
    exact k h H5 ⟨wa, r', y, z, ply4.same s5⟩ (p4.same s5) (k04.trans (Keep.of s5))
  walk_at "go2"
  refine if_dec (fun _ => ?_) (fun _ => ?_)
  · walk_at "go2"
    refine v_dget (hf_side r1) ?_
    walk_at "go2"
    refine ⟨wa, r', y, s0, _, !b, rfl, wl4, n1, n2, fun h H5 hh5 s5 z => ?_⟩
    refine v_hinv z n1 n2 fun h' H6 s6 z6 => ?_
    rw [Bool.not_not] at z6
    have s56 := s5.trans s6
    exact k h' H6 ⟨wa, r', y, z6, ply4.same s56⟩ (p4.same s56) (k04.trans (Keep.of s56))
  walk_at "go2"
  refine v_dget (hf_way r1) ?_
  walk_at "go2"
  refine sp_room fe pl4 ha (by omega) fun rr H5 hr5 s5 ro5 => ?_
  walk_at "go2"
  refine v_dget (hf_kind (s5 _ _ r1)) ?_
  walk_at "go2"
  refine ⟨rr, x, ls, fn, a, s0, rfl, ro5, pl4.same s5, fe, ha, hs, by omega, n1, n2, fun h wb rb H6 hh6 s6 z => ?_⟩
  have s46 := s5.trans s6
  obtain ⟨dx, t, e1, e2⟩ := z.ex
  walk_at "go2"
  refine v_fld e1 T.Half.cl T.nHf halfF_f ?_
  walk_at "go2"
  refine v_dget (hf_side (s46 _ _ r1)) ?_
  walk_at "go2"
  generalize decide (BeyP fn a s0 a) = b' at z e1 e2
  refine if_dec (fun e => ?_) (fun e => ?_)
  · have e : b' = b := V.bl.inj e
    subst e
    walk_at "go2"
    exact k h H6 ⟨wb, rb, x, z, pl4.same s46⟩ (p4.same s46) (k04.trans (Keep.of s46))
  · have e : (!b') = b := by cases b' <;> cases b <;> first | rfl | exact absurd rfl e
    walk_at "go2"
    refine v_hinv z n1 n2 fun h' H7 s7 z7 => ?_
    rw [e] at z7
    have s47 := s46.trans s7
    exact k h' H7 ⟨wb, rb, x, z7, pl4.same s47⟩ (p4.same s47) (k04.trans (Keep.of s47))
end
end
section
open PySem PySem.Spec L2
theorem vs_blA {α : Type} {E : List (α × Addr)} {vs : List V} {g : α → Bool} (hl : vs.length = E.length) (h : ∀ (k : Nat) (v : V) (e : α × Addr), vs[k]? = some v → E[k]? = some e → v = .bl (g e.1)) : vs = ((E.map (·.1)).map g).map V.bl := by
  apply List.ext_getElem?
  intro k
  rw [List.map_map, List.getElem?_map, List.getElem?_map]
  cases hE : E[k]? with
  | none =>
    have := List.getElem?_eq_none_iff.mp hE
    rw [List.getElem?_eq_none_iff.mpr (by omega)]
    rfl
  | some e =>
    have hk := (List.getElem?_eq_some_iff.mp hE).1
    have hv : vs[k]? = some vs[k] := List.getElem?_eq_getElem (by omega)
    rw [hv, h k _ e hv hE]
    rfl
theorem PenAt.keepD {g : Pen} {H H' : Hp} {n : Nat} {D : Addr} (p : PenAt g H n) (h1 : D ≠ g.p) (h2 : D ≠ g.cl) (k : Keep D H H') : PenAt g H' n := by
  obtain ⟨a, r, e1, e2, z⟩ := p.ex
  exact ⟨a, r, k _ _ e1 (fun y => h1 y.symm), k _ _ e2 (fun y => h2 y.symm), z⟩
theorem PenAt.new_ne {g : Pen} {H : Hp} {n : Nat} {D : Addr} (p : PenAt g H n) (h : H D = none) : D ≠ g.p ∧ D ≠ g.cl := by
  obtain ⟨a, r, e1, e2, _⟩ := p.ex
  exact ⟨(fun z => by rw [z, e1] at h; cases h), (fun z => by rw [z, e2] at h; cases h)⟩
theorem HalfD.keepL {α : Type} {H H' : Hp} {h D : Addr} {ls : List Nat} {f : Nat → List Nat} {a : List Nat} {s : Nat} {b : Bool} {Es : List (α × Addr)} (z : HalfD H h ls f a s b) (hs : s ∈ ls) (e : H D = some (.lst (refV Es))) (k : Keep D H H') : HalfD H' h ls f a s b := by
  obtain ⟨p, e1, e2⟩ := z.ex
  refine ⟨p, k _ _ e1 (ne_of e1 e (by intro z; cases z)), k _ _ e2 fun q : p = D => ?_⟩
  rw [q, e] at e2
  injection e2 with e2
  injection e2 with e2
  cases ls with
  | nil => cases hs
  | cons c r =>
    cases Es with
    | nil => cases e2
    | cons k r' =>
      injection e2 with e2 _
      cases e2
/-- a half of the law: the door and the side -/
structure Hv where
  a : List Nat
  s : Nat
  b : Bool
def Hv.sd (f : Nat → List Nat) (v : Hv) : Sd := sdOf f v.a v.s v.b
abbrev HdAt (ls : List Nat) (f : Nat → List Nat) (H : Hp) (h : Addr) (v : Hv) : Prop := HalfD H h ls f v.a v.s v.b
def HvOk (ls : List Nat) (N : Nat) (v : Hv) : Prop := (∀ y ∈ v.a, y ∈ ls) ∧ v.s ∈ ls ∧ v.a.length ≤ N
abbrev HdsL (ls : List Nat) (f : Nat → List Nat) (H : Hp) (t : Addr) (D : List Hv) : Prop := RefsL (HdAt ls f) H t D
theorem HdsL.keep {ls : List Nat} {f : Nat → List Nat} {H H' : Hp} {t : Addr} {D : List Hv} (h : HdsL ls f H t D) (s : Same H H') : HdsL ls f H' t D := h.same s fun p a e => HalfD.same e s
theorem HdsL.pen {ls : List Nat} {f : Nat → List Nat} {H H' : Hp} {t : Addr} {D : List Hv} {g : Pen} {n : Nat} (h : HdsL ls f H t D) (p : PenAt g H n) (k : Keep g.p H H') : HdsL ls f H' t D := by
  obtain ⟨E, e1, e2, e3⟩ := h.ex
  exact ⟨E, e1, k _ _ e2 (p.lst_ne e2), fun e he => HalfD.pen (e3 e he) p k⟩
theorem HvOk.sd {ls : List Nat} {f : Nat → List Nat} {N : Nat} {v : Hv} (h : HvOk ls N v) : SdOk f ls (v.sd f) := sdOf_ok h.1 h.2.1
theorem HvOk.len {ls : List Nat} {f : Nat → List Nat} (ok : CrOk f) {N : Nat} {v : Hv} (h : HvOk ls N v) : (v.sd f).m.length ≤ N := by
  have h1 := start_len ok (nameOf f v.a) v.s
  have h2 := name_len f v.a
  have h3 := h.2.2
  show (startC f (nameOf f v.a) v.s).length ≤ N
  omega
section
variable {K : PySem.W.Frag} {H H0 : Hp} {p : Addr} {te0 te : TE} {σ : L2.St} {α : Type} {E : List (α × Addr)} {R' : Hp → V → α → Prop} {i : Nat} {tt : TT} {Q : VK}
/-- a comprehension over a list of objects, with the pen -/
theorem lc_refsP {P : Addr → Hp → Prop} {g : Pen} {n c : Nat} (p0 : PenAt g H n) (hp : H p = some (.lst (refV E))) (hl : E.length ≤ 1000000) (m1 : ∀ v a H1 H2 m, R' H1 v a → PenAt g H1 m → Keep g.p H1 H2 → R' H2 v a) (m2 : ∀ v a H1 H2 D l, R' H1 v a → H1 D = some (.lst l) → Keep D H1 H2 → R' H2 v a)
    (ht : ∀ e ∈ E, ∀ H1, ∀ R : Bool → Hp → Prop, R true H1 → tt ((wipe σ [i]).set i (some (.ref e.2))) H1 R)
    (he : ∀ (k : Nat) (e : α × Addr), E[k]? = some e → ∀ H1, Keep g.p H H1 → PenAt g H1 (n + c * k) → ∀ R : VK, (∀ v H2, Keep g.p H1 H2 → PenAt g H2 (n + c * (k + 1)) → R' H2 v e.1 → R v H2) → te ((wipe σ [i]).set i (some (.ref e.2))) H1 R)
    (q : ∀ D H' vs, H D = none → Keep g.p H H' → PenAt g H' (n + c * E.length) → H' D = some (.lst vs) → vs.length = E.length → (∀ (k : Nat) (v : V) (e : α × Addr), vs[k]? = some v → E[k]? = some e → R' H' v e.1) → P D H') :
    ∀ D, H D = none → ∃ W : Nat → Nat → Hp → Prop, (∃ m, W 0 m (upd H D (.lst []))) ∧ ∀ k m H, W k m H →
      ((Itl K p).stop k H ∧ P D H) ∨ ((Itl K p).go k H ∧ ∃ Nx : Hp → Prop, (∀ H', Nx H' → ∃ m', m' < m ∧ W (k + 1) m' H') ∧ ∀ x H', (Itl K p).yld k H x H' → (gName i) x (wipe σ [i]) H' fun s2 H2 => wipe s2 [i] = wipe σ [i] ∧ tt s2 H2 fun c H3 =>
        if c = true then te s2 H3 fun y H4 => ∃ acc, H4 D = some (.lst acc) ∧ acc.length < sizeLine ∧ Nx (upd H4 D (.lst (acc ++ [y]))) else Nx H3) := by
  intro D hD
  have hDg : D ≠ g.p := fun z => by
    obtain ⟨a, r, h1, _⟩ := p0.ex
    rw [z, h1] at hD
    cases hD
  have npp := p0.lst_ne hp
  have w : Walk (Itl K p) E.length (fun H' => Keep g.p H H') (fun k H' x H2 => H2 = H' ∧ ∃ e, E[k]? = some e ∧ x = V.ref e.2) := (walk_refE (K := K) (E := E)).mono (fun H' s => SqL.of (s _ _ hp npp)) fun _ _ _ _ _ _ y => y
  have kD : ∀ {H' : Hp} {l : List V}, Keep g.p H H' → Keep g.p H (upd H' D (.lst l)) := fun {H' l} k b o hb nb => by
    rw [upd_ne (ne_of_none hb hD)]
    exact k _ _ hb nb
  have pD : ∀ {H' : Hp} {l l' : List V} {m : Nat}, H' D = some (.lst l') → PenAt g H' m → PenAt g (upd H' D (.lst l)) m → PenAt g (upd H' D (.lst l)) m := fun _ _ h => h
  refine lc_it w (vs := [i]) (σ := σ) (g := gName i) (tt := tt) (te := te) (Qd := fun H' => P D H') (fun k H' => Keep g.p H H' ∧ PenAt g H' (n + c * k) ∧ ∃ vs, H' D = some (.lst vs) ∧ vs.length = k ∧ ∀ (j : Nat) (v : V) (e : α × Addr), vs[j]? = some v → E[j]? = some e → R' H' v e.1)
    ⟨Keep.of (Same.new hD), (p0.same (Same.new hD)).mono (by omega), [], upd_same, rfl, fun j v e z => by simp at z⟩ (fun k H' _ p => p.1) (fun k x H1 H2 hk p' y => ?_) (fun H' p' => ?_)
  · obtain ⟨p1, pn, vs, p2, p3, p4⟩ := p'
    obtain ⟨rfl, e, hE, rfl⟩ := y
    refine ⟨wipe1, ht e (List.mem_of_getElem? hE) _ _ ?_⟩
    rw [if_pos rfl]
    refine he k e hE _ p1 pn _ fun v H4 k4 pn4 r4 => ?_
    have e4 := k4 _ _ p2 hDg
    have cl4 : ∀ l, PenAt g (upd H4 D (.lst l)) (n + c * (k + 1)) := fun l => by
      obtain ⟨a, r, h1, h2, h3⟩ := pn4.ex
      refine ⟨a, r, ?_, ?_, h3⟩
      · rw [upd_ne fun z => hDg z.symm]
        exact h1
      · rw [upd_ne fun z => ?_]
        · exact h2
        obtain ⟨_, _, _, q2, _⟩ := p0.ex
        rw [z] at q2
        cases hD.symm.trans q2
    refine ⟨vs, e4, szlt (by omega), kD fun b o hb nb => k4 _ _ (p1 _ _ hb nb) nb, cl4 _, vs ++ [v], upd_same, by rw [List.length_append, p3]; rfl, fun j u e' hj hE' => ?_⟩
    by_cases cj : j < vs.length
    · rw [List.getElem?_append_left cj] at hj
      exact m2 _ _ _ _ D vs (m1 _ _ _ _ _ (p4 j u e' hj hE') pn k4) e4 Keep.put
    · have ej : j = vs.length := by
        have := (List.getElem?_eq_some_iff.mp hj).1
        rw [List.length_append, List.length_singleton] at this
        omega
      rw [ej, List.getElem?_append_right (Nat.le_refl _), Nat.sub_self] at hj
      injection hj with hj
      rw [ej, p3, hE] at hE'
      injection hE' with hE'
      rw [← hj, ← hE']
      exact m2 _ _ _ _ D vs r4 e4 Keep.put
  · obtain ⟨p1, pn, vs, p2, p3, p4⟩ := p'
    exact q D H' vs hD p1 pn p2 p3 p4
end
def spIsEmpty : Sp := fun vs H Q _ => ∃ (q t : Addr) (ls : List Nat) (f : Nat → List Nat) (D : List Hv), vs = [.ref q, .ref t] ∧ FloorAt H q ls f ∧ FlE ls f ∧ HdsL ls f H t D ∧ (∀ v ∈ D, HvOk ls 400 v) ∧ D.length ≤ 100 ∧
  ∀ b H', Same H H' → (b = true ↔ ¬ Pw f ls (D.map (Hv.sd f))) → Q (.bl b) H'
def spInAll : Sp := fun vs H Q _ => ∃ (q t : Addr) (ls : List Nat) (f : Nat → List Nat) (D : List Hv) (w : List Nat), vs = [.ref q, .ref t, .str (tx w)] ∧ FloorAt H q ls f ∧ FlE ls f ∧ HdsL ls f H t D ∧ (∀ v ∈ D, HvOk ls 400 v) ∧ D.length ≤ 100 ∧ (∀ c ∈ w, c ∈ ls) ∧
  ∀ H', Same H H' → Q (.bl (allB f ls w (D.map (Hv.sd f)))) H'
def spDrawnHs : Sp := fun vs H Q _ => ∃ (g : Pen) (n : Nat) (q : Addr) (ls : List Nat) (f : Nat → List Nat) (c : List Nat) (many num : Nat), vs = [.ref g.p, .ref q, .str (tx c), .int many, .int num] ∧ PenAt g H n ∧ n < 700000 ∧ FloorAt H q ls f ∧ FlE ls f ∧ (∀ y ∈ c, y ∈ ls) ∧ c.length + num ≤ 100 ∧ many ≤ 11 ∧
  ∀ t D H', H t = none → HdsL ls f H' t D → (∀ v ∈ D, HvOk ls (c.length + num) v) → D.length ≤ many + 1 → PenAt g H' (n + 5000) → Keep g.p H H' → Q (.ref t) H'
section
variable {P : Program} {w : World} {K : PySem.W.Frag} {mg : Str → Option Value} {base : Heap} {C R O W HC L : Addr}
abbrev stisEmpty : Stmt := (top 95)
abbrev NisEmpty : List Str := ["_law_floor", "_law_halves", "_law_at", "_law_near"]
theorem scisEmpty : FnScope NisEmpty ["_law_floor", "_law_halves"] (defScope stisEmpty) := ⟨rfl, rfl, rfl, by decide +kernel, rfl, by decide +kernel, by decide +kernel⟩

theorem ok_isEmpty (F : FnAt K mg "_law_is_empty" stisEmpty) (T : TxtF K mg) (D_are_apart : Def P w K mg base CX0 4 "_law_are_apart" ["_law_floor", "_law_one", "_law_two"] spApart) : Def P w K mg base CX0 5 "_law_is_empty" ["_law_floor", "_law_halves"] spIsEmpty := by
  refine F.ok scisEmpty (fun _ _ _ _ _ _ us hl => match us, hl with | [_, _], _ => rfl) (fun vs H Q E h => ?_) (fun f cdv A outer s H vs Q E hr h => ?_)
  · obtain ⟨q, t, ls, f, D, rfl, _⟩ := h
    rfl
  obtain ⟨q, t, ls, fn, D, rfl, fl, fE, hD, okD, lD, k⟩ := h
  have hu := hu_of hr
  have nd := scisEmpty.nd
  refine ⟨_, (pss_cons (ps_for PassesOwn.never rfl (pi_range1 (by rfl) T.range (pa_cons (pe_callB (c_lenK (K := K) rfl) (by rfl) T.len PySem.boot_len (pa_cons (pv 1) pa_nil)) pa_nil)) (pg_name (i := 2) nd rfl (Or.inl rfl))
      (pss_one (ps_for PassesOwn.never rfl (pi_range1 (by rfl) T.range (pa_cons (pv 2) pa_nil)) (pg_name (i := 3) nd rfl (Or.inl rfl))
        (pss_one (ps_if (pt_val (pe_cd D_are_apart hr pass0 (pa_cons (pv 0) (pa_cons (pe_ix (ix_LK (K := K) rfl) (pv 1) (pv 2) (fun _ _ => rfl)) (pa_cons (pe_ix (ix_LK (K := K) rfl) (pv 1) (pv 3) (fun _ _ => rfl)) pa_nil)))))
          (pss_one (ps_ret pe_bl))
          pss_nil)))))
      (pss_one (ps_ret pe_bl))), ?_⟩
  refine s_start [some _, some _, none, none] rfl ?_
  obtain ⟨Es, e1, e2, e3⟩ := hD.ex
  have lE : Es.length = D.length := by rw [← e1, List.length_map]
  have hn := fE.tab.nd
  have ok := fE.ok
  have lr : (refV Es).length = Es.length := by rw [List.length_map]
  walk_at "go"
  rw [lr]
  have it : ∀ j, j < Es.length → ∃ e, Es[j]? = some e ∧ D[j]? = some e.1 := fun j hj => ⟨Es[j], List.getElem?_eq_getElem hj, by rw [← e1]; exact refs_get (List.getElem?_eq_getElem hj)⟩
  refine for_it (walk_rI (fun i => ((i : Nat) : Int)) (fun k => Int.zero_add _)) (fun i σ H' => ∃ z1 z2, σ = [some (.ref q), some (.ref t), z1, z2] ∧ Same H H' ∧ ∀ (a b : Nat) v w, a < i → b < a → D[a]? = some v → D[b]? = some w → Mt fn ls (v.sd fn) (w.sd fn)) ⟨_, _, rfl, Same.refl _, fun _ _ _ _ z => absurd z (Nat.not_lt_zero _)⟩ (fun _ _ _ _ _ => trivial) ?_ ?_
  · rintro i v σ H1 H2 hi ⟨z1, z2, rfl, s1, m1⟩ ⟨rfl, rfl⟩
    have hi : i < Es.length := by simpa using hi
    walk_at "go"
    refine for_it (walk_rI (fun i => ((i : Nat) : Int)) (fun k => Int.zero_add _)) (fun j σ H' => ∃ z2, σ = [some (.ref q), some (.ref t), some (.int (i : Nat)), z2] ∧ Same H H' ∧ ∀ (b : Nat) v w, b < j → D[i]? = some v → D[b]? = some w → Mt fn ls (v.sd fn) (w.sd fn)) ⟨_, rfl, s1, fun _ _ _ z => absurd z (Nat.not_lt_zero _)⟩ (fun _ _ _ _ _ => trivial) ?_ ?_
    · rintro j v σ H2 H3 hj ⟨z2, rfl, s2, m2⟩ ⟨rfl, rfl⟩
      have hj : j < i := by simpa using hj
      obtain ⟨ei, gi, di⟩ := it i hi
      obtain ⟨ej, gj, dj⟩ := it j (by omega)
      have oi := okD ei.1 (List.mem_of_getElem? di)
      have oj := okD ej.1 (List.mem_of_getElem? dj)
      have ti := s2 _ _ e2
      have ai : atI (refV Es) ((i : Nat) : Int) = some (.ref ei.2) := atI_nat (by rw [List.getElem?_map, gi]; rfl)
      have aj : atI (refV Es) ((j : Nat) : Int) = some (.ref ej.2) := atI_nat (by rw [List.getElem?_map, gj]; rfl)
      walk_at "go"
      refine v_ixL ti ai ?_
      walk_at "go"
      refine v_ixL ti aj ?_
      walk_at "go"
      refine ⟨q, ei.2, ej.2, ls, fn, ei.1.a, ej.1.a, ei.1.s, ej.1.s, ei.1.b, ej.1.b, rfl, fl.same s2, fE, HalfD.same (e3 ei (List.mem_of_getElem? gi)) s2, HalfD.same (e3 ej (List.mem_of_getElem? gj)) s2, oi.1, oj.1, oi.2.1, oj.2.1, oi.2.2, oj.2.2, fun rr H3 s3 ar => ?_⟩
      have key := apartR_iff hn ok oi.1 oj.1 oi.2.1 oj.2.1 ar
      refine ⟨rr, rfl, ?_⟩
      refine if_bool (fun c => ?_) (fun c => ?_)
      · walk_at "go"
        refine k true H3 (s2.trans s3) (iff_of_true rfl fun pw => key.mp c (pw _ (List.mem_map.mpr ⟨ei.1, List.mem_of_getElem? di, rfl⟩) _ (List.mem_map.mpr ⟨ej.1, List.mem_of_getElem? dj, rfl⟩)))
      · walk_at "go"
        refine ⟨_, rfl, s2.trans s3, fun b v w hb hv hw => ?_⟩
        by_cases e : b = j
        · subst e
          rw [di] at hv
          rw [dj] at hw
          injection hv with hv
          injection hw with hw
          rw [← hv, ← hw]
          exact Classical.byContradiction fun z => by
            rw [key.mpr z] at c
            cases c
        · exact m2 b v w (by omega) hv hw
    rintro σ H2 ⟨z2, rfl, s2, m2⟩
    have m2 : ∀ (b : Nat) v w, b < i → D[i]? = some v → D[b]? = some w → Mt fn ls (v.sd fn) (w.sd fn) := fun b v w hb => m2 b v w (by simpa using hb)
    refine ⟨_, _, rfl, s2, fun a b v w ha hb hv hw => ?_⟩
    by_cases e : a = i
    · subst e
      exact m2 b v w hb hv hw
    · exact m1 a b v w (by omega) hb hv hw
  rintro σ H1 ⟨z1, z2, rfl, s1, m1⟩
  walk_at "go"
  refine k false H1 s1 (iff_of_false (fun z => nomatch z) (not_not_intro fun d hd e he => ?_))
  obtain ⟨v, hv, rfl⟩ := List.mem_map.mp hd
  obtain ⟨w', hw, rfl⟩ := List.mem_map.mp he
  obtain ⟨a, ha, rfl⟩ := List.getElem_of_mem hv
  obtain ⟨b, hb, rfl⟩ := List.getElem_of_mem hw
  have lt : ∀ {z : Nat}, z < D.length → z < Int.toNat (Es.length : Nat) := fun {z} hz => by rw [lE]; simpa using hz
  rcases Nat.lt_trichotomy a b with h | h | h
  · exact (m1 b a _ _ (lt hb) h (List.getElem?_eq_getElem hb) (List.getElem?_eq_getElem ha)).symm
  · subst h
    obtain ⟨w0, x1, _, x2⟩ := (okD _ (List.getElem_mem ha)).sd.room (f := fn) hn ok
    exact ⟨w0, x1, x2, x2⟩
  · exact m1 a b _ _ (lt ha) h (List.getElem?_eq_getElem ha) (List.getElem?_eq_getElem hb)
abbrev stinAll : Stmt := (top 100)
abbrev NinAll : List Str := ["_law_floor", "_law_halves", "_law_way", "_law_half"]
theorem scinAll : FnScope NinAll ["_law_floor", "_law_halves", "_law_way"] (defScope stinAll) := ⟨rfl, rfl, rfl, by decide +kernel, rfl, by decide +kernel, by decide +kernel⟩

theorem ok_inAll (F : FnAt K mg "_law_in_all" stinAll) (T : TxtLot K mg C R O W HC L) (D_has : Def P w K mg base CX0 3 "_law_has" ["_law_floor", "_law_half", "_law_way"] spHas) : Def P w K mg base CX0 4 "_law_in_all" ["_law_floor", "_law_halves", "_law_way"] spInAll := by
  refine F.ok scinAll (fun _ _ _ _ _ _ us hl => match us, hl with | [_, _, _], _ => rfl) (fun vs H Q E h => ?_) (fun f cdv A outer s H vs Q E hr h => ?_)
  · obtain ⟨q, t, ls, f, D, w, rfl, _⟩ := h
    rfl
  obtain ⟨q, t, ls, fn, D, w, rfl, fl, fE, hD, okD, lD, mw, k⟩ := h
  have hu := hu_of hr
  have nd := scinAll.nd
  refine ⟨_, (pss_one (ps_ret (pe_callB (c_allK (K := K) rfl rfl) (by rfl) T.all (by decide +kernel) (pa_cons (pe_lc (own := [("_law_half", 3)]) (g := gName 3) (by rfl) nd (pi_listK (K := K) rfl (pv 1)) (blkOk_by (own := [("_law_half", 3)]) (N := NinAll) (sc := defScope stinAll) (by decide +kernel)) (fun _ _ _ _ _ => (pg_name (i := 3) nd rfl (Or.inl rfl))) (fun _ _ _ _ _ => pts_nil) (fun _ _ _ _ _ => (pe_cd D_has hr pass0 (pa_cons (pv 0) (pa_cons (pv 3) (pa_cons (pv 2) pa_nil)))))) pa_nil)))), ?_⟩
  refine s_start [some _, some _, some _, none] rfl ?_
  obtain ⟨Es, e1, e2, e3⟩ := hD.ex
  have lE : Es.length = D.length := by rw [← e1, List.length_map]
  walk_at "go"
  refine lc_refsL (K := K) (E := Es) (R' := fun _ v d => v = .bl (onB fn ls w (d.sd fn))) e2 (by omega) (fun _ _ _ _ h _ => h) (fun _ _ _ _ _ _ h _ _ => h) (fun e he H3 s3 R r => ?_) (fun e he H3 s3 R r => ?_) (fun D3 H3 vs hD s3 eD l3 r3 => ?_)
  · walk_at "go"
    exact r H3 (Same.refl _)
  · have em : e.1 ∈ D := by rw [← e1]; exact List.mem_map.mpr ⟨e, he, rfl⟩
    obtain ⟨o1, o2, o3⟩ := okD _ em
    walk_at "go"
    refine ⟨q, e.2, ls, fn, e.1.a, w, e.1.s, e.1.b, rfl, fl.same s3, fE, HalfD.same (e3 e he) s3, o1, mw, o2, fun H4 s4 => ?_⟩
    refine r _ H4 s4 ?_
    have eb : BeyP fn e.1.a e.1.s w ↔ Bz fn ls (startC fn (nameOf fn e.1.a) e.1.s) e.1.s w := (bey_mark fE.ok o1 mw o2).symm
    by_cases on : On fn ls (e.1.sd fn) w
    · rw [beq_yes (b := e.1.b) eb on, onB_iff.mpr on]
    · rw [beq_no (b := e.1.b) eb on]
      cases z : onB fn ls w (e.1.sd fn) with
      | true => exact absurd (onB_iff.mp z) on
      | false => rfl
  have evs : vs = (D.map fun v => onB fn ls w (v.sd fn)).map V.bl := by
    rw [← e1]
    exact vs_blA l3 r3
  walk_at "go"
  refine v_all (bs := D.map fun v => onB fn ls w (v.sd fn)) (by rw [eD, evs]) ?_
  rw [show (D.map fun v => onB fn ls w (v.sd fn)) = (D.map (Hv.sd fn)).map (onB fn ls w) by rw [List.map_map]; rfl, all_onB]
  exact k H3 s3
abbrev stdrawnHs : Stmt := (top 97)
abbrev NdrawnHs : List Str := ["_law_pen", "_law_floor", "_law_center", "_law_many", "_law_upto", "_law_found", "_law_k", "_law_at"]
theorem scdrawnHs : FnScope NdrawnHs ["_law_pen", "_law_floor", "_law_center", "_law_many", "_law_upto"] (defScope stdrawnHs) := ⟨rfl, rfl, rfl, by decide +kernel, rfl, by decide +kernel, by decide +kernel⟩

theorem ok_drawnHs (F : FnAt K mg "_law_drawn_halves" stdrawnHs) (T : TxtF K mg) (D_draw : Def P w K mg base CX0 1 "_law_draw" ["_law_pen", "_law_span"] spDraw) (D_pick : Def P w K mg base CX0 2 "_law_pick" ["_law_pen", "_law_some"] spPick2) (D_drawn_half : Def P w K mg base CX0 4 "_law_drawn_half" ["_law_pen", "_law_floor", "_law_center", "_law_upto"] spDrawnH) (D_turned_half : Def P w K mg base CX0 1 "_law_turned_half" ["_law_half"] spTurnH) : Def P w K mg base CX0 5 "_law_drawn_halves" ["_law_pen", "_law_floor", "_law_center", "_law_many", "_law_upto"] spDrawnHs := by
  refine F.ok scdrawnHs (fun _ _ _ _ _ _ us hl => match us, hl with | [_, _, _, _, _], _ => rfl) (fun vs H Q E h => ?_) (fun f cdv A outer s H vs Q E hr h => ?_)
  · obtain ⟨g, n, q, ls, f, c, many, num, rfl, _⟩ := h
    rfl
  obtain ⟨g, n, q, ls, fn, c, many, num, rfl, p0, hn, fl, fE, mc, lc, lm, k⟩ := h
  have hu := hu_of hr
  have nd := scdrawnHs.nd
  replace D_draw := D_draw.mono (show 1 ≤ 4 by decide)
  replace D_pick := D_pick.mono (show 2 ≤ 4 by decide)
  replace D_turned_half := D_turned_half.mono (show 1 ≤ 4 by decide)
  refine ⟨_, (pss_cons (ps_set (i := 5) nd rfl (Or.inl rfl) (pe_lst pa_nil))
      (pss_cons (ps_for PassesOwn.never rfl (pi_range1 (by rfl) T.range (pa_cons (pe_op op_mul (pe_cd D_draw hr pass0 (pa_cons (pv 0) (pa_cons (pe_op op_add (pv 3) pe_int) pa_nil))) (pe_callTy c_int (by rfl) T.int (by decide +kernel) (pa_cons (pe_cmpR op_ne (pe_dget hu (pv 1) pe_str (fun _ _ => rfl)) (pe_tx [] (by decide +kernel)) (nomark _)) pa_nil))) pa_nil)) (pg_name (i := 6) nd rfl (Or.inl rfl))
      (pss_one (ps_expr (pe_appK (K := K) rfl (pv 5) (pe_cd D_drawn_half hr pass0 (pa_cons (pv 0) (pa_cons (pv 1) (pa_cons (pv 2) (pa_cons (pv 4) pa_nil)))))))))
      (pss_cutS (ps_if (PW.pt (pw_and (pt_cmpR (op_neL (K := K) rfl (Nat.lt_of_le_of_lt (Nat.le_add_right _ 64) hr.units)) (pv 5) (pe_lst pa_nil) (nomark _)) (pw_and1 (pt_cmpR op_eq (pe_cd D_draw hr pass0 (pa_cons (pv 0) (pa_cons pe_int pa_nil))) pe_int (nomark _)))))
      (pss_one (ps_expr (pe_appK (K := K) rfl (pv 5) (pe_cd D_pick hr pass0 (pa_cons (pv 0) (pa_cons (pv 5) pa_nil))))))
      pss_nil)
      (pss_cutS (ps_if (PW.pt (pw_and (pt_cmpR (op_neL (K := K) rfl (Nat.lt_of_le_of_lt (Nat.le_add_right _ 64) hr.units)) (pv 5) (pe_lst pa_nil) (nomark _)) (pw_and1 (pt_cmpR op_eq (pe_cd D_draw hr pass0 (pa_cons (pv 0) (pa_cons pe_int pa_nil))) pe_int (nomark _)))))
      (pss_cons (ps_set (i := 7) nd rfl (Or.inl rfl) (pe_cd D_draw hr pass0 (pa_cons (pv 0) (pa_cons (pe_callB (c_lenK (K := K) rfl) (by rfl) T.len PySem.boot_len (pa_cons (pv 5) pa_nil)) pa_nil))))
        (pss_one (ps_asg (pe_cd D_turned_half hr pass0 (pa_cons (pe_ix (ix_LK (K := K) rfl) (pv 5) (pv 7) (fun _ _ => rfl)) pa_nil)) (pg_sub (pv 5) (pv 7) set_list))))
      pss_nil)
      (pss_one (ps_ret (pv 5))))))), ?_⟩
  refine s_start [some _, some _, some _, some _, some _, none, none, none] rfl ?_
  have fl0 := fl
  have pH := p0
  walk_at "go"
  intro fd H1 hfd s1 efd
  obtain ⟨nf1, nf2⟩ := p0.new_ne hfd
  replace p0 := p0.same s1
  replace fl := fl.same s1
  walk_at "go"
  refine ⟨g, ((many : Nat) : Int) + 1, n, rfl, by omega, by omega, p0, by omega, fun z H2 z0 z1 p2 k2 => ?_⟩
  replace fl := fl.pen p0 k2
  obtain ⟨d2, fa2, fb2⟩ := fl.ex
  walk_at "go"
  refine v_dget (fl_kinds fa2) ?_
  walk_at "go"
  · split <;> omega
  · split <;> omega
  have cl : (z * if (!decide (V.str (tx ls) = V.str (tx []))) = true then 1 else 0).toNat ≤ many := by split <;> omega
  have cpos : 0 < (z * if (!decide (V.str (tx ls) = V.str (tx []))) = true then 1 else 0).toNat → 0 < ls.length := fun h => by
    cases ls with
    | nil => simp at h
    | cons a r => simp
  generalize (z * if (!decide (V.str (tx ls) = V.str (tx []))) = true then 1 else 0).toNat = cnt at cl cpos ⊢
  have kfd : ∀ {H' H'' : Hp}, Keep g.p H H' → Keep fd H' H'' → Keep g.p H H'' := fun k k' b o hb nb => k' _ _ (k _ _ hb nb) (ne_of_none hb hfd)
  refine for_it (walk_rI (fun i => ((i : Nat) : Int)) (fun k => Int.zero_add _)) (fun i σ H' => ∃ D z, σ = [some (.ref g.p), some (.ref q), some (.str (tx c)), some (.int (many : Nat)), some (.int (num : Nat)), some (.ref fd), z, none] ∧ HdsL ls fn H' fd D ∧ (∀ v ∈ D, HvOk ls (c.length + num) v) ∧ D.length = i ∧ PenAt g H' (n + 1 + (num + 10) * i) ∧ Keep g.p H H') ⟨[], _, rfl, ⟨[], rfl, k2 _ _ efd nf1, fun _ z => nomatch z⟩, (fun _ z => nomatch z), rfl, p2.mono (by omega), fun b o hb nb => k2 _ _ (s1 _ _ hb) nb⟩ (fun _ _ _ _ _ => trivial) ?_ ?_
  · rintro i v σ H3 H4 hi ⟨D, z', rfl, hD, okD, lD, p3, k03⟩ ⟨rfl, rfl⟩
    have fe := fE.fl (cpos (by omega))
    have mle : (num + 10) * i ≤ 110 * 11 := Nat.mul_le_mul (by omega) (by omega)
    obtain ⟨Es, e1, e2, e3⟩ := hD.ex
    have lE : Es.length = D.length := by rw [← e1, List.length_map]
    walk_at "go"
    refine ⟨g, _, q, ls, fn, c, num, rfl, p3, by omega, fl0.pen pH k03, fe, mc, lc, fun h a s0 b H5 hh ma hs la p5 k5 => ?_⟩
    have e5 := k5 _ _ e2 nf1
    walk_at "go"
    refine v_app e5 (by rw [List.length_map]; omega) fun H6 k6 e6 => ?_
    refine ⟨D ++ [⟨a, s0, b⟩], _, rfl, ⟨Es ++ [(⟨a, s0, b⟩, h)], by rw [List.map_append, e1]; rfl, by rw [e6]; unfold refV; rw [List.map_append]; rfl, fun e he => ?_⟩, fun v hv => ?_, by rw [List.length_append, lD]; rfl, (p5.keepD nf1 nf2 k6).mono (by rw [Nat.mul_succ]; omega), kfd (fun b o hb nb => k5 _ _ (k03 _ _ hb nb) nb) k6⟩
    · rcases List.mem_append.mp he with he | he
      · have em : e.1 ∈ D := by rw [← e1]; exact List.mem_map.mpr ⟨e, he, rfl⟩
        exact (HalfD.pen (e3 e he) p3 k5).keepL (okD _ em).2.1 e5 k6
      · rw [List.mem_singleton.mp he]
        exact HalfD.keepL hh hs e5 k6
    · rcases List.mem_append.mp hv with hv | hv
      · exact okD v hv
      · rw [List.mem_singleton.mp hv]
        exact ⟨ma, hs, la⟩
  rintro σ H3 ⟨D, z', rfl, hD, okD, lD, p3, k03⟩
  have mle : (num + 10) * cnt ≤ 110 * 11 := Nat.mul_le_mul (by omega) (by omega)
  obtain ⟨m3, p3, hm3⟩ : ∃ m, PenAt g H3 m ∧ m ≤ n + 1500 := ⟨_, p3, by omega⟩
  walk_at "go"
  refine s_cut (fun σ' H' => ∃ D z, σ' = [some (.ref g.p), some (.ref q), some (.str (tx c)), some (.int (many : Nat)), some (.int (num : Nat)), some (.ref fd), z, none] ∧ HdsL ls fn H' fd D ∧ (∀ v ∈ D, HvOk ls (c.length + num) v) ∧ D.length ≤ many + 1 ∧ PenAt g H' (m3 + 5) ∧ Keep g.p H H') ?_ ?_
  · obtain ⟨Es, e1, e2, e3⟩ := hD.ex
    have lE : Es.length = D.length := by rw [← e1, List.length_map]
    walk_at "go"
    intro q1 H4 hq1 s4 eq1
    cases Es with
    | nil =>
      refine v_neLsame (As := []) (s4 _ _ e2) eq1 ?_
      refine ⟨_, rfl, ?_⟩
      walk_at "go"
      exact ⟨D, _, rfl, hD.keep s4, okD, by omega, (p3.same s4).mono (by omega), fun b o hb nb => s4 _ _ (k03 _ _ hb nb)⟩
    | cons e0 Es =>
      refine v_neL (s4 _ _ e2) eq1 (by simp) ?_
      refine ⟨_, rfl, ?_⟩
      walk_at "go"
      refine ⟨g, 4, _, rfl, by omega, by omega, p3.same s4, by omega, fun z2 H5 _ _ p5 k5 => ?_⟩
      walk_at "go"
      have e5 := k5 _ _ (s4 _ _ e2) nf1
      have k05 : Keep g.p H H5 := fun b o hb nb => k5 _ _ (s4 _ _ (k03 _ _ hb nb)) nb
      have h5 : ∀ e ∈ e0 :: Es, HdAt ls fn H5 e.2 e.1 := fun e he => (HalfD.same (e3 e he) s4).pen (p3.same s4) k5
      refine if_dec (fun _ => ?_) (fun _ => ?_)
      · walk_at "go"
        refine ⟨g, _, .ref fd, _, rfl, .inl ⟨fd, rfl, e5⟩, by simp, by rw [List.length_map]; omega, p5, by omega, fun u H6 hu' p6 k6 => ?_⟩
        obtain ⟨e, he, rfl⟩ := List.mem_map.mp hu'
        have e6 := k6 _ _ e5 nf1
        have em : e.1 ∈ D := by rw [← e1]; exact List.mem_map.mpr ⟨e, he, rfl⟩
        walk_at "go"
        refine v_app e6 (by rw [List.length_map]; omega) fun H7 k7 e7 => ?_
        refine ⟨D ++ [e.1], _, rfl, ⟨e0 :: Es ++ [e], by rw [List.map_append, e1]; rfl, by rw [e7]; unfold refV; rw [List.map_append]; rfl, fun e' he' => ?_⟩, fun v hv => ?_, by rw [List.length_append, lD, List.length_singleton]; omega, (p6.keepD nf1 nf2 k7).mono (by omega), kfd (fun b o hb nb => k6 _ _ (k05 _ _ hb nb) nb) k7⟩
        · have key : ∀ e' ∈ e0 :: Es, HdAt ls fn H7 e'.2 e'.1 := fun e' he' => by
            have em' : e'.1 ∈ D := by rw [← e1]; exact List.mem_map.mpr ⟨e', he', rfl⟩
            exact ((h5 e' he').pen p5 k6).keepL (okD _ em').2.1 e6 k7
          rcases List.mem_append.mp he' with z | z
          · exact key e' z
          · rw [List.mem_singleton.mp z]
            exact key e he
        · rcases List.mem_append.mp hv with z | z
          · exact okD v z
          · rw [List.mem_singleton.mp z]
            exact okD _ em
      · walk_at "go"
        exact ⟨D, _, rfl, ⟨e0 :: Es, e1, e5, h5⟩, okD, by omega, p5.mono (by omega), k05⟩
  rintro σ' H4 ⟨D, z', rfl, hD, okD, lD, p4, k04⟩
  clear p3 k03
  walk_at "go"
  refine s_cut (fun σ' H' => ∃ D z, σ' = [some (.ref g.p), some (.ref q), some (.str (tx c)), some (.int (many : Nat)), some (.int (num : Nat)), some (.ref fd), z', z] ∧ HdsL ls fn H' fd D ∧ (∀ v ∈ D, HvOk ls (c.length + num) v) ∧ D.length ≤ many + 1 ∧ PenAt g H' (m3 + 10) ∧ Keep g.p H H') ?_ ?_
  · obtain ⟨Es, e1, e2, e3⟩ := hD.ex
    have lE : Es.length = D.length := by rw [← e1, List.length_map]
    walk_at "go"
    intro q1 H5 hq1 s5 eq1
    cases Es with
    | nil =>
      refine v_neLsame (As := []) (s5 _ _ e2) eq1 ?_
      refine ⟨_, rfl, ?_⟩
      walk_at "go"
      exact ⟨D, _, rfl, hD.keep s5, okD, lD, (p4.same s5).mono (by omega), fun b o hb nb => s5 _ _ (k04 _ _ hb nb)⟩
    | cons e0 Es =>
      refine v_neL (s5 _ _ e2) eq1 (by simp) ?_
      refine ⟨_, rfl, ?_⟩
      walk_at "go"
      refine ⟨g, 6, _, rfl, by omega, by omega, p4.same s5, by omega, fun z2 H6 _ _ p6 k6 => ?_⟩
      walk_at "go"
      have e6 := k6 _ _ (s5 _ _ e2) nf1
      have k06 : Keep g.p H H6 := fun b o hb nb => k6 _ _ (s5 _ _ (k04 _ _ hb nb)) nb
      have h6 : ∀ e ∈ e0 :: Es, HdAt ls fn H6 e.2 e.1 := fun e he => (HalfD.same (e3 e he) s5).pen (p4.same s5) k6
      refine if_dec (fun _ => ?_) (fun _ => ?_)
      · walk_at "go"
        have lr : (refV (e0 :: Es)).length = D.length := by rw [List.length_map, lE]
        have lpos : 0 < D.length := by rw [← lE]; simp
        rw [lr]
        refine ⟨g, ((D.length : Nat) : Int), _, rfl, by omega, by omega, p6, by omega, fun z3 H7 z30 z31 p7 k7 => ?_⟩
        obtain ⟨j, rfl⟩ : ∃ j : Nat, z3 = j := ⟨z3.toNat, by omega⟩
        have hj : j < (e0 :: Es).length := by rw [lE]; omega
        have hE : (e0 :: Es)[j]? = some (e0 :: Es)[j] := List.getElem?_eq_getElem hj
        generalize (e0 :: Es)[j] = ej at hE
        have ejm := List.mem_of_getElem? hE
        have em : ej.1 ∈ D := by rw [← e1]; exact List.mem_map.mpr ⟨ej, ejm, rfl⟩
        have e7 := k7 _ _ e6 nf1
        have h7 : ∀ e ∈ e0 :: Es, HdAt ls fn H7 e.2 e.1 := fun e he => (h6 e he).pen p6 k7
        have aj : atI (refV (e0 :: Es)) ((j : Nat) : Int) = some (.ref ej.2) := atI_nat (by rw [List.getElem?_map, hE]; rfl)
        walk_at "go"
        show tAsg (tCall spTurnH [] E0 (tCons (tOp (rIxL K) (tVar 5) (tVar 7)) tNil)) (gSub (tVar 5) (tVar 7) rSetL) _ _ _
        refine s_asgSub ?_
        walk_at "go"
        refine v_ixL e7 aj ?_
        walk_at "go"
        refine ⟨ej.2, ls, fn, ej.1.a, ej.1.s, ej.1.b, rfl, h7 ej ejm, fun h8 H8 hh8 s8 z8 => ?_⟩
        walk_at "go"
        refine v_setLs (s8 _ _ e7) (by rw [lr, ← lE]; exact hj) fun H9 k9 e9 => ?_
        obtain ⟨nv, hnv⟩ : ∃ nv : Hv, nv = ⟨ej.1.a, ej.1.s, !ej.1.b⟩ := ⟨_, rfl⟩
        refine ⟨D.set j nv, _, rfl, ⟨(e0 :: Es).set j (nv, h8), by rw [List.map_set, e1], by rw [e9]; unfold refV; rw [List.map_set], fun e he => ?_⟩, fun v hv => ?_, by rw [List.length_set]; exact lD, ((p7.same s8).keepD nf1 nf2 k9).mono (by omega), kfd (fun b o hb nb => s8 _ _ (k7 _ _ (k06 _ _ hb nb) nb)) k9⟩
        · rcases List.mem_or_eq_of_mem_set he with z | z
          · have em' : e.1 ∈ D := by rw [← e1]; exact List.mem_map.mpr ⟨e, z, rfl⟩
            exact (HalfD.same (h7 e z) s8).keepL (okD _ em').2.1 (s8 _ _ e7) k9
          · rw [z, hnv]
            exact z8.keepL (okD _ em).2.1 (s8 _ _ e7) k9
        · rcases List.mem_or_eq_of_mem_set hv with z | z
          · exact okD v z
          · rw [z, hnv]
            exact okD ej.1 em
      · walk_at "go"
        exact ⟨D, _, rfl, ⟨e0 :: Es, e1, e6, h6⟩, okD, lD, p6.mono (by omega), k06⟩
  rintro σ' H5 ⟨D, z, rfl, hD, okD, lD, p5, k05⟩
  walk_at "go"
  exact k fd D H5 hfd hD okD lD (p5.mono (by omega)) k05
end
end
section
open PySem PySem.Spec L2
theorem OwnR.congr {f : Nat → List Nat} {ls : List Nat} {S S' : List Sd} {o : Option (List Sd)} (h : OwnR f ls S o) (e : ∀ d, d ∈ S ↔ d ∈ S') : OwnR f ls S' o := by
  refine ⟨fun p => ?_, fun p => h.2 fun z => p ((Pw.congr e).mp z)⟩
  obtain ⟨R, r1, r2⟩ := h.1 ((Pw.congr e).mpr p)
  exact ⟨R, ⟨r1.asc, r1.nd, fun d => (r1.mem d).trans (e d)⟩, r2⟩
theorem HalfOn.hv {HC W R C : Addr} {H : Hp} {h : Addr} {ls : List Nat} {f : Nat → List Nat} {v : Hv} (z : HalfOn HC W R C H h ls f v.a v.s v.b) : HvEq C HC W R ls f H h (v.sd f) := by
  obtain ⟨wa, r, x, h1, h2⟩ := z.ex
  exact ⟨x, ⟨wa, r, h1⟩, h2⟩
theorem HvEq.pen {C HC W R : Addr} {ls : List Nat} {f : Nat → List Nat} {H H' : Hp} {h : Addr} {d : Sd} {g : Pen} {n : Nat} (z : HvEq C HC W R ls f H h d) (p : PenAt g H n) (kp : Keep g.p H H') : HvEq C HC W R ls f H' h d := by
  obtain ⟨x, ⟨wa, r, ha⟩, pl⟩ := z
  obtain ⟨dx, t, e1, e2⟩ := ha.ex
  obtain ⟨_, _, h1, _⟩ := p.ex
  exact ⟨x, ⟨wa, r, ⟨⟨dx, t, kp _ _ e1 (ne_of e1 h1 (by intro z; cases z)), kp _ _ e2 (ne_of e2 h1 (by intro z; cases z))⟩, ha.wall.pen p kp⟩⟩, pl.pen p kp⟩
theorem HvEq.keepL {C HC W R : Addr} {ls : List Nat} {f : Nat → List Nat} {H H' : Hp} {h : Addr} {d : Sd} {D : Addr} {l : List V} (z : HvEq C HC W R ls f H h d) (e : H D = some (.lst l)) (k : Keep D H H') : HvEq C HC W R ls f H' h d := by
  obtain ⟨x, ⟨wa, r, ha⟩, pl⟩ := z
  obtain ⟨dx, t, e1, e2⟩ := ha.ex
  obtain ⟨dw, ew⟩ := ha.wall.ex
  obtain ⟨dr, er⟩ := ha.wall.ro.ex
  obtain ⟨dp, tp, dq, a1, a2, a3⟩ := pl.ex
  have kk : ∀ {b : Addr} {o : HO}, H b = some o → (∀ l, o ≠ .lst l) → H' b = some o := fun hb hc => k _ _ hb (ne_of hb e (hc l))
  exact ⟨x, ⟨wa, r, ⟨⟨dx, t, kk e1 (fun _ z => nomatch z), kk e2 (fun _ z => nomatch z)⟩, ⟨⟨dw, kk ew (fun _ z => nomatch z)⟩, ⟨dr, kk er (fun _ z => nomatch z)⟩⟩⟩⟩, ⟨dp, tp, dq, kk a1 (fun _ z => nomatch z), kk a2 (fun _ z => nomatch z), kk a3 (fun _ z => nomatch z)⟩⟩
theorem LotAt.pen {L HC W R : Addr} {H H' : Hp} {l x : Addr} {o : Option (List Sd)} {g : Pen} {n : Nat} (h : LotAt L HC W R H l x o) (p : PenAt g H n) (kp : Keep g.p H H') : LotAt L HC W R H' l x o := by
  obtain ⟨dx, v, q, e1, e2, ⟨E, g1, g2, g3⟩⟩ := h.ex
  obtain ⟨_, _, h1, _⟩ := p.ex
  have kk : ∀ {b : Addr} {o : HO}, H b = some o → (∀ l, o ≠ .dK l) → H' b = some o := fun hb hc => kp _ _ hb (ne_of hb h1 (hc _))
  refine ⟨dx, v, q, kk e1 (fun _ z => nomatch z), ?_, ⟨E, g1, kk g2 (fun _ z => nomatch z), fun e he => ?_⟩⟩
  · cases o with
    | none => exact e2
    | some D =>
      obtain ⟨t, e, ⟨F, f1, f2, f3⟩⟩ := e2
      exact ⟨t, e, ⟨F, f1, kk f2 (fun _ z => nomatch z), fun c hc => kk (f3 c hc) (fun _ z => nomatch z)⟩⟩
  · obtain ⟨wa, r, ha⟩ := g3 e he
    obtain ⟨dh, t, e1, e2⟩ := ha.ex
    exact ⟨wa, r, ⟨⟨dh, t, kk e1 (fun _ z => nomatch z), kk e2 (fun _ z => nomatch z)⟩, ha.wall.pen p kp⟩⟩
def spAsLot (K : PySem.W.Frag) (C R W HC L : Addr) : Sp := fun vs H Q _ => ∃ (g : Pen) (n : Nat) (x t : Addr) (ls : List Nat) (f : Nat → List Nat) (D : List Hv), vs = [.ref g.p, .ref x, .ref t] ∧ PenAt g H n ∧ n < 700000 ∧ PlanAt C H x (ascOf ls) (tabPairs ls f) ∧ FlE ls f ∧ HdsL ls f H t D ∧ (∀ v ∈ D, HvOk ls 100 v) ∧ D.length ≤ 12 ∧ Apart5 C R W HC L ∧
  ∀ l o H', OwnR f ls (D.map (Hv.sd f)) o → LotAt L HC W R H' l x o → PenAt g H' (n + 100) → Keep g.p H H' → Q (.ref l) H'
section
variable {P : Program} {w : World} {K : PySem.W.Frag} {mg : Str → Option Value} {base : Heap} {C R O W HC L e0 : Addr}
abbrev stasLot : Stmt := (top 99)
abbrev NasLot : List Str := ["_law_pen", "_law_plan", "_law_halves", "_law_some", "_law_half"]
theorem scasLot : FnScope NasLot ["_law_pen", "_law_plan", "_law_halves"] (defScope stasLot) := ⟨rfl, rfl, rfl, by decide +kernel, rfl, by decide +kernel, by decide +kernel⟩

theorem ok_asLot (F : FnAt K mg "_law_as_lot" stasLot) (T : TxtLot K mg C R O W HC L) (kt : ∀ H : Hp, SeqO K H e0 []) (D_draw : Def P w K mg base CX0 1 "_law_draw" ["_law_pen", "_law_span"] spDraw) (D_shuffled : Def P w K mg base CX0 2 "_law_shuffled" ["_law_pen", "_law_some"] spShuf2) (D_as_half : Def P w K mg base CX0 8 "_law_as_half" ["_law_pen", "_law_plan", "_law_half"] (spAsHalf C R W HC)) (C_Lot : CDef P w K mg base CX0 10 "Lot" L (spLot K C R W HC L)) (C_Lot_1 : CDefN P w K mg base CX0 10 "Lot" L (spLot K C R W HC L) 1 [] [.pos 0, .dfl 0] [.ref e0]) :
    Def P w K mg base CX0 12 "_law_as_lot" ["_law_pen", "_law_plan", "_law_halves"] (spAsLot K C R W HC L) := by
  refine F.ok scasLot (fun _ _ _ _ _ _ us hl => match us, hl with | [_, _, _], _ => rfl) (fun vs H Q E h => ?_) (fun f cdv A outer s H vs Q E hr h => ?_)
  · obtain ⟨g, n, x, t, ls, f, D, rfl, _⟩ := h
    rfl
  obtain ⟨g, n, x, t, ls, fn, D, rfl, p0, hn, pl, fE, hD, okD, lD, ap, k⟩ := h
  have hu := hu_of hr
  have nd := scasLot.nd
  replace D_draw := D_draw.mono (show 1 ≤ 11 by decide)
  replace D_shuffled := D_shuffled.mono (show 2 ≤ 11 by decide)
  replace D_as_half := D_as_half.mono (show 8 ≤ 11 by decide)
  refine ⟨_, (pss_cons (ps_setLc (i := 3) (own := [("_law_half", 4)]) (g := gName 4) (by rfl) nd rfl rfl (sw_true rfl rfl rfl (by decide +kernel)) (pi_listK (K := K) rfl (pe_cd D_shuffled hr pass0 (pa_cons (pv 0) (pa_cons (pv 2) pa_nil)))) (blkOk_by (own := [("_law_half", 4)]) (N := NasLot) (sc := defScope stasLot) (by decide +kernel)) (fun _ _ _ _ _ => (pg_name (i := 4) nd rfl (Or.inl rfl))) (fun _ _ _ _ _ => pts_nil) (fun _ _ _ _ _ => (pe_cd D_as_half hr pass0 (pa_cons (pv 0) (pa_cons (pv 1) (pa_cons (pv 4) pa_nil))))))
      (pss_one (ps_ret (pe_ifExp (PW.pt (pw_or (pt_cmpR (op_neL (K := K) rfl (Nat.lt_of_le_of_lt (Nat.le_add_right _ 64) hr.units)) (pv 3) (pe_lst pa_nil) (nomark _)) (pw_or1 (pt_cmpR op_eq (pe_cd D_draw hr pass0 (pa_cons (pv 0) (pa_cons pe_int pa_nil))) pe_int (nomark _))))) (pe_mk C_Lot hr pass0 (pa_cons (pv 1) (pa_cons (pv 3) pa_nil))) (pe_mkN C_Lot_1 hr pass0 (pa_cons (pv 1) pa_nil) pk_nil))))), ?_⟩
  refine s_start [some _, some _, some _, none, none] rfl ?_
  obtain ⟨Es, e1, e2, e3⟩ := hD.ex
  have lE : Es.length = D.length := by rw [← e1, List.length_map]
  walk_at "go"
  refine ⟨g, n, .ref t, _, rfl, .inl ⟨t, rfl, e2⟩, by rw [List.length_map]; omega, p0, by omega, fun sh ys H1 hsh pm ey p1 k1 => ?_⟩
  obtain ⟨G, pG, rfl⟩ := perm_map_ex pm rfl
  have lG : G.length = D.length := by rw [pG.length_eq, lE]
  have h1 : ∀ e ∈ G, HdAt ls fn H1 e.2 e.1 := fun e he => (e3 e (pG.mem_iff.mp he)).pen p0 k1
  have oG : ∀ e ∈ G, HvOk ls 100 e.1 := fun e he => okD _ (by rw [← e1]; exact List.mem_map.mpr ⟨e, pG.mem_iff.mp he, rfl⟩)
  walk_at "go"
  refine lc_refsP (K := K) (E := G) (c := 2) (R' := fun H v d => ∃ h, v = .ref h ∧ HvEq C HC W R ls fn H h (d.sd fn)) p1 ey (by omega) (fun v d H2 H3 m ⟨h, e, z⟩ pm k => ⟨h, e, z.pen pm k⟩) (fun v d H2 H3 D' l' ⟨h, e, z⟩ e0 kp => ⟨h, e, z.keepL e0 kp⟩) (fun e he H2 R r => ?_) (fun j e he H2 k2 p2 R r => ?_) (fun D2 H2 vs hD2 k2 p2 eD2 l2 r2 => ?_)
  · walk_at "go"
    exact r
  · have em := List.mem_of_getElem? he
    have hj : j < G.length := (List.getElem?_eq_some_iff.mp he).1
    obtain ⟨o1, o2, o3⟩ := oG e em
    have fl := fE.fl (List.length_pos_of_mem o2)
    walk_at "go"
    refine ⟨g, _, x, e.2, ls, fn, e.1.a, e.1.s, e.1.b, rfl, p2, by rw [List.length_map, lE]; omega, (pl.pen p0 k1).pen p1 k2, fl, (h1 e em).pen p1 k2, o1, o2, by omega, ap.hw, ap.hr, fun h H3 hh p3 k3 => ?_⟩
    exact r _ H3 k3 (p3.mono (by omega)) ⟨h, rfl, HalfOn.hv (v := e.1) hh⟩
  obtain ⟨G2, g1, rfl, g3⟩ := refs_of (R := HvEq C HC W R ls fn) (H := H2) (D := G.map fun e => e.1.sd fn) (by rw [l2, List.length_map]) fun j v d h1 h2 => by
    rw [List.getElem?_map] at h2
    obtain ⟨e, he, rfl⟩ := Option.map_eq_some_iff.mp h2
    exact r2 j v e h1 he
  have k12 : Keep g.p H H2 := fun b o hb nb => k2 _ _ (k1 _ _ hb nb) nb
  have lG2 : G2.length = D.length := by
    have := congrArg List.length g1
    rw [List.length_map, List.length_map] at this
    omega
  have eS : ∀ d, d ∈ (G.map fun e => e.1.sd fn) ↔ d ∈ D.map (Hv.sd fn) := fun d => by
    rw [← e1, List.map_map]
    constructor
    · intro h
      obtain ⟨e, he, rfl⟩ := List.mem_map.mp h
      exact List.mem_map.mpr ⟨e, pG.mem_iff.mp he, rfl⟩
    · intro h
      obtain ⟨e, he, rfl⟩ := List.mem_map.mp h
      exact List.mem_map.mpr ⟨e, pG.mem_iff.mpr he, rfl⟩
  have okS : ∀ d ∈ (G.map fun e => e.1.sd fn), SdOk fn ls d ∧ d.m.length ≤ 100 := fun d hd => by
    obtain ⟨e, he, rfl⟩ := List.mem_map.mp hd
    exact ⟨(oG e he).sd, (oG e he).len fE.ok⟩
  have lS : (G.map fun e => e.1.sd fn).length ≤ 12 := by rw [List.length_map]; omega
  have pn : PenAt g H2 (n + 50) := p2.mono (by rw [List.length_map, lE]; omega)
  have fin : ∀ {H3 : Hp} {m : Nat}, PenAt g H3 m → m ≤ n + 60 → Keep g.p H2 H3 → ∀ {t' : Addr} {S : List Sd}, LotArg K C R W HC H3 x t' ls fn S → (∀ d, d ∈ S ↔ d ∈ D.map (Hv.sd fn)) → spLot K C R W HC L [.ref x, .ref t'] H3 Q E0 := fun {H3 m} p3 hm k3 {t' S} la es => by
    refine ⟨x, t', ls, fn, S, rfl, la, ap, fun l o H4 hl s4 ow lt => ?_⟩
    exact k l o H4 (ow.congr es) lt ((p3.same s4).mono (by omega)) fun b o hb nb => s4 _ _ (k3 _ _ (k12 _ _ hb nb) nb)
  have pl2 := pl.pen p0 k12
  walk_at "go"
  intro q1 H3 hq1 s3 eq1
  have la3 : ∀ {H4 : Hp}, Keep g.p H2 H4 → LotArg K C R W HC H4 x D2 ls fn (G.map fun e => e.1.sd fn) := fun {H4} k4 => ⟨pl2.pen p2 k4, fE, ⟨G2, g1, .inl (k4 _ _ eD2 (p2.lst_ne eD2)), fun e he => (g3 e he).pen p2 k4⟩, okS, lS⟩
  cases G2 with
  | cons b0 G2 =>
    refine v_neL (s3 _ _ eD2) eq1 (by simp) ?_
    refine ⟨_, rfl, ?_⟩
    walk_at "go"
    exact fin (pn.same s3) (by omega) (Keep.of s3) (la3 (Keep.of s3)) eS
  | nil =>
    refine v_neLsame (As := []) (s3 _ _ eD2) eq1 ?_
    refine ⟨_, rfl, ?_⟩
    walk_at "go"
    refine ⟨g, 2, _, rfl, by omega, by omega, pn.same s3, by omega, fun z4 H4 _ _ p4 k4 => ?_⟩
    have k24 : Keep g.p H2 H4 := fun b o hb nb => k4 _ _ (s3 _ _ hb) nb
    walk_at "go"
    refine if_dec (fun _ => ?_) (fun _ => ?_)
    · walk_at "go"
      exact fin p4 (by omega) k24 (la3 k24) eS
    · walk_at "go2"
      have eG : (G.map fun e => e.1.sd fn) = [] := g1.symm
      rw [eG] at eS
      exact fin p4 (by omega) k24 ⟨pl2.pen p2 k24, fE, ⟨[], rfl, kt _, fun _ z => nomatch z⟩, (fun _ z => nomatch z), by decide⟩ eS
end
end
section
open PySem PySem.Spec L2
structure TxtAl2 (K : PySem.W.Frag) (mg : Str → Option Value) (C R O W HC L : Addr) : Prop extends TxtLot K mg C R O W HC L where
  sR : PySem.W.kitOne K (.type "str") (.ref R) = some false
  sL : PySem.W.kitOne K (.type "str") (.ref L) = some false
  CR : PySem.W.kitOne K (.ref C) (.ref R) = some false
  CL : PySem.W.kitOne K (.ref C) (.ref L) = some false
  RL : PySem.W.kitOne K (.ref R) (.ref L) = some false
  LR : PySem.W.kitOne K (.ref L) (.ref R) = some false
/-- neither a room nor a lot, whatever is made meanwhile -/
def NoRL (K : PySem.W.Frag) (R L : Addr) (H : Hp) (v : V) : Prop := ∀ H', Same H H' → ∃ t, TyX K H' v t ∧ PySem.W.kitOne K t (.ref R) = some false ∧ PySem.W.kitOne K t (.ref L) = some false
section
variable {K : PySem.W.Frag} {mg : Str → Option Value} {C R O W HC L : Addr} {H : Hp}
theorem noRL_ty (T : TxtAl2 K mg C R O W HC L) {v : V} {t : String} (h : ∀ H', Same H H' → TyX K H' v (.type t)) (m : ((fastBuiltinMro t).map fun l => l.all isTyV) = some true) : NoRL K R L H v := fun H' s => ⟨_, h H' s, kit_own T.sR (fun z => nomatch z) m, kit_own T.sL (fun z => nomatch z) m⟩
/-- an item of the list -/
def AlV2 (K : PySem.W.Frag) (C R W HC L : Addr) (H : Hp) (ls : List Nat) (fn : Nat → List Nat) (v : V) : Prop :=
  NoRL K R L H v ∨ (∃ r y ks ps n, v = .ref r ∧ RoomAt R H r y n ∧ PlanAt C H y ks ps ∧ PsOk ps ∧ ¬ (ks = ascOf ls ∧ ps = tabPairs ls fn)) ∨
  ∃ l y ks ps o, v = .ref l ∧ LotAt L HC W R H l y o ∧ PlanAt C H y ks ps ∧ PsOk ps ∧ ¬ (ks = ascOf ls ∧ ps = tabPairs ls fn) ∧ ∀ d ∈ o.getD [], SdSmall d
def spAlone2 (C R W HC L : Addr) : Sp := fun vs H Q _ => ∃ (x l : Addr) (ls : List Nat) (fn : Nat → List Nat) (o : Option (List Sd)), vs = [.ref x, .ref l] ∧ FlE ls fn ∧ PlanAt C H x (ascOf ls) (tabPairs ls fn) ∧ LotAt L HC W R H l x o ∧ (∀ d ∈ o.getD [], SdOk fn ls d ∧ d.m.length ≤ 100) ∧ (o.getD []).length ≤ 12 ∧ Apart5 C R W HC L ∧
  ∀ H', Same H H' → Q (.bl true) H'
end
def crossAB (c : Nat) : List Nat := if c = 97 then [98] else if c = 98 then [97] else []
theorem crossAB_fl : FlE [97, 98] crossAB := by
  refine ⟨⟨by decide, by decide, by decide, by decide, by decide⟩, ⟨fun a b h => ?_, fun a h => ?_⟩, by decide⟩
  · unfold crossAB at h
    split at h
    · simp at h; subst h; subst b; decide
    split at h
    · simp at h; subst h; subst b; decide
    · exact nomatch h
  · unfold crossAB at h
    split at h
    · simp at h; omega
    split at h
    · simp at h; omega
    · exact nomatch h
theorem SdOk.small {f : Nat → List Nat} {ls : List Nat} {d : Sd} (h : SdOk f ls d) (lt : ∀ c ∈ ls, c ∈ LET) : SdSmall d := by
  have let_lt : ∀ c ∈ LET, c < 1000 := by decide
  exact ⟨fun c hc => let_lt c (lt c (h.mem c hc)), let_lt _ (lt _ h.hk)⟩
section
variable {P : Program} {w : World} {K : PySem.W.Frag} {mg : Str → Option Value} {base : Heap} {C R O W HC L e0 eL : Addr}
abbrev stalone : Stmt := (top 101)
abbrev Nalone : List Str := ["_law_plan", "_law_made", "_law_strange", "_law_others", "_law_value"]
theorem scalone : FnScope Nalone ["_law_plan", "_law_made"] (defScope stalone) := ⟨rfl, rfl, rfl, by decide +kernel, rfl, by decide +kernel, by decide +kernel⟩

theorem ok_alone2 (F : FnAt K mg "_law_is_alone" stalone) (T : TxtAl2 K mg C R O W HC L) (kt : ∀ H : Hp, SeqO K H e0 []) (kL : ∀ H : Hp, SeqO K H eL []) (C_Plan : CDef P w K mg base CX0 3 "Plan" C (spPlan K C)) (C_Plan_1 : CDefN P w K mg base CX0 3 "Plan" C (spPlan K C) 1 [] [.pos 0, .dfl 0] [.ref e0]) (C_Room_1 : CDefN P w K mg base CX0 3 "Room" R (spRoom C R) 1 [] [.pos 0, .dfl 0] [.str (tx [])]) (C_Lot_1 : CDefN P w K mg base CX0 10 "Lot" L (spLot K C R W HC L) 1 [] [.pos 0, .dfl 0] [.ref eL]) (M_Plan_eq : MDef P w K mg base CX0 1 C "__eq__" ["self", "other"] (spPlanEq C))
    (M_Lot_contains : MDef P w K mg base CX0 6 L "__contains__" ["self", "value"] (spLotIn C R W HC L)) (M_Lot_inN : MDef P w K mg base CX0 6 L "__contains__" ["self", "value"] (spLotInN K R L HC W)) (M_Lot_eq : MDef P w K mg base CX0 3 L "__eq__" ["self", "other"] (spLotEq C R W HC L)) (M_Lot_eqN : MDef P w K mg base CX0 3 L "__eq__" ["self", "other"] (spLotEqN K L)) : Def P w K mg base CX0 12 "_law_is_alone" ["_law_plan", "_law_made"] (spAlone2 C R W HC L) := by
  refine F.ok scalone (fun _ _ _ _ _ _ us hl => match us, hl with | [_, _], _ => rfl) (fun vs H Q E h => ?_) (fun f cdv A outer s H vs Q E hr h => ?_)
  · obtain ⟨x, l, ls, fn, o, rfl, _⟩ := h
    rfl
  obtain ⟨x, l, ls, fn, o, rfl, fE, pl, hl, okD, lD, ap, k⟩ := h
  have hu := hu_of hr
  have nd := scalone.nd
  replace C_Plan := C_Plan.mono (show 3 ≤ 10 by decide)
  replace C_Plan_1 := C_Plan_1.mono (show 3 ≤ 10 by decide)
  replace C_Room_1 := C_Room_1.mono (show 3 ≤ 10 by decide)
  replace M_Plan_eq := M_Plan_eq.mono (show 1 ≤ 11 by decide)
  replace M_Lot_contains := M_Lot_contains.mono (show 6 ≤ 11 by decide)
  replace M_Lot_inN := M_Lot_inN.mono (show 6 ≤ 11 by decide)
  replace M_Lot_eq := M_Lot_eq.mono (show 3 ≤ 11 by decide)
  replace M_Lot_eqN := M_Lot_eqN.mono (show 3 ≤ 11 by decide)
  refine ⟨_, (pss_cons (ps_set (i := 2) nd rfl (Or.inl rfl) (pe_mk C_Plan hr pass0 (pa_cons (pe_tx [97, 98] (by decide +kernel)) (pa_cons (pe_lst (pa_cons (pe_tx [97, 98] (by decide +kernel)) pa_nil)) pa_nil))))
      (pss_cutS (ps_if (pt_cmpR (op_cmpM (op := .Eq) (fun _ _ => rfl) M_Plan_eq hr pass0) (pv 0) (pv 2) (nomark _))
      (pss_one (ps_set (i := 2) nd rfl (Or.inl rfl) (pe_mkN C_Plan_1 hr pass0 (pa_cons (pe_tx [97, 98] (by decide +kernel)) pa_nil) pk_nil)))
      pss_nil)
      (pss_cons (ps_set (i := 3) nd rfl (Or.inl rfl) (pe_lst (pa_cons pe_non (pa_cons pe_bl (pa_cons pe_int (pa_cons (pe_tx [] (by decide +kernel)) (pa_cons (pe_tx [97] (by decide +kernel)) (pa_cons (pe_tup pa_nil) (pa_cons (pe_lst pa_nil) (pa_cons pe_dnewK (pa_cons (pe_lst (pa_cons (pe_tx [97] (by decide +kernel)) pa_nil)) (pa_cons (pv 0) (pa_cons (pe_mkN C_Room_1 hr pass0 (pa_cons (pv 2) pa_nil) pk_nil) (pa_cons (pe_mkN C_Lot_1 hr pass0 (pa_cons (pv 2) pa_nil) pk_nil) (pa_cons (pe_flK (K := K) rfl (pv 1) rfl) pa_nil)))))))))))))))
      (pss_one (ps_ret (pe_and (pe_cmpR (op_eqDK (K := K) rfl hr.units) (pe_lc (own := [("_law_value", 4)]) (g := gName 4) (by rfl) nd (pi_listK (K := K) rfl (pv 3)) (blkOk_by (own := [("_law_value", 4)]) (N := Nalone) (sc := defScope stalone) (by decide +kernel)) (fun _ _ _ _ _ => (pg_name (i := 4) nd rfl (Or.inl rfl))) (fun _ _ _ _ _ => (pts_one (PW.pt (pw_or (pt_cmpR (OpR.or (op_inM M_Lot_contains hr pass0) (op_inM M_Lot_inN hr pass0)) (pv 4) (pv 1) (by rfl)) (pw_or1 (pt_cmpR (OpR.or (op_eqMA (K := K) rfl M_Lot_eqN hr pass0) (op_cmpM (op := .Eq) (fun _ _ => rfl) M_Lot_eq hr pass0)) (pv 1) (pv 4) (nomark _))))))) (fun _ _ _ _ _ => (pv 4))) (pe_lst pa_nil) (nomark _)) (pe_one (pe_cmpR (op_notInM M_Lot_inN hr pass0) (pv 1) (pv 1) (by rfl))))))))), ?_⟩
  refine s_start [some _, some _, none, none, none] rfl ?_
  have psk : PsOk (tabPairs ls fn) := pairsOf_small (ls.flatMap fun a => (fn a).map fun b => ascOf [a, b])
  have smD : ∀ d ∈ o.getD [], SdSmall d := fun d hd => (okD d hd).1.small fE.tab.lt
  walk_at "go"
  intro p H1 hp s1 e1
  walk_at "go"
  refine ⟨[97, 98], p, [[97, 98]], rfl, ⟨.inl e1, by decide, ?_, by decide, by decide, by decide⟩, fun y H2 hy s2 py _ => ?_⟩
  · intro z hz
    rw [List.mem_singleton.mp hz]
    exact ⟨97, 98, rfl, by decide, by decide, by decide⟩
  rw [show kindsOf [97, 98] = [97, 98] from by decide +kernel, show prsOf [[97, 98]] = [[97, 98]] from by decide +kernel] at py
  have s12 := s1.trans s2
  have abF : FlE [97, 98] (fun _ => []) := ⟨⟨by decide, by decide, by decide, (fun _ _ _ z => nomatch z), (fun _ _ => by decide)⟩, ⟨(fun _ _ z => nomatch z), (fun _ z => nomatch z)⟩, by decide⟩
  walk_at "go"
  refine s_cut (fun σ H' => ∃ y f', σ = [some (.ref x), some (.ref l), some (.ref y), none, none] ∧ Same H H' ∧ PlanAt C H' y (ascOf [97, 98]) (tabPairs [97, 98] f') ∧ FlE [97, 98] f' ∧ ¬ (ascOf [97, 98] = ascOf ls ∧ tabPairs [97, 98] f' = tabPairs ls fn)) ?_ ?_
  · obtain ⟨dx, t1, t2, a1, _⟩ := (pl.same s12).ex
    obtain ⟨dy, u1, u2, b1, _⟩ := py.ex
    have pok : PsOk [[97, 98]] := by
      have z := pairsOf_small [[97, 98]]
      rwa [show pairsOf [[97, 98]] = [[97, 98]] from by decide +kernel] at z
    walk_at "go"
    refine v_M2 a1 b1 ⟨x, y, _, _, _, _, rfl, pl.same s12, py, psk, pok, ?_⟩
    walk_at "go"
    refine if_bool (fun c => ?_) (fun c => ?_)
    · have c := of_decide_eq_true c
      walk_at "go2"
      refine ⟨[97, 98], e0, [], rfl, ⟨kt _, by decide, (fun z hz => nomatch hz), by decide, by decide, by decide⟩, fun y1 H3 hy1 s3 py1 _ => ?_⟩
      walk_at "go2"
      refine ⟨y1, fun _ => [], rfl, s12.trans s3, ?_, abF, fun z => ?_⟩
      · rw [show tabPairs [97, 98] (fun _ => []) = prsOf [] from by decide +kernel]
        exact py1
      · have z2 := z.2
        rw [c.2, show tabPairs [97, 98] (fun _ => []) = [] from by decide +kernel] at z2
        cases z2
    · have c := of_decide_eq_false c
      walk_at "go"
      refine ⟨y, crossAB, rfl, s12, ?_, crossAB_fl, fun z => c ?_⟩
      · rw [show ascOf [97, 98] = [97, 98] from by decide +kernel, show tabPairs [97, 98] crossAB = [[97, 98]] from by decide +kernel]
        exact py
      · rw [show ascOf [97, 98] = [97, 98] from by decide +kernel, show tabPairs [97, 98] crossAB = [[97, 98]] from by decide +kernel] at z
        exact ⟨z.1.symm, z.2.symm⟩
  clear py s12 s1 s2 e1
  rintro σ H3 ⟨y, f', rfl, s3, py3, fE', ne3⟩
  have pok3 : PsOk (tabPairs [97, 98] f') := pairsOf_small ([97, 98].flatMap fun a => (f' a).map fun b => ascOf [a, b])
  walk_at "go2"
  intro t0 H4 ht0 s4 e4
  walk_at "go2"
  intro l0 H5 hl0 s5 e5
  walk_at "go2"
  intro d0 H6 hd0 s6 e6
  walk_at "go2"
  intro l1 H7 hl1 s7 e7
  walk_at "go2"
  refine ⟨y, _, _, [], rfl, py3.same (((s4.trans s5).trans s6).trans s7), (fun z hz => nomatch hz), by simp, fun r H8 hr8 s8 ro8 => ?_⟩
  have s38 := (((s4.trans s5).trans s6).trans s7).trans s8
  walk_at "go2"
  refine ⟨y, eL, [97, 98], f', [], rfl, ⟨py3.same s38, fE', ⟨[], rfl, kL _, fun _ z => nomatch z⟩, (fun _ z => nomatch z), by decide⟩, ap, fun l2 o2 H9 hl2 s9 ow2 lt2 => ?_⟩
  have s08 := s3.trans s38
  have s09 := s08.trans s9
  obtain ⟨dx, v, q, f1, f2, f3⟩ := (hl.keep s09).ex
  walk_at "go2"
  refine v_fld f1 T.Lot.cl T.nLh lotF_h ?_
  walk_at "go2"
  intro Ls H10 hLs s10 e10
  have sm2 : ∀ d ∈ o2.getD [], SdSmall d := fun d hd => by
    cases o2 with
    | none => exact nomatch hd
    | some D => exact nomatch ow2.sub d hd
  have q4 := (((((s5.trans s6).trans s7).trans s8).trans s9).trans s10) _ _ e4
  have q5 := ((((s6.trans s7).trans s8).trans s9).trans s10) _ _ e5
  have q6 := (((s7.trans s8).trans s9).trans s10) _ _ e6
  have q7 := ((s8.trans s9).trans s10) _ _ e7
  obtain ⟨Eh, g1, g2, g3⟩ := f3
  obtain ⟨xs, exs, lxs, hxs⟩ : ∃ xs : List V, H10 Ls = some (.lst xs) ∧ xs.length = 13 ∧ ∀ u ∈ xs, AlV2 K C R W HC L H10 ls fn u := by
    refine ⟨_, e10, rfl, fun u hu' => ?_⟩
    simp only [List.mem_cons, List.not_mem_nil, or_false] at hu'
    obtain ⟨dp, _, _, a1, _⟩ := (pl.same (s09.trans s10)).ex
    rcases hu' with rfl | rfl | rfl | rfl | rfl | rfl | rfl | rfl | rfl | rfl | rfl | rfl | rfl
    · exact .inl (noRL_ty T (t := "NoneType") (fun _ _ => .base .non) (by decide +kernel))
    · exact .inl (noRL_ty T (t := "bool") (fun _ _ => .base (.bl _)) (by decide +kernel))
    · exact .inl (noRL_ty T (t := "int") (fun _ _ => .base (.int _)) (by decide +kernel))
    · exact .inl (noRL_ty T (t := "str") (fun _ _ => .base (.str _)) (by decide +kernel))
    · exact .inl (noRL_ty T (t := "str") (fun _ _ => .base (.str _)) (by decide +kernel))
    · exact .inl (noRL_ty T (t := "tuple") (fun _ s => .base (.tup (s _ _ q4))) (by decide +kernel))
    · exact .inl (noRL_ty T (t := "list") (fun _ s => .base (.lst (s _ _ q5))) (by decide +kernel))
    · exact .inl (noRL_ty T (t := "dict") (fun _ s => .base (.dK (s _ _ q6))) (by decide +kernel))
    · exact .inl (noRL_ty T (t := "list") (fun _ s => .base (.lst (s _ _ q7))) (by decide +kernel))
    · exact .inl fun H' s => ⟨.ref C, .base (.ins (s _ _ a1) T.Plan.cl T.Plan.ha T.Plan.hn T.Plan.ht T.Plan.hm), T.CR, T.CL⟩
    · exact .inr (.inl ⟨r, y, _, _, _, rfl, ro8.same (s9.trans s10), py3.same ((s38.trans s9).trans s10), pok3, ne3⟩)
    · exact .inr (.inr ⟨l2, y, _, _, o2, rfl, lt2.keep s10, py3.same ((s38.trans s9).trans s10), pok3, ne3, sm2⟩)
    · exact .inl (noRL_ty T (t := "tuple") (fun _ s => .base (.tup (s _ _ (s10 _ _ g2)))) (by decide +kernel))
  clear e10
  have s010 := s09.trans s10
  have hl10 := hl.keep s010
  walk_at "go2"
  have Wk : Walk (Itl K Ls) 13 (fun H => SqL K H Ls xs) (fun k H x H' => H' = H ∧ x = xs.getD k .non) := by
    have w := walk_list (K := K) (a := Ls) (xs := xs)
    rw [lxs] at w
    refine w.mono (fun _ z => z) fun i H x H' hi _ y => ⟨y.1, ?_⟩
    rw [List.getD_eq_getElem?_getD, y.2]
    rfl
  refine lc_gen (n := 13) (it := fun k => xs.getD k .non) (b := fun _ => false) (f := fun _ => .non) Wk (fun H' s' => SqL.of (s' _ _ exs)) (by omega) (fun j hj H11 s11 Rr rr => ?_) (fun j hj hf => nomatch hf) (fun D H11 hD s11 e11 => ?_)
  · have h1 := s11 _ _ (s10 _ _ f1)
    have hl11 := hl10.keep s11
    have pl11 := pl.same (s010.trans s11)
    have av : AlV2 K C R W HC L H10 ls fn (xs.getD j .non) := hxs _ (by rw [List.getD_eq_getElem?_getD, List.getElem?_eq_getElem (by omega)]; exact List.getElem_mem _)
    generalize xs.getD j .non = v' at av
    have gL : TyX K H11 (.ref l) (.ref L) := .base (.ins h1 T.Lot.cl T.Lot.ha T.Lot.hn T.Lot.ht T.Lot.hm)
    rcases av with no | ⟨r', y', ks', ps', n', rfl, ro', py', pok', ne'⟩ | ⟨l3, y', ks', ps', o', rfl, lt', py', pok', ne', sm'⟩
    · obtain ⟨t2, ty, kR, kL⟩ := no _ s11
      walk_at "go2"
      refine .inr (v_MIn h1 ⟨l, x, o, v', rfl, hl11, ⟨t2, ty, kR⟩, _, rfl, ?_⟩)
      rw [show (false != false) = false from rfl]
      walk_at "go2"
      refine .inl ⟨l, dx, _, t2, rfl, h1, ty, kit_nf kL, l, v', rfl, ⟨t2, ty, kL⟩, ?_⟩
      walk_at "go2"
      exact rr _ (Same.refl _)
    · obtain ⟨dr, er⟩ := (ro'.same s11).ex
      have ty : TyX K H11 (.ref r') (.ref R) := .base (.ins er T.Room.cl T.Room.ha T.Room.hn T.Room.ht T.Room.hm)
      walk_at "go2"
      refine .inl (v_MIn h1 ⟨l, x, r', y', ls, fn, o, n', false, rfl, hl11, pl11, fE, ro'.same s11, ⟨_, _, _, _, py'.same s11, pl11, pok', psk, (decide_eq_false ne').symm⟩, okD, lD, (fun z => nomatch z), fun H12 s12 => ⟨_, rfl, ?_⟩⟩)
      have h12 := s12 _ _ h1
      rw [Bool.false_and, show (false != false) = false from rfl]
      walk_at "go2"
      refine .inl ⟨l, dx, _, .ref R, rfl, h12, .base (.ins (s12 _ _ er) T.Room.cl T.Room.ha T.Room.hn T.Room.ht T.Room.hm), kit_nf T.RL, l, .ref r', rfl, ⟨_, .base (.ins (s12 _ _ er) T.Room.cl T.Room.ha T.Room.hn T.Room.ht T.Room.hm), T.RL⟩, ?_⟩
      walk_at "go2"
      exact rr _ s12
    · obtain ⟨d2, v2, qq, u1, u2, u3⟩ := (lt'.keep s11).ex
      have ty : TyX K H11 (.ref l3) (.ref L) := .base (.ins u1 T.Lot.cl T.Lot.ha T.Lot.hn T.Lot.ht T.Lot.hm)
      walk_at "go2"
      refine .inr (v_MIn h1 ⟨l, x, o, .ref l3, rfl, hl11, ⟨_, ty, T.LR⟩, _, rfl, ?_⟩)
      rw [show (false != false) = false from rfl]
      walk_at "go2"
      refine .inr (v_M2 h1 u1 ⟨l, x, l3, y', o, o', false, rfl, hl11, lt'.keep s11, ⟨_, _, _, _, pl11, py'.same s11, psk, pok', (decide_eq_false fun z => ne' ⟨z.1.symm, z.2.symm⟩).symm⟩, smD, sm', ?_⟩)
      rw [Bool.false_and]
      walk_at "go2"
      exact rr _ (Same.refl _)
  · have e11 : H11 D = some (.lst []) := by
      rw [e11]
      simp
    walk_at "go2"
    intro N H12 hN s12 e12
    refine ⟨.list [], .list [], .lst (SqL.of (s12 _ _ e11)) .nil, .lst (SqL.of e12) .nil, rfl, rfl, ?_⟩
    rw [show (PyData.list []).eqv (PyData.list []) = true from rfl]
    walk_at "go2"
    have s1112 := s11.trans s12
    have h2 := s1112 _ _ (s10 _ _ f1)
    refine v_MIn h2 ⟨l, x, o, .ref l, rfl, hl10.keep s1112, ⟨.ref L, .base (.ins h2 T.Lot.cl T.Lot.ha T.Lot.hn T.Lot.ht T.Lot.hm), T.LR⟩, _, rfl, ?_⟩
    exact k H12 (s010.trans s1112)
end
end
section
open PySem PySem.Spec L2
theorem v_neNil29 {K : PySem.W.Frag} {H : Hp} {Q : VK} {p q : Addr} (h1 : H p = some (.lst [])) (h2 : H q = some (.lst [])) (k : Q (.bl false) H) : rNeD K (.ref p) (.ref q) H Q := by
  refine ⟨.list [], .list [], .lst (SqL.of h1) .nil, .lst (SqL.of h2) .nil, rfl, rfl, ?_⟩
  exact k
theorem getD_memL29 {l : List (List Nat)} {j : Nat} (h : j < l.length) : l.getD j [] ∈ l := by
  rw [List.getD_eq_getElem?_getD, List.getElem?_eq_getElem h]
  exact List.getElem_mem h
theorem sp_roomE {R C x : Addr} {H : Hp} {Q : VK} {E : XK} {ls w : List Nat} {fn : Nat → List Nat} (fl : FlE ls fn) (pl : PlanAt C H x (ascOf ls) (tabPairs ls fn)) (hw : ∀ c ∈ w, c ∈ ls) (l : w.length ≤ 2000) (q : ∀ r' H', H r' = none → Same H H' → RoomAt R H' r' x (nameOf fn w) → Q (.ref r') H') : spRoom C R [.ref x, .str (tx w)] H Q E := by
  refine ⟨x, _, _, w, rfl, pl, inAsc fl.tab hw, l, fun r' H' h s ro => q r' H' h s ?_⟩
  rw [joinOf_tab fl.tab (name := []) (by simp) hw] at ro
  exact ro
theorem on_name {f : Nat → List Nat} {ls w : List Nat} (ok : CrOk f) (d : Sd) : On f ls d (nameOf f w) ↔ On f ls d w := by
  unfold On
  rw [bz_act (name_act ok w)]
theorem lot_law {f : Nat → List Nat} {ls w : List Nat} {S : List Sd} {o : Option (List Sd)} (hn : ls.Nodup) (ok : CrOk f) (ow : OwnR f ls S o) (hS : ∀ d ∈ S, SdOk f ls d) (mw : ∀ y ∈ w, y ∈ ls) : lotB f ls (nameOf f w) o = allB f ls w S := by
  have key : AllOn f ls S (nameOf f w) ↔ AllOn f ls S w := by
    unfold AllOn
    simp only [on_name ok]
  have mn : ∀ y ∈ nameOf f w, y ∈ ls := fun y hy => mw y (name_mem hy)
  cases o with
  | none =>
    have np := ow.none.mp rfl
    have na : ¬ AllOn f ls S w := fun h => np fun d hd e he => ⟨w, mw, h d hd, h e he⟩
    show false = allB f ls w S
    cases z : allB f ls w S with
    | true => exact absurd (allB_iff.mp z) na
    | false => rfl
  | some D =>
    show allB f ls (nameOf f w) D = allB f ls w S
    rw [Bool.eq_iff_iff, allB_iff, allB_iff, ow.on hn ok hS mn, key]
theorem cut_to29 (xs : List V) (n : Nat) : cutV xs none (some (n : Int)) = xs.take n := by
  unfold cutV
  rw [HT.sIx_nat, HT.sIx_none, List.drop_zero, Nat.sub_zero]
  by_cases h : n ≤ xs.length
  · rw [Nat.min_eq_left h]
  · rw [Nat.min_eq_right (by omega), List.take_length, List.take_of_length_le (by omega)]
open Classical in
noncomputable def inB (f : Nat → List Nat) (ls : List Nat) (d e : Sd) : Bool := decide (In f ls d e)
open Classical in
theorem inB_iff {f : Nat → List Nat} {ls : List Nat} {d e : Sd} : inB f ls d e = true ↔ In f ls d e := by
  unfold inB
  exact decide_eq_true_iff
structure TxtL29 (K : PySem.W.Frag) (mg : Str → Option Value) (C R O W HC L : Addr) : Prop extends TxtAl2 K mg C R O W HC L where
  range : mg "range" = none
section
variable {P : Program} {w : World} {K : PySem.W.Frag} {mg : Str → Option Value} {base : Heap} {C R O W HC L : Addr}
abbrev stlaw : Stmt := (top 102)
abbrev Nlaw : List Str := ["_law_script", "_law_pen", "_law_turn", "_law_floor", "_law_plan", "_law_wide", "_law_center", "_law_halves", "_law_some", "_law_given", "_law_made", "_law_empty", "_law_ways", "_law_half", "_law_way", "_law_twin", "_law_near", "_law_more", "_law_inner", "_law_same", "_law_one"]
theorem sclaw : FnScope Nlaw ["_law_script"] (defScope stlaw) := ⟨rfl, rfl, rfl, by decide +kernel, rfl, by decide +kernel, by decide +kernel⟩

theorem ok_law29 {f : Addr} {fd : FuncData} (F : Fun K "law" "law" stlaw f fd) (T : TxtL29 K mg C R O W HC L) (ap : Apart5 C R W HC L) (D_begin : Def P w K mg base CX0 1 "_law_begin" ["_law_script"] (spPen K)) (D_draw : Def P w K mg base CX0 1 "_law_draw" ["_law_pen", "_law_span"] spDraw) (D_pick : Def P w K mg base CX0 2 "_law_pick" ["_law_pen", "_law_some"] spPick2) (D_drawn_floor : Def P w K mg base CX0 3 "_law_drawn_floor" ["_law_pen", "_law_upto"] spDFloor) (D_as_plan : Def P w K mg base CX0 5 "_law_as_plan" ["_law_pen", "_law_floor"] (spAsPlan C)) (D_drawn_way : Def P w K mg base CX0 3 "_law_drawn_way" ["_law_pen", "_law_floor", "_law_upto"] spDWay)
    (D_drawn_half : Def P w K mg base CX0 4 "_law_drawn_half" ["_law_pen", "_law_floor", "_law_center", "_law_upto"] spDrawnH) (D_drawn_halves : Def P w K mg base CX0 5 "_law_drawn_halves" ["_law_pen", "_law_floor", "_law_center", "_law_many", "_law_upto"] spDrawnHs) (D_as_half : Def P w K mg base CX0 8 "_law_as_half" ["_law_pen", "_law_plan", "_law_half"] (spAsHalf C R W HC)) (D_is_empty : Def P w K mg base CX0 5 "_law_is_empty" ["_law_floor", "_law_halves"] spIsEmpty) (D_in_all : Def P w K mg base CX0 4 "_law_in_all" ["_law_floor", "_law_halves", "_law_way"] spInAll) (D_lies_in : Def P w K mg base CX0 5 "_law_lies_in" ["_law_floor", "_law_one", "_law_two"] spLiesH)
    (D_as_lot : Def P w K mg base CX0 12 "_law_as_lot" ["_law_pen", "_law_plan", "_law_halves"] (spAsLot K C R W HC L)) (D_is_alone : Def P w K mg base CX0 12 "_law_is_alone" ["_law_plan", "_law_made"] (spAlone2 C R W HC L)) (C_Lot : CDef P w K mg base CX0 10 "Lot" L (spLot K C R W HC L)) (C_Room : CDef P w K mg base CX0 3 "Room" R (spRoom C R)) (M_Plan_eq : MDef P w K mg base CX0 1 C "__eq__" ["self", "other"] (spPlanEq C)) (M_Half_eq : MDef P w K mg base CX0 3 HC "__eq__" ["self", "other"] (spHalfEq C R W HC))
    (M_Lot_bool : MDef P w K mg base CX0 1 L "__bool__" ["self"] (spLotBool L HC W R)) (M_Lot_contains : MDef P w K mg base CX0 6 L "__contains__" ["self", "value"] (spLotIn C R W HC L)) (M_Lot_eq : MDef P w K mg base CX0 3 L "__eq__" ["self", "other"] (spLotEq C R W HC L)) : FnOk P w K mg base CX0 13 f fd ["_law_script"] (spLaw K) := by
  refine F.ok sclaw (fun vs H Q E h => ?_) (fun cdv A outer s H vs Q E hr h => ?_)
  · obtain ⟨a, ns, rfl, _⟩ := h
    rfl
  obtain ⟨sc, ns, rfl, hsc, hn, k⟩ := h
  have hu := hu_of hr
  have nd := sclaw.nd
  replace D_begin := D_begin.mono (show 1 ≤ 12 by decide)
  replace D_draw := D_draw.mono (show 1 ≤ 12 by decide)
  replace D_pick := D_pick.mono (show 2 ≤ 12 by decide)
  replace D_drawn_floor := D_drawn_floor.mono (show 3 ≤ 12 by decide)
  replace D_as_plan := D_as_plan.mono (show 5 ≤ 12 by decide)
  replace D_drawn_way := D_drawn_way.mono (show 3 ≤ 12 by decide)
  replace D_drawn_half := D_drawn_half.mono (show 4 ≤ 12 by decide)
  replace D_drawn_halves := D_drawn_halves.mono (show 5 ≤ 12 by decide)
  replace D_as_half := D_as_half.mono (show 8 ≤ 12 by decide)
  replace D_is_empty := D_is_empty.mono (show 5 ≤ 12 by decide)
  replace D_in_all := D_in_all.mono (show 4 ≤ 12 by decide)
  replace D_lies_in := D_lies_in.mono (show 5 ≤ 12 by decide)
  replace C_Lot := C_Lot.mono (show 10 ≤ 11 by decide)
  replace C_Room := C_Room.mono (show 3 ≤ 11 by decide)
  have N_Plan_eq := M_Plan_eq.mono (show 1 ≤ 11 by decide)
  have M_Half_eq10 := M_Half_eq.mono (show 3 ≤ 10 by decide)
  replace M_Lot_bool := M_Lot_bool.mono (show 1 ≤ 9 by decide)
  replace M_Lot_contains := M_Lot_contains.mono (show 6 ≤ 12 by decide)
  have N_Lot_eq := M_Lot_eq.mono (show 3 ≤ 11 by decide)
  replace M_Lot_eq := M_Lot_eq.mono (show 3 ≤ 12 by decide)
  refine ⟨_, (pss_cons (ps_set (i := 1) nd rfl (Or.inr rfl) (pe_cd D_begin hr pass0 (pa_cons (pv 0) pa_nil)))
      (pss_cons (ps_for PassesOwn.never rfl (pi_range1 (by rfl) T.range (pa_cons pe_int pa_nil)) (pg_name (i := 2) nd rfl (Or.inl rfl))
      (pss_cons (ps_set (i := 3) nd rfl (Or.inr rfl) (pe_cd D_drawn_floor hr pass0 (pa_cons (pv 1) (pa_cons pe_int pa_nil))))
        (pss_cons (ps_asg (pe_tup (pa_cons (pe_cd D_as_plan hr pass0 (pa_cons (pv 1) (pa_cons (pv 3) pa_nil))) (pa_cons (pe_cd D_pick hr pass0 (pa_cons (pv 1) (pa_cons (pe_lst (pa_cons pe_int (pa_cons pe_int (pa_cons pe_int pa_nil)))) pa_nil))) pa_nil))) (pg_tup rfl (pgs_cons (pg_name (i := 4) nd rfl (Or.inr rfl)) (pgs_cons (pg_name (i := 5) nd rfl (Or.inl rfl)) pgs_nil))))
        (pss_cons (ps_set (i := 6) nd rfl (Or.inl rfl) (pe_cd D_drawn_way hr pass0 (pa_cons (pv 1) (pa_cons (pv 3) (pa_cons (pe_op op_mul pe_int (pv 5)) pa_nil)))))
        (pss_cons (ps_set (i := 7) nd rfl (Or.inl rfl) (pe_cd D_drawn_halves hr pass0 (pa_cons (pv 1) (pa_cons (pv 3) (pa_cons (pv 6) (pa_cons pe_int (pa_cons (pe_op op_mul pe_int (pv 5)) pa_nil)))))))
        (pss_cons (ps_set (i := 8) nd rfl (Or.inr rfl) (pe_lc (own := [("_law_half", 13)]) (g := gName 13) (by rfl) nd (pi_listK (K := K) rfl (pv 7)) (blkOk_by (own := [("_law_half", 13)]) (N := Nlaw) (sc := defScope stlaw) (by decide +kernel)) (fun _ _ _ _ _ => (pg_name (i := 13) nd rfl (Or.inl rfl))) (fun _ _ _ _ _ => pts_nil) (fun _ _ _ _ _ => (pe_cd D_as_half hr pass0 (pa_cons (pv 1) (pa_cons (pv 4) (pa_cons (pv 13) pa_nil)))))))
        (pss_cons (ps_set (i := 9) nd rfl (Or.inl rfl) (pe_callTy (c_listK (K := K) rfl) (by rfl) T.list (by decide +kernel) (pa_cons (pv 8) pa_nil)))
        (pss_cons (ps_par (i := 10) (j := 11) (by rfl) nd rfl rfl (by decide) rfl rfl (pa_cons (pe_mk C_Lot hr pass0 (pa_cons (pv 4) (pa_cons (pv 9) pa_nil))) (pa_cons (pe_cd D_is_empty hr pass0 (pa_cons (pv 3) (pa_cons (pv 7) pa_nil))) pa_nil)) (by rfl))
        (pss_cons (ps_if (PW.pt (pw_or (pt_cmpR (op_neM N_Plan_eq T.Plan.ne T.Plan.ob hr pass0) (pe_flK (K := K) rfl (pv 10) rfl) (pv 4) (nomark _)) (pw_or (pt_cmpR op_eq (pe_callTy (c_boolO M_Lot_bool hr) (by rfl) T.bool (by decide +kernel) (pa_cons (pv 10) pa_nil)) (pv 11) (nomark _)) (pw_or1 (pt_cmpR (op_neDK (K := K) rfl hr.units) (pe_lc (own := [("_law_one", 20)]) (g := gName 20) (by rfl) nd (pi_listK (K := K) rfl (pv 9)) (blkOk_by (own := [("_law_one", 20)]) (N := Nlaw) (sc := defScope stlaw) (by decide +kernel)) (fun _ _ _ _ _ => (pg_name (i := 20) nd rfl (Or.inl rfl))) (fun _ _ _ _ _ => (pts_one (pt_cmpR (op_notInO M_Half_eq10 hr) (pv 20) (pv 8) (by rfl)))) (fun _ _ _ _ _ => (pv 20))) (pe_lst pa_nil) (nomark _))))))
        (pss_one (ps_ret pe_bl))
        pss_nil)
        (pss_cons (ps_set (i := 12) nd rfl (Or.inl rfl) (pe_lst (pa_cons (pv 6) (pa_cons (pe_tx [] (by decide +kernel)) (pa_cons (pe_cd D_drawn_way hr pass0 (pa_cons (pv 1) (pa_cons (pv 3) (pa_cons (pe_op op_mul pe_int (pv 5)) pa_nil)))) pa_nil)))))
        (pss_cons (ps_for PassesOwn.never rfl (pi_listK (K := K) rfl (pv 7)) (pg_name (i := 13) nd rfl (Or.inl rfl))
        (pss_one (ps_set (i := 12) nd rfl (Or.inl rfl) (pe_op op_cat1 (pv 12) (pe_lst (pa_cons (pe_dget hu (pv 13) pe_str (fun _ _ => rfl)) (pa_cons (pe_op op_addS (pe_dget hu (pv 13) pe_str (fun _ _ => rfl)) (pe_dget hu (pv 13) pe_str (fun _ _ => rfl))) (pa_cons (pe_op op_addS (pv 6) (pe_cd D_drawn_way hr pass0 (pa_cons (pv 1) (pa_cons (pv 3) (pa_cons pe_int pa_nil))))) pa_nil))))))))
        (pss_cons (ps_for PassesOwn.never rfl (pi_listK (K := K) rfl (pv 12)) (pg_name (i := 14) nd rfl (Or.inl rfl))
        (pss_one (ps_if (pt_cmpR op_ne (pe_cmpR (op_inM M_Lot_contains hr pass0) (pe_mk C_Room hr pass0 (pa_cons (pv 4) (pa_cons (pv 14) pa_nil))) (pv 10) (by rfl)) (pe_cd D_in_all hr pass0 (pa_cons (pv 3) (pa_cons (pv 7) (pa_cons (pv 14) pa_nil)))) (nomark _))
          (pss_one (ps_ret pe_bl))
          pss_nil)))
        (pss_cons (ps_if (pt_not (pt_val (pe_cd D_is_alone hr pass0 (pa_cons (pv 4) (pa_cons (pv 10) pa_nil)))))
        (pss_one (ps_ret pe_bl))
        pss_nil)
        (pss_cons (ps_set (i := 15) nd rfl (Or.inl rfl) (pe_cd D_as_lot hr pass0 (pa_cons (pv 1) (pa_cons (pv 4) (pa_cons (pe_op op_cat1 (pv 7) (pe_slice (sl_LK (K := K) rfl) (pv 7) po_none (po_some pe_int))) pa_nil)))))
        (pss_cons (ps_if (PW.pt (pw_or (pt_not (pt_cmpR (op_cmpM (op := .Eq) (fun _ _ => rfl) M_Lot_eq hr pass0) (pv 10) (pv 15) (nomark _))) (pw_or (pt_cmpR (op_neM N_Lot_eq T.Lot.ne T.Lot.ob hr pass0) (pv 10) (pv 15) (nomark _)) (pw_or1 (pt_cmpR op_ne (pe_callB (c_lenK (K := K) rfl) (by rfl) T.len PySem.boot_len (pa_cons (pv 9) pa_nil)) (pe_callB (c_lenK (K := K) rfl) (by rfl) T.len PySem.boot_len (pa_cons (pv 8) pa_nil)) (nomark _))))))
        (pss_one (ps_ret pe_bl))
        pss_nil)
        (pss_one (ps_if (pt_cmpR (op_neL (K := K) rfl (Nat.lt_of_le_of_lt (Nat.le_add_right _ 64) hr.units)) (pv 7) (pe_lst pa_nil) (nomark _))
        (pss_cons (ps_set (i := 16) nd rfl (Or.inr rfl) (pe_cd D_drawn_half hr pass0 (pa_cons (pv 1) (pa_cons (pv 3) (pa_cons (pv 6) (pa_cons pe_int pa_nil))))))
          (pss_cons (ps_set (i := 17) nd rfl (Or.inl rfl) (pe_mk C_Lot hr pass0 (pa_cons (pv 4) (pa_cons (pe_callTy (c_tupleK (K := K) rfl) (by rfl) T.tuple (by decide +kernel) (pa_cons (pe_op op_cat1 (pv 8) (pe_lst (pa_cons (pe_cd D_as_half hr pass0 (pa_cons (pv 1) (pa_cons (pv 4) (pa_cons (pv 16) pa_nil)))) pa_nil))) pa_nil)) pa_nil))))
          (pss_cons (ps_setLc (i := 18) (own := [("_law_half", 13)]) (g := gName 13) (by rfl) nd rfl rfl (sw_true rfl rfl rfl (by decide +kernel)) (pi_listK (K := K) rfl (pv 7)) (blkOk_by (own := [("_law_half", 13)]) (N := Nlaw) (sc := defScope stlaw) (by decide +kernel)) (fun _ _ _ _ _ => (pg_name (i := 13) nd rfl (Or.inl rfl))) (fun _ _ _ _ _ => (pts_one (pt_val (pe_cd D_lies_in hr pass0 (pa_cons (pv 3) (pa_cons (pv 13) (pa_cons (pv 16) pa_nil))))))) (fun _ _ _ _ _ => (pv 13)))
          (pss_cons (ps_set (i := 19) nd rfl (Or.inl rfl) (pe_cut (pe_or (pv 11) (pe_one (pe_cmpR (op_neL (K := K) rfl (Nat.lt_of_le_of_lt (Nat.le_add_right _ 64) hr.units)) (pv 18) (pe_lst pa_nil) (nomark _))))))
          (pss_one (ps_if (PW.pt (pw_or (pt_cmpR op_ne (pe_cmpR (op_cmpM (op := .Eq) (fun _ _ => rfl) M_Lot_eq hr pass0) (pv 10) (pv 17) (nomark _)) (pv 19) (nomark _)) (pw_or1 (pt_cmpR op_eq (pe_cmpR (op_neM N_Lot_eq T.Lot.ne T.Lot.ob hr pass0) (pv 10) (pv 17) (nomark _)) (pv 19) (nomark _)))))
          (pss_one (ps_ret pe_bl))
          pss_nil))))))
        pss_nil)))))))))))))))))
      (pss_one (ps_ret pe_bl)))), ?_⟩
  refine s_start [some _, none, none, none, none, none, none, none, none, none, none, none, none, none, none, none, none, none, none, none, none] rfl ?_
  walk_at "go"
  refine ⟨sc, ns, rfl, hsc, hn, fun g H1 p1 s1 hg => ?_⟩
  walk_at "go"
  refine for_it (walk_rI (fun i => ((i : Nat) : Int)) (fun k => Int.zero_add _)) (fun i σ H' => ∃ x2 x3 x4 x5 x6 x7 x8 x9 x10 x11 x12 x13 x14 x15 x16 x17 x18 x19 x20, σ = [some (.ref sc), some (.ref g.p), x2, x3, x4, x5, x6, x7, x8, x9, x10, x11, x12, x13, x14, x15, x16, x17, x18, x19, x20] ∧ PenAt g H' (30000 * i)) ⟨_, _, _, _, _, _, _, _, _, _, _, _, _, _, _, _, _, _, _, rfl, p1⟩ (fun _ _ _ _ _ => trivial) ?_ ?_
  · rintro i v σ H2 H3 hi ⟨x2, x3, x4, x5, x6, x7, x8, x9, x10, x11, x12, x13, x14, x15, x16, x17, x18, x19, x20, rfl, p3⟩ ⟨rfl, rfl⟩
    have hi : i < 3 := hi
    refine g_nm ?_
    refine s_hide fun Dn hDn => ?_
    walk_at "go2"
    refine ⟨g, 30000 * i, 8, rfl, by omega, p3, by omega, fun q ls fn H4 hq fE fl p4 k4 => ?_⟩
    walk_at "go2"
    refine ⟨g, _, q, ls, fn, rfl, p4, by omega, fl, fE, fun x H5 hx k5 p5 pl => ?_⟩
    replace fl := fl.pen p4 k5
    have tab := fE.tab
    have tl := tab.len
    walk_at "go2"
    intro L6 H6 hL6 s6 eL6
    replace fl := fl.same s6
    replace pl := pl.same s6
    replace p5 := p5.same s6
    walk_at "go2"
    refine ⟨g, _, .ref L6, _, rfl, .inl ⟨L6, rfl, eL6⟩, by decide, by decide, p5, by omega, fun u H7 hu' p7 k7 => ?_⟩
    obtain ⟨wd, rfl, hw⟩ : ∃ wd : Nat, u = .int wd ∧ wd ≤ 5 := by
      simp only [List.mem_cons, List.not_mem_nil, or_false] at hu'
      rcases hu' with rfl | rfl | rfl
      · exact ⟨1, rfl, by omega⟩
      · exact ⟨1, rfl, by omega⟩
      · exact ⟨5, rfl, by omega⟩
    replace fl := fl.pen p5 k7
    replace pl := pl.pen p5 k7
    walk_at "go2"
    intro tp H8 htp s8 etp
    refine v_gTup2 rfl etp ?_
    replace fl := fl.same s8
    replace pl := pl.same s8
    replace p7 := p7.same s8
    walk_at "go2"
    refine ⟨g, _, q, ls, fn, 8 * wd, rfl, p7, by omega, fl, tl, by omega, fun ce H9 hce lce k9 p9 => ?_⟩
    replace fl := fl.pen p7 k9
    replace pl := pl.pen p7 k9
    walk_at "go2"
    refine ⟨g, _, q, ls, fn, ce, 5, 3 * wd, rfl, p9, by omega, fl, fE, hce, by omega, by omega, fun ht D H10 hht hD okD lD p10 k10 => ?_⟩
    replace fl := fl.pen p9 k10
    replace pl := pl.pen p9 k10
    obtain ⟨n10, p10, hn10⟩ : ∃ m, PenAt g H10 m ∧ m ≤ 30000 * i + 7000 := ⟨_, p10, by omega⟩
    clear p3 p4 k4 p5 k5 k7 p7 k9 p9 k10 s6 eL6 etp s8
    obtain ⟨Es, e1, e2, e3⟩ := hD.ex
    have lE : Es.length = D.length := by rw [← e1, List.length_map]
    have okE : ∀ e ∈ Es, HvOk ls 100 e.1 := fun e he => by
      obtain ⟨h1, h2, h3⟩ := okD e.1 (by rw [← e1]; exact List.mem_map.mpr ⟨e, he, rfl⟩)
      exact ⟨h1, h2, by omega⟩
    walk_at "go2"
    refine lc_refsP (K := K) (E := Es) (c := 2) (R' := fun H v d => ∃ h, v = .ref h ∧ HvEq C HC W R ls fn H h (d.sd fn)) p10 e2 (by omega) (fun v d H2 H3 m ⟨h, e, z⟩ pm k => ⟨h, e, z.pen pm k⟩) (fun v d H2 H3 D' l' ⟨h, e, z⟩ e0 kp => ⟨h, e, z.keepL e0 kp⟩) (fun e he H2 R r => ?_) (fun j e he H11 k11 p11 R r => ?_) (fun so H11 vs hso k11 p11 eso l11 r11 => ?_)
    · walk_at "go2"
      exact r
    · have em := List.mem_of_getElem? he
      have hj : j < Es.length := (List.getElem?_eq_some_iff.mp he).1
      obtain ⟨o1, o2, o3⟩ := okE e em
      have fe := fE.fl (List.length_pos_of_mem o2)
      walk_at "go2"
      refine ⟨g, _, x, e.2, ls, fn, e.1.a, e.1.s, e.1.b, rfl, p11, by omega, pl.pen p10 k11, fe, (e3 e em).pen p10 k11, o1, o2, by omega, ap.hw, ap.hr, fun h H12 hh p12 k12 => ?_⟩
      exact r _ H12 k12 (p12.mono (by omega)) ⟨h, rfl, HalfOn.hv (v := e.1) hh⟩
    obtain ⟨G, g1, rfl, g3⟩ := refs_of (R := HvEq C HC W R ls fn) (H := H11) (D := D.map (Hv.sd fn)) (by rw [l11, List.length_map, lE]) fun j v d h1 h2 => by
      rw [← e1, List.map_map, List.getElem?_map] at h2
      obtain ⟨e, he, rfl⟩ := Option.map_eq_some_iff.mp h2
      exact r11 j v e h1 he
    replace fl := fl.pen p10 k11
    replace pl := pl.pen p10 k11
    replace hD := hD.pen p10 k11
    replace p11 := p11.mono (show n10 + 2 * Es.length ≤ 30000 * i + 8000 by omega)
    clear p10 k11 e1 e2 e3 lE okE l11 r11
    have lG : G.length = D.length := by
      have := congrArg List.length g1
      rw [List.length_map, List.length_map] at this
      exact this
    walk_at "go2"
    refine v_list (SqL.of eso) fun gv H12 hgv s12 egv => ?_
    replace fl := fl.same s12
    replace pl := pl.same s12
    replace hD := hD.keep s12
    replace p11 := p11.same s12
    replace g3 : ∀ e ∈ G, HvEq C HC W R ls fn H12 e.2 e.1 := fun e he => (g3 e he).keep s12
    replace eso := s12 _ _ eso
    have hn := fE.tab.nd
    have ok := fE.ok
    have okS : ∀ d ∈ D.map (Hv.sd fn), SdOk fn ls d ∧ d.m.length ≤ 100 := fun d hd => by
      obtain ⟨v, hv, rfl⟩ := List.mem_map.mp hd
      obtain ⟨h1, h2, h3⟩ := okD v hv
      have h : HvOk ls 100 v := ⟨h1, h2, by omega⟩
      exact ⟨h.sd, h.len ok⟩
    have ok4 : ∀ v ∈ D, HvOk ls 400 v := fun v hv => by
      obtain ⟨h1, h2, h3⟩ := okD v hv
      exact ⟨h1, h2, by omega⟩
    have okS1 : ∀ d ∈ D.map (Hv.sd fn), SdOk fn ls d := fun d hd => (okS d hd).1
    clear s12 hgv
    walk_at "go2"
    refine ⟨x, gv, ls, fn, D.map (Hv.sd fn), rfl, ⟨pl, fE, ⟨G, g1, .inl egv, g3⟩, okS, by rw [List.length_map]; omega⟩, ap, fun l o H13 hl s13 ow lt => ?_⟩
    walk_at "go2"
    refine ⟨q, ht, ls, fn, D, rfl, fl.same s13, fE, hD.keep s13, ok4, by omega, fun eb H14 s14 heb => ?_⟩
    have s1214 := s13.trans s14
    replace fl := fl.same s1214
    replace pl := pl.same s1214
    replace hD := hD.keep s1214
    replace p11 := p11.same s1214
    replace g3 : ∀ e ∈ G, HvEq C HC W R ls fn H14 e.2 e.1 := fun e he => (g3 e he).keep s1214
    replace eso := s1214 _ _ eso
    replace egv := s1214 _ _ egv
    replace lt := lt.keep s14
    clear s13 s14 s1214 hl
    have eo : eb = o.isNone := by
      rw [Bool.eq_iff_iff, heb, ← ow.none]
      cases o <;> simp
    have psk : PsOk (tabPairs ls fn) := pairsOf_small (ls.flatMap fun a => (fn a).map fun b => ascOf [a, b])
    have smS : ∀ d ∈ D.map (Hv.sd fn), SdSmall d := fun d hd => (okS1 d hd).small tab.lt
    have sub : ∀ d ∈ o.getD [], d ∈ D.map (Hv.sd fn) := by
      cases o with
      | none => exact fun _ z => nomatch z
      | some D' => exact ow.sub
    walk_at "go2"
    obtain ⟨dl, vl, ql, f1, f2, f3⟩ := lt.ex
    obtain ⟨dp, tp, dq, a1, a2, a3⟩ := pl.ex
    refine v_fld f1 T.Lot.cl T.nLp lotF_p ?_
    walk_at "go2"
    refine v_M2n a1 a1 ⟨x, x, _, _, _, _, rfl, pl, pl, psk, psk, _, rfl, ?_⟩
    rw [decide_eq_true (⟨rfl, rfl⟩ : ascOf ls = ascOf ls ∧ tabPairs ls fn = tabPairs ls fn)]
    walk_at "go2"
    refine ⟨l, dl, _, rfl, f1, l, x, o, rfl, lt, _, rfl, ?_⟩
    walk_at "go2"
    rw [show decide (V.bl o.isSome = V.bl eb) = false from by rw [eo]; cases o <;> rfl]
    walk_at "go2"
    have rG : refV G = (G.map (·.2)).map V.ref := by rw [List.map_map]; rfl
    have Wk : Walk (Itl K gv) G.length (fun H => SqL K H gv (refV G)) (fun k H x H' => H' = H ∧ x = (refV G).getD k .non) := by
      have w := walk_list (K := K) (a := gv) (xs := refV G)
      rw [List.length_map] at w
      exact w.mono (fun _ z => z) fun i H x H' hi _ y => ⟨y.1, yld_get y.2⟩
    refine lc_gen (n := G.length) (it := fun k => (refV G).getD k .non) (b := fun _ => false) (f := fun _ => .non) Wk (fun H' s' => SqL.of (s' _ _ egv)) (by omega) (fun j hj H15 s15 Rr rr => ?_) (fun j hj hf => nomatch hf) (fun N H15 hN s15 e15 => ?_)
    · have hE : G[j]? = some G[j] := List.getElem?_eq_getElem hj
      rw [refV_get hE]
      have hm : G[j].2 ∈ G.map (·.2) := List.mem_map.mpr ⟨_, List.getElem_mem hj, rfl⟩
      generalize G[j].2 = hj2 at hm
      walk_at "go2"
      refine ⟨hj2, so, G.map (·.2), rfl, rfl, by rw [← rG]; exact s15 _ _ eso, hm, fun h' hh' H16 s16 => ?_, fun H16 s16 => ⟨_, rfl, ?_⟩⟩
      · have s1416 := s15.trans s16
        have get : ∀ h ∈ G.map (·.2), ∃ d ∈ D.map (Hv.sd fn), HvEq C HC W R ls fn H16 h d := fun h hh => by
          obtain ⟨e, he, rfl⟩ := List.mem_map.mp hh
          exact ⟨e.1, by rw [← g1]; exact List.mem_map.mpr ⟨e, he, rfl⟩, (g3 e he).keep s1416⟩
        obtain ⟨d1, hd1, y1, ⟨wa1, r1, z1⟩, py1⟩ := get _ hh'
        obtain ⟨d2, hd2, y2, ⟨wa2, r2, z2⟩, py2⟩ := get _ hm
        obtain ⟨da, ta, u1, _⟩ := z1.ex
        obtain ⟨db, tb, u2, _⟩ := z2.ex
        exact ⟨⟨da, _, db, _, u1, u2⟩, ⟨_, _, _, _, _, _, _, _, _, _, _, _, _, _, true, rfl, z1, z2, ⟨_, _, _, _, py1, py2, psk, psk, (decide_eq_true ⟨rfl, rfl⟩).symm⟩, (smS _ hd1).1, (smS _ hd2).1, (smS _ hd1).2, (smS _ hd2).2, ⟨⟨_, rfl⟩, Same.refl _⟩⟩⟩
      · exact rr _ s16
    have e15 : H15 N = some (.lst []) := by
      rw [e15]
      simp
    walk_at "go2"
    intro M H16 hM s16 e16
    refine v_neNil29 (s16 _ _ e15) e16 ?_
    have s1416 := s15.trans s16
    replace fl := fl.same s1416
    replace pl := pl.same s1416
    replace hD := hD.keep s1416
    replace p11 := p11.same s1416
    replace g3 : ∀ e ∈ G, HvEq C HC W R ls fn H16 e.2 e.1 := fun e he => (g3 e he).keep s1416
    replace eso := s1416 _ _ eso
    replace egv := s1416 _ _ egv
    replace lt := lt.keep s1416
    clear s15 s16 s1416 e15 e16 a1 a2 a3 f1 f2 f3 Wk
    walk_at "go2"
    refine ⟨g, _, q, ls, fn, 30 * wd, rfl, p11, by omega, fl, tl, by omega, fun w1 H17 hw1 lw1 k17 p17 => ?_⟩
    replace fl := fl.pen p11 k17
    replace pl := pl.pen p11 k17
    replace hD := hD.pen p11 k17
    replace eso := k17 _ _ eso (p11.lst_ne eso)
    replace egv := k17 _ _ egv (p11.lst_ne egv)
    replace lt := lt.pen p11 k17
    replace g3 : ∀ e ∈ G, HvEq C HC W R ls fn H17 e.2 e.1 := fun e he => (g3 e he).pen p11 k17
    replace p17 := p17.mono (show 30000 * i + 8000 + 1 + 30 * wd ≤ 30000 * i + 8200 by omega)
    clear p11 k17
    walk_at "go2"
    intro wl H18 hwl s18 ewl
    replace fl := fl.same s18
    replace pl := pl.same s18
    replace hD := hD.keep s18
    replace eso := s18 _ _ eso
    replace egv := s18 _ _ egv
    replace lt := lt.keep s18
    replace g3 : ∀ e ∈ G, HvEq C HC W R ls fn H18 e.2 e.1 := fun e he => (g3 e he).keep s18
    replace p18 := p17.same s18
    clear p17 s18 hwl
    obtain ⟨Es, e1, e2, e3⟩ := hD.ex
    have lE : Es.length = D.length := by rw [← e1, List.length_map]
    walk_at "go2"
    refine for_it (walk_refE (K := K) (E := Es)) (fun j σ H' => ∃ (wl : Addr) (Wy : List (List Nat)) (z : Option V), σ = [some (.ref sc), some (.ref g.p), some (.int (i : Nat)), some (.ref q), some (.ref x), some (.int (wd : Nat)), some (.str (tx ce)), some (.ref ht), some (.ref so), some (.ref gv), some (.ref l), some (.bl eb), some (.ref wl), z, x14, x15, x16, x17, x18, x19, x20] ∧ H' wl = some (.lst (Wy.map fun l => V.str (tx l))) ∧ (∀ u ∈ Wy, (∀ y ∈ u, y ∈ ls) ∧ u.length ≤ 200) ∧ Wy.length = 3 + 3 * j ∧ PenAt g H' (30000 * i + 8200 + 6 * j) ∧ Keep g.p H18 H') ⟨wl, [ce, [], w1], _, rfl, ewl, fun u hu' => ?_, rfl, p18, Keep.refl _ _⟩ (fun j σ H' _ ⟨_, _, _, _, _, _, _, _, kk⟩ => SqL.of (kk _ _ e2 (p18.lst_ne e2))) ?_ ?_
    · simp only [List.mem_cons, List.not_mem_nil, or_false] at hu'
      rcases hu' with rfl | rfl | rfl
      · exact ⟨hce, by omega⟩
      · exact ⟨fun _ z => (nomatch z), by decide⟩
      · exact ⟨hw1, by omega⟩
    · rintro j v σ H19 H20 hj ⟨wl, Wy, z, rfl, ewl, okW, lW, p19, k19⟩ ⟨rfl, e, he, rfl⟩
      have em := List.mem_of_getElem? he
      have eD : e.1 ∈ D := by rw [← e1]; exact List.mem_map.mpr ⟨e, em, rfl⟩
      obtain ⟨o1, o2, o3⟩ := okD _ eD
      have hh := HalfD.pen (e3 e em) p18 k19
      obtain ⟨pr, r1, r2⟩ := hh.ex
      have zz1 : e.1.a.length + [e.1.s].length ≤ 1000000 := by rw [List.length_singleton]; omega
      walk_at "go2"
      refine v_dget (hf_way r1) ?_
      walk_at "go2"
      refine v_dget (hf_way r1) ?_
      walk_at "go2"
      refine v_dget (hf_kind r1) ?_
      walk_at "go2"
      refine ⟨g, _, q, ls, fn, 5, rfl, p19, by omega, fl.pen p18 k19, tl, by omega, fun w2 H20 hw2 lw2 k20 p20 => ?_⟩
      have zz2 : ce.length + w2.length ≤ 1000000 := by omega
      have ewl2 := k20 _ _ ewl (p19.lst_ne ewl)
      walk_at "go2"
      intro nl H21 hnl s21 enl
      refine v_cat (s21 _ _ ewl2) enl (by rw [List.length_map, lW]; show 3 + 3 * j + 3 ≤ 1000000; omega) fun np H22 hnp s22 enp => ?_
      refine ⟨np, Wy ++ [e.1.a, e.1.a ++ [e.1.s], ce ++ w2], _, rfl, by rw [enp, List.map_append]; rfl, fun u hu' => ?_, by rw [List.length_append, lW]; show 3 + 3 * j + 3 = 3 + 3 * (j + 1); omega, ((p20.same s21).same s22).mono (by omega), fun b o' hb nb => s22 _ _ (s21 _ _ (k20 _ _ (k19 _ _ hb nb) nb))⟩
      rcases List.mem_append.mp hu' with hu' | hu'
      · exact okW u hu'
      · simp only [List.mem_cons, List.not_mem_nil, or_false] at hu'
        rcases hu' with rfl | rfl | rfl
        · exact ⟨o1, by omega⟩
        · exact ⟨fun y hy => (List.mem_append.mp hy).elim (o1 y) fun z => List.mem_singleton.mp z ▸ o2, by rw [List.length_append, List.length_singleton]; omega⟩
        · exact ⟨fun y hy => (List.mem_append.mp hy).elim (hce y) (hw2 y), by rw [List.length_append]; omega⟩
    rintro σ H19 ⟨wl, Wy, z, rfl, ewl, okW, lW, p19, k19⟩
    replace fl := fl.pen p18 k19
    replace pl := pl.pen p18 k19
    replace hD := hD.pen p18 k19
    replace eso := k19 _ _ eso (p18.lst_ne eso)
    replace egv := k19 _ _ egv (p18.lst_ne egv)
    replace lt := lt.pen p18 k19
    replace g3 : ∀ e ∈ G, HvEq C HC W R ls fn H19 e.2 e.1 := fun e he => (g3 e he).pen p18 k19
    replace p19 := p19.mono (show 30000 * i + 8200 + 6 * Es.length ≤ 30000 * i + 9000 by omega)
    have lE19 : Es.length ≤ 6 := by omega
    clear p18 k19 e1 e2 e3 lE
    have nfW : ∀ u : List Nat, NF fn (nameOf fn u) := fun u => name_NF ok u
    have okD' : ∀ d ∈ o.getD [], SdOk fn ls d ∧ d.m.length ≤ 100 := fun d hd => okS d (sub d hd)
    have lo : (o.getD []).length ≤ 12 := by
      cases o with
      | none => exact Nat.zero_le _
      | some D' =>
        by_cases pw : Pw fn ls (D.map (Hv.sd fn))
        · obtain ⟨R0, r1, r2⟩ := ow.1 pw
          injection r2 with r2
          have h1 : (minR fn ls R0).length ≤ R0.length := List.length_filter_le _ _
          have h2 : R0.length ≤ (D.map (Hv.sd fn)).length := List.Nodup.length_le_of_subset r1.nd fun d hd => (r1.mem d).mp hd
          rw [List.length_map] at h2
          show D'.length ≤ 12
          rw [r2]
          omega
        · cases ow.2 pw
    have eqIn : ∀ u : List Nat, (∀ y ∈ u, y ∈ ls) → lotB fn ls (nameOf fn u) o = allB fn ls u (D.map (Hv.sd fn)) := fun u hu' => lot_law hn ok ow okS1 hu'
    walk_at "go2"
    have lWy : Wy.length ≤ 100 := by omega
    refine for_it (walk_txs (K := K) (a := wl) (ws := Wy)) (fun j σ H' => ∃ z1 z2, σ = [some (.ref sc), some (.ref g.p), some (.int (i : Nat)), some (.ref q), some (.ref x), some (.int (wd : Nat)), some (.str (tx ce)), some (.ref ht), some (.ref so), some (.ref gv), some (.ref l), some (.bl eb), some (.ref wl), z1, z2, x15, x16, x17, x18, x19, x20] ∧ Same H19 H') ⟨_, _, rfl, Same.refl _⟩ (fun j σ H' _ ⟨_, _, _, s⟩ => SqL.of (s _ _ ewl)) ?_ ?_
    · rintro j v σ H20 H21 hj ⟨z1, z2, rfl, s20⟩ ⟨rfl, rfl⟩
      obtain ⟨mu, lu⟩ := okW (Wy.getD j []) (getD_memL29 hj)
      generalize Wy.getD j [] = u at mu lu
      walk_at "go2"
      refine sp_roomE fE (pl.same s20) mu (by omega) fun r H22 hr22 s22 ro => ?_
      have s1922 := s20.trans s22
      walk_at "go2"
      obtain ⟨dl, vl, ql, f1, f2, f3⟩ := (lt.keep s1922).ex
      refine v_MIn f1 ⟨l, x, r, x, ls, fn, o, nameOf fn u, true, rfl, lt.keep s1922, pl.same s1922, fE, ro, ⟨_, _, _, _, pl.same s1922, pl.same s1922, psk, psk, (decide_eq_true ⟨rfl, rfl⟩).symm⟩, okD', lo, fun _ => ⟨nfW u, fun y hy => mu y (name_mem hy), by have := name_len fn u; omega⟩, fun H23 s23 => ⟨_, rfl, ?_⟩⟩
      have s1923 := s1922.trans s23
      walk_at "go2"
      refine ⟨q, ht, ls, fn, D, u, rfl, fl.same s1923, fE, hD.keep s1923, ok4, by omega, mu, fun H24 s24 => ?_⟩
      walk_at "go2"
      rw [eqIn u mu, Bool.true_and, Bool.bne_false, decide_eq_true rfl]
      walk_at "go2"
      exact ⟨_, _, rfl, s1923.trans s24⟩
    rintro σ H20 ⟨z1, z2, rfl, s20⟩
    walk_at "go2"
    refine ⟨x, l, ls, fn, o, rfl, fE, pl.same s20, lt.keep s20, okD', lo, ap, fun H21 s21 => ⟨true, rfl, ?_⟩⟩
    have s1921 := s20.trans s21
    replace fl := fl.same s1921
    replace pl := pl.same s1921
    replace hD := hD.keep s1921
    replace eso := s1921 _ _ eso
    replace egv := s1921 _ _ egv
    replace lt := lt.keep s1921
    replace g3 : ∀ e ∈ G, HvEq C HC W R ls fn H21 e.2 e.1 := fun e he => (g3 e he).keep s1921
    replace p19 := p19.same s1921
    clear s20 s21 s1921 ewl okW lW
    obtain ⟨Es2, e1, e2, e3⟩ := hD.ex
    have lE : Es2.length = D.length := by rw [← e1, List.length_map]
    walk_at "go2"
    refine v_slL (SqL.of e2) fun cp H22 hcp s22 ecp => ?_
    rw [show (2 : Int) = ((2 : Nat) : Int) from rfl, cut_to29, ← List.map_take] at ecp
    refine v_cat (s22 _ _ e2) ecp (by rw [List.length_map, List.length_map, List.length_take]; omega) fun cl H23 hcl s23 ecl => ?_
    have s2123 := s22.trans s23
    walk_at "go2"
    refine ⟨g, _, x, cl, ls, fn, D ++ D.take 2, rfl, p19.same s2123, by omega, pl.same s2123, fE, ⟨Es2 ++ Es2.take 2, by rw [List.map_append, List.map_take, e1], by rw [ecl]; unfold refV; rw [List.map_append], fun e he => ?_⟩, fun v hv => ?_, by rw [List.length_append, List.length_take]; omega, ap, fun tw o2 H24 ow2 lt2 p24 k24 => ?_⟩
    · exact HalfD.same (e3 e ((List.mem_append.mp he).elim id List.mem_of_mem_take)) s2123
    · obtain ⟨h1, h2, h3⟩ := okD v ((List.mem_append.mp hv).elim id List.mem_of_mem_take)
      exact ⟨h1, h2, by omega⟩
    have k2124 : Keep g.p H21 H24 := fun b o' hb nb => k24 _ _ (s2123 _ _ hb) nb
    have oo : o = o2 := ow.uniq ow2 fun d => by
      rw [List.map_append, List.mem_append, List.map_take]
      exact ⟨.inl, fun z => z.elim id List.mem_of_mem_take⟩
    subst oo
    replace fl := fl.pen p19 k2124
    replace pl := pl.pen p19 k2124
    replace hD := hD.pen p19 k2124
    replace eso := k2124 _ _ eso (p19.lst_ne eso)
    replace egv := k2124 _ _ egv (p19.lst_ne egv)
    replace lt := lt.pen p19 k2124
    replace g3 : ∀ e ∈ G, HvEq C HC W R ls fn H24 e.2 e.1 := fun e he => (g3 e he).pen p19 k2124
    have smD : ∀ d ∈ o.getD [], SdSmall d := fun d hd => smS d (sub d hd)
    clear p19 k2124 k24 s22 s23 s2123 ecp ecl e1 e2 e3 lE
    obtain ⟨dl, vl, ql, f1, f2, f3⟩ := lt.ex
    obtain ⟨dm, vm, qm, u1, u2, u3⟩ := lt2.ex
    walk_at "go2"
    refine v_M2 f1 u1 ⟨l, x, tw, x, o, o, true, rfl, lt, lt2, ⟨_, _, _, _, pl, pl, psk, psk, (decide_eq_true ⟨rfl, rfl⟩).symm⟩, smD, smD, ?_⟩
    rw [Bool.true_and, decide_eq_true rfl]
    refine ⟨_, rfl, ?_⟩
    walk_at "go2"
    refine v_M2n f1 u1 ⟨l, x, tw, x, o, o, true, rfl, lt, lt2, ⟨_, _, _, _, pl, pl, psk, psk, (decide_eq_true ⟨rfl, rfl⟩).symm⟩, smD, smD, _, rfl, ?_⟩
    rw [Bool.true_and, decide_eq_true rfl]
    walk_at "go2"
    intro nl H25 hnl s25 enl
    obtain ⟨Es, e1, e2, e3⟩ := hD.ex
    have lE : Es.length = D.length := by rw [← e1, List.length_map]
    cases Es with
    | nil =>
      refine v_neLsame (As := []) (s25 _ _ e2) enl ?_
      refine ⟨_, rfl, ?_⟩
      walk_at "go2"
      exact hDn _ _ ⟨_, _, _, _, _, _, _, _, _, _, _, _, _, _, _, _, _, _, _, rfl, (p24.same s25).mono (by omega)⟩
    | cons e0 Er =>
    refine v_neL (s25 _ _ e2) enl (by simp) ?_
    refine ⟨_, rfl, ?_⟩
    have d0 : e0.1 ∈ D := by rw [← e1]; exact List.mem_cons_self ..
    have fe := fE.fl (List.length_pos_of_mem (okD _ d0).2.1)
    generalize e0 :: Er = Es at e1 e2 e3 lE
    replace e2 := s25 _ _ e2
    replace e3 : ∀ e ∈ Es, HdAt ls fn H25 e.2 e.1 := fun e he => HalfD.same (e3 e he) s25
    replace fl := fl.same s25
    replace pl := pl.same s25
    replace eso := s25 _ _ eso
    replace lt := lt.keep s25
    replace g3 : ∀ e ∈ G, HvEq C HC W R ls fn H25 e.2 e.1 := fun e he => (g3 e he).keep s25
    replace p24 := p24.same s25
    clear s25 enl egv hD lt2 f1 f2 f3 u1 u2 u3
    walk_at "go2"
    refine ⟨g, _, q, ls, fn, ce, 5, rfl, p24, by omega, fl, fe, hce, by omega, fun nh a s0 b H26 hnh ma hs la p26 k26 => ?_⟩
    replace e2 := k26 _ _ e2 (p24.lst_ne e2)
    replace e3 : ∀ e ∈ Es, HdAt ls fn H26 e.2 e.1 := fun e he => HalfD.pen (e3 e he) p24 k26
    replace fl := fl.pen p24 k26
    replace pl := pl.pen p24 k26
    replace eso := k26 _ _ eso (p24.lst_ne eso)
    replace lt := lt.pen p24 k26
    replace g3 : ∀ e ∈ G, HvEq C HC W R ls fn H26 e.2 e.1 := fun e he => (g3 e he).pen p24 k26
    replace p26 := p26.mono (show 30000 * i + 9000 + 100 + 5 + 10 ≤ 30000 * i + 9200 by omega)
    clear p24 k26
    walk_at "go2"
    refine ⟨g, _, x, nh, ls, fn, a, s0, b, rfl, p26, by omega, pl, fe, hnh, ma, hs, by omega, ap.hw, ap.hr, fun nP H27 hnP p27 k27 => ?_⟩
    replace e2 := k27 _ _ e2 (p26.lst_ne e2)
    replace e3 : ∀ e ∈ Es, HdAt ls fn H27 e.2 e.1 := fun e he => HalfD.pen (e3 e he) p26 k27
    replace fl := fl.pen p26 k27
    replace pl := pl.pen p26 k27
    replace eso := k27 _ _ eso (p26.lst_ne eso)
    replace lt := lt.pen p26 k27
    replace g3 : ∀ e ∈ G, HvEq C HC W R ls fn H27 e.2 e.1 := fun e he => (g3 e he).pen p26 k27
    replace hnh := hnh.pen p26 k27
    obtain ⟨nv, hnv⟩ : ∃ nv : Hv, nv = ⟨a, s0, b⟩ := ⟨_, rfl⟩
    have hnP : HvEq C HC W R ls fn H27 nP (nv.sd fn) := by
      rw [hnv]
      exact HalfOn.hv (v := ⟨a, s0, b⟩) hnP
    have okN : HvOk ls 100 nv := by
      rw [hnv]
      exact ⟨ma, hs, by show a.length ≤ 100; omega⟩
    clear p26 k27
    walk_at "go2"
    intro n1 H28 hn1 s28 en1
    refine v_cat (s28 _ _ eso) en1 (by rw [List.length_map]; show G.length + 1 ≤ 1000000; omega) fun n2 H29 hn2 s29 en2 => ?_
    walk_at "go2"
    refine v_tuple en2 fun n3 H30 hn3 s30 en3 => ?_
    have s2730 := (s28.trans s29).trans s30
    replace fl := fl.same s2730
    replace pl := pl.same s2730
    replace lt := lt.keep s2730
    walk_at "go2"
    refine ⟨x, n3, ls, fn, D.map (Hv.sd fn) ++ [nv.sd fn], rfl, ⟨pl, fE, ⟨G ++ [(nv.sd fn, nP)], by rw [List.map_append, g1]; rfl, .inr (.inl (by rw [en3]; unfold refV; rw [List.map_append]; rfl)), fun e he => ?_⟩, fun d hd => ?_, by rw [List.length_append, List.length_map, List.length_singleton]; omega⟩, ap, fun ml o3 H31 hml s31 ow3 lt3 => ?_⟩
    · rcases List.mem_append.mp he with z | z
      · exact (g3 e z).keep s2730
      · rw [List.mem_singleton.mp z]
        exact hnP.keep s2730
    · rcases List.mem_append.mp hd with z | z
      · exact okS d z
      · rw [List.mem_singleton.mp z]
        exact ⟨okN.sd, okN.len ok⟩
    have s2731 := s2730.trans s31
    replace fl := fl.same s31
    replace pl := pl.same s31
    replace lt := lt.keep s31
    replace e2 := s2731 _ _ e2
    replace e3 : ∀ e ∈ Es, HdAt ls fn H31 e.2 e.1 := fun e he => HalfD.same (e3 e he) s2731
    replace hnh := hnh.same s2731
    replace p27 := p27.same s2731
    clear s28 s29 s30 s2730 s31 s2731 en1 en2 en3 g3 hnP eso
    have more := own_more hn ok okS1 okN.sd ow ow3
    have sm3 : ∀ d ∈ o3.getD [], SdSmall d := by
      cases o3 with
      | none => exact fun _ z => nomatch z
      | some D3 =>
        intro d hd
        rcases List.mem_append.mp (ow3.sub d hd) with z | z
        · exact smS d z
        · rw [List.mem_singleton.mp z]
          exact okN.sd.small tab.lt
    walk_at "go2"
    have it : ∀ k, k < Es.length → ∃ e, Es[k]? = some e ∧ e.1 ∈ D ∧ D.getD k ⟨[], 0, false⟩ = e.1 := fun k hk => by
      have hE : Es[k]? = some Es[k] := List.getElem?_eq_getElem hk
      have hd := refs_get hE
      rw [e1] at hd
      exact ⟨Es[k], hE, List.mem_of_getElem? hd, by rw [List.getD_eq_getElem?_getD, hd]; rfl⟩
    have Wk : Walk (Itl K ht) Es.length (fun H => SqL K H ht (refV Es)) (fun k H x H' => H' = H ∧ x = (refV Es).getD k .non) := by
      have w := walk_list (K := K) (a := ht) (xs := refV Es)
      rw [List.length_map] at w
      exact w.mono (fun _ z => z) fun i H x H' hi _ y => ⟨y.1, yld_get y.2⟩
    refine lc_gen (n := Es.length) (it := fun k => (refV Es).getD k .non) (b := fun k => inB fn ls ((D.getD k ⟨[], 0, false⟩).sd fn) (nv.sd fn)) (f := fun k => (refV Es).getD k .non) Wk (fun H' s' => SqL.of (s' _ _ e2)) (by omega) (fun j hj H32 s32 Rr rr => ?_) (fun j hj _ H32 s32 Rr rr => ?_) (fun N H32 hN s32 e32 => ?_)
    · obtain ⟨e, hE, eD, ed⟩ := it j hj
      rw [ed] at rr
      rw [refV_get hE]
      obtain ⟨o1, o2, o3'⟩ := okD _ eD
      walk_at "go2"
      refine ⟨q, e.2, nh, ls, fn, e.1.a, a, e.1.s, s0, e.1.b, b, rfl, fl.same s32, fE, HalfD.same (e3 e (List.mem_of_getElem? hE)) s32, hnh.same s32, o1, ma, o2, hs, by omega, by omega, fun rb H33 s33 ar => ?_⟩
      have key := apartR_iff hn ok o1 ma o2 hs ar
      have e4 : rb = inB fn ls (e.1.sd fn) (nv.sd fn) := by
        rw [Bool.eq_iff_iff, inB_iff, key, in_iff, hnv]
        exact Iff.rfl
      rw [e4]
      exact ⟨_, rfl, rr H33 s33⟩
    · obtain ⟨e, hE, eD, ed⟩ := it j hj
      rw [refV_get hE] at rr ⊢
      walk_at "go2"
      exact rr H32 (Same.refl _)
    have anyI : (∃ d ∈ D.map (Hv.sd fn), In fn ls d (nv.sd fn)) ↔ ¬ (List.range Es.length).filter (fun k => inB fn ls ((D.getD k ⟨[], 0, false⟩).sd fn) (nv.sd fn)) = [] := by
      rw [List.filter_eq_nil_iff]
      constructor
      · rintro ⟨d, hd, hi⟩ h
        obtain ⟨v, hv, rfl⟩ := List.mem_map.mp hd
        obtain ⟨k, hk, rfl⟩ := List.getElem_of_mem hv
        refine h k (List.mem_range.mpr (by omega)) ?_
        rw [List.getD_eq_getElem?_getD, List.getElem?_eq_getElem hk]
        exact inB_iff.mpr hi
      · intro h
        apply Classical.byContradiction
        intro z
        apply h
        intro k hk hi
        have hk : k < D.length := by
          have := List.mem_range.mp hk
          omega
        rw [List.getD_eq_getElem?_getD, List.getElem?_eq_getElem hk] at hi
        exact z ⟨_, List.mem_map.mpr ⟨_, List.getElem_mem hk, rfl⟩, inB_iff.mp hi⟩
    generalize (List.range Es.length).filter (fun k => inB fn ls ((D.getD k ⟨[], 0, false⟩).sd fn) (nv.sd fn)) = Li at e32 anyI
    replace pl := pl.same s32
    replace lt := lt.keep s32
    replace lt3 := lt3.keep s32
    replace p27 := p27.same s32
    clear s32 fl e2 e3 hnh it Wk
    walk_at "go2"
    refine e_cut (fun v H' => v = .bl (decide (o = o3)) ∧ Same H32 H') ?_ ?_
    · walk_at "go2"
      cases eb with
      | true =>
        have on : o = none := by
          cases o with
          | none => rfl
          | some D' => cases eo
        refine ⟨?_, Same.refl _⟩
        rw [decide_eq_true (more.mpr (.inl (ow.none.mp on)))]
      | false =>
        have pw : Pw fn ls (D.map (Hv.sd fn)) := Classical.byContradiction fun z => by
          rw [ow.none.mpr z] at eo
          cases eo
        walk_at "go2"
        intro n5 H33 hn5 s33 en5
        cases Li with
        | nil =>
          refine v_neLsame (As := []) (s33 _ _ e32) en5 ?_
          refine ⟨?_, s33⟩
          rw [decide_eq_false fun z => (more.mp z).elim (fun y => y pw) fun y => anyI.mp y rfl]
        | cons c0 Lr =>
          refine v_neL (s33 _ _ e32) en5 (by simp) ?_
          refine ⟨?_, s33⟩
          rw [decide_eq_true (more.mpr (.inr (anyI.mpr fun z => nomatch z)))]
    rintro v H33 ⟨rfl, s33⟩
    replace pl := pl.same s33
    replace lt := lt.keep s33
    replace lt3 := lt3.keep s33
    replace p27 := p27.same s33
    obtain ⟨dl, vl, ql, f1, f2, f3⟩ := lt.ex
    obtain ⟨dm, vm, qm, u1, u2, u3⟩ := lt3.ex
    walk_at "go2"
    refine v_M2 f1 u1 ⟨l, x, ml, x, o, o3, true, rfl, lt, lt3, ⟨_, _, _, _, pl, pl, psk, psk, (decide_eq_true ⟨rfl, rfl⟩).symm⟩, smD, sm3, ?_⟩
    rw [Bool.true_and]
    walk_at "go2"
    refine v_M2n f1 u1 ⟨l, x, ml, x, o, o3, true, rfl, lt, lt3, ⟨_, _, _, _, pl, pl, psk, psk, (decide_eq_true ⟨rfl, rfl⟩).symm⟩, smD, sm3, _, rfl, ?_⟩
    rw [Bool.true_and]
    walk_at "go2"
    rw [show decide (V.bl (!decide (o = o3)) = V.bl (decide (o = o3))) = false from by cases decide (o = o3) <;> rfl]
    walk_at "go2"
    exact hDn _ _ ⟨_, _, _, _, _, _, _, _, _, _, _, _, _, _, _, _, _, _, _, rfl, p27.mono (by omega)⟩
  · rintro σ H2 ⟨x2, x3, x4, x5, x6, x7, x8, x9, x10, x11, x12, x13, x14, x15, x16, x17, x18, x19, x20, rfl, p3⟩
    walk_at "go"
    exact k _
end
end
section
open PySem PySem.Spec L2
theorem end29 {w : World} {K : PySem.W.Frag} {mg : Str → Option Value} {C R O W HC L fa e0 eL : Addr} {fd : FuncData} {t1 t2 t3 : Tok} {dd0 ddL : Option Addr} {n0 nL : Nat} {sl0 slL : Array (Option Value)}
    (c_Plan : ClsF K mg "Plan" C)
    (c_Room : ClsF K mg "Room" R)
    (c_Wall : ClsF K mg "Wall" W)
    (c_Half : ClsF K mg "Half" HC)
    (c_Lot : ClsF K mg "Lot" L)
    (e_OtherPlan : ExcF K mg "OtherPlan" O)
    (F_stepped : FnAt K mg "stepped" ststepped)
    (F_joined : FnAt K mg "joined" stjoined)
    (F_turned_back : FnAt K mg "turned_back" stturned_back)
    (F_way_from : FnAt K mg "way_from" stway_from)
    (F_still_free : FnAt K mg "still_free" ststill_free)
    (F_first_kinds : FnAt K mg "first_kinds" stfirst_kinds)
    (F_last_kinds : FnAt K mg "last_kinds" stlast_kinds)
    (F_split_ahead : FnAt K mg "split_ahead" stsplit_ahead)
    (F_without_end : FnAt K mg "without_end" stwithout_end)
    (F_wall_start : FnAt K mg "wall_start" stwall_start)
    (F_is_list : FnAt K mg "is_list" stis_list)
    (F_is_kind : FnAt K mg "is_kind" stis_kind)
    (F_need_kind : FnAt K mg "need_kind" stneed_kind)
    (F_need_way : FnAt K mg "need_way" stneed_way)
    (F_need_same : FnAt K mg "need_same" stneed_same)
    (F_are_letters : FnAt K mg "are_letters" stare_letters)
    (F_ascending : FnAt K mg "ascending" stascending)
    (F_checked_pairs : FnAt K mg "checked_pairs" stchecked_pairs)
    (F_need_few : FnAt K mg "need_few" stneed_few)
    (F_crossing_table : FnAt K mg "crossing_table" stcrossing_table)
    (F_way_between : FnAt K mg "way_between" stway_between)
    (F_is_on : FnAt K mg "is_on" stis_on)
    (F_without_first : FnAt K mg "without_first" stwithout_first)
    (F_without_last : FnAt K mg "without_last" stwithout_last)
    (F_cut_back : FnAt K mg "cut_back" stcut_back)
    (F_beside_kinds : FnAt K mg "beside_kinds" stbeside_kinds)
    (F_gate_on : FnAt K mg "gate_on" stgate_on)
    (F_lies_in : FnAt K mg "lies_in" stlies_in)
    (F_meet : FnAt K mg "meet" stmeet)
    (F_in_order : FnAt K mg "in_order" stin_order)
    (F_ordered_sides : FnAt K mg "ordered_sides" stordered_sides)
    (F_gate_in : FnAt K mg "gate_in" stgate_in)
    (F_least_sides : FnAt K mg "least_sides" stleast_sides)
    (F_half_of : FnAt K mg "half_of" sthalf_of)
    (F_turnS : FnAt K mg "turned" stturnS)
    (F_pen : FnAt K mg "_law_begin" stpen)
    (F_draw : FnAt K mg "_law_draw" stdraw)
    (F_pick2 : FnAt K mg "_law_pick" stpick2)
    (F_shuf2 : FnAt K mg "_law_shuffled" stshuf2)
    (F_iscr : FnAt K mg "_law_is_crossing" stiscr)
    (F_dfloor : FnAt K mg "_law_drawn_floor" stdfloor)
    (F_asplan : FnAt K mg "_law_as_plan" stasplan)
    (F_dway : FnAt K mg "_law_drawn_way" stdway)
    (F_turned : FnAt K mg "_law_turned" stturned)
    (F_isbey : FnAt K mg "_law_is_beyond" stisbey)
    (F_rootof : FnAt K mg "_law_root_of" strootof)
    (F_halfof : FnAt K mg "_law_half_of" sthalfof)
    (F_has : FnAt K mg "_law_has" sthas)
    (F_turnH : FnAt K mg "_law_turned_half" stturnH)
    (F_prod2 : FnAt K mg "_law_product" stprod2)
    (F_apart2 : FnAt K mg "_law_are_apart" stapart2)
    (F_liesH : FnAt K mg "_law_lies_in" stliesH)
    (F_drawnH : FnAt K mg "_law_drawn_half" stdrawnH)
    (F_drawnHs : FnAt K mg "_law_drawn_halves" stdrawnHs)
    (F_asHalf : FnAt K mg "_law_as_half" stasHalf)
    (F_asLot : FnAt K mg "_law_as_lot" stasLot)
    (F_inAll : FnAt K mg "_law_in_all" stinAll)
    (F_isEmpty : FnAt K mg "_law_is_empty" stisEmpty)
    (F_alone : FnAt K mg "_law_is_alone" stalone)
    (F_law : Fun K "law" "law" stlaw fa fd)
    (F_Plan_eq : MAt K C "__eq__" "Plan.__eq__" stPlan_eq)
    (F_Plan_crossesK : MAt K C "crosses" "Plan.crosses" stPlan_crossesK)
    (F_Plan_init : MAtD K C "__init__" "Plan.__init__" stPlan_init [.ref e0])
    (F_Room_init : MAtD K R "__init__" "Room.__init__" stRoom_init [.str (tx [])])
    (F_Wall_init : MAt K W "__init__" "Wall.__init__" stWall_init)
    (F_Half_init : MAtD K HC "__init__" "Half.__init__" stHalf_init [.bl false])
    (F_Lot_init : MAtD K L "__init__" "Lot.__init__" stLot_init [.ref eL])
    (F_Room_eq : MAt K R "__eq__" "Room.__eq__" stRoom_eq)
    (F_Wall_beyond : MAt K W "beyond" "Wall.beyond" stWall_beyond)
    (F_Half_beside : StAt K HC "beside" "Half.beside" stHalf_beside)
    (F_Half_invert : MAt K HC "__invert__" "Half.__invert__" stHalf_invert)
    (F_Half_eq : MAt K HC "__eq__" "Half.__eq__" stHalf_eq)
    (F_Lot_bool : MAt K L "__bool__" "Lot.__bool__" stLot_bool)
    (F_Lot_contains : MAt K L "__contains__" "Lot.__contains__" stLot_contains)
    (F_Lot_eq : MAt K L "__eq__" "Lot.__eq__" stLot_eq)
    (z_len : mg "len" = none)
    (z_int : mg "int" = none)
    (z_list : mg "list" = none)
    (z_isinstance : mg "isinstance" = none)
    (z_str : mg "str" = none)
    (z_all : mg "all" = none)
    (z_any : mg "any" = none)
    (z_set : mg "set" = none)
    (z_tuple : mg "tuple" = none)
    (z_enumerate : mg "enumerate" = none)
    (z_range : mg "range" = none)
    (z_min : mg "min" = none)
    (z_max : mg "max" = none)
    (z_sorted : mg "sorted" = none)
    (z_dict : mg "dict" = none)
    (z_bool : mg "bool" = none)
    (n_C_kinds : NoAttr K C "kinds")
    (n_C_pairs : NoAttr K C "pairs")
    (n_C_own_crossing : NoAttr K C "own_crossing")
    (n_R_plan : NoAttr K R "plan")
    (n_R_name : NoAttr K R "name")
    (n_W_plan : NoAttr K W "plan")
    (n_W_kind : NoAttr K W "kind")
    (n_W_room : NoAttr K W "room")
    (n_HC_wall : NoAttr K HC "wall")
    (n_HC_far : NoAttr K HC "far")
    (n_HC_plan : NoAttr K HC "plan")
    (n_HC_own_side : NoAttr K HC "own_side")
    (n_L_plan : NoAttr K L "plan")
    (n_L_own_sides : NoAttr K L "own_sides")
    (n_L_halves : NoAttr K L "halves")
    (g_LETTERS : mg "LETTERS" = some (.str (tx LET) t1))
    (g_MOST_KINDS : mg "MOST_KINDS" = some (.int 8 t2))
    (g_MOST_LETTERS : mg "MOST_LETTERS" = some (.int 2000 t3))
    (ke0 : K.lookup e0 = some ⟨.type "tuple", dd0, .seq #[] n0, sl0⟩)
    (keL : K.lookup eL = some ⟨.type "tuple", ddL, .seq #[] nL, slL⟩)
    (sR : PySem.W.kitOne K (.type "str") (.ref R) = some false)
    (sL : PySem.W.kitOne K (.type "str") (.ref L) = some false)
    (kCR : PySem.W.kitOne K (.ref C) (.ref R) = some false)
    (kCL : PySem.W.kitOne K (.ref C) (.ref L) = some false)
    (kWHC : PySem.W.kitOne K (.ref W) (.ref HC) = some false)
    (kRHC : PySem.W.kitOne K (.ref R) (.ref HC) = some false)
    (kRL : PySem.W.kitOne K (.ref R) (.ref L) = some false)
    (kLR : PySem.W.kitOne K (.ref L) (.ref R) = some false)
    (kLHC : PySem.W.kitOne K (.ref L) (.ref HC) = some false)
    (kLW : PySem.W.kitOne K (.ref L) (.ref W) = some false) (base : Heap) : FnOk PySem.Challenge.pw_crosswalls_k29_lots_hold_rooms w K mg base CX0 13 fa fd ["_law_script"] (spLaw K) := by
  have T : Txt K mg := ⟨z_len, z_int, z_list⟩
  have TP : TxtP K mg C := ⟨z_len, z_int, z_list, z_isinstance, z_str, z_all, z_set, z_tuple, ⟨_, g_LETTERS⟩, ⟨_, g_MOST_KINDS⟩, c_Plan, n_C_kinds, n_C_pairs, n_C_own_crossing⟩
  have TR : TxtR K mg C R O := ⟨TP, z_enumerate, ⟨_, g_MOST_LETTERS⟩, c_Room, n_R_plan, n_R_name, e_OtherPlan⟩
  have TW : TxtW K mg C R O W := ⟨TR, c_Wall, n_W_plan, n_W_kind, n_W_room⟩
  have TF : TxtF K mg := ⟨T, z_range, z_min, z_max, z_sorted, z_str⟩
  have THf : TxtHf K mg C R O W HC := ⟨TW, z_bool, c_Half, n_HC_wall, n_HC_far, n_HC_plan, n_HC_own_side⟩
  have TO : TxtO K mg := ⟨z_sorted, z_len, z_str⟩
  have TLt : TxtLt K mg C R O W HC := ⟨THf, z_any⟩
  have TLo : TxtLot K mg C R O W HC L := ⟨TLt, c_Lot, n_L_plan, n_L_own_sides, n_L_halves⟩
  have TAl : TxtAl2 K mg C R O W HC L := ⟨TLo, sR, sL, kCR, kCL, kRL, kLR⟩
  have TL : TxtL29 K mg C R O W HC L := ⟨TAl, z_range⟩
  have ne : ∀ {X Y : Addr}, PySem.W.kitOne K (.ref X) (.ref Y) = some false → X ≠ Y := fun h e => by
    rw [e, kit_same] at h
    cases h
  have ap : Apart5 C R W HC L := ⟨fun e => ne kWHC e.symm, fun e => ne kRHC e.symm, ne kLHC, ne kLW, ne kLR, fun e => ne kCL e.symm⟩
  have kt : ∀ H : Hp, SeqO K H e0 [] := fun H => .inr (.inr ⟨rfl, _, n0, ke0, rfl, rfl⟩)
  have kL : ∀ H : Hp, SeqO K H eL [] := fun H => .inr (.inr ⟨rfl, _, nL, keL, rfl, rfl⟩)
  have D_draw := ok_draw (P := PySem.Challenge.pw_crosswalls_k29_lots_hold_rooms) (w := w) (base := base) F_draw T
  have D_pen := ok_pen (P := PySem.Challenge.pw_crosswalls_k29_lots_hold_rooms) (w := w) (base := base) F_pen T
  have D_are := ok_are_letters (P := PySem.Challenge.pw_crosswalls_k29_lots_hold_rooms) (w := w) (base := base) F_are_letters TP
  have D_asc := ok_ascending (P := PySem.Challenge.pw_crosswalls_k29_lots_hold_rooms) (w := w) (base := base) F_ascending TP
  have D_isl := ok_is_list (P := PySem.Challenge.pw_crosswalls_k29_lots_hold_rooms) (w := w) (base := base) F_is_list TP
  have D_few := ok_need_few (P := PySem.Challenge.pw_crosswalls_k29_lots_hold_rooms) (w := w) (base := base) F_need_few TP
  have D_chk := ok_checked_pairs F_checked_pairs TP D_isl D_are D_asc
  have D_tab := ok_crossing_table (P := PySem.Challenge.pw_crosswalls_k29_lots_hold_rooms) (w := w) (base := base) F_crossing_table TP
  have X_Plan := ok_Plan F_Plan_init rfl TP D_are D_asc D_chk D_few D_tab
  have C_Plan_1 := X_Plan.kw 1 [] [.pos 0, .dfl 0] (by simp) fun T kV doc pm an cdv ct us its ws l1 l2 l3 => by
    match us, l1, its, l2, ws, l3 with
    | [_, _], _, [_], _, [], _ => exact ⟨_, rfl, rfl⟩
  have M_Plan_eq := ok_Plan_eq (P := PySem.Challenge.pw_crosswalls_k29_lots_hold_rooms) (w := w) (mg := mg) (base := base) F_Plan_eq TP
  have D_st := ok_stepped (P := PySem.Challenge.pw_crosswalls_k29_lots_hold_rooms) (w := w) (base := base) F_stepped TP
  have D_jo := ok_joined F_joined D_st
  have D_tb := ok_turned_back F_turned_back D_jo
  have D_wf := ok_way_from F_way_from D_jo D_tb
  have D_ns := ok_need_same F_need_same TR M_Plan_eq
  have D_sf := ok_still_free (P := PySem.Challenge.pw_crosswalls_k29_lots_hold_rooms) (w := w) (base := base) F_still_free TP
  have D_fk := ok_first_kinds F_first_kinds TP D_sf
  have D_lk := ok_last_kinds F_last_kinds D_fk
  have D_sa := ok_split_ahead F_split_ahead TR D_sf
  have D_we := ok_without_end F_without_end D_sa
  have D_ws := ok_wall_start F_wall_start TR D_lk D_st D_we
  have D_nw := ok_need_way (P := PySem.Challenge.pw_crosswalls_k29_lots_hold_rooms) (w := w) (base := base) F_need_way TR
  have D_ik := ok_is_kind (P := PySem.Challenge.pw_crosswalls_k29_lots_hold_rooms) (w := w) (base := base) F_is_kind TP
  have D_nk := ok_need_kind F_need_kind D_ik
  have X_Room := ok_Room F_Room_init rfl TR D_nw D_jo
  have C_Room_1 := X_Room.kw 1 [] [.pos 0, .dfl 0] (by simp) fun T kV doc pm an cdv ct us its ws l1 l2 l3 => by
    match us, l1, its, l2, ws, l3 with
    | [_, _], _, [_], _, [], _ => exact ⟨_, rfl, rfl⟩
  have M_eq := ok_Room_eq F_Room_eq TR M_Plan_eq
  have X_Wall := ok_Wall F_Wall_init TW D_nk D_ws X_Room.cdef
  have M_by := ok_Wall_beyond F_Wall_beyond TW D_ns D_wf D_fk
  have D_wb := ok_way_between F_way_between D_jo D_tb
  have D_on := ok_is_on F_is_on D_fk D_wb
  have X_Half := ok_Half (P := PySem.Challenge.pw_crosswalls_k29_lots_hold_rooms) (w := w) (base := base) F_Half_init rfl THf
  have C_Half_1 := X_Half.kw 1 [] [.pos 0, .dfl 0] (by simp) fun T kV doc pm an cdv ct us its ws l1 l2 l3 => by
    match us, l1, its, l2, ws, l3 with
    | [_, _], _, [_], _, [], _ => exact ⟨_, rfl, rfl⟩
  have C_Half_1_far := X_Half.kw 1 ["far"] [.pos 0, .kw 0] (by simp) fun T kV doc pm an cdv ct us its ws l1 l2 l3 => by
    match us, l1, its, l2, ws, l3 with
    | [_, _], _, [_], _, [_], _ => exact ⟨_, rfl, rfl⟩
  have S_be := ok_Half_beside F_Half_beside THf X_Wall.cdef M_by.calm X_Half.cdef
  have M_inv := ok_Half_invert F_Half_invert THf X_Half.cdef
  have M_heq := ok_Half_eq F_Half_eq THf M_Plan_eq
  have D_wfi := ok_without_first (P := PySem.Challenge.pw_crosswalls_k29_lots_hold_rooms) (w := w) (base := base) F_without_first
  have D_wla := ok_without_last F_without_last D_wfi
  have L_lk := ok_lk F_last_kinds D_fk
  have D_cb := ok_cut_back F_cut_back L_lk D_wla
  have M_cr := ok_Plan_crossesK F_Plan_crossesK TP D_nk
  have D_bk := ok_beside_kinds F_beside_kinds TP M_cr
  have D_go := ok_gate_on F_gate_on D_on D_cb D_wb D_bk D_jo
  have D_me := ok_meetS F_meet D_on D_go
  have D_tu := ok_turnS (P := PySem.Challenge.pw_crosswalls_k29_lots_hold_rooms) (w := w) (base := base) F_turnS
  have D_li := ok_liesS F_lies_in D_me D_tu
  have D_io := ok_in_order (P := PySem.Challenge.pw_crosswalls_k29_lots_hold_rooms) (w := w) (base := base) F_in_order TO
  have D_os := ok_ordered F_ordered_sides THf D_io
  have D_gi := ok_gate_in F_gate_in D_go
  have D_le := ok_least F_least_sides TLt D_os D_gi D_on D_li
  have D_ho := ok_half_ofS F_half_of X_Room.cdef X_Wall.cdef X_Half.cdef
  have X_Lot := ok_Lot F_Lot_init rfl TLo D_ns.calm D_le D_ho
  have C_Lot_1 := X_Lot.kw 1 [] [.pos 0, .dfl 0] (by simp) fun T kV doc pm an cdv ct us its ws l1 l2 l3 => by
    match us, l1, its, l2, ws, l3 with
    | [_, _], _, [_], _, [], _ => exact ⟨_, rfl, rfl⟩
  have M_lb := ok_Lot_bool (P := PySem.Challenge.pw_crosswalls_k29_lots_hold_rooms) (w := w) (base := base) F_Lot_bool TLo
  have M_lin := ok_Lot_in F_Lot_contains TLo M_Plan_eq D_on
  have M_linN := ok_Lot_inN F_Lot_contains TLo M_Plan_eq D_on
  have M_leq := ok_Lot_eq F_Lot_eq TLo M_Plan_eq
  have M_leqN := ok_Lot_eqN F_Lot_eq TLo M_Plan_eq
  have D_pick := ok_pick2 F_pick2 T D_draw
  have D_shuf := ok_shuf2 F_shuf2 T D_draw
  have D_iscr := ok_iscr F_iscr T D_draw
  have D_floor := ok_dfloor F_dfloor TF D_draw D_pick D_shuf D_iscr
  have D_plan := ok_asplan F_asplan TP D_draw D_pick D_shuf X_Plan.cdef
  have D_way := ok_dway F_dway TF D_draw D_pick
  have D_turned := ok_turned (P := PySem.Challenge.pw_crosswalls_k29_lots_hold_rooms) (w := w) (base := base) F_turned TF
  have D_isbey := ok_isbey F_isbey TF D_turned
  have D_root := ok_rootof F_rootof TF D_turned
  have D_half := ok_halfof F_halfof D_root
  have D_has := ok_has F_has D_isbey
  have D_th := ok_turnH (P := PySem.Challenge.pw_crosswalls_k29_lots_hold_rooms) (w := w) (base := base) F_turnH
  have D_pr := ok_prod2 (P := PySem.Challenge.pw_crosswalls_k29_lots_hold_rooms) (w := w) (base := base) F_prod2 TF
  have D_ap := ok_apart2 F_apart2 D_pr D_has
  have D_lh := ok_liesH F_liesH D_ap D_th
  have D_dh := ok_drawnH F_drawnH D_way D_draw D_pick D_half D_root D_isbey
  have D_dhs := ok_drawnHs F_drawnHs TF D_draw D_pick D_dh D_th
  have D_ah := ok_asHalf F_asHalf THf D_draw X_Plan.cdef X_Room.cdef X_Wall.cdef X_Half.cdef C_Half_1_far M_inv S_be
  have D_ie := ok_isEmpty F_isEmpty TF D_ap
  have D_ia := ok_inAll F_inAll TLo D_has
  have D_al := ok_asLot F_asLot TLo kL D_draw D_shuf D_ah X_Lot.cdef C_Lot_1
  have D_alone := ok_alone2 F_alone TAl kt kL X_Plan.cdef C_Plan_1 C_Room_1 C_Lot_1 M_Plan_eq M_lin M_linN M_leq M_leqN
  exact ok_law29 F_law TL ap D_pen D_draw D_pick D_floor D_plan D_way D_dh D_dhs D_ah D_ie D_ia D_lh D_al D_alone X_Lot.cdef X_Room.cdef M_Plan_eq M_heq M_lb M_lin M_leq
end
end Cw
set_option Elab.async false
set_option linter.all false
set_option maxRecDepth 100000
open PySem PySem.W PyProof.Rows
set_option maxRecDepth 100000 in
set_option maxHeartbeats 0 in
theorem PySem.Challenge.cw_crosswalls_k29_lots_hold_rooms_holds : PySem.Challenge.rw_crosswalls_k29_lots_hold_rooms.Holds := by
  refine Cw.headOf ?_
  k_fill
  refine Cw.end_walk (l := PySem.Challenge.rw_crosswalls_k29_lots_hold_rooms) (k := 13) (x := "_law_script") (sp := Cw.spLaw) rfl rfl ⟨rfl, by decide, by decide⟩ (fun w h Y => PySem.W.kIn_of Y) (fun _ _ a ns hl _ hS => ⟨a, ns, rfl, hS, hl, fun _ => rfl⟩) ?F
  case F =>
    intro w mg fa h KX G hmg
    refine' ⟨_, fun s v => ?b, fun base _ _ => ?h⟩
    case h =>
      refine' Cw.end29 ?c_Plan ?c_Room ?c_Wall ?c_Half ?c_Lot ?e_OtherPlan ?F_stepped ?F_joined ?F_turned_back ?F_way_from ?F_still_free ?F_first_kinds ?F_last_kinds ?F_split_ahead ?F_without_end ?F_wall_start ?F_is_list ?F_is_kind ?F_need_kind ?F_need_way ?F_need_same ?F_are_letters ?F_ascending ?F_checked_pairs ?F_need_few ?F_crossing_table ?F_way_between ?F_is_on ?F_without_first ?F_without_last ?F_cut_back ?F_beside_kinds ?F_gate_on ?F_lies_in ?F_meet ?F_in_order ?F_ordered_sides ?F_gate_in ?F_least_sides ?F_half_of ?F_turnS ?F_pen ?F_draw ?F_pick2 ?F_shuf2 ?F_iscr ?F_dfloor ?F_asplan ?F_dway ?F_turned ?F_isbey ?F_rootof ?F_halfof ?F_has ?F_turnH ?F_prod2 ?F_apart2 ?F_liesH ?F_drawnH ?F_drawnHs ?F_asHalf ?F_asLot ?F_inAll ?F_isEmpty ?F_alone ?F_law ?F_Plan_eq ?F_Plan_crossesK ?F_Plan_init ?F_Room_init ?F_Wall_init ?F_Half_init ?F_Lot_init ?F_Room_eq ?F_Wall_beyond ?F_Half_beside ?F_Half_invert ?F_Half_eq ?F_Lot_bool ?F_Lot_contains ?F_Lot_eq ?z_len ?z_int ?z_list ?z_isinstance ?z_str ?z_all ?z_any ?z_set ?z_tuple ?z_enumerate ?z_range ?z_min ?z_max ?z_sorted ?z_dict ?z_bool ?n_C_kinds ?n_C_pairs ?n_C_own_crossing ?n_R_plan ?n_R_name ?n_W_plan ?n_W_kind ?n_W_room ?n_HC_wall ?n_HC_far ?n_HC_plan ?n_HC_own_side ?n_L_plan ?n_L_own_sides ?n_L_halves ?g_LETTERS ?g_MOST_KINDS ?g_MOST_LETTERS ?ke0 ?keL ?sR ?sL ?kCR ?kCL ?kWHC ?kRHC ?kRL ?kLR ?kLHC ?kLW base
      case c_Plan => refine' Cw.cls_mk KX G ?a ?pg ?hd ?po ?sa ?mk ?kc ?ha ?hn ?ht ?hm ?ob ?ne; (case a => k_is); (case pg => k_is); (case hd => k_is); (case po => k_is); (case sa => k_is); (case mk => k_is); (case kc => k_is); (case ha => k_is); (case hn => k_is); (case ht => k_is); (case hm => k_is); (case ob => k_is); (case ne => k_is)
      case c_Room => refine' Cw.cls_mk KX G ?a ?pg ?hd ?po ?sa ?mk ?kc ?ha ?hn ?ht ?hm ?ob ?ne; (case a => k_is); (case pg => k_is); (case hd => k_is); (case po => k_is); (case sa => k_is); (case mk => k_is); (case kc => k_is); (case ha => k_is); (case hn => k_is); (case ht => k_is); (case hm => k_is); (case ob => k_is); (case ne => k_is)
      case c_Wall => refine' Cw.cls_mk KX G ?a ?pg ?hd ?po ?sa ?mk ?kc ?ha ?hn ?ht ?hm ?ob ?ne; (case a => k_is); (case pg => k_is); (case hd => k_is); (case po => k_is); (case sa => k_is); (case mk => k_is); (case kc => k_is); (case ha => k_is); (case hn => k_is); (case ht => k_is); (case hm => k_is); (case ob => k_is); (case ne => k_is)
      case c_Half => refine' Cw.cls_mk KX G ?a ?pg ?hd ?po ?sa ?mk ?kc ?ha ?hn ?ht ?hm ?ob ?ne; (case a => k_is); (case pg => k_is); (case hd => k_is); (case po => k_is); (case sa => k_is); (case mk => k_is); (case kc => k_is); (case ha => k_is); (case hn => k_is); (case ht => k_is); (case hm => k_is); (case ob => k_is); (case ne => k_is)
      case c_Lot => refine' Cw.cls_mk KX G ?a ?pg ?hd ?po ?sa ?mk ?kc ?ha ?hn ?ht ?hm ?ob ?ne; (case a => k_is); (case pg => k_is); (case hd => k_is); (case po => k_is); (case sa => k_is); (case mk => k_is); (case kc => k_is); (case ha => k_is); (case hn => k_is); (case ht => k_is); (case hm => k_is); (case ob => k_is); (case ne => k_is)
      case e_OtherPlan => refine' Cw.exc_mk KX G ?a ?e ?k ?ty ?hg ?hk ?hs ?hd ?ha ?hn ?ht ?hm; (case a => k_is); (case k => k_is); (case ty => k_is); (case hg => k_is); (case hk => k_is); (case hs => k_is); (case hd => k_is); (case ha => k_is); (case hn => k_is); (case ht => k_is); (case hm => k_is); (case e => k_exc)
      case F_stepped => refine' Cw.fnAt_mk KX G ?a ?l ?c ?k; (case a => k_is); (case l => k_is); (case c => k_is); (case k => k_is)
      case F_joined => refine' Cw.fnAt_mk KX G ?a ?l ?c ?k; (case a => k_is); (case l => k_is); (case c => k_is); (case k => k_is)
      case F_turned_back => refine' Cw.fnAt_mk KX G ?a ?l ?c ?k; (case a => k_is); (case l => k_is); (case c => k_is); (case k => k_is)
      case F_way_from => refine' Cw.fnAt_mk KX G ?a ?l ?c ?k; (case a => k_is); (case l => k_is); (case c => k_is); (case k => k_is)
      case F_still_free => refine' Cw.fnAt_mk KX G ?a ?l ?c ?k; (case a => k_is); (case l => k_is); (case c => k_is); (case k => k_is)
      case F_first_kinds => refine' Cw.fnAt_mk KX G ?a ?l ?c ?k; (case a => k_is); (case l => k_is); (case c => k_is); (case k => k_is)
      case F_last_kinds => refine' Cw.fnAt_mk KX G ?a ?l ?c ?k; (case a => k_is); (case l => k_is); (case c => k_is); (case k => k_is)
      case F_split_ahead => refine' Cw.fnAt_mk KX G ?a ?l ?c ?k; (case a => k_is); (case l => k_is); (case c => k_is); (case k => k_is)
      case F_without_end => refine' Cw.fnAt_mk KX G ?a ?l ?c ?k; (case a => k_is); (case l => k_is); (case c => k_is); (case k => k_is)
      case F_wall_start => refine' Cw.fnAt_mk KX G ?a ?l ?c ?k; (case a => k_is); (case l => k_is); (case c => k_is); (case k => k_is)
      case F_is_list => refine' Cw.fnAt_mk KX G ?a ?l ?c ?k; (case a => k_is); (case l => k_is); (case c => k_is); (case k => k_is)
      case F_is_kind => refine' Cw.fnAt_mk KX G ?a ?l ?c ?k; (case a => k_is); (case l => k_is); (case c => k_is); (case k => k_is)
      case F_need_kind => refine' Cw.fnAt_mk KX G ?a ?l ?c ?k; (case a => k_is); (case l => k_is); (case c => k_is); (case k => k_is)
      case F_need_way => refine' Cw.fnAt_mk KX G ?a ?l ?c ?k; (case a => k_is); (case l => k_is); (case c => k_is); (case k => k_is)
      case F_need_same => refine' Cw.fnAt_mk KX G ?a ?l ?c ?k; (case a => k_is); (case l => k_is); (case c => k_is); (case k => k_is)
      case F_are_letters => refine' Cw.fnAt_mk KX G ?a ?l ?c ?k; (case a => k_is); (case l => k_is); (case c => k_is); (case k => k_is)
      case F_ascending => refine' Cw.fnAt_mk KX G ?a ?l ?c ?k; (case a => k_is); (case l => k_is); (case c => k_is); (case k => k_is)
      case F_checked_pairs => refine' Cw.fnAt_mk KX G ?a ?l ?c ?k; (case a => k_is); (case l => k_is); (case c => k_is); (case k => k_is)
      case F_need_few => refine' Cw.fnAt_mk KX G ?a ?l ?c ?k; (case a => k_is); (case l => k_is); (case c => k_is); (case k => k_is)
      case F_crossing_table => refine' Cw.fnAt_mk KX G ?a ?l ?c ?k; (case a => k_is); (case l => k_is); (case c => k_is); (case k => k_is)
      case F_way_between => refine' Cw.fnAt_mk KX G ?a ?l ?c ?k; (case a => k_is); (case l => k_is); (case c => k_is); (case k => k_is)
      case F_is_on => refine' Cw.fnAt_mk KX G ?a ?l ?c ?k; (case a => k_is); (case l => k_is); (case c => k_is); (case k => k_is)
      case F_without_first => refine' Cw.fnAt_mk KX G ?a ?l ?c ?k; (case a => k_is); (case l => k_is); (case c => k_is); (case k => k_is)
      case F_without_last => refine' Cw.fnAt_mk KX G ?a ?l ?c ?k; (case a => k_is); (case l => k_is); (case c => k_is); (case k => k_is)
      case F_cut_back => refine' Cw.fnAt_mk KX G ?a ?l ?c ?k; (case a => k_is); (case l => k_is); (case c => k_is); (case k => k_is)
      case F_beside_kinds => refine' Cw.fnAt_mk KX G ?a ?l ?c ?k; (case a => k_is); (case l => k_is); (case c => k_is); (case k => k_is)
      case F_gate_on => refine' Cw.fnAt_mk KX G ?a ?l ?c ?k; (case a => k_is); (case l => k_is); (case c => k_is); (case k => k_is)
      case F_lies_in => refine' Cw.fnAt_mk KX G ?a ?l ?c ?k; (case a => k_is); (case l => k_is); (case c => k_is); (case k => k_is)
      case F_meet => refine' Cw.fnAt_mk KX G ?a ?l ?c ?k; (case a => k_is); (case l => k_is); (case c => k_is); (case k => k_is)
      case F_in_order => refine' Cw.fnAt_mk KX G ?a ?l ?c ?k; (case a => k_is); (case l => k_is); (case c => k_is); (case k => k_is)
      case F_ordered_sides => refine' Cw.fnAt_mk KX G ?a ?l ?c ?k; (case a => k_is); (case l => k_is); (case c => k_is); (case k => k_is)
      case F_gate_in => refine' Cw.fnAt_mk KX G ?a ?l ?c ?k; (case a => k_is); (case l => k_is); (case c => k_is); (case k => k_is)
      case F_least_sides => refine' Cw.fnAt_mk KX G ?a ?l ?c ?k; (case a => k_is); (case l => k_is); (case c => k_is); (case k => k_is)
      case F_half_of => refine' Cw.fnAt_mk KX G ?a ?l ?c ?k; (case a => k_is); (case l => k_is); (case c => k_is); (case k => k_is)
      case F_turnS => refine' Cw.fnAt_mk KX G ?a ?l ?c ?k; (case a => k_is); (case l => k_is); (case c => k_is); (case k => k_is)
      case F_pen => refine' Cw.fnAt_mk KX G ?a ?l ?c ?k; (case a => k_is); (case l => k_is); (case c => k_is); (case k => k_is)
      case F_draw => refine' Cw.fnAt_mk KX G ?a ?l ?c ?k; (case a => k_is); (case l => k_is); (case c => k_is); (case k => k_is)
      case F_pick2 => refine' Cw.fnAt_mk KX G ?a ?l ?c ?k; (case a => k_is); (case l => k_is); (case c => k_is); (case k => k_is)
      case F_shuf2 => refine' Cw.fnAt_mk KX G ?a ?l ?c ?k; (case a => k_is); (case l => k_is); (case c => k_is); (case k => k_is)
      case F_iscr => refine' Cw.fnAt_mk KX G ?a ?l ?c ?k; (case a => k_is); (case l => k_is); (case c => k_is); (case k => k_is)
      case F_dfloor => refine' Cw.fnAt_mk KX G ?a ?l ?c ?k; (case a => k_is); (case l => k_is); (case c => k_is); (case k => k_is)
      case F_asplan => refine' Cw.fnAt_mk KX G ?a ?l ?c ?k; (case a => k_is); (case l => k_is); (case c => k_is); (case k => k_is)
      case F_dway => refine' Cw.fnAt_mk KX G ?a ?l ?c ?k; (case a => k_is); (case l => k_is); (case c => k_is); (case k => k_is)
      case F_turned => refine' Cw.fnAt_mk KX G ?a ?l ?c ?k; (case a => k_is); (case l => k_is); (case c => k_is); (case k => k_is)
      case F_isbey => refine' Cw.fnAt_mk KX G ?a ?l ?c ?k; (case a => k_is); (case l => k_is); (case c => k_is); (case k => k_is)
      case F_rootof => refine' Cw.fnAt_mk KX G ?a ?l ?c ?k; (case a => k_is); (case l => k_is); (case c => k_is); (case k => k_is)
      case F_halfof => refine' Cw.fnAt_mk KX G ?a ?l ?c ?k; (case a => k_is); (case l => k_is); (case c => k_is); (case k => k_is)
      case F_has => refine' Cw.fnAt_mk KX G ?a ?l ?c ?k; (case a => k_is); (case l => k_is); (case c => k_is); (case k => k_is)
      case F_turnH => refine' Cw.fnAt_mk KX G ?a ?l ?c ?k; (case a => k_is); (case l => k_is); (case c => k_is); (case k => k_is)
      case F_prod2 => refine' Cw.fnAt_mk KX G ?a ?l ?c ?k; (case a => k_is); (case l => k_is); (case c => k_is); (case k => k_is)
      case F_apart2 => refine' Cw.fnAt_mk KX G ?a ?l ?c ?k; (case a => k_is); (case l => k_is); (case c => k_is); (case k => k_is)
      case F_liesH => refine' Cw.fnAt_mk KX G ?a ?l ?c ?k; (case a => k_is); (case l => k_is); (case c => k_is); (case k => k_is)
      case F_drawnH => refine' Cw.fnAt_mk KX G ?a ?l ?c ?k; (case a => k_is); (case l => k_is); (case c => k_is); (case k => k_is)
      case F_drawnHs => refine' Cw.fnAt_mk KX G ?a ?l ?c ?k; (case a => k_is); (case l => k_is); (case c => k_is); (case k => k_is)
      case F_asHalf => refine' Cw.fnAt_mk KX G ?a ?l ?c ?k; (case a => k_is); (case l => k_is); (case c => k_is); (case k => k_is)
      case F_asLot => refine' Cw.fnAt_mk KX G ?a ?l ?c ?k; (case a => k_is); (case l => k_is); (case c => k_is); (case k => k_is)
      case F_inAll => refine' Cw.fnAt_mk KX G ?a ?l ?c ?k; (case a => k_is); (case l => k_is); (case c => k_is); (case k => k_is)
      case F_isEmpty => refine' Cw.fnAt_mk KX G ?a ?l ?c ?k; (case a => k_is); (case l => k_is); (case c => k_is); (case k => k_is)
      case F_alone => refine' Cw.fnAt_mk KX G ?a ?l ?c ?k; (case a => k_is); (case l => k_is); (case c => k_is); (case k => k_is)
      case F_law => refine' Cw.fun1_mk KX G hmg ?a ?l ?c ?k; (case a => k_is); (case l => k_is); (case c => k_is); (case k => k_is)
      case F_Plan_eq => refine' Cw.mAt_mk ?a ?i ?l ?c ?k; (case a => k_is); (case i => k_is); (case l => k_is); (case c => k_is); (case k => k_is)
      case F_Plan_crossesK => refine' Cw.mAt_mk ?a ?i ?l ?c ?k; (case a => k_is); (case i => k_is); (case l => k_is); (case c => k_is); (case k => k_is)
      case F_Plan_init => refine' Cw.mAtD_mk ?a ?i ?l ?c ?k ?t ?v ?d; (case a => k_is); (case i => k_is); (case l => k_is); (case c => k_is); (case k => k_is); (case t => k_is); (case v => exact .cons rfl .nil); (case d => intro z; cases z)
      case F_Room_init => refine' Cw.mAtD_mk ?a ?i ?l ?c ?k ?t ?v ?d; (case a => k_is); (case i => k_is); (case l => k_is); (case c => k_is); (case k => k_is); (case t => k_is); (case v => exact .cons ⟨_, rfl⟩ .nil); (case d => intro z; cases z)
      case F_Wall_init => refine' Cw.mAt_mk ?a ?i ?l ?c ?k; (case a => k_is); (case i => k_is); (case l => k_is); (case c => k_is); (case k => k_is)
      case F_Half_init => refine' Cw.mAtD_mk ?a ?i ?l ?c ?k ?t ?v ?d; (case a => k_is); (case i => k_is); (case l => k_is); (case c => k_is); (case k => k_is); (case t => k_is); (case v => exact .cons rfl .nil); (case d => intro z; cases z)
      case F_Lot_init => refine' Cw.mAtD_mk ?a ?i ?l ?c ?k ?t ?v ?d; (case a => k_is); (case i => k_is); (case l => k_is); (case c => k_is); (case k => k_is); (case t => k_is); (case v => exact .cons rfl .nil); (case d => intro z; cases z)
      case F_Room_eq => refine' Cw.mAt_mk ?a ?i ?l ?c ?k; (case a => k_is); (case i => k_is); (case l => k_is); (case c => k_is); (case k => k_is)
      case F_Wall_beyond => refine' Cw.mAt_mk ?a ?i ?l ?c ?k; (case a => k_is); (case i => k_is); (case l => k_is); (case c => k_is); (case k => k_is)
      case F_Half_beside => refine' Cw.stAt_mk ?rd ?ga ?a ?r ?l ?c ?k; (case rd => k_is); (case ga => k_is); (case a => k_is); (case r => k_is); (case l => k_is); (case c => k_is); (case k => k_is)
      case F_Half_invert => refine' Cw.mAt_mk ?a ?i ?l ?c ?k; (case a => k_is); (case i => k_is); (case l => k_is); (case c => k_is); (case k => k_is)
      case F_Half_eq => refine' Cw.mAt_mk ?a ?i ?l ?c ?k; (case a => k_is); (case i => k_is); (case l => k_is); (case c => k_is); (case k => k_is)
      case F_Lot_bool => refine' Cw.mAt_mk ?a ?i ?l ?c ?k; (case a => k_is); (case i => k_is); (case l => k_is); (case c => k_is); (case k => k_is)
      case F_Lot_contains => refine' Cw.mAt_mk ?a ?i ?l ?c ?k; (case a => k_is); (case i => k_is); (case l => k_is); (case c => k_is); (case k => k_is)
      case F_Lot_eq => refine' Cw.mAt_mk ?a ?i ?l ?c ?k; (case a => k_is); (case i => k_is); (case l => k_is); (case c => k_is); (case k => k_is)
      case z_len => refine' PySem.W.mg_none_of KX G ?a; (case a => k_is)
      case z_int => refine' PySem.W.mg_none_of KX G ?a; (case a => k_is)
      case z_list => refine' PySem.W.mg_none_of KX G ?a; (case a => k_is)
      case z_isinstance => refine' PySem.W.mg_none_of KX G ?a; (case a => k_is)
      case z_str => refine' PySem.W.mg_none_of KX G ?a; (case a => k_is)
      case z_all => refine' PySem.W.mg_none_of KX G ?a; (case a => k_is)
      case z_any => refine' PySem.W.mg_none_of KX G ?a; (case a => k_is)
      case z_set => refine' PySem.W.mg_none_of KX G ?a; (case a => k_is)
      case z_tuple => refine' PySem.W.mg_none_of KX G ?a; (case a => k_is)
      case z_enumerate => refine' PySem.W.mg_none_of KX G ?a; (case a => k_is)
      case z_range => refine' PySem.W.mg_none_of KX G ?a; (case a => k_is)
      case z_min => refine' PySem.W.mg_none_of KX G ?a; (case a => k_is)
      case z_max => refine' PySem.W.mg_none_of KX G ?a; (case a => k_is)
      case z_sorted => refine' PySem.W.mg_none_of KX G ?a; (case a => k_is)
      case z_dict => refine' PySem.W.mg_none_of KX G ?a; (case a => k_is)
      case z_bool => refine' PySem.W.mg_none_of KX G ?a; (case a => k_is)
      case n_C_kinds => unfold L2.NoAttr; k_is
      case n_C_pairs => unfold L2.NoAttr; k_is
      case n_C_own_crossing => unfold L2.NoAttr; k_is
      case n_R_plan => unfold L2.NoAttr; k_is
      case n_R_name => unfold L2.NoAttr; k_is
      case n_W_plan => unfold L2.NoAttr; k_is
      case n_W_kind => unfold L2.NoAttr; k_is
      case n_W_room => unfold L2.NoAttr; k_is
      case n_HC_wall => unfold L2.NoAttr; k_is
      case n_HC_far => unfold L2.NoAttr; k_is
      case n_HC_plan => unfold L2.NoAttr; k_is
      case n_HC_own_side => unfold L2.NoAttr; k_is
      case n_L_plan => unfold L2.NoAttr; k_is
      case n_L_own_sides => unfold L2.NoAttr; k_is
      case n_L_halves => unfold L2.NoAttr; k_is
      case g_LETTERS => refine' Cw.glob_mk KX G ?a; (case a => k_is)
      case g_MOST_KINDS => refine' Cw.glob_mk KX G ?a; (case a => k_is)
      case g_MOST_LETTERS => refine' Cw.glob_mk KX G ?a; (case a => k_is)
      case ke0 => first | k_is | k_exc | kernel_rfl
      case keL => first | k_is | k_exc | kernel_rfl
      case sR => first | k_is | k_exc | kernel_rfl
      case sL => first | k_is | k_exc | kernel_rfl
      case kCR => first | k_is | k_exc | kernel_rfl
      case kCL => first | k_is | k_exc | kernel_rfl
      case kWHC => first | k_is | k_exc | kernel_rfl
      case kRHC => first | k_is | k_exc | kernel_rfl
      case kRL => first | k_is | k_exc | kernel_rfl
      case kLR => first | k_is | k_exc | kernel_rfl
      case kLHC => first | k_is | k_exc | kernel_rfl
      case kLW => first | k_is | k_exc | kernel_rfl
    case b => exact .of_eq rfl
