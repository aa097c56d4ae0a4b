import PyProof.Rows.All
import Wide.All
import OpenK.AllK
import Wide.FinOn
import PySem.Challenge.RW_numberbooks_k52_long_live_logs
import HandS.Base
import HandS.Call
import HandS.List
import HandS.Comp
import HandS.Codes
import HandS.OwnEq
import HandS.Ends
import HandS.Words
import PyProof.NoPylong
import PyProof.Fits
import HandS.ForMost
import HandS.IsInst
import HandS.Property
import HandS.MakeKwOnly
import HandS.WideBits
import HandS.Deep
import HandS.Wide
import PyProof.ReprRoads
import PyProof.ReprReads
import OpenK.KOps
import OpenK.KMeth
import HandS.Strs
import HandS.Text
import HandS.ForExc
import HandS.Iter
import PyProof.ReprLen
import HandS.Dict
import HandS.DictComp
import HandS.SortKw
import HandS.TupAny
import HandS.Small
import HandS.More
import HandS.Style
import HandS.Zip
import HandS.SetFor
import HandS.SortInts
import HandS.ExcInit
import HandS.ExcField
import HandS.ExcIs
import KE.KExcIs
import HandS.ClsMeth
import HandS.TryOnly
import HandS.HotCalls
import HandS.RaiseMore
import HandS.ExcOwn
import HandS.Defaults
import PyProof.StrBlock2
open PySem PySem.W PyProof.Rows
set_option Elab.async false
set_option maxRecDepth 100000
set_option maxHeartbeats 0
open_top hd for PySem.Challenge.rw_numberbooks_k52_long_live_logs

set_option Elab.async false
set_option linter.all false
set_option maxRecDepth 100000
/-! B1: rules whose readings compute: ints, tests, names -/
namespace NB
open PySem PySem.Spec PyProof.Rows L2

/-- two whole numbers, under C -/
@[reducible] def mI (C : Int → Int → Prop) (g : Int → Int → V) : R2 := fun x y H Q =>
  match x, y with
  | .int i, .int j => C i j ∧ Q (g i j) H
  | _, _ => False
@[reducible] def mI0 (g : Int → Int → V) : R2 := fun x y H Q =>
  match x, y with
  | .int i, .int j => Q (g i j) H
  | _, _ => False
@[reducible] def mU (g : Int → V) : V → Hp → VK → Prop := fun x H Q =>
  match x with
  | .int i => Q (g i) H
  | _ => False
section
variable {X : Cx}
theorem m_of {f : Value → Value → Sem Value} {C : Int → Int → Prop} {g : Int → Int → V} (h : OpR X f (rI C g)) : OpR X f (mI C g) := by
  intro pins s σ H x y v u Q I rx ry q
  cases x <;> cases y <;> first | exact False.elim q | exact h pins s σ H _ _ v u Q I rx ry ⟨_, _, rfl, rfl, q⟩
theorem m_of0 {f : Value → Value → Sem Value} {g : Int → Int → V} (h : OpR X f (rI0 g)) : OpR X f (mI0 g) := by
  intro pins s σ H x y v u Q I rx ry q
  cases x <;> cases y <;> first | exact False.elim q | exact h pins s σ H _ _ v u Q I rx ry ⟨_, _, rfl, rfl, q⟩
theorem m_ofU {f : Value → Sem Value} {g : Int → V} (h : UnR X f (rU g)) : UnR X f (mU g) := by
  intro pins s σ H x v Q I rx q
  cases x <;> first | exact False.elim q | exact h pins s σ H _ v Q I rx ⟨_, rfl, q⟩
/-- a divisor that is positive and has less than 9000 bits -/
def CDv (_ j : Int) : Prop := 0 < j ∧ j.natAbs.log2 < 9000
theorem o_fdiv : OpR X (binaryOp .FloorDiv) (rI CDv fun i j => .int (i / j)) := opI fun i j _ _ _ _ _ hc q => by
  have h1 : (0 : Int) < j := hc.1
  refine floordiv_int (by omega) ?_ (.inl (PyProof.noPylong_of_log2 hc.2))
  rw [Int.fdiv_eq_ediv_of_nonneg i (by omega)]
  exact q
theorem o_mul : OpR X (binaryOp .Mult) (rI IntMulOk fun i j => .int (i * j)) := opI fun _ _ _ _ _ _ _ hc q => mul_int q hc
theorem m_add : OpR X (binaryOp .Add) (mI0 fun i j => .int (i + j)) := m_of0 op_add
theorem m_sub : OpR X (binaryOp .Sub) (mI0 fun i j => .int (i - j)) := m_of0 op_sub
theorem m_mul : OpR X (binaryOp .Mult) (mI IntMulOk fun i j => .int (i * j)) := m_of o_mul
theorem m_div : OpR X (binaryOp .FloorDiv) (mI CDv fun i j => .int (i / j)) := m_of o_fdiv
theorem m_mod : OpR X (binaryOp .Mod) (mI (fun _ j => 0 < j) fun i j => .int (i % j)) := m_of op_mod
theorem m_pow : OpR X (binaryOp .Pow) (mI CPow fun i j => .int (i ^ j.toNat)) := m_of op_pow
theorem m_lt : OpR X (compareOp .Lt) (mI0 fun i j => .bl (decide (i < j))) := m_of0 op_lt
theorem m_le : OpR X (compareOp .LtE) (mI0 fun i j => .bl (decide (i ≤ j))) := m_of0 op_le
theorem m_gt : OpR X (compareOp .Gt) (mI0 fun i j => .bl (decide (j < i))) := m_of0 op_gt
theorem m_ge : OpR X (compareOp .GtE) (mI0 fun i j => .bl (decide (j ≤ i))) := m_of0 op_ge
theorem m_neg : UnR X (unaryOp .USub) (mU fun i => .int (-i)) := m_ofU un_neg
/-- == and != of numbers, texts, bools -/
@[reducible] def mEqG (f : Bool → Bool) : R2 := fun x y H Q =>
  match x, y with
  | .int i, .int j => Q (.bl (f (decide (i = j)))) H
  | .str i, .str j => Q (.bl (f (decide (i = j)))) H
  | .bl i, .bl j => Q (.bl (f (decide (i = j)))) H
  | _, _ => False
theorem dec_i {i j : Int} : decide (V.int i = V.int j) = decide (i = j) := by
  by_cases h : i = j
  · rw [h, decide_eq_true rfl, decide_eq_true rfl]
  · rw [decide_eq_false h, decide_eq_false (fun e => h (V.int.inj e))]
theorem dec_s {i j : Str} : decide (V.str i = V.str j) = decide (i = j) := by
  by_cases h : i = j
  · rw [h, decide_eq_true rfl, decide_eq_true rfl]
  · rw [decide_eq_false h, decide_eq_false (fun e => h (V.str.inj e))]
theorem dec_b {i j : Bool} : decide (V.bl i = V.bl j) = decide (i = j) := by
  cases i <;> cases j <;> rfl
theorem m_eq : OpR X (compareOp .Eq) (mEqG fun b => b) := by
  intro pins s σ H x y v u Q I rx ry q
  cases x <;> cases y <;> first | exact False.elim q | exact op_eq pins s σ H _ _ v u Q I rx ry ⟨rfl, by first | (rw [dec_i]; exact q) | (rw [dec_s]; exact q) | (rw [dec_b]; exact q)⟩
theorem m_ne : OpR X (compareOp .NotEq) (mEqG fun b => !b) := by
  intro pins s σ H x y v u Q I rx ry q
  cases x <;> cases y <;> first | exact False.elim q | exact op_ne pins s σ H _ _ v u Q I rx ry ⟨rfl, by first | (rw [dec_i]; exact q) | (rw [dec_s]; exact q) | (rw [dec_b]; exact q)⟩
end

/-- a value that is a bool, as a test -/
@[reducible] def kB (Q : Bool → Hp → Prop) : VK := fun x H => match x with
  | .bl c => Q c H
  | _ => False
@[reducible] def mT (t : TE) : TT := fun σ H Q => t σ H (kB Q)
section
variable {X : Cx} {a b c : Expr} {ta tb tc : TE} {pos : Pos}
theorem kB_ok {Q : Bool → Hp → Prop} {x : V} {H : Hp} (h : kB Q x H) : ∃ k, x = .bl k ∧ Q k H := by
  cases x <;> first | exact False.elim h | exact ⟨_, rfl, h⟩
/-- a comparison as a test -/
theorem qt {op : CmpOp} {r : R2} (ho : OpR X (compareOp op) r) (ha : PE X a ta) (hb : PE X b tb) (hm : behindInMarks op b = false) : PT X (.Compare a [op] [b] pos) (mT (tOp r ta tb)) := by
  refine ⟨fun pins s σ H Q I h => ?_⟩
  refine wpAny_isTrue_Compare1 (thn (ha.run pins s σ H _ I h) fun v s1 ⟨x, H1, I1, r1, q1⟩ => thn (hb.run pins s1 σ H1 _ I1 q1) fun u s2 ⟨y, H2, I2, r2, q2⟩ =>
    thn (ho pins s2 σ H2 x y v u _ I2 r1 r2 q2) fun d s3 ⟨z, H3, I3, r3, q3⟩ => ?_) hm
  obtain ⟨k, e, q4⟩ := kB_ok q3
  subst e
  cases r3
  exact wpAny_truthy_bool ⟨H3, I3, q4⟩
/-- an expression that gives a bool, as a test -/
theorem qv {e : Expr} {t : TE} (h : PE X e t) (he : ∀ whole, isTrue e X.env whole = (do let v ← whole; standAt e.pos; holding [v] (truthy v)) := by intro _; rfl) : PT X e (mT t) := by
  refine ⟨fun pins s σ H Q I hw => ?_⟩
  refine isTrue_plain (thn (h.run pins s σ H _ I hw) fun v s1 ⟨x, H1, I1, r1, q1⟩ => ?_) (he _)
  obtain ⟨k, e, q4⟩ := kB_ok q1
  subst e
  cases r1
  exact wpAny_truthy_bool ⟨H1, I1, q4⟩
end

/-- the value in slot i -/
@[reducible] def mV (i : Nat) : TE := fun σ H Q => match σ[i]? with
  | some (some v) => Q v H
  | _ => False
section
variable {X : Cx}
theorem mv (i : Nat) {x : Str} {pos : Pos} (hN : X.N[i]? = some x := by rfl) (hv : Vis X.env.scope x := by first | exact Or.inl rfl | exact Or.inr (Or.inl rfl) | exact Or.inr (Or.inr rfl)) (hd : (x == ("__debug__" : Str)) = false := by decide)
    (hcd : (x == ("__classdict__" : Str)) = false := by decide) : PE X (.Name x pos) (mV i) := by
  refine ⟨fun pins s σ H Q I h => (pe_var (pos := pos) hN hv hd hcd).run pins s σ H Q I ?_⟩
  unfold mV at h
  split at h
  · rename_i v e
    exact ⟨v, e, h⟩
  · exact h.elim
end

/-! ### tests -/
theorem ifD {p A B : Prop} [Decidable p] (h1 : p → A) (h2 : ¬ p → B) : if decide p = true then A else B := by
  by_cases h : p
  · rw [decide_eq_true h, if_pos rfl]; exact h1 h
  · rw [decide_eq_false h, if_neg Bool.false_ne_true]; exact h2 h
theorem ifND {p A B : Prop} [Decidable p] (h1 : ¬ p → A) (h2 : p → B) : if (!decide p) = true then A else B := by
  by_cases h : p
  · rw [decide_eq_true h]; exact (if_neg Bool.false_ne_true).mpr (h2 h)
  · rw [decide_eq_false h]; exact (if_pos rfl).mpr (h1 h)
theorem ifT {b : Bool} {A B : Prop} (hb : b = true) (h : A) : if b = true then A else B := by rw [if_pos hb]; exact h
theorem ifF {b : Bool} {A B : Prop} (hb : b = false) (h : B) : if b = true then A else B := by rw [hb, if_neg Bool.false_ne_true]; exact h

/-! ### heaps -/
/-- all that stood in H, but for what is in M, stands in H' -/
def Frm (M : List Addr) (H H' : Hp) : Prop := ∀ a o, H a = some o → a ∉ M → H' a = some o
theorem Frm.ext {M : List Addr} {H H' : Hp} (e : Ext H H') : Frm M H H' := fun a o h _ => e a o h
theorem Frm.trans {M : List Addr} {H H1 H2 : Hp} (a : Frm M H H1) (b : Frm M H1 H2) : Frm M H H2 := fun c o h n => b c o (a c o h n) n
theorem Frm.refl {M : List Addr} {H : Hp} : Frm M H H := fun _ _ h _ => h
theorem Frm.upd {M : List Addr} {H H1 : Hp} {p : Addr} {o : HO} (a : Frm M H H1) (h : p ∈ M) : Frm M H (L2.upd H1 p o) := fun c u e n => by
  rw [upd_ne (fun z => n (by rw [z]; exact h))]; exact a c u e n
theorem Frm.new {M : List Addr} {H H1 : Hp} {p : Addr} {o : HO} (a : Frm M H H1) (h : H1 p = none) : Frm M H (L2.upd H1 p o) := fun c u e n => by
  have e1 := a c u e n
  rw [upd_ne (ne_of_none e1 h)]; exact e1
theorem Frm.to_ext {H H' : Hp} (f : Frm [] H H') : Ext H H' := fun a o h => f a o h (by simp)
end NB

set_option Elab.async false
set_option linter.all false
set_option maxRecDepth 100000
/-! B2: items, own special methods, repr of data -/
namespace NB
open PySem PySem.Spec PyProof.Rows L2

/-- an item of a list or a tuple -/
@[reducible] def mIx (K : PySem.W.Frag) : R2 := fun x y H Q =>
  match x, y with
  | .ref p, .int i => ∃ xs v, (SqL K H p xs ∨ SqT K H p xs) ∧ atI xs i = some v ∧ Q v H
  | _, _ => False
section
variable {X : Cx}
theorem m_ix : IxR X (mIx X.K) := by
  have both : IxR X (fun x y H Q => rIxL X.K x y H Q ∨ rIxT X.K x y H Q) := ix_list.or ix_tup
  have imp : ∀ x y H Q, mIx X.K x y H Q → rIxL X.K x y H Q ∨ rIxT X.K x y H Q := by
    intro x y H Q q
    cases x <;> cases y <;> first | exact False.elim q | skip
    obtain ⟨xs, z, h | h, ha, q⟩ := q
    · exact .inl ⟨_, _, _, _, rfl, rfl, h, ha, q⟩
    · exact .inr ⟨_, _, _, _, rfl, rfl, h, ha, q⟩
  unfold IxR at both ⊢
  intros
  apply both <;> first | assumption | (apply imp; assumption)

variable {CX : CXT} {k : Nat} {C f : Addr} {fd : FuncData} {ps : List Str} {sp : Sp} {E : XK}
/-- x in o, o an own instance -/
theorem own_in (F : FnOk X.prog X.w X.K X.mg X.base CX k f fd ps sp) (hs : PySem.W.findIn X.K (.ref C) "__contains__" = some (some (.ref f))) (hf : PySem.W.isFn X.K (.ref f) = true) (hb : Binds X.K fd ps []) (hr : Room k X.A) (hx : Passes CX X E) :
    OpR X (compareOp .In) (fun x y H Q => ∃ a dx fs, y = .ref a ∧ H a = some (.ins C dx fs) ∧ sp [.ref a, x] H (kB fun b H' => Q (.bl b) H') E) := by
  intro pins s σ H x y v u Q I rx ry q
  obtain ⟨a, dx, fs, rfl, ha, q⟩ := q
  cases ry
  obtain ⟨mA, O, _⟩ := ins_get I.hok ha
  obtain ⟨od, J, _⟩ := O.look
  obtain ⟨m, hF⟩ := I.fr
  refine PySem.W.in_K hF I.ok.mod.kin J hs hf ?_
  refine thn (run_fn F hr hb .nil hx I (vs := [.ref a, _]) (.cons rfl (.cons rx .nil)) q) fun r s' z => ?_
  obtain ⟨z, H', I', rz, kz⟩ := z
  obtain ⟨b, e, q2⟩ := kB_ok kz
  subst e
  cases rz
  exact wpAny_truthy_bool ⟨.bl b, H', I', rfl, q2⟩
/-- len(o), o an own instance -/
theorem own_len (F : FnOk X.prog X.w X.K X.mg X.base CX k f fd ps sp) (hs : PySem.W.findIn X.K (.ref C) "__len__" = some (some (.ref f))) (hf : PySem.W.isFn X.K (.ref f) = true) (hb : Binds X.K fd ps []) (hr : Room (k + 1) X.A) (hx : Passes CX X E) :
    CallR X (.builtin "len") (fun xs H Q => ∃ a dx fs, xs = [.ref a] ∧ H a = some (.ins C dx fs) ∧ sp [.ref a] H (fun v H' => ∃ n : Nat, v = .int n ∧ n ≤ sizeLine ∧ Q (.int n) H') E) := by
  intro pins s σ H xs us Q I rx q
  obtain ⟨a, dx, fs, rfl, ha, q⟩ := q
  obtain ⟨u, rfl, ru⟩ := vals1 rx
  cases ru
  obtain ⟨mA, O, _⟩ := ins_get I.hok ha
  obtain ⟨od, J, _⟩ := O.look
  obtain ⟨m, hF⟩ := I.fr
  refine PySem.W.len_K hF I.ok.mod.kin J hs hf ?_
  have hl : ([Value.ref a] : List Value).length = ps.length := by rw [← F.len _ _ _ _ q]; rfl
  refine wpAny_call (codeAny_mono (F.run X.A.in1 X.stack s H ⟨[.ref a], []⟩ [.ref a] [.ref a] _ E hr.in1 I.env0.in1 (by have := hb s [.ref a] I.kIn (by simpa using hl); simpa using this) (.cons rfl .nil) q) fun r s' hq => ?_)
  cases r with
  | error er => exact hx pins σ H s er s' I hq
  | ok fl =>
    cases fl with
    | ret w =>
      obtain ⟨v, H', I3, rv, n, ev, hn, q3⟩ := I.after hq
      subst ev
      obtain ⟨t, rfl⟩ := rv
      have l63 := line63
      refine ⟨⟨by omega, by have : (n : Int) ≤ sizeLine := by exact_mod_cast hn
                            omega⟩, .int n, H', I3.tok _, ⟨_, rfl⟩, q3⟩
    | next => exact False.elim hq
    | brk => exact False.elim hq
    | cont => exact False.elim hq
/-- o == p, two own instances of one class (or p of a class that is not below o's) -/
theorem own_eq (hu : X.A.units < cLine) (F : FnOk X.prog X.w X.K X.mg X.base CX k f fd ps sp) (hs : PySem.W.findIn X.K (.ref C) "__eq__" = some (some (.ref f))) (hf : PySem.W.isFn X.K (.ref f) = true) (hb : Binds X.K fd ps []) (hr : Room k X.A) (hx : Passes CX X E) :
    OpR X (compareOp .Eq) (fun x y H Q => ∃ a b dx dy fs gs, x = .ref a ∧ y = .ref b ∧ H a = some (.ins C dx fs) ∧ H b = some (.ins C dy gs) ∧ sp [.ref a, .ref b] H (kB fun b H' => Q (.bl b) H') E) := by
  intro pins s σ H x y v u Q I rx ry q
  obtain ⟨a, b, dx, dy, fs, gs, rfl, rfl, ha, hb', q⟩ := q
  cases rx
  cases ry
  obtain ⟨mA, O, _⟩ := ins_get I.hok ha
  obtain ⟨mB, O', _⟩ := ins_get I.hok hb'
  obtain ⟨od, J, _⟩ := O.look
  obtain ⟨od', J', _⟩ := O'.look
  obtain ⟨m, hF⟩ := I.fr
  show wpAny (model X.prog X.w) X.A (richCompare .Eq _ _) (EP X pins σ Q) X.xe s
  refine PySem.W.cmp_K (op := .Eq) (tb := .ref C) hu hF I.ok.mod.kin J J'.type (by simp [PySem.W.notFirst]) hs hf ?_
  refine thn (run_fn F hr hb .nil hx I (vs := [.ref a, .ref b]) (.cons rfl (.cons rfl .nil)) q) fun r s' z => ?_
  obtain ⟨z, H', I', rz, kz⟩ := z
  obtain ⟨b, e, q2⟩ := kB_ok kz
  subst e
  cases rz
  exact ⟨.bl b, H', I', rfl, q2⟩

/-- repr of data -/
def mRep (K : PySem.W.Frag) : List V → Hp → VK → Prop := fun xs H Q => ∃ v d, xs = [v] ∧ Dp K H v d ∧ isDisplay d = true ∧ d.showable = true ∧ d.hasDict = false ∧ d.depth ≤ 60 ∧ d.shown.length ≤ sizeLine ∧ Q (.str d.shown) H
end
end NB

set_option Elab.async false
set_option linter.all false
set_option maxRecDepth 100000
/-! B3: promises of defs that run where nothing is being shown (repr) -/
namespace NB
open PySem PySem.Spec PyProof.Rows L2

section
variable {P : Program} {w : World} {K : PySem.W.Frag} {mg : Str → Option Value} {base : Heap}
/-- as FnOk, no display under way -/
structure FnG (P : Program) (w : World) (K : PySem.W.Frag) (mg : Str → Option Value) (base : Heap) (k : Nat) (f : Addr) (fd : FuncData) (ps : List Str) (sp : Sp) : Prop where
  len : ∀ vs H Q E, sp vs H Q E → vs.length = ps.length
  run : ∀ (A : Around) (o : List Env) (s : Shared) (H : Hp) (ar : Args) (us : List Value) (vs : List V) (Q : VK) (E : XK), Room k A → A.guards = some [] →
    Env0 P w K mg base A o s H → BindsTo s fd ar (ps.zip us) → Vals vs us → sp vs H Q E → codeAny (model P w) A (.call (.ref f) ar) (CR C8.CX0 o P w H s Q E) s
theorem gd_deeper {A : Around} {env : Env} (h : A.guards = some []) : (A.deeper env).guards = some [] := by
  unfold Around.deeper
  first | exact h | simp [h]
theorem fnG_of {x qual : Str} {st : Stmt} {f : Addr} {fd : FuncData} {N ps : List Str} {k : Nat} {sp : Sp} (F : C8.Fun K x qual st f fd) (S : FnScope N ps (C8.fnScope st)) (len : ∀ vs H Q E, sp vs H Q E → vs.length = ps.length)
    (hb : ∀ (cdv : Value) (A : Around) (o : List Env) (s : Shared) (H : Hp) (vs : List V) (Q : VK) (E : XK), Room k (A.deeper (envOfC qual (C8.fnScope st) s.heap.objs.size f cdv)) → A.guards = some [] → sp vs H Q E →
      ∃ t, PSs (cxOf C8.CX0 P w K mg base N qual (C8.fnScope st) f cdv A o s H E).nox (C8.fnBody st) t ∧ t { nx := fun _ H' => Q .non H', rt := Q } (start N vs) H) : FnG P w K mg base (k + 1) f fd ps sp := by
  obtain ⟨oc, od, dV, kV, doc, pm, an, cdv, ct, osl, rfl, lk, hcd⟩ := F.ex
  refine ⟨len, ?_⟩
  intro A o s H ar us vs Q E hr hgd e0 hbi r hsp
  have KX : K.In s.heap := e0.mod.kin.keeps fun b o e => (e0.bs b o e).1
  obtain ⟨t, ht, hq⟩ := hb cdv A o s H vs Q E (hr.deeper _) hgd hsp
  refine codeAny_call_function hr.depth (KX _ _ lk) rfl S.co S.gen rfl (PySem.W.codeRec_of KX hcd) (hbi _ _ _ _ (wpAny_newFunctionEnv_cells S.kind (fun y hy => ?_) fun env he s1 z => ?_))
  · obtain ⟨n, v⟩ := y
    exact (S.par n (List.of_mem_zip hy).1).elim .inl fun q => .inr ⟨q, PySem.W.cellsFrom_some _ _ _ (.inl q)⟩
  · subst he
    refine ⟨(e0.mod.nolimit.keeps fun b o e => (e0.bs b o e).1).keeps z.toInCall.keep, codeAny_func (wpAny_mono (ht.nox.run [] s1 (start N vs) H _ (inv_start S hr.hd e0 (len _ _ _ _ hsp) r z) hq) (fun fl s2 hs => ?_) fun _ _ q => q)⟩
    cases fl with
    | ret u =>
      obtain ⟨v, σ2, H2, J, rv, q⟩ := hs
      exact ⟨v, H2, J.os, J.bare, J.base, J.hok, rv, q⟩
    | next =>
      obtain ⟨σ2, H2, J, q⟩ := hs
      exact ⟨V.non, H2, J.os, J.bare, J.base, J.hok, rfl, q⟩
    | brk =>
      obtain ⟨_, _, _, q⟩ := hs
      exact q.elim
    | cont =>
      obtain ⟨_, _, _, q⟩ := hs
      exact q.elim
/-- one that may be called by its name -/
structure CalG (P : Program) (w : World) (K : PySem.W.Frag) (mg : Str → Option Value) (base : Heap) (k : Nat) (x : Str) (sp : Sp) : Prop where
  ex : ∃ (f : Addr) (fd : FuncData) (ps : List Str), FnG P w K mg base k f fd ps sp ∧ mg x = some (.ref f) ∧ PySem.W.keepIn K (.ref f) = true ∧ Binds K fd ps []
end
section
variable {X : Cx} {k j : Nat} {x : Str} {sp : Sp} {p pos : Pos} {e : Expr} {es : List Expr} {t : TA}
theorem run_g {f : Addr} {fd : FuncData} {ps : List Str} {pins : List (Addr × Obj)} {σ : L2.St} {H : Hp} {s : Shared} {Q : VK} {us : List Value} {vs : List V} (F : FnG X.prog X.w X.K X.mg X.base k f fd ps sp) (hr : Room k X.A) (hgd : X.A.guards = some [])
    (hb : Binds X.K fd ps []) (I : Inv X pins σ H s) (r : Vals vs us) (h : sp vs H Q C8.E0) : wpAny (model X.prog X.w) X.A (call (.ref f) us) (EP X pins σ Q) X.xe s := by
  have hl : us.length = ps.length := by rw [← r.length]; exact F.len _ _ _ _ h
  have b := hb s us I.kIn (by simpa using hl)
  rw [List.append_nil] at b
  refine wpAny_call (codeAny_mono (F.run X.A X.stack s H ⟨us, []⟩ us vs Q C8.E0 hr hgd I.env0 b r h) fun y s2 z => ?_)
  cases y with
  | error e => exact z.elim
  | ok fl => cases fl <;> first | exact I.after z | exact False.elim z
theorem pe_g (c : CalG X.prog X.w X.K X.mg X.base k x sp) (hr : Room j X.A) (hk : k ≤ j) (hgd : X.A.guards = some []) (hg : Gl X x) (ha : PA X (e :: es) t)
    (hdb : (x == ("__debug__" : Str)) = false := by decide) (he : starEach (e :: es) X.env = (false, eval e X.env) :: starEach es X.env := by rfl) (hpl : (backTo pos (starEach es X.env)).any (·.1) = false := by rfl) :
    PE X (.Call (.Name x p) (e :: es) [] pos) (tCall sp [] C8.E0 t) := by
  obtain ⟨f, fd, ps, F, hm, kp, b⟩ := c.ex
  refine ⟨fun pins s σ H Q I h => wpAny_Call_Name_kw (ld_glob I hg hm (PySem.W.callWith_K (h₀ := X.base) I.ok.mod.kin kp (thn (ha.run pos pins s σ H _ I h) fun us s1 z => ?_) he hpl) hdb)⟩
  obtain ⟨vs, H1, I1, r, q⟩ := z
  rw [List.append_nil] at q
  exact ⟨I1.kIn, run_g F (hr.mono hk) hgd b I1 r q⟩
/-- repr(v), v of data -/
theorem call_rep (hu : X.A.units + 64 < cLine) (hgd : X.A.guards = some []) : CallR X (.builtin "repr") (mRep X.K) := by
  intro pins s σ H xs us Q I rx q
  obtain ⟨v, d, rfl, dp, h1, h2, h3, h4, h5, q⟩ := q
  obtain ⟨u, rfl, ru⟩ := vals1 rx
  obtain ⟨as, r⟩ := Dp.reads I d v u dp ru
  obtain ⟨a, rfl⟩ := isRef_of_reads r h1
  exact repr_of_reads' r h2 (fun z => by rw [h3] at z; cases z) hgd (by omega) (fun _ _ e => e) (fun h' u' tk hk => ⟨.str d.shown, H, I.kept (t' := tk) hk, ⟨_, rfl⟩, q⟩) h5
end
end NB

set_option Elab.async false
set_option linter.all false
set_option maxRecDepth 100000
/-! B4: the end of a law whose def is promised where no display is under way -/
namespace NB
open PySem PySem.Spec PyProof.Rows L2

section
variable {P : Program} {w : World} {K : PySem.W.Frag} {mg mb : Str → Option Value} {k : Nat} {fa a : Addr} {fd : FuncData} {x : Str} {sp : Sp} {s : Shared} {vs : List Value} {ns : List Int}
/-- the call, over an abstract heap H that tracks the script at most -/
theorem law_at {H : Hp} (KX : K.In s.heap) (hns : s.heap.Ns mainGlobals mg) (hb : s.heap.Ns builtinsNs mb) (hbb : ∀ x : Str, x ≠ "__name__" → mb x = bootBuiltins x) (hlim : s.heap.NoLimit) (hg : s.gens = #[])
    (ha : s.heap.get? a = some { cls := .type "list", data := .seq vs.toArray }) (hr : Room k callerA)
    (F : ∀ base : Heap, K.In base → base.Ns mainGlobals mg → FnG P w K mg base k fa fd [x] sp) (hbind : ∀ (s : Shared) (u : Value), BindsTo s fd ⟨[u], []⟩ [(x, u)])
    (hsp : sp [.ref a] H (fun v _ => v = .bl true) C8.E0) (hO : Only H) (hok : HOk P w H s.heap) (hA : ∀ b u, H b = some u → b = a ∧ K.lookup a = none) :
    codeAny (model P w) callerA (.call (.ref fa) ⟨[.ref a], []⟩) (fun r s' => r = .ok (.ret (.bool true)) ∧ OldK s.heap s'.heap ∧ s'.os = s.os ∧ AllBare s'.gens) s := by
  have free : ∀ {b : Addr} {o : Obj} {es : Array DictEntry} {ep : Nat}, s.heap.get? b = some o → o.data = .dict es ep → H b = none := by
    intro b o es ep e d
    cases q : H b with
    | none => rfl
    | some u =>
      obtain ⟨rfl, _⟩ := hA b u q
      have eo : o = _ := Option.some.inj (e.symm.trans ha)
      rw [eo] at d
      cases d
  have nsH : ∀ {b : Addr} {m : Str → Option Value}, s.heap.Ns b m → (hidT s.heap H).Ns b m := by
    rintro b m ⟨o, es, ep, e, d, r⟩
    exact ⟨o, es, ep, hidT_get e (free e d), d, r⟩
  have kin : K.In (hidT s.heap H) := by
    intro b o e
    refine hidT_get (KX b o e) ?_
    cases q : H b with
    | none => rfl
    | some u =>
      obtain ⟨rfl, z⟩ := hA b u q
      rw [z] at e
      cases e
  obtain ⟨mc, l1, l2⟩ := hlim
  have e0 : Env0 P w K mg (hidT s.heap H) callerA [] s H :=
    ⟨rfl, ⟨kin, nsH hns, ⟨mb, nsH hb, hbb⟩, ⟨mc, nsH l1, l2⟩⟩, fun b o e => of_hidT e, Nat.le_of_eq (hidT_size _ _), trivial, fun b z => absurd (show b ∈ ([] : List Addr) from z) (by simp), hok, .of_eq hg⟩
  refine codeAny_mono ((F _ kin (nsH hns)).run callerA [] s H ⟨[.ref a], []⟩ [.ref a] [.ref a] _ _ hr rfl e0 (hbind s (.ref a)) (.cons rfl .nil) hsp) fun r s2 z => ?_
  rcases r with e | fl
  · exact z.elim
  cases fl <;> first | exact False.elim z | skip
  rename_i u
  obtain ⟨v, H2, os, bare, un, hok2, rv, q⟩ := z
  have qv : v = .bl true := q
  subst qv
  obtain rfl : u = Value.bool true := rv
  refine ⟨rfl, OldK.of_keep fun b o e => ?_, os, bare⟩
  rcases hO b with q | ⟨ob, xs, q⟩
  · exact un.keep b o e q (fun z => absurd (show b ∈ ([] : List Addr) from z) (by simp)) (by simp)
  · have h1 := (hok b _ q).1
    have h2 := (hok2 b _ (un.frzs b ob _ q)).1
    rw [Option.some.inj (e.symm.trans h1)]
    exact h2
theorem law_g (KX : K.In s.heap) (hns : s.heap.Ns mainGlobals mg) (hb : s.heap.Ns builtinsNs mb) (hbb : ∀ x : Str, x ≠ "__name__" → mb x = bootBuiltins x) (hlim : s.heap.NoLimit) (hg : s.gens = #[])
    (ha : s.heap.get? a = some { cls := .type "list", data := .seq vs.toArray }) (hi : IntsAre vs ns) (hl : ns.length ≤ sizeLine) (hr : Room k callerA)
    (F : ∀ base : Heap, K.In base → base.Ns mainGlobals mg → FnG P w K mg base k fa fd [x] sp) (hbind : ∀ (s : Shared) (u : Value), BindsTo s fd ⟨[u], []⟩ [(x, u)])
    (hsp : ∀ H : Hp, Only H → SqL K H a (ns.map V.int) → sp [.ref a] H (fun v _ => v = .bl true) C8.E0) :
    codeAny (model P w) callerA (.call (.ref fa) ⟨[.ref a], []⟩) (fun r s' => r = .ok (.ret (.bool true)) ∧ OldK s.heap s'.heap ∧ s'.os = s.os ∧ AllBare s'.gens) s := by
  have rv := vals_ints hi
  cases hk : K.lookup a with
  | some o =>
    have eo : o = _ := Option.some.inj ((KX a o hk).symm.trans ha)
    have hS : SqL K (fun _ => none) a (ns.map V.int) := .inr ⟨o, vs.toArray, _, hk, by rw [eo], by rw [eo], congrArg Obj.data eo, by rw [List.size_toArray, hi.length]; exact hl, rv⟩
    exact law_at KX hns hb hbb hlim hg ha hr F hbind (hsp _ (fun _ => .inl rfl) hS) (fun _ => .inl rfl) (fun b u z => nomatch z) (fun b u z => nomatch z)
  | none =>
    let o0 : Obj := { cls := .type "list", data := .seq vs.toArray }
    have at_ : ∀ b, L2.upd (fun _ => none) a (.frz o0 (.lst (ns.map V.int))) b = none ∨ (b = a ∧ L2.upd (fun _ => none) a (.frz o0 (.lst (ns.map V.int))) b = some (.frz o0 (.lst (ns.map V.int)))) := by
      intro b
      by_cases e : b = a
      · rw [e]; exact .inr ⟨rfl, upd_same⟩
      · exact .inl (upd_ne e)
    have hO : Only (L2.upd (fun _ => none) a (.frz o0 (.lst (ns.map V.int)))) := fun b => (at_ b).elim .inl fun z => .inr ⟨_, _, z.2⟩
    refine law_at KX hns hb hbb hlim hg ha hr F hbind (hsp _ hO (.inl (.inr ⟨o0, upd_same⟩))) hO ?_ ?_
    · intro b u z
      rcases at_ b with q | ⟨rfl, q⟩
      · rw [q] at z; cases z
      · rw [q] at z
        cases z
        exact ⟨ha, by rw [List.length_map]; exact hl, vs, _, rv, ha⟩
    · intro b u z
      rcases at_ b with q | ⟨e, q⟩
      · rw [q] at z; cases z
      · exact ⟨e, hk⟩
end
theorem walk_g {l : PySem.W.OpenLaw} {n k : Nat} {q : Program} {loose : List Str} {XP : (Str → Option Value) → Heap → Prop} {YP : World → Heap → Prop} {d : DefRec} {K : Params → PySem.W.Frag} {sp : PySem.W.Frag → Sp} {x : Str}
    (hn : l.most = some n) (hn2 : n ≤ sizeLine) (hdf : d.params.defaults = []) (hr : Room k callerA) (hY : ∀ (w : World) (h : Heap), YP w h → (K w.params).In h)
    (F : ∀ (w : World) (mg : Str → Option Value) (fa : Addr) (h : Heap), (K w.params).In h → h.Ns mainGlobals mg → mg d.name = some (.ref fa) →
      ∃ fd : FuncData, (∀ (s : Shared) (u : Value), BindsTo s fd ⟨[u], []⟩ [(x, u)]) ∧ ∀ base : Heap, (K w.params).In base → base.Ns mainGlobals mg → FnG l.prog w (K w.params) mg base k fa fd [x] (sp (K w.params)))
    (hsp : ∀ (K : PySem.W.Frag) (H : Hp) (a : Addr) (ns : List Int), ns.length ≤ n → Only H → SqL K H a (ns.map V.int) → sp K [.ref a] H (fun v _ => v = .bl true) C8.E0) :
    PySem.W.WalkO q loose XP YP l.row.toRowW d [] (fun f vs => PySem.call f vs) := by
  refine Att.attach_call hn hdf ?_
  intro w s0 s1 mg mb fa o pm cd doc a vs ns G Y ho hd hcd hmg hobj hints hlen hg
  obtain ⟨fd, hb, hF⟩ := F w mg fa _ (hY w _ Y) G.T.g hmg
  exact law_g (hY w _ Y) G.T.g G.T.b G.T.builtins G.T.nolimit hg hobj hints (Nat.le_trans hlen hn2) hr hF hb fun H hO hS => hsp _ H a ns hlen hO hS
end NB

set_option Elab.async false
set_option linter.all false
set_option maxRecDepth 100000
/-! B5: set(xs) of different texts, its length -/
namespace NB
open PySem PySem.Spec PyProof.Rows L2

theorem str_at : ∀ {us : List Value} {xs : List Str}, Vals (xs.map V.str) us → ∀ (i : Nat) (v : Value), us[i]? = some v → ∃ t, v = .str (xs.getD i Str.empty) t
  | _, [], .nil, i, v, h => by simp at h
  | _, x :: xs, .cons r q, 0, v, h => by
    obtain ⟨t, rfl⟩ := r
    simp at h
    exact ⟨t, h.symm⟩
  | _, x :: xs, .cons r q, i + 1, v, h => by
    simp only [List.getElem?_cons_succ] at h
    obtain ⟨t, e⟩ := str_at q i v h
    exact ⟨t, by rw [e]; rfl⟩
/-- membership in the first i of them -/
def inF (xs : List Str) (i : Nat) : Str → Bool := fun y => decide (y ∈ xs.take i)
theorem inF_succ {xs : List Str} {i : Nat} (h : i < xs.length) (y : Str) : (inF xs i y || decide (y = xs.getD i Str.empty)) = inF xs (i + 1) y := by
  have e : xs.getD i Str.empty = xs[i] := by simp [List.getD, h]
  rw [e]
  unfold inF
  rw [Bool.eq_iff_iff]
  simp only [Bool.or_eq_true, decide_eq_true_eq]
  rw [← List.take_append_getElem h]
  simp only [List.mem_append, List.mem_singleton]
theorem inF_new {xs : List Str} (nd : xs.Nodup) {i : Nat} (h : i < xs.length) : inF xs i (xs.getD i Str.empty) = false := by
  have e : xs.getD i Str.empty = xs[i] := by simp [List.getD, h]
  rw [e]
  refine decide_eq_false fun m => ?_
  obtain ⟨j, hj, e2⟩ := List.mem_iff_getElem.mp m
  rw [List.length_take] at hj
  rw [List.getElem_take] at e2
  have := (List.getElem_inj nd).mp e2
  omega
section
variable {prog : Program} {w : World} {A : Around} {R : Result → Shared → Prop} {I : Addr} {fp wr : List Addr} {G : Array GenState → Array GenState → Prop} {n : Nat} {Pv : Nat → Value → Prop} {St' : Nat → Shared → Prop}
theorem upd_strs (W : WalksS prog w A.in1 I fp wr G n Pv St') (S : Addr) (hSf : S ∉ fp) (xs : List Str) (hsz : xs.length = n) (nd : xs.Nodup) (hn : n + 1 < scanBound) (hval : ∀ i v, Pv i v → ∃ t, v = .str (xs.getD i Str.empty) t) :
    ∀ (k i : Nat) (s : Shared), n - i = k → i ≤ n → St' i s → s.heap.SetOf (PySem.strKind prog w) S (inF xs i) i →
      (∀ s', Moved (S :: wr) G s s' → s'.heap.SetOf (PySem.strKind prog w) S (inF xs n) n → R (.ok (.ret .none)) s') →
      codeAny (model prog w) A (.builtin "set.update.loop" ⟨[.ref S, .ref I], []⟩) R s := by
  have away : S ∉ wr := fun h => hSf (W.sub _ h)
  have more : ∀ b ∈ wr, b ∈ S :: wr := fun b hb => List.mem_cons_of_mem _ hb
  have carry : ∀ {s s' : Shared} {f : Str → Bool} {m : Nat}, Moved wr G s s' → s.heap.SetOf (PySem.strKind prog w) S f m → s'.heap.SetOf (PySem.strKind prog w) S f m := by
    rintro s s' f m mv ⟨o, es, ep, tb, ho, rest⟩
    exact ⟨o, es, ep, tb, mv.heap S _ away ho, rest⟩
  intro k
  induction k with
  | zero =>
    intro i s hk hi hst hS hR
    obtain rfl : i = n := by omega
    refine codeAny_builtin PyProof.Rows.F.entry_set_update_loop ?_
    rw [Around.under_plainId PyProof.Rows.F.plain_set_update_loop _]
    show wpAny _ A.in1 (pyNext (.ref I) >>= _) _ _ s
    exact wpAny_bind (W.done s _ _ hst fun s' mv => wpAny_pure (hR s' (mv.mono more) (carry mv hS)))
  | succ k ih =>
    intro i s hk hi hst hS hR
    have hlt : i < n := by omega
    have hlx : i < xs.length := by omega
    refine codeAny_builtin PyProof.Rows.F.entry_set_update_loop ?_
    rw [Around.under_plainId PyProof.Rows.F.plain_set_update_loop _]
    show wpAny _ A.in1 (pyNext (.ref I) >>= _) _ _ s
    refine wpAny_bind (W.item i s _ _ hlt hst fun v s' hP hst' mv => ?_)
    obtain ⟨t, rfl⟩ := hval i v hP
    show wpAny _ A.in1 (holding _ (setAdd S (.str (xs.getD i Str.empty) t)) >>= _) _ _ s'
    refine wpAny_bind (wpAny_holding ?_)
    unfold setAdd
    refine wpAny_holding (wpAny_bind ((PySem.strKind prog w).pyHash (k := xs.getD i Str.empty) (strKind_is _ _ _ _) ?_))
    refine wpAny_setAddHashed_of (knd := PySem.strKind prog w) (s := { s' with toks := s'.toks + 1 }) (strKind_is _ _ _ _) rfl (show s'.heap.SetOf _ _ _ _ from carry mv hS) (by omega) fun h' hsb hS2 => ?_
    rw [inF_new nd hlx] at hS2
    have hS3 : h'.SetOf (PySem.strKind prog w) S (inF xs (i + 1)) (i + 1) := SetOf_congr hS2 (fun y => inF_succ hlx y) (by simp)
    have off : ∀ {b : Addr}, b ∈ fp → b ≠ S := fun {b} hb e => hSf (by rw [← e]; exact hb)
    refine wpAny_pure ⟨plainId_quiet PyProof.Rows.F.plain_set_update_loop _, ih (i + 1) _ (by omega) hlt (W.frame _ s' _ _ hst' (Nat.le_succ _) fun b hb o e => ?_) hS3 fun s2 mv2 hS4 => ?_⟩
    · exact (hsb.2 b (off hb)).trans e
    · refine hR s2 (Moved.trans W.gtrans ((mv.mono more).then_heap (Nat.le_succ _) fun b o hb e => ?_) mv2) hS4
      exact (hsb.2 b fun z => hb (by rw [z]; exact List.mem_cons_self)).trans e
end
section
variable {prog : Program} {w : World} {A : Around} {E : Value → Shared → Prop} {s : Shared}
/-- a new empty set -/
abbrev set0 (led : Bool) : Obj := { cls := .type "set", dict := none, data := .set #[] 0 (.fresh 0 0 led) }
set_option maxHeartbeats 3200000 in
theorem call_set_strs {l : Addr} {items : Array Value} {xs : List Str} {Q : Value → Shared → Prop} (hh : A.handled = none) (hl : s.heap.IsList l items) (hi : Vals (xs.map V.str) items.toList) (nd : xs.Nodup) (hn : xs.length + 1 < scanBound)
    (h : ∀ (h' : Heap) (tk : Nat), h'.SetOf (PySem.strKind prog w) s.heap.objs.size (inF xs xs.length) xs.length →
      (∀ b o, b < s.heap.objs.size → s.heap.get? b = some o → h'.get? b = some o) → Q (.ref s.heap.objs.size) { s with heap := h', toks := tk }) :
    wpAny (model prog w) A (call (.type "set") [.ref l]) Q E s := by
  have hsz : xs.length = items.size := by have := hi.length; simpa using this
  obtain ⟨c, tl, e_mro⟩ := PySem.F.called_set.mro
  have e_made := PySem.F.called_set.made
  have e_sub := PySem.F.called_set.sub
  have e_type := PySem.F.called_set.notType
  have e_can := PySem.F.called_set.canCreate
  have e_check := PySem.F.typeCall_set_1 (.ref l)
  refine wpAny_call (codeAny_of_tree (show wpAny _ _ (callAny (.type "set") _) _ _ _ from wpAny_pure ⟨Code.quiet_builtin _ (by decide +kernel), codeAny_builtin PySem.F.entry_type_call ?_⟩))
  rw [Around.under_plain (weight_type_call_type "set" [.ref l] []) rfl]
  repeat (any_goals (first | assumption | wp_step))
  refine codeAny_mono (code_set_new_1 (.ref l) (E := E) (Q₁ := fun u z => ∃ led : Bool, u = .ref s.heap.objs.size ∧ z = { s with heap := s.heap.push (set0 led) }) fun led => ⟨led, rfl, rfl⟩) fun r s1 hr => ?_
  rcases r with e | fl
  · exact hr
  cases fl <;> first | exact hr.elim | skip
  obtain ⟨led, rfl, rfl⟩ := hr
  have hS : (s.heap.push (set0 led)).get? s.heap.objs.size = some (set0 led) := Heap.get?_push_size _ rfl
  have hT : Shared.TypeIs { s with heap := s.heap.push (set0 led) } (.ref s.heap.objs.size) "set" := ⟨_, hS, rfl⟩
  have e_init := PySem.F.called_set.init.lookup
  have e_bind := PySem.F.called_set.init.bind (.ref s.heap.objs.size)
  repeat (any_goals (first | assumption | wp_step))
  refine codeAny_mono (codeAny_call_builtin (R := wants (fun u z => u = .none ∧ ∃ h' tk, z = { s with heap := h', toks := tk } ∧ h'.SetOf (PySem.strKind prog w) s.heap.objs.size (inF xs xs.length) xs.length ∧
      (∀ b o, b < s.heap.objs.size → s.heap.get? b = some o → h'.get? b = some o)) E) PySem.F.called_set.init.plain PySem.F.entry_set_init (check_set_init_1 hT ?_)) fun r2 s2 hr2 => ?_
  · obtain ⟨⟨ocls, odict, odata, oslots⟩, hol, hcl, nl, hdl⟩ := hl
    simp only at hcl hdl
    subst hcl; subst hdl
    have hol2 : (s.heap.push (set0 led)).get? l = some { cls := .type "list", dict := odict, data := .seq items nl, slots := oslots } := Heap.get?_push_of_some _ hol
    have f1 := PySem.F.sub_list_set
    have f2 := PySem.F.sub_list_frozenset
    have f3 : (Value.type "list" == Value.type "dict") = false := by decide
    have hl1 : (s.heap.push (set0 led)).IsList l items := ⟨_, hol2, rfl, nl, rfl⟩
    unfold Builtin.«set.__init__» noKeywords Builtin.Frozenset.updateFrom
    generalize hPI : pyIter = PI
    wp_walk
    subst hPI
    refine wpAny_pyIter_list hl1 (wpAny_bind (wpAny_runValue ?_))
    have hlS : l < s.heap.objs.size := Heap.lt_size hol
    have size1 : (s.heap.push (set0 led)).objs.size = s.heap.objs.size + 1 := Heap.size_push _ _
    refine upd_strs ((Walks.list (by simp [hh]) _ l (by rw [size1]; exact Nat.ne_of_lt (Nat.lt_succ_of_lt hlS)) items).toS) s.heap.objs.size ?hSf xs hsz nd (by rw [← hsz]; exact hn)
      (fun i v hv => str_at hi i v (by rw [Array.getElem?_toList]; exact hv)) (items.size - 0) 0 _ (by omega) (Nat.zero_le _) ⟨⟨_, Heap.get?_push_size _ rfl, rfl, rfl⟩, (hl1.push _)⟩ ?hS0 ?hR
    case hSf =>
      rw [size1]
      intro z
      rcases List.mem_cons.mp z with z | z
      · exact Nat.ne_of_lt (Nat.lt_succ_self _) z
      · exact Nat.ne_of_gt hlS (List.mem_singleton.mp z)
    case hS0 =>
      have z : ((s.heap.push (set0 led)).push { cls := .type "list_iterator", data := .fields #[.ref l, .int 0 0] }).get? s.heap.objs.size = some (set0 led) := Heap.get?_push_of_some _ hS
      exact PyProof.Rows.SetOf_congr ((PyProof.Rows.setObjOf_fresh (knd := PySem.strKind prog w) led).setOf z (by unfold scanBound; omega)) (fun y => by simp [inF]) rfl
    case hR =>
      intro z mv hz
      obtain ⟨h', g', d', tk', os'⟩ := z
      obtain rfl : g' = s.gens := mv.gens
      obtain rfl : d' = s.drawn := mv.drawn
      obtain rfl : os' = s.os := mv.os
      show wpAny _ _ _ _ _ _
      refine wpAny_pure ?_
      show wpAny _ _ (ret Value.none) _ _ _
      rw [← hsz] at hz
      refine wpAny_pure ⟨rfl, h', tk', rfl, hz, fun b o hb e => mv.heap b o ?_ (Heap.get?_push_of_some _ (Heap.get?_push_of_some _ e))⟩
      rw [size1]
      intro q
      rcases List.mem_cons.mp q with q | q
      · exact Nat.ne_of_lt hb q
      · exact Nat.ne_of_lt (Nat.lt_succ_of_lt hb) (List.mem_singleton.mp q)
  · rcases r2 with e | fl2
    · exact hr2
    cases fl2 <;> first | exact hr2.elim | skip
    obtain ⟨rfl, h', tk, rfl, hz, keep⟩ := hr2
    repeat (any_goals (first | assumption | wp_step))
    exact h _ _ hz keep
end
/-- len(set(xs)), xs a list of different texts -/
def mLenSet (K : PySem.W.Frag) (ta : TE) : TE := fun σ H Q => ta σ H fun x H1 => ∃ (l : Addr) (xs : List Str), x = V.ref l ∧ SqL K H1 l (xs.map V.str) ∧ xs.length ≤ 1000 ∧ xs.Nodup ∧ Q (.int xs.length) H1
section
variable {X : Cx}
theorem pe_lenSetS {a : Expr} {ta : TE} {p p2 q pos : Pos} (hc : X.calm = true) (hg : Gl X "len") (hm : X.mg "len" = none) (hg2 : Gl X "set") (hm2 : X.mg "set" = none) (ha : PE X a ta)
    (na : starEach [a] X.env = (false, eval a X.env) :: starEach [] X.env := by rfl) : PE X (.Call (.Name "len" p) [.Call (.Name "set" p2) [a] [] q] [] pos) (mLenSet X.K ta) := by
  refine ⟨fun pins s σ H Q I h => Call_ (ld_blt I hg hm PySem.boot_len (PyProof.Rows.callWith_builtin1 (PyProof.Rows.args_cons ?_ rfl) rfl rfl))⟩
  refine Call_ (ld_blt I hg2 hm2 PyProof.Rows.boot_set (PyProof.Rows.callWith_type1 (PyProof.Rows.args_cons (thn (ha.run pins s σ H _ I h) fun v s1 z => PyProof.Rows.args_nil ?_) na) na rfl))
  obtain ⟨x, H1, I1, r1, l, xs, rfl, hq, h1, nd, q1⟩ := z
  cases r1
  obtain ⟨its, r, pl, _⟩ := I1.list hq
  refine call_set_strs (xs := xs) (I1.ok.hd hc) pl.isList (by simpa using r) nd (by unfold scanBound; omega) fun h' tk hS hk => PyProof.Rows.args_nil ?_
  obtain ⟨o, es, ep, t, ho, hex, hd, _, _, _, hf, hn⟩ := hS
  have I2 : Inv X pins σ H1 { s1 with heap := h', toks := tk } := I1.kept fun b o e => hk b o (Heap.lt_size e) e
  exact call_len_set ho hex hd hf (by rw [hn]; omega) ⟨.int xs.length, H1, I2.tok _, ⟨_, by rw [hn]⟩, q1⟩
end
end NB

set_option Elab.async false
set_option linter.all false
set_option maxRecDepth 100000
/-! D1: the data of logs, what the top must have, promises -/
namespace NB
open PySem PySem.Spec L2
open PyProof.Rows (envOfC)

/-! ### data -/
/-- a name: one to eight small letters -/
def nameB (z : Str) : Bool := decide (1 ≤ z.length) && decide (z.length ≤ 8) && z.cps.toList.all fun c => decide (97 ≤ c) && decide (c ≤ 122)
structure CrewOk (ns : List Str) : Prop where
  one : 1 ≤ ns.length
  few : ns.length ≤ 12
  nam : ∀ z ∈ ns, nameB z = true
  nd : ns.Nodup
structure EntsOk (ns : List Str) (es : List (Str × Int)) : Prop where
  few : es.length ≤ 200
  ok : ∀ e ∈ es, e.1 ∈ ns ∧ 0 ≤ e.2
def SizeOk (sz : Int) : Prop := 1 ≤ sz ∧ sz ≤ 10 ^ 30
/-- v is the tuple of e -/
def EntAt (H : Hp) (e : Str × Int) (v : V) : Prop := ∃ p, v = .ref p ∧ H p = some (.tup [.str e.1, .int e.2])
abbrev EntL (H : Hp) : List (Str × Int) → List V → Prop := Paired (EntAt H)
theorem EntAt.mono {H H' : Hp} {e : Str × Int} {v : V} (h : EntAt H e v) (x : Ext H H') : EntAt H' e v := by
  obtain ⟨p, rfl, q⟩ := h
  exact ⟨p, rfl, x _ _ q⟩
theorem EntL.mono {H H' : Hp} {es : List (Str × Int)} {vs : List V} (h : EntL H es vs) (x : Ext H H') : EntL H' es vs := Paired.mapP h fun _ _ q => EntAt.mono q x
theorem upd_none {H : Hp} {p d : Addr} {o : HO} (h : upd H p o d = none) : d ≠ p ∧ H d = none := by
  by_cases e : d = p
  · rw [e, upd_same] at h; cases h
  · exact ⟨e, by rw [upd_ne e] at h; exact h⟩
theorem Ext.free {H H' : Hp} (e : Ext H H') {l : Addr} (h : H' l = none) : H l = none := Same.free (show Same H H' from e) h
/-- tuples stand under every change -/
def TupSt (H H' : Hp) : Prop := ∀ a xs, H a = some (.tup xs) → H' a = some (.tup xs)
theorem TupSt.ext {H H' : Hp} (x : Ext H H') : TupSt H H' := fun a xs h => x a _ h
theorem TupSt.upd {H : Hp} {p : Addr} {o u : HO} (h : H p = some u) (d : ∀ xs, u ≠ .tup xs) : TupSt H (L2.upd H p o) := fun a xs e => by
  rw [upd_ne (ne_of e h (fun z => d xs z.symm))]; exact e
theorem TupSt.trans {H H1 H2 : Hp} (a : TupSt H H1) (b : TupSt H1 H2) : TupSt H H2 := fun c xs h => b c xs (a c xs h)
theorem EntL.st {H H' : Hp} {es : List (Str × Int)} {vs : List V} (h : EntL H es vs) (x : TupSt H H') : EntL H' es vs := Paired.mapP h fun _ _ q => by
  obtain ⟨p, e, q⟩ := q
  exact ⟨p, e, x _ _ q⟩
theorem Frm.tups {p : Addr} {H H' : Hp} {o : HO} (f : Frm [p] H H') (hp : H p = some o) (d : ∀ xs, o ≠ .tup xs) : TupSt H H' := fun a xs h => f a _ h fun z => by
  rw [List.mem_singleton.mp z, hp] at h
  exact d xs (Option.some.inj h)
theorem mem1 {p : Addr} : p ∈ [p] := List.mem_singleton.mpr rfl
/-- readings of tests -/
theorem kNe {i j : Int} {Q : Bool → Hp → Prop} {H : Hp} (h : Q (!decide (i = j)) H) : mEqG (fun b => !b) (.int i) (.int j) H (kB Q) := h
theorem kEq {i j : Int} {Q : Bool → Hp → Prop} {H : Hp} (h : Q (decide (i = j)) H) : mEqG (fun b => b) (.int i) (.int j) H (kB Q) := h
theorem kNeS {i j : Str} {Q : Bool → Hp → Prop} {H : Hp} (h : Q (!decide (i = j)) H) : mEqG (fun b => !b) (.str i) (.str j) H (kB Q) := h
theorem kEqS {i j : Str} {Q : Bool → Hp → Prop} {H : Hp} (h : Q (decide (i = j)) H) : mEqG (fun b => b) (.str i) (.str j) H (kB Q) := h
theorem kNeB {i j : Bool} {Q : Bool → Hp → Prop} {H : Hp} (h : Q (!decide (i = j)) H) : mEqG (fun b => !b) (.bl i) (.bl j) H (kB Q) := h
theorem kI {c : Bool} {Q : Bool → Hp → Prop} {H : Hp} (h : Q c H) : kB Q (.bl c) H := h
/-- the fields of a log as __init__ stores them -/
def lf (sz : Int) (ls le : Addr) : List (Str × V) := putF "held_entries" (.ref le) (putF "held_servers" (.ref ls) (putF "held_size" (.int sz) []))
theorem lf_size (sz : Int) (ls le : Addr) : (lf sz ls le).lookup ("held_size" : Str) = some (.int sz) := by
  unfold lf
  rw [lookup_putF, if_neg (by decide +kernel), lookup_putF, if_neg (by decide +kernel), lookup_putF, if_pos rfl]
theorem lf_servers (sz : Int) (ls le : Addr) : (lf sz ls le).lookup ("held_servers" : Str) = some (.ref ls) := by
  unfold lf
  rw [lookup_putF, if_neg (by decide +kernel), lookup_putF, if_pos rfl]
theorem lf_entries (sz : Int) (ls le : Addr) : (lf sz ls le).lookup ("held_entries" : Str) = some (.ref le) := by
  unfold lf
  rw [lookup_putF, if_pos rfl]
theorem lf_no (sz : Int) (ls le : Addr) {m : Str} (h1 : ¬ m = "held_entries") (h2 : ¬ m = "held_servers") (h3 : ¬ m = "held_size") : (lf sz ls le).lookup m = none := by
  unfold lf
  rw [lookup_putF, if_neg h1, lookup_putF, if_neg h2, lookup_putF, if_neg h3]
  rfl
/-- a log of the class at C stands at p -/
def LogAt (C : Addr) (H : Hp) (p : Addr) (sz : Int) (ns : List Str) (es : List (Str × Int)) : Prop :=
  ∃ dx ls le vs, H p = some (.ins C dx (lf sz ls le)) ∧ H ls = some (.lst (ns.map V.str)) ∧ H le = some (.lst vs) ∧ EntL H es vs
theorem LogAt.mono {C : Addr} {H H' : Hp} {p : Addr} {sz : Int} {ns : List Str} {es : List (Str × Int)} (h : LogAt C H p sz ns es) (x : Ext H H') : LogAt C H' p sz ns es := by
  obtain ⟨dx, ls, le, vs, h1, h2, h3, h4⟩ := h
  exact ⟨dx, ls, le, vs, x _ _ h1, x _ _ h2, x _ _ h3, h4.mono x⟩

/-! ### what is an entry -/
inductive SrvJ (K : PySem.W.Frag) (H : Hp) (ns : List Str) : V → Bool → Prop where
  | str (z : Str) : SrvJ K H ns (.str z) (decide (z ∈ ns))
  | kind {x : V} {t : Value} : TyX K H x t → PySem.W.kitOne K t (.type "str") = some false → SrvJ K H ns x false
inductive IntJ (K : PySem.W.Frag) (H : Hp) : V → Bool → Prop where
  | int (i : Int) : IntJ K H (.int i) true
  | bl (b : Bool) : IntJ K H (.bl b) false
  | kind {x : V} {t : Value} : TyX K H x t → PySem.W.kitOne K t (.type "int") = some false → IntJ K H x false
inductive Jd (K : PySem.W.Frag) (H : Hp) (ns : List Str) : V → Option (Str × Int) → Prop where
  | kind {x : V} {t : Value} : TyX K H x t → PySem.W.kitOne K t (.type "tuple") = some false → Jd K H ns x none
  | size {p : Addr} {xs : List V} : H p = some (.tup xs) → xs.length ≠ 2 → Jd K H ns (.ref p) none
  | srv {p : Addr} {x y : V} : H p = some (.tup [x, y]) → SrvJ K H ns x false → Jd K H ns (.ref p) none
  | num {p : Addr} {x y : V} : H p = some (.tup [x, y]) → SrvJ K H ns x true → IntJ K H y false → Jd K H ns (.ref p) none
  | neg {p : Addr} {x : V} {i : Int} : H p = some (.tup [x, .int i]) → SrvJ K H ns x true → i < 0 → Jd K H ns (.ref p) none
  | ok {p : Addr} {z : Str} {i : Int} : H p = some (.tup [.str z, .int i]) → z ∈ ns → 0 ≤ i → Jd K H ns (.ref p) (some (z, i))

/-! ### what the top must have -/
structure LogC (K : PySem.W.Frag) (C : Addr) (kd : Str) : Prop where
  cl : Cls K C
  nS : NoAttr K C "held_size"
  nV : NoAttr K C "held_servers"
  nE : NoAttr K C "held_entries"
  kd : ∃ u, Con K C "KIND" (.str kd) u
  ty : ∀ H p dx fs, H p = some (.ins C dx fs) → TyX K H (.ref p) (.ref C)
  nt : PySem.W.kitOne K (.ref C) (.type "tuple") = some false
abbrev GV (mg : Str → Option Value) (x : Str) (v : V) : Prop := ∃ u, mg x = some u ∧ RelV v u
structure Blt (mg : Str → Option Value) : Prop where
  n_len : mg "len" = none
  n_isinstance : mg "isinstance" = none
  n_int : mg "int" = none
  n_bool : mg "bool" = none
  n_str : mg "str" = none
  n_list : mg "list" = none
  n_tuple : mg "tuple" = none
  n_all : mg "all" = none
  n_set : mg "set" = none
  n_max : mg "max" = none
  n_min : mg "min" = none
  n_abs : mg "abs" = none
  n_range : mg "range" = none
  n_repr : mg "repr" = none
abbrev LETT : Str := "abcdefghijklmnopqrstuvwxyz"
structure Tx (K : PySem.W.Frag) (mg : Str → Option Value) (cL cX : Addr) : Prop extends Blt mg where
  g_GREATEST_SIZE : GV mg "GREATEST_SIZE" (.int (10 ^ 30))
  g_MOST_SERVERS : GV mg "MOST_SERVERS" (.int 12)
  g_MOST_LETTERS : GV mg "MOST_LETTERS" (.int 8)
  g_MOST_ENTRIES : GV mg "MOST_ENTRIES" (.int 200)
  g_LETTERS : GV mg "LETTERS" (.str LETT)
  g_LOSING : GV mg "LOSING" (.str "losing")
  g_Log : GV mg "Log" (.ref cL)
  g_LosingLog : GV mg "LosingLog" (.ref cX)
  cl1 : LogC K cL "steady"
  cl2 : LogC K cX "losing"
  ll : PySem.W.kitOne K (.ref cL) (.ref cL) = some true
  xl : PySem.W.kitOne K (.ref cX) (.ref cL) = some true
  lx : PySem.W.kitOne K (.ref cL) (.ref cX) = some false
  xx : PySem.W.kitOne K (.ref cX) (.ref cX) = some true
/-- a def of the module -/
structure Dx (K : PySem.W.Frag) (mg : Str → Option Value) (x : Str) (st : Stmt) (ps : List Str) : Prop where
  ex : ∃ f fd, C8.Def K mg x st f fd ∧ Binds K fd ps []
/-- a method's def -/
structure Mx (K : PySem.W.Frag) (m qual : Str) (st : Stmt) (ps : List Str) (f : Addr) (fd : FuncData) : Prop where
  fn : C8.Fun K m qual st f fd
  b : Binds K fd ps []
section
variable {P : Program} {w : World} {K : PySem.W.Frag} {mg : Str → Option Value} {base : Heap}
theorem cal_of {x : Str} {st : Stmt} {N ps : List Str} {k : Nat} {sp : Sp} (D : Dx K mg x st ps) (S : FnScope N ps (C8.fnScope st)) (len : ∀ vs H Q E, sp vs H Q E → vs.length = ps.length)
    (hb : ∀ (f : Addr) (cdv : Value) (A : Around) (o : List Env) (s : Shared) (H : Hp) (vs : List V) (Q : VK) (E : XK), Room k (A.deeper (envOfC x (C8.fnScope st) s.heap.objs.size f cdv)) → sp vs H Q E →
      ∃ t, PSs (cxOf C8.CX0 P w K mg base N x (C8.fnScope st) f cdv A o s H E).nox (C8.fnBody st) t ∧ t { nx := fun _ H' => Q .non H', rt := Q } (start N vs) H) : C8.Cal P w K mg base (k + 1) x sp [] := by
  obtain ⟨f, fd, F, b⟩ := D.ex
  exact C8.cal0 F b .nil S len fun cdv A o s H vs Q E hr h => hb f cdv A o s H vs Q E hr h
theorem calG_of {x : Str} {st : Stmt} {N ps : List Str} {k : Nat} {sp : Sp} (D : Dx K mg x st ps) (S : FnScope N ps (C8.fnScope st)) (len : ∀ vs H Q E, sp vs H Q E → vs.length = ps.length)
    (hb : ∀ (f : Addr) (cdv : Value) (A : Around) (o : List Env) (s : Shared) (H : Hp) (vs : List V) (Q : VK) (E : XK), Room k (A.deeper (envOfC x (C8.fnScope st) s.heap.objs.size f cdv)) → A.guards = some [] → sp vs H Q E →
      ∃ t, PSs (cxOf C8.CX0 P w K mg base N x (C8.fnScope st) f cdv A o s H E).nox (C8.fnBody st) t ∧ t { nx := fun _ H' => Q .non H', rt := Q } (start N vs) H) : CalG P w K mg base (k + 1) x sp := by
  obtain ⟨f, fd, F, b⟩ := D.ex
  exact ⟨f, fd, ps, fnG_of F.fn S len fun cdv A o s H vs Q E hr hgd h => hb f cdv A o s H vs Q E hr hgd h, F.mgf, F.kp, b⟩
theorem fn_of' {m qual : Str} {st : Stmt} {f : Addr} {fd : FuncData} {N ps : List Str} {k : Nat} {sp : Sp} (D : Mx K m qual st ps f fd) (S : FnScope N ps (C8.fnScope st)) (len : ∀ vs H Q E, sp vs H Q E → vs.length = ps.length)
    (hb : ∀ (cdv : Value) (A : Around) (o : List Env) (s : Shared) (H : Hp) (vs : List V) (Q : VK) (E : XK), Room k (A.deeper (envOfC qual (C8.fnScope st) s.heap.objs.size f cdv)) → sp vs H Q E →
      ∃ t, PSs (cxOf C8.CX0 P w K mg base N qual (C8.fnScope st) f cdv A o s H E).nox (C8.fnBody st) t ∧ t { nx := fun _ H' => Q .non H', rt := Q } (start N vs) H) : FnOk P w K mg base C8.CX0 (k + 1) f fd ps sp :=
  C8.fn0 D.fn S len hb
end
theorem u65 {k : Nat} {A : Around} (hr : Room k A) : A.units + 65 < cLine := by have := hr.un; omega
/-! ### a comprehension over a text -/
theorem lc_txt {x : Str} {g : TG} {tt : TT} {te : TE} {vs : List Nat} {σ : L2.St} {H1 : Hp} {D : Addr} {Qd : Hp → Prop} (Pv : Nat → Hp → Prop) (h0 : Pv 0 (upd H1 D (.lst [])))
    (hs : ∀ i c H, x.cps.toList[i]? = some c → Pv i H → g (.str ⟨#[c]⟩) (wipe σ vs) H fun σ2 H2 => wipe σ2 vs = wipe σ vs ∧ tt σ2 H2 fun b H3 =>
      if b = true then te σ2 H3 fun y H4 => ∃ acc, H4 D = some (.lst acc) ∧ acc.length < sizeLine ∧ Pv (i + 1) (upd H4 D (.lst (acc ++ [y]))) else Pv (i + 1) H3) (hd : ∀ H, Pv x.cps.size H → Qd H) :
    ∃ W : Nat → Nat → Hp → Prop, (∃ m, W 0 m (upd H1 D (.lst []))) ∧ ∀ i m H, W i m H →
      ((Its x).stop i H ∧ Qd H) ∨ ((Its x).go i H ∧ ∃ Nx : Hp → Prop, (∀ H', Nx H' → ∃ m', m' < m ∧ W (i + 1) m' H') ∧ ∀ y H', (Its x).yld i H y H' → g y (wipe σ vs) H' fun σ2 H2 => wipe σ2 vs = wipe σ vs ∧ tt σ2 H2 fun b H3 =>
        if b = true then te σ2 H3 fun y H4 => ∃ acc, H4 D = some (.lst acc) ∧ acc.length < sizeLine ∧ Nx (upd H4 D (.lst (acc ++ [y]))) else Nx H3) := by
  refine ⟨fun i m H => m = x.cps.size - i ∧ i ≤ x.cps.size ∧ Pv i H, ⟨x.cps.size, by simp, Nat.zero_le _, h0⟩, ?_⟩
  rintro i m H ⟨rfl, hi, p⟩
  rcases Nat.lt_or_ge i x.cps.size with h | h
  · refine .inr ⟨h, Pv (i + 1), fun H' p' => ⟨x.cps.size - (i + 1), by omega, rfl, h, p'⟩, ?_⟩
    rintro y H' ⟨rfl, c, e, rfl⟩
    exact hs i c _ (by rw [Array.getElem?_toList]; exact e) p
  · obtain rfl : i = x.cps.size := by omega
    exact .inl ⟨Nat.le_refl _, hd H p⟩
end NB

set_option Elab.async false
set_option linter.all false
set_option maxRecDepth 100000
namespace NB
open PySem PySem.Spec PyProof.Rows L2 C8
def top (i : Nat) : Stmt := PySem.Challenge.pw_numberbooks_k52_long_live_logs.main.body.getD i (.Pass ⟨0, 0, 0, 0⟩)
abbrev s_NotPossible___init__ : Stmt := inClass (top 10) 0
theorem sc_NotPossible___init__ : FnScope ["self", "obstacle"] ["self", "obstacle"] (fnScope s_NotPossible___init__) := fnScope_by (by decide +kernel)
abbrev s_is_integer : Stmt := top 18
theorem sc_is_integer : FnScope ["thing"] ["thing"] (fnScope s_is_integer) := fnScope_by (by decide +kernel)
abbrev s_is_size : Stmt := top 19
theorem sc_is_size : FnScope ["thing"] ["thing"] (fnScope s_is_size) := fnScope_by (by decide +kernel)
abbrev s_is_name : Stmt := top 20
theorem sc_is_name : FnScope ["thing", "letter"] ["thing"] (fnScope s_is_name) := fnScope_by (by decide +kernel)
abbrev s_are_servers : Stmt := top 21
theorem sc_are_servers : FnScope ["thing", "name"] ["thing"] (fnScope s_are_servers) := fnScope_by (by decide +kernel)
abbrev s_is_server : Stmt := top 22
theorem sc_is_server : FnScope ["servers", "thing"] ["servers", "thing"] (fnScope s_is_server) := fnScope_by (by decide +kernel)
abbrev s_is_entry : Stmt := top 23
theorem sc_is_entry : FnScope ["servers", "thing"] ["servers", "thing"] (fnScope s_is_entry) := fnScope_by (by decide +kernel)
abbrev s_are_entries : Stmt := top 24
theorem sc_are_entries : FnScope ["servers", "thing", "entry"] ["servers", "thing"] (fnScope s_are_entries) := fnScope_by (by decide +kernel)
abbrev s_need_server : Stmt := top 25
theorem sc_need_server : FnScope ["servers", "thing"] ["servers", "thing"] (fnScope s_need_server) := fnScope_by (by decide +kernel)
abbrev s_Log___init__ : Stmt := inClass (top 26) 1
theorem sc_Log___init__ : FnScope ["self", "size", "servers", "entries"] ["self", "size", "servers", "entries"] (fnScope s_Log___init__) := fnScope_by (by decide +kernel)
abbrev s_Log_size : Stmt := inClass (top 26) 2
theorem sc_Log_size : FnScope ["self"] ["self"] (fnScope s_Log_size) := fnScope_by (by decide +kernel)
abbrev s_Log_servers : Stmt := inClass (top 26) 3
theorem sc_Log_servers : FnScope ["self"] ["self"] (fnScope s_Log_servers) := fnScope_by (by decide +kernel)
abbrev s_Log_entries : Stmt := inClass (top 26) 4
theorem sc_Log_entries : FnScope ["self"] ["self"] (fnScope s_Log_entries) := fnScope_by (by decide +kernel)
abbrev s_Log___len__ : Stmt := inClass (top 26) 5
theorem sc_Log___len__ : FnScope ["self"] ["self"] (fnScope s_Log___len__) := fnScope_by (by decide +kernel)
abbrev s_Log___eq__ : Stmt := inClass (top 26) 6
theorem sc_Log___eq__ : FnScope ["self", "other"] ["self", "other"] (fnScope s_Log___eq__) := fnScope_by (by decide +kernel)
abbrev s_Log___contains__ : Stmt := inClass (top 26) 7
theorem sc_Log___contains__ : FnScope ["self", "thing"] ["self", "thing"] (fnScope s_Log___contains__) := fnScope_by (by decide +kernel)
abbrev s_Log___add__ : Stmt := inClass (top 26) 8
theorem sc_Log___add__ : FnScope ["self", "other", "entries"] ["self", "other"] (fnScope s_Log___add__) := fnScope_by (by decide +kernel)
abbrev s_Log_with_entry : Stmt := inClass (top 26) 9
theorem sc_Log_with_entry : FnScope ["self", "server", "number"] ["self", "server", "number"] (fnScope s_Log_with_entry) := fnScope_by (by decide +kernel)
abbrev s_log_of : Stmt := top 28
theorem sc_log_of : FnScope ["kind", "size", "servers", "entries"] ["kind", "size", "servers", "entries"] (fnScope s_log_of) := fnScope_by (by decide +kernel)
abbrev s_is_index : Stmt := top 34
theorem sc_is_index : FnScope ["thing", "limit"] ["thing", "limit"] (fnScope s_is_index) := fnScope_by (by decide +kernel)
abbrev s_Facts___init__ : Stmt := inClass (top 35) 0
theorem sc_Facts___init__ : FnScope ["self", "size", "servers", "entries", "server", "number", "index", "block", "own"] ["self", "size", "servers", "entries"] (fnScope s_Facts___init__) := fnScope_by (by decide +kernel)
abbrev s_Facts_last_slot : Stmt := inClass (top 35) 1
theorem sc_Facts_last_slot : FnScope ["self"] ["self"] (fnScope s_Facts_last_slot) := fnScope_by (by decide +kernel)
abbrev s_Facts_window_of : Stmt := inClass (top 35) 2
theorem sc_Facts_window_of : FnScope ["self", "server", "block", "holder", "low", "index", "other", "high"] ["self", "server", "block"] (fnScope s_Facts_window_of) := fnScope_by (by decide +kernel)
abbrev s_Facts_windows : Stmt := inClass (top 35) 3
theorem sc_Facts_windows : FnScope ["self", "block", "server"] ["self", "block"] (fnScope s_Facts_windows) := fnScope_by (by decide +kernel)
abbrev s_Facts_rows : Stmt := inClass (top 35) 4
theorem sc_Facts_rows : FnScope ["self", "found", "next_block", "passed", "server", "block", "holder", "place", "own_window"] ["self"] (fnScope s_Facts_rows) := fnScope_by (by decide +kernel)
abbrev s_Facts_window_at : Stmt := inClass (top 35) 5
theorem sc_Facts_window_at : FnScope ["self", "server", "place", "own", "low"] ["self", "server", "place"] (fnScope s_Facts_window_at) := fnScope_by (by decide +kernel)
abbrev s_Facts_plain_fault : Stmt := inClass (top 35) 6
theorem sc_Facts_plain_fault : FnScope ["self", "indices", "first_of", "last_of", "late", "server", "number", "early"] ["self"] (fnScope s_Facts_plain_fault) := fnScope_by (by decide +kernel)
abbrev s_facts_of : Stmt := top 36
theorem sc_facts_of : FnScope ["log"] ["log"] (fnScope s_facts_of) := fnScope_by (by decide +kernel)
abbrev s_least_slot : Stmt := top 37
theorem sc_least_slot : FnScope ["windows", "start", "slots", "window"] ["windows", "start"] (fnScope s_least_slot) := fnScope_by (by decide +kernel)
abbrev s_least_slots : Stmt := top 38
theorem sc_least_slots : FnScope ["rows", "found", "slot", "first", "last", "windows"] ["rows"] (fnScope s_least_slots) := fnScope_by (by decide +kernel)
abbrev s_pushes_of : Stmt := top 39
theorem sc_pushes_of : FnScope ["rows", "end", "slots", "found", "before", "first", "last", "windows", "slot"] ["rows", "end"] (fnScope s_pushes_of) := fnScope_by (by decide +kernel)
abbrev s_obstacle_in : Stmt := top 40
theorem sc_obstacle_in : FnScope ["facts", "fault", "steps"] ["facts"] (fnScope s_obstacle_in) := fnScope_by (by decide +kernel)
abbrev s_obstacle : Stmt := top 41
theorem sc_obstacle : FnScope ["log"] ["log"] (fnScope s_obstacle) := fnScope_by (by decide +kernel)
abbrev s_shows_two : Stmt := top 42
theorem sc_shows_two : FnScope ["facts", "kind", "early", "late", "many", "server", "number", "other", "other_number"] ["facts", "kind", "early", "late"] (fnScope s_shows_two) := fnScope_by (by decide +kernel)
abbrev s_are_steps : Stmt := top 43
theorem sc_are_steps : FnScope ["facts", "thing", "step", "one", "other"] ["facts", "thing"] (fnScope s_are_steps) := fnScope_by (by decide +kernel)
abbrev s_shows_steps : Stmt := top 44
theorem sc_shows_steps : FnScope ["facts", "thing", "before", "block", "slot", "found"] ["facts", "thing"] (fnScope s_shows_steps) := fnScope_by (by decide +kernel)
abbrev s_shows_obstacle : Stmt := top 45
theorem sc_shows_obstacle : FnScope ["log", "thing", "facts"] ["log", "thing"] (fnScope s_shows_obstacle) := fnScope_by (by decide +kernel)
abbrev s_LiveLog___init__ : Stmt := inClass (top 47) 0
theorem sc_LiveLog___init__ : FnScope ["self", "size", "servers"] ["self", "size", "servers"] (fnScope s_LiveLog___init__) := fnScope_by (by decide +kernel)
abbrev s_LiveLog_begun : Stmt := inClass (top 47) 1
theorem sc_LiveLog_begun : FnScope ["self", "size", "servers"] ["self", "size", "servers"] (fnScope s_LiveLog_begun) := fnScope_by (by decide +kernel)
abbrev s_LiveLog_fresh : Stmt := inClass (top 47) 2
theorem sc_LiveLog_fresh : FnScope ["self", "base"] ["self"] (fnScope s_LiveLog_fresh) := fnScope_by (by decide +kernel)
abbrev s_LiveLog_see : Stmt := inClass (top 47) 3
theorem sc_LiveLog_see : FnScope ["self", "server", "number", "later", "found"] ["self", "server", "number"] (fnScope s_LiveLog_see) := fnScope_by (by decide +kernel)
abbrev s_LiveLog_now : Stmt := inClass (top 47) 4
theorem sc_LiveLog_now : FnScope ["self"] ["self"] (fnScope s_LiveLog_now) := fnScope_by (by decide +kernel)
abbrev s_LiveLog_undo : Stmt := inClass (top 47) 5
theorem sc_LiveLog_undo : FnScope ["self", "many"] ["self"] (fnScope s_LiveLog_undo) := fnScope_by (by decide +kernel)
abbrev s_LiveLog_mark : Stmt := inClass (top 47) 6
theorem sc_LiveLog_mark : FnScope ["self"] ["self"] (fnScope s_LiveLog_mark) := fnScope_by (by decide +kernel)
abbrev s_LiveLog_undo_to : Stmt := inClass (top 47) 7
theorem sc_LiveLog_undo_to : FnScope ["self", "index"] ["self", "index"] (fnScope s_LiveLog_undo_to) := fnScope_by (by decide +kernel)
abbrev s_LiveLog___len__ : Stmt := inClass (top 47) 8
theorem sc_LiveLog___len__ : FnScope ["self"] ["self"] (fnScope s_LiveLog___len__) := fnScope_by (by decide +kernel)
abbrev s_LiveLog_twin : Stmt := inClass (top 47) 9
theorem sc_LiveLog_twin : FnScope ["self", "other"] ["self"] (fnScope s_LiveLog_twin) := fnScope_by (by decide +kernel)
abbrev s_LiveLosingLog_begun : Stmt := inClass (top 48) 0
theorem sc_LiveLosingLog_begun : FnScope ["self", "size", "servers"] ["self", "size", "servers"] (fnScope s_LiveLosingLog_begun) := fnScope_by (by decide +kernel)
abbrev s_LiveLosingLog_fresh : Stmt := inClass (top 48) 1
theorem sc_LiveLosingLog_fresh : FnScope ["self", "base"] ["self"] (fnScope s_LiveLosingLog_fresh) := fnScope_by (by decide +kernel)
abbrev s__law_urn : Stmt := top 50
theorem sc__law_urn : FnScope ["script", "swirl", "cell"] ["script"] (fnScope s__law_urn) := fnScope_by (by decide +kernel)
abbrev s__law_lot : Stmt := top 51
theorem sc__law_lot : FnScope ["urn", "many", "found", "swirl"] ["urn", "many"] (fnScope s__law_lot) := fnScope_by (by decide +kernel)
abbrev s__law_clash : Stmt := top 52
theorem sc__law_clash : FnScope ["wide", "rows", "owner_here", "last", "name", "value", "block"] ["wide", "rows"] (fnScope s__law_clash) := fnScope_by (by decide +kernel)
abbrev s__law_live : Stmt := top 53
theorem sc__law_live : FnScope ["wide", "names", "is_losing"] ["wide", "names", "is_losing"] (fnScope s__law_live) := fnScope_by (by decide +kernel)
abbrev s__law_log : Stmt := top 54
theorem sc__law_log : FnScope ["wide", "names", "rows", "is_losing"] ["wide", "names", "rows", "is_losing"] (fnScope s__law_log) := fnScope_by (by decide +kernel)
abbrev s__law_same : Stmt := top 55
theorem sc__law_same : FnScope ["live", "wide", "names", "rows", "is_losing", "told", "due", "row"] ["live", "wide", "names", "rows", "is_losing"] (fnScope s__law_same) := fnScope_by (by decide +kernel)
abbrev s__law_tried : Stmt := top 56
theorem sc__law_tried : FnScope ["live", "name", "number_here", "by_name", "told", "e"] ["live", "name", "number_here", "by_name"] (fnScope s__law_tried) := fnScope_by (by decide +kernel)
abbrev s__law_is_fault : Stmt := top 57
theorem sc__law_is_fault : FnScope ["wide", "rows", "told", "first", "second"] ["wide", "rows", "told"] (fnScope s__law_is_fault) := fnScope_by (by decide +kernel)
abbrev s__law_refused_right : Stmt := top 58
theorem sc__law_refused_right : FnScope ["urn", "live", "case", "name", "value", "is_pushed", "wide", "names", "rows", "is_losing", "told", "longer"] ["urn", "live", "case", "name", "value", "is_pushed"] (fnScope s__law_refused_right) := fnScope_by (by decide +kernel)
abbrev s__law_ends_right : Stmt := top 59
theorem sc__law_ends_right : FnScope ["urn", "live", "case", "wide", "rows", "pairs", "pushed", "name", "value"] ["urn", "live", "case"] (fnScope s__law_ends_right) := fnScope_by (by decide +kernel)
abbrev s_law : Stmt := top 60
theorem sc_law : FnScope ["script", "urn", "is_losing", "wide", "names", "live", "places", "rows", "turn", "at", "twin", "many", "spot"] ["script"] (fnScope s_law) := fnScope_by (by decide +kernel)
end NB

set_option Elab.async false
set_option linter.all false
set_option maxRecDepth 100000
set_option maxHeartbeats 4000000
/-! K1: the defs of numberbooks.logs -/
namespace NB
open PySem PySem.Spec L2
open PyProof.Rows (envOfC)
open C8 (pe_c pe_mk pe_mt pe_mt0 pe_gc fnScope fnBody fnArgs fnScope_by Cal Met Mak)

theorem kt_str_str {K : PySem.W.Frag} : PySem.W.kitOne K (.type "str") (.type "str") = some true := kit_ty (by decide +kernel)
theorem kt_list_list {K : PySem.W.Frag} : PySem.W.kitOne K (.type "list") (.type "list") = some true := kit_ty (by decide +kernel)
theorem kt_tup_tup {K : PySem.W.Frag} : PySem.W.kitOne K (.type "tuple") (.type "tuple") = some true := kit_ty (by decide +kernel)
theorem kt_int_int {K : PySem.W.Frag} : PySem.W.kitOne K (.type "int") (.type "int") = some true := kit_ty (by decide +kernel)
theorem kt_int_bool {K : PySem.W.Frag} : PySem.W.kitOne K (.type "int") (.type "bool") = some false := kit_ty (by decide +kernel)
theorem kt_bool_int {K : PySem.W.Frag} : PySem.W.kitOne K (.type "bool") (.type "int") = some true := kit_ty (by decide +kernel)
theorem kt_bool_bool {K : PySem.W.Frag} : PySem.W.kitOne K (.type "bool") (.type "bool") = some true := kit_ty (by decide +kernel)

/-! ### promises -/
def spInteger (K : PySem.W.Frag) : Sp := fun vs H Q _ => ∃ x b, vs = [x] ∧ IntJ K H x b ∧ Q (.bl b) H
def spSizeB : Sp := fun vs H Q _ => ∃ i, vs = [.int i] ∧ Q (.bl (decide (1 ≤ i) && decide (i ≤ 10 ^ 30))) H
def spName : Sp := fun vs H Q _ => ∃ z, vs = [.str z] ∧ nameB z = true ∧ ∀ H', Ext H H' → Q (.bl true) H'
def spCrew : Sp := fun vs H Q _ => ∃ a ns, vs = [.ref a] ∧ H a = some (.lst (ns.map V.str)) ∧ CrewOk ns ∧ ∀ H', Ext H H' → Q (.bl true) H'
def spServer (K : PySem.W.Frag) : Sp := fun vs H Q _ => ∃ a ns x b, vs = [.ref a, x] ∧ H a = some (.lst (ns.map V.str)) ∧ SrvJ K H ns x b ∧ Q (.bl b) H
def spEntry (K : PySem.W.Frag) : Sp := fun vs H Q _ => ∃ a ns x r, vs = [.ref a, x] ∧ H a = some (.lst (ns.map V.str)) ∧ Jd K H ns x r ∧ Q (.bl r.isSome) H
def spEntries : Sp := fun vs H Q _ => ∃ a ns l es xs, vs = [.ref a, .ref l] ∧ H a = some (.lst (ns.map V.str)) ∧ H l = some (.lst xs) ∧ EntL H es xs ∧ EntsOk ns es ∧ ∀ H', Ext H H' → Q (.bl true) H'
/-- __init__ with right arguments -/
def spInit (C : Addr) : Sp := fun vs H Q _ => ∃ p dx sz a ns l es xs, vs = [.ref p, .int sz, .ref a, .ref l] ∧ H p = some (.ins C dx []) ∧ H dx = some (.own p) ∧ SizeOk sz ∧ H a = some (.lst (ns.map V.str)) ∧ CrewOk ns ∧ H l = some (.lst xs) ∧ EntL H es xs ∧ EntsOk ns es ∧
  ∀ H' ls le, H ls = none → H le = none → H' p = some (.ins C dx (lf sz ls le)) → H' ls = some (.lst (ns.map V.str)) → H' le = some (.lst xs) → Frm [p] H H' → Q .non H'

section
variable {P : Program} {w : World} {K : PySem.W.Frag} {mg : Str → Option Value} {base : Heap} {cL cX : Addr}
theorem ok_is_integer (T : Tx K mg cL cX) (D : Dx K mg "is_integer" s_is_integer ["thing"]) : Cal P w K mg base 1 "is_integer" (spInteger K) [] := by
  refine cal_of D sc_is_integer (fun vs H Q E h => ?_) (fun f cdv A o s H vs Q E hr h => ?_)
  · obtain ⟨x, b, rfl, _⟩ := h; rfl
  · obtain ⟨x, b, rfl, j, k⟩ := h
    refine ⟨_, (pss_one (ps_ret (pe_and (pe_callB call_isi (by rfl) T.n_isinstance (by decide +kernel) (pa_cons (mv 0) (pa_cons (pe_bltn (v := .ty "int") (u := .type "int") (by rfl) T.n_int (by decide +kernel) rfl) pa_nil))) (pe_one (pe_not (pe_callB call_isi (by rfl) T.n_isinstance (by decide +kernel) (pa_cons (mv 0) (pa_cons (pe_bltn (v := .ty "bool") (u := .type "bool") (by rfl) T.n_bool (by decide +kernel) rfl) pa_nil)))))))), ?_⟩
    cases j with
    | int i =>
      refine ⟨_, _, _, _, _, rfl, .ty _, .base (.int i), kt_int_int, _, rfl, ifT (by rfl) ?_⟩
      exact ⟨_, _, _, _, _, rfl, .ty _, .base (.int i), kt_int_bool, _, rfl, k⟩
    | bl c =>
      refine ⟨_, _, _, _, _, rfl, .ty _, .base (.bl c), kt_bool_int, _, rfl, ifT (by rfl) ?_⟩
      exact ⟨_, _, _, _, _, rfl, .ty _, .base (.bl c), kt_bool_bool, _, rfl, k⟩
    | kind ty e => exact ⟨_, _, _, _, _, rfl, .ty _, ty, e, _, rfl, ifF (by rfl) k⟩

theorem ok_is_size (T : Tx K mg cL cX) (D : Dx K mg "is_size" s_is_size ["thing"]) (c_is_integer : Cal P w K mg base 1 "is_integer" (spInteger K) []) : Cal P w K mg base 2 "is_size" spSizeB [] := by
  refine cal_of D sc_is_size (fun vs H Q E h => ?_) (fun f cdv A o s H vs Q E hr h => ?_)
  · obtain ⟨i, rfl, _⟩ := h; rfl
  · obtain ⟨i, rfl, k⟩ := h
    refine ⟨_, (pss_one (ps_ret (pe_and (pe_c c_is_integer hr (by decide) rfl (pa_cons (mv 0) pa_nil)) (pe_one (pe_chain m_le m_le pe_int (mv 0) (pe_gc rfl T.g_GREATEST_SIZE)))))), ?_⟩
    refine ⟨_, _, rfl, .int i, _, rfl, ifT (by rfl) ?_⟩
    refine ⟨_, rfl, ?_⟩
    by_cases h : 1 ≤ i
    · rw [decide_eq_true h] at k ⊢
      exact ifT (by rfl) k
    · rw [decide_eq_false h] at k ⊢
      exact ifF (by rfl) k

theorem lett_in {c : Nat} (h : 97 ≤ c ∧ c ≤ 122) : (!(Builtin.Str.occurrences LETT ⟨#[c]⟩ 0 LETT.length 1).isEmpty) = true := by
  have e : LETT = SX.S [97, 98, 99, 100, 101, 102, 103, 104, 105, 106, 107, 108, 109, 110, 111, 112, 113, 114, 115, 116, 117, 118, 119, 120, 121, 122] := by decide +kernel
  rw [e]
  refine (SX.in_one _ c).trans (decide_eq_true ?_)
  obtain ⟨h1, h2⟩ := h
  have : c = 97 ∨ c = 98 ∨ c = 99 ∨ c = 100 ∨ c = 101 ∨ c = 102 ∨ c = 103 ∨ c = 104 ∨ c = 105 ∨ c = 106 ∨ c = 107 ∨ c = 108 ∨ c = 109 ∨ c = 110 ∨ c = 111 ∨ c = 112 ∨ c = 113 ∨ c = 114 ∨ c = 115 ∨ c = 116 ∨ c = 117 ∨ c = 118 ∨ c = 119 ∨ c = 120 ∨ c = 121 ∨ c = 122 := by omega
  simp only [List.mem_cons, List.not_mem_nil, or_false]
  exact this

theorem all_true (n : Nat) : (List.replicate n true).all id = true := by
  rw [List.all_replicate]; simp
theorem rep_more (n : Nat) : (List.replicate n true).map V.bl ++ [V.bl true] = (List.replicate (n + 1) true).map V.bl := by
  rw [List.replicate_succ', List.map_append]; rfl
theorem goY {σ : L2.St} {H : Hp} {Q : Bool → Hp → Prop} (h : Q true H) : tYes σ H Q := h
/-- what a comprehension of Trues keeps -/
def Trues (H0 : Hp) (D : Addr) (i : Nat) (H : Hp) : Prop := Ext H0 H ∧ H D = some (.lst ((List.replicate i true).map V.bl))
theorem Trues.next {H0 H : Hp} {D : Addr} {i : Nat} (h : Trues H0 D i H) (hD : H0 D = none) : Trues H0 D (i + 1) (upd H D (.lst ((List.replicate i true).map V.bl ++ [V.bl true]))) := by
  refine ⟨fun a o e => ?_, ?_⟩
  · rw [upd_ne (ne_of_none e hD)]; exact h.1 a o e
  · rw [upd_same, rep_more]
theorem Trues.zero {H0 : Hp} {D : Addr} (hD : H0 D = none) : Trues H0 D 0 (upd H0 D (.lst [])) := ⟨Ext.upd hD, upd_same⟩

theorem ok_is_name (T : Tx K mg cL cX) (D : Dx K mg "is_name" s_is_name ["thing"]) : Cal P w K mg base 1 "is_name" spName [] := by
  refine cal_of D sc_is_name (fun vs H Q E h => ?_) (fun f cdv A o s H vs Q E hr h => ?_)
  · obtain ⟨z, rfl, _⟩ := h; rfl
  · obtain ⟨z, rfl, hz, k⟩ := h
    unfold nameB at hz
    simp only [Bool.and_eq_true, decide_eq_true_eq] at hz
    obtain ⟨⟨h1, h2⟩, h3⟩ := hz
    have hl : z.length ≤ sizeLine := Nat.le_trans h2 (by decide)
    have e1 : (1 : Int) ≤ (z.length : Int) := by omega
    have e2 : (z.length : Int) ≤ 8 := by omega
    refine ⟨_, (pss_cons (ps_if (PW.pt (pw_or (pt_not (qv (pe_callB call_isi (by rfl) T.n_isinstance (by decide +kernel) (pa_cons (mv 0) (pa_cons (pe_bltn (v := .ty "str") (u := .type "str") (by rfl) T.n_str (by decide +kernel) rfl) pa_nil))))) (pw_or1 (pt_not (pt_chain m_le m_le pe_int (pe_callB call_len (by rfl) T.n_len (by decide +kernel) (pa_cons (mv 0) pa_nil)) (pe_gc rfl T.g_MOST_LETTERS)))))) (pss_one (ps_ret pe_bl)) pss_nil)
    (pss_one (ps_ret (pe_callB (cr_all rfl) (by rfl) T.n_all (by decide +kernel) (pa_cons (pe_lc (own := [("letter", 1)]) (g := gName 1) (tt := tYes) rfl sc_is_name.nd (pi_str (mv 0)) (blkOk_by (own := [("letter", 1)]) (N := ["thing", "letter"]) (sc := fnScope s_is_name) (by decide +kernel)) (fun _ _ _ _ _ => (pg_name (i := 1) sc_is_name.nd rfl (Or.inl rfl))) (fun _ _ _ _ _ => pts_nil) (fun _ _ _ _ _ => (pe_cmpR op_in_str (mv 1) (pe_gc rfl T.g_LETTERS) (by rfl)))) pa_nil))))), ?_⟩
    refine ⟨_, _, _, _, _, rfl, .ty _, .base (.str z), kt_str_str, ifF (by rfl) ?_⟩
    refine ⟨_, _, rfl, ⟨hl, rfl⟩, _, rfl, ?_⟩
    rw [decide_eq_true e1]
    refine ifT (by rfl) ⟨_, rfl, ?_⟩
    rw [decide_eq_true e2]
    refine ifF (by rfl) ?_
    refine ⟨_, rfl, fun d hd => lc_txt (Trues H d) (Trues.zero hd) ?_ ?_⟩
    · intro i c H1 hc t
      have hc2 := List.all_eq_true.mp h3 c (List.mem_of_getElem? hc)
      simp only [Bool.and_eq_true, decide_eq_true_eq] at hc2
      have hi : i < z.length := by have := (List.getElem?_eq_some_iff.mp hc).1; simpa [Str.length] using this
      refine ⟨rfl, goY (ifT (by rfl) ⟨_, _, rfl, rfl, _, t.2, ?_, ?_⟩)⟩
      · rw [List.length_map, List.length_replicate]; omega
      · rw [lett_in hc2]
        exact t.next hd
    · intro H1 t
      exact ⟨_, _, rfl, SqL.of t.2, by rw [all_true]; exact k H1 t.1⟩

theorem map_at {α : Type} {f : α → V} {xs : List α} {i : Nat} {y : V} (h : (xs.map f)[i]? = some y) : ∃ x, xs[i]? = some x ∧ y = f x := by
  rw [List.getElem?_map] at h
  cases e : xs[i]? with
  | none => rw [e] at h; cases h
  | some x => rw [e] at h; exact ⟨x, rfl, (Option.some.inj h).symm⟩

theorem ok_are_servers (T : Tx K mg cL cX) (D : Dx K mg "are_servers" s_are_servers ["thing"]) (c_is_name : Cal P w K mg base 1 "is_name" spName []) : Cal P w K mg base 2 "are_servers" spCrew [] := by
  refine cal_of D sc_are_servers (fun vs H Q E h => ?_) (fun f cdv A o s H vs Q E hr h => ?_)
  · obtain ⟨a, ns, rfl, _⟩ := h; rfl
  · obtain ⟨a, ns, rfl, ha, ok, k⟩ := h
    have e1 : (1 : Int) ≤ (ns.length : Int) := by have := ok.one; omega
    have e2 : (ns.length : Int) ≤ 12 := by have := ok.few; omega
    refine ⟨_, (pss_cons (ps_if (PW.pt (pw_or (pt_not (qv (pe_callB call_isi (by rfl) T.n_isinstance (by decide +kernel) (pa_cons (mv 0) (pa_cons (pe_bltn (v := .ty "list") (u := .type "list") (by rfl) T.n_list (by decide +kernel) rfl) pa_nil))))) (pw_or1 (pt_not (pt_chain m_le m_le pe_int (pe_callB call_len (by rfl) T.n_len (by decide +kernel) (pa_cons (mv 0) pa_nil)) (pe_gc rfl T.g_MOST_SERVERS)))))) (pss_one (ps_ret pe_bl)) pss_nil)
    (pss_one (ps_ret (pe_and (pe_callB (cr_all rfl) (by rfl) T.n_all (by decide +kernel) (pa_cons (pe_lc (own := [("name", 1)]) (g := gName 1) (tt := tYes) rfl sc_are_servers.nd (pi_list (mv 0)) (blkOk_by (own := [("name", 1)]) (N := ["thing", "name"]) (sc := fnScope s_are_servers) (by decide +kernel)) (fun _ _ _ _ _ => (pg_name (i := 1) sc_are_servers.nd rfl (Or.inl rfl))) (fun _ _ _ _ _ => pts_nil) (fun _ _ _ _ _ => (pe_c c_is_name hr (by decide) rfl (pa_cons (mv 1) pa_nil)))) pa_nil)) (pe_one (pe_cmpR m_eq (pe_lenSetS rfl (by rfl) T.n_len (by rfl) T.n_set (mv 0)) (pe_callB call_len (by rfl) T.n_len (by decide +kernel) (pa_cons (mv 0) pa_nil)) (nomark _))))))), ?_⟩
    refine ⟨_, _, _, _, _, rfl, .ty _, .base (.lst ha), kt_list_list, ifF (by rfl) ?_⟩
    refine ⟨_, _, rfl, .inl ⟨_, SqL.of ha, rfl⟩, _, rfl, ?_⟩
    rw [List.length_map, decide_eq_true e1]
    refine ifT (by rfl) ⟨_, rfl, ?_⟩
    rw [decide_eq_true e2]
    refine ifF (by rfl) ?_
    refine ⟨_, rfl, ⟨_, SqL.of ha⟩, fun d hd => lc_list (K := K) (a := a) (xs := ns.map V.str) (Trues H d) (Trues.zero hd) (fun i H1 _ t => SqL.of (t.1 _ _ ha)) ?_ ?_⟩
    · intro i y H1 hy t
      obtain ⟨z, hz, rfl⟩ := map_at hy
      have hi : i < ns.length := (List.getElem?_eq_some_iff.mp hz).1
      refine ⟨rfl, goY (ifT (by rfl) ?_)⟩
      refine ⟨z, rfl, ok.nam z (List.mem_of_getElem? hz), fun H2 x => ⟨_, x _ _ t.2, ?_, ?_⟩⟩
      · rw [List.length_map, List.length_replicate]
        exact Nat.lt_of_lt_of_le hi (Nat.le_trans ok.few (by decide))
      · exact Trues.next ⟨t.1.trans x, x _ _ t.2⟩ hd
    · intro H1 t
      refine ⟨_, _, rfl, SqL.of t.2, ?_⟩
      rw [all_true]
      refine ⟨_, rfl, ifT (by rfl) ?_⟩
      refine ⟨a, ns, rfl, SqL.of (t.1 _ _ ha), Nat.le_trans ok.few (by decide), ok.nd, ?_⟩
      refine ⟨_, _, rfl, .inl ⟨_, SqL.of (t.1 _ _ ha), rfl⟩, ?_⟩
      rw [List.length_map]
      show Q (.bl (decide ((ns.length : Int) = (ns.length : Int)))) H1
      rw [decide_eq_true rfl]
      exact k H1 t.1

theorem inV_str (z : Str) : ∀ ns : List Str, inV (.str z) (ns.map V.str) = decide (z ∈ ns)
  | [] => rfl
  | y :: ns => by
    have ih := inV_str z ns
    unfold inV at ih ⊢
    rw [List.map_cons, List.any_cons, ih]
    have e : eqV (.str y) (.str z) = decide (y = z) := by
      unfold eqV
      by_cases h : y = z
      · subst h; simp
      · simp [h]
    rw [e, Bool.eq_iff_iff]
    simp only [Bool.or_eq_true, decide_eq_true_eq, List.mem_cons]
    exact ⟨fun q => q.elim (fun q => .inl q.symm) .inr, fun q => q.elim (fun q => .inl q.symm) .inr⟩
theorem flat_strs (ns : List Str) : (ns.map V.str).all flatV = true := by
  rw [List.all_map, List.all_eq_true]; intro z _; rfl

theorem ok_is_server (T : Tx K mg cL cX) (D : Dx K mg "is_server" s_is_server ["servers", "thing"]) : Cal P w K mg base 1 "is_server" (spServer K) [] := by
  refine cal_of D sc_is_server (fun vs H Q E h => ?_) (fun f cdv A o s H vs Q E hr h => ?_)
  · obtain ⟨a, ns, x, b, rfl, _⟩ := h; rfl
  · obtain ⟨a, ns, x, b, rfl, ha, j, k⟩ := h
    refine ⟨_, (pss_one (ps_ret (pe_and (pe_callB call_isi (by rfl) T.n_isinstance (by decide +kernel) (pa_cons (mv 1) (pa_cons (pe_bltn (v := .ty "str") (u := .type "str") (by rfl) T.n_str (by decide +kernel) rfl) pa_nil))) (pe_one (pe_cmpR op_in_seq (mv 1) (mv 0) (by rfl)))))), ?_⟩
    cases j with
    | str z =>
      refine ⟨_, _, _, _, _, rfl, .ty _, .base (.str z), kt_str_str, _, rfl, ifT (by rfl) ?_⟩
      refine ⟨_, _, rfl, .inl (SqL.of ha), rfl, flat_strs _, ?_⟩
      rw [inV_str]
      exact k
    | kind ty e => exact ⟨_, _, _, _, _, rfl, .ty _, ty, e, _, rfl, ifF (by rfl) k⟩

theorem ok_is_entry (T : Tx K mg cL cX) (D : Dx K mg "is_entry" s_is_entry ["servers", "thing"]) (c_is_server : Cal P w K mg base 1 "is_server" (spServer K) []) (c_is_integer : Cal P w K mg base 1 "is_integer" (spInteger K) []) :
    Cal P w K mg base 2 "is_entry" (spEntry K) [] := by
  refine cal_of D sc_is_entry (fun vs H Q E h => ?_) (fun f cdv A o s H vs Q E hr h => ?_)
  · obtain ⟨a, ns, x, r, rfl, _⟩ := h; rfl
  · obtain ⟨a, ns, x, r, rfl, ha, j, k⟩ := h
    refine ⟨_, (pss_cons (ps_if (PW.pt (pw_or (pt_not (qv (pe_callB call_isi (by rfl) T.n_isinstance (by decide +kernel) (pa_cons (mv 1) (pa_cons (pe_bltn (v := .ty "tuple") (u := .type "tuple") (by rfl) T.n_tuple (by decide +kernel) rfl) pa_nil))))) (pw_or1 (qt m_ne (pe_callB call_len (by rfl) T.n_len (by decide +kernel) (pa_cons (mv 1) pa_nil)) pe_int (nomark _))))) (pss_one (ps_ret pe_bl)) pss_nil)
    (pss_one (ps_ret (pe_and (pe_c c_is_server hr (by decide) rfl (pa_cons (mv 0) (pa_cons (pe_ix m_ix (mv 1) pe_int (fun _ _ => rfl)) pa_nil))) (pe_and (pe_c c_is_integer hr (by decide) rfl (pa_cons (pe_ix m_ix (mv 1) pe_int (fun _ _ => rfl)) pa_nil)) (pe_one (pe_cmpR m_ge (pe_ix m_ix (mv 1) pe_int (fun _ _ => rfl)) pe_int (nomark _)))))))), ?_⟩
    have two : ∀ {p : Addr} {x y : V}, H p = some (.tup [x, y]) → ∀ {b : Bool}, SrvJ K H ns x b → (b = true → ∃ c, IntJ K H y c ∧ (c = true → ∃ i, y = .int i ∧ Q (.bl (decide (0 ≤ i))) H) ∧ (c = false → Q (.bl false) H)) → (b = false → Q (.bl false) H) →
        tIfS (tOr (tNot (mT (tCB (rIsi K) (tCons (mV 1) (tCons (tC (.ty "tuple")) tNil))))) (mT (tOp (mEqG fun b => !b) (tCB (fun xs H Q => ∃ x n, xs = [x] ∧ LenV K x H n ∧ Q (.int n) H) (tCons (mV 1) tNil)) (tC (.int 2)))))
          (tRet (tC (.bl false))) tNext { nx := fun _ H' => tRet (tAndV (tCall (spServer K) [] C8.E0 (tCons (mV 0) (tCons (tOp (mIx K) (mV 1) (tC (.int 0))) tNil)))
            (tAndV (tCall (spInteger K) [] C8.E0 (tCons (tOp (mIx K) (mV 1) (tC (.int 1))) tNil)) (tOp (mI0 fun i j => .bl (decide (j ≤ i))) (tOp (mIx K) (mV 1) (tC (.int 1))) (tC (.int 0))))) { nx := fun _ H' => Q .non H', rt := Q } [some (.ref a), some (.ref p)] H', rt := Q } [some (.ref a), some (.ref p)] H := by
      intro p x y hp b js h1 h2
      refine ⟨_, _, _, _, _, rfl, .ty _, .base (.tup hp), kt_tup_tup, ifF (by rfl) ?_⟩
      refine ⟨_, _, rfl, .inr ⟨_, SqT.of hp, rfl⟩, ?_⟩
      dsimp only [tC, mEqG, kB]
      refine ifF (by rfl) ?_
      refine ⟨_, _, .inr (SqT.of hp), atI_nat (j := 0) rfl, a, ns, _, b, rfl, ha, js, _, rfl, ?_⟩
      cases b with
      | false => exact ifF rfl (h2 rfl)
      | true =>
        refine ifT rfl ?_
        obtain ⟨c, jc, h3, h4⟩ := h1 rfl
        refine ⟨_, _, .inr (SqT.of hp), atI_nat (j := 1) rfl, _, c, rfl, jc, _, rfl, ?_⟩
        cases c with
        | false => exact ifF rfl (h4 rfl)
        | true =>
          refine ifT rfl ?_
          obtain ⟨i, rfl, q⟩ := h3 rfl
          exact ⟨_, _, .inr (SqT.of hp), atI_nat (j := 1) rfl, q⟩
    cases j with
    | kind ty e => exact ⟨_, _, _, _, _, rfl, .ty _, ty, e, ifT (by rfl) (ifT (by rfl) k)⟩
    | @size p xs hp hl =>
      refine ⟨_, _, _, _, _, rfl, .ty _, .base (.tup hp), kt_tup_tup, ifF (by rfl) ?_⟩
      refine ⟨_, _, rfl, .inr ⟨_, SqT.of hp, rfl⟩, ?_⟩
      have e : ¬ ((xs.length : Int) = 2) := by omega
      show if (!decide ((xs.length : Int) = 2)) = true then _ else _
      rw [decide_eq_false e]
      exact ifT (by rfl) k
    | srv hp js => exact two hp js (fun z => nomatch z) fun _ => k
    | num hp js ji => exact two hp js (fun _ => ⟨false, ji, (fun z => nomatch z), fun _ => k⟩) fun z => nomatch z
    | @neg p x i hp js hi => exact two hp js (fun _ => ⟨true, .int i, fun _ => ⟨i, rfl, by rw [decide_eq_false (by omega)]; exact k⟩, fun z => nomatch z⟩) fun z => nomatch z
    | @ok p z i hp hz hi =>
      have js : SrvJ K H ns (.str z) true := by have := SrvJ.str (K := K) (H := H) (ns := ns) z; rw [decide_eq_true hz] at this; exact this
      exact two hp js (fun _ => ⟨true, .int i, fun _ => ⟨i, rfl, by rw [decide_eq_true hi]; exact k⟩, fun z => nomatch z⟩) fun z => nomatch z

theorem EntL.at {H : Hp} : ∀ {es : List (Str × Int)} {vs : List V} {i : Nat} {v : V}, EntL H es vs → vs[i]? = some v → ∃ e, es[i]? = some e ∧ EntAt H e v
  | _, _, i, v, .nil, h => by simp at h
  | _, _, 0, v, .cons (a := e) r q, h => by simp at h; subst h; exact ⟨e, rfl, r⟩
  | _, _, i + 1, v, .cons r q, h => by
    obtain ⟨e, h1, h2⟩ := EntL.at q (i := i) (v := v) (by simpa using h)
    exact ⟨e, by simpa using h1, h2⟩
theorem EntL.len {H : Hp} {es : List (Str × Int)} {vs : List V} (h : EntL H es vs) : es.length = vs.length := Paired.length h

theorem ok_are_entries (T : Tx K mg cL cX) (D : Dx K mg "are_entries" s_are_entries ["servers", "thing"]) (c_is_entry : Cal P w K mg base 2 "is_entry" (spEntry K) []) : Cal P w K mg base 3 "are_entries" spEntries [] := by
  refine cal_of D sc_are_entries (fun vs H Q E h => ?_) (fun f cdv A o s H vs Q E hr h => ?_)
  · obtain ⟨a, ns, l, es, xs, rfl, _⟩ := h; rfl
  · obtain ⟨a, ns, l, es, xs, rfl, ha, hl, el, ok, k⟩ := h
    have hx : xs.length ≤ 200 := by rw [← el.len]; exact ok.few
    have e1 : ¬ (200 : Int) < (xs.length : Int) := by omega
    refine ⟨_, (pss_cons (ps_if (PW.pt (pw_or (pt_not (qv (pe_callB call_isi (by rfl) T.n_isinstance (by decide +kernel) (pa_cons (mv 1) (pa_cons (pe_bltn (v := .ty "list") (u := .type "list") (by rfl) T.n_list (by decide +kernel) rfl) pa_nil))))) (pw_or1 (qt m_gt (pe_callB call_len (by rfl) T.n_len (by decide +kernel) (pa_cons (mv 1) pa_nil)) (pe_gc rfl T.g_MOST_ENTRIES) (nomark _))))) (pss_one (ps_ret pe_bl)) pss_nil)
    (pss_one (ps_ret (pe_callB (cr_all rfl) (by rfl) T.n_all (by decide +kernel) (pa_cons (pe_lc (own := [("entry", 2)]) (g := gName 2) (tt := tYes) rfl sc_are_entries.nd (pi_list (mv 1)) (blkOk_by (own := [("entry", 2)]) (N := ["servers", "thing", "entry"]) (sc := fnScope s_are_entries) (by decide +kernel)) (fun _ _ _ _ _ => (pg_name (i := 2) sc_are_entries.nd rfl (Or.inl rfl))) (fun _ _ _ _ _ => pts_nil) (fun _ _ _ _ _ => (pe_c c_is_entry hr (by decide) rfl (pa_cons (mv 0) (pa_cons (mv 2) pa_nil))))) pa_nil))))), ?_⟩
    refine ⟨_, _, _, _, _, rfl, .ty _, .base (.lst hl), kt_list_list, ifF (by rfl) ?_⟩
    refine ⟨_, _, rfl, .inl ⟨_, SqL.of hl, rfl⟩, ?_⟩
    refine (show if decide ((200 : Int) < (xs.length : Int)) = true then _ else _ from ?_)
    rw [decide_eq_false e1]
    refine ifF rfl ?_
    refine ⟨_, rfl, ⟨_, SqL.of hl⟩, fun d hd => lc_list (K := K) (a := l) (xs := xs) (Trues H d) (Trues.zero hd) (fun i H1 _ t => SqL.of (t.1 _ _ hl)) ?_ ?_⟩
    · intro i y H1 hy t
      have hi : i < xs.length := (List.getElem?_eq_some_iff.mp hy).1
      obtain ⟨e, he, p, rfl, hp⟩ := el.at hy
      obtain ⟨m1, m2⟩ := ok.ok e (List.mem_of_getElem? he)
      refine ⟨rfl, goY (ifT (by rfl) ?_)⟩
      refine ⟨a, ns, _, _, rfl, t.1 _ _ ha, .ok (t.1 _ _ hp) m1 m2, _, t.2, ?_, ?_⟩
      · rw [List.length_map, List.length_replicate]
        exact Nat.lt_of_lt_of_le hi (Nat.le_trans hx (by decide))
      · exact t.next hd
    · intro H1 t
      refine ⟨_, _, rfl, SqL.of t.2, ?_⟩
      rw [all_true]
      exact k H1 t.1

/-- the class's facts for the class at C -/
theorem ok_init {kd : Str} (T : Tx K mg cL cX) {C : Addr} (L : LogC K C kd) {f : Addr} {fd : FuncData} (D : Mx K "__init__" "Log.__init__" s_Log___init__ ["self", "size", "servers", "entries"] f fd)
    (c_is_size : Cal P w K mg base 2 "is_size" spSizeB []) (c_are_servers : Cal P w K mg base 2 "are_servers" spCrew []) (c_are_entries : Cal P w K mg base 3 "are_entries" spEntries []) :
    FnOk P w K mg base C8.CX0 4 f fd ["self", "size", "servers", "entries"] (spInit C) := by
  refine fn_of' D sc_Log___init__ (fun vs H Q E h => ?_) (fun cdv A o s H vs Q E hr h => ?_)
  · obtain ⟨p, dx, sz, a, ns, l, es, xs, rfl, _⟩ := h; rfl
  · obtain ⟨p, dx, sz, a, ns, l, es, xs, rfl, hp, hdx, hsz, ha, cr, hl, el, ok, k⟩ := h
    refine ⟨_, (pss_cons (ps_if (pt_not (qv (pe_c c_is_size hr (by decide) rfl (pa_cons (mv 1) pa_nil)))) (pss_one ps_never) pss_nil)
    (pss_cons (ps_if (pt_not (qv (pe_c c_are_servers hr (by decide) rfl (pa_cons (mv 2) pa_nil)))) (pss_one ps_never) pss_nil)
    (pss_cons (ps_if (pt_not (qv (pe_c c_are_entries hr (by decide) rfl (pa_cons (mv 2) (pa_cons (mv 3) pa_nil))))) (pss_one ps_never) pss_nil)
    (pss_cons (ps_fld (mv 0) (mv 1) rfl)
    (pss_cons (ps_fld (mv 0) (pe_callTy call_list_of (by rfl) T.n_list (by decide +kernel) (pa_cons (mv 2) pa_nil)) rfl)
    (pss_one (ps_fld (mv 0) (pe_callTy call_list_of (by rfl) T.n_list (by decide +kernel) (pa_cons (mv 3) pa_nil)) rfl))))))), ?_⟩
    refine ⟨_, rfl, ?_⟩
    rw [decide_eq_true hsz.1, decide_eq_true hsz.2]
    refine ifF (by rfl) ?_
    refine ⟨a, ns, rfl, ha, cr, fun H1 x1 => ifF (by rfl) ?_⟩
    refine ⟨a, ns, l, es, xs, rfl, x1 _ _ ha, x1 _ _ hl, el.mono x1, ok, fun H2 x2 => ifF (by rfl) ?_⟩
    have x : Ext H H2 := x1.trans x2
    have apL : ∀ {b : Addr} {ys : List V}, H2 b = some (.lst ys) → b ≠ p := fun hb => ne_of hb (x _ _ hp) (by intro z; cases z)
    refine ⟨p, C, dx, _, rfl, x _ _ hp, L.cl, L.nS, (by show 0 < 1000; decide), ?_⟩
    refine ⟨a, _, rfl, .inl (SqL.of (by rw [upd_ne (apL (x _ _ ha))]; exact x _ _ ha)), fun ls nls => ?_⟩
    have p1 : p ≠ ls := ne_of_none upd_same nls
    refine ⟨p, C, dx, _, rfl, by rw [upd_ne p1]; exact upd_same, L.cl, L.nV, (by show 1 < 1000; decide), ?_⟩
    have nl1 : l ≠ ls := ne_of_none (by rw [upd_ne (apL (x _ _ hl))]; exact x _ _ hl) nls
    refine ⟨l, _, rfl, .inl (SqL.of (by rw [upd_ne (apL (x _ _ hl)), upd_ne nl1, upd_ne (apL (x _ _ hl))]; exact x _ _ hl)), fun le nle => ?_⟩
    have p2 : p ≠ le := ne_of_none upd_same nle
    refine ⟨p, C, dx, _, rfl, by rw [upd_ne p2]; exact upd_same, L.cl, L.nE, (by show 2 < 1000; decide), ?_⟩
    have nle1 : ls ≠ le := ne_of_none (o := .lst (ns.map V.str)) (by rw [upd_ne p1.symm]; exact upd_same) nle
    refine k _ ls le (Ext.free x (upd_none nls).2) (Ext.free x (upd_none (upd_none (upd_none nle).2).2).2) upd_same ?_ ?_ ?_
    · rw [upd_ne p1.symm, upd_ne nle1, upd_ne p1.symm]; exact upd_same
    · rw [upd_ne p2.symm]; exact upd_same
    · exact (((((Frm.ext x).upd mem1).new nls).upd mem1).new nle).upd mem1
end
end NB

set_option Elab.async false
set_option linter.all false
set_option maxRecDepth 100000
set_option maxHeartbeats 4000000
/-! K2: the methods of logs -/
namespace NB
open PySem PySem.Spec L2
open PyProof.Rows (envOfC)
open C8 (pe_c pe_mk pe_mt pe_mt0 pe_gc fnScope fnBody fnArgs fnScope_by Cal Met Mak)

def spSize (C : Addr) : Sp := fun vs H Q _ => ∃ p sz ns es, vs = [.ref p] ∧ LogAt C H p sz ns es ∧ Q (.int sz) H
def spServers (C : Addr) : Sp := fun vs H Q _ => ∃ p sz ns es, vs = [.ref p] ∧ LogAt C H p sz ns es ∧ ∀ l, H l = none → Q (.ref l) (upd H l (.lst (ns.map V.str)))
def spEntr (C : Addr) : Sp := fun vs H Q _ => ∃ p sz ns es, vs = [.ref p] ∧ LogAt C H p sz ns es ∧ ∀ l xs, H l = none → EntL H es xs → Q (.ref l) (upd H l (.lst xs))
def spLen (C : Addr) : Sp := fun vs H Q _ => ∃ p sz ns es, vs = [.ref p] ∧ LogAt C H p sz ns es ∧ Q (.int (es.length : Nat)) H
def spIn (K : PySem.W.Frag) (C : Addr) : Sp := fun vs H Q _ => ∃ p sz ns es x r, vs = [.ref p, x] ∧ LogAt C H p sz ns es ∧ EntsOk ns es ∧ (∀ z ∈ ns, nameB z = true) ∧ Jd K H ns x r ∧ Q (.bl (match r with | some e => decide (e ∈ es) | none => false)) H
/-- == of two logs -/
def spEqL (C C2 : Addr) (kd kd2 : Str) : Sp := fun vs H Q _ => ∃ p q sz ns es sz2 ns2 es2, vs = [.ref p, .ref q] ∧ LogAt C H p sz ns es ∧ LogAt C2 H q sz2 ns2 es2 ∧ EntsOk ns es ∧ (∀ z ∈ ns, nameB z = true) ∧ EntsOk ns2 es2 ∧ (∀ z ∈ ns2, nameB z = true) ∧
  Q (.bl (decide (kd2 = kd) && decide (sz2 = sz) && decide (ns2 = ns) && decide (es2 = es))) H
def lastB (sz : Int) : List (Str × Int) → Int
  | [] => -1
  | e :: es => (es.foldl (fun m x => max m x.2) e.2) / sz
def spLast (C : Addr) : Sp := fun vs H Q _ => ∃ p sz ns es, vs = [.ref p] ∧ LogAt C H p sz ns es ∧ SizeOk sz ∧ EntsOk ns es ∧ (∀ z ∈ ns, nameB z = true) ∧ ∀ H', Ext H H' → Q (.int (lastB sz es)) H'

/-! ### data of logs as PyData -/
def encE (e : Str × Int) : PyData := .tuple [.str e.1, .int e.2]
def encS (ns : List Str) : PyData := .list (ns.map .str)
def encL (es : List (Str × Int)) : PyData := .list (es.map encE)
theorem dp_strs {K : PySem.W.Frag} {H : Hp} : ∀ ns : List Str, DpAll K H (ns.map V.str) (ns.map .str)
  | [] => .nil
  | z :: ns => .cons (.str z) (dp_strs ns)
theorem dp_S {K : PySem.W.Frag} {H : Hp} {a : Addr} {ns : List Str} (h : SqL K H a (ns.map V.str)) : Dp K H (.ref a) (encS ns) := .lst h (dp_strs ns)
theorem dp_E {K : PySem.W.Frag} {H : Hp} {e : Str × Int} {v : V} (h : EntAt H e v) : Dp K H v (encE e) := by
  obtain ⟨p, rfl, hp⟩ := h
  exact .tup (SqT.of hp) (.cons (.str _) (.cons (.int _) .nil))
theorem dp_ents {K : PySem.W.Frag} {H : Hp} : ∀ {es : List (Str × Int)} {vs : List V}, EntL H es vs → DpAll K H vs (es.map encE)
  | _, _, .nil => .nil
  | _, _, .cons r q => .cons (dp_E r) (dp_ents q)
theorem dp_L {K : PySem.W.Frag} {H : Hp} {a : Addr} {es : List (Str × Int)} {vs : List V} (h : SqL K H a vs) (el : EntL H es vs) : Dp K H (.ref a) (encL es) := .lst h (dp_ents el)

theorem all_canLay : ∀ {ds : List PyData}, (∀ d ∈ ds, d.canLay0 = true) → PyData.canLayAll0 ds = true
  | [], _ => by simp [PyData.canLayAll0]
  | d :: ds, h => by
    simp only [PyData.canLayAll0, Bool.and_eq_true]
    exact ⟨h d List.mem_cons_self, all_canLay fun x hx => h x (List.mem_cons_of_mem _ hx)⟩
theorem all_depth {n : Nat} : ∀ {ds : List PyData}, (∀ d ∈ ds, d.depth ≤ n) → PyData.depthAll ds ≤ n
  | [], _ => by simp [PyData.depthAll]
  | d :: ds, h => by
    simp only [PyData.depthAll]
    exact Nat.max_le.mpr ⟨h d List.mem_cons_self, all_depth fun x hx => h x (List.mem_cons_of_mem _ hx)⟩
theorem shaped_list {ds : List PyData} {n : Nat} (h : ∀ d ∈ ds, d.canLay0 = true ∧ d.depth ≤ n) (hn : n < 60) : SeqAt.shaped (.list ds) = true := by
  unfold SeqAt.shaped
  have z := all_depth fun d hd => (h d hd).2
  refine Bool.and_eq_true_iff.mpr ⟨?_, decide_eq_true ?_⟩
  · show PyData.canLayAll0 ds = true
    exact all_canLay fun d hd => (h d hd).1
  · show PyData.depthAll ds + 1 ≤ 64
    omega
theorem strOk_name {z : Str} (h : nameB z = true) : PyData.canLay0 (.str z) = true := by
  unfold nameB at h
  simp only [Bool.and_eq_true, decide_eq_true_eq, List.all_eq_true] at h
  show z.cps.all (· < 0x110000) = true
  rw [← Array.all_toList, List.all_eq_true]
  intro c hc
  have := (h.2 c hc).2
  exact decide_eq_true (by omega)
theorem shaped_S {ns : List Str} (h : ∀ z ∈ ns, nameB z = true) : SeqAt.shaped (encS ns) = true := by
  refine shaped_list (n := 0) (fun d hd => ?_) (by decide)
  obtain ⟨z, hz, rfl⟩ := List.mem_map.mp hd
  exact ⟨strOk_name (h z hz), Nat.le_refl _⟩
theorem shaped_E {e : Str × Int} (h : nameB e.1 = true) : SeqAt.shaped (encE e) = true ∧ (encE e).canLay0 = true ∧ (encE e).depth ≤ 1 := by
  have c : (encE e).canLay0 = true := by
    show PyData.canLayAll0 [.str e.1, .int e.2] = true
    refine all_canLay fun d hd => ?_
    rcases List.mem_cons.mp hd with rfl | hd
    · exact strOk_name h
    · rw [List.mem_singleton.mp hd]; rfl
  have d : (encE e).depth ≤ 1 := by
    show max 0 (max 0 0) + 1 ≤ 1
    decide
  exact ⟨Bool.and_eq_true_iff.mpr ⟨c, decide_eq_true (Nat.le_trans d (by decide))⟩, c, d⟩
theorem shaped_L {es : List (Str × Int)} (h : ∀ e ∈ es, nameB e.1 = true) : SeqAt.shaped (encL es) = true := by
  refine shaped_list (n := 1) (fun d hd => ?_) (by decide)
  obtain ⟨e, he, rfl⟩ := List.mem_map.mp hd
  exact (shaped_E (h e he)).2
theorem eqvAll_map {α : Type} [DecidableEq α] {f : α → PyData} (hf : ∀ x y, PyData.eqv (f x) (f y) = decide (x = y)) : ∀ xs ys : List α, PyData.eqvAll (xs.map f) (ys.map f) = decide (xs = ys)
  | [], [] => by simp [PyData.eqvAll]
  | [], y :: ys => by simp [PyData.eqvAll]
  | x :: xs, [] => by simp [PyData.eqvAll]
  | x :: xs, y :: ys => by
    simp only [List.map_cons, PyData.eqvAll, hf, eqvAll_map hf xs ys]
    rw [Bool.eq_iff_iff]
    simp
theorem eqv_str (x y : Str) : PyData.eqv (.str x) (.str y) = decide (x = y) := by
  simp only [PyData.eqv]
  by_cases h : x = y
  · subst h; simp
  · rw [decide_eq_false h]; simpa using h
theorem eqv_ent (e g : Str × Int) : PyData.eqv (encE e) (encE g) = decide (e = g) := by
  obtain ⟨a, i⟩ := e
  obtain ⟨b, j⟩ := g
  unfold encE
  simp only [PyData.eqv, PyData.eqvAll]
  rw [Bool.eq_iff_iff]
  simp
theorem eqv_S (ns ms : List Str) : PyData.eqv (encS ns) (encS ms) = decide (ns = ms) := by
  unfold encS
  simp only [PyData.eqv]
  exact eqvAll_map eqv_str ns ms
theorem eqv_L (es gs : List (Str × Int)) : PyData.eqv (encL es) (encL gs) = decide (es = gs) := by
  unfold encL
  simp only [PyData.eqv]
  exact eqvAll_map eqv_ent es gs
theorem any_L (e : Str × Int) (es : List (Str × Int)) : ((es.map encE).any fun z => PyData.eqv z (encE e)) = decide (e ∈ es) := by
  rw [List.any_map, Bool.eq_iff_iff]
  simp only [List.any_eq_true, Function.comp, eqv_ent, decide_eq_true_eq]
  exact ⟨fun ⟨x, h, q⟩ => q ▸ h, fun h => ⟨e, h, rfl⟩⟩

section
variable {P : Program} {w : World} {K : PySem.W.Frag} {mg : Str → Option Value} {base : Heap} {cL cX C : Addr} {kd : Str} {f : Addr} {fd : FuncData}
theorem ok_size (L : LogC K C kd) (D : Mx K "size" "Log.size" s_Log_size ["self"] f fd) : FnOk P w K mg base C8.CX0 1 f fd ["self"] (spSize C) := by
  refine fn_of' D sc_Log_size (fun vs H Q E h => ?_) (fun cdv A o s H vs Q E hr h => ?_)
  · obtain ⟨p, sz, ns, es, rfl, _⟩ := h; rfl
  · obtain ⟨p, sz, ns, es, rfl, ⟨dx, ls, le, xs, hp, h1, h2, el⟩, k⟩ := h
    exact ⟨_, (pss_one (ps_ret (pe_fld (mv 0) rfl))), p, C, dx, _, _, rfl, hp, L.cl, L.nS, lf_size _ _ _, k⟩
theorem ok_servers (T : Tx K mg cL cX) (L : LogC K C kd) (D : Mx K "servers" "Log.servers" s_Log_servers ["self"] f fd) : FnOk P w K mg base C8.CX0 1 f fd ["self"] (spServers C) := by
  refine fn_of' D sc_Log_servers (fun vs H Q E h => ?_) (fun cdv A o s H vs Q E hr h => ?_)
  · obtain ⟨p, sz, ns, es, rfl, _⟩ := h; rfl
  · obtain ⟨p, sz, ns, es, rfl, ⟨dx, ls, le, xs, hp, h1, h2, el⟩, k⟩ := h
    exact ⟨_, (pss_one (ps_ret (pe_callTy call_list_of (by rfl) T.n_list (by decide +kernel) (pa_cons (pe_fld (mv 0) rfl) pa_nil)))), p, C, dx, _, _, rfl, hp, L.cl, L.nV, lf_servers _ _ _, ls, _, rfl, .inl (SqL.of h1), k⟩
theorem ok_entries (T : Tx K mg cL cX) (L : LogC K C kd) (D : Mx K "entries" "Log.entries" s_Log_entries ["self"] f fd) : FnOk P w K mg base C8.CX0 1 f fd ["self"] (spEntr C) := by
  refine fn_of' D sc_Log_entries (fun vs H Q E h => ?_) (fun cdv A o s H vs Q E hr h => ?_)
  · obtain ⟨p, sz, ns, es, rfl, _⟩ := h; rfl
  · obtain ⟨p, sz, ns, es, rfl, ⟨dx, ls, le, xs, hp, h1, h2, el⟩, k⟩ := h
    exact ⟨_, (pss_one (ps_ret (pe_callTy call_list_of (by rfl) T.n_list (by decide +kernel) (pa_cons (pe_fld (mv 0) rfl) pa_nil)))), p, C, dx, _, _, rfl, hp, L.cl, L.nE, lf_entries _ _ _, le, _, rfl, .inl (SqL.of h2), fun l hl => k l xs hl el⟩
theorem kd_no (sz : Int) (ls le : Addr) : (lf sz ls le).lookup ("KIND" : Str) = none := lf_no sz ls le (by decide +kernel) (by decide +kernel) (by decide +kernel)
theorem nat_bits {i : Int} {n : Nat} (h0 : 0 ≤ i) (h : i < 2 ^ n) (hn : 0 < n) : i.natAbs.log2 < n := by
  refine PySem.Flt.log2_lt_of hn ?_
  have : ((i.natAbs : Nat) : Int) < ((2 ^ n : Nat) : Int) := by
    rw [Int.natCast_pow]
    have e : (i.natAbs : Int) = i := by omega
    rw [e]; exact h
  exact_mod_cast this
theorem cdv_size {sz : Int} (i : Int) (h : SizeOk sz) : CDv i sz := by
  refine ⟨by have := h.1; omega, Nat.lt_trans (nat_bits (n := 100) (by have := h.1; omega) ?_ (by decide)) (by decide)⟩
  have h2 := h.2
  have : (10 : Int) ^ 30 < 2 ^ 100 := by decide
  omega
/-- the numbers of the first i entries -/
def numsV (es : List (Str × Int)) : List V := (es.map (·.2)).map V.int
def Nums (H0 : Hp) (es : List (Str × Int)) (D : Addr) (i : Nat) (H : Hp) : Prop := Ext H0 H ∧ H D = some (.lst (numsV (es.take i)))
theorem foldl_max : ∀ (es : List (Str × Int)) (m : Int), (m = es.foldl (fun m x => max m x.2) m ∨ ∃ e ∈ es, e.2 = es.foldl (fun m x => max m x.2) m) ∧ m ≤ es.foldl (fun m x => max m x.2) m ∧ ∀ e ∈ es, e.2 ≤ es.foldl (fun m x => max m x.2) m
  | [], m => ⟨.inl rfl, Int.le_refl _, fun _ h => nomatch h⟩
  | e :: es, m => by
    obtain ⟨h1, h2, h3⟩ := foldl_max es (max m e.2)
    simp only [List.foldl_cons]
    refine ⟨?_, by omega, fun x hx => ?_⟩
    · rcases h1 with h1 | ⟨x, hx, q⟩
      · rcases Int.le_total m e.2 with z | z
        · refine .inr ⟨e, List.mem_cons_self, ?_⟩
          have : max m e.2 = e.2 := by omega
          omega
        · left
          have : max m e.2 = m := by omega
          omega
      · exact .inr ⟨x, List.mem_cons_of_mem _ hx, q⟩
    · rcases List.mem_cons.mp hx with rfl | hx
      · omega
      · exact h3 x hx
theorem max_is {es : List (Str × Int)} {e0 : Str × Int} {m : Int} (h1 : m ∈ (e0 :: es).map (·.2)) (h2 : ∀ y, y ∈ (e0 :: es).map (·.2) → y ≤ m) : m = es.foldl (fun m x => max m x.2) e0.2 := by
  obtain ⟨g1, g2, g3⟩ := foldl_max es e0.2
  refine Int.le_antisymm ?_ (h2 _ ?_)
  · obtain ⟨x, hx, rfl⟩ := List.mem_map.mp h1
    rcases List.mem_cons.mp hx with rfl | hx
    · exact g2
    · exact g3 x hx
  · rcases g1 with g1 | ⟨x, hx, q⟩
    · rw [← g1]; simp
    · rw [← q]; exact List.mem_map_of_mem (List.mem_cons_of_mem _ hx)
theorem ok_len (T : Tx K mg cL cX) (L : LogC K C kd) (D : Mx K "__len__" "Log.__len__" s_Log___len__ ["self"] f fd) : FnOk P w K mg base C8.CX0 1 f fd ["self"] (spLen C) := by
  refine fn_of' D sc_Log___len__ (fun vs H Q E h => ?_) (fun cdv A o s H vs Q E hr h => ?_)
  · obtain ⟨p, sz, ns, es, rfl, _⟩ := h; rfl
  · obtain ⟨p, sz, ns, es, rfl, ⟨dx, ls, le, xs, hp, h1, h2, el⟩, k⟩ := h
    refine ⟨_, (pss_one (ps_ret (pe_callB call_len (by rfl) T.n_len (by decide +kernel) (pa_cons (pe_fld (mv 0) rfl) pa_nil)))), p, C, dx, _, _, rfl, hp, L.cl, L.nE, lf_entries _ _ _, _, _, rfl, .inl ⟨_, SqL.of h2, rfl⟩, ?_⟩
    rw [← el.len]
    exact k
theorem ok_eq {C2 : Addr} {kd2 : Str} (T : Tx K mg cL cX) (L : LogC K C kd) (L2 : LogC K C2 kd2) (hk : PySem.W.kitOne K (.ref C2) (.ref cL) = some true) (D : Mx K "__eq__" "Log.__eq__" s_Log___eq__ ["self", "other"] f fd) :
    FnOk P w K mg base C8.CX0 1 f fd ["self", "other"] (spEqL C C2 kd kd2) := by
  refine fn_of' D sc_Log___eq__ (fun vs H Q E h => ?_) (fun cdv A o s H vs Q E hr h => ?_)
  · obtain ⟨p, q, sz, ns, es, sz2, ns2, es2, rfl, _⟩ := h; rfl
  · obtain ⟨p, q, sz, ns, es, sz2, ns2, es2, rfl, ⟨dx, ls, le, xs, hp, h1, h2, el⟩, ⟨dx2, ls2, le2, xs2, hp2, g1, g2, el2⟩, ok, nm, ok2, nm2, k⟩ := h
    obtain ⟨u, con⟩ := L.kd
    obtain ⟨u2, con2⟩ := L2.kd
    refine ⟨_, (pss_cons (ps_if (PW.pt (pw_or (pt_not (qv (pe_callB call_isi (by rfl) T.n_isinstance (by decide +kernel) (pa_cons (mv 1) (pa_cons (pe_gc rfl T.g_Log) pa_nil))))) (pw_or (qt m_ne (pe_con (mv 1) rfl) (pe_con (mv 0) rfl) (nomark _)) (pw_or1 (qt m_ne (pe_fld (mv 1) rfl) (pe_fld (mv 0) rfl) (nomark _)))))) (pss_one (ps_ret pe_bl)) pss_nil)
    (pss_one (ps_ret (pe_and (pe_cmpR (op_eqD hr.units) (pe_fld (mv 1) rfl) (pe_fld (mv 0) rfl) (nomark _)) (pe_one (pe_cmpR (op_eqD hr.units) (pe_fld (mv 1) rfl) (pe_fld (mv 0) rfl) (nomark _))))))), ?_⟩
    refine ⟨_, _, _, _, _, rfl, .own _, L2.ty _ _ _ _ hp2, hk, ifF (by rfl) ?_⟩
    refine ⟨q, C2, dx2, _, _, _, rfl, hp2, L2.cl, con2, kd_no _ _ _, p, C, dx, _, _, _, rfl, hp, L.cl, con, kd_no _ _ _, ?_⟩
    dsimp only [mEqG, kB]
    by_cases e1 : kd2 = kd
    · rw [decide_eq_true e1] at k ⊢
      refine ifF (by rfl) ?_
      refine ⟨q, C2, dx2, _, _, rfl, hp2, L2.cl, L2.nS, lf_size _ _ _, p, C, dx, _, _, rfl, hp, L.cl, L.nS, lf_size _ _ _, ?_⟩
      dsimp only [mEqG, kB]
      by_cases e2 : sz2 = sz
      · rw [decide_eq_true e2] at k ⊢
        refine ifF (by rfl) ?_
        refine ⟨q, C2, dx2, _, _, rfl, hp2, L2.cl, L2.nV, lf_servers _ _ _, p, C, dx, _, _, rfl, hp, L.cl, L.nV, lf_servers _ _ _, ?_⟩
        refine ⟨_, _, dp_S (SqL.of g1), dp_S (SqL.of h1), shaped_S nm2, shaped_S nm, _, rfl, ?_⟩
        rw [eqv_S]
        by_cases e3 : ns2 = ns
        · rw [decide_eq_true e3] at k ⊢
          refine ifT (by rfl) ?_
          refine ⟨q, C2, dx2, _, _, rfl, hp2, L2.cl, L2.nE, lf_entries _ _ _, p, C, dx, _, _, rfl, hp, L.cl, L.nE, lf_entries _ _ _, ?_⟩
          refine ⟨_, _, dp_L (SqL.of g2) el2, dp_L (SqL.of h2) el, shaped_L (fun e he => nm2 _ (ok2.ok e he).1), shaped_L (fun e he => nm _ (ok.ok e he).1), ?_⟩
          rw [eqv_L]
          exact k
        · rw [decide_eq_false e3] at k ⊢
          exact ifF (by rfl) k
      · rw [decide_eq_false e2] at k ⊢
        exact ifT (by rfl) k
    · rw [decide_eq_false e1] at k ⊢
      exact ifT (by rfl) k

end
end NB

set_option Elab.async false
set_option linter.all false
set_option maxRecDepth 100000
set_option maxHeartbeats 2000000
/-! K3t (k81): texts of logs in plain Lean -/
namespace NB
open PySem PySem.Spec L2
abbrev tl : Str → List Nat := TL.tl
/-- the text of a number -/
def numT (i : Int) : Str := Str.ofString (toString i)
theorem tl_numT {i : Int} (h : 0 ≤ i) : tl (numT i) = TL.numL i.toNat := by
  have e : i = ((i.toNat : Nat) : Int) := by omega
  unfold numT
  rw [e]
  exact TL.tl_num _
theorem len_tl' (z : Str) : z.length = (tl z).length := TL.len_tl z
theorem numT_len {i : Int} {k : Nat} (hk : 0 < k) (h0 : 0 ≤ i) (h : i < 10 ^ k) : (numT i).length ≤ k := by
  rw [len_tl', tl_numT h0]
  refine TL.numL_len hk ?_
  have : ((i.toNat : Nat) : Int) < ((10 ^ k : Nat) : Int) := by
    rw [Int.natCast_pow]
    have e : ((i.toNat : Nat) : Int) = i := by omega
    rw [e]; exact h
  exact_mod_cast this
theorem numT_pos {i : Int} (h0 : 0 ≤ i) : 1 ≤ (numT i).length := by
  rw [len_tl', tl_numT h0]
  have := TL.numL_ne i.toNat
  cases q : TL.numL i.toNat with
  | nil => exact absurd q this
  | cons a r => simp
theorem numT_dig {i : Int} (h0 : 0 ≤ i) : ∀ c ∈ tl (numT i), 48 ≤ c ∧ c ≤ 57 := by
  rw [tl_numT h0]
  exact TL.numL_digits _
/-- no leading zero -/
theorem numL_head : ∀ n : Nat, 0 < n → (TL.numL n).head? ≠ some 48 := by
  intro n
  induction n using Nat.strongRecOn with
  | _ n ih =>
    intro hn
    by_cases h : n < 10
    · rw [TL.numL_lt h]
      intro e
      have : 48 + n = 48 := Option.some.inj e
      omega
    · rw [TL.numL_step (by omega)]
      have q := ih (n / 10) (by omega) (by omega)
      have ne := TL.numL_ne (n / 10)
      cases e : TL.numL (n / 10) with
      | nil => exact absurd e ne
      | cons a r => rw [e] at q; exact q
theorem int_numT {i : Int} (h0 : 0 ≤ i) (h : i < 10 ^ 60) : PySem.intText? (numT i) = some i := by
  have l := numT_len (k := 60) (by decide) h0 h
  have e : i = ((i.toNat : Nat) : Int) := by omega
  rw [len_tl', tl_numT h0] at l
  have q := TL.int_num (n := i.toNat) (by omega)
  unfold numT
  rw [← e] at q
  exact q
theorem tl_inj {a b : Str} (h : tl a = tl b) : a = b := TL.ext_tl h
theorem tl_app (a b : Str) : tl (a ++ b) = tl a ++ tl b := TL.tl_append a b
theorem tl_join' (y : Str) (ps : List Str) : tl (Txt.join y ps) = TL.joinL (tl y) (ps.map tl) := by
  rw [TL.join_eq]; exact TL.tl_join y ps
/-- the text of an entry -/
def entT (e : Str × Int) : Str := e.1 ++ (":" : Str) ++ numT e.2
theorem tl_name {z : Str} (h : nameB z = true) : ∀ c ∈ tl z, 97 ≤ c ∧ c ≤ 122 := by
  unfold nameB at h
  simp only [Bool.and_eq_true, decide_eq_true_eq, List.all_eq_true] at h
  exact fun c hc => h.2 c hc
theorem name_len {z : Str} (h : nameB z = true) : 1 ≤ z.length ∧ z.length ≤ 8 := by
  unfold nameB at h
  simp only [Bool.and_eq_true, decide_eq_true_eq] at h
  exact h.1
theorem tl_colon : tl (":" : Str) = [58] := by decide +kernel
theorem tl_comma : tl ("," : Str) = [44] := by decide +kernel
theorem tl_blank : tl (" " : Str) = [32] := by decide +kernel
theorem tl_empty : tl Str.empty = [] := rfl
theorem tl_entT (e : Str × Int) : tl (entT e) = tl e.1 ++ (58 :: tl (numT e.2)) := by
  unfold entT
  rw [tl_app, tl_app, tl_colon, List.append_assoc]; rfl
def kdB (b : Bool) : Str := if b = true then "losing" else "steady"
def headT (b : Bool) (sz : Int) (ns : List Str) : List Str := [kdB b, numT sz, Txt.join "," ns]
/-- the text of a log -/
def logT (b : Bool) (sz : Int) (ns : List Str) (es : List (Str × Int)) : Str := Txt.join " " (headT b sz ns ++ es.map entT)
theorem mem_joinL {s c : Nat} : ∀ {ps : List (List Nat)}, c ∈ TL.joinL [s] ps → c = s ∨ ∃ p ∈ ps, c ∈ p
  | [], h => nomatch h
  | [p], h => .inr ⟨p, List.mem_cons_self, h⟩
  | p :: q :: r, h => by
    have h2 : c ∈ p ++ ([s] ++ TL.joinL [s] (q :: r)) := h
    rcases List.mem_append.mp h2 with h2 | h2
    · exact .inr ⟨p, List.mem_cons_self, h2⟩
    · rcases List.mem_append.mp h2 with h2 | h2
      · exact .inl (List.mem_singleton.mp h2)
      · rcases mem_joinL h2 with h2 | ⟨x, hx, h3⟩
        · exact .inl h2
        · exact .inr ⟨x, List.mem_cons_of_mem _ hx, h3⟩
theorem len_joinL {s m : Nat} : ∀ {ps : List (List Nat)}, (∀ p ∈ ps, p.length ≤ m) → (TL.joinL [s] ps).length ≤ ps.length * (m + 1)
  | [], _ => Nat.zero_le _
  | [p], h => by
    have := h p List.mem_cons_self
    show p.length ≤ 1 * (m + 1)
    omega
  | p :: q :: r, h => by
    have h1 := h p List.mem_cons_self
    have h2 := len_joinL (s := s) (m := m) (ps := q :: r) fun x hx => h x (List.mem_cons_of_mem _ hx)
    show (p ++ ([s] ++ TL.joinL [s] (q :: r))).length ≤ _
    rw [List.length_append, List.length_append, List.length_cons (a := p), Nat.succ_mul]
    show p.length + (1 + (TL.joinL [s] (q :: r)).length) ≤ _
    omega
structure TxtOk (sz : Int) (ns : List Str) (es : List (Str × Int)) : Prop where
  so : SizeOk sz
  cr : CrewOk ns
  ok : EntsOk ns es
  big : ∀ e ∈ es, e.2 < 10 ^ 60
section
variable {b : Bool} {sz : Int} {ns : List Str} {es : List (Str × Int)}
theorem kdB_ch : ∀ b, ∀ c ∈ tl (kdB b), 97 ≤ c ∧ c ≤ 122 := by decide +kernel
theorem kdB_len (b : Bool) : (kdB b).length ≤ 8 := by cases b <;> decide +kernel
theorem ent_ch {e : Str × Int} (hn : nameB e.1 = true) (h0 : 0 ≤ e.2) : ∀ c ∈ tl (entT e), 48 ≤ c ∧ c ≤ 122 := fun c hc => by
  rw [tl_entT] at hc
  rcases List.mem_append.mp hc with hc | hc
  · have := tl_name hn c hc; omega
  · rcases List.mem_cons.mp hc with rfl | hc
    · omega
    · have := numT_dig h0 c hc; omega
theorem ent_len {e : Str × Int} (hn : nameB e.1 = true) (h0 : 0 ≤ e.2) (h1 : e.2 < 10 ^ 60) : (entT e).length ≤ 69 := by
  have h2 := name_len hn
  have h3 := numT_len (k := 60) (by decide) h0 h1
  rw [len_tl'] at h2 h3
  rw [len_tl', tl_entT, List.length_append, List.length_cons]
  omega
theorem crew_ch (cr : CrewOk ns) : ∀ c ∈ tl (Txt.join "," ns), c = 44 ∨ (97 ≤ c ∧ c ≤ 122) := fun c hc => by
  rw [tl_join', tl_comma] at hc
  rcases mem_joinL hc with h | ⟨p, hp, h⟩
  · exact .inl h
  · obtain ⟨z, hz, rfl⟩ := List.mem_map.mp hp
    exact .inr (tl_name (cr.nam z hz) c h)
theorem crew_len (cr : CrewOk ns) : (Txt.join "," ns).length ≤ 108 := by
  rw [len_tl', tl_join', tl_comma]
  have := len_joinL (s := 44) (m := 8) (ps := ns.map tl) fun p hp => by
    obtain ⟨z, hz, rfl⟩ := List.mem_map.mp hp
    rw [← len_tl']; exact (name_len (cr.nam z hz)).2
  rw [List.length_map] at this
  have := cr.few
  omega
theorem size_lt (so : SizeOk sz) : sz < 10 ^ 60 := Int.lt_of_le_of_lt so.2 (by decide)
theorem part_ch (h : TxtOk sz ns es) : ∀ p ∈ headT b sz ns ++ es.map entT, ∀ c ∈ tl p, 44 ≤ c ∧ c ≤ 122 := by
  intro p hp c hc
  rcases List.mem_append.mp hp with hp | hp
  · simp only [headT, List.mem_cons, List.not_mem_nil, or_false] at hp
    rcases hp with rfl | rfl | rfl
    · have := kdB_ch b c hc; omega
    · have := numT_dig (by have := h.so.1; omega) c hc; omega
    · rcases crew_ch h.cr c hc with rfl | q
      · omega
      · omega
  · obtain ⟨e, he, rfl⟩ := List.mem_map.mp hp
    have q := h.ok.ok e he
    have := ent_ch (h.cr.nam _ q.1) q.2 c hc
    omega
theorem part_len (h : TxtOk sz ns es) : ∀ p ∈ headT b sz ns ++ es.map entT, p.length ≤ 108 := by
  intro p hp
  rcases List.mem_append.mp hp with hp | hp
  · simp only [headT, List.mem_cons, List.not_mem_nil, or_false] at hp
    rcases hp with rfl | rfl | rfl
    · exact Nat.le_trans (kdB_len b) (by decide)
    · exact Nat.le_trans (numT_len (k := 60) (by decide) (by have := h.so.1; omega) (size_lt h.so)) (by decide)
    · exact crew_len h.cr
  · obtain ⟨e, he, rfl⟩ := List.mem_map.mp hp
    have q := h.ok.ok e he
    exact Nat.le_trans (ent_len (h.cr.nam _ q.1) q.2 (h.big e he)) (by decide)
theorem logT_split (h : TxtOk sz ns es) : Txt.split (logT b sz ns es) " " = headT b sz ns ++ es.map entT := by
  refine TL.split_join (s := 32) (S := []) tl_blank (by decide +kernel) (by simp [headT]) fun p hp hm => ?_
  have := part_ch h p hp 32 hm
  omega
theorem crew_split (cr : CrewOk ns) : Txt.split (Txt.join "," ns) "," = ns := by
  refine TL.split_join (s := 44) (S := []) tl_comma (by decide +kernel) (fun e => by have := cr.one; rw [e] at this; exact absurd this (by decide)) fun p hp hm => ?_
  have := tl_name (cr.nam p hp) 44 hm
  omega
theorem ent_split {e : Str × Int} (hn : nameB e.1 = true) (h0 : 0 ≤ e.2) : Txt.split (entT e) ":" = [e.1, numT e.2] := by
  have j : entT e = Txt.join ":" [e.1, numT e.2] := by
    refine tl_inj ?_
    rw [tl_entT, tl_join', tl_colon]; rfl
  rw [j]
  refine TL.split_join (s := 58) (S := []) tl_colon (by decide +kernel) (by simp) fun p hp hm => ?_
  simp only [List.mem_cons, List.not_mem_nil, or_false] at hp
  rcases hp with rfl | rfl
  · have := tl_name hn 58 hm; omega
  · have := numT_dig h0 58 hm; omega
theorem logT_len (h : TxtOk sz ns es) : (logT b sz ns es).length ≤ 30000 := by
  unfold logT
  rw [len_tl', tl_join', tl_blank]
  have q := len_joinL (s := 32) (m := 108) (ps := (headT b sz ns ++ es.map entT).map tl) fun p hp => by
    obtain ⟨z, hz, rfl⟩ := List.mem_map.mp hp
    rw [← len_tl']; exact part_len h z hz
  rw [List.length_map, List.length_append, List.length_map] at q
  have := h.ok.few
  have e3 : (headT b sz ns).length = 3 := rfl
  omega
theorem sum_le {m : Nat} : ∀ {ps : List Str}, (∀ p ∈ ps, p.length ≤ m) → (ps.map (·.length)).sum ≤ ps.length * m
  | [], _ => Nat.zero_le _
  | p :: ps, h => by
    have h1 := h p List.mem_cons_self
    have h2 := sum_le (m := m) (ps := ps) fun x hx => h x (List.mem_cons_of_mem _ hx)
    rw [List.map_cons, List.sum_cons, List.length_cons, Nat.succ_mul]
    omega
theorem logT_join (h : TxtOk sz ns es) : ((headT b sz ns ++ es.map entT).map (·.length)).sum + (headT b sz ns ++ es.map entT).length * (" " : Str).length ≤ 16777216 := by
  have q := sum_le (m := 108) (ps := headT b sz ns ++ es.map entT) (part_len h)
  have l1 : (" " : Str).length = 1 := by decide +kernel
  have e3 : (headT b sz ns).length = 3 := rfl
  have := h.ok.few
  rw [l1]
  rw [List.length_append, List.length_map] at q ⊢
  omega
theorem crew_join (cr : CrewOk ns) : (ns.map (·.length)).sum + ns.length * ("," : Str).length ≤ 16777216 := by
  have q := sum_le (m := 8) (ps := ns) fun p hp => (name_len (cr.nam p hp)).2
  have l1 : ("," : Str).length = 1 := by decide +kernel
  have := cr.few
  rw [l1]
  omega
/-- a text of small signs can be laid -/
theorem lay_txt {z : Str} (h : ∀ c ∈ tl z, c ≤ 122) : PyData.canLay0 (.str z) = true := by
  show z.cps.all (· < 0x110000) = true
  rw [← Array.all_toList, List.all_eq_true]
  intro c hc
  have := h c hc
  exact decide_eq_true (by omega)
theorem logT_lay (h : TxtOk sz ns es) : PyData.canLay0 (.str (logT b sz ns es)) = true := by
  refine lay_txt fun c hc => ?_
  unfold logT at hc
  rw [tl_join', tl_blank] at hc
  rcases mem_joinL hc with rfl | ⟨p, hp, hc⟩
  · omega
  · obtain ⟨z, hz, rfl⟩ := List.mem_map.mp hp
    exact (part_ch h z hz c hc).2
end
end NB

set_option Elab.async false
set_option linter.all false
/-! K3d: parts of lists of entries -/
namespace NB
open PySem PySem.Spec L2
theorem EntL.take {H : Hp} : ∀ {es : List (Str × Int)} {xs : List V} (n : Nat), EntL H es xs → EntL H (es.take n) (xs.take n)
  | _, _, 0, _ => by simp only [List.take_zero]; exact .nil
  | _, _, n + 1, .nil => .nil
  | _, _, n + 1, .cons r q => .cons r (EntL.take n q)
theorem EntL.drop {H : Hp} : ∀ {es : List (Str × Int)} {xs : List V} (n : Nat), EntL H es xs → EntL H (es.drop n) (xs.drop n)
  | _, _, 0, h => h
  | _, _, n + 1, .nil => .nil
  | _, _, n + 1, .cons r q => EntL.drop n q
theorem EntL.app {H : Hp} : ∀ {es gs : List (Str × Int)} {xs ys : List V}, EntL H es xs → EntL H gs ys → EntL H (es ++ gs) (xs ++ ys)
  | _, _, _, _, .nil, h => h
  | _, _, _, _, .cons r q, h => .cons r (EntL.app q h)
theorem EntL.set {H : Hp} {e : Str × Int} {v : V} (h : EntAt H e v) : ∀ {es : List (Str × Int)} {xs : List V} (n : Nat), EntL H es xs → EntL H (es.set n e) (xs.set n v)
  | _, _, _, .nil => .nil
  | _, _, 0, .cons r q => .cons h q
  | _, _, n + 1, .cons r q => .cons r (EntL.set h n q)
theorem cut_to {xs : List V} {n : Int} (h0 : 0 ≤ n) : cutV xs none (some n) = xs.take n.toNat := by
  unfold cutV
  show (xs.drop 0).take _ = _
  have hn : ¬ n < 0 := by omega
  simp only [HT.sIx, List.drop_zero, if_neg hn]
  rcases Nat.le_total n.toNat xs.length with h | h
  · congr 1
    omega
  · rw [List.take_of_length_le h, List.take_of_length_le]
    omega
theorem cut_from {xs : List V} {n : Int} (h0 : 0 ≤ n) : cutV xs (some n) none = xs.drop n.toNat := by
  unfold cutV
  have hn : ¬ n < 0 := by omega
  simp only [HT.sIx, if_neg hn]
  rcases Nat.le_total n.toNat xs.length with h | h
  · rw [List.take_of_length_le]
    · congr 1
      omega
    · rw [List.length_drop]; omega
  · rw [List.drop_eq_nil_of_le h, List.take_of_length_le]
    · exact List.drop_eq_nil_of_le (by omega)
    · rw [List.length_drop]; omega
section
variable {α β : Type} {R : α → β → Prop}
theorem pTake : ∀ {es : List α} {xs : List β} (n : Nat), Paired R es xs → Paired R (es.take n) (xs.take n)
  | _, _, 0, _ => by simp only [List.take_zero]; exact .nil
  | _, _, n + 1, .nil => .nil
  | _, _, n + 1, .cons r q => .cons r (pTake n q)
end
theorem EntAt.st {H H' : Hp} {e : Str × Int} {v : V} (h : EntAt H e v) (x : TupSt H H') : EntAt H' e v := by
  obtain ⟨p, rfl, q⟩ := h
  exact ⟨p, rfl, x _ _ q⟩
theorem Frm.put {M : List Addr} {H H1 : Hp} {p : Addr} {o : HO} (a : Frm M H H1) (h : H p = none) : Frm M H (L2.upd H1 p o) := fun c u e n => by
  rw [upd_ne (ne_of_none e h)]; exact a c u e n
end NB

set_option Elab.async false
set_option linter.all false
set_option maxRecDepth 100000
/-! B7: defs that may raise; own +; methods by keywords -/
namespace NB
open PySem PySem.Spec L2
open PyProof.Rows (envOfC)

section
variable {P : Program} {w : World} {K : PySem.W.Frag} {mg : Str → Option Value} {base : Heap}
/-- as fn_of', for a def that may raise -/
theorem fnX_of' {m qual : Str} {st : Stmt} {f : Addr} {fd : FuncData} {N ps : List Str} {k : Nat} {sp : Sp} (D : Mx K m qual st ps f fd) (S : FnScope N ps (C8.fnScope st)) (len : ∀ vs H Q E, sp vs H Q E → vs.length = ps.length)
    (hb : ∀ (cdv : Value) (A : Around) (o : List Env) (s : Shared) (H : Hp) (vs : List V) (Q : VK) (E : XK), Room k (A.deeper (envOfC qual (C8.fnScope st) s.heap.objs.size f cdv)) → sp vs H Q E →
      ∃ t, PSs (cxOf (L2.CX P w) P w K mg base N qual (C8.fnScope st) f cdv A o s H E) (C8.fnBody st) t ∧ t { nx := fun _ H' => Q .non H', rt := Q } (start N vs) H) : FnOk P w K mg base (L2.CX P w) (k + 1) f fd ps sp := by
  obtain ⟨oc, od, dV, kV, doc, pm, an, cdv, ct, osl, rfl, lk, hcd⟩ := D.fn.ex
  exact fn_of lk hcd S len fun A outer s H vs Q E hr hsp => hb cdv A outer s H vs Q E hr hsp
end
section
variable {X : Cx} {k : Nat} {C f : Addr} {fd : FuncData} {ps : List Str} {sp : Sp} {E : XK} {CXf : CXT}
/-- a wish that no state is asked of -/
theorem passW {W : WX} (tk : Takes X W) : Passes (L2.CX X.prog X.w) X (fun c d H => ∀ σ, W c d σ H) := fun _ σ _ _ e s' I c => tk e s' (XE.of_call I (fun _ _ _ h => h σ) c)
/-- o + p, two own instances of one class -/
theorem own_add (F : FnOk X.prog X.w X.K X.mg X.base CXf k f fd ps sp) (hs : PySem.W.findIn X.K (.ref C) "__add__" = some (some (.ref f))) (hf : PySem.W.isFn X.K (.ref f) = true) (hc : PySem.W.selfFirst X.K C = true) (hb : Binds X.K fd ps []) (hr : Room k X.A) (hx : Passes CXf X E) :
    OpR X (binaryOp .Add) (fun x y H Q => ∃ a b dx dy fs gs, x = .ref a ∧ y = .ref b ∧ H a = some (.ins C dx fs) ∧ H b = some (.ins C dy gs) ∧ sp [.ref a, .ref b] H (fun v H' => (∃ q, v = .ref q) ∧ Q v H') E) := by
  intro pins s σ H x y v u Q I rx ry q
  obtain ⟨a, b, dx, dy, fs, gs, rfl, rfl, ha, hb', q⟩ := q
  cases rx
  cases ry
  obtain ⟨mA, O, _⟩ := ins_get I.hok ha
  obtain ⟨mB, O', _⟩ := ins_get I.hok hb'
  obtain ⟨od, J, _⟩ := O.look
  obtain ⟨od', J', _⟩ := O'.look
  obtain ⟨m, hF⟩ := I.fr
  refine PySem.W.binop_K (op := .Add) hF I.ok.mod.kin J J'.type hc hs hf ?_
  refine thn (run_fn F hr hb .nil hx I (vs := [.ref a, .ref b]) (.cons rfl (.cons rfl .nil)) q) fun r s' z => ?_
  obtain ⟨z, H', I', rz, ⟨q0, e⟩, kz⟩ := z
  subst e
  cases rz
  exact ⟨.ref q0, H', I', rfl, kz⟩
variable {m : Str} {o : Expr} {kws : List Keyword} {ks : List Str} {g : List Value → List Value → List Value} {gV : List V → List V → List V} {p apos pos : Pos} {ta : TE} {tk : TA}
/-- o.m(k = v, ..) -/
def tMethK0 (C : Addr) (m : Str) (n : Nat) (sp : Sp) (gV : List V → List V → List V) (E : XK) (ta : TE) (tk : TA) : TE := fun σ H Q => ta σ H fun x H1 => ∃ a dx fs, x = .ref a ∧ H1 a = some (.ins C dx fs) ∧ fs.lookup m = none ∧ tk σ H1 fun zs H2 => zs.length = n ∧ sp (gV [.ref a] zs) H2 Q E
theorem pe_methK0 {pl : Sem Bool} (he : PE X o ta) (c : Cls X.K C) (hm : Meth X.K C m f) (F : FnOk X.prog X.w X.K X.mg X.base CXf k f fd ps sp) (hr : Room k X.A) (hb : KBn X.K fd ps 1 ks g gV) (hx : Passes CXf X E) (hkw : PK X kws tk)
    (hall : (backToKw pos (keywordEach kws X.env)).all (·.1.isSome) = true := by rfl) (hks : (backToKw pos (keywordEach kws X.env)).filterMap (·.1) = ks := by rfl)
    (hpl : ((backTo pos (starEach [] X.env)).any (·.1) || (backToKw pos (keywordEach kws X.env)).any (·.1.isNone)) = false := by rfl)
    (ht : eval (.Call (.Attribute o m apos) [] kws pos) X.env = (do
      let ov ← eval o X.env
      standAt apos.atName
      let (f, first) ← holding [ov] (getMethod ov m pl)
      callWith pos f first (backTo pos (starEach [] X.env)) (backToKw pos (keywordEach kws X.env))) := by rfl) :
    PE X (.Call (.Attribute o m apos) [] kws pos) (tMethK0 C m ks.length sp gV E ta tk) := by
  refine ⟨fun pins s σ H Q I h => ?_⟩
  refine PySem.W.methodCall_KW (pl := pl) (thn (he.run pins s σ H _ I h) fun u s1 ⟨x, H1, I1, rx, a, dx, fs, ex, ea, l, q⟩ => ?_) ht
  subst ex
  obtain rfl : u = Value.ref a := rx
  refine getmeth_ok I1 ea c hm l ?_
  refine PySem.W.callWith_KW0 (first := [.ref a]) (h₀ := X.base) I.ok.mod.kin hm.kp hall (thn (hkw.run pos pins s1 σ H1 _ I1 q) fun ws s2 ⟨zs, H2, I2, rz, l2, q2⟩ => ⟨I2.kIn, ?_⟩) hpl
  rw [hks]
  have r1 : Vals [V.ref a] [Value.ref a] := .cons rfl .nil
  have e2 : ws.length = ks.length := rz.length.symm.trans l2
  refine wpAny_call (codeAny_mono (F.run X.A X.stack s2 H2 ⟨[.ref a], ks.zip ws⟩ (g [.ref a] ws) _ Q E hr I2.env0 (hb.to s2 [.ref a] ws I2.kIn rfl e2) (hb.rel r1 rz) q2) fun r s' hq => ?_)
  cases r with
  | error e => exact hx pins σ H2 s2 e s' I2 hq
  | ok fl =>
    cases fl with
    | ret u => exact I2.after hq
    | next => exact False.elim hq
    | brk => exact False.elim hq
    | cont => exact False.elim hq
end
end NB

set_option Elab.async false
set_option linter.all false
set_option maxRecDepth 100000
set_option maxHeartbeats 4000000
/-! K4 (k51): classes of logs, logs made, front, with_entry, + -/
namespace NB
open PySem PySem.Spec L2
open PyProof.Rows (envOfC)
open C8 (pe_c pe_mk pe_mt pe_mt0 pe_gc fnScope fnBody fnArgs fnScope_by Cal Met Mak)
theorem EntL.snoc {H : Hp} : ∀ {es : List (Str × Int)} {xs : List V} {e : Str × Int} {v : V}, EntL H es xs → EntAt H e v → EntL H (es ++ [e]) (xs ++ [v])
  | _, _, _, _, .nil, h => .cons h .nil
  | _, _, _, _, .cons r q, h => .cons r (EntL.snoc q h)
theorem Frm.new' {M : List Addr} {H H1 : Hp} {p : Addr} {o : HO} (a : Frm M H H1) (h : H p = none) : Frm M H (L2.upd H1 p o) := fun c u e n => by
  rw [upd_ne (ne_of_none e h)]; exact a c u e n
theorem ps0 {X : Cx} : Passes C8.CX0 X C8.E0 := C8.pass0
theorem u2 {k : Nat} {A : Around} (hr : Room k A) : A.units + 1 < cLine := by have := hr.un; omega
/-- where the methods of Log stand -/
structure Ads where
  (fI fZ fV fE fN fQ fA fW : Addr)
  (dI dZ dV dE dN dQ dA dW : FuncData)
structure Ms (K : PySem.W.Frag) (A : Ads) : Prop where
  mI : Mx K "__init__" "Log.__init__" s_Log___init__ ["self", "size", "servers", "entries"] A.fI A.dI
  mZ : Mx K "size" "Log.size" s_Log_size ["self"] A.fZ A.dZ
  mV : Mx K "servers" "Log.servers" s_Log_servers ["self"] A.fV A.dV
  mE : Mx K "entries" "Log.entries" s_Log_entries ["self"] A.fE A.dE
  mN : Mx K "__len__" "Log.__len__" s_Log___len__ ["self"] A.fN A.dN
  mQ : Mx K "__eq__" "Log.__eq__" s_Log___eq__ ["self", "other"] A.fQ A.dQ
  mA : Mx K "__add__" "Log.__add__" s_Log___add__ ["self", "other"] A.fA A.dA
  mW : Mx K "with_entry" "Log.with_entry" s_Log_with_entry ["self", "server", "number"] A.fW A.dW
structure LogM (K : PySem.W.Frag) (cL cX C : Addr) (b : Bool) (A : Ads) : Prop extends LogC K C (kdB b) where
  mkk : Mk K C A.fI
  pZ : ∃ p, PropOf K C "size" p A.fZ
  pV : ∃ p, PropOf K C "servers" p A.fV
  pE : ∃ p, PropOf K C "entries" p A.fE
  mW : Meth K C "with_entry" A.fW
  sQ : PySem.W.findIn K (.ref C) "__eq__" = some (some (.ref A.fQ))
  iQ : PySem.W.isFn K (.ref A.fQ) = true
  sN : PySem.W.findIn K (.ref C) "__len__" = some (some (.ref A.fN))
  iN : PySem.W.isFn K (.ref A.fN) = true
  sA : PySem.W.findIn K (.ref C) "__add__" = some (some (.ref A.fA))
  iA : PySem.W.isFn K (.ref A.fA) = true
  sf : PySem.W.selfFirst K C = true
  kl : PySem.W.kitOne K (.ref C) (.ref cL) = some true
  kx : PySem.W.kitOne K (.ref C) (.ref cX) = some b
def kC (cL cX : Addr) (b : Bool) : Addr := if b = true then cX else cL
/-- a log at q, new since H -/
def LogN (C : Addr) (H H' : Hp) (q : Addr) (sz : Int) (ns : List Str) (es : List (Str × Int)) : Prop := ∃ dx ls le vs, H ls = none ∧ H le = none ∧ H' q = some (.ins C dx (lf sz ls le)) ∧ H' ls = some (.lst (ns.map V.str)) ∧ H' le = some (.lst vs) ∧ EntL H' es vs
theorem LogN.at {C : Addr} {H H' : Hp} {q : Addr} {sz : Int} {ns : List Str} {es : List (Str × Int)} (h : LogN C H H' q sz ns es) : LogAt C H' q sz ns es := by
  obtain ⟨dx, ls, le, vs, _, _, h⟩ := h
  exact ⟨dx, ls, le, vs, h⟩
theorem LogN.old {C : Addr} {H0 H H' : Hp} {q : Addr} {sz : Int} {ns : List Str} {es : List (Str × Int)} (h : LogN C H H' q sz ns es) (x : ∀ c, H c = none → H0 c = none) : LogN C H0 H' q sz ns es := by
  obtain ⟨dx, ls, le, vs, h1, h2, h⟩ := h
  exact ⟨dx, ls, le, vs, x _ h1, x _ h2, h⟩
theorem LogN.mono {C : Addr} {H H' H2 : Hp} {q : Addr} {sz : Int} {ns : List Str} {es : List (Str × Int)} (h : LogN C H H' q sz ns es) (x : Ext H' H2) : LogN C H H2 q sz ns es := by
  obtain ⟨dx, ls, le, vs, h1, h2, h3, h4, h5, h6⟩ := h
  exact ⟨dx, ls, le, vs, h1, h2, x _ _ h3, x _ _ h4, x _ _ h5, h6.mono x⟩
section
variable {P : Program} {w : World} {K : PySem.W.Frag} {mg : Str → Option Value} {base : Heap} {cL cX C : Addr} {kd : Str}
/-- a new log, for what is done with it -/
def NewLog (C : Addr) (H : Hp) (sz : Int) (ns : List Str) (es : List (Str × Int)) (R : Addr → Hp → Prop) : Prop := ∀ H' q, H q = none → LogN C H H' q sz ns es → Ext H H' → R q H'
theorem init_R {C : Addr} {H : Hp} {x dx : Addr} {sz : Int} {a l : Addr} {ns : List Str} {es : List (Str × Int)} {xs : List V} {R : Hp → Prop} {E : XK} (nx : H x = none) (nd : H dx = none) (ne : dx ≠ x) (so : SizeOk sz) (ha : H a = some (.lst (ns.map V.str))) (cr : CrewOk ns)
    (hl : H l = some (.lst xs)) (el : EntL H es xs) (ok : EntsOk ns es) (k : ∀ H', LogN C H H' x sz ns es → Ext H H' → R H') :
    spInit C [.ref x, .int sz, .ref a, .ref l] (upd (upd H dx (.own x)) x (.ins C dx [])) (fun v H2 => v = .non ∧ R H2) E := by
  have x0 : Ext H (upd (upd H dx (.own x)) x (.ins C dx [])) := fun b o e => by
    rw [upd_ne (ne_of_none e nx), upd_ne (ne_of_none e nd)]; exact e
  refine ⟨x, dx, sz, a, ns, l, es, xs, rfl, upd_same, by rw [upd_ne ne]; exact upd_same, so, x0 _ _ ha, cr, x0 _ _ hl, el.mono x0, ok, fun H' ls le h1 h2 g1 g2 g3 fr => ⟨rfl, ?_⟩⟩
  have x1 : Ext H H' := fun b o e => fr _ _ (x0 _ _ e) fun z => ne_of_none e nx (List.mem_singleton.mp z)
  exact k H' ⟨dx, ls, le, xs, Ext.free x0 h1, Ext.free x0 h2, g1, g2, g3, el.mono x1⟩ x1
def spMade (cL cX : Addr) : Sp := fun vs H Q _ => ∃ b sz a ns l es xs, vs = [.str (kdB b), .int sz, .ref a, .ref l] ∧ SizeOk sz ∧ H a = some (.lst (ns.map V.str)) ∧ CrewOk ns ∧ H l = some (.lst xs) ∧ EntL H es xs ∧ EntsOk ns es ∧ NewLog (kC cL cX b) H sz ns es fun q H' => Q (.ref q) H'
theorem ok_logof (T : Tx K mg cL cX) (D : Dx K mg "log_of" s_log_of ["kind", "size", "servers", "entries"]) (c_Log : Mak P w K mg base 4 "Log" cL (spInit cL) []) (c_LosingLog : Mak P w K mg base 4 "LosingLog" cX (spInit cX) []) :
    Cal P w K mg base 6 "log_of" (spMade cL cX) [] := by
  refine cal_of D sc_log_of (fun vs H Q E h => ?_) (fun f cdv A o s H vs Q E hr h => ?_)
  · obtain ⟨b, sz, a, ns, l, es, xs, rfl, _⟩ := h; rfl
  · obtain ⟨b, sz, a, ns, l, es, xs, rfl, so, ha, cr, hl, el, ok, k⟩ := h
    refine ⟨_, (pss_cons (ps_if (qt m_eq (mv 0) (pe_gc rfl T.g_LOSING) (nomark _)) (pss_one (ps_ret (pe_mk c_LosingLog hr (by decide) rfl (pa_cons (mv 1) (pa_cons (mv 2) (pa_cons (mv 3) pa_nil)))))) pss_nil)
    (pss_one (ps_ret (pe_mk c_Log hr (by decide) rfl (pa_cons (mv 1) (pa_cons (mv 2) (pa_cons (mv 3) pa_nil))))))), ?_⟩
    show if decide (kdB b = ("losing" : Str)) = true then _ else _
    cases b with
    | true =>
      refine ifT (by decide +kernel) ?_
      intro x dx nx nd ne
      exact init_R nx nd ne so ha cr hl el ok fun H' lg x1 => k H' x nx lg x1
    | false =>
      refine ifF (by decide +kernel) ?_
      intro x dx nx nd ne
      exact init_R nx nd ne so ha cr hl el ok fun H' lg x1 => k H' x nx lg x1
def spNeed : Sp := fun vs H Q _ => ∃ (a : Addr) (ns : List Str) (z : Str), vs = [.ref a, .str z] ∧ H a = some (.lst (ns.map V.str)) ∧ z ∈ ns ∧ Q .non H
theorem ok_need (D : Dx K mg "need_server" s_need_server ["servers", "thing"]) (c_is_server : Cal P w K mg base 1 "is_server" (spServer K) []) : Cal P w K mg base 2 "need_server" spNeed [] := by
  refine cal_of D sc_need_server (fun vs H Q E h => ?_) (fun f cdv A o s H vs Q E hr h => ?_)
  · obtain ⟨a, ns, z, rfl, _⟩ := h; rfl
  · obtain ⟨a, ns, z, rfl, ha, hz, k⟩ := h
    refine ⟨_, (pss_one (ps_if (pt_not (qv (pe_c c_is_server hr (by decide) rfl (pa_cons (mv 0) (pa_cons (mv 1) pa_nil))))) (pss_one ps_never) pss_nil)), ?_⟩
    have js : SrvJ K H ns (.str z) true := by have := SrvJ.str (K := K) (H := H) (ns := ns) z; rw [decide_eq_true hz] at this; exact this
    exact ⟨a, ns, _, _, rfl, ha, js, ifF (by rfl) k⟩
end
section
variable {P : Program} {w : World} {K : PySem.W.Frag} {mg : Str → Option Value} {base : Heap} {cL cX C : Addr} {b : Bool}
def spWith (C : Addr) : Sp := fun vs H Q E => ∃ p z i sz ns es, vs = [.ref p, .str z, .int i] ∧ LogAt C H p sz ns es ∧ SizeOk sz ∧ CrewOk ns ∧ EntsOk ns es ∧ z ∈ ns ∧ 0 ≤ i ∧ es.length < 200 ∧ NewLog C H sz ns (es ++ [(z, i)]) fun q H' => Q (.ref q) H'
def spAdd (C : Addr) : Sp := fun vs H Q E => ∃ p q sz ns es es2, vs = [.ref p, .ref q] ∧ LogAt C H p sz ns es ∧ LogAt C H q sz ns es2 ∧ SizeOk sz ∧ CrewOk ns ∧ EntsOk ns es ∧ EntsOk ns es2 ∧ es.length + es2.length ≤ 200 ∧ NewLog C H sz ns (es ++ es2) fun q H' => Q (.ref q) H'
theorem NewLog.up {H G : Hp} {sz : Int} {ns : List Str} {es : List (Str × Int)} {R : Addr → Hp → Prop} (k : NewLog C H sz ns es R) (x : Ext H G) : NewLog C G sz ns es R := fun H' q nq lg y => k H' q (Ext.free x nq) (lg.old fun _ h => Ext.free x h) (x.trans y)
theorem ok_with {f : Addr} {fd : FuncData} (T : Tx K mg cL cX) (L : LogC K C (kdB b)) (hC : kC cL cX b = C) (D : Mx K "with_entry" "Log.with_entry" s_Log_with_entry ["self", "server", "number"] f fd) (c_log_of : Cal P w K mg base 6 "log_of" (spMade cL cX) [])
    (c_need_server : Cal P w K mg base 2 "need_server" spNeed []) : FnOk P w K mg base C8.CX0 7 f fd ["self", "server", "number"] (spWith C) := by
  refine fn_of' D sc_Log_with_entry (fun vs H Q E h => ?_) (fun cdv A o s H vs Q E hr h => ?_)
  · obtain ⟨p, z, i, sz, ns, es, rfl, _⟩ := h; rfl
  · obtain ⟨p, z, i, sz, ns, es, rfl, lg, so, cr, ok, hz, i0, n1, k⟩ := h
    obtain ⟨dx, ls, le, xs, hp, h1, h2, el⟩ := lg
    obtain ⟨u, con⟩ := L.kd
    refine ⟨_, (pss_cons (ps_expr (pe_c c_need_server hr (by decide) rfl (pa_cons (pe_fld (mv 0) rfl) (pa_cons (mv 1) pa_nil))))
    (pss_cons (ps_if (qt m_lt (mv 2) pe_int (nomark _)) (pss_one ps_never) pss_nil)
    (pss_cons (ps_if (qt m_eq (pe_callB call_len (by rfl) T.n_len (by decide +kernel) (pa_cons (pe_fld (mv 0) rfl) pa_nil)) (pe_gc rfl T.g_MOST_ENTRIES) (nomark _)) (pss_one ps_never) pss_nil)
    (pss_one (ps_ret (pe_c c_log_of hr (by decide) rfl (pa_cons (pe_con (mv 0) rfl) (pa_cons (pe_fld (mv 0) rfl) (pa_cons (pe_fld (mv 0) rfl) (pa_cons (pe_op op_cat (pe_fld (mv 0) rfl) (pe_lst (pa_cons (pe_tup (pa_cons (mv 1) (pa_cons (mv 2) pa_nil))) pa_nil))) pa_nil)))))))))), ?_⟩
    refine ⟨p, C, dx, _, _, rfl, hp, L.cl, L.nV, lf_servers _ _ _, ls, ns, z, rfl, h1, hz, ?_⟩
    dsimp only [mI0]
    refine (show if decide (i < 0) = true then _ else _ from ?_)
    rw [decide_eq_false (by omega)]
    refine ifF rfl ?_
    refine ⟨p, C, dx, _, _, rfl, hp, L.cl, L.nE, lf_entries _ _ _, _, _, rfl, .inl ⟨_, SqL.of h2, rfl⟩, ?_⟩
    refine (show if decide ((xs.length : Int) = 200) = true then _ else _ from ?_)
    refine ifD (fun e3 => ?_) (fun e3 => ?_)
    · exact absurd e3 (by have := el.len; omega)
    refine ⟨p, C, dx, _, _, _, rfl, hp, L.cl, con, kd_no _ _ _, p, C, dx, _, _, rfl, hp, L.cl, L.nS, lf_size _ _ _, p, C, dx, _, _, rfl, hp, L.cl, L.nV, lf_servers _ _ _, p, C, dx, _, _, rfl, hp, L.cl, L.nE, lf_entries _ _ _, (by show 2 ≤ sizeLine; decide), fun tp htp => ?_⟩
    have x1 := Ext.upd (o := .tup [.str z, .int i]) htp
    have e1 : EntAt (upd H tp (.tup [.str z, .int i])) (z, i) (.ref tp) := ⟨tp, rfl, upd_same⟩
    generalize upd H tp (.tup [.str z, .int i]) = G1 at x1 e1 ⊢
    refine ⟨(by show 1 ≤ sizeLine; decide), fun t2 ht2 => ?_⟩
    have x2' := Ext.upd (o := .lst [.ref tp]) ht2
    have x2 := x1.trans x2'
    have e2 := e1.mono x2'
    have c2 : (upd G1 t2 (.lst [.ref tp])) t2 = some (.lst [.ref tp]) := upd_same
    generalize upd G1 t2 (.lst [.ref tp]) = G2 at x2 e2 c2 ⊢
    have hx2 : xs.length < 200 := by rw [← el.len]; exact n1
    refine ⟨le, t2, _, _, rfl, rfl, x2 _ _ h2, c2, Nat.le_trans (show xs.length + 1 ≤ 200 by omega) (by decide), fun t3 ht3 => ?_⟩
    have x3' := Ext.upd (o := .lst (xs ++ [.ref tp])) ht3
    have x3 := x2.trans x3'
    refine ⟨b, sz, ls, ns, t3, es ++ [(z, i)], _, rfl, so, x3 _ _ h1, cr, upd_same, EntL.snoc (el.mono x3) (e2.mono x3'), ⟨by rw [List.length_append]; exact n1, fun e he => ?_⟩, ?_⟩
    · rcases List.mem_append.mp he with he | he
      · exact ok.ok e he
      · rw [List.mem_singleton.mp he]; exact ⟨hz, i0⟩
    rw [hC]
    exact k.up x3
theorem ok_add {f : Addr} {fd : FuncData} (T : Tx K mg cL cX) (L : LogC K C (kdB b)) (hC : kC cL cX b = C) (kl : PySem.W.kitOne K (.ref C) (.ref cL) = some true) (D : Mx K "__add__" "Log.__add__" s_Log___add__ ["self", "other"] f fd) (c_log_of : Cal P w K mg base 6 "log_of" (spMade cL cX) []) : FnOk P w K mg base C8.CX0 7 f fd ["self", "other"] (spAdd C) := by
  refine fn_of' D sc_Log___add__ (fun vs H Q E h => ?_) (fun cdv A o s H vs Q E hr h => ?_)
  · obtain ⟨p, q, sz, ns, es, es2, rfl, _⟩ := h; rfl
  · obtain ⟨p, q, sz, ns, es, es2, rfl, lg, lg2, so, cr, ok, ok2, h200, k⟩ := h
    obtain ⟨dx, ls, le, xs, hp, h1, h2, el⟩ := lg
    obtain ⟨dx2, ls2, le2, xs2, hp2, g1, g2, el2⟩ := lg2
    obtain ⟨u, con⟩ := L.kd
    refine ⟨_, (pss_cons (ps_if (PW.pt (pw_or (pt_not (qv (pe_callB call_isi (by rfl) T.n_isinstance (by decide +kernel) (pa_cons (mv 1) (pa_cons (pe_gc rfl T.g_Log) pa_nil))))) (pw_or (qt m_ne (pe_con (mv 1) rfl) (pe_con (mv 0) rfl) (nomark _)) (pw_or1 (qt m_ne (pe_fld (mv 1) rfl) (pe_fld (mv 0) rfl) (nomark _)))))) (pss_one ps_never) pss_nil)
    (pss_cons (ps_if (qt (op_neD hr.units) (pe_fld (mv 1) rfl) (pe_fld (mv 0) rfl) (nomark _)) (pss_one ps_never) pss_nil)
    (pss_cons (ps_set (i := 2) sc_Log___add__.nd rfl (Or.inl rfl) (pe_op op_cat (pe_fld (mv 0) rfl) (pe_fld (mv 1) rfl)))
    (pss_cons (ps_if (qt m_gt (pe_callB call_len (by rfl) T.n_len (by decide +kernel) (pa_cons (mv 2) pa_nil)) (pe_gc rfl T.g_MOST_ENTRIES) (nomark _)) (pss_one ps_never) pss_nil)
    (pss_one (ps_ret (pe_c c_log_of hr (by decide) rfl (pa_cons (pe_con (mv 0) rfl) (pa_cons (pe_fld (mv 0) rfl) (pa_cons (pe_fld (mv 0) rfl) (pa_cons (mv 2) pa_nil))))))))))), ?_⟩
    refine ⟨_, _, _, _, _, rfl, .own _, L.ty _ _ _ _ hp2, kl, ifF (by rfl) ?_⟩
    refine ⟨q, C, dx2, _, _, _, rfl, hp2, L.cl, con, kd_no _ _ _, p, C, dx, _, _, _, rfl, hp, L.cl, con, kd_no _ _ _, ?_⟩
    dsimp only [mEqG, kB]
    refine ifF (by simp) ?_
    refine ⟨q, C, dx2, _, _, rfl, hp2, L.cl, L.nS, lf_size _ _ _, p, C, dx, _, _, rfl, hp, L.cl, L.nS, lf_size _ _ _, ?_⟩
    dsimp only [mEqG, kB]
    refine ifF (by simp) ?_
    refine ⟨q, C, dx2, _, _, rfl, hp2, L.cl, L.nV, lf_servers _ _ _, p, C, dx, _, _, rfl, hp, L.cl, L.nV, lf_servers _ _ _, ?_⟩
    refine ⟨_, _, dp_S (SqL.of g1), dp_S (SqL.of h1), shaped_S cr.nam, shaped_S cr.nam, ?_⟩
    rw [eqv_S, decide_eq_true rfl]
    refine ifF (by rfl) ?_
    -- entries
    have hx1 : xs.length ≤ 200 := by rw [← el.len]; exact ok.few
    have hx2 : xs2.length ≤ 200 := by rw [← el2.len]; exact ok2.few
    refine ⟨p, C, dx, _, _, rfl, hp, L.cl, L.nE, lf_entries _ _ _, q, C, dx2, _, _, rfl, hp2, L.cl, L.nE, lf_entries _ _ _, le, le2, _, _, rfl, rfl, h2, g2, Nat.le_trans (show xs.length + xs2.length ≤ 400 by omega) (by decide), fun t ht => ?_⟩
    have x := Ext.upd (o := .lst (xs ++ xs2)) ht
    have d : (upd H t (.lst (xs ++ xs2))) t = some (.lst (xs ++ xs2)) := upd_same
    have elx := (el.mono x).app (el2.mono x)
    generalize upd H t (.lst (xs ++ xs2)) = G at x d elx ⊢
    refine ⟨_, _, rfl, .inl ⟨_, SqL.of d, rfl⟩, ?_⟩
    refine (show if decide ((200 : Int) < ((xs ++ xs2).length : Int)) = true then _ else _ from ?_)
    have hlen : (es ++ es2).length = (xs ++ xs2).length := elx.len
    rw [List.length_append] at hlen
    refine ifD (fun e3 => ?_) (fun e3 => ?_)
    · exact absurd e3 (by rw [List.length_append]; omega)
    refine ⟨p, C, dx, _, _, _, rfl, x _ _ hp, L.cl, con, kd_no _ _ _, p, C, dx, _, _, rfl, x _ _ hp, L.cl, L.nS, lf_size _ _ _, p, C, dx, _, _, rfl, x _ _ hp, L.cl, L.nV, lf_servers _ _ _, ?_⟩
    refine ⟨b, sz, ls, ns, t, es ++ es2, _, rfl, so, x _ _ h1, cr, d, elx, ⟨by rw [List.length_append]; omega, fun e he => (List.mem_append.mp he).elim (ok.ok e) (ok2.ok e)⟩, ?_⟩
    rw [hC]
    exact k.up x
end
end NB

set_option Elab.async false
set_option linter.all false
set_option maxRecDepth 100000
/-! B14: for over enumerate(list) -/
namespace NB
open PySem PySem.Spec L2
theorem for_enum {K : PySem.W.Frag} {a : Addr} {xs : List V} {g : TG} {tb : TS} {D : Ends} {σ : L2.St} {H : Hp} (Pv : Nat → L2.St → Hp → Prop) (h0 : Pv 0 σ H) (hl : ∀ i σ H, i ≤ xs.length → Pv i σ H → SqL K H a xs)
    (hs : ∀ i x T σ H, xs[i]? = some x → H T = none → Pv i σ H → g (.ref T) σ (upd H T (.tup [.int (i : Nat), x])) fun σ2 H2 => tb { D with nx := Pv (i + 1), ct := Pv (i + 1), bk := D.nx } σ2 H2) (hd : ∀ σ H, Pv xs.length σ H → D.nx σ H) :
    ∃ W : Nat → Nat → L2.St → Hp → Prop, (∃ m, W 0 m σ H) ∧ ∀ i m σ H, W i m σ H →
      ((Ite K a).stop i H ∧ D.nx σ H) ∨ ((Ite K a).go i H ∧ ∃ N : L2.St → Hp → Prop, (∀ σ' H', N σ' H' → ∃ m', m' < m ∧ W (i + 1) m' σ' H') ∧ ∀ x H', (Ite K a).yld i H x H' → g x σ H' fun σ2 H2 => tb { D with nx := N, ct := N, bk := D.nx } σ2 H2) := by
  refine ⟨fun i m σ H => m = xs.length - i ∧ i ≤ xs.length ∧ Pv i σ H, ⟨xs.length, by simp, Nat.zero_le _, h0⟩, ?_⟩
  rintro i m σ H ⟨rfl, hi, p⟩
  have q := hl i σ H hi p
  by_cases hlt : i < xs.length
  · refine .inr ⟨⟨xs, xs[i], q, by simp [hlt]⟩, Pv (i + 1), fun σ' H' p' => ⟨xs.length - (i + 1), by omega, rfl, hlt, p'⟩, fun v H' y => ?_⟩
    obtain ⟨T, x, rfl, nT, rfl, y⟩ := y
    exact hs i x T σ _ (y xs q) nT p
  · have e : i = xs.length := by omega
    subst e
    exact .inl ⟨⟨xs, q, Nat.le_refl _⟩, hd σ H p⟩
end NB

set_option Elab.async false
set_option linter.all false
set_option maxRecDepth 100000
/-! D3: data that can be shown -/
namespace NB
open PySem PySem.Spec L2

structure Sm (W n : Nat) (d : PyData) : Prop where
  lay : d.canLay0 = true
  sho : d.showable = true
  nod : d.hasDict = false
  dep : d.depth ≤ n
  ish : d.intsShort 61 = true
  wt : d.weight ≤ W
theorem Sm.mono {W n W' n' : Nat} {d : PyData} (h : Sm W n d) (h1 : W ≤ W') (h2 : n ≤ n') : Sm W' n' d := ⟨h.lay, h.sho, h.nod, Nat.le_trans h.dep h2, h.ish, Nat.le_trans h.wt h1⟩
theorem pow_log {m : Nat} (h : m < 10 ^ 60) : m.log2 < 200 := by
  by_cases e : m = 0
  · subst e; decide
  · rw [Nat.log2_lt e]
    exact Nat.lt_of_lt_of_le h (by decide)
theorem Sm.int {i : Int} (h : i.natAbs < 10 ^ 60) : Sm 200 0 (.int i) := by
  have l := pow_log h
  refine ⟨rfl, ?_, rfl, Nat.le_refl _, ?_, ?_⟩
  · show decide (i.natAbs.log2 < 1920) = true
    exact decide_eq_true (by omega)
  · show decide ((PyData.shown (.int i)).length ≤ 61) = true
    refine decide_eq_true ?_
    show (Str.ofString (toString i)).length ≤ 61
    rw [PySem.ofString_length]
    exact int_text_length_le10 (k := 60) (by decide) h
  · show (if i == 0 then 0 else i.natAbs.log2 + 1) ≤ 200
    split <;> omega
theorem Sm.str {z : Str} (h : PyData.canLay0 (.str z) = true) (hl : z.length ≤ 100) : Sm 100 0 (.str z) := ⟨h, rfl, rfl, Nat.le_refl _, rfl, hl⟩
section
variable {W n : Nat}
theorem smAll : ∀ {ds : List PyData}, (∀ d ∈ ds, Sm W n d) → PyData.canLayAll0 ds = true ∧ PyData.showableAll ds = true ∧ PyData.hasDictAll ds = false ∧ PyData.depthAll ds ≤ n ∧ PyData.intsShortAll 61 ds = true ∧ PyData.weightAll ds ≤ (W + 1) * ds.length
  | [], _ => by simp [PyData.canLayAll0, PyData.showableAll, PyData.hasDictAll, PyData.depthAll, PyData.intsShortAll, PyData.weightAll]
  | d :: ds, h => by
    obtain ⟨h1, h2, h3, h4, h5, h6⟩ := smAll fun x hx => h x (List.mem_cons_of_mem _ hx)
    have g := h d List.mem_cons_self
    simp only [PyData.canLayAll0, PyData.showableAll, PyData.hasDictAll, PyData.depthAll, PyData.intsShortAll, PyData.weightAll, Bool.and_eq_true, Bool.or_eq_false_iff, List.length_cons]
    refine ⟨⟨g.lay, h1⟩, ⟨g.sho, h2⟩, ⟨g.nod, h3⟩, Nat.max_le.mpr ⟨g.dep, h4⟩, ⟨g.ish, h5⟩, ?_⟩
    have := g.wt
    rw [Nat.mul_add, Nat.mul_one]
    omega
theorem Sm.list {ds : List PyData} {m : Nat} (h : ∀ d ∈ ds, Sm W n d) (hm : ds.length ≤ m) : Sm ((W + 1) * m) (n + 1) (.list ds) := by
  obtain ⟨h1, h2, h3, h4, h5, h6⟩ := smAll h
  exact ⟨by simpa only [PyData.canLay0] using h1, by simpa only [PyData.showable] using h2, by simpa only [PyData.hasDict] using h3, by show PyData.depthAll ds + 1 ≤ n + 1; omega, by simpa only [PyData.intsShort] using h5,
    Nat.le_trans h6 (Nat.mul_le_mul (Nat.le_refl _) hm)⟩
theorem Sm.tuple {ds : List PyData} {m : Nat} (h : ∀ d ∈ ds, Sm W n d) (hm : ds.length ≤ m) : Sm ((W + 1) * m) (n + 1) (.tuple ds) := by
  obtain ⟨h1, h2, h3, h4, h5, h6⟩ := smAll h
  exact ⟨by simpa only [PyData.canLay0] using h1, by simpa only [PyData.showable] using h2, by simpa only [PyData.hasDict] using h3, by show PyData.depthAll ds + 1 ≤ n + 1; omega, by simpa only [PyData.intsShort] using h5,
    Nat.le_trans h6 (Nat.mul_le_mul (Nat.le_refl _) hm)⟩
theorem Sm.fits {d : PyData} (h : Sm W n d) (hW : W ≤ 200000) : d.shown.length ≤ sizeLine := by
  have h1 := PyData.shown_le 61 (by decide) d (PyData.leavesShort_of_canLay0 61 d h.lay h.ish)
  have h2 : (61 + 2) * d.weight ≤ 63 * 200000 := Nat.mul_le_mul (by decide) (Nat.le_trans h.wt hW)
  rw [sizeLine_eq]
  omega
theorem Sm.shaped {d : PyData} (h : Sm W n d) (hn : n ≤ 60) : SeqAt.shaped d = true := Bool.and_eq_true_iff.mpr ⟨h.lay, decide_eq_true (Nat.le_trans h.dep (by omega))⟩
end
/-- repr of it -/
theorem rep_of {K : PySem.W.Frag} {H : Hp} {v : V} {d : PyData} {W n : Nat} {Q : VK} (dp : Dp K H v d) (sm : Sm W n d) (hd : PyProof.Rows.isDisplay d = true) (hW : W ≤ 200000) (hn : n ≤ 60) (q : Q (.str d.shown) H) : mRep K [v] H Q :=
  ⟨v, d, rfl, dp, hd, sm.sho, sm.nod, Nat.le_trans sm.dep hn, sm.fits hW, q⟩
end NB

set_option Elab.async false
set_option linter.all false
set_option maxRecDepth 100000
set_option maxHeartbeats 4000000
/-! K4u (k81): the urn that the law draws from -/
namespace NB
open PySem PySem.Spec L2
open PyProof.Rows (envOfC)
open C8 (pe_c pe_mk pe_mt pe_mt0 pe_gc fnScope fnBody fnArgs fnScope_by Cal Met Mak)
theorem Ext.put_new {H H1 : Hp} {d : Addr} {o : HO} (x : Ext H H1) (n : H d = none) : Ext H (L2.upd H1 d o) := fun b u h => by
  rw [upd_ne (ne_of_none h n)]; exact x b u h
/-- an urn at p, its cells at q, after at most n mixed draws -/
def UrnAt (n : Nat) (p q : Addr) (H : Hp) : Prop := ∃ (xs : List Int) (s z : Int), H p = some (.lst [.ref q, .int s, .int z]) ∧ H q = some (.lst (xs.map V.int)) ∧ (∀ x ∈ xs, 0 ≤ x) ∧ xs.length ≤ 40 ∧ 0 ≤ s ∧ s < 2 ^ 127 ∧ 0 ≤ z ∧ z ≤ (n : Int)
theorem UrnAt.ne {n : Nat} {p q : Addr} {H : Hp} (h : UrnAt n p q H) : p ≠ q := by
  obtain ⟨xs, s, z, h1, h2, _⟩ := h
  intro e
  rw [e, h2] at h1
  injection h1 with h1
  injection h1 with h1
  cases xs with
  | nil => cases h1
  | cons x xs => injection h1 with h1; cases h1
theorem UrnAt.mono {n m : Nat} {p q : Addr} {H : Hp} (h : UrnAt n p q H) (e : n ≤ m) : UrnAt m p q H := by
  obtain ⟨xs, s, z, h1, h2, h3, h4, h5, h6, h7, h8⟩ := h
  exact ⟨xs, s, z, h1, h2, h3, h4, h5, h6, h7, by omega⟩
theorem UrnAt.keep {n : Nat} {p q : Addr} {H H' : Hp} (h : UrnAt n p q H) (x : Ext H H') : UrnAt n p q H' := by
  obtain ⟨xs, s, z, h1, h2, r⟩ := h
  exact ⟨xs, s, z, x _ _ h1, x _ _ h2, r⟩
theorem UrnAt.ne_p {n : Nat} {p q b : Addr} {H : Hp} (h : UrnAt n p q H) (hb : H b = none) : b ≠ p ∧ b ≠ q := by
  obtain ⟨xs, s, z, h1, h2, _⟩ := h
  exact ⟨(ne_of_none h1 hb).symm, (ne_of_none h2 hb).symm⟩
/-- a list of texts that is not empty is no part of an urn -/
theorem UrnAt.strs {n : Nat} {p q a : Addr} {H : Hp} {ns : List Str} (h : UrnAt n p q H) (ha : H a = some (.lst (ns.map V.str))) (h1 : 1 ≤ ns.length) : a ≠ p ∧ a ≠ q := by
  obtain ⟨xs, s, z, h2, h3, _⟩ := h
  cases ns with
  | nil => exact absurd h1 (by decide)
  | cons w ns =>
    refine ⟨fun e => ?_, fun e => ?_⟩
    · rw [e, h2] at ha
      injection ha with ha; injection ha with ha; injection ha with ha; cases ha
    · rw [e, h3] at ha
      injection ha with ha; injection ha with ha
      cases xs with
      | nil => cases ha
      | cons x xs => injection ha with ha; cases ha
theorem nin2 {b p q : Addr} (h : b ≠ p ∧ b ≠ q) : b ∉ [p, q] := fun z => by
  simp only [List.mem_cons, List.not_mem_nil, or_false] at z
  exact z.elim h.1 h.2
theorem UrnAt.none {n : Nat} {p q b : Addr} {H H' : Hp} (f : Frm [p, q] H H') (t : UrnAt n p q H') (h : H' b = Option.none) : H b = Option.none := by
  cases e : H b with
  | none => rfl
  | some o => rw [f _ _ e (nin2 (t.ne_p h))] at h; cases h
/-- tuples stand -/
theorem UrnAt.tups {n : Nat} {p q : Addr} {H H' : Hp} (h : UrnAt n p q H) (f : Frm [p, q] H H') : TupSt H H' := fun a xs e => by
  obtain ⟨_, s, z, h2, h3, _⟩ := h
  exact f _ _ e (nin2 ⟨ne_of e h2 (fun z => nomatch z), ne_of e h3 (fun z => nomatch z)⟩)
abbrev MOD : Int := 170141183460469231731687303715884105727
theorem mulW {i j : Int} {a b : Nat} (h0 : 0 ≤ i) (h1 : i < 2 ^ a) (h2 : 0 ≤ j) (h3 : j < 2 ^ b) (ha : 0 < a) (hb : 0 < b) (hab : a + b ≤ 1000) : PySem.IntMulOk i j := by
  refine CMulW.ok ?_
  have := nat_bits h0 h1 ha
  have := nat_bits h2 h3 hb
  show i.natAbs.log2 + j.natAbs.log2 < 1000000
  omega
theorem mulL {i j : Int} (h1 : -(2 ^ 64) < i) (h2 : i < 2 ^ 64) : PySem.IntMulOk i j := CMul.ok (.inl ⟨h1, h2⟩)
theorem mulR {i j : Int} (h1 : -(2 ^ 64) < j) (h2 : j < 2 ^ 64) : PySem.IntMulOk i j := CMul.ok (.inr ⟨h1, h2⟩)
theorem mod_lt {a b : Int} (h : 0 < b) : 0 ≤ a % b ∧ a % b < b := ⟨Int.emod_nonneg _ (by omega), Int.emod_lt_of_pos _ h⟩
theorem cdv_of {j : Int} {n : Nat} (i : Int) (h1 : 1 ≤ j) (h2 : j < 2 ^ n) (h0 : 0 < n) (h9 : n ≤ 9000) : CDv i j := ⟨by omega, Nat.lt_of_lt_of_le (nat_bits (by omega) h2 h0) h9⟩
/-- lists of numbers as data -/
theorem dp_ints {K : PySem.W.Frag} {H : Hp} : ∀ xs : List Int, DpAll K H (xs.map V.int) (xs.map .int)
  | [] => .nil
  | z :: xs => .cons (.int z) (dp_ints xs)
theorem sh_ints (xs : List Int) : SeqAt.shaped (.list (xs.map .int)) = true := by
  refine shaped_list (n := 0) (fun d hd => ?_) (by decide)
  obtain ⟨z, _, rfl⟩ := List.mem_map.mp hd
  exact ⟨rfl, Nat.le_refl _⟩
theorem eqv_ints (xs : List Int) : PyData.eqv (.list (xs.map .int)) (.list []) = decide (xs = []) := by
  cases xs with
  | nil => rfl
  | cons x xs => rfl
theorem seq0 {n : Nat} (h : 0 < n) : PySem.seqIndex? 0 n = some 0 := by
  unfold PySem.seqIndex?
  simp
  omega
theorem ix0 {n : Nat} (h : 0 < n) : ixN n 0 = some 0 := by
  unfold ixN
  simp
  omega
def spLot : Sp := fun vs H Q _ => ∃ p q many n, vs = [.ref p, .int many] ∧ UrnAt n p q H ∧ n ≤ 1000000000 ∧ 1 ≤ many ∧ many < 2 ^ 1000 ∧ ∀ H' r, 0 ≤ r → r < many → UrnAt (n + 1) p q H' → Frm [p, q] H H' → Q (.int r) H'
def spUrn (K : PySem.W.Frag) : Sp := fun vs H Q _ => ∃ (a : Addr) (ns : List Int), vs = [.ref a] ∧ SqL K H a (ns.map V.int) ∧ ns.length ≤ 63 ∧ ∀ H' p q, H p = none → H q = none → UrnAt 0 p q H' → Ext H H' → Q (.ref p) H'
section
variable {P : Program} {w : World} {K : PySem.W.Frag} {mg : Str → Option Value} {base : Heap} {cL cX : Addr}
theorem ok_lot (T : Blt mg) (D : Dx K mg "_law_lot" s__law_lot ["urn", "many"]) : Cal P w K mg base 1 "_law_lot" spLot [] := by
  refine cal_of D sc__law_lot (fun vs H Q E h => ?_) (fun f cdv A o s H vs Q E hr h => ?_)
  · obtain ⟨p, q, many, n, rfl, _⟩ := h; rfl
  · obtain ⟨p, q, many, n, rfl, ⟨xs0, s0, z0, hp0, hq0, hx0, hl0, hs0, hs1, hz0, hz1⟩, hn, hm1, hm2, k⟩ := h
    refine ⟨_, (pss_cons (ps_while PassesOwn.never (PW.pt (pw_and (qt (op_neD hr.units) (pe_ix m_ix (mv 0) pe_int (fun _ _ => rfl)) (pe_lst pa_nil) (nomark _)) (pw_and1 (qt m_lt (pe_ix m_ix (pe_ix m_ix (mv 0) pe_int (fun _ _ => rfl)) pe_int (fun _ _ => rfl)) pe_int (nomark _))))) (pss_one (ps_expr (pe_bm PySem.F.plainAttrs_list PySem.F.slot_list_pop PySem.F.type_list_pop mt_popAt (pe_ix m_ix (mv 0) pe_int (fun _ _ => rfl)) (pa_cons pe_int pa_nil)))))
    (pss_cons (ps_if (qt (op_neD hr.units) (pe_ix m_ix (mv 0) pe_int (fun _ _ => rfl)) (pe_lst pa_nil) (nomark _)) (pss_cons (ps_set (i := 2) sc__law_lot.nd rfl (Or.inl rfl) (pe_op m_mod (pe_ix m_ix (pe_ix m_ix (mv 0) pe_int (fun _ _ => rfl)) pe_int (fun _ _ => rfl)) (mv 1)))
    (pss_cons (ps_asg (pe_op m_div (pe_ix m_ix (pe_ix m_ix (mv 0) pe_int (fun _ _ => rfl)) pe_int (fun _ _ => rfl)) (mv 1)) (pg_sub (pe_ix m_ix (mv 0) pe_int (fun _ _ => rfl)) pe_int set_list))
    (pss_one (ps_ret (mv 2))))) pss_nil)
    (pss_cons (ps_asg (pe_op m_add (pe_ix m_ix (mv 0) pe_int (fun _ _ => rfl)) pe_int) (pg_sub (mv 0) pe_int set_list))
    (pss_cons (ps_set (i := 3) sc__law_lot.nd rfl (Or.inl rfl) (pe_op m_add (pe_op m_mul (pe_ix m_ix (mv 0) pe_int (fun _ _ => rfl)) (pe_ix m_ix (mv 0) pe_int (fun _ _ => rfl))) (pe_op m_mul (pe_op m_mul pe_int (pe_ix m_ix (mv 0) pe_int (fun _ _ => rfl))) (pe_ix m_ix (mv 0) pe_int (fun _ _ => rfl)))))
    (pss_cons (ps_asg (pe_op m_mod (pe_op m_add (mv 3) (pe_op m_mul pe_int (pe_ix m_ix (mv 0) pe_int (fun _ _ => rfl)))) pe_int) (pg_sub (mv 0) pe_int set_list))
    (pss_cons (ps_set (i := 3) sc__law_lot.nd rfl (Or.inl rfl) (pe_op m_add (pe_op m_mul (pe_ix m_ix (mv 0) pe_int (fun _ _ => rfl)) (pe_ix m_ix (mv 0) pe_int (fun _ _ => rfl))) (pe_op m_mul pe_int (pe_ix m_ix (mv 0) pe_int (fun _ _ => rfl)))))
    (pss_one (ps_ret (pe_op m_mod (pe_op m_div (pe_op m_add (pe_op m_mul (pe_ix m_ix (mv 0) pe_int (fun _ _ => rfl)) (pe_op m_pow pe_int pe_int)) (pe_op m_mod (mv 3) pe_int)) (pe_op m_pow pe_int pe_int)) (mv 1)))))))))), ?_⟩
    refine ⟨fun m σ H' => σ = [some (.ref p), some (.int many), none, none] ∧ ∃ xs, xs.length = m ∧ H' p = some (.lst [.ref q, .int s0, .int z0]) ∧ H' q = some (.lst (xs.map V.int)) ∧ (∀ x ∈ xs, 0 ≤ x) ∧ xs.length ≤ 40 ∧ Frm [p, q] H H', ⟨xs0.length, rfl, xs0, rfl, hp0, hq0, hx0, hl0, Frm.refl⟩, ?_⟩
    rintro m σ H1 ⟨rfl, xs, rfl, hp, hq, hx, hl, fr⟩
    have pq : p ≠ q := UrnAt.ne ⟨xs0, s0, z0, hp0, hq0, hx0, hl0, hs0, hs1, hz0, hz1⟩
    refine ⟨_, _, .inl (SqL.of hp), atI_nat (j := 0) rfl, Nat.zero_le _, fun t1 n1 => ?_⟩
    have x1 := Ext.upd (o := .lst []) n1
    have hp1 := x1 _ _ hp
    have hq1 := x1 _ _ hq
    have fr1 := fr.trans (Frm.ext x1)
    have c1 : (upd H1 t1 (.lst [])) t1 = some (.lst []) := upd_same
    generalize upd H1 t1 (.lst []) = H2 at hp1 hq1 fr1 c1 ⊢
    refine ⟨_, _, .lst (SqL.of hq1) (dp_ints xs), .lst (SqL.of c1) .nil, sh_ints xs, sh_ints [], ?_⟩
    rw [eqv_ints]
    have done_ : ∀ {G : Hp} {ys : List Int}, (∀ x ∈ ys, 0 ≤ x) → ys.length ≤ 40 → G p = some (.lst [.ref q, .int s0, .int z0]) → G q = some (.lst (ys.map V.int)) → Frm [p, q] H G → True := fun _ _ _ _ _ => trivial
    by_cases e0 : xs = []
    · rw [decide_eq_true e0]
      refine ifF (by rfl) ?_
      refine ifF (by rfl) ?_
      -- behind the cells
      refine ⟨_, _, .inl (SqL.of hp1), atI_nat (j := 0) rfl, Nat.zero_le _, fun t2 n2 => ?_⟩
      have x2 := Ext.upd (o := .lst []) n2
      have hp2 := x2 _ _ hp1
      have hq2 := x2 _ _ hq1
      have fr2 := fr1.trans (Frm.ext x2)
      have c2 : (upd H2 t2 (.lst [])) t2 = some (.lst []) := upd_same
      generalize upd H2 t2 (.lst []) = H3 at hp2 hq2 fr2 c2 ⊢
      refine ⟨_, _, .lst (SqL.of hq2) (dp_ints xs), .lst (SqL.of c2) .nil, sh_ints xs, sh_ints [], ?_⟩
      rw [eqv_ints, decide_eq_true e0]
      refine ifF (by rfl) ?_
      -- mixed numbers
      refine ⟨_, _, .inl (SqL.of hp2), atI_nat (j := 2) rfl, p, _, _, 2, rfl, rfl, hp2, rfl, ?_⟩
      have hp3 : (upd H3 p (.lst ([V.ref q, V.int s0, V.int z0].set 2 (.int (z0 + 1))))) p = some (.lst [.ref q, .int s0, .int (z0 + 1)]) := upd_same
      have hq3 : (upd H3 p (.lst ([V.ref q, V.int s0, V.int z0].set 2 (.int (z0 + 1))))) q = some (.lst (xs.map V.int)) := by rw [upd_ne pq.symm]; exact hq2
      have fr3 := fr2.upd (p := p) (o := .lst ([V.ref q, V.int s0, V.int z0].set 2 (.int (z0 + 1)))) List.mem_cons_self
      generalize upd H3 p (.lst ([V.ref q, V.int s0, V.int z0].set 2 (.int (z0 + 1)))) = H4 at hp3 hq3 fr3 ⊢
      have b0 : 0 ≤ z0 + 1 := by omega
      have b1 : z0 + 1 < 2 ^ 64 := by omega
      have b2 : -(2 ^ 64) < z0 + 1 := by omega
      generalize hz : z0 + 1 = z at hp3 b0 b1 b2 ⊢
      refine ⟨_, _, .inl (SqL.of hp3), atI_nat (j := 1) rfl, _, _, .inl (SqL.of hp3), atI_nat (j := 1) rfl, mulW hs0 hs1 hs0 hs1 (by decide) (by decide) (by decide), _, _, .inl (SqL.of hp3), atI_nat (j := 2) rfl, mulL (by decide) (by decide), _, _, .inl (SqL.of hp3), atI_nat (j := 2) rfl, mulR b2 b1, ?_⟩
      dsimp only [mI0, gName, List.set]
      generalize s0 * s0 + 60101 * z * z = S1
      refine ⟨_, _, .inl (SqL.of hp3), atI_nat (j := 2) rfl, mulL (by decide) (by decide), (by show (0 : Int) < MOD; decide), p, _, _, 1, rfl, rfl, hp3, rfl, ?_⟩
      obtain ⟨m0, m1⟩ := mod_lt (a := S1 + 29 * z) (b := MOD) (by decide)
      generalize hs : (S1 + 29 * z) % MOD = s1 at m0 m1
      have hs' : (S1 + 29 * z) % 170141183460469231731687303715884105727 = s1 := hs
      dsimp only [List.set]
      rw [hs']
      have m2 : s1 < 2 ^ 127 := Int.lt_trans m1 (by decide)
      have hp4 : (upd H4 p (.lst [.ref q, .int s1, .int z])) p = some (.lst [.ref q, .int s1, .int z]) := upd_same
      have hq4 : (upd H4 p (.lst [.ref q, .int s1, .int z])) q = some (.lst (xs.map V.int)) := by rw [upd_ne pq.symm]; exact hq3
      have fr4 := fr3.upd (p := p) (o := .lst [.ref q, .int s1, .int z]) List.mem_cons_self
      generalize upd H4 p (.lst [.ref q, .int s1, .int z]) = H5 at hp4 hq4 fr4 ⊢
      refine ⟨_, _, .inl (SqL.of hp4), atI_nat (j := 1) rfl, _, _, .inl (SqL.of hp4), atI_nat (j := 1) rfl, mulW m0 m2 m0 m2 (by decide) (by decide) (by decide), _, _, .inl (SqL.of hp4), atI_nat (j := 2) rfl, mulL (by decide) (by decide), ?_⟩
      refine ⟨_, _, .inl (SqL.of hp4), atI_nat (j := 1) rfl, ⟨by decide, by decide, by decide⟩, mulW m0 m2 (b := 127) (by decide) (by decide) (by decide) (by decide) (by decide), (by show (0 : Int) < MOD; decide), ⟨by decide, by decide, by decide⟩, ⟨by decide, by decide +kernel⟩, by omega, ?_⟩
      exact k _ _ (mod_lt (by omega)).1 (mod_lt (by omega)).2 ⟨xs, s1, z, hp4, hq4, hx, hl, m0, m2, b0, by omega⟩ fr4
    · rw [decide_eq_false e0]
      refine ifT (by rfl) ?_
      obtain ⟨x, ys, rfl⟩ : ∃ x ys, xs = x :: ys := by
        cases xs with
        | nil => exact absurd rfl e0
        | cons x ys => exact ⟨x, ys, rfl⟩
      refine ⟨_, _, .inl (SqL.of hp1), atI_nat (j := 0) rfl, _, _, .inl (SqL.of hq1), atI_nat (j := 0) rfl, ?_⟩
      refine ifD (p := x < 2) (fun e1 => ?_) (fun e1 => ?_)
      · refine ⟨fun σ H' => σ = [some (.ref p), some (.int many), none, none] ∧ ∃ zs : List Int, zs.length = ys.length ∧ H' p = some (.lst [.ref q, .int s0, .int z0]) ∧ H' q = some (.lst (zs.map V.int)) ∧ (∀ x ∈ zs, 0 ≤ x) ∧ zs.length ≤ 40 ∧ Frm [p, q] H H', fun σ' H' w => ⟨ys.length, by simp, w⟩, ?_⟩
        refine ⟨_, _, .inl (SqL.of hp1), atI_nat (j := 0) rfl, .inl ⟨rfl, _, SqL.of hq1⟩, ?_⟩
        refine ⟨q, (x :: ys).map V.int, 0, 0, .int x, rfl, rfl, hq1, by decide, by decide, seq0 (by simp), rfl, ?_⟩
        refine ⟨rfl, ys, rfl, by rw [upd_ne pq]; exact hp1, by rw [upd_same]; rfl, fun z hz => hx z (List.mem_cons_of_mem _ hz), by simp at hl; omega, fr1.upd (List.mem_cons_of_mem _ List.mem_cons_self)⟩
      · -- a digit of the cell
        have hx0' := hx x List.mem_cons_self
        refine ⟨_, _, .inl (SqL.of hp1), atI_nat (j := 0) rfl, Nat.zero_le _, fun t2 n2 => ?_⟩
        have x2 := Ext.upd (o := .lst []) n2
        have hp2 := x2 _ _ hp1
        have hq2 := x2 _ _ hq1
        have fr2 := fr1.trans (Frm.ext x2)
        have c2 : (upd H2 t2 (.lst [])) t2 = some (.lst []) := upd_same
        generalize upd H2 t2 (.lst []) = H3 at hp2 hq2 fr2 c2 ⊢
        refine ⟨_, _, .lst (SqL.of hq2) (dp_ints (x :: ys)), .lst (SqL.of c2) .nil, sh_ints (x :: ys), sh_ints [], ?_⟩
        rw [eqv_ints, decide_eq_false e0]
        refine ifT (by rfl) ?_
        refine ⟨_, _, .inl (SqL.of hp2), atI_nat (j := 0) rfl, _, _, .inl (SqL.of hq2), atI_nat (j := 0) rfl, by omega, ?_⟩
        refine ⟨_, _, .inl (SqL.of hp2), atI_nat (j := 0) rfl, _, _, .inl (SqL.of hq2), atI_nat (j := 0) rfl, cdv_of _ hm1 hm2 (by decide) (by decide), ?_⟩
        refine ⟨_, _, .inl (SqL.of hp2), atI_nat (j := 0) rfl, q, _, _, 0, rfl, rfl, hq2, ix0 (by simp), ?_⟩
        refine k _ _ (mod_lt (by omega)).1 (mod_lt (by omega)).2 ⟨(x / many) :: ys, s0, z0, by rw [upd_ne pq]; exact hp2, upd_same, ?_, ?_, hs0, hs1, hz0, by omega⟩ (fr2.upd (List.mem_cons_of_mem _ List.mem_cons_self))
        · intro z hz
          rcases List.mem_cons.mp hz with rfl | hz
          · exact Int.ediv_nonneg hx0' (by omega)
          · exact hx z (List.mem_cons_of_mem _ hz)
        · simpa using hl
end
end NB

set_option Elab.async false
set_option linter.all false
set_option maxRecDepth 100000
set_option maxHeartbeats 4000000
/-! K4v (k81): an urn made, names and entries drawn -/
namespace NB
open PySem PySem.Spec L2
open PyProof.Rows (envOfC)
open C8 (pe_c pe_mk pe_mt pe_mt0 pe_gc fnScope fnBody fnArgs fnScope_by Cal Met Mak)
theorem atI_at {α : Type} {xs : List α} {k : Int} {v : α} (h0 : 0 ≤ k) (h : xs[k.toNat]? = some v) : atI xs k = some v := by
  have e : k = ((k.toNat : Nat) : Int) := by omega
  rw [e]
  exact atI_nat h
theorem tl_one (x : Nat) : tl (⟨#[x]⟩ : Str) = [x] := rfl
theorem map_take_int (xs : List Int) (n : Nat) : (xs.map V.int).take n = (xs.take n).map V.int := by rw [List.map_take]
section
variable {P : Program} {w : World} {K : PySem.W.Frag} {mg : Str → Option Value} {base : Heap} {cL cX : Addr}
theorem ok_urn (T : Blt mg) (D : Dx K mg "_law_urn" s__law_urn ["script"]) : Cal P w K mg base 1 "_law_urn" (spUrn K) [] := by
  refine cal_of D sc__law_urn (fun vs H Q E h => ?_) (fun f cdv A o s H vs Q E hr h => ?_)
  · obtain ⟨a, ns, rfl, _⟩ := h; rfl
  · obtain ⟨a, ns, rfl, hS, hn, k⟩ := h
    refine ⟨_, (pss_cons (ps_set (i := 1) sc__law_urn.nd rfl (Or.inl rfl) (pe_op m_pow pe_int pe_int))
    (pss_cons (ps_for PassesOwn.never rfl (pi_list (pe_slice sl_list (mv 0) po_none (po_some pe_int))) (pg_name (i := 2) sc__law_urn.nd rfl (Or.inl rfl))
    (pss_one (ps_set (i := 1) sc__law_urn.nd rfl (Or.inl rfl) (pe_op m_mod (pe_op m_add (pe_op m_mul (mv 1) pe_int) (mv 2)) pe_int))))
    (pss_one (ps_ret (pe_lst (pa_cons (pe_lc (own := [("cell", 2)]) (g := gName 2) rfl sc__law_urn.nd (pi_list (pe_slice sl_list (mv 0) po_none (po_some pe_int))) (blkOk_by (own := [("cell", 2)]) (N := ["script", "swirl", "cell"]) (sc := fnScope s__law_urn) (by decide +kernel)) (fun _ _ _ _ _ => (pg_name (i := 2) sc__law_urn.nd rfl (Or.inl rfl))) (fun _ _ _ _ _ => (pts_one (qt m_ge (pe_callB call_abs (by rfl) T.n_abs (by decide +kernel) (pa_cons (mv 2) pa_nil)) (pe_op m_pow pe_int pe_int) (nomark _)))) (fun _ _ _ _ _ => (pe_callB call_abs (by rfl) T.n_abs (by decide +kernel) (pa_cons (mv 2) pa_nil)))) (pa_cons (mv 1) (pa_cons pe_int pa_nil)))))))), ?_⟩
    refine ⟨⟨by decide, by decide, by decide⟩, _, rfl, a, _, rfl, hS, fun t nt => ?_⟩
    rw [cut_to (by decide), map_take_int]
    have x1 := Ext.upd (o := .lst ((ns.take (40 : Int).toNat).map V.int)) nt
    have ht : (upd H t (.lst ((ns.take (40 : Int).toNat).map V.int))) t = some (.lst ((ns.take (40 : Int).toNat).map V.int)) := upd_same
    generalize upd H t (.lst ((ns.take (40 : Int).toNat).map V.int)) = H1 at x1 ht ⊢
    refine ⟨t, rfl, ⟨_, SqL.of ht⟩, for_list (K := K) (a := t) (xs := (ns.take (40 : Int).toNat).map V.int) (fun i σ H' => ∃ s v2, σ = [some (.ref a), some (.int s), v2] ∧ 0 ≤ s ∧ s < 2 ^ 127 ∧ H' = H1) ⟨_, _, rfl, by decide, by decide, rfl⟩ ?_ ?_ ?_⟩
    · rintro i σ H' _ ⟨s, v2, rfl, _, _, rfl⟩; exact SqL.of ht
    · rintro i y σ H' hy ⟨s, v2, rfl, s0, s1, rfl⟩
      obtain ⟨c, hc, rfl⟩ := map_at hy
      refine ⟨mulR (by decide) (by decide), (by show (0 : Int) < MOD; decide), _, _, rfl, ?_, ?_, rfl⟩
      · exact (mod_lt (b := MOD) (by decide)).1
      · exact Int.lt_trans (mod_lt (b := MOD) (by decide)).2 (by decide)
    · rintro σ H' ⟨s, v2, rfl, s0, s1, rfl⟩
      refine ⟨_, rfl, a, _, rfl, SqL.ext hS x1, fun t2 nt2 => ?_⟩
      rw [cut_to (by decide), map_take_int]
      have x2' := Ext.upd (o := .lst ((ns.take (40 : Int).toNat).map V.int)) nt2
      have x2 := x1.trans x2'
      have ht2 : (upd H' t2 (.lst ((ns.take (40 : Int).toNat).map V.int))) t2 = some (.lst ((ns.take (40 : Int).toNat).map V.int)) := upd_same
      generalize upd H' t2 (.lst ((ns.take (40 : Int).toNat).map V.int)) = H2 at x2 ht2 ⊢
      refine ⟨t2, rfl, ⟨_, SqL.of ht2⟩, fun d hd => lc_list (K := K) (a := t2) (xs := (ns.take (40 : Int).toNat).map V.int) (fun i H' => Ext H2 H' ∧ ∃ zs : List Int, H' d = some (.lst (zs.map V.int)) ∧ zs.length ≤ i ∧ ∀ z ∈ zs, 0 ≤ z) ⟨Ext.upd hd, [], upd_same, Nat.le_refl _, (fun _ h => nomatch h)⟩ (fun i H1 _ t => SqL.of (t.1 _ _ ht2)) ?_ ?_⟩
      · rintro i y H3 hy ⟨x3, zs, hz, hl, hp⟩
        obtain ⟨c, hc, rfl⟩ := map_at hy
        have hi : i < 40 := by
          have := (List.getElem?_eq_some_iff.mp hc).1
          rw [List.length_take] at this
          have e : (40 : Int).toNat = 40 := rfl
          omega
        refine ⟨rfl, ?_⟩
        refine ⟨_, rfl, ⟨by decide, by decide, by decide⟩, ?_⟩
        refine ifD (fun h => ?_) (fun h => ?_)
        · refine ⟨_, rfl, _, hz, ?_, Ext.put_new x3 hd, zs ++ [if c < 0 then -c else c], ?_, ?_, ?_⟩
          · rw [List.length_map]; exact Nat.lt_of_le_of_lt (show zs.length ≤ 40 by omega) (by decide)
          · rw [upd_same, List.map_append]; rfl
          · rw [List.length_append, List.length_singleton]; omega
          · intro z hz2
            rcases List.mem_append.mp hz2 with hz2 | hz2
            · exact hp z hz2
            · rw [List.mem_singleton.mp hz2]; split <;> omega
        · exact ⟨x3, zs, hz, by omega, hp⟩
      · rintro H3 ⟨x3, zs, hz, hl, hp⟩
        refine ⟨(by show 3 ≤ sizeLine; decide), fun p np => ?_⟩
        have x4 := Ext.upd (o := .lst [.ref d, .int s, .int 0]) np
        refine k _ p d (Ext.free (x2.trans x3) np) (Ext.free x2 hd) ⟨zs, s, 0, upd_same, x4 _ _ hz, hp, ?_, s0, s1, by decide, by decide⟩ ((x2.trans x3).trans x4)
        have e : (40 : Int).toNat = 40 := rfl
        rw [List.length_map, List.length_take] at hl
        omega
end
end NB

set_option Elab.async false
set_option linter.all false
set_option maxRecDepth 100000
/-! K4d (k11): windows, in plain Lean; what facts hold -/
namespace NB
open PySem PySem.Spec L2
theorem snocI {α : Type} {P : List α → Prop} (h0 : P []) (h1 : ∀ xs x, P xs → P (xs ++ [x])) (xs : List α) : P xs := by
  have h : ∀ ys : List α, P ys.reverse := fun ys => by
    induction ys with
    | nil => exact h0
    | cons y ys ih => rw [List.reverse_cons]; exact h1 _ _ ih
  have := h xs.reverse
  rwa [List.reverse_reverse] at this
/-- the names with an entry of a block -/
def hol (sz : Int) (es : List (Str × Int)) (b : Int) : List Str := (es.filter fun e => decide (e.2 / sz = b)).map (·.1)
theorem hol_snoc (sz : Int) (es : List (Str × Int)) (e : Str × Int) (b : Int) : hol sz (es ++ [e]) b = if b = e.2 / sz then hol sz es b ++ [e.1] else hol sz es b := by
  unfold hol
  rw [List.filter_append, List.map_append]
  by_cases h : b = e.2 / sz
  · rw [if_pos h]; simp [h]
  · rw [if_neg h]
    have h' : ¬ e.2 / sz = b := fun z => h z.symm
    simp [h']
/-- index and block of a server's entries -/
def ownL (sz : Int) (z : Str) : Nat → List (Str × Int) → List (Nat × Int)
  | _, [] => []
  | i, e :: es => if e.1 = z then (i, e.2 / sz) :: ownL sz z (i + 1) es else ownL sz z (i + 1) es
theorem ownL_snoc (sz : Int) (z : Str) (e : Str × Int) : ∀ (es : List (Str × Int)) (i : Nat), ownL sz z i (es ++ [e]) = if e.1 = z then ownL sz z i es ++ [(i + es.length, e.2 / sz)] else ownL sz z i es
  | [], i => by
    show (if e.1 = z then [(i, e.2 / sz)] else []) = _
    split <;> simp [ownL]
  | y :: es, i => by
    have ih := ownL_snoc sz z e es (i + 1)
    show (if y.1 = z then (i, y.2 / sz) :: ownL sz z (i + 1) (es ++ [e]) else ownL sz z (i + 1) (es ++ [e])) = _
    have el : i + 1 + es.length = i + (y :: es).length := by simp; omega
    rw [ih, el]
    by_cases h : y.1 = z <;> by_cases h2 : e.1 = z <;> simp [ownL, h, h2]
theorem ownL_lt (sz : Int) (z : Str) : ∀ (es : List (Str × Int)) (i : Nat), ∀ p ∈ ownL sz z i es, p.1 < i + es.length
  | [], i, p, h => nomatch h
  | y :: es, i, p, h => by
    have ih := ownL_lt sz z es (i + 1)
    simp only [ownL] at h
    simp only [List.length_cons]
    split at h
    · rcases List.mem_cons.mp h with rfl | h
      · show i < _; omega
      · have := ih p h; omega
    · have := ih p h; omega
theorem ownL_len (sz : Int) (z : Str) : ∀ (es : List (Str × Int)) (i : Nat), (ownL sz z i es).length ≤ es.length
  | [], i => Nat.le_refl _
  | y :: es, i => by
    have ih := ownL_len sz z es (i + 1)
    simp only [ownL, List.length_cons]
    split
    · simp only [List.length_cons]; omega
    · omega
/-- the slots behind entries of lower blocks; the indices of entries of this or a higher one -/
def lows (sz : Int) (z : Str) (b : Int) (es : List (Str × Int)) : List Int := ((ownL sz z 0 es).filter fun p => decide (p.2 < b)).map fun p => (p.1 : Int) + 1
def highs (sz : Int) (z : Str) (b : Int) (es : List (Str × Int)) : List Int := ((ownL sz z 0 es).filter fun p => decide (b ≤ p.2)).map fun p => (p.1 : Int)
def lowW (sz : Int) (z : Str) (b : Int) : Nat → List (Str × Int) → Int → Int
  | _, [], a => a
  | i, e :: es, a => lowW sz z b (i + 1) es (if e.1 = z ∧ e.2 / sz < b then (i : Int) + 1 else a)
def highW (sz : Int) (z : Str) (b top : Int) : Nat → List (Str × Int) → Int → Int
  | _, [], a => a
  | i, e :: es, a => highW sz z b top (i + 1) es (if (e.1 = z ∧ b ≤ e.2 / sz) ∧ a = top then (i : Int) else a)
theorem lowW_snoc (sz : Int) (z : Str) (b : Int) (e : Str × Int) : ∀ (es : List (Str × Int)) (i : Nat) (a : Int), lowW sz z b i (es ++ [e]) a = if e.1 = z ∧ e.2 / sz < b then ((i + es.length : Nat) : Int) + 1 else lowW sz z b i es a
  | [], i, a => rfl
  | y :: es, i, a => by
    show lowW sz z b (i + 1) (es ++ [e]) _ = _
    rw [lowW_snoc sz z b e es (i + 1)]
    have el : i + 1 + es.length = i + (y :: es).length := by simp; omega
    rw [el]
    rfl
theorem highW_snoc (sz : Int) (z : Str) (b top : Int) (e : Str × Int) : ∀ (es : List (Str × Int)) (i : Nat) (a : Int), highW sz z b top i (es ++ [e]) a = if (e.1 = z ∧ b ≤ e.2 / sz) ∧ highW sz z b top i es a = top then ((i + es.length : Nat) : Int) else highW sz z b top i es a
  | [], i, a => rfl
  | y :: es, i, a => by
    show highW sz z b top (i + 1) (es ++ [e]) _ = _
    rw [highW_snoc sz z b top e es (i + 1)]
    have el : i + 1 + es.length = i + (y :: es).length := by simp; omega
    rw [el]
    rfl
/-- the window of a server for a block -/
def win (sz : Int) (es : List (Str × Int)) (z : Str) (b : Int) : Option (Int × Int) :=
  if (hol sz es b).any (fun y => decide (y ≠ z)) = true then none else some (lowW sz z b 0 es 0, highW sz z b es.length 0 es es.length)
theorem lows_snoc (sz : Int) (z : Str) (b : Int) (es : List (Str × Int)) (e : Str × Int) : lows sz z b (es ++ [e]) = if e.1 = z ∧ e.2 / sz < b then lows sz z b es ++ [(es.length : Int) + 1] else lows sz z b es := by
  unfold lows
  rw [ownL_snoc]
  by_cases h : e.1 = z
  · rw [if_pos h, List.filter_append, List.map_append]
    by_cases h2 : e.2 / sz < b <;> simp [h, h2]
  · rw [if_neg h, if_neg (fun q => h q.1)]
theorem highs_snoc (sz : Int) (z : Str) (b : Int) (es : List (Str × Int)) (e : Str × Int) : highs sz z b (es ++ [e]) = if e.1 = z ∧ b ≤ e.2 / sz then highs sz z b es ++ [(es.length : Int)] else highs sz z b es := by
  unfold highs
  rw [ownL_snoc]
  by_cases h : e.1 = z
  · rw [if_pos h, List.filter_append, List.map_append]
    by_cases h2 : b ≤ e.2 / sz <;> simp [h, h2]
  · rw [if_neg h, if_neg (fun q => h q.1)]
theorem lows_le (sz : Int) (z : Str) (b : Int) (es : List (Str × Int)) : ∀ y ∈ lows sz z b es, y ≤ es.length := fun y h => by
  obtain ⟨p, hp, rfl⟩ := List.mem_map.mp h
  have := ownL_lt sz z es 0 p (List.mem_filter.mp hp).1
  omega
theorem highs_lt (sz : Int) (z : Str) (b : Int) (es : List (Str × Int)) : ∀ y ∈ highs sz z b es, y < es.length := fun y h => by
  obtain ⟨p, hp, rfl⟩ := List.mem_map.mp h
  have := ownL_lt sz z es 0 p (List.mem_filter.mp hp).1
  omega
theorem low_is (sz : Int) (z : Str) (b : Int) (es : List (Str × Int)) : (lows sz z b es = [] ∧ lowW sz z b 0 es 0 = 0) ∨ (lowW sz z b 0 es 0 ∈ lows sz z b es ∧ ∀ y ∈ lows sz z b es, y ≤ lowW sz z b 0 es 0) := by
  refine snocI (P := fun es => (lows sz z b es = [] ∧ lowW sz z b 0 es 0 = 0) ∨ (lowW sz z b 0 es 0 ∈ lows sz z b es ∧ ∀ y ∈ lows sz z b es, y ≤ lowW sz z b 0 es 0)) (.inl ⟨rfl, rfl⟩) (fun es e ih => ?_) es
  rw [lows_snoc, lowW_snoc]
  by_cases h : e.1 = z ∧ e.2 / sz < b
  · rw [if_pos h, if_pos h]
    refine .inr ⟨by simp, fun y hy => ?_⟩
    rcases List.mem_append.mp hy with hy | hy
    · have := lows_le sz z b es y hy; omega
    · rw [List.mem_singleton.mp hy]; omega
  · rw [if_neg h, if_neg h]; exact ih
theorem high_is (sz : Int) (z : Str) (b top : Int) (es : List (Str × Int)) : es.length ≤ top → (highs sz z b es = [] ∧ highW sz z b top 0 es top = top) ∨ (highW sz z b top 0 es top ∈ highs sz z b es ∧ ∀ y ∈ highs sz z b es, highW sz z b top 0 es top ≤ y) := by
  refine snocI (P := fun es => (es.length : Int) ≤ top → (highs sz z b es = [] ∧ highW sz z b top 0 es top = top) ∨ (highW sz z b top 0 es top ∈ highs sz z b es ∧ ∀ y ∈ highs sz z b es, highW sz z b top 0 es top ≤ y)) (fun _ => .inl ⟨rfl, rfl⟩) (fun es e ih hl => ?_) es
  rw [List.length_append, List.length_singleton] at hl
  have ih := ih (by omega)
  rw [highs_snoc, highW_snoc]
  by_cases h : e.1 = z ∧ b ≤ e.2 / sz
  · rw [if_pos h]
    right
    rcases ih with ⟨i1, i2⟩ | ⟨i1, i2⟩
    · rw [i1, if_pos ⟨h, i2⟩]
      simp
    · have lt := highs_lt sz z b es _ i1
      rw [if_neg (fun q => by have := q.2; omega)]
      refine ⟨List.mem_append_left _ i1, fun y hy => ?_⟩
      rcases List.mem_append.mp hy with hy | hy
      · exact i2 y hy
      · rw [List.mem_singleton.mp hy]; omega
  · rw [if_neg h, if_neg (fun q => h q.1)]; exact ih
theorem low_max {sz : Int} {z : Str} {b : Int} {es : List (Str × Int)} {m : Int} (h1 : m ∈ lows sz z b es) (h2 : ∀ y, y ∈ lows sz z b es → y ≤ m) : m = lowW sz z b 0 es 0 := by
  rcases low_is sz z b es with ⟨i1, _⟩ | ⟨i1, i2⟩
  · rw [i1] at h1; cases h1
  · exact Int.le_antisymm (i2 _ h1) (h2 _ i1)
theorem low_nil {sz : Int} {z : Str} {b : Int} {es : List (Str × Int)} (h : lows sz z b es = []) : lowW sz z b 0 es 0 = 0 := by
  rcases low_is sz z b es with ⟨_, i2⟩ | ⟨i1, _⟩
  · exact i2
  · rw [h] at i1; cases i1
theorem high_min {sz : Int} {z : Str} {b : Int} {es : List (Str × Int)} {m : Int} (h1 : m ∈ highs sz z b es) (h2 : ∀ y, y ∈ highs sz z b es → m ≤ y) : m = highW sz z b es.length 0 es es.length := by
  rcases high_is sz z b es.length es (Int.le_refl _) with ⟨i1, _⟩ | ⟨i1, i2⟩
  · rw [i1] at h1; cases h1
  · exact Int.le_antisymm (h2 _ i1) (i2 _ h1)
theorem high_nil {sz : Int} {z : Str} {b : Int} {es : List (Str × Int)} (h : highs sz z b es = []) : highW sz z b es.length 0 es es.length = es.length := by
  rcases high_is sz z b es.length es (Int.le_refl _) with ⟨_, i2⟩ | ⟨i1, _⟩
  · exact i2
  · rw [h] at i1; cases i1
theorem low_bd (sz : Int) (z : Str) (b : Int) (es : List (Str × Int)) : 0 ≤ lowW sz z b 0 es 0 ∧ lowW sz z b 0 es 0 ≤ es.length := by
  rcases low_is sz z b es with ⟨_, i2⟩ | ⟨i1, _⟩
  · rw [i2]; omega
  · refine ⟨?_, lows_le sz z b es _ i1⟩
    obtain ⟨p, _, e⟩ := List.mem_map.mp i1
    rw [← e]; omega
theorem high_bd (sz : Int) (z : Str) (b : Int) (es : List (Str × Int)) : 0 ≤ highW sz z b es.length 0 es es.length ∧ highW sz z b es.length 0 es es.length ≤ es.length := by
  rcases high_is sz z b es.length es (Int.le_refl _) with ⟨_, i2⟩ | ⟨i1, _⟩
  · rw [i2]; omega
  · refine ⟨?_, by have := highs_lt sz z b es _ i1; omega⟩
    obtain ⟨p, _, e⟩ := List.mem_map.mp i1
    rw [← e]; omega
/-- nobody else has an entry of the block -/
theorem hol_free {sz : Int} {z : Str} {b : Int} {es : List (Str × Int)} : (hol sz es b).any (fun y => decide (y ≠ z)) = false ↔ ∀ e ∈ es, ¬ (e.1 ≠ z ∧ e.2 / sz = b) := by
  rw [List.any_eq_false]
  unfold hol
  constructor
  · intro h e he q
    refine h e.1 (List.mem_map.mpr ⟨e, List.mem_filter.mpr ⟨he, decide_eq_true q.2⟩, rfl⟩) (decide_eq_true q.1)
  · intro h y hy
    obtain ⟨e, he, rfl⟩ := List.mem_map.mp hy
    obtain ⟨h1, h2⟩ := List.mem_filter.mp he
    intro q
    exact h e h1 ⟨of_decide_eq_true q, of_decide_eq_true h2⟩
/-- a window stands at v -/
def WinV (H : Hp) : Option (Int × Int) → V → Prop
  | none, v => v = .non
  | some (i, j), v => ∃ p, v = .ref p ∧ H p = some (.tup [.int i, .int j])
theorem WinV.mono {H H' : Hp} {o : Option (Int × Int)} {v : V} (h : WinV H o v) (x : Ext H H') : WinV H' o v := by
  cases o with
  | none => exact h
  | some p => obtain ⟨a, rfl, q⟩ := h; exact ⟨a, rfl, x _ _ q⟩
/-! ### facts -/
def fF (a l lb hd od : Addr) (g : Int) : List (Str × V) := putF "greatest" (.int g) (putF "own" (.ref od) (putF "holders" (.ref hd) (putF "seen_blocks" (.ref lb) (putF "seen_entries" (.ref l) (putF "names" (.ref a) [])))))
theorem fF_ent (a l lb hd od : Addr) (g : Int) : (fF a l lb hd od g).lookup ("seen_entries" : Str) = some (.ref l) := by
  unfold fF
  rw [lookup_putF, if_neg (by decide +kernel), lookup_putF, if_neg (by decide +kernel), lookup_putF, if_neg (by decide +kernel), lookup_putF, if_neg (by decide +kernel), lookup_putF, if_pos rfl]
theorem fF_hol (a l lb hd od : Addr) (g : Int) : (fF a l lb hd od g).lookup ("holders" : Str) = some (.ref hd) := by
  unfold fF
  rw [lookup_putF, if_neg (by decide +kernel), lookup_putF, if_neg (by decide +kernel), lookup_putF, if_pos rfl]
theorem fF_own (a l lb hd od : Addr) (g : Int) : (fF a l lb hd od g).lookup ("own" : Str) = some (.ref od) := by
  unfold fF
  rw [lookup_putF, if_neg (by decide +kernel), lookup_putF, if_pos rfl]
theorem fF_nam (a l lb hd od : Addr) (g : Int) : (fF a l lb hd od g).lookup ("names" : Str) = some (.ref a) := by
  unfold fF
  rw [lookup_putF, if_neg (by decide +kernel), lookup_putF, if_neg (by decide +kernel), lookup_putF, if_neg (by decide +kernel), lookup_putF, if_neg (by decide +kernel), lookup_putF, if_neg (by decide +kernel), lookup_putF, if_pos rfl]
theorem fF_blk (a l lb hd od : Addr) (g : Int) : (fF a l lb hd od g).lookup ("seen_blocks" : Str) = some (.ref lb) := by
  unfold fF
  rw [lookup_putF, if_neg (by decide +kernel), lookup_putF, if_neg (by decide +kernel), lookup_putF, if_neg (by decide +kernel), lookup_putF, if_pos rfl]
theorem fF_no (a l lb hd od : Addr) (g : Int) {m : Str} (h1 : ¬ m = "greatest") (h2 : ¬ m = "own") (h3 : ¬ m = "holders") (h4 : ¬ m = "seen_blocks") (h5 : ¬ m = "seen_entries") (h6 : ¬ m = "names") : (fF a l lb hd od g).lookup m = none := by
  unfold fF
  rw [lookup_putF, if_neg h1, lookup_putF, if_neg h2, lookup_putF, if_neg h3, lookup_putF, if_neg h4, lookup_putF, if_neg h5, lookup_putF, if_neg h6]
  rfl
/-- a dict with a list for each name -/
def kvR (q : Str → Addr) (ns : List Str) : List (Key × V) := ns.map fun z => (Sum.inr z, V.ref (q z))
theorem valV_kvR {q : Str → Addr} {z : Str} : ∀ {ns : List Str}, valV (kvR q ns) (Sum.inr z) = if z ∈ ns then some (V.ref (q z)) else none
  | [] => rfl
  | y :: ns => by
    show valV ((Sum.inr y, V.ref (q y)) :: kvR q ns) (Sum.inr z) = _
    by_cases e : y = z
    · subst e
      rw [valV_pos rfl, if_pos List.mem_cons_self]
    · have ne : ¬ ((Sum.inr y : Key) = Sum.inr z) := fun h => e (Sum.inr.inj h)
      rw [valV_neg ne, valV_kvR]
      have : (z ∈ y :: ns) ↔ z ∈ ns := ⟨fun h => (List.mem_cons.mp h).elim (fun h => absurd h.symm e) id, List.mem_cons_of_mem _⟩
      by_cases m : z ∈ ns
      · rw [if_pos m, if_pos (this.mpr m)]
      · rw [if_neg m, if_neg (fun h => m (this.mp h))]
theorem kvR_congr {q q' : Str → Addr} {ns : List Str} (h : ∀ z ∈ ns, q z = q' z) : kvR q ns = kvR q' ns := List.map_congr_left fun z hz => by rw [h z hz]
/-- a pair (index, block) stands at v -/
def PairAt (H : Hp) (p : Nat × Int) (v : V) : Prop := ∃ t, v = .ref t ∧ H t = some (.tup [.int (p.1 : Nat), .int p.2])
theorem PairAt.st {H H' : Hp} {p : Nat × Int} {v : V} (h : PairAt H p v) (x : TupSt H H') : PairAt H' p v := by
  obtain ⟨t, e, q⟩ := h
  exact ⟨t, e, x _ _ q⟩
theorem pairs_st {H H' : Hp} {ps : List (Nat × Int)} {vs : List V} (h : Paired (PairAt H) ps vs) (x : TupSt H H') : Paired (PairAt H') ps vs := Paired.mapP h fun _ _ q => q.st x
/-- the tuple of names of a block -/
def HolAt (H : Hp) (o : Option V) (zs : List Str) : Prop := (zs = [] ∧ o = none) ∨ (zs ≠ [] ∧ ∃ t, o = some (.ref t) ∧ H t = some (.tup (zs.map V.str)))
theorem HolAt.st {H H' : Hp} {o : Option V} {zs : List Str} (h : HolAt H o zs) (x : TupSt H H') : HolAt H' o zs := by
  rcases h with h | ⟨h1, t, h2, h3⟩
  · exact .inl h
  · exact .inr ⟨h1, t, h2, x _ _ h3⟩
/-- the keys of a dict are these numbers -/
def KeysOk (kvs : List (Key × V)) (ks : List Int) : Prop := kvs.map (·.1) = ks.map Sum.inl ∧ ks.Nodup
theorem KeysOk.mem {kvs : List (Key × V)} {ks : List Int} (h : KeysOk kvs ks) (b : Int) : (kvs.any fun kv => decide (kv.1 = (Sum.inl b : Key))) = decide (b ∈ ks) := by
  have e : (kvs.any fun kv => decide (kv.1 = (Sum.inl b : Key))) = ((kvs.map (·.1)).any fun k => decide (k = (Sum.inl b : Key))) := by rw [List.any_map]; rfl
  rw [e, h.1, List.any_map, Bool.eq_iff_iff]
  simp only [List.any_eq_true, Function.comp, decide_eq_true_eq]
  exact ⟨fun ⟨x, hx, q⟩ => by rw [← Sum.inl.inj q]; exact hx, fun hx => ⟨b, hx, rfl⟩⟩
theorem KeysOk.put {kvs : List (Key × V)} {ks : List Int} (h : KeysOk kvs ks) (b : Int) (v : V) : KeysOk (putK kvs (Sum.inl b) v) (if b ∈ ks then ks else ks ++ [b]) := by
  unfold putK
  rw [h.mem b]
  by_cases m : b ∈ ks
  · rw [if_pos (decide_eq_true m), if_pos m]
    refine ⟨?_, h.2⟩
    rw [List.map_map, ← h.1]
    refine List.map_congr_left fun kv _ => ?_
    show (if kv.1 = Sum.inl b then (kv.1, v) else kv).1 = kv.1
    split <;> rfl
  · rw [if_neg (by simpa using m), if_neg m]
    refine ⟨?_, ?_⟩
    · rw [List.map_append, List.map_append, h.1]; rfl
    · rw [List.nodup_append]
      exact ⟨h.2, by simp, fun x hx y hy e => m (by rw [List.mem_singleton.mp hy] at e; rw [← e]; exact hx)⟩
/-- the two dicts of facts, for the first entries -/
structure FactsD (H : Hp) (hd od : Addr) (q : Str → Addr) (sz : Int) (ns : List Str) (pre : List (Str × Int)) : Prop where
  own : H od = some (.dK (kvR q ns))
  ls : ∀ z ∈ ns, ∃ ts, H (q z) = some (.lst ts) ∧ Paired (PairAt H) (ownL sz z 0 pre) ts
  inj : ∀ z ∈ ns, ∀ y ∈ ns, q z = q y → z = y
  hol : ∃ kvs ks, H hd = some (.dK kvs) ∧ KeysOk kvs ks ∧ (∀ b, b ∈ ks ↔ hol sz pre b ≠ []) ∧ kvs.length ≤ pre.length ∧ ∀ b : Int, HolAt H (valV kvs (Sum.inl b)) (hol sz pre b)
/-- facts of a log's entries stand at d -/
def FactsAt (C : Addr) (H : Hp) (d : Addr) (sz : Int) (ns : List Str) (es : List (Str × Int)) : Prop :=
  ∃ dx a l lb hd od g q xs, H d = some (.ins C dx (fF a l lb hd od g)) ∧ H l = some (.lst xs) ∧ EntL H es xs ∧ FactsD H hd od q sz ns es ∧ H a = some (.lst (ns.map V.str)) ∧ H lb = some (.lst ((es.map fun e => e.2 / sz).map V.int)) ∧ ∀ e ∈ es, e.2 / sz ≤ g
theorem FactsD.mono {H H' : Hp} {hd od : Addr} {q : Str → Addr} {sz : Int} {ns : List Str} {pre : List (Str × Int)} (h : FactsD H hd od q sz ns pre) (x : Ext H H') : FactsD H' hd od q sz ns pre := by
  obtain ⟨h1, h2, h3, kvs, ks, h4, h4a, h4b, h5, h6⟩ := h
  refine ⟨x _ _ h1, fun z hz => ?_, h3, kvs, ks, x _ _ h4, h4a, h4b, h5, fun b => (h6 b).st (TupSt.ext x)⟩
  obtain ⟨ts, g1, g2⟩ := h2 z hz
  exact ⟨ts, x _ _ g1, pairs_st g2 (TupSt.ext x)⟩
theorem FactsAt.mono {C : Addr} {H H' : Hp} {d : Addr} {sz : Int} {ns : List Str} {es : List (Str × Int)} (h : FactsAt C H d sz ns es) (x : Ext H H') : FactsAt C H' d sz ns es := by
  obtain ⟨dx, a, l, lb, hd, od, g, q, xs, h1, h2, h3, h4, h5, h6, h7⟩ := h
  exact ⟨dx, a, l, lb, hd, od, g, q, xs, x _ _ h1, x _ _ h2, h3.mono x, h4.mono x, x _ _ h5, x _ _ h6, h7⟩
/-- what the class of facts must have -/
structure FactC (K : PySem.W.Frag) (C : Addr) : Prop where
  cl : Cls K C
  nN : NoAttr K C "names"
  nE : NoAttr K C "seen_entries"
  nB : NoAttr K C "seen_blocks"
  nH : NoAttr K C "holders"
  nO : NoAttr K C "own"
  nG : NoAttr K C "greatest"
theorem pApp {α β : Type} {R : α → β → Prop} : ∀ {es fs : List α} {vs ws : List β}, Paired R es vs → Paired R fs ws → Paired R (es ++ fs) (vs ++ ws)
  | _, _, _, _, .nil, h => h
  | _, _, _, _, .cons r q, h => .cons r (pApp q h)
theorem pAt {α β : Type} {R : α → β → Prop} : ∀ {es : List α} {vs : List β} {i : Nat} {v : β}, Paired R es vs → vs[i]? = some v → ∃ e, es[i]? = some e ∧ R e v
  | _, _, i, v, .nil, h => by simp at h
  | _, _, 0, v, .cons (a := e) r q, h => by simp at h; subst h; exact ⟨e, rfl, r⟩
  | _, _, i + 1, v, .cons r q, h => by
    obtain ⟨e, h1, h2⟩ := pAt q (i := i) (v := v) (by simpa using h)
    exact ⟨e, by simpa using h1, h2⟩
theorem pLen {α β : Type} {R : α → β → Prop} : ∀ {es : List α} {vs : List β}, Paired R es vs → es.length = vs.length
  | _, _, .nil => rfl
  | _, _, .cons _ q => by rw [List.length_cons, List.length_cons, pLen q]
end NB

set_option Elab.async false
set_option linter.all false
set_option maxRecDepth 100000
/-! B19: max and min of a list of whole numbers with a default (its loops are printed by b19.py) -/
namespace NB
open PySem PySem.Spec PyProof.Rows L2
theorem args_maxD (a d : Value) : argsOk "max" ⟨[a], [(Str.ofString "default", d)]⟩ := by unfold argsOk; kernel_rfl
theorem args_minD (a d : Value) : argsOk "min" ⟨[a], [(Str.ofString "default", d)]⟩ := by unfold argsOk; kernel_rfl
section
variable {prog : Program} {w : World} {A : Around} {E : Value → Shared → Prop} {s : Shared}
theorem call_function_treeK {id : String} {b : Builtin} {args : List Value} {kw : List (Str × Value)} {Q : Value → Shared → Prop} (hk : builtinKind id = none) (hp : plainId id = true)
    (hb : entryFor table id = some b) (ha : argsOk id ⟨args, kw⟩)
    (hc : wpAny (model prog w) A.in1 (b ⟨args, kw⟩) (fun fin s' => match fin with
      | .done f => (match (Except.ok f : Result) with | .ok (.ret v) => Q v s' | .ok _ => False | .error e => E e s')
      | .again c' => c'.quiet = true ∧ codeAny (model prog w) A c' (fun r s' => match r with | .ok (.ret v) => Q v s' | .ok _ => False | .error e => E e s') s') E s) :
    wpAny (model prog w) A (call (.builtin id) args kw) Q E s := by
  refine wpAny_call (codeAny_call_builtin hp hb ?_)
  simp only [checkBuiltinCall, hk]
  cases hsig : Manifest.signature? id with
  | none => exact wpAny_pure hc
  | some sig =>
    simp only [argsOk, hsig] at ha
    have h2 : Bind.checkArgs id sig ⟨args, kw⟩ = pure () := ha
    show wpAny _ A.in1 (Bind.checkArgs id sig ⟨args, kw⟩) _ _ s
    rw [h2]; exact wpAny_pure hc
end
section
variable {prog : Program} {w : World} {A : Around} {R : Result → Shared → Prop} {I : Addr} {fp wr : List Addr} {n : Nat} {P : Nat → Value → Prop} {St : Nat → Heap → Prop} {kd : Str} {d : Value}
theorem maxD_loop (W : Walks prog w A.in1 I fp wr n P St) (bt : Nat → Nat → Bool) (hcmp : CmpOf prog w A.in1 .Gt P bt) (S : Addr) (hSf : S ∉ fp) :
    ∀ (k j : Nat) (s : Shared) (vb : Value) (c : Nat), n - (j + 1) = k → j + 1 ≤ n → St (j + 1) s.heap → P (argBest bt j) vb →
    s.heap.get? S = some { cls := .type "list", dict := none, data := .seq #[vb, vb] c, slots := #[] } →
    (∀ v h' tk, P (argBest bt (n - 1)) v → (∀ b o, b ∉ wr → b ≠ S → s.heap.get? b = some o → h'.get? b = some o) → R (.ok (.ret v)) { s with heap := h', toks := tk }) →
    codeAny (model prog w) A (.builtin "max.loop" ⟨[.ref I, .none, .ref S], [(kd, d)]⟩) R s := by
  have hSw : S ∉ wr := fun h => hSf (W.sub _ h)
  have hname : (toString "max" ++ toString ".loop" : String) = "max.loop" := by decide
  intro k
  induction k with
  | zero =>
    intro j s vb c hk hj hst hPb hS hR
    have hin : j + 1 = n := by omega
    refine codeAny_builtin F.entry_max_loop ?_
    rw [Around.under_plainId F.plain_max_loop _]
    show wpAny _ A.in1 (seqItems? (.ref S) >>= _) _ _ s
    refine wpAny_bind (wpAny_seqItems hS rfl ?_)
    show wpAny _ A.in1 (tryCatch (pyNext (.ref I)) _ >>= _) _ _ s
    refine wpAny_bind (wpAny_tryCatch (W.done s _ _ (hin ▸ hst) fun h' tk hk' => ?_))
    have hS' := hk' S _ hSw hS
    show wpAny _ A.in1 (updateSeq S (fun _ => #[]) >>= _) _ _ _
    refine wpAny_bind ?_
    refine wpAny_updateSeq hS' rfl (wpAny_bind (wpAny_letGo (wpAny_pure ?_)))
    refine hR vb _ tk (by rw [← hin]; exact hPb) fun b o hbw hbS e => (Heap.get?_update_other _ _ (Ne.symm hbS)).trans (hk' b o hbw e)
  | succ k ih =>
    intro j s vb c hk hj hst hPb hS hR
    have hlt : j + 1 < n := by omega
    refine codeAny_builtin F.entry_max_loop ?_
    rw [Around.under_plainId F.plain_max_loop _]
    show wpAny _ A.in1 (seqItems? (.ref S) >>= _) _ _ s
    refine wpAny_bind (wpAny_seqItems hS rfl ?_)
    show wpAny _ A.in1 (tryCatch (pyNext (.ref I)) _ >>= _) _ _ s
    refine wpAny_bind (wpAny_tryCatch (W.item (j + 1) s _ _ hlt hst fun v h' tk hP hst' hk' => ?_))
    have hS' := hk' S _ hSw hS
    show wpAny _ A.in1 (tryCatch (holding [v, v] (richCompare .Gt v vb >>= _)) _ >>= _) _ _ _
    refine wpAny_bind (wpAny_tryCatch (wpAny_holding (wpAny_bind (hcmp (j + 1) (argBest bt j) v vb _ _ _ hP hPb ?_))))
    refine wpAny_bind (wpAny_holding (wpAny_truthy_bool ?_))
    refine wpAny_bind (wpAny_letGo (wpAny_pure ?_))
    cases hb : bt (j + 1) (argBest bt j) with
    | true =>
      simp only [if_true]
      refine wpAny_bind ?_
      refine wpAny_updateSeq hS' rfl (wpAny_bind (wpAny_letGo ?_))
      rw [hname]
      refine wpAny_pure ⟨plainId_quiet F.plain_max_loop _, ih (j + 1) _ v _ (by omega) hlt (W.frame _ _ _ hst' fun b hbf o e => ?_) (by simp only [argBest, hb, if_true]; exact hP) (Heap.get?_update_self _ hS' rfl)
        fun v' h'' tk'' hP' hk'' => ?_⟩
      · exact (Heap.get?_update_other _ _ (fun h : S = b => hSf (by rw [h]; exact hbf))).trans e
      · exact hR v' h'' tk'' hP' fun b o hbw hbS e => hk'' b o hbw hbS ((Heap.get?_update_other _ _ (Ne.symm hbS)).trans (hk' b o hbw e))
    | false =>
      simp only [Bool.false_eq_true, if_false]
      refine wpAny_bind (wpAny_letGo ?_)
      rw [hname]
      refine wpAny_pure ⟨plainId_quiet F.plain_max_loop _, ih (j + 1) _ vb c (by omega) hlt hst' (by simp only [argBest, hb, Bool.false_eq_true, if_false]; exact hPb) hS' fun v' h'' tk'' hP' hk'' => ?_⟩
      exact hR v' h'' tk'' hP' fun b o hbw hbS e => hk'' b o hbw hbS (hk' b o hbw e)
theorem maxD_loop_first (W : Walks prog w A.in1 I fp wr n P St) (bt : Nat → Nat → Bool) (hcmp : CmpOf prog w A.in1 .Gt P bt) (S : Addr) (hSf : S ∉ fp) (hn : 0 < n) {s : Shared} {c : Nat} (hst : St 0 s.heap)
    (hS : s.heap.get? S = some { cls := .type "list", dict := none, data := .seq #[] c, slots := #[] })
    (hR : ∀ v h' tk, P (argBest bt (n - 1)) v → (∀ b o, b ∉ wr → b ≠ S → s.heap.get? b = some o → h'.get? b = some o) → R (.ok (.ret v)) { s with heap := h', toks := tk }) :
    codeAny (model prog w) A (.builtin "max.loop" ⟨[.ref I, .none, .ref S], [(kd, d)]⟩) R s := by
  have hSw : S ∉ wr := fun h => hSf (W.sub _ h)
  have hname : (toString "max" ++ toString ".loop" : String) = "max.loop" := by decide
  refine codeAny_builtin F.entry_max_loop ?_
  rw [Around.under_plainId F.plain_max_loop _]
  show wpAny _ A.in1 (seqItems? (.ref S) >>= _) _ _ s
  refine wpAny_bind (wpAny_seqItems hS rfl ?_)
  show wpAny _ A.in1 (tryCatch (pyNext (.ref I)) _ >>= _) _ _ s
  refine wpAny_bind (wpAny_tryCatch (W.item 0 s _ _ hn hst fun v h' tk hP hst' hk' => ?_))
  have hS' := hk' S _ hSw hS
  show wpAny _ A.in1 (updateSeq S (fun _ => #[v, v]) >>= _) _ _ _
  refine wpAny_bind ?_
  refine wpAny_updateSeq hS' rfl ?_
  rw [hname]
  refine wpAny_pure ⟨plainId_quiet F.plain_max_loop _, maxD_loop W bt hcmp S hSf _ 0 _ v _ rfl hn (W.frame _ _ _ hst' fun b hbf o e => ?_) hP (Heap.get?_update_self _ hS' rfl) fun v' h'' tk'' hP' hk'' => ?_⟩
  · exact (Heap.get?_update_other _ _ (fun h : S = b => hSf (by rw [h]; exact hbf))).trans e
  · exact hR v' h'' tk'' hP' fun b o hbw hbS e => hk'' b o hbw hbS ((Heap.get?_update_other _ _ (Ne.symm hbS)).trans (hk' b o hbw e))
theorem maxD_none (W : Walks prog w A.in1 I fp wr 0 P St) (S : Addr) (hSf : S ∉ fp) {s : Shared} {c : Nat} (hst : St 0 s.heap)
    (hS : s.heap.get? S = some { cls := .type "list", dict := none, data := .seq #[] c, slots := #[] })
    (hR : ∀ h' tk, (∀ b o, b ∉ wr → b ≠ S → s.heap.get? b = some o → h'.get? b = some o) → R (.ok (.ret d)) { s with heap := h', toks := tk }) :
    codeAny (model prog w) A (.builtin "max.loop" ⟨[.ref I, .none, .ref S], [(kd, d)]⟩) R s := by
  refine codeAny_builtin F.entry_max_loop ?_
  rw [Around.under_plainId F.plain_max_loop _]
  show wpAny _ A.in1 (seqItems? (.ref S) >>= _) _ _ s
  refine wpAny_bind (wpAny_seqItems hS rfl ?_)
  show wpAny _ A.in1 (tryCatch (pyNext (.ref I)) _ >>= _) _ _ s
  refine wpAny_bind (wpAny_tryCatch (W.done s _ _ hst fun h' tk hk' => ?_))
  refine wpAny_bind (wpAny_rule ?_)
  exact wpAny_pure (hR h' tk fun b o hbw _ e => hk' b o hbw e)
end
section
variable {prog : Program} {w : World} {A : Around} {E : Value → Shared → Prop} {s : Shared} {d : Value}
theorem tree_maxD (x d : Value) {Q : Value → Shared → Prop}
    (h : wpAny (model prog w) A.in1 (pyIter x) (fun it s₂ => ∃ I fp wr n P St bt, it = .ref I ∧ Walks prog w A.in1 I fp wr n P St ∧ St 0 s₂.heap ∧ (∀ b ∈ fp, b < s₂.heap.objs.size) ∧ CmpOf prog w A.in1 .Gt P bt ∧
      (0 < n → ∀ v h' tk, P (argBest bt (n - 1)) v → (∀ b o, b ∉ wr → s₂.heap.get? b = some o → h'.get? b = some o) → Q v { s₂ with heap := h', toks := tk }) ∧
      (n = 0 → ∀ h' tk, (∀ b o, b ∉ wr → s₂.heap.get? b = some o → h'.get? b = some o) → Q d { s₂ with heap := h', toks := tk })) E s) :
    wpAny (model prog w) A (call (.builtin "max") [x] [(Str.ofString "default", d)]) Q E s := by
  have hname : (toString "max" ++ toString ".loop" : String) = "max.loop" := by decide
  refine call_function_treeK F.kind_max F.plain_max F.entry_max (args_maxD _ _) ?_
  show wpAny _ A.in1 (Builtin.Builtins.bindParams "max" ["key", "default"] 0 ⟨[], [(Str.ofString "default", d)]⟩ >>= _) _ _ s
  refine wpAny_bind (wpAny_of_eq (show Builtin.Builtins.bindParams "max" ["key", "default"] 0 ⟨[], [(Str.ofString "default", d)]⟩ = pure [none, some d] from rfl) ?_)
  refine wpAny_bind (wpAny_pure ?_)
  refine wpAny_bind (wpAny_mono h (fun it s₂ h₂ => ?_) fun _ _ e => e)
  obtain ⟨I, fp, wr, n, P, St, bt, rfl, W, hst, hfp, hcmp, hQ, hQ0⟩ := h₂
  refine wpAny_bind (wpAny_newObj_type ?_)
  have hSf : s₂.heap.objs.size ∉ fp := fun hm => Nat.lt_irrefl _ (hfp _ hm)
  rw [hname]
  by_cases hn : 0 < n
  · refine wpAny_pure ⟨plainId_quiet F.plain_max_loop _, maxD_loop_first W bt hcmp s₂.heap.objs.size hSf hn (W.frame _ _ _ hst fun b _ o e => Heap.get?_push_of_some _ e) (Heap.get?_push_size _ rfl) fun v h' tk hP hk => ?_⟩
    exact hQ hn v h' tk hP fun b o hbw e => hk b o hbw (Nat.ne_of_lt (Heap.lt_size e)) (Heap.get?_push_of_some _ e)
  · obtain rfl : n = 0 := by omega
    refine wpAny_pure ⟨plainId_quiet F.plain_max_loop _, maxD_none W s₂.heap.objs.size hSf (W.frame _ _ _ hst fun b _ o e => Heap.get?_push_of_some _ e) (Heap.get?_push_size _ rfl) fun h' tk hk => ?_⟩
    exact hQ0 rfl h' tk fun b o hbw e => hk b o hbw (Nat.ne_of_lt (Heap.lt_size e)) (Heap.get?_push_of_some _ e)
end
section
variable {prog : Program} {w : World} {A : Around} {R : Result → Shared → Prop} {I : Addr} {fp wr : List Addr} {n : Nat} {P : Nat → Value → Prop} {St : Nat → Heap → Prop} {kd : Str} {d : Value}
theorem minD_loop (W : Walks prog w A.in1 I fp wr n P St) (bt : Nat → Nat → Bool) (hcmp : CmpOf prog w A.in1 .Lt P bt) (S : Addr) (hSf : S ∉ fp) :
    ∀ (k j : Nat) (s : Shared) (vb : Value) (c : Nat), n - (j + 1) = k → j + 1 ≤ n → St (j + 1) s.heap → P (argBest bt j) vb →
    s.heap.get? S = some { cls := .type "list", dict := none, data := .seq #[vb, vb] c, slots := #[] } →
    (∀ v h' tk, P (argBest bt (n - 1)) v → (∀ b o, b ∉ wr → b ≠ S → s.heap.get? b = some o → h'.get? b = some o) → R (.ok (.ret v)) { s with heap := h', toks := tk }) →
    codeAny (model prog w) A (.builtin "min.loop" ⟨[.ref I, .none, .ref S], [(kd, d)]⟩) R s := by
  have hSw : S ∉ wr := fun h => hSf (W.sub _ h)
  have hname : (toString "min" ++ toString ".loop" : String) = "min.loop" := by decide
  intro k
  induction k with
  | zero =>
    intro j s vb c hk hj hst hPb hS hR
    have hin : j + 1 = n := by omega
    refine codeAny_builtin F.entry_min_loop ?_
    rw [Around.under_plainId F.plain_min_loop _]
    show wpAny _ A.in1 (seqItems? (.ref S) >>= _) _ _ s
    refine wpAny_bind (wpAny_seqItems hS rfl ?_)
    show wpAny _ A.in1 (tryCatch (pyNext (.ref I)) _ >>= _) _ _ s
    refine wpAny_bind (wpAny_tryCatch (W.done s _ _ (hin ▸ hst) fun h' tk hk' => ?_))
    have hS' := hk' S _ hSw hS
    show wpAny _ A.in1 (updateSeq S (fun _ => #[]) >>= _) _ _ _
    refine wpAny_bind ?_
    refine wpAny_updateSeq hS' rfl (wpAny_bind (wpAny_letGo (wpAny_pure ?_)))
    refine hR vb _ tk (by rw [← hin]; exact hPb) fun b o hbw hbS e => (Heap.get?_update_other _ _ (Ne.symm hbS)).trans (hk' b o hbw e)
  | succ k ih =>
    intro j s vb c hk hj hst hPb hS hR
    have hlt : j + 1 < n := by omega
    refine codeAny_builtin F.entry_min_loop ?_
    rw [Around.under_plainId F.plain_min_loop _]
    show wpAny _ A.in1 (seqItems? (.ref S) >>= _) _ _ s
    refine wpAny_bind (wpAny_seqItems hS rfl ?_)
    show wpAny _ A.in1 (tryCatch (pyNext (.ref I)) _ >>= _) _ _ s
    refine wpAny_bind (wpAny_tryCatch (W.item (j + 1) s _ _ hlt hst fun v h' tk hP hst' hk' => ?_))
    have hS' := hk' S _ hSw hS
    show wpAny _ A.in1 (tryCatch (holding [v, v] (richCompare .Lt v vb >>= _)) _ >>= _) _ _ _
    refine wpAny_bind (wpAny_tryCatch (wpAny_holding (wpAny_bind (hcmp (j + 1) (argBest bt j) v vb _ _ _ hP hPb ?_))))
    refine wpAny_bind (wpAny_holding (wpAny_truthy_bool ?_))
    refine wpAny_bind (wpAny_letGo (wpAny_pure ?_))
    cases hb : bt (j + 1) (argBest bt j) with
    | true =>
      simp only [if_true]
      refine wpAny_bind ?_
      refine wpAny_updateSeq hS' rfl (wpAny_bind (wpAny_letGo ?_))
      rw [hname]
      refine wpAny_pure ⟨plainId_quiet F.plain_min_loop _, ih (j + 1) _ v _ (by omega) hlt (W.frame _ _ _ hst' fun b hbf o e => ?_) (by simp only [argBest, hb, if_true]; exact hP) (Heap.get?_update_self _ hS' rfl)
        fun v' h'' tk'' hP' hk'' => ?_⟩
      · exact (Heap.get?_update_other _ _ (fun h : S = b => hSf (by rw [h]; exact hbf))).trans e
      · exact hR v' h'' tk'' hP' fun b o hbw hbS e => hk'' b o hbw hbS ((Heap.get?_update_other _ _ (Ne.symm hbS)).trans (hk' b o hbw e))
    | false =>
      simp only [Bool.false_eq_true, if_false]
      refine wpAny_bind (wpAny_letGo ?_)
      rw [hname]
      refine wpAny_pure ⟨plainId_quiet F.plain_min_loop _, ih (j + 1) _ vb c (by omega) hlt hst' (by simp only [argBest, hb, Bool.false_eq_true, if_false]; exact hPb) hS' fun v' h'' tk'' hP' hk'' => ?_⟩
      exact hR v' h'' tk'' hP' fun b o hbw hbS e => hk'' b o hbw hbS (hk' b o hbw e)
theorem minD_loop_first (W : Walks prog w A.in1 I fp wr n P St) (bt : Nat → Nat → Bool) (hcmp : CmpOf prog w A.in1 .Lt P bt) (S : Addr) (hSf : S ∉ fp) (hn : 0 < n) {s : Shared} {c : Nat} (hst : St 0 s.heap)
    (hS : s.heap.get? S = some { cls := .type "list", dict := none, data := .seq #[] c, slots := #[] })
    (hR : ∀ v h' tk, P (argBest bt (n - 1)) v → (∀ b o, b ∉ wr → b ≠ S → s.heap.get? b = some o → h'.get? b = some o) → R (.ok (.ret v)) { s with heap := h', toks := tk }) :
    codeAny (model prog w) A (.builtin "min.loop" ⟨[.ref I, .none, .ref S], [(kd, d)]⟩) R s := by
  have hSw : S ∉ wr := fun h => hSf (W.sub _ h)
  have hname : (toString "min" ++ toString ".loop" : String) = "min.loop" := by decide
  refine codeAny_builtin F.entry_min_loop ?_
  rw [Around.under_plainId F.plain_min_loop _]
  show wpAny _ A.in1 (seqItems? (.ref S) >>= _) _ _ s
  refine wpAny_bind (wpAny_seqItems hS rfl ?_)
  show wpAny _ A.in1 (tryCatch (pyNext (.ref I)) _ >>= _) _ _ s
  refine wpAny_bind (wpAny_tryCatch (W.item 0 s _ _ hn hst fun v h' tk hP hst' hk' => ?_))
  have hS' := hk' S _ hSw hS
  show wpAny _ A.in1 (updateSeq S (fun _ => #[v, v]) >>= _) _ _ _
  refine wpAny_bind ?_
  refine wpAny_updateSeq hS' rfl ?_
  rw [hname]
  refine wpAny_pure ⟨plainId_quiet F.plain_min_loop _, minD_loop W bt hcmp S hSf _ 0 _ v _ rfl hn (W.frame _ _ _ hst' fun b hbf o e => ?_) hP (Heap.get?_update_self _ hS' rfl) fun v' h'' tk'' hP' hk'' => ?_⟩
  · exact (Heap.get?_update_other _ _ (fun h : S = b => hSf (by rw [h]; exact hbf))).trans e
  · exact hR v' h'' tk'' hP' fun b o hbw hbS e => hk'' b o hbw hbS ((Heap.get?_update_other _ _ (Ne.symm hbS)).trans (hk' b o hbw e))
theorem minD_none (W : Walks prog w A.in1 I fp wr 0 P St) (S : Addr) (hSf : S ∉ fp) {s : Shared} {c : Nat} (hst : St 0 s.heap)
    (hS : s.heap.get? S = some { cls := .type "list", dict := none, data := .seq #[] c, slots := #[] })
    (hR : ∀ h' tk, (∀ b o, b ∉ wr → b ≠ S → s.heap.get? b = some o → h'.get? b = some o) → R (.ok (.ret d)) { s with heap := h', toks := tk }) :
    codeAny (model prog w) A (.builtin "min.loop" ⟨[.ref I, .none, .ref S], [(kd, d)]⟩) R s := by
  refine codeAny_builtin F.entry_min_loop ?_
  rw [Around.under_plainId F.plain_min_loop _]
  show wpAny _ A.in1 (seqItems? (.ref S) >>= _) _ _ s
  refine wpAny_bind (wpAny_seqItems hS rfl ?_)
  show wpAny _ A.in1 (tryCatch (pyNext (.ref I)) _ >>= _) _ _ s
  refine wpAny_bind (wpAny_tryCatch (W.done s _ _ hst fun h' tk hk' => ?_))
  refine wpAny_bind (wpAny_rule ?_)
  exact wpAny_pure (hR h' tk fun b o hbw _ e => hk' b o hbw e)
end
section
variable {prog : Program} {w : World} {A : Around} {E : Value → Shared → Prop} {s : Shared} {d : Value}
theorem tree_minD (x d : Value) {Q : Value → Shared → Prop}
    (h : wpAny (model prog w) A.in1 (pyIter x) (fun it s₂ => ∃ I fp wr n P St bt, it = .ref I ∧ Walks prog w A.in1 I fp wr n P St ∧ St 0 s₂.heap ∧ (∀ b ∈ fp, b < s₂.heap.objs.size) ∧ CmpOf prog w A.in1 .Lt P bt ∧
      (0 < n → ∀ v h' tk, P (argBest bt (n - 1)) v → (∀ b o, b ∉ wr → s₂.heap.get? b = some o → h'.get? b = some o) → Q v { s₂ with heap := h', toks := tk }) ∧
      (n = 0 → ∀ h' tk, (∀ b o, b ∉ wr → s₂.heap.get? b = some o → h'.get? b = some o) → Q d { s₂ with heap := h', toks := tk })) E s) :
    wpAny (model prog w) A (call (.builtin "min") [x] [(Str.ofString "default", d)]) Q E s := by
  have hname : (toString "min" ++ toString ".loop" : String) = "min.loop" := by decide
  refine call_function_treeK F.kind_min F.plain_min F.entry_min (args_minD _ _) ?_
  show wpAny _ A.in1 (Builtin.Builtins.bindParams "min" ["key", "default"] 0 ⟨[], [(Str.ofString "default", d)]⟩ >>= _) _ _ s
  refine wpAny_bind (wpAny_of_eq (show Builtin.Builtins.bindParams "min" ["key", "default"] 0 ⟨[], [(Str.ofString "default", d)]⟩ = pure [none, some d] from rfl) ?_)
  refine wpAny_bind (wpAny_pure ?_)
  refine wpAny_bind (wpAny_mono h (fun it s₂ h₂ => ?_) fun _ _ e => e)
  obtain ⟨I, fp, wr, n, P, St, bt, rfl, W, hst, hfp, hcmp, hQ, hQ0⟩ := h₂
  refine wpAny_bind (wpAny_newObj_type ?_)
  have hSf : s₂.heap.objs.size ∉ fp := fun hm => Nat.lt_irrefl _ (hfp _ hm)
  rw [hname]
  by_cases hn : 0 < n
  · refine wpAny_pure ⟨plainId_quiet F.plain_min_loop _, minD_loop_first W bt hcmp s₂.heap.objs.size hSf hn (W.frame _ _ _ hst fun b _ o e => Heap.get?_push_of_some _ e) (Heap.get?_push_size _ rfl) fun v h' tk hP hk => ?_⟩
    exact hQ hn v h' tk hP fun b o hbw e => hk b o hbw (Nat.ne_of_lt (Heap.lt_size e)) (Heap.get?_push_of_some _ e)
  · obtain rfl : n = 0 := by omega
    refine wpAny_pure ⟨plainId_quiet F.plain_min_loop _, minD_none W s₂.heap.objs.size hSf (W.frame _ _ _ hst fun b _ o e => Heap.get?_push_of_some _ e) (Heap.get?_push_size _ rfl) fun h' tk hk => ?_⟩
    exact hQ0 rfl h' tk fun b o hbw e => hk b o hbw (Nat.ne_of_lt (Heap.lt_size e)) (Heap.get?_push_of_some _ e)
end
section
variable {prog : Program} {w : World} {A : Around} {E : Value → Shared → Prop} {s : Shared} {l : Addr} {its : List Value} {ns : List Int} {d : Value} {Q : Value → Shared → Prop}
theorem maxD_raw (hh : A.handled = none) (hl : s.heap.IsList l its.toArray) (hi : IntsAre its ns)
    (h : ns ≠ [] → ∀ h' tk M t', (∀ b o, s.heap.get? b = some o → h'.get? b = some o) → M ∈ ns → (∀ a, a ∈ ns → a ≤ M) → Q (.int M t') { s with heap := h', toks := tk })
    (h0 : ns = [] → ∀ h' tk, (∀ b o, s.heap.get? b = some o → h'.get? b = some o) → Q d { s with heap := h', toks := tk }) : wpAny (model prog w) A (call (.builtin "max") [.ref l] [(Str.ofString "default", d)]) Q E s := by
  obtain ⟨xs, e⟩ := hi.allInts.items
  have hn : numsOf (intItems xs).toList = ns := by rw [← e]; exact hi.numsOf
  rw [nums_intItems] at hn
  subst hn
  rw [e] at hl
  refine tree_maxD _ _ (iter_intList hl fun s₂ e st hfp hlI => ?_)
  subst e
  refine ⟨_, _, _, _, _, _, _, rfl, Walks.list (A := A.in1) hh _ l hlI (intItems xs), st, hfp, CmpOf.ints_gt (numAt xs) (fun _ _ => intItems_at), fun hn v h' tk hP hk => ?_, fun hn h' tk hk => ?_⟩
  · have hsz : 0 < xs.size := by simpa [intItems] using hn
    have es : (intItems xs).size = xs.size := by simp [intItems]
    rw [es] at hP
    obtain ⟨t, rfl⟩ := intItems_at hP
    obtain ⟨h1, h2⟩ := argBest_gt (numAt xs) (xs.size - 1)
    refine h (fun z => ?_) h' tk _ t (old_kept hk) ?_ fun a ha => ?_
    · have := congrArg List.length z
      simp only [List.length_map, Array.length_toList, List.length_nil] at this
      omega
    · rw [numAt_eq]; exact PySem.getD_mem (by rw [List.length_map, Array.length_toList]; omega)
    · obtain ⟨j, hj, rfl⟩ := mem_getD ha
      rw [List.length_map, Array.length_toList] at hj
      rw [← numAt_eq]; exact h2 j (by omega)
  · have hsz : xs.size = 0 := by simpa [intItems] using hn
    refine h0 ?_ h' tk (old_kept hk)
    have : xs.toList.length = 0 := by rw [Array.length_toList]; exact hsz
    rw [List.length_eq_zero_iff.mp this]
    rfl
theorem minD_raw (hh : A.handled = none) (hl : s.heap.IsList l its.toArray) (hi : IntsAre its ns)
    (h : ns ≠ [] → ∀ h' tk M t', (∀ b o, s.heap.get? b = some o → h'.get? b = some o) → M ∈ ns → (∀ a, a ∈ ns → M ≤ a) → Q (.int M t') { s with heap := h', toks := tk })
    (h0 : ns = [] → ∀ h' tk, (∀ b o, s.heap.get? b = some o → h'.get? b = some o) → Q d { s with heap := h', toks := tk }) : wpAny (model prog w) A (call (.builtin "min") [.ref l] [(Str.ofString "default", d)]) Q E s := by
  obtain ⟨xs, e⟩ := hi.allInts.items
  have hn : numsOf (intItems xs).toList = ns := by rw [← e]; exact hi.numsOf
  rw [nums_intItems] at hn
  subst hn
  rw [e] at hl
  refine tree_minD _ _ (iter_intList hl fun s₂ e st hfp hlI => ?_)
  subst e
  refine ⟨_, _, _, _, _, _, _, rfl, Walks.list (A := A.in1) hh _ l hlI (intItems xs), st, hfp, CmpOf.ints_lt (numAt xs) (fun _ _ => intItems_at), fun hn v h' tk hP hk => ?_, fun hn h' tk hk => ?_⟩
  · have hsz : 0 < xs.size := by simpa [intItems] using hn
    have es : (intItems xs).size = xs.size := by simp [intItems]
    rw [es] at hP
    obtain ⟨t, rfl⟩ := intItems_at hP
    obtain ⟨h1, h2⟩ := argBest_lt (numAt xs) (xs.size - 1)
    refine h (fun z => ?_) h' tk _ t (old_kept hk) ?_ fun a ha => ?_
    · have := congrArg List.length z
      simp only [List.length_map, Array.length_toList, List.length_nil] at this
      omega
    · rw [numAt_eq]; exact PySem.getD_mem (by rw [List.length_map, Array.length_toList]; omega)
    · obtain ⟨j, hj, rfl⟩ := mem_getD ha
      rw [List.length_map, Array.length_toList] at hj
      rw [← numAt_eq]; exact h2 j (by omega)
  · have hsz : xs.size = 0 := by simpa [intItems] using hn
    refine h0 ?_ h' tk (old_kept hk)
    have : xs.toList.length = 0 := by rw [Array.length_toList]; exact hsz
    rw [List.length_eq_zero_iff.mp this]
    rfl
end
section
variable {X : Cx}
/-- max(xs, default=d), min(xs, default=d) -/
def rMaxD (K : PySem.W.Frag) : List V → List V → Hp → VK → Prop := fun vs zs H Q => ∃ (a : Addr) (ns : List Int) (d : V), vs = [V.ref a] ∧ zs = [d] ∧ SqL K H a (ns.map V.int) ∧ (ns = [] → Q d H) ∧ ∀ m, m ∈ ns → (∀ y, y ∈ ns → y ≤ m) → Q (.int m) H
def rMinD (K : PySem.W.Frag) : List V → List V → Hp → VK → Prop := fun vs zs H Q => ∃ (a : Addr) (ns : List Int) (d : V), vs = [V.ref a] ∧ zs = [d] ∧ SqL K H a (ns.map V.int) ∧ (ns = [] → Q d H) ∧ ∀ m, m ∈ ns → (∀ y, y ∈ ns → m ≤ y) → Q (.int m) H
theorem cr_maxD (hc : X.calm = true) : CallRK X (.builtin "max") [Str.ofString "default"] (rMaxD X.K) := by
  intro pins s σ H vs zs us ws Q I r rz h
  obtain ⟨a, ns, d, rfl, rfl, hs, q0, q⟩ := h
  obtain ⟨its, rv, hl, _⟩ := I.list hs
  obtain rfl := Vals.ref1 r
  obtain ⟨w1, rfl, e1⟩ := vals1 rz
  exact maxD_raw (I.ok.hd hc) hl.isList rv.ints (fun _ h' tk m t' hk h1 h2 => ⟨.int _, H, I.kept hk, ⟨_, rfl⟩, q m h1 h2⟩) fun z h' tk hk => ⟨d, H, I.kept hk, e1, q0 z⟩
theorem cr_minD (hc : X.calm = true) : CallRK X (.builtin "min") [Str.ofString "default"] (rMinD X.K) := by
  intro pins s σ H vs zs us ws Q I r rz h
  obtain ⟨a, ns, d, rfl, rfl, hs, q0, q⟩ := h
  obtain ⟨its, rv, hl, _⟩ := I.list hs
  obtain rfl := Vals.ref1 r
  obtain ⟨w1, rfl, e1⟩ := vals1 rz
  exact minD_raw (I.ok.hd hc) hl.isList rv.ints (fun _ h' tk m t' hk h1 h2 => ⟨.int _, H, I.kept hk, ⟨_, rfl⟩, q m h1 h2⟩) fun z h' tk hk => ⟨d, H, I.kept hk, e1, q0 z⟩
end
end NB

set_option Elab.async false
set_option linter.all false
set_option maxRecDepth 100000
set_option maxHeartbeats 4000000
/-! K4e (k11): the window that facts tell -/
namespace NB
open PySem PySem.Spec L2
open PyProof.Rows (envOfC)
open C8 (pe_c pe_mk pe_mt pe_mt0 pe_gc fnScope fnBody fnArgs fnScope_by Cal Met Mak)
/-- the part of a list of pairs that a comprehension keeps -/
def pick (c : Int → Bool) (g : Nat → Int) (ps : List (Nat × Int)) : List Int := (ps.filter fun p => c p.2).map fun p => g p.1
theorem pick_snoc (c : Int → Bool) (g : Nat → Int) (ps : List (Nat × Int)) (p : Nat × Int) : pick c g (ps ++ [p]) = if c p.2 = true then pick c g ps ++ [g p.1] else pick c g ps := by
  unfold pick
  rw [List.filter_append, List.map_append]
  by_cases h : c p.2 = true <;> simp [h]
theorem pick_len (c : Int → Bool) (g : Nat → Int) (ps : List (Nat × Int)) : (pick c g ps).length ≤ ps.length := by
  unfold pick
  rw [List.length_map]
  exact List.length_filter_le _ _
theorem put_ext {H0 H1 : Hp} {D : Addr} {o : HO} (x : Ext H0 H1) (n : H0 D = none) : Ext H0 (upd H1 D o) := fun b u h => by
  rw [upd_ne (ne_of_none h n)]; exact x b u h
def spWinOf (C : Addr) : Sp := fun vs H Q _ => ∃ d sz ns es z b, vs = [.ref d, .str z, .int b] ∧ FactsAt C H d sz ns es ∧ z ∈ ns ∧ es.length ≤ 200 ∧ ∀ H' v, Ext H H' → WinV H' (win sz es z b) v → Q v H'
structure Tb (mg : Str → Option Value) : Prop extends Blt mg where
  n_any : mg "any" = none
  n_enumerate : mg "enumerate" = none
section
variable {P : Program} {w : World} {K : PySem.W.Frag} {mg : Str → Option Value} {base : Heap} {C : Addr}
theorem ok_winOf (T : Tb mg) (L : FactC K C) {f : Addr} {fd : FuncData} (D : Mx K "window_of" "Facts.window_of" s_Facts_window_of ["self", "server", "block"] f fd) : FnOk P w K mg base C8.CX0 1 f fd ["self", "server", "block"] (spWinOf C) := by
  refine fn_of' D sc_Facts_window_of (fun vs H Q E h => ?_) (fun cdv A o s H vs Q E hr h => ?_)
  · obtain ⟨d, sz, ns, es, z, b, rfl, _⟩ := h; rfl
  · obtain ⟨d, sz, ns, es, z, b, rfl, ⟨dx, a, l, lb, hd, od, g, q, xs, hi, hl, el, fd, _, _⟩, hz, he, k⟩ := h
    obtain ⟨ho, hls, inj, kvs, ks, hk, _, _, hkl, hh⟩ := fd
    refine ⟨_, (pss_cons (ps_if (qv (pe_callB (cr_any rfl) (by rfl) T.n_any (by decide +kernel) (pa_cons (pe_lc (own := [("holder", 3)]) (g := gName 3) (tt := tYes) rfl sc_Facts_window_of.nd (pi_tup (pe_dget2 (u2 hr) (pe_fld (mv 0) rfl) (mv 2) (pe_tup pa_nil) ⟨rfl, rfl, rfl, rfl⟩)) (blkOk_by (own := [("holder", 3)]) (N := ["self", "server", "block", "holder", "low", "index", "other", "high"]) (sc := fnScope s_Facts_window_of) (by decide +kernel)) (fun _ _ _ _ _ => (pg_name (i := 3) sc_Facts_window_of.nd rfl (Or.inl rfl))) (fun _ _ _ _ _ => pts_nil) (fun _ _ _ _ _ => (pe_cmpR m_ne (mv 3) (mv 1) (nomark _)))) pa_nil))) (pss_one (ps_ret pe_non)) pss_nil)
    (C8.pss_cut (ps_set (i := 4) sc_Facts_window_of.nd rfl (Or.inl rfl) (pe_callBK (cr_maxD rfl) (by rfl) T.n_max (by decide +kernel) (pa_cons (pe_lc (own := [("index", 5), ("other", 6)]) (g := gTup K 2 (gCons (gName 5) (gCons (gName 6) gNil))) rfl sc_Facts_window_of.nd (pi_list (pe_dget (u2 hr) (pe_fld (mv 0) rfl) (mv 1) (fun _ _ => rfl))) (blkOk_by (own := [("index", 5), ("other", 6)]) (N := ["self", "server", "block", "holder", "low", "index", "other", "high"]) (sc := fnScope s_Facts_window_of) (by decide +kernel)) (fun _ _ _ _ _ => (pg_tup rfl (pgs_cons (pg_name (i := 5) sc_Facts_window_of.nd rfl (Or.inl rfl)) (pgs_cons (pg_name (i := 6) sc_Facts_window_of.nd rfl (Or.inl rfl)) pgs_nil)))) (fun _ _ _ _ _ => (pts_one (qt m_lt (mv 6) (mv 2) (nomark _)))) (fun _ _ _ _ _ => (pe_op m_add (mv 5) pe_int))) pa_nil) (pk_cons pe_int pk_nil)))
    (C8.pss_cut (ps_set (i := 7) sc_Facts_window_of.nd rfl (Or.inl rfl) (pe_callBK (cr_minD rfl) (by rfl) T.n_min (by decide +kernel) (pa_cons (pe_lc (own := [("index", 5), ("other", 6)]) (g := gTup K 2 (gCons (gName 5) (gCons (gName 6) gNil))) rfl sc_Facts_window_of.nd (pi_list (pe_dget (u2 hr) (pe_fld (mv 0) rfl) (mv 1) (fun _ _ => rfl))) (blkOk_by (own := [("index", 5), ("other", 6)]) (N := ["self", "server", "block", "holder", "low", "index", "other", "high"]) (sc := fnScope s_Facts_window_of) (by decide +kernel)) (fun _ _ _ _ _ => (pg_tup rfl (pgs_cons (pg_name (i := 5) sc_Facts_window_of.nd rfl (Or.inl rfl)) (pgs_cons (pg_name (i := 6) sc_Facts_window_of.nd rfl (Or.inl rfl)) pgs_nil)))) (fun _ _ _ _ _ => (pts_one (qt m_ge (mv 6) (mv 2) (nomark _)))) (fun _ _ _ _ _ => (mv 5))) pa_nil) (pk_cons (pe_callB call_len (by rfl) T.n_len (by decide +kernel) (pa_cons (pe_fld (mv 0) rfl) pa_nil)) pk_nil)))
    (pss_one (ps_ret (pe_tup (pa_cons (mv 4) (pa_cons (mv 7) pa_nil)))))))), ?_⟩
    refine ⟨d, C, dx, _, _, rfl, hi, L.cl, L.nH, fF_hol _ _ _ _ _ _, hd, rfl, .inl ⟨kvs, .inl hk⟩, (Nat.zero_le _), fun t0 n0 => ?_⟩
    have x0 := Ext.upd (o := .tup []) n0
    have c0 : (upd H t0 (.tup [])) t0 = some (.tup []) := upd_same
    generalize upd H t0 (.tup []) = H1 at x0 c0 ⊢
    refine ⟨valV kvs (Sum.inl b), DGet.k (k := Sum.inl b) (x0 _ _ hk), ?_⟩
    obtain ⟨t1, e1, h1⟩ : ∃ t1, (valV kvs (Sum.inl b)).getD (.ref t0) = .ref t1 ∧ H1 t1 = some (.tup ((hol sz es b).map V.str)) := by
      rcases hh b with ⟨e, e2⟩ | ⟨_, t, e2, e3⟩
      · exact ⟨t0, by rw [e2]; rfl, by rw [e]; exact c0⟩
      · exact ⟨t, by rw [e2]; rfl, x0 _ _ e3⟩
    rw [e1]
    refine ⟨t1, rfl, ⟨_, SqT.of h1⟩, fun dl nD => lc_tup (K := K) (a := t1) (xs := (hol sz es b).map V.str) (fun i H' => Ext H1 H' ∧ H' dl = some (.lst ((((hol sz es b).take i).map fun y => decide (y ≠ z)).map V.bl))) ⟨Ext.upd nD, upd_same⟩ (fun i H' _ t => SqT.of (t.1 _ _ h1)) ?_ ?_⟩
    · rintro i y H2 hy ⟨x2, hD⟩
      obtain ⟨v, hv, rfl⟩ : ∃ v, (hol sz es b)[i]? = some v ∧ V.str v = y := by
        rw [List.getElem?_map] at hy
        exact Option.map_eq_some_iff.mp hy
      have hi2 : i < (hol sz es b).length := (List.getElem?_eq_some_iff.mp hv).1
      have hl2 : (hol sz es b).length ≤ 200 := by
        unfold hol
        rw [List.length_map]
        exact Nat.le_trans (List.length_filter_le _ _) he
      refine ⟨rfl, goY (ifT (by rfl) ?_)⟩
      refine ⟨_, hD, ?_, put_ext x2 nD, ?_⟩
      · rw [List.length_map, List.length_map]
        exact Nat.lt_of_le_of_lt (List.length_take_le _ _) (Nat.lt_of_le_of_lt (show i ≤ 200 by omega) (by decide))
      · rw [upd_same, List.take_succ, hv, List.map_append, List.map_append]
        simp
    rintro H2 ⟨x2, hD⟩
    rw [List.length_map, List.take_length] at hD
    refine ⟨dl, _, rfl, SqL.of hD, ?_⟩
    have x02 := x0.trans x2
    have ea : ((hol sz es b).map fun y => decide (y ≠ z)).any id = (hol sz es b).any (fun y => decide (y ≠ z)) := by rw [List.any_map]; rfl
    rw [ea]
    by_cases ec : (hol sz es b).any (fun y => decide (y ≠ z)) = true
    · refine ifT ec ?_
      refine k _ _ x02 ?_
      unfold win
      rw [if_pos ec]
      exact rfl
    · refine ifF (by simpa using ec) ?_
      obtain ⟨ts, hts, pts⟩ := hls z hz
      have dg : ∀ {G : Hp}, Ext H G → DGet G od (.str z) (some (.ref (q z))) := fun {G} x => by
        have := DGet.k (k := (Sum.inr z : Key)) (x _ _ ho)
        rw [valV_kvR, if_pos hz] at this
        exact this
      have psl : (ownL sz z 0 es).length ≤ 200 := Nat.le_trans (ownL_len sz z es 0) he
      refine ⟨fun σ H' => σ = [some (.ref d), some (.str z), some (.int b), none, some (.int (lowW sz z b 0 es 0)), none, none, none] ∧ Ext H H', ?_, ?_⟩
      · refine ⟨d, C, dx, _, _, rfl, x02 _ _ hi, L.cl, L.nO, fF_own _ _ _ _ _ _, od, _, rfl, dg x02, ?_⟩
        refine ⟨q z, rfl, ⟨_, SqL.of (x02 _ _ hts)⟩, fun d1 nd1 => lc_list (K := K) (a := q z) (xs := ts) (fun i H' => Ext H2 H' ∧ H' d1 = some (.lst ((pick (fun y => decide (y < b)) (fun y => (y : Int) + 1) ((ownL sz z 0 es).take i)).map V.int))) ⟨Ext.upd nd1, upd_same⟩ (fun i H' _ t => SqL.of (t.1 _ _ (x02 _ _ hts))) ?_ ?_⟩
        · rintro i y H3 hy ⟨x3, hd3⟩
          obtain ⟨p, hp, t, rfl, ht⟩ := pAt pts hy
          refine ⟨t, _, rfl, SqT.of ((x02.trans x3) _ _ ht), rfl, _, _, rfl, _, _, rfl, rfl, rfl, ?_⟩
          have e1 : (ownL sz z 0 es).take (i + 1) = (ownL sz z 0 es).take i ++ [p] := by rw [List.take_succ, hp]; rfl
          have lt : (pick (fun y => decide (y < b)) (fun y => (y : Int) + 1) ((ownL sz z 0 es).take i)).length < sizeLine := Nat.lt_of_le_of_lt (Nat.le_trans (pick_len _ _ _) (Nat.le_trans (List.length_take_le' _ _) psl)) (by decide)
          refine ifD (p := p.2 < b) (fun h => ?_) (fun h => ?_)
          · refine ⟨_, hd3, by rw [List.length_map]; exact lt, put_ext x3 nd1, ?_⟩
            rw [upd_same, e1, pick_snoc, if_pos (decide_eq_true h), List.map_append]; rfl
          · refine ⟨x3, ?_⟩
            rw [e1, pick_snoc, if_neg (by simpa using h)]; exact hd3
        rintro H3 ⟨x3, hd3⟩
        rw [← pLen pts, List.take_length] at hd3
        have x03 := x02.trans x3
        refine ⟨d1, lows sz z b es, _, rfl, rfl, SqL.of hd3, fun e => ?_, fun m h1 h2 => ?_⟩
        · exact ⟨by rw [low_nil e]; rfl, x03⟩
        · exact ⟨by rw [low_max h1 h2]; rfl, x03⟩
      clear x02 x2 hD x0 c0 e1 h1 nD n0
      rintro σ H4 ⟨rfl, x02⟩
      refine ⟨fun σ H' => σ = [some (.ref d), some (.str z), some (.int b), none, some (.int (lowW sz z b 0 es 0)), none, none, some (.int (highW sz z b es.length 0 es es.length))] ∧ Ext H H', ?_, ?_⟩
      · refine ⟨d, C, dx, _, _, rfl, x02 _ _ hi, L.cl, L.nO, fF_own _ _ _ _ _ _, od, _, rfl, dg x02, ?_⟩
        refine ⟨q z, rfl, ⟨_, SqL.of (x02 _ _ hts)⟩, fun d1 nd1 => lc_list (K := K) (a := q z) (xs := ts) (fun i H' => Ext H4 H' ∧ H' d1 = some (.lst ((pick (fun y => decide (b ≤ y)) (fun y => (y : Int)) ((ownL sz z 0 es).take i)).map V.int))) ⟨Ext.upd nd1, upd_same⟩ (fun i H' _ t => SqL.of (t.1 _ _ (x02 _ _ hts))) ?_ ?_⟩
        · rintro i y H5 hy ⟨x3, hd3⟩
          obtain ⟨p, hp, t, rfl, ht⟩ := pAt pts hy
          refine ⟨t, _, rfl, SqT.of ((x02.trans x3) _ _ ht), rfl, _, _, rfl, _, _, rfl, rfl, rfl, ?_⟩
          have e1 : (ownL sz z 0 es).take (i + 1) = (ownL sz z 0 es).take i ++ [p] := by rw [List.take_succ, hp]; rfl
          have lt : (pick (fun y => decide (b ≤ y)) (fun y => (y : Int)) ((ownL sz z 0 es).take i)).length < sizeLine := Nat.lt_of_le_of_lt (Nat.le_trans (pick_len _ _ _) (Nat.le_trans (List.length_take_le' _ _) psl)) (by decide)
          refine ifD (p := b ≤ p.2) (fun h => ?_) (fun h => ?_)
          · refine ⟨_, hd3, by rw [List.length_map]; exact lt, put_ext x3 nd1, ?_⟩
            rw [upd_same, e1, pick_snoc, if_pos (decide_eq_true h), List.map_append]; rfl
          · refine ⟨x3, ?_⟩
            rw [e1, pick_snoc, if_neg (by simpa using h)]; exact hd3
        rintro H5 ⟨x3, hd3⟩
        rw [← pLen pts, List.take_length] at hd3
        have x04 := x02.trans x3
        refine ⟨d, C, dx, _, _, rfl, x04 _ _ hi, L.cl, L.nE, fF_ent _ _ _ _ _ _, _, _, rfl, .inl ⟨_, SqL.of (x04 _ _ hl), rfl⟩, ?_⟩
        refine ⟨d1, highs sz z b es, _, rfl, rfl, SqL.of hd3, fun e => ?_, fun m h1 h2 => ?_⟩
        · refine ⟨?_, x04⟩
          rw [high_nil e, el.len]; rfl
        · exact ⟨by rw [high_min h1 h2]; rfl, x04⟩
      clear x02
      rintro σ H6 ⟨rfl, x6⟩
      refine ⟨(by show 2 ≤ sizeLine; decide), fun tp ntp => ?_⟩
      refine k _ _ (x6.trans (Ext.upd ntp)) ?_
      unfold win
      rw [if_neg ec]
      exact ⟨tp, rfl, upd_same⟩
end
end NB

set_option Elab.async false
set_option linter.all false
set_option maxRecDepth 100000
/-! B21: a dict by a comprehension over a list -/
namespace NB
open PySem PySem.Spec L2
theorem dc_list {K : PySem.W.Frag} {a : Addr} {xs : List V} {g : TG} {tt : TT} {tk tv : TE} {vs : List Nat} {σ : L2.St} {H1 : Hp} {D : Addr} {Qd : Hp → Prop} (Pv : Nat → Hp → Prop) (h0 : Pv 0 (upd H1 D (.dK []))) (hl : ∀ i H, i ≤ xs.length → Pv i H → SqL K H a xs)
    (hs : ∀ i x H, xs[i]? = some x → Pv i H → g x (wipe σ vs) H fun σ2 H2 => wipe σ2 vs = wipe σ vs ∧ tt σ2 H2 fun b H3 =>
      if b = true then tk σ2 H3 fun y H4 => tv σ2 H4 fun z H5 => ∃ kvs k, y = kV k ∧ H5 D = some (.dK kvs) ∧ kvs.length < sizeLine ∧ Pv (i + 1) (upd H5 D (.dK (putK kvs k z))) else Pv (i + 1) H3) (hd : ∀ H, Pv xs.length H → Qd H) :
    ∃ W : Nat → Nat → Hp → Prop, (∃ m, W 0 m (upd H1 D (.dK []))) ∧ ∀ i m H, W i m H →
      ((Itl K a).stop i H ∧ Qd H) ∨ ((Itl K a).go i H ∧ ∃ Nx : Hp → Prop, (∀ H', Nx H' → ∃ m', m' < m ∧ W (i + 1) m' H') ∧ ∀ x H', (Itl K a).yld i H x H' → g x (wipe σ vs) H' fun σ2 H2 => wipe σ2 vs = wipe σ vs ∧ tt σ2 H2 fun b H3 =>
        if b = true then tk σ2 H3 fun y H4 => tv σ2 H4 fun z H5 => ∃ kvs k, y = kV k ∧ H5 D = some (.dK kvs) ∧ kvs.length < sizeLine ∧ Nx (upd H5 D (.dK (putK kvs k z))) else Nx H3) := by
  refine ⟨fun i m H => m = xs.length - i ∧ i ≤ xs.length ∧ Pv i H, ⟨xs.length, by simp, Nat.zero_le _, h0⟩, ?_⟩
  rintro i m H ⟨rfl, hi, p⟩
  have q := hl i H hi p
  by_cases h : i < xs.length
  · refine .inr ⟨⟨xs, xs[i], q, by simp [h]⟩, Pv (i + 1), fun H' p' => ⟨xs.length - (i + 1), by omega, rfl, h, p'⟩, fun x H' y => ?_⟩
    obtain ⟨e, y⟩ := y
    subst e
    exact hs i x _ (y xs q) p
  · obtain rfl : i = xs.length := by omega
    exact .inl ⟨⟨xs, q, Nat.le_refl _⟩, hd H p⟩
end NB

set_option Elab.async false
set_option linter.all false
set_option maxRecDepth 100000
set_option maxHeartbeats 4000000
/-! K4f (k11): new facts -/
namespace NB
open PySem PySem.Spec L2
open PyProof.Rows (envOfC)
open C8 (pe_c pe_mk pe_mt pe_mt0 pe_gc fnScope fnBody fnArgs fnScope_by Cal Met Mak)
def spFactsI (C : Addr) : Sp := fun vs H Q _ => ∃ d dx sz a l ns es xs, vs = [.ref d, .int sz, .ref a, .ref l] ∧ H d = some (.ins C dx []) ∧ H a = some (.lst (ns.map V.str)) ∧ CrewOk ns ∧ H l = some (.lst xs) ∧ EntL H es xs ∧ EntsOk ns es ∧ SizeOk sz ∧
  ∀ H', FactsAt C H' d sz ns es → Frm [d] H H' → Q .non H'
/-- the fields before the last one -/
def fF5 (a l lb hd od : Addr) : List (Str × V) := putF "own" (.ref od) (putF "holders" (.ref hd) (putF "seen_blocks" (.ref lb) (putF "seen_entries" (.ref l) (putF "names" (.ref a) []))))
theorem fF5_hol (a l lb hd od : Addr) : (fF5 a l lb hd od).lookup ("holders" : Str) = some (.ref hd) := by
  unfold fF5
  rw [lookup_putF, if_neg (by decide +kernel), lookup_putF, if_pos rfl]
theorem fF5_own (a l lb hd od : Addr) : (fF5 a l lb hd od).lookup ("own" : Str) = some (.ref od) := by
  unfold fF5
  rw [lookup_putF, if_pos rfl]
theorem fF5_blk (a l lb hd od : Addr) : (fF5 a l lb hd od).lookup ("seen_blocks" : Str) = some (.ref lb) := by
  unfold fF5
  rw [lookup_putF, if_neg (by decide +kernel), lookup_putF, if_neg (by decide +kernel), lookup_putF, if_pos rfl]
/-- an empty list for each of the first names -/
def Empt (H1 : Hp) (D : Addr) (ns : List Str) (H : Hp) : Prop := ∃ q : Str → Addr, H D = some (.dK (kvR q ns)) ∧ (∀ z ∈ ns, H (q z) = some (.lst []) ∧ H1 (q z) = none) ∧ (∀ z ∈ ns, ∀ y ∈ ns, q z = q y → z = y) ∧ Ext H1 H
theorem Empt.snoc {H1 H : Hp} {D p : Addr} {ns : List Str} {z : Str} (h : Empt H1 D ns H) (nD : H1 D = none) (hz : z ∉ ns) (np : H p = none) : ∃ kvs, (upd H p (.lst [])) D = some (.dK kvs) ∧ kvs.length = ns.length ∧ Empt H1 D (ns ++ [z]) (upd (upd H p (.lst [])) D (.dK (putK kvs (Sum.inr z) (.ref p)))) := by
  obtain ⟨q, h1, h2, h3, h4⟩ := h
  have pD : D ≠ p := ne_of_none h1 np
  have qD : ∀ y ∈ ns, q y ≠ D := fun y hy => ne_of (h2 y hy).1 h1 (by intro e; cases e)
  have qp : ∀ y ∈ ns, q y ≠ p := fun y hy => ne_of_none (h2 y hy).1 np
  refine ⟨kvR q ns, by rw [upd_ne pD]; exact h1, List.length_map .., fun y => if y = z then p else q y, ?_, ?_, ?_, ?_⟩
  · rw [upd_same]
    have e1 : valV (kvR q ns) (Sum.inr z) = none := by rw [valV_kvR, if_neg hz]
    rw [putK_new _ e1]
    have e2 : kvR (fun y => if y = z then p else q y) ns = kvR q ns := kvR_congr fun y hy => if_neg (fun e : y = z => hz (by rw [← e]; exact hy))
    show _ = some (HO.dK ((ns ++ [z]).map _))
    rw [List.map_append]
    show _ = some (HO.dK (kvR (fun y => if y = z then p else q y) ns ++ [(Sum.inr z, V.ref (if z = z then p else q z))]))
    rw [e2, if_pos rfl]
  · intro y hy
    rcases List.mem_append.mp hy with hy | hy
    · have ne : ¬ y = z := fun e => hz (by rw [← e]; exact hy)
      show (upd (upd H p (.lst [])) D _) (if y = z then p else q y) = _ ∧ H1 (if y = z then p else q y) = none
      rw [if_neg ne, upd_ne (qD y hy), upd_ne (qp y hy)]
      exact h2 y hy
    · obtain rfl := List.mem_singleton.mp hy
      show (upd (upd H p (.lst [])) D _) (if y = y then p else q y) = _ ∧ H1 (if y = y then p else q y) = none
      rw [if_pos rfl, upd_ne pD.symm, upd_same]
      exact ⟨rfl, Ext.free h4 np⟩
  · intro y hy x hx e
    have e : (if y = z then p else q y) = (if x = z then p else q x) := e
    have inN : ∀ u ∈ ns ++ [z], ¬ u = z → u ∈ ns := fun u hu n => by
      rcases List.mem_append.mp hu with hu | hu
      · exact hu
      · exact absurd (List.mem_singleton.mp hu) n
    by_cases a : y = z <;> by_cases b : x = z
    · rw [a, b]
    · rw [if_pos a, if_neg b] at e; exact absurd e.symm (qp x (inN x hx b))
    · rw [if_neg a, if_pos b] at e; exact absurd e (qp y (inN y hy a))
    · rw [if_neg a, if_neg b] at e; exact h3 y (inN y hy a) x (inN x hx b) e
  · exact put_ext (put_ext h4 (Ext.free h4 np)) nD
theorem blk_take (sz : Int) {es : List (Str × Int)} {i : Nat} {e : Str × Int} (h : es[i]? = some e) : (es.take (i + 1)).map (fun e => e.2 / sz) = (es.take i).map (fun e => e.2 / sz) ++ [e.2 / sz] := by
  rw [List.take_succ, h, List.map_append]; rfl
theorem take_at {es : List (Str × Int)} {i : Nat} {e : Str × Int} (h : es[i]? = some e) : es.take (i + 1) = es.take i ++ [e] := by
  rw [List.take_succ, h]; rfl
section
variable {P : Program} {w : World} {K : PySem.W.Frag} {mg : Str → Option Value} {base : Heap} {C : Addr}
theorem ok_facts (T : Tb mg) (L : FactC K C) {f : Addr} {fd : FuncData} (D : Mx K "__init__" "Facts.__init__" s_Facts___init__ ["self", "size", "servers", "entries"] f fd) : FnOk P w K mg base C8.CX0 1 f fd ["self", "size", "servers", "entries"] (spFactsI C) := by
  refine fn_of' D sc_Facts___init__ (fun vs H Q E h => ?_) (fun cdv A o s H vs Q E hr h => ?_)
  · obtain ⟨d, dx, sz, a, l, ns, es, xs, rfl, _⟩ := h; rfl
  · obtain ⟨d, dx, sz, a, l, ns, es, xs, rfl, hd, ha, cr, hl, el, ok, so, k⟩ := h
    have hn12 := cr.few
    have he200 := ok.few
    have md : d ∈ [d] := List.mem_cons_self
    have lst_d : ∀ {c : Addr} {ys : List V} {fs : List (Str × V)}, H c = some (.lst ys) → c ≠ d := fun h => ne_of h hd (by intro e; cases e)
    refine ⟨_, (pss_cons (ps_fld (mv 0) (mv 2) rfl)
    (pss_cons (ps_fld (mv 0) (mv 3) rfl)
    (C8.pss_cut (ps_fld (mv 0) (pe_lc (own := [("server", 4), ("number", 5)]) (g := gTup K 2 (gCons (gName 4) (gCons (gName 5) gNil))) (tt := tYes) rfl sc_Facts___init__.nd (pi_list (mv 3)) (blkOk_by (own := [("server", 4), ("number", 5)]) (N := ["self", "size", "servers", "entries", "server", "number", "index", "block", "own"]) (sc := fnScope s_Facts___init__) (by decide +kernel)) (fun _ _ _ _ _ => (pg_tup rfl (pgs_cons (pg_name (i := 4) sc_Facts___init__.nd rfl (Or.inl rfl)) (pgs_cons (pg_name (i := 5) sc_Facts___init__.nd rfl (Or.inl rfl)) pgs_nil)))) (fun _ _ _ _ _ => pts_nil) (fun _ _ _ _ _ => (pe_op m_div (mv 5) (mv 1)))) rfl)
    (pss_cons (ps_fld (mv 0) pe_dnewK rfl)
    (C8.pss_cut (ps_fld (mv 0) (pe_dc (own := [("server", 4)]) (g := gName 4) (tt := tYes) rfl sc_Facts___init__.nd (pi_list (mv 2)) (blkOk_by (own := [("server", 4)]) (N := ["self", "size", "servers", "entries", "server", "number", "index", "block", "own"]) (sc := fnScope s_Facts___init__) (by decide +kernel)) (fun _ _ _ _ _ => (pg_name (i := 4) sc_Facts___init__.nd rfl (Or.inl rfl))) (fun _ _ _ _ _ => pts_nil) (fun _ _ _ _ _ => (mv 4)) (fun _ _ _ _ _ => (pe_lst pa_nil))) rfl)
    (C8.pss_cut (ps_for PassesOwn.never rfl (pi_enum (by rfl) T.n_enumerate (pa_cons (mv 3) pa_nil)) (pg_tup rfl (pgs_cons (pg_name (i := 6) sc_Facts___init__.nd rfl (Or.inl rfl)) (pgs_cons (pg_tup rfl (pgs_cons (pg_name (i := 4) sc_Facts___init__.nd rfl (Or.inl rfl)) (pgs_cons (pg_name (i := 5) sc_Facts___init__.nd rfl (Or.inl rfl)) pgs_nil))) pgs_nil)))
    (pss_cons (ps_set (i := 7) sc_Facts___init__.nd rfl (Or.inl rfl) (pe_op m_div (mv 5) (mv 1)))
    (C8.pss_cut (ps_asg (pe_op op_catA (pe_dget2 (u2 hr) (pe_fld (mv 0) rfl) (mv 7) (pe_tup pa_nil) ⟨rfl, rfl, rfl, rfl⟩) (pe_tup (pa_cons (mv 4) pa_nil))) (pg_sub (pe_fld (mv 0) rfl) (mv 7) (set_dict (u2 hr))))
    (pss_cons (ps_set (i := 8) sc_Facts___init__.nd rfl (Or.inl rfl) (pe_dget (u2 hr) (pe_fld (mv 0) rfl) (mv 4) (fun _ _ => rfl)))
    (pss_one (ps_expr (pe_bm PySem.F.plainAttrs_list PySem.F.slot_list_append PySem.F.type_list_append mt_append (mv 8) (pa_cons (pe_tup (pa_cons (mv 6) (pa_cons (mv 7) pa_nil))) pa_nil))))))))
    (pss_one (ps_fld (mv 0) (pe_callBK (cr_maxD rfl) (by rfl) T.n_max (by decide +kernel) (pa_cons (pe_fld (mv 0) rfl) pa_nil) (pk_cons (pe_un m_neg pe_int) pk_nil)) rfl)))))))), ?_⟩
    refine ⟨d, C, dx, _, rfl, hd, L.cl, L.nN, (by show 0 < 1000; decide), ?_⟩
    refine ⟨d, C, dx, _, rfl, upd_same, L.cl, L.nE, (by show 1 < 1000; decide), ?_⟩
    rw [upd_upd]
    have f1 : Frm [d] H (upd H d (.ins C dx (putF "seen_entries" (.ref l) (putF "names" (.ref a) [])))) := Frm.refl.upd md
    have i1 : (upd H d (.ins C dx (putF "seen_entries" (.ref l) (putF "names" (.ref a) [])))) d = some (.ins C dx (putF "seen_entries" (.ref l) (putF "names" (.ref a) []))) := upd_same
    have len200 : ∀ {G : List Int}, G.length ≤ 200 → G.length < sizeLine := fun h => Nat.lt_of_le_of_lt h (by decide)
    generalize upd H d (.ins C dx (putF "seen_entries" (.ref l) (putF "names" (.ref a) []))) = H1 at f1 i1 ⊢
    have ha1 := f1 _ _ ha (fun z => lst_d (fs := []) ha (List.mem_singleton.mp z))
    have hl1 := f1 _ _ hl (fun z => lst_d (fs := []) hl (List.mem_singleton.mp z))
    have st1 : TupSt H H1 := Frm.tups f1 hd (fun _ z => nomatch z)
    refine ⟨fun σ H' => ∃ lb, σ = [some (.ref d), some (.int sz), some (.ref a), some (.ref l), none, none, none, none, none] ∧ H' d = some (.ins C dx (putF "seen_blocks" (.ref lb) (putF "seen_entries" (.ref l) (putF "names" (.ref a) [])))) ∧ H' lb = some (.lst ((es.map fun e => e.2 / sz).map V.int)) ∧ H lb = none ∧ Frm [d] H H', ?_, ?_⟩
    · refine ⟨l, rfl, ⟨_, SqL.of hl1⟩, fun lb nlb => lc_list (K := K) (a := l) (xs := xs) (fun i H' => Ext H1 H' ∧ H' lb = some (.lst (((es.take i).map fun e => e.2 / sz).map V.int))) ⟨Ext.upd nlb, upd_same⟩ (fun i H' _ t => SqL.of (t.1 _ _ hl1)) ?_ ?_⟩
      · rintro i y H2 hy ⟨x2, hD⟩
        obtain ⟨e, hv, t, rfl, ht⟩ := EntL.at el hy
        have hi2 : i < es.length := (List.getElem?_eq_some_iff.mp hv).1
        refine ⟨t, _, rfl, SqT.of (x2 _ _ (st1 _ _ ht)), rfl, _, _, rfl, _, _, rfl, rfl, rfl, goY (ifT (by rfl) ?_)⟩
        refine ⟨cdv_size _ so, _, hD, ?_, put_ext x2 nlb, ?_⟩
        · rw [List.length_map]
          refine len200 ?_
          rw [List.length_map]
          exact Nat.le_trans (List.length_take_le' _ _) he200
        · rw [upd_same, blk_take sz hv, List.map_append]; rfl
      · rintro H2 ⟨x2, hD⟩
        rw [← el.len, List.take_length] at hD
        have fn := f1.trans (Frm.ext x2)
        refine ⟨d, C, dx, _, rfl, x2 _ _ i1, L.cl, L.nB, (by show 2 < 1000; decide), ?_⟩
        have dlb : lb ≠ d := fun z => by rw [z] at nlb; rw [nlb] at i1; cases i1
        refine ⟨lb, rfl, upd_same, by rw [upd_ne dlb]; exact hD, ?_, fn.upd md⟩
        cases e0 : H lb with
        | none => rfl
        | some u => rw [f1 _ _ e0 (fun z => dlb (List.mem_singleton.mp z))] at nlb; cases nlb
    clear st1 ha1 hl1 i1 f1
    rintro σ H2 ⟨lb, rfl, i2, hlb, nlb, f2⟩
    refine fun h0 nh0 => ?_
    refine ⟨d, C, dx, _, rfl, Ext.upd nh0 _ _ i2, L.cl, L.nH, (by show 3 < 1000; decide), ?_⟩
    have dh : h0 ≠ d := fun z => by rw [z] at nh0; rw [nh0] at i2; cases i2
    have Hh0 : H h0 = none := by
      cases e0 : H h0 with
      | none => rfl
      | some u => rw [f2 _ _ e0 (fun z => dh (List.mem_singleton.mp z))] at nh0; cases nh0
    have lbd : lb ≠ d := fun z => by rw [z] at nlb; rw [nlb] at hd; cases hd
    have lbh : lb ≠ h0 := ne_of_none hlb nh0
    have f3 := ((f2.new nh0 (o := .dK [])).upd (o := .ins C dx (putF "holders" (.ref h0) (putF "seen_blocks" (.ref lb) (putF "seen_entries" (.ref l) (putF "names" (.ref a) []))))) md)
    have i3 : (upd (upd H2 h0 (.dK [])) d (.ins C dx (putF "holders" (.ref h0) (putF "seen_blocks" (.ref lb) (putF "seen_entries" (.ref l) (putF "names" (.ref a) [])))))) d = some (.ins C dx (putF "holders" (.ref h0) (putF "seen_blocks" (.ref lb) (putF "seen_entries" (.ref l) (putF "names" (.ref a) []))))) := upd_same
    have hh3 : (upd (upd H2 h0 (.dK [])) d (.ins C dx (putF "holders" (.ref h0) (putF "seen_blocks" (.ref lb) (putF "seen_entries" (.ref l) (putF "names" (.ref a) [])))))) h0 = some (.dK []) := by rw [upd_ne dh]; exact upd_same
    have hb3 : (upd (upd H2 h0 (.dK [])) d (.ins C dx (putF "holders" (.ref h0) (putF "seen_blocks" (.ref lb) (putF "seen_entries" (.ref l) (putF "names" (.ref a) [])))))) lb = some (.lst ((es.map fun e => e.2 / sz).map V.int)) := by rw [upd_ne lbd, upd_ne lbh]; exact hlb
    generalize upd (upd H2 h0 (.dK [])) d (.ins C dx (putF "holders" (.ref h0) (putF "seen_blocks" (.ref lb) (putF "seen_entries" (.ref l) (putF "names" (.ref a) []))))) = H3 at f3 i3 hh3 hb3 ⊢
    have ha3 := f3 _ _ ha (fun z => lst_d (fs := []) ha (List.mem_singleton.mp z))
    refine ⟨fun σ H' => ∃ od q, σ = [some (.ref d), some (.int sz), some (.ref a), some (.ref l), none, none, none, none, none] ∧ H' d = some (.ins C dx (fF5 a l lb h0 od)) ∧ H' lb = some (.lst ((es.map fun e => e.2 / sz).map V.int)) ∧ (∀ z ∈ ns, H (q z) = none ∧ q z ≠ lb) ∧ od ≠ h0 ∧ FactsD H' h0 od q sz ns [] ∧ Frm [d] H H', ?_, ?_⟩
    · refine ⟨a, rfl, ⟨_, SqL.of ha3⟩, fun od nod => dc_list (K := K) (xs := ns.map V.str) (fun i H' => Empt H3 od (ns.take i) H') ⟨fun _ => 0, upd_same, (fun _ h => nomatch h), (fun _ h => nomatch h), Ext.upd nod⟩ (fun i H' _ t => by obtain ⟨_, _, _, _, x⟩ := t; exact SqL.of (x _ _ ha3)) ?_ ?_⟩
      · rintro i y G hy em
        obtain ⟨z, hz, rfl⟩ : ∃ v, ns[i]? = some v ∧ V.str v = y := by
          rw [List.getElem?_map] at hy
          exact Option.map_eq_some_iff.mp hy
        have hi2 : i < ns.length := (List.getElem?_eq_some_iff.mp hz).1
        obtain ⟨hi', ez⟩ := List.getElem?_eq_some_iff.mp hz
        have nm : z ∉ ns.take i := fun m => by
          have q : (ns.take i ++ ns.drop i).Nodup := by rw [List.take_append_drop]; exact cr.nd
          refine (List.nodup_append.mp q).2.2 z m z ?_ rfl
          rw [List.drop_eq_getElem_cons hi', ez]
          exact List.mem_cons_self
        refine ⟨rfl, goY (ifT (by rfl) ⟨Nat.zero_le _, fun p np => ?_⟩)⟩
        obtain ⟨kvs, g1, g2, g3⟩ := em.snoc nod nm np
        refine ⟨kvs, Sum.inr z, rfl, g1, ?_, ?_⟩
        · rw [g2]
          exact Nat.lt_of_le_of_lt (Nat.le_trans (List.length_take_le' _ _) hn12) (by decide)
        · have t : ns.take (i + 1) = ns.take i ++ [z] := by rw [List.take_succ, hz]; rfl
          rw [t]; exact g3
      · intro G em
        rw [List.length_map, List.take_length] at em
        obtain ⟨q, e1, e2, e3, e4⟩ := em
        refine ⟨d, C, dx, _, rfl, e4 _ _ i3, L.cl, L.nO, (by show 4 < 1000; decide), ?_⟩
        have frN : ∀ {c : Addr}, H3 c = none → c ≠ d ∧ H c = none := fun {c} n => by
          have cd : c ≠ d := fun z => by rw [z] at n; rw [n] at i3; cases i3
          refine ⟨cd, ?_⟩
          cases e0 : H c with
          | none => rfl
          | some u => rw [f3 _ _ e0 (fun z => cd (List.mem_singleton.mp z))] at n; cases n
        have odd := (frN nod).1
        refine ⟨od, q, rfl, upd_same, ?_, fun z hz => ⟨(frN (e2 z hz).2).2, fun z0 => ?_⟩, (ne_of_none hh3 nod).symm, ⟨?_, fun z hz => ⟨[], ?_, .nil⟩, e3, [], [], ?_, ⟨rfl, .nil⟩, (fun b => ⟨fun h => (nomatch h), fun h => absurd rfl h⟩), Nat.le_refl _, fun b => .inl ⟨rfl, rfl⟩⟩, (f3.trans (Frm.ext e4)).upd md⟩
        · rw [upd_ne lbd]; exact e4 _ _ hb3
        · have := (e2 z hz).2; rw [z0, hb3] at this; cases this
        · rw [upd_ne odd]; exact e1
        · rw [upd_ne (frN (e2 z hz).2).1]; exact (e2 z hz).1
        · rw [upd_ne dh]; exact e4 _ _ hh3
    clear f3 i3 hh3 hb3 ha3 f2 i2 hlb nh0
    rintro σ H4 ⟨od, q, rfl, i4, hb4, nq, oh, fd4, f4⟩
    have hl4 := f4 _ _ hl (fun z => lst_d (fs := []) hl (List.mem_singleton.mp z))
    refine ⟨fun σ H' => ∃ v4 v5 v6 v7 v8, σ = [some (.ref d), some (.int sz), some (.ref a), some (.ref l), v4, v5, v6, v7, v8] ∧ H' d = some (.ins C dx (fF5 a l lb h0 od)) ∧ H' lb = some (.lst ((es.map fun e => e.2 / sz).map V.int)) ∧ FactsD H' h0 od q sz ns es ∧ Frm [d] H H', ?_, ?_⟩
    · refine ⟨l, xs, rfl, SqL.of hl4, for_enum (xs := xs) (fun i σ H' => ∃ v4 v5 v6 v7 v8, σ = [some (.ref d), some (.int sz), some (.ref a), some (.ref l), v4, v5, v6, v7, v8] ∧ H' d = some (.ins C dx (fF5 a l lb h0 od)) ∧ H' lb = some (.lst ((es.map fun e => e.2 / sz).map V.int)) ∧ FactsD H' h0 od q sz ns (es.take i) ∧ Frm [d] H H') ⟨_, _, _, _, _, rfl, i4, hb4, fd4, f4⟩ ?_ ?_ ?_⟩
      · rintro i σ H' _ ⟨_, _, _, _, _, rfl, _, _, _, fG⟩
        exact SqL.of (fG _ _ hl (fun z => lst_d (fs := []) hl (List.mem_singleton.mp z)))
      · clear i4 hb4 fd4 f4 hl4
        rintro i x tT σ G hx nT ⟨_, _, _, _, _, rfl, iG, hbG, fdG, fG⟩
        obtain ⟨⟨z, fig⟩, hv, t, rfl, ht⟩ := EntL.at el hx
        have hi2 : i < es.length := (List.getElem?_eq_some_iff.mp hv).1
        have et := take_at hv
        have zn : z ∈ ns := (ok.ok _ (List.mem_of_getElem? hv)).1
        have tl : (es.take i).length = i := by rw [List.length_take]; omega
        have xT := Ext.upd (o := .tup [.int (i : Nat), .ref t]) nT
        have ct : (upd G tT (.tup [.int (i : Nat), .ref t])) tT = some (.tup [.int (i : Nat), .ref t]) := upd_same
        have ht' := xT _ _ (Frm.tups fG hd (fun _ z => nomatch z) _ _ ht)
        have iG := xT _ _ iG
        have hbG := xT _ _ hbG
        have fdG := fdG.mono xT
        have fG := fG.trans (Frm.ext xT)
        generalize upd G tT (.tup [.int (i : Nat), .ref t]) = G at ct ht' iG hbG fdG fG ⊢
        clear xT nT
        refine ⟨tT, _, rfl, SqT.of ct, rfl, _, _, rfl, _, _, rfl, t, _, rfl, SqT.of ht', rfl, _, _, rfl, _, _, rfl, rfl, rfl, ?_⟩
        refine ⟨cdv_size _ so, ?_⟩
        obtain ⟨hown, hls, inj, kvs, ks, hk, hks, hkm, hkl, hh⟩ := fdG
        rw [tl] at hkl
        refine ⟨fun σ H' => ∃ v8, σ = [some (.ref d), some (.int sz), some (.ref a), some (.ref l), some (.str z), some (.int fig), some (.int (i : Nat)), some (.int (fig / sz)), v8] ∧ H' d = some (.ins C dx (fF5 a l lb h0 od)) ∧ H' lb = some (.lst ((es.map fun e => e.2 / sz).map V.int)) ∧ H' od = some (.dK (kvR q ns)) ∧
          (∀ z ∈ ns, ∃ ts, H' (q z) = some (.lst ts) ∧ Paired (PairAt H') (ownL sz z 0 (es.take i)) ts) ∧ (∃ kvs ks, H' h0 = some (.dK kvs) ∧ KeysOk kvs ks ∧ (∀ b, b ∈ ks ↔ hol sz (es.take (i + 1)) b ≠ []) ∧ kvs.length ≤ i + 1 ∧ ∀ b : Int, HolAt H' (valV kvs (Sum.inl b)) (hol sz (es.take (i + 1)) b)) ∧ Frm [d] H H', ?_, ?_⟩
        · refine ⟨d, C, dx, _, _, rfl, iG, L.cl, L.nH, fF5_hol _ _ _ _ _, h0, rfl, .inl ⟨kvs, .inl hk⟩, (Nat.zero_le _), fun t0 n0 => ?_⟩
          have x0 := Ext.upd (o := .tup []) n0
          have c0 : (upd G t0 (.tup [])) t0 = some (.tup []) := upd_same
          generalize upd G t0 (.tup []) = G1 at x0 c0 ⊢
          refine ⟨valV kvs (Sum.inl (fig / sz)), DGet.k (k := Sum.inl (fig / sz)) (x0 _ _ hk), ?_⟩
          obtain ⟨t1, e1, h1⟩ : ∃ t1, (valV kvs (Sum.inl (fig / sz))).getD (.ref t0) = .ref t1 ∧ G1 t1 = some (.tup ((hol sz (es.take i) (fig / sz)).map V.str)) := by
            rcases hh (fig / sz) with ⟨e, e2⟩ | ⟨_, t, e2, e3⟩
            · exact ⟨t0, by rw [e2]; rfl, by rw [e]; exact c0⟩
            · exact ⟨t, by rw [e2]; rfl, x0 _ _ e3⟩
          rw [e1]
          refine ⟨(by show 1 ≤ sizeLine; decide), fun t2 n2 => ?_⟩
          have x2 := Ext.upd (o := .tup [.str z]) n2
          have c2 : (upd G1 t2 (.tup [.str z])) t2 = some (.tup [.str z]) := upd_same
          have h1 := x2 _ _ h1
          have x2 := x0.trans x2
          generalize upd G1 t2 (.tup [.str z]) = G2 at x2 c2 h1 ⊢
          have lh : (hol sz (es.take i) (fig / sz)).length ≤ 200 := by
            unfold hol
            rw [List.length_map]
            exact Nat.le_trans (List.length_filter_le _ _) (by rw [tl]; omega)
          have fin : ∀ (t3 : Addr) (G3 : Hp), G3 t3 = some (.tup ((hol sz (es.take i) (fig / sz) ++ [z]).map V.str)) → Ext G G3 → ∃ a' H', V.ref h0 = .ref a' ∧ DPut G3 a' (.int (fig / sz)) (.ref t3) H' ∧ H' d = some (.ins C dx (fF5 a l lb h0 od)) ∧ H' lb = some (.lst ((es.map fun e => e.2 / sz).map V.int)) ∧ H' od = some (.dK (kvR q ns)) ∧
              (∀ z ∈ ns, ∃ ts, H' (q z) = some (.lst ts) ∧ Paired (PairAt H') (ownL sz z 0 (es.take i)) ts) ∧ (∃ kvs ks, H' h0 = some (.dK kvs) ∧ KeysOk kvs ks ∧ (∀ b, b ∈ ks ↔ hol sz (es.take (i + 1)) b ≠ []) ∧ kvs.length ≤ i + 1 ∧ ∀ b : Int, HolAt H' (valV kvs (Sum.inl b)) (hol sz (es.take (i + 1)) b)) ∧ Frm [d] H H' := by
            intro t3 G3 h3 x3
            have k3 := x3 _ _ hk
            have st : TupSt G (upd G3 h0 (.dK (putK kvs (Sum.inl (fig / sz)) (.ref t3)))) := (TupSt.ext x3).trans (TupSt.upd k3 (fun _ z => nomatch z))
            have oth : ∀ {c : Addr} {u : HO}, G c = some u → (∀ ks, u ≠ .dK ks) → (upd G3 h0 (.dK (putK kvs (Sum.inl (fig / sz)) (.ref t3)))) c = some u := fun {c u} hc nu => by
              rw [upd_ne (ne_of hc hk (nu _))]; exact x3 _ _ hc
            have odh : od ≠ h0 := oh
            refine ⟨h0, _, rfl, .inl ⟨kvs, Sum.inl (fig / sz), k3, rfl, Nat.lt_of_le_of_lt (show kvs.length ≤ 200 by omega) (by decide), rfl⟩, oth iG (fun _ z => nomatch z), oth hbG (fun _ z => nomatch z), by rw [upd_ne odh]; exact x3 _ _ hown, fun y hy => ?_, ⟨_, _, upd_same, hks.put _ _, fun b => ?_, ?_, fun b => ?_⟩, ?_⟩
            · obtain ⟨ts, g1, g2⟩ := hls y hy
              exact ⟨ts, oth g1 (fun _ z => nomatch z), pairs_st g2 st⟩
            · rw [et, hol_snoc]
              by_cases e : b = fig / sz
              · rw [if_pos e]
                refine ⟨fun _ => by simp, fun _ => ?_⟩
                rw [e]
                by_cases m : fig / sz ∈ ks
                · rw [if_pos m]; exact m
                · rw [if_neg m]; simp
              · rw [if_neg e, ← hkm b]
                by_cases m : fig / sz ∈ ks
                · rw [if_pos m]
                · rw [if_neg m]; simp [e]
            · exact Nat.le_trans (length_putK _ _ _) (by omega)
            · rw [valV_put, et, hol_snoc]
              by_cases e : b = fig / sz
              · rw [if_pos (by rw [e]), if_pos e]
                refine .inr ⟨by simp, t3, rfl, ?_⟩
                rw [upd_ne (ne_of h3 k3 (fun z => nomatch z)), e]; exact h3
              · rw [if_neg (fun z => e (Sum.inl.inj z)), if_neg e]
                exact (hh b).st st
            · exact (fG.trans (Frm.ext x3)).new' Hh0
          refine ⟨t1, t2, (hol sz (es.take i) (fig / sz)).map V.str, [.str z], rfl, rfl, SqT.of h1, SqT.of c2, by rw [List.length_map]; exact Nat.le_trans (show (hol sz (es.take i) (fig / sz)).length + 1 ≤ 201 by omega) (by decide), fun hn => ?_, (fun _ z => nomatch z), fun _ _ p np => ?_⟩
          · have hn' : hol sz (es.take i) (fig / sz) = [] := List.map_eq_nil_iff.mp hn
            obtain ⟨a', H', g1, g2, g3, g4, g5, g6, g7, g8⟩ := fin t2 _ (by rw [hn']; exact c2) x2
            exact ⟨d, C, dx, _, _, rfl, x2 _ _ iG, L.cl, L.nH, fF5_hol _ _ _ _ _, a', H', g1, g2, _, rfl, g3, g4, g5, g6, g7, g8⟩
          · have xp := Ext.upd (o := .tup ((hol sz (es.take i) (fig / sz)).map V.str ++ [.str z])) np
            obtain ⟨a', H', g1, g2, g3, g4, g5, g6, g7, g8⟩ := fin p _ (by rw [List.map_append]; exact upd_same) (x2.trans xp)
            exact ⟨d, C, dx, _, _, rfl, (x2.trans xp) _ _ iG, L.cl, L.nH, fF5_hol _ _ _ _ _, a', H', g1, g2, _, rfl, g3, g4, g5, g6, g7, g8⟩
        clear hown hls hk hks hkm hkl hh ct ht' iG hbG fG kvs ks
        rintro σ G ⟨v8, rfl, iG, hbG, hown, hls, hhol, fG⟩
        have dg : DGet G od (.str z) (some (.ref (q z))) := by
          have := DGet.k (k := (Sum.inr z : Key)) hown
          rw [valV_kvR, if_pos zn] at this
          exact this
        refine ⟨d, C, dx, _, _, rfl, iG, L.cl, L.nO, fF5_own _ _ _ _ _, od, _, rfl, dg, ?_⟩
        obtain ⟨ts, hts, pts⟩ := hls z zn
        refine ⟨.inl ⟨rfl, _, SqL.of hts⟩, (by show 2 ≤ sizeLine; decide), fun tp ntp => ?_⟩
        have xp := Ext.upd (o := .tup [.int (i : Nat), .int (fig / sz)]) ntp
        have cp : (upd G tp (.tup [.int (i : Nat), .int (fig / sz)])) tp = some (.tup [.int (i : Nat), .int (fig / sz)]) := upd_same
        generalize upd G tp (.tup [.int (i : Nat), .int (fig / sz)]) = G2 at xp cp ⊢
        have h2 := xp _ _ hts
        have tsl : ts.length ≤ 200 := by
          rw [← pLen pts]
          exact Nat.le_trans (ownL_len _ _ _ _) (by omega)
        refine ⟨q z, ts, _, rfl, rfl, h2, Nat.lt_of_le_of_lt tsl (by decide), ?_⟩
        have st2 : TupSt G (upd G2 (q z) (.lst (ts ++ [.ref tp]))) := (TupSt.ext xp).trans (TupSt.upd h2 (fun _ z => nomatch z))
        have oth : ∀ {c : Addr} {u : HO}, G c = some u → (∀ ks, u ≠ .lst ks) → (upd G2 (q z) (.lst (ts ++ [.ref tp]))) c = some u := fun {c u} hc nu => by
          rw [upd_ne (ne_of hc hts (nu _))]; exact xp _ _ hc
        refine ⟨_, _, _, _, _, rfl, oth iG (fun _ z => nomatch z), by rw [upd_ne (nq z zn).2.symm]; exact xp _ _ hbG, ⟨oth hown (fun _ z => nomatch z), fun y hy => ?_, inj, ?_⟩, (fG.trans (Frm.ext xp)).new' (nq z zn).1⟩
        · rw [et, ownL_snoc, tl]
          by_cases e : z = y
          · subst e
            rw [if_pos rfl]
            refine ⟨_, upd_same, pApp (pairs_st pts st2) (.cons ⟨tp, ?_, ?_⟩ .nil)⟩
            · rfl
            · rw [upd_ne (ne_of cp h2 (fun z => nomatch z)), cp]
              simp
          · rw [if_neg e]
            obtain ⟨us, g1, g2⟩ := hls y hy
            refine ⟨us, ?_, pairs_st g2 st2⟩
            rw [upd_ne (fun z0 => e (inj y hy z zn z0).symm)]
            exact xp _ _ g1
        · obtain ⟨kvs, ks, g1, ga, gb, g2, g3⟩ := hhol
          refine ⟨kvs, ks, oth g1 (fun _ z => nomatch z), ga, gb, ?_, fun b => (g3 b).st st2⟩
          rw [List.length_take]
          omega
      · rintro σ G ⟨v4, v5, v6, v7, v8, rfl, iG, hbG, fdG, fG⟩
        rw [← el.len, List.take_length] at fdG
        exact ⟨_, _, _, _, _, rfl, iG, hbG, fdG, fG⟩
    clear i4 hb4 fd4 f4 hl4
    rintro σ G ⟨v4, v5, v6, v7, v8, rfl, iG, hbG, fdG, fG⟩
    have done_ : ∀ m : Int, (∀ e ∈ es, e.2 / sz ≤ m) → ∃ (d' : Addr) (C' : Addr) (dx' : Addr) (fs : List (Str × V)), V.ref d = .ref d' ∧ G d' = some (.ins C' dx' fs) ∧ Cls K C' ∧ NoAttr K C' "greatest" ∧ fs.length < 1000 ∧ Q .non (upd G d' (.ins C' dx' (putF "greatest" (.int m) fs))) := by
      intro m hm
      refine ⟨d, C, dx, _, rfl, iG, L.cl, L.nG, (by show 5 < 1000; decide), ?_⟩
      have hl' := fG _ _ hl (fun z => lst_d (fs := []) hl (List.mem_singleton.mp z))
      have oth : ∀ {c : Addr} {u : HO}, G c = some u → (∀ C dx ks, u ≠ .ins C dx ks) → (upd G d (.ins C dx (putF "greatest" (.int m) (fF5 a l lb h0 od)))) c = some u := fun {c u} hc nu => by
        rw [upd_ne (ne_of hc iG (nu _ _ _))]; exact hc
      have st : TupSt G (upd G d (.ins C dx (putF "greatest" (.int m) (fF5 a l lb h0 od)))) := TupSt.upd iG (fun _ z => nomatch z)
      refine k _ ⟨dx, a, l, lb, h0, od, m, q, xs, upd_same, oth hl' (fun _ _ _ z => nomatch z), (el.st (Frm.tups fG hd (fun _ z => nomatch z))).st st, ?_, oth (fG _ _ ha (fun z => lst_d (fs := []) ha (List.mem_singleton.mp z))) (fun _ _ _ z => nomatch z), oth hbG (fun _ _ _ z => nomatch z), hm⟩ (fG.upd md)
      obtain ⟨h1, h2, h3, kvs, ks, h4, h4a, h4b, h5, h6⟩ := fdG
      refine ⟨oth h1 (fun _ _ _ z => nomatch z), fun y hy => ?_, h3, kvs, ks, oth h4 (fun _ _ _ z => nomatch z), h4a, h4b, h5, fun b => (h6 b).st st⟩
      obtain ⟨ts, g1, g2⟩ := h2 y hy
      exact ⟨ts, oth g1 (fun _ _ _ z => nomatch z), pairs_st g2 st⟩
    refine ⟨d, C, dx, _, _, rfl, iG, L.cl, L.nB, fF5_blk _ _ _ _ _, lb, es.map (fun e => e.2 / sz), _, rfl, rfl, SqL.of hbG, fun hn => done_ _ (fun e he => by
      rw [List.map_eq_nil_iff.mp hn] at he; cases he), fun m _ hm => done_ _ (fun e he => hm _ (List.mem_map.mpr ⟨e, he, rfl⟩))⟩
end
end NB

set_option Elab.async false
set_option linter.all false
set_option maxRecDepth 100000
/-! K4p (k11): histories, what they show, and the walk from below, in plain Lean -/
namespace NB
open PySem PySem.Spec L2
theorem ownL_at (sz : Int) (z : Str) : ∀ (es : List (Str × Int)) (i : Nat) (p : Nat × Int), p ∈ ownL sz z i es → ∃ j e, p.1 = i + j ∧ es[j]? = some e ∧ e.1 = z ∧ e.2 / sz = p.2
  | [], _, p, h => nomatch h
  | y :: es, i, p, h => by
    have tl : p ∈ ownL sz z (i + 1) es → ∃ j e, p.1 = i + j ∧ (y :: es)[j]? = some e ∧ e.1 = z ∧ e.2 / sz = p.2 := fun h => by
      obtain ⟨j, e, h1, h2, h3⟩ := ownL_at sz z es (i + 1) p h
      exact ⟨j + 1, e, by omega, by simpa using h2, h3⟩
    simp only [ownL] at h
    split at h
    · rename_i c
      rcases List.mem_cons.mp h with rfl | h
      · exact ⟨0, y, rfl, rfl, c, rfl⟩
      · exact tl h
    · exact tl h
theorem ownL_mem (sz : Int) (z : Str) : ∀ (es : List (Str × Int)) (i j : Nat) (e : Str × Int), es[j]? = some e → e.1 = z → (i + j, e.2 / sz) ∈ ownL sz z i es
  | [], _, _, _, h, _ => by simp at h
  | y :: es, i, 0, e, h, hz => by
    simp at h
    subst h
    simp only [ownL]
    rw [if_pos hz]
    exact List.mem_cons_self
  | y :: es, i, j + 1, e, h, hz => by
    have := ownL_mem sz z es (i + 1) j e (by simpa using h) hz
    have e1 : i + 1 + j = i + (j + 1) := by omega
    rw [e1] at this
    simp only [ownL]
    split
    · exact List.mem_cons_of_mem _ this
    · exact this
theorem low_up {sz : Int} {z : Str} {b : Int} {es : List (Str × Int)} {j : Nat} {e : Str × Int} (h : es[j]? = some e) (hz : e.1 = z) (hb : e.2 / sz < b) : (j : Int) + 1 ≤ lowW sz z b 0 es 0 := by
  have m : (j : Int) + 1 ∈ lows sz z b es := by
    have := ownL_mem sz z es 0 j e h hz
    rw [Nat.zero_add] at this
    exact List.mem_map.mpr ⟨_, List.mem_filter.mpr ⟨this, decide_eq_true hb⟩, rfl⟩
  rcases low_is sz z b es with ⟨i1, _⟩ | ⟨_, i2⟩
  · rw [i1] at m; cases m
  · exact i2 _ m
theorem high_dn {sz : Int} {z : Str} {b : Int} {es : List (Str × Int)} {j : Nat} {e : Str × Int} (h : es[j]? = some e) (hz : e.1 = z) (hb : b ≤ e.2 / sz) : highW sz z b es.length 0 es es.length ≤ (j : Int) := by
  have m : (j : Int) ∈ highs sz z b es := by
    have := ownL_mem sz z es 0 j e h hz
    rw [Nat.zero_add] at this
    exact List.mem_map.mpr ⟨_, List.mem_filter.mpr ⟨this, decide_eq_true hb⟩, rfl⟩
  rcases high_is sz z b es.length es (Int.le_refl _) with ⟨i1, _⟩ | ⟨_, i2⟩
  · rw [i1] at m; cases m
  · exact i2 _ m
theorem low_cases (sz : Int) (z : Str) (b : Int) (es : List (Str × Int)) : lowW sz z b 0 es 0 = 0 ∨ ∃ j e, lowW sz z b 0 es 0 = (j : Nat) + 1 ∧ es[j]? = some e ∧ e.1 = z ∧ e.2 / sz < b := by
  rcases low_is sz z b es with ⟨_, i2⟩ | ⟨i1, _⟩
  · exact .inl i2
  · obtain ⟨p, hp, q⟩ := List.mem_map.mp i1
    obtain ⟨h1, h2⟩ := List.mem_filter.mp hp
    obtain ⟨j, e, h3, h4, h5, h6⟩ := ownL_at sz z es 0 p h1
    rw [Nat.zero_add] at h3
    exact .inr ⟨j, e, by rw [← q, h3], h4, h5, by rw [h6]; exact of_decide_eq_true h2⟩
theorem high_cases (sz : Int) (z : Str) (b : Int) (es : List (Str × Int)) : highW sz z b es.length 0 es es.length = es.length ∨ ∃ j e, highW sz z b es.length 0 es es.length = (j : Nat) ∧ es[j]? = some e ∧ e.1 = z ∧ b ≤ e.2 / sz := by
  rcases high_is sz z b es.length es (Int.le_refl _) with ⟨_, i2⟩ | ⟨i1, _⟩
  · exact .inl i2
  · obtain ⟨p, hp, q⟩ := List.mem_map.mp i1
    obtain ⟨h1, h2⟩ := List.mem_filter.mp hp
    obtain ⟨j, e, h3, h4, h5, h6⟩ := ownL_at sz z es 0 p h1
    rw [Nat.zero_add] at h3
    exact .inr ⟨j, e, by rw [← q, h3], h4, h5, by rw [h6]; exact of_decide_eq_true h2⟩
/-! ### histories -/
structure Take where
  first : Int
  last : Int
  name : Str
  slot : Nat
structure Hist (sz : Int) (ns : List Str) (T : List Take) (es : List (Str × Int)) (fresh : Int) : Prop where
  pw : T.Pairwise (fun t u => t.last < u.first ∧ t.slot ≤ u.slot)
  rng : ∀ t ∈ T, 0 ≤ t.first ∧ t.first ≤ t.last ∧ t.last < fresh ∧ t.slot ≤ es.length ∧ t.name ∈ ns
  cov : ∀ c, 0 ≤ c → c < fresh → ∃ t ∈ T, t.first ≤ c ∧ c ≤ t.last
  A : ∀ (i : Nat) (e : Str × Int), es[i]? = some e → ∃ t ∈ T, t.name = e.1 ∧ t.last = e.2 / sz ∧ t.slot ≤ i
  B : ∀ (i : Nat) (e : Str × Int), es[i]? = some e → ∀ t ∈ T, t.name = e.1 → e.2 / sz < t.first → i < t.slot
  D : ∀ (i j : Nat) (e f : Str × Int), i < j → es[i]? = some e → es[j]? = some f → e.1 = f.1 → e.2 < f.2
theorem tri {α : Type} {R : α → α → Prop} : ∀ {l : List α}, l.Pairwise R → ∀ x ∈ l, ∀ y ∈ l, x = y ∨ R x y ∨ R y x
  | [], _, x, hx, _, _ => nomatch hx
  | a :: l, h, x, hx, y, hy => by
    obtain ⟨h1, h2⟩ := List.pairwise_cons.mp h
    rcases List.mem_cons.mp hx with ex | hx' <;> rcases List.mem_cons.mp hy with ey | hy'
    · exact .inl (ex.trans ey.symm)
    · rw [ex]; exact .inr (.inl (h1 y hy'))
    · rw [ey]; exact .inr (.inr (h1 x hx'))
    · exact tri h2 x hx' y hy'
section
variable {sz : Int} {ns : List Str} {T : List Take} {es : List (Str × Int)} {fresh : Int}
/-- an entry of a block that is taken at t -/
theorem Hist.at (h : Hist sz ns T es fresh) {t : Take} (ht : t ∈ T) {i : Nat} {e : Str × Int} (he : es[i]? = some e) (h1 : t.first ≤ e.2 / sz) (h2 : e.2 / sz ≤ t.last) : e.1 = t.name ∧ t.last = e.2 / sz ∧ t.slot ≤ i := by
  obtain ⟨u, hu, a1, a2, a3⟩ := h.A i e he
  have ru := h.rng u hu
  rcases tri h.pw t ht u hu with q | q | q
  · subst q; exact ⟨a1.symm, a2, a3⟩
  · omega
  · omega
theorem Hist.win_in (h : Hist sz ns T es fresh) {t : Take} (ht : t ∈ T) {c : Int} (h1 : t.first ≤ c) (h2 : c ≤ t.last) : lowW sz t.name c 0 es 0 ≤ t.slot ∧ (t.slot : Int) ≤ highW sz t.name c es.length 0 es es.length := by
  have rt := h.rng t ht
  constructor
  · rcases low_cases sz t.name c es with q | ⟨j, e, q, he, hn, hb⟩
    · omega
    · have lt : e.2 / sz < t.first := by
        rcases Int.lt_or_le (e.2 / sz) t.first with z | z
        · exact z
        · have := h.at ht he z (by omega)
          omega
      have := h.B j e he t ht hn.symm lt
      omega
  · rcases high_cases sz t.name c es with q | ⟨j, e, q, he, hn, hb⟩
    · omega
    · obtain ⟨u, hu, a1, a2, a3⟩ := h.A j e he
      rcases tri h.pw t ht u hu with q | q | q
      · subst q; omega
      · omega
      · omega
theorem Hist.alone (h : Hist sz ns T es fresh) {t : Take} (ht : t ∈ T) {c : Int} (h1 : t.first ≤ c) (h2 : c ≤ t.last) : (hol sz es c).any (fun y => decide (y ≠ t.name)) = false := hol_free.mpr fun e he q => by
  obtain ⟨i, hi⟩ := List.mem_iff_getElem?.mp he
  have := h.at ht hi (by omega) (by omega)
  exact q.1 this.1
theorem Hist.win_is (h : Hist sz ns T es fresh) {t : Take} (ht : t ∈ T) {c : Int} (h1 : t.first ≤ c) (h2 : c ≤ t.last) : win sz es t.name c = some (lowW sz t.name c 0 es 0, highW sz t.name c es.length 0 es es.length) := by
  unfold win
  rw [if_neg (by rw [h.alone ht h1 h2]; exact Bool.false_ne_true)]
theorem Hist.same (h : Hist sz ns T es fresh) {i j : Nat} {e f : Str × Int} (he : es[i]? = some e) (hf : es[j]? = some f) (q : e.2 / sz = f.2 / sz) : e.1 = f.1 := by
  obtain ⟨t, ht, a1, a2, a3⟩ := h.A i e he
  have r := h.rng t ht
  have := h.at ht hf (by omega) (by omega)
  rw [this.1, a1]
theorem Hist.num (h : Hist sz ns T es fresh) {i j : Nat} {e f : Str × Int} (hij : i < j) (he : es[i]? = some e) (hf : es[j]? = some f) : e.2 ≠ f.2 := fun q => by
  have := h.D i j e f hij he hf (h.same he hf (by rw [q]))
  omega
theorem Hist.seen (h : Hist sz ns T es fresh) {i : Nat} {e : Str × Int} (he : es[i]? = some e) : 0 ≤ e.2 / sz ∧ e.2 / sz < fresh := by
  obtain ⟨t, ht, a1, a2, a3⟩ := h.A i e he
  have r := h.rng t ht
  omega
theorem Hist.nil (sz : Int) (ns : List Str) : Hist sz ns [] [] 0 := ⟨.nil, (fun _ h => nomatch h), (fun c h1 h2 => absurd h2 (by omega)), (fun i e h => by simp at h), (fun i e h => by simp at h), (fun i j e f _ h => by simp at h)⟩
theorem Hist.take (h : Hist sz ns T es fresh) {z : Str} (hz : z ∈ ns) (h0 : 0 ≤ fresh) {m : Int} (hm : 1 ≤ m) : Hist sz ns (T ++ [⟨fresh, fresh + m - 1, z, es.length⟩]) es (fresh + m) := by
  refine ⟨?_, fun t ht => ?_, fun c c0 c1 => ?_, fun i e he => ?_, fun i e he t ht n q => ?_, h.D⟩
  · rw [List.pairwise_append]
    refine ⟨h.pw, by simp, fun t ht u hu => ?_⟩
    rw [List.mem_singleton.mp hu]
    have := h.rng t ht
    exact ⟨this.2.2.1, this.2.2.2.1⟩
  · rcases List.mem_append.mp ht with ht | ht
    · have := h.rng t ht
      exact ⟨this.1, this.2.1, by omega, this.2.2.2⟩
    · rw [List.mem_singleton.mp ht]
      exact ⟨h0, by show fresh ≤ fresh + m - 1; omega, by show fresh + m - 1 < fresh + m; omega, Nat.le_refl _, hz⟩
  · by_cases q : c < fresh
    · obtain ⟨t, ht, r⟩ := h.cov c c0 q
      exact ⟨t, List.mem_append_left _ ht, r⟩
    · exact ⟨_, List.mem_append_right _ (List.mem_singleton.mpr rfl), by show fresh ≤ c; omega, by show c ≤ fresh + m - 1; omega⟩
  · obtain ⟨t, ht, r⟩ := h.A i e he
    exact ⟨t, List.mem_append_left _ ht, r⟩
  · rcases List.mem_append.mp ht with ht | ht
    · exact h.B i e he t ht n q
    · rw [List.mem_singleton.mp ht]
      exact (List.getElem?_eq_some_iff.mp he).1
theorem snoc_at {α : Type} {l : List α} {x y : α} {i : Nat} (h : (l ++ [x])[i]? = some y) : l[i]? = some y ∨ (i = l.length ∧ y = x) := by
  rcases Nat.lt_or_ge i l.length with q | q
  · rw [List.getElem?_append_left q] at h; exact .inl h
  · rw [List.getElem?_append_right q] at h
    obtain ⟨h1, h2⟩ := List.getElem?_eq_some_iff.mp h
    simp at h1
    refine .inr ⟨by omega, ?_⟩
    rw [← h2]
    have : i - l.length = 0 := by omega
    simp [this]
/-- one more use of the block that was taken last -/
theorem Hist.use (h : Hist sz ns T es fresh) (so : 1 ≤ sz) {t : Take} (ht : t ∈ T) (top : ∀ u ∈ T, u.name = t.name → u.last ≤ t.last) {sp dn : Int} (s0 : 0 ≤ sp) (s1 : sp < sz) (sd : dn ≤ sp) (bel : ∀ e ∈ es, e.1 = t.name → e.2 < t.last * sz + dn) :
    Hist sz ns T (es ++ [(t.name, t.last * sz + sp)]) fresh := by
  have bq : (t.last * sz + sp) / sz = t.last := by
    rw [Int.add_comm, Int.add_mul_ediv_right _ _ (by omega), Int.ediv_eq_zero_of_lt s0 s1, Int.zero_add]
  refine ⟨h.pw, fun u hu => ?_, h.cov, fun i e he => ?_, fun i e he u hu n q => ?_, fun i j e f hij he hf n => ?_⟩
  · have := h.rng u hu
    rw [List.length_append]
    exact ⟨this.1, this.2.1, this.2.2.1, by omega, this.2.2.2.2⟩
  · rcases snoc_at he with he | ⟨rfl, rfl⟩
    · exact h.A i e he
    · exact ⟨t, ht, rfl, bq.symm, (h.rng t ht).2.2.2.1⟩
  · rcases snoc_at he with he | ⟨rfl, rfl⟩
    · exact h.B i e he u hu n q
    · have q : (t.last * sz + sp) / sz < u.first := q
      have := top u hu n
      have := h.rng u hu
      omega
  · rcases snoc_at he with he | ⟨rfl, rfl⟩ <;> rcases snoc_at hf with hf | ⟨rfl, rfl⟩
    · exact h.D i j e f hij he hf n
    · have := bel e (List.mem_of_getElem? he) n
      show e.2 < t.last * sz + sp
      omega
    · have := (List.getElem?_eq_some_iff.mp hf).1
      omega
    · omega
/-! ### a part of the entries -/
def keep {α : Type} : List α → List Bool → List α
  | e :: es, b :: bs => if b = true then e :: keep es bs else keep es bs
  | _, _ => []
def phi (bs : List Bool) (s : Nat) : Nat := ((bs.take s).filter id).length
theorem phi_cons (b : Bool) (bs : List Bool) (s : Nat) : phi (b :: bs) (s + 1) = (if b = true then 1 else 0) + phi bs s := by
  unfold phi
  cases b <;> simp [Nat.add_comm]
theorem phi_mono (bs : List Bool) {s t : Nat} (h : s ≤ t) : phi bs s ≤ phi bs t := by
  unfold phi
  have : (bs.take s).filter id = ((bs.take t).take s).filter id := by rw [List.take_take, Nat.min_eq_left h]
  rw [this]
  have e : bs.take t = (bs.take t).take s ++ (bs.take t).drop s := (List.take_append_drop _ _).symm
  rw [congrArg (fun l => (l.filter id).length) e, List.filter_append, List.length_append]
  omega
theorem phi_next {bs : List Bool} {i : Nat} (h : bs[i]? = some true) : phi bs (i + 1) = phi bs i + 1 := by
  unfold phi
  rw [List.take_succ, h, List.filter_append, List.length_append]
  rfl
theorem keep_get {α : Type} : ∀ {es : List α} {bs : List Bool} {k : Nat} {e : α}, (keep es bs)[k]? = some e → ∃ i, es[i]? = some e ∧ bs[i]? = some true ∧ phi bs i = k
  | [], _, k, e, h => by simp [keep] at h
  | _ :: _, [], k, e, h => by simp [keep] at h
  | x :: es, b :: bs, k, e, h => by
    cases b with
    | false =>
      have h : (keep es bs)[k]? = some e := h
      obtain ⟨i, h1, h2, h3⟩ := keep_get h
      exact ⟨i + 1, by simpa using h1, by simpa using h2, by rw [phi_cons, h3]; simp⟩
    | true =>
      have h : (x :: keep es bs)[k]? = some e := h
      cases k with
      | zero => simp at h; subst h; exact ⟨0, rfl, rfl, rfl⟩
      | succ k =>
        obtain ⟨i, h1, h2, h3⟩ := keep_get (k := k) (by simpa using h)
        exact ⟨i + 1, by simpa using h1, by simpa using h2, by rw [phi_cons, h3]; simp; omega⟩
theorem keep_len {α : Type} : ∀ {es : List α} {bs : List Bool}, bs.length = es.length → (keep es bs).length = phi bs bs.length
  | [], [], _ => rfl
  | x :: es, b :: bs, h => by
    have ih := keep_len (es := es) (bs := bs) (by simpa using h)
    rw [List.length_cons, phi_cons, ← ih]
    cases b <;> simp [keep]
    omega
  | [], _ :: _, h => by simp at h
  | _ :: _, [], h => by simp at h
theorem phi_le {α : Type} {es : List α} {bs : List Bool} (h : bs.length = es.length) (s : Nat) : phi bs s ≤ (keep es bs).length := by
  rw [keep_len h]
  rcases Nat.le_total s bs.length with q | q
  · exact phi_mono bs q
  · unfold phi; rw [List.take_of_length_le q, List.take_of_length_le (Nat.le_refl _)]; exact Nat.le_refl _
def cutT (bs : List Bool) (T : List Take) : List Take := T.map fun t => { t with slot := phi bs t.slot }
theorem Hist.keep (h : Hist sz ns T es fresh) {bs : List Bool} (hl : bs.length = es.length) : Hist sz ns (cutT bs T) (keep es bs) fresh := by
  refine ⟨?_, fun t ht => ?_, fun c c0 c1 => ?_, fun k e he => ?_, fun k e he t ht n q => ?_, fun k k' e f hk he hf n => ?_⟩
  · exact List.pairwise_map.mpr (h.pw.imp fun {t u} r => ⟨r.1, phi_mono bs r.2⟩)
  · obtain ⟨u, hu, rfl⟩ := List.mem_map.mp ht
    have := h.rng u hu
    exact ⟨this.1, this.2.1, this.2.2.1, phi_le hl _, this.2.2.2.2⟩
  · obtain ⟨t, ht, r⟩ := h.cov c c0 c1
    exact ⟨_, List.mem_map.mpr ⟨t, ht, rfl⟩, r⟩
  · obtain ⟨i, h1, h2, h3⟩ := keep_get he
    obtain ⟨t, ht, a1, a2, a3⟩ := h.A i e h1
    exact ⟨_, List.mem_map.mpr ⟨t, ht, rfl⟩, a1, a2, by rw [← h3]; exact phi_mono bs a3⟩
  · obtain ⟨i, h1, h2, h3⟩ := keep_get he
    obtain ⟨u, hu, rfl⟩ := List.mem_map.mp ht
    have lt := h.B i e h1 u hu n q
    have m := phi_mono bs (show i + 1 ≤ u.slot from lt)
    rw [phi_next h2, h3] at m
    exact m
  · obtain ⟨i, h1, h2, h3⟩ := keep_get he
    obtain ⟨j, g1, g2, g3⟩ := keep_get hf
    have ij : i < j := by
      rcases Nat.lt_or_ge i j with z | z
      · exact z
      · have := phi_mono bs z; omega
    exact h.D i j e f ij h1 g1 n
/-- with fewer entries windows are as wide at least -/
theorem low_keep {bs : List Bool} (z : Str) (c : Int) {lo : Nat} (hl : lowW sz z c 0 es 0 = lo) : lowW sz z c 0 (NB.keep es bs) 0 ≤ phi bs lo := by
  rcases low_cases sz z c (NB.keep es bs) with q | ⟨k, e, q, he, hn, hb⟩
  · omega
  · obtain ⟨i, h1, h2, h3⟩ := keep_get he
    have := low_up h1 hn hb
    have m := phi_mono bs (show i + 1 ≤ lo by omega)
    rw [phi_next h2, h3] at m
    omega
theorem high_keep {bs : List Bool} (hb : bs.length = es.length) (z : Str) (c : Int) {hi : Nat} (hl : highW sz z c es.length 0 es es.length = hi) : (phi bs hi : Int) ≤ highW sz z c (NB.keep es bs).length 0 (NB.keep es bs) (NB.keep es bs).length := by
  rcases high_cases sz z c (NB.keep es bs) with q | ⟨k, e, q, he, hn, hc⟩
  · rw [q]
    have := phi_le hb hi
    omega
  · obtain ⟨i, h1, h2, h3⟩ := keep_get he
    have := high_dn h1 hn hc
    have m := phi_mono bs (show hi ≤ i by omega)
    omega
theorem keep_front {α : Type} : ∀ (es : List α) (n : Nat), NB.keep es (List.replicate n true ++ List.replicate (es.length - n) false) = es.take n
  | [], n => by simp [NB.keep]
  | e :: es, 0 => by
    have ih := keep_front es 0
    simp only [List.replicate_zero, List.nil_append, Nat.sub_zero, List.take_zero] at ih ⊢
    rw [List.length_cons, List.replicate_succ]
    exact ih
  | e :: es, n + 1 => by
    have ih := keep_front es n
    rw [List.length_cons, List.replicate_succ, List.cons_append, Nat.succ_sub_succ, List.take_succ_cons]
    show e :: NB.keep es _ = _
    rw [ih]
theorem Hist.front (h : Hist sz ns T es fresh) {n : Nat} (hn : n ≤ es.length) : ∃ U, Hist sz ns U (es.take n) fresh := by
  have := h.keep (bs := List.replicate n true ++ List.replicate (es.length - n) false) (by simp; omega)
  rw [keep_front] at this
  exact ⟨_, this⟩
/-! ### own entries in their sequence -/
def cnt (own : List (Nat × Int)) (c : Int) : Nat := (own.filter fun p => decide (p.2 < c)).length
abbrev Asc (own : List (Nat × Int)) : Prop := own.Pairwise fun p q => p.1 < q.1 ∧ p.2 ≤ q.2
theorem ownL_asc (so : 1 ≤ sz) (z : Str) : ∀ (es : List (Str × Int)) (i : Nat), (∀ (i j : Nat) (e f : Str × Int), i < j → es[i]? = some e → es[j]? = some f → e.1 = f.1 → e.2 < f.2) → Asc (ownL sz z i es)
  | [], _, _ => .nil
  | y :: es, i, D => by
    have ih := ownL_asc so z es (i + 1) fun a b e f ab he hf n => D (a + 1) (b + 1) e f (by omega) (by simpa using he) (by simpa using hf) n
    simp only [ownL]
    split
    · rename_i c
      refine List.pairwise_cons.mpr ⟨fun q hq => ?_, ih⟩
      obtain ⟨j, f, h1, h2, h3, h4⟩ := ownL_at sz z es (i + 1) q hq
      have := D 0 (j + 1) y f (by omega) rfl (by simpa using h2) (by rw [c, h3])
      refine ⟨by show i < q.1; omega, ?_⟩
      show y.2 / sz ≤ q.2
      rw [← h4]
      exact Int.ediv_le_ediv (by omega) (by omega)
    · exact ih
theorem cnt_take (c : Int) : ∀ {own : List (Nat × Int)}, Asc own → own.filter (fun p => decide (p.2 < c)) = own.take (cnt own c) ∧ own.filter (fun p => decide (c ≤ p.2)) = own.drop (cnt own c)
  | [], _ => ⟨rfl, rfl⟩
  | p :: own, h => by
    obtain ⟨h1, h2⟩ := List.pairwise_cons.mp h
    obtain ⟨i1, i2⟩ := cnt_take c h2
    by_cases q : p.2 < c
    · have nq : ¬ c ≤ p.2 := by omega
      have e : cnt (p :: own) c = cnt own c + 1 := by unfold cnt; simp [q]
      rw [e]
      simp only [List.filter_cons, decide_eq_true q, decide_eq_false nq, if_true, List.take_succ_cons, List.drop_succ_cons]
      exact ⟨by rw [i1], by rw [← i2]; rfl⟩
    · have z1 : (p :: own).filter (fun p => decide (p.2 < c)) = [] := by
        rw [List.filter_eq_nil_iff]
        intro r hr
        rcases List.mem_cons.mp hr with rfl | hr
        · simpa using q
        · have := (h1 r hr).2
          simp; omega
      have e : cnt (p :: own) c = 0 := by unfold cnt; rw [z1]; rfl
      rw [e, z1]
      refine ⟨rfl, ?_⟩
      rw [List.drop_zero, List.filter_eq_self]
      intro r hr
      rcases List.mem_cons.mp hr with rfl | hr
      · simp; omega
      · have := (h1 r hr).2
        simp; omega
theorem cnt_le (own : List (Nat × Int)) (c : Int) : cnt own c ≤ own.length := by
  unfold cnt
  exact List.length_filter_le _ _
/-- a place is below exactly if its block is -/
theorem cnt_lt {own : List (Nat × Int)} (h : Asc own) {c : Int} {p : Nat} {x : Nat × Int} (hp : own[p]? = some x) : x.2 < c ↔ p < cnt own c := by
  obtain ⟨i1, i2⟩ := cnt_take c h
  constructor
  · intro q
    rcases Nat.lt_or_ge p (cnt own c) with z | z
    · exact z
    · exfalso
      have m : x ∈ own.drop (cnt own c) := by
        refine List.mem_iff_getElem?.mpr ⟨p - cnt own c, ?_⟩
        rw [List.getElem?_drop, ← hp]
        congr 1
        omega
      rw [← i2] at m
      have := of_decide_eq_true (List.mem_filter.mp m).2
      omega
  · intro z
    have m : x ∈ own.take (cnt own c) := by
      refine List.mem_iff_getElem?.mpr ⟨p, ?_⟩
      rw [List.getElem?_take, if_pos z]; exact hp
    rw [← i1] at m
    exact of_decide_eq_true (List.mem_filter.mp m).2
/-- between two neighbours -/
def loAt (own : List (Nat × Int)) (p : Nat) : Int := if 0 < p then (((own[p - 1]?).map (·.1)).getD 0 : Nat) + 1 else 0
def hiAt (own : List (Nat × Int)) (n p : Nat) : Int := (((own[p]?).map (·.1)).getD n : Nat)
theorem loAt_is (z : Str) (c : Int) (h : Asc (ownL sz z 0 es)) : loAt (ownL sz z 0 es) (cnt (ownL sz z 0 es) c) = lowW sz z c 0 es 0 := by
  obtain ⟨i1, _⟩ := cnt_take c h
  have le := cnt_le (ownL sz z 0 es) c
  unfold loAt
  by_cases q : 0 < cnt (ownL sz z 0 es) c
  · rw [if_pos q]
    have lt : cnt (ownL sz z 0 es) c - 1 < (ownL sz z 0 es).length := by omega
    have hx : (ownL sz z 0 es)[cnt (ownL sz z 0 es) c - 1]? = some (ownL sz z 0 es)[cnt (ownL sz z 0 es) c - 1] := List.getElem?_eq_getElem lt
    rw [hx]
    generalize (ownL sz z 0 es)[cnt (ownL sz z 0 es) c - 1] = x at hx
    refine low_max ?_ fun y hy => ?_
    · unfold lows
      rw [i1]
      refine List.mem_map.mpr ⟨x, List.mem_iff_getElem?.mpr ⟨cnt (ownL sz z 0 es) c - 1, ?_⟩, rfl⟩
      rw [List.getElem?_take, if_pos (by omega)]; exact hx
    · unfold lows at hy
      rw [i1] at hy
      obtain ⟨w, hw, rfl⟩ := List.mem_map.mp hy
      obtain ⟨k, hk⟩ := List.mem_iff_getElem?.mp hw
      rw [List.getElem?_take] at hk
      split at hk
      · rename_i lk
        show (w.1 : Int) + 1 ≤ (x.1 : Nat) + 1
        rcases Nat.lt_or_ge k (cnt (ownL sz z 0 es) c - 1) with z1 | z1
        · obtain ⟨k1, k2⟩ := List.getElem?_eq_some_iff.mp hk
          obtain ⟨x1, x2⟩ := List.getElem?_eq_some_iff.mp hx
          have := (List.pairwise_iff_getElem.mp h k _ k1 x1 z1).1
          rw [k2, x2] at this
          omega
        · have : k = cnt (ownL sz z 0 es) c - 1 := by omega
          rw [this, hx] at hk
          rw [Option.some.inj hk]
          omega
      · cases hk
  · rw [if_neg q]
    refine (low_nil ?_).symm
    unfold lows
    rw [i1]
    have : cnt (ownL sz z 0 es) c = 0 := by omega
    rw [this]; rfl
theorem hiAt_is (z : Str) (c : Int) (h : Asc (ownL sz z 0 es)) : hiAt (ownL sz z 0 es) es.length (cnt (ownL sz z 0 es) c) = highW sz z c es.length 0 es es.length := by
  obtain ⟨_, i2⟩ := cnt_take c h
  unfold hiAt
  cases hx : (ownL sz z 0 es)[cnt (ownL sz z 0 es) c]? with
  | none =>
    refine (high_nil ?_).symm
    unfold highs
    rw [i2]
    have : (ownL sz z 0 es).length ≤ cnt (ownL sz z 0 es) c := List.getElem?_eq_none_iff.mp hx
    rw [List.drop_of_length_le this]; rfl
  | some x =>
    refine high_min ?_ fun y hy => ?_
    · unfold highs
      rw [i2]
      refine List.mem_map.mpr ⟨x, List.mem_iff_getElem?.mpr ⟨0, ?_⟩, rfl⟩
      rw [List.getElem?_drop]; exact hx
    · unfold highs at hy
      rw [i2] at hy
      obtain ⟨w, hw, rfl⟩ := List.mem_map.mp hy
      obtain ⟨k, hk⟩ := List.mem_iff_getElem?.mp hw
      rw [List.getElem?_drop] at hk
      show (x.1 : Int) ≤ w.1
      cases k with
      | zero => rw [Nat.add_zero, hx] at hk; rw [Option.some.inj hk]; exact Int.le_refl _
      | succ k =>
        obtain ⟨k1, k2⟩ := List.getElem?_eq_some_iff.mp hk
        obtain ⟨x1, x2⟩ := List.getElem?_eq_some_iff.mp hx
        have := (List.pairwise_iff_getElem.mp h _ _ x1 k1 (by omega)).1
        rw [k2, x2] at this
        omega
theorem cnt_same {own : List (Nat × Int)} {c d : Int} (h : c ≤ d) (n : ∀ p ∈ own, ¬ (c ≤ p.2 ∧ p.2 < d)) : cnt own d = cnt own c := by
  unfold cnt
  congr 1
  refine List.filter_congr fun p hp => ?_
  have := n p hp
  rw [Bool.eq_iff_iff]
  simp only [decide_eq_true_eq]
  omega
/-! ### the walk from below -/
abbrev Win := Option (Int × Int)
def hits (ws : List Win) (t : Int) : Prop := ∃ lo hi, some (lo, hi) ∈ ws ∧ lo ≤ t ∧ t ≤ hi
def Fits : Int → List (List Win) → Int → Prop
  | s, [], t => s ≤ t
  | s, w :: r, t => ∃ u, s ≤ u ∧ hits w u ∧ Fits u r t
theorem Fits.snoc {w : List Win} {u : Int} : ∀ {r : List (List Win)} {s t : Int}, Fits s r t → t ≤ u → hits w u → Fits s (r ++ [w]) u
  | [], s, t, h, h1, h2 => ⟨u, Int.le_trans h h1, h2, Int.le_refl _⟩
  | _ :: r, s, t, ⟨v, h1, h2, h3⟩, g1, g2 => ⟨v, h1, h2, h3.snoc g1 g2⟩
theorem Fits.low {r : List (List Win)} {s s' t : Int} (h : Fits s r t) (q : s' ≤ s) : Fits s' r t := by
  cases r with
  | nil => exact Int.le_trans q h
  | cons w r => obtain ⟨v, h1, h2, h3⟩ := h; exact ⟨v, Int.le_trans q h1, h2, h3⟩
def mx (i j : Int) : Int := if j > i then j else i
def cand (s : Int) : List Win → List Int
  | [] => []
  | none :: ws => cand s ws
  | some (lo, hi) :: ws => if mx s lo ≤ hi then mx s lo :: cand s ws else cand s ws
theorem cand_mem {s lo hi : Int} : ∀ {ws : List Win}, some (lo, hi) ∈ ws → mx s lo ≤ hi → mx s lo ∈ cand s ws
  | [], h, _ => nomatch h
  | none :: ws, h, q => by
    rcases List.mem_cons.mp h with h | h
    · cases h
    · exact cand_mem (ws := ws) h q
  | some (a, b) :: ws, h, q => by
    show mx s lo ∈ if mx s a ≤ b then mx s a :: cand s ws else cand s ws
    rcases List.mem_cons.mp h with h | h
    · cases h
      rw [if_pos q]
      exact List.mem_cons_self
    · have := cand_mem (ws := ws) h q
      split
      · exact List.mem_cons_of_mem _ this
      · exact this
theorem cand_snoc (s : Int) (w : Win) : ∀ ws : List Win, cand s (ws ++ [w]) = cand s ws ++ cand s [w]
  | [] => rfl
  | none :: ws => cand_snoc s w ws
  | some (a, b) :: ws => by
    show (if mx s a ≤ b then mx s a :: cand s (ws ++ [w]) else cand s (ws ++ [w])) = (if mx s a ≤ b then mx s a :: cand s ws else cand s ws) ++ _
    rw [cand_snoc s w ws]
    split <;> rfl
theorem cand_len (s : Int) : ∀ ws : List Win, (cand s ws).length ≤ ws.length
  | [] => Nat.le_refl _
  | none :: ws => Nat.le_trans (cand_len s ws) (Nat.le_succ _)
  | some (a, b) :: ws => by
    show (if mx s a ≤ b then mx s a :: cand s ws else cand s ws).length ≤ ws.length + 1
    have := cand_len s ws
    split
    · rw [List.length_cons]; omega
    · omega
theorem mx_le {s lo u : Int} (h1 : s ≤ u) (h2 : lo ≤ u) : mx s lo ≤ u := by
  unfold mx
  split <;> omega
/-- the least slot is no greater than a wished one -/
theorem cand_hit {s u : Int} {ws : List Win} (h : s ≤ u) (q : hits ws u) : ∃ m ∈ cand s ws, m ≤ u := by
  obtain ⟨lo, hi, m, h1, h2⟩ := q
  have := mx_le h h1
  exact ⟨_, cand_mem m (Int.le_trans this h2), this⟩
end
end NB

set_option Elab.async false
set_option linter.all false
set_option maxRecDepth 100000
set_option maxHeartbeats 4000000
/-! K4pa (k41): rows and walks of any log, exactly -/
namespace NB
open PySem PySem.Spec L2
/-- the windows of all servers for a block -/
def wins (sz : Int) (ns : List Str) (es : List (Str × Int)) (c : Int) : List Win := ns.map fun z => win sz es z c
abbrev Row := Int × Int × List Win
def rowsF (sz : Int) (ns : List Str) (es : List (Str × Int)) : Int → List Int → List Row
  | _, [] => []
  | nb, b :: bs => (if nb < b then [(nb, b - 1, wins sz ns es nb)] else []) ++ (b, b, wins sz ns es b) :: rowsF sz ns es (b + 1) bs
/-- the seen blocks in their sequence -/
structure SeenB (sz : Int) (es : List (Str × Int)) (bs : List Int) : Prop where
  srt : bs.Pairwise (· < ·)
  mem : ∀ b, b ∈ bs ↔ hol sz es b ≠ []
theorem SeenB.uniq {sz : Int} {es : List (Str × Int)} {bs cs : List Int} (h : SeenB sz es bs) (g : SeenB sz es cs) : bs = cs := by
  refine List.Perm.eq_of_pairwise (le := fun a b : Int => a < b) (fun a b _ _ h1 h2 => absurd h1 (by omega)) h.srt g.srt ?_
  refine (List.perm_ext_iff_of_nodup (h.srt.imp fun r => by omega) (g.srt.imp fun r => by omega)).mpr fun a => ?_
  rw [h.mem, g.mem]
/-- the least candidate -/
def lslot (s : Int) (ws : List Win) : Option Int := (cand s ws).min?
theorem lslot_none {s : Int} {ws : List Win} : lslot s ws = none ↔ cand s ws = [] := List.min?_eq_none_iff
theorem lslot_some {s m : Int} {ws : List Win} : lslot s ws = some m ↔ m ∈ cand s ws ∧ ∀ y ∈ cand s ws, m ≤ y := List.min?_eq_some_iff
theorem cand_ge {s : Int} : ∀ {ws : List Win}, ∀ m ∈ cand s ws, s ≤ m
  | [], m, h => nomatch h
  | none :: ws, m, h => cand_ge (ws := ws) m h
  | some (lo, hi) :: ws, m, h => by
    have h : m ∈ if mx s lo ≤ hi then mx s lo :: cand s ws else cand s ws := h
    split at h
    · rcases List.mem_cons.mp h with rfl | h
      · unfold mx; split <;> omega
      · exact cand_ge (ws := ws) m h
    · exact cand_ge (ws := ws) m h
theorem lslot_ge {s m : Int} {ws : List Win} (h : lslot s ws = some m) : s ≤ m := cand_ge m (lslot_some.mp h).1
theorem cand_in {s : Int} : ∀ {ws : List Win}, ∀ m ∈ cand s ws, ∃ lo hi, some (lo, hi) ∈ ws ∧ lo ≤ m ∧ m ≤ hi
  | [], m, h => nomatch h
  | none :: ws, m, h => by
    obtain ⟨lo, hi, h1, h2⟩ := cand_in (ws := ws) m h
    exact ⟨lo, hi, List.mem_cons_of_mem _ h1, h2⟩
  | some (lo, hi) :: ws, m, h => by
    have h : m ∈ if mx s lo ≤ hi then mx s lo :: cand s ws else cand s ws := h
    have rest : m ∈ cand s ws → ∃ lo' hi', some (lo', hi') ∈ some (lo, hi) :: ws ∧ lo' ≤ m ∧ m ≤ hi' := fun h => by
      obtain ⟨lo, hi, h1, h2⟩ := cand_in (ws := ws) m h
      exact ⟨lo, hi, List.mem_cons_of_mem _ h1, h2⟩
    split at h
    · rename_i le
      rcases List.mem_cons.mp h with e | h
      · refine ⟨lo, hi, List.mem_cons_self, ?_, by omega⟩
        rw [e]; unfold mx; split <;> omega
      · exact rest h
    · exact rest h
def leasts : Int → List Row → List Int
  | _, [] => []
  | s, r :: rs => match lslot s r.2.2 with
    | none => []
    | some m => m :: leasts m rs
theorem leasts_len : ∀ (rs : List Row) (s : Int), (leasts s rs).length ≤ rs.length
  | [], _ => Nat.le_refl _
  | r :: rs, s => by
    unfold leasts
    cases lslot s r.2.2 with
    | none => exact Nat.zero_le _
    | some m => exact Nat.succ_le_succ (leasts_len rs m)
/-- whether the walk goes through -/
def Thru (s : Int) (rs : List Row) : Prop := (leasts s rs).length = rs.length
theorem Thru.nil (s : Int) : Thru s [] := rfl
theorem leasts_none {s : Int} {r : Row} {rs : List Row} (h : lslot s r.2.2 = none) : leasts s (r :: rs) = [] := by
  rw [leasts, h]
theorem leasts_some {s m : Int} {r : Row} {rs : List Row} (h : lslot s r.2.2 = some m) : leasts s (r :: rs) = m :: leasts m rs := by
  rw [leasts, h]
theorem thru_cons {s : Int} {r : Row} {rs : List Row} : Thru s (r :: rs) ↔ ∃ m, lslot s r.2.2 = some m ∧ Thru m rs := by
  unfold Thru
  rw [List.length_cons]
  cases e : lslot s r.2.2 with
  | none => rw [leasts_none e]; simp
  | some m => rw [leasts_some e]; simp
/-- (block, slot) where the walk rises -/
def pushF : Int → List Row → List Int → List (Int × Int)
  | bf, r :: rs, s :: ss => if bf < s then (r.1, s) :: pushF s rs ss else pushF bf rs ss
  | _, _, _ => []
theorem pushF_nil (bf : Int) (rs : List Row) : pushF bf rs [] = [] := by cases rs <;> rfl
/-- steps that no window holds back -/
def GoodS (W : Int → List Win) (n : Int) : Int → List (Int × Int) → Prop
  | _, [] => False
  | bf, [(b, s)] => bf < s ∧ s = n + 1 ∧ ∀ m, lslot bf (W b) = some m → s ≤ m
  | bf, (b, s) :: st => bf < s ∧ (∀ m, lslot bf (W b) = some m → s ≤ m) ∧ GoodS W n s st
theorem goodS_cons {W : Int → List Win} {n bf b s : Int} {st : List (Int × Int)} (h1 : bf < s) (h2 : ∀ m, lslot bf (W b) = some m → s ≤ m) (h3 : GoodS W n s st) : GoodS W n bf ((b, s) :: st) := by
  cases st with
  | nil => exact absurd h3 id
  | cons p st => exact ⟨h1, h2, h3⟩
theorem push_good {W : Int → List Win} {n : Int} : ∀ (rs : List Row) (bf : Int), (∀ r ∈ rs, r.2.2 = W r.1) → (∀ r ∈ rs, ∀ lo hi, some (lo, hi) ∈ r.2.2 → hi ≤ n) → bf ≤ n → ¬ Thru bf rs → GoodS W n bf (pushF bf rs (leasts bf rs ++ [n + 1]))
  | [], bf, _, _, _, h => absurd (Thru.nil bf) h
  | r :: rs, bf, hw, hn, hb, h => by
    cases e : lslot bf r.2.2 with
    | none =>
      rw [leasts_none e]
      show GoodS W n bf (pushF bf (r :: rs) [n + 1])
      unfold pushF
      rw [if_pos (by omega), pushF_nil]
      refine ⟨by omega, rfl, fun m hm => ?_⟩
      rw [← hw r List.mem_cons_self, e] at hm
      cases hm
    | some m =>
      rw [leasts_some e]
      show GoodS W n bf (pushF bf (r :: rs) (m :: (leasts m rs ++ [n + 1])))
      have h' : ¬ Thru m rs := fun t => h (thru_cons.mpr ⟨m, e, t⟩)
      have mn : m ≤ n := by
        obtain ⟨lo, hi, q1, q2, q3⟩ := cand_in m (lslot_some.mp e).1
        have := hn r List.mem_cons_self lo hi q1
        omega
      have ih := push_good rs m (fun r' hr => hw r' (List.mem_cons_of_mem _ hr)) (fun r' hr => hn r' (List.mem_cons_of_mem _ hr)) mn h'
      have ge := lslot_ge e
      unfold pushF
      split
      · refine goodS_cons (by omega) (fun m' hm => ?_) ih
        rw [← hw r List.mem_cons_self, e] at hm
        exact Int.le_of_eq (Option.some.inj hm)
      · have : m = bf := by omega
        rw [this] at ih
        rw [this]
        exact ih
/-- the steps' blocks are the first ones of rows -/
theorem push_sub : ∀ (rs : List Row) (bf : Int) (ss : List Int), ((pushF bf rs ss).map (·.1)).Sublist (rs.map (·.1))
  | [], bf, ss => by cases ss <;> exact .slnil
  | r :: rs, bf, [] => by rw [pushF_nil]; exact List.nil_sublist _
  | r :: rs, bf, s :: ss => by
    unfold pushF
    split
    · exact (push_sub rs s ss).cons₂ _
    · exact (push_sub rs bf ss).cons _
/-! ### the rows -/
section
variable {sz : Int} {ns : List Str} {es : List (Str × Int)}
theorem rowsF_first : ∀ (bs : List Int) (nb : Int), bs.Pairwise (· < ·) → (∀ b ∈ bs, nb ≤ b) → (∀ r ∈ rowsF sz ns es nb bs, nb ≤ r.1 ∧ r.1 ≤ r.2.1 ∧ (∃ b ∈ bs, r.2.1 ≤ b) ∧ r.2.2 = wins sz ns es r.1) ∧ ((rowsF sz ns es nb bs).map (·.1)).Pairwise (· < ·)
  | [], nb, _, _ => ⟨fun _ h => (nomatch h), .nil⟩
  | b :: bs, nb, hp, hb => by
    obtain ⟨p1, p2⟩ := List.pairwise_cons.mp hp
    obtain ⟨i1, i2⟩ := rowsF_first bs (b + 1) p2 fun c hc => by have := p1 c hc; omega
    have nbb := hb b List.mem_cons_self
    have tail : (((b, b, wins sz ns es b) :: rowsF sz ns es (b + 1) bs).map (·.1)).Pairwise (· < ·) := by
      refine List.pairwise_cons.mpr ⟨fun c hc => ?_, i2⟩
      obtain ⟨r, hr, rfl⟩ := List.mem_map.mp hc
      have := (i1 r hr).1
      show b < r.1
      omega
    have tl : ∀ r ∈ (b, b, wins sz ns es b) :: rowsF sz ns es (b + 1) bs, b ≤ r.1 ∧ r.1 ≤ r.2.1 ∧ (∃ c ∈ b :: bs, r.2.1 ≤ c) ∧ r.2.2 = wins sz ns es r.1 := fun r hr => by
      rcases List.mem_cons.mp hr with rfl | hr
      · exact ⟨Int.le_refl _, Int.le_refl _, ⟨b, List.mem_cons_self, Int.le_refl _⟩, rfl⟩
      · obtain ⟨a1, a2, ⟨c, hc, a3⟩, a4⟩ := i1 r hr
        exact ⟨by omega, a2, ⟨c, List.mem_cons_of_mem _ hc, a3⟩, a4⟩
    unfold rowsF
    split
    · refine ⟨fun r hr => ?_, ?_⟩
      · rcases List.mem_cons.mp hr with rfl | hr
        · exact ⟨Int.le_refl _, by show nb ≤ b - 1; omega, ⟨b, List.mem_cons_self, by show b - 1 ≤ b; omega⟩, rfl⟩
        · obtain ⟨a1, a2, a3, a4⟩ := tl r hr
          exact ⟨by omega, a2, a3, a4⟩
      · refine List.pairwise_cons.mpr ⟨fun c hc => ?_, tail⟩
        obtain ⟨r, hr, rfl⟩ := List.mem_map.mp hc
        have := (tl r hr).1
        show nb < r.1
        omega
    · exact ⟨fun r hr => by
        obtain ⟨a1, a2, a3, a4⟩ := tl r hr
        exact ⟨by omega, a2, a3, a4⟩, tail⟩
theorem rowsF_len : ∀ (bs : List Int) (nb : Int), (rowsF sz ns es nb bs).length ≤ 2 * bs.length
  | [], _ => Nat.le_refl _
  | b :: bs, nb => by
    have ih := rowsF_len bs (b + 1)
    unfold rowsF
    split <;> simp only [List.length_append, List.length_cons, List.length_nil, List.nil_append, List.cons_append] <;> omega
theorem rowsF_snoc : ∀ (bs : List Int) (nb b : Int), bs.Pairwise (· < ·) → (∀ c ∈ bs, nb ≤ c) → (∀ c ∈ bs, c < b) → rowsF sz ns es nb (bs ++ [b]) = rowsF sz ns es nb bs ++ rowsF sz ns es (match bs.getLast? with | none => nb | some c => c + 1) [b]
  | [], nb, b, _, _, _ => rfl
  | c :: bs, nb, b, hp, h1, h2 => by
    obtain ⟨p1, p2⟩ := List.pairwise_cons.mp hp
    have ih := rowsF_snoc bs (c + 1) b p2 (fun d hd => by have := p1 d hd; omega) (fun d hd => h2 d (List.mem_cons_of_mem _ hd))
    have e : (match (c :: bs).getLast? with | none => nb | some c => c + 1) = (match bs.getLast? with | none => c + 1 | some c => c + 1) := by
      cases bs with
      | nil => rfl
      | cons d bs => rw [List.getLast?_cons_cons]; cases h : (d :: bs).getLast? with
        | none => simp at h
        | some x => rfl
    rw [e]
    show _ ++ (c, c, wins sz ns es c) :: rowsF sz ns es (c + 1) (bs ++ [b]) = (_ ++ (c, c, wins sz ns es c) :: rowsF sz ns es (c + 1) bs) ++ _
    rw [ih, List.append_assoc]
    rfl
/-- the next block behind some seen ones -/
def nbOf (l : List Int) : Int := match l.getLast? with | none => 0 | some c => c + 1
theorem nbOf_snoc (l : List Int) (b : Int) : nbOf (l ++ [b]) = b + 1 := by
  unfold nbOf; rw [List.getLast?_append]; rfl
theorem rowsF_step {bs : List Int} {b : Int} (hp : bs.Pairwise (· < ·)) (h0 : ∀ c ∈ bs, 0 ≤ c) (h1 : ∀ c ∈ bs, c < b) : rowsF sz ns es 0 (bs ++ [b]) = rowsF sz ns es 0 bs ++ ((if nbOf bs < b then [(nbOf bs, b - 1, wins sz ns es (nbOf bs))] else []) ++ [(b, b, wins sz ns es b)]) := rowsF_snoc bs 0 b hp h0 h1
theorem win_hi {z : Str} {c lo hi : Int} (h : win sz es z c = some (lo, hi)) : 0 ≤ lo ∧ hi ≤ es.length := by
  unfold win at h
  split at h
  · cases h
  · have e := Option.some.inj h
    rw [← (Prod.mk.inj e).1, ← (Prod.mk.inj e).2]
    exact ⟨(low_bd sz z c es).1, (high_bd sz z c es).2⟩
theorem wins_hi {c lo hi : Int} (h : some (lo, hi) ∈ wins sz ns es c) : 0 ≤ lo ∧ hi ≤ es.length := by
  obtain ⟨z, _, e⟩ := List.mem_map.mp h
  exact win_hi e
end
end NB

set_option Elab.async false
set_option linter.all false
set_option maxRecDepth 100000
set_option maxHeartbeats 8000000
/-! K4g (k43): rows of blocks with the same windows -/
namespace NB
open PySem PySem.Spec L2
open PyProof.Rows (envOfC)
open C8 (pe_c pe_mk pe_mt pe_mt0 pe_gc fnScope fnBody fnArgs fnScope_by Cal Met Mak)
theorem pGet {α β : Type} {R : α → β → Prop} : ∀ {es : List α} {vs : List β} {i : Nat} {e : α}, Paired R es vs → es[i]? = some e → ∃ v, vs[i]? = some v ∧ R e v
  | _, _, i, e, .nil, h => by simp at h
  | _, _, 0, e, .cons (b := v) r q, h => by simp at h; subst h; exact ⟨v, rfl, r⟩
  | _, _, i + 1, e, .cons r q, h => by
    obtain ⟨v, h1, h2⟩ := pGet q (i := i) (e := e) (by simpa using h)
    exact ⟨v, by simpa using h1, h2⟩
theorem WinV.st {H H' : Hp} {o : Win} {v : V} (h : WinV H o v) (x : TupSt H H') : WinV H' o v := by
  cases o with
  | none => exact h
  | some p => obtain ⟨a, rfl, q⟩ := h; exact ⟨a, rfl, x _ _ q⟩
/-- a row stands at v; its list of windows is not the one at l -/
def RowX (l : Addr) (H : Hp) (r : Row) (v : V) : Prop := ∃ t w vs, v = .ref t ∧ H t = some (.tup [.int r.1, .int r.2.1, .ref w]) ∧ w ≠ l ∧ H w = some (.lst vs) ∧ Paired (WinV H) r.2.2 vs
theorem RowX.ext {l : Addr} {H H' : Hp} {r : Row} {v : V} (h : RowX l H r v) (x : Ext H H') : RowX l H' r v := by
  obtain ⟨t, w, vs, h1, h2, h3, h4, h5⟩ := h
  exact ⟨t, w, vs, h1, x _ _ h2, h3, x _ _ h4, Paired.mapP h5 fun _ _ q => q.mono x⟩
theorem RowX.updL {l : Addr} {H : Hp} {r : Row} {v : V} {ys zs : List V} (h : RowX l H r v) (hl : H l = some (.lst ys)) : RowX l (L2.upd H l (.lst zs)) r v := by
  have st := TupSt.upd (o := .lst zs) hl (fun _ z => nomatch z)
  obtain ⟨t, w, vs, h1, h2, h3, h4, h5⟩ := h
  exact ⟨t, w, vs, h1, st _ _ h2, h3, by rw [upd_ne h3]; exact h4, Paired.mapP h5 fun _ _ q => q.st st⟩
theorem RowX.updD {l d : Addr} {H : Hp} {r : Row} {v : V} {k k' : List (Key × V)} (h : RowX l H r v) (hd : H d = some (.dK k)) : RowX l (L2.upd H d (.dK k')) r v := by
  have st := TupSt.upd (o := .dK k') hd (fun _ z => nomatch z)
  obtain ⟨t, w, vs, h1, h2, h3, h4, h5⟩ := h
  exact ⟨t, w, vs, h1, st _ _ h2, h3, by rw [upd_ne (ne_of h4 hd (fun z => nomatch z))]; exact h4, Paired.mapP h5 fun _ _ q => q.st st⟩
def spLastSlot (C : Addr) : Sp := fun vs H Q _ => ∃ d sz ns es, vs = [.ref d] ∧ FactsAt C H d sz ns es ∧ Q (.int (es.length : Nat)) H
def spAt (C : Addr) : Sp := fun vs H Q _ => ∃ d sz ns es z p, vs = [.ref d, .str z, .int (p : Nat)] ∧ FactsAt C H d sz ns es ∧ z ∈ ns ∧ p ≤ (ownL sz z 0 es).length ∧ es.length ≤ 200 ∧
  ∀ H' v, Ext H H' → WinV H' (some (loAt (ownL sz z 0 es) p, hiAt (ownL sz z 0 es) es.length p)) v → Q v H'
/-- no two entries bar one another -/
structure Clean (sz : Int) (es : List (Str × Int)) : Prop where
  num : ∀ (i j : Nat) (e f : Str × Int), i < j → es[i]? = some e → es[j]? = some f → e.2 ≠ f.2
  same : ∀ (i j : Nat) (e f : Str × Int), es[i]? = some e → es[j]? = some f → e.2 / sz = f.2 / sz → e.1 = f.1
  D : ∀ (i j : Nat) (e f : Str × Int), i < j → es[i]? = some e → es[j]? = some f → e.1 = f.1 → e.2 < f.2
theorem Hist.clean {sz : Int} {ns : List Str} {T : List Take} {es : List (Str × Int)} {fresh : Int} (h : Hist sz ns T es fresh) : Clean sz es := ⟨fun _ _ _ _ a b c => h.num a b c, fun _ _ _ _ a b c => h.same a b c, h.D⟩
theorem Clean.asc {sz : Int} {es : List (Str × Int)} (h : Clean sz es) (so : 1 ≤ sz) (z : Str) : Asc (ownL sz z 0 es) := ownL_asc so z es 0 h.D
theorem seen0 {sz : Int} {ns : List Str} {es : List (Str × Int)} (ok : EntsOk ns es) (so : 1 ≤ sz) {i : Nat} {e : Str × Int} (he : es[i]? = some e) : 0 ≤ e.2 / sz := Int.ediv_nonneg (ok.ok e (List.mem_of_getElem? he)).2 (by omega)
def spRows (C : Addr) : Sp := fun vs H Q _ => ∃ d sz ns es, vs = [.ref d] ∧ FactsAt C H d sz ns es ∧ Clean sz es ∧ EntsOk ns es ∧ CrewOk ns ∧ SizeOk sz ∧ es.length ≤ 62 ∧
  ∀ H' q xs bs, Ext H H' → H' q = some (.lst xs) → SeenB sz es bs → Paired (RowX q H') (rowsF sz ns es 0 bs) xs → xs.length ≤ 130 → Q (.ref q) H'
section
variable {P : Program} {w : World} {K : PySem.W.Frag} {mg : Str → Option Value} {base : Heap} {C : Addr}
theorem ok_lastSlot (T : Tb mg) (L : FactC K C) {f : Addr} {fd : FuncData} (D : Mx K "last_slot" "Facts.last_slot" s_Facts_last_slot ["self"] f fd) : FnOk P w K mg base C8.CX0 1 f fd ["self"] (spLastSlot C) := by
  refine fn_of' D sc_Facts_last_slot (fun vs H Q E h => ?_) (fun cdv A o s H vs Q E hr h => ?_)
  · obtain ⟨d, sz, ns, es, rfl, _⟩ := h; rfl
  · obtain ⟨d, sz, ns, es, rfl, ⟨dx, a, l, lb, hd, od, g, q, xs, hi, hl, el, fd, _, _⟩, k⟩ := h
    refine ⟨_, (pss_one (ps_ret (pe_callB call_len (by rfl) T.n_len (by decide +kernel) (pa_cons (pe_fld (mv 0) rfl) pa_nil)))), ?_⟩
    refine ⟨d, C, dx, _, _, rfl, hi, L.cl, L.nE, fF_ent _ _ _ _ _ _, _, _, rfl, .inl ⟨_, SqL.of hl, rfl⟩, ?_⟩
    rw [← el.len]
    exact k
theorem ok_at (T : Tb mg) (L : FactC K C) {f : Addr} {fd : FuncData} (D : Mx K "window_at" "Facts.window_at" s_Facts_window_at ["self", "server", "place"] f fd) : FnOk P w K mg base C8.CX0 1 f fd ["self", "server", "place"] (spAt C) := by
  refine fn_of' D sc_Facts_window_at (fun vs H Q E h => ?_) (fun cdv A o s H vs Q E hr h => ?_)
  · obtain ⟨d, sz, ns, es, z, p, rfl, _⟩ := h; rfl
  · obtain ⟨d, sz, ns, es, z, p, rfl, ⟨dx, a, l, lb, hd, od, g, q, xs, hi, hl, el, fd, _, _⟩, hz, hp, he, k⟩ := h
    obtain ⟨ho, hls, inj, _⟩ := fd
    refine ⟨_, (pss_cons (ps_set (i := 3) sc_Facts_window_at.nd rfl (Or.inl rfl) (pe_dget (u2 hr) (pe_fld (mv 0) rfl) (mv 1) (fun _ _ => rfl)))
    (C8.pss_cut (ps_set (i := 4) sc_Facts_window_at.nd rfl (Or.inl rfl) (pe_ifExp (qt m_gt (mv 2) pe_int (nomark _)) (pe_op m_add (pe_ix m_ix (pe_ix m_ix (mv 3) (pe_op m_sub (mv 2) pe_int) (fun _ _ => rfl)) pe_int (fun _ _ => rfl)) pe_int) pe_int))
    (pss_one (ps_ret (pe_tup (pa_cons (mv 4) (pa_cons (pe_ifExp (qt m_lt (mv 2) (pe_callB call_len (by rfl) T.n_len (by decide +kernel) (pa_cons (mv 3) pa_nil)) (nomark _)) (pe_ix m_ix (pe_ix m_ix (mv 3) (mv 2) (fun _ _ => rfl)) pe_int (fun _ _ => rfl)) (pe_callB call_len (by rfl) T.n_len (by decide +kernel) (pa_cons (pe_fld (mv 0) rfl) pa_nil))) pa_nil))))))), ?_⟩
    have dg : DGet H od (.str z) (some (.ref (q z))) := by
      have := DGet.k (k := (Sum.inr z : Key)) ho
      rw [valV_kvR, if_pos hz] at this
      exact this
    obtain ⟨ts, hts, pts⟩ := hls z hz
    have tl := pLen pts
    refine ⟨d, C, dx, _, _, rfl, hi, L.cl, L.nO, fF_own _ _ _ _ _ _, od, _, rfl, dg, ?_⟩
    refine ⟨fun σ H' => σ = [some (.ref d), some (.str z), some (.int (p : Nat)), some (.ref (q z)), some (.int (loAt (ownL sz z 0 es) p))] ∧ H' = H, ?_, ?_⟩
    · refine ifD (p := (0 : Int) < (p : Nat)) (fun h => ?_) (fun h => ⟨by unfold loAt; rw [if_neg (by omega)]; rfl, rfl⟩)
      have lt : p - 1 < (ownL sz z 0 es).length := by omega
      have hx : (ownL sz z 0 es)[p - 1]? = some (ownL sz z 0 es)[p - 1] := List.getElem?_eq_getElem lt
      have lo : loAt (ownL sz z 0 es) p = (((ownL sz z 0 es)[p - 1]).1 : Nat) + 1 := by unfold loAt; rw [if_pos (by omega), hx]; rfl
      generalize (ownL sz z 0 es)[p - 1] = x at hx lo
      obtain ⟨v, hv, t, rfl, ht⟩ := pGet pts hx
      refine ⟨_, .ref t, .inl (SqL.of hts), atI_at (by omega) (by rw [show ((p : Int) - 1).toNat = p - 1 by omega]; exact hv), ?_⟩
      refine ⟨_, _, .inr (SqT.of ht), atI_nat (j := 0) rfl, ?_⟩
      exact ⟨by rw [lo]; rfl, rfl⟩
    rintro σ H1 ⟨rfl, rfl⟩
    have fin : ∀ tp, H1 tp = none → ∀ hi_ : Int, hi_ = hiAt (ownL sz z 0 es) es.length p → Q (.ref tp) (upd H1 tp (.tup [.int (loAt (ownL sz z 0 es) p), .int hi_])) := fun tp n hi_ e => by
      refine k _ _ (Ext.upd n) ⟨tp, rfl, ?_⟩
      rw [upd_same, e]
    refine ⟨_, _, rfl, .inl ⟨_, SqL.of hts, rfl⟩, ?_⟩
    refine ifD (p := ((p : Nat) : Int) < (ts.length : Int)) (fun h => ?_) (fun h => ?_)
    · have lt : p < (ownL sz z 0 es).length := by omega
      have hx : (ownL sz z 0 es)[p]? = some (ownL sz z 0 es)[p] := List.getElem?_eq_getElem lt
      have hi_ : hiAt (ownL sz z 0 es) es.length p = (((ownL sz z 0 es)[p]).1 : Nat) := by unfold hiAt; rw [hx]; rfl
      generalize (ownL sz z 0 es)[p] = x at hx hi_
      obtain ⟨v, hv, t, rfl, ht⟩ := pGet pts hx
      refine ⟨_, .ref t, .inl (SqL.of hts), atI_nat (j := p) hv, ?_⟩
      refine ⟨_, _, .inr (SqT.of ht), atI_nat (j := 0) rfl, ?_⟩
      exact ⟨(by show 2 ≤ sizeLine; decide), fun tp n => fin tp n _ hi_.symm⟩
    · have hi_ : hiAt (ownL sz z 0 es) es.length p = (es.length : Nat) := by
        unfold hiAt
        rw [List.getElem?_eq_none_iff.mpr (by omega)]; rfl
      refine ⟨d, C, dx, _, _, rfl, hi, L.cl, L.nE, fF_ent _ _ _ _ _ _, _, _, rfl, .inl ⟨_, SqL.of hl, rfl⟩, ?_⟩
      exact ⟨(by show 2 ≤ sizeLine; decide), fun tp n => fin tp n _ (by rw [hi_, el.len])⟩
end
end NB

set_option Elab.async false
set_option linter.all false
set_option maxRecDepth 100000
set_option maxHeartbeats 8000000
/-! K4h (k41): Facts.rows, exactly -/
namespace NB
open PySem PySem.Spec L2
open PyProof.Rows (envOfC)
open C8 (pe_c pe_mk pe_mt pe_mt0 pe_gc fnScope fnBody fnArgs fnScope_by Cal Met Mak)
/-- a number for each name -/
def kvI (f : Str → Int) (ns : List Str) : List (Key × V) := ns.map fun z => (Sum.inr z, V.int (f z))
theorem valV_kvI {f : Str → Int} {z : Str} : ∀ {ns : List Str}, valV (kvI f ns) (Sum.inr z) = if z ∈ ns then some (V.int (f z)) else none
  | [] => rfl
  | y :: ns => by
    show valV ((Sum.inr y, V.int (f y)) :: kvI f ns) (Sum.inr z) = _
    by_cases e : y = z
    · subst e
      rw [valV_pos rfl, if_pos List.mem_cons_self]
    · have ne : ¬ ((Sum.inr y : Key) = Sum.inr z) := fun h => e (Sum.inr.inj h)
      rw [valV_neg ne, valV_kvI]
      have : (z ∈ y :: ns) ↔ z ∈ ns := ⟨fun h => (List.mem_cons.mp h).elim (fun h => absurd h.symm e) id, List.mem_cons_of_mem _⟩
      by_cases m : z ∈ ns
      · rw [if_pos m, if_pos (this.mpr m)]
      · rw [if_neg m, if_neg (fun h => m (this.mp h))]
/-- the windows of a row between seen blocks, and of a seen block -/
def gapW (sz : Int) (ns : List Str) (es : List (Str × Int)) (c : Int) : List Win := ns.map fun z => some (loAt (ownL sz z 0 es) (cnt (ownL sz z 0 es) c), hiAt (ownL sz z 0 es) es.length (cnt (ownL sz z 0 es) c))
def seenW (sz : Int) (ns : List Str) (es : List (Str × Int)) (z0 : Str) (c : Int) : List Win := ns.map fun z => if z = z0 then some (loAt (ownL sz z0 0 es) (cnt (ownL sz z0 0 es) c), hiAt (ownL sz z0 0 es) es.length (cnt (ownL sz z0 0 es) c)) else none
section
variable {sz : Int} {ns : List Str} {es : List (Str × Int)}
theorem hol_mem {b : Int} {z : Str} : z ∈ hol sz es b ↔ ∃ (j : Nat) (e : Str × Int), es[j]? = some e ∧ e.1 = z ∧ e.2 / sz = b := by
  unfold hol
  constructor
  · intro h
    obtain ⟨e, he, q⟩ := List.mem_map.mp h
    obtain ⟨h1, h2⟩ := List.mem_filter.mp he
    obtain ⟨j, hj⟩ := List.mem_iff_getElem?.mp h1
    exact ⟨j, e, hj, q, of_decide_eq_true h2⟩
  · rintro ⟨j, e, hj, rfl, q⟩
    exact List.mem_map.mpr ⟨e, List.mem_filter.mpr ⟨List.mem_of_getElem? hj, decide_eq_true q⟩, rfl⟩
theorem own_seen {z : Str} {p : Nat × Int} (h : p ∈ ownL sz z 0 es) : z ∈ hol sz es p.2 := by
  obtain ⟨j, e, _, h2, h3, h4⟩ := ownL_at sz z es 0 p h
  exact hol_mem.mpr ⟨j, e, h2, h3, h4⟩
end
theorem win_is {z : Str} {c : Int} (a : Asc (ownL sz z 0 es)) (h : (hol sz es c).any (fun y => decide (y ≠ z)) = false) : win sz es z c = some (loAt (ownL sz z 0 es) (cnt (ownL sz z 0 es) c), hiAt (ownL sz z 0 es) es.length (cnt (ownL sz z 0 es) c)) := by
  unfold win
  rw [h, if_neg Bool.false_ne_true, loAt_is z c a, hiAt_is z c a]
theorem gap_wins {c : Int} (a : ∀ z, Asc (ownL sz z 0 es)) (h : hol sz es c = []) : gapW sz ns es c = wins sz ns es c := by
  unfold gapW wins
  refine List.map_congr_left fun z _ => ?_
  rw [win_is (a z) (by rw [h]; rfl)]
theorem seen_wins {z0 : Str} {c : Int} {j0 : Nat} {e0 : Str × Int} (a : ∀ z, Asc (ownL sz z 0 es)) (he : es[j0]? = some e0) (hn : e0.1 = z0) (hb : e0.2 / sz = c) (one : ∀ z ∈ hol sz es c, z = z0) : seenW sz ns es z0 c = wins sz ns es c := by
  unfold seenW wins
  refine List.map_congr_left fun z _ => ?_
  by_cases e : z = z0
  · subst e
    rw [if_pos rfl, win_is (a z)]
    rw [List.any_eq_false]
    intro y hy q
    exact of_decide_eq_true q (one y hy)
  · rw [if_neg e]
    unfold win
    rw [if_pos]
    rw [List.any_eq_true]
    exact ⟨z0, hol_mem.mpr ⟨j0, e0, he, hn, hb⟩, decide_eq_true (fun q => e q.symm)⟩
/-- sorted numbers -/
theorem srt_take {bs : List Int} (h : bs.Pairwise (· < ·)) {i : Nat} {b : Int} (hb : bs[i]? = some b) (c : Int) (hc : c ∈ bs) : c < b ↔ c ∈ bs.take i := by
  obtain ⟨hi, eb⟩ := List.getElem?_eq_some_iff.mp hb
  obtain ⟨j, hj⟩ := List.mem_iff_getElem?.mp hc
  obtain ⟨hj', ec⟩ := List.getElem?_eq_some_iff.mp hj
  constructor
  · intro q
    rcases Nat.lt_or_ge j i with z | z
    · refine List.mem_iff_getElem?.mpr ⟨j, ?_⟩
      rw [List.getElem?_take, if_pos z]; exact hj
    · exfalso
      rcases Nat.lt_or_ge i j with y | y
      · have := List.pairwise_iff_getElem.mp h i j hi hj' y
        rw [eb, ec] at this; omega
      · have : i = j := by omega
        subst this
        rw [hb] at hj
        have := Option.some.inj hj
        omega
  · intro q
    obtain ⟨k, hk⟩ := List.mem_iff_getElem?.mp q
    rw [List.getElem?_take] at hk
    split at hk
    · rename_i lk
      obtain ⟨hk', ek⟩ := List.getElem?_eq_some_iff.mp hk
      have := List.pairwise_iff_getElem.mp h k i hk' hi lk
      rw [ek, eb] at this; exact this
    · cases hk
section
variable {P : Program} {w : World} {K : PySem.W.Frag} {mg : Str → Option Value} {base : Heap} {C : Addr}
/-- between two blocks -/
structure RwI (H : Hp) (lf pd : Addr) (sz : Int) (ns : List Str) (es : List (Str × Int)) (bs : List Int) (i m : Nat) (nb : Int) (rs : List Row) (H' : Hp) : Prop where
  x : Ext H H'
  fnd : ∃ xs, H' lf = some (.lst xs) ∧ Paired (RowX lf H') rs xs ∧ xs.length ≤ m
  pas : ∃ kvs, H' pd = some (.dK kvs) ∧ kvs.length ≤ 12 + i ∧ ∀ z ∈ ns, valV kvs (Sum.inr z) = some (.int (cnt (ownL sz z 0 es) nb : Nat))
  n0 : 0 ≤ nb
  cut : ∀ c ∈ bs, c < nb ↔ c ∈ bs.take i
theorem RwI.ext {H : Hp} {lf pd : Addr} {sz : Int} {ns : List Str} {es : List (Str × Int)} {bs : List Int} {i m : Nat} {nb : Int} {rs : List Row} {G G' : Hp} (h : RwI H lf pd sz ns es bs i m nb rs G) (x : Ext G G') : RwI H lf pd sz ns es bs i m nb rs G' := by
  obtain ⟨a, ⟨xs, h1, h2, h3⟩, ⟨kvs, h5, h6⟩, h7, h8⟩ := h
  exact ⟨a.trans x, ⟨xs, x _ _ h1, Paired.mapP h2 fun _ _ q => q.ext x, h3⟩, ⟨kvs, x _ _ h5, h6⟩, h7, h8⟩
/-- one more row -/
theorem RwI.row {H : Hp} {lf pd : Addr} {sz : Int} {ns : List Str} {es : List (Str × Int)} {bs : List Int} {i m : Nat} {nb : Int} {rs : List Row} {G : Hp} (h : RwI H lf pd sz ns es bs i m nb rs G) (nl : H lf = none) {xs : List V} (hx : G lf = some (.lst xs)) {ro : Row} {v : V} (r : RowX lf G ro v) :
    RwI H lf pd sz ns es bs i (m + 1) nb (rs ++ [ro]) (upd G lf (.lst (xs ++ [v]))) := by
  obtain ⟨a, ⟨xs', h1, h2, h3⟩, ⟨kvs, h7, h8⟩, h9, h10⟩ := h
  rw [hx] at h1
  obtain rfl : xs = xs' := by injection h1 with h1; injection h1
  refine ⟨put_ext a nl, ⟨_, upd_same, ?_, ?_⟩, ⟨kvs, by rw [upd_ne (ne_of h7 hx (fun z => nomatch z))]; exact h7, h8⟩, h9, h10⟩
  · exact pApp (Paired.mapP h2 fun _ _ q => q.updL hx) (.cons (r.updL hx) .nil)
  · rw [List.length_append, List.length_singleton]; omega
theorem ok_rows (T : Tb mg) (n_sorted : mg "sorted" = none) (L : FactC K C) {fA : Addr} {dA : FuncData} (mA : Meth K C "window_at" fA) (F_at : FnOk P w K mg base C8.CX0 1 fA dA ["self", "server", "place"] (spAt C)) (bA : Binds K dA ["self", "server", "place"] [])
    {f : Addr} {fd : FuncData} (D : Mx K "rows" "Facts.rows" s_Facts_rows ["self"] f fd) : FnOk P w K mg base C8.CX0 2 f fd ["self"] (spRows C) := by
  refine fn_of' D sc_Facts_rows (fun vs H Q E h => ?_) (fun cdv A o s H vs Q E hr h => ?_)
  · obtain ⟨d, sz, ns, es, rfl, _⟩ := h; rfl
  · obtain ⟨d, sz, ns, es, rfl, fa, cl, ok, cr, so, h60, k⟩ := h
    obtain ⟨dx, a, l, lb, hd, od, g, q, xs0, hi, hl, el, fd, ha, hlb, _⟩ := id fa
    obtain ⟨ho, hls, inj, kvs0, ks, hk, hks, hkm, hkl, hh⟩ := fd
    have so1 := so.1
    have h12 := cr.few
    refine ⟨_, (C8.pss_cut (ps_par (i := 1) (j := 2) rfl sc_Facts_rows.nd rfl rfl (by decide) rfl rfl (pa_cons (pe_lst pa_nil) (pa_cons pe_int pa_nil)) (by rfl))
    (C8.pss_cut (ps_set (i := 3) sc_Facts_rows.nd rfl (Or.inr rfl) (pe_dc (own := [("server", 4)]) (g := gName 4) (tt := tYes) rfl sc_Facts_rows.nd (pi_list (pe_fld (mv 0) rfl)) (blkOk_by (own := [("server", 4)]) (N := ["self", "found", "next_block", "passed", "server", "block", "holder", "place", "own_window"]) (sc := fnScope s_Facts_rows) (by decide +kernel)) (fun _ _ _ _ _ => (pg_name (i := 4) sc_Facts_rows.nd rfl (Or.inl rfl))) (fun _ _ _ _ _ => pts_nil) (fun _ _ _ _ _ => (mv 4)) (fun _ _ _ _ _ => pe_int)))
    (pss_cons (ps_for PassesOwn.never rfl (pi_list (pe_callB (call_sortedDI rfl) (by rfl) n_sorted (by decide +kernel) (pa_cons (pe_fld (mv 0) rfl) pa_nil))) (pg_name (i := 5) sc_Facts_rows.nd rfl (Or.inl rfl))
    (C8.pss_cut (ps_if (qt m_lt (mv 2) (mv 5) (nomark _)) (pss_one (ps_expr (pe_bm PySem.F.plainAttrs_list PySem.F.slot_list_append PySem.F.type_list_append mt_append (mv 1) (pa_cons (pe_tup (pa_cons (mv 2) (pa_cons (pe_op m_sub (mv 5) pe_int) (pa_cons (pe_lc (own := [("server", 4)]) (g := gName 4) (tt := tYes) rfl sc_Facts_rows.nd (pi_list (pe_fld (mv 0) rfl)) (blkOk_by (own := [("server", 4)]) (N := ["self", "found", "next_block", "passed", "server", "block", "holder", "place", "own_window"]) (sc := fnScope s_Facts_rows) (by decide +kernel)) (fun _ _ _ _ _ => (pg_name (i := 4) sc_Facts_rows.nd rfl (Or.inl rfl))) (fun _ _ _ _ _ => pts_nil) (fun _ _ _ _ _ => (pe_meth (mv 0) L.cl mA F_at (hr.mono (by decide)) bA .nil ps0 (pa_cons (mv 4) (pa_cons (pe_dget (u2 hr) (mv 3) (mv 4) (fun _ _ => rfl)) pa_nil))))) pa_nil)))) pa_nil)))) pss_nil)
    (C8.pss_cut (ps_set (i := 6) sc_Facts_rows.nd rfl (Or.inr rfl) (pe_ix m_ix (pe_dget (u2 hr) (pe_fld (mv 0) rfl) (mv 5) (fun _ _ => rfl)) pe_int (fun _ _ => rfl)))
    (C8.pss_cut (ps_set (i := 7) sc_Facts_rows.nd rfl (Or.inl rfl) (pe_dget (u2 hr) (mv 3) (mv 6) (fun _ _ => rfl)))
    (C8.pss_cut (ps_set (i := 8) sc_Facts_rows.nd rfl (Or.inr rfl) (pe_meth (mv 0) L.cl mA F_at (hr.mono (by decide)) bA .nil ps0 (pa_cons (mv 6) (pa_cons (mv 7) pa_nil))))
    (C8.pss_cut (ps_expr (pe_bm PySem.F.plainAttrs_list PySem.F.slot_list_append PySem.F.type_list_append mt_append (mv 1) (pa_cons (pe_tup (pa_cons (mv 5) (pa_cons (mv 5) (pa_cons (pe_lc (own := [("server", 4)]) (g := gName 4) (tt := tYes) rfl sc_Facts_rows.nd (pi_list (pe_fld (mv 0) rfl)) (blkOk_by (own := [("server", 4)]) (N := ["self", "found", "next_block", "passed", "server", "block", "holder", "place", "own_window"]) (sc := fnScope s_Facts_rows) (by decide +kernel)) (fun _ _ _ _ _ => (pg_name (i := 4) sc_Facts_rows.nd rfl (Or.inl rfl))) (fun _ _ _ _ _ => pts_nil) (fun _ _ _ _ _ => (pe_ifExp (qt m_eq (mv 4) (mv 6) (nomark _)) (mv 8) pe_non))) pa_nil)))) pa_nil)))
    (C8.pss_cut (ps_while PassesOwn.never (PW.pt (pw_and (qt m_lt (mv 7) (pe_callB call_len (by rfl) T.n_len (by decide +kernel) (pa_cons (pe_dget (u2 hr) (pe_fld (mv 0) rfl) (mv 6) (fun _ _ => rfl)) pa_nil)) (nomark _)) (pw_and1 (qt m_eq (pe_ix m_ix (pe_ix m_ix (pe_dget (u2 hr) (pe_fld (mv 0) rfl) (mv 6) (fun _ _ => rfl)) (mv 7) (fun _ _ => rfl)) pe_int (fun _ _ => rfl)) (mv 5) (nomark _))))) (pss_one (ps_aug (i := 7) sc_Facts_rows.nd rfl (Or.inl rfl) pe_int ip_add)))
    (C8.pss_cut (ps_asg (mv 7) (pg_sub (mv 3) (mv 6) (set_dict (u2 hr))))
    (pss_one (ps_set (i := 2) sc_Facts_rows.nd rfl (Or.inl rfl) (pe_op m_add (mv 5) pe_int)))))))))))
    (pss_one (ps_ret (mv 1)))))), ?_⟩
    refine ⟨fun σ H' => ∃ lf, σ = [some (.ref d), some (.ref lf), some (.int 0), none, none, none, none, none, none] ∧ Ext H H' ∧ H' lf = some (.lst []) ∧ H lf = none, ?_, ?_⟩
    · refine ⟨Nat.zero_le _, fun lf nlf => ?_⟩
      exact ⟨_, _, rfl, lf, rfl, Ext.upd nlf, upd_same, nlf⟩
    rintro σ H1 ⟨lf, rfl, x1, hlf, nlf⟩
    -- nothing is passed yet
    refine ⟨fun σ H' => ∃ pd kvs v4, σ = [some (.ref d), some (.ref lf), some (.int 0), some (.ref pd), v4, none, none, none, none] ∧ Ext H H' ∧ H' lf = some (.lst []) ∧ H pd = none ∧ H' pd = some (.dK kvs) ∧ kvs.length ≤ 12 ∧ ∀ z ∈ ns, valV kvs (Sum.inr z) = some (.int (cnt (ownL sz z 0 es) 0 : Nat)), ?_, ?_⟩
    · refine ⟨d, C, dx, _, _, rfl, x1 _ _ hi, L.cl, L.nN, fF_nam _ _ _ _ _ _, a, rfl, ⟨_, SqL.of (x1 _ _ ha)⟩, fun pd npd => dc_list (K := K) (xs := ns.map V.str) (fun i H' => Ext H1 H' ∧ H' pd = some (.dK (kvI (fun _ => 0) (ns.take i)))) ⟨Ext.upd npd, upd_same⟩ (fun i H' _ t => SqL.of (t.1 _ _ (x1 _ _ ha))) ?_ ?_⟩
      · rintro i y G hy ⟨xG, hp⟩
        obtain ⟨z, hz, rfl⟩ := map_at hy
        obtain ⟨hi', ez⟩ := List.getElem?_eq_some_iff.mp hz
        have nm : z ∉ ns.take i := fun m => by
          have q : (ns.take i ++ ns.drop i).Nodup := by rw [List.take_append_drop]; exact cr.nd
          refine (List.nodup_append.mp q).2.2 z m z ?_ rfl
          rw [List.drop_eq_getElem_cons hi', ez]
          exact List.mem_cons_self
        refine ⟨rfl, goY (ifT (by rfl) ?_)⟩
        refine ⟨_, Sum.inr z, rfl, hp, ?_, put_ext xG npd, ?_⟩
        · unfold kvI
          rw [List.length_map]
          exact Nat.lt_of_le_of_lt (Nat.le_trans (List.length_take_le' _ _) h12) (by decide)
        · rw [upd_same, putK_new _ (by rw [valV_kvI, if_neg nm])]
          have t : ns.take (i + 1) = ns.take i ++ [z] := by rw [List.take_succ, hz]; rfl
          rw [t]
          unfold kvI
          rw [List.map_append]; rfl
      · rintro G ⟨xG, hp⟩
        rw [List.length_map, List.take_length] at hp
        refine ⟨pd, _, _, rfl, x1.trans xG, xG _ _ hlf, Ext.free x1 npd, hp, by unfold kvI; rw [List.length_map]; exact h12, fun z hz => ?_⟩
        rw [valV_kvI, if_pos hz]
        have : cnt (ownL sz z 0 es) 0 = 0 := by
          unfold cnt
          rw [List.filter_eq_nil_iff.mpr]
          · rfl
          · intro p hp
            obtain ⟨j, e, _, h2, _, h4⟩ := ownL_at sz z es 0 p hp
            have := seen0 ok so1 h2
            simp; omega
        rw [this]; rfl
    clear x1 hlf
    rintro σ H2 ⟨pd, kvp, v4, rfl, x2, hlf2, npd, hpd2, kpl, kpv⟩
    -- the seen blocks in their sequence
    have kslen : ks.length = kvs0.length := by
      have := congrArg List.length hks.1
      rw [List.length_map, List.length_map] at this
      exact this.symm
    refine ⟨d, C, dx, _, _, rfl, x2 _ _ hi, L.cl, L.nH, fF_hol _ _ _ _ _ _, hd, kvs0, ks, rfl, .inl (x2 _ _ hk), hks.1, by omega, fun bs ls perm srt nls => ?_⟩
    have bsS : bs.Pairwise (· < ·) := by
      have nd : bs.Nodup := perm.nodup_iff.mpr hks.2
      exact (List.pairwise_and_iff.mpr ⟨srt, nd⟩).imp fun {a b} r => by
        obtain ⟨r1, r2⟩ := r
        omega
    have bsM : ∀ b : Int, b ∈ bs ↔ hol sz es b ≠ [] := fun b => perm.mem_iff.trans (hkm b)
    have bsl : bs.length ≤ 62 := by have := perm.length_eq; omega
    have SB : SeenB sz es bs := ⟨bsS, bsM⟩
    have bs0 : ∀ c ∈ bs, 0 ≤ c := fun c hc => by
      obtain ⟨z, hz⟩ := List.exists_mem_of_ne_nil _ ((bsM c).mp hc)
      obtain ⟨j, e, h1, _, h2⟩ := hol_mem.mp hz
      have := seen0 ok so1 h1
      omega
    have x3 := Ext.upd (o := .lst (bs.map V.int)) nls
    have cls : (upd H2 ls (.lst (bs.map V.int))) ls = some (.lst (bs.map V.int)) := upd_same
    have lsf : ls ≠ lf := (ne_of_none hlf2 nls).symm
    have i0 : RwI H lf pd sz ns es bs 0 0 0 [] (upd H2 ls (.lst (bs.map V.int))) := by
      refine ⟨x2.trans x3, ⟨[], x3 _ _ hlf2, .nil, Nat.le_refl _⟩, ⟨kvp, x3 _ _ hpd2, kpl, kpv⟩, Int.le_refl _, fun c hc => ⟨fun q => ?_, fun q => nomatch q⟩⟩
      obtain ⟨z, hz⟩ := List.exists_mem_of_ne_nil _ ((bsM c).mp hc)
      obtain ⟨j, e, h1, _, h2⟩ := hol_mem.mp hz
      have := seen0 ok so1 h1
      omega
    generalize upd H2 ls (.lst (bs.map V.int)) = H3 at cls i0 ⊢
    clear x3 hlf2 hpd2 kpl kpv x2
    refine ⟨ls, rfl, ⟨_, SqL.of cls⟩, for_list (K := K) (a := ls) (xs := bs.map V.int) (fun i σ H' => ∃ v4 v5 v6 v7 v8, σ = [some (.ref d), some (.ref lf), some (.int (nbOf (bs.take i))), some (.ref pd), v4, v5, v6, v7, v8] ∧ RwI H lf pd sz ns es bs i (2 * i) (nbOf (bs.take i)) (rowsF sz ns es 0 (bs.take i)) H' ∧ H' ls = some (.lst (bs.map V.int))) ⟨_, _, _, _, _, rfl, i0, cls⟩ ?_ ?_ ?_⟩
    · rintro i σ H' _ ⟨_, _, _, _, _, rfl, _, h⟩; exact SqL.of h
    · clear i0 cls
      rintro i y σ G0 hy ⟨v4, v5, v6, v7, v8, rfl, I, cls⟩
      have ern : rowsF sz ns es 0 (bs.take (i + 1)) = rowsF sz ns es 0 (bs.take (i + 1)) := rfl
      have enb : nbOf (bs.take (i + 1)) = nbOf (bs.take (i + 1)) := rfl
      generalize erw : rowsF sz ns es 0 (bs.take i) = rs0 at I ern
      generalize enb0 : nbOf (bs.take i) = nb at I enb ⊢
      obtain ⟨b, hb, rfl⟩ := map_at hy
      have hi60 : i < 62 := Nat.lt_of_lt_of_le (List.getElem?_eq_some_iff.mp hb).1 bsl
      have bm : b ∈ bs := List.mem_of_getElem? hb
      have nbb : nb ≤ b := by
        rcases Int.lt_or_le b nb with z | z
        · have := (srt_take bsS hb b bm).mpr ((I.cut b bm).mp z)
          omega
        · exact z
      have noB : ∀ c ∈ bs, ¬ (nb ≤ c ∧ c < b) := fun c hc q => by
        have := (I.cut c hc).mpr ((srt_take bsS hb c hc).mp q.2)
        omega
      -- its holder, and the take
      obtain ⟨z0, rest, hz0⟩ : ∃ z0 rest, hol sz es b = z0 :: rest := by
        cases q : hol sz es b with
        | nil => exact absurd q ((bsM b).mp bm)
        | cons z r => exact ⟨z, r, rfl⟩
      obtain ⟨j0, e0, he0, hn0, hb0⟩ := hol_mem.mp (show z0 ∈ hol sz es b by rw [hz0]; exact List.mem_cons_self)
      have z0n : z0 ∈ ns := by rw [← hn0]; exact (ok.ok e0 (List.mem_of_getElem? he0)).1
      have b00 := seen0 ok so1 he0
      have own_bs : ∀ {z : Str} {p : Nat × Int}, p ∈ ownL sz z 0 es → p.2 ∈ bs := fun {z p} hp => (bsM p.2).mpr fun q => by
        have := own_seen hp
        rw [q] at this; cases this
      have cnt_b : ∀ z, cnt (ownL sz z 0 es) b = cnt (ownL sz z 0 es) nb := fun z => cnt_same nbb fun p hp => noB p.2 (own_bs hp)
      have keepL : ∀ {G : Hp} {u : HO}, G ls = some (.lst (bs.map V.int)) → (upd G lf u) ls = some (.lst (bs.map V.int)) := fun {G u} h => by rw [upd_ne lsf]; exact h
      -- a row of unseen blocks
      refine ⟨fun σ H' => ∃ m v4, σ = [some (.ref d), some (.ref lf), some (.int nb), some (.ref pd), v4, some (.int b), v6, v7, v8] ∧ m ≤ 2 * i + 1 ∧ RwI H lf pd sz ns es bs i m nb (rs0 ++ if nb < b then [(nb, b - 1, wins sz ns es nb)] else []) H' ∧ H' ls = some (.lst (bs.map V.int)), ?_, ?_⟩
      · refine ifD (p := nb < b) (fun lt_ => ?_) (fun nlt => ⟨2 * i, _, rfl, by omega, by rw [if_neg nlt, List.append_nil]; exact I, cls⟩)
        obtain ⟨xs, hx, _, hxl⟩ := I.fnd
        refine ⟨.inl ⟨rfl, _, SqL.of hx⟩, ?_⟩
        refine ⟨d, C, dx, _, _, rfl, I.x _ _ hi, L.cl, L.nN, fF_nam _ _ _ _ _ _, a, rfl, ⟨_, SqL.of (I.x _ _ ha)⟩, fun wd nwd => lc_list (K := K) (a := a) (xs := ns.map V.str) (fun j H' => ∃ vs, Ext G0 H' ∧ H' wd = some (.lst vs) ∧ Paired (WinV H') ((gapW sz ns es nb).take j) vs ∧ vs.length = j) ⟨[], Ext.upd nwd, upd_same, .nil, rfl⟩ (fun j H' _ t => by obtain ⟨_, x, _⟩ := t; exact SqL.of (x _ _ (I.x _ _ ha))) ?_ ?_⟩
        · rintro j y G hy ⟨vs, xG, hw, pw, vl⟩
          obtain ⟨z, hz, rfl⟩ := map_at hy
          have zn := List.mem_of_getElem? hz
          have hj := (List.getElem?_eq_some_iff.mp hz).1
          have fG := fa.mono (I.x.trans xG)
          obtain ⟨kvs, hp, hkp, hpv⟩ := I.pas
          have dg : DGet G pd (.str z) (some (.int (cnt (ownL sz z 0 es) nb : Nat))) := by
            have := DGet.k (k := (Sum.inr z : Key)) (xG _ _ hp)
            rw [hpv z zn] at this
            exact this
          refine ⟨rfl, goY (ifT (by rfl) ?_)⟩
          refine ⟨d, dx, _, rfl, xG _ _ (I.x _ _ hi), fF_no _ _ _ _ _ _ (by decide +kernel) (by decide +kernel) (by decide +kernel) (by decide +kernel) (by decide +kernel) (by decide +kernel), pd, _, rfl, dg, d, sz, ns, es, z, _, rfl, fG, zn, cnt_le _ _, ok.few, fun G1 v x1 wv => ?_⟩
          refine ⟨vs, x1 _ _ hw, Nat.lt_of_le_of_lt (show vs.length ≤ 12 by omega) (by decide), vs ++ [v], put_ext (xG.trans x1) nwd, upd_same, ?_, by rw [List.length_append, vl]; rfl⟩
          have st := TupSt.upd (o := .lst (vs ++ [v])) (x1 _ _ hw) (fun _ z => nomatch z)
          have e : (gapW sz ns es nb).take (j + 1) = (gapW sz ns es nb).take j ++ [some (loAt (ownL sz z 0 es) (cnt (ownL sz z 0 es) nb), hiAt (ownL sz z 0 es) es.length (cnt (ownL sz z 0 es) nb))] := by
            unfold gapW
            rw [List.take_succ, List.getElem?_map, hz]; rfl
          rw [e]
          exact pApp (Paired.mapP pw fun _ _ q => (q.mono x1).st st) (.cons (wv.st st) .nil)
        rintro G ⟨vs, xG, hw, pw, vl⟩
        have gl : (gapW sz ns es nb).length = ns.length := by unfold gapW; rw [List.length_map]
        rw [List.length_map, ← gl, List.take_length] at pw
        refine ⟨(by show 3 ≤ sizeLine; decide), fun tp ntp => ?_⟩
        have xp := Ext.upd (o := .tup [.int nb, .int (b - 1), .ref wd]) ntp
        have ct : (upd G tp (.tup [.int nb, .int (b - 1), .ref wd])) tp = some (.tup [.int nb, .int (b - 1), .ref wd]) := upd_same
        have hw := xp _ _ hw
        have pw := Paired.mapP pw fun _ _ q => q.mono xp
        have xG := xG.trans xp
        generalize upd G tp (.tup [.int nb, .int (b - 1), .ref wd]) = G1 at ct hw pw xG ⊢
        have wdf : wd ≠ lf := (ne_of_none hx nwd).symm
        refine ⟨lf, xs, _, rfl, rfl, xG _ _ hx, Nat.lt_of_le_of_lt (show xs.length ≤ 200 by omega) (by decide), 2 * i + 1, _, rfl, Nat.le_refl _, ?_, keepL (xG _ _ cls)⟩
        rw [if_pos lt_]
        refine (I.ext xG).row nlf (xG _ _ hx) ⟨tp, wd, vs, rfl, ct, wdf, hw, ?_⟩
        have e : gapW sz ns es nb = wins sz ns es nb := gap_wins (fun z => cl.asc so1 z) (Decidable.byContradiction fun h => by
          have hm := (bsM nb).mpr h
          exact noB nb hm ⟨Int.le_refl _, lt_⟩)
        rw [← e]
        exact pw
      clear I cls v4 v5
      rintro σ G1 ⟨m, v4, rfl, hm, I, cls⟩
      -- the holder
      refine ⟨fun σ H' => σ = [some (.ref d), some (.ref lf), some (.int nb), some (.ref pd), v4, some (.int b), some (.str z0), v7, v8] ∧ H' = G1, ?_, ?_⟩
      · obtain ⟨tH, etH, hTH⟩ : ∃ tH, valV kvs0 (Sum.inl b) = some (.ref tH) ∧ H tH = some (.tup ((hol sz es b).map V.str)) := by
          rcases hh b with ⟨e, _⟩ | ⟨_, t, e2, e3⟩
          · rw [hz0] at e; cases e
          · exact ⟨t, e2, e3⟩
        have dg : DGet G1 hd (.int b) (some (.ref tH)) := by
          have := DGet.k (k := (Sum.inl b : Key)) (I.x _ _ hk)
          rw [etH] at this
          exact this
        refine ⟨d, C, dx, _, _, rfl, I.x _ _ hi, L.cl, L.nH, fF_hol _ _ _ _ _ _, hd, _, rfl, dg, ?_⟩
        refine ⟨_, .str z0, .inr (SqT.of (I.x _ _ hTH)), atI_nat (j := 0) (by rw [hz0]; rfl), ?_⟩
        exact ⟨rfl, rfl⟩
      rintro σ G ⟨rfl, rfl⟩
      obtain ⟨kvs, hp, hkp, hpv⟩ := I.pas
      have dgP : DGet G pd (.str z0) (some (.int (cnt (ownL sz z0 0 es) nb : Nat))) := by
        have := DGet.k (k := (Sum.inr z0 : Key)) hp
        rw [hpv z0 z0n] at this
        exact this
      refine ⟨fun σ H' => σ = [some (.ref d), some (.ref lf), some (.int nb), some (.ref pd), v4, some (.int b), some (.str z0), some (.int (cnt (ownL sz z0 0 es) b : Nat)), v8] ∧ H' = G, ?_, ?_⟩
      · refine ⟨pd, _, rfl, dgP, ?_⟩
        exact ⟨by rw [cnt_b z0]; rfl, rfl⟩
      rintro σ G2 ⟨rfl, rfl⟩
      -- its window
      refine ⟨fun σ H' => ∃ ow, σ = [some (.ref d), some (.ref lf), some (.int nb), some (.ref pd), v4, some (.int b), some (.str z0), some (.int (cnt (ownL sz z0 0 es) b : Nat)), some ow] ∧ WinV H' (some (loAt (ownL sz z0 0 es) (cnt (ownL sz z0 0 es) b), hiAt (ownL sz z0 0 es) es.length (cnt (ownL sz z0 0 es) b))) ow ∧ RwI H lf pd sz ns es bs i m nb (rs0 ++ if nb < b then [(nb, b - 1, wins sz ns es nb)] else []) H' ∧ H' ls = some (.lst (bs.map V.int)), ?_, ?_⟩
      · refine ⟨d, dx, _, rfl, I.x _ _ hi, fF_no _ _ _ _ _ _ (by decide +kernel) (by decide +kernel) (by decide +kernel) (by decide +kernel) (by decide +kernel) (by decide +kernel), d, sz, ns, es, z0, _, rfl, fa.mono I.x, z0n, cnt_le _ _, ok.few, fun G1 v x1 wv => ?_⟩
        exact ⟨v, rfl, wv, I.ext x1, x1 _ _ cls⟩
      clear I cls hp hkp hpv dgP kvs
      rintro σ G ⟨ow, rfl, wv, I, cls⟩
      -- the row of the seen block
      refine ⟨fun σ H' => ∃ v4, σ = [some (.ref d), some (.ref lf), some (.int nb), some (.ref pd), v4, some (.int b), some (.str z0), some (.int (cnt (ownL sz z0 0 es) b : Nat)), some ow] ∧ RwI H lf pd sz ns es bs i (m + 1) nb ((rs0 ++ if nb < b then [(nb, b - 1, wins sz ns es nb)] else []) ++ [(b, b, wins sz ns es b)]) H' ∧ H' ls = some (.lst (bs.map V.int)), ?_, ?_⟩
      · obtain ⟨xs, hx, prs, hxl⟩ := I.fnd
        refine ⟨.inl ⟨rfl, _, SqL.of hx⟩, ?_⟩
        refine ⟨d, C, dx, _, _, rfl, I.x _ _ hi, L.cl, L.nN, fF_nam _ _ _ _ _ _, a, rfl, ⟨_, SqL.of (I.x _ _ ha)⟩, fun wd nwd => lc_list (K := K) (a := a) (xs := ns.map V.str) (fun j H' => ∃ vs, Ext G H' ∧ H' wd = some (.lst vs) ∧ Paired (WinV H') ((seenW sz ns es z0 b).take j) vs ∧ vs.length = j) ⟨[], Ext.upd nwd, upd_same, .nil, rfl⟩ (fun j H' _ t => by obtain ⟨_, x, _⟩ := t; exact SqL.of (x _ _ (I.x _ _ ha))) ?_ ?_⟩
        · rintro j y G1 hy ⟨vs, xG, hw, pw, vl⟩
          obtain ⟨z, hz, rfl⟩ := map_at hy
          have hj := (List.getElem?_eq_some_iff.mp hz).1
          refine ⟨rfl, goY (ifT (by rfl) ?_)⟩
          have st : ∀ v : V, TupSt G1 (upd G1 wd (.lst (vs ++ [v]))) := fun v => TupSt.upd hw (fun _ z => nomatch z)
          have e : (seenW sz ns es z0 b).take (j + 1) = (seenW sz ns es z0 b).take j ++ [if z = z0 then some (loAt (ownL sz z0 0 es) (cnt (ownL sz z0 0 es) b), hiAt (ownL sz z0 0 es) es.length (cnt (ownL sz z0 0 es) b)) else none] := by
            unfold seenW
            rw [List.take_succ, List.getElem?_map, hz]; rfl
          refine ifD (p := z = z0) (fun ez => ?_) (fun nz => ?_)
          · refine ⟨vs, hw, Nat.lt_of_le_of_lt (show vs.length ≤ 12 by omega) (by decide), vs ++ [ow], put_ext xG nwd, upd_same, ?_, by rw [List.length_append, vl]; rfl⟩
            rw [e, if_pos ez]
            exact pApp (Paired.mapP pw fun _ _ q => q.st (st _)) (.cons ((wv.mono xG).st (st _)) .nil)
          · refine ⟨vs, hw, Nat.lt_of_le_of_lt (show vs.length ≤ 12 by omega) (by decide), vs ++ [.non], put_ext xG nwd, upd_same, ?_, by rw [List.length_append, vl]; rfl⟩
            rw [e, if_neg nz]
            exact pApp (Paired.mapP pw fun _ _ q => q.st (st _)) (.cons (show WinV _ none .non from rfl) .nil)
        rintro G1 ⟨vs, xG, hw, pw, vl⟩
        have gl : (seenW sz ns es z0 b).length = ns.length := by unfold seenW; rw [List.length_map]
        rw [List.length_map, ← gl, List.take_length] at pw
        refine ⟨(by show 3 ≤ sizeLine; decide), fun tp ntp => ?_⟩
        have xp := Ext.upd (o := .tup [.int b, .int b, .ref wd]) ntp
        have ct : (upd G1 tp (.tup [.int b, .int b, .ref wd])) tp = some (.tup [.int b, .int b, .ref wd]) := upd_same
        have hw := xp _ _ hw
        have pw := Paired.mapP pw fun _ _ q => q.mono xp
        have xG := xG.trans xp
        generalize upd G1 tp (.tup [.int b, .int b, .ref wd]) = G2 at ct hw pw xG ⊢
        have wdf : wd ≠ lf := (ne_of_none hx nwd).symm
        have hx2 := xG _ _ hx
        have e : seenW sz ns es z0 b = wins sz ns es b := seen_wins (fun z => cl.asc so1 z) he0 hn0 hb0 (fun z hz => by
          obtain ⟨j, f, h1, h2, h3⟩ := hol_mem.mp hz
          rw [← h2, ← hn0]
          exact cl.same _ _ _ _ h1 he0 (by rw [h3, hb0]))
        rw [e] at pw
        have r2 : RowX lf G2 (b, b, wins sz ns es b) (.ref tp) := ⟨tp, wd, vs, rfl, ct, wdf, hw, pw⟩
        refine ⟨lf, xs, _, rfl, rfl, hx2, Nat.lt_of_le_of_lt (show xs.length ≤ 200 by omega) (by decide), _, rfl, ?_, keepL (xG _ _ cls)⟩
        exact (I.ext xG).row nlf hx2 r2
      clear I cls wv
      rintro σ G ⟨v4, rfl, I, cls⟩
      -- its entries are passed
      obtain ⟨ts, hts, pts⟩ := hls z0 z0n
      have tl := pLen pts
      have asc0 := cl.asc so1 z0
      have dgO : DGet G od (.str z0) (some (.ref (q z0))) := by
        have := DGet.k (k := (Sum.inr z0 : Key)) (I.x _ _ ho)
        rw [valV_kvR, if_pos z0n] at this
        exact this
      have htsG := I.x _ _ hts
      have cmono : cnt (ownL sz z0 0 es) b ≤ cnt (ownL sz z0 0 es) (b + 1) := by
        unfold cnt
        rw [← List.countP_eq_length_filter, ← List.countP_eq_length_filter]
        refine List.countP_mono_left fun p _ h => ?_
        have := of_decide_eq_true h
        exact decide_eq_true (by omega)
      refine ⟨fun σ H' => σ = [some (.ref d), some (.ref lf), some (.int nb), some (.ref pd), v4, some (.int b), some (.str z0), some (.int (cnt (ownL sz z0 0 es) (b + 1) : Nat)), some ow] ∧ H' = G, ?_, ?_⟩
      · refine ⟨fun mm σ H' => ∃ p : Nat, σ = [some (.ref d), some (.ref lf), some (.int nb), some (.ref pd), v4, some (.int b), some (.str z0), some (.int (p : Nat)), some ow] ∧ H' = G ∧ cnt (ownL sz z0 0 es) b ≤ p ∧ p ≤ cnt (ownL sz z0 0 es) (b + 1) ∧ mm = cnt (ownL sz z0 0 es) (b + 1) - p, ⟨_, _, rfl, rfl, Nat.le_refl _, cmono, rfl⟩, ?_⟩
        rintro mm σ G' ⟨p, rfl, rfl, p1, p2, rfl⟩
        have pl := cnt_le (ownL sz z0 0 es) (b + 1)
        refine ⟨d, C, dx, _, _, rfl, I.x _ _ hi, L.cl, L.nO, fF_own _ _ _ _ _ _, od, _, rfl, dgO, _, _, rfl, .inl ⟨_, SqL.of htsG, rfl⟩, ?_⟩
        refine ifD (p := ((p : Nat) : Int) < (ts.length : Int)) (fun lt_ => ?_) (fun ge => ?_)
        · have lt' : p < (ownL sz z0 0 es).length := by omega
          have hx : (ownL sz z0 0 es)[p]? = some (ownL sz z0 0 es)[p] := List.getElem?_eq_getElem lt'
          generalize (ownL sz z0 0 es)[p] = x at hx
          obtain ⟨v, hv, t, rfl, ht⟩ := pGet pts hx
          have c1 := cnt_lt asc0 (c := b) hx
          have c2 := cnt_lt asc0 (c := b + 1) hx
          refine ⟨d, C, dx, _, _, rfl, I.x _ _ hi, L.cl, L.nO, fF_own _ _ _ _ _ _, od, _, rfl, dgO, _, .ref t, .inl (SqL.of htsG), atI_nat (j := p) hv, _, _, .inr (SqT.of (I.x _ _ ht)), atI_nat (j := 1) rfl, ?_⟩
          refine ifD (p := x.2 = b) (fun e => ?_) (fun n => ?_)
          · have : p < cnt (ownL sz z0 0 es) (b + 1) := c2.mp (by omega)
            refine ⟨fun σ H' => σ = [some (.ref d), some (.ref lf), some (.int nb), some (.ref pd), v4, some (.int b), some (.str z0), some (.int ((p + 1 : Nat) : Int)), some ow] ∧ H' = G', fun σ' H' ⟨e1, e2⟩ => ⟨_, by omega, p + 1, e1, e2, by omega, by omega, rfl⟩, ?_⟩
            exact ⟨_, rfl, _, _, rfl, rfl, rfl, rfl⟩
          · have : ¬ p < cnt (ownL sz z0 0 es) (b + 1) := fun z => by
              have := c2.mpr z
              have : ¬ x.2 < b := fun y => by have := c1.mp y; omega
              omega
            have pe : p = cnt (ownL sz z0 0 es) (b + 1) := by omega
            exact ⟨by rw [pe], rfl⟩
        · have pe : p = cnt (ownL sz z0 0 es) (b + 1) := by omega
          exact ⟨by rw [pe], rfl⟩
      rintro σ G' ⟨rfl, rfl⟩
      obtain ⟨xs, hx, prs, hxl⟩ := I.fnd
      obtain ⟨kvs, hp, hkp, hpv⟩ := I.pas
      refine ⟨fun σ H' => σ = [some (.ref d), some (.ref lf), some (.int nb), some (.ref pd), v4, some (.int b), some (.str z0), some (.int (cnt (ownL sz z0 0 es) (b + 1) : Nat)), some ow] ∧ H' = upd G' pd (.dK (putK kvs (Sum.inr z0) (.int (cnt (ownL sz z0 0 es) (b + 1) : Nat)))), ?_, ?_⟩
      · refine ⟨pd, _, rfl, .inl ⟨kvs, Sum.inr z0, hp, rfl, Nat.lt_of_le_of_lt (show kvs.length ≤ 100 by omega) (by decide), rfl⟩, ?_⟩
        exact ⟨rfl, rfl⟩
      rintro σ G2 ⟨rfl, rfl⟩
      have lsp : ls ≠ pd := ne_of cls hp (fun z => nomatch z)
      have tk : bs.take (i + 1) = bs.take i ++ [b] := by rw [List.take_succ, hb]; rfl
      have en1 : nbOf (bs.take (i + 1)) = b + 1 := by rw [tk, nbOf_snoc]
      have er1 : rowsF sz ns es 0 (bs.take (i + 1)) = (rs0 ++ if nb < b then [(nb, b - 1, wins sz ns es nb)] else []) ++ [(b, b, wins sz ns es b)] := by
        rw [tk, rowsF_step (bsS.sublist (List.take_sublist _ _)) (fun c hc => bs0 c (List.mem_of_mem_take hc)) (fun c hc => (srt_take bsS hb c (List.mem_of_mem_take hc)).mpr hc), enb0, erw, List.append_assoc]
      rw [en1, er1]
      refine ⟨_, _, _, _, _, rfl, ⟨put_ext I.x npd, ⟨xs, by rw [upd_ne (ne_of hx hp (fun z => nomatch z))]; exact hx, Paired.mapP prs fun _ _ q => q.updD hp, by omega⟩, ⟨_, upd_same, Nat.le_trans (length_putK _ _ _) (by omega), fun z hz => ?_⟩, by omega, fun c hc => ?_⟩, by rw [upd_ne lsp]; exact cls⟩
      · rw [valV_put]
        by_cases e : z = z0
        · rw [if_pos (by rw [e]), e]
        · rw [if_neg (fun y => e (Sum.inr.inj y)), hpv z hz]
          have : cnt (ownL sz z 0 es) (b + 1) = cnt (ownL sz z 0 es) nb := cnt_same (by omega) fun p hp' y => by
            rcases Int.lt_or_le p.2 b with y2 | y2
            · exact noB p.2 (own_bs hp') ⟨y.1, y2⟩
            · have eb : p.2 = b := by omega
              have m := own_seen hp'
              rw [eb] at m
              obtain ⟨j, f, h1, h2, h3⟩ := hol_mem.mp m
              have := cl.same _ _ _ _ h1 he0 (by rw [h3, hb0])
              rw [h2, hn0] at this
              exact e this
          rw [this]
      · have := srt_take bsS hb c hc
        rw [tk, List.mem_append, List.mem_singleton, ← this]
        omega
    · rintro σ G ⟨v4, v5, v6, v7, v8, rfl, I, _⟩
      obtain ⟨xs, hx, prs, hxl⟩ := I.fnd
      rw [List.length_map] at hxl
      rw [List.length_map, List.take_length] at prs
      exact k G lf xs bs I.x hx SB prs (by omega)
end
end NB

set_option Elab.async false
set_option linter.all false
set_option maxRecDepth 100000
set_option maxHeartbeats 8000000
/-! K4i (k41): faults, exactly, and the walk from below -/
namespace NB
open PySem PySem.Spec L2
open PyProof.Rows (envOfC)
open C8 (pe_c pe_mk pe_mt pe_mt0 pe_gc fnScope fnBody fnArgs fnScope_by Cal Met Mak)
mutual
theorem Dp.up {K : PySem.W.Frag} {H H' : Hp} (x : Ext H H') : ∀ (d : PyData) (v : V), Dp K H v d → Dp K H' v d
  | _, _, .non => .non
  | _, _, .bl b => .bl b
  | _, _, .int i => .int i
  | _, _, .str z => .str z
  | _, _, .lst h q => .lst (SqL.ext h x) (Dp.upAll x _ _ q)
  | _, _, .tup h q => .tup (SqT.ext h x) (Dp.upAll x _ _ q)
theorem Dp.upAll {K : PySem.W.Frag} {H H' : Hp} (x : Ext H H') : ∀ (ds : List PyData) (vs : List V), DpAll K H vs ds → DpAll K H' vs ds
  | _, _, .nil => .nil
  | _, _, .cons r q => .cons (Dp.up x _ _ r) (Dp.upAll x _ _ q)
end
/-- an obstacle: a tuple with items -/
def ObsV (K : PySem.W.Frag) (H : Hp) (v : V) : Prop := ∃ (t : Addr) (k : Str) (ds : List PyData), v = .ref t ∧ Dp K H v (.tuple (.str k :: ds)) ∧ SeqAt.shaped (.tuple (.str k :: ds)) = true
theorem shaped_tup {ds : List PyData} {n : Nat} (h : ∀ d ∈ ds, d.canLay0 = true ∧ d.depth ≤ n) (hn : n < 60) : SeqAt.shaped (.tuple ds) = true ∧ (PyData.tuple ds).canLay0 = true ∧ (PyData.tuple ds).depth ≤ n + 1 := by
  have z := all_depth fun d hd => (h d hd).2
  have c : (PyData.tuple ds).canLay0 = true := by
    show PyData.canLayAll0 ds = true
    exact all_canLay fun d hd => (h d hd).1
  have d : (PyData.tuple ds).depth ≤ n + 1 := by
    show PyData.depthAll ds + 1 ≤ n + 1
    omega
  exact ⟨Bool.and_eq_true_iff.mpr ⟨c, decide_eq_true (Nat.le_trans d (by omega))⟩, c, d⟩
theorem obs3 {K : PySem.W.Frag} {H : Hp} {t : Addr} {k : Str} {i j : Int} (hk : PyData.canLay0 (.str k) = true) (h : H t = some (.tup [.str k, .int i, .int j])) : ObsV K H (.ref t) := by
  refine ⟨t, k, [.int i, .int j], rfl, .tup (SqT.of h) (.cons (.str _) (.cons (.int _) (.cons (.int _) .nil))), (shaped_tup (n := 0) (fun d hd => ?_) (by decide)).1⟩
  simp only [List.mem_cons, List.not_mem_nil, or_false] at hd
  rcases hd with rfl | rfl | rfl
  · exact ⟨hk, Nat.le_refl _⟩
  · exact ⟨rfl, Nat.le_refl _⟩
  · exact ⟨rfl, Nat.le_refl _⟩
/-- a step of a walk that stops -/
def StepAt (H : Hp) (s : Int × Int) (v : V) : Prop := ∃ t, v = .ref t ∧ H t = some (.tup [.int s.1, .int s.2])
theorem obsP {K : PySem.W.Frag} {H : Hp} {t l : Addr} {k : Str} {st : List (Int × Int)} {ys : List V} (hk : PyData.canLay0 (.str k) = true) (h : H t = some (.tup [.str k, .ref l])) (hl : H l = some (.lst ys)) (p : Paired (StepAt H) st ys) : ObsV K H (.ref t) := by
  have dp : ∀ {st : List (Int × Int)} {ys : List V}, Paired (StepAt H) st ys → DpAll K H ys (st.map fun s => PyData.tuple [.int s.1, .int s.2]) := by
    intro st ys p
    induction p with
    | nil => exact .nil
    | cons r q ih =>
      obtain ⟨t, rfl, ht⟩ := r
      exact .cons (.tup (SqT.of ht) (.cons (.int _) (.cons (.int _) .nil))) ih
  refine ⟨t, k, [.list (st.map fun s => PyData.tuple [.int s.1, .int s.2])], rfl, .tup (SqT.of h) (.cons (.str _) (.cons (.lst (SqL.of hl) (dp p)) .nil)), (shaped_tup (n := 2) (fun d hd => ?_) (by decide)).1⟩
  simp only [List.mem_cons, List.not_mem_nil, or_false] at hd
  rcases hd with rfl | rfl
  · exact ⟨hk, Nat.zero_le _⟩
  · have e : ∀ d ∈ (st.map fun s => PyData.tuple [.int s.1, .int s.2]), d.canLay0 = true ∧ d.depth ≤ 1 := by
      intro d hd
      obtain ⟨s, _, rfl⟩ := List.mem_map.mp hd
      refine (shaped_tup (n := 0) (fun d hd => ?_) (by decide)).2
      simp only [List.mem_cons, List.not_mem_nil, or_false] at hd
      rcases hd with rfl | rfl <;> exact ⟨rfl, Nat.le_refl _⟩
    refine ⟨?_, ?_⟩
    · show PyData.canLayAll0 _ = true
      exact all_canLay fun d hd => (e d hd).1
    · have := all_depth fun d hd => (e d hd).2
      show PyData.depthAll _ + 1 ≤ 2
      omega
theorem Clean.step {sz : Int} {es : List (Str × Int)} {i : Nat} {e : Str × Int} (h : Clean sz (es.take i)) (he : es[i]? = some e) (n : ∀ (j : Nat) (f : Str × Int), j < i → es[j]? = some f → f.2 ≠ e.2) (s : ∀ (j : Nat) (f : Str × Int), j < i → es[j]? = some f → f.2 / sz = e.2 / sz → f.1 = e.1)
    (d : ∀ (j : Nat) (f : Str × Int), j < i → es[j]? = some f → f.1 = e.1 → f.2 < e.2) : Clean sz (es.take (i + 1)) := by
  have at_ : ∀ {j : Nat} {f : Str × Int}, (es.take (i + 1))[j]? = some f → (j < i ∧ es[j]? = some f ∧ (es.take i)[j]? = some f) ∨ (j = i ∧ f = e) := by
    intro j f hf
    rw [List.getElem?_take] at hf
    split at hf
    · rename_i lt
      rcases Nat.lt_or_ge j i with q | q
      · exact .inl ⟨q, hf, by rw [List.getElem?_take, if_pos q]; exact hf⟩
      · have : j = i := by omega
        subst this
        rw [he] at hf
        exact .inr ⟨rfl, (Option.some.inj hf).symm⟩
    · cases hf
  refine ⟨fun a b f g ab hf hg => ?_, fun a b f g hf hg q => ?_, fun a b f g ab hf hg q => ?_⟩
  · rcases at_ hf with ⟨l1, f1, f2⟩ | ⟨l1, rfl⟩ <;> rcases at_ hg with ⟨l2, g1, g2⟩ | ⟨l2, rfl⟩
    · exact h.num a b f g ab f2 g2
    · exact n a f l1 f1
    · omega
    · omega
  · rcases at_ hf with ⟨l1, f1, f2⟩ | ⟨l1, rfl⟩ <;> rcases at_ hg with ⟨l2, g1, g2⟩ | ⟨l2, rfl⟩
    · exact h.same a b f g f2 g2 q
    · exact s a f l1 f1 q
    · exact (s b g l2 g1 q.symm).symm
    · rfl
  · rcases at_ hf with ⟨l1, f1, f2⟩ | ⟨l1, rfl⟩ <;> rcases at_ hg with ⟨l2, g1, g2⟩ | ⟨l2, rfl⟩
    · exact h.D a b f g ab f2 g2 q
    · exact d a f l1 f1 q
    · omega
    · omega
/-- a certificate of two entries -/
def FaultV (H : Hp) (sz : Int) (es : List (Str × Int)) (v : V) : Prop := ∃ (t : Addr) (k : Str) (i j : Nat) (e f : Str × Int), v = .ref t ∧ H t = some (.tup [.str k, .int (i : Nat), .int (j : Nat)]) ∧ i < j ∧ es[i]? = some e ∧ es[j]? = some f ∧
  ((k = "twice" ∧ e.2 = f.2) ∨ (k = "shared" ∧ e.1 ≠ f.1 ∧ e.2 / sz = f.2 / sz) ∨ (k = "back" ∧ e.1 = f.1 ∧ f.2 < e.2))
theorem FaultV.dirty {H : Hp} {sz : Int} {es : List (Str × Int)} {v : V} (h : FaultV H sz es v) : ¬ Clean sz es := fun c => by
  obtain ⟨t, k, i, j, e, f, _, _, lt, he, hf, h | h | h⟩ := h
  · exact c.num i j e f lt he hf h.2
  · exact h.2.1 (c.same i j e f he hf h.2.2)
  · have := c.D i j e f lt he hf h.2.1
    omega
theorem FaultV.mono {H H' : Hp} {sz : Int} {es : List (Str × Int)} {v : V} (h : FaultV H sz es v) (x : Ext H H') : FaultV H' sz es v := by
  obtain ⟨t, k, i, j, e, f, h1, h2, h3⟩ := h
  exact ⟨t, k, i, j, e, f, h1, x _ _ h2, h3⟩
theorem FaultV.obs {K : PySem.W.Frag} {H : Hp} {sz : Int} {es : List (Str × Int)} {v : V} (h : FaultV H sz es v) : ObsV K H v := by
  obtain ⟨t, k, i, j, e, f, rfl, h2, _, _, _, h | h | h⟩ := h <;> (obtain ⟨rfl, _⟩ := h; exact obs3 (by decide +kernel) h2)
/-- the certificate that is found: which one it is -/
def FaultX (H : Hp) (sz : Int) (es : List (Str × Int)) (v : V) : Prop := ∃ (t : Addr) (k : Str) (i j : Nat) (e f : Str × Int), v = .ref t ∧ H t = some (.tup [.str k, .int (i : Nat), .int (j : Nat)]) ∧ i < j ∧ es[i]? = some e ∧ es[j]? = some f ∧ Clean sz (es.take j) ∧
  ((k = "twice" ∧ e.2 = f.2) ∨
   (k = "shared" ∧ (∀ (i' : Nat) (e' : Str × Int), i' < j → es[i']? = some e' → e'.2 ≠ f.2) ∧ e.1 ≠ f.1 ∧ e.2 / sz = f.2 / sz ∧ ∀ (i' : Nat) (e' : Str × Int), i' < i → es[i']? = some e' → e'.2 / sz ≠ f.2 / sz) ∨
   (k = "back" ∧ (∀ (i' : Nat) (e' : Str × Int), i' < j → es[i']? = some e' → e'.2 ≠ f.2) ∧ (∀ (i' : Nat) (e' : Str × Int), i' < j → es[i']? = some e' → e'.2 / sz = f.2 / sz → e'.1 = f.1) ∧ e.1 = f.1 ∧ f.2 < e.2 ∧ ∀ (i' : Nat) (e' : Str × Int), i < i' → i' < j → es[i']? = some e' → e'.1 ≠ f.1))
theorem FaultX.toV {H : Hp} {sz : Int} {es : List (Str × Int)} {v : V} (h : FaultX H sz es v) : FaultV H sz es v := by
  obtain ⟨t, k, i, j, e, f, h1, h2, h3, h4, h5, _, h | h | h⟩ := h
  · exact ⟨t, k, i, j, e, f, h1, h2, h3, h4, h5, .inl h⟩
  · exact ⟨t, k, i, j, e, f, h1, h2, h3, h4, h5, .inr (.inl ⟨h.1, h.2.2.1, h.2.2.2.1⟩)⟩
  · exact ⟨t, k, i, j, e, f, h1, h2, h3, h4, h5, .inr (.inr ⟨h.1, h.2.2.2.1, h.2.2.2.2.1⟩)⟩
theorem FaultX.mono {H H' : Hp} {sz : Int} {es : List (Str × Int)} {v : V} (h : FaultX H sz es v) (x : Ext H H') : FaultX H' sz es v := by
  obtain ⟨t, k, i, j, e, f, h1, h2, h3⟩ := h
  exact ⟨t, k, i, j, e, f, h1, x _ _ h2, h3⟩
/-- two entries that bar one another are not both ahead -/
theorem FaultX.late {H : Hp} {sz : Int} {es : List (Str × Int)} {v : V} (h : FaultX H sz es v) {n : Nat} (c : Clean sz (es.take n)) : ∃ t k i j e f, v = .ref t ∧ H t = some (.tup [.str k, .int ((i : Nat) : Int), .int ((j : Nat) : Int)]) ∧ n ≤ j ∧ es[i]? = some e ∧ es[j]? = some f := by
  obtain ⟨t, k, i, j, e, f, h1, h2, h3, h4, h5, _, h⟩ := h
  refine ⟨t, k, i, j, e, f, h1, h2, ?_, h4, h5⟩
  rcases Nat.lt_or_ge j n with q | q
  · exfalso
    have hi : (es.take n)[i]? = some e := by rw [List.getElem?_take, if_pos (by omega)]; exact h4
    have hj : (es.take n)[j]? = some f := by rw [List.getElem?_take, if_pos q]; exact h5
    rcases h with h | h | h
    · exact c.num i j e f h3 hi hj h.2
    · exact h.2.2.1 (c.same i j e f hi hj h.2.2.2.1)
    · have := c.D i j e f h3 hi hj h.2.2.2.1
      have := h.2.2.2.2.1
      omega
  · exact q
/-- there is one certificate -/
theorem FaultX.uniq {H H' : Hp} {sz : Int} {es : List (Str × Int)} {v v' : V} (h : FaultX H sz es v) (g : FaultX H' sz es v') : ∃ (t t' : Addr) (k : Str) (i j : Nat), v = .ref t ∧ v' = .ref t' ∧ H t = some (.tup [.str k, .int (i : Nat), .int (j : Nat)]) ∧ H' t' = some (.tup [.str k, .int (i : Nat), .int (j : Nat)]) ∧ PyData.canLay0 (.str k) = true ∧ k.length ≤ 10 := by
  obtain ⟨t, k, i, j, e, f, rfl, h2, h3, h4, h5, hc, hk⟩ := id h
  obtain ⟨t', k', i', j', e', f', rfl, g2, g3, g4, g5, gc, gk⟩ := id g
  obtain ⟨_, _, _, j1, _, _, q1, q2, q3, _⟩ := h.late gc
  obtain ⟨_, _, _, j2, _, _, p1, p2, p3, _⟩ := g.late hc
  obtain rfl := V.ref.inj q1
  obtain rfl := V.ref.inj p1
  rw [h2] at q2
  rw [g2] at p2
  have e1 : (j : Int) = j1 := by simpa using (List.cons.inj (List.cons.inj (List.cons.inj (HO.tup.inj (Option.some.inj q2))).2).2).1
  have e2 : (j' : Int) = j2 := by simpa using (List.cons.inj (List.cons.inj (List.cons.inj (HO.tup.inj (Option.some.inj p2))).2).2).1
  have ej : j = j' := by omega
  subst ej
  obtain rfl : f = f' := Option.some.inj (h5.symm.trans g5)
  have at_ : ∀ {a : Nat} {x : Str × Int}, a < j → es[a]? = some x → (es.take j)[a]? = some x := fun l h => by rw [List.getElem?_take, if_pos l]; exact h
  have fin : k = k' → i = i' → PyData.canLay0 (.str k) = true ∧ k.length ≤ 10 → ∃ (t0 t0' : Addr) (k0 : Str) (i0 j0 : Nat), V.ref t = .ref t0 ∧ V.ref t' = .ref t0' ∧ H t0 = some (.tup [.str k0, .int (i0 : Nat), .int (j0 : Nat)]) ∧ H' t0' = some (.tup [.str k0, .int (i0 : Nat), .int (j0 : Nat)]) ∧ PyData.canLay0 (.str k0) = true ∧ k0.length ≤ 10 := fun a b c => by
    subst a b
    exact ⟨t, t', k, i, j, rfl, rfl, h2, g2, c.1, c.2⟩
  rcases hk with h | h | h <;> rcases gk with g | g | g
  · refine fin (h.1.trans g.1.symm) ?_ (by rw [h.1]; decide +kernel)
    rcases Nat.lt_trichotomy i i' with q | q | q
    · exact absurd (h.2.trans g.2.symm) (hc.num i i' e e' q (at_ h3 h4) (at_ g3 g4))
    · exact q
    · exact absurd (g.2.trans h.2.symm) (hc.num i' i e' e q (at_ g3 g4) (at_ h3 h4))
  · exact absurd h.2 (g.2.1 i e h3 h4)
  · exact absurd h.2 (g.2.1 i e h3 h4)
  · exact absurd g.2 (h.2.1 i' e' g3 g4)
  · refine fin (h.1.trans g.1.symm) ?_ (by rw [h.1]; decide +kernel)
    rcases Nat.lt_trichotomy i i' with q | q | q
    · exact absurd h.2.2.2.1 (g.2.2.2.2 i e q h4)
    · exact q
    · exact absurd g.2.2.2.1 (h.2.2.2.2 i' e' q g4)
  · exact absurd (g.2.2.1 i e h3 h4 h.2.2.2.1) h.2.2.1
  · exact absurd g.2 (h.2.1 i' e' g3 g4)
  · exact absurd (h.2.2.1 i' e' g3 g4 g.2.2.2.1) g.2.2.1
  · refine fin (h.1.trans g.1.symm) ?_ (by rw [h.1]; decide +kernel)
    rcases Nat.lt_trichotomy i i' with q | q | q
    · exact absurd g.2.2.2.1 (h.2.2.2.2.2 i' e' q g3 g4)
    · exact q
    · exact absurd h.2.2.2.1 (g.2.2.2.2.2 i e q h3 h4)
structure Tf (mg : Str → Option Value) : Prop extends Tb mg where
  n_zip : mg "zip" = none
  g_TWICE : GV mg "TWICE" (.str "twice")
  g_SHARED : GV mg "SHARED" (.str "shared")
  g_BACK : GV mg "BACK" (.str "back")
  g_PUSHED : GV mg "PUSHED" (.str "pushed")
def spPlain (K : PySem.W.Frag) (C : Addr) : Sp := fun vs H Q _ => ∃ d sz ns es, vs = [.ref d] ∧ FactsAt C H d sz ns es ∧ es.length ≤ 200 ∧ SizeOk sz ∧ (∀ H', Ext H H' → Clean sz es → Q .non H') ∧ ∀ H' v, Ext H H' → FaultX H' sz es v → Q v H'
def spLeast : Sp := fun vs H Q _ => ∃ (w : Addr) (us : List V) (ws : List Win) (s : Int), vs = [.ref w, .int s] ∧ H w = some (.lst us) ∧ Paired (WinV H) ws us ∧ ws.length ≤ 12 ∧ ∀ H', Ext H H' → (cand s ws = [] → Q .non H') ∧ ∀ m ∈ cand s ws, (∀ y ∈ cand s ws, m ≤ y) → Q (.int m) H'
/-- max(start, window[0]) -/
def tMx0 (K : PySem.W.Frag) : TE := tCB (fun xs H Q => ∃ i j, xs = [.int i, .int j] ∧ Q (.int (if j > i then j else i)) H) (tCons (mV 1) (tCons (tOp (mIx K) (mV 3) (tC (.int 0))) tNil))
/-- between two entries -/
structure PlI (H : Hp) (d1 d2 d3 : Addr) (sz : Int) (es : List (Str × Int)) (i : Nat) (H' : Hp) : Prop where
  x : Ext H H'
  a : ∃ k, H' d1 = some (.dK k) ∧ k.length ≤ i ∧ (∀ (m : Int) v, valV k (Sum.inl m) = some v → ∃ j e, j < i ∧ v = .int (j : Nat) ∧ es[j]? = some e ∧ e.2 = m) ∧ ∀ (m : Int), valV k (Sum.inl m) = none → ∀ (j : Nat) (e : Str × Int), j < i → es[j]? = some e → e.2 ≠ m
  b : ∃ k, H' d2 = some (.dK k) ∧ k.length ≤ i ∧ (∀ (m : Int) v, valV k (Sum.inl m) = some v → ∃ j e, j < i ∧ v = .int (j : Nat) ∧ es[j]? = some e ∧ e.2 / sz = m ∧ ∀ (j' : Nat) (e' : Str × Int), j' < j → es[j']? = some e' → e'.2 / sz ≠ m) ∧ ∀ (m : Int), valV k (Sum.inl m) = none → ∀ (j : Nat) (e : Str × Int), j < i → es[j]? = some e → e.2 / sz ≠ m
  c : ∃ k, H' d3 = some (.dK k) ∧ k.length ≤ i ∧ (∀ (z : Str) v, valV k (Sum.inr z) = some v → ∃ j e, j < i ∧ v = .int (j : Nat) ∧ es[j]? = some e ∧ e.1 = z ∧ (∀ (j' : Nat) (e' : Str × Int), j' < i → es[j']? = some e' → e'.1 = z → e'.2 ≤ e.2) ∧ ∀ (j' : Nat) (e' : Str × Int), j < j' → j' < i → es[j']? = some e' → e'.1 ≠ z) ∧ ∀ (z : Str), valV k (Sum.inr z) = none → ∀ (j : Nat) (e : Str × Int), j < i → es[j]? = some e → e.1 ≠ z
  cl : Clean sz (es.take i)
section
variable {P : Program} {w : World} {K : PySem.W.Frag} {mg : Str → Option Value} {base : Heap} {C : Addr}
theorem ok_plain (T : Tf mg) (L : FactC K C) {f : Addr} {fd : FuncData} (D : Mx K "plain_fault" "Facts.plain_fault" s_Facts_plain_fault ["self"] f fd) : FnOk P w K mg base C8.CX0 1 f fd ["self"] (spPlain K C) := by
  refine fn_of' D sc_Facts_plain_fault (fun vs H Q E h => ?_) (fun cdv A o s H vs Q E hr h => ?_)
  · obtain ⟨d, sz, ns, es, rfl, _⟩ := h; rfl
  · obtain ⟨d, sz, ns, es, rfl, ⟨dx, a, l, lb, hd, od, g, q, xs, hi, hl, el, fd, ha, hlb, _⟩, h200, so, k, kf⟩ := h
    have hle := el.len
    refine ⟨_, (C8.pss_cut (ps_par3 (i := 1) (j := 2) (l := 3) rfl sc_Facts_plain_fault.nd rfl rfl rfl (by decide) (by decide) (by decide) rfl rfl rfl (pa_cons pe_dnewK (pa_cons pe_dnewK (pa_cons pe_dnewK pa_nil))) (by rfl))
    (pss_cons (ps_for PassesOwn.never rfl (pi_enum (by rfl) T.n_enumerate (pa_cons (pe_fld (mv 0) rfl) pa_nil)) (pg_tup rfl (pgs_cons (pg_name (i := 4) sc_Facts_plain_fault.nd rfl (Or.inl rfl)) (pgs_cons (pg_tup rfl (pgs_cons (pg_name (i := 5) sc_Facts_plain_fault.nd rfl (Or.inl rfl)) (pgs_cons (pg_name (i := 6) sc_Facts_plain_fault.nd rfl (Or.inl rfl)) pgs_nil))) pgs_nil)))
    (pss_cons (ps_if (pt_cmp (pc_din (u2 hr) (mv 6) (mv 1))) (pss_one (ps_ret (pe_tup (pa_cons (pe_gc rfl T.g_TWICE) (pa_cons (pe_dget (u2 hr) (mv 1) (mv 6) (fun _ _ => rfl)) (pa_cons (mv 4) pa_nil)))))) pss_nil)
    (pss_cons (ps_set (i := 7) sc_Facts_plain_fault.nd rfl (Or.inl rfl) (pe_dget2 (u2 hr) (mv 2) (pe_ix m_ix (pe_fld (mv 0) rfl) (mv 4) (fun _ _ => rfl)) (mv 4) ⟨rfl, rfl, rfl, rfl⟩))
    (pss_cons (ps_if (qt m_ne (pe_ix m_ix (pe_ix m_ix (pe_fld (mv 0) rfl) (mv 7) (fun _ _ => rfl)) pe_int (fun _ _ => rfl)) (mv 5) (nomark _)) (pss_one (ps_ret (pe_tup (pa_cons (pe_gc rfl T.g_SHARED) (pa_cons (mv 7) (pa_cons (mv 4) pa_nil)))))) pss_nil)
    (pss_cons (ps_set (i := 7) sc_Facts_plain_fault.nd rfl (Or.inl rfl) (pe_dget2 (u2 hr) (mv 3) (mv 5) (mv 4) ⟨rfl, rfl, rfl, rfl⟩))
    (pss_cons (ps_if (qt m_gt (pe_ix m_ix (pe_ix m_ix (pe_fld (mv 0) rfl) (mv 7) (fun _ _ => rfl)) pe_int (fun _ _ => rfl)) (mv 6) (nomark _)) (pss_one (ps_ret (pe_tup (pa_cons (pe_gc rfl T.g_BACK) (pa_cons (mv 7) (pa_cons (mv 4) pa_nil)))))) pss_nil)
    (pss_cons (ps_asg (mv 4) (pg_sub (mv 1) (mv 6) (set_dict (u2 hr))))
    (pss_cons (ps_asg (pe_dget2 (u2 hr) (mv 2) (pe_ix m_ix (pe_fld (mv 0) rfl) (mv 4) (fun _ _ => rfl)) (mv 4) ⟨rfl, rfl, rfl, rfl⟩) (pg_sub (mv 2) (pe_ix m_ix (pe_fld (mv 0) rfl) (mv 4) (fun _ _ => rfl)) (set_dict (u2 hr))))
    (pss_one (ps_asg (mv 4) (pg_sub (mv 3) (mv 5) (set_dict (u2 hr)))))))))))))
    (pss_one (ps_ret pe_non)))), ?_⟩
    refine ⟨fun σ H' => ∃ d1 d2 d3, σ = [some (.ref d), some (.ref d1), some (.ref d2), some (.ref d3), none, none, none, none] ∧ H d1 = none ∧ H d2 = none ∧ H d3 = none ∧ d1 ≠ d2 ∧ d1 ≠ d3 ∧ d2 ≠ d3 ∧ PlI H d1 d2 d3 sz es 0 H', ?_, ?_⟩
    · refine fun d1 n1 d2 n2 d3 n3 => ⟨_, _, _, rfl, ?_⟩
      have h12 : d1 ≠ d2 := ne_of_none upd_same n2
      have h13 : d1 ≠ d3 := ne_of_none (o := .dK []) (by rw [upd_ne h12]; exact upd_same) n3
      have h23 : d2 ≠ d3 := ne_of_none (o := .dK []) upd_same n3
      have x3 : Ext H (upd (upd (upd H d1 (.dK [])) d2 (.dK [])) d3 (.dK [])) := ((Ext.upd n1).trans (Ext.upd n2)).trans (Ext.upd n3)
      refine ⟨d1, d2, d3, rfl, n1, (upd_none n2).2, (upd_none (upd_none n3).2).2, h12, h13, h23, x3, ⟨[], ?_, Nat.le_refl _, (fun m v h => nomatch h), fun _ _ _ _ h => absurd h (Nat.not_lt_zero _)⟩, ⟨[], ?_, Nat.le_refl _, (fun m v h => nomatch h), fun _ _ _ _ h => absurd h (Nat.not_lt_zero _)⟩, ⟨[], upd_same, Nat.le_refl _, (fun m v h => nomatch h), fun _ _ _ _ h => absurd h (Nat.not_lt_zero _)⟩, ⟨(fun a b e f _ h => by simp at h), (fun a b e f h => by simp at h), (fun a b e f _ h => by simp at h)⟩⟩
      · rw [upd_ne h13, upd_ne h12]; exact upd_same
      · rw [upd_ne h23]; exact upd_same
    rintro σ H1 ⟨d1, d2, d3, rfl, n1, n2, n3, h12, h13, h23, I0⟩
    refine ⟨d, C, dx, _, _, rfl, I0.x _ _ hi, L.cl, L.nE, fF_ent _ _ _ _ _ _, l, xs, rfl, SqL.of (I0.x _ _ hl), for_enum (xs := xs) (fun i σ H' => ∃ v4 v5 v6 v7, σ = [some (.ref d), some (.ref d1), some (.ref d2), some (.ref d3), v4, v5, v6, v7] ∧ PlI H d1 d2 d3 sz es i H') ⟨_, _, _, _, rfl, I0⟩ ?_ ?_ ?_⟩
    · rintro i σ H' _ ⟨_, _, _, _, rfl, I⟩; exact SqL.of (I.x _ _ hl)
    · clear I0
      rintro i x tT σ G0 hx nT ⟨v4, v5, v6, v7, rfl, I⟩
      obtain ⟨⟨who, fig⟩, hv, t, rfl, ht⟩ := EntL.at el hx
      have hi2 : i < es.length := (List.getElem?_eq_some_iff.mp hv).1
      have xT := Ext.upd (o := .tup [.int (i : Nat), .ref t]) nT
      have ct : (upd G0 tT (.tup [.int (i : Nat), .ref t])) tT = some (.tup [.int (i : Nat), .ref t]) := upd_same
      have I : PlI H d1 d2 d3 sz es i (upd G0 tT (.tup [.int (i : Nat), .ref t])) := by
        obtain ⟨x, ⟨k1, a1, a2⟩, ⟨k2, b1, b2⟩, ⟨k3, c1, c2⟩, cl⟩ := I
        exact ⟨x.trans xT, ⟨k1, xT _ _ a1, a2⟩, ⟨k2, xT _ _ b1, b2⟩, ⟨k3, xT _ _ c1, c2⟩, cl⟩
      generalize upd G0 tT (.tup [.int (i : Nat), .ref t]) = G at ct I ⊢
      clear xT nT
      obtain ⟨x, ⟨k1, a1, a2, a3, a4⟩, ⟨k2, b1, b2, b3, b4⟩, ⟨k3, c1, c2, c3, c4⟩, cl⟩ := I
      refine ⟨tT, _, rfl, SqT.of ct, rfl, _, _, rfl, _, _, rfl, t, _, rfl, SqT.of (x _ _ ht), rfl, _, _, rfl, _, _, rfl, rfl, rfl, ?_⟩
      -- no number twice
      refine ⟨d1, _, rfl, DGet.k (k := Sum.inl fig) a1, ?_⟩
      cases no1 : valV k1 (Sum.inl fig) with
      | some v =>
        obtain ⟨j, f, j1, rfl, j2, j3⟩ := a3 _ _ no1
        refine ⟨_, rfl, ifT (by rfl) ?_⟩
        refine ⟨d1, _, rfl, (by have := DGet.k (k := Sum.inl fig) a1; rw [no1] at this; exact this), ?_⟩
        exact ⟨(by show 3 ≤ sizeLine; decide), fun tp ntp => kf _ _ (x.trans (Ext.upd ntp)) ⟨tp, _, j, i, f, _, rfl, upd_same, j1, j2, hv, cl, .inl ⟨rfl, j3⟩⟩⟩
      | none =>
      refine ⟨_, rfl, ifF (by rfl) ?_⟩
      -- no block of two servers
      have hblk : (lb : Addr) = lb := rfl
      have bat : ((es.map fun e => e.2 / sz).map V.int)[i]? = some (.int (fig / sz)) := by rw [List.getElem?_map, List.getElem?_map, hv]; rfl
      have nn : ∀ (j : Nat) (f : Str × Int), j < i → es[j]? = some f → f.2 ≠ fig := fun j f l h => a4 _ no1 j f l h
      obtain ⟨j, f, ej, jf, jb, jle, jfst⟩ : ∃ (j : Nat) (f : Str × Int), (valV k2 (Sum.inl (fig / sz))).getD (.int (i : Nat)) = .int (j : Nat) ∧ es[j]? = some f ∧ f.2 / sz = fig / sz ∧ j ≤ i ∧ ∀ (j' : Nat) (e' : Str × Int), j' < j → es[j']? = some e' → e'.2 / sz ≠ fig / sz := by
        cases e : valV k2 (Sum.inl (fig / sz)) with
        | none => exact ⟨i, _, rfl, hv, rfl, Nat.le_refl _, fun j' e' l h => b4 _ e j' e' l h⟩
        | some v =>
          obtain ⟨j, f, j1, j2, j3, j4, j5⟩ := b3 _ _ e
          exact ⟨j, f, j2, j3, j4, Nat.le_of_lt j1, j5⟩
      refine ⟨d2, rfl, .inl ⟨k2, .inl b1⟩, d, C, dx, _, _, rfl, x _ _ hi, L.cl, L.nB, fF_blk _ _ _ _ _ _, _, .int (fig / sz), .inl (SqL.of (x _ _ hlb)), atI_nat (j := i) bat, valV k2 (Sum.inl (fig / sz)), DGet.k (k := Sum.inl (fig / sz)) b1, ?_⟩
      rw [ej]
      obtain ⟨vf, hvf, tf, rfl, htf⟩ := pGet (R := EntAt H) el jf
      refine ⟨d, C, dx, _, _, rfl, x _ _ hi, L.cl, L.nE, fF_ent _ _ _ _ _ _, _, .ref tf, .inl (SqL.of (x _ _ hl)), atI_nat (j := j) hvf, _, _, .inr (SqT.of (x _ _ htf)), atI_nat (j := 0) rfl, ?_⟩
      refine ifND (p := f.1 = who) (fun n => ?_) (fun fwho => ?_)
      · exact ⟨(by show 3 ≤ sizeLine; decide), fun tp ntp => kf _ _ (x.trans (Ext.upd ntp)) ⟨tp, _, j, i, f, _, rfl, upd_same, (Nat.lt_of_le_of_ne jle fun z => by subst z; rw [hv] at jf; rw [← Option.some.inj jf] at n; exact n rfl), jf, hv, cl, .inr (.inl ⟨rfl, nn, n, jb, jfst⟩)⟩⟩
      have sb : ∀ (j' : Nat) (f' : Str × Int), j' < i → es[j']? = some f' → f'.2 / sz = fig / sz → f'.1 = who := fun j' f' l h b => by
        cases e : valV k2 (Sum.inl (fig / sz)) with
        | none => exact absurd b (b4 _ e j' f' l h)
        | some v =>
          obtain ⟨j3, f3, q1, q2, q3, q4, _⟩ := b3 _ _ e
          rw [e] at ej
          have ej : v = V.int (j : Nat) := ej
          rw [q2] at ej
          have : j3 = j := by injection ej with ej; omega
          subst this
          rw [jf] at q3
          obtain rfl := Option.some.inj q3
          have := cl.same j' j3 f' f (by rw [List.getElem?_take, if_pos l]; exact h) (by rw [List.getElem?_take, if_pos q1]; exact jf) (b.trans jb.symm)
          exact this.trans fwho
      -- no number behind a greater one
      obtain ⟨j2, f2, ej2, jl, jf2, jz, jmax, jlst⟩ : ∃ (j : Nat) (f : Str × Int), (valV k3 (Sum.inr who)).getD (.int (i : Nat)) = .int (j : Nat) ∧ j ≤ i ∧ es[j]? = some f ∧ f.1 = who ∧ (∀ (j' : Nat) (e' : Str × Int), j' < i → es[j']? = some e' → e'.1 = who → e'.2 ≤ f.2) ∧ ∀ (j' : Nat) (e' : Str × Int), j < j' → j' < i → es[j']? = some e' → e'.1 ≠ who := by
        cases e : valV k3 (Sum.inr who) with
        | none => exact ⟨i, _, rfl, Nat.le_refl _, hv, rfl, (fun j' e' l h n => absurd n (c4 _ e j' e' l h)), fun j' e' l l2 _ => by omega⟩
        | some v =>
          obtain ⟨j, f, j1, j2, j3, j4⟩ := c3 _ _ e
          exact ⟨j, f, j2, Nat.le_of_lt j1, j3, j4⟩
      refine ⟨d3, rfl, .inl ⟨k3, .inl c1⟩, valV k3 (Sum.inr who), DGet.k (k := Sum.inr who) c1, ?_⟩
      rw [ej2]
      obtain ⟨vg, hvg, tg, rfl, htg⟩ := pGet (R := EntAt H) el jf2
      refine ⟨d, C, dx, _, _, rfl, x _ _ hi, L.cl, L.nE, fF_ent _ _ _ _ _ _, _, .ref tg, .inl (SqL.of (x _ _ hl)), atI_nat (j := j2) hvg, _, _, .inr (SqT.of (x _ _ htg)), atI_nat (j := 1) rfl, ?_⟩
      refine ifD (p := fig < f2.2) (fun n => ?_) (fun le2 => ?_)
      · refine ⟨(by show 3 ≤ sizeLine; decide), fun tp ntp => kf _ _ (x.trans (Ext.upd ntp)) ⟨tp, _, j2, i, f2, _, rfl, upd_same, (Nat.lt_of_le_of_ne jl fun z => ?_), jf2, hv, cl, .inr (.inr ⟨rfl, nn, sb, jz, n, jlst⟩)⟩⟩
        subst z
        rw [hv] at jf2
        rw [← Option.some.inj jf2] at n
        have : fig < fig := n
        omega
      have clN : Clean sz (es.take (i + 1)) := by
        refine cl.step hv nn (fun j' f' l h b => sb j' f' l h b) (fun j' f' l h n => ?_)
        · have h1 := jmax j' f' l h n
          have h2 := nn j' f' l h
          have : f'.2 ≤ fig := Int.le_trans h1 (by omega)
          show f'.2 < fig
          omega
      -- kept
      have small : ∀ {k : Nat}, k ≤ i → k < sizeLine := fun {k} h => Nat.lt_of_le_of_lt (show k ≤ 200 by omega) (by decide)
      refine ⟨d1, _, rfl, .inl ⟨k1, Sum.inl fig, a1, rfl, small a2, rfl⟩, ?_⟩
      have y1 : Ext H (upd G d1 (.dK (putK k1 (Sum.inl fig) (.int (i : Nat))))) := put_ext x n1
      have e1 : (upd G d1 (.dK (putK k1 (Sum.inl fig) (.int (i : Nat))))) d1 = some (.dK (putK k1 (Sum.inl fig) (.int (i : Nat)))) := upd_same
      have b1' : (upd G d1 (.dK (putK k1 (Sum.inl fig) (.int (i : Nat))))) d2 = some (.dK k2) := by rw [upd_ne h12.symm]; exact b1
      have c1' : (upd G d1 (.dK (putK k1 (Sum.inl fig) (.int (i : Nat))))) d3 = some (.dK k3) := by rw [upd_ne h13.symm]; exact c1
      generalize upd G d1 (.dK (putK k1 (Sum.inl fig) (.int (i : Nat)))) = G1 at y1 e1 b1' c1' ⊢
      refine ⟨d2, rfl, .inl ⟨k2, .inl b1'⟩, d, C, dx, _, _, rfl, y1 _ _ hi, L.cl, L.nB, fF_blk _ _ _ _ _ _, _, .int (fig / sz), .inl (SqL.of (y1 _ _ hlb)), atI_nat (j := i) bat, valV k2 (Sum.inl (fig / sz)), DGet.k (k := Sum.inl (fig / sz)) b1', ?_⟩
      rw [ej]
      refine ⟨d, C, dx, _, _, rfl, y1 _ _ hi, L.cl, L.nB, fF_blk _ _ _ _ _ _, _, .int (fig / sz), .inl (SqL.of (y1 _ _ hlb)), atI_nat (j := i) bat, ?_⟩
      refine ⟨d2, _, rfl, .inl ⟨k2, Sum.inl (fig / sz), b1', rfl, small b2, rfl⟩, ?_⟩
      have y2 : Ext H (upd G1 d2 (.dK (putK k2 (Sum.inl (fig / sz)) (.int (j : Nat))))) := put_ext y1 n2
      have e2 : (upd G1 d2 (.dK (putK k2 (Sum.inl (fig / sz)) (.int (j : Nat))))) d1 = some (.dK (putK k1 (Sum.inl fig) (.int (i : Nat)))) := by rw [upd_ne h12]; exact e1
      have e3 : (upd G1 d2 (.dK (putK k2 (Sum.inl (fig / sz)) (.int (j : Nat))))) d2 = some (.dK (putK k2 (Sum.inl (fig / sz)) (.int (j : Nat)))) := upd_same
      have c2' : (upd G1 d2 (.dK (putK k2 (Sum.inl (fig / sz)) (.int (j : Nat))))) d3 = some (.dK k3) := by rw [upd_ne h23.symm]; exact c1'
      generalize upd G1 d2 (.dK (putK k2 (Sum.inl (fig / sz)) (.int (j : Nat)))) = G2 at y2 e2 e3 c2' ⊢
      refine ⟨d3, _, rfl, .inl ⟨k3, Sum.inr who, c2', rfl, small c2, rfl⟩, ?_⟩
      have jlt : j < i + 1 := by
        rcases Nat.lt_or_ge j (i + 1) with z | z
        · exact z
        · cases e : valV k2 (Sum.inl (fig / sz)) with
          | none =>
            rw [e] at ej
            have ej : V.int (i : Nat) = V.int (j : Nat) := ej
            injection ej with ej
            omega
          | some v =>
            obtain ⟨j', f', j1, j2, _⟩ := b3 _ _ e
            rw [e] at ej
            have ej : v = V.int (j : Nat) := ej
            rw [j2] at ej
            injection ej with ej
            omega
      refine ⟨_, _, _, _, rfl, put_ext y2 n3, ⟨_, by rw [upd_ne h13]; exact e2, Nat.le_trans (length_putK _ _ _) (by omega), fun m v h => ?_, fun m h j' e' l he' => ?_⟩, ⟨_, by rw [upd_ne h23]; exact e3, Nat.le_trans (length_putK _ _ _) (by omega), fun m v h => ?_, fun m h j' e' l he' => ?_⟩, ⟨_, upd_same, Nat.le_trans (length_putK _ _ _) (by omega), fun z v h => ?_, fun z h j' e' l he' => ?_⟩, clN⟩
      · rw [valV_put] at h
        by_cases e : m = fig
        · rw [if_pos (by rw [e])] at h
          exact ⟨i, _, by omega, (Option.some.inj h).symm, hv, e.symm⟩
        · rw [if_neg (fun y => e (Sum.inl.inj y))] at h
          obtain ⟨j, f, j1, j2⟩ := a3 _ _ h
          exact ⟨j, f, by omega, j2⟩
      · rw [valV_put] at h
        by_cases e : m = fig
        · rw [if_pos (by rw [e])] at h; cases h
        · rw [if_neg (fun y => e (Sum.inl.inj y))] at h
          rcases Nat.lt_or_ge j' i with q | q
          · exact a4 _ h j' e' q he'
          · have : j' = i := by omega
            subst this
            rw [hv] at he'
            rw [← Option.some.inj he']
            exact fun y => e y.symm
      · rw [valV_put] at h
        by_cases e : m = fig / sz
        · rw [if_pos (by rw [e])] at h
          exact ⟨j, f, jlt, (Option.some.inj h).symm, jf, by rw [jb, e], fun j' e' l h => by rw [e]; exact jfst j' e' l h⟩
        · rw [if_neg (fun y => e (Sum.inl.inj y))] at h
          obtain ⟨j, f, j1, j2⟩ := b3 _ _ h
          exact ⟨j, f, by omega, j2⟩
      · rw [valV_put] at h
        by_cases e : m = fig / sz
        · rw [if_pos (by rw [e])] at h; cases h
        · rw [if_neg (fun y => e (Sum.inl.inj y))] at h
          rcases Nat.lt_or_ge j' i with q | q
          · exact b4 _ h j' e' q he'
          · have : j' = i := by omega
            subst this
            rw [hv] at he'
            rw [← Option.some.inj he']
            exact fun y => e y.symm
      · rw [valV_put] at h
        by_cases e : z = who
        · rw [if_pos (by rw [e])] at h
          refine ⟨i, _, by omega, (Option.some.inj h).symm, hv, e.symm, fun j' e' l he' n => ?_, fun j' e' l l2 _ => by omega⟩
          rcases Nat.lt_or_ge j' i with q | q
          · exact Int.le_trans (jmax j' e' q he' (n.trans e)) (by show f2.2 ≤ fig; omega)
          · have : j' = i := by omega
            subst this
            rw [hv] at he'
            rw [← Option.some.inj he']
            exact Int.le_refl _
        · rw [if_neg (fun y => e (Sum.inr.inj y))] at h
          obtain ⟨j, f, j1, j2, j3, j4, j5, j6⟩ := c3 _ _ h
          refine ⟨j, f, by omega, j2, j3, j4, fun j' e' l he' n => ?_, fun j' e' l l2 he' => by
            rcases Nat.lt_or_ge j' i with q | q
            · exact j6 j' e' l q he'
            · have : j' = i := by omega
              subst this
              rw [hv] at he'
              rw [← Option.some.inj he']
              exact fun y => e y.symm⟩
          rcases Nat.lt_or_ge j' i with q | q
          · exact j5 j' e' q he' n
          · have : j' = i := by omega
            subst this
            rw [hv] at he'
            rw [← Option.some.inj he'] at n
            exact absurd n.symm e
      · rw [valV_put] at h
        by_cases e : z = who
        · rw [if_pos (by rw [e])] at h; cases h
        · rw [if_neg (fun y => e (Sum.inr.inj y))] at h
          rcases Nat.lt_or_ge j' i with q | q
          · exact c4 _ h j' e' q he'
          · have : j' = i := by omega
            subst this
            rw [hv] at he'
            rw [← Option.some.inj he']
            exact fun y => e y.symm
    · rintro σ G ⟨v4, v5, v6, v7, rfl, I⟩
      have c := I.cl
      rw [← hle, List.take_length] at c
      exact k G I.x c
theorem ok_least (T : Tb mg) (D : Dx K mg "least_slot" s_least_slot ["windows", "start"]) : Cal P w K mg base 1 "least_slot" spLeast [] := by
  refine cal_of D sc_least_slot (fun vs H Q E h => ?_) (fun f cdv A o s H vs Q E hr h => ?_)
  · obtain ⟨w, us, ws, s, rfl, _⟩ := h; rfl
  · obtain ⟨w_, us, ws, st, rfl, hw, pw, h12, k⟩ := h
    refine ⟨_, (pss_cons (ps_setLc (i := 2) (own := [("window", 3)]) (g := gName 3) (te := tMx0 K) (tt := tAnd (mT (tOp (fun x y H Q => y = .non ∧ Q (.bl (!decide (x = .non))) H) (mV 3) (tC .non))) (mT (tOp (mI0 fun i j => .bl (decide (i ≤ j))) (tMx0 K) (tOp (mIx K) (mV 3) (tC (.int 1)))))) rfl sc_least_slot.nd rfl rfl (sw_true rfl rfl rfl (by decide +kernel)) (pi_list (mv 0)) (blkOk_by (own := [("window", 3)]) (N := ["windows", "start", "slots", "window"]) (sc := fnScope s_least_slot) (by decide +kernel)) (fun _ _ _ _ _ => (pg_name (i := 3) sc_least_slot.nd rfl (Or.inl rfl))) (fun _ _ _ _ _ => (pts_one (PW.pt (pw_and (qt op_notN (mv 3) pe_non (nomark _)) (pw_and1 (qt m_le (pe_callB (call_max2 rfl) (by rfl) T.n_max (by decide +kernel) (pa_cons (mv 1) (pa_cons (pe_ix m_ix (mv 3) pe_int (fun _ _ => rfl)) pa_nil))) (pe_ix m_ix (mv 3) pe_int (fun _ _ => rfl)) (nomark _))))))) (fun _ _ _ _ _ => (pe_callB (call_max2 rfl) (by rfl) T.n_max (by decide +kernel) (pa_cons (mv 1) (pa_cons (pe_ix m_ix (mv 3) pe_int (fun _ _ => rfl)) pa_nil)))))
    (pss_one (ps_ret (pe_callBK (cr_minD rfl) (by rfl) T.n_min (by decide +kernel) (pa_cons (mv 2) pa_nil) (pk_cons pe_non pk_nil))))), ?_⟩
    refine ⟨w_, rfl, ⟨_, SqL.of hw⟩, fun d hd => lc_list (K := K) (a := w_) (xs := us) (fun i H' => Ext H H' ∧ H' d = some (.lst ((cand st (ws.take i)).map V.int))) ⟨Ext.upd hd, upd_same⟩ (fun i H' _ t => SqL.of (t.1 _ _ hw)) ?_ ?_⟩
    · rintro i y G hy ⟨x, hD⟩
      obtain ⟨o, ho, hv⟩ := pAt pw hy
      have tk : ws.take (i + 1) = ws.take i ++ [o] := by rw [List.take_succ, ho]; rfl
      have small : (cand st (ws.take i)).length < sizeLine := Nat.lt_of_le_of_lt (Nat.le_trans (cand_len _ _) (Nat.le_trans (List.length_take_le' _ _) h12)) (by decide)
      have go : cand st (ws.take (i + 1)) = cand st (ws.take i) ++ cand st [o] := by rw [tk, cand_snoc]
      refine ⟨rfl, ?_⟩
      cases o with
      | none =>
        obtain rfl : y = .non := hv
        refine ⟨rfl, ifF (by rfl) ?_⟩
        refine ⟨x, ?_⟩
        rw [go]
        show G d = some (.lst ((cand st (ws.take i) ++ []).map V.int))
        rw [List.append_nil]; exact hD
      | some p =>
        obtain ⟨lo, hi⟩ := p
        obtain ⟨t, rfl, ht⟩ := hv
        have htG := x _ _ ht
        refine ⟨rfl, ifT (by rfl) ?_⟩
        refine ⟨_, _, .inr (SqT.of htG), atI_nat (j := 0) rfl, _, _, rfl, _, _, .inr (SqT.of htG), atI_nat (j := 1) rfl, ?_⟩
        refine ifD (p := mx st lo ≤ hi) (fun h => ?_) (fun h => ?_)
        · refine ⟨_, _, .inr (SqT.of htG), atI_nat (j := 0) rfl, _, _, rfl, ?_⟩
          refine ⟨_, hD, by rw [List.length_map]; exact small, put_ext x hd, ?_⟩
          rw [upd_same, go]
          show _ = some (HO.lst ((cand st (ws.take i) ++ (if mx st lo ≤ hi then mx st lo :: [] else [])).map V.int))
          rw [if_pos h, List.map_append]; rfl
        · refine ⟨x, ?_⟩
          rw [go]
          show G d = some (HO.lst ((cand st (ws.take i) ++ (if mx st lo ≤ hi then mx st lo :: [] else [])).map V.int))
          rw [if_neg h, List.append_nil]; exact hD
    · rintro G ⟨x, hD⟩
      rw [← pLen pw, List.take_length] at hD
      refine ⟨d, cand st ws, _, rfl, rfl, SqL.of hD, (k G x).1, (k G x).2⟩
end
end NB

set_option Elab.async false
set_option linter.all false
set_option maxRecDepth 100000
set_option maxHeartbeats 8000000
/-! K4r (k41): the walk from below, exactly -/
namespace NB
open PySem PySem.Spec L2
open PyProof.Rows (envOfC)
open C8 (pe_c pe_mk pe_mt pe_mt0 pe_gc fnScope fnBody fnArgs fnScope_by Cal Met Mak)
/-- a loop over zip, the second list the shorter one -/
theorem for_zipS {K : PySem.W.Frag} {a b : Addr} {xs ys : List V} {g : TG} {tb : TS} {D : Ends} {σ : L2.St} {H : Hp} (hl : ys.length ≤ xs.length) (Pv : Nat → L2.St → Hp → Prop) (h0 : Pv 0 σ H) (hq : ∀ i σ H, Pv i σ H → SqL K H a xs ∧ SqL K H b ys)
    (hs : ∀ (i : Nat) (x y : V) (T : Addr) (σ : L2.St) (H : Hp), xs[i]? = some x → ys[i]? = some y → Pv i σ H → H T = none → g (.ref T) σ (upd H T (.tup [x, y])) fun σ2 H2 => tb { D with nx := Pv (i + 1), ct := Pv (i + 1), bk := D.nx } σ2 H2) (hd : ∀ σ H, Pv ys.length σ H → D.nx σ H) :
    ∃ W : Nat → Nat → L2.St → Hp → Prop, (∃ m, W 0 m σ H) ∧ ∀ i m σ H, W i m σ H →
      ((Itz K a b).stop i H ∧ D.nx σ H) ∨ ((Itz K a b).go i H ∧ ∃ N : L2.St → Hp → Prop, (∀ σ' H', N σ' H' → ∃ m', m' < m ∧ W (i + 1) m' σ' H') ∧ ∀ v H', (Itz K a b).yld i H v H' → g v σ H' fun σ2 H2 => tb { D with nx := N, ct := N, bk := D.nx } σ2 H2) := by
  refine ⟨fun i m σ H => m = ys.length - i ∧ i ≤ ys.length ∧ Pv i σ H, ⟨ys.length, rfl, Nat.zero_le _, h0⟩, ?_⟩
  rintro i m σ H ⟨rfl, hi, p⟩
  obtain ⟨qx, qy⟩ := hq i σ H p
  by_cases hlt : i < ys.length
  · have hlt2 : i < xs.length := by omega
    have hx : xs[i]? = some xs[i] := List.getElem?_eq_getElem hlt2
    have hy : ys[i]? = some ys[i] := List.getElem?_eq_getElem hlt
    refine .inr ⟨⟨xs, ys, _, _, qx, qy, hx, hy⟩, Pv (i + 1), fun σ' H' p' => ⟨ys.length - (i + 1), by omega, rfl, hlt, p'⟩, fun v H' y => ?_⟩
    obtain ⟨T, x', y', rfl, hT, rfl, f1, f2⟩ := y
    exact hs i x' y' T σ H (f1 xs qx) (f2 ys qy) p hT
  · have e : i = ys.length := by omega
    subst e
    exact .inl ⟨⟨xs, ys, qx, qy, Or.inr (Nat.le_refl _)⟩, hd σ H p⟩
theorem StepAt.mono {H H' : Hp} {s : Int × Int} {v : V} (h : StepAt H s v) (x : Ext H H') : StepAt H' s v := by
  obtain ⟨t, rfl, q⟩ := h; exact ⟨t, rfl, x _ _ q⟩
theorem StepAt.st {H H' : Hp} {s : Int × Int} {v : V} (h : StepAt H s v) (x : TupSt H H') : StepAt H' s v := by
  obtain ⟨t, rfl, q⟩ := h; exact ⟨t, rfl, x _ _ q⟩
def spLeasts : Sp := fun vs H Q _ => ∃ (q : Addr) (xs : List V) (rs : List Row), vs = [.ref q] ∧ H q = some (.lst xs) ∧ Paired (RowX q H) rs xs ∧ xs.length ≤ 130 ∧ (∀ r ∈ rs, r.2.2.length ≤ 12) ∧
  ∀ H' f, Ext H H' → H f = none → H' f = some (.lst ((leasts 0 rs).map V.int)) → Q (.ref f) H'
def spPushes : Sp := fun vs H Q _ => ∃ (q : Addr) (e : Int) (xs : List V) (rs : List Row), vs = [.ref q, .int e] ∧ H q = some (.lst xs) ∧ Paired (RowX q H) rs xs ∧ xs.length ≤ 130 ∧ (∀ r ∈ rs, r.2.2.length ≤ 12) ∧ (∀ H', Ext H H' → Thru 0 rs → Q .non H') ∧ (∀ H' f ys, Ext H H' → H' f = some (.lst ys) → Paired (StepAt H') (pushF 0 rs (leasts 0 rs ++ [e + 1])) ys → ¬ Thru 0 rs → Q (.ref f) H')
theorem SeenB.nn {sz : Int} {ns : List Str} {es : List (Str × Int)} {bs : List Int} (sb : SeenB sz es bs) (ok : EntsOk ns es) (so : 1 ≤ sz) : ∀ b ∈ bs, 0 ≤ b := fun b hb => by
  obtain ⟨z, hz⟩ := List.exists_mem_of_ne_nil _ ((sb.mem b).mp hb)
  obtain ⟨j, e, h1, _, h2⟩ := hol_mem.mp hz
  have := seen0 ok so h1
  omega
theorem rows_short {sz : Int} {ns : List Str} {es : List (Str × Int)} {bs : List Int} (h12 : ns.length ≤ 12) (sb : SeenB sz es bs) (ok : EntsOk ns es) (so : 1 ≤ sz) : ∀ r ∈ rowsF sz ns es 0 bs, r.2.2.length ≤ 12 := fun r hr => by
  have := ((rowsF_first bs 0 sb.srt (sb.nn ok so)).1 r hr).2.2.2
  rw [this]
  unfold wins
  rw [List.length_map]; exact h12
/-- no two entries bar one another, and the walk goes through -/
def Poss (sz : Int) (ns : List Str) (es : List (Str × Int)) : Prop := Clean sz es ∧ ∃ bs, SeenB sz es bs ∧ Thru 0 (rowsF sz ns es 0 bs)
/-- the certificate of a log that is not possible -/
def ObsX (sz : Int) (ns : List Str) (es : List (Str × Int)) (H : Hp) (v : V) : Prop := FaultX H sz es v ∨ (Clean sz es ∧ ∃ bs t l ys, SeenB sz es bs ∧ ¬ Thru 0 (rowsF sz ns es 0 bs) ∧ v = .ref t ∧ H t = some (.tup [.str "pushed", .ref l]) ∧ H l = some (.lst ys) ∧ Paired (StepAt H) (pushF 0 (rowsF sz ns es 0 bs) (leasts 0 (rowsF sz ns es 0 bs) ++ [(es.length : Int) + 1])) ys)
theorem ObsX.mono {sz : Int} {ns : List Str} {es : List (Str × Int)} {H H' : Hp} {v : V} (h : ObsX sz ns es H v) (x : Ext H H') : ObsX sz ns es H' v := by
  rcases h with h | ⟨c, bs, t, l, ys, h1, h2, h3, h4, h5, h6⟩
  · exact .inl (h.mono x)
  · exact .inr ⟨c, bs, t, l, ys, h1, h2, h3, x _ _ h4, x _ _ h5, Paired.mapP h6 fun _ _ q => q.mono x⟩
theorem ObsX.no {sz : Int} {ns : List Str} {es : List (Str × Int)} {H : Hp} {v : V} (h : ObsX sz ns es H v) : ¬ Poss sz ns es := fun ⟨c, bs, sb, th⟩ => by
  rcases h with h | ⟨_, cs, t, l, ys, h1, h2, _⟩
  · exact h.toV.dirty c
  · rw [h1.uniq sb] at h2; exact h2 th
theorem ObsX.obs {K : PySem.W.Frag} {sz : Int} {ns : List Str} {es : List (Str × Int)} {H : Hp} {v : V} (h : ObsX sz ns es H v) : ObsV K H v := by
  rcases h with h | ⟨_, cs, t, l, ys, h1, h2, rfl, h4, h5, h6⟩
  · exact h.toV.obs
  · exact obsP (by decide +kernel) h4 h5 h6
def spObsIn (C : Addr) : Sp := fun vs H Q _ => ∃ d sz ns es, vs = [.ref d] ∧ FactsAt C H d sz ns es ∧ EntsOk ns es ∧ CrewOk ns ∧ SizeOk sz ∧ es.length ≤ 62 ∧ (∀ H', Ext H H' → Poss sz ns es → Q .non H') ∧ ∀ H' v, Ext H H' → ObsX sz ns es H' v → Q v H'
/-- what stands before the next row -/
def pushE : Int → List Row → List Int → Int
  | bf, _ :: rs, s :: ss => if bf < s then pushE s rs ss else pushE bf rs ss
  | bf, _, _ => bf
section
variable {P : Program} {w : World} {K : PySem.W.Frag} {mg : Str → Option Value} {base : Heap} {C : Addr}
theorem ok_leasts (T : Tb mg) (D : Dx K mg "least_slots" s_least_slots ["rows"]) (c_least_slot : Cal P w K mg base 1 "least_slot" spLeast []) : Cal P w K mg base 2 "least_slots" spLeasts [] := by
  refine cal_of D sc_least_slots (fun vs H Q E h => ?_) (fun f cdv A o s H vs Q E hr h => ?_)
  · obtain ⟨q, xs, rs, rfl, _⟩ := h; rfl
  · obtain ⟨q, xs, rs, rfl, hq, pr, h130, rl, k⟩ := h
    refine ⟨_, (C8.pss_cut (ps_par (i := 1) (j := 2) rfl sc_least_slots.nd rfl rfl (by decide) rfl rfl (pa_cons (pe_lst pa_nil) (pa_cons pe_int pa_nil)) (by rfl))
    (pss_cons (ps_for PassesOwn.never rfl (pi_list (mv 0)) (pg_tup rfl (pgs_cons (pg_name (i := 3) sc_least_slots.nd rfl (Or.inl rfl)) (pgs_cons (pg_name (i := 4) sc_least_slots.nd rfl (Or.inl rfl)) (pgs_cons (pg_name (i := 5) sc_least_slots.nd rfl (Or.inl rfl)) pgs_nil))))
    (C8.pss_cut (ps_set (i := 2) sc_least_slots.nd rfl (Or.inl rfl) (pe_c c_least_slot hr (by decide) rfl (pa_cons (mv 5) (pa_cons (mv 2) pa_nil))))
    (pss_cons (ps_if (qt op_isN (mv 2) pe_non (nomark _)) (pss_one ps_break) pss_nil)
    (pss_one (ps_expr (pe_bm PySem.F.plainAttrs_list PySem.F.slot_list_append PySem.F.type_list_append mt_append (mv 1) (pa_cons (mv 2) pa_nil)))))))
    (pss_one (ps_ret (mv 1))))), ?_⟩
    refine ⟨fun σ H' => ∃ f, σ = [some (.ref q), some (.ref f), some (.int 0), none, none, none] ∧ Ext H H' ∧ H f = none ∧ H' f = some (.lst []), ?_, ?_⟩
    · exact ⟨Nat.zero_le _, fun f nf => ⟨_, _, rfl, f, rfl, Ext.upd nf, nf, upd_same⟩⟩
    rintro σ H1 ⟨f_, rfl, x1, nf, hf⟩
    refine ⟨q, rfl, ⟨_, SqL.of (x1 _ _ hq)⟩, for_list (K := K) (a := q) (xs := xs) (fun i σ H' => ∃ (sl : Int) (v3 v4 v5 : Option V) (zs : List Int), σ = [some (.ref q), some (.ref f_), some (.int sl), v3, v4, v5] ∧ Ext H H' ∧ H' f_ = some (.lst (zs.map V.int)) ∧ zs.length = i ∧ leasts 0 rs = zs ++ leasts sl (rs.drop i)) ⟨0, _, _, _, [], rfl, x1, hf, rfl, by rw [List.drop_zero]; rfl⟩ ?_ ?_ ?_⟩
    · rintro i σ H' _ ⟨_, _, _, _, _, rfl, x, _⟩; exact SqL.of (x _ _ hq)
    · clear x1 hf
      rintro i y σ G hy ⟨sl, v3, v4, v5, zs, rfl, x, hf, zl, ft⟩
      have hi : i < xs.length := (List.getElem?_eq_some_iff.mp hy).1
      obtain ⟨⟨f1, g1, ws⟩, hws, tt, w1, us, rfl, h1, h2, h3, h4⟩ := pAt pr hy
      obtain ⟨hi', ew⟩ := List.getElem?_eq_some_iff.mp hws
      rw [List.drop_eq_getElem_cons hi', ew] at ft
      refine ⟨tt, _, rfl, SqT.of (x _ _ h1), rfl, _, _, rfl, _, _, rfl, _, _, rfl, rfl, ?_⟩
      refine ⟨fun σ H' => ∃ v, σ = [some (.ref q), some (.ref f_), some v, some (.int f1), some (.int g1), some (.ref w1)] ∧ Ext H H' ∧ H' f_ = some (.lst (zs.map V.int)) ∧ ((v = .non ∧ lslot sl ws = none) ∨ ∃ m : Int, v = .int m ∧ lslot sl ws = some m), ?_, ?_⟩
      · refine ⟨w1, us, ws, sl, rfl, x _ _ h3, Paired.mapP h4 fun _ _ q => q.mono x, rl _ (List.mem_of_getElem? hws), fun G1 x1 => ⟨fun e => ?_, fun m hm hle => ?_⟩⟩
        · exact ⟨_, rfl, x.trans x1, x1 _ _ hf, .inl ⟨rfl, lslot_none.mpr e⟩⟩
        · exact ⟨_, rfl, x.trans x1, x1 _ _ hf, .inr ⟨m, rfl, lslot_some.mpr ⟨hm, hle⟩⟩⟩
      clear x hf
      rintro σ G ⟨v, rfl, x, hf, ⟨rfl, no⟩ | ⟨m, rfl, yes⟩⟩
      · refine ⟨rfl, ifT (by rfl) ?_⟩
        rw [leasts_none no, List.append_nil] at ft
        exact k G f_ x nf (by rw [ft]; exact hf)
      refine ⟨rfl, ifF (by rfl) ?_⟩
      rw [leasts_some yes] at ft
      refine ⟨.inl ⟨rfl, _, SqL.of hf⟩, f_, zs.map V.int, _, rfl, rfl, hf, by rw [List.length_map]; exact Nat.lt_of_le_of_lt (show zs.length ≤ 130 by omega) (by decide), m, _, _, _, zs ++ [m], rfl, put_ext x nf, by rw [List.map_append]; exact upd_same, by rw [List.length_append, zl]; rfl, by rw [ft, List.append_assoc]; rfl⟩
    · rintro σ G ⟨sl, v3, v4, v5, zs, rfl, x, hf, zl, ft⟩
      have e : rs.drop xs.length = [] := by rw [← pLen pr]; exact List.drop_length
      rw [e] at ft
      have ft : leasts 0 rs = zs := by rw [ft]; exact List.append_nil _
      exact k G f_ x nf (by rw [ft]; exact hf)
theorem pushF_snoc : ∀ (rs : List Row) (bf : Int) (ss : List Int) (i : Nat) (r : Row) (s : Int), rs[i]? = some r → ss[i]? = some s → pushF bf (rs.take (i + 1)) (ss.take (i + 1)) = pushF bf (rs.take i) (ss.take i) ++ (if pushE bf (rs.take i) (ss.take i) < s then [(r.1, s)] else [])
  | [], bf, ss, i, r, s, h, _ => by simp at h
  | r0 :: rs, bf, [], i, r, s, _, h => by simp at h
  | r0 :: rs, bf, s0 :: ss, 0, r, s, h1, h2 => by
    simp only [List.getElem?_cons_zero, Option.some.injEq] at h1 h2
    subst h1 h2
    show (if bf < s0 then (r0.1, s0) :: pushF s0 [] [] else pushF bf [] []) = [] ++ (if bf < s0 then [(r0.1, s0)] else [])
    split <;> rfl
  | r0 :: rs, bf, s0 :: ss, i + 1, r, s, h1, h2 => by
    have ih := fun bf => pushF_snoc rs bf ss i r s (by simpa using h1) (by simpa using h2)
    show (if bf < s0 then (r0.1, s0) :: pushF s0 (rs.take (i + 1)) (ss.take (i + 1)) else pushF bf (rs.take (i + 1)) (ss.take (i + 1))) = (if bf < s0 then (r0.1, s0) :: pushF s0 (rs.take i) (ss.take i) else pushF bf (rs.take i) (ss.take i)) ++ (if (if bf < s0 then pushE s0 (rs.take i) (ss.take i) else pushE bf (rs.take i) (ss.take i)) < s then [(r.1, s)] else [])
    split
    · rw [ih]; rfl
    · rw [ih]
theorem pushE_snoc : ∀ (rs : List Row) (bf : Int) (ss : List Int) (i : Nat) (r : Row) (s : Int), rs[i]? = some r → ss[i]? = some s → pushE bf (rs.take (i + 1)) (ss.take (i + 1)) = if pushE bf (rs.take i) (ss.take i) < s then s else pushE bf (rs.take i) (ss.take i)
  | [], bf, ss, i, r, s, h, _ => by simp at h
  | r0 :: rs, bf, [], i, r, s, _, h => by simp at h
  | r0 :: rs, bf, s0 :: ss, 0, r, s, h1, h2 => by
    simp only [List.getElem?_cons_zero, Option.some.injEq] at h1 h2
    subst h1 h2
    rfl
  | r0 :: rs, bf, s0 :: ss, i + 1, r, s, h1, h2 => by
    have ih := fun bf => pushE_snoc rs bf ss i r s (by simpa using h1) (by simpa using h2)
    show (if bf < s0 then pushE s0 (rs.take (i + 1)) (ss.take (i + 1)) else pushE bf (rs.take (i + 1)) (ss.take (i + 1))) = if (if bf < s0 then pushE s0 (rs.take i) (ss.take i) else pushE bf (rs.take i) (ss.take i)) < s then s else (if bf < s0 then pushE s0 (rs.take i) (ss.take i) else pushE bf (rs.take i) (ss.take i))
    split <;> rw [ih]
theorem pushF_take : ∀ (rs : List Row) (bf : Int) (ss : List Int) (n : Nat), ss.length ≤ n → pushF bf (rs.take n) ss = pushF bf rs ss
  | rs, bf, [], n, _ => by rw [pushF_nil, pushF_nil]
  | [], bf, s :: ss, n, _ => by rw [List.take_nil]
  | r :: rs, bf, s :: ss, 0, h => by simp at h
  | r :: rs, bf, s :: ss, n + 1, h => by
    have ih := fun bf => pushF_take rs bf ss n (by simpa using h)
    show (if bf < s then (r.1, s) :: pushF s (rs.take n) ss else pushF bf (rs.take n) ss) = if bf < s then (r.1, s) :: pushF s rs ss else pushF bf rs ss
    rw [ih, ih]
theorem ok_pushes (T : Tf mg) (D : Dx K mg "pushes_of" s_pushes_of ["rows", "end"]) (c_least_slots : Cal P w K mg base 2 "least_slots" spLeasts []) : Cal P w K mg base 3 "pushes_of" spPushes [] := by
  refine cal_of D sc_pushes_of (fun vs H Q E h => ?_) (fun f cdv A o s H vs Q E hr h => ?_)
  · obtain ⟨q, e, xs, rs, rfl, _⟩ := h; rfl
  · obtain ⟨q, e, xs, rs, rfl, hq, pr, h130, rl, k, kf⟩ := h
    have xl := pLen pr
    have ll := leasts_len rs 0
    refine ⟨_, (C8.pss_cut (ps_set (i := 2) sc_pushes_of.nd rfl (Or.inl rfl) (pe_c c_least_slots hr (by decide) rfl (pa_cons (mv 0) pa_nil)))
    (pss_cons (ps_if (qt m_eq (pe_callB call_len (by rfl) T.n_len (by decide +kernel) (pa_cons (mv 2) pa_nil)) (pe_callB call_len (by rfl) T.n_len (by decide +kernel) (pa_cons (mv 0) pa_nil)) (nomark _)) (pss_one (ps_ret pe_non)) pss_nil)
    (C8.pss_cut (ps_par (i := 3) (j := 4) rfl sc_pushes_of.nd rfl rfl (by decide) rfl rfl (pa_cons (pe_lst pa_nil) (pa_cons pe_int pa_nil)) (by rfl))
    (pss_cons (ps_for PassesOwn.never rfl (pi_zip (by rfl) T.n_zip (pa_cons (mv 0) (pa_cons (pe_op op_cat (mv 2) (pe_lst (pa_cons (pe_op m_add (mv 1) pe_int) pa_nil))) pa_nil))) (pg_tup rfl (pgs_cons (pg_tup rfl (pgs_cons (pg_name (i := 5) sc_pushes_of.nd rfl (Or.inl rfl)) (pgs_cons (pg_name (i := 6) sc_pushes_of.nd rfl (Or.inl rfl)) (pgs_cons (pg_name (i := 7) sc_pushes_of.nd rfl (Or.inl rfl)) pgs_nil)))) (pgs_cons (pg_name (i := 8) sc_pushes_of.nd rfl (Or.inl rfl)) pgs_nil)))
    (pss_one (ps_if (qt m_gt (mv 8) (mv 4) (nomark _)) (pss_cons (ps_expr (pe_bm PySem.F.plainAttrs_list PySem.F.slot_list_append PySem.F.type_list_append mt_append (mv 3) (pa_cons (pe_tup (pa_cons (mv 5) (pa_cons (mv 8) pa_nil))) pa_nil)))
    (pss_one (ps_set (i := 4) sc_pushes_of.nd rfl (Or.inl rfl) (mv 8)))) pss_nil)))
    (pss_one (ps_ret (mv 3))))))), ?_⟩
    refine ⟨fun σ H' => ∃ (f : Addr), σ = [some (.ref q), some (.int e), some (.ref f), none, none, none, none, none, none] ∧ Ext H H' ∧ H' f = some (.lst ((leasts 0 rs).map V.int)), ?_, ?_⟩
    · exact ⟨q, xs, rs, rfl, hq, pr, h130, rl, fun H1 f x _ hf => ⟨f, rfl, x, hf⟩⟩
    rintro σ G ⟨f_, rfl, x, hf⟩
    have et : Thru 0 rs ↔ (leasts 0 rs).length = xs.length := by unfold Thru; rw [xl]
    rw [xl] at ll
    generalize ezs : leasts 0 rs = zs at hf ll et kf
    refine ⟨_, _, rfl, .inl ⟨_, SqL.of hf, rfl⟩, _, _, rfl, .inl ⟨_, SqL.of (x _ _ hq), rfl⟩, ?_⟩
    rw [List.length_map]
    refine ifD (p := (zs.length : Int) = (xs.length : Int)) (fun e => k G x (et.mpr (by omega))) (fun n => ?_)
    have lt : zs.length < xs.length := by omega
    have no : ¬ Thru 0 rs := fun z => n (by rw [et.mp z])
    refine ⟨fun σ H' => ∃ r, σ = [some (.ref q), some (.int e), some (.ref f_), some (.ref r), some (.int 0), none, none, none, none] ∧ Ext G H' ∧ H' r = some (.lst []) ∧ G r = none, ?_, ?_⟩
    · exact ⟨Nat.zero_le _, fun r nr => ⟨_, _, rfl, r, rfl, Ext.upd nr, upd_same, nr⟩⟩
    rintro σ G1 ⟨r, rfl, x1, hr1, nr⟩
    have x02 := x.trans x1
    have hf1 := x1 _ _ hf
    have hq1 := x02 _ _ hq
    refine ⟨Nat.succ_le_of_lt (by decide), fun l1 nl1 => ?_⟩
    have y1 := Ext.upd (o := .lst [.int (e + 1)]) nl1
    have c1 : (upd G1 l1 (.lst [.int (e + 1)])) l1 = some (.lst [.int (e + 1)]) := upd_same
    have hf2 := y1 _ _ hf1
    have hq2 := y1 _ _ hq1
    have hr2 := y1 _ _ hr1
    have x03 := x02.trans y1
    generalize upd G1 l1 (.lst [.int (e + 1)]) = G2 at c1 hf2 hq2 hr2 x03 ⊢
    refine ⟨f_, l1, _, _, rfl, rfl, hf2, c1, by rw [List.length_map]; exact Nat.le_trans (show zs.length + 1 ≤ 131 by omega) (by decide), fun l2 nl2 => ?_⟩
    have y2 := Ext.upd (o := .lst (zs.map V.int ++ [.int (e + 1)])) nl2
    have c2 : (upd G2 l2 (.lst (zs.map V.int ++ [.int (e + 1)]))) l2 = some (.lst (zs.map V.int ++ [.int (e + 1)])) := upd_same
    have hq3 := y2 _ _ hq2
    have hr3 := y2 _ _ hr2
    have x04 := x03.trans y2
    have nrH : H r = none := Ext.free x nr
    generalize upd G2 l2 (.lst (zs.map V.int ++ [.int (e + 1)])) = G3 at c2 hq3 hr3 x04 ⊢
    have eys : zs.map V.int ++ [V.int (e + 1)] = (zs ++ [e + 1]).map V.int := by rw [List.map_append]; rfl
    rw [eys] at c2
    have lr : l2 ≠ r := (ne_of_none hr2 nl2).symm
    have qr : q ≠ r := fun z => by rw [z] at hq; rw [hq] at nrH; cases nrH
    refine ⟨q, l2, xs, _, rfl, SqL.of hq3, SqL.of c2, for_zipS (K := K) (a := q) (b := l2) (xs := xs) (ys := (zs ++ [e + 1]).map V.int) (by rw [List.length_map, List.length_append, List.length_singleton]; omega) (fun i σ H' => ∃ (v5 v6 v7 v8 : Option V) (ys : List V), σ = [some (.ref q), some (.int e), some (.ref f_), some (.ref r), some (.int (pushE 0 (rs.take i) ((zs ++ [e + 1]).take i))), v5, v6, v7, v8] ∧ Ext H H' ∧ H' r = some (.lst ys) ∧ ys.length ≤ i ∧ Paired (StepAt H') (pushF 0 (rs.take i) ((zs ++ [e + 1]).take i)) ys ∧ H' l2 = some (.lst ((zs ++ [e + 1]).map V.int))) ⟨_, _, _, _, [], rfl, x04, hr3, Nat.le_refl _, .nil, c2⟩ ?_ ?_ ?_⟩
    · rintro i σ H' ⟨_, _, _, _, _, rfl, x, _, _, _, h⟩; exact ⟨SqL.of (x _ _ hq), SqL.of h⟩
    · clear hr1 hf1 hq1 nl1 y1 c1 hf2 hq2 hr2 x03 nl2 y2 c2 hq3 hr3 x04 x1 x02
      rintro i y y' tT σ G0 hy hy' ⟨v5, v6, v7, v8, ys, rfl, xG, hr_, yl, ps, hl2⟩ nT
      have hi : i < xs.length := (List.getElem?_eq_some_iff.mp hy).1
      obtain ⟨sl, hsl, rfl⟩ := map_at hy'
      obtain ⟨⟨f1, g1, ws⟩, hws, tt, w1, us, rfl, h1, h2, h3, h4⟩ := pAt pr hy
      have pF1 := pushF_snoc rs 0 (zs ++ [e + 1]) i _ sl hws hsl
      have pE1 := pushE_snoc rs 0 (zs ++ [e + 1]) i _ sl hws hsl
      generalize pushE 0 (rs.take i) ((zs ++ [e + 1]).take i) = bf at pF1 pE1 ⊢
      generalize pushF 0 (rs.take i) ((zs ++ [e + 1]).take i) = st at ps pF1
      have xT := Ext.upd (o := .tup [.ref tt, .int sl]) nT
      have cT : (upd G0 tT (.tup [.ref tt, .int sl])) tT = some (.tup [.ref tt, .int sl]) := upd_same
      have hr1 := xT _ _ hr_
      have hl2 := xT _ _ hl2
      have ps := Paired.mapP ps fun _ _ q => q.mono xT
      have xG := xG.trans xT
      generalize upd G0 tT (.tup [.ref tt, .int sl]) = G1 at cT hr1 hl2 ps xG ⊢
      refine ⟨tT, _, rfl, SqT.of cT, rfl, _, _, rfl, tt, _, rfl, SqT.of (xG _ _ h1), rfl, _, _, rfl, _, _, rfl, _, _, rfl, rfl, _, _, rfl, rfl, ?_⟩
      refine ifD (p := bf < sl) (fun lt_ => ?_) (fun nlt => ⟨_, _, _, _, ys, by rw [pE1, if_neg nlt]; rfl, xG, hr1, by omega, by rw [pF1, if_neg nlt, List.append_nil]; exact ps, hl2⟩)
      rw [if_pos lt_] at pF1 pE1
      refine ⟨.inl ⟨rfl, _, SqL.of hr1⟩, (by show 2 ≤ sizeLine; decide), fun tp ntp => ?_⟩
      have xp := Ext.upd (o := .tup [.int f1, .int sl]) ntp
      refine ⟨r, ys, _, rfl, rfl, xp _ _ hr1, Nat.lt_of_le_of_lt (show ys.length ≤ 130 by omega) (by decide), _, _, _, _, ys ++ [.ref tp], by rw [pE1]; rfl, put_ext (xG.trans xp) nrH, upd_same, by rw [List.length_append, List.length_singleton]; omega, ?_, ?_⟩
      · have tr : tp ≠ r := (ne_of_none hr1 ntp).symm
        have su := TupSt.upd (o := .lst (ys ++ [.ref tp])) (xp _ _ hr1) (fun _ z => nomatch z)
        rw [pF1]
        exact pApp (Paired.mapP ps fun _ _ q => (q.mono xp).st su) (.cons ⟨tp, rfl, by rw [upd_ne tr]; exact upd_same⟩ .nil)
      rw [upd_ne lr]
      exact xp _ _ hl2
    · rintro σ G4 ⟨v5, v6, v7, v8, ys, rfl, xG, hr_, _, ps, _⟩
      rw [List.length_map, List.take_length, pushF_take _ _ _ _ (Nat.le_refl _)] at ps
      exact kf G4 r ys xG hr_ ps no
theorem ok_obsIn (T : Tf mg) (L : FactC K C) {fP fR fS : Addr} {dP dR dS : FuncData} (mP : Meth K C "plain_fault" fP) (F_plain : FnOk P w K mg base C8.CX0 1 fP dP ["self"] (spPlain K C)) (bP : Binds K dP ["self"] [])
    (mR : Meth K C "rows" fR) (F_rows : FnOk P w K mg base C8.CX0 2 fR dR ["self"] (spRows C)) (bR : Binds K dR ["self"] []) (mS : Meth K C "last_slot" fS) (F_slot : FnOk P w K mg base C8.CX0 1 fS dS ["self"] (spLastSlot C)) (bS : Binds K dS ["self"] [])
    (D : Dx K mg "obstacle_in" s_obstacle_in ["facts"]) (c_pushes_of : Cal P w K mg base 3 "pushes_of" spPushes []) : Cal P w K mg base 4 "obstacle_in" (spObsIn C) [] := by
  refine cal_of D sc_obstacle_in (fun vs H Q E h => ?_) (fun f cdv A o s H vs Q E hr h => ?_)
  · obtain ⟨d, sz, ns, es, rfl, _⟩ := h; rfl
  · obtain ⟨d, sz, ns, es, rfl, fa, ok, cr, so, h60, k, kf⟩ := h
    refine ⟨_, (C8.pss_cut (ps_set (i := 1) sc_obstacle_in.nd rfl (Or.inl rfl) (pe_meth0 (mv 0) L.cl mP F_plain (hr.mono (by decide)) bP .nil ps0))
    (pss_cons (ps_if (qt op_notN (mv 1) pe_non (nomark _)) (pss_one (ps_ret (mv 1))) pss_nil)
    (C8.pss_cut (ps_set (i := 2) sc_obstacle_in.nd rfl (Or.inl rfl) (pe_c c_pushes_of hr (by decide) rfl (pa_cons (pe_meth0 (mv 0) L.cl mR F_rows (hr.mono (by decide)) bR .nil ps0) (pa_cons (pe_meth0 (mv 0) L.cl mS F_slot (hr.mono (by decide)) bS .nil ps0) pa_nil))))
    (pss_one (ps_ret (pe_ifExp (qt op_isN (mv 2) pe_non (nomark _)) pe_non (pe_tup (pa_cons (pe_gc rfl T.g_PUSHED) (pa_cons (mv 2) pa_nil))))))))), ?_⟩
    have nof : ∀ {m : Str}, ¬ m = "greatest" → ¬ m = "own" → ¬ m = "holders" → ¬ m = "seen_blocks" → ¬ m = "seen_entries" → ¬ m = "names" → ∀ a l lb hd od g, (fF a l lb hd od g).lookup m = none := fun h1 h2 h3 h4 h5 h6 a l lb hd od g => fF_no a l lb hd od g h1 h2 h3 h4 h5 h6
    refine ⟨fun σ H' => ∃ v, σ = [some (.ref d), some v, none] ∧ Ext H H' ∧ ((v = .non ∧ Clean sz es) ∨ FaultX H' sz es v), ?_, ?_⟩
    · obtain ⟨dx, a, l, lb, hd, od, g, q, xs, hi, _⟩ := id fa
      exact ⟨d, dx, _, rfl, hi, nof (by decide +kernel) (by decide +kernel) (by decide +kernel) (by decide +kernel) (by decide +kernel) (by decide +kernel) _ _ _ _ _ _, d, sz, ns, es, rfl, fa, ok.few, so, fun H1 x c => ⟨_, rfl, x, .inl ⟨rfl, c⟩⟩, fun H1 v x o => ⟨_, rfl, x, .inr o⟩⟩
    rintro σ H1 ⟨v, rfl, x1, ⟨rfl, c⟩ | fv⟩
    rotate_left
    · obtain ⟨t, kn, i, j, e, f, rfl, _⟩ := id fv
      refine ⟨rfl, ifT (by rfl) ?_⟩
      exact kf H1 _ x1 (.inl fv)
    refine ⟨rfl, ifF (by rfl) ?_⟩
    refine ⟨fun σ H' => ∃ v, σ = [some (.ref d), some .non, some v] ∧ Ext H H' ∧ ((v = .non ∧ Poss sz ns es) ∨ (∃ (f : Addr) (ys : List V) (bs : List Int), v = .ref f ∧ H' f = some (.lst ys) ∧ SeenB sz es bs ∧ ¬ Thru 0 (rowsF sz ns es 0 bs) ∧ Paired (StepAt H') (pushF 0 (rowsF sz ns es 0 bs) (leasts 0 (rowsF sz ns es 0 bs) ++ [(es.length : Int) + 1])) ys)), ?_, ?_⟩
    · have fa1 := fa.mono x1
      obtain ⟨dx, a, l, lb, hd, od, g, q, xs, hi, _⟩ := id fa1
      refine ⟨d, dx, _, rfl, hi, nof (by decide +kernel) (by decide +kernel) (by decide +kernel) (by decide +kernel) (by decide +kernel) (by decide +kernel) _ _ _ _ _ _, d, sz, ns, es, rfl, fa1, c, ok, cr, so, h60, fun H2 q xs bs x2 hq sb pr hl => ?_⟩
      refine ⟨d, dx, _, rfl, x2 _ _ hi, nof (by decide +kernel) (by decide +kernel) (by decide +kernel) (by decide +kernel) (by decide +kernel) (by decide +kernel) _ _ _ _ _ _, d, sz, ns, es, rfl, fa1.mono x2, ?_⟩
      exact ⟨q, _, xs, _, rfl, hq, pr, hl, rows_short cr.few sb ok so.1, fun H3 x3 th => ⟨_, rfl, (x1.trans x2).trans x3, .inl ⟨rfl, c, bs, sb, th⟩⟩, fun H3 f ys x3 hf ps no => ⟨_, rfl, (x1.trans x2).trans x3, .inr ⟨f, ys, bs, rfl, hf, sb, no, ps⟩⟩⟩
    rintro σ H2 ⟨v, rfl, x2, ⟨rfl, po⟩ | ⟨f, ys, bs, rfl, hf, sb, no, ps⟩⟩
    · exact ⟨rfl, ifT (by rfl) (k _ x2 po)⟩
    · refine ⟨rfl, ifF (by rfl) ?_⟩
      exact ⟨(by show 2 ≤ sizeLine; decide), fun tp ntp => kf _ _ (x2.trans (Ext.upd ntp)) (.inr ⟨c, bs, tp, f, ys, sb, no, rfl, upd_same, Ext.upd ntp _ _ hf, Paired.mapP ps fun _ _ q => q.mono (Ext.upd ntp)⟩)⟩
end
end NB

set_option Elab.async false
set_option linter.all false
set_option maxRecDepth 100000
/-! B8: set(xs) of whole numbers -/
namespace NB
open PySem PySem.Spec PyProof.Rows L2
theorem int_at : ∀ {us : List Value} {ns : List Int}, Vals (ns.map V.int) us → ∀ (i : Nat) (v : Value), us[i]? = some v → ∃ k t, ns[i]? = some k ∧ v = .int k t
  | _, [], .nil, i, v, h => by simp at h
  | _, x :: xs, .cons r q, 0, v, h => by
    obtain ⟨t, rfl⟩ := r
    simp at h
    exact ⟨x, t, rfl, h.symm⟩
  | _, x :: xs, .cons r q, i + 1, v, h => by
    simp only [List.getElem?_cons_succ] at h
    obtain ⟨k, t, e, e2⟩ := int_at q i v h
    exact ⟨k, t, by simpa using e, e2⟩
section
variable {prog : Program} {w : World} {A : Around} {E : Value → Shared → Prop} {s : Shared}
set_option maxHeartbeats 3200000 in
theorem call_set_ints {l : Addr} {items : Array Value} {ns : List Int} {Q : Value → Shared → Prop} (hh : A.handled = none) (hl : s.heap.IsList l items) (hi : Vals (ns.map V.int) items.toList) (hn : ns.length + 1 < scanBound)
    (h : ∀ (h' : Heap) (tk c : Nat), SetR w h' s.heap.objs.size (fun j => decide (j ∈ ns)) c → c ≤ ns.length →
      (∀ b o, b < s.heap.objs.size → s.heap.get? b = some o → h'.get? b = some o) → Q (.ref s.heap.objs.size) { s with heap := h', toks := tk }) :
    wpAny (model prog w) A (call (.type "set") [.ref l]) Q E s := by
  have hsz : items.size = ns.length := by have := hi.length; simpa using this.symm
  obtain ⟨c, tl, e_mro⟩ := PySem.F.called_set.mro
  have e_made := PySem.F.called_set.made
  have e_sub := PySem.F.called_set.sub
  have e_type := PySem.F.called_set.notType
  have e_can := PySem.F.called_set.canCreate
  have e_check := PySem.F.typeCall_set_1 (.ref l)
  refine wpAny_call (codeAny_of_tree (show wpAny _ _ (callAny (.type "set") _) _ _ _ from wpAny_pure ⟨Code.quiet_builtin _ (by decide +kernel), codeAny_builtin PySem.F.entry_type_call ?_⟩))
  rw [Around.under_plain (weight_type_call_type "set" [.ref l] []) rfl]
  repeat (any_goals (first | assumption | wp_step))
  refine codeAny_mono (code_set_led1 (.ref l) (E := E) (Q₁ := fun u z => u = .ref s.heap.objs.size ∧ z = { s with heap := s.heap.push (set0 (!w.params.followText "set-order")) }) ⟨rfl, rfl⟩) fun r s1 hr => ?_
  rcases r with e | fl
  · exact hr
  cases fl <;> first | exact hr.elim | skip
  obtain ⟨rfl, rfl⟩ := hr
  generalize hled : (!w.params.followText "set-order") = led
  have hS : (s.heap.push (set0 led)).get? s.heap.objs.size = some (set0 led) := Heap.get?_push_size _ rfl
  have hT : Shared.TypeIs { s with heap := s.heap.push (set0 led) } (.ref s.heap.objs.size) "set" := ⟨_, hS, rfl⟩
  have e_init := PySem.F.called_set.init.lookup
  have e_bind := PySem.F.called_set.init.bind (.ref s.heap.objs.size)
  repeat (any_goals (first | assumption | wp_step))
  refine codeAny_mono (codeAny_call_builtin (R := wants (fun u z => u = .none ∧ ∃ h' tk c, z = { s with heap := h', toks := tk } ∧ SetR w h' s.heap.objs.size (fun j => decide (j ∈ ns)) c ∧ c ≤ ns.length ∧
      (∀ b o, b < s.heap.objs.size → s.heap.get? b = some o → h'.get? b = some o)) E) PySem.F.called_set.init.plain PySem.F.entry_set_init (check_set_init_1 hT ?_)) fun r2 s2 hr2 => ?_
  · obtain ⟨⟨ocls, odict, odata, oslots⟩, hol, hcl, nl, hdl⟩ := hl
    simp only at hcl hdl
    subst hcl; subst hdl
    have hol2 : (s.heap.push (set0 led)).get? l = some { cls := .type "list", dict := odict, data := .seq items nl, slots := oslots } := Heap.get?_push_of_some _ hol
    have f1 := PySem.F.sub_list_set
    have f2 := PySem.F.sub_list_frozenset
    have f3 : (Value.type "list" == Value.type "dict") = false := by decide
    have hl1 : (s.heap.push (set0 led)).IsList l items := ⟨_, hol2, rfl, nl, rfl⟩
    unfold Builtin.«set.__init__» noKeywords Builtin.Frozenset.updateFrom
    generalize hPI : pyIter = PI
    wp_walk
    subst hPI
    refine wpAny_pyIter_list hl1 (wpAny_bind (wpAny_runValue ?_))
    have hlS : l < s.heap.objs.size := Heap.lt_size hol
    have size1 : (s.heap.push (set0 led)).objs.size = s.heap.objs.size + 1 := Heap.size_push _ _
    refine set_update_ints ((Walks.list (by simp [hh]) _ l (by rw [size1]; exact Nat.ne_of_lt (Nat.lt_succ_of_lt hlS)) items).toS) s.heap.objs.size ?hSf ns hsz hn
      (fun i v hv => int_at hi i v (by rw [Array.getElem?_toList]; exact hv)) (items.size - 0) 0 _ (by omega) (Nat.zero_le _) ⟨⟨_, Heap.get?_push_size _ rfl, rfl, rfl⟩, (hl1.push _)⟩ ?hS0 ?hR
    case hSf =>
      rw [size1]
      intro z
      rcases List.mem_cons.mp z with z | z
      · exact Nat.ne_of_lt (Nat.lt_succ_self _) z
      · exact Nat.ne_of_gt hlS (List.mem_singleton.mp z)
    case hS0 =>
      refine ⟨0, Nat.le_refl 0, ?_⟩
      subst hled
      exact setR_new_at (Heap.get?_push_of_some _ hS)
    case hR =>
      intro z c mv hc hz
      obtain ⟨h', g', d', tk', os'⟩ := z
      obtain rfl : g' = s.gens := mv.gens
      obtain rfl : d' = s.drawn := mv.drawn
      obtain rfl : os' = s.os := mv.os
      show wpAny _ _ _ _ _ _
      refine wpAny_pure ?_
      show wpAny _ _ (ret Value.none) _ _ _
      rw [hsz] at hc
      refine wpAny_pure ⟨rfl, h', tk', c, rfl, hz, hc, fun b o hb e => mv.heap b o ?_ (Heap.get?_push_of_some _ (Heap.get?_push_of_some _ e))⟩
      rw [size1]
      intro q
      rcases List.mem_cons.mp q with q | q
      · exact Nat.ne_of_lt hb q
      · exact Nat.ne_of_lt (Nat.lt_succ_of_lt hb) (List.mem_singleton.mp q)
  · rcases r2 with e | fl2
    · exact hr2
    cases fl2 <;> first | exact hr2.elim | skip
    obtain ⟨rfl, h', tk, c2, rfl, hz, hc, keep⟩ := hr2
    repeat (any_goals (first | assumption | wp_step))
    exact h _ _ _ hz hc keep
end
/-- set(xs), xs a list of whole numbers -/
def rSetI (K : PySem.W.Frag) (w : World) : List V → Hp → VK → Prop := fun xs H Q => ∃ (l : Addr) (ns : List Int), xs = [V.ref l] ∧ SqL K H l (ns.map V.int) ∧ ns.length ≤ 1000 ∧ ∀ (p : Addr) (c : Nat), H p = none → c ≤ ns.length → Q (.ref p) (L2.upd H p (SetO w p (fun j => decide (j ∈ ns)) c))
theorem cr_setI {X : Cx} (hc : X.calm = true) : CallR X (.type "set") (rSetI X.K X.w) := by
  intro pins s σ H xs us Q I r h
  obtain ⟨l, ns, rfl, hq, hn, q⟩ := h
  rw [Vals.ref1 r]
  obtain ⟨its, rv, pl, _⟩ := I.list hq
  refine call_set_ints (ns := ns) (I.ok.hd hc) pl.isList (by simpa using rv) (by unfold scanBound; omega) fun h' tk c R hcn hk => ?_
  exact ⟨.ref _, _, I.laid (t' := tk) (o := SetO X.w s.heap.objs.size (fun j => decide (j ∈ ns)) c) (fun b u e => hk b u (Heap.lt_size e) e) (Nat.le_refl _) (setO_new R), rfl, q _ c (I.hok.fresh (Nat.le_refl _)) hcn⟩
end NB

set_option Elab.async false
set_option linter.all false
set_option maxRecDepth 100000
set_option maxHeartbeats 2000000
/-! B20: sorted(s), s a set of any number of whole numbers -/
namespace NB
open PySem PySem.Spec PyProof.Rows L2
section
variable {P : Program} {w : World} {A : Around} {E : Value → Shared → Prop} {s : Shared} {a : Addr}
theorem sorted_setN {S : Int → Bool} {n : Nat} {Q : Value → Shared → Prop} (R : SetR w s.heap a S n) (hh : A.handled = none) (hz : n ≤ sizeLine)
    (hQ : ∀ s' p (out : Array Value) (c : Nat) (ns : List Int), (∀ b o, s.heap.get? b = some o → s'.heap.get? b = some o) → s'.gens = s.gens → s'.os = s.os → s.heap.objs.size ≤ p →
      s'.heap.get? p = some (seqObj "list" out c) → IntsAre out.toList ns → ns.Pairwise (· < ·) → (∀ k, k ∈ ns ↔ S k = true) → ns.length = n → Q (.ref p) s') :
    wpAny (model P w) A (call (.builtin "sorted") [.ref a]) Q E s := by
  obtain ⟨o, es, ep, t, ho, hex, hd, g, nd, hm, hb, hf, hn, hr, hl⟩ := R
  refine Calls.call_function_entry kind_sorted plain_sorted entry_sorted (args_sorted1 _) ?_
  unfold Builtin.«sorted»
  refine wpAny_bind (m := checkCount "sorted" 1 1 _) (wpAny_pure ?_)
  refine wpAny_bind (collect_set (A := A.in1) hh ⟨o, ho, hex.1, hd⟩ hf hb hr hl fun s1 vs k1 hz1 g1 o1 pm => ?_)
  have hvl : vs.length = n := by rw [pm.length_eq, List.length_map, Array.length_toList]; exact hn
  have hI : IntsAre vs (vs.map Builtin.Re.reRawOf) := ints_of vs fun v hv => by
    obtain ⟨e, he, q⟩ := List.mem_map.mp (pm.mem_iff.mp hv)
    obtain ⟨k, tk, h1, _⟩ := g e he
    exact ⟨k, tk, by rw [← q]; exact h1⟩
  have pk : (vs.map Builtin.Re.reRawOf).Perm (es.toList.map keyOf) := by
    have q := pm.map Builtin.Re.reRawOf
    rw [List.map_map] at q
    exact q
  refine wpAny_bind (wpAny_newList ?_ (by rw [hvl]; exact hz))
  have hoL : (s1.heap.push (seqObj "list" vs.toArray 0)).get? s1.heap.objs.size = some (seqObj "list" vs.toArray 0) := Heap.get?_push_size _ rfl
  refine wpAny_bind (wpAny_holding (wpAny_call_entry slot_list_sort ⟨_, hoL, rfl⟩ entry_list_sort (SrtO.list_sort_ord SrtO.swo_int hoL (by rw [hvl]; exact hz) (fun h2 => SrtO.ints_sortable hI h2) fun out h1 h2 => ⟨_, rfl, ?_⟩) (args_list_sort _)))
  obtain ⟨a1, a2, a3⟩ := SrtO.ints_out hI h1 h2
  obtain ⟨c, hc⟩ := sortedHeap_at (vs := vs) (out := out.toArray) hoL
  have pn : (out.map SrtO.iv).Perm (es.toList.map keyOf) := a2.trans pk
  refine wpAny_pure ⟨_, rfl, hQ _ s1.heap.objs.size out.toArray c (out.map SrtO.iv) (fun b u e => ?_) g1 o1 hz1 hc (by simpa using a1) (lt_of_le_nodup _ a3 (pn.nodup_iff.mpr nd)) (fun k => by rw [pn.mem_iff, ← hm k]) ?_⟩
  · have q := k1 b u e
    have hlt := Heap.lt_size q
    show (sortedHeap (s1.heap.push (seqObj "list" vs.toArray 0)) s1.heap.objs.size vs out.toArray).get? b = some u
    rw [sortedHeap_old (Nat.ne_of_lt hlt) (by rw [size_push']; exact Nat.lt_succ_of_lt hlt)]
    exact Heap.get?_push_of_some _ q
  · rw [pn.length_eq, List.length_map, Array.length_toList]; exact hn
end
def rSortedSetN (w : World) : List V → Hp → VK → Prop := fun vs H Q => ∃ (a : Addr) (S : Int → Bool) (n : Nat), vs = [V.ref a] ∧ H a = some (SetO w a S n) ∧ n ≤ 2000 ∧
  ∀ (ns : List Int) (p : Addr), ns.Pairwise (· < ·) → (∀ k : Int, k ∈ ns ↔ S k = true) → ns.length = n → H p = none → Q (.ref p) (upd H p (.lst (ns.map V.int)))
theorem cr_sortedSetN {X : Cx} (hc : X.calm = true) : CallR X (.builtin "sorted") (rSortedSetN X.w) := by
  intro pins s σ H vs us Q I r h
  obtain ⟨a, S, n, rfl, ha, hz, q⟩ := h
  have R := setO_get I ha
  rw [Vals.ref1 r]
  refine sorted_setN R (I.ok.hd hc) (by rw [sizeLine_eq]; omega) fun s' p out c ns k g o hp hg hi hs hm hl => ?_
  have hlen : (ns.map V.int).length ≤ sizeLine := by rw [List.length_map, hl, sizeLine_eq]; omega
  have hn : H p = none := I.hok.fresh hp
  have J : Inv X pins σ (upd H p (.lst (ns.map V.int))) { s with heap := s'.heap, gens := s'.gens, drawn := s'.drawn, toks := s'.toks } :=
    I.call (ch := []) (Un.laid k hp hn) (I.hok.laid k hp ⟨hlen, out.toList, c, vals_of_ints hi, hg⟩) (by rw [g]; exact I.bare) (fun _ z => nomatch z)
  have e : s' = { s with heap := s'.heap, gens := s'.gens, drawn := s'.drawn, toks := s'.toks } := by
    cases s'
    cases s
    cases o
    rfl
  rw [e]
  exact ⟨.ref p, _, J, rfl, q ns p hs hm hl hn⟩
end NB

set_option Elab.async false
set_option linter.all false
set_option maxRecDepth 100000
set_option maxHeartbeats 8000000
/-! K5b (k52): whether entries bar one another -/
namespace NB
open PySem PySem.Spec L2
open PyProof.Rows (envOfC)
open C8 (pe_c pe_mk pe_mt pe_mt0 pe_gc fnScope fnBody fnArgs fnScope_by Cal Met Mak)
def spClash : Sp := fun vs H Q _ => ∃ sz l es xs, vs = [.int sz, .ref l] ∧ H l = some (.lst xs) ∧ EntL H es xs ∧ SizeOk sz ∧ (∀ e ∈ es, 0 ≤ e.2) ∧ es.length ≤ 62 ∧ ∀ H', Ext H H' → (Clean sz es → Q (.bl false) H') ∧ (¬ Clean sz es → Q (.bl true) H')
structure ClI (H : Hp) (d1 d2 : Addr) (sz : Int) (es : List (Str × Int)) (i : Nat) (H' : Hp) : Prop where
  x : Ext H H'
  a : ∃ k, H' d1 = some (.dK k) ∧ k.length ≤ i ∧ (∀ (m : Int) v, valV k (Sum.inl m) = some v → ∃ j e, j < i ∧ es[j]? = some e ∧ v = .str e.1 ∧ e.2 / sz = m) ∧ ∀ (m : Int), valV k (Sum.inl m) = none → ∀ (j : Nat) (e : Str × Int), j < i → es[j]? = some e → e.2 / sz ≠ m
  c : ∃ k, H' d2 = some (.dK k) ∧ k.length ≤ i ∧ (∀ (z : Str) v, valV k (Sum.inr z) = some v → ∃ j e, j < i ∧ es[j]? = some e ∧ v = .int e.2 ∧ e.1 = z ∧ ∀ (j' : Nat) (e' : Str × Int), j' < i → es[j']? = some e' → e'.1 = z → e'.2 ≤ e.2) ∧ ∀ (z : Str), valV k (Sum.inr z) = none → ∀ (j : Nat) (e : Str × Int), j < i → es[j]? = some e → e.1 ≠ z
  cl : Clean sz (es.take i)
theorem ClI.ext {H : Hp} {d1 d2 : Addr} {sz : Int} {es : List (Str × Int)} {i : Nat} {G G' : Hp} (I : ClI H d1 d2 sz es i G) (x : Ext G G') : ClI H d1 d2 sz es i G' := by
  obtain ⟨a, ⟨k, b1, b2⟩, ⟨k', c1, c2⟩, d⟩ := I
  exact ⟨a.trans x, ⟨k, x _ _ b1, b2⟩, ⟨k', x _ _ c1, c2⟩, d⟩
section
variable {P : Program} {w : World} {K : PySem.W.Frag} {mg : Str → Option Value} {base : Heap}
theorem ok_clash (T : Tb mg) (D : Dx K mg "_law_clash" s__law_clash ["wide", "rows"]) : Cal P w K mg base 1 "_law_clash" spClash [] := by
  refine cal_of D sc__law_clash (fun vs H Q E h => ?_) (fun f cdv A o s H vs Q E hr h => ?_)
  · obtain ⟨sz, l, es, xs, rfl, _⟩ := h; rfl
  · obtain ⟨sz, l, es, xs, rfl, hl, el, so, nn, h60, k⟩ := h
    have xl := el.len
    refine ⟨_, (C8.pss_cut (ps_par (i := 2) (j := 3) rfl sc__law_clash.nd rfl rfl (by decide) rfl rfl (pa_cons pe_dnewK (pa_cons pe_dnewK pa_nil)) (by rfl))
    (pss_cons (ps_for PassesOwn.never rfl (pi_list (mv 1)) (pg_tup rfl (pgs_cons (pg_name (i := 4) sc__law_clash.nd rfl (Or.inl rfl)) (pgs_cons (pg_name (i := 5) sc__law_clash.nd rfl (Or.inl rfl)) pgs_nil)))
    (C8.pss_cut (ps_set (i := 6) sc__law_clash.nd rfl (Or.inl rfl) (pe_op m_div (mv 5) (mv 0)))
    (C8.pss_cut (ps_if (PW.pt (pw_or (qt m_ne (pe_dget2 (u2 hr) (mv 2) (mv 6) (mv 4) ⟨rfl, rfl, rfl, rfl⟩) (mv 4) (nomark _)) (pw_or1 (qt m_ge (pe_dget2 (u2 hr) (mv 3) (mv 4) (pe_un m_neg pe_int) ⟨rfl, rfl, rfl, rfl⟩) (mv 5) (nomark _))))) (pss_one (ps_ret pe_bl)) pss_nil)
    (pss_one (ps_asg (pe_tup (pa_cons (mv 4) (pa_cons (mv 5) pa_nil))) (pg_tup rfl (pgs_cons (pg_sub (mv 2) (mv 6) (set_dict (u2 hr))) (pgs_cons (pg_sub (mv 3) (mv 4) (set_dict (u2 hr))) pgs_nil))))))))
    (pss_one (ps_ret pe_bl)))), ?_⟩
    refine ⟨fun σ H' => ∃ d1 d2, σ = [some (.int sz), some (.ref l), some (.ref d1), some (.ref d2), none, none, none] ∧ H d1 = none ∧ H d2 = none ∧ d1 ≠ d2 ∧ ClI H d1 d2 sz es 0 H', ?_, ?_⟩
    · refine fun d1 n1 d2 n2 => ⟨_, _, rfl, d1, d2, rfl, n1, (upd_none n2).2, (upd_none n2).1.symm, (Ext.upd n1).trans (Ext.upd n2), ⟨[], ?_, Nat.le_refl _, (fun m v h => nomatch h), fun _ _ _ _ h => absurd h (Nat.not_lt_zero _)⟩, ⟨[], upd_same, Nat.le_refl _, (fun m v h => nomatch h), fun _ _ _ _ h => absurd h (Nat.not_lt_zero _)⟩, ⟨(fun a b e f _ h => by simp at h), (fun a b e f h => by simp at h), (fun a b e f _ h => by simp at h)⟩⟩
      rw [upd_ne (upd_none n2).1.symm]; exact upd_same
    rintro σ H1 ⟨d1, d2, rfl, n1, n2, h12, I0⟩
    refine ⟨l, rfl, ⟨_, SqL.of (I0.x _ _ hl)⟩, for_list (K := K) (a := l) (xs := xs) (fun i σ H' => ∃ v4 v5 v6, σ = [some (.int sz), some (.ref l), some (.ref d1), some (.ref d2), v4, v5, v6] ∧ ClI H d1 d2 sz es i H') ⟨_, _, _, rfl, I0⟩ ?_ ?_ ?_⟩
    · rintro i σ H' _ ⟨_, _, _, rfl, I⟩; exact SqL.of (I.x _ _ hl)
    · clear I0
      rintro i y σ G hy ⟨v4, v5, v6, rfl, I⟩
      obtain ⟨⟨who, fig⟩, hv, t, rfl, ht⟩ := EntL.at el hy
      have hi : i < es.length := (List.getElem?_eq_some_iff.mp hv).1
      have f0 : 0 ≤ fig := nn _ (List.mem_of_getElem? hv)
      refine ⟨t, _, rfl, SqT.of (I.x _ _ ht), rfl, _, _, rfl, _, _, rfl, rfl, ?_⟩
      refine ⟨fun σ H' => σ = [some (.int sz), some (.ref l), some (.ref d1), some (.ref d2), some (.str who), some (.int fig), some (.int (fig / sz))] ∧ H' = G, ?_, ?_⟩
      · exact ⟨cdv_size _ so, rfl, rfl⟩
      rintro σ G' ⟨rfl, rfl⟩
      obtain ⟨x, ⟨k1, a1, a2, a3, a4⟩, ⟨k2, c1, c2, c3, c4⟩, cl⟩ := id I
      refine ⟨fun σ H' => σ = [some (.int sz), some (.ref l), some (.ref d1), some (.ref d2), some (.str who), some (.int fig), some (.int (fig / sz))] ∧ H' = G' ∧ Clean sz (es.take (i + 1)) ∧ (∀ (j' : Nat) (e' : Str × Int), j' < i → es[j']? = some e' → e'.1 = who → e'.2 ≤ fig), ?_, ?_⟩
      · refine ⟨d1, rfl, .inl ⟨k1, .inl a1⟩, valV k1 (Sum.inl (fig / sz)), DGet.k (k := Sum.inl (fig / sz)) a1, ?_⟩
        obtain ⟨z1, ez1, zq⟩ : ∃ z1 : Str, (valV k1 (Sum.inl (fig / sz))).getD (.str who) = .str z1 ∧ (z1 ≠ who → ¬ Clean sz es) ∧ (z1 = who → ∀ (j : Nat) (e : Str × Int), j < i → es[j]? = some e → e.2 / sz = fig / sz → e.1 = who) := by
          cases q : valV k1 (Sum.inl (fig / sz)) with
          | none => exact ⟨who, rfl, fun n => absurd rfl n, fun _ j e l h b => absurd b (a4 _ q j e l h)⟩
          | some v =>
            obtain ⟨j, e, j1, j2, rfl, j4⟩ := a3 _ _ q
            refine ⟨e.1, rfl, fun n c => n (c.same j i e _ j2 hv j4), fun ez j' e' l h b => ?_⟩
            rw [← ez]
            exact cl.same j' j e' e (by rw [List.getElem?_take, if_pos l]; exact h) (by rw [List.getElem?_take, if_pos j1]; exact j2) (b.trans j4.symm)
        rw [ez1]
        refine ifND (p := z1 = who) (fun n => (k G' x).2 (zq.1 n)) (fun ez => ?_)
        have sb := zq.2 ez
        refine ⟨d2, rfl, .inl ⟨k2, .inl c1⟩, valV k2 (Sum.inr who), DGet.k (k := Sum.inr who) c1, ?_⟩
        obtain ⟨v1, ev1, vq1, vq2⟩ : ∃ v1 : Int, (valV k2 (Sum.inr who)).getD (.int (-1)) = .int v1 ∧ (fig ≤ v1 → ¬ Clean sz es) ∧ (∀ (j : Nat) (e : Str × Int), j < i → es[j]? = some e → e.1 = who → e.2 ≤ v1) := by
          cases q : valV k2 (Sum.inr who) with
          | none => exact ⟨-1, rfl, fun n => absurd n (by omega), fun j e l h b => absurd b (c4 _ q j e l h)⟩
          | some v =>
            obtain ⟨j, e, j1, j2, rfl, j4, j5⟩ := c3 _ _ q
            refine ⟨e.2, rfl, fun n c => ?_, j5⟩
            have := c.D j i e _ j1 j2 hv j4
            have : e.2 < fig := this
            omega
        rw [ev1]
        refine ifD (p := fig ≤ v1) (fun n => (k G' x).2 (vq1 n)) (fun n => ⟨rfl, rfl, ?_, fun j' e' l h b => by have := vq2 j' e' l h b; omega⟩)
        refine cl.step hv (fun j' f' l h q => ?_) (fun j' f' l h b => sb j' f' l h b) (fun j' f' l h b => ?_)
        · have q : f'.2 = fig := q
          have h1 := sb j' f' l h (by rw [q])
          have := vq2 j' f' l h h1
          omega
        · have := vq2 j' f' l h b
          show f'.2 < fig
          omega
      rintro σ G ⟨rfl, rfl, clN, mx_⟩
      have small : ∀ {k : Nat}, k ≤ i → k < sizeLine := fun {k} h => Nat.lt_of_le_of_lt (show k ≤ 62 by omega) (by decide)
      refine ⟨(by show 2 ≤ sizeLine; decide), fun tp ntp => ?_⟩
      have xt := Ext.upd (o := .tup [.str who, .int fig]) ntp
      have ct : (upd G tp (.tup [.str who, .int fig])) tp = some (.tup [.str who, .int fig]) := upd_same
      have a1 := xt _ _ a1
      have c1 := xt _ _ c1
      have x := x.trans xt
      generalize upd G tp (.tup [.str who, .int fig]) = G1 at ct a1 c1 x ⊢
      refine ⟨tp, _, rfl, SqT.of ct, rfl, _, _, rfl, d1, _, rfl, .inl ⟨k1, Sum.inl (fig / sz), a1, rfl, small a2, rfl⟩, ?_⟩
      have y1 : Ext H (upd G1 d1 (.dK (putK k1 (Sum.inl (fig / sz)) (.str who)))) := put_ext x n1
      have e1 : (upd G1 d1 (.dK (putK k1 (Sum.inl (fig / sz)) (.str who)))) d1 = some (.dK (putK k1 (Sum.inl (fig / sz)) (.str who))) := upd_same
      have e2 : (upd G1 d1 (.dK (putK k1 (Sum.inl (fig / sz)) (.str who)))) d2 = some (.dK k2) := by rw [upd_ne h12.symm]; exact c1
      generalize upd G1 d1 (.dK (putK k1 (Sum.inl (fig / sz)) (.str who))) = G2 at y1 e1 e2 ⊢
      refine ⟨_, _, rfl, d2, _, rfl, .inl ⟨k2, Sum.inr who, e2, rfl, small c2, rfl⟩, rfl, _, _, _, rfl, put_ext y1 n2, ⟨_, by rw [upd_ne h12]; exact e1, Nat.le_trans (length_putK _ _ _) (by omega), fun m v h => ?_, fun m h j' e' l he' => ?_⟩, ⟨_, upd_same, Nat.le_trans (length_putK _ _ _) (by omega), fun z v h => ?_, fun z h j' e' l he' => ?_⟩, clN⟩
      · rw [valV_put] at h
        by_cases e : m = fig / sz
        · rw [if_pos (by rw [e])] at h
          exact ⟨i, _, by omega, hv, (Option.some.inj h).symm, e.symm⟩
        · rw [if_neg (fun y => e (Sum.inl.inj y))] at h
          obtain ⟨j, f, j1, j2⟩ := a3 _ _ h
          exact ⟨j, f, by omega, j2⟩
      · rw [valV_put] at h
        by_cases e : m = fig / sz
        · rw [if_pos (by rw [e])] at h; cases h
        · rw [if_neg (fun y => e (Sum.inl.inj y))] at h
          rcases Nat.lt_or_ge j' i with q | q
          · exact a4 _ h j' e' q he'
          · have : j' = i := by omega
            subst this
            rw [hv] at he'
            rw [← Option.some.inj he']
            exact fun y => e y.symm
      · rw [valV_put] at h
        by_cases e : z = who
        · rw [if_pos (by rw [e])] at h
          refine ⟨i, _, by omega, hv, (Option.some.inj h).symm, e.symm, fun j' e' l he' n => ?_⟩
          rcases Nat.lt_or_ge j' i with q | q
          · exact mx_ j' e' q he' (n.trans e)
          · have : j' = i := by omega
            subst this
            rw [hv] at he'
            rw [← Option.some.inj he']
            exact Int.le_refl _
        · rw [if_neg (fun y => e (Sum.inr.inj y))] at h
          obtain ⟨j, f, j1, j2, j3, j4, j5⟩ := c3 _ _ h
          refine ⟨j, f, by omega, j2, j3, j4, fun j' e' l he' n => ?_⟩
          rcases Nat.lt_or_ge j' i with q | q
          · exact j5 j' e' q he' n
          · have : j' = i := by omega
            subst this
            rw [hv] at he'
            rw [← Option.some.inj he'] at n
            exact absurd n.symm e
      · rw [valV_put] at h
        by_cases e : z = who
        · rw [if_pos (by rw [e])] at h; cases h
        · rw [if_neg (fun y => e (Sum.inr.inj y))] at h
          rcases Nat.lt_or_ge j' i with q | q
          · exact c4 _ h j' e' q he'
          · have : j' = i := by omega
            subst this
            rw [hv] at he'
            rw [← Option.some.inj he']
            exact fun y => e y.symm
    · rintro σ G ⟨v4, v5, v6, rfl, I⟩
      have c := I.cl
      rw [← xl, List.take_length] at c
      exact (k G I.x).1 c
end
end NB

set_option Elab.async false
set_option linter.all false
set_option maxRecDepth 100000
set_option maxHeartbeats 4000000
/-! K4j (k11): facts of a log, window, obstacle -/
namespace NB
open PySem PySem.Spec L2
open PyProof.Rows (envOfC)
open C8 (pe_c pe_mk pe_mt pe_mt0 pe_gc fnScope fnBody fnArgs fnScope_by Cal Met Mak)
def spFactsOf (K : PySem.W.Frag) (cL cX : Addr) (A0 : Ads) (cF : Addr) : Sp := fun vs H Q _ => ∃ p C kd sz ns es, vs = [.ref p] ∧ LogAt C H p sz ns es ∧ LogM K cL cX C kd A0 ∧ SizeOk sz ∧ CrewOk ns ∧ EntsOk ns es ∧ ∀ H' d, H d = none → FactsAt cF H' d sz ns es → Ext H H' → Q (.ref d) H'
/-- where the methods of Facts stand -/
structure AdF where
  (fI fW fA fP fR fS : Addr)
  (dI dW dA dP dR dS : FuncData)
structure FactM (K : PySem.W.Frag) (C : Addr) (B : AdF) : Prop extends FactC K C where
  mW : Meth K C "window_of" B.fW
  mA : Meth K C "window_at" B.fA
  mP : Meth K C "plain_fault" B.fP
  mR : Meth K C "rows" B.fR
  mS : Meth K C "last_slot" B.fS
def spObs (K : PySem.W.Frag) (cL cX : Addr) (A0 : Ads) : Sp := fun vs H Q _ => ∃ p C kd sz ns es, vs = [.ref p] ∧ LogAt C H p sz ns es ∧ LogM K cL cX C kd A0 ∧ SizeOk sz ∧ CrewOk ns ∧ EntsOk ns es ∧ es.length ≤ 62 ∧ (∀ H', Ext H H' → Poss sz ns es → Q .non H') ∧ ∀ H' v, Ext H H' → ObsX sz ns es H' v → Q v H'
section
variable {P : Program} {w : World} {K : PySem.W.Frag} {mg : Str → Option Value} {base : Heap} {cL cX cF : Addr} {A0 : Ads}
theorem ok_factsOf (T : Tx K mg cL cX) (Ms : Ms K A0) (D : Dx K mg "facts_of" s_facts_of ["log"]) (c_Facts : Mak P w K mg base 1 "Facts" cF (spFactsI cF) []) : Cal P w K mg base 3 "facts_of" (spFactsOf K cL cX A0 cF) [] := by
  refine cal_of D sc_facts_of (fun vs H Q E h => ?_) (fun f cdv A o s H vs Q E hr h => ?_)
  · obtain ⟨p, C, kd, sz, ns, es, rfl, _⟩ := h; rfl
  · obtain ⟨p, C, kd, sz, ns, es, rfl, lg, M, so, cr, ok, k⟩ := h
    have F_size := ok_size (P := P) (w := w) (mg := mg) (base := base) M.toLogC Ms.mZ
    have F_servers := ok_servers (P := P) (w := w) (base := base) T M.toLogC Ms.mV
    have F_entries := ok_entries (P := P) (w := w) (base := base) T M.toLogC Ms.mE
    obtain ⟨_, pZ⟩ := M.pZ
    obtain ⟨_, pV⟩ := M.pV
    obtain ⟨_, pE⟩ := M.pE
    refine ⟨_, (pss_one (ps_ret (pe_mk c_Facts hr (by decide) rfl (pa_cons (pe_prop (mv 0) M.cl pZ F_size (hr.mono (by decide)) Ms.mZ.b .nil ps0 rfl) (pa_cons (pe_prop (mv 0) M.cl pV F_servers (hr.mono (by decide)) Ms.mV.b .nil ps0 rfl) (pa_cons (pe_prop (mv 0) M.cl pE F_entries (hr.mono (by decide)) Ms.mE.b .nil ps0 rfl) pa_nil)))))), ?_⟩
    obtain ⟨dx, ls, le, xs0, hp, g1, g2, el0⟩ := id lg
    refine ⟨p, dx, _, rfl, hp, p, sz, ns, es, rfl, lg, p, dx, _, rfl, hp, p, sz, ns, es, rfl, lg, fun la na => ?_⟩
    have x1 := Ext.upd (o := .lst (ns.map V.str)) na
    have ha : (upd H la (.lst (ns.map V.str))) la = some (.lst (ns.map V.str)) := upd_same
    have lg1 := lg.mono x1
    have hp1 := x1 _ _ hp
    generalize upd H la (.lst (ns.map V.str)) = H1 at x1 ha lg1 hp1 ⊢
    refine ⟨p, dx, _, rfl, hp1, p, sz, ns, es, rfl, lg1, fun lb xs nb el => ?_⟩
    have x2 := Ext.upd (o := .lst xs) nb
    have hb : (upd H1 lb (.lst xs)) lb = some (.lst xs) := upd_same
    have el2 := el.mono x2
    have ha2 := x2 _ _ ha
    have x2 := x1.trans x2
    generalize upd H1 lb (.lst xs) = H2 at x2 hb el2 ha2 ⊢
    intro q dq nq nd ne
    have x0 : Ext H2 (upd (upd H2 dq (.own q)) q (.ins cF dq [])) := fun b o e => by
      rw [upd_ne (ne_of_none e nq), upd_ne (ne_of_none e nd)]; exact e
    refine ⟨q, dq, sz, la, lb, ns, es, xs, rfl, upd_same, x0 _ _ ha2, cr, x0 _ _ hb, el2.mono x0, ok, so, fun H' fa fr => ⟨rfl, ?_⟩⟩
    exact k H' q (Ext.free x2 nq) fa (x2.trans fun b o e => fr _ _ (x0 _ _ e) fun z => ne_of_none e nq (List.mem_singleton.mp z))
theorem ok_obstacle (D : Dx K mg "obstacle" s_obstacle ["log"]) (c_facts_of : Cal P w K mg base 3 "facts_of" (spFactsOf K cL cX A0 cF) []) (c_obstacle_in : Cal P w K mg base 4 "obstacle_in" (spObsIn cF) []) : Cal P w K mg base 5 "obstacle" (spObs K cL cX A0) [] := by
  refine cal_of D sc_obstacle (fun vs H Q E h => ?_) (fun f cdv A o s H vs Q E hr h => ?_)
  · obtain ⟨p, C, kd, sz, ns, es, rfl, _⟩ := h; rfl
  · obtain ⟨p, C, kd, sz, ns, es, rfl, lg, M, so, cr, ok, h60, k, kf⟩ := h
    refine ⟨_, (pss_one (ps_ret (pe_c c_obstacle_in hr (by decide) rfl (pa_cons (pe_c c_facts_of hr (by decide) rfl (pa_cons (mv 0) pa_nil)) pa_nil)))), ?_⟩
    refine ⟨p, C, kd, sz, ns, es, rfl, lg, M, so, cr, ok, fun H2 d nd fa x2 => ?_⟩
    exact ⟨d, sz, ns, es, rfl, fa, ok, cr, so, h60, fun H3 x3 => k H3 (x2.trans x3), fun H3 v x3 => kf H3 v (x2.trans x3)⟩
end
end NB

set_option Elab.async false
set_option linter.all false
set_option maxRecDepth 100000
set_option maxHeartbeats 2000000
/-! B17: Base.__init__(self, ..) of an own base; isinstance of a caught error that has a dict; a first clause with a name, others behind it -/
namespace NB
open PySem PySem.Spec PyProof.Rows L2
section
variable {X : Cx} {e : Expr} {es : List Expr} {ta : TA} {te : TE} {p1 p2 pos : Pos}
/-- an own base class whose __init__ is ValueError's -/
structure BaseI (K : PySem.W.Frag) (B : Addr) (mc : Value) : Prop where
  rd : ClX.CRead K B mc
  it : PySem.W.findCls K (.ref B) mc "__init__" = some (.val (.builtin "ValueError.__init__"))
theorem pe_binit {x : Str} {B : Addr} {mc : Value} {pl : Sem Bool} (T : BaseI X.K B mc) (hg : Gl X x) (hm : X.mg x = some (.ref B)) (ha : PA X (e :: es) ta)
    (hev : eval (.Call (.Attribute (.Name x p1) "__init__" p2) (e :: es) [] pos) X.env = (do
      let ov ← eval (.Name x p1) X.env
      standAt p2.atName
      let (f, first) ← holding [ov] (getMethod ov "__init__" pl)
      callWith pos f first (backTo pos (starEach (e :: es) X.env)) (backToKw pos (keywordEach [] X.env))) := by rfl)
    (hse : starEach (e :: es) X.env = (false, eval e X.env) :: starEach es X.env := by rfl) (hbk : (backTo pos (starEach es X.env)).any (·.1) = false := by rfl) (hdb : (x == ("__debug__" : Str)) = false := by decide) :
    PE X (.Call (.Attribute (.Name x p1) "__init__" p2) (e :: es) [] pos) (tVeI X.K ta) := by
  constructor
  intro ps s σ H Q I h
  refine PySem.W.methodCall_KW (ld_glob I hg hm ?_ hdb) hev
  refine PySem.W.method_cls I.kIn T.rd.ga (PySem.W.cls_value I.kIn T.rd.rd T.it (by decide +kernel) ?_)
  refine PyProof.Rows.callWith_method1 (thn (ha.run pos ps _ σ H _ (I.tok _) h) fun us s1 z => ?_) hse hbk
  obtain ⟨vs, H1, I1, r1, a, C, ws, rfl, hl, T1, ea, q⟩ := z
  cases r1 with
  | @cons _ u0 _ ur ra rw' =>
    obtain rfl : u0 = Value.ref a := ra
    refine oinit_ok T1 I1 ea ?_ fun s2 J => ⟨.non, H1, J, rfl, q⟩
    have e1 := Paired.length rw'
    have e2 := sizeLine_eq
    omega
/-- a caught error that has a dict -/
theorem kit_held {pins : List (Addr × Obj)} {σ : L2.St} {H : Hp} {s : Shared} {a dd D : Addr} {oe : Obj} {pn : List (Addr × Obj)} {fs : List (Str × V)} (C : ExcC X.K D) (hz : Zc (.ref D) (some dd) oe) (hf : ∃ vs, oe.data = .fields vs) (I : Inv (X.suite a ((a, oe) :: pn)) pins σ H s)
    (hd : H dd = some (.xd fs)) : ∃ od, PySem.W.InstAt s.heap a oe D (some od) ∧ PySem.W.KitX X.K (.ref a) (.ref D) (fun h => PySem.W.InstAt h a oe D (some od)) := by
  obtain ⟨hget, _⟩ := I.pin (a, oe) (List.mem_append.mpr (.inl List.mem_cons_self))
  have okd : ObjOk X.prog X.w H s.heap dd (.xd fs) := I.hok dd _ hd
  obtain ⟨mA, hns, _⟩ := okd
  obtain ⟨od, hod, _⟩ := lookIn_ns hns
  obtain ⟨vs, hv⟩ := hf
  refine ⟨od, ⟨hget, hz.1, by unfold PySem.W.notCls; rw [hv] <;> rfl, by rw [hz.2]; exact hod⟩, ?_⟩
  obtain ⟨cd, hcd, _⟩ := PySem.W.any_some C.hd
  exact PySem.W.kitx_exc (by rw [hcd]; rfl) C.hg C.hk C.hs C.ha C.hn C.ht C.hm
def rHeld (K : PySem.W.Frag) (D a : Addr) (cls : Value) (d : Option Addr) : List V → Hp → VK → Prop := fun xs H Q => ∃ (c : V) (u : Value) (b : Bool) (fs : List (Str × V)) (dd : Addr), xs = [.ref a, c] ∧ cls = .ref D ∧ d = some dd ∧ ClsV c u ∧ H dd = some (.xd fs) ∧ PySem.W.kitOne K (.ref D) u = some b ∧ Q (.bl b) H
def rHeldT (K : PySem.W.Frag) (D a : Addr) (cls : Value) (d : Option Addr) : List V → Hp → VK → Prop := fun xs H Q => ∃ (tp : Addr) (cs : List V) (us : List Value) (b : Bool) (fs : List (Str × V)) (dd : Addr), xs = [.ref a, .ref tp] ∧ cls = .ref D ∧ d = some dd ∧ H tp = some (.tup cs) ∧ Paired ClsV cs us ∧ H dd = some (.xd fs) ∧ PySem.W.kitAny K (.ref D) us = some b ∧ Q (.bl b) H
theorem call_held {a D : Addr} {cls : Value} {d : Option Addr} {oe : Obj} {pn : List (Addr × Obj)} (C : ExcC X.K D) (hz : Zc cls d oe) (hf : ∃ vs, oe.data = .fields vs) : CallR (X.suite a ((a, oe) :: pn)) (.builtin "isinstance") (rHeld X.K D a cls d) := by
  intro pins s σ H xs us Q I r h
  obtain ⟨c, u, b, fs, dd, rfl, rfl, rfl, kc, hd, e, q⟩ := h
  obtain ⟨u1, u2, rfl, r1, r2⟩ := vals2 r
  obtain rfl : u1 = Value.ref a := r1
  have e2 := kc.eq r2
  subst e2
  obtain ⟨od, J, Z⟩ := kit_held C hz hf I hd
  exact PySem.W.kia_one Z I.kIn J e (fun z => nomatch z) fun tk => ⟨.bl b, H, I.tok tk, rfl, q⟩
theorem call_heldT {a D : Addr} {cls : Value} {d : Option Addr} {oe : Obj} {pn : List (Addr × Obj)} (C : ExcC X.K D) (hz : Zc cls d oe) (hf : ∃ vs, oe.data = .fields vs) : CallR (X.suite a ((a, oe) :: pn)) (.builtin "isinstance") (rHeldT X.K D a cls d) := by
  intro pins s σ H xs us Q I r h
  obtain ⟨tp, cs, ws, b, fs, dd, rfl, rfl, rfl, hT, kc, hd, e, q⟩ := h
  obtain ⟨u1, u2, rfl, r1, r2⟩ := vals2 r
  obtain rfl : u1 = Value.ref a := r1
  obtain rfl : u2 = Value.ref tp := r2
  obtain ⟨od, J, Z⟩ := kit_held C hz hf I hd
  have okT : ObjOk X.prog X.w H s.heap tp (.tup cs) := I.hok tp _ hT
  obtain ⟨_, its, rv, o, h1, h2, n, h3⟩ := okT
  have e3 := ClsV.all kc rv
  subst e3
  obtain ⟨oc, odd, dt, sl⟩ := o
  dsimp only at h2 h3
  subst h2 h3
  exact PySem.W.kia_tup Z I.kIn J h1 e (fun z => nomatch z) fun tk => ⟨.bl b, H, I.tok tk, rfl, q⟩
end
/-- the first clause, named, takes every exception of the body -/
def wFst (K : PySem.W.Frag) (c : Value) (i : Nat) (ts : Addr → Value → Option Addr → TS) (D : Ends) : WX := fun cls d σ H =>
  PySem.W.exmOne K cls c = some true ∧ ∀ a, H a = none → ts a cls d { nx := fun σ' H' => D.nx (σ'.set i none) H', rt := D.rt, bk := fun σ' H' => D.bk (σ'.set i none) H', ct := fun σ' H' => D.ct (σ'.set i none) H' } (σ.set i (some (.ref a))) H
section
variable {X : Cx} {x n : Str} {c : Value} {i : Nat} {body suite : List Stmt} {b₀ : Stmt} {np pos pos' : Pos} {tb : WX → TS} {ts : Addr → Value → Option Addr → TS} {more : List ExceptHandler}
theorem ps_try_fst (hs : X.stack = X.env :: X.outer) (hf : X.env.frame = some X.env.locals) (hN : X.N.Nodup) (hi : X.N[i]? = some n) (hln : X.env.kindOf n = some .local) (hc : Names X x c)
    (hbody : ∀ (W : WX) (pn : List (Addr × Obj)) (xe : Value → Shared → Prop), Takes (X.tr pn xe) W → PassesOwn (model X.prog X.w) X.A X.env xe → PSs (X.tr pn xe) body (tb W))
    (hsuite : ∀ (a : Addr) (oe : Obj) (cls : Value) (d : Option Addr) (pn : List (Addr × Obj)), Zc cls d oe → (∃ vs, oe.data = .fields vs) → PSs (X.suite a ((a, oe) :: pn)) (b₀ :: suite) (ts a cls d)) :
    PS X (.Try body (.ExceptHandler (some (.Name x np)) (some n) (b₀ :: suite) pos' :: more) [] [] pos) (fun D σ H => tb (wFst X.K c i ts D) D σ H) := by
  constructor
  intro pins s σ H D I hq
  have okX := I.ok
  have frX : X.A.frames = some (X.env :: X.outer) := okX.frames.trans (congrArg some hs)
  refine wpAny_Try_except ?_
  have run := (hbody (wFst X.K c i ts D) (X.pn ++ pins) (fun er z1 => wpAny (model X.prog X.w) X.A (noteFrame er X.env) (fun _ z2 => wpAny (model X.prog X.w) X.A (setFlight er none) (fun _ z3 =>
    wpAny (model X.prog X.w) X.A (handleBy er X.env (.ExceptHandler (some (.Name x np)) (some n) (b₀ :: suite) pos' :: more)) (SP X pins D) X.xe z3) X.xe z2) X.xe z1) (fun u z0 hx => ?caught) PassesOwn.looking).run [] s σ H D (I.toTry _) hq
  case caught =>
    obtain ⟨a, G, zI, ps2, σ2, H2, cl, d, rfl, J0, kG, up, sky, na, hos, hbare, hyes, goes⟩ := hx
    have J : Inv X pins σ2 H2 zI := J0.ofTry okX
    rw [show (X.tr _ _).stack = X.env :: X.outer from hs] at sky
    show wpAny (model X.prog X.w) X.A (noteFrame (.ref a) X.env) _ _ _
    refine Sky.land Zc.steady frX hf sky fun h1 fl1 up1 => ?_
    have J1 : Inv X pins σ2 H2 { z0 with heap := h1 } := J.landed kG fl1.1 (up.trans up1) hos hbare
    obtain ⟨o1, v1, at1, zc1, dat1⟩ := fl1.there
    -- the error's record is no frame
    have apart : a ∉ frs (X.env :: X.outer) := fun hm => by
      obtain ⟨_, o', ho', nf⟩ := fl1.2.2.1.mem hm
      rw [at1] at ho'
      cases ho'
      exact nf _ dat1
    have aL : a ≠ X.env.locals := fun z => apart (List.mem_filterMap.mpr ⟨X.env, List.mem_cons_self, hf.trans (congrArg some z.symm)⟩)
    have aF : a ∉ X.fs := fun hm => by
      obtain ⟨ev, hev, hfr⟩ := List.mem_filterMap.mp hm
      exact apart (List.mem_filterMap.mpr ⟨ev, List.mem_cons_of_mem _ hev, hfr⟩)
    have S1 := J1.suite at1 dat1 na aL aF
    refine wpAny_handleBy_cons (codeAny_handlers_test ?_) (by intro q; cases q)
    have ty : PySem.W.Looks (model X.prog X.w) h1 (typeOf (.ref a)) cl := fun A Q E s k q => wpAny_typeOf_ref (k _ _ at1) (zc1.1.symm ▸ q)
    have fits := PySem.W.exm_one (M := model X.prog X.w) J1.kIn ty hyes
    have named : ∀ {Q : Value → Shared → Prop} {E : Value → Shared → Prop}, Q c { z0 with heap := h1 } → wpAny (model X.prog X.w) (X.A.mark (some (.ref a))) (eval (.Name x np) X.env) Q E { z0 with heap := h1 } := by
      intro Q E q
      obtain ⟨g1, g2, gm | ⟨gm, gv, gn⟩⟩ := hc
      · exact ld_glob (X := X.suite a ((a, o1) :: (X.pn ++ pins))) S1 g1 gm q g2
      · exact ld_blt (X := X.suite a ((a, o1) :: (X.pn ++ pins))) S1 g1 gm gv q gn g2
    refine named (fits.here (codeAny_handlers_suite_as (HandSPX.lands_againZ fl1 fun h2 fl2 up2 => ?_)))
    have J2 : Inv X pins σ2 H2 { z0 with heap := h2 } := J.landed kG fl2.1 ((up.trans up1).trans up2) hos hbare
    obtain ⟨o2, v2, at2, zc2, dat2⟩ := fl2.there
    have S2 := J2.suite at2 dat2 na aL aF
    refine store_ok (X := X.suite a ((a, o2) :: (X.pn ++ pins))) (v := .ref a) S2 hN hi (.inl hln) rfl (fun z5 S5 => ?_) (.inr hln)
    refine wpAny_mono ((hsuite a o2 cl d (X.pn ++ pins) zc2 ⟨_, dat2⟩).run [] z5 _ H2 _ S5 (goes a na)) (fun f z6 fin => ?_) (fun _ _ z => False.elim z)
    have back : ∀ {σ6 : L2.St} {H6 : Hp} {Q : Shared → Prop}, Inv (X.suite a ((a, o2) :: (X.pn ++ pins))) [] σ6 H6 z6 → (∀ z7, Inv X pins (σ6.set i none) H6 z7 → Q z7) →
        wpAny (model X.prog X.w) X.A (do bindName X.env n .none; unbindBehindTheSuite X.env n pos') (fun _ z7 => Q z7) X.xe z6 := fun {_ _ _} S6 k => gone_ok (S6.unsuite okX) hN hi hln k
    cases f with
    | ret u =>
      obtain ⟨v6, σ6, H6, S6, r6, q6⟩ := fin
      exact back S6 fun z7 J7 => ⟨_, _, _, J7, r6, q6⟩
    | next =>
      obtain ⟨σ6, H6, S6, q6⟩ := fin
      exact back S6 fun z7 J7 => ⟨_, _, J7, q6⟩
    | brk =>
      obtain ⟨σ6, H6, S6, q6⟩ := fin
      exact back S6 fun z7 J7 => ⟨_, _, J7, q6⟩
    | cont =>
      obtain ⟨σ6, H6, S6, q6⟩ := fin
      exact back S6 fun z7 J7 => ⟨_, _, J7, q6⟩
  refine wpAny_mono run (fun f z1 fin => ?_) fun _ _ z => z
  cases f with
  | ret u =>
    obtain ⟨v, σ2, H2, J, r, q⟩ := fin
    exact ⟨v, σ2, H2, J.ofTry okX, r, q⟩
  | next =>
    obtain ⟨σ2, H2, J, q⟩ := fin
    exact wpAny_execs_nil ⟨σ2, H2, J.ofTry okX, q⟩
  | brk =>
    obtain ⟨σ2, H2, J, q⟩ := fin
    exact ⟨σ2, H2, J.ofTry okX, q⟩
  | cont =>
    obtain ⟨σ2, H2, J, q⟩ := fin
    exact ⟨σ2, H2, J.ofTry okX, q⟩
end
end NB

set_option Elab.async false
set_option linter.all false
set_option maxRecDepth 100000
set_option maxHeartbeats 4000000
/-! B24: methods that may be called anywhere, also within an except suite: their bodies ask no calm -/
namespace NB
open PySem PySem.Spec PyProof.Rows L2
open L2H (RoomH roomH_of)
structure FnQ (P : Program) (w : World) (K : PySem.W.Frag) (mg : Str → Option Value) (base : Heap) (CX : CXT) (k : Nat) (f : Addr) (fd : FuncData) (ps : List Str) (sp : Sp) : Prop where
  len : ∀ vs H Q E, sp vs H Q E → vs.length = ps.length
  run : ∀ (A : Around) (outer : List Env) (s : Shared) (H : Hp) (args : Args) (us : List Value) (vs : List V) (Q : VK) (E : XK), RoomH k A → Env0 P w K mg base A outer s H → BindsTo s fd args (ps.zip us) → Vals vs us → sp vs H Q E →
    codeAny (model P w) A (.call (.ref f) args) (CR CX outer P w H s Q E) s
def cxQ (CX : CXT) (P : Program) (w : World) (K : PySem.W.Frag) (mg : Str → Option Value) (base : Heap) (N : List Str) (qual : Str) (scope : Scope) (f : Addr) (cd : Value) (A : Around) (outer : List Env) (s : Shared) (H : Hp) (E : XK) : Cx :=
  { cxOf CX P w K mg base N qual scope f cd A outer s H E with calm := false, pn := [] }
theorem inv_startQ {CX : CXT} {P : Program} {w : World} {K : PySem.W.Frag} {mg : Str → Option Value} {base : Heap} {N ps : List Str} {qual : Str} {scope : Scope} {f : Addr} {cd : Value} {A : Around} {outer : List Env} {s s1 : Shared} {H : Hp} {E : XK} {us : List Value} {vs : List V}
    (S : FnScope N ps scope) (e0 : Env0 P w K mg base A outer s H) (hl : vs.length = ps.length) (r : Vals vs us)
    (x : InCallC s s.heap.objs.size (bindL (envOfC qual scope s.heap.objs.size f cd).kindOf (ps.zip us) fun _ => none) (cellsFrom (s.heap.objs.size + 1) scope.names []) (bindC (envOfC qual scope s.heap.objs.size f cd).kindOf (ps.zip us) fun _ => none) s1) :
    Inv (cxQ CX P w K mg base N qual scope f cd A outer s H E) [] (L2.start N vs) H s1 := by
  have hpl : ps.length ≤ N.length := by have := congrArg List.length S.pre; rw [List.length_take] at this; omega
  obtain ⟨h1, tk, rfl, hk⟩ := x.done
  have noA : ∀ b : Addr, b ∉ (cxQ CX P w K mg base N qual scope f cd A outer s H E).ex := fun b z => absurd (show b ∈ ([] : List Addr) from z) (by simp)
  refine ⟨⟨e0.mod, S.kind, rfl, rfl, Nat.le_refl _, fun y z c h1 h2 => ?_, fun y hy => ?_, fun y c _ h => ?_, (fun z => Bool.noConfusion (show false = true from z)), Around.frames_deeper e0.frames, .inr ⟨rfl, rfl⟩, fun b z => absurd z (noA b), e0.bs, e0.bsz, fun b _ _ => noA b, fun b z => absurd z (noA b), e0.funs, e0.frf⟩,
    rfl, e0.bare, Un.kept hk, ⟨_, x.toInCall.ns, fun i y v h1 h2 h3 => ?_⟩, fun y c h => ⟨_, x.cell y c h⟩, e0.hok.fresh (Nat.le_refl _), fun y c h => ?_, fun q hq => absurd hq (by show q ∉ ([] : List (Addr × Obj)) ++ []; simp), e0.hok.kept hk, ?_⟩
  · exact name_of_addr x.apart (PySem.mem_of_lookup h1) (PySem.mem_of_lookup h2)
  · have hy : scope.names.lookup y = some .cell ∨ scope.names.lookup y = some .free := hy
    rcases hy with hy | hy
    · exact cell_has hy
    · exact absurd rfl (S.nofree _ (PySem.mem_of_lookup hy))
  · exact Nat.le_of_lt (x.above y c (PySem.mem_of_lookup h))
  · have hi : i < vs.length := by
      unfold L2.start at h2
      by_cases hi : i < vs.length
      · exact hi
      · rw [List.getElem?_append_right (by simpa using hi)] at h2
        rw [List.getElem?_replicate] at h2
        split at h2 <;> cases h2
    have ha : vs[i]? = some v := by
      unfold L2.start at h2
      rw [List.getElem?_append_left (by simpa using hi), List.getElem?_map] at h2
      cases e : vs[i]? with
      | none => rw [e] at h2; cases h2
      | some a => rw [e] at h2; cases h2; rfl
    obtain ⟨u, hu, rv⟩ := r.get ha
    have hp : ps[i]? = some y := by
      rw [← S.pre, List.getElem?_take_of_lt (by omega)]; exact h1
    have ndP : ps.Nodup := by rw [← S.pre]; exact S.nd.sublist (List.take_sublist _ _)
    refine ⟨u, rv, ?_⟩
    rcases S.par y (List.mem_of_getElem? hp) with k | k
    · exact .inl ⟨k, bindL_get ndP hp hu k⟩
    · obtain ⟨c, e⟩ := cell_has (n := s.heap.objs.size + 1) k
      refine .inr ⟨.inl k, c, e, ?_⟩
      have q := x.cell y c e
      rw [bindC_get ndP hp hu (by show scope.names.lookup y ≠ _; rw [k]; decide)] at q
      exact q
  · exact e0.hok.fresh (Nat.le_of_lt (x.above y c (PySem.mem_of_lookup h)))
  · unfold L2.start
    show _ = N.length
    rw [List.length_append, List.length_map, List.length_replicate]
    omega
theorem fn_ofQ {CX : CXT} {P : Program} {w : World} {K : PySem.W.Frag} {mg : Str → Option Value} {base : Heap} {k : Nat} {f : Addr} {name qual : Str} {params : Arguments} {body : List Stmt} {scope : Scope} {dV kV doc pm cdv ct oc : Value} {an od : Option Addr}
    {osl : Array (Option Value)} {N ps : List Str} {sp : Sp} (lk : K.lookup f = some ⟨oc, od, .func (PySem.W.fnOf name qual params body scope dV kV doc pm an cdv ct), osl⟩) (hcd : PySem.W.codeIn K cdv qual = true) (S : FnScope N ps scope)
    (len : ∀ vs H Q E, sp vs H Q E → vs.length = ps.length)
    (hbody : ∀ (A : Around) (outer : List Env) (s : Shared) (H : Hp) (vs : List V) (Q : VK) (E : XK), RoomH k (A.deeper (envOfC qual scope s.heap.objs.size f cdv)) → sp vs H Q E →
      ∃ t, PSs (cxQ CX P w K mg base N qual scope f cdv A outer s H E) body t ∧ t { nx := fun _ H' => Q .non H', rt := Q } (L2.start N vs) H) :
    FnQ P w K mg base CX (k + 1) f (PySem.W.fnOf name qual params body scope dV kV doc pm an cdv ct) ps sp := by
  refine ⟨len, fun A outer s H args us vs Q E hr e0 hb r hsp => ?_⟩
  have hl := len _ _ _ _ hsp
  have KX : K.In s.heap := e0.mod.kin.keeps fun b o e => (e0.bs b o e).1
  have lim : s.heap.NoLimit := e0.mod.nolimit.keeps fun b o e => (e0.bs b o e).1
  have hkind : ∀ y ∈ ps.zip us, scope.names.lookup y.1 = some .local ∨ (scope.names.lookup y.1 = some .cell ∧ ((cellsFrom (s.heap.objs.size + 1) scope.names []).lookup y.1).isSome = true) := fun ⟨n, v⟩ hy => by
    rcases S.par n (List.of_mem_zip hy).1 with q | q
    · exact .inl q
    · exact .inr ⟨q, PySem.W.cellsFrom_some _ _ _ (.inl q)⟩
  refine codeAny_call_function hr.depth (KX _ _ lk) rfl S.co S.gen rfl (PySem.W.codeRec_of KX hcd) (hb _ _ _ _ ?_)
  refine wpAny_newFunctionEnv_cells S.kind hkind fun env he s1 x => ?_
  subst he
  refine ⟨lim.keeps x.toInCall.keep, codeAny_func ?_⟩
  obtain ⟨t, ht, hq⟩ := hbody A outer s H vs Q E (hr.deeper _) hsp
  have I : Inv (cxQ CX P w K mg base N qual scope f cdv A outer s H E) [] (L2.start N vs) H s1 := inv_startQ S e0 hl r x
  refine wpAny_mono (ht.run [] s1 (L2.start N vs) H _ I hq) (fun fl s' hs => ?_) fun e s' hs => hs
  have fin : ∀ {σ' : L2.St} {H' : Hp} {v : V} {u : Value}, Inv (cxQ CX P w K mg base N qual scope f cdv A outer s H E) [] σ' H' s' → RelV v u → Q v H' → CE outer P w H s Q u s' :=
    fun {σ' H' v u} J rv q => ⟨v, H', J.os, J.bare, J.base, J.hok, rv, q⟩
  cases fl with
  | ret u =>
    obtain ⟨v, σ', H', J, rv, q⟩ := hs
    exact fin J rv q
  | next =>
    obtain ⟨σ', H', J, q⟩ := hs
    exact fin (v := V.non) (u := Value.none) J rfl q
  | brk =>
    obtain ⟨_, _, _, q⟩ := hs
    exact False.elim q
  | cont =>
    obtain ⟨_, _, _, q⟩ := hs
    exact False.elim q
section
variable {X : Cx} {CX : CXT} {k : Nat} {f C : Addr} {fd : FuncData} {ps : List Str} {sp : Sp} {E : XK} {x m : Str} {q pos apos : Pos} {e o : Expr} {es : List Expr} {ta : TE} {t : TA}
theorem run_fnQ {pins : List (Addr × Obj)} {σ : L2.St} {H : Hp} {s : Shared} {Q : VK} {us : List Value} {vs : List V} (F : FnQ X.prog X.w X.K X.mg X.base CX k f fd ps sp) (hr : RoomH k X.A) (hb : Binds X.K fd ps []) (hx : Passes CX X E)
    (I : Inv X pins σ H s) (r : Vals vs us) (h : sp vs H Q E) : wpAny (model X.prog X.w) X.A (call (.ref f) us) (EP X pins σ Q) X.xe s := by
  have hl := F.len _ _ _ _ h
  have hl2 : us.length = ps.length := by rw [← r.length]; exact hl
  have b := hb s us I.kIn (by rw [List.append_nil]; exact hl2)
  rw [List.append_nil] at b
  refine wpAny_call (codeAny_mono (F.run X.A X.stack s H ⟨us, []⟩ us vs Q E hr I.env0 b r h) fun r s' hq => ?_)
  cases r with
  | error e => exact hx pins σ H s e s' I hq
  | ok fl =>
    cases fl with
    | ret u => exact I.after hq
    | next => exact False.elim hq
    | brk => exact False.elim hq
    | cont => exact False.elim hq
/-- o.m() anywhere -/
theorem pe_methQ0 {pl : Sem Bool} (he : PE X o ta) (c : Cls X.K C) (hm : Meth X.K C m f) (F : FnQ X.prog X.w X.K X.mg X.base CX k f fd ps sp) (hr : RoomH k X.A) (hb : Binds X.K fd ps []) (hx : Passes CX X E)
    (ht : eval (.Call (.Attribute o m apos) [] [] pos) X.env = (do
      let ov ← eval o X.env
      standAt apos.atName
      let (f, first) ← holding [ov] (getMethod ov m pl)
      callWith pos f first (backTo pos (starEach [] X.env)) (backToKw pos (keywordEach [] X.env))) := by rfl) :
    PE X (.Call (.Attribute o m apos) [] [] pos) (tMeth C m sp [] E ta tNil) := by
  refine ⟨fun pins s σ H Q I h => ?_⟩
  refine PySem.W.methodCall_KW (pl := pl) (thn (he.run pins s σ H _ I h) fun u s1 ⟨x, H1, I1, rx, a, dx, fs, ex, ea, l, q⟩ => ?_) ht
  subst ex
  obtain rfl : u = Value.ref a := rx
  refine getmeth_ok I1 ea c hm l ?_
  exact PySem.W.callWith_K0 (first := [.ref a]) I1.kIn hm.kp (run_fnQ (us := [.ref a]) (vs := [.ref a]) F hr hb hx I1 (.cons rfl .nil) q)
theorem roomH_suite {k : Nat} {A : Around} (r : Room k A) (h : Option Value) : RoomH k (A.mark h) := ⟨r.dp, r.un⟩
end
section
variable {P : Program} {w : World} {K : PySem.W.Frag} {mg : Str → Option Value} {base : Heap}
theorem fnQ_of' {m qual : Str} {st : Stmt} {f : Addr} {fd : FuncData} {N ps : List Str} {k : Nat} {sp : Sp} (D : Mx K m qual st ps f fd) (S : FnScope N ps (C8.fnScope st)) (len : ∀ vs H Q E, sp vs H Q E → vs.length = ps.length)
    (hb : ∀ (cdv : Value) (A : Around) (o : List Env) (s : Shared) (H : Hp) (vs : List V) (Q : VK) (E : XK), RoomH k (A.deeper (envOfC qual (C8.fnScope st) s.heap.objs.size f cdv)) → sp vs H Q E →
      ∃ t, PSs (cxQ C8.CX0 P w K mg base N qual (C8.fnScope st) f cdv A o s H E) (C8.fnBody st) t ∧ t { nx := fun _ H' => Q .non H', rt := Q } (start N vs) H) : FnQ P w K mg base C8.CX0 (k + 1) f fd ps sp := by
  obtain ⟨oc, od, dV, kV, doc, pm, an, cdv, ct, osl, rfl, lk, hcd⟩ := D.fn.ex
  exact fn_ofQ lk hcd S len fun A outer s H vs Q E hr hsp => hb cdv A outer s H vs Q E hr hsp
end
end NB

set_option Elab.async false
set_option linter.all false
set_option maxRecDepth 100000
set_option maxHeartbeats 8000000
/-! K4n (k52): live logs with marks -/
namespace NB
open PySem PySem.Spec L2
open PyProof.Rows (envOfC)
open C8 (pe_c pe_mk pe_mt pe_mt0 pe_gc fnScope fnBody fnArgs fnScope_by Cal Met Mak)
/-! ### logs that stand while some lists change -/
def LogF (M : List Addr) (C : Addr) (H : Hp) (p : Addr) (sz : Int) (ns : List Str) (es : List (Str × Int)) : Prop :=
  ∃ dx ls le vs, p ∉ M ∧ ls ∉ M ∧ le ∉ M ∧ H p = some (.ins C dx (lf sz ls le)) ∧ H ls = some (.lst (ns.map V.str)) ∧ H le = some (.lst vs) ∧ EntL H es vs
section
variable {M M' : List Addr} {C p : Addr} {sz : Int} {ns : List Str} {es : List (Str × Int)} {H H' : Hp}
theorem LogF.at (h : LogF M C H p sz ns es) : LogAt C H p sz ns es := by
  obtain ⟨dx, ls, le, vs, _, _, _, h⟩ := h
  exact ⟨dx, ls, le, vs, h⟩
theorem LogF.mono (h : LogF M C H p sz ns es) (x : Ext H H') : LogF M C H' p sz ns es := by
  obtain ⟨dx, ls, le, vs, a, b, c, h1, h2, h3, h4⟩ := h
  exact ⟨dx, ls, le, vs, a, b, c, x _ _ h1, x _ _ h2, x _ _ h3, h4.mono x⟩
theorem LogF.fr (h : LogF M C H p sz ns es) (f : Frm M H H') (t : TupSt H H') : LogF M C H' p sz ns es := by
  obtain ⟨dx, ls, le, vs, a, b, c, h1, h2, h3, h4⟩ := h
  exact ⟨dx, ls, le, vs, a, b, c, f _ _ h1 a, f _ _ h2 b, f _ _ h3 c, h4.st t⟩
theorem LogF.cons {m : Addr} (h : LogF M C H p sz ns es) (n : H m = none) : LogF (m :: M) C H p sz ns es := by
  obtain ⟨dx, ls, le, vs, a, b, c, h1, h2, h3, h4⟩ := h
  have ne : ∀ {x : Addr} {u : HO}, H x = some u → x ∉ M → x ∉ m :: M := fun {x u} hx hm q => by
    rcases List.mem_cons.mp q with rfl | q
    · rw [n] at hx; cases hx
    · exact hm q
  exact ⟨dx, ls, le, vs, ne h1 a, ne h2 b, ne h3 c, h1, h2, h3, h4⟩
theorem LogF.app (h : LogF M C H p sz ns es) (h' : LogF M' C H p sz ns es) : LogF (M ++ M') C H p sz ns es := by
  obtain ⟨dx, ls, le, vs, a, b, c, h1, h2, h3, h4⟩ := h
  obtain ⟨dx', ls', le', vs', a', b', c', g1, _⟩ := h'
  rw [h1] at g1
  have e : lf sz ls le = lf sz ls' le' := by injection g1 with g1; injection g1
  have e1 : ls = ls' := by
    have := lf_servers sz ls le
    rw [e, lf_servers] at this
    exact (V.ref.inj (Option.some.inj this)).symm
  have e2 : le = le' := by
    have := lf_entries sz ls le
    rw [e, lf_entries] at this
    exact (V.ref.inj (Option.some.inj this)).symm
  subst e1 e2
  exact ⟨dx, ls, le, vs, fun q => (List.mem_append.mp q).elim a a', fun q => (List.mem_append.mp q).elim b b', fun q => (List.mem_append.mp q).elim c c', h1, h2, h3, h4⟩
theorem LogF.sub (h : LogF M C H p sz ns es) (s : ∀ x ∈ M', x ∈ M) : LogF M' C H p sz ns es := by
  obtain ⟨dx, ls, le, vs, a, b, c, h⟩ := h
  exact ⟨dx, ls, le, vs, fun q => a (s _ q), fun q => b (s _ q), fun q => c (s _ q), h⟩
theorem LogN.F (h : LogN C H H' p sz ns es) (n : H p = none) (a : ∀ m ∈ M, H m ≠ none) : LogF M C H' p sz ns es := by
  obtain ⟨dx, ls, le, vs, n1, n2, h⟩ := h
  exact ⟨dx, ls, le, vs, fun q => a _ q n, fun q => a _ q n1, fun q => a _ q n2, h⟩
end
/-- the fields of a live log -/
def vf (s m : Addr) : List (Str × V) := putF "marked" (.ref m) (putF "states" (.ref s) [])
theorem vf_s (s m : Addr) : (vf s m).lookup ("states" : Str) = some (.ref s) := by
  unfold vf
  rw [lookup_putF, if_neg (by decide +kernel), lookup_putF, if_pos rfl]
theorem vf_m (s m : Addr) : (vf s m).lookup ("marked" : Str) = some (.ref m) := by
  unfold vf
  rw [lookup_putF, if_pos rfl]
theorem vf_no (s m : Addr) {x : Str} (h1 : ¬ x = "marked") (h2 : ¬ x = "states") : (vf s m).lookup x = none := by
  unfold vf
  rw [lookup_putF, if_neg h1, lookup_putF, if_neg h2]
  rfl
theorem vf_put (s m m' : Addr) : putF "marked" (.ref m') (vf s m) = vf s m' := by
  unfold vf
  rfl
theorem vf_putS (s s' m : Addr) : putF "states" (.ref s') (vf s m) = vf s' m := by
  unfold vf
  rfl
/-- the marks as they are kept -/
def mkL (ms : List Nat) : List V := ms.map fun (k : Nat) => V.int ((k : Int) + 1)
theorem mkL_len (ms : List Nat) : (mkL ms).length = ms.length := List.length_map _
/-- a plain error of the package -/
structure ErrC (K : PySem.W.Frag) (mg : Str → Option Value) (x : Str) (c : Addr) : Prop where
  g : mg x = some (.ref c)
  x : PySem.W.excIn K c [.type "ValueError", .type "Exception", .type "BaseException", .type "object"] "ValueError.__new__" = true
  k : PySem.W.keepIn K (.ref c) = true
  b : PySem.W.subIn K (.ref c) (.type "BaseException") = some true
  t : PySem.W.typeIn K (.ref c) = some (.type "type")
  i : PySem.W.isClsIn K c = true
  s : PySem.W.subIn K (.ref c) (.ref c) = some true
/-- the class of NotPossible -/
structure NotE (K : PySem.W.Frag) (mg : Str → Option Value) (cB cT fT : Addr) (dT : FuncData) : Prop where
  o : OexC K cT
  i : PySem.W.findIn K (.ref cT) "__init__" = some (some (.ref fT))
  t : PySem.W.typeIn K (.ref fT) = some (.type "function")
  b : Binds K dT ["self", "obstacle"] []
  g : mg "NotPossible" = some (.ref cT)
  mI : Mx K "__init__" "NotPossible.__init__" s_NotPossible___init__ ["self", "obstacle"] fT dT
  bi : ∃ mc, BaseI K cB mc
  gB : mg "BookError" = some (.ref cB)
  nw : PySem.W.findIn K (.ref cT) "obstacle" = some none
  xf : XfC K cT
def spNotI (cT : Addr) : Sp := fun vs H Q _ => ∃ (p : Addr) (v : V), vs = [.ref p, v] ∧ H p = some (exo p cT none) ∧ ∀ dx, H dx = none → dx ≠ p → Q .non (upd (upd H dx (exd dx [("obstacle", v)])) p (exo p cT (some dx)))
/-- an error that keeps an obstacle is made -/
theorem raise_not {cT : Addr} {H : Hp} {w : V} {E : XK} (k : ∀ H' dd, Ext H H' → H' dd = some (.xd [("obstacle", w)]) → E (.ref cT) (some dd) H') : ∀ a, H a = none → spNotI cT [.ref a, w] (upd H a (exo a cT none))
    (fun v H2 => v = .non ∧ ∃ (d : Addr) (fs : List (Str × V)), H2 a = some (exo a cT (some d)) ∧ H2 d = some (exd d fs) ∧ H d = none ∧ E (.ref cT) (some d) (upd (del H2 a) d (.xd fs))) (fun _ _ _ => False) := by
  intro a na
  refine ⟨a, w, rfl, upd_same, fun dx nd ne => ⟨rfl, dx, _, upd_same, by rw [upd_ne ne]; exact upd_same, (upd_none nd).2, ?_⟩⟩
  refine k _ dx (fun b o h => ?_) upd_same
  have nb : b ≠ a := ne_of_none h na
  have nb2 : b ≠ dx := ne_of_none h (upd_none nd).2
  rw [upd_ne nb2, del_ne nb, upd_ne nb, upd_ne nb2, upd_ne nb]
  exact h
structure AdL where
  (fI fS fN fU fT fL fM fV : Addr)
  (dI dS dN dU dT dL dM dV : FuncData)
structure LiveC (K : PySem.W.Frag) (C : Addr) : Prop where
  cl : Cls K C
  nS : NoAttr K C "states"
  nM : NoAttr K C "marked"
structure LiveM (K : PySem.W.Frag) (C fB fF : Addr) (B : AdL) : Prop extends LiveC K C where
  mkk : Mk K C B.fI
  mB : Meth K C "begun" fB
  mF : Meth K C "fresh" fF
  mS : Meth K C "see" B.fS
  mN : Meth K C "now" B.fN
  mU : Meth K C "undo" B.fU
  mT : Meth K C "twin" B.fT
  mM : Meth K C "mark" B.fM
  mV : Meth K C "undo_to" B.fV
  sN : PySem.W.findIn K (.ref C) "__len__" = some (some (.ref B.fL))
  iN : PySem.W.isFn K (.ref B.fL) = true
def spBegun (CL : Addr) : Sp := fun vs H Q _ => ∃ (v : V), ∃ sz a ns, vs = [v, .int sz, .ref a] ∧ SizeOk sz ∧ H a = some (.lst (ns.map V.str)) ∧ CrewOk ns ∧ NewLog CL H sz ns [] fun q H' => Q (.ref q) H'
def spLiveI (C CL : Addr) : Sp := fun vs H Q _ => ∃ v dx sz a ns, vs = [.ref v, .int sz, .ref a] ∧ H v = some (.ins C dx []) ∧ SizeOk sz ∧ H a = some (.lst (ns.map V.str)) ∧ CrewOk ns ∧
  ∀ H' s m p, H s = none → H m = none → s ≠ m → H p = none → H' v = some (.ins C dx (vf s m)) → H' s = some (.lst [.ref p]) → H' m = some (.lst []) → LogF [v, s, m] CL H' p sz ns [] → LogN CL H H' p sz ns [] → Frm [v] H H' → Q .non H'
def spNow (C : Addr) : Sp := fun vs H Q _ => ∃ v dx s m xs x, vs = [.ref v] ∧ H v = some (.ins C dx (vf s m)) ∧ H s = some (.lst (xs ++ [x])) ∧ Q x H
def spSee (K : PySem.W.Frag) (C CL cN : Addr) : Sp := fun vs H Q E => ∃ v dx s m xs p z i sz ns es, vs = [.ref v, .str z, .int i] ∧ H v = some (.ins C dx (vf s m)) ∧ H s = some (.lst (xs ++ [.ref p])) ∧ xs.length ≤ 100 ∧ LogAt CL H p sz ns es ∧ SizeOk sz ∧ CrewOk ns ∧ EntsOk ns es ∧ z ∈ ns ∧ 0 ≤ i ∧ es.length < 62 ∧
  (∀ H1 q, H q = none → LogN CL H H1 q sz ns (es ++ [(z, i)]) → Ext H H1 → Poss sz ns (es ++ [(z, i)]) → Q .non (upd H1 s (.lst (xs ++ [.ref p] ++ [.ref q])))) ∧
  ∀ H1 dd w, Ext H H1 → H1 dd = some (.xd [("obstacle", w)]) → ObsX sz ns (es ++ [(z, i)]) H1 w → E (.ref cN) (some dd) H1
def spUndo (C cU : Addr) : Sp := fun vs H Q E => ∃ v dx s m xs x ms, vs = [.ref v] ∧ H v = some (.ins C dx (vf s m)) ∧ H s = some (.lst (xs ++ [x])) ∧ xs.length ≤ 100 ∧ H m = some (.lst (mkL ms)) ∧ s ≠ m ∧ ms.length ≤ 1000 ∧
  (xs ≠ [] → ∀ H' m', H m' = none → H' v = some (.ins C dx (vf s m')) → H' s = some (.lst xs) → H' m' = some (.lst (mkL (ms.filter fun k => decide (k < xs.length)))) → Frm [v, s] H H' → TupSt H H' → Q .non H') ∧ (xs = [] → E (.ref cU) none H)
def spMark (C : Addr) : Sp := fun vs H Q _ => ∃ v dx s m us ms, vs = [.ref v] ∧ H v = some (.ins C dx (vf s m)) ∧ H s = some (.lst us) ∧ us.length ≤ 1000 ∧ H m = some (.lst (mkL ms)) ∧ s ≠ m ∧ ms.length ≤ 1000 ∧
  Q (.int (ms.length : Nat)) (upd H m (.lst (mkL ms ++ [.int (us.length : Nat)])))
def spBackTo (C cI : Addr) : Sp := fun vs H Q E => ∃ v dx s m us ms i, vs = [.ref v, .int i] ∧ H v = some (.ins C dx (vf s m)) ∧ H s = some (.lst us) ∧ us.length ≤ 1000 ∧ H m = some (.lst (mkL ms)) ∧ s ≠ m ∧ ms.length ≤ 1000 ∧
  (∀ k : Nat, 0 ≤ i → ms[i.toNat]? = some k → ∀ H' s' m', H s' = none → H m' = none → s' ≠ m' → H' v = some (.ins C dx (vf s' m')) → H' s' = some (.lst (us.take (k + 1))) → H' m' = some (.lst (mkL (ms.take (i.toNat + 1)))) → Frm [v] H H' → TupSt H H' → Q .non H') ∧
  (¬ (0 ≤ i ∧ i < (ms.length : Nat)) → E (.ref cI) none H)
def spFresh (C CL : Addr) : Sp := fun vs H Q _ => ∃ v dx s m xs p sz ns es, vs = [.ref v] ∧ H v = some (.ins C dx (vf s m)) ∧ H s = some (.lst (.ref p :: xs)) ∧ LogAt CL H p sz ns es ∧ SizeOk sz ∧ CrewOk ns ∧
  ∀ H' v2 d2 s2 m2, H v2 = none → H s2 = none → H m2 = none → s2 ≠ m2 → H' v2 = some (.ins C d2 (vf s2 m2)) → H' m2 = some (.lst []) → Ext H H' → Q (.ref v2) H'
def spTwin (C CL : Addr) : Sp := fun vs H Q _ => ∃ v dx s m xs p sz ns es ms, vs = [.ref v] ∧ H v = some (.ins C dx (vf s m)) ∧ H s = some (.lst (.ref p :: xs)) ∧ xs.length ≤ 100 ∧ LogAt CL H p sz ns es ∧ SizeOk sz ∧ CrewOk ns ∧ H m = some (.lst (mkL ms)) ∧ ms.length ≤ 1000 ∧
  ∀ H' v2 d2 s2 m2, H v2 = none → H s2 = none → H m2 = none → s2 ≠ m2 → H' v2 = some (.ins C d2 (vf s2 m2)) → H' s2 = some (.lst (.ref p :: xs)) → H' m2 = some (.lst (mkL ms)) → Ext H H' → Q (.ref v2) H'
def spLenV (C : Addr) : Sp := fun vs H Q _ => ∃ v dx s m x xs, vs = [.ref v] ∧ H v = some (.ins C dx (vf s m)) ∧ H s = some (.lst (x :: xs)) ∧ ∀ H', Ext H H' → Q (.int (xs.length : Nat)) H'
section
variable {P : Program} {w : World} {K : PySem.W.Frag} {mg : Str → Option Value} {base : Heap} {cL cX C CL : Addr} {A0 : Ads} {b : Bool}
theorem ok_begun {f : Addr} {fd : FuncData} (D : Mx K "begun" "LiveLog.begun" s_LiveLog_begun ["self", "size", "servers"] f fd) (c_Log : Mak P w K mg base 4 "Log" cL (spInit cL) []) : FnOk P w K mg base C8.CX0 6 f fd ["self", "size", "servers"] (spBegun cL) := by
  refine fn_of' D sc_LiveLog_begun (fun vs H Q E h => ?_) (fun cdv A o s H vs Q E hr h => ?_)
  · obtain ⟨v, sz, a, ns, rfl, _⟩ := h; rfl
  · obtain ⟨v, sz, a, ns, rfl, so, ha, cr, k⟩ := h
    refine ⟨_, (pss_one (ps_ret (pe_mk c_Log hr (by decide) rfl (pa_cons (mv 1) (pa_cons (mv 2) (pa_cons (pe_lst pa_nil) pa_nil)))))), ?_⟩
    refine ⟨Nat.zero_le _, fun t nt => ?_⟩
    have x1 := Ext.upd (o := .lst []) nt
    intro x dx nx nd ne
    exact init_R nx nd ne so (x1 _ _ ha) cr upd_same .nil ⟨Nat.zero_le _, fun _ h => nomatch h⟩ fun H' lg y => (k.up x1) H' x nx lg y
theorem ok_begunX {f : Addr} {fd : FuncData} (D : Mx K "begun" "LiveLosingLog.begun" s_LiveLosingLog_begun ["self", "size", "servers"] f fd) (c_LosingLog : Mak P w K mg base 4 "LosingLog" cX (spInit cX) []) : FnOk P w K mg base C8.CX0 6 f fd ["self", "size", "servers"] (spBegun cX) := by
  refine fn_of' D sc_LiveLosingLog_begun (fun vs H Q E h => ?_) (fun cdv A o s H vs Q E hr h => ?_)
  · obtain ⟨v, sz, a, ns, rfl, _⟩ := h; rfl
  · obtain ⟨v, sz, a, ns, rfl, so, ha, cr, k⟩ := h
    refine ⟨_, (pss_one (ps_ret (pe_mk c_LosingLog hr (by decide) rfl (pa_cons (mv 1) (pa_cons (mv 2) (pa_cons (pe_lst pa_nil) pa_nil)))))), ?_⟩
    refine ⟨Nat.zero_le _, fun t nt => ?_⟩
    have x1 := Ext.upd (o := .lst []) nt
    intro x dx nx nd ne
    exact init_R nx nd ne so (x1 _ _ ha) cr upd_same .nil ⟨Nat.zero_le _, fun _ h => nomatch h⟩ fun H' lg y => (k.up x1) H' x nx lg y
theorem ok_liveI {fB fF : Addr} {dB : FuncData} {B : AdL} (L : LiveM K C fB fF B) (F_begun : FnOk P w K mg base C8.CX0 6 fB dB ["self", "size", "servers"] (spBegun CL)) (bB : Binds K dB ["self", "size", "servers"] [])
    {f : Addr} {fd : FuncData} (D : Mx K "__init__" "LiveLog.__init__" s_LiveLog___init__ ["self", "size", "servers"] f fd) : FnOk P w K mg base C8.CX0 7 f fd ["self", "size", "servers"] (spLiveI C CL) := by
  refine fn_of' D sc_LiveLog___init__ (fun vs H Q E h => ?_) (fun cdv A o s H vs Q E hr h => ?_)
  · obtain ⟨v, dx, sz, a, ns, rfl, _⟩ := h; rfl
  · obtain ⟨v, dx, sz, a, ns, rfl, hv, so, ha, cr, k⟩ := h
    refine ⟨_, (pss_cons (ps_fld (mv 0) (pe_lst (pa_cons (pe_meth (mv 0) L.cl L.mB F_begun (hr.mono (by decide)) bB .nil ps0 (pa_cons (mv 1) (pa_cons (mv 2) pa_nil))) pa_nil)) rfl)
    (pss_one (ps_fld (mv 0) (pe_lst pa_nil) rfl))), ?_⟩
    refine ⟨v, dx, _, rfl, hv, rfl, _, sz, a, ns, rfl, so, ha, cr, fun H1 p np lg x1 => ?_⟩
    refine ⟨(by show 1 ≤ sizeLine; decide), fun s_ ns_ => ?_⟩
    have x2 := Ext.upd (o := .lst [.ref p]) ns_
    have c2 : (upd H1 s_ (.lst [.ref p])) s_ = some (.lst [.ref p]) := upd_same
    have hns := Ext.free x1 ns_
    have lF : LogF [v] CL H1 p sz ns [] := lg.F np fun m hm => by rw [List.mem_singleton.mp hm, hv]; exact fun z => nomatch z
    have lF := lF.cons ns_
    have lg := lg.mono x2
    have lF := lF.mono x2
    have hv2 := (x1.trans x2) _ _ hv
    have x12 := x1.trans x2
    generalize upd H1 s_ (.lst [.ref p]) = H2 at x12 c2 lg lF hv2 ⊢
    refine ⟨v, C, dx, _, rfl, hv2, L.cl, L.nS, (by show 0 < 1000; decide), ?_⟩
    have sv : s_ ≠ v := ne_of c2 hv2 (fun z => nomatch z)
    refine ⟨Nat.zero_le _, fun m_ nm_ => ?_⟩
    have nm2 := (upd_none nm_)
    have vm : v ≠ m_ := nm2.1.symm
    refine ⟨v, C, dx, _, rfl, by rw [upd_ne vm]; exact upd_same, L.cl, L.nM, (by show 1 < 1000; decide), ?_⟩
    have sm : s_ ≠ m_ := ne_of_none c2 nm2.2
    have lF3 := lF.cons nm2.2
    have fr : Frm [v] H2 (upd (upd (upd H2 v (.ins C dx (putF "states" (.ref s_) []))) m_ (.lst [])) v (.ins C dx (vf s_ m_))) := (((Frm.refl (M := [v])).upd mem1).new' nm2.2).upd mem1
    have tp : TupSt H2 (upd (upd (upd H2 v (.ins C dx (putF "states" (.ref s_) []))) m_ (.lst [])) v (.ins C dx (vf s_ m_))) := fun c us h => by
      have c1 : c ≠ v := ne_of h hv2 (fun z => nomatch z)
      have c2 : c ≠ m_ := ne_of_none h nm2.2
      rw [upd_ne c1, upd_ne c2, upd_ne c1]; exact h
    refine k _ s_ m_ p hns (Ext.free x12 nm2.2) sm np upd_same ?_ ?_ ?_ ?_ ((Frm.ext x12).trans fr)
    · rw [upd_ne sv, upd_ne sm, upd_ne sv]; exact c2
    · rw [upd_ne vm.symm]; exact upd_same
    · have lf4 : LogF [v, s_, m_] CL H2 p sz ns [] := lF3.sub fun x hx => by
        simp only [List.mem_cons, List.not_mem_nil, or_false] at hx ⊢
        rcases hx with rfl | rfl | rfl <;> simp
      obtain ⟨dx', ls, le, vs, a1, b1, c1, h1, h2, h3, h4⟩ := lf4
      have nv : ∀ {x : Addr}, x ∉ [v, s_, m_] → x ∉ [v] := fun h q => h (by rw [List.mem_singleton.mp q]; exact List.mem_cons_self)
      exact ⟨dx', ls, le, vs, a1, b1, c1, fr _ _ h1 (nv a1), fr _ _ h2 (nv b1), fr _ _ h3 (nv c1), h4.st tp⟩
    · obtain ⟨dx', ls, le, vs, n1, n2, h1, h2, h3, h4⟩ := lg
      have nv : ∀ {x : Addr}, H x = none → x ∉ [v] := fun h q => by rw [List.mem_singleton.mp q, hv] at h; cases h
      exact ⟨dx', ls, le, vs, n1, n2, fr _ _ h1 (nv np), fr _ _ h2 (nv n1), fr _ _ h3 (nv n2), h4.st tp⟩
theorem ok_now (L : LiveC K C) {f : Addr} {fd : FuncData} (D : Mx K "now" "LiveLog.now" s_LiveLog_now ["self"] f fd) : FnOk P w K mg base C8.CX0 1 f fd ["self"] (spNow C) := by
  refine fn_of' D sc_LiveLog_now (fun vs H Q E h => ?_) (fun cdv A o s H vs Q E hr h => ?_)
  · obtain ⟨v, dx, s, m, xs, x, rfl, _⟩ := h; rfl
  · obtain ⟨v, dx, s, m, xs, x, rfl, hv, hs, k⟩ := h
    exact ⟨_, (pss_one (ps_ret (pe_ix m_ix (pe_fld (mv 0) rfl) (pe_un m_neg pe_int) (fun _ _ => rfl)))), v, C, dx, _, _, rfl, hv, L.cl, L.nS, vf_s _ _, _, _, .inl (SqL.of hs), atI_last _ _, k⟩
theorem ok_notI {cBk cN fT : Addr} {dT : FuncData} (T2 : NotE K mg cBk cN fT dT) : FnOk P w K mg base C8.CX0 1 fT dT ["self", "obstacle"] (spNotI cN) := by
  refine fn_of' T2.mI sc_NotPossible___init__ (fun vs H Q E h => ?_) (fun cdv A o s H vs Q E hr h => ?_)
  · obtain ⟨p, v, rfl, _⟩ := h; rfl
  · obtain ⟨p, v, rfl, hp, k⟩ := h
    obtain ⟨mc, bi⟩ := T2.bi
    refine ⟨_, (pss_cons (ps_expr (pe_binit bi rfl T2.gB (pa_cons (mv 0) (pa_cons pe_str pa_nil))))
    (pss_one (ps_ost (mv 0) (mv 1)))), ?_⟩
    refine ⟨p, cN, [.str "the log is not possible"], rfl, by decide, T2.o, hp, ?_⟩
    refine ⟨p, cN, rfl, T2.o, T2.nw, .inl ⟨hp, fun dx nd ne => ?_⟩⟩
    exact k dx nd ne
theorem ok_see {cBk cN fT : Addr} {dT : FuncData} (T2 : NotE K mg cBk cN fT dT) (L : LiveC K C) (Ms : Ms K A0) (M : LogM K cL cX CL b A0) (F_with : FnOk P w K mg base C8.CX0 7 A0.fW A0.dW ["self", "server", "number"] (spWith CL)) (c_obstacle : Cal P w K mg base 5 "obstacle" (spObs K cL cX A0) [])
    {f : Addr} {fd : FuncData} (D : Mx K "see" "LiveLog.see" s_LiveLog_see ["self", "server", "number"] f fd) : FnOk P w K mg base (L2.CX P w) 8 f fd ["self", "server", "number"] (spSee K C CL cN) := by
  have F_txt := ok_notI (P := P) (w := w) (base := base) T2
  refine fnX_of' D sc_LiveLog_see (fun vs H Q E h => ?_) (fun cdv A o s H vs Q E hr h => ?_)
  · obtain ⟨v, dx, s, m, xs, p, z, i, sz, ns, es, rfl, _⟩ := h; rfl
  · obtain ⟨v, dx, s_, m, xs, p, z, i, sz, ns, es, rfl, hv, hs, xl, lg, so, cr, ok, hz, i0, el, k, kE⟩ := h
    refine ⟨_, (C8.pss_cut (ps_set (i := 3) sc_LiveLog_see.nd rfl (Or.inl rfl) (pe_meth (pe_ix m_ix (pe_fld (mv 0) rfl) (pe_un m_neg pe_int) (fun _ _ => rfl)) M.cl M.mW F_with (hr.mono (by decide)) Ms.mW.b .nil ps0 (pa_cons (mv 1) (pa_cons (mv 2) pa_nil))))
    (C8.pss_cut (ps_set (i := 4) sc_LiveLog_see.nd rfl (Or.inl rfl) (pe_c c_obstacle hr (by decide) rfl (pa_cons (mv 3) pa_nil)))
    (pss_cons (ps_if (qt op_notN (mv 4) pe_non (nomark _)) (pss_one (ps_raise rfl (takes_of rfl rfl rfl rfl) (pmk_oex T2.o T2.i T2.t F_txt (hr.mono (by decide)) T2.b .nil ps0 rfl T2.g (pa_cons (mv 4) pa_nil)))) pss_nil)
    (pss_one (ps_expr (pe_bm PySem.F.plainAttrs_list PySem.F.slot_list_append PySem.F.type_list_append mt_append (pe_fld (mv 0) rfl) (pa_cons (mv 3) pa_nil))))))), ?_⟩
    refine ⟨fun σ H' => ∃ q, σ = [some (.ref v), some (.str z), some (.int i), some (.ref q), none] ∧ H q = none ∧ LogN CL H H' q sz ns (es ++ [(z, i)]) ∧ Ext H H', ?_, ?_⟩
    · obtain ⟨dp, _, _, _, hp, _⟩ := id lg
      refine ⟨v, C, dx, _, _, rfl, hv, L.cl, L.nS, vf_s _ _, _, .ref p, .inl (SqL.of hs), atI_last _ _, ?_⟩
      refine ⟨p, dp, _, rfl, hp, lf_no _ _ _ (by decide +kernel) (by decide +kernel) (by decide +kernel), p, z, i, sz, ns, es, rfl, lg, so, cr, ok, hz, i0, by omega, fun H1 q nq lq x1 => ?_⟩
      exact ⟨q, rfl, nq, lq, x1⟩
    rintro σ H1 ⟨q, rfl, nq, lq, x1⟩
    refine ⟨fun σ H' => ∃ w, σ = [some (.ref v), some (.str z), some (.int i), some (.ref q), some w] ∧ LogN CL H H' q sz ns (es ++ [(z, i)]) ∧ Ext H H' ∧ ((w = .non ∧ Poss sz ns (es ++ [(z, i)])) ∨ ObsX sz ns (es ++ [(z, i)]) H' w), ?_, ?_⟩
    · refine ⟨q, CL, b, sz, ns, _, rfl, lq.at, M, so, cr, ⟨by rw [List.length_append, List.length_singleton]; omega, fun e he => ?_⟩, by rw [List.length_append, List.length_singleton]; omega, fun G xG c => ⟨_, rfl, lq.mono xG, x1.trans xG, .inl ⟨rfl, c⟩⟩, fun G w xG ov => ⟨_, rfl, lq.mono xG, x1.trans xG, .inr ov⟩⟩
      rcases List.mem_append.mp he with he | he
      · exact ok.ok e he
      · rw [List.mem_singleton.mp he]; exact ⟨hz, i0⟩
    clear lq x1
    rintro σ H2 ⟨w_, rfl, lq, x2, ⟨rfl, cl⟩ | ov⟩
    rotate_left
    · obtain ⟨t, kn, ds, rfl, _⟩ := id (ov.obs (K := K))
      refine ⟨rfl, ifT (by rfl) ?_⟩
      exact ⟨(by show 1 ≤ 1000; decide), raise_not fun H' dd x e => kE H' dd _ (x2.trans x) e (ov.mono x)⟩
    refine ⟨rfl, ifF (by rfl) ?_⟩
    refine ⟨v, C, dx, _, _, rfl, x2 _ _ hv, L.cl, L.nS, vf_s _ _, .inl ⟨rfl, _, SqL.of (x2 _ _ hs)⟩, s_, _, _, rfl, rfl, x2 _ _ hs, ?_, k H2 q nq lq x2 cl⟩
    rw [List.length_append, List.length_singleton]
    exact Nat.lt_of_le_of_lt (show xs.length + 1 ≤ 101 by omega) (by decide)
theorem ok_undo {cU : Addr} (T3 : ErrC K mg "NothingToUndo" cU) (T : Blt mg) (L : LiveC K C) {f : Addr} {fd : FuncData} (D : Mx K "undo" "LiveLog.undo" s_LiveLog_undo ["self"] f fd) : FnOk P w K mg base (L2.CX P w) 1 f fd ["self"] (spUndo C cU) := by
  refine fnX_of' D sc_LiveLog_undo (fun vs H Q E h => ?_) (fun cdv A o s H vs Q E hr h => ?_)
  · obtain ⟨v, dx, s, m, xs, x, ms, rfl, _⟩ := h; rfl
  · obtain ⟨v, dx, s_, m, xs, x, ms, rfl, hv, hs, xl, hm, sm, ml, k, kE⟩ := h
    refine ⟨_, (pss_cons (ps_if (qt m_eq (pe_callB call_len (by rfl) T.n_len (by decide +kernel) (pa_cons (pe_fld (mv 0) rfl) pa_nil)) pe_int (nomark _)) (pss_one (ps_raise rfl (takes_of rfl rfl rfl rfl) (pmk_own PySem.F.excBase_ValueError T3.x T3.g T3.k (raises_own T3.b T3.t) rfl))) pss_nil)
    (C8.pss_cut (ps_expr (pe_bm0 PySem.F.plainAttrs_list PySem.F.slot_list_pop PySem.F.type_list_pop mt_pop (pe_fld (mv 0) rfl)))
    (pss_one (ps_fld (mv 0) (pe_lc (own := [("many", 1)]) (g := gName 1) (tt := mT (tOp (mI0 fun i j => .bl (decide (i ≤ j))) (mV 1) (tCB (fun xs H Q => ∃ x n, xs = [x] ∧ LenV K x H n ∧ Q (.int n) H) (tCons (tFld K (mV 0) "states") tNil)))) rfl sc_LiveLog_undo.nd (pi_list (pe_fld (mv 0) rfl)) (blkOk_by (own := [("many", 1)]) (N := ["self", "many"]) (sc := fnScope s_LiveLog_undo) (by decide +kernel)) (fun _ _ _ _ _ => (pg_name (i := 1) sc_LiveLog_undo.nd rfl (Or.inl rfl))) (fun _ _ _ _ _ => (pts_one (qt m_le (mv 1) (pe_callB call_len (by rfl) T.n_len (by decide +kernel) (pa_cons (pe_fld (mv 0) rfl) pa_nil)) (nomark _)))) (fun _ _ _ _ _ => (mv 1))) rfl)))), ?_⟩
    refine ⟨v, C, dx, _, _, rfl, hv, L.cl, L.nS, vf_s _ _, _, _, rfl, .inl ⟨_, SqL.of hs, rfl⟩, ?_⟩
    refine ifD (p := (((xs ++ [x]).length : Nat) : Int) = 1) (fun e => ?_) (fun en => ?_)
    · refine kE ?_
      rw [List.length_append, List.length_singleton] at e
      exact List.length_eq_zero_iff.mp (by omega)
    have ne : xs ≠ [] := fun z => by
      rw [z] at en
      exact en rfl
    have k := k ne
    refine ⟨fun σ H' => σ = [some (.ref v), none] ∧ H' = upd H s_ (.lst xs), ?_, ?_⟩
    · refine ⟨v, C, dx, _, _, rfl, hv, L.cl, L.nS, vf_s _ _, .inl ⟨rfl, _, SqL.of hs⟩, s_, _, x, rfl, rfl, hs, by simp, ?_⟩
      exact ⟨rfl, by rw [List.dropLast_concat]⟩
    rintro σ G ⟨rfl, rfl⟩
    have sv : s_ ≠ v := ne_of hs hv (fun z => nomatch z)
    have st : TupSt H (upd H s_ (.lst xs)) := TupSt.upd hs (fun _ z => nomatch z)
    have hv1 : (upd H s_ (.lst xs)) v = some (.ins C dx (vf s_ m)) := by rw [upd_ne sv.symm]; exact hv
    have hs1 : (upd H s_ (.lst xs)) s_ = some (.lst xs) := upd_same
    have fr1 : Frm [v, s_] H (upd H s_ (.lst xs)) := (Frm.refl (M := [v, s_])).upd (List.mem_cons_of_mem _ mem1)
    have hm1 : (upd H s_ (.lst xs)) m = some (.lst (mkL ms)) := by rw [upd_ne sm.symm]; exact hm
    have n1 : ∀ {c : Addr}, (upd H s_ (.lst xs)) c = none → H c = none := fun h => (upd_none h).2
    generalize upd H s_ (.lst xs) = G at hv1 hs1 fr1 hm1 st n1 ⊢
    refine ⟨v, C, dx, _, _, rfl, hv1, L.cl, L.nM, vf_m _ _, m, rfl, ⟨_, SqL.of hm1⟩, fun d hd => lc_list (K := K) (a := m) (xs := mkL ms) (fun i H' => Ext G H' ∧ H' d = some (.lst (mkL ((ms.take i).filter fun k => decide (k < xs.length))))) ⟨Ext.upd hd, upd_same⟩ (fun i H' _ t => SqL.of (t.1 _ _ hm1)) (fun i y H' hy t => ?_) ?_⟩
    · obtain ⟨xG, hD⟩ := t
      obtain ⟨k0, hk, rfl⟩ := map_at hy
      have tk : ms.take (i + 1) = ms.take i ++ [k0] := by rw [List.take_add_one, hk]; rfl
      refine ⟨rfl, v, C, dx, _, _, rfl, xG _ _ hv1, L.cl, L.nS, vf_s _ _, _, _, rfl, .inl ⟨_, SqL.of (xG _ _ hs1), rfl⟩, ?_⟩
      refine ifD (p := (k0 : Int) + 1 ≤ ((xs.length : Nat) : Int)) (fun le => ?_) (fun gt => ?_)
      · refine ⟨_, hD, ?_, put_ext xG hd, ?_⟩
        · rw [mkL_len]
          have h1 : ((ms.take i).filter fun k => decide (k < xs.length)).length ≤ ms.length := Nat.le_trans (List.length_filter_le _ _) (List.length_take_le' _ _)
          exact Nat.lt_of_le_of_lt (show _ ≤ 1000 by omega) (by decide)
        · rw [upd_same, tk, List.filter_append, List.filter_cons, if_pos (decide_eq_true (show k0 < xs.length by omega))]
          unfold mkL
          rw [List.map_append]; rfl
      · refine ⟨xG, ?_⟩
        rw [tk, List.filter_append, List.filter_cons, if_neg (by simp; omega), List.filter_nil, List.append_nil]
        exact hD
    rintro G2 ⟨x2, hD⟩
    rw [mkL_len, List.take_length] at hD
    refine ⟨v, C, dx, _, rfl, x2 _ _ hv1, L.cl, L.nM, (by show 2 < 1000; decide), ?_⟩
    rw [vf_put]
    have dv : d ≠ v := (ne_of_none hv1 hd).symm
    refine k _ d (n1 hd) upd_same (by rw [upd_ne sv]; exact x2 _ _ hs1) (by rw [upd_ne dv]; exact hD) ?_ ?_
    · exact (fr1.trans (Frm.ext x2)).upd List.mem_cons_self
    · exact (st.trans (TupSt.ext x2)).trans (TupSt.upd (x2 _ _ hv1) (fun _ z => nomatch z))
theorem ok_mark (T : Blt mg) (L : LiveC K C) {f : Addr} {fd : FuncData} (D : Mx K "mark" "LiveLog.mark" s_LiveLog_mark ["self"] f fd) : FnOk P w K mg base C8.CX0 1 f fd ["self"] (spMark C) := by
  refine fn_of' D sc_LiveLog_mark (fun vs H Q E h => ?_) (fun cdv A o s H vs Q E hr h => ?_)
  · obtain ⟨v, dx, s, m, us, ms, rfl, _⟩ := h; rfl
  · obtain ⟨v, dx, s_, m, us, ms, rfl, hv, hs, ul, hm, sm, ml, k⟩ := h
    refine ⟨_, (pss_cons (ps_expr (pe_bm PySem.F.plainAttrs_list PySem.F.slot_list_append PySem.F.type_list_append mt_append (pe_fld (mv 0) rfl) (pa_cons (pe_callB call_len (by rfl) T.n_len (by decide +kernel) (pa_cons (pe_fld (mv 0) rfl) pa_nil)) pa_nil)))
    (pss_one (ps_ret (pe_op m_sub (pe_callB call_len (by rfl) T.n_len (by decide +kernel) (pa_cons (pe_fld (mv 0) rfl) pa_nil)) pe_int)))), ?_⟩
    refine ⟨v, C, dx, _, _, rfl, hv, L.cl, L.nM, vf_m _ _, .inl ⟨rfl, _, SqL.of hm⟩, v, C, dx, _, _, rfl, hv, L.cl, L.nS, vf_s _ _, _, _, rfl, .inl ⟨_, SqL.of hs, rfl⟩, m, _, _, rfl, rfl, hm, by rw [mkL_len]; exact Nat.lt_of_le_of_lt ml (by decide), ?_⟩
    have mv : m ≠ v := ne_of hm hv (fun z => nomatch z)
    refine ⟨v, C, dx, _, _, rfl, by rw [upd_ne mv.symm]; exact hv, L.cl, L.nM, vf_m _ _, _, _, rfl, .inl ⟨_, SqL.of upd_same, rfl⟩, ?_⟩
    have e : (((mkL ms ++ [V.int (us.length : Nat)]).length : Nat) : Int) - 1 = (ms.length : Nat) := by rw [List.length_append, mkL_len, List.length_singleton]; omega
    show Q (.int ((((mkL ms ++ [V.int (us.length : Nat)]).length : Nat) : Int) - 1)) _
    rw [e]
    exact k
theorem ok_backTo {cI : Addr} (T3 : ErrC K mg "InvalidNumber" cI) (T : Blt mg) (L : LiveC K C) {f : Addr} {fd : FuncData} (D : Mx K "undo_to" "LiveLog.undo_to" s_LiveLog_undo_to ["self", "index"] f fd) : FnOk P w K mg base (L2.CX P w) 1 f fd ["self", "index"] (spBackTo C cI) := by
  refine fnX_of' D sc_LiveLog_undo_to (fun vs H Q E h => ?_) (fun cdv A o s H vs Q E hr h => ?_)
  · obtain ⟨v, dx, s, m, us, ms, i, rfl, _⟩ := h; rfl
  · obtain ⟨v, dx, s_, m, us, ms, i, rfl, hv, hs, ul, hm, sm, ml, k, kE⟩ := h
    refine ⟨_, (pss_cons (ps_if (pt_not (pt_chain m_le m_lt pe_int (mv 1) (pe_callB call_len (by rfl) T.n_len (by decide +kernel) (pa_cons (pe_fld (mv 0) rfl) pa_nil)))) (pss_one (ps_raise rfl (takes_of rfl rfl rfl rfl) (pmk_own PySem.F.excBase_ValueError T3.x T3.g T3.k (raises_own T3.b T3.t) rfl))) pss_nil)
    (C8.pss_cut (ps_fld (mv 0) (pe_slice sl_list (pe_fld (mv 0) rfl) po_none (po_some (pe_ix m_ix (pe_fld (mv 0) rfl) (mv 1) (fun _ _ => rfl)))) rfl)
    (pss_one (ps_fld (mv 0) (pe_slice sl_list (pe_fld (mv 0) rfl) po_none (po_some (pe_op m_add (mv 1) pe_int))) rfl)))), ?_⟩
    have tl : (mkL ms).length = ms.length := mkL_len ms
    refine ⟨_, rfl, ?_⟩
    refine ifD (p := (0 : Int) ≤ i) (fun i0 => ?_) (fun n0 => ⟨false, rfl, ifT (by rfl) (kE fun z => n0 z.1)⟩)
    refine ⟨v, C, dx, _, _, rfl, hv, L.cl, L.nM, vf_m _ _, _, _, rfl, .inl ⟨_, SqL.of hm, rfl⟩, ?_⟩
    refine ⟨_, rfl, ?_⟩
    refine ifND (p := i < (((mkL ms).length : Nat) : Int)) (fun n => kE fun z => n (by rw [tl]; exact z.2)) (fun lt => ?_)
    rw [tl] at lt
    have lt2 : i.toNat < ms.length := by omega
    have hk := List.getElem?_eq_getElem lt2
    generalize ms[i.toNat] = k0 at hk
    have k := k k0 i0 hk
    have vs : s_ ≠ v := ne_of hs hv (fun z => nomatch z)
    have vm : m ≠ v := ne_of hm hv (fun z => nomatch z)
    refine ⟨fun σ H' => ∃ s', σ = [some (.ref v), some (.int i)] ∧ H s' = none ∧ H' v = some (.ins C dx (vf s' m)) ∧ H' s' = some (.lst (us.take (k0 + 1))) ∧ H' m = some (.lst (mkL ms)) ∧ Frm [v] H H' ∧ TupSt H H', ?_, ?_⟩
    · refine ⟨v, C, dx, _, _, rfl, hv, L.cl, L.nS, vf_s _ _, v, C, dx, _, _, rfl, hv, L.cl, L.nM, vf_m _ _, _, .int ((k0 : Int) + 1), .inl (SqL.of hm), atI_at i0 (by unfold mkL; rw [List.getElem?_map, hk]; rfl), _, rfl, s_, _, rfl, SqL.of hs, fun t nt => ?_⟩
      rw [cut_to (by omega), show ((k0 : Int) + 1).toNat = k0 + 1 by omega]
      have x1 := Ext.upd (o := .lst (us.take (k0 + 1))) nt
      have tv : t ≠ v := (ne_of_none hv nt).symm
      have tm : t ≠ m := (ne_of_none hm nt).symm
      refine ⟨v, C, dx, _, rfl, x1 _ _ hv, L.cl, L.nS, (by show 2 < 1000; decide), ?_⟩
      rw [vf_putS]
      refine ⟨t, rfl, nt, upd_same, by rw [upd_ne tv]; exact upd_same, by rw [upd_ne vm]; exact x1 _ _ hm, ((Frm.ext x1)).upd mem1, (TupSt.ext x1).trans (TupSt.upd (x1 _ _ hv) (fun _ z => nomatch z))⟩
    rintro σ G ⟨s', rfl, ns', hv1, hs1, hm1, fr, st⟩
    refine ⟨v, C, dx, _, _, rfl, hv1, L.cl, L.nM, vf_m _ _, _, rfl, m, _, rfl, SqL.of hm1, fun t nt => ?_⟩
    rw [cut_to (by omega), show (i + 1).toNat = i.toNat + 1 by omega]
    have et : (mkL ms).take (i.toNat + 1) = mkL (ms.take (i.toNat + 1)) := by unfold mkL; rw [List.map_take]
    rw [et]
    have x1 := Ext.upd (o := .lst (mkL (ms.take (i.toNat + 1)))) nt
    have tv : t ≠ v := (ne_of_none hv1 nt).symm
    have nt0 : H t = none := by
      cases e : H t with
      | none => rfl
      | some u =>
        rw [fr _ _ e (fun z => tv (List.mem_singleton.mp z))] at nt
        cases nt
    have sv : s' ≠ v := ne_of hs1 hv1 (fun z => nomatch z)
    refine ⟨v, C, dx, _, rfl, x1 _ _ hv1, L.cl, L.nM, (by show 2 < 1000; decide), ?_⟩
    rw [vf_put]
    exact k _ s' t ns' nt0 (ne_of_none hs1 nt) upd_same (by rw [upd_ne sv]; exact x1 _ _ hs1) (by rw [upd_ne tv]; exact upd_same) ((fr.trans (Frm.ext x1)).upd mem1) ((st.trans (TupSt.ext x1)).trans (TupSt.upd (x1 _ _ hv1) (fun _ z => nomatch z)))
theorem ok_fresh {fB fF : Addr} {B : AdL} (T : Tx K mg cL cX) (L : LiveC K C) (Ms : Ms K A0) (M : LogM K cL cX CL b A0) (c_LiveLog : Mak P w K mg base 7 "LiveLog" C (spLiveI C CL) []) {f : Addr} {fd : FuncData} (D : Mx K "fresh" "LiveLog.fresh" s_LiveLog_fresh ["self"] f fd) : FnOk P w K mg base C8.CX0 9 f fd ["self"] (spFresh C CL) := by
  refine fn_of' D sc_LiveLog_fresh (fun vs H Q E h => ?_) (fun cdv A o s H vs Q E hr h => ?_)
  · obtain ⟨v, dx, s, m, xs, p, sz, ns, es, rfl, _⟩ := h; rfl
  · obtain ⟨v, dx, s_, m, xs, p, sz, ns, es, rfl, hv, hs, lg, so, cr, k⟩ := h
    have F_size := ok_size (P := P) (w := w) (mg := mg) (base := base) M.toLogC Ms.mZ
    have F_servers := ok_servers (P := P) (w := w) (base := base) T M.toLogC Ms.mV
    obtain ⟨_, pZ⟩ := M.pZ
    obtain ⟨_, pV⟩ := M.pV
    refine ⟨_, (C8.pss_cut (ps_set (i := 1) sc_LiveLog_fresh.nd rfl (Or.inl rfl) (pe_ix m_ix (pe_fld (mv 0) rfl) pe_int (fun _ _ => rfl)))
    (pss_one (ps_ret (pe_mk c_LiveLog hr (by decide) rfl (pa_cons (pe_prop (mv 1) M.cl pZ F_size (hr.mono (by decide)) Ms.mZ.b .nil ps0 rfl) (pa_cons (pe_prop (mv 1) M.cl pV F_servers (hr.mono (by decide)) Ms.mV.b .nil ps0 rfl) pa_nil)))))), ?_⟩
    refine ⟨fun σ H' => σ = [some (.ref v), some (.ref p)] ∧ H' = H, ?_, ?_⟩
    · exact ⟨v, C, dx, _, _, rfl, hv, L.cl, L.nS, vf_s _ _, _, .ref p, .inl (SqL.of hs), atI_nat (j := 0) rfl, rfl, rfl⟩
    rintro σ G ⟨rfl, rfl⟩
    obtain ⟨dp, ls, le, us, hp, _⟩ := id lg
    refine ⟨p, dp, _, rfl, hp, p, sz, ns, es, rfl, lg, p, dp, _, rfl, hp, p, sz, ns, es, rfl, lg, fun l nl => ?_⟩
    have x1 := Ext.upd (o := .lst (ns.map V.str)) nl
    have hl : (upd G l (.lst (ns.map V.str))) l = some (.lst (ns.map V.str)) := upd_same
    generalize upd G l (.lst (ns.map V.str)) = G1 at x1 hl ⊢
    intro x d nx nd ne
    have x2 : Ext G1 (upd (upd G1 d (.own x)) x (.ins C d [])) := fun b o e => by
      rw [upd_ne (ne_of_none e nx), upd_ne (ne_of_none e nd)]; exact e
    have n2 : ∀ {c : Addr}, (upd (upd G1 d (.own x)) x (.ins C d [])) c = none → G c = none := fun h => Ext.free (x1.trans x2) h
    refine ⟨x, d, sz, l, ns, rfl, upd_same, so, x2 _ _ hl, cr, fun H' s m p ns_ nm_ sm np h1 h2 h3 _ _ fr => ⟨rfl, ?_⟩⟩
    refine k H' x d s m (Ext.free x1 nx) (n2 ns_) (n2 nm_) sm h1 h3 ?_
    exact fun b o e => fr b o (x2 _ _ (x1 _ _ e)) fun z => ne_of_none (x1 _ _ e) nx (List.mem_singleton.mp z)
theorem ok_freshX {fB fF : Addr} {B : AdL} (T : Tx K mg cL cX) (L : LiveC K C) (Ms : Ms K A0) (M : LogM K cL cX CL b A0) (c_LiveLosingLog : Mak P w K mg base 7 "LiveLosingLog" C (spLiveI C CL) []) {f : Addr} {fd : FuncData} (D : Mx K "fresh" "LiveLosingLog.fresh" s_LiveLosingLog_fresh ["self"] f fd) : FnOk P w K mg base C8.CX0 9 f fd ["self"] (spFresh C CL) := by
  refine fn_of' D sc_LiveLosingLog_fresh (fun vs H Q E h => ?_) (fun cdv A o s H vs Q E hr h => ?_)
  · obtain ⟨v, dx, s, m, xs, p, sz, ns, es, rfl, _⟩ := h; rfl
  · obtain ⟨v, dx, s_, m, xs, p, sz, ns, es, rfl, hv, hs, lg, so, cr, k⟩ := h
    have F_size := ok_size (P := P) (w := w) (mg := mg) (base := base) M.toLogC Ms.mZ
    have F_servers := ok_servers (P := P) (w := w) (base := base) T M.toLogC Ms.mV
    obtain ⟨_, pZ⟩ := M.pZ
    obtain ⟨_, pV⟩ := M.pV
    refine ⟨_, (C8.pss_cut (ps_set (i := 1) sc_LiveLosingLog_fresh.nd rfl (Or.inl rfl) (pe_ix m_ix (pe_fld (mv 0) rfl) pe_int (fun _ _ => rfl)))
    (pss_one (ps_ret (pe_mk c_LiveLosingLog hr (by decide) rfl (pa_cons (pe_prop (mv 1) M.cl pZ F_size (hr.mono (by decide)) Ms.mZ.b .nil ps0 rfl) (pa_cons (pe_prop (mv 1) M.cl pV F_servers (hr.mono (by decide)) Ms.mV.b .nil ps0 rfl) pa_nil)))))), ?_⟩
    refine ⟨fun σ H' => σ = [some (.ref v), some (.ref p)] ∧ H' = H, ?_, ?_⟩
    · exact ⟨v, C, dx, _, _, rfl, hv, L.cl, L.nS, vf_s _ _, _, .ref p, .inl (SqL.of hs), atI_nat (j := 0) rfl, rfl, rfl⟩
    rintro σ G ⟨rfl, rfl⟩
    obtain ⟨dp, ls, le, us, hp, _⟩ := id lg
    refine ⟨p, dp, _, rfl, hp, p, sz, ns, es, rfl, lg, p, dp, _, rfl, hp, p, sz, ns, es, rfl, lg, fun l nl => ?_⟩
    have x1 := Ext.upd (o := .lst (ns.map V.str)) nl
    have hl : (upd G l (.lst (ns.map V.str))) l = some (.lst (ns.map V.str)) := upd_same
    generalize upd G l (.lst (ns.map V.str)) = G1 at x1 hl ⊢
    intro x d nx nd ne
    have x2 : Ext G1 (upd (upd G1 d (.own x)) x (.ins C d [])) := fun b o e => by
      rw [upd_ne (ne_of_none e nx), upd_ne (ne_of_none e nd)]; exact e
    have n2 : ∀ {c : Addr}, (upd (upd G1 d (.own x)) x (.ins C d [])) c = none → G c = none := fun h => Ext.free (x1.trans x2) h
    refine ⟨x, d, sz, l, ns, rfl, upd_same, so, x2 _ _ hl, cr, fun H' s m p ns_ nm_ sm np h1 h2 h3 _ _ fr => ⟨rfl, ?_⟩⟩
    refine k H' x d s m (Ext.free x1 nx) (n2 ns_) (n2 nm_) sm h1 h3 ?_
    exact fun b o e => fr b o (x2 _ _ (x1 _ _ e)) fun z => ne_of_none (x1 _ _ e) nx (List.mem_singleton.mp z)
theorem ok_twin {fB fF : Addr} {B : AdL} {dF : FuncData} (T : Tx K mg cL cX) (L : LiveM K C fB fF B) (F_fresh : FnOk P w K mg base C8.CX0 9 fF dF ["self"] (spFresh C CL)) (bF : Binds K dF ["self"] []) {f : Addr} {fd : FuncData} (D : Mx K "twin" "LiveLog.twin" s_LiveLog_twin ["self"] f fd) : FnOk P w K mg base C8.CX0 10 f fd ["self"] (spTwin C CL) := by
  refine fn_of' D sc_LiveLog_twin (fun vs H Q E h => ?_) (fun cdv A o s H vs Q E hr h => ?_)
  · obtain ⟨v, dx, s, m, xs, p, sz, ns, es, ms, rfl, _⟩ := h; rfl
  · obtain ⟨v, dx, s_, m, xs, p, sz, ns, es, ms, rfl, hv, hs, xl, lg, so, cr, hm, ml, k⟩ := h
    refine ⟨_, (C8.pss_cut (ps_set (i := 1) sc_LiveLog_twin.nd rfl (Or.inl rfl) (pe_meth0 (mv 0) L.cl L.mF F_fresh (hr.mono (by decide)) bF .nil ps0))
    (C8.pss_cut (ps_fld (mv 1) (pe_callTy call_list_of (by rfl) T.n_list (by decide +kernel) (pa_cons (pe_fld (mv 0) rfl) pa_nil)) rfl)
    (C8.pss_cut (ps_fld (mv 1) (pe_callTy call_list_of (by rfl) T.n_list (by decide +kernel) (pa_cons (pe_fld (mv 0) rfl) pa_nil)) rfl)
    (pss_one (ps_ret (mv 1)))))), ?_⟩
    refine ⟨fun σ H' => ∃ v2 d2 s2 m2, σ = [some (.ref v), some (.ref v2)] ∧ H v2 = none ∧ H' v2 = some (.ins C d2 (vf s2 m2)) ∧ Ext H H', ?_, ?_⟩
    · refine ⟨v, dx, _, rfl, hv, vf_no _ _ (by decide +kernel) (by decide +kernel), v, dx, s_, m, xs, p, sz, ns, es, rfl, hv, hs, lg, so, cr, fun H' v2 d2 s2 m2 n1 n2 n3 _ h1 h2 x => ?_⟩
      exact ⟨v2, d2, s2, m2, rfl, n1, h1, x⟩
    rintro σ H1 ⟨v2, d2, s2, m2, rfl, nv2, hv2, x1⟩
    refine ⟨fun σ H' => ∃ s3, σ = [some (.ref v), some (.ref v2)] ∧ H s3 = none ∧ H' v2 = some (.ins C d2 (vf s3 m2)) ∧ H' s3 = some (.lst (.ref p :: xs)) ∧ Ext H H', ?_, ?_⟩
    · refine ⟨v, C, dx, _, _, rfl, x1 _ _ hv, L.cl, L.nS, vf_s _ _, s_, _, rfl, .inl (SqL.of (x1 _ _ hs)), fun l nl => ?_⟩
      have x2 := Ext.upd (o := .lst (.ref p :: xs)) nl
      have cl : (upd H1 l (.lst (.ref p :: xs))) l = some (.lst (.ref p :: xs)) := upd_same
      have nl0 := Ext.free x1 nl
      have hv3 := x2 _ _ hv2
      have x3 := x1.trans x2
      generalize upd H1 l (.lst (.ref p :: xs)) = G at cl hv3 x3 ⊢
      refine ⟨v2, C, d2, _, rfl, hv3, L.cl, L.nS, (by show 2 < 1000; decide), ?_⟩
      rw [vf_putS]
      exact ⟨l, rfl, nl0, upd_same, by rw [upd_ne (ne_of cl hv3 (fun z => nomatch z))]; exact cl, put_ext x3 nv2⟩
    clear hv2 x1
    rintro σ H1 ⟨s3, rfl, ns3, hv2, hs3, x1⟩
    refine ⟨fun σ H' => ∃ m3, σ = [some (.ref v), some (.ref v2)] ∧ H m3 = none ∧ s3 ≠ m3 ∧ H' v2 = some (.ins C d2 (vf s3 m3)) ∧ H' s3 = some (.lst (.ref p :: xs)) ∧ H' m3 = some (.lst (mkL ms)) ∧ Ext H H', ?_, ?_⟩
    · refine ⟨v, C, dx, _, _, rfl, x1 _ _ hv, L.cl, L.nM, vf_m _ _, m, _, rfl, .inl (SqL.of (x1 _ _ hm)), fun l nl => ?_⟩
      have x2 := Ext.upd (o := .lst (mkL ms)) nl
      have cl : (upd H1 l (.lst (mkL ms))) l = some (.lst (mkL ms)) := upd_same
      have nl0 := Ext.free x1 nl
      have hv3 := x2 _ _ hv2
      have hs4 := x2 _ _ hs3
      have sl : s3 ≠ l := ne_of_none hs3 nl
      have x3 := x1.trans x2
      generalize upd H1 l (.lst (mkL ms)) = G at cl hv3 hs4 x3 ⊢
      refine ⟨v2, C, d2, _, rfl, hv3, L.cl, L.nM, (by show 2 < 1000; decide), ?_⟩
      rw [vf_put]
      exact ⟨l, rfl, nl0, sl, upd_same, by rw [upd_ne (ne_of hs4 hv3 (fun z => nomatch z))]; exact hs4, by rw [upd_ne (ne_of cl hv3 (fun z => nomatch z))]; exact cl, put_ext x3 nv2⟩
    rintro σ H2 ⟨m3, rfl, nm3, sm, h1, h2, h3, x2⟩
    exact k H2 v2 d2 s3 m3 nv2 ns3 nm3 sm h1 h2 h3 x2
theorem ok_lenV (T : Blt mg) (L : LiveC K C) {f : Addr} {fd : FuncData} (D : Mx K "__len__" "LiveLog.__len__" s_LiveLog___len__ ["self"] f fd) : FnOk P w K mg base C8.CX0 1 f fd ["self"] (spLenV C) := by
  refine fn_of' D sc_LiveLog___len__ (fun vs H Q E h => ?_) (fun cdv A o s H vs Q E hr h => ?_)
  · obtain ⟨v, dx, s, m, x, xs, rfl, _⟩ := h; rfl
  · obtain ⟨v, dx, s_, m, x, xs, rfl, hv, hs, k⟩ := h
    refine ⟨_, (pss_one (ps_ret (pe_callB call_len (by rfl) T.n_len (by decide +kernel) (pa_cons (pe_slice sl_list (pe_fld (mv 0) rfl) (po_some pe_int) po_none) pa_nil)))), ?_⟩
    refine ⟨v, C, dx, _, _, rfl, hv, L.cl, L.nS, vf_s _ _, _, rfl, s_, _, rfl, SqL.of hs, fun t ht => ?_⟩
    refine ⟨_, _, rfl, .inl ⟨_, SqL.of upd_same, rfl⟩, ?_⟩
    have e : cutV (x :: xs) (some 1) none = xs := by
      rw [cut_from (by decide)]; rfl
    rw [e]
    exact k _ (Ext.upd ht)
end
end NB

set_option Elab.async false
set_option linter.all false
set_option maxRecDepth 100000
/-! B22: a op b op c op d, as a test -/
namespace NB
open PySem PySem.Spec PyProof.Rows L2
section
variable {X : Cx} {a b c d : Expr} {ta tb tc td : TE} {pos : Pos}
def tChain3 (r r' r'' : R2) (ta tb tc td : TE) : TE := fun σ H Q => ta σ H fun x H1 => tb σ H1 fun y H2 => r x y H2 fun z H3 => ∃ k, z = .bl k ∧
  (if k = true then tc σ H3 fun w H4 => r' y w H4 fun z' H5 => ∃ k', z' = .bl k' ∧ (if k' = true then td σ H5 fun u H6 => r'' w u H6 Q else Q (.bl false) H5) else Q (.bl false) H3)
theorem pt_chain3 {op op' op'' : CmpOp} {r r' r'' : R2} (ho : OpR X (compareOp op) r) (ho' : OpR X (compareOp op') r') (ho'' : OpR X (compareOp op'') r'') (ha : PE X a ta) (hb : PE X b tb) (hc : PE X c tc) (hd : PE X d td)
    (hm : lastMarks [op, op', op''] [b, c, d] = false := by with_unfolding_all rfl) : PT X (.Compare a [op, op', op''] [b, c, d] pos) (tTest (tChain3 r r' r'' ta tb tc td)) := by
  refine ⟨fun pins s σ H Q I h => ?_⟩
  refine isTrue_chain (thn (ha.run pins s σ H _ I h) fun v s1 ⟨x, H1, I1, r1, q1⟩ => test_link (thn (hb.run pins s1 σ H1 _ I1 q1) fun u s2 ⟨y, H2, I2, r2, q2⟩ =>
    thn (ho pins s2 σ H2 x y v u _ I2 r1 r2 q2) fun d s3 ⟨z, H3, I3, r3, k, e, q3⟩ => ?_)) hm
  subst e
  cases r3
  refine wpAny_truthy_bool ?_
  cases k with
  | false =>
    obtain ⟨k', e', q'⟩ := q3
    cases e'
    exact ite_ff ⟨H3, I3, q'⟩
  | true =>
    refine ite_tt (test_link (thn (hc.run pins s3 σ H3 _ I3 q3) fun w' s4 ⟨z', H4, I4, r4, q4⟩ => thn (ho' pins s4 σ H4 y z' u w' _ I4 r2 r4 q4) fun d' s5 ⟨z2, H5, I5, r5, k2, e2, q5⟩ => ?_))
    subst e2
    cases r5
    refine wpAny_truthy_bool ?_
    cases k2 with
    | false =>
      obtain ⟨k', e', q'⟩ := q5
      cases e'
      exact ite_ff ⟨H5, I5, q'⟩
    | true =>
      refine ite_tt (test_last (thn (hd.run pins s5 σ H5 _ I5 q5) fun w2 s6 ⟨z3, H6, I6, r6, q6⟩ => thn (ho'' pins s6 σ H6 z' z3 w' w2 _ I6 r4 r6 q6) fun d2 s7 ⟨z4, H7, I7, r7, k3, e3, q7⟩ => ?_))
      subst e3
      cases r7
      exact wpAny_truthy_bool ⟨H7, I7, q7⟩
end
end NB

set_option Elab.async false
set_option linter.all false
set_option maxRecDepth 100000
set_option maxHeartbeats 8000000
/-! K4z (k41): certificates are shown -/
namespace NB
open PySem PySem.Spec L2
open PyProof.Rows (envOfC)
open C8 (pe_c pe_mk pe_mt pe_mt0 pe_gc fnScope fnBody fnArgs fnScope_by Cal Met Mak)
/-- a comprehension over zip, the second list the shorter one -/
theorem lc_zipS {K : PySem.W.Frag} {a b : Addr} {xs ys : List V} {g : TG} {tt : TT} {te : TE} {vs : List Nat} {σ : L2.St} {H1 : Hp} {D : Addr} {Qd : Hp → Prop} (hl : ys.length ≤ xs.length) (Pv : Nat → Hp → Prop) (h0 : Pv 0 (upd H1 D (.lst []))) (hq : ∀ i H, i ≤ ys.length → Pv i H → SqL K H a xs ∧ SqL K H b ys)
    (hs : ∀ i x y T H, xs[i]? = some x → ys[i]? = some y → Pv i H → H T = none → g (.ref T) (wipe σ vs) (upd H T (.tup [x, y])) fun σ2 H2 => wipe σ2 vs = wipe σ vs ∧ tt σ2 H2 fun b H3 =>
      if b = true then te σ2 H3 fun y H4 => ∃ acc, H4 D = some (.lst acc) ∧ acc.length < sizeLine ∧ Pv (i + 1) (upd H4 D (.lst (acc ++ [y]))) else Pv (i + 1) H3) (hd : ∀ H, Pv ys.length H → Qd H) :
    ∃ W : Nat → Nat → Hp → Prop, (∃ m, W 0 m (upd H1 D (.lst []))) ∧ ∀ i m H, W i m H →
      ((Itz K a b).stop i H ∧ Qd H) ∨ ((Itz K a b).go i H ∧ ∃ Nx : Hp → Prop, (∀ H', Nx H' → ∃ m', m' < m ∧ W (i + 1) m' H') ∧ ∀ x H', (Itz K a b).yld i H x H' → g x (wipe σ vs) H' fun σ2 H2 => wipe σ2 vs = wipe σ vs ∧ tt σ2 H2 fun b H3 =>
        if b = true then te σ2 H3 fun y H4 => ∃ acc, H4 D = some (.lst acc) ∧ acc.length < sizeLine ∧ Nx (upd H4 D (.lst (acc ++ [y]))) else Nx H3) := by
  refine ⟨fun i m H => m = ys.length - i ∧ i ≤ ys.length ∧ Pv i H, ⟨ys.length, by simp, Nat.zero_le _, h0⟩, ?_⟩
  rintro i m H ⟨rfl, hi, p⟩
  obtain ⟨qx, qy⟩ := hq i H hi p
  by_cases hlt : i < ys.length
  · have hlt2 : i < xs.length := by omega
    have hx : xs[i]? = some xs[i] := List.getElem?_eq_getElem hlt2
    have hy : ys[i]? = some ys[i] := List.getElem?_eq_getElem hlt
    refine .inr ⟨⟨xs, ys, _, _, qx, qy, hx, hy⟩, Pv (i + 1), fun H' p' => ⟨ys.length - (i + 1), by omega, rfl, hlt, p'⟩, fun x H' y => ?_⟩
    obtain ⟨T, x', y', rfl, hT, rfl, f1, f2⟩ := y
    exact hs i x' y' T H (f1 xs qx) (f2 ys qy) p hT
  · have e : i = ys.length := by omega
    subst e
    exact .inl ⟨⟨xs, ys, qx, qy, Or.inr (Nat.le_refl _)⟩, hd H p⟩
/-- steps as data -/
def stepD (s : Int × Int) : PyData := .tuple [.int s.1, .int s.2]
theorem dp_steps {K : PySem.W.Frag} {H : Hp} : ∀ {st : List (Int × Int)} {ys : List V}, Paired (StepAt H) st ys → DpAll K H ys (st.map stepD)
  | _, _, .nil => .nil
  | _, _, .cons r q => by
    obtain ⟨t, rfl, ht⟩ := r
    exact .cons (.tup (SqT.of ht) (.cons (.int _) (.cons (.int _) .nil))) (dp_steps q)
theorem canLay_steps (st : List (Int × Int)) : ∀ d ∈ st.map stepD, d.canLay0 = true ∧ d.depth ≤ 1 := fun d hd => by
  obtain ⟨s, _, rfl⟩ := List.mem_map.mp hd
  refine (shaped_tup (n := 0) (fun d hd => ?_) (by decide)).2
  simp only [List.mem_cons, List.not_mem_nil, or_false] at hd
  rcases hd with rfl | rfl <;> exact ⟨rfl, Nat.le_refl _⟩
theorem sh_steps (st : List (Int × Int)) : SeqAt.shaped (.list (st.map stepD)) = true := shaped_list (n := 1) (canLay_steps st) (by decide)
/-- steps: ascending blocks up to the greatest one, slots that no window holds back -/
structure StepsOk (sz : Int) (ns : List Str) (es : List (Str × Int)) (st : List (Int × Int)) : Prop where
  asc : (st.map (·.1)).Pairwise (· < ·)
  lo : ∀ s ∈ st, 0 ≤ s.1
  hi : ∀ s ∈ st, ∃ e ∈ es, s.1 ≤ e.2 / sz
  gd : GoodS (wins sz ns es) es.length 0 st
theorem goodS_slots {W : Int → List Win} {n : Int} : ∀ {st : List (Int × Int)} {bf : Int}, GoodS W n bf st → (∀ s ∈ st, bf < s.2 ∧ s.2 ≤ n + 1) ∧ (st.map (·.2)).Pairwise (· < ·) ∧ ∃ pre b, st = pre ++ [(b, n + 1)]
  | [], bf, h => h.elim
  | [(b, s)], bf, h => by
    obtain ⟨h1, h2, _⟩ := h
    subst h2
    refine ⟨fun p hp => ?_, by simp, [], b, rfl⟩
    rw [List.mem_singleton.mp hp]; exact ⟨h1, Int.le_refl _⟩
  | (b, s) :: q :: st, bf, h => by
    obtain ⟨h1, _, h3⟩ := h
    obtain ⟨i1, i2, pre, b', e⟩ := goodS_slots (st := q :: st) h3
    refine ⟨fun p hp => ?_, ?_, (b, s) :: pre, b', by rw [e]; rfl⟩
    · rcases List.mem_cons.mp hp with rfl | hp
      · have := i1 q List.mem_cons_self
        exact ⟨h1, by show s ≤ n + 1; omega⟩
      · have := i1 p hp
        omega
    · rw [List.map_cons, List.pairwise_cons]
      refine ⟨fun c hc => ?_, i2⟩
      obtain ⟨p, hp, rfl⟩ := List.mem_map.mp hc
      exact (i1 p hp).1
theorem goodS_head {W : Int → List Win} {n bf b s : Int} {st : List (Int × Int)} (h : GoodS W n bf ((b, s) :: st)) : bf < s ∧ (∀ m, lslot bf (W b) = some m → s ≤ m) ∧ (st = [] ∨ GoodS W n s st) := by
  cases st with
  | nil => exact ⟨h.1, h.2.2, .inl rfl⟩
  | cons q st => exact ⟨h.1, h.2.1, .inr h.2.2⟩
theorem nodup_sub : ∀ {l m : List Int}, l.Nodup → (∀ x ∈ l, x ∈ m) → l.length ≤ m.length
  | [], _, _, _ => Nat.zero_le _
  | x :: l, m, nd, h => by
    obtain ⟨h1, h2⟩ := List.nodup_cons.mp nd
    have ih := nodup_sub (m := m.erase x) h2 fun y hy => (List.mem_erase_of_ne (fun e => h1 (by rw [← e]; exact hy))).mpr (h y (List.mem_cons_of_mem _ hy))
    have xm := h x List.mem_cons_self
    rw [List.length_erase_of_mem xm] at ih
    have := List.length_pos_of_mem xm
    rw [List.length_cons]; omega
/-- the seen blocks are few -/
theorem seenB_len {sz : Int} {es : List (Str × Int)} {bs : List Int} (sb : SeenB sz es bs) : bs.length ≤ es.length := by
  have nd : bs.Nodup := sb.srt.imp fun r => by omega
  have sub : ∀ b ∈ bs, b ∈ es.map fun e => e.2 / sz := fun b hb => by
    obtain ⟨z, hz⟩ := List.exists_mem_of_ne_nil _ ((sb.mem b).mp hb)
    obtain ⟨j, e, h1, _, h2⟩ := hol_mem.mp hz
    exact List.mem_map.mpr ⟨e, List.mem_of_getElem? h1, h2⟩
  have := nodup_sub nd sub
  rwa [List.length_map] at this
/-- the steps of the walk -/
theorem steps_ok {sz : Int} {ns : List Str} {es : List (Str × Int)} {bs : List Int} (sb : SeenB sz es bs) (ok : EntsOk ns es) (so : 1 ≤ sz) (no : ¬ Thru 0 (rowsF sz ns es 0 bs)) : StepsOk sz ns es (pushF 0 (rowsF sz ns es 0 bs) (leasts 0 (rowsF sz ns es 0 bs) ++ [(es.length : Int) + 1])) := by
  obtain ⟨f1, f2⟩ := rowsF_first (sz := sz) (ns := ns) (es := es) bs 0 sb.srt (sb.nn ok so)
  have sub := push_sub (rowsF sz ns es 0 bs) 0 (leasts 0 (rowsF sz ns es 0 bs) ++ [(es.length : Int) + 1])
  have inr : ∀ s ∈ pushF 0 (rowsF sz ns es 0 bs) (leasts 0 (rowsF sz ns es 0 bs) ++ [(es.length : Int) + 1]), ∃ r ∈ rowsF sz ns es 0 bs, r.1 = s.1 := fun s hs => List.mem_map.mp (sub.subset (List.mem_map.mpr ⟨s, hs, rfl⟩))
  refine ⟨f2.sublist sub, fun s hs => ?_, fun s hs => ?_, ?_⟩
  · obtain ⟨r, hr, e⟩ := inr s hs
    rw [← e]; exact (f1 r hr).1
  · obtain ⟨r, hr, e⟩ := inr s hs
    obtain ⟨_, h2, ⟨b, hb, h3⟩, _⟩ := f1 r hr
    obtain ⟨z, hz⟩ := List.exists_mem_of_ne_nil _ ((sb.mem b).mp hb)
    obtain ⟨j, e', h4, _, h5⟩ := hol_mem.mp hz
    exact ⟨e', List.mem_of_getElem? h4, by omega⟩
  · refine push_good _ 0 (fun r hr => (f1 r hr).2.2.2) (fun r hr lo hi h => ?_) (by omega) no
    rw [(f1 r hr).2.2.2] at h
    exact (wins_hi h).2
theorem fF_gre (a l lb hd od : Addr) (g : Int) : (fF a l lb hd od g).lookup ("greatest" : Str) = some (.int g) := by
  unfold fF
  rw [lookup_putF, if_pos rfl]
def spIndex : Sp := fun vs H Q _ => ∃ (i n : Int), vs = [.int i, .int n] ∧ 0 ≤ i ∧ i < n ∧ Q (.bl true) H
def spWins (C : Addr) : Sp := fun vs H Q _ => ∃ d sz ns es b, vs = [.ref d, .int b] ∧ FactsAt C H d sz ns es ∧ ns.length ≤ 12 ∧ es.length ≤ 200 ∧ ∀ H' w us, Ext H H' → H' w = some (.lst us) → Paired (WinV H') (wins sz ns es b) us → Q (.ref w) H'
def spAreSteps (C : Addr) : Sp := fun vs H Q _ => ∃ d l sz ns es st ys, vs = [.ref d, .ref l] ∧ FactsAt C H d sz ns es ∧ H l = some (.lst ys) ∧ Paired (StepAt H) st ys ∧ StepsOk sz ns es st ∧ ys.length ≤ 200 ∧ ∀ H', Ext H H' → Q (.bl true) H'
def spSteps (C : Addr) : Sp := fun vs H Q _ => ∃ d l sz ns es st ys, vs = [.ref d, .ref l] ∧ FactsAt C H d sz ns es ∧ H l = some (.lst ys) ∧ Paired (StepAt H) st ys ∧ StepsOk sz ns es st ∧ ys.length ≤ 200 ∧ Clean sz es ∧ ns.length ≤ 12 ∧ es.length ≤ 200 ∧ SizeOk sz ∧ ∀ H', Ext H H' → Q (.bl true) H'
/-- the kind of fault between two entries -/
def KindF (sz : Int) (k : Str) (e f : Str × Int) : Prop := (k = "twice" ∧ e.2 = f.2) ∨ (k = "shared" ∧ e.1 ≠ f.1 ∧ e.2 / sz = f.2 / sz) ∨ (k = "back" ∧ e.1 = f.1 ∧ f.2 < e.2)
def spTwo (C : Addr) : Sp := fun vs H Q _ => ∃ d sz ns es k i j e f, vs = [.ref d, .str k, .int (i : Nat), .int (j : Nat)] ∧ FactsAt C H d sz ns es ∧ i < j ∧ es[i]? = some e ∧ es[j]? = some f ∧ KindF sz k e f ∧ Q (.bl true) H
def spShows (K : PySem.W.Frag) (cL cX : Addr) (A0 : Ads) : Sp := fun vs H Q _ => ∃ p C kd sz ns es v, vs = [.ref p, v] ∧ LogAt C H p sz ns es ∧ LogM K cL cX C kd A0 ∧ SizeOk sz ∧ CrewOk ns ∧ EntsOk ns es ∧ es.length ≤ 62 ∧ ObsX sz ns es H v ∧ ∀ H', Ext H H' → Q (.bl true) H'
def spIsFault : Sp := fun vs H Q _ => ∃ sz l ns es xs v, vs = [.int sz, .ref l, v] ∧ SizeOk sz ∧ EntsOk ns es ∧ es.length ≤ 62 ∧ H l = some (.lst xs) ∧ EntL H es xs ∧ ObsX sz ns es H v ∧ ∀ H', Ext H H' → Q (.bl true) H'
section
variable {P : Program} {w : World} {K : PySem.W.Frag} {mg : Str → Option Value} {base : Heap} {cL cX cF C : Addr} {A0 : Ads}
theorem ok_index (D : Dx K mg "is_index" s_is_index ["thing", "limit"]) (c_is_integer : Cal P w K mg base 1 "is_integer" (spInteger K) []) : Cal P w K mg base 2 "is_index" spIndex [] := by
  refine cal_of D sc_is_index (fun vs H Q E h => ?_) (fun f cdv A o s H vs Q E hr h => ?_)
  · obtain ⟨i, n, rfl, _⟩ := h; rfl
  · obtain ⟨i, n, rfl, h0, lt, k⟩ := h
    refine ⟨_, (pss_one (ps_ret (pe_and (pe_c c_is_integer hr (by decide) rfl (pa_cons (mv 0) pa_nil)) (pe_one (pe_chain m_le m_lt pe_int (mv 0) (mv 1)))))), ?_⟩
    refine ⟨_, true, rfl, .int _, true, rfl, _, rfl, ?_⟩
    rw [decide_eq_true h0]
    refine ifT (by rfl) ?_
    show Q (.bl (decide (i < n))) H
    rw [decide_eq_true lt]
    exact k
theorem ok_wins (L : FactC K C) {fW : Addr} {dW : FuncData} (mW : Meth K C "window_of" fW) (F_win : FnOk P w K mg base C8.CX0 1 fW dW ["self", "server", "block"] (spWinOf C)) (bW : Binds K dW ["self", "server", "block"] [])
    {f : Addr} {fd : FuncData} (D : Mx K "windows" "Facts.windows" s_Facts_windows ["self", "block"] f fd) : FnOk P w K mg base C8.CX0 2 f fd ["self", "block"] (spWins C) := by
  refine fn_of' D sc_Facts_windows (fun vs H Q E h => ?_) (fun cdv A o s H vs Q E hr h => ?_)
  · obtain ⟨d, sz, ns, es, b, rfl, _⟩ := h; rfl
  · obtain ⟨d, sz, ns, es, b, rfl, fa, h12, h200, k⟩ := h
    obtain ⟨dx, a, l, lb, hd, od, g, q, xs, hi, hl, el, fd, ha, hlb, hg⟩ := id fa
    refine ⟨_, (pss_one (ps_ret (pe_lc (own := [("server", 2)]) (g := gName 2) (tt := tYes) rfl sc_Facts_windows.nd (pi_list (pe_fld (mv 0) rfl)) (blkOk_by (own := [("server", 2)]) (N := ["self", "block", "server"]) (sc := fnScope s_Facts_windows) (by decide +kernel)) (fun _ _ _ _ _ => (pg_name (i := 2) sc_Facts_windows.nd rfl (Or.inl rfl))) (fun _ _ _ _ _ => pts_nil) (fun _ _ _ _ _ => (pe_meth (mv 0) L.cl mW F_win (hr.mono (by decide)) bW .nil ps0 (pa_cons (mv 2) (pa_cons (mv 1) pa_nil))))))), ?_⟩
    have no : (fF a l lb hd od g).lookup ("window_of" : Str) = none := fF_no _ _ _ _ _ _ (by decide +kernel) (by decide +kernel) (by decide +kernel) (by decide +kernel) (by decide +kernel) (by decide +kernel)
    refine ⟨d, C, dx, _, _, rfl, hi, L.cl, L.nN, fF_nam _ _ _ _ _ _, a, rfl, ⟨_, SqL.of ha⟩, fun wd nwd => lc_list (K := K) (a := a) (xs := ns.map V.str) (fun j H' => ∃ vs, Ext H H' ∧ H' wd = some (.lst vs) ∧ Paired (WinV H') ((wins sz ns es b).take j) vs ∧ vs.length = j) ⟨[], Ext.upd nwd, upd_same, .nil, rfl⟩ (fun j H' _ t => by obtain ⟨_, x, _⟩ := t; exact SqL.of (x _ _ ha)) ?_ ?_⟩
    · rintro j y G hy ⟨vs, xG, hw, pw, vl⟩
      obtain ⟨z, hz, rfl⟩ := map_at hy
      have zn := List.mem_of_getElem? hz
      have hj := (List.getElem?_eq_some_iff.mp hz).1
      refine ⟨rfl, goY (ifT (by rfl) ?_)⟩
      refine ⟨d, dx, _, rfl, xG _ _ hi, no, d, sz, ns, es, z, b, rfl, fa.mono xG, zn, h200, fun G1 v x1 wv => ?_⟩
      refine ⟨vs, x1 _ _ hw, Nat.lt_of_le_of_lt (show vs.length ≤ 12 by omega) (by decide), vs ++ [v], put_ext (xG.trans x1) nwd, upd_same, ?_, by rw [List.length_append, vl]; rfl⟩
      have st := TupSt.upd (o := .lst (vs ++ [v])) (x1 _ _ hw) (fun _ z => nomatch z)
      have e : (wins sz ns es b).take (j + 1) = (wins sz ns es b).take j ++ [win sz es z b] := by
        unfold wins
        rw [List.take_succ, List.getElem?_map, hz]; rfl
      rw [e]
      exact pApp (Paired.mapP pw fun _ _ q => (q.mono x1).st st) (.cons (wv.st st) .nil)
    · rintro G ⟨vs, xG, hw, pw, vl⟩
      have gl : (wins sz ns es b).length = ns.length := by unfold wins; rw [List.length_map]
      rw [List.length_map, ← gl, List.take_length] at pw
      exact k _ _ _ xG hw pw
theorem ok_areSteps (T : Tf mg) (n_all : mg "all" = none) (L : FactC K C) {fS : Addr} {dS : FuncData} (mS : Meth K C "last_slot" fS) (F_slot : FnOk P w K mg base C8.CX0 1 fS dS ["self"] (spLastSlot C)) (bS : Binds K dS ["self"] [])
    (D : Dx K mg "are_steps" s_are_steps ["facts", "thing"]) (c_is_index : Cal P w K mg base 2 "is_index" spIndex []) : Cal P w K mg base 3 "are_steps" (spAreSteps C) [] := by
  refine cal_of D sc_are_steps (fun vs H Q E h => ?_) (fun f cdv A o s H vs Q E hr h => ?_)
  · obtain ⟨d, l, sz, ns, es, st, ys, rfl, _⟩ := h; rfl
  · obtain ⟨d, l, sz, ns, es, st, ys, rfl, fa, hl, ps, so, y200, k⟩ := h
    obtain ⟨dx, a, el_, lb, hd, od, g, q, xs, hi, _, _, fd, ha, hlb, hg⟩ := id fa
    obtain ⟨sl1, sl2, pre, bl, sl3⟩ := goodS_slots so.gd
    have no : (fF a el_ lb hd od g).lookup ("last_slot" : Str) = none := fF_no _ _ _ _ _ _ (by decide +kernel) (by decide +kernel) (by decide +kernel) (by decide +kernel) (by decide +kernel) (by decide +kernel)
    have pl := pLen ps
    refine ⟨_, (C8.pss_cut (ps_if (PW.pt (pw_or (pt_not (qv (pe_callB call_isi (by rfl) T.n_isinstance (by decide +kernel) (pa_cons (mv 1) (pa_cons (pe_bltn (v := .ty "list") (u := .type "list") (by rfl) T.n_list (by decide +kernel) rfl) pa_nil))))) (pw_or1 (qt (op_eqD hr.units) (mv 1) (pe_lst pa_nil) (nomark _))))) (pss_one (ps_ret pe_bl)) pss_nil)
    (pss_cons (ps_for PassesOwn.never rfl (pi_list (mv 1)) (pg_name (i := 2) sc_are_steps.nd rfl (Or.inl rfl))
    (pss_cons (ps_if (PW.pt (pw_or (pt_not (qv (pe_callB call_isi (by rfl) T.n_isinstance (by decide +kernel) (pa_cons (mv 2) (pa_cons (pe_bltn (v := .ty "tuple") (u := .type "tuple") (by rfl) T.n_tuple (by decide +kernel) rfl) pa_nil))))) (pw_or (qt m_ne (pe_callB call_len (by rfl) T.n_len (by decide +kernel) (pa_cons (mv 2) pa_nil)) pe_int (nomark _)) (pw_or1 (pt_not (qv (pe_c c_is_index hr (by decide) rfl (pa_cons (pe_ix m_ix (mv 2) pe_int (fun _ _ => rfl)) (pa_cons (pe_op m_add (pe_fld (mv 0) rfl) pe_int) pa_nil))))))))) (pss_one (ps_ret pe_bl)) pss_nil)
    (pss_one (ps_if (PW.pt (pw_or (pt_not (qv (pe_c c_is_index hr (by decide) rfl (pa_cons (pe_ix m_ix (mv 2) pe_int (fun _ _ => rfl)) (pa_cons (pe_op m_add (pe_meth0 (mv 0) L.cl mS F_slot (hr.mono (by decide)) bS .nil ps0) pe_int) pa_nil))))) (pw_or1 (qt m_eq (pe_ix m_ix (mv 2) pe_int (fun _ _ => rfl)) pe_int (nomark _))))) (pss_one (ps_ret pe_bl)) pss_nil))))
    (pss_cons (ps_if (pt_not (qv (pe_callB (cr_all rfl) (by rfl) T.n_all (by decide +kernel) (pa_cons (pe_lc (own := [("one", 3), ("other", 4)]) (g := gTup K 2 (gCons (gName 3) (gCons (gName 4) gNil))) (tt := tYes) (te := tAndV (tOp (mI0 fun i j => .bl (decide (i < j))) (tOp (mIx K) (mV 3) (tC (.int 0))) (tOp (mIx K) (mV 4) (tC (.int 0)))) (tOp (mI0 fun i j => .bl (decide (i < j))) (tOp (mIx K) (mV 3) (tC (.int 1))) (tOp (mIx K) (mV 4) (tC (.int 1))))) rfl sc_are_steps.nd (pi_zip (by rfl) T.n_zip (pa_cons (mv 1) (pa_cons (pe_slice sl_list (mv 1) (po_some pe_int) po_none) pa_nil))) (blkOk_by (own := [("one", 3), ("other", 4)]) (N := ["facts", "thing", "step", "one", "other"]) (sc := fnScope s_are_steps) (by decide +kernel)) (fun _ _ _ _ _ => (pg_tup rfl (pgs_cons (pg_name (i := 3) sc_are_steps.nd rfl (Or.inl rfl)) (pgs_cons (pg_name (i := 4) sc_are_steps.nd rfl (Or.inl rfl)) pgs_nil)))) (fun _ _ _ _ _ => pts_nil) (fun _ _ _ _ _ => (pe_and (pe_cmpR m_lt (pe_ix m_ix (mv 3) pe_int (fun _ _ => rfl)) (pe_ix m_ix (mv 4) pe_int (fun _ _ => rfl)) (nomark _)) (pe_one (pe_cmpR m_lt (pe_ix m_ix (mv 3) pe_int (fun _ _ => rfl)) (pe_ix m_ix (mv 4) pe_int (fun _ _ => rfl)) (nomark _)))))) pa_nil)))) (pss_one (ps_ret pe_bl)) pss_nil)
    (pss_one (ps_ret (pe_cmpR m_eq (pe_ix m_ix (pe_ix m_ix (mv 1) (pe_un m_neg pe_int) (fun _ _ => rfl)) pe_int (fun _ _ => rfl)) (pe_op m_add (pe_meth0 (mv 0) L.cl mS F_slot (hr.mono (by decide)) bS .nil ps0) pe_int) (nomark _))))))), ?_⟩
    have hS := SqL.of (K := K) hl
    refine ⟨fun σ H' => σ = [some (.ref d), some (.ref l), none, none, none] ∧ Ext H H', ?_, ?_⟩
    · refine ⟨_, _, _, _, _, rfl, .ty _, .base (.lst hl), kt_list_list, ifF (by rfl) ?_⟩
      refine ⟨Nat.zero_le _, fun t0 nt0 => ?_⟩
      have x0 := Ext.upd (o := .lst []) nt0
      refine ⟨_, _, .lst (SqL.of (x0 _ _ hl)) (dp_steps (Paired.mapP ps fun _ _ q => q.mono x0)), .lst (SqL.of upd_same) .nil, sh_steps _, sh_ints [], ?_⟩
      have e : PyData.eqv (.list (st.map stepD)) (.list []) = false := by
        cases st with
        | nil => exact so.gd.elim
        | cons s st => rfl
      rw [e]
      exact ifF (by rfl) ⟨rfl, x0⟩
    rintro σ H1 ⟨rfl, x1⟩
    have hl1 := x1 _ _ hl
    refine ⟨l, rfl, ⟨_, SqL.of hl1⟩, for_list (K := K) (a := l) (xs := ys) (fun j σ H' => ∃ v2, σ = [some (.ref d), some (.ref l), v2, none, none] ∧ Ext H H') ⟨_, rfl, x1⟩ ?_ ?_ ?_⟩
    · rintro j σ G _ ⟨_, rfl, x⟩; exact SqL.of (x _ _ hl)
    · rintro j y σ G hy ⟨v2, rfl, xG⟩
      obtain ⟨s, hs, t, rfl, ht0⟩ := pAt ps hy
      have sm := List.mem_of_getElem? hs
      have ht := xG _ _ ht0
      obtain ⟨e, em, le⟩ := so.hi s sm
      have := hg e em
      have s2 := sl1 s sm
      refine ⟨_, _, _, _, _, rfl, .ty _, .base (.tup ht), kt_tup_tup, ifF (by rfl) ?_⟩
      refine ⟨_, _, rfl, .inr ⟨_, SqT.of ht, rfl⟩, ?_⟩
      refine ⟨_, _, .inr (SqT.of ht), atI_nat (j := 0) rfl, d, C, dx, _, _, rfl, xG _ _ hi, L.cl, L.nG, fF_gre _ _ _ _ _ _, _, _, rfl, so.lo s sm, by omega, ifF (by rfl) ?_⟩
      refine ⟨_, _, .inr (SqT.of ht), atI_nat (j := 1) rfl, d, dx, _, rfl, xG _ _ hi, no, d, sz, ns, es, rfl, fa.mono xG, _, _, rfl, by omega, by omega, ifF (by rfl) ?_⟩
      refine ⟨_, _, .inr (SqT.of ht), atI_nat (j := 1) rfl, ?_⟩
      exact ifD (p := s.2 = 0) (fun h => absurd h (by omega)) (fun _ => ⟨_, rfl, xG⟩)
    rintro σ G ⟨v2, rfl, xG⟩
    have hlG := xG _ _ hl
    refine ⟨_, rfl, l, _, rfl, SqL.of hlG, fun l2 nl2 => ?_⟩
    have y1 := Ext.upd (o := .lst (cutV ys (some 1) none)) nl2
    have c2 : (upd G l2 (.lst (cutV ys (some 1) none))) l2 = some (.lst (ys.drop 1)) := by rw [upd_same, cut_from (by decide)]; rfl
    have xG2 := xG.trans y1
    generalize upd G l2 (.lst (cutV ys (some 1) none)) = G2 at c2 xG2
    clear y1 nl2
    have hl2 := xG2 _ _ hl
    have dl : (ys.drop 1).length ≤ ys.length := by rw [List.length_drop]; omega
    refine ⟨l, l2, _, _, rfl, SqL.of hl2, SqL.of c2, fun p np => lc_zipS (K := K) (a := l) (b := l2) (xs := ys) (ys := ys.drop 1) dl (fun i H' => Ext G2 H' ∧ H' p = some (.lst ((List.replicate i true).map V.bl))) ⟨Ext.upd np, upd_same⟩ (fun i H' _ t => ⟨SqL.of (t.1 _ _ hl2), SqL.of (t.1 _ _ c2)⟩) ?_ ?_⟩
    · rintro i x y tt G3 hx hy ⟨x3, hp⟩ ntt
      rw [List.getElem?_drop] at hy
      obtain ⟨s, hs, t, rfl, ht0⟩ := pAt ps hx
      obtain ⟨s', hs', t', rfl, ht0'⟩ := pAt ps hy
      obtain ⟨l1, e1⟩ := List.getElem?_eq_some_iff.mp hs
      obtain ⟨l2', e2⟩ := List.getElem?_eq_some_iff.mp hs'
      have a1 : s.1 < s'.1 := by
        have := List.pairwise_iff_getElem.mp so.asc i (1 + i) (by rw [List.length_map]; exact l1) (by rw [List.length_map]; exact l2') (by omega)
        rw [List.getElem_map, List.getElem_map, e1, e2] at this
        exact this
      have a2 : s.2 < s'.2 := by
        have := List.pairwise_iff_getElem.mp sl2 i (1 + i) (by rw [List.length_map]; exact l1) (by rw [List.length_map]; exact l2') (by omega)
        rw [List.getElem_map, List.getElem_map, e1, e2] at this
        exact this
      have y3 := Ext.upd (o := .tup [.ref t, .ref t']) ntt
      have ht := (xG2.trans (x3.trans y3)) _ _ ht0
      have ht' := (xG2.trans (x3.trans y3)) _ _ ht0'
      have hp' := y3 _ _ hp
      refine ⟨tt, _, rfl, SqT.of upd_same, rfl, _, _, rfl, _, _, rfl, rfl, rfl, goY (ifT (by rfl) ?_)⟩
      refine ⟨_, _, .inr (SqT.of ht), atI_nat (j := 0) rfl, _, _, .inr (SqT.of ht'), atI_nat (j := 0) rfl, _, rfl, ?_⟩
      rw [decide_eq_true a1]
      refine ifT (by rfl) ?_
      refine ⟨_, _, .inr (SqT.of ht), atI_nat (j := 1) rfl, _, _, .inr (SqT.of ht'), atI_nat (j := 1) rfl, ?_⟩
      refine ⟨_, hp', ?_, put_ext (x3.trans y3) np, ?_⟩
      · rw [List.length_map, List.length_replicate]
        exact Nat.lt_of_le_of_lt (show i ≤ 200 by omega) (by decide)
      · rw [upd_same]
        show some (HO.lst (_ ++ [V.bl (decide (s.2 < s'.2))])) = _
        rw [decide_eq_true a2, List.replicate_succ', List.map_append]
        rfl
    rintro G3 ⟨x3, hp⟩
    refine ⟨p, List.replicate (ys.drop 1).length true, rfl, SqL.of hp, ?_⟩
    have e : (List.replicate (ys.drop 1).length true).all id = true := by
      rw [List.all_eq_true]; intro b hb; exact List.eq_of_mem_replicate hb
    rw [e]
    refine ifF (by rfl) ?_
    have x4 := xG2.trans x3
    obtain ⟨ys', yl, eY, hyl⟩ : ∃ ys' yl, ys = ys' ++ [yl] ∧ StepAt H (bl, (es.length : Int) + 1) yl := by
      rw [sl3] at ps
      have : ∀ {pre : List (Int × Int)} {s : Int × Int} {ys : List V}, Paired (StepAt H) (pre ++ [s]) ys → ∃ ys' yl, ys = ys' ++ [yl] ∧ StepAt H s yl := by
        intro pre
        induction pre with
        | nil => intro s ys h; cases h with | cons r q => cases q with | nil => exact ⟨[], _, rfl, r⟩
        | cons p pre ih =>
          intro s ys h
          cases h with
          | cons r q =>
            obtain ⟨ys', yl, e, h⟩ := ih q
            exact ⟨_ :: ys', yl, by rw [e]; rfl, h⟩
      exact this ps
    obtain ⟨t, rfl, ht0⟩ := hyl
    have ht := x4 _ _ ht0
    have hl4 := x4 _ _ hl
    refine ⟨_, .ref t, .inl (SqL.of hl4), (by rw [eY]; exact atI_last _ _), _, _, .inr (SqT.of ht), atI_nat (j := 1) rfl, d, dx, _, rfl, x4 _ _ hi, no, d, sz, ns, es, rfl, fa.mono x4, ?_⟩
    show Q (.bl (decide ((es.length : Int) + 1 = (es.length : Int) + 1))) _
    rw [decide_eq_true rfl]
    exact k _ x4
theorem ok_steps (T : Tf mg) (L : FactC K C) {fP fW : Addr} {dP dW : FuncData} (mP : Meth K C "plain_fault" fP) (F_plain : FnOk P w K mg base C8.CX0 1 fP dP ["self"] (spPlain K C)) (bP : Binds K dP ["self"] [])
    (mWs : Meth K C "windows" fW) (F_wins : FnOk P w K mg base C8.CX0 2 fW dW ["self", "block"] (spWins C)) (bWs : Binds K dW ["self", "block"] [])
    (D : Dx K mg "shows_steps" s_shows_steps ["facts", "thing"]) (c_are_steps : Cal P w K mg base 3 "are_steps" (spAreSteps C) []) (c_least_slot : Cal P w K mg base 1 "least_slot" spLeast []) : Cal P w K mg base 4 "shows_steps" (spSteps C) [] := by
  refine cal_of D sc_shows_steps (fun vs H Q E h => ?_) (fun f cdv A o s H vs Q E hr h => ?_)
  · obtain ⟨d, l, sz, ns, es, st, ys, rfl, _⟩ := h; rfl
  · obtain ⟨d, l, sz, ns, es, st, ys, rfl, fa, hl, ps, so, y200, cl, h12, h200, sz1, k⟩ := h
    obtain ⟨dx, a, el_, lb, hd, od, g, q, xs, hi, _, _, fd, ha, hlb, hg⟩ := id fa
    have nof : ∀ {m : Str}, ¬ m = "greatest" → ¬ m = "own" → ¬ m = "holders" → ¬ m = "seen_blocks" → ¬ m = "seen_entries" → ¬ m = "names" → (fF a el_ lb hd od g).lookup m = none := fun h1 h2 h3 h4 h5 h6 => fF_no a el_ lb hd od g h1 h2 h3 h4 h5 h6
    have pl := pLen ps
    refine ⟨_, (C8.pss_cut (ps_if (PW.pt (pw_or (qt op_notN (pe_meth0 (mv 0) L.cl mP F_plain (hr.mono (by decide)) bP .nil ps0) pe_non (nomark _)) (pw_or1 (pt_not (qv (pe_c c_are_steps hr (by decide) rfl (pa_cons (mv 0) (pa_cons (mv 1) pa_nil)))))))) (pss_one (ps_ret pe_bl)) pss_nil)
    (C8.pss_cut (ps_set (i := 2) sc_shows_steps.nd rfl (Or.inl rfl) pe_int)
    (pss_cons (ps_for PassesOwn.never rfl (pi_list (mv 1)) (pg_tup rfl (pgs_cons (pg_name (i := 3) sc_shows_steps.nd rfl (Or.inl rfl)) (pgs_cons (pg_name (i := 4) sc_shows_steps.nd rfl (Or.inl rfl)) pgs_nil)))
    (C8.pss_cut (ps_set (i := 5) sc_shows_steps.nd rfl (Or.inl rfl) (pe_c c_least_slot hr (by decide) rfl (pa_cons (pe_meth (mv 0) L.cl mWs F_wins (hr.mono (by decide)) bWs .nil ps0 (pa_cons (mv 3) pa_nil)) (pa_cons (mv 2) pa_nil))))
    (pss_cons (ps_if (PW.pt (pw_and (qt op_notN (mv 5) pe_non (nomark _)) (pw_and1 (qt m_lt (mv 5) (mv 4) (nomark _))))) (pss_one (ps_ret pe_bl)) pss_nil)
    (pss_one (ps_set (i := 2) sc_shows_steps.nd rfl (Or.inl rfl) (mv 4))))))
    (pss_one (ps_ret pe_bl))))), ?_⟩
    refine ⟨fun σ H' => σ = [some (.ref d), some (.ref l), none, none, none, none] ∧ Ext H H', ?_, ?_⟩
    · refine ⟨d, dx, _, rfl, hi, nof (by decide +kernel) (by decide +kernel) (by decide +kernel) (by decide +kernel) (by decide +kernel) (by decide +kernel), d, sz, ns, es, rfl, fa, h200, sz1, fun H1 x _ => ?_, fun H1 v x fv => absurd cl fv.toV.dirty⟩
      refine ⟨rfl, ifF (by rfl) ?_⟩
      exact ⟨d, l, sz, ns, es, st, ys, rfl, fa.mono x, x _ _ hl, Paired.mapP ps fun _ _ q => q.mono x, so, y200, fun H2 x2 => ifF (by rfl) ⟨rfl, x.trans x2⟩⟩
    rintro σ H1 ⟨rfl, x1⟩
    refine ⟨fun σ H' => σ = [some (.ref d), some (.ref l), some (.int 0), none, none, none] ∧ H' = H1, ⟨rfl, rfl⟩, ?_⟩
    rintro σ H2 ⟨rfl, rfl⟩
    refine ⟨l, rfl, ⟨_, SqL.of (x1 _ _ hl)⟩, for_list (K := K) (a := l) (xs := ys) (fun j σ H' => ∃ bf v3 v4 v5, σ = [some (.ref d), some (.ref l), some (.int bf), v3, v4, v5] ∧ Ext H H' ∧ 0 ≤ bf ∧ (st.drop j = [] ∨ GoodS (wins sz ns es) es.length bf (st.drop j))) ⟨0, _, _, _, rfl, x1, Int.le_refl _, .inr so.gd⟩ ?_ ?_ ?_⟩
    · rintro j σ G _ ⟨_, _, _, _, rfl, x, _⟩; exact SqL.of (x _ _ hl)
    · rintro j y σ G hy ⟨bf, v3, v4, v5, rfl, xG, b0, gd⟩
      obtain ⟨s, hs, t, rfl, ht0⟩ := pAt ps hy
      obtain ⟨lj, ej⟩ := List.getElem?_eq_some_iff.mp hs
      have dr : st.drop j = s :: st.drop (j + 1) := by rw [List.drop_eq_getElem_cons lj, ej]
      rw [dr] at gd
      have gd := gd.resolve_left (fun z => nomatch z)
      obtain ⟨g1, g2, g3⟩ := goodS_head (b := s.1) (s := s.2) gd
      have ht := xG _ _ ht0
      refine ⟨t, _, rfl, SqT.of ht, rfl, _, _, rfl, _, _, rfl, rfl, ?_⟩
      refine ⟨fun σ H' => ∃ v, σ = [some (.ref d), some (.ref l), some (.int bf), some (.int s.1), some (.int s.2), some v] ∧ Ext H H' ∧ (v = .non ∨ ∃ m, v = .int m ∧ s.2 ≤ m), ?_, ?_⟩
      · refine ⟨d, dx, _, rfl, xG _ _ hi, nof (by decide +kernel) (by decide +kernel) (by decide +kernel) (by decide +kernel) (by decide +kernel) (by decide +kernel), d, sz, ns, es, s.1, rfl, fa.mono xG, h12, h200, fun G1 w us x2 hw pw => ?_⟩
        refine ⟨w, us, wins sz ns es s.1, bf, rfl, hw, pw, by unfold wins; rw [List.length_map]; exact h12, fun G2 x3 => ⟨fun _ => ⟨_, rfl, (xG.trans x2).trans x3, .inl rfl⟩, fun m hm hle => ⟨_, rfl, (xG.trans x2).trans x3, .inr ⟨m, rfl, g2 m (lslot_some.mpr ⟨hm, hle⟩)⟩⟩⟩⟩
      rintro σ G1 ⟨v, rfl, x2, rfl | ⟨m, rfl, le⟩⟩
      · refine ⟨rfl, ifF (by rfl) ?_⟩
        exact ⟨s.2, _, _, _, rfl, x2, by omega, g3⟩
      · refine ⟨rfl, ifT (by rfl) ?_⟩
        exact ifD (p := m < s.2) (fun h => absurd h (by omega)) (fun _ => ⟨s.2, _, _, _, rfl, x2, by omega, g3⟩)
    · rintro σ G ⟨_, _, _, _, rfl, xG, _⟩
      exact k _ xG
theorem ok_two (T : Tf mg) (L : FactC K C) {fS : Addr} {dS : FuncData} (mS : Meth K C "last_slot" fS) (F_slot : FnOk P w K mg base C8.CX0 1 fS dS ["self"] (spLastSlot C)) (bS : Binds K dS ["self"] [])
    (D : Dx K mg "shows_two" s_shows_two ["facts", "kind", "early", "late"]) (c_is_index : Cal P w K mg base 2 "is_index" spIndex []) : Cal P w K mg base 3 "shows_two" (spTwo C) [] := by
  refine cal_of D sc_shows_two (fun vs H Q E h => ?_) (fun f cdv A o s H vs Q E hr h => ?_)
  · obtain ⟨d, sz, ns, es, k, i, j, e, f, rfl, _⟩ := h; rfl
  · obtain ⟨d, sz, ns, es, kn, i, j, e, f', rfl, fa, lt, he, hf, kf, k⟩ := h
    obtain ⟨dx, a, l, lb, hd, od, g, q, xs, hi, hl, el, fd, ha, hlb, hg⟩ := id fa
    refine ⟨_, (C8.pss_cut (ps_set (i := 4) sc_shows_two.nd rfl (Or.inl rfl) (pe_meth0 (mv 0) L.cl mS F_slot (hr.mono (by decide)) bS .nil ps0))
    (C8.pss_cut (ps_if (PW.pt (pw_or (pt_not (qv (pe_c c_is_index hr (by decide) rfl (pa_cons (mv 2) (pa_cons (mv 4) pa_nil))))) (pw_or (pt_not (qv (pe_c c_is_index hr (by decide) rfl (pa_cons (mv 3) (pa_cons (mv 4) pa_nil))))) (pw_or1 (qt m_ge (mv 2) (mv 3) (nomark _)))))) (pss_one (ps_ret pe_bl)) pss_nil)
    (C8.pss_cut (ps_asg (pe_ix m_ix (pe_fld (mv 0) rfl) (mv 2) (fun _ _ => rfl)) (pg_tup rfl (pgs_cons (pg_name (i := 5) sc_shows_two.nd rfl (Or.inl rfl)) (pgs_cons (pg_name (i := 6) sc_shows_two.nd rfl (Or.inl rfl)) pgs_nil))))
    (C8.pss_cut (ps_asg (pe_ix m_ix (pe_fld (mv 0) rfl) (mv 3) (fun _ _ => rfl)) (pg_tup rfl (pgs_cons (pg_name (i := 7) sc_shows_two.nd rfl (Or.inl rfl)) (pgs_cons (pg_name (i := 8) sc_shows_two.nd rfl (Or.inl rfl)) pgs_nil))))
    (pss_cons (ps_if (qt m_eq (mv 1) (pe_gc rfl T.g_TWICE) (nomark _)) (pss_one (ps_ret (pe_cmpR m_eq (mv 6) (mv 8) (nomark _)))) pss_nil)
    (pss_cons (ps_if (qt m_eq (mv 1) (pe_gc rfl T.g_SHARED) (nomark _)) (pss_one (ps_ret (pe_and (pe_cmpR m_ne (mv 5) (mv 7) (nomark _)) (pe_one (pe_cmpR m_eq (pe_ix m_ix (pe_fld (mv 0) rfl) (mv 2) (fun _ _ => rfl)) (pe_ix m_ix (pe_fld (mv 0) rfl) (mv 3) (fun _ _ => rfl)) (nomark _)))))) pss_nil)
    (pss_one (ps_ret (pe_and (pe_cmpR m_eq (mv 1) (pe_gc rfl T.g_BACK) (nomark _)) (pe_and (pe_cmpR m_eq (mv 5) (mv 7) (nomark _)) (pe_one (pe_cmpR m_gt (mv 6) (mv 8) (nomark _))))))))))))), ?_⟩
    have hje := (List.getElem?_eq_some_iff.mp hf).1
    have no : (fF a l lb hd od g).lookup ("last_slot" : Str) = none := fF_no _ _ _ _ _ _ (by decide +kernel) (by decide +kernel) (by decide +kernel) (by decide +kernel) (by decide +kernel) (by decide +kernel)
    refine ⟨fun σ H' => σ = [some (.ref d), some (.str kn), some (.int (i : Nat)), some (.int (j : Nat)), some (.int (es.length : Nat)), none, none, none, none] ∧ H' = H, ?_, ?_⟩
    · exact ⟨d, dx, _, rfl, hi, no, d, sz, ns, es, rfl, fa, rfl, rfl⟩
    rintro σ G ⟨rfl, rfl⟩
    refine ⟨fun σ H' => σ = [some (.ref d), some (.str kn), some (.int (i : Nat)), some (.int (j : Nat)), some (.int (es.length : Nat)), none, none, none, none] ∧ H' = G, ?_, ?_⟩
    · refine ⟨_, _, rfl, by omega, by omega, ifF (by rfl) ⟨_, _, rfl, by omega, by omega, ifF (by rfl) ?_⟩⟩
      exact ifD (p := ((j : Nat) : Int) ≤ (i : Nat)) (fun h => absurd h (by omega)) (fun _ => ⟨rfl, rfl⟩)
    rintro σ H1 ⟨rfl, rfl⟩
    obtain ⟨v1, hv1, t1, rfl, ht1⟩ := pGet (R := EntAt H1) el he
    obtain ⟨v2, hv2, t2, rfl, ht2⟩ := pGet (R := EntAt H1) el hf
    refine ⟨fun σ H' => σ = [some (.ref d), some (.str kn), some (.int (i : Nat)), some (.int (j : Nat)), some (.int (es.length : Nat)), some (.str e.1), some (.int e.2), none, none] ∧ H' = H1, ?_, ?_⟩
    · exact ⟨d, C, dx, _, _, rfl, hi, L.cl, L.nE, fF_ent _ _ _ _ _ _, _, .ref t1, .inl (SqL.of hl), atI_nat (j := i) hv1, t1, _, rfl, SqT.of ht1, rfl, _, _, rfl, _, _, rfl, rfl, rfl, rfl⟩
    rintro σ H2 ⟨rfl, rfl⟩
    refine ⟨fun σ H' => σ = [some (.ref d), some (.str kn), some (.int (i : Nat)), some (.int (j : Nat)), some (.int (es.length : Nat)), some (.str e.1), some (.int e.2), some (.str f'.1), some (.int f'.2)] ∧ H' = H2, ?_, ?_⟩
    · exact ⟨d, C, dx, _, _, rfl, hi, L.cl, L.nE, fF_ent _ _ _ _ _ _, _, .ref t2, .inl (SqL.of hl), atI_nat (j := j) hv2, t2, _, rfl, SqT.of ht2, rfl, _, _, rfl, _, _, rfl, rfl, rfl, rfl⟩
    rintro σ H3 ⟨rfl, rfl⟩
    rcases kf with ⟨rfl, h⟩ | ⟨rfl, h1, h2⟩ | ⟨rfl, h1, h2⟩
    · show Q (.bl (decide (e.2 = f'.2))) H3
      rw [decide_eq_true h]; exact k
    · refine ⟨_, rfl, ?_⟩
      rw [decide_eq_false h1]
      refine ifT (by rfl) ?_
      have b1 : ((es.map fun e => e.2 / sz).map V.int)[i]? = some (.int (e.2 / sz)) := by rw [List.getElem?_map, List.getElem?_map, he]; rfl
      have b2 : ((es.map fun e => e.2 / sz).map V.int)[j]? = some (.int (f'.2 / sz)) := by rw [List.getElem?_map, List.getElem?_map, hf]; rfl
      refine ⟨d, C, dx, _, _, rfl, hi, L.cl, L.nB, fF_blk _ _ _ _ _ _, _, .int (e.2 / sz), .inl (SqL.of hlb), atI_nat (j := i) b1, d, C, dx, _, _, rfl, hi, L.cl, L.nB, fF_blk _ _ _ _ _ _, _, .int (f'.2 / sz), .inl (SqL.of hlb), atI_nat (j := j) b2, ?_⟩
      show Q (.bl (decide (e.2 / sz = f'.2 / sz))) H3
      rw [decide_eq_true h2]; exact k
    · refine ⟨_, rfl, ?_⟩
      rw [decide_eq_true rfl]
      refine ifT (by rfl) ?_
      refine ⟨_, rfl, ?_⟩
      rw [decide_eq_true h1]
      refine ifT (by rfl) ?_
      show Q (.bl (decide (f'.2 < e.2))) H3
      rw [decide_eq_true h2]; exact k
theorem ok_shows (T : Tf mg) (D : Dx K mg "shows_obstacle" s_shows_obstacle ["log", "thing"]) (c_facts_of : Cal P w K mg base 3 "facts_of" (spFactsOf K cL cX A0 cF) []) (c_shows_two : Cal P w K mg base 3 "shows_two" (spTwo cF) []) (c_shows_steps : Cal P w K mg base 4 "shows_steps" (spSteps cF) []) : Cal P w K mg base 5 "shows_obstacle" (spShows K cL cX A0) [] := by
  refine cal_of D sc_shows_obstacle (fun vs H Q E h => ?_) (fun f cdv A o s H vs Q E hr h => ?_)
  · obtain ⟨p, C, kd, sz, ns, es, v, rfl, _⟩ := h; rfl
  · obtain ⟨p, C, kd, sz, ns, es, v, rfl, lg, M, so, cr, ok, h60, fv, k⟩ := h
    refine ⟨_, (pss_cons (ps_if (PW.pt (pw_or (pt_not (qv (pe_callB call_isi (by rfl) T.n_isinstance (by decide +kernel) (pa_cons (mv 1) (pa_cons (pe_bltn (v := .ty "tuple") (u := .type "tuple") (by rfl) T.n_tuple (by decide +kernel) rfl) pa_nil))))) (pw_or (qt m_lt (pe_callB call_len (by rfl) T.n_len (by decide +kernel) (pa_cons (mv 1) pa_nil)) pe_int (nomark _)) (pw_or1 (pt_not (qv (pe_callB call_isi (by rfl) T.n_isinstance (by decide +kernel) (pa_cons (pe_ix m_ix (mv 1) pe_int (fun _ _ => rfl)) (pa_cons (pe_bltn (v := .ty "str") (u := .type "str") (by rfl) T.n_str (by decide +kernel) rfl) pa_nil))))))))) (pss_one (ps_ret pe_bl)) pss_nil)
    (C8.pss_cut (ps_set (i := 2) sc_shows_obstacle.nd rfl (Or.inl rfl) (pe_c c_facts_of hr (by decide) rfl (pa_cons (mv 0) pa_nil)))
    (pss_cons (ps_if (qt m_eq (pe_ix m_ix (mv 1) pe_int (fun _ _ => rfl)) (pe_gc rfl T.g_PUSHED) (nomark _)) (pss_one (ps_ret (pe_and (pe_cmpR m_eq (pe_callB call_len (by rfl) T.n_len (by decide +kernel) (pa_cons (mv 1) pa_nil)) pe_int (nomark _)) (pe_one (pe_c c_shows_steps hr (by decide) rfl (pa_cons (mv 2) (pa_cons (pe_ix m_ix (mv 1) pe_int (fun _ _ => rfl)) pa_nil))))))) pss_nil)
    (pss_one (ps_ret (pe_and (pe_cmpR m_eq (pe_callB call_len (by rfl) T.n_len (by decide +kernel) (pa_cons (mv 1) pa_nil)) pe_int (nomark _)) (pe_one (pe_c c_shows_two hr (by decide) rfl (pa_cons (mv 2) (pa_cons (pe_ix m_ix (mv 1) pe_int (fun _ _ => rfl)) (pa_cons (pe_ix m_ix (mv 1) pe_int (fun _ _ => rfl)) (pa_cons (pe_ix m_ix (mv 1) pe_int (fun _ _ => rfl)) pa_nil)))))))))))), ?_⟩
    rcases fv with fv | ⟨cl, bs, t, l, ys, sb, no, rfl, ht, hl, ps⟩
    · have fv := fv.toV
      obtain ⟨t, kn, i, j, e, f', rfl, ht, lt, he, hf, kf⟩ := fv
      have np : ¬ kn = "pushed" := by rcases kf with ⟨rfl, _⟩ | ⟨rfl, _⟩ | ⟨rfl, _⟩ <;> decide +kernel
      refine ⟨_, _, _, _, _, rfl, .ty _, .base (.tup ht), kt_tup_tup, ifF (by rfl) ?_⟩
      refine ⟨_, _, rfl, .inr ⟨_, SqT.of ht, rfl⟩, ?_⟩
      refine ⟨_, _, .inr (SqT.of ht), atI_nat (j := 0) rfl, ?_⟩
      refine ⟨_, _, _, _, _, rfl, .ty _, .base (.str kn), kt_str_str, ifF (by rfl) ?_⟩
      refine ⟨fun σ H' => ∃ d, σ = [some (.ref p), some (.ref t), some (.ref d)] ∧ FactsAt cF H' d sz ns es ∧ Ext H H', ?_, ?_⟩
      · exact ⟨p, C, kd, sz, ns, es, rfl, lg, M, so, cr, ok, fun H' d _ fa x => ⟨d, rfl, fa, x⟩⟩
      rintro σ H1 ⟨d, rfl, fa, x⟩
      have ht1 := x _ _ ht
      refine ⟨_, _, .inr (SqT.of ht1), atI_nat (j := 0) rfl, ?_⟩
      refine ifD (p := kn = "pushed") (fun h => absurd h np) (fun _ => ?_)
      refine ⟨_, _, rfl, .inr ⟨_, SqT.of ht1, rfl⟩, ?_⟩
      refine ⟨true, rfl, ?_⟩
      exact ⟨_, _, .inr (SqT.of ht1), atI_nat (j := 0) rfl, _, _, .inr (SqT.of ht1), atI_nat (j := 1) rfl, _, _, .inr (SqT.of ht1), atI_nat (j := 2) rfl, d, sz, ns, es, kn, i, j, e, f', rfl, fa, lt, he, hf, kf, k _ x⟩
    · have y200 : ys.length ≤ 200 := by
        rw [← pLen ps, ← List.length_map (f := fun s : Int × Int => s.1)]
        refine Nat.le_trans (push_sub _ _ _).length_le ?_
        rw [List.length_map]
        refine Nat.le_trans (rowsF_len _ _) ?_
        have := seenB_len sb
        omega
      refine ⟨_, _, _, _, _, rfl, .ty _, .base (.tup ht), kt_tup_tup, ifF (by rfl) ?_⟩
      refine ⟨_, _, rfl, .inr ⟨_, SqT.of ht, rfl⟩, ?_⟩
      refine ⟨_, _, .inr (SqT.of ht), atI_nat (j := 0) rfl, ?_⟩
      refine ⟨_, _, _, _, _, rfl, .ty _, .base (.str _), kt_str_str, ifF (by rfl) ?_⟩
      refine ⟨fun σ H' => ∃ d, σ = [some (.ref p), some (.ref t), some (.ref d)] ∧ FactsAt cF H' d sz ns es ∧ Ext H H', ?_, ?_⟩
      · exact ⟨p, C, kd, sz, ns, es, rfl, lg, M, so, cr, ok, fun H' d _ fa x => ⟨d, rfl, fa, x⟩⟩
      rintro σ H1 ⟨d, rfl, fa, x⟩
      have ht1 := x _ _ ht
      refine ⟨_, _, .inr (SqT.of ht1), atI_nat (j := 0) rfl, ?_⟩
      refine ⟨_, _, rfl, .inr ⟨_, SqT.of ht1, rfl⟩, ?_⟩
      refine ⟨true, rfl, ?_⟩
      exact ⟨_, _, .inr (SqT.of ht1), atI_nat (j := 1) rfl, d, l, sz, ns, es, _, ys, rfl, fa, x _ _ hl, Paired.mapP ps fun _ _ q => q.mono x, steps_ok sb ok so.1 no, y200, cl, cr.few, by omega, so, fun H2 x2 => k _ (x.trans x2)⟩
theorem ok_isFault (T : Blt mg) (c__law_clash : Cal P w K mg base 1 "_law_clash" spClash []) (D : Dx K mg "_law_is_fault" s__law_is_fault ["wide", "rows", "told"]) : Cal P w K mg base 2 "_law_is_fault" spIsFault [] := by
  refine cal_of D sc__law_is_fault (fun vs H Q E h => ?_) (fun f cdv A o s H vs Q E hr h => ?_)
  · obtain ⟨sz, l, ns, es, xs, v, rfl, _⟩ := h; rfl
  · obtain ⟨sz, l, ns, es, xs, v, rfl, so, ok, h60, hl, el, fv, k⟩ := h
    refine ⟨_, (pss_cons (ps_if (PW.pt (pw_or (pt_not (qv (pe_callB call_isi (by rfl) T.n_isinstance (by decide +kernel) (pa_cons (mv 2) (pa_cons (pe_bltn (v := .ty "tuple") (u := .type "tuple") (by rfl) T.n_tuple (by decide +kernel) rfl) pa_nil))))) (pw_or1 (pt_not (qv (pe_callB call_isi (by rfl) T.n_isinstance (by decide +kernel) (pa_cons (pe_ix m_ix (mv 2) pe_int (fun _ _ => rfl)) (pa_cons (pe_bltn (v := .ty "str") (u := .type "str") (by rfl) T.n_str (by decide +kernel) rfl) pa_nil)))))))) (pss_one (ps_ret pe_bl)) pss_nil)
    (pss_cons (ps_if (qt m_eq (pe_ix m_ix (mv 2) pe_int (fun _ _ => rfl)) pe_str (nomark _)) (pss_one (ps_ret (pe_and (pe_cmpR m_eq (pe_callB call_len (by rfl) T.n_len (by decide +kernel) (pa_cons (mv 2) pa_nil)) pe_int (nomark _)) (pe_one (pe_not (pe_c c__law_clash hr (by decide) rfl (pa_cons (mv 0) (pa_cons (mv 1) pa_nil)))))))) pss_nil)
    (pss_cons (ps_if (PW.pt (pw_or (qt m_ne (pe_callB call_len (by rfl) T.n_len (by decide +kernel) (pa_cons (mv 2) pa_nil)) pe_int (nomark _)) (pw_or1 (qt op_notIn_seq (pe_ix m_ix (mv 2) pe_int (fun _ _ => rfl)) (pe_lst (pa_cons pe_str (pa_cons pe_str (pa_cons pe_str pa_nil)))) (by rfl))))) (pss_one (ps_ret pe_bl)) pss_nil)
    (pss_cons (ps_if (pt_not (pt_chain3 m_le m_lt m_lt pe_int (pe_ix m_ix (mv 2) pe_int (fun _ _ => rfl)) (pe_ix m_ix (mv 2) pe_int (fun _ _ => rfl)) (pe_callB call_len (by rfl) T.n_len (by decide +kernel) (pa_cons (mv 1) pa_nil)))) (pss_one (ps_ret pe_bl)) pss_nil)
    (C8.pss_cut (ps_par (i := 3) (j := 4) rfl sc__law_is_fault.nd rfl rfl (by decide) rfl rfl (pa_cons (pe_ix m_ix (mv 1) (pe_ix m_ix (mv 2) pe_int (fun _ _ => rfl)) (fun _ _ => rfl)) (pa_cons (pe_ix m_ix (mv 1) (pe_ix m_ix (mv 2) pe_int (fun _ _ => rfl)) (fun _ _ => rfl)) pa_nil)) (by rfl))
    (pss_cons (ps_if (qt m_eq (pe_ix m_ix (mv 2) pe_int (fun _ _ => rfl)) pe_str (nomark _)) (pss_one (ps_ret (pe_cmpR m_eq (pe_ix m_ix (mv 3) pe_int (fun _ _ => rfl)) (pe_ix m_ix (mv 4) pe_int (fun _ _ => rfl)) (nomark _)))) pss_nil)
    (pss_cons (ps_if (qt m_eq (pe_ix m_ix (mv 2) pe_int (fun _ _ => rfl)) pe_str (nomark _)) (pss_one (ps_ret (pe_and (pe_cmpR m_eq (pe_op m_div (pe_ix m_ix (mv 3) pe_int (fun _ _ => rfl)) (mv 0)) (pe_op m_div (pe_ix m_ix (mv 4) pe_int (fun _ _ => rfl)) (mv 0)) (nomark _)) (pe_one (pe_cmpR m_ne (pe_ix m_ix (mv 3) pe_int (fun _ _ => rfl)) (pe_ix m_ix (mv 4) pe_int (fun _ _ => rfl)) (nomark _)))))) pss_nil)
    (pss_one (ps_ret (pe_and (pe_cmpR m_eq (pe_ix m_ix (mv 3) pe_int (fun _ _ => rfl)) (pe_ix m_ix (mv 4) pe_int (fun _ _ => rfl)) (nomark _)) (pe_one (pe_cmpR m_gt (pe_ix m_ix (mv 3) pe_int (fun _ _ => rfl)) (pe_ix m_ix (mv 4) pe_int (fun _ _ => rfl)) (nomark _))))))))))))), ?_⟩
    rcases fv with fv | ⟨cl, bs, t, ll, ys, sb, no, rfl, ht, hll, ps⟩
    rotate_left
    · refine ⟨_, _, _, _, _, rfl, .ty _, .base (.tup ht), kt_tup_tup, ifF (by rfl) ?_⟩
      refine ⟨_, _, .inr (SqT.of ht), atI_nat (j := 0) rfl, ?_⟩
      refine ⟨_, _, _, _, _, rfl, .ty _, .base (.str _), kt_str_str, ifF (by rfl) ?_⟩
      refine ⟨_, _, .inr (SqT.of ht), atI_nat (j := 0) rfl, ?_⟩
      refine ⟨_, _, rfl, .inr ⟨_, SqT.of ht, rfl⟩, ?_⟩
      refine ⟨true, rfl, ?_⟩
      exact ⟨sz, l, es, xs, rfl, hl, el, so, fun e he => (ok.ok e he).2, h60, fun H' x => ⟨fun _ => ⟨_, rfl, k _ x⟩, fun n => absurd cl n⟩⟩
    have fv := fv.toV
    obtain ⟨t, kn, i, j, e, f', rfl, ht, lt, he, hf, kf⟩ := fv
    have np : ¬ kn = "pushed" := by rcases kf with ⟨rfl, _⟩ | ⟨rfl, _⟩ | ⟨rfl, _⟩ <;> decide +kernel
    have hje := (List.getElem?_eq_some_iff.mp hf).1
    have xl := el.len
    refine ⟨_, _, _, _, _, rfl, .ty _, .base (.tup ht), kt_tup_tup, ifF (by rfl) ?_⟩
    refine ⟨_, _, .inr (SqT.of ht), atI_nat (j := 0) rfl, ?_⟩
    refine ⟨_, _, _, _, _, rfl, .ty _, .base (.str kn), kt_str_str, ifF (by rfl) ?_⟩
    refine ⟨_, _, .inr (SqT.of ht), atI_nat (j := 0) rfl, ?_⟩
    refine ifD (p := kn = "pushed") (fun h => absurd h np) (fun _ => ?_)
    refine ⟨_, _, rfl, .inr ⟨_, SqT.of ht, rfl⟩, ?_⟩
    refine ⟨_, _, .inr (SqT.of ht), atI_nat (j := 0) rfl, (by show 3 ≤ sizeLine; decide), fun t3 nt3 => ?_⟩
    have x := Ext.upd (o := .lst [.str "twice", .str "shared", .str "back"]) nt3
    have inl : inV (.str kn) [.str "twice", .str "shared", .str "back"] = true := by rcases kf with ⟨rfl, _⟩ | ⟨rfl, _⟩ | ⟨rfl, _⟩ <;> decide +kernel
    refine ⟨t3, _, rfl, .inl (SqL.of upd_same), rfl, rfl, ?_⟩
    show (if (!inV (.str kn) [.str "twice", .str "shared", .str "back"]) = true then _ else _)
    rw [inl]
    refine ifF (by rfl) ?_
    have ht1 := x _ _ ht
    have hl1 := x _ _ hl
    have el1 := el.mono x
    generalize upd H t3 (.lst [.str "twice", .str "shared", .str "back"]) = H1 at x ht1 hl1 el1 ⊢
    refine ⟨_, _, .inr (SqT.of ht1), atI_nat (j := 1) rfl, _, rfl, ?_⟩
    rw [decide_eq_true (show (0 : Int) ≤ (i : Nat) by omega)]
    refine ifT (by rfl) ?_
    refine ⟨_, _, .inr (SqT.of ht1), atI_nat (j := 2) rfl, _, rfl, ?_⟩
    rw [decide_eq_true (show ((i : Nat) : Int) < (j : Nat) by omega)]
    refine ifT (by rfl) ?_
    refine ⟨_, _, rfl, .inl ⟨_, SqL.of hl1, rfl⟩, ?_⟩
    refine ⟨_, rfl, ?_⟩
    rw [decide_eq_true (show ((j : Nat) : Int) < (xs.length : Int) by omega)]
    refine ifF (by rfl) ?_
    obtain ⟨v1, hv1, t1, rfl, ht1'⟩ := pGet (R := EntAt H1) el1 he
    obtain ⟨v2, hv2, t2, rfl, ht2'⟩ := pGet (R := EntAt H1) el1 hf
    refine ⟨fun σ H' => σ = [some (.int sz), some (.ref l), some (.ref t), some (.ref t1), some (.ref t2)] ∧ H' = H1, ?_, ?_⟩
    · exact ⟨_, _, .inr (SqT.of ht1), atI_nat (j := 1) rfl, _, .ref t1, .inl (SqL.of hl1), atI_nat (j := i) hv1, _, _, .inr (SqT.of ht1), atI_nat (j := 2) rfl, _, .ref t2, .inl (SqL.of hl1), atI_nat (j := j) hv2, _, _, rfl, rfl, rfl⟩
    rintro σ H2 ⟨rfl, rfl⟩
    have g1 := SqT.of (K := K) ht1'
    have g2 := SqT.of (K := K) ht2'
    refine ⟨_, _, .inr (SqT.of ht1), atI_nat (j := 0) rfl, ?_⟩
    rcases kf with ⟨rfl, h⟩ | ⟨rfl, h1, h2⟩ | ⟨rfl, h1, h2⟩
    · refine ⟨_, _, .inr g1, atI_nat (j := 1) rfl, _, _, .inr g2, atI_nat (j := 1) rfl, ?_⟩
      show Q (.bl (decide (e.2 = f'.2))) _
      rw [decide_eq_true h]; exact k _ x
    · refine ⟨_, _, .inr (SqT.of ht1), atI_nat (j := 0) rfl, ?_⟩
      refine ⟨_, _, .inr g1, atI_nat (j := 1) rfl, cdv_size _ so, _, _, .inr g2, atI_nat (j := 1) rfl, cdv_size _ so, ?_⟩
      refine ⟨_, rfl, ?_⟩
      rw [decide_eq_true h2]
      refine ifT (by rfl) ?_
      refine ⟨_, _, .inr g1, atI_nat (j := 0) rfl, _, _, .inr g2, atI_nat (j := 0) rfl, ?_⟩
      show Q (.bl (!decide (e.1 = f'.1))) _
      rw [decide_eq_false h1]; exact k _ x
    · refine ⟨_, _, .inr (SqT.of ht1), atI_nat (j := 0) rfl, ?_⟩
      refine ⟨_, _, .inr g1, atI_nat (j := 0) rfl, _, _, .inr g2, atI_nat (j := 0) rfl, _, rfl, ?_⟩
      rw [decide_eq_true h1]
      refine ifT (by rfl) ?_
      refine ⟨_, _, .inr g1, atI_nat (j := 1) rfl, _, _, .inr g2, atI_nat (j := 1) rfl, ?_⟩
      show Q (.bl (decide (f'.2 < e.2))) _
      rw [decide_eq_true h2]; exact k _ x
end
end NB

set_option Elab.async false
set_option linter.all false
set_option maxRecDepth 100000
set_option maxHeartbeats 4000000
/-! K5a (k52): three servers with one block each, in plain Lean -/
namespace NB
open PySem PySem.Spec L2
theorem cand_has {s lo hi : Int} : ∀ {ws : List Win}, some (lo, hi) ∈ ws → mx s lo ≤ hi → mx s lo ∈ cand s ws
  | none :: ws, h, l => by
    rcases List.mem_cons.mp h with h | h
    · cases h
    · exact cand_has (ws := ws) h l
  | some (a, b) :: ws, h, l => by
    show mx s lo ∈ (if mx s a ≤ b then mx s a :: cand s ws else cand s ws)
    rcases List.mem_cons.mp h with h | h
    · have h := Option.some.inj h
      obtain ⟨rfl, rfl⟩ := Prod.mk.inj h
      rw [if_pos l]; exact List.mem_cons_self
    · have := cand_has (ws := ws) h l
      split
      · exact List.mem_cons_of_mem _ this
      · exact this
/-- a window from the first slot on in each row: the walk stays at the first slot -/
theorem thru_zero : ∀ {rs : List Row}, (∀ r ∈ rs, ∃ hi, some ((0 : Int), hi) ∈ r.2.2 ∧ 0 ≤ hi) → Thru 0 rs
  | [], _ => Thru.nil 0
  | r :: rs, h => by
    obtain ⟨hi, h1, h2⟩ := h r List.mem_cons_self
    have m0 : mx 0 0 = 0 := by decide
    have c0 : (0 : Int) ∈ cand 0 r.2.2 := by
      have := cand_has (s := 0) h1 (by rw [m0]; exact h2)
      rwa [m0] at this
    exact thru_cons.mpr ⟨0, lslot_some.mpr ⟨c0, fun y hy => cand_ge y hy⟩, thru_zero fun r' hr => h r' (List.mem_cons_of_mem _ hr)⟩
theorem thru_mem : ∀ {rs : List Row} {s : Int}, Thru s rs → ∀ r ∈ rs, ∃ m lo hi, some (lo, hi) ∈ r.2.2 ∧ m ≤ hi ∧ s ≤ m
  | [], _, _, r, h => nomatch h
  | r0 :: rs, s, t, r, h => by
    obtain ⟨m, h1, h2⟩ := thru_cons.mp t
    rcases List.mem_cons.mp h with rfl | h
    · obtain ⟨lo, hi, q1, q2, q3⟩ := cand_in m (lslot_some.mp h1).1
      exact ⟨m, lo, hi, q1, q3, lslot_ge h1⟩
    · obtain ⟨m', lo, hi, q1, q2, q3⟩ := thru_mem h2 r h
      exact ⟨m', lo, hi, q1, q2, Int.le_trans (lslot_ge h1) q3⟩
/-- a row behind all slots of a later one -/
theorem thru_not {x : Int} {r1 r2 : Row} (h1 : ∀ lo hi, some (lo, hi) ∈ r1.2.2 → x ≤ lo) (h2 : ∀ lo hi, some (lo, hi) ∈ r2.2.2 → hi < x) : ∀ {A : List Row} {T : List Row} {s : Int}, r2 ∈ T → ¬ Thru s (A ++ r1 :: T)
  | [], T, s, m, t => by
    obtain ⟨m1, q1, q2⟩ := thru_cons.mp t
    obtain ⟨lo, hi, a1, a2, a3⟩ := cand_in m1 (lslot_some.mp q1).1
    obtain ⟨m2, lo2, hi2, b1, b2, b3⟩ := thru_mem q2 r2 m
    have := h1 lo hi a1
    have := h2 lo2 hi2 b1
    omega
  | r :: A, T, s, m, t => by
    obtain ⟨m1, _, q2⟩ := thru_cons.mp t
    exact thru_not h1 h2 m q2
section
variable {sz : Int} {ns : List Str} {es : List (Str × Int)}
theorem rowsF_mem : ∀ (bs : List Int) (nb b : Int), b ∈ bs → (b, b, wins sz ns es b) ∈ rowsF sz ns es nb bs
  | c :: bs, nb, b, h => by
    unfold rowsF
    refine List.mem_append_right _ ?_
    rcases List.mem_cons.mp h with rfl | h
    · exact List.mem_cons_self
    · exact List.mem_cons_of_mem _ (rowsF_mem bs (c + 1) b h)
theorem only {j : Nat} {e : Str × Int} (c : Clean sz es) (he : es[j]? = some e) : ∀ z ∈ hol sz es (e.2 / sz), z = e.1 := fun z hz => by
  obtain ⟨i, f, h1, h2, h3⟩ := hol_mem.mp hz
  rw [← h2]
  exact c.same i j f e h1 he h3
/-- each server has one block -/
theorem one_block (c : Clean sz es) (ok : EntsOk ns es) (so : 1 ≤ sz) (one : ∀ e ∈ es, ∀ f ∈ es, e.1 = f.1 → e.2 / sz = f.2 / sz) {bs : List Int} (sb : SeenB sz es bs) : Thru 0 (rowsF sz ns es 0 bs) := by
  refine thru_zero fun r hr => ?_
  obtain ⟨_, h2, ⟨b, hb, h3⟩, h4⟩ := (rowsF_first bs 0 sb.srt (sb.nn ok so)).1 r hr
  have up : ∃ (j : Nat) (e : Str × Int), es[j]? = some e ∧ r.1 ≤ e.2 / sz ∧ ∀ z ∈ hol sz es r.1, z = e.1 := by
    by_cases q : hol sz es r.1 = []
    · obtain ⟨z, hz⟩ := List.exists_mem_of_ne_nil _ ((sb.mem b).mp hb)
      obtain ⟨j, e, a1, a2, a3⟩ := hol_mem.mp hz
      exact ⟨j, e, a1, by omega, fun z hz => by rw [q] at hz; cases hz⟩
    · obtain ⟨z, hz⟩ := List.exists_mem_of_ne_nil _ q
      obtain ⟨j, e, a1, a2, a3⟩ := hol_mem.mp hz
      refine ⟨j, e, a1, by omega, ?_⟩
      rw [← a3]
      exact only c a1
  obtain ⟨j, e, a1, a2, a3⟩ := up
  have me := List.mem_of_getElem? a1
  have no : lows sz e.1 r.1 es = [] := by
    refine List.eq_nil_iff_forall_not_mem.mpr fun y hy => ?_
    obtain ⟨p, hp, _⟩ := List.mem_map.mp hy
    obtain ⟨p1, p2⟩ := List.mem_filter.mp hp
    obtain ⟨i, f, _, f2, f3, f4⟩ := ownL_at sz e.1 es 0 p p1
    have p2 := of_decide_eq_true p2
    have := one f (List.mem_of_getElem? f2) e me f3
    omega
  refine ⟨highW sz e.1 r.1 es.length 0 es es.length, ?_, (high_bd sz e.1 r.1 es).1⟩
  rw [h4]
  refine List.mem_map.mpr ⟨e.1, (ok.ok e me).1, ?_⟩
  unfold win
  rw [if_neg, low_nil no]
  intro q
  obtain ⟨y, hy, hn⟩ := List.any_eq_true.mp q
  exact of_decide_eq_true hn (a3 y hy)
/-- a block behind an entry, before one that is held from earlier on -/
theorem push_no (c : Clean sz es) (ok : EntsOk ns es) (so : 1 ≤ sz) {j j1 j2 : Nat} {e e1 e2 : Str × Int} (he : es[j]? = some e) (h1 : es[j1]? = some e1) (h2 : es[j2]? = some e2) (en : e1.1 = e.1) (lt1 : e1.2 / sz < e.2 / sz) (lt2 : e.2 / sz < e2.2 / sz) (le : j2 ≤ j1) {bs : List Int} (sb : SeenB sz es bs) : ¬ Thru 0 (rowsF sz ns es 0 bs) := by
  have mem : ∀ {j : Nat} {e : Str × Int}, es[j]? = some e → e.2 / sz ∈ bs := fun {j e} h => (sb.mem _).mpr fun q => by
    have : e.1 ∈ hol sz es (e.2 / sz) := hol_mem.mpr ⟨j, e, h, rfl, rfl⟩
    rw [q] at this; cases this
  have pw := (rowsF_first (sz := sz) (ns := ns) (es := es) bs 0 sb.srt (sb.nn ok so)).2
  have m1 := rowsF_mem (sz := sz) (ns := ns) (es := es) bs 0 _ (mem he)
  have m2 := rowsF_mem (sz := sz) (ns := ns) (es := es) bs 0 _ (mem h2)
  have mine : ∀ {j : Nat} {e : Str × Int} {lo hi : Int}, es[j]? = some e → some (lo, hi) ∈ wins sz ns es (e.2 / sz) → lo = lowW sz e.1 (e.2 / sz) 0 es 0 ∧ hi = highW sz e.1 (e.2 / sz) es.length 0 es es.length := fun {j e lo hi} he h => by
    obtain ⟨z, _, hz⟩ := List.mem_map.mp h
    unfold win at hz
    split at hz
    · cases hz
    · rename_i ng
      have ez : z = e.1 := by
        by_cases q : z = e.1
        · exact q
        · exact absurd (List.any_eq_true.mpr ⟨e.1, hol_mem.mpr ⟨_, e, he, rfl, rfl⟩, decide_eq_true (Ne.symm q)⟩) ng
      subst ez
      obtain ⟨q1, q2⟩ := Prod.mk.inj (Option.some.inj hz)
      exact ⟨q1.symm, q2.symm⟩
  obtain ⟨A, T, eAT⟩ := List.append_of_mem m1
  rw [eAT] at m2 pw ⊢
  refine thru_not (x := (j1 : Int) + 1) (r2 := (e2.2 / sz, e2.2 / sz, wins sz ns es (e2.2 / sz))) (fun lo hi h => ?_) (fun lo hi h => ?_) ?_
  · have q := (mine he h).1
    have im : ((j1 : Int) + 1) ∈ lows sz e.1 (e.2 / sz) es := by
      refine List.mem_map.mpr ⟨(0 + j1, e1.2 / sz), List.mem_filter.mpr ⟨ownL_mem sz e.1 es 0 j1 e1 h1 en, decide_eq_true lt1⟩, ?_⟩
      show ((0 + j1 : Nat) : Int) + 1 = (j1 : Int) + 1
      rw [Nat.zero_add]
    rcases low_is sz e.1 (e.2 / sz) es with ⟨n, _⟩ | ⟨_, g⟩
    · rw [n] at im; cases im
    · rw [q]; exact g _ im
  · have q := (mine h2 h).2
    have im : (j2 : Int) ∈ highs sz e2.1 (e2.2 / sz) es := by
      refine List.mem_map.mpr ⟨(0 + j2, e2.2 / sz), List.mem_filter.mpr ⟨ownL_mem sz e2.1 es 0 j2 e2 h2 rfl, decide_eq_true (Int.le_refl _)⟩, ?_⟩
      show ((0 + j2 : Nat) : Int) = (j2 : Int)
      rw [Nat.zero_add]
    rcases high_is sz e2.1 (e2.2 / sz) es.length es (Int.le_refl _) with ⟨n, _⟩ | ⟨_, g⟩
    · rw [n] at im; cases im
    · have := g _ im
      rw [q]; omega
  · rcases List.mem_append.mp m2 with m | m
    · rw [List.map_append, List.pairwise_append] at pw
      have := pw.2.2 _ (List.mem_map.mpr ⟨_, m, rfl⟩) _ (List.mem_map.mpr ⟨_, List.mem_cons_self, rfl⟩)
      have : e2.2 / sz < e.2 / sz := this
      omega
    · rcases List.mem_cons.mp m with m | m
      · have := (Prod.mk.inj m).1
        omega
      · exact m
theorem clean_snoc {f : Str × Int} (c : Clean sz es) (h1 : ∀ e ∈ es, e.2 / sz = f.2 / sz → e.1 = f.1) (h2 : ∀ e ∈ es, e.1 = f.1 → e.2 < f.2) : Clean sz (es ++ [f]) := by
  have at_ : ∀ {i : Nat} {e : Str × Int}, (es ++ [f])[i]? = some e → (i < es.length ∧ es[i]? = some e) ∨ (i = es.length ∧ e = f) := fun {i e} h => by
    rcases Nat.lt_or_ge i es.length with l | l
    · rw [List.getElem?_append_left l] at h; exact .inl ⟨l, h⟩
    · rw [List.getElem?_append_right l] at h
      have := (List.getElem?_eq_some_iff.mp h).1
      rw [List.length_singleton] at this
      have e0 : i = es.length := by omega
      rw [e0, Nat.sub_self] at h
      exact .inr ⟨e0, (Option.some.inj h).symm⟩
  refine ⟨fun i j e g l hi hj => ?_, fun i j e g hi hj => ?_, fun i j e g l hi hj => ?_⟩
  · rcases at_ hi with ⟨l1, q1⟩ | ⟨l1, rfl⟩ <;> rcases at_ hj with ⟨l2, q2⟩ | ⟨l2, rfl⟩
    · exact c.num i j e g l q1 q2
    · intro z
      have m := List.mem_of_getElem? q1
      have := h2 e m (h1 e m (by rw [z]))
      omega
    · omega
    · omega
  · rcases at_ hi with ⟨l1, q1⟩ | ⟨l1, rfl⟩ <;> rcases at_ hj with ⟨l2, q2⟩ | ⟨l2, rfl⟩
    · exact c.same i j e g q1 q2
    · exact h1 e (List.mem_of_getElem? q1)
    · exact fun z => (h1 g (List.mem_of_getElem? q2) z.symm).symm
    · exact fun _ => rfl
  · rcases at_ hi with ⟨l1, q1⟩ | ⟨l1, rfl⟩ <;> rcases at_ hj with ⟨l2, q2⟩ | ⟨l2, rfl⟩
    · exact c.D i j e g l q1 q2
    · exact h2 e (List.mem_of_getElem? q1)
    · omega
    · omega
end
theorem div_is {sz b x : Int} (so : 1 ≤ sz) (h1 : b * sz ≤ x) (h2 : x < b * sz + sz) : x / sz = b := by
  have a1 : b ≤ x / sz := (Int.le_ediv_iff_mul_le (by omega)).mpr h1
  have a2 : x / sz < b + 1 := Int.ediv_lt_of_lt_mul (by omega) (by rw [Int.add_mul, Int.one_mul]; exact h2)
  omega
/-! ### the law's servers -/
def nm3 : Nat → Str | 0 => "ann" | 1 => "bob" | _ => "cy"
def bl3 : Nat → Int | 0 => 0 | 1 => 2 | _ => 5
def ns3 : List Str := ["ann", "bob", "cy"]
theorem nm3_inj : ∀ {i j : Nat}, i < 3 → j < 3 → nm3 i = nm3 j → i = j := by
  intro i j hi hj
  have h1 : i = 0 ∨ i = 1 ∨ i = 2 := by omega
  have h2 : j = 0 ∨ j = 1 ∨ j = 2 := by omega
  rcases h1 with rfl | rfl | rfl <;> rcases h2 with rfl | rfl | rfl <;> first | (intro _; rfl) | (intro h; exact absurd h (by decide +kernel))
theorem bl3_inj : ∀ {i j : Nat}, i < 3 → j < 3 → bl3 i = bl3 j → i = j := by
  intro i j hi hj
  have h1 : i = 0 ∨ i = 1 ∨ i = 2 := by omega
  have h2 : j = 0 ∨ j = 1 ∨ j = 2 := by omega
  rcases h1 with rfl | rfl | rfl <;> rcases h2 with rfl | rfl | rfl <;> first | (intro _; rfl) | (intro h; exact absurd h (by decide))
theorem bl3_bd {i : Nat} (h : i < 3) : 0 ≤ bl3 i ∧ bl3 i ≤ 5 := by
  have h1 : i = 0 ∨ i = 1 ∨ i = 2 := by omega
  rcases h1 with rfl | rfl | rfl <;> decide
theorem nm3_mem {i : Nat} (h : i < 3) : nm3 i ∈ ns3 := by
  have h1 : i = 0 ∨ i = 1 ∨ i = 2 := by omega
  rcases h1 with rfl | rfl | rfl <;> decide +kernel
theorem crew3 : CrewOk ns3 := ⟨by decide, by decide, by decide +kernel, by decide +kernel⟩
/-- entries of three servers, each of one block -/
structure Tri (sz : Int) (ps : Nat → Int) (es : List (Str × Int)) : Prop where
  own : ∀ e ∈ es, ∃ k, k < 3 ∧ e.1 = nm3 k ∧ bl3 k * sz ≤ e.2 ∧ e.2 < bl3 k * sz + ps k
  cl : Clean sz es
  hd : ∀ j, j < 6 → j < es.length → ∃ e, es[j]? = some e ∧ e.1 = nm3 (j % 3)
theorem Tri.nil (sz : Int) : Tri sz (fun _ => 0) [] := ⟨(fun _ h => nomatch h), ⟨(fun i j e f _ h => by simp at h), (fun i j e f h => by simp at h), (fun i j e f _ h => by simp at h)⟩, (fun j _ h => by simp at h)⟩
section
variable {sz : Int} {ps : Nat → Int} {es : List (Str × Int)}
theorem Tri.div (so : 1 ≤ sz) (h : Tri sz ps es) (le : ∀ k, ps k ≤ sz) : ∀ e ∈ es, ∃ k, k < 3 ∧ e.1 = nm3 k ∧ e.2 / sz = bl3 k ∧ bl3 k * sz ≤ e.2 ∧ e.2 < bl3 k * sz + ps k := fun e he => by
  obtain ⟨k, h1, h2, h3, h4⟩ := h.own e he
  have := le k
  exact ⟨k, h1, h2, div_is so h3 (by omega), h3, h4⟩
/-- one more of the k-th server -/
theorem Tri.step (so : 1 ≤ sz) (h : Tri sz ps es) (le : ∀ k, ps k ≤ sz) (nn : ∀ k, 0 ≤ ps k) {k : Nat} (hk : k < 3) {d : Int} (hd : 0 < d) (lt : ps k < sz) (at_ : es.length < 6 → k = es.length % 3) : Tri sz (fun i => if i = k then ps k + d else ps i) (es ++ [(nm3 k, bl3 k * sz + ps k)]) := by
  have n0 := nn k
  have dk : (bl3 k * sz + ps k) / sz = bl3 k := div_is so (by omega) (by omega)
  refine ⟨fun e he => ?_, clean_snoc h.cl (fun e he q => ?_) (fun e he q => ?_), fun j j6 jl => ?_⟩
  · rcases List.mem_append.mp he with he | he
    · obtain ⟨i, h1, h2, h3, h4⟩ := h.own e he
      refine ⟨i, h1, h2, h3, ?_⟩
      show e.2 < bl3 i * sz + (if i = k then ps k + d else ps i)
      split
      · rename_i e0; subst e0; omega
      · exact h4
    · rw [List.mem_singleton.mp he]
      refine ⟨k, hk, rfl, by show bl3 k * sz ≤ bl3 k * sz + ps k; omega, ?_⟩
      show bl3 k * sz + ps k < bl3 k * sz + (if k = k then ps k + d else ps k)
      rw [if_pos rfl]; omega
  · obtain ⟨i, h1, h2, h3, _⟩ := h.div so le e he
    have q : e.2 / sz = (bl3 k * sz + ps k) / sz := q
    rw [h3, dk] at q
    have := bl3_inj h1 hk q
    rw [h2, this]
  · obtain ⟨i, h1, h2, h3, h4⟩ := h.own e he
    have q : e.1 = nm3 k := q
    have := nm3_inj h1 hk (h2.symm.trans q)
    subst this
    exact h4
  · rcases Nat.lt_or_ge j es.length with l | l
    · obtain ⟨e, h1, h2⟩ := h.hd j j6 l
      exact ⟨e, by rw [List.getElem?_append_left l]; exact h1, h2⟩
    · rw [List.length_append, List.length_singleton] at jl
      have e0 : j = es.length := by omega
      refine ⟨_, by rw [e0, List.getElem?_append_right (Nat.le_refl _), Nat.sub_self]; rfl, ?_⟩
      show nm3 k = nm3 (j % 3)
      rw [at_ (by omega), e0]
theorem Tri.one (so : 1 ≤ sz) (h : Tri sz ps es) (le : ∀ k, ps k ≤ sz) : ∀ e ∈ es, ∀ f ∈ es, e.1 = f.1 → e.2 / sz = f.2 / sz := fun e he f hf q => by
  obtain ⟨i, h1, h2, h3, _⟩ := h.div so le e he
  obtain ⟨j, g1, g2, g3, _⟩ := h.div so le f hf
  have := nm3_inj h1 g1 (h2.symm.trans (q.trans g2))
  rw [h3, g3, this]
theorem Tri.ents (so : 1 ≤ sz) (h : Tri sz ps es) (l : es.length ≤ 200) : EntsOk ns3 es := ⟨l, fun e he => by
  obtain ⟨k, h1, h2, h3, _⟩ := h.own e he
  have := Int.mul_nonneg (bl3_bd h1).1 (show 0 ≤ sz by omega)
  exact ⟨by rw [h2]; exact nm3_mem h1, by omega⟩⟩
theorem Tri.bars (so : 1 ≤ sz) (h : Tri sz ps es) (le : ∀ k, ps k ≤ sz) (l : es.length ≤ 200) {w : V} {H : Hp} : ¬ ObsX sz ns3 es H w := fun o => by
  rcases o with o | ⟨_, bs, _, _, _, sb, no, _⟩
  · exact o.toV.dirty h.cl
  · exact no (one_block h.cl (h.ents so l) so (h.one so le) sb)
/-- the first entry of the k-th server, and the next -/
theorem Tri.first (so : 1 ≤ sz) (h : Tri sz ps es) (le : ∀ k, ps k ≤ sz) (l : 6 ≤ es.length) {k : Nat} (hk : k < 3) : (∃ e, es[k]? = some e ∧ e.1 = nm3 k ∧ e.2 / sz = bl3 k ∧ bl3 k * sz ≤ e.2) ∧ ∃ e, es[k + 3]? = some e ∧ e.1 = nm3 k ∧ e.2 / sz = bl3 k := by
  have g : ∀ j, j < 6 → ∃ e, es[j]? = some e ∧ e.1 = nm3 (j % 3) ∧ e.2 / sz = bl3 (j % 3) ∧ bl3 (j % 3) * sz ≤ e.2 := fun j hj => by
    obtain ⟨e, h1, h2⟩ := h.hd j hj (by omega)
    obtain ⟨i, g1, g2, g3, g4, _⟩ := h.div so le e (List.mem_of_getElem? h1)
    have := nm3_inj g1 (Nat.mod_lt _ (by decide)) (g2.symm.trans h2)
    subst this
    exact ⟨e, h1, h2, g3, g4⟩
  have e1 : k % 3 = k := Nat.mod_eq_of_lt hk
  have e2 : (k + 3) % 3 = k := by omega
  have g1 := g k (by omega)
  have g2 := g (k + 3) (by omega)
  rw [e1] at g1
  rw [e2] at g2
  obtain ⟨e, a, b, c, _⟩ := g2
  exact ⟨g1, e, a, b, c⟩
/-- what cannot follow: of two entries -/
theorem Tri.shared (so : 1 ≤ sz) (h : Tri sz ps es) (le : ∀ k, ps k ≤ sz) (l : 6 ≤ es.length) {k : Nat} (hk : k < 3) {z : Str} {x : Int} (hz : z ≠ nm3 k) (hx : x / sz = bl3 k) : ¬ Clean sz (es ++ [(z, x)]) := fun c => by
  obtain ⟨⟨e, h1, h2, h3, _⟩, _⟩ := h.first so le l hk
  have := c.same k es.length e (z, x) (by rw [List.getElem?_append_left (by omega)]; exact h1) (by rw [List.getElem?_append_right (Nat.le_refl _), Nat.sub_self]; rfl) (by rw [h3]; exact hx.symm)
  exact hz (by rw [← h2]; exact this.symm)
theorem Tri.twice {e : Str × Int} (he : e ∈ es) : ¬ Clean sz (es ++ [e]) := fun c => by
  obtain ⟨j, hj⟩ := List.mem_iff_getElem?.mp he
  have lj := (List.getElem?_eq_some_iff.mp hj).1
  exact c.num j es.length e e lj (by rw [List.getElem?_append_left lj]; exact hj) (by rw [List.getElem?_append_right (Nat.le_refl _), Nat.sub_self]; rfl) rfl
theorem Tri.back (so : 1 ≤ sz) (h : Tri sz ps es) (le : ∀ k, ps k ≤ sz) (l : 6 ≤ es.length) {k : Nat} (hk : k < 3) {x : Int} (hx : x < bl3 k * sz) : ¬ Clean sz (es ++ [(nm3 k, x)]) := fun c => by
  obtain ⟨⟨e, h1, h2, h3, h4⟩, _⟩ := h.first so le l hk
  have := c.D k es.length e (nm3 k, x) (by omega) (by rw [List.getElem?_append_left (by omega)]; exact h1) (by rw [List.getElem?_append_right (Nat.le_refl _), Nat.sub_self]; rfl) h2
  have : e.2 < x := this
  omega
/-- pushed: a block between the k-th server's and a later one's -/
theorem Tri.pushed (so : 1 ≤ sz) (h : Tri sz ps es) (le : ∀ k, ps k ≤ sz) (l : 6 ≤ es.length) (l2 : es.length ≤ 199) {k m : Nat} (hk : k < 3) (hm : m < 3) {x : Int} (h1 : bl3 k < x / sz) (h2 : x / sz < bl3 m) (new : ∀ i, i < 3 → x / sz ≠ bl3 i) : Clean sz (es ++ [(nm3 k, x)]) ∧ ∀ bs, SeenB sz (es ++ [(nm3 k, x)]) bs → ¬ Thru 0 (rowsF sz ns3 (es ++ [(nm3 k, x)]) 0 bs) := by
  have x0 : (bl3 k + 1) * sz ≤ x := (Int.le_ediv_iff_mul_le (by omega)).mp (by omega)
  rw [Int.add_mul, Int.one_mul] at x0
  have c : Clean sz (es ++ [(nm3 k, x)]) := clean_snoc h.cl (fun e he q => by
      obtain ⟨i, g1, _, g3, _⟩ := h.div so le e he
      exact absurd (q.symm.trans g3) (new i g1)) (fun e he q => by
      obtain ⟨i, g1, g2, g3, g4, g5⟩ := h.div so le e he
      have := nm3_inj g1 hk (g2.symm.trans q)
      subst this
      have := le i
      show e.2 < x
      omega)
  have b0 := (bl3_bd hk).1
  have xz : 0 ≤ x := by
    have := Int.mul_nonneg b0 (show 0 ≤ sz by omega)
    omega
  have ok : EntsOk ns3 (es ++ [(nm3 k, x)]) := ⟨by rw [List.length_append, List.length_singleton]; omega, fun e he => by
    rcases List.mem_append.mp he with he | he
    · exact (h.ents so (by omega)).ok e he
    · rw [List.mem_singleton.mp he]; exact ⟨nm3_mem hk, xz⟩⟩
  refine ⟨c, fun bs sb => ?_⟩
  obtain ⟨_, e1, a1, a2, a3⟩ := h.first so le l hk
  obtain ⟨⟨e2, b1, b2, b3, _⟩, _⟩ := h.first so le l hm
  exact push_no c ok so (j := es.length) (j1 := k + 3) (j2 := m) (e := (nm3 k, x)) (by rw [List.getElem?_append_right (Nat.le_refl _), Nat.sub_self]; rfl) (by rw [List.getElem?_append_left (by omega)]; exact a1) (by rw [List.getElem?_append_left (by omega)]; exact b1) a2 (by rw [a3]; exact h1) (by rw [b3]; exact h2) (by omega) sb
end
end NB

set_option Elab.async false
set_option linter.all false
set_option maxRecDepth 100000
set_option maxHeartbeats 16000000
/-! K4q (k51): live logs and logs made -/
namespace NB
open PySem PySem.Spec L2
open PyProof.Rows (envOfC)
open C8 (pe_c pe_mk pe_mt pe_mt0 pe_gc fnScope fnBody fnArgs fnScope_by Cal Met Mak)
def kV (cA cB : Addr) (b : Bool) : Addr := if b = true then cB else cA
def spLive (cA cB cL cX : Addr) : Sp := fun vs H Q _ => ∃ sz a ns b, vs = [.int sz, .ref a, .bl b] ∧ SizeOk sz ∧ H a = some (.lst (ns.map V.str)) ∧ CrewOk ns ∧
  ∀ H' v dx s m p, H v = none → H s = none → H m = none → s ≠ m → H p = none → H' v = some (.ins (kV cA cB b) dx (vf s m)) → H' s = some (.lst [.ref p]) → H' m = some (.lst []) → LogF [v, s, m] (kC cL cX b) H' p sz ns [] → LogN (kC cL cX b) H H' p sz ns [] → Ext H H' → Q (.ref v) H'
def spLog (cL cX : Addr) : Sp := fun vs H Q _ => ∃ sz a ns l es xs b, vs = [.int sz, .ref a, .ref l, .bl b] ∧ SizeOk sz ∧ H a = some (.lst (ns.map V.str)) ∧ CrewOk ns ∧ H l = some (.lst xs) ∧ EntL H es xs ∧ EntsOk ns es ∧ NewLog (kC cL cX b) H sz ns es fun q H' => Q (.ref q) H'
section
variable {P : Program} {w : World} {K : PySem.W.Frag} {mg : Str → Option Value} {base : Heap} {cL cX cA cB : Addr} {A0 : Ads}
theorem ok_live (T : Blt mg) (D : Dx K mg "_law_live" s__law_live ["wide", "names", "is_losing"]) (c_LiveLog : Mak P w K mg base 7 "LiveLog" cA (spLiveI cA cL) []) (c_LiveLosingLog : Mak P w K mg base 7 "LiveLosingLog" cB (spLiveI cB cX) []) : Cal P w K mg base 9 "_law_live" (spLive cA cB cL cX) [] := by
  refine cal_of D sc__law_live (fun vs H Q E h => ?_) (fun f cdv A o s H vs Q E hr h => ?_)
  · obtain ⟨sz, a, ns, b, rfl, _⟩ := h; rfl
  · obtain ⟨sz, a, ns, b, rfl, so, ha, cr, k⟩ := h
    have core : ∀ (C CL : Addr) (R : Addr → Hp → Prop), (∀ H' v dx s m p, H v = none → H s = none → H m = none → s ≠ m → H p = none → H' v = some (.ins C dx (vf s m)) → H' s = some (.lst [.ref p]) → H' m = some (.lst []) → LogF [v, s, m] CL H' p sz ns [] → LogN CL H H' p sz ns [] → Ext H H' → R v H') →
        ∀ t, H t = none → ∀ v dx, (upd H t (.lst (ns.map V.str))) v = none → (upd H t (.lst (ns.map V.str))) dx = none → dx ≠ v → spLiveI C CL [.ref v, .int sz, .ref t] (upd (upd (upd H t (.lst (ns.map V.str))) dx (.own v)) v (.ins C dx [])) (fun u H2 => u = .non ∧ R v H2) C8.E0 := by
      intro C CL R kk t nt v dx nv nd ne
      have x0 : Ext H (upd H t (.lst (ns.map V.str))) := Ext.upd nt
      have c0 : (upd H t (.lst (ns.map V.str))) t = some (.lst (ns.map V.str)) := upd_same
      have fr0 : ∀ {c : Addr}, (upd H t (.lst (ns.map V.str))) c = none → H c = none := fun h => (upd_none h).2
      generalize upd H t (.lst (ns.map V.str)) = G at x0 c0 nv nd fr0 ⊢
      have x1 : Ext G (upd (upd G dx (.own v)) v (.ins C dx [])) := fun b o e => by
        rw [upd_ne (ne_of_none e nv), upd_ne (ne_of_none e nd)]; exact e
      refine ⟨v, dx, sz, t, ns, rfl, upd_same, so, x1 _ _ c0, cr, fun H' s_ m_ p ns_ nm_ sm np hv hs hm lF lN fr => ⟨rfl, ?_⟩⟩
      have xG : Ext G H' := fun b o e => fr _ _ (x1 _ _ e) fun z => ne_of_none e nv (List.mem_singleton.mp z)
      have down : ∀ {c : Addr}, (upd (upd G dx (.own v)) v (.ins C dx [])) c = none → H c = none := fun h => fr0 (Ext.free x1 h)
      exact kk H' v dx s_ m_ p (fr0 nv) (down ns_) (down nm_) sm (down np) hv hs hm lF (lN.old fun c h => down h) (x0.trans xG)
    refine ⟨_, (pss_one (ps_ret (pe_ifExp (qv (mv 2)) (pe_mk c_LiveLosingLog hr (by decide) rfl (pa_cons (mv 0) (pa_cons (pe_callTy call_list_of (by rfl) T.n_list (by decide +kernel) (pa_cons (mv 1) pa_nil)) pa_nil))) (pe_mk c_LiveLog hr (by decide) rfl (pa_cons (mv 0) (pa_cons (pe_callTy call_list_of (by rfl) T.n_list (by decide +kernel) (pa_cons (mv 1) pa_nil)) pa_nil)))))), ?_⟩
    cases b with
    | true =>
      refine ⟨a, _, rfl, .inl (SqL.of ha), fun t nt => ?_⟩
      intro v dx nv nd ne
      exact core cB cX _ k t nt v dx nv nd ne
    | false =>
      refine ⟨a, _, rfl, .inl (SqL.of ha), fun t nt => ?_⟩
      intro v dx nv nd ne
      exact core cA cL _ k t nt v dx nv nd ne
theorem ok_log (T : Blt mg) (D : Dx K mg "_law_log" s__law_log ["wide", "names", "rows", "is_losing"]) (c_Log : Mak P w K mg base 4 "Log" cL (spInit cL) []) (c_LosingLog : Mak P w K mg base 4 "LosingLog" cX (spInit cX) []) : Cal P w K mg base 6 "_law_log" (spLog cL cX) [] := by
  refine cal_of D sc__law_log (fun vs H Q E h => ?_) (fun f cdv A o s H vs Q E hr h => ?_)
  · obtain ⟨sz, a, ns, l, es, xs, b, rfl, _⟩ := h; rfl
  · obtain ⟨sz, a, ns, l, es, xs, b, rfl, so, ha, cr, hl, el, ok, k⟩ := h
    refine ⟨_, (pss_cons (ps_if (qv (mv 3)) (pss_one (ps_ret (pe_mk c_LosingLog hr (by decide) rfl (pa_cons (mv 0) (pa_cons (pe_callTy call_list_of (by rfl) T.n_list (by decide +kernel) (pa_cons (mv 1) pa_nil)) (pa_cons (pe_callTy call_list_of (by rfl) T.n_list (by decide +kernel) (pa_cons (mv 2) pa_nil)) pa_nil)))))) pss_nil)
    (pss_one (ps_ret (pe_mk c_Log hr (by decide) rfl (pa_cons (mv 0) (pa_cons (pe_callTy call_list_of (by rfl) T.n_list (by decide +kernel) (pa_cons (mv 1) pa_nil)) (pa_cons (pe_callTy call_list_of (by rfl) T.n_list (by decide +kernel) (pa_cons (mv 2) pa_nil)) pa_nil))))))), ?_⟩
    cases b with
    | true =>
      refine ⟨a, _, rfl, .inl (SqL.of ha), fun t nt => ?_⟩
      have x1 := Ext.upd (o := .lst (ns.map V.str)) nt
      have c1 : (upd H t (.lst (ns.map V.str))) t = some (.lst (ns.map V.str)) := upd_same
      generalize upd H t (.lst (ns.map V.str)) = G at x1 c1 ⊢
      refine ⟨l, _, rfl, .inl (SqL.of (x1 _ _ hl)), fun t2 n2 => ?_⟩
      have x2 := Ext.upd (o := .lst xs) n2
      intro q dx nx nd ne
      exact init_R nx nd ne so (x2 _ _ c1) cr upd_same (el.mono (x1.trans x2)) ok fun H' lg y => (k.up (x1.trans x2)) H' q nx lg y
    | false =>
      refine ⟨a, _, rfl, .inl (SqL.of ha), fun t nt => ?_⟩
      have x1 := Ext.upd (o := .lst (ns.map V.str)) nt
      have c1 : (upd H t (.lst (ns.map V.str))) t = some (.lst (ns.map V.str)) := upd_same
      generalize upd H t (.lst (ns.map V.str)) = G at x1 c1 ⊢
      refine ⟨l, _, rfl, .inl (SqL.of (x1 _ _ hl)), fun t2 n2 => ?_⟩
      have x2 := Ext.upd (o := .lst xs) n2
      intro q dx nx nd ne
      exact init_R nx nd ne so (x2 _ _ c1) cr upd_same (el.mono (x1.trans x2)) ok fun H' lg y => (k.up (x1.trans x2)) H' q nx lg y
end
end NB

set_option Elab.async false
set_option linter.all false
set_option maxRecDepth 100000
set_option maxHeartbeats 4000000
/-! K4s (k46): what stands while live logs change -/
namespace NB
open PySem PySem.Spec L2
theorem pUnsnoc {α β : Type} {R : α → β → Prop} : ∀ {as : List α} {a : α} {vs : List β}, Paired R (as ++ [a]) vs → ∃ us v, vs = us ++ [v] ∧ Paired R as us ∧ R a v
  | [], a, _, .cons r .nil => ⟨[], _, rfl, .nil, r⟩
  | b :: as, a, _, .cons r q => by
    obtain ⟨us, v, rfl, h1, h2⟩ := pUnsnoc (as := as) q
    exact ⟨_ :: us, v, rfl, .cons r h1, h2⟩
/-- v is the log of the first j entries -/
def LgR (M : List Addr) (CL : Addr) (H : Hp) (sz : Int) (ns : List Str) (es : List (Str × Int)) (j : Nat) (v : V) : Prop := ∃ q, v = .ref q ∧ LogF M CL H q sz ns (es.take j)
abbrev LgL (M : List Addr) (CL : Addr) (H : Hp) (sz : Int) (ns : List Str) (es : List (Str × Int)) (n : Nat) (vs : List V) : Prop := Paired (LgR M CL H sz ns es) (List.range n) vs
section
variable {M : List Addr} {CL : Addr} {H H' : Hp} {sz : Int} {ns : List Str} {es : List (Str × Int)} {n : Nat} {vs : List V}
theorem LgL.mono (h : LgL M CL H sz ns es n vs) (x : Ext H H') : LgL M CL H' sz ns es n vs := Paired.mapP h fun _ _ q => by
  obtain ⟨p, e, q⟩ := q
  exact ⟨p, e, q.mono x⟩
theorem LgL.fr (h : LgL M CL H sz ns es n vs) (f : Frm M H H') (t : TupSt H H') : LgL M CL H' sz ns es n vs := Paired.mapP h fun _ _ q => by
  obtain ⟨p, e, q⟩ := q
  exact ⟨p, e, q.fr f t⟩
theorem LgL.snoc {v : V} (h : LgL M CL H sz ns es n vs) (r : LgR M CL H sz ns es n v) : LgL M CL H sz ns es (n + 1) (vs ++ [v]) := by
  show Paired _ (List.range (n + 1)) _
  rw [List.range_succ]
  exact pApp h (.cons r .nil)
theorem LgL.last (h : LgL M CL H sz ns es (n + 1) vs) : ∃ us q, vs = us ++ [.ref q] ∧ LogF M CL H q sz ns (es.take n) ∧ LgL M CL H sz ns es n us := by
  have h : Paired _ (List.range (n + 1)) _ := h
  rw [List.range_succ] at h
  obtain ⟨us, v, rfl, h1, q, rfl, h2⟩ := pUnsnoc h
  exact ⟨us, q, rfl, h2, h1⟩
theorem LgL.len (h : LgL M CL H sz ns es n vs) : vs.length = n := by
  have := pLen h
  rw [List.length_range] at this
  exact this.symm
theorem LgL.get (h : LgL M CL H sz ns es n vs) {j : Nat} (hj : j < n) : ∃ q, vs[j]? = some (.ref q) ∧ LogF M CL H q sz ns (es.take j) := by
  obtain ⟨v, h1, q, rfl, h2⟩ := pGet (i := j) (e := j) h (List.getElem?_range hj)
  exact ⟨q, h1, h2⟩
end
/-- what may change: M' has what M had, and what is new -/
structure Gr (M M' : List Addr) (H H' : Hp) : Prop where
  sub : ∀ x ∈ M, x ∈ M'
  new : ∀ x ∈ M', x ∈ M ∨ H x = none
  all : ∀ x ∈ M', H' x ≠ none
theorem LogF.gr {M M' : List Addr} {C : Addr} {H : Hp} {p : Addr} {sz : Int} {ns : List Str} {es : List (Str × Int)} (h : LogF M C H p sz ns es) (g : ∀ x ∈ M', x ∈ M ∨ H x = none) : LogF M' C H p sz ns es := by
  obtain ⟨dx, ls, le, vs, a, b, c, h1, h2, h3, h4⟩ := h
  have ne : ∀ {x : Addr} {u : HO}, H x = some u → x ∉ M → x ∉ M' := fun {x u} hx hm q => by
    rcases g x q with r | r
    · exact hm r
    · rw [r] at hx; cases hx
  exact ⟨dx, ls, le, vs, ne h1 a, ne h2 b, ne h3 c, h1, h2, h3, h4⟩
theorem LgL.gr {M M' : List Addr} {CL : Addr} {H : Hp} {sz : Int} {ns : List Str} {es : List (Str × Int)} {n : Nat} {vs : List V} (h : LgL M CL H sz ns es n vs) (g : ∀ x ∈ M', x ∈ M ∨ H x = none) : LgL M' CL H sz ns es n vs := Paired.mapP h fun _ _ ⟨q, e, lf⟩ => ⟨q, e, lf.gr g⟩
structure Lv where
  (v s m : Addr)
def Lv.F (d : Lv) : List Addr := [d.v, d.s, d.m]
section
variable {M M' F : List Addr} {CV CL : Addr} {H H' : Hp} {sz : Int} {ns : List Str} {es fs : List (Str × Int)} {n : Nat} {vs : List V} {v s : Addr} {d : Lv} {ms : List Nat}
theorem LgL.grow (h : LgL M CL H sz ns es n vs) (e : ∀ j, j < n → fs.take j = es.take j) : LgL M CL H sz ns fs n vs := by
  have h : Paired _ (List.range n) vs := h
  have g : ∀ {xs : List Nat} {vs : List V}, (∀ j ∈ xs, j < n) → Paired (LgR M CL H sz ns es) xs vs → Paired (LgR M CL H sz ns fs) xs vs := by
    intro xs vs hx p
    induction p with
    | nil => exact .nil
    | cons r q ih =>
      obtain ⟨q0, rfl, lg⟩ := r
      refine .cons ⟨q0, rfl, ?_⟩ (ih fun j hj => hx j (List.mem_cons_of_mem _ hj))
      rw [e _ (hx _ List.mem_cons_self)]
      exact lg
  exact g (fun j hj => List.mem_range.mp hj) h
theorem LgL.take (h : LgL M CL H sz ns es (es.length + 1) vs) (k : Nat) : LgL M CL H sz ns (es.take k) ((es.take k).length + 1) (vs.take (k + 1)) := by
  have g : ∀ {xs : List Nat} {vs : List V} (j : Nat), Paired (LgR M CL H sz ns es) xs vs → Paired (LgR M CL H sz ns es) (xs.take j) (vs.take j) := by
    intro xs vs j p
    induction p generalizing j with
    | nil => simp; exact .nil
    | cons r q ih =>
      cases j with
      | zero => exact .nil
      | succ j => exact .cons r (ih j)
  have h1 : Paired (LgR M CL H sz ns es) ((List.range (es.length + 1)).take (k + 1)) (vs.take (k + 1)) := g (k + 1) h
  have e : (List.range (es.length + 1)).take (k + 1) = List.range ((es.take k).length + 1) := by
    rw [List.take_range, List.length_take]; congr 1; omega
  rw [e] at h1
  refine LgL.grow (es := es) h1 fun j hj => ?_
  rw [List.length_take] at hj
  rw [List.take_take]; congr 1; omega
/-- a live log, its logs and its marks; what may change is in M -/
def LiveK (M : List Addr) (CV CL : Addr) (H : Hp) (d : Lv) (sz : Int) (ns : List Str) (es : List (Str × Int)) (ms : List Nat) : Prop :=
  ∃ dx us, H d.v = some (.ins CV dx (vf d.s d.m)) ∧ H d.s = some (.lst us) ∧ H d.m = some (.lst (mkL ms)) ∧ d.s ≠ d.m ∧ (∀ x ∈ d.F, x ∈ M) ∧ LgL M CL H sz ns es (es.length + 1) us
theorem LiveK.mono (h : LiveK M CV CL H d sz ns es ms) (x : Ext H H') : LiveK M CV CL H' d sz ns es ms := by
  obtain ⟨dx, us, h1, h2, h3, h4, h5, h6⟩ := h
  exact ⟨dx, us, x _ _ h1, x _ _ h2, x _ _ h3, h4, h5, h6.mono x⟩
theorem LiveK.fr (h : LiveK M CV CL H d sz ns es ms) (f : Frm F H H') (t : TupSt H H') (sub : ∀ x ∈ F, x ∈ M) (nd : ∀ x ∈ d.F, x ∉ F) : LiveK M CV CL H' d sz ns es ms := by
  obtain ⟨dx, us, h1, h2, h3, h4, h5, h6⟩ := h
  refine ⟨dx, us, f _ _ h1 (nd _ (by simp [Lv.F])), f _ _ h2 (nd _ (by simp [Lv.F])), f _ _ h3 (nd _ (by simp [Lv.F])), h4, h5, ?_⟩
  exact h6.fr (fun c u e q => f c u e fun z => q (sub _ z)) t
theorem LiveK.gr (h : LiveK M CV CL H d sz ns es ms) (s : ∀ x ∈ M, x ∈ M') (g : ∀ x ∈ M', x ∈ M ∨ H x = none) : LiveK M' CV CL H d sz ns es ms := by
  obtain ⟨dx, us, h1, h2, h3, h4, h5, h6⟩ := h
  exact ⟨dx, us, h1, h2, h3, h4, fun x hx => s _ (h5 x hx), h6.gr g⟩
theorem LiveK.alloc (h : LiveK M CV CL H d sz ns es ms) : ∀ x ∈ d.F, H x ≠ none := by
  obtain ⟨dx, us, h1, h2, h3, _⟩ := h
  intro x hx
  simp only [Lv.F, List.mem_cons, List.not_mem_nil, or_false] at hx
  rcases hx with rfl | rfl | rfl
  · rw [h1]; exact fun z => nomatch z
  · rw [h2]; exact fun z => nomatch z
  · rw [h3]; exact fun z => nomatch z
theorem LiveK.now (h : LiveK M CV CL H d sz ns es ms) : ∃ dx us q, H d.v = some (.ins CV dx (vf d.s d.m)) ∧ H d.s = some (.lst (us ++ [.ref q])) ∧ us.length = es.length ∧ LogF M CL H q sz ns es := by
  obtain ⟨dx, us, h1, h2, h3, h4, h5, h6⟩ := h
  obtain ⟨us', q, rfl, lf, l2⟩ := h6.last
  rw [List.take_length] at lf
  exact ⟨dx, us', q, h1, h2, l2.len, lf⟩
theorem LiveK.marks (h : LiveK M CV CL H d sz ns es ms) : H d.m = some (.lst (mkL ms)) ∧ d.s ≠ d.m := by
  obtain ⟨dx, us, h1, h2, h3, h4, h5, h6⟩ := h
  exact ⟨h3, h4⟩
theorem LiveK.mem (h : LiveK M CV CL H d sz ns es ms) : ∀ x ∈ d.F, x ∈ M := by
  obtain ⟨dx, us, h1, h2, h3, h4, h5, h6⟩ := h
  exact h5
theorem LiveK.zero (h : LiveK M CV CL H d sz ns es ms) : ∃ dx us q, H d.v = some (.ins CV dx (vf d.s d.m)) ∧ H d.s = some (.lst (.ref q :: us)) ∧ us.length = es.length ∧ LogAt CL H q sz ns [] := by
  obtain ⟨dx, us, h1, h2, h3, h4, h5, h6⟩ := h
  obtain ⟨q, hq, lf⟩ := h6.get (j := 0) (by omega)
  have hl := h6.len
  cases us with
  | nil => simp at hl
  | cons u us =>
    obtain rfl : u = .ref q := by simpa using hq
    exact ⟨dx, us, q, h1, h2, by simpa using hl, lf.at⟩
/-- an entry more -/
theorem LiveK.see {H1 : Hp} {q : Addr} {us : List V} {e : Str × Int} (h : LiveK M CV CL H d sz ns es ms) (hs : H d.s = some (.lst us)) (al : ∀ x ∈ M, H x ≠ none)
    (nq : H q = none) (lg : LogN CL H H1 q sz ns (es ++ [e])) (x : Ext H H1) : LiveK M CV CL (upd H1 d.s (.lst (us ++ [.ref q]))) d sz ns (es ++ [e]) ms := by
  obtain ⟨dx', us', h1, h2, h3, h4, h5, h6⟩ := h
  rw [hs] at h2
  obtain rfl : us = us' := by injection h2 with h2; injection h2
  have sM : d.s ∈ M := h5 _ (by simp [Lv.F])
  have fm : Frm M H1 (upd H1 d.s (.lst (us ++ [.ref q]))) := (Frm.refl).upd sM
  have st : TupSt H1 (upd H1 d.s (.lst (us ++ [.ref q]))) := TupSt.upd (x _ _ hs) (fun _ z => nomatch z)
  have sv : d.v ≠ d.s := ne_of h1 hs (fun z => nomatch z)
  refine ⟨dx', us ++ [.ref q], by rw [upd_ne sv]; exact x _ _ h1, upd_same, by rw [upd_ne h4.symm]; exact x _ _ h3, h4, h5, ?_⟩
  rw [List.length_append, List.length_singleton]
  have g : LgL M CL H1 sz ns (es ++ [e]) (es.length + 1) us := (h6.mono x).grow fun j hj => by rw [List.take_append_of_le_length (by omega)]
  refine (g.snoc ⟨q, rfl, ?_⟩).fr fm st
  have e2 : (es ++ [e]).take (es.length + 1) = es ++ [e] := List.take_of_length_le (by rw [List.length_append, List.length_singleton]; exact Nat.le_refl _)
  rw [e2]
  exact lg.F nq al
/-- an entry less -/
theorem LiveK.undo {m' : Addr} {dx : Addr} {us : List V} {x : V} {es0 : List (Str × Int)} {e : Str × Int} {ms' : List Nat} (h : LiveK M CV CL H d sz ns (es0 ++ [e]) ms) (hs : H d.s = some (.lst (us ++ [x])))
    (nm : H m' = none) (g1 : H' d.v = some (.ins CV dx (vf d.s m'))) (g2 : H' d.s = some (.lst us)) (g3 : H' m' = some (.lst (mkL ms'))) (f : Frm [d.v, d.s] H H') (t : TupSt H H') : LiveK (m' :: M) CV CL H' ⟨d.v, d.s, m'⟩ sz ns es0 ms' := by
  obtain ⟨dx', us', h1, h2, h3, h4, h5, h6⟩ := h
  rw [hs] at h2
  obtain rfl : us ++ [x] = us' := by injection h2 with h2; injection h2
  have fM : Frm (m' :: M) H H' := fun c u e q => f c u e fun z => by
    rcases List.mem_cons.mp z with rfl | z
    · exact q (List.mem_cons_of_mem _ (h5 _ (by simp [Lv.F])))
    · exact q (by rw [List.mem_singleton.mp z]; exact List.mem_cons_of_mem _ (h5 _ (by simp [Lv.F])))
  rw [List.length_append, List.length_singleton] at h6
  obtain ⟨us2, q, eq, _, l2⟩ := h6.last
  obtain ⟨rfl, _⟩ := List.append_inj' eq rfl
  refine ⟨dx, us, g1, g2, g3, ne_of_none hs nm, fun y hy => ?_, ?_⟩
  · simp only [Lv.F, List.mem_cons, List.not_mem_nil, or_false] at hy
    rcases hy with rfl | rfl | rfl
    · exact List.mem_cons_of_mem _ (h5 _ (by simp [Lv.F]))
    · exact List.mem_cons_of_mem _ (h5 _ (by simp [Lv.F]))
    · exact List.mem_cons_self
  · exact ((l2.grow fun j hj => by rw [List.take_append_of_le_length (by omega)]).gr fun y hy => by
      rcases List.mem_cons.mp hy with rfl | hy
      · exact .inr nm
      · exact .inl hy).fr fM t
/-- a mark more -/
theorem LiveK.mark (h : LiveK M CV CL H d sz ns es ms) : LiveK M CV CL (upd H d.m (.lst (mkL ms ++ [.int ((es.length + 1 : Nat))]))) d sz ns es (ms ++ [es.length]) := by
  obtain ⟨dx, us, h1, h2, h3, h4, h5, h6⟩ := h
  have mv : d.v ≠ d.m := ne_of h1 h3 (fun z => nomatch z)
  have mM : d.m ∈ M := h5 _ (by simp [Lv.F])
  have fm : Frm M H (upd H d.m (.lst (mkL ms ++ [.int ((es.length + 1 : Nat))]))) := (Frm.refl).upd mM
  have st : TupSt H (upd H d.m (.lst (mkL ms ++ [.int ((es.length + 1 : Nat))]))) := TupSt.upd h3 (fun _ z => nomatch z)
  refine ⟨dx, us, by rw [upd_ne mv]; exact h1, by rw [upd_ne h4]; exact h2, ?_, h4, h5, h6.fr fm st⟩
  rw [upd_same]
  unfold mkL
  rw [List.map_append]
  rfl
/-- back to a mark -/
theorem LiveK.back {s' m' dx : Addr} {us : List V} {k j : Nat} (h : LiveK M CV CL H d sz ns es ms) (hs : H d.s = some (.lst us)) (n1 : H s' = none) (n2 : H m' = none) (ne : s' ≠ m') (g1 : H' d.v = some (.ins CV dx (vf s' m'))) (g2 : H' s' = some (.lst (us.take (k + 1)))) (g3 : H' m' = some (.lst (mkL (ms.take j)))) (f : Frm [d.v] H H') (t : TupSt H H') :
    LiveK (s' :: m' :: M) CV CL H' ⟨d.v, s', m'⟩ sz ns (es.take k) (ms.take j) := by
  obtain ⟨dx', us', h1, h2, h3, h4, h5, h6⟩ := h
  rw [hs] at h2
  obtain rfl : us = us' := by injection h2 with h2; injection h2
  have vM : d.v ∈ M := h5 _ (by simp [Lv.F])
  have fM : Frm (s' :: m' :: M) H H' := fun c u e q => f c u e fun z => q (by rw [List.mem_singleton.mp z]; exact List.mem_cons_of_mem _ (List.mem_cons_of_mem _ vM))
  refine ⟨dx, us.take (k + 1), g1, g2, g3, ne, fun y hy => ?_, ?_⟩
  · simp only [Lv.F, List.mem_cons, List.not_mem_nil, or_false] at hy
    rcases hy with rfl | rfl | rfl
    · exact List.mem_cons_of_mem _ (List.mem_cons_of_mem _ vM)
    · exact List.mem_cons_self
    · exact List.mem_cons_of_mem _ List.mem_cons_self
  · exact (h6.take k |>.gr fun y hy => by
      rcases List.mem_cons.mp hy with rfl | hy
      · exact .inr n1
      · rcases List.mem_cons.mp hy with rfl | hy
        · exact .inr n2
        · exact .inl hy).fr fM t
theorem LiveK.init {dx p : Addr} (hv : H' d.v = some (.ins CV dx (vf d.s d.m))) (hs : H' d.s = some (.lst [.ref p])) (hm : H' d.m = some (.lst [])) (ne : d.s ≠ d.m) (mM : ∀ x ∈ d.F, x ∈ M) (lg : LogF M CL H' p sz ns []) : LiveK M CV CL H' d sz ns [] [] :=
  ⟨dx, [.ref p], hv, hs, hm, ne, mM, .cons ⟨p, rfl, lg⟩ .nil⟩
/-- a twin -/
theorem LiveK.twin {v2 s2 m2 d2 q : Addr} {us : List V} (h : LiveK M CV CL H d sz ns es ms) (hs : H d.s = some (.lst (.ref q :: us)))
    (n1 : H v2 = none) (n2 : H s2 = none) (n3 : H m2 = none) (sm : s2 ≠ m2) (h1 : H' v2 = some (.ins CV d2 (vf s2 m2))) (h2 : H' s2 = some (.lst (.ref q :: us))) (h3 : H' m2 = some (.lst (mkL ms))) (x : Ext H H') : LiveK (v2 :: s2 :: m2 :: M) CV CL H' ⟨v2, s2, m2⟩ sz ns es ms := by
  obtain ⟨dx, us', g1, g2, g3, g4, g5, g6⟩ := h
  rw [hs] at g2
  obtain rfl : .ref q :: us = us' := by injection g2 with g2; injection g2
  refine ⟨d2, _, h1, h2, h3, sm, fun y hy => ?_, (g6.gr fun y hy => ?_).mono x⟩
  · simp only [Lv.F, List.mem_cons, List.not_mem_nil, or_false] at hy
    rcases hy with rfl | rfl | rfl <;> simp
  · simp only [List.mem_cons] at hy
    rcases hy with rfl | rfl | rfl | hy
    · exact .inr n1
    · exact .inr n2
    · exact .inr n3
    · exact .inl hy
end
end NB

set_option Elab.async false
set_option linter.all false
set_option maxRecDepth 100000
/-! B15: f(k = v, ..), a def by keywords alone -/
namespace NB
open PySem PySem.Spec PyProof.Rows L2
def tCallK0 (n : Nat) (sp : Sp) (gV : List V → List V → List V) (E : XK) (tk : TA) : TE := fun σ H Q => tk σ H fun zs H1 => zs.length = n ∧ sp (gV [] zs) H1 Q E
section
variable {X : Cx} {CXf : CXT} {k : Nat} {f : Addr} {fd : FuncData} {ps ks : List Str} {sp : Sp} {E : XK} {x : Str} {p pos : Pos} {kws : List Keyword} {tk : TA} {g : List Value → List Value → List Value} {gV : List V → List V → List V}
theorem pe_callK0 (F : FnOk X.prog X.w X.K X.mg X.base CXf k f fd ps sp) (hr : Room k X.A) (hg : Gl X x) (hm : X.mg x = some (.ref f)) (hk : PySem.W.keepIn X.K (.ref f) = true) (hb : KBn X.K fd ps 0 ks g gV) (hx : Passes CXf X E)
    (hkw : PK X kws tk) (hall : (backToKw pos (keywordEach kws X.env)).all (·.1.isSome) = true := by rfl) (hks : (backToKw pos (keywordEach kws X.env)).filterMap (·.1) = ks := by rfl)
    (hdb : (x == ("__debug__" : Str)) = false := by decide)
    (hpl : ((backTo pos (starEach [] X.env)).any (·.1) || (backToKw pos (keywordEach kws X.env)).any (·.1.isNone)) = false := by rfl) :
    PE X (.Call (.Name x p) [] kws pos) (tCallK0 ks.length sp gV E tk) := by
  refine ⟨fun pins s σ H Q I h => ?_⟩
  refine wpAny_Call_Name_kw (ld_glob I hg hm ?_ hdb)
  refine PySem.W.callWith_KW0 (first := []) (h₀ := X.base) I.ok.mod.kin hk hall (thn (hkw.run pos pins s σ H _ I h) fun ws s2 z => ?_) hpl
  obtain ⟨zs, H2, I2, rz, l2, q2⟩ := z
  refine ⟨I2.kIn, ?_⟩
  rw [hks]
  exact run_fnN F hr hb hx I2 .nil rz rfl l2 q2
end
/-- a def that may be called by keywords alone -/
structure CalK (P : Program) (w : World) (K : PySem.W.Frag) (mg : Str → Option Value) (base : Heap) (k : Nat) (x : Str) (sp : Sp) (ks : List Str) (gV : List V → List V → List V) : Prop where
  ex : ∃ (f : Addr) (fd : FuncData) (ps : List Str) (g : List Value → List Value → List Value), FnOk P w K mg base C8.CX0 k f fd ps sp ∧ mg x = some (.ref f) ∧ PySem.W.keepIn K (.ref f) = true ∧ KBn K fd ps 0 ks g gV
section
variable {X : Cx} {k j : Nat} {ks : List Str} {sp : Sp} {x : Str} {p pos : Pos} {kws : List Keyword} {tk : TA} {gV : List V → List V → List V}
theorem pe_cK (c : CalK X.prog X.w X.K X.mg X.base k x sp ks gV) (hr : Room j X.A) (hk : k ≤ j) (hg : Gl X x) (hkw : PK X kws tk) (hall : (backToKw pos (keywordEach kws X.env)).all (·.1.isSome) = true := by rfl) (hks : (backToKw pos (keywordEach kws X.env)).filterMap (·.1) = ks := by rfl)
    (hdb : (x == ("__debug__" : Str)) = false := by decide)
    (hpl : ((backTo pos (starEach [] X.env)).any (·.1) || (backToKw pos (keywordEach kws X.env)).any (·.1.isNone)) = false := by rfl) :
    PE X (.Call (.Name x p) [] kws pos) (tCallK0 ks.length sp gV C8.E0 tk) := by
  obtain ⟨f, fd, ps, g, F, hm, kp, b⟩ := c.ex
  exact pe_callK0 F (hr.mono hk) hg hm kp b C8.pass0 hkw hall hks hdb hpl
end
end NB

set_option Elab.async false
set_option linter.all false
set_option maxRecDepth 100000
/-! B9: methods, len and + of an instance whose class is told by the reading -/
namespace NB
open PySem PySem.Spec PyProof.Rows L2
/-- a method of the class at C, promised -/
structure MetF (P : Program) (w : World) (K : PySem.W.Frag) (mg : Str → Option Value) (base : Heap) (CXf : CXT) (k : Nat) (C : Addr) (m : Str) (sp : Sp) : Prop where
  ex : ∃ (f : Addr) (fd : FuncData) (ps : List Str), Cls K C ∧ Meth K C m f ∧ FnOk P w K mg base CXf k f fd ps sp ∧ Binds K fd ps []
/-- a special method of the class at C, promised -/
structure SpcF (P : Program) (w : World) (K : PySem.W.Frag) (mg : Str → Option Value) (base : Heap) (CXf : CXT) (k : Nat) (C : Addr) (m : Str) (sp : Sp) : Prop where
  ex : ∃ (f : Addr) (fd : FuncData) (ps : List Str), PySem.W.findIn K (.ref C) m = some (some (.ref f)) ∧ PySem.W.isFn K (.ref f) = true ∧ FnOk P w K mg base CXf k f fd ps sp ∧ Binds K fd ps []
def tMethG (P : Program) (w : World) (K : PySem.W.Frag) (mg : Str → Option Value) (base : Heap) (CXf : CXT) (k : Nat) (m : Str) (E : XK) (ta : TE) (t : TA) : TE := fun σ H Q => ta σ H fun x H1 => ∃ a C dx fs sp, x = .ref a ∧ H1 a = some (.ins C dx fs) ∧ fs.lookup m = none ∧ MetF P w K mg base CXf k C m sp ∧
  t σ H1 fun vs H2 => sp (.ref a :: vs) H2 Q E
section
variable {X : Cx} {CXf : CXT} {k : Nat} {m : Str} {E : XK} {o e : Expr} {es : List Expr} {ta : TE} {t : TA} {apos pos : Pos}
theorem pe_methG {pl : Sem Bool} (he : PE X o ta) (hr : Room k X.A) (hx : Passes CXf X E) (ha : PA X (e :: es) t)
    (hst : starEach (e :: es) X.env = (false, eval e X.env) :: starEach es X.env := by rfl) (hpl : (backTo pos (starEach es X.env)).any (·.1) = false := by rfl)
    (ht : eval (.Call (.Attribute o m apos) (e :: es) [] pos) X.env = (do
      let ov ← eval o X.env
      standAt apos.atName
      let (f, first) ← holding [ov] (getMethod ov m pl)
      callWith pos f first (backTo pos (starEach (e :: es) X.env)) (backToKw pos (keywordEach [] X.env))) := by rfl) :
    PE X (.Call (.Attribute o m apos) (e :: es) [] pos) (tMethG X.prog X.w X.K X.mg X.base CXf k m E ta t) := by
  refine ⟨fun pins s σ H Q I h => ?_⟩
  refine PySem.W.methodCall_KW (pl := pl) (thn (he.run pins s σ H _ I h) fun u s1 z => ?_) ht
  obtain ⟨x, H1, I1, rx, a, C, dx, fs, sp, ex, ea, l, ⟨f, fd, ps, c, hm, F, hb⟩, q⟩ := z
  subst ex
  obtain rfl : u = Value.ref a := rx
  refine getmeth_ok I1 ea c hm l ?_
  refine PySem.W.callWith_K (first := [.ref a]) (h₀ := X.base) I.ok.mod.kin hm.kp (thn (ha.run pos pins s1 σ H1 _ I1 q) fun us s2 z => ?_) hst hpl
  obtain ⟨vs, H2, I2, r, q2⟩ := z
  refine ⟨I2.kIn, ?_⟩
  exact run_fn (us := .ref a :: us) (vs := .ref a :: vs) F hr hb .nil hx I2 (.cons rfl r) (by rw [List.append_nil]; exact q2)
/-- len(o) -/
theorem own_lenG (hr : Room (k + 1) X.A) (hx : Passes CXf X E) :
    CallR X (.builtin "len") (fun xs H Q => ∃ a C dx fs sp, xs = [.ref a] ∧ H a = some (.ins C dx fs) ∧ SpcF X.prog X.w X.K X.mg X.base CXf k C "__len__" sp ∧ sp [.ref a] H (fun v H' => ∃ n : Nat, v = .int n ∧ n ≤ sizeLine ∧ Q (.int n) H') E) := by
  intro pins s σ H xs us Q I rx q
  obtain ⟨a, C, dx, fs, sp, rfl, ha, ⟨f, fd, ps, hs, hf, F, hb⟩, q⟩ := q
  exact own_len F hs hf hb hr hx pins s σ H _ us Q I rx ⟨a, dx, fs, rfl, ha, q⟩
/-- o + p -/
theorem own_addG (hr : Room k X.A) (hx : Passes CXf X E) :
    OpR X (binaryOp .Add) (fun x y H Q => ∃ a b C dx dy fs gs sp, x = .ref a ∧ y = .ref b ∧ H a = some (.ins C dx fs) ∧ H b = some (.ins C dy gs) ∧ PySem.W.selfFirst X.K C = true ∧ SpcF X.prog X.w X.K X.mg X.base CXf k C "__add__" sp ∧
      sp [.ref a, .ref b] H (fun v H' => (∃ q, v = .ref q) ∧ Q v H') E) := by
  intro pins s σ H x y v u Q I rx ry q
  obtain ⟨a, b, C, dx, dy, fs, gs, sp, rfl, rfl, ha, hb', hc, ⟨f, fd, ps, hs, hf, F, hb⟩, q⟩ := q
  exact own_add F hs hf hc hb hr hx pins s σ H _ _ v u Q I rx ry ⟨a, b, dx, dy, fs, gs, rfl, rfl, ha, hb', q⟩
end
end NB

set_option Elab.async false
set_option linter.all false
set_option maxRecDepth 100000
/-! B23: methods that may raise, the wish by the state -/
namespace NB
open PySem PySem.Spec PyProof.Rows L2
def tMethZ (C : Addr) (m : Str) (sp : Sp) (E : L2.St → XK) (ta : TE) (t : TA) : TE := fun σ H Q => ta σ H fun x H1 => ∃ a dx fs, x = .ref a ∧ H1 a = some (.ins C dx fs) ∧ fs.lookup m = none ∧ t σ H1 fun vs H2 => sp (.ref a :: vs) H2 Q (E σ)
section
variable {X : Cx} {k : Nat} {C f : Addr} {fd : FuncData} {ps : List Str} {sp : Sp} {E : L2.St → XK} {CXf : CXT} {m : Str} {o e : Expr} {es : List Expr} {ta : TE} {t : TA} {apos pos : Pos}
theorem pe_methZ {pl : Sem Bool} (he : PE X o ta) (c : Cls X.K C) (hm : Meth X.K C m f) (F : FnOk X.prog X.w X.K X.mg X.base CXf k f fd ps sp) (hr : Room k X.A) (hb : Binds X.K fd ps []) (hx : ∀ σ, PassesAt CXf X σ (E σ)) (ha : PA X (e :: es) t)
    (hst : starEach (e :: es) X.env = (false, eval e X.env) :: starEach es X.env := by rfl) (hpl : (backTo pos (starEach es X.env)).any (·.1) = false := by rfl)
    (ht : eval (.Call (.Attribute o m apos) (e :: es) [] pos) X.env = (do
      let ov ← eval o X.env
      standAt apos.atName
      let (f, first) ← holding [ov] (getMethod ov m pl)
      callWith pos f first (backTo pos (starEach (e :: es) X.env)) (backToKw pos (keywordEach [] X.env))) := by rfl) :
    PE X (.Call (.Attribute o m apos) (e :: es) [] pos) (tMethZ C m sp E ta t) := by
  refine ⟨fun pins s σ H Q I h => ?_⟩
  refine PySem.W.methodCall_KW (pl := pl) (thn (he.run pins s σ H _ I h) fun u s1 ⟨x, H1, I1, rx, a, dx, fs, ex, ea, l, q⟩ => ?_) ht
  subst ex
  obtain rfl : u = Value.ref a := rx
  refine getmeth_ok I1 ea c hm l ?_
  refine PySem.W.callWith_K (first := [.ref a]) (h₀ := X.base) I.ok.mod.kin hm.kp (thn (ha.run pos pins s1 σ H1 _ I1 q) fun us s2 ⟨vs, H2, I2, r, q2⟩ => ⟨I2.kIn, ?_⟩) hst hpl
  exact run_fnS (us := .ref a :: us) (vs := .ref a :: vs) F hr hb (hx σ) I2 (.cons rfl r) q2
theorem pe_methZ0 {pl : Sem Bool} (he : PE X o ta) (c : Cls X.K C) (hm : Meth X.K C m f) (F : FnOk X.prog X.w X.K X.mg X.base CXf k f fd ps sp) (hr : Room k X.A) (hb : Binds X.K fd ps []) (hx : ∀ σ, PassesAt CXf X σ (E σ))
    (ht : eval (.Call (.Attribute o m apos) [] [] pos) X.env = (do
      let ov ← eval o X.env
      standAt apos.atName
      let (f, first) ← holding [ov] (getMethod ov m pl)
      callWith pos f first (backTo pos (starEach [] X.env)) (backToKw pos (keywordEach [] X.env))) := by rfl) :
    PE X (.Call (.Attribute o m apos) [] [] pos) (tMethZ C m sp E ta tNil) := by
  refine ⟨fun pins s σ H Q I h => ?_⟩
  refine PySem.W.methodCall_KW (pl := pl) (thn (he.run pins s σ H _ I h) fun u s1 ⟨x, H1, I1, rx, a, dx, fs, ex, ea, l, q⟩ => ?_) ht
  subst ex
  obtain rfl : u = Value.ref a := rx
  refine getmeth_ok I1 ea c hm l ?_
  exact PySem.W.callWith_K0 (first := [.ref a]) I1.kIn hm.kp (run_fnS (us := [.ref a]) (vs := [.ref a]) F hr hb (hx σ) I1 (.cons rfl .nil) q)
variable {kws : List Keyword} {ks : List Str} {g : List Value → List Value → List Value} {gV : List V → List V → List V} {tk : TA}
def tMethZK (C : Addr) (m : Str) (n : Nat) (sp : Sp) (gV : List V → List V → List V) (E : L2.St → XK) (ta : TE) (tk : TA) : TE := fun σ H Q => ta σ H fun x H1 => ∃ a dx fs, x = .ref a ∧ H1 a = some (.ins C dx fs) ∧ fs.lookup m = none ∧ tk σ H1 fun zs H2 => zs.length = n ∧ sp (gV [.ref a] zs) H2 Q (E σ)
theorem pe_methZK {pl : Sem Bool} (he : PE X o ta) (c : Cls X.K C) (hm : Meth X.K C m f) (F : FnOk X.prog X.w X.K X.mg X.base CXf k f fd ps sp) (hr : Room k X.A) (hb : KBn X.K fd ps 1 ks g gV) (hx : ∀ σ, PassesAt CXf X σ (E σ)) (hkw : PK X kws tk)
    (hall : (backToKw pos (keywordEach kws X.env)).all (·.1.isSome) = true := by rfl) (hks : (backToKw pos (keywordEach kws X.env)).filterMap (·.1) = ks := by rfl)
    (hpl : ((backTo pos (starEach [] X.env)).any (·.1) || (backToKw pos (keywordEach kws X.env)).any (·.1.isNone)) = false := by rfl)
    (ht : eval (.Call (.Attribute o m apos) [] kws pos) X.env = (do
      let ov ← eval o X.env
      standAt apos.atName
      let (f, first) ← holding [ov] (getMethod ov m pl)
      callWith pos f first (backTo pos (starEach [] X.env)) (backToKw pos (keywordEach kws X.env))) := by rfl) :
    PE X (.Call (.Attribute o m apos) [] kws pos) (tMethZK C m ks.length sp gV E ta tk) := by
  refine ⟨fun pins s σ H Q I h => ?_⟩
  refine PySem.W.methodCall_KW (pl := pl) (thn (he.run pins s σ H _ I h) fun u s1 ⟨x, H1, I1, rx, a, dx, fs, ex, ea, l, q⟩ => ?_) ht
  subst ex
  obtain rfl : u = Value.ref a := rx
  refine getmeth_ok I1 ea c hm l ?_
  refine PySem.W.callWith_KW0 (first := [.ref a]) (h₀ := X.base) I.ok.mod.kin hm.kp hall (thn (hkw.run pos pins s1 σ H1 _ I1 q) fun ws s2 ⟨zs, H2, I2, rz, l2, q2⟩ => ⟨I2.kIn, ?_⟩) hpl
  rw [hks]
  have r1 : Vals [V.ref a] [Value.ref a] := .cons rfl .nil
  have e2 : ws.length = ks.length := rz.length.symm.trans l2
  refine wpAny_call (codeAny_mono (F.run X.A X.stack s2 H2 ⟨[.ref a], ks.zip ws⟩ (g [.ref a] ws) _ Q (E σ) hr I2.env0 (hb.to s2 [.ref a] ws I2.kIn rfl e2) (hb.rel r1 rz) q2) fun r s' hq => ?_)
  cases r with
  | error e => exact hx σ pins H2 s2 e s' I2 hq
  | ok fl =>
    cases fl with
    | ret u => exact I2.after hq
    | next => exact False.elim hq
    | brk => exact False.elim hq
    | cont => exact False.elim hq
end
section
variable {X : Cx}
/-- isinstance(e, c), e a caught error without a dict -/
def rBare (K : PySem.W.Frag) (D a : Addr) (cls : Value) (d : Option Addr) : List V → Hp → VK → Prop := fun xs H Q => cls = .ref D ∧ d = none ∧ rIsE K D a xs H Q
def rBareT (K : PySem.W.Frag) (D a : Addr) (cls : Value) (d : Option Addr) : List V → Hp → VK → Prop := fun xs H Q => ∃ (tp : Addr) (cs : List V) (us : List Value) (b : Bool), xs = [.ref a, .ref tp] ∧ cls = .ref D ∧ d = none ∧ H tp = some (.tup cs) ∧ Paired ClsV cs us ∧ PySem.W.kitAny K (.ref D) us = some b ∧ Q (.bl b) H
theorem call_bare {a D : Addr} {cls : Value} {d : Option Addr} {oe : Obj} {pn : List (Addr × Obj)} (C : ExcC X.K D) (hz : Zc cls d oe) (hf : ∃ vs, oe.data = .fields vs) : CallR (X.suite a ((a, oe) :: pn)) (.builtin "isinstance") (rBare X.K D a cls d) := by
  intro pins s σ H xs us Q I r h
  obtain ⟨rfl, rfl, h⟩ := h
  exact call_isE C hz hf pins s σ H xs us Q I r h
theorem call_bareT {a D : Addr} {cls : Value} {d : Option Addr} {oe : Obj} {pn : List (Addr × Obj)} (C : ExcC X.K D) (hz : Zc cls d oe) (hf : ∃ vs, oe.data = .fields vs) : CallR (X.suite a ((a, oe) :: pn)) (.builtin "isinstance") (rBareT X.K D a cls d) := by
  intro pins s σ H xs us Q I r h
  obtain ⟨tp, cs, ws, b, rfl, rfl, rfl, hT, kc, e, q⟩ := h
  obtain ⟨u1, u2, rfl, r1, r2⟩ := vals2 r
  obtain rfl : u1 = Value.ref a := r1
  obtain rfl : u2 = Value.ref tp := r2
  obtain ⟨hget, _⟩ := I.pin (a, oe) (List.mem_append.mpr (.inl List.mem_cons_self))
  obtain ⟨vs, hv⟩ := hf
  have J : PySem.W.InstAt s.heap a oe D none := by
    obtain ⟨oc, od, oda, osl⟩ := oe
    obtain ⟨h1, h2⟩ := hz
    dsimp only at h1 h2 hv
    subst h1 h2 hv
    exact ⟨hget, rfl, rfl, trivial⟩
  have okT : ObjOk X.prog X.w H s.heap tp (.tup cs) := I.hok tp _ hT
  obtain ⟨_, its, rv, o, h1, h2, n, h3⟩ := okT
  have e3 := ClsV.all kc rv
  subst e3
  obtain ⟨oc, odd, dt, sl⟩ := o
  dsimp only at h2 h3
  subst h2 h3
  exact PySem.W.kia_tup (PySem.W.handS_kitx_exc C.hg C.hk C.hs C.hd C.ha C.hn C.ht C.hm) I.kIn J h1 e (fun z => nomatch z) fun tk => ⟨.bl b, H, I.tok tk, rfl, q⟩
end
section
variable {X : Cx} {CXf : CXT} {k : Nat} {m : Str} {E : XK} {o : Expr} {ta : TE} {apos pos : Pos}
/-- o.m(), the class told by the reading -/
theorem pe_methG0 {pl : Sem Bool} (he : PE X o ta) (hr : Room k X.A) (hx : Passes CXf X E)
    (ht : eval (.Call (.Attribute o m apos) [] [] pos) X.env = (do
      let ov ← eval o X.env
      standAt apos.atName
      let (f, first) ← holding [ov] (getMethod ov m pl)
      callWith pos f first (backTo pos (starEach [] X.env)) (backToKw pos (keywordEach [] X.env))) := by rfl) :
    PE X (.Call (.Attribute o m apos) [] [] pos) (tMethG X.prog X.w X.K X.mg X.base CXf k m E ta tNil) := by
  refine ⟨fun pins s σ H Q I h => ?_⟩
  refine PySem.W.methodCall_KW (pl := pl) (thn (he.run pins s σ H _ I h) fun u s1 z => ?_) ht
  obtain ⟨x, H1, I1, rx, a, C, dx, fs, sp, ex, ea, l, ⟨f, fd, ps, c, hm, F, hb⟩, q⟩ := z
  subst ex
  obtain rfl : u = Value.ref a := rx
  refine getmeth_ok I1 ea c hm l ?_
  exact PySem.W.callWith_K0 (first := [.ref a]) I1.kIn hm.kp (run_fn (us := [.ref a]) (vs := [.ref a]) F hr hb .nil hx I1 (.cons rfl .nil) q)
end
theorem tIfS_by {c : TT} {t u : TS} {D : Ends} {σ : L2.St} {H : Hp} {I J : Hp → Prop} (h : ∀ Q : Bool → Hp → Prop, (∀ G, I G → Q true G) → (∀ G, J G → Q false G) → c σ H Q) (h1 : ∀ G, I G → t D σ G) (h2 : ∀ G, J G → u D σ G) : tIfS c t u D σ H :=
  h _ (fun G i => by simpa using h1 G i) (fun G j => by simpa using h2 G j)
end NB

set_option Elab.async false
set_option linter.all false
set_option maxRecDepth 100000
set_option maxHeartbeats 8000000
/-! K4x (k52): an entry tried, all entries undone, the number of the marks -/
namespace NB
open PySem PySem.Spec L2
open PyProof.Rows (envOfC)
open C8 (pe_c pe_mk pe_mt pe_mt0 pe_gc fnScope fnBody fnArgs fnScope_by Cal Met Mak)
def gN {α : Type} (us ws : List α) : List α := match us, ws with
  | [s], [n, z] => [s, z, n]
  | _, _ => []
theorem kb_see {K : PySem.W.Frag} {f : Addr} {fd : FuncData} (D : Mx K "see" "LiveLog.see" s_LiveLog_see ["self", "server", "number"] f fd) (df : fd.defaults = .none) : KBn K fd ["self", "server", "number"] 1 ["number", "server"] gN gN := by
  obtain ⟨oc, od, dV, kV, doc, pm, an, cdv, ct, osl, rfl, lk, hcd⟩ := D.fn.ex
  have e : dV = .none := df
  subst e
  refine ⟨fun s us ws X l1 l2 => ?_, fun r1 r2 => ?_⟩
  · match us, ws, l1, l2 with
    | [s], [n, z], _, _ => exact .of_eq rfl
  · cases r1 with
    | nil => exact .nil
    | cons a1 r1 =>
      cases r1 with
      | cons _ _ => exact .nil
      | nil =>
        cases r2 with
        | nil => exact .nil
        | cons b1 r2 =>
          cases r2 with
          | nil => exact .nil
          | cons b2 r2 =>
            cases r2 with
            | cons _ _ => exact .nil
            | nil => exact .cons a1 (.cons b2 (.cons b1 .nil))
def tbS (K : PySem.W.Frag) (CV CL cN : Addr) (W : WX) : TS :=
  tSeq (tAsg (tIf (mT (mV 3)) (tMethZK CV "see" 2 (spSee K CV CL cN) gN (WE W) (mV 0) (tCons (mV 2) (tCons (mV 1) tNil))) (tMethZ CV "see" (spSee K CV CL cN) (WE W) (mV 0) (tCons (mV 1) (tCons (mV 2) tNil)))) (gName 4))
    (tRet (tIf (mT (tOp (fun x y H Q => y = .non ∧ Q (.bl (decide (x = .non))) H) (mV 4) (tC .non))) (tTup tNil) (tC (.str "odd"))))
def tsS (cN a : Addr) (cls : Value) (d : Option Addr) : TS := tRet (tXf a cls d cN "obstacle" (mV 5))
def spTried (K : PySem.W.Frag) (cA cB cL cX : Addr) : Sp := fun vs H Q _ => ∃ M d sz ns es b z i bn ms, vs = [.ref d.v, .str z, .int i, .bl bn] ∧ LiveK M (kV cA cB b) (kC cL cX b) H d sz ns es ms ∧ (∀ x ∈ M, H x ≠ none) ∧ SizeOk sz ∧ CrewOk ns ∧ EntsOk ns es ∧ z ∈ ns ∧ 0 ≤ i ∧ es.length < 61 ∧
  (∀ H' t, LiveK M (kV cA cB b) (kC cL cX b) H' d sz ns (es ++ [(z, i)]) ms → H' t = some (.tup []) → Frm [d.s] H H' → TupSt H H' → Poss sz ns (es ++ [(z, i)]) → Q (.ref t) H') ∧
  ∀ H' w, Ext H H' → ObsX sz ns (es ++ [(z, i)]) H' w → Q w H'
section
variable {P : Program} {w : World} {K : PySem.W.Frag} {mg : Str → Option Value} {base : Heap} {cL cX cA cB cBk cN fT cU cI : Addr} {dT : FuncData} {A0 : Ads} {B : AdL}
theorem ok_tried (T : Tx K mg cL cX) (T2 : NotE K mg cBk cN fT dT) (eN : PySem.W.exmOne K (.ref cN) (.ref cN) = some true) (LVs : ∀ b, ∃ fB fF, LiveM K (kV cA cB b) fB fF B)
    (F_sees : ∀ b, FnOk P w K mg base (L2.CX P w) 8 B.fS B.dS ["self", "server", "number"] (spSee K (kV cA cB b) (kC cL cX b) cN)) (bS : Binds K B.dS ["self", "server", "number"] []) (kb_see : KBn K B.dS ["self", "server", "number"] 1 ["number", "server"] gN gN)
    (D : Dx K mg "_law_tried" s__law_tried ["live", "name", "number_here", "by_name"]) : Cal P w K mg base 9 "_law_tried" (spTried K cA cB cL cX) [] := by
  refine cal_of D sc__law_tried (fun vs H Q E h => ?_) (fun f cdv A o s H vs Q E hr h => ?_)
  · obtain ⟨M, d, sz, ns, es, b, z, i, bn, ms, rfl, _⟩ := h; rfl
  · obtain ⟨M, ⟨v, s_, m⟩, sz, ns, es, b, z, i, bn, ms, rfl, lv, al, so, cr, ok, hz, i0, el, k, kE⟩ := h
    obtain ⟨fB, fF, LV⟩ := LVs b
    have F_see := F_sees b
    generalize eCL : kC cL cX b = CL at *
    generalize eCV : kV cA cB b = CV at *
    refine ⟨_, (pss_one (ps_try_fst (i := 5) (tb := tbS K CV CL cN) (ts := tsS cN) rfl rfl sc__law_tried.nd rfl rfl ⟨rfl, by decide, .inl T2.g⟩ (fun W pn xe tk _ => (pss_cons (ps_set (i := 4) sc__law_tried.nd rfl (Or.inl rfl) (pe_ifExp (qv (mv 3)) (pe_methZK (mv 0) LV.cl LV.mS F_see (hr.mono (by decide)) kb_see (passAt tk) (pk_cons (mv 2) (pk_cons (mv 1) pk_nil))) (pe_methZ (mv 0) LV.cl LV.mS F_see (hr.mono (by decide)) bS (passAt tk) (pa_cons (mv 1) (pa_cons (mv 2) pa_nil)))))
    (pss_one (ps_ret (pe_ifExp (qt op_isN (mv 4) pe_non (nomark _)) (pe_tup pa_nil) pe_str))))) (fun a oe cls d pn hz hf => (pss_one (ps_ret (pe_xf T2.xf T2.nw hz hf (mv 5))))))), ?_⟩
    obtain ⟨dx, us, q, hv, hs, ul, lf⟩ := lv.now
    have hv : H v = some (.ins CV dx (vf s_ m)) := hv
    have hs : H s_ = some (.lst (us ++ [.ref q])) := hs
    have nl := vf_no s_ m (x := "see") (by decide +kernel) (by decide +kernel)
    have accept : ∀ {H1 : Hp} {q1 : Addr}, H q1 = none → LogN CL H H1 q1 sz ns (es ++ [(z, i)]) → Ext H H1 → ∀ t, (upd H1 s_ (.lst (us ++ [.ref q] ++ [.ref q1]))) t = none → Poss sz ns (es ++ [(z, i)]) → Q (.ref t) (upd (upd H1 s_ (.lst (us ++ [.ref q] ++ [.ref q1]))) t (.tup [])) := by
      intro H1 q1 nq lq x t nt cl
      have lv1 := lv.see hs al nq lq x
      have st := TupSt.upd (o := .lst (us ++ [.ref q] ++ [.ref q1])) (x _ _ hs) (fun _ z => nomatch z)
      refine k _ t (lv1.mono (Ext.upd nt)) upd_same ?_ ?_ cl
      · exact (((Frm.ext x)).upd mem1).trans (Frm.ext (Ext.upd nt))
      · exact ((TupSt.ext x).trans st).trans (TupSt.ext (Ext.upd nt))
    cases bn with
    | true =>
      refine ⟨v, dx, _, rfl, hv, nl, rfl, v, dx, s_, m, us, q, z, i, sz, ns, es, rfl, hv, hs, by omega, lf.at, so, cr, ok, hz, i0, by omega, fun H1 q1 nq lq x cl => ?_, fun H1 dd w_ x hdd ov => ?_⟩
      · exact ⟨rfl, ifT (by rfl) ⟨Nat.zero_le _, fun t nt => accept nq lq x t nt cl⟩⟩
      · exact ⟨eN, fun a na => ⟨rfl, rfl, dd, _, _, rfl, hdd, rfl, kE _ _ x ov⟩⟩
    | false =>
      refine ⟨v, dx, _, rfl, hv, nl, v, dx, s_, m, us, q, z, i, sz, ns, es, rfl, hv, hs, by omega, lf.at, so, cr, ok, hz, i0, by omega, fun H1 q1 nq lq x cl => ?_, fun H1 dd w_ x hdd ov => ?_⟩
      · exact ⟨rfl, ifT (by rfl) ⟨Nat.zero_le _, fun t nt => accept nq lq x t nt cl⟩⟩
      · exact ⟨eN, fun a na => ⟨rfl, rfl, dd, _, _, rfl, hdd, rfl, kE _ _ x ov⟩⟩
end
end NB

set_option Elab.async false
set_option linter.all false
set_option maxRecDepth 100000
set_option maxHeartbeats 2000000
/-! B18: a text many times; repr of numbers and of data; calls of defs that may raise -/
namespace NB
open PySem PySem.Spec PyProof.Rows L2
section
variable {X : Cx}
theorem op_mulS : OpR X (binaryOp .Mult) (fun x y H Q => ∃ z k, x = .str z ∧ y = .int k ∧ MulOk z k ∧ Q (.str (Txt.mul z k)) H) := by
  intro pins s σ H x y v u Q I rx ry h
  obtain ⟨z, k, rfl, rfl, ok, q⟩ := h
  obtain ⟨t, rfl⟩ := rx
  obtain ⟨t2, rfl⟩ := ry
  exact SB.mul ok fun t3 tk => ⟨.str (Txt.mul z k), H, I.tok _, ⟨t3, rfl⟩, q⟩
/-- repr of a number, or of data -/
def rRepA (K : PySem.W.Frag) : List V → Hp → VK → Prop := fun xs H Q => (∃ i, xs = [.int i] ∧ i.natAbs.log2 < 1920 ∧ Q (.str (Str.ofString (toString i))) H) ∨ mRep K xs H Q
theorem call_repA (hu : X.A.units + 64 < cLine) (hgd : X.A.guards = some []) : CallR X (.builtin "repr") (rRepA X.K) := by
  intro pins s σ H xs us Q I r h
  rcases h with h | h
  · exact SkE.call_repr_int pins s σ H xs us Q I r h
  · exact call_rep hu hgd pins s σ H xs us Q I r h
end
/-- a def that may raise -/
structure CalX (P : Program) (w : World) (K : PySem.W.Frag) (mg : Str → Option Value) (base : Heap) (k : Nat) (x : Str) (sp : Sp) : Prop where
  ex : ∃ (f : Addr) (fd : FuncData) (ps : List Str), FnOk P w K mg base (L2.CX P w) k f fd ps sp ∧ mg x = some (.ref f) ∧ PySem.W.keepIn K (.ref f) = true ∧ Binds K fd ps []
/-- .. by keywords alone -/
structure CalXK (P : Program) (w : World) (K : PySem.W.Frag) (mg : Str → Option Value) (base : Heap) (k : Nat) (x : Str) (sp : Sp) (ks : List Str) (gV : List V → List V → List V) : Prop where
  ex : ∃ (f : Addr) (fd : FuncData) (ps : List Str) (g : List Value → List Value → List Value), FnOk P w K mg base (L2.CX P w) k f fd ps sp ∧ mg x = some (.ref f) ∧ PySem.W.keepIn K (.ref f) = true ∧ KBn K fd ps 0 ks g gV
def tCallKS (n : Nat) (sp : Sp) (gV : List V → List V → List V) (E : L2.St → XK) (tk : TA) : TE := fun σ H Q => tk σ H fun zs H1 => zs.length = n ∧ sp (gV [] zs) H1 Q (E σ)
section
variable {X : Cx} {j k : Nat} {sp : Sp} {x : Str} {p pos : Pos} {e : Expr} {es : List Expr} {t : TA} {W : WX}
theorem pe_cX (c : CalX X.prog X.w X.K X.mg X.base k x sp) (tk : Takes X W) (hr : Room j X.A) (hk : k ≤ j) (hg : Gl X x) (ha : PA X (e :: es) t)
    (hdb : (x == ("__debug__" : Str)) = false := by decide) (he : starEach (e :: es) X.env = (false, eval e X.env) :: starEach es X.env := by rfl) (hpl : (backTo pos (starEach es X.env)).any (·.1) = false := by rfl) :
    PE X (.Call (.Name x p) (e :: es) [] pos) (tCallS sp (WE W) t) := by
  obtain ⟨f, fd, ps, F, hm, kp, b⟩ := c.ex
  exact pe_callS F (hr.mono hk) hg hm kp b (passAt tk) ha hdb he hpl
variable {ks : List Str} {kws : List Keyword} {tk : TA} {gV : List V → List V → List V}
theorem pe_cXK (c : CalXK X.prog X.w X.K X.mg X.base k x sp ks gV) (tw : Takes X W) (hr : Room j X.A) (hk : k ≤ j) (hg : Gl X x) (hkw : PK X kws tk) (hall : (backToKw pos (keywordEach kws X.env)).all (·.1.isSome) = true := by rfl) (hks : (backToKw pos (keywordEach kws X.env)).filterMap (·.1) = ks := by rfl)
    (hdb : (x == ("__debug__" : Str)) = false := by decide)
    (hpl : ((backTo pos (starEach [] X.env)).any (·.1) || (backToKw pos (keywordEach kws X.env)).any (·.1.isNone)) = false := by rfl) :
    PE X (.Call (.Name x p) [] kws pos) (tCallKS ks.length sp gV (WE W) tk) := by
  obtain ⟨f, fd, ps, g, F, hm, kp, b⟩ := c.ex
  constructor
  intro pins s σ H Q I h
  refine wpAny_Call_Name_kw (ld_glob I hg hm ?_ hdb)
  refine PySem.W.callWith_KW0 (first := []) (h₀ := X.base) I.ok.mod.kin kp hall (thn (hkw.run pos pins s σ H _ I h) fun ws s2 z => ?_) hpl
  obtain ⟨zs, H2, I2, rz, l2, q2⟩ := z
  refine ⟨I2.kIn, ?_⟩
  rw [hks]
  have e2 : ws.length = ks.length := rz.length.symm.trans l2
  refine wpAny_call (codeAny_mono (F.run X.A X.stack s2 H2 ⟨[], ks.zip ws⟩ (g [] ws) _ Q (WE W σ) (hr.mono hk) I2.env0 (b.to s2 [] ws I2.kIn rfl e2) (b.rel .nil rz) q2) fun r s3 hq => ?_)
  cases r with
  | error er => exact passAt tw σ pins H2 s2 er s3 I2 hq
  | ok fl =>
    cases fl with
    | ret u => exact I2.after hq
    | next => exact False.elim hq
    | brk => exact False.elim hq
    | cont => exact False.elim hq
end
end NB

set_option Elab.async false
set_option linter.all false
set_option maxRecDepth 100000
set_option maxHeartbeats 8000000
/-! K4t (k46): whether a live log has these entries -/
namespace NB
open PySem PySem.Spec L2
open PyProof.Rows (envOfC)
open C8 (pe_c pe_mk pe_mt pe_mt0 pe_gc fnScope fnBody fnArgs fnScope_by Cal Met Mak)
theorem Sm.str' {z : Str} {m : Nat} (h : PyData.canLay0 (.str z) = true) (hl : z.length ≤ m) : Sm m 0 (.str z) := ⟨h, rfl, rfl, Nat.le_refl _, rfl, hl⟩
theorem Sm.tup2 {x y : PyData} {n a b : Nat} (h1 : Sm a n x) (h2 : Sm b n y) : Sm (a + b + 2) (n + 1) (.tuple [x, y]) := by
  refine ⟨?_, ?_, ?_, ?_, ?_, ?_⟩
  · simp only [PyData.canLay0, PyData.canLayAll0, h1.lay, h2.lay, Bool.and_self]
  · simp only [PyData.showable, PyData.showableAll, h1.sho, h2.sho, Bool.and_self]
  · simp only [PyData.hasDict, PyData.hasDictAll, h1.nod, h2.nod, Bool.or_self]
  · show max x.depth (max y.depth 0) + 1 ≤ n + 1
    have := h1.dep
    have := h2.dep
    omega
  · simp only [PyData.intsShort, PyData.intsShortAll, h1.ish, h2.ish, Bool.and_self]
  · show PyData.weightAll [x, y] ≤ _
    simp only [PyData.weightAll]
    have := h1.wt
    have := h2.wt
    omega
theorem Sm.name {z : Str} (h : nameB z = true) : Sm 8 0 (.str z) := by
  refine .str' (strOk_name h) ?_
  unfold nameB at h
  simp only [Bool.and_eq_true, decide_eq_true_eq] at h
  exact h.1.2
theorem Sm.ent {e : Str × Int} (h : nameB e.1 = true) (h0 : 0 ≤ e.2) (h1 : e.2 < 10 ^ 60) : Sm 210 1 (encE e) := .tup2 (.name h) (.int (by omega))
theorem Sm.ents {es : List (Str × Int)} (h : ∀ e ∈ es, nameB e.1 = true ∧ 0 ≤ e.2 ∧ e.2 < 10 ^ 60) (hl : es.length ≤ 200) : Sm 42200 2 (encL es) := by
  refine (Sm.list (W := 210) (n := 1) (m := 200) (fun d hd => ?_) (by rw [List.length_map]; exact hl)).mono (by decide) (by decide)
  obtain ⟨e, he, rfl⟩ := List.mem_map.mp hd
  exact .ent (h e he).1 (h e he).2.1 (h e he).2.2
theorem Sm.names {ns : List Str} (h : ∀ z ∈ ns, nameB z = true) (hl : ns.length ≤ 12) : Sm 108 1 (encS ns) := by
  refine (Sm.list (W := 8) (n := 0) (m := 12) (fun d hd => ?_) (by rw [List.length_map]; exact hl)).mono (by decide) (by decide)
  obtain ⟨e, he, rfl⟩ := List.mem_map.mp hd
  exact .name (h e he)
def encT (sz : Int) (ns : List Str) (es : List (Str × Int)) : PyData := .list [.int sz, encS ns, encL es]
theorem Sm.told {sz : Int} {ns : List Str} {es : List (Str × Int)} (so : SizeOk sz) (cr : CrewOk ns) (ok : EntsOk ns es) (big : ∀ e ∈ es, e.2 < 10 ^ 60) : Sm 126603 3 (encT sz ns es) := by
  refine (Sm.list (ds := [.int sz, encS ns, encL es]) (W := 42200) (n := 2) (m := 3) (fun d hd => ?_) (Nat.le_refl 3)).mono (by decide) (by decide)
  simp only [List.mem_cons, List.not_mem_nil, or_false] at hd
  rcases hd with rfl | rfl | rfl
  · exact (Sm.int (by have := so.1; have := so.2; omega)).mono (by decide) (by decide)
  · exact (Sm.names cr.nam cr.few).mono (by decide) (by decide)
  · exact (Sm.ents (fun e he => ⟨cr.nam _ (ok.ok e he).1, (ok.ok e he).2, big e he⟩) ok.few)
def spSame (cA cB cL cX : Addr) : Sp := fun vs H Q _ => ∃ M d sz a ns l es xs b ms, vs = [.ref d.v, .int sz, .ref a, .ref l, .bl b] ∧ LiveK M (kV cA cB b) (kC cL cX b) H d sz ns es ms ∧ SizeOk sz ∧ H a = some (.lst (ns.map V.str)) ∧ CrewOk ns ∧ H l = some (.lst xs) ∧ EntL H es xs ∧ EntsOk ns es ∧ (∀ e ∈ es, e.2 < 10 ^ 60) ∧ es.length ≤ 60 ∧ ∀ H', Ext H H' → Q (.bl true) H'
section
variable {P : Program} {w : World} {K : PySem.W.Frag} {mg : Str → Option Value} {base : Heap} {cL cX cA cB : Addr} {A0 : Ads} {B : AdL}
theorem ok_same (T : Tx K mg cL cX) (Ms : Ms K A0) (LMs : ∀ b, LogM K cL cX (kC cL cX b) b A0) (LVs : ∀ b, ∃ fB fF, LiveM K (kV cA cB b) fB fF B) (F_nows : ∀ b, FnOk P w K mg base C8.CX0 1 B.fN B.dN ["self"] (spNow (kV cA cB b))) (bN : Binds K B.dN ["self"] [])
    (F_lens : ∀ b, FnOk P w K mg base C8.CX0 1 B.fL B.dL ["self"] (spLenV (kV cA cB b))) (bL : Binds K B.dL ["self"] []) (D : Dx K mg "_law_same" s__law_same ["live", "wide", "names", "rows", "is_losing"]) (c__law_log : Cal P w K mg base 6 "_law_log" (spLog cL cX) []) :
    CalG P w K mg base 8 "_law_same" (spSame cA cB cL cX) := by
  refine calG_of D sc__law_same (fun vs H Q E h => ?_) (fun f cdv A o s H vs Q E hr hgd h => ?_)
  · obtain ⟨M, d, sz, a, ns, l, es, xs, b, ms, rfl, _⟩ := h; rfl
  · obtain ⟨M0, ⟨v, s_, m⟩, sz, a, ns, l, es, xs, b, ms, rfl, lv, so, ha, cr, hl, el, ok, big, h60, k⟩ := h
    have M := LMs b
    obtain ⟨fB, fF, LV⟩ := LVs b
    have F_now := F_nows b
    have F_lenV := F_lens b
    have F_size := ok_size (P := P) (w := w) (mg := mg) (base := base) M.toLogC Ms.mZ
    have F_servers := ok_servers (P := P) (w := w) (base := base) T M.toLogC Ms.mV
    have F_entries := ok_entries (P := P) (w := w) (base := base) T M.toLogC Ms.mE
    have F_eq := ok_eq (P := P) (w := w) (base := base) T M.toLogC M.toLogC M.kl Ms.mQ
    obtain ⟨_, pZ⟩ := M.pZ
    obtain ⟨_, pV⟩ := M.pV
    obtain ⟨_, pE⟩ := M.pE
    generalize eCL : kC cL cX b = CL at *
    generalize eCV : kV cA cB b = CV at *
    have sm := Sm.told so cr ok big
    have eqR : ∀ {G : Hp} {x y : Addr} {E1 E2 : List (Str × Int)} {R : Bool → Hp → Prop}, LogAt CL G x sz ns E1 → LogAt CL G y sz ns E2 → EntsOk ns E1 → EntsOk ns E2 → E1 = E2 → R true G →
        ∃ x' y' dx dy fs gs, V.ref x = .ref x' ∧ V.ref y = .ref y' ∧ G x' = some (.ins CL dx fs) ∧ G y' = some (.ins CL dy gs) ∧ spEqL CL CL (kdB b) (kdB b) [.ref x', .ref y'] G (kB fun c H' => R c H') C8.E0 := by
      intro G x y E1 E2 R l1 l2 o1 o2 e r
      obtain ⟨dx, _, _, _, hx, _⟩ := id l1
      obtain ⟨dy, _, _, _, hy, _⟩ := id l2
      refine ⟨x, y, dx, dy, _, _, rfl, rfl, hx, hy, x, y, sz, ns, E1, sz, ns, E2, rfl, l1, l2, o1, cr.nam, o2, cr.nam, ?_⟩
      subst e
      have t : (decide (kdB b = kdB b) && decide (sz = sz) && decide (ns = ns) && decide (E1 = E1)) = true := by simp
      show R (decide (kdB b = kdB b) && decide (sz = sz) && decide (ns = ns) && decide (E1 = E1)) G
      rw [t]; exact r
    obtain ⟨dx, us, q, hv, hs, ul, lf⟩ := lv.now
    have hv : H v = some (.ins CV dx (vf s_ m)) := hv
    have hs : H s_ = some (.lst (us ++ [.ref q])) := hs
    have lg := lf.at
    clear lf
    obtain ⟨u0, us0, eus⟩ : ∃ u us', us ++ [V.ref q] = u :: us' := by
      cases us with
      | nil => exact ⟨_, _, rfl⟩
      | cons u us => exact ⟨_, _, rfl⟩
    have us0l : us0.length = es.length := by
      have := congrArg List.length eus
      rw [List.length_append, List.length_singleton, List.length_cons] at this
      omega
    refine ⟨_, (C8.pss_cut (ps_par (i := 5) (j := 6) rfl sc__law_same.nd rfl rfl (by decide) rfl rfl (pa_cons (pe_meth0 (mv 0) LV.cl LV.mN F_now (hr.mono (by decide)) bN .nil ps0) (pa_cons (pe_callB (call_rep hr.units (gd_deeper hgd)) (by rfl) T.n_repr (by decide +kernel) (pa_cons (pe_lst (pa_cons (mv 1) (pa_cons (mv 2) (pa_cons (mv 3) pa_nil)))) pa_nil)) pa_nil)) (by rfl))
    (C8.pss_cut (ps_if (PW.pt (pw_or (qt m_ne (pe_callB (call_rep hr.units (gd_deeper hgd)) (by rfl) T.n_repr (by decide +kernel) (pa_cons (pe_lst (pa_cons (pe_prop (mv 5) M.cl pZ F_size (hr.mono (by decide)) Ms.mZ.b .nil ps0 rfl) (pa_cons (pe_prop (mv 5) M.cl pV F_servers (hr.mono (by decide)) Ms.mV.b .nil ps0 rfl) (pa_cons (pe_prop (mv 5) M.cl pE F_entries (hr.mono (by decide)) Ms.mE.b .nil ps0 rfl) pa_nil)))) pa_nil)) (mv 6) (nomark _)) (pw_or1 (qt m_ne (pe_callB (own_len F_lenV LV.sN LV.iN bL (hr.mono (by decide)) ps0) (by rfl) T.n_len (by decide +kernel) (pa_cons (mv 0) pa_nil)) (pe_callB call_len (by rfl) T.n_len (by decide +kernel) (pa_cons (mv 3) pa_nil)) (nomark _))))) (pss_one (ps_ret pe_bl)) pss_nil)
    (C8.pss_cut (ps_for PassesOwn.never rfl (pi_list (pe_lst (pa_cons (pe_prop (mv 5) M.cl pV F_servers (hr.mono (by decide)) Ms.mV.b .nil ps0 rfl) (pa_cons (pe_prop (mv 5) M.cl pE F_entries (hr.mono (by decide)) Ms.mE.b .nil ps0 rfl) pa_nil)))) (pg_name (i := 7) sc__law_same.nd rfl (Or.inl rfl))
    (C8.pss_cut (ps_expr (pe_bm PySem.F.plainAttrs_list PySem.F.slot_list_append PySem.F.type_list_append mt_append (mv 7) (pa_cons (pe_tup (pa_cons pe_str (pa_cons pe_int pa_nil))) pa_nil)))
    (pss_one (ps_expr (pe_bm0 PySem.F.plainAttrs_list PySem.F.slot_list_reverse PySem.F.type_list_reverse mt_reverse (mv 7))))))
    (C8.pss_cut (ps_if (PW.pt (pw_or (qt m_ne (pe_callB call_isi (by rfl) T.n_isinstance (by decide +kernel) (pa_cons (mv 5) (pa_cons (pe_gc rfl T.g_LosingLog) pa_nil))) (mv 4) (nomark _)) (pw_or1 (pt_not (qt (own_eq hr.units0 F_eq M.sQ M.iQ Ms.mQ.b (hr.mono (by decide)) ps0) (mv 5) (pe_c c__law_log hr (by decide) rfl (pa_cons (mv 1) (pa_cons (mv 2) (pa_cons (mv 3) (pa_cons (mv 4) pa_nil))))) (nomark _)))))) (pss_one (ps_ret pe_bl)) pss_nil)
    (pss_one (ps_ret (pe_cmpR m_eq (pe_callB (call_rep hr.units (gd_deeper hgd)) (by rfl) T.n_repr (by decide +kernel) (pa_cons (pe_lst (pa_cons (pe_prop (pe_meth0 (mv 0) LV.cl LV.mN F_now (hr.mono (by decide)) bN .nil ps0) M.cl pZ F_size (hr.mono (by decide)) Ms.mZ.b .nil ps0 rfl) (pa_cons (pe_prop (pe_meth0 (mv 0) LV.cl LV.mN F_now (hr.mono (by decide)) bN .nil ps0) M.cl pV F_servers (hr.mono (by decide)) Ms.mV.b .nil ps0 rfl) (pa_cons (pe_prop (pe_meth0 (mv 0) LV.cl LV.mN F_now (hr.mono (by decide)) bN .nil ps0) M.cl pE F_entries (hr.mono (by decide)) Ms.mE.b .nil ps0 rfl) pa_nil)))) pa_nil)) (mv 6) (nomark _)))))))), ?_⟩
    refine ⟨fun σ H' => σ = [some (.ref v), some (.int sz), some (.ref a), some (.ref l), some (.bl b), some (.ref q), some (.str (encT sz ns es).shown), none] ∧ Ext H H', ?_, ?_⟩
    · refine ⟨v, dx, _, rfl, hv, vf_no _ _ (by decide +kernel) (by decide +kernel), v, dx, s_, m, us, .ref q, rfl, hv, hs, ?_⟩
      refine ⟨(by show 3 ≤ sizeLine; decide), fun t nt => ?_⟩
      have x1 := Ext.upd (o := .lst [.int sz, .ref a, .ref l]) nt
      refine ⟨_, encT sz ns es, rfl, .lst (SqL.of upd_same) (.cons (.int _) (.cons (dp_S (SqL.of (x1 _ _ ha))) (.cons (dp_L (SqL.of (x1 _ _ hl)) (el.mono x1)) .nil))), rfl, sm.sho, sm.nod, Nat.le_trans sm.dep (by decide), sm.fits (by decide), ?_⟩
      exact ⟨_, _, rfl, rfl, x1⟩
    rintro σ H1 ⟨rfl, x1⟩
    refine ⟨fun σ H' => σ = [some (.ref v), some (.int sz), some (.ref a), some (.ref l), some (.bl b), some (.ref q), some (.str (encT sz ns es).shown), none] ∧ Ext H H', ?_, ?_⟩
    · have lg1 := lg.mono x1
      obtain ⟨dp, ls, le, _, hp, _⟩ := id lg1
      refine ⟨q, dp, _, rfl, hp, q, sz, ns, es, rfl, lg1, q, dp, _, rfl, hp, q, sz, ns, es, rfl, lg1, fun la na => ?_⟩
      have y1 := Ext.upd (o := .lst (ns.map V.str)) na
      have c1 : (upd H1 la (.lst (ns.map V.str))) la = some (.lst (ns.map V.str)) := upd_same
      have lg2 := lg1.mono y1
      have hp2 := y1 _ _ hp
      have x2 := x1.trans y1
      generalize upd H1 la (.lst (ns.map V.str)) = H2 at c1 lg2 hp2 x2 ⊢
      refine ⟨q, dp, _, rfl, hp2, q, sz, ns, es, rfl, lg2, fun lb xs2 nb el2 => ?_⟩
      have y2 := Ext.upd (o := .lst xs2) nb
      have c2 : (upd H2 lb (.lst xs2)) lb = some (.lst xs2) := upd_same
      have el2 := el2.mono y2
      have c1 := y2 _ _ c1
      have x2 := x2.trans y2
      generalize upd H2 lb (.lst xs2) = H3 at c1 c2 el2 x2 ⊢
      refine ⟨(by show 3 ≤ sizeLine; decide), fun t nt => ?_⟩
      have y3 := Ext.upd (o := .lst [.int sz, .ref la, .ref lb]) nt
      have x3 := x2.trans y3
      refine ⟨_, encT sz ns es, rfl, .lst (SqL.of upd_same) (.cons (.int _) (.cons (dp_S (SqL.of (y3 _ _ c1))) (.cons (dp_L (SqL.of (y3 _ _ c2)) (el2.mono y3)) .nil))), rfl, sm.sho, sm.nod, Nat.le_trans sm.dep (by decide), sm.fits (by decide), ?_⟩
      generalize upd H3 t (.lst [.int sz, .ref la, .ref lb]) = H4 at x3 ⊢
      refine ifND (p := (encT sz ns es).shown = (encT sz ns es).shown) (fun n => absurd rfl n) (fun _ => ?_)
      refine ⟨v, dx, _, rfl, x3 _ _ hv, v, dx, s_, m, u0, us0, rfl, x3 _ _ hv, by rw [← eus]; exact x3 _ _ hs, fun G xG => ⟨_, rfl, by rw [us0l]; exact Nat.le_trans h60 (by decide), ?_⟩⟩
      have x4 := x3.trans xG
      refine ⟨_, _, rfl, .inl ⟨_, SqL.of (x4 _ _ hl), rfl⟩, ?_⟩
      refine ifND (p := ((us0.length : Nat) : Int) = (xs.length : Int)) (fun n => absurd (by rw [us0l, el.len]) n) (fun _ => ⟨rfl, x4⟩)
    clear x1
    rintro σ H1 ⟨rfl, x1⟩
    refine ⟨fun σ H' => ∃ v7, σ = [some (.ref v), some (.int sz), some (.ref a), some (.ref l), some (.bl b), some (.ref q), some (.str (encT sz ns es).shown), v7] ∧ Ext H H', ?_, ?_⟩
    · have lg1 := lg.mono x1
      obtain ⟨dp, ls, le, _, hp, _⟩ := id lg1
      refine ⟨q, dp, _, rfl, hp, q, sz, ns, es, rfl, lg1, fun la na => ?_⟩
      have y1 := Ext.upd (o := .lst (ns.map V.str)) na
      have c1 : (upd H1 la (.lst (ns.map V.str))) la = some (.lst (ns.map V.str)) := upd_same
      have na0 := Ext.free x1 na
      have lg2 := lg1.mono y1
      have hp2 := y1 _ _ hp
      have x2 := x1.trans y1
      generalize upd H1 la (.lst (ns.map V.str)) = H2 at c1 lg2 hp2 x2 ⊢
      refine ⟨q, dp, _, rfl, hp2, q, sz, ns, es, rfl, lg2, fun lb xs2 nb el2 => ?_⟩
      have y2 := Ext.upd (o := .lst xs2) nb
      have c2 : (upd H2 lb (.lst xs2)) lb = some (.lst xs2) := upd_same
      have nb0 := Ext.free x2 nb
      have xl : xs2.length = es.length := by have := el2.len; omega
      have ab : la ≠ lb := ne_of_none c1 nb
      have c1 := y2 _ _ c1
      have x2 := x2.trans y2
      generalize upd H2 lb (.lst xs2) = H3 at c1 c2 x2 ⊢
      refine ⟨(by show 2 ≤ sizeLine; decide), fun t nt => ?_⟩
      have y3 := Ext.upd (o := .lst [.ref la, .ref lb]) nt
      have c3 : (upd H3 t (.lst [.ref la, .ref lb])) t = some (.lst [.ref la, .ref lb]) := upd_same
      have c0 : ∀ c ∈ [la, lb], H c = none := fun c hc => by
        simp only [List.mem_cons, List.not_mem_nil, or_false] at hc
        rcases hc with rfl | rfl
        · exact na0
        · exact nb0
      have ct : ∀ c ∈ [la, lb], t ≠ c := fun c hc => by
        simp only [List.mem_cons, List.not_mem_nil, or_false] at hc
        rcases hc with rfl | rfl
        · exact (ne_of_none c1 nt).symm
        · exact (ne_of_none c2 nt).symm
      have cs : ∀ c ∈ [la, lb], ∃ yc, (upd H3 t (.lst [.ref la, .ref lb])) c = some (.lst yc) ∧ yc.length ≤ 100 + 0 := fun c hc => by
        simp only [List.mem_cons, List.not_mem_nil, or_false] at hc
        rcases hc with rfl | rfl
        · exact ⟨_, y3 _ _ c1, by rw [List.length_map]; have := cr.few; omega⟩
        · exact ⟨_, y3 _ _ c2, by omega⟩
      have x3 := x2.trans y3
      generalize upd H3 t (.lst [.ref la, .ref lb]) = H4 at c3 cs x3 ⊢
      refine ⟨t, rfl, ⟨_, SqL.of c3⟩, for_list (K := K) (a := t) (xs := [.ref la, .ref lb]) (fun i σ H' => ∃ v7, σ = [some (.ref v), some (.int sz), some (.ref a), some (.ref l), some (.bl b), some (.ref q), some (.str (encT sz ns es).shown), v7] ∧ Ext H H' ∧ H' t = some (.lst [.ref la, .ref lb]) ∧ ∀ c ∈ [la, lb], ∃ yc, H' c = some (.lst yc) ∧ yc.length ≤ 100 + i) ⟨_, rfl, x3, c3, cs⟩ ?_ ?_ ?_⟩
      · rintro i σ H' _ ⟨_, rfl, _, h, _⟩; exact SqL.of h
      · clear c3 cs x3 c1 c2 x2 y3 nt
        rintro i y σ G hy ⟨v7, rfl, xG, c3, cs⟩
        have hi : i < 2 := (List.getElem?_eq_some_iff.mp hy).1
        obtain ⟨c, hc, rfl⟩ : ∃ c ∈ [la, lb], y = .ref c := by
          have := List.mem_of_getElem? hy
          simp only [List.mem_cons, List.not_mem_nil, or_false] at this
          rcases this with rfl | rfl
          · exact ⟨_, by simp, rfl⟩
          · exact ⟨_, by simp, rfl⟩
        obtain ⟨yc, hyc, ycl⟩ := cs c hc
        have keep : ∀ {G G' : Hp} {zs : List V}, G' = upd G c (.lst zs) → zs.length ≤ 100 + (i + 1) → Ext H G → G t = some (.lst [.ref la, .ref lb]) → (∀ d ∈ [la, lb], ∃ yc, G d = some (.lst yc) ∧ yc.length ≤ 100 + (i + 1)) → Ext H G' ∧ G' t = some (.lst [.ref la, .ref lb]) ∧ ∀ d ∈ [la, lb], ∃ yc, G' d = some (.lst yc) ∧ yc.length ≤ 100 + (i + 1) := by
          rintro G G' zs rfl hz x ht hd
          refine ⟨put_ext x (c0 c hc), by rw [upd_ne (ct c hc)]; exact ht, fun d hd' => ?_⟩
          by_cases e : d = c
          · exact ⟨zs, by rw [e]; exact upd_same, hz⟩
          · obtain ⟨yd, h1, h2⟩ := hd d hd'
            exact ⟨yd, by rw [upd_ne e]; exact h1, h2⟩
        have cs' : ∀ d ∈ [la, lb], ∃ yc, G d = some (.lst yc) ∧ yc.length ≤ 100 + (i + 1) := fun d hd => by
          obtain ⟨yd, h1, h2⟩ := cs d hd
          exact ⟨yd, h1, by omega⟩
        refine ⟨fun σ H' => ∃ zs, σ = [some (.ref v), some (.int sz), some (.ref a), some (.ref l), some (.bl b), some (.ref q), some (.str (encT sz ns es).shown), some (.ref c)] ∧ (Ext H H' ∧ H' t = some (.lst [.ref la, .ref lb]) ∧ ∀ d ∈ [la, lb], ∃ yc, H' d = some (.lst yc) ∧ yc.length ≤ 100 + (i + 1)) ∧ H' c = some (.lst zs) ∧ zs.length ≤ 100 + (i + 1), ?_, ?_⟩
        · refine ⟨.inl ⟨rfl, _, SqL.of hyc⟩, (by show 2 ≤ sizeLine; decide), fun tp ntp => ?_⟩
          have xp := Ext.upd (o := .tup [.str "x", .int 0]) ntp
          refine ⟨c, yc, _, rfl, rfl, xp _ _ hyc, Nat.lt_of_le_of_lt (show yc.length ≤ 102 by omega) (by decide), yc ++ [.ref tp], rfl, keep rfl (by rw [List.length_append, List.length_singleton]; omega) (xG.trans xp) (xp _ _ c3) (fun d hd => ?_), upd_same, by rw [List.length_append, List.length_singleton]; omega⟩
          obtain ⟨yd, h1, h2⟩ := cs' d hd
          exact ⟨yd, xp _ _ h1, h2⟩
        rintro σ G1 ⟨zs, rfl, ⟨x1, t1, d1⟩, hz, zl⟩
        refine ⟨.inl ⟨rfl, _, SqL.of hz⟩, c, zs, rfl, rfl, hz, _, rfl, ?_⟩
        exact keep rfl (by rw [List.length_reverse]; exact zl) x1 t1 d1
      · rintro σ G ⟨v7, rfl, xG, _⟩
        exact ⟨v7, rfl, xG⟩
    clear x1
    rintro σ H1 ⟨v7, rfl, x1⟩
    refine ⟨fun σ H' => σ = [some (.ref v), some (.int sz), some (.ref a), some (.ref l), some (.bl b), some (.ref q), some (.str (encT sz ns es).shown), v7] ∧ Ext H H', ?_, ?_⟩
    · obtain ⟨dp, ls, le, _, hp, _⟩ := id (lg.mono x1)
      refine ⟨_, _, _, _, _, rfl, .own _, M.ty _ _ _ _ hp, M.kx, ?_⟩
      refine ifND (p := b = b) (fun z => absurd rfl z) (fun _ => ?_)
      refine ⟨sz, a, ns, l, es, xs, b, rfl, so, x1 _ _ ha, cr, x1 _ _ hl, el.mono x1, ok, fun H2 q2 nq2 lq2 x2 => ?_⟩
      have x3 := x1.trans x2
      rw [eCL] at lq2
      exact eqR (lg.mono x3) lq2.at ok ok rfl (ifF (by rfl) ⟨rfl, x3⟩)
    clear x1
    rintro σ H1 ⟨rfl, x1⟩
    have lg1 := lg.mono x1
    obtain ⟨dp, ls, le, _, hp, _⟩ := id lg1
    have nl := vf_no s_ m (x := "now") (by decide +kernel) (by decide +kernel)
    refine ⟨v, dx, _, rfl, x1 _ _ hv, nl, v, dx, s_, m, us, .ref q, rfl, x1 _ _ hv, x1 _ _ hs, ?_⟩
    refine ⟨q, dp, _, rfl, hp, q, sz, ns, es, rfl, lg1, v, dx, _, rfl, x1 _ _ hv, nl, v, dx, s_, m, us, .ref q, rfl, x1 _ _ hv, x1 _ _ hs, ?_⟩
    refine ⟨q, dp, _, rfl, hp, q, sz, ns, es, rfl, lg1, fun la na => ?_⟩
    have y1 := Ext.upd (o := .lst (ns.map V.str)) na
    have c1 : (upd H1 la (.lst (ns.map V.str))) la = some (.lst (ns.map V.str)) := upd_same
    have lg2 := lg1.mono y1
    have hp2 := y1 _ _ hp
    have x2 := x1.trans y1
    generalize upd H1 la (.lst (ns.map V.str)) = H2 at c1 lg2 hp2 x2 ⊢
    refine ⟨v, dx, _, rfl, x2 _ _ hv, nl, v, dx, s_, m, us, .ref q, rfl, x2 _ _ hv, x2 _ _ hs, ?_⟩
    refine ⟨q, dp, _, rfl, hp2, q, sz, ns, es, rfl, lg2, fun lb xs2 nb el2 => ?_⟩
    have y2 := Ext.upd (o := .lst xs2) nb
    have c2 : (upd H2 lb (.lst xs2)) lb = some (.lst xs2) := upd_same
    have el2 := el2.mono y2
    have c1 := y2 _ _ c1
    have x2 := x2.trans y2
    generalize upd H2 lb (.lst xs2) = H3 at c1 c2 el2 x2 ⊢
    refine ⟨(by show 3 ≤ sizeLine; decide), fun t nt => ?_⟩
    have y3 := Ext.upd (o := .lst [.int sz, .ref la, .ref lb]) nt
    have x3 := x2.trans y3
    refine ⟨_, encT sz ns es, rfl, .lst (SqL.of upd_same) (.cons (.int _) (.cons (dp_S (SqL.of (y3 _ _ c1))) (.cons (dp_L (SqL.of (y3 _ _ c2)) (el2.mono y3)) .nil))), rfl, sm.sho, sm.nod, Nat.le_trans sm.dep (by decide), sm.fits (by decide), ?_⟩
    have e : decide ((encT sz ns es).shown = (encT sz ns es).shown) = true := decide_eq_true rfl
    show Q (.bl (decide ((encT sz ns es).shown = (encT sz ns es).shown))) _
    rw [e]
    exact k _ x3
end
end NB

set_option Elab.async false
set_option linter.all false
set_option maxRecDepth 100000
set_option maxHeartbeats 4000000
/-! K4o (k46): players: a live log and the list that tells what it must have -/
namespace NB
open PySem PySem.Spec L2
theorem cut_last {xs : List V} : cutV xs none (some (-1)) = xs.dropLast := by
  unfold cutV
  show (xs.drop 0).take _ = _
  simp only [HT.sIx, List.drop_zero]
  rw [List.dropLast_eq_take]
  congr 1
  have : (-1 : Int) < 0 := by decide
  simp only [if_pos this]
  omega
theorem EntL.dropLast {H : Hp} {es : List (Str × Int)} {xs : List V} (h : EntL H es xs) : EntL H es.dropLast xs.dropLast := by
  rw [List.dropLast_eq_take, List.dropLast_eq_take, ← h.len]
  exact pTake _ h
theorem UrnAt.keepU {n : Nat} {p q c : Addr} {H : Hp} {o : HO} (W : UrnAt n p q H) (hc : c ≠ p ∧ c ≠ q) : UrnAt n p q (upd H c o) := by
  obtain ⟨xs, s, z, h1, h2, r⟩ := W
  exact ⟨xs, s, z, by rw [upd_ne hc.1.symm]; exact h1, by rw [upd_ne hc.2.symm]; exact h2, r⟩
theorem UrnAt.fr {n : Nat} {p q : Addr} {M' : List Addr} {H H' : Hp} (h : UrnAt n p q H) (f : Frm M' H H') (hp : p ∉ M') (hq : q ∉ M') : UrnAt n p q H' := by
  obtain ⟨xs, s, z, h1, h2, h3⟩ := h
  exact ⟨xs, s, z, f _ _ h1 hp, f _ _ h2 hq, h3⟩
structure Stp (F M : List Addr) (d : Lv) (H : Hp) (M' : List Addr) (d' : Lv) (H' : Hp) : Prop where
  gr : Gr M M' H H'
  sub : ∀ x ∈ F, x ∈ M
  fr : Frm F H H'
  st : TupSt H H'
  v : d'.v = d.v
  nw : ∀ x ∈ d'.F, x ∈ d.F ∨ H x = none
section
variable {F F1 M M1 M2 M' : List Addr} {d d1 d2 d' : Lv} {H H1 H2 H' : Hp}
theorem Stp.none (s : Stp F M d H M' d' H') {x : Addr} (h : H' x = none) : H x = none := by
  cases e : H x with
  | none => rfl
  | some u =>
    by_cases m : x ∈ F
    · exact absurd h (s.gr.all _ (s.gr.sub _ (s.sub _ m)))
    · rw [s.fr _ _ e m] at h; cases h
theorem Stp.refl (al : ∀ x ∈ M, H x ≠ Option.none) (sub : ∀ x ∈ F, x ∈ M) : Stp F M d H M d H := ⟨⟨fun _ h => h, fun _ h => .inl h, al⟩, sub, Frm.refl, fun _ _ h => h, rfl, fun x h => .inl h⟩
theorem Stp.mk1 {F0 : List Addr} (al : ∀ x ∈ M, H x ≠ Option.none) (sub : ∀ x ∈ F, x ∈ M) (fr : Frm F0 H H') (w : ∀ x ∈ F0, x ∈ F) (st : TupSt H H') (sM : ∀ x ∈ M, x ∈ M') (new : ∀ x ∈ M', x ∈ M ∨ H x = Option.none) (v : d'.v = d.v) (nw : ∀ x ∈ d'.F, x ∈ d.F ∨ H x = Option.none)
    (al' : ∀ x ∈ M', (x ∈ F0 ∨ H x = Option.none) → H' x ≠ Option.none) : Stp F M d H M' d' H' := by
  refine ⟨⟨sM, new, fun x hx => ?_⟩, sub, fun c u e h => fr c u e fun z => h (w _ z), st, v, nw⟩
  by_cases m : x ∈ F0
  · exact al' x hx (.inl m)
  · cases e : H x with
    | none => exact al' x hx (.inr e)
    | some u => rw [fr _ _ e m]; exact fun z => nomatch z
theorem Stp.ext (s : Stp F M d H M' d' H1) (x : Ext H1 H') : Stp F M d H M' d' H' := ⟨⟨s.gr.sub, s.gr.new, fun c h z => s.gr.all c h (Ext.free x z)⟩, s.sub, s.fr.trans (Frm.ext x), s.st.trans (TupSt.ext x), s.v, s.nw⟩
theorem Stp.trans (s : Stp F M d H M1 d1 H1) (t : Stp F1 M1 d1 H1 M2 d2 H2) (n : ∀ x ∈ F1, x ∈ F ∨ H x = Option.none) : Stp F M d H M2 d2 H2 := by
  refine ⟨⟨fun x h => t.gr.sub _ (s.gr.sub _ h), fun x h => ?_, t.gr.all⟩, s.sub, fun c u e h => ?_, s.st.trans t.st, t.v.trans s.v, fun x h => ?_⟩
  · rcases t.gr.new x h with r | r
    · exact s.gr.new x r
    · exact .inr (s.none r)
  · refine t.fr c u (s.fr c u e h) fun z => ?_
    rcases n c z with r | r
    · exact h r
    · rw [r] at e; cases e
  · rcases t.nw x h with r | r
    · exact s.nw x r
    · exact .inr (s.none r)
theorem Stp.wide (s : Stp F M d H M' d' H') (w : ∀ x ∈ F, x ∈ F1) (sub : ∀ x ∈ F1, x ∈ M) : Stp F1 M d H M' d' H' :=
  ⟨s.gr, sub, fun c u e h => s.fr c u e fun z => h (w _ z), s.st, s.v, s.nw⟩
/-- one that is not named stands -/
theorem Stp.keep {x : Addr} {u : HO} (s : Stp F M d H M' d' H') (h : H x = some u) (n : x ∉ F) : H' x = some u := s.fr _ _ h n
/-- what the next step changes is known or new -/
theorem Stp.nx {o : Addr} {L : List Addr} (s : Stp (L ++ o :: d.F) M d H M' d' H') : ∀ x ∈ L ++ o :: d'.F, x ∈ L ++ o :: d.F ∨ H x = Option.none := fun x h => by
  rcases List.mem_append.mp h with h | h
  · exact .inl (List.mem_append.mpr (.inl h))
  · rcases List.mem_cons.mp h with rfl | h
    · exact .inl (List.mem_append.mpr (.inr List.mem_cons_self))
    · exact (s.nw x h).imp (fun r => List.mem_append.mpr (.inr (List.mem_cons_of_mem _ r))) id
/-- nothing that does not change begins to -/
theorem Stp.out {x : Addr} (s : Stp F M d H M' d' H') (h : H x ≠ Option.none) (n : x ∉ M) : x ∉ M' := fun z => by
  rcases s.gr.new x z with r | r
  · exact n r
  · exact h r
theorem Stp.outF {x : Addr} (s : Stp F M d H M' d' H') (h : H x ≠ Option.none) (n : x ∉ d.F) : x ∉ d'.F := fun z => by
  rcases s.nw x z with r | r
  · exact n r
  · exact h r
end
def OwnAt (M : List Addr) (H : Hp) (o a : Addr) (sz : Int) (ns : List Str) (b : Bool) (es : List (Str × Int)) : Prop :=
  ∃ l xs, H o = some (.lst [.int sz, .ref a, .ref l, .bl b]) ∧ H l = some (.lst xs) ∧ l ∉ M ∧ EntL H es xs ∧ H a = some (.lst (ns.map V.str)) ∧ a ∉ M
section
variable {F M M' : List Addr} {H H' : Hp} {o a : Addr} {sz : Int} {ns : List Str} {b : Bool} {es : List (Str × Int)}
theorem OwnAt.mono (h : OwnAt M H o a sz ns b es) (x : Ext H H') : OwnAt M H' o a sz ns b es := by
  obtain ⟨l, xs, h1, h2, h3, h4, h5, h6⟩ := h
  exact ⟨l, xs, x _ _ h1, x _ _ h2, h3, h4.mono x, x _ _ h5, h6⟩
theorem OwnAt.fr (h : OwnAt M H o a sz ns b es) (f : Frm F H H') (t : TupSt H H') (sub : ∀ x ∈ F, x ∈ M) (no : o ∉ F) : OwnAt M H' o a sz ns b es := by
  obtain ⟨l, xs, h1, h2, h3, h4, h5, h6⟩ := h
  exact ⟨l, xs, f _ _ h1 no, f _ _ h2 fun z => h3 (sub _ z), h3, h4.st t, f _ _ h5 fun z => h6 (sub _ z), h6⟩
theorem OwnAt.gr (h : OwnAt M H o a sz ns b es) (g : ∀ x ∈ M', x ∈ M ∨ H x = none) : OwnAt M' H o a sz ns b es := by
  obtain ⟨l, xs, h1, h2, h3, h4, h5, h6⟩ := h
  have ne : ∀ {x : Addr} {u : HO}, H x = some u → x ∉ M → x ∉ M' := fun {x u} hx hm q => by
    rcases g x q with r | r
    · exact hm r
    · rw [r] at hx; cases hx
  exact ⟨l, xs, h1, h2, ne h2 h3, h4, h5, ne h5 h6⟩
/-- other rows are put in -/
theorem OwnAt.put {l' : Addr} {xs' : List V} {es' : List (Str × Int)} (h : OwnAt M H o a sz ns b es) (oM : o ∈ M) (hl : H l' = some (.lst xs')) (nl : l' ∉ M) (el : EntL H es' xs') : OwnAt M (upd H o (.lst [.int sz, .ref a, .ref l', .bl b])) o a sz ns b es' := by
  obtain ⟨l, xs, h1, h2, h3, h4, h5, h6⟩ := h
  have st := TupSt.upd (o := .lst [.int sz, .ref a, .ref l', .bl b]) h1 (fun _ z => nomatch z)
  have n1 : l' ≠ o := fun z => nl (by rw [z]; exact oM)
  have n2 : a ≠ o := fun z => h6 (by rw [z]; exact oM)
  exact ⟨l', xs', upd_same, by rw [upd_ne n1]; exact hl, nl, el.st st, by rw [upd_ne n2]; exact h5, h6⟩
theorem OwnAt.at (h : OwnAt M H o a sz ns b es) : H o ≠ none := by
  obtain ⟨l, xs, h1, _⟩ := h
  rw [h1]; exact fun z => nomatch z
end
def mkN (ms : List Nat) : List V := (ms.map fun (k : Nat) => (k : Int)).map V.int
theorem mkN_len (ms : List Nat) : (mkN ms).length = ms.length := by unfold mkN; rw [List.length_map, List.length_map]
theorem mkN_app (ms ks : List Nat) : mkN (ms ++ ks) = mkN ms ++ mkN ks := by unfold mkN; rw [List.map_append, List.map_append]
theorem mkN_take (ms : List Nat) (n : Nat) : (mkN ms).take n = mkN (ms.take n) := by unfold mkN; rw [List.map_take, List.map_take]
theorem mkN_at {ms : List Nat} {i : Nat} {v : V} (h : (mkN ms)[i]? = some v) : ∃ k : Nat, ms[i]? = some k ∧ v = .int (k : Int) := by
  unfold mkN at h
  rw [List.getElem?_map, List.getElem?_map] at h
  cases e : ms[i]? with
  | none => rw [e] at h; cases h
  | some k => rw [e] at h; exact ⟨k, rfl, (Option.some.inj h).symm⟩
theorem mkN_get {ms : List Nat} {i : Nat} {k : Nat} (h : ms[i]? = some k) : (mkN ms)[i]? = some (.int (k : Int)) := by
  unfold mkN
  rw [List.getElem?_map, List.getElem?_map, h]; rfl
structure PlayI (M : List Addr) (CV CL : Addr) (d : Lv) (o a : Addr) (sz : Int) (ns : List Str) (b : Bool) (es : List (Str × Int)) (ms : List Nat) (H : Hp) : Prop where
  lv : LiveK M CV CL H d sz ns es ms
  ow : OwnAt M H o a sz ns b es
  oM : o ∈ M
  oF : o ∉ d.F
section
variable {F M M' : List Addr} {CV CL : Addr} {d d' d2 : Lv} {o a : Addr} {sz : Int} {ns : List Str} {b : Bool} {es : List (Str × Int)} {ms : List Nat} {H H' : Hp}
theorem PlayI.mono (h : PlayI M CV CL d o a sz ns b es ms H) (x : Ext H H') : PlayI M CV CL d o a sz ns b es ms H' := ⟨h.lv.mono x, h.ow.mono x, h.oM, h.oF⟩
theorem PlayI.subs (h : PlayI M CV CL d o a sz ns b es ms H) : ∀ x ∈ o :: d.F, x ∈ M := fun x hx => by
  rcases List.mem_cons.mp hx with rfl | hx
  · exact h.oM
  · exact h.lv.mem x hx
theorem PlayI.alloc (h : PlayI M CV CL d o a sz ns b es ms H) : ∀ x ∈ o :: d.F, H x ≠ none := fun x hx => by
  rcases List.mem_cons.mp hx with rfl | hx
  · exact h.ow.at
  · exact h.lv.alloc x hx
/-- another one's step -/
theorem PlayI.stp (h : PlayI M CV CL d2 o a sz ns b es ms H) (s : Stp F M d H M' d' H') (n : ∀ x ∈ o :: d2.F, x ∉ F) : PlayI M' CV CL d2 o a sz ns b es ms H' := by
  have gn : ∀ x ∈ M', x ∈ M ∨ H x = none := s.gr.new
  have lv := (h.lv.gr s.gr.sub gn).fr (H' := H') s.fr s.st (fun x hx => s.gr.sub _ (s.sub _ hx)) (fun x hx => n x (List.mem_cons_of_mem _ hx))
  have ow := (h.ow.gr gn).fr (H' := H') s.fr s.st (fun x hx => s.gr.sub _ (s.sub _ hx)) (n o List.mem_cons_self)
  exact ⟨lv, ow, s.gr.sub _ h.oM, h.oF⟩
/-- the live log's own change -/
theorem PlayI.live {es' : List (Str × Int)} {ms' : List Nat} (h : PlayI M CV CL d o a sz ns b es ms H) (s : Stp F M d H M' d' H') (lv : LiveK M' CV CL H' d' sz ns es' ms') (n : o ∉ F) : OwnAt M' H' o a sz ns b es ∧ o ∈ M' ∧ o ∉ d'.F :=
  ⟨(h.ow.gr s.gr.new).fr (H' := H') s.fr s.st (fun x hx => s.gr.sub _ (s.sub _ hx)) n, s.gr.sub _ h.oM, s.outF h.ow.at h.oF⟩
end
end NB

set_option Elab.async false
set_option linter.all false
set_option maxRecDepth 100000
set_option maxHeartbeats 8000000
/-! K5 (k52): entries that are refused -/
namespace NB
open PySem PySem.Spec L2
open PyProof.Rows (envOfC)
open C8 (pe_c pe_mk pe_mt pe_mt0 pe_gc fnScope fnBody fnArgs fnScope_by Cal Met Mak)
theorem Frm.alloc {M : List Addr} {H H' : Hp} (f : Frm M H H') (al : ∀ x ∈ M, H' x ≠ none) {x : Addr} (h : H x ≠ none) : H' x ≠ none := by
  by_cases m : x ∈ M
  · exact al x m
  · cases e : H x with
    | none => exact absurd e h
    | some u => rw [f _ _ e m]; exact fun z => nomatch z
theorem UrnAt.al {n : Nat} {p q : Addr} {H : Hp} (u : UrnAt n p q H) : ∀ x ∈ [p, q], H x ≠ Option.none := fun x hx => by
  obtain ⟨_, _, _, h1, h2, _⟩ := id u
  simp only [List.mem_cons, List.not_mem_nil, or_false] at hx
  rcases hx with rfl | rfl
  · rw [h1]; exact fun z => nomatch z
  · rw [h2]; exact fun z => nomatch z
/-- cannot follow: of two entries, or pushed -/
def Bars (sz : Int) (ns : List Str) (es : List (Str × Int)) (ip : Bool) : Prop := (ip = false ∧ ¬ Clean sz es) ∨ (ip = true ∧ Clean sz es ∧ ∀ bs, SeenB sz es bs → ¬ Thru 0 (rowsF sz ns es 0 bs))
theorem Bars.not {sz : Int} {ns : List Str} {es : List (Str × Int)} {ip : Bool} (h : Bars sz ns es ip) : ¬ Poss sz ns es := fun ⟨c, bs, sb, th⟩ => by
  rcases h with ⟨_, n⟩ | ⟨_, _, n⟩
  · exact n c
  · exact n bs sb th
/-- the kind of the certificate -/
theorem Bars.kind {sz : Int} {ns : List Str} {es : List (Str × Int)} {ip : Bool} {H : Hp} {w : V} (h : Bars sz ns es ip) (o : ObsX sz ns es H w) : ∃ t kn v2 r, w = .ref t ∧ H t = some (.tup (.str kn :: v2 :: r)) ∧ decide (kn = "pushed") = ip := by
  rcases h with ⟨rfl, n⟩ | ⟨rfl, c, _⟩
  · rcases o with o | ⟨c, _⟩
    · obtain ⟨t, kn, i, j, e, f, rfl, ht, _, _, _, kf⟩ := o.toV
      refine ⟨t, kn, _, _, rfl, ht, decide_eq_false fun z => ?_⟩
      rcases kf with ⟨rfl, _⟩ | ⟨rfl, _⟩ | ⟨rfl, _⟩ <;> exact absurd z (by decide +kernel)
    · exact absurd c n
  · rcases o with o | ⟨_, bs, t, l, ys, _, _, rfl, ht, _⟩
    · exact absurd c o.toV.dirty
    · exact ⟨t, _, _, _, rfl, ht, decide_eq_true rfl⟩
def spRef (cA cB cL cX : Addr) : Sp := fun vs H Q _ => ∃ M p q n d c sz a ns l es xs b z i ip ms, vs = [.ref p, .ref d.v, .ref c, .str z, .int i, .bl ip] ∧ UrnAt n p q H ∧ n ≤ 900000000 ∧ H c = some (.tup [.int sz, .ref a, .ref l, .bl b]) ∧ LiveK M (kV cA cB b) (kC cL cX b) H d sz ns es ms ∧ (∀ x ∈ M, H x ≠ none) ∧ p ∈ M ∧ q ∈ M ∧ p ∉ d.F ∧ q ∉ d.F ∧ SizeOk sz ∧ H a = some (.lst (ns.map V.str)) ∧ CrewOk ns ∧ H l = some (.lst xs) ∧ l ∉ [p, q] ∧ EntL H es xs ∧ EntsOk ns es ∧ es.length ≤ 60 ∧ z ∈ ns ∧ 0 ≤ i ∧ Bars sz ns (es ++ [(z, i)]) ip ∧
  ∀ H', UrnAt (n + 1) p q H' → Frm [p, q] H H' → Q (.bl true) H'
section
variable {P : Program} {w : World} {K : PySem.W.Frag} {mg : Str → Option Value} {base : Heap} {cL cX cA cB : Addr} {A0 : Ads}
theorem ok_refR (T : Blt mg) (LMs : ∀ b, LogM K cL cX (kC cL cX b) b A0) (D : Dx K mg "_law_refused_right" s__law_refused_right ["urn", "live", "case", "name", "value", "is_pushed"]) (c__law_lot : Cal P w K mg base 1 "_law_lot" spLot []) (c__law_tried : Cal P w K mg base 9 "_law_tried" (spTried K cA cB cL cX) []) (c__law_is_fault : Cal P w K mg base 2 "_law_is_fault" spIsFault [])
    (c__law_log : Cal P w K mg base 6 "_law_log" (spLog cL cX) []) (c_shows_obstacle : Cal P w K mg base 5 "shows_obstacle" (spShows K cL cX A0) []) : Cal P w K mg base 10 "_law_refused_right" (spRef cA cB cL cX) [] := by
  refine cal_of D sc__law_refused_right (fun vs H Q E h => ?_) (fun f cdv A o s H vs Q E hr h => ?_)
  · obtain ⟨M, p, q, n, d, c, sz, a, ns, l, es, xs, b, z, i, ip, ms, rfl, _⟩ := h; rfl
  · obtain ⟨M0, p, q, n, d, c, sz, a, ns, l, es, xs, b, z, i, ip, ms, rfl, ur, hn, hc, lv, al, pM, qM, pF, qF, so, ha, cr, hl, lM, el, ok, h60, hz, i0, bars, k⟩ := h
    have M := LMs b
    have xl := el.len
    have so1 := so.1
    have apq := ur.strs ha cr.one
    have okL : EntsOk ns (es ++ [(z, i)]) := ⟨by rw [List.length_append, List.length_singleton]; omega, fun e he => by
      rcases List.mem_append.mp he with he | he
      · exact ok.ok e he
      · rw [List.mem_singleton.mp he]; exact ⟨hz, i0⟩⟩
    have lenL : (es ++ [(z, i)]).length ≤ 62 := by rw [List.length_append, List.length_singleton]; omega
    refine ⟨_, (C8.pss_cut (ps_asg (mv 2) (pg_tup rfl (pgs_cons (pg_name (i := 6) sc__law_refused_right.nd rfl (Or.inl rfl)) (pgs_cons (pg_name (i := 7) sc__law_refused_right.nd rfl (Or.inl rfl)) (pgs_cons (pg_name (i := 8) sc__law_refused_right.nd rfl (Or.inl rfl)) (pgs_cons (pg_name (i := 9) sc__law_refused_right.nd rfl (Or.inl rfl)) pgs_nil))))))
    (C8.pss_cut (ps_set (i := 10) sc__law_refused_right.nd rfl (Or.inl rfl) (pe_c c__law_tried hr (by decide) rfl (pa_cons (mv 1) (pa_cons (mv 3) (pa_cons (mv 4) (pa_cons (pe_cmpR m_eq (pe_c c__law_lot hr (by decide) rfl (pa_cons (mv 0) (pa_cons pe_int pa_nil))) pe_int (nomark _)) pa_nil))))))
    (C8.pss_cut (ps_set (i := 11) sc__law_refused_right.nd rfl (Or.inl rfl) (pe_op op_cat (mv 8) (pe_lst (pa_cons (pe_tup (pa_cons (mv 3) (pa_cons (mv 4) pa_nil))) pa_nil))))
    (C8.pss_cut (ps_if (PW.pt (pw_or (qt (op_eqD hr.units) (mv 10) (pe_tup pa_nil) (nomark _)) (pw_or (pt_not (qv (pe_c c__law_is_fault hr (by decide) rfl (pa_cons (mv 6) (pa_cons (mv 11) (pa_cons (mv 10) pa_nil)))))) (pw_or1 (qt m_ne (pe_cmpR m_eq (pe_ix m_ix (mv 10) pe_int (fun _ _ => rfl)) pe_str (nomark _)) (mv 5) (nomark _)))))) (pss_one (ps_ret pe_bl)) pss_nil)
    (pss_one (ps_ret (pe_cmpR op_isBl (pe_c c_shows_obstacle hr (by decide) rfl (pa_cons (pe_c c__law_log hr (by decide) rfl (pa_cons (mv 6) (pa_cons (mv 7) (pa_cons (mv 11) (pa_cons (mv 9) pa_nil))))) (pa_cons (mv 10) pa_nil))) pe_bl (nomark _)))))))), ?_⟩
    refine ⟨fun σ H' => σ = [some (.ref p), some (.ref d.v), some (.ref c), some (.str z), some (.int i), some (.bl ip), some (.int sz), some (.ref a), some (.ref l), some (.bl b), none, none] ∧ H' = H, ?_, ?_⟩
    · exact ⟨c, _, rfl, SqT.of hc, rfl, _, _, rfl, _, _, rfl, _, _, rfl, _, _, rfl, rfl, rfl, rfl⟩
    rintro σ G ⟨rfl, rfl⟩
    refine ⟨fun σ H' => ∃ w, σ = [some (.ref p), some (.ref d.v), some (.ref c), some (.str z), some (.int i), some (.bl ip), some (.int sz), some (.ref a), some (.ref l), some (.bl b), some w, none] ∧ UrnAt (n + 1) p q H' ∧ Frm [p, q] G H' ∧ ObsX sz ns (es ++ [(z, i)]) H' w, ?_, ?_⟩
    · refine ⟨p, q, 2, _, rfl, ur, by omega, by decide, by decide, fun H5 r r0 r1 ur5 fr5 => ?_⟩
      have lv5 := lv.fr fr5 (ur.tups fr5) (fun x hx => by
        simp only [List.mem_cons, List.not_mem_nil, or_false] at hx
        rcases hx with rfl | rfl <;> assumption) (fun x hx => nin2 ⟨fun z => pF (by rw [← z]; exact hx), fun z => qF (by rw [← z]; exact hx)⟩)
      have al5 : ∀ x ∈ M0, H5 x ≠ none := fun x hx => fr5.alloc (UrnAt.al ur5) (al x hx)
      exact ⟨M0, d, sz, ns, es, b, z, i, _, ms, rfl, lv5, al5, so, cr, ok, hz, i0, by omega, fun _ _ _ _ _ _ po => absurd po bars.not, fun H6 w_ x6 ov => ⟨w_, rfl, ur5.keep x6, fr5.trans (Frm.ext x6), ov⟩⟩
    rintro σ G2 ⟨w_, rfl, ur2, fr2, ov⟩
    have stG := ur.tups fr2
    have elG := el.st stG
    have hlG := fr2 _ _ hl lM
    -- with it
    refine ⟨fun σ H' => ∃ lg xs', σ = [some (.ref p), some (.ref d.v), some (.ref c), some (.str z), some (.int i), some (.bl ip), some (.int sz), some (.ref a), some (.ref l), some (.bl b), some w_, some (.ref lg)] ∧ H' lg = some (.lst xs') ∧ EntL H' (es ++ [(z, i)]) xs' ∧ Ext G2 H', ?_, ?_⟩
    · refine ⟨(by show 2 ≤ sizeLine; decide), fun tp ntp => ⟨(by show 1 ≤ sizeLine; decide), fun t1 nt1 => ?_⟩⟩
      have x1 := Ext.upd (o := .tup [.str z, .int i]) ntp
      have x2 := Ext.upd (o := .lst [.ref tp]) nt1
      have x12 := x1.trans x2
      refine ⟨l, t1, xs, _, rfl, rfl, x12 _ _ hlG, upd_same, Nat.le_trans (show xs.length + 1 ≤ 61 by omega) (by decide), fun lg nlg => ?_⟩
      have x3 := Ext.upd (o := .lst (xs ++ [.ref tp])) nlg
      exact ⟨lg, _, rfl, upd_same, EntL.snoc (elG.mono (x12.trans x3)) ⟨tp, rfl, x3 _ _ (x2 _ _ upd_same)⟩, x12.trans x3⟩
    rintro σ G3 ⟨lg, xs', rfl, hlg, elL, x3⟩
    refine ⟨fun σ H' => σ = [some (.ref p), some (.ref d.v), some (.ref c), some (.str z), some (.int i), some (.bl ip), some (.int sz), some (.ref a), some (.ref l), some (.bl b), some w_, some (.ref lg)] ∧ Ext G3 H', ?_, ?_⟩
    · obtain ⟨t0, kn0, ds, rfl, dp, sh⟩ := ov.obs (K := K)
      refine ⟨Nat.zero_le _, fun t2 nt2 => ?_⟩
      have x4 := Ext.upd (o := .tup []) nt2
      refine ⟨.tuple (.str kn0 :: ds), .tuple [], Dp.up (x3.trans x4) _ _ dp, .tup (SqT.of upd_same) .nil, sh, rfl, ifF (by rfl) ?_⟩
      refine ⟨sz, lg, ns, es ++ [(z, i)], _, _, rfl, so, okL, lenL, x4 _ _ hlg, elL.mono x4, ov.mono (x3.trans x4), fun G4 x5 => ifF (by rfl) ?_⟩
      obtain ⟨t, kn, v2, r, e, ht, ek⟩ := bars.kind ov
      obtain rfl := V.ref.inj e
      refine ⟨_, _, .inr (SqT.of (((x3.trans x4).trans x5) _ _ ht)), atI_nat (j := 0) rfl, ?_⟩
      show (if (!decide (decide (kn = "pushed") = ip)) = true then _ else _)
      rw [ek, decide_eq_true rfl]
      exact ifF (by rfl) ⟨rfl, x4.trans x5⟩
    rintro σ G4 ⟨rfl, x4⟩
    have x34 := x3.trans x4
    refine ⟨sz, a, ns, lg, es ++ [(z, i)], _, b, rfl, so, x34 _ _ (fr2 _ _ ha (nin2 apq)), cr, x4 _ _ hlg, elL.mono x4, okL, fun G5 q1 nq1 lq1 x5 => ?_⟩
    refine ⟨q1, _, b, sz, ns, _, w_, rfl, lq1.at, M, so, cr, okL, lenL, ov.mono (x34.trans x5), fun G6 x6 => ?_⟩
    have x36 := (x34.trans x5).trans x6
    exact ⟨true, true, rfl, rfl, k _ (ur2.keep x36) (fr2.trans (Frm.ext x36))⟩
end
end NB

set_option Elab.async false
set_option linter.all false
set_option maxRecDepth 100000
set_option maxHeartbeats 8000000
/-! K5e (k52): the end of a long live log -/
namespace NB
open PySem PySem.Spec L2
open PyProof.Rows (envOfC)
open C8 (pe_c pe_mk pe_mt pe_mt0 pe_gc fnScope fnBody fnArgs fnScope_by Cal Met Mak)
/-- a pair that cannot follow -/
def PairB (sz : Int) (es : List (Str × Int)) (ip : Bool) (H : Hp) (v : V) : Prop := ∃ t z i, v = .ref t ∧ H t = some (.tup [.str z, .int i]) ∧ z ∈ ns3 ∧ 0 ≤ i ∧ Bars sz ns3 (es ++ [(z, i)]) ip
theorem PairB.st {sz : Int} {es : List (Str × Int)} {ip : Bool} {H H' : Hp} {v : V} (h : PairB sz es ip H v) (x : TupSt H H') : PairB sz es ip H' v := by
  obtain ⟨t, z, i, h1, h2, h3⟩ := h
  exact ⟨t, z, i, h1, x _ _ h2, h3⟩
def spEnds (cA cB cL cX : Addr) : Sp := fun vs H Q _ => ∃ M p q n d c sz a l es xs b ps ms, vs = [.ref p, .ref d.v, .ref c] ∧ UrnAt n p q H ∧ n ≤ 800000000 ∧ H c = some (.tup [.int sz, .ref a, .ref l, .bl b]) ∧ LiveK M (kV cA cB b) (kC cL cX b) H d sz ns3 es ms ∧ (∀ x ∈ M, H x ≠ none) ∧ p ∈ M ∧ q ∈ M ∧ p ∉ d.F ∧ q ∉ d.F ∧ SizeOk sz ∧ H a = some (.lst (ns3.map V.str)) ∧ H l = some (.lst xs) ∧ l ∉ [p, q] ∧ EntL H es xs ∧ Tri sz ps es ∧ (∀ k, ps k ≤ sz) ∧ es.length = 60 ∧ (∀ e ∈ es, e.2 < 10 ^ 60) ∧
  ∀ H', UrnAt (n + 20) p q H' → Frm [p, q] H H' → Q (.bl true) H'
section
variable {P : Program} {w : World} {K : PySem.W.Frag} {mg : Str → Option Value} {base : Heap} {cL cX cA cB : Addr} {A0 : Ads}
theorem ok_ends (T : Blt mg) (D : Dx K mg "_law_ends_right" s__law_ends_right ["urn", "live", "case"]) (c__law_lot : Cal P w K mg base 1 "_law_lot" spLot []) (c__law_refused_right : Cal P w K mg base 10 "_law_refused_right" (spRef cA cB cL cX) [])
    (c__law_same : CalG P w K mg base 8 "_law_same" (spSame cA cB cL cX)) : CalG P w K mg base 11 "_law_ends_right" (spEnds cA cB cL cX) := by
  refine calG_of D sc__law_ends_right (fun vs H Q E h => ?_) (fun f cdv A o s H vs Q E hr hgd h => ?_)
  · obtain ⟨M, p, q, n, d, c, sz, a, l, es, xs, b, ps, ms, rfl, _⟩ := h; rfl
  · obtain ⟨M0, p, q, n, d, c, sz, a, l, es, xs, b, ps, ms, rfl, ur, hn, hc, lv, al, pM, qM, pF, qF, so, ha, hl, lM, el, tri, le, h60, big, k⟩ := h
    have xl := el.len
    have so1 := so.1
    have so2 := so.2
    have cr := crew3
    have l6 : 6 ≤ es.length := by omega
    have ok := tri.ents so1 (by omega)
    have apq := ur.strs (ns := ns3) ha (by decide)
    have szb : sz < 2 ^ 110 := Int.lt_of_le_of_lt so2 (by decide)
    have szl : sz < 2 ^ 1000 := Int.lt_trans szb (by decide +kernel)
    have mul : ∀ {i : Int}, 0 ≤ i → i < 2 ^ 10 → PySem.IntMulOk i sz := fun h0 h1 => mulW (a := 10) (b := 110) h0 h1 (by omega) szb (by decide) (by decide) (by decide)
    have div : ∀ {bb x : Int}, bb * sz ≤ x → x < bb * sz + sz → x / sz = bb := fun h1 h2 => div_is so1 h1 h2
    refine ⟨_, (C8.pss_cut (ps_par (i := 3) (j := 4) rfl sc__law_ends_right.nd rfl rfl (by decide) rfl rfl (pa_cons (pe_ix m_ix (mv 2) pe_int (fun _ _ => rfl)) (pa_cons (pe_ix m_ix (mv 2) pe_int (fun _ _ => rfl)) pa_nil)) (by rfl))
    (C8.pss_cut (ps_set (i := 5) sc__law_ends_right.nd rfl (Or.inl rfl) (pe_lst (pa_cons (pe_ix m_ix (mv 4) (pe_c c__law_lot hr (by decide) rfl (pa_cons (mv 0) (pa_cons (pe_callB call_len (by rfl) T.n_len (by decide +kernel) (pa_cons (mv 4) pa_nil)) pa_nil))) (fun _ _ => rfl)) (pa_cons (pe_tup (pa_cons pe_str (pa_cons (pe_op m_sub (pe_op m_mul pe_int (mv 3)) pe_int) pa_nil))) (pa_cons (pe_tup (pa_cons pe_str (pa_cons (pe_op m_mul pe_int (mv 3)) pa_nil))) pa_nil)))))
    (C8.pss_cut (ps_set (i := 5) sc__law_ends_right.nd rfl (Or.inl rfl) (pe_op op_cat (mv 5) (pe_lst (pa_cons (pe_tup (pa_cons pe_str (pa_cons (pe_op m_sub (mv 3) pe_int) pa_nil))) (pa_cons (pe_tup (pa_cons pe_str (pa_cons (mv 3) pa_nil))) pa_nil)))))
    (C8.pss_cut (ps_set (i := 6) sc__law_ends_right.nd rfl (Or.inl rfl) (pe_lst (pa_cons (pe_tup (pa_cons pe_str (pa_cons (pe_op m_add (mv 3) (pe_c c__law_lot hr (by decide) rfl (pa_cons (mv 0) (pa_cons (mv 3) pa_nil)))) pa_nil))) (pa_cons (pe_tup (pa_cons pe_str (pa_cons (pe_op m_sub (pe_op m_mul pe_int (mv 3)) pe_int) pa_nil))) pa_nil))))
    (C8.pss_cut (ps_expr (pe_bm PySem.F.plainAttrs_list PySem.F.slot_list_append PySem.F.type_list_append mt_append (mv 6) (pa_cons (pe_tup (pa_cons pe_str (pa_cons (pe_op m_add (pe_op m_mul pe_int (mv 3)) (pe_c c__law_lot hr (by decide) rfl (pa_cons (mv 0) (pa_cons (mv 3) pa_nil)))) pa_nil))) pa_nil)))
    (C8.pss_cut (ps_for PassesOwn.never rfl (pi_list (mv 5)) (pg_tup rfl (pgs_cons (pg_name (i := 7) sc__law_ends_right.nd rfl (Or.inl rfl)) (pgs_cons (pg_name (i := 8) sc__law_ends_right.nd rfl (Or.inl rfl)) pgs_nil)))
    (pss_one (ps_if (pt_not (qv (pe_c c__law_refused_right hr (by decide) rfl (pa_cons (mv 0) (pa_cons (mv 1) (pa_cons (mv 2) (pa_cons (mv 7) (pa_cons (mv 8) (pa_cons pe_bl pa_nil))))))))) (pss_one (ps_ret pe_bl)) pss_nil)))
    (C8.pss_cut (ps_for PassesOwn.never rfl (pi_list (mv 6)) (pg_tup rfl (pgs_cons (pg_name (i := 7) sc__law_ends_right.nd rfl (Or.inl rfl)) (pgs_cons (pg_name (i := 8) sc__law_ends_right.nd rfl (Or.inl rfl)) pgs_nil)))
    (pss_one (ps_if (pt_not (qv (pe_c c__law_refused_right hr (by decide) rfl (pa_cons (mv 0) (pa_cons (mv 1) (pa_cons (mv 2) (pa_cons (mv 7) (pa_cons (mv 8) (pa_cons pe_bl pa_nil))))))))) (pss_one (ps_ret pe_bl)) pss_nil)))
    (pss_one (ps_ret (pe_g c__law_same hr (by decide) (gd_deeper hgd) rfl (pa_cons (mv 1) (pa_cons (mv 3) (pa_cons (pe_ix m_ix (mv 2) pe_int (fun _ _ => rfl)) (pa_cons (mv 4) (pa_cons (pe_ix m_ix (mv 2) pe_int (fun _ _ => rfl)) pa_nil))))))))))))))), ?_⟩
    refine ⟨fun σ H' => σ = [some (.ref p), some (.ref d.v), some (.ref c), some (.int sz), some (.ref l), none, none, none, none] ∧ H' = H, ?_, ?_⟩
    · exact ⟨_, _, .inr (SqT.of hc), atI_nat (j := 0) rfl, _, _, .inr (SqT.of hc), atI_nat (j := 2) rfl, _, _, rfl, rfl, rfl⟩
    rintro σ G ⟨rfl, rfl⟩
    -- three pairs
    refine ⟨fun σ H' => ∃ (pr : Addr) (L : List V), σ = [some (.ref p), some (.ref d.v), some (.ref c), some (.int sz), some (.ref l), some (.ref pr), none, none, none] ∧ H' pr = some (.lst L) ∧ L.length ≤ 3 ∧ (∀ u ∈ L, PairB sz es false H' u) ∧ UrnAt (n + 1) p q H' ∧ Frm [p, q] G H', ?_, ?_⟩
    · refine ⟨_, _, rfl, .inl ⟨_, SqL.of hl, rfl⟩, ?_⟩
      refine ⟨p, q, _, _, rfl, ur, by omega, by omega, Int.lt_of_le_of_lt (show ((xs.length : Nat) : Int) ≤ 60 by omega) (by decide +kernel), fun H3 r r0 r1 ur3 fr3 => ?_⟩
      have lt : r.toNat < xs.length := by omega
      have hv := List.getElem?_eq_getElem lt
      generalize xs[r.toNat] = v0 at hv
      obtain ⟨e, he, t, rfl, ht⟩ := (el.st (ur.tups fr3)).at hv
      have me := List.mem_of_getElem? he
      refine ⟨_, .ref t, .inl (SqL.of (fr3 _ _ hl lM)), atI_at r0 hv, ?_⟩
      refine ⟨mul (by decide) (by decide), (by show 2 ≤ sizeLine; decide), fun t1 nt1 => ⟨mul (by decide) (by decide), (by show 2 ≤ sizeLine; decide), fun t2 nt2 => ⟨(by show 3 ≤ sizeLine; decide), fun pr npr => ?_⟩⟩⟩
      have y1 := Ext.upd (o := .tup [.str "ann", .int (3 * sz - 1)]) nt1
      have y2 := Ext.upd (o := .tup [.str "bob", .int (5 * sz)]) nt2
      have y3 := Ext.upd (o := .lst [.ref t, .ref t1, .ref t2]) npr
      have y := (y1.trans y2).trans y3
      refine ⟨pr, _, rfl, upd_same, Nat.le_refl _, fun u hu => ?_, ur3.keep y, fr3.trans (Frm.ext y)⟩
      simp only [List.mem_cons, List.not_mem_nil, or_false] at hu
      rcases hu with rfl | rfl | rfl
      · exact ⟨t, e.1, e.2, rfl, y _ _ ht, (ok.ok e me).1, (ok.ok e me).2, .inl ⟨rfl, Tri.twice me⟩⟩
      · exact ⟨t1, _, _, rfl, y3 _ _ (y2 _ _ upd_same), by decide +kernel, by omega, .inl ⟨rfl, tri.shared so1 le l6 (k := 1) (by decide) (by decide +kernel) (div (bb := 2) (by omega) (by omega))⟩⟩
      · exact ⟨t2, _, _, rfl, y3 _ _ upd_same, by decide +kernel, by omega, .inl ⟨rfl, tri.shared so1 le l6 (k := 2) (by decide) (by decide +kernel) (div (bb := 5) (by omega) (by omega))⟩⟩
    rintro σ H1 ⟨pr, L, rfl, hpr, Ll, LB, ur1, fr1⟩
    -- two more
    refine ⟨fun σ H' => ∃ (pr : Addr) (L : List V), σ = [some (.ref p), some (.ref d.v), some (.ref c), some (.int sz), some (.ref l), some (.ref pr), none, none, none] ∧ pr ≠ p ∧ pr ≠ q ∧ H' pr = some (.lst L) ∧ L.length ≤ 5 ∧ (∀ u ∈ L, PairB sz es false H' u) ∧ UrnAt (n + 1) p q H' ∧ Frm [p, q] G H', ?_, ?_⟩
    · refine ⟨(by show 2 ≤ sizeLine; decide), fun t1 nt1 => ⟨(by show 2 ≤ sizeLine; decide), fun t2 nt2 => ⟨(by show 2 ≤ sizeLine; decide), fun t3 nt3 => ?_⟩⟩⟩
      have y1 := Ext.upd (o := .tup [.str "cy", .int (sz - 1)]) nt1
      have y2 := Ext.upd (o := .tup [.str "bob", .int sz]) nt2
      have y3 := Ext.upd (o := .lst [.ref t1, .ref t2]) nt3
      have y12 := (y1.trans y2).trans y3
      refine ⟨pr, t3, L, _, rfl, rfl, y12 _ _ hpr, upd_same, Nat.le_trans (show L.length + 2 ≤ 5 by omega) (by decide), fun p2 np2 => ?_⟩
      have y4 := Ext.upd (o := .lst (L ++ [.ref t1, .ref t2])) np2
      have y := y12.trans y4
      have npq := (ur1.keep y12).ne_p np2
      refine ⟨p2, _, rfl, npq.1, npq.2, upd_same, by rw [List.length_append]; show L.length + 2 ≤ 5; omega, fun u hu => ?_, ur1.keep y, fr1.trans (Frm.ext y)⟩
      rcases List.mem_append.mp hu with hu | hu
      · exact (LB u hu).st (TupSt.ext y)
      · simp only [List.mem_cons, List.not_mem_nil, or_false] at hu
        rcases hu with rfl | rfl
        · exact ⟨t1, _, _, rfl, y4 _ _ (y3 _ _ (y2 _ _ upd_same)), by decide +kernel, by omega, .inl ⟨rfl, tri.shared so1 le l6 (k := 0) (by decide) (by decide +kernel) (div (bb := 0) (by omega) (by omega))⟩⟩
        · exact ⟨t2, _, _, rfl, y4 _ _ (y3 _ _ upd_same), by decide +kernel, by omega, .inl ⟨rfl, tri.back so1 le l6 (k := 1) (by decide) (by show sz < 2 * sz; omega)⟩⟩
    clear hpr Ll LB ur1 fr1
    rintro σ H2 ⟨pr, L, rfl, np, nq, hpr, Ll, LB, ur2, fr2⟩
    have psh := fun (z : Str) (x bb : Int) (k m : Nat) (hk : k < 3) (hm : m < 3) (ez : z = nm3 k) (h1 : x / sz = bb) (h2 : bl3 k < bb) (h3 : bb < bl3 m) (new : ∀ i, i < 3 → bb ≠ bl3 i) => (show Bars sz ns3 (es ++ [(z, x)]) true from by
      subst ez
      obtain ⟨a1, a2⟩ := tri.pushed so1 le l6 (by omega) (k := k) (m := m) hk hm (x := x) (by rw [h1]; exact h2) (by rw [h1]; exact h3) (by rw [h1]; exact new)
      exact .inr ⟨rfl, a1, a2⟩)
    have new1 : ∀ i, i < 3 → (1 : Int) ≠ bl3 i := fun i hi => by
      have : i = 0 ∨ i = 1 ∨ i = 2 := by omega
      rcases this with rfl | rfl | rfl <;> decide
    have new3 : ∀ i, i < 3 → (3 : Int) ≠ bl3 i := fun i hi => by
      have : i = 0 ∨ i = 1 ∨ i = 2 := by omega
      rcases this with rfl | rfl | rfl <;> decide
    have new4 : ∀ i, i < 3 → (4 : Int) ≠ bl3 i := fun i hi => by
      have : i = 0 ∨ i = 1 ∨ i = 2 := by omega
      rcases this with rfl | rfl | rfl <;> decide
    -- pushed ones
    refine ⟨fun σ H' => ∃ (pu : Addr) (U : List V), σ = [some (.ref p), some (.ref d.v), some (.ref c), some (.int sz), some (.ref l), some (.ref pr), some (.ref pu), none, none] ∧ G pu = none ∧ pu ≠ p ∧ pu ≠ q ∧ pu ≠ pr ∧ H' pr = some (.lst L) ∧ (∀ u ∈ L, PairB sz es false H' u) ∧ H' pu = some (.lst U) ∧ U.length ≤ 2 ∧ (∀ u ∈ U, PairB sz es true H' u) ∧ UrnAt (n + 2) p q H' ∧ Frm [p, q] G H', ?_, ?_⟩
    · refine ⟨p, q, sz, _, rfl, ur2, by omega, so1, szl, fun H3 r r0 r1 ur3 fr3 => ?_⟩
      refine ⟨(by show 2 ≤ sizeLine; decide), fun t1 nt1 => ⟨mul (by decide) (by decide), (by show 2 ≤ sizeLine; decide), fun t2 nt2 => ⟨(by show 2 ≤ sizeLine; decide), fun pu npu => ?_⟩⟩⟩
      have y1 := Ext.upd (o := .tup [.str "ann", .int (sz + r)]) nt1
      have y2 := Ext.upd (o := .tup [.str "ann", .int (5 * sz - 1)]) nt2
      have y12 := y1.trans y2
      have y3 := Ext.upd (o := .lst [.ref t1, .ref t2]) npu
      have y := y12.trans y3
      have npq := (ur3.keep y12).ne_p npu
      have hpr3 := y12 _ _ (fr3 _ _ hpr (nin2 ⟨np, nq⟩))
      have f3 : Frm [p, q] G _ := (fr2.trans fr3).trans (Frm.ext y12)
      have pun : G pu = none := Classical.byContradiction fun h => f3.alloc (UrnAt.al (ur3.keep y12)) h npu
      refine ⟨pu, _, rfl, pun, npq.1, npq.2, (ne_of_none hpr3 npu).symm, y3 _ _ hpr3, fun u hu => ((LB u hu).st (ur2.tups fr3)).st (TupSt.ext y), upd_same, Nat.le_refl _, fun u hu => ?_, ur3.keep y, (fr2.trans fr3).trans (Frm.ext y)⟩
      simp only [List.mem_cons, List.not_mem_nil, or_false] at hu
      rcases hu with rfl | rfl
      · exact ⟨t1, _, _, rfl, y3 _ _ (y2 _ _ upd_same), by decide +kernel, by omega, psh "ann" _ 1 0 1 (by decide) (by decide) rfl (div (by omega) (by omega)) (by decide) (by decide) new1⟩
      · exact ⟨t2, _, _, rfl, y3 _ _ upd_same, by decide +kernel, by omega, psh "ann" _ 4 0 2 (by decide) (by decide) rfl (div (by omega) (by omega)) (by decide) (by decide) new4⟩
    clear hpr LB ur2 fr2
    rintro σ H3 ⟨pu, U, rfl, pun, up, uq, upr, hpr, LB, hpu, Ul, UB, ur3, fr3⟩
    refine ⟨fun σ H' => ∃ (U : List V), σ = [some (.ref p), some (.ref d.v), some (.ref c), some (.int sz), some (.ref l), some (.ref pr), some (.ref pu), none, none] ∧ H' pr = some (.lst L) ∧ (∀ u ∈ L, PairB sz es false H' u) ∧ H' pu = some (.lst U) ∧ U.length ≤ 3 ∧ (∀ u ∈ U, PairB sz es true H' u) ∧ UrnAt (n + 3) p q H' ∧ Frm [p, q] G H', ?_, ?_⟩
    · refine ⟨.inl ⟨rfl, _, SqL.of hpu⟩, mul (by decide) (by decide), p, q, sz, _, rfl, ur3, by omega, so1, szl, fun H4 r r0 r1 ur4 fr4 => ?_⟩
      refine ⟨(by show 2 ≤ sizeLine; decide), fun t1 nt1 => ?_⟩
      have y1 := Ext.upd (o := .tup [.str "bob", .int (3 * sz + r)]) nt1
      have st4 := (ur3.tups fr4).trans (TupSt.ext y1)
      have hpu4 := y1 _ _ (fr4 _ _ hpu (nin2 ⟨up, uq⟩))
      have hpr4 := y1 _ _ (fr4 _ _ hpr (nin2 ⟨np, nq⟩))
      have fr5 := (fr3.trans fr4).trans (Frm.ext y1)
      have ur5 := ur4.keep y1
      have ct : (upd H4 t1 (.tup [.str "bob", .int (3 * sz + r)])) t1 = some (.tup [.str "bob", .int (3 * sz + r)]) := upd_same
      generalize upd H4 t1 (.tup [.str "bob", .int (3 * sz + r)]) = H5 at st4 hpu4 hpr4 fr5 ur5 ct ⊢
      have st5 : TupSt H5 (upd H5 pu (.lst (U ++ [.ref t1]))) := TupSt.upd hpu4 (fun _ z => nomatch z)
      refine ⟨pu, U, _, rfl, rfl, hpu4, Nat.lt_of_le_of_lt (show U.length ≤ 2 by omega) (by decide), U ++ [.ref t1], rfl, by rw [upd_ne upr.symm]; exact hpr4, fun u hu => ((LB u hu).st st4).st st5, upd_same, by rw [List.length_append, List.length_singleton]; omega, fun u hu => ?_, ur5.keepU ⟨up, uq⟩, ?_⟩
      · rcases List.mem_append.mp hu with hu | hu
        · exact ((UB u hu).st st4).st st5
        · rw [List.mem_singleton.mp hu]
          exact ⟨t1, _, _, rfl, st5 _ _ ct, by decide +kernel, by omega, psh "bob" _ 3 1 2 (by decide) (by decide) rfl (div (by omega) (by omega)) (by decide) (by decide) new3⟩
      · exact fr5.new' pun
    clear hpr LB hpu Ul UB ur3 fr3
    rintro σ H4 ⟨U, rfl, hpr, LB, hpu, Ul, UB, ur4, fr4⟩
    have inM : ∀ x ∈ [p, q], x ∈ M0 := fun x hx => by
      simp only [List.mem_cons, List.not_mem_nil, or_false] at hx
      rcases hx with rfl | rfl <;> assumption
    have outF : ∀ x ∈ d.F, x ∉ [p, q] := fun x hx => nin2 ⟨fun z => pF (by rw [← z]; exact hx), fun z => qF (by rw [← z]; exact hx)⟩
    -- each is refused
    refine ⟨fun σ H' => ∃ v7 v8, σ = [some (.ref p), some (.ref d.v), some (.ref c), some (.int sz), some (.ref l), some (.ref pr), some (.ref pu), v7, v8] ∧ H' pu = some (.lst U) ∧ (∀ u ∈ U, PairB sz es true H' u) ∧ UrnAt (n + 8) p q H' ∧ Frm [p, q] G H', ?_, ?_⟩
    · refine ⟨pr, rfl, ⟨_, SqL.of hpr⟩, for_list (K := K) (a := pr) (xs := L) (fun i σ H' => ∃ v7 v8, σ = [some (.ref p), some (.ref d.v), some (.ref c), some (.int sz), some (.ref l), some (.ref pr), some (.ref pu), v7, v8] ∧ H' pr = some (.lst L) ∧ (∀ u ∈ L, PairB sz es false H' u) ∧ H' pu = some (.lst U) ∧ (∀ u ∈ U, PairB sz es true H' u) ∧ UrnAt (n + 3 + i) p q H' ∧ Frm [p, q] G H') ⟨_, _, rfl, hpr, LB, hpu, UB, ur4, fr4⟩ ?_ ?_ ?_⟩
      · rintro i σ H' _ ⟨_, _, rfl, h, _⟩; exact SqL.of h
      · clear hpr LB hpu UB ur4 fr4
        rintro i y σ G1 hy ⟨v7, v8, rfl, hpr, LB, hpu, UB, ur1, fr⟩
        have hi := (List.getElem?_eq_some_iff.mp hy).1
        obtain ⟨t, z, x, rfl, ht, hz, i0, bars⟩ := LB y (List.mem_of_getElem? hy)
        refine ⟨t, _, rfl, SqT.of ht, rfl, _, _, rfl, _, _, rfl, rfl, ?_⟩
        refine ⟨M0, p, q, _, d, c, sz, a, ns3, l, es, xs, b, z, x, false, ms, rfl, ur1, by omega, ur.tups fr _ _ hc, lv.fr fr (ur.tups fr) inM outF, fun x hx => fr.alloc (UrnAt.al ur1) (al x hx), pM, qM, pF, qF, so, fr _ _ ha (nin2 apq), cr, fr _ _ hl lM, lM, el.st (ur.tups fr), ok, by omega, hz, i0, bars, fun H' u' f' => ?_⟩
        have st' := ur1.tups f'
        exact ifF (by rfl) ⟨_, _, rfl, f' _ _ hpr (nin2 ⟨np, nq⟩), fun u hu => (LB u hu).st st', f' _ _ hpu (nin2 ⟨up, uq⟩), fun u hu => (UB u hu).st st', u', fr.trans f'⟩
      · rintro σ G1 ⟨v7, v8, rfl, _, _, hpu, UB, ur1, fr⟩
        exact ⟨_, _, rfl, hpu, UB, ur1.mono (by omega), fr⟩
    clear hpr LB hpu UB ur4 fr4
    rintro σ H5 ⟨v7, v8, rfl, hpu, UB, ur5, fr5⟩
    refine ⟨fun σ H' => ∃ v7 v8, σ = [some (.ref p), some (.ref d.v), some (.ref c), some (.int sz), some (.ref l), some (.ref pr), some (.ref pu), v7, v8] ∧ UrnAt (n + 11) p q H' ∧ Frm [p, q] G H', ?_, ?_⟩
    · refine ⟨pu, rfl, ⟨_, SqL.of hpu⟩, for_list (K := K) (a := pu) (xs := U) (fun i σ H' => ∃ v7 v8, σ = [some (.ref p), some (.ref d.v), some (.ref c), some (.int sz), some (.ref l), some (.ref pr), some (.ref pu), v7, v8] ∧ H' pu = some (.lst U) ∧ (∀ u ∈ U, PairB sz es true H' u) ∧ UrnAt (n + 8 + i) p q H' ∧ Frm [p, q] G H') ⟨_, _, rfl, hpu, UB, ur5, fr5⟩ ?_ ?_ ?_⟩
      · rintro i σ H' _ ⟨_, _, rfl, h, _⟩; exact SqL.of h
      · clear hpu UB ur5 fr5
        rintro i y σ G1 hy ⟨v7, v8, rfl, hpu, UB, ur1, fr⟩
        have hi := (List.getElem?_eq_some_iff.mp hy).1
        obtain ⟨t, z, x, rfl, ht, hz, i0, bars⟩ := UB y (List.mem_of_getElem? hy)
        refine ⟨t, _, rfl, SqT.of ht, rfl, _, _, rfl, _, _, rfl, rfl, ?_⟩
        refine ⟨M0, p, q, _, d, c, sz, a, ns3, l, es, xs, b, z, x, true, ms, rfl, ur1, by omega, ur.tups fr _ _ hc, lv.fr fr (ur.tups fr) inM outF, fun x hx => fr.alloc (UrnAt.al ur1) (al x hx), pM, qM, pF, qF, so, fr _ _ ha (nin2 apq), cr, fr _ _ hl lM, lM, el.st (ur.tups fr), ok, by omega, hz, i0, bars, fun H' u' f' => ?_⟩
        have st' := ur1.tups f'
        exact ifF (by rfl) ⟨_, _, rfl, f' _ _ hpu (nin2 ⟨up, uq⟩), fun u hu => (UB u hu).st st', u', fr.trans f'⟩
      · rintro σ G1 ⟨v7, v8, rfl, _, _, ur1, fr⟩
        exact ⟨_, _, rfl, ur1.mono (by omega), fr⟩
    clear hpu UB ur5 fr5
    rintro σ H6 ⟨v7, v8, rfl, ur6, fr6⟩
    have hc6 := SqT.of (K := K) (ur.tups fr6 _ _ hc)
    refine ⟨_, _, .inr hc6, atI_nat (j := 1) rfl, _, _, .inr hc6, atI_nat (j := 3) rfl, ?_⟩
    exact ⟨M0, d, sz, a, ns3, l, es, xs, b, ms, rfl, lv.fr fr6 (ur.tups fr6) inM outF, so, fr6 _ _ ha (nin2 apq), cr, fr6 _ _ hl lM, el.st (ur.tups fr6), ok, big, by omega, fun H7 x7 => k H7 ((ur6.keep x7).mono (by omega)) (fr6.trans (Frm.ext x7))⟩
end
end NB

set_option Elab.async false
set_option linter.all false
set_option maxRecDepth 100000
set_option maxHeartbeats 4000000
/-! K6a (k52): what stands while a live log grows -/
namespace NB
open PySem PySem.Spec L2
theorem one_at (i : Nat) (ms : List Nat) (h : ms = (List.range i).map (· + 1)) (j : Nat) (hj : j < i) : ms[j]? = some (j + 1) := by
  rw [h, List.getElem?_map, List.getElem?_range hj]; rfl
theorem range_step (i : Nat) : (List.range (i + 1)).map (· + 1) = (List.range i).map (· + 1) ++ [i + 1] := by
  rw [List.range_succ, List.map_append]; rfl
structure A5 where
  (p q l pl a : Addr)
structure BigI (M : List Addr) (D : A5) (d : Lv) (CV CL : Addr) (sz : Int) (ps : Nat → Int) (er el : List (Str × Int)) (xs : List V) (ms : List Nat) (n : Nat) (H : Hp) : Prop where
  ur : UrnAt n D.p D.q H
  nm : H D.a = some (.lst (ns3.map V.str))
  rows : H D.l = some (.lst xs)
  en : EntL H er xs
  pls : H D.pl = some (.lst [.int (ps 0), .int (ps 1), .int (ps 2)])
  lv : LiveK M CV CL H d sz ns3 el ms
  al : ∀ x ∈ M, H x ≠ none
structure BigC (M : List Addr) (D : A5) (d : Lv) : Prop where
  nd : [D.p, D.q, D.l, D.pl, D.a, d.v, d.s, d.m].Nodup
  sub : ∀ x ∈ [D.p, D.q, D.l, D.pl], x ∈ M
section
variable {M : List Addr} {D : A5} {d : Lv} {CV CL : Addr} {sz : Int} {ps ps' : Nat → Int} {er el : List (Str × Int)} {xs : List V} {ms : List Nat} {n : Nat} {H H' : Hp}
theorem BigI.ext (R : BigI M D d CV CL sz ps er el xs ms n H) (x : Ext H H') : BigI M D d CV CL sz ps er el xs ms n H' := ⟨R.ur.keep x, x _ _ R.nm, x _ _ R.rows, R.en.mono x, x _ _ R.pls, R.lv.mono x, fun c h z => R.al c h (Ext.free x z)⟩
theorem BigI.up {m : Nat} (R : BigI M D d CV CL sz ps er el xs ms n H) (h : n ≤ m) : BigI M D d CV CL sz ps er el xs ms m H := ⟨R.ur.mono h, R.nm, R.rows, R.en, R.pls, R.lv, R.al⟩
/-- drawn -/
theorem BigI.urn {m : Nat} (C : BigC M D d) (R : BigI M D d CV CL sz ps er el xs ms n H) (u : UrnAt m D.p D.q H') (f : Frm [D.p, D.q] H H') : BigI M D d CV CL sz ps er el xs ms m H' := by
  have st := R.ur.tups f
  have nd := C.nd
  have no : ∀ {c : Addr}, c ≠ D.p → c ≠ D.q → c ∉ [D.p, D.q] := fun a b => nin2 ⟨a, b⟩
  refine ⟨u, f _ _ R.nm (no ?_ ?_), f _ _ R.rows (no ?_ ?_), R.en.st st, f _ _ R.pls (no ?_ ?_), R.lv.fr f st (fun x hx => C.sub x (by simp only [List.mem_cons, List.not_mem_nil, or_false] at hx ⊢; rcases hx with h | h <;> simp [h])) (fun x hx => ?_), fun x hx => f.alloc (UrnAt.al u) (R.al x hx)⟩
  case refine_7 =>
    simp only [Lv.F, List.mem_cons, List.not_mem_nil, or_false] at hx
    rcases hx with rfl | rfl | rfl <;> refine no ?_ ?_
    all_goals (intro z; rw [z] at nd; simp at nd)
  all_goals (intro z; rw [z] at nd; simp at nd)
/-- one list changed, that is not the live log's -/
theorem BigI.row {er' : List (Str × Int)} {ys : List V} (C : BigC M D d) (R : BigI M D d CV CL sz ps er el xs ms n H) (e : EntL H er' ys) : BigI M D d CV CL sz ps er' el ys ms n (upd H D.l (.lst ys)) := by
  have st := TupSt.upd (o := .lst ys) R.rows (fun _ z => nomatch z)
  have fm : Frm [D.l] H (upd H D.l (.lst ys)) := (Frm.refl).upd mem1
  have nd := C.nd
  have no : ∀ {c : Addr}, c ≠ D.l → c ∉ [D.l] := fun h z => h (List.mem_singleton.mp z)
  refine ⟨R.ur.fr fm (no ?_) (no ?_), fm _ _ R.nm (no ?_), upd_same, e.st st, fm _ _ R.pls (no ?_), R.lv.fr fm st (fun x hx => C.sub x (by rw [List.mem_singleton.mp hx]; simp)) (fun x hx => ?_), fun x hx => fm.alloc (fun y hy => by rw [List.mem_singleton.mp hy, upd_same]; exact fun z => nomatch z) (R.al x hx)⟩
  case refine_5 =>
    simp only [Lv.F, List.mem_cons, List.not_mem_nil, or_false] at hx
    rcases hx with rfl | rfl | rfl <;> refine no ?_
    all_goals (intro z; rw [z] at nd; simp at nd)
  all_goals (intro z; rw [z] at nd; simp at nd)
theorem BigI.place (C : BigC M D d) (R : BigI M D d CV CL sz ps er el xs ms n H) : BigI M D d CV CL sz ps' er el xs ms n (upd H D.pl (.lst [.int (ps' 0), .int (ps' 1), .int (ps' 2)])) := by
  have st := TupSt.upd (o := .lst [.int (ps' 0), .int (ps' 1), .int (ps' 2)]) R.pls (fun _ z => nomatch z)
  have fm : Frm [D.pl] H (upd H D.pl (.lst [.int (ps' 0), .int (ps' 1), .int (ps' 2)])) := (Frm.refl).upd mem1
  have nd := C.nd
  have no : ∀ {c : Addr}, c ≠ D.pl → c ∉ [D.pl] := fun h z => h (List.mem_singleton.mp z)
  refine ⟨R.ur.fr fm (no ?_) (no ?_), fm _ _ R.nm (no ?_), fm _ _ R.rows (no ?_), R.en.st st, upd_same, R.lv.fr fm st (fun x hx => C.sub x (by rw [List.mem_singleton.mp hx]; simp)) (fun x hx => ?_), fun x hx => fm.alloc (fun y hy => by rw [List.mem_singleton.mp hy, upd_same]; exact fun z => nomatch z) (R.al x hx)⟩
  case refine_5 =>
    simp only [Lv.F, List.mem_cons, List.not_mem_nil, or_false] at hx
    rcases hx with rfl | rfl | rfl <;> refine no ?_
    all_goals (intro z; rw [z] at nd; simp at nd)
  all_goals (intro z; rw [z] at nd; simp at nd)
/-- the live log changed -/
theorem BigI.live {F : List Addr} {el' : List (Str × Int)} {ms' : List Nat} (C : BigC M D d) (R : BigI M D d CV CL sz ps er el xs ms n H) (fm : Frm F H H') (st : TupSt H H') (sub : ∀ x ∈ F, x ∈ d.F) (lv : LiveK M CV CL H' d sz ns3 el' ms') : BigI M D d CV CL sz ps er el' xs ms' n H' := by
  have nd := C.nd
  have no : ∀ {c : Addr}, c ≠ d.v → c ≠ d.s → c ≠ d.m → c ∉ F := fun a b e z => by
    have := sub _ z
    simp only [Lv.F, List.mem_cons, List.not_mem_nil, or_false] at this
    rcases this with r | r | r
    · exact a r
    · exact b r
    · exact e r
  refine ⟨R.ur.fr fm (no ?_ ?_ ?_) (no ?_ ?_ ?_), fm _ _ R.nm (no ?_ ?_ ?_), fm _ _ R.rows (no ?_ ?_ ?_), R.en.st st, fm _ _ R.pls (no ?_ ?_ ?_), lv, fun x hx => fm.alloc (fun y hy => lv.alloc y (sub y hy)) (R.al x hx)⟩
  all_goals (intro z; rw [z] at nd; simp at nd)
end
end NB

set_option Elab.async false
set_option linter.all false
set_option maxRecDepth 100000
set_option maxHeartbeats 8000000
/-! K6 (k52): the law of long live logs -/
namespace NB
open PySem PySem.Spec L2
open PyProof.Rows (envOfC)
open C8 (pe_c pe_mk pe_mt pe_mt0 pe_gc fnScope fnBody fnArgs fnScope_by Cal Met Mak)
/-- what the law is read over -/
structure Tops (K : PySem.W.Frag) (mg : Str → Option Value) (cL cX cF cA cB fA fB gA gB cBk cN fT cU cI fW fWs : Addr) (dA dB eA eB dT dW dWs : FuncData) (A0 : Ads) (B : AdF) (W : AdL) : Prop where
  T : Tx K mg cL cX
  F : Tf mg
  n_sorted : mg "sorted" = none
  ML : LogM K cL cX cL false A0
  MX : LogM K cL cX cX true A0
  Ms : Ms K A0
  LF : FactM K cF B
  mkF : Mk K cF B.fI
  xFI : Mx K "__init__" "Facts.__init__" s_Facts___init__ ["self", "size", "servers", "entries"] B.fI B.dI
  xA : Mx K "window_at" "Facts.window_at" s_Facts_window_at ["self", "server", "place"] B.fA B.dA
  xP : Mx K "plain_fault" "Facts.plain_fault" s_Facts_plain_fault ["self"] B.fP B.dP
  xR : Mx K "rows" "Facts.rows" s_Facts_rows ["self"] B.fR B.dR
  xS : Mx K "last_slot" "Facts.last_slot" s_Facts_last_slot ["self"] B.fS B.dS
  mW : Meth K cF "window_of" fW
  xW : Mx K "window_of" "Facts.window_of" s_Facts_window_of ["self", "server", "block"] fW dW
  mWs : Meth K cF "windows" fWs
  xWs : Mx K "windows" "Facts.windows" s_Facts_windows ["self", "block"] fWs dWs
  n_all : mg "all" = none
  LA : LiveM K cA fA gA W
  LB : LiveM K cB fB gB W
  xBA : Mx K "begun" "LiveLog.begun" s_LiveLog_begun ["self", "size", "servers"] fA dA
  xBB : Mx K "begun" "LiveLosingLog.begun" s_LiveLosingLog_begun ["self", "size", "servers"] fB dB
  xFA : Mx K "fresh" "LiveLog.fresh" s_LiveLog_fresh ["self"] gA eA
  xFB : Mx K "fresh" "LiveLosingLog.fresh" s_LiveLosingLog_fresh ["self"] gB eB
  xVI : Mx K "__init__" "LiveLog.__init__" s_LiveLog___init__ ["self", "size", "servers"] W.fI W.dI
  xVS : Mx K "see" "LiveLog.see" s_LiveLog_see ["self", "server", "number"] W.fS W.dS
  xVN : Mx K "now" "LiveLog.now" s_LiveLog_now ["self"] W.fN W.dN
  xVU : Mx K "undo" "LiveLog.undo" s_LiveLog_undo ["self"] W.fU W.dU
  xVT : Mx K "twin" "LiveLog.twin" s_LiveLog_twin ["self"] W.fT W.dT
  xVL : Mx K "__len__" "LiveLog.__len__" s_LiveLog___len__ ["self"] W.fL W.dL
  xVM : Mx K "mark" "LiveLog.mark" s_LiveLog_mark ["self"] W.fM W.dM
  xVB : Mx K "undo_to" "LiveLog.undo_to" s_LiveLog_undo_to ["self", "index"] W.fV W.dV
  dVS : W.dS.defaults = .none
  T2 : NotE K mg cBk cN fT dT
  eN : PySem.W.exmOne K (.ref cN) (.ref cN) = some true
  T3 : ErrC K mg "NothingToUndo" cU
  T5 : ErrC K mg "InvalidNumber" cI
  mgL : mg "Log" = some (.ref cL)
  mgX : mg "LosingLog" = some (.ref cX)
  mgF : mg "Facts" = some (.ref cF)
  mgA : mg "LiveLog" = some (.ref cA)
  mgB : mg "LiveLosingLog" = some (.ref cB)
  d_is_integer : Dx K mg "is_integer" s_is_integer ["thing"]
  d_is_size : Dx K mg "is_size" s_is_size ["thing"]
  d_is_name : Dx K mg "is_name" s_is_name ["thing"]
  d_are_servers : Dx K mg "are_servers" s_are_servers ["thing"]
  d_is_server : Dx K mg "is_server" s_is_server ["servers", "thing"]
  d_is_entry : Dx K mg "is_entry" s_is_entry ["servers", "thing"]
  d_are_entries : Dx K mg "are_entries" s_are_entries ["servers", "thing"]
  d_need_server : Dx K mg "need_server" s_need_server ["servers", "thing"]
  d_log_of : Dx K mg "log_of" s_log_of ["kind", "size", "servers", "entries"]
  d_facts_of : Dx K mg "facts_of" s_facts_of ["log"]
  d_least_slot : Dx K mg "least_slot" s_least_slot ["windows", "start"]
  d_least_slots : Dx K mg "least_slots" s_least_slots ["rows"]
  d_pushes_of : Dx K mg "pushes_of" s_pushes_of ["rows", "end"]
  d_obstacle_in : Dx K mg "obstacle_in" s_obstacle_in ["facts"]
  d_obstacle : Dx K mg "obstacle" s_obstacle ["log"]
  d_law_urn : Dx K mg "_law_urn" s__law_urn ["script"]
  d_law_lot : Dx K mg "_law_lot" s__law_lot ["urn", "many"]
  d_law_live : Dx K mg "_law_live" s__law_live ["wide", "names", "is_losing"]
  d_law_log : Dx K mg "_law_log" s__law_log ["wide", "names", "rows", "is_losing"]
  d_law_same : Dx K mg "_law_same" s__law_same ["live", "wide", "names", "rows", "is_losing"]
  d_law_tried : Dx K mg "_law_tried" s__law_tried ["live", "name", "number_here", "by_name"]
  d_is_index : Dx K mg "is_index" s_is_index ["thing", "limit"]
  d_shows_two : Dx K mg "shows_two" s_shows_two ["facts", "kind", "early", "late"]
  d_are_steps : Dx K mg "are_steps" s_are_steps ["facts", "thing"]
  d_shows_steps : Dx K mg "shows_steps" s_shows_steps ["facts", "thing"]
  d_shows_obstacle : Dx K mg "shows_obstacle" s_shows_obstacle ["log", "thing"]
  d_law_clash : Dx K mg "_law_clash" s__law_clash ["wide", "rows"]
  d_law_is_fault : Dx K mg "_law_is_fault" s__law_is_fault ["wide", "rows", "told"]
  d_law_refused_right : Dx K mg "_law_refused_right" s__law_refused_right ["urn", "live", "case", "name", "value", "is_pushed"]
  d_law_ends_right : Dx K mg "_law_ends_right" s__law_ends_right ["urn", "live", "case"]
section
variable {P : Program} {w : World} {K : PySem.W.Frag} {mg : Str → Option Value} {base : Heap} {cL cX cF cA cB fA fB gA gB cBk cN fT cU cI fW fWs : Addr} {dA dB eA eB dT dW dWs : FuncData} {A0 : Ads} {B : AdF} {W : AdL}
theorem Tops.Tk (S : Tops K mg cL cX cF cA cB fA fB gA gB cBk cN fT cU cI fW fWs dA dB eA eB dT dW dWs A0 B W) : Tb mg := S.F.toTb
theorem Tops.integer (S : Tops K mg cL cX cF cA cB fA fB gA gB cBk cN fT cU cI fW fWs dA dB eA eB dT dW dWs A0 B W) : Cal P w K mg base 1 "is_integer" (spInteger K) [] := ok_is_integer S.T S.d_is_integer
theorem Tops.server (S : Tops K mg cL cX cF cA cB fA fB gA gB cBk cN fT cU cI fW fWs dA dB eA eB dT dW dWs A0 B W) : Cal P w K mg base 1 "is_server" (spServer K) [] := ok_is_server S.T S.d_is_server
theorem Tops.size (S : Tops K mg cL cX cF cA cB fA fB gA gB cBk cN fT cU cI fW fWs dA dB eA eB dT dW dWs A0 B W) : Cal P w K mg base 2 "is_size" spSizeB [] := ok_is_size S.T S.d_is_size S.integer
theorem Tops.servers (S : Tops K mg cL cX cF cA cB fA fB gA gB cBk cN fT cU cI fW fWs dA dB eA eB dT dW dWs A0 B W) : Cal P w K mg base 2 "are_servers" spCrew [] := ok_are_servers S.T S.d_are_servers (ok_is_name S.T S.d_is_name)
theorem Tops.entry (S : Tops K mg cL cX cF cA cB fA fB gA gB cBk cN fT cU cI fW fWs dA dB eA eB dT dW dWs A0 B W) : Cal P w K mg base 2 "is_entry" (spEntry K) [] := ok_is_entry S.T S.d_is_entry S.server S.integer
theorem Tops.entries (S : Tops K mg cL cX cF cA cB fA fB gA gB cBk cN fT cU cI fW fWs dA dB eA eB dT dW dWs A0 B W) : Cal P w K mg base 3 "are_entries" spEntries [] := ok_are_entries S.T S.d_are_entries S.entry
theorem Tops.initL (S : Tops K mg cL cX cF cA cB fA fB gA gB cBk cN fT cU cI fW fWs dA dB eA eB dT dW dWs A0 B W) : FnOk P w K mg base C8.CX0 4 A0.fI A0.dI ["self", "size", "servers", "entries"] (spInit cL) := ok_init S.T S.ML.toLogC S.Ms.mI S.size S.servers S.entries
theorem Tops.initX (S : Tops K mg cL cX cF cA cB fA fB gA gB cBk cN fT cU cI fW fWs dA dB eA eB dT dW dWs A0 B W) : FnOk P w K mg base C8.CX0 4 A0.fI A0.dI ["self", "size", "servers", "entries"] (spInit cX) := ok_init S.T S.MX.toLogC S.Ms.mI S.size S.servers S.entries
theorem Tops.makL (S : Tops K mg cL cX cF cA cB fA fB gA gB cBk cN fT cU cI fW fWs dA dB eA eB dT dW dWs A0 B W) : Mak P w K mg base 4 "Log" cL (spInit cL) [] := ⟨_, _, _, _, S.ML.mkk, S.initL, S.mgL, S.Ms.mI.b, .nil⟩
theorem Tops.makX (S : Tops K mg cL cX cF cA cB fA fB gA gB cBk cN fT cU cI fW fWs dA dB eA eB dT dW dWs A0 B W) : Mak P w K mg base 4 "LosingLog" cX (spInit cX) [] := ⟨_, _, _, _, S.MX.mkk, S.initX, S.mgX, S.Ms.mI.b, .nil⟩
theorem Tops.makF (S : Tops K mg cL cX cF cA cB fA fB gA gB cBk cN fT cU cI fW fWs dA dB eA eB dT dW dWs A0 B W) : Mak P w K mg base 1 "Facts" cF (spFactsI cF) [] := ⟨_, _, _, _, S.mkF, ok_facts S.Tk S.LF.toFactC S.xFI, S.mgF, S.xFI.b, .nil⟩
theorem Tops.facts (S : Tops K mg cL cX cF cA cB fA fB gA gB cBk cN fT cU cI fW fWs dA dB eA eB dT dW dWs A0 B W) : Cal P w K mg base 3 "facts_of" (spFactsOf K cL cX A0 cF) [] := ok_factsOf S.T S.Ms S.d_facts_of S.makF
theorem Tops.obsIn (S : Tops K mg cL cX cF cA cB fA fB gA gB cBk cN fT cU cI fW fWs dA dB eA eB dT dW dWs A0 B W) : Cal P w K mg base 4 "obstacle_in" (spObsIn cF) [] :=
  ok_obsIn S.F S.LF.toFactC S.LF.mP (ok_plain S.F S.LF.toFactC S.xP) S.xP.b S.LF.mR (ok_rows S.Tk S.n_sorted S.LF.toFactC S.LF.mA (ok_at S.Tk S.LF.toFactC S.xA) S.xA.b S.xR) S.xR.b S.LF.mS (ok_lastSlot S.Tk S.LF.toFactC S.xS) S.xS.b S.d_obstacle_in
    (ok_pushes S.F S.d_pushes_of (ok_leasts S.Tk S.d_least_slots (ok_least S.Tk S.d_least_slot)))
theorem Tops.obs (S : Tops K mg cL cX cF cA cB fA fB gA gB cBk cN fT cU cI fW fWs dA dB eA eB dT dW dWs A0 B W) : Cal P w K mg base 5 "obstacle" (spObs K cL cX A0) [] := ok_obstacle S.d_obstacle S.facts S.obsIn
theorem Tops.log (S : Tops K mg cL cX cF cA cB fA fB gA gB cBk cN fT cU cI fW fWs dA dB eA eB dT dW dWs A0 B W) (b : Bool) : LogM K cL cX (kC cL cX b) b A0 := by
  cases b with
  | true => exact S.MX
  | false => exact S.ML
theorem Tops.live (S : Tops K mg cL cX cF cA cB fA fB gA gB cBk cN fT cU cI fW fWs dA dB eA eB dT dW dWs A0 B W) (b : Bool) : ∃ f g, LiveM K (kV cA cB b) f g W := by
  cases b with
  | true => exact ⟨_, _, S.LB⟩
  | false => exact ⟨_, _, S.LA⟩
theorem Tops.logof (S : Tops K mg cL cX cF cA cB fA fB gA gB cBk cN fT cU cI fW fWs dA dB eA eB dT dW dWs A0 B W) : Cal P w K mg base 6 "log_of" (spMade cL cX) [] := ok_logof S.T S.d_log_of S.makL S.makX
theorem Tops.with (S : Tops K mg cL cX cF cA cB fA fB gA gB cBk cN fT cU cI fW fWs dA dB eA eB dT dW dWs A0 B W) (b : Bool) : FnOk P w K mg base C8.CX0 7 A0.fW A0.dW ["self", "server", "number"] (spWith (kC cL cX b)) := ok_with S.T (S.log b).toLogC rfl S.Ms.mW S.logof (ok_need S.d_need_server S.server)
theorem Tops.makA (S : Tops K mg cL cX cF cA cB fA fB gA gB cBk cN fT cU cI fW fWs dA dB eA eB dT dW dWs A0 B W) : Mak P w K mg base 7 "LiveLog" cA (spLiveI cA cL) [] := ⟨_, _, _, _, S.LA.mkk, ok_liveI S.LA (ok_begun S.xBA S.makL) S.xBA.b S.xVI, S.mgA, S.xVI.b, .nil⟩
theorem Tops.makB (S : Tops K mg cL cX cF cA cB fA fB gA gB cBk cN fT cU cI fW fWs dA dB eA eB dT dW dWs A0 B W) : Mak P w K mg base 7 "LiveLosingLog" cB (spLiveI cB cX) [] := ⟨_, _, _, _, S.LB.mkk, ok_liveI S.LB (ok_begunX S.xBB S.makX) S.xBB.b S.xVI, S.mgB, S.xVI.b, .nil⟩
theorem Tops.liveC (S : Tops K mg cL cX cF cA cB fA fB gA gB cBk cN fT cU cI fW fWs dA dB eA eB dT dW dWs A0 B W) (b : Bool) : LiveC K (kV cA cB b) := (S.live b).elim fun _ h => h.elim fun _ h => h.toLiveC
theorem Tops.lot (S : Tops K mg cL cX cF cA cB fA fB gA gB cBk cN fT cU cI fW fWs dA dB eA eB dT dW dWs A0 B W) : Cal P w K mg base 1 "_law_lot" spLot [] := ok_lot S.T.toBlt S.d_law_lot
theorem Tops.see (S : Tops K mg cL cX cF cA cB fA fB gA gB cBk cN fT cU cI fW fWs dA dB eA eB dT dW dWs A0 B W) (b : Bool) : FnOk P w K mg base (L2.CX P w) 8 W.fS W.dS ["self", "server", "number"] (spSee K (kV cA cB b) (kC cL cX b) cN) := ok_see S.T2 (S.liveC b) S.Ms (S.log b) (S.with b) S.obs S.xVS
theorem Tops.undo (S : Tops K mg cL cX cF cA cB fA fB gA gB cBk cN fT cU cI fW fWs dA dB eA eB dT dW dWs A0 B W) (b : Bool) : FnOk P w K mg base (L2.CX P w) 1 W.fU W.dU ["self"] (spUndo (kV cA cB b) cU) := ok_undo S.T3 S.T.toBlt (S.liveC b) S.xVU
theorem Tops.now (S : Tops K mg cL cX cF cA cB fA fB gA gB cBk cN fT cU cI fW fWs dA dB eA eB dT dW dWs A0 B W) (b : Bool) : FnOk P w K mg base C8.CX0 1 W.fN W.dN ["self"] (spNow (kV cA cB b)) := ok_now (S.liveC b) S.xVN
theorem Tops.lenV (S : Tops K mg cL cX cF cA cB fA fB gA gB cBk cN fT cU cI fW fWs dA dB eA eB dT dW dWs A0 B W) (b : Bool) : FnOk P w K mg base C8.CX0 1 W.fL W.dL ["self"] (spLenV (kV cA cB b)) := ok_lenV S.T.toBlt (S.liveC b) S.xVL
theorem Tops.twin (S : Tops K mg cL cX cF cA cB fA fB gA gB cBk cN fT cU cI fW fWs dA dB eA eB dT dW dWs A0 B W) (b : Bool) : FnOk P w K mg base C8.CX0 10 W.fT W.dT ["self"] (spTwin (kV cA cB b) (kC cL cX b)) := by
  cases b with
  | true => exact ok_twin S.T S.LB (ok_freshX (fB := fB) (fF := gB) (B := W) S.T S.LB.toLiveC S.Ms S.MX S.makB S.xFB) S.xFB.b S.xVT
  | false => exact ok_twin S.T S.LA (ok_fresh (fB := fA) (fF := gA) (B := W) S.T S.LA.toLiveC S.Ms S.ML S.makA S.xFA) S.xFA.b S.xVT
theorem Tops.loglaw (S : Tops K mg cL cX cF cA cB fA fB gA gB cBk cN fT cU cI fW fWs dA dB eA eB dT dW dWs A0 B W) : Cal P w K mg base 6 "_law_log" (spLog cL cX) [] := ok_log S.T.toBlt S.d_law_log S.makL S.makX
theorem Tops.livelaw (S : Tops K mg cL cX cF cA cB fA fB gA gB cBk cN fT cU cI fW fWs dA dB eA eB dT dW dWs A0 B W) : Cal P w K mg base 9 "_law_live" (spLive cA cB cL cX) [] := ok_live S.T.toBlt S.d_law_live S.makA S.makB
theorem Tops.same (S : Tops K mg cL cX cF cA cB fA fB gA gB cBk cN fT cU cI fW fWs dA dB eA eB dT dW dWs A0 B W) : CalG P w K mg base 8 "_law_same" (spSame cA cB cL cX) := ok_same S.T S.Ms S.log S.live S.now S.xVN.b S.lenV S.xVL.b S.d_law_same S.loglaw
theorem Tops.tried (S : Tops K mg cL cX cF cA cB fA fB gA gB cBk cN fT cU cI fW fWs dA dB eA eB dT dW dWs A0 B W) : Cal P w K mg base 9 "_law_tried" (spTried K cA cB cL cX) [] := ok_tried S.T S.T2 S.eN S.live S.see S.xVS.b (kb_see S.xVS S.dVS) S.d_law_tried
theorem Tops.mark (S : Tops K mg cL cX cF cA cB fA fB gA gB cBk cN fT cU cI fW fWs dA dB eA eB dT dW dWs A0 B W) (b : Bool) : FnOk P w K mg base C8.CX0 1 W.fM W.dM ["self"] (spMark (kV cA cB b)) := ok_mark S.T.toBlt (S.liveC b) S.xVM
theorem Tops.backTo (S : Tops K mg cL cX cF cA cB fA fB gA gB cBk cN fT cU cI fW fWs dA dB eA eB dT dW dWs A0 B W) (b : Bool) : FnOk P w K mg base (L2.CX P w) 1 W.fV W.dV ["self", "index"] (spBackTo (kV cA cB b) cI) := ok_backTo S.T5 S.T.toBlt (S.liveC b) S.xVB
theorem Tops.clash (S : Tops K mg cL cX cF cA cB fA fB gA gB cBk cN fT cU cI fW fWs dA dB eA eB dT dW dWs A0 B W) : Cal P w K mg base 1 "_law_clash" spClash [] := ok_clash S.Tk S.d_law_clash
theorem Tops.isFault (S : Tops K mg cL cX cF cA cB fA fB gA gB cBk cN fT cU cI fW fWs dA dB eA eB dT dW dWs A0 B W) : Cal P w K mg base 2 "_law_is_fault" spIsFault [] := ok_isFault S.T.toBlt S.clash S.d_law_is_fault
theorem Tops.slot (S : Tops K mg cL cX cF cA cB fA fB gA gB cBk cN fT cU cI fW fWs dA dB eA eB dT dW dWs A0 B W) : FnOk P w K mg base C8.CX0 1 B.fS B.dS ["self"] (spLastSlot cF) := ok_lastSlot S.Tk S.LF.toFactC S.xS
theorem Tops.index (S : Tops K mg cL cX cF cA cB fA fB gA gB cBk cN fT cU cI fW fWs dA dB eA eB dT dW dWs A0 B W) : Cal P w K mg base 2 "is_index" spIndex [] := ok_index S.d_is_index S.integer
theorem Tops.least (S : Tops K mg cL cX cF cA cB fA fB gA gB cBk cN fT cU cI fW fWs dA dB eA eB dT dW dWs A0 B W) : Cal P w K mg base 1 "least_slot" spLeast [] := ok_least S.Tk S.d_least_slot
theorem Tops.steps (S : Tops K mg cL cX cF cA cB fA fB gA gB cBk cN fT cU cI fW fWs dA dB eA eB dT dW dWs A0 B W) : Cal P w K mg base 4 "shows_steps" (spSteps cF) [] := ok_steps S.F S.LF.toFactC S.LF.mP (ok_plain S.F S.LF.toFactC S.xP) S.xP.b S.mWs (ok_wins S.LF.toFactC S.mW (ok_winOf S.Tk S.LF.toFactC S.xW) S.xW.b S.xWs) S.xWs.b S.d_shows_steps (ok_areSteps S.F S.n_all S.LF.toFactC S.LF.mS S.slot S.xS.b S.d_are_steps S.index) S.least
theorem Tops.shows (S : Tops K mg cL cX cF cA cB fA fB gA gB cBk cN fT cU cI fW fWs dA dB eA eB dT dW dWs A0 B W) : Cal P w K mg base 5 "shows_obstacle" (spShows K cL cX A0) [] := ok_shows S.F S.d_shows_obstacle S.facts (ok_two S.F S.LF.toFactC S.LF.mS S.slot S.xS.b S.d_shows_two S.index) S.steps
theorem Tops.refR (S : Tops K mg cL cX cF cA cB fA fB gA gB cBk cN fT cU cI fW fWs dA dB eA eB dT dW dWs A0 B W) : Cal P w K mg base 10 "_law_refused_right" (spRef cA cB cL cX) [] := ok_refR S.T.toBlt S.log S.d_law_refused_right S.lot S.tried S.isFault S.loglaw S.shows
theorem Tops.ends (S : Tops K mg cL cX cF cA cB fA fB gA gB cBk cN fT cU cI fW fWs dA dB eA eB dT dW dWs A0 B W) : CalG P w K mg base 11 "_law_ends_right" (spEnds cA cB cL cX) := ok_ends S.T.toBlt S.d_law_ends_right S.lot S.refR S.same
def spLaw (K : PySem.W.Frag) : Sp := fun vs H Q _ => ∃ (a : Addr) (ns : List Int), vs = [.ref a] ∧ SqL K H a (ns.map V.int) ∧ ns.length ≤ 63 ∧ ∀ H', Q (.bl true) H'
theorem ok_law (S : Tops K mg cL cX cF cA cB fA fB gA gB cBk cN fT cU cI fW fWs dA dB eA eB dT dW dWs A0 B W) {f : Addr} {fd : FuncData} (F : C8.Fun K "law" "law" s_law f fd) : FnG P w K mg base 12 f fd ["script"] (spLaw K) := by
  refine fnG_of F sc_law (fun vs H Q E h => ?_) (fun cdv A o s H vs Q E hr hgd h => ?_)
  · obtain ⟨a, ns, rfl, _⟩ := h; rfl
  · obtain ⟨a, ns0, rfl, hS, hn, k⟩ := h
    have T := S.T
    have c__law_urn : Cal P w K mg base 1 "_law_urn" (spUrn K) [] := ok_urn T.toBlt S.d_law_urn
    have c__law_lot : Cal P w K mg base 1 "_law_lot" spLot [] := S.lot
    have c__law_live : Cal P w K mg base 9 "_law_live" (spLive cA cB cL cX) [] := S.livelaw
    have c__law_tried : Cal P w K mg base 9 "_law_tried" (spTried K cA cB cL cX) [] := S.tried
    have c__law_same : CalG P w K mg base 8 "_law_same" (spSame cA cB cL cX) := S.same
    have c__law_ends_right : CalG P w K mg base 11 "_law_ends_right" (spEnds cA cB cL cX) := S.ends
    have MK : ∀ b, MetF P w K mg base C8.CX0 1 (kV cA cB b) "mark" (spMark (kV cA cB b)) := fun b => by
      obtain ⟨_, _, h⟩ := S.live b
      exact ⟨_, _, _, h.cl, h.mM, S.mark b, S.xVM.b⟩
    have MT : ∀ b, MetF P w K mg base C8.CX0 10 (kV cA cB b) "twin" (spTwin (kV cA cB b) (kC cL cX b)) := fun b => by
      obtain ⟨_, _, h⟩ := S.live b
      exact ⟨_, _, _, h.cl, h.mT, S.twin b, S.xVT.b⟩
    have MU : ∀ b, MetF P w K mg base (L2.CX P w) 1 (kV cA cB b) "undo" (spUndo (kV cA cB b) cU) := fun b => by
      obtain ⟨_, _, h⟩ := S.live b
      exact ⟨_, _, _, h.cl, h.mU, S.undo b, S.xVU.b⟩
    have MB : ∀ b, MetF P w K mg base (L2.CX P w) 1 (kV cA cB b) "undo_to" (spBackTo (kV cA cB b) cI) := fun b => by
      obtain ⟨_, _, h⟩ := S.live b
      exact ⟨_, _, _, h.cl, h.mV, S.backTo b, S.xVB.b⟩
    have ML : ∀ b, SpcF P w K mg base C8.CX0 1 (kV cA cB b) "__len__" (spLenV (kV cA cB b)) := fun b => by
      obtain ⟨_, _, h⟩ := S.live b
      exact ⟨_, _, _, h.sN, h.iN, S.lenV b, S.xVL.b⟩
    have e6 : (10 : Int) ^ (6 : Int).toNat = 10 ^ 6 := rfl
    have e29 : (10 : Int) ^ (29 : Int).toNat = 10 ^ 29 := rfl
    refine ⟨_, (pss_cons (ps_set (i := 1) sc_law.nd rfl (Or.inl rfl) (pe_c c__law_urn hr (by decide) rfl (pa_cons (mv 0) pa_nil)))
    (C8.pss_cut (ps_par (i := 2) (j := 3) rfl sc_law.nd rfl rfl (by decide) rfl rfl (pa_cons (pe_cmpR m_eq (pe_c c__law_lot hr (by decide) rfl (pa_cons (mv 1) (pa_cons pe_int pa_nil))) pe_int (nomark _)) (pa_cons (pe_op m_add (pe_op m_pow pe_int pe_int) (pe_c c__law_lot hr (by decide) rfl (pa_cons (mv 1) (pa_cons (pe_op m_pow pe_int pe_int) pa_nil)))) pa_nil)) (by rfl))
    (C8.pss_cut (ps_set (i := 4) sc_law.nd rfl (Or.inl rfl) (pe_lst (pa_cons pe_str (pa_cons pe_str (pa_cons pe_str pa_nil)))))
    (C8.pss_cut (ps_par3 (i := 5) (j := 6) (l := 7) rfl sc_law.nd rfl rfl rfl (by decide) (by decide) (by decide) rfl rfl rfl (pa_cons (pe_c c__law_live hr (by decide) rfl (pa_cons (mv 3) (pa_cons (mv 4) (pa_cons (mv 2) pa_nil)))) (pa_cons (pe_lst (pa_cons pe_int (pa_cons pe_int (pa_cons pe_int pa_nil)))) (pa_cons (pe_lst pa_nil) pa_nil))) (by rfl))
    (C8.pss_cut (ps_for PassesOwn.never rfl (pi_range1 (by rfl) T.n_range (pa_cons pe_int pa_nil)) (pg_name (i := 8) sc_law.nd rfl (Or.inl rfl))
    (C8.pss_cut (ps_set (i := 9) sc_law.nd rfl (Or.inl rfl) (pe_ix m_ix (pe_lst (pa_cons (pe_c c__law_lot hr (by decide) rfl (pa_cons (mv 1) (pa_cons pe_int pa_nil))) (pa_cons (pe_op m_mod (mv 8) pe_int) pa_nil))) (pe_callTy call_int1 (by rfl) T.n_int (by decide +kernel) (pa_cons (pe_cmpR m_lt (mv 8) pe_int (nomark _)) pa_nil)) (fun _ _ => rfl)))
    (C8.pss_cut (ps_expr (pe_bm PySem.F.plainAttrs_list PySem.F.slot_list_append PySem.F.type_list_append mt_append (mv 7) (pa_cons (pe_tup (pa_cons (pe_ix m_ix (mv 4) (mv 9) (fun _ _ => rfl)) (pa_cons (pe_op m_add (pe_op m_mul (pe_ix m_ix (pe_lst (pa_cons pe_int (pa_cons pe_int (pa_cons pe_int pa_nil)))) (mv 9) (fun _ _ => rfl)) (mv 3)) (pe_ix m_ix (mv 6) (mv 9) (fun _ _ => rfl))) pa_nil))) pa_nil)))
    (C8.pss_cut (ps_asg (pe_op m_add (pe_op m_add (pe_ix m_ix (mv 6) (mv 9) (fun _ _ => rfl)) pe_int) (pe_c c__law_lot hr (by decide) rfl (pa_cons (mv 1) (pa_cons pe_int pa_nil)))) (pg_sub (mv 6) (mv 9) set_list))
    (C8.pss_cut (ps_if (qt (op_neD hr.units) (pe_c c__law_tried hr (by decide) rfl (pa_cons (mv 5) (pa_cons (pe_ix m_ix (pe_ix m_ix (mv 7) (pe_un m_neg pe_int) (fun _ _ => rfl)) pe_int (fun _ _ => rfl)) (pa_cons (pe_ix m_ix (pe_ix m_ix (mv 7) (pe_un m_neg pe_int) (fun _ _ => rfl)) pe_int (fun _ _ => rfl)) (pa_cons (pe_cmpR m_eq (pe_op m_mod (mv 8) pe_int) pe_int (nomark _)) pa_nil))))) (pe_tup pa_nil) (nomark _)) (pss_one (ps_ret pe_bl)) pss_nil)
    (pss_one (ps_if (qt m_ne (pe_methG0 (mv 5) (hr.mono (by decide)) ps0 (CXf := C8.CX0) (k := 1)) (mv 8) (nomark _)) (pss_one (ps_ret pe_bl)) pss_nil)))))))
    (C8.pss_cut (ps_set (i := 10) sc_law.nd rfl (Or.inl rfl) (pe_methG0 (mv 5) (hr.mono (by decide)) ps0 (CXf := C8.CX0) (k := 10)))
    (C8.pss_cut (ps_if (pt_not (qv (pe_g c__law_ends_right hr (by decide) (gd_deeper hgd) rfl (pa_cons (mv 1) (pa_cons (mv 5) (pa_cons (pe_tup (pa_cons (mv 3) (pa_cons (mv 4) (pa_cons (mv 7) (pa_cons (mv 2) pa_nil))))) pa_nil)))))) (pss_one (ps_ret pe_bl)) pss_nil)
    (C8.pss_cut (ps_for PassesOwn.never rfl (pi_range3 (by rfl) T.n_range (pa_cons pe_int (pa_cons (pe_un m_neg pe_int) (pa_cons (pe_un m_neg pe_int) pa_nil)))) (pg_name (i := 11) sc_law.nd rfl (Or.inl rfl))
    (pss_one (ps_if (PW.pt (pw_or (qt op_notN (pe_methG0 (mv 10) (hr.mono (by decide)) passL (CXf := L2.CX P w) (k := 1)) pe_non (nomark _)) (pw_or1 (qt m_ne (pe_callB (own_lenG (hr.mono (by decide)) ps0 (CXf := C8.CX0) (k := 1)) (by rfl) T.n_len (by decide +kernel) (pa_cons (mv 10) pa_nil)) (mv 11) (nomark _))))) (pss_one (ps_ret pe_bl)) pss_nil)))
    (C8.pss_cut (ps_if (pt_not (qv (pe_g c__law_same hr (by decide) (gd_deeper hgd) rfl (pa_cons (mv 10) (pa_cons (mv 3) (pa_cons (mv 4) (pa_cons (pe_lst pa_nil) (pa_cons (mv 2) pa_nil)))))))) (pss_one (ps_ret pe_bl)) pss_nil)
    (C8.pss_cut (ps_for PassesOwn.never rfl (pi_list (pe_lst (pa_cons pe_int (pa_cons (pe_op m_add pe_int (pe_c c__law_lot hr (by decide) rfl (pa_cons (mv 1) (pa_cons pe_int pa_nil)))) (pa_cons (pe_c c__law_lot hr (by decide) rfl (pa_cons (mv 1) (pa_cons pe_int pa_nil))) (pa_cons pe_int pa_nil)))))) (pg_name (i := 12) sc_law.nd rfl (Or.inl rfl))
    (C8.pss_cut (ps_if (qt op_notN (pe_methG (mv 5) (hr.mono (by decide)) passL (pa_cons (mv 12) pa_nil) (CXf := L2.CX P w) (k := 1)) pe_non (nomark _)) (pss_one (ps_ret pe_bl)) pss_nil)
    (pss_one (ps_if (pt_not (qv (pe_g c__law_same hr (by decide) (gd_deeper hgd) rfl (pa_cons (mv 5) (pa_cons (mv 3) (pa_cons (mv 4) (pa_cons (pe_slice sl_list (mv 7) po_none (po_some (pe_op m_add (mv 12) pe_int))) (pa_cons (mv 2) pa_nil)))))))) (pss_one (ps_ret pe_bl)) pss_nil))))
    (pss_one (ps_ret (pe_cmpR m_eq (pe_methG0 (mv 5) (hr.mono (by decide)) ps0 (CXf := C8.CX0) (k := 1)) pe_int (nomark _)))))))))))))), ?_⟩
    refine ⟨a, ns0, rfl, hS, hn, fun H1 p q np nq ur x1 => ?_⟩
    clear np nq x1 hS
    -- the class and the size
    refine ⟨fun σ H' => ∃ b sz, σ = [some (.ref a), some (.ref p), some (.bl b), some (.int sz), none, none, none, none, none, none, none, none, none] ∧ SizeOk sz ∧ 10 ^ 6 ≤ sz ∧ UrnAt 2 p q H', ?_, ?_⟩
    · refine ⟨p, q, 2, _, rfl, ur, by omega, by decide, by decide, fun H3 r r0 r1 ur3 fr3 => ?_⟩
      refine ⟨⟨by decide, by decide, by decide⟩, ⟨by decide, by decide, by decide⟩, p, q, _, _, rfl, ur3, by omega, (by rw [e29]; decide), (by rw [e29]; decide +kernel), fun H4 r2 b0 b1 ur4 fr4 => ?_⟩
      rw [e29] at b1
      refine ⟨_, _, rfl, _, _, rfl, ?_, ?_, ur4⟩
      · have : (10 : Int) ^ 6 + 10 ^ 29 ≤ 10 ^ 30 := by decide
        rw [e6]; exact ⟨by omega, by omega⟩
      · rw [e6]; omega
    clear ur
    rintro σ G1 ⟨b, sz, rfl, so, s6, ur⟩
    have so1 := so.1
    have so2 := so.2
    -- the names
    refine ⟨fun σ H' => ∃ a1, σ = [some (.ref a), some (.ref p), some (.bl b), some (.int sz), some (.ref a1), none, none, none, none, none, none, none, none] ∧ H' a1 = some (.lst (ns3.map V.str)) ∧ a1 ∉ [p, q] ∧ UrnAt 2 p q H', ?_, ?_⟩
    · refine ⟨(by show 3 ≤ sizeLine; decide), fun t nt => ?_⟩
      exact ⟨t, rfl, upd_same, nin2 (ur.ne_p nt), ur.keep (Ext.upd nt)⟩
    clear ur
    rintro σ G2 ⟨a1, rfl, ha, aM, ur⟩
    -- the live log, places, no rows
    refine ⟨fun σ H' => ∃ (d : Lv) (pl l : Addr), σ = [some (.ref a), some (.ref p), some (.bl b), some (.int sz), some (.ref a1), some (.ref d.v), some (.ref pl), some (.ref l), none, none, none, none, none] ∧ BigC [d.v, d.s, d.m, p, q, l, pl] ⟨p, q, l, pl, a1⟩ d ∧ BigI [d.v, d.s, d.m, p, q, l, pl] ⟨p, q, l, pl, a1⟩ d (kV cA cB b) (kC cL cX b) sz (fun _ => 0) [] [] [] [] 2 H', ?_, ?_⟩
    · refine ⟨sz, a1, ns3, b, rfl, so, ha, crew3, fun H3 v dx s m p0 nv ns_ nm sm np h1 h2 h3 lf lN x3 => ?_⟩
      refine ⟨(by show 3 ≤ sizeLine; decide), fun pl npl => ⟨Nat.zero_le _, fun l nl => ?_⟩⟩
      have y1 := Ext.upd (o := .lst [.int 0, .int 0, .int 0]) npl
      have y2 := Ext.upd (o := .lst []) nl
      have y := y1.trans y2
      have nl3 := (upd_none nl).2
      have lpl : l ≠ pl := (upd_none nl).1
      have p3 : ∀ {c : Addr} {o : HO}, H3 c = some o → c ≠ pl := fun h => ne_of_none h npl
      have l3 : ∀ {c : Addr} {o : HO}, H3 c = some o → c ≠ l := fun h => ne_of_none h nl3
      have al2 : ∀ c ∈ [p, q], G2 c ≠ none := UrnAt.al ur
      have lM' : LogF [v, s, m, p, q, l, pl] (kC cL cX b) (upd (upd H3 pl (.lst [.int 0, .int 0, .int 0])) l (.lst [])) p0 sz ns3 [] := ((((lf.app (lN.F np al2)).cons npl).cons nl3).sub fun x hx => by
        simp only [List.mem_append, List.mem_cons, List.not_mem_nil, or_false] at hx ⊢
        rcases hx with r | r | r | r | r | r | r <;> simp [r]).mono y
      have ur3 := ur.keep x3
      have vpq := ur.ne_p nv
      have spq := ur.ne_p ns_
      have mpq := ur.ne_p nm
      have lpq := ur3.ne_p nl3
      have ppq := ur3.ne_p npl
      have vs : v ≠ s := ne_of h1 h2 (fun z => nomatch z)
      have vm : v ≠ m := ne_of h1 h3 (fun z => nomatch z)
      have va := ne_of_none ha nv
      have sa := ne_of_none ha ns_
      have ma := ne_of_none ha nm
      have ha3 := x3 _ _ ha
      have pq := ur.ne
      have aM' := aM
      simp only [List.mem_cons, List.not_mem_nil, or_false, not_or] at aM'
      have lv : LiveK [v, s, m, p, q, l, pl] (kV cA cB b) (kC cL cX b) (upd (upd H3 pl (.lst [.int 0, .int 0, .int 0])) l (.lst [])) ⟨v, s, m⟩ sz ns3 [] [] := LiveK.init (d := ⟨v, s, m⟩) (y _ _ h1) (y _ _ h2) (y _ _ h3) sm (fun x hx => by
        simp only [Lv.F, List.mem_cons, List.not_mem_nil, or_false] at hx ⊢
        rcases hx with r | r | r <;> simp [r]) lM'
      refine ⟨_, _, _, rfl, ⟨v, s, m⟩, pl, l, rfl, ⟨?_, fun x hx => ?_⟩, ur3.keep y, y _ _ ha3, upd_same, .nil, y2 _ _ upd_same, lv, fun x hx => ?_⟩
      · simp only [List.nodup_cons, List.mem_cons, List.not_mem_nil, or_false, not_or, not_false_eq_true, List.nodup_nil, and_true]
        exact ⟨⟨pq, Ne.symm lpq.1, Ne.symm ppq.1, Ne.symm aM'.1, Ne.symm vpq.1, Ne.symm spq.1, Ne.symm mpq.1⟩, ⟨Ne.symm lpq.2, Ne.symm ppq.2, Ne.symm aM'.2, Ne.symm vpq.2, Ne.symm spq.2, Ne.symm mpq.2⟩, ⟨lpl, Ne.symm (l3 ha3), Ne.symm (l3 h1), Ne.symm (l3 h2), Ne.symm (l3 h3)⟩, ⟨Ne.symm (p3 ha3), Ne.symm (p3 h1), Ne.symm (p3 h2), Ne.symm (p3 h3)⟩, ⟨va, sa, ma⟩, ⟨vs, vm⟩, sm⟩
      · simp only [List.mem_cons, List.not_mem_nil, or_false] at hx ⊢
        rcases hx with r | r | r | r <;> simp [r]
      · simp only [List.mem_cons, List.not_mem_nil, or_false] at hx
        rcases hx with rfl | rfl | rfl | rfl | rfl | rfl | rfl
        · exact lv.alloc _ (by simp [Lv.F])
        · exact lv.alloc _ (by simp [Lv.F])
        · exact lv.alloc _ (by simp [Lv.F])
        · exact UrnAt.al (ur3.keep y) _ (by simp)
        · exact UrnAt.al (ur3.keep y) _ (by simp)
        · rw [upd_same]; exact fun z => nomatch z
        · rw [y2 _ _ upd_same]; exact fun z => nomatch z
    clear ur ha aM
    rintro σ G3 ⟨d, pl, l, rfl, C, R0⟩
    have nd := C.nd
    have mul : ∀ {i : Int}, 0 ≤ i → i ≤ 5 → PySem.IntMulOk i sz := fun h0 h1 => mulW (a := 10) (b := 110) h0 (by omega) (by omega) (Int.lt_of_le_of_lt so2 (by decide)) (by decide) (by decide) (by decide)
    -- sixty entries
    refine ⟨fun σ H' => ∃ v8 v9 es xs ps, σ = [some (.ref a), some (.ref p), some (.bl b), some (.int sz), some (.ref a1), some (.ref d.v), some (.ref pl), some (.ref l), v8, v9, none, none, none] ∧ BigI [d.v, d.s, d.m, p, q, l, pl] ⟨p, q, l, pl, a1⟩ d (kV cA cB b) (kC cL cX b) sz ps es es xs ((List.range 60).map (· + 1)) 200 H' ∧ Tri sz ps es ∧ es.length = 60 ∧ (∀ k, 0 ≤ ps k ∧ ps k ≤ 60000), ?_, ?_⟩
    · refine ⟨_, rfl, by decide, by decide, for_range (lo := 0) (n := 60) (fun i σ H' => ∃ v8 v9 es xs ps, σ = [some (.ref a), some (.ref p), some (.bl b), some (.int sz), some (.ref a1), some (.ref d.v), some (.ref pl), some (.ref l), v8, v9, none, none, none] ∧ BigI [d.v, d.s, d.m, p, q, l, pl] ⟨p, q, l, pl, a1⟩ d (kV cA cB b) (kC cL cX b) sz ps es es xs ((List.range i).map (· + 1)) (2 + 2 * i) H' ∧ Tri sz ps es ∧ es.length = i ∧ (∀ k, 0 ≤ ps k ∧ ps k ≤ 1000 * i)) ⟨_, _, [], [], fun _ => 0, rfl, R0, Tri.nil sz, rfl, fun _ => ⟨Int.le_refl _, by show (0 : Int) ≤ _; omega⟩⟩ ?_ ?_⟩
      rotate_left
      · rintro σ G4 ⟨v8, v9, es, xs, ps, rfl, R, tri, el, pb⟩
        exact ⟨_, _, es, xs, ps, rfl, R.up (by decide), tri, el, fun k => by have := pb k; omega⟩
      clear R0
      rintro i σ G4 hi ⟨v8, v9, es, xs, ps, rfl, R, tri, el, pb⟩
      have le : ∀ k, ps k ≤ sz := fun k => by have := pb k; omega
      have lt : ∀ k, ps k < sz := fun k => by have := pb k; omega
      have xl := R.en.len
      -- whose turn it is
      refine ⟨fun σ H' => ∃ kk : Nat, σ = [some (.ref a), some (.ref p), some (.bl b), some (.int sz), some (.ref a1), some (.ref d.v), some (.ref pl), some (.ref l), some (.int (0 + i)), some (.int (kk : Int)), none, none, none] ∧ kk < 3 ∧ (i < 6 → kk = i % 3) ∧ BigI [d.v, d.s, d.m, p, q, l, pl] ⟨p, q, l, pl, a1⟩ d (kV cA cB b) (kC cL cX b) sz ps es es xs ((List.range i).map (· + 1)) (2 + 2 * i + 1) H', ?_, ?_⟩
      · refine ⟨p, q, 3, _, rfl, R.ur, by omega, by decide, by decide, fun H3 r r0 r1 ur3 fr3 => ?_⟩
        have R3 := R.urn C ur3 fr3
        refine ⟨(by show (0 : Int) < 3; decide), (by show 2 ≤ sizeLine; decide), fun t nt => ?_⟩
        have y1 := Ext.upd (o := .lst [.int r, .int ((0 + (i : Int)) % 3)]) nt
        obtain ⟨kk, hk, atk, am⟩ : ∃ kk : Nat, kk < 3 ∧ atI [V.int r, V.int ((0 + (i : Int)) % 3)] (if decide ((0 + (i : Int)) < 6) = true then 1 else 0) = some (.int (kk : Int)) ∧ (i < 6 → kk = i % 3) := by
          by_cases h6 : i < 6
          · refine ⟨i % 3, Nat.mod_lt _ (by decide), ?_, fun _ => rfl⟩
            rw [if_pos (decide_eq_true (by omega)), show (0 + (i : Int)) % 3 = ((i % 3 : Nat) : Int) by omega]
            rfl
          · refine ⟨r.toNat, by omega, ?_, fun h => absurd h h6⟩
            rw [if_neg (by rw [decide_eq_false (by omega)]; exact Bool.false_ne_true)]
            have : r = ((r.toNat : Nat) : Int) := by omega
            rw [this]; rfl
        exact .inr ⟨_, rfl, _, _, .inl (SqL.of upd_same), atk, kk, rfl, hk, am, R3.ext y1⟩
      clear R
      rintro σ G5 ⟨kk, rfl, hk, am, R⟩
      have k3 : kk = 0 ∨ kk = 1 ∨ kk = 2 := by omega
      have b3 := bl3_bd hk
      have atn : atI (ns3.map V.str) (kk : Int) = some (.str (nm3 kk)) := atI_nat (by rcases k3 with rfl | rfl | rfl <;> rfl)
      have atb : atI [V.int 0, V.int 2, V.int 5] (kk : Int) = some (.int (bl3 kk)) := atI_nat (by rcases k3 with rfl | rfl | rfl <;> rfl)
      have atp : atI [V.int (ps 0), V.int (ps 1), V.int (ps 2)] (kk : Int) = some (.int (ps kk)) := atI_nat (by rcases k3 with rfl | rfl | rfl <;> rfl)
      -- a row more
      refine ⟨fun σ H' => ∃ t, σ = [some (.ref a), some (.ref p), some (.bl b), some (.int sz), some (.ref a1), some (.ref d.v), some (.ref pl), some (.ref l), some (.int (0 + i)), some (.int (kk : Int)), none, none, none] ∧ H' t = some (.tup [.str (nm3 kk), .int (bl3 kk * sz + ps kk)]) ∧ BigI [d.v, d.s, d.m, p, q, l, pl] ⟨p, q, l, pl, a1⟩ d (kV cA cB b) (kC cL cX b) sz ps (es ++ [(nm3 kk, bl3 kk * sz + ps kk)]) es (xs ++ [.ref t]) ((List.range i).map (· + 1)) (2 + 2 * i + 1) H', ?_, ?_⟩
      · refine ⟨.inl ⟨rfl, _, SqL.of R.rows⟩, _, .str (nm3 kk), .inl (SqL.of R.nm), atn, (by show 3 ≤ sizeLine; decide), fun t nt => ?_⟩
        have y1 := Ext.upd (o := .lst [.int 0, .int 2, .int 5]) nt
        have R1 := R.ext y1
        refine ⟨_, .int (bl3 kk), .inl (SqL.of upd_same), atb, mul b3.1 b3.2, _, .int (ps kk), .inl (SqL.of R1.pls), atp, (by show 2 ≤ sizeLine; decide), fun tp ntp => ?_⟩
        have y2 := Ext.upd (o := .tup [.str (nm3 kk), .int (bl3 kk * sz + ps kk)]) ntp
        have R2 := R1.ext y2
        have ct : (upd (upd G5 t (.lst [.int 0, .int 2, .int 5])) tp (.tup [.str (nm3 kk), .int (bl3 kk * sz + ps kk)])) tp = some (.tup [.str (nm3 kk), .int (bl3 kk * sz + ps kk)]) := upd_same
        generalize upd (upd G5 t (.lst [.int 0, .int 2, .int 5])) tp (.tup [.str (nm3 kk), .int (bl3 kk * sz + ps kk)]) = G6 at R2 ct ⊢
        have st := TupSt.upd (o := .lst (xs ++ [.ref tp])) R2.rows (fun _ z => nomatch z)
        exact ⟨l, xs, _, rfl, rfl, R2.rows, Nat.lt_of_le_of_lt (show xs.length ≤ 60 by omega) (by decide), tp, rfl, st _ _ ct, R2.row C (EntL.snoc R2.en ⟨tp, rfl, ct⟩)⟩
      clear R
      rintro σ G6 ⟨t, rfl, ht, R⟩
      -- its place
      refine ⟨fun σ H' => ∃ dd : Int, σ = [some (.ref a), some (.ref p), some (.bl b), some (.int sz), some (.ref a1), some (.ref d.v), some (.ref pl), some (.ref l), some (.int (0 + i)), some (.int (kk : Int)), none, none, none] ∧ 0 < dd ∧ dd ≤ 1000 ∧ H' t = some (.tup [.str (nm3 kk), .int (bl3 kk * sz + ps kk)]) ∧ BigI [d.v, d.s, d.m, p, q, l, pl] ⟨p, q, l, pl, a1⟩ d (kV cA cB b) (kC cL cX b) sz (fun j => if j = kk then ps kk + dd else ps j) (es ++ [(nm3 kk, bl3 kk * sz + ps kk)]) es (xs ++ [.ref t]) ((List.range i).map (· + 1)) (2 + 2 * i + 2) H', ?_, ?_⟩
      · refine ⟨_, .int (ps kk), .inl (SqL.of R.pls), atp, p, q, 1000, _, rfl, R.ur, by omega, by decide, by decide, fun H3 r r0 r1 ur3 fr3 => ?_⟩
        have R3 := R.urn C ur3 fr3
        have ht3 := R.ur.tups fr3 _ _ ht
        have st := TupSt.upd (o := .lst [.int ((fun j => if j = kk then ps kk + (1 + r) else ps j) 0), .int ((fun j => if j = kk then ps kk + (1 + r) else ps j) 1), .int ((fun j => if j = kk then ps kk + (1 + r) else ps j) 2)]) R3.pls (fun _ z => nomatch z)
        have eL : [V.int (ps 0), V.int (ps 1), V.int (ps 2)].set kk (.int (ps kk + 1 + r)) = [.int ((fun j => if j = kk then ps kk + (1 + r) else ps j) 0), .int ((fun j => if j = kk then ps kk + (1 + r) else ps j) 1), .int ((fun j => if j = kk then ps kk + (1 + r) else ps j) 2)] := by
          rw [Int.add_assoc]
          rcases k3 with rfl | rfl | rfl <;> rfl
        refine ⟨pl, _, (kk : Int), kk, rfl, rfl, R3.pls, ?_, ?_⟩
        · rcases k3 with rfl | rfl | rfl <;> rfl
        rw [eL]
        exact ⟨1 + r, rfl, by omega, by omega, st _ _ ht3, R3.place C⟩
      clear R ht
      rintro σ G7 ⟨dd, rfl, dd0, dd1, ht, R⟩
      have tri' := tri.step so1 le (fun k => (pb k).1) hk dd0 (lt kk) (fun h => by rw [el]; exact am (by omega))
      have pb' : ∀ j, 0 ≤ (if j = kk then ps kk + dd else ps j) ∧ (if j = kk then ps kk + dd else ps j) ≤ 1000 * ((i + 1 : Nat) : Int) := fun j => by
        have := pb j
        have := pb kk
        split <;> omega
      have le' : ∀ j, (fun j => if j = kk then ps kk + dd else ps j) j ≤ sz := fun j => by
        have := pb' j
        show (if j = kk then ps kk + dd else ps j) ≤ sz
        omega
      -- it is taken
      refine ⟨fun σ H' => σ = [some (.ref a), some (.ref p), some (.bl b), some (.int sz), some (.ref a1), some (.ref d.v), some (.ref pl), some (.ref l), some (.int (0 + i)), some (.int (kk : Int)), none, none, none] ∧ BigI [d.v, d.s, d.m, p, q, l, pl] ⟨p, q, l, pl, a1⟩ d (kV cA cB b) (kC cL cX b) sz (fun j => if j = kk then ps kk + dd else ps j) (es ++ [(nm3 kk, bl3 kk * sz + ps kk)]) (es ++ [(nm3 kk, bl3 kk * sz + ps kk)]) (xs ++ [.ref t]) ((List.range i).map (· + 1)) (2 + 2 * i + 2) H', ?_, ?_⟩
      · refine ⟨_, .ref t, .inl (SqL.of R.rows), atI_last _ _, _, _, .inr (SqT.of ht), atI_nat (j := 0) rfl, _, .ref t, .inl (SqL.of R.rows), atI_last _ _, _, _, .inr (SqT.of ht), atI_nat (j := 1) rfl, (by show (0 : Int) < 2; decide), ?_⟩
        refine ⟨_, d, sz, ns3, es, b, nm3 kk, _, _, _, rfl, R.lv, R.al, so, crew3, tri.ents so1 (by omega), nm3_mem hk, ?_, by omega, fun H9 t1 lv1 ht1 fr9 st9 _ => ?_, fun H9 w_ x1 ov => absurd ov (tri'.bars so1 le' (by rw [List.length_append, List.length_singleton]; omega))⟩
        · have := Int.mul_nonneg b3.1 (show 0 ≤ sz by omega)
          have := (pb kk).1
          omega
        refine ⟨Nat.zero_le _, fun t2 nt2 => ?_⟩
        have x2 := Ext.upd (o := .tup []) nt2
        refine ⟨.tuple [], .tuple [], .tup (SqT.of (x2 _ _ ht1)) .nil, .tup (SqT.of upd_same) .nil, rfl, rfl, ifF (by rfl) ⟨rfl, ?_⟩⟩
        exact (R.live C fr9 st9 (fun x hx => by rw [List.mem_singleton.mp hx]; simp [Lv.F]) lv1).ext x2
      clear R ht
      rintro σ G8 ⟨rfl, R⟩
      -- a mark
      obtain ⟨dx, us, hv, hs, hm, sm, vM, ll⟩ := id R.lv
      have ul := ll.len
      have lm := R.lv.mark
      have l1 : (es ++ [(nm3 kk, bl3 kk * sz + ps kk)]).length = i + 1 := by rw [List.length_append, List.length_singleton, el]
      have f1 : Frm [d.m] G8 (upd G8 d.m (.lst (mkL ((List.range i).map (· + 1)) ++ [.int (((es ++ [(nm3 kk, bl3 kk * sz + ps kk)]).length + 1 : Nat))]))) := (Frm.refl).upd mem1
      have st1 := TupSt.upd (o := .lst (mkL ((List.range i).map (· + 1)) ++ [.int (((es ++ [(nm3 kk, bl3 kk * sz + ps kk)]).length + 1 : Nat))])) hm (fun _ z => nomatch z)
      have R9 := R.live C f1 st1 (fun x hx => by rw [List.mem_singleton.mp hx]; simp [Lv.F]) lm
      refine ⟨d.v, _, dx, _, _, rfl, hv, vf_no _ _ (by decide +kernel) (by decide +kernel), MK b, d.v, dx, d.s, d.m, us, ((List.range i).map (· + 1)), rfl, hv, hs, by omega, hm, sm, by rw [List.length_map, List.length_range]; omega, ?_⟩
      rw [ul]
      have ei : ((((List.range i).map (· + 1)).length : Nat) : Int) = 0 + (i : Int) := by rw [List.length_map, List.length_range]; omega
      rw [ei]
      refine ifND (p := (0 + (i : Int)) = 0 + (i : Int)) (fun n => absurd rfl n) (fun _ => ?_)
      have ems : (List.range (i + 1)).map (· + 1) = ((List.range i).map (· + 1)) ++ [(es ++ [(nm3 kk, bl3 kk * sz + ps kk)]).length] := by rw [l1]; exact range_step i
      refine ⟨_, _, _, xs ++ [.ref t], _, rfl, ?_, tri', l1, pb'⟩
      rw [ems]
      exact R9.up (m := 2 + 2 * (i + 1)) (by omega)
    clear R0
    rintro σ G4 ⟨v8, v9, es, xs, ps, rfl, R, tri, el, pb⟩
    have le : ∀ k, ps k ≤ sz := fun k => by have := pb k; omega
    have xl := R.en.len
    have ok := tri.ents so1 (by omega)
    have big : ∀ e ∈ es, e.2 < 10 ^ 60 := fun e he => by
      obtain ⟨k, h1, _, _, h4⟩ := tri.own e he
      have := le k
      have := Int.mul_le_mul_of_nonneg_right (bl3_bd h1).2 (show 0 ≤ sz by omega)
      have : (6 : Int) * 10 ^ 30 < 10 ^ 60 := by decide
      omega
    have msl : ((List.range 60).map (· + 1)).length = 60 := by rw [List.length_map, List.length_range]
    generalize hms : ((List.range 60).map (· + 1)) = ms at R msl
    have apq : a1 ≠ p ∧ a1 ≠ q := ⟨by intro z; rw [z] at nd; simp at nd, by intro z; rw [z] at nd; simp at nd⟩
    have lpq : l ≠ p ∧ l ≠ q := ⟨by intro z; rw [z] at nd; simp at nd, by intro z; rw [z] at nd; simp at nd⟩
    have pF : p ∉ d.F := fun z => by simp only [Lv.F, List.mem_cons, List.not_mem_nil, or_false] at z; rcases z with z | z | z <;> (rw [z] at nd; simp at nd)
    have qF : q ∉ d.F := fun z => by simp only [Lv.F, List.mem_cons, List.not_mem_nil, or_false] at z; rcases z with z | z | z <;> (rw [z] at nd; simp at nd)
    have aF : a1 ∉ d.F := fun z => by simp only [Lv.F, List.mem_cons, List.not_mem_nil, or_false] at z; rcases z with z | z | z <;> (rw [z] at nd; simp at nd)
    have lF : l ∉ d.F := fun z => by simp only [Lv.F, List.mem_cons, List.not_mem_nil, or_false] at z; rcases z with z | z | z <;> (rw [z] at nd; simp at nd)
    -- a twin
    refine ⟨fun σ H' => ∃ (M : List Addr) (d2 : Lv), σ = [some (.ref a), some (.ref p), some (.bl b), some (.int sz), some (.ref a1), some (.ref d.v), some (.ref pl), some (.ref l), v8, v9, some (.ref d2.v), none, none] ∧ LiveK M (kV cA cB b) (kC cL cX b) H' d sz ns3 es ms ∧ LiveK M (kV cA cB b) (kC cL cX b) H' d2 sz ns3 es ms ∧ (∀ x ∈ M, H' x ≠ none) ∧ p ∈ M ∧ q ∈ M ∧ UrnAt 200 p q H' ∧ H' a1 = some (.lst (ns3.map V.str)) ∧ H' l = some (.lst xs) ∧ EntL H' es xs ∧ (∀ x ∈ d2.F, x ∉ d.F) ∧ p ∉ d2.F ∧ q ∉ d2.F ∧ a1 ∉ d2.F ∧ l ∉ d2.F, ?_, ?_⟩
    · obtain ⟨dx, us, q0, hv, hs, ul, lg⟩ := R.lv.zero
      obtain ⟨hm, _⟩ := R.lv.marks
      refine ⟨d.v, _, dx, _, _, rfl, hv, vf_no _ _ (by decide +kernel) (by decide +kernel), MT b, d.v, dx, d.s, d.m, us, q0, sz, ns3, [], ms, rfl, hv, hs, by omega, lg, so, crew3, hm, by omega, fun H6 v2 e2 s2 m2 n1 n2 n3 sm h1 h2 h3 x6 => ?_⟩
      have lt := R.lv.twin hs n1 n2 n3 sm h1 h2 h3 x6
      have gr : ∀ x ∈ v2 :: s2 :: m2 :: [d.v, d.s, d.m, p, q, l, pl], x ∈ [d.v, d.s, d.m, p, q, l, pl] ∨ G4 x = none := fun x hx => by
        simp only [List.mem_cons] at hx ⊢
        rcases hx with r | r | r | r
        · rw [r]; exact .inr n1
        · rw [r]; exact .inr n2
        · rw [r]; exact .inr n3
        · exact .inl r
      have l1 := (R.lv.gr (M' := v2 :: s2 :: m2 :: [d.v, d.s, d.m, p, q, l, pl]) (fun x hx => List.mem_cons_of_mem _ (List.mem_cons_of_mem _ (List.mem_cons_of_mem _ hx))) gr).mono x6
      have nw : ∀ x ∈ (⟨v2, s2, m2⟩ : Lv).F, G4 x = none := fun x hx => by
        simp only [Lv.F, List.mem_cons, List.not_mem_nil, or_false] at hx
        rcases hx with rfl | rfl | rfl <;> assumption
      have out : ∀ {c : Addr} {o : HO}, G4 c = some o → c ∉ (⟨v2, s2, m2⟩ : Lv).F := fun h z => by rw [nw _ z] at h; cases h
      obtain ⟨_, _, _, u1, u2, _⟩ := id R.ur
      refine ⟨_, ⟨v2, s2, m2⟩, rfl, l1, lt, fun x hx => ?_, ?_, ?_, R.ur.keep x6, x6 _ _ R.nm, x6 _ _ R.rows, R.en.mono x6, fun x hx z => R.lv.alloc x z (nw x hx), out u1, out u2, out R.nm, out R.rows⟩
      · simp only [List.mem_cons] at hx
        rcases hx with r | r | r | r
        · rw [r]; exact lt.alloc _ (by simp [Lv.F])
        · rw [r]; exact lt.alloc _ (by simp [Lv.F])
        · rw [r]; exact lt.alloc _ (by simp [Lv.F])
        · exact fun z => R.al x (by simpa using r) (Ext.free x6 z)
      · exact List.mem_cons_of_mem _ (List.mem_cons_of_mem _ (List.mem_cons_of_mem _ (C.sub _ (by simp))))
      · exact List.mem_cons_of_mem _ (List.mem_cons_of_mem _ (List.mem_cons_of_mem _ (C.sub _ (by simp))))
    clear R C
    rintro σ G5 ⟨M, d2, rfl, lv, lt, al, pM, qM, ur, ha, hl, en, dd, p2, q2, a2, l2⟩
    -- what cannot follow
    have inM : ∀ x ∈ [p, q], x ∈ M := fun x hx => by
      simp only [List.mem_cons, List.not_mem_nil, or_false] at hx
      rcases hx with rfl | rfl <;> assumption
    have out1 : ∀ {dd : Lv}, p ∉ dd.F → q ∉ dd.F → ∀ x ∈ dd.F, x ∉ [p, q] := fun h1 h2 x hx => nin2 ⟨fun z => h1 (by rw [← z]; exact hx), fun z => h2 (by rw [← z]; exact hx)⟩
    refine ⟨fun σ H' => σ = [some (.ref a), some (.ref p), some (.bl b), some (.int sz), some (.ref a1), some (.ref d.v), some (.ref pl), some (.ref l), v8, v9, some (.ref d2.v), none, none] ∧ LiveK M (kV cA cB b) (kC cL cX b) H' d sz ns3 es ms ∧ LiveK M (kV cA cB b) (kC cL cX b) H' d2 sz ns3 es ms ∧ (∀ x ∈ M, H' x ≠ none) ∧ UrnAt 220 p q H' ∧ H' a1 = some (.lst (ns3.map V.str)) ∧ H' l = some (.lst xs) ∧ EntL H' es xs, ?_, ?_⟩
    · refine ⟨(by show 4 ≤ sizeLine; decide), fun c nc => ?_⟩
      have y := Ext.upd (o := .tup [.int sz, .ref a1, .ref l, .bl b]) nc
      refine ⟨M, p, q, 200, d, c, sz, a1, l, es, xs, b, ps, ms, rfl, ur.keep y, by decide, upd_same, lv.mono y, fun x hx z => al x hx (Ext.free y z), pM, qM, pF, qF, so, y _ _ ha, y _ _ hl, nin2 lpq, en.mono y, tri, le, el, big, fun H6 ur6 fr6 => ifF (by rfl) ?_⟩
      have st := (ur.keep y).tups fr6
      exact ⟨rfl, (lv.mono y).fr fr6 st inM (out1 pF qF), (lt.mono y).fr fr6 st inM (out1 p2 q2), fun x hx => fr6.alloc (UrnAt.al ur6) (fun z => al x hx (Ext.free y z)), ur6, fr6 _ _ (y _ _ ha) (nin2 apq), fr6 _ _ (y _ _ hl) (nin2 lpq), (en.mono y).st st⟩
    clear lv lt al ur ha hl en
    rintro σ G6 ⟨rfl, lv, lt, al, ur, ha, hl, en⟩
    -- the twin is emptied
    have subM : ∀ x ∈ d2.F, x ∈ M := lt.mem
    refine ⟨fun σ H' => ∃ v11 M' d3 ms3, σ = [some (.ref a), some (.ref p), some (.bl b), some (.int sz), some (.ref a1), some (.ref d.v), some (.ref pl), some (.ref l), v8, v9, some (.ref d2.v), v11, none] ∧ Stp d2.F M d2 G6 M' d3 H' ∧ LiveK M' (kV cA cB b) (kC cL cX b) H' d3 sz ns3 [] ms3 ∧ ms3.length ≤ 60, ?_, ?_⟩
    · refine ⟨59, -1, -1, 60, rfl, ?_, for_rangeC (lo := 59) (c := -1) (n := 60) (fun j σ H' => ∃ v11 M' d3 ms3, σ = [some (.ref a), some (.ref p), some (.bl b), some (.int sz), some (.ref a1), some (.ref d.v), some (.ref pl), some (.ref l), v8, v9, some (.ref d2.v), v11, none] ∧ Stp d2.F M d2 G6 M' d3 H' ∧ LiveK M' (kV cA cB b) (kC cL cX b) H' d3 sz ns3 (es.take (60 - j)) ms3 ∧ ms3.length ≤ 60) ⟨_, M, d2, ms, rfl, Stp.refl al subM, by rw [List.take_of_length_le (by omega)]; exact lt, by omega⟩ ?_ ?_⟩
      · exact RgC.neg (i := 59) (j := -1) (by decide) (by decide) (by decide) (by decide)
      · rintro j σ H1 hj ⟨v11, M1, d3, ms3, rfl, S1, lt1, m1⟩
        have hk : 59 - j < es.length := by omega
        have te : es.take (60 - j) = es.take (59 - j) ++ [es[59 - j]] := by rw [show 60 - j = 59 - j + 1 by omega, List.take_succ_eq_append_getElem hk]
        rw [te] at lt1
        obtain ⟨dx, us, q0, hv, hs, ul, lf⟩ := lt1.now
        obtain ⟨hm, sm⟩ := lt1.marks
        rw [List.length_append, List.length_singleton, List.length_take] at ul
        have dv := S1.v
        refine ⟨d2.v, _, dx, _, _, rfl, by rw [← dv]; exact hv, vf_no _ _ (by decide +kernel) (by decide +kernel), MU b, d3.v, dx, d3.s, d3.m, us, .ref q0, ms3, by rw [dv], hv, hs, by omega, hm, sm, by omega, fun _ H4 m4 nm h1 h2 h3 f4 st4 => ?_, fun z => ?_⟩
        rotate_left
        · rw [z] at ul
          have : ([] : List V).length = 0 := rfl
          omega
        have lv4 := lt1.undo hs nm h1 h2 h3 f4 st4
        have vsF : ∀ x ∈ [d3.v, d3.s], x ∈ d3.F := fun x hx => by
          simp only [Lv.F, List.mem_cons, List.not_mem_nil, or_false] at hx ⊢
          rcases hx with z | z <;> simp [z]
        have gr4 : ∀ x ∈ m4 :: M1, x ∈ M1 ∨ H1 x = none := fun x hx => by
          rcases List.mem_cons.mp hx with rfl | hx
          · exact .inr nm
          · exact .inl hx
        have S4 : Stp d3.F M1 d3 H1 (m4 :: M1) ⟨d3.v, d3.s, m4⟩ H4 := Stp.mk1 S1.gr.all lt1.mem f4 vsF st4 (fun _ h => List.mem_cons_of_mem _ h) gr4 rfl (fun x hx => by
          simp only [Lv.F, List.mem_cons, List.not_mem_nil, or_false] at hx ⊢
          rcases hx with rfl | rfl | rfl
          · simp
          · simp
          · exact .inr nm) fun x hx z => by
            rcases z with z | z
            · exact lv4.alloc _ (by simp only [Lv.F, List.mem_cons, List.not_mem_nil, or_false] at z ⊢; rcases z with z | z <;> simp [z])
            · rcases List.mem_cons.mp hx with rfl | hx
              · rw [h3]; exact fun z => nomatch z
              · exact absurd z (S1.gr.all x hx)
        have S5 := S1.trans S4 S1.nw
        refine ⟨rfl, ?_⟩
        obtain ⟨dx5, us5, q5, hv5, hs5, ul5, _⟩ := lv4.zero
        have e5 : us5.length = 59 - j := by rw [ul5, List.length_take]; omega
        refine ifF (by rfl) ⟨d2.v, _, dx5, _, _, rfl, by rw [← dv]; exact hv5, ML b, d3.v, dx5, d3.s, m4, _, us5, by rw [dv], hv5, hs5, fun G xG => ⟨_, rfl, by rw [e5]; exact Nat.le_trans (show 59 - j ≤ 60 by omega) (by decide), ?_⟩⟩
        refine ifND (p := ((us5.length : Nat) : Int) = 59 + (j : Int) * -1) (fun n => absurd (by omega) n) (fun _ => ?_)
        have l5 := lv4.mono xG
        rw [show 59 - j = 60 - (j + 1) by omega] at l5
        exact ⟨_, m4 :: M1, ⟨d3.v, d3.s, m4⟩, _, rfl, S5.ext xG, l5, Nat.le_trans (List.length_filter_le _ _) m1⟩
      · rintro σ H1 ⟨v11, M1, d3, ms3, rfl, S1, lt1, m1⟩
        exact ⟨v11, M1, d3, ms3, rfl, S1, lt1, m1⟩
    rintro σ G7 ⟨v11, M7, d3, ms3, rfl, S7, lt7, m7⟩
    have lv7 : LiveK M7 (kV cA cB b) (kC cL cX b) G7 d sz ns3 es ms := (lv.gr S7.gr.sub S7.gr.new).fr S7.fr S7.st (fun x hx => S7.gr.sub _ (S7.sub _ hx)) (fun x hx z => dd x z hx)
    have ur7 := ur.fr S7.fr p2 q2
    have ha7 := S7.keep ha a2
    have hl7 := S7.keep hl l2
    have en7 := en.st S7.st
    have al7 := S7.gr.all
    have pM7 := S7.gr.sub _ pM
    have qM7 := S7.gr.sub _ qM
    have dv3 := S7.v
    clear lv lt al ur ha hl en S7
    -- it is empty
    refine ⟨fun σ H' => σ = [some (.ref a), some (.ref p), some (.bl b), some (.int sz), some (.ref a1), some (.ref d.v), some (.ref pl), some (.ref l), v8, v9, some (.ref d2.v), v11, none] ∧ LiveK M7 (kV cA cB b) (kC cL cX b) H' d sz ns3 es ms ∧ (∀ x ∈ M7, H' x ≠ none) ∧ UrnAt 220 p q H' ∧ H' a1 = some (.lst (ns3.map V.str)) ∧ H' l = some (.lst xs) ∧ EntL H' es xs, ?_, ?_⟩
    · refine ⟨Nat.zero_le _, fun t nt => ?_⟩
      have y := Ext.upd (o := .lst []) nt
      exact ⟨M7, d3, sz, a1, ns3, t, [], [], b, ms3, by rw [dv3]; rfl, lt7.mono y, so, y _ _ ha7, crew3, upd_same, .nil, ⟨Nat.zero_le _, fun _ h => nomatch h⟩, (fun _ h => nomatch h), Nat.zero_le _, fun H8 x8 => ifF (by rfl) ⟨rfl, lv7.mono (y.trans x8), fun x hx z => al7 x hx (Ext.free (y.trans x8) z), ur7.keep (y.trans x8), (y.trans x8) _ _ ha7, (y.trans x8) _ _ hl7, en7.mono (y.trans x8)⟩⟩
    clear lv7 al7 ur7 ha7 hl7 en7 lt7
    rintro σ G8 ⟨rfl, lv, al, ur, ha, hl, en⟩
    -- back to marks
    refine ⟨fun σ H' => ∃ v12 M' d', σ = [some (.ref a), some (.ref p), some (.bl b), some (.int sz), some (.ref a1), some (.ref d.v), some (.ref pl), some (.ref l), v8, v9, some (.ref d2.v), v11, v12] ∧ d'.v = d.v ∧ LiveK M' (kV cA cB b) (kC cL cX b) H' d' sz ns3 (es.take 1) (ms.take 1), ?_, ?_⟩
    · refine ⟨p, q, 29, _, rfl, ur, by decide, by decide, by decide, fun H3 r r0 r1 ur3 fr3 => ?_⟩
      refine ⟨p, q, 30, _, rfl, ur3, by decide, by decide, by decide, fun H4 r2 r20 r21 ur4 fr4 => ?_⟩
      have fr := fr3.trans fr4
      have st := ur.tups fr
      have inM7 : ∀ x ∈ [p, q], x ∈ M7 := fun x hx => by
        simp only [List.mem_cons, List.not_mem_nil, or_false] at hx
        rcases hx with rfl | rfl <;> assumption
      have lv4 := lv.fr fr st inM7 (out1 pF qF)
      have al4 : ∀ x ∈ M7, H4 x ≠ none := fun x hx => fr.alloc (UrnAt.al ur4) (al x hx)
      have ha4 := fr _ _ ha (nin2 apq)
      have hl4 := fr _ _ hl (nin2 lpq)
      have en4 := en.st st
      refine ⟨(by show 4 ≤ sizeLine; decide), fun t nt => ?_⟩
      have y := Ext.upd (o := .lst [.int 59, .int (30 + r), .int r2, .int 0]) nt
      have ht : (upd H4 t (.lst [.int 59, .int (30 + r), .int r2, .int 0])) t = some (.lst [.int 59, .int (30 + r), .int r2, .int 0]) := upd_same
      have lv5 := lv4.mono y
      have al5 : ∀ x ∈ M7, (upd H4 t (.lst [.int 59, .int (30 + r), .int r2, .int 0])) x ≠ none := fun x hx z => al4 x hx (Ext.free y z)
      have ha5 := y _ _ ha4
      have hl5 := y _ _ hl4
      have en5 := en4.mono y
      have tF : t ∉ d.F := fun z => lv4.alloc t z nt
      generalize upd H4 t (.lst [.int 59, .int (30 + r), .int r2, .int 0]) = H5 at ht lv5 al5 ha5 hl5 en5 ⊢
      clear lv al ur ha hl en fr3 fr4 fr st lv4 al4 ha4 hl4 en4 y nt
      -- how many stand before the i-th
      obtain ⟨f, f0, f4, fs⟩ : ∃ f : Nat → Nat, f 0 = 60 ∧ f 4 = 1 ∧ ∀ i y, [V.int 59, V.int (30 + r), V.int r2, V.int 0][i]? = some y → ∃ sp : Nat, y = .int (sp : Int) ∧ sp + 1 = f (i + 1) ∧ sp < f i ∧ f i ≤ 60 := by
        refine ⟨fun i => match i with | 0 => 60 | 1 => 60 | 2 => r.toNat + 31 | 3 => r2.toNat + 1 | _ => 1, rfl, rfl, fun i y hy => ?_⟩
        match i with
        | 0 => exact ⟨59, (Option.some.inj hy).symm, rfl, by show 59 < 60; decide, by show 60 ≤ 60; decide⟩
        | 1 => exact ⟨r.toNat + 30, by rw [← Option.some.inj hy]; congr 1; omega, rfl, by show r.toNat + 30 < 60; omega, by show 60 ≤ 60; decide⟩
        | 2 => exact ⟨r2.toNat, by rw [← Option.some.inj hy]; congr 1; omega, rfl, by show r2.toNat < r.toNat + 31; omega, by show r.toNat + 31 ≤ 60; omega⟩
        | 3 => exact ⟨0, (Option.some.inj hy).symm, rfl, by show 0 < r2.toNat + 1; omega, by show r2.toNat + 1 ≤ 60; omega⟩
        | i + 4 => simp at hy
      refine ⟨t, rfl, ⟨_, SqL.of ht⟩, for_list (K := K) (a := t) (xs := [.int 59, .int (30 + r), .int r2, .int 0]) (fun i σ H' => ∃ v12 M' d', σ = [some (.ref a), some (.ref p), some (.bl b), some (.int sz), some (.ref a1), some (.ref d.v), some (.ref pl), some (.ref l), v8, v9, some (.ref d2.v), v11, v12] ∧ Stp d.F M7 d H5 M' d' H' ∧ LiveK M' (kV cA cB b) (kC cL cX b) H' d' sz ns3 (es.take (f i)) (ms.take (f i))) ⟨_, M7, d, rfl, Stp.refl al5 lv5.mem, by rw [f0, List.take_of_length_le (by omega), List.take_of_length_le (by omega)]; exact lv5⟩ ?_ ?_ ?_⟩
      · rintro i σ H' _ ⟨_, _, _, rfl, S1, _⟩; exact SqL.of (S1.keep ht tF)
      · rintro i y σ H1 hy ⟨v12, M1, d4, rfl, S1, lv1⟩
        obtain ⟨sp, rfl, e1, e2, e3⟩ := fs i y hy
        have dv := S1.v
        obtain ⟨dx, us, hv, hs, hm, sm, vM, ll⟩ := id lv1
        have ul := ll.len
        rw [List.length_take] at ul
        have mk : (ms.take (f i))[(sp : Int).toNat]? = some (sp + 1) := by
          rw [Int.toNat_natCast, List.getElem?_take, if_pos e2]
          exact one_at 60 ms hms.symm sp (by omega)
        have okT : ∀ j, EntsOk ns3 (es.take j) := fun j => ⟨by rw [List.length_take]; omega, fun e he => ok.ok e (List.mem_of_mem_take he)⟩
        -- to the mark
        refine ⟨fun σ H' => ∃ M' d', σ = [some (.ref a), some (.ref p), some (.bl b), some (.int sz), some (.ref a1), some (.ref d.v), some (.ref pl), some (.ref l), v8, v9, some (.ref d2.v), v11, some (.int (sp : Int))] ∧ Stp d.F M7 d H5 M' d' H' ∧ LiveK M' (kV cA cB b) (kC cL cX b) H' d' sz ns3 (es.take (f (i + 1))) (ms.take (f (i + 1))), ?_, ?_⟩
        · refine ⟨d.v, _, dx, _, _, rfl, by rw [← dv]; exact hv, vf_no _ _ (by decide +kernel) (by decide +kernel), MB b, d4.v, dx, d4.s, d4.m, us, ms.take (f i), _, by rw [dv], hv, hs, by omega, hm, sm, by rw [List.length_take]; omega, fun k0 _ hk H4 s4 m4 n1 n2 ne h1 h2 h3 f4 st4 => ?_, fun z => absurd ⟨by omega, ?_⟩ z⟩
          rotate_left
          · rw [List.length_take]; omega
          rw [mk] at hk
          obtain rfl := Option.some.inj hk
          have lv4 := lv1.back hs n1 n2 ne h1 h2 h3 f4 st4
          rw [Int.toNat_natCast, List.take_take, List.take_take, Nat.min_eq_left (by omega), e1] at lv4
          have gr4 : ∀ x ∈ s4 :: m4 :: M1, x ∈ M1 ∨ H1 x = none := fun x hx => by
            rcases List.mem_cons.mp hx with rfl | hx
            · exact .inr n1
            · rcases List.mem_cons.mp hx with rfl | hx
              · exact .inr n2
              · exact .inl hx
          have S4 : Stp d4.F M1 d4 H1 (s4 :: m4 :: M1) ⟨d4.v, s4, m4⟩ H4 := Stp.mk1 S1.gr.all lv1.mem f4 (fun x hx => by rw [List.mem_singleton.mp hx]; simp [Lv.F]) st4 (fun _ h => List.mem_cons_of_mem _ (List.mem_cons_of_mem _ h)) gr4 rfl (fun x hx => by
            simp only [Lv.F, List.mem_cons, List.not_mem_nil, or_false] at hx ⊢
            rcases hx with rfl | rfl | rfl
            · simp
            · exact .inr n1
            · exact .inr n2) fun x hx z => by
              rcases z with z | z
              · exact lv4.alloc _ (by rw [List.mem_singleton.mp z]; simp [Lv.F])
              · rcases List.mem_cons.mp hx with rfl | hx
                · rw [h2]; exact fun z => nomatch z
                · rcases List.mem_cons.mp hx with rfl | hx
                  · rw [h3]; exact fun z => nomatch z
                  · exact absurd z (S1.gr.all x hx)
          exact ⟨rfl, ifF (by rfl) ⟨_, _, rfl, S1.trans S4 S1.nw, lv4⟩⟩
        clear hv hs hm sm vM ll ul mk S1 lv1 dv
        rintro σ H2 ⟨M2, d5, rfl, S2, lv2⟩
        have dv := S2.v
        have hl2 := S2.keep hl5 lF
        have ha2 := S2.keep ha5 aF
        have en2 := en5.st S2.st
        refine ⟨_, rfl, l, xs, rfl, SqL.of hl2, fun t2 nt2 => ?_⟩
        rw [cut_to (by omega), show ((sp : Int) + 1).toNat = f (i + 1) by omega]
        have y := Ext.upd (o := .lst (xs.take (f (i + 1)))) nt2
        exact ⟨M2, d5, sz, a1, ns3, t2, es.take (f (i + 1)), _, b, _, by rw [dv]; rfl, lv2.mono y, so, y _ _ ha2, crew3, upd_same, EntL.mono (pTake _ en2) y, okT _, (fun e he => big e (List.mem_of_mem_take he)), by rw [List.length_take]; omega, fun G xG => ifF (by rfl) ⟨_, M2, d5, rfl, S2.ext (y.trans xG), lv2.mono (y.trans xG)⟩⟩
      · rintro σ H1 ⟨v12, M1, d4, rfl, S1, lv1⟩
        have lv1 : LiveK M1 (kV cA cB b) (kC cL cX b) H1 d4 sz ns3 (es.take (f 4)) (ms.take (f 4)) := lv1
        rw [f4] at lv1
        exact ⟨v12, M1, d4, rfl, S1.v, lv1⟩
    rintro σ G9 ⟨v12, M9, d9, rfl, dv, lv9⟩
    obtain ⟨dx, us, hv, hs, hm, sm, vM, ll⟩ := id lv9
    have ul := ll.len
    rw [List.length_take] at ul
    refine ⟨d.v, _, dx, _, _, rfl, by rw [← dv]; exact hv, vf_no _ _ (by decide +kernel) (by decide +kernel), MK b, d9.v, dx, d9.s, d9.m, us, ms.take 1, by rw [dv], hv, hs, by omega, hm, sm, by rw [List.length_take]; omega, ?_⟩
    have e1 : (((ms.take 1).length : Nat) : Int) = 1 := by rw [List.length_take]; omega
    rw [e1]
    exact k _
end
end NB

set_option Elab.async false
set_option linter.all false
set_option maxRecDepth 100000
set_option maxHeartbeats 0
/-! K7: what the top must have, from its facts -/
namespace NB
open PySem PySem.Spec L2
open PyProof.Rows (envOfC)
open C8 (pe_c pe_mk pe_mt pe_mt0 pe_gc fnScope fnBody fnArgs fnScope_by Cal Met Mak)

theorem kit_same {K : PySem.W.Frag} {C : Addr} : PySem.W.kitOne K (.ref C) (.ref C) = some true := by
  unfold PySem.W.kitOne
  rw [if_pos (by simp)]
theorem kit_ref {K : PySem.W.Frag} {C : Addr} {t : Value} {b : Bool} (h1 : PySem.W.isClsIn K C = true) (h2 : PySem.W.typeIn K (.ref C) = some (.type "type")) (h3 : PySem.W.subIn K t (.ref C) = some b) (h4 : (t == Value.ref C) = false) : PySem.W.kitOne K t (.ref C) = some b := by
  unfold PySem.W.kitOne PySem.W.kitCls
  rw [if_neg (by rw [h4]; exact Bool.false_ne_true)]
  unfold PySem.W.isClsIn at h1
  simp only [h1, h2, h3, Bool.true_and, beq_self_eq_true, if_true]
theorem kit_tyR {K : PySem.W.Frag} {C : Addr} {x : String} {b : Bool} (h : PySem.W.subIn K (.ref C) (.type x) = some b) (hm : PySem.W.kitMeta x = true) : PySem.W.kitOne K (.ref C) (.type x) = some b := by
  unfold PySem.W.kitOne PySem.W.kitCls
  rw [if_neg (by simp)]
  simp only [hm, h, if_true]
theorem nf_of {K : PySem.W.Frag} {C : Addr} {t : Value} (h : PySem.W.subIn K t (.ref C) = some false) : PySem.W.notFirst K C t = true := by
  unfold PySem.W.notFirst
  rw [h]
  simp
theorem exm_self {K : PySem.W.Frag} {c : Addr} (b : PySem.W.subIn K (.ref c) (.type "BaseException") = some true) (i : PySem.W.isClsIn K c = true) (t : PySem.W.typeIn K (.ref c) = some (.type "type")) (s : PySem.W.subIn K (.ref c) (.ref c) = some true) : PySem.W.exmOne K (.ref c) (.ref c) = some true := by
  unfold PySem.W.exmOne PySem.W.kitCls
  unfold PySem.W.isClsIn at i
  simp only [b, i, t, s, Bool.true_and, beq_self_eq_true, if_true]
theorem all_mk {P : Program} {w : World} {K : PySem.W.Frag} {h : Heap} {mg : Str → Option Value} {fa : Addr} (X : K.In h) (G : h.Ns mainGlobals mg) (hfa : mg "law" = some (.ref fa))
    {f_is_integer f_is_size f_is_name f_are_servers f_is_server f_is_entry f_are_entries f_need_server f_log_of f_facts_of f_least_slot f_least_slots f_pushes_of f_obstacle_in f_obstacle f__law_urn f__law_lot f__law_live f__law_log f__law_same f__law_tried f_is_index f_shows_two f_are_steps f_shows_steps f_shows_obstacle f__law_clash f__law_is_fault f__law_refused_right f__law_ends_right f_law cL cX cF cA cB fMI pZ fMZ pV fMV pE fME fMN fMQ fMA fMW fMFI fMFW fMFA fMFP fMFR fMFS fMFX fMVI fMVS fMVN fMVU fMBA fMBB fMGA fMGB fMVT fMVL fMVM fMVB cBK cNP cUN cIN fMNP : Addr} {od_is_integer an_is_integer od_is_size an_is_size od_is_name an_is_name od_are_servers an_are_servers od_is_server an_is_server od_is_entry an_is_entry od_are_entries an_are_entries od_need_server an_need_server od_log_of an_log_of od_facts_of an_facts_of od_least_slot an_least_slot od_least_slots an_least_slots od_pushes_of an_pushes_of od_obstacle_in an_obstacle_in od_obstacle an_obstacle od__law_urn an__law_urn od__law_lot an__law_lot od__law_live an__law_live od__law_log an__law_log od__law_same an__law_same od__law_tried an__law_tried od_is_index an_is_index od_shows_two an_shows_two od_are_steps an_are_steps od_shows_steps an_shows_steps od_shows_obstacle an_shows_obstacle od__law_clash an__law_clash od__law_is_fault an__law_is_fault od__law_refused_right an__law_refused_right od__law_ends_right an__law_ends_right od_law an_law odMI anMI odMZ anMZ odMV anMV odME anME odMN anMN odMQ anMQ odMA anMA odMW anMW odMFI anMFI odMFW anMFW odMFA anMFA odMFP anMFP odMFR anMFR odMFS anMFS odMFX anMFX odMVI anMVI odMVS anMVS odMVN anMVN odMVU anMVU odMBA anMBA odMBB anMBB odMGA anMGA odMGB anMGB odMVT anMVT odMVL anMVL odMVM anMVM odMVB anMVB odMNP anMNP : Option Addr} {sl_is_integer sl_is_size sl_is_name sl_are_servers sl_is_server sl_is_entry sl_are_entries sl_need_server sl_log_of sl_facts_of sl_least_slot sl_least_slots sl_pushes_of sl_obstacle_in sl_obstacle sl__law_urn sl__law_lot sl__law_live sl__law_log sl__law_same sl__law_tried sl_is_index sl_shows_two sl_are_steps sl_shows_steps sl_shows_obstacle sl__law_clash sl__law_is_fault sl__law_refused_right sl__law_ends_right sl_law slMI slMZ slMV slME slMN slMQ slMA slMW slMFI slMFW slMFA slMFP slMFR slMFS slMFX slMVI slMVS slMVN slMVU slMBA slMBB slMGA slMGB slMVT slMVL slMVM slMVB slMNP : Array (Option Value)} {oc_is_integer kV_is_integer dc_is_integer pm_is_integer cd_is_integer ct_is_integer oc_is_size kV_is_size dc_is_size pm_is_size cd_is_size ct_is_size oc_is_name kV_is_name dc_is_name pm_is_name cd_is_name ct_is_name oc_are_servers kV_are_servers dc_are_servers pm_are_servers cd_are_servers ct_are_servers oc_is_server kV_is_server dc_is_server pm_is_server cd_is_server ct_is_server oc_is_entry kV_is_entry dc_is_entry pm_is_entry cd_is_entry ct_is_entry oc_are_entries kV_are_entries dc_are_entries pm_are_entries cd_are_entries ct_are_entries oc_need_server kV_need_server dc_need_server pm_need_server cd_need_server ct_need_server oc_log_of kV_log_of dc_log_of pm_log_of cd_log_of ct_log_of oc_facts_of kV_facts_of dc_facts_of pm_facts_of cd_facts_of ct_facts_of oc_least_slot kV_least_slot dc_least_slot pm_least_slot cd_least_slot ct_least_slot oc_least_slots kV_least_slots dc_least_slots pm_least_slots cd_least_slots ct_least_slots oc_pushes_of kV_pushes_of dc_pushes_of pm_pushes_of cd_pushes_of ct_pushes_of oc_obstacle_in kV_obstacle_in dc_obstacle_in pm_obstacle_in cd_obstacle_in ct_obstacle_in oc_obstacle kV_obstacle dc_obstacle pm_obstacle cd_obstacle ct_obstacle oc__law_urn kV__law_urn dc__law_urn pm__law_urn cd__law_urn ct__law_urn oc__law_lot kV__law_lot dc__law_lot pm__law_lot cd__law_lot ct__law_lot oc__law_live kV__law_live dc__law_live pm__law_live cd__law_live ct__law_live oc__law_log kV__law_log dc__law_log pm__law_log cd__law_log ct__law_log oc__law_same kV__law_same dc__law_same pm__law_same cd__law_same ct__law_same oc__law_tried kV__law_tried dc__law_tried pm__law_tried cd__law_tried ct__law_tried oc_is_index kV_is_index dc_is_index pm_is_index cd_is_index ct_is_index oc_shows_two kV_shows_two dc_shows_two pm_shows_two cd_shows_two ct_shows_two oc_are_steps kV_are_steps dc_are_steps pm_are_steps cd_are_steps ct_are_steps oc_shows_steps kV_shows_steps dc_shows_steps pm_shows_steps cd_shows_steps ct_shows_steps oc_shows_obstacle kV_shows_obstacle dc_shows_obstacle pm_shows_obstacle cd_shows_obstacle ct_shows_obstacle oc__law_clash kV__law_clash dc__law_clash pm__law_clash cd__law_clash ct__law_clash oc__law_is_fault kV__law_is_fault dc__law_is_fault pm__law_is_fault cd__law_is_fault ct__law_is_fault oc__law_refused_right kV__law_refused_right dc__law_refused_right pm__law_refused_right cd__law_refused_right ct__law_refused_right oc__law_ends_right kV__law_ends_right dc__law_ends_right pm__law_ends_right cd__law_ends_right ct__law_ends_right oc_law kV_law dc_law pm_law cd_law ct_law ocMI kVMI dcMI pmMI cdMI ctMI ocMZ kVMZ dcMZ pmMZ cdMZ ctMZ ocMV kVMV dcMV pmMV cdMV ctMV ocME kVME dcME pmME cdME ctME ocMN kVMN dcMN pmMN cdMN ctMN ocMQ kVMQ dcMQ pmMQ cdMQ ctMQ ocMA kVMA dcMA pmMA cdMA ctMA ocMW kVMW dcMW pmMW cdMW ctMW ocMFI kVMFI dcMFI pmMFI cdMFI ctMFI ocMFW kVMFW dcMFW pmMFW cdMFW ctMFW ocMFA kVMFA dcMFA pmMFA cdMFA ctMFA ocMFP kVMFP dcMFP pmMFP cdMFP ctMFP ocMFR kVMFR dcMFR pmMFR cdMFR ctMFR ocMFS kVMFS dcMFS pmMFS cdMFS ctMFS ocMFX kVMFX dcMFX pmMFX cdMFX ctMFX ocMVI kVMVI dcMVI pmMVI cdMVI ctMVI ocMVS kVMVS dcMVS pmMVS cdMVS ctMVS ocMVN kVMVN dcMVN pmMVN cdMVN ctMVN ocMVU kVMVU dcMVU pmMVU cdMVU ctMVU ocMBA kVMBA dcMBA pmMBA cdMBA ctMBA ocMBB kVMBB dcMBB pmMBB cdMBB ctMBB ocMGA kVMGA dcMGA pmMGA cdMGA ctMGA ocMGB kVMGB dcMGB pmMGB cdMGB ctMGB ocMVT kVMVT dcMVT pmMVT cdMVT ctMVT ocMVL kVMVL dcMVL pmMVL cdMVL ctMVL ocMVM kVMVM dcMVM pmMVM cdMVM ctMVM ocMVB kVMVB dcMVB pmMVB cdMVB ctMVB ocMNP kVMNP dcMNP pmMNP cdMNP ctMNP : Value} {tk0 tk1 tk2 tk3 ts0 ts1 ts4 ts5 ts6 ts7 ts8 ts9 : Tok} {rsZ rsV rsE : List Value} {nmT qT : Str} {NT : Addr} {bsT bmT suT : List Value} {snT : List Str} {abT : Bool} {coT : Option Bool} {ddT : Option Addr} {k0T k1T k2T k3T k5T : Option Value}
    (a_is_integer : PySem.W.nsIn K mainGlobals "is_integer" = some (some (.ref f_is_integer)))
    (l_is_integer : K.lookup f_is_integer = some ⟨oc_is_integer, od_is_integer, .func (PySem.W.fnOf "is_integer" "is_integer" (fnArgs s_is_integer) (fnBody s_is_integer) (fnScope s_is_integer) .none kV_is_integer dc_is_integer pm_is_integer an_is_integer cd_is_integer ct_is_integer), sl_is_integer⟩)
    (c_is_integer : PySem.W.codeIn K cd_is_integer "is_integer" = true)
    (k_is_integer : PySem.W.keepIn K (.ref f_is_integer) = true)
    (a_is_size : PySem.W.nsIn K mainGlobals "is_size" = some (some (.ref f_is_size)))
    (l_is_size : K.lookup f_is_size = some ⟨oc_is_size, od_is_size, .func (PySem.W.fnOf "is_size" "is_size" (fnArgs s_is_size) (fnBody s_is_size) (fnScope s_is_size) .none kV_is_size dc_is_size pm_is_size an_is_size cd_is_size ct_is_size), sl_is_size⟩)
    (c_is_size : PySem.W.codeIn K cd_is_size "is_size" = true)
    (k_is_size : PySem.W.keepIn K (.ref f_is_size) = true)
    (a_is_name : PySem.W.nsIn K mainGlobals "is_name" = some (some (.ref f_is_name)))
    (l_is_name : K.lookup f_is_name = some ⟨oc_is_name, od_is_name, .func (PySem.W.fnOf "is_name" "is_name" (fnArgs s_is_name) (fnBody s_is_name) (fnScope s_is_name) .none kV_is_name dc_is_name pm_is_name an_is_name cd_is_name ct_is_name), sl_is_name⟩)
    (c_is_name : PySem.W.codeIn K cd_is_name "is_name" = true)
    (k_is_name : PySem.W.keepIn K (.ref f_is_name) = true)
    (a_are_servers : PySem.W.nsIn K mainGlobals "are_servers" = some (some (.ref f_are_servers)))
    (l_are_servers : K.lookup f_are_servers = some ⟨oc_are_servers, od_are_servers, .func (PySem.W.fnOf "are_servers" "are_servers" (fnArgs s_are_servers) (fnBody s_are_servers) (fnScope s_are_servers) .none kV_are_servers dc_are_servers pm_are_servers an_are_servers cd_are_servers ct_are_servers), sl_are_servers⟩)
    (c_are_servers : PySem.W.codeIn K cd_are_servers "are_servers" = true)
    (k_are_servers : PySem.W.keepIn K (.ref f_are_servers) = true)
    (a_is_server : PySem.W.nsIn K mainGlobals "is_server" = some (some (.ref f_is_server)))
    (l_is_server : K.lookup f_is_server = some ⟨oc_is_server, od_is_server, .func (PySem.W.fnOf "is_server" "is_server" (fnArgs s_is_server) (fnBody s_is_server) (fnScope s_is_server) .none kV_is_server dc_is_server pm_is_server an_is_server cd_is_server ct_is_server), sl_is_server⟩)
    (c_is_server : PySem.W.codeIn K cd_is_server "is_server" = true)
    (k_is_server : PySem.W.keepIn K (.ref f_is_server) = true)
    (a_is_entry : PySem.W.nsIn K mainGlobals "is_entry" = some (some (.ref f_is_entry)))
    (l_is_entry : K.lookup f_is_entry = some ⟨oc_is_entry, od_is_entry, .func (PySem.W.fnOf "is_entry" "is_entry" (fnArgs s_is_entry) (fnBody s_is_entry) (fnScope s_is_entry) .none kV_is_entry dc_is_entry pm_is_entry an_is_entry cd_is_entry ct_is_entry), sl_is_entry⟩)
    (c_is_entry : PySem.W.codeIn K cd_is_entry "is_entry" = true)
    (k_is_entry : PySem.W.keepIn K (.ref f_is_entry) = true)
    (a_are_entries : PySem.W.nsIn K mainGlobals "are_entries" = some (some (.ref f_are_entries)))
    (l_are_entries : K.lookup f_are_entries = some ⟨oc_are_entries, od_are_entries, .func (PySem.W.fnOf "are_entries" "are_entries" (fnArgs s_are_entries) (fnBody s_are_entries) (fnScope s_are_entries) .none kV_are_entries dc_are_entries pm_are_entries an_are_entries cd_are_entries ct_are_entries), sl_are_entries⟩)
    (c_are_entries : PySem.W.codeIn K cd_are_entries "are_entries" = true)
    (k_are_entries : PySem.W.keepIn K (.ref f_are_entries) = true)
    (a_need_server : PySem.W.nsIn K mainGlobals "need_server" = some (some (.ref f_need_server)))
    (l_need_server : K.lookup f_need_server = some ⟨oc_need_server, od_need_server, .func (PySem.W.fnOf "need_server" "need_server" (fnArgs s_need_server) (fnBody s_need_server) (fnScope s_need_server) .none kV_need_server dc_need_server pm_need_server an_need_server cd_need_server ct_need_server), sl_need_server⟩)
    (c_need_server : PySem.W.codeIn K cd_need_server "need_server" = true)
    (k_need_server : PySem.W.keepIn K (.ref f_need_server) = true)
    (a_log_of : PySem.W.nsIn K mainGlobals "log_of" = some (some (.ref f_log_of)))
    (l_log_of : K.lookup f_log_of = some ⟨oc_log_of, od_log_of, .func (PySem.W.fnOf "log_of" "log_of" (fnArgs s_log_of) (fnBody s_log_of) (fnScope s_log_of) .none kV_log_of dc_log_of pm_log_of an_log_of cd_log_of ct_log_of), sl_log_of⟩)
    (c_log_of : PySem.W.codeIn K cd_log_of "log_of" = true)
    (k_log_of : PySem.W.keepIn K (.ref f_log_of) = true)
    (a_facts_of : PySem.W.nsIn K mainGlobals "facts_of" = some (some (.ref f_facts_of)))
    (l_facts_of : K.lookup f_facts_of = some ⟨oc_facts_of, od_facts_of, .func (PySem.W.fnOf "facts_of" "facts_of" (fnArgs s_facts_of) (fnBody s_facts_of) (fnScope s_facts_of) .none kV_facts_of dc_facts_of pm_facts_of an_facts_of cd_facts_of ct_facts_of), sl_facts_of⟩)
    (c_facts_of : PySem.W.codeIn K cd_facts_of "facts_of" = true)
    (k_facts_of : PySem.W.keepIn K (.ref f_facts_of) = true)
    (a_least_slot : PySem.W.nsIn K mainGlobals "least_slot" = some (some (.ref f_least_slot)))
    (l_least_slot : K.lookup f_least_slot = some ⟨oc_least_slot, od_least_slot, .func (PySem.W.fnOf "least_slot" "least_slot" (fnArgs s_least_slot) (fnBody s_least_slot) (fnScope s_least_slot) .none kV_least_slot dc_least_slot pm_least_slot an_least_slot cd_least_slot ct_least_slot), sl_least_slot⟩)
    (c_least_slot : PySem.W.codeIn K cd_least_slot "least_slot" = true)
    (k_least_slot : PySem.W.keepIn K (.ref f_least_slot) = true)
    (a_least_slots : PySem.W.nsIn K mainGlobals "least_slots" = some (some (.ref f_least_slots)))
    (l_least_slots : K.lookup f_least_slots = some ⟨oc_least_slots, od_least_slots, .func (PySem.W.fnOf "least_slots" "least_slots" (fnArgs s_least_slots) (fnBody s_least_slots) (fnScope s_least_slots) .none kV_least_slots dc_least_slots pm_least_slots an_least_slots cd_least_slots ct_least_slots), sl_least_slots⟩)
    (c_least_slots : PySem.W.codeIn K cd_least_slots "least_slots" = true)
    (k_least_slots : PySem.W.keepIn K (.ref f_least_slots) = true)
    (a_pushes_of : PySem.W.nsIn K mainGlobals "pushes_of" = some (some (.ref f_pushes_of)))
    (l_pushes_of : K.lookup f_pushes_of = some ⟨oc_pushes_of, od_pushes_of, .func (PySem.W.fnOf "pushes_of" "pushes_of" (fnArgs s_pushes_of) (fnBody s_pushes_of) (fnScope s_pushes_of) .none kV_pushes_of dc_pushes_of pm_pushes_of an_pushes_of cd_pushes_of ct_pushes_of), sl_pushes_of⟩)
    (c_pushes_of : PySem.W.codeIn K cd_pushes_of "pushes_of" = true)
    (k_pushes_of : PySem.W.keepIn K (.ref f_pushes_of) = true)
    (a_obstacle_in : PySem.W.nsIn K mainGlobals "obstacle_in" = some (some (.ref f_obstacle_in)))
    (l_obstacle_in : K.lookup f_obstacle_in = some ⟨oc_obstacle_in, od_obstacle_in, .func (PySem.W.fnOf "obstacle_in" "obstacle_in" (fnArgs s_obstacle_in) (fnBody s_obstacle_in) (fnScope s_obstacle_in) .none kV_obstacle_in dc_obstacle_in pm_obstacle_in an_obstacle_in cd_obstacle_in ct_obstacle_in), sl_obstacle_in⟩)
    (c_obstacle_in : PySem.W.codeIn K cd_obstacle_in "obstacle_in" = true)
    (k_obstacle_in : PySem.W.keepIn K (.ref f_obstacle_in) = true)
    (a_obstacle : PySem.W.nsIn K mainGlobals "obstacle" = some (some (.ref f_obstacle)))
    (l_obstacle : K.lookup f_obstacle = some ⟨oc_obstacle, od_obstacle, .func (PySem.W.fnOf "obstacle" "obstacle" (fnArgs s_obstacle) (fnBody s_obstacle) (fnScope s_obstacle) .none kV_obstacle dc_obstacle pm_obstacle an_obstacle cd_obstacle ct_obstacle), sl_obstacle⟩)
    (c_obstacle : PySem.W.codeIn K cd_obstacle "obstacle" = true)
    (k_obstacle : PySem.W.keepIn K (.ref f_obstacle) = true)
    (a__law_urn : PySem.W.nsIn K mainGlobals "_law_urn" = some (some (.ref f__law_urn)))
    (l__law_urn : K.lookup f__law_urn = some ⟨oc__law_urn, od__law_urn, .func (PySem.W.fnOf "_law_urn" "_law_urn" (fnArgs s__law_urn) (fnBody s__law_urn) (fnScope s__law_urn) .none kV__law_urn dc__law_urn pm__law_urn an__law_urn cd__law_urn ct__law_urn), sl__law_urn⟩)
    (c__law_urn : PySem.W.codeIn K cd__law_urn "_law_urn" = true)
    (k__law_urn : PySem.W.keepIn K (.ref f__law_urn) = true)
    (a__law_lot : PySem.W.nsIn K mainGlobals "_law_lot" = some (some (.ref f__law_lot)))
    (l__law_lot : K.lookup f__law_lot = some ⟨oc__law_lot, od__law_lot, .func (PySem.W.fnOf "_law_lot" "_law_lot" (fnArgs s__law_lot) (fnBody s__law_lot) (fnScope s__law_lot) .none kV__law_lot dc__law_lot pm__law_lot an__law_lot cd__law_lot ct__law_lot), sl__law_lot⟩)
    (c__law_lot : PySem.W.codeIn K cd__law_lot "_law_lot" = true)
    (k__law_lot : PySem.W.keepIn K (.ref f__law_lot) = true)
    (a__law_live : PySem.W.nsIn K mainGlobals "_law_live" = some (some (.ref f__law_live)))
    (l__law_live : K.lookup f__law_live = some ⟨oc__law_live, od__law_live, .func (PySem.W.fnOf "_law_live" "_law_live" (fnArgs s__law_live) (fnBody s__law_live) (fnScope s__law_live) .none kV__law_live dc__law_live pm__law_live an__law_live cd__law_live ct__law_live), sl__law_live⟩)
    (c__law_live : PySem.W.codeIn K cd__law_live "_law_live" = true)
    (k__law_live : PySem.W.keepIn K (.ref f__law_live) = true)
    (a__law_log : PySem.W.nsIn K mainGlobals "_law_log" = some (some (.ref f__law_log)))
    (l__law_log : K.lookup f__law_log = some ⟨oc__law_log, od__law_log, .func (PySem.W.fnOf "_law_log" "_law_log" (fnArgs s__law_log) (fnBody s__law_log) (fnScope s__law_log) .none kV__law_log dc__law_log pm__law_log an__law_log cd__law_log ct__law_log), sl__law_log⟩)
    (c__law_log : PySem.W.codeIn K cd__law_log "_law_log" = true)
    (k__law_log : PySem.W.keepIn K (.ref f__law_log) = true)
    (a__law_same : PySem.W.nsIn K mainGlobals "_law_same" = some (some (.ref f__law_same)))
    (l__law_same : K.lookup f__law_same = some ⟨oc__law_same, od__law_same, .func (PySem.W.fnOf "_law_same" "_law_same" (fnArgs s__law_same) (fnBody s__law_same) (fnScope s__law_same) .none kV__law_same dc__law_same pm__law_same an__law_same cd__law_same ct__law_same), sl__law_same⟩)
    (c__law_same : PySem.W.codeIn K cd__law_same "_law_same" = true)
    (k__law_same : PySem.W.keepIn K (.ref f__law_same) = true)
    (a__law_tried : PySem.W.nsIn K mainGlobals "_law_tried" = some (some (.ref f__law_tried)))
    (l__law_tried : K.lookup f__law_tried = some ⟨oc__law_tried, od__law_tried, .func (PySem.W.fnOf "_law_tried" "_law_tried" (fnArgs s__law_tried) (fnBody s__law_tried) (fnScope s__law_tried) .none kV__law_tried dc__law_tried pm__law_tried an__law_tried cd__law_tried ct__law_tried), sl__law_tried⟩)
    (c__law_tried : PySem.W.codeIn K cd__law_tried "_law_tried" = true)
    (k__law_tried : PySem.W.keepIn K (.ref f__law_tried) = true)
    (a_is_index : PySem.W.nsIn K mainGlobals "is_index" = some (some (.ref f_is_index)))
    (l_is_index : K.lookup f_is_index = some ⟨oc_is_index, od_is_index, .func (PySem.W.fnOf "is_index" "is_index" (fnArgs s_is_index) (fnBody s_is_index) (fnScope s_is_index) .none kV_is_index dc_is_index pm_is_index an_is_index cd_is_index ct_is_index), sl_is_index⟩)
    (c_is_index : PySem.W.codeIn K cd_is_index "is_index" = true)
    (k_is_index : PySem.W.keepIn K (.ref f_is_index) = true)
    (a_shows_two : PySem.W.nsIn K mainGlobals "shows_two" = some (some (.ref f_shows_two)))
    (l_shows_two : K.lookup f_shows_two = some ⟨oc_shows_two, od_shows_two, .func (PySem.W.fnOf "shows_two" "shows_two" (fnArgs s_shows_two) (fnBody s_shows_two) (fnScope s_shows_two) .none kV_shows_two dc_shows_two pm_shows_two an_shows_two cd_shows_two ct_shows_two), sl_shows_two⟩)
    (c_shows_two : PySem.W.codeIn K cd_shows_two "shows_two" = true)
    (k_shows_two : PySem.W.keepIn K (.ref f_shows_two) = true)
    (a_are_steps : PySem.W.nsIn K mainGlobals "are_steps" = some (some (.ref f_are_steps)))
    (l_are_steps : K.lookup f_are_steps = some ⟨oc_are_steps, od_are_steps, .func (PySem.W.fnOf "are_steps" "are_steps" (fnArgs s_are_steps) (fnBody s_are_steps) (fnScope s_are_steps) .none kV_are_steps dc_are_steps pm_are_steps an_are_steps cd_are_steps ct_are_steps), sl_are_steps⟩)
    (c_are_steps : PySem.W.codeIn K cd_are_steps "are_steps" = true)
    (k_are_steps : PySem.W.keepIn K (.ref f_are_steps) = true)
    (a_shows_steps : PySem.W.nsIn K mainGlobals "shows_steps" = some (some (.ref f_shows_steps)))
    (l_shows_steps : K.lookup f_shows_steps = some ⟨oc_shows_steps, od_shows_steps, .func (PySem.W.fnOf "shows_steps" "shows_steps" (fnArgs s_shows_steps) (fnBody s_shows_steps) (fnScope s_shows_steps) .none kV_shows_steps dc_shows_steps pm_shows_steps an_shows_steps cd_shows_steps ct_shows_steps), sl_shows_steps⟩)
    (c_shows_steps : PySem.W.codeIn K cd_shows_steps "shows_steps" = true)
    (k_shows_steps : PySem.W.keepIn K (.ref f_shows_steps) = true)
    (a_shows_obstacle : PySem.W.nsIn K mainGlobals "shows_obstacle" = some (some (.ref f_shows_obstacle)))
    (l_shows_obstacle : K.lookup f_shows_obstacle = some ⟨oc_shows_obstacle, od_shows_obstacle, .func (PySem.W.fnOf "shows_obstacle" "shows_obstacle" (fnArgs s_shows_obstacle) (fnBody s_shows_obstacle) (fnScope s_shows_obstacle) .none kV_shows_obstacle dc_shows_obstacle pm_shows_obstacle an_shows_obstacle cd_shows_obstacle ct_shows_obstacle), sl_shows_obstacle⟩)
    (c_shows_obstacle : PySem.W.codeIn K cd_shows_obstacle "shows_obstacle" = true)
    (k_shows_obstacle : PySem.W.keepIn K (.ref f_shows_obstacle) = true)
    (a__law_clash : PySem.W.nsIn K mainGlobals "_law_clash" = some (some (.ref f__law_clash)))
    (l__law_clash : K.lookup f__law_clash = some ⟨oc__law_clash, od__law_clash, .func (PySem.W.fnOf "_law_clash" "_law_clash" (fnArgs s__law_clash) (fnBody s__law_clash) (fnScope s__law_clash) .none kV__law_clash dc__law_clash pm__law_clash an__law_clash cd__law_clash ct__law_clash), sl__law_clash⟩)
    (c__law_clash : PySem.W.codeIn K cd__law_clash "_law_clash" = true)
    (k__law_clash : PySem.W.keepIn K (.ref f__law_clash) = true)
    (a__law_is_fault : PySem.W.nsIn K mainGlobals "_law_is_fault" = some (some (.ref f__law_is_fault)))
    (l__law_is_fault : K.lookup f__law_is_fault = some ⟨oc__law_is_fault, od__law_is_fault, .func (PySem.W.fnOf "_law_is_fault" "_law_is_fault" (fnArgs s__law_is_fault) (fnBody s__law_is_fault) (fnScope s__law_is_fault) .none kV__law_is_fault dc__law_is_fault pm__law_is_fault an__law_is_fault cd__law_is_fault ct__law_is_fault), sl__law_is_fault⟩)
    (c__law_is_fault : PySem.W.codeIn K cd__law_is_fault "_law_is_fault" = true)
    (k__law_is_fault : PySem.W.keepIn K (.ref f__law_is_fault) = true)
    (a__law_refused_right : PySem.W.nsIn K mainGlobals "_law_refused_right" = some (some (.ref f__law_refused_right)))
    (l__law_refused_right : K.lookup f__law_refused_right = some ⟨oc__law_refused_right, od__law_refused_right, .func (PySem.W.fnOf "_law_refused_right" "_law_refused_right" (fnArgs s__law_refused_right) (fnBody s__law_refused_right) (fnScope s__law_refused_right) .none kV__law_refused_right dc__law_refused_right pm__law_refused_right an__law_refused_right cd__law_refused_right ct__law_refused_right), sl__law_refused_right⟩)
    (c__law_refused_right : PySem.W.codeIn K cd__law_refused_right "_law_refused_right" = true)
    (k__law_refused_right : PySem.W.keepIn K (.ref f__law_refused_right) = true)
    (a__law_ends_right : PySem.W.nsIn K mainGlobals "_law_ends_right" = some (some (.ref f__law_ends_right)))
    (l__law_ends_right : K.lookup f__law_ends_right = some ⟨oc__law_ends_right, od__law_ends_right, .func (PySem.W.fnOf "_law_ends_right" "_law_ends_right" (fnArgs s__law_ends_right) (fnBody s__law_ends_right) (fnScope s__law_ends_right) .none kV__law_ends_right dc__law_ends_right pm__law_ends_right an__law_ends_right cd__law_ends_right ct__law_ends_right), sl__law_ends_right⟩)
    (c__law_ends_right : PySem.W.codeIn K cd__law_ends_right "_law_ends_right" = true)
    (k__law_ends_right : PySem.W.keepIn K (.ref f__law_ends_right) = true)
    (a_law : PySem.W.nsIn K mainGlobals "law" = some (some (.ref f_law)))
    (l_law : K.lookup f_law = some ⟨oc_law, od_law, .func (PySem.W.fnOf "law" "law" (fnArgs s_law) (fnBody s_law) (fnScope s_law) .none kV_law dc_law pm_law an_law cd_law ct_law), sl_law⟩)
    (c_law : PySem.W.codeIn K cd_law "law" = true)
    (k_law : PySem.W.keepIn K (.ref f_law) = true)
    (gL : PySem.W.nsIn K mainGlobals "Log" = some (some (.ref cL)))
    (gX : PySem.W.nsIn K mainGlobals "LosingLog" = some (some (.ref cX)))
    (gF : PySem.W.nsIn K mainGlobals "Facts" = some (some (.ref cF)))
    (gA : PySem.W.nsIn K mainGlobals "LiveLog" = some (some (.ref cA)))
    (gB : PySem.W.nsIn K mainGlobals "LiveLosingLog" = some (some (.ref cB)))
    (mLI : PySem.W.findIn K (.ref cL) "__init__" = some (some (.ref fMI)))
    (mXI : PySem.W.findIn K (.ref cX) "__init__" = some (some (.ref fMI)))
    (miI : PySem.W.isFn K (.ref fMI) = true)
    (lMI : K.lookup fMI = some ⟨ocMI, odMI, .func (PySem.W.fnOf "__init__" "Log.__init__" (fnArgs s_Log___init__) (fnBody s_Log___init__) (fnScope s_Log___init__) .none kVMI dcMI pmMI anMI cdMI ctMI), slMI⟩)
    (cMI : PySem.W.codeIn K cdMI "Log.__init__" = true)
    (pZL : PySem.W.findIn K (.ref cL) "size" = some (some (.ref pZ)))
    (pZX : PySem.W.findIn K (.ref cX) "size" = some (some (.ref pZ)))
    (pgZ : PySem.W.specialIn K (.ref pZ) "__get__" = some (some (.builtin "property.__get__")))
    (ptZ : PySem.W.takesIn K (.ref pZ) = some true)
    (prZ : PySem.W.recIn K pZ "property" = some (.ref fMZ :: rsZ))
    (lMZ : K.lookup fMZ = some ⟨ocMZ, odMZ, .func (PySem.W.fnOf "size" "Log.size" (fnArgs s_Log_size) (fnBody s_Log_size) (fnScope s_Log_size) .none kVMZ dcMZ pmMZ anMZ cdMZ ctMZ), slMZ⟩)
    (cMZ : PySem.W.codeIn K cdMZ "Log.size" = true)
    (pVL : PySem.W.findIn K (.ref cL) "servers" = some (some (.ref pV)))
    (pVX : PySem.W.findIn K (.ref cX) "servers" = some (some (.ref pV)))
    (pgV : PySem.W.specialIn K (.ref pV) "__get__" = some (some (.builtin "property.__get__")))
    (ptV : PySem.W.takesIn K (.ref pV) = some true)
    (prV : PySem.W.recIn K pV "property" = some (.ref fMV :: rsV))
    (lMV : K.lookup fMV = some ⟨ocMV, odMV, .func (PySem.W.fnOf "servers" "Log.servers" (fnArgs s_Log_servers) (fnBody s_Log_servers) (fnScope s_Log_servers) .none kVMV dcMV pmMV anMV cdMV ctMV), slMV⟩)
    (cMV : PySem.W.codeIn K cdMV "Log.servers" = true)
    (pEL : PySem.W.findIn K (.ref cL) "entries" = some (some (.ref pE)))
    (pEX : PySem.W.findIn K (.ref cX) "entries" = some (some (.ref pE)))
    (pgE : PySem.W.specialIn K (.ref pE) "__get__" = some (some (.builtin "property.__get__")))
    (ptE : PySem.W.takesIn K (.ref pE) = some true)
    (prE : PySem.W.recIn K pE "property" = some (.ref fME :: rsE))
    (lME : K.lookup fME = some ⟨ocME, odME, .func (PySem.W.fnOf "entries" "Log.entries" (fnArgs s_Log_entries) (fnBody s_Log_entries) (fnScope s_Log_entries) .none kVME dcME pmME anME cdME ctME), slME⟩)
    (cME : PySem.W.codeIn K cdME "Log.entries" = true)
    (mLN : PySem.W.findIn K (.ref cL) "__len__" = some (some (.ref fMN)))
    (mXN : PySem.W.findIn K (.ref cX) "__len__" = some (some (.ref fMN)))
    (miN : PySem.W.isFn K (.ref fMN) = true)
    (lMN : K.lookup fMN = some ⟨ocMN, odMN, .func (PySem.W.fnOf "__len__" "Log.__len__" (fnArgs s_Log___len__) (fnBody s_Log___len__) (fnScope s_Log___len__) .none kVMN dcMN pmMN anMN cdMN ctMN), slMN⟩)
    (cMN : PySem.W.codeIn K cdMN "Log.__len__" = true)
    (mLQ : PySem.W.findIn K (.ref cL) "__eq__" = some (some (.ref fMQ)))
    (mXQ : PySem.W.findIn K (.ref cX) "__eq__" = some (some (.ref fMQ)))
    (miQ : PySem.W.isFn K (.ref fMQ) = true)
    (lMQ : K.lookup fMQ = some ⟨ocMQ, odMQ, .func (PySem.W.fnOf "__eq__" "Log.__eq__" (fnArgs s_Log___eq__) (fnBody s_Log___eq__) (fnScope s_Log___eq__) .none kVMQ dcMQ pmMQ anMQ cdMQ ctMQ), slMQ⟩)
    (cMQ : PySem.W.codeIn K cdMQ "Log.__eq__" = true)
    (mLA : PySem.W.findIn K (.ref cL) "__add__" = some (some (.ref fMA)))
    (mXA : PySem.W.findIn K (.ref cX) "__add__" = some (some (.ref fMA)))
    (miA : PySem.W.isFn K (.ref fMA) = true)
    (lMA : K.lookup fMA = some ⟨ocMA, odMA, .func (PySem.W.fnOf "__add__" "Log.__add__" (fnArgs s_Log___add__) (fnBody s_Log___add__) (fnScope s_Log___add__) .none kVMA dcMA pmMA anMA cdMA ctMA), slMA⟩)
    (cMA : PySem.W.codeIn K cdMA "Log.__add__" = true)
    (mLW : PySem.W.findIn K (.ref cL) "with_entry" = some (some (.ref fMW)))
    (mXW : PySem.W.findIn K (.ref cX) "with_entry" = some (some (.ref fMW)))
    (miW : PySem.W.isFn K (.ref fMW) = true)
    (lMW : K.lookup fMW = some ⟨ocMW, odMW, .func (PySem.W.fnOf "with_entry" "Log.with_entry" (fnArgs s_Log_with_entry) (fnBody s_Log_with_entry) (fnScope s_Log_with_entry) .none kVMW dcMW pmMW anMW cdMW ctMW), slMW⟩)
    (cMW : PySem.W.codeIn K cdMW "Log.with_entry" = true)
    (mFI : PySem.W.findIn K (.ref cF) "__init__" = some (some (.ref fMFI)))
    (miFI : PySem.W.isFn K (.ref fMFI) = true)
    (lMFI : K.lookup fMFI = some ⟨ocMFI, odMFI, .func (PySem.W.fnOf "__init__" "Facts.__init__" (fnArgs s_Facts___init__) (fnBody s_Facts___init__) (fnScope s_Facts___init__) .none kVMFI dcMFI pmMFI anMFI cdMFI ctMFI), slMFI⟩)
    (cMFI : PySem.W.codeIn K cdMFI "Facts.__init__" = true)
    (mFW : PySem.W.findIn K (.ref cF) "window_of" = some (some (.ref fMFW)))
    (miFW : PySem.W.isFn K (.ref fMFW) = true)
    (lMFW : K.lookup fMFW = some ⟨ocMFW, odMFW, .func (PySem.W.fnOf "window_of" "Facts.window_of" (fnArgs s_Facts_window_of) (fnBody s_Facts_window_of) (fnScope s_Facts_window_of) .none kVMFW dcMFW pmMFW anMFW cdMFW ctMFW), slMFW⟩)
    (cMFW : PySem.W.codeIn K cdMFW "Facts.window_of" = true)
    (mFA : PySem.W.findIn K (.ref cF) "window_at" = some (some (.ref fMFA)))
    (miFA : PySem.W.isFn K (.ref fMFA) = true)
    (lMFA : K.lookup fMFA = some ⟨ocMFA, odMFA, .func (PySem.W.fnOf "window_at" "Facts.window_at" (fnArgs s_Facts_window_at) (fnBody s_Facts_window_at) (fnScope s_Facts_window_at) .none kVMFA dcMFA pmMFA anMFA cdMFA ctMFA), slMFA⟩)
    (cMFA : PySem.W.codeIn K cdMFA "Facts.window_at" = true)
    (mFP : PySem.W.findIn K (.ref cF) "plain_fault" = some (some (.ref fMFP)))
    (miFP : PySem.W.isFn K (.ref fMFP) = true)
    (lMFP : K.lookup fMFP = some ⟨ocMFP, odMFP, .func (PySem.W.fnOf "plain_fault" "Facts.plain_fault" (fnArgs s_Facts_plain_fault) (fnBody s_Facts_plain_fault) (fnScope s_Facts_plain_fault) .none kVMFP dcMFP pmMFP anMFP cdMFP ctMFP), slMFP⟩)
    (cMFP : PySem.W.codeIn K cdMFP "Facts.plain_fault" = true)
    (mFR : PySem.W.findIn K (.ref cF) "rows" = some (some (.ref fMFR)))
    (miFR : PySem.W.isFn K (.ref fMFR) = true)
    (lMFR : K.lookup fMFR = some ⟨ocMFR, odMFR, .func (PySem.W.fnOf "rows" "Facts.rows" (fnArgs s_Facts_rows) (fnBody s_Facts_rows) (fnScope s_Facts_rows) .none kVMFR dcMFR pmMFR anMFR cdMFR ctMFR), slMFR⟩)
    (cMFR : PySem.W.codeIn K cdMFR "Facts.rows" = true)
    (mFS : PySem.W.findIn K (.ref cF) "last_slot" = some (some (.ref fMFS)))
    (miFS : PySem.W.isFn K (.ref fMFS) = true)
    (lMFS : K.lookup fMFS = some ⟨ocMFS, odMFS, .func (PySem.W.fnOf "last_slot" "Facts.last_slot" (fnArgs s_Facts_last_slot) (fnBody s_Facts_last_slot) (fnScope s_Facts_last_slot) .none kVMFS dcMFS pmMFS anMFS cdMFS ctMFS), slMFS⟩)
    (cMFS : PySem.W.codeIn K cdMFS "Facts.last_slot" = true)
    (mFX : PySem.W.findIn K (.ref cF) "windows" = some (some (.ref fMFX)))
    (miFX : PySem.W.isFn K (.ref fMFX) = true)
    (lMFX : K.lookup fMFX = some ⟨ocMFX, odMFX, .func (PySem.W.fnOf "windows" "Facts.windows" (fnArgs s_Facts_windows) (fnBody s_Facts_windows) (fnScope s_Facts_windows) .none kVMFX dcMFX pmMFX anMFX cdMFX ctMFX), slMFX⟩)
    (cMFX : PySem.W.codeIn K cdMFX "Facts.windows" = true)
    (mVIA : PySem.W.findIn K (.ref cA) "__init__" = some (some (.ref fMVI)))
    (mVIB : PySem.W.findIn K (.ref cB) "__init__" = some (some (.ref fMVI)))
    (miVI : PySem.W.isFn K (.ref fMVI) = true)
    (lMVI : K.lookup fMVI = some ⟨ocMVI, odMVI, .func (PySem.W.fnOf "__init__" "LiveLog.__init__" (fnArgs s_LiveLog___init__) (fnBody s_LiveLog___init__) (fnScope s_LiveLog___init__) .none kVMVI dcMVI pmMVI anMVI cdMVI ctMVI), slMVI⟩)
    (cMVI : PySem.W.codeIn K cdMVI "LiveLog.__init__" = true)
    (mVSA : PySem.W.findIn K (.ref cA) "see" = some (some (.ref fMVS)))
    (mVSB : PySem.W.findIn K (.ref cB) "see" = some (some (.ref fMVS)))
    (miVS : PySem.W.isFn K (.ref fMVS) = true)
    (lMVS : K.lookup fMVS = some ⟨ocMVS, odMVS, .func (PySem.W.fnOf "see" "LiveLog.see" (fnArgs s_LiveLog_see) (fnBody s_LiveLog_see) (fnScope s_LiveLog_see) .none kVMVS dcMVS pmMVS anMVS cdMVS ctMVS), slMVS⟩)
    (cMVS : PySem.W.codeIn K cdMVS "LiveLog.see" = true)
    (mVNA : PySem.W.findIn K (.ref cA) "now" = some (some (.ref fMVN)))
    (mVNB : PySem.W.findIn K (.ref cB) "now" = some (some (.ref fMVN)))
    (miVN : PySem.W.isFn K (.ref fMVN) = true)
    (lMVN : K.lookup fMVN = some ⟨ocMVN, odMVN, .func (PySem.W.fnOf "now" "LiveLog.now" (fnArgs s_LiveLog_now) (fnBody s_LiveLog_now) (fnScope s_LiveLog_now) .none kVMVN dcMVN pmMVN anMVN cdMVN ctMVN), slMVN⟩)
    (cMVN : PySem.W.codeIn K cdMVN "LiveLog.now" = true)
    (mVUA : PySem.W.findIn K (.ref cA) "undo" = some (some (.ref fMVU)))
    (mVUB : PySem.W.findIn K (.ref cB) "undo" = some (some (.ref fMVU)))
    (miVU : PySem.W.isFn K (.ref fMVU) = true)
    (lMVU : K.lookup fMVU = some ⟨ocMVU, odMVU, .func (PySem.W.fnOf "undo" "LiveLog.undo" (fnArgs s_LiveLog_undo) (fnBody s_LiveLog_undo) (fnScope s_LiveLog_undo) .none kVMVU dcMVU pmMVU anMVU cdMVU ctMVU), slMVU⟩)
    (cMVU : PySem.W.codeIn K cdMVU "LiveLog.undo" = true)
    (mBAA : PySem.W.findIn K (.ref cA) "begun" = some (some (.ref fMBA)))
    (miBA : PySem.W.isFn K (.ref fMBA) = true)
    (lMBA : K.lookup fMBA = some ⟨ocMBA, odMBA, .func (PySem.W.fnOf "begun" "LiveLog.begun" (fnArgs s_LiveLog_begun) (fnBody s_LiveLog_begun) (fnScope s_LiveLog_begun) .none kVMBA dcMBA pmMBA anMBA cdMBA ctMBA), slMBA⟩)
    (cMBA : PySem.W.codeIn K cdMBA "LiveLog.begun" = true)
    (mBBB : PySem.W.findIn K (.ref cB) "begun" = some (some (.ref fMBB)))
    (miBB : PySem.W.isFn K (.ref fMBB) = true)
    (lMBB : K.lookup fMBB = some ⟨ocMBB, odMBB, .func (PySem.W.fnOf "begun" "LiveLosingLog.begun" (fnArgs s_LiveLosingLog_begun) (fnBody s_LiveLosingLog_begun) (fnScope s_LiveLosingLog_begun) .none kVMBB dcMBB pmMBB anMBB cdMBB ctMBB), slMBB⟩)
    (cMBB : PySem.W.codeIn K cdMBB "LiveLosingLog.begun" = true)
    (mGAA : PySem.W.findIn K (.ref cA) "fresh" = some (some (.ref fMGA)))
    (miGA : PySem.W.isFn K (.ref fMGA) = true)
    (lMGA : K.lookup fMGA = some ⟨ocMGA, odMGA, .func (PySem.W.fnOf "fresh" "LiveLog.fresh" (fnArgs s_LiveLog_fresh) (fnBody s_LiveLog_fresh) (fnScope s_LiveLog_fresh) .none kVMGA dcMGA pmMGA anMGA cdMGA ctMGA), slMGA⟩)
    (cMGA : PySem.W.codeIn K cdMGA "LiveLog.fresh" = true)
    (mGBB : PySem.W.findIn K (.ref cB) "fresh" = some (some (.ref fMGB)))
    (miGB : PySem.W.isFn K (.ref fMGB) = true)
    (lMGB : K.lookup fMGB = some ⟨ocMGB, odMGB, .func (PySem.W.fnOf "fresh" "LiveLosingLog.fresh" (fnArgs s_LiveLosingLog_fresh) (fnBody s_LiveLosingLog_fresh) (fnScope s_LiveLosingLog_fresh) .none kVMGB dcMGB pmMGB anMGB cdMGB ctMGB), slMGB⟩)
    (cMGB : PySem.W.codeIn K cdMGB "LiveLosingLog.fresh" = true)
    (mVTA : PySem.W.findIn K (.ref cA) "twin" = some (some (.ref fMVT)))
    (mVTB : PySem.W.findIn K (.ref cB) "twin" = some (some (.ref fMVT)))
    (miVT : PySem.W.isFn K (.ref fMVT) = true)
    (lMVT : K.lookup fMVT = some ⟨ocMVT, odMVT, .func (PySem.W.fnOf "twin" "LiveLog.twin" (fnArgs s_LiveLog_twin) (fnBody s_LiveLog_twin) (fnScope s_LiveLog_twin) .none kVMVT dcMVT pmMVT anMVT cdMVT ctMVT), slMVT⟩)
    (cMVT : PySem.W.codeIn K cdMVT "LiveLog.twin" = true)
    (mVLA : PySem.W.findIn K (.ref cA) "__len__" = some (some (.ref fMVL)))
    (mVLB : PySem.W.findIn K (.ref cB) "__len__" = some (some (.ref fMVL)))
    (miVL : PySem.W.isFn K (.ref fMVL) = true)
    (lMVL : K.lookup fMVL = some ⟨ocMVL, odMVL, .func (PySem.W.fnOf "__len__" "LiveLog.__len__" (fnArgs s_LiveLog___len__) (fnBody s_LiveLog___len__) (fnScope s_LiveLog___len__) .none kVMVL dcMVL pmMVL anMVL cdMVL ctMVL), slMVL⟩)
    (cMVL : PySem.W.codeIn K cdMVL "LiveLog.__len__" = true)
    (mVMA : PySem.W.findIn K (.ref cA) "mark" = some (some (.ref fMVM)))
    (mVMB : PySem.W.findIn K (.ref cB) "mark" = some (some (.ref fMVM)))
    (miVM : PySem.W.isFn K (.ref fMVM) = true)
    (lMVM : K.lookup fMVM = some ⟨ocMVM, odMVM, .func (PySem.W.fnOf "mark" "LiveLog.mark" (fnArgs s_LiveLog_mark) (fnBody s_LiveLog_mark) (fnScope s_LiveLog_mark) .none kVMVM dcMVM pmMVM anMVM cdMVM ctMVM), slMVM⟩)
    (cMVM : PySem.W.codeIn K cdMVM "LiveLog.mark" = true)
    (mVBA : PySem.W.findIn K (.ref cA) "undo_to" = some (some (.ref fMVB)))
    (mVBB : PySem.W.findIn K (.ref cB) "undo_to" = some (some (.ref fMVB)))
    (miVB : PySem.W.isFn K (.ref fMVB) = true)
    (lMVB : K.lookup fMVB = some ⟨ocMVB, odMVB, .func (PySem.W.fnOf "undo_to" "LiveLog.undo_to" (fnArgs s_LiveLog_undo_to) (fnBody s_LiveLog_undo_to) (fnScope s_LiveLog_undo_to) .none kVMVB dcMVB pmMVB anMVB cdMVB ctMVB), slMVB⟩)
    (cMVB : PySem.W.codeIn K cdMVB "LiveLog.undo_to" = true)
    (kFW : PySem.W.keepIn K (.ref fMFW) = true)
    (kFA : PySem.W.keepIn K (.ref fMFA) = true)
    (kFP : PySem.W.keepIn K (.ref fMFP) = true)
    (kFR : PySem.W.keepIn K (.ref fMFR) = true)
    (kFS : PySem.W.keepIn K (.ref fMFS) = true)
    (kFX : PySem.W.keepIn K (.ref fMFX) = true)
    (kW : PySem.W.keepIn K (.ref fMW) = true)
    (kVS : PySem.W.keepIn K (.ref fMVS) = true)
    (kVN : PySem.W.keepIn K (.ref fMVN) = true)
    (kVU : PySem.W.keepIn K (.ref fMVU) = true)
    (kBA : PySem.W.keepIn K (.ref fMBA) = true)
    (kBB : PySem.W.keepIn K (.ref fMBB) = true)
    (kGA : PySem.W.keepIn K (.ref fMGA) = true)
    (kGB : PySem.W.keepIn K (.ref fMGB) = true)
    (kVT : PySem.W.keepIn K (.ref fMVT) = true)
    (kVM : PySem.W.keepIn K (.ref fMVM) = true)
    (kVB : PySem.W.keepIn K (.ref fMVB) = true)
    (sfL : PySem.W.selfFirst K cL = true)
    (sfX : PySem.W.selfFirst K cX = true)
    (nstatesA : PySem.W.findIn K (.ref cA) "states" = some none)
    (nstatesB : PySem.W.findIn K (.ref cB) "states" = some none)
    (nmarkedA : PySem.W.findIn K (.ref cA) "marked" = some none)
    (nmarkedB : PySem.W.findIn K (.ref cB) "marked" = some none)
    (pgtL : PySem.W.plainGet K cL Str.empty = true)
    (pgtX : PySem.W.plainGet K cX Str.empty = true)
    (pgtF : PySem.W.plainGet K cF Str.empty = true)
    (pgtA : PySem.W.plainGet K cA Str.empty = true)
    (pgtB : PySem.W.plainGet K cB Str.empty = true)
    (hdL : PySem.W.hasDictIn K cL = true)
    (hdX : PySem.W.hasDictIn K cX = true)
    (hdF : PySem.W.hasDictIn K cF = true)
    (hdA : PySem.W.hasDictIn K cA = true)
    (hdB : PySem.W.hasDictIn K cB = true)
    (poL : PySem.W.plainOver K cL = true)
    (poX : PySem.W.plainOver K cX = true)
    (poF : PySem.W.plainOver K cF = true)
    (poA : PySem.W.plainOver K cA = true)
    (poB : PySem.W.plainOver K cB = true)
    (saL : PySem.W.findIn K (.ref cL) "__setattr__" = some (some (.builtin "object.__setattr__")))
    (saX : PySem.W.findIn K (.ref cX) "__setattr__" = some (some (.builtin "object.__setattr__")))
    (saF : PySem.W.findIn K (.ref cF) "__setattr__" = some (some (.builtin "object.__setattr__")))
    (saA : PySem.W.findIn K (.ref cA) "__setattr__" = some (some (.builtin "object.__setattr__")))
    (saB : PySem.W.findIn K (.ref cB) "__setattr__" = some (some (.builtin "object.__setattr__")))
    (mkL : PySem.W.makesIn K cL = true)
    (mkX : PySem.W.makesIn K cX = true)
    (mkF : PySem.W.makesIn K cF = true)
    (mkA : PySem.W.makesIn K cA = true)
    (mkB : PySem.W.makesIn K cB = true)
    (kcL : PySem.W.keepIn K (.ref cL) = true)
    (kcX : PySem.W.keepIn K (.ref cX) = true)
    (kcF : PySem.W.keepIn K (.ref cF) = true)
    (kcA : PySem.W.keepIn K (.ref cA) = true)
    (kcB : PySem.W.keepIn K (.ref cB) = true)
    (nheld_sizeL : PySem.W.findIn K (.ref cL) "held_size" = some none)
    (nheld_sizeX : PySem.W.findIn K (.ref cX) "held_size" = some none)
    (nheld_serversL : PySem.W.findIn K (.ref cL) "held_servers" = some none)
    (nheld_serversX : PySem.W.findIn K (.ref cX) "held_servers" = some none)
    (nheld_entriesL : PySem.W.findIn K (.ref cL) "held_entries" = some none)
    (nheld_entriesX : PySem.W.findIn K (.ref cX) "held_entries" = some none)
    (nnamesF : PySem.W.findIn K (.ref cF) "names" = some none)
    (nseen_entriesF : PySem.W.findIn K (.ref cF) "seen_entries" = some none)
    (nseen_blocksF : PySem.W.findIn K (.ref cF) "seen_blocks" = some none)
    (nholdersF : PySem.W.findIn K (.ref cF) "holders" = some none)
    (nownF : PySem.W.findIn K (.ref cF) "own" = some none)
    (ngreatestF : PySem.W.findIn K (.ref cF) "greatest" = some none)
    (kdL : PySem.W.findIn K (.ref cL) "KIND" = some (some (.str "steady" ts0)))
    (kdX : PySem.W.findIn K (.ref cX) "KIND" = some (some (.str "losing" ts1)))
    (kgL : PySem.W.specialIn K (.str "steady" ts0) "__get__" = some none)
    (kgX : PySem.W.specialIn K (.str "losing" ts1) "__get__" = some none)
    (ccL : PySem.W.findIn K (.ref cL) "__class__" = some (some (.builtin "object.__class__")))
    (ccX : PySem.W.findIn K (.ref cX) "__class__" = some (some (.builtin "object.__class__")))
    (ccA : PySem.W.findIn K (.ref cA) "__class__" = some (some (.builtin "object.__class__")))
    (ccB : PySem.W.findIn K (.ref cB) "__class__" = some (some (.builtin "object.__class__")))
    (moL : PySem.W.mroIn K cL (.type "object") = some true)
    (moX : PySem.W.mroIn K cX (.type "object") = some true)
    (moA : PySem.W.mroIn K cA (.type "object") = some true)
    (moB : PySem.W.mroIn K cB (.type "object") = some true)
    (og : PySem.W.specialIn K (.builtin "object.__class__") "__get__" = some (some (.builtin "getset_descriptor.__get__")))
    (ot : PySem.W.takesIn K (.builtin "object.__class__") = some true)
    (stL : PySem.W.subIn K (.ref cL) (.type "tuple") = some false)
    (stX : PySem.W.subIn K (.ref cX) (.type "tuple") = some false)
    (icL : PySem.W.isClsIn K cL = true)
    (icX : PySem.W.isClsIn K cX = true)
    (icA : PySem.W.isClsIn K cA = true)
    (icB : PySem.W.isClsIn K cB = true)
    (tyL : PySem.W.typeIn K (.ref cL) = some (.type "type"))
    (tyX : PySem.W.typeIn K (.ref cX) = some (.type "type"))
    (tyA : PySem.W.typeIn K (.ref cA) = some (.type "type"))
    (tyB : PySem.W.typeIn K (.ref cB) = some (.type "type"))
    (sXL : PySem.W.subIn K (.ref cX) (.ref cL) = some true)
    (sLX : PySem.W.subIn K (.ref cL) (.ref cX) = some false)
    (neXL : ((Value.ref cX == Value.ref cL) : Bool) = false)
    (neLX : ((Value.ref cL == Value.ref cX) : Bool) = false)
    (gBK : PySem.W.nsIn K mainGlobals "BookError" = some (some (.ref cBK)))
    (gNP : PySem.W.nsIn K mainGlobals "NotPossible" = some (some (.ref cNP)))
    (gUN : PySem.W.nsIn K mainGlobals "NothingToUndo" = some (some (.ref cUN)))
    (gIN : PySem.W.nsIn K mainGlobals "InvalidNumber" = some (some (.ref cIN)))
    (xi : PySem.W.findIn K (.ref cNP) "__init__" = some (some (.ref fMNP)))
    (lMNP : K.lookup fMNP = some ⟨ocMNP, odMNP, .func (PySem.W.fnOf "__init__" "NotPossible.__init__" (fnArgs s_NotPossible___init__) (fnBody s_NotPossible___init__) (fnScope s_NotPossible___init__) .none kVMNP dcMNP pmMNP anMNP cdMNP ctMNP), slMNP⟩)
    (cMNP : PySem.W.codeIn K cdMNP "NotPossible.__init__" = true)
    (xt : PySem.W.typeIn K (.ref fMNP) = some (.type "function"))
    (xl : K.lookup cNP = some (PySem.excClassObj nmT qT cNP NT bsT bmT true snT suT abT coT ddT k0T k1T k2T k3T k5T "ValueError.__new__"))
    (xr : PySem.HandSPX.refsVE bmT = true)
    (xs : PySem.W.findIn K (.ref cNP) "__setattr__" = some (some (.builtin "object.__setattr__")))
    (br : PySem.W.readsIn K cBK (.type "type") = true)
    (bg : PySem.W.specialIn K (.ref cBK) "__getattribute__" = some (some (.builtin "type.__getattribute__")))
    (bi : PySem.W.findCls K (.ref cBK) (.type "type") "__init__" = some (.val (.builtin "ValueError.__init__")))
    (xw : PySem.W.findIn K (.ref cNP) "obstacle" = some none)
    (xbNP : PySem.W.subIn K (.ref cNP) (.type "BaseException") = some true)
    (xyNP : PySem.W.typeIn K (.ref cNP) = some (.type "type"))
    (xkNP : PySem.W.keepIn K (.ref cNP) = true)
    (xgaNP : PySem.W.findIn K (.ref cNP) "__getattribute__" = some (some (.builtin "BaseException.__getattribute__")))
    (xggNP : PySem.W.findIn K (.ref cNP) "__getattr__" = some none)
    (xhdNP : PySem.W.hasDictIn K cNP = true)
    (xicNP : PySem.W.isClsIn K cNP = true)
    (xssNP : PySem.W.subIn K (.ref cNP) (.ref cNP) = some true)
    (xbUN : PySem.W.subIn K (.ref cUN) (.type "BaseException") = some true)
    (xyUN : PySem.W.typeIn K (.ref cUN) = some (.type "type"))
    (xkUN : PySem.W.keepIn K (.ref cUN) = true)
    (xgaUN : PySem.W.findIn K (.ref cUN) "__getattribute__" = some (some (.builtin "BaseException.__getattribute__")))
    (xggUN : PySem.W.findIn K (.ref cUN) "__getattr__" = some none)
    (xhdUN : PySem.W.hasDictIn K cUN = true)
    (xicUN : PySem.W.isClsIn K cUN = true)
    (xssUN : PySem.W.subIn K (.ref cUN) (.ref cUN) = some true)
    (xbIN : PySem.W.subIn K (.ref cIN) (.type "BaseException") = some true)
    (xyIN : PySem.W.typeIn K (.ref cIN) = some (.type "type"))
    (xkIN : PySem.W.keepIn K (.ref cIN) = true)
    (xgaIN : PySem.W.findIn K (.ref cIN) "__getattribute__" = some (some (.builtin "BaseException.__getattribute__")))
    (xggIN : PySem.W.findIn K (.ref cIN) "__getattr__" = some none)
    (xhdIN : PySem.W.hasDictIn K cIN = true)
    (xicIN : PySem.W.isClsIn K cIN = true)
    (xssIN : PySem.W.subIn K (.ref cIN) (.ref cIN) = some true)
    (exUN : PySem.W.excIn K cUN [.type "ValueError", .type "Exception", .type "BaseException", .type "object"] "ValueError.__new__" = true)
    (exIN : PySem.W.excIn K cIN [.type "ValueError", .type "Exception", .type "BaseException", .type "object"] "ValueError.__new__" = true)
    (g_GREATEST_SIZE : PySem.W.nsIn K mainGlobals "GREATEST_SIZE" = some (some (.int (10 ^ 30) tk0)))
    (g_MOST_SERVERS : PySem.W.nsIn K mainGlobals "MOST_SERVERS" = some (some (.int 12 tk1)))
    (g_MOST_LETTERS : PySem.W.nsIn K mainGlobals "MOST_LETTERS" = some (some (.int 8 tk2)))
    (g_MOST_ENTRIES : PySem.W.nsIn K mainGlobals "MOST_ENTRIES" = some (some (.int 200 tk3)))
    (g_LETTERS : PySem.W.nsIn K mainGlobals "LETTERS" = some (some (.str LETT ts4)))
    (g_LOSING : PySem.W.nsIn K mainGlobals "LOSING" = some (some (.str "losing" ts5)))
    (g_TWICE : PySem.W.nsIn K mainGlobals "TWICE" = some (some (.str "twice" ts6)))
    (g_SHARED : PySem.W.nsIn K mainGlobals "SHARED" = some (some (.str "shared" ts7)))
    (g_BACK : PySem.W.nsIn K mainGlobals "BACK" = some (some (.str "back" ts8)))
    (g_PUSHED : PySem.W.nsIn K mainGlobals "PUSHED" = some (some (.str "pushed" ts9)))
    (b_len : PySem.W.nsIn K mainGlobals "len" = some none)
    (b_isinstance : PySem.W.nsIn K mainGlobals "isinstance" = some none)
    (b_int : PySem.W.nsIn K mainGlobals "int" = some none)
    (b_bool : PySem.W.nsIn K mainGlobals "bool" = some none)
    (b_str : PySem.W.nsIn K mainGlobals "str" = some none)
    (b_list : PySem.W.nsIn K mainGlobals "list" = some none)
    (b_tuple : PySem.W.nsIn K mainGlobals "tuple" = some none)
    (b_all : PySem.W.nsIn K mainGlobals "all" = some none)
    (b_set : PySem.W.nsIn K mainGlobals "set" = some none)
    (b_max : PySem.W.nsIn K mainGlobals "max" = some none)
    (b_min : PySem.W.nsIn K mainGlobals "min" = some none)
    (b_abs : PySem.W.nsIn K mainGlobals "abs" = some none)
    (b_range : PySem.W.nsIn K mainGlobals "range" = some none)
    (b_repr : PySem.W.nsIn K mainGlobals "repr" = some none)
    (b_any : PySem.W.nsIn K mainGlobals "any" = some none)
    (b_enumerate : PySem.W.nsIn K mainGlobals "enumerate" = some none)
    (b_zip : PySem.W.nsIn K mainGlobals "zip" = some none)
    (b_sorted : PySem.W.nsIn K mainGlobals "sorted" = some none)
    : ∃ fd : FuncData, (∀ (s : Shared) (v : Value), BindsTo s fd ⟨[v], []⟩ [("script", v)]) ∧ ∀ base : Heap, K.In base → base.Ns mainGlobals mg → FnG P w K mg base 12 fa fd ["script"] (spLaw K) := by
  have e := hfa.symm.trans (PySem.W.mg_of X G a_law)
  obtain rfl : f_law = fa := by cases e; rfl
  have F_is_integer : C8.Fun K "is_integer" "is_integer" s_is_integer f_is_integer _ := ⟨_, _, _, _, _, _, _, _, _, _, rfl, l_is_integer, c_is_integer⟩
  have D_is_integer : Dx K mg "is_integer" s_is_integer ["thing"] := ⟨_, _, ⟨F_is_integer, PySem.W.mg_of X G a_is_integer, k_is_integer⟩, F_is_integer.binds rfl fun _ _ _ _ _ _ us hl => match us, hl with | [_], _ => rfl⟩
  have F_is_size : C8.Fun K "is_size" "is_size" s_is_size f_is_size _ := ⟨_, _, _, _, _, _, _, _, _, _, rfl, l_is_size, c_is_size⟩
  have D_is_size : Dx K mg "is_size" s_is_size ["thing"] := ⟨_, _, ⟨F_is_size, PySem.W.mg_of X G a_is_size, k_is_size⟩, F_is_size.binds rfl fun _ _ _ _ _ _ us hl => match us, hl with | [_], _ => rfl⟩
  have F_is_name : C8.Fun K "is_name" "is_name" s_is_name f_is_name _ := ⟨_, _, _, _, _, _, _, _, _, _, rfl, l_is_name, c_is_name⟩
  have D_is_name : Dx K mg "is_name" s_is_name ["thing"] := ⟨_, _, ⟨F_is_name, PySem.W.mg_of X G a_is_name, k_is_name⟩, F_is_name.binds rfl fun _ _ _ _ _ _ us hl => match us, hl with | [_], _ => rfl⟩
  have F_are_servers : C8.Fun K "are_servers" "are_servers" s_are_servers f_are_servers _ := ⟨_, _, _, _, _, _, _, _, _, _, rfl, l_are_servers, c_are_servers⟩
  have D_are_servers : Dx K mg "are_servers" s_are_servers ["thing"] := ⟨_, _, ⟨F_are_servers, PySem.W.mg_of X G a_are_servers, k_are_servers⟩, F_are_servers.binds rfl fun _ _ _ _ _ _ us hl => match us, hl with | [_], _ => rfl⟩
  have F_is_server : C8.Fun K "is_server" "is_server" s_is_server f_is_server _ := ⟨_, _, _, _, _, _, _, _, _, _, rfl, l_is_server, c_is_server⟩
  have D_is_server : Dx K mg "is_server" s_is_server ["servers", "thing"] := ⟨_, _, ⟨F_is_server, PySem.W.mg_of X G a_is_server, k_is_server⟩, F_is_server.binds rfl fun _ _ _ _ _ _ us hl => match us, hl with | [_, _], _ => rfl⟩
  have F_is_entry : C8.Fun K "is_entry" "is_entry" s_is_entry f_is_entry _ := ⟨_, _, _, _, _, _, _, _, _, _, rfl, l_is_entry, c_is_entry⟩
  have D_is_entry : Dx K mg "is_entry" s_is_entry ["servers", "thing"] := ⟨_, _, ⟨F_is_entry, PySem.W.mg_of X G a_is_entry, k_is_entry⟩, F_is_entry.binds rfl fun _ _ _ _ _ _ us hl => match us, hl with | [_, _], _ => rfl⟩
  have F_are_entries : C8.Fun K "are_entries" "are_entries" s_are_entries f_are_entries _ := ⟨_, _, _, _, _, _, _, _, _, _, rfl, l_are_entries, c_are_entries⟩
  have D_are_entries : Dx K mg "are_entries" s_are_entries ["servers", "thing"] := ⟨_, _, ⟨F_are_entries, PySem.W.mg_of X G a_are_entries, k_are_entries⟩, F_are_entries.binds rfl fun _ _ _ _ _ _ us hl => match us, hl with | [_, _], _ => rfl⟩
  have F_need_server : C8.Fun K "need_server" "need_server" s_need_server f_need_server _ := ⟨_, _, _, _, _, _, _, _, _, _, rfl, l_need_server, c_need_server⟩
  have D_need_server : Dx K mg "need_server" s_need_server ["servers", "thing"] := ⟨_, _, ⟨F_need_server, PySem.W.mg_of X G a_need_server, k_need_server⟩, F_need_server.binds rfl fun _ _ _ _ _ _ us hl => match us, hl with | [_, _], _ => rfl⟩
  have F_log_of : C8.Fun K "log_of" "log_of" s_log_of f_log_of _ := ⟨_, _, _, _, _, _, _, _, _, _, rfl, l_log_of, c_log_of⟩
  have D_log_of : Dx K mg "log_of" s_log_of ["kind", "size", "servers", "entries"] := ⟨_, _, ⟨F_log_of, PySem.W.mg_of X G a_log_of, k_log_of⟩, F_log_of.binds rfl fun _ _ _ _ _ _ us hl => match us, hl with | [_, _, _, _], _ => rfl⟩
  have F_facts_of : C8.Fun K "facts_of" "facts_of" s_facts_of f_facts_of _ := ⟨_, _, _, _, _, _, _, _, _, _, rfl, l_facts_of, c_facts_of⟩
  have D_facts_of : Dx K mg "facts_of" s_facts_of ["log"] := ⟨_, _, ⟨F_facts_of, PySem.W.mg_of X G a_facts_of, k_facts_of⟩, F_facts_of.binds rfl fun _ _ _ _ _ _ us hl => match us, hl with | [_], _ => rfl⟩
  have F_least_slot : C8.Fun K "least_slot" "least_slot" s_least_slot f_least_slot _ := ⟨_, _, _, _, _, _, _, _, _, _, rfl, l_least_slot, c_least_slot⟩
  have D_least_slot : Dx K mg "least_slot" s_least_slot ["windows", "start"] := ⟨_, _, ⟨F_least_slot, PySem.W.mg_of X G a_least_slot, k_least_slot⟩, F_least_slot.binds rfl fun _ _ _ _ _ _ us hl => match us, hl with | [_, _], _ => rfl⟩
  have F_least_slots : C8.Fun K "least_slots" "least_slots" s_least_slots f_least_slots _ := ⟨_, _, _, _, _, _, _, _, _, _, rfl, l_least_slots, c_least_slots⟩
  have D_least_slots : Dx K mg "least_slots" s_least_slots ["rows"] := ⟨_, _, ⟨F_least_slots, PySem.W.mg_of X G a_least_slots, k_least_slots⟩, F_least_slots.binds rfl fun _ _ _ _ _ _ us hl => match us, hl with | [_], _ => rfl⟩
  have F_pushes_of : C8.Fun K "pushes_of" "pushes_of" s_pushes_of f_pushes_of _ := ⟨_, _, _, _, _, _, _, _, _, _, rfl, l_pushes_of, c_pushes_of⟩
  have D_pushes_of : Dx K mg "pushes_of" s_pushes_of ["rows", "end"] := ⟨_, _, ⟨F_pushes_of, PySem.W.mg_of X G a_pushes_of, k_pushes_of⟩, F_pushes_of.binds rfl fun _ _ _ _ _ _ us hl => match us, hl with | [_, _], _ => rfl⟩
  have F_obstacle_in : C8.Fun K "obstacle_in" "obstacle_in" s_obstacle_in f_obstacle_in _ := ⟨_, _, _, _, _, _, _, _, _, _, rfl, l_obstacle_in, c_obstacle_in⟩
  have D_obstacle_in : Dx K mg "obstacle_in" s_obstacle_in ["facts"] := ⟨_, _, ⟨F_obstacle_in, PySem.W.mg_of X G a_obstacle_in, k_obstacle_in⟩, F_obstacle_in.binds rfl fun _ _ _ _ _ _ us hl => match us, hl with | [_], _ => rfl⟩
  have F_obstacle : C8.Fun K "obstacle" "obstacle" s_obstacle f_obstacle _ := ⟨_, _, _, _, _, _, _, _, _, _, rfl, l_obstacle, c_obstacle⟩
  have D_obstacle : Dx K mg "obstacle" s_obstacle ["log"] := ⟨_, _, ⟨F_obstacle, PySem.W.mg_of X G a_obstacle, k_obstacle⟩, F_obstacle.binds rfl fun _ _ _ _ _ _ us hl => match us, hl with | [_], _ => rfl⟩
  have F__law_urn : C8.Fun K "_law_urn" "_law_urn" s__law_urn f__law_urn _ := ⟨_, _, _, _, _, _, _, _, _, _, rfl, l__law_urn, c__law_urn⟩
  have D__law_urn : Dx K mg "_law_urn" s__law_urn ["script"] := ⟨_, _, ⟨F__law_urn, PySem.W.mg_of X G a__law_urn, k__law_urn⟩, F__law_urn.binds rfl fun _ _ _ _ _ _ us hl => match us, hl with | [_], _ => rfl⟩
  have F__law_lot : C8.Fun K "_law_lot" "_law_lot" s__law_lot f__law_lot _ := ⟨_, _, _, _, _, _, _, _, _, _, rfl, l__law_lot, c__law_lot⟩
  have D__law_lot : Dx K mg "_law_lot" s__law_lot ["urn", "many"] := ⟨_, _, ⟨F__law_lot, PySem.W.mg_of X G a__law_lot, k__law_lot⟩, F__law_lot.binds rfl fun _ _ _ _ _ _ us hl => match us, hl with | [_, _], _ => rfl⟩
  have F__law_live : C8.Fun K "_law_live" "_law_live" s__law_live f__law_live _ := ⟨_, _, _, _, _, _, _, _, _, _, rfl, l__law_live, c__law_live⟩
  have D__law_live : Dx K mg "_law_live" s__law_live ["wide", "names", "is_losing"] := ⟨_, _, ⟨F__law_live, PySem.W.mg_of X G a__law_live, k__law_live⟩, F__law_live.binds rfl fun _ _ _ _ _ _ us hl => match us, hl with | [_, _, _], _ => rfl⟩
  have F__law_log : C8.Fun K "_law_log" "_law_log" s__law_log f__law_log _ := ⟨_, _, _, _, _, _, _, _, _, _, rfl, l__law_log, c__law_log⟩
  have D__law_log : Dx K mg "_law_log" s__law_log ["wide", "names", "rows", "is_losing"] := ⟨_, _, ⟨F__law_log, PySem.W.mg_of X G a__law_log, k__law_log⟩, F__law_log.binds rfl fun _ _ _ _ _ _ us hl => match us, hl with | [_, _, _, _], _ => rfl⟩
  have F__law_same : C8.Fun K "_law_same" "_law_same" s__law_same f__law_same _ := ⟨_, _, _, _, _, _, _, _, _, _, rfl, l__law_same, c__law_same⟩
  have D__law_same : Dx K mg "_law_same" s__law_same ["live", "wide", "names", "rows", "is_losing"] := ⟨_, _, ⟨F__law_same, PySem.W.mg_of X G a__law_same, k__law_same⟩, F__law_same.binds rfl fun _ _ _ _ _ _ us hl => match us, hl with | [_, _, _, _, _], _ => rfl⟩
  have F__law_tried : C8.Fun K "_law_tried" "_law_tried" s__law_tried f__law_tried _ := ⟨_, _, _, _, _, _, _, _, _, _, rfl, l__law_tried, c__law_tried⟩
  have D__law_tried : Dx K mg "_law_tried" s__law_tried ["live", "name", "number_here", "by_name"] := ⟨_, _, ⟨F__law_tried, PySem.W.mg_of X G a__law_tried, k__law_tried⟩, F__law_tried.binds rfl fun _ _ _ _ _ _ us hl => match us, hl with | [_, _, _, _], _ => rfl⟩
  have F_is_index : C8.Fun K "is_index" "is_index" s_is_index f_is_index _ := ⟨_, _, _, _, _, _, _, _, _, _, rfl, l_is_index, c_is_index⟩
  have D_is_index : Dx K mg "is_index" s_is_index ["thing", "limit"] := ⟨_, _, ⟨F_is_index, PySem.W.mg_of X G a_is_index, k_is_index⟩, F_is_index.binds rfl fun _ _ _ _ _ _ us hl => match us, hl with | [_, _], _ => rfl⟩
  have F_shows_two : C8.Fun K "shows_two" "shows_two" s_shows_two f_shows_two _ := ⟨_, _, _, _, _, _, _, _, _, _, rfl, l_shows_two, c_shows_two⟩
  have D_shows_two : Dx K mg "shows_two" s_shows_two ["facts", "kind", "early", "late"] := ⟨_, _, ⟨F_shows_two, PySem.W.mg_of X G a_shows_two, k_shows_two⟩, F_shows_two.binds rfl fun _ _ _ _ _ _ us hl => match us, hl with | [_, _, _, _], _ => rfl⟩
  have F_are_steps : C8.Fun K "are_steps" "are_steps" s_are_steps f_are_steps _ := ⟨_, _, _, _, _, _, _, _, _, _, rfl, l_are_steps, c_are_steps⟩
  have D_are_steps : Dx K mg "are_steps" s_are_steps ["facts", "thing"] := ⟨_, _, ⟨F_are_steps, PySem.W.mg_of X G a_are_steps, k_are_steps⟩, F_are_steps.binds rfl fun _ _ _ _ _ _ us hl => match us, hl with | [_, _], _ => rfl⟩
  have F_shows_steps : C8.Fun K "shows_steps" "shows_steps" s_shows_steps f_shows_steps _ := ⟨_, _, _, _, _, _, _, _, _, _, rfl, l_shows_steps, c_shows_steps⟩
  have D_shows_steps : Dx K mg "shows_steps" s_shows_steps ["facts", "thing"] := ⟨_, _, ⟨F_shows_steps, PySem.W.mg_of X G a_shows_steps, k_shows_steps⟩, F_shows_steps.binds rfl fun _ _ _ _ _ _ us hl => match us, hl with | [_, _], _ => rfl⟩
  have F_shows_obstacle : C8.Fun K "shows_obstacle" "shows_obstacle" s_shows_obstacle f_shows_obstacle _ := ⟨_, _, _, _, _, _, _, _, _, _, rfl, l_shows_obstacle, c_shows_obstacle⟩
  have D_shows_obstacle : Dx K mg "shows_obstacle" s_shows_obstacle ["log", "thing"] := ⟨_, _, ⟨F_shows_obstacle, PySem.W.mg_of X G a_shows_obstacle, k_shows_obstacle⟩, F_shows_obstacle.binds rfl fun _ _ _ _ _ _ us hl => match us, hl with | [_, _], _ => rfl⟩
  have F__law_clash : C8.Fun K "_law_clash" "_law_clash" s__law_clash f__law_clash _ := ⟨_, _, _, _, _, _, _, _, _, _, rfl, l__law_clash, c__law_clash⟩
  have D__law_clash : Dx K mg "_law_clash" s__law_clash ["wide", "rows"] := ⟨_, _, ⟨F__law_clash, PySem.W.mg_of X G a__law_clash, k__law_clash⟩, F__law_clash.binds rfl fun _ _ _ _ _ _ us hl => match us, hl with | [_, _], _ => rfl⟩
  have F__law_is_fault : C8.Fun K "_law_is_fault" "_law_is_fault" s__law_is_fault f__law_is_fault _ := ⟨_, _, _, _, _, _, _, _, _, _, rfl, l__law_is_fault, c__law_is_fault⟩
  have D__law_is_fault : Dx K mg "_law_is_fault" s__law_is_fault ["wide", "rows", "told"] := ⟨_, _, ⟨F__law_is_fault, PySem.W.mg_of X G a__law_is_fault, k__law_is_fault⟩, F__law_is_fault.binds rfl fun _ _ _ _ _ _ us hl => match us, hl with | [_, _, _], _ => rfl⟩
  have F__law_refused_right : C8.Fun K "_law_refused_right" "_law_refused_right" s__law_refused_right f__law_refused_right _ := ⟨_, _, _, _, _, _, _, _, _, _, rfl, l__law_refused_right, c__law_refused_right⟩
  have D__law_refused_right : Dx K mg "_law_refused_right" s__law_refused_right ["urn", "live", "case", "name", "value", "is_pushed"] := ⟨_, _, ⟨F__law_refused_right, PySem.W.mg_of X G a__law_refused_right, k__law_refused_right⟩, F__law_refused_right.binds rfl fun _ _ _ _ _ _ us hl => match us, hl with | [_, _, _, _, _, _], _ => rfl⟩
  have F__law_ends_right : C8.Fun K "_law_ends_right" "_law_ends_right" s__law_ends_right f__law_ends_right _ := ⟨_, _, _, _, _, _, _, _, _, _, rfl, l__law_ends_right, c__law_ends_right⟩
  have D__law_ends_right : Dx K mg "_law_ends_right" s__law_ends_right ["urn", "live", "case"] := ⟨_, _, ⟨F__law_ends_right, PySem.W.mg_of X G a__law_ends_right, k__law_ends_right⟩, F__law_ends_right.binds rfl fun _ _ _ _ _ _ us hl => match us, hl with | [_, _, _], _ => rfl⟩
  have F_law : C8.Fun K "law" "law" s_law _ _ := ⟨_, _, _, _, _, _, _, _, _, _, rfl, l_law, c_law⟩
  have FI : C8.Fun K "__init__" "Log.__init__" s_Log___init__ fMI _ := ⟨_, _, _, _, _, _, _, _, _, _, rfl, lMI, cMI⟩
  have MI : Mx K "__init__" "Log.__init__" s_Log___init__ ["self", "size", "servers", "entries"] fMI _ := ⟨FI, FI.binds rfl fun _ _ _ _ _ _ us hl => match us, hl with | [_, _, _, _], _ => rfl⟩
  have FZ : C8.Fun K "size" "Log.size" s_Log_size fMZ _ := ⟨_, _, _, _, _, _, _, _, _, _, rfl, lMZ, cMZ⟩
  have MZ : Mx K "size" "Log.size" s_Log_size ["self"] fMZ _ := ⟨FZ, FZ.binds rfl fun _ _ _ _ _ _ us hl => match us, hl with | [_], _ => rfl⟩
  have FV : C8.Fun K "servers" "Log.servers" s_Log_servers fMV _ := ⟨_, _, _, _, _, _, _, _, _, _, rfl, lMV, cMV⟩
  have MV : Mx K "servers" "Log.servers" s_Log_servers ["self"] fMV _ := ⟨FV, FV.binds rfl fun _ _ _ _ _ _ us hl => match us, hl with | [_], _ => rfl⟩
  have FE : C8.Fun K "entries" "Log.entries" s_Log_entries fME _ := ⟨_, _, _, _, _, _, _, _, _, _, rfl, lME, cME⟩
  have ME : Mx K "entries" "Log.entries" s_Log_entries ["self"] fME _ := ⟨FE, FE.binds rfl fun _ _ _ _ _ _ us hl => match us, hl with | [_], _ => rfl⟩
  have FN : C8.Fun K "__len__" "Log.__len__" s_Log___len__ fMN _ := ⟨_, _, _, _, _, _, _, _, _, _, rfl, lMN, cMN⟩
  have MN : Mx K "__len__" "Log.__len__" s_Log___len__ ["self"] fMN _ := ⟨FN, FN.binds rfl fun _ _ _ _ _ _ us hl => match us, hl with | [_], _ => rfl⟩
  have FQ : C8.Fun K "__eq__" "Log.__eq__" s_Log___eq__ fMQ _ := ⟨_, _, _, _, _, _, _, _, _, _, rfl, lMQ, cMQ⟩
  have MQ : Mx K "__eq__" "Log.__eq__" s_Log___eq__ ["self", "other"] fMQ _ := ⟨FQ, FQ.binds rfl fun _ _ _ _ _ _ us hl => match us, hl with | [_, _], _ => rfl⟩
  have FA : C8.Fun K "__add__" "Log.__add__" s_Log___add__ fMA _ := ⟨_, _, _, _, _, _, _, _, _, _, rfl, lMA, cMA⟩
  have MA : Mx K "__add__" "Log.__add__" s_Log___add__ ["self", "other"] fMA _ := ⟨FA, FA.binds rfl fun _ _ _ _ _ _ us hl => match us, hl with | [_, _], _ => rfl⟩
  have FW : C8.Fun K "with_entry" "Log.with_entry" s_Log_with_entry fMW _ := ⟨_, _, _, _, _, _, _, _, _, _, rfl, lMW, cMW⟩
  have MW : Mx K "with_entry" "Log.with_entry" s_Log_with_entry ["self", "server", "number"] fMW _ := ⟨FW, FW.binds rfl fun _ _ _ _ _ _ us hl => match us, hl with | [_, _, _], _ => rfl⟩
  have FFI : C8.Fun K "__init__" "Facts.__init__" s_Facts___init__ fMFI _ := ⟨_, _, _, _, _, _, _, _, _, _, rfl, lMFI, cMFI⟩
  have MFI : Mx K "__init__" "Facts.__init__" s_Facts___init__ ["self", "size", "servers", "entries"] fMFI _ := ⟨FFI, FFI.binds rfl fun _ _ _ _ _ _ us hl => match us, hl with | [_, _, _, _], _ => rfl⟩
  have FFW : C8.Fun K "window_of" "Facts.window_of" s_Facts_window_of fMFW _ := ⟨_, _, _, _, _, _, _, _, _, _, rfl, lMFW, cMFW⟩
  have MFW : Mx K "window_of" "Facts.window_of" s_Facts_window_of ["self", "server", "block"] fMFW _ := ⟨FFW, FFW.binds rfl fun _ _ _ _ _ _ us hl => match us, hl with | [_, _, _], _ => rfl⟩
  have FFA : C8.Fun K "window_at" "Facts.window_at" s_Facts_window_at fMFA _ := ⟨_, _, _, _, _, _, _, _, _, _, rfl, lMFA, cMFA⟩
  have MFA : Mx K "window_at" "Facts.window_at" s_Facts_window_at ["self", "server", "place"] fMFA _ := ⟨FFA, FFA.binds rfl fun _ _ _ _ _ _ us hl => match us, hl with | [_, _, _], _ => rfl⟩
  have FFP : C8.Fun K "plain_fault" "Facts.plain_fault" s_Facts_plain_fault fMFP _ := ⟨_, _, _, _, _, _, _, _, _, _, rfl, lMFP, cMFP⟩
  have MFP : Mx K "plain_fault" "Facts.plain_fault" s_Facts_plain_fault ["self"] fMFP _ := ⟨FFP, FFP.binds rfl fun _ _ _ _ _ _ us hl => match us, hl with | [_], _ => rfl⟩
  have FFR : C8.Fun K "rows" "Facts.rows" s_Facts_rows fMFR _ := ⟨_, _, _, _, _, _, _, _, _, _, rfl, lMFR, cMFR⟩
  have MFR : Mx K "rows" "Facts.rows" s_Facts_rows ["self"] fMFR _ := ⟨FFR, FFR.binds rfl fun _ _ _ _ _ _ us hl => match us, hl with | [_], _ => rfl⟩
  have FFS : C8.Fun K "last_slot" "Facts.last_slot" s_Facts_last_slot fMFS _ := ⟨_, _, _, _, _, _, _, _, _, _, rfl, lMFS, cMFS⟩
  have MFS : Mx K "last_slot" "Facts.last_slot" s_Facts_last_slot ["self"] fMFS _ := ⟨FFS, FFS.binds rfl fun _ _ _ _ _ _ us hl => match us, hl with | [_], _ => rfl⟩
  have FFX : C8.Fun K "windows" "Facts.windows" s_Facts_windows fMFX _ := ⟨_, _, _, _, _, _, _, _, _, _, rfl, lMFX, cMFX⟩
  have MFX : Mx K "windows" "Facts.windows" s_Facts_windows ["self", "block"] fMFX _ := ⟨FFX, FFX.binds rfl fun _ _ _ _ _ _ us hl => match us, hl with | [_, _], _ => rfl⟩
  have FVI : C8.Fun K "__init__" "LiveLog.__init__" s_LiveLog___init__ fMVI _ := ⟨_, _, _, _, _, _, _, _, _, _, rfl, lMVI, cMVI⟩
  have MVI : Mx K "__init__" "LiveLog.__init__" s_LiveLog___init__ ["self", "size", "servers"] fMVI _ := ⟨FVI, FVI.binds rfl fun _ _ _ _ _ _ us hl => match us, hl with | [_, _, _], _ => rfl⟩
  have FVS : C8.Fun K "see" "LiveLog.see" s_LiveLog_see fMVS _ := ⟨_, _, _, _, _, _, _, _, _, _, rfl, lMVS, cMVS⟩
  have MVS : Mx K "see" "LiveLog.see" s_LiveLog_see ["self", "server", "number"] fMVS _ := ⟨FVS, FVS.binds rfl fun _ _ _ _ _ _ us hl => match us, hl with | [_, _, _], _ => rfl⟩
  have FVN : C8.Fun K "now" "LiveLog.now" s_LiveLog_now fMVN _ := ⟨_, _, _, _, _, _, _, _, _, _, rfl, lMVN, cMVN⟩
  have MVN : Mx K "now" "LiveLog.now" s_LiveLog_now ["self"] fMVN _ := ⟨FVN, FVN.binds rfl fun _ _ _ _ _ _ us hl => match us, hl with | [_], _ => rfl⟩
  have FVU : C8.Fun K "undo" "LiveLog.undo" s_LiveLog_undo fMVU _ := ⟨_, _, _, _, _, _, _, _, _, _, rfl, lMVU, cMVU⟩
  have MVU : Mx K "undo" "LiveLog.undo" s_LiveLog_undo ["self"] fMVU _ := ⟨FVU, FVU.binds rfl fun _ _ _ _ _ _ us hl => match us, hl with | [_], _ => rfl⟩
  have FBA : C8.Fun K "begun" "LiveLog.begun" s_LiveLog_begun fMBA _ := ⟨_, _, _, _, _, _, _, _, _, _, rfl, lMBA, cMBA⟩
  have MBA : Mx K "begun" "LiveLog.begun" s_LiveLog_begun ["self", "size", "servers"] fMBA _ := ⟨FBA, FBA.binds rfl fun _ _ _ _ _ _ us hl => match us, hl with | [_, _, _], _ => rfl⟩
  have FBB : C8.Fun K "begun" "LiveLosingLog.begun" s_LiveLosingLog_begun fMBB _ := ⟨_, _, _, _, _, _, _, _, _, _, rfl, lMBB, cMBB⟩
  have MBB : Mx K "begun" "LiveLosingLog.begun" s_LiveLosingLog_begun ["self", "size", "servers"] fMBB _ := ⟨FBB, FBB.binds rfl fun _ _ _ _ _ _ us hl => match us, hl with | [_, _, _], _ => rfl⟩
  have FGA : C8.Fun K "fresh" "LiveLog.fresh" s_LiveLog_fresh fMGA _ := ⟨_, _, _, _, _, _, _, _, _, _, rfl, lMGA, cMGA⟩
  have MGA : Mx K "fresh" "LiveLog.fresh" s_LiveLog_fresh ["self"] fMGA _ := ⟨FGA, FGA.binds rfl fun _ _ _ _ _ _ us hl => match us, hl with | [_], _ => rfl⟩
  have FGB : C8.Fun K "fresh" "LiveLosingLog.fresh" s_LiveLosingLog_fresh fMGB _ := ⟨_, _, _, _, _, _, _, _, _, _, rfl, lMGB, cMGB⟩
  have MGB : Mx K "fresh" "LiveLosingLog.fresh" s_LiveLosingLog_fresh ["self"] fMGB _ := ⟨FGB, FGB.binds rfl fun _ _ _ _ _ _ us hl => match us, hl with | [_], _ => rfl⟩
  have FVT : C8.Fun K "twin" "LiveLog.twin" s_LiveLog_twin fMVT _ := ⟨_, _, _, _, _, _, _, _, _, _, rfl, lMVT, cMVT⟩
  have MVT : Mx K "twin" "LiveLog.twin" s_LiveLog_twin ["self"] fMVT _ := ⟨FVT, FVT.binds rfl fun _ _ _ _ _ _ us hl => match us, hl with | [_], _ => rfl⟩
  have FVL : C8.Fun K "__len__" "LiveLog.__len__" s_LiveLog___len__ fMVL _ := ⟨_, _, _, _, _, _, _, _, _, _, rfl, lMVL, cMVL⟩
  have MVL : Mx K "__len__" "LiveLog.__len__" s_LiveLog___len__ ["self"] fMVL _ := ⟨FVL, FVL.binds rfl fun _ _ _ _ _ _ us hl => match us, hl with | [_], _ => rfl⟩
  have FVM : C8.Fun K "mark" "LiveLog.mark" s_LiveLog_mark fMVM _ := ⟨_, _, _, _, _, _, _, _, _, _, rfl, lMVM, cMVM⟩
  have MVM : Mx K "mark" "LiveLog.mark" s_LiveLog_mark ["self"] fMVM _ := ⟨FVM, FVM.binds rfl fun _ _ _ _ _ _ us hl => match us, hl with | [_], _ => rfl⟩
  have FVB : C8.Fun K "undo_to" "LiveLog.undo_to" s_LiveLog_undo_to fMVB _ := ⟨_, _, _, _, _, _, _, _, _, _, rfl, lMVB, cMVB⟩
  have MVB : Mx K "undo_to" "LiveLog.undo_to" s_LiveLog_undo_to ["self", "index"] fMVB _ := ⟨FVB, FVB.binds rfl fun _ _ _ _ _ _ us hl => match us, hl with | [_, _], _ => rfl⟩
  have CL : LogC K cL "steady" := ⟨⟨pgtL, hdL, poL, saL⟩, nheld_sizeL, nheld_serversL, nheld_entriesL, ⟨_, kdL, ⟨_, rfl⟩, kgL, by decide +kernel⟩, fun H p dx fs hp => .base (.ins hp ⟨pgtL, hdL, poL, saL⟩ ccL og ot moL), kit_tyR stL (by decide +kernel)⟩
  have CX : LogC K cX "losing" := ⟨⟨pgtX, hdX, poX, saX⟩, nheld_sizeX, nheld_serversX, nheld_entriesX, ⟨_, kdX, ⟨_, rfl⟩, kgX, by decide +kernel⟩, fun H p dx fs hp => .base (.ins hp ⟨pgtX, hdX, poX, saX⟩ ccX og ot moX), kit_tyR stX (by decide +kernel)⟩
  have kLL : PySem.W.kitOne K (.ref cL) (.ref cL) = some true := kit_same
  have kXX : PySem.W.kitOne K (.ref cX) (.ref cX) = some true := kit_same
  have kXL : PySem.W.kitOne K (.ref cX) (.ref cL) = some true := kit_ref icL tyL sXL neXL
  have kLX : PySem.W.kitOne K (.ref cL) (.ref cX) = some false := kit_ref icX tyX sLX neLX
  have T : Tx K mg cL cX := {
    n_len := PySem.W.mg_none_of X G b_len
    n_isinstance := PySem.W.mg_none_of X G b_isinstance
    n_int := PySem.W.mg_none_of X G b_int
    n_bool := PySem.W.mg_none_of X G b_bool
    n_str := PySem.W.mg_none_of X G b_str
    n_list := PySem.W.mg_none_of X G b_list
    n_tuple := PySem.W.mg_none_of X G b_tuple
    n_all := PySem.W.mg_none_of X G b_all
    n_set := PySem.W.mg_none_of X G b_set
    n_max := PySem.W.mg_none_of X G b_max
    n_min := PySem.W.mg_none_of X G b_min
    n_abs := PySem.W.mg_none_of X G b_abs
    n_range := PySem.W.mg_none_of X G b_range
    n_repr := PySem.W.mg_none_of X G b_repr
    g_GREATEST_SIZE := ⟨_, PySem.W.mg_of X G g_GREATEST_SIZE, ⟨_, rfl⟩⟩
    g_MOST_SERVERS := ⟨_, PySem.W.mg_of X G g_MOST_SERVERS, ⟨_, rfl⟩⟩
    g_MOST_LETTERS := ⟨_, PySem.W.mg_of X G g_MOST_LETTERS, ⟨_, rfl⟩⟩
    g_MOST_ENTRIES := ⟨_, PySem.W.mg_of X G g_MOST_ENTRIES, ⟨_, rfl⟩⟩
    g_LETTERS := ⟨_, PySem.W.mg_of X G g_LETTERS, ⟨_, rfl⟩⟩
    g_LOSING := ⟨_, PySem.W.mg_of X G g_LOSING, ⟨_, rfl⟩⟩
    g_Log := ⟨_, PySem.W.mg_of X G gL, rfl⟩
    g_LosingLog := ⟨_, PySem.W.mg_of X G gX, rfl⟩
    cl1 := CL
    cl2 := CX
    ll := kLL
    xl := kXL
    lx := kLX
    xx := kXX }
  have Ms' : Ms K ⟨fMI, fMZ, fMV, fME, fMN, fMQ, fMA, fMW, (PySem.W.fnOf "__init__" "Log.__init__" (fnArgs s_Log___init__) (fnBody s_Log___init__) (fnScope s_Log___init__) .none kVMI dcMI pmMI anMI cdMI ctMI), (PySem.W.fnOf "size" "Log.size" (fnArgs s_Log_size) (fnBody s_Log_size) (fnScope s_Log_size) .none kVMZ dcMZ pmMZ anMZ cdMZ ctMZ), (PySem.W.fnOf "servers" "Log.servers" (fnArgs s_Log_servers) (fnBody s_Log_servers) (fnScope s_Log_servers) .none kVMV dcMV pmMV anMV cdMV ctMV), (PySem.W.fnOf "entries" "Log.entries" (fnArgs s_Log_entries) (fnBody s_Log_entries) (fnScope s_Log_entries) .none kVME dcME pmME anME cdME ctME), (PySem.W.fnOf "__len__" "Log.__len__" (fnArgs s_Log___len__) (fnBody s_Log___len__) (fnScope s_Log___len__) .none kVMN dcMN pmMN anMN cdMN ctMN), (PySem.W.fnOf "__eq__" "Log.__eq__" (fnArgs s_Log___eq__) (fnBody s_Log___eq__) (fnScope s_Log___eq__) .none kVMQ dcMQ pmMQ anMQ cdMQ ctMQ), (PySem.W.fnOf "__add__" "Log.__add__" (fnArgs s_Log___add__) (fnBody s_Log___add__) (fnScope s_Log___add__) .none kVMA dcMA pmMA anMA cdMA ctMA), (PySem.W.fnOf "with_entry" "Log.with_entry" (fnArgs s_Log_with_entry) (fnBody s_Log_with_entry) (fnScope s_Log_with_entry) .none kVMW dcMW pmMW anMW cdMW ctMW)⟩ := ⟨MI, MZ, MV, ME, MN, MQ, MA, MW⟩
  have ML' : LogM K cL cX cL false ⟨fMI, fMZ, fMV, fME, fMN, fMQ, fMA, fMW, (PySem.W.fnOf "__init__" "Log.__init__" (fnArgs s_Log___init__) (fnBody s_Log___init__) (fnScope s_Log___init__) .none kVMI dcMI pmMI anMI cdMI ctMI), (PySem.W.fnOf "size" "Log.size" (fnArgs s_Log_size) (fnBody s_Log_size) (fnScope s_Log_size) .none kVMZ dcMZ pmMZ anMZ cdMZ ctMZ), (PySem.W.fnOf "servers" "Log.servers" (fnArgs s_Log_servers) (fnBody s_Log_servers) (fnScope s_Log_servers) .none kVMV dcMV pmMV anMV cdMV ctMV), (PySem.W.fnOf "entries" "Log.entries" (fnArgs s_Log_entries) (fnBody s_Log_entries) (fnScope s_Log_entries) .none kVME dcME pmME anME cdME ctME), (PySem.W.fnOf "__len__" "Log.__len__" (fnArgs s_Log___len__) (fnBody s_Log___len__) (fnScope s_Log___len__) .none kVMN dcMN pmMN anMN cdMN ctMN), (PySem.W.fnOf "__eq__" "Log.__eq__" (fnArgs s_Log___eq__) (fnBody s_Log___eq__) (fnScope s_Log___eq__) .none kVMQ dcMQ pmMQ anMQ cdMQ ctMQ), (PySem.W.fnOf "__add__" "Log.__add__" (fnArgs s_Log___add__) (fnBody s_Log___add__) (fnScope s_Log___add__) .none kVMA dcMA pmMA anMA cdMA ctMA), (PySem.W.fnOf "with_entry" "Log.with_entry" (fnArgs s_Log_with_entry) (fnBody s_Log_with_entry) (fnScope s_Log_with_entry) .none kVMW dcMW pmMW anMW cdMW ctMW)⟩ := { (show LogC K cL (kdB false) from CL) with
    mkk := ⟨mkL, mLI, miI, kcL⟩
    pZ := ⟨_, pZL, pgZ, ptZ, _, prZ⟩
    pV := ⟨_, pVL, pgV, ptV, _, prV⟩
    pE := ⟨_, pEL, pgE, ptE, _, prE⟩
    mW := ⟨mLW, miW, kW⟩
    sQ := mLQ
    iQ := miQ
    sN := mLN
    iN := miN
    sA := mLA
    iA := miA
    sf := sfL
    kl := kLL
    kx := kLX }
  have MX' : LogM K cL cX cX true ⟨fMI, fMZ, fMV, fME, fMN, fMQ, fMA, fMW, (PySem.W.fnOf "__init__" "Log.__init__" (fnArgs s_Log___init__) (fnBody s_Log___init__) (fnScope s_Log___init__) .none kVMI dcMI pmMI anMI cdMI ctMI), (PySem.W.fnOf "size" "Log.size" (fnArgs s_Log_size) (fnBody s_Log_size) (fnScope s_Log_size) .none kVMZ dcMZ pmMZ anMZ cdMZ ctMZ), (PySem.W.fnOf "servers" "Log.servers" (fnArgs s_Log_servers) (fnBody s_Log_servers) (fnScope s_Log_servers) .none kVMV dcMV pmMV anMV cdMV ctMV), (PySem.W.fnOf "entries" "Log.entries" (fnArgs s_Log_entries) (fnBody s_Log_entries) (fnScope s_Log_entries) .none kVME dcME pmME anME cdME ctME), (PySem.W.fnOf "__len__" "Log.__len__" (fnArgs s_Log___len__) (fnBody s_Log___len__) (fnScope s_Log___len__) .none kVMN dcMN pmMN anMN cdMN ctMN), (PySem.W.fnOf "__eq__" "Log.__eq__" (fnArgs s_Log___eq__) (fnBody s_Log___eq__) (fnScope s_Log___eq__) .none kVMQ dcMQ pmMQ anMQ cdMQ ctMQ), (PySem.W.fnOf "__add__" "Log.__add__" (fnArgs s_Log___add__) (fnBody s_Log___add__) (fnScope s_Log___add__) .none kVMA dcMA pmMA anMA cdMA ctMA), (PySem.W.fnOf "with_entry" "Log.with_entry" (fnArgs s_Log_with_entry) (fnBody s_Log_with_entry) (fnScope s_Log_with_entry) .none kVMW dcMW pmMW anMW cdMW ctMW)⟩ := { (show LogC K cX (kdB true) from CX) with
    mkk := ⟨mkX, mXI, miI, kcX⟩
    pZ := ⟨_, pZX, pgZ, ptZ, _, prZ⟩
    pV := ⟨_, pVX, pgV, ptV, _, prV⟩
    pE := ⟨_, pEX, pgE, ptE, _, prE⟩
    mW := ⟨mXW, miW, kW⟩
    sQ := mXQ
    iQ := miQ
    sN := mXN
    iN := miN
    sA := mXA
    iA := miA
    sf := sfX
    kl := kXL
    kx := kXX }
  have LF : FactM K cF ⟨fMFI, fMFW, fMFA, fMFP, fMFR, fMFS, (PySem.W.fnOf "__init__" "Facts.__init__" (fnArgs s_Facts___init__) (fnBody s_Facts___init__) (fnScope s_Facts___init__) .none kVMFI dcMFI pmMFI anMFI cdMFI ctMFI), (PySem.W.fnOf "window_of" "Facts.window_of" (fnArgs s_Facts_window_of) (fnBody s_Facts_window_of) (fnScope s_Facts_window_of) .none kVMFW dcMFW pmMFW anMFW cdMFW ctMFW), (PySem.W.fnOf "window_at" "Facts.window_at" (fnArgs s_Facts_window_at) (fnBody s_Facts_window_at) (fnScope s_Facts_window_at) .none kVMFA dcMFA pmMFA anMFA cdMFA ctMFA), (PySem.W.fnOf "plain_fault" "Facts.plain_fault" (fnArgs s_Facts_plain_fault) (fnBody s_Facts_plain_fault) (fnScope s_Facts_plain_fault) .none kVMFP dcMFP pmMFP anMFP cdMFP ctMFP), (PySem.W.fnOf "rows" "Facts.rows" (fnArgs s_Facts_rows) (fnBody s_Facts_rows) (fnScope s_Facts_rows) .none kVMFR dcMFR pmMFR anMFR cdMFR ctMFR), (PySem.W.fnOf "last_slot" "Facts.last_slot" (fnArgs s_Facts_last_slot) (fnBody s_Facts_last_slot) (fnScope s_Facts_last_slot) .none kVMFS dcMFS pmMFS anMFS cdMFS ctMFS)⟩ := { cl := ⟨pgtF, hdF, poF, saF⟩, nN := nnamesF, nE := nseen_entriesF, nB := nseen_blocksF, nH := nholdersF, nO := nownF, nG := ngreatestF, mW := ⟨mFW, miFW, kFW⟩, mA := ⟨mFA, miFA, kFA⟩, mP := ⟨mFP, miFP, kFP⟩, mR := ⟨mFR, miFR, kFR⟩, mS := ⟨mFS, miFS, kFS⟩ }
  have LA : LiveM K cA fMBA fMGA ⟨fMVI, fMVS, fMVN, fMVU, fMVT, fMVL, fMVM, fMVB, (PySem.W.fnOf "__init__" "LiveLog.__init__" (fnArgs s_LiveLog___init__) (fnBody s_LiveLog___init__) (fnScope s_LiveLog___init__) .none kVMVI dcMVI pmMVI anMVI cdMVI ctMVI), (PySem.W.fnOf "see" "LiveLog.see" (fnArgs s_LiveLog_see) (fnBody s_LiveLog_see) (fnScope s_LiveLog_see) .none kVMVS dcMVS pmMVS anMVS cdMVS ctMVS), (PySem.W.fnOf "now" "LiveLog.now" (fnArgs s_LiveLog_now) (fnBody s_LiveLog_now) (fnScope s_LiveLog_now) .none kVMVN dcMVN pmMVN anMVN cdMVN ctMVN), (PySem.W.fnOf "undo" "LiveLog.undo" (fnArgs s_LiveLog_undo) (fnBody s_LiveLog_undo) (fnScope s_LiveLog_undo) .none kVMVU dcMVU pmMVU anMVU cdMVU ctMVU), (PySem.W.fnOf "twin" "LiveLog.twin" (fnArgs s_LiveLog_twin) (fnBody s_LiveLog_twin) (fnScope s_LiveLog_twin) .none kVMVT dcMVT pmMVT anMVT cdMVT ctMVT), (PySem.W.fnOf "__len__" "LiveLog.__len__" (fnArgs s_LiveLog___len__) (fnBody s_LiveLog___len__) (fnScope s_LiveLog___len__) .none kVMVL dcMVL pmMVL anMVL cdMVL ctMVL), (PySem.W.fnOf "mark" "LiveLog.mark" (fnArgs s_LiveLog_mark) (fnBody s_LiveLog_mark) (fnScope s_LiveLog_mark) .none kVMVM dcMVM pmMVM anMVM cdMVM ctMVM), (PySem.W.fnOf "undo_to" "LiveLog.undo_to" (fnArgs s_LiveLog_undo_to) (fnBody s_LiveLog_undo_to) (fnScope s_LiveLog_undo_to) .none kVMVB dcMVB pmMVB anMVB cdMVB ctMVB)⟩ := { cl := ⟨pgtA, hdA, poA, saA⟩, nS := nstatesA, nM := nmarkedA, mkk := ⟨mkA, mVIA, miVI, kcA⟩, mB := ⟨mBAA, miBA, kBA⟩, mF := ⟨mGAA, miGA, kGA⟩, mS := ⟨mVSA, miVS, kVS⟩, mN := ⟨mVNA, miVN, kVN⟩, mU := ⟨mVUA, miVU, kVU⟩, mT := ⟨mVTA, miVT, kVT⟩, sN := mVLA, iN := miVL, mM := ⟨mVMA, miVM, kVM⟩, mV := ⟨mVBA, miVB, kVB⟩ }
  have LB : LiveM K cB fMBB fMGB ⟨fMVI, fMVS, fMVN, fMVU, fMVT, fMVL, fMVM, fMVB, (PySem.W.fnOf "__init__" "LiveLog.__init__" (fnArgs s_LiveLog___init__) (fnBody s_LiveLog___init__) (fnScope s_LiveLog___init__) .none kVMVI dcMVI pmMVI anMVI cdMVI ctMVI), (PySem.W.fnOf "see" "LiveLog.see" (fnArgs s_LiveLog_see) (fnBody s_LiveLog_see) (fnScope s_LiveLog_see) .none kVMVS dcMVS pmMVS anMVS cdMVS ctMVS), (PySem.W.fnOf "now" "LiveLog.now" (fnArgs s_LiveLog_now) (fnBody s_LiveLog_now) (fnScope s_LiveLog_now) .none kVMVN dcMVN pmMVN anMVN cdMVN ctMVN), (PySem.W.fnOf "undo" "LiveLog.undo" (fnArgs s_LiveLog_undo) (fnBody s_LiveLog_undo) (fnScope s_LiveLog_undo) .none kVMVU dcMVU pmMVU anMVU cdMVU ctMVU), (PySem.W.fnOf "twin" "LiveLog.twin" (fnArgs s_LiveLog_twin) (fnBody s_LiveLog_twin) (fnScope s_LiveLog_twin) .none kVMVT dcMVT pmMVT anMVT cdMVT ctMVT), (PySem.W.fnOf "__len__" "LiveLog.__len__" (fnArgs s_LiveLog___len__) (fnBody s_LiveLog___len__) (fnScope s_LiveLog___len__) .none kVMVL dcMVL pmMVL anMVL cdMVL ctMVL), (PySem.W.fnOf "mark" "LiveLog.mark" (fnArgs s_LiveLog_mark) (fnBody s_LiveLog_mark) (fnScope s_LiveLog_mark) .none kVMVM dcMVM pmMVM anMVM cdMVM ctMVM), (PySem.W.fnOf "undo_to" "LiveLog.undo_to" (fnArgs s_LiveLog_undo_to) (fnBody s_LiveLog_undo_to) (fnScope s_LiveLog_undo_to) .none kVMVB dcMVB pmMVB anMVB cdMVB ctMVB)⟩ := { cl := ⟨pgtB, hdB, poB, saB⟩, nS := nstatesB, nM := nmarkedB, mkk := ⟨mkB, mVIB, miVI, kcB⟩, mB := ⟨mBBB, miBB, kBB⟩, mF := ⟨mGBB, miGB, kGB⟩, mS := ⟨mVSB, miVS, kVS⟩, mN := ⟨mVNB, miVN, kVN⟩, mU := ⟨mVUB, miVU, kVU⟩, mT := ⟨mVTB, miVT, kVT⟩, sN := mVLB, iN := miVL, mM := ⟨mVMB, miVM, kVM⟩, mV := ⟨mVBB, miVB, kVB⟩ }
  have FNP : C8.Fun K "__init__" "NotPossible.__init__" s_NotPossible___init__ fMNP _ := ⟨_, _, _, _, _, _, _, _, _, _, rfl, lMNP, cMNP⟩
  have MNP : Mx K "__init__" "NotPossible.__init__" s_NotPossible___init__ ["self", "obstacle"] fMNP _ := ⟨FNP, FNP.binds rfl fun _ _ _ _ _ _ us hl => match us, hl with | [_, _], _ => rfl⟩
  have T2 : NotE K mg cBK cNP fMNP _ := { o := ⟨⟨_, _, _, _, _, _, _, _, _, _, _, _, _, _, _, xl, xr⟩, xs, xbNP, xyNP, xkNP⟩, i := xi, t := xt, b := MNP.b, g := PySem.W.mg_of X G gNP, mI := MNP, bi := ⟨_, ⟨⟨br, bg⟩, bi⟩⟩, gB := PySem.W.mg_of X G gBK, nw := xw, xf := ⟨xgaNP, xggNP, xbNP, xhdNP⟩ }
  have T3 : ErrC K mg "NothingToUndo" cUN := ⟨PySem.W.mg_of X G gUN, exUN, xkUN, xbUN, xyUN, xicUN, xssUN⟩
  have T5 : ErrC K mg "InvalidNumber" cIN := ⟨PySem.W.mg_of X G gIN, exIN, xkIN, xbIN, xyIN, xicIN, xssIN⟩
  have TF : Tf mg := { T.toBlt with n_any := PySem.W.mg_none_of X G b_any, n_enumerate := PySem.W.mg_none_of X G b_enumerate, n_zip := PySem.W.mg_none_of X G b_zip, g_TWICE := ⟨_, PySem.W.mg_of X G g_TWICE, ⟨_, rfl⟩⟩, g_SHARED := ⟨_, PySem.W.mg_of X G g_SHARED, ⟨_, rfl⟩⟩, g_BACK := ⟨_, PySem.W.mg_of X G g_BACK, ⟨_, rfl⟩⟩, g_PUSHED := ⟨_, PySem.W.mg_of X G g_PUSHED, ⟨_, rfl⟩⟩ }
  have S : Tops K mg cL cX cF cA cB fMBA fMBB fMGA fMGB cBK cNP fMNP cUN cIN fMFW fMFX _ _ _ _ _ _ _ _ _ _ := ⟨T, TF, PySem.W.mg_none_of X G b_sorted, ML', MX', Ms', LF, ⟨mkF, mFI, miFI, kcF⟩, MFI, MFA, MFP, MFR, MFS, ⟨mFW, miFW, kFW⟩, MFW, ⟨mFX, miFX, kFX⟩, MFX, PySem.W.mg_none_of X G b_all, LA, LB, MBA, MBB, MGA, MGB, MVI, MVS, MVN, MVU, MVT, MVL, MVM, MVB, rfl, T2, exm_self xbNP xicNP xyNP xssNP, T3, T5, PySem.W.mg_of X G gL, PySem.W.mg_of X G gX, PySem.W.mg_of X G gF, PySem.W.mg_of X G gA, PySem.W.mg_of X G gB, D_is_integer, D_is_size, D_is_name, D_are_servers, D_is_server, D_is_entry, D_are_entries, D_need_server, D_log_of, D_facts_of, D_least_slot, D_least_slots, D_pushes_of, D_obstacle_in, D_obstacle, D__law_urn, D__law_lot, D__law_live, D__law_log, D__law_same, D__law_tried, D_is_index, D_shows_two, D_are_steps, D_shows_steps, D_shows_obstacle, D__law_clash, D__law_is_fault, D__law_refused_right, D__law_ends_right⟩
  exact ⟨_, fun s v => .of_eq rfl, fun base _ _ => ok_law S F_law⟩

end NB

set_option Elab.async false
set_option maxRecDepth 100000
set_option maxHeartbeats 0
open PySem PySem.W PyProof.Rows
theorem PySem.Challenge.cw_numberbooks_k52_long_live_logs_holds : PySem.Challenge.rw_numberbooks_k52_long_live_logs.Holds := by
  refine hd ?_
  k_fill
  refine NB.walk_g (l := PySem.Challenge.rw_numberbooks_k52_long_live_logs) (n := 63) (k := 12) (x := "script") (sp := NB.spLaw) rfl (by decide) rfl ⟨rfl, by decide, by decide⟩ (fun w h Y => PySem.W.kIn_of Y) ?F (fun K H a ns hl _ hS => ⟨a, ns, rfl, hS, hl, fun _ => rfl⟩)
  case F =>
    intro w mg fa h KX G hmg
    refine' NB.all_mk KX G hmg ?a_is_integer ?l_is_integer ?c_is_integer ?k_is_integer ?a_is_size ?l_is_size ?c_is_size ?k_is_size ?a_is_name ?l_is_name ?c_is_name ?k_is_name ?a_are_servers ?l_are_servers ?c_are_servers ?k_are_servers ?a_is_server ?l_is_server ?c_is_server ?k_is_server ?a_is_entry ?l_is_entry ?c_is_entry ?k_is_entry ?a_are_entries ?l_are_entries ?c_are_entries ?k_are_entries ?a_need_server ?l_need_server ?c_need_server ?k_need_server ?a_log_of ?l_log_of ?c_log_of ?k_log_of ?a_facts_of ?l_facts_of ?c_facts_of ?k_facts_of ?a_least_slot ?l_least_slot ?c_least_slot ?k_least_slot ?a_least_slots ?l_least_slots ?c_least_slots ?k_least_slots ?a_pushes_of ?l_pushes_of ?c_pushes_of ?k_pushes_of ?a_obstacle_in ?l_obstacle_in ?c_obstacle_in ?k_obstacle_in ?a_obstacle ?l_obstacle ?c_obstacle ?k_obstacle ?a__law_urn ?l__law_urn ?c__law_urn ?k__law_urn ?a__law_lot ?l__law_lot ?c__law_lot ?k__law_lot ?a__law_live ?l__law_live ?c__law_live ?k__law_live ?a__law_log ?l__law_log ?c__law_log ?k__law_log ?a__law_same ?l__law_same ?c__law_same ?k__law_same ?a__law_tried ?l__law_tried ?c__law_tried ?k__law_tried ?a_is_index ?l_is_index ?c_is_index ?k_is_index ?a_shows_two ?l_shows_two ?c_shows_two ?k_shows_two ?a_are_steps ?l_are_steps ?c_are_steps ?k_are_steps ?a_shows_steps ?l_shows_steps ?c_shows_steps ?k_shows_steps ?a_shows_obstacle ?l_shows_obstacle ?c_shows_obstacle ?k_shows_obstacle ?a__law_clash ?l__law_clash ?c__law_clash ?k__law_clash ?a__law_is_fault ?l__law_is_fault ?c__law_is_fault ?k__law_is_fault ?a__law_refused_right ?l__law_refused_right ?c__law_refused_right ?k__law_refused_right ?a__law_ends_right ?l__law_ends_right ?c__law_ends_right ?k__law_ends_right ?a_law ?l_law ?c_law ?k_law ?gL ?gX ?gF ?gA ?gB ?mLI ?mXI ?miI ?lMI ?cMI ?pZL ?pZX ?pgZ ?ptZ ?prZ ?lMZ ?cMZ ?pVL ?pVX ?pgV ?ptV ?prV ?lMV ?cMV ?pEL ?pEX ?pgE ?ptE ?prE ?lME ?cME ?mLN ?mXN ?miN ?lMN ?cMN ?mLQ ?mXQ ?miQ ?lMQ ?cMQ ?mLA ?mXA ?miA ?lMA ?cMA ?mLW ?mXW ?miW ?lMW ?cMW ?mFI ?miFI ?lMFI ?cMFI ?mFW ?miFW ?lMFW ?cMFW ?mFA ?miFA ?lMFA ?cMFA ?mFP ?miFP ?lMFP ?cMFP ?mFR ?miFR ?lMFR ?cMFR ?mFS ?miFS ?lMFS ?cMFS ?mFX ?miFX ?lMFX ?cMFX ?mVIA ?mVIB ?miVI ?lMVI ?cMVI ?mVSA ?mVSB ?miVS ?lMVS ?cMVS ?mVNA ?mVNB ?miVN ?lMVN ?cMVN ?mVUA ?mVUB ?miVU ?lMVU ?cMVU ?mBAA ?miBA ?lMBA ?cMBA ?mBBB ?miBB ?lMBB ?cMBB ?mGAA ?miGA ?lMGA ?cMGA ?mGBB ?miGB ?lMGB ?cMGB ?mVTA ?mVTB ?miVT ?lMVT ?cMVT ?mVLA ?mVLB ?miVL ?lMVL ?cMVL ?mVMA ?mVMB ?miVM ?lMVM ?cMVM ?mVBA ?mVBB ?miVB ?lMVB ?cMVB ?kFW ?kFA ?kFP ?kFR ?kFS ?kFX ?kW ?kVS ?kVN ?kVU ?kBA ?kBB ?kGA ?kGB ?kVT ?kVM ?kVB ?sfL ?sfX ?nstatesA ?nstatesB ?nmarkedA ?nmarkedB ?pgtL ?pgtX ?pgtF ?pgtA ?pgtB ?hdL ?hdX ?hdF ?hdA ?hdB ?poL ?poX ?poF ?poA ?poB ?saL ?saX ?saF ?saA ?saB ?mkL ?mkX ?mkF ?mkA ?mkB ?kcL ?kcX ?kcF ?kcA ?kcB ?nheld_sizeL ?nheld_sizeX ?nheld_serversL ?nheld_serversX ?nheld_entriesL ?nheld_entriesX ?nnamesF ?nseen_entriesF ?nseen_blocksF ?nholdersF ?nownF ?ngreatestF ?kdL ?kdX ?kgL ?kgX ?ccL ?ccX ?ccA ?ccB ?moL ?moX ?moA ?moB ?og ?ot ?stL ?stX ?icL ?icX ?icA ?icB ?tyL ?tyX ?tyA ?tyB ?sXL ?sLX ?neXL ?neLX ?gBK ?gNP ?gUN ?gIN ?xi ?lMNP ?cMNP ?xt ?xl ?xr ?xs ?br ?bg ?bi ?xw ?xbNP ?xyNP ?xkNP ?xgaNP ?xggNP ?xhdNP ?xicNP ?xssNP ?xbUN ?xyUN ?xkUN ?xgaUN ?xggUN ?xhdUN ?xicUN ?xssUN ?xbIN ?xyIN ?xkIN ?xgaIN ?xggIN ?xhdIN ?xicIN ?xssIN ?exUN ?exIN ?g_GREATEST_SIZE ?g_MOST_SERVERS ?g_MOST_LETTERS ?g_MOST_ENTRIES ?g_LETTERS ?g_LOSING ?g_TWICE ?g_SHARED ?g_BACK ?g_PUSHED ?b_len ?b_isinstance ?b_int ?b_bool ?b_str ?b_list ?b_tuple ?b_all ?b_set ?b_max ?b_min ?b_abs ?b_range ?b_repr ?b_any ?b_enumerate ?b_zip ?b_sorted
    (case a_is_integer => first | k_is | rfl | k_exc)
    (case l_is_integer => first | k_is | rfl | k_exc)
    (case c_is_integer => first | k_is | rfl | k_exc)
    (case k_is_integer => first | k_is | rfl | k_exc)
    (case a_is_size => first | k_is | rfl | k_exc)
    (case l_is_size => first | k_is | rfl | k_exc)
    (case c_is_size => first | k_is | rfl | k_exc)
    (case k_is_size => first | k_is | rfl | k_exc)
    (case a_is_name => first | k_is | rfl | k_exc)
    (case l_is_name => first | k_is | rfl | k_exc)
    (case c_is_name => first | k_is | rfl | k_exc)
    (case k_is_name => first | k_is | rfl | k_exc)
    (case a_are_servers => first | k_is | rfl | k_exc)
    (case l_are_servers => first | k_is | rfl | k_exc)
    (case c_are_servers => first | k_is | rfl | k_exc)
    (case k_are_servers => first | k_is | rfl | k_exc)
    (case a_is_server => first | k_is | rfl | k_exc)
    (case l_is_server => first | k_is | rfl | k_exc)
    (case c_is_server => first | k_is | rfl | k_exc)
    (case k_is_server => first | k_is | rfl | k_exc)
    (case a_is_entry => first | k_is | rfl | k_exc)
    (case l_is_entry => first | k_is | rfl | k_exc)
    (case c_is_entry => first | k_is | rfl | k_exc)
    (case k_is_entry => first | k_is | rfl | k_exc)
    (case a_are_entries => first | k_is | rfl | k_exc)
    (case l_are_entries => first | k_is | rfl | k_exc)
    (case c_are_entries => first | k_is | rfl | k_exc)
    (case k_are_entries => first | k_is | rfl | k_exc)
    (case a_need_server => first | k_is | rfl | k_exc)
    (case l_need_server => first | k_is | rfl | k_exc)
    (case c_need_server => first | k_is | rfl | k_exc)
    (case k_need_server => first | k_is | rfl | k_exc)
    (case a_log_of => first | k_is | rfl | k_exc)
    (case l_log_of => first | k_is | rfl | k_exc)
    (case c_log_of => first | k_is | rfl | k_exc)
    (case k_log_of => first | k_is | rfl | k_exc)
    (case a_facts_of => first | k_is | rfl | k_exc)
    (case l_facts_of => first | k_is | rfl | k_exc)
    (case c_facts_of => first | k_is | rfl | k_exc)
    (case k_facts_of => first | k_is | rfl | k_exc)
    (case a_least_slot => first | k_is | rfl | k_exc)
    (case l_least_slot => first | k_is | rfl | k_exc)
    (case c_least_slot => first | k_is | rfl | k_exc)
    (case k_least_slot => first | k_is | rfl | k_exc)
    (case a_least_slots => first | k_is | rfl | k_exc)
    (case l_least_slots => first | k_is | rfl | k_exc)
    (case c_least_slots => first | k_is | rfl | k_exc)
    (case k_least_slots => first | k_is | rfl | k_exc)
    (case a_pushes_of => first | k_is | rfl | k_exc)
    (case l_pushes_of => first | k_is | rfl | k_exc)
    (case c_pushes_of => first | k_is | rfl | k_exc)
    (case k_pushes_of => first | k_is | rfl | k_exc)
    (case a_obstacle_in => first | k_is | rfl | k_exc)
    (case l_obstacle_in => first | k_is | rfl | k_exc)
    (case c_obstacle_in => first | k_is | rfl | k_exc)
    (case k_obstacle_in => first | k_is | rfl | k_exc)
    (case a_obstacle => first | k_is | rfl | k_exc)
    (case l_obstacle => first | k_is | rfl | k_exc)
    (case c_obstacle => first | k_is | rfl | k_exc)
    (case k_obstacle => first | k_is | rfl | k_exc)
    (case a__law_urn => first | k_is | rfl | k_exc)
    (case l__law_urn => first | k_is | rfl | k_exc)
    (case c__law_urn => first | k_is | rfl | k_exc)
    (case k__law_urn => first | k_is | rfl | k_exc)
    (case a__law_lot => first | k_is | rfl | k_exc)
    (case l__law_lot => first | k_is | rfl | k_exc)
    (case c__law_lot => first | k_is | rfl | k_exc)
    (case k__law_lot => first | k_is | rfl | k_exc)
    (case a__law_live => first | k_is | rfl | k_exc)
    (case l__law_live => first | k_is | rfl | k_exc)
    (case c__law_live => first | k_is | rfl | k_exc)
    (case k__law_live => first | k_is | rfl | k_exc)
    (case a__law_log => first | k_is | rfl | k_exc)
    (case l__law_log => first | k_is | rfl | k_exc)
    (case c__law_log => first | k_is | rfl | k_exc)
    (case k__law_log => first | k_is | rfl | k_exc)
    (case a__law_same => first | k_is | rfl | k_exc)
    (case l__law_same => first | k_is | rfl | k_exc)
    (case c__law_same => first | k_is | rfl | k_exc)
    (case k__law_same => first | k_is | rfl | k_exc)
    (case a__law_tried => first | k_is | rfl | k_exc)
    (case l__law_tried => first | k_is | rfl | k_exc)
    (case c__law_tried => first | k_is | rfl | k_exc)
    (case k__law_tried => first | k_is | rfl | k_exc)
    (case a_is_index => first | k_is | rfl | k_exc)
    (case l_is_index => first | k_is | rfl | k_exc)
    (case c_is_index => first | k_is | rfl | k_exc)
    (case k_is_index => first | k_is | rfl | k_exc)
    (case a_shows_two => first | k_is | rfl | k_exc)
    (case l_shows_two => first | k_is | rfl | k_exc)
    (case c_shows_two => first | k_is | rfl | k_exc)
    (case k_shows_two => first | k_is | rfl | k_exc)
    (case a_are_steps => first | k_is | rfl | k_exc)
    (case l_are_steps => first | k_is | rfl | k_exc)
    (case c_are_steps => first | k_is | rfl | k_exc)
    (case k_are_steps => first | k_is | rfl | k_exc)
    (case a_shows_steps => first | k_is | rfl | k_exc)
    (case l_shows_steps => first | k_is | rfl | k_exc)
    (case c_shows_steps => first | k_is | rfl | k_exc)
    (case k_shows_steps => first | k_is | rfl | k_exc)
    (case a_shows_obstacle => first | k_is | rfl | k_exc)
    (case l_shows_obstacle => first | k_is | rfl | k_exc)
    (case c_shows_obstacle => first | k_is | rfl | k_exc)
    (case k_shows_obstacle => first | k_is | rfl | k_exc)
    (case a__law_clash => first | k_is | rfl | k_exc)
    (case l__law_clash => first | k_is | rfl | k_exc)
    (case c__law_clash => first | k_is | rfl | k_exc)
    (case k__law_clash => first | k_is | rfl | k_exc)
    (case a__law_is_fault => first | k_is | rfl | k_exc)
    (case l__law_is_fault => first | k_is | rfl | k_exc)
    (case c__law_is_fault => first | k_is | rfl | k_exc)
    (case k__law_is_fault => first | k_is | rfl | k_exc)
    (case a__law_refused_right => first | k_is | rfl | k_exc)
    (case l__law_refused_right => first | k_is | rfl | k_exc)
    (case c__law_refused_right => first | k_is | rfl | k_exc)
    (case k__law_refused_right => first | k_is | rfl | k_exc)
    (case a__law_ends_right => first | k_is | rfl | k_exc)
    (case l__law_ends_right => first | k_is | rfl | k_exc)
    (case c__law_ends_right => first | k_is | rfl | k_exc)
    (case k__law_ends_right => first | k_is | rfl | k_exc)
    (case a_law => first | k_is | rfl | k_exc)
    (case l_law => first | k_is | rfl | k_exc)
    (case c_law => first | k_is | rfl | k_exc)
    (case k_law => first | k_is | rfl | k_exc)
    (case gL => first | k_is | rfl | k_exc)
    (case gX => first | k_is | rfl | k_exc)
    (case gF => first | k_is | rfl | k_exc)
    (case gA => first | k_is | rfl | k_exc)
    (case gB => first | k_is | rfl | k_exc)
    (case mLI => first | k_is | rfl | k_exc)
    (case mXI => first | k_is | rfl | k_exc)
    (case miI => first | k_is | rfl | k_exc)
    (case lMI => first | k_is | rfl | k_exc)
    (case cMI => first | k_is | rfl | k_exc)
    (case pZL => first | k_is | rfl | k_exc)
    (case pZX => first | k_is | rfl | k_exc)
    (case pgZ => first | k_is | rfl | k_exc)
    (case ptZ => first | k_is | rfl | k_exc)
    (case prZ => first | k_is | rfl | k_exc)
    (case lMZ => first | k_is | rfl | k_exc)
    (case cMZ => first | k_is | rfl | k_exc)
    (case pVL => first | k_is | rfl | k_exc)
    (case pVX => first | k_is | rfl | k_exc)
    (case pgV => first | k_is | rfl | k_exc)
    (case ptV => first | k_is | rfl | k_exc)
    (case prV => first | k_is | rfl | k_exc)
    (case lMV => first | k_is | rfl | k_exc)
    (case cMV => first | k_is | rfl | k_exc)
    (case pEL => first | k_is | rfl | k_exc)
    (case pEX => first | k_is | rfl | k_exc)
    (case pgE => first | k_is | rfl | k_exc)
    (case ptE => first | k_is | rfl | k_exc)
    (case prE => first | k_is | rfl | k_exc)
    (case lME => first | k_is | rfl | k_exc)
    (case cME => first | k_is | rfl | k_exc)
    (case mLN => first | k_is | rfl | k_exc)
    (case mXN => first | k_is | rfl | k_exc)
    (case miN => first | k_is | rfl | k_exc)
    (case lMN => first | k_is | rfl | k_exc)
    (case cMN => first | k_is | rfl | k_exc)
    (case mLQ => first | k_is | rfl | k_exc)
    (case mXQ => first | k_is | rfl | k_exc)
    (case miQ => first | k_is | rfl | k_exc)
    (case lMQ => first | k_is | rfl | k_exc)
    (case cMQ => first | k_is | rfl | k_exc)
    (case mLA => first | k_is | rfl | k_exc)
    (case mXA => first | k_is | rfl | k_exc)
    (case miA => first | k_is | rfl | k_exc)
    (case lMA => first | k_is | rfl | k_exc)
    (case cMA => first | k_is | rfl | k_exc)
    (case mLW => first | k_is | rfl | k_exc)
    (case mXW => first | k_is | rfl | k_exc)
    (case miW => first | k_is | rfl | k_exc)
    (case lMW => first | k_is | rfl | k_exc)
    (case cMW => first | k_is | rfl | k_exc)
    (case mFI => first | k_is | rfl | k_exc)
    (case miFI => first | k_is | rfl | k_exc)
    (case lMFI => first | k_is | rfl | k_exc)
    (case cMFI => first | k_is | rfl | k_exc)
    (case mFW => first | k_is | rfl | k_exc)
    (case miFW => first | k_is | rfl | k_exc)
    (case lMFW => first | k_is | rfl | k_exc)
    (case cMFW => first | k_is | rfl | k_exc)
    (case mFA => first | k_is | rfl | k_exc)
    (case miFA => first | k_is | rfl | k_exc)
    (case lMFA => first | k_is | rfl | k_exc)
    (case cMFA => first | k_is | rfl | k_exc)
    (case mFP => first | k_is | rfl | k_exc)
    (case miFP => first | k_is | rfl | k_exc)
    (case lMFP => first | k_is | rfl | k_exc)
    (case cMFP => first | k_is | rfl | k_exc)
    (case mFR => first | k_is | rfl | k_exc)
    (case miFR => first | k_is | rfl | k_exc)
    (case lMFR => first | k_is | rfl | k_exc)
    (case cMFR => first | k_is | rfl | k_exc)
    (case mFS => first | k_is | rfl | k_exc)
    (case miFS => first | k_is | rfl | k_exc)
    (case lMFS => first | k_is | rfl | k_exc)
    (case cMFS => first | k_is | rfl | k_exc)
    (case mFX => first | k_is | rfl | k_exc)
    (case miFX => first | k_is | rfl | k_exc)
    (case lMFX => first | k_is | rfl | k_exc)
    (case cMFX => first | k_is | rfl | k_exc)
    (case mVIA => first | k_is | rfl | k_exc)
    (case mVIB => first | k_is | rfl | k_exc)
    (case miVI => first | k_is | rfl | k_exc)
    (case lMVI => first | k_is | rfl | k_exc)
    (case cMVI => first | k_is | rfl | k_exc)
    (case mVSA => first | k_is | rfl | k_exc)
    (case mVSB => first | k_is | rfl | k_exc)
    (case miVS => first | k_is | rfl | k_exc)
    (case lMVS => first | k_is | rfl | k_exc)
    (case cMVS => first | k_is | rfl | k_exc)
    (case mVNA => first | k_is | rfl | k_exc)
    (case mVNB => first | k_is | rfl | k_exc)
    (case miVN => first | k_is | rfl | k_exc)
    (case lMVN => first | k_is | rfl | k_exc)
    (case cMVN => first | k_is | rfl | k_exc)
    (case mVUA => first | k_is | rfl | k_exc)
    (case mVUB => first | k_is | rfl | k_exc)
    (case miVU => first | k_is | rfl | k_exc)
    (case lMVU => first | k_is | rfl | k_exc)
    (case cMVU => first | k_is | rfl | k_exc)
    (case mBAA => first | k_is | rfl | k_exc)
    (case miBA => first | k_is | rfl | k_exc)
    (case lMBA => first | k_is | rfl | k_exc)
    (case cMBA => first | k_is | rfl | k_exc)
    (case mBBB => first | k_is | rfl | k_exc)
    (case miBB => first | k_is | rfl | k_exc)
    (case lMBB => first | k_is | rfl | k_exc)
    (case cMBB => first | k_is | rfl | k_exc)
    (case mGAA => first | k_is | rfl | k_exc)
    (case miGA => first | k_is | rfl | k_exc)
    (case lMGA => first | k_is | rfl | k_exc)
    (case cMGA => first | k_is | rfl | k_exc)
    (case mGBB => first | k_is | rfl | k_exc)
    (case miGB => first | k_is | rfl | k_exc)
    (case lMGB => first | k_is | rfl | k_exc)
    (case cMGB => first | k_is | rfl | k_exc)
    (case mVTA => first | k_is | rfl | k_exc)
    (case mVTB => first | k_is | rfl | k_exc)
    (case miVT => first | k_is | rfl | k_exc)
    (case lMVT => first | k_is | rfl | k_exc)
    (case cMVT => first | k_is | rfl | k_exc)
    (case mVLA => first | k_is | rfl | k_exc)
    (case mVLB => first | k_is | rfl | k_exc)
    (case miVL => first | k_is | rfl | k_exc)
    (case lMVL => first | k_is | rfl | k_exc)
    (case cMVL => first | k_is | rfl | k_exc)
    (case mVMA => first | k_is | rfl | k_exc)
    (case mVMB => first | k_is | rfl | k_exc)
    (case miVM => first | k_is | rfl | k_exc)
    (case lMVM => first | k_is | rfl | k_exc)
    (case cMVM => first | k_is | rfl | k_exc)
    (case mVBA => first | k_is | rfl | k_exc)
    (case mVBB => first | k_is | rfl | k_exc)
    (case miVB => first | k_is | rfl | k_exc)
    (case lMVB => first | k_is | rfl | k_exc)
    (case cMVB => first | k_is | rfl | k_exc)
    (case kFW => first | k_is | rfl | k_exc)
    (case kFA => first | k_is | rfl | k_exc)
    (case kFP => first | k_is | rfl | k_exc)
    (case kFR => first | k_is | rfl | k_exc)
    (case kFS => first | k_is | rfl | k_exc)
    (case kFX => first | k_is | rfl | k_exc)
    (case kW => first | k_is | rfl | k_exc)
    (case kVS => first | k_is | rfl | k_exc)
    (case kVN => first | k_is | rfl | k_exc)
    (case kVU => first | k_is | rfl | k_exc)
    (case kBA => first | k_is | rfl | k_exc)
    (case kBB => first | k_is | rfl | k_exc)
    (case kGA => first | k_is | rfl | k_exc)
    (case kGB => first | k_is | rfl | k_exc)
    (case kVT => first | k_is | rfl | k_exc)
    (case kVM => first | k_is | rfl | k_exc)
    (case kVB => first | k_is | rfl | k_exc)
    (case sfL => first | k_is | rfl | k_exc)
    (case sfX => first | k_is | rfl | k_exc)
    (case nstatesA => first | k_is | rfl | k_exc)
    (case nstatesB => first | k_is | rfl | k_exc)
    (case nmarkedA => first | k_is | rfl | k_exc)
    (case nmarkedB => first | k_is | rfl | k_exc)
    (case pgtL => first | k_is | rfl | k_exc)
    (case pgtX => first | k_is | rfl | k_exc)
    (case pgtF => first | k_is | rfl | k_exc)
    (case pgtA => first | k_is | rfl | k_exc)
    (case pgtB => first | k_is | rfl | k_exc)
    (case hdL => first | k_is | rfl | k_exc)
    (case hdX => first | k_is | rfl | k_exc)
    (case hdF => first | k_is | rfl | k_exc)
    (case hdA => first | k_is | rfl | k_exc)
    (case hdB => first | k_is | rfl | k_exc)
    (case poL => first | k_is | rfl | k_exc)
    (case poX => first | k_is | rfl | k_exc)
    (case poF => first | k_is | rfl | k_exc)
    (case poA => first | k_is | rfl | k_exc)
    (case poB => first | k_is | rfl | k_exc)
    (case saL => first | k_is | rfl | k_exc)
    (case saX => first | k_is | rfl | k_exc)
    (case saF => first | k_is | rfl | k_exc)
    (case saA => first | k_is | rfl | k_exc)
    (case saB => first | k_is | rfl | k_exc)
    (case mkL => first | k_is | rfl | k_exc)
    (case mkX => first | k_is | rfl | k_exc)
    (case mkF => first | k_is | rfl | k_exc)
    (case mkA => first | k_is | rfl | k_exc)
    (case mkB => first | k_is | rfl | k_exc)
    (case kcL => first | k_is | rfl | k_exc)
    (case kcX => first | k_is | rfl | k_exc)
    (case kcF => first | k_is | rfl | k_exc)
    (case kcA => first | k_is | rfl | k_exc)
    (case kcB => first | k_is | rfl | k_exc)
    (case nheld_sizeL => first | k_is | rfl | k_exc)
    (case nheld_sizeX => first | k_is | rfl | k_exc)
    (case nheld_serversL => first | k_is | rfl | k_exc)
    (case nheld_serversX => first | k_is | rfl | k_exc)
    (case nheld_entriesL => first | k_is | rfl | k_exc)
    (case nheld_entriesX => first | k_is | rfl | k_exc)
    (case nnamesF => first | k_is | rfl | k_exc)
    (case nseen_entriesF => first | k_is | rfl | k_exc)
    (case nseen_blocksF => first | k_is | rfl | k_exc)
    (case nholdersF => first | k_is | rfl | k_exc)
    (case nownF => first | k_is | rfl | k_exc)
    (case ngreatestF => first | k_is | rfl | k_exc)
    (case kdL => first | k_is | rfl | k_exc)
    (case kdX => first | k_is | rfl | k_exc)
    (case kgL => first | k_is | rfl | k_exc)
    (case kgX => first | k_is | rfl | k_exc)
    (case ccL => first | k_is | rfl | k_exc)
    (case ccX => first | k_is | rfl | k_exc)
    (case ccA => first | k_is | rfl | k_exc)
    (case ccB => first | k_is | rfl | k_exc)
    (case moL => first | k_is | rfl | k_exc)
    (case moX => first | k_is | rfl | k_exc)
    (case moA => first | k_is | rfl | k_exc)
    (case moB => first | k_is | rfl | k_exc)
    (case og => first | k_is | rfl | k_exc)
    (case ot => first | k_is | rfl | k_exc)
    (case stL => first | k_is | rfl | k_exc)
    (case stX => first | k_is | rfl | k_exc)
    (case icL => first | k_is | rfl | k_exc)
    (case icX => first | k_is | rfl | k_exc)
    (case icA => first | k_is | rfl | k_exc)
    (case icB => first | k_is | rfl | k_exc)
    (case tyL => first | k_is | rfl | k_exc)
    (case tyX => first | k_is | rfl | k_exc)
    (case tyA => first | k_is | rfl | k_exc)
    (case tyB => first | k_is | rfl | k_exc)
    (case sXL => first | k_is | rfl | k_exc)
    (case sLX => first | k_is | rfl | k_exc)
    (case neXL => first | k_is | rfl | k_exc)
    (case neLX => first | k_is | rfl | k_exc)
    (case gBK => first | k_is | rfl | k_exc)
    (case gNP => first | k_is | rfl | k_exc)
    (case gUN => first | k_is | rfl | k_exc)
    (case gIN => first | k_is | rfl | k_exc)
    (case xi => first | k_is | rfl | k_exc)
    (case lMNP => first | k_is | rfl | k_exc)
    (case cMNP => first | k_is | rfl | k_exc)
    (case xt => first | k_is | rfl | k_exc)
    (case xl => first | k_is | rfl | k_exc)
    (case xr => first | k_is | rfl | k_exc)
    (case xs => first | k_is | rfl | k_exc)
    (case br => first | k_is | rfl | k_exc)
    (case bg => first | k_is | rfl | k_exc)
    (case bi => first | k_is | rfl | k_exc)
    (case xw => first | k_is | rfl | k_exc)
    (case xbNP => first | k_is | rfl | k_exc)
    (case xyNP => first | k_is | rfl | k_exc)
    (case xkNP => first | k_is | rfl | k_exc)
    (case xgaNP => first | k_is | rfl | k_exc)
    (case xggNP => first | k_is | rfl | k_exc)
    (case xhdNP => first | k_is | rfl | k_exc)
    (case xicNP => first | k_is | rfl | k_exc)
    (case xssNP => first | k_is | rfl | k_exc)
    (case xbUN => first | k_is | rfl | k_exc)
    (case xyUN => first | k_is | rfl | k_exc)
    (case xkUN => first | k_is | rfl | k_exc)
    (case xgaUN => first | k_is | rfl | k_exc)
    (case xggUN => first | k_is | rfl | k_exc)
    (case xhdUN => first | k_is | rfl | k_exc)
    (case xicUN => first | k_is | rfl | k_exc)
    (case xssUN => first | k_is | rfl | k_exc)
    (case xbIN => first | k_is | rfl | k_exc)
    (case xyIN => first | k_is | rfl | k_exc)
    (case xkIN => first | k_is | rfl | k_exc)
    (case xgaIN => first | k_is | rfl | k_exc)
    (case xggIN => first | k_is | rfl | k_exc)
    (case xhdIN => first | k_is | rfl | k_exc)
    (case xicIN => first | k_is | rfl | k_exc)
    (case xssIN => first | k_is | rfl | k_exc)
    (case exUN => first | k_is | rfl | k_exc)
    (case exIN => first | k_is | rfl | k_exc)
    (case g_GREATEST_SIZE => first | k_is | rfl | k_exc)
    (case g_MOST_SERVERS => first | k_is | rfl | k_exc)
    (case g_MOST_LETTERS => first | k_is | rfl | k_exc)
    (case g_MOST_ENTRIES => first | k_is | rfl | k_exc)
    (case g_LETTERS => first | k_is | rfl | k_exc)
    (case g_LOSING => first | k_is | rfl | k_exc)
    (case g_TWICE => first | k_is | rfl | k_exc)
    (case g_SHARED => first | k_is | rfl | k_exc)
    (case g_BACK => first | k_is | rfl | k_exc)
    (case g_PUSHED => first | k_is | rfl | k_exc)
    (case b_len => first | k_is | rfl | k_exc)
    (case b_isinstance => first | k_is | rfl | k_exc)
    (case b_int => first | k_is | rfl | k_exc)
    (case b_bool => first | k_is | rfl | k_exc)
    (case b_str => first | k_is | rfl | k_exc)
    (case b_list => first | k_is | rfl | k_exc)
    (case b_tuple => first | k_is | rfl | k_exc)
    (case b_all => first | k_is | rfl | k_exc)
    (case b_set => first | k_is | rfl | k_exc)
    (case b_max => first | k_is | rfl | k_exc)
    (case b_min => first | k_is | rfl | k_exc)
    (case b_abs => first | k_is | rfl | k_exc)
    (case b_range => first | k_is | rfl | k_exc)
    (case b_repr => first | k_is | rfl | k_exc)
    (case b_any => first | k_is | rfl | k_exc)
    (case b_enumerate => first | k_is | rfl | k_exc)
    (case b_zip => first | k_is | rfl | k_exc)
    (case b_sorted => first | k_is | rfl | k_exc)

