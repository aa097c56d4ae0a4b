import PyProof.Rows.All
import Wide.All
import OpenK.AllK
import Wide.FinOn
import PySem.Challenge.RW_numberbooks_k82_texts_of_no_log
import HandS.Base
import HandS.Call
import HandS.List
import HandS.Comp
import HandS.Codes
import HandS.OwnEq
import HandS.Ends
import HandS.Words
import PyProof.NoPylong
import PyProof.Fits
import HandS.ForMost
import HandS.IsInst
import HandS.Property
import HandS.MakeKwOnly
import HandS.WideBits
import HandS.Deep
import HandS.Wide
import PyProof.ReprRoads
import PyProof.ReprReads
import OpenK.KOps
import OpenK.KMeth
import HandS.Strs
import PyProof.ReprLen
import HandS.ForExc
import HandS.Iter
import HandS.Defaults
import HandS.ExcInit
import HandS.ExcField
import HandS.ExcIs
import KE.KExcIs
import HandS.ClsMeth
import HandS.TryOnly
import HandS.ExcOwn
import HandS.Text
import HandS.RaiseMore
import PyProof.StrBlock2
import HandS.FStr
import HandS.Star
import PyProof.Rows.StrMul
open PySem PySem.W PyProof.Rows
set_option Elab.async false
set_option maxRecDepth 100000
set_option maxHeartbeats 0
open_top hd for PySem.Challenge.rw_numberbooks_k82_texts_of_no_log

set_option Elab.async false
set_option linter.all false
set_option maxRecDepth 100000
/-! B1: rules whose readings compute: ints, tests, names -/
namespace NB
open PySem PySem.Spec PyProof.Rows L2

/-- two whole numbers, under C -/
@[reducible] def mI (C : Int → Int → Prop) (g : Int → Int → V) : R2 := fun x y H Q =>
  match x, y with
  | .int i, .int j => C i j ∧ Q (g i j) H
  | _, _ => False
@[reducible] def mI0 (g : Int → Int → V) : R2 := fun x y H Q =>
  match x, y with
  | .int i, .int j => Q (g i j) H
  | _, _ => False
@[reducible] def mU (g : Int → V) : V → Hp → VK → Prop := fun x H Q =>
  match x with
  | .int i => Q (g i) H
  | _ => False
section
variable {X : Cx}
theorem m_of {f : Value → Value → Sem Value} {C : Int → Int → Prop} {g : Int → Int → V} (h : OpR X f (rI C g)) : OpR X f (mI C g) := by
  intro pins s σ H x y v u Q I rx ry q
  cases x <;> cases y <;> first | exact False.elim q | exact h pins s σ H _ _ v u Q I rx ry ⟨_, _, rfl, rfl, q⟩
theorem m_of0 {f : Value → Value → Sem Value} {g : Int → Int → V} (h : OpR X f (rI0 g)) : OpR X f (mI0 g) := by
  intro pins s σ H x y v u Q I rx ry q
  cases x <;> cases y <;> first | exact False.elim q | exact h pins s σ H _ _ v u Q I rx ry ⟨_, _, rfl, rfl, q⟩
theorem m_ofU {f : Value → Sem Value} {g : Int → V} (h : UnR X f (rU g)) : UnR X f (mU g) := by
  intro pins s σ H x v Q I rx q
  cases x <;> first | exact False.elim q | exact h pins s σ H _ v Q I rx ⟨_, rfl, q⟩
/-- a divisor that is positive and has less than 9000 bits -/
def CDv (_ j : Int) : Prop := 0 < j ∧ j.natAbs.log2 < 9000
theorem o_fdiv : OpR X (binaryOp .FloorDiv) (rI CDv fun i j => .int (i / j)) := opI fun i j _ _ _ _ _ hc q => by
  have h1 : (0 : Int) < j := hc.1
  refine floordiv_int (by omega) ?_ (.inl (PyProof.noPylong_of_log2 hc.2))
  rw [Int.fdiv_eq_ediv_of_nonneg i (by omega)]
  exact q
theorem o_mul : OpR X (binaryOp .Mult) (rI IntMulOk fun i j => .int (i * j)) := opI fun _ _ _ _ _ _ _ hc q => mul_int q hc
theorem m_add : OpR X (binaryOp .Add) (mI0 fun i j => .int (i + j)) := m_of0 op_add
theorem m_sub : OpR X (binaryOp .Sub) (mI0 fun i j => .int (i - j)) := m_of0 op_sub
theorem m_mul : OpR X (binaryOp .Mult) (mI IntMulOk fun i j => .int (i * j)) := m_of o_mul
theorem m_div : OpR X (binaryOp .FloorDiv) (mI CDv fun i j => .int (i / j)) := m_of o_fdiv
theorem m_mod : OpR X (binaryOp .Mod) (mI (fun _ j => 0 < j) fun i j => .int (i % j)) := m_of op_mod
theorem m_pow : OpR X (binaryOp .Pow) (mI CPow fun i j => .int (i ^ j.toNat)) := m_of op_pow
theorem m_lt : OpR X (compareOp .Lt) (mI0 fun i j => .bl (decide (i < j))) := m_of0 op_lt
theorem m_le : OpR X (compareOp .LtE) (mI0 fun i j => .bl (decide (i ≤ j))) := m_of0 op_le
theorem m_gt : OpR X (compareOp .Gt) (mI0 fun i j => .bl (decide (j < i))) := m_of0 op_gt
theorem m_ge : OpR X (compareOp .GtE) (mI0 fun i j => .bl (decide (j ≤ i))) := m_of0 op_ge
theorem m_neg : UnR X (unaryOp .USub) (mU fun i => .int (-i)) := m_ofU un_neg
/-- == and != of numbers, texts, bools -/
@[reducible] def mEqG (f : Bool → Bool) : R2 := fun x y H Q =>
  match x, y with
  | .int i, .int j => Q (.bl (f (decide (i = j)))) H
  | .str i, .str j => Q (.bl (f (decide (i = j)))) H
  | .bl i, .bl j => Q (.bl (f (decide (i = j)))) H
  | _, _ => False
theorem dec_i {i j : Int} : decide (V.int i = V.int j) = decide (i = j) := by
  by_cases h : i = j
  · rw [h, decide_eq_true rfl, decide_eq_true rfl]
  · rw [decide_eq_false h, decide_eq_false (fun e => h (V.int.inj e))]
theorem dec_s {i j : Str} : decide (V.str i = V.str j) = decide (i = j) := by
  by_cases h : i = j
  · rw [h, decide_eq_true rfl, decide_eq_true rfl]
  · rw [decide_eq_false h, decide_eq_false (fun e => h (V.str.inj e))]
theorem dec_b {i j : Bool} : decide (V.bl i = V.bl j) = decide (i = j) := by
  cases i <;> cases j <;> rfl
theorem m_eq : OpR X (compareOp .Eq) (mEqG fun b => b) := by
  intro pins s σ H x y v u Q I rx ry q
  cases x <;> cases y <;> first | exact False.elim q | exact op_eq pins s σ H _ _ v u Q I rx ry ⟨rfl, by first | (rw [dec_i]; exact q) | (rw [dec_s]; exact q) | (rw [dec_b]; exact q)⟩
theorem m_ne : OpR X (compareOp .NotEq) (mEqG fun b => !b) := by
  intro pins s σ H x y v u Q I rx ry q
  cases x <;> cases y <;> first | exact False.elim q | exact op_ne pins s σ H _ _ v u Q I rx ry ⟨rfl, by first | (rw [dec_i]; exact q) | (rw [dec_s]; exact q) | (rw [dec_b]; exact q)⟩
end

/-- a value that is a bool, as a test -/
@[reducible] def kB (Q : Bool → Hp → Prop) : VK := fun x H => match x with
  | .bl c => Q c H
  | _ => False
@[reducible] def mT (t : TE) : TT := fun σ H Q => t σ H (kB Q)
section
variable {X : Cx} {a b c : Expr} {ta tb tc : TE} {pos : Pos}
theorem kB_ok {Q : Bool → Hp → Prop} {x : V} {H : Hp} (h : kB Q x H) : ∃ k, x = .bl k ∧ Q k H := by
  cases x <;> first | exact False.elim h | exact ⟨_, rfl, h⟩
/-- a comparison as a test -/
theorem qt {op : CmpOp} {r : R2} (ho : OpR X (compareOp op) r) (ha : PE X a ta) (hb : PE X b tb) (hm : behindInMarks op b = false) : PT X (.Compare a [op] [b] pos) (mT (tOp r ta tb)) := by
  refine ⟨fun pins s σ H Q I h => ?_⟩
  refine wpAny_isTrue_Compare1 (thn (ha.run pins s σ H _ I h) fun v s1 ⟨x, H1, I1, r1, q1⟩ => thn (hb.run pins s1 σ H1 _ I1 q1) fun u s2 ⟨y, H2, I2, r2, q2⟩ =>
    thn (ho pins s2 σ H2 x y v u _ I2 r1 r2 q2) fun d s3 ⟨z, H3, I3, r3, q3⟩ => ?_) hm
  obtain ⟨k, e, q4⟩ := kB_ok q3
  subst e
  cases r3
  exact wpAny_truthy_bool ⟨H3, I3, q4⟩
/-- an expression that gives a bool, as a test -/
theorem qv {e : Expr} {t : TE} (h : PE X e t) (he : ∀ whole, isTrue e X.env whole = (do let v ← whole; standAt e.pos; holding [v] (truthy v)) := by intro _; rfl) : PT X e (mT t) := by
  refine ⟨fun pins s σ H Q I hw => ?_⟩
  refine isTrue_plain (thn (h.run pins s σ H _ I hw) fun v s1 ⟨x, H1, I1, r1, q1⟩ => ?_) (he _)
  obtain ⟨k, e, q4⟩ := kB_ok q1
  subst e
  cases r1
  exact wpAny_truthy_bool ⟨H1, I1, q4⟩
end

/-- the value in slot i -/
@[reducible] def mV (i : Nat) : TE := fun σ H Q => match σ[i]? with
  | some (some v) => Q v H
  | _ => False
section
variable {X : Cx}
theorem mv (i : Nat) {x : Str} {pos : Pos} (hN : X.N[i]? = some x := by rfl) (hv : Vis X.env.scope x := by first | exact Or.inl rfl | exact Or.inr (Or.inl rfl) | exact Or.inr (Or.inr rfl)) (hd : (x == ("__debug__" : Str)) = false := by decide)
    (hcd : (x == ("__classdict__" : Str)) = false := by decide) : PE X (.Name x pos) (mV i) := by
  refine ⟨fun pins s σ H Q I h => (pe_var (pos := pos) hN hv hd hcd).run pins s σ H Q I ?_⟩
  unfold mV at h
  split at h
  · rename_i v e
    exact ⟨v, e, h⟩
  · exact h.elim
end

/-! ### tests -/
theorem ifD {p A B : Prop} [Decidable p] (h1 : p → A) (h2 : ¬ p → B) : if decide p = true then A else B := by
  by_cases h : p
  · rw [decide_eq_true h, if_pos rfl]; exact h1 h
  · rw [decide_eq_false h, if_neg Bool.false_ne_true]; exact h2 h
theorem ifND {p A B : Prop} [Decidable p] (h1 : ¬ p → A) (h2 : p → B) : if (!decide p) = true then A else B := by
  by_cases h : p
  · rw [decide_eq_true h]; exact (if_neg Bool.false_ne_true).mpr (h2 h)
  · rw [decide_eq_false h]; exact (if_pos rfl).mpr (h1 h)
theorem ifT {b : Bool} {A B : Prop} (hb : b = true) (h : A) : if b = true then A else B := by rw [if_pos hb]; exact h
theorem ifF {b : Bool} {A B : Prop} (hb : b = false) (h : B) : if b = true then A else B := by rw [hb, if_neg Bool.false_ne_true]; exact h

/-! ### heaps -/
/-- all that stood in H, but for what is in M, stands in H' -/
def Frm (M : List Addr) (H H' : Hp) : Prop := ∀ a o, H a = some o → a ∉ M → H' a = some o
theorem Frm.ext {M : List Addr} {H H' : Hp} (e : Ext H H') : Frm M H H' := fun a o h _ => e a o h
theorem Frm.trans {M : List Addr} {H H1 H2 : Hp} (a : Frm M H H1) (b : Frm M H1 H2) : Frm M H H2 := fun c o h n => b c o (a c o h n) n
theorem Frm.refl {M : List Addr} {H : Hp} : Frm M H H := fun _ _ h _ => h
theorem Frm.upd {M : List Addr} {H H1 : Hp} {p : Addr} {o : HO} (a : Frm M H H1) (h : p ∈ M) : Frm M H (L2.upd H1 p o) := fun c u e n => by
  rw [upd_ne (fun z => n (by rw [z]; exact h))]; exact a c u e n
theorem Frm.new {M : List Addr} {H H1 : Hp} {p : Addr} {o : HO} (a : Frm M H H1) (h : H1 p = none) : Frm M H (L2.upd H1 p o) := fun c u e n => by
  have e1 := a c u e n
  rw [upd_ne (ne_of_none e1 h)]; exact e1
theorem Frm.to_ext {H H' : Hp} (f : Frm [] H H') : Ext H H' := fun a o h => f a o h (by simp)
end NB

set_option Elab.async false
set_option linter.all false
set_option maxRecDepth 100000
/-! B2: items, own special methods, repr of data -/
namespace NB
open PySem PySem.Spec PyProof.Rows L2

/-- an item of a list or a tuple -/
@[reducible] def mIx (K : PySem.W.Frag) : R2 := fun x y H Q =>
  match x, y with
  | .ref p, .int i => ∃ xs v, (SqL K H p xs ∨ SqT K H p xs) ∧ atI xs i = some v ∧ Q v H
  | _, _ => False
section
variable {X : Cx}
theorem m_ix : IxR X (mIx X.K) := by
  have both : IxR X (fun x y H Q => rIxL X.K x y H Q ∨ rIxT X.K x y H Q) := ix_list.or ix_tup
  have imp : ∀ x y H Q, mIx X.K x y H Q → rIxL X.K x y H Q ∨ rIxT X.K x y H Q := by
    intro x y H Q q
    cases x <;> cases y <;> first | exact False.elim q | skip
    obtain ⟨xs, z, h | h, ha, q⟩ := q
    · exact .inl ⟨_, _, _, _, rfl, rfl, h, ha, q⟩
    · exact .inr ⟨_, _, _, _, rfl, rfl, h, ha, q⟩
  unfold IxR at both ⊢
  intros
  apply both <;> first | assumption | (apply imp; assumption)

variable {CX : CXT} {k : Nat} {C f : Addr} {fd : FuncData} {ps : List Str} {sp : Sp} {E : XK}
/-- x in o, o an own instance -/
theorem own_in (F : FnOk X.prog X.w X.K X.mg X.base CX k f fd ps sp) (hs : PySem.W.findIn X.K (.ref C) "__contains__" = some (some (.ref f))) (hf : PySem.W.isFn X.K (.ref f) = true) (hb : Binds X.K fd ps []) (hr : Room k X.A) (hx : Passes CX X E) :
    OpR X (compareOp .In) (fun x y H Q => ∃ a dx fs, y = .ref a ∧ H a = some (.ins C dx fs) ∧ sp [.ref a, x] H (kB fun b H' => Q (.bl b) H') E) := by
  intro pins s σ H x y v u Q I rx ry q
  obtain ⟨a, dx, fs, rfl, ha, q⟩ := q
  cases ry
  obtain ⟨mA, O, _⟩ := ins_get I.hok ha
  obtain ⟨od, J, _⟩ := O.look
  obtain ⟨m, hF⟩ := I.fr
  refine PySem.W.in_K hF I.ok.mod.kin J hs hf ?_
  refine thn (run_fn F hr hb .nil hx I (vs := [.ref a, _]) (.cons rfl (.cons rx .nil)) q) fun r s' z => ?_
  obtain ⟨z, H', I', rz, kz⟩ := z
  obtain ⟨b, e, q2⟩ := kB_ok kz
  subst e
  cases rz
  exact wpAny_truthy_bool ⟨.bl b, H', I', rfl, q2⟩
/-- len(o), o an own instance -/
theorem own_len (F : FnOk X.prog X.w X.K X.mg X.base CX k f fd ps sp) (hs : PySem.W.findIn X.K (.ref C) "__len__" = some (some (.ref f))) (hf : PySem.W.isFn X.K (.ref f) = true) (hb : Binds X.K fd ps []) (hr : Room (k + 1) X.A) (hx : Passes CX X E) :
    CallR X (.builtin "len") (fun xs H Q => ∃ a dx fs, xs = [.ref a] ∧ H a = some (.ins C dx fs) ∧ sp [.ref a] H (fun v H' => ∃ n : Nat, v = .int n ∧ n ≤ sizeLine ∧ Q (.int n) H') E) := by
  intro pins s σ H xs us Q I rx q
  obtain ⟨a, dx, fs, rfl, ha, q⟩ := q
  obtain ⟨u, rfl, ru⟩ := vals1 rx
  cases ru
  obtain ⟨mA, O, _⟩ := ins_get I.hok ha
  obtain ⟨od, J, _⟩ := O.look
  obtain ⟨m, hF⟩ := I.fr
  refine PySem.W.len_K hF I.ok.mod.kin J hs hf ?_
  have hl : ([Value.ref a] : List Value).length = ps.length := by rw [← F.len _ _ _ _ q]; rfl
  refine wpAny_call (codeAny_mono (F.run X.A.in1 X.stack s H ⟨[.ref a], []⟩ [.ref a] [.ref a] _ E hr.in1 I.env0.in1 (by have := hb s [.ref a] I.kIn (by simpa using hl); simpa using this) (.cons rfl .nil) q) fun r s' hq => ?_)
  cases r with
  | error er => exact hx pins σ H s er s' I hq
  | ok fl =>
    cases fl with
    | ret w =>
      obtain ⟨v, H', I3, rv, n, ev, hn, q3⟩ := I.after hq
      subst ev
      obtain ⟨t, rfl⟩ := rv
      have l63 := line63
      refine ⟨⟨by omega, by have : (n : Int) ≤ sizeLine := by exact_mod_cast hn
                            omega⟩, .int n, H', I3.tok _, ⟨_, rfl⟩, q3⟩
    | next => exact False.elim hq
    | brk => exact False.elim hq
    | cont => exact False.elim hq
/-- o == p, two own instances of one class (or p of a class that is not below o's) -/
theorem own_eq (hu : X.A.units < cLine) (F : FnOk X.prog X.w X.K X.mg X.base CX k f fd ps sp) (hs : PySem.W.findIn X.K (.ref C) "__eq__" = some (some (.ref f))) (hf : PySem.W.isFn X.K (.ref f) = true) (hb : Binds X.K fd ps []) (hr : Room k X.A) (hx : Passes CX X E) :
    OpR X (compareOp .Eq) (fun x y H Q => ∃ a b dx dy fs gs, x = .ref a ∧ y = .ref b ∧ H a = some (.ins C dx fs) ∧ H b = some (.ins C dy gs) ∧ sp [.ref a, .ref b] H (kB fun b H' => Q (.bl b) H') E) := by
  intro pins s σ H x y v u Q I rx ry q
  obtain ⟨a, b, dx, dy, fs, gs, rfl, rfl, ha, hb', q⟩ := q
  cases rx
  cases ry
  obtain ⟨mA, O, _⟩ := ins_get I.hok ha
  obtain ⟨mB, O', _⟩ := ins_get I.hok hb'
  obtain ⟨od, J, _⟩ := O.look
  obtain ⟨od', J', _⟩ := O'.look
  obtain ⟨m, hF⟩ := I.fr
  show wpAny (model X.prog X.w) X.A (richCompare .Eq _ _) (EP X pins σ Q) X.xe s
  refine PySem.W.cmp_K (op := .Eq) (tb := .ref C) hu hF I.ok.mod.kin J J'.type (by simp [PySem.W.notFirst]) hs hf ?_
  refine thn (run_fn F hr hb .nil hx I (vs := [.ref a, .ref b]) (.cons rfl (.cons rfl .nil)) q) fun r s' z => ?_
  obtain ⟨z, H', I', rz, kz⟩ := z
  obtain ⟨b, e, q2⟩ := kB_ok kz
  subst e
  cases rz
  exact ⟨.bl b, H', I', rfl, q2⟩

/-- repr of data -/
def mRep (K : PySem.W.Frag) : List V → Hp → VK → Prop := fun xs H Q => ∃ v d, xs = [v] ∧ Dp K H v d ∧ isDisplay d = true ∧ d.showable = true ∧ d.hasDict = false ∧ d.depth ≤ 60 ∧ d.shown.length ≤ sizeLine ∧ Q (.str d.shown) H
end
end NB

set_option Elab.async false
set_option linter.all false
set_option maxRecDepth 100000
/-! B3: promises of defs that run where nothing is being shown (repr) -/
namespace NB
open PySem PySem.Spec PyProof.Rows L2

section
variable {P : Program} {w : World} {K : PySem.W.Frag} {mg : Str → Option Value} {base : Heap}
/-- as FnOk, no display under way -/
structure FnG (P : Program) (w : World) (K : PySem.W.Frag) (mg : Str → Option Value) (base : Heap) (k : Nat) (f : Addr) (fd : FuncData) (ps : List Str) (sp : Sp) : Prop where
  len : ∀ vs H Q E, sp vs H Q E → vs.length = ps.length
  run : ∀ (A : Around) (o : List Env) (s : Shared) (H : Hp) (ar : Args) (us : List Value) (vs : List V) (Q : VK) (E : XK), Room k A → A.guards = some [] →
    Env0 P w K mg base A o s H → BindsTo s fd ar (ps.zip us) → Vals vs us → sp vs H Q E → codeAny (model P w) A (.call (.ref f) ar) (CR C8.CX0 o P w H s Q E) s
theorem gd_deeper {A : Around} {env : Env} (h : A.guards = some []) : (A.deeper env).guards = some [] := by
  unfold Around.deeper
  first | exact h | simp [h]
theorem fnG_of {x qual : Str} {st : Stmt} {f : Addr} {fd : FuncData} {N ps : List Str} {k : Nat} {sp : Sp} (F : C8.Fun K x qual st f fd) (S : FnScope N ps (C8.fnScope st)) (len : ∀ vs H Q E, sp vs H Q E → vs.length = ps.length)
    (hb : ∀ (cdv : Value) (A : Around) (o : List Env) (s : Shared) (H : Hp) (vs : List V) (Q : VK) (E : XK), Room k (A.deeper (envOfC qual (C8.fnScope st) s.heap.objs.size f cdv)) → A.guards = some [] → sp vs H Q E →
      ∃ t, PSs (cxOf C8.CX0 P w K mg base N qual (C8.fnScope st) f cdv A o s H E).nox (C8.fnBody st) t ∧ t { nx := fun _ H' => Q .non H', rt := Q } (start N vs) H) : FnG P w K mg base (k + 1) f fd ps sp := by
  obtain ⟨oc, od, dV, kV, doc, pm, an, cdv, ct, osl, rfl, lk, hcd⟩ := F.ex
  refine ⟨len, ?_⟩
  intro A o s H ar us vs Q E hr hgd e0 hbi r hsp
  have KX : K.In s.heap := e0.mod.kin.keeps fun b o e => (e0.bs b o e).1
  obtain ⟨t, ht, hq⟩ := hb cdv A o s H vs Q E (hr.deeper _) hgd hsp
  refine codeAny_call_function hr.depth (KX _ _ lk) rfl S.co S.gen rfl (PySem.W.codeRec_of KX hcd) (hbi _ _ _ _ (wpAny_newFunctionEnv_cells S.kind (fun y hy => ?_) fun env he s1 z => ?_))
  · obtain ⟨n, v⟩ := y
    exact (S.par n (List.of_mem_zip hy).1).elim .inl fun q => .inr ⟨q, PySem.W.cellsFrom_some _ _ _ (.inl q)⟩
  · subst he
    refine ⟨(e0.mod.nolimit.keeps fun b o e => (e0.bs b o e).1).keeps z.toInCall.keep, codeAny_func (wpAny_mono (ht.nox.run [] s1 (start N vs) H _ (inv_start S hr.hd e0 (len _ _ _ _ hsp) r z) hq) (fun fl s2 hs => ?_) fun _ _ q => q)⟩
    cases fl with
    | ret u =>
      obtain ⟨v, σ2, H2, J, rv, q⟩ := hs
      exact ⟨v, H2, J.os, J.bare, J.base, J.hok, rv, q⟩
    | next =>
      obtain ⟨σ2, H2, J, q⟩ := hs
      exact ⟨V.non, H2, J.os, J.bare, J.base, J.hok, rfl, q⟩
    | brk =>
      obtain ⟨_, _, _, q⟩ := hs
      exact q.elim
    | cont =>
      obtain ⟨_, _, _, q⟩ := hs
      exact q.elim
/-- one that may be called by its name -/
structure CalG (P : Program) (w : World) (K : PySem.W.Frag) (mg : Str → Option Value) (base : Heap) (k : Nat) (x : Str) (sp : Sp) : Prop where
  ex : ∃ (f : Addr) (fd : FuncData) (ps : List Str), FnG P w K mg base k f fd ps sp ∧ mg x = some (.ref f) ∧ PySem.W.keepIn K (.ref f) = true ∧ Binds K fd ps []
end
section
variable {X : Cx} {k j : Nat} {x : Str} {sp : Sp} {p pos : Pos} {e : Expr} {es : List Expr} {t : TA}
theorem run_g {f : Addr} {fd : FuncData} {ps : List Str} {pins : List (Addr × Obj)} {σ : L2.St} {H : Hp} {s : Shared} {Q : VK} {us : List Value} {vs : List V} (F : FnG X.prog X.w X.K X.mg X.base k f fd ps sp) (hr : Room k X.A) (hgd : X.A.guards = some [])
    (hb : Binds X.K fd ps []) (I : Inv X pins σ H s) (r : Vals vs us) (h : sp vs H Q C8.E0) : wpAny (model X.prog X.w) X.A (call (.ref f) us) (EP X pins σ Q) X.xe s := by
  have hl : us.length = ps.length := by rw [← r.length]; exact F.len _ _ _ _ h
  have b := hb s us I.kIn (by simpa using hl)
  rw [List.append_nil] at b
  refine wpAny_call (codeAny_mono (F.run X.A X.stack s H ⟨us, []⟩ us vs Q C8.E0 hr hgd I.env0 b r h) fun y s2 z => ?_)
  cases y with
  | error e => exact z.elim
  | ok fl => cases fl <;> first | exact I.after z | exact False.elim z
theorem pe_g (c : CalG X.prog X.w X.K X.mg X.base k x sp) (hr : Room j X.A) (hk : k ≤ j) (hgd : X.A.guards = some []) (hg : Gl X x) (ha : PA X (e :: es) t)
    (hdb : (x == ("__debug__" : Str)) = false := by decide) (he : starEach (e :: es) X.env = (false, eval e X.env) :: starEach es X.env := by rfl) (hpl : (backTo pos (starEach es X.env)).any (·.1) = false := by rfl) :
    PE X (.Call (.Name x p) (e :: es) [] pos) (tCall sp [] C8.E0 t) := by
  obtain ⟨f, fd, ps, F, hm, kp, b⟩ := c.ex
  refine ⟨fun pins s σ H Q I h => wpAny_Call_Name_kw (ld_glob I hg hm (PySem.W.callWith_K (h₀ := X.base) I.ok.mod.kin kp (thn (ha.run pos pins s σ H _ I h) fun us s1 z => ?_) he hpl) hdb)⟩
  obtain ⟨vs, H1, I1, r, q⟩ := z
  rw [List.append_nil] at q
  exact ⟨I1.kIn, run_g F (hr.mono hk) hgd b I1 r q⟩
/-- repr(v), v of data -/
theorem call_rep (hu : X.A.units + 64 < cLine) (hgd : X.A.guards = some []) : CallR X (.builtin "repr") (mRep X.K) := by
  intro pins s σ H xs us Q I rx q
  obtain ⟨v, d, rfl, dp, h1, h2, h3, h4, h5, q⟩ := q
  obtain ⟨u, rfl, ru⟩ := vals1 rx
  obtain ⟨as, r⟩ := Dp.reads I d v u dp ru
  obtain ⟨a, rfl⟩ := isRef_of_reads r h1
  exact repr_of_reads' r h2 (fun z => by rw [h3] at z; cases z) hgd (by omega) (fun _ _ e => e) (fun h' u' tk hk => ⟨.str d.shown, H, I.kept (t' := tk) hk, ⟨_, rfl⟩, q⟩) h5
end
end NB

set_option Elab.async false
set_option linter.all false
set_option maxRecDepth 100000
/-! B4: the end of a law whose def is promised where no display is under way -/
namespace NB
open PySem PySem.Spec PyProof.Rows L2

section
variable {P : Program} {w : World} {K : PySem.W.Frag} {mg mb : Str → Option Value} {k : Nat} {fa a : Addr} {fd : FuncData} {x : Str} {sp : Sp} {s : Shared} {vs : List Value} {ns : List Int}
/-- the call, over an abstract heap H that tracks the script at most -/
theorem law_at {H : Hp} (KX : K.In s.heap) (hns : s.heap.Ns mainGlobals mg) (hb : s.heap.Ns builtinsNs mb) (hbb : ∀ x : Str, x ≠ "__name__" → mb x = bootBuiltins x) (hlim : s.heap.NoLimit) (hg : s.gens = #[])
    (ha : s.heap.get? a = some { cls := .type "list", data := .seq vs.toArray }) (hr : Room k callerA)
    (F : ∀ base : Heap, K.In base → base.Ns mainGlobals mg → FnG P w K mg base k fa fd [x] sp) (hbind : ∀ (s : Shared) (u : Value), BindsTo s fd ⟨[u], []⟩ [(x, u)])
    (hsp : sp [.ref a] H (fun v _ => v = .bl true) C8.E0) (hO : Only H) (hok : HOk P w H s.heap) (hA : ∀ b u, H b = some u → b = a ∧ K.lookup a = none) :
    codeAny (model P w) callerA (.call (.ref fa) ⟨[.ref a], []⟩) (fun r s' => r = .ok (.ret (.bool true)) ∧ OldK s.heap s'.heap ∧ s'.os = s.os ∧ AllBare s'.gens) s := by
  have free : ∀ {b : Addr} {o : Obj} {es : Array DictEntry} {ep : Nat}, s.heap.get? b = some o → o.data = .dict es ep → H b = none := by
    intro b o es ep e d
    cases q : H b with
    | none => rfl
    | some u =>
      obtain ⟨rfl, _⟩ := hA b u q
      have eo : o = _ := Option.some.inj (e.symm.trans ha)
      rw [eo] at d
      cases d
  have nsH : ∀ {b : Addr} {m : Str → Option Value}, s.heap.Ns b m → (hidT s.heap H).Ns b m := by
    rintro b m ⟨o, es, ep, e, d, r⟩
    exact ⟨o, es, ep, hidT_get e (free e d), d, r⟩
  have kin : K.In (hidT s.heap H) := by
    intro b o e
    refine hidT_get (KX b o e) ?_
    cases q : H b with
    | none => rfl
    | some u =>
      obtain ⟨rfl, z⟩ := hA b u q
      rw [z] at e
      cases e
  obtain ⟨mc, l1, l2⟩ := hlim
  have e0 : Env0 P w K mg (hidT s.heap H) callerA [] s H :=
    ⟨rfl, ⟨kin, nsH hns, ⟨mb, nsH hb, hbb⟩, ⟨mc, nsH l1, l2⟩⟩, fun b o e => of_hidT e, Nat.le_of_eq (hidT_size _ _), trivial, fun b z => absurd (show b ∈ ([] : List Addr) from z) (by simp), hok, .of_eq hg⟩
  refine codeAny_mono ((F _ kin (nsH hns)).run callerA [] s H ⟨[.ref a], []⟩ [.ref a] [.ref a] _ _ hr rfl e0 (hbind s (.ref a)) (.cons rfl .nil) hsp) fun r s2 z => ?_
  rcases r with e | fl
  · exact z.elim
  cases fl <;> first | exact False.elim z | skip
  rename_i u
  obtain ⟨v, H2, os, bare, un, hok2, rv, q⟩ := z
  have qv : v = .bl true := q
  subst qv
  obtain rfl : u = Value.bool true := rv
  refine ⟨rfl, OldK.of_keep fun b o e => ?_, os, bare⟩
  rcases hO b with q | ⟨ob, xs, q⟩
  · exact un.keep b o e q (fun z => absurd (show b ∈ ([] : List Addr) from z) (by simp)) (by simp)
  · have h1 := (hok b _ q).1
    have h2 := (hok2 b _ (un.frzs b ob _ q)).1
    rw [Option.some.inj (e.symm.trans h1)]
    exact h2
theorem law_g (KX : K.In s.heap) (hns : s.heap.Ns mainGlobals mg) (hb : s.heap.Ns builtinsNs mb) (hbb : ∀ x : Str, x ≠ "__name__" → mb x = bootBuiltins x) (hlim : s.heap.NoLimit) (hg : s.gens = #[])
    (ha : s.heap.get? a = some { cls := .type "list", data := .seq vs.toArray }) (hi : IntsAre vs ns) (hl : ns.length ≤ sizeLine) (hr : Room k callerA)
    (F : ∀ base : Heap, K.In base → base.Ns mainGlobals mg → FnG P w K mg base k fa fd [x] sp) (hbind : ∀ (s : Shared) (u : Value), BindsTo s fd ⟨[u], []⟩ [(x, u)])
    (hsp : ∀ H : Hp, Only H → SqL K H a (ns.map V.int) → sp [.ref a] H (fun v _ => v = .bl true) C8.E0) :
    codeAny (model P w) callerA (.call (.ref fa) ⟨[.ref a], []⟩) (fun r s' => r = .ok (.ret (.bool true)) ∧ OldK s.heap s'.heap ∧ s'.os = s.os ∧ AllBare s'.gens) s := by
  have rv := vals_ints hi
  cases hk : K.lookup a with
  | some o =>
    have eo : o = _ := Option.some.inj ((KX a o hk).symm.trans ha)
    have hS : SqL K (fun _ => none) a (ns.map V.int) := .inr ⟨o, vs.toArray, _, hk, by rw [eo], by rw [eo], congrArg Obj.data eo, by rw [List.size_toArray, hi.length]; exact hl, rv⟩
    exact law_at KX hns hb hbb hlim hg ha hr F hbind (hsp _ (fun _ => .inl rfl) hS) (fun _ => .inl rfl) (fun b u z => nomatch z) (fun b u z => nomatch z)
  | none =>
    let o0 : Obj := { cls := .type "list", data := .seq vs.toArray }
    have at_ : ∀ b, L2.upd (fun _ => none) a (.frz o0 (.lst (ns.map V.int))) b = none ∨ (b = a ∧ L2.upd (fun _ => none) a (.frz o0 (.lst (ns.map V.int))) b = some (.frz o0 (.lst (ns.map V.int)))) := by
      intro b
      by_cases e : b = a
      · rw [e]; exact .inr ⟨rfl, upd_same⟩
      · exact .inl (upd_ne e)
    have hO : Only (L2.upd (fun _ => none) a (.frz o0 (.lst (ns.map V.int)))) := fun b => (at_ b).elim .inl fun z => .inr ⟨_, _, z.2⟩
    refine law_at KX hns hb hbb hlim hg ha hr F hbind (hsp _ hO (.inl (.inr ⟨o0, upd_same⟩))) hO ?_ ?_
    · intro b u z
      rcases at_ b with q | ⟨rfl, q⟩
      · rw [q] at z; cases z
      · rw [q] at z
        cases z
        exact ⟨ha, by rw [List.length_map]; exact hl, vs, _, rv, ha⟩
    · intro b u z
      rcases at_ b with q | ⟨e, q⟩
      · rw [q] at z; cases z
      · exact ⟨e, hk⟩
end
theorem walk_g {l : PySem.W.OpenLaw} {n k : Nat} {q : Program} {loose : List Str} {XP : (Str → Option Value) → Heap → Prop} {YP : World → Heap → Prop} {d : DefRec} {K : Params → PySem.W.Frag} {sp : PySem.W.Frag → Sp} {x : Str}
    (hn : l.most = some n) (hn2 : n ≤ sizeLine) (hdf : d.params.defaults = []) (hr : Room k callerA) (hY : ∀ (w : World) (h : Heap), YP w h → (K w.params).In h)
    (F : ∀ (w : World) (mg : Str → Option Value) (fa : Addr) (h : Heap), (K w.params).In h → h.Ns mainGlobals mg → mg d.name = some (.ref fa) →
      ∃ fd : FuncData, (∀ (s : Shared) (u : Value), BindsTo s fd ⟨[u], []⟩ [(x, u)]) ∧ ∀ base : Heap, (K w.params).In base → base.Ns mainGlobals mg → FnG l.prog w (K w.params) mg base k fa fd [x] (sp (K w.params)))
    (hsp : ∀ (K : PySem.W.Frag) (H : Hp) (a : Addr) (ns : List Int), ns.length ≤ n → Only H → SqL K H a (ns.map V.int) → sp K [.ref a] H (fun v _ => v = .bl true) C8.E0) :
    PySem.W.WalkO q loose XP YP l.row.toRowW d [] (fun f vs => PySem.call f vs) := by
  refine Att.attach_call hn hdf ?_
  intro w s0 s1 mg mb fa o pm cd doc a vs ns G Y ho hd hcd hmg hobj hints hlen hg
  obtain ⟨fd, hb, hF⟩ := F w mg fa _ (hY w _ Y) G.T.g hmg
  exact law_g (hY w _ Y) G.T.g G.T.b G.T.builtins G.T.nolimit hg hobj hints (Nat.le_trans hlen hn2) hr hF hb fun H hO hS => hsp _ H a ns hlen hO hS
end NB

set_option Elab.async false
set_option linter.all false
set_option maxRecDepth 100000
/-! B5: set(xs) of different texts, its length -/
namespace NB
open PySem PySem.Spec PyProof.Rows L2

theorem str_at : ∀ {us : List Value} {xs : List Str}, Vals (xs.map V.str) us → ∀ (i : Nat) (v : Value), us[i]? = some v → ∃ t, v = .str (xs.getD i Str.empty) t
  | _, [], .nil, i, v, h => by simp at h
  | _, x :: xs, .cons r q, 0, v, h => by
    obtain ⟨t, rfl⟩ := r
    simp at h
    exact ⟨t, h.symm⟩
  | _, x :: xs, .cons r q, i + 1, v, h => by
    simp only [List.getElem?_cons_succ] at h
    obtain ⟨t, e⟩ := str_at q i v h
    exact ⟨t, by rw [e]; rfl⟩
/-- membership in the first i of them -/
def inF (xs : List Str) (i : Nat) : Str → Bool := fun y => decide (y ∈ xs.take i)
theorem inF_succ {xs : List Str} {i : Nat} (h : i < xs.length) (y : Str) : (inF xs i y || decide (y = xs.getD i Str.empty)) = inF xs (i + 1) y := by
  have e : xs.getD i Str.empty = xs[i] := by simp [List.getD, h]
  rw [e]
  unfold inF
  rw [Bool.eq_iff_iff]
  simp only [Bool.or_eq_true, decide_eq_true_eq]
  rw [← List.take_append_getElem h]
  simp only [List.mem_append, List.mem_singleton]
theorem inF_new {xs : List Str} (nd : xs.Nodup) {i : Nat} (h : i < xs.length) : inF xs i (xs.getD i Str.empty) = false := by
  have e : xs.getD i Str.empty = xs[i] := by simp [List.getD, h]
  rw [e]
  refine decide_eq_false fun m => ?_
  obtain ⟨j, hj, e2⟩ := List.mem_iff_getElem.mp m
  rw [List.length_take] at hj
  rw [List.getElem_take] at e2
  have := (List.getElem_inj nd).mp e2
  omega
section
variable {prog : Program} {w : World} {A : Around} {R : Result → Shared → Prop} {I : Addr} {fp wr : List Addr} {G : Array GenState → Array GenState → Prop} {n : Nat} {Pv : Nat → Value → Prop} {St' : Nat → Shared → Prop}
theorem upd_strs (W : WalksS prog w A.in1 I fp wr G n Pv St') (S : Addr) (hSf : S ∉ fp) (xs : List Str) (hsz : xs.length = n) (nd : xs.Nodup) (hn : n + 1 < scanBound) (hval : ∀ i v, Pv i v → ∃ t, v = .str (xs.getD i Str.empty) t) :
    ∀ (k i : Nat) (s : Shared), n - i = k → i ≤ n → St' i s → s.heap.SetOf (PySem.strKind prog w) S (inF xs i) i →
      (∀ s', Moved (S :: wr) G s s' → s'.heap.SetOf (PySem.strKind prog w) S (inF xs n) n → R (.ok (.ret .none)) s') →
      codeAny (model prog w) A (.builtin "set.update.loop" ⟨[.ref S, .ref I], []⟩) R s := by
  have away : S ∉ wr := fun h => hSf (W.sub _ h)
  have more : ∀ b ∈ wr, b ∈ S :: wr := fun b hb => List.mem_cons_of_mem _ hb
  have carry : ∀ {s s' : Shared} {f : Str → Bool} {m : Nat}, Moved wr G s s' → s.heap.SetOf (PySem.strKind prog w) S f m → s'.heap.SetOf (PySem.strKind prog w) S f m := by
    rintro s s' f m mv ⟨o, es, ep, tb, ho, rest⟩
    exact ⟨o, es, ep, tb, mv.heap S _ away ho, rest⟩
  intro k
  induction k with
  | zero =>
    intro i s hk hi hst hS hR
    obtain rfl : i = n := by omega
    refine codeAny_builtin PyProof.Rows.F.entry_set_update_loop ?_
    rw [Around.under_plainId PyProof.Rows.F.plain_set_update_loop _]
    show wpAny _ A.in1 (pyNext (.ref I) >>= _) _ _ s
    exact wpAny_bind (W.done s _ _ hst fun s' mv => wpAny_pure (hR s' (mv.mono more) (carry mv hS)))
  | succ k ih =>
    intro i s hk hi hst hS hR
    have hlt : i < n := by omega
    have hlx : i < xs.length := by omega
    refine codeAny_builtin PyProof.Rows.F.entry_set_update_loop ?_
    rw [Around.under_plainId PyProof.Rows.F.plain_set_update_loop _]
    show wpAny _ A.in1 (pyNext (.ref I) >>= _) _ _ s
    refine wpAny_bind (W.item i s _ _ hlt hst fun v s' hP hst' mv => ?_)
    obtain ⟨t, rfl⟩ := hval i v hP
    show wpAny _ A.in1 (holding _ (setAdd S (.str (xs.getD i Str.empty) t)) >>= _) _ _ s'
    refine wpAny_bind (wpAny_holding ?_)
    unfold setAdd
    refine wpAny_holding (wpAny_bind ((PySem.strKind prog w).pyHash (k := xs.getD i Str.empty) (strKind_is _ _ _ _) ?_))
    refine wpAny_setAddHashed_of (knd := PySem.strKind prog w) (s := { s' with toks := s'.toks + 1 }) (strKind_is _ _ _ _) rfl (show s'.heap.SetOf _ _ _ _ from carry mv hS) (by omega) fun h' hsb hS2 => ?_
    rw [inF_new nd hlx] at hS2
    have hS3 : h'.SetOf (PySem.strKind prog w) S (inF xs (i + 1)) (i + 1) := SetOf_congr hS2 (fun y => inF_succ hlx y) (by simp)
    have off : ∀ {b : Addr}, b ∈ fp → b ≠ S := fun {b} hb e => hSf (by rw [← e]; exact hb)
    refine wpAny_pure ⟨plainId_quiet PyProof.Rows.F.plain_set_update_loop _, ih (i + 1) _ (by omega) hlt (W.frame _ s' _ _ hst' (Nat.le_succ _) fun b hb o e => ?_) hS3 fun s2 mv2 hS4 => ?_⟩
    · exact (hsb.2 b (off hb)).trans e
    · refine hR s2 (Moved.trans W.gtrans ((mv.mono more).then_heap (Nat.le_succ _) fun b o hb e => ?_) mv2) hS4
      exact (hsb.2 b fun z => hb (by rw [z]; exact List.mem_cons_self)).trans e
end
section
variable {prog : Program} {w : World} {A : Around} {E : Value → Shared → Prop} {s : Shared}
/-- a new empty set -/
abbrev set0 (led : Bool) : Obj := { cls := .type "set", dict := none, data := .set #[] 0 (.fresh 0 0 led) }
set_option maxHeartbeats 3200000 in
theorem call_set_strs {l : Addr} {items : Array Value} {xs : List Str} {Q : Value → Shared → Prop} (hh : A.handled = none) (hl : s.heap.IsList l items) (hi : Vals (xs.map V.str) items.toList) (nd : xs.Nodup) (hn : xs.length + 1 < scanBound)
    (h : ∀ (h' : Heap) (tk : Nat), h'.SetOf (PySem.strKind prog w) s.heap.objs.size (inF xs xs.length) xs.length →
      (∀ b o, b < s.heap.objs.size → s.heap.get? b = some o → h'.get? b = some o) → Q (.ref s.heap.objs.size) { s with heap := h', toks := tk }) :
    wpAny (model prog w) A (call (.type "set") [.ref l]) Q E s := by
  have hsz : xs.length = items.size := by have := hi.length; simpa using this
  obtain ⟨c, tl, e_mro⟩ := PySem.F.called_set.mro
  have e_made := PySem.F.called_set.made
  have e_sub := PySem.F.called_set.sub
  have e_type := PySem.F.called_set.notType
  have e_can := PySem.F.called_set.canCreate
  have e_check := PySem.F.typeCall_set_1 (.ref l)
  refine wpAny_call (codeAny_of_tree (show wpAny _ _ (callAny (.type "set") _) _ _ _ from wpAny_pure ⟨Code.quiet_builtin _ (by decide +kernel), codeAny_builtin PySem.F.entry_type_call ?_⟩))
  rw [Around.under_plain (weight_type_call_type "set" [.ref l] []) rfl]
  repeat (any_goals (first | assumption | wp_step))
  refine codeAny_mono (code_set_new_1 (.ref l) (E := E) (Q₁ := fun u z => ∃ led : Bool, u = .ref s.heap.objs.size ∧ z = { s with heap := s.heap.push (set0 led) }) fun led => ⟨led, rfl, rfl⟩) fun r s1 hr => ?_
  rcases r with e | fl
  · exact hr
  cases fl <;> first | exact hr.elim | skip
  obtain ⟨led, rfl, rfl⟩ := hr
  have hS : (s.heap.push (set0 led)).get? s.heap.objs.size = some (set0 led) := Heap.get?_push_size _ rfl
  have hT : Shared.TypeIs { s with heap := s.heap.push (set0 led) } (.ref s.heap.objs.size) "set" := ⟨_, hS, rfl⟩
  have e_init := PySem.F.called_set.init.lookup
  have e_bind := PySem.F.called_set.init.bind (.ref s.heap.objs.size)
  repeat (any_goals (first | assumption | wp_step))
  refine codeAny_mono (codeAny_call_builtin (R := wants (fun u z => u = .none ∧ ∃ h' tk, z = { s with heap := h', toks := tk } ∧ h'.SetOf (PySem.strKind prog w) s.heap.objs.size (inF xs xs.length) xs.length ∧
      (∀ b o, b < s.heap.objs.size → s.heap.get? b = some o → h'.get? b = some o)) E) PySem.F.called_set.init.plain PySem.F.entry_set_init (check_set_init_1 hT ?_)) fun r2 s2 hr2 => ?_
  · obtain ⟨⟨ocls, odict, odata, oslots⟩, hol, hcl, nl, hdl⟩ := hl
    simp only at hcl hdl
    subst hcl; subst hdl
    have hol2 : (s.heap.push (set0 led)).get? l = some { cls := .type "list", dict := odict, data := .seq items nl, slots := oslots } := Heap.get?_push_of_some _ hol
    have f1 := PySem.F.sub_list_set
    have f2 := PySem.F.sub_list_frozenset
    have f3 : (Value.type "list" == Value.type "dict") = false := by decide
    have hl1 : (s.heap.push (set0 led)).IsList l items := ⟨_, hol2, rfl, nl, rfl⟩
    unfold Builtin.«set.__init__» noKeywords Builtin.Frozenset.updateFrom
    generalize hPI : pyIter = PI
    wp_walk
    subst hPI
    refine wpAny_pyIter_list hl1 (wpAny_bind (wpAny_runValue ?_))
    have hlS : l < s.heap.objs.size := Heap.lt_size hol
    have size1 : (s.heap.push (set0 led)).objs.size = s.heap.objs.size + 1 := Heap.size_push _ _
    refine upd_strs ((Walks.list (by simp [hh]) _ l (by rw [size1]; exact Nat.ne_of_lt (Nat.lt_succ_of_lt hlS)) items).toS) s.heap.objs.size ?hSf xs hsz nd (by rw [← hsz]; exact hn)
      (fun i v hv => str_at hi i v (by rw [Array.getElem?_toList]; exact hv)) (items.size - 0) 0 _ (by omega) (Nat.zero_le _) ⟨⟨_, Heap.get?_push_size _ rfl, rfl, rfl⟩, (hl1.push _)⟩ ?hS0 ?hR
    case hSf =>
      rw [size1]
      intro z
      rcases List.mem_cons.mp z with z | z
      · exact Nat.ne_of_lt (Nat.lt_succ_self _) z
      · exact Nat.ne_of_gt hlS (List.mem_singleton.mp z)
    case hS0 =>
      have z : ((s.heap.push (set0 led)).push { cls := .type "list_iterator", data := .fields #[.ref l, .int 0 0] }).get? s.heap.objs.size = some (set0 led) := Heap.get?_push_of_some _ hS
      exact PyProof.Rows.SetOf_congr ((PyProof.Rows.setObjOf_fresh (knd := PySem.strKind prog w) led).setOf z (by unfold scanBound; omega)) (fun y => by simp [inF]) rfl
    case hR =>
      intro z mv hz
      obtain ⟨h', g', d', tk', os'⟩ := z
      obtain rfl : g' = s.gens := mv.gens
      obtain rfl : d' = s.drawn := mv.drawn
      obtain rfl : os' = s.os := mv.os
      show wpAny _ _ _ _ _ _
      refine wpAny_pure ?_
      show wpAny _ _ (ret Value.none) _ _ _
      rw [← hsz] at hz
      refine wpAny_pure ⟨rfl, h', tk', rfl, hz, fun b o hb e => mv.heap b o ?_ (Heap.get?_push_of_some _ (Heap.get?_push_of_some _ e))⟩
      rw [size1]
      intro q
      rcases List.mem_cons.mp q with q | q
      · exact Nat.ne_of_lt hb q
      · exact Nat.ne_of_lt (Nat.lt_succ_of_lt hb) (List.mem_singleton.mp q)
  · rcases r2 with e | fl2
    · exact hr2
    cases fl2 <;> first | exact hr2.elim | skip
    obtain ⟨rfl, h', tk, rfl, hz, keep⟩ := hr2
    repeat (any_goals (first | assumption | wp_step))
    exact h _ _ hz keep
end
/-- len(set(xs)), xs a list of different texts -/
def mLenSet (K : PySem.W.Frag) (ta : TE) : TE := fun σ H Q => ta σ H fun x H1 => ∃ (l : Addr) (xs : List Str), x = V.ref l ∧ SqL K H1 l (xs.map V.str) ∧ xs.length ≤ 1000 ∧ xs.Nodup ∧ Q (.int xs.length) H1
section
variable {X : Cx}
theorem pe_lenSetS {a : Expr} {ta : TE} {p p2 q pos : Pos} (hc : X.calm = true) (hg : Gl X "len") (hm : X.mg "len" = none) (hg2 : Gl X "set") (hm2 : X.mg "set" = none) (ha : PE X a ta)
    (na : starEach [a] X.env = (false, eval a X.env) :: starEach [] X.env := by rfl) : PE X (.Call (.Name "len" p) [.Call (.Name "set" p2) [a] [] q] [] pos) (mLenSet X.K ta) := by
  refine ⟨fun pins s σ H Q I h => Call_ (ld_blt I hg hm PySem.boot_len (PyProof.Rows.callWith_builtin1 (PyProof.Rows.args_cons ?_ rfl) rfl rfl))⟩
  refine Call_ (ld_blt I hg2 hm2 PyProof.Rows.boot_set (PyProof.Rows.callWith_type1 (PyProof.Rows.args_cons (thn (ha.run pins s σ H _ I h) fun v s1 z => PyProof.Rows.args_nil ?_) na) na rfl))
  obtain ⟨x, H1, I1, r1, l, xs, rfl, hq, h1, nd, q1⟩ := z
  cases r1
  obtain ⟨its, r, pl, _⟩ := I1.list hq
  refine call_set_strs (xs := xs) (I1.ok.hd hc) pl.isList (by simpa using r) nd (by unfold scanBound; omega) fun h' tk hS hk => PyProof.Rows.args_nil ?_
  obtain ⟨o, es, ep, t, ho, hex, hd, _, _, _, hf, hn⟩ := hS
  have I2 : Inv X pins σ H1 { s1 with heap := h', toks := tk } := I1.kept fun b o e => hk b o (Heap.lt_size e) e
  exact call_len_set ho hex hd hf (by rw [hn]; omega) ⟨.int xs.length, H1, I2.tok _, ⟨_, by rw [hn]⟩, q1⟩
end
end NB

set_option Elab.async false
set_option linter.all false
set_option maxRecDepth 100000
/-! D1: the data of logs, what the top must have, promises -/
namespace NB
open PySem PySem.Spec L2
open PyProof.Rows (envOfC)

/-! ### data -/
/-- a name: one to eight small letters -/
def nameB (z : Str) : Bool := decide (1 ≤ z.length) && decide (z.length ≤ 8) && z.cps.toList.all fun c => decide (97 ≤ c) && decide (c ≤ 122)
structure CrewOk (ns : List Str) : Prop where
  one : 1 ≤ ns.length
  few : ns.length ≤ 12
  nam : ∀ z ∈ ns, nameB z = true
  nd : ns.Nodup
structure EntsOk (ns : List Str) (es : List (Str × Int)) : Prop where
  few : es.length ≤ 200
  ok : ∀ e ∈ es, e.1 ∈ ns ∧ 0 ≤ e.2
def SizeOk (sz : Int) : Prop := 1 ≤ sz ∧ sz ≤ 10 ^ 30
/-- v is the tuple of e -/
def EntAt (H : Hp) (e : Str × Int) (v : V) : Prop := ∃ p, v = .ref p ∧ H p = some (.tup [.str e.1, .int e.2])
abbrev EntL (H : Hp) : List (Str × Int) → List V → Prop := Paired (EntAt H)
theorem EntAt.mono {H H' : Hp} {e : Str × Int} {v : V} (h : EntAt H e v) (x : Ext H H') : EntAt H' e v := by
  obtain ⟨p, rfl, q⟩ := h
  exact ⟨p, rfl, x _ _ q⟩
theorem EntL.mono {H H' : Hp} {es : List (Str × Int)} {vs : List V} (h : EntL H es vs) (x : Ext H H') : EntL H' es vs := Paired.mapP h fun _ _ q => EntAt.mono q x
theorem upd_none {H : Hp} {p d : Addr} {o : HO} (h : upd H p o d = none) : d ≠ p ∧ H d = none := by
  by_cases e : d = p
  · rw [e, upd_same] at h; cases h
  · exact ⟨e, by rw [upd_ne e] at h; exact h⟩
theorem Ext.free {H H' : Hp} (e : Ext H H') {l : Addr} (h : H' l = none) : H l = none := Same.free (show Same H H' from e) h
/-- tuples stand under every change -/
def TupSt (H H' : Hp) : Prop := ∀ a xs, H a = some (.tup xs) → H' a = some (.tup xs)
theorem TupSt.ext {H H' : Hp} (x : Ext H H') : TupSt H H' := fun a xs h => x a _ h
theorem TupSt.upd {H : Hp} {p : Addr} {o u : HO} (h : H p = some u) (d : ∀ xs, u ≠ .tup xs) : TupSt H (L2.upd H p o) := fun a xs e => by
  rw [upd_ne (ne_of e h (fun z => d xs z.symm))]; exact e
theorem TupSt.trans {H H1 H2 : Hp} (a : TupSt H H1) (b : TupSt H1 H2) : TupSt H H2 := fun c xs h => b c xs (a c xs h)
theorem EntL.st {H H' : Hp} {es : List (Str × Int)} {vs : List V} (h : EntL H es vs) (x : TupSt H H') : EntL H' es vs := Paired.mapP h fun _ _ q => by
  obtain ⟨p, e, q⟩ := q
  exact ⟨p, e, x _ _ q⟩
theorem Frm.tups {p : Addr} {H H' : Hp} {o : HO} (f : Frm [p] H H') (hp : H p = some o) (d : ∀ xs, o ≠ .tup xs) : TupSt H H' := fun a xs h => f a _ h fun z => by
  rw [List.mem_singleton.mp z, hp] at h
  exact d xs (Option.some.inj h)
theorem mem1 {p : Addr} : p ∈ [p] := List.mem_singleton.mpr rfl
/-- readings of tests -/
theorem kNe {i j : Int} {Q : Bool → Hp → Prop} {H : Hp} (h : Q (!decide (i = j)) H) : mEqG (fun b => !b) (.int i) (.int j) H (kB Q) := h
theorem kEq {i j : Int} {Q : Bool → Hp → Prop} {H : Hp} (h : Q (decide (i = j)) H) : mEqG (fun b => b) (.int i) (.int j) H (kB Q) := h
theorem kNeS {i j : Str} {Q : Bool → Hp → Prop} {H : Hp} (h : Q (!decide (i = j)) H) : mEqG (fun b => !b) (.str i) (.str j) H (kB Q) := h
theorem kEqS {i j : Str} {Q : Bool → Hp → Prop} {H : Hp} (h : Q (decide (i = j)) H) : mEqG (fun b => b) (.str i) (.str j) H (kB Q) := h
theorem kNeB {i j : Bool} {Q : Bool → Hp → Prop} {H : Hp} (h : Q (!decide (i = j)) H) : mEqG (fun b => !b) (.bl i) (.bl j) H (kB Q) := h
theorem kI {c : Bool} {Q : Bool → Hp → Prop} {H : Hp} (h : Q c H) : kB Q (.bl c) H := h
/-- the fields of a log as __init__ stores them -/
def lf (sz : Int) (ls le : Addr) : List (Str × V) := putF "held_entries" (.ref le) (putF "held_servers" (.ref ls) (putF "held_size" (.int sz) []))
theorem lf_size (sz : Int) (ls le : Addr) : (lf sz ls le).lookup ("held_size" : Str) = some (.int sz) := by
  unfold lf
  rw [lookup_putF, if_neg (by decide +kernel), lookup_putF, if_neg (by decide +kernel), lookup_putF, if_pos rfl]
theorem lf_servers (sz : Int) (ls le : Addr) : (lf sz ls le).lookup ("held_servers" : Str) = some (.ref ls) := by
  unfold lf
  rw [lookup_putF, if_neg (by decide +kernel), lookup_putF, if_pos rfl]
theorem lf_entries (sz : Int) (ls le : Addr) : (lf sz ls le).lookup ("held_entries" : Str) = some (.ref le) := by
  unfold lf
  rw [lookup_putF, if_pos rfl]
theorem lf_no (sz : Int) (ls le : Addr) {m : Str} (h1 : ¬ m = "held_entries") (h2 : ¬ m = "held_servers") (h3 : ¬ m = "held_size") : (lf sz ls le).lookup m = none := by
  unfold lf
  rw [lookup_putF, if_neg h1, lookup_putF, if_neg h2, lookup_putF, if_neg h3]
  rfl
/-- a log of the class at C stands at p -/
def LogAt (C : Addr) (H : Hp) (p : Addr) (sz : Int) (ns : List Str) (es : List (Str × Int)) : Prop :=
  ∃ dx ls le vs, H p = some (.ins C dx (lf sz ls le)) ∧ H ls = some (.lst (ns.map V.str)) ∧ H le = some (.lst vs) ∧ EntL H es vs
theorem LogAt.mono {C : Addr} {H H' : Hp} {p : Addr} {sz : Int} {ns : List Str} {es : List (Str × Int)} (h : LogAt C H p sz ns es) (x : Ext H H') : LogAt C H' p sz ns es := by
  obtain ⟨dx, ls, le, vs, h1, h2, h3, h4⟩ := h
  exact ⟨dx, ls, le, vs, x _ _ h1, x _ _ h2, x _ _ h3, h4.mono x⟩

/-! ### what is an entry -/
inductive SrvJ (K : PySem.W.Frag) (H : Hp) (ns : List Str) : V → Bool → Prop where
  | str (z : Str) : SrvJ K H ns (.str z) (decide (z ∈ ns))
  | kind {x : V} {t : Value} : TyX K H x t → PySem.W.kitOne K t (.type "str") = some false → SrvJ K H ns x false
inductive IntJ (K : PySem.W.Frag) (H : Hp) : V → Bool → Prop where
  | int (i : Int) : IntJ K H (.int i) true
  | bl (b : Bool) : IntJ K H (.bl b) false
  | kind {x : V} {t : Value} : TyX K H x t → PySem.W.kitOne K t (.type "int") = some false → IntJ K H x false
inductive Jd (K : PySem.W.Frag) (H : Hp) (ns : List Str) : V → Option (Str × Int) → Prop where
  | kind {x : V} {t : Value} : TyX K H x t → PySem.W.kitOne K t (.type "tuple") = some false → Jd K H ns x none
  | size {p : Addr} {xs : List V} : H p = some (.tup xs) → xs.length ≠ 2 → Jd K H ns (.ref p) none
  | srv {p : Addr} {x y : V} : H p = some (.tup [x, y]) → SrvJ K H ns x false → Jd K H ns (.ref p) none
  | num {p : Addr} {x y : V} : H p = some (.tup [x, y]) → SrvJ K H ns x true → IntJ K H y false → Jd K H ns (.ref p) none
  | neg {p : Addr} {x : V} {i : Int} : H p = some (.tup [x, .int i]) → SrvJ K H ns x true → i < 0 → Jd K H ns (.ref p) none
  | ok {p : Addr} {z : Str} {i : Int} : H p = some (.tup [.str z, .int i]) → z ∈ ns → 0 ≤ i → Jd K H ns (.ref p) (some (z, i))

/-! ### what the top must have -/
structure LogC (K : PySem.W.Frag) (C : Addr) (kd : Str) : Prop where
  cl : Cls K C
  nS : NoAttr K C "held_size"
  nV : NoAttr K C "held_servers"
  nE : NoAttr K C "held_entries"
  kd : ∃ u, Con K C "KIND" (.str kd) u
  ty : ∀ H p dx fs, H p = some (.ins C dx fs) → TyX K H (.ref p) (.ref C)
  nt : PySem.W.kitOne K (.ref C) (.type "tuple") = some false
abbrev GV (mg : Str → Option Value) (x : Str) (v : V) : Prop := ∃ u, mg x = some u ∧ RelV v u
structure Blt (mg : Str → Option Value) : Prop where
  n_len : mg "len" = none
  n_isinstance : mg "isinstance" = none
  n_int : mg "int" = none
  n_bool : mg "bool" = none
  n_str : mg "str" = none
  n_list : mg "list" = none
  n_tuple : mg "tuple" = none
  n_all : mg "all" = none
  n_set : mg "set" = none
  n_max : mg "max" = none
  n_min : mg "min" = none
  n_abs : mg "abs" = none
  n_range : mg "range" = none
  n_repr : mg "repr" = none
abbrev LETT : Str := "abcdefghijklmnopqrstuvwxyz"
structure Tx (K : PySem.W.Frag) (mg : Str → Option Value) (cL cX : Addr) : Prop extends Blt mg where
  g_GREATEST_SIZE : GV mg "GREATEST_SIZE" (.int (10 ^ 30))
  g_MOST_SERVERS : GV mg "MOST_SERVERS" (.int 12)
  g_MOST_LETTERS : GV mg "MOST_LETTERS" (.int 8)
  g_MOST_ENTRIES : GV mg "MOST_ENTRIES" (.int 200)
  g_LETTERS : GV mg "LETTERS" (.str LETT)
  g_LOSING : GV mg "LOSING" (.str "losing")
  g_Log : GV mg "Log" (.ref cL)
  g_LosingLog : GV mg "LosingLog" (.ref cX)
  cl1 : LogC K cL "steady"
  cl2 : LogC K cX "losing"
  ll : PySem.W.kitOne K (.ref cL) (.ref cL) = some true
  xl : PySem.W.kitOne K (.ref cX) (.ref cL) = some true
  lx : PySem.W.kitOne K (.ref cL) (.ref cX) = some false
  xx : PySem.W.kitOne K (.ref cX) (.ref cX) = some true
/-- a def of the module -/
structure Dx (K : PySem.W.Frag) (mg : Str → Option Value) (x : Str) (st : Stmt) (ps : List Str) : Prop where
  ex : ∃ f fd, C8.Def K mg x st f fd ∧ Binds K fd ps []
/-- a method's def -/
structure Mx (K : PySem.W.Frag) (m qual : Str) (st : Stmt) (ps : List Str) (f : Addr) (fd : FuncData) : Prop where
  fn : C8.Fun K m qual st f fd
  b : Binds K fd ps []
section
variable {P : Program} {w : World} {K : PySem.W.Frag} {mg : Str → Option Value} {base : Heap}
theorem cal_of {x : Str} {st : Stmt} {N ps : List Str} {k : Nat} {sp : Sp} (D : Dx K mg x st ps) (S : FnScope N ps (C8.fnScope st)) (len : ∀ vs H Q E, sp vs H Q E → vs.length = ps.length)
    (hb : ∀ (f : Addr) (cdv : Value) (A : Around) (o : List Env) (s : Shared) (H : Hp) (vs : List V) (Q : VK) (E : XK), Room k (A.deeper (envOfC x (C8.fnScope st) s.heap.objs.size f cdv)) → sp vs H Q E →
      ∃ t, PSs (cxOf C8.CX0 P w K mg base N x (C8.fnScope st) f cdv A o s H E).nox (C8.fnBody st) t ∧ t { nx := fun _ H' => Q .non H', rt := Q } (start N vs) H) : C8.Cal P w K mg base (k + 1) x sp [] := by
  obtain ⟨f, fd, F, b⟩ := D.ex
  exact C8.cal0 F b .nil S len fun cdv A o s H vs Q E hr h => hb f cdv A o s H vs Q E hr h
theorem calG_of {x : Str} {st : Stmt} {N ps : List Str} {k : Nat} {sp : Sp} (D : Dx K mg x st ps) (S : FnScope N ps (C8.fnScope st)) (len : ∀ vs H Q E, sp vs H Q E → vs.length = ps.length)
    (hb : ∀ (f : Addr) (cdv : Value) (A : Around) (o : List Env) (s : Shared) (H : Hp) (vs : List V) (Q : VK) (E : XK), Room k (A.deeper (envOfC x (C8.fnScope st) s.heap.objs.size f cdv)) → A.guards = some [] → sp vs H Q E →
      ∃ t, PSs (cxOf C8.CX0 P w K mg base N x (C8.fnScope st) f cdv A o s H E).nox (C8.fnBody st) t ∧ t { nx := fun _ H' => Q .non H', rt := Q } (start N vs) H) : CalG P w K mg base (k + 1) x sp := by
  obtain ⟨f, fd, F, b⟩ := D.ex
  exact ⟨f, fd, ps, fnG_of F.fn S len fun cdv A o s H vs Q E hr hgd h => hb f cdv A o s H vs Q E hr hgd h, F.mgf, F.kp, b⟩
theorem fn_of' {m qual : Str} {st : Stmt} {f : Addr} {fd : FuncData} {N ps : List Str} {k : Nat} {sp : Sp} (D : Mx K m qual st ps f fd) (S : FnScope N ps (C8.fnScope st)) (len : ∀ vs H Q E, sp vs H Q E → vs.length = ps.length)
    (hb : ∀ (cdv : Value) (A : Around) (o : List Env) (s : Shared) (H : Hp) (vs : List V) (Q : VK) (E : XK), Room k (A.deeper (envOfC qual (C8.fnScope st) s.heap.objs.size f cdv)) → sp vs H Q E →
      ∃ t, PSs (cxOf C8.CX0 P w K mg base N qual (C8.fnScope st) f cdv A o s H E).nox (C8.fnBody st) t ∧ t { nx := fun _ H' => Q .non H', rt := Q } (start N vs) H) : FnOk P w K mg base C8.CX0 (k + 1) f fd ps sp :=
  C8.fn0 D.fn S len hb
end
theorem u65 {k : Nat} {A : Around} (hr : Room k A) : A.units + 65 < cLine := by have := hr.un; omega
/-! ### a comprehension over a text -/
theorem lc_txt {x : Str} {g : TG} {tt : TT} {te : TE} {vs : List Nat} {σ : L2.St} {H1 : Hp} {D : Addr} {Qd : Hp → Prop} (Pv : Nat → Hp → Prop) (h0 : Pv 0 (upd H1 D (.lst [])))
    (hs : ∀ i c H, x.cps.toList[i]? = some c → Pv i H → g (.str ⟨#[c]⟩) (wipe σ vs) H fun σ2 H2 => wipe σ2 vs = wipe σ vs ∧ tt σ2 H2 fun b H3 =>
      if b = true then te σ2 H3 fun y H4 => ∃ acc, H4 D = some (.lst acc) ∧ acc.length < sizeLine ∧ Pv (i + 1) (upd H4 D (.lst (acc ++ [y]))) else Pv (i + 1) H3) (hd : ∀ H, Pv x.cps.size H → Qd H) :
    ∃ W : Nat → Nat → Hp → Prop, (∃ m, W 0 m (upd H1 D (.lst []))) ∧ ∀ i m H, W i m H →
      ((Its x).stop i H ∧ Qd H) ∨ ((Its x).go i H ∧ ∃ Nx : Hp → Prop, (∀ H', Nx H' → ∃ m', m' < m ∧ W (i + 1) m' H') ∧ ∀ y H', (Its x).yld i H y H' → g y (wipe σ vs) H' fun σ2 H2 => wipe σ2 vs = wipe σ vs ∧ tt σ2 H2 fun b H3 =>
        if b = true then te σ2 H3 fun y H4 => ∃ acc, H4 D = some (.lst acc) ∧ acc.length < sizeLine ∧ Nx (upd H4 D (.lst (acc ++ [y]))) else Nx H3) := by
  refine ⟨fun i m H => m = x.cps.size - i ∧ i ≤ x.cps.size ∧ Pv i H, ⟨x.cps.size, by simp, Nat.zero_le _, h0⟩, ?_⟩
  rintro i m H ⟨rfl, hi, p⟩
  rcases Nat.lt_or_ge i x.cps.size with h | h
  · refine .inr ⟨h, Pv (i + 1), fun H' p' => ⟨x.cps.size - (i + 1), by omega, rfl, h, p'⟩, ?_⟩
    rintro y H' ⟨rfl, c, e, rfl⟩
    exact hs i c _ (by rw [Array.getElem?_toList]; exact e) p
  · obtain rfl : i = x.cps.size := by omega
    exact .inl ⟨Nat.le_refl _, hd H p⟩
end NB

set_option Elab.async false
set_option linter.all false
set_option maxRecDepth 100000
/-! D2 (k81): what the top must have where two modules have the same names -/
namespace NB
open PySem PySem.Spec L2
open PyProof.Rows (envOfC)
structure Tz (K : PySem.W.Frag) (mg : Str → Option Value) (cL cX : Addr) : Prop extends Blt mg where
  n_enumerate : mg "enumerate" = none
  g_GREATEST_SIZE : GV mg "GREATEST_SIZE" (.int (10 ^ 30))
  g_MOST_SERVERS_logs : GV mg "MOST_SERVERS_logs" (.int 12)
  g_MOST_LETTERS_logs : GV mg "MOST_LETTERS_logs" (.int 8)
  g_MOST_ENTRIES_logs : GV mg "MOST_ENTRIES_logs" (.int 200)
  g_LETTERS_logs : GV mg "LETTERS_logs" (.str LETT)
  g_LOSING : GV mg "LOSING" (.str "losing")
  g_DIGITS : GV mg "DIGITS" (.str "0123456789")
  g_LETTERS_texts : GV mg "LETTERS_texts" (.str LETT)
  g_MOST_DIGITS : GV mg "MOST_DIGITS" (.int 60)
  g_MOST_LETTERS_texts : GV mg "MOST_LETTERS_texts" (.int 8)
  g_MOST_SERVERS_texts : GV mg "MOST_SERVERS_texts" (.int 12)
  g_MOST_ENTRIES_texts : GV mg "MOST_ENTRIES_texts" (.int 200)
  g_MOST_SIZE : GV mg "MOST_SIZE" (.int (10 ^ 30))
  g_AHEAD : GV mg "AHEAD" (.int 3)
  g_Log : GV mg "Log" (.ref cL)
  g_LosingLog : GV mg "LosingLog" (.ref cX)
  cl1 : LogC K cL "steady"
  cl2 : LogC K cX "losing"
  ll : PySem.W.kitOne K (.ref cL) (.ref cL) = some true
  xl : PySem.W.kitOne K (.ref cX) (.ref cL) = some true
  lx : PySem.W.kitOne K (.ref cL) (.ref cX) = some false
  xx : PySem.W.kitOne K (.ref cX) (.ref cX) = some true
/-- a def that stands in the globals by another name -/
structure Dy (K : PySem.W.Frag) (mg : Str → Option Value) (gx x : Str) (st : Stmt) (ps : List Str) : Prop where
  ex : ∃ f fd, C8.Fun K x x st f fd ∧ mg gx = some (.ref f) ∧ PySem.W.keepIn K (.ref f) = true ∧ Binds K fd ps []
section
variable {P : Program} {w : World} {K : PySem.W.Frag} {mg : Str → Option Value} {base : Heap}
theorem cal_ofA {gx x : Str} {st : Stmt} {N ps : List Str} {k : Nat} {sp : Sp} (D : Dy K mg gx x st ps) (S : FnScope N ps (C8.fnScope st)) (len : ∀ vs H Q E, sp vs H Q E → vs.length = ps.length)
    (hb : ∀ (f : Addr) (cdv : Value) (A : Around) (o : List Env) (s : Shared) (H : Hp) (vs : List V) (Q : VK) (E : XK), Room k (A.deeper (envOfC x (C8.fnScope st) s.heap.objs.size f cdv)) → sp vs H Q E →
      ∃ t, PSs (cxOf C8.CX0 P w K mg base N x (C8.fnScope st) f cdv A o s H E).nox (C8.fnBody st) t ∧ t { nx := fun _ H' => Q .non H', rt := Q } (start N vs) H) : C8.Cal P w K mg base (k + 1) gx sp [] := by
  obtain ⟨f, fd, F, m, kp, b⟩ := D.ex
  exact ⟨f, fd, ps, [], C8.fn0 F S len fun cdv A o s H vs Q E hr h => hb f cdv A o s H vs Q E hr h, m, kp, b, .nil⟩
end
end NB

set_option Elab.async false
set_option linter.all false
set_option maxRecDepth 100000
/-! D3: data that can be shown -/
namespace NB
open PySem PySem.Spec L2

structure Sm (W n : Nat) (d : PyData) : Prop where
  lay : d.canLay0 = true
  sho : d.showable = true
  nod : d.hasDict = false
  dep : d.depth ≤ n
  ish : d.intsShort 61 = true
  wt : d.weight ≤ W
theorem Sm.mono {W n W' n' : Nat} {d : PyData} (h : Sm W n d) (h1 : W ≤ W') (h2 : n ≤ n') : Sm W' n' d := ⟨h.lay, h.sho, h.nod, Nat.le_trans h.dep h2, h.ish, Nat.le_trans h.wt h1⟩
theorem pow_log {m : Nat} (h : m < 10 ^ 60) : m.log2 < 200 := by
  by_cases e : m = 0
  · subst e; decide
  · rw [Nat.log2_lt e]
    exact Nat.lt_of_lt_of_le h (by decide)
theorem Sm.int {i : Int} (h : i.natAbs < 10 ^ 60) : Sm 200 0 (.int i) := by
  have l := pow_log h
  refine ⟨rfl, ?_, rfl, Nat.le_refl _, ?_, ?_⟩
  · show decide (i.natAbs.log2 < 1920) = true
    exact decide_eq_true (by omega)
  · show decide ((PyData.shown (.int i)).length ≤ 61) = true
    refine decide_eq_true ?_
    show (Str.ofString (toString i)).length ≤ 61
    rw [PySem.ofString_length]
    exact int_text_length_le10 (k := 60) (by decide) h
  · show (if i == 0 then 0 else i.natAbs.log2 + 1) ≤ 200
    split <;> omega
theorem Sm.str {z : Str} (h : PyData.canLay0 (.str z) = true) (hl : z.length ≤ 100) : Sm 100 0 (.str z) := ⟨h, rfl, rfl, Nat.le_refl _, rfl, hl⟩
section
variable {W n : Nat}
theorem smAll : ∀ {ds : List PyData}, (∀ d ∈ ds, Sm W n d) → PyData.canLayAll0 ds = true ∧ PyData.showableAll ds = true ∧ PyData.hasDictAll ds = false ∧ PyData.depthAll ds ≤ n ∧ PyData.intsShortAll 61 ds = true ∧ PyData.weightAll ds ≤ (W + 1) * ds.length
  | [], _ => by simp [PyData.canLayAll0, PyData.showableAll, PyData.hasDictAll, PyData.depthAll, PyData.intsShortAll, PyData.weightAll]
  | d :: ds, h => by
    obtain ⟨h1, h2, h3, h4, h5, h6⟩ := smAll fun x hx => h x (List.mem_cons_of_mem _ hx)
    have g := h d List.mem_cons_self
    simp only [PyData.canLayAll0, PyData.showableAll, PyData.hasDictAll, PyData.depthAll, PyData.intsShortAll, PyData.weightAll, Bool.and_eq_true, Bool.or_eq_false_iff, List.length_cons]
    refine ⟨⟨g.lay, h1⟩, ⟨g.sho, h2⟩, ⟨g.nod, h3⟩, Nat.max_le.mpr ⟨g.dep, h4⟩, ⟨g.ish, h5⟩, ?_⟩
    have := g.wt
    rw [Nat.mul_add, Nat.mul_one]
    omega
theorem Sm.list {ds : List PyData} {m : Nat} (h : ∀ d ∈ ds, Sm W n d) (hm : ds.length ≤ m) : Sm ((W + 1) * m) (n + 1) (.list ds) := by
  obtain ⟨h1, h2, h3, h4, h5, h6⟩ := smAll h
  exact ⟨by simpa only [PyData.canLay0] using h1, by simpa only [PyData.showable] using h2, by simpa only [PyData.hasDict] using h3, by show PyData.depthAll ds + 1 ≤ n + 1; omega, by simpa only [PyData.intsShort] using h5,
    Nat.le_trans h6 (Nat.mul_le_mul (Nat.le_refl _) hm)⟩
theorem Sm.tuple {ds : List PyData} {m : Nat} (h : ∀ d ∈ ds, Sm W n d) (hm : ds.length ≤ m) : Sm ((W + 1) * m) (n + 1) (.tuple ds) := by
  obtain ⟨h1, h2, h3, h4, h5, h6⟩ := smAll h
  exact ⟨by simpa only [PyData.canLay0] using h1, by simpa only [PyData.showable] using h2, by simpa only [PyData.hasDict] using h3, by show PyData.depthAll ds + 1 ≤ n + 1; omega, by simpa only [PyData.intsShort] using h5,
    Nat.le_trans h6 (Nat.mul_le_mul (Nat.le_refl _) hm)⟩
theorem Sm.fits {d : PyData} (h : Sm W n d) (hW : W ≤ 200000) : d.shown.length ≤ sizeLine := by
  have h1 := PyData.shown_le 61 (by decide) d (PyData.leavesShort_of_canLay0 61 d h.lay h.ish)
  have h2 : (61 + 2) * d.weight ≤ 63 * 200000 := Nat.mul_le_mul (by decide) (Nat.le_trans h.wt hW)
  rw [sizeLine_eq]
  omega
theorem Sm.shaped {d : PyData} (h : Sm W n d) (hn : n ≤ 60) : SeqAt.shaped d = true := Bool.and_eq_true_iff.mpr ⟨h.lay, decide_eq_true (Nat.le_trans h.dep (by omega))⟩
end
/-- repr of it -/
theorem rep_of {K : PySem.W.Frag} {H : Hp} {v : V} {d : PyData} {W n : Nat} {Q : VK} (dp : Dp K H v d) (sm : Sm W n d) (hd : PyProof.Rows.isDisplay d = true) (hW : W ≤ 200000) (hn : n ≤ 60) (q : Q (.str d.shown) H) : mRep K [v] H Q :=
  ⟨v, d, rfl, dp, hd, sm.sho, sm.nod, Nat.le_trans sm.dep hn, sm.fits hW, q⟩
end NB

set_option Elab.async false
set_option linter.all false
set_option maxRecDepth 100000
/-! B7: defs that may raise; own +; methods by keywords -/
namespace NB
open PySem PySem.Spec L2
open PyProof.Rows (envOfC)

section
variable {P : Program} {w : World} {K : PySem.W.Frag} {mg : Str → Option Value} {base : Heap}
/-- as fn_of', for a def that may raise -/
theorem fnX_of' {m qual : Str} {st : Stmt} {f : Addr} {fd : FuncData} {N ps : List Str} {k : Nat} {sp : Sp} (D : Mx K m qual st ps f fd) (S : FnScope N ps (C8.fnScope st)) (len : ∀ vs H Q E, sp vs H Q E → vs.length = ps.length)
    (hb : ∀ (cdv : Value) (A : Around) (o : List Env) (s : Shared) (H : Hp) (vs : List V) (Q : VK) (E : XK), Room k (A.deeper (envOfC qual (C8.fnScope st) s.heap.objs.size f cdv)) → sp vs H Q E →
      ∃ t, PSs (cxOf (L2.CX P w) P w K mg base N qual (C8.fnScope st) f cdv A o s H E) (C8.fnBody st) t ∧ t { nx := fun _ H' => Q .non H', rt := Q } (start N vs) H) : FnOk P w K mg base (L2.CX P w) (k + 1) f fd ps sp := by
  obtain ⟨oc, od, dV, kV, doc, pm, an, cdv, ct, osl, rfl, lk, hcd⟩ := D.fn.ex
  exact fn_of lk hcd S len fun A outer s H vs Q E hr hsp => hb cdv A outer s H vs Q E hr hsp
end
section
variable {X : Cx} {k : Nat} {C f : Addr} {fd : FuncData} {ps : List Str} {sp : Sp} {E : XK} {CXf : CXT}
/-- a wish that no state is asked of -/
theorem passW {W : WX} (tk : Takes X W) : Passes (L2.CX X.prog X.w) X (fun c d H => ∀ σ, W c d σ H) := fun _ σ _ _ e s' I c => tk e s' (XE.of_call I (fun _ _ _ h => h σ) c)
/-- o + p, two own instances of one class -/
theorem own_add (F : FnOk X.prog X.w X.K X.mg X.base CXf k f fd ps sp) (hs : PySem.W.findIn X.K (.ref C) "__add__" = some (some (.ref f))) (hf : PySem.W.isFn X.K (.ref f) = true) (hc : PySem.W.selfFirst X.K C = true) (hb : Binds X.K fd ps []) (hr : Room k X.A) (hx : Passes CXf X E) :
    OpR X (binaryOp .Add) (fun x y H Q => ∃ a b dx dy fs gs, x = .ref a ∧ y = .ref b ∧ H a = some (.ins C dx fs) ∧ H b = some (.ins C dy gs) ∧ sp [.ref a, .ref b] H (fun v H' => (∃ q, v = .ref q) ∧ Q v H') E) := by
  intro pins s σ H x y v u Q I rx ry q
  obtain ⟨a, b, dx, dy, fs, gs, rfl, rfl, ha, hb', q⟩ := q
  cases rx
  cases ry
  obtain ⟨mA, O, _⟩ := ins_get I.hok ha
  obtain ⟨mB, O', _⟩ := ins_get I.hok hb'
  obtain ⟨od, J, _⟩ := O.look
  obtain ⟨od', J', _⟩ := O'.look
  obtain ⟨m, hF⟩ := I.fr
  refine PySem.W.binop_K (op := .Add) hF I.ok.mod.kin J J'.type hc hs hf ?_
  refine thn (run_fn F hr hb .nil hx I (vs := [.ref a, .ref b]) (.cons rfl (.cons rfl .nil)) q) fun r s' z => ?_
  obtain ⟨z, H', I', rz, ⟨q0, e⟩, kz⟩ := z
  subst e
  cases rz
  exact ⟨.ref q0, H', I', rfl, kz⟩
variable {m : Str} {o : Expr} {kws : List Keyword} {ks : List Str} {g : List Value → List Value → List Value} {gV : List V → List V → List V} {p apos pos : Pos} {ta : TE} {tk : TA}
/-- o.m(k = v, ..) -/
def tMethK0 (C : Addr) (m : Str) (n : Nat) (sp : Sp) (gV : List V → List V → List V) (E : XK) (ta : TE) (tk : TA) : TE := fun σ H Q => ta σ H fun x H1 => ∃ a dx fs, x = .ref a ∧ H1 a = some (.ins C dx fs) ∧ fs.lookup m = none ∧ tk σ H1 fun zs H2 => zs.length = n ∧ sp (gV [.ref a] zs) H2 Q E
theorem pe_methK0 {pl : Sem Bool} (he : PE X o ta) (c : Cls X.K C) (hm : Meth X.K C m f) (F : FnOk X.prog X.w X.K X.mg X.base CXf k f fd ps sp) (hr : Room k X.A) (hb : KBn X.K fd ps 1 ks g gV) (hx : Passes CXf X E) (hkw : PK X kws tk)
    (hall : (backToKw pos (keywordEach kws X.env)).all (·.1.isSome) = true := by rfl) (hks : (backToKw pos (keywordEach kws X.env)).filterMap (·.1) = ks := by rfl)
    (hpl : ((backTo pos (starEach [] X.env)).any (·.1) || (backToKw pos (keywordEach kws X.env)).any (·.1.isNone)) = false := by rfl)
    (ht : eval (.Call (.Attribute o m apos) [] kws pos) X.env = (do
      let ov ← eval o X.env
      standAt apos.atName
      let (f, first) ← holding [ov] (getMethod ov m pl)
      callWith pos f first (backTo pos (starEach [] X.env)) (backToKw pos (keywordEach kws X.env))) := by rfl) :
    PE X (.Call (.Attribute o m apos) [] kws pos) (tMethK0 C m ks.length sp gV E ta tk) := by
  refine ⟨fun pins s σ H Q I h => ?_⟩
  refine PySem.W.methodCall_KW (pl := pl) (thn (he.run pins s σ H _ I h) fun u s1 ⟨x, H1, I1, rx, a, dx, fs, ex, ea, l, q⟩ => ?_) ht
  subst ex
  obtain rfl : u = Value.ref a := rx
  refine getmeth_ok I1 ea c hm l ?_
  refine PySem.W.callWith_KW0 (first := [.ref a]) (h₀ := X.base) I.ok.mod.kin hm.kp hall (thn (hkw.run pos pins s1 σ H1 _ I1 q) fun ws s2 ⟨zs, H2, I2, rz, l2, q2⟩ => ⟨I2.kIn, ?_⟩) hpl
  rw [hks]
  have r1 : Vals [V.ref a] [Value.ref a] := .cons rfl .nil
  have e2 : ws.length = ks.length := rz.length.symm.trans l2
  refine wpAny_call (codeAny_mono (F.run X.A X.stack s2 H2 ⟨[.ref a], ks.zip ws⟩ (g [.ref a] ws) _ Q E hr I2.env0 (hb.to s2 [.ref a] ws I2.kIn rfl e2) (hb.rel r1 rz) q2) fun r s' hq => ?_)
  cases r with
  | error e => exact hx pins σ H2 s2 e s' I2 hq
  | ok fl =>
    cases fl with
    | ret u => exact I2.after hq
    | next => exact False.elim hq
    | brk => exact False.elim hq
    | cont => exact False.elim hq
end
end NB

set_option Elab.async false
set_option linter.all false
set_option maxRecDepth 100000
/-! B13: kinds of things under Ext and under a list's change -/
namespace NB
open PySem PySem.Spec L2
section
variable {H H' : Hp} {K : PySem.W.Frag}
theorem TyOf.ext {x : V} {t : Value} (h : TyOf K H x t) (e : Ext H H') : TyOf K H' x t := by
  cases h with
  | non => exact .non
  | bl x => exact .bl x
  | int i => exact .int i
  | str x => exact .str x
  | flt x => exact .flt x
  | lst h => exact .lst (e _ _ h)
  | frz h => exact .frz (e _ _ h)
  | tup h => exact .tup (e _ _ h)
  | dK h => exact .dK (e _ _ h)
  | dT h => exact .dT (e _ _ h)
  | ins h c1 c2 c3 c4 c5 => exact .ins (e _ _ h) c1 c2 c3 c4 c5
theorem TyX.ext {x : V} {t : Value} (h : TyX K H x t) (e : Ext H H') : TyX K H' x t := by
  cases h with
  | base h => exact .base (TyOf.ext h e)
  | byt b => exact .byt b
  | set h => exact .set (e _ _ h)
  | kList h c => exact .kList h c
  | kTuple h c => exact .kTuple h c
  | kDict h c => exact .kDict h c
  | fTuple h => exact .fTuple (e _ _ h)
  | fDict h => exact .fDict (e _ _ h)
variable {o : Addr} {ys zs : List V}
theorem upd_lst {c : Addr} {u : HO} (ho : H o = some (.lst ys)) (h : H c = some u) (n : ∀ z, u ≠ .lst z) : upd H o (.lst zs) c = some u := by
  rw [upd_ne (ne_of h ho (n ys))]; exact h
theorem TyOf.updL {x : V} {t : Value} (ho : H o = some (.lst ys)) (h : TyOf K H x t) : TyOf K (upd H o (.lst zs)) x t := by
  cases h with
  | non => exact .non
  | bl x => exact .bl x
  | int i => exact .int i
  | str x => exact .str x
  | flt x => exact .flt x
  | @lst c vs h =>
    by_cases e : c = o
    · subst e; exact .lst upd_same
    · exact .lst (by rw [upd_ne e]; exact h)
  | frz h => exact .frz (upd_lst ho h (fun _ z => nomatch z))
  | tup h => exact .tup (upd_lst ho h (fun _ z => nomatch z))
  | dK h => exact .dK (upd_lst ho h (fun _ z => nomatch z))
  | dT h => exact .dT (upd_lst ho h (fun _ z => nomatch z))
  | ins h c1 c2 c3 c4 c5 => exact .ins (upd_lst ho h (fun _ z => nomatch z)) c1 c2 c3 c4 c5
theorem TyX.updL {x : V} {t : Value} (ho : H o = some (.lst ys)) (h : TyX K H x t) : TyX K (upd H o (.lst zs)) x t := by
  cases h with
  | base h => exact .base (TyOf.updL ho h)
  | byt b => exact .byt b
  | set h => exact .set (upd_lst ho h (fun _ z => nomatch z))
  | kList h c => exact .kList h c
  | kTuple h c => exact .kTuple h c
  | kDict h c => exact .kDict h c
  | fTuple h => exact .fTuple (upd_lst ho h (fun _ z => nomatch z))
  | fDict h => exact .fDict (upd_lst ho h (fun _ z => nomatch z))
end
end NB

set_option Elab.async false
set_option linter.all false
set_option maxRecDepth 100000
/-! B14: for over enumerate(list) -/
namespace NB
open PySem PySem.Spec L2
theorem for_enum {K : PySem.W.Frag} {a : Addr} {xs : List V} {g : TG} {tb : TS} {D : Ends} {σ : L2.St} {H : Hp} (Pv : Nat → L2.St → Hp → Prop) (h0 : Pv 0 σ H) (hl : ∀ i σ H, i ≤ xs.length → Pv i σ H → SqL K H a xs)
    (hs : ∀ i x T σ H, xs[i]? = some x → H T = none → Pv i σ H → g (.ref T) σ (upd H T (.tup [.int (i : Nat), x])) fun σ2 H2 => tb { D with nx := Pv (i + 1), ct := Pv (i + 1), bk := D.nx } σ2 H2) (hd : ∀ σ H, Pv xs.length σ H → D.nx σ H) :
    ∃ W : Nat → Nat → L2.St → Hp → Prop, (∃ m, W 0 m σ H) ∧ ∀ i m σ H, W i m σ H →
      ((Ite K a).stop i H ∧ D.nx σ H) ∨ ((Ite K a).go i H ∧ ∃ N : L2.St → Hp → Prop, (∀ σ' H', N σ' H' → ∃ m', m' < m ∧ W (i + 1) m' σ' H') ∧ ∀ x H', (Ite K a).yld i H x H' → g x σ H' fun σ2 H2 => tb { D with nx := N, ct := N, bk := D.nx } σ2 H2) := by
  refine ⟨fun i m σ H => m = xs.length - i ∧ i ≤ xs.length ∧ Pv i σ H, ⟨xs.length, by simp, Nat.zero_le _, h0⟩, ?_⟩
  rintro i m σ H ⟨rfl, hi, p⟩
  have q := hl i σ H hi p
  by_cases hlt : i < xs.length
  · refine .inr ⟨⟨xs, xs[i], q, by simp [hlt]⟩, Pv (i + 1), fun σ' H' p' => ⟨xs.length - (i + 1), by omega, rfl, hlt, p'⟩, fun v H' y => ?_⟩
    obtain ⟨T, x, rfl, nT, rfl, y⟩ := y
    exact hs i x T σ _ (y xs q) nT p
  · have e : i = xs.length := by omega
    subst e
    exact .inl ⟨⟨xs, q, Nat.le_refl _⟩, hd σ H p⟩
end NB

set_option Elab.async false
set_option linter.all false
set_option maxRecDepth 100000
/-! B15: f(k = v, ..), a def by keywords alone -/
namespace NB
open PySem PySem.Spec PyProof.Rows L2
def tCallK0 (n : Nat) (sp : Sp) (gV : List V → List V → List V) (E : XK) (tk : TA) : TE := fun σ H Q => tk σ H fun zs H1 => zs.length = n ∧ sp (gV [] zs) H1 Q E
section
variable {X : Cx} {CXf : CXT} {k : Nat} {f : Addr} {fd : FuncData} {ps ks : List Str} {sp : Sp} {E : XK} {x : Str} {p pos : Pos} {kws : List Keyword} {tk : TA} {g : List Value → List Value → List Value} {gV : List V → List V → List V}
theorem pe_callK0 (F : FnOk X.prog X.w X.K X.mg X.base CXf k f fd ps sp) (hr : Room k X.A) (hg : Gl X x) (hm : X.mg x = some (.ref f)) (hk : PySem.W.keepIn X.K (.ref f) = true) (hb : KBn X.K fd ps 0 ks g gV) (hx : Passes CXf X E)
    (hkw : PK X kws tk) (hall : (backToKw pos (keywordEach kws X.env)).all (·.1.isSome) = true := by rfl) (hks : (backToKw pos (keywordEach kws X.env)).filterMap (·.1) = ks := by rfl)
    (hdb : (x == ("__debug__" : Str)) = false := by decide)
    (hpl : ((backTo pos (starEach [] X.env)).any (·.1) || (backToKw pos (keywordEach kws X.env)).any (·.1.isNone)) = false := by rfl) :
    PE X (.Call (.Name x p) [] kws pos) (tCallK0 ks.length sp gV E tk) := by
  refine ⟨fun pins s σ H Q I h => ?_⟩
  refine wpAny_Call_Name_kw (ld_glob I hg hm ?_ hdb)
  refine PySem.W.callWith_KW0 (first := []) (h₀ := X.base) I.ok.mod.kin hk hall (thn (hkw.run pos pins s σ H _ I h) fun ws s2 z => ?_) hpl
  obtain ⟨zs, H2, I2, rz, l2, q2⟩ := z
  refine ⟨I2.kIn, ?_⟩
  rw [hks]
  exact run_fnN F hr hb hx I2 .nil rz rfl l2 q2
end
/-- a def that may be called by keywords alone -/
structure CalK (P : Program) (w : World) (K : PySem.W.Frag) (mg : Str → Option Value) (base : Heap) (k : Nat) (x : Str) (sp : Sp) (ks : List Str) (gV : List V → List V → List V) : Prop where
  ex : ∃ (f : Addr) (fd : FuncData) (ps : List Str) (g : List Value → List Value → List Value), FnOk P w K mg base C8.CX0 k f fd ps sp ∧ mg x = some (.ref f) ∧ PySem.W.keepIn K (.ref f) = true ∧ KBn K fd ps 0 ks g gV
section
variable {X : Cx} {k j : Nat} {ks : List Str} {sp : Sp} {x : Str} {p pos : Pos} {kws : List Keyword} {tk : TA} {gV : List V → List V → List V}
theorem pe_cK (c : CalK X.prog X.w X.K X.mg X.base k x sp ks gV) (hr : Room j X.A) (hk : k ≤ j) (hg : Gl X x) (hkw : PK X kws tk) (hall : (backToKw pos (keywordEach kws X.env)).all (·.1.isSome) = true := by rfl) (hks : (backToKw pos (keywordEach kws X.env)).filterMap (·.1) = ks := by rfl)
    (hdb : (x == ("__debug__" : Str)) = false := by decide)
    (hpl : ((backTo pos (starEach [] X.env)).any (·.1) || (backToKw pos (keywordEach kws X.env)).any (·.1.isNone)) = false := by rfl) :
    PE X (.Call (.Name x p) [] kws pos) (tCallK0 ks.length sp gV C8.E0 tk) := by
  obtain ⟨f, fd, ps, g, F, hm, kp, b⟩ := c.ex
  exact pe_callK0 F (hr.mono hk) hg hm kp b C8.pass0 hkw hall hks hdb hpl
end
end NB

set_option Elab.async false
set_option linter.all false
set_option maxRecDepth 100000
/-! B16: set(xs) of any texts, its length -/
namespace NB
open PySem PySem.Spec PyProof.Rows L2
/-- how many different ones the first i are -/
def cntS (xs : List Str) : Nat → Nat
  | 0 => 0
  | i + 1 => if inF xs i (xs.getD i Str.empty) = true then cntS xs i else cntS xs i + 1
theorem cntS_succ (xs : List Str) (i : Nat) : cntS xs (i + 1) = if inF xs i (xs.getD i Str.empty) = true then cntS xs i else cntS xs i + 1 := rfl
theorem cntS_le (xs : List Str) : ∀ i, cntS xs i ≤ i
  | 0 => Nat.le_refl _
  | i + 1 => by
    have := cntS_le xs i
    rw [cntS_succ]
    split <;> omega
theorem inF_get {xs : List Str} {i : Nat} (h : i < xs.length) : inF xs i (xs.getD i Str.empty) = decide (xs[i] ∈ xs.take i) := by
  have e : xs.getD i Str.empty = xs[i] := by simp [List.getD, h]
  rw [e]; rfl
theorem cntS_all {xs : List Str} (nd : xs.Nodup) : ∀ i, i ≤ xs.length → cntS xs i = i
  | 0, _ => rfl
  | i + 1, h => by
    rw [cntS_succ, inF_new nd (by omega), if_neg Bool.false_ne_true, cntS_all nd i (by omega)]
theorem cntS_step (xs : List Str) (i : Nat) : cntS xs (i + 1) ≤ cntS xs i + 1 := by
  rw [cntS_succ]
  split <;> omega
theorem cntS_mono (xs : List Str) (i : Nat) : ∀ k, cntS xs (i + k) ≤ cntS xs i + k
  | 0 => Nat.le_refl _
  | k + 1 => by
    have := cntS_mono xs i k
    have := cntS_step xs (i + k)
    show cntS xs (i + k + 1) ≤ _
    omega
theorem nodup_of_cntS {xs : List Str} (h : cntS xs xs.length = xs.length) : xs.Nodup := by
  rw [List.Nodup, List.pairwise_iff_getElem]
  intro i j hi hj lt e
  have m : inF xs j (xs.getD j Str.empty) = true := by
    rw [inF_get hj]
    refine decide_eq_true ?_
    rw [← e]
    exact List.mem_iff_getElem.mpr ⟨i, by rw [List.length_take]; omega, by rw [List.getElem_take]⟩
  have c1 : cntS xs (j + 1) = cntS xs j := by
    rw [cntS_succ, if_pos m]
  have c2 := cntS_le xs j
  have c3 := cntS_mono xs (j + 1) (xs.length - (j + 1))
  have e2 : j + 1 + (xs.length - (j + 1)) = xs.length := by omega
  rw [e2, c1, h] at c3
  omega
theorem cntS_iff {xs : List Str} : (cntS xs xs.length = xs.length) ↔ xs.Nodup := ⟨nodup_of_cntS, fun h => cntS_all h _ (Nat.le_refl _)⟩
theorem cntS_lt {xs : List Str} : (cntS xs xs.length < xs.length) ↔ ¬ xs.Nodup := by
  rw [← cntS_iff]
  have := cntS_le xs xs.length
  omega
section
variable {prog : Program} {w : World} {A : Around} {R : Result → Shared → Prop} {I : Addr} {fp wr : List Addr} {G : Array GenState → Array GenState → Prop} {n : Nat} {Pv : Nat → Value → Prop} {St' : Nat → Shared → Prop}
theorem upd_txts (W : WalksS prog w A.in1 I fp wr G n Pv St') (S : Addr) (hSf : S ∉ fp) (xs : List Str) (hsz : xs.length = n) (hn : n + 1 < scanBound) (hval : ∀ i v, Pv i v → ∃ t, v = .str (xs.getD i Str.empty) t) :
    ∀ (k i : Nat) (s : Shared), n - i = k → i ≤ n → St' i s → s.heap.SetOf (PySem.strKind prog w) S (inF xs i) (cntS xs i) →
      (∀ s', Moved (S :: wr) G s s' → s'.heap.SetOf (PySem.strKind prog w) S (inF xs n) (cntS xs n) → R (.ok (.ret .none)) s') →
      codeAny (model prog w) A (.builtin "set.update.loop" ⟨[.ref S, .ref I], []⟩) R s := by
  have away : S ∉ wr := fun h => hSf (W.sub _ h)
  have more : ∀ b ∈ wr, b ∈ S :: wr := fun b hb => List.mem_cons_of_mem _ hb
  have carry : ∀ {s s' : Shared} {f : Str → Bool} {m : Nat}, Moved wr G s s' → s.heap.SetOf (PySem.strKind prog w) S f m → s'.heap.SetOf (PySem.strKind prog w) S f m := by
    rintro s s' f m mv ⟨o, es, ep, tb, ho, rest⟩
    exact ⟨o, es, ep, tb, mv.heap S _ away ho, rest⟩
  intro k
  induction k with
  | zero =>
    intro i s hk hi hst hS hR
    obtain rfl : i = n := by omega
    refine codeAny_builtin PyProof.Rows.F.entry_set_update_loop ?_
    rw [Around.under_plainId PyProof.Rows.F.plain_set_update_loop _]
    show wpAny _ A.in1 (pyNext (.ref I) >>= _) _ _ s
    exact wpAny_bind (W.done s _ _ hst fun s' mv => wpAny_pure (hR s' (mv.mono more) (carry mv hS)))
  | succ k ih =>
    intro i s hk hi hst hS hR
    have hlt : i < n := by omega
    have hlx : i < xs.length := by omega
    refine codeAny_builtin PyProof.Rows.F.entry_set_update_loop ?_
    rw [Around.under_plainId PyProof.Rows.F.plain_set_update_loop _]
    show wpAny _ A.in1 (pyNext (.ref I) >>= _) _ _ s
    refine wpAny_bind (W.item i s _ _ hlt hst fun v s' hP hst' mv => ?_)
    obtain ⟨t, rfl⟩ := hval i v hP
    show wpAny _ A.in1 (holding _ (setAdd S (.str (xs.getD i Str.empty) t)) >>= _) _ _ s'
    refine wpAny_bind (wpAny_holding ?_)
    unfold setAdd
    refine wpAny_holding (wpAny_bind ((PySem.strKind prog w).pyHash (k := xs.getD i Str.empty) (strKind_is _ _ _ _) ?_))
    refine wpAny_setAddHashed_of (knd := PySem.strKind prog w) (s := { s' with toks := s'.toks + 1 }) (strKind_is _ _ _ _) rfl (show s'.heap.SetOf _ _ _ _ from carry mv hS) (by have := cntS_le xs i; omega) fun h' hsb hS2 => ?_
    have hS3 : h'.SetOf (PySem.strKind prog w) S (inF xs (i + 1)) (cntS xs (i + 1)) := SetOf_congr hS2 (fun y => inF_succ hlx y) rfl
    have off : ∀ {b : Addr}, b ∈ fp → b ≠ S := fun {b} hb e => hSf (by rw [← e]; exact hb)
    refine wpAny_pure ⟨plainId_quiet PyProof.Rows.F.plain_set_update_loop _, ih (i + 1) _ (by omega) hlt (W.frame _ s' _ _ hst' (Nat.le_succ _) fun b hb o e => ?_) hS3 fun s2 mv2 hS4 => ?_⟩
    · exact (hsb.2 b (off hb)).trans e
    · refine hR s2 (Moved.trans W.gtrans ((mv.mono more).then_heap (Nat.le_succ _) fun b o hb e => ?_) mv2) hS4
      exact (hsb.2 b fun z => hb (by rw [z]; exact List.mem_cons_self)).trans e
end
section
variable {prog : Program} {w : World} {A : Around} {E : Value → Shared → Prop} {s : Shared}
set_option maxHeartbeats 3200000 in
theorem call_set_txts {l : Addr} {items : Array Value} {xs : List Str} {Q : Value → Shared → Prop} (hh : A.handled = none) (hl : s.heap.IsList l items) (hi : Vals (xs.map V.str) items.toList) (hn : xs.length + 1 < scanBound)
    (h : ∀ (h' : Heap) (tk : Nat), h'.SetOf (PySem.strKind prog w) s.heap.objs.size (inF xs xs.length) (cntS xs xs.length) →
      (∀ b o, b < s.heap.objs.size → s.heap.get? b = some o → h'.get? b = some o) → Q (.ref s.heap.objs.size) { s with heap := h', toks := tk }) :
    wpAny (model prog w) A (call (.type "set") [.ref l]) Q E s := by
  have hsz : xs.length = items.size := by have := hi.length; simpa using this
  obtain ⟨c, tl, e_mro⟩ := PySem.F.called_set.mro
  have e_made := PySem.F.called_set.made
  have e_sub := PySem.F.called_set.sub
  have e_type := PySem.F.called_set.notType
  have e_can := PySem.F.called_set.canCreate
  have e_check := PySem.F.typeCall_set_1 (.ref l)
  refine wpAny_call (codeAny_of_tree (show wpAny _ _ (callAny (.type "set") _) _ _ _ from wpAny_pure ⟨Code.quiet_builtin _ (by decide +kernel), codeAny_builtin PySem.F.entry_type_call ?_⟩))
  rw [Around.under_plain (weight_type_call_type "set" [.ref l] []) rfl]
  repeat (any_goals (first | assumption | wp_step))
  refine codeAny_mono (code_set_new_1 (.ref l) (E := E) (Q₁ := fun u z => ∃ led : Bool, u = .ref s.heap.objs.size ∧ z = { s with heap := s.heap.push (set0 led) }) fun led => ⟨led, rfl, rfl⟩) fun r s1 hr => ?_
  rcases r with e | fl
  · exact hr
  cases fl <;> first | exact hr.elim | skip
  obtain ⟨led, rfl, rfl⟩ := hr
  have hS : (s.heap.push (set0 led)).get? s.heap.objs.size = some (set0 led) := Heap.get?_push_size _ rfl
  have hT : Shared.TypeIs { s with heap := s.heap.push (set0 led) } (.ref s.heap.objs.size) "set" := ⟨_, hS, rfl⟩
  have e_init := PySem.F.called_set.init.lookup
  have e_bind := PySem.F.called_set.init.bind (.ref s.heap.objs.size)
  repeat (any_goals (first | assumption | wp_step))
  refine codeAny_mono (codeAny_call_builtin (R := wants (fun u z => u = .none ∧ ∃ h' tk, z = { s with heap := h', toks := tk } ∧ h'.SetOf (PySem.strKind prog w) s.heap.objs.size (inF xs xs.length) (cntS xs xs.length) ∧
      (∀ b o, b < s.heap.objs.size → s.heap.get? b = some o → h'.get? b = some o)) E) PySem.F.called_set.init.plain PySem.F.entry_set_init (check_set_init_1 hT ?_)) fun r2 s2 hr2 => ?_
  · obtain ⟨⟨ocls, odict, odata, oslots⟩, hol, hcl, nl, hdl⟩ := hl
    simp only at hcl hdl
    subst hcl; subst hdl
    have hol2 : (s.heap.push (set0 led)).get? l = some { cls := .type "list", dict := odict, data := .seq items nl, slots := oslots } := Heap.get?_push_of_some _ hol
    have f1 := PySem.F.sub_list_set
    have f2 := PySem.F.sub_list_frozenset
    have f3 : (Value.type "list" == Value.type "dict") = false := by decide
    have hl1 : (s.heap.push (set0 led)).IsList l items := ⟨_, hol2, rfl, nl, rfl⟩
    unfold Builtin.«set.__init__» noKeywords Builtin.Frozenset.updateFrom
    generalize hPI : pyIter = PI
    wp_walk
    subst hPI
    refine wpAny_pyIter_list hl1 (wpAny_bind (wpAny_runValue ?_))
    have hlS : l < s.heap.objs.size := Heap.lt_size hol
    have size1 : (s.heap.push (set0 led)).objs.size = s.heap.objs.size + 1 := Heap.size_push _ _
    refine upd_txts ((Walks.list (by simp [hh]) _ l (by rw [size1]; exact Nat.ne_of_lt (Nat.lt_succ_of_lt hlS)) items).toS) s.heap.objs.size ?hSf xs hsz (by rw [← hsz]; exact hn)
      (fun i v hv => str_at hi i v (by rw [Array.getElem?_toList]; exact hv)) (items.size - 0) 0 _ (by omega) (Nat.zero_le _) ⟨⟨_, Heap.get?_push_size _ rfl, rfl, rfl⟩, (hl1.push _)⟩ ?hS0 ?hR
    case hSf =>
      rw [size1]
      intro z
      rcases List.mem_cons.mp z with z | z
      · exact Nat.ne_of_lt (Nat.lt_succ_self _) z
      · exact Nat.ne_of_gt hlS (List.mem_singleton.mp z)
    case hS0 =>
      have z : ((s.heap.push (set0 led)).push { cls := .type "list_iterator", data := .fields #[.ref l, .int 0 0] }).get? s.heap.objs.size = some (set0 led) := Heap.get?_push_of_some _ hS
      exact PyProof.Rows.SetOf_congr ((PyProof.Rows.setObjOf_fresh (knd := PySem.strKind prog w) led).setOf z (by unfold scanBound; omega)) (fun y => by simp [inF]) rfl
    case hR =>
      intro z mv hz
      obtain ⟨h', g', d', tk', os'⟩ := z
      obtain rfl : g' = s.gens := mv.gens
      obtain rfl : d' = s.drawn := mv.drawn
      obtain rfl : os' = s.os := mv.os
      show wpAny _ _ _ _ _ _
      refine wpAny_pure ?_
      show wpAny _ _ (ret Value.none) _ _ _
      rw [← hsz] at hz
      refine wpAny_pure ⟨rfl, h', tk', rfl, hz, fun b o hb e => mv.heap b o ?_ (Heap.get?_push_of_some _ (Heap.get?_push_of_some _ e))⟩
      rw [size1]
      intro q
      rcases List.mem_cons.mp q with q | q
      · exact Nat.ne_of_lt hb q
      · exact Nat.ne_of_lt (Nat.lt_succ_of_lt hb) (List.mem_singleton.mp q)
  · rcases r2 with e | fl2
    · exact hr2
    cases fl2 <;> first | exact hr2.elim | skip
    obtain ⟨rfl, h', tk, rfl, hz, keep⟩ := hr2
    repeat (any_goals (first | assumption | wp_step))
    exact h _ _ hz keep
end
/-- len(set(xs)), xs a list of texts -/
def mLenSetA (K : PySem.W.Frag) (ta : TE) : TE := fun σ H Q => ta σ H fun x H1 => ∃ (l : Addr) (xs : List Str), x = V.ref l ∧ SqL K H1 l (xs.map V.str) ∧ xs.length ≤ 1000 ∧ Q (.int (cntS xs xs.length : Nat)) H1
section
variable {X : Cx}
theorem pe_lenSetA {a : Expr} {ta : TE} {p p2 q pos : Pos} (hc : X.calm = true) (hg : Gl X "len") (hm : X.mg "len" = none) (hg2 : Gl X "set") (hm2 : X.mg "set" = none) (ha : PE X a ta)
    (na : starEach [a] X.env = (false, eval a X.env) :: starEach [] X.env := by rfl) : PE X (.Call (.Name "len" p) [.Call (.Name "set" p2) [a] [] q] [] pos) (mLenSetA X.K ta) := by
  refine ⟨fun pins s σ H Q I h => Call_ (ld_blt I hg hm PySem.boot_len (PyProof.Rows.callWith_builtin1 (PyProof.Rows.args_cons ?_ rfl) rfl rfl))⟩
  refine Call_ (ld_blt I hg2 hm2 PyProof.Rows.boot_set (PyProof.Rows.callWith_type1 (PyProof.Rows.args_cons (thn (ha.run pins s σ H _ I h) fun v s1 z => PyProof.Rows.args_nil ?_) na) na rfl))
  obtain ⟨x, H1, I1, r1, l, xs, rfl, hq, h1, q1⟩ := z
  cases r1
  obtain ⟨its, r, pl, _⟩ := I1.list hq
  refine call_set_txts (xs := xs) (I1.ok.hd hc) pl.isList (by simpa using r) (by unfold scanBound; omega) fun h' tk hS hk => PyProof.Rows.args_nil ?_
  obtain ⟨o, es, ep, t, ho, hex, hd, _, _, _, hf, hn⟩ := hS
  have I2 : Inv X pins σ H1 { s1 with heap := h', toks := tk } := I1.kept fun b o e => hk b o (Heap.lt_size e) e
  exact call_len_set ho hex hd hf (by rw [hn]; have := cntS_le xs xs.length; omega) ⟨.int (cntS xs xs.length : Nat), H1, I2.tok _, ⟨_, by rw [hn]⟩, q1⟩
end
end NB

set_option Elab.async false
set_option linter.all false
set_option maxRecDepth 100000
set_option maxHeartbeats 2000000
/-! B17: Base.__init__(self, ..) of an own base; isinstance of a caught error that has a dict; a first clause with a name, others behind it -/
namespace NB
open PySem PySem.Spec PyProof.Rows L2
section
variable {X : Cx} {e : Expr} {es : List Expr} {ta : TA} {te : TE} {p1 p2 pos : Pos}
/-- an own base class whose __init__ is ValueError's -/
structure BaseI (K : PySem.W.Frag) (B : Addr) (mc : Value) : Prop where
  rd : ClX.CRead K B mc
  it : PySem.W.findCls K (.ref B) mc "__init__" = some (.val (.builtin "ValueError.__init__"))
theorem pe_binit {x : Str} {B : Addr} {mc : Value} {pl : Sem Bool} (T : BaseI X.K B mc) (hg : Gl X x) (hm : X.mg x = some (.ref B)) (ha : PA X (e :: es) ta)
    (hev : eval (.Call (.Attribute (.Name x p1) "__init__" p2) (e :: es) [] pos) X.env = (do
      let ov ← eval (.Name x p1) X.env
      standAt p2.atName
      let (f, first) ← holding [ov] (getMethod ov "__init__" pl)
      callWith pos f first (backTo pos (starEach (e :: es) X.env)) (backToKw pos (keywordEach [] X.env))) := by rfl)
    (hse : starEach (e :: es) X.env = (false, eval e X.env) :: starEach es X.env := by rfl) (hbk : (backTo pos (starEach es X.env)).any (·.1) = false := by rfl) (hdb : (x == ("__debug__" : Str)) = false := by decide) :
    PE X (.Call (.Attribute (.Name x p1) "__init__" p2) (e :: es) [] pos) (tVeI X.K ta) := by
  constructor
  intro ps s σ H Q I h
  refine PySem.W.methodCall_KW (ld_glob I hg hm ?_ hdb) hev
  refine PySem.W.method_cls I.kIn T.rd.ga (PySem.W.cls_value I.kIn T.rd.rd T.it (by decide +kernel) ?_)
  refine PyProof.Rows.callWith_method1 (thn (ha.run pos ps _ σ H _ (I.tok _) h) fun us s1 z => ?_) hse hbk
  obtain ⟨vs, H1, I1, r1, a, C, ws, rfl, hl, T1, ea, q⟩ := z
  cases r1 with
  | @cons _ u0 _ ur ra rw' =>
    obtain rfl : u0 = Value.ref a := ra
    refine oinit_ok T1 I1 ea ?_ fun s2 J => ⟨.non, H1, J, rfl, q⟩
    have e1 := Paired.length rw'
    have e2 := sizeLine_eq
    omega
/-- a caught error that has a dict -/
theorem kit_held {pins : List (Addr × Obj)} {σ : L2.St} {H : Hp} {s : Shared} {a dd D : Addr} {oe : Obj} {pn : List (Addr × Obj)} {fs : List (Str × V)} (C : ExcC X.K D) (hz : Zc (.ref D) (some dd) oe) (hf : ∃ vs, oe.data = .fields vs) (I : Inv (X.suite a ((a, oe) :: pn)) pins σ H s)
    (hd : H dd = some (.xd fs)) : ∃ od, PySem.W.InstAt s.heap a oe D (some od) ∧ PySem.W.KitX X.K (.ref a) (.ref D) (fun h => PySem.W.InstAt h a oe D (some od)) := by
  obtain ⟨hget, _⟩ := I.pin (a, oe) (List.mem_append.mpr (.inl List.mem_cons_self))
  have okd : ObjOk X.prog X.w H s.heap dd (.xd fs) := I.hok dd _ hd
  obtain ⟨mA, hns, _⟩ := okd
  obtain ⟨od, hod, _⟩ := lookIn_ns hns
  obtain ⟨vs, hv⟩ := hf
  refine ⟨od, ⟨hget, hz.1, by unfold PySem.W.notCls; rw [hv] <;> rfl, by rw [hz.2]; exact hod⟩, ?_⟩
  obtain ⟨cd, hcd, _⟩ := PySem.W.any_some C.hd
  exact PySem.W.kitx_exc (by rw [hcd]; rfl) C.hg C.hk C.hs C.ha C.hn C.ht C.hm
def rHeld (K : PySem.W.Frag) (D a : Addr) (cls : Value) (d : Option Addr) : List V → Hp → VK → Prop := fun xs H Q => ∃ (c : V) (u : Value) (b : Bool) (fs : List (Str × V)) (dd : Addr), xs = [.ref a, c] ∧ cls = .ref D ∧ d = some dd ∧ ClsV c u ∧ H dd = some (.xd fs) ∧ PySem.W.kitOne K (.ref D) u = some b ∧ Q (.bl b) H
def rHeldT (K : PySem.W.Frag) (D a : Addr) (cls : Value) (d : Option Addr) : List V → Hp → VK → Prop := fun xs H Q => ∃ (tp : Addr) (cs : List V) (us : List Value) (b : Bool) (fs : List (Str × V)) (dd : Addr), xs = [.ref a, .ref tp] ∧ cls = .ref D ∧ d = some dd ∧ H tp = some (.tup cs) ∧ Paired ClsV cs us ∧ H dd = some (.xd fs) ∧ PySem.W.kitAny K (.ref D) us = some b ∧ Q (.bl b) H
theorem call_held {a D : Addr} {cls : Value} {d : Option Addr} {oe : Obj} {pn : List (Addr × Obj)} (C : ExcC X.K D) (hz : Zc cls d oe) (hf : ∃ vs, oe.data = .fields vs) : CallR (X.suite a ((a, oe) :: pn)) (.builtin "isinstance") (rHeld X.K D a cls d) := by
  intro pins s σ H xs us Q I r h
  obtain ⟨c, u, b, fs, dd, rfl, rfl, rfl, kc, hd, e, q⟩ := h
  obtain ⟨u1, u2, rfl, r1, r2⟩ := vals2 r
  obtain rfl : u1 = Value.ref a := r1
  have e2 := kc.eq r2
  subst e2
  obtain ⟨od, J, Z⟩ := kit_held C hz hf I hd
  exact PySem.W.kia_one Z I.kIn J e (fun z => nomatch z) fun tk => ⟨.bl b, H, I.tok tk, rfl, q⟩
theorem call_heldT {a D : Addr} {cls : Value} {d : Option Addr} {oe : Obj} {pn : List (Addr × Obj)} (C : ExcC X.K D) (hz : Zc cls d oe) (hf : ∃ vs, oe.data = .fields vs) : CallR (X.suite a ((a, oe) :: pn)) (.builtin "isinstance") (rHeldT X.K D a cls d) := by
  intro pins s σ H xs us Q I r h
  obtain ⟨tp, cs, ws, b, fs, dd, rfl, rfl, rfl, hT, kc, hd, e, q⟩ := h
  obtain ⟨u1, u2, rfl, r1, r2⟩ := vals2 r
  obtain rfl : u1 = Value.ref a := r1
  obtain rfl : u2 = Value.ref tp := r2
  obtain ⟨od, J, Z⟩ := kit_held C hz hf I hd
  have okT : ObjOk X.prog X.w H s.heap tp (.tup cs) := I.hok tp _ hT
  obtain ⟨_, its, rv, o, h1, h2, n, h3⟩ := okT
  have e3 := ClsV.all kc rv
  subst e3
  obtain ⟨oc, odd, dt, sl⟩ := o
  dsimp only at h2 h3
  subst h2 h3
  exact PySem.W.kia_tup Z I.kIn J h1 e (fun z => nomatch z) fun tk => ⟨.bl b, H, I.tok tk, rfl, q⟩
end
/-- the first clause, named, takes every exception of the body -/
def wFst (K : PySem.W.Frag) (c : Value) (i : Nat) (ts : Addr → Value → Option Addr → TS) (D : Ends) : WX := fun cls d σ H =>
  PySem.W.exmOne K cls c = some true ∧ ∀ a, H a = none → ts a cls d { nx := fun σ' H' => D.nx (σ'.set i none) H', rt := D.rt, bk := fun σ' H' => D.bk (σ'.set i none) H', ct := fun σ' H' => D.ct (σ'.set i none) H' } (σ.set i (some (.ref a))) H
section
variable {X : Cx} {x n : Str} {c : Value} {i : Nat} {body suite : List Stmt} {b₀ : Stmt} {np pos pos' : Pos} {tb : WX → TS} {ts : Addr → Value → Option Addr → TS} {more : List ExceptHandler}
theorem ps_try_fst (hs : X.stack = X.env :: X.outer) (hf : X.env.frame = some X.env.locals) (hN : X.N.Nodup) (hi : X.N[i]? = some n) (hln : X.env.kindOf n = some .local) (hc : Names X x c)
    (hbody : ∀ (W : WX) (pn : List (Addr × Obj)) (xe : Value → Shared → Prop), Takes (X.tr pn xe) W → PassesOwn (model X.prog X.w) X.A X.env xe → PSs (X.tr pn xe) body (tb W))
    (hsuite : ∀ (a : Addr) (oe : Obj) (cls : Value) (d : Option Addr) (pn : List (Addr × Obj)), Zc cls d oe → (∃ vs, oe.data = .fields vs) → PSs (X.suite a ((a, oe) :: pn)) (b₀ :: suite) (ts a cls d)) :
    PS X (.Try body (.ExceptHandler (some (.Name x np)) (some n) (b₀ :: suite) pos' :: more) [] [] pos) (fun D σ H => tb (wFst X.K c i ts D) D σ H) := by
  constructor
  intro pins s σ H D I hq
  have okX := I.ok
  have frX : X.A.frames = some (X.env :: X.outer) := okX.frames.trans (congrArg some hs)
  refine wpAny_Try_except ?_
  have run := (hbody (wFst X.K c i ts D) (X.pn ++ pins) (fun er z1 => wpAny (model X.prog X.w) X.A (noteFrame er X.env) (fun _ z2 => wpAny (model X.prog X.w) X.A (setFlight er none) (fun _ z3 =>
    wpAny (model X.prog X.w) X.A (handleBy er X.env (.ExceptHandler (some (.Name x np)) (some n) (b₀ :: suite) pos' :: more)) (SP X pins D) X.xe z3) X.xe z2) X.xe z1) (fun u z0 hx => ?caught) PassesOwn.looking).run [] s σ H D (I.toTry _) hq
  case caught =>
    obtain ⟨a, G, zI, ps2, σ2, H2, cl, d, rfl, J0, kG, up, sky, na, hos, hbare, hyes, goes⟩ := hx
    have J : Inv X pins σ2 H2 zI := J0.ofTry okX
    rw [show (X.tr _ _).stack = X.env :: X.outer from hs] at sky
    show wpAny (model X.prog X.w) X.A (noteFrame (.ref a) X.env) _ _ _
    refine Sky.land Zc.steady frX hf sky fun h1 fl1 up1 => ?_
    have J1 : Inv X pins σ2 H2 { z0 with heap := h1 } := J.landed kG fl1.1 (up.trans up1) hos hbare
    obtain ⟨o1, v1, at1, zc1, dat1⟩ := fl1.there
    -- the error's record is no frame
    have apart : a ∉ frs (X.env :: X.outer) := fun hm => by
      obtain ⟨_, o', ho', nf⟩ := fl1.2.2.1.mem hm
      rw [at1] at ho'
      cases ho'
      exact nf _ dat1
    have aL : a ≠ X.env.locals := fun z => apart (List.mem_filterMap.mpr ⟨X.env, List.mem_cons_self, hf.trans (congrArg some z.symm)⟩)
    have aF : a ∉ X.fs := fun hm => by
      obtain ⟨ev, hev, hfr⟩ := List.mem_filterMap.mp hm
      exact apart (List.mem_filterMap.mpr ⟨ev, List.mem_cons_of_mem _ hev, hfr⟩)
    have S1 := J1.suite at1 dat1 na aL aF
    refine wpAny_handleBy_cons (codeAny_handlers_test ?_) (by intro q; cases q)
    have ty : PySem.W.Looks (model X.prog X.w) h1 (typeOf (.ref a)) cl := fun A Q E s k q => wpAny_typeOf_ref (k _ _ at1) (zc1.1.symm ▸ q)
    have fits := PySem.W.exm_one (M := model X.prog X.w) J1.kIn ty hyes
    have named : ∀ {Q : Value → Shared → Prop} {E : Value → Shared → Prop}, Q c { z0 with heap := h1 } → wpAny (model X.prog X.w) (X.A.mark (some (.ref a))) (eval (.Name x np) X.env) Q E { z0 with heap := h1 } := by
      intro Q E q
      obtain ⟨g1, g2, gm | ⟨gm, gv, gn⟩⟩ := hc
      · exact ld_glob (X := X.suite a ((a, o1) :: (X.pn ++ pins))) S1 g1 gm q g2
      · exact ld_blt (X := X.suite a ((a, o1) :: (X.pn ++ pins))) S1 g1 gm gv q gn g2
    refine named (fits.here (codeAny_handlers_suite_as (HandSPX.lands_againZ fl1 fun h2 fl2 up2 => ?_)))
    have J2 : Inv X pins σ2 H2 { z0 with heap := h2 } := J.landed kG fl2.1 ((up.trans up1).trans up2) hos hbare
    obtain ⟨o2, v2, at2, zc2, dat2⟩ := fl2.there
    have S2 := J2.suite at2 dat2 na aL aF
    refine store_ok (X := X.suite a ((a, o2) :: (X.pn ++ pins))) (v := .ref a) S2 hN hi (.inl hln) rfl (fun z5 S5 => ?_) (.inr hln)
    refine wpAny_mono ((hsuite a o2 cl d (X.pn ++ pins) zc2 ⟨_, dat2⟩).run [] z5 _ H2 _ S5 (goes a na)) (fun f z6 fin => ?_) (fun _ _ z => False.elim z)
    have back : ∀ {σ6 : L2.St} {H6 : Hp} {Q : Shared → Prop}, Inv (X.suite a ((a, o2) :: (X.pn ++ pins))) [] σ6 H6 z6 → (∀ z7, Inv X pins (σ6.set i none) H6 z7 → Q z7) →
        wpAny (model X.prog X.w) X.A (do bindName X.env n .none; unbindBehindTheSuite X.env n pos') (fun _ z7 => Q z7) X.xe z6 := fun {_ _ _} S6 k => gone_ok (S6.unsuite okX) hN hi hln k
    cases f with
    | ret u =>
      obtain ⟨v6, σ6, H6, S6, r6, q6⟩ := fin
      exact back S6 fun z7 J7 => ⟨_, _, _, J7, r6, q6⟩
    | next =>
      obtain ⟨σ6, H6, S6, q6⟩ := fin
      exact back S6 fun z7 J7 => ⟨_, _, J7, q6⟩
    | brk =>
      obtain ⟨σ6, H6, S6, q6⟩ := fin
      exact back S6 fun z7 J7 => ⟨_, _, J7, q6⟩
    | cont =>
      obtain ⟨σ6, H6, S6, q6⟩ := fin
      exact back S6 fun z7 J7 => ⟨_, _, J7, q6⟩
  refine wpAny_mono run (fun f z1 fin => ?_) fun _ _ z => z
  cases f with
  | ret u =>
    obtain ⟨v, σ2, H2, J, r, q⟩ := fin
    exact ⟨v, σ2, H2, J.ofTry okX, r, q⟩
  | next =>
    obtain ⟨σ2, H2, J, q⟩ := fin
    exact wpAny_execs_nil ⟨σ2, H2, J.ofTry okX, q⟩
  | brk =>
    obtain ⟨σ2, H2, J, q⟩ := fin
    exact ⟨σ2, H2, J.ofTry okX, q⟩
  | cont =>
    obtain ⟨σ2, H2, J, q⟩ := fin
    exact ⟨σ2, H2, J.ofTry okX, q⟩
end
end NB

set_option Elab.async false
set_option linter.all false
set_option maxRecDepth 100000
set_option maxHeartbeats 2000000
/-! B18: a text many times; repr of numbers and of data; calls of defs that may raise -/
namespace NB
open PySem PySem.Spec PyProof.Rows L2
section
variable {X : Cx}
theorem op_mulS : OpR X (binaryOp .Mult) (fun x y H Q => ∃ z k, x = .str z ∧ y = .int k ∧ MulOk z k ∧ Q (.str (Txt.mul z k)) H) := by
  intro pins s σ H x y v u Q I rx ry h
  obtain ⟨z, k, rfl, rfl, ok, q⟩ := h
  obtain ⟨t, rfl⟩ := rx
  obtain ⟨t2, rfl⟩ := ry
  exact SB.mul ok fun t3 tk => ⟨.str (Txt.mul z k), H, I.tok _, ⟨t3, rfl⟩, q⟩
/-- repr of a number, or of data -/
def rRepA (K : PySem.W.Frag) : List V → Hp → VK → Prop := fun xs H Q => (∃ i, xs = [.int i] ∧ i.natAbs.log2 < 1920 ∧ Q (.str (Str.ofString (toString i))) H) ∨ mRep K xs H Q
theorem call_repA (hu : X.A.units + 64 < cLine) (hgd : X.A.guards = some []) : CallR X (.builtin "repr") (rRepA X.K) := by
  intro pins s σ H xs us Q I r h
  rcases h with h | h
  · exact SkE.call_repr_int pins s σ H xs us Q I r h
  · exact call_rep hu hgd pins s σ H xs us Q I r h
end
/-- a def that may raise -/
structure CalX (P : Program) (w : World) (K : PySem.W.Frag) (mg : Str → Option Value) (base : Heap) (k : Nat) (x : Str) (sp : Sp) : Prop where
  ex : ∃ (f : Addr) (fd : FuncData) (ps : List Str), FnOk P w K mg base (L2.CX P w) k f fd ps sp ∧ mg x = some (.ref f) ∧ PySem.W.keepIn K (.ref f) = true ∧ Binds K fd ps []
/-- .. by keywords alone -/
structure CalXK (P : Program) (w : World) (K : PySem.W.Frag) (mg : Str → Option Value) (base : Heap) (k : Nat) (x : Str) (sp : Sp) (ks : List Str) (gV : List V → List V → List V) : Prop where
  ex : ∃ (f : Addr) (fd : FuncData) (ps : List Str) (g : List Value → List Value → List Value), FnOk P w K mg base (L2.CX P w) k f fd ps sp ∧ mg x = some (.ref f) ∧ PySem.W.keepIn K (.ref f) = true ∧ KBn K fd ps 0 ks g gV
def tCallKS (n : Nat) (sp : Sp) (gV : List V → List V → List V) (E : L2.St → XK) (tk : TA) : TE := fun σ H Q => tk σ H fun zs H1 => zs.length = n ∧ sp (gV [] zs) H1 Q (E σ)
section
variable {X : Cx} {j k : Nat} {sp : Sp} {x : Str} {p pos : Pos} {e : Expr} {es : List Expr} {t : TA} {W : WX}
theorem pe_cX (c : CalX X.prog X.w X.K X.mg X.base k x sp) (tk : Takes X W) (hr : Room j X.A) (hk : k ≤ j) (hg : Gl X x) (ha : PA X (e :: es) t)
    (hdb : (x == ("__debug__" : Str)) = false := by decide) (he : starEach (e :: es) X.env = (false, eval e X.env) :: starEach es X.env := by rfl) (hpl : (backTo pos (starEach es X.env)).any (·.1) = false := by rfl) :
    PE X (.Call (.Name x p) (e :: es) [] pos) (tCallS sp (WE W) t) := by
  obtain ⟨f, fd, ps, F, hm, kp, b⟩ := c.ex
  exact pe_callS F (hr.mono hk) hg hm kp b (passAt tk) ha hdb he hpl
variable {ks : List Str} {kws : List Keyword} {tk : TA} {gV : List V → List V → List V}
theorem pe_cXK (c : CalXK X.prog X.w X.K X.mg X.base k x sp ks gV) (tw : Takes X W) (hr : Room j X.A) (hk : k ≤ j) (hg : Gl X x) (hkw : PK X kws tk) (hall : (backToKw pos (keywordEach kws X.env)).all (·.1.isSome) = true := by rfl) (hks : (backToKw pos (keywordEach kws X.env)).filterMap (·.1) = ks := by rfl)
    (hdb : (x == ("__debug__" : Str)) = false := by decide)
    (hpl : ((backTo pos (starEach [] X.env)).any (·.1) || (backToKw pos (keywordEach kws X.env)).any (·.1.isNone)) = false := by rfl) :
    PE X (.Call (.Name x p) [] kws pos) (tCallKS ks.length sp gV (WE W) tk) := by
  obtain ⟨f, fd, ps, g, F, hm, kp, b⟩ := c.ex
  constructor
  intro pins s σ H Q I h
  refine wpAny_Call_Name_kw (ld_glob I hg hm ?_ hdb)
  refine PySem.W.callWith_KW0 (first := []) (h₀ := X.base) I.ok.mod.kin kp hall (thn (hkw.run pos pins s σ H _ I h) fun ws s2 z => ?_) hpl
  obtain ⟨zs, H2, I2, rz, l2, q2⟩ := z
  refine ⟨I2.kIn, ?_⟩
  rw [hks]
  have e2 : ws.length = ks.length := rz.length.symm.trans l2
  refine wpAny_call (codeAny_mono (F.run X.A X.stack s2 H2 ⟨[], ks.zip ws⟩ (g [] ws) _ Q (WE W σ) (hr.mono hk) I2.env0 (b.to s2 [] ws I2.kIn rfl e2) (b.rel .nil rz) q2) fun r s3 hq => ?_)
  cases r with
  | error er => exact passAt tw σ pins H2 s2 er s3 I2 hq
  | ok fl =>
    cases fl with
    | ret u => exact I2.after hq
    | next => exact False.elim hq
    | brk => exact False.elim hq
    | cont => exact False.elim hq
end
end NB

set_option Elab.async false
set_option linter.all false
set_option maxRecDepth 100000
namespace NB
open PySem PySem.Spec PyProof.Rows L2 C8
def top (i : Nat) : Stmt := PySem.Challenge.pw_numberbooks_k82_texts_of_no_log.main.body.getD i (.Pass ⟨0, 0, 0, 0⟩)
abbrev s_InvalidText___init__ : Stmt := inClass (top 9) 0
theorem sc_InvalidText___init__ : FnScope ["self", "word"] ["self", "word"] (fnScope s_InvalidText___init__) := fnScope_by (by decide +kernel)
abbrev s_is_integer : Stmt := top 17
theorem sc_is_integer : FnScope ["thing"] ["thing"] (fnScope s_is_integer) := fnScope_by (by decide +kernel)
abbrev s_is_size : Stmt := top 18
theorem sc_is_size : FnScope ["thing"] ["thing"] (fnScope s_is_size) := fnScope_by (by decide +kernel)
abbrev s_are_servers : Stmt := top 21
theorem sc_are_servers : FnScope ["thing", "name"] ["thing"] (fnScope s_are_servers) := fnScope_by (by decide +kernel)
abbrev s_is_server : Stmt := top 22
theorem sc_is_server : FnScope ["servers", "thing"] ["servers", "thing"] (fnScope s_is_server) := fnScope_by (by decide +kernel)
abbrev s_is_entry : Stmt := top 23
theorem sc_is_entry : FnScope ["servers", "thing"] ["servers", "thing"] (fnScope s_is_entry) := fnScope_by (by decide +kernel)
abbrev s_are_entries : Stmt := top 24
theorem sc_are_entries : FnScope ["servers", "thing", "entry"] ["servers", "thing"] (fnScope s_are_entries) := fnScope_by (by decide +kernel)
abbrev s_Log___init__ : Stmt := inClass (top 25) 1
theorem sc_Log___init__ : FnScope ["self", "size", "servers", "entries"] ["self", "size", "servers", "entries"] (fnScope s_Log___init__) := fnScope_by (by decide +kernel)
abbrev s_Log_size : Stmt := inClass (top 25) 2
theorem sc_Log_size : FnScope ["self"] ["self"] (fnScope s_Log_size) := fnScope_by (by decide +kernel)
abbrev s_Log_servers : Stmt := inClass (top 25) 3
theorem sc_Log_servers : FnScope ["self"] ["self"] (fnScope s_Log_servers) := fnScope_by (by decide +kernel)
abbrev s_Log_entries : Stmt := inClass (top 25) 4
theorem sc_Log_entries : FnScope ["self"] ["self"] (fnScope s_Log_entries) := fnScope_by (by decide +kernel)
abbrev s_Log___len__ : Stmt := inClass (top 25) 5
theorem sc_Log___len__ : FnScope ["self"] ["self"] (fnScope s_Log___len__) := fnScope_by (by decide +kernel)
abbrev s_Log___eq__ : Stmt := inClass (top 25) 6
theorem sc_Log___eq__ : FnScope ["self", "other"] ["self", "other"] (fnScope s_Log___eq__) := fnScope_by (by decide +kernel)
abbrev s_Log___contains__ : Stmt := inClass (top 25) 7
theorem sc_Log___contains__ : FnScope ["self", "thing"] ["self", "thing"] (fnScope s_Log___contains__) := fnScope_by (by decide +kernel)
abbrev s_Log___add__ : Stmt := inClass (top 25) 8
theorem sc_Log___add__ : FnScope ["self", "other", "entries"] ["self", "other"] (fnScope s_Log___add__) := fnScope_by (by decide +kernel)
abbrev s_number_in : Stmt := top 38
theorem sc_number_in : FnScope ["word", "sign"] ["word"] (fnScope s_number_in) := fnScope_by (by decide +kernel)
abbrev s_size_in : Stmt := top 41
theorem sc_size_in : FnScope ["word", "number"] ["word"] (fnScope s_size_in) := fnScope_by (by decide +kernel)
abbrev s_servers_in : Stmt := top 42
theorem sc_servers_in : FnScope ["word", "names", "name"] ["word"] (fnScope s_servers_in) := fnScope_by (by decide +kernel)
abbrev s_entry_in : Stmt := top 43
theorem sc_entry_in : FnScope ["word", "servers", "parts", "number"] ["word", "servers"] (fnScope s_entry_in) := fnScope_by (by decide +kernel)
abbrev s_read_log : Stmt := top 46
theorem sc_read_log : FnScope ["text", "words", "size", "servers", "entries", "spot", "word", "entry"] ["text"] (fnScope s_read_log) := fnScope_by (by decide +kernel)
abbrev s__law_urn : Stmt := top 48
theorem sc__law_urn : FnScope ["script", "swirl", "cell"] ["script"] (fnScope s__law_urn) := fnScope_by (by decide +kernel)
abbrev s__law_lot : Stmt := top 49
theorem sc__law_lot : FnScope ["urn", "many", "found", "swirl"] ["urn", "many"] (fnScope s__law_lot) := fnScope_by (by decide +kernel)
abbrev s__law_names : Stmt := top 50
theorem sc__law_names : FnScope ["urn", "most", "found", "turn", "many", "letters", "spot"] ["urn", "most"] (fnScope s__law_names) := fnScope_by (by decide +kernel)
abbrev s__law_rows : Stmt := top 51
theorem sc__law_rows : FnScope ["urn", "names", "many", "found", "turn", "number_here"] ["urn", "names", "many"] (fnScope s__law_rows) := fnScope_by (by decide +kernel)
abbrev s__law_text : Stmt := top 52
theorem sc__law_text : FnScope ["wide", "names", "rows", "is_losing", "words", "name", "value"] ["wide", "names", "rows", "is_losing"] (fnScope s__law_text) := fnScope_by (by decide +kernel)
abbrev s__law_number : Stmt := top 53
theorem sc__law_number : FnScope ["word", "sign"] ["word"] (fnScope s__law_number) := fnScope_by (by decide +kernel)
abbrev s__law_is_name : Stmt := top 54
theorem sc__law_is_name : FnScope ["word", "odd", "sign"] ["word"] (fnScope s__law_is_name) := fnScope_by (by decide +kernel)
abbrev s__law_can_stand : Stmt := top 55
theorem sc__law_can_stand : FnScope ["words", "spot", "word", "value", "names", "one", "parts"] ["words", "spot"] (fnScope s__law_can_stand) := fnScope_by (by decide +kernel)
abbrev s__law_due : Stmt := top 56
theorem sc__law_due : FnScope ["written", "words", "spot", "rows", "word"] ["written"] (fnScope s__law_due) := fnScope_by (by decide +kernel)
abbrev s__law_told : Stmt := top 57
theorem sc__law_told : FnScope ["written", "by_name", "told", "e", "odd"] ["written", "by_name"] (fnScope s__law_told) := fnScope_by (by decide +kernel)
abbrev s__law_bent : Stmt := top 58
theorem sc__law_bent : FnScope ["urn", "written", "words", "way", "spot", "odd", "some", "cut", "signs"] ["urn", "written"] (fnScope s__law_bent) := fnScope_by (by decide +kernel)
abbrev s_law : Stmt := top 59
theorem sc_law : FnScope ["script", "urn", "turn", "names", "wide", "written", "again", "some", "one"] ["script"] (fnScope s_law) := fnScope_by (by decide +kernel)
abbrev s_is_name_logs : Stmt := top 19
theorem sc_is_name_logs : FnScope ["thing", "letter"] ["thing"] (fnScope s_is_name_logs) := fnScope_by (by decide +kernel)
abbrev s_log_of_logs : Stmt := top 27
theorem sc_log_of_logs : FnScope ["kind", "size", "servers", "entries"] ["kind", "size", "servers", "entries"] (fnScope s_log_of_logs) := fnScope_by (by decide +kernel)
abbrev s_is_name_texts : Stmt := top 39
theorem sc_is_name_texts : FnScope ["word", "letter"] ["word"] (fnScope s_is_name_texts) := fnScope_by (by decide +kernel)
abbrev s_log_of_texts : Stmt := top 44
theorem sc_log_of_texts : FnScope ["kind", "size", "servers", "entries"] ["kind", "size", "servers", "entries"] (fnScope s_log_of_texts) := fnScope_by (by decide +kernel)
end NB

set_option Elab.async false
set_option linter.all false
set_option maxRecDepth 100000
set_option maxHeartbeats 4000000
/-! K1: the defs of numberbooks.logs -/
namespace NB
open PySem PySem.Spec L2
open PyProof.Rows (envOfC)
open C8 (pe_c pe_mk pe_mt pe_mt0 pe_gc fnScope fnBody fnArgs fnScope_by Cal Met Mak)

theorem kt_str_str {K : PySem.W.Frag} : PySem.W.kitOne K (.type "str") (.type "str") = some true := kit_ty (by decide +kernel)
theorem kt_list_list {K : PySem.W.Frag} : PySem.W.kitOne K (.type "list") (.type "list") = some true := kit_ty (by decide +kernel)
theorem kt_tup_tup {K : PySem.W.Frag} : PySem.W.kitOne K (.type "tuple") (.type "tuple") = some true := kit_ty (by decide +kernel)
theorem kt_int_int {K : PySem.W.Frag} : PySem.W.kitOne K (.type "int") (.type "int") = some true := kit_ty (by decide +kernel)
theorem kt_int_bool {K : PySem.W.Frag} : PySem.W.kitOne K (.type "int") (.type "bool") = some false := kit_ty (by decide +kernel)
theorem kt_bool_int {K : PySem.W.Frag} : PySem.W.kitOne K (.type "bool") (.type "int") = some true := kit_ty (by decide +kernel)
theorem kt_bool_bool {K : PySem.W.Frag} : PySem.W.kitOne K (.type "bool") (.type "bool") = some true := kit_ty (by decide +kernel)

/-! ### promises -/
def spInteger (K : PySem.W.Frag) : Sp := fun vs H Q _ => ∃ x b, vs = [x] ∧ IntJ K H x b ∧ Q (.bl b) H
def spSizeB : Sp := fun vs H Q _ => ∃ i, vs = [.int i] ∧ Q (.bl (decide (1 ≤ i) && decide (i ≤ 10 ^ 30))) H
def spName : Sp := fun vs H Q _ => ∃ z, vs = [.str z] ∧ nameB z = true ∧ ∀ H', Ext H H' → Q (.bl true) H'
def spCrew : Sp := fun vs H Q _ => ∃ a ns, vs = [.ref a] ∧ H a = some (.lst (ns.map V.str)) ∧ CrewOk ns ∧ ∀ H', Ext H H' → Q (.bl true) H'
def spServer (K : PySem.W.Frag) : Sp := fun vs H Q _ => ∃ a ns x b, vs = [.ref a, x] ∧ H a = some (.lst (ns.map V.str)) ∧ SrvJ K H ns x b ∧ Q (.bl b) H
def spEntry (K : PySem.W.Frag) : Sp := fun vs H Q _ => ∃ a ns x r, vs = [.ref a, x] ∧ H a = some (.lst (ns.map V.str)) ∧ Jd K H ns x r ∧ Q (.bl r.isSome) H
def spEntries : Sp := fun vs H Q _ => ∃ a ns l es xs, vs = [.ref a, .ref l] ∧ H a = some (.lst (ns.map V.str)) ∧ H l = some (.lst xs) ∧ EntL H es xs ∧ EntsOk ns es ∧ ∀ H', Ext H H' → Q (.bl true) H'
/-- __init__ with right arguments -/
def spInit (C : Addr) : Sp := fun vs H Q _ => ∃ p dx sz a ns l es xs, vs = [.ref p, .int sz, .ref a, .ref l] ∧ H p = some (.ins C dx []) ∧ H dx = some (.own p) ∧ SizeOk sz ∧ H a = some (.lst (ns.map V.str)) ∧ CrewOk ns ∧ H l = some (.lst xs) ∧ EntL H es xs ∧ EntsOk ns es ∧
  ∀ H' ls le, H ls = none → H le = none → H' p = some (.ins C dx (lf sz ls le)) → H' ls = some (.lst (ns.map V.str)) → H' le = some (.lst xs) → Frm [p] H H' → Q .non H'

section
variable {P : Program} {w : World} {K : PySem.W.Frag} {mg : Str → Option Value} {base : Heap} {cL cX : Addr}
theorem ok_is_integer (T : Tz K mg cL cX) (D : Dx K mg "is_integer" s_is_integer ["thing"]) : Cal P w K mg base 1 "is_integer" (spInteger K) [] := by
  refine cal_of D sc_is_integer (fun vs H Q E h => ?_) (fun f cdv A o s H vs Q E hr h => ?_)
  · obtain ⟨x, b, rfl, _⟩ := h; rfl
  · obtain ⟨x, b, rfl, j, k⟩ := h
    refine ⟨_, (pss_one (ps_ret (pe_and (pe_callB call_isi (by rfl) T.n_isinstance (by decide +kernel) (pa_cons (mv 0) (pa_cons (pe_bltn (v := .ty "int") (u := .type "int") (by rfl) T.n_int (by decide +kernel) rfl) pa_nil))) (pe_one (pe_not (pe_callB call_isi (by rfl) T.n_isinstance (by decide +kernel) (pa_cons (mv 0) (pa_cons (pe_bltn (v := .ty "bool") (u := .type "bool") (by rfl) T.n_bool (by decide +kernel) rfl) pa_nil)))))))), ?_⟩
    cases j with
    | int i =>
      refine ⟨_, _, _, _, _, rfl, .ty _, .base (.int i), kt_int_int, _, rfl, ifT (by rfl) ?_⟩
      exact ⟨_, _, _, _, _, rfl, .ty _, .base (.int i), kt_int_bool, _, rfl, k⟩
    | bl c =>
      refine ⟨_, _, _, _, _, rfl, .ty _, .base (.bl c), kt_bool_int, _, rfl, ifT (by rfl) ?_⟩
      exact ⟨_, _, _, _, _, rfl, .ty _, .base (.bl c), kt_bool_bool, _, rfl, k⟩
    | kind ty e => exact ⟨_, _, _, _, _, rfl, .ty _, ty, e, _, rfl, ifF (by rfl) k⟩

theorem ok_is_size (T : Tz K mg cL cX) (D : Dx K mg "is_size" s_is_size ["thing"]) (c_is_integer : Cal P w K mg base 1 "is_integer" (spInteger K) []) : Cal P w K mg base 2 "is_size" spSizeB [] := by
  refine cal_of D sc_is_size (fun vs H Q E h => ?_) (fun f cdv A o s H vs Q E hr h => ?_)
  · obtain ⟨i, rfl, _⟩ := h; rfl
  · obtain ⟨i, rfl, k⟩ := h
    refine ⟨_, (pss_one (ps_ret (pe_and (pe_c c_is_integer hr (by decide) rfl (pa_cons (mv 0) pa_nil)) (pe_one (pe_chain m_le m_le pe_int (mv 0) (pe_gc rfl T.g_GREATEST_SIZE)))))), ?_⟩
    refine ⟨_, _, rfl, .int i, _, rfl, ifT (by rfl) ?_⟩
    refine ⟨_, rfl, ?_⟩
    by_cases h : 1 ≤ i
    · rw [decide_eq_true h] at k ⊢
      exact ifT (by rfl) k
    · rw [decide_eq_false h] at k ⊢
      exact ifF (by rfl) k

theorem lett_in {c : Nat} (h : 97 ≤ c ∧ c ≤ 122) : (!(Builtin.Str.occurrences LETT ⟨#[c]⟩ 0 LETT.length 1).isEmpty) = true := by
  have e : LETT = SX.S [97, 98, 99, 100, 101, 102, 103, 104, 105, 106, 107, 108, 109, 110, 111, 112, 113, 114, 115, 116, 117, 118, 119, 120, 121, 122] := by decide +kernel
  rw [e]
  refine (SX.in_one _ c).trans (decide_eq_true ?_)
  obtain ⟨h1, h2⟩ := h
  have : c = 97 ∨ c = 98 ∨ c = 99 ∨ c = 100 ∨ c = 101 ∨ c = 102 ∨ c = 103 ∨ c = 104 ∨ c = 105 ∨ c = 106 ∨ c = 107 ∨ c = 108 ∨ c = 109 ∨ c = 110 ∨ c = 111 ∨ c = 112 ∨ c = 113 ∨ c = 114 ∨ c = 115 ∨ c = 116 ∨ c = 117 ∨ c = 118 ∨ c = 119 ∨ c = 120 ∨ c = 121 ∨ c = 122 := by omega
  simp only [List.mem_cons, List.not_mem_nil, or_false]
  exact this

theorem all_true (n : Nat) : (List.replicate n true).all id = true := by
  rw [List.all_replicate]; simp
theorem rep_more (n : Nat) : (List.replicate n true).map V.bl ++ [V.bl true] = (List.replicate (n + 1) true).map V.bl := by
  rw [List.replicate_succ', List.map_append]; rfl
theorem goY {σ : L2.St} {H : Hp} {Q : Bool → Hp → Prop} (h : Q true H) : tYes σ H Q := h
/-- what a comprehension of Trues keeps -/
def Trues (H0 : Hp) (D : Addr) (i : Nat) (H : Hp) : Prop := Ext H0 H ∧ H D = some (.lst ((List.replicate i true).map V.bl))
theorem Trues.next {H0 H : Hp} {D : Addr} {i : Nat} (h : Trues H0 D i H) (hD : H0 D = none) : Trues H0 D (i + 1) (upd H D (.lst ((List.replicate i true).map V.bl ++ [V.bl true]))) := by
  refine ⟨fun a o e => ?_, ?_⟩
  · rw [upd_ne (ne_of_none e hD)]; exact h.1 a o e
  · rw [upd_same, rep_more]
theorem Trues.zero {H0 : Hp} {D : Addr} (hD : H0 D = none) : Trues H0 D 0 (upd H0 D (.lst [])) := ⟨Ext.upd hD, upd_same⟩

theorem ok_is_name (T : Tz K mg cL cX) (D : Dy K mg "is_name_logs" "is_name" s_is_name_logs ["thing"]) : Cal P w K mg base 1 "is_name_logs" spName [] := by
  refine cal_ofA D sc_is_name_logs (fun vs H Q E h => ?_) (fun f cdv A o s H vs Q E hr h => ?_)
  · obtain ⟨z, rfl, _⟩ := h; rfl
  · obtain ⟨z, rfl, hz, k⟩ := h
    unfold nameB at hz
    simp only [Bool.and_eq_true, decide_eq_true_eq] at hz
    obtain ⟨⟨h1, h2⟩, h3⟩ := hz
    have hl : z.length ≤ sizeLine := Nat.le_trans h2 (by decide)
    have e1 : (1 : Int) ≤ (z.length : Int) := by omega
    have e2 : (z.length : Int) ≤ 8 := by omega
    refine ⟨_, (pss_cons (ps_if (PW.pt (pw_or (pt_not (qv (pe_callB call_isi (by rfl) T.n_isinstance (by decide +kernel) (pa_cons (mv 0) (pa_cons (pe_bltn (v := .ty "str") (u := .type "str") (by rfl) T.n_str (by decide +kernel) rfl) pa_nil))))) (pw_or1 (pt_not (pt_chain m_le m_le pe_int (pe_callB call_len (by rfl) T.n_len (by decide +kernel) (pa_cons (mv 0) pa_nil)) (pe_gc rfl T.g_MOST_LETTERS_logs)))))) (pss_one (ps_ret pe_bl)) pss_nil)
    (pss_one (ps_ret (pe_callB (cr_all rfl) (by rfl) T.n_all (by decide +kernel) (pa_cons (pe_lc (own := [("letter", 1)]) (g := gName 1) (tt := tYes) rfl sc_is_name_logs.nd (pi_str (mv 0)) (blkOk_by (own := [("letter", 1)]) (N := ["thing", "letter"]) (sc := fnScope s_is_name_logs) (by decide +kernel)) (fun _ _ _ _ _ => (pg_name (i := 1) sc_is_name_logs.nd rfl (Or.inl rfl))) (fun _ _ _ _ _ => pts_nil) (fun _ _ _ _ _ => (pe_cmpR op_in_str (mv 1) (pe_gc rfl T.g_LETTERS_logs) (by rfl)))) pa_nil))))), ?_⟩
    refine ⟨_, _, _, _, _, rfl, .ty _, .base (.str z), kt_str_str, ifF (by rfl) ?_⟩
    refine ⟨_, _, rfl, ⟨hl, rfl⟩, _, rfl, ?_⟩
    rw [decide_eq_true e1]
    refine ifT (by rfl) ⟨_, rfl, ?_⟩
    rw [decide_eq_true e2]
    refine ifF (by rfl) ?_
    refine ⟨_, rfl, fun d hd => lc_txt (Trues H d) (Trues.zero hd) ?_ ?_⟩
    · intro i c H1 hc t
      have hc2 := List.all_eq_true.mp h3 c (List.mem_of_getElem? hc)
      simp only [Bool.and_eq_true, decide_eq_true_eq] at hc2
      have hi : i < z.length := by have := (List.getElem?_eq_some_iff.mp hc).1; simpa [Str.length] using this
      refine ⟨rfl, goY (ifT (by rfl) ⟨_, _, rfl, rfl, _, t.2, ?_, ?_⟩)⟩
      · rw [List.length_map, List.length_replicate]; omega
      · rw [lett_in hc2]
        exact t.next hd
    · intro H1 t
      exact ⟨_, _, rfl, SqL.of t.2, by rw [all_true]; exact k H1 t.1⟩

theorem map_at {α : Type} {f : α → V} {xs : List α} {i : Nat} {y : V} (h : (xs.map f)[i]? = some y) : ∃ x, xs[i]? = some x ∧ y = f x := by
  rw [List.getElem?_map] at h
  cases e : xs[i]? with
  | none => rw [e] at h; cases h
  | some x => rw [e] at h; exact ⟨x, rfl, (Option.some.inj h).symm⟩

theorem ok_are_servers (T : Tz K mg cL cX) (D : Dx K mg "are_servers" s_are_servers ["thing"]) (c_is_name_logs : Cal P w K mg base 1 "is_name_logs" spName []) : Cal P w K mg base 2 "are_servers" spCrew [] := by
  refine cal_of D sc_are_servers (fun vs H Q E h => ?_) (fun f cdv A o s H vs Q E hr h => ?_)
  · obtain ⟨a, ns, rfl, _⟩ := h; rfl
  · obtain ⟨a, ns, rfl, ha, ok, k⟩ := h
    have e1 : (1 : Int) ≤ (ns.length : Int) := by have := ok.one; omega
    have e2 : (ns.length : Int) ≤ 12 := by have := ok.few; omega
    refine ⟨_, (pss_cons (ps_if (PW.pt (pw_or (pt_not (qv (pe_callB call_isi (by rfl) T.n_isinstance (by decide +kernel) (pa_cons (mv 0) (pa_cons (pe_bltn (v := .ty "list") (u := .type "list") (by rfl) T.n_list (by decide +kernel) rfl) pa_nil))))) (pw_or1 (pt_not (pt_chain m_le m_le pe_int (pe_callB call_len (by rfl) T.n_len (by decide +kernel) (pa_cons (mv 0) pa_nil)) (pe_gc rfl T.g_MOST_SERVERS_logs)))))) (pss_one (ps_ret pe_bl)) pss_nil)
    (pss_one (ps_ret (pe_and (pe_callB (cr_all rfl) (by rfl) T.n_all (by decide +kernel) (pa_cons (pe_lc (own := [("name", 1)]) (g := gName 1) (tt := tYes) rfl sc_are_servers.nd (pi_list (mv 0)) (blkOk_by (own := [("name", 1)]) (N := ["thing", "name"]) (sc := fnScope s_are_servers) (by decide +kernel)) (fun _ _ _ _ _ => (pg_name (i := 1) sc_are_servers.nd rfl (Or.inl rfl))) (fun _ _ _ _ _ => pts_nil) (fun _ _ _ _ _ => (pe_c c_is_name_logs hr (by decide) rfl (pa_cons (mv 1) pa_nil)))) pa_nil)) (pe_one (pe_cmpR m_eq (pe_lenSetS rfl (by rfl) T.n_len (by rfl) T.n_set (mv 0)) (pe_callB call_len (by rfl) T.n_len (by decide +kernel) (pa_cons (mv 0) pa_nil)) (nomark _))))))), ?_⟩
    refine ⟨_, _, _, _, _, rfl, .ty _, .base (.lst ha), kt_list_list, ifF (by rfl) ?_⟩
    refine ⟨_, _, rfl, .inl ⟨_, SqL.of ha, rfl⟩, _, rfl, ?_⟩
    rw [List.length_map, decide_eq_true e1]
    refine ifT (by rfl) ⟨_, rfl, ?_⟩
    rw [decide_eq_true e2]
    refine ifF (by rfl) ?_
    refine ⟨_, rfl, ⟨_, SqL.of ha⟩, fun d hd => lc_list (K := K) (a := a) (xs := ns.map V.str) (Trues H d) (Trues.zero hd) (fun i H1 _ t => SqL.of (t.1 _ _ ha)) ?_ ?_⟩
    · intro i y H1 hy t
      obtain ⟨z, hz, rfl⟩ := map_at hy
      have hi : i < ns.length := (List.getElem?_eq_some_iff.mp hz).1
      refine ⟨rfl, goY (ifT (by rfl) ?_)⟩
      refine ⟨z, rfl, ok.nam z (List.mem_of_getElem? hz), fun H2 x => ⟨_, x _ _ t.2, ?_, ?_⟩⟩
      · rw [List.length_map, List.length_replicate]
        exact Nat.lt_of_lt_of_le hi (Nat.le_trans ok.few (by decide))
      · exact Trues.next ⟨t.1.trans x, x _ _ t.2⟩ hd
    · intro H1 t
      refine ⟨_, _, rfl, SqL.of t.2, ?_⟩
      rw [all_true]
      refine ⟨_, rfl, ifT (by rfl) ?_⟩
      refine ⟨a, ns, rfl, SqL.of (t.1 _ _ ha), Nat.le_trans ok.few (by decide), ok.nd, ?_⟩
      refine ⟨_, _, rfl, .inl ⟨_, SqL.of (t.1 _ _ ha), rfl⟩, ?_⟩
      rw [List.length_map]
      show Q (.bl (decide ((ns.length : Int) = (ns.length : Int)))) H1
      rw [decide_eq_true rfl]
      exact k H1 t.1

theorem inV_str (z : Str) : ∀ ns : List Str, inV (.str z) (ns.map V.str) = decide (z ∈ ns)
  | [] => rfl
  | y :: ns => by
    have ih := inV_str z ns
    unfold inV at ih ⊢
    rw [List.map_cons, List.any_cons, ih]
    have e : eqV (.str y) (.str z) = decide (y = z) := by
      unfold eqV
      by_cases h : y = z
      · subst h; simp
      · simp [h]
    rw [e, Bool.eq_iff_iff]
    simp only [Bool.or_eq_true, decide_eq_true_eq, List.mem_cons]
    exact ⟨fun q => q.elim (fun q => .inl q.symm) .inr, fun q => q.elim (fun q => .inl q.symm) .inr⟩
theorem flat_strs (ns : List Str) : (ns.map V.str).all flatV = true := by
  rw [List.all_map, List.all_eq_true]; intro z _; rfl

theorem ok_is_server (T : Tz K mg cL cX) (D : Dx K mg "is_server" s_is_server ["servers", "thing"]) : Cal P w K mg base 1 "is_server" (spServer K) [] := by
  refine cal_of D sc_is_server (fun vs H Q E h => ?_) (fun f cdv A o s H vs Q E hr h => ?_)
  · obtain ⟨a, ns, x, b, rfl, _⟩ := h; rfl
  · obtain ⟨a, ns, x, b, rfl, ha, j, k⟩ := h
    refine ⟨_, (pss_one (ps_ret (pe_and (pe_callB call_isi (by rfl) T.n_isinstance (by decide +kernel) (pa_cons (mv 1) (pa_cons (pe_bltn (v := .ty "str") (u := .type "str") (by rfl) T.n_str (by decide +kernel) rfl) pa_nil))) (pe_one (pe_cmpR op_in_seq (mv 1) (mv 0) (by rfl)))))), ?_⟩
    cases j with
    | str z =>
      refine ⟨_, _, _, _, _, rfl, .ty _, .base (.str z), kt_str_str, _, rfl, ifT (by rfl) ?_⟩
      refine ⟨_, _, rfl, .inl (SqL.of ha), rfl, flat_strs _, ?_⟩
      rw [inV_str]
      exact k
    | kind ty e => exact ⟨_, _, _, _, _, rfl, .ty _, ty, e, _, rfl, ifF (by rfl) k⟩

theorem ok_is_entry (T : Tz K mg cL cX) (D : Dx K mg "is_entry" s_is_entry ["servers", "thing"]) (c_is_server : Cal P w K mg base 1 "is_server" (spServer K) []) (c_is_integer : Cal P w K mg base 1 "is_integer" (spInteger K) []) :
    Cal P w K mg base 2 "is_entry" (spEntry K) [] := by
  refine cal_of D sc_is_entry (fun vs H Q E h => ?_) (fun f cdv A o s H vs Q E hr h => ?_)
  · obtain ⟨a, ns, x, r, rfl, _⟩ := h; rfl
  · obtain ⟨a, ns, x, r, rfl, ha, j, k⟩ := h
    refine ⟨_, (pss_cons (ps_if (PW.pt (pw_or (pt_not (qv (pe_callB call_isi (by rfl) T.n_isinstance (by decide +kernel) (pa_cons (mv 1) (pa_cons (pe_bltn (v := .ty "tuple") (u := .type "tuple") (by rfl) T.n_tuple (by decide +kernel) rfl) pa_nil))))) (pw_or1 (qt m_ne (pe_callB call_len (by rfl) T.n_len (by decide +kernel) (pa_cons (mv 1) pa_nil)) pe_int (nomark _))))) (pss_one (ps_ret pe_bl)) pss_nil)
    (pss_one (ps_ret (pe_and (pe_c c_is_server hr (by decide) rfl (pa_cons (mv 0) (pa_cons (pe_ix m_ix (mv 1) pe_int (fun _ _ => rfl)) pa_nil))) (pe_and (pe_c c_is_integer hr (by decide) rfl (pa_cons (pe_ix m_ix (mv 1) pe_int (fun _ _ => rfl)) pa_nil)) (pe_one (pe_cmpR m_ge (pe_ix m_ix (mv 1) pe_int (fun _ _ => rfl)) pe_int (nomark _)))))))), ?_⟩
    have two : ∀ {p : Addr} {x y : V}, H p = some (.tup [x, y]) → ∀ {b : Bool}, SrvJ K H ns x b → (b = true → ∃ c, IntJ K H y c ∧ (c = true → ∃ i, y = .int i ∧ Q (.bl (decide (0 ≤ i))) H) ∧ (c = false → Q (.bl false) H)) → (b = false → Q (.bl false) H) →
        tIfS (tOr (tNot (mT (tCB (rIsi K) (tCons (mV 1) (tCons (tC (.ty "tuple")) tNil))))) (mT (tOp (mEqG fun b => !b) (tCB (fun xs H Q => ∃ x n, xs = [x] ∧ LenV K x H n ∧ Q (.int n) H) (tCons (mV 1) tNil)) (tC (.int 2)))))
          (tRet (tC (.bl false))) tNext { nx := fun _ H' => tRet (tAndV (tCall (spServer K) [] C8.E0 (tCons (mV 0) (tCons (tOp (mIx K) (mV 1) (tC (.int 0))) tNil)))
            (tAndV (tCall (spInteger K) [] C8.E0 (tCons (tOp (mIx K) (mV 1) (tC (.int 1))) tNil)) (tOp (mI0 fun i j => .bl (decide (j ≤ i))) (tOp (mIx K) (mV 1) (tC (.int 1))) (tC (.int 0))))) { nx := fun _ H' => Q .non H', rt := Q } [some (.ref a), some (.ref p)] H', rt := Q } [some (.ref a), some (.ref p)] H := by
      intro p x y hp b js h1 h2
      refine ⟨_, _, _, _, _, rfl, .ty _, .base (.tup hp), kt_tup_tup, ifF (by rfl) ?_⟩
      refine ⟨_, _, rfl, .inr ⟨_, SqT.of hp, rfl⟩, ?_⟩
      dsimp only [tC, mEqG, kB]
      refine ifF (by rfl) ?_
      refine ⟨_, _, .inr (SqT.of hp), atI_nat (j := 0) rfl, a, ns, _, b, rfl, ha, js, _, rfl, ?_⟩
      cases b with
      | false => exact ifF rfl (h2 rfl)
      | true =>
        refine ifT rfl ?_
        obtain ⟨c, jc, h3, h4⟩ := h1 rfl
        refine ⟨_, _, .inr (SqT.of hp), atI_nat (j := 1) rfl, _, c, rfl, jc, _, rfl, ?_⟩
        cases c with
        | false => exact ifF rfl (h4 rfl)
        | true =>
          refine ifT rfl ?_
          obtain ⟨i, rfl, q⟩ := h3 rfl
          exact ⟨_, _, .inr (SqT.of hp), atI_nat (j := 1) rfl, q⟩
    cases j with
    | kind ty e => exact ⟨_, _, _, _, _, rfl, .ty _, ty, e, ifT (by rfl) (ifT (by rfl) k)⟩
    | @size p xs hp hl =>
      refine ⟨_, _, _, _, _, rfl, .ty _, .base (.tup hp), kt_tup_tup, ifF (by rfl) ?_⟩
      refine ⟨_, _, rfl, .inr ⟨_, SqT.of hp, rfl⟩, ?_⟩
      have e : ¬ ((xs.length : Int) = 2) := by omega
      show if (!decide ((xs.length : Int) = 2)) = true then _ else _
      rw [decide_eq_false e]
      exact ifT (by rfl) k
    | srv hp js => exact two hp js (fun z => nomatch z) fun _ => k
    | num hp js ji => exact two hp js (fun _ => ⟨false, ji, (fun z => nomatch z), fun _ => k⟩) fun z => nomatch z
    | @neg p x i hp js hi => exact two hp js (fun _ => ⟨true, .int i, fun _ => ⟨i, rfl, by rw [decide_eq_false (by omega)]; exact k⟩, fun z => nomatch z⟩) fun z => nomatch z
    | @ok p z i hp hz hi =>
      have js : SrvJ K H ns (.str z) true := by have := SrvJ.str (K := K) (H := H) (ns := ns) z; rw [decide_eq_true hz] at this; exact this
      exact two hp js (fun _ => ⟨true, .int i, fun _ => ⟨i, rfl, by rw [decide_eq_true hi]; exact k⟩, fun z => nomatch z⟩) fun z => nomatch z

theorem EntL.at {H : Hp} : ∀ {es : List (Str × Int)} {vs : List V} {i : Nat} {v : V}, EntL H es vs → vs[i]? = some v → ∃ e, es[i]? = some e ∧ EntAt H e v
  | _, _, i, v, .nil, h => by simp at h
  | _, _, 0, v, .cons (a := e) r q, h => by simp at h; subst h; exact ⟨e, rfl, r⟩
  | _, _, i + 1, v, .cons r q, h => by
    obtain ⟨e, h1, h2⟩ := EntL.at q (i := i) (v := v) (by simpa using h)
    exact ⟨e, by simpa using h1, h2⟩
theorem EntL.len {H : Hp} {es : List (Str × Int)} {vs : List V} (h : EntL H es vs) : es.length = vs.length := Paired.length h

theorem ok_are_entries (T : Tz K mg cL cX) (D : Dx K mg "are_entries" s_are_entries ["servers", "thing"]) (c_is_entry : Cal P w K mg base 2 "is_entry" (spEntry K) []) : Cal P w K mg base 3 "are_entries" spEntries [] := by
  refine cal_of D sc_are_entries (fun vs H Q E h => ?_) (fun f cdv A o s H vs Q E hr h => ?_)
  · obtain ⟨a, ns, l, es, xs, rfl, _⟩ := h; rfl
  · obtain ⟨a, ns, l, es, xs, rfl, ha, hl, el, ok, k⟩ := h
    have hx : xs.length ≤ 200 := by rw [← el.len]; exact ok.few
    have e1 : ¬ (200 : Int) < (xs.length : Int) := by omega
    refine ⟨_, (pss_cons (ps_if (PW.pt (pw_or (pt_not (qv (pe_callB call_isi (by rfl) T.n_isinstance (by decide +kernel) (pa_cons (mv 1) (pa_cons (pe_bltn (v := .ty "list") (u := .type "list") (by rfl) T.n_list (by decide +kernel) rfl) pa_nil))))) (pw_or1 (qt m_gt (pe_callB call_len (by rfl) T.n_len (by decide +kernel) (pa_cons (mv 1) pa_nil)) (pe_gc rfl T.g_MOST_ENTRIES_logs) (nomark _))))) (pss_one (ps_ret pe_bl)) pss_nil)
    (pss_one (ps_ret (pe_callB (cr_all rfl) (by rfl) T.n_all (by decide +kernel) (pa_cons (pe_lc (own := [("entry", 2)]) (g := gName 2) (tt := tYes) rfl sc_are_entries.nd (pi_list (mv 1)) (blkOk_by (own := [("entry", 2)]) (N := ["servers", "thing", "entry"]) (sc := fnScope s_are_entries) (by decide +kernel)) (fun _ _ _ _ _ => (pg_name (i := 2) sc_are_entries.nd rfl (Or.inl rfl))) (fun _ _ _ _ _ => pts_nil) (fun _ _ _ _ _ => (pe_c c_is_entry hr (by decide) rfl (pa_cons (mv 0) (pa_cons (mv 2) pa_nil))))) pa_nil))))), ?_⟩
    refine ⟨_, _, _, _, _, rfl, .ty _, .base (.lst hl), kt_list_list, ifF (by rfl) ?_⟩
    refine ⟨_, _, rfl, .inl ⟨_, SqL.of hl, rfl⟩, ?_⟩
    refine (show if decide ((200 : Int) < (xs.length : Int)) = true then _ else _ from ?_)
    rw [decide_eq_false e1]
    refine ifF rfl ?_
    refine ⟨_, rfl, ⟨_, SqL.of hl⟩, fun d hd => lc_list (K := K) (a := l) (xs := xs) (Trues H d) (Trues.zero hd) (fun i H1 _ t => SqL.of (t.1 _ _ hl)) ?_ ?_⟩
    · intro i y H1 hy t
      have hi : i < xs.length := (List.getElem?_eq_some_iff.mp hy).1
      obtain ⟨e, he, p, rfl, hp⟩ := el.at hy
      obtain ⟨m1, m2⟩ := ok.ok e (List.mem_of_getElem? he)
      refine ⟨rfl, goY (ifT (by rfl) ?_)⟩
      refine ⟨a, ns, _, _, rfl, t.1 _ _ ha, .ok (t.1 _ _ hp) m1 m2, _, t.2, ?_, ?_⟩
      · rw [List.length_map, List.length_replicate]
        exact Nat.lt_of_lt_of_le hi (Nat.le_trans hx (by decide))
      · exact t.next hd
    · intro H1 t
      refine ⟨_, _, rfl, SqL.of t.2, ?_⟩
      rw [all_true]
      exact k H1 t.1

/-- the class's facts for the class at C -/
theorem ok_init {kd : Str} (T : Tz K mg cL cX) {C : Addr} (L : LogC K C kd) {f : Addr} {fd : FuncData} (D : Mx K "__init__" "Log.__init__" s_Log___init__ ["self", "size", "servers", "entries"] f fd)
    (c_is_size : Cal P w K mg base 2 "is_size" spSizeB []) (c_are_servers : Cal P w K mg base 2 "are_servers" spCrew []) (c_are_entries : Cal P w K mg base 3 "are_entries" spEntries []) :
    FnOk P w K mg base C8.CX0 4 f fd ["self", "size", "servers", "entries"] (spInit C) := by
  refine fn_of' D sc_Log___init__ (fun vs H Q E h => ?_) (fun cdv A o s H vs Q E hr h => ?_)
  · obtain ⟨p, dx, sz, a, ns, l, es, xs, rfl, _⟩ := h; rfl
  · obtain ⟨p, dx, sz, a, ns, l, es, xs, rfl, hp, hdx, hsz, ha, cr, hl, el, ok, k⟩ := h
    refine ⟨_, (pss_cons (ps_if (pt_not (qv (pe_c c_is_size hr (by decide) rfl (pa_cons (mv 1) pa_nil)))) (pss_one ps_never) pss_nil)
    (pss_cons (ps_if (pt_not (qv (pe_c c_are_servers hr (by decide) rfl (pa_cons (mv 2) pa_nil)))) (pss_one ps_never) pss_nil)
    (pss_cons (ps_if (pt_not (qv (pe_c c_are_entries hr (by decide) rfl (pa_cons (mv 2) (pa_cons (mv 3) pa_nil))))) (pss_one ps_never) pss_nil)
    (pss_cons (ps_fld (mv 0) (mv 1) rfl)
    (pss_cons (ps_fld (mv 0) (pe_callTy call_list_of (by rfl) T.n_list (by decide +kernel) (pa_cons (mv 2) pa_nil)) rfl)
    (pss_one (ps_fld (mv 0) (pe_callTy call_list_of (by rfl) T.n_list (by decide +kernel) (pa_cons (mv 3) pa_nil)) rfl))))))), ?_⟩
    refine ⟨_, rfl, ?_⟩
    rw [decide_eq_true hsz.1, decide_eq_true hsz.2]
    refine ifF (by rfl) ?_
    refine ⟨a, ns, rfl, ha, cr, fun H1 x1 => ifF (by rfl) ?_⟩
    refine ⟨a, ns, l, es, xs, rfl, x1 _ _ ha, x1 _ _ hl, el.mono x1, ok, fun H2 x2 => ifF (by rfl) ?_⟩
    have x : Ext H H2 := x1.trans x2
    have apL : ∀ {b : Addr} {ys : List V}, H2 b = some (.lst ys) → b ≠ p := fun hb => ne_of hb (x _ _ hp) (by intro z; cases z)
    refine ⟨p, C, dx, _, rfl, x _ _ hp, L.cl, L.nS, (by show 0 < 1000; decide), ?_⟩
    refine ⟨a, _, rfl, .inl (SqL.of (by rw [upd_ne (apL (x _ _ ha))]; exact x _ _ ha)), fun ls nls => ?_⟩
    have p1 : p ≠ ls := ne_of_none upd_same nls
    refine ⟨p, C, dx, _, rfl, by rw [upd_ne p1]; exact upd_same, L.cl, L.nV, (by show 1 < 1000; decide), ?_⟩
    have nl1 : l ≠ ls := ne_of_none (by rw [upd_ne (apL (x _ _ hl))]; exact x _ _ hl) nls
    refine ⟨l, _, rfl, .inl (SqL.of (by rw [upd_ne (apL (x _ _ hl)), upd_ne nl1, upd_ne (apL (x _ _ hl))]; exact x _ _ hl)), fun le nle => ?_⟩
    have p2 : p ≠ le := ne_of_none upd_same nle
    refine ⟨p, C, dx, _, rfl, by rw [upd_ne p2]; exact upd_same, L.cl, L.nE, (by show 2 < 1000; decide), ?_⟩
    have nle1 : ls ≠ le := ne_of_none (o := .lst (ns.map V.str)) (by rw [upd_ne p1.symm]; exact upd_same) nle
    refine k _ ls le (Ext.free x (upd_none nls).2) (Ext.free x (upd_none (upd_none (upd_none nle).2).2).2) upd_same ?_ ?_ ?_
    · rw [upd_ne p1.symm, upd_ne nle1, upd_ne p1.symm]; exact upd_same
    · rw [upd_ne p2.symm]; exact upd_same
    · exact (((((Frm.ext x).upd mem1).new nls).upd mem1).new nle).upd mem1
end
end NB

set_option Elab.async false
set_option linter.all false
set_option maxRecDepth 100000
set_option maxHeartbeats 4000000
/-! K2: the methods of logs -/
namespace NB
open PySem PySem.Spec L2
open PyProof.Rows (envOfC)
open C8 (pe_c pe_mk pe_mt pe_mt0 pe_gc fnScope fnBody fnArgs fnScope_by Cal Met Mak)

def spSize (C : Addr) : Sp := fun vs H Q _ => ∃ p sz ns es, vs = [.ref p] ∧ LogAt C H p sz ns es ∧ Q (.int sz) H
def spServers (C : Addr) : Sp := fun vs H Q _ => ∃ p sz ns es, vs = [.ref p] ∧ LogAt C H p sz ns es ∧ ∀ l, H l = none → Q (.ref l) (upd H l (.lst (ns.map V.str)))
def spEntr (C : Addr) : Sp := fun vs H Q _ => ∃ p sz ns es, vs = [.ref p] ∧ LogAt C H p sz ns es ∧ ∀ l xs, H l = none → EntL H es xs → Q (.ref l) (upd H l (.lst xs))
def spLen (C : Addr) : Sp := fun vs H Q _ => ∃ p sz ns es, vs = [.ref p] ∧ LogAt C H p sz ns es ∧ Q (.int (es.length : Nat)) H
def spIn (K : PySem.W.Frag) (C : Addr) : Sp := fun vs H Q _ => ∃ p sz ns es x r, vs = [.ref p, x] ∧ LogAt C H p sz ns es ∧ EntsOk ns es ∧ (∀ z ∈ ns, nameB z = true) ∧ Jd K H ns x r ∧ Q (.bl (match r with | some e => decide (e ∈ es) | none => false)) H
/-- == of two logs -/
def spEqL (C C2 : Addr) (kd kd2 : Str) : Sp := fun vs H Q _ => ∃ p q sz ns es sz2 ns2 es2, vs = [.ref p, .ref q] ∧ LogAt C H p sz ns es ∧ LogAt C2 H q sz2 ns2 es2 ∧ EntsOk ns es ∧ (∀ z ∈ ns, nameB z = true) ∧ EntsOk ns2 es2 ∧ (∀ z ∈ ns2, nameB z = true) ∧
  Q (.bl (decide (kd2 = kd) && decide (sz2 = sz) && decide (ns2 = ns) && decide (es2 = es))) H
def lastB (sz : Int) : List (Str × Int) → Int
  | [] => -1
  | e :: es => (es.foldl (fun m x => max m x.2) e.2) / sz
def spLast (C : Addr) : Sp := fun vs H Q _ => ∃ p sz ns es, vs = [.ref p] ∧ LogAt C H p sz ns es ∧ SizeOk sz ∧ EntsOk ns es ∧ (∀ z ∈ ns, nameB z = true) ∧ ∀ H', Ext H H' → Q (.int (lastB sz es)) H'

/-! ### data of logs as PyData -/
def encE (e : Str × Int) : PyData := .tuple [.str e.1, .int e.2]
def encS (ns : List Str) : PyData := .list (ns.map .str)
def encL (es : List (Str × Int)) : PyData := .list (es.map encE)
theorem dp_strs {K : PySem.W.Frag} {H : Hp} : ∀ ns : List Str, DpAll K H (ns.map V.str) (ns.map .str)
  | [] => .nil
  | z :: ns => .cons (.str z) (dp_strs ns)
theorem dp_S {K : PySem.W.Frag} {H : Hp} {a : Addr} {ns : List Str} (h : SqL K H a (ns.map V.str)) : Dp K H (.ref a) (encS ns) := .lst h (dp_strs ns)
theorem dp_E {K : PySem.W.Frag} {H : Hp} {e : Str × Int} {v : V} (h : EntAt H e v) : Dp K H v (encE e) := by
  obtain ⟨p, rfl, hp⟩ := h
  exact .tup (SqT.of hp) (.cons (.str _) (.cons (.int _) .nil))
theorem dp_ents {K : PySem.W.Frag} {H : Hp} : ∀ {es : List (Str × Int)} {vs : List V}, EntL H es vs → DpAll K H vs (es.map encE)
  | _, _, .nil => .nil
  | _, _, .cons r q => .cons (dp_E r) (dp_ents q)
theorem dp_L {K : PySem.W.Frag} {H : Hp} {a : Addr} {es : List (Str × Int)} {vs : List V} (h : SqL K H a vs) (el : EntL H es vs) : Dp K H (.ref a) (encL es) := .lst h (dp_ents el)

theorem all_canLay : ∀ {ds : List PyData}, (∀ d ∈ ds, d.canLay0 = true) → PyData.canLayAll0 ds = true
  | [], _ => by simp [PyData.canLayAll0]
  | d :: ds, h => by
    simp only [PyData.canLayAll0, Bool.and_eq_true]
    exact ⟨h d List.mem_cons_self, all_canLay fun x hx => h x (List.mem_cons_of_mem _ hx)⟩
theorem all_depth {n : Nat} : ∀ {ds : List PyData}, (∀ d ∈ ds, d.depth ≤ n) → PyData.depthAll ds ≤ n
  | [], _ => by simp [PyData.depthAll]
  | d :: ds, h => by
    simp only [PyData.depthAll]
    exact Nat.max_le.mpr ⟨h d List.mem_cons_self, all_depth fun x hx => h x (List.mem_cons_of_mem _ hx)⟩
theorem shaped_list {ds : List PyData} {n : Nat} (h : ∀ d ∈ ds, d.canLay0 = true ∧ d.depth ≤ n) (hn : n < 60) : SeqAt.shaped (.list ds) = true := by
  unfold SeqAt.shaped
  have z := all_depth fun d hd => (h d hd).2
  refine Bool.and_eq_true_iff.mpr ⟨?_, decide_eq_true ?_⟩
  · show PyData.canLayAll0 ds = true
    exact all_canLay fun d hd => (h d hd).1
  · show PyData.depthAll ds + 1 ≤ 64
    omega
theorem strOk_name {z : Str} (h : nameB z = true) : PyData.canLay0 (.str z) = true := by
  unfold nameB at h
  simp only [Bool.and_eq_true, decide_eq_true_eq, List.all_eq_true] at h
  show z.cps.all (· < 0x110000) = true
  rw [← Array.all_toList, List.all_eq_true]
  intro c hc
  have := (h.2 c hc).2
  exact decide_eq_true (by omega)
theorem shaped_S {ns : List Str} (h : ∀ z ∈ ns, nameB z = true) : SeqAt.shaped (encS ns) = true := by
  refine shaped_list (n := 0) (fun d hd => ?_) (by decide)
  obtain ⟨z, hz, rfl⟩ := List.mem_map.mp hd
  exact ⟨strOk_name (h z hz), Nat.le_refl _⟩
theorem shaped_E {e : Str × Int} (h : nameB e.1 = true) : SeqAt.shaped (encE e) = true ∧ (encE e).canLay0 = true ∧ (encE e).depth ≤ 1 := by
  have c : (encE e).canLay0 = true := by
    show PyData.canLayAll0 [.str e.1, .int e.2] = true
    refine all_canLay fun d hd => ?_
    rcases List.mem_cons.mp hd with rfl | hd
    · exact strOk_name h
    · rw [List.mem_singleton.mp hd]; rfl
  have d : (encE e).depth ≤ 1 := by
    show max 0 (max 0 0) + 1 ≤ 1
    decide
  exact ⟨Bool.and_eq_true_iff.mpr ⟨c, decide_eq_true (Nat.le_trans d (by decide))⟩, c, d⟩
theorem shaped_L {es : List (Str × Int)} (h : ∀ e ∈ es, nameB e.1 = true) : SeqAt.shaped (encL es) = true := by
  refine shaped_list (n := 1) (fun d hd => ?_) (by decide)
  obtain ⟨e, he, rfl⟩ := List.mem_map.mp hd
  exact (shaped_E (h e he)).2
theorem eqvAll_map {α : Type} [DecidableEq α] {f : α → PyData} (hf : ∀ x y, PyData.eqv (f x) (f y) = decide (x = y)) : ∀ xs ys : List α, PyData.eqvAll (xs.map f) (ys.map f) = decide (xs = ys)
  | [], [] => by simp [PyData.eqvAll]
  | [], y :: ys => by simp [PyData.eqvAll]
  | x :: xs, [] => by simp [PyData.eqvAll]
  | x :: xs, y :: ys => by
    simp only [List.map_cons, PyData.eqvAll, hf, eqvAll_map hf xs ys]
    rw [Bool.eq_iff_iff]
    simp
theorem eqv_str (x y : Str) : PyData.eqv (.str x) (.str y) = decide (x = y) := by
  simp only [PyData.eqv]
  by_cases h : x = y
  · subst h; simp
  · rw [decide_eq_false h]; simpa using h
theorem eqv_ent (e g : Str × Int) : PyData.eqv (encE e) (encE g) = decide (e = g) := by
  obtain ⟨a, i⟩ := e
  obtain ⟨b, j⟩ := g
  unfold encE
  simp only [PyData.eqv, PyData.eqvAll]
  rw [Bool.eq_iff_iff]
  simp
theorem eqv_S (ns ms : List Str) : PyData.eqv (encS ns) (encS ms) = decide (ns = ms) := by
  unfold encS
  simp only [PyData.eqv]
  exact eqvAll_map eqv_str ns ms
theorem eqv_L (es gs : List (Str × Int)) : PyData.eqv (encL es) (encL gs) = decide (es = gs) := by
  unfold encL
  simp only [PyData.eqv]
  exact eqvAll_map eqv_ent es gs
theorem any_L (e : Str × Int) (es : List (Str × Int)) : ((es.map encE).any fun z => PyData.eqv z (encE e)) = decide (e ∈ es) := by
  rw [List.any_map, Bool.eq_iff_iff]
  simp only [List.any_eq_true, Function.comp, eqv_ent, decide_eq_true_eq]
  exact ⟨fun ⟨x, h, q⟩ => q ▸ h, fun h => ⟨e, h, rfl⟩⟩

section
variable {P : Program} {w : World} {K : PySem.W.Frag} {mg : Str → Option Value} {base : Heap} {cL cX C : Addr} {kd : Str} {f : Addr} {fd : FuncData}
theorem ok_size (L : LogC K C kd) (D : Mx K "size" "Log.size" s_Log_size ["self"] f fd) : FnOk P w K mg base C8.CX0 1 f fd ["self"] (spSize C) := by
  refine fn_of' D sc_Log_size (fun vs H Q E h => ?_) (fun cdv A o s H vs Q E hr h => ?_)
  · obtain ⟨p, sz, ns, es, rfl, _⟩ := h; rfl
  · obtain ⟨p, sz, ns, es, rfl, ⟨dx, ls, le, xs, hp, h1, h2, el⟩, k⟩ := h
    exact ⟨_, (pss_one (ps_ret (pe_fld (mv 0) rfl))), p, C, dx, _, _, rfl, hp, L.cl, L.nS, lf_size _ _ _, k⟩
theorem ok_servers (T : Tz K mg cL cX) (L : LogC K C kd) (D : Mx K "servers" "Log.servers" s_Log_servers ["self"] f fd) : FnOk P w K mg base C8.CX0 1 f fd ["self"] (spServers C) := by
  refine fn_of' D sc_Log_servers (fun vs H Q E h => ?_) (fun cdv A o s H vs Q E hr h => ?_)
  · obtain ⟨p, sz, ns, es, rfl, _⟩ := h; rfl
  · obtain ⟨p, sz, ns, es, rfl, ⟨dx, ls, le, xs, hp, h1, h2, el⟩, k⟩ := h
    exact ⟨_, (pss_one (ps_ret (pe_callTy call_list_of (by rfl) T.n_list (by decide +kernel) (pa_cons (pe_fld (mv 0) rfl) pa_nil)))), p, C, dx, _, _, rfl, hp, L.cl, L.nV, lf_servers _ _ _, ls, _, rfl, .inl (SqL.of h1), k⟩
theorem ok_entries (T : Tz K mg cL cX) (L : LogC K C kd) (D : Mx K "entries" "Log.entries" s_Log_entries ["self"] f fd) : FnOk P w K mg base C8.CX0 1 f fd ["self"] (spEntr C) := by
  refine fn_of' D sc_Log_entries (fun vs H Q E h => ?_) (fun cdv A o s H vs Q E hr h => ?_)
  · obtain ⟨p, sz, ns, es, rfl, _⟩ := h; rfl
  · obtain ⟨p, sz, ns, es, rfl, ⟨dx, ls, le, xs, hp, h1, h2, el⟩, k⟩ := h
    exact ⟨_, (pss_one (ps_ret (pe_callTy call_list_of (by rfl) T.n_list (by decide +kernel) (pa_cons (pe_fld (mv 0) rfl) pa_nil)))), p, C, dx, _, _, rfl, hp, L.cl, L.nE, lf_entries _ _ _, le, _, rfl, .inl (SqL.of h2), fun l hl => k l xs hl el⟩
theorem ok_len (T : Tz K mg cL cX) (L : LogC K C kd) (D : Mx K "__len__" "Log.__len__" s_Log___len__ ["self"] f fd) : FnOk P w K mg base C8.CX0 1 f fd ["self"] (spLen C) := by
  refine fn_of' D sc_Log___len__ (fun vs H Q E h => ?_) (fun cdv A o s H vs Q E hr h => ?_)
  · obtain ⟨p, sz, ns, es, rfl, _⟩ := h; rfl
  · obtain ⟨p, sz, ns, es, rfl, ⟨dx, ls, le, xs, hp, h1, h2, el⟩, k⟩ := h
    refine ⟨_, (pss_one (ps_ret (pe_callB call_len (by rfl) T.n_len (by decide +kernel) (pa_cons (pe_fld (mv 0) rfl) pa_nil)))), p, C, dx, _, _, rfl, hp, L.cl, L.nE, lf_entries _ _ _, _, _, rfl, .inl ⟨_, SqL.of h2, rfl⟩, ?_⟩
    rw [← el.len]
    exact k
theorem ok_in (T : Tz K mg cL cX) (L : LogC K C kd) (D : Mx K "__contains__" "Log.__contains__" s_Log___contains__ ["self", "thing"] f fd) (c_is_entry : Cal P w K mg base 2 "is_entry" (spEntry K) []) :
    FnOk P w K mg base C8.CX0 3 f fd ["self", "thing"] (spIn K C) := by
  refine fn_of' D sc_Log___contains__ (fun vs H Q E h => ?_) (fun cdv A o s H vs Q E hr h => ?_)
  · obtain ⟨p, sz, ns, es, x, r, rfl, _⟩ := h; rfl
  · obtain ⟨p, sz, ns, es, x, r, rfl, lg, ok, hn, j, k⟩ := h
    obtain ⟨dx, ls, le, xs, hp, h1, h2, el⟩ := lg
    refine ⟨_, (pss_one (ps_ret (pe_and (pe_c c_is_entry hr (by decide) rfl (pa_cons (pe_fld (mv 0) rfl) (pa_cons (mv 1) pa_nil))) (pe_one (pe_cmpR (op_inD (u65 hr)) (mv 1) (pe_fld (mv 0) rfl) (by rfl)))))), p, C, dx, _, _, rfl, hp, L.cl, L.nV, lf_servers _ _ _, ls, ns, x, r, rfl, h1, j, _, rfl, ?_⟩
    cases r with
    | none => exact ifF (by rfl) k
    | some e =>
      refine ifT (by rfl) ?_
      cases j with
      | @ok t z i ht hz hi =>
        refine ⟨p, C, dx, _, _, rfl, hp, L.cl, L.nE, lf_entries _ _ _, _, _, dp_E (e := (z, i)) ⟨t, rfl, ht⟩, dp_L (SqL.of h2) el, (shaped_E (hn z hz)).1, shaped_L (fun e he => hn _ (ok.ok e he).1), ?_⟩
        rw [any_L]
        exact k
theorem kd_no (sz : Int) (ls le : Addr) : (lf sz ls le).lookup ("KIND" : Str) = none := lf_no sz ls le (by decide +kernel) (by decide +kernel) (by decide +kernel)
theorem ok_eq {C2 : Addr} {kd2 : Str} (T : Tz K mg cL cX) (L : LogC K C kd) (L2 : LogC K C2 kd2) (hk : PySem.W.kitOne K (.ref C2) (.ref cL) = some true) (D : Mx K "__eq__" "Log.__eq__" s_Log___eq__ ["self", "other"] f fd) :
    FnOk P w K mg base C8.CX0 1 f fd ["self", "other"] (spEqL C C2 kd kd2) := by
  refine fn_of' D sc_Log___eq__ (fun vs H Q E h => ?_) (fun cdv A o s H vs Q E hr h => ?_)
  · obtain ⟨p, q, sz, ns, es, sz2, ns2, es2, rfl, _⟩ := h; rfl
  · obtain ⟨p, q, sz, ns, es, sz2, ns2, es2, rfl, ⟨dx, ls, le, xs, hp, h1, h2, el⟩, ⟨dx2, ls2, le2, xs2, hp2, g1, g2, el2⟩, ok, nm, ok2, nm2, k⟩ := h
    obtain ⟨u, con⟩ := L.kd
    obtain ⟨u2, con2⟩ := L2.kd
    refine ⟨_, (pss_cons (ps_if (PW.pt (pw_or (pt_not (qv (pe_callB call_isi (by rfl) T.n_isinstance (by decide +kernel) (pa_cons (mv 1) (pa_cons (pe_gc rfl T.g_Log) pa_nil))))) (pw_or (qt m_ne (pe_con (mv 1) rfl) (pe_con (mv 0) rfl) (nomark _)) (pw_or1 (qt m_ne (pe_fld (mv 1) rfl) (pe_fld (mv 0) rfl) (nomark _)))))) (pss_one (ps_ret pe_bl)) pss_nil)
    (pss_one (ps_ret (pe_and (pe_cmpR (op_eqD hr.units) (pe_fld (mv 1) rfl) (pe_fld (mv 0) rfl) (nomark _)) (pe_one (pe_cmpR (op_eqD hr.units) (pe_fld (mv 1) rfl) (pe_fld (mv 0) rfl) (nomark _))))))), ?_⟩
    refine ⟨_, _, _, _, _, rfl, .own _, L2.ty _ _ _ _ hp2, hk, ifF (by rfl) ?_⟩
    refine ⟨q, C2, dx2, _, _, _, rfl, hp2, L2.cl, con2, kd_no _ _ _, p, C, dx, _, _, _, rfl, hp, L.cl, con, kd_no _ _ _, ?_⟩
    dsimp only [mEqG, kB]
    by_cases e1 : kd2 = kd
    · rw [decide_eq_true e1] at k ⊢
      refine ifF (by rfl) ?_
      refine ⟨q, C2, dx2, _, _, rfl, hp2, L2.cl, L2.nS, lf_size _ _ _, p, C, dx, _, _, rfl, hp, L.cl, L.nS, lf_size _ _ _, ?_⟩
      dsimp only [mEqG, kB]
      by_cases e2 : sz2 = sz
      · rw [decide_eq_true e2] at k ⊢
        refine ifF (by rfl) ?_
        refine ⟨q, C2, dx2, _, _, rfl, hp2, L2.cl, L2.nV, lf_servers _ _ _, p, C, dx, _, _, rfl, hp, L.cl, L.nV, lf_servers _ _ _, ?_⟩
        refine ⟨_, _, dp_S (SqL.of g1), dp_S (SqL.of h1), shaped_S nm2, shaped_S nm, _, rfl, ?_⟩
        rw [eqv_S]
        by_cases e3 : ns2 = ns
        · rw [decide_eq_true e3] at k ⊢
          refine ifT (by rfl) ?_
          refine ⟨q, C2, dx2, _, _, rfl, hp2, L2.cl, L2.nE, lf_entries _ _ _, p, C, dx, _, _, rfl, hp, L.cl, L.nE, lf_entries _ _ _, ?_⟩
          refine ⟨_, _, dp_L (SqL.of g2) el2, dp_L (SqL.of h2) el, shaped_L (fun e he => nm2 _ (ok2.ok e he).1), shaped_L (fun e he => nm _ (ok.ok e he).1), ?_⟩
          rw [eqv_L]
          exact k
        · rw [decide_eq_false e3] at k ⊢
          exact ifF (by rfl) k
      · rw [decide_eq_false e2] at k ⊢
        exact ifT (by rfl) k
    · rw [decide_eq_false e1] at k ⊢
      exact ifT (by rfl) k

theorem nat_bits {i : Int} {n : Nat} (h0 : 0 ≤ i) (h : i < 2 ^ n) (hn : 0 < n) : i.natAbs.log2 < n := by
  refine PySem.Flt.log2_lt_of hn ?_
  have : ((i.natAbs : Nat) : Int) < ((2 ^ n : Nat) : Int) := by
    rw [Int.natCast_pow]
    have e : (i.natAbs : Int) = i := by omega
    rw [e]; exact h
  exact_mod_cast this
theorem cdv_size {sz : Int} (i : Int) (h : SizeOk sz) : CDv i sz := by
  refine ⟨by have := h.1; omega, Nat.lt_trans (nat_bits (n := 100) (by have := h.1; omega) ?_ (by decide)) (by decide)⟩
  have h2 := h.2
  have : (10 : Int) ^ 30 < 2 ^ 100 := by decide
  omega
end
end NB

set_option Elab.async false
set_option linter.all false
set_option maxRecDepth 100000
set_option maxHeartbeats 2000000
/-! K3t (k81): texts of logs in plain Lean -/
namespace NB
open PySem PySem.Spec L2
abbrev tl : Str → List Nat := TL.tl
/-- the text of a number -/
def numT (i : Int) : Str := Str.ofString (toString i)
theorem tl_numT {i : Int} (h : 0 ≤ i) : tl (numT i) = TL.numL i.toNat := by
  have e : i = ((i.toNat : Nat) : Int) := by omega
  unfold numT
  rw [e]
  exact TL.tl_num _
theorem len_tl' (z : Str) : z.length = (tl z).length := TL.len_tl z
theorem numT_len {i : Int} {k : Nat} (hk : 0 < k) (h0 : 0 ≤ i) (h : i < 10 ^ k) : (numT i).length ≤ k := by
  rw [len_tl', tl_numT h0]
  refine TL.numL_len hk ?_
  have : ((i.toNat : Nat) : Int) < ((10 ^ k : Nat) : Int) := by
    rw [Int.natCast_pow]
    have e : ((i.toNat : Nat) : Int) = i := by omega
    rw [e]; exact h
  exact_mod_cast this
theorem numT_pos {i : Int} (h0 : 0 ≤ i) : 1 ≤ (numT i).length := by
  rw [len_tl', tl_numT h0]
  have := TL.numL_ne i.toNat
  cases q : TL.numL i.toNat with
  | nil => exact absurd q this
  | cons a r => simp
theorem numT_dig {i : Int} (h0 : 0 ≤ i) : ∀ c ∈ tl (numT i), 48 ≤ c ∧ c ≤ 57 := by
  rw [tl_numT h0]
  exact TL.numL_digits _
/-- no leading zero -/
theorem numL_head : ∀ n : Nat, 0 < n → (TL.numL n).head? ≠ some 48 := by
  intro n
  induction n using Nat.strongRecOn with
  | _ n ih =>
    intro hn
    by_cases h : n < 10
    · rw [TL.numL_lt h]
      intro e
      have : 48 + n = 48 := Option.some.inj e
      omega
    · rw [TL.numL_step (by omega)]
      have q := ih (n / 10) (by omega) (by omega)
      have ne := TL.numL_ne (n / 10)
      cases e : TL.numL (n / 10) with
      | nil => exact absurd e ne
      | cons a r => rw [e] at q; exact q
theorem int_numT {i : Int} (h0 : 0 ≤ i) (h : i < 10 ^ 60) : PySem.intText? (numT i) = some i := by
  have l := numT_len (k := 60) (by decide) h0 h
  have e : i = ((i.toNat : Nat) : Int) := by omega
  rw [len_tl', tl_numT h0] at l
  have q := TL.int_num (n := i.toNat) (by omega)
  unfold numT
  rw [← e] at q
  exact q
theorem tl_inj {a b : Str} (h : tl a = tl b) : a = b := TL.ext_tl h
theorem tl_app (a b : Str) : tl (a ++ b) = tl a ++ tl b := TL.tl_append a b
theorem tl_join' (y : Str) (ps : List Str) : tl (Txt.join y ps) = TL.joinL (tl y) (ps.map tl) := by
  rw [TL.join_eq]; exact TL.tl_join y ps
/-- the text of an entry -/
def entT (e : Str × Int) : Str := e.1 ++ (":" : Str) ++ numT e.2
theorem tl_name {z : Str} (h : nameB z = true) : ∀ c ∈ tl z, 97 ≤ c ∧ c ≤ 122 := by
  unfold nameB at h
  simp only [Bool.and_eq_true, decide_eq_true_eq, List.all_eq_true] at h
  exact fun c hc => h.2 c hc
theorem name_len {z : Str} (h : nameB z = true) : 1 ≤ z.length ∧ z.length ≤ 8 := by
  unfold nameB at h
  simp only [Bool.and_eq_true, decide_eq_true_eq] at h
  exact h.1
theorem tl_colon : tl (":" : Str) = [58] := by decide +kernel
theorem tl_comma : tl ("," : Str) = [44] := by decide +kernel
theorem tl_blank : tl (" " : Str) = [32] := by decide +kernel
theorem tl_empty : tl Str.empty = [] := rfl
theorem tl_entT (e : Str × Int) : tl (entT e) = tl e.1 ++ (58 :: tl (numT e.2)) := by
  unfold entT
  rw [tl_app, tl_app, tl_colon, List.append_assoc]; rfl
def kdB (b : Bool) : Str := if b = true then "losing" else "steady"
def headT (b : Bool) (sz : Int) (ns : List Str) : List Str := [kdB b, numT sz, Txt.join "," ns]
/-- the text of a log -/
def logT (b : Bool) (sz : Int) (ns : List Str) (es : List (Str × Int)) : Str := Txt.join " " (headT b sz ns ++ es.map entT)
theorem mem_joinL {s c : Nat} : ∀ {ps : List (List Nat)}, c ∈ TL.joinL [s] ps → c = s ∨ ∃ p ∈ ps, c ∈ p
  | [], h => nomatch h
  | [p], h => .inr ⟨p, List.mem_cons_self, h⟩
  | p :: q :: r, h => by
    have h2 : c ∈ p ++ ([s] ++ TL.joinL [s] (q :: r)) := h
    rcases List.mem_append.mp h2 with h2 | h2
    · exact .inr ⟨p, List.mem_cons_self, h2⟩
    · rcases List.mem_append.mp h2 with h2 | h2
      · exact .inl (List.mem_singleton.mp h2)
      · rcases mem_joinL h2 with h2 | ⟨x, hx, h3⟩
        · exact .inl h2
        · exact .inr ⟨x, List.mem_cons_of_mem _ hx, h3⟩
theorem len_joinL {s m : Nat} : ∀ {ps : List (List Nat)}, (∀ p ∈ ps, p.length ≤ m) → (TL.joinL [s] ps).length ≤ ps.length * (m + 1)
  | [], _ => Nat.zero_le _
  | [p], h => by
    have := h p List.mem_cons_self
    show p.length ≤ 1 * (m + 1)
    omega
  | p :: q :: r, h => by
    have h1 := h p List.mem_cons_self
    have h2 := len_joinL (s := s) (m := m) (ps := q :: r) fun x hx => h x (List.mem_cons_of_mem _ hx)
    show (p ++ ([s] ++ TL.joinL [s] (q :: r))).length ≤ _
    rw [List.length_append, List.length_append, List.length_cons (a := p), Nat.succ_mul]
    show p.length + (1 + (TL.joinL [s] (q :: r)).length) ≤ _
    omega
structure TxtOk (sz : Int) (ns : List Str) (es : List (Str × Int)) : Prop where
  so : SizeOk sz
  cr : CrewOk ns
  ok : EntsOk ns es
  big : ∀ e ∈ es, e.2 < 10 ^ 60
section
variable {b : Bool} {sz : Int} {ns : List Str} {es : List (Str × Int)}
theorem kdB_ch : ∀ b, ∀ c ∈ tl (kdB b), 97 ≤ c ∧ c ≤ 122 := by decide +kernel
theorem kdB_len (b : Bool) : (kdB b).length ≤ 8 := by cases b <;> decide +kernel
theorem ent_ch {e : Str × Int} (hn : nameB e.1 = true) (h0 : 0 ≤ e.2) : ∀ c ∈ tl (entT e), 48 ≤ c ∧ c ≤ 122 := fun c hc => by
  rw [tl_entT] at hc
  rcases List.mem_append.mp hc with hc | hc
  · have := tl_name hn c hc; omega
  · rcases List.mem_cons.mp hc with rfl | hc
    · omega
    · have := numT_dig h0 c hc; omega
theorem ent_len {e : Str × Int} (hn : nameB e.1 = true) (h0 : 0 ≤ e.2) (h1 : e.2 < 10 ^ 60) : (entT e).length ≤ 69 := by
  have h2 := name_len hn
  have h3 := numT_len (k := 60) (by decide) h0 h1
  rw [len_tl'] at h2 h3
  rw [len_tl', tl_entT, List.length_append, List.length_cons]
  omega
theorem crew_ch (cr : CrewOk ns) : ∀ c ∈ tl (Txt.join "," ns), c = 44 ∨ (97 ≤ c ∧ c ≤ 122) := fun c hc => by
  rw [tl_join', tl_comma] at hc
  rcases mem_joinL hc with h | ⟨p, hp, h⟩
  · exact .inl h
  · obtain ⟨z, hz, rfl⟩ := List.mem_map.mp hp
    exact .inr (tl_name (cr.nam z hz) c h)
theorem crew_len (cr : CrewOk ns) : (Txt.join "," ns).length ≤ 108 := by
  rw [len_tl', tl_join', tl_comma]
  have := len_joinL (s := 44) (m := 8) (ps := ns.map tl) fun p hp => by
    obtain ⟨z, hz, rfl⟩ := List.mem_map.mp hp
    rw [← len_tl']; exact (name_len (cr.nam z hz)).2
  rw [List.length_map] at this
  have := cr.few
  omega
theorem size_lt (so : SizeOk sz) : sz < 10 ^ 60 := Int.lt_of_le_of_lt so.2 (by decide)
theorem part_ch (h : TxtOk sz ns es) : ∀ p ∈ headT b sz ns ++ es.map entT, ∀ c ∈ tl p, 44 ≤ c ∧ c ≤ 122 := by
  intro p hp c hc
  rcases List.mem_append.mp hp with hp | hp
  · simp only [headT, List.mem_cons, List.not_mem_nil, or_false] at hp
    rcases hp with rfl | rfl | rfl
    · have := kdB_ch b c hc; omega
    · have := numT_dig (by have := h.so.1; omega) c hc; omega
    · rcases crew_ch h.cr c hc with rfl | q
      · omega
      · omega
  · obtain ⟨e, he, rfl⟩ := List.mem_map.mp hp
    have q := h.ok.ok e he
    have := ent_ch (h.cr.nam _ q.1) q.2 c hc
    omega
theorem part_len (h : TxtOk sz ns es) : ∀ p ∈ headT b sz ns ++ es.map entT, p.length ≤ 108 := by
  intro p hp
  rcases List.mem_append.mp hp with hp | hp
  · simp only [headT, List.mem_cons, List.not_mem_nil, or_false] at hp
    rcases hp with rfl | rfl | rfl
    · exact Nat.le_trans (kdB_len b) (by decide)
    · exact Nat.le_trans (numT_len (k := 60) (by decide) (by have := h.so.1; omega) (size_lt h.so)) (by decide)
    · exact crew_len h.cr
  · obtain ⟨e, he, rfl⟩ := List.mem_map.mp hp
    have q := h.ok.ok e he
    exact Nat.le_trans (ent_len (h.cr.nam _ q.1) q.2 (h.big e he)) (by decide)
theorem logT_split (h : TxtOk sz ns es) : Txt.split (logT b sz ns es) " " = headT b sz ns ++ es.map entT := by
  refine TL.split_join (s := 32) (S := []) tl_blank (by decide +kernel) (by simp [headT]) fun p hp hm => ?_
  have := part_ch h p hp 32 hm
  omega
theorem crew_split (cr : CrewOk ns) : Txt.split (Txt.join "," ns) "," = ns := by
  refine TL.split_join (s := 44) (S := []) tl_comma (by decide +kernel) (fun e => by have := cr.one; rw [e] at this; exact absurd this (by decide)) fun p hp hm => ?_
  have := tl_name (cr.nam p hp) 44 hm
  omega
theorem ent_split {e : Str × Int} (hn : nameB e.1 = true) (h0 : 0 ≤ e.2) : Txt.split (entT e) ":" = [e.1, numT e.2] := by
  have j : entT e = Txt.join ":" [e.1, numT e.2] := by
    refine tl_inj ?_
    rw [tl_entT, tl_join', tl_colon]; rfl
  rw [j]
  refine TL.split_join (s := 58) (S := []) tl_colon (by decide +kernel) (by simp) fun p hp hm => ?_
  simp only [List.mem_cons, List.not_mem_nil, or_false] at hp
  rcases hp with rfl | rfl
  · have := tl_name hn 58 hm; omega
  · have := numT_dig h0 58 hm; omega
theorem logT_len (h : TxtOk sz ns es) : (logT b sz ns es).length ≤ 30000 := by
  unfold logT
  rw [len_tl', tl_join', tl_blank]
  have q := len_joinL (s := 32) (m := 108) (ps := (headT b sz ns ++ es.map entT).map tl) fun p hp => by
    obtain ⟨z, hz, rfl⟩ := List.mem_map.mp hp
    rw [← len_tl']; exact part_len h z hz
  rw [List.length_map, List.length_append, List.length_map] at q
  have := h.ok.few
  have e3 : (headT b sz ns).length = 3 := rfl
  omega
theorem sum_le {m : Nat} : ∀ {ps : List Str}, (∀ p ∈ ps, p.length ≤ m) → (ps.map (·.length)).sum ≤ ps.length * m
  | [], _ => Nat.zero_le _
  | p :: ps, h => by
    have h1 := h p List.mem_cons_self
    have h2 := sum_le (m := m) (ps := ps) fun x hx => h x (List.mem_cons_of_mem _ hx)
    rw [List.map_cons, List.sum_cons, List.length_cons, Nat.succ_mul]
    omega
theorem logT_join (h : TxtOk sz ns es) : ((headT b sz ns ++ es.map entT).map (·.length)).sum + (headT b sz ns ++ es.map entT).length * (" " : Str).length ≤ 16777216 := by
  have q := sum_le (m := 108) (ps := headT b sz ns ++ es.map entT) (part_len h)
  have l1 : (" " : Str).length = 1 := by decide +kernel
  have e3 : (headT b sz ns).length = 3 := rfl
  have := h.ok.few
  rw [l1]
  rw [List.length_append, List.length_map] at q ⊢
  omega
theorem crew_join (cr : CrewOk ns) : (ns.map (·.length)).sum + ns.length * ("," : Str).length ≤ 16777216 := by
  have q := sum_le (m := 8) (ps := ns) fun p hp => (name_len (cr.nam p hp)).2
  have l1 : ("," : Str).length = 1 := by decide +kernel
  have := cr.few
  rw [l1]
  omega
/-- a text of small signs can be laid -/
theorem lay_txt {z : Str} (h : ∀ c ∈ tl z, c ≤ 122) : PyData.canLay0 (.str z) = true := by
  show z.cps.all (· < 0x110000) = true
  rw [← Array.all_toList, List.all_eq_true]
  intro c hc
  have := h c hc
  exact decide_eq_true (by omega)
theorem logT_lay (h : TxtOk sz ns es) : PyData.canLay0 (.str (logT b sz ns es)) = true := by
  refine lay_txt fun c hc => ?_
  unfold logT at hc
  rw [tl_join', tl_blank] at hc
  rcases mem_joinL hc with rfl | ⟨p, hp, hc⟩
  · omega
  · obtain ⟨z, hz, rfl⟩ := List.mem_map.mp hp
    exact (part_ch h z hz c hc).2
end
end NB

set_option Elab.async false
set_option linter.all false
set_option maxRecDepth 100000
set_option maxHeartbeats 2000000
/-! K3p (k82): what a text is read as, in plain Lean -/
namespace NB
open PySem PySem.Spec L2
/-! ### numbers -/
def digC (c : Nat) : Bool := decide (48 ≤ c ∧ c ≤ 57)
def valL (l : List Nat) : Nat := l.foldl (fun a c => a * 10 + (c - 48)) 0
theorem valL_snoc (l : List Nat) (c : Nat) : valL (l ++ [c]) = valL l * 10 + (c - 48) := by
  unfold valL; rw [List.foldl_append]; rfl
theorem valL_lt {l : List Nat} (h : ∀ c ∈ l, digC c = true) : valL l < 10 ^ l.length := by
  suffices q : ∀ r : List Nat, (∀ c ∈ r.reverse, digC c = true) → valL r.reverse < 10 ^ r.length by
    have := q l.reverse (by rw [List.reverse_reverse]; exact h)
    rw [List.reverse_reverse, List.length_reverse] at this
    exact this
  intro r
  induction r with
  | nil => intro _; exact Nat.one_pos
  | cons c r ih =>
    intro h
    rw [List.reverse_cons] at h ⊢
    have i1 := ih fun x hx => h x (List.mem_append_left _ hx)
    have hc := of_decide_eq_true (h c (by simp))
    rw [valL_snoc, List.length_cons, Nat.pow_succ]
    omega
theorem numL_val' {l : List Nat} (hne : l ≠ []) (h : ∀ c ∈ l, digC c = true) (hz : l.head? ≠ some 48 ∨ l = [48]) : TL.numL (valL l) = l := by
  suffices q : ∀ r : List Nat, r.reverse ≠ [] → (∀ c ∈ r.reverse, digC c = true) → (r.reverse.head? ≠ some 48 ∨ r.reverse = [48]) → TL.numL (valL r.reverse) = r.reverse by
    have := q l.reverse (by rw [List.reverse_reverse]; exact hne) (by rw [List.reverse_reverse]; exact h) (by rw [List.reverse_reverse]; exact hz)
    rw [List.reverse_reverse] at this
    exact this
  intro r
  induction r with
  | nil => intro h1; exact absurd rfl h1
  | cons c r ih =>
    intro _ h hz
    rw [List.reverse_cons] at h hz ⊢
    have hc := of_decide_eq_true (h c (by simp))
    rw [valL_snoc]
    cases r with
    | nil =>
      show TL.numL (0 * 10 + (c - 48)) = [c]
      rw [TL.numL_lt (by omega)]
      congr 1
      omega
    | cons d r =>
      have hne : (d :: r).reverse ≠ [] := by simp
      have hh : ((d :: r).reverse ++ [c]).head? = (d :: r).reverse.head? := by
        cases q : (d :: r).reverse with
        | nil => exact absurd q hne
        | cons a t => rfl
      have hz1 : (d :: r).reverse.head? ≠ some 48 := by
        rcases hz with hz | hz
        · rw [hh] at hz; exact hz
        · exfalso
          have := congrArg List.length hz
          simp at this
      have i1 := ih hne (fun x hx => h x (List.mem_append_left _ hx)) (.inl hz1)
      have pos : 0 < valL (d :: r).reverse := by
        rcases Nat.eq_zero_or_pos (valL (d :: r).reverse) with e | e
        · rw [e] at i1
          rw [← i1] at hz1
          exact absurd rfl hz1
        · exact e
      rw [TL.numL_step (by omega)]
      have e1 : (valL (d :: r).reverse * 10 + (c - 48)) / 10 = valL (d :: r).reverse := by omega
      have e2 : 48 + (valL (d :: r).reverse * 10 + (c - 48)) % 10 = c := by omega
      rw [e1, e2, i1]
def lead0 (z : Str) : Bool := decide ((tl z).head? = some 48) && !decide (z = "0")
def numOkB (z : Str) : Bool := decide (1 ≤ z.length) && decide (z.length ≤ 60) && (tl z).all digC && !lead0 z
theorem tl_zero : tl ("0" : Str) = [48] := by decide +kernel
theorem num_of {z : Str} (h : numOkB z = true) : ∃ i : Int, 0 ≤ i ∧ i < 10 ^ 60 ∧ z = numT i := by
  unfold numOkB lead0 at h
  simp only [Bool.and_eq_true, decide_eq_true_eq, Bool.not_eq_true', Bool.and_eq_false_iff, decide_eq_false_iff_not, Bool.not_eq_false'] at h
  obtain ⟨⟨⟨h1, h2⟩, h3⟩, h4⟩ := h
  rw [len_tl'] at h1 h2
  have hd : ∀ c ∈ tl z, digC c = true := fun c hc => List.all_eq_true.mp h3 c hc
  have ne : tl z ≠ [] := fun e => by rw [e] at h1; exact absurd h1 (by decide)
  have hv := numL_val' ne hd (h4.imp id fun e => by rw [e, tl_zero])
  have hl : valL (tl z) < 10 ^ 60 := Nat.lt_of_lt_of_le (valL_lt hd) (Nat.pow_le_pow_right (by decide) h2)
  refine ⟨(valL (tl z) : Nat), by omega, by exact_mod_cast hl, ?_⟩
  refine tl_inj ?_
  rw [tl_numT (by omega)]
  exact hv.symm
def numO (z : Str) : Option Int := if numOkB z = true then PySem.intText? z else none
theorem numO_some {z : Str} {i : Int} (h : numO z = some i) : 0 ≤ i ∧ i < 10 ^ 60 ∧ z = numT i ∧ numOkB z = true ∧ PySem.intText? z = some i := by
  unfold numO at h
  by_cases q : numOkB z = true
  · rw [if_pos q] at h
    obtain ⟨j, j0, j1, rfl⟩ := num_of q
    have e := int_numT j0 j1
    rw [e] at h
    obtain rfl := Option.some.inj h
    exact ⟨j0, j1, rfl, q, e⟩
  · rw [if_neg q] at h; cases h
theorem numO_ok {z : Str} (h : numOkB z = true) : ∃ i, numO z = some i := by
  obtain ⟨j, j0, j1, e⟩ := num_of h
  refine ⟨j, ?_⟩
  unfold numO
  rw [if_pos h, e]
  exact int_numT j0 j1
theorem numO_no {z : Str} (h : numOkB z = false) : numO z = none := by
  unfold numO
  rw [if_neg (by rw [h]; exact Bool.false_ne_true)]
/-! ### words -/
def wt (ws : List Str) : Nat := (ws.map (·.length)).sum + ws.length
theorem wt_app (a b : List Str) : wt (a ++ b) = wt a + wt b := by
  unfold wt; rw [List.map_append, List.sum_append, List.length_append]; omega
theorem wt_cons (z : Str) (a : List Str) : wt (z :: a) = z.length + 1 + wt a := by
  unfold wt; rw [List.map_cons, List.sum_cons, List.length_cons]; omega
theorem wt_cut (ws : List Str) (n : Nat) : wt (ws.take n) + wt (ws.drop n) = wt ws := by
  rw [← wt_app, List.take_append_drop]
theorem wt_mem {z : Str} : ∀ {ws : List Str}, z ∈ ws → z.length + 1 ≤ wt ws
  | y :: ws, h => by
    rw [wt_cons]
    rcases List.mem_cons.mp h with rfl | h
    · omega
    · have := wt_mem h; omega
theorem wt_len (ws : List Str) : ws.length ≤ wt ws := Nat.le_add_left _ _
theorem spl_cons (s c : Nat) (acc r : List Nat) : TL.spl [s] 0 acc (c :: r) = if c = s then acc :: TL.spl [s] 0 [] r else TL.spl [s] 0 (acc ++ [c]) r := by
  have e : TL.pre [s] (c :: r) = decide (c = s) := by
    unfold TL.pre
    show ([c] == [s]) = _
    by_cases h : c = s
    · subst h; simp
    · simp [h]
  by_cases h : c = s
  · rw [TL.spl_hit (by rw [e]; exact decide_eq_true h), if_pos h]; rfl
  · rw [TL.spl_miss (by rw [e]; exact decide_eq_false h), if_neg h]
theorem spl_wt (s : Nat) : ∀ (l acc : List Nat), ((TL.spl [s] 0 acc l).map List.length).sum + (TL.spl [s] 0 acc l).length = acc.length + l.length + 1
  | [], acc => by rw [TL.spl_nil]; simp
  | c :: r, acc => by
    rw [spl_cons]
    by_cases h : c = s
    · rw [if_pos h, List.map_cons, List.sum_cons, List.length_cons]
      have := spl_wt s r []
      simp only [List.length_nil, List.length_cons] at this ⊢
      omega
    · rw [if_neg h]
      have := spl_wt s r (acc ++ [c])
      simp only [List.length_append, List.length_cons, List.length_nil] at this ⊢
      omega
theorem spl_ne (s : Nat) : ∀ (l acc : List Nat), TL.spl [s] 0 acc l ≠ []
  | [], acc => by rw [TL.spl_nil]; simp
  | c :: r, acc => by
    rw [spl_cons]
    split
    · simp
    · exact spl_ne s r _
section
variable {y : Str} {s : Nat}
theorem split_tl (t : Str) (ey : tl y = [s]) (hk : y.cps.all (· < 256) = true) : (Txt.split t y).map tl = TL.spl [s] 0 [] (tl t) := by
  rw [← ey]
  exact TL.split_spl t y (by show tl y ≠ []; rw [ey]; simp) (TL.kind_ok hk)
theorem split_wt (t : Str) (ey : tl y = [s]) (hk : y.cps.all (· < 256) = true) : wt (Txt.split t y) = t.length + 1 := by
  have h := spl_wt s (tl t) []
  rw [← split_tl t ey hk, List.map_map, List.length_map] at h
  have e : (Txt.split t y).map (List.length ∘ tl) = (Txt.split t y).map (·.length) := List.map_congr_left fun z _ => (len_tl' z).symm
  rw [e, ← len_tl'] at h
  unfold wt
  simpa using h
theorem split_ne (t : Str) (ey : tl y = [s]) (hk : y.cps.all (· < 256) = true) : Txt.split t y ≠ [] := fun e => by
  have h := split_tl t ey hk
  rw [e] at h
  exact spl_ne s _ _ h.symm
end
abbrev wds (t : Str) : List Str := Txt.split t " "
abbrev cms (t : Str) : List Str := Txt.split t ","
abbrev cls2 (t : Str) : List Str := Txt.split t ":"
theorem wds_wt (t : Str) : wt (wds t) = t.length + 1 := split_wt t tl_blank (by decide +kernel)
theorem wds_ne (t : Str) : wds t ≠ [] := split_ne t tl_blank (by decide +kernel)
theorem cms_wt (t : Str) : wt (cms t) = t.length + 1 := split_wt t tl_comma (by decide +kernel)
theorem cms_ne (t : Str) : cms t ≠ [] := split_ne t tl_comma (by decide +kernel)
theorem cls_wt (t : Str) : wt (cls2 t) = t.length + 1 := split_wt t tl_colon (by decide +kernel)
theorem joinL_len (s : Nat) : ∀ ps : List (List Nat), (TL.joinL [s] ps).length ≤ (ps.map List.length).sum + ps.length
  | [] => Nat.zero_le _
  | [p] => by show p.length ≤ _; simp
  | p :: q :: r => by
    have := joinL_len s (q :: r)
    show (p ++ ([s] ++ TL.joinL [s] (q :: r))).length ≤ _
    rw [List.length_append, List.length_append, List.map_cons, List.sum_cons, List.length_cons (a := p)]
    show p.length + (1 + _) ≤ _
    omega
theorem join_len {y : Str} {s : Nat} (ey : tl y = [s]) (ws : List Str) : (Txt.join y ws).length ≤ wt ws := by
  rw [len_tl', tl_join', ey]
  have h := joinL_len s (ws.map tl)
  rw [List.map_map, List.length_map] at h
  have e : ws.map (List.length ∘ tl) = ws.map (·.length) := List.map_congr_left fun z _ => (len_tl' z).symm
  rw [e] at h
  exact h
/-! ### what is read -/
def servO (z : Str) : Option (List Str) := if (cms z).length ≤ 12 ∧ (∀ y ∈ cms z, nameB y = true) ∧ (cms z).Nodup then some (cms z) else none
theorem servO_some {z : Str} {ns : List Str} (h : servO z = some ns) : ns = cms z ∧ CrewOk ns := by
  unfold servO at h
  split at h
  · rename_i q
    obtain rfl := Option.some.inj h
    refine ⟨rfl, ?_, q.1, q.2.1, q.2.2⟩
    have := cms_ne z
    cases e : cms z with
    | nil => exact absurd e this
    | cons a r => simp
  · cases h
theorem servO_no {z : Str} (h : ¬ ((cms z).length ≤ 12 ∧ (∀ y ∈ cms z, nameB y = true) ∧ (cms z).Nodup)) : servO z = none := by
  unfold servO
  rw [if_neg h]
theorem servO_yes {z : Str} (h : (cms z).length ≤ 12 ∧ (∀ y ∈ cms z, nameB y = true) ∧ (cms z).Nodup) : servO z = some (cms z) := by
  unfold servO
  rw [if_pos h]
def entO (ns : List Str) (w : Str) : Option (Str × Int) := match cls2 w with
  | [a, b] => if a ∈ ns then (numO b).map fun i => (a, i) else none
  | _ => none
theorem entO_some {ns : List Str} {w : Str} {e : Str × Int} (h : entO ns w = some e) : ∃ b, cls2 w = [e.1, b] ∧ e.1 ∈ ns ∧ numO b = some e.2 := by
  unfold entO at h
  split at h
  · rename_i a b q
    split at h
    · rename_i m
      obtain ⟨i, h1, rfl⟩ := Option.map_eq_some_iff.mp h
      exact ⟨b, q, m, h1⟩
    · cases h
  · cases h
theorem entO_len {ns : List Str} {w : Str} (h : (cls2 w).length ≠ 2) : entO ns w = none := by
  unfold entO
  split
  · rename_i a b q
    rw [q] at h
    exact absurd rfl h
  · rfl
theorem entO_two {ns : List Str} {w a b : Str} (h : cls2 w = [a, b]) : entO ns w = if a ∈ ns then (numO b).map fun i => (a, i) else none := by
  unfold entO
  rw [h]
def sizeB (z : Str) : Bool := match numO z with
  | some i => decide (1 ≤ i) && decide (i ≤ 10 ^ 30)
  | none => false
def kindB (w : Str) : Bool := decide (w = "steady") || decide (w = "losing")
def standB (ws : List Str) (j : Nat) (w : Str) : Bool :=
  if j = 0 then kindB w else if j = 1 then sizeB w else if j = 2 then (servO w).isSome else decide (j < 203) && (entO (cms (ws.getD 2 Str.empty)) w).isSome
structure Bad (ws : List Str) (k : Nat) : Prop where
  pre : ∀ j, j < k → ∃ w, ws[j]? = some w ∧ standB ws j w = true
  at_ : (k = ws.length ∧ k < 3) ∨ ∃ w, ws[k]? = some w ∧ standB ws k w = false
structure Reads (ws : List Str) (b : Bool) (sz : Int) (ns : List Str) (es : List (Str × Int)) : Prop where
  k0 : ws[0]? = some (kdB b)
  k1 : ∃ x, ws[1]? = some x ∧ numO x = some sz
  so : SizeOk sz
  k2 : ∃ x, ws[2]? = some x ∧ servO x = some ns
  k3 : (ws.drop 3).map (entO ns) = es.map some
  few : es.length ≤ 200
theorem Bad.uniq {ws : List Str} {j k : Nat} (h : Bad ws j) (g : Bad ws k) : j = k := by
  have lt : ∀ {j k : Nat}, Bad ws j → Bad ws k → ¬ j < k := fun {j k} h g lt => by
    obtain ⟨w, hw, st⟩ := g.pre j lt
    rcases h.at_ with ⟨e, _⟩ | ⟨w2, hw2, st2⟩
    · have := (List.getElem?_eq_some_iff.mp hw).1
      omega
    · rw [hw] at hw2
      obtain rfl := Option.some.inj hw2
      rw [st] at st2
      cases st2
  have := lt h g
  have := lt g h
  omega
theorem kindB_kd (b : Bool) : kindB (kdB b) = true := by cases b <;> decide +kernel
theorem kindB_of {w : Str} (h : kindB w = true) : ∃ b, w = kdB b := by
  unfold kindB at h
  simp only [Bool.or_eq_true, decide_eq_true_eq] at h
  rcases h with h | h
  · exact ⟨false, h⟩
  · exact ⟨true, h⟩
theorem sizeB_of {z : Str} (h : sizeB z = true) : ∃ i, numO z = some i ∧ SizeOk i := by
  unfold sizeB at h
  split at h
  · rename_i i e
    simp only [Bool.and_eq_true, decide_eq_true_eq] at h
    exact ⟨i, e, h⟩
  · cases h
theorem sizeB_is {z : Str} {i : Int} (h : numO z = some i) (s : SizeOk i) : sizeB z = true := by
  unfold sizeB
  rw [h]
  simp only [Bool.and_eq_true, decide_eq_true_eq]
  exact s
section
variable {ws : List Str} {b : Bool} {sz : Int} {ns : List Str} {es : List (Str × Int)}
theorem Reads.len (h : Reads ws b sz ns es) : ws.length = 3 + es.length := by
  have e := congrArg List.length h.k3
  rw [List.length_map, List.length_map, List.length_drop] at e
  obtain ⟨x, hx, _⟩ := h.k2
  have := (List.getElem?_eq_some_iff.mp hx).1
  omega
theorem Reads.stand (h : Reads ws b sz ns es) {j : Nat} {w : Str} (hw : ws[j]? = some w) : standB ws j w = true := by
  have hl := h.len
  have hj := (List.getElem?_eq_some_iff.mp hw).1
  unfold standB
  by_cases e0 : j = 0
  · subst e0
    rw [if_pos rfl]
    have := h.k0
    rw [hw] at this
    rw [Option.some.inj this]
    exact kindB_kd b
  · rw [if_neg e0]
    by_cases e1 : j = 1
    · subst e1
      rw [if_pos rfl]
      obtain ⟨x, hx, q⟩ := h.k1
      rw [hw] at hx
      rw [Option.some.inj hx]
      exact sizeB_is q h.so
    · rw [if_neg e1]
      obtain ⟨x, hx, q⟩ := h.k2
      by_cases e2 : j = 2
      · subst e2
        rw [if_pos rfl]
        rw [hw] at hx
        rw [Option.some.inj hx, q]
        rfl
      · rw [if_neg e2]
        have e3 : ws.getD 2 Str.empty = x := by rw [List.getD_eq_getElem?_getD, hx]; rfl
        have few := h.few
        obtain ⟨rfl, _⟩ := servO_some q
        rw [e3]
        have e4 : ((ws.drop 3).map (entO (cms x)))[j - 3]? = some (entO (cms x) w) := by
          rw [List.getElem?_map, List.getElem?_drop]
          have : 3 + (j - 3) = j := by omega
          rw [this, hw]; rfl
        rw [h.k3, List.getElem?_map] at e4
        obtain ⟨e, _, e5⟩ := Option.map_eq_some_iff.mp e4
        rw [← e5, decide_eq_true (by omega)]
        rfl
theorem Reads.notBad (h : Reads ws b sz ns es) {k : Nat} (g : Bad ws k) : False := by
  rcases g.at_ with ⟨e, lt⟩ | ⟨w, hw, st⟩
  · have := h.len; omega
  · rw [h.stand hw] at st; cases st
theorem map_some_inj {α : Type} : ∀ {xs ys : List α}, xs.map some = ys.map some → xs = ys
  | [], [], _ => rfl
  | [], y :: ys, h => nomatch h
  | x :: xs, [], h => nomatch h
  | x :: xs, y :: ys, h => by
    injection h with h1 h2
    rw [Option.some.inj h1, map_some_inj h2]
theorem Reads.uniq {b' : Bool} {sz' : Int} {ns' : List Str} {es' : List (Str × Int)} (h : Reads ws b sz ns es) (g : Reads ws b' sz' ns' es') : b = b' ∧ sz = sz' ∧ ns = ns' ∧ es = es' := by
  obtain ⟨x1, hx1, q1⟩ := h.k1
  obtain ⟨y1, hy1, r1⟩ := g.k1
  rw [hx1] at hy1
  obtain rfl := Option.some.inj hy1
  rw [q1] at r1
  obtain ⟨x2, hx2, q2⟩ := h.k2
  obtain ⟨y2, hy2, r2⟩ := g.k2
  rw [hx2] at hy2
  obtain rfl := Option.some.inj hy2
  rw [q2] at r2
  obtain rfl := Option.some.inj r2
  have e0 := h.k0.symm.trans g.k0
  have e3 := h.k3.symm.trans g.k3
  refine ⟨?_, Option.some.inj r1, rfl, map_some_inj e3⟩
  have := Option.some.inj e0
  cases b <;> cases b' <;> first | rfl | exact absurd this (by decide +kernel)
theorem map_take_some {α β : Type} (f : α → Option β) : ∀ {xs : List α}, (∀ x ∈ xs, (f x).isSome = true) → ∃ ys : List β, xs.map f = ys.map some
  | [], _ => ⟨[], rfl⟩
  | x :: xs, h => by
    obtain ⟨ys, e⟩ := map_take_some f (xs := xs) fun y hy => h y (List.mem_cons_of_mem _ hy)
    obtain ⟨y, hy⟩ := Option.isSome_iff_exists.mp (h x List.mem_cons_self)
    exact ⟨y :: ys, by rw [List.map_cons, List.map_cons, hy, e]⟩
/-- all words stand: something is read -/
theorem good_reads (h3 : 3 ≤ ws.length) (h : ∀ j w, ws[j]? = some w → standB ws j w = true) : ∃ b sz ns es, Reads ws b sz ns es := by
  have g0 := List.getElem?_eq_getElem (l := ws) (i := 0) (by omega)
  have g1 := List.getElem?_eq_getElem (l := ws) (i := 1) (by omega)
  have g2 := List.getElem?_eq_getElem (l := ws) (i := 2) (by omega)
  have s0 := h 0 _ g0
  have s1 := h 1 _ g1
  have s2 := h 2 _ g2
  obtain ⟨b, eb⟩ := kindB_of (show kindB ws[0] = true from s0)
  obtain ⟨sz, esz, so⟩ := sizeB_of (show sizeB ws[1] = true from s1)
  obtain ⟨ns, ens⟩ := Option.isSome_iff_exists.mp (show (servO ws[2]).isSome = true from s2)
  have e2 : ws.getD 2 Str.empty = ws[2] := by rw [List.getD_eq_getElem?_getD, g2]; rfl
  have hr : ∀ j w, 3 ≤ j → ws[j]? = some w → j < 203 ∧ (entO ns w).isSome = true := fun j w hj hw => by
    have q := h j w hw
    unfold standB at q
    rw [if_neg (by omega), if_neg (by omega), if_neg (by omega), e2, ← (servO_some ens).1] at q
    simp only [Bool.and_eq_true, decide_eq_true_eq] at q
    exact q
  obtain ⟨es, ees⟩ := map_take_some (entO ns) (xs := ws.drop 3) fun w hw => by
    obtain ⟨j, hj⟩ := List.mem_iff_getElem?.mp hw
    rw [List.getElem?_drop] at hj
    exact (hr _ w (by omega) hj).2
  refine ⟨b, sz, ns, es, by rw [g0, eb], ⟨_, g1, esz⟩, so, ⟨_, g2, ens⟩, ees, ?_⟩
  have el := congrArg List.length ees
  rw [List.length_map, List.length_map, List.length_drop] at el
  by_cases few : ws.length ≤ 203
  · omega
  · have := (hr 203 ws[203] (by omega) (List.getElem?_eq_getElem (by omega))).1
    omega
end
/-- what a list of words is read as: the number of a word, or a log -/
abbrev Rd3 := Nat ⊕ (Bool × Int × List Str × List (Str × Int))
inductive Out (ws : List Str) : Rd3 → Prop where
  | bad {k : Nat} (h : Bad ws k) : Out ws (.inl k)
  | ok {b : Bool} {sz : Int} {ns : List Str} {es : List (Str × Int)} (h : Reads ws b sz ns es) : Out ws (.inr (b, sz, ns, es))
theorem Out.uniq {ws : List Str} {o o' : Rd3} (h : Out ws o) (g : Out ws o') : o = o' := by
  cases h with
  | bad h =>
    cases g with
    | bad g => rw [h.uniq g]
    | ok g => exact (g.notBad h).elim
  | ok h =>
    cases g with
    | bad g => exact (h.notBad g).elim
    | ok g => obtain ⟨rfl, rfl, rfl, rfl⟩ := h.uniq g; rfl
theorem Reads.ents {ws : List Str} {b : Bool} {sz : Int} {ns : List Str} {es : List (Str × Int)} (h : Reads ws b sz ns es) : ∀ e ∈ es, e.1 ∈ ns ∧ 0 ≤ e.2 ∧ e.2 < 10 ^ 60 := fun e he => by
  have m : some e ∈ (ws.drop 3).map (entO ns) := by rw [h.k3]; exact List.mem_map_of_mem he
  obtain ⟨w, _, hw⟩ := List.mem_map.mp m
  obtain ⟨x, _, h1, h2⟩ := entO_some hw
  obtain ⟨h3, h4, _⟩ := numO_some h2
  exact ⟨h1, h3, h4⟩
theorem Reads.tx {ws : List Str} {b : Bool} {sz : Int} {ns : List Str} {es : List (Str × Int)} (h : Reads ws b sz ns es) : TxtOk sz ns es := by
  obtain ⟨x, _, q⟩ := h.k2
  exact ⟨h.so, (servO_some q).2, ⟨h.few, fun e he => ⟨(h.ents e he).1, (h.ents e he).2.1⟩⟩, fun e he => (h.ents e he).2.2⟩
theorem Bad.lt {ws : List Str} {k : Nat} (h : Bad ws k) : k ≤ ws.length := by
  rcases h.at_ with ⟨e, _⟩ | ⟨w, hw, _⟩
  · omega
  · exact Nat.le_of_lt (List.getElem?_eq_some_iff.mp hw).1
end NB

set_option Elab.async false
set_option linter.all false
set_option maxRecDepth 100000
set_option maxHeartbeats 4000000
/-! K3 (k82): words read, by the program and by the law -/
namespace NB
open PySem PySem.Spec L2
open PyProof.Rows (envOfC)
open C8 (pe_c pe_mk pe_mt pe_mt0 pe_gc fnScope fnBody fnArgs fnScope_by Cal Met Mak)
def vO : Option Int → V
  | none => .non
  | some i => .int i
def sizeO (z : Str) : Option Int := if sizeB z = true then numO z else none
/-- a text whose signs are signs -/
def Sg (z : Str) : Prop := ∀ c ∈ tl z, c < 1114112
abbrev LIM : Nat := 1000000
def spNumIn : Sp := fun vs H Q _ => ∃ z, vs = [.str z] ∧ z.length ≤ LIM ∧ ∀ H', Ext H H' → Q (vO (numO z)) H'
def spNumL : Sp := fun vs H Q _ => ∃ z, vs = [.str z] ∧ z.length ≤ LIM ∧ Sg z ∧ ∀ H', Ext H H' → Q (vO (numO z)) H'
def spNameT : Sp := fun vs H Q _ => ∃ z, vs = [.str z] ∧ z.length ≤ LIM ∧ ∀ H', Ext H H' → Q (.bl (nameB z)) H'
def spNameL : Sp := fun vs H Q _ => ∃ z, vs = [.str z] ∧ z.length ≤ LIM ∧ Sg z ∧ ∀ H', Ext H H' → Q (.bl (nameB z)) H'
def spSizeIn : Sp := fun vs H Q _ => ∃ z, vs = [.str z] ∧ z.length ≤ LIM ∧ ∀ H', Ext H H' → Q (vO (sizeO z)) H'
def spServIn : Sp := fun vs H Q _ => ∃ z, vs = [.str z] ∧ z.length ≤ LIM ∧ (servO z = none → ∀ H', Ext H H' → Q .non H') ∧ ∀ ns, servO z = some ns → ∀ H' q, H q = none → H' q = some (.lst (ns.map V.str)) → Ext H H' → Q (.ref q) H'
def spEntIn : Sp := fun vs H Q _ => ∃ (z : Str) (a : Addr) (ns : List Str), vs = [.str z, .ref a] ∧ z.length ≤ LIM ∧ H a = some (.lst (ns.map V.str)) ∧ (entO ns z = none → ∀ H', Ext H H' → Q .non H') ∧ ∀ e, entO ns z = some e → ∀ H' v, EntAt H' e v → Ext H H' → Q v H'
theorem dig_in (c : Nat) : (!(Builtin.Str.occurrences "0123456789" ⟨#[c]⟩ 0 ("0123456789" : Str).length 1).isEmpty) = digC c := by
  have e : ("0123456789" : Str) = SX.S [48, 49, 50, 51, 52, 53, 54, 55, 56, 57] := by decide +kernel
  rw [e]
  refine (SX.in_one _ c).trans ?_
  unfold digC
  refine decide_eq_decide.mpr ?_
  simp only [List.mem_cons, List.not_mem_nil, or_false]
  omega
def letC (c : Nat) : Bool := decide (97 ≤ c) && decide (c ≤ 122)
theorem lett_in2 (c : Nat) : (!(Builtin.Str.occurrences LETT ⟨#[c]⟩ 0 LETT.length 1).isEmpty) = letC c := by
  have e : LETT = SX.S [97, 98, 99, 100, 101, 102, 103, 104, 105, 106, 107, 108, 109, 110, 111, 112, 113, 114, 115, 116, 117, 118, 119, 120, 121, 122] := by decide +kernel
  rw [e]
  refine (SX.in_one _ c).trans ?_
  unfold letC
  rw [Bool.eq_iff_iff]
  simp only [List.mem_cons, List.not_mem_nil, or_false, decide_eq_true_eq, Bool.and_eq_true]
  omega
theorem one_sign {c : Nat} : ((⟨#[c]⟩ : Str) = ("0" : Str)) ↔ c = 48 := by
  have e : ("0" : Str) = ⟨#[48]⟩ := by decide +kernel
  rw [e]
  constructor
  · intro h
    injection h with h
    have := congrArg Array.toList h
    injection this
  · intro h; rw [h]
theorem lit_eq {e : Str} {z : Str} (h : e = z) : (.str e : V) = .str z := by rw [h]
/-- answers of a test, one for each item -/
def Bls {α : Type} (H0 : Hp) (D : Addr) (f : α → Bool) (l : List α) (i : Nat) (H : Hp) : Prop := Ext H0 H ∧ H D = some (.lst (((l.take i).map f).map V.bl))
/-- what passes a test -/
def Fls {α : Type} (H0 : Hp) (D : Addr) (p : α → Bool) (g : α → Str) (l : List α) (i : Nat) (H : Hp) : Prop := Ext H0 H ∧ H D = some (.lst ((((l.take i).filter p).map g).map V.str))
section
variable {α : Type} {H0 H : Hp} {D : Addr} {f : α → Bool} {g : α → Str} {l : List α} {i : Nat} {x : α}
theorem Bls.zero (hD : H0 D = none) : Bls H0 D f l 0 (upd H0 D (.lst [])) := ⟨Ext.upd hD, upd_same⟩
theorem put_ext {H1 : Hp} {o : HO} (x : Ext H0 H1) (n : H0 D = none) : Ext H0 (upd H1 D o) := fun b u h => by
  rw [upd_ne (ne_of_none h n)]; exact x b u h
theorem Bls.next (h : Bls H0 D f l i H) (hx : l[i]? = some x) (hD : H0 D = none) : Bls H0 D f l (i + 1) (upd H D (.lst (((l.take i).map f).map V.bl ++ [V.bl (f x)]))) := by
  refine ⟨put_ext h.1 hD, ?_⟩
  rw [upd_same, List.take_succ, hx, List.map_append, List.map_append]
  rfl
theorem Fls.zero (hD : H0 D = none) : Fls H0 D f g l 0 (upd H0 D (.lst [])) := ⟨Ext.upd hD, upd_same⟩
theorem Fls.yes (h : Fls H0 D f g l i H) (hx : l[i]? = some x) (hD : H0 D = none) (hf : f x = true) : Fls H0 D f g l (i + 1) (upd H D (.lst ((((l.take i).filter f).map g).map V.str ++ [V.str (g x)]))) := by
  refine ⟨put_ext h.1 hD, ?_⟩
  rw [upd_same, List.take_succ, hx, List.filter_append]
  simp only [Option.toList_some, List.filter_cons, hf, if_true, List.filter_nil, List.map_append, List.map_cons, List.map_nil]
theorem Fls.no (h : Fls H0 D f g l i H) (hx : l[i]? = some x) (hf : f x = false) : Fls H0 D f g l (i + 1) H := by
  refine ⟨h.1, ?_⟩
  rw [List.take_succ, hx, List.filter_append]
  simp only [Option.toList_some, List.filter_cons, hf, Bool.false_eq_true, if_false, List.filter_nil, List.append_nil]
  exact h.2
theorem Fls.len (l : List α) (i : Nat) : ((((l.take i).filter f).map g).map V.str).length ≤ i := by
  rw [List.length_map, List.length_map]
  exact Nat.le_trans (List.length_filter_le _ _) (List.length_take_le _ _)
theorem filter_none : ((l.filter fun x => !f x) = []) ↔ l.all f = true := by
  rw [List.filter_eq_nil_iff, List.all_eq_true]
  constructor
  · intro h x hx
    have := h x hx
    simpa using this
  · intro h x hx
    rw [h x hx]; simp
end
theorem lim_line : LIM + 2 ≤ sizeLine := by decide
theorem sg_mem {z : Str} (h : Sg z) {c : Nat} (hc : c ∈ tl z) : PyData.canLay0 (.str ⟨#[c]⟩) = true := by
  have := h c hc
  show (#[c].all fun c => decide (c < 1114112)) = true
  simp [this]
/-- a list of texts beside the empty one -/
theorem ne_nil_strs {xs : List Str} : PyData.eqv (.list (xs.map .str)) (.list []) = decide (xs = []) := by
  cases xs with
  | nil => rfl
  | cons x xs => rfl
theorem sh_strs {xs : List Str} (h : ∀ x ∈ xs, PyData.canLay0 (.str x) = true) : SeqAt.shaped (.list (xs.map .str)) = true := by
  refine shaped_list (n := 0) (fun d hd => ?_) (by decide)
  obtain ⟨z, hz, rfl⟩ := List.mem_map.mp hd
  exact ⟨h z hz, Nat.le_refl _⟩
theorem spl_sub (s : Nat) : ∀ (l acc : List Nat), ∀ p ∈ TL.spl [s] 0 acc l, ∀ c ∈ p, c ∈ acc ∨ c ∈ l
  | [], acc, p, hp, c, hc => by
    rw [TL.spl_nil] at hp
    rw [List.mem_singleton.mp hp] at hc
    exact .inl hc
  | x :: r, acc, p, hp, c, hc => by
    rw [spl_cons] at hp
    split at hp
    · rcases List.mem_cons.mp hp with rfl | hp
      · exact .inl hc
      · rcases spl_sub s r [] p hp c hc with h | h
        · cases h
        · exact .inr (List.mem_cons_of_mem _ h)
    · rcases spl_sub s r _ p hp c hc with h | h
      · rcases List.mem_append.mp h with h | h
        · exact .inl h
        · rw [List.mem_singleton.mp h]; exact .inr List.mem_cons_self
      · exact .inr (List.mem_cons_of_mem _ h)
theorem split_sg {t y : Str} {s : Nat} (ey : tl y = [s]) (hk : y.cps.all (· < 256) = true) (h : Sg t) : ∀ z ∈ Txt.split t y, Sg z := fun z hz c hc => by
  have m : tl z ∈ (Txt.split t y).map tl := List.mem_map_of_mem hz
  rw [split_tl t ey hk] at m
  rcases spl_sub s (tl t) [] _ m c hc with q | q
  · cases q
  · exact h c q
theorem wds_sg {t : Str} (h : Sg t) : ∀ z ∈ wds t, Sg z := split_sg tl_blank (by decide +kernel) h
theorem cms_sg {t : Str} (h : Sg t) : ∀ z ∈ cms t, Sg z := split_sg tl_comma (by decide +kernel) h
theorem cls_sg {t : Str} (h : Sg t) : ∀ z ∈ cls2 t, Sg z := split_sg tl_colon (by decide +kernel) h
theorem wds_le {t z : Str} (h : z ∈ wds t) : z.length ≤ t.length := by have := wt_mem h; rw [wds_wt] at this; omega
theorem cms_le {t z : Str} (h : z ∈ cms t) : z.length ≤ t.length := by have := wt_mem h; rw [cms_wt] at this; omega
theorem cls_le {t z : Str} (h : z ∈ cls2 t) : z.length ≤ t.length := by have := wt_mem h; rw [cls_wt] at this; omega
theorem wds_num (t : Str) : (wds t).length ≤ t.length + 1 := by have := wt_len (wds t); rw [wds_wt] at this; exact this
theorem cms_num (t : Str) : (cms t).length ≤ t.length + 1 := by have := wt_len (cms t); rw [cms_wt] at this; exact this
theorem cls_num (t : Str) : (cls2 t).length ≤ t.length + 1 := by have := wt_len (cls2 t); rw [cls_wt] at this; exact this
theorem numOk_parts {z : Str} (h1 : 1 ≤ z.length) (h2 : z.length ≤ 60) : numOkB z = ((tl z).all digC && !lead0 z) := by
  unfold numOkB
  rw [decide_eq_true h1, decide_eq_true h2, Bool.true_and, Bool.true_and]
theorem numO_short {z : Str} (h : ¬ (1 ≤ z.length ∧ z.length ≤ 60)) : numO z = none := by
  refine numO_no ?_
  unfold numOkB
  rw [Bool.and_eq_false_iff]; left
  rw [Bool.and_eq_false_iff]; left
  rw [← Bool.not_eq_true]
  simp only [Bool.and_eq_true, decide_eq_true_eq]
  exact h
section
variable {P : Program} {w : World} {K : PySem.W.Frag} {mg : Str → Option Value} {base : Heap} {cL cX : Addr}
/-- behind the tests: the first sign, the number -/
theorem num_end {z : Str} {Q : VK} {H : Hp} (h1 : 1 ≤ z.length) (h2 : z.length ≤ 60) (hd : (tl z).all digC = true) (q : Q (vO (numO z)) H) :
    (∃ z2 k c, V.str z = V.str z2 ∧ V.int 0 = V.int k ∧ z2.length ≤ sizeLine ∧ atI z2.cps.toList k = some c ∧ (if decide ((⟨#[c]⟩ : Str) = ("0" : Str)) = true then (if (!decide (z = ("0" : Str))) = true then Q .non H else ∃ a n, [V.str z] = [V.str a] ∧ PySem.intText? a = some n ∧ a.length ≤ 640 ∧ Q (.int n) H)
      else ∃ a n, [V.str z] = [V.str a] ∧ PySem.intText? a = some n ∧ a.length ≤ 640 ∧ Q (.int n) H)) := by
  obtain ⟨c, r, hcr⟩ : ∃ c r, tl z = c :: r := by
    cases e : tl z with
    | nil => rw [len_tl', e] at h1; exact absurd h1 (by decide)
    | cons c r => exact ⟨c, r, rfl⟩
  have np := numOk_parts h1 h2
  rw [hd, Bool.true_and] at np
  have hz : z.length ≤ sizeLine := Nat.le_trans h2 (by decide)
  have isn : lead0 z = false → ∃ a n, [V.str z] = [V.str a] ∧ PySem.intText? a = some n ∧ a.length ≤ 640 ∧ Q (.int n) H := fun l0 => by
    rw [l0] at np
    obtain ⟨i, hi⟩ := numO_ok np
    rw [hi] at q
    exact ⟨z, i, rfl, (numO_some hi).2.2.2.2, by omega, q⟩
  refine ⟨z, 0, c, rfl, rfl, hz, atI_nat (j := 0) (by show (tl z)[0]? = some c; rw [hcr]; rfl), ?_⟩
  by_cases e : c = 48
  · subst e
    rw [decide_eq_true (one_sign.mpr rfl), if_pos rfl]
    by_cases ez : z = ("0" : Str)
    · rw [decide_eq_true ez, Bool.not_true, if_neg Bool.false_ne_true]
      refine isn ?_
      unfold lead0
      rw [decide_eq_true ez, Bool.not_true, Bool.and_false]
    · rw [decide_eq_false ez, Bool.not_false, if_pos rfl]
      have l1 : lead0 z = true := by
        unfold lead0
        rw [decide_eq_false ez, hcr]; rfl
      rw [l1] at np
      rw [numO_no np] at q
      exact q
  · rw [decide_eq_false (fun h => e (one_sign.mp h)), if_neg Bool.false_ne_true]
    refine isn ?_
    unfold lead0
    have : ¬ ((tl z).head? = some 48) := by rw [hcr]; exact fun h => e (Option.some.inj h)
    rw [decide_eq_false this, Bool.false_and]
theorem ok_number_in (T : Tz K mg cL cX) (D : Dx K mg "number_in" s_number_in ["word"]) : Cal P w K mg base 1 "number_in" spNumIn [] := by
  refine cal_of D sc_number_in (fun vs H Q E h => ?_) (fun f cdv A o s H vs Q E hr h => ?_)
  · obtain ⟨z, rfl, _⟩ := h; rfl
  · obtain ⟨z, rfl, hz, k⟩ := h
    have hl : z.length ≤ sizeLine := Nat.le_trans hz (by decide)
    refine ⟨_, (pss_cons (ps_if (PW.pt (pw_or (pt_not (pt_chain m_le m_le pe_int (pe_callB call_len (by rfl) T.n_len (by decide +kernel) (pa_cons (mv 0) pa_nil)) (pe_gc rfl T.g_MOST_DIGITS))) (pw_or1 (pt_not (qv (pe_callB (cr_all rfl) (by rfl) T.n_all (by decide +kernel) (pa_cons (pe_lc (own := [("sign", 1)]) (g := gName 1) (tt := tYes) rfl sc_number_in.nd (pi_str (mv 0)) (blkOk_by (own := [("sign", 1)]) (N := ["word", "sign"]) (sc := fnScope s_number_in) (by decide +kernel)) (fun _ _ _ _ _ => (pg_name (i := 1) sc_number_in.nd rfl (Or.inl rfl))) (fun _ _ _ _ _ => pts_nil) (fun _ _ _ _ _ => (pe_cmpR op_in_str (mv 1) (pe_gc rfl T.g_DIGITS) (by rfl)))) pa_nil))))))) (pss_one (ps_ret pe_non)) pss_nil)
    (pss_one (ps_ret (pe_ifExp (PW.pt (pw_and (qt m_eq (pe_ix ix_str (mv 0) pe_int (fun _ _ => rfl)) pe_str (nomark _)) (pw_and1 (qt m_ne (mv 0) pe_str (nomark _))))) pe_non (pe_callTy call_int_str (by rfl) T.n_int (by decide +kernel) (pa_cons (mv 0) pa_nil)))))), ?_⟩
    refine ⟨_, _, rfl, ⟨hl, rfl⟩, _, rfl, ?_⟩
    have bad : numO z = none → Q .non H := fun e => by have := k H (fun _ _ h => h); rw [e] at this; exact this
    refine ifD (p := (1 : Int) ≤ (z.length : Int)) (fun e1 => ?_) (fun e1 => ?_)
    rotate_left
    · exact ⟨_, rfl, ifT (by rfl) (bad (numO_short (fun h => e1 (by omega))))⟩
    refine ⟨_, rfl, ?_⟩
    by_cases e2 : (z.length : Int) ≤ 60
    rotate_left
    · rw [decide_eq_false e2]
      exact ifT (by rfl) (bad (numO_short (fun h => e2 (by omega))))
    rw [decide_eq_true e2]
    refine ifF (by rfl) ?_
    refine ⟨_, rfl, fun d hd => lc_txt (Bls H d digC (tl z)) (Bls.zero hd) ?_ ?_⟩
    · intro j c H1 hc t
      have hi : j < z.length := by have := (List.getElem?_eq_some_iff.mp hc).1; simpa [Str.length] using this
      refine ⟨rfl, goY (ifT (by rfl) ⟨_, _, rfl, rfl, _, t.2, ?_, ?_⟩)⟩
      · rw [List.length_map, List.length_map]; exact Nat.lt_of_le_of_lt (List.length_take_le _ _) (Nat.lt_of_lt_of_le hi hl)
      · rw [dig_in c]
        exact t.next hc hd
    · intro H1 t
      refine ⟨_, _, rfl, SqL.of t.2, ?_⟩
      have ta : (tl z).take z.cps.size = tl z := List.take_of_length_le (by show (tl z).length ≤ _; rw [← len_tl']; exact Nat.le_refl _)
      rw [ta, List.all_map]
      have e3 : (tl z).all (id ∘ digC) = (tl z).all digC := rfl
      rw [e3]
      cases hd : (tl z).all digC with
      | false =>
        refine ifT (by rfl) ?_
        have e4 : numO z = none := numO_no (by rw [numOk_parts (by omega) (by omega), hd]; rfl)
        have := k H1 t.1
        rw [e4] at this
        exact this
      | true =>
        refine ifF (by rfl) ?_
        exact num_end (by omega) (by omega) hd (k H1 t.1)
theorem ok_is_nameT (T : Tz K mg cL cX) (D : Dy K mg "is_name_texts" "is_name" s_is_name_texts ["word"]) : Cal P w K mg base 1 "is_name_texts" spNameT [] := by
  refine cal_ofA D sc_is_name_texts (fun vs H Q E h => ?_) (fun f cdv A o s H vs Q E hr h => ?_)
  · obtain ⟨z, rfl, _⟩ := h; rfl
  · obtain ⟨z, rfl, hz, k⟩ := h
    have hl : z.length ≤ sizeLine := Nat.le_trans hz (by decide)
    have nb : nameB z = (decide (1 ≤ z.length) && decide (z.length ≤ 8) && (tl z).all letC) := rfl
    refine ⟨_, (pss_one (ps_ret (pe_and (pe_chain m_le m_le pe_int (pe_callB call_len (by rfl) T.n_len (by decide +kernel) (pa_cons (mv 0) pa_nil)) (pe_gc rfl T.g_MOST_LETTERS_texts)) (pe_one (pe_callB (cr_all rfl) (by rfl) T.n_all (by decide +kernel) (pa_cons (pe_lc (own := [("letter", 1)]) (g := gName 1) (tt := tYes) rfl sc_is_name_texts.nd (pi_str (mv 0)) (blkOk_by (own := [("letter", 1)]) (N := ["word", "letter"]) (sc := fnScope s_is_name_texts) (by decide +kernel)) (fun _ _ _ _ _ => (pg_name (i := 1) sc_is_name_texts.nd rfl (Or.inl rfl))) (fun _ _ _ _ _ => pts_nil) (fun _ _ _ _ _ => (pe_cmpR op_in_str (mv 1) (pe_gc rfl T.g_LETTERS_texts) (by rfl)))) pa_nil)))))), ?_⟩
    refine ⟨_, _, rfl, ⟨hl, rfl⟩, _, rfl, ?_⟩
    have k0 := k H (fun _ _ h => h)
    refine ifD (p := (1 : Int) ≤ (z.length : Int)) (fun e1 => ?_) (fun e1 => ?_)
    rotate_left
    · refine ⟨_, rfl, ifF (by rfl) ?_⟩
      rw [nb, decide_eq_false (show ¬ 1 ≤ z.length by omega)] at k0
      exact k0
    refine ⟨_, rfl, ?_⟩
    refine ifD (p := (z.length : Int) ≤ 8) (fun e2 => ?_) (fun e2 => ?_)
    rotate_left
    · rw [nb, decide_eq_false (show ¬ z.length ≤ 8 by omega), Bool.and_false] at k0
      exact k0
    refine ⟨_, rfl, fun d hd => lc_txt (Bls H d letC (tl z)) (Bls.zero hd) ?_ ?_⟩
    · intro j c H1 hc t
      have hi : j < z.length := by have := (List.getElem?_eq_some_iff.mp hc).1; simpa [Str.length] using this
      refine ⟨rfl, goY (ifT (by rfl) ⟨_, _, rfl, rfl, _, t.2, ?_, ?_⟩)⟩
      · rw [List.length_map, List.length_map]; exact Nat.lt_of_le_of_lt (List.length_take_le _ _) (Nat.lt_of_lt_of_le hi hl)
      · rw [lett_in2 c]
        exact t.next hc hd
    · intro H1 t
      refine ⟨_, _, rfl, SqL.of t.2, ?_⟩
      have ta : (tl z).take z.cps.size = tl z := List.take_of_length_le (by show (tl z).length ≤ _; rw [← len_tl']; exact Nat.le_refl _)
      rw [ta, List.all_map]
      have e3 : (tl z).all (id ∘ letC) = (tl z).all letC := rfl
      rw [e3]
      have k1 := k H1 t.1
      rw [nb, decide_eq_true (show 1 ≤ z.length by omega), decide_eq_true (show z.length ≤ 8 by omega)] at k1
      exact k1
end
end NB

set_option Elab.async false
set_option linter.all false
set_option maxRecDepth 100000
set_option maxHeartbeats 4000000
/-! K3b (k82): words read, continued -/
namespace NB
open PySem PySem.Spec L2
open PyProof.Rows (envOfC)
open C8 (pe_c pe_mk pe_mt pe_mt0 pe_gc fnScope fnBody fnArgs fnScope_by Cal Met Mak)
theorem all_names {l : List Str} : l.all nameB = true ↔ ∀ y ∈ l, nameB y = true := List.all_eq_true
theorem sizeO_some {z : Str} {i : Int} (h : numO z = some i) : sizeO z = if 1 ≤ i ∧ i ≤ 10 ^ 30 then some i else none := by
  have e : sizeB z = (decide (1 ≤ i) && decide (i ≤ 10 ^ 30)) := by unfold sizeB; rw [h]
  unfold sizeO
  rw [h]
  by_cases q : 1 ≤ i ∧ i ≤ 10 ^ 30
  · rw [if_pos q, if_pos (by rw [e, decide_eq_true q.1, decide_eq_true q.2]; rfl)]
  · rw [if_neg q, if_neg (by rw [e, Bool.and_eq_true, decide_eq_true_eq, decide_eq_true_eq]; exact q)]
theorem sizeO_none {z : Str} (h : numO z = none) : sizeO z = none := by
  have e : sizeB z = false := by unfold sizeB; rw [h]
  unfold sizeO
  rw [e, if_neg Bool.false_ne_true]
theorem lt_irrefl_int {a : Nat} : ¬ ((a : Int) < (a : Int)) := by omega
section
variable {P : Program} {w : World} {K : PySem.W.Frag} {mg : Str → Option Value} {base : Heap} {cL cX : Addr}
theorem ok_size_in (T : Tz K mg cL cX) (D : Dx K mg "size_in" s_size_in ["word"]) (c_number_in : Cal P w K mg base 1 "number_in" spNumIn []) : Cal P w K mg base 2 "size_in" spSizeIn [] := by
  refine cal_of D sc_size_in (fun vs H Q E h => ?_) (fun f cdv A o s H vs Q E hr h => ?_)
  · obtain ⟨z, rfl, _⟩ := h; rfl
  · obtain ⟨z, rfl, hz, k⟩ := h
    refine ⟨_, (pss_cons (ps_set (i := 1) sc_size_in.nd rfl (Or.inl rfl) (pe_c c_number_in hr (by decide) rfl (pa_cons (mv 0) pa_nil)))
    (pss_one (ps_ret (pe_ifExp (PW.pt (pw_and (qt op_notN (mv 1) pe_non (nomark _)) (pw_and1 (pt_chain m_le m_le pe_int (mv 1) (pe_gc rfl T.g_MOST_SIZE))))) (mv 1) pe_non)))), ?_⟩
    refine ⟨z, rfl, hz, fun H1 x1 => ?_⟩
    have k1 := k H1 x1
    cases hn : numO z with
    | none =>
      rw [sizeO_none hn] at k1
      exact ⟨rfl, ifF (by rfl) k1⟩
    | some i =>
      rw [sizeO_some hn] at k1
      refine ⟨rfl, ifT (by rfl) ?_⟩
      refine ⟨_, rfl, ?_⟩
      refine ifD (p := (1 : Int) ≤ i) (fun e1 => ?_) (fun e1 => ?_)
      rotate_left
      · refine ⟨_, rfl, ifF (by rfl) ?_⟩
        rw [if_neg (fun h => e1 h.1)] at k1
        exact k1
      refine ⟨_, rfl, ?_⟩
      refine ifD (p := i ≤ 10 ^ 30) (fun e2 => ?_) (fun e2 => ?_)
      · rw [if_pos ⟨e1, e2⟩] at k1
        exact k1
      · rw [if_neg (fun h => e2 h.2)] at k1
        exact k1
theorem ok_servers_in (T : Tz K mg cL cX) (D : Dx K mg "servers_in" s_servers_in ["word"]) (c_is_name_texts : Cal P w K mg base 1 "is_name_texts" spNameT []) : Cal P w K mg base 2 "servers_in" spServIn [] := by
  refine cal_of D sc_servers_in (fun vs H Q E h => ?_) (fun f cdv A o s H vs Q E hr h => ?_)
  · obtain ⟨z, rfl, _⟩ := h; rfl
  · obtain ⟨z, rfl, hz, k0, k1⟩ := h
    refine ⟨_, (pss_cons (ps_set (i := 1) sc_servers_in.nd rfl (Or.inl rfl) (pe_split (mv 0) pe_str))
    (pss_cons (ps_if (PW.pt (pw_or (qt m_gt (pe_callB call_len (by rfl) T.n_len (by decide +kernel) (pa_cons (mv 1) pa_nil)) (pe_gc rfl T.g_MOST_SERVERS_texts) (nomark _)) (pw_or (pt_not (qv (pe_callB (cr_all rfl) (by rfl) T.n_all (by decide +kernel) (pa_cons (pe_lc (own := [("name", 2)]) (g := gName 2) (tt := tYes) rfl sc_servers_in.nd (pi_list (mv 1)) (blkOk_by (own := [("name", 2)]) (N := ["word", "names", "name"]) (sc := fnScope s_servers_in) (by decide +kernel)) (fun _ _ _ _ _ => (pg_name (i := 2) sc_servers_in.nd rfl (Or.inl rfl))) (fun _ _ _ _ _ => pts_nil) (fun _ _ _ _ _ => (pe_c c_is_name_texts hr (by decide) rfl (pa_cons (mv 2) pa_nil)))) pa_nil)))) (pw_or1 (qt m_lt (pe_lenSetA rfl (by rfl) T.n_len (by rfl) T.n_set (mv 1)) (pe_callB call_len (by rfl) T.n_len (by decide +kernel) (pa_cons (mv 1) pa_nil)) (nomark _)))))) (pss_one (ps_ret pe_non)) pss_nil)
    (pss_one (ps_ret (mv 1))))), ?_⟩
    refine ⟨⟨_, rfl⟩, _, _, rfl, rfl, by decide +kernel, Nat.le_trans (Nat.add_le_add_right hz 2) lim_line, fun q nq => ?_⟩
    have x1 := Ext.upd (o := .lst ((cms z).map V.str)) nq
    have hq : (upd H q (.lst ((cms z).map V.str))) q = some (.lst ((cms z).map V.str)) := upd_same
    generalize upd H q (.lst ((cms z).map V.str)) = H1 at x1 hq ⊢
    have le := fun (y : Str) (hy : y ∈ cms z) => cms_le hy
    have sno : ¬ ((cms z).length ≤ 12 ∧ (∀ y ∈ cms z, nameB y = true) ∧ (cms z).Nodup) → servO z = none := servO_no
    have syes : ((cms z).length ≤ 12 ∧ (∀ y ∈ cms z, nameB y = true) ∧ (cms z).Nodup) → servO z = some (cms z) := servO_yes
    generalize cms z = ns at hq le sno syes
    refine ⟨_, _, rfl, .inl ⟨_, SqL.of hq, rfl⟩, ?_⟩
    rw [List.length_map]
    refine ifD (p := (12 : Int) < (ns.length : Int)) (fun h => ?_) (fun h12 => ?_)
    · exact k0 (sno fun h2 => by have := h2.1; omega) H1 x1
    have l12 : ns.length ≤ 12 := by omega
    refine ⟨_, rfl, ⟨_, SqL.of hq⟩, fun d hd => lc_list (K := K) (a := q) (xs := ns.map V.str) (Bls H1 d nameB ns) (Bls.zero hd) (fun i H1 _ t => SqL.of (t.1 _ _ hq)) ?_ ?_⟩
    · intro i y H2 hy t
      obtain ⟨x, hx, rfl⟩ := map_at hy
      refine ⟨rfl, goY (ifT (by rfl) ?_)⟩
      refine ⟨x, rfl, Nat.le_trans (le x (List.mem_of_getElem? hx)) hz, fun H3 x3 => ⟨_, x3 _ _ t.2, ?_, ?_⟩⟩
      · rw [List.length_map, List.length_map]; exact Nat.lt_of_le_of_lt (List.length_take_le' _ _) (Nat.lt_of_le_of_lt l12 (by decide))
      · exact Bls.next ⟨t.1.trans x3, x3 _ _ t.2⟩ hx hd
    · intro H2 t
      have t2 := t.2
      rw [List.length_map, List.take_length] at t2
      refine ⟨_, _, rfl, SqL.of t2, ?_⟩
      rw [List.all_map]
      have e3 : ns.all (id ∘ nameB) = ns.all nameB := rfl
      rw [e3]
      cases ha : ns.all nameB with
      | false =>
        refine ifT (by rfl) ?_
        exact k0 (sno fun h2 => by rw [all_names.mpr h2.2.1] at ha; cases ha) H2 (x1.trans t.1)
      | true =>
        refine ifF (by rfl) ?_
        refine ⟨q, ns, rfl, SqL.of (t.1 _ _ hq), Nat.le_trans l12 (by decide), ?_⟩
        refine ⟨_, _, rfl, .inl ⟨_, SqL.of (t.1 _ _ hq), rfl⟩, ?_⟩
        rw [List.length_map]
        refine ifD (p := ((cntS ns ns.length : Nat) : Int) < (ns.length : Int)) (fun h => ?_) (fun h => ?_)
        · exact k0 (sno fun h2 => (cntS_lt.mp (by omega)) h2.2.2) H2 (x1.trans t.1)
        · have nd : ns.Nodup := Classical.byContradiction fun n => by have := cntS_lt.mpr n; omega
          exact k1 ns (syes ⟨l12, all_names.mp ha, nd⟩) H2 q nq (t.1 _ _ hq) (x1.trans t.1)
theorem ok_entry_in (T : Tz K mg cL cX) (D : Dx K mg "entry_in" s_entry_in ["word", "servers"]) (c_number_in : Cal P w K mg base 1 "number_in" spNumIn []) : Cal P w K mg base 2 "entry_in" spEntIn [] := by
  refine cal_of D sc_entry_in (fun vs H Q E h => ?_) (fun f cdv A o s H vs Q E hr h => ?_)
  · obtain ⟨z, a, ns, rfl, _⟩ := h; rfl
  · obtain ⟨z, a, ns, rfl, hz, ha, k0, k1⟩ := h
    refine ⟨_, (pss_cons (ps_set (i := 2) sc_entry_in.nd rfl (Or.inl rfl) (pe_split (mv 0) pe_str))
    (pss_cons (ps_if (PW.pt (pw_or (qt m_ne (pe_callB call_len (by rfl) T.n_len (by decide +kernel) (pa_cons (mv 2) pa_nil)) pe_int (nomark _)) (pw_or1 (qt op_notIn_seq (pe_ix m_ix (mv 2) pe_int (fun _ _ => rfl)) (mv 1) (by rfl))))) (pss_one (ps_ret pe_non)) pss_nil)
    (pss_cons (ps_set (i := 3) sc_entry_in.nd rfl (Or.inl rfl) (pe_c c_number_in hr (by decide) rfl (pa_cons (pe_ix m_ix (mv 2) pe_int (fun _ _ => rfl)) pa_nil)))
    (pss_one (ps_ret (pe_ifExp (qt op_isN (mv 3) pe_non (nomark _)) pe_non (pe_tup (pa_cons (pe_ix m_ix (mv 2) pe_int (fun _ _ => rfl)) (pa_cons (mv 3) pa_nil))))))))), ?_⟩
    refine ⟨⟨_, rfl⟩, _, _, rfl, rfl, by decide +kernel, Nat.le_trans (Nat.add_le_add_right hz 2) lim_line, fun q nq => ?_⟩
    have x1 := Ext.upd (o := .lst ((cls2 z).map V.str)) nq
    have hq : (upd H q (.lst ((cls2 z).map V.str))) q = some (.lst ((cls2 z).map V.str)) := upd_same
    generalize upd H q (.lst ((cls2 z).map V.str)) = H1 at x1 hq ⊢
    refine ⟨_, _, rfl, .inl ⟨_, SqL.of hq, rfl⟩, ?_⟩
    rw [List.length_map]
    by_cases e2 : (cls2 z).length = 2
    rotate_left
    · refine (show if (!decide (((cls2 z).length : Int) = 2)) = true then _ else _ from ?_)
      rw [decide_eq_false (show ¬ ((cls2 z).length : Int) = 2 by omega)]
      exact ifT (by rfl) (k0 (entO_len e2) H1 x1)
    refine (show if (!decide (((cls2 z).length : Int) = 2)) = true then _ else _ from ?_)
    rw [decide_eq_true (show ((cls2 z).length : Int) = 2 by omega)]
    refine ifF (by rfl) ?_
    obtain ⟨x, y, exy⟩ : ∃ x y, cls2 z = [x, y] := by
      cases h : cls2 z with
      | nil => rw [h] at e2; cases e2
      | cons x r =>
        cases r with
        | nil => rw [h] at e2; cases e2
        | cons y r =>
          cases r with
          | nil => exact ⟨x, y, rfl⟩
          | cons u r => rw [h] at e2; simp at e2
    have hy : y.length ≤ LIM := Nat.le_trans (cls_le (t := z) (by rw [exy]; simp)) hz
    have en := entO_two (ns := ns) exy
    rw [exy] at hq
    refine ⟨_, _, .inl (SqL.of hq), atI_nat (j := 0) rfl, _, _, rfl, .inl (SqL.of (x1 _ _ ha)), rfl, flat_strs _, ?_⟩
    rw [inV_str]
    by_cases m : x ∈ ns
    rotate_left
    · rw [decide_eq_false m]
      rw [if_neg m] at en
      exact ifT (by rfl) (k0 en H1 x1)
    rw [decide_eq_true m]
    rw [if_pos m] at en
    refine ifF (by rfl) ?_
    refine ⟨_, _, .inl (SqL.of hq), atI_nat (j := 1) rfl, y, rfl, hy, fun H2 x2 => ?_⟩
    cases hn : numO y with
    | none =>
      rw [hn] at en
      exact ⟨rfl, ifT (by rfl) (k0 en H2 (x1.trans x2))⟩
    | some i =>
      rw [hn] at en
      refine ⟨rfl, ifF (by rfl) ?_⟩
      refine ⟨_, _, .inl (SqL.of (x2 _ _ hq)), atI_nat (j := 0) rfl, (by show 2 ≤ sizeLine; decide), fun tp ntp => ?_⟩
      exact k1 (x, i) en _ _ ⟨tp, rfl, upd_same⟩ ((x1.trans x2).trans (Ext.upd ntp))
end
end NB

set_option Elab.async false
set_option linter.all false
set_option maxRecDepth 100000
set_option maxHeartbeats 4000000
/-! K3c (k82): the law's own reading of words -/
namespace NB
open PySem PySem.Spec L2
open PyProof.Rows (envOfC)
open C8 (pe_c pe_mk pe_mt pe_mt0 pe_gc fnScope fnBody fnArgs fnScope_by Cal Met Mak)
/-- a list of words at q, each of bounded length -/
structure WdsAt (H : Hp) (q : Addr) (ws : List Str) : Prop where
  at_ : H q = some (.lst (ws.map V.str))
  le : ∀ w ∈ ws, w.length ≤ LIM
  sg : ∀ w ∈ ws, Sg w
def spStand : Sp := fun vs H Q _ => ∃ (q : Addr) (ws : List Str) (j : Nat) (w : Str), vs = [.ref q, .int j] ∧ WdsAt H q ws ∧ ws[j]? = some w ∧ ∀ H', Ext H H' → Q (.bl (standB ws j w)) H'
theorem sg_one {z : Str} (h : Sg z) {f : Nat → Bool} : ∀ x ∈ (((tl z).filter f).map fun c => (⟨#[c]⟩ : Str)), PyData.canLay0 (.str x) = true := fun x hx => by
  obtain ⟨c, hc, rfl⟩ := List.mem_map.mp hx
  exact sg_mem h (List.mem_filter.mp hc).1
theorem map_nil_iff {α β : Type} {g : α → β} {l : List α} : (l.map g = []) ↔ l = [] := List.map_eq_nil_iff
theorem sg_lay {z : Str} (h : Sg z) : PyData.canLay0 (.str z) = true := by
  show z.cps.all (· < 0x110000) = true
  rw [← Array.all_toList, List.all_eq_true]
  intro c hc
  exact decide_eq_true (h c hc)
section
variable {P : Program} {w : World} {K : PySem.W.Frag} {mg : Str → Option Value} {base : Heap} {cL cX : Addr}
theorem ok_numL (T : Tz K mg cL cX) (D : Dx K mg "_law_number" s__law_number ["word"]) : Cal P w K mg base 1 "_law_number" spNumL [] := by
  refine cal_of D sc__law_number (fun vs H Q E h => ?_) (fun f cdv A o s H vs Q E hr h => ?_)
  · obtain ⟨z, rfl, _⟩ := h; rfl
  · obtain ⟨z, rfl, hz, hs, k⟩ := h
    have hl : z.length ≤ sizeLine := Nat.le_trans hz (by decide)
    refine ⟨_, (pss_cons (ps_if (PW.pt (pw_or (pt_not (pt_chain m_le m_le pe_int (pe_callB call_len (by rfl) T.n_len (by decide +kernel) (pa_cons (mv 0) pa_nil)) pe_int)) (pw_or1 (qt (op_neD hr.units) (pe_lc (own := [("sign", 1)]) (g := gName 1) (te := mV 1) rfl sc__law_number.nd (pi_str (mv 0)) (blkOk_by (own := [("sign", 1)]) (N := ["word", "sign"]) (sc := fnScope s__law_number) (by decide +kernel)) (fun _ _ _ _ _ => (pg_name (i := 1) sc__law_number.nd rfl (Or.inl rfl))) (fun _ _ _ _ _ => (pts_one (qt op_notIn_str (mv 1) pe_str (by rfl)))) (fun _ _ _ _ _ => (mv 1))) (pe_lst pa_nil) (nomark _))))) (pss_one (ps_ret pe_non)) pss_nil)
    (pss_one (ps_ret (pe_ifExp (PW.pt (pw_and (qt m_eq (pe_ix ix_str (mv 0) pe_int (fun _ _ => rfl)) pe_str (nomark _)) (pw_and1 (qt m_ne (mv 0) pe_str (nomark _))))) pe_non (pe_callTy call_int_str (by rfl) T.n_int (by decide +kernel) (pa_cons (mv 0) pa_nil)))))), ?_⟩
    refine ⟨_, _, rfl, ⟨hl, rfl⟩, _, rfl, ?_⟩
    have bad : numO z = none → Q .non H := fun e => by have := k H (fun _ _ h => h); rw [e] at this; exact this
    refine ifD (p := (1 : Int) ≤ (z.length : Int)) (fun e1 => ?_) (fun e1 => ?_)
    rotate_left
    · exact ⟨_, rfl, ifT (by rfl) (bad (numO_short (fun h => e1 (by omega))))⟩
    refine ⟨_, rfl, ?_⟩
    by_cases e2 : (z.length : Int) ≤ 60
    rotate_left
    · rw [decide_eq_false e2]
      exact ifT (by rfl) (bad (numO_short (fun h => e2 (by omega))))
    rw [decide_eq_true e2]
    refine ifF (by rfl) ?_
    refine ⟨_, rfl, fun d hd => lc_txt (Fls H d (fun c => !digC c) (fun c => ⟨#[c]⟩) (tl z)) (Fls.zero hd) ?_ ?_⟩
    · intro j c H1 hc t
      have hi : j < z.length := by have := (List.getElem?_eq_some_iff.mp hc).1; simpa [Str.length] using this
      refine ⟨rfl, _, _, rfl, rfl, ?_⟩
      rw [dig_in c]
      cases hd2 : digC c with
      | true => exact ifF (by rfl) (t.no hc (by rw [hd2]; rfl))
      | false =>
        refine ifT (by rfl) ⟨_, t.2, ?_, t.yes hc hd (by rw [hd2]; rfl)⟩
        exact Nat.lt_of_le_of_lt (Fls.len _ _) (Nat.lt_of_lt_of_le hi hl)
    · intro H1 t
      have t2 := t.2
      have ta : (tl z).take z.cps.size = tl z := List.take_of_length_le (by show (tl z).length ≤ _; rw [← len_tl']; exact Nat.le_refl _)
      rw [ta] at t2
      refine ⟨Nat.zero_le _, fun n2 hn2 => ?_⟩
      have x2 := Ext.upd (o := .lst []) hn2
      refine ⟨_, _, .lst (SqL.of (x2 _ _ t2)) (dp_strs _), .lst (SqL.of upd_same) .nil, sh_strs (sg_one hs), sh_strs (xs := []) (fun _ h => nomatch h), ?_⟩
      rw [ne_nil_strs]
      have ex := t.1.trans x2
      cases hd2 : (tl z).all digC with
      | false =>
        have ne : ¬ (((tl z).filter fun c => !digC c).map (fun c => (⟨#[c]⟩ : Str)) = []) := fun h => by
          rw [filter_none.mp (map_nil_iff.mp h)] at hd2
          cases hd2
        rw [decide_eq_false ne]
        refine ifT (by rfl) ?_
        have e4 : numO z = none := numO_no (by rw [numOk_parts (by omega) (by omega), hd2]; rfl)
        have := k _ ex
        rw [e4] at this
        exact this
      | true =>
        have eq : ((tl z).filter fun c => !digC c).map (fun c => (⟨#[c]⟩ : Str)) = [] := map_nil_iff.mpr (filter_none.mpr hd2)
        rw [decide_eq_true eq]
        refine ifF (by rfl) ?_
        exact num_end (by omega) (by omega) hd2 (k _ ex)
theorem ok_nameL (T : Tz K mg cL cX) (D : Dx K mg "_law_is_name" s__law_is_name ["word"]) : Cal P w K mg base 1 "_law_is_name" spNameL [] := by
  refine cal_of D sc__law_is_name (fun vs H Q E h => ?_) (fun f cdv A o s H vs Q E hr h => ?_)
  · obtain ⟨z, rfl, _⟩ := h; rfl
  · obtain ⟨z, rfl, hz, hs, k⟩ := h
    have hl : z.length ≤ sizeLine := Nat.le_trans hz (by decide)
    have nb : nameB z = (decide (1 ≤ z.length) && decide (z.length ≤ 8) && (tl z).all letC) := rfl
    refine ⟨_, (pss_cons (ps_setLc (i := 1) (own := [("sign", 2)]) (g := gName 2) (te := mV 2) rfl sc__law_is_name.nd rfl rfl (sw_true rfl rfl rfl (by decide +kernel)) (pi_str (mv 0)) (blkOk_by (own := [("sign", 2)]) (N := ["word", "odd", "sign"]) (sc := fnScope s__law_is_name) (by decide +kernel)) (fun _ _ _ _ _ => (pg_name (i := 2) sc__law_is_name.nd rfl (Or.inl rfl))) (fun _ _ _ _ _ => (pts_one (qt op_notIn_str (mv 2) pe_str (by rfl)))) (fun _ _ _ _ _ => (mv 2)))
    (pss_one (ps_ret (pe_and (pe_chain m_le m_le pe_int (pe_callB call_len (by rfl) T.n_len (by decide +kernel) (pa_cons (mv 0) pa_nil)) pe_int) (pe_one (pe_cmpR (op_eqD hr.units) (mv 1) (pe_lst pa_nil) (nomark _))))))), ?_⟩
    refine ⟨_, rfl, fun d hd => lc_txt (Fls H d (fun c => !letC c) (fun c => ⟨#[c]⟩) (tl z)) (Fls.zero hd) ?_ ?_⟩
    · intro j c H1 hc t
      have hi : j < z.length := by have := (List.getElem?_eq_some_iff.mp hc).1; simpa [Str.length] using this
      refine ⟨rfl, _, _, rfl, rfl, ?_⟩
      rw [show (!(Builtin.Str.occurrences "abcdefghijklmnopqrstuvwxyz" ⟨#[c]⟩ 0 ("abcdefghijklmnopqrstuvwxyz" : Str).length 1).isEmpty) = letC c from lett_in2 c]
      cases hd2 : letC c with
      | true => exact ifF (by rfl) (t.no hc (by rw [hd2]; rfl))
      | false =>
        refine ifT (by rfl) ⟨_, t.2, ?_, t.yes hc hd (by rw [hd2]; rfl)⟩
        exact Nat.lt_of_le_of_lt (Fls.len _ _) (Nat.lt_of_lt_of_le hi hl)
    · intro H1 t
      have t2 := t.2
      have ta : (tl z).take z.cps.size = tl z := List.take_of_length_le (by show (tl z).length ≤ _; rw [← len_tl']; exact Nat.le_refl _)
      rw [ta] at t2
      have k1 := k H1 t.1
      rw [nb] at k1
      refine ⟨_, _, rfl, ⟨hl, rfl⟩, _, rfl, ?_⟩
      refine ifD (p := (1 : Int) ≤ (z.length : Int)) (fun e1 => ?_) (fun e1 => ?_)
      rotate_left
      · refine ⟨_, rfl, ifF (by rfl) ?_⟩
        rw [decide_eq_false (show ¬ 1 ≤ z.length by omega)] at k1
        exact k1
      refine ⟨_, rfl, ?_⟩
      rw [decide_eq_true (show 1 ≤ z.length by omega)] at k1
      refine ifD (p := (z.length : Int) ≤ 8) (fun e2 => ?_) (fun e2 => ?_)
      rotate_left
      · rw [decide_eq_false (show ¬ z.length ≤ 8 by omega)] at k1
        exact k1
      refine ⟨Nat.zero_le _, fun n2 hn2 => ?_⟩
      have x2 := Ext.upd (o := .lst []) hn2
      refine ⟨_, _, .lst (SqL.of (x2 _ _ t2)) (dp_strs _), .lst (SqL.of upd_same) .nil, sh_strs (sg_one hs), sh_strs (xs := []) (fun _ h => nomatch h), ?_⟩
      rw [ne_nil_strs]
      have k2 := k _ (t.1.trans x2)
      rw [nb, decide_eq_true (show 1 ≤ z.length by omega), decide_eq_true (show z.length ≤ 8 by omega)] at k2
      have e5 : decide (((tl z).filter fun c => !letC c).map (fun c => (⟨#[c]⟩ : Str)) = []) = (tl z).all letC := by
        rw [Bool.eq_iff_iff, decide_eq_true_eq, map_nil_iff, filter_none]
      rw [e5]
      exact k2
end
end NB

set_option Elab.async false
set_option linter.all false
set_option maxRecDepth 100000
set_option maxHeartbeats 4000000
/-! K3s (k82): whether a word can stand -/
namespace NB
open PySem PySem.Spec L2
open PyProof.Rows (envOfC)
open C8 (pe_c pe_mk pe_mt pe_mt0 pe_gc fnScope fnBody fnArgs fnScope_by Cal Met Mak)
theorem stand0 {ws : List Str} {w : Str} : standB ws 0 w = kindB w := rfl
theorem stand1 {ws : List Str} {w : Str} : standB ws 1 w = sizeB w := rfl
theorem stand2 {ws : List Str} {w : Str} : standB ws 2 w = (servO w).isSome := rfl
theorem stand3 {ws : List Str} {w v : Str} {j : Nat} (h : 3 ≤ j) (hv : ws[2]? = some v) : standB ws j w = (decide (j < 203) && (entO (cms v) w).isSome) := by
  unfold standB
  rw [if_neg (by omega), if_neg (by omega), if_neg (by omega), List.getD_eq_getElem?_getD, hv]
  rfl
theorem kind_in (w : Str) : inV (.str w) [V.str "steady", V.str "losing"] = kindB w := by
  have h := inV_str w ["steady", "losing"]
  refine (show inV (.str w) [V.str "steady", V.str "losing"] = _ from h).trans ?_
  unfold kindB
  rw [Bool.eq_iff_iff]
  simp only [decide_eq_true_eq, Bool.or_eq_true, List.mem_cons, List.not_mem_nil, or_false]
theorem servO_isSome {z : Str} : (servO z).isSome = true ↔ ((cms z).length ≤ 12 ∧ (∀ y ∈ cms z, nameB y = true) ∧ (cms z).Nodup) := by
  constructor
  · intro h
    exact Classical.byContradiction fun n => by rw [servO_no n] at h; cases h
  · intro h
    rw [servO_yes h]; rfl
section
variable {P : Program} {w : World} {K : PySem.W.Frag} {mg : Str → Option Value} {base : Heap} {cL cX : Addr}
theorem ok_stand (T : Tz K mg cL cX) (D : Dx K mg "_law_can_stand" s__law_can_stand ["words", "spot"]) (c__law_number : Cal P w K mg base 1 "_law_number" spNumL []) (c__law_is_name : Cal P w K mg base 1 "_law_is_name" spNameL []) :
    Cal P w K mg base 2 "_law_can_stand" spStand [] := by
  refine cal_of D sc__law_can_stand (fun vs H Q E h => ?_) (fun f cdv A o s H vs Q E hr h => ?_)
  · obtain ⟨q, ws, j, v, rfl, _⟩ := h; rfl
  · obtain ⟨q, ws, j, v, rfl, hq, hv, k⟩ := h
    have hvm := List.mem_of_getElem? hv
    have hj : j < ws.length := (List.getElem?_eq_some_iff.mp hv).1
    refine ⟨_, (pss_cons (ps_set (i := 2) sc__law_can_stand.nd rfl (Or.inl rfl) (pe_ix m_ix (mv 0) (mv 1) (fun _ _ => rfl)))
    (pss_cons (ps_if (qt m_eq (mv 1) pe_int (nomark _)) (pss_one (ps_ret (pe_cmpR op_in_seq (mv 2) (pe_lst (pa_cons pe_str (pa_cons pe_str pa_nil))) (by rfl)))) pss_nil)
    (pss_cons (ps_if (qt m_eq (mv 1) pe_int (nomark _)) (pss_cons (ps_set (i := 3) sc__law_can_stand.nd rfl (Or.inl rfl) (pe_c c__law_number hr (by decide) rfl (pa_cons (mv 2) pa_nil)))
    (pss_one (ps_ret (pe_and (pe_cmpR op_notN (mv 3) pe_non (nomark _)) (pe_one (pe_chain m_le m_le pe_int (mv 3) (pe_op m_pow pe_int pe_int))))))) pss_nil)
    (pss_cons (ps_set (i := 4) sc__law_can_stand.nd rfl (Or.inl rfl) (pe_split (pe_ix m_ix (mv 0) pe_int (fun _ _ => rfl)) pe_str))
    (pss_cons (ps_if (qt m_eq (mv 1) pe_int (nomark _)) (pss_cons (ps_if (PW.pt (pw_or (qt m_gt (pe_callB call_len (by rfl) T.n_len (by decide +kernel) (pa_cons (mv 4) pa_nil)) pe_int (nomark _)) (pw_or1 (qt m_lt (pe_lenSetA rfl (by rfl) T.n_len (by rfl) T.n_set (mv 4)) (pe_callB call_len (by rfl) T.n_len (by decide +kernel) (pa_cons (mv 4) pa_nil)) (nomark _))))) (pss_one (ps_ret pe_bl)) pss_nil)
    (pss_one (ps_ret (pe_cmpR (op_eqD hr.units) (pe_lc (own := [("one", 5)]) (g := gName 5) (te := mV 5) rfl sc__law_can_stand.nd (pi_list (mv 4)) (blkOk_by (own := [("one", 5)]) (N := ["words", "spot", "word", "value", "names", "one", "parts"]) (sc := fnScope s__law_can_stand) (by decide +kernel)) (fun _ _ _ _ _ => (pg_name (i := 5) sc__law_can_stand.nd rfl (Or.inl rfl))) (fun _ _ _ _ _ => (pts_one (pt_not (qv (pe_c c__law_is_name hr (by decide) rfl (pa_cons (mv 5) pa_nil)))))) (fun _ _ _ _ _ => (mv 5))) (pe_lst pa_nil) (nomark _))))) pss_nil)
    (pss_cons (ps_set (i := 6) sc__law_can_stand.nd rfl (Or.inl rfl) (pe_split (mv 2) pe_str))
    (pss_one (ps_ret (pe_and (pe_cmpR m_lt (mv 1) pe_int (nomark _)) (pe_and (pe_cmpR m_eq (pe_callB call_len (by rfl) T.n_len (by decide +kernel) (pa_cons (mv 6) pa_nil)) pe_int (nomark _)) (pe_and (pe_cmpR op_in_seq (pe_ix m_ix (mv 6) pe_int (fun _ _ => rfl)) (mv 4) (by rfl)) (pe_one (pe_cmpR op_notN (pe_c c__law_number hr (by decide) rfl (pa_cons (pe_ix m_ix (mv 6) pe_int (fun _ _ => rfl)) pa_nil)) pe_non (nomark _)))))))))))))), ?_⟩
    refine ⟨_, _, .inl (SqL.of hq.at_), atI_nat (j := j) (by rw [List.getElem?_map, hv]; rfl), ?_⟩
    -- the first word
    refine ifD (p := ((j : Nat) : Int) = 0) (fun e => ?_) (fun e0 => ?_)
    · obtain rfl : j = 0 := by omega
      refine ⟨(by show 2 ≤ sizeLine; decide), fun t nt => ?_⟩
      have x1 := Ext.upd (o := .lst [.str "steady", .str "losing"]) nt
      refine ⟨_, _, rfl, .inl (SqL.of upd_same), rfl, rfl, ?_⟩
      rw [kind_in]
      exact k _ x1
    -- the size
    refine ifD (p := ((j : Nat) : Int) = 1) (fun e => ?_) (fun e1 => ?_)
    · obtain rfl : j = 1 := by omega
      refine ⟨v, rfl, hq.le v hvm, hq.sg v hvm, fun H1 x1 => ?_⟩
      have k1 := k H1 x1
      rw [stand1] at k1
      cases hn : numO v with
      | none =>
        have e : sizeB v = false := by unfold sizeB; rw [hn]
        rw [e] at k1
        refine ⟨rfl, ?_⟩
        exact ⟨_, rfl, ifF (by rfl) k1⟩
      | some i =>
        have e : sizeB v = (decide (1 ≤ i) && decide (i ≤ 10 ^ 30)) := by unfold sizeB; rw [hn]
        rw [e] at k1
        refine ⟨rfl, ⟨_, rfl, ifT (by rfl) ?_⟩⟩
        refine ⟨_, rfl, ?_⟩
        refine ifD (p := (1 : Int) ≤ i) (fun a1 => ?_) (fun a1 => ?_)
        rotate_left
        · rw [decide_eq_false a1] at k1
          exact k1
        rw [decide_eq_true a1] at k1
        exact ⟨⟨by decide, by decide, by decide⟩, k1⟩
    -- the servers
    have h2 : 2 < ws.length := by omega
    have g2 := List.getElem?_eq_getElem h2
    have m2 := List.mem_of_getElem? g2
    generalize hu : ws[2] = u at g2 m2
    refine ⟨_, .str u, .inl (SqL.of hq.at_), atI_nat (j := 2) (by rw [List.getElem?_map, g2]; rfl), ?_⟩
    refine ⟨⟨_, rfl⟩, _, _, rfl, rfl, by decide +kernel, Nat.le_trans (Nat.add_le_add_right (hq.le u m2) 2) lim_line, fun p np => ?_⟩
    have x1 := Ext.upd (o := .lst ((cms u).map V.str)) np
    have hp : (upd H p (.lst ((cms u).map V.str))) p = some (.lst ((cms u).map V.str)) := upd_same
    have le := fun (y : Str) (hy : y ∈ cms u) => Nat.le_trans (cms_le hy) (hq.le u m2)
    have sg := fun (y : Str) (hy : y ∈ cms u) => cms_sg (hq.sg u m2) y hy
    generalize upd H p (.lst ((cms u).map V.str)) = H1 at x1 hp ⊢
    refine ifD (p := ((j : Nat) : Int) = 2) (fun e => ?_) (fun e2 => ?_)
    · obtain rfl : j = 2 := by omega
      obtain rfl : v = u := by rw [g2] at hv; exact (Option.some.inj hv).symm
      rw [stand2] at k
      have kF : ¬ ((cms v).length ≤ 12 ∧ (∀ y ∈ cms v, nameB y = true) ∧ (cms v).Nodup) → ∀ H', Ext H H' → Q (.bl false) H' := fun n H' x => by
        have := k H' x
        rw [servO_no n] at this
        exact this
      have kT : ((cms v).length ≤ 12 ∧ (∀ y ∈ cms v, nameB y = true) ∧ (cms v).Nodup) → ∀ H', Ext H H' → Q (.bl true) H' := fun n H' x => by
        have := k H' x
        rw [servO_yes n] at this
        exact this
      clear k
      generalize cms v = ns at hp le sg kF kT
      refine ⟨_, _, rfl, .inl ⟨_, SqL.of hp, rfl⟩, ?_⟩
      rw [List.length_map]
      refine ifD (p := (12 : Int) < (ns.length : Int)) (fun h => ?_) (fun h12 => ?_)
      · exact kF (fun h2 => by have := h2.1; omega) H1 x1
      have l12 : ns.length ≤ 12 := by omega
      refine ⟨p, ns, rfl, SqL.of hp, Nat.le_trans l12 (by decide), ?_⟩
      refine ⟨_, _, rfl, .inl ⟨_, SqL.of hp, rfl⟩, ?_⟩
      rw [List.length_map]
      refine ifD (p := ((cntS ns ns.length : Nat) : Int) < (ns.length : Int)) (fun h => ?_) (fun h => ?_)
      · exact kF (fun h2 => (cntS_lt.mp (by omega)) h2.2.2) H1 x1
      have nd : ns.Nodup := Classical.byContradiction fun n => by have := cntS_lt.mpr n; omega
      refine ⟨p, rfl, ⟨_, SqL.of hp⟩, fun d hd => lc_list (K := K) (a := p) (xs := ns.map V.str) (te := mV 5) (Fls H1 d (fun y => !nameB y) id ns) (Fls.zero hd) (fun i H1 _ t => SqL.of (t.1 _ _ hp)) ?_ ?_⟩
      · intro i y H2 hy t
        obtain ⟨x, hx, rfl⟩ := map_at hy
        have mx := List.mem_of_getElem? hx
        refine ⟨rfl, x, rfl, le x mx, sg x mx, fun H3 x3 => ?_⟩
        have t3 : Fls H1 d (fun y => !nameB y) id ns i H3 := ⟨t.1.trans x3, x3 _ _ t.2⟩
        cases hb : nameB x with
        | true => exact ifF (by rfl) (t3.no hx (by rw [hb]; rfl))
        | false =>
          refine ifT (by rfl) ⟨_, t3.2, ?_, t3.yes hx hd (by rw [hb]; rfl)⟩
          exact Nat.lt_of_le_of_lt (Fls.len _ _) (Nat.lt_of_lt_of_le (List.getElem?_eq_some_iff.mp hx).1 (Nat.le_trans l12 (by decide)))
      · intro H2 t
        have t2 := t.2
        rw [List.length_map, List.take_length, List.map_id] at t2
        refine ⟨Nat.zero_le _, fun n2 hn2 => ?_⟩
        have x2 := Ext.upd (o := .lst []) hn2
        refine ⟨_, _, .lst (SqL.of (x2 _ _ t2)) (dp_strs _), .lst (SqL.of upd_same) .nil, sh_strs (fun y hy => sg_lay (sg y (List.mem_filter.mp hy).1)), sh_strs (xs := []) (fun _ h => nomatch h), ?_⟩
        rw [ne_nil_strs]
        have ex := (x1.trans t.1).trans x2
        cases hb : ns.all nameB with
        | true =>
          rw [decide_eq_true (filter_none.mpr hb)]
          exact kT ⟨l12, all_names.mp hb, nd⟩ _ ex
        | false =>
          rw [decide_eq_false (fun h => by rw [filter_none.mp h] at hb; cases hb)]
          exact kF (fun h2 => by rw [all_names.mpr h2.2.1] at hb; cases hb) _ ex
    -- an entry
    have h3 : 3 ≤ j := by omega
    rw [stand3 h3 g2] at k
    refine ⟨⟨_, rfl⟩, _, _, rfl, rfl, by decide +kernel, Nat.le_trans (Nat.add_le_add_right (hq.le v hvm) 2) lim_line, fun p2 np2 => ?_⟩
    have x2 := Ext.upd (o := .lst ((cls2 v).map V.str)) np2
    have hp2 : (upd H1 p2 (.lst ((cls2 v).map V.str))) p2 = some (.lst ((cls2 v).map V.str)) := upd_same
    have hp1 := x2 _ _ hp
    have x12 := x1.trans x2
    generalize upd H1 p2 (.lst ((cls2 v).map V.str)) = H2 at x12 hp2 hp1 ⊢
    refine ⟨_, rfl, ?_⟩
    refine ifD (p := ((j : Nat) : Int) < 203) (fun e3 => ?_) (fun e3 => ?_)
    rotate_left
    · rw [decide_eq_false (show ¬ j < 203 by omega)] at k
      exact k _ x12
    rw [decide_eq_true (show j < 203 by omega), Bool.true_and] at k
    refine ⟨_, _, rfl, .inl ⟨_, SqL.of hp2, rfl⟩, _, rfl, ?_⟩
    rw [List.length_map]
    by_cases e2 : (cls2 v).length = 2
    rotate_left
    · rw [entO_len e2] at k
      rw [decide_eq_false (show ¬ ((cls2 v).length : Int) = 2 by omega)]
      exact ifF (by rfl) (k _ x12)
    rw [decide_eq_true (show ((cls2 v).length : Int) = 2 by omega)]
    refine ifT (by rfl) ?_
    obtain ⟨x, y, exy⟩ : ∃ x y, cls2 v = [x, y] := by
      cases h : cls2 v with
      | nil => rw [h] at e2; cases e2
      | cons x r =>
        cases r with
        | nil => rw [h] at e2; cases e2
        | cons y r =>
          cases r with
          | nil => exact ⟨x, y, rfl⟩
          | cons u r => rw [h] at e2; simp at e2
    have my : y ∈ cls2 v := by rw [exy]; simp
    have hy : y.length ≤ LIM := Nat.le_trans (cls_le my) (hq.le v hvm)
    have sy : Sg y := cls_sg (hq.sg v hvm) y my
    rw [entO_two exy] at k
    rw [exy] at hp2
    refine ⟨_, _, .inl (SqL.of hp2), atI_nat (j := 0) rfl, _, _, rfl, .inl (SqL.of hp1), rfl, flat_strs _, _, rfl, ?_⟩
    rw [inV_str]
    by_cases m : x ∈ cms u
    rotate_left
    · rw [if_neg m] at k
      rw [decide_eq_false m]
      exact ifF (by rfl) (k _ x12)
    rw [if_pos m] at k
    rw [decide_eq_true m]
    refine ifT (by rfl) ?_
    refine ⟨_, _, .inl (SqL.of hp2), atI_nat (j := 1) rfl, y, rfl, hy, sy, fun H3 x3 => ?_⟩
    have k3 := k H3 (x12.trans x3)
    cases hn : numO y with
    | none =>
      rw [hn] at k3
      exact ⟨rfl, k3⟩
    | some i =>
      rw [hn] at k3
      exact ⟨rfl, k3⟩
end
end NB

set_option Elab.async false
set_option linter.all false
/-! K3d (k81): parts of lists -/
namespace NB
open PySem PySem.Spec L2
section
variable {α β : Type} {R : α → β → Prop}
theorem pTake : ∀ {es : List α} {xs : List β} (n : Nat), Paired R es xs → Paired R (es.take n) (xs.take n)
  | _, _, 0, _ => by simp only [List.take_zero]; exact .nil
  | _, _, n + 1, .nil => .nil
  | _, _, n + 1, .cons r q => .cons r (pTake n q)
theorem pApp : ∀ {es gs : List α} {xs ys : List β}, Paired R es xs → Paired R gs ys → Paired R (es ++ gs) (xs ++ ys)
  | _, _, _, _, .nil, h => h
  | _, _, _, _, .cons r q, h => .cons r (pApp q h)
end
theorem cut_to {xs : List V} {n : Int} (h0 : 0 ≤ n) : cutV xs none (some n) = xs.take n.toNat := by
  unfold cutV
  show (xs.drop 0).take _ = _
  have hn : ¬ n < 0 := by omega
  simp only [HT.sIx, List.drop_zero, if_neg hn]
  rcases Nat.le_total n.toNat xs.length with h | h
  · congr 1
    omega
  · rw [List.take_of_length_le h, List.take_of_length_le]
    omega
theorem cut_from {xs : List V} {n : Int} (h0 : 0 ≤ n) : cutV xs (some n) none = xs.drop n.toNat := by
  unfold cutV
  have hn : ¬ n < 0 := by omega
  simp only [HT.sIx, if_neg hn]
  rcases Nat.le_total n.toNat xs.length with h | h
  · rw [List.take_of_length_le]
    · congr 1
      omega
    · rw [List.length_drop]; omega
  · rw [List.drop_eq_nil_of_le h, List.take_of_length_le]
    · exact List.drop_eq_nil_of_le (by omega)
    · rw [List.length_drop]; omega
theorem EntAt.st {H H' : Hp} {e : Str × Int} {v : V} (h : EntAt H e v) (x : TupSt H H') : EntAt H' e v := by
  obtain ⟨p, rfl, q⟩ := h
  exact ⟨p, rfl, x _ _ q⟩
theorem Frm.put {M : List Addr} {H H1 : Hp} {p : Addr} {o : HO} (a : Frm M H H1) (h : H p = none) : Frm M H (L2.upd H1 p o) := fun c u e n => by
  rw [upd_ne (ne_of_none e h)]; exact a c u e n
end NB

set_option Elab.async false
set_option linter.all false
set_option maxRecDepth 100000
set_option maxHeartbeats 4000000
/-! K4 (k82): logs read, or the number of a word -/
namespace NB
open PySem PySem.Spec L2
open PyProof.Rows (envOfC)
open C8 (pe_c pe_mk pe_mt pe_mt0 pe_gc fnScope fnBody fnArgs fnScope_by Cal Met Mak)
theorem ps0 {X : Cx} : Passes C8.CX0 X C8.E0 := C8.pass0
theorem u2 {k : Nat} {A : Around} (hr : Room k A) : A.units + 1 < cLine := by have := hr.un; omega
/-- where the methods of Log stand -/
structure Ads where
  (fI fZ fV fE : Addr)
  (dI dZ dV dE : FuncData)
structure Ms (K : PySem.W.Frag) (A : Ads) : Prop where
  mI : Mx K "__init__" "Log.__init__" s_Log___init__ ["self", "size", "servers", "entries"] A.fI A.dI
  mZ : Mx K "size" "Log.size" s_Log_size ["self"] A.fZ A.dZ
  mV : Mx K "servers" "Log.servers" s_Log_servers ["self"] A.fV A.dV
  mE : Mx K "entries" "Log.entries" s_Log_entries ["self"] A.fE A.dE
structure LogM (K : PySem.W.Frag) (C : Addr) (b : Bool) (A : Ads) : Prop extends LogC K C (kdB b) where
  mkk : Mk K C A.fI
  pZ : ∃ p, PropOf K C "size" p A.fZ
  pV : ∃ p, PropOf K C "servers" p A.fV
  pE : ∃ p, PropOf K C "entries" p A.fE
/-- the class of the errors of texts -/
structure TxtE (K : PySem.W.Frag) (mg : Str → Option Value) (cB cT fT : Addr) (dT : FuncData) : Prop where
  o : OexC K cT
  i : PySem.W.findIn K (.ref cT) "__init__" = some (some (.ref fT))
  t : PySem.W.typeIn K (.ref fT) = some (.type "function")
  b : Binds K dT ["self", "word"] []
  g : mg "InvalidText" = some (.ref cT)
  mI : Mx K "__init__" "InvalidText.__init__" s_InvalidText___init__ ["self", "word"] fT dT
  bi : ∃ mc, BaseI K cB mc
  gB : mg "BookError" = some (.ref cB)
  nw : PySem.W.findIn K (.ref cT) "word" = some none
  xf : XfC K cT
  xc : ExcC K cT
def kC (cL cX : Addr) (b : Bool) : Addr := if b = true then cX else cL
structure KindC (K : PySem.W.Frag) (cL cX : Addr) : Prop where
  cvL : ∃ mc u, ClX.CRead K cL mc ∧ ClX.CVal K cL mc "KIND" (.str "steady") u
  cvX : ∃ mc u, ClX.CRead K cX mc ∧ ClX.CVal K cX mc "KIND" (.str "losing") u
def spLogT (cL cX : Addr) : Sp := fun vs H Q _ => ∃ b sz a l ns es xs, vs = [.str (kdB b), .int sz, .ref a, .ref l] ∧ SizeOk sz ∧ H a = some (.lst (ns.map V.str)) ∧ CrewOk ns ∧ H l = some (.lst xs) ∧ EntL H es xs ∧ EntsOk ns es ∧
  ∀ H' q, H q = none → LogAt (kC cL cX b) H' q sz ns es → Ext H H' → Q (.ref q) H'
theorem init_R {H : Hp} {x dx C a l : Addr} {sz : Int} {ns : List Str} {es : List (Str × Int)} {xs : List V} {R : Hp → Prop} {E : XK} (nx : H x = none) (nd : H dx = none) (ne : dx ≠ x) (so : SizeOk sz) (ha : H a = some (.lst (ns.map V.str))) (cr : CrewOk ns)
    (hl : H l = some (.lst xs)) (el : EntL H es xs) (ok : EntsOk ns es) (k : ∀ H', LogAt C H' x sz ns es → Ext H H' → R H') :
    spInit C [.ref x, .int sz, .ref a, .ref l] (upd (upd H dx (.own x)) x (.ins C dx [])) (fun v H2 => v = .non ∧ R H2) E := by
  have x0 : Ext H (upd (upd H dx (.own x)) x (.ins C dx [])) := fun b o e => by
    rw [upd_ne (ne_of_none e nx), upd_ne (ne_of_none e nd)]; exact e
  refine ⟨x, dx, sz, a, ns, l, es, xs, rfl, upd_same, by rw [upd_ne ne]; exact upd_same, so, x0 _ _ ha, cr, x0 _ _ hl, el.mono x0, ok, fun H' ls le h1 h2 g1 g2 g3 fr => ⟨rfl, ?_⟩⟩
  have x1 : Ext H H' := fun b o e => fr _ _ (x0 _ _ e) fun z => ne_of_none e nx (List.mem_singleton.mp z)
  exact k H' ⟨dx, ls, le, xs, g1, g2, g3, el.mono x1⟩ x1
def spTxtI (K : PySem.W.Frag) (cT : Addr) : Sp := fun vs H Q _ => ∃ (p : Addr) (i : Int), vs = [.ref p, .int i] ∧ H p = some (exo p cT none) ∧ ∀ dx, H dx = none → dx ≠ p → Q .non (upd (upd H dx (exd dx [("word", .int i)])) p (exo p cT (some dx)))
def spReadX (cL cX cT : Addr) : Sp := fun vs H Q E => ∃ t, vs = [.str t] ∧ t.length ≤ LIM ∧ (∀ k : Nat, Bad (wds t) k → ∀ H' dd, Ext H H' → H' dd = some (.xd [("word", .int k)]) → E (.ref cT) (some dd) H') ∧
  ∀ b sz ns es, Reads (wds t) b sz ns es → ∀ H' q, H q = none → LogAt (kC cL cX b) H' q sz ns es → Ext H H' → Q (.ref q) H'
/-- an error of a text is made -/
theorem raise_txt {K : PySem.W.Frag} {cT : Addr} {H : Hp} {i : Int} {E : XK} (k : ∀ H' dd, Ext H H' → H' dd = some (.xd [("word", .int i)]) → E (.ref cT) (some dd) H') : ∀ a, H a = none → spTxtI K cT [.ref a, .int i] (upd H a (exo a cT none))
    (fun v H2 => v = .non ∧ ∃ (d : Addr) (fs : List (Str × V)), H2 a = some (exo a cT (some d)) ∧ H2 d = some (exd d fs) ∧ H d = none ∧ E (.ref cT) (some d) (upd (del H2 a) d (.xd fs))) (fun _ _ _ => False) := by
  intro a na
  refine ⟨a, i, rfl, upd_same, fun dx nd ne => ⟨rfl, dx, _, upd_same, by rw [upd_ne ne]; exact upd_same, (upd_none nd).2, ?_⟩⟩
  refine k _ dx (fun b o h => ?_) upd_same
  have nb : b ≠ a := ne_of_none h na
  have nb2 : b ≠ dx := ne_of_none h (upd_none nd).2
  rw [upd_ne nb2, del_ne nb, upd_ne nb, upd_ne nb2, upd_ne nb]
  exact h
section
variable {P : Program} {w : World} {K : PySem.W.Frag} {mg : Str → Option Value} {base : Heap} {cL cX : Addr} {A0 : Ads}
theorem ok_txtI {cB cT fT : Addr} {dT : FuncData} (T2 : TxtE K mg cB cT fT dT) : FnOk P w K mg base C8.CX0 1 fT dT ["self", "word"] (spTxtI K cT) := by
  refine fn_of' T2.mI sc_InvalidText___init__ (fun vs H Q E h => ?_) (fun cdv A o s H vs Q E hr h => ?_)
  · obtain ⟨p, i, rfl, _⟩ := h; rfl
  · obtain ⟨p, i, rfl, hp, k⟩ := h
    obtain ⟨mc, bi⟩ := T2.bi
    refine ⟨_, (pss_cons (ps_expr (pe_binit bi rfl T2.gB (pa_cons (mv 0) (pa_cons pe_str pa_nil))))
    (pss_one (ps_ost (mv 0) (mv 1)))), ?_⟩
    refine ⟨p, cT, [.str "invalid text"], rfl, by decide, T2.o, hp, ?_⟩
    refine ⟨p, cT, rfl, T2.o, T2.nw, .inl ⟨hp, fun dx nd ne => ?_⟩⟩
    exact k dx nd ne
theorem ok_logT (T : Tz K mg cL cX) (Kc : KindC K cL cX) (D : Dy K mg "log_of_texts" "log_of" s_log_of_texts ["kind", "size", "servers", "entries"]) (c_Log : Mak P w K mg base 4 "Log" cL (spInit cL) []) (c_LosingLog : Mak P w K mg base 4 "LosingLog" cX (spInit cX) []) :
    Cal P w K mg base 6 "log_of_texts" (spLogT cL cX) [] := by
  refine cal_ofA D sc_log_of_texts (fun vs H Q E h => ?_) (fun f cdv A o s H vs Q E hr h => ?_)
  · obtain ⟨b, sz, a, l, ns, es, xs, rfl, _⟩ := h; rfl
  · obtain ⟨b, sz, a, l, ns, es, xs, rfl, so, ha, cr, hl, el, ok, k⟩ := h
    obtain ⟨mc2, u2, cr2, cv2⟩ := Kc.cvX
    refine ⟨_, (pss_one (ps_ret (pe_ifExp (qt m_eq (mv 0) (ClX.pe_cval (pe_gc rfl T.g_LosingLog)) (nomark _)) (pe_mk c_LosingLog hr (by decide) rfl (pa_cons (mv 1) (pa_cons (mv 2) (pa_cons (mv 3) pa_nil)))) (pe_mk c_Log hr (by decide) rfl (pa_cons (mv 1) (pa_cons (mv 2) (pa_cons (mv 3) pa_nil))))))), ?_⟩
    refine ⟨cX, mc2, _, u2, rfl, cr2, cv2, ?_⟩
    refine (show if decide (kdB b = ("losing" : Str)) = true then _ else _ from ?_)
    cases b with
    | true =>
      refine ifT (by decide +kernel) ?_
      intro x dx nx nd ne
      exact init_R nx nd ne so ha cr hl el ok fun H' lg x1 => k H' x nx lg x1
    | false =>
      refine ifF (by decide +kernel) ?_
      intro x dx nx nd ne
      exact init_R nx nd ne so ha cr hl el ok fun H' lg x1 => k H' x nx lg x1
end
end NB

set_option Elab.async false
set_option linter.all false
set_option maxRecDepth 100000
set_option maxHeartbeats 4000000
/-! K4r (k82): read_log of any text -/
namespace NB
open PySem PySem.Spec L2
open PyProof.Rows (envOfC)
open C8 (pe_c pe_mk pe_mt pe_mt0 pe_gc fnScope fnBody fnArgs fnScope_by Cal Met Mak)
theorem bad0 {ws : List Str} {w : Str} (h : ws[0]? = some w) (n : kindB w = false) : Bad ws 0 := ⟨fun j hj => absurd hj (Nat.not_lt_zero _), .inr ⟨w, h, n⟩⟩
theorem bad1 {ws : List Str} {w : Str} (h : ws[0]? = some w) (y : kindB w = true) (n : (ws.length = 1) ∨ ∃ v, ws[1]? = some v ∧ sizeB v = false) : Bad ws 1 := by
  refine ⟨fun j hj => ?_, ?_⟩
  · obtain rfl : j = 0 := by omega
    exact ⟨w, h, y⟩
  · rcases n with n | ⟨v, hv, n⟩
    · exact .inl ⟨n.symm, by omega⟩
    · exact .inr ⟨v, hv, n⟩
theorem bad2 {ws : List Str} {w v : Str} (h : ws[0]? = some w) (y : kindB w = true) (h1 : ws[1]? = some v) (y1 : sizeB v = true) (n : (ws.length = 2) ∨ ∃ u, ws[2]? = some u ∧ servO u = none) : Bad ws 2 := by
  refine ⟨fun j hj => ?_, ?_⟩
  · rcases Nat.lt_or_ge j 1 with q | q
    · obtain rfl : j = 0 := by omega
      exact ⟨w, h, y⟩
    · obtain rfl : j = 1 := by omega
      exact ⟨v, h1, y1⟩
  · rcases n with n | ⟨u, hu, n⟩
    · exact .inl ⟨n.symm, by omega⟩
    · exact .inr ⟨u, hu, by rw [stand2, n]; rfl⟩
theorem bad3 {ws : List Str} {w v u x : Str} {ns : List Str} {i : Nat} (h : ws[0]? = some w) (y : kindB w = true) (h1 : ws[1]? = some v) (y1 : sizeB v = true) (h2 : ws[2]? = some u) (y2 : servO u = some ns) (hx : ws[3 + i]? = some x)
    (pre : ∀ j, j < i → ∃ z, ws[3 + j]? = some z ∧ (entO ns z).isSome = true) (hi : i ≤ 200) (n : entO ns x = none ∨ i = 200) : Bad ws (3 + i) := by
  have en := (servO_some y2).1
  refine ⟨fun j hj => ?_, .inr ⟨x, hx, ?_⟩⟩
  · rcases Nat.lt_or_ge j 3 with q | q
    · rcases Nat.lt_or_ge j 1 with q1 | q1
      · obtain rfl : j = 0 := by omega
        exact ⟨w, h, y⟩
      · rcases Nat.lt_or_ge j 2 with q2 | q2
        · obtain rfl : j = 1 := by omega
          exact ⟨v, h1, y1⟩
        · obtain rfl : j = 2 := by omega
          exact ⟨u, h2, by rw [stand2, y2]; rfl⟩
    · obtain ⟨z, hz, e⟩ := pre (j - 3) (by omega)
      have : 3 + (j - 3) = j := by omega
      rw [this] at hz
      refine ⟨z, hz, ?_⟩
      rw [stand3 q h2, ← en, e, decide_eq_true (by omega)]
      rfl
  · rw [stand3 (by omega) h2, ← en]
    rcases n with n | n
    · rw [n]; simp
    · rw [decide_eq_false (by omega)]; rfl
section
variable {P : Program} {w : World} {K : PySem.W.Frag} {mg : Str → Option Value} {base : Heap} {cL cX cB cT fT : Addr} {dT : FuncData}
theorem fnX0 {x qual : Str} {st : Stmt} {f : Addr} {fd : FuncData} {N ps : List Str} {k : Nat} {sp : Sp} (F : C8.Fun K x qual st f fd) (S : FnScope N ps (C8.fnScope st)) (len : ∀ vs H Q E, sp vs H Q E → vs.length = ps.length)
    (hb : ∀ (cdv : Value) (A : Around) (o : List Env) (s : Shared) (H : Hp) (vs : List V) (Q : VK) (E : XK), Room k (A.deeper (envOfC qual (C8.fnScope st) s.heap.objs.size f cdv)) → sp vs H Q E →
      ∃ t, PSs (cxOf (L2.CX P w) P w K mg base N qual (C8.fnScope st) f cdv A o s H E) (C8.fnBody st) t ∧ t { nx := fun _ H' => Q .non H', rt := Q } (start N vs) H) : FnOk P w K mg base (L2.CX P w) (k + 1) f fd ps sp := by
  obtain ⟨oc, od, dV, kV, doc, pm, an, cdv, ct, osl, rfl, lk, hcd⟩ := F.ex
  exact fn_of lk hcd S len fun A outer s H vs Q E hr hsp => hb cdv A outer s H vs Q E hr hsp
theorem ok_read (T : Tz K mg cL cX) (Kc : KindC K cL cX) (T2 : TxtE K mg cB cT fT dT) {f : Addr} {fd : FuncData} (D : C8.Fun K "read_log" "read_log" s_read_log f fd) (c_size_in : Cal P w K mg base 2 "size_in" spSizeIn []) (c_servers_in : Cal P w K mg base 2 "servers_in" spServIn []) (c_entry_in : Cal P w K mg base 2 "entry_in" spEntIn [])
    (c_log_of_texts : Cal P w K mg base 6 "log_of_texts" (spLogT cL cX) []) : FnOk P w K mg base (L2.CX P w) 7 f fd ["text"] (spReadX cL cX cT) := by
  have F_txt := ok_txtI (P := P) (w := w) (base := base) T2
  refine fnX0 D sc_read_log (fun vs H Q E h => ?_) (fun cdv A o s H vs Q E hr h => ?_)
  · obtain ⟨t, rfl, _⟩ := h; rfl
  · obtain ⟨t, rfl, ht, kb, k⟩ := h
    obtain ⟨mc1, u1, cr1, cv1⟩ := Kc.cvL
    obtain ⟨mc2, u2, cr2, cv2⟩ := Kc.cvX
    refine ⟨_, (pss_cons (ps_set (i := 1) sc_read_log.nd rfl (Or.inl rfl) (pe_split (mv 0) pe_str))
    (pss_cons (ps_if (qt op_notIn_seq (pe_ix m_ix (mv 1) pe_int (fun _ _ => rfl)) (pe_tup (pa_cons (ClX.pe_cval (pe_gc rfl T.g_Log)) (pa_cons (ClX.pe_cval (pe_gc rfl T.g_LosingLog)) pa_nil))) (by rfl)) (pss_one (ps_raise rfl (takes_of rfl rfl rfl rfl) (pmk_oex T2.o T2.i T2.t F_txt (hr.mono (by decide)) T2.b .nil ps0 rfl T2.g (pa_cons pe_int pa_nil)))) pss_nil)
    (pss_cons (ps_set (i := 2) sc_read_log.nd rfl (Or.inl rfl) (pe_ifExp (qt m_gt (pe_callB call_len (by rfl) T.n_len (by decide +kernel) (pa_cons (mv 1) pa_nil)) pe_int (nomark _)) (pe_c c_size_in hr (by decide) rfl (pa_cons (pe_ix m_ix (mv 1) pe_int (fun _ _ => rfl)) pa_nil)) pe_non))
    (pss_cons (ps_if (qt op_isN (mv 2) pe_non (nomark _)) (pss_one (ps_raise rfl (takes_of rfl rfl rfl rfl) (pmk_oex T2.o T2.i T2.t F_txt (hr.mono (by decide)) T2.b .nil ps0 rfl T2.g (pa_cons pe_int pa_nil)))) pss_nil)
    (pss_cons (ps_set (i := 3) sc_read_log.nd rfl (Or.inl rfl) (pe_ifExp (qt m_gt (pe_callB call_len (by rfl) T.n_len (by decide +kernel) (pa_cons (mv 1) pa_nil)) pe_int (nomark _)) (pe_c c_servers_in hr (by decide) rfl (pa_cons (pe_ix m_ix (mv 1) pe_int (fun _ _ => rfl)) pa_nil)) pe_non))
    (pss_cons (ps_if (qt op_isN (mv 3) pe_non (nomark _)) (pss_one (ps_raise rfl (takes_of rfl rfl rfl rfl) (pmk_oex T2.o T2.i T2.t F_txt (hr.mono (by decide)) T2.b .nil ps0 rfl T2.g (pa_cons pe_int pa_nil)))) pss_nil)
    (pss_cons (ps_set (i := 4) sc_read_log.nd rfl (Or.inl rfl) (pe_lst pa_nil))
    (pss_cons (ps_for (passes_of rfl) rfl (pi_enum (by rfl) T.n_enumerate (pa_cons (pe_slice sl_list (mv 1) (po_some (pe_gc rfl T.g_AHEAD)) po_none) pa_nil)) (pg_tup rfl (pgs_cons (pg_name (i := 5) sc_read_log.nd rfl (Or.inl rfl)) (pgs_cons (pg_name (i := 6) sc_read_log.nd rfl (Or.inl rfl)) pgs_nil)))
    (pss_cons (ps_set (i := 7) sc_read_log.nd rfl (Or.inl rfl) (pe_c c_entry_in hr (by decide) rfl (pa_cons (mv 6) (pa_cons (mv 3) pa_nil))))
    (pss_cons (ps_if (PW.pt (pw_or (qt op_isN (mv 7) pe_non (nomark _)) (pw_or1 (qt m_eq (mv 5) (pe_gc rfl T.g_MOST_ENTRIES_texts) (nomark _))))) (pss_one (ps_raise rfl (takes_of rfl rfl rfl rfl) (pmk_oex T2.o T2.i T2.t F_txt (hr.mono (by decide)) T2.b .nil ps0 rfl T2.g (pa_cons (pe_op m_add (pe_gc rfl T.g_AHEAD) (mv 5)) pa_nil)))) pss_nil)
    (pss_one (ps_expr (pe_bm PySem.F.plainAttrs_list PySem.F.slot_list_append PySem.F.type_list_append mt_append (mv 4) (pa_cons (mv 7) pa_nil)))))))
    (pss_one (ps_ret (pe_c c_log_of_texts hr (by decide) rfl (pa_cons (pe_ix m_ix (mv 1) pe_int (fun _ _ => rfl)) (pa_cons (mv 2) (pa_cons (mv 3) (pa_cons (mv 4) pa_nil))))))))))))))), ?_⟩
    refine ⟨⟨_, rfl⟩, _, _, rfl, rfl, by decide +kernel, Nat.le_trans (Nat.add_le_add_right ht 2) lim_line, fun q nq => ?_⟩
    have x1 := Ext.upd (o := .lst ((wds t).map V.str)) nq
    have hq : (upd H q (.lst ((wds t).map V.str))) q = some (.lst ((wds t).map V.str)) := upd_same
    have le := fun (y : Str) (hy : y ∈ wds t) => Nat.le_trans (wds_le hy) ht
    have num : (wds t).length ≤ LIM + 1 := Nat.le_trans (wds_num t) (by omega)
    have ne := wds_ne t
    generalize upd H q (.lst ((wds t).map V.str)) = H1 at x1 hq ⊢
    generalize wds t = ws at hq le num ne kb k
    -- the kind
    obtain ⟨w0, g0⟩ : ∃ w0, ws[0]? = some w0 := by
      cases ws with
      | nil => exact absurd rfl ne
      | cons a r => exact ⟨a, rfl⟩
    have at_ : ∀ {j : Nat} {z : Str}, ws[j]? = some z → (ws.map V.str)[j]? = some (.str z) := fun h => by rw [List.getElem?_map, h]; rfl
    refine ⟨_, _, .inl (SqL.of hq), atI_nat (j := 0) (at_ g0), cL, mc1, _, u1, rfl, cr1, cv1, cX, mc2, _, u2, rfl, cr2, cv2, (by show 2 ≤ sizeLine; decide), fun t0 nt => ?_⟩
    have x2 := x1.trans (Ext.upd (o := .tup [.str "steady", .str "losing"]) nt)
    have hq2 := Ext.upd (o := .tup [.str "steady", .str "losing"]) nt _ _ hq
    refine ⟨_, _, rfl, .inr (SqT.of upd_same), rfl, rfl, ?_⟩
    rw [kind_in]
    generalize upd H1 t0 (.tup [.str "steady", .str "losing"]) = H2 at x2 hq2 ⊢
    clear hq x1 nt
    cases b0 : kindB w0 with
    | false =>
      refine ifT (by rfl) ?_
      exact ⟨by decide, raise_txt fun H' dd x e => kb 0 (bad0 g0 b0) H' dd (x2.trans x) e⟩
    | true =>
    refine ifF (by rfl) ?_
    -- the size
    refine ⟨_, _, rfl, .inl ⟨_, SqL.of hq2, rfl⟩, ?_⟩
    rw [List.length_map]
    have sizeEnd : ∀ H3 v, Ext H H3 → H3 q = some (.lst (ws.map V.str)) → (∃ z, ws[1]? = some z ∧ v = sizeO z) ∨ (ws.length = 1 ∧ v = none) → True := fun _ _ _ _ _ => trivial
    refine ifD (p := (1 : Int) < (ws.length : Int)) (fun l1 => ?_) (fun l1 => ?_)
    rotate_left
    · refine ⟨rfl, ifT (by rfl) ?_⟩
      have : ws.length = 1 := by have := (List.getElem?_eq_some_iff.mp g0).1; omega
      exact ⟨by decide, raise_txt fun H' dd x e => kb 1 (bad1 g0 b0 (.inl this)) H' dd (x2.trans x) e⟩
    have g1 := List.getElem?_eq_getElem (l := ws) (i := 1) (by omega)
    generalize ws[1] = v1 at g1
    refine ⟨_, _, .inl (SqL.of hq2), atI_nat (j := 1) (at_ g1), v1, rfl, le v1 (List.mem_of_getElem? g1), fun H3 x3 => ?_⟩
    have x13 := x2.trans x3
    have hq3 := x3 _ _ hq2
    clear hq2 x2 x3
    cases b1 : sizeB v1 with
    | false =>
      have e : sizeO v1 = none := by unfold sizeO; rw [b1, if_neg Bool.false_ne_true]
      rw [e]
      refine ⟨rfl, ifT (by rfl) ?_⟩
      exact ⟨by decide, raise_txt fun H' dd x e => kb 1 (bad1 g0 b0 (.inr ⟨v1, g1, b1⟩)) H' dd (x13.trans x) e⟩
    | true =>
    obtain ⟨sz, nsz, so⟩ := sizeB_of b1
    have e : sizeO v1 = some sz := by unfold sizeO; rw [b1, if_pos rfl, nsz]
    rw [e]
    refine ⟨rfl, ifF (by rfl) ?_⟩
    -- the servers
    refine ⟨_, _, rfl, .inl ⟨_, SqL.of hq3, rfl⟩, ?_⟩
    rw [List.length_map]
    refine ifD (p := (2 : Int) < (ws.length : Int)) (fun l2 => ?_) (fun l2 => ?_)
    rotate_left
    · refine ⟨rfl, ifT (by rfl) ?_⟩
      have : ws.length = 2 := by omega
      exact ⟨by decide, raise_txt fun H' dd x e => kb 2 (bad2 g0 b0 g1 b1 (.inl this)) H' dd (x13.trans x) e⟩
    have g2 := List.getElem?_eq_getElem (l := ws) (i := 2) (by omega)
    generalize ws[2] = v2 at g2
    refine ⟨_, _, .inl (SqL.of hq3), atI_nat (j := 2) (at_ g2), v2, rfl, le v2 (List.mem_of_getElem? g2), fun e4 H4 x4 => ?_, fun ns e4 H4 a na ha x4 => ?_⟩
    · refine ⟨rfl, ifT (by rfl) ?_⟩
      exact ⟨by decide, raise_txt fun H' dd x e => kb 2 (bad2 g0 b0 g1 b1 (.inr ⟨v2, g2, e4⟩)) H' dd ((x13.trans x4).trans x) e⟩
    obtain ⟨_, cr⟩ := servO_some e4
    have hq4 := x4 _ _ hq3
    have x14 := x13.trans x4
    refine ⟨rfl, ifF (by rfl) ?_⟩
    clear hq3 x4 x13
    -- the entries
    refine ⟨Nat.zero_le _, fun l nl => ?_⟩
    have x5 := Ext.upd (o := .lst []) nl
    have hl5 : (upd H4 l (.lst [])) l = some (.lst []) := upd_same
    have hq5 := x5 _ _ hq4
    have ha5 := x5 _ _ ha
    have x15 := x14.trans x5
    have nl0 := Ext.free x14 nl
    have ql : q ≠ l := ne_of_none hq4 nl
    have al : a ≠ l := ne_of_none ha nl
    generalize upd H4 l (.lst []) = H5 at hl5 hq5 ha5 x15 ⊢
    clear hq4 ha x14 x5
    refine ⟨_, rfl, q, _, rfl, SqL.of hq5, fun tt ntt => ?_⟩
    rw [cut_from (by decide)]
    have e3 : (ws.map V.str).drop (3 : Int).toNat = (ws.drop 3).map V.str := (List.map_drop ..).symm
    rw [e3]
    have x6 := Ext.upd (o := .lst ((ws.drop 3).map V.str)) ntt
    have ht6 : (upd H5 tt (.lst ((ws.drop 3).map V.str))) tt = some (.lst ((ws.drop 3).map V.str)) := upd_same
    have ttl : tt ≠ l := (ne_of_none hl5 ntt).symm
    have hl6 := x6 _ _ hl5
    have hq6 := x6 _ _ hq5
    have ha6 := x6 _ _ ha5
    have x16 := x15.trans x6
    generalize upd H5 tt (.lst ((ws.drop 3).map V.str)) = G at ht6 hl6 hq6 ha6 x16 ⊢
    refine ⟨tt, _, rfl, SqL.of ht6, for_enum (K := K) (a := tt) (xs := (ws.drop 3).map V.str) (fun i σ H' => ∃ v5 v6 v7 xs es, σ = [some (.str t), some (.ref q), some (.int sz), some (.ref a), some (.ref l), v5, v6, v7] ∧ H' l = some (.lst xs) ∧ EntL H' es xs ∧ ((ws.drop 3).take i).map (entO ns) = es.map some ∧ i ≤ 200 ∧ Frm [l] G H') ⟨_, _, _, [], [], rfl, hl6, .nil, rfl, Nat.zero_le _, fun _ _ h _ => h⟩ ?_ ?_ ?_⟩
    · rintro i σ H' _ ⟨_, _, _, _, _, rfl, _, _, _, _, fr⟩
      exact SqL.of (fr _ _ ht6 (fun z => ttl (List.mem_singleton.mp z)))
    · rintro i x T0 σ H' hx nT ⟨v5, v6, v7, xs, es, rfl, hl', el', eo, hi, fr⟩
      obtain ⟨wd, hw, rfl⟩ := map_at hx
      have hw3 : ws[3 + i]? = some wd := by rw [List.getElem?_drop] at hw; exact hw
      have y1 := Ext.upd (o := .tup [.int (i : Nat), .str wd]) nT
      have hl1 := y1 _ _ hl'
      have el1 := EntL.mono el' y1
      have fr1 := fr.trans (Frm.ext y1)
      have hT : (upd H' T0 (.tup [.int (i : Nat), .str wd])) T0 = some (.tup [.int (i : Nat), .str wd]) := upd_same
      generalize upd H' T0 (.tup [.int (i : Nat), .str wd]) = K1 at hl1 el1 fr1 hT ⊢
      have xx : ∀ {K2 : Hp}, Frm [l] G K2 → Ext H K2 := fun f c u hc => f _ _ (x16 _ _ hc) fun z => by rw [List.mem_singleton.mp z, nl0] at hc; cases hc
      have le_i : i < (ws.drop 3).length := (List.getElem?_eq_some_iff.mp hw).1
      have ln : es.length = i := by
        have := congrArg List.length eo
        rw [List.length_map, List.length_map, List.length_take] at this
        omega
      have pre : ∀ j, j < i → ∃ z, ws[3 + j]? = some z ∧ (entO ns z).isSome = true := fun j hj => by
        have gj := List.getElem?_eq_getElem (l := ws.drop 3) (i := j) (by omega)
        have ej : (((ws.drop 3).take i).map (entO ns))[j]? = some (entO ns (ws.drop 3)[j]) := by
          rw [List.getElem?_map, List.getElem?_take, if_pos hj, gj]; rfl
        rw [eo, List.getElem?_map] at ej
        obtain ⟨e0, _, e1⟩ := Option.map_eq_some_iff.mp ej
        rw [List.getElem?_drop] at gj
        exact ⟨_, gj, by rw [← e1]; rfl⟩
      have err : (entO ns wd = none ∨ i = 200) → ∀ K2, Frm [l] G K2 → ∀ H' dd, Ext K2 H' → H' dd = some (.xd [("word", .int (3 + i))]) → E (.ref cT) (some dd) H' := fun n K2 f H' dd x e => by
        refine kb (3 + i) (bad3 g0 b0 g1 b1 g2 e4 hw3 pre hi n) H' dd ((xx f).trans x) ?_
        rw [e]
        have : ((3 + i : Nat) : Int) = 3 + (i : Int) := by omega
        rw [this]
      refine ⟨T0, _, rfl, SqT.of hT, rfl, _, _, rfl, _, _, rfl, rfl, ?_⟩
      refine ⟨wd, a, ns, rfl, le wd (List.mem_of_getElem? hw3), fr1 _ _ ha6 (fun z => al (List.mem_singleton.mp z)), fun en K2 y2 => ?_, fun e en K2 v ev y2 => ?_⟩
      · refine ⟨rfl, ifT (by rfl) ?_⟩
        exact ⟨(by show 1 ≤ 1000; decide), raise_txt fun H' dd x e => err (.inl en) K2 (fr1.trans (Frm.ext y2)) H' dd x e⟩
      obtain ⟨t2, rfl, ht2⟩ := ev
      refine ⟨rfl, ifF (by rfl) ?_⟩
      refine ifD (p := ((i : Nat) : Int) = 200) (fun h => ?_) (fun h2 => ?_)
      · exact ⟨(by show 1 ≤ 1000; decide), raise_txt fun H' dd x e => err (.inr (by omega)) K2 (fr1.trans (Frm.ext y2)) H' dd x e⟩
      have hl2 := y2 _ _ hl1
      have t3 := TupSt.upd (o := .lst (xs ++ [.ref t2])) hl2 (fun _ z => nomatch z)
      have lx : es.length = xs.length := EntL.len el1
      refine ⟨.inl ⟨rfl, _, SqL.of hl2⟩, l, _, _, rfl, rfl, hl2, ?_, ?_⟩
      · rw [← lx, ln]; exact Nat.lt_of_le_of_lt hi (by decide)
      · refine ⟨_, _, _, xs ++ [.ref t2], es ++ [e], rfl, upd_same, ?_, ?_, by omega, (fr1.trans (Frm.ext y2)).upd mem1⟩
        · exact pApp (EntL.st (EntL.mono el1 y2) t3) (.cons (EntAt.st ⟨t2, rfl, ht2⟩ t3) .nil)
        · rw [List.take_succ, hw, List.map_append, List.map_append, eo]
          simp [en]
    · rintro σ H' ⟨v5, v6, v7, xs, es, rfl, hl', el', eo, hi, fr⟩
      rw [List.length_map, List.take_length] at eo
      rw [List.length_map] at hi
      obtain ⟨b, rfl⟩ := kindB_of b0
      have le200 : es.length ≤ 200 := by
        have := congrArg List.length eo
        rw [List.length_map, List.length_map] at this
        omega
      have rd : Reads ws b sz ns es := ⟨g0, ⟨v1, g1, nsz⟩, so, ⟨v2, g2, e4⟩, eo, le200⟩
      refine ⟨_, _, .inl (SqL.of (fr _ _ hq6 (fun z => ql (List.mem_singleton.mp z)))), atI_nat (j := 0) (at_ g0), ?_⟩
      refine ⟨b, sz, a, l, ns, es, xs, rfl, so, fr _ _ ha6 (fun z => al (List.mem_singleton.mp z)), cr, hl', el', rd.tx.ok, fun H9 q9 nq9 lg9 x9 => ?_⟩
      have xx : Ext H H' := fun c u hc => fr _ _ (x16 _ _ hc) fun z => by rw [List.mem_singleton.mp z, nl0] at hc; cases hc
      exact k b sz ns es rd H9 q9 (Ext.free xx nq9) lg9 (xx.trans x9)
end
end NB

set_option Elab.async false
set_option linter.all false
set_option maxRecDepth 100000
set_option maxHeartbeats 4000000
/-! K4u (k81): the urn that the law draws from -/
namespace NB
open PySem PySem.Spec L2
open PyProof.Rows (envOfC)
open C8 (pe_c pe_mk pe_mt pe_mt0 pe_gc fnScope fnBody fnArgs fnScope_by Cal Met Mak)
/-- an urn at p, its cells at q, after at most n mixed draws -/
def UrnAt (n : Nat) (p q : Addr) (H : Hp) : Prop := ∃ (xs : List Int) (s z : Int), H p = some (.lst [.ref q, .int s, .int z]) ∧ H q = some (.lst (xs.map V.int)) ∧ (∀ x ∈ xs, 0 ≤ x) ∧ xs.length ≤ 40 ∧ 0 ≤ s ∧ s < 2 ^ 127 ∧ 0 ≤ z ∧ z ≤ (n : Int)
theorem UrnAt.ne {n : Nat} {p q : Addr} {H : Hp} (h : UrnAt n p q H) : p ≠ q := by
  obtain ⟨xs, s, z, h1, h2, _⟩ := h
  intro e
  rw [e, h2] at h1
  injection h1 with h1
  injection h1 with h1
  cases xs with
  | nil => cases h1
  | cons x xs => injection h1 with h1; cases h1
theorem UrnAt.mono {n m : Nat} {p q : Addr} {H : Hp} (h : UrnAt n p q H) (e : n ≤ m) : UrnAt m p q H := by
  obtain ⟨xs, s, z, h1, h2, h3, h4, h5, h6, h7, h8⟩ := h
  exact ⟨xs, s, z, h1, h2, h3, h4, h5, h6, h7, by omega⟩
theorem UrnAt.keep {n : Nat} {p q : Addr} {H H' : Hp} (h : UrnAt n p q H) (x : Ext H H') : UrnAt n p q H' := by
  obtain ⟨xs, s, z, h1, h2, r⟩ := h
  exact ⟨xs, s, z, x _ _ h1, x _ _ h2, r⟩
theorem UrnAt.ne_p {n : Nat} {p q b : Addr} {H : Hp} (h : UrnAt n p q H) (hb : H b = none) : b ≠ p ∧ b ≠ q := by
  obtain ⟨xs, s, z, h1, h2, _⟩ := h
  exact ⟨(ne_of_none h1 hb).symm, (ne_of_none h2 hb).symm⟩
/-- a list of texts that is not empty is no part of an urn -/
theorem UrnAt.strs {n : Nat} {p q a : Addr} {H : Hp} {ns : List Str} (h : UrnAt n p q H) (ha : H a = some (.lst (ns.map V.str))) (h1 : 1 ≤ ns.length) : a ≠ p ∧ a ≠ q := by
  obtain ⟨xs, s, z, h2, h3, _⟩ := h
  cases ns with
  | nil => exact absurd h1 (by decide)
  | cons w ns =>
    refine ⟨fun e => ?_, fun e => ?_⟩
    · rw [e, h2] at ha
      injection ha with ha; injection ha with ha; injection ha with ha; cases ha
    · rw [e, h3] at ha
      injection ha with ha; injection ha with ha
      cases xs with
      | nil => cases ha
      | cons x xs => injection ha with ha; cases ha
theorem nin2 {b p q : Addr} (h : b ≠ p ∧ b ≠ q) : b ∉ [p, q] := fun z => by
  simp only [List.mem_cons, List.not_mem_nil, or_false] at z
  exact z.elim h.1 h.2
theorem UrnAt.none {n : Nat} {p q b : Addr} {H H' : Hp} (f : Frm [p, q] H H') (t : UrnAt n p q H') (h : H' b = Option.none) : H b = Option.none := by
  cases e : H b with
  | none => rfl
  | some o => rw [f _ _ e (nin2 (t.ne_p h))] at h; cases h
/-- tuples stand -/
theorem UrnAt.tups {n : Nat} {p q : Addr} {H H' : Hp} (h : UrnAt n p q H) (f : Frm [p, q] H H') : TupSt H H' := fun a xs e => by
  obtain ⟨_, s, z, h2, h3, _⟩ := h
  exact f _ _ e (nin2 ⟨ne_of e h2 (fun z => nomatch z), ne_of e h3 (fun z => nomatch z)⟩)
abbrev MOD : Int := 170141183460469231731687303715884105727
theorem mulW {i j : Int} {a b : Nat} (h0 : 0 ≤ i) (h1 : i < 2 ^ a) (h2 : 0 ≤ j) (h3 : j < 2 ^ b) (ha : 0 < a) (hb : 0 < b) (hab : a + b ≤ 1000) : PySem.IntMulOk i j := by
  refine CMulW.ok ?_
  have := nat_bits h0 h1 ha
  have := nat_bits h2 h3 hb
  show i.natAbs.log2 + j.natAbs.log2 < 1000000
  omega
theorem mulL {i j : Int} (h1 : -(2 ^ 64) < i) (h2 : i < 2 ^ 64) : PySem.IntMulOk i j := CMul.ok (.inl ⟨h1, h2⟩)
theorem mulR {i j : Int} (h1 : -(2 ^ 64) < j) (h2 : j < 2 ^ 64) : PySem.IntMulOk i j := CMul.ok (.inr ⟨h1, h2⟩)
theorem mod_lt {a b : Int} (h : 0 < b) : 0 ≤ a % b ∧ a % b < b := ⟨Int.emod_nonneg _ (by omega), Int.emod_lt_of_pos _ h⟩
theorem cdv_of {j : Int} {n : Nat} (i : Int) (h1 : 1 ≤ j) (h2 : j < 2 ^ n) (h0 : 0 < n) (h9 : n ≤ 9000) : CDv i j := ⟨by omega, Nat.lt_of_lt_of_le (nat_bits (by omega) h2 h0) h9⟩
/-- lists of numbers as data -/
theorem dp_ints {K : PySem.W.Frag} {H : Hp} : ∀ xs : List Int, DpAll K H (xs.map V.int) (xs.map .int)
  | [] => .nil
  | z :: xs => .cons (.int z) (dp_ints xs)
theorem sh_ints (xs : List Int) : SeqAt.shaped (.list (xs.map .int)) = true := by
  refine shaped_list (n := 0) (fun d hd => ?_) (by decide)
  obtain ⟨z, _, rfl⟩ := List.mem_map.mp hd
  exact ⟨rfl, Nat.le_refl _⟩
theorem eqv_ints (xs : List Int) : PyData.eqv (.list (xs.map .int)) (.list []) = decide (xs = []) := by
  cases xs with
  | nil => rfl
  | cons x xs => rfl
theorem seq0 {n : Nat} (h : 0 < n) : PySem.seqIndex? 0 n = some 0 := by
  unfold PySem.seqIndex?
  simp
  omega
theorem ix0 {n : Nat} (h : 0 < n) : ixN n 0 = some 0 := by
  unfold ixN
  simp
  omega
def spLot : Sp := fun vs H Q _ => ∃ p q many n, vs = [.ref p, .int many] ∧ UrnAt n p q H ∧ n ≤ 1000000000 ∧ 1 ≤ many ∧ many < 2 ^ 1000 ∧ ∀ H' r, 0 ≤ r → r < many → UrnAt (n + 1) p q H' → Frm [p, q] H H' → Q (.int r) H'
def spUrn (K : PySem.W.Frag) : Sp := fun vs H Q _ => ∃ (a : Addr) (ns : List Int), vs = [.ref a] ∧ SqL K H a (ns.map V.int) ∧ ns.length ≤ 63 ∧ ∀ H' p q, H p = none → H q = none → UrnAt 0 p q H' → Ext H H' → Q (.ref p) H'
section
variable {P : Program} {w : World} {K : PySem.W.Frag} {mg : Str → Option Value} {base : Heap} {cL cX : Addr}
theorem ok_lot (T : Tz K mg cL cX) (D : Dx K mg "_law_lot" s__law_lot ["urn", "many"]) : Cal P w K mg base 1 "_law_lot" spLot [] := by
  refine cal_of D sc__law_lot (fun vs H Q E h => ?_) (fun f cdv A o s H vs Q E hr h => ?_)
  · obtain ⟨p, q, many, n, rfl, _⟩ := h; rfl
  · obtain ⟨p, q, many, n, rfl, ⟨xs0, s0, z0, hp0, hq0, hx0, hl0, hs0, hs1, hz0, hz1⟩, hn, hm1, hm2, k⟩ := h
    refine ⟨_, (pss_cons (ps_while PassesOwn.never (PW.pt (pw_and (qt (op_neD hr.units) (pe_ix m_ix (mv 0) pe_int (fun _ _ => rfl)) (pe_lst pa_nil) (nomark _)) (pw_and1 (qt m_lt (pe_ix m_ix (pe_ix m_ix (mv 0) pe_int (fun _ _ => rfl)) pe_int (fun _ _ => rfl)) pe_int (nomark _))))) (pss_one (ps_expr (pe_bm PySem.F.plainAttrs_list PySem.F.slot_list_pop PySem.F.type_list_pop mt_popAt (pe_ix m_ix (mv 0) pe_int (fun _ _ => rfl)) (pa_cons pe_int pa_nil)))))
    (pss_cons (ps_if (qt (op_neD hr.units) (pe_ix m_ix (mv 0) pe_int (fun _ _ => rfl)) (pe_lst pa_nil) (nomark _)) (pss_cons (ps_set (i := 2) sc__law_lot.nd rfl (Or.inl rfl) (pe_op m_mod (pe_ix m_ix (pe_ix m_ix (mv 0) pe_int (fun _ _ => rfl)) pe_int (fun _ _ => rfl)) (mv 1)))
    (pss_cons (ps_asg (pe_op m_div (pe_ix m_ix (pe_ix m_ix (mv 0) pe_int (fun _ _ => rfl)) pe_int (fun _ _ => rfl)) (mv 1)) (pg_sub (pe_ix m_ix (mv 0) pe_int (fun _ _ => rfl)) pe_int set_list))
    (pss_one (ps_ret (mv 2))))) pss_nil)
    (pss_cons (ps_asg (pe_op m_add (pe_ix m_ix (mv 0) pe_int (fun _ _ => rfl)) pe_int) (pg_sub (mv 0) pe_int set_list))
    (pss_cons (ps_set (i := 3) sc__law_lot.nd rfl (Or.inl rfl) (pe_op m_add (pe_op m_mul (pe_ix m_ix (mv 0) pe_int (fun _ _ => rfl)) (pe_ix m_ix (mv 0) pe_int (fun _ _ => rfl))) (pe_op m_mul (pe_op m_mul pe_int (pe_ix m_ix (mv 0) pe_int (fun _ _ => rfl))) (pe_ix m_ix (mv 0) pe_int (fun _ _ => rfl)))))
    (pss_cons (ps_asg (pe_op m_mod (pe_op m_add (mv 3) (pe_op m_mul pe_int (pe_ix m_ix (mv 0) pe_int (fun _ _ => rfl)))) pe_int) (pg_sub (mv 0) pe_int set_list))
    (pss_cons (ps_set (i := 3) sc__law_lot.nd rfl (Or.inl rfl) (pe_op m_add (pe_op m_mul (pe_ix m_ix (mv 0) pe_int (fun _ _ => rfl)) (pe_ix m_ix (mv 0) pe_int (fun _ _ => rfl))) (pe_op m_mul pe_int (pe_ix m_ix (mv 0) pe_int (fun _ _ => rfl)))))
    (pss_one (ps_ret (pe_op m_mod (pe_op m_div (pe_op m_add (pe_op m_mul (pe_ix m_ix (mv 0) pe_int (fun _ _ => rfl)) (pe_op m_pow pe_int pe_int)) (pe_op m_mod (mv 3) pe_int)) (pe_op m_pow pe_int pe_int)) (mv 1)))))))))), ?_⟩
    refine ⟨fun m σ H' => σ = [some (.ref p), some (.int many), none, none] ∧ ∃ xs, xs.length = m ∧ H' p = some (.lst [.ref q, .int s0, .int z0]) ∧ H' q = some (.lst (xs.map V.int)) ∧ (∀ x ∈ xs, 0 ≤ x) ∧ xs.length ≤ 40 ∧ Frm [p, q] H H', ⟨xs0.length, rfl, xs0, rfl, hp0, hq0, hx0, hl0, Frm.refl⟩, ?_⟩
    rintro m σ H1 ⟨rfl, xs, rfl, hp, hq, hx, hl, fr⟩
    have pq : p ≠ q := UrnAt.ne ⟨xs0, s0, z0, hp0, hq0, hx0, hl0, hs0, hs1, hz0, hz1⟩
    refine ⟨_, _, .inl (SqL.of hp), atI_nat (j := 0) rfl, Nat.zero_le _, fun t1 n1 => ?_⟩
    have x1 := Ext.upd (o := .lst []) n1
    have hp1 := x1 _ _ hp
    have hq1 := x1 _ _ hq
    have fr1 := fr.trans (Frm.ext x1)
    have c1 : (upd H1 t1 (.lst [])) t1 = some (.lst []) := upd_same
    generalize upd H1 t1 (.lst []) = H2 at hp1 hq1 fr1 c1 ⊢
    refine ⟨_, _, .lst (SqL.of hq1) (dp_ints xs), .lst (SqL.of c1) .nil, sh_ints xs, sh_ints [], ?_⟩
    rw [eqv_ints]
    have done_ : ∀ {G : Hp} {ys : List Int}, (∀ x ∈ ys, 0 ≤ x) → ys.length ≤ 40 → G p = some (.lst [.ref q, .int s0, .int z0]) → G q = some (.lst (ys.map V.int)) → Frm [p, q] H G → True := fun _ _ _ _ _ => trivial
    by_cases e0 : xs = []
    · rw [decide_eq_true e0]
      refine ifF (by rfl) ?_
      refine ifF (by rfl) ?_
      -- behind the cells
      refine ⟨_, _, .inl (SqL.of hp1), atI_nat (j := 0) rfl, Nat.zero_le _, fun t2 n2 => ?_⟩
      have x2 := Ext.upd (o := .lst []) n2
      have hp2 := x2 _ _ hp1
      have hq2 := x2 _ _ hq1
      have fr2 := fr1.trans (Frm.ext x2)
      have c2 : (upd H2 t2 (.lst [])) t2 = some (.lst []) := upd_same
      generalize upd H2 t2 (.lst []) = H3 at hp2 hq2 fr2 c2 ⊢
      refine ⟨_, _, .lst (SqL.of hq2) (dp_ints xs), .lst (SqL.of c2) .nil, sh_ints xs, sh_ints [], ?_⟩
      rw [eqv_ints, decide_eq_true e0]
      refine ifF (by rfl) ?_
      -- mixed numbers
      refine ⟨_, _, .inl (SqL.of hp2), atI_nat (j := 2) rfl, p, _, _, 2, rfl, rfl, hp2, rfl, ?_⟩
      have hp3 : (upd H3 p (.lst ([V.ref q, V.int s0, V.int z0].set 2 (.int (z0 + 1))))) p = some (.lst [.ref q, .int s0, .int (z0 + 1)]) := upd_same
      have hq3 : (upd H3 p (.lst ([V.ref q, V.int s0, V.int z0].set 2 (.int (z0 + 1))))) q = some (.lst (xs.map V.int)) := by rw [upd_ne pq.symm]; exact hq2
      have fr3 := fr2.upd (p := p) (o := .lst ([V.ref q, V.int s0, V.int z0].set 2 (.int (z0 + 1)))) List.mem_cons_self
      generalize upd H3 p (.lst ([V.ref q, V.int s0, V.int z0].set 2 (.int (z0 + 1)))) = H4 at hp3 hq3 fr3 ⊢
      have b0 : 0 ≤ z0 + 1 := by omega
      have b1 : z0 + 1 < 2 ^ 64 := by omega
      have b2 : -(2 ^ 64) < z0 + 1 := by omega
      generalize hz : z0 + 1 = z at hp3 b0 b1 b2 ⊢
      refine ⟨_, _, .inl (SqL.of hp3), atI_nat (j := 1) rfl, _, _, .inl (SqL.of hp3), atI_nat (j := 1) rfl, mulW hs0 hs1 hs0 hs1 (by decide) (by decide) (by decide), _, _, .inl (SqL.of hp3), atI_nat (j := 2) rfl, mulL (by decide) (by decide), _, _, .inl (SqL.of hp3), atI_nat (j := 2) rfl, mulR b2 b1, ?_⟩
      dsimp only [mI0, gName, List.set]
      generalize s0 * s0 + 60101 * z * z = S1
      refine ⟨_, _, .inl (SqL.of hp3), atI_nat (j := 2) rfl, mulL (by decide) (by decide), (by show (0 : Int) < MOD; decide), p, _, _, 1, rfl, rfl, hp3, rfl, ?_⟩
      obtain ⟨m0, m1⟩ := mod_lt (a := S1 + 29 * z) (b := MOD) (by decide)
      generalize hs : (S1 + 29 * z) % MOD = s1 at m0 m1
      have hs' : (S1 + 29 * z) % 170141183460469231731687303715884105727 = s1 := hs
      dsimp only [List.set]
      rw [hs']
      have m2 : s1 < 2 ^ 127 := Int.lt_trans m1 (by decide)
      have hp4 : (upd H4 p (.lst [.ref q, .int s1, .int z])) p = some (.lst [.ref q, .int s1, .int z]) := upd_same
      have hq4 : (upd H4 p (.lst [.ref q, .int s1, .int z])) q = some (.lst (xs.map V.int)) := by rw [upd_ne pq.symm]; exact hq3
      have fr4 := fr3.upd (p := p) (o := .lst [.ref q, .int s1, .int z]) List.mem_cons_self
      generalize upd H4 p (.lst [.ref q, .int s1, .int z]) = H5 at hp4 hq4 fr4 ⊢
      refine ⟨_, _, .inl (SqL.of hp4), atI_nat (j := 1) rfl, _, _, .inl (SqL.of hp4), atI_nat (j := 1) rfl, mulW m0 m2 m0 m2 (by decide) (by decide) (by decide), _, _, .inl (SqL.of hp4), atI_nat (j := 2) rfl, mulL (by decide) (by decide), ?_⟩
      refine ⟨_, _, .inl (SqL.of hp4), atI_nat (j := 1) rfl, ⟨by decide, by decide, by decide⟩, mulW m0 m2 (b := 127) (by decide) (by decide) (by decide) (by decide) (by decide), (by show (0 : Int) < MOD; decide), ⟨by decide, by decide, by decide⟩, ⟨by decide, by decide +kernel⟩, by omega, ?_⟩
      exact k _ _ (mod_lt (by omega)).1 (mod_lt (by omega)).2 ⟨xs, s1, z, hp4, hq4, hx, hl, m0, m2, b0, by omega⟩ fr4
    · rw [decide_eq_false e0]
      refine ifT (by rfl) ?_
      obtain ⟨x, ys, rfl⟩ : ∃ x ys, xs = x :: ys := by
        cases xs with
        | nil => exact absurd rfl e0
        | cons x ys => exact ⟨x, ys, rfl⟩
      refine ⟨_, _, .inl (SqL.of hp1), atI_nat (j := 0) rfl, _, _, .inl (SqL.of hq1), atI_nat (j := 0) rfl, ?_⟩
      refine ifD (p := x < 2) (fun e1 => ?_) (fun e1 => ?_)
      · refine ⟨fun σ H' => σ = [some (.ref p), some (.int many), none, none] ∧ ∃ zs : List Int, zs.length = ys.length ∧ H' p = some (.lst [.ref q, .int s0, .int z0]) ∧ H' q = some (.lst (zs.map V.int)) ∧ (∀ x ∈ zs, 0 ≤ x) ∧ zs.length ≤ 40 ∧ Frm [p, q] H H', fun σ' H' w => ⟨ys.length, by simp, w⟩, ?_⟩
        refine ⟨_, _, .inl (SqL.of hp1), atI_nat (j := 0) rfl, .inl ⟨rfl, _, SqL.of hq1⟩, ?_⟩
        refine ⟨q, (x :: ys).map V.int, 0, 0, .int x, rfl, rfl, hq1, by decide, by decide, seq0 (by simp), rfl, ?_⟩
        refine ⟨rfl, ys, rfl, by rw [upd_ne pq]; exact hp1, by rw [upd_same]; rfl, fun z hz => hx z (List.mem_cons_of_mem _ hz), by simp at hl; omega, fr1.upd (List.mem_cons_of_mem _ List.mem_cons_self)⟩
      · -- a digit of the cell
        have hx0' := hx x List.mem_cons_self
        refine ⟨_, _, .inl (SqL.of hp1), atI_nat (j := 0) rfl, Nat.zero_le _, fun t2 n2 => ?_⟩
        have x2 := Ext.upd (o := .lst []) n2
        have hp2 := x2 _ _ hp1
        have hq2 := x2 _ _ hq1
        have fr2 := fr1.trans (Frm.ext x2)
        have c2 : (upd H2 t2 (.lst [])) t2 = some (.lst []) := upd_same
        generalize upd H2 t2 (.lst []) = H3 at hp2 hq2 fr2 c2 ⊢
        refine ⟨_, _, .lst (SqL.of hq2) (dp_ints (x :: ys)), .lst (SqL.of c2) .nil, sh_ints (x :: ys), sh_ints [], ?_⟩
        rw [eqv_ints, decide_eq_false e0]
        refine ifT (by rfl) ?_
        refine ⟨_, _, .inl (SqL.of hp2), atI_nat (j := 0) rfl, _, _, .inl (SqL.of hq2), atI_nat (j := 0) rfl, by omega, ?_⟩
        refine ⟨_, _, .inl (SqL.of hp2), atI_nat (j := 0) rfl, _, _, .inl (SqL.of hq2), atI_nat (j := 0) rfl, cdv_of _ hm1 hm2 (by decide) (by decide), ?_⟩
        refine ⟨_, _, .inl (SqL.of hp2), atI_nat (j := 0) rfl, q, _, _, 0, rfl, rfl, hq2, ix0 (by simp), ?_⟩
        refine k _ _ (mod_lt (by omega)).1 (mod_lt (by omega)).2 ⟨(x / many) :: ys, s0, z0, by rw [upd_ne pq]; exact hp2, upd_same, ?_, ?_, hs0, hs1, hz0, by omega⟩ (fr2.upd (List.mem_cons_of_mem _ List.mem_cons_self))
        · intro z hz
          rcases List.mem_cons.mp hz with rfl | hz
          · exact Int.ediv_nonneg hx0' (by omega)
          · exact hx z (List.mem_cons_of_mem _ hz)
        · simpa using hl
end
end NB

set_option Elab.async false
set_option linter.all false
set_option maxRecDepth 100000
set_option maxHeartbeats 4000000
/-! K4v (k81): an urn made, names and entries drawn -/
namespace NB
open PySem PySem.Spec L2
open PyProof.Rows (envOfC)
open C8 (pe_c pe_mk pe_mt pe_mt0 pe_gc fnScope fnBody fnArgs fnScope_by Cal Met Mak)
theorem atI_at {α : Type} {xs : List α} {k : Int} {v : α} (h0 : 0 ≤ k) (h : xs[k.toNat]? = some v) : atI xs k = some v := by
  have e : k = ((k.toNat : Nat) : Int) := by omega
  rw [e]
  exact atI_nat h
theorem tl_one (x : Nat) : tl (⟨#[x]⟩ : Str) = [x] := rfl
theorem map_take_int (xs : List Int) (n : Nat) : (xs.map V.int).take n = (xs.take n).map V.int := by rw [List.map_take]
section
variable {P : Program} {w : World} {K : PySem.W.Frag} {mg : Str → Option Value} {base : Heap} {cL cX : Addr}
theorem ok_urn (T : Tz K mg cL cX) (D : Dx K mg "_law_urn" s__law_urn ["script"]) : Cal P w K mg base 1 "_law_urn" (spUrn K) [] := by
  refine cal_of D sc__law_urn (fun vs H Q E h => ?_) (fun f cdv A o s H vs Q E hr h => ?_)
  · obtain ⟨a, ns, rfl, _⟩ := h; rfl
  · obtain ⟨a, ns, rfl, hS, hn, k⟩ := h
    refine ⟨_, (pss_cons (ps_set (i := 1) sc__law_urn.nd rfl (Or.inl rfl) (pe_op m_pow pe_int pe_int))
    (pss_cons (ps_for PassesOwn.never rfl (pi_list (pe_slice sl_list (mv 0) po_none (po_some pe_int))) (pg_name (i := 2) sc__law_urn.nd rfl (Or.inl rfl))
    (pss_one (ps_set (i := 1) sc__law_urn.nd rfl (Or.inl rfl) (pe_op m_mod (pe_op m_add (pe_op m_mul (mv 1) pe_int) (mv 2)) pe_int))))
    (pss_one (ps_ret (pe_lst (pa_cons (pe_lc (own := [("cell", 2)]) (g := gName 2) rfl sc__law_urn.nd (pi_list (pe_slice sl_list (mv 0) po_none (po_some pe_int))) (blkOk_by (own := [("cell", 2)]) (N := ["script", "swirl", "cell"]) (sc := fnScope s__law_urn) (by decide +kernel)) (fun _ _ _ _ _ => (pg_name (i := 2) sc__law_urn.nd rfl (Or.inl rfl))) (fun _ _ _ _ _ => (pts_one (qt m_ge (pe_callB call_abs (by rfl) T.n_abs (by decide +kernel) (pa_cons (mv 2) pa_nil)) (pe_op m_pow pe_int pe_int) (nomark _)))) (fun _ _ _ _ _ => (pe_callB call_abs (by rfl) T.n_abs (by decide +kernel) (pa_cons (mv 2) pa_nil)))) (pa_cons (mv 1) (pa_cons pe_int pa_nil)))))))), ?_⟩
    refine ⟨⟨by decide, by decide, by decide⟩, _, rfl, a, _, rfl, hS, fun t nt => ?_⟩
    rw [cut_to (by decide), map_take_int]
    have x1 := Ext.upd (o := .lst ((ns.take (40 : Int).toNat).map V.int)) nt
    have ht : (upd H t (.lst ((ns.take (40 : Int).toNat).map V.int))) t = some (.lst ((ns.take (40 : Int).toNat).map V.int)) := upd_same
    generalize upd H t (.lst ((ns.take (40 : Int).toNat).map V.int)) = H1 at x1 ht ⊢
    refine ⟨t, rfl, ⟨_, SqL.of ht⟩, for_list (K := K) (a := t) (xs := (ns.take (40 : Int).toNat).map V.int) (fun i σ H' => ∃ s v2, σ = [some (.ref a), some (.int s), v2] ∧ 0 ≤ s ∧ s < 2 ^ 127 ∧ H' = H1) ⟨_, _, rfl, by decide, by decide, rfl⟩ ?_ ?_ ?_⟩
    · rintro i σ H' _ ⟨s, v2, rfl, _, _, rfl⟩; exact SqL.of ht
    · rintro i y σ H' hy ⟨s, v2, rfl, s0, s1, rfl⟩
      obtain ⟨c, hc, rfl⟩ := map_at hy
      refine ⟨mulR (by decide) (by decide), (by show (0 : Int) < MOD; decide), _, _, rfl, ?_, ?_, rfl⟩
      · exact (mod_lt (b := MOD) (by decide)).1
      · exact Int.lt_trans (mod_lt (b := MOD) (by decide)).2 (by decide)
    · rintro σ H' ⟨s, v2, rfl, s0, s1, rfl⟩
      refine ⟨_, rfl, a, _, rfl, SqL.ext hS x1, fun t2 nt2 => ?_⟩
      rw [cut_to (by decide), map_take_int]
      have x2' := Ext.upd (o := .lst ((ns.take (40 : Int).toNat).map V.int)) nt2
      have x2 := x1.trans x2'
      have ht2 : (upd H' t2 (.lst ((ns.take (40 : Int).toNat).map V.int))) t2 = some (.lst ((ns.take (40 : Int).toNat).map V.int)) := upd_same
      generalize upd H' t2 (.lst ((ns.take (40 : Int).toNat).map V.int)) = H2 at x2 ht2 ⊢
      refine ⟨t2, rfl, ⟨_, SqL.of ht2⟩, fun d hd => lc_list (K := K) (a := t2) (xs := (ns.take (40 : Int).toNat).map V.int) (fun i H' => Ext H2 H' ∧ ∃ zs : List Int, H' d = some (.lst (zs.map V.int)) ∧ zs.length ≤ i ∧ ∀ z ∈ zs, 0 ≤ z) ⟨Ext.upd hd, [], upd_same, Nat.le_refl _, (fun _ h => nomatch h)⟩ (fun i H1 _ t => SqL.of (t.1 _ _ ht2)) ?_ ?_⟩
      · rintro i y H3 hy ⟨x3, zs, hz, hl, hp⟩
        obtain ⟨c, hc, rfl⟩ := map_at hy
        have hi : i < 40 := by
          have := (List.getElem?_eq_some_iff.mp hc).1
          rw [List.length_take] at this
          have e : (40 : Int).toNat = 40 := rfl
          omega
        refine ⟨rfl, ?_⟩
        refine ⟨_, rfl, ⟨by decide, by decide, by decide⟩, ?_⟩
        refine ifD (fun h => ?_) (fun h => ?_)
        · refine ⟨_, rfl, _, hz, ?_, put_ext x3 hd, zs ++ [if c < 0 then -c else c], ?_, ?_, ?_⟩
          · rw [List.length_map]; exact Nat.lt_of_le_of_lt (show zs.length ≤ 40 by omega) (by decide)
          · rw [upd_same, List.map_append]; rfl
          · rw [List.length_append, List.length_singleton]; omega
          · intro z hz2
            rcases List.mem_append.mp hz2 with hz2 | hz2
            · exact hp z hz2
            · rw [List.mem_singleton.mp hz2]; split <;> omega
        · exact ⟨x3, zs, hz, by omega, hp⟩
      · rintro H3 ⟨x3, zs, hz, hl, hp⟩
        refine ⟨(by show 3 ≤ sizeLine; decide), fun p np => ?_⟩
        have x4 := Ext.upd (o := .lst [.ref d, .int s, .int 0]) np
        refine k _ p d (Ext.free (x2.trans x3) np) (Ext.free x2 hd) ⟨zs, s, 0, upd_same, x4 _ _ hz, hp, ?_, s0, s1, by decide, by decide⟩ ((x2.trans x3).trans x4)
        have e : (40 : Int).toNat = 40 := rfl
        rw [List.length_map, List.length_take] at hl
        omega
end
def spNamesL : Sp := fun vs H Q _ => ∃ p q most n, vs = [.ref p, .int most] ∧ UrnAt n p q H ∧ n ≤ 999990000 ∧ 1 ≤ most ∧ most ≤ 12 ∧ ∀ H' a ns, H a = none → H' a = some (.lst (ns.map V.str)) → CrewOk ns → UrnAt (n + 200) p q H' → Frm [p, q] H H' → Q (.ref a) H'
/-- the i-th name ends with the i-th letter -/
structure CrewS (ns : List Str) : Prop where
  nam : ∀ z ∈ ns, nameB z = true
  last : ∀ (j : Nat) (z : Str), ns[j]? = some z → ∃ r, tl z = r ++ [97 + j]
theorem CrewS.nd {ns : List Str} (h : CrewS ns) : ns.Nodup := by
  rw [List.Nodup, List.pairwise_iff_getElem]
  intro i j hi hj lt e
  obtain ⟨r1, e1⟩ := h.last i _ (List.getElem?_eq_getElem hi)
  obtain ⟨r2, e2⟩ := h.last j _ (List.getElem?_eq_getElem hj)
  rw [e, e2] at e1
  have := congrArg List.getLast? e1
  rw [List.getLast?_concat, List.getLast?_concat] at this
  have := Option.some.inj this
  omega
theorem CrewS.snoc {ns : List Str} {z : Str} {r : List Nat} (h : CrewS ns) (hz : nameB z = true) (e : tl z = r ++ [97 + ns.length]) : CrewS (ns ++ [z]) := by
  refine ⟨fun y hy => ?_, fun j y hy => ?_⟩
  · rcases List.mem_append.mp hy with hy | hy
    · exact h.nam y hy
    · rw [List.mem_singleton.mp hy]; exact hz
  · by_cases lt : j < ns.length
    · rw [List.getElem?_append_left lt] at hy
      exact h.last j y hy
    · have hj : j < (ns ++ [z]).length := (List.getElem?_eq_some_iff.mp hy).1
      rw [List.length_append, List.length_singleton] at hj
      obtain rfl : j = ns.length := by omega
      rw [List.getElem?_concat_length] at hy
      obtain rfl := Option.some.inj hy
      exact ⟨r, e⟩
theorem lett_at : ∀ r : Nat, r < 26 → ("abcdefghijklmnopqrstuvwxyz" : Str).cps.toList[r]? = some (97 + r) := by decide +kernel
theorem lett12_at : ∀ r : Nat, r < 12 → ("abcdefghijkl" : Str).cps.toList[r]? = some (97 + r) := by decide +kernel
theorem nameB_of {z : Str} {l : List Nat} (e : tl z = l) (h1 : 1 ≤ l.length) (h2 : l.length ≤ 8) (h : ∀ c ∈ l, 97 ≤ c ∧ c ≤ 122) : nameB z = true := by
  have el : z.length = l.length := by rw [len_tl', e]
  unfold nameB
  simp only [Bool.and_eq_true, decide_eq_true_eq, List.all_eq_true]
  exact ⟨⟨by omega, by omega⟩, fun c hc => h c (by rw [← e]; exact hc)⟩
section
variable {P : Program} {w : World} {K : PySem.W.Frag} {mg : Str → Option Value} {base : Heap} {cL cX : Addr}
theorem ok_namesL (T : Tz K mg cL cX) (D : Dx K mg "_law_names" s__law_names ["urn", "most"]) (c__law_lot : Cal P w K mg base 1 "_law_lot" spLot []) : Cal P w K mg base 2 "_law_names" spNamesL [] := by
  refine cal_of D sc__law_names (fun vs H Q E h => ?_) (fun f cdv A o s H vs Q E hr h => ?_)
  · obtain ⟨p, q, most, n, rfl, _⟩ := h; rfl
  · obtain ⟨p, q, most, n, rfl, ur, hn, m1, m2, k⟩ := h
    refine ⟨_, (pss_cons (ps_set (i := 2) sc__law_names.nd rfl (Or.inl rfl) (pe_lst pa_nil))
    (pss_cons (ps_for PassesOwn.never rfl (pi_range1 (by rfl) T.n_range (pa_cons (pe_op m_add pe_int (pe_c c__law_lot hr (by decide) rfl (pa_cons (mv 0) (pa_cons (mv 1) pa_nil)))) pa_nil)) (pg_name (i := 3) sc__law_names.nd rfl (Or.inl rfl))
    (pss_cons (ps_par (i := 4) (j := 5) rfl sc__law_names.nd rfl rfl (by decide) rfl rfl (pa_cons (pe_c c__law_lot hr (by decide) rfl (pa_cons (mv 0) (pa_cons pe_int pa_nil))) (pa_cons pe_str pa_nil)) (by rfl))
    (pss_cons (ps_for PassesOwn.never rfl (pi_range1 (by rfl) T.n_range (pa_cons (mv 4) pa_nil)) (pg_name (i := 6) sc__law_names.nd rfl (Or.inl rfl))
    (pss_one (ps_set (i := 5) sc__law_names.nd rfl (Or.inl rfl) (pe_op op_add_str (mv 5) (pe_ix ix_str pe_str (pe_c c__law_lot hr (by decide) rfl (pa_cons (mv 0) (pa_cons pe_int pa_nil))) (fun _ _ => rfl))))))
    (pss_one (ps_expr (pe_bm PySem.F.plainAttrs_list PySem.F.slot_list_append PySem.F.type_list_append mt_append (mv 2) (pa_cons (pe_op op_add_str (mv 5) (pe_ix ix_str pe_str (mv 3) (fun _ _ => rfl))) pa_nil)))))))
    (pss_one (ps_ret (mv 2))))), ?_⟩
    refine ⟨Nat.zero_le _, fun a na => ?_⟩
    have x1 := Ext.upd (o := .lst []) na
    have ha1 : (upd H a (.lst [])) a = some (.lst []) := upd_same
    have ur1 := ur.keep x1
    have apq := ur.ne_p na
    generalize upd H a (.lst []) = H1 at x1 ha1 ur1 ⊢
    refine ⟨p, q, most, n, rfl, ur1, by omega, m1, Int.lt_of_le_of_lt m2 (by decide), fun H2 r r0 r1 ur2 fr2 => ?_⟩
    have ha2 := fr2 _ _ ha1 (nin2 apq)
    refine ⟨_, rfl, by omega, by omega, for_range (lo := 0) (n := (1 + r).toNat) (fun i σ H' => ∃ v3 v4 v5 v6, σ = [some (.ref p), some (.int most), some (.ref a), v3, v4, v5, v6] ∧ ∃ ns, H' a = some (.lst (ns.map V.str)) ∧ ns.length = i ∧ CrewS ns ∧ UrnAt (n + 1 + 8 * i) p q H' ∧ Frm [p, q] H H') ⟨_, _, _, _, rfl, [], ha2, rfl, ⟨(fun _ h => nomatch h), (fun _ _ h => nomatch h)⟩, ur2, (Frm.ext x1).trans fr2⟩ ?_ ?_⟩
    · clear ha2 ur2 fr2 ur1 ha1 x1
      rintro i σ H3 hi ⟨v3, v4, v5, v6, rfl, ns, ha3, rfl, cs, ur3, fr3⟩
      refine ⟨p, q, 8, _, rfl, ur3, by omega, by decide, by decide, fun H4 m h0 h1 ur4 fr4 => ?_⟩
      have ha4 := fr4 _ _ ha3 (nin2 apq)
      refine ⟨_, _, rfl, ?_⟩
      refine ⟨_, rfl, by omega, by omega, for_range (lo := 0) (n := m.toNat) (fun j σ H' => ∃ v6 z, σ = [some (.ref p), some (.int most), some (.ref a), some (.int (0 + ns.length)), some (.int m), some (.str z), v6] ∧ (tl z).length = j ∧ (∀ c ∈ tl z, 97 ≤ c ∧ c ≤ 122) ∧ H' a = some (.lst (ns.map V.str)) ∧ UrnAt (n + 1 + 8 * ns.length + 1 + j) p q H' ∧ Frm [p, q] H H') ⟨_, _, rfl, rfl, (fun _ h => nomatch h), ha4, ur4, fr3.trans fr4⟩ ?_ ?_⟩
      · clear ha4 ur4 fr4 ha3 ur3 fr3
        rintro j σ H5 hj ⟨v6, z, rfl, hl, hc, ha5, ur5, fr5⟩
        refine ⟨p, q, 26, _, rfl, ur5, by omega, by decide, by decide, fun H6 c c0 c1 ur6 fr6 => ?_⟩
        have lz : z.length ≤ 7 := by rw [len_tl']; omega
        refine ⟨_, c, 97 + c.toNat, rfl, rfl, by decide +kernel, atI_at c0 (lett_at c.toNat (by omega)), z, ⟨#[97 + c.toNat]⟩, rfl, rfl, Nat.le_trans (show z.length + 1 ≤ 8 by omega) (by decide), ?_⟩
        refine ⟨_, z ++ ⟨#[97 + c.toNat]⟩, rfl, ?_, ?_, fr6 _ _ ha5 (nin2 apq), ur6.mono (by omega), fr5.trans fr6⟩
        · rw [tl_app, tl_one, List.length_append, List.length_singleton, hl]
        · intro x hx
          rw [tl_app, tl_one] at hx
          rcases List.mem_append.mp hx with hx | hx
          · exact hc x hx
          · rw [List.mem_singleton.mp hx]; omega
      · clear ha4 ur4 fr4 ha3 ur3 fr3
        rintro σ H5 ⟨v6, z, rfl, hl, hc, ha5, ur5, fr5⟩
        have lz : z.length ≤ 7 := by rw [len_tl']; omega
        have li : ns.length < 12 := by omega
        have et : tl (z ++ ⟨#[97 + ns.length]⟩) = tl z ++ [97 + ns.length] := by rw [tl_app, tl_one]
        refine ⟨.inl ⟨rfl, _, SqL.of ha5⟩, ?_⟩
        have at12 : atI ("abcdefghijkl" : Str).cps.toList (0 + (ns.length : Int)) = some (97 + ns.length) := by
          refine atI_at (by omega) ?_
          have e : (0 + (ns.length : Int)).toNat = ns.length := by omega
          rw [e]
          exact lett12_at _ li
        refine ⟨_, _, 97 + ns.length, rfl, rfl, by decide +kernel, at12, z, ⟨#[97 + ns.length]⟩, rfl, rfl, Nat.le_trans (show z.length + 1 ≤ 8 by omega) (by decide), ?_⟩
        refine ⟨a, _, _, rfl, rfl, ha5, by rw [List.length_map]; exact Nat.lt_of_lt_of_le li (by decide), ?_⟩
        refine ⟨_, _, _, _, rfl, ns ++ [z ++ ⟨#[97 + ns.length]⟩], by rw [upd_same, List.map_append]; rfl, by rw [List.length_append, List.length_singleton], cs.snoc (nameB_of et ?_ ?_ ?_) et, ?_, fr5.put na⟩
        · rw [List.length_append, List.length_singleton]; omega
        · rw [List.length_append, List.length_singleton]; omega
        · intro x hx
          rcases List.mem_append.mp hx with hx | hx
          · exact hc x hx
          · rw [List.mem_singleton.mp hx]; omega
        · obtain ⟨xs, s, w, g1, g2, g3⟩ := ur5.mono (show n + 1 + 8 * ns.length + 1 + m.toNat ≤ n + 1 + 8 * (ns.length + 1) by omega)
          exact ⟨xs, s, w, by rw [upd_ne apq.1.symm]; exact g1, by rw [upd_ne apq.2.symm]; exact g2, g3⟩
    · clear ha2 ur2 fr2 ur1 ha1 x1
      rintro σ H3 ⟨v3, v4, v5, v6, rfl, ns, ha3, hl, cs, ur3, fr3⟩
      exact k H3 a ns na ha3 ⟨by omega, by omega, cs.nam, cs.nd⟩ (ur3.mono (by omega)) fr3
end
def spRowsL : Sp := fun vs H Q _ => ∃ p q a many ns n, vs = [.ref p, .ref a, .int many] ∧ UrnAt n p q H ∧ n ≤ 999990000 ∧ H a = some (.lst (ns.map V.str)) ∧ CrewOk ns ∧ 0 ≤ many ∧ many ≤ 200 ∧
  ∀ H' l es xs, H l = none → H' l = some (.lst xs) → EntL H' es xs → EntsOk ns es → (∀ e ∈ es, e.2 < 10 ^ 60) → UrnAt (n + 1000) p q H' → Frm [p, q] H H' → Q (.ref l) H'
section
variable {P : Program} {w : World} {K : PySem.W.Frag} {mg : Str → Option Value} {base : Heap} {cL cX : Addr}
theorem ok_rowsL (T : Tz K mg cL cX) (D : Dx K mg "_law_rows" s__law_rows ["urn", "names", "many"]) (c__law_lot : Cal P w K mg base 1 "_law_lot" spLot []) : Cal P w K mg base 2 "_law_rows" spRowsL [] := by
  refine cal_of D sc__law_rows (fun vs H Q E h => ?_) (fun f cdv A o s H vs Q E hr h => ?_)
  · obtain ⟨p, q, a, many, ns, n, rfl, _⟩ := h; rfl
  · obtain ⟨p, q, a, many, ns, n, rfl, ur, hn, ha, cr, m0, m1, k⟩ := h
    refine ⟨_, (pss_cons (ps_set (i := 3) sc__law_rows.nd rfl (Or.inl rfl) (pe_lst pa_nil))
    (pss_cons (ps_for PassesOwn.never rfl (pi_range1 (by rfl) T.n_range (pa_cons (mv 2) pa_nil)) (pg_name (i := 4) sc__law_rows.nd rfl (Or.inl rfl))
    (pss_cons (ps_set (i := 5) sc__law_rows.nd rfl (Or.inl rfl) (pe_ix m_ix (pe_lst (pa_cons (pe_c c__law_lot hr (by decide) rfl (pa_cons (mv 0) (pa_cons pe_int pa_nil))) (pa_cons (pe_c c__law_lot hr (by decide) rfl (pa_cons (mv 0) (pa_cons (pe_op m_pow pe_int pe_int) pa_nil))) (pa_cons (pe_op m_sub (pe_op m_pow pe_int pe_int) pe_int) (pa_cons pe_int pa_nil))))) (pe_c c__law_lot hr (by decide) rfl (pa_cons (mv 0) (pa_cons pe_int pa_nil))) (fun _ _ => rfl)))
    (pss_one (ps_expr (pe_bm PySem.F.plainAttrs_list PySem.F.slot_list_append PySem.F.type_list_append mt_append (mv 3) (pa_cons (pe_tup (pa_cons (pe_ix m_ix (mv 1) (pe_c c__law_lot hr (by decide) rfl (pa_cons (mv 0) (pa_cons (pe_callB call_len (by rfl) T.n_len (by decide +kernel) (pa_cons (mv 1) pa_nil)) pa_nil))) (fun _ _ => rfl)) (pa_cons (mv 5) pa_nil))) pa_nil))))))
    (pss_one (ps_ret (mv 3))))), ?_⟩
    have apq := ur.strs ha cr.one
    have h12 := cr.few
    have hn1 := cr.one
    refine ⟨Nat.zero_le _, fun l nl => ?_⟩
    have x1 := Ext.upd (o := .lst []) nl
    have hl1 : (upd H l (.lst [])) l = some (.lst []) := upd_same
    have ur1 := ur.keep x1
    have lpq := ur.ne_p nl
    generalize upd H l (.lst []) = H1 at x1 hl1 ur1 ⊢
    refine ⟨_, rfl, by omega, by omega, for_range (lo := 0) (n := many.toNat) (fun i σ H' => ∃ v4 v5, σ = [some (.ref p), some (.ref a), some (.int many), some (.ref l), v4, v5] ∧ ∃ es xs, H' l = some (.lst xs) ∧ EntL H' es xs ∧ es.length = i ∧ (∀ e ∈ es, (e.1 ∈ ns ∧ 0 ≤ e.2) ∧ e.2 < 10 ^ 60) ∧ UrnAt (n + 4 * i) p q H' ∧ Frm [p, q] H H') ⟨_, _, rfl, [], [], hl1, .nil, rfl, (fun _ h => nomatch h), ur1, Frm.ext x1⟩ ?_ ?_⟩
    · clear ur1 hl1 x1
      rintro i σ H2 hi ⟨v4, v5, rfl, es, xs, hl2, el2, rfl, ok2, ur2, fr2⟩
      -- a number
      refine ⟨p, q, 9, _, rfl, ur2, by omega, by decide, by decide, fun H3 r1 a0 a1 ur3 fr3 => ?_⟩
      refine ⟨⟨by decide, by decide, by decide⟩, p, q, _, _, rfl, ur3, by omega, (by show (1 : Int) ≤ 10 ^ (60 : Int).toNat; decide), (by show (10 : Int) ^ (60 : Int).toNat < 2 ^ 1000; decide +kernel), fun H4 r2 b0 b1 ur4 fr4 => ?_⟩
      refine ⟨⟨by decide, by decide, by decide⟩, (by show 4 ≤ sizeLine; decide), fun t nt => ?_⟩
      have x5 := Ext.upd (o := .lst [.int r1, .int r2, .int ((10 : Int) ^ (60 : Int).toNat - 1), .int 0]) nt
      have ht5 : (upd H4 t (.lst [.int r1, .int r2, .int ((10 : Int) ^ (60 : Int).toNat - 1), .int 0])) t = some (.lst [.int r1, .int r2, .int ((10 : Int) ^ (60 : Int).toNat - 1), .int 0]) := upd_same
      have ur5 := ur4.keep x5
      have tpq := ur4.ne_p nt
      have fr5 : Frm [p, q] H2 (upd H4 t (.lst [.int r1, .int r2, .int ((10 : Int) ^ (60 : Int).toNat - 1), .int 0])) := (fr3.trans fr4).trans (Frm.ext x5)
      generalize upd H4 t (.lst [.int r1, .int r2, .int ((10 : Int) ^ (60 : Int).toNat - 1), .int 0]) = H5 at ht5 ur5 fr5 ⊢
      refine ⟨p, q, 4, _, rfl, ur5, by omega, by decide, by decide, fun H6 r3 c0 c1 ur6 fr6 => ?_⟩
      obtain ⟨i, i0, i1, at6⟩ : ∃ i : Int, 0 ≤ i ∧ i < 10 ^ 60 ∧ atI [V.int r1, V.int r2, V.int ((10 : Int) ^ (60 : Int).toNat - 1), V.int 0] r3 = some (.int i) := by
        have e60 : (10 : Int) ^ (60 : Int).toNat = 10 ^ 60 := rfl
        have four : r3 = 0 ∨ r3 = 1 ∨ r3 = 2 ∨ r3 = 3 := by omega
        rcases four with e | e | e | e
        · exact ⟨r1, a0, Int.lt_trans a1 (by decide), by rw [e]; rfl⟩
        · exact ⟨r2, b0, b1, by rw [e]; rfl⟩
        · exact ⟨10 ^ 60 - 1, by decide, by decide, by rw [e]; rfl⟩
        · exact ⟨0, by decide, by decide, by rw [e]; rfl⟩
      refine ⟨_, .int i, .inl (SqL.of (fr6 _ _ ht5 (nin2 tpq))), at6, ?_⟩
      have fr26 := fr5.trans fr6
      -- a name
      have ha6 := (fr2.trans fr26) _ _ ha (nin2 apq)
      refine ⟨.inl ⟨rfl, _, SqL.of (fr26 _ _ hl2 (nin2 lpq))⟩, ?_⟩
      refine ⟨_, _, rfl, .inl ⟨_, SqL.of ha6, rfl⟩, ?_⟩
      rw [List.length_map]
      refine ⟨p, q, _, _, rfl, ur6, by omega, by omega, Int.lt_of_le_of_lt (b := 12) (by omega) (by decide), fun H7 r4 d0 d1 ur7 fr7 => ?_⟩
      have hk : r4.toNat < ns.length := by omega
      have ha7 := fr7 _ _ ha6 (nin2 apq)
      have fr27 := fr26.trans fr7
      have hl7 := fr27 _ _ hl2 (nin2 lpq)
      have el7 := EntL.st el2 (ur2.tups fr27)
      refine ⟨_, .str ns[r4.toNat], .inl (SqL.of ha7), atI_at d0 (by rw [List.getElem?_map, List.getElem?_eq_getElem hk]; rfl), (by show 2 ≤ sizeLine; decide), fun tt ntt => ?_⟩
      have hz : ns[r4.toNat] ∈ ns := List.getElem_mem _
      generalize ns[r4.toNat] = z at hz ⊢
      have x8 := Ext.upd (o := .tup [.str z, .int i]) ntt
      have e8 : EntAt (upd H7 tt (.tup [.str z, .int i])) (z, i) (.ref tt) := ⟨tt, rfl, upd_same⟩
      have hl8 := x8 _ _ hl7
      have el8 := el7.mono x8
      have ur8 := ur7.keep x8
      have fr8 := fr27.trans (Frm.ext x8)
      generalize upd H7 tt (.tup [.str z, .int i]) = H8 at e8 hl8 el8 ur8 fr8 ⊢
      have t9 := TupSt.upd (o := .lst (xs ++ [.ref tt])) hl8 (fun _ z => nomatch z)
      refine ⟨l, _, _, rfl, rfl, hl8, by rw [← EntL.len el8]; exact Nat.lt_of_le_of_lt (show es.length ≤ 200 by omega) (by decide), ?_⟩
      refine ⟨_, _, rfl, es ++ [(z, i)], _, upd_same, pApp (el8.st t9) (.cons (e8.st t9) .nil), by rw [List.length_append, List.length_singleton], ?_, ?_, (fr2.trans fr8).put nl⟩
      · intro e he
        rcases List.mem_append.mp he with he | he
        · exact ok2 e he
        · rw [List.mem_singleton.mp he]; exact ⟨⟨hz, i0⟩, i1⟩
      · obtain ⟨ys, s, w, g1, g2, g3⟩ := ur8.mono (show n + 4 * es.length + 1 + 1 + 1 + 1 ≤ n + 4 * (es.length + 1) by omega)
        exact ⟨ys, s, w, by rw [upd_ne lpq.1.symm]; exact g1, by rw [upd_ne lpq.2.symm]; exact g2, g3⟩
    · clear ur1 hl1 x1
      rintro σ H2 ⟨v4, v5, rfl, es, xs, hl2, el2, he, ok2, ur2, fr2⟩
      exact k H2 l es xs nl hl2 el2 ⟨by omega, fun e h => (ok2 e h).1⟩ (fun e h => (ok2 e h).2) (ur2.mono (by omega)) fr2
end
end NB

set_option Elab.async false
set_option linter.all false
set_option maxRecDepth 100000
set_option maxHeartbeats 4000000
/-! K4x (k81): a log made, its text put together -/
namespace NB
open PySem PySem.Spec L2
open PyProof.Rows (envOfC)
open C8 (pe_c pe_mk pe_mt pe_mt0 pe_gc fnScope fnBody fnArgs fnScope_by Cal Met Mak)
def spText : Sp := fun vs H Q _ => ∃ b sz a l ns es xs, vs = [.int sz, .ref a, .ref l, .bl b] ∧ TxtOk sz ns es ∧ H a = some (.lst (ns.map V.str)) ∧ H l = some (.lst xs) ∧ EntL H es xs ∧ ∀ H', Ext H H' → Q (.str (logT b sz ns es)) H'
/-- the text of an entry, put together by the law -/
def tEnt2 : TE := tOp (fun x y H Q => ∃ i j, x = .str i ∧ y = .str j ∧ i.length + j.length ≤ sizeLine ∧ Q (.str (i ++ j)) H)
  (tOp (fun x y H Q => ∃ i j, x = .str i ∧ y = .str j ∧ i.length + j.length ≤ sizeLine ∧ Q (.str (i ++ j)) H) (mV 5) (tC (.str ":")))
  (tCB (fun xs H Q => ∃ i, xs = [.int i] ∧ i.natAbs.log2 < 1920 ∧ Q (.str (toString i)) H) (tCons (mV 6) tNil))
section
variable {P : Program} {w : World} {K : PySem.W.Frag} {mg : Str → Option Value} {base : Heap} {cL cX : Addr}
theorem int_log {i : Int} (h0 : 0 ≤ i) (h : i < 10 ^ 60) : i.natAbs.log2 < 1920 := by
  refine Nat.lt_trans (pow_log ?_) (by decide)
  have e : ((i.natAbs : Nat) : Int) = i := by omega
  have : ((i.natAbs : Nat) : Int) < ((10 ^ 60 : Nat) : Int) := by
    rw [Int.natCast_pow, e]; exact h
  exact_mod_cast this
theorem ok_text (T : Tz K mg cL cX) (D : Dx K mg "_law_text" s__law_text ["wide", "names", "rows", "is_losing"]) : Cal P w K mg base 1 "_law_text" spText [] := by
  refine cal_of D sc__law_text (fun vs H Q E h => ?_) (fun f cdv A o s H vs Q E hr h => ?_)
  · obtain ⟨b, sz, a, l, ns, es, xs, rfl, _⟩ := h; rfl
  · obtain ⟨b, sz, a, l, ns, es, xs, rfl, tx, ha, hl, el, k⟩ := h
    have sz0 : 0 ≤ sz := by have := tx.so.1; omega
    refine ⟨_, (pss_cons (ps_set (i := 4) sc__law_text.nd rfl (Or.inl rfl) (pe_lst (pa_cons (pe_ix m_ix (pe_lst (pa_cons pe_str (pa_cons pe_str pa_nil))) (pe_callTy call_int1 (by rfl) T.n_int (by decide +kernel) (pa_cons (mv 3) pa_nil)) (fun _ _ => rfl)) (pa_cons (pe_callTy call_str_int (by rfl) T.n_str (by decide +kernel) (pa_cons (mv 0) pa_nil)) (pa_cons (pe_join pe_str (mv 1)) pa_nil)))))
    (pss_one (ps_ret (pe_join pe_str (pe_op op_cat (mv 4) (pe_lc (own := [("name", 5), ("value", 6)]) (g := gTup K 2 (gCons (gName 5) (gCons (gName 6) gNil))) (tt := tYes) (te := tEnt2) rfl sc__law_text.nd (pi_list (mv 2)) (blkOk_by (own := [("name", 5), ("value", 6)]) (N := ["wide", "names", "rows", "is_losing", "words", "name", "value"]) (sc := fnScope s__law_text) (by decide +kernel)) (fun _ _ _ _ _ => (pg_tup rfl (pgs_cons (pg_name (i := 5) sc__law_text.nd rfl (Or.inl rfl)) (pgs_cons (pg_name (i := 6) sc__law_text.nd rfl (Or.inl rfl)) pgs_nil)))) (fun _ _ _ _ _ => pts_nil) (fun _ _ _ _ _ => (pe_op op_add_str (pe_op op_add_str (mv 5) pe_str) (pe_callTy call_str_int (by rfl) T.n_str (by decide +kernel) (pa_cons (mv 6) pa_nil)))))))))), ?_⟩
    refine ⟨(by show 2 ≤ sizeLine; decide), fun t1 n1 => ?_⟩
    have x1 := Ext.upd (o := .lst [.str "steady", .str "losing"]) n1
    have c1 : (upd H t1 (.lst [.str "steady", .str "losing"])) t1 = some (.lst [.str "steady", .str "losing"]) := upd_same
    generalize upd H t1 (.lst [.str "steady", .str "losing"]) = H1 at x1 c1 ⊢
    have ix : atI [V.str "steady", V.str "losing"] (if b = true then 1 else 0) = some (.str (kdB b)) := by cases b <;> rfl
    refine .inr ⟨b, rfl, _, .str (kdB b), .inl (SqL.of c1), ix, sz, rfl, int_log sz0 (size_lt tx.so), ⟨_, rfl⟩, _, a, ns, rfl, rfl, .inl (SqL.of (x1 _ _ ha)), crew_join tx.cr, (by show 3 ≤ sizeLine; decide), fun t2 n2 => ?_⟩
    have x2' := Ext.upd (o := .lst [.str (kdB b), .str (Str.ofString (toString sz)), .str (Txt.join "," ns)]) n2
    have c2 : (upd H1 t2 (.lst [.str (kdB b), .str (Str.ofString (toString sz)), .str (Txt.join "," ns)])) t2 = some (.lst ((headT b sz ns).map V.str)) := upd_same
    have x2 := x1.trans x2'
    generalize upd H1 t2 (.lst [.str (kdB b), .str (Str.ofString (toString sz)), .str (Txt.join "," ns)]) = H2 at x2 c2 ⊢
    refine ⟨⟨_, rfl⟩, l, rfl, ⟨_, SqL.of (x2 _ _ hl)⟩, fun d hd => lc_list (K := K) (a := l) (xs := xs) (te := tEnt2) (fun i H' => Ext H2 H' ∧ H' d = some (.lst (((es.map entT).take i).map V.str))) ⟨Ext.upd hd, upd_same⟩ (fun i H1 _ t => SqL.of (t.1 _ _ (x2 _ _ hl))) ?_ ?_⟩
    · rintro i y H3 hy ⟨x3, hd3⟩
      obtain ⟨e, he, t0, rfl, ht0⟩ := EntL.at (el.mono (x2.trans x3)) hy
      have hi : i < es.length := (List.getElem?_eq_some_iff.mp he).1
      have q := tx.ok.ok e (List.mem_of_getElem? he)
      have hb := tx.big e (List.mem_of_getElem? he)
      have nl := name_len (tx.cr.nam _ q.1)
      have n6 := numT_len (k := 60) (by decide) q.2 hb
      have lc : (":" : Str).length = 1 := by decide +kernel
      have l1 : (e.1 ++ (":" : Str)).length = e.1.length + 1 := by
        rw [len_tl', tl_app, tl_colon, List.length_append, ← len_tl']; rfl
      refine ⟨t0, _, rfl, SqT.of ht0, rfl, _, _, rfl, _, _, rfl, rfl, rfl, goY (ifT (by rfl) ?_)⟩
      refine ⟨e.1, _, rfl, rfl, by rw [lc]; exact Nat.le_trans (show e.1.length + 1 ≤ 9 by omega) (by decide), ?_⟩
      refine ⟨e.2, rfl, int_log q.2 hb, _, numT e.2, rfl, rfl, by rw [l1]; exact Nat.le_trans (show e.1.length + 1 + (numT e.2).length ≤ 69 by omega) (by decide), ?_⟩
      refine ⟨_, hd3, ?_, put_ext x3 hd, ?_⟩
      · rw [List.length_map]
        exact Nat.lt_of_le_of_lt (List.length_take_le _ _) (Nat.lt_of_le_of_lt (show i ≤ 200 by have := tx.ok.few; omega) (by decide))
      · rw [upd_same, List.take_succ, List.getElem?_map, he, List.map_append]; rfl
    rintro H3 ⟨x3, hd3⟩
    rw [← el.len, ← List.length_map (f := entT), List.take_length] at hd3
    have ll : (headT b sz ns).length + (es.map entT).length ≤ 203 := by
      rw [List.length_map]; show 3 + es.length ≤ 203; have := tx.ok.few; omega
    refine ⟨t2, d, _, _, rfl, rfl, x3 _ _ c2, hd3, by rw [List.length_map, List.length_map]; exact Nat.le_trans ll (by decide), fun t4 n4 => ?_⟩
    rw [← List.map_append]
    refine ⟨_, t4, headT b sz ns ++ es.map entT, rfl, rfl, .inl (SqL.of upd_same), logT_join tx, ?_⟩
    exact k _ ((x2.trans x3).trans (Ext.upd n4))
end
end NB

set_option Elab.async false
set_option linter.all false
set_option maxRecDepth 100000
set_option maxHeartbeats 4000000
/-! K5 (k82): what the law expects, what it is told -/
namespace NB
open PySem PySem.Spec L2
open PyProof.Rows (envOfC)
open C8 (pe_c pe_mk pe_mt pe_mt0 pe_gc fnScope fnBody fnArgs fnScope_by Cal Met Mak)
theorem out_ex {ws : List Str} (ne : ws ≠ []) : ∃ o, Out ws o := by
  have step : ∀ n, n ≤ max 3 ws.length → (∀ j, j < n → ∃ w, ws[j]? = some w ∧ standB ws j w = true) ∨ ∃ k, Bad ws k := by
    intro n
    induction n with
    | zero => intro _; exact .inl fun j hj => absurd hj (Nat.not_lt_zero _)
    | succ n ih =>
      intro hn
      rcases ih (by omega) with pre | bad
      · cases h : ws[n]? with
        | none =>
          refine .inr ⟨n, pre, .inl ?_⟩
          have h1 := List.getElem?_eq_none_iff.mp h
          have h2 : n ≤ ws.length := by
            rcases Nat.eq_zero_or_pos n with e | e
            · omega
            · obtain ⟨w, hw, _⟩ := pre (n - 1) (by omega)
              have := (List.getElem?_eq_some_iff.mp hw).1
              omega
          omega
        | some w =>
          cases hs : standB ws n w with
          | false => exact .inr ⟨n, pre, .inr ⟨w, h, hs⟩⟩
          | true =>
            refine .inl fun j hj => ?_
            rcases Nat.lt_or_ge j n with q | q
            · exact pre j q
            · obtain rfl : j = n := by omega
              exact ⟨w, h, hs⟩
      · exact .inr bad
  rcases step _ (Nat.le_refl _) with all | ⟨k, bad⟩
  · have h3 : 3 ≤ ws.length := by
      obtain ⟨w, hw, _⟩ := all 2 (by omega)
      have := (List.getElem?_eq_some_iff.mp hw).1
      omega
    obtain ⟨b, sz, ns, es, rd⟩ := good_reads h3 fun j w hw => by
      obtain ⟨w2, hw2, st⟩ := all j (by have := (List.getElem?_eq_some_iff.mp hw).1; omega)
      rw [hw] at hw2
      obtain rfl := Option.some.inj hw2
      exact st
    exact ⟨_, .ok rd⟩
  · exact ⟨_, .bad bad⟩
/-- what stands for it: the number of a word, or the list of the kind, the size, the servers, the entries -/
def HasO (K : PySem.W.Frag) (H : Hp) (v : V) : Rd3 → Prop
  | .inl k => v = .int (k : Nat)
  | .inr (b, sz, ns, es) => Dp K H v (.list [.str (kdB b), .int sz, encS ns, encL es])
def spDue (K : PySem.W.Frag) : Sp := fun vs H Q _ => ∃ t, vs = [.str t] ∧ t.length ≤ LIM ∧ Sg t ∧ ∀ o v H', Out (wds t) o → HasO K H' v o → Ext H H' → Q v H'
def spTold (K : PySem.W.Frag) : Sp := fun vs H Q _ => ∃ t b, vs = [.str t, .bl b] ∧ t.length ≤ LIM ∧ ∀ o v H', Out (wds t) o → HasO K H' v o → Ext H H' → Q v H'
def rSplit : V → List V → Hp → VK → Prop := fun x xs H Q => ∃ a b, x = .str a ∧ xs = [.str b] ∧ (b.length == 0) = false ∧ a.length + 2 ≤ sizeLine ∧ rNewStrs (Txt.split a b) H Q
def rIntS : List V → Hp → VK → Prop := fun xs H Q => ∃ a n, xs = [.str a] ∧ PySem.intText? a = some n ∧ a.length ≤ 640 ∧ Q (.int n) H
/-- a row, read by the law -/
def tRow (K : PySem.W.Frag) : TE := tTup (tCons (tOp (mIx K) (tM1 rSplit (mV 4) (tC (.str ":"))) (tC (.int 0))) (tCons (tCB rIntS (tCons (tOp (mIx K) (tM1 rSplit (mV 4) (tC (.str ":"))) (tC (.int 1))) tNil)) tNil))
section
variable {P : Program} {w : World} {K : PySem.W.Frag} {mg : Str → Option Value} {base : Heap} {cL cX cB cT fT : Addr} {dT : FuncData} {A0 : Ads}
theorem ok_due (T : Tz K mg cL cX) (D : Dx K mg "_law_due" s__law_due ["written"]) (c__law_can_stand : Cal P w K mg base 2 "_law_can_stand" spStand []) : Cal P w K mg base 3 "_law_due" (spDue K) [] := by
  refine cal_of D sc__law_due (fun vs H Q E h => ?_) (fun f cdv A o s H vs Q E hr h => ?_)
  · obtain ⟨t, rfl, _⟩ := h; rfl
  · obtain ⟨t, rfl, ht, hs, k⟩ := h
    refine ⟨_, (pss_cons (ps_set (i := 1) sc__law_due.nd rfl (Or.inl rfl) (pe_split (mv 0) pe_str))
    (pss_cons (ps_for PassesOwn.never rfl (pi_range1 (by rfl) T.n_range (pa_cons (pe_callB (call_max2 rfl) (by rfl) T.n_max (by decide +kernel) (pa_cons pe_int (pa_cons (pe_callB call_len (by rfl) T.n_len (by decide +kernel) (pa_cons (mv 1) pa_nil)) pa_nil))) pa_nil)) (pg_name (i := 2) sc__law_due.nd rfl (Or.inl rfl))
    (pss_one (ps_if (PW.pt (pw_or (qt m_eq (mv 2) (pe_callB call_len (by rfl) T.n_len (by decide +kernel) (pa_cons (mv 1) pa_nil)) (nomark _)) (pw_or1 (pt_not (qv (pe_c c__law_can_stand hr (by decide) rfl (pa_cons (mv 1) (pa_cons (mv 2) pa_nil)))))))) (pss_one (ps_ret (mv 2))) pss_nil)))
    (pss_cons (ps_setLc (i := 3) (own := [("word", 4)]) (g := gName 4) (tt := tYes) (te := tRow K) rfl sc__law_due.nd rfl rfl (sw_true rfl rfl rfl (by decide +kernel)) (pi_list (pe_slice sl_list (mv 1) (po_some pe_int) po_none)) (blkOk_by (own := [("word", 4)]) (N := ["written", "words", "spot", "rows", "word"]) (sc := fnScope s__law_due) (by decide +kernel)) (fun _ _ _ _ _ => (pg_name (i := 4) sc__law_due.nd rfl (Or.inl rfl))) (fun _ _ _ _ _ => pts_nil) (fun _ _ _ _ _ => (pe_tup (pa_cons (pe_ix m_ix (pe_split (mv 4) pe_str) pe_int (fun _ _ => rfl)) (pa_cons (pe_callTy call_int_str (by rfl) T.n_int (by decide +kernel) (pa_cons (pe_ix m_ix (pe_split (mv 4) pe_str) pe_int (fun _ _ => rfl)) pa_nil)) pa_nil)))))
    (pss_one (ps_ret (pe_lst (pa_cons (pe_ix m_ix (mv 1) pe_int (fun _ _ => rfl)) (pa_cons (pe_callTy call_int_str (by rfl) T.n_int (by decide +kernel) (pa_cons (pe_ix m_ix (mv 1) pe_int (fun _ _ => rfl)) pa_nil)) (pa_cons (pe_split (pe_ix m_ix (mv 1) pe_int (fun _ _ => rfl)) pe_str) (pa_cons (mv 3) pa_nil)))))))))), ?_⟩
    refine ⟨⟨_, rfl⟩, _, _, rfl, rfl, by decide +kernel, Nat.le_trans (Nat.add_le_add_right ht 2) lim_line, fun q nq => ?_⟩
    have x1 := Ext.upd (o := .lst ((wds t).map V.str)) nq
    have hq : (upd H q (.lst ((wds t).map V.str))) q = some (.lst ((wds t).map V.str)) := upd_same
    have wq : WdsAt (upd H q (.lst ((wds t).map V.str))) q (wds t) := ⟨hq, fun y hy => Nat.le_trans (wds_le hy) ht, fun y hy => wds_sg hs y hy⟩
    have num : (wds t).length ≤ 1000001 := Nat.le_trans (wds_num t) (Nat.add_le_add_right ht 1)
    generalize upd H q (.lst ((wds t).map V.str)) = H1 at x1 hq wq ⊢
    generalize wds t = ws at hq wq num k
    refine ⟨_, _, rfl, .inl ⟨_, SqL.of hq, rfl⟩, _, _, rfl, ?_⟩
    rw [List.length_map]
    have em : (if (ws.length : Int) > 3 then (ws.length : Int) else 3) = ((max 3 ws.length : Nat) : Int) := by split <;> omega
    rw [em]
    refine ⟨_, rfl, by omega, by omega, for_range (lo := 0) (n := (((max 3 ws.length : Nat) : Int)).toNat) (fun i σ H' => ∃ v2, σ = [some (.str t), some (.ref q), v2, none, none] ∧ Ext H1 H' ∧ ∀ j, j < i → ∃ w, ws[j]? = some w ∧ standB ws j w = true) ⟨_, rfl, fun _ _ h => h, fun j hj => absurd hj (Nat.not_lt_zero _)⟩ ?_ ?_⟩
    · rintro i σ H2 hi ⟨v2, rfl, x2, pre⟩
      have hq2 := x2 _ _ hq
      have wq2 : WdsAt H2 q ws := ⟨hq2, wq.le, wq.sg⟩
      have x12 := x1.trans x2
      have i3 : i < max 3 ws.length := by omega
      have z0 : (0 : Int) + (i : Nat) = ((i : Nat) : Int) := by omega
      refine ⟨_, _, rfl, .inl ⟨_, SqL.of hq2, rfl⟩, ?_⟩
      rw [List.length_map]
      cases h : ws[i]? with
      | none =>
        have h1 := List.getElem?_eq_none_iff.mp h
        have h2 : i ≤ ws.length := by
          rcases Nat.eq_zero_or_pos i with e | e
          · omega
          · obtain ⟨w, hw, _⟩ := pre (i - 1) (by omega)
            have := (List.getElem?_eq_some_iff.mp hw).1
            omega
        refine ifD (p := (0 : Int) + (i : Nat) = (ws.length : Int)) (fun _ => ?_) (fun n => absurd (show (0 : Int) + (i : Nat) = (ws.length : Int) by omega) n)
        refine k (.inl i) _ H2 (.bad ⟨pre, .inl (by omega)⟩) ?_ x12
        show V.int _ = V.int _
        rw [z0]
      | some wd =>
        have lt := (List.getElem?_eq_some_iff.mp h).1
        refine ifD (p := (0 : Int) + (i : Nat) = (ws.length : Int)) (fun e => absurd e (by omega)) (fun _ => ?_)
        refine ⟨q, ws, i, wd, (by rw [z0]; rfl), wq2, h, fun H3 x3 => ?_⟩
        cases hst : standB ws i wd with
        | false =>
          refine ifT (by rfl) ?_
          refine k (.inl i) _ H3 (.bad ⟨pre, .inr ⟨wd, h, hst⟩⟩) ?_ (x12.trans x3)
          show V.int _ = V.int _
          rw [z0]
        | true =>
          refine ifF (by rfl) ⟨_, rfl, x2.trans x3, fun j hj => ?_⟩
          rcases Nat.lt_or_ge j i with p | p
          · exact pre j p
          · obtain rfl : j = i := by omega
            exact ⟨wd, h, hst⟩
    · rintro σ H2 ⟨v2, rfl, x2, all⟩
      have h3 : 3 ≤ ws.length := by
        obtain ⟨w, hw, _⟩ := all 2 (by omega)
        have := (List.getElem?_eq_some_iff.mp hw).1
        omega
      obtain ⟨b, sz, ns, es, rd⟩ := good_reads h3 fun j w hw => by
        obtain ⟨w2, hw2, st⟩ := all j (by have := (List.getElem?_eq_some_iff.mp hw).1; omega)
        rw [hw] at hw2
        obtain rfl := Option.some.inj hw2
        exact st
      have hq2 := x2 _ _ hq
      have x12 := x1.trans x2
      have at_ : ∀ {j : Nat} {z : Str}, ws[j]? = some z → (ws.map V.str)[j]? = some (.str z) := fun h => by rw [List.getElem?_map, h]; rfl
      obtain ⟨y1, hy1, ny1⟩ := rd.k1
      obtain ⟨y2, hy2, sy2⟩ := rd.k2
      obtain ⟨ny0, ny3, _, _, it1⟩ := numO_some ny1
      have len1 : y1.length ≤ 640 := by have := (numO_some ny1).2.2.1; rw [this]; exact Nat.le_trans (numT_len (k := 60) (by decide) ny0 ny3) (by decide)
      -- the rows
      refine ⟨_, rfl, q, _, rfl, SqL.of hq2, fun tt ntt => ?_⟩
      rw [cut_from (by decide)]
      have e3 : (ws.map V.str).drop (3 : Int).toNat = (ws.drop 3).map V.str := (List.map_drop ..).symm
      rw [e3]
      have x6 := Ext.upd (o := .lst ((ws.drop 3).map V.str)) ntt
      have ht6 : (upd H2 tt (.lst ((ws.drop 3).map V.str))) tt = some (.lst ((ws.drop 3).map V.str)) := upd_same
      have hq6 := x6 _ _ hq2
      have x16 := x12.trans x6
      generalize upd H2 tt (.lst ((ws.drop 3).map V.str)) = G at ht6 hq6 x16 ⊢
      have ee := rd.k3
      refine ⟨tt, rfl, ⟨_, SqL.of ht6⟩, fun d hd => lc_list (K := K) (a := tt) (xs := (ws.drop 3).map V.str) (te := tRow K) (fun i H' => Ext G H' ∧ ∃ vs, H' d = some (.lst vs) ∧ EntL H' (es.take i) vs) ⟨Ext.upd hd, [], upd_same, .nil⟩ (fun i H1 _ t => SqL.of (t.1 _ _ ht6)) ?_ ?_⟩
      · rintro i y H3 hy ⟨x3, vs, hd3, el3⟩
        obtain ⟨wd, hwd, rfl⟩ := map_at hy
        have e4 : ((ws.drop 3).map (entO ns))[i]? = some (entO ns wd) := by rw [List.getElem?_map, hwd]; rfl
        rw [ee, List.getElem?_map] at e4
        obtain ⟨e, he, e5⟩ := Option.map_eq_some_iff.mp e4
        obtain ⟨bw, ebw, _, nbw⟩ := entO_some e5.symm
        have mw : wd ∈ ws := List.mem_of_mem_drop (List.mem_of_getElem? hwd)
        have lw : wd.length + 2 ≤ sizeLine := Nat.le_trans (Nat.add_le_add_right (wq.le wd mw) 2) lim_line
        obtain ⟨b0, b1, bz, _, bi⟩ := numO_some nbw
        have lb : bw.length ≤ 640 := by rw [bz]; exact Nat.le_trans (numT_len (k := 60) (by decide) b0 b1) (by decide)
        refine ⟨rfl, goY (ifT (by rfl) ?_)⟩
        refine ⟨⟨_, rfl⟩, _, _, rfl, rfl, by decide +kernel, lw, fun p1 np1 => ?_⟩
        have y1 := Ext.upd (o := .lst ((cls2 wd).map V.str)) np1
        have hp1 : (upd H3 p1 (.lst ((cls2 wd).map V.str))) p1 = some (.lst ((cls2 wd).map V.str)) := upd_same
        have hd4 := y1 _ _ hd3
        have el4 := EntL.mono el3 y1
        have x4 := x3.trans y1
        generalize upd H3 p1 (.lst ((cls2 wd).map V.str)) = H4 at hp1 hd4 el4 x4 ⊢
        rw [ebw] at hp1
        refine ⟨_, _, .inl (SqL.of hp1), atI_nat (j := 0) rfl, ?_⟩
        refine ⟨⟨_, rfl⟩, _, _, rfl, rfl, by decide +kernel, lw, fun p2 np2 => ?_⟩
        have y2 := Ext.upd (o := .lst ((cls2 wd).map V.str)) np2
        have hp2 : (upd H4 p2 (.lst ((cls2 wd).map V.str))) p2 = some (.lst ((cls2 wd).map V.str)) := upd_same
        have hd5 := y2 _ _ hd4
        have el5 := EntL.mono el4 y2
        have x5 := x4.trans y2
        generalize upd H4 p2 (.lst ((cls2 wd).map V.str)) = H5 at hp2 hd5 el5 x5 ⊢
        rw [ebw] at hp2
        refine ⟨_, _, .inl (SqL.of hp2), atI_nat (j := 1) rfl, bw, e.2, rfl, bi, lb, (by show 2 ≤ sizeLine; decide), fun tp ntp => ?_⟩
        have y3 := Ext.upd (o := .tup [.str e.1, .int e.2]) ntp
        have ev : EntAt (upd H5 tp (.tup [.str e.1, .int e.2])) e (.ref tp) := ⟨tp, rfl, upd_same⟩
        have hd6 := y3 _ _ hd5
        have el6 := EntL.mono el5 y3
        have x6' := x5.trans y3
        generalize upd H5 tp (.tup [.str e.1, .int e.2]) = H6 at ev hd6 el6 x6' ⊢
        have t3 := TupSt.upd (o := .lst (vs ++ [.ref tp])) hd6 (fun _ z => nomatch z)
        refine ⟨vs, hd6, ?_, put_ext x6' hd, vs ++ [.ref tp], upd_same, ?_⟩
        · rw [← EntL.len el6]; exact Nat.lt_of_le_of_lt (List.length_take_le' _ _) (Nat.lt_of_le_of_lt rd.few (by decide))
        · rw [List.take_succ, he]
          exact pApp (EntL.st el6 t3) (.cons (EntAt.st ev t3) .nil)
      · rintro H3 ⟨x3, vs, hd3, el3⟩
        have le : es.take ((ws.drop 3).map V.str).length = es := by
          refine List.take_of_length_le ?_
          have := congrArg List.length ee
          rw [List.length_map, List.length_map] at this
          rw [List.length_map]
          omega
        rw [le] at el3
        have hq3 := x3 _ _ hq6
        refine ⟨_, _, .inl (SqL.of hq3), atI_nat (j := 0) (at_ rd.k0), ?_⟩
        refine ⟨_, _, .inl (SqL.of hq3), atI_nat (j := 1) (at_ hy1), y1, sz, rfl, it1, len1, ?_⟩
        refine ⟨_, _, .inl (SqL.of hq3), atI_nat (j := 2) (at_ hy2), ⟨_, rfl⟩, _, _, rfl, rfl, by decide +kernel, Nat.le_trans (Nat.add_le_add_right (wq.le y2 (List.mem_of_getElem? hy2)) 2) lim_line, fun p3 np3 => ?_⟩
        have y4 := Ext.upd (o := .lst ((cms y2).map V.str)) np3
        have hp3 : (upd H3 p3 (.lst ((cms y2).map V.str))) p3 = some (.lst ((cms y2).map V.str)) := upd_same
        have hd4 := y4 _ _ hd3
        have el4 := EntL.mono el3 y4
        have x4 := x3.trans y4
        generalize upd H3 p3 (.lst ((cms y2).map V.str)) = H4 at hp3 hd4 el4 x4 ⊢
        rw [← (servO_some sy2).1] at hp3
        refine ⟨(by show 4 ≤ sizeLine; decide), fun r nr => ?_⟩
        have y5 := Ext.upd (o := .lst [.str (kdB b), .int sz, .ref p3, .ref d]) nr
        refine k (.inr (b, sz, ns, es)) _ _ (.ok rd) ?_ ((x16.trans x4).trans y5)
        exact .lst (SqL.of upd_same) (.cons (.str _) (.cons (.int _) (.cons (dp_S (SqL.of (y5 _ _ hp3))) (.cons (dp_L (SqL.of (y5 _ _ hd4)) (EntL.mono el4 y5)) .nil))))
end
end NB

set_option Elab.async false
set_option linter.all false
set_option maxRecDepth 100000
set_option maxHeartbeats 4000000
/-! K5t (k82): what the law is told -/
namespace NB
open PySem PySem.Spec L2
open PyProof.Rows (envOfC)
open C8 (pe_c pe_mk pe_mt pe_mt0 pe_gc fnScope fnBody fnArgs fnScope_by Cal Met Mak)
def gOne {α : Type} (us ws : List α) : List α := match us, ws with
  | [], [x] => [x]
  | _, _ => []
theorem kb_read {K : PySem.W.Frag} {f : Addr} {fd : FuncData} (D : C8.Fun K "read_log" "read_log" s_read_log f fd) (df : fd.defaults = .none) : KBn K fd ["text"] 0 ["text"] gOne gOne := by
  obtain ⟨oc, od, dV, kV, doc, pm, an, cdv, ct, osl, rfl, lk, hcd⟩ := D.ex
  have e : dV = .none := df
  subst e
  refine ⟨fun s us ws X l1 l2 => ?_, fun r1 r2 => ?_⟩
  · match us, ws, l1, l2 with
    | [], [e], _, _ => exact .of_eq rfl
  · cases r1 with
    | cons _ _ => exact .nil
    | nil =>
      cases r2 with
      | nil => exact .nil
      | cons b1 r2 =>
        cases r2 with
        | cons _ _ => exact .nil
        | nil => exact .cons b1 .nil
/-- the other classes of errors -/
structure OthE (K : PySem.W.Frag) (mg : Str → Option Value) (cT c1 c2 c3 c4 c5 : Addr) : Prop where
  n : mg "ValueError" = none
  g1 : GV mg "InvalidEntries" (.ref c1)
  g2 : GV mg "InvalidNumber" (.ref c2)
  g3 : GV mg "InvalidServer" (.ref c3)
  g4 : GV mg "InvalidServers" (.ref c4)
  g5 : GV mg "InvalidSize" (.ref c5)
  kv : PySem.W.kitOne K (.ref cT) (.type "ValueError") = some true
  ka : PySem.W.kitAny K (.ref cT) [.ref c1, .ref c2, .ref c3, .ref c4, .ref c5] = some false
  eT : PySem.W.exmOne K (.ref cT) (.ref cT) = some true
def tbT (cT cL cX C : Addr) (K : PySem.W.Frag) (W : WX) : TS :=
  tSeq (tAsg (tIf (mT (mV 1)) (tCallKS 1 (spReadX cL cX cT) gOne (WE W) (tCons (mV 0) tNil)) (tCallS (spReadX cL cX cT) (WE W) (tCons (mV 0) tNil))) (gName 2))
    (tRet (tLst (tCons (tCon K (mV 2) "KIND") (tCons (tProp C (spSize C) [] C8.E0 (mV 2)) (tCons (tProp C (spServers C) [] C8.E0 (mV 2)) (tCons (tProp C (spEntr C) [] C8.E0 (mV 2)) tNil))))))
def tsT (K : PySem.W.Frag) (cT c1 c2 c3 c4 c5 a : Addr) (cls : Value) (d : Option Addr) : TS :=
  tSeq (tAsg (tCB (rHeldT K cT a cls d) (tCons (mV 3) (tCons (tTup (tCons (tC (.ref c1)) (tCons (tC (.ref c2)) (tCons (tC (.ref c3)) (tCons (tC (.ref c4)) (tCons (tC (.ref c5)) tNil)))))) tNil))) (gName 4))
    (tRet (tIf (tOr (mT (mV 4)) (tNot (mT (tCB (rHeld K cT a cls d) (tCons (mV 3) (tCons (tC (.ty "ValueError")) tNil)))))) (tC (.str "odd")) (tXf a cls d cT "word" (mV 3))))
section
variable {P : Program} {w : World} {K : PySem.W.Frag} {mg : Str → Option Value} {base : Heap} {cL cX cB cT fT c1 c2 c3 c4 c5 : Addr} {dT : FuncData} {A0 : Ads}
theorem ok_told (T : Tz K mg cL cX) (Ms : Ms K A0) (hM : ∀ b, LogM K (kC cL cX b) b A0) (T2 : TxtE K mg cB cT fT dT) (T3 : OthE K mg cT c1 c2 c3 c4 c5) (D : Dx K mg "_law_told" s__law_told ["written", "by_name"])
    (c_read : CalX P w K mg base 7 "read_log" (spReadX cL cX cT)) (cK_read : CalXK P w K mg base 7 "read_log" (spReadX cL cX cT) ["text"] gOne) : Cal P w K mg base 9 "_law_told" (spTold K) [] := by
  refine cal_of D sc__law_told (fun vs H Q E h => ?_) (fun f cdv A o s H vs Q E hr h => ?_)
  · obtain ⟨t, b, rfl, _⟩ := h; rfl
  · obtain ⟨t, nm, rfl, ht, k⟩ := h
    obtain ⟨o, ho⟩ := out_ex (wds_ne t)
    obtain ⟨bb, hbb⟩ : ∃ bb, ∀ b sz ns es, Reads (wds t) b sz ns es → b = bb := by
      cases ho with
      | bad hb => exact ⟨true, fun b sz ns es r => (r.notBad hb).elim⟩
      | @ok b sz ns es r => exact ⟨b, fun b' sz' ns' es' r' => (r'.uniq r).1⟩
    have M := hM bb
    have F_size := ok_size (P := P) (w := w) (mg := mg) (base := base) M.toLogC Ms.mZ
    have F_servers := ok_servers (P := P) (w := w) (base := base) T M.toLogC Ms.mV
    have F_entries := ok_entries (P := P) (w := w) (base := base) T M.toLogC Ms.mE
    obtain ⟨_, pZ⟩ := M.pZ
    obtain ⟨_, pV⟩ := M.pV
    obtain ⟨_, pE⟩ := M.pE
    obtain ⟨u, con⟩ := M.kd
    refine ⟨_, (pss_one (ps_try_fst (i := 3) (tb := tbT cT cL cX (kC cL cX bb) K) (ts := tsT K cT c1 c2 c3 c4 c5) rfl rfl sc__law_told.nd rfl rfl ⟨rfl, by decide, .inl T2.g⟩ (fun W pn xe tk _ => (pss_cons (ps_set (i := 2) sc__law_told.nd rfl (Or.inl rfl) (pe_ifExp (qv (mv 1)) (pe_cXK (x := "read_log") cK_read tk hr (by decide) rfl (pk_cons (mv 0) pk_nil)) (pe_cX c_read tk hr (by decide) rfl (pa_cons (mv 0) pa_nil))))
    (pss_one (ps_ret (pe_lst (pa_cons (pe_con (mv 2) rfl) (pa_cons (pe_prop (mv 2) M.cl pZ F_size (hr.mono (by decide)) Ms.mZ.b .nil ps0 rfl) (pa_cons (pe_prop (mv 2) M.cl pV F_servers (hr.mono (by decide)) Ms.mV.b .nil ps0 rfl) (pa_cons (pe_prop (mv 2) M.cl pE F_entries (hr.mono (by decide)) Ms.mE.b .nil ps0 rfl) pa_nil))))))))) (fun a oe cls d pn hz hf => (pss_cons (ps_set (i := 4) sc__law_told.nd rfl (Or.inl rfl) (pe_callB (call_heldT T2.xc hz hf) (by rfl) T.n_isinstance (by decide +kernel) (pa_cons (mv 3) (pa_cons (pe_tup (pa_cons (pe_gc rfl T3.g1) (pa_cons (pe_gc rfl T3.g2) (pa_cons (pe_gc rfl T3.g3) (pa_cons (pe_gc rfl T3.g4) (pa_cons (pe_gc rfl T3.g5) pa_nil)))))) pa_nil))))
    (pss_one (ps_ret (pe_ifExp (PW.pt (pw_or (qv (mv 4)) (pw_or1 (pt_not (qv (pe_callB (call_held T2.xc hz hf) (by rfl) T.n_isinstance (by decide +kernel) (pa_cons (mv 3) (pa_cons (pe_bltn (v := .ty "ValueError") (u := .type "ValueError") (by rfl) T3.n (by decide +kernel) rfl) pa_nil)))))))) pe_str (pe_xf T2.xf T2.nw hz hf (mv 3))))))))), ?_⟩
    -- an error
    have err : ∀ (σ : L2.St) (i : Nat) (D : Ends), σ = [some (.str t), some (.bl nm), none, none, none] → D.rt = Q → Bad (wds t) i → ∀ H' dd, Ext H H' → H' dd = some (.xd [("word", .int (i : Nat))]) → wFst K (.ref cT) 3 (tsT K cT c1 c2 c3 c4 c5) D (.ref cT) (some dd) σ H' := by
      rintro σ i D rfl hD hb H' dd x hdd
      refine ⟨T3.eT, fun a na => ?_⟩
      refine ⟨(by show 5 ≤ sizeLine; decide), fun tp ntp => ?_⟩
      have x2 := Ext.upd (o := .tup [.ref c1, .ref c2, .ref c3, .ref c4, .ref c5]) ntp
      have hdd2 := x2 _ _ hdd
      refine ⟨tp, _, _, false, _, dd, rfl, rfl, rfl, upd_same, .cons (.own _) (.cons (.own _) (.cons (.own _) (.cons (.own _) (.cons (.own _) .nil)))), hdd2, T3.ka, ?_⟩
      refine ⟨_, _, true, _, dd, rfl, rfl, rfl, .ty _, hdd2, T3.kv, ?_⟩
      refine ⟨rfl, rfl, dd, _, _, rfl, hdd2, rfl, ?_⟩
      show D.rt _ _
      rw [hD]
      exact k (.inl i) _ _ (.bad hb) rfl (x.trans x2)
    -- a log
    have fine : ∀ (D : Ends) (b : Bool) (sz : Int) (ns : List Str) (es : List (Str × Int)) (H' : Hp) (q : Addr), D.rt = Q → Reads (wds t) b sz ns es → LogAt (kC cL cX b) H' q sz ns es → Ext H H' →
        tRet (tLst (tCons (tCon K (mV 2) "KIND") (tCons (tProp (kC cL cX bb) (spSize (kC cL cX bb)) [] C8.E0 (mV 2)) (tCons (tProp (kC cL cX bb) (spServers (kC cL cX bb)) [] C8.E0 (mV 2)) (tCons (tProp (kC cL cX bb) (spEntr (kC cL cX bb)) [] C8.E0 (mV 2)) tNil))))) D
          [some (.str t), some (.bl nm), some (.ref q), none, none] H' := by
      intro D b sz ns es H' q hD rd lg x
      obtain rfl := hbb b sz ns es rd
      obtain ⟨dx, ls, le, xs0, hp, g1, g2, el0⟩ := id lg
      refine ⟨q, _, dx, _, _, _, rfl, hp, M.cl, con, kd_no _ _ _, q, dx, _, rfl, hp, q, sz, ns, es, rfl, lg, q, dx, _, rfl, hp, q, sz, ns, es, rfl, lg, fun l nl => ?_⟩
      have y1 := Ext.upd (o := .lst (ns.map V.str)) nl
      have hl : (upd H' l (.lst (ns.map V.str))) l = some (.lst (ns.map V.str)) := upd_same
      have hp1 := y1 _ _ hp
      have lg1 := lg.mono y1
      have x1 := x.trans y1
      generalize upd H' l (.lst (ns.map V.str)) = H1 at hl hp1 lg1 x1 ⊢
      refine ⟨q, dx, _, rfl, hp1, q, sz, ns, es, rfl, lg1, fun l2 xs nl2 el => ?_⟩
      have y2 := Ext.upd (o := .lst xs) nl2
      have hl2 : (upd H1 l2 (.lst xs)) l2 = some (.lst xs) := upd_same
      have hl' := y2 _ _ hl
      have x2 := x1.trans y2
      have el2 := EntL.mono el y2
      generalize upd H1 l2 (.lst xs) = H2 at hl2 hl' x2 el2 ⊢
      refine ⟨(by show 4 ≤ sizeLine; decide), fun r nr => ?_⟩
      have y3 := Ext.upd (o := .lst [.str (kdB b), .int sz, .ref l, .ref l2]) nr
      show D.rt _ _
      rw [hD]
      refine k (.inr (b, sz, ns, es)) _ _ (.ok rd) ?_ (x2.trans y3)
      exact .lst (SqL.of upd_same) (.cons (.str _) (.cons (.int _) (.cons (dp_S (SqL.of (y3 _ _ hl'))) (.cons (dp_L (SqL.of (y3 _ _ hl2)) (EntL.mono el2 y3)) .nil))))
    cases nm with
    | true =>
      refine ⟨rfl, t, rfl, ht, fun i hb H' dd x hdd => ?_, fun b sz ns es rd H' q _ lg x => ?_⟩
      · exact err _ i _ rfl rfl hb H' dd x hdd
      · exact fine _ b sz ns es H' q rfl rd lg x
    | false =>
      refine ⟨t, rfl, ht, fun i hb H' dd x hdd => ?_, fun b sz ns es rd H' q _ lg x => ?_⟩
      · exact err _ i _ rfl rfl hb H' dd x hdd
      · exact fine _ b sz ns es H' q rfl rd lg x
end
end NB

set_option Elab.async false
set_option linter.all false
set_option maxRecDepth 100000
set_option maxHeartbeats 8000000
/-! K5b (k82): a text with one change -/
namespace NB
open PySem PySem.Spec L2
open PyProof.Rows (envOfC)
open C8 (pe_c pe_mk pe_mt pe_mt0 pe_gc fnScope fnBody fnArgs fnScope_by Cal Met Mak)
def spBent : Sp := fun vs H Q _ => ∃ p q t n m, vs = [.ref p, .str t] ∧ UrnAt n p q H ∧ n ≤ 999000000 ∧ t.length ≤ m ∧ m ≤ 300000 ∧ Sg t ∧ ∀ H' t2, t2.length ≤ 2 * m + 20 → Sg t2 → UrnAt (n + 10) p q H' → Frm [p, q] H H' → Q (.str t2) H'
def ODDS : List Str := ["", "steady", "losing", "0", "1", "-1", "x", "a:1", ":", "a", ",", "a,b"]
theorem odds_v : [V.str "", V.str "steady", V.str "losing", V.str "0", V.str "1", V.str "-1", V.str "x", V.str "a:1", V.str ":", V.str "a", V.str ",", V.str "a,b"] = ODDS.map V.str := rfl
theorem odds_len : ∀ z ∈ ODDS, z.length ≤ 8 := by decide +kernel
theorem odds_sg : ∀ z ∈ ODDS, Sg z := by
  have : ∀ z ∈ ODDS, ∀ c ∈ tl z, c < 1114112 := by decide +kernel
  exact this
theorem wt_drop {ws : List Str} {a b : Nat} (h : a ≤ b) : wt (ws.drop b) ≤ wt (ws.drop a) := by
  have e : (ws.drop a).drop (b - a) = ws.drop b := by rw [List.drop_drop]; congr 1; omega
  have := wt_cut (ws.drop a) (b - a)
  rw [e] at this
  omega
theorem wt_take {ws : List Str} {a : Nat} : wt (ws.take a) ≤ wt ws := by
  have := wt_cut ws a
  omega
theorem join_sg {ys : List Str} (h : ∀ y ∈ ys, Sg y) : Sg (Txt.join " " ys) := fun c hc => by
  rw [tl_join', tl_blank] at hc
  rcases mem_joinL hc with rfl | ⟨p, hp, hc⟩
  · decide
  · obtain ⟨z, hz, rfl⟩ := List.mem_map.mp hp
    exact h z hz c hc
theorem join_le {ys : List Str} : (Txt.join " " ys).length ≤ wt ys := join_len tl_blank ys
theorem join_fit {ys : List Str} {M : Nat} (h : wt ys ≤ M) (hM : M ≤ 16777216) : (ys.map (·.length)).sum + ys.length * (" " : Str).length ≤ 16777216 := by
  have l1 : (" " : Str).length = 1 := by decide +kernel
  unfold wt at h
  rw [l1]
  omega
theorem cut_sg {z : Str} {lo hi : Option Int} (h : Sg z) : Sg (cutS z lo hi) := fun c hc => by
  have hc' : c ∈ ((z.cps.toList.drop (HT.sIx z.length 0 lo)).take (HT.sIx z.length z.length hi - HT.sIx z.length 0 lo)) := hc
  exact h c (List.mem_of_mem_drop (List.mem_of_mem_take hc'))
theorem app_sg {a b : Str} (ha : Sg a) (hb : Sg b) : Sg (a ++ b) := fun c hc => by
  rw [tl_app] at hc
  rcases List.mem_append.mp hc with h | h
  · exact ha c h
  · exact hb c h
theorem app_len (a b : Str) : (a ++ b).length = a.length + b.length := by
  rw [len_tl', tl_app, List.length_append, ← len_tl', ← len_tl']
abbrev SIGNS : Str := " ,:+-_.#0123456789aAzZ\n\"'()[]{}~!"
theorem signs_len : SIGNS.length = 33 := by decide +kernel
theorem signs_at : ∀ r : Nat, r < 33 → ∃ c, SIGNS.cps.toList[r]? = some c ∧ c < 1114112 := by decide +kernel
section
variable {P : Program} {w : World} {K : PySem.W.Frag} {mg : Str → Option Value} {base : Heap} {cL cX : Addr}
theorem ok_bent (T : Tz K mg cL cX) (D : Dx K mg "_law_bent" s__law_bent ["urn", "written"]) (c__law_lot : Cal P w K mg base 1 "_law_lot" spLot []) : Cal P w K mg base 2 "_law_bent" spBent [] := by
  refine cal_of D sc__law_bent (fun vs H Q E h => ?_) (fun f cdv A o s H vs Q E hr h => ?_)
  · obtain ⟨p, q, t, n, m, rfl, _⟩ := h; rfl
  · obtain ⟨p, q, t, n, m, rfl, ur, hn, ht, hm, hs, k⟩ := h
    refine ⟨_, (pss_cons (ps_par (i := 2) (j := 3) rfl sc__law_bent.nd rfl rfl (by decide) rfl rfl (pa_cons (pe_split (mv 1) pe_str) (pa_cons (pe_c c__law_lot hr (by decide) rfl (pa_cons (mv 0) (pa_cons pe_int pa_nil))) pa_nil)) (by rfl))
    (pss_cons (ps_set (i := 4) sc__law_bent.nd rfl (Or.inl rfl) (pe_c c__law_lot hr (by decide) rfl (pa_cons (mv 0) (pa_cons (pe_callB call_len (by rfl) T.n_len (by decide +kernel) (pa_cons (mv 2) pa_nil)) pa_nil))))
    (pss_cons (ps_set (i := 5) sc__law_bent.nd rfl (Or.inl rfl) (pe_lst (pa_cons pe_str (pa_cons pe_str (pa_cons pe_str (pa_cons pe_str (pa_cons pe_str (pa_cons pe_str (pa_cons pe_str (pa_cons pe_str (pa_cons pe_str (pa_cons pe_str (pa_cons pe_str (pa_cons pe_str pa_nil))))))))))))))
    (pss_cons (ps_set (i := 6) sc__law_bent.nd rfl (Or.inl rfl) (pe_ix m_ix (pe_op op_cat (mv 5) (mv 2)) (pe_c c__law_lot hr (by decide) rfl (pa_cons (mv 0) (pa_cons (pe_op m_add pe_int (pe_callB call_len (by rfl) T.n_len (by decide +kernel) (pa_cons (mv 2) pa_nil))) pa_nil))) (fun _ _ => rfl)))
    (pss_cons (ps_if (qt m_lt (mv 3) pe_int (nomark _)) (pss_one (ps_ret (pe_join pe_str (pe_op op_cat (pe_op op_cat (pe_slice sl_list (mv 2) po_none (po_some (mv 4))) (pe_lst (pa_cons (mv 6) pa_nil))) (pe_slice sl_list (mv 2) (po_some (pe_op m_add (mv 4) (mv 3))) po_none))))) pss_nil)
    (pss_cons (ps_if (qt m_eq (mv 3) pe_int (nomark _)) (pss_one (ps_ret (pe_join pe_str (pe_op op_cat (pe_slice sl_list (mv 2) po_none (po_some (mv 4))) (pe_slice sl_list (mv 2) (po_some (pe_op m_add (mv 4) pe_int)) po_none))))) pss_nil)
    (pss_cons (ps_if (qt m_eq (mv 3) pe_int (nomark _)) (pss_one (ps_ret (pe_join pe_str (pe_op op_cat (pe_slice sl_list (mv 2) po_none (po_some (pe_op m_add (mv 4) pe_int))) (pe_slice sl_list (mv 2) (po_some (mv 4)) po_none))))) pss_nil)
    (pss_cons (ps_if (qt m_eq (mv 3) pe_int (nomark _)) (pss_one (ps_ret (pe_join pe_str (pe_slice sl_list (mv 2) po_none (po_some (mv 4)))))) pss_nil)
    (pss_cons (ps_if (qt m_eq (mv 3) pe_int (nomark _)) (pss_one (ps_ret (pe_join pe_str (pe_op op_cat (mv 2) (pe_lst (pa_cons (mv 6) pa_nil)))))) pss_nil)
    (pss_cons (ps_par (i := 7) (j := 8) rfl sc__law_bent.nd rfl rfl (by decide) rfl rfl (pa_cons (pe_c c__law_lot hr (by decide) rfl (pa_cons (mv 0) (pa_cons (pe_op m_add (pe_callB call_len (by rfl) T.n_len (by decide +kernel) (pa_cons (mv 1) pa_nil)) pe_int) pa_nil))) (pa_cons pe_str pa_nil)) (by rfl))
    (pss_one (ps_ret (pe_op op_add_str (pe_op op_add_str (pe_slice sl_str (mv 1) po_none (po_some (mv 7))) (pe_ix ix_str (mv 8) (pe_c c__law_lot hr (by decide) rfl (pa_cons (mv 0) (pa_cons (pe_callB call_len (by rfl) T.n_len (by decide +kernel) (pa_cons (mv 8) pa_nil)) pa_nil))) (fun _ _ => rfl))) (pe_slice sl_str (mv 1) (po_some (pe_op m_sub (pe_op m_add (mv 7) (mv 3)) pe_int)) po_none)))))))))))))), ?_⟩
    refine ⟨⟨_, rfl⟩, _, _, rfl, rfl, by decide +kernel, Nat.le_trans (Nat.add_le_add_right (Nat.le_trans ht hm) 2) (by decide), fun a na => ?_⟩
    have x1 := Ext.upd (o := .lst ((wds t).map V.str)) na
    have ha1 : (upd H a (.lst ((wds t).map V.str))) a = some (.lst ((wds t).map V.str)) := upd_same
    have ur1 := ur.keep x1
    have apq := ur.ne_p na
    have wtw := wds_wt t
    have sgw := fun (y : Str) (hy : y ∈ wds t) => wds_sg hs y hy
    have ne := wds_ne t
    generalize upd H a (.lst ((wds t).map V.str)) = H1 at x1 ha1 ur1 ⊢
    generalize wds t = ws at ha1 wtw sgw ne
    have lw : ws.length ≤ 300001 := by have := wt_len ws; omega
    have pos : 1 ≤ ws.length := by
      cases ws with
      | nil => exact absurd rfl ne
      | cons x r => simp
    have lew := fun (y : Str) (hy : y ∈ ws) => wt_mem hy
    refine ⟨p, q, 8, n, rfl, ur1, by omega, by decide, by decide, fun H2 way w0 w1 ur2 fr2 => ?_⟩
    have ha2 := fr2 _ _ ha1 (nin2 apq)
    have f02 : Frm [p, q] H H2 := (Frm.ext x1).trans fr2
    clear ur1 fr2 x1 ha1
    refine ⟨_, _, rfl, ?_⟩
    have big : ((ws.length : Nat) : Int) < 2 ^ 1000 := Int.lt_of_le_of_lt (b := 300001) (by omega) (by decide +kernel)
    refine ⟨_, _, rfl, .inl ⟨_, SqL.of ha2, rfl⟩, ?_⟩
    rw [List.length_map]
    refine ⟨p, q, _, _, rfl, ur2, by omega, by omega, big, fun H3 sp s0 s1 ur3 fr3 => ?_⟩
    have ha3 := fr3 _ _ ha2 (nin2 apq)
    have f03 := f02.trans fr3
    clear ur2 fr3 ha2 f02
    refine ⟨(by show 12 ≤ sizeLine; decide), fun b nb => ?_⟩
    rw [odds_v]
    have x4 := Ext.upd (o := .lst (ODDS.map V.str)) nb
    have hb4 : (upd H3 b (.lst (ODDS.map V.str))) b = some (.lst (ODDS.map V.str)) := upd_same
    have ha4 := x4 _ _ ha3
    have ur4 := ur3.keep x4
    have f04 := f03.trans (Frm.ext x4)
    have bpq := ur3.ne_p nb
    have ab : a ≠ b := ne_of_none ha3 nb
    generalize upd H3 b (.lst (ODDS.map V.str)) = H4 at hb4 ha4 ur4 f04 ⊢
    clear ha3 ur3 f03 x4 nb
    -- a word
    refine ⟨b, a, _, _, rfl, rfl, hb4, ha4, by rw [List.length_map, List.length_map]; exact Nat.le_trans (show ODDS.length + ws.length ≤ 300013 by have e : ODDS.length = 12 := rfl; omega) (by decide), fun c nc => ?_⟩
    rw [← List.map_append]
    have x5 := Ext.upd (o := .lst ((ODDS ++ ws).map V.str)) nc
    have hc5 : (upd H4 c (.lst ((ODDS ++ ws).map V.str))) c = some (.lst ((ODDS ++ ws).map V.str)) := upd_same
    have ha5 := x5 _ _ ha4
    have ur5 := ur4.keep x5
    have cpq := ur4.ne_p nc
    have f05 := f04.trans (Frm.ext x5)
    generalize upd H4 c (.lst ((ODDS ++ ws).map V.str)) = H5 at hc5 ha5 ur5 f05 ⊢
    clear ha4 ur4 f04 x5 nc hb4
    refine ⟨_, _, rfl, .inl ⟨_, SqL.of ha5, rfl⟩, ?_⟩
    rw [List.length_map]
    have big2 : (12 : Int) + ((ws.length : Nat) : Int) < 2 ^ 1000 := Int.lt_of_le_of_lt (b := 300013) (by omega) (by decide +kernel)
    refine ⟨p, q, _, _, rfl, ur5, by omega, by omega, big2, fun H6 ix i0 i1 ur6 fr6 => ?_⟩
    have ha6 := fr6 _ _ ha5 (nin2 apq)
    have hc6 := fr6 _ _ hc5 (nin2 cpq)
    have f06 := f05.trans fr6
    clear ha5 hc5 ur5 f05 fr6
    have lt : ix.toNat < (ODDS ++ ws).length := by rw [List.length_append]; have e : ODDS.length = 12 := rfl; omega
    obtain ⟨sw, hsw⟩ : ∃ sw, (ODDS ++ ws)[ix.toNat]? = some sw := ⟨_, List.getElem?_eq_getElem lt⟩
    refine ⟨_, .str sw, .inl (SqL.of hc6), atI_at i0 (by rw [List.getElem?_map, hsw]; rfl), ?_⟩
    have msw := List.mem_of_getElem? hsw
    have lsw : sw.length ≤ m + 8 := by
      rcases List.mem_append.mp msw with h | h
      · have := odds_len sw h; omega
      · have := lew sw h; omega
    have ssw : Sg sw := by
      rcases List.mem_append.mp msw with h | h
      · exact odds_sg sw h
      · exact sgw sw h
    -- joined
    have join : ∀ (ys : List Str) (y : Addr) (H' : Hp), H' y = some (.lst (ys.map V.str)) → wt ys ≤ 2 * m + 20 → (∀ z ∈ ys, Sg z) → UrnAt (n + 1 + 1 + 1) p q H' → Frm [p, q] H H' →
        ∃ a2 p2, ∃ zs : List Str, V.str " " = .str a2 ∧ [V.ref y] = [.ref p2] ∧ (SqL K H' p2 (zs.map V.str) ∨ SqT K H' p2 (zs.map V.str)) ∧ (zs.map (·.length)).sum + zs.length * a2.length ≤ 16777216 ∧ Q (.str (Txt.join a2 zs)) H' :=
      fun ys y H' hy hw hz u f => ⟨_, y, ys, rfl, rfl, .inl (SqL.of hy), join_fit hw (by omega), k H' _ (Nat.le_trans join_le hw) (join_sg hz) (u.mono (by omega)) f⟩
    have sp0 : sp = ((sp.toNat : Nat) : Int) := by omega
    have lsp : sp.toNat < ws.length := by omega
    have mt := fun {j : Nat} (z : Str) (h : z ∈ ws.take j) => sgw z (List.mem_of_mem_take h)
    have md := fun {j : Nat} (z : Str) (h : z ∈ ws.drop j) => sgw z (List.mem_of_mem_drop h)
    have lim : ∀ {k : Nat}, k ≤ 1000000 → k ≤ sizeLine := fun h2 => Nat.le_trans h2 (by decide)
    have msp : ∀ {j : Nat}, (ws.take j).length ≤ 300001 := fun {j} => Nat.le_trans (List.length_take_le' _ _) lw
    have mdp : ∀ {j : Nat}, (ws.drop j).length ≤ 300001 := fun {j} => by rw [List.length_drop]; omega
    -- put in, exchanged
    refine ifD (p := way < 2) (fun c2 => ?_) (fun c2 => ?_)
    · refine ⟨⟨_, rfl⟩, _, rfl, a, _, rfl, SqL.of ha6, fun l1 n1 => ?_⟩
      rw [cut_to s0, ← List.map_take]
      have y1 := Ext.upd (o := .lst ((ws.take sp.toNat).map V.str)) n1
      have h1 : (upd H6 l1 (.lst ((ws.take sp.toNat).map V.str))) l1 = some (.lst ((ws.take sp.toNat).map V.str)) := upd_same
      have ha7 := y1 _ _ ha6
      have ur7 := ur6.keep y1
      have f07 := f06.trans (Frm.ext y1)
      generalize upd H6 l1 (.lst ((ws.take sp.toNat).map V.str)) = H7 at h1 ha7 ur7 f07 ⊢
      refine ⟨(by show 1 ≤ sizeLine; decide), fun l2 n2 => ?_⟩
      have y2 := Ext.upd (o := .lst ([sw].map V.str)) n2
      have h2 : (upd H7 l2 (.lst [.str sw])) l2 = some (.lst ([sw].map V.str)) := upd_same
      have h1 := y2 _ _ h1
      have ha8 := y2 _ _ ha7
      have ur8 := ur7.keep y2
      have f08 := f07.trans (Frm.ext y2)
      refine ⟨l1, l2, _, _, rfl, rfl, h1, h2, lim (by rw [List.length_map, List.length_map]; have := msp (j := sp.toNat); simp; omega), fun l3 n3 => ?_⟩
      rw [← List.map_append]
      have y3 := Ext.upd (o := .lst ((ws.take sp.toNat ++ [sw]).map V.str)) n3
      have h3 := upd_same (H := upd H7 l2 (.lst [.str sw])) (a := l3) (o := .lst ((ws.take sp.toNat ++ [sw]).map V.str))
      have ha9 := y3 _ _ ha8
      have ur9 := ur8.keep y3
      have f09 := f08.trans (Frm.ext y3)
      generalize upd (upd H7 l2 (.lst [.str sw])) l3 (.lst ((ws.take sp.toNat ++ [sw]).map V.str)) = H9 at h3 ha9 ur9 f09 ⊢
      refine ⟨_, rfl, a, _, rfl, SqL.of ha9, fun l4 n4 => ?_⟩
      rw [cut_from (show 0 ≤ sp + way by omega), ← List.map_drop]
      have y4 := Ext.upd (o := .lst ((ws.drop (sp + way).toNat).map V.str)) n4
      have h4 : (upd H9 l4 (.lst ((ws.drop (sp + way).toNat).map V.str))) l4 = some (.lst ((ws.drop (sp + way).toNat).map V.str)) := upd_same
      have h3 := y4 _ _ h3
      have ur10 := ur9.keep y4
      have f10 := f09.trans (Frm.ext y4)
      refine ⟨l3, l4, _, _, rfl, rfl, h3, h4, lim (by rw [List.length_map, List.length_map, List.length_append]; have := msp (j := sp.toNat); have := mdp (j := (sp + way).toNat); simp; omega), fun l5 n5 => ?_⟩
      rw [← List.map_append]
      refine join (ws.take sp.toNat ++ [sw] ++ ws.drop (sp + way).toNat) l5 _ upd_same ?_ ?_ (ur10.keep (Ext.upd n5)) (f10.trans (Frm.ext (Ext.upd n5)))
      · rw [wt_app, wt_app, wt_cons]
        have e1 := wt_cut ws sp.toNat
        have e2 := wt_drop (ws := ws) (a := sp.toNat) (b := (sp + way).toNat) (by omega)
        have e3 : wt [] = 0 := rfl
        omega
      · intro z hz
        rcases List.mem_append.mp hz with hz | hz
        · rcases List.mem_append.mp hz with hz | hz
          · exact mt z hz
          · rw [List.mem_singleton.mp hz]; exact ssw
        · exact md z hz
    -- two parts
    have two : ∀ (u v : Int), 0 ≤ u → 0 ≤ v → wt (ws.take u.toNat ++ ws.drop v.toNat) ≤ 2 * m + 20 → ∀ l1, H6 l1 = none → ∀ l4, upd H6 l1 (.lst (cutV (ws.map V.str) none (some u))) l4 = none → ∀ l5, upd (upd H6 l1 (.lst (cutV (ws.map V.str) none (some u)))) l4 (.lst (cutV (ws.map V.str) (some v) none)) l5 = none →
        ∃ a2 p2, ∃ zs : List Str, V.str " " = .str a2 ∧ [V.ref l5] = [.ref p2] ∧ (SqL K (upd (upd (upd H6 l1 (.lst (cutV (ws.map V.str) none (some u)))) l4 (.lst (cutV (ws.map V.str) (some v) none))) l5 (.lst (cutV (ws.map V.str) none (some u) ++ cutV (ws.map V.str) (some v) none))) p2 (zs.map V.str) ∨ SqT K (upd (upd (upd H6 l1 (.lst (cutV (ws.map V.str) none (some u)))) l4 (.lst (cutV (ws.map V.str) (some v) none))) l5 (.lst (cutV (ws.map V.str) none (some u) ++ cutV (ws.map V.str) (some v) none))) p2 (zs.map V.str)) ∧
          (zs.map (·.length)).sum + zs.length * a2.length ≤ 16777216 ∧ Q (.str (Txt.join a2 zs)) (upd (upd (upd H6 l1 (.lst (cutV (ws.map V.str) none (some u)))) l4 (.lst (cutV (ws.map V.str) (some v) none))) l5 (.lst (cutV (ws.map V.str) none (some u) ++ cutV (ws.map V.str) (some v) none))) := by
      intro u v u0 v0 hw l1 n1 l4 n4 l5 n5
      have eA : cutV (ws.map V.str) none (some u) = (ws.take u.toNat).map V.str := by rw [cut_to u0, List.map_take]
      have eB : cutV (ws.map V.str) (some v) none = (ws.drop v.toNat).map V.str := by rw [cut_from v0, List.map_drop]
      rw [eA] at n4
      rw [eA, eB] at n5 ⊢
      rw [← List.map_append]
      refine join (ws.take u.toNat ++ ws.drop v.toNat) l5 _ upd_same hw (fun z hz => ?_) (((ur6.keep (Ext.upd n1)).keep (Ext.upd n4)).keep (Ext.upd n5)) (((f06.trans (Frm.ext (Ext.upd n1))).trans (Frm.ext (Ext.upd n4))).trans (Frm.ext (Ext.upd n5)))
      rcases List.mem_append.mp hz with hz | hz
      · exact mt z hz
      · exact md z hz
    have cl : ∀ {u v : Int}, 0 ≤ u → 0 ≤ v → (cutV (ws.map V.str) none (some u)).length + (cutV (ws.map V.str) (some v) none).length ≤ sizeLine := fun {u v} u0 v0 => by
      rw [cut_to u0, cut_from v0, ← List.map_take, ← List.map_drop, List.length_map, List.length_map]
      have := msp (j := u.toNat)
      have := mdp (j := v.toNat)
      exact lim (by omega)
    -- left out
    refine ifD (p := way = 2) (fun c3 => ?_) (fun c3 => ?_)
    · refine ⟨⟨_, rfl⟩, _, rfl, a, _, rfl, SqL.of ha6, fun l1 n1 => ?_⟩
      refine ⟨_, rfl, a, _, rfl, SqL.of (Ext.upd n1 _ _ ha6), fun l4 n4 => ?_⟩
      refine ⟨l1, l4, _, _, rfl, rfl, Ext.upd n4 _ _ upd_same, upd_same, cl s0 (by omega), fun l5 n5 => ?_⟩
      refine two sp (sp + 1) s0 (by omega) ?_ l1 n1 l4 n4 l5 n5
      rw [wt_app]
      have e1 := wt_cut ws sp.toNat
      have e2 := wt_drop (ws := ws) (a := sp.toNat) (b := (sp + 1).toNat) (by omega)
      omega
    -- twice
    refine ifD (p := way = 3) (fun c4 => ?_) (fun c4 => ?_)
    · refine ⟨⟨_, rfl⟩, _, rfl, a, _, rfl, SqL.of ha6, fun l1 n1 => ?_⟩
      refine ⟨_, rfl, a, _, rfl, SqL.of (Ext.upd n1 _ _ ha6), fun l4 n4 => ?_⟩
      refine ⟨l1, l4, _, _, rfl, rfl, Ext.upd n4 _ _ upd_same, upd_same, cl (by omega) s0, fun l5 n5 => ?_⟩
      refine two (sp + 1) sp (by omega) s0 ?_ l1 n1 l4 n4 l5 n5
      rw [wt_app]
      have e1 := wt_take (ws := ws) (a := (sp + 1).toNat)
      have e2 := wt_cut ws sp.toNat
      omega
    -- a beginning
    refine ifD (p := way = 4) (fun c5 => ?_) (fun c5 => ?_)
    · refine ⟨⟨_, rfl⟩, _, rfl, a, _, rfl, SqL.of ha6, fun l1 n1 => ?_⟩
      rw [cut_to s0, ← List.map_take]
      refine join (ws.take sp.toNat) l1 _ upd_same ?_ (fun z hz => mt z hz) (ur6.keep (Ext.upd n1)) (f06.trans (Frm.ext (Ext.upd n1)))
      have e1 := wt_take (ws := ws) (a := sp.toNat)
      omega
    -- at the end
    refine ifD (p := way = 5) (fun c6 => ?_) (fun c6 => ?_)
    · refine ⟨⟨_, rfl⟩, (by show 1 ≤ sizeLine; decide), fun l2 n2 => ?_⟩
      have y2 := Ext.upd (o := .lst ([sw].map V.str)) n2
      have h2 : (upd H6 l2 (.lst [.str sw])) l2 = some (.lst ([sw].map V.str)) := upd_same
      refine ⟨a, l2, _, _, rfl, rfl, y2 _ _ ha6, h2, lim (by rw [List.length_map, List.length_map]; simp; omega), fun l3 n3 => ?_⟩
      rw [← List.map_append]
      refine join (ws ++ [sw]) l3 _ upd_same ?_ (fun z hz => ?_) ((ur6.keep y2).keep (Ext.upd n3)) ((f06.trans (Frm.ext y2)).trans (Frm.ext (Ext.upd n3)))
      · rw [wt_app, wt_cons]
        have e3 : wt [] = 0 := rfl
        omega
      · rcases List.mem_append.mp hz with hz | hz
        · exact sgw z hz
        · rw [List.mem_singleton.mp hz]; exact ssw
    -- a sign
    have lt_ : t.length ≤ sizeLine := Nat.le_trans (Nat.le_trans ht hm) (by decide)
    refine ⟨_, _, rfl, ⟨lt_, rfl⟩, ?_⟩
    have big4 : ((t.length : Nat) : Int) + 1 < 2 ^ 1000 := Int.lt_of_le_of_lt (b := 300001) (by omega) (by decide +kernel)
    refine ⟨p, q, _, _, rfl, ur6, by omega, by omega, big4, fun H7 cu u0 u1 ur7 fr7 => ?_⟩
    have f07 := f06.trans fr7
    refine ⟨_, _, rfl, ?_⟩
    refine ⟨_, rfl, t, rfl, lt_, ?_⟩
    refine ⟨_, _, rfl, ⟨by rw [signs_len]; decide, rfl⟩, ?_⟩
    rw [signs_len]
    refine ⟨p, q, _, _, rfl, ur7, by omega, by decide, by decide, fun H8 si v0 v1 ur8 fr8 => ?_⟩
    have f08 := f07.trans fr8
    obtain ⟨c, hc, hcl⟩ := signs_at si.toNat (by omega)
    have lc1 : ((⟨#[c]⟩ : Str)).length = 1 := rfl
    have l1 : (cutS t none (some cu)).length ≤ 300000 := Nat.le_trans (cutS_length _ _ _) (Nat.le_trans ht hm)
    have l2 : (cutS t (some (cu + way - 6)) none).length ≤ 300000 := Nat.le_trans (cutS_length _ _ _) (Nat.le_trans ht hm)
    have k1 := cutS_length t none (some cu)
    have k2 := cutS_length t (some (cu + way - 6)) none
    refine ⟨SIGNS, si, c, rfl, rfl, by rw [signs_len]; decide, atI_at v0 hc, _, _, rfl, rfl, by rw [lc1]; exact lim (by omega), ?_⟩
    refine ⟨_, rfl, t, rfl, lt_, _, _, rfl, rfl, by rw [app_len, lc1]; exact lim (by omega), ?_⟩
    refine k H8 _ ?_ ?_ (ur8.mono (by omega)) f08
    · rw [app_len, app_len, lc1]; omega
    · refine app_sg (app_sg (cut_sg hs) fun x hx => ?_) (cut_sg hs)
      have : x ∈ [c] := hx
      rw [List.mem_singleton.mp this]; exact hcl
end
end NB

set_option Elab.async false
set_option linter.all false
set_option maxRecDepth 100000
set_option maxHeartbeats 8000000
/-! K6 (k82): the law of texts of no log -/
namespace NB
open PySem PySem.Spec L2
open PyProof.Rows (envOfC)
open C8 (pe_c pe_mk pe_mt pe_mt0 pe_gc fnScope fnBody fnArgs fnScope_by Cal Met Mak)
theorem Sm.str' {z : Str} {m : Nat} (h : PyData.canLay0 (.str z) = true) (hl : z.length ≤ m) : Sm m 0 (.str z) := ⟨h, rfl, rfl, Nat.le_refl _, rfl, hl⟩
theorem Sm.tup2 {x y : PyData} {n a b : Nat} (h1 : Sm a n x) (h2 : Sm b n y) : Sm (a + b + 2) (n + 1) (.tuple [x, y]) := by
  refine ⟨?_, ?_, ?_, ?_, ?_, ?_⟩
  · simp only [PyData.canLay0, PyData.canLayAll0, h1.lay, h2.lay, Bool.and_self]
  · simp only [PyData.showable, PyData.showableAll, h1.sho, h2.sho, Bool.and_self]
  · simp only [PyData.hasDict, PyData.hasDictAll, h1.nod, h2.nod, Bool.or_self]
  · show max x.depth (max y.depth 0) + 1 ≤ n + 1
    have := h1.dep
    have := h2.dep
    omega
  · simp only [PyData.intsShort, PyData.intsShortAll, h1.ish, h2.ish, Bool.and_self]
  · show PyData.weightAll [x, y] ≤ _
    simp only [PyData.weightAll]
    have := h1.wt
    have := h2.wt
    omega
theorem Sm.name {z : Str} (h : nameB z = true) : Sm 8 0 (.str z) := by
  refine .str' (strOk_name h) ?_
  unfold nameB at h
  simp only [Bool.and_eq_true, decide_eq_true_eq] at h
  exact h.1.2
theorem Sm.ent {e : Str × Int} (h : nameB e.1 = true) (h0 : 0 ≤ e.2) (h1 : e.2 < 10 ^ 60) : Sm 210 1 (encE e) := .tup2 (.name h) (.int (by omega))
theorem Sm.ents {es : List (Str × Int)} (h : ∀ e ∈ es, nameB e.1 = true ∧ 0 ≤ e.2 ∧ e.2 < 10 ^ 60) (hl : es.length ≤ 200) : Sm 42200 2 (encL es) := by
  refine (Sm.list (W := 210) (n := 1) (m := 200) (fun d hd => ?_) (by rw [List.length_map]; exact hl)).mono (by decide) (by decide)
  obtain ⟨e, he, rfl⟩ := List.mem_map.mp hd
  exact .ent (h e he).1 (h e he).2.1 (h e he).2.2
theorem Sm.names {ns : List Str} (h : ∀ z ∈ ns, nameB z = true) (hl : ns.length ≤ 12) : Sm 108 1 (encS ns) := by
  refine (Sm.list (W := 8) (n := 0) (m := 12) (fun d hd => ?_) (by rw [List.length_map]; exact hl)).mono (by decide) (by decide)
  obtain ⟨e, he, rfl⟩ := List.mem_map.mp hd
  exact .name (h e he)
/-- a def that may be called by keywords, too -/
structure Dk (K : PySem.W.Frag) (mg : Str → Option Value) (x : Str) (st : Stmt) (ps : List Str) : Prop where
  ex : ∃ f fd, C8.Def K mg x st f fd ∧ Binds K fd ps [] ∧ fd.defaults = .none
/-- the classes of errors -/
structure EAds where
  (cB cT fT c1 c2 c3 c4 c5 : Addr)
  dT : FuncData
/-- what the law is read over -/
structure Tops (K : PySem.W.Frag) (mg : Str → Option Value) (cL cX : Addr) (A0 : Ads) (B0 : EAds) : Prop where
  T : Tz K mg cL cX
  Kc : KindC K cL cX
  ML : LogM K cL false A0
  MX : LogM K cX true A0
  Ms : Ms K A0
  T2 : TxtE K mg B0.cB B0.cT B0.fT B0.dT
  T3 : OthE K mg B0.cT B0.c1 B0.c2 B0.c3 B0.c4 B0.c5
  mgL : mg "Log" = some (.ref cL)
  mgX : mg "LosingLog" = some (.ref cX)
  d_is_integer : Dx K mg "is_integer" s_is_integer ["thing"]
  d_is_size : Dx K mg "is_size" s_is_size ["thing"]
  d_is_name_logs : Dy K mg "is_name_logs" "is_name" s_is_name_logs ["thing"]
  d_are_servers : Dx K mg "are_servers" s_are_servers ["thing"]
  d_is_server : Dx K mg "is_server" s_is_server ["servers", "thing"]
  d_is_entry : Dx K mg "is_entry" s_is_entry ["servers", "thing"]
  d_are_entries : Dx K mg "are_entries" s_are_entries ["servers", "thing"]
  d_number_in : Dx K mg "number_in" s_number_in ["word"]
  d_is_name_texts : Dy K mg "is_name_texts" "is_name" s_is_name_texts ["word"]
  d_size_in : Dx K mg "size_in" s_size_in ["word"]
  d_servers_in : Dx K mg "servers_in" s_servers_in ["word"]
  d_entry_in : Dx K mg "entry_in" s_entry_in ["word", "servers"]
  d_log_of_texts : Dy K mg "log_of_texts" "log_of" s_log_of_texts ["kind", "size", "servers", "entries"]
  d_read_log : Dk K mg "read_log" s_read_log ["text"]
  d_law_urn : Dx K mg "_law_urn" s__law_urn ["script"]
  d_law_lot : Dx K mg "_law_lot" s__law_lot ["urn", "many"]
  d_law_names : Dx K mg "_law_names" s__law_names ["urn", "most"]
  d_law_rows : Dx K mg "_law_rows" s__law_rows ["urn", "names", "many"]
  d_law_text : Dx K mg "_law_text" s__law_text ["wide", "names", "rows", "is_losing"]
  d_law_number : Dx K mg "_law_number" s__law_number ["word"]
  d_law_is_name : Dx K mg "_law_is_name" s__law_is_name ["word"]
  d_law_can_stand : Dx K mg "_law_can_stand" s__law_can_stand ["words", "spot"]
  d_law_due : Dx K mg "_law_due" s__law_due ["written"]
  d_law_told : Dx K mg "_law_told" s__law_told ["written", "by_name"]
  d_law_bent : Dx K mg "_law_bent" s__law_bent ["urn", "written"]
section
variable {P : Program} {w : World} {K : PySem.W.Frag} {mg : Str → Option Value} {base : Heap} {cL cX : Addr} {A0 : Ads} {B0 : EAds}
theorem Tops.integer (S : Tops K mg cL cX A0 B0) : Cal P w K mg base 1 "is_integer" (spInteger K) [] := ok_is_integer S.T S.d_is_integer
theorem Tops.server (S : Tops K mg cL cX A0 B0) : Cal P w K mg base 1 "is_server" (spServer K) [] := ok_is_server S.T S.d_is_server
theorem Tops.size (S : Tops K mg cL cX A0 B0) : Cal P w K mg base 2 "is_size" spSizeB [] := ok_is_size S.T S.d_is_size S.integer
theorem Tops.servers (S : Tops K mg cL cX A0 B0) : Cal P w K mg base 2 "are_servers" spCrew [] := ok_are_servers S.T S.d_are_servers (ok_is_name S.T S.d_is_name_logs)
theorem Tops.entry (S : Tops K mg cL cX A0 B0) : Cal P w K mg base 2 "is_entry" (spEntry K) [] := ok_is_entry S.T S.d_is_entry S.server S.integer
theorem Tops.entries (S : Tops K mg cL cX A0 B0) : Cal P w K mg base 3 "are_entries" spEntries [] := ok_are_entries S.T S.d_are_entries S.entry
theorem Tops.initL (S : Tops K mg cL cX A0 B0) : FnOk P w K mg base C8.CX0 4 A0.fI A0.dI ["self", "size", "servers", "entries"] (spInit cL) := ok_init S.T S.ML.toLogC S.Ms.mI S.size S.servers S.entries
theorem Tops.initX (S : Tops K mg cL cX A0 B0) : FnOk P w K mg base C8.CX0 4 A0.fI A0.dI ["self", "size", "servers", "entries"] (spInit cX) := ok_init S.T S.MX.toLogC S.Ms.mI S.size S.servers S.entries
theorem Tops.makL (S : Tops K mg cL cX A0 B0) : Mak P w K mg base 4 "Log" cL (spInit cL) [] := ⟨_, _, _, _, S.ML.mkk, S.initL, S.mgL, S.Ms.mI.b, .nil⟩
theorem Tops.makX (S : Tops K mg cL cX A0 B0) : Mak P w K mg base 4 "LosingLog" cX (spInit cX) [] := ⟨_, _, _, _, S.MX.mkk, S.initX, S.mgX, S.Ms.mI.b, .nil⟩
theorem Tops.numIn (S : Tops K mg cL cX A0 B0) : Cal P w K mg base 1 "number_in" spNumIn [] := ok_number_in S.T S.d_number_in
theorem Tops.readF (S : Tops K mg cL cX A0 B0) {f : Addr} {fd : FuncData} (F : C8.Fun K "read_log" "read_log" s_read_log f fd) : FnOk P w K mg base (L2.CX P w) 7 f fd ["text"] (spReadX cL cX B0.cT) :=
  ok_read S.T S.Kc S.T2 F (ok_size_in S.T S.d_size_in S.numIn) (ok_servers_in S.T S.d_servers_in (ok_is_nameT S.T S.d_is_name_texts)) (ok_entry_in S.T S.d_entry_in S.numIn) (ok_logT S.T S.Kc S.d_log_of_texts S.makL S.makX)
theorem Tops.read (S : Tops K mg cL cX A0 B0) : CalX P w K mg base 7 "read_log" (spReadX cL cX B0.cT) := by
  obtain ⟨f, fd, F, b, df⟩ := S.d_read_log.ex
  exact ⟨f, fd, _, S.readF F.fn, F.mgf, F.kp, b⟩
theorem Tops.readK (S : Tops K mg cL cX A0 B0) : CalXK P w K mg base 7 "read_log" (spReadX cL cX B0.cT) ["text"] gOne := by
  obtain ⟨f, fd, F, b, df⟩ := S.d_read_log.ex
  exact ⟨f, fd, _, _, S.readF F.fn, F.mgf, F.kp, kb_read F.fn df⟩
theorem Tops.log (S : Tops K mg cL cX A0 B0) (b : Bool) : LogM K (kC cL cX b) b A0 := by
  cases b with
  | true => exact S.MX
  | false => exact S.ML
theorem Tops.lot (S : Tops K mg cL cX A0 B0) : Cal P w K mg base 1 "_law_lot" spLot [] := ok_lot S.T S.d_law_lot
theorem Tops.told (S : Tops K mg cL cX A0 B0) : Cal P w K mg base 9 "_law_told" (spTold K) [] := ok_told S.T S.Ms S.log S.T2 S.T3 S.d_law_told S.read S.readK
theorem Tops.due (S : Tops K mg cL cX A0 B0) : Cal P w K mg base 3 "_law_due" (spDue K) [] := ok_due S.T S.d_law_due (ok_stand S.T S.d_law_can_stand (ok_numL S.T S.d_law_number) (ok_nameL S.T S.d_law_is_name))
/-- how it is shown -/
def showO : Rd3 → Str
  | .inl k => Str.ofString (toString ((k : Nat) : Int))
  | .inr (b, sz, ns, es) => PyData.shown (.list [.str (kdB b), .int sz, encS ns, encL es])
theorem rep_has {H : Hp} {v : V} {o : Rd3} {t : Str} {Q : VK} (ho : Out (wds t) o) (ht : t.length ≤ LIM) (hv : HasO K H v o) (q : Q (.str (showO o)) H) : rRepA K [v] H Q := by
  cases ho with
  | @bad k hb =>
    left
    obtain rfl : v = .int (k : Nat) := hv
    refine ⟨_, rfl, ?_, q⟩
    have h1 := hb.lt
    have h2 := wds_num t
    have h3 : k ≤ 1000001 := by
      have : t.length ≤ 1000000 := ht
      omega
    have e : ((k : Nat) : Int).natAbs = k := by omega
    rw [e]
    refine Nat.lt_trans (pow_log (Nat.lt_of_le_of_lt h3 (by decide))) (by decide)
  | @ok b sz ns es rd =>
    right
    have tx := rd.tx
    refine rep_of (W := 168804) (n := 3) hv ?_ rfl (by decide) (by decide) q
    refine (Sm.list (ds := [.str (kdB b), .int sz, encS ns, encL es]) (W := 42200) (n := 2) (m := 4) (fun d hd => ?_) (Nat.le_refl 4)).mono (by decide) (by decide)
    simp only [List.mem_cons, List.not_mem_nil, or_false] at hd
    rcases hd with rfl | rfl | rfl | rfl
    · exact (Sm.str' (lay_txt fun c hc => (kdB_ch b c hc).2) (kdB_len b)).mono (by decide) (by decide)
    · exact (Sm.int (by have := tx.so.1; have := tx.so.2; omega)).mono (by decide) (by decide)
    · exact (Sm.names tx.cr.nam tx.cr.few).mono (by decide) (by decide)
    · exact (Sm.ents (fun e he => ⟨tx.cr.nam _ (tx.ok.ok e he).1, (tx.ok.ok e he).2, tx.big e he⟩) tx.ok.few)
theorem sg_of_lay {z : Str} (h : PyData.canLay0 (.str z) = true) : Sg z := fun c hc => by
  have h2 : z.cps.all (· < 0x110000) = true := h
  rw [← Array.all_toList, List.all_eq_true] at h2
  exact of_decide_eq_true (h2 c hc)
/-- a text that may be read -/
structure OkN (z : Str) (n : Nat) : Prop where
  le : z.length ≤ n
  sg : Sg z
theorem fold_app : ∀ (l : List (Array Nat)) (acc : Array Nat), (l.foldl (· ++ ·) acc).toList = acc.toList ++ (l.map Array.toList).flatten
  | [], acc => by simp
  | a :: l, acc => by
    rw [List.foldl_cons, fold_app l, Array.toList_append, List.map_cons, List.flatten_cons, List.append_assoc]
theorem OkN.mul {z : Str} {n : Nat} (h : OkN z n) (k : Nat) : OkN (Txt.mul z (k : Int)) (n * k) := by
  unfold Txt.mul
  by_cases h1 : (k : Int) < 1
  · rw [if_pos h1]
    exact ⟨Nat.zero_le _, fun c hc => nomatch hc⟩
  · rw [if_neg h1]
    by_cases h2 : ((k : Int) == 1 || z.length == 0) = true
    · rw [if_pos h2]
      refine ⟨Nat.le_trans h.le ?_, h.sg⟩
      have : 1 ≤ k := by omega
      exact Nat.le_mul_of_pos_right n this
    · rw [if_neg h2]
      have e : tl (⟨(List.replicate ((k : Nat) : Int).toNat z.cps).foldl (· ++ ·) #[]⟩ : Str) = (List.replicate k (tl z)).flatten := by
        show ((List.replicate ((k : Nat) : Int).toNat z.cps).foldl (· ++ ·) #[]).toList = _
        rw [fold_app, List.map_replicate]
        rfl
      refine ⟨?_, fun c hc => ?_⟩
      · rw [len_tl', e, List.length_flatten, List.map_replicate, List.sum_replicate_nat, ← len_tl', Nat.mul_comm]
        exact Nat.mul_le_mul h.le (Nat.le_refl _)
      · rw [e] at hc
        obtain ⟨l, hl, hc⟩ := List.mem_flatten.mp hc
        rw [(List.mem_replicate.mp hl).2] at hc
        exact h.sg c hc
theorem OkN.mulI {z : Str} {n m : Nat} {k : Int} (h : OkN z n) (e : k = (m : Int)) : OkN (Txt.mul z k) (n * m) := by
  rw [e]; exact h.mul m
theorem OkN.app {a b : Str} {m n : Nat} (h : OkN a m) (g : OkN b n) : OkN (a ++ b) (m + n) := ⟨by rw [app_len]; have := h.le; have := g.le; omega, app_sg h.sg g.sg⟩
theorem OkN.fit {a b : Str} {m n : Nat} (h : OkN a m) (g : OkN b n) (l : m + n ≤ 100000) : a.length + b.length ≤ sizeLine := Nat.le_trans (Nat.add_le_add h.le g.le) (Nat.le_trans l (by decide))
theorem OkN.mono {a : Str} {m n : Nat} (h : OkN a m) (l : m ≤ n) : OkN a n := ⟨Nat.le_trans h.le l, h.sg⟩
def okT (z : Str) : Bool := decide (z.length ≤ 50) && (tl z).all fun c => decide (c < 1114112)
theorem okT_N {z : Str} (h : okT z = true) : OkN z 50 := by
  unfold okT at h
  simp only [Bool.and_eq_true, decide_eq_true_eq, List.all_eq_true] at h
  exact ⟨h.1, h.2⟩
theorem OkN.lim {z : Str} {n : Nat} (h : OkN z n) (l : n ≤ 1000000) : z.length ≤ LIM := Nat.le_trans h.le l
abbrev OkL (xs : List Str) : Prop := ∀ x ∈ xs, OkN x 20000
theorem okl_nil : OkL [] := fun _ h => nomatch h
theorem okl_cons {x : Str} {xs : List Str} {n : Nat} (h : OkN x n) (l : n ≤ 20000) (t : OkL xs) : OkL (x :: xs) := fun y hy => by
  rcases List.mem_cons.mp hy with rfl | hy
  · exact h.mono l
  · exact t y hy
theorem okl_lit {xs : List Str} (h : ∀ x ∈ xs, okT x = true) : OkL xs := fun x hx => (okT_N (h x hx)).mono (by decide)
theorem mul16 {z : Str} {k : Int} (h : z.length ≤ 16) (h0 : 0 ≤ k) (h1 : k ≤ 1000) : MulOk z k := PyProof.Rows.mulOk_of 16 1000 h h1 (by omega) (by decide) (by decide)
/-- a list of such texts at l -/
def TxL (H : Hp) (l : Addr) (n : Nat) : Prop := ∃ xs : List Str, H l = some (.lst (xs.map V.str)) ∧ xs.length ≤ n ∧ OkL xs
theorem TxL.new {H : Hp} {l : Addr} {ys : List Str} (h : OkL ys) : TxL (upd H l (.lst (ys.map V.str))) l ys.length := ⟨ys, upd_same, Nat.le_refl _, h⟩
theorem TxL.more {H : Hp} {l : Addr} {xs ys : List Str} {n : Nat} (hn : xs.length ≤ n) (hx : OkL xs) (h : OkL ys) : TxL (upd H l (.lst (xs.map V.str ++ ys.map V.str))) l (n + ys.length) := by
  refine ⟨xs ++ ys, by rw [upd_same, List.map_append], by rw [List.length_append]; omega, fun x hx2 => ?_⟩
  rcases List.mem_append.mp hx2 with h2 | h2
  · exact hx x h2
  · exact h x h2
def tTest (K : PySem.W.Frag) : TT := mT (tOp (mEqG fun b => !b) (tCB (rRepA K) (tCons (tCall (spTold K) [] C8.E0 (tCons (mV 8) (tCons (tC (.bl false)) tNil))) tNil)) (tCB (rRepA K) (tCons (tCall (spDue K) [] C8.E0 (tCons (mV 8) tNil)) tNil)))
def spLaw (K : PySem.W.Frag) : Sp := fun vs H Q _ => ∃ (a : Addr) (ns : List Int), vs = [.ref a] ∧ SqL K H a (ns.map V.int) ∧ ns.length ≤ 63 ∧ ∀ H', Q (.bl true) H'
theorem ok_law (S : Tops K mg cL cX A0 B0) {f : Addr} {fd : FuncData} (F : C8.Fun K "law" "law" s_law f fd) : FnG P w K mg base 10 f fd ["script"] (spLaw K) := by
  refine fnG_of F sc_law (fun vs H Q E h => ?_) (fun cdv A o s H vs Q E hr hgd h => ?_)
  · obtain ⟨a, ns, rfl, _⟩ := h; rfl
  · obtain ⟨a, ns, rfl, hS, hn, k⟩ := h
    have T := S.T
    have c__law_urn : Cal P w K mg base 1 "_law_urn" (spUrn K) [] := ok_urn T S.d_law_urn
    have c__law_lot : Cal P w K mg base 1 "_law_lot" spLot [] := S.lot
    have c__law_names : Cal P w K mg base 2 "_law_names" spNamesL [] := ok_namesL T S.d_law_names S.lot
    have c__law_rows : Cal P w K mg base 2 "_law_rows" spRowsL [] := ok_rowsL T S.d_law_rows S.lot
    have c__law_text : Cal P w K mg base 1 "_law_text" spText [] := ok_text T S.d_law_text
    have c__law_bent : Cal P w K mg base 2 "_law_bent" spBent [] := ok_bent T S.d_law_bent S.lot
    have c__law_told : Cal P w K mg base 9 "_law_told" (spTold K) [] := S.told
    have c__law_due : Cal P w K mg base 3 "_law_due" (spDue K) [] := S.due
    refine ⟨_, (pss_cons (ps_set (i := 1) sc_law.nd rfl (Or.inl rfl) (pe_c c__law_urn hr (by decide) rfl (pa_cons (mv 0) pa_nil)))
    (pss_cons (ps_for PassesOwn.never rfl (pi_range1 (by rfl) T.n_range (pa_cons (pe_op m_add pe_int (pe_op m_mul pe_int (pe_callB (call_min2 rfl) (by rfl) T.n_min (by decide +kernel) (pa_cons (pe_callB call_len (by rfl) T.n_len (by decide +kernel) (pa_cons (mv 0) pa_nil)) (pa_cons pe_int pa_nil))))) pa_nil)) (pg_name (i := 2) sc_law.nd rfl (Or.inl rfl))
    (pss_cons (ps_set (i := 3) sc_law.nd rfl (Or.inl rfl) (pe_c c__law_names hr (by decide) rfl (pa_cons (mv 1) (pa_cons pe_int pa_nil))))
    (pss_cons (ps_set (i := 4) sc_law.nd rfl (Or.inl rfl) (pe_ix m_ix (pe_lst (pa_cons (pe_op m_add pe_int (pe_c c__law_lot hr (by decide) rfl (pa_cons (mv 1) (pa_cons (pe_op m_pow pe_int pe_int) pa_nil)))) (pa_cons (pe_op m_add pe_int (pe_c c__law_lot hr (by decide) rfl (pa_cons (mv 1) (pa_cons pe_int pa_nil)))) pa_nil))) (pe_c c__law_lot hr (by decide) rfl (pa_cons (mv 1) (pa_cons pe_int pa_nil))) (fun _ _ => rfl)))
    (pss_cons (ps_set (i := 5) sc_law.nd rfl (Or.inl rfl) (pe_c c__law_text hr (by decide) rfl (pa_cons (mv 4) (pa_cons (mv 3) (pa_cons (pe_c c__law_rows hr (by decide) rfl (pa_cons (mv 1) (pa_cons (mv 3) (pa_cons (pe_c c__law_lot hr (by decide) rfl (pa_cons (mv 1) (pa_cons pe_int pa_nil))) pa_nil)))) (pa_cons (pe_cmpR m_eq (pe_c c__law_lot hr (by decide) rfl (pa_cons (mv 1) (pa_cons pe_int pa_nil))) pe_int (nomark _)) pa_nil))))))
    (pss_cons (ps_for PassesOwn.never rfl (pi_range1 (by rfl) T.n_range (pa_cons (pe_c c__law_lot hr (by decide) rfl (pa_cons (mv 1) (pa_cons pe_int pa_nil))) pa_nil)) (pg_name (i := 6) sc_law.nd rfl (Or.inl rfl))
    (pss_one (ps_set (i := 5) sc_law.nd rfl (Or.inl rfl) (pe_c c__law_bent hr (by decide) rfl (pa_cons (mv 1) (pa_cons (mv 5) pa_nil))))))
    (pss_one (ps_if (qt m_ne (pe_callB (call_repA hr.units (gd_deeper hgd)) (by rfl) T.n_repr (by decide +kernel) (pa_cons (pe_c c__law_told hr (by decide) rfl (pa_cons (mv 5) (pa_cons (pe_cmpR m_eq (pe_op m_mod (mv 2) pe_int) pe_int (nomark _)) pa_nil))) pa_nil)) (pe_callB (call_repA hr.units (gd_deeper hgd)) (by rfl) T.n_repr (by decide +kernel) (pa_cons (pe_c c__law_due hr (by decide) rfl (pa_cons (mv 5) pa_nil)) pa_nil)) (nomark _)) (pss_one (ps_ret pe_bl)) pss_nil)))))))
    (pss_cons (ps_set (i := 7) sc_law.nd rfl (Or.inl rfl) (pe_lst (pa_cons pe_str (pa_cons pe_str (pa_cons pe_str (pa_cons pe_str (pa_cons pe_str (pa_cons pe_str (pa_cons pe_str (pa_cons pe_str pa_nil))))))))))
    (pss_cons (ps_expr (pe_bm PySem.F.plainAttrs_list PySem.F.slot_list_append PySem.F.type_list_append mt_append (mv 7) (pa_cons pe_str pa_nil)))
    (pss_cons (ps_set (i := 7) sc_law.nd rfl (Or.inl rfl) (pe_op op_cat (mv 7) (pe_lst (pa_cons pe_str (pa_cons pe_str (pa_cons pe_str (pa_cons pe_str (pa_cons pe_str pa_nil))))))))
    (pss_cons (ps_set (i := 7) sc_law.nd rfl (Or.inl rfl) (pe_op op_cat (mv 7) (pe_lst (pa_cons pe_str (pa_cons pe_str (pa_cons pe_str (pa_cons pe_str pa_nil)))))))
    (pss_cons (ps_expr (pe_bm PySem.F.plainAttrs_list PySem.F.slot_list_append PySem.F.type_list_append mt_append (mv 7) (pa_cons pe_str pa_nil)))
    (pss_cons (ps_set (i := 7) sc_law.nd rfl (Or.inl rfl) (pe_op op_cat (mv 7) (pe_lst (pa_cons pe_str (pa_cons pe_str (pa_cons (pe_op op_add_str (pe_op op_add_str pe_str (pe_op op_mulS pe_str pe_int)) pe_str) (pa_cons pe_str pa_nil)))))))
    (pss_cons (ps_set (i := 7) sc_law.nd rfl (Or.inl rfl) (pe_op op_cat (mv 7) (pe_lst (pa_cons (pe_op op_add_str (pe_op op_add_str pe_str (pe_op op_mulS pe_str pe_int)) pe_str) (pa_cons (pe_op op_add_str (pe_op op_add_str pe_str (pe_op op_mulS pe_str pe_int)) pe_str) pa_nil)))))
    (pss_cons (ps_set (i := 7) sc_law.nd rfl (Or.inl rfl) (pe_op op_cat (mv 7) (pe_lst (pa_cons (pe_op op_add_str pe_str (pe_op op_mulS pe_str pe_int)) (pa_cons (pe_op op_add_str pe_str (pe_op op_mulS pe_str pe_int)) pa_nil)))))
    (pss_cons (ps_set (i := 7) sc_law.nd rfl (Or.inl rfl) (pe_op op_cat (mv 7) (pe_lst (pa_cons pe_str (pa_cons pe_str pa_nil)))))
    (pss_cons (ps_set (i := 7) sc_law.nd rfl (Or.inl rfl) (pe_op op_cat (mv 7) (pe_lst (pa_cons pe_str (pa_cons pe_str pa_nil)))))
    (pss_cons (ps_expr (pe_bm PySem.F.plainAttrs_list PySem.F.slot_list_append PySem.F.type_list_append mt_append (mv 7) (pa_cons (pe_op op_add_str pe_str (pe_op op_mulS pe_str pe_int)) pa_nil)))
    (pss_cons (ps_set (i := 7) sc_law.nd rfl (Or.inl rfl) (pe_op op_cat (mv 7) (pe_lst (pa_cons (pe_op op_add_str pe_str (pe_op op_mulS pe_str pe_int)) (pa_cons (pe_op op_add_str (pe_op op_add_str pe_str (pe_op op_mulS pe_str pe_int)) pe_str) pa_nil)))))
    (pss_cons (ps_set (i := 7) sc_law.nd rfl (Or.inl rfl) (pe_op op_cat (mv 7) (pe_lst (pa_cons pe_str (pa_cons pe_str pa_nil)))))
    (pss_one (ps_ret (pe_cmpR (op_eqD hr.units) (pe_lc (own := [("one", 8)]) (g := gName 8) (te := tC (.int 1)) (tt := tTest K) rfl sc_law.nd (pi_list (mv 7)) (blkOk_by (own := [("one", 8)]) (N := ["script", "urn", "turn", "names", "wide", "written", "again", "some", "one"]) (sc := fnScope s_law) (by decide +kernel)) (fun _ _ _ _ _ => (pg_name (i := 8) sc_law.nd rfl (Or.inl rfl))) (fun _ _ _ _ _ => (pts_one (qt m_ne (pe_callB (call_repA hr.units (gd_deeper hgd)) (by rfl) T.n_repr (by decide +kernel) (pa_cons (pe_c c__law_told hr (by decide) rfl (pa_cons (mv 8) (pa_cons pe_bl pa_nil))) pa_nil)) (pe_callB (call_repA hr.units (gd_deeper hgd)) (by rfl) T.n_repr (by decide +kernel) (pa_cons (pe_c c__law_due hr (by decide) rfl (pa_cons (mv 8) pa_nil)) pa_nil)) (nomark _)))) (fun _ _ _ _ _ => pe_int)) (pe_lst pa_nil) (nomark _))))))))))))))))))), ?_⟩
    refine ⟨a, ns, rfl, hS, hn, fun H1 p q np nq ur x1 => ?_⟩
    have stay : ∀ {G G' : Hp}, Ext H G → Frm [p, q] G G' → Ext H G' := fun x f c u h => f c u (x c u h) fun z => by
      simp only [List.mem_cons, List.not_mem_nil, or_false] at z
      rcases z with rfl | rfl
      · rw [np] at h; cases h
      · rw [nq] at h; cases h
    refine ⟨_, _, rfl, .inl ⟨_, SqL.ext hS x1, rfl⟩, _, _, rfl, mulL (by decide) (by decide), ?_⟩
    rw [List.length_map]
    have hb : 0 ≤ (40 + 40 * (if (2 : Int) < (ns.length : Int) then 2 else (ns.length : Int))) ∧ (40 + 40 * (if (2 : Int) < (ns.length : Int) then 2 else (ns.length : Int))) ≤ 120 := by
      split <;> omega
    refine ⟨_, rfl, by omega, by omega, ?_⟩
    generalize (40 + 40 * (if (2 : Int) < (ns.length : Int) then 2 else (ns.length : Int))) = N at hb ⊢
    refine for_range (lo := 0) (n := N.toNat) (fun i σ H' => ∃ v2 v3 v4 v5 v6, σ = [some (.ref a), some (.ref p), v2, v3, v4, v5, v6, none, none] ∧ Ext H H' ∧ UrnAt (1300 * i) p q H') ⟨_, _, _, _, _, rfl, x1, ur⟩ ?_ ?_
    · clear x1 ur
      rintro i σ H2 hi ⟨v2, v3, v4, v5, v6, rfl, x2, ur2⟩
      have hi14 : i < 120 := by omega
      -- names, the size
      refine ⟨p, q, 4, _, rfl, ur2, by omega, by decide, by decide, fun H3 na nm nna hna cr ur3 fr3 => ?_⟩
      have apq := ur3.strs hna cr.one
      have x3 := stay x2 fr3
      refine ⟨⟨by decide, by decide, by decide⟩, p, q, _, _, rfl, ur3, by omega, (by show (1 : Int) ≤ 10 ^ (30 : Int).toNat; decide), (by show (10 : Int) ^ (30 : Int).toNat < 2 ^ 1000; decide +kernel), fun H4 r1 a0 a1 ur4 fr4 => ?_⟩
      refine ⟨p, q, 9, _, rfl, ur4, by omega, by decide, by decide, fun H5 r2 b0 b1 ur5 fr5 => ?_⟩
      have hna5 := fr5 _ _ (fr4 _ _ hna (nin2 apq)) (nin2 apq)
      have x5 := stay (stay x3 fr4) fr5
      refine ⟨(by show 2 ≤ sizeLine; decide), fun t nt => ?_⟩
      have w5 := Ext.upd (o := .lst [.int (1 + r1), .int (1 + r2)]) nt
      have d6 : (upd H5 t (.lst [.int (1 + r1), .int (1 + r2)])) t = some (.lst [.int (1 + r1), .int (1 + r2)]) := upd_same
      have tpq := ur5.ne_p nt
      have ur6 := ur5.keep w5
      have x6 := x5.trans w5
      have hna6 := w5 _ _ hna5
      generalize upd H5 t (.lst [.int (1 + r1), .int (1 + r2)]) = H6 at d6 ur6 x6 hna6 ⊢
      clear ur4 ur3 ur5 fr3 fr4 fr5 x2 ur2 x3 x5 hna5 hna w5
      refine ⟨p, q, 2, _, rfl, ur6, by omega, by decide, by decide, fun H7 r3 c0 c1 ur7 fr7 => ?_⟩
      obtain ⟨sz, so, at7⟩ : ∃ sz : Int, SizeOk sz ∧ atI [V.int (1 + r1), V.int (1 + r2)] r3 = some (.int sz) := by
        have e30 : (10 : Int) ^ (30 : Int).toNat = 10 ^ 30 := rfl
        rw [e30] at a1
        have two : r3 = 0 ∨ r3 = 1 := by omega
        rcases two with e | e
        · exact ⟨1 + r1, ⟨by omega, by omega⟩, by rw [e]; rfl⟩
        · exact ⟨1 + r2, ⟨by omega, by omega⟩, by rw [e]; rfl⟩
      refine ⟨_, .int sz, .inl (SqL.of (fr7 _ _ d6 (nin2 tpq))), at7, ?_⟩
      have x7 := stay x6 fr7
      have hna7 := fr7 _ _ hna6 (nin2 apq)
      clear d6 x6 fr7 ur6 hna6
      -- the text
      refine ⟨p, q, 7, _, rfl, ur7, by omega, by decide, by decide, fun H8 many e0 e1 ur8 fr8 => ?_⟩
      have hna8 := fr8 _ _ hna7 (nin2 apq)
      refine ⟨p, q, na, many, nm, _, rfl, ur8, by omega, hna8, cr, e0, by omega, fun H9 l es xs nl hl el ok big ur9 fr9 => ?_⟩
      have hna9 := fr9 _ _ hna8 (nin2 apq)
      have lpq := ur8.ne_p nl
      refine ⟨p, q, 2, _, rfl, ur9, by omega, by decide, by decide, fun H10 r4 f0 f1 ur10 fr10 => ?_⟩
      have hna10 := fr10 _ _ hna9 (nin2 apq)
      have hl10 := fr10 _ _ hl (nin2 lpq)
      have el10 := EntL.st el (ur9.tups fr10)
      have x10 := stay (stay (stay x7 fr8) fr9) fr10
      have tx : TxtOk sz nm es := ⟨so, cr, ok, big⟩
      refine ⟨decide (r4 = 1), sz, na, l, nm, es, xs, rfl, tx, hna10, hl10, el10, fun H11 x11 => ?_⟩
      have l0 := logT_len (b := decide (r4 = 1)) tx
      have s0 := sg_of_lay (logT_lay (b := decide (r4 = 1)) tx)
      generalize logT (decide (r4 = 1)) sz nm es = t0 at l0 s0 ⊢
      have ur11 := ur10.keep x11
      have x12 := x10.trans x11
      clear hna10 hl10 el10 hna9 hna8 hna7 hl el fr8 fr9 fr10 ur7 ur8 ur9 ur10 x7 x10 x11
      -- the changes
      refine ⟨p, q, 4, _, rfl, ur11, by omega, by decide, by decide, fun H12 r5 g0 g1 ur12 fr12 => ?_⟩
      have x13 := stay x12 fr12
      refine ⟨_, rfl, by omega, by omega, for_range (lo := 0) (n := r5.toNat) (fun j σ H' => ∃ t v6, σ = [some (.ref a), some (.ref p), some (.int (0 + (i : Nat))), some (.ref na), some (.int sz), some (.str t), v6, none, none] ∧ t.length + 20 ≤ 30020 * 2 ^ j ∧ Sg t ∧ Ext H H' ∧ UrnAt (1300 * i + 1250 + 10 * j) p q H') ⟨_, _, rfl, by omega, s0, x13, ur12.mono (by omega)⟩ ?_ ?_⟩
      · clear ur11 ur12 fr12 x12 x13 l0 s0
        rintro j σ H13 hj ⟨t, v6, rfl, tl_, ts, xx, uu⟩
        have j3 : j < 3 := by omega
        have p2 : 30020 * 2 ^ j ≤ 120080 := by
          rcases (show j = 0 ∨ j = 1 ∨ j = 2 by omega) with rfl | rfl | rfl <;> decide
        have e2 : 30020 * 2 ^ (j + 1) = 2 * (30020 * 2 ^ j) := by rw [Nat.pow_succ]; omega
        refine ⟨p, q, t, _, 30020 * 2 ^ j - 20, rfl, uu, by omega, by omega, by omega, ts, fun H14 t2 l2 s2 u2 f2 => ?_⟩
        exact ⟨t2, _, rfl, by omega, s2, stay xx f2, u2.mono (by omega)⟩
      · clear ur11 ur12 fr12 x12 x13 l0 s0
        rintro σ H13 ⟨t, v6, rfl, tl_, ts, xx, uu⟩
        have p2 : 30020 * 2 ^ r5.toNat ≤ 240160 := by
          rcases (show r5.toNat = 0 ∨ r5.toNat = 1 ∨ r5.toNat = 2 ∨ r5.toNat = 3 by omega) with e | e | e | e <;> rw [e] <;> decide
        have tl2 : t.length ≤ LIM := Nat.le_trans (show t.length ≤ 240160 by omega) (by decide)
        refine ⟨(by show (0 : Int) < 2; decide), t, _, rfl, tl2, fun o v H14 ho hv x14 => ?_⟩
        dsimp only [tNil]
        refine rep_has ho tl2 hv ?_
        refine ⟨t, rfl, tl2, ts, fun o' v' H15 ho' hv' x15 => ?_⟩
        dsimp only [tNil]
        refine rep_has ho' tl2 hv' ?_
        rw [ho'.uniq ho]
        refine ifND (p := showO o = showO o) (fun h => absurd rfl h) (fun _ => ?_)
        exact ⟨_, _, _, _, _, rfl, (xx.trans x14).trans x15, ((uu.keep x14).keep x15).mono (by omega)⟩
    · rintro σ H2 ⟨v2, v3, v4, v5, v6, rfl, _, _⟩
      clear x1 ur
      refine ⟨(by show 8 ≤ sizeLine; decide), fun l1 n1 => ?_⟩
      have g : TxL (upd H2 l1 (.lst [V.str "", V.str " ", V.str "steady", V.str "steady ", V.str "steady 1", V.str "steady 1 ", V.str "steady 0 a", V.str "steady 01 a"])) l1 8 := TxL.new (ys := ["", " ", "steady", "steady ", "steady 1", "steady 1 ", "steady 0 a", "steady 01 a"]) (okl_cons (okT_N (z := "") (by decide +kernel)) (by decide) (okl_cons (okT_N (z := " ") (by decide +kernel)) (by decide) (okl_cons (okT_N (z := "steady") (by decide +kernel)) (by decide) (okl_cons (okT_N (z := "steady ") (by decide +kernel)) (by decide) (okl_cons (okT_N (z := "steady 1") (by decide +kernel)) (by decide) (okl_cons (okT_N (z := "steady 1 ") (by decide +kernel)) (by decide) (okl_cons (okT_N (z := "steady 0 a") (by decide +kernel)) (by decide) (okl_cons (okT_N (z := "steady 01 a") (by decide +kernel)) (by decide) okl_nil))))))))
      generalize upd H2 l1 (.lst [V.str "", V.str " ", V.str "steady", V.str "steady ", V.str "steady 1", V.str "steady 1 ", V.str "steady 0 a", V.str "steady 01 a"]) = G1 at g ⊢
      obtain ⟨xs, hx, hn, ok⟩ := g
      refine ⟨.inl ⟨rfl, _, SqL.of hx⟩, l1, _, _, rfl, rfl, hx, by rw [List.length_map]; exact Nat.lt_of_le_of_lt (show xs.length ≤ 100 by omega) (by decide), ?_⟩
      have g : TxL (upd G1 l1 (.lst (xs.map V.str ++ [V.str "steady 1 a "]))) l1 9 := TxL.more (ys := ["steady 1 a "]) hn ok (okl_cons (okT_N (z := "steady 1 a ") (by decide +kernel)) (by decide) okl_nil)
      clear hx hn ok
      generalize upd G1 l1 (.lst (xs.map V.str ++ [V.str "steady 1 a "])) = G2 at g ⊢
      clear xs
      obtain ⟨xs, hx, hn, ok⟩ := g
      refine ⟨(by show 5 ≤ sizeLine; decide), fun t3 m3 => ?_⟩
      refine ⟨l1, t3, _, _, rfl, rfl, Ext.upd m3 _ _ hx, upd_same, by rw [List.length_map]; exact Nat.le_trans (show xs.length + 5 ≤ 100 by omega) (by decide), fun l3 n3 => ?_⟩
      have g : TxL (upd (upd G2 t3 (.lst [V.str "Steady 1 a", V.str "steady 1 a a:1", V.str "steady 1 a a:01", V.str "steady 1 a a:", V.str "steady 1 a :1"])) l3 (.lst (xs.map V.str ++ [V.str "Steady 1 a", V.str "steady 1 a a:1", V.str "steady 1 a a:01", V.str "steady 1 a a:", V.str "steady 1 a :1"]))) l3 14 := TxL.more (ys := ["Steady 1 a", "steady 1 a a:1", "steady 1 a a:01", "steady 1 a a:", "steady 1 a :1"]) hn ok (okl_cons (okT_N (z := "Steady 1 a") (by decide +kernel)) (by decide) (okl_cons (okT_N (z := "steady 1 a a:1") (by decide +kernel)) (by decide) (okl_cons (okT_N (z := "steady 1 a a:01") (by decide +kernel)) (by decide) (okl_cons (okT_N (z := "steady 1 a a:") (by decide +kernel)) (by decide) (okl_cons (okT_N (z := "steady 1 a :1") (by decide +kernel)) (by decide) okl_nil)))))
      clear hx hn ok
      generalize upd (upd G2 t3 (.lst [V.str "Steady 1 a", V.str "steady 1 a a:1", V.str "steady 1 a a:01", V.str "steady 1 a a:", V.str "steady 1 a :1"])) l3 (.lst (xs.map V.str ++ [V.str "Steady 1 a", V.str "steady 1 a a:1", V.str "steady 1 a a:01", V.str "steady 1 a a:", V.str "steady 1 a :1"])) = G3 at g ⊢
      clear xs
      obtain ⟨xs, hx, hn, ok⟩ := g
      refine ⟨(by show 4 ≤ sizeLine; decide), fun t4 m4 => ?_⟩
      refine ⟨l3, t4, _, _, rfl, rfl, Ext.upd m4 _ _ hx, upd_same, by rw [List.length_map]; exact Nat.le_trans (show xs.length + 4 ≤ 100 by omega) (by decide), fun l4 n4 => ?_⟩
      have g : TxL (upd (upd G3 t4 (.lst [V.str "steady 1 a b:1", V.str "losing 1 a,a", V.str "steady 1 a, a:1", V.str "steady 1 ,a"])) l4 (.lst (xs.map V.str ++ [V.str "steady 1 a b:1", V.str "losing 1 a,a", V.str "steady 1 a, a:1", V.str "steady 1 ,a"]))) l4 18 := TxL.more (ys := ["steady 1 a b:1", "losing 1 a,a", "steady 1 a, a:1", "steady 1 ,a"]) hn ok (okl_cons (okT_N (z := "steady 1 a b:1") (by decide +kernel)) (by decide) (okl_cons (okT_N (z := "losing 1 a,a") (by decide +kernel)) (by decide) (okl_cons (okT_N (z := "steady 1 a, a:1") (by decide +kernel)) (by decide) (okl_cons (okT_N (z := "steady 1 ,a") (by decide +kernel)) (by decide) okl_nil))))
      clear hx hn ok
      generalize upd (upd G3 t4 (.lst [V.str "steady 1 a b:1", V.str "losing 1 a,a", V.str "steady 1 a, a:1", V.str "steady 1 ,a"])) l4 (.lst (xs.map V.str ++ [V.str "steady 1 a b:1", V.str "losing 1 a,a", V.str "steady 1 a, a:1", V.str "steady 1 ,a"])) = G4 at g ⊢
      clear xs
      obtain ⟨xs, hx, hn, ok⟩ := g
      refine ⟨.inl ⟨rfl, _, SqL.of hx⟩, l4, _, _, rfl, rfl, hx, by rw [List.length_map]; exact Nat.lt_of_le_of_lt (show xs.length ≤ 100 by omega) (by decide), ?_⟩
      have g : TxL (upd G4 l4 (.lst (xs.map V.str ++ [V.str "steady 1 a,b,c b:0 c:1 a:2"]))) l4 19 := TxL.more (ys := ["steady 1 a,b,c b:0 c:1 a:2"]) hn ok (okl_cons (okT_N (z := "steady 1 a,b,c b:0 c:1 a:2") (by decide +kernel)) (by decide) okl_nil)
      clear hx hn ok
      generalize upd G4 l4 (.lst (xs.map V.str ++ [V.str "steady 1 a,b,c b:0 c:1 a:2"])) = G5 at g ⊢
      clear xs
      obtain ⟨xs, hx, hn, ok⟩ := g
      refine ⟨_, _, rfl, rfl, mul16 (by decide +kernel) (by decide) (by decide), _, _, rfl, rfl, (okT_N (z := "steady 1") (by decide +kernel)).fit ((okT_N (z := "0") (by decide +kernel)).mulI (k := 30) (m := 30) rfl) (by decide), _, _, rfl, rfl, ((okT_N (z := "steady 1") (by decide +kernel)).app ((okT_N (z := "0") (by decide +kernel)).mulI (k := 30) (m := 30) rfl)).fit (okT_N (z := " a") (by decide +kernel)) (by decide), ?_⟩
      have oX1 := (((okT_N (z := "steady 1") (by decide +kernel)).app ((okT_N (z := "0") (by decide +kernel)).mulI (k := 30) (m := 30) rfl)).app (okT_N (z := " a") (by decide +kernel)))
      generalize ((("steady 1" : Str) ++ Txt.mul "0" 30) ++ (" a" : Str)) = X1 at oX1 ⊢
      refine ⟨(by show 4 ≤ sizeLine; decide), fun t6 m6 => ?_⟩
      refine ⟨l4, t6, _, _, rfl, rfl, Ext.upd m6 _ _ hx, upd_same, by rw [List.length_map]; exact Nat.le_trans (show xs.length + 4 ≤ 100 by omega) (by decide), fun l6 n6 => ?_⟩
      have g : TxL (upd (upd G5 t6 (.lst [V.str "steady 1 a a:1 a:1", V.str "losing 1 a a:1:1", V.str X1, V.str "steady +1 a"])) l6 (.lst (xs.map V.str ++ [V.str "steady 1 a a:1 a:1", V.str "losing 1 a a:1:1", V.str X1, V.str "steady +1 a"]))) l6 23 := TxL.more (ys := ["steady 1 a a:1 a:1", "losing 1 a a:1:1", X1, "steady +1 a"]) hn ok (okl_cons (okT_N (z := "steady 1 a a:1 a:1") (by decide +kernel)) (by decide) (okl_cons (okT_N (z := "losing 1 a a:1:1") (by decide +kernel)) (by decide) (okl_cons oX1 (by decide) (okl_cons (okT_N (z := "steady +1 a") (by decide +kernel)) (by decide) okl_nil))))
      clear hx hn ok
      generalize upd (upd G5 t6 (.lst [V.str "steady 1 a a:1 a:1", V.str "losing 1 a a:1:1", V.str X1, V.str "steady +1 a"])) l6 (.lst (xs.map V.str ++ [V.str "steady 1 a a:1 a:1", V.str "losing 1 a a:1:1", V.str X1, V.str "steady +1 a"])) = G6 at g ⊢
      clear xs
      obtain ⟨xs, hx, hn, ok⟩ := g
      refine ⟨_, _, rfl, rfl, mul16 (by decide +kernel) (by decide) (by decide), _, _, rfl, rfl, (okT_N (z := "steady 1") (by decide +kernel)).fit ((okT_N (z := "0") (by decide +kernel)).mulI (k := 29) (m := 29) rfl) (by decide), _, _, rfl, rfl, ((okT_N (z := "steady 1") (by decide +kernel)).app ((okT_N (z := "0") (by decide +kernel)).mulI (k := 29) (m := 29) rfl)).fit (okT_N (z := "1 a") (by decide +kernel)) (by decide), ?_⟩
      have oX2 := (((okT_N (z := "steady 1") (by decide +kernel)).app ((okT_N (z := "0") (by decide +kernel)).mulI (k := 29) (m := 29) rfl)).app (okT_N (z := "1 a") (by decide +kernel)))
      generalize ((("steady 1" : Str) ++ Txt.mul "0" 29) ++ ("1 a" : Str)) = X2 at oX2 ⊢
      refine ⟨_, _, rfl, rfl, mul16 (by decide +kernel) (by decide) (by decide), _, _, rfl, rfl, (okT_N (z := "steady 1") (by decide +kernel)).fit ((okT_N (z := "0") (by decide +kernel)).mulI (k := 30) (m := 30) rfl) (by decide), _, _, rfl, rfl, ((okT_N (z := "steady 1") (by decide +kernel)).app ((okT_N (z := "0") (by decide +kernel)).mulI (k := 30) (m := 30) rfl)).fit (okT_N (z := "0 a") (by decide +kernel)) (by decide), ?_⟩
      have oX3 := (((okT_N (z := "steady 1") (by decide +kernel)).app ((okT_N (z := "0") (by decide +kernel)).mulI (k := 30) (m := 30) rfl)).app (okT_N (z := "0 a") (by decide +kernel)))
      generalize ((("steady 1" : Str) ++ Txt.mul "0" 30) ++ ("0 a" : Str)) = X3 at oX3 ⊢
      refine ⟨(by show 2 ≤ sizeLine; decide), fun t7 m7 => ?_⟩
      refine ⟨l6, t7, _, _, rfl, rfl, Ext.upd m7 _ _ hx, upd_same, by rw [List.length_map]; exact Nat.le_trans (show xs.length + 2 ≤ 100 by omega) (by decide), fun l7 n7 => ?_⟩
      have g : TxL (upd (upd G6 t7 (.lst [V.str X2, V.str X3])) l7 (.lst (xs.map V.str ++ [V.str X2, V.str X3]))) l7 25 := TxL.more (ys := [X2, X3]) hn ok (okl_cons oX2 (by decide) (okl_cons oX3 (by decide) okl_nil))
      clear hx hn ok
      generalize upd (upd G6 t7 (.lst [V.str X2, V.str X3])) l7 (.lst (xs.map V.str ++ [V.str X2, V.str X3])) = G7 at g ⊢
      clear xs
      obtain ⟨xs, hx, hn, ok⟩ := g
      refine ⟨_, _, rfl, rfl, mul16 (by decide +kernel) (by decide) (by decide), _, _, rfl, rfl, (okT_N (z := "steady 1 a a:") (by decide +kernel)).fit ((okT_N (z := "9") (by decide +kernel)).mulI (k := 60) (m := 60) rfl) (by decide), ?_⟩
      have oX4 := ((okT_N (z := "steady 1 a a:") (by decide +kernel)).app ((okT_N (z := "9") (by decide +kernel)).mulI (k := 60) (m := 60) rfl))
      generalize (("steady 1 a a:" : Str) ++ Txt.mul "9" 60) = X4 at oX4 ⊢
      refine ⟨_, _, rfl, rfl, mul16 (by decide +kernel) (by decide) (by decide), _, _, rfl, rfl, (okT_N (z := "steady 1 a a:") (by decide +kernel)).fit ((okT_N (z := "9") (by decide +kernel)).mulI (k := 61) (m := 61) rfl) (by decide), ?_⟩
      have oX5 := ((okT_N (z := "steady 1 a a:") (by decide +kernel)).app ((okT_N (z := "9") (by decide +kernel)).mulI (k := 61) (m := 61) rfl))
      generalize (("steady 1 a a:" : Str) ++ Txt.mul "9" 61) = X5 at oX5 ⊢
      refine ⟨(by show 2 ≤ sizeLine; decide), fun t8 m8 => ?_⟩
      refine ⟨l7, t8, _, _, rfl, rfl, Ext.upd m8 _ _ hx, upd_same, by rw [List.length_map]; exact Nat.le_trans (show xs.length + 2 ≤ 100 by omega) (by decide), fun l8 n8 => ?_⟩
      have g : TxL (upd (upd G7 t8 (.lst [V.str X4, V.str X5])) l8 (.lst (xs.map V.str ++ [V.str X4, V.str X5]))) l8 27 := TxL.more (ys := [X4, X5]) hn ok (okl_cons oX4 (by decide) (okl_cons oX5 (by decide) okl_nil))
      clear hx hn ok
      generalize upd (upd G7 t8 (.lst [V.str X4, V.str X5])) l8 (.lst (xs.map V.str ++ [V.str X4, V.str X5])) = G8 at g ⊢
      clear xs
      obtain ⟨xs, hx, hn, ok⟩ := g
      refine ⟨(by show 2 ≤ sizeLine; decide), fun t9 m9 => ?_⟩
      refine ⟨l8, t9, _, _, rfl, rfl, Ext.upd m9 _ _ hx, upd_same, by rw [List.length_map]; exact Nat.le_trans (show xs.length + 2 ≤ 100 by omega) (by decide), fun l9 n9 => ?_⟩
      have g : TxL (upd (upd G8 t9 (.lst [V.str "steady 1 abcdefgh", V.str "steady 1 abcdefghi"])) l9 (.lst (xs.map V.str ++ [V.str "steady 1 abcdefgh", V.str "steady 1 abcdefghi"]))) l9 29 := TxL.more (ys := ["steady 1 abcdefgh", "steady 1 abcdefghi"]) hn ok (okl_cons (okT_N (z := "steady 1 abcdefgh") (by decide +kernel)) (by decide) (okl_cons (okT_N (z := "steady 1 abcdefghi") (by decide +kernel)) (by decide) okl_nil))
      clear hx hn ok
      generalize upd (upd G8 t9 (.lst [V.str "steady 1 abcdefgh", V.str "steady 1 abcdefghi"])) l9 (.lst (xs.map V.str ++ [V.str "steady 1 abcdefgh", V.str "steady 1 abcdefghi"])) = G9 at g ⊢
      clear xs
      obtain ⟨xs, hx, hn, ok⟩ := g
      refine ⟨(by show 2 ≤ sizeLine; decide), fun t10 m10 => ?_⟩
      refine ⟨l9, t10, _, _, rfl, rfl, Ext.upd m10 _ _ hx, upd_same, by rw [List.length_map]; exact Nat.le_trans (show xs.length + 2 ≤ 100 by omega) (by decide), fun l10 n10 => ?_⟩
      have g : TxL (upd (upd G9 t10 (.lst [V.str "steady 1 a,b,c,d,e,f,g,h,i,j,k,l", V.str "steady 1 a,b,c,d,e,f,g,h,i,j,k,l,m"])) l10 (.lst (xs.map V.str ++ [V.str "steady 1 a,b,c,d,e,f,g,h,i,j,k,l", V.str "steady 1 a,b,c,d,e,f,g,h,i,j,k,l,m"]))) l10 31 := TxL.more (ys := ["steady 1 a,b,c,d,e,f,g,h,i,j,k,l", "steady 1 a,b,c,d,e,f,g,h,i,j,k,l,m"]) hn ok (okl_cons (okT_N (z := "steady 1 a,b,c,d,e,f,g,h,i,j,k,l") (by decide +kernel)) (by decide) (okl_cons (okT_N (z := "steady 1 a,b,c,d,e,f,g,h,i,j,k,l,m") (by decide +kernel)) (by decide) okl_nil))
      clear hx hn ok
      generalize upd (upd G9 t10 (.lst [V.str "steady 1 a,b,c,d,e,f,g,h,i,j,k,l", V.str "steady 1 a,b,c,d,e,f,g,h,i,j,k,l,m"])) l10 (.lst (xs.map V.str ++ [V.str "steady 1 a,b,c,d,e,f,g,h,i,j,k,l", V.str "steady 1 a,b,c,d,e,f,g,h,i,j,k,l,m"])) = G10 at g ⊢
      clear xs
      obtain ⟨xs, hx, hn, ok⟩ := g
      refine ⟨.inl ⟨rfl, _, SqL.of hx⟩, ?_⟩
      refine ⟨_, _, rfl, rfl, mul16 (by decide +kernel) (by decide) (by decide), _, _, rfl, rfl, (okT_N (z := "steady 1 a") (by decide +kernel)).fit ((okT_N (z := " a:0") (by decide +kernel)).mulI (k := 200) (m := 200) rfl) (by decide), ?_⟩
      have oX6 := ((okT_N (z := "steady 1 a") (by decide +kernel)).app ((okT_N (z := " a:0") (by decide +kernel)).mulI (k := 200) (m := 200) rfl))
      generalize (("steady 1 a" : Str) ++ Txt.mul " a:0" 200) = X6 at oX6 ⊢
      refine ⟨l10, _, _, rfl, rfl, hx, by rw [List.length_map]; exact Nat.lt_of_le_of_lt (show xs.length ≤ 100 by omega) (by decide), ?_⟩
      have g : TxL (upd G10 l10 (.lst (xs.map V.str ++ [V.str X6]))) l10 32 := TxL.more (ys := [X6]) hn ok (okl_cons oX6 (by decide) okl_nil)
      clear hx hn ok
      generalize upd G10 l10 (.lst (xs.map V.str ++ [V.str X6])) = G11 at g ⊢
      clear xs
      obtain ⟨xs, hx, hn, ok⟩ := g
      refine ⟨_, _, rfl, rfl, mul16 (by decide +kernel) (by decide) (by decide), _, _, rfl, rfl, (okT_N (z := "steady 1 a") (by decide +kernel)).fit ((okT_N (z := " a:0") (by decide +kernel)).mulI (k := 201) (m := 201) rfl) (by decide), ?_⟩
      have oX7 := ((okT_N (z := "steady 1 a") (by decide +kernel)).app ((okT_N (z := " a:0") (by decide +kernel)).mulI (k := 201) (m := 201) rfl))
      generalize (("steady 1 a" : Str) ++ Txt.mul " a:0" 201) = X7 at oX7 ⊢
      refine ⟨_, _, rfl, rfl, mul16 (by decide +kernel) (by decide) (by decide), _, _, rfl, rfl, (okT_N (z := "steady 1 a") (by decide +kernel)).fit ((okT_N (z := " a:0") (by decide +kernel)).mulI (k := 199) (m := 199) rfl) (by decide), _, _, rfl, rfl, ((okT_N (z := "steady 1 a") (by decide +kernel)).app ((okT_N (z := " a:0") (by decide +kernel)).mulI (k := 199) (m := 199) rfl)).fit (okT_N (z := " x") (by decide +kernel)) (by decide), ?_⟩
      have oX8 := (((okT_N (z := "steady 1 a") (by decide +kernel)).app ((okT_N (z := " a:0") (by decide +kernel)).mulI (k := 199) (m := 199) rfl)).app (okT_N (z := " x") (by decide +kernel)))
      generalize ((("steady 1 a" : Str) ++ Txt.mul " a:0" 199) ++ (" x" : Str)) = X8 at oX8 ⊢
      refine ⟨(by show 2 ≤ sizeLine; decide), fun t12 m12 => ?_⟩
      refine ⟨l10, t12, _, _, rfl, rfl, Ext.upd m12 _ _ hx, upd_same, by rw [List.length_map]; exact Nat.le_trans (show xs.length + 2 ≤ 100 by omega) (by decide), fun l12 n12 => ?_⟩
      have g : TxL (upd (upd G11 t12 (.lst [V.str X7, V.str X8])) l12 (.lst (xs.map V.str ++ [V.str X7, V.str X8]))) l12 34 := TxL.more (ys := [X7, X8]) hn ok (okl_cons oX7 (by decide) (okl_cons oX8 (by decide) okl_nil))
      clear hx hn ok
      generalize upd (upd G11 t12 (.lst [V.str X7, V.str X8])) l12 (.lst (xs.map V.str ++ [V.str X7, V.str X8])) = G12 at g ⊢
      clear xs
      obtain ⟨xs, hx, hn, ok⟩ := g
      refine ⟨(by show 2 ≤ sizeLine; decide), fun t13 m13 => ?_⟩
      refine ⟨l12, t13, _, _, rfl, rfl, Ext.upd m13 _ _ hx, upd_same, by rw [List.length_map]; exact Nat.le_trans (show xs.length + 2 ≤ 100 by omega) (by decide), fun l13 n13 => ?_⟩
      have g : TxL (upd (upd G12 t13 (.lst [V.str "steady 1 a\na:1", V.str "steady  1 a"])) l13 (.lst (xs.map V.str ++ [V.str "steady 1 a\na:1", V.str "steady  1 a"]))) l13 36 := TxL.more (ys := ["steady 1 a\na:1", "steady  1 a"]) hn ok (okl_cons (okT_N (z := "steady 1 a\na:1") (by decide +kernel)) (by decide) (okl_cons (okT_N (z := "steady  1 a") (by decide +kernel)) (by decide) okl_nil))
      clear hx hn ok
      generalize upd (upd G12 t13 (.lst [V.str "steady 1 a\na:1", V.str "steady  1 a"])) l13 (.lst (xs.map V.str ++ [V.str "steady 1 a\na:1", V.str "steady  1 a"])) = G13 at g ⊢
      clear xs
      obtain ⟨xs, hx, hn, ok⟩ := g
      refine ⟨l13, rfl, ⟨_, SqL.of hx⟩, fun d hd => lc_list (K := K) (a := l13) (xs := xs.map V.str) (tt := tTest K) (te := tC (.int 1)) (fun i H' => Ext G13 H' ∧ H' d = some (.lst [])) ⟨Ext.upd hd, upd_same⟩ (fun i H1 _ t => SqL.of (t.1 _ _ hx)) ?_ ?_⟩
      · rintro i y H3 hy ⟨x3, hd3⟩
        obtain ⟨t, ht, rfl⟩ := map_at hy
        have okt := ok t (List.mem_of_getElem? ht)
        have tl2 : t.length ≤ LIM := okt.lim (by decide)
        have ts := okt.sg
        refine ⟨rfl, t, false, rfl, tl2, fun o v H14 ho hv x14 => ?_⟩
        dsimp only [tNil]
        refine rep_has ho tl2 hv ?_
        refine ⟨t, rfl, tl2, ts, fun o' v' H15 ho' hv' x15 => ?_⟩
        dsimp only [tNil]
        refine rep_has ho' tl2 hv' ?_
        rw [ho'.uniq ho]
        refine ifND (p := showO o = showO o) (fun h => absurd rfl h) (fun _ => ?_)
        exact ⟨(x3.trans x14).trans x15, x15 _ _ (x14 _ _ hd3)⟩
      · rintro H3 ⟨x3, hd3⟩
        refine ⟨Nat.zero_le _, fun t4 n4 => ?_⟩
        refine ⟨.list [], .list [], .lst (SqL.of (Ext.upd n4 _ _ hd3)) .nil, .lst (SqL.of upd_same) .nil, by decide, by decide, ?_⟩
        have ee : PyData.eqv (.list []) (.list []) = true := by decide
        rw [ee]
        exact k _
end
end NB

set_option Elab.async false
set_option linter.all false
set_option maxRecDepth 100000
set_option maxHeartbeats 0
/-! K7: what the top must have, from its facts -/
namespace NB
open PySem PySem.Spec L2
open PyProof.Rows (envOfC)
open C8 (pe_c pe_mk pe_mt pe_mt0 pe_gc fnScope fnBody fnArgs fnScope_by Cal Met Mak)

theorem kit_same {K : PySem.W.Frag} {C : Addr} : PySem.W.kitOne K (.ref C) (.ref C) = some true := by
  unfold PySem.W.kitOne
  rw [if_pos (by simp)]
theorem kit_ref {K : PySem.W.Frag} {C : Addr} {t : Value} {b : Bool} (h1 : PySem.W.isClsIn K C = true) (h2 : PySem.W.typeIn K (.ref C) = some (.type "type")) (h3 : PySem.W.subIn K t (.ref C) = some b) (h4 : (t == Value.ref C) = false) : PySem.W.kitOne K t (.ref C) = some b := by
  unfold PySem.W.kitOne PySem.W.kitCls
  rw [if_neg (by rw [h4]; exact Bool.false_ne_true)]
  unfold PySem.W.isClsIn at h1
  simp only [h1, h2, h3, Bool.true_and, beq_self_eq_true, if_true]
theorem kit_tyR {K : PySem.W.Frag} {C : Addr} {x : String} {b : Bool} (h : PySem.W.subIn K (.ref C) (.type x) = some b) (hm : PySem.W.kitMeta x = true) : PySem.W.kitOne K (.ref C) (.type x) = some b := by
  unfold PySem.W.kitOne PySem.W.kitCls
  rw [if_neg (by simp)]
  simp only [hm, h, if_true]
theorem nf_of {K : PySem.W.Frag} {C : Addr} {t : Value} (h : PySem.W.subIn K t (.ref C) = some false) : PySem.W.notFirst K C t = true := by
  unfold PySem.W.notFirst
  rw [h]
  simp
theorem exm_self {K : PySem.W.Frag} {c : Addr} (b : PySem.W.subIn K (.ref c) (.type "BaseException") = some true) (i : PySem.W.isClsIn K c = true) (t : PySem.W.typeIn K (.ref c) = some (.type "type")) (s : PySem.W.subIn K (.ref c) (.ref c) = some true) : PySem.W.exmOne K (.ref c) (.ref c) = some true := by
  unfold PySem.W.exmOne PySem.W.kitCls
  unfold PySem.W.isClsIn at i
  simp only [b, i, t, s, Bool.true_and, beq_self_eq_true, if_true]
theorem all_mk {P : Program} {w : World} {K : PySem.W.Frag} {h : Heap} {mg : Str → Option Value} {fa : Addr} (X : K.In h) (G : h.Ns mainGlobals mg) (hfa : mg "law" = some (.ref fa))
    {f_is_integer f_is_size f_is_name_logs f_are_servers f_is_server f_is_entry f_are_entries f_number_in f_is_name_texts f_size_in f_servers_in f_entry_in f_log_of_texts f_read_log f__law_urn f__law_lot f__law_names f__law_rows f__law_text f__law_number f__law_is_name f__law_can_stand f__law_due f__law_told f__law_bent f_law cL cX fMI pZ fMZ pV fMV pE fME cB cT c1 c2 c3 c4 c5 fMT : Addr} {od_is_integer an_is_integer od_is_size an_is_size od_is_name_logs an_is_name_logs od_are_servers an_are_servers od_is_server an_is_server od_is_entry an_is_entry od_are_entries an_are_entries od_number_in an_number_in od_is_name_texts an_is_name_texts od_size_in an_size_in od_servers_in an_servers_in od_entry_in an_entry_in od_log_of_texts an_log_of_texts od_read_log an_read_log od__law_urn an__law_urn od__law_lot an__law_lot od__law_names an__law_names od__law_rows an__law_rows od__law_text an__law_text od__law_number an__law_number od__law_is_name an__law_is_name od__law_can_stand an__law_can_stand od__law_due an__law_due od__law_told an__law_told od__law_bent an__law_bent od_law an_law odMI anMI odMZ anMZ odMV anMV odME anME odMT anMT : Option Addr} {sl_is_integer sl_is_size sl_is_name_logs sl_are_servers sl_is_server sl_is_entry sl_are_entries sl_number_in sl_is_name_texts sl_size_in sl_servers_in sl_entry_in sl_log_of_texts sl_read_log sl__law_urn sl__law_lot sl__law_names sl__law_rows sl__law_text sl__law_number sl__law_is_name sl__law_can_stand sl__law_due sl__law_told sl__law_bent sl_law slMI slMZ slMV slME slMT : Array (Option Value)} {oc_is_integer kV_is_integer dc_is_integer pm_is_integer cd_is_integer ct_is_integer oc_is_size kV_is_size dc_is_size pm_is_size cd_is_size ct_is_size oc_is_name_logs kV_is_name_logs dc_is_name_logs pm_is_name_logs cd_is_name_logs ct_is_name_logs oc_are_servers kV_are_servers dc_are_servers pm_are_servers cd_are_servers ct_are_servers oc_is_server kV_is_server dc_is_server pm_is_server cd_is_server ct_is_server oc_is_entry kV_is_entry dc_is_entry pm_is_entry cd_is_entry ct_is_entry oc_are_entries kV_are_entries dc_are_entries pm_are_entries cd_are_entries ct_are_entries oc_number_in kV_number_in dc_number_in pm_number_in cd_number_in ct_number_in oc_is_name_texts kV_is_name_texts dc_is_name_texts pm_is_name_texts cd_is_name_texts ct_is_name_texts oc_size_in kV_size_in dc_size_in pm_size_in cd_size_in ct_size_in oc_servers_in kV_servers_in dc_servers_in pm_servers_in cd_servers_in ct_servers_in oc_entry_in kV_entry_in dc_entry_in pm_entry_in cd_entry_in ct_entry_in oc_log_of_texts kV_log_of_texts dc_log_of_texts pm_log_of_texts cd_log_of_texts ct_log_of_texts oc_read_log kV_read_log dc_read_log pm_read_log cd_read_log ct_read_log oc__law_urn kV__law_urn dc__law_urn pm__law_urn cd__law_urn ct__law_urn oc__law_lot kV__law_lot dc__law_lot pm__law_lot cd__law_lot ct__law_lot oc__law_names kV__law_names dc__law_names pm__law_names cd__law_names ct__law_names oc__law_rows kV__law_rows dc__law_rows pm__law_rows cd__law_rows ct__law_rows oc__law_text kV__law_text dc__law_text pm__law_text cd__law_text ct__law_text oc__law_number kV__law_number dc__law_number pm__law_number cd__law_number ct__law_number oc__law_is_name kV__law_is_name dc__law_is_name pm__law_is_name cd__law_is_name ct__law_is_name oc__law_can_stand kV__law_can_stand dc__law_can_stand pm__law_can_stand cd__law_can_stand ct__law_can_stand oc__law_due kV__law_due dc__law_due pm__law_due cd__law_due ct__law_due oc__law_told kV__law_told dc__law_told pm__law_told cd__law_told ct__law_told oc__law_bent kV__law_bent dc__law_bent pm__law_bent cd__law_bent ct__law_bent oc_law kV_law dc_law pm_law cd_law ct_law ocMI kVMI dcMI pmMI cdMI ctMI ocMZ kVMZ dcMZ pmMZ cdMZ ctMZ ocMV kVMV dcMV pmMV cdMV ctMV ocME kVME dcME pmME cdME ctME ocMT kVMT dcMT pmMT cdMT ctMT : Value} {tk0 tk1 tk2 tk3 tk4 tk5 tk6 tk7 tk8 tk9 ts0 ts1 ts2 ts3 ts4 ts5 ts6 ts7 : Tok} {rsZ rsV rsE : List Value} {nmT qT : Str} {NT : Addr} {bsT bmT suT : List Value} {snT : List Str} {abT : Bool} {coT : Option Bool} {ddT : Option Addr} {k0T k1T k2T k3T k5T : Option Value}
    (a_is_integer : PySem.W.nsIn K mainGlobals "is_integer" = some (some (.ref f_is_integer)))
    (l_is_integer : K.lookup f_is_integer = some ⟨oc_is_integer, od_is_integer, .func (PySem.W.fnOf "is_integer" "is_integer" (fnArgs s_is_integer) (fnBody s_is_integer) (fnScope s_is_integer) .none kV_is_integer dc_is_integer pm_is_integer an_is_integer cd_is_integer ct_is_integer), sl_is_integer⟩)
    (c_is_integer : PySem.W.codeIn K cd_is_integer "is_integer" = true)
    (k_is_integer : PySem.W.keepIn K (.ref f_is_integer) = true)
    (a_is_size : PySem.W.nsIn K mainGlobals "is_size" = some (some (.ref f_is_size)))
    (l_is_size : K.lookup f_is_size = some ⟨oc_is_size, od_is_size, .func (PySem.W.fnOf "is_size" "is_size" (fnArgs s_is_size) (fnBody s_is_size) (fnScope s_is_size) .none kV_is_size dc_is_size pm_is_size an_is_size cd_is_size ct_is_size), sl_is_size⟩)
    (c_is_size : PySem.W.codeIn K cd_is_size "is_size" = true)
    (k_is_size : PySem.W.keepIn K (.ref f_is_size) = true)
    (a_is_name_logs : PySem.W.nsIn K mainGlobals "is_name_logs" = some (some (.ref f_is_name_logs)))
    (l_is_name_logs : K.lookup f_is_name_logs = some ⟨oc_is_name_logs, od_is_name_logs, .func (PySem.W.fnOf "is_name" "is_name" (fnArgs s_is_name_logs) (fnBody s_is_name_logs) (fnScope s_is_name_logs) .none kV_is_name_logs dc_is_name_logs pm_is_name_logs an_is_name_logs cd_is_name_logs ct_is_name_logs), sl_is_name_logs⟩)
    (c_is_name_logs : PySem.W.codeIn K cd_is_name_logs "is_name" = true)
    (k_is_name_logs : PySem.W.keepIn K (.ref f_is_name_logs) = true)
    (a_are_servers : PySem.W.nsIn K mainGlobals "are_servers" = some (some (.ref f_are_servers)))
    (l_are_servers : K.lookup f_are_servers = some ⟨oc_are_servers, od_are_servers, .func (PySem.W.fnOf "are_servers" "are_servers" (fnArgs s_are_servers) (fnBody s_are_servers) (fnScope s_are_servers) .none kV_are_servers dc_are_servers pm_are_servers an_are_servers cd_are_servers ct_are_servers), sl_are_servers⟩)
    (c_are_servers : PySem.W.codeIn K cd_are_servers "are_servers" = true)
    (k_are_servers : PySem.W.keepIn K (.ref f_are_servers) = true)
    (a_is_server : PySem.W.nsIn K mainGlobals "is_server" = some (some (.ref f_is_server)))
    (l_is_server : K.lookup f_is_server = some ⟨oc_is_server, od_is_server, .func (PySem.W.fnOf "is_server" "is_server" (fnArgs s_is_server) (fnBody s_is_server) (fnScope s_is_server) .none kV_is_server dc_is_server pm_is_server an_is_server cd_is_server ct_is_server), sl_is_server⟩)
    (c_is_server : PySem.W.codeIn K cd_is_server "is_server" = true)
    (k_is_server : PySem.W.keepIn K (.ref f_is_server) = true)
    (a_is_entry : PySem.W.nsIn K mainGlobals "is_entry" = some (some (.ref f_is_entry)))
    (l_is_entry : K.lookup f_is_entry = some ⟨oc_is_entry, od_is_entry, .func (PySem.W.fnOf "is_entry" "is_entry" (fnArgs s_is_entry) (fnBody s_is_entry) (fnScope s_is_entry) .none kV_is_entry dc_is_entry pm_is_entry an_is_entry cd_is_entry ct_is_entry), sl_is_entry⟩)
    (c_is_entry : PySem.W.codeIn K cd_is_entry "is_entry" = true)
    (k_is_entry : PySem.W.keepIn K (.ref f_is_entry) = true)
    (a_are_entries : PySem.W.nsIn K mainGlobals "are_entries" = some (some (.ref f_are_entries)))
    (l_are_entries : K.lookup f_are_entries = some ⟨oc_are_entries, od_are_entries, .func (PySem.W.fnOf "are_entries" "are_entries" (fnArgs s_are_entries) (fnBody s_are_entries) (fnScope s_are_entries) .none kV_are_entries dc_are_entries pm_are_entries an_are_entries cd_are_entries ct_are_entries), sl_are_entries⟩)
    (c_are_entries : PySem.W.codeIn K cd_are_entries "are_entries" = true)
    (k_are_entries : PySem.W.keepIn K (.ref f_are_entries) = true)
    (a_number_in : PySem.W.nsIn K mainGlobals "number_in" = some (some (.ref f_number_in)))
    (l_number_in : K.lookup f_number_in = some ⟨oc_number_in, od_number_in, .func (PySem.W.fnOf "number_in" "number_in" (fnArgs s_number_in) (fnBody s_number_in) (fnScope s_number_in) .none kV_number_in dc_number_in pm_number_in an_number_in cd_number_in ct_number_in), sl_number_in⟩)
    (c_number_in : PySem.W.codeIn K cd_number_in "number_in" = true)
    (k_number_in : PySem.W.keepIn K (.ref f_number_in) = true)
    (a_is_name_texts : PySem.W.nsIn K mainGlobals "is_name_texts" = some (some (.ref f_is_name_texts)))
    (l_is_name_texts : K.lookup f_is_name_texts = some ⟨oc_is_name_texts, od_is_name_texts, .func (PySem.W.fnOf "is_name" "is_name" (fnArgs s_is_name_texts) (fnBody s_is_name_texts) (fnScope s_is_name_texts) .none kV_is_name_texts dc_is_name_texts pm_is_name_texts an_is_name_texts cd_is_name_texts ct_is_name_texts), sl_is_name_texts⟩)
    (c_is_name_texts : PySem.W.codeIn K cd_is_name_texts "is_name" = true)
    (k_is_name_texts : PySem.W.keepIn K (.ref f_is_name_texts) = true)
    (a_size_in : PySem.W.nsIn K mainGlobals "size_in" = some (some (.ref f_size_in)))
    (l_size_in : K.lookup f_size_in = some ⟨oc_size_in, od_size_in, .func (PySem.W.fnOf "size_in" "size_in" (fnArgs s_size_in) (fnBody s_size_in) (fnScope s_size_in) .none kV_size_in dc_size_in pm_size_in an_size_in cd_size_in ct_size_in), sl_size_in⟩)
    (c_size_in : PySem.W.codeIn K cd_size_in "size_in" = true)
    (k_size_in : PySem.W.keepIn K (.ref f_size_in) = true)
    (a_servers_in : PySem.W.nsIn K mainGlobals "servers_in" = some (some (.ref f_servers_in)))
    (l_servers_in : K.lookup f_servers_in = some ⟨oc_servers_in, od_servers_in, .func (PySem.W.fnOf "servers_in" "servers_in" (fnArgs s_servers_in) (fnBody s_servers_in) (fnScope s_servers_in) .none kV_servers_in dc_servers_in pm_servers_in an_servers_in cd_servers_in ct_servers_in), sl_servers_in⟩)
    (c_servers_in : PySem.W.codeIn K cd_servers_in "servers_in" = true)
    (k_servers_in : PySem.W.keepIn K (.ref f_servers_in) = true)
    (a_entry_in : PySem.W.nsIn K mainGlobals "entry_in" = some (some (.ref f_entry_in)))
    (l_entry_in : K.lookup f_entry_in = some ⟨oc_entry_in, od_entry_in, .func (PySem.W.fnOf "entry_in" "entry_in" (fnArgs s_entry_in) (fnBody s_entry_in) (fnScope s_entry_in) .none kV_entry_in dc_entry_in pm_entry_in an_entry_in cd_entry_in ct_entry_in), sl_entry_in⟩)
    (c_entry_in : PySem.W.codeIn K cd_entry_in "entry_in" = true)
    (k_entry_in : PySem.W.keepIn K (.ref f_entry_in) = true)
    (a_log_of_texts : PySem.W.nsIn K mainGlobals "log_of_texts" = some (some (.ref f_log_of_texts)))
    (l_log_of_texts : K.lookup f_log_of_texts = some ⟨oc_log_of_texts, od_log_of_texts, .func (PySem.W.fnOf "log_of" "log_of" (fnArgs s_log_of_texts) (fnBody s_log_of_texts) (fnScope s_log_of_texts) .none kV_log_of_texts dc_log_of_texts pm_log_of_texts an_log_of_texts cd_log_of_texts ct_log_of_texts), sl_log_of_texts⟩)
    (c_log_of_texts : PySem.W.codeIn K cd_log_of_texts "log_of" = true)
    (k_log_of_texts : PySem.W.keepIn K (.ref f_log_of_texts) = true)
    (a_read_log : PySem.W.nsIn K mainGlobals "read_log" = some (some (.ref f_read_log)))
    (l_read_log : K.lookup f_read_log = some ⟨oc_read_log, od_read_log, .func (PySem.W.fnOf "read_log" "read_log" (fnArgs s_read_log) (fnBody s_read_log) (fnScope s_read_log) .none kV_read_log dc_read_log pm_read_log an_read_log cd_read_log ct_read_log), sl_read_log⟩)
    (c_read_log : PySem.W.codeIn K cd_read_log "read_log" = true)
    (k_read_log : PySem.W.keepIn K (.ref f_read_log) = true)
    (a__law_urn : PySem.W.nsIn K mainGlobals "_law_urn" = some (some (.ref f__law_urn)))
    (l__law_urn : K.lookup f__law_urn = some ⟨oc__law_urn, od__law_urn, .func (PySem.W.fnOf "_law_urn" "_law_urn" (fnArgs s__law_urn) (fnBody s__law_urn) (fnScope s__law_urn) .none kV__law_urn dc__law_urn pm__law_urn an__law_urn cd__law_urn ct__law_urn), sl__law_urn⟩)
    (c__law_urn : PySem.W.codeIn K cd__law_urn "_law_urn" = true)
    (k__law_urn : PySem.W.keepIn K (.ref f__law_urn) = true)
    (a__law_lot : PySem.W.nsIn K mainGlobals "_law_lot" = some (some (.ref f__law_lot)))
    (l__law_lot : K.lookup f__law_lot = some ⟨oc__law_lot, od__law_lot, .func (PySem.W.fnOf "_law_lot" "_law_lot" (fnArgs s__law_lot) (fnBody s__law_lot) (fnScope s__law_lot) .none kV__law_lot dc__law_lot pm__law_lot an__law_lot cd__law_lot ct__law_lot), sl__law_lot⟩)
    (c__law_lot : PySem.W.codeIn K cd__law_lot "_law_lot" = true)
    (k__law_lot : PySem.W.keepIn K (.ref f__law_lot) = true)
    (a__law_names : PySem.W.nsIn K mainGlobals "_law_names" = some (some (.ref f__law_names)))
    (l__law_names : K.lookup f__law_names = some ⟨oc__law_names, od__law_names, .func (PySem.W.fnOf "_law_names" "_law_names" (fnArgs s__law_names) (fnBody s__law_names) (fnScope s__law_names) .none kV__law_names dc__law_names pm__law_names an__law_names cd__law_names ct__law_names), sl__law_names⟩)
    (c__law_names : PySem.W.codeIn K cd__law_names "_law_names" = true)
    (k__law_names : PySem.W.keepIn K (.ref f__law_names) = true)
    (a__law_rows : PySem.W.nsIn K mainGlobals "_law_rows" = some (some (.ref f__law_rows)))
    (l__law_rows : K.lookup f__law_rows = some ⟨oc__law_rows, od__law_rows, .func (PySem.W.fnOf "_law_rows" "_law_rows" (fnArgs s__law_rows) (fnBody s__law_rows) (fnScope s__law_rows) .none kV__law_rows dc__law_rows pm__law_rows an__law_rows cd__law_rows ct__law_rows), sl__law_rows⟩)
    (c__law_rows : PySem.W.codeIn K cd__law_rows "_law_rows" = true)
    (k__law_rows : PySem.W.keepIn K (.ref f__law_rows) = true)
    (a__law_text : PySem.W.nsIn K mainGlobals "_law_text" = some (some (.ref f__law_text)))
    (l__law_text : K.lookup f__law_text = some ⟨oc__law_text, od__law_text, .func (PySem.W.fnOf "_law_text" "_law_text" (fnArgs s__law_text) (fnBody s__law_text) (fnScope s__law_text) .none kV__law_text dc__law_text pm__law_text an__law_text cd__law_text ct__law_text), sl__law_text⟩)
    (c__law_text : PySem.W.codeIn K cd__law_text "_law_text" = true)
    (k__law_text : PySem.W.keepIn K (.ref f__law_text) = true)
    (a__law_number : PySem.W.nsIn K mainGlobals "_law_number" = some (some (.ref f__law_number)))
    (l__law_number : K.lookup f__law_number = some ⟨oc__law_number, od__law_number, .func (PySem.W.fnOf "_law_number" "_law_number" (fnArgs s__law_number) (fnBody s__law_number) (fnScope s__law_number) .none kV__law_number dc__law_number pm__law_number an__law_number cd__law_number ct__law_number), sl__law_number⟩)
    (c__law_number : PySem.W.codeIn K cd__law_number "_law_number" = true)
    (k__law_number : PySem.W.keepIn K (.ref f__law_number) = true)
    (a__law_is_name : PySem.W.nsIn K mainGlobals "_law_is_name" = some (some (.ref f__law_is_name)))
    (l__law_is_name : K.lookup f__law_is_name = some ⟨oc__law_is_name, od__law_is_name, .func (PySem.W.fnOf "_law_is_name" "_law_is_name" (fnArgs s__law_is_name) (fnBody s__law_is_name) (fnScope s__law_is_name) .none kV__law_is_name dc__law_is_name pm__law_is_name an__law_is_name cd__law_is_name ct__law_is_name), sl__law_is_name⟩)
    (c__law_is_name : PySem.W.codeIn K cd__law_is_name "_law_is_name" = true)
    (k__law_is_name : PySem.W.keepIn K (.ref f__law_is_name) = true)
    (a__law_can_stand : PySem.W.nsIn K mainGlobals "_law_can_stand" = some (some (.ref f__law_can_stand)))
    (l__law_can_stand : K.lookup f__law_can_stand = some ⟨oc__law_can_stand, od__law_can_stand, .func (PySem.W.fnOf "_law_can_stand" "_law_can_stand" (fnArgs s__law_can_stand) (fnBody s__law_can_stand) (fnScope s__law_can_stand) .none kV__law_can_stand dc__law_can_stand pm__law_can_stand an__law_can_stand cd__law_can_stand ct__law_can_stand), sl__law_can_stand⟩)
    (c__law_can_stand : PySem.W.codeIn K cd__law_can_stand "_law_can_stand" = true)
    (k__law_can_stand : PySem.W.keepIn K (.ref f__law_can_stand) = true)
    (a__law_due : PySem.W.nsIn K mainGlobals "_law_due" = some (some (.ref f__law_due)))
    (l__law_due : K.lookup f__law_due = some ⟨oc__law_due, od__law_due, .func (PySem.W.fnOf "_law_due" "_law_due" (fnArgs s__law_due) (fnBody s__law_due) (fnScope s__law_due) .none kV__law_due dc__law_due pm__law_due an__law_due cd__law_due ct__law_due), sl__law_due⟩)
    (c__law_due : PySem.W.codeIn K cd__law_due "_law_due" = true)
    (k__law_due : PySem.W.keepIn K (.ref f__law_due) = true)
    (a__law_told : PySem.W.nsIn K mainGlobals "_law_told" = some (some (.ref f__law_told)))
    (l__law_told : K.lookup f__law_told = some ⟨oc__law_told, od__law_told, .func (PySem.W.fnOf "_law_told" "_law_told" (fnArgs s__law_told) (fnBody s__law_told) (fnScope s__law_told) .none kV__law_told dc__law_told pm__law_told an__law_told cd__law_told ct__law_told), sl__law_told⟩)
    (c__law_told : PySem.W.codeIn K cd__law_told "_law_told" = true)
    (k__law_told : PySem.W.keepIn K (.ref f__law_told) = true)
    (a__law_bent : PySem.W.nsIn K mainGlobals "_law_bent" = some (some (.ref f__law_bent)))
    (l__law_bent : K.lookup f__law_bent = some ⟨oc__law_bent, od__law_bent, .func (PySem.W.fnOf "_law_bent" "_law_bent" (fnArgs s__law_bent) (fnBody s__law_bent) (fnScope s__law_bent) .none kV__law_bent dc__law_bent pm__law_bent an__law_bent cd__law_bent ct__law_bent), sl__law_bent⟩)
    (c__law_bent : PySem.W.codeIn K cd__law_bent "_law_bent" = true)
    (k__law_bent : PySem.W.keepIn K (.ref f__law_bent) = true)
    (a_law : PySem.W.nsIn K mainGlobals "law" = some (some (.ref f_law)))
    (l_law : K.lookup f_law = some ⟨oc_law, od_law, .func (PySem.W.fnOf "law" "law" (fnArgs s_law) (fnBody s_law) (fnScope s_law) .none kV_law dc_law pm_law an_law cd_law ct_law), sl_law⟩)
    (c_law : PySem.W.codeIn K cd_law "law" = true)
    (k_law : PySem.W.keepIn K (.ref f_law) = true)
    (gL : PySem.W.nsIn K mainGlobals "Log" = some (some (.ref cL)))
    (gX : PySem.W.nsIn K mainGlobals "LosingLog" = some (some (.ref cX)))
    (mLI : PySem.W.findIn K (.ref cL) "__init__" = some (some (.ref fMI)))
    (mXI : PySem.W.findIn K (.ref cX) "__init__" = some (some (.ref fMI)))
    (miI : PySem.W.isFn K (.ref fMI) = true)
    (lMI : K.lookup fMI = some ⟨ocMI, odMI, .func (PySem.W.fnOf "__init__" "Log.__init__" (fnArgs s_Log___init__) (fnBody s_Log___init__) (fnScope s_Log___init__) .none kVMI dcMI pmMI anMI cdMI ctMI), slMI⟩)
    (cMI : PySem.W.codeIn K cdMI "Log.__init__" = true)
    (pZL : PySem.W.findIn K (.ref cL) "size" = some (some (.ref pZ)))
    (pZX : PySem.W.findIn K (.ref cX) "size" = some (some (.ref pZ)))
    (pgZ : PySem.W.specialIn K (.ref pZ) "__get__" = some (some (.builtin "property.__get__")))
    (ptZ : PySem.W.takesIn K (.ref pZ) = some true)
    (prZ : PySem.W.recIn K pZ "property" = some (.ref fMZ :: rsZ))
    (lMZ : K.lookup fMZ = some ⟨ocMZ, odMZ, .func (PySem.W.fnOf "size" "Log.size" (fnArgs s_Log_size) (fnBody s_Log_size) (fnScope s_Log_size) .none kVMZ dcMZ pmMZ anMZ cdMZ ctMZ), slMZ⟩)
    (cMZ : PySem.W.codeIn K cdMZ "Log.size" = true)
    (pVL : PySem.W.findIn K (.ref cL) "servers" = some (some (.ref pV)))
    (pVX : PySem.W.findIn K (.ref cX) "servers" = some (some (.ref pV)))
    (pgV : PySem.W.specialIn K (.ref pV) "__get__" = some (some (.builtin "property.__get__")))
    (ptV : PySem.W.takesIn K (.ref pV) = some true)
    (prV : PySem.W.recIn K pV "property" = some (.ref fMV :: rsV))
    (lMV : K.lookup fMV = some ⟨ocMV, odMV, .func (PySem.W.fnOf "servers" "Log.servers" (fnArgs s_Log_servers) (fnBody s_Log_servers) (fnScope s_Log_servers) .none kVMV dcMV pmMV anMV cdMV ctMV), slMV⟩)
    (cMV : PySem.W.codeIn K cdMV "Log.servers" = true)
    (pEL : PySem.W.findIn K (.ref cL) "entries" = some (some (.ref pE)))
    (pEX : PySem.W.findIn K (.ref cX) "entries" = some (some (.ref pE)))
    (pgE : PySem.W.specialIn K (.ref pE) "__get__" = some (some (.builtin "property.__get__")))
    (ptE : PySem.W.takesIn K (.ref pE) = some true)
    (prE : PySem.W.recIn K pE "property" = some (.ref fME :: rsE))
    (lME : K.lookup fME = some ⟨ocME, odME, .func (PySem.W.fnOf "entries" "Log.entries" (fnArgs s_Log_entries) (fnBody s_Log_entries) (fnScope s_Log_entries) .none kVME dcME pmME anME cdME ctME), slME⟩)
    (cME : PySem.W.codeIn K cdME "Log.entries" = true)
    (pgtL : PySem.W.plainGet K cL Str.empty = true)
    (pgtX : PySem.W.plainGet K cX Str.empty = true)
    (hdL : PySem.W.hasDictIn K cL = true)
    (hdX : PySem.W.hasDictIn K cX = true)
    (poL : PySem.W.plainOver K cL = true)
    (poX : PySem.W.plainOver K cX = true)
    (saL : PySem.W.findIn K (.ref cL) "__setattr__" = some (some (.builtin "object.__setattr__")))
    (saX : PySem.W.findIn K (.ref cX) "__setattr__" = some (some (.builtin "object.__setattr__")))
    (mkL : PySem.W.makesIn K cL = true)
    (mkX : PySem.W.makesIn K cX = true)
    (kcL : PySem.W.keepIn K (.ref cL) = true)
    (kcX : PySem.W.keepIn K (.ref cX) = true)
    (nheld_sizeL : PySem.W.findIn K (.ref cL) "held_size" = some none)
    (nheld_sizeX : PySem.W.findIn K (.ref cX) "held_size" = some none)
    (nheld_serversL : PySem.W.findIn K (.ref cL) "held_servers" = some none)
    (nheld_serversX : PySem.W.findIn K (.ref cX) "held_servers" = some none)
    (nheld_entriesL : PySem.W.findIn K (.ref cL) "held_entries" = some none)
    (nheld_entriesX : PySem.W.findIn K (.ref cX) "held_entries" = some none)
    (kdL : PySem.W.findIn K (.ref cL) "KIND" = some (some (.str "steady" ts0)))
    (kdX : PySem.W.findIn K (.ref cX) "KIND" = some (some (.str "losing" ts1)))
    (kgL : PySem.W.specialIn K (.str "steady" ts0) "__get__" = some none)
    (kgX : PySem.W.specialIn K (.str "losing" ts1) "__get__" = some none)
    (ccL : PySem.W.findIn K (.ref cL) "__class__" = some (some (.builtin "object.__class__")))
    (ccX : PySem.W.findIn K (.ref cX) "__class__" = some (some (.builtin "object.__class__")))
    (moL : PySem.W.mroIn K cL (.type "object") = some true)
    (moX : PySem.W.mroIn K cX (.type "object") = some true)
    (og : PySem.W.specialIn K (.builtin "object.__class__") "__get__" = some (some (.builtin "getset_descriptor.__get__")))
    (ot : PySem.W.takesIn K (.builtin "object.__class__") = some true)
    (stL : PySem.W.subIn K (.ref cL) (.type "tuple") = some false)
    (stX : PySem.W.subIn K (.ref cX) (.type "tuple") = some false)
    (icL : PySem.W.isClsIn K cL = true)
    (icX : PySem.W.isClsIn K cX = true)
    (tyL : PySem.W.typeIn K (.ref cL) = some (.type "type"))
    (tyX : PySem.W.typeIn K (.ref cX) = some (.type "type"))
    (sXL : PySem.W.subIn K (.ref cX) (.ref cL) = some true)
    (sLX : PySem.W.subIn K (.ref cL) (.ref cX) = some false)
    (neXL : ((Value.ref cX == Value.ref cL) : Bool) = false)
    (neLX : ((Value.ref cL == Value.ref cX) : Bool) = false)
    (rdL : PySem.W.readsIn K cL (.type "type") = true)
    (rdX : PySem.W.readsIn K cX (.type "type") = true)
    (gaL : PySem.W.specialIn K (.ref cL) "__getattribute__" = some (some (.builtin "type.__getattribute__")))
    (gaX : PySem.W.specialIn K (.ref cX) "__getattribute__" = some (some (.builtin "type.__getattribute__")))
    (fcL : PySem.W.findCls K (.ref cL) (.type "type") "KIND" = some (.val (.str "steady" ts2)))
    (fcX : PySem.W.findCls K (.ref cX) (.type "type") "KIND" = some (.val (.str "losing" ts3)))
    (gB : PySem.W.nsIn K mainGlobals "BookError" = some (some (.ref cB)))
    (gT : PySem.W.nsIn K mainGlobals "InvalidText" = some (some (.ref cT)))
    (g1 : PySem.W.nsIn K mainGlobals "InvalidEntries" = some (some (.ref c1)))
    (g2 : PySem.W.nsIn K mainGlobals "InvalidNumber" = some (some (.ref c2)))
    (g3 : PySem.W.nsIn K mainGlobals "InvalidServer" = some (some (.ref c3)))
    (g4 : PySem.W.nsIn K mainGlobals "InvalidServers" = some (some (.ref c4)))
    (g5 : PySem.W.nsIn K mainGlobals "InvalidSize" = some (some (.ref c5)))
    (xi : PySem.W.findIn K (.ref cT) "__init__" = some (some (.ref fMT)))
    (lMT : K.lookup fMT = some ⟨ocMT, odMT, .func (PySem.W.fnOf "__init__" "InvalidText.__init__" (fnArgs s_InvalidText___init__) (fnBody s_InvalidText___init__) (fnScope s_InvalidText___init__) .none kVMT dcMT pmMT anMT cdMT ctMT), slMT⟩)
    (cMT : PySem.W.codeIn K cdMT "InvalidText.__init__" = true)
    (xt : PySem.W.typeIn K (.ref fMT) = some (.type "function"))
    (xl : K.lookup cT = some (PySem.excClassObj nmT qT cT NT bsT bmT true snT suT abT coT ddT k0T k1T k2T k3T k5T "ValueError.__new__"))
    (xr : PySem.HandSPX.refsVE bmT = true)
    (xs : PySem.W.findIn K (.ref cT) "__setattr__" = some (some (.builtin "object.__setattr__")))
    (xb : PySem.W.subIn K (.ref cT) (.type "BaseException") = some true)
    (xy : PySem.W.typeIn K (.ref cT) = some (.type "type"))
    (xk : PySem.W.keepIn K (.ref cT) = true)
    (br : PySem.W.readsIn K cB (.type "type") = true)
    (bg : PySem.W.specialIn K (.ref cB) "__getattribute__" = some (some (.builtin "type.__getattribute__")))
    (bi : PySem.W.findCls K (.ref cB) (.type "type") "__init__" = some (.val (.builtin "ValueError.__init__")))
    (xw : PySem.W.findIn K (.ref cT) "word" = some none)
    (xga : PySem.W.findIn K (.ref cT) "__getattribute__" = some (some (.builtin "BaseException.__getattribute__")))
    (xgg : PySem.W.findIn K (.ref cT) "__getattr__" = some none)
    (xhd : PySem.W.hasDictIn K cT = true)
    (xcl : PySem.W.findIn K (.ref cT) "__class__" = some (some (.builtin "object.__class__")))
    (xmo : PySem.W.mroIn K cT (.type "object") = some true)
    (xve : PySem.W.subIn K (.ref cT) (.type "ValueError") = some true)
    (xic : PySem.W.isClsIn K cT = true)
    (xss : PySem.W.subIn K (.ref cT) (.ref cT) = some true)
    (ic1 : PySem.W.isClsIn K c1 = true)
    (ty1 : PySem.W.typeIn K (.ref c1) = some (.type "type"))
    (sT1 : PySem.W.subIn K (.ref cT) (.ref c1) = some false)
    (ne1 : ((Value.ref cT == Value.ref c1) : Bool) = false)
    (ic2 : PySem.W.isClsIn K c2 = true)
    (ty2 : PySem.W.typeIn K (.ref c2) = some (.type "type"))
    (sT2 : PySem.W.subIn K (.ref cT) (.ref c2) = some false)
    (ne2 : ((Value.ref cT == Value.ref c2) : Bool) = false)
    (ic3 : PySem.W.isClsIn K c3 = true)
    (ty3 : PySem.W.typeIn K (.ref c3) = some (.type "type"))
    (sT3 : PySem.W.subIn K (.ref cT) (.ref c3) = some false)
    (ne3 : ((Value.ref cT == Value.ref c3) : Bool) = false)
    (ic4 : PySem.W.isClsIn K c4 = true)
    (ty4 : PySem.W.typeIn K (.ref c4) = some (.type "type"))
    (sT4 : PySem.W.subIn K (.ref cT) (.ref c4) = some false)
    (ne4 : ((Value.ref cT == Value.ref c4) : Bool) = false)
    (ic5 : PySem.W.isClsIn K c5 = true)
    (ty5 : PySem.W.typeIn K (.ref c5) = some (.type "type"))
    (sT5 : PySem.W.subIn K (.ref cT) (.ref c5) = some false)
    (ne5 : ((Value.ref cT == Value.ref c5) : Bool) = false)
    (g_GREATEST_SIZE : PySem.W.nsIn K mainGlobals "GREATEST_SIZE" = some (some (.int (10 ^ 30) tk0)))
    (g_MOST_SERVERS_logs : PySem.W.nsIn K mainGlobals "MOST_SERVERS_logs" = some (some (.int 12 tk1)))
    (g_MOST_LETTERS_logs : PySem.W.nsIn K mainGlobals "MOST_LETTERS_logs" = some (some (.int 8 tk2)))
    (g_MOST_ENTRIES_logs : PySem.W.nsIn K mainGlobals "MOST_ENTRIES_logs" = some (some (.int 200 tk3)))
    (g_LETTERS_logs : PySem.W.nsIn K mainGlobals "LETTERS_logs" = some (some (.str LETT ts4)))
    (g_LOSING : PySem.W.nsIn K mainGlobals "LOSING" = some (some (.str "losing" ts5)))
    (g_DIGITS : PySem.W.nsIn K mainGlobals "DIGITS" = some (some (.str "0123456789" ts6)))
    (g_LETTERS_texts : PySem.W.nsIn K mainGlobals "LETTERS_texts" = some (some (.str LETT ts7)))
    (g_MOST_DIGITS : PySem.W.nsIn K mainGlobals "MOST_DIGITS" = some (some (.int 60 tk4)))
    (g_MOST_LETTERS_texts : PySem.W.nsIn K mainGlobals "MOST_LETTERS_texts" = some (some (.int 8 tk5)))
    (g_MOST_SERVERS_texts : PySem.W.nsIn K mainGlobals "MOST_SERVERS_texts" = some (some (.int 12 tk6)))
    (g_MOST_ENTRIES_texts : PySem.W.nsIn K mainGlobals "MOST_ENTRIES_texts" = some (some (.int 200 tk7)))
    (g_MOST_SIZE : PySem.W.nsIn K mainGlobals "MOST_SIZE" = some (some (.int (10 ^ 30) tk8)))
    (g_AHEAD : PySem.W.nsIn K mainGlobals "AHEAD" = some (some (.int 3 tk9)))
    (b_len : PySem.W.nsIn K mainGlobals "len" = some none)
    (b_isinstance : PySem.W.nsIn K mainGlobals "isinstance" = some none)
    (b_int : PySem.W.nsIn K mainGlobals "int" = some none)
    (b_bool : PySem.W.nsIn K mainGlobals "bool" = some none)
    (b_str : PySem.W.nsIn K mainGlobals "str" = some none)
    (b_list : PySem.W.nsIn K mainGlobals "list" = some none)
    (b_tuple : PySem.W.nsIn K mainGlobals "tuple" = some none)
    (b_all : PySem.W.nsIn K mainGlobals "all" = some none)
    (b_set : PySem.W.nsIn K mainGlobals "set" = some none)
    (b_max : PySem.W.nsIn K mainGlobals "max" = some none)
    (b_min : PySem.W.nsIn K mainGlobals "min" = some none)
    (b_abs : PySem.W.nsIn K mainGlobals "abs" = some none)
    (b_range : PySem.W.nsIn K mainGlobals "range" = some none)
    (b_repr : PySem.W.nsIn K mainGlobals "repr" = some none)
    (b_enumerate : PySem.W.nsIn K mainGlobals "enumerate" = some none)
    (b_ValueError : PySem.W.nsIn K mainGlobals "ValueError" = some none)
    : ∃ fd : FuncData, (∀ (s : Shared) (v : Value), BindsTo s fd ⟨[v], []⟩ [("script", v)]) ∧ ∀ base : Heap, K.In base → base.Ns mainGlobals mg → FnG P w K mg base 10 fa fd ["script"] (spLaw K) := by
  have e := hfa.symm.trans (PySem.W.mg_of X G a_law)
  obtain rfl : f_law = fa := by cases e; rfl
  have F_is_integer : C8.Fun K "is_integer" "is_integer" s_is_integer f_is_integer _ := ⟨_, _, _, _, _, _, _, _, _, _, rfl, l_is_integer, c_is_integer⟩
  have D_is_integer : Dx K mg "is_integer" s_is_integer ["thing"] := ⟨_, _, ⟨F_is_integer, PySem.W.mg_of X G a_is_integer, k_is_integer⟩, F_is_integer.binds rfl fun _ _ _ _ _ _ us hl => match us, hl with | [_], _ => rfl⟩
  have F_is_size : C8.Fun K "is_size" "is_size" s_is_size f_is_size _ := ⟨_, _, _, _, _, _, _, _, _, _, rfl, l_is_size, c_is_size⟩
  have D_is_size : Dx K mg "is_size" s_is_size ["thing"] := ⟨_, _, ⟨F_is_size, PySem.W.mg_of X G a_is_size, k_is_size⟩, F_is_size.binds rfl fun _ _ _ _ _ _ us hl => match us, hl with | [_], _ => rfl⟩
  have F_is_name_logs : C8.Fun K "is_name" "is_name" s_is_name_logs f_is_name_logs _ := ⟨_, _, _, _, _, _, _, _, _, _, rfl, l_is_name_logs, c_is_name_logs⟩
  have D_is_name_logs : Dy K mg "is_name_logs" "is_name" s_is_name_logs ["thing"] := ⟨_, _, F_is_name_logs, PySem.W.mg_of X G a_is_name_logs, k_is_name_logs, F_is_name_logs.binds rfl fun _ _ _ _ _ _ us hl => match us, hl with | [_], _ => rfl⟩
  have F_are_servers : C8.Fun K "are_servers" "are_servers" s_are_servers f_are_servers _ := ⟨_, _, _, _, _, _, _, _, _, _, rfl, l_are_servers, c_are_servers⟩
  have D_are_servers : Dx K mg "are_servers" s_are_servers ["thing"] := ⟨_, _, ⟨F_are_servers, PySem.W.mg_of X G a_are_servers, k_are_servers⟩, F_are_servers.binds rfl fun _ _ _ _ _ _ us hl => match us, hl with | [_], _ => rfl⟩
  have F_is_server : C8.Fun K "is_server" "is_server" s_is_server f_is_server _ := ⟨_, _, _, _, _, _, _, _, _, _, rfl, l_is_server, c_is_server⟩
  have D_is_server : Dx K mg "is_server" s_is_server ["servers", "thing"] := ⟨_, _, ⟨F_is_server, PySem.W.mg_of X G a_is_server, k_is_server⟩, F_is_server.binds rfl fun _ _ _ _ _ _ us hl => match us, hl with | [_, _], _ => rfl⟩
  have F_is_entry : C8.Fun K "is_entry" "is_entry" s_is_entry f_is_entry _ := ⟨_, _, _, _, _, _, _, _, _, _, rfl, l_is_entry, c_is_entry⟩
  have D_is_entry : Dx K mg "is_entry" s_is_entry ["servers", "thing"] := ⟨_, _, ⟨F_is_entry, PySem.W.mg_of X G a_is_entry, k_is_entry⟩, F_is_entry.binds rfl fun _ _ _ _ _ _ us hl => match us, hl with | [_, _], _ => rfl⟩
  have F_are_entries : C8.Fun K "are_entries" "are_entries" s_are_entries f_are_entries _ := ⟨_, _, _, _, _, _, _, _, _, _, rfl, l_are_entries, c_are_entries⟩
  have D_are_entries : Dx K mg "are_entries" s_are_entries ["servers", "thing"] := ⟨_, _, ⟨F_are_entries, PySem.W.mg_of X G a_are_entries, k_are_entries⟩, F_are_entries.binds rfl fun _ _ _ _ _ _ us hl => match us, hl with | [_, _], _ => rfl⟩
  have F_number_in : C8.Fun K "number_in" "number_in" s_number_in f_number_in _ := ⟨_, _, _, _, _, _, _, _, _, _, rfl, l_number_in, c_number_in⟩
  have D_number_in : Dx K mg "number_in" s_number_in ["word"] := ⟨_, _, ⟨F_number_in, PySem.W.mg_of X G a_number_in, k_number_in⟩, F_number_in.binds rfl fun _ _ _ _ _ _ us hl => match us, hl with | [_], _ => rfl⟩
  have F_is_name_texts : C8.Fun K "is_name" "is_name" s_is_name_texts f_is_name_texts _ := ⟨_, _, _, _, _, _, _, _, _, _, rfl, l_is_name_texts, c_is_name_texts⟩
  have D_is_name_texts : Dy K mg "is_name_texts" "is_name" s_is_name_texts ["word"] := ⟨_, _, F_is_name_texts, PySem.W.mg_of X G a_is_name_texts, k_is_name_texts, F_is_name_texts.binds rfl fun _ _ _ _ _ _ us hl => match us, hl with | [_], _ => rfl⟩
  have F_size_in : C8.Fun K "size_in" "size_in" s_size_in f_size_in _ := ⟨_, _, _, _, _, _, _, _, _, _, rfl, l_size_in, c_size_in⟩
  have D_size_in : Dx K mg "size_in" s_size_in ["word"] := ⟨_, _, ⟨F_size_in, PySem.W.mg_of X G a_size_in, k_size_in⟩, F_size_in.binds rfl fun _ _ _ _ _ _ us hl => match us, hl with | [_], _ => rfl⟩
  have F_servers_in : C8.Fun K "servers_in" "servers_in" s_servers_in f_servers_in _ := ⟨_, _, _, _, _, _, _, _, _, _, rfl, l_servers_in, c_servers_in⟩
  have D_servers_in : Dx K mg "servers_in" s_servers_in ["word"] := ⟨_, _, ⟨F_servers_in, PySem.W.mg_of X G a_servers_in, k_servers_in⟩, F_servers_in.binds rfl fun _ _ _ _ _ _ us hl => match us, hl with | [_], _ => rfl⟩
  have F_entry_in : C8.Fun K "entry_in" "entry_in" s_entry_in f_entry_in _ := ⟨_, _, _, _, _, _, _, _, _, _, rfl, l_entry_in, c_entry_in⟩
  have D_entry_in : Dx K mg "entry_in" s_entry_in ["word", "servers"] := ⟨_, _, ⟨F_entry_in, PySem.W.mg_of X G a_entry_in, k_entry_in⟩, F_entry_in.binds rfl fun _ _ _ _ _ _ us hl => match us, hl with | [_, _], _ => rfl⟩
  have F_log_of_texts : C8.Fun K "log_of" "log_of" s_log_of_texts f_log_of_texts _ := ⟨_, _, _, _, _, _, _, _, _, _, rfl, l_log_of_texts, c_log_of_texts⟩
  have D_log_of_texts : Dy K mg "log_of_texts" "log_of" s_log_of_texts ["kind", "size", "servers", "entries"] := ⟨_, _, F_log_of_texts, PySem.W.mg_of X G a_log_of_texts, k_log_of_texts, F_log_of_texts.binds rfl fun _ _ _ _ _ _ us hl => match us, hl with | [_, _, _, _], _ => rfl⟩
  have F_read_log : C8.Fun K "read_log" "read_log" s_read_log f_read_log _ := ⟨_, _, _, _, _, _, _, _, _, _, rfl, l_read_log, c_read_log⟩
  have D_read_log : Dk K mg "read_log" s_read_log ["text"] := ⟨_, _, ⟨F_read_log, PySem.W.mg_of X G a_read_log, k_read_log⟩, (F_read_log.binds rfl fun _ _ _ _ _ _ us hl => match us, hl with | [_], _ => rfl), rfl⟩
  have F__law_urn : C8.Fun K "_law_urn" "_law_urn" s__law_urn f__law_urn _ := ⟨_, _, _, _, _, _, _, _, _, _, rfl, l__law_urn, c__law_urn⟩
  have D__law_urn : Dx K mg "_law_urn" s__law_urn ["script"] := ⟨_, _, ⟨F__law_urn, PySem.W.mg_of X G a__law_urn, k__law_urn⟩, F__law_urn.binds rfl fun _ _ _ _ _ _ us hl => match us, hl with | [_], _ => rfl⟩
  have F__law_lot : C8.Fun K "_law_lot" "_law_lot" s__law_lot f__law_lot _ := ⟨_, _, _, _, _, _, _, _, _, _, rfl, l__law_lot, c__law_lot⟩
  have D__law_lot : Dx K mg "_law_lot" s__law_lot ["urn", "many"] := ⟨_, _, ⟨F__law_lot, PySem.W.mg_of X G a__law_lot, k__law_lot⟩, F__law_lot.binds rfl fun _ _ _ _ _ _ us hl => match us, hl with | [_, _], _ => rfl⟩
  have F__law_names : C8.Fun K "_law_names" "_law_names" s__law_names f__law_names _ := ⟨_, _, _, _, _, _, _, _, _, _, rfl, l__law_names, c__law_names⟩
  have D__law_names : Dx K mg "_law_names" s__law_names ["urn", "most"] := ⟨_, _, ⟨F__law_names, PySem.W.mg_of X G a__law_names, k__law_names⟩, F__law_names.binds rfl fun _ _ _ _ _ _ us hl => match us, hl with | [_, _], _ => rfl⟩
  have F__law_rows : C8.Fun K "_law_rows" "_law_rows" s__law_rows f__law_rows _ := ⟨_, _, _, _, _, _, _, _, _, _, rfl, l__law_rows, c__law_rows⟩
  have D__law_rows : Dx K mg "_law_rows" s__law_rows ["urn", "names", "many"] := ⟨_, _, ⟨F__law_rows, PySem.W.mg_of X G a__law_rows, k__law_rows⟩, F__law_rows.binds rfl fun _ _ _ _ _ _ us hl => match us, hl with | [_, _, _], _ => rfl⟩
  have F__law_text : C8.Fun K "_law_text" "_law_text" s__law_text f__law_text _ := ⟨_, _, _, _, _, _, _, _, _, _, rfl, l__law_text, c__law_text⟩
  have D__law_text : Dx K mg "_law_text" s__law_text ["wide", "names", "rows", "is_losing"] := ⟨_, _, ⟨F__law_text, PySem.W.mg_of X G a__law_text, k__law_text⟩, F__law_text.binds rfl fun _ _ _ _ _ _ us hl => match us, hl with | [_, _, _, _], _ => rfl⟩
  have F__law_number : C8.Fun K "_law_number" "_law_number" s__law_number f__law_number _ := ⟨_, _, _, _, _, _, _, _, _, _, rfl, l__law_number, c__law_number⟩
  have D__law_number : Dx K mg "_law_number" s__law_number ["word"] := ⟨_, _, ⟨F__law_number, PySem.W.mg_of X G a__law_number, k__law_number⟩, F__law_number.binds rfl fun _ _ _ _ _ _ us hl => match us, hl with | [_], _ => rfl⟩
  have F__law_is_name : C8.Fun K "_law_is_name" "_law_is_name" s__law_is_name f__law_is_name _ := ⟨_, _, _, _, _, _, _, _, _, _, rfl, l__law_is_name, c__law_is_name⟩
  have D__law_is_name : Dx K mg "_law_is_name" s__law_is_name ["word"] := ⟨_, _, ⟨F__law_is_name, PySem.W.mg_of X G a__law_is_name, k__law_is_name⟩, F__law_is_name.binds rfl fun _ _ _ _ _ _ us hl => match us, hl with | [_], _ => rfl⟩
  have F__law_can_stand : C8.Fun K "_law_can_stand" "_law_can_stand" s__law_can_stand f__law_can_stand _ := ⟨_, _, _, _, _, _, _, _, _, _, rfl, l__law_can_stand, c__law_can_stand⟩
  have D__law_can_stand : Dx K mg "_law_can_stand" s__law_can_stand ["words", "spot"] := ⟨_, _, ⟨F__law_can_stand, PySem.W.mg_of X G a__law_can_stand, k__law_can_stand⟩, F__law_can_stand.binds rfl fun _ _ _ _ _ _ us hl => match us, hl with | [_, _], _ => rfl⟩
  have F__law_due : C8.Fun K "_law_due" "_law_due" s__law_due f__law_due _ := ⟨_, _, _, _, _, _, _, _, _, _, rfl, l__law_due, c__law_due⟩
  have D__law_due : Dx K mg "_law_due" s__law_due ["written"] := ⟨_, _, ⟨F__law_due, PySem.W.mg_of X G a__law_due, k__law_due⟩, F__law_due.binds rfl fun _ _ _ _ _ _ us hl => match us, hl with | [_], _ => rfl⟩
  have F__law_told : C8.Fun K "_law_told" "_law_told" s__law_told f__law_told _ := ⟨_, _, _, _, _, _, _, _, _, _, rfl, l__law_told, c__law_told⟩
  have D__law_told : Dx K mg "_law_told" s__law_told ["written", "by_name"] := ⟨_, _, ⟨F__law_told, PySem.W.mg_of X G a__law_told, k__law_told⟩, F__law_told.binds rfl fun _ _ _ _ _ _ us hl => match us, hl with | [_, _], _ => rfl⟩
  have F__law_bent : C8.Fun K "_law_bent" "_law_bent" s__law_bent f__law_bent _ := ⟨_, _, _, _, _, _, _, _, _, _, rfl, l__law_bent, c__law_bent⟩
  have D__law_bent : Dx K mg "_law_bent" s__law_bent ["urn", "written"] := ⟨_, _, ⟨F__law_bent, PySem.W.mg_of X G a__law_bent, k__law_bent⟩, F__law_bent.binds rfl fun _ _ _ _ _ _ us hl => match us, hl with | [_, _], _ => rfl⟩
  have F_law : C8.Fun K "law" "law" s_law _ _ := ⟨_, _, _, _, _, _, _, _, _, _, rfl, l_law, c_law⟩
  have FI : C8.Fun K "__init__" "Log.__init__" s_Log___init__ fMI _ := ⟨_, _, _, _, _, _, _, _, _, _, rfl, lMI, cMI⟩
  have MI : Mx K "__init__" "Log.__init__" s_Log___init__ ["self", "size", "servers", "entries"] fMI _ := ⟨FI, FI.binds rfl fun _ _ _ _ _ _ us hl => match us, hl with | [_, _, _, _], _ => rfl⟩
  have FZ : C8.Fun K "size" "Log.size" s_Log_size fMZ _ := ⟨_, _, _, _, _, _, _, _, _, _, rfl, lMZ, cMZ⟩
  have MZ : Mx K "size" "Log.size" s_Log_size ["self"] fMZ _ := ⟨FZ, FZ.binds rfl fun _ _ _ _ _ _ us hl => match us, hl with | [_], _ => rfl⟩
  have FV : C8.Fun K "servers" "Log.servers" s_Log_servers fMV _ := ⟨_, _, _, _, _, _, _, _, _, _, rfl, lMV, cMV⟩
  have MV : Mx K "servers" "Log.servers" s_Log_servers ["self"] fMV _ := ⟨FV, FV.binds rfl fun _ _ _ _ _ _ us hl => match us, hl with | [_], _ => rfl⟩
  have FE : C8.Fun K "entries" "Log.entries" s_Log_entries fME _ := ⟨_, _, _, _, _, _, _, _, _, _, rfl, lME, cME⟩
  have ME : Mx K "entries" "Log.entries" s_Log_entries ["self"] fME _ := ⟨FE, FE.binds rfl fun _ _ _ _ _ _ us hl => match us, hl with | [_], _ => rfl⟩
  have CL : LogC K cL "steady" := ⟨⟨pgtL, hdL, poL, saL⟩, nheld_sizeL, nheld_serversL, nheld_entriesL, ⟨_, kdL, ⟨_, rfl⟩, kgL, by decide +kernel⟩, fun H p dx fs hp => .base (.ins hp ⟨pgtL, hdL, poL, saL⟩ ccL og ot moL), kit_tyR stL (by decide +kernel)⟩
  have CX : LogC K cX "losing" := ⟨⟨pgtX, hdX, poX, saX⟩, nheld_sizeX, nheld_serversX, nheld_entriesX, ⟨_, kdX, ⟨_, rfl⟩, kgX, by decide +kernel⟩, fun H p dx fs hp => .base (.ins hp ⟨pgtX, hdX, poX, saX⟩ ccX og ot moX), kit_tyR stX (by decide +kernel)⟩
  have kLL : PySem.W.kitOne K (.ref cL) (.ref cL) = some true := kit_same
  have kXX : PySem.W.kitOne K (.ref cX) (.ref cX) = some true := kit_same
  have kXL : PySem.W.kitOne K (.ref cX) (.ref cL) = some true := kit_ref icL tyL sXL neXL
  have kLX : PySem.W.kitOne K (.ref cL) (.ref cX) = some false := kit_ref icX tyX sLX neLX
  have T : Tz K mg cL cX := {
    n_len := PySem.W.mg_none_of X G b_len
    n_isinstance := PySem.W.mg_none_of X G b_isinstance
    n_int := PySem.W.mg_none_of X G b_int
    n_bool := PySem.W.mg_none_of X G b_bool
    n_str := PySem.W.mg_none_of X G b_str
    n_list := PySem.W.mg_none_of X G b_list
    n_tuple := PySem.W.mg_none_of X G b_tuple
    n_all := PySem.W.mg_none_of X G b_all
    n_set := PySem.W.mg_none_of X G b_set
    n_max := PySem.W.mg_none_of X G b_max
    n_min := PySem.W.mg_none_of X G b_min
    n_abs := PySem.W.mg_none_of X G b_abs
    n_range := PySem.W.mg_none_of X G b_range
    n_repr := PySem.W.mg_none_of X G b_repr
    n_enumerate := PySem.W.mg_none_of X G b_enumerate
    g_GREATEST_SIZE := ⟨_, PySem.W.mg_of X G g_GREATEST_SIZE, ⟨_, rfl⟩⟩
    g_MOST_SERVERS_logs := ⟨_, PySem.W.mg_of X G g_MOST_SERVERS_logs, ⟨_, rfl⟩⟩
    g_MOST_LETTERS_logs := ⟨_, PySem.W.mg_of X G g_MOST_LETTERS_logs, ⟨_, rfl⟩⟩
    g_MOST_ENTRIES_logs := ⟨_, PySem.W.mg_of X G g_MOST_ENTRIES_logs, ⟨_, rfl⟩⟩
    g_LETTERS_logs := ⟨_, PySem.W.mg_of X G g_LETTERS_logs, ⟨_, rfl⟩⟩
    g_LOSING := ⟨_, PySem.W.mg_of X G g_LOSING, ⟨_, rfl⟩⟩
    g_DIGITS := ⟨_, PySem.W.mg_of X G g_DIGITS, ⟨_, rfl⟩⟩
    g_LETTERS_texts := ⟨_, PySem.W.mg_of X G g_LETTERS_texts, ⟨_, rfl⟩⟩
    g_MOST_DIGITS := ⟨_, PySem.W.mg_of X G g_MOST_DIGITS, ⟨_, rfl⟩⟩
    g_MOST_LETTERS_texts := ⟨_, PySem.W.mg_of X G g_MOST_LETTERS_texts, ⟨_, rfl⟩⟩
    g_MOST_SERVERS_texts := ⟨_, PySem.W.mg_of X G g_MOST_SERVERS_texts, ⟨_, rfl⟩⟩
    g_MOST_ENTRIES_texts := ⟨_, PySem.W.mg_of X G g_MOST_ENTRIES_texts, ⟨_, rfl⟩⟩
    g_MOST_SIZE := ⟨_, PySem.W.mg_of X G g_MOST_SIZE, ⟨_, rfl⟩⟩
    g_AHEAD := ⟨_, PySem.W.mg_of X G g_AHEAD, ⟨_, rfl⟩⟩
    g_Log := ⟨_, PySem.W.mg_of X G gL, rfl⟩
    g_LosingLog := ⟨_, PySem.W.mg_of X G gX, rfl⟩
    cl1 := CL
    cl2 := CX
    ll := kLL
    xl := kXL
    lx := kLX
    xx := kXX }
  have Ms' : Ms K ⟨fMI, fMZ, fMV, fME, (PySem.W.fnOf "__init__" "Log.__init__" (fnArgs s_Log___init__) (fnBody s_Log___init__) (fnScope s_Log___init__) .none kVMI dcMI pmMI anMI cdMI ctMI), (PySem.W.fnOf "size" "Log.size" (fnArgs s_Log_size) (fnBody s_Log_size) (fnScope s_Log_size) .none kVMZ dcMZ pmMZ anMZ cdMZ ctMZ), (PySem.W.fnOf "servers" "Log.servers" (fnArgs s_Log_servers) (fnBody s_Log_servers) (fnScope s_Log_servers) .none kVMV dcMV pmMV anMV cdMV ctMV), (PySem.W.fnOf "entries" "Log.entries" (fnArgs s_Log_entries) (fnBody s_Log_entries) (fnScope s_Log_entries) .none kVME dcME pmME anME cdME ctME)⟩ := ⟨MI, MZ, MV, ME⟩
  have ML' : LogM K cL false ⟨fMI, fMZ, fMV, fME, (PySem.W.fnOf "__init__" "Log.__init__" (fnArgs s_Log___init__) (fnBody s_Log___init__) (fnScope s_Log___init__) .none kVMI dcMI pmMI anMI cdMI ctMI), (PySem.W.fnOf "size" "Log.size" (fnArgs s_Log_size) (fnBody s_Log_size) (fnScope s_Log_size) .none kVMZ dcMZ pmMZ anMZ cdMZ ctMZ), (PySem.W.fnOf "servers" "Log.servers" (fnArgs s_Log_servers) (fnBody s_Log_servers) (fnScope s_Log_servers) .none kVMV dcMV pmMV anMV cdMV ctMV), (PySem.W.fnOf "entries" "Log.entries" (fnArgs s_Log_entries) (fnBody s_Log_entries) (fnScope s_Log_entries) .none kVME dcME pmME anME cdME ctME)⟩ := { (show LogC K cL (kdB false) from CL) with
    mkk := ⟨mkL, mLI, miI, kcL⟩
    pZ := ⟨_, pZL, pgZ, ptZ, _, prZ⟩
    pV := ⟨_, pVL, pgV, ptV, _, prV⟩
    pE := ⟨_, pEL, pgE, ptE, _, prE⟩ }
  have MX' : LogM K cX true ⟨fMI, fMZ, fMV, fME, (PySem.W.fnOf "__init__" "Log.__init__" (fnArgs s_Log___init__) (fnBody s_Log___init__) (fnScope s_Log___init__) .none kVMI dcMI pmMI anMI cdMI ctMI), (PySem.W.fnOf "size" "Log.size" (fnArgs s_Log_size) (fnBody s_Log_size) (fnScope s_Log_size) .none kVMZ dcMZ pmMZ anMZ cdMZ ctMZ), (PySem.W.fnOf "servers" "Log.servers" (fnArgs s_Log_servers) (fnBody s_Log_servers) (fnScope s_Log_servers) .none kVMV dcMV pmMV anMV cdMV ctMV), (PySem.W.fnOf "entries" "Log.entries" (fnArgs s_Log_entries) (fnBody s_Log_entries) (fnScope s_Log_entries) .none kVME dcME pmME anME cdME ctME)⟩ := { (show LogC K cX (kdB true) from CX) with
    mkk := ⟨mkX, mXI, miI, kcX⟩
    pZ := ⟨_, pZX, pgZ, ptZ, _, prZ⟩
    pV := ⟨_, pVX, pgV, ptV, _, prV⟩
    pE := ⟨_, pEX, pgE, ptE, _, prE⟩ }
  have Kc : KindC K cL cX := ⟨⟨_, _, ⟨rdL, gaL⟩, ⟨fcL, ⟨_, rfl⟩⟩⟩, ⟨_, _, ⟨rdX, gaX⟩, ⟨fcX, ⟨_, rfl⟩⟩⟩⟩
  have FT : C8.Fun K "__init__" "InvalidText.__init__" s_InvalidText___init__ fMT _ := ⟨_, _, _, _, _, _, _, _, _, _, rfl, lMT, cMT⟩
  have MT : Mx K "__init__" "InvalidText.__init__" s_InvalidText___init__ ["self", "word"] fMT _ := ⟨FT, FT.binds rfl fun _ _ _ _ _ _ us hl => match us, hl with | [_, _], _ => rfl⟩
  have T2 : TxtE K mg cB cT fMT _ := { o := ⟨⟨_, _, _, _, _, _, _, _, _, _, _, _, _, _, _, xl, xr⟩, xs, xb, xy, xk⟩, i := xi, t := xt, b := MT.b, g := PySem.W.mg_of X G gT, mI := MT, bi := ⟨_, ⟨⟨br, bg⟩, bi⟩⟩, gB := PySem.W.mg_of X G gB, nw := xw, xf := ⟨xga, xgg, xb, xhd⟩, xc := ⟨xga, xgg, xb, xhd, xcl, og, ot, xmo⟩ }
  have kT1 : PySem.W.kitOne K (.ref cT) (.ref c1) = some false := kit_ref ic1 ty1 sT1 ne1
  have kT2 : PySem.W.kitOne K (.ref cT) (.ref c2) = some false := kit_ref ic2 ty2 sT2 ne2
  have kT3 : PySem.W.kitOne K (.ref cT) (.ref c3) = some false := kit_ref ic3 ty3 sT3 ne3
  have kT4 : PySem.W.kitOne K (.ref cT) (.ref c4) = some false := kit_ref ic4 ty4 sT4 ne4
  have kT5 : PySem.W.kitOne K (.ref cT) (.ref c5) = some false := kit_ref ic5 ty5 sT5 ne5
  have kA : PySem.W.kitAny K (.ref cT) [.ref c1, .ref c2, .ref c3, .ref c4, .ref c5] = some false := by simp only [PySem.W.kitAny, kT1, kT2, kT3, kT4, kT5]
  have T3 : OthE K mg cT c1 c2 c3 c4 c5 := { n := PySem.W.mg_none_of X G b_ValueError, g1 := ⟨_, PySem.W.mg_of X G g1, rfl⟩, g2 := ⟨_, PySem.W.mg_of X G g2, rfl⟩, g3 := ⟨_, PySem.W.mg_of X G g3, rfl⟩, g4 := ⟨_, PySem.W.mg_of X G g4, rfl⟩, g5 := ⟨_, PySem.W.mg_of X G g5, rfl⟩, kv := kit_tyR xve (by decide +kernel), ka := kA, eT := exm_self xb xic xy xss }
  have S : Tops K mg cL cX _ ⟨cB, cT, fMT, c1, c2, c3, c4, c5, _⟩ := ⟨T, Kc, ML', MX', Ms', T2, T3, PySem.W.mg_of X G gL, PySem.W.mg_of X G gX, D_is_integer, D_is_size, D_is_name_logs, D_are_servers, D_is_server, D_is_entry, D_are_entries, D_number_in, D_is_name_texts, D_size_in, D_servers_in, D_entry_in, D_log_of_texts, D_read_log, D__law_urn, D__law_lot, D__law_names, D__law_rows, D__law_text, D__law_number, D__law_is_name, D__law_can_stand, D__law_due, D__law_told, D__law_bent⟩
  exact ⟨_, fun s v => .of_eq rfl, fun base _ _ => ok_law S F_law⟩
end NB

set_option Elab.async false
set_option maxRecDepth 100000
set_option maxHeartbeats 0
open PySem PySem.W PyProof.Rows
theorem PySem.Challenge.cw_numberbooks_k82_texts_of_no_log_holds : PySem.Challenge.rw_numberbooks_k82_texts_of_no_log.Holds := by
  refine hd ?_
  k_fill
  refine NB.walk_g (l := PySem.Challenge.rw_numberbooks_k82_texts_of_no_log) (n := 63) (k := 10) (x := "script") (sp := NB.spLaw) rfl (by decide) rfl ⟨rfl, by decide, by decide⟩ (fun w h Y => PySem.W.kIn_of Y) ?F (fun K H a ns hl _ hS => ⟨a, ns, rfl, hS, hl, fun _ => rfl⟩)
  case F =>
    intro w mg fa h KX G hmg
    refine' NB.all_mk KX G hmg ?a_is_integer ?l_is_integer ?c_is_integer ?k_is_integer ?a_is_size ?l_is_size ?c_is_size ?k_is_size ?a_is_name_logs ?l_is_name_logs ?c_is_name_logs ?k_is_name_logs ?a_are_servers ?l_are_servers ?c_are_servers ?k_are_servers ?a_is_server ?l_is_server ?c_is_server ?k_is_server ?a_is_entry ?l_is_entry ?c_is_entry ?k_is_entry ?a_are_entries ?l_are_entries ?c_are_entries ?k_are_entries ?a_number_in ?l_number_in ?c_number_in ?k_number_in ?a_is_name_texts ?l_is_name_texts ?c_is_name_texts ?k_is_name_texts ?a_size_in ?l_size_in ?c_size_in ?k_size_in ?a_servers_in ?l_servers_in ?c_servers_in ?k_servers_in ?a_entry_in ?l_entry_in ?c_entry_in ?k_entry_in ?a_log_of_texts ?l_log_of_texts ?c_log_of_texts ?k_log_of_texts ?a_read_log ?l_read_log ?c_read_log ?k_read_log ?a__law_urn ?l__law_urn ?c__law_urn ?k__law_urn ?a__law_lot ?l__law_lot ?c__law_lot ?k__law_lot ?a__law_names ?l__law_names ?c__law_names ?k__law_names ?a__law_rows ?l__law_rows ?c__law_rows ?k__law_rows ?a__law_text ?l__law_text ?c__law_text ?k__law_text ?a__law_number ?l__law_number ?c__law_number ?k__law_number ?a__law_is_name ?l__law_is_name ?c__law_is_name ?k__law_is_name ?a__law_can_stand ?l__law_can_stand ?c__law_can_stand ?k__law_can_stand ?a__law_due ?l__law_due ?c__law_due ?k__law_due ?a__law_told ?l__law_told ?c__law_told ?k__law_told ?a__law_bent ?l__law_bent ?c__law_bent ?k__law_bent ?a_law ?l_law ?c_law ?k_law ?gL ?gX ?mLI ?mXI ?miI ?lMI ?cMI ?pZL ?pZX ?pgZ ?ptZ ?prZ ?lMZ ?cMZ ?pVL ?pVX ?pgV ?ptV ?prV ?lMV ?cMV ?pEL ?pEX ?pgE ?ptE ?prE ?lME ?cME ?pgtL ?pgtX ?hdL ?hdX ?poL ?poX ?saL ?saX ?mkL ?mkX ?kcL ?kcX ?nheld_sizeL ?nheld_sizeX ?nheld_serversL ?nheld_serversX ?nheld_entriesL ?nheld_entriesX ?kdL ?kdX ?kgL ?kgX ?ccL ?ccX ?moL ?moX ?og ?ot ?stL ?stX ?icL ?icX ?tyL ?tyX ?sXL ?sLX ?neXL ?neLX ?rdL ?rdX ?gaL ?gaX ?fcL ?fcX ?gB ?gT ?g1 ?g2 ?g3 ?g4 ?g5 ?xi ?lMT ?cMT ?xt ?xl ?xr ?xs ?xb ?xy ?xk ?br ?bg ?bi ?xw ?xga ?xgg ?xhd ?xcl ?xmo ?xve ?xic ?xss ?ic1 ?ty1 ?sT1 ?ne1 ?ic2 ?ty2 ?sT2 ?ne2 ?ic3 ?ty3 ?sT3 ?ne3 ?ic4 ?ty4 ?sT4 ?ne4 ?ic5 ?ty5 ?sT5 ?ne5 ?g_GREATEST_SIZE ?g_MOST_SERVERS_logs ?g_MOST_LETTERS_logs ?g_MOST_ENTRIES_logs ?g_LETTERS_logs ?g_LOSING ?g_DIGITS ?g_LETTERS_texts ?g_MOST_DIGITS ?g_MOST_LETTERS_texts ?g_MOST_SERVERS_texts ?g_MOST_ENTRIES_texts ?g_MOST_SIZE ?g_AHEAD ?b_len ?b_isinstance ?b_int ?b_bool ?b_str ?b_list ?b_tuple ?b_all ?b_set ?b_max ?b_min ?b_abs ?b_range ?b_repr ?b_enumerate ?b_ValueError
    (case a_is_integer => first | k_is | rfl)
    (case l_is_integer => first | k_is | rfl)
    (case c_is_integer => first | k_is | rfl)
    (case k_is_integer => first | k_is | rfl)
    (case a_is_size => first | k_is | rfl)
    (case l_is_size => first | k_is | rfl)
    (case c_is_size => first | k_is | rfl)
    (case k_is_size => first | k_is | rfl)
    (case a_is_name_logs => first | k_is | rfl)
    (case l_is_name_logs => first | k_is | rfl)
    (case c_is_name_logs => first | k_is | rfl)
    (case k_is_name_logs => first | k_is | rfl)
    (case a_are_servers => first | k_is | rfl)
    (case l_are_servers => first | k_is | rfl)
    (case c_are_servers => first | k_is | rfl)
    (case k_are_servers => first | k_is | rfl)
    (case a_is_server => first | k_is | rfl)
    (case l_is_server => first | k_is | rfl)
    (case c_is_server => first | k_is | rfl)
    (case k_is_server => first | k_is | rfl)
    (case a_is_entry => first | k_is | rfl)
    (case l_is_entry => first | k_is | rfl)
    (case c_is_entry => first | k_is | rfl)
    (case k_is_entry => first | k_is | rfl)
    (case a_are_entries => first | k_is | rfl)
    (case l_are_entries => first | k_is | rfl)
    (case c_are_entries => first | k_is | rfl)
    (case k_are_entries => first | k_is | rfl)
    (case a_number_in => first | k_is | rfl)
    (case l_number_in => first | k_is | rfl)
    (case c_number_in => first | k_is | rfl)
    (case k_number_in => first | k_is | rfl)
    (case a_is_name_texts => first | k_is | rfl)
    (case l_is_name_texts => first | k_is | rfl)
    (case c_is_name_texts => first | k_is | rfl)
    (case k_is_name_texts => first | k_is | rfl)
    (case a_size_in => first | k_is | rfl)
    (case l_size_in => first | k_is | rfl)
    (case c_size_in => first | k_is | rfl)
    (case k_size_in => first | k_is | rfl)
    (case a_servers_in => first | k_is | rfl)
    (case l_servers_in => first | k_is | rfl)
    (case c_servers_in => first | k_is | rfl)
    (case k_servers_in => first | k_is | rfl)
    (case a_entry_in => first | k_is | rfl)
    (case l_entry_in => first | k_is | rfl)
    (case c_entry_in => first | k_is | rfl)
    (case k_entry_in => first | k_is | rfl)
    (case a_log_of_texts => first | k_is | rfl)
    (case l_log_of_texts => first | k_is | rfl)
    (case c_log_of_texts => first | k_is | rfl)
    (case k_log_of_texts => first | k_is | rfl)
    (case a_read_log => first | k_is | rfl)
    (case l_read_log => first | k_is | rfl)
    (case c_read_log => first | k_is | rfl)
    (case k_read_log => first | k_is | rfl)
    (case a__law_urn => first | k_is | rfl)
    (case l__law_urn => first | k_is | rfl)
    (case c__law_urn => first | k_is | rfl)
    (case k__law_urn => first | k_is | rfl)
    (case a__law_lot => first | k_is | rfl)
    (case l__law_lot => first | k_is | rfl)
    (case c__law_lot => first | k_is | rfl)
    (case k__law_lot => first | k_is | rfl)
    (case a__law_names => first | k_is | rfl)
    (case l__law_names => first | k_is | rfl)
    (case c__law_names => first | k_is | rfl)
    (case k__law_names => first | k_is | rfl)
    (case a__law_rows => first | k_is | rfl)
    (case l__law_rows => first | k_is | rfl)
    (case c__law_rows => first | k_is | rfl)
    (case k__law_rows => first | k_is | rfl)
    (case a__law_text => first | k_is | rfl)
    (case l__law_text => first | k_is | rfl)
    (case c__law_text => first | k_is | rfl)
    (case k__law_text => first | k_is | rfl)
    (case a__law_number => first | k_is | rfl)
    (case l__law_number => first | k_is | rfl)
    (case c__law_number => first | k_is | rfl)
    (case k__law_number => first | k_is | rfl)
    (case a__law_is_name => first | k_is | rfl)
    (case l__law_is_name => first | k_is | rfl)
    (case c__law_is_name => first | k_is | rfl)
    (case k__law_is_name => first | k_is | rfl)
    (case a__law_can_stand => first | k_is | rfl)
    (case l__law_can_stand => first | k_is | rfl)
    (case c__law_can_stand => first | k_is | rfl)
    (case k__law_can_stand => first | k_is | rfl)
    (case a__law_due => first | k_is | rfl)
    (case l__law_due => first | k_is | rfl)
    (case c__law_due => first | k_is | rfl)
    (case k__law_due => first | k_is | rfl)
    (case a__law_told => first | k_is | rfl)
    (case l__law_told => first | k_is | rfl)
    (case c__law_told => first | k_is | rfl)
    (case k__law_told => first | k_is | rfl)
    (case a__law_bent => first | k_is | rfl)
    (case l__law_bent => first | k_is | rfl)
    (case c__law_bent => first | k_is | rfl)
    (case k__law_bent => first | k_is | rfl)
    (case a_law => first | k_is | rfl)
    (case l_law => first | k_is | rfl)
    (case c_law => first | k_is | rfl)
    (case k_law => first | k_is | rfl)
    (case gL => first | k_is | rfl)
    (case gX => first | k_is | rfl)
    (case mLI => first | k_is | rfl)
    (case mXI => first | k_is | rfl)
    (case miI => first | k_is | rfl)
    (case lMI => first | k_is | rfl)
    (case cMI => first | k_is | rfl)
    (case pZL => first | k_is | rfl)
    (case pZX => first | k_is | rfl)
    (case pgZ => first | k_is | rfl)
    (case ptZ => first | k_is | rfl)
    (case prZ => first | k_is | rfl)
    (case lMZ => first | k_is | rfl)
    (case cMZ => first | k_is | rfl)
    (case pVL => first | k_is | rfl)
    (case pVX => first | k_is | rfl)
    (case pgV => first | k_is | rfl)
    (case ptV => first | k_is | rfl)
    (case prV => first | k_is | rfl)
    (case lMV => first | k_is | rfl)
    (case cMV => first | k_is | rfl)
    (case pEL => first | k_is | rfl)
    (case pEX => first | k_is | rfl)
    (case pgE => first | k_is | rfl)
    (case ptE => first | k_is | rfl)
    (case prE => first | k_is | rfl)
    (case lME => first | k_is | rfl)
    (case cME => first | k_is | rfl)
    (case pgtL => first | k_is | rfl)
    (case pgtX => first | k_is | rfl)
    (case hdL => first | k_is | rfl)
    (case hdX => first | k_is | rfl)
    (case poL => first | k_is | rfl)
    (case poX => first | k_is | rfl)
    (case saL => first | k_is | rfl)
    (case saX => first | k_is | rfl)
    (case mkL => first | k_is | rfl)
    (case mkX => first | k_is | rfl)
    (case kcL => first | k_is | rfl)
    (case kcX => first | k_is | rfl)
    (case nheld_sizeL => first | k_is | rfl)
    (case nheld_sizeX => first | k_is | rfl)
    (case nheld_serversL => first | k_is | rfl)
    (case nheld_serversX => first | k_is | rfl)
    (case nheld_entriesL => first | k_is | rfl)
    (case nheld_entriesX => first | k_is | rfl)
    (case kdL => first | k_is | rfl)
    (case kdX => first | k_is | rfl)
    (case kgL => first | k_is | rfl)
    (case kgX => first | k_is | rfl)
    (case ccL => first | k_is | rfl)
    (case ccX => first | k_is | rfl)
    (case moL => first | k_is | rfl)
    (case moX => first | k_is | rfl)
    (case og => first | k_is | rfl)
    (case ot => first | k_is | rfl)
    (case stL => first | k_is | rfl)
    (case stX => first | k_is | rfl)
    (case icL => first | k_is | rfl)
    (case icX => first | k_is | rfl)
    (case tyL => first | k_is | rfl)
    (case tyX => first | k_is | rfl)
    (case sXL => first | k_is | rfl)
    (case sLX => first | k_is | rfl)
    (case neXL => first | k_is | rfl)
    (case neLX => first | k_is | rfl)
    (case rdL => first | k_is | rfl)
    (case rdX => first | k_is | rfl)
    (case gaL => first | k_is | rfl)
    (case gaX => first | k_is | rfl)
    (case fcL => first | k_is | rfl)
    (case fcX => first | k_is | rfl)
    (case gB => first | k_is | rfl)
    (case gT => first | k_is | rfl)
    (case g1 => first | k_is | rfl)
    (case g2 => first | k_is | rfl)
    (case g3 => first | k_is | rfl)
    (case g4 => first | k_is | rfl)
    (case g5 => first | k_is | rfl)
    (case xi => first | k_is | rfl)
    (case lMT => first | k_is | rfl)
    (case cMT => first | k_is | rfl)
    (case xt => first | k_is | rfl)
    (case xl => first | k_is | rfl)
    (case xr => first | k_is | rfl)
    (case xs => first | k_is | rfl)
    (case xb => first | k_is | rfl)
    (case xy => first | k_is | rfl)
    (case xk => first | k_is | rfl)
    (case br => first | k_is | rfl)
    (case bg => first | k_is | rfl)
    (case bi => first | k_is | rfl)
    (case xw => first | k_is | rfl)
    (case xga => first | k_is | rfl)
    (case xgg => first | k_is | rfl)
    (case xhd => first | k_is | rfl)
    (case xcl => first | k_is | rfl)
    (case xmo => first | k_is | rfl)
    (case xve => first | k_is | rfl)
    (case xic => first | k_is | rfl)
    (case xss => first | k_is | rfl)
    (case ic1 => first | k_is | rfl)
    (case ty1 => first | k_is | rfl)
    (case sT1 => first | k_is | rfl)
    (case ne1 => first | k_is | rfl)
    (case ic2 => first | k_is | rfl)
    (case ty2 => first | k_is | rfl)
    (case sT2 => first | k_is | rfl)
    (case ne2 => first | k_is | rfl)
    (case ic3 => first | k_is | rfl)
    (case ty3 => first | k_is | rfl)
    (case sT3 => first | k_is | rfl)
    (case ne3 => first | k_is | rfl)
    (case ic4 => first | k_is | rfl)
    (case ty4 => first | k_is | rfl)
    (case sT4 => first | k_is | rfl)
    (case ne4 => first | k_is | rfl)
    (case ic5 => first | k_is | rfl)
    (case ty5 => first | k_is | rfl)
    (case sT5 => first | k_is | rfl)
    (case ne5 => first | k_is | rfl)
    (case g_GREATEST_SIZE => first | k_is | rfl)
    (case g_MOST_SERVERS_logs => first | k_is | rfl)
    (case g_MOST_LETTERS_logs => first | k_is | rfl)
    (case g_MOST_ENTRIES_logs => first | k_is | rfl)
    (case g_LETTERS_logs => first | k_is | rfl)
    (case g_LOSING => first | k_is | rfl)
    (case g_DIGITS => first | k_is | rfl)
    (case g_LETTERS_texts => first | k_is | rfl)
    (case g_MOST_DIGITS => first | k_is | rfl)
    (case g_MOST_LETTERS_texts => first | k_is | rfl)
    (case g_MOST_SERVERS_texts => first | k_is | rfl)
    (case g_MOST_ENTRIES_texts => first | k_is | rfl)
    (case g_MOST_SIZE => first | k_is | rfl)
    (case g_AHEAD => first | k_is | rfl)
    (case b_len => first | k_is | rfl)
    (case b_isinstance => first | k_is | rfl)
    (case b_int => first | k_is | rfl)
    (case b_bool => first | k_is | rfl)
    (case b_str => first | k_is | rfl)
    (case b_list => first | k_is | rfl)
    (case b_tuple => first | k_is | rfl)
    (case b_all => first | k_is | rfl)
    (case b_set => first | k_is | rfl)
    (case b_max => first | k_is | rfl)
    (case b_min => first | k_is | rfl)
    (case b_abs => first | k_is | rfl)
    (case b_range => first | k_is | rfl)
    (case b_repr => first | k_is | rfl)
    (case b_enumerate => first | k_is | rfl)
    (case b_ValueError => first | k_is | rfl)


