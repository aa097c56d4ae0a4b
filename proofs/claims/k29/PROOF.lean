import PyProof.Rows.All
import Wide.All
import OpenK.AllK
import Wide.FinOn
import PySem.Challenge.RW_numberbooks_k29_logs_that_histories_show
import HandS.Base
import HandS.Call
import HandS.List
import HandS.Comp
import HandS.Codes
import HandS.OwnEq
import HandS.Ends
import HandS.Words
import PyProof.NoPylong
import PyProof.Fits
import HandS.ForMost
import HandS.IsInst
import HandS.Property
import HandS.MakeKwOnly
import HandS.WideBits
import HandS.Deep
import HandS.Wide
import PyProof.ReprRoads
import PyProof.ReprReads
import OpenK.KOps
import OpenK.KMeth
import HandS.Strs
import PyProof.InstEq
import PyProof.InstNe
import PyProof.ReprLen
import HandS.ForExc
import HandS.Star
import PyProof.Rows.RuleB_pow
import PyProof.CallFns
import HandS.Dict
import HandS.DictComp
import HandS.Small
import HandS.Style
import HandS.TupLe
open PySem PySem.W PyProof.Rows
set_option Elab.async false
set_option maxRecDepth 100000
set_option maxHeartbeats 0
open_top hd for PySem.Challenge.rw_numberbooks_k29_logs_that_histories_show

set_option Elab.async false
set_option linter.all false
set_option maxRecDepth 100000
/-! B1: rules whose readings compute: ints, tests, names -/
namespace NB
open PySem PySem.Spec PyProof.Rows L2

/-- two whole numbers, under C -/
@[reducible] def mI (C : Int → Int → Prop) (g : Int → Int → V) : R2 := fun x y H Q =>
  match x, y with
  | .int i, .int j => C i j ∧ Q (g i j) H
  | _, _ => False
@[reducible] def mI0 (g : Int → Int → V) : R2 := fun x y H Q =>
  match x, y with
  | .int i, .int j => Q (g i j) H
  | _, _ => False
@[reducible] def mU (g : Int → V) : V → Hp → VK → Prop := fun x H Q =>
  match x with
  | .int i => Q (g i) H
  | _ => False
section
variable {X : Cx}
theorem m_of {f : Value → Value → Sem Value} {C : Int → Int → Prop} {g : Int → Int → V} (h : OpR X f (rI C g)) : OpR X f (mI C g) := by
  intro pins s σ H x y v u Q I rx ry q
  cases x <;> cases y <;> first | exact False.elim q | exact h pins s σ H _ _ v u Q I rx ry ⟨_, _, rfl, rfl, q⟩
theorem m_of0 {f : Value → Value → Sem Value} {g : Int → Int → V} (h : OpR X f (rI0 g)) : OpR X f (mI0 g) := by
  intro pins s σ H x y v u Q I rx ry q
  cases x <;> cases y <;> first | exact False.elim q | exact h pins s σ H _ _ v u Q I rx ry ⟨_, _, rfl, rfl, q⟩
theorem m_ofU {f : Value → Sem Value} {g : Int → V} (h : UnR X f (rU g)) : UnR X f (mU g) := by
  intro pins s σ H x v Q I rx q
  cases x <;> first | exact False.elim q | exact h pins s σ H _ v Q I rx ⟨_, rfl, q⟩
/-- a divisor that is positive and has less than 9000 bits -/
def CDv (_ j : Int) : Prop := 0 < j ∧ j.natAbs.log2 < 9000
theorem o_fdiv : OpR X (binaryOp .FloorDiv) (rI CDv fun i j => .int (i / j)) := opI fun i j _ _ _ _ _ hc q => by
  have h1 : (0 : Int) < j := hc.1
  refine floordiv_int (by omega) ?_ (.inl (PyProof.noPylong_of_log2 hc.2))
  rw [Int.fdiv_eq_ediv_of_nonneg i (by omega)]
  exact q
theorem o_mul : OpR X (binaryOp .Mult) (rI IntMulOk fun i j => .int (i * j)) := opI fun _ _ _ _ _ _ _ hc q => mul_int q hc
theorem m_add : OpR X (binaryOp .Add) (mI0 fun i j => .int (i + j)) := m_of0 op_add
theorem m_sub : OpR X (binaryOp .Sub) (mI0 fun i j => .int (i - j)) := m_of0 op_sub
theorem m_mul : OpR X (binaryOp .Mult) (mI IntMulOk fun i j => .int (i * j)) := m_of o_mul
theorem m_div : OpR X (binaryOp .FloorDiv) (mI CDv fun i j => .int (i / j)) := m_of o_fdiv
theorem m_mod : OpR X (binaryOp .Mod) (mI (fun _ j => 0 < j) fun i j => .int (i % j)) := m_of op_mod
theorem m_pow : OpR X (binaryOp .Pow) (mI CPow fun i j => .int (i ^ j.toNat)) := m_of op_pow
theorem m_lt : OpR X (compareOp .Lt) (mI0 fun i j => .bl (decide (i < j))) := m_of0 op_lt
theorem m_le : OpR X (compareOp .LtE) (mI0 fun i j => .bl (decide (i ≤ j))) := m_of0 op_le
theorem m_gt : OpR X (compareOp .Gt) (mI0 fun i j => .bl (decide (j < i))) := m_of0 op_gt
theorem m_ge : OpR X (compareOp .GtE) (mI0 fun i j => .bl (decide (j ≤ i))) := m_of0 op_ge
theorem m_neg : UnR X (unaryOp .USub) (mU fun i => .int (-i)) := m_ofU un_neg
/-- == and != of numbers, texts, bools -/
@[reducible] def mEqG (f : Bool → Bool) : R2 := fun x y H Q =>
  match x, y with
  | .int i, .int j => Q (.bl (f (decide (i = j)))) H
  | .str i, .str j => Q (.bl (f (decide (i = j)))) H
  | .bl i, .bl j => Q (.bl (f (decide (i = j)))) H
  | _, _ => False
theorem dec_i {i j : Int} : decide (V.int i = V.int j) = decide (i = j) := by
  by_cases h : i = j
  · rw [h, decide_eq_true rfl, decide_eq_true rfl]
  · rw [decide_eq_false h, decide_eq_false (fun e => h (V.int.inj e))]
theorem dec_s {i j : Str} : decide (V.str i = V.str j) = decide (i = j) := by
  by_cases h : i = j
  · rw [h, decide_eq_true rfl, decide_eq_true rfl]
  · rw [decide_eq_false h, decide_eq_false (fun e => h (V.str.inj e))]
theorem dec_b {i j : Bool} : decide (V.bl i = V.bl j) = decide (i = j) := by
  cases i <;> cases j <;> rfl
theorem m_eq : OpR X (compareOp .Eq) (mEqG fun b => b) := by
  intro pins s σ H x y v u Q I rx ry q
  cases x <;> cases y <;> first | exact False.elim q | exact op_eq pins s σ H _ _ v u Q I rx ry ⟨rfl, by first | (rw [dec_i]; exact q) | (rw [dec_s]; exact q) | (rw [dec_b]; exact q)⟩
theorem m_ne : OpR X (compareOp .NotEq) (mEqG fun b => !b) := by
  intro pins s σ H x y v u Q I rx ry q
  cases x <;> cases y <;> first | exact False.elim q | exact op_ne pins s σ H _ _ v u Q I rx ry ⟨rfl, by first | (rw [dec_i]; exact q) | (rw [dec_s]; exact q) | (rw [dec_b]; exact q)⟩
end

/-- a value that is a bool, as a test -/
@[reducible] def kB (Q : Bool → Hp → Prop) : VK := fun x H => match x with
  | .bl c => Q c H
  | _ => False
@[reducible] def mT (t : TE) : TT := fun σ H Q => t σ H (kB Q)
section
variable {X : Cx} {a b c : Expr} {ta tb tc : TE} {pos : Pos}
theorem kB_ok {Q : Bool → Hp → Prop} {x : V} {H : Hp} (h : kB Q x H) : ∃ k, x = .bl k ∧ Q k H := by
  cases x <;> first | exact False.elim h | exact ⟨_, rfl, h⟩
/-- a comparison as a test -/
theorem qt {op : CmpOp} {r : R2} (ho : OpR X (compareOp op) r) (ha : PE X a ta) (hb : PE X b tb) (hm : behindInMarks op b = false) : PT X (.Compare a [op] [b] pos) (mT (tOp r ta tb)) := by
  refine ⟨fun pins s σ H Q I h => ?_⟩
  refine wpAny_isTrue_Compare1 (thn (ha.run pins s σ H _ I h) fun v s1 ⟨x, H1, I1, r1, q1⟩ => thn (hb.run pins s1 σ H1 _ I1 q1) fun u s2 ⟨y, H2, I2, r2, q2⟩ =>
    thn (ho pins s2 σ H2 x y v u _ I2 r1 r2 q2) fun d s3 ⟨z, H3, I3, r3, q3⟩ => ?_) hm
  obtain ⟨k, e, q4⟩ := kB_ok q3
  subst e
  cases r3
  exact wpAny_truthy_bool ⟨H3, I3, q4⟩
/-- an expression that gives a bool, as a test -/
theorem qv {e : Expr} {t : TE} (h : PE X e t) (he : ∀ whole, isTrue e X.env whole = (do let v ← whole; standAt e.pos; holding [v] (truthy v)) := by intro _; rfl) : PT X e (mT t) := by
  refine ⟨fun pins s σ H Q I hw => ?_⟩
  refine isTrue_plain (thn (h.run pins s σ H _ I hw) fun v s1 ⟨x, H1, I1, r1, q1⟩ => ?_) (he _)
  obtain ⟨k, e, q4⟩ := kB_ok q1
  subst e
  cases r1
  exact wpAny_truthy_bool ⟨H1, I1, q4⟩
end

/-- the value in slot i -/
@[reducible] def mV (i : Nat) : TE := fun σ H Q => match σ[i]? with
  | some (some v) => Q v H
  | _ => False
section
variable {X : Cx}
theorem mv (i : Nat) {x : Str} {pos : Pos} (hN : X.N[i]? = some x := by rfl) (hv : Vis X.env.scope x := by first | exact Or.inl rfl | exact Or.inr (Or.inl rfl) | exact Or.inr (Or.inr rfl)) (hd : (x == ("__debug__" : Str)) = false := by decide)
    (hcd : (x == ("__classdict__" : Str)) = false := by decide) : PE X (.Name x pos) (mV i) := by
  refine ⟨fun pins s σ H Q I h => (pe_var (pos := pos) hN hv hd hcd).run pins s σ H Q I ?_⟩
  unfold mV at h
  split at h
  · rename_i v e
    exact ⟨v, e, h⟩
  · exact h.elim
end

/-! ### tests -/
theorem ifD {p A B : Prop} [Decidable p] (h1 : p → A) (h2 : ¬ p → B) : if decide p = true then A else B := by
  by_cases h : p
  · rw [decide_eq_true h, if_pos rfl]; exact h1 h
  · rw [decide_eq_false h, if_neg Bool.false_ne_true]; exact h2 h
theorem ifND {p A B : Prop} [Decidable p] (h1 : ¬ p → A) (h2 : p → B) : if (!decide p) = true then A else B := by
  by_cases h : p
  · rw [decide_eq_true h]; exact (if_neg Bool.false_ne_true).mpr (h2 h)
  · rw [decide_eq_false h]; exact (if_pos rfl).mpr (h1 h)
theorem ifT {b : Bool} {A B : Prop} (hb : b = true) (h : A) : if b = true then A else B := by rw [if_pos hb]; exact h
theorem ifF {b : Bool} {A B : Prop} (hb : b = false) (h : B) : if b = true then A else B := by rw [hb, if_neg Bool.false_ne_true]; exact h

/-! ### heaps -/
/-- all that stood in H, but for what is in M, stands in H' -/
def Frm (M : List Addr) (H H' : Hp) : Prop := ∀ a o, H a = some o → a ∉ M → H' a = some o
theorem Frm.ext {M : List Addr} {H H' : Hp} (e : Ext H H') : Frm M H H' := fun a o h _ => e a o h
theorem Frm.trans {M : List Addr} {H H1 H2 : Hp} (a : Frm M H H1) (b : Frm M H1 H2) : Frm M H H2 := fun c o h n => b c o (a c o h n) n
theorem Frm.refl {M : List Addr} {H : Hp} : Frm M H H := fun _ _ h _ => h
theorem Frm.upd {M : List Addr} {H H1 : Hp} {p : Addr} {o : HO} (a : Frm M H H1) (h : p ∈ M) : Frm M H (L2.upd H1 p o) := fun c u e n => by
  rw [upd_ne (fun z => n (by rw [z]; exact h))]; exact a c u e n
theorem Frm.new {M : List Addr} {H H1 : Hp} {p : Addr} {o : HO} (a : Frm M H H1) (h : H1 p = none) : Frm M H (L2.upd H1 p o) := fun c u e n => by
  have e1 := a c u e n
  rw [upd_ne (ne_of_none e1 h)]; exact e1
theorem Frm.to_ext {H H' : Hp} (f : Frm [] H H') : Ext H H' := fun a o h => f a o h (by simp)
end NB

set_option Elab.async false
set_option linter.all false
set_option maxRecDepth 100000
/-! B2: items, own special methods, repr of data -/
namespace NB
open PySem PySem.Spec PyProof.Rows L2

/-- an item of a list or a tuple -/
@[reducible] def mIx (K : PySem.W.Frag) : R2 := fun x y H Q =>
  match x, y with
  | .ref p, .int i => ∃ xs v, (SqL K H p xs ∨ SqT K H p xs) ∧ atI xs i = some v ∧ Q v H
  | _, _ => False
section
variable {X : Cx}
theorem m_ix : IxR X (mIx X.K) := by
  have both : IxR X (fun x y H Q => rIxL X.K x y H Q ∨ rIxT X.K x y H Q) := ix_list.or ix_tup
  have imp : ∀ x y H Q, mIx X.K x y H Q → rIxL X.K x y H Q ∨ rIxT X.K x y H Q := by
    intro x y H Q q
    cases x <;> cases y <;> first | exact False.elim q | skip
    obtain ⟨xs, z, h | h, ha, q⟩ := q
    · exact .inl ⟨_, _, _, _, rfl, rfl, h, ha, q⟩
    · exact .inr ⟨_, _, _, _, rfl, rfl, h, ha, q⟩
  unfold IxR at both ⊢
  intros
  apply both <;> first | assumption | (apply imp; assumption)

variable {CX : CXT} {k : Nat} {C f : Addr} {fd : FuncData} {ps : List Str} {sp : Sp} {E : XK}
/-- x in o, o an own instance -/
theorem own_in (F : FnOk X.prog X.w X.K X.mg X.base CX k f fd ps sp) (hs : PySem.W.findIn X.K (.ref C) "__contains__" = some (some (.ref f))) (hf : PySem.W.isFn X.K (.ref f) = true) (hb : Binds X.K fd ps []) (hr : Room k X.A) (hx : Passes CX X E) :
    OpR X (compareOp .In) (fun x y H Q => ∃ a dx fs, y = .ref a ∧ H a = some (.ins C dx fs) ∧ sp [.ref a, x] H (kB fun b H' => Q (.bl b) H') E) := by
  intro pins s σ H x y v u Q I rx ry q
  obtain ⟨a, dx, fs, rfl, ha, q⟩ := q
  cases ry
  obtain ⟨mA, O, _⟩ := ins_get I.hok ha
  obtain ⟨od, J, _⟩ := O.look
  obtain ⟨m, hF⟩ := I.fr
  refine PySem.W.in_K hF I.ok.mod.kin J hs hf ?_
  refine thn (run_fn F hr hb .nil hx I (vs := [.ref a, _]) (.cons rfl (.cons rx .nil)) q) fun r s' z => ?_
  obtain ⟨z, H', I', rz, kz⟩ := z
  obtain ⟨b, e, q2⟩ := kB_ok kz
  subst e
  cases rz
  exact wpAny_truthy_bool ⟨.bl b, H', I', rfl, q2⟩
/-- len(o), o an own instance -/
theorem own_len (F : FnOk X.prog X.w X.K X.mg X.base CX k f fd ps sp) (hs : PySem.W.findIn X.K (.ref C) "__len__" = some (some (.ref f))) (hf : PySem.W.isFn X.K (.ref f) = true) (hb : Binds X.K fd ps []) (hr : Room (k + 1) X.A) (hx : Passes CX X E) :
    CallR X (.builtin "len") (fun xs H Q => ∃ a dx fs, xs = [.ref a] ∧ H a = some (.ins C dx fs) ∧ sp [.ref a] H (fun v H' => ∃ n : Nat, v = .int n ∧ n ≤ sizeLine ∧ Q (.int n) H') E) := by
  intro pins s σ H xs us Q I rx q
  obtain ⟨a, dx, fs, rfl, ha, q⟩ := q
  obtain ⟨u, rfl, ru⟩ := vals1 rx
  cases ru
  obtain ⟨mA, O, _⟩ := ins_get I.hok ha
  obtain ⟨od, J, _⟩ := O.look
  obtain ⟨m, hF⟩ := I.fr
  refine PySem.W.len_K hF I.ok.mod.kin J hs hf ?_
  have hl : ([Value.ref a] : List Value).length = ps.length := by rw [← F.len _ _ _ _ q]; rfl
  refine wpAny_call (codeAny_mono (F.run X.A.in1 X.stack s H ⟨[.ref a], []⟩ [.ref a] [.ref a] _ E hr.in1 I.env0.in1 (by have := hb s [.ref a] I.kIn (by simpa using hl); simpa using this) (.cons rfl .nil) q) fun r s' hq => ?_)
  cases r with
  | error er => exact hx pins σ H s er s' I hq
  | ok fl =>
    cases fl with
    | ret w =>
      obtain ⟨v, H', I3, rv, n, ev, hn, q3⟩ := I.after hq
      subst ev
      obtain ⟨t, rfl⟩ := rv
      have l63 := line63
      refine ⟨⟨by omega, by have : (n : Int) ≤ sizeLine := by exact_mod_cast hn
                            omega⟩, .int n, H', I3.tok _, ⟨_, rfl⟩, q3⟩
    | next => exact False.elim hq
    | brk => exact False.elim hq
    | cont => exact False.elim hq
/-- o == p, two own instances of one class (or p of a class that is not below o's) -/
theorem own_eq (hu : X.A.units < cLine) (F : FnOk X.prog X.w X.K X.mg X.base CX k f fd ps sp) (hs : PySem.W.findIn X.K (.ref C) "__eq__" = some (some (.ref f))) (hf : PySem.W.isFn X.K (.ref f) = true) (hb : Binds X.K fd ps []) (hr : Room k X.A) (hx : Passes CX X E) :
    OpR X (compareOp .Eq) (fun x y H Q => ∃ a b dx dy fs gs, x = .ref a ∧ y = .ref b ∧ H a = some (.ins C dx fs) ∧ H b = some (.ins C dy gs) ∧ sp [.ref a, .ref b] H (kB fun b H' => Q (.bl b) H') E) := by
  intro pins s σ H x y v u Q I rx ry q
  obtain ⟨a, b, dx, dy, fs, gs, rfl, rfl, ha, hb', q⟩ := q
  cases rx
  cases ry
  obtain ⟨mA, O, _⟩ := ins_get I.hok ha
  obtain ⟨mB, O', _⟩ := ins_get I.hok hb'
  obtain ⟨od, J, _⟩ := O.look
  obtain ⟨od', J', _⟩ := O'.look
  obtain ⟨m, hF⟩ := I.fr
  show wpAny (model X.prog X.w) X.A (richCompare .Eq _ _) (EP X pins σ Q) X.xe s
  refine PySem.W.cmp_K (op := .Eq) (tb := .ref C) hu hF I.ok.mod.kin J J'.type (by simp [PySem.W.notFirst]) hs hf ?_
  refine thn (run_fn F hr hb .nil hx I (vs := [.ref a, .ref b]) (.cons rfl (.cons rfl .nil)) q) fun r s' z => ?_
  obtain ⟨z, H', I', rz, kz⟩ := z
  obtain ⟨b, e, q2⟩ := kB_ok kz
  subst e
  cases rz
  exact ⟨.bl b, H', I', rfl, q2⟩

/-- repr of data -/
def mRep (K : PySem.W.Frag) : List V → Hp → VK → Prop := fun xs H Q => ∃ v d, xs = [v] ∧ Dp K H v d ∧ isDisplay d = true ∧ d.showable = true ∧ d.hasDict = false ∧ d.depth ≤ 60 ∧ d.shown.length ≤ sizeLine ∧ Q (.str d.shown) H
end
end NB

set_option Elab.async false
set_option linter.all false
set_option maxRecDepth 100000
/-! B3: promises of defs that run where nothing is being shown (repr) -/
namespace NB
open PySem PySem.Spec PyProof.Rows L2

section
variable {P : Program} {w : World} {K : PySem.W.Frag} {mg : Str → Option Value} {base : Heap}
/-- as FnOk, no display under way -/
structure FnG (P : Program) (w : World) (K : PySem.W.Frag) (mg : Str → Option Value) (base : Heap) (k : Nat) (f : Addr) (fd : FuncData) (ps : List Str) (sp : Sp) : Prop where
  len : ∀ vs H Q E, sp vs H Q E → vs.length = ps.length
  run : ∀ (A : Around) (o : List Env) (s : Shared) (H : Hp) (ar : Args) (us : List Value) (vs : List V) (Q : VK) (E : XK), Room k A → A.guards = some [] →
    Env0 P w K mg base A o s H → BindsTo s fd ar (ps.zip us) → Vals vs us → sp vs H Q E → codeAny (model P w) A (.call (.ref f) ar) (CR C8.CX0 o P w H s Q E) s
theorem gd_deeper {A : Around} {env : Env} (h : A.guards = some []) : (A.deeper env).guards = some [] := by
  unfold Around.deeper
  first | exact h | simp [h]
theorem fnG_of {x qual : Str} {st : Stmt} {f : Addr} {fd : FuncData} {N ps : List Str} {k : Nat} {sp : Sp} (F : C8.Fun K x qual st f fd) (S : FnScope N ps (C8.fnScope st)) (len : ∀ vs H Q E, sp vs H Q E → vs.length = ps.length)
    (hb : ∀ (cdv : Value) (A : Around) (o : List Env) (s : Shared) (H : Hp) (vs : List V) (Q : VK) (E : XK), Room k (A.deeper (envOfC qual (C8.fnScope st) s.heap.objs.size f cdv)) → A.guards = some [] → sp vs H Q E →
      ∃ t, PSs (cxOf C8.CX0 P w K mg base N qual (C8.fnScope st) f cdv A o s H E).nox (C8.fnBody st) t ∧ t { nx := fun _ H' => Q .non H', rt := Q } (start N vs) H) : FnG P w K mg base (k + 1) f fd ps sp := by
  obtain ⟨oc, od, dV, kV, doc, pm, an, cdv, ct, osl, rfl, lk, hcd⟩ := F.ex
  refine ⟨len, ?_⟩
  intro A o s H ar us vs Q E hr hgd e0 hbi r hsp
  have KX : K.In s.heap := e0.mod.kin.keeps fun b o e => (e0.bs b o e).1
  obtain ⟨t, ht, hq⟩ := hb cdv A o s H vs Q E (hr.deeper _) hgd hsp
  refine codeAny_call_function hr.depth (KX _ _ lk) rfl S.co S.gen rfl (PySem.W.codeRec_of KX hcd) (hbi _ _ _ _ (wpAny_newFunctionEnv_cells S.kind (fun y hy => ?_) fun env he s1 z => ?_))
  · obtain ⟨n, v⟩ := y
    exact (S.par n (List.of_mem_zip hy).1).elim .inl fun q => .inr ⟨q, PySem.W.cellsFrom_some _ _ _ (.inl q)⟩
  · subst he
    refine ⟨(e0.mod.nolimit.keeps fun b o e => (e0.bs b o e).1).keeps z.toInCall.keep, codeAny_func (wpAny_mono (ht.nox.run [] s1 (start N vs) H _ (inv_start S hr.hd e0 (len _ _ _ _ hsp) r z) hq) (fun fl s2 hs => ?_) fun _ _ q => q)⟩
    cases fl with
    | ret u =>
      obtain ⟨v, σ2, H2, J, rv, q⟩ := hs
      exact ⟨v, H2, J.os, J.bare, J.base, J.hok, rv, q⟩
    | next =>
      obtain ⟨σ2, H2, J, q⟩ := hs
      exact ⟨V.non, H2, J.os, J.bare, J.base, J.hok, rfl, q⟩
    | brk =>
      obtain ⟨_, _, _, q⟩ := hs
      exact q.elim
    | cont =>
      obtain ⟨_, _, _, q⟩ := hs
      exact q.elim
/-- one that may be called by its name -/
structure CalG (P : Program) (w : World) (K : PySem.W.Frag) (mg : Str → Option Value) (base : Heap) (k : Nat) (x : Str) (sp : Sp) : Prop where
  ex : ∃ (f : Addr) (fd : FuncData) (ps : List Str), FnG P w K mg base k f fd ps sp ∧ mg x = some (.ref f) ∧ PySem.W.keepIn K (.ref f) = true ∧ Binds K fd ps []
end
section
variable {X : Cx} {k j : Nat} {x : Str} {sp : Sp} {p pos : Pos} {e : Expr} {es : List Expr} {t : TA}
theorem run_g {f : Addr} {fd : FuncData} {ps : List Str} {pins : List (Addr × Obj)} {σ : L2.St} {H : Hp} {s : Shared} {Q : VK} {us : List Value} {vs : List V} (F : FnG X.prog X.w X.K X.mg X.base k f fd ps sp) (hr : Room k X.A) (hgd : X.A.guards = some [])
    (hb : Binds X.K fd ps []) (I : Inv X pins σ H s) (r : Vals vs us) (h : sp vs H Q C8.E0) : wpAny (model X.prog X.w) X.A (call (.ref f) us) (EP X pins σ Q) X.xe s := by
  have hl : us.length = ps.length := by rw [← r.length]; exact F.len _ _ _ _ h
  have b := hb s us I.kIn (by simpa using hl)
  rw [List.append_nil] at b
  refine wpAny_call (codeAny_mono (F.run X.A X.stack s H ⟨us, []⟩ us vs Q C8.E0 hr hgd I.env0 b r h) fun y s2 z => ?_)
  cases y with
  | error e => exact z.elim
  | ok fl => cases fl <;> first | exact I.after z | exact False.elim z
theorem pe_g (c : CalG X.prog X.w X.K X.mg X.base k x sp) (hr : Room j X.A) (hk : k ≤ j) (hgd : X.A.guards = some []) (hg : Gl X x) (ha : PA X (e :: es) t)
    (hdb : (x == ("__debug__" : Str)) = false := by decide) (he : starEach (e :: es) X.env = (false, eval e X.env) :: starEach es X.env := by rfl) (hpl : (backTo pos (starEach es X.env)).any (·.1) = false := by rfl) :
    PE X (.Call (.Name x p) (e :: es) [] pos) (tCall sp [] C8.E0 t) := by
  obtain ⟨f, fd, ps, F, hm, kp, b⟩ := c.ex
  refine ⟨fun pins s σ H Q I h => wpAny_Call_Name_kw (ld_glob I hg hm (PySem.W.callWith_K (h₀ := X.base) I.ok.mod.kin kp (thn (ha.run pos pins s σ H _ I h) fun us s1 z => ?_) he hpl) hdb)⟩
  obtain ⟨vs, H1, I1, r, q⟩ := z
  rw [List.append_nil] at q
  exact ⟨I1.kIn, run_g F (hr.mono hk) hgd b I1 r q⟩
/-- repr(v), v of data -/
theorem call_rep (hu : X.A.units + 64 < cLine) (hgd : X.A.guards = some []) : CallR X (.builtin "repr") (mRep X.K) := by
  intro pins s σ H xs us Q I rx q
  obtain ⟨v, d, rfl, dp, h1, h2, h3, h4, h5, q⟩ := q
  obtain ⟨u, rfl, ru⟩ := vals1 rx
  obtain ⟨as, r⟩ := Dp.reads I d v u dp ru
  obtain ⟨a, rfl⟩ := isRef_of_reads r h1
  exact repr_of_reads' r h2 (fun z => by rw [h3] at z; cases z) hgd (by omega) (fun _ _ e => e) (fun h' u' tk hk => ⟨.str d.shown, H, I.kept (t' := tk) hk, ⟨_, rfl⟩, q⟩) h5
end
end NB

set_option Elab.async false
set_option linter.all false
set_option maxRecDepth 100000
/-! B4: the end of a law whose def is promised where no display is under way -/
namespace NB
open PySem PySem.Spec PyProof.Rows L2

section
variable {P : Program} {w : World} {K : PySem.W.Frag} {mg mb : Str → Option Value} {k : Nat} {fa a : Addr} {fd : FuncData} {x : Str} {sp : Sp} {s : Shared} {vs : List Value} {ns : List Int}
/-- the call, over an abstract heap H that tracks the script at most -/
theorem law_at {H : Hp} (KX : K.In s.heap) (hns : s.heap.Ns mainGlobals mg) (hb : s.heap.Ns builtinsNs mb) (hbb : ∀ x : Str, x ≠ "__name__" → mb x = bootBuiltins x) (hlim : s.heap.NoLimit) (hg : s.gens = #[])
    (ha : s.heap.get? a = some { cls := .type "list", data := .seq vs.toArray }) (hr : Room k callerA)
    (F : ∀ base : Heap, K.In base → base.Ns mainGlobals mg → FnG P w K mg base k fa fd [x] sp) (hbind : ∀ (s : Shared) (u : Value), BindsTo s fd ⟨[u], []⟩ [(x, u)])
    (hsp : sp [.ref a] H (fun v _ => v = .bl true) C8.E0) (hO : Only H) (hok : HOk P w H s.heap) (hA : ∀ b u, H b = some u → b = a ∧ K.lookup a = none) :
    codeAny (model P w) callerA (.call (.ref fa) ⟨[.ref a], []⟩) (fun r s' => r = .ok (.ret (.bool true)) ∧ OldK s.heap s'.heap ∧ s'.os = s.os ∧ AllBare s'.gens) s := by
  have free : ∀ {b : Addr} {o : Obj} {es : Array DictEntry} {ep : Nat}, s.heap.get? b = some o → o.data = .dict es ep → H b = none := by
    intro b o es ep e d
    cases q : H b with
    | none => rfl
    | some u =>
      obtain ⟨rfl, _⟩ := hA b u q
      have eo : o = _ := Option.some.inj (e.symm.trans ha)
      rw [eo] at d
      cases d
  have nsH : ∀ {b : Addr} {m : Str → Option Value}, s.heap.Ns b m → (hidT s.heap H).Ns b m := by
    rintro b m ⟨o, es, ep, e, d, r⟩
    exact ⟨o, es, ep, hidT_get e (free e d), d, r⟩
  have kin : K.In (hidT s.heap H) := by
    intro b o e
    refine hidT_get (KX b o e) ?_
    cases q : H b with
    | none => rfl
    | some u =>
      obtain ⟨rfl, z⟩ := hA b u q
      rw [z] at e
      cases e
  obtain ⟨mc, l1, l2⟩ := hlim
  have e0 : Env0 P w K mg (hidT s.heap H) callerA [] s H :=
    ⟨rfl, ⟨kin, nsH hns, ⟨mb, nsH hb, hbb⟩, ⟨mc, nsH l1, l2⟩⟩, fun b o e => of_hidT e, Nat.le_of_eq (hidT_size _ _), trivial, fun b z => absurd (show b ∈ ([] : List Addr) from z) (by simp), hok, .of_eq hg⟩
  refine codeAny_mono ((F _ kin (nsH hns)).run callerA [] s H ⟨[.ref a], []⟩ [.ref a] [.ref a] _ _ hr rfl e0 (hbind s (.ref a)) (.cons rfl .nil) hsp) fun r s2 z => ?_
  rcases r with e | fl
  · exact z.elim
  cases fl <;> first | exact False.elim z | skip
  rename_i u
  obtain ⟨v, H2, os, bare, un, hok2, rv, q⟩ := z
  have qv : v = .bl true := q
  subst qv
  obtain rfl : u = Value.bool true := rv
  refine ⟨rfl, OldK.of_keep fun b o e => ?_, os, bare⟩
  rcases hO b with q | ⟨ob, xs, q⟩
  · exact un.keep b o e q (fun z => absurd (show b ∈ ([] : List Addr) from z) (by simp)) (by simp)
  · have h1 := (hok b _ q).1
    have h2 := (hok2 b _ (un.frzs b ob _ q)).1
    rw [Option.some.inj (e.symm.trans h1)]
    exact h2
theorem law_g (KX : K.In s.heap) (hns : s.heap.Ns mainGlobals mg) (hb : s.heap.Ns builtinsNs mb) (hbb : ∀ x : Str, x ≠ "__name__" → mb x = bootBuiltins x) (hlim : s.heap.NoLimit) (hg : s.gens = #[])
    (ha : s.heap.get? a = some { cls := .type "list", data := .seq vs.toArray }) (hi : IntsAre vs ns) (hl : ns.length ≤ sizeLine) (hr : Room k callerA)
    (F : ∀ base : Heap, K.In base → base.Ns mainGlobals mg → FnG P w K mg base k fa fd [x] sp) (hbind : ∀ (s : Shared) (u : Value), BindsTo s fd ⟨[u], []⟩ [(x, u)])
    (hsp : ∀ H : Hp, Only H → SqL K H a (ns.map V.int) → sp [.ref a] H (fun v _ => v = .bl true) C8.E0) :
    codeAny (model P w) callerA (.call (.ref fa) ⟨[.ref a], []⟩) (fun r s' => r = .ok (.ret (.bool true)) ∧ OldK s.heap s'.heap ∧ s'.os = s.os ∧ AllBare s'.gens) s := by
  have rv := vals_ints hi
  cases hk : K.lookup a with
  | some o =>
    have eo : o = _ := Option.some.inj ((KX a o hk).symm.trans ha)
    have hS : SqL K (fun _ => none) a (ns.map V.int) := .inr ⟨o, vs.toArray, _, hk, by rw [eo], by rw [eo], congrArg Obj.data eo, by rw [List.size_toArray, hi.length]; exact hl, rv⟩
    exact law_at KX hns hb hbb hlim hg ha hr F hbind (hsp _ (fun _ => .inl rfl) hS) (fun _ => .inl rfl) (fun b u z => nomatch z) (fun b u z => nomatch z)
  | none =>
    let o0 : Obj := { cls := .type "list", data := .seq vs.toArray }
    have at_ : ∀ b, L2.upd (fun _ => none) a (.frz o0 (.lst (ns.map V.int))) b = none ∨ (b = a ∧ L2.upd (fun _ => none) a (.frz o0 (.lst (ns.map V.int))) b = some (.frz o0 (.lst (ns.map V.int)))) := by
      intro b
      by_cases e : b = a
      · rw [e]; exact .inr ⟨rfl, upd_same⟩
      · exact .inl (upd_ne e)
    have hO : Only (L2.upd (fun _ => none) a (.frz o0 (.lst (ns.map V.int)))) := fun b => (at_ b).elim .inl fun z => .inr ⟨_, _, z.2⟩
    refine law_at KX hns hb hbb hlim hg ha hr F hbind (hsp _ hO (.inl (.inr ⟨o0, upd_same⟩))) hO ?_ ?_
    · intro b u z
      rcases at_ b with q | ⟨rfl, q⟩
      · rw [q] at z; cases z
      · rw [q] at z
        cases z
        exact ⟨ha, by rw [List.length_map]; exact hl, vs, _, rv, ha⟩
    · intro b u z
      rcases at_ b with q | ⟨e, q⟩
      · rw [q] at z; cases z
      · exact ⟨e, hk⟩
end
theorem walk_g {l : PySem.W.OpenLaw} {n k : Nat} {q : Program} {loose : List Str} {XP : (Str → Option Value) → Heap → Prop} {YP : World → Heap → Prop} {d : DefRec} {K : Params → PySem.W.Frag} {sp : PySem.W.Frag → Sp} {x : Str}
    (hn : l.most = some n) (hn2 : n ≤ sizeLine) (hdf : d.params.defaults = []) (hr : Room k callerA) (hY : ∀ (w : World) (h : Heap), YP w h → (K w.params).In h)
    (F : ∀ (w : World) (mg : Str → Option Value) (fa : Addr) (h : Heap), (K w.params).In h → h.Ns mainGlobals mg → mg d.name = some (.ref fa) →
      ∃ fd : FuncData, (∀ (s : Shared) (u : Value), BindsTo s fd ⟨[u], []⟩ [(x, u)]) ∧ ∀ base : Heap, (K w.params).In base → base.Ns mainGlobals mg → FnG l.prog w (K w.params) mg base k fa fd [x] (sp (K w.params)))
    (hsp : ∀ (K : PySem.W.Frag) (H : Hp) (a : Addr) (ns : List Int), ns.length ≤ n → Only H → SqL K H a (ns.map V.int) → sp K [.ref a] H (fun v _ => v = .bl true) C8.E0) :
    PySem.W.WalkO q loose XP YP l.row.toRowW d [] (fun f vs => PySem.call f vs) := by
  refine Att.attach_call hn hdf ?_
  intro w s0 s1 mg mb fa o pm cd doc a vs ns G Y ho hd hcd hmg hobj hints hlen hg
  obtain ⟨fd, hb, hF⟩ := F w mg fa _ (hY w _ Y) G.T.g hmg
  exact law_g (hY w _ Y) G.T.g G.T.b G.T.builtins G.T.nolimit hg hobj hints (Nat.le_trans hlen hn2) hr hF hb fun H hO hS => hsp _ H a ns hlen hO hS
end NB

set_option Elab.async false
set_option linter.all false
set_option maxRecDepth 100000
/-! B5: set(xs) of different texts, its length -/
namespace NB
open PySem PySem.Spec PyProof.Rows L2

theorem str_at : ∀ {us : List Value} {xs : List Str}, Vals (xs.map V.str) us → ∀ (i : Nat) (v : Value), us[i]? = some v → ∃ t, v = .str (xs.getD i Str.empty) t
  | _, [], .nil, i, v, h => by simp at h
  | _, x :: xs, .cons r q, 0, v, h => by
    obtain ⟨t, rfl⟩ := r
    simp at h
    exact ⟨t, h.symm⟩
  | _, x :: xs, .cons r q, i + 1, v, h => by
    simp only [List.getElem?_cons_succ] at h
    obtain ⟨t, e⟩ := str_at q i v h
    exact ⟨t, by rw [e]; rfl⟩
/-- membership in the first i of them -/
def inF (xs : List Str) (i : Nat) : Str → Bool := fun y => decide (y ∈ xs.take i)
theorem inF_succ {xs : List Str} {i : Nat} (h : i < xs.length) (y : Str) : (inF xs i y || decide (y = xs.getD i Str.empty)) = inF xs (i + 1) y := by
  have e : xs.getD i Str.empty = xs[i] := by simp [List.getD, h]
  rw [e]
  unfold inF
  rw [Bool.eq_iff_iff]
  simp only [Bool.or_eq_true, decide_eq_true_eq]
  rw [← List.take_append_getElem h]
  simp only [List.mem_append, List.mem_singleton]
theorem inF_new {xs : List Str} (nd : xs.Nodup) {i : Nat} (h : i < xs.length) : inF xs i (xs.getD i Str.empty) = false := by
  have e : xs.getD i Str.empty = xs[i] := by simp [List.getD, h]
  rw [e]
  refine decide_eq_false fun m => ?_
  obtain ⟨j, hj, e2⟩ := List.mem_iff_getElem.mp m
  rw [List.length_take] at hj
  rw [List.getElem_take] at e2
  have := (List.getElem_inj nd).mp e2
  omega
section
variable {prog : Program} {w : World} {A : Around} {R : Result → Shared → Prop} {I : Addr} {fp wr : List Addr} {G : Array GenState → Array GenState → Prop} {n : Nat} {Pv : Nat → Value → Prop} {St' : Nat → Shared → Prop}
theorem upd_strs (W : WalksS prog w A.in1 I fp wr G n Pv St') (S : Addr) (hSf : S ∉ fp) (xs : List Str) (hsz : xs.length = n) (nd : xs.Nodup) (hn : n + 1 < scanBound) (hval : ∀ i v, Pv i v → ∃ t, v = .str (xs.getD i Str.empty) t) :
    ∀ (k i : Nat) (s : Shared), n - i = k → i ≤ n → St' i s → s.heap.SetOf (PySem.strKind prog w) S (inF xs i) i →
      (∀ s', Moved (S :: wr) G s s' → s'.heap.SetOf (PySem.strKind prog w) S (inF xs n) n → R (.ok (.ret .none)) s') →
      codeAny (model prog w) A (.builtin "set.update.loop" ⟨[.ref S, .ref I], []⟩) R s := by
  have away : S ∉ wr := fun h => hSf (W.sub _ h)
  have more : ∀ b ∈ wr, b ∈ S :: wr := fun b hb => List.mem_cons_of_mem _ hb
  have carry : ∀ {s s' : Shared} {f : Str → Bool} {m : Nat}, Moved wr G s s' → s.heap.SetOf (PySem.strKind prog w) S f m → s'.heap.SetOf (PySem.strKind prog w) S f m := by
    rintro s s' f m mv ⟨o, es, ep, tb, ho, rest⟩
    exact ⟨o, es, ep, tb, mv.heap S _ away ho, rest⟩
  intro k
  induction k with
  | zero =>
    intro i s hk hi hst hS hR
    obtain rfl : i = n := by omega
    refine codeAny_builtin PyProof.Rows.F.entry_set_update_loop ?_
    rw [Around.under_plainId PyProof.Rows.F.plain_set_update_loop _]
    show wpAny _ A.in1 (pyNext (.ref I) >>= _) _ _ s
    exact wpAny_bind (W.done s _ _ hst fun s' mv => wpAny_pure (hR s' (mv.mono more) (carry mv hS)))
  | succ k ih =>
    intro i s hk hi hst hS hR
    have hlt : i < n := by omega
    have hlx : i < xs.length := by omega
    refine codeAny_builtin PyProof.Rows.F.entry_set_update_loop ?_
    rw [Around.under_plainId PyProof.Rows.F.plain_set_update_loop _]
    show wpAny _ A.in1 (pyNext (.ref I) >>= _) _ _ s
    refine wpAny_bind (W.item i s _ _ hlt hst fun v s' hP hst' mv => ?_)
    obtain ⟨t, rfl⟩ := hval i v hP
    show wpAny _ A.in1 (holding _ (setAdd S (.str (xs.getD i Str.empty) t)) >>= _) _ _ s'
    refine wpAny_bind (wpAny_holding ?_)
    unfold setAdd
    refine wpAny_holding (wpAny_bind ((PySem.strKind prog w).pyHash (k := xs.getD i Str.empty) (strKind_is _ _ _ _) ?_))
    refine wpAny_setAddHashed_of (knd := PySem.strKind prog w) (s := { s' with toks := s'.toks + 1 }) (strKind_is _ _ _ _) rfl (show s'.heap.SetOf _ _ _ _ from carry mv hS) (by omega) fun h' hsb hS2 => ?_
    rw [inF_new nd hlx] at hS2
    have hS3 : h'.SetOf (PySem.strKind prog w) S (inF xs (i + 1)) (i + 1) := SetOf_congr hS2 (fun y => inF_succ hlx y) (by simp)
    have off : ∀ {b : Addr}, b ∈ fp → b ≠ S := fun {b} hb e => hSf (by rw [← e]; exact hb)
    refine wpAny_pure ⟨plainId_quiet PyProof.Rows.F.plain_set_update_loop _, ih (i + 1) _ (by omega) hlt (W.frame _ s' _ _ hst' (Nat.le_succ _) fun b hb o e => ?_) hS3 fun s2 mv2 hS4 => ?_⟩
    · exact (hsb.2 b (off hb)).trans e
    · refine hR s2 (Moved.trans W.gtrans ((mv.mono more).then_heap (Nat.le_succ _) fun b o hb e => ?_) mv2) hS4
      exact (hsb.2 b fun z => hb (by rw [z]; exact List.mem_cons_self)).trans e
end
section
variable {prog : Program} {w : World} {A : Around} {E : Value → Shared → Prop} {s : Shared}
/-- a new empty set -/
abbrev set0 (led : Bool) : Obj := { cls := .type "set", dict := none, data := .set #[] 0 (.fresh 0 0 led) }
set_option maxHeartbeats 3200000 in
theorem call_set_strs {l : Addr} {items : Array Value} {xs : List Str} {Q : Value → Shared → Prop} (hh : A.handled = none) (hl : s.heap.IsList l items) (hi : Vals (xs.map V.str) items.toList) (nd : xs.Nodup) (hn : xs.length + 1 < scanBound)
    (h : ∀ (h' : Heap) (tk : Nat), h'.SetOf (PySem.strKind prog w) s.heap.objs.size (inF xs xs.length) xs.length →
      (∀ b o, b < s.heap.objs.size → s.heap.get? b = some o → h'.get? b = some o) → Q (.ref s.heap.objs.size) { s with heap := h', toks := tk }) :
    wpAny (model prog w) A (call (.type "set") [.ref l]) Q E s := by
  have hsz : xs.length = items.size := by have := hi.length; simpa using this
  obtain ⟨c, tl, e_mro⟩ := PySem.F.called_set.mro
  have e_made := PySem.F.called_set.made
  have e_sub := PySem.F.called_set.sub
  have e_type := PySem.F.called_set.notType
  have e_can := PySem.F.called_set.canCreate
  have e_check := PySem.F.typeCall_set_1 (.ref l)
  refine wpAny_call (codeAny_of_tree (show wpAny _ _ (callAny (.type "set") _) _ _ _ from wpAny_pure ⟨Code.quiet_builtin _ (by decide +kernel), codeAny_builtin PySem.F.entry_type_call ?_⟩))
  rw [Around.under_plain (weight_type_call_type "set" [.ref l] []) rfl]
  repeat (any_goals (first | assumption | wp_step))
  refine codeAny_mono (code_set_new_1 (.ref l) (E := E) (Q₁ := fun u z => ∃ led : Bool, u = .ref s.heap.objs.size ∧ z = { s with heap := s.heap.push (set0 led) }) fun led => ⟨led, rfl, rfl⟩) fun r s1 hr => ?_
  rcases r with e | fl
  · exact hr
  cases fl <;> first | exact hr.elim | skip
  obtain ⟨led, rfl, rfl⟩ := hr
  have hS : (s.heap.push (set0 led)).get? s.heap.objs.size = some (set0 led) := Heap.get?_push_size _ rfl
  have hT : Shared.TypeIs { s with heap := s.heap.push (set0 led) } (.ref s.heap.objs.size) "set" := ⟨_, hS, rfl⟩
  have e_init := PySem.F.called_set.init.lookup
  have e_bind := PySem.F.called_set.init.bind (.ref s.heap.objs.size)
  repeat (any_goals (first | assumption | wp_step))
  refine codeAny_mono (codeAny_call_builtin (R := wants (fun u z => u = .none ∧ ∃ h' tk, z = { s with heap := h', toks := tk } ∧ h'.SetOf (PySem.strKind prog w) s.heap.objs.size (inF xs xs.length) xs.length ∧
      (∀ b o, b < s.heap.objs.size → s.heap.get? b = some o → h'.get? b = some o)) E) PySem.F.called_set.init.plain PySem.F.entry_set_init (check_set_init_1 hT ?_)) fun r2 s2 hr2 => ?_
  · obtain ⟨⟨ocls, odict, odata, oslots⟩, hol, hcl, nl, hdl⟩ := hl
    simp only at hcl hdl
    subst hcl; subst hdl
    have hol2 : (s.heap.push (set0 led)).get? l = some { cls := .type "list", dict := odict, data := .seq items nl, slots := oslots } := Heap.get?_push_of_some _ hol
    have f1 := PySem.F.sub_list_set
    have f2 := PySem.F.sub_list_frozenset
    have f3 : (Value.type "list" == Value.type "dict") = false := by decide
    have hl1 : (s.heap.push (set0 led)).IsList l items := ⟨_, hol2, rfl, nl, rfl⟩
    unfold Builtin.«set.__init__» noKeywords Builtin.Frozenset.updateFrom
    generalize hPI : pyIter = PI
    wp_walk
    subst hPI
    refine wpAny_pyIter_list hl1 (wpAny_bind (wpAny_runValue ?_))
    have hlS : l < s.heap.objs.size := Heap.lt_size hol
    have size1 : (s.heap.push (set0 led)).objs.size = s.heap.objs.size + 1 := Heap.size_push _ _
    refine upd_strs ((Walks.list (by simp [hh]) _ l (by rw [size1]; exact Nat.ne_of_lt (Nat.lt_succ_of_lt hlS)) items).toS) s.heap.objs.size ?hSf xs hsz nd (by rw [← hsz]; exact hn)
      (fun i v hv => str_at hi i v (by rw [Array.getElem?_toList]; exact hv)) (items.size - 0) 0 _ (by omega) (Nat.zero_le _) ⟨⟨_, Heap.get?_push_size _ rfl, rfl, rfl⟩, (hl1.push _)⟩ ?hS0 ?hR
    case hSf =>
      rw [size1]
      intro z
      rcases List.mem_cons.mp z with z | z
      · exact Nat.ne_of_lt (Nat.lt_succ_self _) z
      · exact Nat.ne_of_gt hlS (List.mem_singleton.mp z)
    case hS0 =>
      have z : ((s.heap.push (set0 led)).push { cls := .type "list_iterator", data := .fields #[.ref l, .int 0 0] }).get? s.heap.objs.size = some (set0 led) := Heap.get?_push_of_some _ hS
      exact PyProof.Rows.SetOf_congr ((PyProof.Rows.setObjOf_fresh (knd := PySem.strKind prog w) led).setOf z (by unfold scanBound; omega)) (fun y => by simp [inF]) rfl
    case hR =>
      intro z mv hz
      obtain ⟨h', g', d', tk', os'⟩ := z
      obtain rfl : g' = s.gens := mv.gens
      obtain rfl : d' = s.drawn := mv.drawn
      obtain rfl : os' = s.os := mv.os
      show wpAny _ _ _ _ _ _
      refine wpAny_pure ?_
      show wpAny _ _ (ret Value.none) _ _ _
      rw [← hsz] at hz
      refine wpAny_pure ⟨rfl, h', tk', rfl, hz, fun b o hb e => mv.heap b o ?_ (Heap.get?_push_of_some _ (Heap.get?_push_of_some _ e))⟩
      rw [size1]
      intro q
      rcases List.mem_cons.mp q with q | q
      · exact Nat.ne_of_lt hb q
      · exact Nat.ne_of_lt (Nat.lt_succ_of_lt hb) (List.mem_singleton.mp q)
  · rcases r2 with e | fl2
    · exact hr2
    cases fl2 <;> first | exact hr2.elim | skip
    obtain ⟨rfl, h', tk, rfl, hz, keep⟩ := hr2
    repeat (any_goals (first | assumption | wp_step))
    exact h _ _ hz keep
end
/-- len(set(xs)), xs a list of different texts -/
def mLenSet (K : PySem.W.Frag) (ta : TE) : TE := fun σ H Q => ta σ H fun x H1 => ∃ (l : Addr) (xs : List Str), x = V.ref l ∧ SqL K H1 l (xs.map V.str) ∧ xs.length ≤ 1000 ∧ xs.Nodup ∧ Q (.int xs.length) H1
section
variable {X : Cx}
theorem pe_lenSetS {a : Expr} {ta : TE} {p p2 q pos : Pos} (hc : X.calm = true) (hg : Gl X "len") (hm : X.mg "len" = none) (hg2 : Gl X "set") (hm2 : X.mg "set" = none) (ha : PE X a ta)
    (na : starEach [a] X.env = (false, eval a X.env) :: starEach [] X.env := by rfl) : PE X (.Call (.Name "len" p) [.Call (.Name "set" p2) [a] [] q] [] pos) (mLenSet X.K ta) := by
  refine ⟨fun pins s σ H Q I h => Call_ (ld_blt I hg hm PySem.boot_len (PyProof.Rows.callWith_builtin1 (PyProof.Rows.args_cons ?_ rfl) rfl rfl))⟩
  refine Call_ (ld_blt I hg2 hm2 PyProof.Rows.boot_set (PyProof.Rows.callWith_type1 (PyProof.Rows.args_cons (thn (ha.run pins s σ H _ I h) fun v s1 z => PyProof.Rows.args_nil ?_) na) na rfl))
  obtain ⟨x, H1, I1, r1, l, xs, rfl, hq, h1, nd, q1⟩ := z
  cases r1
  obtain ⟨its, r, pl, _⟩ := I1.list hq
  refine call_set_strs (xs := xs) (I1.ok.hd hc) pl.isList (by simpa using r) nd (by unfold scanBound; omega) fun h' tk hS hk => PyProof.Rows.args_nil ?_
  obtain ⟨o, es, ep, t, ho, hex, hd, _, _, _, hf, hn⟩ := hS
  have I2 : Inv X pins σ H1 { s1 with heap := h', toks := tk } := I1.kept fun b o e => hk b o (Heap.lt_size e) e
  exact call_len_set ho hex hd hf (by rw [hn]; omega) ⟨.int xs.length, H1, I2.tok _, ⟨_, by rw [hn]⟩, q1⟩
end
end NB

set_option Elab.async false
set_option linter.all false
set_option maxRecDepth 100000
/-! B6: == and != of own instances with anything; the class on the right first where it is below -/
namespace NB
open PySem PySem.Spec PyProof.Rows PySem.Calls Builtin

section
open PySem.W
variable {prog : Program} {w : World} {A : Around} {E : Value → Shared → Prop} {s : Shared} {K : PySem.W.Frag} {x C f : Addr} {ox : Obj} {od : Option Obj} {a b ta tb : Value}
/-- x.__ne__(b) where only __eq__ is the class's own -/
theorem try_ne {Q : Value → Shared → Prop} (hu : A.units + 1 < cLine) (X : K.In s.heap) (I : InstAt s.heap x ox C od) (hn : findIn K (.ref C) "__ne__" = some (some (.builtin "object.__ne__"))) (hm : mroIn K C (.type "object") = some true)
    (hs : findIn K (.ref C) "__eq__" = some (some (.ref f))) (hf : isFn K (.ref f) = true)
    (h : wpAny (model prog w) A.in1 (call (.ref f) [.ref x, b]) (fun v s' => ∃ c, v = .bool c ∧ Q (.bool (!c)) s') E s) :
    wpAny (model prog w) A (tryCompare (.ref x) "__ne__" b) (fun r s' => ∃ v, r = some v ∧ Q v s') E s := by
  have body : wpAny (model prog w) A.in1 (Builtin.«object.__ne__» ⟨[.ref x, b], []⟩) (fun fin s' => ∃ c : Bool, fin = .done (.ret (.bool c)) ∧ Q (.bool c) s') E s := by
    unfold Builtin.«object.__ne__»
    repeat (first
      | with_reducible refine wpAny_cRoomFor hu ?_
      | (refine wpAny_bind (m := callSpecialIfBound? (.ref x) (Str.ofString "__eq__") [b]) (ifBound_K X I hs hf (wpAny_mono h (fun r s' hr => by
            obtain ⟨c, rfl, hq⟩ := hr
            repeat (first | exact ⟨_, rfl, hq⟩ | exact wpAny_pure ⟨_, rfl, hq⟩ | exact wpAny_truthy_bool ⟨_, rfl, hq⟩ | (refine wpAny_bind (m := truthy (.bool _)) (wpAny_truthy_bool ?_)) | wp_step)) fun _ _ e => e)))
      | wp_step)
  have L0 := I.type (M := model prog w)
  have L1 := looks_mroIn (M := model prog w) X hm
  have chk : ∀ {R : Unit → Shared → Prop} {E' : Value → Shared → Prop}, R () s → wpAny (model prog w) A.in1 (checkBuiltinCall "object.__ne__" ⟨.ref x :: [b], []⟩) R E' s := by
    intro R E' hq
    simp only [checkBuiltinCall, F.cmpKind_ne, F.cmpSplit_ne]
    refine wpAny_bind ?_
    unfold isInstance
    refine wpAny_bind (L0.here ?_)
    refine L1.here ?_
    cases hsig : Manifest.signature? "object.__ne__" with
    | none => exact wpAny_pure hq
    | some sig =>
      have ha := F.cmpArgs_ne (.ref x) b
      simp only [argsOk, hsig] at ha
      have h2 : Bind.checkArgs "object.__ne__" sig ⟨.ref x :: [b], []⟩ = pure () := ha
      show wpAny _ _ (Bind.checkArgs "object.__ne__" sig ⟨.ref x :: [b], []⟩) R E' _
      rw [h2]; exact wpAny_pure hq
  have fin : wpAny (model prog w) A (call (.builtin "object.__ne__") ([.ref x] ++ [b]) >>= fun v => pure (some v)) (fun r s' => ∃ v, r = some v ∧ (∃ c, v = .bool c) ∧ Q v s') E s := by
    refine wpAny_bind (wpAny_call (codeAny_call_builtin F.cmp_object.ne.plain F.cmpEntry_ne (chk (wpAny_mono body (fun fin s' z => ?_) fun _ _ e => e))))
    obtain ⟨c, rfl, q⟩ := z
    first | exact wpAny_pure ⟨_, rfl, ⟨c, rfl⟩, q⟩ | exact ⟨_, rfl, ⟨c, rfl⟩, q⟩
  unfold tryCompare
  refine wpAny_bind ?_
  simp only [callSpecialIfBound?, bindSpecialIfBound?]
  refine wpAny_holding (wpAny_bind (wpAny_bind (wpAny_bind (I.type.here ((looks_findIn X hn).here ?_)))))
  simp only [F.cmp_object.ne.bind]
  refine wpAny_bind (wpAny_askSetting (wpAny_ite ?_))
  have fin2 := wpAny_mono fin (Q' := fun r s' => wpAny (model prog w) A (match r with | some .notImplemented | none => pure none | some v => pure (some v)) (fun r s' => ∃ v, r = some v ∧ Q v s') E s') (fun r s' z => by
    obtain ⟨v, rfl, ⟨c, rfl⟩, q⟩ := z
    exact wpAny_pure ⟨_, rfl, q⟩) fun _ _ e => e
  split
  · exact wpAny_bind (wpAny_pure (wpAny_pure fin2))
  · exact wpAny_tryCatch (wpAny_bind (wpAny_pure (wpAny_pure fin2)))
/-- x.__eq__(b), own -/
theorem try_eq {Q : Value → Shared → Prop} (X : K.In s.heap) (I : InstAt s.heap x ox C od) (hs : findIn K (.ref C) "__eq__" = some (some (.ref f))) (hf : isFn K (.ref f) = true)
    (h : wpAny (model prog w) A (call (.ref f) [.ref x, b]) (PySem.W.CmpBack Q) E s) : wpAny (model prog w) A (tryCompare (.ref x) "__eq__" b) (fun r s' => ∃ v, r = some v ∧ Q v s') E s := by
  unfold tryCompare
  refine wpAny_bind (ifBound_K X I hs hf (wpAny_mono h (fun v s' hv => ?_) fun _ _ e => e))
  cases v <;> first | exact hv.elim | exact wpAny_pure ⟨_, rfl, hv⟩
/-- the left one answers -/
theorem rc_left {op : CmpOp} {Q : Value → Shared → Prop} (hu : A.units < cLine) (X : K.In s.heap) (ha : Looks (model prog w) s.heap (typeOf (.ref x)) (.ref C)) (hb : Looks (model prog w) s.heap (typeOf b) tb) (hn : notFirst K C tb = true)
    (h : wpAny (model prog w) A (tryCompare (.ref x) (cmpInfo op).2.1 b) (fun r s' => ∃ v, r = some v ∧ Q v s') E s) : wpAny (model prog w) A (richCompare op (.ref x) b) Q E s := by
  unfold richCompare
  simp only [oneThing_ref]
  refine wpAny_holding (wpAny_bind (wpAny_cRoomFor hu ?_))
  refine wpAny_bind (ha.here (wpAny_bind (hb.here ?_)))
  by_cases q : (Value.ref C != tb) = true
  · rw [if_pos q]
    have e : subIn K tb (.ref C) = some false := by
      rcases Bool.or_eq_true_iff.mp hn with e | e
      · rw [beq_iff_eq.mp e] at q; simp at q
      · exact beq_iff_eq.mp e
    refine wpAny_bind ((looks_subIn X e).here ?_)
    simp only [Bool.false_eq_true, if_false]
    refine wpAny_bind (wpAny_mono h (fun r s' z => ?_) fun _ _ e => e)
    obtain ⟨v, rfl, hq⟩ := z
    exact wpAny_pure hq
  · rw [if_neg q]
    refine wpAny_bind (wpAny_pure ?_)
    simp only [Bool.false_eq_true, if_false]
    refine wpAny_bind (wpAny_mono h (fun r s' z => ?_) fun _ _ e => e)
    obtain ⟨v, rfl, hq⟩ := z
    exact wpAny_pure hq
/-- the right one's class is below the left one's: it answers -/
theorem rc_right {op : CmpOp} {Q : Value → Shared → Prop} (hu : A.units < cLine) (X : K.In s.heap) (ha : Looks (model prog w) s.heap (typeOf (.ref x)) ta) (hb : Looks (model prog w) s.heap (typeOf b) tb) (hne : (ta != tb) = true) (hsub : subIn K tb ta = some true)
    (h : wpAny (model prog w) A (tryCompare b (cmpInfo op).2.2 (.ref x)) (fun r s' => ∃ v, r = some v ∧ Q v s') E s) : wpAny (model prog w) A (richCompare op (.ref x) b) Q E s := by
  unfold richCompare
  simp only [oneThing_ref]
  refine wpAny_holding (wpAny_bind (wpAny_cRoomFor hu ?_))
  refine wpAny_bind (ha.here (wpAny_bind (hb.here ?_)))
  rw [if_pos hne]
  refine wpAny_bind ((looks_subIn X hsub).here ?_)
  simp only [if_true]
  refine wpAny_bind (wpAny_mono h (fun r s' z => ?_) fun _ _ e => e)
  obtain ⟨v, rfl, hq⟩ := z
  repeat (first | exact hq | exact wpAny_pure hq | wp_step)
end
section
open L2
/-- a class with an own == and the usual != -/
structure EqF (P : Program) (w : World) (K : PySem.W.Frag) (mg : Str → Option Value) (base : Heap) (k : Nat) (C : Addr) (sp : Sp) : Prop where
  ex : ∃ (f : Addr) (fd : FuncData) (ps : List Str), FnOk P w K mg base C8.CX0 k f fd ps sp ∧ PySem.W.findIn K (.ref C) "__eq__" = some (some (.ref f)) ∧ PySem.W.isFn K (.ref f) = true ∧ Binds K fd ps []
  ne : PySem.W.findIn K (.ref C) "__ne__" = some (some (.builtin "object.__ne__"))
  mo : PySem.W.mroIn K C (.type "object") = some true
/-- own == (g the identity) and != (g not) -/
@[reducible] def mOwn (P : Program) (w : World) (K : PySem.W.Frag) (mg : Str → Option Value) (base : Heap) (k : Nat) (g : Bool → Bool) : R2 := fun x y H Q => ∃ (a C dx : Addr) (fs : List (Str × V)) (sp : Sp), x = .ref a ∧ H a = some (.ins C dx fs) ∧ EqF P w K mg base k C sp ∧
  ((∃ t, TyX K H y t ∧ PySem.W.notFirst K C t = true ∧ sp [.ref a, y] H (kB fun c H' => Q (.bl (g c)) H') C8.E0) ∨
    ∃ (b D dy : Addr) (gs : List (Str × V)) (sp2 : Sp), y = .ref b ∧ H b = some (.ins D dy gs) ∧ EqF P w K mg base k D sp2 ∧ PySem.W.subIn K (.ref D) (.ref C) = some true ∧ C ≠ D ∧ sp2 [.ref b, .ref a] H (kB fun c H' => Q (.bl (g c)) H') C8.E0)
variable {X : Cx} {k : Nat}
theorem own_eqG (hu : X.A.units < cLine) (hr : Room k X.A) : OpR X (compareOp .Eq) (mOwn X.prog X.w X.K X.mg X.base k fun c => c) := by
  intro pins s σ H x y v u Q I rx ry q
  obtain ⟨a, C, dx, fs, sp, rfl, ha, ⟨⟨f, fd, ps, F, hs, hf, hb⟩, hne, hmo⟩, q⟩ := q
  cases rx
  obtain ⟨mA, O, _⟩ := ins_get I.hok ha
  obtain ⟨od, J, _⟩ := O.look
  show wpAny (model X.prog X.w) X.A (richCompare .Eq _ _) (EP X pins σ Q) X.xe s
  rcases q with ⟨t, ty, hn, q⟩ | ⟨b, D, dy, gs, sp2, rfl, hb2, ⟨⟨f2, fd2, ps2, F2, hs2, hf2, hbb2⟩, hne2, hmo2⟩, hsub, hCD, q⟩
  · obtain ⟨P, Z, hp, _⟩ := kit_of I ry ty
    refine rc_left hu I.kIn J.type (Z.ty _ _ I.kIn hp) hn (try_eq I.kIn J hs hf ?_)
    refine thn (run_fn F hr hb .nil C8.pass0 I (vs := [.ref a, y]) (.cons rfl (.cons ry .nil)) q) fun r s' z => ?_
    obtain ⟨z, H', I', rz, kz⟩ := z
    obtain ⟨c, e, q2⟩ := kB_ok kz
    subst e
    cases rz
    exact ⟨.bl c, H', I', rfl, q2⟩
  · cases ry
    obtain ⟨mB, O2, _⟩ := ins_get I.hok hb2
    obtain ⟨od2, J2, _⟩ := O2.look
    refine rc_right hu I.kIn J.type J2.type (by simp [hCD]) hsub (try_eq I.kIn J2 hs2 hf2 ?_)
    refine thn (run_fn F2 hr hbb2 .nil C8.pass0 I (vs := [.ref b, .ref a]) (.cons rfl (.cons rfl .nil)) q) fun r s' z => ?_
    obtain ⟨z, H', I', rz, kz⟩ := z
    obtain ⟨c, e, q2⟩ := kB_ok kz
    subst e
    cases rz
    exact ⟨.bl c, H', I', rfl, q2⟩
theorem run_in1 {f : Addr} {fd : FuncData} {ps : List Str} {sp : Sp} {pins : List (Addr × Obj)} {σ : L2.St} {H : Hp} {s : Shared} {Q : VK} {us : List Value} {vs : List V} (F : FnOk X.prog X.w X.K X.mg X.base C8.CX0 k f fd ps sp) (hr : Room (k + 1) X.A) (hb : Binds X.K fd ps [])
    (I : Inv X pins σ H s) (r : Vals vs us) (h : sp vs H Q C8.E0) : wpAny (model X.prog X.w) X.A.in1 (call (.ref f) us) (EP X pins σ Q) X.xe s := by
  have hl : us.length = ps.length := by rw [← r.length]; exact F.len _ _ _ _ h
  have b := hb s us I.kIn (by simpa using hl)
  rw [List.append_nil] at b
  refine wpAny_call (codeAny_mono (F.run X.A.in1 X.stack s H ⟨us, []⟩ us vs Q C8.E0 hr.in1 I.env0.in1 b r h) fun y s2 z => ?_)
  cases y with
  | error e => exact z.elim
  | ok fl => cases fl <;> first | exact I.after z | exact False.elim z
theorem own_neG (hu : X.A.units + 1 < cLine) (hr : Room (k + 1) X.A) : OpR X (compareOp .NotEq) (mOwn X.prog X.w X.K X.mg X.base k fun c => !c) := by
  intro pins s σ H x y v u Q I rx ry q
  obtain ⟨a, C, dx, fs, sp, rfl, ha, ⟨⟨f, fd, ps, F, hs, hf, hb⟩, hne, hmo⟩, q⟩ := q
  cases rx
  obtain ⟨mA, O, _⟩ := ins_get I.hok ha
  obtain ⟨od, J, _⟩ := O.look
  show wpAny (model X.prog X.w) X.A (richCompare .NotEq _ _) (EP X pins σ Q) X.xe s
  rcases q with ⟨t, ty, hn, q⟩ | ⟨b, D, dy, gs, sp2, rfl, hb2, ⟨⟨f2, fd2, ps2, F2, hs2, hf2, hbb2⟩, hne2, hmo2⟩, hsub, hCD, q⟩
  · obtain ⟨P, Z, hp, _⟩ := kit_of I ry ty
    refine rc_left (by omega) I.kIn J.type (Z.ty _ _ I.kIn hp) hn (try_ne hu I.kIn J hne hmo hs hf ?_)
    refine thn (run_in1 F hr hb I (vs := [.ref a, y]) (.cons rfl (.cons ry .nil)) q) fun r s' z => ?_
    obtain ⟨z, H', I', rz, kz⟩ := z
    obtain ⟨c, e, q2⟩ := kB_ok kz
    subst e
    cases rz
    exact ⟨c, rfl, .bl (!c), H', I', rfl, q2⟩
  · cases ry
    obtain ⟨mB, O2, _⟩ := ins_get I.hok hb2
    obtain ⟨od2, J2, _⟩ := O2.look
    refine rc_right (by omega) I.kIn J.type J2.type (by simp [hCD]) hsub (try_ne hu I.kIn J2 hne2 hmo2 hs2 hf2 ?_)
    refine thn (run_in1 F2 hr hbb2 I (vs := [.ref b, .ref a]) (.cons rfl (.cons rfl .nil)) q) fun r s' z => ?_
    obtain ⟨z, H', I', rz, kz⟩ := z
    obtain ⟨c, e, q2⟩ := kB_ok kz
    subst e
    cases rz
    exact ⟨c, rfl, .bl (!c), H', I', rfl, q2⟩
theorem own_eqP {P : Program} {w : World} {K : PySem.W.Frag} {mg : Str → Option Value} {base : Heap} (hP : X.prog = P) (hw : X.w = w) (hK : X.K = K) (hm : X.mg = mg) (hb : X.base = base) (hu : X.A.units < cLine) (hr : Room k X.A) :
    OpR X (compareOp .Eq) (mOwn P w K mg base k fun c => c) := by
  subst hP hw hK hm hb
  exact own_eqG hu hr
theorem own_neP {P : Program} {w : World} {K : PySem.W.Frag} {mg : Str → Option Value} {base : Heap} (hP : X.prog = P) (hw : X.w = w) (hK : X.K = K) (hm : X.mg = mg) (hb : X.base = base) (hu : X.A.units + 1 < cLine) (hr : Room (k + 1) X.A) :
    OpR X (compareOp .NotEq) (mOwn P w K mg base k fun c => !c) := by
  subst hP hw hK hm hb
  exact own_neG hu hr
end
end NB

set_option Elab.async false
set_option linter.all false
set_option maxRecDepth 100000
/-! D1: the data of logs, what the top must have, promises -/
namespace NB
open PySem PySem.Spec L2
open PyProof.Rows (envOfC)

/-! ### data -/
/-- a name: one to eight small letters -/
def nameB (z : Str) : Bool := decide (1 ≤ z.length) && decide (z.length ≤ 8) && z.cps.toList.all fun c => decide (97 ≤ c) && decide (c ≤ 122)
structure CrewOk (ns : List Str) : Prop where
  one : 1 ≤ ns.length
  few : ns.length ≤ 12
  nam : ∀ z ∈ ns, nameB z = true
  nd : ns.Nodup
structure EntsOk (ns : List Str) (es : List (Str × Int)) : Prop where
  few : es.length ≤ 200
  ok : ∀ e ∈ es, e.1 ∈ ns ∧ 0 ≤ e.2
def SizeOk (sz : Int) : Prop := 1 ≤ sz ∧ sz ≤ 10 ^ 30
/-- v is the tuple of e -/
def EntAt (H : Hp) (e : Str × Int) (v : V) : Prop := ∃ p, v = .ref p ∧ H p = some (.tup [.str e.1, .int e.2])
abbrev EntL (H : Hp) : List (Str × Int) → List V → Prop := Paired (EntAt H)
theorem EntAt.mono {H H' : Hp} {e : Str × Int} {v : V} (h : EntAt H e v) (x : Ext H H') : EntAt H' e v := by
  obtain ⟨p, rfl, q⟩ := h
  exact ⟨p, rfl, x _ _ q⟩
theorem EntL.mono {H H' : Hp} {es : List (Str × Int)} {vs : List V} (h : EntL H es vs) (x : Ext H H') : EntL H' es vs := Paired.mapP h fun _ _ q => EntAt.mono q x
theorem upd_none {H : Hp} {p d : Addr} {o : HO} (h : upd H p o d = none) : d ≠ p ∧ H d = none := by
  by_cases e : d = p
  · rw [e, upd_same] at h; cases h
  · exact ⟨e, by rw [upd_ne e] at h; exact h⟩
theorem Ext.free {H H' : Hp} (e : Ext H H') {l : Addr} (h : H' l = none) : H l = none := Same.free (show Same H H' from e) h
/-- tuples stand under every change -/
def TupSt (H H' : Hp) : Prop := ∀ a xs, H a = some (.tup xs) → H' a = some (.tup xs)
theorem TupSt.ext {H H' : Hp} (x : Ext H H') : TupSt H H' := fun a xs h => x a _ h
theorem TupSt.upd {H : Hp} {p : Addr} {o u : HO} (h : H p = some u) (d : ∀ xs, u ≠ .tup xs) : TupSt H (L2.upd H p o) := fun a xs e => by
  rw [upd_ne (ne_of e h (fun z => d xs z.symm))]; exact e
theorem TupSt.trans {H H1 H2 : Hp} (a : TupSt H H1) (b : TupSt H1 H2) : TupSt H H2 := fun c xs h => b c xs (a c xs h)
theorem EntL.st {H H' : Hp} {es : List (Str × Int)} {vs : List V} (h : EntL H es vs) (x : TupSt H H') : EntL H' es vs := Paired.mapP h fun _ _ q => by
  obtain ⟨p, e, q⟩ := q
  exact ⟨p, e, x _ _ q⟩
theorem Frm.tups {p : Addr} {H H' : Hp} {o : HO} (f : Frm [p] H H') (hp : H p = some o) (d : ∀ xs, o ≠ .tup xs) : TupSt H H' := fun a xs h => f a _ h fun z => by
  rw [List.mem_singleton.mp z, hp] at h
  exact d xs (Option.some.inj h)
theorem mem1 {p : Addr} : p ∈ [p] := List.mem_singleton.mpr rfl
/-- readings of tests -/
theorem kNe {i j : Int} {Q : Bool → Hp → Prop} {H : Hp} (h : Q (!decide (i = j)) H) : mEqG (fun b => !b) (.int i) (.int j) H (kB Q) := h
theorem kEq {i j : Int} {Q : Bool → Hp → Prop} {H : Hp} (h : Q (decide (i = j)) H) : mEqG (fun b => b) (.int i) (.int j) H (kB Q) := h
theorem kNeS {i j : Str} {Q : Bool → Hp → Prop} {H : Hp} (h : Q (!decide (i = j)) H) : mEqG (fun b => !b) (.str i) (.str j) H (kB Q) := h
theorem kEqS {i j : Str} {Q : Bool → Hp → Prop} {H : Hp} (h : Q (decide (i = j)) H) : mEqG (fun b => b) (.str i) (.str j) H (kB Q) := h
theorem kNeB {i j : Bool} {Q : Bool → Hp → Prop} {H : Hp} (h : Q (!decide (i = j)) H) : mEqG (fun b => !b) (.bl i) (.bl j) H (kB Q) := h
theorem kI {c : Bool} {Q : Bool → Hp → Prop} {H : Hp} (h : Q c H) : kB Q (.bl c) H := h
/-- the fields of a log as __init__ stores them -/
def lf (sz : Int) (ls le : Addr) : List (Str × V) := putF "held_entries" (.ref le) (putF "held_servers" (.ref ls) (putF "held_size" (.int sz) []))
theorem lf_size (sz : Int) (ls le : Addr) : (lf sz ls le).lookup ("held_size" : Str) = some (.int sz) := by
  unfold lf
  rw [lookup_putF, if_neg (by decide +kernel), lookup_putF, if_neg (by decide +kernel), lookup_putF, if_pos rfl]
theorem lf_servers (sz : Int) (ls le : Addr) : (lf sz ls le).lookup ("held_servers" : Str) = some (.ref ls) := by
  unfold lf
  rw [lookup_putF, if_neg (by decide +kernel), lookup_putF, if_pos rfl]
theorem lf_entries (sz : Int) (ls le : Addr) : (lf sz ls le).lookup ("held_entries" : Str) = some (.ref le) := by
  unfold lf
  rw [lookup_putF, if_pos rfl]
theorem lf_no (sz : Int) (ls le : Addr) {m : Str} (h1 : ¬ m = "held_entries") (h2 : ¬ m = "held_servers") (h3 : ¬ m = "held_size") : (lf sz ls le).lookup m = none := by
  unfold lf
  rw [lookup_putF, if_neg h1, lookup_putF, if_neg h2, lookup_putF, if_neg h3]
  rfl
/-- a log of the class at C stands at p -/
def LogAt (C : Addr) (H : Hp) (p : Addr) (sz : Int) (ns : List Str) (es : List (Str × Int)) : Prop :=
  ∃ dx ls le vs, H p = some (.ins C dx (lf sz ls le)) ∧ H ls = some (.lst (ns.map V.str)) ∧ H le = some (.lst vs) ∧ EntL H es vs
theorem LogAt.mono {C : Addr} {H H' : Hp} {p : Addr} {sz : Int} {ns : List Str} {es : List (Str × Int)} (h : LogAt C H p sz ns es) (x : Ext H H') : LogAt C H' p sz ns es := by
  obtain ⟨dx, ls, le, vs, h1, h2, h3, h4⟩ := h
  exact ⟨dx, ls, le, vs, x _ _ h1, x _ _ h2, x _ _ h3, h4.mono x⟩

/-! ### what is an entry -/
inductive SrvJ (K : PySem.W.Frag) (H : Hp) (ns : List Str) : V → Bool → Prop where
  | str (z : Str) : SrvJ K H ns (.str z) (decide (z ∈ ns))
  | kind {x : V} {t : Value} : TyX K H x t → PySem.W.kitOne K t (.type "str") = some false → SrvJ K H ns x false
inductive IntJ (K : PySem.W.Frag) (H : Hp) : V → Bool → Prop where
  | int (i : Int) : IntJ K H (.int i) true
  | bl (b : Bool) : IntJ K H (.bl b) false
  | kind {x : V} {t : Value} : TyX K H x t → PySem.W.kitOne K t (.type "int") = some false → IntJ K H x false
inductive Jd (K : PySem.W.Frag) (H : Hp) (ns : List Str) : V → Option (Str × Int) → Prop where
  | kind {x : V} {t : Value} : TyX K H x t → PySem.W.kitOne K t (.type "tuple") = some false → Jd K H ns x none
  | size {p : Addr} {xs : List V} : H p = some (.tup xs) → xs.length ≠ 2 → Jd K H ns (.ref p) none
  | srv {p : Addr} {x y : V} : H p = some (.tup [x, y]) → SrvJ K H ns x false → Jd K H ns (.ref p) none
  | num {p : Addr} {x y : V} : H p = some (.tup [x, y]) → SrvJ K H ns x true → IntJ K H y false → Jd K H ns (.ref p) none
  | neg {p : Addr} {x : V} {i : Int} : H p = some (.tup [x, .int i]) → SrvJ K H ns x true → i < 0 → Jd K H ns (.ref p) none
  | ok {p : Addr} {z : Str} {i : Int} : H p = some (.tup [.str z, .int i]) → z ∈ ns → 0 ≤ i → Jd K H ns (.ref p) (some (z, i))

/-! ### what the top must have -/
structure LogC (K : PySem.W.Frag) (C : Addr) (kd : Str) : Prop where
  cl : Cls K C
  nS : NoAttr K C "held_size"
  nV : NoAttr K C "held_servers"
  nE : NoAttr K C "held_entries"
  kd : ∃ u, Con K C "KIND" (.str kd) u
  ty : ∀ H p dx fs, H p = some (.ins C dx fs) → TyX K H (.ref p) (.ref C)
  nt : PySem.W.kitOne K (.ref C) (.type "tuple") = some false
abbrev GV (mg : Str → Option Value) (x : Str) (v : V) : Prop := ∃ u, mg x = some u ∧ RelV v u
structure Blt (mg : Str → Option Value) : Prop where
  n_len : mg "len" = none
  n_isinstance : mg "isinstance" = none
  n_int : mg "int" = none
  n_bool : mg "bool" = none
  n_str : mg "str" = none
  n_list : mg "list" = none
  n_tuple : mg "tuple" = none
  n_all : mg "all" = none
  n_set : mg "set" = none
  n_max : mg "max" = none
  n_min : mg "min" = none
  n_abs : mg "abs" = none
  n_range : mg "range" = none
  n_repr : mg "repr" = none
abbrev LETT : Str := "abcdefghijklmnopqrstuvwxyz"
structure Tx (K : PySem.W.Frag) (mg : Str → Option Value) (cL cX : Addr) : Prop extends Blt mg where
  g_GREATEST_SIZE : GV mg "GREATEST_SIZE" (.int (10 ^ 30))
  g_MOST_SERVERS : GV mg "MOST_SERVERS" (.int 12)
  g_MOST_LETTERS : GV mg "MOST_LETTERS" (.int 8)
  g_MOST_ENTRIES : GV mg "MOST_ENTRIES" (.int 200)
  g_LETTERS : GV mg "LETTERS" (.str LETT)
  g_LOSING : GV mg "LOSING" (.str "losing")
  g_Log : GV mg "Log" (.ref cL)
  g_LosingLog : GV mg "LosingLog" (.ref cX)
  cl1 : LogC K cL "steady"
  cl2 : LogC K cX "losing"
  ll : PySem.W.kitOne K (.ref cL) (.ref cL) = some true
  xl : PySem.W.kitOne K (.ref cX) (.ref cL) = some true
  lx : PySem.W.kitOne K (.ref cL) (.ref cX) = some false
  xx : PySem.W.kitOne K (.ref cX) (.ref cX) = some true
/-- a def of the module -/
structure Dx (K : PySem.W.Frag) (mg : Str → Option Value) (x : Str) (st : Stmt) (ps : List Str) : Prop where
  ex : ∃ f fd, C8.Def K mg x st f fd ∧ Binds K fd ps []
/-- a method's def -/
structure Mx (K : PySem.W.Frag) (m qual : Str) (st : Stmt) (ps : List Str) (f : Addr) (fd : FuncData) : Prop where
  fn : C8.Fun K m qual st f fd
  b : Binds K fd ps []
section
variable {P : Program} {w : World} {K : PySem.W.Frag} {mg : Str → Option Value} {base : Heap}
theorem cal_of {x : Str} {st : Stmt} {N ps : List Str} {k : Nat} {sp : Sp} (D : Dx K mg x st ps) (S : FnScope N ps (C8.fnScope st)) (len : ∀ vs H Q E, sp vs H Q E → vs.length = ps.length)
    (hb : ∀ (f : Addr) (cdv : Value) (A : Around) (o : List Env) (s : Shared) (H : Hp) (vs : List V) (Q : VK) (E : XK), Room k (A.deeper (envOfC x (C8.fnScope st) s.heap.objs.size f cdv)) → sp vs H Q E →
      ∃ t, PSs (cxOf C8.CX0 P w K mg base N x (C8.fnScope st) f cdv A o s H E).nox (C8.fnBody st) t ∧ t { nx := fun _ H' => Q .non H', rt := Q } (start N vs) H) : C8.Cal P w K mg base (k + 1) x sp [] := by
  obtain ⟨f, fd, F, b⟩ := D.ex
  exact C8.cal0 F b .nil S len fun cdv A o s H vs Q E hr h => hb f cdv A o s H vs Q E hr h
theorem calG_of {x : Str} {st : Stmt} {N ps : List Str} {k : Nat} {sp : Sp} (D : Dx K mg x st ps) (S : FnScope N ps (C8.fnScope st)) (len : ∀ vs H Q E, sp vs H Q E → vs.length = ps.length)
    (hb : ∀ (f : Addr) (cdv : Value) (A : Around) (o : List Env) (s : Shared) (H : Hp) (vs : List V) (Q : VK) (E : XK), Room k (A.deeper (envOfC x (C8.fnScope st) s.heap.objs.size f cdv)) → A.guards = some [] → sp vs H Q E →
      ∃ t, PSs (cxOf C8.CX0 P w K mg base N x (C8.fnScope st) f cdv A o s H E).nox (C8.fnBody st) t ∧ t { nx := fun _ H' => Q .non H', rt := Q } (start N vs) H) : CalG P w K mg base (k + 1) x sp := by
  obtain ⟨f, fd, F, b⟩ := D.ex
  exact ⟨f, fd, ps, fnG_of F.fn S len fun cdv A o s H vs Q E hr hgd h => hb f cdv A o s H vs Q E hr hgd h, F.mgf, F.kp, b⟩
theorem fn_of' {m qual : Str} {st : Stmt} {f : Addr} {fd : FuncData} {N ps : List Str} {k : Nat} {sp : Sp} (D : Mx K m qual st ps f fd) (S : FnScope N ps (C8.fnScope st)) (len : ∀ vs H Q E, sp vs H Q E → vs.length = ps.length)
    (hb : ∀ (cdv : Value) (A : Around) (o : List Env) (s : Shared) (H : Hp) (vs : List V) (Q : VK) (E : XK), Room k (A.deeper (envOfC qual (C8.fnScope st) s.heap.objs.size f cdv)) → sp vs H Q E →
      ∃ t, PSs (cxOf C8.CX0 P w K mg base N qual (C8.fnScope st) f cdv A o s H E).nox (C8.fnBody st) t ∧ t { nx := fun _ H' => Q .non H', rt := Q } (start N vs) H) : FnOk P w K mg base C8.CX0 (k + 1) f fd ps sp :=
  C8.fn0 D.fn S len hb
end
theorem u65 {k : Nat} {A : Around} (hr : Room k A) : A.units + 65 < cLine := by have := hr.un; omega
/-! ### a comprehension over a text -/
theorem lc_txt {x : Str} {g : TG} {tt : TT} {te : TE} {vs : List Nat} {σ : L2.St} {H1 : Hp} {D : Addr} {Qd : Hp → Prop} (Pv : Nat → Hp → Prop) (h0 : Pv 0 (upd H1 D (.lst [])))
    (hs : ∀ i c H, x.cps.toList[i]? = some c → Pv i H → g (.str ⟨#[c]⟩) (wipe σ vs) H fun σ2 H2 => wipe σ2 vs = wipe σ vs ∧ tt σ2 H2 fun b H3 =>
      if b = true then te σ2 H3 fun y H4 => ∃ acc, H4 D = some (.lst acc) ∧ acc.length < sizeLine ∧ Pv (i + 1) (upd H4 D (.lst (acc ++ [y]))) else Pv (i + 1) H3) (hd : ∀ H, Pv x.cps.size H → Qd H) :
    ∃ W : Nat → Nat → Hp → Prop, (∃ m, W 0 m (upd H1 D (.lst []))) ∧ ∀ i m H, W i m H →
      ((Its x).stop i H ∧ Qd H) ∨ ((Its x).go i H ∧ ∃ Nx : Hp → Prop, (∀ H', Nx H' → ∃ m', m' < m ∧ W (i + 1) m' H') ∧ ∀ y H', (Its x).yld i H y H' → g y (wipe σ vs) H' fun σ2 H2 => wipe σ2 vs = wipe σ vs ∧ tt σ2 H2 fun b H3 =>
        if b = true then te σ2 H3 fun y H4 => ∃ acc, H4 D = some (.lst acc) ∧ acc.length < sizeLine ∧ Nx (upd H4 D (.lst (acc ++ [y]))) else Nx H3) := by
  refine ⟨fun i m H => m = x.cps.size - i ∧ i ≤ x.cps.size ∧ Pv i H, ⟨x.cps.size, by simp, Nat.zero_le _, h0⟩, ?_⟩
  rintro i m H ⟨rfl, hi, p⟩
  rcases Nat.lt_or_ge i x.cps.size with h | h
  · refine .inr ⟨h, Pv (i + 1), fun H' p' => ⟨x.cps.size - (i + 1), by omega, rfl, h, p'⟩, ?_⟩
    rintro y H' ⟨rfl, c, e, rfl⟩
    exact hs i c _ (by rw [Array.getElem?_toList]; exact e) p
  · obtain rfl : i = x.cps.size := by omega
    exact .inl ⟨Nat.le_refl _, hd H p⟩
end NB

set_option Elab.async false
set_option linter.all false
set_option maxRecDepth 100000
/-! D3: data that can be shown -/
namespace NB
open PySem PySem.Spec L2

structure Sm (W n : Nat) (d : PyData) : Prop where
  lay : d.canLay0 = true
  sho : d.showable = true
  nod : d.hasDict = false
  dep : d.depth ≤ n
  ish : d.intsShort 61 = true
  wt : d.weight ≤ W
theorem Sm.mono {W n W' n' : Nat} {d : PyData} (h : Sm W n d) (h1 : W ≤ W') (h2 : n ≤ n') : Sm W' n' d := ⟨h.lay, h.sho, h.nod, Nat.le_trans h.dep h2, h.ish, Nat.le_trans h.wt h1⟩
theorem pow_log {m : Nat} (h : m < 10 ^ 60) : m.log2 < 200 := by
  by_cases e : m = 0
  · subst e; decide
  · rw [Nat.log2_lt e]
    exact Nat.lt_of_lt_of_le h (by decide)
theorem Sm.int {i : Int} (h : i.natAbs < 10 ^ 60) : Sm 200 0 (.int i) := by
  have l := pow_log h
  refine ⟨rfl, ?_, rfl, Nat.le_refl _, ?_, ?_⟩
  · show decide (i.natAbs.log2 < 1920) = true
    exact decide_eq_true (by omega)
  · show decide ((PyData.shown (.int i)).length ≤ 61) = true
    refine decide_eq_true ?_
    show (Str.ofString (toString i)).length ≤ 61
    rw [PySem.ofString_length]
    exact int_text_length_le10 (k := 60) (by decide) h
  · show (if i == 0 then 0 else i.natAbs.log2 + 1) ≤ 200
    split <;> omega
theorem Sm.str {z : Str} (h : PyData.canLay0 (.str z) = true) (hl : z.length ≤ 100) : Sm 100 0 (.str z) := ⟨h, rfl, rfl, Nat.le_refl _, rfl, hl⟩
section
variable {W n : Nat}
theorem smAll : ∀ {ds : List PyData}, (∀ d ∈ ds, Sm W n d) → PyData.canLayAll0 ds = true ∧ PyData.showableAll ds = true ∧ PyData.hasDictAll ds = false ∧ PyData.depthAll ds ≤ n ∧ PyData.intsShortAll 61 ds = true ∧ PyData.weightAll ds ≤ (W + 1) * ds.length
  | [], _ => by simp [PyData.canLayAll0, PyData.showableAll, PyData.hasDictAll, PyData.depthAll, PyData.intsShortAll, PyData.weightAll]
  | d :: ds, h => by
    obtain ⟨h1, h2, h3, h4, h5, h6⟩ := smAll fun x hx => h x (List.mem_cons_of_mem _ hx)
    have g := h d List.mem_cons_self
    simp only [PyData.canLayAll0, PyData.showableAll, PyData.hasDictAll, PyData.depthAll, PyData.intsShortAll, PyData.weightAll, Bool.and_eq_true, Bool.or_eq_false_iff, List.length_cons]
    refine ⟨⟨g.lay, h1⟩, ⟨g.sho, h2⟩, ⟨g.nod, h3⟩, Nat.max_le.mpr ⟨g.dep, h4⟩, ⟨g.ish, h5⟩, ?_⟩
    have := g.wt
    rw [Nat.mul_add, Nat.mul_one]
    omega
theorem Sm.list {ds : List PyData} {m : Nat} (h : ∀ d ∈ ds, Sm W n d) (hm : ds.length ≤ m) : Sm ((W + 1) * m) (n + 1) (.list ds) := by
  obtain ⟨h1, h2, h3, h4, h5, h6⟩ := smAll h
  exact ⟨by simpa only [PyData.canLay0] using h1, by simpa only [PyData.showable] using h2, by simpa only [PyData.hasDict] using h3, by show PyData.depthAll ds + 1 ≤ n + 1; omega, by simpa only [PyData.intsShort] using h5,
    Nat.le_trans h6 (Nat.mul_le_mul (Nat.le_refl _) hm)⟩
theorem Sm.tuple {ds : List PyData} {m : Nat} (h : ∀ d ∈ ds, Sm W n d) (hm : ds.length ≤ m) : Sm ((W + 1) * m) (n + 1) (.tuple ds) := by
  obtain ⟨h1, h2, h3, h4, h5, h6⟩ := smAll h
  exact ⟨by simpa only [PyData.canLay0] using h1, by simpa only [PyData.showable] using h2, by simpa only [PyData.hasDict] using h3, by show PyData.depthAll ds + 1 ≤ n + 1; omega, by simpa only [PyData.intsShort] using h5,
    Nat.le_trans h6 (Nat.mul_le_mul (Nat.le_refl _) hm)⟩
theorem Sm.fits {d : PyData} (h : Sm W n d) (hW : W ≤ 200000) : d.shown.length ≤ sizeLine := by
  have h1 := PyData.shown_le 61 (by decide) d (PyData.leavesShort_of_canLay0 61 d h.lay h.ish)
  have h2 : (61 + 2) * d.weight ≤ 63 * 200000 := Nat.mul_le_mul (by decide) (Nat.le_trans h.wt hW)
  rw [sizeLine_eq]
  omega
theorem Sm.shaped {d : PyData} (h : Sm W n d) (hn : n ≤ 60) : SeqAt.shaped d = true := Bool.and_eq_true_iff.mpr ⟨h.lay, decide_eq_true (Nat.le_trans h.dep (by omega))⟩
end
/-- repr of it -/
theorem rep_of {K : PySem.W.Frag} {H : Hp} {v : V} {d : PyData} {W n : Nat} {Q : VK} (dp : Dp K H v d) (sm : Sm W n d) (hd : PyProof.Rows.isDisplay d = true) (hW : W ≤ 200000) (hn : n ≤ 60) (q : Q (.str d.shown) H) : mRep K [v] H Q :=
  ⟨v, d, rfl, dp, hd, sm.sho, sm.nod, Nat.le_trans sm.dep hn, sm.fits hW, q⟩
end NB

set_option Elab.async false
set_option linter.all false
set_option maxRecDepth 100000
/-! B7: defs that may raise; own +; methods by keywords -/
namespace NB
open PySem PySem.Spec L2
open PyProof.Rows (envOfC)

section
variable {P : Program} {w : World} {K : PySem.W.Frag} {mg : Str → Option Value} {base : Heap}
/-- as fn_of', for a def that may raise -/
theorem fnX_of' {m qual : Str} {st : Stmt} {f : Addr} {fd : FuncData} {N ps : List Str} {k : Nat} {sp : Sp} (D : Mx K m qual st ps f fd) (S : FnScope N ps (C8.fnScope st)) (len : ∀ vs H Q E, sp vs H Q E → vs.length = ps.length)
    (hb : ∀ (cdv : Value) (A : Around) (o : List Env) (s : Shared) (H : Hp) (vs : List V) (Q : VK) (E : XK), Room k (A.deeper (envOfC qual (C8.fnScope st) s.heap.objs.size f cdv)) → sp vs H Q E →
      ∃ t, PSs (cxOf (L2.CX P w) P w K mg base N qual (C8.fnScope st) f cdv A o s H E) (C8.fnBody st) t ∧ t { nx := fun _ H' => Q .non H', rt := Q } (start N vs) H) : FnOk P w K mg base (L2.CX P w) (k + 1) f fd ps sp := by
  obtain ⟨oc, od, dV, kV, doc, pm, an, cdv, ct, osl, rfl, lk, hcd⟩ := D.fn.ex
  exact fn_of lk hcd S len fun A outer s H vs Q E hr hsp => hb cdv A outer s H vs Q E hr hsp
end
section
variable {X : Cx} {k : Nat} {C f : Addr} {fd : FuncData} {ps : List Str} {sp : Sp} {E : XK} {CXf : CXT}
/-- a wish that no state is asked of -/
theorem passW {W : WX} (tk : Takes X W) : Passes (L2.CX X.prog X.w) X (fun c d H => ∀ σ, W c d σ H) := fun _ σ _ _ e s' I c => tk e s' (XE.of_call I (fun _ _ _ h => h σ) c)
/-- o + p, two own instances of one class -/
theorem own_add (F : FnOk X.prog X.w X.K X.mg X.base CXf k f fd ps sp) (hs : PySem.W.findIn X.K (.ref C) "__add__" = some (some (.ref f))) (hf : PySem.W.isFn X.K (.ref f) = true) (hc : PySem.W.selfFirst X.K C = true) (hb : Binds X.K fd ps []) (hr : Room k X.A) (hx : Passes CXf X E) :
    OpR X (binaryOp .Add) (fun x y H Q => ∃ a b dx dy fs gs, x = .ref a ∧ y = .ref b ∧ H a = some (.ins C dx fs) ∧ H b = some (.ins C dy gs) ∧ sp [.ref a, .ref b] H (fun v H' => (∃ q, v = .ref q) ∧ Q v H') E) := by
  intro pins s σ H x y v u Q I rx ry q
  obtain ⟨a, b, dx, dy, fs, gs, rfl, rfl, ha, hb', q⟩ := q
  cases rx
  cases ry
  obtain ⟨mA, O, _⟩ := ins_get I.hok ha
  obtain ⟨mB, O', _⟩ := ins_get I.hok hb'
  obtain ⟨od, J, _⟩ := O.look
  obtain ⟨od', J', _⟩ := O'.look
  obtain ⟨m, hF⟩ := I.fr
  refine PySem.W.binop_K (op := .Add) hF I.ok.mod.kin J J'.type hc hs hf ?_
  refine thn (run_fn F hr hb .nil hx I (vs := [.ref a, .ref b]) (.cons rfl (.cons rfl .nil)) q) fun r s' z => ?_
  obtain ⟨z, H', I', rz, ⟨q0, e⟩, kz⟩ := z
  subst e
  cases rz
  exact ⟨.ref q0, H', I', rfl, kz⟩
variable {m : Str} {o : Expr} {kws : List Keyword} {ks : List Str} {g : List Value → List Value → List Value} {gV : List V → List V → List V} {p apos pos : Pos} {ta : TE} {tk : TA}
/-- o.m(k = v, ..) -/
def tMethK0 (C : Addr) (m : Str) (n : Nat) (sp : Sp) (gV : List V → List V → List V) (E : XK) (ta : TE) (tk : TA) : TE := fun σ H Q => ta σ H fun x H1 => ∃ a dx fs, x = .ref a ∧ H1 a = some (.ins C dx fs) ∧ fs.lookup m = none ∧ tk σ H1 fun zs H2 => zs.length = n ∧ sp (gV [.ref a] zs) H2 Q E
theorem pe_methK0 {pl : Sem Bool} (he : PE X o ta) (c : Cls X.K C) (hm : Meth X.K C m f) (F : FnOk X.prog X.w X.K X.mg X.base CXf k f fd ps sp) (hr : Room k X.A) (hb : KBn X.K fd ps 1 ks g gV) (hx : Passes CXf X E) (hkw : PK X kws tk)
    (hall : (backToKw pos (keywordEach kws X.env)).all (·.1.isSome) = true := by rfl) (hks : (backToKw pos (keywordEach kws X.env)).filterMap (·.1) = ks := by rfl)
    (hpl : ((backTo pos (starEach [] X.env)).any (·.1) || (backToKw pos (keywordEach kws X.env)).any (·.1.isNone)) = false := by rfl)
    (ht : eval (.Call (.Attribute o m apos) [] kws pos) X.env = (do
      let ov ← eval o X.env
      standAt apos.atName
      let (f, first) ← holding [ov] (getMethod ov m pl)
      callWith pos f first (backTo pos (starEach [] X.env)) (backToKw pos (keywordEach kws X.env))) := by rfl) :
    PE X (.Call (.Attribute o m apos) [] kws pos) (tMethK0 C m ks.length sp gV E ta tk) := by
  refine ⟨fun pins s σ H Q I h => ?_⟩
  refine PySem.W.methodCall_KW (pl := pl) (thn (he.run pins s σ H _ I h) fun u s1 ⟨x, H1, I1, rx, a, dx, fs, ex, ea, l, q⟩ => ?_) ht
  subst ex
  obtain rfl : u = Value.ref a := rx
  refine getmeth_ok I1 ea c hm l ?_
  refine PySem.W.callWith_KW0 (first := [.ref a]) (h₀ := X.base) I.ok.mod.kin hm.kp hall (thn (hkw.run pos pins s1 σ H1 _ I1 q) fun ws s2 ⟨zs, H2, I2, rz, l2, q2⟩ => ⟨I2.kIn, ?_⟩) hpl
  rw [hks]
  have r1 : Vals [V.ref a] [Value.ref a] := .cons rfl .nil
  have e2 : ws.length = ks.length := rz.length.symm.trans l2
  refine wpAny_call (codeAny_mono (F.run X.A X.stack s2 H2 ⟨[.ref a], ks.zip ws⟩ (g [.ref a] ws) _ Q E hr I2.env0 (hb.to s2 [.ref a] ws I2.kIn rfl e2) (hb.rel r1 rz) q2) fun r s' hq => ?_)
  cases r with
  | error e => exact hx pins σ H2 s2 e s' I2 hq
  | ok fl =>
    cases fl with
    | ret u => exact I2.after hq
    | next => exact False.elim hq
    | brk => exact False.elim hq
    | cont => exact False.elim hq
end
end NB

set_option Elab.async false
set_option linter.all false
set_option maxRecDepth 100000
/-! B10: powers of great numbers; an instance called by keywords -/
namespace NB
open PySem PySem.Spec PyProof.Rows L2
/-- i ** j, the size of the power within the model's line -/
def CPowW (i j : Int) : Prop := 0 ≤ j ∧ (Builtin.Int.intBits i : Int) * j ≤ 2 ^ 27
section
variable {X : Cx}
theorem m_powW : OpR X (binaryOp .Pow) (mI CPowW fun i j => .int (i ^ j.toNat)) := m_of (opI fun _ _ _ _ _ _ _ hc q => PyProof.Rows.pow_int hc.1 hc.2 q)
variable {CXf : CXT} {k : Nat} {C f : Addr} {fd : FuncData} {ps ks : List Str} {sp : Sp} {E : XK} {fe e : Expr} {es : List Expr} {kws : List Keyword} {g : List Value → List Value → List Value} {gV : List V → List V → List V} {pos : Pos} {tf : TE} {t tk : TA}
/-- f(e, ..), f an instance of C -/
def tOwnC (C : Addr) (sp : Sp) (E : XK) (tf : TE) (t : TA) : TE := fun σ H Q => tf σ H fun y H1 => ∃ a, y = V.ref a ∧ t σ H1 fun vs H2 => ∃ dx fs, H2 a = some (.ins C dx fs) ∧ sp (V.ref a :: vs) H2 Q E
/-- f(k = v, ..), f an instance of C -/
def tOwnK (C : Addr) (n : Nat) (sp : Sp) (gV : List V → List V → List V) (E : XK) (tf : TE) (tk : TA) : TE := fun σ H Q => tf σ H fun y H1 => ∃ a, y = V.ref a ∧ tk σ H1 fun zs H2 => zs.length = n ∧ ∃ dx fs, H2 a = some (.ins C dx fs) ∧ sp (gV [V.ref a] zs) H2 Q E
/-- the call's node, the callee an own instance that stands there behind the arguments -/
theorem own_call {M : Model} {A : Around} {E : Value → Shared → Prop} {s : Shared} {a : Addr} {pos : Pos} {Q : Value → Shared → Prop} {args : List (Bool × Sem Value)} {kw : List (Option Str × Sem Value)} (plain : (args.any (·.1) || kw.any (·.1.isNone)) = false)
    (h : wpAny M A (evalArgs (.ref a) true args kw) (fun z s1 => (∃ C ox od, PySem.W.InstAt s1.heap a ox C od ∧ ox.data = .plain) ∧ wpAny M A (call (.ref a) ([] ++ z.pos) z.kw) Q E s1) E s) : wpAny M A (callWith pos (.ref a) [] args kw) Q E s := by
  unfold callWith
  refine wpAny_bind (wpAny_holding (wpAny_mono h (fun z s1 hz => wpAny_bind (wpAny_standAt ?_)) fun _ _ e => e))
  obtain ⟨⟨C, ox, od, J, hd⟩, hc⟩ := hz
  have seen := PySem.W.kco_keeper (M := M) J hd
  simp only [plain]
  refine wpAny_bind (seen.here ?_)
  exact wpAny_bind (wpAny_mono (wpAny_operateT hc) (fun r s2 hr => wpAny_bind (wpAny_holding (wpAny_point (wpAny_pure hr)))) fun _ _ e => e)
theorem pe_ownC (hf : PE X fe tf) (hs : PySem.W.findIn X.K (.ref C) "__call__" = some (some (.ref f))) (hi : PySem.W.isFn X.K (.ref f) = true) (hn : PySem.W.fnIn X.K f = true) (F : FnOk X.prog X.w X.K X.mg X.base CXf k f fd ps sp) (hb : Binds X.K fd ps []) (hr : Room k X.A) (hx : Passes CXf X E) (ha : PA X (e :: es) t)
    (ht : eval (.Call fe (e :: es) [] pos) X.env = (do callWith pos (← eval fe X.env) [] (backTo pos (starEach (e :: es) X.env)) (backToKw pos (keywordEach [] X.env))) := by rfl)
    (he : starEach (e :: es) X.env = (false, eval e X.env) :: starEach es X.env := by rfl) (hpl : (backTo pos (starEach es X.env)).any (·.1) = false := by rfl) : PE X (.Call fe (e :: es) [] pos) (tOwnC C sp E tf t) := by
  refine ⟨fun pins s σ H Q I h => ?_⟩
  refine Call_ (thn (hf.run pins s σ H _ I h) fun u s1 z => ?_) ht
  obtain ⟨y, H1, I1, ry, a, ey, q⟩ := z
  subst ey
  obtain rfl : u = Value.ref a := ry
  have hA := ha.run pos pins s1 σ H1 _ I1 q
  rw [he] at hA ⊢
  refine own_call (by show ((false || (backTo pos (starEach es X.env)).any (·.1)) || false) = false; rw [hpl]; rfl) (PySem.Calls.evalArgs_plain (thn hA fun us s2 z => ?_))
  obtain ⟨vs, H2, I2, r, dx, fs, ha2, q2⟩ := z
  obtain ⟨mA, O, _⟩ := ins_get I2.hok ha2
  obtain ⟨od, J, _⟩ := O.look
  refine ⟨⟨_, _, _, J, rfl⟩, ?_⟩
  have hl : (Value.ref a :: us).length = ps.length := by rw [← F.len _ _ _ _ q2, List.length_cons, List.length_cons, r.length]
  have b := hb s2 (Value.ref a :: us) I2.kIn (by simpa using hl)
  rw [List.append_nil] at b
  refine wpAny_call (PySem.W.kco_code I2.kIn J rfl hs hi hn (codeAny_mono (F.run X.A X.stack s2 H2 ⟨Value.ref a :: us, []⟩ (Value.ref a :: us) (V.ref a :: vs) Q E hr I2.env0 b (.cons rfl r) q2) fun r s' hq => ?_))
  cases r with
  | error e => exact hx pins σ H2 s2 e s' I2 hq
  | ok fl => cases fl <;> first | exact I2.after hq | exact False.elim hq
theorem pe_ownK (hf : PE X fe tf) (hs : PySem.W.findIn X.K (.ref C) "__call__" = some (some (.ref f))) (hi : PySem.W.isFn X.K (.ref f) = true) (hn : PySem.W.fnIn X.K f = true) (F : FnOk X.prog X.w X.K X.mg X.base CXf k f fd ps sp) (hb : KBn X.K fd ps 1 ks g gV) (hr : Room k X.A) (hx : Passes CXf X E) (hkw : PK X kws tk)
    (ht : eval (.Call fe [] kws pos) X.env = (do callWith pos (← eval fe X.env) [] (backTo pos (starEach [] X.env)) (backToKw pos (keywordEach kws X.env))) := by rfl)
    (hall : (backToKw pos (keywordEach kws X.env)).all (·.1.isSome) = true := by rfl) (hks : (backToKw pos (keywordEach kws X.env)).filterMap (·.1) = ks := by rfl)
    (hpl : ((backTo pos (starEach [] X.env)).any (·.1) || (backToKw pos (keywordEach kws X.env)).any (·.1.isNone)) = false := by rfl) : PE X (.Call fe [] kws pos) (tOwnK C ks.length sp gV E tf tk) := by
  refine ⟨fun pins s σ H Q I h => ?_⟩
  show wpAny _ _ (eval _ _) _ _ _
  rw [ht]
  refine wpAny_bind (thn (hf.run pins s σ H _ I h) fun u s1 z => ?_)
  obtain ⟨y, H1, I1, ry, a, ey, q⟩ := z
  subst ey
  obtain rfl : u = Value.ref a := ry
  refine own_call hpl (PyProof.Rows.evalArgs_kw2_nil hall (thn (hkw.run pos pins s1 σ H1 _ I1 q) fun ws s2 z => ?_))
  obtain ⟨zs, H2, I2, rz, l2, dx, fs, ha2, q2⟩ := z
  obtain ⟨mA, O, _⟩ := ins_get I2.hok ha2
  obtain ⟨od, J, _⟩ := O.look
  refine ⟨⟨_, _, _, J, rfl⟩, ?_⟩
  rw [hks]
  have r1 : Vals [V.ref a] [Value.ref a] := .cons rfl .nil
  have e2 : ws.length = ks.length := rz.length.symm.trans l2
  refine wpAny_call (PySem.W.kco_code I2.kIn J rfl hs hi hn (codeAny_mono (F.run X.A X.stack s2 H2 ⟨[Value.ref a], ks.zip ws⟩ (g [.ref a] ws) _ Q E hr I2.env0 (hb.to s2 [.ref a] ws I2.kIn rfl e2) (hb.rel r1 rz) q2) fun r s' hq => ?_))
  cases r with
  | error e => exact hx pins σ H2 s2 e s' I2 hq
  | ok fl => cases fl <;> first | exact I2.after hq | exact False.elim hq
end
end NB

set_option Elab.async false
set_option linter.all false
set_option maxRecDepth 100000
/-! B11: == of own instances whose class says nothing of it: the same object -/
namespace NB
open PySem PySem.Spec PyProof.Rows PySem.Calls Builtin

section
open PySem.W
variable {prog : Program} {w : World} {A : Around} {E : Value → Shared → Prop} {s : Shared} {K : PySem.W.Frag} {x y C D : Addr} {ox oy : Obj} {od oe : Option Obj} {b : Value}
theorem chk_eq {M : Model} {R : Unit → Shared → Prop} (X : K.In s.heap) (I : InstAt s.heap x ox C od) (hm : mroIn K C (.type "object") = some true) (hq : R () s) : wpAny M A (checkBuiltinCall "object.__eq__" ⟨.ref x :: [b], []⟩) R E s := by
  have L0 := I.type (M := M)
  have L1 := looks_mroIn (M := M) X hm
  simp only [checkBuiltinCall, F.cmpKind_eq, F.cmpSplit_eq]
  refine wpAny_bind ?_
  unfold isInstance
  refine wpAny_bind (L0.here ?_)
  refine L1.here ?_
  cases hsig : Manifest.signature? "object.__eq__" with
  | none => exact wpAny_pure hq
  | some sig =>
    have ha := F.cmpArgs_eq (.ref x) b
    simp only [argsOk, hsig] at ha
    have h2 : Bind.checkArgs "object.__eq__" sig ⟨.ref x :: [b], []⟩ = pure () := ha
    show wpAny _ _ (Bind.checkArgs "object.__eq__" sig ⟨.ref x :: [b], []⟩) R E _
    rw [h2]; exact wpAny_pure hq
/-- x.__eq__(y) by object's: what its entry answers -/
theorem try_obj {Q : Option Value → Shared → Prop} {r : Value} (X : K.In s.heap) (I : InstAt s.heap x ox C od) (hn : findIn K (.ref C) "__eq__" = some (some (.builtin "object.__eq__"))) (hm : mroIn K C (.type "object") = some true)
    (body : wpAny (model prog w) A.in1 (Builtin.«object.__eq__» ⟨[.ref x, b], []⟩) (fun fin s' => fin = .done (.ret r) ∧ s' = s) E s)
    (h : Q (match r with | .notImplemented => none | v => some v) s) : wpAny (model prog w) A (tryCompare (.ref x) "__eq__" b) Q E s := by
  have fin : wpAny (model prog w) A (call (.builtin "object.__eq__") ([.ref x] ++ [b]) >>= fun v => pure (some v)) (fun v s' => v = some r ∧ s' = s) E s := by
    refine wpAny_bind (wpAny_call (codeAny_call_builtin F.cmp_object.eq.plain F.cmpEntry_eq (chk_eq X I hm (wpAny_mono body (fun fin s' z => ?_) fun _ _ e => e))))
    obtain ⟨rfl, rfl⟩ := z
    first | exact wpAny_pure ⟨rfl, rfl⟩ | exact ⟨rfl, rfl⟩
  unfold tryCompare
  refine wpAny_bind ?_
  simp only [callSpecialIfBound?, bindSpecialIfBound?]
  refine wpAny_holding (wpAny_bind (wpAny_bind (wpAny_bind (I.type.here ((looks_findIn X hn).here ?_)))))
  simp only [F.cmp_object.eq.bind]
  refine wpAny_bind (wpAny_askSetting (wpAny_ite ?_))
  have fin2 := wpAny_mono fin (Q' := fun v s' => wpAny (model prog w) A (match v with | some .notImplemented | none => pure none | some v => pure (some v)) Q E s') (fun v s' z => by
    obtain ⟨rfl, rfl⟩ := z
    cases r <;> exact wpAny_pure h) fun _ _ e => e
  split
  · exact wpAny_bind (wpAny_pure (wpAny_pure fin2))
  · exact wpAny_tryCatch (wpAny_bind (wpAny_pure (wpAny_pure fin2)))
/-- x == y by object's, both of one class -/
theorem rc_obj {Q : Value → Shared → Prop} {oy : Obj} (hu : A.units < cLine) (X : K.In s.heap) (I : InstAt s.heap x ox C od) (J : InstAt s.heap y oy C oe) (hn : findIn K (.ref C) "__eq__" = some (some (.builtin "object.__eq__"))) (hm : mroIn K C (.type "object") = some true)
    (h : Q (.bool (decide (x = y))) s) : wpAny (model prog w) A (richCompare .Eq (.ref x) (.ref y)) Q E s := by
  unfold richCompare
  simp only [oneThing_ref]
  refine wpAny_holding (wpAny_bind (wpAny_cRoomFor hu ?_))
  refine wpAny_bind (I.type.here (wpAny_bind (J.type.here ?_)))
  rw [if_neg (by simp)]
  refine wpAny_bind (wpAny_pure ?_)
  simp only [Bool.false_eq_true, if_false]
  by_cases e : x = y
  · subst e
    rw [decide_eq_true rfl] at h
    exact wpAny_bind (try_obj (r := .bool true) X I hn hm (objEq_entry_same ⟨rfl, rfl⟩) (wpAny_pure h))
  · rw [decide_eq_false e] at h
    have tx : ox.cls ≠ .type "tuple" := by rw [I.cls]; exact fun z => nomatch z
    have ty : oy.cls ≠ .type "tuple" := by rw [J.cls]; exact fun z => nomatch z
    refine wpAny_bind (try_obj (r := .notImplemented) X I hn hm (objEq_entry_other e I.at_ J.at_ tx ⟨rfl, rfl⟩) ?_)
    simp only [Bool.not_false, if_true]
    refine wpAny_bind (try_obj (r := .notImplemented) X J hn hm (objEq_entry_other (fun z => e z.symm) J.at_ I.at_ ty ⟨rfl, rfl⟩) ?_)
    refine wpAny_bind (m := rule _) (wpAny_rule ?_)
    refine wpAny_bind (wpAny_isSame_ref_other e I.at_ J.at_ tx ?_)
    exact wpAny_pure h
end
section
open L2
variable {X : Cx}
/-- a == b, instances of one class that says nothing of == -/
theorem own_same {C : Addr} (hu : X.A.units < cLine) (hn : PySem.W.findIn X.K (.ref C) "__eq__" = some (some (.builtin "object.__eq__"))) (hm : PySem.W.mroIn X.K C (.type "object") = some true) :
    OpR X (compareOp .Eq) (fun x y H Q => ∃ a b dx dy fs gs, x = .ref a ∧ y = .ref b ∧ H a = some (.ins C dx fs) ∧ H b = some (.ins C dy gs) ∧ Q (.bl (decide (a = b))) H) := by
  intro pins s σ H x y v u Q I rx ry q
  obtain ⟨a, b, dx, dy, fs, gs, rfl, rfl, ha, hb, q⟩ := q
  cases rx
  cases ry
  obtain ⟨mA, O, _⟩ := ins_get I.hok ha
  obtain ⟨mB, O2, _⟩ := ins_get I.hok hb
  obtain ⟨od, J, _⟩ := O.look
  obtain ⟨od2, J2, _⟩ := O2.look
  show wpAny (model X.prog X.w) X.A (richCompare .Eq _ _) (EP X pins σ Q) X.xe s
  exact rc_obj hu I.kIn J J2 hn hm ⟨.bl (decide (a = b)), H, I, rfl, q⟩
end
end NB

set_option Elab.async false
set_option linter.all false
set_option maxRecDepth 100000
/-! B12: repr of a text -/
namespace NB
open PySem PySem.Spec PyProof.Rows L2
section
variable {X : Cx}
theorem call_reprS : CallR X (.builtin "repr") (fun xs H Q => ∃ z, xs = [.str z] ∧ (reprText z).length ≤ sizeLine ∧ Q (.str (reprText z)) H) := by
  intro pins s σ H xs us Q I r h
  obtain ⟨z, rfl, hz, q⟩ := h
  obtain ⟨u, rfl, t, rfl⟩ := vals1 r
  exact PySem.P.repr_of_str ⟨.str _, H, I.tok _, ⟨_, rfl⟩, q⟩ hz
end
end NB

set_option Elab.async false
set_option linter.all false
set_option maxRecDepth 100000
/-! B13: kinds of things under Ext and under a list's change -/
namespace NB
open PySem PySem.Spec L2
section
variable {H H' : Hp} {K : PySem.W.Frag}
theorem TyOf.ext {x : V} {t : Value} (h : TyOf K H x t) (e : Ext H H') : TyOf K H' x t := by
  cases h with
  | non => exact .non
  | bl x => exact .bl x
  | int i => exact .int i
  | str x => exact .str x
  | flt x => exact .flt x
  | lst h => exact .lst (e _ _ h)
  | frz h => exact .frz (e _ _ h)
  | tup h => exact .tup (e _ _ h)
  | dK h => exact .dK (e _ _ h)
  | dT h => exact .dT (e _ _ h)
  | ins h c1 c2 c3 c4 c5 => exact .ins (e _ _ h) c1 c2 c3 c4 c5
theorem TyX.ext {x : V} {t : Value} (h : TyX K H x t) (e : Ext H H') : TyX K H' x t := by
  cases h with
  | base h => exact .base (TyOf.ext h e)
  | byt b => exact .byt b
  | set h => exact .set (e _ _ h)
  | kList h c => exact .kList h c
  | kTuple h c => exact .kTuple h c
  | kDict h c => exact .kDict h c
  | fTuple h => exact .fTuple (e _ _ h)
  | fDict h => exact .fDict (e _ _ h)
variable {o : Addr} {ys zs : List V}
theorem upd_lst {c : Addr} {u : HO} (ho : H o = some (.lst ys)) (h : H c = some u) (n : ∀ z, u ≠ .lst z) : upd H o (.lst zs) c = some u := by
  rw [upd_ne (ne_of h ho (n ys))]; exact h
theorem TyOf.updL {x : V} {t : Value} (ho : H o = some (.lst ys)) (h : TyOf K H x t) : TyOf K (upd H o (.lst zs)) x t := by
  cases h with
  | non => exact .non
  | bl x => exact .bl x
  | int i => exact .int i
  | str x => exact .str x
  | flt x => exact .flt x
  | @lst c vs h =>
    by_cases e : c = o
    · subst e; exact .lst upd_same
    · exact .lst (by rw [upd_ne e]; exact h)
  | frz h => exact .frz (upd_lst ho h (fun _ z => nomatch z))
  | tup h => exact .tup (upd_lst ho h (fun _ z => nomatch z))
  | dK h => exact .dK (upd_lst ho h (fun _ z => nomatch z))
  | dT h => exact .dT (upd_lst ho h (fun _ z => nomatch z))
  | ins h c1 c2 c3 c4 c5 => exact .ins (upd_lst ho h (fun _ z => nomatch z)) c1 c2 c3 c4 c5
theorem TyX.updL {x : V} {t : Value} (ho : H o = some (.lst ys)) (h : TyX K H x t) : TyX K (upd H o (.lst zs)) x t := by
  cases h with
  | base h => exact .base (TyOf.updL ho h)
  | byt b => exact .byt b
  | set h => exact .set (upd_lst ho h (fun _ z => nomatch z))
  | kList h c => exact .kList h c
  | kTuple h c => exact .kTuple h c
  | kDict h c => exact .kDict h c
  | fTuple h => exact .fTuple (upd_lst ho h (fun _ z => nomatch z))
  | fDict h => exact .fDict (upd_lst ho h (fun _ z => nomatch z))
end
end NB

set_option Elab.async false
set_option linter.all false
set_option maxRecDepth 100000
namespace NB
open PySem PySem.Spec PyProof.Rows L2 C8
def top (i : Nat) : Stmt := PySem.Challenge.pw_numberbooks_k29_logs_that_histories_show.main.body.getD i (.Pass ⟨0, 0, 0, 0⟩)
abbrev s_is_integer : Stmt := top 16
theorem sc_is_integer : FnScope ["thing"] ["thing"] (fnScope s_is_integer) := fnScope_by (by decide +kernel)
abbrev s_is_size : Stmt := top 17
theorem sc_is_size : FnScope ["thing"] ["thing"] (fnScope s_is_size) := fnScope_by (by decide +kernel)
abbrev s_is_name : Stmt := top 18
theorem sc_is_name : FnScope ["thing", "letter"] ["thing"] (fnScope s_is_name) := fnScope_by (by decide +kernel)
abbrev s_are_servers : Stmt := top 19
theorem sc_are_servers : FnScope ["thing", "name"] ["thing"] (fnScope s_are_servers) := fnScope_by (by decide +kernel)
abbrev s_is_server : Stmt := top 20
theorem sc_is_server : FnScope ["servers", "thing"] ["servers", "thing"] (fnScope s_is_server) := fnScope_by (by decide +kernel)
abbrev s_is_entry : Stmt := top 21
theorem sc_is_entry : FnScope ["servers", "thing"] ["servers", "thing"] (fnScope s_is_entry) := fnScope_by (by decide +kernel)
abbrev s_are_entries : Stmt := top 22
theorem sc_are_entries : FnScope ["servers", "thing", "entry"] ["servers", "thing"] (fnScope s_are_entries) := fnScope_by (by decide +kernel)
abbrev s_Log___init__ : Stmt := inClass (top 23) 1
theorem sc_Log___init__ : FnScope ["self", "size", "servers", "entries"] ["self", "size", "servers", "entries"] (fnScope s_Log___init__) := fnScope_by (by decide +kernel)
abbrev s_Log_size : Stmt := inClass (top 23) 2
theorem sc_Log_size : FnScope ["self"] ["self"] (fnScope s_Log_size) := fnScope_by (by decide +kernel)
abbrev s_Log_servers : Stmt := inClass (top 23) 3
theorem sc_Log_servers : FnScope ["self"] ["self"] (fnScope s_Log_servers) := fnScope_by (by decide +kernel)
abbrev s_Log_entries : Stmt := inClass (top 23) 4
theorem sc_Log_entries : FnScope ["self"] ["self"] (fnScope s_Log_entries) := fnScope_by (by decide +kernel)
abbrev s_Log___len__ : Stmt := inClass (top 23) 5
theorem sc_Log___len__ : FnScope ["self"] ["self"] (fnScope s_Log___len__) := fnScope_by (by decide +kernel)
abbrev s_Log___eq__ : Stmt := inClass (top 23) 6
theorem sc_Log___eq__ : FnScope ["self", "other"] ["self", "other"] (fnScope s_Log___eq__) := fnScope_by (by decide +kernel)
abbrev s_Log___contains__ : Stmt := inClass (top 23) 7
theorem sc_Log___contains__ : FnScope ["self", "thing"] ["self", "thing"] (fnScope s_Log___contains__) := fnScope_by (by decide +kernel)
abbrev s_Log___add__ : Stmt := inClass (top 23) 8
theorem sc_Log___add__ : FnScope ["self", "other", "entries"] ["self", "other"] (fnScope s_Log___add__) := fnScope_by (by decide +kernel)
abbrev s_Log_front : Stmt := inClass (top 23) 10
theorem sc_Log_front : FnScope ["self", "count"] ["self", "count"] (fnScope s_Log_front) := fnScope_by (by decide +kernel)
abbrev s_log_of : Stmt := top 25
theorem sc_log_of : FnScope ["kind", "size", "servers", "entries"] ["kind", "size", "servers", "entries"] (fnScope s_log_of) := fnScope_by (by decide +kernel)
abbrev s_Desk___init__ : Stmt := inClass (top 30) 0
theorem sc_Desk___init__ : FnScope ["self", "size", "servers", "name"] ["self", "size", "servers"] (fnScope s_Desk___init__) := fnScope_by (by decide +kernel)
abbrev s_Desk_take : Stmt := inClass (top 30) 1
theorem sc_Desk_take : FnScope ["self", "name"] ["self", "name"] (fnScope s_Desk_take) := fnScope_by (by decide +kernel)
abbrev s_Desk_use : Stmt := inClass (top 30) 2
theorem sc_Desk_use : FnScope ["self", "name"] ["self", "name"] (fnScope s_Desk_use) := fnScope_by (by decide +kernel)
abbrev s_Desk_play : Stmt := inClass (top 30) 3
theorem sc_Desk_play : FnScope ["self", "event"] ["self", "event"] (fnScope s_Desk_play) := fnScope_by (by decide +kernel)
abbrev s_History___init__ : Stmt := inClass (top 31) 0
theorem sc_History___init__ : FnScope ["self", "size", "servers", "events", "event"] ["self", "size", "servers", "events"] (fnScope s_History___init__) := fnScope_by (by decide +kernel)
abbrev s_History_size : Stmt := inClass (top 31) 1
theorem sc_History_size : FnScope ["self"] ["self"] (fnScope s_History_size) := fnScope_by (by decide +kernel)
abbrev s_History_servers : Stmt := inClass (top 31) 2
theorem sc_History_servers : FnScope ["self"] ["self"] (fnScope s_History_servers) := fnScope_by (by decide +kernel)
abbrev s_History_events : Stmt := inClass (top 31) 3
theorem sc_History_events : FnScope ["self"] ["self"] (fnScope s_History_events) := fnScope_by (by decide +kernel)
abbrev s_History___call__ : Stmt := inClass (top 31) 6
theorem sc_History___call__ : FnScope ["self", "thing", "awaited", "seen", "use"] ["self", "thing"] (fnScope s_History___call__) := fnScope_by (by decide +kernel)
abbrev s__law_tape : Stmt := top 33
theorem sc__law_tape : FnScope ["script", "k", "cell_here"] ["script", "k"] (fnScope s__law_tape) := fnScope_by (by decide +kernel)
abbrev s__law_next : Stmt := top 34
theorem sc__law_next : FnScope ["tape", "many", "digit", "mixed"] ["tape", "many"] (fnScope s__law_next) := fnScope_by (by decide +kernel)
abbrev s__law_names : Stmt := top 35
theorem sc__law_names : FnScope ["tape", "most", "left", "turn"] ["tape", "most"] (fnScope s__law_names) := fnScope_by (by decide +kernel)
abbrev s__law_played : Stmt := top 36
theorem sc__law_played : FnScope ["wide", "names", "steps_here", "left", "upcoming", "owners_here", "uses_here", "name", "step"] ["wide", "names", "steps_here"] (fnScope s__law_played) := fnScope_by (by decide +kernel)
abbrev s__law_events : Stmt := top 37
theorem sc__law_events : FnScope ["tape", "wide", "names", "most", "left", "found", "name", "turn", "many"] ["tape", "wide", "names", "most"] (fnScope s__law_events) := fnScope_by (by decide +kernel)
abbrev s__law_is_shown : Stmt := top 38
theorem sc__law_is_shown : FnScope ["uses_here", "rows", "place", "pair"] ["uses_here", "rows"] (fnScope s__law_is_shown) := fnScope_by (by decide +kernel)
abbrev s__law_rows : Stmt := top 39
theorem sc__law_rows : FnScope ["tape", "names", "wide", "uses_here", "rate", "rows", "pair", "way", "spot", "front", "rest"] ["tape", "names", "wide", "uses_here"] (fnScope s__law_rows) := fnScope_by (by decide +kernel)
abbrev s__law_right : Stmt := top 40
theorem sc__law_right : FnScope ["tape", "wide", "names", "steps_here", "story", "uses_here", "turn", "rows", "due", "told", "some", "one", "other"] ["tape", "wide", "names"] (fnScope s__law_right) := fnScope_by (by decide +kernel)
abbrev s_law : Stmt := top 41
theorem sc_law : FnScope ["script", "k", "tape", "turn", "wide", "story", "told", "rows"] ["script"] (fnScope s_law) := fnScope_by (by decide +kernel)
end NB

set_option Elab.async false
set_option linter.all false
set_option maxRecDepth 100000
set_option maxHeartbeats 4000000
/-! K1: the defs of numberbooks.logs -/
namespace NB
open PySem PySem.Spec L2
open PyProof.Rows (envOfC)
open C8 (pe_c pe_mk pe_mt pe_mt0 pe_gc fnScope fnBody fnArgs fnScope_by Cal Met Mak)

theorem kt_str_str {K : PySem.W.Frag} : PySem.W.kitOne K (.type "str") (.type "str") = some true := kit_ty (by decide +kernel)
theorem kt_list_list {K : PySem.W.Frag} : PySem.W.kitOne K (.type "list") (.type "list") = some true := kit_ty (by decide +kernel)
theorem kt_tup_tup {K : PySem.W.Frag} : PySem.W.kitOne K (.type "tuple") (.type "tuple") = some true := kit_ty (by decide +kernel)
theorem kt_int_int {K : PySem.W.Frag} : PySem.W.kitOne K (.type "int") (.type "int") = some true := kit_ty (by decide +kernel)
theorem kt_int_bool {K : PySem.W.Frag} : PySem.W.kitOne K (.type "int") (.type "bool") = some false := kit_ty (by decide +kernel)
theorem kt_bool_int {K : PySem.W.Frag} : PySem.W.kitOne K (.type "bool") (.type "int") = some true := kit_ty (by decide +kernel)
theorem kt_bool_bool {K : PySem.W.Frag} : PySem.W.kitOne K (.type "bool") (.type "bool") = some true := kit_ty (by decide +kernel)

/-! ### promises -/
def spInteger (K : PySem.W.Frag) : Sp := fun vs H Q _ => ∃ x b, vs = [x] ∧ IntJ K H x b ∧ Q (.bl b) H
def spSizeB : Sp := fun vs H Q _ => ∃ i, vs = [.int i] ∧ Q (.bl (decide (1 ≤ i) && decide (i ≤ 10 ^ 30))) H
def spName : Sp := fun vs H Q _ => ∃ z, vs = [.str z] ∧ nameB z = true ∧ ∀ H', Ext H H' → Q (.bl true) H'
def spCrew : Sp := fun vs H Q _ => ∃ a ns, vs = [.ref a] ∧ H a = some (.lst (ns.map V.str)) ∧ CrewOk ns ∧ ∀ H', Ext H H' → Q (.bl true) H'
def spServer (K : PySem.W.Frag) : Sp := fun vs H Q _ => ∃ a ns x b, vs = [.ref a, x] ∧ H a = some (.lst (ns.map V.str)) ∧ SrvJ K H ns x b ∧ Q (.bl b) H
def spEntry (K : PySem.W.Frag) : Sp := fun vs H Q _ => ∃ a ns x r, vs = [.ref a, x] ∧ H a = some (.lst (ns.map V.str)) ∧ Jd K H ns x r ∧ Q (.bl r.isSome) H
def spEntries : Sp := fun vs H Q _ => ∃ a ns l es xs, vs = [.ref a, .ref l] ∧ H a = some (.lst (ns.map V.str)) ∧ H l = some (.lst xs) ∧ EntL H es xs ∧ EntsOk ns es ∧ ∀ H', Ext H H' → Q (.bl true) H'
/-- __init__ with right arguments -/
def spInit (C : Addr) : Sp := fun vs H Q _ => ∃ p dx sz a ns l es xs, vs = [.ref p, .int sz, .ref a, .ref l] ∧ H p = some (.ins C dx []) ∧ H dx = some (.own p) ∧ SizeOk sz ∧ H a = some (.lst (ns.map V.str)) ∧ CrewOk ns ∧ H l = some (.lst xs) ∧ EntL H es xs ∧ EntsOk ns es ∧
  ∀ H' ls le, H ls = none → H le = none → H' p = some (.ins C dx (lf sz ls le)) → H' ls = some (.lst (ns.map V.str)) → H' le = some (.lst xs) → Frm [p] H H' → Q .non H'

section
variable {P : Program} {w : World} {K : PySem.W.Frag} {mg : Str → Option Value} {base : Heap} {cL cX : Addr}
theorem ok_is_integer (T : Tx K mg cL cX) (D : Dx K mg "is_integer" s_is_integer ["thing"]) : Cal P w K mg base 1 "is_integer" (spInteger K) [] := by
  refine cal_of D sc_is_integer (fun vs H Q E h => ?_) (fun f cdv A o s H vs Q E hr h => ?_)
  · obtain ⟨x, b, rfl, _⟩ := h; rfl
  · obtain ⟨x, b, rfl, j, k⟩ := h
    refine ⟨_, (pss_one (ps_ret (pe_and (pe_callB call_isi (by rfl) T.n_isinstance (by decide +kernel) (pa_cons (mv 0) (pa_cons (pe_bltn (v := .ty "int") (u := .type "int") (by rfl) T.n_int (by decide +kernel) rfl) pa_nil))) (pe_one (pe_not (pe_callB call_isi (by rfl) T.n_isinstance (by decide +kernel) (pa_cons (mv 0) (pa_cons (pe_bltn (v := .ty "bool") (u := .type "bool") (by rfl) T.n_bool (by decide +kernel) rfl) pa_nil)))))))), ?_⟩
    cases j with
    | int i =>
      refine ⟨_, _, _, _, _, rfl, .ty _, .base (.int i), kt_int_int, _, rfl, ifT (by rfl) ?_⟩
      exact ⟨_, _, _, _, _, rfl, .ty _, .base (.int i), kt_int_bool, _, rfl, k⟩
    | bl c =>
      refine ⟨_, _, _, _, _, rfl, .ty _, .base (.bl c), kt_bool_int, _, rfl, ifT (by rfl) ?_⟩
      exact ⟨_, _, _, _, _, rfl, .ty _, .base (.bl c), kt_bool_bool, _, rfl, k⟩
    | kind ty e => exact ⟨_, _, _, _, _, rfl, .ty _, ty, e, _, rfl, ifF (by rfl) k⟩

theorem ok_is_size (T : Tx K mg cL cX) (D : Dx K mg "is_size" s_is_size ["thing"]) (c_is_integer : Cal P w K mg base 1 "is_integer" (spInteger K) []) : Cal P w K mg base 2 "is_size" spSizeB [] := by
  refine cal_of D sc_is_size (fun vs H Q E h => ?_) (fun f cdv A o s H vs Q E hr h => ?_)
  · obtain ⟨i, rfl, _⟩ := h; rfl
  · obtain ⟨i, rfl, k⟩ := h
    refine ⟨_, (pss_one (ps_ret (pe_and (pe_c c_is_integer hr (by decide) rfl (pa_cons (mv 0) pa_nil)) (pe_one (pe_chain m_le m_le pe_int (mv 0) (pe_gc rfl T.g_GREATEST_SIZE)))))), ?_⟩
    refine ⟨_, _, rfl, .int i, _, rfl, ifT (by rfl) ?_⟩
    refine ⟨_, rfl, ?_⟩
    by_cases h : 1 ≤ i
    · rw [decide_eq_true h] at k ⊢
      exact ifT (by rfl) k
    · rw [decide_eq_false h] at k ⊢
      exact ifF (by rfl) k

theorem lett_in {c : Nat} (h : 97 ≤ c ∧ c ≤ 122) : (!(Builtin.Str.occurrences LETT ⟨#[c]⟩ 0 LETT.length 1).isEmpty) = true := by
  have e : LETT = SX.S [97, 98, 99, 100, 101, 102, 103, 104, 105, 106, 107, 108, 109, 110, 111, 112, 113, 114, 115, 116, 117, 118, 119, 120, 121, 122] := by decide +kernel
  rw [e]
  refine (SX.in_one _ c).trans (decide_eq_true ?_)
  obtain ⟨h1, h2⟩ := h
  have : c = 97 ∨ c = 98 ∨ c = 99 ∨ c = 100 ∨ c = 101 ∨ c = 102 ∨ c = 103 ∨ c = 104 ∨ c = 105 ∨ c = 106 ∨ c = 107 ∨ c = 108 ∨ c = 109 ∨ c = 110 ∨ c = 111 ∨ c = 112 ∨ c = 113 ∨ c = 114 ∨ c = 115 ∨ c = 116 ∨ c = 117 ∨ c = 118 ∨ c = 119 ∨ c = 120 ∨ c = 121 ∨ c = 122 := by omega
  simp only [List.mem_cons, List.not_mem_nil, or_false]
  exact this

theorem all_true (n : Nat) : (List.replicate n true).all id = true := by
  rw [List.all_replicate]; simp
theorem rep_more (n : Nat) : (List.replicate n true).map V.bl ++ [V.bl true] = (List.replicate (n + 1) true).map V.bl := by
  rw [List.replicate_succ', List.map_append]; rfl
theorem goY {σ : L2.St} {H : Hp} {Q : Bool → Hp → Prop} (h : Q true H) : tYes σ H Q := h
/-- what a comprehension of Trues keeps -/
def Trues (H0 : Hp) (D : Addr) (i : Nat) (H : Hp) : Prop := Ext H0 H ∧ H D = some (.lst ((List.replicate i true).map V.bl))
theorem Trues.next {H0 H : Hp} {D : Addr} {i : Nat} (h : Trues H0 D i H) (hD : H0 D = none) : Trues H0 D (i + 1) (upd H D (.lst ((List.replicate i true).map V.bl ++ [V.bl true]))) := by
  refine ⟨fun a o e => ?_, ?_⟩
  · rw [upd_ne (ne_of_none e hD)]; exact h.1 a o e
  · rw [upd_same, rep_more]
theorem Trues.zero {H0 : Hp} {D : Addr} (hD : H0 D = none) : Trues H0 D 0 (upd H0 D (.lst [])) := ⟨Ext.upd hD, upd_same⟩

theorem ok_is_name (T : Tx K mg cL cX) (D : Dx K mg "is_name" s_is_name ["thing"]) : Cal P w K mg base 1 "is_name" spName [] := by
  refine cal_of D sc_is_name (fun vs H Q E h => ?_) (fun f cdv A o s H vs Q E hr h => ?_)
  · obtain ⟨z, rfl, _⟩ := h; rfl
  · obtain ⟨z, rfl, hz, k⟩ := h
    unfold nameB at hz
    simp only [Bool.and_eq_true, decide_eq_true_eq] at hz
    obtain ⟨⟨h1, h2⟩, h3⟩ := hz
    have hl : z.length ≤ sizeLine := Nat.le_trans h2 (by decide)
    have e1 : (1 : Int) ≤ (z.length : Int) := by omega
    have e2 : (z.length : Int) ≤ 8 := by omega
    refine ⟨_, (pss_cons (ps_if (PW.pt (pw_or (pt_not (qv (pe_callB call_isi (by rfl) T.n_isinstance (by decide +kernel) (pa_cons (mv 0) (pa_cons (pe_bltn (v := .ty "str") (u := .type "str") (by rfl) T.n_str (by decide +kernel) rfl) pa_nil))))) (pw_or1 (pt_not (pt_chain m_le m_le pe_int (pe_callB call_len (by rfl) T.n_len (by decide +kernel) (pa_cons (mv 0) pa_nil)) (pe_gc rfl T.g_MOST_LETTERS)))))) (pss_one (ps_ret pe_bl)) pss_nil)
    (pss_one (ps_ret (pe_callB (cr_all rfl) (by rfl) T.n_all (by decide +kernel) (pa_cons (pe_lc (own := [("letter", 1)]) (g := gName 1) (tt := tYes) rfl sc_is_name.nd (pi_str (mv 0)) (blkOk_by (own := [("letter", 1)]) (N := ["thing", "letter"]) (sc := fnScope s_is_name) (by decide +kernel)) (fun _ _ _ _ _ => (pg_name (i := 1) sc_is_name.nd rfl (Or.inl rfl))) (fun _ _ _ _ _ => pts_nil) (fun _ _ _ _ _ => (pe_cmpR op_in_str (mv 1) (pe_gc rfl T.g_LETTERS) (by rfl)))) pa_nil))))), ?_⟩
    refine ⟨_, _, _, _, _, rfl, .ty _, .base (.str z), kt_str_str, ifF (by rfl) ?_⟩
    refine ⟨_, _, rfl, ⟨hl, rfl⟩, _, rfl, ?_⟩
    rw [decide_eq_true e1]
    refine ifT (by rfl) ⟨_, rfl, ?_⟩
    rw [decide_eq_true e2]
    refine ifF (by rfl) ?_
    refine ⟨_, rfl, fun d hd => lc_txt (Trues H d) (Trues.zero hd) ?_ ?_⟩
    · intro i c H1 hc t
      have hc2 := List.all_eq_true.mp h3 c (List.mem_of_getElem? hc)
      simp only [Bool.and_eq_true, decide_eq_true_eq] at hc2
      have hi : i < z.length := by have := (List.getElem?_eq_some_iff.mp hc).1; simpa [Str.length] using this
      refine ⟨rfl, goY (ifT (by rfl) ⟨_, _, rfl, rfl, _, t.2, ?_, ?_⟩)⟩
      · rw [List.length_map, List.length_replicate]; omega
      · rw [lett_in hc2]
        exact t.next hd
    · intro H1 t
      exact ⟨_, _, rfl, SqL.of t.2, by rw [all_true]; exact k H1 t.1⟩

theorem map_at {α : Type} {f : α → V} {xs : List α} {i : Nat} {y : V} (h : (xs.map f)[i]? = some y) : ∃ x, xs[i]? = some x ∧ y = f x := by
  rw [List.getElem?_map] at h
  cases e : xs[i]? with
  | none => rw [e] at h; cases h
  | some x => rw [e] at h; exact ⟨x, rfl, (Option.some.inj h).symm⟩

theorem ok_are_servers (T : Tx K mg cL cX) (D : Dx K mg "are_servers" s_are_servers ["thing"]) (c_is_name : Cal P w K mg base 1 "is_name" spName []) : Cal P w K mg base 2 "are_servers" spCrew [] := by
  refine cal_of D sc_are_servers (fun vs H Q E h => ?_) (fun f cdv A o s H vs Q E hr h => ?_)
  · obtain ⟨a, ns, rfl, _⟩ := h; rfl
  · obtain ⟨a, ns, rfl, ha, ok, k⟩ := h
    have e1 : (1 : Int) ≤ (ns.length : Int) := by have := ok.one; omega
    have e2 : (ns.length : Int) ≤ 12 := by have := ok.few; omega
    refine ⟨_, (pss_cons (ps_if (PW.pt (pw_or (pt_not (qv (pe_callB call_isi (by rfl) T.n_isinstance (by decide +kernel) (pa_cons (mv 0) (pa_cons (pe_bltn (v := .ty "list") (u := .type "list") (by rfl) T.n_list (by decide +kernel) rfl) pa_nil))))) (pw_or1 (pt_not (pt_chain m_le m_le pe_int (pe_callB call_len (by rfl) T.n_len (by decide +kernel) (pa_cons (mv 0) pa_nil)) (pe_gc rfl T.g_MOST_SERVERS)))))) (pss_one (ps_ret pe_bl)) pss_nil)
    (pss_one (ps_ret (pe_and (pe_callB (cr_all rfl) (by rfl) T.n_all (by decide +kernel) (pa_cons (pe_lc (own := [("name", 1)]) (g := gName 1) (tt := tYes) rfl sc_are_servers.nd (pi_list (mv 0)) (blkOk_by (own := [("name", 1)]) (N := ["thing", "name"]) (sc := fnScope s_are_servers) (by decide +kernel)) (fun _ _ _ _ _ => (pg_name (i := 1) sc_are_servers.nd rfl (Or.inl rfl))) (fun _ _ _ _ _ => pts_nil) (fun _ _ _ _ _ => (pe_c c_is_name hr (by decide) rfl (pa_cons (mv 1) pa_nil)))) pa_nil)) (pe_one (pe_cmpR m_eq (pe_lenSetS rfl (by rfl) T.n_len (by rfl) T.n_set (mv 0)) (pe_callB call_len (by rfl) T.n_len (by decide +kernel) (pa_cons (mv 0) pa_nil)) (nomark _))))))), ?_⟩
    refine ⟨_, _, _, _, _, rfl, .ty _, .base (.lst ha), kt_list_list, ifF (by rfl) ?_⟩
    refine ⟨_, _, rfl, .inl ⟨_, SqL.of ha, rfl⟩, _, rfl, ?_⟩
    rw [List.length_map, decide_eq_true e1]
    refine ifT (by rfl) ⟨_, rfl, ?_⟩
    rw [decide_eq_true e2]
    refine ifF (by rfl) ?_
    refine ⟨_, rfl, ⟨_, SqL.of ha⟩, fun d hd => lc_list (K := K) (a := a) (xs := ns.map V.str) (Trues H d) (Trues.zero hd) (fun i H1 _ t => SqL.of (t.1 _ _ ha)) ?_ ?_⟩
    · intro i y H1 hy t
      obtain ⟨z, hz, rfl⟩ := map_at hy
      have hi : i < ns.length := (List.getElem?_eq_some_iff.mp hz).1
      refine ⟨rfl, goY (ifT (by rfl) ?_)⟩
      refine ⟨z, rfl, ok.nam z (List.mem_of_getElem? hz), fun H2 x => ⟨_, x _ _ t.2, ?_, ?_⟩⟩
      · rw [List.length_map, List.length_replicate]
        exact Nat.lt_of_lt_of_le hi (Nat.le_trans ok.few (by decide))
      · exact Trues.next ⟨t.1.trans x, x _ _ t.2⟩ hd
    · intro H1 t
      refine ⟨_, _, rfl, SqL.of t.2, ?_⟩
      rw [all_true]
      refine ⟨_, rfl, ifT (by rfl) ?_⟩
      refine ⟨a, ns, rfl, SqL.of (t.1 _ _ ha), Nat.le_trans ok.few (by decide), ok.nd, ?_⟩
      refine ⟨_, _, rfl, .inl ⟨_, SqL.of (t.1 _ _ ha), rfl⟩, ?_⟩
      rw [List.length_map]
      show Q (.bl (decide ((ns.length : Int) = (ns.length : Int)))) H1
      rw [decide_eq_true rfl]
      exact k H1 t.1

theorem inV_str (z : Str) : ∀ ns : List Str, inV (.str z) (ns.map V.str) = decide (z ∈ ns)
  | [] => rfl
  | y :: ns => by
    have ih := inV_str z ns
    unfold inV at ih ⊢
    rw [List.map_cons, List.any_cons, ih]
    have e : eqV (.str y) (.str z) = decide (y = z) := by
      unfold eqV
      by_cases h : y = z
      · subst h; simp
      · simp [h]
    rw [e, Bool.eq_iff_iff]
    simp only [Bool.or_eq_true, decide_eq_true_eq, List.mem_cons]
    exact ⟨fun q => q.elim (fun q => .inl q.symm) .inr, fun q => q.elim (fun q => .inl q.symm) .inr⟩
theorem flat_strs (ns : List Str) : (ns.map V.str).all flatV = true := by
  rw [List.all_map, List.all_eq_true]; intro z _; rfl

theorem ok_is_server (T : Tx K mg cL cX) (D : Dx K mg "is_server" s_is_server ["servers", "thing"]) : Cal P w K mg base 1 "is_server" (spServer K) [] := by
  refine cal_of D sc_is_server (fun vs H Q E h => ?_) (fun f cdv A o s H vs Q E hr h => ?_)
  · obtain ⟨a, ns, x, b, rfl, _⟩ := h; rfl
  · obtain ⟨a, ns, x, b, rfl, ha, j, k⟩ := h
    refine ⟨_, (pss_one (ps_ret (pe_and (pe_callB call_isi (by rfl) T.n_isinstance (by decide +kernel) (pa_cons (mv 1) (pa_cons (pe_bltn (v := .ty "str") (u := .type "str") (by rfl) T.n_str (by decide +kernel) rfl) pa_nil))) (pe_one (pe_cmpR op_in_seq (mv 1) (mv 0) (by rfl)))))), ?_⟩
    cases j with
    | str z =>
      refine ⟨_, _, _, _, _, rfl, .ty _, .base (.str z), kt_str_str, _, rfl, ifT (by rfl) ?_⟩
      refine ⟨_, _, rfl, .inl (SqL.of ha), rfl, flat_strs _, ?_⟩
      rw [inV_str]
      exact k
    | kind ty e => exact ⟨_, _, _, _, _, rfl, .ty _, ty, e, _, rfl, ifF (by rfl) k⟩

theorem ok_is_entry (T : Tx K mg cL cX) (D : Dx K mg "is_entry" s_is_entry ["servers", "thing"]) (c_is_server : Cal P w K mg base 1 "is_server" (spServer K) []) (c_is_integer : Cal P w K mg base 1 "is_integer" (spInteger K) []) :
    Cal P w K mg base 2 "is_entry" (spEntry K) [] := by
  refine cal_of D sc_is_entry (fun vs H Q E h => ?_) (fun f cdv A o s H vs Q E hr h => ?_)
  · obtain ⟨a, ns, x, r, rfl, _⟩ := h; rfl
  · obtain ⟨a, ns, x, r, rfl, ha, j, k⟩ := h
    refine ⟨_, (pss_cons (ps_if (PW.pt (pw_or (pt_not (qv (pe_callB call_isi (by rfl) T.n_isinstance (by decide +kernel) (pa_cons (mv 1) (pa_cons (pe_bltn (v := .ty "tuple") (u := .type "tuple") (by rfl) T.n_tuple (by decide +kernel) rfl) pa_nil))))) (pw_or1 (qt m_ne (pe_callB call_len (by rfl) T.n_len (by decide +kernel) (pa_cons (mv 1) pa_nil)) pe_int (nomark _))))) (pss_one (ps_ret pe_bl)) pss_nil)
    (pss_one (ps_ret (pe_and (pe_c c_is_server hr (by decide) rfl (pa_cons (mv 0) (pa_cons (pe_ix m_ix (mv 1) pe_int (fun _ _ => rfl)) pa_nil))) (pe_and (pe_c c_is_integer hr (by decide) rfl (pa_cons (pe_ix m_ix (mv 1) pe_int (fun _ _ => rfl)) pa_nil)) (pe_one (pe_cmpR m_ge (pe_ix m_ix (mv 1) pe_int (fun _ _ => rfl)) pe_int (nomark _)))))))), ?_⟩
    have two : ∀ {p : Addr} {x y : V}, H p = some (.tup [x, y]) → ∀ {b : Bool}, SrvJ K H ns x b → (b = true → ∃ c, IntJ K H y c ∧ (c = true → ∃ i, y = .int i ∧ Q (.bl (decide (0 ≤ i))) H) ∧ (c = false → Q (.bl false) H)) → (b = false → Q (.bl false) H) →
        tIfS (tOr (tNot (mT (tCB (rIsi K) (tCons (mV 1) (tCons (tC (.ty "tuple")) tNil))))) (mT (tOp (mEqG fun b => !b) (tCB (fun xs H Q => ∃ x n, xs = [x] ∧ LenV K x H n ∧ Q (.int n) H) (tCons (mV 1) tNil)) (tC (.int 2)))))
          (tRet (tC (.bl false))) tNext { nx := fun _ H' => tRet (tAndV (tCall (spServer K) [] C8.E0 (tCons (mV 0) (tCons (tOp (mIx K) (mV 1) (tC (.int 0))) tNil)))
            (tAndV (tCall (spInteger K) [] C8.E0 (tCons (tOp (mIx K) (mV 1) (tC (.int 1))) tNil)) (tOp (mI0 fun i j => .bl (decide (j ≤ i))) (tOp (mIx K) (mV 1) (tC (.int 1))) (tC (.int 0))))) { nx := fun _ H' => Q .non H', rt := Q } [some (.ref a), some (.ref p)] H', rt := Q } [some (.ref a), some (.ref p)] H := by
      intro p x y hp b js h1 h2
      refine ⟨_, _, _, _, _, rfl, .ty _, .base (.tup hp), kt_tup_tup, ifF (by rfl) ?_⟩
      refine ⟨_, _, rfl, .inr ⟨_, SqT.of hp, rfl⟩, ?_⟩
      dsimp only [tC, mEqG, kB]
      refine ifF (by rfl) ?_
      refine ⟨_, _, .inr (SqT.of hp), atI_nat (j := 0) rfl, a, ns, _, b, rfl, ha, js, _, rfl, ?_⟩
      cases b with
      | false => exact ifF rfl (h2 rfl)
      | true =>
        refine ifT rfl ?_
        obtain ⟨c, jc, h3, h4⟩ := h1 rfl
        refine ⟨_, _, .inr (SqT.of hp), atI_nat (j := 1) rfl, _, c, rfl, jc, _, rfl, ?_⟩
        cases c with
        | false => exact ifF rfl (h4 rfl)
        | true =>
          refine ifT rfl ?_
          obtain ⟨i, rfl, q⟩ := h3 rfl
          exact ⟨_, _, .inr (SqT.of hp), atI_nat (j := 1) rfl, q⟩
    cases j with
    | kind ty e => exact ⟨_, _, _, _, _, rfl, .ty _, ty, e, ifT (by rfl) (ifT (by rfl) k)⟩
    | @size p xs hp hl =>
      refine ⟨_, _, _, _, _, rfl, .ty _, .base (.tup hp), kt_tup_tup, ifF (by rfl) ?_⟩
      refine ⟨_, _, rfl, .inr ⟨_, SqT.of hp, rfl⟩, ?_⟩
      have e : ¬ ((xs.length : Int) = 2) := by omega
      show if (!decide ((xs.length : Int) = 2)) = true then _ else _
      rw [decide_eq_false e]
      exact ifT (by rfl) k
    | srv hp js => exact two hp js (fun z => nomatch z) fun _ => k
    | num hp js ji => exact two hp js (fun _ => ⟨false, ji, (fun z => nomatch z), fun _ => k⟩) fun z => nomatch z
    | @neg p x i hp js hi => exact two hp js (fun _ => ⟨true, .int i, fun _ => ⟨i, rfl, by rw [decide_eq_false (by omega)]; exact k⟩, fun z => nomatch z⟩) fun z => nomatch z
    | @ok p z i hp hz hi =>
      have js : SrvJ K H ns (.str z) true := by have := SrvJ.str (K := K) (H := H) (ns := ns) z; rw [decide_eq_true hz] at this; exact this
      exact two hp js (fun _ => ⟨true, .int i, fun _ => ⟨i, rfl, by rw [decide_eq_true hi]; exact k⟩, fun z => nomatch z⟩) fun z => nomatch z

theorem EntL.at {H : Hp} : ∀ {es : List (Str × Int)} {vs : List V} {i : Nat} {v : V}, EntL H es vs → vs[i]? = some v → ∃ e, es[i]? = some e ∧ EntAt H e v
  | _, _, i, v, .nil, h => by simp at h
  | _, _, 0, v, .cons (a := e) r q, h => by simp at h; subst h; exact ⟨e, rfl, r⟩
  | _, _, i + 1, v, .cons r q, h => by
    obtain ⟨e, h1, h2⟩ := EntL.at q (i := i) (v := v) (by simpa using h)
    exact ⟨e, by simpa using h1, h2⟩
theorem EntL.len {H : Hp} {es : List (Str × Int)} {vs : List V} (h : EntL H es vs) : es.length = vs.length := Paired.length h

theorem ok_are_entries (T : Tx K mg cL cX) (D : Dx K mg "are_entries" s_are_entries ["servers", "thing"]) (c_is_entry : Cal P w K mg base 2 "is_entry" (spEntry K) []) : Cal P w K mg base 3 "are_entries" spEntries [] := by
  refine cal_of D sc_are_entries (fun vs H Q E h => ?_) (fun f cdv A o s H vs Q E hr h => ?_)
  · obtain ⟨a, ns, l, es, xs, rfl, _⟩ := h; rfl
  · obtain ⟨a, ns, l, es, xs, rfl, ha, hl, el, ok, k⟩ := h
    have hx : xs.length ≤ 200 := by rw [← el.len]; exact ok.few
    have e1 : ¬ (200 : Int) < (xs.length : Int) := by omega
    refine ⟨_, (pss_cons (ps_if (PW.pt (pw_or (pt_not (qv (pe_callB call_isi (by rfl) T.n_isinstance (by decide +kernel) (pa_cons (mv 1) (pa_cons (pe_bltn (v := .ty "list") (u := .type "list") (by rfl) T.n_list (by decide +kernel) rfl) pa_nil))))) (pw_or1 (qt m_gt (pe_callB call_len (by rfl) T.n_len (by decide +kernel) (pa_cons (mv 1) pa_nil)) (pe_gc rfl T.g_MOST_ENTRIES) (nomark _))))) (pss_one (ps_ret pe_bl)) pss_nil)
    (pss_one (ps_ret (pe_callB (cr_all rfl) (by rfl) T.n_all (by decide +kernel) (pa_cons (pe_lc (own := [("entry", 2)]) (g := gName 2) (tt := tYes) rfl sc_are_entries.nd (pi_list (mv 1)) (blkOk_by (own := [("entry", 2)]) (N := ["servers", "thing", "entry"]) (sc := fnScope s_are_entries) (by decide +kernel)) (fun _ _ _ _ _ => (pg_name (i := 2) sc_are_entries.nd rfl (Or.inl rfl))) (fun _ _ _ _ _ => pts_nil) (fun _ _ _ _ _ => (pe_c c_is_entry hr (by decide) rfl (pa_cons (mv 0) (pa_cons (mv 2) pa_nil))))) pa_nil))))), ?_⟩
    refine ⟨_, _, _, _, _, rfl, .ty _, .base (.lst hl), kt_list_list, ifF (by rfl) ?_⟩
    refine ⟨_, _, rfl, .inl ⟨_, SqL.of hl, rfl⟩, ?_⟩
    refine (show if decide ((200 : Int) < (xs.length : Int)) = true then _ else _ from ?_)
    rw [decide_eq_false e1]
    refine ifF rfl ?_
    refine ⟨_, rfl, ⟨_, SqL.of hl⟩, fun d hd => lc_list (K := K) (a := l) (xs := xs) (Trues H d) (Trues.zero hd) (fun i H1 _ t => SqL.of (t.1 _ _ hl)) ?_ ?_⟩
    · intro i y H1 hy t
      have hi : i < xs.length := (List.getElem?_eq_some_iff.mp hy).1
      obtain ⟨e, he, p, rfl, hp⟩ := el.at hy
      obtain ⟨m1, m2⟩ := ok.ok e (List.mem_of_getElem? he)
      refine ⟨rfl, goY (ifT (by rfl) ?_)⟩
      refine ⟨a, ns, _, _, rfl, t.1 _ _ ha, .ok (t.1 _ _ hp) m1 m2, _, t.2, ?_, ?_⟩
      · rw [List.length_map, List.length_replicate]
        exact Nat.lt_of_lt_of_le hi (Nat.le_trans hx (by decide))
      · exact t.next hd
    · intro H1 t
      refine ⟨_, _, rfl, SqL.of t.2, ?_⟩
      rw [all_true]
      exact k H1 t.1

/-- the class's facts for the class at C -/
theorem ok_init {kd : Str} (T : Tx K mg cL cX) {C : Addr} (L : LogC K C kd) {f : Addr} {fd : FuncData} (D : Mx K "__init__" "Log.__init__" s_Log___init__ ["self", "size", "servers", "entries"] f fd)
    (c_is_size : Cal P w K mg base 2 "is_size" spSizeB []) (c_are_servers : Cal P w K mg base 2 "are_servers" spCrew []) (c_are_entries : Cal P w K mg base 3 "are_entries" spEntries []) :
    FnOk P w K mg base C8.CX0 4 f fd ["self", "size", "servers", "entries"] (spInit C) := by
  refine fn_of' D sc_Log___init__ (fun vs H Q E h => ?_) (fun cdv A o s H vs Q E hr h => ?_)
  · obtain ⟨p, dx, sz, a, ns, l, es, xs, rfl, _⟩ := h; rfl
  · obtain ⟨p, dx, sz, a, ns, l, es, xs, rfl, hp, hdx, hsz, ha, cr, hl, el, ok, k⟩ := h
    refine ⟨_, (pss_cons (ps_if (pt_not (qv (pe_c c_is_size hr (by decide) rfl (pa_cons (mv 1) pa_nil)))) (pss_one ps_never) pss_nil)
    (pss_cons (ps_if (pt_not (qv (pe_c c_are_servers hr (by decide) rfl (pa_cons (mv 2) pa_nil)))) (pss_one ps_never) pss_nil)
    (pss_cons (ps_if (pt_not (qv (pe_c c_are_entries hr (by decide) rfl (pa_cons (mv 2) (pa_cons (mv 3) pa_nil))))) (pss_one ps_never) pss_nil)
    (pss_cons (ps_fld (mv 0) (mv 1) rfl)
    (pss_cons (ps_fld (mv 0) (pe_callTy call_list_of (by rfl) T.n_list (by decide +kernel) (pa_cons (mv 2) pa_nil)) rfl)
    (pss_one (ps_fld (mv 0) (pe_callTy call_list_of (by rfl) T.n_list (by decide +kernel) (pa_cons (mv 3) pa_nil)) rfl))))))), ?_⟩
    refine ⟨_, rfl, ?_⟩
    rw [decide_eq_true hsz.1, decide_eq_true hsz.2]
    refine ifF (by rfl) ?_
    refine ⟨a, ns, rfl, ha, cr, fun H1 x1 => ifF (by rfl) ?_⟩
    refine ⟨a, ns, l, es, xs, rfl, x1 _ _ ha, x1 _ _ hl, el.mono x1, ok, fun H2 x2 => ifF (by rfl) ?_⟩
    have x : Ext H H2 := x1.trans x2
    have apL : ∀ {b : Addr} {ys : List V}, H2 b = some (.lst ys) → b ≠ p := fun hb => ne_of hb (x _ _ hp) (by intro z; cases z)
    refine ⟨p, C, dx, _, rfl, x _ _ hp, L.cl, L.nS, (by show 0 < 1000; decide), ?_⟩
    refine ⟨a, _, rfl, .inl (SqL.of (by rw [upd_ne (apL (x _ _ ha))]; exact x _ _ ha)), fun ls nls => ?_⟩
    have p1 : p ≠ ls := ne_of_none upd_same nls
    refine ⟨p, C, dx, _, rfl, by rw [upd_ne p1]; exact upd_same, L.cl, L.nV, (by show 1 < 1000; decide), ?_⟩
    have nl1 : l ≠ ls := ne_of_none (by rw [upd_ne (apL (x _ _ hl))]; exact x _ _ hl) nls
    refine ⟨l, _, rfl, .inl (SqL.of (by rw [upd_ne (apL (x _ _ hl)), upd_ne nl1, upd_ne (apL (x _ _ hl))]; exact x _ _ hl)), fun le nle => ?_⟩
    have p2 : p ≠ le := ne_of_none upd_same nle
    refine ⟨p, C, dx, _, rfl, by rw [upd_ne p2]; exact upd_same, L.cl, L.nE, (by show 2 < 1000; decide), ?_⟩
    have nle1 : ls ≠ le := ne_of_none (o := .lst (ns.map V.str)) (by rw [upd_ne p1.symm]; exact upd_same) nle
    refine k _ ls le (Ext.free x (upd_none nls).2) (Ext.free x (upd_none (upd_none (upd_none nle).2).2).2) upd_same ?_ ?_ ?_
    · rw [upd_ne p1.symm, upd_ne nle1, upd_ne p1.symm]; exact upd_same
    · rw [upd_ne p2.symm]; exact upd_same
    · exact (((((Frm.ext x).upd mem1).new nls).upd mem1).new nle).upd mem1
end
end NB

set_option Elab.async false
set_option linter.all false
set_option maxRecDepth 100000
set_option maxHeartbeats 4000000
/-! K2: the methods of logs -/
namespace NB
open PySem PySem.Spec L2
open PyProof.Rows (envOfC)
open C8 (pe_c pe_mk pe_mt pe_mt0 pe_gc fnScope fnBody fnArgs fnScope_by Cal Met Mak)

def spSize (C : Addr) : Sp := fun vs H Q _ => ∃ p sz ns es, vs = [.ref p] ∧ LogAt C H p sz ns es ∧ Q (.int sz) H
def spServers (C : Addr) : Sp := fun vs H Q _ => ∃ p sz ns es, vs = [.ref p] ∧ LogAt C H p sz ns es ∧ ∀ l, H l = none → Q (.ref l) (upd H l (.lst (ns.map V.str)))
def spEntr (C : Addr) : Sp := fun vs H Q _ => ∃ p sz ns es, vs = [.ref p] ∧ LogAt C H p sz ns es ∧ ∀ l xs, H l = none → EntL H es xs → Q (.ref l) (upd H l (.lst xs))
def spLen (C : Addr) : Sp := fun vs H Q _ => ∃ p sz ns es, vs = [.ref p] ∧ LogAt C H p sz ns es ∧ Q (.int (es.length : Nat)) H
def spIn (K : PySem.W.Frag) (C : Addr) : Sp := fun vs H Q _ => ∃ p sz ns es x r, vs = [.ref p, x] ∧ LogAt C H p sz ns es ∧ EntsOk ns es ∧ (∀ z ∈ ns, nameB z = true) ∧ Jd K H ns x r ∧ Q (.bl (match r with | some e => decide (e ∈ es) | none => false)) H
/-- == of two logs -/
def spEqL (C C2 : Addr) (kd kd2 : Str) : Sp := fun vs H Q _ => ∃ p q sz ns es sz2 ns2 es2, vs = [.ref p, .ref q] ∧ LogAt C H p sz ns es ∧ LogAt C2 H q sz2 ns2 es2 ∧ EntsOk ns es ∧ (∀ z ∈ ns, nameB z = true) ∧ EntsOk ns2 es2 ∧ (∀ z ∈ ns2, nameB z = true) ∧
  Q (.bl (decide (kd2 = kd) && decide (sz2 = sz) && decide (ns2 = ns) && decide (es2 = es))) H
def lastB (sz : Int) : List (Str × Int) → Int
  | [] => -1
  | e :: es => (es.foldl (fun m x => max m x.2) e.2) / sz
def spLast (C : Addr) : Sp := fun vs H Q _ => ∃ p sz ns es, vs = [.ref p] ∧ LogAt C H p sz ns es ∧ SizeOk sz ∧ EntsOk ns es ∧ (∀ z ∈ ns, nameB z = true) ∧ ∀ H', Ext H H' → Q (.int (lastB sz es)) H'

/-! ### data of logs as PyData -/
def encE (e : Str × Int) : PyData := .tuple [.str e.1, .int e.2]
def encS (ns : List Str) : PyData := .list (ns.map .str)
def encL (es : List (Str × Int)) : PyData := .list (es.map encE)
theorem dp_strs {K : PySem.W.Frag} {H : Hp} : ∀ ns : List Str, DpAll K H (ns.map V.str) (ns.map .str)
  | [] => .nil
  | z :: ns => .cons (.str z) (dp_strs ns)
theorem dp_S {K : PySem.W.Frag} {H : Hp} {a : Addr} {ns : List Str} (h : SqL K H a (ns.map V.str)) : Dp K H (.ref a) (encS ns) := .lst h (dp_strs ns)
theorem dp_E {K : PySem.W.Frag} {H : Hp} {e : Str × Int} {v : V} (h : EntAt H e v) : Dp K H v (encE e) := by
  obtain ⟨p, rfl, hp⟩ := h
  exact .tup (SqT.of hp) (.cons (.str _) (.cons (.int _) .nil))
theorem dp_ents {K : PySem.W.Frag} {H : Hp} : ∀ {es : List (Str × Int)} {vs : List V}, EntL H es vs → DpAll K H vs (es.map encE)
  | _, _, .nil => .nil
  | _, _, .cons r q => .cons (dp_E r) (dp_ents q)
theorem dp_L {K : PySem.W.Frag} {H : Hp} {a : Addr} {es : List (Str × Int)} {vs : List V} (h : SqL K H a vs) (el : EntL H es vs) : Dp K H (.ref a) (encL es) := .lst h (dp_ents el)

theorem all_canLay : ∀ {ds : List PyData}, (∀ d ∈ ds, d.canLay0 = true) → PyData.canLayAll0 ds = true
  | [], _ => by simp [PyData.canLayAll0]
  | d :: ds, h => by
    simp only [PyData.canLayAll0, Bool.and_eq_true]
    exact ⟨h d List.mem_cons_self, all_canLay fun x hx => h x (List.mem_cons_of_mem _ hx)⟩
theorem all_depth {n : Nat} : ∀ {ds : List PyData}, (∀ d ∈ ds, d.depth ≤ n) → PyData.depthAll ds ≤ n
  | [], _ => by simp [PyData.depthAll]
  | d :: ds, h => by
    simp only [PyData.depthAll]
    exact Nat.max_le.mpr ⟨h d List.mem_cons_self, all_depth fun x hx => h x (List.mem_cons_of_mem _ hx)⟩
theorem shaped_list {ds : List PyData} {n : Nat} (h : ∀ d ∈ ds, d.canLay0 = true ∧ d.depth ≤ n) (hn : n < 60) : SeqAt.shaped (.list ds) = true := by
  unfold SeqAt.shaped
  have z := all_depth fun d hd => (h d hd).2
  refine Bool.and_eq_true_iff.mpr ⟨?_, decide_eq_true ?_⟩
  · show PyData.canLayAll0 ds = true
    exact all_canLay fun d hd => (h d hd).1
  · show PyData.depthAll ds + 1 ≤ 64
    omega
theorem strOk_name {z : Str} (h : nameB z = true) : PyData.canLay0 (.str z) = true := by
  unfold nameB at h
  simp only [Bool.and_eq_true, decide_eq_true_eq, List.all_eq_true] at h
  show z.cps.all (· < 0x110000) = true
  rw [← Array.all_toList, List.all_eq_true]
  intro c hc
  have := (h.2 c hc).2
  exact decide_eq_true (by omega)
theorem shaped_S {ns : List Str} (h : ∀ z ∈ ns, nameB z = true) : SeqAt.shaped (encS ns) = true := by
  refine shaped_list (n := 0) (fun d hd => ?_) (by decide)
  obtain ⟨z, hz, rfl⟩ := List.mem_map.mp hd
  exact ⟨strOk_name (h z hz), Nat.le_refl _⟩
theorem shaped_E {e : Str × Int} (h : nameB e.1 = true) : SeqAt.shaped (encE e) = true ∧ (encE e).canLay0 = true ∧ (encE e).depth ≤ 1 := by
  have c : (encE e).canLay0 = true := by
    show PyData.canLayAll0 [.str e.1, .int e.2] = true
    refine all_canLay fun d hd => ?_
    rcases List.mem_cons.mp hd with rfl | hd
    · exact strOk_name h
    · rw [List.mem_singleton.mp hd]; rfl
  have d : (encE e).depth ≤ 1 := by
    show max 0 (max 0 0) + 1 ≤ 1
    decide
  exact ⟨Bool.and_eq_true_iff.mpr ⟨c, decide_eq_true (Nat.le_trans d (by decide))⟩, c, d⟩
theorem shaped_L {es : List (Str × Int)} (h : ∀ e ∈ es, nameB e.1 = true) : SeqAt.shaped (encL es) = true := by
  refine shaped_list (n := 1) (fun d hd => ?_) (by decide)
  obtain ⟨e, he, rfl⟩ := List.mem_map.mp hd
  exact (shaped_E (h e he)).2
theorem eqvAll_map {α : Type} [DecidableEq α] {f : α → PyData} (hf : ∀ x y, PyData.eqv (f x) (f y) = decide (x = y)) : ∀ xs ys : List α, PyData.eqvAll (xs.map f) (ys.map f) = decide (xs = ys)
  | [], [] => by simp [PyData.eqvAll]
  | [], y :: ys => by simp [PyData.eqvAll]
  | x :: xs, [] => by simp [PyData.eqvAll]
  | x :: xs, y :: ys => by
    simp only [List.map_cons, PyData.eqvAll, hf, eqvAll_map hf xs ys]
    rw [Bool.eq_iff_iff]
    simp
theorem eqv_str (x y : Str) : PyData.eqv (.str x) (.str y) = decide (x = y) := by
  simp only [PyData.eqv]
  by_cases h : x = y
  · subst h; simp
  · rw [decide_eq_false h]; simpa using h
theorem eqv_ent (e g : Str × Int) : PyData.eqv (encE e) (encE g) = decide (e = g) := by
  obtain ⟨a, i⟩ := e
  obtain ⟨b, j⟩ := g
  unfold encE
  simp only [PyData.eqv, PyData.eqvAll]
  rw [Bool.eq_iff_iff]
  simp
theorem eqv_S (ns ms : List Str) : PyData.eqv (encS ns) (encS ms) = decide (ns = ms) := by
  unfold encS
  simp only [PyData.eqv]
  exact eqvAll_map eqv_str ns ms
theorem eqv_L (es gs : List (Str × Int)) : PyData.eqv (encL es) (encL gs) = decide (es = gs) := by
  unfold encL
  simp only [PyData.eqv]
  exact eqvAll_map eqv_ent es gs
theorem any_L (e : Str × Int) (es : List (Str × Int)) : ((es.map encE).any fun z => PyData.eqv z (encE e)) = decide (e ∈ es) := by
  rw [List.any_map, Bool.eq_iff_iff]
  simp only [List.any_eq_true, Function.comp, eqv_ent, decide_eq_true_eq]
  exact ⟨fun ⟨x, h, q⟩ => q ▸ h, fun h => ⟨e, h, rfl⟩⟩

section
variable {P : Program} {w : World} {K : PySem.W.Frag} {mg : Str → Option Value} {base : Heap} {cL cX C : Addr} {kd : Str} {f : Addr} {fd : FuncData}
theorem ok_size (L : LogC K C kd) (D : Mx K "size" "Log.size" s_Log_size ["self"] f fd) : FnOk P w K mg base C8.CX0 1 f fd ["self"] (spSize C) := by
  refine fn_of' D sc_Log_size (fun vs H Q E h => ?_) (fun cdv A o s H vs Q E hr h => ?_)
  · obtain ⟨p, sz, ns, es, rfl, _⟩ := h; rfl
  · obtain ⟨p, sz, ns, es, rfl, ⟨dx, ls, le, xs, hp, h1, h2, el⟩, k⟩ := h
    exact ⟨_, (pss_one (ps_ret (pe_fld (mv 0) rfl))), p, C, dx, _, _, rfl, hp, L.cl, L.nS, lf_size _ _ _, k⟩
theorem ok_servers (T : Tx K mg cL cX) (L : LogC K C kd) (D : Mx K "servers" "Log.servers" s_Log_servers ["self"] f fd) : FnOk P w K mg base C8.CX0 1 f fd ["self"] (spServers C) := by
  refine fn_of' D sc_Log_servers (fun vs H Q E h => ?_) (fun cdv A o s H vs Q E hr h => ?_)
  · obtain ⟨p, sz, ns, es, rfl, _⟩ := h; rfl
  · obtain ⟨p, sz, ns, es, rfl, ⟨dx, ls, le, xs, hp, h1, h2, el⟩, k⟩ := h
    exact ⟨_, (pss_one (ps_ret (pe_callTy call_list_of (by rfl) T.n_list (by decide +kernel) (pa_cons (pe_fld (mv 0) rfl) pa_nil)))), p, C, dx, _, _, rfl, hp, L.cl, L.nV, lf_servers _ _ _, ls, _, rfl, .inl (SqL.of h1), k⟩
theorem ok_entries (T : Tx K mg cL cX) (L : LogC K C kd) (D : Mx K "entries" "Log.entries" s_Log_entries ["self"] f fd) : FnOk P w K mg base C8.CX0 1 f fd ["self"] (spEntr C) := by
  refine fn_of' D sc_Log_entries (fun vs H Q E h => ?_) (fun cdv A o s H vs Q E hr h => ?_)
  · obtain ⟨p, sz, ns, es, rfl, _⟩ := h; rfl
  · obtain ⟨p, sz, ns, es, rfl, ⟨dx, ls, le, xs, hp, h1, h2, el⟩, k⟩ := h
    exact ⟨_, (pss_one (ps_ret (pe_callTy call_list_of (by rfl) T.n_list (by decide +kernel) (pa_cons (pe_fld (mv 0) rfl) pa_nil)))), p, C, dx, _, _, rfl, hp, L.cl, L.nE, lf_entries _ _ _, le, _, rfl, .inl (SqL.of h2), fun l hl => k l xs hl el⟩
theorem ok_len (T : Tx K mg cL cX) (L : LogC K C kd) (D : Mx K "__len__" "Log.__len__" s_Log___len__ ["self"] f fd) : FnOk P w K mg base C8.CX0 1 f fd ["self"] (spLen C) := by
  refine fn_of' D sc_Log___len__ (fun vs H Q E h => ?_) (fun cdv A o s H vs Q E hr h => ?_)
  · obtain ⟨p, sz, ns, es, rfl, _⟩ := h; rfl
  · obtain ⟨p, sz, ns, es, rfl, ⟨dx, ls, le, xs, hp, h1, h2, el⟩, k⟩ := h
    refine ⟨_, (pss_one (ps_ret (pe_callB call_len (by rfl) T.n_len (by decide +kernel) (pa_cons (pe_fld (mv 0) rfl) pa_nil)))), p, C, dx, _, _, rfl, hp, L.cl, L.nE, lf_entries _ _ _, _, _, rfl, .inl ⟨_, SqL.of h2, rfl⟩, ?_⟩
    rw [← el.len]
    exact k
theorem ok_in (T : Tx K mg cL cX) (L : LogC K C kd) (D : Mx K "__contains__" "Log.__contains__" s_Log___contains__ ["self", "thing"] f fd) (c_is_entry : Cal P w K mg base 2 "is_entry" (spEntry K) []) :
    FnOk P w K mg base C8.CX0 3 f fd ["self", "thing"] (spIn K C) := by
  refine fn_of' D sc_Log___contains__ (fun vs H Q E h => ?_) (fun cdv A o s H vs Q E hr h => ?_)
  · obtain ⟨p, sz, ns, es, x, r, rfl, _⟩ := h; rfl
  · obtain ⟨p, sz, ns, es, x, r, rfl, lg, ok, hn, j, k⟩ := h
    obtain ⟨dx, ls, le, xs, hp, h1, h2, el⟩ := lg
    refine ⟨_, (pss_one (ps_ret (pe_and (pe_c c_is_entry hr (by decide) rfl (pa_cons (pe_fld (mv 0) rfl) (pa_cons (mv 1) pa_nil))) (pe_one (pe_cmpR (op_inD (u65 hr)) (mv 1) (pe_fld (mv 0) rfl) (by rfl)))))), p, C, dx, _, _, rfl, hp, L.cl, L.nV, lf_servers _ _ _, ls, ns, x, r, rfl, h1, j, _, rfl, ?_⟩
    cases r with
    | none => exact ifF (by rfl) k
    | some e =>
      refine ifT (by rfl) ?_
      cases j with
      | @ok t z i ht hz hi =>
        refine ⟨p, C, dx, _, _, rfl, hp, L.cl, L.nE, lf_entries _ _ _, _, _, dp_E (e := (z, i)) ⟨t, rfl, ht⟩, dp_L (SqL.of h2) el, (shaped_E (hn z hz)).1, shaped_L (fun e he => hn _ (ok.ok e he).1), ?_⟩
        rw [any_L]
        exact k
theorem kd_no (sz : Int) (ls le : Addr) : (lf sz ls le).lookup ("KIND" : Str) = none := lf_no sz ls le (by decide +kernel) (by decide +kernel) (by decide +kernel)
theorem nat_bits {i : Int} {n : Nat} (h0 : 0 ≤ i) (h : i < 2 ^ n) (hn : 0 < n) : i.natAbs.log2 < n := by
  refine PySem.Flt.log2_lt_of hn ?_
  have : ((i.natAbs : Nat) : Int) < ((2 ^ n : Nat) : Int) := by
    rw [Int.natCast_pow]
    have e : (i.natAbs : Int) = i := by omega
    rw [e]; exact h
  exact_mod_cast this
theorem cdv_size {sz : Int} (i : Int) (h : SizeOk sz) : CDv i sz := by
  refine ⟨by have := h.1; omega, Nat.lt_trans (nat_bits (n := 100) (by have := h.1; omega) ?_ (by decide)) (by decide)⟩
  have h2 := h.2
  have : (10 : Int) ^ 30 < 2 ^ 100 := by decide
  omega
/-- the numbers of the first i entries -/
def numsV (es : List (Str × Int)) : List V := (es.map (·.2)).map V.int
def Nums (H0 : Hp) (es : List (Str × Int)) (D : Addr) (i : Nat) (H : Hp) : Prop := Ext H0 H ∧ H D = some (.lst (numsV (es.take i)))
theorem foldl_max : ∀ (es : List (Str × Int)) (m : Int), (m = es.foldl (fun m x => max m x.2) m ∨ ∃ e ∈ es, e.2 = es.foldl (fun m x => max m x.2) m) ∧ m ≤ es.foldl (fun m x => max m x.2) m ∧ ∀ e ∈ es, e.2 ≤ es.foldl (fun m x => max m x.2) m
  | [], m => ⟨.inl rfl, Int.le_refl _, fun _ h => nomatch h⟩
  | e :: es, m => by
    obtain ⟨h1, h2, h3⟩ := foldl_max es (max m e.2)
    simp only [List.foldl_cons]
    refine ⟨?_, by omega, fun x hx => ?_⟩
    · rcases h1 with h1 | ⟨x, hx, q⟩
      · rcases Int.le_total m e.2 with z | z
        · refine .inr ⟨e, List.mem_cons_self, ?_⟩
          have : max m e.2 = e.2 := by omega
          omega
        · left
          have : max m e.2 = m := by omega
          omega
      · exact .inr ⟨x, List.mem_cons_of_mem _ hx, q⟩
    · rcases List.mem_cons.mp hx with rfl | hx
      · omega
      · exact h3 x hx
theorem max_is {es : List (Str × Int)} {e0 : Str × Int} {m : Int} (h1 : m ∈ (e0 :: es).map (·.2)) (h2 : ∀ y, y ∈ (e0 :: es).map (·.2) → y ≤ m) : m = es.foldl (fun m x => max m x.2) e0.2 := by
  obtain ⟨g1, g2, g3⟩ := foldl_max es e0.2
  refine Int.le_antisymm ?_ (h2 _ ?_)
  · obtain ⟨x, hx, rfl⟩ := List.mem_map.mp h1
    rcases List.mem_cons.mp hx with rfl | hx
    · exact g2
    · exact g3 x hx
  · rcases g1 with g1 | ⟨x, hx, q⟩
    · rw [← g1]; simp
    · rw [← q]; exact List.mem_map_of_mem (List.mem_cons_of_mem _ hx)
end
end NB

set_option Elab.async false
set_option linter.all false
set_option maxRecDepth 100000
set_option maxHeartbeats 4000000
/-! K3 (k29): the tapes that the law draws from -/
namespace NB
open PySem PySem.Spec L2
open PyProof.Rows (envOfC)
open C8 (pe_c pe_mk pe_mt pe_mt0 pe_gc fnScope fnBody fnArgs fnScope_by Cal Met Mak)
/-- a tape after at most n draws -/
def TapeO (n : Nat) (o : HO) : Prop := ∃ x y z : Int, o = .lst [.int x, .int y, .int z] ∧ 0 ≤ x ∧ 0 ≤ y ∧ y < 10 ^ 40 ∧ 0 ≤ z ∧ z ≤ (n : Int)
def TapeAt (n : Nat) (H : Hp) (p : Addr) : Prop := ∃ o, H p = some o ∧ TapeO n o
theorem TapeO.mono {n m : Nat} {o : HO} (h : TapeO n o) (e : n ≤ m) : TapeO m o := by
  obtain ⟨x, y, z, h1, h2, h3, h4, h5, h6⟩ := h
  exact ⟨x, y, z, h1, h2, h3, h4, h5, by omega⟩
theorem TapeAt.mono {n m : Nat} {H : Hp} {p : Addr} (h : TapeAt n H p) (e : n ≤ m) : TapeAt m H p := by
  obtain ⟨o, h1, h2⟩ := h
  exact ⟨o, h1, h2.mono e⟩
theorem TapeO.ne_strs {n : Nat} {o : HO} {ns : List Str} (h : TapeO n o) : o ≠ .lst (ns.map V.str) := by
  obtain ⟨x, y, z, rfl, _⟩ := h
  intro e
  injection e with e
  cases ns with
  | nil => cases e
  | cons s ns => injection e with e; cases e
theorem TapeO.ne_tup {n : Nat} {o : HO} (h : TapeO n o) : ∀ xs, o ≠ .tup xs := by
  obtain ⟨x, y, z, rfl, _⟩ := h
  intro xs e
  cases e
theorem TapeAt.put {n : Nat} {H : Hp} {p : Addr} {o : HO} (h : TapeO n o) : TapeAt n (L2.upd H p o) p := ⟨o, upd_same, h⟩
theorem TapeAt.keep {n : Nat} {H H' : Hp} {p : Addr} (h : TapeAt n H p) (e : Ext H H') : TapeAt n H' p := by
  obtain ⟨o, hp, fo⟩ := h
  exact ⟨o, e _ _ hp, fo⟩
theorem TapeAt.ne {n : Nat} {H : Hp} {p a : Addr} {ns : List Str} (h : TapeAt n H p) (ha : H a = some (.lst (ns.map V.str))) : a ≠ p := by
  obtain ⟨o, hp, fo⟩ := h
  exact fun e => by
    rw [e, hp] at ha
    exact fo.ne_strs (Option.some.inj ha)
def spTape (K : PySem.W.Frag) : Sp := fun vs H Q _ => ∃ (a : Addr) (ns : List Int) (k : Int), vs = [.ref a, .int k] ∧ SqL K H a (ns.map V.int) ∧ 0 ≤ k ∧ k < 100 ∧ ns.length ≤ 63 ∧ ∀ p o, H p = none → TapeO 0 o → Q (.ref p) (upd H p o)
def spNext : Sp := fun vs H Q _ => ∃ p many n, vs = [.ref p, .int many] ∧ TapeAt n H p ∧ n ≤ 1000000000 ∧ 1 ≤ many ∧ many < 2 ^ 1000 ∧ ∀ r o, 0 ≤ r → r < many → TapeO (n + 1) o → Q (.int r) (upd H p o)
theorem posM64 : (0 : Int) < 10 ^ 64 + 57 := by decide
theorem mod_lt {a b : Int} (h : 0 < b) : 0 ≤ a % b ∧ a % b < b := ⟨Int.emod_nonneg _ (by omega), Int.emod_lt_of_pos _ h⟩
theorem mulL {i j : Int} (h1 : -(2 ^ 64) < i) (h2 : i < 2 ^ 64) : PySem.IntMulOk i j := CMul.ok (.inl ⟨h1, h2⟩)
theorem mulR {i j : Int} (h1 : -(2 ^ 64) < j) (h2 : j < 2 ^ 64) : PySem.IntMulOk i j := CMul.ok (.inr ⟨h1, h2⟩)
theorem atI_at {α : Type} {xs : List α} {k : Int} {v : α} (h0 : 0 ≤ k) (h : xs[k.toNat]? = some v) : atI xs k = some v := by
  have e : k = ((k.toNat : Nat) : Int) := by omega
  rw [e]
  exact atI_nat h
theorem map_erase {α β : Type} (f : α → β) : ∀ (l : List α) (k : Nat), (l.eraseIdx k).map f = (l.map f).eraseIdx k
  | [], _ => rfl
  | _ :: _, 0 => rfl
  | a :: l, k + 1 => by
    show f a :: (l.eraseIdx k).map f = f a :: (l.map f).eraseIdx k
    rw [map_erase f l k]
theorem er_perm {α : Type} : ∀ (l : List α) (k : Nat) (h : k < l.length), (l[k] :: l.eraseIdx k).Perm l
  | a :: l, 0, _ => List.Perm.refl _
  | a :: l, k + 1, h => by
    have hk : k < l.length := by simpa using h
    have ih := er_perm l k hk
    show (l[k] :: a :: l.eraseIdx k).Perm (a :: l)
    exact (List.Perm.swap _ _ _).trans (ih.cons a)
theorem upd_is {H H' : Hp} {p : Addr} {o : HO} (h : H' p = some o) (r : ∀ b, b ≠ p → H' b = H b) : H' = upd H p o := by
  funext b
  by_cases e : b = p
  · rw [e, h, upd_same]
  · rw [r b e, upd_ne e]
theorem cdv_of {j : Int} {n : Nat} (i : Int) (h1 : 1 ≤ j) (h2 : j < 2 ^ n) (h0 : 0 < n) (h9 : n ≤ 9000) : CDv i j := ⟨by omega, Nat.lt_of_lt_of_le (nat_bits (by omega) h2 h0) h9⟩
theorem bits_le {i : Int} {n : Nat} (h1 : 0 ≤ i) (h2 : i < 2 ^ n) (h0 : 0 < n) : Builtin.Int.intBits i ≤ n := by
  have h := nat_bits h1 h2 h0
  unfold Builtin.Int.intBits
  split <;> omega
theorem cube {i : Int} (h0 : 0 ≤ i) (h1 : i < 2 ^ 300) : CPowW i 3 := by
  have := bits_le h0 h1 (by decide)
  exact ⟨by decide, by omega⟩
section
variable {P : Program} {w : World} {K : PySem.W.Frag} {mg : Str → Option Value} {base : Heap}
theorem ok_tape (T : Blt mg) (D : Dx K mg "_law_tape" s__law_tape ["script", "k"]) : Cal P w K mg base 1 "_law_tape" (spTape K) [] := by
  refine cal_of D sc__law_tape (fun vs H Q E h => ?_) (fun f cdv A o s H vs Q E hr h => ?_)
  · obtain ⟨a, ns, k, rfl, _⟩ := h; rfl
  · obtain ⟨a, ns, k, rfl, hS, hk0, hk1, hn, q⟩ := h
    refine ⟨_, (pss_cons (ps_set (i := 2) sc__law_tape.nd rfl (Or.inl rfl) (pe_ifExp (qt m_lt (mv 1) (pe_callB call_len (by rfl) T.n_len (by decide +kernel) (pa_cons (mv 0) pa_nil)) (nomark _)) (pe_callB call_abs (by rfl) T.n_abs (by decide +kernel) (pa_cons (pe_ix m_ix (mv 0) (mv 1) (fun _ _ => rfl)) pa_nil)) pe_int))
    (pss_one (ps_ret (pe_lst (pa_cons (pe_callB (call_max2 rfl) (by rfl) T.n_max (by decide +kernel) (pa_cons pe_int (pa_cons (pe_op m_sub (mv 2) (pe_op m_pow pe_int pe_int)) pa_nil))) (pa_cons (pe_op m_add (pe_op m_mul (pe_op m_mod (mv 2) (pe_op m_add (pe_op m_pow pe_int pe_int) pe_int)) pe_int) (mv 1)) (pa_cons pe_int pa_nil))))))), ?_⟩
    have fin : ∀ c : Int, 0 ≤ c → TapeO 0 (.lst [.int (if c - 10 ^ (18 : Int).toNat > 0 then c - 10 ^ (18 : Int).toNat else 0), .int (c % (10 ^ (37 : Int).toNat + 43) * 73 + k), .int 0]) := by
      intro c hc
      obtain ⟨m0, m1⟩ := mod_lt (a := c) (b := 10 ^ (37 : Int).toNat + 43) (by decide)
      have e37 : (10 : Int) ^ (37 : Int).toNat + 43 ≤ 10 ^ 38 := by decide
      exact ⟨_, _, _, rfl, by split <;> omega, by omega, by omega, by decide, by decide⟩
    refine ⟨_, _, rfl, .inl ⟨_, hS, rfl⟩, ?_⟩
    dsimp only [kB]
    have rest : ∀ c : Int, 0 ≤ c → tRet (tLst (tCons (tCB (fun xs H Q => ∃ i j, xs = [.int i, .int j] ∧ Q (.int (if j > i then j else i)) H) (tCons (tC (.int 0)) (tCons (tOp (mI0 fun i j => .int (i - j)) (mV 2) (tOp (mI CPow fun i j => .int (i ^ j.toNat)) (tC (.int 10)) (tC (.int 18)))) tNil)))
        (tCons (tOp (mI0 fun i j => .int (i + j)) (tOp (mI IntMulOk fun i j => .int (i * j)) (tOp (mI (fun _ j => 0 < j) fun i j => .int (i % j)) (mV 2) (tOp (mI0 fun i j => .int (i + j)) (tOp (mI CPow fun i j => .int (i ^ j.toNat)) (tC (.int 10)) (tC (.int 37))) (tC (.int 43)))) (tC (.int 73))) (mV 1)) (tCons (tC (.int 0)) tNil)))) { nx := fun _ H' => Q .non H', rt := Q } [some (.ref a), some (.int k), some (.int c)] H := by
      intro c hc
      refine ⟨⟨by decide, by decide, by decide⟩, _, _, rfl, ?_⟩
      refine ⟨⟨by decide, by decide, by decide⟩, (by show (0 : Int) < 10 ^ (37 : Int).toNat + 43; decide), mulR (by decide) (by decide), (by show 3 ≤ sizeLine; decide), fun p hp => ?_⟩
      exact q p _ hp (fin c hc)
    refine ifD (fun h => ?_) (fun h => ?_)
    · have hlt : k.toNat < ns.length := by rw [List.length_map] at h; omega
      refine ⟨_, .int (ns[k.toNat]), .inl hS, ?_, _, rfl, ?_⟩
      · exact atI_at hk0 (by simp [hlt])
      · exact rest _ (by split <;> omega)
    · exact rest 0 (by decide)
theorem ok_next (T : Blt mg) (D : Dx K mg "_law_next" s__law_next ["tape", "many"]) : Cal P w K mg base 1 "_law_next" spNext [] := by
  refine cal_of D sc__law_next (fun vs H Q E h => ?_) (fun f cdv A o s H vs Q E hr h => ?_)
  · obtain ⟨p, many, n, rfl, _⟩ := h; rfl
  · obtain ⟨p, many, n, rfl, ⟨o, hp, x, y, z, rfl, hx, hy0, hy1, hz0, hz1⟩, hn, hm1, hm2, q⟩ := h
    have at0 : ∀ {H : Hp} {x y z : Int}, H p = some (.lst [.int x, .int y, .int z]) → (SqL K H p [.int x, .int y, .int z] ∨ SqT K H p [.int x, .int y, .int z]) := fun h => .inl (SqL.of h)
    refine ⟨_, (pss_cons (ps_if (qt m_gt (pe_ix m_ix (mv 0) pe_int (fun _ _ => rfl)) pe_int (nomark _)) (pss_cons (ps_set (i := 2) sc__law_next.nd rfl (Or.inl rfl) (pe_op m_mod (pe_ix m_ix (mv 0) pe_int (fun _ _ => rfl)) (mv 1)))
    (pss_cons (ps_asg (pe_op m_div (pe_ix m_ix (mv 0) pe_int (fun _ _ => rfl)) (mv 1)) (pg_sub (mv 0) pe_int set_list))
    (pss_one (ps_ret (mv 2))))) pss_nil)
    (pss_cons (ps_asg (pe_op m_add (pe_ix m_ix (mv 0) pe_int (fun _ _ => rfl)) pe_int) (pg_sub (mv 0) pe_int set_list))
    (pss_cons (ps_set (i := 3) sc__law_next.nd rfl (Or.inl rfl) (pe_op m_mod (pe_op m_powW (pe_op m_add (pe_ix m_ix (mv 0) pe_int (fun _ _ => rfl)) (pe_op m_mul pe_int (pe_ix m_ix (mv 0) pe_int (fun _ _ => rfl)))) pe_int) (pe_op m_add (pe_op m_pow pe_int pe_int) pe_int)))
    (pss_cons (ps_set (i := 3) sc__law_next.nd rfl (Or.inl rfl) (pe_op m_mod (pe_op m_powW (pe_op m_add (mv 3) (pe_op m_mul pe_int (pe_ix m_ix (mv 0) pe_int (fun _ _ => rfl)))) pe_int) (pe_op m_add (pe_op m_pow pe_int pe_int) pe_int)))
    (pss_one (ps_ret (pe_op m_mod (pe_op m_div (mv 3) pe_int) (mv 1)))))))), ?_⟩
    refine ⟨_, _, at0 hp, atI_nat (j := 0) rfl, ?_⟩
    dsimp only [tC, kB]
    refine ifD (fun h => ?_) (fun h => ?_)
    · refine ⟨_, _, at0 hp, atI_nat (j := 0) rfl, by omega, ?_⟩
      refine ⟨_, _, at0 hp, atI_nat (j := 0) rfl, cdv_of _ hm1 hm2 (by decide) (by decide), ?_⟩
      refine ⟨p, _, _, 0, rfl, rfl, hp, rfl, ?_⟩
      exact q _ _ (mod_lt (by omega)).1 (mod_lt (by omega)).2 ⟨_, y, z, rfl, Int.ediv_nonneg hx (by omega), hy0, hy1, hz0, by omega⟩
    · refine ⟨_, _, at0 hp, atI_nat (j := 2) rfl, ?_⟩
      refine ⟨p, _, _, 2, rfl, rfl, hp, rfl, ?_⟩
      have h3 : (upd H p (.lst ([V.int x, V.int y, V.int z].set 2 (.int (z + 1))))) p = some (.lst [V.int x, V.int y, V.int (z + 1)]) := upd_same
      refine ⟨_, _, at0 h3, atI_nat (j := 1) rfl, _, _, at0 h3, atI_nat (j := 2) rfl, mulL (by decide) (by decide), cube (by omega) (by omega), ⟨by decide, by decide, by decide⟩, posM64, ?_⟩
      obtain ⟨b0, b1⟩ := mod_lt (a := (y + 1000000021 * (z + 1)) ^ (3 : Int).toNat) (b := 10 ^ (64 : Int).toNat + 57) (by decide)
      generalize hm : (y + 1000000021 * (z + 1)) ^ (3 : Int).toNat % (10 ^ (64 : Int).toNat + 57) = m1 at *
      have b2 : m1 < 2 ^ 250 := Int.lt_trans b1 (by decide)
      refine ⟨_, _, at0 h3, atI_nat (j := 2) rfl, mulL (by decide) (by decide), cube (by omega) (by omega), ⟨by decide, by decide, by decide⟩, (by show (0 : Int) < 10 ^ (64 : Int).toNat + 9; decide), ?_⟩
      refine ⟨⟨by decide, by decide +kernel⟩, by omega, ?_⟩
      exact q _ _ (mod_lt (by omega)).1 (mod_lt (by omega)).2 ⟨x, y, z + 1, rfl, hx, hy0, hy1, by omega, by omega⟩
/-- the names that crews are drawn from -/
def NAMES : List Str := ["b", "a", "zz", "ann", "bob", "take", "use", "steady", "c", "qqqqqqqq", "aa", "d"]
theorem names_ok : ∀ z ∈ NAMES, nameB z = true := by decide +kernel
theorem names_nd : NAMES.Nodup := by decide +kernel
def spNames : Sp := fun vs H Q _ => ∃ p most n, vs = [.ref p, .int most] ∧ TapeAt n H p ∧ n ≤ 999999900 ∧ 1 ≤ most ∧ most ≤ 12 ∧
  ∀ H' q ns, H q = none → H' q = some (.lst (ns.map V.str)) → CrewOk ns → (∀ z ∈ ns, z ∈ NAMES) → TapeAt (n + 20) H' p → Frm [p] H H' → Q (.ref q) H'
def CrewI (H0 : Hp) (p l D : Addr) (n i : Nat) (H : Hp) : Prop := ∃ took rest : List Str, H l = some (.lst (rest.map V.str)) ∧ H D = some (.lst (took.map V.str)) ∧ (took ++ rest).Perm NAMES ∧ took.length = i ∧ TapeAt (n + 1 + i) H p ∧ Frm [p] H0 H
theorem ok_names (T : Blt mg) (D : Dx K mg "_law_names" s__law_names ["tape", "most"]) (c__law_next : Cal P w K mg base 1 "_law_next" spNext []) : Cal P w K mg base 2 "_law_names" spNames [] := by
  refine cal_of D sc__law_names (fun vs H Q E h => ?_) (fun f cdv A o s H vs Q E hr h => ?_)
  · obtain ⟨p, most, n, rfl, _⟩ := h; rfl
  · obtain ⟨p, most, n, rfl, hf, hn, hm1, hm2, k⟩ := h
    refine ⟨_, (pss_cons (ps_set (i := 2) sc__law_names.nd rfl (Or.inr rfl) (pe_lst (pa_cons pe_str (pa_cons pe_str (pa_cons pe_str (pa_cons pe_str (pa_cons pe_str (pa_cons pe_str (pa_cons pe_str (pa_cons pe_str (pa_cons pe_str (pa_cons pe_str (pa_cons pe_str (pa_cons pe_str pa_nil))))))))))))))
    (pss_one (ps_ret (pe_lc (own := [("turn", 3)]) (g := gName 3) (tt := tYes) (te := tBM K "list" rPopAt (mV 2) (tCons (tCall spNext [] C8.E0 (tCons (mV 0) (tCons (tCB (fun xs H Q => ∃ x n, xs = [x] ∧ LenV K x H n ∧ Q (.int n) H) (tCons (mV 2) tNil)) tNil))) tNil)) rfl sc__law_names.nd (pi_range1 (by rfl) T.n_range (pa_cons (pe_op m_add pe_int (pe_c c__law_next hr (by decide) rfl (pa_cons (mv 0) (pa_cons (mv 1) pa_nil)))) pa_nil)) (blkOk_by (own := [("turn", 3)]) (N := ["tape", "most", "left", "turn"]) (sc := fnScope s__law_names) (by decide +kernel)) (fun _ _ _ _ _ => (pg_name (i := 3) sc__law_names.nd rfl (Or.inl rfl))) (fun _ _ _ _ _ => pts_nil) (fun _ _ _ _ _ => (pe_bm PySem.F.plainAttrs_list PySem.F.slot_list_pop PySem.F.type_list_pop mt_popAt (mv 2) (pa_cons (pe_c c__law_next hr (by decide) rfl (pa_cons (mv 0) (pa_cons (pe_callB call_len (by rfl) T.n_len (by decide +kernel) (pa_cons (mv 2) pa_nil)) pa_nil))) pa_nil))))))), ?_⟩
    refine ⟨(by show 12 ≤ sizeLine; decide), fun l hl => ?_⟩
    have x1 : Ext H (upd H l (.lst (NAMES.map V.str))) := Ext.upd hl
    have pl : p ≠ l := by obtain ⟨o, hp, _⟩ := hf; exact ne_of_none hp hl
    refine ⟨p, most, n, rfl, hf.keep x1, by omega, hm1, Int.lt_of_le_of_lt hm2 (by decide +kernel), fun r o1 h0 h1 fo => ?_⟩
    refine ⟨_, rfl, by omega, by omega, fun d hd => lc_range (lo := 0) (n := (1 + r).toNat) (CrewI H p l d n) ⟨[], NAMES, ?_, upd_same, List.Perm.refl _, rfl, ?_, ?_⟩ ?_ ?_⟩
    · have ld : l ≠ d := by
        refine ne_of_none (o := .lst (NAMES.map V.str)) ?_ hd
        rw [upd_ne pl.symm]
        exact upd_same
      rw [upd_ne ld, upd_ne pl.symm]
      exact upd_same
    · exact (TapeAt.put fo).keep (Ext.upd hd)
    · exact ((Frm.ext x1).upd mem1).new hd
    · rintro i H1 hi ⟨took, rest, g1, g2, pm, ht, hf1, fr⟩
      have hl12 : took.length + rest.length = 12 := by have := pm.length_eq; rw [List.length_append] at this; exact this
      have hr1 : 1 ≤ rest.length := by omega
      refine ⟨rfl, goY (ifT (by rfl) ?_)⟩
      refine ⟨.inl ⟨rfl, _, SqL.of g1⟩, ?_⟩
      refine ⟨_, _, rfl, .inl ⟨_, SqL.of g1, rfl⟩, ?_⟩
      rw [List.length_map]
      refine ⟨p, _, _, rfl, hf1, by omega, by omega, Int.lt_of_le_of_lt (b := 12) (by omega) (by decide), fun r2 o2 q0 q1 fo2 => ?_⟩
      have lp : l ≠ p := hf1.ne g1
      have hk : r2.toNat < rest.length := by omega
      have dl : d ≠ l := by
        intro e
        rw [e, g1] at g2
        have e2 : rest.map V.str = took.map V.str := by injection g2 with g2; injection g2
        have e3 : rest = took := List.map_inj_right (fun a b h => V.str.inj h) |>.mp e2
        rw [e3] at pm
        have nd := pm.symm.nodup names_nd
        rw [List.nodup_append] at nd
        cases took with
        | nil => rw [e3] at hr1; exact absurd hr1 (by decide)
        | cons z t => exact nd.2.2 z List.mem_cons_self z List.mem_cons_self rfl
      have dp : d ≠ p := by
        intro e
        obtain ⟨u, hu, fu⟩ := hf1
        rw [e, hu] at g2
        exact fu.ne_strs (Option.some.inj g2)
      refine ⟨l, rest.map V.str, r2, r2.toNat, .str rest[r2.toNat], rfl, rfl, by rw [upd_ne lp]; exact g1, by omega, by omega, ?_, ?_, ?_⟩
      · rw [List.length_map]
        unfold PySem.seqIndex?
        simp
        omega
      · rw [List.getElem?_map, List.getElem?_eq_getElem hk]; rfl
      refine ⟨took.map V.str, by rw [upd_ne dl, upd_ne dp]; exact g2, by rw [List.length_map]; exact Nat.lt_of_le_of_lt (show took.length ≤ 12 by omega) (by decide), took ++ [rest[r2.toNat]], rest.eraseIdx r2.toNat, ?_, ?_, ?_, ?_, ?_, ?_⟩
      · rw [upd_ne dl.symm, upd_same, map_erase]
      · rw [upd_same, List.map_append]; rfl
      · refine List.Perm.trans ?_ pm
        rw [List.append_assoc]
        exact List.Perm.append_left _ (er_perm rest r2.toNat hk)
      · rw [List.length_append, ht]; rfl
      · refine ⟨o2, ?_, fo2⟩
        rw [upd_ne dp.symm, upd_ne lp.symm]
        exact upd_same
      · intro b u hb nb
        have b1 : b ≠ p := fun e => nb (by rw [e]; exact mem1)
        have b2 := fr b u hb nb
        rw [upd_ne ?_, upd_ne ?_, upd_ne b1]
        · exact b2
        · exact fun e => by rw [e, hl] at hb; cases hb
        · exact fun e => by rw [e, (upd_none (upd_none hd).2).2] at hb; cases hb
    · rintro H1 ⟨took, rest, g1, g2, pm, ht, hf1, fr⟩
      have hsub : ∀ z ∈ took, z ∈ NAMES := fun z hz => pm.mem_iff.mp (List.mem_append_left _ hz)
      have nd := pm.symm.nodup names_nd
      rw [List.nodup_append] at nd
      refine k H1 d took ?_ g2 ⟨by omega, ?_, fun z hz => names_ok z (hsub z hz), nd.1⟩ hsub (hf1.mono (by omega)) fr
      · exact (upd_none (upd_none hd).2).2
      · have := pm.length_eq
        rw [List.length_append] at this
        have e : NAMES.length = 12 := rfl
        omega

end
end NB

set_option Elab.async false
set_option linter.all false
set_option maxRecDepth 100000
/-! K4d (k29): dicts of numbers by names, a desk -/
namespace NB
open PySem PySem.Spec L2
/-- a dict with a number for each name -/
def kvI (ns : List Str) (f : Str → Int) : List (Key × V) := ns.map fun z => (Sum.inr z, V.int (f z))
def putI (f : Str → Int) (z : Str) (v : Int) : Str → Int := fun y => if y = z then v else f y
theorem valV_kvI {f : Str → Int} {z : Str} : ∀ {ns : List Str}, valV (kvI ns f) (Sum.inr z) = if z ∈ ns then some (V.int (f z)) else none
  | [] => rfl
  | y :: ns => by
    show valV ((Sum.inr y, V.int (f y)) :: kvI ns f) (Sum.inr z) = _
    by_cases e : y = z
    · subst e
      rw [valV_pos rfl, if_pos List.mem_cons_self]
    · have ne : ¬ ((Sum.inr y : Key) = Sum.inr z) := fun h => e (Sum.inr.inj h)
      rw [valV_neg ne, valV_kvI]
      have : (z ∈ y :: ns) ↔ z ∈ ns := ⟨fun h => (List.mem_cons.mp h).elim (fun h => absurd h.symm e) id, List.mem_cons_of_mem _⟩
      by_cases m : z ∈ ns
      · rw [if_pos m, if_pos (this.mpr m)]
      · rw [if_neg m, if_neg (fun h => m (this.mp h))]
theorem kvI_any {ns : List Str} {f : Str → Int} {z : Str} (h : z ∈ ns) : ((kvI ns f).any fun kv => decide (kv.1 = (Sum.inr z : Key))) = true := by
  rw [valV_any, valV_kvI, if_pos h]; rfl
theorem putK_kvI {ns : List Str} {f : Str → Int} {z : Str} {v : Int} (h : z ∈ ns) : putK (kvI ns f) (Sum.inr z) (V.int v) = kvI ns (putI f z v) := by
  unfold putK
  rw [if_pos (kvI_any h)]
  unfold kvI
  rw [List.map_map]
  refine List.map_congr_left fun y _ => ?_
  show (if (Sum.inr y : Key) = Sum.inr z then ((Sum.inr y : Key), V.int v) else (Sum.inr y, V.int (f y))) = (Sum.inr y, V.int (putI f z v y))
  unfold putI
  by_cases e : y = z
  · rw [if_pos (by rw [e]), if_pos e]
  · rw [if_neg (fun h => e (Sum.inr.inj h)), if_neg e]
theorem kvI_len {ns : List Str} {f : Str → Int} : (kvI ns f).length = ns.length := List.length_map ..
/-- what a desk holds -/
structure DS where
  rem : Str → Int
  up : Str → Int
  own : List Str
  us : List (Str × Int)
/-- an event: a take or a use, at a name -/
abbrev Ev := Bool × Str
/-- one step of a history -/
def stepD (sz : Int) (s : DS) (e : Ev) : Option DS :=
  if e.1 = true then (if s.rem e.2 > 0 then none else some { rem := putI s.rem e.2 sz, up := putI s.up e.2 (s.own.length * sz), own := s.own ++ [e.2], us := s.us })
  else (if s.rem e.2 = 0 then none else some { rem := putI s.rem e.2 (s.rem e.2 - 1), up := putI s.up e.2 (s.up e.2 + 1), own := s.own, us := s.us ++ [(e.2, s.up e.2)] })
def runD (sz : Int) : DS → List Ev → Option DS
  | s, [] => some s
  | s, e :: es => (stepD sz s e).bind fun s => runD sz s es
theorem runD_app {sz : Int} : ∀ {s : DS} {es fs : List Ev}, runD sz s (es ++ fs) = (runD sz s es).bind fun t => runD sz t fs
  | s, [], fs => rfl
  | s, e :: es, fs => by
    show (stepD sz s e).bind (fun s => runD sz s (es ++ fs)) = ((stepD sz s e).bind fun s => runD sz s es).bind _
    cases stepD sz s e with
    | none => rfl
    | some t => exact runD_app
theorem runD_take {sz : Int} {s t : DS} {es : List Ev} (h : runD sz s es = some t) (n : Nat) : ∃ u, runD sz s (es.take n) = some u := by
  have e := List.take_append_drop n es
  rw [← e, runD_app] at h
  cases q : runD sz s (es.take n) with
  | none => rw [q] at h; cases h
  | some u => exact ⟨u, rfl⟩
/-- the fields of a desk as __init__ stores them -/
def fD (sz : Int) (du dr lt lu : Addr) : List (Str × V) := putF "shown_uses" (.ref lu) (putF "takers" (.ref lt) (putF "remaining" (.ref dr) (putF "upcoming" (.ref du) (putF "wide" (.int sz) []))))
theorem fD_wide (sz : Int) (du dr lt lu : Addr) : (fD sz du dr lt lu).lookup ("wide" : Str) = some (.int sz) := by
  unfold fD
  rw [lookup_putF, if_neg (by decide +kernel), lookup_putF, if_neg (by decide +kernel), lookup_putF, if_neg (by decide +kernel), lookup_putF, if_neg (by decide +kernel), lookup_putF, if_pos rfl]
theorem fD_up (sz : Int) (du dr lt lu : Addr) : (fD sz du dr lt lu).lookup ("upcoming" : Str) = some (.ref du) := by
  unfold fD
  rw [lookup_putF, if_neg (by decide +kernel), lookup_putF, if_neg (by decide +kernel), lookup_putF, if_neg (by decide +kernel), lookup_putF, if_pos rfl]
theorem fD_rem (sz : Int) (du dr lt lu : Addr) : (fD sz du dr lt lu).lookup ("remaining" : Str) = some (.ref dr) := by
  unfold fD
  rw [lookup_putF, if_neg (by decide +kernel), lookup_putF, if_neg (by decide +kernel), lookup_putF, if_pos rfl]
theorem fD_own (sz : Int) (du dr lt lu : Addr) : (fD sz du dr lt lu).lookup ("takers" : Str) = some (.ref lt) := by
  unfold fD
  rw [lookup_putF, if_neg (by decide +kernel), lookup_putF, if_pos rfl]
theorem fD_us (sz : Int) (du dr lt lu : Addr) : (fD sz du dr lt lu).lookup ("shown_uses" : Str) = some (.ref lu) := by
  unfold fD
  rw [lookup_putF, if_pos rfl]
theorem fD_no (sz : Int) (du dr lt lu : Addr) {m : Str} (h1 : ¬ m = "shown_uses") (h2 : ¬ m = "takers") (h3 : ¬ m = "remaining") (h4 : ¬ m = "upcoming") (h5 : ¬ m = "wide") : (fD sz du dr lt lu).lookup m = none := by
  unfold fD
  rw [lookup_putF, if_neg h1, lookup_putF, if_neg h2, lookup_putF, if_neg h3, lookup_putF, if_neg h4, lookup_putF, if_neg h5]
  rfl
/-- a desk of the class at C stands at d, its parts at du, dr, lt, lu -/
structure DeskIn (C : Addr) (H : Hp) (d dx du dr lt lu : Addr) (sz : Int) (ns : List Str) (s : DS) : Prop where
  ins : H d = some (.ins C dx (fD sz du dr lt lu))
  up : H du = some (.dK (kvI ns s.up))
  rem : H dr = some (.dK (kvI ns s.rem))
  own : H lt = some (.lst (s.own.map V.str))
  us : ∃ vs, H lu = some (.lst vs) ∧ EntL H s.us vs
  ne : du ≠ dr
  nl : lt ≠ lu
theorem DeskIn.mono {C : Addr} {H H' : Hp} {d dx du dr lt lu : Addr} {sz : Int} {ns : List Str} {s : DS} (h : DeskIn C H d dx du dr lt lu sz ns s) (x : Ext H H') : DeskIn C H' d dx du dr lt lu sz ns s := by
  obtain ⟨vs, h1, h2⟩ := h.us
  exact ⟨x _ _ h.ins, x _ _ h.up, x _ _ h.rem, x _ _ h.own, ⟨vs, x _ _ h1, h2.mono x⟩, h.ne, h.nl⟩
/-- what the class of desks must have -/
structure DeskC (K : PySem.W.Frag) (C : Addr) : Prop where
  cl : Cls K C
  nW : NoAttr K C "wide"
  nU : NoAttr K C "upcoming"
  nR : NoAttr K C "remaining"
  nT : NoAttr K C "takers"
  nS : NoAttr K C "shown_uses"
end NB

set_option Elab.async false
set_option linter.all false
set_option maxRecDepth 100000
set_option maxHeartbeats 4000000
/-! K4e (k29): a desk's methods -/
namespace NB
open PySem PySem.Spec L2
open PyProof.Rows (envOfC)
open C8 (pe_c pe_mk pe_mt pe_mt0 pe_gc fnScope fnBody fnArgs fnScope_by Cal Met Mak)
theorem u2 {k : Nat} {A : Around} (hr : Room k A) : A.units + 1 < cLine := by have := hr.un; omega
theorem valV_in {ns : List Str} {f : Str → Int} {z : Str} (h : z ∈ ns) : valV (kvI ns f) (Sum.inr z) = some (V.int (f z)) := by rw [valV_kvI, if_pos h]
theorem dget_in {H : Hp} {a : Addr} {ns : List Str} {f : Str → Int} {z : Str} (h : H a = some (.dK (kvI ns f))) (hz : z ∈ ns) : DGet H a (.str z) (some (.int (f z))) := by
  have := DGet.k (k := Sum.inr z) h
  rw [valV_in hz] at this
  exact this
theorem dput_in {H : Hp} {a : Addr} {ns : List Str} {f : Str → Int} {z : Str} {v : Int} (h : H a = some (.dK (kvI ns f))) (hz : z ∈ ns) (hn : ns.length ≤ 12) : DPut H a (.str z) (.int v) (upd H a (.dK (kvI ns (putI f z v)))) := by
  have := DPut.k (k := Sum.inr z) (v := .int v) h (by rw [kvI_len]; exact Nat.lt_of_le_of_lt hn (by decide))
  rw [putK_kvI hz] at this
  exact this
theorem snoc' {H : Hp} : ∀ {es : List (Str × Int)} {xs : List V} {e : Str × Int} {v : V}, EntL H es xs → EntAt H e v → EntL H (es ++ [e]) (xs ++ [v])
  | _, _, _, _, .nil, h => .cons h .nil
  | _, _, _, _, .cons r q, h => .cons r (snoc' q h)
/-- a step at a desk -/
def spStep (b : Bool) (C : Addr) : Sp := fun vs H Q _ => ∃ d dx du dr lt lu sz ns s z, vs = [.ref d, .str z] ∧ DeskIn C H d dx du dr lt lu sz ns s ∧ z ∈ ns ∧ ns.length ≤ 12 ∧ 1 ≤ sz ∧ sz ≤ 10 ^ 30 ∧ s.own.length ≤ 1000 ∧ s.us.length ≤ 1000 ∧
  (stepD sz s (b, z) = none → Q (.bl false) H) ∧ ∀ t, stepD sz s (b, z) = some t → ∀ H', DeskIn C H' d dx du dr lt lu sz ns t → Frm [du, dr, lt, lu] H H' → Q (.bl true) H'
section
variable {P : Program} {w : World} {K : PySem.W.Frag} {mg : Str → Option Value} {base : Heap} {C : Addr}
theorem ok_take (T : Blt mg) (L : DeskC K C) {f : Addr} {fd : FuncData} (D : Mx K "take" "Desk.take" s_Desk_take ["self", "name"] f fd) : FnOk P w K mg base C8.CX0 1 f fd ["self", "name"] (spStep true C) := by
  refine fn_of' D sc_Desk_take (fun vs H Q E h => ?_) (fun cdv A o s H vs Q E hr h => ?_)
  · obtain ⟨d, dx, du, dr, lt, lu, sz, ns, s, z, rfl, _⟩ := h; rfl
  · obtain ⟨d, dx, du, dr, lt, lu, sz, ns, st, z, rfl, dk, hz, hn, sz1, sz2, ho, hu, k0, k1⟩ := h
    refine ⟨_, (pss_cons (ps_if (qt m_gt (pe_dget (u2 hr) (pe_fld (mv 0) rfl) (mv 1) (fun _ _ => rfl)) pe_int (nomark _)) (pss_one (ps_ret pe_bl)) pss_nil)
    (pss_cons (ps_asg (pe_op m_mul (pe_callB call_len (by rfl) T.n_len (by decide +kernel) (pa_cons (pe_fld (mv 0) rfl) pa_nil)) (pe_fld (mv 0) rfl)) (pg_sub (pe_fld (mv 0) rfl) (mv 1) (set_dict (u2 hr))))
    (pss_cons (ps_asg (pe_fld (mv 0) rfl) (pg_sub (pe_fld (mv 0) rfl) (mv 1) (set_dict (u2 hr))))
    (pss_cons (ps_expr (pe_bm PySem.F.plainAttrs_list PySem.F.slot_list_append PySem.F.type_list_append mt_append (pe_fld (mv 0) rfl) (pa_cons (mv 1) pa_nil)))
    (pss_one (ps_ret pe_bl)))))), ?_⟩
    refine ⟨d, C, dx, _, _, rfl, dk.ins, L.cl, L.nR, fD_rem _ _ _ _ _, dr, _, rfl, dget_in dk.rem hz, ?_⟩
    refine (show if decide (0 < st.rem z) = true then _ else _ from ?_)
    refine ifD (fun e => ?_) (fun e => ?_)
    · exact k0 (by show (if st.rem z > 0 then none else _) = none; rw [if_pos e])
    refine ⟨d, C, dx, _, _, rfl, dk.ins, L.cl, L.nT, fD_own _ _ _ _ _, _, _, rfl, .inl ⟨_, SqL.of dk.own, rfl⟩, d, C, dx, _, _, rfl, dk.ins, L.cl, L.nW, fD_wide _ _ _ _ _, mulL (by omega) (by rw [List.length_map]; omega), ?_⟩
    rw [List.length_map]
    have dru : dr ≠ du := dk.ne.symm
    refine ⟨d, C, dx, _, _, rfl, dk.ins, L.cl, L.nU, fD_up _ _ _ _ _, du, _, rfl, dput_in dk.up hz hn, ?_⟩
    have d_du : d ≠ du := ne_of dk.ins dk.up (fun z => nomatch z)
    have d_dr : d ≠ dr := ne_of dk.ins dk.rem (fun z => nomatch z)
    have i1 : (upd H du (.dK (kvI ns (putI st.up z (st.own.length * sz))))) d = some (.ins C dx (fD sz du dr lt lu)) := by rw [upd_ne d_du]; exact dk.ins
    have r1 : (upd H du (.dK (kvI ns (putI st.up z (st.own.length * sz))))) dr = some (.dK (kvI ns st.rem)) := by rw [upd_ne dru]; exact dk.rem
    refine ⟨d, C, dx, _, _, rfl, i1, L.cl, L.nW, fD_wide _ _ _ _ _, d, C, dx, _, _, rfl, i1, L.cl, L.nR, fD_rem _ _ _ _ _, dr, _, rfl, dput_in r1 hz hn, ?_⟩
    obtain ⟨vs, hus, hel⟩ := dk.us
    have lt_du : lt ≠ du := ne_of dk.own dk.up (fun z => nomatch z)
    have lt_dr : lt ≠ dr := ne_of dk.own dk.rem (fun z => nomatch z)
    have lu_du : lu ≠ du := ne_of hus dk.up (fun z => nomatch z)
    have lu_dr : lu ≠ dr := ne_of hus dk.rem (fun z => nomatch z)
    have d_lt : d ≠ lt := ne_of dk.ins dk.own (fun z => nomatch z)
    have i2 : (upd (upd H du (.dK (kvI ns (putI st.up z (st.own.length * sz))))) dr (.dK (kvI ns (putI st.rem z sz)))) d = some (.ins C dx (fD sz du dr lt lu)) := by rw [upd_ne d_dr]; exact i1
    have o2 : (upd (upd H du (.dK (kvI ns (putI st.up z (st.own.length * sz))))) dr (.dK (kvI ns (putI st.rem z sz)))) lt = some (.lst (st.own.map V.str)) := by rw [upd_ne lt_dr, upd_ne lt_du]; exact dk.own
    refine ⟨d, C, dx, _, _, rfl, i2, L.cl, L.nT, fD_own _ _ _ _ _, .inl ⟨rfl, _, SqL.of o2⟩, lt, _, _, rfl, rfl, o2, by rw [List.length_map]; exact Nat.lt_of_le_of_lt ho (by decide), ?_⟩
    have es : stepD sz st (true, z) = some { rem := putI st.rem z sz, up := putI st.up z (st.own.length * sz), own := st.own ++ [z], us := st.us } := by
      show (if st.rem z > 0 then none else _) = _
      rw [if_neg e]
    have t1 : TupSt H (upd H du (.dK (kvI ns (putI st.up z (st.own.length * sz))))) := TupSt.upd dk.up (fun _ z => nomatch z)
    have t2 : TupSt (upd H du (.dK (kvI ns (putI st.up z (st.own.length * sz))))) (upd (upd H du (.dK (kvI ns (putI st.up z (st.own.length * sz))))) dr (.dK (kvI ns (putI st.rem z sz)))) := TupSt.upd r1 (fun _ z => nomatch z)
    have t3 : TupSt (upd (upd H du (.dK (kvI ns (putI st.up z (st.own.length * sz))))) dr (.dK (kvI ns (putI st.rem z sz)))) (upd (upd (upd H du (.dK (kvI ns (putI st.up z (st.own.length * sz))))) dr (.dK (kvI ns (putI st.rem z sz)))) lt (.lst (st.own.map V.str ++ [V.str z]))) := TupSt.upd o2 (fun _ z => nomatch z)
    refine k1 _ es _ ⟨by rw [upd_ne d_lt]; exact i2, by rw [upd_ne lt_du.symm, upd_ne dk.ne]; exact upd_same, by rw [upd_ne lt_dr.symm]; exact upd_same, by rw [upd_same, List.map_append]; rfl, ⟨vs, by rw [upd_ne dk.nl.symm, upd_ne lu_dr, upd_ne lu_du]; exact hus, ((hel.st t1).st t2).st t3⟩, dk.ne, dk.nl⟩ ?_
    intro c u hc nc
    simp only [List.mem_cons, List.not_mem_nil, or_false, not_or] at nc
    rw [upd_ne nc.2.2.1, upd_ne nc.2.1, upd_ne nc.1]
    exact hc
theorem ok_use (T : Blt mg) (L : DeskC K C) {f : Addr} {fd : FuncData} (D : Mx K "use" "Desk.use" s_Desk_use ["self", "name"] f fd) : FnOk P w K mg base C8.CX0 1 f fd ["self", "name"] (spStep false C) := by
  refine fn_of' D sc_Desk_use (fun vs H Q E h => ?_) (fun cdv A o s H vs Q E hr h => ?_)
  · obtain ⟨d, dx, du, dr, lt, lu, sz, ns, s, z, rfl, _⟩ := h; rfl
  · obtain ⟨d, dx, du, dr, lt, lu, sz, ns, st, z, rfl, dk, hz, hn, sz1, sz2, ho, hu, k0, k1⟩ := h
    obtain ⟨vs, hus, hel⟩ := dk.us
    have d_du : d ≠ du := ne_of dk.ins dk.up (fun z => nomatch z)
    have d_dr : d ≠ dr := ne_of dk.ins dk.rem (fun z => nomatch z)
    have d_lu : d ≠ lu := ne_of dk.ins hus (fun z => nomatch z)
    have lt_du : lt ≠ du := ne_of dk.own dk.up (fun z => nomatch z)
    have lt_dr : lt ≠ dr := ne_of dk.own dk.rem (fun z => nomatch z)
    have lu_du : lu ≠ du := ne_of hus dk.up (fun z => nomatch z)
    have lu_dr : lu ≠ dr := ne_of hus dk.rem (fun z => nomatch z)
    refine ⟨_, (pss_cons (ps_if (qt m_eq (pe_dget (u2 hr) (pe_fld (mv 0) rfl) (mv 1) (fun _ _ => rfl)) pe_int (nomark _)) (pss_one (ps_ret pe_bl)) pss_nil)
    (pss_cons (ps_expr (pe_bm PySem.F.plainAttrs_list PySem.F.slot_list_append PySem.F.type_list_append mt_append (pe_fld (mv 0) rfl) (pa_cons (pe_tup (pa_cons (mv 1) (pa_cons (pe_dget (u2 hr) (pe_fld (mv 0) rfl) (mv 1) (fun _ _ => rfl)) pa_nil))) pa_nil)))
    (pss_cons (ps_daug (u2 hr) (pe_fld (mv 0) rfl) (mv 1) pe_int in_add (fun _ _ _ => rfl))
    (pss_cons (ps_daug (u2 hr) (pe_fld (mv 0) rfl) (mv 1) pe_int in_sub (fun _ _ _ => rfl))
    (pss_one (ps_ret pe_bl)))))), ?_⟩
    refine ⟨d, C, dx, _, _, rfl, dk.ins, L.cl, L.nR, fD_rem _ _ _ _ _, dr, _, rfl, dget_in dk.rem hz, ?_⟩
    refine (show if decide (st.rem z = 0) = true then _ else _ from ?_)
    refine ifD (fun e => ?_) (fun e => ?_)
    · exact k0 (by show (if st.rem z = 0 then none else _) = none; rw [if_pos e])
    refine ⟨d, C, dx, _, _, rfl, dk.ins, L.cl, L.nS, fD_us _ _ _ _ _, .inl ⟨rfl, _, SqL.of hus⟩, d, C, dx, _, _, rfl, dk.ins, L.cl, L.nU, fD_up _ _ _ _ _, du, _, rfl, dget_in dk.up hz, (by show 2 ≤ sizeLine; decide), fun tp htp => ?_⟩
    have x1 := Ext.upd (o := .tup [.str z, .int (st.up z)]) htp
    have e1 : EntAt (upd H tp (.tup [.str z, .int (st.up z)])) (z, st.up z) (.ref tp) := ⟨tp, rfl, upd_same⟩
    have dk1 := dk.mono x1
    have hus1 := x1 _ _ hus
    have hel1 := hel.mono x1
    generalize upd H tp (.tup [.str z, .int (st.up z)]) = G1 at x1 e1 dk1 hus1 hel1 ⊢
    refine ⟨lu, vs, _, rfl, rfl, hus1, by rw [← hel.len]; exact Nat.lt_of_le_of_lt hu (by decide), ?_⟩
    have h2 : (upd G1 lu (.lst (vs ++ [.ref tp]))) lu = some (.lst (vs ++ [.ref tp])) := upd_same
    have i2 : (upd G1 lu (.lst (vs ++ [.ref tp]))) d = some (.ins C dx (fD sz du dr lt lu)) := by rw [upd_ne d_lu]; exact dk1.ins
    have u2 : (upd G1 lu (.lst (vs ++ [.ref tp]))) du = some (.dK (kvI ns st.up)) := by rw [upd_ne lu_du.symm]; exact dk1.up
    have r2 : (upd G1 lu (.lst (vs ++ [.ref tp]))) dr = some (.dK (kvI ns st.rem)) := by rw [upd_ne lu_dr.symm]; exact dk1.rem
    have o2 : (upd G1 lu (.lst (vs ++ [.ref tp]))) lt = some (.lst (st.own.map V.str)) := by rw [upd_ne dk.nl]; exact dk1.own
    have t1 : TupSt G1 (upd G1 lu (.lst (vs ++ [.ref tp]))) := TupSt.upd hus1 (fun _ z => nomatch z)
    have el2 : EntL (upd G1 lu (.lst (vs ++ [.ref tp]))) (st.us ++ [(z, st.up z)]) (vs ++ [.ref tp]) := by
      have e2 : EntAt (upd G1 lu (.lst (vs ++ [.ref tp]))) (z, st.up z) (.ref tp) := by obtain ⟨_, e, h⟩ := e1; exact ⟨_, e, t1 _ _ h⟩
      exact snoc' (hel1.st t1) e2
    have f2 : Frm [du, dr, lt, lu] H (upd G1 lu (.lst (vs ++ [.ref tp]))) := fun c u hc nc => by
      simp only [List.mem_cons, List.not_mem_nil, or_false, not_or] at nc
      rw [upd_ne nc.2.2.2]
      exact x1 _ _ hc
    generalize upd G1 lu (.lst (vs ++ [.ref tp])) = G2 at h2 i2 u2 r2 o2 el2 f2 ⊢
    refine ⟨d, C, dx, _, _, rfl, i2, L.cl, L.nU, fD_up _ _ _ _ _, du, _, rfl, dget_in u2 hz, _, _, rfl, rfl, _, dput_in u2 hz hn, ?_⟩
    have i3 : (upd G2 du (.dK (kvI ns (putI st.up z (st.up z + 1))))) d = some (.ins C dx (fD sz du dr lt lu)) := by rw [upd_ne d_du]; exact i2
    have r3 : (upd G2 du (.dK (kvI ns (putI st.up z (st.up z + 1))))) dr = some (.dK (kvI ns st.rem)) := by rw [upd_ne dk.ne.symm]; exact r2
    refine ⟨d, C, dx, _, _, rfl, i3, L.cl, L.nR, fD_rem _ _ _ _ _, dr, _, rfl, dget_in r3 hz, _, _, rfl, rfl, _, dput_in r3 hz hn, ?_⟩
    have es : stepD sz st (false, z) = some { rem := putI st.rem z (st.rem z - 1), up := putI st.up z (st.up z + 1), own := st.own, us := st.us ++ [(z, st.up z)] } := by
      show (if st.rem z = 0 then none else _) = _
      rw [if_neg e]
    have t2 : TupSt G2 (upd G2 du (.dK (kvI ns (putI st.up z (st.up z + 1))))) := TupSt.upd u2 (fun _ z => nomatch z)
    have t3 : TupSt (upd G2 du (.dK (kvI ns (putI st.up z (st.up z + 1))))) (upd (upd G2 du (.dK (kvI ns (putI st.up z (st.up z + 1))))) dr (.dK (kvI ns (putI st.rem z (st.rem z - 1))))) := TupSt.upd r3 (fun _ z => nomatch z)
    refine k1 _ es _ ⟨by rw [upd_ne d_dr]; exact i3, by rw [upd_ne dk.ne]; exact upd_same, upd_same, by rw [upd_ne lt_dr, upd_ne lt_du]; exact o2, ⟨_, by rw [upd_ne lu_dr, upd_ne lu_du]; exact h2, (el2.st t2).st t3⟩, dk.ne, dk.nl⟩ ?_
    intro c u hc nc
    have nc' := nc
    simp only [List.mem_cons, List.not_mem_nil, or_false, not_or] at nc
    rw [upd_ne nc.2.1, upd_ne nc.1]
    exact f2 c u hc nc'
end
end NB

set_option Elab.async false
set_option linter.all false
set_option maxRecDepth 100000
set_option maxHeartbeats 4000000
/-! K4f (k29): an event played at a desk -/
namespace NB
open PySem PySem.Spec L2
open PyProof.Rows (envOfC)
open C8 (pe_c pe_mk pe_mt pe_mt0 pe_gc fnScope fnBody fnArgs fnScope_by Cal Met Mak)
theorem ps0 {X : Cx} : Passes C8.CX0 X C8.E0 := C8.pass0
structure Tk (mg : Str → Option Value) : Prop extends Blt mg where
  g_TAKE : GV mg "TAKE" (.str "take")
  g_USE : GV mg "USE" (.str "use")
  g_MOST_EVENTS : GV mg "MOST_EVENTS" (.int 1000)
structure DeskM (K : PySem.W.Frag) (C fT fU : Addr) : Prop extends DeskC K C where
  mT : Meth K C "take" fT
  mU : Meth K C "use" fU
/-- the word of an event -/
def evW (b : Bool) : Str := if b = true then "take" else "use"
theorem evT : decide (evW true = ("take" : Str)) = true := by decide +kernel
theorem evF : decide (evW false = ("take" : Str)) = false := by decide +kernel
theorem evU : decide (evW false = ("use" : Str)) = true := by decide +kernel
/-- an event stands at v -/
def EvAt (H : Hp) (e : Ev) (v : V) : Prop := ∃ p, v = .ref p ∧ H p = some (.tup [.str (evW e.1), .str e.2])
abbrev EvL (H : Hp) : List Ev → List V → Prop := Paired (EvAt H)
def spPlay (C : Addr) : Sp := fun vs H Q _ => ∃ d dx du dr lt lu sz ns s e v t, vs = [.ref d, v] ∧ EvAt H e v ∧ DeskIn C H d dx du dr lt lu sz ns s ∧ e.2 ∈ ns ∧ ns.length ≤ 12 ∧ 1 ≤ sz ∧ sz ≤ 10 ^ 30 ∧ s.own.length ≤ 1000 ∧ s.us.length ≤ 1000 ∧
  stepD sz s e = some t ∧ ∀ H', DeskIn C H' d dx du dr lt lu sz ns t → Frm [du, dr, lt, lu] H H' → Q (.bl true) H'
section
variable {P : Program} {w : World} {K : PySem.W.Frag} {mg : Str → Option Value} {base : Heap} {C fT fU : Addr} {dT dU : FuncData}
theorem ok_play (T : Tk mg) (L : DeskM K C fT fU) (F_take : FnOk P w K mg base C8.CX0 1 fT dT ["self", "name"] (spStep true C)) (bT : Binds K dT ["self", "name"] []) (F_use : FnOk P w K mg base C8.CX0 1 fU dU ["self", "name"] (spStep false C)) (bU : Binds K dU ["self", "name"] [])
    {f : Addr} {fd : FuncData} (D : Mx K "play" "Desk.play" s_Desk_play ["self", "event"] f fd) : FnOk P w K mg base C8.CX0 2 f fd ["self", "event"] (spPlay C) := by
  refine fn_of' D sc_Desk_play (fun vs H Q E h => ?_) (fun cdv A o s H vs Q E hr h => ?_)
  · obtain ⟨d, dx, du, dr, lt, lu, sz, ns, s, e, v, t, rfl, _⟩ := h; rfl
  · obtain ⟨d, dx, du, dr, lt, lu, sz, ns, st, ⟨b, z⟩, v, t, rfl, ⟨tp, rfl, htp⟩, dk, hz, hn, sz1, sz2, ho, hu, es, k⟩ := h
    refine ⟨_, (pss_cons (ps_if (PW.pt (pw_or (pt_not (qv (pe_callB call_isi (by rfl) T.n_isinstance (by decide +kernel) (pa_cons (mv 1) (pa_cons (pe_bltn (v := .ty "tuple") (u := .type "tuple") (by rfl) T.n_tuple (by decide +kernel) rfl) pa_nil))))) (pw_or (qt m_ne (pe_callB call_len (by rfl) T.n_len (by decide +kernel) (pa_cons (mv 1) pa_nil)) pe_int (nomark _)) (pw_or1 (pt_not (qv (pe_callB call_isi (by rfl) T.n_isinstance (by decide +kernel) (pa_cons (pe_ix m_ix (mv 1) pe_int (fun _ _ => rfl)) (pa_cons (pe_bltn (v := .ty "str") (u := .type "str") (by rfl) T.n_str (by decide +kernel) rfl) pa_nil))))))))) (pss_one (ps_ret pe_bl)) pss_nil)
    (pss_cons (ps_if (PW.pt (pw_or (pt_cmp (pc_dnotin (u2 hr) (pe_ix m_ix (mv 1) pe_int (fun _ _ => rfl)) (pe_fld (mv 0) rfl))) (pw_or1 (pt_not (qv (pe_callB call_isi (by rfl) T.n_isinstance (by decide +kernel) (pa_cons (pe_ix m_ix (mv 1) pe_int (fun _ _ => rfl)) (pa_cons (pe_bltn (v := .ty "str") (u := .type "str") (by rfl) T.n_str (by decide +kernel) rfl) pa_nil)))))))) (pss_one (ps_ret pe_bl)) pss_nil)
    (pss_cons (ps_if (qt m_eq (pe_ix m_ix (mv 1) pe_int (fun _ _ => rfl)) (pe_gc rfl T.g_TAKE) (nomark _)) (pss_one (ps_ret (pe_meth (mv 0) L.cl L.mT F_take (hr.mono (by decide)) bT .nil ps0 (pa_cons (pe_ix m_ix (mv 1) pe_int (fun _ _ => rfl)) pa_nil)))) pss_nil)
    (pss_one (ps_ret (pe_and (pe_cmpR m_eq (pe_ix m_ix (mv 1) pe_int (fun _ _ => rfl)) (pe_gc rfl T.g_USE) (nomark _)) (pe_one (pe_meth (mv 0) L.cl L.mU F_use (hr.mono (by decide)) bU .nil ps0 (pa_cons (pe_ix m_ix (mv 1) pe_int (fun _ _ => rfl)) pa_nil))))))))), ?_⟩
    refine ⟨_, _, _, _, _, rfl, .ty _, .base (.tup htp), kt_tup_tup, ifF (by rfl) ?_⟩
    refine ⟨_, _, rfl, .inr ⟨_, SqT.of htp, rfl⟩, ?_⟩
    dsimp only [tC, mEqG, kB]
    refine ifF (by rfl) ?_
    refine ⟨_, _, .inr (SqT.of htp), atI_nat (j := 1) rfl, ?_⟩
    refine ⟨_, _, _, _, _, rfl, .ty _, .base (.str z), kt_str_str, ifF (by rfl) ?_⟩
    refine ⟨_, _, .inr (SqT.of htp), atI_nat (j := 1) rfl, d, C, dx, _, _, rfl, dk.ins, L.cl, L.nR, fD_rem _ _ _ _ _, dr, _, rfl, dget_in dk.rem hz, ?_⟩
    refine ⟨_, rfl, ifF (by rfl) ?_⟩
    refine ⟨_, _, .inr (SqT.of htp), atI_nat (j := 0) rfl, ?_⟩
    refine ⟨_, _, _, _, _, rfl, .ty _, .base (.str _), kt_str_str, ifF (by rfl) ?_⟩
    refine ⟨_, _, .inr (SqT.of htp), atI_nat (j := 0) rfl, ?_⟩
    dsimp only [tC, mEqG, kB]
    have nT : (fD sz du dr lt lu).lookup ("take" : Str) = none := fD_no _ _ _ _ _ (by decide +kernel) (by decide +kernel) (by decide +kernel) (by decide +kernel) (by decide +kernel)
    have nU : (fD sz du dr lt lu).lookup ("use" : Str) = none := fD_no _ _ _ _ _ (by decide +kernel) (by decide +kernel) (by decide +kernel) (by decide +kernel) (by decide +kernel)
    have fin : ∀ b' : Bool, b' = b → (stepD sz st (b', z) = none → Q (.bl false) H) ∧ ∀ t', stepD sz st (b', z) = some t' → ∀ H', DeskIn C H' d dx du dr lt lu sz ns t' → Frm [du, dr, lt, lu] H H' → Q (.bl true) H' := by
      intro b' e
      subst e
      refine ⟨fun h => (by rw [es] at h; cases h), fun t' h H' dk' fr => ?_⟩
      rw [es] at h
      cases h
      exact k H' dk' fr
    cases b with
    | true =>
      refine ifT evT ?_
      refine ⟨d, dx, _, rfl, dk.ins, nT, _, _, .inr (SqT.of htp), atI_nat (j := 1) rfl, ?_⟩
      exact ⟨d, dx, du, dr, lt, lu, sz, ns, st, z, rfl, dk, hz, hn, sz1, sz2, ho, hu, (fin true rfl).1, (fin true rfl).2⟩
    | false =>
      refine ifF evF ?_
      refine ⟨_, _, .inr (SqT.of htp), atI_nat (j := 0) rfl, _, rfl, ifT evU ?_⟩
      refine ⟨d, dx, _, rfl, dk.ins, nU, _, _, .inr (SqT.of htp), atI_nat (j := 1) rfl, ?_⟩
      exact ⟨d, dx, du, dr, lt, lu, sz, ns, st, z, rfl, dk, hz, hn, sz1, sz2, ho, hu, (fin false rfl).1, (fin false rfl).2⟩
end
end NB

set_option Elab.async false
set_option linter.all false
set_option maxRecDepth 100000
/-! K4g (k29): a dict by a comprehension over a list -/
namespace NB
open PySem PySem.Spec L2
theorem dc_list {K : PySem.W.Frag} {a : Addr} {xs : List V} {g : TG} {tt : TT} {tk tv : TE} {vs : List Nat} {σ : L2.St} {H1 : Hp} {D : Addr} {Qd : Hp → Prop} (Pv : Nat → Hp → Prop) (h0 : Pv 0 (upd H1 D (.dK []))) (hl : ∀ i H, i ≤ xs.length → Pv i H → SqL K H a xs)
    (hs : ∀ i x H, xs[i]? = some x → Pv i H → g x (wipe σ vs) H fun σ2 H2 => wipe σ2 vs = wipe σ vs ∧ tt σ2 H2 fun b H3 =>
      if b = true then tk σ2 H3 fun y H4 => tv σ2 H4 fun z H5 => ∃ kvs k, y = kV k ∧ H5 D = some (.dK kvs) ∧ kvs.length < sizeLine ∧ Pv (i + 1) (upd H5 D (.dK (putK kvs k z))) else Pv (i + 1) H3) (hd : ∀ H, Pv xs.length H → Qd H) :
    ∃ W : Nat → Nat → Hp → Prop, (∃ m, W 0 m (upd H1 D (.dK []))) ∧ ∀ i m H, W i m H →
      ((Itl K a).stop i H ∧ Qd H) ∨ ((Itl K a).go i H ∧ ∃ Nx : Hp → Prop, (∀ H', Nx H' → ∃ m', m' < m ∧ W (i + 1) m' H') ∧ ∀ x H', (Itl K a).yld i H x H' → g x (wipe σ vs) H' fun σ2 H2 => wipe σ2 vs = wipe σ vs ∧ tt σ2 H2 fun b H3 =>
        if b = true then tk σ2 H3 fun y H4 => tv σ2 H4 fun z H5 => ∃ kvs k, y = kV k ∧ H5 D = some (.dK kvs) ∧ kvs.length < sizeLine ∧ Nx (upd H5 D (.dK (putK kvs k z))) else Nx H3) := by
  refine ⟨fun i m H => m = xs.length - i ∧ i ≤ xs.length ∧ Pv i H, ⟨xs.length, by simp, Nat.zero_le _, h0⟩, ?_⟩
  rintro i m H ⟨rfl, hi, p⟩
  have q := hl i H hi p
  by_cases h : i < xs.length
  · refine .inr ⟨⟨xs, xs[i], q, by simp [h]⟩, Pv (i + 1), fun H' p' => ⟨xs.length - (i + 1), by omega, rfl, h, p'⟩, fun x H' y => ?_⟩
    obtain ⟨e, y⟩ := y
    subst e
    exact hs i x _ (y xs q) p
  · obtain rfl : i = xs.length := by omega
    exact .inl ⟨⟨xs, q, Nat.le_refl _⟩, hd H p⟩
theorem kvI_snoc {ns : List Str} {f : Str → Int} {z : Str} (nd : z ∉ ns) : putK (kvI ns f) (Sum.inr z) (V.int (f z)) = kvI (ns ++ [z]) f := by
  unfold putK
  rw [valV_any, valV_kvI, if_neg nd]
  unfold kvI
  rw [List.map_append]
  rfl
end NB

set_option Elab.async false
set_option linter.all false
set_option maxRecDepth 100000
set_option maxHeartbeats 4000000
/-! K4h (k29): a new desk -/
namespace NB
open PySem PySem.Spec L2
open PyProof.Rows (envOfC)
open C8 (pe_c pe_mk pe_mt pe_mt0 pe_gc fnScope fnBody fnArgs fnScope_by Cal Met Mak)
def spDeskI (C : Addr) : Sp := fun vs H Q _ => ∃ d dx sz a ns, vs = [.ref d, .int sz, .ref a] ∧ H d = some (.ins C dx []) ∧ H a = some (.lst (ns.map V.str)) ∧ ns.Nodup ∧ ns.length ≤ 12 ∧
  ∀ H' du dr lt lu, DeskIn C H' d dx du dr lt lu sz ns ⟨fun _ => 0, fun _ => 0, [], []⟩ → H du = none → H dr = none → H lt = none → H lu = none → Frm [d] H H' → Q .non H'
section
variable {P : Program} {w : World} {K : PySem.W.Frag} {mg : Str → Option Value} {base : Heap} {C : Addr}
theorem unN {H : Hp} {a b : Addr} {o : HO} (e : upd H a o b = none) : H b = none := (upd_none e).2
theorem zero_dc {x0 x1 x2 : V} {H : Hp} {a D : Addr} {ns : List Str} {Qd : Hp → Prop} (ha : H a = some (.lst (ns.map V.str))) (nd : ns.Nodup) (hn : ns.length ≤ 12) (nD : H D = none)
    (k : Qd (upd H D (.dK (kvI ns fun _ => 0)))) : ∃ W : Nat → Nat → Hp → Prop, (∃ m, W 0 m (upd H D (.dK []))) ∧ ∀ i m H, W i m H →
      ((Itl K a).stop i H ∧ Qd H) ∨ ((Itl K a).go i H ∧ ∃ Nx : Hp → Prop, (∀ H', Nx H' → ∃ m', m' < m ∧ W (i + 1) m' H') ∧ ∀ x H', (Itl K a).yld i H x H' → gName 3 x (wipe [some x0, some x1, some x2, none] [3]) H' fun σ2 H2 => wipe σ2 [3] = wipe [some x0, some x1, some x2, none] [3] ∧ tYes σ2 H2 fun b H3 =>
        if b = true then mV 3 σ2 H3 fun y H4 => tC (.int 0) σ2 H4 fun z H5 => ∃ kvs k, y = kV k ∧ H5 D = some (.dK kvs) ∧ kvs.length < sizeLine ∧ Nx (upd H5 D (.dK (putK kvs k z))) else Nx H3) := by
  have ne : a ≠ D := ne_of_none ha nD
  refine dc_list (xs := ns.map V.str) (fun i H' => H' = upd H D (.dK (kvI (ns.take i) fun _ => 0))) (by rfl) (fun i H' _ e => ?_) (fun i x H' hx e => ?_) (fun H' e => ?_)
  · rw [e]; exact SqL.of (by rw [upd_ne ne]; exact ha)
  · rw [List.getElem?_map] at hx
    cases hz : ns[i]? with
    | none => rw [hz] at hx; cases hx
    | some z =>
      rw [hz] at hx
      obtain rfl : V.str z = x := Option.some.inj hx
      obtain ⟨hi, ez⟩ := List.getElem?_eq_some_iff.mp hz
      have nm : z ∉ ns.take i := fun m => by
        have q : (ns.take i ++ ns.drop i).Nodup := by rw [List.take_append_drop]; exact nd
        refine (List.nodup_append.mp q).2.2 z m z ?_ rfl
        rw [List.drop_eq_getElem_cons hi, ez]
        exact List.mem_cons_self
      subst e
      refine ⟨rfl, ?_⟩
      refine ⟨kvI (ns.take i) (fun _ => 0), Sum.inr z, rfl, upd_same, ?_, ?_⟩
      · rw [kvI_len]
        exact Nat.lt_of_le_of_lt (Nat.le_trans (List.length_take_le' _ _) hn) (by decide)
      · show upd (upd H D _) D _ = _
        rw [upd_upd]
        have q := kvI_snoc (f := fun _ => 0) nm
        have t : ns.take (i + 1) = ns.take i ++ [z] := by rw [List.take_succ, hz]; rfl
        rw [t, ← q]
  · rw [e, List.length_map, List.take_length]
    exact k
theorem ok_desk (T : Tk mg) (L : DeskC K C) {f : Addr} {fd : FuncData} (D : Mx K "__init__" "Desk.__init__" s_Desk___init__ ["self", "size", "servers"] f fd) : FnOk P w K mg base C8.CX0 1 f fd ["self", "size", "servers"] (spDeskI C) := by
  refine fn_of' D sc_Desk___init__ (fun vs H Q E h => ?_) (fun cdv A o s H vs Q E hr h => ?_)
  · obtain ⟨d, dx, sz, a, ns, rfl, _⟩ := h; rfl
  · obtain ⟨d, dx, sz, a, ns, rfl, hd, ha, nd, hn, k⟩ := h
    refine ⟨_, (pss_cons (ps_fld (mv 0) (mv 1) rfl)
    (pss_cons (ps_fld (mv 0) (pe_dc (own := [("name", 3)]) (g := gName 3) (tt := tYes) (tk := mV 3) (tv := tC (.int 0)) rfl sc_Desk___init__.nd (pi_list (mv 2)) (blkOk_by (own := [("name", 3)]) (N := ["self", "size", "servers", "name"]) (sc := fnScope s_Desk___init__) (by decide +kernel)) (fun _ _ _ _ _ => (pg_name (i := 3) sc_Desk___init__.nd rfl (Or.inl rfl))) (fun _ _ _ _ _ => pts_nil) (fun _ _ _ _ _ => (mv 3)) (fun _ _ _ _ _ => pe_int)) rfl)
    (pss_cons (ps_fld (mv 0) (pe_dc (own := [("name", 3)]) (g := gName 3) (tt := tYes) (tk := mV 3) (tv := tC (.int 0)) rfl sc_Desk___init__.nd (pi_list (mv 2)) (blkOk_by (own := [("name", 3)]) (N := ["self", "size", "servers", "name"]) (sc := fnScope s_Desk___init__) (by decide +kernel)) (fun _ _ _ _ _ => (pg_name (i := 3) sc_Desk___init__.nd rfl (Or.inl rfl))) (fun _ _ _ _ _ => pts_nil) (fun _ _ _ _ _ => (mv 3)) (fun _ _ _ _ _ => pe_int)) rfl)
    (pss_cons (ps_fld (mv 0) (pe_lst pa_nil) rfl)
    (pss_one (ps_fld (mv 0) (pe_lst pa_nil) rfl)))))), ?_⟩
    refine ⟨d, C, dx, _, rfl, hd, L.cl, L.nW, (by show 0 < 1000; decide), ?_⟩
    have nad : a ≠ d := ne_of ha hd (by intro z; cases z)
    refine ⟨a, rfl, ⟨_, SqL.of ((upd_ne nad).trans ha)⟩, fun du n1 => zero_dc ((upd_ne nad).trans ha) nd hn n1 ?_⟩
    have d1 : d ≠ du := ne_of_none upd_same n1
    have a1 : a ≠ du := ne_of_none ((upd_ne nad).trans ha) n1
    refine ⟨d, C, dx, _, rfl, by rw [upd_ne d1]; exact upd_same, L.cl, L.nU, (by show 1 < 1000; decide), ?_⟩
    refine ⟨a, rfl, ⟨_, SqL.of ((upd_ne nad).trans ((upd_ne a1).trans ((upd_ne nad).trans ha)))⟩, fun dr n2 => zero_dc ((upd_ne nad).trans ((upd_ne a1).trans ((upd_ne nad).trans ha))) nd hn n2 ?_⟩
    have d2 : d ≠ dr := ne_of_none upd_same n2
    have u2 : du ≠ dr := ne_of_none (by rw [upd_ne d1.symm]; exact upd_same) n2
    refine ⟨d, C, dx, _, rfl, by rw [upd_ne d2]; exact upd_same, L.cl, L.nR, (by show 2 < 1000; decide), ?_⟩
    refine ⟨Nat.zero_le _, fun lt n3 => ?_⟩
    have d3 : d ≠ lt := ne_of_none upd_same n3
    have u3 : du ≠ lt := ne_of_none (by rw [upd_ne d1.symm, upd_ne u2, upd_ne d1.symm]; exact upd_same) n3
    have r3 : dr ≠ lt := ne_of_none (by rw [upd_ne d2.symm]; exact upd_same) n3
    refine ⟨d, C, dx, _, rfl, by rw [upd_ne d3]; exact upd_same, L.cl, L.nT, (by show 3 < 1000; decide), ?_⟩
    refine ⟨Nat.zero_le _, fun lu n4 => ?_⟩
    have d4 : d ≠ lu := ne_of_none upd_same n4
    have u4 : du ≠ lu := ne_of_none (by rw [upd_ne d1.symm, upd_ne u3, upd_ne d1.symm, upd_ne u2, upd_ne d1.symm]; exact upd_same) n4
    have r4 : dr ≠ lu := ne_of_none (by rw [upd_ne d2.symm, upd_ne r3, upd_ne d2.symm]; exact upd_same) n4
    have t4 : lt ≠ lu := ne_of_none (by rw [upd_ne d3.symm]; exact upd_same) n4
    refine ⟨d, C, dx, _, rfl, by rw [upd_ne d4]; exact upd_same, L.cl, L.nS, (by show 4 < 1000; decide), ?_⟩
    have m1 : d ∈ [d] := List.mem_cons_self
    refine k _ du dr lt lu ⟨upd_same, ?_, ?_, ?_, ⟨[], ?_, .nil⟩, u2, t4⟩ (unN n1) (unN (unN (unN n2))) (unN (unN (unN (unN (unN n3))))) (unN (unN (unN (unN (unN (unN (unN n4))))))) ?_
    · rw [upd_ne d1.symm, upd_ne u4, upd_ne d1.symm, upd_ne u3, upd_ne d1.symm, upd_ne u2, upd_ne d1.symm]; exact upd_same
    · rw [upd_ne d2.symm, upd_ne r4, upd_ne d2.symm, upd_ne r3, upd_ne d2.symm]; exact upd_same
    · rw [upd_ne d3.symm, upd_ne t4, upd_ne d3.symm]; exact upd_same
    · rw [upd_ne d4.symm]; exact upd_same
    · exact (((((((((Frm.ext (fun _ _ h => h)).upd m1).new n1).upd m1).new n2).upd m1).new n3).upd m1).new n4).upd m1
end
end NB

set_option Elab.async false
set_option linter.all false
set_option maxRecDepth 100000
set_option maxHeartbeats 4000000
/-! K4i (k29): classes of logs, what a history holds, the greedy walk in plain Lean -/
namespace NB
open PySem PySem.Spec L2
open PyProof.Rows (envOfC)
open C8 (pe_c pe_mk pe_mt pe_mt0 pe_gc fnScope fnBody fnArgs fnScope_by Cal Met Mak)
/-- where the methods of Log stand -/
structure Ads where
  (fI fZ fV fE : Addr)
  (dI dZ dV dE : FuncData)
structure Ms (K : PySem.W.Frag) (A : Ads) : Prop where
  mI : Mx K "__init__" "Log.__init__" s_Log___init__ ["self", "size", "servers", "entries"] A.fI A.dI
  mZ : Mx K "size" "Log.size" s_Log_size ["self"] A.fZ A.dZ
  mV : Mx K "servers" "Log.servers" s_Log_servers ["self"] A.fV A.dV
  mE : Mx K "entries" "Log.entries" s_Log_entries ["self"] A.fE A.dE
structure LogM (K : PySem.W.Frag) (cL C : Addr) (kn : Str) (A : Ads) : Prop extends LogC K C kn where
  mkk : Mk K C A.fI
  pZ : ∃ p, PropOf K C "size" p A.fZ
  pV : ∃ p, PropOf K C "servers" p A.fV
  pE : ∃ p, PropOf K C "entries" p A.fE
  kl : PySem.W.kitOne K (.ref C) (.ref cL) = some true
/-- the fields of a history as __init__ stores them -/
def fH (sz : Int) (d ls le : Addr) : List (Str × V) := putF "held_events" (.ref le) (putF "held_servers" (.ref ls) (putF "held_size" (.int sz) (putF "desk" (.ref d) [])))
theorem fH_desk (sz : Int) (d ls le : Addr) : (fH sz d ls le).lookup ("desk" : Str) = some (.ref d) := by
  unfold fH
  rw [lookup_putF, if_neg (by decide +kernel), lookup_putF, if_neg (by decide +kernel), lookup_putF, if_neg (by decide +kernel), lookup_putF, if_pos rfl]
theorem fH_size (sz : Int) (d ls le : Addr) : (fH sz d ls le).lookup ("held_size" : Str) = some (.int sz) := by
  unfold fH
  rw [lookup_putF, if_neg (by decide +kernel), lookup_putF, if_neg (by decide +kernel), lookup_putF, if_pos rfl]
theorem fH_servers (sz : Int) (d ls le : Addr) : (fH sz d ls le).lookup ("held_servers" : Str) = some (.ref ls) := by
  unfold fH
  rw [lookup_putF, if_neg (by decide +kernel), lookup_putF, if_pos rfl]
/-- a history of the class at C, its desk of the class at CD -/
def HisAt (C CD : Addr) (H : Hp) (p : Addr) (sz : Int) (ns : List Str) (s : DS) : Prop := ∃ px d dx du dr lt lu ls le, H p = some (.ins C px (fH sz d ls le)) ∧ DeskIn CD H d dx du dr lt lu sz ns s ∧ H ls = some (.lst (ns.map V.str))
/-- how many of rows are seen, in order, in us: the walk both of the program and of the law -/
def seenN (rows : List (Str × Int)) : Nat → List (Str × Int) → Nat
  | k, [] => k
  | k, u :: us => seenN rows (if rows[k]? = some u then k + 1 else k) us
theorem seenN_le {rows : List (Str × Int)} : ∀ {us : List (Str × Int)} {k : Nat}, k ≤ rows.length → seenN rows k us ≤ rows.length
  | [], k, h => h
  | u :: us, k, h => by
    refine seenN_le (us := us) ?_
    split
    · rename_i e
      exact (List.getElem?_eq_some_iff.mp e).1
    · exact h
theorem seenN_app {rows : List (Str × Int)} : ∀ {us vs : List (Str × Int)} {k : Nat}, seenN rows k (us ++ vs) = seenN rows (seenN rows k us) vs
  | [], vs, k => rfl
  | u :: us, vs, k => seenN_app (us := us) (vs := vs)
theorem seenN_snoc {rows us : List (Str × Int)} {u : Str × Int} {k : Nat} : seenN rows k (us ++ [u]) = if rows[seenN rows k us]? = some u then seenN rows k us + 1 else seenN rows k us := by
  rw [seenN_app]; rfl
end NB

set_option Elab.async false
set_option linter.all false
set_option maxRecDepth 100000
set_option maxHeartbeats 4000000
/-! K4j (k29): a history called -/
namespace NB
open PySem PySem.Spec L2
open PyProof.Rows (envOfC)
open C8 (pe_c pe_mk pe_mt pe_mt0 pe_gc fnScope fnBody fnArgs fnScope_by Cal Met Mak)
structure HisC (K : PySem.W.Frag) (C : Addr) : Prop where
  cl : Cls K C
  nD : NoAttr K C "desk"
  nZ : NoAttr K C "held_size"
  nV : NoAttr K C "held_servers"
  nE : NoAttr K C "held_events"
/-- what a call with v answers -/
inductive CallJ (K : PySem.W.Frag) (cL : Addr) (A : Ads) (H : Hp) (sz : Int) (ns : List Str) (s : DS) : V → Bool → Prop where
  | odd {v : V} {t : Value} : TyX K H v t → PySem.W.kitOne K t (.ref cL) = some false → CallJ K cL A H sz ns s v false
  | log {q C : Addr} {kn : Str} {sz2 : Int} {ns2 : List Str} {es : List (Str × Int)} : LogAt C H q sz2 ns2 es → LogM K cL C kn A → ns2.length ≤ 12 → (∀ z ∈ ns2, nameB z = true) → (∀ e ∈ es, nameB e.1 = true) →
      CallJ K cL A H sz ns s (.ref q) (decide (sz2 = sz ∧ ns2 = ns ∧ seenN es 0 s.us = es.length))
def spCall (K : PySem.W.Frag) (cL CH CD : Addr) (A : Ads) : Sp := fun vs H Q _ => ∃ p sz ns s v b, vs = [.ref p, v] ∧ HisAt CH CD H p sz ns s ∧ CallJ K cL A H sz ns s v b ∧ ns.length ≤ 12 ∧ (∀ z ∈ ns, nameB z = true) ∧ (∀ e ∈ s.us, nameB e.1 = true) ∧
  ∀ H', Ext H H' → Q (.bl b) H'
theorem seen_bool {a b : Nat} : decide (((a : Nat) : Int) = ((b : Nat) : Int)) = decide (a = b) := decide_eq_decide.mpr ⟨fun h => by omega, fun h => by omega⟩
section
variable {P : Program} {w : World} {K : PySem.W.Frag} {mg : Str → Option Value} {base : Heap} {cL cX CH CD : Addr} {A : Ads}
theorem ok_call (T : Tx K mg cL cX) (L : HisC K CH) (LD : DeskC K CD) (Ms : Ms K A) (ML : LogM K cL cL "steady" A) {f : Addr} {fd : FuncData} (D : Mx K "__call__" "History.__call__" s_History___call__ ["self", "thing"] f fd) : FnOk P w K mg base C8.CX0 3 f fd ["self", "thing"] (spCall K cL CH CD A) := by
  refine fn_of' D sc_History___call__ (fun vs H Q E h => ?_) (fun cdv A' o s H vs Q E hr h => ?_)
  · obtain ⟨p, sz, ns, s, v, b, rfl, _⟩ := h; rfl
  · obtain ⟨p, sz, ns, st, v, b, rfl, hp, j, hn, nb, nbu, k⟩ := h
    cases j with
    | odd ty kt =>
      have M := ML
      have F_size := ok_size (P := P) (w := w) (mg := mg) (base := base) M.toLogC Ms.mZ
      have F_servers := ok_servers (P := P) (w := w) (base := base) T M.toLogC Ms.mV
      have F_entries := ok_entries (P := P) (w := w) (base := base) T M.toLogC Ms.mE
      obtain ⟨_, pZ⟩ := M.pZ
      obtain ⟨_, pV⟩ := M.pV
      obtain ⟨_, pE⟩ := M.pE
      refine ⟨_, (pss_cons (ps_if (PW.pt (pw_or (pt_not (qv (pe_callB call_isi (by rfl) T.n_isinstance (by decide +kernel) (pa_cons (mv 1) (pa_cons (pe_gc rfl T.g_Log) pa_nil))))) (pw_or (qt m_ne (pe_prop (mv 1) M.cl pZ F_size (hr.mono (by decide)) Ms.mZ.b .nil ps0 rfl) (pe_fld (mv 0) rfl) (nomark _)) (pw_or1 (qt (op_neD hr.units) (pe_prop (mv 1) M.cl pV F_servers (hr.mono (by decide)) Ms.mV.b .nil ps0 rfl) (pe_fld (mv 0) rfl) (nomark _)))))) (pss_one (ps_ret pe_bl)) pss_nil)
    (pss_cons (ps_par (i := 2) (j := 3) rfl sc_History___call__.nd rfl rfl (by decide) rfl rfl (pa_cons (pe_prop (mv 1) M.cl pE F_entries (hr.mono (by decide)) Ms.mE.b .nil ps0 rfl) (pa_cons pe_int pa_nil)) (by rfl))
    (pss_cons (ps_for PassesOwn.never rfl (pi_list (pe_fld (pe_fld (mv 0) rfl) rfl)) (pg_name (i := 4) sc_History___call__.nd rfl (Or.inl rfl))
    (pss_one (ps_if (PW.pt (pw_and (qt m_lt (mv 3) (pe_callB call_len (by rfl) T.n_len (by decide +kernel) (pa_cons (mv 2) pa_nil)) (nomark _)) (pw_and1 (qt (op_eqD hr.units) (pe_ix m_ix (mv 2) (mv 3) (fun _ _ => rfl)) (mv 4) (nomark _))))) (pss_one (ps_aug (i := 3) sc_History___call__.nd rfl (Or.inl rfl) pe_int ip_add)) pss_nil)))
    (pss_one (ps_ret (pe_cmpR m_eq (mv 3) (pe_callB call_len (by rfl) T.n_len (by decide +kernel) (pa_cons (mv 2) pa_nil)) (nomark _))))))), ?_⟩
      exact ⟨_, _, _, _, _, rfl, .own _, ty, kt, ifT (by rfl) (ifT (by rfl) (k H fun _ _ h => h))⟩
    | @log q C kn sz2 ns2 es hq M hn2 nb2 nbe =>
    have F_size := ok_size (P := P) (w := w) (mg := mg) (base := base) M.toLogC Ms.mZ
    have F_servers := ok_servers (P := P) (w := w) (base := base) T M.toLogC Ms.mV
    have F_entries := ok_entries (P := P) (w := w) (base := base) T M.toLogC Ms.mE
    obtain ⟨_, pZ⟩ := M.pZ
    obtain ⟨_, pV⟩ := M.pV
    obtain ⟨_, pE⟩ := M.pE
    refine ⟨_, (pss_cons (ps_if (PW.pt (pw_or (pt_not (qv (pe_callB call_isi (by rfl) T.n_isinstance (by decide +kernel) (pa_cons (mv 1) (pa_cons (pe_gc rfl T.g_Log) pa_nil))))) (pw_or (qt m_ne (pe_prop (mv 1) M.cl pZ F_size (hr.mono (by decide)) Ms.mZ.b .nil ps0 rfl) (pe_fld (mv 0) rfl) (nomark _)) (pw_or1 (qt (op_neD hr.units) (pe_prop (mv 1) M.cl pV F_servers (hr.mono (by decide)) Ms.mV.b .nil ps0 rfl) (pe_fld (mv 0) rfl) (nomark _)))))) (pss_one (ps_ret pe_bl)) pss_nil)
    (pss_cons (ps_par (i := 2) (j := 3) rfl sc_History___call__.nd rfl rfl (by decide) rfl rfl (pa_cons (pe_prop (mv 1) M.cl pE F_entries (hr.mono (by decide)) Ms.mE.b .nil ps0 rfl) (pa_cons pe_int pa_nil)) (by rfl))
    (pss_cons (ps_for PassesOwn.never rfl (pi_list (pe_fld (pe_fld (mv 0) rfl) rfl)) (pg_name (i := 4) sc_History___call__.nd rfl (Or.inl rfl))
    (pss_one (ps_if (PW.pt (pw_and (qt m_lt (mv 3) (pe_callB call_len (by rfl) T.n_len (by decide +kernel) (pa_cons (mv 2) pa_nil)) (nomark _)) (pw_and1 (qt (op_eqD hr.units) (pe_ix m_ix (mv 2) (mv 3) (fun _ _ => rfl)) (mv 4) (nomark _))))) (pss_one (ps_aug (i := 3) sc_History___call__.nd rfl (Or.inl rfl) pe_int ip_add)) pss_nil)))
    (pss_one (ps_ret (pe_cmpR m_eq (mv 3) (pe_callB call_len (by rfl) T.n_len (by decide +kernel) (pa_cons (mv 2) pa_nil)) (nomark _))))))), ?_⟩
    obtain ⟨px, d, dx, du, dr, lt, lu, ls, le, hp, dk, hls⟩ := hp
    obtain ⟨dx2, ls2, le2, xs2, hp2, g1, g2, el2⟩ := id hq
    refine ⟨_, _, _, _, _, rfl, .own _, M.ty _ _ _ _ hp2, M.kl, ifF (by rfl) ?_⟩
    refine ⟨q, dx2, _, rfl, hp2, q, sz2, ns2, es, rfl, hq, p, CH, px, _, _, rfl, hp, L.cl, L.nZ, fH_size _ _ _ _, ?_⟩
    dsimp only [mEqG, kB]
    by_cases e1 : sz2 = sz
    rotate_left
    · rw [decide_eq_false e1]
      refine ifT (by rfl) (ifT (by rfl) ?_)
      have := k H (fun _ _ h => h)
      rw [decide_eq_false (fun h => e1 h.1)] at this
      exact this
    rw [decide_eq_true e1]
    refine ifF (by rfl) ?_
    refine ⟨q, dx2, _, rfl, hp2, q, sz2, ns2, es, rfl, hq, fun l nl => ?_⟩
    have x1 : Ext H (upd H l (.lst (ns2.map V.str))) := fun b o h => by rw [upd_ne (ne_of_none h nl)]; exact h
    refine ⟨p, CH, px, _, _, rfl, x1 _ _ hp, L.cl, L.nV, fH_servers _ _ _ _, ?_⟩
    refine ⟨_, _, dp_S (SqL.of upd_same), dp_S (SqL.of (x1 _ _ hls)), shaped_S nb2, shaped_S nb, ?_⟩
    rw [eqv_S]
    by_cases e2 : ns2 = ns
    rotate_left
    · rw [decide_eq_false e2]
      refine ifT (by rfl) ?_
      have := k _ x1
      rw [decide_eq_false (fun h => e2 h.2.1)] at this
      exact this
    rw [decide_eq_true e2]
    refine ifF (by rfl) ?_
    refine ⟨q, dx2, _, rfl, x1 _ _ hp2, q, sz2, ns2, es, rfl, hq.mono x1, fun la xs nla el => ?_⟩
    have x2 := x1.trans (fun b o h => (by rw [upd_ne (ne_of_none h nla)]; exact h) : Ext (upd H l (.lst (ns2.map V.str))) (upd (upd H l (.lst (ns2.map V.str))) la (.lst xs)))
    have dk2 := dk.mono x2
    obtain ⟨vs, hvs, elu⟩ := id dk2.us
    have el := el.mono (fun b o h => (by rw [upd_ne (ne_of_none h nla)]; exact h) : Ext (upd H l (.lst (ns2.map V.str))) (upd (upd H l (.lst (ns2.map V.str))) la (.lst xs)))
    refine ⟨_, _, rfl, p, CH, px, _, _, rfl, x2 _ _ hp, L.cl, L.nD, fH_desk _ _ _ _, d, CD, dx, _, _, rfl, dk2.ins, LD.cl, LD.nS, fD_us _ _ _ _ _, lu, rfl, ⟨_, SqL.of hvs⟩, for_list (xs := vs) (fun i σ H' => ∃ v, σ = [some (.ref p), some (.ref q), some (.ref la), some (.int (seenN es 0 (st.us.take i) : Nat)), v] ∧ H' = upd (upd H l (.lst (ns2.map V.str))) la (.lst xs)) ⟨none, rfl, rfl⟩ ?_ ?_ ?_⟩
    · rintro i σ H' _ ⟨v, rfl, rfl⟩; exact SqL.of hvs
    · rintro i x σ H' hx ⟨v, rfl, rfl⟩
      obtain ⟨u, hu, ue⟩ := EntL.at elu hx
      have hsn : seenN es 0 (st.us.take (i + 1)) = if es[seenN es 0 (st.us.take i)]? = some u then seenN es 0 (st.us.take i) + 1 else seenN es 0 (st.us.take i) := by
        rw [List.take_succ, hu]
        exact seenN_snoc
      have nbu' := nbu u (List.mem_of_getElem? hu)
      rw [hsn]
      generalize seenN es 0 (st.us.take i) = m
      refine ⟨_, _, rfl, .inl ⟨_, SqL.of upd_same, rfl⟩, ?_⟩
      dsimp only [kB]
      refine ifD (fun h => ?_) (fun h => ?_)
      · have hm : m < xs.length := by omega
        have hm2 : m < es.length := by rw [el.len]; exact hm
        obtain ⟨e, he, ee⟩ := EntL.at el (List.getElem?_eq_getElem hm)
        refine ⟨_, _, .inl (SqL.of upd_same), atI_nat (j := m) (List.getElem?_eq_getElem hm), _, _, dp_E ee, dp_E ue, (shaped_E (nbe e (List.mem_of_getElem? he))).1, (shaped_E nbu').1, ?_⟩
        rw [eqv_ent, he]
        refine ifD (fun h2 => ?_) (fun h2 => ?_)
        · rw [h2, if_pos rfl]
          exact ⟨_, rfl, _, _, rfl, rfl, _, rfl, rfl⟩
        · rw [if_neg (fun z => h2 (Option.some.inj z))]
          exact ⟨_, rfl, rfl⟩
      · have hm2 : es.length ≤ m := by rw [el.len]; omega
        rw [List.getElem?_eq_none hm2, if_neg (fun z => nomatch z)]
        exact ⟨_, rfl, rfl⟩
    · rintro σ H' ⟨v, rfl, rfl⟩
      refine ⟨_, _, rfl, .inl ⟨_, SqL.of upd_same, rfl⟩, ?_⟩
      have ll : vs.length = st.us.length := elu.len.symm
      have := k _ x2
      rw [ll, List.take_length]
      dsimp only [mEqG, kB]
      have e : decide (((seenN es 0 st.us : Nat) : Int) = ((xs.length : Nat) : Int)) = decide (sz2 = sz ∧ ns2 = ns ∧ seenN es 0 st.us = es.length) := by
        rw [el.len]
        exact decide_eq_decide.mpr ⟨fun h => ⟨e1, e2, by omega⟩, fun h => by have := h.2.2; omega⟩
      rw [← e] at this
      exact this
end
end NB

set_option Elab.async false
set_option linter.all false
set_option maxRecDepth 100000
set_option maxHeartbeats 4000000
/-! K4k (k29): a new history -/
namespace NB
open PySem PySem.Spec L2
open PyProof.Rows (envOfC)
open C8 (pe_c pe_mk pe_mt pe_mt0 pe_gc fnScope fnBody fnArgs fnScope_by Cal Met Mak)
/-- a new log, for what is done with it -/
def NewLog (C : Addr) (H : Hp) (sz : Int) (ns : List Str) (es : List (Str × Int)) (Q : VK) : Prop := ∀ H' q, H q = none → LogAt C H' q sz ns es → Ext H H' → Q (.ref q) H'
theorem init_new {C : Addr} {H : Hp} {x dx : Addr} {sz : Int} {a l : Addr} {ns : List Str} {es : List (Str × Int)} {xs : List V} {Q : VK} {E : XK} (nx : H x = none) (nd : H dx = none) (ne : dx ≠ x) (so : SizeOk sz) (ha : H a = some (.lst (ns.map V.str))) (cr : CrewOk ns)
    (hl : H l = some (.lst xs)) (el : EntL H es xs) (ok : EntsOk ns es) (k : NewLog C H sz ns es Q) :
    spInit C [.ref x, .int sz, .ref a, .ref l] (upd (upd H dx (.own x)) x (.ins C dx [])) (fun v H2 => v = .non ∧ Q (.ref x) H2) E := by
  have x0 : Ext H (upd (upd H dx (.own x)) x (.ins C dx [])) := fun b o e => by
    rw [upd_ne (ne_of_none e nx), upd_ne (ne_of_none e nd)]; exact e
  refine ⟨x, dx, sz, a, ns, l, es, xs, rfl, upd_same, by rw [upd_ne ne]; exact upd_same, so, x0 _ _ ha, cr, x0 _ _ hl, el.mono x0, ok, fun H' ls le h1 h2 g1 g2 g3 fr => ⟨rfl, ?_⟩⟩
  have x1 : Ext H H' := fun b o e => fr _ _ (x0 _ _ e) fun z => ne_of_none e nx (List.mem_singleton.mp z)
  exact k H' x nx ⟨dx, ls, le, xs, g1, g2, g3, el.mono x1⟩ x1
theorem init_drop {C : Addr} {H : Hp} {x dx : Addr} {sz : Int} {a l : Addr} {ns : List Str} {es : List (Str × Int)} {xs : List V} {R : Hp → Prop} {E : XK} (nx : H x = none) (nd : H dx = none) (ne : dx ≠ x) (so : SizeOk sz) (ha : H a = some (.lst (ns.map V.str))) (cr : CrewOk ns)
    (hl : H l = some (.lst xs)) (el : EntL H es xs) (ok : EntsOk ns es) (k : ∀ H', Ext H H' → R H') :
    spInit C [.ref x, .int sz, .ref a, .ref l] (upd (upd H dx (.own x)) x (.ins C dx [])) (fun v H2 => v = .non ∧ R H2) E := init_new (Q := fun _ H => R H) nx nd ne so ha cr hl el ok fun H' _ _ _ x => k H' x
abbrev ds0 : DS := ⟨fun _ => 0, fun _ => 0, [], []⟩
theorem stepD_len {sz : Int} {s t : DS} {e : Ev} (h : stepD sz s e = some t) : t.own.length + t.us.length = s.own.length + s.us.length + 1 := by
  unfold stepD at h
  split at h
  · split at h
    · cases h
    · cases h
      show (s.own ++ [e.2]).length + s.us.length = _
      rw [List.length_append, List.length_singleton]; omega
  · split at h
    · cases h
    · cases h
      show s.own.length + (s.us ++ [(e.2, s.up e.2)]).length = _
      rw [List.length_append, List.length_singleton]; omega
theorem runD_len {sz : Int} : ∀ {es : List Ev} {s t : DS}, runD sz s es = some t → t.own.length + t.us.length = s.own.length + s.us.length + es.length
  | [], s, t, h => by cases h; rfl
  | e :: es, s, t, h => by
    obtain ⟨u, h1, h2⟩ := Option.bind_eq_some_iff.mp (show (stepD sz s e).bind (fun s => runD sz s es) = some t from h)
    have := stepD_len h1
    have := runD_len h2
    rw [List.length_cons]; omega
theorem runD_next {sz : Int} {s t : DS} {es : List Ev} {i : Nat} {e : Ev} (h : runD sz s es = some t) (he : es[i]? = some e) : ∃ u u', runD sz s (es.take i) = some u ∧ stepD sz u e = some u' ∧ runD sz s (es.take (i + 1)) = some u' := by
  obtain ⟨u, hu⟩ := runD_take h i
  obtain ⟨u', hu'⟩ := runD_take h (i + 1)
  have t1 : es.take (i + 1) = es.take i ++ [e] := by rw [List.take_succ, he]; rfl
  have hq := hu'
  rw [t1, runD_app, hu] at hq
  refine ⟨u, u', hu, ?_, hu'⟩
  have : (stepD sz u e).bind (fun s => some s) = some u' := hq
  cases e1 : stepD sz u e with
  | none => rw [e1] at this; cases this
  | some x => rw [e1] at this; exact this
/-- the names of the uses are names of the events -/
theorem stepD_names {sz : Int} {s t : DS} {e : Ev} {ns : List Str} (h : stepD sz s e = some t) (hz : e.2 ∈ ns) (hs : (∀ x ∈ s.us, x.1 ∈ ns)) : ∀ x ∈ t.us, x.1 ∈ ns := by
  unfold stepD at h
  split at h
  · split at h
    · cases h
    · cases h; exact hs
  · split at h
    · cases h
    · cases h
      intro x hx
      rcases List.mem_append.mp hx with hx | hx
      · exact hs x hx
      · rw [List.mem_singleton.mp hx]; exact hz
theorem runD_names {sz : Int} {ns : List Str} : ∀ {es : List Ev} {s t : DS}, runD sz s es = some t → (∀ e ∈ es, e.2 ∈ ns) → (∀ x ∈ s.us, x.1 ∈ ns) → ∀ x ∈ t.us, x.1 ∈ ns
  | [], s, t, h, _, hs => by cases h; exact hs
  | e :: es, s, t, h, hz, hs => by
    obtain ⟨u, h1, h2⟩ := Option.bind_eq_some_iff.mp (show (stepD sz s e).bind (fun s => runD sz s es) = some t from h)
    exact runD_names h2 (fun x hx => hz x (List.mem_cons_of_mem _ hx)) (stepD_names h1 (hz e List.mem_cons_self) hs)
theorem EvAt.st {H H' : Hp} {e : Ev} {v : V} (h : EvAt H e v) (x : TupSt H H') : EvAt H' e v := by
  obtain ⟨p, rfl, q⟩ := h
  exact ⟨p, rfl, x _ _ q⟩
theorem EvL.st {H H' : Hp} {es : List Ev} {vs : List V} (h : EvL H es vs) (x : TupSt H H') : EvL H' es vs := Paired.mapP h fun _ _ q => EvAt.st q x
theorem EvL.at {H : Hp} : ∀ {es : List Ev} {vs : List V} {i : Nat} {v : V}, EvL H es vs → vs[i]? = some v → ∃ e, es[i]? = some e ∧ EvAt H e v
  | _, _, i, v, .nil, h => by simp at h
  | _, _, 0, v, .cons (a := e) r q, h => by simp at h; subst h; exact ⟨e, rfl, r⟩
  | _, _, i + 1, v, .cons r q, h => by
    obtain ⟨e, h1, h2⟩ := EvL.at q (i := i) (v := v) (by simpa using h)
    exact ⟨e, by simpa using h1, h2⟩
theorem EvL.len {H : Hp} {es : List Ev} {vs : List V} (h : EvL H es vs) : es.length = vs.length := Paired.length h
def spHisI (CH CD : Addr) : Sp := fun vs H Q _ => ∃ p px sz a ns l es xs t, vs = [.ref p, .int sz, .ref a, .ref l] ∧ H p = some (.ins CH px []) ∧ SizeOk sz ∧ H a = some (.lst (ns.map V.str)) ∧ CrewOk ns ∧ H l = some (.lst xs) ∧ EvL H es xs ∧ es.length ≤ 1000 ∧ (∀ e ∈ es, e.2 ∈ ns) ∧ runD sz ds0 es = some t ∧
  ∀ H', HisAt CH CD H' p sz ns t → Frm [p] H H' → Q .non H'
section
variable {P : Program} {w : World} {K : PySem.W.Frag} {mg : Str → Option Value} {base : Heap} {cL cX CH CD fT fU fP : Addr} {dP : FuncData}
theorem ok_his (T : Tk mg) (LH : HisC K CH) (L : DeskM K CD fT fU) (mP : Meth K CD "play" fP) (F_play : FnOk P w K mg base C8.CX0 2 fP dP ["self", "event"] (spPlay CD)) (bP : Binds K dP ["self", "event"] [])
    (c_Log : Mak P w K mg base 4 "Log" cL (spInit cL) []) (c_Desk : Mak P w K mg base 1 "Desk" CD (spDeskI CD) []) {f : Addr} {fd : FuncData} (D : Mx K "__init__" "History.__init__" s_History___init__ ["self", "size", "servers", "events"] f fd) :
    FnOk P w K mg base C8.CX0 6 f fd ["self", "size", "servers", "events"] (spHisI CH CD) := by
  refine fn_of' D sc_History___init__ (fun vs H Q E h => ?_) (fun cdv A' o s H vs Q E hr h => ?_)
  · obtain ⟨p, px, sz, a, ns, l, es, xs, t, rfl, _⟩ := h; rfl
  · obtain ⟨p, px, sz, a, ns, l, es, xs, t, rfl, hp, so, ha, cr, hl, el, few, nam, run, k⟩ := h
    refine ⟨_, (pss_cons (ps_expr (pe_mk c_Log hr (by decide) rfl (pa_cons (mv 1) (pa_cons (mv 2) (pa_cons (pe_lst pa_nil) pa_nil)))))
    (pss_cons (ps_if (PW.pt (pw_or (pt_not (qv (pe_callB call_isi (by rfl) T.n_isinstance (by decide +kernel) (pa_cons (mv 3) (pa_cons (pe_bltn (v := .ty "list") (u := .type "list") (by rfl) T.n_list (by decide +kernel) rfl) pa_nil))))) (pw_or1 (qt m_gt (pe_callB call_len (by rfl) T.n_len (by decide +kernel) (pa_cons (mv 3) pa_nil)) (pe_gc rfl T.g_MOST_EVENTS) (nomark _))))) (pss_one ps_never) pss_nil)
    (pss_cons (ps_fld (mv 0) (pe_mk c_Desk hr (by decide) rfl (pa_cons (mv 1) (pa_cons (mv 2) pa_nil))) rfl)
    (pss_cons (ps_for PassesOwn.never rfl (pi_list (mv 3)) (pg_name (i := 4) sc_History___init__.nd rfl (Or.inl rfl))
    (pss_one (ps_if (pt_not (qv (pe_meth (pe_fld (mv 0) rfl) L.cl mP F_play (hr.mono (by decide)) bP .nil ps0 (pa_cons (mv 4) pa_nil)))) (pss_one ps_never) pss_nil)))
    (pss_cons (ps_fld (mv 0) (mv 1) rfl)
    (pss_cons (ps_fld (mv 0) (pe_callTy call_list_of (by rfl) T.n_list (by decide +kernel) (pa_cons (mv 2) pa_nil)) rfl)
    (pss_one (ps_fld (mv 0) (pe_callTy call_list_of (by rfl) T.n_list (by decide +kernel) (pa_cons (mv 3) pa_nil)) rfl)))))))), ?_⟩
    -- a log is made, and dropped
    refine ⟨Nat.zero_le _, fun le0 nle0 => ?_⟩
    have x0 := Ext.upd (o := .lst []) nle0
    have e0 : (upd H le0 (.lst [])) le0 = some (.lst []) := upd_same
    generalize upd H le0 (.lst []) = G0 at x0 e0 ⊢
    intro x dx nx nd ne
    refine init_drop (es := []) nx nd ne so (x0 _ _ ha) cr e0 .nil ⟨Nat.zero_le _, fun _ h => nomatch h⟩ fun H1 x1' => ?_
    have x1 := x0.trans x1'
    clear e0 x1' nx nd ne dx
    have hp1 := x1 _ _ hp
    have ha1 := x1 _ _ ha
    have hl1 := x1 _ _ hl
    -- the conditions
    refine ⟨_, _, _, _, _, rfl, .ty _, .base (.lst hl1), kt_list_list, ifF (by rfl) ?_⟩
    refine ⟨_, _, rfl, .inl ⟨_, SqL.of hl1, rfl⟩, ?_⟩
    have few2 : ¬ ((1000 : Int) < (xs.length : Int)) := by rw [← el.len]; omega
    refine (show if decide ((1000 : Int) < (xs.length : Int)) = true then _ else _ from ?_)
    rw [decide_eq_false few2]
    refine ifF (by rfl) ?_
    -- the desk
    intro d dx nd ndx ne
    have xd : Ext H1 (upd (upd H1 dx (.own d)) d (.ins CD dx [])) := fun b o e => by
      rw [upd_ne (ne_of_none e nd), upd_ne (ne_of_none e ndx)]; exact e
    refine ⟨d, dx, sz, a, ns, rfl, upd_same, xd _ _ ha1, cr.nd, cr.few, fun H2 du dr lt lu dk n1 n2 n3 n4 fr => ⟨rfl, ?_⟩⟩
    have x2 : Ext H1 H2 := fun b o e => fr _ _ (xd _ _ e) fun z => ne_of_none e nd (List.mem_singleton.mp z)
    have m1 : H1 du = none := Ext.free xd n1
    have m2 : H1 dr = none := Ext.free xd n2
    have m3 : H1 lt = none := Ext.free xd n3
    have m4 : H1 lu = none := Ext.free xd n4
    have x12 := x1.trans x2
    have hp2 := x2 _ _ hp1
    have pd : p ≠ d := ne_of_none hp1 nd
    have pdu : p ≠ du := ne_of_none hp1 m1
    have pdr : p ≠ dr := ne_of_none hp1 m2
    have plt : p ≠ lt := ne_of_none hp1 m3
    have plu : p ≠ lu := ne_of_none hp1 m4
    refine ⟨p, CH, px, _, rfl, hp2, LH.cl, LH.nD, (by show 0 < 1000; decide), ?_⟩
    have ap : a ≠ p := ne_of ha hp (fun z => nomatch z)
    have lp : l ≠ p := ne_of hl hp (fun z => nomatch z)
    have f2 : Frm [p] H (upd H2 p (.ins CH px (putF "desk" (.ref d) []))) := (Frm.ext x12).upd mem1
    have nw : ∀ {b}, H1 b = none → H b = none := fun h => Ext.free x1 h
    have dk3 : DeskIn CD (upd H2 p (.ins CH px (putF "desk" (.ref d) []))) d dx du dr lt lu sz ns ds0 := by
      obtain ⟨vs, h1, h2⟩ := dk.us
      exact ⟨by rw [upd_ne pd.symm]; exact dk.ins, by rw [upd_ne pdu.symm]; exact dk.up, by rw [upd_ne pdr.symm]; exact dk.rem, by rw [upd_ne plt.symm]; exact dk.own, ⟨vs, by rw [upd_ne plu.symm]; exact h1, h2.st (TupSt.upd hp2 (fun _ z => nomatch z))⟩, dk.ne, dk.nl⟩
    have hp3 : (upd H2 p (.ins CH px (putF "desk" (.ref d) []))) p = some (.ins CH px (putF "desk" (.ref d) [])) := upd_same
    generalize upd H2 p (.ins CH px (putF "desk" (.ref d) [])) = H3 at f2 dk3 hp3 ⊢
    -- the events
    refine ⟨l, rfl, ⟨_, SqL.of (f2 _ _ hl (fun z => lp (List.mem_singleton.mp z)))⟩, for_list (xs := xs) (fun i σ H' => ∃ v u, σ = [some (.ref p), some (.int sz), some (.ref a), some (.ref l), v] ∧ runD sz ds0 (es.take i) = some u ∧ DeskIn CD H' d dx du dr lt lu sz ns u ∧ Frm [p] H H' ∧ H' p = some (.ins CH px (putF "desk" (.ref d) []))) ⟨none, ds0, rfl, rfl, dk3, f2, hp3⟩ ?_ ?_ ?_⟩
    · rintro i σ H' _ ⟨v, u, rfl, hu, dk', fr', hp'⟩; exact SqL.of (fr' _ _ hl (fun z => lp (List.mem_singleton.mp z)))
    · rintro i y σ H' hy ⟨v, u, rfl, hu, dk', fr', hp'⟩
      obtain ⟨e, he, ev⟩ := EvL.at el hy
      obtain ⟨u1, u2, g1, g2, g3⟩ := runD_next run he
      obtain rfl : u1 = u := Option.some.inj (g1.symm.trans hu)
      have l1 := runD_len g1
      have l2 : (es.take i).length ≤ 1000 := Nat.le_trans (List.length_take_le' _ _) few
      have l3 : u1.own.length + u1.us.length = (es.take i).length := by rw [l1]; simp
      have nP : (fD sz du dr lt lu).lookup ("play" : Str) = none := fD_no _ _ _ _ _ (by decide +kernel) (by decide +kernel) (by decide +kernel) (by decide +kernel) (by decide +kernel)
      have ev' : EvAt H' e y := ev.st (fr'.tups hp (fun _ z => nomatch z))
      refine ⟨p, CH, px, _, _, rfl, hp', LH.cl, LH.nD, (by rw [lookup_putF, if_pos rfl]), d, dx, _, rfl, dk'.ins, nP, ?_⟩
      refine ⟨d, dx, du, dr, lt, lu, sz, ns, u1, e, y, u2, rfl, ev', dk', nam e (List.mem_of_getElem? he), cr.few, so.1, so.2, by omega, by omega, g2, fun H4 dk4 fr4 => ifF (by rfl) ?_⟩
      refine ⟨_, u2, rfl, g3, dk4, fun c o hc nc => ?_, ?_⟩
      · refine fr4 c o (fr' c o hc nc) fun z => ?_
        simp only [List.mem_cons, List.not_mem_nil, or_false] at z
        rcases z with rfl | rfl | rfl | rfl
        · rw [nw m1] at hc; cases hc
        · rw [nw m2] at hc; cases hc
        · rw [nw m3] at hc; cases hc
        · rw [nw m4] at hc; cases hc
      · refine fr4 p _ hp' fun z => ?_
        simp only [List.mem_cons, List.not_mem_nil, or_false] at z
        rcases z with z | z | z | z
        · exact pdu z
        · exact pdr z
        · exact plt z
        · exact plu z
    · rintro σ H' ⟨v, u, rfl, hu, dk', fr', hp'⟩
      rw [← el.len, List.take_length, run] at hu
      obtain rfl := Option.some.inj hu
      have dkp : ∀ {H5 : Hp} {fs : List (Str × V)}, DeskIn CD H5 d dx du dr lt lu sz ns t → (∃ gs, H5 p = some (.ins CH px gs)) → DeskIn CD (upd H5 p (.ins CH px fs)) d dx du dr lt lu sz ns t := by
        rintro H5 fs dk ⟨gs, hp5⟩
        obtain ⟨vs, h1, h2⟩ := dk.us
        exact ⟨by rw [upd_ne pd.symm]; exact dk.ins, by rw [upd_ne pdu.symm]; exact dk.up, by rw [upd_ne pdr.symm]; exact dk.rem, by rw [upd_ne plt.symm]; exact dk.own, ⟨vs, by rw [upd_ne plu.symm]; exact h1, h2.st (TupSt.upd hp5 (fun _ z => nomatch z))⟩, dk.ne, dk.nl⟩
      refine ⟨p, CH, px, _, rfl, hp', LH.cl, LH.nZ, (by show 1 < 1000; decide), ?_⟩
      have dk5 := dkp (fs := putF "held_size" (.int sz) (putF "desk" (.ref d) [])) dk' ⟨_, hp'⟩
      have fr5 := fr'.upd (p := p) (o := .ins CH px (putF "held_size" (.int sz) (putF "desk" (.ref d) []))) mem1
      have hp5 : (upd H' p (.ins CH px (putF "held_size" (.int sz) (putF "desk" (.ref d) [])))) p = some (.ins CH px (putF "held_size" (.int sz) (putF "desk" (.ref d) []))) := upd_same
      generalize upd H' p (.ins CH px (putF "held_size" (.int sz) (putF "desk" (.ref d) []))) = H5 at dk5 fr5 hp5 ⊢
      have ha5 := fr5 _ _ ha (fun z => ap (List.mem_singleton.mp z))
      refine ⟨a, _, rfl, .inl (SqL.of ha5), fun ls nls => ?_⟩
      have y1 := Ext.upd (o := .lst (ns.map V.str)) nls
      have hls : (upd H5 ls (.lst (ns.map V.str))) ls = some (.lst (ns.map V.str)) := upd_same
      have dk6 := dk5.mono y1
      have fr6 := fr5.trans (Frm.ext y1)
      have hp6 := y1 _ _ hp5
      generalize upd H5 ls (.lst (ns.map V.str)) = H6 at y1 hls dk6 fr6 hp6 ⊢
      refine ⟨p, CH, px, _, rfl, hp6, LH.cl, LH.nV, (by show 2 < 1000; decide), ?_⟩
      have lsp : ls ≠ p := ne_of hls hp6 (fun z => nomatch z)
      have dk7 := dkp (fs := putF "held_servers" (.ref ls) (putF "held_size" (.int sz) (putF "desk" (.ref d) []))) dk6 ⟨_, hp6⟩
      have fr7 := fr6.upd (p := p) (o := .ins CH px (putF "held_servers" (.ref ls) (putF "held_size" (.int sz) (putF "desk" (.ref d) [])))) mem1
      have hp7 : (upd H6 p (.ins CH px (putF "held_servers" (.ref ls) (putF "held_size" (.int sz) (putF "desk" (.ref d) []))))) p = some (.ins CH px (putF "held_servers" (.ref ls) (putF "held_size" (.int sz) (putF "desk" (.ref d) [])))) := upd_same
      have hls7 : (upd H6 p (.ins CH px (putF "held_servers" (.ref ls) (putF "held_size" (.int sz) (putF "desk" (.ref d) []))))) ls = some (.lst (ns.map V.str)) := by rw [upd_ne lsp]; exact hls
      generalize upd H6 p (.ins CH px (putF "held_servers" (.ref ls) (putF "held_size" (.int sz) (putF "desk" (.ref d) [])))) = H7 at dk7 fr7 hp7 hls7 ⊢
      have hl7 := fr7 _ _ hl (fun z => lp (List.mem_singleton.mp z))
      refine ⟨l, _, rfl, .inl (SqL.of hl7), fun le nle => ?_⟩
      have y2 := Ext.upd (o := .lst xs) nle
      have dk8 := dk7.mono y2
      have fr8 := fr7.trans (Frm.ext y2)
      have hp8 := y2 _ _ hp7
      have hls8 := y2 _ _ hls7
      generalize upd H7 le (.lst xs) = H8 at dk8 fr8 hp8 hls8 ⊢
      refine ⟨p, CH, px, _, rfl, hp8, LH.cl, LH.nE, (by show 3 < 1000; decide), ?_⟩
      refine k _ ⟨px, d, dx, du, dr, lt, lu, ls, le, upd_same, dkp dk8 ⟨_, hp8⟩, by rw [upd_ne lsp]; exact hls8⟩ (fr8.upd mem1)
end
end NB

set_option Elab.async false
set_option linter.all false
/-! K3d (k29): parts of lists of entries, of events -/
namespace NB
open PySem PySem.Spec L2
section
variable {α β : Type} {R : α → β → Prop}
theorem pTake : ∀ {es : List α} {xs : List β} (n : Nat), Paired R es xs → Paired R (es.take n) (xs.take n)
  | _, _, 0, _ => by simp only [List.take_zero]; exact .nil
  | _, _, n + 1, .nil => .nil
  | _, _, n + 1, .cons r q => .cons r (pTake n q)
theorem pDrop : ∀ {es : List α} {xs : List β} (n : Nat), Paired R es xs → Paired R (es.drop n) (xs.drop n)
  | _, _, 0, h => h
  | _, _, n + 1, .nil => .nil
  | _, _, n + 1, .cons r q => pDrop n q
theorem pApp : ∀ {es gs : List α} {xs ys : List β}, Paired R es xs → Paired R gs ys → Paired R (es ++ gs) (xs ++ ys)
  | _, _, _, _, .nil, h => h
  | _, _, _, _, .cons r q, h => .cons r (pApp q h)
theorem pRep {e : α} {v : β} (h : R e v) : ∀ n : Nat, Paired R (List.replicate n e) (List.replicate n v)
  | 0 => .nil
  | n + 1 => .cons h (pRep h n)
end
theorem cut_to {xs : List V} {n : Int} (h0 : 0 ≤ n) : cutV xs none (some n) = xs.take n.toNat := by
  unfold cutV
  show (xs.drop 0).take _ = _
  have hn : ¬ n < 0 := by omega
  simp only [HT.sIx, List.drop_zero, if_neg hn]
  rcases Nat.le_total n.toNat xs.length with h | h
  · congr 1
    omega
  · rw [List.take_of_length_le h, List.take_of_length_le]
    omega
theorem cut_from {xs : List V} {n : Int} (h0 : 0 ≤ n) : cutV xs (some n) none = xs.drop n.toNat := by
  unfold cutV
  have hn : ¬ n < 0 := by omega
  simp only [HT.sIx, if_neg hn]
  rcases Nat.le_total n.toNat xs.length with h | h
  · rw [List.take_of_length_le]
    · congr 1
      omega
    · rw [List.length_drop]; omega
  · rw [List.drop_eq_nil_of_le h, List.take_of_length_le]
    · exact List.drop_eq_nil_of_le (by omega)
    · rw [List.length_drop]; omega
/-! ### events in plain Lean -/
theorem putI_at {f : Str → Int} {z : Str} {v : Int} : putI f z v z = v := if_pos rfl
theorem putI_ne {f : Str → Int} {z y : Str} {v : Int} (h : y ≠ z) : putI f z v y = f y := if_neg h
theorem putI_put {f : Str → Int} {z : Str} {v u : Int} : putI (putI f z v) z u = putI f z u := by
  funext y
  unfold putI
  split <;> rfl
theorem putI_self {f : Str → Int} {z : Str} {v : Int} (h : v = f z) : putI f z v = f := by
  funext y
  unfold putI
  split
  · rename_i e; rw [e, h]
  · rfl
theorem step_take {sz : Int} {s : DS} {z : Str} (h : s.rem z = 0) : stepD sz s (true, z) = some { rem := putI s.rem z sz, up := putI s.up z (s.own.length * sz), own := s.own ++ [z], us := s.us } := by
  show (if s.rem z > 0 then none else _) = _
  rw [if_neg (by omega)]
theorem step_use {sz : Int} {s : DS} {z : Str} (h : s.rem z ≠ 0) : stepD sz s (false, z) = some { rem := putI s.rem z (s.rem z - 1), up := putI s.up z (s.up z + 1), own := s.own, us := s.us ++ [(z, s.up z)] } := by
  show (if s.rem z = 0 then none else _) = _
  rw [if_neg h]
theorem runD_uses {sz : Int} {z : Str} : ∀ (m : Nat) (s : DS), (m : Int) ≤ s.rem z → ∃ t, runD sz s (List.replicate m (false, z)) = some t ∧ t.rem = putI s.rem z (s.rem z - m)
  | 0, s, _ => ⟨s, rfl, (putI_self (by show s.rem z - (0 : Nat) = s.rem z; omega)).symm⟩
  | m + 1, s, h => by
    have e := step_use (sz := sz) (s := s) (z := z) (by omega)
    obtain ⟨t, h1, h2⟩ := runD_uses m { rem := putI s.rem z (s.rem z - 1), up := putI s.up z (s.up z + 1), own := s.own, us := s.us ++ [(z, s.up z)] } (by show (m : Int) ≤ putI s.rem z (s.rem z - 1) z; rw [putI_at]; omega)
    refine ⟨t, ?_, ?_⟩
    · show (stepD sz s (false, z)).bind _ = _
      rw [e]; exact h1
    · rw [h2]
      show putI (putI s.rem z (s.rem z - 1)) z (putI s.rem z (s.rem z - 1) z - m) = _
      rw [putI_put, putI_at]
      have q : s.rem z - 1 - (m : Int) = s.rem z - ((m + 1 : Nat) : Int) := by omega
      rw [q]
theorem runD_snoc {sz : Int} {s t : DS} {es fs : List Ev} (h : runD sz s es = some t) : runD sz s (es ++ fs) = runD sz t fs := by
  rw [runD_app, h]; rfl
theorem take_inv {sz : Int} {s t : DS} {z : Str} (h : stepD sz s (true, z) = some t) (p : 0 ≤ s.rem z) : s.rem z = 0 ∧ t = { rem := putI s.rem z sz, up := putI s.up z (s.own.length * sz), own := s.own ++ [z], us := s.us } := by
  have h2 : (if s.rem z > 0 then none else some { rem := putI s.rem z sz, up := putI s.up z (s.own.length * sz), own := s.own ++ [z], us := s.us }) = some t := h
  by_cases q : s.rem z > 0
  · rw [if_pos q] at h2; cases h2
  · rw [if_neg q] at h2
    exact ⟨by omega, (Option.some.inj h2).symm⟩
theorem use_inv {sz : Int} {s t : DS} {z : Str} (h : stepD sz s (false, z) = some t) : s.rem z ≠ 0 ∧ t = { rem := putI s.rem z (s.rem z - 1), up := putI s.up z (s.up z + 1), own := s.own, us := s.us ++ [(z, s.up z)] } := by
  have h2 : (if s.rem z = 0 then none else some { rem := putI s.rem z (s.rem z - 1), up := putI s.up z (s.up z + 1), own := s.own, us := s.us ++ [(z, s.up z)] }) = some t := h
  by_cases q : s.rem z = 0
  · rw [if_pos q] at h2; cases h2
  · rw [if_neg q] at h2
    exact ⟨q, (Option.some.inj h2).symm⟩
def RemP (s : DS) : Prop := ∀ z, 0 ≤ s.rem z
theorem stepD_rem {sz : Int} {s t : DS} {e : Ev} (h0 : 0 ≤ sz) (h : stepD sz s e = some t) (p : RemP s) : RemP t := by
  obtain ⟨b, z⟩ := e
  cases b with
  | true =>
    obtain ⟨_, rfl⟩ := take_inv h (p z)
    intro y
    show 0 ≤ putI s.rem z sz y
    unfold putI
    split
    · exact h0
    · exact p y
  | false =>
    obtain ⟨h1, rfl⟩ := use_inv h
    intro y
    show 0 ≤ putI s.rem z (s.rem z - 1) y
    have := p z
    unfold putI
    split
    · omega
    · exact p y
theorem runD_rem {sz : Int} (h0 : 0 ≤ sz) : ∀ {es : List Ev} {s t : DS}, runD sz s es = some t → RemP s → RemP t
  | [], s, t, h, p => by cases h; exact p
  | e :: es, s, t, h, p => by
    obtain ⟨u, h1, h2⟩ := Option.bind_eq_some_iff.mp (show (stepD sz s e).bind (fun s => runD sz s es) = some t from h)
    exact runD_rem h0 h2 (stepD_rem h0 h1 p)
/-- the numbers of all uses are not negative -/
def Pos (s : DS) : Prop := (∀ z, 0 ≤ s.up z) ∧ ∀ x ∈ s.us, 0 ≤ x.2
theorem stepD_pos {sz : Int} {s t : DS} {e : Ev} (h0 : 0 ≤ sz) (h : stepD sz s e = some t) (p : Pos s) : Pos t := by
  obtain ⟨p1, p2⟩ := p
  unfold stepD at h
  split at h
  · split at h
    · cases h
    · cases h
      refine ⟨fun y => ?_, p2⟩
      show 0 ≤ putI s.up e.2 _ y
      unfold putI
      split
      · exact Int.mul_nonneg (by omega) h0
      · exact p1 y
  · split at h
    · cases h
    · cases h
      refine ⟨fun y => ?_, fun x hx => ?_⟩
      · show 0 ≤ putI s.up e.2 _ y
        have := p1 e.2
        unfold putI
        split
        · omega
        · exact p1 y
      · rcases List.mem_append.mp hx with hx | hx
        · exact p2 x hx
        · rw [List.mem_singleton.mp hx]; exact p1 _
theorem runD_pos {sz : Int} (h0 : 0 ≤ sz) : ∀ {es : List Ev} {s t : DS}, runD sz s es = some t → Pos s → Pos t
  | [], s, t, h, p => by cases h; exact p
  | e :: es, s, t, h, p => by
    obtain ⟨u, h1, h2⟩ := Option.bind_eq_some_iff.mp (show (stepD sz s e).bind (fun s => runD sz s es) = some t from h)
    exact runD_pos h0 h2 (stepD_pos h0 h1 p)
end NB

set_option Elab.async false
set_option linter.all false
set_option maxRecDepth 100000
set_option maxHeartbeats 4000000
/-! K4l (k29): the law's own walks: what is shown, what is played, events drawn -/
namespace NB
open PySem PySem.Spec L2
open PyProof.Rows (envOfC)
open C8 (pe_c pe_mk pe_mt pe_mt0 pe_gc fnScope fnBody fnArgs fnScope_by Cal Met Mak)
def spShown : Sp := fun vs H Q _ => ∃ u r us es vs1 xs, vs = [.ref u, .ref r] ∧ H u = some (.lst vs1) ∧ EntL H us vs1 ∧ H r = some (.lst xs) ∧ EntL H es xs ∧ (∀ e ∈ us, nameB e.1 = true) ∧ (∀ e ∈ es, nameB e.1 = true) ∧ Q (.bl (decide (seenN es 0 us = es.length))) H
theorem rep_T : decide (reprText (evW true) = reprText ("take" : Str)) = true := by decide +kernel
theorem rep_F : decide (reprText (evW false) = reprText ("take" : Str)) = false := by decide +kernel
theorem rep_U : decide (reprText (evW false) = reprText ("use" : Str)) = true := by decide +kernel
theorem rep_len (b : Bool) : (reprText (evW b)).length ≤ sizeLine := by cases b <;> decide +kernel
theorem rep_lenT : (reprText ("take" : Str)).length ≤ sizeLine := by decide +kernel
theorem rep_lenU : (reprText ("use" : Str)).length ≤ sizeLine := by decide +kernel
section
variable {P : Program} {w : World} {K : PySem.W.Frag} {mg : Str → Option Value} {base : Heap}
theorem ok_shown (T : Blt mg) (D : Dx K mg "_law_is_shown" s__law_is_shown ["uses_here", "rows"]) : Cal P w K mg base 1 "_law_is_shown" spShown [] := by
  refine cal_of D sc__law_is_shown (fun vs H Q E h => ?_) (fun f cdv A o s H vs Q E hr h => ?_)
  · obtain ⟨u, r, us, es, vs1, xs, rfl, _⟩ := h; rfl
  · obtain ⟨u, r, us, es, vs, xs, rfl, hu, elu, hx, el, nu, ne, k⟩ := h
    refine ⟨_, (pss_cons (ps_set (i := 2) sc__law_is_shown.nd rfl (Or.inl rfl) pe_int)
    (pss_cons (ps_for PassesOwn.never rfl (pi_list (mv 0)) (pg_name (i := 3) sc__law_is_shown.nd rfl (Or.inl rfl))
    (pss_one (ps_if (PW.pt (pw_and (qt m_lt (mv 2) (pe_callB call_len (by rfl) T.n_len (by decide +kernel) (pa_cons (mv 1) pa_nil)) (nomark _)) (pw_and1 (qt (op_eqD hr.units) (pe_ix m_ix (mv 1) (mv 2) (fun _ _ => rfl)) (mv 3) (nomark _))))) (pss_one (ps_set (i := 2) sc__law_is_shown.nd rfl (Or.inl rfl) (pe_op m_add (mv 2) pe_int))) pss_nil)))
    (pss_one (ps_ret (pe_cmpR m_eq (mv 2) (pe_callB call_len (by rfl) T.n_len (by decide +kernel) (pa_cons (mv 1) pa_nil)) (nomark _)))))), ?_⟩
    refine ⟨u, rfl, ⟨_, SqL.of hu⟩, for_list (xs := vs) (fun i σ H' => ∃ v, σ = [some (.ref u), some (.ref r), some (.int (seenN es 0 (us.take i) : Nat)), v] ∧ H' = H) ⟨none, rfl, rfl⟩ ?_ ?_ ?_⟩
    · rintro i σ H' _ ⟨v, rfl, rfl⟩; exact SqL.of hu
    · rintro i x σ H' hy ⟨v, rfl, rfl⟩
      obtain ⟨e0, hu0, ue⟩ := EntL.at elu hy
      have hsn : seenN es 0 (us.take (i + 1)) = if es[seenN es 0 (us.take i)]? = some e0 then seenN es 0 (us.take i) + 1 else seenN es 0 (us.take i) := by
        rw [List.take_succ, hu0]
        exact seenN_snoc
      have nu' := nu e0 (List.mem_of_getElem? hu0)
      rw [hsn]
      generalize seenN es 0 (us.take i) = m
      refine ⟨_, _, rfl, .inl ⟨_, SqL.of hx, rfl⟩, ?_⟩
      dsimp only [kB]
      refine ifD (fun h => ?_) (fun h => ?_)
      · have hm : m < xs.length := by omega
        obtain ⟨e, he, ee⟩ := EntL.at el (List.getElem?_eq_getElem hm)
        refine ⟨_, _, .inl (SqL.of hx), atI_nat (j := m) (List.getElem?_eq_getElem hm), _, _, dp_E ee, dp_E ue, (shaped_E (ne e (List.mem_of_getElem? he))).1, (shaped_E nu').1, ?_⟩
        rw [eqv_ent, he]
        refine ifD (fun h2 => ?_) (fun h2 => ?_)
        · rw [h2, if_pos rfl]
          exact ⟨_, rfl, rfl⟩
        · rw [if_neg (fun z => h2 (Option.some.inj z))]
          exact ⟨_, rfl, rfl⟩
      · have hm2 : es.length ≤ m := by rw [el.len]; omega
        rw [List.getElem?_eq_none hm2, if_neg (fun z => nomatch z)]
        exact ⟨_, rfl, rfl⟩
    · rintro σ H' ⟨v, rfl, rfl⟩
      refine ⟨_, _, rfl, .inl ⟨_, SqL.of hx, rfl⟩, ?_⟩
      rw [← elu.len, List.take_length]
      dsimp only [mEqG]
      rw [seen_bool, ← el.len]
      exact k
end
end NB

set_option Elab.async false
set_option linter.all false
set_option maxRecDepth 100000
set_option maxHeartbeats 4000000
/-! K4m (k29): what is played, told by the law -/
namespace NB
open PySem PySem.Spec L2
open PyProof.Rows (envOfC)
open C8 (pe_c pe_mk pe_mt pe_mt0 pe_gc fnScope fnBody fnArgs fnScope_by Cal Met Mak)
/-- what is played, told by the law -/
def spPlayed : Sp := fun vs H Q _ => ∃ sz a ns l es xs t, vs = [.int sz, .ref a, .ref l] ∧ SizeOk sz ∧ H a = some (.lst (ns.map V.str)) ∧ CrewOk ns ∧ H l = some (.lst xs) ∧ EvL H es xs ∧ es.length ≤ 1000 ∧ (∀ e ∈ es, e.2 ∈ ns) ∧ runD sz ds0 es = some t ∧
  ∀ H' r lu lo ws, Ext H H' → H' r = some (.lst [.ref lu, .ref lo]) → H' lu = some (.lst ws) → EntL H' t.us ws → Q (.ref r) H'
/-- the dict of what comes next: right for all that have a block -/
structure UpK (kvs : List (Key × V)) (s : DS) (n : Nat) : Prop where
  few : kvs.length ≤ n
  val : ∀ z, s.rem z ≠ 0 → valV kvs (Sum.inr z) = some (V.int (s.up z))
theorem UpK.put {kvs : List (Key × V)} {s : DS} {n : Nat} {z : Str} {i : Int} {t : DS} (h : UpK kvs s n) (h1 : ∀ y, y ≠ z → t.rem y = s.rem y) (h2 : t.up = putI s.up z i) : UpK (putK kvs (Sum.inr z) (V.int i)) t (n + 1) := by
  refine ⟨Nat.le_trans (length_putK _ _ _) (Nat.succ_le_succ h.few), fun y hy => ?_⟩
  rw [valV_put, h2]
  unfold putI
  by_cases e : y = z
  · rw [if_pos (by rw [e]), if_pos e]
  · rw [if_neg (fun q => e (Sum.inr.inj q)), if_neg e]
    exact h.val y (by rw [← h1 y e]; exact hy)
/-- where the law's own play stands -/
structure PlS (H : Hp) (ns : List Str) (dl du lo lu : Addr) (n : Nat) (s : DS) (H' : Hp) : Prop where
  left : H' dl = some (.dK (kvI ns s.rem))
  up : ∃ kvs, H' du = some (.dK kvs) ∧ UpK kvs s n
  own : H' lo = some (.lst (s.own.map V.str))
  us : ∃ ws, H' lu = some (.lst ws) ∧ EntL H' s.us ws
  ext : Ext H H'
theorem PlS.mono {H : Hp} {ns : List Str} {dl du lo lu : Addr} {n : Nat} {s : DS} {H' H2 : Hp} (h : PlS H ns dl du lo lu n s H') (x : Ext H' H2) : PlS H ns dl du lo lu n s H2 := by
  obtain ⟨kvs, h1, h2⟩ := h.up
  obtain ⟨ws, h3, h4⟩ := h.us
  exact ⟨x _ _ h.left, ⟨kvs, x _ _ h1, h2⟩, x _ _ h.own, ⟨ws, x _ _ h3, h4.mono x⟩, h.ext.trans x⟩
theorem Ext.put {H H' : Hp} {p : Addr} {o : HO} (x : Ext H H') (n : H p = none) : Ext H (upd H' p o) := fun b u h => by
  rw [upd_ne (ne_of_none h n)]; exact x b u h
section
variable {P : Program} {w : World} {K : PySem.W.Frag} {mg : Str → Option Value} {base : Heap}
theorem ok_played (T : Blt mg) (D : Dx K mg "_law_played" s__law_played ["wide", "names", "steps_here"]) : Cal P w K mg base 1 "_law_played" spPlayed [] := by
  refine cal_of D sc__law_played (fun vs H Q E h => ?_) (fun f cdv A o s H vs Q E hr h => ?_)
  · obtain ⟨sz, a, ns, l, es, xs, t, rfl, _⟩ := h; rfl
  · obtain ⟨sz, a, ns, l, es, xs, t, rfl, so, ha, cr, hl, el, few, nam, run, k⟩ := h
    refine ⟨_, (pss_cons (ps_asg (pe_tup (pa_cons pe_dnewK (pa_cons pe_dnewK (pa_cons (pe_lst pa_nil) (pa_cons (pe_lst pa_nil) pa_nil))))) (pg_tup rfl (pgs_cons (pg_name (i := 3) sc__law_played.nd rfl (Or.inl rfl)) (pgs_cons (pg_name (i := 4) sc__law_played.nd rfl (Or.inl rfl)) (pgs_cons (pg_name (i := 5) sc__law_played.nd rfl (Or.inl rfl)) (pgs_cons (pg_name (i := 6) sc__law_played.nd rfl (Or.inl rfl)) pgs_nil))))))
    (pss_cons (ps_for PassesOwn.never rfl (pi_list (mv 1)) (pg_name (i := 7) sc__law_played.nd rfl (Or.inl rfl))
    (pss_one (ps_asg pe_int (pg_sub (mv 3) (mv 7) (set_dict (u2 hr))))))
    (pss_cons (ps_for PassesOwn.never rfl (pi_list (mv 2)) (pg_name (i := 8) sc__law_played.nd rfl (Or.inl rfl))
    (pss_cons (ps_if (PW.pt (pw_or (pt_not (qv (pe_callB call_isi (by rfl) T.n_isinstance (by decide +kernel) (pa_cons (mv 8) (pa_cons (pe_bltn (v := .ty "tuple") (u := .type "tuple") (by rfl) T.n_tuple (by decide +kernel) rfl) pa_nil))))) (pw_or (qt m_ne (pe_callB call_len (by rfl) T.n_len (by decide +kernel) (pa_cons (mv 8) pa_nil)) pe_int (nomark _)) (pw_or (pt_not (qv (pe_callB call_isi (by rfl) T.n_isinstance (by decide +kernel) (pa_cons (pe_ix m_ix (mv 8) pe_int (fun _ _ => rfl)) (pa_cons (pe_bltn (v := .ty "str") (u := .type "str") (by rfl) T.n_str (by decide +kernel) rfl) pa_nil))))) (pw_or1 (qt op_notIn_seq (pe_ix m_ix (mv 8) pe_int (fun _ _ => rfl)) (mv 1) (by rfl))))))) (pss_one (ps_ret pe_non)) pss_nil)
    (pss_cons (ps_set (i := 7) sc__law_played.nd rfl (Or.inl rfl) (pe_ix m_ix (mv 8) pe_int (fun _ _ => rfl)))
    (pss_one (ps_if (PW.pt (pw_and (qt m_eq (pe_callB call_reprS (by rfl) T.n_repr (by decide +kernel) (pa_cons (pe_ix m_ix (mv 8) pe_int (fun _ _ => rfl)) pa_nil)) (pe_callB call_reprS (by rfl) T.n_repr (by decide +kernel) (pa_cons pe_str pa_nil)) (nomark _)) (pw_and1 (qt m_eq (pe_dget (u2 hr) (mv 3) (mv 7) (fun _ _ => rfl)) pe_int (nomark _))))) (pss_cons (ps_asg (pe_tup (pa_cons (mv 0) (pa_cons (pe_op m_mul (pe_callB call_len (by rfl) T.n_len (by decide +kernel) (pa_cons (mv 5) pa_nil)) (mv 0)) pa_nil))) (pg_tup rfl (pgs_cons (pg_sub (mv 3) (mv 7) (set_dict (u2 hr))) (pgs_cons (pg_sub (mv 4) (mv 7) (set_dict (u2 hr))) pgs_nil))))
    (pss_one (ps_expr (pe_bm PySem.F.plainAttrs_list PySem.F.slot_list_append PySem.F.type_list_append mt_append (mv 5) (pa_cons (mv 7) pa_nil))))) (pss_one (ps_if (PW.pt (pw_and (qt m_eq (pe_callB call_reprS (by rfl) T.n_repr (by decide +kernel) (pa_cons (pe_ix m_ix (mv 8) pe_int (fun _ _ => rfl)) pa_nil)) (pe_callB call_reprS (by rfl) T.n_repr (by decide +kernel) (pa_cons pe_str pa_nil)) (nomark _)) (pw_and1 (qt m_gt (pe_dget (u2 hr) (mv 3) (mv 7) (fun _ _ => rfl)) pe_int (nomark _))))) (pss_cons (ps_expr (pe_bm PySem.F.plainAttrs_list PySem.F.slot_list_append PySem.F.type_list_append mt_append (mv 6) (pa_cons (pe_tup (pa_cons (mv 7) (pa_cons (pe_dget (u2 hr) (mv 4) (mv 7) (fun _ _ => rfl)) pa_nil))) pa_nil)))
    (pss_one (ps_asg (pe_tup (pa_cons (pe_op m_sub (pe_dget (u2 hr) (mv 3) (mv 7) (fun _ _ => rfl)) pe_int) (pa_cons (pe_op m_add (pe_dget (u2 hr) (mv 4) (mv 7) (fun _ _ => rfl)) pe_int) pa_nil))) (pg_tup rfl (pgs_cons (pg_sub (mv 3) (mv 7) (set_dict (u2 hr))) (pgs_cons (pg_sub (mv 4) (mv 7) (set_dict (u2 hr))) pgs_nil)))))) (pss_one (ps_ret pe_non)))))))))
    (pss_one (ps_ret (pe_lst (pa_cons (mv 6) (pa_cons (mv 5) pa_nil)))))))), ?_⟩
    -- four new ones
    intro dl ndl du ndu
    have dl_du : dl ≠ du := ne_of_none upd_same ndu
    have x2 : Ext H (upd (upd H dl (.dK [])) du (.dK [])) := (Ext.upd ndl).trans (Ext.upd ndu)
    have g1 : (upd (upd H dl (.dK [])) du (.dK [])) dl = some (.dK []) := by rw [upd_ne dl_du]; exact upd_same
    have g2 : (upd (upd H dl (.dK [])) du (.dK [])) du = some (.dK []) := upd_same
    have ndu := (upd_none ndu).2
    generalize upd (upd H dl (.dK [])) du (.dK []) = H2 at x2 g1 g2 ⊢
    refine ⟨Nat.zero_le _, fun lo nlo => ⟨Nat.zero_le _, fun lu nlu => ⟨(by show 4 ≤ sizeLine; decide), fun tp ntp => ?_⟩⟩⟩
    have lo_lu : lo ≠ lu := ne_of_none upd_same nlu
    have x5' : Ext H2 (upd (upd (upd H2 lo (.lst [])) lu (.lst [])) tp (.tup [.ref dl, .ref du, .ref lo, .ref lu])) := ((Ext.upd nlo).trans (Ext.upd nlu)).trans (Ext.upd ntp)
    have g3 : (upd (upd (upd H2 lo (.lst [])) lu (.lst [])) tp (.tup [.ref dl, .ref du, .ref lo, .ref lu])) lo = some (.lst []) := Ext.upd ntp _ _ (by rw [upd_ne lo_lu]; exact upd_same)
    have g4 : (upd (upd (upd H2 lo (.lst [])) lu (.lst [])) tp (.tup [.ref dl, .ref du, .ref lo, .ref lu])) lu = some (.lst []) := Ext.upd ntp _ _ upd_same
    have g5 : (upd (upd (upd H2 lo (.lst [])) lu (.lst [])) tp (.tup [.ref dl, .ref du, .ref lo, .ref lu])) tp = some (.tup [.ref dl, .ref du, .ref lo, .ref lu]) := upd_same
    have nlu := (upd_none nlu).2
    generalize upd (upd (upd H2 lo (.lst [])) lu (.lst [])) tp (.tup [.ref dl, .ref du, .ref lo, .ref lu]) = H5 at x5' g3 g4 g5 ⊢
    have x5 := x2.trans x5'
    have g1 := x5' _ _ g1
    have g2 := x5' _ _ g2
    have nlo := Ext.free x2 nlo
    have nlu := Ext.free x2 nlu
    refine ⟨tp, _, rfl, SqT.of g5, rfl, _, _, rfl, _, _, rfl, _, _, rfl, _, _, rfl, rfl, ?_⟩
    -- nothing is left
    refine ⟨a, rfl, ⟨_, SqL.of (x5 _ _ ha)⟩, for_list (xs := ns.map V.str) (fun i σ H' => ∃ v, σ = [some (.int sz), some (.ref a), some (.ref l), some (.ref dl), some (.ref du), some (.ref lo), some (.ref lu), v, none] ∧ H' dl = some (.dK (kvI (ns.take i) fun _ => 0)) ∧ ∀ b, b ≠ dl → H' b = H5 b) ⟨none, rfl, g1, fun _ _ => rfl⟩ ?_ ?_ ?_⟩
    · rintro i σ H' _ ⟨v, rfl, h1, h2⟩
      exact SqL.of (by rw [h2 _ (ne_of_none ha ndl)]; exact x5 _ _ ha)
    · rintro i y σ H' hy ⟨v, rfl, h1, h2⟩
      obtain ⟨z, hz, rfl⟩ := map_at hy
      have hi : i < ns.length := (List.getElem?_eq_some_iff.mp hz).1
      have nm : z ∉ ns.take i := fun m => by
        have q : (ns.take i ++ ns.drop i).Nodup := by rw [List.take_append_drop]; exact cr.nd
        refine (List.nodup_append.mp q).2.2 z m z ?_ rfl
        rw [List.drop_eq_getElem_cons hi, (List.getElem?_eq_some_iff.mp hz).2]
        exact List.mem_cons_self
      have dp := DPut.k (k := Sum.inr z) (v := .int 0) h1 (by rw [kvI_len]; exact Nat.lt_of_le_of_lt (Nat.le_trans (List.length_take_le' _ _) cr.few) (by decide))
      have e1 := kvI_snoc (f := fun _ => 0) nm
      have t1 : ns.take (i + 1) = ns.take i ++ [z] := by rw [List.take_succ, hz]; rfl
      refine ⟨dl, _, rfl, dp, _, rfl, ?_, fun b hb => by rw [upd_ne hb]; exact h2 b hb⟩
      rw [upd_same, t1, ← e1]
    rintro σ H6 ⟨v, rfl, h1, h2⟩
    rw [List.length_map, List.take_length] at h1
    have s0 : PlS H ns dl du lo lu 0 ds0 H6 := by
      refine ⟨h1, ⟨[], by rw [h2 _ dl_du.symm]; exact g2, Nat.zero_le _, fun z hz => absurd rfl hz⟩, ?_, ⟨[], ?_, .nil⟩, fun b u h => ?_⟩
      · rw [h2 _ (ne_of g3 g1 (fun z => nomatch z))]; exact g3
      · rw [h2 _ (ne_of g4 g1 (fun z => nomatch z))]; exact g4
      · rw [h2 _ (ne_of_none h ndl)]; exact x5 _ _ h
    clear h1 h2 g1 g2 g3 g4 g5 x5 x5' x2
    have pr : RemP ds0 := fun _ => Int.le_refl _
    have sz0 : 0 ≤ sz := by have := so.1; omega
    -- the steps
    refine ⟨l, rfl, ⟨_, SqL.of (s0.ext _ _ hl)⟩, for_list (xs := xs) (fun i σ H' => ∃ v v2 u, σ = [some (.int sz), some (.ref a), some (.ref l), some (.ref dl), some (.ref du), some (.ref lo), some (.ref lu), v, v2] ∧ runD sz ds0 (es.take i) = some u ∧ PlS H ns dl du lo lu i u H') ⟨_, _, ds0, rfl, rfl, s0⟩ ?_ ?_ ?_⟩
    · rintro i σ H' _ ⟨v, v2, u, rfl, hu, ps⟩; exact SqL.of (ps.ext _ _ hl)
    · clear s0
      rintro i y σ H' hy ⟨v, v2, u, rfl, hu, ps⟩
      obtain ⟨⟨b, z⟩, he, ev⟩ := EvL.at el hy
      obtain ⟨u1, u2, g1, g2, g3⟩ := runD_next run he
      obtain rfl : u1 = u := Option.some.inj (g1.symm.trans hu)
      have l1 := runD_len g1
      have hi : i < es.length := (List.getElem?_eq_some_iff.mp he).1
      have l2 : (es.take i).length ≤ 1000 := Nat.le_trans (List.length_take_le' _ _) few
      have l3 : u1.own.length + u1.us.length = (es.take i).length := by rw [l1]; simp
      have rp : RemP u1 := runD_rem sz0 g1 pr
      have hz : z ∈ ns := nam _ (List.mem_of_getElem? he)
      obtain ⟨tp, rfl, htp0⟩ := ev
      have htp := ps.ext _ _ htp0
      refine ⟨_, _, _, _, _, rfl, .ty _, .base (.tup htp), kt_tup_tup, ifF (by rfl) ?_⟩
      refine ⟨_, _, rfl, .inr ⟨_, SqT.of htp, rfl⟩, ?_⟩
      dsimp only [tC, mEqG, kB]
      refine ifF (by rfl) ?_
      refine ⟨_, _, .inr (SqT.of htp), atI_nat (j := 1) rfl, ?_⟩
      refine ⟨_, _, _, _, _, rfl, .ty _, .base (.str z), kt_str_str, ifF (by rfl) ?_⟩
      refine ⟨_, _, .inr (SqT.of htp), atI_nat (j := 1) rfl, ?_⟩
      refine ⟨_, _, rfl, .inl (SqL.of (ps.ext _ _ ha)), rfl, flat_strs _, ?_⟩
      rw [inV_str, decide_eq_true hz]
      refine ifF (by rfl) ?_
      refine ⟨_, _, .inr (SqT.of htp), atI_nat (j := 1) rfl, ?_⟩
      refine ⟨_, _, .inr (SqT.of htp), atI_nat (j := 0) rfl, _, rfl, rep_len b, _, rfl, rep_lenT, ?_⟩
      obtain ⟨kvs, hup, uk⟩ := id ps.up
      obtain ⟨ws, hus, hel⟩ := id ps.us
      cases b with
      | true =>
        obtain ⟨r0, rfl⟩ := take_inv g2 (rp z)
        refine ifT rep_T ?_
        refine ⟨dl, _, rfl, dget_in ps.left hz, ?_⟩
        refine ifD (p := u1.rem z = 0) (fun _ => ?_) (fun h => absurd r0 h)
        refine ⟨_, _, rfl, .inl ⟨_, SqL.of ps.own, rfl⟩, mulL (by omega) (by rw [List.length_map]; omega), (by show 2 ≤ sizeLine; decide), fun t2 nt2 => ?_⟩
        rw [List.length_map]
        have x1 := Ext.upd (o := .tup [.int sz, .int (u1.own.length * sz)]) nt2
        have e1 : (upd H' t2 (.tup [.int sz, .int (u1.own.length * sz)])) t2 = some (.tup [.int sz, .int (u1.own.length * sz)]) := upd_same
        have ps1 := ps.mono x1
        have hup1 := x1 _ _ hup
        have hus1 := x1 _ _ hus
        have hel1 := hel.mono x1
        generalize upd H' t2 (.tup [.int sz, .int (u1.own.length * sz)]) = G1 at e1 ps1 hup1 hus1 hel1 ⊢
        clear x1 nt2
        refine ⟨t2, _, rfl, SqT.of e1, rfl, _, _, rfl, dl, _, rfl, dput_in ps1.left hz cr.few, ?_⟩
        have lo_dl : lo ≠ dl := ne_of ps1.own ps1.left (fun z => nomatch z)
        have lu_dl : lu ≠ dl := ne_of hus1 ps1.left (fun z => nomatch z)
        have lo_du : lo ≠ du := ne_of ps1.own hup1 (fun z => nomatch z)
        have lu_du : lu ≠ du := ne_of hus1 hup1 (fun z => nomatch z)
        have hup2 : (upd G1 dl (.dK (kvI ns (putI u1.rem z sz)))) du = some (.dK kvs) := by rw [upd_ne dl_du.symm]; exact hup1
        refine ⟨_, _, rfl, du, _, rfl, DPut.k (k := Sum.inr z) hup2 (Nat.lt_of_le_of_lt (Nat.le_trans uk.few (Nat.le_trans (Nat.le_of_lt hi) few)) (by decide)), rfl, ?_⟩
        have t1 : TupSt G1 (upd G1 dl (.dK (kvI ns (putI u1.rem z sz)))) := TupSt.upd ps1.left (fun _ z => nomatch z)
        have t2' : TupSt (upd G1 dl (.dK (kvI ns (putI u1.rem z sz)))) (upd (upd G1 dl (.dK (kvI ns (putI u1.rem z sz)))) du (.dK (putK kvs (Sum.inr z) (V.int (u1.own.length * sz))))) := TupSt.upd hup2 (fun _ z => nomatch z)
        have ho3 : (upd (upd G1 dl (.dK (kvI ns (putI u1.rem z sz)))) du (.dK (putK kvs (Sum.inr z) (V.int (u1.own.length * sz))))) lo = some (.lst (u1.own.map V.str)) := by rw [upd_ne lo_du, upd_ne lo_dl]; exact ps1.own
        have hus3 : (upd (upd G1 dl (.dK (kvI ns (putI u1.rem z sz)))) du (.dK (putK kvs (Sum.inr z) (V.int (u1.own.length * sz))))) lu = some (.lst ws) := by rw [upd_ne lu_du, upd_ne lu_dl]; exact hus1
        refine ⟨.inl ⟨rfl, _, SqL.of ho3⟩, lo, _, _, rfl, rfl, ho3, by rw [List.length_map]; exact Nat.lt_of_le_of_lt (show u1.own.length ≤ 1000 by omega) (by decide), ?_⟩
        have t3 := TupSt.upd (o := .lst (u1.own.map V.str ++ [V.str z])) ho3 (fun _ z => nomatch z)
        refine ⟨_, _, _, rfl, g3, ?_, ⟨putK kvs (Sum.inr z) (V.int (u1.own.length * sz)), ?_, uk.put (fun y hy => putI_ne hy) rfl⟩, ?_, ⟨ws, ?_, ((hel1.st t1).st t2').st t3⟩, Ext.put (Ext.put (Ext.put ps1.ext ndl) ndu) nlo⟩
        · rw [upd_ne lo_dl.symm, upd_ne dl_du]; exact upd_same
        · rw [upd_ne lo_du.symm]; exact upd_same
        · rw [upd_same, List.map_append]; rfl
        · rw [upd_ne lo_lu.symm]; exact hus3
      | false =>
        obtain ⟨r0, rfl⟩ := use_inv g2
        have r1 : 0 < u1.rem z := by have := rp z; omega
        refine ifF rep_F ?_
        refine ⟨_, _, .inr (SqT.of htp), atI_nat (j := 0) rfl, _, rfl, rep_len false, _, rfl, rep_lenU, ?_⟩
        refine ifT rep_U ?_
        refine ⟨dl, _, rfl, dget_in ps.left hz, ?_⟩
        refine ifD (p := 0 < u1.rem z) (fun _ => ?_) (fun h => absurd r1 h)
        have gu : DGet H' du (.str z) (some (.int (u1.up z))) := by
          have := DGet.k (k := Sum.inr z) hup
          rw [uk.val z r0] at this
          exact this
        refine ⟨.inl ⟨rfl, _, SqL.of hus⟩, du, _, rfl, gu, (by show 2 ≤ sizeLine; decide), fun t2 nt2 => ?_⟩
        have x1 := Ext.upd (o := .tup [.str z, .int (u1.up z)]) nt2
        have e1 : EntAt (upd H' t2 (.tup [.str z, .int (u1.up z)])) (z, u1.up z) (.ref t2) := ⟨t2, rfl, upd_same⟩
        have ps1 := ps.mono x1
        have hup1 := x1 _ _ hup
        have hus1 := x1 _ _ hus
        have hel1 := hel.mono x1
        generalize upd H' t2 (.tup [.str z, .int (u1.up z)]) = G1 at e1 ps1 hup1 hus1 hel1 ⊢
        clear x1 nt2
        have lo_dl : lo ≠ dl := ne_of ps1.own ps1.left (fun z => nomatch z)
        have lu_dl : lu ≠ dl := ne_of hus1 ps1.left (fun z => nomatch z)
        have lo_du : lo ≠ du := ne_of ps1.own hup1 (fun z => nomatch z)
        have lu_du : lu ≠ du := ne_of hus1 hup1 (fun z => nomatch z)
        refine ⟨lu, ws, _, rfl, rfl, hus1, by rw [← hel.len]; exact Nat.lt_of_le_of_lt (show u1.us.length ≤ 1000 by omega) (by decide), ?_⟩
        have t0 := TupSt.upd (o := .lst (ws ++ [.ref t2])) hus1 (fun _ z => nomatch z)
        have el2 : EntL (upd G1 lu (.lst (ws ++ [.ref t2]))) (u1.us ++ [(z, u1.up z)]) (ws ++ [.ref t2]) := by
          have e2 : EntAt (upd G1 lu (.lst (ws ++ [.ref t2]))) (z, u1.up z) (.ref t2) := by obtain ⟨_, e, h⟩ := e1; exact ⟨_, e, t0 _ _ h⟩
          exact snoc' (hel1.st t0) e2
        have hus2 : (upd G1 lu (.lst (ws ++ [.ref t2]))) lu = some (.lst (ws ++ [.ref t2])) := upd_same
        have hup2 : (upd G1 lu (.lst (ws ++ [.ref t2]))) du = some (.dK kvs) := by rw [upd_ne lu_du.symm]; exact hup1
        have hlf2 : (upd G1 lu (.lst (ws ++ [.ref t2]))) dl = some (.dK (kvI ns u1.rem)) := by rw [upd_ne lu_dl.symm]; exact ps1.left
        have how2 : (upd G1 lu (.lst (ws ++ [.ref t2]))) lo = some (.lst (u1.own.map V.str)) := by rw [upd_ne lo_lu]; exact ps1.own
        have xe2 : Ext H (upd G1 lu (.lst (ws ++ [.ref t2]))) := Ext.put ps1.ext nlu
        generalize upd G1 lu (.lst (ws ++ [.ref t2])) = G2 at el2 hus2 hup2 hlf2 how2 xe2 ⊢
        have gu2 : DGet G2 du (.str z) (some (.int (u1.up z))) := by
          have := DGet.k (k := Sum.inr z) hup2
          rw [uk.val z r0] at this
          exact this
        refine ⟨dl, _, rfl, dget_in hlf2 hz, du, _, rfl, gu2, (by show 2 ≤ sizeLine; decide), fun t3 nt3 => ?_⟩
        have x3 := Ext.upd (o := .tup [.int (u1.rem z - 1), .int (u1.up z + 1)]) nt3
        have e3 : (upd G2 t3 (.tup [.int (u1.rem z - 1), .int (u1.up z + 1)])) t3 = some (.tup [.int (u1.rem z - 1), .int (u1.up z + 1)]) := upd_same
        have el3 := el2.mono x3
        have hus3 := x3 _ _ hus2
        have hup3 := x3 _ _ hup2
        have hlf3 := x3 _ _ hlf2
        have how3 := x3 _ _ how2
        have xe3 := xe2.trans x3
        generalize upd G2 t3 (.tup [.int (u1.rem z - 1), .int (u1.up z + 1)]) = G3 at e3 el3 hus3 hup3 hlf3 how3 xe3 ⊢
        refine ⟨t3, _, rfl, SqT.of e3, rfl, _, _, rfl, dl, _, rfl, dput_in hlf3 hz cr.few, ?_⟩
        have hup4 : (upd G3 dl (.dK (kvI ns (putI u1.rem z (u1.rem z - 1))))) du = some (.dK kvs) := by rw [upd_ne dl_du.symm]; exact hup3
        refine ⟨_, _, rfl, du, _, rfl, DPut.k (k := Sum.inr z) hup4 (Nat.lt_of_le_of_lt (Nat.le_trans uk.few (Nat.le_trans (Nat.le_of_lt hi) few)) (by decide)), rfl, ?_⟩
        have t4 : TupSt G3 (upd G3 dl (.dK (kvI ns (putI u1.rem z (u1.rem z - 1))))) := TupSt.upd hlf3 (fun _ z => nomatch z)
        have t5 := TupSt.upd (o := .dK (putK kvs (Sum.inr z) (V.int (u1.up z + 1)))) hup4 (fun _ z => nomatch z)
        refine ⟨_, _, _, rfl, g3, ?_, ⟨putK kvs (Sum.inr z) (V.int (u1.up z + 1)), upd_same, uk.put (fun y hy => putI_ne hy) rfl⟩, ?_, ⟨_, ?_, (el3.st t4).st t5⟩, Ext.put (Ext.put xe3 ndl) ndu⟩
        · rw [upd_ne dl_du]; exact upd_same
        · rw [upd_ne lo_du, upd_ne lo_dl]; exact how3
        · rw [upd_ne lu_du, upd_ne lu_dl]; exact hus3
    · rintro σ H' ⟨v, v2, u, rfl, hu, ps⟩
      rw [← el.len, List.take_length, run] at hu
      obtain rfl := Option.some.inj hu
      obtain ⟨ws, hus, hel⟩ := id ps.us
      refine ⟨(by show 2 ≤ sizeLine; decide), fun r nr => ?_⟩
      have x := Ext.upd (o := .lst [.ref lu, .ref lo]) nr
      exact k _ r lu lo ws (ps.ext.trans x) upd_same (x _ _ hus) (hel.mono x)
end
end NB

set_option Elab.async false
set_option linter.all false
set_option maxRecDepth 100000
set_option maxHeartbeats 4000000
/-! K4n (k29): events drawn -/
namespace NB
open PySem PySem.Spec L2
open PyProof.Rows (envOfC)
open C8 (pe_c pe_mk pe_mt pe_mt0 pe_gc fnScope fnBody fnArgs fnScope_by Cal Met Mak)
theorem tape_ne {n : Nat} {H : Hp} {p b : Addr} {o : HO} (h : TapeAt n H p) (hb : H b = some o) (d : ∀ m, ¬ TapeO m o) : b ≠ p := by
  obtain ⟨u, hp, fu⟩ := h
  exact fun e => by
    rw [e, hp] at hb
    exact d _ (by rw [← Option.some.inj hb]; exact fu)
theorem noT_dK {kvs : List (Key × V)} : ∀ m, ¬ TapeO m (.dK kvs) := fun m ⟨_, _, _, e, _⟩ => nomatch e
theorem noT_tup {xs : List V} : ∀ m, ¬ TapeO m (.tup xs) := fun m ⟨_, _, _, e, _⟩ => nomatch e
theorem noT_ins {C dx : Addr} {fs : List (Str × V)} : ∀ m, ¬ TapeO m (.ins C dx fs) := fun m ⟨_, _, _, e, _⟩ => nomatch e
theorem noT_refs {xs : List V} (h : ∀ v ∈ xs, ∃ p, v = .ref p) : ∀ m, ¬ TapeO m (.lst xs) := fun m ⟨_, _, _, e, _⟩ => by
  injection e with e
  subst e
  obtain ⟨p, e⟩ := h _ List.mem_cons_self
  cases e
theorem noT_strs {ns : List Str} : ∀ m, ¬ TapeO m (.lst (ns.map V.str)) := fun m h => h.ne_strs rfl
theorem EvL.refs {H : Hp} : ∀ {es : List Ev} {xs : List V}, EvL H es xs → ∀ v ∈ xs, ∃ p, v = .ref p
  | _, _, .nil => fun _ h => nomatch h
  | _, _, .cons r q => fun v hv => by
    rcases List.mem_cons.mp hv with rfl | hv
    · obtain ⟨p, e, _⟩ := r; exact ⟨p, e⟩
    · exact EvL.refs q v hv
theorem EntL.refs {H : Hp} : ∀ {es : List (Str × Int)} {xs : List V}, EntL H es xs → ∀ v ∈ xs, ∃ p, v = .ref p
  | _, _, .nil => fun _ h => nomatch h
  | _, _, .cons r q => fun v hv => by
    rcases List.mem_cons.mp hv with rfl | hv
    · obtain ⟨p, e, _⟩ := r; exact ⟨p, e⟩
    · exact EntL.refs q v hv
theorem Frm.put {M : List Addr} {H H1 : Hp} {p : Addr} {o : HO} (a : Frm M H H1) (h : H p = none) : Frm M H (L2.upd H1 p o) := fun c u e n => by
  rw [upd_ne (ne_of_none e h)]; exact a c u e n
theorem frm_none {p q : Addr} {H H' : Hp} {n : Nat} (f : Frm [p] H H') (t : TapeAt n H' p) (h : H' q = none) : H q = none := by
  cases e : H q with
  | none => rfl
  | some o =>
    by_cases qp : q = p
    · obtain ⟨u, hu, _⟩ := t
      rw [← qp, h] at hu; cases hu
    · rw [f _ _ e (fun z => qp (List.mem_singleton.mp z))] at h; cases h
theorem EvL.all {H H' : Hp} {es : List Ev} {xs : List V} (h : EvL H es xs) (x : Ext H H') : EvL H' es xs := h.st (TupSt.ext x)
def spEvents : Sp := fun vs H Q _ => ∃ p sz a most ns n, vs = [.ref p, .int sz, .ref a, .int most] ∧ TapeAt n H p ∧ n ≤ 999990000 ∧ SizeOk sz ∧ H a = some (.lst (ns.map V.str)) ∧ CrewOk ns ∧ 0 ≤ most ∧ most ≤ 120 ∧
  ∀ H' q es xs t, H q = none → H' q = some (.lst xs) → EvL H' es xs → es.length ≤ 1000 → (∀ e ∈ es, e.2 ∈ ns) → runD sz ds0 es = some t → TapeAt (n + 300) H' p → Frm [p] H H' → Q (.ref q) H'
/-- where the drawing stands -/
structure EvS (H : Hp) (ns : List Str) (p dl fo : Addr) (sz : Int) (n i : Nat) (H' : Hp) : Prop where
  ex : ∃ es xs s, H' dl = some (.dK (kvI ns s.rem)) ∧ H' fo = some (.lst xs) ∧ EvL H' es xs ∧ es.length ≤ 20 * i ∧ (∀ e ∈ es, e.2 ∈ ns) ∧ runD sz ds0 es = some s
  tape : TapeAt (n + 1 + 2 * i) H' p
  frm : Frm [p] H H'
section
variable {P : Program} {w : World} {K : PySem.W.Frag} {mg : Str → Option Value} {base : Heap}
theorem ok_events (T : Blt mg) (D : Dx K mg "_law_events" s__law_events ["tape", "wide", "names", "most"]) (c__law_next : Cal P w K mg base 1 "_law_next" spNext []) : Cal P w K mg base 2 "_law_events" spEvents [] := by
  refine cal_of D sc__law_events (fun vs H Q E h => ?_) (fun f cdv A o s H vs Q E hr h => ?_)
  · obtain ⟨p, sz, a, most, ns, n, rfl, _⟩ := h; rfl
  · obtain ⟨p, sz, a, most, ns, n, rfl, tp, hn, so, ha, cr, m0, m1, k⟩ := h
    refine ⟨_, (pss_cons (ps_par (i := 4) (j := 5) rfl sc__law_events.nd rfl rfl (by decide) rfl rfl (pa_cons pe_dnewK (pa_cons (pe_lst pa_nil) pa_nil)) (by rfl))
    (pss_cons (ps_for PassesOwn.never rfl (pi_list (mv 2)) (pg_name (i := 6) sc__law_events.nd rfl (Or.inl rfl))
    (pss_one (ps_asg pe_int (pg_sub (mv 4) (mv 6) (set_dict (u2 hr))))))
    (pss_cons (ps_for PassesOwn.never rfl (pi_range1 (by rfl) T.n_range (pa_cons (pe_c c__law_next hr (by decide) rfl (pa_cons (mv 0) (pa_cons (pe_op m_add (mv 3) pe_int) pa_nil))) pa_nil)) (pg_name (i := 7) sc__law_events.nd rfl (Or.inl rfl))
    (pss_cons (ps_set (i := 6) sc__law_events.nd rfl (Or.inl rfl) (pe_ix m_ix (mv 2) (pe_c c__law_next hr (by decide) rfl (pa_cons (mv 0) (pa_cons (pe_callB call_len (by rfl) T.n_len (by decide +kernel) (pa_cons (mv 2) pa_nil)) pa_nil))) (fun _ _ => rfl)))
    (pss_one (ps_if (qt m_eq (pe_dget (u2 hr) (mv 4) (mv 6) (fun _ _ => rfl)) pe_int (nomark _)) (pss_cons (ps_asg (mv 1) (pg_sub (mv 4) (mv 6) (set_dict (u2 hr))))
    (pss_one (ps_expr (pe_bm PySem.F.plainAttrs_list PySem.F.slot_list_append PySem.F.type_list_append mt_append (mv 5) (pa_cons (pe_tup (pa_cons pe_str (pa_cons (mv 6) pa_nil))) pa_nil))))) (pss_cons (ps_set (i := 8) sc__law_events.nd rfl (Or.inl rfl) (pe_ix m_ix (pe_lst (pa_cons pe_int (pa_cons (pe_dget (u2 hr) (mv 4) (mv 6) (fun _ _ => rfl)) (pa_cons pe_int pa_nil)))) (pe_c c__law_next hr (by decide) rfl (pa_cons (mv 0) (pa_cons pe_int pa_nil))) (fun _ _ => rfl)))
    (pss_cons (ps_set (i := 8) sc__law_events.nd rfl (Or.inl rfl) (pe_callB (call_min2 rfl) (by rfl) T.n_min (by decide +kernel) (pa_cons (mv 8) (pa_cons pe_int pa_nil))))
    (pss_cons (ps_asg (pe_op m_sub (pe_dget (u2 hr) (mv 4) (mv 6) (fun _ _ => rfl)) (mv 8)) (pg_sub (mv 4) (mv 6) (set_dict (u2 hr))))
    (pss_one (ps_expr (pe_bm PySem.F.plainAttrs_list PySem.F.slot_list_extend PySem.F.type_list_extend mt_extend (mv 5) (pa_cons (pe_op op_rep (pe_lst (pa_cons (pe_tup (pa_cons pe_str (pa_cons (mv 6) pa_nil))) pa_nil)) (mv 8)) pa_nil)))))))))))
    (pss_one (ps_ret (pe_slice sl_list (mv 5) po_none (po_some pe_int))))))), ?_⟩
    have ap : a ≠ p := tp.ne ha
    intro dl ndl
    refine ⟨Nat.zero_le _, fun fo nfo => ?_⟩
    have dl_fo : dl ≠ fo := ne_of_none upd_same nfo
    have x2 : Ext H (upd (upd H dl (.dK [])) fo (.lst [])) := (Ext.upd ndl).trans (Ext.upd nfo)
    have g1 : (upd (upd H dl (.dK [])) fo (.lst [])) dl = some (.dK []) := by rw [upd_ne dl_fo]; exact upd_same
    have g2 : (upd (upd H dl (.dK [])) fo (.lst [])) fo = some (.lst []) := upd_same
    have nfo := (upd_none nfo).2
    generalize upd (upd H dl (.dK [])) fo (.lst []) = H2 at x2 g1 g2 ⊢
    have pdl : p ≠ dl := by obtain ⟨o, hp, _⟩ := tp; exact ne_of_none hp ndl
    have pfo : p ≠ fo := by obtain ⟨o, hp, _⟩ := tp; exact ne_of_none hp nfo
    -- nothing is left
    refine ⟨_, _, rfl, a, rfl, ⟨_, SqL.of (x2 _ _ ha)⟩, for_list (xs := ns.map V.str) (fun i σ H' => ∃ v, σ = [some (.ref p), some (.int sz), some (.ref a), some (.int most), some (.ref dl), some (.ref fo), v, none, none] ∧ H' dl = some (.dK (kvI (ns.take i) fun _ => 0)) ∧ ∀ b, b ≠ dl → H' b = H2 b) ⟨none, rfl, g1, fun _ _ => rfl⟩ ?_ ?_ ?_⟩
    · rintro i σ H' _ ⟨v, rfl, h1, h2⟩
      exact SqL.of (by rw [h2 _ (ne_of_none ha ndl)]; exact x2 _ _ ha)
    · rintro i y σ H' hy ⟨v, rfl, h1, h2⟩
      obtain ⟨z, hz, rfl⟩ := map_at hy
      have hi : i < ns.length := (List.getElem?_eq_some_iff.mp hz).1
      have nm : z ∉ ns.take i := fun m => by
        have q : (ns.take i ++ ns.drop i).Nodup := by rw [List.take_append_drop]; exact cr.nd
        refine (List.nodup_append.mp q).2.2 z m z ?_ rfl
        rw [List.drop_eq_getElem_cons hi, (List.getElem?_eq_some_iff.mp hz).2]
        exact List.mem_cons_self
      have dp := DPut.k (k := Sum.inr z) (v := .int 0) h1 (by rw [kvI_len]; exact Nat.lt_of_le_of_lt (Nat.le_trans (List.length_take_le' _ _) cr.few) (by decide))
      have e1 := kvI_snoc (f := fun _ => 0) nm
      have t1 : ns.take (i + 1) = ns.take i ++ [z] := by rw [List.take_succ, hz]; rfl
      refine ⟨dl, _, rfl, dp, _, rfl, ?_, fun b hb => by rw [upd_ne hb]; exact h2 b hb⟩
      rw [upd_same, t1, ← e1]
    rintro σ H6 ⟨v, rfl, h1, h2⟩
    rw [List.length_map, List.take_length] at h1
    have hfo : H6 fo = some (.lst []) := by rw [h2 _ dl_fo.symm]; exact g2
    have fr6 : Frm [p] H H6 := fun b u h _ => by rw [h2 _ (ne_of_none h ndl)]; exact x2 _ _ h
    have tp6 : TapeAt n H6 p := by
      obtain ⟨o, hp, fo⟩ := tp
      exact ⟨o, by rw [h2 _ pdl]; exact x2 _ _ hp, fo⟩
    clear h2 g1 g2 x2
    -- how many turns
    refine ⟨p, _, n, rfl, tp6, by omega, by omega, Int.lt_of_le_of_lt (b := 121) (by omega) (by decide), fun r o1 r0 r1 fo1 => ?_⟩
    refine ⟨_, rfl, by omega, by omega, for_range (lo := 0) (n := r.toNat) (fun i σ H' => ∃ v1 v2 v3, σ = [some (.ref p), some (.int sz), some (.ref a), some (.int most), some (.ref dl), some (.ref fo), v1, v2, v3] ∧ EvS H ns p dl fo sz n i H') ?_ ?_ ?_⟩
    · refine ⟨_, _, _, rfl, ⟨[], [], ds0, ?_, ?_, .nil, Nat.zero_le _, (fun _ h => nomatch h), rfl⟩, ⟨o1, upd_same, fo1⟩, fr6.upd mem1⟩
      · rw [upd_ne pdl.symm]; exact h1
      · rw [upd_ne pfo.symm]; exact hfo
    · clear h1 hfo fr6 tp6
      rintro i σ H' hi ⟨v1, v2, v3, rfl, ⟨es, xs, u, hdl, hfo, el, hle, hz, run⟩, tp', fr'⟩
      have sz0 : 0 ≤ sz := by have := so.1; omega
      have h12 := cr.few
      have h1' := cr.one
      have ha' := fr' _ _ ha (fun z => ap (List.mem_singleton.mp z))
      have rp : RemP u := runD_rem sz0 run fun _ => Int.le_refl _
      have lx := el.len
      -- a name
      refine ⟨_, _, rfl, .inl ⟨_, SqL.of ha', rfl⟩, ?_⟩
      rw [List.length_map]
      refine ⟨p, _, _, rfl, tp', by omega, by omega, Int.lt_of_le_of_lt (b := 12) (by omega) (by decide), fun r2 o2 q0 q1 fo2 => ?_⟩
      have hk : r2.toNat < ns.length := by omega
      have ha1 : (upd H' p o2) a = some (.lst (ns.map V.str)) := by rw [upd_ne ap]; exact ha'
      refine ⟨_, .str ns[r2.toNat], .inl (SqL.of ha1), atI_at q0 (by rw [List.getElem?_map, List.getElem?_eq_getElem hk]; rfl), ?_⟩
      have hzn : ns[r2.toNat] ∈ ns := List.getElem_mem _
      generalize ns[r2.toNat] = z at hzn ⊢
      have tst : TupSt H' (upd H' p o2) := by obtain ⟨ou, hpu, fu⟩ := tp'; exact TupSt.upd hpu fu.ne_tup
      have hdl1 : (upd H' p o2) dl = some (.dK (kvI ns u.rem)) := by rw [upd_ne pdl.symm]; exact hdl
      have hfo1 : (upd H' p o2) fo = some (.lst xs) := by rw [upd_ne pfo.symm]; exact hfo
      have el1 := el.st tst
      have tp1 : TapeAt (n + 1 + 2 * i + 1) (upd H' p o2) p := ⟨o2, upd_same, fo2⟩
      have fr1 := fr'.upd (o := o2) (p := p) mem1
      clear tst hdl hfo el tp' fr' ha'
      generalize upd H' p o2 = H1 at ha1 hdl1 hfo1 el1 tp1 fr1 ⊢
      refine ⟨dl, _, rfl, dget_in hdl1 hzn, ?_⟩
      refine ifD (p := u.rem z = 0) (fun e0 => ?_) (fun e0 => ?_)
      · -- it takes a block
        refine ⟨dl, _, rfl, dput_in hdl1 hzn cr.few, ?_⟩
        have hfo2 : (upd H1 dl (.dK (kvI ns (putI u.rem z sz)))) fo = some (.lst xs) := by rw [upd_ne dl_fo.symm]; exact hfo1
        have hdl2 : (upd H1 dl (.dK (kvI ns (putI u.rem z sz)))) dl = some (.dK (kvI ns (putI u.rem z sz))) := upd_same
        have el2 := el1.st (TupSt.upd (o := .dK (kvI ns (putI u.rem z sz))) hdl1 (fun _ z => nomatch z))
        have fr2 := fr1.put (o := .dK (kvI ns (putI u.rem z sz))) ndl
        have tp2 : TapeAt (n + 1 + 2 * i + 1) (upd H1 dl (.dK (kvI ns (putI u.rem z sz)))) p := by
          obtain ⟨o, h, g⟩ := tp1
          exact ⟨o, by rw [upd_ne pdl]; exact h, g⟩
        clear hdl1 hfo1 el1 fr1 tp1
        generalize upd H1 dl (.dK (kvI ns (putI u.rem z sz))) = H2 at hfo2 hdl2 el2 fr2 tp2 ⊢
        refine ⟨.inl ⟨rfl, _, SqL.of hfo2⟩, (by show 2 ≤ sizeLine; decide), fun tp ntp => ?_⟩
        have x3 := Ext.upd (o := .tup [.str "take", .str z]) ntp
        have ev3 : EvAt (upd H2 tp (.tup [.str "take", .str z])) (true, z) (.ref tp) := ⟨tp, rfl, upd_same⟩
        have hfo3 := x3 _ _ hfo2
        have hdl3 := x3 _ _ hdl2
        have el3 := el2.all x3
        have fr3 := fr2.trans (Frm.ext x3)
        have tp3 := tp2.keep x3
        generalize upd H2 tp (.tup [.str "take", .str z]) = H3 at hfo3 hdl3 el3 fr3 tp3 ev3 ⊢
        have t4 := TupSt.upd (o := .lst (xs ++ [.ref tp])) hfo3 (fun _ z => nomatch z)
        refine ⟨fo, _, _, rfl, rfl, hfo3, by rw [← lx]; exact Nat.lt_of_le_of_lt (show es.length ≤ 3000 by omega) (by decide), ?_⟩
        refine ⟨_, _, _, rfl, ⟨es ++ [(true, z)], xs ++ [.ref tp], { rem := putI u.rem z sz, up := putI u.up z (u.own.length * sz), own := u.own ++ [z], us := u.us }, ?_, upd_same, pApp (el3.st t4) (.cons (ev3.st t4) .nil), ?_, ?_, ?_⟩, ?_, fr3.put nfo⟩
        · rw [upd_ne dl_fo]; exact hdl3
        · rw [List.length_append, List.length_singleton]; omega
        · intro e he
          rcases List.mem_append.mp he with he | he
          · exact hz e he
          · rw [List.mem_singleton.mp he]; exact hzn
        · rw [runD_snoc run]
          show (stepD sz u (true, z)).bind _ = _
          rw [step_take e0]; rfl
        · obtain ⟨o, h, g⟩ := tp3
          exact ⟨o, by rw [upd_ne pfo]; exact h, g.mono (by omega)⟩
      · -- it uses some
        have rz := rp z
        refine ⟨dl, _, rfl, dget_in hdl1 hzn, (by show 3 ≤ sizeLine; decide), fun t1 nt1 => ?_⟩
        have x2 := Ext.upd (o := .lst [.int 1, .int (u.rem z), .int 1]) nt1
        have ht2 : (upd H1 t1 (.lst [.int 1, .int (u.rem z), .int 1])) t1 = some (.lst [.int 1, .int (u.rem z), .int 1]) := upd_same
        have t1p : t1 ≠ p := by obtain ⟨o, h, _⟩ := tp1; exact (ne_of_none h nt1).symm
        have hdl2 := x2 _ _ hdl1
        have hfo2 := x2 _ _ hfo1
        have el2 := el1.all x2
        have fr2 := fr1.trans (Frm.ext x2)
        have tp2 := tp1.keep x2
        clear hdl1 hfo1 el1 fr1 tp1
        generalize upd H1 t1 (.lst [.int 1, .int (u.rem z), .int 1]) = H2 at ht2 hfo2 hdl2 el2 fr2 tp2 ⊢
        refine ⟨p, 3, _, rfl, tp2, by omega, by decide, by decide, fun r3 o3 w0 w1 fo3 => ?_⟩
        have ht3 : (upd H2 p o3) t1 = some (.lst [.int 1, .int (u.rem z), .int 1]) := by rw [upd_ne t1p]; exact ht2
        obtain ⟨m, hm, mm⟩ : ∃ m, atI [V.int 1, V.int (u.rem z), V.int 1] r3 = some (.int m) ∧ 1 ≤ m ∧ m ≤ u.rem z := by
          have : r3 = 0 ∨ r3 = 1 ∨ r3 = 2 := by omega
          rcases this with rfl | rfl | rfl
          · exact ⟨1, rfl, by omega, by omega⟩
          · exact ⟨u.rem z, rfl, by omega, by omega⟩
          · exact ⟨1, rfl, by omega, by omega⟩
        refine ⟨_, _, .inl (SqL.of ht3), hm, ?_⟩
        have tst : TupSt H2 (upd H2 p o3) := by obtain ⟨ou, hpu, fu⟩ := tp2; exact TupSt.upd hpu fu.ne_tup
        have hdl3 : (upd H2 p o3) dl = some (.dK (kvI ns u.rem)) := by rw [upd_ne pdl.symm]; exact hdl2
        have hfo3 : (upd H2 p o3) fo = some (.lst xs) := by rw [upd_ne pfo.symm]; exact hfo2
        have el3 := el2.st tst
        have tp3 : TapeAt (n + 1 + 2 * i + 1 + 1) (upd H2 p o3) p := ⟨o3, upd_same, fo3⟩
        have fr3 := fr2.upd (o := o3) (p := p) mem1
        clear tst hdl2 hfo2 el2 fr2 tp2 ht2 ht3
        generalize upd H2 p o3 = H3 at hdl3 hfo3 el3 tp3 fr3 ⊢
        refine ⟨_, _, rfl, ?_⟩
        obtain ⟨j, hj, j1, j2, j3⟩ : ∃ j : Int, (if (20 : Int) < m then 20 else m) = j ∧ 1 ≤ j ∧ j ≤ u.rem z ∧ j ≤ 20 := by
          by_cases h : (20 : Int) < m
          · exact ⟨20, if_pos h, by omega, by omega, by omega⟩
          · exact ⟨m, if_neg h, by omega, by omega, by omega⟩
        rw [hj]
        refine ⟨dl, _, rfl, dget_in hdl3 hzn, dl, _, rfl, dput_in hdl3 hzn cr.few, ?_⟩
        have hfo4 : (upd H3 dl (.dK (kvI ns (putI u.rem z (u.rem z - j))))) fo = some (.lst xs) := by rw [upd_ne dl_fo.symm]; exact hfo3
        have hdl4 : (upd H3 dl (.dK (kvI ns (putI u.rem z (u.rem z - j))))) dl = some (.dK (kvI ns (putI u.rem z (u.rem z - j)))) := upd_same
        have el4 := el3.st (TupSt.upd (o := .dK (kvI ns (putI u.rem z (u.rem z - j)))) hdl3 (fun _ z => nomatch z))
        have fr4 := fr3.put (o := .dK (kvI ns (putI u.rem z (u.rem z - j)))) ndl
        have tp4 : TapeAt (n + 1 + 2 * i + 1 + 1) (upd H3 dl (.dK (kvI ns (putI u.rem z (u.rem z - j))))) p := by
          obtain ⟨o, h, g⟩ := tp3
          exact ⟨o, by rw [upd_ne pdl]; exact h, g⟩
        clear hdl3 hfo3 el3 fr3 tp3
        generalize upd H3 dl (.dK (kvI ns (putI u.rem z (u.rem z - j)))) = H4 at hfo4 hdl4 el4 fr4 tp4 ⊢
        refine ⟨.inl ⟨rfl, _, SqL.of hfo4⟩, (by show 2 ≤ sizeLine; decide), fun tp ntp => ?_⟩
        have x5 := Ext.upd (o := .tup [.str "use", .str z]) ntp
        have ev5 : EvAt (upd H4 tp (.tup [.str "use", .str z])) (false, z) (.ref tp) := ⟨tp, rfl, upd_same⟩
        have hfo5 := x5 _ _ hfo4
        have hdl5 := x5 _ _ hdl4
        have el5 := el4.all x5
        have fr5 := fr4.trans (Frm.ext x5)
        have tp5 := tp4.keep x5
        generalize upd H4 tp (.tup [.str "use", .str z]) = H5 at hfo5 hdl5 el5 fr5 tp5 ev5 ⊢
        clear hfo4 hdl4 el4 fr4 tp4 x5
        refine ⟨(by show 1 ≤ sizeLine; decide), fun tl ntl => ?_⟩
        refine ⟨tl, j, _, rfl, rfl, upd_same, by omega, by omega, ?_, fun tr ntr => ?_⟩
        · show 1 * j.toNat ≤ sizeLine
          exact Nat.le_trans (show 1 * j.toNat ≤ 20 by omega) (by decide)
        have er : (List.replicate j.toNat [V.ref tp]).flatten = List.replicate j.toNat (V.ref tp) := by
          rw [List.flatten_replicate_singleton]
        rw [er]
        have x6 := (Ext.upd (o := .lst [.ref tp]) ntl).trans (Ext.upd (o := .lst (List.replicate j.toNat (V.ref tp))) ntr)
        have htr : (upd (upd H5 tl (.lst [.ref tp])) tr (.lst (List.replicate j.toNat (V.ref tp)))) tr = some (.lst (List.replicate j.toNat (V.ref tp))) := upd_same
        have ev6 := ev5.st (TupSt.ext x6)
        have hfo6 := x6 _ _ hfo5
        have hdl6 := x6 _ _ hdl5
        have el6 := el5.all x6
        have fr6' := fr5.trans (Frm.ext x6)
        have tp6' := tp5.keep x6
        generalize upd (upd H5 tl (.lst [.ref tp])) tr (.lst (List.replicate j.toNat (V.ref tp))) = H6' at htr ev6 hfo6 hdl6 el6 fr6' tp6' ⊢
        refine ⟨fo, tr, xs, _, rfl, rfl, hfo6, htr, ?_, ?_⟩
        · rw [List.length_replicate, ← lx]
          exact Nat.le_trans (show es.length + j.toNat ≤ 3000 by omega) (by decide)
        have t7 := TupSt.upd (o := .lst (xs ++ List.replicate j.toNat (V.ref tp))) hfo6 (fun _ z => nomatch z)
        obtain ⟨u', hu', hrem⟩ := runD_uses (sz := sz) (z := z) j.toNat u (by omega)
        have ej : ((j.toNat : Nat) : Int) = j := by omega
        rw [ej] at hrem
        refine ⟨_, _, _, rfl, ⟨es ++ List.replicate j.toNat (false, z), xs ++ List.replicate j.toNat (V.ref tp), u', ?_, upd_same, pApp (el6.st t7) (pRep (ev6.st t7) _), ?_, ?_, ?_⟩, ?_, fr6'.put nfo⟩
        · rw [upd_ne dl_fo, hrem]; exact hdl6
        · rw [List.length_append, List.length_replicate]; omega
        · intro e he
          rcases List.mem_append.mp he with he | he
          · exact hz e he
          · rw [(List.mem_replicate.mp he).2]; exact hzn
        · rw [runD_snoc run]; exact hu'
        · obtain ⟨o, h, g⟩ := tp6'
          exact ⟨o, by rw [upd_ne pfo]; exact h, g.mono (by omega)⟩
    · clear h1 hfo fr6 tp6
      rintro σ H' ⟨v1, v2, v3, rfl, ⟨es, xs, u, hdl, hfo, el, hle, hz, run⟩, tp', fr'⟩
      refine ⟨_, rfl, fo, _, rfl, SqL.of hfo, fun q nq => ?_⟩
      rw [cut_to (by decide)]
      have x := Ext.upd (o := .lst (xs.take (1000 : Int).toNat)) nq
      obtain ⟨t, ht⟩ := runD_take run 1000
      refine k _ q (es.take 1000) _ t (frm_none fr' tp' nq) upd_same (EvL.all (pTake 1000 el) x) (List.length_take_le _ _) (fun e he => hz e (List.mem_of_mem_take he)) ht ((tp'.keep x).mono (by omega)) (fr'.trans (Frm.ext x))
end
end NB

set_option Elab.async false
set_option linter.all false
set_option maxRecDepth 100000
set_option maxHeartbeats 4000000
/-! K4o (k29): entries drawn from uses -/
namespace NB
open PySem PySem.Spec L2
open PyProof.Rows (envOfC)
open C8 (pe_c pe_mk pe_mt pe_mt0 pe_gc fnScope fnBody fnArgs fnScope_by Cal Met Mak)
def OkE (ns : List Str) (es : List (Str × Int)) : Prop := ∀ e ∈ es, e.1 ∈ ns ∧ 0 ≤ e.2
theorem OkE.app {ns : List Str} {es gs : List (Str × Int)} (a : OkE ns es) (b : OkE ns gs) : OkE ns (es ++ gs) := fun e he => (List.mem_append.mp he).elim (a e) (b e)
theorem OkE.take {ns : List Str} {es : List (Str × Int)} (a : OkE ns es) (n : Nat) : OkE ns (es.take n) := fun e he => a e (List.mem_of_mem_take he)
theorem OkE.drop {ns : List Str} {es : List (Str × Int)} (a : OkE ns es) (n : Nat) : OkE ns (es.drop n) := fun e he => a e (List.mem_of_mem_drop he)
theorem OkE.one {ns : List Str} {e : Str × Int} (a : e.1 ∈ ns ∧ 0 ≤ e.2) : OkE ns [e] := fun x hx => by rw [List.mem_singleton.mp hx]; exact a
structure RowS (H : Hp) (p : Addr) (ns : List Str) (n m : Nat) (q : Addr) (H' : Hp) : Prop where
  ex : ∃ es xs, H' q = some (.lst xs) ∧ EntL H' es xs ∧ es.length ≤ m ∧ OkE ns es
  nw : H q = none
  tape : TapeAt n H' p
  frm : Frm [p] H H'
theorem RowS.put {H : Hp} {p : Addr} {ns : List Str} {n m : Nat} {H' : Hp} {t : Addr} {es : List (Str × Int)} {xs : List V} (tape : TapeAt n H' p) (frm : Frm [p] H H') (nt : H' t = none) (el : EntL H' es xs) (hl : es.length ≤ m) (ok : OkE ns es) : RowS H p ns n m t (upd H' t (.lst xs)) := by
  have x := Ext.upd (o := .lst xs) nt
  exact ⟨⟨es, xs, upd_same, el.mono x, hl, ok⟩, frm_none frm tape nt, tape.keep x, frm.trans (Frm.ext x)⟩
theorem RowS.mono {H : Hp} {p : Addr} {ns : List Str} {n m n' m' : Nat} {q : Addr} {H' : Hp} (h : RowS H p ns n m q H') (h1 : n ≤ n') (h2 : m ≤ m') : RowS H p ns n' m' q H' := by
  obtain ⟨es, xs, a, b, c, d⟩ := h.ex
  exact ⟨⟨es, xs, a, b, Nat.le_trans c h2, d⟩, h.nw, h.tape.mono h1, h.frm⟩
theorem RowS.draw {H : Hp} {p : Addr} {ns : List Str} {n m n2 : Nat} {q : Addr} {H' : Hp} {op o2 : HO} (hop : H p = some op) (h : RowS H p ns n m q H') (fo : TapeO n2 o2) : RowS H p ns n2 m q (upd H' p o2) := by
  obtain ⟨es, xs, a, b, c, d⟩ := h.ex
  have qp : q ≠ p := fun e => by have := h.nw; rw [e, hop] at this; cases this
  have tst : TupSt H' (upd H' p o2) := by obtain ⟨ou, hpu, fu⟩ := h.tape; exact TupSt.upd hpu fu.ne_tup
  exact ⟨⟨es, xs, by rw [upd_ne qp]; exact a, EntL.st b tst, c, d⟩, h.nw, ⟨o2, upd_same, fo⟩, h.frm.upd mem1⟩
theorem RowS.ext {H : Hp} {p : Addr} {ns : List Str} {n m : Nat} {q : Addr} {H' H2 : Hp} (h : RowS H p ns n m q H') (x : Ext H' H2) : RowS H p ns n m q H2 := by
  obtain ⟨es, xs, a, b, c, d⟩ := h.ex
  exact ⟨⟨es, xs, x _ _ a, b.mono x, c, d⟩, h.nw, h.tape.keep x, h.frm.trans (Frm.ext x)⟩
def spRows : Sp := fun vs H Q _ => ∃ p a sz u ns us vs1 n, vs = [.ref p, .ref a, .int sz, .ref u] ∧ TapeAt n H p ∧ n ≤ 999990000 ∧ SizeOk sz ∧ H a = some (.lst (ns.map V.str)) ∧ CrewOk ns ∧ H u = some (.lst vs1) ∧ EntL H us vs1 ∧ us.length ≤ 1000 ∧ OkE ns us ∧
  ∀ H' q es xs, H q = none → H' q = some (.lst xs) → EntL H' es xs → EntsOk ns es → TapeAt (n + 1010) H' p → Frm [p] H H' → Q (.ref q) H'
section
variable {P : Program} {w : World} {K : PySem.W.Frag} {mg : Str → Option Value} {base : Heap}
theorem ok_rows (T : Blt mg) (D : Dx K mg "_law_rows" s__law_rows ["tape", "names", "wide", "uses_here"]) (c__law_next : Cal P w K mg base 1 "_law_next" spNext []) : Cal P w K mg base 2 "_law_rows" spRows [] := by
  refine cal_of D sc__law_rows (fun vs H Q E h => ?_) (fun f cdv A o s H vs Q E hr h => ?_)
  · obtain ⟨p, a, sz, u, ns, us, vs1, n, rfl, _⟩ := h; rfl
  · obtain ⟨p, a, sz, u, ns, us, vs, n, rfl, tp, hn, so, ha, cr, hu, elu, few, oku, k⟩ := h
    refine ⟨_, (C8.pss_cut (ps_set (i := 4) sc__law_rows.nd rfl (Or.inr rfl) (pe_op m_add pe_int (pe_c c__law_next hr (by decide) rfl (pa_cons (mv 0) (pa_cons pe_int pa_nil)))))
    (C8.pss_cut (ps_set (i := 5) sc__law_rows.nd rfl (Or.inl rfl) (pe_slice sl_list (pe_lc (own := [("pair", 6)]) (g := gName 6) rfl sc__law_rows.nd (pi_list (mv 3)) (blkOk_by (own := [("pair", 6)]) (N := ["tape", "names", "wide", "uses_here", "rate", "rows", "pair", "way", "spot", "front", "rest"]) (sc := fnScope s__law_rows) (by decide +kernel)) (fun _ _ _ _ _ => (pg_name (i := 6) sc__law_rows.nd rfl (Or.inl rfl))) (fun _ _ _ _ _ => (pts_one (qt m_eq (pe_c c__law_next hr (by decide) rfl (pa_cons (mv 0) (pa_cons (mv 4) pa_nil))) pe_int (nomark _)))) (fun _ _ _ _ _ => (mv 6))) po_none (po_some pe_int)))
    (C8.pss_cut (ps_par (i := 7) (j := 8) rfl sc__law_rows.nd rfl rfl (by decide) rfl rfl (pa_cons (pe_c c__law_next hr (by decide) rfl (pa_cons (mv 0) (pa_cons pe_int pa_nil))) (pa_cons (pe_c c__law_next hr (by decide) rfl (pa_cons (mv 0) (pa_cons (pe_op m_add (pe_callB call_len (by rfl) T.n_len (by decide +kernel) (pa_cons (mv 5) pa_nil)) pe_int) pa_nil))) pa_nil)) (by rfl))
    (C8.pss_cut (ps_if (PW.pt (pw_and (qt m_eq (mv 7) pe_int (nomark _)) (pw_and1 (qt m_gt (pe_callB call_len (by rfl) T.n_len (by decide +kernel) (pa_cons (mv 5) pa_nil)) pe_int (nomark _))))) (pss_cons (ps_par (i := 9) (j := 10) rfl sc__law_rows.nd rfl rfl (by decide) rfl rfl (pa_cons (pe_slice sl_list (mv 5) po_none (po_some (mv 8))) (pa_cons (pe_slice sl_list (mv 5) (po_some (mv 8)) po_none) pa_nil)) (by rfl))
    (pss_one (ps_set (i := 5) sc__law_rows.nd rfl (Or.inl rfl) (pe_op op_cat (pe_op op_cat (mv 9) (pe_slice sl_list (mv 10) po_none (po_some pe_int))) (mv 10))))) pss_nil)
    (C8.pss_cut (ps_if (qt m_eq (mv 7) pe_int (nomark _)) (pss_one (ps_set (i := 5) sc__law_rows.nd rfl (Or.inl rfl) (pe_op op_cat (pe_slice sl_list (mv 5) (po_some (mv 8)) po_none) (pe_slice sl_list (mv 5) po_none (po_some (mv 8)))))) pss_nil)
    (C8.pss_cut (ps_if (PW.pt (pw_and (qt m_eq (mv 7) pe_int (nomark _)) (pw_and1 (qt m_lt (mv 8) (pe_callB call_len (by rfl) T.n_len (by decide +kernel) (pa_cons (mv 5) pa_nil)) (nomark _))))) (pss_one (ps_set (i := 5) sc__law_rows.nd rfl (Or.inl rfl) (pe_op op_cat (pe_op op_cat (pe_slice sl_list (mv 5) po_none (po_some (mv 8))) (pe_lst (pa_cons (pe_tup (pa_cons (pe_ix m_ix (mv 1) (pe_c c__law_next hr (by decide) rfl (pa_cons (mv 0) (pa_cons (pe_callB call_len (by rfl) T.n_len (by decide +kernel) (pa_cons (mv 1) pa_nil)) pa_nil))) (fun _ _ => rfl)) (pa_cons (pe_ix m_ix (pe_ix m_ix (mv 5) (mv 8) (fun _ _ => rfl)) pe_int (fun _ _ => rfl)) pa_nil))) pa_nil))) (pe_slice sl_list (mv 5) (po_some (pe_op m_add (mv 8) pe_int)) po_none)))) pss_nil)
    (C8.pss_cut (ps_if (PW.pt (pw_and (qt m_eq (mv 7) pe_int (nomark _)) (pw_and1 (qt m_lt (mv 8) (pe_callB call_len (by rfl) T.n_len (by decide +kernel) (pa_cons (mv 5) pa_nil)) (nomark _))))) (pss_one (ps_set (i := 5) sc__law_rows.nd rfl (Or.inl rfl) (pe_op op_cat (pe_op op_cat (pe_slice sl_list (mv 5) po_none (po_some (mv 8))) (pe_lst (pa_cons (pe_tup (pa_cons (pe_ix m_ix (pe_ix m_ix (mv 5) (mv 8) (fun _ _ => rfl)) pe_int (fun _ _ => rfl)) (pa_cons (pe_op m_add (pe_ix m_ix (pe_ix m_ix (mv 5) (mv 8) (fun _ _ => rfl)) pe_int (fun _ _ => rfl)) pe_int) pa_nil))) pa_nil))) (pe_slice sl_list (mv 5) (po_some (pe_op m_add (mv 8) pe_int)) po_none)))) pss_nil)
    (C8.pss_cut (ps_if (qt m_eq (mv 7) pe_int (nomark _)) (pss_one (ps_set (i := 5) sc__law_rows.nd rfl (Or.inl rfl) (pe_op op_cat (mv 5) (pe_lst (pa_cons (pe_tup (pa_cons (pe_ix m_ix (mv 1) pe_int (fun _ _ => rfl)) (pa_cons (pe_c c__law_next hr (by decide) rfl (pa_cons (mv 0) (pa_cons (pe_op m_mul pe_int (mv 2)) pa_nil))) pa_nil))) pa_nil))))) pss_nil)
    (pss_one (ps_ret (mv 5))))))))))), ?_⟩
    have ap : a ≠ p := tp.ne ha
    have up : u ≠ p := tape_ne tp hu (noT_refs elu.refs)
    have lu := elu.len
    have tpE : ∃ op, H p = some op ∧ TapeO n op := tp
    obtain ⟨op, hop, fop⟩ := tpE
    -- the rate
    refine ⟨fun σ H' => ∃ r, σ = [some (.ref p), some (.ref a), some (.int sz), some (.ref u), some (.int r), none, none, none, none, none, none] ∧ 1 ≤ r ∧ r ≤ 4 ∧ TapeAt (n + 1) H' p ∧ Frm [p] H H', ?_, ?_⟩
    · refine ⟨p, 4, n, rfl, tp, by omega, by decide, by decide, fun r o1 r0 r1 fo1 => ?_⟩
      exact ⟨_, rfl, by omega, by omega, ⟨o1, upd_same, fo1⟩, Frm.refl.upd mem1⟩
    rintro σ H1 ⟨r, rfl, r0, r1, tp1, fr1⟩
    -- some of the uses
    refine ⟨fun σ H' => ∃ q v6, σ = [some (.ref p), some (.ref a), some (.int sz), some (.ref u), some (.int r), some (.ref q), v6, none, none, none, none] ∧ RowS H p ns (n + 1001) 150 q H', ?_, ?_⟩
    · have hu1 := fr1 _ _ hu (fun z => up (List.mem_singleton.mp z))
      refine ⟨u, rfl, ⟨_, SqL.of hu1⟩, fun d hd => lc_list (K := K) (a := u) (xs := vs) (fun i H' => ∃ es xs, H' d = some (.lst xs) ∧ EntL H' es xs ∧ es.length ≤ i ∧ OkE ns es ∧ TapeAt (n + 1 + i) H' p ∧ Frm [p] H H') ⟨[], [], upd_same, .nil, Nat.le_refl _, (fun _ h => nomatch h), tp1.keep (Ext.upd hd), fr1.new hd⟩ (fun i H1 _ t => ?_) ?_ ?_⟩
      · obtain ⟨_, _, _, _, _, _, _, fr⟩ := t
        exact SqL.of (fr _ _ hu (fun z => up (List.mem_singleton.mp z)))
      · rintro i y H2 hy ⟨es, xs, h1, el, hl, ok, tp2, fr2⟩
        have hi : i < vs.length := (List.getElem?_eq_some_iff.mp hy).1
        have nd : H d = none := frm_none fr1 tp1 hd
        have dp : d ≠ p := fun e => by rw [e, hop] at nd; cases nd
        refine ⟨rfl, ?_⟩
        refine ⟨p, r, _, rfl, tp2, by omega, r0, Int.lt_of_le_of_lt r1 (by decide), fun r2 o2 q0 q1 fo2 => ?_⟩
        have tst : TupSt H2 (upd H2 p o2) := by obtain ⟨ou, hpu, fu⟩ := tp2; exact TupSt.upd hpu fu.ne_tup
        have h12 : (upd H2 p o2) d = some (.lst xs) := by rw [upd_ne dp]; exact h1
        have el2 := EntL.st el tst
        have fr3 := fr2.upd (o := o2) (p := p) mem1
        refine ifD (p := r2 = 0) (fun e0 => ?_) (fun e0 => ?_)
        · obtain ⟨e, he, ee⟩ := EntL.at elu hy
          have ee2 : EntAt (upd H2 p o2) e y := by
            obtain ⟨t, rfl, ht⟩ := ee
            exact ⟨t, rfl, (Frm.tups fr3 hop fop.ne_tup) _ _ ht⟩
          refine ⟨xs, h12, by rw [← el.len]; exact Nat.lt_of_le_of_lt (show es.length ≤ 1000 by omega) (by decide), es ++ [e], xs ++ [y], upd_same, ?_, ?_, ok.app (OkE.one (oku e (List.mem_of_getElem? he))), ?_, fr3.put nd⟩
          · have t4 := TupSt.upd (o := .lst (xs ++ [y])) h12 (fun _ z => nomatch z)
            refine snoc' (el2.st t4) ?_
            obtain ⟨t, rfl, ht⟩ := ee2
            exact ⟨t, rfl, t4 _ _ ht⟩
          · rw [List.length_append, List.length_singleton]; omega
          · exact ⟨o2, by rw [upd_ne dp.symm]; exact upd_same, fo2⟩
        · exact ⟨es, xs, h12, el2, by omega, ok, ⟨o2, upd_same, fo2⟩, fr3⟩
      · rintro H2 ⟨es, xs, h1, el, hl, ok, tp2, fr2⟩
        refine ⟨_, rfl, d, _, rfl, SqL.of h1, fun q nq => ?_⟩
        rw [cut_to (by decide)]
        refine ⟨q, _, rfl, (RowS.put tp2 fr2 nq (pTake 150 el) (List.length_take_le _ _) (ok.take 150)).mono (by omega) (Nat.le_refl _)⟩
    clear tp1 fr1
    rintro σ H2 ⟨q, v6, rfl, rs⟩
    -- the way and the spot
    refine ⟨fun σ H' => ∃ q w sp, σ = [some (.ref p), some (.ref a), some (.int sz), some (.ref u), some (.int r), some (.ref q), v6, some (.int w), some (.int sp), none, none] ∧ 0 ≤ sp ∧ RowS H p ns (n + 1003) 150 q H', ?_, ?_⟩
    · refine ⟨p, 7, _, rfl, rs.tape, by omega, by decide, by decide, fun w ow w0 w1 fow => ?_⟩
      have rs3 := rs.draw hop fow
      obtain ⟨es, xs, hq, el, hl, ok⟩ := rs3.ex
      have lx := el.len
      refine ⟨_, _, rfl, .inl ⟨_, SqL.of hq, rfl⟩, ?_⟩
      refine ⟨p, _, _, rfl, rs3.tape, by omega, by omega, Int.lt_of_le_of_lt (b := 151) (by omega) (by decide), fun sp os s0 s1 fos => ?_⟩
      refine ⟨_, _, rfl, q, w, sp, rfl, s0, rs3.draw hop fos⟩
    clear rs
    rintro σ H3 ⟨q, w, sp, rfl, s0, rs⟩
    -- one twice
    refine ⟨fun σ H' => ∃ q v9 v10, σ = [some (.ref p), some (.ref a), some (.int sz), some (.ref u), some (.int r), some (.ref q), v6, some (.int w), some (.int sp), v9, v10] ∧ RowS H p ns (n + 1003) 151 q H', ?_, ?_⟩
    · refine ifD (p := w = 0) (fun e0 => ?_) (fun _ => ⟨_, _, _, rfl, rs.mono (by omega) (by omega)⟩)
      obtain ⟨es, xs, hq, el, hl, ok⟩ := rs.ex
      have lx := el.len
      refine ⟨_, _, rfl, .inl ⟨_, SqL.of hq, rfl⟩, ?_⟩
      refine ifD (p := (1 : Int) < (xs.length : Int)) (fun e1 => ?_) (fun _ => ⟨_, _, _, rfl, rs.mono (by omega) (by omega)⟩)
      refine ⟨_, rfl, q, _, rfl, SqL.of hq, fun t1 n1 => ?_⟩
      rw [cut_to s0]
      have x1 := Ext.upd (o := .lst (xs.take sp.toNat)) n1
      have c1 : (upd H3 t1 (.lst (xs.take sp.toNat))) t1 = some (.lst (xs.take sp.toNat)) := upd_same
      have rs1 := rs.ext x1
      have hq1 := x1 _ _ hq
      have el1 := el.mono x1
      generalize upd H3 t1 (.lst (xs.take sp.toNat)) = G1 at c1 rs1 hq1 el1 ⊢
      refine ⟨_, rfl, q, _, rfl, SqL.of hq1, fun t2 n2 => ?_⟩
      rw [cut_from s0]
      have x2 := Ext.upd (o := .lst (xs.drop sp.toNat)) n2
      have c2 : (upd G1 t2 (.lst (xs.drop sp.toNat))) t2 = some (.lst (xs.drop sp.toNat)) := upd_same
      have rs2 := rs1.ext x2
      have c1 := x2 _ _ c1
      have el2 := el1.mono x2
      generalize upd G1 t2 (.lst (xs.drop sp.toNat)) = G2 at c1 c2 rs2 el2 ⊢
      refine ⟨_, _, rfl, _, rfl, t2, _, rfl, SqL.of c2, fun t3 n3 => ?_⟩
      rw [cut_to (by decide)]
      have x3 := Ext.upd (o := .lst ((xs.drop sp.toNat).take (1 : Int).toNat)) n3
      have c3 : (upd G2 t3 (.lst ((xs.drop sp.toNat).take (1 : Int).toNat))) t3 = some (.lst ((xs.drop sp.toNat).take (1 : Int).toNat)) := upd_same
      have rs3 := rs2.ext x3
      have c1 := x3 _ _ c1
      have c2 := x3 _ _ c2
      have el3 := el2.mono x3
      generalize upd G2 t3 (.lst ((xs.drop sp.toNat).take (1 : Int).toNat)) = G3 at c1 c2 c3 rs3 el3 ⊢
      have el4 : EntL G3 (es.take sp.toNat ++ (es.drop sp.toNat).take (1 : Int).toNat) (xs.take sp.toNat ++ (xs.drop sp.toNat).take (1 : Int).toNat) := pApp (pTake _ el3) (pTake _ (pDrop _ el3))
      have l4 : (es.take sp.toNat ++ (es.drop sp.toNat).take (1 : Int).toNat).length ≤ es.length := by
        rw [List.length_append, List.length_take, List.length_take, List.length_drop]; omega
      refine ⟨t1, t3, _, _, rfl, rfl, c1, c3, by rw [← List.length_append, ← el4.len]; exact Nat.le_trans (show _ ≤ 1000 by omega) (by decide), fun t4 n4 => ?_⟩
      have x4 := Ext.upd (o := .lst (xs.take sp.toNat ++ (xs.drop sp.toNat).take (1 : Int).toNat)) n4
      have c4 : (upd G3 t4 (.lst (xs.take sp.toNat ++ (xs.drop sp.toNat).take (1 : Int).toNat))) t4 = some (.lst (xs.take sp.toNat ++ (xs.drop sp.toNat).take (1 : Int).toNat)) := upd_same
      have rs4 := rs3.ext x4
      have c2 := x4 _ _ c2
      have el5 : EntL (upd G3 t4 (.lst (xs.take sp.toNat ++ (xs.drop sp.toNat).take (1 : Int).toNat))) (es.take sp.toNat ++ (es.drop sp.toNat).take (1 : Int).toNat ++ es.drop sp.toNat) (xs.take sp.toNat ++ (xs.drop sp.toNat).take (1 : Int).toNat ++ xs.drop sp.toNat) := pApp (el4.mono x4) (pDrop _ (el3.mono x4))
      have l5 : (es.take sp.toNat ++ (es.drop sp.toNat).take (1 : Int).toNat ++ es.drop sp.toNat).length ≤ es.length + 1 := by
        rw [List.length_append, List.length_append, List.length_take, List.length_take, List.length_drop]
        show min sp.toNat es.length + min 1 (es.length - sp.toNat) + (es.length - sp.toNat) ≤ es.length + 1
        omega
      generalize upd G3 t4 (.lst (xs.take sp.toNat ++ (xs.drop sp.toNat).take (1 : Int).toNat)) = G4 at c2 c4 rs4 el5 ⊢
      refine ⟨t4, t2, _, _, rfl, rfl, c4, c2, by rw [← List.length_append, ← EntL.len el5]; exact Nat.le_trans (show _ ≤ 1000 by omega) (by decide), fun t5 n5 => ?_⟩
      exact ⟨t5, _, _, rfl, (RowS.put rs4.tape rs4.frm n5 el5 l5 (((ok.take _).app ((ok.drop _).take _)).app (ok.drop _))).mono (by omega) (by omega)⟩
    clear rs
    rintro σ H4 ⟨q, v9, v10, rfl, rs⟩
    -- turned
    refine ⟨fun σ H' => ∃ q v9 v10, σ = [some (.ref p), some (.ref a), some (.int sz), some (.ref u), some (.int r), some (.ref q), v6, some (.int w), some (.int sp), v9, v10] ∧ RowS H p ns (n + 1003) 151 q H', ?_, ?_⟩
    · refine ifD (p := w = 1) (fun e0 => ?_) (fun _ => ⟨_, _, _, rfl, rs.mono (by omega) (by omega)⟩)
      obtain ⟨es, xs, hq, el, hl, ok⟩ := rs.ex
      have lx := el.len
      refine ⟨_, rfl, q, _, rfl, SqL.of hq, fun t1 n1 => ?_⟩
      rw [cut_from s0]
      have x1 := Ext.upd (o := .lst (xs.drop sp.toNat)) n1
      have c1 : (upd H4 t1 (.lst (xs.drop sp.toNat))) t1 = some (.lst (xs.drop sp.toNat)) := upd_same
      have rs1 := rs.ext x1
      have hq1 := x1 _ _ hq
      have el1 := el.mono x1
      generalize upd H4 t1 (.lst (xs.drop sp.toNat)) = G1 at c1 rs1 hq1 el1 ⊢
      refine ⟨_, rfl, q, _, rfl, SqL.of hq1, fun t2 n2 => ?_⟩
      rw [cut_to s0]
      have x2 := Ext.upd (o := .lst (xs.take sp.toNat)) n2
      have c2 : (upd G1 t2 (.lst (xs.take sp.toNat))) t2 = some (.lst (xs.take sp.toNat)) := upd_same
      have rs2 := rs1.ext x2
      have c1 := x2 _ _ c1
      have el2 := el1.mono x2
      generalize upd G1 t2 (.lst (xs.take sp.toNat)) = G2 at c1 c2 rs2 el2 ⊢
      have el4 : EntL G2 (es.drop sp.toNat ++ es.take sp.toNat) (xs.drop sp.toNat ++ xs.take sp.toNat) := pApp (pDrop _ el2) (pTake _ el2)
      have l4 : (es.drop sp.toNat ++ es.take sp.toNat).length ≤ es.length := by
        rw [List.length_append, List.length_take, List.length_drop]; omega
      refine ⟨t1, t2, _, _, rfl, rfl, c1, c2, by rw [← List.length_append, ← el4.len]; exact Nat.le_trans (show _ ≤ 1000 by omega) (by decide), fun t4 n4 => ?_⟩
      exact ⟨t4, _, _, rfl, (RowS.put rs2.tape rs2.frm n4 el4 l4 ((ok.drop _).app (ok.take _))).mono (by omega) (by omega)⟩
    clear rs v9 v10
    rintro σ H5 ⟨q, v9, v10, rfl, rs⟩
    have hn1 : 0 < ns.length := cr.one
    have h12 := cr.few
    -- another server
    refine ⟨fun σ H' => ∃ q v9 v10, σ = [some (.ref p), some (.ref a), some (.int sz), some (.ref u), some (.int r), some (.ref q), v6, some (.int w), some (.int sp), v9, v10] ∧ RowS H p ns (n + 1004) 152 q H', ?_, ?_⟩
    · refine ifD (p := w = 2) (fun e0 => ?_) (fun _ => ⟨_, _, _, rfl, rs.mono (by omega) (by omega)⟩)
      obtain ⟨es, xs, hq, el, hl, ok⟩ := rs.ex
      have lx := el.len
      refine ⟨_, _, rfl, .inl ⟨_, SqL.of hq, rfl⟩, ?_⟩
      refine ifD (p := sp < (xs.length : Int)) (fun e1 => ?_) (fun _ => ⟨_, _, _, rfl, rs.mono (by omega) (by omega)⟩)
      have qp : q ≠ p := fun e => by have := rs.nw; rw [e, hop] at this; cases this
      refine ⟨_, rfl, q, _, rfl, SqL.of hq, fun t1 n1 => ?_⟩
      rw [cut_to s0]
      have t1p : t1 ≠ p := by obtain ⟨_, h, _⟩ := rs.tape; exact (ne_of_none h n1).symm
      have x1 := Ext.upd (o := .lst (xs.take sp.toNat)) n1
      have c1 : (upd H5 t1 (.lst (xs.take sp.toNat))) t1 = some (.lst (xs.take sp.toNat)) := upd_same
      have rs1 := rs.ext x1
      have hq1 := x1 _ _ hq
      have el1 := el.mono x1
      generalize upd H5 t1 (.lst (xs.take sp.toNat)) = G1 at c1 rs1 hq1 el1 ⊢
      have ha1 := rs1.frm _ _ ha (fun z => ap (List.mem_singleton.mp z))
      refine ⟨_, _, rfl, .inl ⟨_, SqL.of ha1, rfl⟩, ?_⟩
      rw [List.length_map]
      refine ⟨p, _, _, rfl, rs1.tape, by omega, by omega, Int.lt_of_le_of_lt (b := 12) (by omega) (by decide), fun r2 o2 q0 q1 fo2 => ?_⟩
      have hk : r2.toNat < ns.length := by omega
      have rs2 := rs1.draw hop fo2
      have tst : TupSt G1 (upd G1 p o2) := by obtain ⟨ou, hpu, fu⟩ := rs1.tape; exact TupSt.upd hpu fu.ne_tup
      have ha2 : (upd G1 p o2) a = some (.lst (ns.map V.str)) := by rw [upd_ne ap]; exact ha1
      have c1 : (upd G1 p o2) t1 = some (.lst (xs.take sp.toNat)) := by rw [upd_ne t1p]; exact c1
      have hq2 : (upd G1 p o2) q = some (.lst xs) := by rw [upd_ne qp]; exact hq1
      have el2 := EntL.st el1 tst
      refine ⟨_, .str ns[r2.toNat], .inl (SqL.of ha2), atI_at q0 (by rw [List.getElem?_map, List.getElem?_eq_getElem hk]; rfl), ?_⟩
      have hzn : ns[r2.toNat] ∈ ns := List.getElem_mem _
      generalize ns[r2.toNat] = z at hzn ⊢
      clear hq1 el1 ha1 rs1 tst ha2
      generalize upd G1 p o2 = G2 at rs2 c1 hq2 el2 ⊢
      have hs : sp.toNat < xs.length := by omega
      obtain ⟨e, he, t0, hx0, ht0⟩ := EntL.at el2 (List.getElem?_eq_getElem hs)
      have oke := ok e (List.mem_of_getElem? he)
      refine ⟨_, .ref t0, .inl (SqL.of hq2), atI_at s0 (by rw [List.getElem?_eq_getElem hs, hx0]), _, _, .inr (SqT.of ht0), atI_nat (j := 1) rfl, (by show 2 ≤ sizeLine; decide), fun tt ntt => ?_⟩
      obtain ⟨ee, hee0⟩ : ∃ ee : Str × Int, ee = (z, e.2) := ⟨_, rfl⟩
      have hee : ee.1 ∈ ns ∧ 0 ≤ ee.2 := by rw [hee0]; exact ⟨hzn, oke.2⟩
      have x3 := Ext.upd (o := .tup [.str z, .int e.2]) ntt
      have ev3 : EntAt (upd G2 tt (.tup [.str z, .int e.2])) ee (.ref tt) := by rw [hee0]; exact ⟨tt, rfl, upd_same⟩
      have rs3 := rs2.ext x3
      have c1 := x3 _ _ c1
      have hq3 := x3 _ _ hq2
      have el3 := el2.mono x3
      generalize upd G2 tt (.tup [.str z, .int e.2]) = G3 at rs3 c1 hq3 el3 ev3 ⊢
      refine ⟨(by show 1 ≤ sizeLine; decide), fun tl ntl => ?_⟩
      have x4 := Ext.upd (o := .lst [.ref tt]) ntl
      have cl : (upd G3 tl (.lst [.ref tt])) tl = some (.lst [.ref tt]) := upd_same
      have rs4 := rs3.ext x4
      have c1 := x4 _ _ c1
      have hq4 := x4 _ _ hq3
      have el4 := el3.mono x4
      have ev4 := ev3.mono x4
      generalize upd G3 tl (.lst [.ref tt]) = G4 at cl rs4 c1 hq4 el4 ev4 ⊢
      have el5 : EntL G4 (es.take sp.toNat ++ [ee]) (xs.take sp.toNat ++ [.ref tt]) := pApp (pTake _ el4) (.cons ev4 .nil)
      have l5 : (es.take sp.toNat ++ [ee]).length ≤ 200 := by rw [List.length_append, List.length_take, List.length_singleton]; omega
      refine ⟨t1, tl, _, _, rfl, rfl, c1, cl, by rw [← List.length_append, ← EntL.len el5]; exact Nat.le_trans l5 (by decide), fun t5 n5 => ?_⟩
      have x5 := Ext.upd (o := .lst (xs.take sp.toNat ++ [.ref tt])) n5
      have c5 : (upd G4 t5 (.lst (xs.take sp.toNat ++ [.ref tt]))) t5 = some (.lst (xs.take sp.toNat ++ [.ref tt])) := upd_same
      have rs5 := rs4.ext x5
      have hq5 := x5 _ _ hq4
      have el5 := el5.mono x5
      have elq := el4.mono x5
      generalize upd G4 t5 (.lst (xs.take sp.toNat ++ [.ref tt])) = G5 at c5 rs5 hq5 el5 elq ⊢
      refine ⟨_, rfl, q, _, rfl, SqL.of hq5, fun t6 n6 => ?_⟩
      rw [cut_from (show 0 ≤ sp + 1 by omega)]
      have x6 := Ext.upd (o := .lst (xs.drop (sp + 1).toNat)) n6
      have c6 : (upd G5 t6 (.lst (xs.drop (sp + 1).toNat))) t6 = some (.lst (xs.drop (sp + 1).toNat)) := upd_same
      have rs6 := rs5.ext x6
      have c5 := x6 _ _ c5
      have el6 := el5.mono x6
      have elq := elq.mono x6
      generalize upd G5 t6 (.lst (xs.drop (sp + 1).toNat)) = G6 at c5 c6 rs6 el6 elq ⊢
      have el7 := pApp el6 (pDrop (sp + 1).toNat elq)
      have l7 : (es.take sp.toNat ++ [ee] ++ es.drop (sp + 1).toNat).length ≤ es.length + 1 := by
        rw [List.length_append, List.length_append, List.length_take, List.length_drop, List.length_singleton]; omega
      refine ⟨t5, t6, _, _, rfl, rfl, c5, c6, by rw [← List.length_append, ← EntL.len el7]; exact Nat.le_trans (show _ ≤ 1000 by omega) (by decide), fun t7 n7 => ?_⟩
      exact ⟨t7, _, _, rfl, (RowS.put rs6.tape rs6.frm n7 el7 l7 (((ok.take _).app (OkE.one hee)).app (ok.drop _))).mono (by omega) (by omega)⟩
    clear rs v9 v10 q
    rintro σ H6 ⟨q, v9, v10, rfl, rs⟩
    -- another number
    refine ⟨fun σ H' => ∃ q v9 v10, σ = [some (.ref p), some (.ref a), some (.int sz), some (.ref u), some (.int r), some (.ref q), v6, some (.int w), some (.int sp), v9, v10] ∧ RowS H p ns (n + 1004) 153 q H', ?_, ?_⟩
    · refine ifD (p := w = 3) (fun e0 => ?_) (fun _ => ⟨_, _, _, rfl, rs.mono (by omega) (by omega)⟩)
      obtain ⟨es, xs, hq, el, hl, ok⟩ := rs.ex
      have lx := el.len
      refine ⟨_, _, rfl, .inl ⟨_, SqL.of hq, rfl⟩, ?_⟩
      refine ifD (p := sp < (xs.length : Int)) (fun e1 => ?_) (fun _ => ⟨_, _, _, rfl, rs.mono (by omega) (by omega)⟩)
      refine ⟨_, rfl, q, _, rfl, SqL.of hq, fun t1 n1 => ?_⟩
      rw [cut_to s0]
      have x1 := Ext.upd (o := .lst (xs.take sp.toNat)) n1
      have c1 : (upd H6 t1 (.lst (xs.take sp.toNat))) t1 = some (.lst (xs.take sp.toNat)) := upd_same
      have rs2 := rs.ext x1
      have hq2 := x1 _ _ hq
      have el2 := el.mono x1
      generalize upd H6 t1 (.lst (xs.take sp.toNat)) = G2 at c1 rs2 hq2 el2 ⊢
      have hs : sp.toNat < xs.length := by omega
      obtain ⟨e, he, t0, hx0, ht0⟩ := EntL.at el2 (List.getElem?_eq_getElem hs)
      have oke := ok e (List.mem_of_getElem? he)
      have ax : atI xs sp = some (.ref t0) := atI_at s0 (by rw [List.getElem?_eq_getElem hs, hx0])
      refine ⟨_, .ref t0, .inl (SqL.of hq2), ax, _, _, .inr (SqT.of ht0), atI_nat (j := 0) rfl, ?_⟩
      refine ⟨_, .ref t0, .inl (SqL.of hq2), ax, _, _, .inr (SqT.of ht0), atI_nat (j := 1) rfl, (by show 2 ≤ sizeLine; decide), fun tt ntt => ?_⟩
      obtain ⟨ee, hee0⟩ : ∃ ee : Str × Int, ee = (e.1, e.2 + 1) := ⟨_, rfl⟩
      have hee : ee.1 ∈ ns ∧ 0 ≤ ee.2 := by rw [hee0]; exact ⟨oke.1, by have := oke.2; show 0 ≤ e.2 + 1; omega⟩
      have x3 := Ext.upd (o := .tup [.str e.1, .int (e.2 + 1)]) ntt
      have ev3 : EntAt (upd G2 tt (.tup [.str e.1, .int (e.2 + 1)])) ee (.ref tt) := by rw [hee0]; exact ⟨tt, rfl, upd_same⟩
      have rs3 := rs2.ext x3
      have c1 := x3 _ _ c1
      have hq3 := x3 _ _ hq2
      have el3 := el2.mono x3
      generalize upd G2 tt (.tup [.str e.1, .int (e.2 + 1)]) = G3 at rs3 c1 hq3 el3 ev3 ⊢
      refine ⟨(by show 1 ≤ sizeLine; decide), fun tl ntl => ?_⟩
      have x4 := Ext.upd (o := .lst [.ref tt]) ntl
      have cl : (upd G3 tl (.lst [.ref tt])) tl = some (.lst [.ref tt]) := upd_same
      have rs4 := rs3.ext x4
      have c1 := x4 _ _ c1
      have hq4 := x4 _ _ hq3
      have el4 := el3.mono x4
      have ev4 := ev3.mono x4
      generalize upd G3 tl (.lst [.ref tt]) = G4 at cl rs4 c1 hq4 el4 ev4 ⊢
      have el5 : EntL G4 (es.take sp.toNat ++ [ee]) (xs.take sp.toNat ++ [.ref tt]) := pApp (pTake _ el4) (.cons ev4 .nil)
      have l5 : (es.take sp.toNat ++ [ee]).length ≤ 200 := by rw [List.length_append, List.length_take, List.length_singleton]; omega
      refine ⟨t1, tl, _, _, rfl, rfl, c1, cl, by rw [← List.length_append, ← EntL.len el5]; exact Nat.le_trans l5 (by decide), fun t5 n5 => ?_⟩
      have x5 := Ext.upd (o := .lst (xs.take sp.toNat ++ [.ref tt])) n5
      have c5 : (upd G4 t5 (.lst (xs.take sp.toNat ++ [.ref tt]))) t5 = some (.lst (xs.take sp.toNat ++ [.ref tt])) := upd_same
      have rs5 := rs4.ext x5
      have hq5 := x5 _ _ hq4
      have el5 := el5.mono x5
      have elq := el4.mono x5
      generalize upd G4 t5 (.lst (xs.take sp.toNat ++ [.ref tt])) = G5 at c5 rs5 hq5 el5 elq ⊢
      refine ⟨_, rfl, q, _, rfl, SqL.of hq5, fun t6 n6 => ?_⟩
      rw [cut_from (show 0 ≤ sp + 1 by omega)]
      have x6 := Ext.upd (o := .lst (xs.drop (sp + 1).toNat)) n6
      have c6 : (upd G5 t6 (.lst (xs.drop (sp + 1).toNat))) t6 = some (.lst (xs.drop (sp + 1).toNat)) := upd_same
      have rs6 := rs5.ext x6
      have c5 := x6 _ _ c5
      have el6 := el5.mono x6
      have elq := elq.mono x6
      generalize upd G5 t6 (.lst (xs.drop (sp + 1).toNat)) = G6 at c5 c6 rs6 el6 elq ⊢
      have el7 := pApp el6 (pDrop (sp + 1).toNat elq)
      have l7 : (es.take sp.toNat ++ [ee] ++ es.drop (sp + 1).toNat).length ≤ es.length + 1 := by
        rw [List.length_append, List.length_append, List.length_take, List.length_drop, List.length_singleton]; omega
      refine ⟨t5, t6, _, _, rfl, rfl, c5, c6, by rw [← List.length_append, ← EntL.len el7]; exact Nat.le_trans (show _ ≤ 1000 by omega) (by decide), fun t7 n7 => ?_⟩
      exact ⟨t7, _, _, rfl, (RowS.put rs6.tape rs6.frm n7 el7 l7 (((ok.take _).app (OkE.one hee)).app (ok.drop _))).mono (by omega) (by omega)⟩
    clear rs v9 v10 q
    rintro σ H7 ⟨q, v9, v10, rfl, rs⟩
    -- one more
    refine ⟨fun σ H' => ∃ q v9 v10, σ = [some (.ref p), some (.ref a), some (.int sz), some (.ref u), some (.int r), some (.ref q), v6, some (.int w), some (.int sp), v9, v10] ∧ RowS H p ns (n + 1005) 154 q H', ?_, ?_⟩
    · refine ifD (p := w = 4) (fun e0 => ?_) (fun _ => ⟨_, _, _, rfl, rs.mono (by omega) (by omega)⟩)
      obtain ⟨es, xs, hq, el, hl, ok⟩ := rs.ex
      have lx := el.len
      have qp : q ≠ p := fun e => by have := rs.nw; rw [e, hop] at this; cases this
      have ha1 := rs.frm _ _ ha (fun z => ap (List.mem_singleton.mp z))
      refine ⟨_, .str ns[0], .inl (SqL.of ha1), atI_nat (j := 0) (by rw [List.getElem?_map, List.getElem?_eq_getElem hn1]; rfl), mulL (by decide) (by decide), ?_⟩
      have hzn : ns[0] ∈ ns := List.getElem_mem _
      generalize ns[0] = z at hzn ⊢
      have s1 := so.1
      have s2 := so.2
      have b5 : (5 : Int) * 10 ^ 30 < 2 ^ 1000 := by decide
      refine ⟨p, _, _, rfl, rs.tape, by omega, by omega, by omega, fun r2 o2 q0 q1 fo2 => ?_⟩
      have rs2 := rs.draw hop fo2
      have tst : TupSt H7 (upd H7 p o2) := by obtain ⟨ou, hpu, fu⟩ := rs.tape; exact TupSt.upd hpu fu.ne_tup
      have hq2 : (upd H7 p o2) q = some (.lst xs) := by rw [upd_ne qp]; exact hq
      have el2 := EntL.st el tst
      generalize upd H7 p o2 = G2 at rs2 hq2 el2 ⊢
      refine ⟨(by show 2 ≤ sizeLine; decide), fun tt ntt => ?_⟩
      have x3 := Ext.upd (o := .tup [.str z, .int r2]) ntt
      have ev3 : EntAt (upd G2 tt (.tup [.str z, .int r2])) (z, r2) (.ref tt) := ⟨tt, rfl, upd_same⟩
      have rs3 := rs2.ext x3
      have hq3 := x3 _ _ hq2
      have el3 := el2.mono x3
      generalize upd G2 tt (.tup [.str z, .int r2]) = G3 at rs3 hq3 el3 ev3 ⊢
      refine ⟨(by show 1 ≤ sizeLine; decide), fun tl ntl => ?_⟩
      have x4 := Ext.upd (o := .lst [.ref tt]) ntl
      have cl : (upd G3 tl (.lst [.ref tt])) tl = some (.lst [.ref tt]) := upd_same
      have rs4 := rs3.ext x4
      have hq4 := x4 _ _ hq3
      have el5 := pApp (el3.mono x4) (.cons (ev3.mono x4) .nil)
      generalize upd G3 tl (.lst [.ref tt]) = G4 at cl rs4 hq4 el5 ⊢
      have l5 : (es ++ [(z, r2)]).length ≤ es.length + 1 := Nat.le_of_eq (by rw [List.length_append, List.length_singleton])
      refine ⟨q, tl, _, _, rfl, rfl, hq4, cl, by rw [← List.length_append, ← EntL.len el5]; exact Nat.le_trans (show _ ≤ 1000 by omega) (by decide), fun t5 n5 => ?_⟩
      exact ⟨t5, _, _, rfl, (RowS.put rs4.tape rs4.frm n5 el5 l5 (ok.app (OkE.one ⟨hzn, q0⟩))).mono (by omega) (by omega)⟩
    clear rs v9 v10 q
    rintro σ H8 ⟨q, v9, v10, rfl, rs⟩
    obtain ⟨es, xs, hq, el, hl, ok⟩ := rs.ex
    exact k H8 q es xs rs.nw hq el ⟨by omega, ok⟩ (rs.tape.mono (by omega)) rs.frm
end
end NB

set_option Elab.async false
set_option linter.all false
set_option maxRecDepth 100000
set_option maxHeartbeats 4000000
/-! K5h (k29): what the judging keeps -/
namespace NB
open PySem PySem.Spec L2
section
variable {C CH CD cL p a l h u q o : Addr} {sz : Int} {ns : List Str} {n m : Nat} {H H' : Hp} {K : PySem.W.Frag} {t s : DS} {A : Ads}
theorem keepT {b : Addr} {x : HO} (tp : TapeAt n H p) (f : Frm [p] H H') (hb : H b = some x) (d : ∀ m, ¬ TapeO m x) : H' b = some x := f _ _ hb (fun z => tape_ne tp hb d (List.mem_singleton.mp z))
theorem tupT (tp : TapeAt n H p) (f : Frm [p] H H') : TupSt H H' := by
  obtain ⟨op, hp, fo⟩ := tp
  exact f.tups hp fo.ne_tup
theorem DeskIn.frm {d dx du dr lt lu : Addr} (h : DeskIn C H d dx du dr lt lu sz ns s) (tp : TapeAt n H p) (f : Frm [p] H H') : DeskIn C H' d dx du dr lt lu sz ns s := by
  obtain ⟨vs, h1, h2⟩ := h.us
  exact ⟨keepT tp f h.ins noT_ins, keepT tp f h.up noT_dK, keepT tp f h.rem noT_dK, keepT tp f h.own noT_strs, ⟨vs, keepT tp f h1 (noT_refs h2.refs), h2.st (tupT tp f)⟩, h.ne, h.nl⟩
theorem HisAt.frm (hh : HisAt CH CD H h sz ns s) (tp : TapeAt n H p) (f : Frm [p] H H') : HisAt CH CD H' h sz ns s := by
  obtain ⟨px, d, dx, du, dr, lt, lu, ls, le, h1, h2, h3⟩ := hh
  exact ⟨px, d, dx, du, dr, lt, lu, ls, le, keepT tp f h1 noT_ins, h2.frm tp f, keepT tp f h3 noT_strs⟩
theorem HisAt.mono (hh : HisAt CH CD H h sz ns s) (x : Ext H H') : HisAt CH CD H' h sz ns s := by
  obtain ⟨px, d, dx, du, dr, lt, lu, ls, le, h1, h2, h3⟩ := hh
  exact ⟨px, d, dx, du, dr, lt, lu, ls, le, x _ _ h1, h2.mono x, x _ _ h3⟩
/-! a list that begins with None is changed -/
variable {ys zs : List V}
theorem keepN {b : Addr} {x : HO} (ho : H o = some (.lst (.non :: ys))) (hb : H b = some x) (d : ∀ ws, x ≠ .lst (.non :: ws)) : upd H o (.lst zs) b = some x := by
  rw [upd_ne (ne_of hb ho (d ys))]; exact hb
theorem nN_strs : ∀ ws, HO.lst (ns.map V.str) ≠ .lst (.non :: ws) := fun ws e => by
  injection e with e
  cases ns with
  | nil => cases e
  | cons z ns => injection e with e; cases e
theorem nN_refs {xs : List V} (r : ∀ v ∈ xs, ∃ p, v = .ref p) : ∀ ws, HO.lst xs ≠ .lst (.non :: ws) := fun ws e => by
  injection e with e
  subst e
  obtain ⟨p, e⟩ := r _ List.mem_cons_self
  cases e
theorem tupN (ho : H o = some (.lst (.non :: ys))) : TupSt H (upd H o (.lst zs)) := TupSt.upd ho (fun _ z => nomatch z)
theorem LogAt.updN {es : List (Str × Int)} (ho : H o = some (.lst (.non :: ys))) (h : LogAt C H q sz ns es) : LogAt C (upd H o (.lst zs)) q sz ns es := by
  obtain ⟨dx, ls, le, vs, h1, h2, h3, h4⟩ := h
  exact ⟨dx, ls, le, vs, keepN ho h1 (fun _ z => nomatch z), keepN ho h2 nN_strs, keepN ho h3 (nN_refs h4.refs), h4.st (tupN ho)⟩
theorem DeskIn.updN {d dx du dr lt lu : Addr} (ho : H o = some (.lst (.non :: ys))) (h : DeskIn C H d dx du dr lt lu sz ns s) : DeskIn C (upd H o (.lst zs)) d dx du dr lt lu sz ns s := by
  obtain ⟨vs, h1, h2⟩ := h.us
  exact ⟨keepN ho h.ins (fun _ z => nomatch z), keepN ho h.up (fun _ z => nomatch z), keepN ho h.rem (fun _ z => nomatch z), keepN ho h.own nN_strs, ⟨vs, keepN ho h1 (nN_refs h2.refs), h2.st (tupN ho)⟩, h.ne, h.nl⟩
theorem HisAt.updN (ho : H o = some (.lst (.non :: ys))) (hh : HisAt CH CD H h sz ns s) : HisAt CH CD (upd H o (.lst zs)) h sz ns s := by
  obtain ⟨px, d, dx, du, dr, lt, lu, ls, le, h1, h2, h3⟩ := hh
  exact ⟨px, d, dx, du, dr, lt, lu, ls, le, keepN ho h1 (fun _ z => nomatch z), h2.updN ho, keepN ho h3 nN_strs⟩
theorem TapeAt.updN (ho : H o = some (.lst (.non :: ys))) (h : TapeAt n H p) : TapeAt n (upd H o (.lst zs)) p := by
  obtain ⟨u, hp, x, y, z, rfl, r⟩ := h
  exact ⟨_, keepN ho hp (fun _ z => nomatch z), x, y, z, rfl, r⟩
/-- what a call answers, under changes -/
theorem CallJ.ext {v : V} {b : Bool} (j : CallJ K cL A H sz ns s v b) (x : Ext H H') : CallJ K cL A H' sz ns s v b := by
  cases j with
  | odd ty k => exact .odd (TyX.ext ty x) k
  | log lg M a b c => exact .log (lg.mono x) M a b c
theorem CallJ.updN {v : V} {b : Bool} (ho : H o = some (.lst (.non :: ys))) (j : CallJ K cL A H sz ns s v b) : CallJ K cL A (upd H o (.lst zs)) sz ns s v b := by
  cases j with
  | odd ty k => exact .odd (TyX.updL ho ty) k
  | log lg M a b c => exact .log (lg.updN ho) M a b c
theorem CallJ.no {kn : Str} {sz2 : Int} {ns2 : List Str} {es : List (Str × Int)} (lg : LogAt C H q sz2 ns2 es) (M : LogM K cL C kn A) (cr : CrewOk ns2) (nbe : ∀ e ∈ es, nameB e.1 = true) (d : ¬ (sz2 = sz ∧ ns2 = ns)) : CallJ K cL A H sz ns s (.ref q) false := by
  have j := CallJ.log (sz := sz) (ns := ns) (s := s) lg M cr.few cr.nam nbe
  rw [decide_eq_false (fun z => d ⟨z.1, z.2.1⟩)] at j
  exact j
/-- what the judging holds -/
structure RtS (CH CD p a l h u : Addr) (sz : Int) (ns : List Str) (es : List Ev) (t : DS) (n : Nat) (H : Hp) : Prop where
  crew : H a = some (.lst (ns.map V.str))
  his : HisAt CH CD H h sz ns t
  us : ∃ vs, H u = some (.lst vs) ∧ EntL H t.us vs
  evs : ∃ xs, H l = some (.lst xs) ∧ EvL H es xs
  tape : TapeAt n H p
variable {es : List Ev}
theorem RtS.frm (r : RtS CH CD p a l h u sz ns es t n H) (f : Frm [p] H H') (tp : TapeAt m H' p) : RtS CH CD p a l h u sz ns es t m H' := by
  obtain ⟨vs, h1, h2⟩ := r.us
  obtain ⟨xs, h3, h4⟩ := r.evs
  exact ⟨keepT r.tape f r.crew noT_strs, r.his.frm r.tape f, ⟨vs, keepT r.tape f h1 (noT_refs h2.refs), h2.st (tupT r.tape f)⟩, ⟨xs, keepT r.tape f h3 (noT_refs h4.refs), h4.st (tupT r.tape f)⟩, tp⟩
theorem RtS.ext (r : RtS CH CD p a l h u sz ns es t n H) (x : Ext H H') : RtS CH CD p a l h u sz ns es t n H' := r.frm (Frm.ext x) (r.tape.keep x)
theorem RtS.updN (ho : H o = some (.lst (.non :: ys))) (r : RtS CH CD p a l h u sz ns es t n H) : RtS CH CD p a l h u sz ns es t n (upd H o (.lst zs)) := by
  obtain ⟨vs, h1, h2⟩ := r.us
  obtain ⟨xs, h3, h4⟩ := r.evs
  exact ⟨keepN ho r.crew nN_strs, r.his.updN ho, ⟨vs, keepN ho h1 (nN_refs h2.refs), h2.st (tupN ho)⟩, ⟨xs, keepN ho h3 (nN_refs h4.refs), h4.st (tupN ho)⟩, r.tape.updN ho⟩
theorem RtS.mono (r : RtS CH CD p a l h u sz ns es t n H) (e : n ≤ m) : RtS CH CD p a l h u sz ns es t m H := ⟨r.crew, r.his, r.us, r.evs, r.tape.mono e⟩
/-! new ones -/
variable {x dx : Addr} {R : Hp → Prop} {E : XK}
theorem init_R {es : List (Str × Int)} {xs : List V} (nx : H x = none) (nd : H dx = none) (ne : dx ≠ x) (so : SizeOk sz) (ha : H a = some (.lst (ns.map V.str))) (cr : CrewOk ns)
    (hl : H l = some (.lst xs)) (el : EntL H es xs) (ok : EntsOk ns es) (k : ∀ H', LogAt C H' x sz ns es → Ext H H' → R H') :
    spInit C [.ref x, .int sz, .ref a, .ref l] (upd (upd H dx (.own x)) x (.ins C dx [])) (fun v H2 => v = .non ∧ R H2) E := by
  have x0 : Ext H (upd (upd H dx (.own x)) x (.ins C dx [])) := fun b o e => by
    rw [upd_ne (ne_of_none e nx), upd_ne (ne_of_none e nd)]; exact e
  refine ⟨x, dx, sz, a, ns, l, es, xs, rfl, upd_same, by rw [upd_ne ne]; exact upd_same, so, x0 _ _ ha, cr, x0 _ _ hl, el.mono x0, ok, fun H' ls le h1 h2 g1 g2 g3 fr => ⟨rfl, ?_⟩⟩
  have x1 : Ext H H' := fun b o e => fr _ _ (x0 _ _ e) fun z => ne_of_none e nx (List.mem_singleton.mp z)
  exact k H' ⟨dx, ls, le, xs, g1, g2, g3, el.mono x1⟩ x1
theorem his_R {xs : List V} (nx : H x = none) (nd : H dx = none) (ne : dx ≠ x) (so : SizeOk sz) (ha : H a = some (.lst (ns.map V.str))) (cr : CrewOk ns)
    (hl : H l = some (.lst xs)) (el : EvL H es xs) (few : es.length ≤ 1000) (nam : ∀ e ∈ es, e.2 ∈ ns) (run : runD sz ds0 es = some t) (k : ∀ H', HisAt CH CD H' x sz ns t → Ext H H' → R H') :
    spHisI CH CD [.ref x, .int sz, .ref a, .ref l] (upd (upd H dx (.own x)) x (.ins CH dx [])) (fun v H2 => v = .non ∧ R H2) E := by
  have x0 : Ext H (upd (upd H dx (.own x)) x (.ins CH dx [])) := fun b o e => by
    rw [upd_ne (ne_of_none e nx), upd_ne (ne_of_none e nd)]; exact e
  refine ⟨x, dx, sz, a, ns, l, es, xs, t, rfl, upd_same, so, x0 _ _ ha, cr, x0 _ _ hl, el.all x0, few, nam, run, fun H' hh fr => ⟨rfl, ?_⟩⟩
  have x1 : Ext H H' := fun b o e => fr _ _ (x0 _ _ e) fun z => ne_of_none e nx (List.mem_singleton.mp z)
  exact k H' hh x1
end
/-- the class of histories, and how its instances are called -/
structure HisM (K : PySem.W.Frag) (cL C fC : Addr) : Prop extends HisC K C where
  sC : PySem.W.findIn K (.ref C) "__call__" = some (some (.ref fC))
  iC : PySem.W.isFn K (.ref fC) = true
  nC : PySem.W.fnIn K fC = true
  nQ : PySem.W.findIn K (.ref C) "__eq__" = some (some (.builtin "object.__eq__"))
  mo : PySem.W.mroIn K C (.type "object") = some true
  ty : ∀ H p dx fs, H p = some (.ins C dx fs) → TyX K H (.ref p) (.ref C)
  kn : PySem.W.kitOne K (.ref C) (.ref cL) = some false
  od : ∀ t ∈ ([.type "NoneType", .type "int", .type "bool", .type "str", .type "tuple", .type "dict", .type "list"] : List Value), PySem.W.kitOne K t (.ref cL) = some false
def gTh {α : Type} (us ws : List α) : List α := match us, ws with
  | [s], [x] => [s, x]
  | _, _ => []
theorem kb_th {K : PySem.W.Frag} {f : Addr} {fd : FuncData} (D : Mx K "__call__" "History.__call__" s_History___call__ ["self", "thing"] f fd) (df : fd.defaults = .none) : KBn K fd ["self", "thing"] 1 ["thing"] gTh gTh := by
  obtain ⟨oc, od, dV, kV, doc, pm, an, cdv, ct, osl, rfl, lk, hcd⟩ := D.fn.ex
  have e : dV = .none := df
  subst e
  refine ⟨fun s us ws X l1 l2 => ?_, fun r1 r2 => ?_⟩
  · match us, ws, l1, l2 with
    | [s], [e], _, _ => exact .of_eq rfl
  · cases r1 with
    | nil => exact .nil
    | cons a1 r1 =>
      cases r1 with
      | cons _ _ => exact .nil
      | nil =>
        cases r2 with
        | nil => exact .nil
        | cons b1 r2 =>
          cases r2 with
          | cons _ _ => exact .nil
          | nil => exact .cons a1 (.cons b1 .nil)
end NB

set_option Elab.async false
set_option linter.all false
set_option maxRecDepth 100000
set_option maxHeartbeats 8000000
/-! K5 (k29): the judging of a history called -/
namespace NB
open PySem PySem.Spec L2
open PyProof.Rows (envOfC)
open C8 (pe_c pe_mk pe_mt pe_mt0 pe_gc fnScope fnBody fnArgs fnScope_by Cal Met Mak)
def spRight : Sp := fun vs H Q _ => ∃ p sz a ns n, vs = [.ref p, .int sz, .ref a] ∧ TapeAt n H p ∧ n ≤ 999900000 ∧ SizeOk sz ∧ H a = some (.lst (ns.map V.str)) ∧ CrewOk ns ∧ (∀ z ∈ ns, z ∈ NAMES) ∧
  ∀ H', Frm [p] H H' → TapeAt (n + 7000) H' p → Q (.bl true) H'
theorem sm_b3 (b : Bool) : Sm 100 1 (.list [.bool b, .bool b, .bool b]) := by cases b <;> exact ⟨by decide, by decide, by decide, by decide, by decide, by decide⟩
theorem xyz_no : ("xyz" : Str) ∉ NAMES := by decide +kernel
theorem nameXyz : nameB ("xyz" : Str) = true := by decide +kernel
theorem rev_ne {α : Type} {ns : List α} (nd : ns.Nodup) (h : 1 < ns.length) : ¬ ns.reverse = ns := by
  intro e
  have e := e.symm
  cases ns with
  | nil => exact absurd h (by simp)
  | cons x t =>
    cases t with
    | nil => exact absurd h (by simp)
    | cons y t =>
      rw [List.reverse_cons] at e
      obtain ⟨r, hr⟩ : ∃ r, (y :: t).reverse = x :: r := by
        cases q : (y :: t).reverse with
        | nil => have := congrArg List.length q; simp at this
        | cons z r =>
          rw [q, List.cons_append] at e
          injection e with e1 e2
          exact ⟨r, by rw [e1]⟩
      have : x ∈ y :: t := List.mem_reverse.mp (by rw [hr]; exact List.mem_cons_self)
      exact (List.nodup_cons.mp nd).1 this
theorem HisAt.ins {CH CD : Addr} {H : Hp} {h : Addr} {sz : Int} {ns : List Str} {t : DS} (hh : HisAt CH CD H h sz ns t) : ∃ dx fs, H h = some (.ins CH dx fs) := by
  obtain ⟨px, d, dx, du, dr, lt, lu, ls, le, h1, _⟩ := hh
  exact ⟨_, _, h1⟩
section
variable {P : Program} {w : World} {K : PySem.W.Frag} {mg : Str → Option Value} {base : Heap} {cL cX CH CD fC : Addr} {dC : FuncData} {A0 : Ads}
theorem ok_right (T : Tx K mg cL cX) (LH : HisM K cL CH fC) (ML : LogM K cL cL "steady" A0) (MX : LogM K cL cX "losing" A0) (D : Dx K mg "_law_right" s__law_right ["tape", "wide", "names"])
    (c_Log : Mak P w K mg base 4 "Log" cL (spInit cL) []) (c_LosingLog : Mak P w K mg base 4 "LosingLog" cX (spInit cX) []) (c_History : Mak P w K mg base 6 "History" CH (spHisI CH CD) [])
    (F_call : FnOk P w K mg base C8.CX0 3 fC dC ["self", "thing"] (spCall K cL CH CD A0)) (bC : Binds K dC ["self", "thing"] []) (kbC : KBn K dC ["self", "thing"] 1 ["thing"] gTh gTh)
    (c__law_events : Cal P w K mg base 2 "_law_events" spEvents []) (c__law_played : Cal P w K mg base 1 "_law_played" spPlayed []) (c__law_is_shown : Cal P w K mg base 1 "_law_is_shown" spShown []) (c__law_rows : Cal P w K mg base 2 "_law_rows" spRows []) :
    CalG P w K mg base 8 "_law_right" spRight := by
  refine calG_of D sc__law_right (fun vs H Q E h => ?_) (fun f cdv A o s H vs Q E hr hgd h => ?_)
  · obtain ⟨p, sz, a, ns, n, rfl, _⟩ := h; rfl
  · obtain ⟨p, sz, a, ns, n, rfl, tp, hn, so, ha, cr, hN, k⟩ := h
    refine ⟨_, (C8.pss_cut (ps_set (i := 3) sc__law_right.nd rfl (Or.inl rfl) (pe_c c__law_events hr (by decide) rfl (pa_cons (mv 0) (pa_cons (mv 1) (pa_cons (mv 2) (pa_cons pe_int pa_nil))))))
    (C8.pss_cut (ps_asg (pe_tup (pa_cons (pe_mk c_History hr (by decide) rfl (pa_cons (mv 1) (pa_cons (mv 2) (pa_cons (mv 3) pa_nil)))) (pa_cons (pe_ix m_ix (pe_c c__law_played hr (by decide) rfl (pa_cons (mv 1) (pa_cons (mv 2) (pa_cons (mv 3) pa_nil)))) pe_int (fun _ _ => rfl)) pa_nil))) (pg_tup rfl (pgs_cons (pg_name (i := 4) sc__law_right.nd rfl (Or.inr rfl)) (pgs_cons (pg_name (i := 5) sc__law_right.nd rfl (Or.inl rfl)) pgs_nil))))
    (C8.pss_cut (ps_for PassesOwn.never rfl (pi_range1 (by rfl) T.n_range (pa_cons pe_int pa_nil)) (pg_name (i := 6) sc__law_right.nd rfl (Or.inl rfl))
    (pss_cons (ps_set (i := 7) sc__law_right.nd rfl (Or.inl rfl) (pe_c c__law_rows hr (by decide) rfl (pa_cons (mv 0) (pa_cons (mv 2) (pa_cons (mv 1) (pa_cons (mv 5) pa_nil))))))
    (pss_cons (ps_set (i := 8) sc__law_right.nd rfl (Or.inl rfl) (pe_c c__law_is_shown hr (by decide) rfl (pa_cons (mv 5) (pa_cons (mv 7) pa_nil))))
    (pss_cons (ps_set (i := 9) sc__law_right.nd rfl (Or.inl rfl) (pe_lst (pa_cons (pe_ownC (mv 4) LH.sC LH.iC LH.nC F_call bC (hr.mono (by decide)) ps0 (pa_cons (pe_mk c_Log hr (by decide) rfl (pa_cons (mv 1) (pa_cons (mv 2) (pa_cons (mv 7) pa_nil)))) pa_nil)) (pa_cons (pe_ownC (mv 4) LH.sC LH.iC LH.nC F_call bC (hr.mono (by decide)) ps0 (pa_cons (pe_mk c_LosingLog hr (by decide) rfl (pa_cons (mv 1) (pa_cons (mv 2) (pa_cons (mv 7) pa_nil)))) pa_nil)) (pa_cons (pe_ownK (mv 4) LH.sC LH.iC LH.nC F_call kbC (hr.mono (by decide)) ps0 (pk_cons (pe_mk c_Log hr (by decide) rfl (pa_cons (mv 1) (pa_cons (mv 2) (pa_cons (mv 7) pa_nil)))) pk_nil)) pa_nil)))))
    (pss_one (ps_if (qt m_ne (pe_callB (call_rep hr.units (gd_deeper hgd)) (by rfl) T.n_repr (by decide +kernel) (pa_cons (mv 9) pa_nil)) (pe_callB (call_rep hr.units (gd_deeper hgd)) (by rfl) T.n_repr (by decide +kernel) (pa_cons (pe_op op_rep (pe_lst (pa_cons (mv 8) pa_nil)) pe_int) pa_nil)) (nomark _)) (pss_one (ps_ret pe_bl)) pss_nil))))))
    (C8.pss_cut (ps_set (i := 10) sc__law_right.nd rfl (Or.inl rfl) (pe_lst (pa_cons pe_non (pa_cons pe_bl (pa_cons pe_int (pa_cons pe_str (pa_cons (pe_lst pa_nil) (pa_cons (pe_tup pa_nil) (pa_cons pe_dnewK (pa_cons (pe_slice sl_list (mv 5) po_none (po_some pe_int)) (pa_cons (pe_slice sl_list (mv 3) po_none (po_some pe_int)) (pa_cons (mv 2) (pa_cons (mv 4) (pa_cons (pe_lst (pa_cons (pe_mk c_Log hr (by decide) rfl (pa_cons (mv 1) (pa_cons (mv 2) (pa_cons (pe_lst pa_nil) pa_nil)))) pa_nil)) pa_nil))))))))))))))
    (C8.pss_cut (ps_set (i := 10) sc__law_right.nd rfl (Or.inl rfl) (pe_op op_cat (mv 10) (pe_lst (pa_cons (pe_mk c_Log hr (by decide) rfl (pa_cons (pe_op m_add (pe_op m_mod (mv 1) (pe_op m_pow pe_int pe_int)) pe_int) (pa_cons (mv 2) (pa_cons (pe_lst pa_nil) pa_nil)))) (pa_cons (pe_mk c_Log hr (by decide) rfl (pa_cons (mv 1) (pa_cons (pe_op op_cat (pe_slice sl_list (mv 2) po_none (po_some pe_int)) (pe_lst (pa_cons pe_str pa_nil))) (pa_cons (pe_lst pa_nil) pa_nil)))) pa_nil)))))
    (C8.pss_cut (ps_expr (pe_bm PySem.F.plainAttrs_list PySem.F.slot_list_append PySem.F.type_list_append mt_append (mv 10) (pa_cons (pe_mk c_LosingLog hr (by decide) rfl (pa_cons (mv 1) (pa_cons (pe_lst (pa_cons pe_str pa_nil)) (pa_cons (pe_lst pa_nil) pa_nil)))) pa_nil)))
    (C8.pss_cut (ps_if (qt m_gt (pe_callB call_len (by rfl) T.n_len (by decide +kernel) (pa_cons (mv 2) pa_nil)) pe_int (nomark _)) (pss_one (ps_expr (pe_bm PySem.F.plainAttrs_list PySem.F.slot_list_append PySem.F.type_list_append mt_append (mv 10) (pa_cons (pe_mk c_Log hr (by decide) rfl (pa_cons (mv 1) (pa_cons (pe_revL (mv 2)) (pa_cons (pe_lst pa_nil) pa_nil)))) pa_nil)))) pss_nil)
    (C8.pss_cut (ps_if (qt (op_neD hr.units) (pe_lc (own := [("one", 11)]) (g := gName 11) rfl sc__law_right.nd (pi_list (mv 10)) (blkOk_by (own := [("one", 11)]) (N := ["tape", "wide", "names", "steps_here", "story", "uses_here", "turn", "rows", "due", "told", "some", "one", "other"]) (sc := fnScope s__law_right) (by decide +kernel)) (fun _ _ _ _ _ => (pg_name (i := 11) sc__law_right.nd rfl (Or.inl rfl))) (fun _ _ _ _ _ => (pts_one (qt op_isnot_bl (pe_ownC (mv 4) LH.sC LH.iC LH.nC F_call bC (hr.mono (by decide)) ps0 (pa_cons (mv 11) pa_nil)) pe_bl (nomark _)))) (fun _ _ _ _ _ => (mv 11))) (pe_lst pa_nil) (nomark _)) (pss_one (ps_ret pe_bl)) pss_nil)
    (C8.pss_cut (ps_set (i := 12) sc__law_right.nd rfl (Or.inl rfl) (pe_mk c_History hr (by decide) rfl (pa_cons (mv 1) (pa_cons (mv 2) (pa_cons (mv 3) pa_nil)))))
    (pss_one (ps_ret (pe_and (pe_cmpR op_is_bl (pe_ownC (mv 4) LH.sC LH.iC LH.nC F_call bC (hr.mono (by decide)) ps0 (pa_cons (pe_mk c_Log hr (by decide) rfl (pa_cons (mv 1) (pa_cons (mv 2) (pa_cons (pe_lst pa_nil) pa_nil)))) pa_nil)) pe_bl (nomark _)) (pe_and (pe_not (pe_cmpR (own_same hr.units0 LH.nQ LH.mo) (mv 4) (mv 12) (nomark _))) (pe_one (pe_cmpR (own_same hr.units0 LH.nQ LH.mo) (mv 4) (mv 4) (nomark _)))))))))))))))), ?_⟩
    have ap : a ≠ p := tp.ne ha
    have sz0 : 0 ≤ sz := by have := so.1; omega
    -- events
    refine ⟨fun σ H' => ∃ l es xs t, σ = [some (.ref p), some (.int sz), some (.ref a), some (.ref l), none, none, none, none, none, none, none, none, none] ∧ H' l = some (.lst xs) ∧ EvL H' es xs ∧ es.length ≤ 1000 ∧ (∀ e ∈ es, e.2 ∈ ns) ∧ runD sz ds0 es = some t ∧ TapeAt (n + 300) H' p ∧ Frm [p] H H', ?_, ?_⟩
    · refine ⟨p, sz, a, 120, ns, n, rfl, tp, by omega, so, ha, cr, by decide, by decide, fun H' q es xs t nq h1 h2 h3 h4 h5 h6 h7 => ?_⟩
      exact ⟨q, es, xs, t, rfl, h1, h2, h3, h4, h5, h6, h7⟩
    rintro σ H1 ⟨l, es, xs, t, rfl, hl, el, few, nam, run, tp1, fr1⟩
    have un : ∀ x ∈ t.us, x.1 ∈ ns := runD_names run nam (fun _ h => nomatch h)
    have upos := (runD_pos sz0 run ⟨fun _ => Int.le_refl _, fun _ h => nomatch h⟩).2
    have ulen : t.us.length ≤ 1000 := by have := runD_len run; simp at this; omega
    have nbu : ∀ e ∈ t.us, nameB e.1 = true := fun e he => cr.nam _ (un e he)
    -- the history, and what is played
    refine ⟨fun σ H' => ∃ h u, σ = [some (.ref p), some (.int sz), some (.ref a), some (.ref l), some (.ref h), some (.ref u), none, none, none, none, none, none, none] ∧ RtS CH CD p a l h u sz ns es t (n + 300) H' ∧ Frm [p] H H', ?_, ?_⟩
    · have ha1 := fr1 _ _ ha (fun z => ap (List.mem_singleton.mp z))
      intro h dx nh ndx ne
      refine his_R nh ndx ne so ha1 cr hl el few nam run fun H2 hh x2 => ?_
      refine ⟨sz, a, ns, l, es, xs, t, rfl, so, x2 _ _ ha1, cr, x2 _ _ hl, el.all x2, few, nam, run, fun H3 r lu lo ws x3 hr hlu elu => ?_⟩
      refine ⟨_, .ref lu, .inl (SqL.of hr), atI_nat (j := 0) rfl, (by show 2 ≤ sizeLine; decide), fun tt ntt => ?_⟩
      have x4 := Ext.upd (o := .tup [.ref h, .ref lu]) ntt
      refine ⟨tt, _, rfl, SqT.of upd_same, rfl, _, _, rfl, _, _, rfl, rfl, ?_⟩
      have x := (x2.trans x3).trans x4
      exact ⟨h, lu, rfl, ⟨x _ _ ha1, hh.mono (x3.trans x4), ⟨ws, x4 _ _ hlu, elu.mono x4⟩, ⟨xs, x _ _ hl, el.all x⟩, tp1.keep x⟩, fr1.trans (Frm.ext x)⟩
    clear tp1 fr1 hl el
    rintro σ H2 ⟨h, u, rfl, rs, fr⟩
    -- six turns
    refine ⟨fun σ H' => ∃ v6 v7 v8 v9, σ = [some (.ref p), some (.int sz), some (.ref a), some (.ref l), some (.ref h), some (.ref u), v6, v7, v8, v9, none, none, none] ∧ RtS CH CD p a l h u sz ns es t (n + 6400) H' ∧ Frm [p] H H', ?_, ?_⟩
    · refine ⟨_, rfl, by omega, by omega, for_range (lo := 0) (n := 6) (fun j σ H' => ∃ v6 v7 v8 v9, σ = [some (.ref p), some (.int sz), some (.ref a), some (.ref l), some (.ref h), some (.ref u), v6, v7, v8, v9, none, none, none] ∧ RtS CH CD p a l h u sz ns es t (n + 300 + 1010 * j) H' ∧ Frm [p] H H') ⟨_, _, _, _, rfl, rs, fr⟩ ?_ ?_⟩
      · clear rs fr
        rintro j σ H3 hj ⟨v6, v7, v8, v9, rfl, rs, fr⟩
        obtain ⟨vs, hu, elu⟩ := id rs.us
        refine ⟨p, a, sz, u, ns, t.us, vs, _, rfl, rs.tape, by omega, so, rs.crew, cr, hu, elu, ulen, (fun x hx => ⟨un x hx, upos x hx⟩), fun H4 q es' xs' nq hq el' ok' tp4 fr4 => ?_⟩
        have rs4 := (rs.frm fr4 tp4).mono (show n + 300 + 1010 * j + 1010 ≤ n + 300 + 1010 * (j + 1) by omega)
        have fr4' := fr.trans fr4
        clear rs hu elu vs fr4 tp4
        obtain ⟨vs, hu, elu⟩ := id rs4.us
        have nbe : ∀ e ∈ es', nameB e.1 = true := fun e he => cr.nam _ (ok'.ok e he).1
        refine ⟨u, q, t.us, es', vs, xs', rfl, hu, elu, hq, el', nbu, nbe, ?_⟩
        have eb : decide (sz = sz ∧ ns = ns ∧ seenN es' 0 t.us = es'.length) = decide (seenN es' 0 t.us = es'.length) := decide_eq_decide.mpr ⟨fun h => h.2.2, fun h => ⟨rfl, rfl, h⟩⟩
        generalize hb : decide (seenN es' 0 t.us = es'.length) = b at eb ⊢
        -- three calls
        refine ⟨h, rfl, fun x dx nx ndx ne => init_R nx ndx ne so rs4.crew cr hq el' ok' fun H5 lg5 x5 => ?_⟩
        have rs5 := rs4.ext x5
        obtain ⟨_, _, hins⟩ := rs5.his.ins
        have j5 := CallJ.log (sz := sz) (ns := ns) (s := t) lg5 ML cr.few cr.nam nbe
        rw [eb] at j5
        refine ⟨_, _, hins, h, sz, ns, t, .ref x, b, rfl, rs5.his, j5, cr.few, cr.nam, nbu, fun H6 x6 => ?_⟩
        have x46 := x5.trans x6
        have rs6 := rs4.ext x46
        clear hins j5 rs5 lg5 nx ndx ne x dx
        refine ⟨h, rfl, fun x dx nx ndx ne => init_R nx ndx ne so rs6.crew cr (x46 _ _ hq) (el'.mono x46) ok' fun H7 lg7 x7 => ?_⟩
        have rs7 := rs6.ext x7
        obtain ⟨_, _, hins⟩ := rs7.his.ins
        have j7 := CallJ.log (sz := sz) (ns := ns) (s := t) lg7 MX cr.few cr.nam nbe
        rw [eb] at j7
        refine ⟨_, _, hins, h, sz, ns, t, .ref x, b, rfl, rs7.his, j7, cr.few, cr.nam, nbu, fun H8 x8 => ?_⟩
        have x48 := (x46.trans x7).trans x8
        have rs8 := rs4.ext x48
        clear hins j7 rs7 lg7 nx ndx ne x dx
        refine ⟨h, rfl, fun x dx nx ndx ne => init_R nx ndx ne so rs8.crew cr (x48 _ _ hq) (el'.mono x48) ok' fun H9 lg9 x9 => ?_⟩
        have rs9 := rs8.ext x9
        obtain ⟨_, _, hins⟩ := rs9.his.ins
        have j9 := CallJ.log (sz := sz) (ns := ns) (s := t) lg9 ML cr.few cr.nam nbe
        rw [eb] at j9
        refine ⟨rfl, _, _, hins, h, sz, ns, t, .ref x, b, rfl, rs9.his, j9, cr.few, cr.nam, nbu, fun H10 x10 => ?_⟩
        have x410 := (x48.trans x9).trans x10
        clear hins j9 rs9 lg9 nx ndx ne x dx
        refine ⟨(by show 3 ≤ sizeLine; decide), fun t1 n1 => ?_⟩
        have x11 := Ext.upd (o := .lst [.bl b, .bl b, .bl b]) n1
        have c1 : (upd H10 t1 (.lst [.bl b, .bl b, .bl b])) t1 = some (.lst [.bl b, .bl b, .bl b]) := upd_same
        generalize upd H10 t1 (.lst [.bl b, .bl b, .bl b]) = H11 at x11 c1 ⊢
        dsimp only [gName, tIfS, mT, tOp, tCB, tLst, tCons, tNil, mV, List.set]
        refine rep_of (d := .list [.bool b, .bool b, .bool b]) (.lst (SqL.of c1) (.cons (.bl _) (.cons (.bl _) (.cons (.bl _) .nil)))) (sm_b3 b) rfl (by decide) (by decide) ?_
        refine ⟨(by show 1 ≤ sizeLine; decide), fun t2 n2 => ⟨t2, 3, _, rfl, rfl, upd_same, by decide, by decide, (by show 1 * 3 ≤ sizeLine; decide), fun t3 n3 => ?_⟩⟩
        have x12 := (Ext.upd (o := .lst [.bl b]) n2).trans (Ext.upd (o := .lst (List.replicate (3 : Int).toNat [V.bl b]).flatten) n3)
        refine rep_of (d := .list [.bool b, .bool b, .bool b]) (.lst (SqL.of (xs := [.bl b, .bl b, .bl b]) upd_same) (.cons (.bl _) (.cons (.bl _) (.cons (.bl _) .nil)))) (sm_b3 b) rfl (by decide) (by decide) ?_
        refine ifND (p := _ = _) (fun h => absurd rfl h) (fun _ => ?_)
        have xx := x410.trans (x11.trans x12)
        exact ⟨_, _, _, _, rfl, rs4.ext xx, fr4'.trans (Frm.ext xx)⟩
      · rintro σ H3 ⟨v6, v7, v8, v9, rfl, rs, fr⟩
        exact ⟨_, _, _, _, rfl, rs.mono (by omega), fr⟩
    clear rs fr
    rintro σ H3 ⟨v6, v7, v8, v9, rfl, rs, fr⟩
    have hN1 : 0 < ns.length := cr.one
    have xyz : ("xyz" : Str) ∉ ns := fun h => xyz_no (hN _ h)
    -- odd things
    refine ⟨fun σ H' => ∃ oo vs, σ = [some (.ref p), some (.int sz), some (.ref a), some (.ref l), some (.ref h), some (.ref u), v6, v7, v8, v9, some (.ref oo), none, none] ∧ H' oo = some (.lst (.non :: vs)) ∧ H oo = none ∧ vs.length ≤ 11 ∧ (∀ v ∈ V.non :: vs, CallJ K cL A0 H' sz ns t v false) ∧ RtS CH CD p a l h u sz ns es t (n + 6400) H' ∧ Frm [p] H H', ?_, ?_⟩
    · refine ⟨Nat.zero_le _, fun t1 n1 => ?_⟩
      have x1 := Ext.upd (o := .lst []) n1
      have k1 : TyX K (upd H3 t1 (.lst [])) (.ref t1) (.type "list") := .base (.lst upd_same)
      have rs1 := rs.ext x1
      have fr1 := fr.trans (Frm.ext x1)
      generalize upd H3 t1 (.lst []) = G1 at k1 rs1 fr1 ⊢
      refine ⟨Nat.zero_le _, fun t2 n2 => ?_⟩
      have x2 := Ext.upd (o := .tup []) n2
      have k2 : TyX K (upd G1 t2 (.tup [])) (.ref t2) (.type "tuple") := .base (.tup upd_same)
      have k1 := TyX.ext k1 x2
      have rs2 := rs1.ext x2
      have fr2 := fr1.trans (Frm.ext x2)
      generalize upd G1 t2 (.tup []) = G2 at k1 k2 rs2 fr2 ⊢
      intro t3 n3
      have x3 := Ext.upd (o := .dK []) n3
      have k3 : TyX K (upd G2 t3 (.dK [])) (.ref t3) (.type "dict") := .base (.dK upd_same)
      have k1 := TyX.ext k1 x3
      have k2 := TyX.ext k2 x3
      have rs3 := rs2.ext x3
      have fr3 := fr2.trans (Frm.ext x3)
      generalize upd G2 t3 (.dK []) = G3 at k1 k2 k3 rs3 fr3 ⊢
      obtain ⟨vs, hu, elu⟩ := id rs3.us
      refine ⟨_, rfl, u, _, rfl, SqL.of hu, fun t4 n4 => ?_⟩
      have x4 := Ext.upd (o := .lst (cutV vs none (some 9))) n4
      have k4 : TyX K (upd G3 t4 (.lst (cutV vs none (some 9)))) (.ref t4) (.type "list") := .base (.lst upd_same)
      have k1 := TyX.ext k1 x4
      have k2 := TyX.ext k2 x4
      have k3 := TyX.ext k3 x4
      have rs4 := rs3.ext x4
      have fr4 := fr3.trans (Frm.ext x4)
      generalize upd G3 t4 (.lst (cutV vs none (some 9))) = G4 at k1 k2 k3 k4 rs4 fr4 ⊢
      obtain ⟨es5, hl5, _⟩ := id rs4.evs
      refine ⟨_, rfl, l, _, rfl, SqL.of hl5, fun t5 n5 => ?_⟩
      have x5 := Ext.upd (o := .lst (cutV es5 none (some 9))) n5
      have k5 : TyX K (upd G4 t5 (.lst (cutV es5 none (some 9)))) (.ref t5) (.type "list") := .base (.lst upd_same)
      have k1 := TyX.ext k1 x5
      have k2 := TyX.ext k2 x5
      have k3 := TyX.ext k3 x5
      have k4 := TyX.ext k4 x5
      have rs5 := rs4.ext x5
      have fr5 := fr4.trans (Frm.ext x5)
      generalize upd G4 t5 (.lst (cutV es5 none (some 9))) = G5 at k1 k2 k3 k4 k5 rs5 fr5 ⊢
      refine ⟨Nat.zero_le _, fun t6 n6 => fun x dx nx ndx ne => ?_⟩
      have x6 := Ext.upd (o := .lst []) n6
      refine init_R (es := []) nx ndx ne so (x6 _ _ rs5.crew) cr upd_same .nil ⟨Nat.zero_le _, fun _ h => nomatch h⟩ fun G7 lg7 x7' => ?_
      have x7 := x6.trans x7'
      have k1 := TyX.ext k1 x7
      have k2 := TyX.ext k2 x7
      have k3 := TyX.ext k3 x7
      have k4 := TyX.ext k4 x7
      have k5 := TyX.ext k5 x7
      have rs7 := rs5.ext x7
      have fr7 := fr5.trans (Frm.ext x7)
      refine ⟨(by show 1 ≤ sizeLine; decide), fun t8 n8 => ?_⟩
      have x8 := Ext.upd (o := .lst [.ref x]) n8
      have k8 : TyX K (upd G7 t8 (.lst [.ref x])) (.ref t8) (.type "list") := .base (.lst upd_same)
      have k1 := TyX.ext k1 x8
      have k2 := TyX.ext k2 x8
      have k3 := TyX.ext k3 x8
      have k4 := TyX.ext k4 x8
      have k5 := TyX.ext k5 x8
      have rs8 := rs7.ext x8
      have fr8 := fr7.trans (Frm.ext x8)
      generalize upd G7 t8 (.lst [.ref x]) = G8 at k1 k2 k3 k4 k5 k8 rs8 fr8 ⊢
      refine ⟨(by show 12 ≤ sizeLine; decide), fun oo no => ?_⟩
      have x9 := Ext.upd (o := .lst [.non, .bl true, .int 0, .str "", .ref t1, .ref t2, .ref t3, .ref t4, .ref t5, .ref a, .ref h, .ref t8]) no
      refine ⟨oo, _, rfl, upd_same, frm_none fr8 rs8.tape no, (by show 11 ≤ 11; decide), ?_, rs8.ext x9, fr8.trans (Frm.ext x9)⟩
      have od : ∀ {t0 : Value} {v : V}, t0 ∈ ([.type "NoneType", .type "int", .type "bool", .type "str", .type "tuple", .type "dict", .type "list"] : List Value) → TyX K G8 v t0 → CallJ K cL A0 (upd G8 oo (.lst [.non, .bl true, .int 0, .str "", .ref t1, .ref t2, .ref t3, .ref t4, .ref t5, .ref a, .ref h, .ref t8])) sz ns t v false :=
        fun ht ty => .odd (TyX.ext ty x9) (LH.od _ ht)
      obtain ⟨_, _, hins⟩ := rs8.his.ins
      intro v hv
      simp only [List.mem_cons, List.not_mem_nil, or_false] at hv
      rcases hv with rfl | rfl | rfl | rfl | rfl | rfl | rfl | rfl | rfl | rfl | rfl | rfl
      · exact od (by simp) (.base .non)
      · exact od (by simp) (.base (.bl _))
      · exact od (by simp) (.base (.int _))
      · exact od (by simp) (.base (.str _))
      · exact od (by simp) k1
      · exact od (by simp) k2
      · exact od (by simp) k3
      · exact od (by simp) k4
      · exact od (by simp) k5
      · exact od (by simp) (.base (.lst rs8.crew))
      · exact .odd (LH.ty _ _ _ _ (x9 _ _ hins)) LH.kn
      · exact od (by simp) k8
    clear rs fr
    rintro σ H4 ⟨oo, vs, rfl, hoo, noo, hvl, jj, rs, fr⟩
    -- logs of another size, of other servers
    have cr2 : CrewOk (ns.take 11 ++ [("xyz" : Str)]) := by
      refine ⟨by rw [List.length_append]; exact Nat.le_add_left _ _, by rw [List.length_append, List.length_take]; show min 11 ns.length + 1 ≤ 12; omega, fun z hz => ?_, ?_⟩
      · rcases List.mem_append.mp hz with hz | hz
        · exact cr.nam z (List.mem_of_mem_take hz)
        · rw [List.mem_singleton.mp hz]; exact nameXyz
      · rw [List.nodup_append]
        refine ⟨cr.nd.sublist (List.take_sublist _ _), by simp, fun x hx v hv e => ?_⟩
        rw [List.mem_singleton.mp hv] at e
        exact xyz (e ▸ List.mem_of_mem_take hx)
    have d2 : ¬ (sz = sz ∧ ns.take 11 ++ [("xyz" : Str)] = ns) := fun z => xyz (by rw [← z.2]; exact List.mem_append_right _ List.mem_cons_self)
    have crx : CrewOk [("xyz" : Str)] := ⟨Nat.le_refl _, (by show 1 ≤ 12; decide), fun z hz => by rw [List.mem_singleton.mp hz]; exact nameXyz, by simp⟩
    have dx' : ¬ (sz = sz ∧ [("xyz" : Str)] = ns) := fun z => xyz (by rw [← z.2]; exact List.mem_cons_self)
    obtain ⟨so2, ds2⟩ : SizeOk (sz % 10 ^ (29 : Int).toNat + 1) ∧ sz % 10 ^ (29 : Int).toNat + 1 ≠ sz := by
      have e : (10 : Int) ^ (29 : Int).toNat = 100000000000000000000000000000 := by decide
      have s1 := so.1
      rw [e]
      refine ⟨⟨by omega, ?_⟩, by omega⟩
      have : sz % 100000000000000000000000000000 < 100000000000000000000000000000 := Int.emod_lt_of_pos _ (by decide)
      show sz % 100000000000000000000000000000 + 1 ≤ 10 ^ 30
      have e30 : (10 : Int) ^ 30 = 1000000000000000000000000000000 := by decide
      rw [e30]
      omega
    have ok0 : ∀ ms, EntsOk ms [] := fun _ => ⟨Nat.zero_le _, fun _ h => nomatch h⟩
    have nb0 : ∀ e ∈ ([] : List (Str × Int)), nameB e.1 = true := fun _ h => nomatch h
    refine ⟨fun σ H' => ∃ oo vs, σ = [some (.ref p), some (.int sz), some (.ref a), some (.ref l), some (.ref h), some (.ref u), v6, v7, v8, v9, some (.ref oo), none, none] ∧ H' oo = some (.lst (.non :: vs)) ∧ H oo = none ∧ vs.length ≤ 13 ∧ (∀ v ∈ V.non :: vs, CallJ K cL A0 H' sz ns t v false) ∧ RtS CH CD p a l h u sz ns es t (n + 6400) H' ∧ Frm [p] H H', ?_, ?_⟩
    · refine ⟨⟨by decide, by decide, by decide⟩, (by show (0 : Int) < 10 ^ (29 : Int).toNat; decide), Nat.zero_le _, fun t1 n1 => fun x dx nx ndx ne => ?_⟩
      have x1 := Ext.upd (o := .lst []) n1
      refine init_R (es := []) nx ndx ne so2 (x1 _ _ rs.crew) cr upd_same .nil (ok0 _) fun G2 lg2 x2' => ?_
      have x2 := x1.trans x2'
      have j2 : CallJ K cL A0 G2 sz ns t (.ref x) false := CallJ.no lg2 ML cr nb0 (fun z => ds2 z.1)
      have rs2 := rs.ext x2
      clear nx ndx ne dx lg2 x1 x2' n1
      refine ⟨_, rfl, a, _, rfl, SqL.of rs2.crew, fun t3 n3 => ?_⟩
      rw [cut_to (by decide)]
      have x3 := Ext.upd (o := .lst ((ns.map V.str).take (11 : Int).toNat)) n3
      have c3 : (upd G2 t3 (.lst ((ns.map V.str).take (11 : Int).toNat))) t3 = some (.lst ((ns.map V.str).take (11 : Int).toNat)) := upd_same
      have rs3 := rs2.ext x3
      have j3 := j2.ext x3
      have x13 := x2.trans x3
      generalize upd G2 t3 (.lst ((ns.map V.str).take (11 : Int).toNat)) = G3 at c3 rs3 j3 x13 ⊢
      refine ⟨(by show 1 ≤ sizeLine; decide), fun t4 n4 => ?_⟩
      have x4 := Ext.upd (o := .lst [.str "xyz"]) n4
      have c4 : (upd G3 t4 (.lst [.str "xyz"])) t4 = some (.lst [.str "xyz"]) := upd_same
      have c3 := x4 _ _ c3
      have rs4 := rs3.ext x4
      have j4 := j3.ext x4
      have x14 := x13.trans x4
      generalize upd G3 t4 (.lst [.str "xyz"]) = G4 at c3 c4 rs4 j4 x14 ⊢
      have e5 : (ns.map V.str).take (11 : Int).toNat ++ [V.str "xyz"] = (ns.take 11 ++ [("xyz" : Str)]).map V.str := by
        rw [List.map_append, List.map_take]; rfl
      refine ⟨t3, t4, _, _, rfl, rfl, c3, c4, ?_, fun t5 n5 => ?_⟩
      · rw [← List.length_append, e5, List.length_map]
        exact Nat.le_trans cr2.few (by decide)
      rw [e5]
      have x5 := Ext.upd (o := .lst ((ns.take 11 ++ [("xyz" : Str)]).map V.str)) n5
      have c5 : (upd G4 t5 (.lst ((ns.take 11 ++ [("xyz" : Str)]).map V.str))) t5 = some (.lst ((ns.take 11 ++ [("xyz" : Str)]).map V.str)) := upd_same
      have rs5 := rs4.ext x5
      have j5 := j4.ext x5
      have x15 := x14.trans x5
      generalize upd G4 t5 (.lst ((ns.take 11 ++ [("xyz" : Str)]).map V.str)) = G5 at c5 rs5 j5 x15 ⊢
      refine ⟨Nat.zero_le _, fun t6 n6 => fun y dy ny ndy ney => ?_⟩
      have x6 := Ext.upd (o := .lst []) n6
      refine init_R (es := []) ny ndy ney so (x6 _ _ c5) cr2 upd_same .nil (ok0 _) fun G7 lg7 x7' => ?_
      have x7 := x6.trans x7'
      have j7 : CallJ K cL A0 G7 sz ns t (.ref y) false := CallJ.no lg7 ML cr2 nb0 d2
      have rs7 := rs5.ext x7
      have j6 := j5.ext x7
      have x17 := x15.trans x7
      refine ⟨(by show 2 ≤ sizeLine; decide), fun t8 n8 => ?_⟩
      have x8 := Ext.upd (o := .lst [.ref x, .ref y]) n8
      have c8 : (upd G7 t8 (.lst [.ref x, .ref y])) t8 = some (.lst [.ref x, .ref y]) := upd_same
      have rs8 := rs7.ext x8
      have j6 := j6.ext x8
      have j7 := j7.ext x8
      have x18 := x17.trans x8
      generalize upd G7 t8 (.lst [.ref x, .ref y]) = G8 at c8 rs8 j6 j7 x18 ⊢
      refine ⟨oo, t8, _, _, rfl, rfl, x18 _ _ hoo, c8, Nat.le_trans (show (vs.length + 1) + 2 ≤ 14 by omega) (by decide), fun o2 n9 => ?_⟩
      have x9 := Ext.upd (o := .lst (V.non :: vs ++ [.ref x, .ref y])) n9
      refine ⟨o2, vs ++ [.ref x, .ref y], rfl, upd_same, frm_none (fr.trans (Frm.ext x18)) rs8.tape n9, by rw [List.length_append]; exact Nat.add_le_add hvl (Nat.le_refl 2), fun v hv => ?_, rs8.ext x9, fr.trans (Frm.ext (x18.trans x9))⟩
      rcases List.mem_append.mp (show v ∈ (V.non :: vs) ++ [.ref x, .ref y] from hv) with hv | hv
      · exact (jj v hv).ext (x18.trans x9)
      · simp only [List.mem_cons, List.not_mem_nil, or_false] at hv
        rcases hv with rfl | rfl
        · exact j6.ext x9
        · exact j7.ext x9
    clear rs fr jj hvl hoo noo vs oo
    rintro σ H5 ⟨oo, vs, rfl, hoo, noo, hvl, jj, rs, fr⟩
    -- a losing log of other servers
    refine ⟨fun σ H' => ∃ oo vs, σ = [some (.ref p), some (.int sz), some (.ref a), some (.ref l), some (.ref h), some (.ref u), v6, v7, v8, v9, some (.ref oo), none, none] ∧ H' oo = some (.lst (.non :: vs)) ∧ H oo = none ∧ vs.length ≤ 14 ∧ (∀ v ∈ V.non :: vs, CallJ K cL A0 H' sz ns t v false) ∧ RtS CH CD p a l h u sz ns es t (n + 6400) H' ∧ Frm [p] H H', ?_, ?_⟩
    · refine ⟨.inl ⟨rfl, _, SqL.of hoo⟩, (by show 1 ≤ sizeLine; decide), fun t1 n1 => ⟨Nat.zero_le _, fun t2 n2 => fun x dx nx ndx ne => ?_⟩⟩
      have x1 := Ext.upd (o := .lst [.str "xyz"]) n1
      have x2 := Ext.upd (o := .lst []) n2
      refine init_R (ns := [("xyz" : Str)]) (es := []) nx ndx ne so (x2 _ _ upd_same) crx upd_same .nil (ok0 _) fun G2 lg2 x3 => ?_
      have xx := (x1.trans x2).trans x3
      have j2 : CallJ K cL A0 G2 sz ns t (.ref x) false := CallJ.no lg2 MX crx nb0 dx'
      have hoo2 := xx _ _ hoo
      refine ⟨oo, _, _, rfl, rfl, hoo2, Nat.lt_of_le_of_lt (show vs.length + 1 ≤ 14 by omega) (by decide), ?_⟩
      refine ⟨oo, vs ++ [.ref x], rfl, upd_same, noo, by rw [List.length_append]; exact Nat.add_le_add hvl (Nat.le_refl 1), fun v hv => ?_, (rs.ext xx).updN hoo2, (fr.trans (Frm.ext xx)).put noo⟩
      · rcases List.mem_append.mp (show v ∈ (V.non :: vs) ++ [.ref x] from hv) with hv | hv
        · exact ((jj v hv).ext xx).updN hoo2
        · rw [List.mem_singleton.mp hv]; exact j2.updN hoo2
    clear rs fr jj hvl hoo noo vs oo
    rintro σ H6 ⟨oo, vs, rfl, hoo, noo, hvl, jj, rs, fr⟩
    -- the servers turned
    refine ⟨fun σ H' => ∃ oo vs, σ = [some (.ref p), some (.int sz), some (.ref a), some (.ref l), some (.ref h), some (.ref u), v6, v7, v8, v9, some (.ref oo), none, none] ∧ H' oo = some (.lst (.non :: vs)) ∧ H oo = none ∧ vs.length ≤ 15 ∧ (∀ v ∈ V.non :: vs, CallJ K cL A0 H' sz ns t v false) ∧ RtS CH CD p a l h u sz ns es t (n + 6400) H' ∧ Frm [p] H H', ?_, ?_⟩
    · refine ⟨_, _, rfl, .inl ⟨_, SqL.of rs.crew, rfl⟩, ?_⟩
      rw [List.length_map]
      refine ifD (p := (1 : Int) < (ns.length : Int)) (fun e => ?_) (fun _ => ⟨oo, vs, rfl, hoo, noo, by omega, jj, rs, fr⟩)
      have e1 : 1 < ns.length := by omega
      have crr : CrewOk ns.reverse := ⟨by rw [List.length_reverse]; exact cr.one, by rw [List.length_reverse]; exact cr.few, fun z hz => cr.nam z (List.mem_reverse.mp hz), by unfold List.Nodup; rw [List.pairwise_reverse]; exact cr.nd.imp fun h => h.symm⟩
      refine ⟨.inl ⟨rfl, _, SqL.of hoo⟩, a, _, rfl, SqL.of rs.crew, fun t1 n1 => ?_⟩
      rw [← List.map_reverse]
      refine ⟨Nat.zero_le _, fun t2 n2 => fun x dx nx ndx ne => ?_⟩
      have x1 := Ext.upd (o := .lst (ns.reverse.map V.str)) n1
      have x2 := Ext.upd (o := .lst []) n2
      refine init_R (ns := ns.reverse) (es := []) nx ndx ne so (x2 _ _ upd_same) crr upd_same .nil (ok0 _) fun G2 lg2 x3 => ?_
      have xx := (x1.trans x2).trans x3
      have j2 : CallJ K cL A0 G2 sz ns t (.ref x) false := CallJ.no lg2 ML crr nb0 (fun z => rev_ne cr.nd e1 z.2)
      have hoo2 := xx _ _ hoo
      refine ⟨oo, _, _, rfl, rfl, hoo2, Nat.lt_of_le_of_lt (show vs.length + 1 ≤ 15 by omega) (by decide), ?_⟩
      refine ⟨oo, vs ++ [.ref x], rfl, upd_same, noo, by rw [List.length_append]; exact Nat.add_le_add hvl (Nat.le_refl 1), fun v hv => ?_, (rs.ext xx).updN hoo2, (fr.trans (Frm.ext xx)).put noo⟩
      rcases List.mem_append.mp (show v ∈ (V.non :: vs) ++ [.ref x] from hv) with hv | hv
      · exact ((jj v hv).ext xx).updN hoo2
      · rw [List.mem_singleton.mp hv]; exact j2.updN hoo2
    clear rs fr jj hvl hoo noo vs oo
    rintro σ H7 ⟨oo, vs, rfl, hoo, noo, hvl, jj, rs, fr⟩
    -- none of them is shown
    refine ⟨fun σ H' => σ = [some (.ref p), some (.int sz), some (.ref a), some (.ref l), some (.ref h), some (.ref u), v6, v7, v8, v9, some (.ref oo), none, none] ∧ RtS CH CD p a l h u sz ns es t (n + 6400) H' ∧ Frm [p] H H', ?_, ?_⟩
    · refine ⟨oo, rfl, ⟨_, SqL.of hoo⟩, fun d hd => lc_list (K := K) (a := oo) (xs := V.non :: vs) (fun i H' => Ext H7 H' ∧ H' d = some (.lst [])) ⟨Ext.upd hd, upd_same⟩ (fun i H1 _ t => SqL.of (t.1 _ _ hoo)) ?_ ?_⟩
      · intro i y G hy ⟨x1, hd1⟩
        have rs1 := rs.ext x1
        obtain ⟨_, _, hins⟩ := rs1.his.ins
        refine ⟨rfl, ?_⟩
        refine ⟨h, rfl, _, _, hins, h, sz, ns, t, y, false, rfl, rs1.his, (jj y (List.mem_of_getElem? hy)).ext x1, cr.few, cr.nam, nbu, fun G2 x2 => ?_⟩
        exact ⟨_, _, rfl, rfl, ifF (by rfl) ⟨x1.trans x2, x2 _ _ hd1⟩⟩
      · rintro G ⟨x1, hd1⟩
        refine ⟨(by show 0 ≤ sizeLine; decide), fun m1 hm1 => ?_⟩
        have w := Ext.upd (o := .lst []) hm1
        have x := x1.trans w
        refine ⟨.list [], .list [], .lst (SqL.of (w _ _ hd1)) .nil, .lst (SqL.of upd_same) .nil, (by decide), (by decide), ?_⟩
        refine ifF (by decide) ?_
        exact ⟨rfl, rs.ext x, fr.trans (Frm.ext x)⟩
    clear rs fr jj hvl hoo
    rintro σ H8 ⟨rfl, rs, fr⟩
    -- another history
    refine ⟨fun σ H' => ∃ h2, σ = [some (.ref p), some (.int sz), some (.ref a), some (.ref l), some (.ref h), some (.ref u), v6, v7, v8, v9, some (.ref oo), none, some (.ref h2)] ∧ h ≠ h2 ∧ (∃ dx fs, H' h2 = some (.ins CH dx fs)) ∧ RtS CH CD p a l h u sz ns es t (n + 6400) H' ∧ Frm [p] H H', ?_, ?_⟩
    · obtain ⟨xs, hl, el⟩ := id rs.evs
      intro x dx nx ndx ne
      obtain ⟨_, _, hins⟩ := rs.his.ins
      refine his_R nx ndx ne so rs.crew cr hl el few nam run fun H9 hh x9 => ?_
      exact ⟨x, rfl, ne_of_none hins nx, hh.ins, rs.ext x9, fr.trans (Frm.ext x9)⟩
    clear rs fr
    rintro σ H9 ⟨h2, rfl, hne, ⟨_, _, hins2⟩, rs, fr⟩
    -- the end
    refine ⟨h, rfl, Nat.zero_le _, fun t1 n1 => fun x dx nx ndx ne => ?_⟩
    have x1 := Ext.upd (o := .lst []) n1
    refine init_R (es := []) nx ndx ne so (x1 _ _ rs.crew) cr upd_same .nil (ok0 _) fun G2 lg2 x2 => ?_
    have x12 := x1.trans x2
    have rs2 := rs.ext x12
    obtain ⟨_, _, hins⟩ := rs2.his.ins
    have s0 : seenN [] 0 t.us = 0 := Nat.le_zero.mp (seenN_le (rows := []) (us := t.us) (Nat.le_refl 0))
    have j2 : CallJ K cL A0 G2 sz ns t (.ref x) true := by
      have j := CallJ.log (sz := sz) (ns := ns) (s := t) lg2 ML cr.few cr.nam nb0
      rw [decide_eq_true ⟨rfl, rfl, s0⟩] at j
      exact j
    refine ⟨_, _, hins, h, sz, ns, t, .ref x, true, rfl, rs2.his, j2, cr.few, cr.nam, nbu, fun G3 x3 => ?_⟩
    have x13 := x12.trans x3
    have rs3 := rs.ext x13
    obtain ⟨_, _, hins⟩ := rs3.his.ins
    refine ⟨true, true, rfl, rfl, _, rfl, ifT (by rfl) ?_⟩
    refine ⟨h, h2, _, _, _, _, rfl, rfl, hins, x13 _ _ hins2, ?_⟩
    rw [decide_eq_false hne]
    refine ⟨_, rfl, _, rfl, ifT (by rfl) ?_⟩
    refine ⟨h, h, _, _, _, _, rfl, rfl, hins, hins, ?_⟩
    rw [decide_eq_true rfl]
    exact k _ (fr.trans (Frm.ext x13)) (rs3.tape.mono (by omega))
end
end NB

set_option Elab.async false
set_option linter.all false
set_option maxRecDepth 100000
set_option maxHeartbeats 8000000
/-! K6 (k29): the law of logs that histories show -/
namespace NB
open PySem PySem.Spec L2
open PyProof.Rows (envOfC)
open C8 (pe_c pe_mk pe_mt pe_mt0 pe_gc fnScope fnBody fnArgs fnScope_by Cal Met Mak)
/-- where the methods of Desk and History stand -/
structure AdH where
  (fDI fT fU fP fHI fC : Addr)
  (dDI dT dU dP dHI dC : FuncData)
/-- what the law is read over -/
structure Tops (K : PySem.W.Frag) (mg : Str → Option Value) (cL cX cD cH : Addr) (A0 : Ads) (B : AdH) : Prop where
  T : Tx K mg cL cX
  Tk : Tk mg
  ML : LogM K cL cL "steady" A0
  MX : LogM K cL cX "losing" A0
  Ms : Ms K A0
  LD : DeskM K cD B.fT B.fU
  mP : Meth K cD "play" B.fP
  mkD : Mk K cD B.fDI
  LH : HisM K cL cH B.fC
  mkH : Mk K cH B.fHI
  xDI : Mx K "__init__" "Desk.__init__" s_Desk___init__ ["self", "size", "servers"] B.fDI B.dDI
  xT : Mx K "take" "Desk.take" s_Desk_take ["self", "name"] B.fT B.dT
  xU : Mx K "use" "Desk.use" s_Desk_use ["self", "name"] B.fU B.dU
  xP : Mx K "play" "Desk.play" s_Desk_play ["self", "event"] B.fP B.dP
  xHI : Mx K "__init__" "History.__init__" s_History___init__ ["self", "size", "servers", "events"] B.fHI B.dHI
  xC : Mx K "__call__" "History.__call__" s_History___call__ ["self", "thing"] B.fC B.dC
  dfC : B.dC.defaults = .none
  mgL : mg "Log" = some (.ref cL)
  mgX : mg "LosingLog" = some (.ref cX)
  mgD : mg "Desk" = some (.ref cD)
  mgH : mg "History" = some (.ref cH)
  d_is_integer : Dx K mg "is_integer" s_is_integer ["thing"]
  d_is_size : Dx K mg "is_size" s_is_size ["thing"]
  d_is_name : Dx K mg "is_name" s_is_name ["thing"]
  d_are_servers : Dx K mg "are_servers" s_are_servers ["thing"]
  d_is_server : Dx K mg "is_server" s_is_server ["servers", "thing"]
  d_is_entry : Dx K mg "is_entry" s_is_entry ["servers", "thing"]
  d_are_entries : Dx K mg "are_entries" s_are_entries ["servers", "thing"]
  d_law_tape : Dx K mg "_law_tape" s__law_tape ["script", "k"]
  d_law_next : Dx K mg "_law_next" s__law_next ["tape", "many"]
  d_law_names : Dx K mg "_law_names" s__law_names ["tape", "most"]
  d_law_played : Dx K mg "_law_played" s__law_played ["wide", "names", "steps_here"]
  d_law_events : Dx K mg "_law_events" s__law_events ["tape", "wide", "names", "most"]
  d_law_is_shown : Dx K mg "_law_is_shown" s__law_is_shown ["uses_here", "rows"]
  d_law_rows : Dx K mg "_law_rows" s__law_rows ["tape", "names", "wide", "uses_here"]
  d_law_right : Dx K mg "_law_right" s__law_right ["tape", "wide", "names"]
section
variable {P : Program} {w : World} {K : PySem.W.Frag} {mg : Str → Option Value} {base : Heap} {cL cX cD cH : Addr} {A0 : Ads} {B : AdH}
theorem Tops.integer (S : Tops K mg cL cX cD cH A0 B) : Cal P w K mg base 1 "is_integer" (spInteger K) [] := ok_is_integer S.T S.d_is_integer
theorem Tops.server (S : Tops K mg cL cX cD cH A0 B) : Cal P w K mg base 1 "is_server" (spServer K) [] := ok_is_server S.T S.d_is_server
theorem Tops.size (S : Tops K mg cL cX cD cH A0 B) : Cal P w K mg base 2 "is_size" spSizeB [] := ok_is_size S.T S.d_is_size S.integer
theorem Tops.servers (S : Tops K mg cL cX cD cH A0 B) : Cal P w K mg base 2 "are_servers" spCrew [] := ok_are_servers S.T S.d_are_servers (ok_is_name S.T S.d_is_name)
theorem Tops.entry (S : Tops K mg cL cX cD cH A0 B) : Cal P w K mg base 2 "is_entry" (spEntry K) [] := ok_is_entry S.T S.d_is_entry S.server S.integer
theorem Tops.entries (S : Tops K mg cL cX cD cH A0 B) : Cal P w K mg base 3 "are_entries" spEntries [] := ok_are_entries S.T S.d_are_entries S.entry
theorem Tops.initL (S : Tops K mg cL cX cD cH A0 B) : FnOk P w K mg base C8.CX0 4 A0.fI A0.dI ["self", "size", "servers", "entries"] (spInit cL) := ok_init S.T S.ML.toLogC S.Ms.mI S.size S.servers S.entries
theorem Tops.initX (S : Tops K mg cL cX cD cH A0 B) : FnOk P w K mg base C8.CX0 4 A0.fI A0.dI ["self", "size", "servers", "entries"] (spInit cX) := ok_init S.T S.MX.toLogC S.Ms.mI S.size S.servers S.entries
theorem Tops.makL (S : Tops K mg cL cX cD cH A0 B) : Mak P w K mg base 4 "Log" cL (spInit cL) [] := ⟨_, _, _, _, S.ML.mkk, S.initL, S.mgL, S.Ms.mI.b, .nil⟩
theorem Tops.makX (S : Tops K mg cL cX cD cH A0 B) : Mak P w K mg base 4 "LosingLog" cX (spInit cX) [] := ⟨_, _, _, _, S.MX.mkk, S.initX, S.mgX, S.Ms.mI.b, .nil⟩
theorem Tops.makD (S : Tops K mg cL cX cD cH A0 B) : Mak P w K mg base 1 "Desk" cD (spDeskI cD) [] := ⟨_, _, _, _, S.mkD, ok_desk S.Tk S.LD.toDeskC S.xDI, S.mgD, S.xDI.b, .nil⟩
theorem Tops.play (S : Tops K mg cL cX cD cH A0 B) : FnOk P w K mg base C8.CX0 2 B.fP B.dP ["self", "event"] (spPlay cD) := ok_play S.Tk S.LD (ok_take S.Tk.toBlt S.LD.toDeskC S.xT) S.xT.b (ok_use S.Tk.toBlt S.LD.toDeskC S.xU) S.xU.b S.xP
theorem Tops.makH (S : Tops K mg cL cX cD cH A0 B) : Mak P w K mg base 6 "History" cH (spHisI cH cD) [] := ⟨_, _, _, _, S.mkH, ok_his S.Tk S.LH.toHisC S.LD S.mP S.play S.xP.b S.makL S.makD S.xHI, S.mgH, S.xHI.b, .nil⟩
theorem Tops.call (S : Tops K mg cL cX cD cH A0 B) : FnOk P w K mg base C8.CX0 3 B.fC B.dC ["self", "thing"] (spCall K cL cH cD A0) := ok_call S.T S.LH.toHisC S.LD.toDeskC S.Ms S.ML S.xC
theorem Tops.next (S : Tops K mg cL cX cD cH A0 B) : Cal P w K mg base 1 "_law_next" spNext [] := ok_next S.T.toBlt S.d_law_next
theorem Tops.right (S : Tops K mg cL cX cD cH A0 B) : CalG P w K mg base 8 "_law_right" spRight :=
  ok_right S.T S.LH S.ML S.MX S.d_law_right S.makL S.makX S.makH S.call S.xC.b (kb_th S.xC S.dfC) (ok_events S.T.toBlt S.d_law_events S.next) (ok_played S.T.toBlt S.d_law_played) (ok_shown S.T.toBlt S.d_law_is_shown) (ok_rows S.T.toBlt S.d_law_rows S.next)
abbrev EVS : List Ev := [(true, "b"), (true, "a"), (false, "a"), (false, "b")]
abbrev USS : List (Str × Int) := [("a", 2), ("b", 0)]
theorem run_EVS : ∃ t, runD 2 ds0 EVS = some t ∧ t.us = USS := by
  have h : (runD 2 ds0 EVS).map DS.us = some USS := by decide +kernel
  cases q : runD 2 ds0 EVS with
  | none => rw [q] at h; cases h
  | some t => rw [q] at h; exact ⟨t, rfl, Option.some.inj h⟩
abbrev RD : List (List (Str × Int) × Bool) := [([("a", 2), ("b", 0)], true), ([("b", 0), ("a", 2)], false), ([("b", 0)], true), ([("b", 1)], false)]
theorem RD_ok : ∀ x ∈ RD, decide (seenN x.1 0 USS = x.1.length) = x.2 := by decide +kernel
theorem RD_ents : ∀ x ∈ RD, x.1.length ≤ 200 ∧ ∀ e ∈ x.1, e.1 ∈ (["a", "b"] : List Str) ∧ 0 ≤ e.2 := by decide +kernel
theorem AB_crew : CrewOk ["a", "b"] := ⟨by decide, by decide, by decide +kernel, by decide +kernel⟩
/-- a list of entries stands at l -/
def RowAt (H : Hp) (l : Addr) (es : List (Str × Int)) : Prop := ∃ xs, H l = some (.lst xs) ∧ EntL H es xs
theorem RowAt.mono {H H' : Hp} {l : Addr} {es : List (Str × Int)} (h : RowAt H l es) (x : Ext H H') : RowAt H' l es := by
  obtain ⟨xs, h1, h2⟩ := h
  exact ⟨xs, x _ _ h1, h2.mono x⟩
theorem pAt {α β : Type} {R : α → β → Prop} : ∀ {es : List α} {vs : List β} {i : Nat} {v : β}, Paired R es vs → vs[i]? = some v → ∃ e, es[i]? = some e ∧ R e v
  | _, _, i, v, .nil, h => by simp at h
  | _, _, 0, v, .cons (a := e) r q, h => by simp at h; subst h; exact ⟨e, rfl, r⟩
  | _, _, i + 1, v, .cons r q, h => by
    obtain ⟨e, h1, h2⟩ := pAt q (i := i) (v := v) (by simpa using h)
    exact ⟨e, by simpa using h1, h2⟩
def spLaw (K : PySem.W.Frag) : Sp := fun vs H Q _ => ∃ (a : Addr) (ns : List Int), vs = [.ref a] ∧ SqL K H a (ns.map V.int) ∧ ns.length ≤ 63 ∧ ∀ H', Q (.bl true) H'
theorem ok_law (S : Tops K mg cL cX cD cH A0 B) {f : Addr} {fd : FuncData} (F : C8.Fun K "law" "law" s_law f fd) : FnG P w K mg base 9 f fd ["script"] (spLaw K) := by
  refine fnG_of F sc_law (fun vs H Q E h => ?_) (fun cdv A o s H vs Q E hr hgd h => ?_)
  · obtain ⟨a, ns, rfl, _⟩ := h; rfl
  · obtain ⟨a, ns, rfl, hS, hn, k⟩ := h
    have T := S.T
    have LH := S.LH
    have c__law_next : Cal P w K mg base 1 "_law_next" spNext [] := S.next
    have c__law_tape : Cal P w K mg base 1 "_law_tape" (spTape K) [] := ok_tape T.toBlt S.d_law_tape
    have c__law_names : Cal P w K mg base 2 "_law_names" spNames [] := ok_names T.toBlt S.d_law_names S.next
    have c__law_right : CalG P w K mg base 8 "_law_right" spRight := S.right
    have c_Log : Mak P w K mg base 4 "Log" cL (spInit cL) [] := S.makL
    have c_History : Mak P w K mg base 6 "History" cH (spHisI cH cD) [] := S.makH
    have F_call : FnOk P w K mg base C8.CX0 3 B.fC B.dC ["self", "thing"] (spCall K cL cH cD A0) := S.call
    have bC := S.xC.b
    refine ⟨_, (C8.pss_cut (ps_for PassesOwn.never rfl (pi_range1 (by rfl) T.n_range (pa_cons (pe_callB (call_max2 rfl) (by rfl) T.n_max (by decide +kernel) (pa_cons pe_int (pa_cons (pe_callB (call_min2 rfl) (by rfl) T.n_min (by decide +kernel) (pa_cons pe_int (pa_cons (pe_callB call_len (by rfl) T.n_len (by decide +kernel) (pa_cons (mv 0) pa_nil)) pa_nil))) pa_nil))) pa_nil)) (pg_name (i := 1) sc_law.nd rfl (Or.inl rfl))
    (pss_cons (ps_set (i := 2) sc_law.nd rfl (Or.inl rfl) (pe_c c__law_tape hr (by decide) rfl (pa_cons (mv 0) (pa_cons (mv 1) pa_nil))))
    (pss_one (ps_for PassesOwn.never rfl (pi_range1 (by rfl) T.n_range (pa_cons pe_int pa_nil)) (pg_name (i := 3) sc_law.nd rfl (Or.inl rfl))
    (pss_cons (ps_set (i := 4) sc_law.nd rfl (Or.inl rfl) (pe_ix m_ix (pe_lst (pa_cons pe_int (pa_cons (pe_op m_add pe_int (pe_c c__law_next hr (by decide) rfl (pa_cons (mv 2) (pa_cons pe_int pa_nil)))) (pa_cons (pe_op m_pow pe_int pe_int) pa_nil)))) (pe_c c__law_next hr (by decide) rfl (pa_cons (mv 2) (pa_cons pe_int pa_nil))) (fun _ _ => rfl)))
    (pss_one (ps_if (pt_not (qv (pe_g c__law_right hr (by decide) (gd_deeper hgd) rfl (pa_cons (mv 2) (pa_cons (mv 4) (pa_cons (pe_c c__law_names hr (by decide) rfl (pa_cons (mv 2) (pa_cons (pe_ix m_ix (pe_lst (pa_cons pe_int (pa_cons pe_int pa_nil))) (mv 3) (fun _ _ => rfl)) pa_nil))) pa_nil)))))) (pss_one (ps_ret pe_bl)) pss_nil)))))))
    (pss_cons (ps_set (i := 5) sc_law.nd rfl (Or.inl rfl) (pe_mk c_History hr (by decide) rfl (pa_cons pe_int (pa_cons (pe_lst (pa_cons pe_str (pa_cons pe_str pa_nil))) (pa_cons (pe_lst (pa_cons (pe_tup (pa_cons pe_str (pa_cons pe_str pa_nil))) (pa_cons (pe_tup (pa_cons pe_str (pa_cons pe_str pa_nil))) (pa_cons (pe_tup (pa_cons pe_str (pa_cons pe_str pa_nil))) (pa_cons (pe_tup (pa_cons pe_str (pa_cons pe_str pa_nil))) pa_nil))))) pa_nil)))))
    (pss_cons (ps_set (i := 6) sc_law.nd rfl (Or.inl rfl) (pe_lst pa_nil))
    (pss_cons (ps_for PassesOwn.never rfl (pi_list (pe_lst (pa_cons (pe_lst (pa_cons (pe_tup (pa_cons pe_str (pa_cons pe_int pa_nil))) (pa_cons (pe_tup (pa_cons pe_str (pa_cons pe_int pa_nil))) pa_nil))) (pa_cons (pe_lst (pa_cons (pe_tup (pa_cons pe_str (pa_cons pe_int pa_nil))) (pa_cons (pe_tup (pa_cons pe_str (pa_cons pe_int pa_nil))) pa_nil))) (pa_cons (pe_lst (pa_cons (pe_tup (pa_cons pe_str (pa_cons pe_int pa_nil))) pa_nil)) (pa_cons (pe_lst (pa_cons (pe_tup (pa_cons pe_str (pa_cons pe_int pa_nil))) pa_nil)) pa_nil)))))) (pg_name (i := 7) sc_law.nd rfl (Or.inl rfl))
    (pss_one (ps_expr (pe_bm PySem.F.plainAttrs_list PySem.F.slot_list_append PySem.F.type_list_append mt_append (mv 6) (pa_cons (pe_ownC (mv 5) LH.sC LH.iC LH.nC F_call bC (hr.mono (by decide)) ps0 (pa_cons (pe_mk c_Log hr (by decide) rfl (pa_cons pe_int (pa_cons (pe_lst (pa_cons pe_str (pa_cons pe_str pa_nil))) (pa_cons (mv 7) pa_nil)))) pa_nil)) pa_nil)))))
    (pss_one (ps_ret (pe_cmpR (op_eqD hr.units) (mv 6) (pe_lst (pa_cons pe_bl (pa_cons pe_bl (pa_cons pe_bl (pa_cons pe_bl pa_nil))))) (nomark _)))))))), ?_⟩
    have np2 : ∀ {p : Addr} {G G' : Hp}, H p = none → Ext H G → Frm [p] G G' → Ext H G' := fun n x f c u h => f c u (x c u h) fun z => ne_of_none h n (List.mem_singleton.mp z)
    refine ⟨fun σ H' => ∃ v1 v2 v3 v4, σ = [some (.ref a), v1, v2, v3, v4, none, none, none] ∧ Ext H H', ?_, ?_⟩
    · refine ⟨_, _, rfl, .inl ⟨_, hS, rfl⟩, _, _, rfl, _, _, rfl, ?_⟩
      rw [List.length_map]
      have hb : 0 ≤ (if (if (ns.length : Int) < 4 then (ns.length : Int) else 4) > 1 then (if (ns.length : Int) < 4 then (ns.length : Int) else 4) else 1) ∧ (if (if (ns.length : Int) < 4 then (ns.length : Int) else 4) > 1 then (if (ns.length : Int) < 4 then (ns.length : Int) else 4) else 1) ≤ 4 := by
        split <;> split <;> omega
      generalize (if (if (ns.length : Int) < 4 then (ns.length : Int) else 4) > 1 then (if (ns.length : Int) < 4 then (ns.length : Int) else 4) else 1) = N at hb ⊢
      refine ⟨_, rfl, by omega, by omega, for_range (lo := 0) (n := N.toNat) (fun i σ H' => ∃ v1 v2 v3 v4, σ = [some (.ref a), v1, v2, v3, v4, none, none, none] ∧ Ext H H') ⟨none, none, none, none, rfl, fun _ _ z => z⟩ ?_ ?_⟩
      · rintro i σ H1 hi ⟨v1, v2, v3, v4, rfl, x1⟩
        refine ⟨a, ns, _, rfl, SqL.ext hS x1, by omega, by omega, hn, fun p o np fo => ?_⟩
        have x2 := x1.trans (Ext.upd (o := o) np)
        have np0 := Ext.free x1 np
        have tp2 : TapeAt 0 (upd H1 p o) p := TapeAt.put fo
        generalize upd H1 p o = H2 at x2 tp2 ⊢
        refine ⟨_, rfl, by omega, by omega, for_range (lo := 0) (n := 2) (fun j σ H' => ∃ v3 v4, σ = [some (.ref a), some (.int (0 + i)), some (.ref p), v3, v4, none, none, none] ∧ Ext H H' ∧ TapeAt (7100 * j) H' p) ⟨_, _, rfl, x2, tp2⟩ ?_ ?_⟩
        · clear x2 tp2 x1
          rintro j σ H3 hj ⟨v3, v4, rfl, x3, tp3⟩
          -- wide
          refine ⟨p, 4, _, rfl, tp3, by omega, by decide, by decide, fun r1 o1 a1 a2 fo1 => ?_⟩
          have x4 := np2 np0 x3 ((Frm.refl (M := [p])).upd (o := o1) mem1)
          have tp4 : TapeAt (7100 * j + 1) (upd H3 p o1) p := TapeAt.put fo1
          generalize upd H3 p o1 = H4 at x4 tp4 ⊢
          refine ⟨⟨by decide, by decide, by decide⟩, (by show 3 ≤ sizeLine; decide), fun q0 hq0 => ?_⟩
          have w5 := Ext.upd (o := .lst [.int 1, .int (1 + r1), .int ((10 : Int) ^ (30 : Int).toNat)]) hq0
          have d5 : (upd H4 q0 (.lst [.int 1, .int (1 + r1), .int ((10 : Int) ^ (30 : Int).toNat)])) q0 = some (.lst [.int 1, .int (1 + r1), .int ((10 : Int) ^ (30 : Int).toNat)]) := upd_same
          have x5 := x4.trans w5
          have tp5 := tp4.keep w5
          have pq0 : q0 ≠ p := by obtain ⟨_, h, _⟩ := tp4; exact (ne_of_none h hq0).symm
          generalize upd H4 q0 (.lst [.int 1, .int (1 + r1), .int ((10 : Int) ^ (30 : Int).toNat)]) = H5 at x5 tp5 d5 ⊢
          refine ⟨p, 3, _, rfl, tp5, by omega, by decide, by decide, fun r3 o3 h0 h1 fo3 => ?_⟩
          obtain ⟨sz, so, at3⟩ : ∃ sz : Int, SizeOk sz ∧ atI [V.int 1, V.int (1 + r1), V.int ((10 : Int) ^ (30 : Int).toNat)] r3 = some (.int sz) := by
            have three : r3 = 0 ∨ r3 = 1 ∨ r3 = 2 := by omega
            rcases three with e | e | e
            · exact ⟨1, ⟨by decide, by decide⟩, by rw [e]; rfl⟩
            · exact ⟨1 + r1, ⟨by omega, by omega⟩, by rw [e]; rfl⟩
            · exact ⟨10 ^ 30, ⟨by decide, by decide⟩, by rw [e]; rfl⟩
          refine ⟨_, .int sz, .inl (SqL.of (by rw [upd_ne pq0]; exact d5)), at3, ?_⟩
          have x6 := np2 np0 x5 ((Frm.refl (M := [p])).upd (o := o3) mem1)
          have tp6 : TapeAt (7100 * j + 1 + 1) (upd H5 p o3) p := TapeAt.put fo3
          generalize upd H5 p o3 = H6 at x6 tp6 ⊢
          -- names
          refine ⟨(by show 2 ≤ sizeLine; decide), fun q1 hq1 => ?_⟩
          have w7 := Ext.upd (o := .lst [.int 3, .int 12]) hq1
          have d7 : (upd H6 q1 (.lst [.int 3, .int 12])) q1 = some (.lst [.int 3, .int 12]) := upd_same
          have x7 := x6.trans w7
          have tp7 := tp6.keep w7
          generalize upd H6 q1 (.lst [.int 3, .int 12]) = H7 at x7 tp7 d7 ⊢
          obtain ⟨most, m1, m2, at7⟩ : ∃ m : Int, 1 ≤ m ∧ m ≤ 12 ∧ atI [V.int 3, V.int 12] (0 + (j : Int)) = some (.int m) := by
            have two : j = 0 ∨ j = 1 := by omega
            rcases two with e | e
            · exact ⟨3, by decide, by decide, by rw [e]; rfl⟩
            · exact ⟨12, by decide, by decide, by rw [e]; rfl⟩
          refine ⟨_, .int most, .inl (SqL.of d7), at7, ?_⟩
          refine ⟨p, most, _, rfl, tp7, by omega, m1, m2, fun H8 ca cn nca hca cr hN tp8 fr8 => ?_⟩
          refine ⟨p, sz, ca, cn, _, rfl, tp8, by omega, so, hca, cr, hN, fun H9 fr9 tp9 => ifF (by rfl) ?_⟩
          exact ⟨_, _, rfl, np2 np0 (np2 np0 x7 fr8) fr9, tp9.mono (by omega)⟩
        · rintro σ H3 ⟨v3, v4, rfl, x3, tp3⟩
          exact ⟨_, _, _, _, rfl, x3⟩
      · rintro σ H1 ⟨v1, v2, v3, v4, rfl, x1⟩
        exact ⟨_, _, _, _, rfl, x1⟩
    rintro σ H1 ⟨v1, v2, v3, v4, rfl, x1⟩
    clear x1
    obtain ⟨t, run, ut⟩ := run_EVS
    -- a history of four events
    refine ⟨(by show 2 ≤ sizeLine; decide), fun l1 n1 => ?_⟩
    have c1 : (upd H1 l1 (.lst [.str "a", .str "b"])) l1 = some (.lst ((["a", "b"] : List Str).map V.str)) := upd_same
    generalize upd H1 l1 (.lst [.str "a", .str "b"]) = G1 at c1 ⊢
    refine ⟨(by show 2 ≤ sizeLine; decide), fun t1 m1 => ?_⟩
    have y1 := Ext.upd (o := .tup [.str "take", .str "b"]) m1
    have e1 : EvAt (upd G1 t1 (.tup [.str "take", .str "b"])) (true, "b") (.ref t1) := ⟨t1, rfl, upd_same⟩
    have c1 := y1 _ _ c1
    generalize upd G1 t1 (.tup [.str "take", .str "b"]) = G2 at c1 e1 ⊢
    refine ⟨(by show 2 ≤ sizeLine; decide), fun t2 m2 => ?_⟩
    have y2 := Ext.upd (o := .tup [.str "take", .str "a"]) m2
    have e2 : EvAt (upd G2 t2 (.tup [.str "take", .str "a"])) (true, "a") (.ref t2) := ⟨t2, rfl, upd_same⟩
    have c1 := y2 _ _ c1
    have e1 := e1.st (TupSt.ext y2)
    generalize upd G2 t2 (.tup [.str "take", .str "a"]) = G3 at c1 e1 e2 ⊢
    refine ⟨(by show 2 ≤ sizeLine; decide), fun t3 m3 => ?_⟩
    have y3 := Ext.upd (o := .tup [.str "use", .str "a"]) m3
    have e3 : EvAt (upd G3 t3 (.tup [.str "use", .str "a"])) (false, "a") (.ref t3) := ⟨t3, rfl, upd_same⟩
    have c1 := y3 _ _ c1
    have e1 := e1.st (TupSt.ext y3)
    have e2 := e2.st (TupSt.ext y3)
    generalize upd G3 t3 (.tup [.str "use", .str "a"]) = G4 at c1 e1 e2 e3 ⊢
    refine ⟨(by show 2 ≤ sizeLine; decide), fun t4 m4 => ?_⟩
    have y4 := Ext.upd (o := .tup [.str "use", .str "b"]) m4
    have e4 : EvAt (upd G4 t4 (.tup [.str "use", .str "b"])) (false, "b") (.ref t4) := ⟨t4, rfl, upd_same⟩
    have c1 := y4 _ _ c1
    have e1 := e1.st (TupSt.ext y4)
    have e2 := e2.st (TupSt.ext y4)
    have e3 := e3.st (TupSt.ext y4)
    generalize upd G4 t4 (.tup [.str "use", .str "b"]) = G5 at c1 e1 e2 e3 e4 ⊢
    refine ⟨(by show 4 ≤ sizeLine; decide), fun l2 m5 => ?_⟩
    have y5 := Ext.upd (o := .lst [.ref t1, .ref t2, .ref t3, .ref t4]) m5
    have el5 : EvL (upd G5 l2 (.lst [.ref t1, .ref t2, .ref t3, .ref t4])) EVS [.ref t1, .ref t2, .ref t3, .ref t4] := EvL.all (.cons e1 (.cons e2 (.cons e3 (.cons e4 .nil)))) y5
    have c1 := y5 _ _ c1
    have c2 : (upd G5 l2 (.lst [.ref t1, .ref t2, .ref t3, .ref t4])) l2 = some (.lst [.ref t1, .ref t2, .ref t3, .ref t4]) := upd_same
    generalize upd G5 l2 (.lst [.ref t1, .ref t2, .ref t3, .ref t4]) = G6 at c1 c2 el5 ⊢
    have so : SizeOk 2 := ⟨by decide, by decide⟩
    intro h dx nh ndx ne
    refine his_R (t := t) nh ndx ne so c1 AB_crew c2 el5 (by decide) (by decide +kernel) run fun G7 hh _ => ?_
    clear c1 c2 el5
    -- told
    refine ⟨Nat.zero_le _, fun to nto => ?_⟩
    have hh0 := hh
    have x8 := Ext.upd (o := .lst []) nto
    have d8 : (upd G7 to (.lst [])) to = some (.lst []) := upd_same
    generalize upd G7 to (.lst []) = G8 at x8 d8 ⊢
    -- the rows
    refine ⟨(by show 2 ≤ sizeLine; decide), fun u1 k1 => ?_⟩
    have z1 := Ext.upd (o := .tup [.str "a", .int 2]) k1
    have f1 : EntAt (upd G8 u1 (.tup [.str "a", .int 2])) ("a", 2) (.ref u1) := ⟨u1, rfl, upd_same⟩
    have x8 := x8.trans z1
    have d8 := z1 _ _ d8
    generalize upd G8 u1 (.tup [.str "a", .int 2]) = G9 at x8 d8 f1 ⊢
    refine ⟨(by show 2 ≤ sizeLine; decide), fun u2 k2 => ?_⟩
    have z2 := Ext.upd (o := .tup [.str "b", .int 0]) k2
    have f2 : EntAt (upd G9 u2 (.tup [.str "b", .int 0])) ("b", 0) (.ref u2) := ⟨u2, rfl, upd_same⟩
    have x8 := x8.trans z2
    have d8 := z2 _ _ d8
    have f1 := f1.mono z2
    generalize upd G9 u2 (.tup [.str "b", .int 0]) = G10 at x8 d8 f1 f2 ⊢
    refine ⟨(by show 2 ≤ sizeLine; decide), fun L1 nL1 => ?_⟩
    have w1 := Ext.upd (o := .lst [.ref u1, .ref u2]) nL1
    have r1 : RowAt (upd G10 L1 (.lst [.ref u1, .ref u2])) L1 [("a", 2), ("b", 0)] := ⟨_, upd_same, EntL.mono (.cons f1 (.cons f2 .nil)) w1⟩
    have ne1 : L1 ≠ to := (ne_of_none d8 nL1).symm
    have x8 := x8.trans w1
    have d8 := w1 _ _ d8
    generalize upd G10 L1 (.lst [.ref u1, .ref u2]) = G11 at x8 d8 r1 ⊢
    refine ⟨(by show 2 ≤ sizeLine; decide), fun u3 k3 => ?_⟩
    have z3 := Ext.upd (o := .tup [.str "b", .int 0]) k3
    have f3 : EntAt (upd G11 u3 (.tup [.str "b", .int 0])) ("b", 0) (.ref u3) := ⟨u3, rfl, upd_same⟩
    have x8 := x8.trans z3
    have d8 := z3 _ _ d8
    have r1 := r1.mono z3
    generalize upd G11 u3 (.tup [.str "b", .int 0]) = G12 at x8 d8 r1 f3 ⊢
    refine ⟨(by show 2 ≤ sizeLine; decide), fun u4 k4 => ?_⟩
    have z4 := Ext.upd (o := .tup [.str "a", .int 2]) k4
    have f4 : EntAt (upd G12 u4 (.tup [.str "a", .int 2])) ("a", 2) (.ref u4) := ⟨u4, rfl, upd_same⟩
    have x8 := x8.trans z4
    have d8 := z4 _ _ d8
    have r1 := r1.mono z4
    have f3 := f3.mono z4
    generalize upd G12 u4 (.tup [.str "a", .int 2]) = G13 at x8 d8 r1 f3 f4 ⊢
    refine ⟨(by show 2 ≤ sizeLine; decide), fun L2 nL2 => ?_⟩
    have w2 := Ext.upd (o := .lst [.ref u3, .ref u4]) nL2
    have r2 : RowAt (upd G13 L2 (.lst [.ref u3, .ref u4])) L2 [("b", 0), ("a", 2)] := ⟨_, upd_same, EntL.mono (.cons f3 (.cons f4 .nil)) w2⟩
    have ne2 : L2 ≠ to := (ne_of_none d8 nL2).symm
    have x8 := x8.trans w2
    have d8 := w2 _ _ d8
    have r1 := r1.mono w2
    generalize upd G13 L2 (.lst [.ref u3, .ref u4]) = G14 at x8 d8 r1 r2 ⊢
    refine ⟨(by show 2 ≤ sizeLine; decide), fun u5 k5 => ?_⟩
    have z5 := Ext.upd (o := .tup [.str "b", .int 0]) k5
    have f5 : EntAt (upd G14 u5 (.tup [.str "b", .int 0])) ("b", 0) (.ref u5) := ⟨u5, rfl, upd_same⟩
    have x8 := x8.trans z5
    have d8 := z5 _ _ d8
    have r1 := r1.mono z5
    have r2 := r2.mono z5
    generalize upd G14 u5 (.tup [.str "b", .int 0]) = G15 at x8 d8 r1 r2 f5 ⊢
    refine ⟨(by show 1 ≤ sizeLine; decide), fun L3 nL3 => ?_⟩
    have w3 := Ext.upd (o := .lst [.ref u5]) nL3
    have r3 : RowAt (upd G15 L3 (.lst [.ref u5])) L3 [("b", 0)] := ⟨_, upd_same, EntL.mono (.cons f5 .nil) w3⟩
    have ne3 : L3 ≠ to := (ne_of_none d8 nL3).symm
    have x8 := x8.trans w3
    have d8 := w3 _ _ d8
    have r1 := r1.mono w3
    have r2 := r2.mono w3
    generalize upd G15 L3 (.lst [.ref u5]) = G16 at x8 d8 r1 r2 r3 ⊢
    refine ⟨(by show 2 ≤ sizeLine; decide), fun u6 k6 => ?_⟩
    have z6 := Ext.upd (o := .tup [.str "b", .int 1]) k6
    have f6 : EntAt (upd G16 u6 (.tup [.str "b", .int 1])) ("b", 1) (.ref u6) := ⟨u6, rfl, upd_same⟩
    have x8 := x8.trans z6
    have d8 := z6 _ _ d8
    have r1 := r1.mono z6
    have r2 := r2.mono z6
    have r3 := r3.mono z6
    generalize upd G16 u6 (.tup [.str "b", .int 1]) = G17 at x8 d8 r1 r2 r3 f6 ⊢
    refine ⟨(by show 1 ≤ sizeLine; decide), fun L4 nL4 => ?_⟩
    have w4 := Ext.upd (o := .lst [.ref u6]) nL4
    have r4 : RowAt (upd G17 L4 (.lst [.ref u6])) L4 [("b", 1)] := ⟨_, upd_same, EntL.mono (.cons f6 .nil) w4⟩
    have ne4 : L4 ≠ to := (ne_of_none d8 nL4).symm
    have x8 := x8.trans w4
    have d8 := w4 _ _ d8
    have r1 := r1.mono w4
    have r2 := r2.mono w4
    have r3 := r3.mono w4
    generalize upd G17 L4 (.lst [.ref u6]) = G18 at x8 d8 r1 r2 r3 r4 ⊢
    refine ⟨(by show 4 ≤ sizeLine; decide), fun lo nlo => ?_⟩
    have wo := Ext.upd (o := .lst [.ref L1, .ref L2, .ref L3, .ref L4]) nlo
    have co : (upd G18 lo (.lst [.ref L1, .ref L2, .ref L3, .ref L4])) lo = some (.lst [.ref L1, .ref L2, .ref L3, .ref L4]) := upd_same
    have lo_to : lo ≠ to := (ne_of_none d8 nlo).symm
    have x8 := x8.trans wo
    have d8 := wo _ _ d8
    have r1 := r1.mono wo
    have r2 := r2.mono wo
    have r3 := r3.mono wo
    have r4 := r4.mono wo
    generalize upd G18 lo (.lst [.ref L1, .ref L2, .ref L3, .ref L4]) = G at co x8 d8 r1 r2 r3 r4 ⊢
    have pr : Paired (fun (x : List (Str × Int) × Bool) v => ∃ L, v = V.ref L ∧ RowAt G L x.1 ∧ L ≠ to) RD [.ref L1, .ref L2, .ref L3, .ref L4] := .cons ⟨L1, rfl, r1, ne1⟩ (.cons ⟨L2, rfl, r2, ne2⟩ (.cons ⟨L3, rfl, r3, ne3⟩ (.cons ⟨L4, rfl, r4, ne4⟩ .nil)))
    refine ⟨lo, rfl, ⟨_, SqL.of co⟩, for_list (K := K) (a := lo) (xs := [.ref L1, .ref L2, .ref L3, .ref L4]) (fun j σ H' => ∃ v7, σ = [some (.ref a), v1, v2, v3, v4, some (.ref h), some (.ref to), v7] ∧ H' to = some (.lst ((RD.take j).map fun x => V.bl x.2)) ∧ Frm [to] G H') ⟨_, rfl, d8, Frm.refl⟩ ?_ ?_ ?_⟩
    · rintro j σ H' _ ⟨_, rfl, _, fr⟩
      exact SqL.of (fr _ _ co (fun z => lo_to (List.mem_singleton.mp z)))
    · rintro j y σ H' hy ⟨v7, rfl, hto, fr⟩
      obtain ⟨⟨es, b⟩, hx, L, rfl, ⟨xs, hL, el⟩, Lt⟩ := pAt pr hy
      have mem := List.mem_of_getElem? hx
      have hj : j < 4 := (List.getElem?_eq_some_iff.mp hy).1
      have hb : decide (seenN es 0 USS = es.length) = b := RD_ok _ mem
      obtain ⟨q1, q2⟩ := RD_ents _ mem
      have xt : Ext G7 H' := fun c u hc => fr _ _ (x8 _ _ hc) fun z => by rw [List.mem_singleton.mp z, nto] at hc; cases hc
      have hL' := fr _ _ hL (fun z => Lt (List.mem_singleton.mp z))
      have el' := EntL.st el (Frm.tups fr d8 (fun _ z => nomatch z))
      have nbe : ∀ e ∈ es, nameB e.1 = true := fun e he => AB_crew.nam _ (q2 e he).1
      refine ⟨.inl ⟨rfl, _, SqL.of hto⟩, h, rfl, (by show 2 ≤ sizeLine; decide), fun l3 n3 => fun x dx nx ndx ne => ?_⟩
      have s1 := Ext.upd (o := .lst [.str "a", .str "b"]) n3
      refine init_R (ns := (["a", "b"] : List Str)) (es := es) nx ndx ne so upd_same AB_crew (s1 _ _ hL') (EntL.mono el' s1) ⟨q1, q2⟩ fun K1 lg s2 => ?_
      have s12 := s1.trans s2
      have hh1 := hh.mono (xt.trans s12)
      obtain ⟨_, _, hins⟩ := hh1.ins
      have j2 : CallJ K cL A0 K1 2 (["a", "b"] : List Str) t (.ref x) b := by
        have j := CallJ.log (sz := 2) (ns := (["a", "b"] : List Str)) (s := t) lg S.ML AB_crew.few AB_crew.nam nbe
        rw [ut] at j
        have e : decide ((2 : Int) = 2 ∧ (["a", "b"] : List Str) = (["a", "b"] : List Str) ∧ seenN es 0 USS = es.length) = b := by
          rw [← hb]
          exact decide_eq_decide.mpr ⟨fun h => h.2.2, fun h => ⟨rfl, rfl, h⟩⟩
        rw [e] at j
        exact j
      have nbu : ∀ e ∈ t.us, nameB e.1 = true := by rw [ut]; decide +kernel
      refine ⟨_, _, hins, h, 2, (["a", "b"] : List Str), t, .ref x, b, rfl, hh1, j2, AB_crew.few, AB_crew.nam, nbu, fun K2 s3 => ?_⟩
      have s13 := s12.trans s3
      refine ⟨to, _, _, rfl, rfl, s13 _ _ hto, ?_, _, rfl, ?_, (fr.trans (Frm.ext s13)).upd mem1⟩
      · rw [List.length_map]
        exact Nat.lt_of_le_of_lt (List.length_take_le _ _) (Nat.lt_of_le_of_lt (show j ≤ 4 by omega) (by decide))
      · rw [upd_same, List.take_succ, hx, List.map_append]; rfl
    · rintro σ H' ⟨v7, rfl, hto, fr⟩
      refine ⟨(by show 4 ≤ sizeLine; decide), fun m9 hm9 => ?_⟩
      have w9 := Ext.upd (o := .lst [.bl true, .bl false, .bl true, .bl false]) hm9
      refine ⟨.list [.bool true, .bool false, .bool true, .bool false], .list [.bool true, .bool false, .bool true, .bool false], .lst (SqL.of (w9 _ _ hto)) (.cons (.bl _) (.cons (.bl _) (.cons (.bl _) (.cons (.bl _) .nil)))), .lst (SqL.of upd_same) (.cons (.bl _) (.cons (.bl _) (.cons (.bl _) (.cons (.bl _) .nil)))), (by decide), (by decide), ?_⟩
      have e : PyData.eqv (.list [.bool true, .bool false, .bool true, .bool false]) (.list [.bool true, .bool false, .bool true, .bool false]) = true := by decide
      rw [e]
      exact k _
end
end NB

set_option Elab.async false
set_option linter.all false
set_option maxRecDepth 100000
set_option maxHeartbeats 0
/-! K7: what the top must have, from its facts -/
namespace NB
open PySem PySem.Spec L2
open PyProof.Rows (envOfC)
open C8 (pe_c pe_mk pe_mt pe_mt0 pe_gc fnScope fnBody fnArgs fnScope_by Cal Met Mak)

theorem kit_same {K : PySem.W.Frag} {C : Addr} : PySem.W.kitOne K (.ref C) (.ref C) = some true := by
  unfold PySem.W.kitOne
  rw [if_pos (by simp)]
theorem kit_ref {K : PySem.W.Frag} {C : Addr} {t : Value} {b : Bool} (h1 : PySem.W.isClsIn K C = true) (h2 : PySem.W.typeIn K (.ref C) = some (.type "type")) (h3 : PySem.W.subIn K t (.ref C) = some b) (h4 : (t == Value.ref C) = false) : PySem.W.kitOne K t (.ref C) = some b := by
  unfold PySem.W.kitOne PySem.W.kitCls
  rw [if_neg (by rw [h4]; exact Bool.false_ne_true)]
  unfold PySem.W.isClsIn at h1
  simp only [h1, h2, h3, Bool.true_and, beq_self_eq_true, if_true]
theorem kit_tyR {K : PySem.W.Frag} {C : Addr} {x : String} {b : Bool} (h : PySem.W.subIn K (.ref C) (.type x) = some b) (hm : PySem.W.kitMeta x = true) : PySem.W.kitOne K (.ref C) (.type x) = some b := by
  unfold PySem.W.kitOne PySem.W.kitCls
  rw [if_neg (by simp)]
  simp only [hm, h, if_true]
theorem nf_of {K : PySem.W.Frag} {C : Addr} {t : Value} (h : PySem.W.subIn K t (.ref C) = some false) : PySem.W.notFirst K C t = true := by
  unfold PySem.W.notFirst
  rw [h]
  simp
theorem all_mk {P : Program} {w : World} {K : PySem.W.Frag} {h : Heap} {mg : Str → Option Value} {fa : Addr} (X : K.In h) (G : h.Ns mainGlobals mg) (hfa : mg "law" = some (.ref fa))
    {f_is_integer f_is_size f_is_name f_are_servers f_is_server f_is_entry f_are_entries f__law_tape f__law_next f__law_names f__law_played f__law_events f__law_is_shown f__law_rows f__law_right f_law cL cX cD cH fMI pZ fMZ pV fMV pE fME fMDI fMDT fMDU fMDP fMHI fMHC : Addr} {od_is_integer an_is_integer od_is_size an_is_size od_is_name an_is_name od_are_servers an_are_servers od_is_server an_is_server od_is_entry an_is_entry od_are_entries an_are_entries od__law_tape an__law_tape od__law_next an__law_next od__law_names an__law_names od__law_played an__law_played od__law_events an__law_events od__law_is_shown an__law_is_shown od__law_rows an__law_rows od__law_right an__law_right od_law an_law odMI anMI odMZ anMZ odMV anMV odME anME odMDI anMDI odMDT anMDT odMDU anMDU odMDP anMDP odMHI anMHI odMHC anMHC : Option Addr} {sl_is_integer sl_is_size sl_is_name sl_are_servers sl_is_server sl_is_entry sl_are_entries sl__law_tape sl__law_next sl__law_names sl__law_played sl__law_events sl__law_is_shown sl__law_rows sl__law_right sl_law slMI slMZ slMV slME slMDI slMDT slMDU slMDP slMHI slMHC : Array (Option Value)} {oc_is_integer kV_is_integer dc_is_integer pm_is_integer cd_is_integer ct_is_integer oc_is_size kV_is_size dc_is_size pm_is_size cd_is_size ct_is_size oc_is_name kV_is_name dc_is_name pm_is_name cd_is_name ct_is_name oc_are_servers kV_are_servers dc_are_servers pm_are_servers cd_are_servers ct_are_servers oc_is_server kV_is_server dc_is_server pm_is_server cd_is_server ct_is_server oc_is_entry kV_is_entry dc_is_entry pm_is_entry cd_is_entry ct_is_entry oc_are_entries kV_are_entries dc_are_entries pm_are_entries cd_are_entries ct_are_entries oc__law_tape kV__law_tape dc__law_tape pm__law_tape cd__law_tape ct__law_tape oc__law_next kV__law_next dc__law_next pm__law_next cd__law_next ct__law_next oc__law_names kV__law_names dc__law_names pm__law_names cd__law_names ct__law_names oc__law_played kV__law_played dc__law_played pm__law_played cd__law_played ct__law_played oc__law_events kV__law_events dc__law_events pm__law_events cd__law_events ct__law_events oc__law_is_shown kV__law_is_shown dc__law_is_shown pm__law_is_shown cd__law_is_shown ct__law_is_shown oc__law_rows kV__law_rows dc__law_rows pm__law_rows cd__law_rows ct__law_rows oc__law_right kV__law_right dc__law_right pm__law_right cd__law_right ct__law_right oc_law kV_law dc_law pm_law cd_law ct_law ocMI kVMI dcMI pmMI cdMI ctMI ocMZ kVMZ dcMZ pmMZ cdMZ ctMZ ocMV kVMV dcMV pmMV cdMV ctMV ocME kVME dcME pmME cdME ctME ocMDI kVMDI dcMDI pmMDI cdMDI ctMDI ocMDT kVMDT dcMDT pmMDT cdMDT ctMDT ocMDU kVMDU dcMDU pmMDU cdMDU ctMDU ocMDP kVMDP dcMDP pmMDP cdMDP ctMDP ocMHI kVMHI dcMHI pmMHI cdMHI ctMHI ocMHC kVMHC dcMHC pmMHC cdMHC ctMHC : Value} {tk0 tk1 tk2 tk3 tk4 ts0 ts1 ts4 ts5 ts6 ts7 : Tok} {rsZ rsV rsE : List Value}
    (a_is_integer : PySem.W.nsIn K mainGlobals "is_integer" = some (some (.ref f_is_integer)))
    (l_is_integer : K.lookup f_is_integer = some ⟨oc_is_integer, od_is_integer, .func (PySem.W.fnOf "is_integer" "is_integer" (fnArgs s_is_integer) (fnBody s_is_integer) (fnScope s_is_integer) .none kV_is_integer dc_is_integer pm_is_integer an_is_integer cd_is_integer ct_is_integer), sl_is_integer⟩)
    (c_is_integer : PySem.W.codeIn K cd_is_integer "is_integer" = true)
    (k_is_integer : PySem.W.keepIn K (.ref f_is_integer) = true)
    (a_is_size : PySem.W.nsIn K mainGlobals "is_size" = some (some (.ref f_is_size)))
    (l_is_size : K.lookup f_is_size = some ⟨oc_is_size, od_is_size, .func (PySem.W.fnOf "is_size" "is_size" (fnArgs s_is_size) (fnBody s_is_size) (fnScope s_is_size) .none kV_is_size dc_is_size pm_is_size an_is_size cd_is_size ct_is_size), sl_is_size⟩)
    (c_is_size : PySem.W.codeIn K cd_is_size "is_size" = true)
    (k_is_size : PySem.W.keepIn K (.ref f_is_size) = true)
    (a_is_name : PySem.W.nsIn K mainGlobals "is_name" = some (some (.ref f_is_name)))
    (l_is_name : K.lookup f_is_name = some ⟨oc_is_name, od_is_name, .func (PySem.W.fnOf "is_name" "is_name" (fnArgs s_is_name) (fnBody s_is_name) (fnScope s_is_name) .none kV_is_name dc_is_name pm_is_name an_is_name cd_is_name ct_is_name), sl_is_name⟩)
    (c_is_name : PySem.W.codeIn K cd_is_name "is_name" = true)
    (k_is_name : PySem.W.keepIn K (.ref f_is_name) = true)
    (a_are_servers : PySem.W.nsIn K mainGlobals "are_servers" = some (some (.ref f_are_servers)))
    (l_are_servers : K.lookup f_are_servers = some ⟨oc_are_servers, od_are_servers, .func (PySem.W.fnOf "are_servers" "are_servers" (fnArgs s_are_servers) (fnBody s_are_servers) (fnScope s_are_servers) .none kV_are_servers dc_are_servers pm_are_servers an_are_servers cd_are_servers ct_are_servers), sl_are_servers⟩)
    (c_are_servers : PySem.W.codeIn K cd_are_servers "are_servers" = true)
    (k_are_servers : PySem.W.keepIn K (.ref f_are_servers) = true)
    (a_is_server : PySem.W.nsIn K mainGlobals "is_server" = some (some (.ref f_is_server)))
    (l_is_server : K.lookup f_is_server = some ⟨oc_is_server, od_is_server, .func (PySem.W.fnOf "is_server" "is_server" (fnArgs s_is_server) (fnBody s_is_server) (fnScope s_is_server) .none kV_is_server dc_is_server pm_is_server an_is_server cd_is_server ct_is_server), sl_is_server⟩)
    (c_is_server : PySem.W.codeIn K cd_is_server "is_server" = true)
    (k_is_server : PySem.W.keepIn K (.ref f_is_server) = true)
    (a_is_entry : PySem.W.nsIn K mainGlobals "is_entry" = some (some (.ref f_is_entry)))
    (l_is_entry : K.lookup f_is_entry = some ⟨oc_is_entry, od_is_entry, .func (PySem.W.fnOf "is_entry" "is_entry" (fnArgs s_is_entry) (fnBody s_is_entry) (fnScope s_is_entry) .none kV_is_entry dc_is_entry pm_is_entry an_is_entry cd_is_entry ct_is_entry), sl_is_entry⟩)
    (c_is_entry : PySem.W.codeIn K cd_is_entry "is_entry" = true)
    (k_is_entry : PySem.W.keepIn K (.ref f_is_entry) = true)
    (a_are_entries : PySem.W.nsIn K mainGlobals "are_entries" = some (some (.ref f_are_entries)))
    (l_are_entries : K.lookup f_are_entries = some ⟨oc_are_entries, od_are_entries, .func (PySem.W.fnOf "are_entries" "are_entries" (fnArgs s_are_entries) (fnBody s_are_entries) (fnScope s_are_entries) .none kV_are_entries dc_are_entries pm_are_entries an_are_entries cd_are_entries ct_are_entries), sl_are_entries⟩)
    (c_are_entries : PySem.W.codeIn K cd_are_entries "are_entries" = true)
    (k_are_entries : PySem.W.keepIn K (.ref f_are_entries) = true)
    (a__law_tape : PySem.W.nsIn K mainGlobals "_law_tape" = some (some (.ref f__law_tape)))
    (l__law_tape : K.lookup f__law_tape = some ⟨oc__law_tape, od__law_tape, .func (PySem.W.fnOf "_law_tape" "_law_tape" (fnArgs s__law_tape) (fnBody s__law_tape) (fnScope s__law_tape) .none kV__law_tape dc__law_tape pm__law_tape an__law_tape cd__law_tape ct__law_tape), sl__law_tape⟩)
    (c__law_tape : PySem.W.codeIn K cd__law_tape "_law_tape" = true)
    (k__law_tape : PySem.W.keepIn K (.ref f__law_tape) = true)
    (a__law_next : PySem.W.nsIn K mainGlobals "_law_next" = some (some (.ref f__law_next)))
    (l__law_next : K.lookup f__law_next = some ⟨oc__law_next, od__law_next, .func (PySem.W.fnOf "_law_next" "_law_next" (fnArgs s__law_next) (fnBody s__law_next) (fnScope s__law_next) .none kV__law_next dc__law_next pm__law_next an__law_next cd__law_next ct__law_next), sl__law_next⟩)
    (c__law_next : PySem.W.codeIn K cd__law_next "_law_next" = true)
    (k__law_next : PySem.W.keepIn K (.ref f__law_next) = true)
    (a__law_names : PySem.W.nsIn K mainGlobals "_law_names" = some (some (.ref f__law_names)))
    (l__law_names : K.lookup f__law_names = some ⟨oc__law_names, od__law_names, .func (PySem.W.fnOf "_law_names" "_law_names" (fnArgs s__law_names) (fnBody s__law_names) (fnScope s__law_names) .none kV__law_names dc__law_names pm__law_names an__law_names cd__law_names ct__law_names), sl__law_names⟩)
    (c__law_names : PySem.W.codeIn K cd__law_names "_law_names" = true)
    (k__law_names : PySem.W.keepIn K (.ref f__law_names) = true)
    (a__law_played : PySem.W.nsIn K mainGlobals "_law_played" = some (some (.ref f__law_played)))
    (l__law_played : K.lookup f__law_played = some ⟨oc__law_played, od__law_played, .func (PySem.W.fnOf "_law_played" "_law_played" (fnArgs s__law_played) (fnBody s__law_played) (fnScope s__law_played) .none kV__law_played dc__law_played pm__law_played an__law_played cd__law_played ct__law_played), sl__law_played⟩)
    (c__law_played : PySem.W.codeIn K cd__law_played "_law_played" = true)
    (k__law_played : PySem.W.keepIn K (.ref f__law_played) = true)
    (a__law_events : PySem.W.nsIn K mainGlobals "_law_events" = some (some (.ref f__law_events)))
    (l__law_events : K.lookup f__law_events = some ⟨oc__law_events, od__law_events, .func (PySem.W.fnOf "_law_events" "_law_events" (fnArgs s__law_events) (fnBody s__law_events) (fnScope s__law_events) .none kV__law_events dc__law_events pm__law_events an__law_events cd__law_events ct__law_events), sl__law_events⟩)
    (c__law_events : PySem.W.codeIn K cd__law_events "_law_events" = true)
    (k__law_events : PySem.W.keepIn K (.ref f__law_events) = true)
    (a__law_is_shown : PySem.W.nsIn K mainGlobals "_law_is_shown" = some (some (.ref f__law_is_shown)))
    (l__law_is_shown : K.lookup f__law_is_shown = some ⟨oc__law_is_shown, od__law_is_shown, .func (PySem.W.fnOf "_law_is_shown" "_law_is_shown" (fnArgs s__law_is_shown) (fnBody s__law_is_shown) (fnScope s__law_is_shown) .none kV__law_is_shown dc__law_is_shown pm__law_is_shown an__law_is_shown cd__law_is_shown ct__law_is_shown), sl__law_is_shown⟩)
    (c__law_is_shown : PySem.W.codeIn K cd__law_is_shown "_law_is_shown" = true)
    (k__law_is_shown : PySem.W.keepIn K (.ref f__law_is_shown) = true)
    (a__law_rows : PySem.W.nsIn K mainGlobals "_law_rows" = some (some (.ref f__law_rows)))
    (l__law_rows : K.lookup f__law_rows = some ⟨oc__law_rows, od__law_rows, .func (PySem.W.fnOf "_law_rows" "_law_rows" (fnArgs s__law_rows) (fnBody s__law_rows) (fnScope s__law_rows) .none kV__law_rows dc__law_rows pm__law_rows an__law_rows cd__law_rows ct__law_rows), sl__law_rows⟩)
    (c__law_rows : PySem.W.codeIn K cd__law_rows "_law_rows" = true)
    (k__law_rows : PySem.W.keepIn K (.ref f__law_rows) = true)
    (a__law_right : PySem.W.nsIn K mainGlobals "_law_right" = some (some (.ref f__law_right)))
    (l__law_right : K.lookup f__law_right = some ⟨oc__law_right, od__law_right, .func (PySem.W.fnOf "_law_right" "_law_right" (fnArgs s__law_right) (fnBody s__law_right) (fnScope s__law_right) .none kV__law_right dc__law_right pm__law_right an__law_right cd__law_right ct__law_right), sl__law_right⟩)
    (c__law_right : PySem.W.codeIn K cd__law_right "_law_right" = true)
    (k__law_right : PySem.W.keepIn K (.ref f__law_right) = true)
    (a_law : PySem.W.nsIn K mainGlobals "law" = some (some (.ref f_law)))
    (l_law : K.lookup f_law = some ⟨oc_law, od_law, .func (PySem.W.fnOf "law" "law" (fnArgs s_law) (fnBody s_law) (fnScope s_law) .none kV_law dc_law pm_law an_law cd_law ct_law), sl_law⟩)
    (c_law : PySem.W.codeIn K cd_law "law" = true)
    (k_law : PySem.W.keepIn K (.ref f_law) = true)
    (gL : PySem.W.nsIn K mainGlobals "Log" = some (some (.ref cL)))
    (gX : PySem.W.nsIn K mainGlobals "LosingLog" = some (some (.ref cX)))
    (gD : PySem.W.nsIn K mainGlobals "Desk" = some (some (.ref cD)))
    (gH : PySem.W.nsIn K mainGlobals "History" = some (some (.ref cH)))
    (mLI : PySem.W.findIn K (.ref cL) "__init__" = some (some (.ref fMI)))
    (mXI : PySem.W.findIn K (.ref cX) "__init__" = some (some (.ref fMI)))
    (miI : PySem.W.isFn K (.ref fMI) = true)
    (lMI : K.lookup fMI = some ⟨ocMI, odMI, .func (PySem.W.fnOf "__init__" "Log.__init__" (fnArgs s_Log___init__) (fnBody s_Log___init__) (fnScope s_Log___init__) .none kVMI dcMI pmMI anMI cdMI ctMI), slMI⟩)
    (cMI : PySem.W.codeIn K cdMI "Log.__init__" = true)
    (pZL : PySem.W.findIn K (.ref cL) "size" = some (some (.ref pZ)))
    (pZX : PySem.W.findIn K (.ref cX) "size" = some (some (.ref pZ)))
    (pgZ : PySem.W.specialIn K (.ref pZ) "__get__" = some (some (.builtin "property.__get__")))
    (ptZ : PySem.W.takesIn K (.ref pZ) = some true)
    (prZ : PySem.W.recIn K pZ "property" = some (.ref fMZ :: rsZ))
    (lMZ : K.lookup fMZ = some ⟨ocMZ, odMZ, .func (PySem.W.fnOf "size" "Log.size" (fnArgs s_Log_size) (fnBody s_Log_size) (fnScope s_Log_size) .none kVMZ dcMZ pmMZ anMZ cdMZ ctMZ), slMZ⟩)
    (cMZ : PySem.W.codeIn K cdMZ "Log.size" = true)
    (pVL : PySem.W.findIn K (.ref cL) "servers" = some (some (.ref pV)))
    (pVX : PySem.W.findIn K (.ref cX) "servers" = some (some (.ref pV)))
    (pgV : PySem.W.specialIn K (.ref pV) "__get__" = some (some (.builtin "property.__get__")))
    (ptV : PySem.W.takesIn K (.ref pV) = some true)
    (prV : PySem.W.recIn K pV "property" = some (.ref fMV :: rsV))
    (lMV : K.lookup fMV = some ⟨ocMV, odMV, .func (PySem.W.fnOf "servers" "Log.servers" (fnArgs s_Log_servers) (fnBody s_Log_servers) (fnScope s_Log_servers) .none kVMV dcMV pmMV anMV cdMV ctMV), slMV⟩)
    (cMV : PySem.W.codeIn K cdMV "Log.servers" = true)
    (pEL : PySem.W.findIn K (.ref cL) "entries" = some (some (.ref pE)))
    (pEX : PySem.W.findIn K (.ref cX) "entries" = some (some (.ref pE)))
    (pgE : PySem.W.specialIn K (.ref pE) "__get__" = some (some (.builtin "property.__get__")))
    (ptE : PySem.W.takesIn K (.ref pE) = some true)
    (prE : PySem.W.recIn K pE "property" = some (.ref fME :: rsE))
    (lME : K.lookup fME = some ⟨ocME, odME, .func (PySem.W.fnOf "entries" "Log.entries" (fnArgs s_Log_entries) (fnBody s_Log_entries) (fnScope s_Log_entries) .none kVME dcME pmME anME cdME ctME), slME⟩)
    (cME : PySem.W.codeIn K cdME "Log.entries" = true)
    (mDI : PySem.W.findIn K (.ref cD) "__init__" = some (some (.ref fMDI)))
    (miDI : PySem.W.isFn K (.ref fMDI) = true)
    (lMDI : K.lookup fMDI = some ⟨ocMDI, odMDI, .func (PySem.W.fnOf "__init__" "Desk.__init__" (fnArgs s_Desk___init__) (fnBody s_Desk___init__) (fnScope s_Desk___init__) .none kVMDI dcMDI pmMDI anMDI cdMDI ctMDI), slMDI⟩)
    (cMDI : PySem.W.codeIn K cdMDI "Desk.__init__" = true)
    (mDT : PySem.W.findIn K (.ref cD) "take" = some (some (.ref fMDT)))
    (miDT : PySem.W.isFn K (.ref fMDT) = true)
    (lMDT : K.lookup fMDT = some ⟨ocMDT, odMDT, .func (PySem.W.fnOf "take" "Desk.take" (fnArgs s_Desk_take) (fnBody s_Desk_take) (fnScope s_Desk_take) .none kVMDT dcMDT pmMDT anMDT cdMDT ctMDT), slMDT⟩)
    (cMDT : PySem.W.codeIn K cdMDT "Desk.take" = true)
    (mDU : PySem.W.findIn K (.ref cD) "use" = some (some (.ref fMDU)))
    (miDU : PySem.W.isFn K (.ref fMDU) = true)
    (lMDU : K.lookup fMDU = some ⟨ocMDU, odMDU, .func (PySem.W.fnOf "use" "Desk.use" (fnArgs s_Desk_use) (fnBody s_Desk_use) (fnScope s_Desk_use) .none kVMDU dcMDU pmMDU anMDU cdMDU ctMDU), slMDU⟩)
    (cMDU : PySem.W.codeIn K cdMDU "Desk.use" = true)
    (mDP : PySem.W.findIn K (.ref cD) "play" = some (some (.ref fMDP)))
    (miDP : PySem.W.isFn K (.ref fMDP) = true)
    (lMDP : K.lookup fMDP = some ⟨ocMDP, odMDP, .func (PySem.W.fnOf "play" "Desk.play" (fnArgs s_Desk_play) (fnBody s_Desk_play) (fnScope s_Desk_play) .none kVMDP dcMDP pmMDP anMDP cdMDP ctMDP), slMDP⟩)
    (cMDP : PySem.W.codeIn K cdMDP "Desk.play" = true)
    (mHI : PySem.W.findIn K (.ref cH) "__init__" = some (some (.ref fMHI)))
    (miHI : PySem.W.isFn K (.ref fMHI) = true)
    (lMHI : K.lookup fMHI = some ⟨ocMHI, odMHI, .func (PySem.W.fnOf "__init__" "History.__init__" (fnArgs s_History___init__) (fnBody s_History___init__) (fnScope s_History___init__) .none kVMHI dcMHI pmMHI anMHI cdMHI ctMHI), slMHI⟩)
    (cMHI : PySem.W.codeIn K cdMHI "History.__init__" = true)
    (mHC : PySem.W.findIn K (.ref cH) "__call__" = some (some (.ref fMHC)))
    (miHC : PySem.W.isFn K (.ref fMHC) = true)
    (lMHC : K.lookup fMHC = some ⟨ocMHC, odMHC, .func (PySem.W.fnOf "__call__" "History.__call__" (fnArgs s_History___call__) (fnBody s_History___call__) (fnScope s_History___call__) .none kVMHC dcMHC pmMHC anMHC cdMHC ctMHC), slMHC⟩)
    (cMHC : PySem.W.codeIn K cdMHC "History.__call__" = true)
    (kDT : PySem.W.keepIn K (.ref fMDT) = true)
    (kDU : PySem.W.keepIn K (.ref fMDU) = true)
    (kDP : PySem.W.keepIn K (.ref fMDP) = true)
    (fnC : PySem.W.fnIn K fMHC = true)
    (pgtL : PySem.W.plainGet K cL Str.empty = true)
    (pgtX : PySem.W.plainGet K cX Str.empty = true)
    (pgtD : PySem.W.plainGet K cD Str.empty = true)
    (pgtH : PySem.W.plainGet K cH Str.empty = true)
    (hdL : PySem.W.hasDictIn K cL = true)
    (hdX : PySem.W.hasDictIn K cX = true)
    (hdD : PySem.W.hasDictIn K cD = true)
    (hdH : PySem.W.hasDictIn K cH = true)
    (poL : PySem.W.plainOver K cL = true)
    (poX : PySem.W.plainOver K cX = true)
    (poD : PySem.W.plainOver K cD = true)
    (poH : PySem.W.plainOver K cH = true)
    (saL : PySem.W.findIn K (.ref cL) "__setattr__" = some (some (.builtin "object.__setattr__")))
    (saX : PySem.W.findIn K (.ref cX) "__setattr__" = some (some (.builtin "object.__setattr__")))
    (saD : PySem.W.findIn K (.ref cD) "__setattr__" = some (some (.builtin "object.__setattr__")))
    (saH : PySem.W.findIn K (.ref cH) "__setattr__" = some (some (.builtin "object.__setattr__")))
    (mkL : PySem.W.makesIn K cL = true)
    (mkX : PySem.W.makesIn K cX = true)
    (mkD : PySem.W.makesIn K cD = true)
    (mkH : PySem.W.makesIn K cH = true)
    (kcL : PySem.W.keepIn K (.ref cL) = true)
    (kcX : PySem.W.keepIn K (.ref cX) = true)
    (kcD : PySem.W.keepIn K (.ref cD) = true)
    (kcH : PySem.W.keepIn K (.ref cH) = true)
    (nheld_sizeL : PySem.W.findIn K (.ref cL) "held_size" = some none)
    (nheld_sizeX : PySem.W.findIn K (.ref cX) "held_size" = some none)
    (nheld_serversL : PySem.W.findIn K (.ref cL) "held_servers" = some none)
    (nheld_serversX : PySem.W.findIn K (.ref cX) "held_servers" = some none)
    (nheld_entriesL : PySem.W.findIn K (.ref cL) "held_entries" = some none)
    (nheld_entriesX : PySem.W.findIn K (.ref cX) "held_entries" = some none)
    (nwideD : PySem.W.findIn K (.ref cD) "wide" = some none)
    (nupcomingD : PySem.W.findIn K (.ref cD) "upcoming" = some none)
    (nremainingD : PySem.W.findIn K (.ref cD) "remaining" = some none)
    (ntakersD : PySem.W.findIn K (.ref cD) "takers" = some none)
    (nshown_usesD : PySem.W.findIn K (.ref cD) "shown_uses" = some none)
    (ndeskH : PySem.W.findIn K (.ref cH) "desk" = some none)
    (nheld_sizeH : PySem.W.findIn K (.ref cH) "held_size" = some none)
    (nheld_serversH : PySem.W.findIn K (.ref cH) "held_servers" = some none)
    (nheld_eventsH : PySem.W.findIn K (.ref cH) "held_events" = some none)
    (kdL : PySem.W.findIn K (.ref cL) "KIND" = some (some (.str "steady" ts0)))
    (kdX : PySem.W.findIn K (.ref cX) "KIND" = some (some (.str "losing" ts1)))
    (kgL : PySem.W.specialIn K (.str "steady" ts0) "__get__" = some none)
    (kgX : PySem.W.specialIn K (.str "losing" ts1) "__get__" = some none)
    (ccL : PySem.W.findIn K (.ref cL) "__class__" = some (some (.builtin "object.__class__")))
    (ccX : PySem.W.findIn K (.ref cX) "__class__" = some (some (.builtin "object.__class__")))
    (ccH : PySem.W.findIn K (.ref cH) "__class__" = some (some (.builtin "object.__class__")))
    (moL : PySem.W.mroIn K cL (.type "object") = some true)
    (moX : PySem.W.mroIn K cX (.type "object") = some true)
    (moH : PySem.W.mroIn K cH (.type "object") = some true)
    (og : PySem.W.specialIn K (.builtin "object.__class__") "__get__" = some (some (.builtin "getset_descriptor.__get__")))
    (ot : PySem.W.takesIn K (.builtin "object.__class__") = some true)
    (stL : PySem.W.subIn K (.ref cL) (.type "tuple") = some false)
    (stX : PySem.W.subIn K (.ref cX) (.type "tuple") = some false)
    (icL : PySem.W.isClsIn K cL = true)
    (icX : PySem.W.isClsIn K cX = true)
    (tyL : PySem.W.typeIn K (.ref cL) = some (.type "type"))
    (tyX : PySem.W.typeIn K (.ref cX) = some (.type "type"))
    (sXL : PySem.W.subIn K (.ref cX) (.ref cL) = some true)
    (sLX : PySem.W.subIn K (.ref cL) (.ref cX) = some false)
    (sHL : PySem.W.subIn K (.ref cH) (.ref cL) = some false)
    (neXL : ((Value.ref cX == Value.ref cL) : Bool) = false)
    (neLX : ((Value.ref cL == Value.ref cX) : Bool) = false)
    (neHL : ((Value.ref cH == Value.ref cL) : Bool) = false)
    (oNoneTypeL : PySem.W.subIn K (.type "NoneType") (.ref cL) = some false)
    (ointL : PySem.W.subIn K (.type "int") (.ref cL) = some false)
    (oboolL : PySem.W.subIn K (.type "bool") (.ref cL) = some false)
    (ostrL : PySem.W.subIn K (.type "str") (.ref cL) = some false)
    (otupleL : PySem.W.subIn K (.type "tuple") (.ref cL) = some false)
    (odictL : PySem.W.subIn K (.type "dict") (.ref cL) = some false)
    (olistL : PySem.W.subIn K (.type "list") (.ref cL) = some false)
    (eqH : PySem.W.findIn K (.ref cH) "__eq__" = some (some (.builtin "object.__eq__")))
    (g_GREATEST_SIZE : PySem.W.nsIn K mainGlobals "GREATEST_SIZE" = some (some (.int (10 ^ 30) tk0)))
    (g_MOST_SERVERS : PySem.W.nsIn K mainGlobals "MOST_SERVERS" = some (some (.int 12 tk1)))
    (g_MOST_LETTERS : PySem.W.nsIn K mainGlobals "MOST_LETTERS" = some (some (.int 8 tk2)))
    (g_MOST_ENTRIES : PySem.W.nsIn K mainGlobals "MOST_ENTRIES" = some (some (.int 200 tk3)))
    (g_LETTERS : PySem.W.nsIn K mainGlobals "LETTERS" = some (some (.str LETT ts4)))
    (g_LOSING : PySem.W.nsIn K mainGlobals "LOSING" = some (some (.str "losing" ts5)))
    (g_TAKE : PySem.W.nsIn K mainGlobals "TAKE" = some (some (.str "take" ts6)))
    (g_USE : PySem.W.nsIn K mainGlobals "USE" = some (some (.str "use" ts7)))
    (g_MOST_EVENTS : PySem.W.nsIn K mainGlobals "MOST_EVENTS" = some (some (.int 1000 tk4)))
    (b_len : PySem.W.nsIn K mainGlobals "len" = some none)
    (b_isinstance : PySem.W.nsIn K mainGlobals "isinstance" = some none)
    (b_int : PySem.W.nsIn K mainGlobals "int" = some none)
    (b_bool : PySem.W.nsIn K mainGlobals "bool" = some none)
    (b_str : PySem.W.nsIn K mainGlobals "str" = some none)
    (b_list : PySem.W.nsIn K mainGlobals "list" = some none)
    (b_tuple : PySem.W.nsIn K mainGlobals "tuple" = some none)
    (b_all : PySem.W.nsIn K mainGlobals "all" = some none)
    (b_set : PySem.W.nsIn K mainGlobals "set" = some none)
    (b_max : PySem.W.nsIn K mainGlobals "max" = some none)
    (b_min : PySem.W.nsIn K mainGlobals "min" = some none)
    (b_abs : PySem.W.nsIn K mainGlobals "abs" = some none)
    (b_range : PySem.W.nsIn K mainGlobals "range" = some none)
    (b_repr : PySem.W.nsIn K mainGlobals "repr" = some none)
    : ∃ fd : FuncData, (∀ (s : Shared) (v : Value), BindsTo s fd ⟨[v], []⟩ [("script", v)]) ∧ ∀ base : Heap, K.In base → base.Ns mainGlobals mg → FnG P w K mg base 9 fa fd ["script"] (spLaw K) := by
  have e := hfa.symm.trans (PySem.W.mg_of X G a_law)
  obtain rfl : f_law = fa := by cases e; rfl
  have F_is_integer : C8.Fun K "is_integer" "is_integer" s_is_integer f_is_integer _ := ⟨_, _, _, _, _, _, _, _, _, _, rfl, l_is_integer, c_is_integer⟩
  have D_is_integer : Dx K mg "is_integer" s_is_integer ["thing"] := ⟨_, _, ⟨F_is_integer, PySem.W.mg_of X G a_is_integer, k_is_integer⟩, F_is_integer.binds rfl fun _ _ _ _ _ _ us hl => match us, hl with | [_], _ => rfl⟩
  have F_is_size : C8.Fun K "is_size" "is_size" s_is_size f_is_size _ := ⟨_, _, _, _, _, _, _, _, _, _, rfl, l_is_size, c_is_size⟩
  have D_is_size : Dx K mg "is_size" s_is_size ["thing"] := ⟨_, _, ⟨F_is_size, PySem.W.mg_of X G a_is_size, k_is_size⟩, F_is_size.binds rfl fun _ _ _ _ _ _ us hl => match us, hl with | [_], _ => rfl⟩
  have F_is_name : C8.Fun K "is_name" "is_name" s_is_name f_is_name _ := ⟨_, _, _, _, _, _, _, _, _, _, rfl, l_is_name, c_is_name⟩
  have D_is_name : Dx K mg "is_name" s_is_name ["thing"] := ⟨_, _, ⟨F_is_name, PySem.W.mg_of X G a_is_name, k_is_name⟩, F_is_name.binds rfl fun _ _ _ _ _ _ us hl => match us, hl with | [_], _ => rfl⟩
  have F_are_servers : C8.Fun K "are_servers" "are_servers" s_are_servers f_are_servers _ := ⟨_, _, _, _, _, _, _, _, _, _, rfl, l_are_servers, c_are_servers⟩
  have D_are_servers : Dx K mg "are_servers" s_are_servers ["thing"] := ⟨_, _, ⟨F_are_servers, PySem.W.mg_of X G a_are_servers, k_are_servers⟩, F_are_servers.binds rfl fun _ _ _ _ _ _ us hl => match us, hl with | [_], _ => rfl⟩
  have F_is_server : C8.Fun K "is_server" "is_server" s_is_server f_is_server _ := ⟨_, _, _, _, _, _, _, _, _, _, rfl, l_is_server, c_is_server⟩
  have D_is_server : Dx K mg "is_server" s_is_server ["servers", "thing"] := ⟨_, _, ⟨F_is_server, PySem.W.mg_of X G a_is_server, k_is_server⟩, F_is_server.binds rfl fun _ _ _ _ _ _ us hl => match us, hl with | [_, _], _ => rfl⟩
  have F_is_entry : C8.Fun K "is_entry" "is_entry" s_is_entry f_is_entry _ := ⟨_, _, _, _, _, _, _, _, _, _, rfl, l_is_entry, c_is_entry⟩
  have D_is_entry : Dx K mg "is_entry" s_is_entry ["servers", "thing"] := ⟨_, _, ⟨F_is_entry, PySem.W.mg_of X G a_is_entry, k_is_entry⟩, F_is_entry.binds rfl fun _ _ _ _ _ _ us hl => match us, hl with | [_, _], _ => rfl⟩
  have F_are_entries : C8.Fun K "are_entries" "are_entries" s_are_entries f_are_entries _ := ⟨_, _, _, _, _, _, _, _, _, _, rfl, l_are_entries, c_are_entries⟩
  have D_are_entries : Dx K mg "are_entries" s_are_entries ["servers", "thing"] := ⟨_, _, ⟨F_are_entries, PySem.W.mg_of X G a_are_entries, k_are_entries⟩, F_are_entries.binds rfl fun _ _ _ _ _ _ us hl => match us, hl with | [_, _], _ => rfl⟩
  have F__law_tape : C8.Fun K "_law_tape" "_law_tape" s__law_tape f__law_tape _ := ⟨_, _, _, _, _, _, _, _, _, _, rfl, l__law_tape, c__law_tape⟩
  have D__law_tape : Dx K mg "_law_tape" s__law_tape ["script", "k"] := ⟨_, _, ⟨F__law_tape, PySem.W.mg_of X G a__law_tape, k__law_tape⟩, F__law_tape.binds rfl fun _ _ _ _ _ _ us hl => match us, hl with | [_, _], _ => rfl⟩
  have F__law_next : C8.Fun K "_law_next" "_law_next" s__law_next f__law_next _ := ⟨_, _, _, _, _, _, _, _, _, _, rfl, l__law_next, c__law_next⟩
  have D__law_next : Dx K mg "_law_next" s__law_next ["tape", "many"] := ⟨_, _, ⟨F__law_next, PySem.W.mg_of X G a__law_next, k__law_next⟩, F__law_next.binds rfl fun _ _ _ _ _ _ us hl => match us, hl with | [_, _], _ => rfl⟩
  have F__law_names : C8.Fun K "_law_names" "_law_names" s__law_names f__law_names _ := ⟨_, _, _, _, _, _, _, _, _, _, rfl, l__law_names, c__law_names⟩
  have D__law_names : Dx K mg "_law_names" s__law_names ["tape", "most"] := ⟨_, _, ⟨F__law_names, PySem.W.mg_of X G a__law_names, k__law_names⟩, F__law_names.binds rfl fun _ _ _ _ _ _ us hl => match us, hl with | [_, _], _ => rfl⟩
  have F__law_played : C8.Fun K "_law_played" "_law_played" s__law_played f__law_played _ := ⟨_, _, _, _, _, _, _, _, _, _, rfl, l__law_played, c__law_played⟩
  have D__law_played : Dx K mg "_law_played" s__law_played ["wide", "names", "steps_here"] := ⟨_, _, ⟨F__law_played, PySem.W.mg_of X G a__law_played, k__law_played⟩, F__law_played.binds rfl fun _ _ _ _ _ _ us hl => match us, hl with | [_, _, _], _ => rfl⟩
  have F__law_events : C8.Fun K "_law_events" "_law_events" s__law_events f__law_events _ := ⟨_, _, _, _, _, _, _, _, _, _, rfl, l__law_events, c__law_events⟩
  have D__law_events : Dx K mg "_law_events" s__law_events ["tape", "wide", "names", "most"] := ⟨_, _, ⟨F__law_events, PySem.W.mg_of X G a__law_events, k__law_events⟩, F__law_events.binds rfl fun _ _ _ _ _ _ us hl => match us, hl with | [_, _, _, _], _ => rfl⟩
  have F__law_is_shown : C8.Fun K "_law_is_shown" "_law_is_shown" s__law_is_shown f__law_is_shown _ := ⟨_, _, _, _, _, _, _, _, _, _, rfl, l__law_is_shown, c__law_is_shown⟩
  have D__law_is_shown : Dx K mg "_law_is_shown" s__law_is_shown ["uses_here", "rows"] := ⟨_, _, ⟨F__law_is_shown, PySem.W.mg_of X G a__law_is_shown, k__law_is_shown⟩, F__law_is_shown.binds rfl fun _ _ _ _ _ _ us hl => match us, hl with | [_, _], _ => rfl⟩
  have F__law_rows : C8.Fun K "_law_rows" "_law_rows" s__law_rows f__law_rows _ := ⟨_, _, _, _, _, _, _, _, _, _, rfl, l__law_rows, c__law_rows⟩
  have D__law_rows : Dx K mg "_law_rows" s__law_rows ["tape", "names", "wide", "uses_here"] := ⟨_, _, ⟨F__law_rows, PySem.W.mg_of X G a__law_rows, k__law_rows⟩, F__law_rows.binds rfl fun _ _ _ _ _ _ us hl => match us, hl with | [_, _, _, _], _ => rfl⟩
  have F__law_right : C8.Fun K "_law_right" "_law_right" s__law_right f__law_right _ := ⟨_, _, _, _, _, _, _, _, _, _, rfl, l__law_right, c__law_right⟩
  have D__law_right : Dx K mg "_law_right" s__law_right ["tape", "wide", "names"] := ⟨_, _, ⟨F__law_right, PySem.W.mg_of X G a__law_right, k__law_right⟩, F__law_right.binds rfl fun _ _ _ _ _ _ us hl => match us, hl with | [_, _, _], _ => rfl⟩
  have F_law : C8.Fun K "law" "law" s_law _ _ := ⟨_, _, _, _, _, _, _, _, _, _, rfl, l_law, c_law⟩
  have FI : C8.Fun K "__init__" "Log.__init__" s_Log___init__ fMI _ := ⟨_, _, _, _, _, _, _, _, _, _, rfl, lMI, cMI⟩
  have MI : Mx K "__init__" "Log.__init__" s_Log___init__ ["self", "size", "servers", "entries"] fMI _ := ⟨FI, FI.binds rfl fun _ _ _ _ _ _ us hl => match us, hl with | [_, _, _, _], _ => rfl⟩
  have FZ : C8.Fun K "size" "Log.size" s_Log_size fMZ _ := ⟨_, _, _, _, _, _, _, _, _, _, rfl, lMZ, cMZ⟩
  have MZ : Mx K "size" "Log.size" s_Log_size ["self"] fMZ _ := ⟨FZ, FZ.binds rfl fun _ _ _ _ _ _ us hl => match us, hl with | [_], _ => rfl⟩
  have FV : C8.Fun K "servers" "Log.servers" s_Log_servers fMV _ := ⟨_, _, _, _, _, _, _, _, _, _, rfl, lMV, cMV⟩
  have MV : Mx K "servers" "Log.servers" s_Log_servers ["self"] fMV _ := ⟨FV, FV.binds rfl fun _ _ _ _ _ _ us hl => match us, hl with | [_], _ => rfl⟩
  have FE : C8.Fun K "entries" "Log.entries" s_Log_entries fME _ := ⟨_, _, _, _, _, _, _, _, _, _, rfl, lME, cME⟩
  have ME : Mx K "entries" "Log.entries" s_Log_entries ["self"] fME _ := ⟨FE, FE.binds rfl fun _ _ _ _ _ _ us hl => match us, hl with | [_], _ => rfl⟩
  have FDI : C8.Fun K "__init__" "Desk.__init__" s_Desk___init__ fMDI _ := ⟨_, _, _, _, _, _, _, _, _, _, rfl, lMDI, cMDI⟩
  have MDI : Mx K "__init__" "Desk.__init__" s_Desk___init__ ["self", "size", "servers"] fMDI _ := ⟨FDI, FDI.binds rfl fun _ _ _ _ _ _ us hl => match us, hl with | [_, _, _], _ => rfl⟩
  have FDT : C8.Fun K "take" "Desk.take" s_Desk_take fMDT _ := ⟨_, _, _, _, _, _, _, _, _, _, rfl, lMDT, cMDT⟩
  have MDT : Mx K "take" "Desk.take" s_Desk_take ["self", "name"] fMDT _ := ⟨FDT, FDT.binds rfl fun _ _ _ _ _ _ us hl => match us, hl with | [_, _], _ => rfl⟩
  have FDU : C8.Fun K "use" "Desk.use" s_Desk_use fMDU _ := ⟨_, _, _, _, _, _, _, _, _, _, rfl, lMDU, cMDU⟩
  have MDU : Mx K "use" "Desk.use" s_Desk_use ["self", "name"] fMDU _ := ⟨FDU, FDU.binds rfl fun _ _ _ _ _ _ us hl => match us, hl with | [_, _], _ => rfl⟩
  have FDP : C8.Fun K "play" "Desk.play" s_Desk_play fMDP _ := ⟨_, _, _, _, _, _, _, _, _, _, rfl, lMDP, cMDP⟩
  have MDP : Mx K "play" "Desk.play" s_Desk_play ["self", "event"] fMDP _ := ⟨FDP, FDP.binds rfl fun _ _ _ _ _ _ us hl => match us, hl with | [_, _], _ => rfl⟩
  have FHI : C8.Fun K "__init__" "History.__init__" s_History___init__ fMHI _ := ⟨_, _, _, _, _, _, _, _, _, _, rfl, lMHI, cMHI⟩
  have MHI : Mx K "__init__" "History.__init__" s_History___init__ ["self", "size", "servers", "events"] fMHI _ := ⟨FHI, FHI.binds rfl fun _ _ _ _ _ _ us hl => match us, hl with | [_, _, _, _], _ => rfl⟩
  have FHC : C8.Fun K "__call__" "History.__call__" s_History___call__ fMHC _ := ⟨_, _, _, _, _, _, _, _, _, _, rfl, lMHC, cMHC⟩
  have MHC : Mx K "__call__" "History.__call__" s_History___call__ ["self", "thing"] fMHC _ := ⟨FHC, FHC.binds rfl fun _ _ _ _ _ _ us hl => match us, hl with | [_, _], _ => rfl⟩
  have CL : LogC K cL "steady" := ⟨⟨pgtL, hdL, poL, saL⟩, nheld_sizeL, nheld_serversL, nheld_entriesL, ⟨_, kdL, ⟨_, rfl⟩, kgL, by decide +kernel⟩, fun H p dx fs hp => .base (.ins hp ⟨pgtL, hdL, poL, saL⟩ ccL og ot moL), kit_tyR stL (by decide +kernel)⟩
  have CX : LogC K cX "losing" := ⟨⟨pgtX, hdX, poX, saX⟩, nheld_sizeX, nheld_serversX, nheld_entriesX, ⟨_, kdX, ⟨_, rfl⟩, kgX, by decide +kernel⟩, fun H p dx fs hp => .base (.ins hp ⟨pgtX, hdX, poX, saX⟩ ccX og ot moX), kit_tyR stX (by decide +kernel)⟩
  have kLL : PySem.W.kitOne K (.ref cL) (.ref cL) = some true := kit_same
  have kXX : PySem.W.kitOne K (.ref cX) (.ref cX) = some true := kit_same
  have kXL : PySem.W.kitOne K (.ref cX) (.ref cL) = some true := kit_ref icL tyL sXL neXL
  have kLX : PySem.W.kitOne K (.ref cL) (.ref cX) = some false := kit_ref icX tyX sLX neLX
  have T : Tx K mg cL cX := {
    n_len := PySem.W.mg_none_of X G b_len
    n_isinstance := PySem.W.mg_none_of X G b_isinstance
    n_int := PySem.W.mg_none_of X G b_int
    n_bool := PySem.W.mg_none_of X G b_bool
    n_str := PySem.W.mg_none_of X G b_str
    n_list := PySem.W.mg_none_of X G b_list
    n_tuple := PySem.W.mg_none_of X G b_tuple
    n_all := PySem.W.mg_none_of X G b_all
    n_set := PySem.W.mg_none_of X G b_set
    n_max := PySem.W.mg_none_of X G b_max
    n_min := PySem.W.mg_none_of X G b_min
    n_abs := PySem.W.mg_none_of X G b_abs
    n_range := PySem.W.mg_none_of X G b_range
    n_repr := PySem.W.mg_none_of X G b_repr
    g_GREATEST_SIZE := ⟨_, PySem.W.mg_of X G g_GREATEST_SIZE, ⟨_, rfl⟩⟩
    g_MOST_SERVERS := ⟨_, PySem.W.mg_of X G g_MOST_SERVERS, ⟨_, rfl⟩⟩
    g_MOST_LETTERS := ⟨_, PySem.W.mg_of X G g_MOST_LETTERS, ⟨_, rfl⟩⟩
    g_MOST_ENTRIES := ⟨_, PySem.W.mg_of X G g_MOST_ENTRIES, ⟨_, rfl⟩⟩
    g_LETTERS := ⟨_, PySem.W.mg_of X G g_LETTERS, ⟨_, rfl⟩⟩
    g_LOSING := ⟨_, PySem.W.mg_of X G g_LOSING, ⟨_, rfl⟩⟩
    g_Log := ⟨_, PySem.W.mg_of X G gL, rfl⟩
    g_LosingLog := ⟨_, PySem.W.mg_of X G gX, rfl⟩
    cl1 := CL
    cl2 := CX
    ll := kLL
    xl := kXL
    lx := kLX
    xx := kXX }
  have Tk' : Tk mg := { T.toBlt with
    g_TAKE := ⟨_, PySem.W.mg_of X G g_TAKE, ⟨_, rfl⟩⟩
    g_USE := ⟨_, PySem.W.mg_of X G g_USE, ⟨_, rfl⟩⟩
    g_MOST_EVENTS := ⟨_, PySem.W.mg_of X G g_MOST_EVENTS, ⟨_, rfl⟩⟩ }
  have Ms' : Ms K ⟨fMI, fMZ, fMV, fME, (PySem.W.fnOf "__init__" "Log.__init__" (fnArgs s_Log___init__) (fnBody s_Log___init__) (fnScope s_Log___init__) .none kVMI dcMI pmMI anMI cdMI ctMI), (PySem.W.fnOf "size" "Log.size" (fnArgs s_Log_size) (fnBody s_Log_size) (fnScope s_Log_size) .none kVMZ dcMZ pmMZ anMZ cdMZ ctMZ), (PySem.W.fnOf "servers" "Log.servers" (fnArgs s_Log_servers) (fnBody s_Log_servers) (fnScope s_Log_servers) .none kVMV dcMV pmMV anMV cdMV ctMV), (PySem.W.fnOf "entries" "Log.entries" (fnArgs s_Log_entries) (fnBody s_Log_entries) (fnScope s_Log_entries) .none kVME dcME pmME anME cdME ctME)⟩ := ⟨MI, MZ, MV, ME⟩
  have ML' : LogM K cL cL "steady" ⟨fMI, fMZ, fMV, fME, (PySem.W.fnOf "__init__" "Log.__init__" (fnArgs s_Log___init__) (fnBody s_Log___init__) (fnScope s_Log___init__) .none kVMI dcMI pmMI anMI cdMI ctMI), (PySem.W.fnOf "size" "Log.size" (fnArgs s_Log_size) (fnBody s_Log_size) (fnScope s_Log_size) .none kVMZ dcMZ pmMZ anMZ cdMZ ctMZ), (PySem.W.fnOf "servers" "Log.servers" (fnArgs s_Log_servers) (fnBody s_Log_servers) (fnScope s_Log_servers) .none kVMV dcMV pmMV anMV cdMV ctMV), (PySem.W.fnOf "entries" "Log.entries" (fnArgs s_Log_entries) (fnBody s_Log_entries) (fnScope s_Log_entries) .none kVME dcME pmME anME cdME ctME)⟩ := { CL with
    mkk := ⟨mkL, mLI, miI, kcL⟩
    pZ := ⟨_, pZL, pgZ, ptZ, _, prZ⟩
    pV := ⟨_, pVL, pgV, ptV, _, prV⟩
    pE := ⟨_, pEL, pgE, ptE, _, prE⟩
    kl := kLL }
  have MX' : LogM K cL cX "losing" ⟨fMI, fMZ, fMV, fME, (PySem.W.fnOf "__init__" "Log.__init__" (fnArgs s_Log___init__) (fnBody s_Log___init__) (fnScope s_Log___init__) .none kVMI dcMI pmMI anMI cdMI ctMI), (PySem.W.fnOf "size" "Log.size" (fnArgs s_Log_size) (fnBody s_Log_size) (fnScope s_Log_size) .none kVMZ dcMZ pmMZ anMZ cdMZ ctMZ), (PySem.W.fnOf "servers" "Log.servers" (fnArgs s_Log_servers) (fnBody s_Log_servers) (fnScope s_Log_servers) .none kVMV dcMV pmMV anMV cdMV ctMV), (PySem.W.fnOf "entries" "Log.entries" (fnArgs s_Log_entries) (fnBody s_Log_entries) (fnScope s_Log_entries) .none kVME dcME pmME anME cdME ctME)⟩ := { CX with
    mkk := ⟨mkX, mXI, miI, kcX⟩
    pZ := ⟨_, pZX, pgZ, ptZ, _, prZ⟩
    pV := ⟨_, pVX, pgV, ptV, _, prV⟩
    pE := ⟨_, pEX, pgE, ptE, _, prE⟩
    kl := kXL }
  have LD : DeskM K cD fMDT fMDU := { cl := ⟨pgtD, hdD, poD, saD⟩, nW := nwideD, nU := nupcomingD, nR := nremainingD, nT := ntakersD, nS := nshown_usesD, mT := ⟨mDT, miDT, kDT⟩, mU := ⟨mDU, miDU, kDU⟩ }
  have oddH : ∀ t ∈ ([.type "NoneType", .type "int", .type "bool", .type "str", .type "tuple", .type "dict", .type "list"] : List Value), PySem.W.kitOne K t (.ref cL) = some false := by
    intro t ht
    simp only [List.mem_cons, List.not_mem_nil, or_false] at ht
    rcases ht with rfl | rfl | rfl | rfl | rfl | rfl | rfl
    · exact kit_ref icL tyL oNoneTypeL (by simp)
    · exact kit_ref icL tyL ointL (by simp)
    · exact kit_ref icL tyL oboolL (by simp)
    · exact kit_ref icL tyL ostrL (by simp)
    · exact kit_ref icL tyL otupleL (by simp)
    · exact kit_ref icL tyL odictL (by simp)
    · exact kit_ref icL tyL olistL (by simp)
  have tyH : ∀ H p dx fs, H p = some (.ins cH dx fs) → TyX K H (.ref p) (.ref cH) := fun H p dx fs hp => .base (.ins hp ⟨pgtH, hdH, poH, saH⟩ ccH og ot moH)
  have LH : HisM K cL cH fMHC := ⟨⟨⟨pgtH, hdH, poH, saH⟩, ndeskH, nheld_sizeH, nheld_serversH, nheld_eventsH⟩, mHC, miHC, fnC, eqH, moH, tyH, kit_ref icL tyL sHL neHL, oddH⟩
  have S : Tops K mg cL cX cD cH _ ⟨fMDI, fMDT, fMDU, fMDP, fMHI, fMHC, (PySem.W.fnOf "__init__" "Desk.__init__" (fnArgs s_Desk___init__) (fnBody s_Desk___init__) (fnScope s_Desk___init__) .none kVMDI dcMDI pmMDI anMDI cdMDI ctMDI), (PySem.W.fnOf "take" "Desk.take" (fnArgs s_Desk_take) (fnBody s_Desk_take) (fnScope s_Desk_take) .none kVMDT dcMDT pmMDT anMDT cdMDT ctMDT), (PySem.W.fnOf "use" "Desk.use" (fnArgs s_Desk_use) (fnBody s_Desk_use) (fnScope s_Desk_use) .none kVMDU dcMDU pmMDU anMDU cdMDU ctMDU), (PySem.W.fnOf "play" "Desk.play" (fnArgs s_Desk_play) (fnBody s_Desk_play) (fnScope s_Desk_play) .none kVMDP dcMDP pmMDP anMDP cdMDP ctMDP), (PySem.W.fnOf "__init__" "History.__init__" (fnArgs s_History___init__) (fnBody s_History___init__) (fnScope s_History___init__) .none kVMHI dcMHI pmMHI anMHI cdMHI ctMHI), (PySem.W.fnOf "__call__" "History.__call__" (fnArgs s_History___call__) (fnBody s_History___call__) (fnScope s_History___call__) .none kVMHC dcMHC pmMHC anMHC cdMHC ctMHC)⟩ := ⟨T, Tk', ML', MX', Ms', LD, ⟨mDP, miDP, kDP⟩, ⟨mkD, mDI, miDI, kcD⟩, LH, ⟨mkH, mHI, miHI, kcH⟩, MDI, MDT, MDU, MDP, MHI, MHC, rfl, PySem.W.mg_of X G gL, PySem.W.mg_of X G gX, PySem.W.mg_of X G gD, PySem.W.mg_of X G gH, D_is_integer, D_is_size, D_is_name, D_are_servers, D_is_server, D_is_entry, D_are_entries, D__law_tape, D__law_next, D__law_names, D__law_played, D__law_events, D__law_is_shown, D__law_rows, D__law_right⟩
  exact ⟨_, fun s v => .of_eq rfl, fun base _ _ => ok_law S F_law⟩
end NB

set_option Elab.async false
set_option maxRecDepth 100000
set_option maxHeartbeats 0
open PySem PySem.W PyProof.Rows
theorem PySem.Challenge.cw_numberbooks_k29_logs_that_histories_show_holds : PySem.Challenge.rw_numberbooks_k29_logs_that_histories_show.Holds := by
  refine hd ?_
  k_fill
  refine NB.walk_g (l := PySem.Challenge.rw_numberbooks_k29_logs_that_histories_show) (n := 63) (k := 9) (x := "script") (sp := NB.spLaw) rfl (by decide) rfl ⟨rfl, by decide, by decide⟩ (fun w h Y => PySem.W.kIn_of Y) ?F (fun K H a ns hl _ hS => ⟨a, ns, rfl, hS, hl, fun _ => rfl⟩)
  case F =>
    intro w mg fa h KX G hmg
    refine' NB.all_mk KX G hmg ?a_is_integer ?l_is_integer ?c_is_integer ?k_is_integer ?a_is_size ?l_is_size ?c_is_size ?k_is_size ?a_is_name ?l_is_name ?c_is_name ?k_is_name ?a_are_servers ?l_are_servers ?c_are_servers ?k_are_servers ?a_is_server ?l_is_server ?c_is_server ?k_is_server ?a_is_entry ?l_is_entry ?c_is_entry ?k_is_entry ?a_are_entries ?l_are_entries ?c_are_entries ?k_are_entries ?a__law_tape ?l__law_tape ?c__law_tape ?k__law_tape ?a__law_next ?l__law_next ?c__law_next ?k__law_next ?a__law_names ?l__law_names ?c__law_names ?k__law_names ?a__law_played ?l__law_played ?c__law_played ?k__law_played ?a__law_events ?l__law_events ?c__law_events ?k__law_events ?a__law_is_shown ?l__law_is_shown ?c__law_is_shown ?k__law_is_shown ?a__law_rows ?l__law_rows ?c__law_rows ?k__law_rows ?a__law_right ?l__law_right ?c__law_right ?k__law_right ?a_law ?l_law ?c_law ?k_law ?gL ?gX ?gD ?gH ?mLI ?mXI ?miI ?lMI ?cMI ?pZL ?pZX ?pgZ ?ptZ ?prZ ?lMZ ?cMZ ?pVL ?pVX ?pgV ?ptV ?prV ?lMV ?cMV ?pEL ?pEX ?pgE ?ptE ?prE ?lME ?cME ?mDI ?miDI ?lMDI ?cMDI ?mDT ?miDT ?lMDT ?cMDT ?mDU ?miDU ?lMDU ?cMDU ?mDP ?miDP ?lMDP ?cMDP ?mHI ?miHI ?lMHI ?cMHI ?mHC ?miHC ?lMHC ?cMHC ?kDT ?kDU ?kDP ?fnC ?pgtL ?pgtX ?pgtD ?pgtH ?hdL ?hdX ?hdD ?hdH ?poL ?poX ?poD ?poH ?saL ?saX ?saD ?saH ?mkL ?mkX ?mkD ?mkH ?kcL ?kcX ?kcD ?kcH ?nheld_sizeL ?nheld_sizeX ?nheld_serversL ?nheld_serversX ?nheld_entriesL ?nheld_entriesX ?nwideD ?nupcomingD ?nremainingD ?ntakersD ?nshown_usesD ?ndeskH ?nheld_sizeH ?nheld_serversH ?nheld_eventsH ?kdL ?kdX ?kgL ?kgX ?ccL ?ccX ?ccH ?moL ?moX ?moH ?og ?ot ?stL ?stX ?icL ?icX ?tyL ?tyX ?sXL ?sLX ?sHL ?neXL ?neLX ?neHL ?oNoneTypeL ?ointL ?oboolL ?ostrL ?otupleL ?odictL ?olistL ?eqH ?g_GREATEST_SIZE ?g_MOST_SERVERS ?g_MOST_LETTERS ?g_MOST_ENTRIES ?g_LETTERS ?g_LOSING ?g_TAKE ?g_USE ?g_MOST_EVENTS ?b_len ?b_isinstance ?b_int ?b_bool ?b_str ?b_list ?b_tuple ?b_all ?b_set ?b_max ?b_min ?b_abs ?b_range ?b_repr
    (case a_is_integer => first | k_is | rfl)
    (case l_is_integer => first | k_is | rfl)
    (case c_is_integer => first | k_is | rfl)
    (case k_is_integer => first | k_is | rfl)
    (case a_is_size => first | k_is | rfl)
    (case l_is_size => first | k_is | rfl)
    (case c_is_size => first | k_is | rfl)
    (case k_is_size => first | k_is | rfl)
    (case a_is_name => first | k_is | rfl)
    (case l_is_name => first | k_is | rfl)
    (case c_is_name => first | k_is | rfl)
    (case k_is_name => first | k_is | rfl)
    (case a_are_servers => first | k_is | rfl)
    (case l_are_servers => first | k_is | rfl)
    (case c_are_servers => first | k_is | rfl)
    (case k_are_servers => first | k_is | rfl)
    (case a_is_server => first | k_is | rfl)
    (case l_is_server => first | k_is | rfl)
    (case c_is_server => first | k_is | rfl)
    (case k_is_server => first | k_is | rfl)
    (case a_is_entry => first | k_is | rfl)
    (case l_is_entry => first | k_is | rfl)
    (case c_is_entry => first | k_is | rfl)
    (case k_is_entry => first | k_is | rfl)
    (case a_are_entries => first | k_is | rfl)
    (case l_are_entries => first | k_is | rfl)
    (case c_are_entries => first | k_is | rfl)
    (case k_are_entries => first | k_is | rfl)
    (case a__law_tape => first | k_is | rfl)
    (case l__law_tape => first | k_is | rfl)
    (case c__law_tape => first | k_is | rfl)
    (case k__law_tape => first | k_is | rfl)
    (case a__law_next => first | k_is | rfl)
    (case l__law_next => first | k_is | rfl)
    (case c__law_next => first | k_is | rfl)
    (case k__law_next => first | k_is | rfl)
    (case a__law_names => first | k_is | rfl)
    (case l__law_names => first | k_is | rfl)
    (case c__law_names => first | k_is | rfl)
    (case k__law_names => first | k_is | rfl)
    (case a__law_played => first | k_is | rfl)
    (case l__law_played => first | k_is | rfl)
    (case c__law_played => first | k_is | rfl)
    (case k__law_played => first | k_is | rfl)
    (case a__law_events => first | k_is | rfl)
    (case l__law_events => first | k_is | rfl)
    (case c__law_events => first | k_is | rfl)
    (case k__law_events => first | k_is | rfl)
    (case a__law_is_shown => first | k_is | rfl)
    (case l__law_is_shown => first | k_is | rfl)
    (case c__law_is_shown => first | k_is | rfl)
    (case k__law_is_shown => first | k_is | rfl)
    (case a__law_rows => first | k_is | rfl)
    (case l__law_rows => first | k_is | rfl)
    (case c__law_rows => first | k_is | rfl)
    (case k__law_rows => first | k_is | rfl)
    (case a__law_right => first | k_is | rfl)
    (case l__law_right => first | k_is | rfl)
    (case c__law_right => first | k_is | rfl)
    (case k__law_right => first | k_is | rfl)
    (case a_law => first | k_is | rfl)
    (case l_law => first | k_is | rfl)
    (case c_law => first | k_is | rfl)
    (case k_law => first | k_is | rfl)
    (case gL => first | k_is | rfl)
    (case gX => first | k_is | rfl)
    (case gD => first | k_is | rfl)
    (case gH => first | k_is | rfl)
    (case mLI => first | k_is | rfl)
    (case mXI => first | k_is | rfl)
    (case miI => first | k_is | rfl)
    (case lMI => first | k_is | rfl)
    (case cMI => first | k_is | rfl)
    (case pZL => first | k_is | rfl)
    (case pZX => first | k_is | rfl)
    (case pgZ => first | k_is | rfl)
    (case ptZ => first | k_is | rfl)
    (case prZ => first | k_is | rfl)
    (case lMZ => first | k_is | rfl)
    (case cMZ => first | k_is | rfl)
    (case pVL => first | k_is | rfl)
    (case pVX => first | k_is | rfl)
    (case pgV => first | k_is | rfl)
    (case ptV => first | k_is | rfl)
    (case prV => first | k_is | rfl)
    (case lMV => first | k_is | rfl)
    (case cMV => first | k_is | rfl)
    (case pEL => first | k_is | rfl)
    (case pEX => first | k_is | rfl)
    (case pgE => first | k_is | rfl)
    (case ptE => first | k_is | rfl)
    (case prE => first | k_is | rfl)
    (case lME => first | k_is | rfl)
    (case cME => first | k_is | rfl)
    (case mDI => first | k_is | rfl)
    (case miDI => first | k_is | rfl)
    (case lMDI => first | k_is | rfl)
    (case cMDI => first | k_is | rfl)
    (case mDT => first | k_is | rfl)
    (case miDT => first | k_is | rfl)
    (case lMDT => first | k_is | rfl)
    (case cMDT => first | k_is | rfl)
    (case mDU => first | k_is | rfl)
    (case miDU => first | k_is | rfl)
    (case lMDU => first | k_is | rfl)
    (case cMDU => first | k_is | rfl)
    (case mDP => first | k_is | rfl)
    (case miDP => first | k_is | rfl)
    (case lMDP => first | k_is | rfl)
    (case cMDP => first | k_is | rfl)
    (case mHI => first | k_is | rfl)
    (case miHI => first | k_is | rfl)
    (case lMHI => first | k_is | rfl)
    (case cMHI => first | k_is | rfl)
    (case mHC => first | k_is | rfl)
    (case miHC => first | k_is | rfl)
    (case lMHC => first | k_is | rfl)
    (case cMHC => first | k_is | rfl)
    (case kDT => first | k_is | rfl)
    (case kDU => first | k_is | rfl)
    (case kDP => first | k_is | rfl)
    (case fnC => first | k_is | rfl)
    (case pgtL => first | k_is | rfl)
    (case pgtX => first | k_is | rfl)
    (case pgtD => first | k_is | rfl)
    (case pgtH => first | k_is | rfl)
    (case hdL => first | k_is | rfl)
    (case hdX => first | k_is | rfl)
    (case hdD => first | k_is | rfl)
    (case hdH => first | k_is | rfl)
    (case poL => first | k_is | rfl)
    (case poX => first | k_is | rfl)
    (case poD => first | k_is | rfl)
    (case poH => first | k_is | rfl)
    (case saL => first | k_is | rfl)
    (case saX => first | k_is | rfl)
    (case saD => first | k_is | rfl)
    (case saH => first | k_is | rfl)
    (case mkL => first | k_is | rfl)
    (case mkX => first | k_is | rfl)
    (case mkD => first | k_is | rfl)
    (case mkH => first | k_is | rfl)
    (case kcL => first | k_is | rfl)
    (case kcX => first | k_is | rfl)
    (case kcD => first | k_is | rfl)
    (case kcH => first | k_is | rfl)
    (case nheld_sizeL => first | k_is | rfl)
    (case nheld_sizeX => first | k_is | rfl)
    (case nheld_serversL => first | k_is | rfl)
    (case nheld_serversX => first | k_is | rfl)
    (case nheld_entriesL => first | k_is | rfl)
    (case nheld_entriesX => first | k_is | rfl)
    (case nwideD => first | k_is | rfl)
    (case nupcomingD => first | k_is | rfl)
    (case nremainingD => first | k_is | rfl)
    (case ntakersD => first | k_is | rfl)
    (case nshown_usesD => first | k_is | rfl)
    (case ndeskH => first | k_is | rfl)
    (case nheld_sizeH => first | k_is | rfl)
    (case nheld_serversH => first | k_is | rfl)
    (case nheld_eventsH => first | k_is | rfl)
    (case kdL => first | k_is | rfl)
    (case kdX => first | k_is | rfl)
    (case kgL => first | k_is | rfl)
    (case kgX => first | k_is | rfl)
    (case ccL => first | k_is | rfl)
    (case ccX => first | k_is | rfl)
    (case ccH => first | k_is | rfl)
    (case moL => first | k_is | rfl)
    (case moX => first | k_is | rfl)
    (case moH => first | k_is | rfl)
    (case og => first | k_is | rfl)
    (case ot => first | k_is | rfl)
    (case stL => first | k_is | rfl)
    (case stX => first | k_is | rfl)
    (case icL => first | k_is | rfl)
    (case icX => first | k_is | rfl)
    (case tyL => first | k_is | rfl)
    (case tyX => first | k_is | rfl)
    (case sXL => first | k_is | rfl)
    (case sLX => first | k_is | rfl)
    (case sHL => first | k_is | rfl)
    (case neXL => first | k_is | rfl)
    (case neLX => first | k_is | rfl)
    (case neHL => first | k_is | rfl)
    (case oNoneTypeL => first | k_is | rfl)
    (case ointL => first | k_is | rfl)
    (case oboolL => first | k_is | rfl)
    (case ostrL => first | k_is | rfl)
    (case otupleL => first | k_is | rfl)
    (case odictL => first | k_is | rfl)
    (case olistL => first | k_is | rfl)
    (case eqH => first | k_is | rfl)
    (case g_GREATEST_SIZE => first | k_is | rfl)
    (case g_MOST_SERVERS => first | k_is | rfl)
    (case g_MOST_LETTERS => first | k_is | rfl)
    (case g_MOST_ENTRIES => first | k_is | rfl)
    (case g_LETTERS => first | k_is | rfl)
    (case g_LOSING => first | k_is | rfl)
    (case g_TAKE => first | k_is | rfl)
    (case g_USE => first | k_is | rfl)
    (case g_MOST_EVENTS => first | k_is | rfl)
    (case b_len => first | k_is | rfl)
    (case b_isinstance => first | k_is | rfl)
    (case b_int => first | k_is | rfl)
    (case b_bool => first | k_is | rfl)
    (case b_str => first | k_is | rfl)
    (case b_list => first | k_is | rfl)
    (case b_tuple => first | k_is | rfl)
    (case b_all => first | k_is | rfl)
    (case b_set => first | k_is | rfl)
    (case b_max => first | k_is | rfl)
    (case b_min => first | k_is | rfl)
    (case b_abs => first | k_is | rfl)
    (case b_range => first | k_is | rfl)
    (case b_repr => first | k_is | rfl)

