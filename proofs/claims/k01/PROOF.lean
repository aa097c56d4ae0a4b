import PyProof.Rows.All
import Wide.All
import OpenK.AllK
import Wide.FinOn
import HandS.Base
import HandS.Call
import HandS.List
import HandS.Comp
import HandS.Codes
import HandS.OwnEq
import HandS.Ends
import HandS.Words
import PyProof.NoPylong
import PyProof.Fits
import HandS.ForMost
import HandS.IsInst
import HandS.Property
import HandS.MakeKwOnly
import HandS.WideBits
import HandS.Deep
import HandS.Wide
import PyProof.ReprRoads
import PyProof.ReprReads
import OpenK.KOps
import OpenK.KMeth
import HandS.Strs
import PyProof.ReprLen
import PySem.Challenge.RW_numberbooks_k01_logs_kept
import HandS.ClsMeth
set_option Elab.async false
set_option linter.all false
set_option maxRecDepth 100000
/-! B1: rules whose readings compute: ints, tests, names -/
namespace NB
open PySem PySem.Spec PyProof.Rows L2

/-- two whole numbers, under C -/
@[reducible] def mI (C : Int → Int → Prop) (g : Int → Int → V) : R2 := fun x y H Q =>
  match x, y with
  | .int i, .int j => C i j ∧ Q (g i j) H
  | _, _ => False
@[reducible] def mI0 (g : Int → Int → V) : R2 := fun x y H Q =>
  match x, y with
  | .int i, .int j => Q (g i j) H
  | _, _ => False
@[reducible] def mU (g : Int → V) : V → Hp → VK → Prop := fun x H Q =>
  match x with
  | .int i => Q (g i) H
  | _ => False
section
variable {X : Cx}
theorem m_of {f : Value → Value → Sem Value} {C : Int → Int → Prop} {g : Int → Int → V} (h : OpR X f (rI C g)) : OpR X f (mI C g) := by
  intro pins s σ H x y v u Q I rx ry q
  cases x <;> cases y <;> first | exact False.elim q | exact h pins s σ H _ _ v u Q I rx ry ⟨_, _, rfl, rfl, q⟩
theorem m_of0 {f : Value → Value → Sem Value} {g : Int → Int → V} (h : OpR X f (rI0 g)) : OpR X f (mI0 g) := by
  intro pins s σ H x y v u Q I rx ry q
  cases x <;> cases y <;> first | exact False.elim q | exact h pins s σ H _ _ v u Q I rx ry ⟨_, _, rfl, rfl, q⟩
theorem m_ofU {f : Value → Sem Value} {g : Int → V} (h : UnR X f (rU g)) : UnR X f (mU g) := by
  intro pins s σ H x v Q I rx q
  cases x <;> first | exact False.elim q | exact h pins s σ H _ v Q I rx ⟨_, rfl, q⟩
/-- a divisor that is positive and has less than 9000 bits -/
def CDv (_ j : Int) : Prop := 0 < j ∧ j.natAbs.log2 < 9000
theorem o_fdiv : OpR X (binaryOp .FloorDiv) (rI CDv fun i j => .int (i / j)) := opI fun i j _ _ _ _ _ hc q => by
  have h1 : (0 : Int) < j := hc.1
  refine floordiv_int (by omega) ?_ (.inl (PyProof.noPylong_of_log2 hc.2))
  rw [Int.fdiv_eq_ediv_of_nonneg i (by omega)]
  exact q
theorem o_mul : OpR X (binaryOp .Mult) (rI IntMulOk fun i j => .int (i * j)) := opI fun _ _ _ _ _ _ _ hc q => mul_int q hc
theorem m_add : OpR X (binaryOp .Add) (mI0 fun i j => .int (i + j)) := m_of0 op_add
theorem m_sub : OpR X (binaryOp .Sub) (mI0 fun i j => .int (i - j)) := m_of0 op_sub
theorem m_mul : OpR X (binaryOp .Mult) (mI IntMulOk fun i j => .int (i * j)) := m_of o_mul
theorem m_div : OpR X (binaryOp .FloorDiv) (mI CDv fun i j => .int (i / j)) := m_of o_fdiv
theorem m_mod : OpR X (binaryOp .Mod) (mI (fun _ j => 0 < j) fun i j => .int (i % j)) := m_of op_mod
theorem m_pow : OpR X (binaryOp .Pow) (mI CPow fun i j => .int (i ^ j.toNat)) := m_of op_pow
theorem m_lt : OpR X (compareOp .Lt) (mI0 fun i j => .bl (decide (i < j))) := m_of0 op_lt
theorem m_le : OpR X (compareOp .LtE) (mI0 fun i j => .bl (decide (i ≤ j))) := m_of0 op_le
theorem m_gt : OpR X (compareOp .Gt) (mI0 fun i j => .bl (decide (j < i))) := m_of0 op_gt
theorem m_ge : OpR X (compareOp .GtE) (mI0 fun i j => .bl (decide (j ≤ i))) := m_of0 op_ge
theorem m_neg : UnR X (unaryOp .USub) (mU fun i => .int (-i)) := m_ofU un_neg
/-- == and != of numbers, texts, bools -/
@[reducible] def mEqG (f : Bool → Bool) : R2 := fun x y H Q =>
  match x, y with
  | .int i, .int j => Q (.bl (f (decide (i = j)))) H
  | .str i, .str j => Q (.bl (f (decide (i = j)))) H
  | .bl i, .bl j => Q (.bl (f (decide (i = j)))) H
  | _, _ => False
theorem dec_i {i j : Int} : decide (V.int i = V.int j) = decide (i = j) := by
  by_cases h : i = j
  · rw [h, decide_eq_true rfl, decide_eq_true rfl]
  · rw [decide_eq_false h, decide_eq_false (fun e => h (V.int.inj e))]
theorem dec_s {i j : Str} : decide (V.str i = V.str j) = decide (i = j) := by
  by_cases h : i = j
  · rw [h, decide_eq_true rfl, decide_eq_true rfl]
  · rw [decide_eq_false h, decide_eq_false (fun e => h (V.str.inj e))]
theorem dec_b {i j : Bool} : decide (V.bl i = V.bl j) = decide (i = j) := by
  cases i <;> cases j <;> rfl
theorem m_eq : OpR X (compareOp .Eq) (mEqG fun b => b) := by
  intro pins s σ H x y v u Q I rx ry q
  cases x <;> cases y <;> first | exact False.elim q | exact op_eq pins s σ H _ _ v u Q I rx ry ⟨rfl, by first | (rw [dec_i]; exact q) | (rw [dec_s]; exact q) | (rw [dec_b]; exact q)⟩
theorem m_ne : OpR X (compareOp .NotEq) (mEqG fun b => !b) := by
  intro pins s σ H x y v u Q I rx ry q
  cases x <;> cases y <;> first | exact False.elim q | exact op_ne pins s σ H _ _ v u Q I rx ry ⟨rfl, by first | (rw [dec_i]; exact q) | (rw [dec_s]; exact q) | (rw [dec_b]; exact q)⟩
end

/-- a value that is a bool, as a test -/
@[reducible] def kB (Q : Bool → Hp → Prop) : VK := fun x H => match x with
  | .bl c => Q c H
  | _ => False
@[reducible] def mT (t : TE) : TT := fun σ H Q => t σ H (kB Q)
section
variable {X : Cx} {a b c : Expr} {ta tb tc : TE} {pos : Pos}
theorem kB_ok {Q : Bool → Hp → Prop} {x : V} {H : Hp} (h : kB Q x H) : ∃ k, x = .bl k ∧ Q k H := by
  cases x <;> first | exact False.elim h | exact ⟨_, rfl, h⟩
/-- a comparison as a test -/
theorem qt {op : CmpOp} {r : R2} (ho : OpR X (compareOp op) r) (ha : PE X a ta) (hb : PE X b tb) (hm : behindInMarks op b = false) : PT X (.Compare a [op] [b] pos) (mT (tOp r ta tb)) := by
  refine ⟨fun pins s σ H Q I h => ?_⟩
  refine wpAny_isTrue_Compare1 (thn (ha.run pins s σ H _ I h) fun v s1 ⟨x, H1, I1, r1, q1⟩ => thn (hb.run pins s1 σ H1 _ I1 q1) fun u s2 ⟨y, H2, I2, r2, q2⟩ =>
    thn (ho pins s2 σ H2 x y v u _ I2 r1 r2 q2) fun d s3 ⟨z, H3, I3, r3, q3⟩ => ?_) hm
  obtain ⟨k, e, q4⟩ := kB_ok q3
  subst e
  cases r3
  exact wpAny_truthy_bool ⟨H3, I3, q4⟩
/-- an expression that gives a bool, as a test -/
theorem qv {e : Expr} {t : TE} (h : PE X e t) (he : ∀ whole, isTrue e X.env whole = (do let v ← whole; standAt e.pos; holding [v] (truthy v)) := by intro _; rfl) : PT X e (mT t) := by
  refine ⟨fun pins s σ H Q I hw => ?_⟩
  refine isTrue_plain (thn (h.run pins s σ H _ I hw) fun v s1 ⟨x, H1, I1, r1, q1⟩ => ?_) (he _)
  obtain ⟨k, e, q4⟩ := kB_ok q1
  subst e
  cases r1
  exact wpAny_truthy_bool ⟨H1, I1, q4⟩
end

/-- the value in slot i -/
@[reducible] def mV (i : Nat) : TE := fun σ H Q => match σ[i]? with
  | some (some v) => Q v H
  | _ => False
section
variable {X : Cx}
theorem mv (i : Nat) {x : Str} {pos : Pos} (hN : X.N[i]? = some x := by rfl) (hv : Vis X.env.scope x := by first | exact Or.inl rfl | exact Or.inr (Or.inl rfl) | exact Or.inr (Or.inr rfl)) (hd : (x == ("__debug__" : Str)) = false := by decide)
    (hcd : (x == ("__classdict__" : Str)) = false := by decide) : PE X (.Name x pos) (mV i) := by
  refine ⟨fun pins s σ H Q I h => (pe_var (pos := pos) hN hv hd hcd).run pins s σ H Q I ?_⟩
  unfold mV at h
  split at h
  · rename_i v e
    exact ⟨v, e, h⟩
  · exact h.elim
end

/-! ### tests -/
theorem ifD {p A B : Prop} [Decidable p] (h1 : p → A) (h2 : ¬ p → B) : if decide p = true then A else B := by
  by_cases h : p
  · rw [decide_eq_true h, if_pos rfl]; exact h1 h
  · rw [decide_eq_false h, if_neg Bool.false_ne_true]; exact h2 h
theorem ifND {p A B : Prop} [Decidable p] (h1 : ¬ p → A) (h2 : p → B) : if (!decide p) = true then A else B := by
  by_cases h : p
  · rw [decide_eq_true h]; exact (if_neg Bool.false_ne_true).mpr (h2 h)
  · rw [decide_eq_false h]; exact (if_pos rfl).mpr (h1 h)
theorem ifT {b : Bool} {A B : Prop} (hb : b = true) (h : A) : if b = true then A else B := by rw [if_pos hb]; exact h
theorem ifF {b : Bool} {A B : Prop} (hb : b = false) (h : B) : if b = true then A else B := by rw [hb, if_neg Bool.false_ne_true]; exact h

/-! ### heaps -/
/-- all that stood in H, but for what is in M, stands in H' -/
def Frm (M : List Addr) (H H' : Hp) : Prop := ∀ a o, H a = some o → a ∉ M → H' a = some o
theorem Frm.ext {M : List Addr} {H H' : Hp} (e : Ext H H') : Frm M H H' := fun a o h _ => e a o h
theorem Frm.trans {M : List Addr} {H H1 H2 : Hp} (a : Frm M H H1) (b : Frm M H1 H2) : Frm M H H2 := fun c o h n => b c o (a c o h n) n
theorem Frm.refl {M : List Addr} {H : Hp} : Frm M H H := fun _ _ h _ => h
theorem Frm.upd {M : List Addr} {H H1 : Hp} {p : Addr} {o : HO} (a : Frm M H H1) (h : p ∈ M) : Frm M H (L2.upd H1 p o) := fun c u e n => by
  rw [upd_ne (fun z => n (by rw [z]; exact h))]; exact a c u e n
theorem Frm.new {M : List Addr} {H H1 : Hp} {p : Addr} {o : HO} (a : Frm M H H1) (h : H1 p = none) : Frm M H (L2.upd H1 p o) := fun c u e n => by
  have e1 := a c u e n
  rw [upd_ne (ne_of_none e1 h)]; exact e1
theorem Frm.to_ext {H H' : Hp} (f : Frm [] H H') : Ext H H' := fun a o h => f a o h (by simp)
end NB

set_option Elab.async false
set_option linter.all false
set_option maxRecDepth 100000
/-! B2: items, own special methods, repr of data -/
namespace NB
open PySem PySem.Spec PyProof.Rows L2

/-- an item of a list or a tuple -/
@[reducible] def mIx (K : PySem.W.Frag) : R2 := fun x y H Q =>
  match x, y with
  | .ref p, .int i => ∃ xs v, (SqL K H p xs ∨ SqT K H p xs) ∧ atI xs i = some v ∧ Q v H
  | _, _ => False
section
variable {X : Cx}
theorem m_ix : IxR X (mIx X.K) := by
  have both : IxR X (fun x y H Q => rIxL X.K x y H Q ∨ rIxT X.K x y H Q) := ix_list.or ix_tup
  have imp : ∀ x y H Q, mIx X.K x y H Q → rIxL X.K x y H Q ∨ rIxT X.K x y H Q := by
    intro x y H Q q
    cases x <;> cases y <;> first | exact False.elim q | skip
    obtain ⟨xs, z, h | h, ha, q⟩ := q
    · exact .inl ⟨_, _, _, _, rfl, rfl, h, ha, q⟩
    · exact .inr ⟨_, _, _, _, rfl, rfl, h, ha, q⟩
  unfold IxR at both ⊢
  intros
  apply both <;> first | assumption | (apply imp; assumption)

variable {CX : CXT} {k : Nat} {C f : Addr} {fd : FuncData} {ps : List Str} {sp : Sp} {E : XK}
/-- x in o, o an own instance -/
theorem own_in (F : FnOk X.prog X.w X.K X.mg X.base CX k f fd ps sp) (hs : PySem.W.findIn X.K (.ref C) "__contains__" = some (some (.ref f))) (hf : PySem.W.isFn X.K (.ref f) = true) (hb : Binds X.K fd ps []) (hr : Room k X.A) (hx : Passes CX X E) :
    OpR X (compareOp .In) (fun x y H Q => ∃ a dx fs, y = .ref a ∧ H a = some (.ins C dx fs) ∧ sp [.ref a, x] H (kB fun b H' => Q (.bl b) H') E) := by
  intro pins s σ H x y v u Q I rx ry q
  obtain ⟨a, dx, fs, rfl, ha, q⟩ := q
  cases ry
  obtain ⟨mA, O, _⟩ := ins_get I.hok ha
  obtain ⟨od, J, _⟩ := O.look
  obtain ⟨m, hF⟩ := I.fr
  refine PySem.W.in_K hF I.ok.mod.kin J hs hf ?_
  refine thn (run_fn F hr hb .nil hx I (vs := [.ref a, _]) (.cons rfl (.cons rx .nil)) q) fun r s' z => ?_
  obtain ⟨z, H', I', rz, kz⟩ := z
  obtain ⟨b, e, q2⟩ := kB_ok kz
  subst e
  cases rz
  exact wpAny_truthy_bool ⟨.bl b, H', I', rfl, q2⟩
/-- len(o), o an own instance -/
theorem own_len (F : FnOk X.prog X.w X.K X.mg X.base CX k f fd ps sp) (hs : PySem.W.findIn X.K (.ref C) "__len__" = some (some (.ref f))) (hf : PySem.W.isFn X.K (.ref f) = true) (hb : Binds X.K fd ps []) (hr : Room (k + 1) X.A) (hx : Passes CX X E) :
    CallR X (.builtin "len") (fun xs H Q => ∃ a dx fs, xs = [.ref a] ∧ H a = some (.ins C dx fs) ∧ sp [.ref a] H (fun v H' => ∃ n : Nat, v = .int n ∧ n ≤ sizeLine ∧ Q (.int n) H') E) := by
  intro pins s σ H xs us Q I rx q
  obtain ⟨a, dx, fs, rfl, ha, q⟩ := q
  obtain ⟨u, rfl, ru⟩ := vals1 rx
  cases ru
  obtain ⟨mA, O, _⟩ := ins_get I.hok ha
  obtain ⟨od, J, _⟩ := O.look
  obtain ⟨m, hF⟩ := I.fr
  refine PySem.W.len_K hF I.ok.mod.kin J hs hf ?_
  have hl : ([Value.ref a] : List Value).length = ps.length := by rw [← F.len _ _ _ _ q]; rfl
  refine wpAny_call (codeAny_mono (F.run X.A.in1 X.stack s H ⟨[.ref a], []⟩ [.ref a] [.ref a] _ E hr.in1 I.env0.in1 (by have := hb s [.ref a] I.kIn (by simpa using hl); simpa using this) (.cons rfl .nil) q) fun r s' hq => ?_)
  cases r with
  | error er => exact hx pins σ H s er s' I hq
  | ok fl =>
    cases fl with
    | ret w =>
      obtain ⟨v, H', I3, rv, n, ev, hn, q3⟩ := I.after hq
      subst ev
      obtain ⟨t, rfl⟩ := rv
      have l63 := line63
      refine ⟨⟨by omega, by have : (n : Int) ≤ sizeLine := by exact_mod_cast hn
                            omega⟩, .int n, H', I3.tok _, ⟨_, rfl⟩, q3⟩
    | next => exact False.elim hq
    | brk => exact False.elim hq
    | cont => exact False.elim hq
/-- o == p, two own instances of one class (or p of a class that is not below o's) -/
theorem own_eq (hu : X.A.units < cLine) (F : FnOk X.prog X.w X.K X.mg X.base CX k f fd ps sp) (hs : PySem.W.findIn X.K (.ref C) "__eq__" = some (some (.ref f))) (hf : PySem.W.isFn X.K (.ref f) = true) (hb : Binds X.K fd ps []) (hr : Room k X.A) (hx : Passes CX X E) :
    OpR X (compareOp .Eq) (fun x y H Q => ∃ a b dx dy fs gs, x = .ref a ∧ y = .ref b ∧ H a = some (.ins C dx fs) ∧ H b = some (.ins C dy gs) ∧ sp [.ref a, .ref b] H (kB fun b H' => Q (.bl b) H') E) := by
  intro pins s σ H x y v u Q I rx ry q
  obtain ⟨a, b, dx, dy, fs, gs, rfl, rfl, ha, hb', q⟩ := q
  cases rx
  cases ry
  obtain ⟨mA, O, _⟩ := ins_get I.hok ha
  obtain ⟨mB, O', _⟩ := ins_get I.hok hb'
  obtain ⟨od, J, _⟩ := O.look
  obtain ⟨od', J', _⟩ := O'.look
  obtain ⟨m, hF⟩ := I.fr
  show wpAny (model X.prog X.w) X.A (richCompare .Eq _ _) (EP X pins σ Q) X.xe s
  refine PySem.W.cmp_K (op := .Eq) (tb := .ref C) hu hF I.ok.mod.kin J J'.type (by simp [PySem.W.notFirst]) hs hf ?_
  refine thn (run_fn F hr hb .nil hx I (vs := [.ref a, .ref b]) (.cons rfl (.cons rfl .nil)) q) fun r s' z => ?_
  obtain ⟨z, H', I', rz, kz⟩ := z
  obtain ⟨b, e, q2⟩ := kB_ok kz
  subst e
  cases rz
  exact ⟨.bl b, H', I', rfl, q2⟩

/-- repr of data -/
def mRep (K : PySem.W.Frag) : List V → Hp → VK → Prop := fun xs H Q => ∃ v d, xs = [v] ∧ Dp K H v d ∧ isDisplay d = true ∧ d.showable = true ∧ d.hasDict = false ∧ d.depth ≤ 60 ∧ d.shown.length ≤ sizeLine ∧ Q (.str d.shown) H
end
end NB

set_option Elab.async false
set_option linter.all false
set_option maxRecDepth 100000
/-! B3: promises of defs that run where nothing is being shown (repr) -/
namespace NB
open PySem PySem.Spec PyProof.Rows L2

section
variable {P : Program} {w : World} {K : PySem.W.Frag} {mg : Str → Option Value} {base : Heap}
/-- as FnOk, no display under way -/
structure FnG (P : Program) (w : World) (K : PySem.W.Frag) (mg : Str → Option Value) (base : Heap) (k : Nat) (f : Addr) (fd : FuncData) (ps : List Str) (sp : Sp) : Prop where
  len : ∀ vs H Q E, sp vs H Q E → vs.length = ps.length
  run : ∀ (A : Around) (o : List Env) (s : Shared) (H : Hp) (ar : Args) (us : List Value) (vs : List V) (Q : VK) (E : XK), Room k A → A.guards = some [] →
    Env0 P w K mg base A o s H → BindsTo s fd ar (ps.zip us) → Vals vs us → sp vs H Q E → codeAny (model P w) A (.call (.ref f) ar) (CR C8.CX0 o P w H s Q E) s
theorem gd_deeper {A : Around} {env : Env} (h : A.guards = some []) : (A.deeper env).guards = some [] := by
  unfold Around.deeper
  first | exact h | simp [h]
theorem fnG_of {x qual : Str} {st : Stmt} {f : Addr} {fd : FuncData} {N ps : List Str} {k : Nat} {sp : Sp} (F : C8.Fun K x qual st f fd) (S : FnScope N ps (C8.fnScope st)) (len : ∀ vs H Q E, sp vs H Q E → vs.length = ps.length)
    (hb : ∀ (cdv : Value) (A : Around) (o : List Env) (s : Shared) (H : Hp) (vs : List V) (Q : VK) (E : XK), Room k (A.deeper (envOfC qual (C8.fnScope st) s.heap.objs.size f cdv)) → A.guards = some [] → sp vs H Q E →
      ∃ t, PSs (cxOf C8.CX0 P w K mg base N qual (C8.fnScope st) f cdv A o s H E).nox (C8.fnBody st) t ∧ t { nx := fun _ H' => Q .non H', rt := Q } (start N vs) H) : FnG P w K mg base (k + 1) f fd ps sp := by
  obtain ⟨oc, od, dV, kV, doc, pm, an, cdv, ct, osl, rfl, lk, hcd⟩ := F.ex
  refine ⟨len, ?_⟩
  intro A o s H ar us vs Q E hr hgd e0 hbi r hsp
  have KX : K.In s.heap := e0.mod.kin.keeps fun b o e => (e0.bs b o e).1
  obtain ⟨t, ht, hq⟩ := hb cdv A o s H vs Q E (hr.deeper _) hgd hsp
  refine codeAny_call_function hr.depth (KX _ _ lk) rfl S.co S.gen rfl (PySem.W.codeRec_of KX hcd) (hbi _ _ _ _ (wpAny_newFunctionEnv_cells S.kind (fun y hy => ?_) fun env he s1 z => ?_))
  · obtain ⟨n, v⟩ := y
    exact (S.par n (List.of_mem_zip hy).1).elim .inl fun q => .inr ⟨q, PySem.W.cellsFrom_some _ _ _ (.inl q)⟩
  · subst he
    refine ⟨(e0.mod.nolimit.keeps fun b o e => (e0.bs b o e).1).keeps z.toInCall.keep, codeAny_func (wpAny_mono (ht.nox.run [] s1 (start N vs) H _ (inv_start S hr.hd e0 (len _ _ _ _ hsp) r z) hq) (fun fl s2 hs => ?_) fun _ _ q => q)⟩
    cases fl with
    | ret u =>
      obtain ⟨v, σ2, H2, J, rv, q⟩ := hs
      exact ⟨v, H2, J.os, J.bare, J.base, J.hok, rv, q⟩
    | next =>
      obtain ⟨σ2, H2, J, q⟩ := hs
      exact ⟨V.non, H2, J.os, J.bare, J.base, J.hok, rfl, q⟩
    | brk =>
      obtain ⟨_, _, _, q⟩ := hs
      exact q.elim
    | cont =>
      obtain ⟨_, _, _, q⟩ := hs
      exact q.elim
/-- one that may be called by its name -/
structure CalG (P : Program) (w : World) (K : PySem.W.Frag) (mg : Str → Option Value) (base : Heap) (k : Nat) (x : Str) (sp : Sp) : Prop where
  ex : ∃ (f : Addr) (fd : FuncData) (ps : List Str), FnG P w K mg base k f fd ps sp ∧ mg x = some (.ref f) ∧ PySem.W.keepIn K (.ref f) = true ∧ Binds K fd ps []
end
section
variable {X : Cx} {k j : Nat} {x : Str} {sp : Sp} {p pos : Pos} {e : Expr} {es : List Expr} {t : TA}
theorem run_g {f : Addr} {fd : FuncData} {ps : List Str} {pins : List (Addr × Obj)} {σ : L2.St} {H : Hp} {s : Shared} {Q : VK} {us : List Value} {vs : List V} (F : FnG X.prog X.w X.K X.mg X.base k f fd ps sp) (hr : Room k X.A) (hgd : X.A.guards = some [])
    (hb : Binds X.K fd ps []) (I : Inv X pins σ H s) (r : Vals vs us) (h : sp vs H Q C8.E0) : wpAny (model X.prog X.w) X.A (call (.ref f) us) (EP X pins σ Q) X.xe s := by
  have hl : us.length = ps.length := by rw [← r.length]; exact F.len _ _ _ _ h
  have b := hb s us I.kIn (by simpa using hl)
  rw [List.append_nil] at b
  refine wpAny_call (codeAny_mono (F.run X.A X.stack s H ⟨us, []⟩ us vs Q C8.E0 hr hgd I.env0 b r h) fun y s2 z => ?_)
  cases y with
  | error e => exact z.elim
  | ok fl => cases fl <;> first | exact I.after z | exact False.elim z
theorem pe_g (c : CalG X.prog X.w X.K X.mg X.base k x sp) (hr : Room j X.A) (hk : k ≤ j) (hgd : X.A.guards = some []) (hg : Gl X x) (ha : PA X (e :: es) t)
    (hdb : (x == ("__debug__" : Str)) = false := by decide) (he : starEach (e :: es) X.env = (false, eval e X.env) :: starEach es X.env := by rfl) (hpl : (backTo pos (starEach es X.env)).any (·.1) = false := by rfl) :
    PE X (.Call (.Name x p) (e :: es) [] pos) (tCall sp [] C8.E0 t) := by
  obtain ⟨f, fd, ps, F, hm, kp, b⟩ := c.ex
  refine ⟨fun pins s σ H Q I h => wpAny_Call_Name_kw (ld_glob I hg hm (PySem.W.callWith_K (h₀ := X.base) I.ok.mod.kin kp (thn (ha.run pos pins s σ H _ I h) fun us s1 z => ?_) he hpl) hdb)⟩
  obtain ⟨vs, H1, I1, r, q⟩ := z
  rw [List.append_nil] at q
  exact ⟨I1.kIn, run_g F (hr.mono hk) hgd b I1 r q⟩
/-- repr(v), v of data -/
theorem call_rep (hu : X.A.units + 64 < cLine) (hgd : X.A.guards = some []) : CallR X (.builtin "repr") (mRep X.K) := by
  intro pins s σ H xs us Q I rx q
  obtain ⟨v, d, rfl, dp, h1, h2, h3, h4, h5, q⟩ := q
  obtain ⟨u, rfl, ru⟩ := vals1 rx
  obtain ⟨as, r⟩ := Dp.reads I d v u dp ru
  obtain ⟨a, rfl⟩ := isRef_of_reads r h1
  exact repr_of_reads' r h2 (fun z => by rw [h3] at z; cases z) hgd (by omega) (fun _ _ e => e) (fun h' u' tk hk => ⟨.str d.shown, H, I.kept (t' := tk) hk, ⟨_, rfl⟩, q⟩) h5
end
end NB

set_option Elab.async false
set_option linter.all false
set_option maxRecDepth 100000
/-! B4: the end of a law whose def is promised where no display is under way -/
namespace NB
open PySem PySem.Spec PyProof.Rows L2

section
variable {P : Program} {w : World} {K : PySem.W.Frag} {mg mb : Str → Option Value} {k : Nat} {fa a : Addr} {fd : FuncData} {x : Str} {sp : Sp} {s : Shared} {vs : List Value} {ns : List Int}
/-- the call, over an abstract heap H that tracks the script at most -/
theorem law_at {H : Hp} (KX : K.In s.heap) (hns : s.heap.Ns mainGlobals mg) (hb : s.heap.Ns builtinsNs mb) (hbb : ∀ x : Str, x ≠ "__name__" → mb x = bootBuiltins x) (hlim : s.heap.NoLimit) (hg : s.gens = #[])
    (ha : s.heap.get? a = some { cls := .type "list", data := .seq vs.toArray }) (hr : Room k callerA)
    (F : ∀ base : Heap, K.In base → base.Ns mainGlobals mg → FnG P w K mg base k fa fd [x] sp) (hbind : ∀ (s : Shared) (u : Value), BindsTo s fd ⟨[u], []⟩ [(x, u)])
    (hsp : sp [.ref a] H (fun v _ => v = .bl true) C8.E0) (hO : Only H) (hok : HOk P w H s.heap) (hA : ∀ b u, H b = some u → b = a ∧ K.lookup a = none) :
    codeAny (model P w) callerA (.call (.ref fa) ⟨[.ref a], []⟩) (fun r s' => r = .ok (.ret (.bool true)) ∧ OldK s.heap s'.heap ∧ s'.os = s.os ∧ AllBare s'.gens) s := by
  have free : ∀ {b : Addr} {o : Obj} {es : Array DictEntry} {ep : Nat}, s.heap.get? b = some o → o.data = .dict es ep → H b = none := by
    intro b o es ep e d
    cases q : H b with
    | none => rfl
    | some u =>
      obtain ⟨rfl, _⟩ := hA b u q
      have eo : o = _ := Option.some.inj (e.symm.trans ha)
      rw [eo] at d
      cases d
  have nsH : ∀ {b : Addr} {m : Str → Option Value}, s.heap.Ns b m → (hidT s.heap H).Ns b m := by
    rintro b m ⟨o, es, ep, e, d, r⟩
    exact ⟨o, es, ep, hidT_get e (free e d), d, r⟩
  have kin : K.In (hidT s.heap H) := by
    intro b o e
    refine hidT_get (KX b o e) ?_
    cases q : H b with
    | none => rfl
    | some u =>
      obtain ⟨rfl, z⟩ := hA b u q
      rw [z] at e
      cases e
  obtain ⟨mc, l1, l2⟩ := hlim
  have e0 : Env0 P w K mg (hidT s.heap H) callerA [] s H :=
    ⟨rfl, ⟨kin, nsH hns, ⟨mb, nsH hb, hbb⟩, ⟨mc, nsH l1, l2⟩⟩, fun b o e => of_hidT e, Nat.le_of_eq (hidT_size _ _), trivial, fun b z => absurd (show b ∈ ([] : List Addr) from z) (by simp), hok, .of_eq hg⟩
  refine codeAny_mono ((F _ kin (nsH hns)).run callerA [] s H ⟨[.ref a], []⟩ [.ref a] [.ref a] _ _ hr rfl e0 (hbind s (.ref a)) (.cons rfl .nil) hsp) fun r s2 z => ?_
  rcases r with e | fl
  · exact z.elim
  cases fl <;> first | exact False.elim z | skip
  rename_i u
  obtain ⟨v, H2, os, bare, un, hok2, rv, q⟩ := z
  have qv : v = .bl true := q
  subst qv
  obtain rfl : u = Value.bool true := rv
  refine ⟨rfl, OldK.of_keep fun b o e => ?_, os, bare⟩
  rcases hO b with q | ⟨ob, xs, q⟩
  · exact un.keep b o e q (fun z => absurd (show b ∈ ([] : List Addr) from z) (by simp)) (by simp)
  · have h1 := (hok b _ q).1
    have h2 := (hok2 b _ (un.frzs b ob _ q)).1
    rw [Option.some.inj (e.symm.trans h1)]
    exact h2
theorem law_g (KX : K.In s.heap) (hns : s.heap.Ns mainGlobals mg) (hb : s.heap.Ns builtinsNs mb) (hbb : ∀ x : Str, x ≠ "__name__" → mb x = bootBuiltins x) (hlim : s.heap.NoLimit) (hg : s.gens = #[])
    (ha : s.heap.get? a = some { cls := .type "list", data := .seq vs.toArray }) (hi : IntsAre vs ns) (hl : ns.length ≤ sizeLine) (hr : Room k callerA)
    (F : ∀ base : Heap, K.In base → base.Ns mainGlobals mg → FnG P w K mg base k fa fd [x] sp) (hbind : ∀ (s : Shared) (u : Value), BindsTo s fd ⟨[u], []⟩ [(x, u)])
    (hsp : ∀ H : Hp, Only H → SqL K H a (ns.map V.int) → sp [.ref a] H (fun v _ => v = .bl true) C8.E0) :
    codeAny (model P w) callerA (.call (.ref fa) ⟨[.ref a], []⟩) (fun r s' => r = .ok (.ret (.bool true)) ∧ OldK s.heap s'.heap ∧ s'.os = s.os ∧ AllBare s'.gens) s := by
  have rv := vals_ints hi
  cases hk : K.lookup a with
  | some o =>
    have eo : o = _ := Option.some.inj ((KX a o hk).symm.trans ha)
    have hS : SqL K (fun _ => none) a (ns.map V.int) := .inr ⟨o, vs.toArray, _, hk, by rw [eo], by rw [eo], congrArg Obj.data eo, by rw [List.size_toArray, hi.length]; exact hl, rv⟩
    exact law_at KX hns hb hbb hlim hg ha hr F hbind (hsp _ (fun _ => .inl rfl) hS) (fun _ => .inl rfl) (fun b u z => nomatch z) (fun b u z => nomatch z)
  | none =>
    let o0 : Obj := { cls := .type "list", data := .seq vs.toArray }
    have at_ : ∀ b, L2.upd (fun _ => none) a (.frz o0 (.lst (ns.map V.int))) b = none ∨ (b = a ∧ L2.upd (fun _ => none) a (.frz o0 (.lst (ns.map V.int))) b = some (.frz o0 (.lst (ns.map V.int)))) := by
      intro b
      by_cases e : b = a
      · rw [e]; exact .inr ⟨rfl, upd_same⟩
      · exact .inl (upd_ne e)
    have hO : Only (L2.upd (fun _ => none) a (.frz o0 (.lst (ns.map V.int)))) := fun b => (at_ b).elim .inl fun z => .inr ⟨_, _, z.2⟩
    refine law_at KX hns hb hbb hlim hg ha hr F hbind (hsp _ hO (.inl (.inr ⟨o0, upd_same⟩))) hO ?_ ?_
    · intro b u z
      rcases at_ b with q | ⟨rfl, q⟩
      · rw [q] at z; cases z
      · rw [q] at z
        cases z
        exact ⟨ha, by rw [List.length_map]; exact hl, vs, _, rv, ha⟩
    · intro b u z
      rcases at_ b with q | ⟨e, q⟩
      · rw [q] at z; cases z
      · exact ⟨e, hk⟩
end
theorem walk_g {l : PySem.W.OpenLaw} {n k : Nat} {q : Program} {loose : List Str} {XP : (Str → Option Value) → Heap → Prop} {YP : World → Heap → Prop} {d : DefRec} {K : Params → PySem.W.Frag} {sp : PySem.W.Frag → Sp} {x : Str}
    (hn : l.most = some n) (hn2 : n ≤ sizeLine) (hdf : d.params.defaults = []) (hr : Room k callerA) (hY : ∀ (w : World) (h : Heap), YP w h → (K w.params).In h)
    (F : ∀ (w : World) (mg : Str → Option Value) (fa : Addr) (h : Heap), (K w.params).In h → h.Ns mainGlobals mg → mg d.name = some (.ref fa) →
      ∃ fd : FuncData, (∀ (s : Shared) (u : Value), BindsTo s fd ⟨[u], []⟩ [(x, u)]) ∧ ∀ base : Heap, (K w.params).In base → base.Ns mainGlobals mg → FnG l.prog w (K w.params) mg base k fa fd [x] (sp (K w.params)))
    (hsp : ∀ (K : PySem.W.Frag) (H : Hp) (a : Addr) (ns : List Int), ns.length ≤ n → Only H → SqL K H a (ns.map V.int) → sp K [.ref a] H (fun v _ => v = .bl true) C8.E0) :
    PySem.W.WalkO q loose XP YP l.row.toRowW d [] (fun f vs => PySem.call f vs) := by
  refine Att.attach_call hn hdf ?_
  intro w s0 s1 mg mb fa o pm cd doc a vs ns G Y ho hd hcd hmg hobj hints hlen hg
  obtain ⟨fd, hb, hF⟩ := F w mg fa _ (hY w _ Y) G.T.g hmg
  exact law_g (hY w _ Y) G.T.g G.T.b G.T.builtins G.T.nolimit hg hobj hints (Nat.le_trans hlen hn2) hr hF hb fun H hO hS => hsp _ H a ns hlen hO hS
end NB

set_option Elab.async false
set_option linter.all false
set_option maxRecDepth 100000
/-! B5: set(xs) of different texts, its length -/
namespace NB
open PySem PySem.Spec PyProof.Rows L2

theorem str_at : ∀ {us : List Value} {xs : List Str}, Vals (xs.map V.str) us → ∀ (i : Nat) (v : Value), us[i]? = some v → ∃ t, v = .str (xs.getD i Str.empty) t
  | _, [], .nil, i, v, h => by simp at h
  | _, x :: xs, .cons r q, 0, v, h => by
    obtain ⟨t, rfl⟩ := r
    simp at h
    exact ⟨t, h.symm⟩
  | _, x :: xs, .cons r q, i + 1, v, h => by
    simp only [List.getElem?_cons_succ] at h
    obtain ⟨t, e⟩ := str_at q i v h
    exact ⟨t, by rw [e]; rfl⟩
/-- membership in the first i of them -/
def inF (xs : List Str) (i : Nat) : Str → Bool := fun y => decide (y ∈ xs.take i)
theorem inF_succ {xs : List Str} {i : Nat} (h : i < xs.length) (y : Str) : (inF xs i y || decide (y = xs.getD i Str.empty)) = inF xs (i + 1) y := by
  have e : xs.getD i Str.empty = xs[i] := by simp [List.getD, h]
  rw [e]
  unfold inF
  rw [Bool.eq_iff_iff]
  simp only [Bool.or_eq_true, decide_eq_true_eq]
  rw [← List.take_append_getElem h]
  simp only [List.mem_append, List.mem_singleton]
theorem inF_new {xs : List Str} (nd : xs.Nodup) {i : Nat} (h : i < xs.length) : inF xs i (xs.getD i Str.empty) = false := by
  have e : xs.getD i Str.empty = xs[i] := by simp [List.getD, h]
  rw [e]
  refine decide_eq_false fun m => ?_
  obtain ⟨j, hj, e2⟩ := List.mem_iff_getElem.mp m
  rw [List.length_take] at hj
  rw [List.getElem_take] at e2
  have := (List.getElem_inj nd).mp e2
  omega
section
variable {prog : Program} {w : World} {A : Around} {R : Result → Shared → Prop} {I : Addr} {fp wr : List Addr} {G : Array GenState → Array GenState → Prop} {n : Nat} {Pv : Nat → Value → Prop} {St' : Nat → Shared → Prop}
theorem upd_strs (W : WalksS prog w A.in1 I fp wr G n Pv St') (S : Addr) (hSf : S ∉ fp) (xs : List Str) (hsz : xs.length = n) (nd : xs.Nodup) (hn : n + 1 < scanBound) (hval : ∀ i v, Pv i v → ∃ t, v = .str (xs.getD i Str.empty) t) :
    ∀ (k i : Nat) (s : Shared), n - i = k → i ≤ n → St' i s → s.heap.SetOf (PySem.strKind prog w) S (inF xs i) i →
      (∀ s', Moved (S :: wr) G s s' → s'.heap.SetOf (PySem.strKind prog w) S (inF xs n) n → R (.ok (.ret .none)) s') →
      codeAny (model prog w) A (.builtin "set.update.loop" ⟨[.ref S, .ref I], []⟩) R s := by
  have away : S ∉ wr := fun h => hSf (W.sub _ h)
  have more : ∀ b ∈ wr, b ∈ S :: wr := fun b hb => List.mem_cons_of_mem _ hb
  have carry : ∀ {s s' : Shared} {f : Str → Bool} {m : Nat}, Moved wr G s s' → s.heap.SetOf (PySem.strKind prog w) S f m → s'.heap.SetOf (PySem.strKind prog w) S f m := by
    rintro s s' f m mv ⟨o, es, ep, tb, ho, rest⟩
    exact ⟨o, es, ep, tb, mv.heap S _ away ho, rest⟩
  intro k
  induction k with
  | zero =>
    intro i s hk hi hst hS hR
    obtain rfl : i = n := by omega
    refine codeAny_builtin PyProof.Rows.F.entry_set_update_loop ?_
    rw [Around.under_plainId PyProof.Rows.F.plain_set_update_loop _]
    show wpAny _ A.in1 (pyNext (.ref I) >>= _) _ _ s
    exact wpAny_bind (W.done s _ _ hst fun s' mv => wpAny_pure (hR s' (mv.mono more) (carry mv hS)))
  | succ k ih =>
    intro i s hk hi hst hS hR
    have hlt : i < n := by omega
    have hlx : i < xs.length := by omega
    refine codeAny_builtin PyProof.Rows.F.entry_set_update_loop ?_
    rw [Around.under_plainId PyProof.Rows.F.plain_set_update_loop _]
    show wpAny _ A.in1 (pyNext (.ref I) >>= _) _ _ s
    refine wpAny_bind (W.item i s _ _ hlt hst fun v s' hP hst' mv => ?_)
    obtain ⟨t, rfl⟩ := hval i v hP
    show wpAny _ A.in1 (holding _ (setAdd S (.str (xs.getD i Str.empty) t)) >>= _) _ _ s'
    refine wpAny_bind (wpAny_holding ?_)
    unfold setAdd
    refine wpAny_holding (wpAny_bind ((PySem.strKind prog w).pyHash (k := xs.getD i Str.empty) (strKind_is _ _ _ _) ?_))
    refine wpAny_setAddHashed_of (knd := PySem.strKind prog w) (s := { s' with toks := s'.toks + 1 }) (strKind_is _ _ _ _) rfl (show s'.heap.SetOf _ _ _ _ from carry mv hS) (by omega) fun h' hsb hS2 => ?_
    rw [inF_new nd hlx] at hS2
    have hS3 : h'.SetOf (PySem.strKind prog w) S (inF xs (i + 1)) (i + 1) := SetOf_congr hS2 (fun y => inF_succ hlx y) (by simp)
    have off : ∀ {b : Addr}, b ∈ fp → b ≠ S := fun {b} hb e => hSf (by rw [← e]; exact hb)
    refine wpAny_pure ⟨plainId_quiet PyProof.Rows.F.plain_set_update_loop _, ih (i + 1) _ (by omega) hlt (W.frame _ s' _ _ hst' (Nat.le_succ _) fun b hb o e => ?_) hS3 fun s2 mv2 hS4 => ?_⟩
    · exact (hsb.2 b (off hb)).trans e
    · refine hR s2 (Moved.trans W.gtrans ((mv.mono more).then_heap (Nat.le_succ _) fun b o hb e => ?_) mv2) hS4
      exact (hsb.2 b fun z => hb (by rw [z]; exact List.mem_cons_self)).trans e
end
section
variable {prog : Program} {w : World} {A : Around} {E : Value → Shared → Prop} {s : Shared}
/-- a new empty set -/
abbrev set0 (led : Bool) : Obj := { cls := .type "set", dict := none, data := .set #[] 0 (.fresh 0 0 led) }
set_option maxHeartbeats 3200000 in
theorem call_set_strs {l : Addr} {items : Array Value} {xs : List Str} {Q : Value → Shared → Prop} (hh : A.handled = none) (hl : s.heap.IsList l items) (hi : Vals (xs.map V.str) items.toList) (nd : xs.Nodup) (hn : xs.length + 1 < scanBound)
    (h : ∀ (h' : Heap) (tk : Nat), h'.SetOf (PySem.strKind prog w) s.heap.objs.size (inF xs xs.length) xs.length →
      (∀ b o, b < s.heap.objs.size → s.heap.get? b = some o → h'.get? b = some o) → Q (.ref s.heap.objs.size) { s with heap := h', toks := tk }) :
    wpAny (model prog w) A (call (.type "set") [.ref l]) Q E s := by
  have hsz : xs.length = items.size := by have := hi.length; simpa using this
  obtain ⟨c, tl, e_mro⟩ := PySem.F.called_set.mro
  have e_made := PySem.F.called_set.made
  have e_sub := PySem.F.called_set.sub
  have e_type := PySem.F.called_set.notType
  have e_can := PySem.F.called_set.canCreate
  have e_check := PySem.F.typeCall_set_1 (.ref l)
  refine wpAny_call (codeAny_of_tree (show wpAny _ _ (callAny (.type "set") _) _ _ _ from wpAny_pure ⟨Code.quiet_builtin _ (by decide +kernel), codeAny_builtin PySem.F.entry_type_call ?_⟩))
  rw [Around.under_plain (weight_type_call_type "set" [.ref l] []) rfl]
  repeat (any_goals (first | assumption | wp_step))
  refine codeAny_mono (code_set_new_1 (.ref l) (E := E) (Q₁ := fun u z => ∃ led : Bool, u = .ref s.heap.objs.size ∧ z = { s with heap := s.heap.push (set0 led) }) fun led => ⟨led, rfl, rfl⟩) fun r s1 hr => ?_
  rcases r with e | fl
  · exact hr
  cases fl <;> first | exact hr.elim | skip
  obtain ⟨led, rfl, rfl⟩ := hr
  have hS : (s.heap.push (set0 led)).get? s.heap.objs.size = some (set0 led) := Heap.get?_push_size _ rfl
  have hT : Shared.TypeIs { s with heap := s.heap.push (set0 led) } (.ref s.heap.objs.size) "set" := ⟨_, hS, rfl⟩
  have e_init := PySem.F.called_set.init.lookup
  have e_bind := PySem.F.called_set.init.bind (.ref s.heap.objs.size)
  repeat (any_goals (first | assumption | wp_step))
  refine codeAny_mono (codeAny_call_builtin (R := wants (fun u z => u = .none ∧ ∃ h' tk, z = { s with heap := h', toks := tk } ∧ h'.SetOf (PySem.strKind prog w) s.heap.objs.size (inF xs xs.length) xs.length ∧
      (∀ b o, b < s.heap.objs.size → s.heap.get? b = some o → h'.get? b = some o)) E) PySem.F.called_set.init.plain PySem.F.entry_set_init (check_set_init_1 hT ?_)) fun r2 s2 hr2 => ?_
  · obtain ⟨⟨ocls, odict, odata, oslots⟩, hol, hcl, nl, hdl⟩ := hl
    simp only at hcl hdl
    subst hcl; subst hdl
    have hol2 : (s.heap.push (set0 led)).get? l = some { cls := .type "list", dict := odict, data := .seq items nl, slots := oslots } := Heap.get?_push_of_some _ hol
    have f1 := PySem.F.sub_list_set
    have f2 := PySem.F.sub_list_frozenset
    have f3 : (Value.type "list" == Value.type "dict") = false := by decide
    have hl1 : (s.heap.push (set0 led)).IsList l items := ⟨_, hol2, rfl, nl, rfl⟩
    unfold Builtin.«set.__init__» noKeywords Builtin.Frozenset.updateFrom
    generalize hPI : pyIter = PI
    wp_walk
    subst hPI
    refine wpAny_pyIter_list hl1 (wpAny_bind (wpAny_runValue ?_))
    have hlS : l < s.heap.objs.size := Heap.lt_size hol
    have size1 : (s.heap.push (set0 led)).objs.size = s.heap.objs.size + 1 := Heap.size_push _ _
    refine upd_strs ((Walks.list (by simp [hh]) _ l (by rw [size1]; exact Nat.ne_of_lt (Nat.lt_succ_of_lt hlS)) items).toS) s.heap.objs.size ?hSf xs hsz nd (by rw [← hsz]; exact hn)
      (fun i v hv => str_at hi i v (by rw [Array.getElem?_toList]; exact hv)) (items.size - 0) 0 _ (by omega) (Nat.zero_le _) ⟨⟨_, Heap.get?_push_size _ rfl, rfl, rfl⟩, (hl1.push _)⟩ ?hS0 ?hR
    case hSf =>
      rw [size1]
      intro z
      rcases List.mem_cons.mp z with z | z
      · exact Nat.ne_of_lt (Nat.lt_succ_self _) z
      · exact Nat.ne_of_gt hlS (List.mem_singleton.mp z)
    case hS0 =>
      have z : ((s.heap.push (set0 led)).push { cls := .type "list_iterator", data := .fields #[.ref l, .int 0 0] }).get? s.heap.objs.size = some (set0 led) := Heap.get?_push_of_some _ hS
      exact PyProof.Rows.SetOf_congr ((PyProof.Rows.setObjOf_fresh (knd := PySem.strKind prog w) led).setOf z (by unfold scanBound; omega)) (fun y => by simp [inF]) rfl
    case hR =>
      intro z mv hz
      obtain ⟨h', g', d', tk', os'⟩ := z
      obtain rfl : g' = s.gens := mv.gens
      obtain rfl : d' = s.drawn := mv.drawn
      obtain rfl : os' = s.os := mv.os
      show wpAny _ _ _ _ _ _
      refine wpAny_pure ?_
      show wpAny _ _ (ret Value.none) _ _ _
      rw [← hsz] at hz
      refine wpAny_pure ⟨rfl, h', tk', rfl, hz, fun b o hb e => mv.heap b o ?_ (Heap.get?_push_of_some _ (Heap.get?_push_of_some _ e))⟩
      rw [size1]
      intro q
      rcases List.mem_cons.mp q with q | q
      · exact Nat.ne_of_lt hb q
      · exact Nat.ne_of_lt (Nat.lt_succ_of_lt hb) (List.mem_singleton.mp q)
  · rcases r2 with e | fl2
    · exact hr2
    cases fl2 <;> first | exact hr2.elim | skip
    obtain ⟨rfl, h', tk, rfl, hz, keep⟩ := hr2
    repeat (any_goals (first | assumption | wp_step))
    exact h _ _ hz keep
end
/-- len(set(xs)), xs a list of different texts -/
def mLenSet (K : PySem.W.Frag) (ta : TE) : TE := fun σ H Q => ta σ H fun x H1 => ∃ (l : Addr) (xs : List Str), x = V.ref l ∧ SqL K H1 l (xs.map V.str) ∧ xs.length ≤ 1000 ∧ xs.Nodup ∧ Q (.int xs.length) H1
section
variable {X : Cx}
theorem pe_lenSetS {a : Expr} {ta : TE} {p p2 q pos : Pos} (hc : X.calm = true) (hg : Gl X "len") (hm : X.mg "len" = none) (hg2 : Gl X "set") (hm2 : X.mg "set" = none) (ha : PE X a ta)
    (na : starEach [a] X.env = (false, eval a X.env) :: starEach [] X.env := by rfl) : PE X (.Call (.Name "len" p) [.Call (.Name "set" p2) [a] [] q] [] pos) (mLenSet X.K ta) := by
  refine ⟨fun pins s σ H Q I h => Call_ (ld_blt I hg hm PySem.boot_len (PyProof.Rows.callWith_builtin1 (PyProof.Rows.args_cons ?_ rfl) rfl rfl))⟩
  refine Call_ (ld_blt I hg2 hm2 PyProof.Rows.boot_set (PyProof.Rows.callWith_type1 (PyProof.Rows.args_cons (thn (ha.run pins s σ H _ I h) fun v s1 z => PyProof.Rows.args_nil ?_) na) na rfl))
  obtain ⟨x, H1, I1, r1, l, xs, rfl, hq, h1, nd, q1⟩ := z
  cases r1
  obtain ⟨its, r, pl, _⟩ := I1.list hq
  refine call_set_strs (xs := xs) (I1.ok.hd hc) pl.isList (by simpa using r) nd (by unfold scanBound; omega) fun h' tk hS hk => PyProof.Rows.args_nil ?_
  obtain ⟨o, es, ep, t, ho, hex, hd, _, _, _, hf, hn⟩ := hS
  have I2 : Inv X pins σ H1 { s1 with heap := h', toks := tk } := I1.kept fun b o e => hk b o (Heap.lt_size e) e
  exact call_len_set ho hex hd hf (by rw [hn]; omega) ⟨.int xs.length, H1, I2.tok _, ⟨_, by rw [hn]⟩, q1⟩
end
end NB

set_option Elab.async false
set_option linter.all false
set_option maxRecDepth 100000
/-! D1: the data of logs, what the top must have, promises -/
namespace NB
open PySem PySem.Spec L2
open PyProof.Rows (envOfC)

/-! ### data -/
/-- a name: one to eight small letters -/
def nameB (z : Str) : Bool := decide (1 ≤ z.length) && decide (z.length ≤ 8) && z.cps.toList.all fun c => decide (97 ≤ c) && decide (c ≤ 122)
structure CrewOk (ns : List Str) : Prop where
  one : 1 ≤ ns.length
  few : ns.length ≤ 12
  nam : ∀ z ∈ ns, nameB z = true
  nd : ns.Nodup
structure EntsOk (ns : List Str) (es : List (Str × Int)) : Prop where
  few : es.length ≤ 200
  ok : ∀ e ∈ es, e.1 ∈ ns ∧ 0 ≤ e.2
def SizeOk (sz : Int) : Prop := 1 ≤ sz ∧ sz ≤ 10 ^ 30
/-- v is the tuple of e -/
def EntAt (H : Hp) (e : Str × Int) (v : V) : Prop := ∃ p, v = .ref p ∧ H p = some (.tup [.str e.1, .int e.2])
abbrev EntL (H : Hp) : List (Str × Int) → List V → Prop := Paired (EntAt H)
theorem EntAt.mono {H H' : Hp} {e : Str × Int} {v : V} (h : EntAt H e v) (x : Ext H H') : EntAt H' e v := by
  obtain ⟨p, rfl, q⟩ := h
  exact ⟨p, rfl, x _ _ q⟩
theorem EntL.mono {H H' : Hp} {es : List (Str × Int)} {vs : List V} (h : EntL H es vs) (x : Ext H H') : EntL H' es vs := Paired.mapP h fun _ _ q => EntAt.mono q x
theorem upd_none {H : Hp} {p d : Addr} {o : HO} (h : upd H p o d = none) : d ≠ p ∧ H d = none := by
  by_cases e : d = p
  · rw [e, upd_same] at h; cases h
  · exact ⟨e, by rw [upd_ne e] at h; exact h⟩
theorem Ext.free {H H' : Hp} (e : Ext H H') {l : Addr} (h : H' l = none) : H l = none := Same.free (show Same H H' from e) h
/-- tuples stand under every change -/
def TupSt (H H' : Hp) : Prop := ∀ a xs, H a = some (.tup xs) → H' a = some (.tup xs)
theorem TupSt.ext {H H' : Hp} (x : Ext H H') : TupSt H H' := fun a xs h => x a _ h
theorem TupSt.upd {H : Hp} {p : Addr} {o u : HO} (h : H p = some u) (d : ∀ xs, u ≠ .tup xs) : TupSt H (L2.upd H p o) := fun a xs e => by
  rw [upd_ne (ne_of e h (fun z => d xs z.symm))]; exact e
theorem TupSt.trans {H H1 H2 : Hp} (a : TupSt H H1) (b : TupSt H1 H2) : TupSt H H2 := fun c xs h => b c xs (a c xs h)
theorem EntL.st {H H' : Hp} {es : List (Str × Int)} {vs : List V} (h : EntL H es vs) (x : TupSt H H') : EntL H' es vs := Paired.mapP h fun _ _ q => by
  obtain ⟨p, e, q⟩ := q
  exact ⟨p, e, x _ _ q⟩
theorem Frm.tups {p : Addr} {H H' : Hp} {o : HO} (f : Frm [p] H H') (hp : H p = some o) (d : ∀ xs, o ≠ .tup xs) : TupSt H H' := fun a xs h => f a _ h fun z => by
  rw [List.mem_singleton.mp z, hp] at h
  exact d xs (Option.some.inj h)
theorem mem1 {p : Addr} : p ∈ [p] := List.mem_singleton.mpr rfl
/-- readings of tests -/
theorem kNe {i j : Int} {Q : Bool → Hp → Prop} {H : Hp} (h : Q (!decide (i = j)) H) : mEqG (fun b => !b) (.int i) (.int j) H (kB Q) := h
theorem kEq {i j : Int} {Q : Bool → Hp → Prop} {H : Hp} (h : Q (decide (i = j)) H) : mEqG (fun b => b) (.int i) (.int j) H (kB Q) := h
theorem kNeS {i j : Str} {Q : Bool → Hp → Prop} {H : Hp} (h : Q (!decide (i = j)) H) : mEqG (fun b => !b) (.str i) (.str j) H (kB Q) := h
theorem kEqS {i j : Str} {Q : Bool → Hp → Prop} {H : Hp} (h : Q (decide (i = j)) H) : mEqG (fun b => b) (.str i) (.str j) H (kB Q) := h
theorem kNeB {i j : Bool} {Q : Bool → Hp → Prop} {H : Hp} (h : Q (!decide (i = j)) H) : mEqG (fun b => !b) (.bl i) (.bl j) H (kB Q) := h
theorem kI {c : Bool} {Q : Bool → Hp → Prop} {H : Hp} (h : Q c H) : kB Q (.bl c) H := h
/-- the fields of a log as __init__ stores them -/
def lf (sz : Int) (ls le : Addr) : List (Str × V) := putF "held_entries" (.ref le) (putF "held_servers" (.ref ls) (putF "held_size" (.int sz) []))
theorem lf_size (sz : Int) (ls le : Addr) : (lf sz ls le).lookup ("held_size" : Str) = some (.int sz) := by
  unfold lf
  rw [lookup_putF, if_neg (by decide +kernel), lookup_putF, if_neg (by decide +kernel), lookup_putF, if_pos rfl]
theorem lf_servers (sz : Int) (ls le : Addr) : (lf sz ls le).lookup ("held_servers" : Str) = some (.ref ls) := by
  unfold lf
  rw [lookup_putF, if_neg (by decide +kernel), lookup_putF, if_pos rfl]
theorem lf_entries (sz : Int) (ls le : Addr) : (lf sz ls le).lookup ("held_entries" : Str) = some (.ref le) := by
  unfold lf
  rw [lookup_putF, if_pos rfl]
theorem lf_no (sz : Int) (ls le : Addr) {m : Str} (h1 : ¬ m = "held_entries") (h2 : ¬ m = "held_servers") (h3 : ¬ m = "held_size") : (lf sz ls le).lookup m = none := by
  unfold lf
  rw [lookup_putF, if_neg h1, lookup_putF, if_neg h2, lookup_putF, if_neg h3]
  rfl
/-- a log of the class at C stands at p -/
def LogAt (C : Addr) (H : Hp) (p : Addr) (sz : Int) (ns : List Str) (es : List (Str × Int)) : Prop :=
  ∃ dx ls le vs, H p = some (.ins C dx (lf sz ls le)) ∧ H ls = some (.lst (ns.map V.str)) ∧ H le = some (.lst vs) ∧ EntL H es vs
theorem LogAt.mono {C : Addr} {H H' : Hp} {p : Addr} {sz : Int} {ns : List Str} {es : List (Str × Int)} (h : LogAt C H p sz ns es) (x : Ext H H') : LogAt C H' p sz ns es := by
  obtain ⟨dx, ls, le, vs, h1, h2, h3, h4⟩ := h
  exact ⟨dx, ls, le, vs, x _ _ h1, x _ _ h2, x _ _ h3, h4.mono x⟩

/-! ### what is an entry -/
inductive SrvJ (K : PySem.W.Frag) (H : Hp) (ns : List Str) : V → Bool → Prop where
  | str (z : Str) : SrvJ K H ns (.str z) (decide (z ∈ ns))
  | kind {x : V} {t : Value} : TyX K H x t → PySem.W.kitOne K t (.type "str") = some false → SrvJ K H ns x false
inductive IntJ (K : PySem.W.Frag) (H : Hp) : V → Bool → Prop where
  | int (i : Int) : IntJ K H (.int i) true
  | bl (b : Bool) : IntJ K H (.bl b) false
  | kind {x : V} {t : Value} : TyX K H x t → PySem.W.kitOne K t (.type "int") = some false → IntJ K H x false
inductive Jd (K : PySem.W.Frag) (H : Hp) (ns : List Str) : V → Option (Str × Int) → Prop where
  | kind {x : V} {t : Value} : TyX K H x t → PySem.W.kitOne K t (.type "tuple") = some false → Jd K H ns x none
  | size {p : Addr} {xs : List V} : H p = some (.tup xs) → xs.length ≠ 2 → Jd K H ns (.ref p) none
  | srv {p : Addr} {x y : V} : H p = some (.tup [x, y]) → SrvJ K H ns x false → Jd K H ns (.ref p) none
  | num {p : Addr} {x y : V} : H p = some (.tup [x, y]) → SrvJ K H ns x true → IntJ K H y false → Jd K H ns (.ref p) none
  | neg {p : Addr} {x : V} {i : Int} : H p = some (.tup [x, .int i]) → SrvJ K H ns x true → i < 0 → Jd K H ns (.ref p) none
  | ok {p : Addr} {z : Str} {i : Int} : H p = some (.tup [.str z, .int i]) → z ∈ ns → 0 ≤ i → Jd K H ns (.ref p) (some (z, i))

/-! ### what the top must have -/
structure LogC (K : PySem.W.Frag) (C : Addr) (kd : Str) : Prop where
  cl : Cls K C
  nS : NoAttr K C "held_size"
  nV : NoAttr K C "held_servers"
  nE : NoAttr K C "held_entries"
  kd : ∃ u, Con K C "KIND" (.str kd) u
  ty : ∀ H p dx fs, H p = some (.ins C dx fs) → TyX K H (.ref p) (.ref C)
  nt : PySem.W.kitOne K (.ref C) (.type "tuple") = some false
abbrev GV (mg : Str → Option Value) (x : Str) (v : V) : Prop := ∃ u, mg x = some u ∧ RelV v u
structure Blt (mg : Str → Option Value) : Prop where
  n_len : mg "len" = none
  n_isinstance : mg "isinstance" = none
  n_int : mg "int" = none
  n_bool : mg "bool" = none
  n_str : mg "str" = none
  n_list : mg "list" = none
  n_tuple : mg "tuple" = none
  n_all : mg "all" = none
  n_set : mg "set" = none
  n_max : mg "max" = none
  n_min : mg "min" = none
  n_abs : mg "abs" = none
  n_range : mg "range" = none
  n_repr : mg "repr" = none
abbrev LETT : Str := "abcdefghijklmnopqrstuvwxyz"
structure Tx (K : PySem.W.Frag) (mg : Str → Option Value) (cL cX : Addr) : Prop extends Blt mg where
  g_GREATEST_SIZE : GV mg "GREATEST_SIZE" (.int (10 ^ 30))
  g_MOST_SERVERS : GV mg "MOST_SERVERS" (.int 12)
  g_MOST_LETTERS : GV mg "MOST_LETTERS" (.int 8)
  g_MOST_ENTRIES : GV mg "MOST_ENTRIES" (.int 200)
  g_LETTERS : GV mg "LETTERS" (.str LETT)
  g_LOSING : GV mg "LOSING" (.str "losing")
  g_Log : GV mg "Log" (.ref cL)
  g_LosingLog : GV mg "LosingLog" (.ref cX)
  cl1 : LogC K cL "steady"
  cl2 : LogC K cX "losing"
  ll : PySem.W.kitOne K (.ref cL) (.ref cL) = some true
  xl : PySem.W.kitOne K (.ref cX) (.ref cL) = some true
  lx : PySem.W.kitOne K (.ref cL) (.ref cX) = some false
  xx : PySem.W.kitOne K (.ref cX) (.ref cX) = some true
/-- a def of the module -/
structure Dx (K : PySem.W.Frag) (mg : Str → Option Value) (x : Str) (st : Stmt) (ps : List Str) : Prop where
  ex : ∃ f fd, C8.Def K mg x st f fd ∧ Binds K fd ps []
/-- a method's def -/
structure Mx (K : PySem.W.Frag) (m qual : Str) (st : Stmt) (ps : List Str) (f : Addr) (fd : FuncData) : Prop where
  fn : C8.Fun K m qual st f fd
  b : Binds K fd ps []
section
variable {P : Program} {w : World} {K : PySem.W.Frag} {mg : Str → Option Value} {base : Heap}
theorem cal_of {x : Str} {st : Stmt} {N ps : List Str} {k : Nat} {sp : Sp} (D : Dx K mg x st ps) (S : FnScope N ps (C8.fnScope st)) (len : ∀ vs H Q E, sp vs H Q E → vs.length = ps.length)
    (hb : ∀ (f : Addr) (cdv : Value) (A : Around) (o : List Env) (s : Shared) (H : Hp) (vs : List V) (Q : VK) (E : XK), Room k (A.deeper (envOfC x (C8.fnScope st) s.heap.objs.size f cdv)) → sp vs H Q E →
      ∃ t, PSs (cxOf C8.CX0 P w K mg base N x (C8.fnScope st) f cdv A o s H E).nox (C8.fnBody st) t ∧ t { nx := fun _ H' => Q .non H', rt := Q } (start N vs) H) : C8.Cal P w K mg base (k + 1) x sp [] := by
  obtain ⟨f, fd, F, b⟩ := D.ex
  exact C8.cal0 F b .nil S len fun cdv A o s H vs Q E hr h => hb f cdv A o s H vs Q E hr h
theorem calG_of {x : Str} {st : Stmt} {N ps : List Str} {k : Nat} {sp : Sp} (D : Dx K mg x st ps) (S : FnScope N ps (C8.fnScope st)) (len : ∀ vs H Q E, sp vs H Q E → vs.length = ps.length)
    (hb : ∀ (f : Addr) (cdv : Value) (A : Around) (o : List Env) (s : Shared) (H : Hp) (vs : List V) (Q : VK) (E : XK), Room k (A.deeper (envOfC x (C8.fnScope st) s.heap.objs.size f cdv)) → A.guards = some [] → sp vs H Q E →
      ∃ t, PSs (cxOf C8.CX0 P w K mg base N x (C8.fnScope st) f cdv A o s H E).nox (C8.fnBody st) t ∧ t { nx := fun _ H' => Q .non H', rt := Q } (start N vs) H) : CalG P w K mg base (k + 1) x sp := by
  obtain ⟨f, fd, F, b⟩ := D.ex
  exact ⟨f, fd, ps, fnG_of F.fn S len fun cdv A o s H vs Q E hr hgd h => hb f cdv A o s H vs Q E hr hgd h, F.mgf, F.kp, b⟩
theorem fn_of' {m qual : Str} {st : Stmt} {f : Addr} {fd : FuncData} {N ps : List Str} {k : Nat} {sp : Sp} (D : Mx K m qual st ps f fd) (S : FnScope N ps (C8.fnScope st)) (len : ∀ vs H Q E, sp vs H Q E → vs.length = ps.length)
    (hb : ∀ (cdv : Value) (A : Around) (o : List Env) (s : Shared) (H : Hp) (vs : List V) (Q : VK) (E : XK), Room k (A.deeper (envOfC qual (C8.fnScope st) s.heap.objs.size f cdv)) → sp vs H Q E →
      ∃ t, PSs (cxOf C8.CX0 P w K mg base N qual (C8.fnScope st) f cdv A o s H E).nox (C8.fnBody st) t ∧ t { nx := fun _ H' => Q .non H', rt := Q } (start N vs) H) : FnOk P w K mg base C8.CX0 (k + 1) f fd ps sp :=
  C8.fn0 D.fn S len hb
end
theorem u65 {k : Nat} {A : Around} (hr : Room k A) : A.units + 65 < cLine := by have := hr.un; omega
/-! ### a comprehension over a text -/
theorem lc_txt {x : Str} {g : TG} {tt : TT} {te : TE} {vs : List Nat} {σ : L2.St} {H1 : Hp} {D : Addr} {Qd : Hp → Prop} (Pv : Nat → Hp → Prop) (h0 : Pv 0 (upd H1 D (.lst [])))
    (hs : ∀ i c H, x.cps.toList[i]? = some c → Pv i H → g (.str ⟨#[c]⟩) (wipe σ vs) H fun σ2 H2 => wipe σ2 vs = wipe σ vs ∧ tt σ2 H2 fun b H3 =>
      if b = true then te σ2 H3 fun y H4 => ∃ acc, H4 D = some (.lst acc) ∧ acc.length < sizeLine ∧ Pv (i + 1) (upd H4 D (.lst (acc ++ [y]))) else Pv (i + 1) H3) (hd : ∀ H, Pv x.cps.size H → Qd H) :
    ∃ W : Nat → Nat → Hp → Prop, (∃ m, W 0 m (upd H1 D (.lst []))) ∧ ∀ i m H, W i m H →
      ((Its x).stop i H ∧ Qd H) ∨ ((Its x).go i H ∧ ∃ Nx : Hp → Prop, (∀ H', Nx H' → ∃ m', m' < m ∧ W (i + 1) m' H') ∧ ∀ y H', (Its x).yld i H y H' → g y (wipe σ vs) H' fun σ2 H2 => wipe σ2 vs = wipe σ vs ∧ tt σ2 H2 fun b H3 =>
        if b = true then te σ2 H3 fun y H4 => ∃ acc, H4 D = some (.lst acc) ∧ acc.length < sizeLine ∧ Nx (upd H4 D (.lst (acc ++ [y]))) else Nx H3) := by
  refine ⟨fun i m H => m = x.cps.size - i ∧ i ≤ x.cps.size ∧ Pv i H, ⟨x.cps.size, by simp, Nat.zero_le _, h0⟩, ?_⟩
  rintro i m H ⟨rfl, hi, p⟩
  rcases Nat.lt_or_ge i x.cps.size with h | h
  · refine .inr ⟨h, Pv (i + 1), fun H' p' => ⟨x.cps.size - (i + 1), by omega, rfl, h, p'⟩, ?_⟩
    rintro y H' ⟨rfl, c, e, rfl⟩
    exact hs i c _ (by rw [Array.getElem?_toList]; exact e) p
  · obtain rfl : i = x.cps.size := by omega
    exact .inl ⟨Nat.le_refl _, hd H p⟩
end NB

set_option Elab.async false
set_option linter.all false
set_option maxRecDepth 100000
/-! D3: data that can be shown -/
namespace NB
open PySem PySem.Spec L2

structure Sm (W n : Nat) (d : PyData) : Prop where
  lay : d.canLay0 = true
  sho : d.showable = true
  nod : d.hasDict = false
  dep : d.depth ≤ n
  ish : d.intsShort 61 = true
  wt : d.weight ≤ W
theorem Sm.mono {W n W' n' : Nat} {d : PyData} (h : Sm W n d) (h1 : W ≤ W') (h2 : n ≤ n') : Sm W' n' d := ⟨h.lay, h.sho, h.nod, Nat.le_trans h.dep h2, h.ish, Nat.le_trans h.wt h1⟩
theorem pow_log {m : Nat} (h : m < 10 ^ 60) : m.log2 < 200 := by
  by_cases e : m = 0
  · subst e; decide
  · rw [Nat.log2_lt e]
    exact Nat.lt_of_lt_of_le h (by decide)
theorem Sm.int {i : Int} (h : i.natAbs < 10 ^ 60) : Sm 200 0 (.int i) := by
  have l := pow_log h
  refine ⟨rfl, ?_, rfl, Nat.le_refl _, ?_, ?_⟩
  · show decide (i.natAbs.log2 < 1920) = true
    exact decide_eq_true (by omega)
  · show decide ((PyData.shown (.int i)).length ≤ 61) = true
    refine decide_eq_true ?_
    show (Str.ofString (toString i)).length ≤ 61
    rw [ofString_length]
    exact int_text_length_le10 (k := 60) (by decide) h
  · show (if i == 0 then 0 else i.natAbs.log2 + 1) ≤ 200
    split <;> omega
theorem Sm.str {z : Str} (h : PyData.canLay0 (.str z) = true) (hl : z.length ≤ 100) : Sm 100 0 (.str z) := ⟨h, rfl, rfl, Nat.le_refl _, rfl, hl⟩
section
variable {W n : Nat}
theorem smAll : ∀ {ds : List PyData}, (∀ d ∈ ds, Sm W n d) → PyData.canLayAll0 ds = true ∧ PyData.showableAll ds = true ∧ PyData.hasDictAll ds = false ∧ PyData.depthAll ds ≤ n ∧ PyData.intsShortAll 61 ds = true ∧ PyData.weightAll ds ≤ (W + 1) * ds.length
  | [], _ => by simp [PyData.canLayAll0, PyData.showableAll, PyData.hasDictAll, PyData.depthAll, PyData.intsShortAll, PyData.weightAll]
  | d :: ds, h => by
    obtain ⟨h1, h2, h3, h4, h5, h6⟩ := smAll fun x hx => h x (List.mem_cons_of_mem _ hx)
    have g := h d List.mem_cons_self
    simp only [PyData.canLayAll0, PyData.showableAll, PyData.hasDictAll, PyData.depthAll, PyData.intsShortAll, PyData.weightAll, Bool.and_eq_true, Bool.or_eq_false_iff, List.length_cons]
    refine ⟨⟨g.lay, h1⟩, ⟨g.sho, h2⟩, ⟨g.nod, h3⟩, Nat.max_le.mpr ⟨g.dep, h4⟩, ⟨g.ish, h5⟩, ?_⟩
    have := g.wt
    rw [Nat.mul_add, Nat.mul_one]
    omega
theorem Sm.list {ds : List PyData} {m : Nat} (h : ∀ d ∈ ds, Sm W n d) (hm : ds.length ≤ m) : Sm ((W + 1) * m) (n + 1) (.list ds) := by
  obtain ⟨h1, h2, h3, h4, h5, h6⟩ := smAll h
  exact ⟨by simpa only [PyData.canLay0] using h1, by simpa only [PyData.showable] using h2, by simpa only [PyData.hasDict] using h3, by show PyData.depthAll ds + 1 ≤ n + 1; omega, by simpa only [PyData.intsShort] using h5,
    Nat.le_trans h6 (Nat.mul_le_mul (Nat.le_refl _) hm)⟩
theorem Sm.tuple {ds : List PyData} {m : Nat} (h : ∀ d ∈ ds, Sm W n d) (hm : ds.length ≤ m) : Sm ((W + 1) * m) (n + 1) (.tuple ds) := by
  obtain ⟨h1, h2, h3, h4, h5, h6⟩ := smAll h
  exact ⟨by simpa only [PyData.canLay0] using h1, by simpa only [PyData.showable] using h2, by simpa only [PyData.hasDict] using h3, by show PyData.depthAll ds + 1 ≤ n + 1; omega, by simpa only [PyData.intsShort] using h5,
    Nat.le_trans h6 (Nat.mul_le_mul (Nat.le_refl _) hm)⟩
theorem Sm.fits {d : PyData} (h : Sm W n d) (hW : W ≤ 200000) : d.shown.length ≤ sizeLine := by
  have h1 := PyData.shown_le 61 (by decide) d (PyData.leavesShort_of_canLay0 61 d h.lay h.ish)
  have h2 : (61 + 2) * d.weight ≤ 63 * 200000 := Nat.mul_le_mul (by decide) (Nat.le_trans h.wt hW)
  rw [sizeLine_eq]
  omega
theorem Sm.shaped {d : PyData} (h : Sm W n d) (hn : n ≤ 60) : SeqAt.shaped d = true := Bool.and_eq_true_iff.mpr ⟨h.lay, decide_eq_true (Nat.le_trans h.dep (by omega))⟩
end
/-- repr of it -/
theorem rep_of {K : PySem.W.Frag} {H : Hp} {v : V} {d : PyData} {W n : Nat} {Q : VK} (dp : Dp K H v d) (sm : Sm W n d) (hd : PyProof.Rows.isDisplay d = true) (hW : W ≤ 200000) (hn : n ≤ 60) (q : Q (.str d.shown) H) : mRep K [v] H Q :=
  ⟨v, d, rfl, dp, hd, sm.sho, sm.nod, Nat.le_trans sm.dep hn, sm.fits hW, q⟩
end NB

set_option Elab.async false
set_option linter.all false
set_option maxRecDepth 100000
namespace NB
open PySem PySem.Spec PyProof.Rows L2 C8
def top (i : Nat) : Stmt := PySem.Challenge.pw_numberbooks_k01_logs_kept.main.body.getD i (.Pass ⟨0, 0, 0, 0⟩)
abbrev s_is_integer : Stmt := top 14
theorem sc_is_integer : FnScope ["thing"] ["thing"] (fnScope s_is_integer) := fnScope_by (by decide +kernel)
abbrev s_is_size : Stmt := top 15
theorem sc_is_size : FnScope ["thing"] ["thing"] (fnScope s_is_size) := fnScope_by (by decide +kernel)
abbrev s_is_name : Stmt := top 16
theorem sc_is_name : FnScope ["thing", "letter"] ["thing"] (fnScope s_is_name) := fnScope_by (by decide +kernel)
abbrev s_are_servers : Stmt := top 17
theorem sc_are_servers : FnScope ["thing", "name"] ["thing"] (fnScope s_are_servers) := fnScope_by (by decide +kernel)
abbrev s_is_server : Stmt := top 18
theorem sc_is_server : FnScope ["servers", "thing"] ["servers", "thing"] (fnScope s_is_server) := fnScope_by (by decide +kernel)
abbrev s_is_entry : Stmt := top 19
theorem sc_is_entry : FnScope ["servers", "thing"] ["servers", "thing"] (fnScope s_is_entry) := fnScope_by (by decide +kernel)
abbrev s_are_entries : Stmt := top 20
theorem sc_are_entries : FnScope ["servers", "thing", "entry"] ["servers", "thing"] (fnScope s_are_entries) := fnScope_by (by decide +kernel)
abbrev s_Log___init__ : Stmt := inClass (top 21) 1
theorem sc_Log___init__ : FnScope ["self", "size", "servers", "entries"] ["self", "size", "servers", "entries"] (fnScope s_Log___init__) := fnScope_by (by decide +kernel)
abbrev s_Log_size : Stmt := inClass (top 21) 2
theorem sc_Log_size : FnScope ["self"] ["self"] (fnScope s_Log_size) := fnScope_by (by decide +kernel)
abbrev s_Log_servers : Stmt := inClass (top 21) 3
theorem sc_Log_servers : FnScope ["self"] ["self"] (fnScope s_Log_servers) := fnScope_by (by decide +kernel)
abbrev s_Log_entries : Stmt := inClass (top 21) 4
theorem sc_Log_entries : FnScope ["self"] ["self"] (fnScope s_Log_entries) := fnScope_by (by decide +kernel)
abbrev s_Log___len__ : Stmt := inClass (top 21) 5
theorem sc_Log___len__ : FnScope ["self"] ["self"] (fnScope s_Log___len__) := fnScope_by (by decide +kernel)
abbrev s_Log___eq__ : Stmt := inClass (top 21) 6
theorem sc_Log___eq__ : FnScope ["self", "other"] ["self", "other"] (fnScope s_Log___eq__) := fnScope_by (by decide +kernel)
abbrev s_Log___contains__ : Stmt := inClass (top 21) 7
theorem sc_Log___contains__ : FnScope ["self", "thing"] ["self", "thing"] (fnScope s_Log___contains__) := fnScope_by (by decide +kernel)
abbrev s_Log___add__ : Stmt := inClass (top 21) 8
theorem sc_Log___add__ : FnScope ["self", "other", "entries"] ["self", "other"] (fnScope s_Log___add__) := fnScope_by (by decide +kernel)
abbrev s_Log_last_block : Stmt := inClass (top 21) 11
theorem sc_Log_last_block : FnScope ["self", "server", "number"] ["self"] (fnScope s_Log_last_block) := fnScope_by (by decide +kernel)
abbrev s_log_of : Stmt := top 23
theorem sc_log_of : FnScope ["kind", "size", "servers", "entries"] ["kind", "size", "servers", "entries"] (fnScope s_log_of) := fnScope_by (by decide +kernel)
abbrev s__law_feed : Stmt := top 25
theorem sc__law_feed : FnScope ["script", "k", "start"] ["script", "k"] (fnScope s__law_feed) := fnScope_by (by decide +kernel)
abbrev s__law_pick : Stmt := top 26
theorem sc__law_pick : FnScope ["feed", "many", "digit", "found", "turn", "mixed"] ["feed", "many"] (fnScope s__law_pick) := fnScope_by (by decide +kernel)
abbrev s__law_crew : Stmt := top 27
theorem sc__law_crew : FnScope ["feed", "most", "names", "turn"] ["feed", "most"] (fnScope s__law_crew) := fnScope_by (by decide +kernel)
abbrev s__law_entries : Stmt := top 28
theorem sc__law_entries : FnScope ["feed", "crew", "most", "limit", "found", "turn", "again", "fresh"] ["feed", "crew", "most", "limit"] (fnScope s__law_entries) := fnScope_by (by decide +kernel)
abbrev s__law_made : Stmt := top 29
theorem sc__law_made : FnScope ["kind", "unit", "crew", "shown"] ["kind", "unit", "crew", "shown"] (fnScope s__law_made) := fnScope_by (by decide +kernel)
abbrev s__law_right : Stmt := top 30
theorem sc__law_right : FnScope ["feed", "kind", "unit", "crew", "shown", "given", "book", "again", "top", "name", "number", "told", "entry", "odd"] ["feed", "kind", "unit", "crew", "shown"] (fnScope s__law_right) := fnScope_by (by decide +kernel)
abbrev s_law : Stmt := top 31
theorem sc_law : FnScope ["script", "k", "feed", "turn", "unit", "crew", "limit", "shown", "book", "told"] ["script"] (fnScope s_law) := fnScope_by (by decide +kernel)
end NB

set_option Elab.async false
set_option linter.all false
set_option maxRecDepth 100000
set_option maxHeartbeats 4000000
/-! K1: the defs of numberbooks.logs -/
namespace NB
open PySem PySem.Spec L2
open PyProof.Rows (envOfC)
open C8 (pe_c pe_mk pe_mt pe_mt0 pe_gc fnScope fnBody fnArgs fnScope_by Cal Met Mak)

theorem kt_str_str {K : PySem.W.Frag} : PySem.W.kitOne K (.type "str") (.type "str") = some true := kit_ty (by decide +kernel)
theorem kt_list_list {K : PySem.W.Frag} : PySem.W.kitOne K (.type "list") (.type "list") = some true := kit_ty (by decide +kernel)
theorem kt_tup_tup {K : PySem.W.Frag} : PySem.W.kitOne K (.type "tuple") (.type "tuple") = some true := kit_ty (by decide +kernel)
theorem kt_int_int {K : PySem.W.Frag} : PySem.W.kitOne K (.type "int") (.type "int") = some true := kit_ty (by decide +kernel)
theorem kt_int_bool {K : PySem.W.Frag} : PySem.W.kitOne K (.type "int") (.type "bool") = some false := kit_ty (by decide +kernel)
theorem kt_bool_int {K : PySem.W.Frag} : PySem.W.kitOne K (.type "bool") (.type "int") = some true := kit_ty (by decide +kernel)
theorem kt_bool_bool {K : PySem.W.Frag} : PySem.W.kitOne K (.type "bool") (.type "bool") = some true := kit_ty (by decide +kernel)

/-! ### promises -/
def spInteger (K : PySem.W.Frag) : Sp := fun vs H Q _ => ∃ x b, vs = [x] ∧ IntJ K H x b ∧ Q (.bl b) H
def spSizeB : Sp := fun vs H Q _ => ∃ i, vs = [.int i] ∧ Q (.bl (decide (1 ≤ i) && decide (i ≤ 10 ^ 30))) H
def spName : Sp := fun vs H Q _ => ∃ z, vs = [.str z] ∧ nameB z = true ∧ ∀ H', Ext H H' → Q (.bl true) H'
def spCrew : Sp := fun vs H Q _ => ∃ a ns, vs = [.ref a] ∧ H a = some (.lst (ns.map V.str)) ∧ CrewOk ns ∧ ∀ H', Ext H H' → Q (.bl true) H'
def spServer (K : PySem.W.Frag) : Sp := fun vs H Q _ => ∃ a ns x b, vs = [.ref a, x] ∧ H a = some (.lst (ns.map V.str)) ∧ SrvJ K H ns x b ∧ Q (.bl b) H
def spEntry (K : PySem.W.Frag) : Sp := fun vs H Q _ => ∃ a ns x r, vs = [.ref a, x] ∧ H a = some (.lst (ns.map V.str)) ∧ Jd K H ns x r ∧ Q (.bl r.isSome) H
def spEntries : Sp := fun vs H Q _ => ∃ a ns l es xs, vs = [.ref a, .ref l] ∧ H a = some (.lst (ns.map V.str)) ∧ H l = some (.lst xs) ∧ EntL H es xs ∧ EntsOk ns es ∧ ∀ H', Ext H H' → Q (.bl true) H'
/-- __init__ with right arguments -/
def spInit (C : Addr) : Sp := fun vs H Q _ => ∃ p dx sz a ns l es xs, vs = [.ref p, .int sz, .ref a, .ref l] ∧ H p = some (.ins C dx []) ∧ H dx = some (.own p) ∧ SizeOk sz ∧ H a = some (.lst (ns.map V.str)) ∧ CrewOk ns ∧ H l = some (.lst xs) ∧ EntL H es xs ∧ EntsOk ns es ∧
  ∀ H' ls le, H ls = none → H le = none → H' p = some (.ins C dx (lf sz ls le)) → H' ls = some (.lst (ns.map V.str)) → H' le = some (.lst xs) → Frm [p] H H' → Q .non H'

section
variable {P : Program} {w : World} {K : PySem.W.Frag} {mg : Str → Option Value} {base : Heap} {cL cX : Addr}
theorem ok_is_integer (T : Tx K mg cL cX) (D : Dx K mg "is_integer" s_is_integer ["thing"]) : Cal P w K mg base 1 "is_integer" (spInteger K) [] := by
  refine cal_of D sc_is_integer (fun vs H Q E h => ?_) (fun f cdv A o s H vs Q E hr h => ?_)
  · obtain ⟨x, b, rfl, _⟩ := h; rfl
  · obtain ⟨x, b, rfl, j, k⟩ := h
    refine ⟨_, (pss_one (ps_ret (pe_and (pe_callB call_isi (by rfl) T.n_isinstance (by decide +kernel) (pa_cons (mv 0) (pa_cons (pe_bltn (v := .ty "int") (u := .type "int") (by rfl) T.n_int (by decide +kernel) rfl) pa_nil))) (pe_one (pe_not (pe_callB call_isi (by rfl) T.n_isinstance (by decide +kernel) (pa_cons (mv 0) (pa_cons (pe_bltn (v := .ty "bool") (u := .type "bool") (by rfl) T.n_bool (by decide +kernel) rfl) pa_nil)))))))), ?_⟩
    cases j with
    | int i =>
      refine ⟨_, _, _, _, _, rfl, .ty _, .base (.int i), kt_int_int, _, rfl, ifT (by rfl) ?_⟩
      exact ⟨_, _, _, _, _, rfl, .ty _, .base (.int i), kt_int_bool, _, rfl, k⟩
    | bl c =>
      refine ⟨_, _, _, _, _, rfl, .ty _, .base (.bl c), kt_bool_int, _, rfl, ifT (by rfl) ?_⟩
      exact ⟨_, _, _, _, _, rfl, .ty _, .base (.bl c), kt_bool_bool, _, rfl, k⟩
    | kind ty e => exact ⟨_, _, _, _, _, rfl, .ty _, ty, e, _, rfl, ifF (by rfl) k⟩

theorem ok_is_size (T : Tx K mg cL cX) (D : Dx K mg "is_size" s_is_size ["thing"]) (c_is_integer : Cal P w K mg base 1 "is_integer" (spInteger K) []) : Cal P w K mg base 2 "is_size" spSizeB [] := by
  refine cal_of D sc_is_size (fun vs H Q E h => ?_) (fun f cdv A o s H vs Q E hr h => ?_)
  · obtain ⟨i, rfl, _⟩ := h; rfl
  · obtain ⟨i, rfl, k⟩ := h
    refine ⟨_, (pss_one (ps_ret (pe_and (pe_c c_is_integer hr (by decide) rfl (pa_cons (mv 0) pa_nil)) (pe_one (pe_chain m_le m_le pe_int (mv 0) (pe_gc rfl T.g_GREATEST_SIZE)))))), ?_⟩
    refine ⟨_, _, rfl, .int i, _, rfl, ifT (by rfl) ?_⟩
    refine ⟨_, rfl, ?_⟩
    by_cases h : 1 ≤ i
    · rw [decide_eq_true h] at k ⊢
      exact ifT (by rfl) k
    · rw [decide_eq_false h] at k ⊢
      exact ifF (by rfl) k

theorem lett_in {c : Nat} (h : 97 ≤ c ∧ c ≤ 122) : (!(Builtin.Str.occurrences LETT ⟨#[c]⟩ 0 LETT.length 1).isEmpty) = true := by
  have e : LETT = SX.S [97, 98, 99, 100, 101, 102, 103, 104, 105, 106, 107, 108, 109, 110, 111, 112, 113, 114, 115, 116, 117, 118, 119, 120, 121, 122] := by decide +kernel
  rw [e]
  refine (SX.in_one _ c).trans (decide_eq_true ?_)
  obtain ⟨h1, h2⟩ := h
  have : c = 97 ∨ c = 98 ∨ c = 99 ∨ c = 100 ∨ c = 101 ∨ c = 102 ∨ c = 103 ∨ c = 104 ∨ c = 105 ∨ c = 106 ∨ c = 107 ∨ c = 108 ∨ c = 109 ∨ c = 110 ∨ c = 111 ∨ c = 112 ∨ c = 113 ∨ c = 114 ∨ c = 115 ∨ c = 116 ∨ c = 117 ∨ c = 118 ∨ c = 119 ∨ c = 120 ∨ c = 121 ∨ c = 122 := by omega
  simp only [List.mem_cons, List.not_mem_nil, or_false]
  exact this

theorem all_true (n : Nat) : (List.replicate n true).all id = true := by
  rw [List.all_replicate]; simp
theorem rep_more (n : Nat) : (List.replicate n true).map V.bl ++ [V.bl true] = (List.replicate (n + 1) true).map V.bl := by
  rw [List.replicate_succ', List.map_append]; rfl
theorem goY {σ : L2.St} {H : Hp} {Q : Bool → Hp → Prop} (h : Q true H) : tYes σ H Q := h
/-- what a comprehension of Trues keeps -/
def Trues (H0 : Hp) (D : Addr) (i : Nat) (H : Hp) : Prop := Ext H0 H ∧ H D = some (.lst ((List.replicate i true).map V.bl))
theorem Trues.next {H0 H : Hp} {D : Addr} {i : Nat} (h : Trues H0 D i H) (hD : H0 D = none) : Trues H0 D (i + 1) (upd H D (.lst ((List.replicate i true).map V.bl ++ [V.bl true]))) := by
  refine ⟨fun a o e => ?_, ?_⟩
  · rw [upd_ne (ne_of_none e hD)]; exact h.1 a o e
  · rw [upd_same, rep_more]
theorem Trues.zero {H0 : Hp} {D : Addr} (hD : H0 D = none) : Trues H0 D 0 (upd H0 D (.lst [])) := ⟨Ext.upd hD, upd_same⟩

theorem ok_is_name (T : Tx K mg cL cX) (D : Dx K mg "is_name" s_is_name ["thing"]) : Cal P w K mg base 1 "is_name" spName [] := by
  refine cal_of D sc_is_name (fun vs H Q E h => ?_) (fun f cdv A o s H vs Q E hr h => ?_)
  · obtain ⟨z, rfl, _⟩ := h; rfl
  · obtain ⟨z, rfl, hz, k⟩ := h
    unfold nameB at hz
    simp only [Bool.and_eq_true, decide_eq_true_eq] at hz
    obtain ⟨⟨h1, h2⟩, h3⟩ := hz
    have hl : z.length ≤ sizeLine := Nat.le_trans h2 (by decide)
    have e1 : (1 : Int) ≤ (z.length : Int) := by omega
    have e2 : (z.length : Int) ≤ 8 := by omega
    refine ⟨_, (pss_cons (ps_if (PW.pt (pw_or (pt_not (qv (pe_callB call_isi (by rfl) T.n_isinstance (by decide +kernel) (pa_cons (mv 0) (pa_cons (pe_bltn (v := .ty "str") (u := .type "str") (by rfl) T.n_str (by decide +kernel) rfl) pa_nil))))) (pw_or1 (pt_not (pt_chain m_le m_le pe_int (pe_callB call_len (by rfl) T.n_len (by decide +kernel) (pa_cons (mv 0) pa_nil)) (pe_gc rfl T.g_MOST_LETTERS)))))) (pss_one (ps_ret pe_bl)) pss_nil)
    (pss_one (ps_ret (pe_callB (cr_all rfl) (by rfl) T.n_all (by decide +kernel) (pa_cons (pe_lc (own := [("letter", 1)]) (g := gName 1) (tt := tYes) rfl sc_is_name.nd (pi_str (mv 0)) (blkOk_by (own := [("letter", 1)]) (N := ["thing", "letter"]) (sc := fnScope s_is_name) (by decide +kernel)) (fun _ _ _ _ _ => (pg_name (i := 1) sc_is_name.nd rfl (Or.inl rfl))) (fun _ _ _ _ _ => pts_nil) (fun _ _ _ _ _ => (pe_cmpR op_in_str (mv 1) (pe_gc rfl T.g_LETTERS) (by rfl)))) pa_nil))))), ?_⟩
    refine ⟨_, _, _, _, _, rfl, .ty _, .base (.str z), kt_str_str, ifF (by rfl) ?_⟩
    refine ⟨_, _, rfl, ⟨hl, rfl⟩, _, rfl, ?_⟩
    rw [decide_eq_true e1]
    refine ifT (by rfl) ⟨_, rfl, ?_⟩
    rw [decide_eq_true e2]
    refine ifF (by rfl) ?_
    refine ⟨_, rfl, fun d hd => lc_txt (Trues H d) (Trues.zero hd) ?_ ?_⟩
    · intro i c H1 hc t
      have hc2 := List.all_eq_true.mp h3 c (List.mem_of_getElem? hc)
      simp only [Bool.and_eq_true, decide_eq_true_eq] at hc2
      have hi : i < z.length := by have := (List.getElem?_eq_some_iff.mp hc).1; simpa [Str.length] using this
      refine ⟨rfl, goY (ifT (by rfl) ⟨_, _, rfl, rfl, _, t.2, ?_, ?_⟩)⟩
      · rw [List.length_map, List.length_replicate]; omega
      · rw [lett_in hc2]
        exact t.next hd
    · intro H1 t
      exact ⟨_, _, rfl, SqL.of t.2, by rw [all_true]; exact k H1 t.1⟩

theorem map_at {α : Type} {f : α → V} {xs : List α} {i : Nat} {y : V} (h : (xs.map f)[i]? = some y) : ∃ x, xs[i]? = some x ∧ y = f x := by
  rw [List.getElem?_map] at h
  cases e : xs[i]? with
  | none => rw [e] at h; cases h
  | some x => rw [e] at h; exact ⟨x, rfl, (Option.some.inj h).symm⟩

theorem ok_are_servers (T : Tx K mg cL cX) (D : Dx K mg "are_servers" s_are_servers ["thing"]) (c_is_name : Cal P w K mg base 1 "is_name" spName []) : Cal P w K mg base 2 "are_servers" spCrew [] := by
  refine cal_of D sc_are_servers (fun vs H Q E h => ?_) (fun f cdv A o s H vs Q E hr h => ?_)
  · obtain ⟨a, ns, rfl, _⟩ := h; rfl
  · obtain ⟨a, ns, rfl, ha, ok, k⟩ := h
    have e1 : (1 : Int) ≤ (ns.length : Int) := by have := ok.one; omega
    have e2 : (ns.length : Int) ≤ 12 := by have := ok.few; omega
    refine ⟨_, (pss_cons (ps_if (PW.pt (pw_or (pt_not (qv (pe_callB call_isi (by rfl) T.n_isinstance (by decide +kernel) (pa_cons (mv 0) (pa_cons (pe_bltn (v := .ty "list") (u := .type "list") (by rfl) T.n_list (by decide +kernel) rfl) pa_nil))))) (pw_or1 (pt_not (pt_chain m_le m_le pe_int (pe_callB call_len (by rfl) T.n_len (by decide +kernel) (pa_cons (mv 0) pa_nil)) (pe_gc rfl T.g_MOST_SERVERS)))))) (pss_one (ps_ret pe_bl)) pss_nil)
    (pss_one (ps_ret (pe_and (pe_callB (cr_all rfl) (by rfl) T.n_all (by decide +kernel) (pa_cons (pe_lc (own := [("name", 1)]) (g := gName 1) (tt := tYes) rfl sc_are_servers.nd (pi_list (mv 0)) (blkOk_by (own := [("name", 1)]) (N := ["thing", "name"]) (sc := fnScope s_are_servers) (by decide +kernel)) (fun _ _ _ _ _ => (pg_name (i := 1) sc_are_servers.nd rfl (Or.inl rfl))) (fun _ _ _ _ _ => pts_nil) (fun _ _ _ _ _ => (pe_c c_is_name hr (by decide) rfl (pa_cons (mv 1) pa_nil)))) pa_nil)) (pe_one (pe_cmpR m_eq (pe_lenSetS rfl (by rfl) T.n_len (by rfl) T.n_set (mv 0)) (pe_callB call_len (by rfl) T.n_len (by decide +kernel) (pa_cons (mv 0) pa_nil)) (nomark _))))))), ?_⟩
    refine ⟨_, _, _, _, _, rfl, .ty _, .base (.lst ha), kt_list_list, ifF (by rfl) ?_⟩
    refine ⟨_, _, rfl, .inl ⟨_, SqL.of ha, rfl⟩, _, rfl, ?_⟩
    rw [List.length_map, decide_eq_true e1]
    refine ifT (by rfl) ⟨_, rfl, ?_⟩
    rw [decide_eq_true e2]
    refine ifF (by rfl) ?_
    refine ⟨_, rfl, ⟨_, SqL.of ha⟩, fun d hd => lc_list (K := K) (a := a) (xs := ns.map V.str) (Trues H d) (Trues.zero hd) (fun i H1 _ t => SqL.of (t.1 _ _ ha)) ?_ ?_⟩
    · intro i y H1 hy t
      obtain ⟨z, hz, rfl⟩ := map_at hy
      have hi : i < ns.length := (List.getElem?_eq_some_iff.mp hz).1
      refine ⟨rfl, goY (ifT (by rfl) ?_)⟩
      refine ⟨z, rfl, ok.nam z (List.mem_of_getElem? hz), fun H2 x => ⟨_, x _ _ t.2, ?_, ?_⟩⟩
      · rw [List.length_map, List.length_replicate]
        exact Nat.lt_of_lt_of_le hi (Nat.le_trans ok.few (by decide))
      · exact Trues.next ⟨t.1.trans x, x _ _ t.2⟩ hd
    · intro H1 t
      refine ⟨_, _, rfl, SqL.of t.2, ?_⟩
      rw [all_true]
      refine ⟨_, rfl, ifT (by rfl) ?_⟩
      refine ⟨a, ns, rfl, SqL.of (t.1 _ _ ha), Nat.le_trans ok.few (by decide), ok.nd, ?_⟩
      refine ⟨_, _, rfl, .inl ⟨_, SqL.of (t.1 _ _ ha), rfl⟩, ?_⟩
      rw [List.length_map]
      show Q (.bl (decide ((ns.length : Int) = (ns.length : Int)))) H1
      rw [decide_eq_true rfl]
      exact k H1 t.1

theorem inV_str (z : Str) : ∀ ns : List Str, inV (.str z) (ns.map V.str) = decide (z ∈ ns)
  | [] => rfl
  | y :: ns => by
    have ih := inV_str z ns
    unfold inV at ih ⊢
    rw [List.map_cons, List.any_cons, ih]
    have e : eqV (.str y) (.str z) = decide (y = z) := by
      unfold eqV
      by_cases h : y = z
      · subst h; simp
      · simp [h]
    rw [e, Bool.eq_iff_iff]
    simp only [Bool.or_eq_true, decide_eq_true_eq, List.mem_cons]
    exact ⟨fun q => q.elim (fun q => .inl q.symm) .inr, fun q => q.elim (fun q => .inl q.symm) .inr⟩
theorem flat_strs (ns : List Str) : (ns.map V.str).all flatV = true := by
  rw [List.all_map, List.all_eq_true]; intro z _; rfl

theorem ok_is_server (T : Tx K mg cL cX) (D : Dx K mg "is_server" s_is_server ["servers", "thing"]) : Cal P w K mg base 1 "is_server" (spServer K) [] := by
  refine cal_of D sc_is_server (fun vs H Q E h => ?_) (fun f cdv A o s H vs Q E hr h => ?_)
  · obtain ⟨a, ns, x, b, rfl, _⟩ := h; rfl
  · obtain ⟨a, ns, x, b, rfl, ha, j, k⟩ := h
    refine ⟨_, (pss_one (ps_ret (pe_and (pe_callB call_isi (by rfl) T.n_isinstance (by decide +kernel) (pa_cons (mv 1) (pa_cons (pe_bltn (v := .ty "str") (u := .type "str") (by rfl) T.n_str (by decide +kernel) rfl) pa_nil))) (pe_one (pe_cmpR op_in_seq (mv 1) (mv 0) (by rfl)))))), ?_⟩
    cases j with
    | str z =>
      refine ⟨_, _, _, _, _, rfl, .ty _, .base (.str z), kt_str_str, _, rfl, ifT (by rfl) ?_⟩
      refine ⟨_, _, rfl, .inl (SqL.of ha), rfl, flat_strs _, ?_⟩
      rw [inV_str]
      exact k
    | kind ty e => exact ⟨_, _, _, _, _, rfl, .ty _, ty, e, _, rfl, ifF (by rfl) k⟩

theorem ok_is_entry (T : Tx K mg cL cX) (D : Dx K mg "is_entry" s_is_entry ["servers", "thing"]) (c_is_server : Cal P w K mg base 1 "is_server" (spServer K) []) (c_is_integer : Cal P w K mg base 1 "is_integer" (spInteger K) []) :
    Cal P w K mg base 2 "is_entry" (spEntry K) [] := by
  refine cal_of D sc_is_entry (fun vs H Q E h => ?_) (fun f cdv A o s H vs Q E hr h => ?_)
  · obtain ⟨a, ns, x, r, rfl, _⟩ := h; rfl
  · obtain ⟨a, ns, x, r, rfl, ha, j, k⟩ := h
    refine ⟨_, (pss_cons (ps_if (PW.pt (pw_or (pt_not (qv (pe_callB call_isi (by rfl) T.n_isinstance (by decide +kernel) (pa_cons (mv 1) (pa_cons (pe_bltn (v := .ty "tuple") (u := .type "tuple") (by rfl) T.n_tuple (by decide +kernel) rfl) pa_nil))))) (pw_or1 (qt m_ne (pe_callB call_len (by rfl) T.n_len (by decide +kernel) (pa_cons (mv 1) pa_nil)) pe_int (nomark _))))) (pss_one (ps_ret pe_bl)) pss_nil)
    (pss_one (ps_ret (pe_and (pe_c c_is_server hr (by decide) rfl (pa_cons (mv 0) (pa_cons (pe_ix m_ix (mv 1) pe_int (fun _ _ => rfl)) pa_nil))) (pe_and (pe_c c_is_integer hr (by decide) rfl (pa_cons (pe_ix m_ix (mv 1) pe_int (fun _ _ => rfl)) pa_nil)) (pe_one (pe_cmpR m_ge (pe_ix m_ix (mv 1) pe_int (fun _ _ => rfl)) pe_int (nomark _)))))))), ?_⟩
    have two : ∀ {p : Addr} {x y : V}, H p = some (.tup [x, y]) → ∀ {b : Bool}, SrvJ K H ns x b → (b = true → ∃ c, IntJ K H y c ∧ (c = true → ∃ i, y = .int i ∧ Q (.bl (decide (0 ≤ i))) H) ∧ (c = false → Q (.bl false) H)) → (b = false → Q (.bl false) H) →
        tIfS (tOr (tNot (mT (tCB (rIsi K) (tCons (mV 1) (tCons (tC (.ty "tuple")) tNil))))) (mT (tOp (mEqG fun b => !b) (tCB (fun xs H Q => ∃ x n, xs = [x] ∧ LenV K x H n ∧ Q (.int n) H) (tCons (mV 1) tNil)) (tC (.int 2)))))
          (tRet (tC (.bl false))) tNext { nx := fun _ H' => tRet (tAndV (tCall (spServer K) [] C8.E0 (tCons (mV 0) (tCons (tOp (mIx K) (mV 1) (tC (.int 0))) tNil)))
            (tAndV (tCall (spInteger K) [] C8.E0 (tCons (tOp (mIx K) (mV 1) (tC (.int 1))) tNil)) (tOp (mI0 fun i j => .bl (decide (j ≤ i))) (tOp (mIx K) (mV 1) (tC (.int 1))) (tC (.int 0))))) { nx := fun _ H' => Q .non H', rt := Q } [some (.ref a), some (.ref p)] H', rt := Q } [some (.ref a), some (.ref p)] H := by
      intro p x y hp b js h1 h2
      refine ⟨_, _, _, _, _, rfl, .ty _, .base (.tup hp), kt_tup_tup, ifF (by rfl) ?_⟩
      refine ⟨_, _, rfl, .inr ⟨_, SqT.of hp, rfl⟩, ?_⟩
      dsimp only [tC, mEqG, kB]
      refine ifF (by rfl) ?_
      refine ⟨_, _, .inr (SqT.of hp), atI_nat (j := 0) rfl, a, ns, _, b, rfl, ha, js, _, rfl, ?_⟩
      cases b with
      | false => exact ifF rfl (h2 rfl)
      | true =>
        refine ifT rfl ?_
        obtain ⟨c, jc, h3, h4⟩ := h1 rfl
        refine ⟨_, _, .inr (SqT.of hp), atI_nat (j := 1) rfl, _, c, rfl, jc, _, rfl, ?_⟩
        cases c with
        | false => exact ifF rfl (h4 rfl)
        | true =>
          refine ifT rfl ?_
          obtain ⟨i, rfl, q⟩ := h3 rfl
          exact ⟨_, _, .inr (SqT.of hp), atI_nat (j := 1) rfl, q⟩
    cases j with
    | kind ty e => exact ⟨_, _, _, _, _, rfl, .ty _, ty, e, ifT (by rfl) (ifT (by rfl) k)⟩
    | @size p xs hp hl =>
      refine ⟨_, _, _, _, _, rfl, .ty _, .base (.tup hp), kt_tup_tup, ifF (by rfl) ?_⟩
      refine ⟨_, _, rfl, .inr ⟨_, SqT.of hp, rfl⟩, ?_⟩
      have e : ¬ ((xs.length : Int) = 2) := by omega
      show if (!decide ((xs.length : Int) = 2)) = true then _ else _
      rw [decide_eq_false e]
      exact ifT (by rfl) k
    | srv hp js => exact two hp js (fun z => nomatch z) fun _ => k
    | num hp js ji => exact two hp js (fun _ => ⟨false, ji, (fun z => nomatch z), fun _ => k⟩) fun z => nomatch z
    | @neg p x i hp js hi => exact two hp js (fun _ => ⟨true, .int i, fun _ => ⟨i, rfl, by rw [decide_eq_false (by omega)]; exact k⟩, fun z => nomatch z⟩) fun z => nomatch z
    | @ok p z i hp hz hi =>
      have js : SrvJ K H ns (.str z) true := by have := SrvJ.str (K := K) (H := H) (ns := ns) z; rw [decide_eq_true hz] at this; exact this
      exact two hp js (fun _ => ⟨true, .int i, fun _ => ⟨i, rfl, by rw [decide_eq_true hi]; exact k⟩, fun z => nomatch z⟩) fun z => nomatch z

theorem EntL.at {H : Hp} : ∀ {es : List (Str × Int)} {vs : List V} {i : Nat} {v : V}, EntL H es vs → vs[i]? = some v → ∃ e, es[i]? = some e ∧ EntAt H e v
  | _, _, i, v, .nil, h => by simp at h
  | _, _, 0, v, .cons (a := e) r q, h => by simp at h; subst h; exact ⟨e, rfl, r⟩
  | _, _, i + 1, v, .cons r q, h => by
    obtain ⟨e, h1, h2⟩ := EntL.at q (i := i) (v := v) (by simpa using h)
    exact ⟨e, by simpa using h1, h2⟩
theorem EntL.len {H : Hp} {es : List (Str × Int)} {vs : List V} (h : EntL H es vs) : es.length = vs.length := Paired.length h

theorem ok_are_entries (T : Tx K mg cL cX) (D : Dx K mg "are_entries" s_are_entries ["servers", "thing"]) (c_is_entry : Cal P w K mg base 2 "is_entry" (spEntry K) []) : Cal P w K mg base 3 "are_entries" spEntries [] := by
  refine cal_of D sc_are_entries (fun vs H Q E h => ?_) (fun f cdv A o s H vs Q E hr h => ?_)
  · obtain ⟨a, ns, l, es, xs, rfl, _⟩ := h; rfl
  · obtain ⟨a, ns, l, es, xs, rfl, ha, hl, el, ok, k⟩ := h
    have hx : xs.length ≤ 200 := by rw [← el.len]; exact ok.few
    have e1 : ¬ (200 : Int) < (xs.length : Int) := by omega
    refine ⟨_, (pss_cons (ps_if (PW.pt (pw_or (pt_not (qv (pe_callB call_isi (by rfl) T.n_isinstance (by decide +kernel) (pa_cons (mv 1) (pa_cons (pe_bltn (v := .ty "list") (u := .type "list") (by rfl) T.n_list (by decide +kernel) rfl) pa_nil))))) (pw_or1 (qt m_gt (pe_callB call_len (by rfl) T.n_len (by decide +kernel) (pa_cons (mv 1) pa_nil)) (pe_gc rfl T.g_MOST_ENTRIES) (nomark _))))) (pss_one (ps_ret pe_bl)) pss_nil)
    (pss_one (ps_ret (pe_callB (cr_all rfl) (by rfl) T.n_all (by decide +kernel) (pa_cons (pe_lc (own := [("entry", 2)]) (g := gName 2) (tt := tYes) rfl sc_are_entries.nd (pi_list (mv 1)) (blkOk_by (own := [("entry", 2)]) (N := ["servers", "thing", "entry"]) (sc := fnScope s_are_entries) (by decide +kernel)) (fun _ _ _ _ _ => (pg_name (i := 2) sc_are_entries.nd rfl (Or.inl rfl))) (fun _ _ _ _ _ => pts_nil) (fun _ _ _ _ _ => (pe_c c_is_entry hr (by decide) rfl (pa_cons (mv 0) (pa_cons (mv 2) pa_nil))))) pa_nil))))), ?_⟩
    refine ⟨_, _, _, _, _, rfl, .ty _, .base (.lst hl), kt_list_list, ifF (by rfl) ?_⟩
    refine ⟨_, _, rfl, .inl ⟨_, SqL.of hl, rfl⟩, ?_⟩
    refine (show if decide ((200 : Int) < (xs.length : Int)) = true then _ else _ from ?_)
    rw [decide_eq_false e1]
    refine ifF rfl ?_
    refine ⟨_, rfl, ⟨_, SqL.of hl⟩, fun d hd => lc_list (K := K) (a := l) (xs := xs) (Trues H d) (Trues.zero hd) (fun i H1 _ t => SqL.of (t.1 _ _ hl)) ?_ ?_⟩
    · intro i y H1 hy t
      have hi : i < xs.length := (List.getElem?_eq_some_iff.mp hy).1
      obtain ⟨e, he, p, rfl, hp⟩ := el.at hy
      obtain ⟨m1, m2⟩ := ok.ok e (List.mem_of_getElem? he)
      refine ⟨rfl, goY (ifT (by rfl) ?_)⟩
      refine ⟨a, ns, _, _, rfl, t.1 _ _ ha, .ok (t.1 _ _ hp) m1 m2, _, t.2, ?_, ?_⟩
      · rw [List.length_map, List.length_replicate]
        exact Nat.lt_of_lt_of_le hi (Nat.le_trans hx (by decide))
      · exact t.next hd
    · intro H1 t
      refine ⟨_, _, rfl, SqL.of t.2, ?_⟩
      rw [all_true]
      exact k H1 t.1

/-- the class's facts for the class at C -/
theorem ok_init {kd : Str} (T : Tx K mg cL cX) {C : Addr} (L : LogC K C kd) {f : Addr} {fd : FuncData} (D : Mx K "__init__" "Log.__init__" s_Log___init__ ["self", "size", "servers", "entries"] f fd)
    (c_is_size : Cal P w K mg base 2 "is_size" spSizeB []) (c_are_servers : Cal P w K mg base 2 "are_servers" spCrew []) (c_are_entries : Cal P w K mg base 3 "are_entries" spEntries []) :
    FnOk P w K mg base C8.CX0 4 f fd ["self", "size", "servers", "entries"] (spInit C) := by
  refine fn_of' D sc_Log___init__ (fun vs H Q E h => ?_) (fun cdv A o s H vs Q E hr h => ?_)
  · obtain ⟨p, dx, sz, a, ns, l, es, xs, rfl, _⟩ := h; rfl
  · obtain ⟨p, dx, sz, a, ns, l, es, xs, rfl, hp, hdx, hsz, ha, cr, hl, el, ok, k⟩ := h
    refine ⟨_, (pss_cons (ps_if (pt_not (qv (pe_c c_is_size hr (by decide) rfl (pa_cons (mv 1) pa_nil)))) (pss_one ps_never) pss_nil)
    (pss_cons (ps_if (pt_not (qv (pe_c c_are_servers hr (by decide) rfl (pa_cons (mv 2) pa_nil)))) (pss_one ps_never) pss_nil)
    (pss_cons (ps_if (pt_not (qv (pe_c c_are_entries hr (by decide) rfl (pa_cons (mv 2) (pa_cons (mv 3) pa_nil))))) (pss_one ps_never) pss_nil)
    (pss_cons (ps_fld (mv 0) (mv 1) rfl)
    (pss_cons (ps_fld (mv 0) (pe_callTy call_list_of (by rfl) T.n_list (by decide +kernel) (pa_cons (mv 2) pa_nil)) rfl)
    (pss_one (ps_fld (mv 0) (pe_callTy call_list_of (by rfl) T.n_list (by decide +kernel) (pa_cons (mv 3) pa_nil)) rfl))))))), ?_⟩
    refine ⟨_, rfl, ?_⟩
    rw [decide_eq_true hsz.1, decide_eq_true hsz.2]
    refine ifF (by rfl) ?_
    refine ⟨a, ns, rfl, ha, cr, fun H1 x1 => ifF (by rfl) ?_⟩
    refine ⟨a, ns, l, es, xs, rfl, x1 _ _ ha, x1 _ _ hl, el.mono x1, ok, fun H2 x2 => ifF (by rfl) ?_⟩
    have x : Ext H H2 := x1.trans x2
    have apL : ∀ {b : Addr} {ys : List V}, H2 b = some (.lst ys) → b ≠ p := fun hb => ne_of hb (x _ _ hp) (by intro z; cases z)
    refine ⟨p, C, dx, _, rfl, x _ _ hp, L.cl, L.nS, (by show 0 < 1000; decide), ?_⟩
    refine ⟨a, _, rfl, .inl (SqL.of (by rw [upd_ne (apL (x _ _ ha))]; exact x _ _ ha)), fun ls nls => ?_⟩
    have p1 : p ≠ ls := ne_of_none upd_same nls
    refine ⟨p, C, dx, _, rfl, by rw [upd_ne p1]; exact upd_same, L.cl, L.nV, (by show 1 < 1000; decide), ?_⟩
    have nl1 : l ≠ ls := ne_of_none (by rw [upd_ne (apL (x _ _ hl))]; exact x _ _ hl) nls
    refine ⟨l, _, rfl, .inl (SqL.of (by rw [upd_ne (apL (x _ _ hl)), upd_ne nl1, upd_ne (apL (x _ _ hl))]; exact x _ _ hl)), fun le nle => ?_⟩
    have p2 : p ≠ le := ne_of_none upd_same nle
    refine ⟨p, C, dx, _, rfl, by rw [upd_ne p2]; exact upd_same, L.cl, L.nE, (by show 2 < 1000; decide), ?_⟩
    have nle1 : ls ≠ le := ne_of_none (o := .lst (ns.map V.str)) (by rw [upd_ne p1.symm]; exact upd_same) nle
    refine k _ ls le (Ext.free x (upd_none nls).2) (Ext.free x (upd_none (upd_none (upd_none nle).2).2).2) upd_same ?_ ?_ ?_
    · rw [upd_ne p1.symm, upd_ne nle1, upd_ne p1.symm]; exact upd_same
    · rw [upd_ne p2.symm]; exact upd_same
    · exact (((((Frm.ext x).upd mem1).new nls).upd mem1).new nle).upd mem1
end
end NB

set_option Elab.async false
set_option linter.all false
set_option maxRecDepth 100000
set_option maxHeartbeats 4000000
/-! K2: the methods of logs -/
namespace NB
open PySem PySem.Spec L2
open PyProof.Rows (envOfC)
open C8 (pe_c pe_mk pe_mt pe_mt0 pe_gc fnScope fnBody fnArgs fnScope_by Cal Met Mak)

def spSize (C : Addr) : Sp := fun vs H Q _ => ∃ p sz ns es, vs = [.ref p] ∧ LogAt C H p sz ns es ∧ Q (.int sz) H
def spServers (C : Addr) : Sp := fun vs H Q _ => ∃ p sz ns es, vs = [.ref p] ∧ LogAt C H p sz ns es ∧ ∀ l, H l = none → Q (.ref l) (upd H l (.lst (ns.map V.str)))
def spEntr (C : Addr) : Sp := fun vs H Q _ => ∃ p sz ns es, vs = [.ref p] ∧ LogAt C H p sz ns es ∧ ∀ l xs, H l = none → EntL H es xs → Q (.ref l) (upd H l (.lst xs))
def spLen (C : Addr) : Sp := fun vs H Q _ => ∃ p sz ns es, vs = [.ref p] ∧ LogAt C H p sz ns es ∧ Q (.int (es.length : Nat)) H
def spIn (K : PySem.W.Frag) (C : Addr) : Sp := fun vs H Q _ => ∃ p sz ns es x r, vs = [.ref p, x] ∧ LogAt C H p sz ns es ∧ EntsOk ns es ∧ (∀ z ∈ ns, nameB z = true) ∧ Jd K H ns x r ∧ Q (.bl (match r with | some e => decide (e ∈ es) | none => false)) H
/-- == of two logs -/
def spEqL (C C2 : Addr) (kd kd2 : Str) : Sp := fun vs H Q _ => ∃ p q sz ns es sz2 ns2 es2, vs = [.ref p, .ref q] ∧ LogAt C H p sz ns es ∧ LogAt C2 H q sz2 ns2 es2 ∧ EntsOk ns es ∧ (∀ z ∈ ns, nameB z = true) ∧ EntsOk ns2 es2 ∧ (∀ z ∈ ns2, nameB z = true) ∧
  Q (.bl (decide (kd2 = kd) && decide (sz2 = sz) && decide (ns2 = ns) && decide (es2 = es))) H
def lastB (sz : Int) : List (Str × Int) → Int
  | [] => -1
  | e :: es => (es.foldl (fun m x => max m x.2) e.2) / sz
def spLast (C : Addr) : Sp := fun vs H Q _ => ∃ p sz ns es, vs = [.ref p] ∧ LogAt C H p sz ns es ∧ SizeOk sz ∧ EntsOk ns es ∧ (∀ z ∈ ns, nameB z = true) ∧ ∀ H', Ext H H' → Q (.int (lastB sz es)) H'

/-! ### data of logs as PyData -/
def encE (e : Str × Int) : PyData := .tuple [.str e.1, .int e.2]
def encS (ns : List Str) : PyData := .list (ns.map .str)
def encL (es : List (Str × Int)) : PyData := .list (es.map encE)
theorem dp_strs {K : PySem.W.Frag} {H : Hp} : ∀ ns : List Str, DpAll K H (ns.map V.str) (ns.map .str)
  | [] => .nil
  | z :: ns => .cons (.str z) (dp_strs ns)
theorem dp_S {K : PySem.W.Frag} {H : Hp} {a : Addr} {ns : List Str} (h : SqL K H a (ns.map V.str)) : Dp K H (.ref a) (encS ns) := .lst h (dp_strs ns)
theorem dp_E {K : PySem.W.Frag} {H : Hp} {e : Str × Int} {v : V} (h : EntAt H e v) : Dp K H v (encE e) := by
  obtain ⟨p, rfl, hp⟩ := h
  exact .tup (SqT.of hp) (.cons (.str _) (.cons (.int _) .nil))
theorem dp_ents {K : PySem.W.Frag} {H : Hp} : ∀ {es : List (Str × Int)} {vs : List V}, EntL H es vs → DpAll K H vs (es.map encE)
  | _, _, .nil => .nil
  | _, _, .cons r q => .cons (dp_E r) (dp_ents q)
theorem dp_L {K : PySem.W.Frag} {H : Hp} {a : Addr} {es : List (Str × Int)} {vs : List V} (h : SqL K H a vs) (el : EntL H es vs) : Dp K H (.ref a) (encL es) := .lst h (dp_ents el)

theorem all_canLay : ∀ {ds : List PyData}, (∀ d ∈ ds, d.canLay0 = true) → PyData.canLayAll0 ds = true
  | [], _ => by simp [PyData.canLayAll0]
  | d :: ds, h => by
    simp only [PyData.canLayAll0, Bool.and_eq_true]
    exact ⟨h d List.mem_cons_self, all_canLay fun x hx => h x (List.mem_cons_of_mem _ hx)⟩
theorem all_depth {n : Nat} : ∀ {ds : List PyData}, (∀ d ∈ ds, d.depth ≤ n) → PyData.depthAll ds ≤ n
  | [], _ => by simp [PyData.depthAll]
  | d :: ds, h => by
    simp only [PyData.depthAll]
    exact Nat.max_le.mpr ⟨h d List.mem_cons_self, all_depth fun x hx => h x (List.mem_cons_of_mem _ hx)⟩
theorem shaped_list {ds : List PyData} {n : Nat} (h : ∀ d ∈ ds, d.canLay0 = true ∧ d.depth ≤ n) (hn : n < 60) : SeqAt.shaped (.list ds) = true := by
  unfold SeqAt.shaped
  have z := all_depth fun d hd => (h d hd).2
  refine Bool.and_eq_true_iff.mpr ⟨?_, decide_eq_true ?_⟩
  · show PyData.canLayAll0 ds = true
    exact all_canLay fun d hd => (h d hd).1
  · show PyData.depthAll ds + 1 ≤ 64
    omega
theorem strOk_name {z : Str} (h : nameB z = true) : PyData.canLay0 (.str z) = true := by
  unfold nameB at h
  simp only [Bool.and_eq_true, decide_eq_true_eq, List.all_eq_true] at h
  show z.cps.all (· < 0x110000) = true
  rw [← Array.all_toList, List.all_eq_true]
  intro c hc
  have := (h.2 c hc).2
  exact decide_eq_true (by omega)
theorem shaped_S {ns : List Str} (h : ∀ z ∈ ns, nameB z = true) : SeqAt.shaped (encS ns) = true := by
  refine shaped_list (n := 0) (fun d hd => ?_) (by decide)
  obtain ⟨z, hz, rfl⟩ := List.mem_map.mp hd
  exact ⟨strOk_name (h z hz), Nat.le_refl _⟩
theorem shaped_E {e : Str × Int} (h : nameB e.1 = true) : SeqAt.shaped (encE e) = true ∧ (encE e).canLay0 = true ∧ (encE e).depth ≤ 1 := by
  have c : (encE e).canLay0 = true := by
    show PyData.canLayAll0 [.str e.1, .int e.2] = true
    refine all_canLay fun d hd => ?_
    rcases List.mem_cons.mp hd with rfl | hd
    · exact strOk_name h
    · rw [List.mem_singleton.mp hd]; rfl
  have d : (encE e).depth ≤ 1 := by
    show max 0 (max 0 0) + 1 ≤ 1
    decide
  exact ⟨Bool.and_eq_true_iff.mpr ⟨c, decide_eq_true (Nat.le_trans d (by decide))⟩, c, d⟩
theorem shaped_L {es : List (Str × Int)} (h : ∀ e ∈ es, nameB e.1 = true) : SeqAt.shaped (encL es) = true := by
  refine shaped_list (n := 1) (fun d hd => ?_) (by decide)
  obtain ⟨e, he, rfl⟩ := List.mem_map.mp hd
  exact (shaped_E (h e he)).2
theorem eqvAll_map {α : Type} [DecidableEq α] {f : α → PyData} (hf : ∀ x y, PyData.eqv (f x) (f y) = decide (x = y)) : ∀ xs ys : List α, PyData.eqvAll (xs.map f) (ys.map f) = decide (xs = ys)
  | [], [] => by simp [PyData.eqvAll]
  | [], y :: ys => by simp [PyData.eqvAll]
  | x :: xs, [] => by simp [PyData.eqvAll]
  | x :: xs, y :: ys => by
    simp only [List.map_cons, PyData.eqvAll, hf, eqvAll_map hf xs ys]
    rw [Bool.eq_iff_iff]
    simp
theorem eqv_str (x y : Str) : PyData.eqv (.str x) (.str y) = decide (x = y) := by
  simp only [PyData.eqv]
  by_cases h : x = y
  · subst h; simp
  · rw [decide_eq_false h]; simpa using h
theorem eqv_ent (e g : Str × Int) : PyData.eqv (encE e) (encE g) = decide (e = g) := by
  obtain ⟨a, i⟩ := e
  obtain ⟨b, j⟩ := g
  unfold encE
  simp only [PyData.eqv, PyData.eqvAll]
  rw [Bool.eq_iff_iff]
  simp
theorem eqv_S (ns ms : List Str) : PyData.eqv (encS ns) (encS ms) = decide (ns = ms) := by
  unfold encS
  simp only [PyData.eqv]
  exact eqvAll_map eqv_str ns ms
theorem eqv_L (es gs : List (Str × Int)) : PyData.eqv (encL es) (encL gs) = decide (es = gs) := by
  unfold encL
  simp only [PyData.eqv]
  exact eqvAll_map eqv_ent es gs
theorem any_L (e : Str × Int) (es : List (Str × Int)) : ((es.map encE).any fun z => PyData.eqv z (encE e)) = decide (e ∈ es) := by
  rw [List.any_map, Bool.eq_iff_iff]
  simp only [List.any_eq_true, Function.comp, eqv_ent, decide_eq_true_eq]
  exact ⟨fun ⟨x, h, q⟩ => q ▸ h, fun h => ⟨e, h, rfl⟩⟩

section
variable {P : Program} {w : World} {K : PySem.W.Frag} {mg : Str → Option Value} {base : Heap} {cL cX C : Addr} {kd : Str} {f : Addr} {fd : FuncData}
theorem ok_size (L : LogC K C kd) (D : Mx K "size" "Log.size" s_Log_size ["self"] f fd) : FnOk P w K mg base C8.CX0 1 f fd ["self"] (spSize C) := by
  refine fn_of' D sc_Log_size (fun vs H Q E h => ?_) (fun cdv A o s H vs Q E hr h => ?_)
  · obtain ⟨p, sz, ns, es, rfl, _⟩ := h; rfl
  · obtain ⟨p, sz, ns, es, rfl, ⟨dx, ls, le, xs, hp, h1, h2, el⟩, k⟩ := h
    exact ⟨_, (pss_one (ps_ret (pe_fld (mv 0) rfl))), p, C, dx, _, _, rfl, hp, L.cl, L.nS, lf_size _ _ _, k⟩
theorem ok_servers (T : Tx K mg cL cX) (L : LogC K C kd) (D : Mx K "servers" "Log.servers" s_Log_servers ["self"] f fd) : FnOk P w K mg base C8.CX0 1 f fd ["self"] (spServers C) := by
  refine fn_of' D sc_Log_servers (fun vs H Q E h => ?_) (fun cdv A o s H vs Q E hr h => ?_)
  · obtain ⟨p, sz, ns, es, rfl, _⟩ := h; rfl
  · obtain ⟨p, sz, ns, es, rfl, ⟨dx, ls, le, xs, hp, h1, h2, el⟩, k⟩ := h
    exact ⟨_, (pss_one (ps_ret (pe_callTy call_list_of (by rfl) T.n_list (by decide +kernel) (pa_cons (pe_fld (mv 0) rfl) pa_nil)))), p, C, dx, _, _, rfl, hp, L.cl, L.nV, lf_servers _ _ _, ls, _, rfl, .inl (SqL.of h1), k⟩
theorem ok_entries (T : Tx K mg cL cX) (L : LogC K C kd) (D : Mx K "entries" "Log.entries" s_Log_entries ["self"] f fd) : FnOk P w K mg base C8.CX0 1 f fd ["self"] (spEntr C) := by
  refine fn_of' D sc_Log_entries (fun vs H Q E h => ?_) (fun cdv A o s H vs Q E hr h => ?_)
  · obtain ⟨p, sz, ns, es, rfl, _⟩ := h; rfl
  · obtain ⟨p, sz, ns, es, rfl, ⟨dx, ls, le, xs, hp, h1, h2, el⟩, k⟩ := h
    exact ⟨_, (pss_one (ps_ret (pe_callTy call_list_of (by rfl) T.n_list (by decide +kernel) (pa_cons (pe_fld (mv 0) rfl) pa_nil)))), p, C, dx, _, _, rfl, hp, L.cl, L.nE, lf_entries _ _ _, le, _, rfl, .inl (SqL.of h2), fun l hl => k l xs hl el⟩
theorem ok_len (T : Tx K mg cL cX) (L : LogC K C kd) (D : Mx K "__len__" "Log.__len__" s_Log___len__ ["self"] f fd) : FnOk P w K mg base C8.CX0 1 f fd ["self"] (spLen C) := by
  refine fn_of' D sc_Log___len__ (fun vs H Q E h => ?_) (fun cdv A o s H vs Q E hr h => ?_)
  · obtain ⟨p, sz, ns, es, rfl, _⟩ := h; rfl
  · obtain ⟨p, sz, ns, es, rfl, ⟨dx, ls, le, xs, hp, h1, h2, el⟩, k⟩ := h
    refine ⟨_, (pss_one (ps_ret (pe_callB call_len (by rfl) T.n_len (by decide +kernel) (pa_cons (pe_fld (mv 0) rfl) pa_nil)))), p, C, dx, _, _, rfl, hp, L.cl, L.nE, lf_entries _ _ _, _, _, rfl, .inl ⟨_, SqL.of h2, rfl⟩, ?_⟩
    rw [← el.len]
    exact k
theorem ok_in (T : Tx K mg cL cX) (L : LogC K C kd) (D : Mx K "__contains__" "Log.__contains__" s_Log___contains__ ["self", "thing"] f fd) (c_is_entry : Cal P w K mg base 2 "is_entry" (spEntry K) []) :
    FnOk P w K mg base C8.CX0 3 f fd ["self", "thing"] (spIn K C) := by
  refine fn_of' D sc_Log___contains__ (fun vs H Q E h => ?_) (fun cdv A o s H vs Q E hr h => ?_)
  · obtain ⟨p, sz, ns, es, x, r, rfl, _⟩ := h; rfl
  · obtain ⟨p, sz, ns, es, x, r, rfl, lg, ok, hn, j, k⟩ := h
    obtain ⟨dx, ls, le, xs, hp, h1, h2, el⟩ := lg
    refine ⟨_, (pss_one (ps_ret (pe_and (pe_c c_is_entry hr (by decide) rfl (pa_cons (pe_fld (mv 0) rfl) (pa_cons (mv 1) pa_nil))) (pe_one (pe_cmpR (op_inD (u65 hr)) (mv 1) (pe_fld (mv 0) rfl) (by rfl)))))), p, C, dx, _, _, rfl, hp, L.cl, L.nV, lf_servers _ _ _, ls, ns, x, r, rfl, h1, j, _, rfl, ?_⟩
    cases r with
    | none => exact ifF (by rfl) k
    | some e =>
      refine ifT (by rfl) ?_
      cases j with
      | @ok t z i ht hz hi =>
        refine ⟨p, C, dx, _, _, rfl, hp, L.cl, L.nE, lf_entries _ _ _, _, _, dp_E (e := (z, i)) ⟨t, rfl, ht⟩, dp_L (SqL.of h2) el, (shaped_E (hn z hz)).1, shaped_L (fun e he => hn _ (ok.ok e he).1), ?_⟩
        rw [any_L]
        exact k
theorem kd_no (sz : Int) (ls le : Addr) : (lf sz ls le).lookup ("KIND" : Str) = none := lf_no sz ls le (by decide +kernel) (by decide +kernel) (by decide +kernel)
theorem ok_eq {C2 : Addr} {kd2 : Str} (T : Tx K mg cL cX) (L : LogC K C kd) (L2 : LogC K C2 kd2) (hk : PySem.W.kitOne K (.ref C2) (.ref cL) = some true) (D : Mx K "__eq__" "Log.__eq__" s_Log___eq__ ["self", "other"] f fd) :
    FnOk P w K mg base C8.CX0 1 f fd ["self", "other"] (spEqL C C2 kd kd2) := by
  refine fn_of' D sc_Log___eq__ (fun vs H Q E h => ?_) (fun cdv A o s H vs Q E hr h => ?_)
  · obtain ⟨p, q, sz, ns, es, sz2, ns2, es2, rfl, _⟩ := h; rfl
  · obtain ⟨p, q, sz, ns, es, sz2, ns2, es2, rfl, ⟨dx, ls, le, xs, hp, h1, h2, el⟩, ⟨dx2, ls2, le2, xs2, hp2, g1, g2, el2⟩, ok, nm, ok2, nm2, k⟩ := h
    obtain ⟨u, con⟩ := L.kd
    obtain ⟨u2, con2⟩ := L2.kd
    refine ⟨_, (pss_cons (ps_if (PW.pt (pw_or (pt_not (qv (pe_callB call_isi (by rfl) T.n_isinstance (by decide +kernel) (pa_cons (mv 1) (pa_cons (pe_gc rfl T.g_Log) pa_nil))))) (pw_or (qt m_ne (pe_con (mv 1) rfl) (pe_con (mv 0) rfl) (nomark _)) (pw_or1 (qt m_ne (pe_fld (mv 1) rfl) (pe_fld (mv 0) rfl) (nomark _)))))) (pss_one (ps_ret pe_bl)) pss_nil)
    (pss_one (ps_ret (pe_and (pe_cmpR (op_eqD hr.units) (pe_fld (mv 1) rfl) (pe_fld (mv 0) rfl) (nomark _)) (pe_one (pe_cmpR (op_eqD hr.units) (pe_fld (mv 1) rfl) (pe_fld (mv 0) rfl) (nomark _))))))), ?_⟩
    refine ⟨_, _, _, _, _, rfl, .own _, L2.ty _ _ _ _ hp2, hk, ifF (by rfl) ?_⟩
    refine ⟨q, C2, dx2, _, _, _, rfl, hp2, L2.cl, con2, kd_no _ _ _, p, C, dx, _, _, _, rfl, hp, L.cl, con, kd_no _ _ _, ?_⟩
    dsimp only [mEqG, kB]
    by_cases e1 : kd2 = kd
    · rw [decide_eq_true e1] at k ⊢
      refine ifF (by rfl) ?_
      refine ⟨q, C2, dx2, _, _, rfl, hp2, L2.cl, L2.nS, lf_size _ _ _, p, C, dx, _, _, rfl, hp, L.cl, L.nS, lf_size _ _ _, ?_⟩
      dsimp only [mEqG, kB]
      by_cases e2 : sz2 = sz
      · rw [decide_eq_true e2] at k ⊢
        refine ifF (by rfl) ?_
        refine ⟨q, C2, dx2, _, _, rfl, hp2, L2.cl, L2.nV, lf_servers _ _ _, p, C, dx, _, _, rfl, hp, L.cl, L.nV, lf_servers _ _ _, ?_⟩
        refine ⟨_, _, dp_S (SqL.of g1), dp_S (SqL.of h1), shaped_S nm2, shaped_S nm, _, rfl, ?_⟩
        rw [eqv_S]
        by_cases e3 : ns2 = ns
        · rw [decide_eq_true e3] at k ⊢
          refine ifT (by rfl) ?_
          refine ⟨q, C2, dx2, _, _, rfl, hp2, L2.cl, L2.nE, lf_entries _ _ _, p, C, dx, _, _, rfl, hp, L.cl, L.nE, lf_entries _ _ _, ?_⟩
          refine ⟨_, _, dp_L (SqL.of g2) el2, dp_L (SqL.of h2) el, shaped_L (fun e he => nm2 _ (ok2.ok e he).1), shaped_L (fun e he => nm _ (ok.ok e he).1), ?_⟩
          rw [eqv_L]
          exact k
        · rw [decide_eq_false e3] at k ⊢
          exact ifF (by rfl) k
      · rw [decide_eq_false e2] at k ⊢
        exact ifT (by rfl) k
    · rw [decide_eq_false e1] at k ⊢
      exact ifT (by rfl) k

theorem nat_bits {i : Int} {n : Nat} (h0 : 0 ≤ i) (h : i < 2 ^ n) (hn : 0 < n) : i.natAbs.log2 < n := by
  refine PySem.Flt.log2_lt_of hn ?_
  have : ((i.natAbs : Nat) : Int) < ((2 ^ n : Nat) : Int) := by
    rw [Int.natCast_pow]
    have e : (i.natAbs : Int) = i := by omega
    rw [e]; exact h
  exact_mod_cast this
theorem cdv_size {sz : Int} (i : Int) (h : SizeOk sz) : CDv i sz := by
  refine ⟨by have := h.1; omega, Nat.lt_trans (nat_bits (n := 100) (by have := h.1; omega) ?_ (by decide)) (by decide)⟩
  have h2 := h.2
  have : (10 : Int) ^ 30 < 2 ^ 100 := by decide
  omega
/-- the numbers of the first i entries -/
def numsV (es : List (Str × Int)) : List V := (es.map (·.2)).map V.int
def Nums (H0 : Hp) (es : List (Str × Int)) (D : Addr) (i : Nat) (H : Hp) : Prop := Ext H0 H ∧ H D = some (.lst (numsV (es.take i)))
theorem foldl_max : ∀ (es : List (Str × Int)) (m : Int), (m = es.foldl (fun m x => max m x.2) m ∨ ∃ e ∈ es, e.2 = es.foldl (fun m x => max m x.2) m) ∧ m ≤ es.foldl (fun m x => max m x.2) m ∧ ∀ e ∈ es, e.2 ≤ es.foldl (fun m x => max m x.2) m
  | [], m => ⟨.inl rfl, Int.le_refl _, fun _ h => nomatch h⟩
  | e :: es, m => by
    obtain ⟨h1, h2, h3⟩ := foldl_max es (max m e.2)
    simp only [List.foldl_cons]
    refine ⟨?_, by omega, fun x hx => ?_⟩
    · rcases h1 with h1 | ⟨x, hx, q⟩
      · rcases Int.le_total m e.2 with z | z
        · refine .inr ⟨e, List.mem_cons_self, ?_⟩
          have : max m e.2 = e.2 := by omega
          omega
        · left
          have : max m e.2 = m := by omega
          omega
      · exact .inr ⟨x, List.mem_cons_of_mem _ hx, q⟩
    · rcases List.mem_cons.mp hx with rfl | hx
      · omega
      · exact h3 x hx
theorem max_is {es : List (Str × Int)} {e0 : Str × Int} {m : Int} (h1 : m ∈ (e0 :: es).map (·.2)) (h2 : ∀ y, y ∈ (e0 :: es).map (·.2) → y ≤ m) : m = es.foldl (fun m x => max m x.2) e0.2 := by
  obtain ⟨g1, g2, g3⟩ := foldl_max es e0.2
  refine Int.le_antisymm ?_ (h2 _ ?_)
  · obtain ⟨x, hx, rfl⟩ := List.mem_map.mp h1
    rcases List.mem_cons.mp hx with rfl | hx
    · exact g2
    · exact g3 x hx
  · rcases g1 with g1 | ⟨x, hx, q⟩
    · rw [← g1]; simp
    · rw [← q]; exact List.mem_map_of_mem (List.mem_cons_of_mem _ hx)
theorem ok_last (T : Tx K mg cL cX) (L : LogC K C kd) (D : Mx K "last_block" "Log.last_block" s_Log_last_block ["self"] f fd) : FnOk P w K mg base C8.CX0 1 f fd ["self"] (spLast C) := by
  refine fn_of' D sc_Log_last_block (fun vs H Q E h => ?_) (fun cdv A o s H vs Q E hr h => ?_)
  · obtain ⟨p, sz, ns, es, rfl, _⟩ := h; rfl
  · obtain ⟨p, sz, ns, es, rfl, lg, so, ok, nm, k⟩ := h
    obtain ⟨dx, ls, le, xs, hp, h1, h2, el⟩ := lg
    refine ⟨_, (pss_cons (ps_if (qt (op_eqD hr.units) (pe_fld (mv 0) rfl) (pe_lst pa_nil) (nomark _)) (pss_one (ps_ret (pe_un m_neg pe_int))) pss_nil)
    (pss_one (ps_ret (pe_op m_div (pe_callB (cr_max rfl) (by rfl) T.n_max (by decide +kernel) (pa_cons (pe_lc (own := [("server", 1), ("number", 2)]) (g := gTup K 2 (gCons (gName 1) (gCons (gName 2) gNil))) (tt := tYes) rfl sc_Log_last_block.nd (pi_list (pe_fld (mv 0) rfl)) (blkOk_by (own := [("server", 1), ("number", 2)]) (N := ["self", "server", "number"]) (sc := fnScope s_Log_last_block) (by decide +kernel)) (fun _ _ _ _ _ => (pg_tup rfl (pgs_cons (pg_name (i := 1) sc_Log_last_block.nd rfl (Or.inl rfl)) (pgs_cons (pg_name (i := 2) sc_Log_last_block.nd rfl (Or.inl rfl)) pgs_nil)))) (fun _ _ _ _ _ => pts_nil) (fun _ _ _ _ _ => (mv 2))) pa_nil)) (pe_fld (mv 0) rfl))))), ?_⟩
    refine ⟨p, C, dx, _, _, rfl, hp, L.cl, L.nE, lf_entries _ _ _, (Nat.zero_le _), fun e0 ne0 => ?_⟩
    have x1 : Ext H (upd H e0 (.lst [])) := Ext.upd ne0
    refine ⟨_, encL [], dp_L (SqL.of (x1 _ _ h2)) (el.mono x1), .lst (SqL.of upd_same) .nil, shaped_L (fun e he => nm _ (ok.ok e he).1), rfl, ?_⟩
    dsimp only [kB]
    rw [eqv_L]
    by_cases e1 : es = []
    · subst e1
      refine ifT (by rfl) ?_
      exact k _ x1
    · rw [decide_eq_false e1]
      refine ifF rfl ?_
      refine ⟨p, C, dx, _, _, rfl, x1 _ _ hp, L.cl, L.nE, lf_entries _ _ _, le, rfl, ⟨_, SqL.of (x1 _ _ h2)⟩, fun d hd => lc_list (K := K) (a := le) (xs := xs) (Nums (upd H e0 (.lst [])) es d) ⟨Ext.upd hd, upd_same⟩ (fun i H1 _ t => SqL.of (t.1 _ _ (x1 _ _ h2))) ?_ ?_⟩
      · intro i y H1 hy t
        have hi : i < xs.length := (List.getElem?_eq_some_iff.mp hy).1
        obtain ⟨e, he, q, rfl, hq⟩ := el.at hy
        refine ⟨q, _, rfl, SqT.of (t.1 _ _ (x1 _ _ hq)), rfl, _, _, rfl, _, _, rfl, rfl, rfl, goY (ifT (by rfl) ?_)⟩
        refine ⟨_, t.2, ?_, ?_⟩
        · unfold numsV
          rw [List.length_map, List.length_map, List.length_take]
          have := ok.few
          exact Nat.lt_of_le_of_lt (Nat.min_le_right _ _) (Nat.lt_of_le_of_lt this (by decide))
        · refine ⟨fun a o z => ?_, ?_⟩
          · rw [upd_ne (ne_of_none z hd)]; exact t.1 a o z
          · rw [upd_same]
            unfold numsV
            rw [List.take_add_one, he]
            simp
      · intro H1 t
        refine ⟨d, es.map (·.2), rfl, SqL.of (by have := t.2; rw [← el.len, List.take_length] at this; exact this), by rw [List.length_map]; exact List.length_pos_iff.mpr e1, fun m hm hle => ?_⟩
        have hp1 := t.1 _ _ (x1 _ _ hp)
        refine ⟨p, C, dx, _, _, rfl, hp1, L.cl, L.nS, lf_size _ _ _, cdv_size _ so, ?_⟩
        cases es with
        | nil => exact absurd rfl e1
        | cons e es =>
          rw [max_is hm hle]
          exact k _ (x1.trans t.1)
end
end NB

set_option Elab.async false
set_option linter.all false
set_option maxRecDepth 100000
set_option maxHeartbeats 4000000
/-! K3: the draws of the laws -/
namespace NB
open PySem PySem.Spec L2
open PyProof.Rows (envOfC)
open C8 (pe_c pe_mk pe_mt pe_mt0 pe_gc fnScope fnBody fnArgs fnScope_by Cal Met Mak)

/-! ### promises -/
def FeedO (o : HO) : Prop := ∃ x y z : Int, o = .lst [.int x, .int y, .int z] ∧ 0 ≤ x ∧ 0 ≤ y ∧ y < 2305843009213693951
def FeedAt (H : Hp) (p : Addr) : Prop := ∃ o, H p = some o ∧ FeedO o
def spFeed (K : PySem.W.Frag) : Sp := fun vs H Q _ => ∃ (a : Addr) (ns : List Int) (k : Int), vs = [.ref a, .int k] ∧ SqL K H a (ns.map V.int) ∧ 0 ≤ k ∧ k < 100 ∧ ns.length ≤ 63 ∧ ∀ p o, H p = none → FeedO o → Q (.ref p) (upd H p o)
def spPick : Sp := fun vs H Q _ => ∃ p many, vs = [.ref p, .int many] ∧ FeedAt H p ∧ 1 ≤ many ∧ many < 2 ^ 1000 ∧ ∀ r o, 0 ≤ r → r < many → FeedO o → Q (.int r) (upd H p o)
theorem posM : (0 : Int) < 2305843009213693951 := by decide
theorem atI_at {α : Type} {xs : List α} {k : Int} {v : α} (h0 : 0 ≤ k) (h : xs[k.toNat]? = some v) : atI xs k = some v := by
  have e : k = ((k.toNat : Nat) : Int) := by omega
  rw [e]
  exact atI_nat h
theorem map_erase {α β : Type} (f : α → β) : ∀ (l : List α) (k : Nat), (l.eraseIdx k).map f = (l.map f).eraseIdx k
  | [], _ => rfl
  | _ :: _, 0 => rfl
  | a :: l, k + 1 => by
    show f a :: (l.eraseIdx k).map f = f a :: (l.map f).eraseIdx k
    rw [map_erase f l k]
theorem er_perm {α : Type} : ∀ (l : List α) (k : Nat) (h : k < l.length), (l[k] :: l.eraseIdx k).Perm l
  | a :: l, 0, _ => List.Perm.refl _
  | a :: l, k + 1, h => by
    have hk : k < l.length := by simpa using h
    have ih := er_perm l k hk
    show (l[k] :: a :: l.eraseIdx k).Perm (a :: l)
    exact (List.Perm.swap _ _ _).trans (ih.cons a)
theorem upd_is {H H' : Hp} {p : Addr} {o : HO} (h : H' p = some o) (r : ∀ b, b ≠ p → H' b = H b) : H' = upd H p o := by
  funext b
  by_cases e : b = p
  · rw [e, h, upd_same]
  · rw [r b e, upd_ne e]
theorem mod_lt {a b : Int} (h : 0 < b) : 0 ≤ a % b ∧ a % b < b := ⟨Int.emod_nonneg _ (by omega), Int.emod_lt_of_pos _ h⟩
theorem mulL {i j : Int} (h1 : -(2 ^ 64) < i) (h2 : i < 2 ^ 64) : PySem.IntMulOk i j := CMul.ok (.inl ⟨h1, h2⟩)
theorem mulR {i j : Int} (h1 : -(2 ^ 64) < j) (h2 : j < 2 ^ 64) : PySem.IntMulOk i j := CMul.ok (.inr ⟨h1, h2⟩)

section
variable {P : Program} {w : World} {K : PySem.W.Frag} {mg : Str → Option Value} {base : Heap}
theorem ok_feed (T : Blt mg) (D : Dx K mg "_law_feed" s__law_feed ["script", "k"]) : Cal P w K mg base 1 "_law_feed" (spFeed K) [] := by
  refine cal_of D sc__law_feed (fun vs H Q E h => ?_) (fun f cdv A o s H vs Q E hr h => ?_)
  · obtain ⟨a, ns, k, rfl, _⟩ := h; rfl
  · obtain ⟨a, ns, k, rfl, hS, hk0, hk1, hn, q⟩ := h
    have rest : ∀ start : Int, tRet (tLst (tCons (tCB (fun xs H Q => ∃ i j, xs = [.int i, .int j] ∧ Q (.int (if j > i then j else i)) H) (tCons (tC (.int 0)) (tCons (tOp (mI0 fun i j => .int (i - j)) (tCB (fun xs H Q => ∃ i, xs = [.int i] ∧ Q (.int (if i < 0 then -i else i)) H) (tCons (mV 2) tNil)) (tOp (mI CPow fun i j => .int (i ^ j.toNat)) (tC (.int 10)) (tC (.int 18)))) tNil)))
        (tCons (tOp (mI (fun _ j => 0 < j) fun i j => .int (i % j)) (tOp (mI0 fun i j => .int (i + j)) (tOp (mI0 fun i j => .int (i + j)) (tOp (mI IntMulOk fun i j => .int (i * j)) (mV 2) (tC (.int 229))) (tOp (mI IntMulOk fun i j => .int (i * j)) (tC (.int 6529)) (mV 1))) (tC (.int 89))) (tC (.int 2305843009213693951))) (tCons (tC (.int 0)) tNil)))) { nx := fun _ H' => Q .non H', rt := Q } [some (.ref a), some (.int k), some (.int start)] H := by
      intro start
      refine ⟨_, rfl, ⟨by decide, by decide, by decide⟩, _, _, rfl, ?_⟩
      refine ⟨mulR (by decide) (by decide), mulL (by decide) (by decide), posM, (by show 3 ≤ sizeLine; decide), fun p hp => ?_⟩
      refine q p _ hp ⟨_, _, _, rfl, ?_, (mod_lt (by decide)).1, (mod_lt (by decide)).2⟩
      split <;> omega
    refine ⟨_, (pss_cons (ps_set (i := 2) sc__law_feed.nd rfl (Or.inl rfl) pe_int)
    (pss_cons (ps_if (qt m_lt (mv 1) (pe_callB call_len (by rfl) T.n_len (by decide +kernel) (pa_cons (mv 0) pa_nil)) (nomark _)) (pss_one (ps_set (i := 2) sc__law_feed.nd rfl (Or.inl rfl) (pe_ix m_ix (mv 0) (mv 1) (fun _ _ => rfl)))) pss_nil)
    (pss_one (ps_ret (pe_lst (pa_cons (pe_callB (call_max2 rfl) (by rfl) T.n_max (by decide +kernel) (pa_cons pe_int (pa_cons (pe_op m_sub (pe_callB call_abs (by rfl) T.n_abs (by decide +kernel) (pa_cons (mv 2) pa_nil)) (pe_op m_pow pe_int pe_int)) pa_nil))) (pa_cons (pe_op m_mod (pe_op m_add (pe_op m_add (pe_op m_mul (mv 2) pe_int) (pe_op m_mul pe_int (mv 1))) pe_int) pe_int) (pa_cons pe_int pa_nil)))))))), ?_⟩
    refine ⟨_, _, rfl, .inl ⟨_, hS, rfl⟩, ?_⟩
    dsimp only [kB]
    refine ifD (fun h => ?_) (fun h => ?_)
    · have hlt : k.toNat < ns.length := by rw [List.length_map] at h; omega
      refine ⟨_, .int (ns[k.toNat]), .inl hS, ?_, ?_⟩
      · exact atI_at hk0 (by simp [hlt])
      · exact rest _
    · exact rest 0

theorem cdv_of {j : Int} {n : Nat} (i : Int) (h1 : 1 ≤ j) (h2 : j < 2 ^ n) (h0 : 0 < n) (h9 : n ≤ 9000) : CDv i j := ⟨by omega, Nat.lt_of_lt_of_le (nat_bits (by omega) h2 h0) h9⟩
theorem bits_le {i : Int} {n : Nat} (h1 : 0 ≤ i) (h2 : i < 2 ^ n) (h0 : 0 < n) : Builtin.Int.intBits i ≤ n := by
  have h := nat_bits h1 h2 h0
  unfold Builtin.Int.intBits
  split <;> omega
/-- between two turns of the loop in _law_pick -/
def PickI (H0 : Hp) (p : Addr) (x y many : Int) (i : Nat) (σ : L2.St) (H : Hp) : Prop := ∃ found z v4 v5, σ = [some (.ref p), some (.int many), none, some (.int found), v4, v5] ∧ H p = some (.lst [.int x, .int y, .int z]) ∧ ∀ b, b ≠ p → H b = H0 b
theorem ok_pick (T : Blt mg) (D : Dx K mg "_law_pick" s__law_pick ["feed", "many"]) : Cal P w K mg base 1 "_law_pick" spPick [] := by
  refine cal_of D sc__law_pick (fun vs H Q E h => ?_) (fun f cdv A o s H vs Q E hr h => ?_)
  · obtain ⟨p, many, rfl, _⟩ := h; rfl
  · obtain ⟨p, many, rfl, ⟨o, hp, x, y, z, rfl, hx, hy0, hy1⟩, hm1, hm2, q⟩ := h
    have at0 : ∀ {H : Hp} {x y z : Int}, H p = some (.lst [.int x, .int y, .int z]) → (SqL K H p [.int x, .int y, .int z] ∨ SqT K H p [.int x, .int y, .int z]) := fun h => .inl (SqL.of h)
    refine ⟨_, (pss_cons (ps_if (qt m_gt (pe_ix m_ix (mv 0) pe_int (fun _ _ => rfl)) pe_int (nomark _)) (pss_cons (ps_set (i := 2) sc__law_pick.nd rfl (Or.inl rfl) (pe_op m_mod (pe_ix m_ix (mv 0) pe_int (fun _ _ => rfl)) (mv 1)))
    (pss_cons (ps_asg (pe_op m_div (pe_ix m_ix (mv 0) pe_int (fun _ _ => rfl)) (mv 1)) (pg_sub (mv 0) pe_int set_list))
    (pss_one (ps_ret (mv 2))))) pss_nil)
    (pss_cons (ps_set (i := 3) sc__law_pick.nd rfl (Or.inl rfl) pe_int)
    (pss_cons (ps_for PassesOwn.never rfl (pi_range1 (by rfl) T.n_range (pa_cons (pe_op m_add pe_int (pe_op m_div (pe_bits (mv 1)) pe_int)) pa_nil)) (pg_name (i := 4) sc__law_pick.nd rfl (Or.inl rfl))
    (pss_cons (ps_asg (pe_op m_add (pe_ix m_ix (mv 0) pe_int (fun _ _ => rfl)) pe_int) (pg_sub (mv 0) pe_int set_list))
    (pss_cons (ps_set (i := 5) sc__law_pick.nd rfl (Or.inl rfl) (pe_op m_mod (pe_op m_add (pe_ix m_ix (mv 0) pe_int (fun _ _ => rfl)) (pe_op m_mul pe_int (pe_ix m_ix (mv 0) pe_int (fun _ _ => rfl)))) pe_int))
    (pss_cons (ps_set (i := 5) sc__law_pick.nd rfl (Or.inl rfl) (pe_op m_mod (pe_op m_add (pe_op m_add (pe_op m_mul (mv 5) (mv 5)) (pe_op m_mul (pe_op m_mul pe_int (pe_ix m_ix (mv 0) pe_int (fun _ _ => rfl))) (mv 5))) pe_int) pe_int))
    (pss_cons (ps_set (i := 5) sc__law_pick.nd rfl (Or.inl rfl) (pe_op m_mod (pe_op m_add (pe_op m_add (pe_op m_pow (mv 5) pe_int) (pe_ix m_ix (mv 0) pe_int (fun _ _ => rfl))) (pe_op m_mul pe_int (pe_ix m_ix (mv 0) pe_int (fun _ _ => rfl)))) pe_int))
    (pss_one (ps_set (i := 3) sc__law_pick.nd rfl (Or.inl rfl) (pe_op m_add (pe_op m_mul (mv 3) (pe_op m_pow pe_int pe_int)) (pe_op m_div (mv 5) pe_int)))))))))
    (pss_one (ps_ret (pe_op m_mod (mv 3) (mv 1))))))), ?_⟩
    refine ⟨_, _, at0 hp, atI_nat (j := 0) rfl, ?_⟩
    dsimp only [tC, kB]
    refine ifD (fun h => ?_) (fun h => ?_)
    · refine ⟨_, _, at0 hp, atI_nat (j := 0) rfl, by omega, ?_⟩
      refine ⟨_, _, at0 hp, atI_nat (j := 0) rfl, cdv_of _ hm1 hm2 (by decide) (by decide), ?_⟩
      refine ⟨p, _, _, 0, rfl, rfl, hp, rfl, ?_⟩
      exact q _ _ (mod_lt (by omega)).1 (mod_lt (by omega)).2 ⟨_, y, z, rfl, Int.ediv_nonneg hx (by omega), hy0, hy1⟩
    · refine ⟨many, rfl, ⟨by decide, by decide⟩, ?_⟩
      have hb := bits_le (by omega) hm2 (by decide)
      have hn : (0 : Int) ≤ 1 + ((Builtin.Int.intBits many : Nat) : Int) / 40 ∧ 1 + ((Builtin.Int.intBits many : Nat) : Int) / 40 ≤ 2000 := by omega
      refine ⟨_, rfl, by omega, by omega, for_range (lo := 0) (n := (1 + ((Builtin.Int.intBits many : Nat) : Int) / 40).toNat) (PickI H p x y many) ⟨0, z, none, none, rfl, hp, fun _ _ => rfl⟩ ?_ ?_⟩
      · rintro i σ H1 hi ⟨found, z1, v4, v5, rfl, h1, h2⟩
        refine ⟨_, _, at0 h1, atI_nat (j := 2) rfl, ?_⟩
        refine ⟨p, _, _, 2, rfl, rfl, h1, rfl, ?_⟩
        have h3 : (upd H1 p (.lst ([V.int x, V.int y, V.int z1].set 2 (.int (z1 + 1))))) p = some (.lst [V.int x, V.int y, V.int (z1 + 1)]) := upd_same
        refine ⟨_, _, at0 h3, atI_nat (j := 1) rfl, _, _, at0 h3, atI_nat (j := 2) rfl, mulL (by decide) (by decide), posM, ?_⟩
        obtain ⟨b0, b1⟩ := mod_lt (a := y + 230003 * (z1 + 1)) (b := 2305843009213693951) (by decide)
        refine ⟨mulL (by omega) (by omega), _, _, at0 h3, atI_nat (j := 2) rfl, mulL (by decide) (by decide), mulR (by omega) (by omega), posM, ?_⟩
        generalize hm : (y + 230003 * (z1 + 1)) % 2305843009213693951 = m1 at *
        obtain ⟨c0, c1⟩ := mod_lt (a := m1 * m1 + 78007 * (z1 + 1) * m1 + 73) (b := 2305843009213693951) (by decide)
        refine ⟨⟨by decide, by decide, by omega⟩, _, _, at0 h3, atI_nat (j := 1) rfl, _, _, at0 h3, atI_nat (j := 2) rfl, mulL (by decide) (by decide), posM, ?_⟩
        refine ⟨⟨by decide, by decide, by decide⟩, mulR (by decide) (by decide), ⟨by decide, by decide +kernel⟩, ?_⟩
        exact ⟨_, z1 + 1, _, _, rfl, h3, fun b hb => by rw [upd_ne hb]; exact h2 b hb⟩
      · rintro σ H1 ⟨found, z1, v4, v5, rfl, h1, h2⟩
        refine ⟨by omega, ?_⟩
        rw [upd_is h1 h2]
        exact q _ _ (mod_lt (by omega)).1 (mod_lt (by omega)).2 ⟨x, y, z1, rfl, hx, hy0, hy1⟩

theorem FeedO.ne_strs {o : HO} {ns : List Str} (h : FeedO o) : o ≠ .lst (ns.map V.str) := by
  obtain ⟨x, y, z, rfl, _⟩ := h
  intro e
  injection e with e
  cases ns with
  | nil => cases e
  | cons s ns => injection e with e; cases e
theorem FeedO.ne_tup {o : HO} (h : FeedO o) : ∀ xs, o ≠ .tup xs := by
  obtain ⟨x, y, z, rfl, _⟩ := h
  intro xs e
  cases e
theorem FeedAt.ne {H : Hp} {p a : Addr} {ns : List Str} (h : FeedAt H p) (ha : H a = some (.lst (ns.map V.str))) : a ≠ p := by
  obtain ⟨o, hp, fo⟩ := h
  exact fun e => by
    rw [e, hp] at ha
    exact fo.ne_strs (Option.some.inj ha)
theorem FeedAt.put {H : Hp} {p : Addr} {o : HO} (h : FeedO o) : FeedAt (L2.upd H p o) p := ⟨o, upd_same, h⟩
theorem FeedAt.keep {H H' : Hp} {p : Addr} (h : FeedAt H p) (e : Ext H H') : FeedAt H' p := by
  obtain ⟨o, hp, fo⟩ := h
  exact ⟨o, e _ _ hp, fo⟩
theorem TupSt.feed {H : Hp} {p : Addr} {o : HO} (h : FeedAt H p) : TupSt H (L2.upd H p o) := by
  obtain ⟨u, hp, fo⟩ := h
  exact TupSt.upd hp fo.ne_tup
/-- the names that crews are drawn from -/
def NAMES : List Str := ["ann", "bob", "a", "b", "cy", "zz", "abcdefgh", "ab", "x", "yvonne", "q", "annb"]
theorem names_ok : ∀ z ∈ NAMES, nameB z = true := by decide +kernel
theorem names_nd : NAMES.Nodup := by decide +kernel
def spCrewL : Sp := fun vs H Q _ => ∃ p most, vs = [.ref p, .int most] ∧ FeedAt H p ∧ 1 ≤ most ∧ most ≤ 12 ∧
  ∀ H' q ns, H q = none → H' q = some (.lst (ns.map V.str)) → CrewOk ns → (∀ z ∈ ns, z ∈ NAMES) → FeedAt H' p → Frm [p] H H' → Q (.ref q) H'
def CrewI (H0 : Hp) (p l D : Addr) (i : Nat) (H : Hp) : Prop := ∃ took rest : List Str, H l = some (.lst (rest.map V.str)) ∧ H D = some (.lst (took.map V.str)) ∧ (took ++ rest).Perm NAMES ∧ took.length = i ∧ FeedAt H p ∧ Frm [p] H0 H
theorem ok_crew (T : Blt mg) (D : Dx K mg "_law_crew" s__law_crew ["feed", "most"]) (c__law_pick : Cal P w K mg base 1 "_law_pick" spPick []) : Cal P w K mg base 2 "_law_crew" spCrewL [] := by
  refine cal_of D sc__law_crew (fun vs H Q E h => ?_) (fun f cdv A o s H vs Q E hr h => ?_)
  · obtain ⟨p, most, rfl, _⟩ := h; rfl
  · obtain ⟨p, most, rfl, hf, hm1, hm2, k⟩ := h
    refine ⟨_, (pss_cons (ps_set (i := 2) sc__law_crew.nd rfl (Or.inr rfl) (pe_lst (pa_cons pe_str (pa_cons pe_str (pa_cons pe_str (pa_cons pe_str (pa_cons pe_str (pa_cons pe_str (pa_cons pe_str (pa_cons pe_str (pa_cons pe_str (pa_cons pe_str (pa_cons pe_str (pa_cons pe_str pa_nil))))))))))))))
    (pss_one (ps_ret (pe_lc (own := [("turn", 3)]) (g := gName 3) (tt := tYes) (te := tBM K "list" rPopAt (mV 2) (tCons (tCall spPick [] C8.E0 (tCons (mV 0) (tCons (tCB (fun xs H Q => ∃ x n, xs = [x] ∧ LenV K x H n ∧ Q (.int n) H) (tCons (mV 2) tNil)) tNil))) tNil)) rfl sc__law_crew.nd (pi_range1 (by rfl) T.n_range (pa_cons (pe_op m_add pe_int (pe_c c__law_pick hr (by decide) rfl (pa_cons (mv 0) (pa_cons (mv 1) pa_nil)))) pa_nil)) (blkOk_by (own := [("turn", 3)]) (N := ["feed", "most", "names", "turn"]) (sc := fnScope s__law_crew) (by decide +kernel)) (fun _ _ _ _ _ => (pg_name (i := 3) sc__law_crew.nd rfl (Or.inl rfl))) (fun _ _ _ _ _ => pts_nil) (fun _ _ _ _ _ => (pe_bm PySem.F.plainAttrs_list PySem.F.slot_list_pop PySem.F.type_list_pop mt_popAt (mv 2) (pa_cons (pe_c c__law_pick hr (by decide) rfl (pa_cons (mv 0) (pa_cons (pe_callB call_len (by rfl) T.n_len (by decide +kernel) (pa_cons (mv 2) pa_nil)) pa_nil))) pa_nil))))))), ?_⟩
    refine ⟨(by show 12 ≤ sizeLine; decide), fun l hl => ?_⟩
    have x1 : Ext H (upd H l (.lst (NAMES.map V.str))) := Ext.upd hl
    have pl : p ≠ l := by obtain ⟨o, hp, _⟩ := hf; exact ne_of_none hp hl
    refine ⟨p, most, rfl, hf.keep x1, hm1, Int.lt_of_le_of_lt hm2 (by decide +kernel), fun r o1 h0 h1 fo => ?_⟩
    refine ⟨_, rfl, by omega, by omega, fun d hd => lc_range (lo := 0) (n := (1 + r).toNat) (CrewI H p l d) ⟨[], NAMES, ?_, upd_same, List.Perm.refl _, rfl, ?_, ?_⟩ ?_ ?_⟩
    · have ld : l ≠ d := by
        refine ne_of_none (o := .lst (NAMES.map V.str)) ?_ hd
        rw [upd_ne pl.symm]
        exact upd_same
      rw [upd_ne ld, upd_ne pl.symm]
      exact upd_same
    · exact (FeedAt.put fo).keep (Ext.upd hd)
    · exact ((Frm.ext x1).upd mem1).new hd
    · rintro i H1 hi ⟨took, rest, g1, g2, pm, ht, hf1, fr⟩
      have hl12 : took.length + rest.length = 12 := by have := pm.length_eq; rw [List.length_append] at this; exact this
      have hr1 : 1 ≤ rest.length := by omega
      refine ⟨rfl, goY (ifT (by rfl) ?_)⟩
      refine ⟨.inl ⟨rfl, _, SqL.of g1⟩, ?_⟩
      refine ⟨_, _, rfl, .inl ⟨_, SqL.of g1, rfl⟩, ?_⟩
      rw [List.length_map]
      refine ⟨p, _, rfl, hf1, by omega, Int.lt_of_le_of_lt (b := 12) (by omega) (by decide), fun r2 o2 q0 q1 fo2 => ?_⟩
      have lp : l ≠ p := hf1.ne g1
      have hk : r2.toNat < rest.length := by omega
      have dl : d ≠ l := by
        intro e
        rw [e, g1] at g2
        have e2 : rest.map V.str = took.map V.str := by injection g2 with g2; injection g2
        have e3 : rest = took := List.map_inj_right (fun a b h => V.str.inj h) |>.mp e2
        rw [e3] at pm
        have nd := pm.symm.nodup names_nd
        rw [List.nodup_append] at nd
        cases took with
        | nil => rw [e3] at hr1; exact absurd hr1 (by decide)
        | cons z t => exact nd.2.2 z List.mem_cons_self z List.mem_cons_self rfl
      have dp : d ≠ p := by
        intro e
        obtain ⟨u, hu, fu⟩ := hf1
        rw [e, hu] at g2
        exact fu.ne_strs (Option.some.inj g2)
      refine ⟨l, rest.map V.str, r2, r2.toNat, .str rest[r2.toNat], rfl, rfl, by rw [upd_ne lp]; exact g1, by omega, by omega, ?_, ?_, ?_⟩
      · rw [List.length_map]
        unfold PySem.seqIndex?
        simp
        omega
      · rw [List.getElem?_map, List.getElem?_eq_getElem hk]; rfl
      refine ⟨took.map V.str, by rw [upd_ne dl, upd_ne dp]; exact g2, by rw [List.length_map]; exact Nat.lt_of_le_of_lt (show took.length ≤ 12 by omega) (by decide), took ++ [rest[r2.toNat]], rest.eraseIdx r2.toNat, ?_, ?_, ?_, ?_, ?_, ?_⟩
      · rw [upd_ne dl.symm, upd_same, map_erase]
      · rw [upd_same, List.map_append]; rfl
      · refine List.Perm.trans ?_ pm
        rw [List.append_assoc]
        exact List.Perm.append_left _ (er_perm rest r2.toNat hk)
      · rw [List.length_append, ht]; rfl
      · refine ⟨o2, ?_, fo2⟩
        rw [upd_ne dp.symm, upd_ne lp.symm]
        exact upd_same
      · intro b u hb nb
        have b1 : b ≠ p := fun e => nb (by rw [e]; exact mem1)
        have b2 := fr b u hb nb
        rw [upd_ne ?_, upd_ne ?_, upd_ne b1]
        · exact b2
        · exact fun e => by rw [e, hl] at hb; cases hb
        · exact fun e => by rw [e, (upd_none (upd_none hd).2).2] at hb; cases hb
    · rintro H1 ⟨took, rest, g1, g2, pm, ht, hf1, fr⟩
      have hsub : ∀ z ∈ took, z ∈ NAMES := fun z hz => pm.mem_iff.mp (List.mem_append_left _ hz)
      have nd := pm.symm.nodup names_nd
      rw [List.nodup_append] at nd
      refine k H1 d took ?_ g2 ⟨by omega, ?_, fun z hz => names_ok z (hsub z hz), nd.1⟩ hsub hf1 fr
      · exact (upd_none (upd_none hd).2).2
      · have := pm.length_eq
        rw [List.length_append] at this
        have e : NAMES.length = 12 := rfl
        omega

def spEntsL : Sp := fun vs H Q _ => ∃ p a ns most limit, vs = [.ref p, .ref a, .int most, .int limit] ∧ FeedAt H p ∧ H a = some (.lst (ns.map V.str)) ∧ CrewOk ns ∧ 0 ≤ most ∧ most ≤ 200 ∧ 1 ≤ limit ∧ limit < 2 ^ 1000 ∧
  ∀ H' q es xs, H q = none → H' q = some (.lst xs) → EntL H' es xs → EntsOk ns es → (∀ e ∈ es, e.2 < limit) → FeedAt H' p → Frm [p] H H' → Q (.ref q) H'
def EntI (H0 : Hp) (p a : Addr) (ns : List Str) (most limit : Int) (l : Addr) (i : Nat) (σ : L2.St) (H : Hp) : Prop := ∃ es xs v5 v6 v7, σ = [some (.ref p), some (.ref a), some (.int most), some (.int limit), some (.ref l), v5, v6, v7] ∧
  H l = some (.lst xs) ∧ EntL H es xs ∧ es.length = i ∧ (∀ e ∈ es, e.1 ∈ ns ∧ 0 ≤ e.2 ∧ e.2 < limit) ∧ FeedAt H p ∧ Frm [p] H0 H
theorem Frm.new' {M : List Addr} {H H1 : Hp} {p : Addr} {o : HO} (a : Frm M H H1) (h : H p = none) : Frm M H (L2.upd H1 p o) := fun c u e n => by
  rw [upd_ne (ne_of_none e h)]; exact a c u e n
theorem EntL.snoc {H : Hp} : ∀ {es : List (Str × Int)} {xs : List V} {e : Str × Int} {v : V}, EntL H es xs → EntAt H e v → EntL H (es ++ [e]) (xs ++ [v])
  | _, _, _, _, .nil, h => .cons h .nil
  | _, _, _, _, .cons r q, h => .cons r (EntL.snoc q h)
theorem EntL.get {H : Hp} : ∀ {es : List (Str × Int)} {xs : List V} {i : Nat} (_ : EntL H es xs) (hi : i < es.length), ∃ v, xs[i]? = some v ∧ EntAt H es[i] v
  | _, _, 0, .cons r q, _ => ⟨_, rfl, r⟩
  | _, _, i + 1, .cons r q, hi => by
    obtain ⟨v, h1, h2⟩ := EntL.get q (i := i) (by simpa using hi)
    exact ⟨v, by simpa using h1, by simpa using h2⟩
theorem ok_ents (T : Blt mg) (D : Dx K mg "_law_entries" s__law_entries ["feed", "crew", "most", "limit"]) (c__law_pick : Cal P w K mg base 1 "_law_pick" spPick []) : Cal P w K mg base 2 "_law_entries" spEntsL [] := by
  refine cal_of D sc__law_entries (fun vs H Q E h => ?_) (fun f cdv A o s H vs Q E hr h => ?_)
  · obtain ⟨p, a, ns, most, limit, rfl, _⟩ := h; rfl
  · obtain ⟨p, a, ns, most, limit, rfl, hf, ha, cr, hm1, hm2, hl1, hl2', k⟩ := h
    have small : ∀ {i : Int}, i ≤ 1000 → i < 2 ^ 1000 := fun {i} h => Int.lt_of_le_of_lt h (by decide +kernel)
    refine ⟨_, (pss_cons (ps_set (i := 4) sc__law_entries.nd rfl (Or.inl rfl) (pe_lst pa_nil))
    (pss_cons (ps_for PassesOwn.never rfl (pi_range1 (by rfl) T.n_range (pa_cons (pe_ix m_ix (pe_lst (pa_cons (pe_c c__law_pick hr (by decide) rfl (pa_cons (mv 0) (pa_cons (pe_op m_add (mv 2) pe_int) pa_nil))) (pa_cons (mv 2) (pa_cons (pe_c c__law_pick hr (by decide) rfl (pa_cons (mv 0) (pa_cons (pe_callB (call_min2 rfl) (by rfl) T.n_min (by decide +kernel) (pa_cons pe_int (pa_cons (pe_op m_add (mv 2) pe_int) pa_nil))) pa_nil))) pa_nil)))) (pe_c c__law_pick hr (by decide) rfl (pa_cons (mv 0) (pa_cons pe_int pa_nil))) (fun _ _ => rfl)) pa_nil)) (pg_name (i := 5) sc__law_entries.nd rfl (Or.inl rfl))
    (C8.pss_cut (ps_set (i := 6) sc__law_entries.nd rfl (Or.inl rfl) (pe_and (pe_cmpR (op_neD hr.units) (mv 4) (pe_lst pa_nil) (nomark _)) (pe_one (pe_cmpR m_eq (pe_c c__law_pick hr (by decide) rfl (pa_cons (mv 0) (pa_cons pe_int pa_nil))) pe_int (nomark _)))))
    (pss_cons (ps_set (i := 7) sc__law_entries.nd rfl (Or.inl rfl) (pe_tup (pa_cons (pe_ix m_ix (mv 1) (pe_c c__law_pick hr (by decide) rfl (pa_cons (mv 0) (pa_cons (pe_callB call_len (by rfl) T.n_len (by decide +kernel) (pa_cons (mv 1) pa_nil)) pa_nil))) (fun _ _ => rfl)) (pa_cons (pe_c c__law_pick hr (by decide) rfl (pa_cons (mv 0) (pa_cons (mv 3) pa_nil))) pa_nil))))
    (pss_one (ps_expr (pe_bm PySem.F.plainAttrs_list PySem.F.slot_list_append PySem.F.type_list_append mt_append (mv 4) (pa_cons (pe_ifExp (qv (mv 6)) (pe_ix m_ix (mv 4) (pe_c c__law_pick hr (by decide) rfl (pa_cons (mv 0) (pa_cons (pe_callB call_len (by rfl) T.n_len (by decide +kernel) (pa_cons (mv 4) pa_nil)) pa_nil))) (fun _ _ => rfl)) (mv 7)) pa_nil)))))))
    (pss_one (ps_ret (mv 4))))), ?_⟩
    refine ⟨Nat.zero_le _, fun l hl => ?_⟩
    have ap : a ≠ p := hf.ne ha
    have pl : p ≠ l := by obtain ⟨o, hp, _⟩ := hf; exact ne_of_none hp hl
    refine ⟨p, _, rfl, hf.keep (Ext.upd hl), by omega, small (by omega), fun r1 o1 a1 a2 fo1 => ?_⟩
    refine ⟨_, _, rfl, p, _, rfl, FeedAt.put fo1, by split <;> omega, small (by split <;> omega), fun r2 o2 b1 b2 fo2 => ?_⟩
    refine ⟨(by show 3 ≤ sizeLine; decide), fun q0 hq0 => ?_⟩
    refine ⟨p, 3, rfl, (FeedAt.put fo2).keep (Ext.upd hq0), by decide, small (by decide), fun r3 o3 c1 c2 fo3 => ?_⟩
    have pq : p ≠ q0 := by intro e; rw [← e, upd_same] at hq0; cases hq0
    have lq : l ≠ q0 := by intro e; rw [← e, upd_ne pl.symm, upd_ne pl.symm, upd_same] at hq0; cases hq0
    have hq3 : (upd (upd (upd (upd (upd H l (.lst [])) p o1) p o2) q0 (.lst [.int r1, .int most, .int r2])) p o3) q0 = some (.lst [.int r1, .int most, .int r2]) := by rw [upd_ne pq.symm]; exact upd_same
    have three : r3 = 0 ∨ r3 = 1 ∨ r3 = 2 := by omega
    obtain ⟨n, hn, at3⟩ : ∃ n : Int, (0 ≤ n ∧ n ≤ most) ∧ atI [V.int r1, V.int most, V.int r2] r3 = some (.int n) := by
      rcases three with e | e | e
      · exact ⟨r1, by omega, by rw [e]; rfl⟩
      · exact ⟨most, by omega, by rw [e]; rfl⟩
      · refine ⟨r2, ⟨b1, ?_⟩, by rw [e]; rfl⟩
        split at b2 <;> omega
    refine ⟨_, _, .inl (SqL.of hq3), at3, _, rfl, by omega, by omega, for_range (lo := 0) (n := n.toNat) (EntI H p a ns most limit l) ⟨[], [], none, none, none, rfl, ?_, .nil, rfl, (fun _ h => nomatch h), FeedAt.put fo3, ?_⟩ ?_ ?_⟩
    · rw [upd_ne pl.symm, upd_ne lq, upd_ne pl.symm, upd_ne pl.symm]; exact upd_same
    · refine (((((Frm.refl (M := [p])).new' hl).upd mem1).upd mem1).new' ?_).upd mem1
      exact (upd_none (upd_none (upd_none hq0).2).2).2
    · rintro i σ H1 hi ⟨es, xs, v5, v6, v7, rfl, g1, el, ht, es_ok, hf1, fr⟩
      have nmE : ∀ e ∈ es, nameB e.1 = true := fun e he => cr.nam _ (es_ok e he).1
      have hi2 : es.length ≤ 200 := by omega
      -- again = found != [] and _law_pick(feed, 9) == 0
      refine ⟨fun σ2 H2 => ∃ b, σ2 = [some (.ref p), some (.ref a), some (.int most), some (.int limit), some (.ref l), some (.int (0 + i)), some (.bl b), v7] ∧ (b = true → es ≠ []) ∧ FeedAt H2 p ∧ Frm [p] H1 H2, ?_, ?_⟩
      · refine ⟨Nat.zero_le _, fun t0 ht0 => ?_⟩
        have y1 : Ext H1 (upd H1 t0 (.lst [])) := Ext.upd ht0
        refine ⟨_, encL [], dp_L (SqL.of (y1 _ _ g1)) (el.mono y1), .lst (SqL.of upd_same) .nil, shaped_L nmE, rfl, _, rfl, ?_⟩
        rw [eqv_L]
        by_cases e0 : es = []
        · rw [decide_eq_true e0]
          refine ifF (by rfl) ?_
          exact ⟨false, rfl, (fun z => nomatch z), hf1.keep y1, Frm.ext y1⟩
        · rw [decide_eq_false e0]
          refine ifT (by rfl) ?_
          refine ⟨p, _, rfl, hf1.keep y1, by decide, small (by decide), fun r4 o4 d1 d2 fo4 => ?_⟩
          exact ⟨_, rfl, fun _ => e0, FeedAt.put fo4, (Frm.ext y1).upd mem1⟩
      · rintro σ2 H2 ⟨b, rfl, hb, hf2, fr2⟩
        have lp : l ≠ p := pl.symm
        have ha2 : H2 a = some (.lst (ns.map V.str)) := fr2 _ _ (fr _ _ ha (by simpa using ap)) (by simpa using ap)
        have hc1 : (1 : Int) ≤ (ns.length : Int) := by have := cr.one; omega
        have hc2 : (ns.length : Int) ≤ 12 := by have := cr.few; omega
        have hl2 : H2 l = some (.lst xs) := fr2 _ _ g1 (by simpa using lp)
        -- fresh = (crew[..], _law_pick(feed, limit))
        refine ⟨_, _, rfl, .inl ⟨_, SqL.of ha2, rfl⟩, ?_⟩
        rw [List.length_map]
        refine ⟨p, _, rfl, hf2, hc1, small (by omega), fun r5 o5 d1 d2 fo5 => ?_⟩
        have hk5 : r5.toNat < ns.length := by omega
        refine ⟨_, .str ns[r5.toNat], .inl (SqL.of (by rw [upd_ne ap]; exact ha2)), atI_at d1 (by rw [List.getElem?_map, List.getElem?_eq_getElem hk5]; rfl), ?_⟩
        refine ⟨p, limit, rfl, FeedAt.put fo5, hl1, hl2', fun r6 o6 f1 f2 fo6 => ?_⟩
        refine ⟨(by show 2 ≤ sizeLine; decide), fun tp htp => ?_⟩
        have ptp : p ≠ tp := by intro e; rw [← e, upd_same] at htp; cases htp
        have y2 : Frm [p] H2 (upd (upd (upd H2 p o5) p o6) tp (.tup [.str ns[r5.toNat], .int r6])) := (((Frm.refl (M := [p])).upd mem1).upd mem1).new htp
        have hl3 := y2 _ _ hl2 (by simpa using lp)
        have hf3 : FeedAt (upd (upd (upd H2 p o5) p o6) tp (.tup [.str ns[r5.toNat], .int r6])) p := (FeedAt.put fo6).keep (Ext.upd htp)
        have st : TupSt H1 (upd (upd (upd H2 p o5) p o6) tp (.tup [.str ns[r5.toNat], .int r6])) := by
          obtain ⟨u1, hu1, fu1⟩ := hf1
          exact Frm.tups (fr2.trans y2) hu1 fu1.ne_tup
        have el3 := EntL.st el st
        have fresh : EntAt (upd (upd (upd H2 p o5) p o6) tp (.tup [.str ns[r5.toNat], .int r6])) (ns[r5.toNat], r6) (.ref tp) := ⟨tp, rfl, upd_same⟩
        have fin : ∀ (e : Str × Int) (v : V) (H4 : Hp), e.1 ∈ ns ∧ 0 ≤ e.2 ∧ e.2 < limit → EntAt H4 e v → EntL H4 es xs → FeedAt H4 p → Frm [p] H1 H4 → H4 l = some (.lst xs) → xs.length < sizeLine ∧
            EntI H p a ns most limit l (i + 1) [some (.ref p), some (.ref a), some (.int most), some (.int limit), some (.ref l), some (.int (0 + i)), some (.bl b), some (.ref tp)] (upd H4 l (.lst (xs ++ [v]))) := by
          intro e v H4 e_ok ea el4 hf4 fr4 hl4
          have up : TupSt H4 (upd H4 l (.lst (xs ++ [v]))) := TupSt.upd hl4 (fun _ z => nomatch z)
          refine ⟨?_, es ++ [e], xs ++ [v], _, _, _, rfl, upd_same, ?_, ?_, ?_, ?_, ?_⟩
          · rw [← el4.len]
            exact Nat.lt_of_le_of_lt hi2 (by decide)
          · obtain ⟨t1, rfl, h1⟩ := ea
            exact (EntL.st el4 up).snoc ⟨t1, rfl, up _ _ h1⟩
          · rw [List.length_append, ht]; rfl
          · intro x hx
            rcases List.mem_append.mp hx with hx | hx
            · exact es_ok x hx
            · rw [List.mem_singleton.mp hx]; exact e_ok
          · obtain ⟨u, hu, fu⟩ := hf4
            exact ⟨u, by rw [upd_ne lp.symm]; exact hu, fu⟩
          · intro c u hc nc
            have c1 : c ≠ l := fun z => by rw [z, hl] at hc; cases hc
            rw [upd_ne c1]
            exact fr4 _ _ (fr _ _ hc nc) nc
        refine ⟨.inl ⟨rfl, _, SqL.of hl3⟩, ?_⟩
        cases b with
        | false =>
          obtain ⟨z1, z2⟩ := fin _ _ _ ⟨List.getElem_mem _, f1, f2⟩ fresh el3 hf3 (fr2.trans y2) hl3
          exact ⟨l, xs, _, rfl, rfl, hl3, z1, z2⟩
        | true =>
          have ne0 := hb rfl
          have hx1 : 1 ≤ es.length := List.length_pos_iff.mpr ne0
          refine ⟨_, _, rfl, .inl ⟨_, SqL.of hl3, rfl⟩, ?_⟩
          rw [← el.len]
          refine ⟨p, _, rfl, hf3, by omega, small (by omega), fun r7 o7 w1 w2 fo7 => ?_⟩
          have hk7 : r7.toNat < es.length := by omega
          have y3 : Frm [p] H1 (upd (upd (upd (upd H2 p o5) p o6) tp (.tup [.str ns[r5.toNat], .int r6])) p o7) := (fr2.trans y2).upd mem1
          have el4 := EntL.st el3 (TupSt.feed (o := o7) hf3)
          have hl4 : (upd (upd (upd (upd H2 p o5) p o6) tp (.tup [.str ns[r5.toNat], .int r6])) p o7) l = some (.lst xs) := by rw [upd_ne lp]; exact hl3
          obtain ⟨v, hv, ev⟩ := el4.get hk7
          refine ⟨_, v, .inl (SqL.of hl4), atI_at w1 hv, ?_⟩
          obtain ⟨z1, z2⟩ := fin _ v _ (es_ok _ (List.getElem_mem hk7)) ev el4 (FeedAt.put fo7) y3 hl4
          exact ⟨l, xs, v, rfl, rfl, hl4, z1, z2⟩
    · rintro σ H1 ⟨es, xs, v5, v6, v7, rfl, g1, el, ht, es_ok, hf1, fr⟩
      exact k H1 l es xs hl g1 el ⟨by omega, fun e he => ⟨(es_ok e he).1, (es_ok e he).2.1⟩⟩ (fun e he => (es_ok e he).2.2) hf1 fr
end
end NB

set_option Elab.async false
set_option linter.all false
set_option maxRecDepth 100000
set_option maxHeartbeats 4000000
/-! K4: classes of logs, logs made -/
namespace NB
open PySem PySem.Spec L2
open PyProof.Rows (envOfC)
open C8 (pe_c pe_mk pe_mt pe_mt0 pe_gc fnScope fnBody fnArgs fnScope_by Cal Met Mak)

/-- where the methods of Log stand -/
structure Ads where
  (fI fZ fV fE fN fQ fH fB : Addr)
  (dI dZ dV dE dN dQ dH dB : FuncData)
structure Ms (K : PySem.W.Frag) (A : Ads) : Prop where
  mI : Mx K "__init__" "Log.__init__" s_Log___init__ ["self", "size", "servers", "entries"] A.fI A.dI
  mZ : Mx K "size" "Log.size" s_Log_size ["self"] A.fZ A.dZ
  mV : Mx K "servers" "Log.servers" s_Log_servers ["self"] A.fV A.dV
  mE : Mx K "entries" "Log.entries" s_Log_entries ["self"] A.fE A.dE
  mN : Mx K "__len__" "Log.__len__" s_Log___len__ ["self"] A.fN A.dN
  mQ : Mx K "__eq__" "Log.__eq__" s_Log___eq__ ["self", "other"] A.fQ A.dQ
  mH : Mx K "__contains__" "Log.__contains__" s_Log___contains__ ["self", "thing"] A.fH A.dH
  mB : Mx K "last_block" "Log.last_block" s_Log_last_block ["self"] A.fB A.dB
  df : A.dI.defaults = .none
structure LogM (K : PySem.W.Frag) (cL cX C : Addr) (kn : Str) (A : Ads) : Prop extends LogC K C kn where
  mkk : Mk K C A.fI
  pZ : ∃ p, PropOf K C "size" p A.fZ
  pV : ∃ p, PropOf K C "servers" p A.fV
  pE : ∃ p, PropOf K C "entries" p A.fE
  mB : Meth K C "last_block" A.fB
  sN : PySem.W.findIn K (.ref C) "__len__" = some (some (.ref A.fN))
  iN : PySem.W.isFn K (.ref A.fN) = true
  sQ : PySem.W.findIn K (.ref C) "__eq__" = some (some (.ref A.fQ))
  iQ : PySem.W.isFn K (.ref A.fQ) = true
  sH : PySem.W.findIn K (.ref C) "__contains__" = some (some (.ref A.fH))
  iH : PySem.W.isFn K (.ref A.fH) = true
  kl : PySem.W.kitOne K (.ref C) (.ref cL) = some true
  kx : PySem.W.kitOne K (.ref C) (.ref cX) = some (decide (kn = ("losing" : Str)))
def gEsz {α : Type} (us ws : List α) : List α := match us, ws with
  | [s], [e, v, z] => [s, z, v, e]
  | _, _ => []
def gEzs {α : Type} (us ws : List α) : List α := match us, ws with
  | [s], [e, z, v] => [s, z, v, e]
  | _, _ => []
section
variable {P : Program} {w : World} {K : PySem.W.Frag} {mg : Str → Option Value} {base : Heap} {cL cX C : Addr} {kd : Str}
theorem kb_esz {f : Addr} {fd : FuncData} (D : Mx K "__init__" "Log.__init__" s_Log___init__ ["self", "size", "servers", "entries"] f fd) (df : fd.defaults = .none) : KBn K fd ["self", "size", "servers", "entries"] 1 ["entries", "servers", "size"] gEsz gEsz := by
  obtain ⟨oc, od, dV, kV, doc, pm, an, cdv, ct, osl, rfl, lk, hcd⟩ := D.fn.ex
  have e : dV = .none := df
  subst e
  refine ⟨fun s us ws X l1 l2 => ?_, fun r1 r2 => ?_⟩
  · match us, ws, l1, l2 with
    | [s], [e, v, z], _, _ => exact .of_eq rfl
  · cases r1 with
    | nil => exact .nil
    | cons a1 r1 =>
      cases r1 with
      | cons _ _ => exact .nil
      | nil =>
        cases r2 with
        | nil => exact .nil
        | cons b1 r2 =>
          cases r2 with
          | nil => exact .nil
          | cons b2 r2 =>
            cases r2 with
            | nil => exact .nil
            | cons b3 r2 =>
              cases r2 with
              | cons _ _ => exact .nil
              | nil => exact .cons a1 (.cons b3 (.cons b2 (.cons b1 .nil)))
theorem kb_ezs {f : Addr} {fd : FuncData} (D : Mx K "__init__" "Log.__init__" s_Log___init__ ["self", "size", "servers", "entries"] f fd) (df : fd.defaults = .none) : KBn K fd ["self", "size", "servers", "entries"] 1 ["entries", "size", "servers"] gEzs gEzs := by
  obtain ⟨oc, od, dV, kV, doc, pm, an, cdv, ct, osl, rfl, lk, hcd⟩ := D.fn.ex
  have e : dV = .none := df
  subst e
  refine ⟨fun s us ws X l1 l2 => ?_, fun r1 r2 => ?_⟩
  · match us, ws, l1, l2 with
    | [s], [e, v, z], _, _ => exact .of_eq rfl
  · cases r1 with
    | nil => exact .nil
    | cons a1 r1 =>
      cases r1 with
      | cons _ _ => exact .nil
      | nil =>
        cases r2 with
        | nil => exact .nil
        | cons b1 r2 =>
          cases r2 with
          | nil => exact .nil
          | cons b2 r2 =>
            cases r2 with
            | nil => exact .nil
            | cons b3 r2 =>
              cases r2 with
              | cons _ _ => exact .nil
              | nil => exact .cons a1 (.cons b2 (.cons b3 (.cons b1 .nil)))

/-- a new log, for what is done with it -/
def NewLog (C : Addr) (H : Hp) (sz : Int) (ns : List Str) (xs : List V) (Q : VK) : Prop := ∀ H' q dx ls le, H q = none → H dx = none → H ls = none → H le = none → dx ≠ q →
  H' q = some (.ins C dx (lf sz ls le)) → H' ls = some (.lst (ns.map V.str)) → H' le = some (.lst xs) → Ext H H' → Q (.ref q) H'
theorem init_new {H : Hp} {x dx : Addr} {sz : Int} {a l : Addr} {ns : List Str} {es : List (Str × Int)} {xs : List V} {Q : VK} {E : XK} (nx : H x = none) (nd : H dx = none) (ne : dx ≠ x) (so : SizeOk sz) (ha : H a = some (.lst (ns.map V.str))) (cr : CrewOk ns)
    (hl : H l = some (.lst xs)) (el : EntL H es xs) (ok : EntsOk ns es) (k : NewLog C H sz ns xs Q) :
    spInit C [.ref x, .int sz, .ref a, .ref l] (upd (upd H dx (.own x)) x (.ins C dx [])) (fun v H2 => v = .non ∧ Q (.ref x) H2) E := by
  have x0 : Ext H (upd (upd H dx (.own x)) x (.ins C dx [])) := fun b o e => by
    rw [upd_ne (ne_of_none e nx), upd_ne (ne_of_none e nd)]; exact e
  refine ⟨x, dx, sz, a, ns, l, es, xs, rfl, upd_same, by rw [upd_ne ne]; exact upd_same, so, x0 _ _ ha, cr, x0 _ _ hl, el.mono x0, ok, fun H' ls le h1 h2 g1 g2 g3 fr => ⟨rfl, ?_⟩⟩
  refine k H' x dx ls le nx nd (Ext.free x0 h1) (Ext.free x0 h2) ne g1 g2 g3 fun b o e => fr _ _ (x0 _ _ e) ?_
  intro z
  exact ne_of_none e nx (List.mem_singleton.mp z)
def kdC (cL cX : Addr) (kd : Str) : Addr := if kd = "losing" then cX else cL
def spMade (cL cX : Addr) : Sp := fun vs H Q _ => ∃ kd sz a ns l es xs, vs = [.str kd, .int sz, .ref a, .ref l] ∧ SizeOk sz ∧ H a = some (.lst (ns.map V.str)) ∧ CrewOk ns ∧ H l = some (.lst xs) ∧ EntL H es xs ∧ EntsOk ns es ∧ NewLog (kdC cL cX kd) H sz ns xs Q
theorem ok_made (T : Blt mg) (D : Dx K mg "_law_made" s__law_made ["kind", "unit", "crew", "shown"]) (c_Log : Mak P w K mg base 4 "Log" cL (spInit cL) []) (c_LosingLog : Mak P w K mg base 4 "LosingLog" cX (spInit cX) []) :
    Cal P w K mg base 6 "_law_made" (spMade cL cX) [] := by
  refine cal_of D sc__law_made (fun vs H Q E h => ?_) (fun f cdv A o s H vs Q E hr h => ?_)
  · obtain ⟨kd, sz, a, ns, l, es, xs, rfl, _⟩ := h; rfl
  · obtain ⟨kd, sz, a, ns, l, es, xs, rfl, so, ha, cr, hl, el, ok, k⟩ := h
    refine ⟨_, (pss_one (ps_ret (pe_ifExp (qt m_eq (mv 0) pe_str (nomark _)) (pe_mk c_LosingLog hr (by decide) rfl (pa_cons (mv 1) (pa_cons (mv 2) (pa_cons (mv 3) pa_nil)))) (pe_mk c_Log hr (by decide) rfl (pa_cons (mv 1) (pa_cons (mv 2) (pa_cons (mv 3) pa_nil))))))), ?_⟩
    show if decide (kd = ("losing" : Str)) = true then _ else _
    refine ifD (fun e => ?_) (fun e => ?_)
    · intro x dx nx nd ne
      have e2 : kdC cL cX kd = cX := if_pos e
      rw [e2] at k
      exact init_new nx nd ne so ha cr hl el ok k
    · intro x dx nx nd ne
      have e2 : kdC cL cX kd = cL := if_neg e
      rw [e2] at k
      exact init_new nx nd ne so ha cr hl el ok k
end
end NB

set_option Elab.async false
set_option linter.all false
set_option maxRecDepth 100000
set_option maxHeartbeats 4000000
/-! K5h: what the judging of a log keeps -/
namespace NB
open PySem PySem.Spec L2

theorem ps0 {X : Cx} : Passes C8.CX0 X C8.E0 := C8.pass0
theorem init_new' {C : Addr} {H : Hp} {x dx : Addr} {sz : Int} {a l : Addr} {ns : List Str} {es : List (Str × Int)} {xs : List V} {G : Hp → Prop} {E : XK} (nx : H x = none) (nd : H dx = none) (ne : dx ≠ x) (so : SizeOk sz) (ha : H a = some (.lst (ns.map V.str))) (cr : CrewOk ns)
    (hl : H l = some (.lst xs)) (el : EntL H es xs) (ok : EntsOk ns es) (k : ∀ H' ls le, H ls = none → H le = none → H' x = some (.ins C dx (lf sz ls le)) → H' ls = some (.lst (ns.map V.str)) → H' le = some (.lst xs) → Ext H H' → G H') :
    spInit C [.ref x, .int sz, .ref a, .ref l] (upd (upd H dx (.own x)) x (.ins C dx [])) (fun v H2 => v = .non ∧ G H2) E := by
  have x0 : Ext H (upd (upd H dx (.own x)) x (.ins C dx [])) := fun b o e => by
    rw [upd_ne (ne_of_none e nx), upd_ne (ne_of_none e nd)]; exact e
  refine ⟨x, dx, sz, a, ns, l, es, xs, rfl, upd_same, by rw [upd_ne ne]; exact upd_same, so, x0 _ _ ha, cr, x0 _ _ hl, el.mono x0, ok, fun H' ls le h1 h2 g1 g2 g3 fr => ⟨rfl, ?_⟩⟩
  refine k H' ls le (Ext.free x0 h1) (Ext.free x0 h2) g1 g2 g3 fun b o e => fr _ _ (x0 _ _ e) ?_
  intro z
  exact ne_of_none e nx (List.mem_singleton.mp z)
theorem EntL.ne_feed {H : Hp} {es : List (Str × Int)} {xs : List V} {o : HO} (el : EntL H es xs) (fo : FeedO o) : o ≠ .lst xs := by
  obtain ⟨x, y, z, rfl, _⟩ := fo
  intro e
  injection e with e
  subst e
  cases el with
  | cons r q => obtain ⟨p, e, _⟩ := r; cases e
theorem FeedO.ne_ins {o : HO} (fo : FeedO o) {C dx : Addr} {fs : List (Str × V)} : o ≠ .ins C dx fs := by
  obtain ⟨x, y, z, rfl, _⟩ := fo
  intro e; cases e
section
variable {C p a l b b2 q : Addr} {sz : Int} {ns : List Str} {es : List (Str × Int)} {xs : List V} {H H' : Hp} {K : PySem.W.Frag}
theorem nin_feed {o u : HO} (hp : H p = some o) {c : Addr} (hc : H c = some u) (n : o ≠ u) : c ∉ [p] := fun z => by
  rw [List.mem_singleton.mp z, hp] at hc
  exact n (Option.some.inj hc)
theorem LogAt.frm (h : LogAt C H q sz ns es) (hf : FeedAt H p) (f : Frm [p] H H') : LogAt C H' q sz ns es := by
  obtain ⟨dx, ls, le, vs, h1, h2, h3, h4⟩ := h
  obtain ⟨o, hp, fo⟩ := hf
  exact ⟨dx, ls, le, vs, f _ _ h1 (nin_feed hp h1 fo.ne_ins), f _ _ h2 (nin_feed hp h2 fo.ne_strs), f _ _ h3 (nin_feed hp h3 (h4.ne_feed fo)), h4.st (Frm.tups f hp fo.ne_tup)⟩
/-- what stands while a log is judged -/
structure RS (C p a l b b2 : Addr) (sz : Int) (ns : List Str) (es : List (Str × Int)) (xs : List V) (H : Hp) : Prop where
  feed : FeedAt H p
  crew : H a = some (.lst (ns.map V.str))
  shown : H l = some (.lst xs)
  ents : EntL H es xs
  book : LogAt C H b sz ns es
  again : LogAt C H b2 sz ns es
theorem RS.frm (r : RS C p a l b b2 sz ns es xs H) (f : Frm [p] H H') (hf : FeedAt H' p) : RS C p a l b b2 sz ns es xs H' := by
  obtain ⟨o, hp, fo⟩ := r.feed
  exact ⟨hf, f _ _ r.crew (nin_feed hp r.crew fo.ne_strs), f _ _ r.shown (nin_feed hp r.shown (r.ents.ne_feed fo)), r.ents.st (Frm.tups f hp fo.ne_tup), r.book.frm ⟨o, hp, fo⟩ f, r.again.frm ⟨o, hp, fo⟩ f⟩
theorem RS.ext (r : RS C p a l b b2 sz ns es xs H) (x : Ext H H') : RS C p a l b b2 sz ns es xs H' := r.frm (Frm.ext x) (r.feed.keep x)
/-- a log made after H0 -/
def FreshLog (C : Addr) (H0 H : Hp) (q : Addr) (sz : Int) (ns : List Str) (xs : List V) : Prop := ∃ dx ls le, H0 q = none ∧ H0 ls = none ∧ H0 le = none ∧ H q = some (.ins C dx (lf sz ls le)) ∧ H ls = some (.lst (ns.map V.str)) ∧ H le = some (.lst xs)
theorem FreshLog.at {H0 : Hp} (h : FreshLog C H0 H q sz ns xs) (k : ∀ c u, H c = some u → H0 c = none → H' c = some u) (el : EntL H' es xs) : LogAt C H' q sz ns es := by
  obtain ⟨dx, ls, le, n1, n2, n3, h1, h2, h3⟩ := h
  exact ⟨dx, ls, le, xs, k _ _ h1 n1, k _ _ h2 n2, k _ _ h3 n3, el⟩

/-! kinds of things under Ext and under a list's change -/
theorem TyOf.ext {x : V} {t : Value} (h : TyOf K H x t) (e : Ext H H') : TyOf K H' x t := by
  cases h with
  | non => exact .non
  | bl x => exact .bl x
  | int i => exact .int i
  | str x => exact .str x
  | flt x => exact .flt x
  | lst h => exact .lst (e _ _ h)
  | frz h => exact .frz (e _ _ h)
  | tup h => exact .tup (e _ _ h)
  | dK h => exact .dK (e _ _ h)
  | dT h => exact .dT (e _ _ h)
  | ins h c1 c2 c3 c4 c5 => exact .ins (e _ _ h) c1 c2 c3 c4 c5
theorem TyX.ext {x : V} {t : Value} (h : TyX K H x t) (e : Ext H H') : TyX K H' x t := by
  cases h with
  | base h => exact .base (TyOf.ext h e)
  | byt b => exact .byt b
  | set h => exact .set (e _ _ h)
  | kList h c => exact .kList h c
  | kTuple h c => exact .kTuple h c
  | kDict h c => exact .kDict h c
  | fTuple h => exact .fTuple (e _ _ h)
  | fDict h => exact .fDict (e _ _ h)
variable {o : Addr} {ys zs : List V}
theorem upd_lst {c : Addr} {u : HO} (ho : H o = some (.lst ys)) (h : H c = some u) (n : ∀ z, u ≠ .lst z) : upd H o (.lst zs) c = some u := by
  rw [upd_ne (ne_of h ho (n ys))]; exact h
theorem TyOf.updL {x : V} {t : Value} (ho : H o = some (.lst ys)) (h : TyOf K H x t) : TyOf K (upd H o (.lst zs)) x t := by
  cases h with
  | non => exact .non
  | bl x => exact .bl x
  | int i => exact .int i
  | str x => exact .str x
  | flt x => exact .flt x
  | @lst c vs h =>
    by_cases e : c = o
    · subst e; exact .lst upd_same
    · exact .lst (by rw [upd_ne e]; exact h)
  | frz h => exact .frz (upd_lst ho h (fun _ z => nomatch z))
  | tup h => exact .tup (upd_lst ho h (fun _ z => nomatch z))
  | dK h => exact .dK (upd_lst ho h (fun _ z => nomatch z))
  | dT h => exact .dT (upd_lst ho h (fun _ z => nomatch z))
  | ins h c1 c2 c3 c4 c5 => exact .ins (upd_lst ho h (fun _ z => nomatch z)) c1 c2 c3 c4 c5
theorem TyX.updL {x : V} {t : Value} (ho : H o = some (.lst ys)) (h : TyX K H x t) : TyX K (upd H o (.lst zs)) x t := by
  cases h with
  | base h => exact .base (TyOf.updL ho h)
  | byt b => exact .byt b
  | set h => exact .set (upd_lst ho h (fun _ z => nomatch z))
  | kList h c => exact .kList h c
  | kTuple h c => exact .kTuple h c
  | kDict h c => exact .kDict h c
  | fTuple h => exact .fTuple (upd_lst ho h (fun _ z => nomatch z))
  | fDict h => exact .fDict (upd_lst ho h (fun _ z => nomatch z))
variable {x : V} {r : Option (Str × Int)}
theorem SrvJ.ext {c : Bool} (h : SrvJ K H ns x c) (e : Ext H H') : SrvJ K H' ns x c := by
  cases h with
  | str z => exact .str z
  | kind t k => exact .kind (TyX.ext t e) k
theorem IntJ.ext {c : Bool} (h : IntJ K H x c) (e : Ext H H') : IntJ K H' x c := by
  cases h with
  | int i => exact .int i
  | bl c => exact .bl c
  | kind t k => exact .kind (TyX.ext t e) k
theorem Jd.ext (h : Jd K H ns x r) (e : Ext H H') : Jd K H' ns x r := by
  cases h with
  | kind t k => exact .kind (TyX.ext t e) k
  | size h n => exact .size (e _ _ h) n
  | srv h s => exact .srv (e _ _ h) (s.ext e)
  | num h s i => exact .num (e _ _ h) (s.ext e) (i.ext e)
  | neg h s i => exact .neg (e _ _ h) (s.ext e) i
  | ok h s i => exact .ok (e _ _ h) s i
theorem SrvJ.updL {c : Bool} (ho : H o = some (.lst ys)) (h : SrvJ K H ns x c) : SrvJ K (upd H o (.lst zs)) ns x c := by
  cases h with
  | str z => exact .str z
  | kind t k => exact .kind (TyX.updL ho t) k
theorem IntJ.updL {c : Bool} (ho : H o = some (.lst ys)) (h : IntJ K H x c) : IntJ K (upd H o (.lst zs)) x c := by
  cases h with
  | int i => exact .int i
  | bl c => exact .bl c
  | kind t k => exact .kind (TyX.updL ho t) k
theorem Jd.updL (ho : H o = some (.lst ys)) (h : Jd K H ns x r) : Jd K (upd H o (.lst zs)) ns x r := by
  cases h with
  | kind t k => exact .kind (TyX.updL ho t) k
  | size h n => exact .size (upd_lst ho h (fun _ z => nomatch z)) n
  | srv h s => exact .srv (upd_lst ho h (fun _ z => nomatch z)) (s.updL ho)
  | num h s i => exact .num (upd_lst ho h (fun _ z => nomatch z)) (s.updL ho) (i.updL ho)
  | neg h s i => exact .neg (upd_lst ho h (fun _ z => nomatch z)) (s.updL ho) i
  | ok h s i => exact .ok (upd_lst ho h (fun _ z => nomatch z)) s i
/-- none of them is an entry -/
def OddL (K : PySem.W.Frag) (H : Hp) (ns : List Str) (vs : List V) : Prop := ∀ v ∈ vs, Jd K H ns v none
theorem OddL.nil : OddL K H ns [] := fun _ h => nomatch h
theorem OddL.ext {vs : List V} (h : OddL K H ns vs) (e : Ext H H') : OddL K H' ns vs := fun v hv => (h v hv).ext e
theorem OddL.snoc {vs : List V} {v : V} (h : OddL K H ns vs) (j : Jd K H ns v none) : OddL K H ns (vs ++ [v]) := fun u hu => by
  rcases List.mem_append.mp hu with hu | hu
  · exact h u hu
  · rw [List.mem_singleton.mp hu]; exact j
theorem OddL.step {vs : List V} {v : V} (h : OddL K H ns vs) (e : Ext H H') (j : Jd K H' ns v none) : OddL K H' ns (vs ++ [v]) := (h.ext e).snoc j
end
section
variable {K : PySem.W.Frag}
theorem kt_non_tup : PySem.W.kitOne K (.type "NoneType") (.type "tuple") = some false := kit_ty (by decide +kernel)
theorem kt_int_tup : PySem.W.kitOne K (.type "int") (.type "tuple") = some false := kit_ty (by decide +kernel)
theorem kt_bool_tup : PySem.W.kitOne K (.type "bool") (.type "tuple") = some false := kit_ty (by decide +kernel)
theorem kt_str_tup : PySem.W.kitOne K (.type "str") (.type "tuple") = some false := kit_ty (by decide +kernel)
theorem kt_list_tup : PySem.W.kitOne K (.type "list") (.type "tuple") = some false := kit_ty (by decide +kernel)
theorem kt_dict_tup : PySem.W.kitOne K (.type "dict") (.type "tuple") = some false := kit_ty (by decide +kernel)
theorem kt_int_str : PySem.W.kitOne K (.type "int") (.type "str") = some false := kit_ty (by decide +kernel)
theorem kt_list_str : PySem.W.kitOne K (.type "list") (.type "str") = some false := kit_ty (by decide +kernel)
theorem kt_str_int : PySem.W.kitOne K (.type "str") (.type "int") = some false := kit_ty (by decide +kernel)
theorem kt_non_int : PySem.W.kitOne K (.type "NoneType") (.type "int") = some false := kit_ty (by decide +kernel)
theorem kt_list_int : PySem.W.kitOne K (.type "list") (.type "int") = some false := kit_ty (by decide +kernel)
/-- (z, y), y no number -/
theorem jd_num {H : Hp} {ns : List Str} {q : Addr} {z : Str} {y : V} (h : H q = some (.tup [.str z, y])) (j : IntJ K H y false) : Jd K H ns (.ref q) none := by
  by_cases e : z ∈ ns
  · exact .num h (by have := SrvJ.str (K := K) (H := H) (ns := ns) z; rw [decide_eq_true e] at this; exact this) j
  · exact .srv h (by have := SrvJ.str (K := K) (H := H) (ns := ns) z; rw [decide_eq_false e] at this; exact this)
theorem jd_neg {H : Hp} {ns : List Str} {q : Addr} {z : Str} {i : Int} (h : H q = some (.tup [.str z, .int i])) (j : i < 0) : Jd K H ns (.ref q) none := by
  by_cases e : z ∈ ns
  · exact .neg h (by have := SrvJ.str (K := K) (H := H) (ns := ns) z; rw [decide_eq_true e] at this; exact this) j
  · exact .srv h (by have := SrvJ.str (K := K) (H := H) (ns := ns) z; rw [decide_eq_false e] at this; exact this)
theorem jd_who {H : Hp} {ns : List Str} {q : Addr} {z : Str} {y : V} (h : H q = some (.tup [.str z, y])) (e : z ∉ ns) : Jd K H ns (.ref q) none :=
  .srv h (by have := SrvJ.str (K := K) (H := H) (ns := ns) z; rw [decide_eq_false e] at this; exact this)
end
/-! the repr of a log's parts -/
theorem Sm.str' {z : Str} {m : Nat} (h : PyData.canLay0 (.str z) = true) (hl : z.length ≤ m) : Sm m 0 (.str z) := ⟨h, rfl, rfl, Nat.le_refl _, rfl, hl⟩
theorem Sm.tup2 {x y : PyData} {n a b : Nat} (h1 : Sm a n x) (h2 : Sm b n y) : Sm (a + b + 2) (n + 1) (.tuple [x, y]) := by
  refine ⟨?_, ?_, ?_, ?_, ?_, ?_⟩
  · simp only [PyData.canLay0, PyData.canLayAll0, h1.lay, h2.lay, Bool.and_self]
  · simp only [PyData.showable, PyData.showableAll, h1.sho, h2.sho, Bool.and_self]
  · simp only [PyData.hasDict, PyData.hasDictAll, h1.nod, h2.nod, Bool.or_self]
  · show max x.depth (max y.depth 0) + 1 ≤ n + 1
    have := h1.dep
    have := h2.dep
    omega
  · simp only [PyData.intsShort, PyData.intsShortAll, h1.ish, h2.ish, Bool.and_self]
  · show PyData.weightAll [x, y] ≤ _
    simp only [PyData.weightAll]
    have := h1.wt
    have := h2.wt
    omega
theorem Sm.name {z : Str} (h : nameB z = true) : Sm 8 0 (.str z) := by
  refine .str' (strOk_name h) ?_
  unfold nameB at h
  simp only [Bool.and_eq_true, decide_eq_true_eq] at h
  exact h.1.2
theorem Sm.ent {e : Str × Int} (h : nameB e.1 = true) (h0 : 0 ≤ e.2) (h1 : e.2 < 10 ^ 60) : Sm 210 1 (encE e) := .tup2 (.name h) (.int (by omega))
theorem Sm.ents {es : List (Str × Int)} (h : ∀ e ∈ es, nameB e.1 = true ∧ 0 ≤ e.2 ∧ e.2 < 10 ^ 60) (hl : es.length ≤ 200) : Sm 42200 2 (encL es) := by
  refine (Sm.list (W := 210) (n := 1) (m := 200) (fun d hd => ?_) (by rw [List.length_map]; exact hl)).mono (by decide) (by decide)
  obtain ⟨e, he, rfl⟩ := List.mem_map.mp hd
  exact .ent (h e he).1 (h e he).2.1 (h e he).2.2
theorem Sm.names {ns : List Str} (h : ∀ z ∈ ns, nameB z = true) (hl : ns.length ≤ 12) : Sm 108 1 (encS ns) := by
  refine (Sm.list (W := 8) (n := 0) (m := 12) (fun d hd => ?_) (by rw [List.length_map]; exact hl)).mono (by decide) (by decide)
  obtain ⟨e, he, rfl⟩ := List.mem_map.mp hd
  exact .name (h e he)
def encLog (sz : Int) (ns : List Str) (es : List (Str × Int)) (kd : Str) : PyData := .list [.int sz, encS ns, encL es, .str kd]
theorem Sm.log {sz : Int} {ns : List Str} {es : List (Str × Int)} {kd : Str} (so : SizeOk sz) (cr : CrewOk ns) (ok : EntsOk ns es) (big : ∀ e ∈ es, e.2 < 10 ^ 60) (hk : nameB kd = true) : Sm 168804 3 (encLog sz ns es kd) := by
  refine (Sm.list (ds := [.int sz, encS ns, encL es, .str kd]) (W := 42200) (n := 2) (m := 4) (fun d hd => ?_) (Nat.le_refl 4)).mono (by decide) (by decide)
  simp only [List.mem_cons, List.not_mem_nil, or_false] at hd
  rcases hd with rfl | rfl | rfl | rfl
  · exact (Sm.int (by have := so.1; have := so.2; omega)).mono (by decide) (by decide)
  · exact (Sm.names cr.nam cr.few).mono (by decide) (by decide)
  · exact (Sm.ents (fun e he => ⟨cr.nam _ (ok.ok e he).1, (ok.ok e he).2, big e he⟩) ok.few)
  · exact (Sm.name hk).mono (by decide) (by decide)
/-! the last block -/
theorem top_is {es : List (Str × Int)} {sz m : Int} (so : SizeOk sz) (h0 : ∀ e ∈ es, 0 ≤ e.2) (h1 : m ∈ (-1 : Int) :: es.map (fun e => e.2 / sz)) (h2 : ∀ y, y ∈ (-1 : Int) :: es.map (fun e => e.2 / sz) → y ≤ m) : lastB sz es = m := by
  have sp : 0 < sz := by have := so.1; omega
  cases es with
  | nil =>
    rw [List.map_nil, List.mem_singleton] at h1
    exact h1.symm
  | cons e es =>
    obtain ⟨g1, g2, g3⟩ := foldl_max es e.2
    show (es.foldl (fun m x => max m x.2) e.2) / sz = m
    generalize hM : es.foldl (fun m x => max m x.2) e.2 = M at *
    have up : ∀ x ∈ e :: es, x.2 ≤ M := fun x hx => by
      rcases List.mem_cons.mp hx with rfl | hx
      · exact g2
      · exact g3 x hx
    have isM : ∃ x ∈ e :: es, x.2 = M := by
      rcases g1 with g1 | ⟨x, hx, q⟩
      · exact ⟨e, List.mem_cons_self, g1⟩
      · exact ⟨x, List.mem_cons_of_mem _ hx, q⟩
    obtain ⟨x, hx, rfl⟩ := isM
    have a1 : x.2 / sz ≤ m := h2 _ (List.mem_cons_of_mem _ (List.mem_map_of_mem (f := fun e : Str × Int => e.2 / sz) hx))
    have a2 : 0 ≤ x.2 / sz := Int.ediv_nonneg (h0 x hx) (by omega)
    rcases List.mem_cons.mp h1 with rfl | h1
    · omega
    · obtain ⟨y, hy, rfl⟩ := List.mem_map.mp h1
      exact Int.le_antisymm a1 (Int.ediv_le_ediv sp (up y hy))
theorem cutV_mem {xs : List V} {lo hi : Option Int} {v : V} (h : v ∈ cutV xs lo hi) : v ∈ xs := List.mem_of_mem_drop (List.mem_of_mem_take h)
theorem EntL.mem {H : Hp} {es : List (Str × Int)} {xs : List V} {v : V} (h : EntL H es xs) (hv : v ∈ xs) : ∃ e ∈ es, EntAt H e v := by
  obtain ⟨i, hi⟩ := List.mem_iff_getElem?.mp hv
  obtain ⟨e, he, q⟩ := h.at hi
  exact ⟨e, List.mem_of_getElem? he, q⟩
end NB

set_option Elab.async false
set_option linter.all false
set_option maxRecDepth 100000
set_option maxHeartbeats 8000000
/-! K5: the judging of a log -/
namespace NB
open PySem PySem.Spec L2
open PyProof.Rows (envOfC)
open C8 (pe_c pe_mk pe_mt pe_mt0 pe_gc fnScope fnBody fnArgs fnScope_by Cal Met Mak)

section
variable {P : Program} {w : World} {K : PySem.W.Frag} {mg : Str → Option Value} {base : Heap} {cL cX C : Addr} {kd : Str} {A0 : Ads}
abbrev NR : List Str := ["feed", "kind", "unit", "crew", "shown", "given", "book", "again", "top", "name", "number", "told", "entry", "odd"]
/-- the state of the judging: slots 0 to 7 -/
abbrev s7 (p a l gg b b2 : Addr) (kd : Str) (sz : Int) (rest : List (Option V)) : L2.St := some (.ref p) :: some (.str kd) :: some (.int sz) :: some (.ref a) :: some (.ref l) :: some (.ref gg) :: some (.ref b) :: some (.ref b2) :: rest
theorem right_body (T : Tx K mg cL cX) (M : LogM K cL cX C kd A0) (Ms : Ms K A0) (hC : (C = cL ∧ kd = "steady") ∨ (C = cX ∧ kd = "losing"))
    (mkL : Mk K cL A0.fI) (mkX : Mk K cX A0.fI) (F_initL : FnOk P w K mg base C8.CX0 4 A0.fI A0.dI ["self", "size", "servers", "entries"] (spInit cL)) (F_initX : FnOk P w K mg base C8.CX0 4 A0.fI A0.dI ["self", "size", "servers", "entries"] (spInit cX))
    (mgL : mg "Log" = some (.ref cL)) (mgX : mg "LosingLog" = some (.ref cX))
    (F_size : FnOk P w K mg base C8.CX0 1 A0.fZ A0.dZ ["self"] (spSize C)) (F_servers : FnOk P w K mg base C8.CX0 1 A0.fV A0.dV ["self"] (spServers C)) (F_entries : FnOk P w K mg base C8.CX0 1 A0.fE A0.dE ["self"] (spEntr C))
    (F_len : FnOk P w K mg base C8.CX0 1 A0.fN A0.dN ["self"] (spLen C)) (F_in : FnOk P w K mg base C8.CX0 3 A0.fH A0.dH ["self", "thing"] (spIn K C)) (F_eq : FnOk P w K mg base C8.CX0 1 A0.fQ A0.dQ ["self", "other"] (spEqL C C kd kd)) (F_last : FnOk P w K mg base C8.CX0 1 A0.fB A0.dB ["self"] (spLast C))
    (c__law_made : Cal P w K mg base 6 "_law_made" (spMade cL cX) []) (c__law_pick : Cal P w K mg base 1 "_law_pick" spPick [])
    (f : Addr) (cdv : Value) (A : Around) (o : List Env) (s : Shared) (H : Hp) (Q : VK) (E : XK) (hr : Room 6 (A.deeper (envOfC "_law_right" (fnScope s__law_right) s.heap.objs.size f cdv))) (hgd : A.guards = some [])
    {p a l : Addr} {sz : Int} {ns : List Str} {es : List (Str × Int)} {xs : List V} (hf : FeedAt H p) (so : SizeOk sz) (ha : H a = some (.lst (ns.map V.str))) (cr : CrewOk ns) (hN : ∀ z ∈ ns, z ∈ NAMES) (hl : H l = some (.lst xs)) (el : EntL H es xs) (ok : EntsOk ns es) (big : ∀ e ∈ es, e.2 < 10 ^ 60)
    (k : ∀ H', FeedAt H' p → Frm [p] H H' → Q (.bl true) H') :
    ∃ t, PSs (cxOf C8.CX0 P w K mg base NR "_law_right" (fnScope s__law_right) f cdv A o s H E).nox (fnBody s__law_right) t ∧ t { nx := fun _ H' => Q .non H', rt := Q } (start NR [.ref p, .str kd, .int sz, .ref a, .ref l]) H := by
  obtain ⟨pZ', pZ⟩ := M.pZ
  obtain ⟨pV', pV⟩ := M.pV
  obtain ⟨pE', pE⟩ := M.pE
  have hx200 : xs.length ≤ 200 := by rw [← el.len]; exact ok.few
  have kdn : nameB kd = true := by rcases hC with ⟨_, rfl⟩ | ⟨_, rfl⟩ <;> decide +kernel
  refine ⟨_, (pss_cons (ps_set (i := 5) sc__law_right.nd rfl (Or.inl rfl) (pe_lst (pa_cons (pe_callTy call_list_of (by rfl) T.n_list (by decide +kernel) (pa_cons (mv 3) pa_nil)) (pa_cons (pe_callTy call_list_of (by rfl) T.n_list (by decide +kernel) (pa_cons (mv 4) pa_nil)) pa_nil))))
    (pss_cons (ps_set (i := 6) sc__law_right.nd rfl (Or.inr rfl) (pe_c c__law_made hr (by decide) rfl (pa_cons (mv 1) (pa_cons (mv 2) (pa_cons (pe_ix m_ix (mv 5) pe_int (fun _ _ => rfl)) (pa_cons (pe_ix m_ix (mv 5) pe_int (fun _ _ => rfl)) pa_nil))))))
    (C8.pss_cut (ps_if (qt m_eq (mv 1) pe_str (nomark _)) (pss_one (ps_set (i := 7) sc__law_right.nd rfl (Or.inl rfl) (pe_makeK0 mkX F_initX (hr.mono (by decide)) (by rfl) mgX (kb_esz Ms.mI Ms.df) ps0 (pk_cons (mv 4) (pk_cons (mv 3) (pk_cons (mv 2) pk_nil)))))) (pss_one (ps_set (i := 7) sc__law_right.nd rfl (Or.inl rfl) (pe_makeK0 mkL F_initL (hr.mono (by decide)) (by rfl) mgL (kb_ezs Ms.mI Ms.df) ps0 (pk_cons (mv 4) (pk_cons (mv 2) (pk_cons (mv 3) pk_nil)))))))
    (pss_cons (ps_expr (pe_bm0 PySem.F.plainAttrs_list PySem.F.slot_list_clear PySem.F.type_list_clear mt_clear (pe_ix m_ix (mv 5) pe_int (fun _ _ => rfl))))
    (C8.pss_cut (ps_expr (pe_bm PySem.F.plainAttrs_list PySem.F.slot_list_append PySem.F.type_list_append mt_append (pe_ix m_ix (mv 5) pe_int (fun _ _ => rfl)) (pa_cons pe_non pa_nil)))
    (C8.pss_cut (ps_set (i := 8) sc__law_right.nd rfl (Or.inl rfl) (pe_callB (cr_max rfl) (by rfl) T.n_max (by decide +kernel) (pa_cons (pe_op op_cat (pe_lst (pa_cons (pe_un m_neg pe_int) pa_nil)) (pe_lc (own := [("name", 9), ("number", 10)]) (g := gTup K 2 (gCons (gName 9) (gCons (gName 10) gNil))) (tt := tYes) rfl sc__law_right.nd (pi_list (mv 4)) (blkOk_by (own := [("name", 9), ("number", 10)]) (N := ["feed", "kind", "unit", "crew", "shown", "given", "book", "again", "top", "name", "number", "told", "entry", "odd"]) (sc := fnScope s__law_right) (by decide +kernel)) (fun _ _ _ _ _ => (pg_tup rfl (pgs_cons (pg_name (i := 9) sc__law_right.nd rfl (Or.inl rfl)) (pgs_cons (pg_name (i := 10) sc__law_right.nd rfl (Or.inl rfl)) pgs_nil)))) (fun _ _ _ _ _ => pts_nil) (fun _ _ _ _ _ => (pe_op m_div (mv 10) (mv 2))))) pa_nil)))
    (C8.pss_cut (ps_for PassesOwn.never rfl (pi_list (pe_lst (pa_cons (mv 6) (pa_cons (mv 7) (pa_cons (mv 6) pa_nil))))) (pg_name (i := 11) sc__law_right.nd rfl (Or.inl rfl))
    (pss_cons (ps_if (qt m_ne (pe_callB (call_rep hr.units (gd_deeper hgd)) (by rfl) T.n_repr (by decide +kernel) (pa_cons (pe_lst (pa_cons (pe_prop (mv 11) M.cl pZ F_size (hr.mono (by decide)) Ms.mZ.b .nil ps0 rfl) (pa_cons (pe_prop (mv 11) M.cl pV F_servers (hr.mono (by decide)) Ms.mV.b .nil ps0 rfl) (pa_cons (pe_prop (mv 11) M.cl pE F_entries (hr.mono (by decide)) Ms.mE.b .nil ps0 rfl) (pa_cons (pe_con (mv 11) rfl) pa_nil))))) pa_nil)) (pe_callB (call_rep hr.units (gd_deeper hgd)) (by rfl) T.n_repr (by decide +kernel) (pa_cons (pe_lst (pa_cons (mv 2) (pa_cons (mv 3) (pa_cons (mv 4) (pa_cons (mv 1) pa_nil))))) pa_nil)) (nomark _)) (pss_one (ps_ret pe_bl)) pss_nil)
    (pss_cons (ps_expr (pe_bm PySem.F.plainAttrs_list PySem.F.slot_list_append PySem.F.type_list_append mt_append (pe_prop (mv 11) M.cl pV F_servers (hr.mono (by decide)) Ms.mV.b .nil ps0 rfl) (pa_cons pe_str pa_nil)))
    (pss_cons (ps_expr (pe_bm0 PySem.F.plainAttrs_list PySem.F.slot_list_clear PySem.F.type_list_clear mt_clear (pe_prop (mv 11) M.cl pE F_entries (hr.mono (by decide)) Ms.mE.b .nil ps0 rfl)))
    (pss_cons (ps_if (PW.pt (pw_or (qt m_ne (pe_callB (own_len F_len M.sN M.iN Ms.mN.b (hr.mono (by decide)) ps0) (by rfl) T.n_len (by decide +kernel) (pa_cons (mv 11) pa_nil)) (pe_callB call_len (by rfl) T.n_len (by decide +kernel) (pa_cons (mv 4) pa_nil)) (nomark _)) (pw_or1 (qt m_ne (pe_meth0 (mv 11) M.cl M.mB F_last (hr.mono (by decide)) Ms.mB.b .nil ps0) (mv 8) (nomark _))))) (pss_one (ps_ret pe_bl)) pss_nil)
    (pss_one (ps_if (PW.pt (pw_or (pt_not (qv (pe_callB call_isi (by rfl) T.n_isinstance (by decide +kernel) (pa_cons (mv 11) (pa_cons (pe_gc rfl T.g_Log) pa_nil))))) (pw_or1 (qt m_ne (pe_callB call_isi (by rfl) T.n_isinstance (by decide +kernel) (pa_cons (mv 11) (pa_cons (pe_gc rfl T.g_LosingLog) pa_nil))) (pe_cmpR m_eq (mv 1) pe_str (nomark _)) (nomark _))))) (pss_one (ps_ret pe_bl)) pss_nil)))))))
    (C8.pss_cut (ps_for PassesOwn.never rfl (pi_list (pe_op op_cat (pe_slice sl_list (mv 4) po_none (po_some pe_int)) (pe_slice sl_list (mv 4) (po_some (pe_un m_neg pe_int)) po_none))) (pg_tup rfl (pgs_cons (pg_name (i := 9) sc__law_right.nd rfl (Or.inl rfl)) (pgs_cons (pg_name (i := 10) sc__law_right.nd rfl (Or.inl rfl)) pgs_nil)))
    (pss_one (ps_for PassesOwn.never rfl (pi_list (pe_lst (pa_cons (pe_tup (pa_cons (mv 9) (pa_cons (mv 10) pa_nil))) (pa_cons (pe_tup (pa_cons (mv 9) (pa_cons (pe_op m_add (mv 10) pe_int) pa_nil))) (pa_cons (pe_tup (pa_cons (pe_ix m_ix (mv 3) (pe_c c__law_pick hr (by decide) rfl (pa_cons (mv 0) (pa_cons (pe_callB call_len (by rfl) T.n_len (by decide +kernel) (pa_cons (mv 3) pa_nil)) pa_nil))) (fun _ _ => rfl)) (pa_cons (mv 10) pa_nil))) pa_nil))))) (pg_name (i := 12) sc__law_right.nd rfl (Or.inl rfl))
    (pss_one (ps_if (PW.pt (pw_or (qt m_ne (pe_cmpR (own_in F_in M.sH M.iH Ms.mH.b (hr.mono (by decide)) ps0) (mv 12) (mv 6) (by rfl)) (pe_cmpR (op_inD (u65 hr)) (mv 12) (mv 4) (by rfl)) (nomark _)) (pw_or1 (qt (own_in F_in M.sH M.iH Ms.mH.b (hr.mono (by decide)) ps0) (pe_callTy call_list_of (by rfl) T.n_list (by decide +kernel) (pa_cons (mv 12) pa_nil)) (mv 6) (by rfl))))) (pss_one (ps_ret pe_bl)) pss_nil)))))
    (pss_cons (ps_set (i := 13) sc__law_right.nd rfl (Or.inl rfl) (pe_lst (pa_cons pe_non (pa_cons pe_int (pa_cons pe_bl (pa_cons pe_str (pa_cons (pe_tup pa_nil) (pa_cons (pe_lst pa_nil) (pa_cons pe_dnewK (pa_cons (pe_tup (pa_cons pe_str pa_nil)) (pa_cons (pe_tup (pa_cons pe_int (pa_cons pe_str pa_nil))) (pa_cons (pe_tup (pa_cons pe_str (pa_cons pe_int (pa_cons pe_int pa_nil)))) (pa_cons (pe_tup (pa_cons pe_str (pa_cons (pe_un m_neg pe_int) pa_nil))) (pa_cons (pe_tup (pa_cons pe_str (pa_cons pe_str pa_nil))) (pa_cons (pe_tup (pa_cons pe_str (pa_cons pe_int pa_nil))) pa_nil)))))))))))))))
    (pss_cons (ps_set (i := 13) sc__law_right.nd rfl (Or.inl rfl) (pe_op op_cat (mv 13) (pe_lst (pa_cons (mv 6) (pa_cons (pe_op op_cat (mv 4) (pe_lst (pa_cons pe_non pa_nil))) (pa_cons (pe_tup (pa_cons pe_str (pa_cons pe_non pa_nil))) (pa_cons (pe_tup (pa_cons (pe_lst (pa_cons pe_str pa_nil)) (pa_cons pe_int pa_nil))) (pa_cons (pe_tup (pa_cons pe_str (pa_cons (pe_lst (pa_cons pe_int pa_nil)) pa_nil))) (pa_cons (pe_disp (pps_cons pe_str (mv 4) pps_nil) (by rfl) (by rfl) (fun z => by cases z) (by decide)) (pa_cons (pe_tup (pa_cons pe_str (pa_cons pe_bl pa_nil))) pa_nil))))))))))
    (C8.pss_cut (ps_expr (pe_bm PySem.F.plainAttrs_list PySem.F.slot_list_append PySem.F.type_list_append mt_append (mv 13) (pa_cons (pe_tup (pa_cons pe_str (pa_cons pe_bl pa_nil))) pa_nil)))
    (pss_one (ps_ret (pe_and (pe_cmpR (op_eqD hr.units) (pe_lc (own := [("entry", 12)]) (g := gName 12) rfl sc__law_right.nd (pi_list (mv 13)) (blkOk_by (own := [("entry", 12)]) (N := ["feed", "kind", "unit", "crew", "shown", "given", "book", "again", "top", "name", "number", "told", "entry", "odd"]) (sc := fnScope s__law_right) (by decide +kernel)) (fun _ _ _ _ _ => (pg_name (i := 12) sc__law_right.nd rfl (Or.inl rfl))) (fun _ _ _ _ _ => (pts_one (qt (own_in F_in M.sH M.iH Ms.mH.b (hr.mono (by decide)) ps0) (mv 12) (mv 6) (by rfl)))) (fun _ _ _ _ _ => (mv 12))) (pe_lst pa_nil) (nomark _)) (pe_one (pe_cmpR (own_eq hr.units0 F_eq M.sQ M.iQ Ms.mQ.b (hr.mono (by decide)) ps0) (mv 6) (mv 7) (nomark _))))))))))))))))), ?_⟩
  -- given = [list(crew), list(shown)]
  refine ⟨a, _, rfl, .inl (SqL.of ha), fun ga nga => ?_⟩
  have x1 := Ext.upd (o := .lst (ns.map V.str)) nga
  refine ⟨l, _, rfl, .inl (SqL.of (x1 _ _ hl)), fun gl ngl => ?_⟩
  have x2 := x1.trans (Ext.upd (o := .lst xs) ngl)
  refine ⟨(by show 2 ≤ sizeLine; decide), fun gg ngg => ?_⟩
  have ga_gl : ga ≠ gl := ne_of_none upd_same ngl
  have h3a : (upd (upd (upd H ga (.lst (ns.map V.str))) gl (.lst xs)) gg (.lst [.ref ga, .ref gl])) ga = some (.lst (ns.map V.str)) := by
    rw [upd_ne (ne_of_none (o := .lst (ns.map V.str)) (by rw [upd_ne ga_gl]; exact upd_same) ngg), upd_ne ga_gl]; exact upd_same
  have h3l : (upd (upd (upd H ga (.lst (ns.map V.str))) gl (.lst xs)) gg (.lst [.ref ga, .ref gl])) gl = some (.lst xs) := by
    rw [upd_ne (ne_of_none (o := .lst xs) upd_same ngg)]; exact upd_same
  have h3g : (upd (upd (upd H ga (.lst (ns.map V.str))) gl (.lst xs)) gg (.lst [.ref ga, .ref gl])) gg = some (.lst [.ref ga, .ref gl]) := upd_same
  have x3 := x2.trans (Ext.upd (o := .lst [.ref ga, .ref gl]) ngg)
  have gg_ga : gg ≠ ga := fun e => by rw [e, upd_ne ga_gl, upd_same] at ngg; cases ngg
  have gg_gl : gg ≠ gl := fun e => by rw [e, upd_same] at ngg; cases ngg
  have ngl' : H gl = none := (upd_none ngl).2
  generalize upd (upd (upd H ga (.lst (ns.map V.str))) gl (.lst xs)) gg (.lst [.ref ga, .ref gl]) = H3 at h3a h3l h3g x3 ⊢
  -- book = _law_made(kind, unit, given[0], given[1])
  refine ⟨_, .ref ga, .inl (SqL.of h3g), atI_nat (j := 0) rfl, _, .ref gl, .inl (SqL.of h3g), atI_nat (j := 1) rfl, ?_⟩
  refine ⟨kd, sz, ga, ns, gl, es, xs, rfl, so, h3a, cr, h3l, el.mono x3, ok, fun H4 b dxb lsb leb n1 n2 n3 n4 n5 b1 b2' b3 x4 => ?_⟩
  have eC : kdC cL cX kd = C := by
    rcases hC with ⟨rfl, rfl⟩ | ⟨rfl, rfl⟩
    · exact if_neg (by decide +kernel)
    · exact if_pos rfl
  rw [eC] at b1
  have fbook : FreshLog C H3 H4 b sz ns xs := ⟨dxb, lsb, leb, n1, n3, n4, b1, b2', b3⟩
  -- again
  have x14 := x3.trans x4
  refine ⟨fun σ H' => ∃ ga gl gg b b2, σ = s7 p a l gg b b2 kd sz [none, none, none, none, none, none] ∧ H' gg = some (.lst [.ref ga, .ref gl]) ∧ H' ga = some (.lst (ns.map V.str)) ∧ H' gl = some (.lst xs) ∧ gg ≠ ga ∧ gg ≠ gl ∧ ga ≠ gl ∧
    ∀ o1 o2, RS C p a l b b2 sz ns es xs (upd (upd H' ga (.lst o1)) gl (.lst o2)) ∧ Frm [p] H (upd (upd H' ga (.lst o1)) gl (.lst o2)), ?_, ?_⟩
  · have fin : ∀ (b2 : Addr) (H5 : Hp), FreshLog C H4 H5 b2 sz ns xs → Ext H4 H5 → (H5 gg = some (.lst [.ref ga, .ref gl]) ∧ H5 ga = some (.lst (ns.map V.str)) ∧ H5 gl = some (.lst xs) ∧ gg ≠ ga ∧ gg ≠ gl ∧ ga ≠ gl ∧
        ∀ o1 o2, RS C p a l b b2 sz ns es xs (upd (upd H5 ga (.lst o1)) gl (.lst o2)) ∧ Frm [p] H (upd (upd H5 ga (.lst o1)) gl (.lst o2))) := by
      intro b2 H5 fr x5
      have x35 := x4.trans x5
      have x15 := x3.trans x35
      refine ⟨x35 _ _ h3g, x35 _ _ h3a, x35 _ _ h3l, gg_ga, gg_gl, ga_gl, fun o1 o2 => ?_⟩
      have xG : Ext H (upd (upd H5 ga (.lst o1)) gl (.lst o2)) := fun c u h => by
        rw [upd_ne (ne_of_none h ngl'), upd_ne (ne_of_none h nga)]; exact x15 _ _ h
      have kp : ∀ {G : Hp}, G ga = some (.lst (ns.map V.str)) → G gl = some (.lst xs) → ∀ c u, H5 c = some u → G c = none → (upd (upd H5 ga (.lst o1)) gl (.lst o2)) c = some u := by
        intro G g1 g2 c u h n
        rw [upd_ne (fun e => by rw [e, g2] at n; cases n), upd_ne (fun e => by rw [e, g1] at n; cases n)]
        exact h
      refine ⟨⟨hf.keep xG, xG _ _ ha, xG _ _ hl, el.mono xG, ?_, ?_⟩, Frm.ext xG⟩
      · exact fbook.at (fun c u h n => by
          exact kp h3a h3l c u (x5 _ _ h) n) (el.mono xG)
      · exact fr.at (fun c u h n => kp (x4 _ _ h3a) (x4 _ _ h3l) c u h n) (el.mono xG)
    refine (show if decide (kd = ("losing" : Str)) = true then _ else _ from ?_)
    rcases hC with ⟨rfl, rfl⟩ | ⟨rfl, rfl⟩
    · refine ifF (by decide +kernel) ?_
      refine ⟨rfl, rfl, fun q dq nx nd ne => init_new' nx nd ne so (x14 _ _ ha) cr (x14 _ _ hl) (el.mono x14) ok fun H5 lsq leq m3 m4 q1 q2 q3 x5 => ?_⟩
      exact ⟨ga, gl, gg, b, q, rfl, fin q H5 ⟨dq, lsq, leq, nx, m3, m4, q1, q2, q3⟩ x5⟩
    · refine ifT (by decide +kernel) ?_
      refine ⟨rfl, rfl, fun q dq nx nd ne => init_new' nx nd ne so (x14 _ _ ha) cr (x14 _ _ hl) (el.mono x14) ok fun H5 lsq leq m3 m4 q1 q2 q3 x5 => ?_⟩
      exact ⟨ga, gl, gg, b, q, rfl, fin q H5 ⟨dq, lsq, leq, nx, m3, m4, q1, q2, q3⟩ x5⟩
  have hf0 := hf
  clear fbook x1 x2 x3 x4 x14 n1 n2 n3 n4 n5 b1 b2' b3 h3a h3l h3g ngg ngl nga ngl' ga_gl gg_ga gg_gl eC
  rintro σ H5 ⟨ga, gl, gg, b, b2, rfl, h1, h2, h3, g1, g2, g3, rs⟩
  -- given[0].clear(); given[1].append(None)
  refine ⟨_, .ref ga, .inl (SqL.of h1), atI_nat (j := 0) rfl, .inl ⟨rfl, _, SqL.of h2⟩, ga, _, rfl, rfl, h2, ?_⟩
  have y1 : (upd H5 ga (.lst [])) gg = some (.lst [.ref ga, .ref gl]) := by rw [upd_ne g1]; exact h1
  have y2 : (upd H5 ga (.lst [])) gl = some (.lst xs) := by rw [upd_ne g3.symm]; exact h3
  refine ⟨fun σ H' => σ = s7 p a l gg b b2 kd sz [none, none, none, none, none, none] ∧ RS C p a l b b2 sz ns es xs H' ∧ Frm [p] H H', ?_, ?_⟩
  · refine ⟨_, .ref gl, .inl (SqL.of y1), atI_nat (j := 1) rfl, .inl ⟨rfl, _, SqL.of y2⟩, gl, xs, _, rfl, rfl, y2, Nat.lt_of_le_of_lt hx200 (by decide), rfl, ?_⟩
    exact rs _ _
  clear rs y1 y2 h1 h2 h3 g1 g2 g3 ga gl
  rintro σ H6 ⟨rfl, rs, fr⟩
  -- top = max(..)
  refine ⟨fun σ H' => σ = s7 p a l gg b b2 kd sz [some (.int (lastB sz es)), none, none, none, none, none] ∧ RS C p a l b b2 sz ns es xs H' ∧ Frm [p] H H', ?_, ?_⟩
  · refine ⟨(by show 1 ≤ sizeLine; decide), fun t ht => ?_⟩
    have x1 := Ext.upd (o := .lst [.int (-1)]) ht
    have rs1 := rs.ext x1
    refine ⟨l, rfl, ⟨_, SqL.of rs1.shown⟩, fun d hd => lc_list (K := K) (a := l) (xs := xs) (fun i H' => Ext (upd H6 t (.lst [.int (-1)])) H' ∧ H' d = some (.lst (((es.map (fun e => e.2 / sz)).map V.int).take i))) ⟨Ext.upd hd, upd_same⟩ (fun i H1 _ t => SqL.of (t.1 _ _ rs1.shown)) ?_ ?_⟩
    · intro i y H1 hy q
      obtain ⟨e, he, tp, rfl, htp⟩ := rs1.ents.at hy
      refine ⟨tp, _, rfl, SqT.of (q.1 _ _ htp), rfl, _, _, rfl, _, _, rfl, rfl, rfl, goY (ifT (by rfl) ?_)⟩
      refine ⟨cdv_size _ so, _, q.2, ?_, ?_, ?_⟩
      · rw [List.length_take, List.length_map, List.length_map]
        exact Nat.lt_of_le_of_lt (Nat.le_trans (Nat.min_le_right _ _) ok.few) (by decide)
      · intro c u z
        rw [upd_ne (ne_of_none z hd)]
        exact q.1 _ _ z
      · rw [upd_same, List.take_add_one, List.getElem?_map, List.getElem?_map, he]
        rfl
    · intro H1 q
      have q2 := q.2
      have ee : xs.length = ((es.map (fun e => e.2 / sz)).map V.int).length := by rw [List.length_map, List.length_map]; exact el.len.symm
      rw [ee, List.take_length] at q2
      have x2 := x1.trans q.1
      refine ⟨t, d, _, _, rfl, rfl, q.1 _ _ upd_same, q2, ?_, fun r hr' => ?_⟩
      · rw [← ee]
        exact Nat.le_trans (show 1 + xs.length ≤ 201 by omega) (by decide)
      · have x3 := x2.trans (Ext.upd (o := .lst ([V.int (-1)] ++ (es.map (fun e => e.2 / sz)).map V.int)) hr')
        refine ⟨r, (-1 : Int) :: es.map (fun e => e.2 / sz), rfl, SqL.of upd_same, Nat.succ_pos _, fun m hm hle => ?_⟩
        rw [← top_is so (fun e he => (ok.ok e he).2) hm hle]
        exact ⟨rfl, rs.ext x3, fr.trans (Frm.ext x3)⟩
  clear rs fr
  rintro σ H7 ⟨rfl, rs, fr⟩
  -- for told in [book, again, book]
  refine ⟨fun σ H' => ∃ v, σ = s7 p a l gg b b2 kd sz [some (.int (lastB sz es)), none, none, v, none, none] ∧ RS C p a l b b2 sz ns es xs H' ∧ Frm [p] H H', ?_, ?_⟩
  · refine ⟨(by show 3 ≤ sizeLine; decide), fun t ht => ?_⟩
    have x0 := Ext.upd (o := .lst [.ref b, .ref b2, .ref b]) ht
    refine ⟨t, rfl, ⟨_, SqL.of upd_same⟩, for_list (K := K) (a := t) (xs := [.ref b, .ref b2, .ref b]) (fun i σ H' => ∃ v, σ = s7 p a l gg b b2 kd sz [some (.int (lastB sz es)), none, none, v, none, none] ∧ Ext (upd H7 t (.lst [.ref b, .ref b2, .ref b])) H') ⟨none, rfl, fun _ _ z => z⟩ ?_ ?_ ?_⟩
    · rintro i σ H1 _ ⟨v, rfl, x⟩
      exact SqL.of (x _ _ upd_same)
    · rintro i y σ H1 hy ⟨v, rfl, x⟩
      have x1 := x0.trans x
      have rs1 := rs.ext x1
      obtain ⟨q, rfl, lq⟩ : ∃ q, y = .ref q ∧ LogAt C H1 q sz ns es := by
        have hm := List.mem_of_getElem? hy
        simp only [List.mem_cons, List.not_mem_nil, or_false] at hm
        rcases hm with rfl | rfl | rfl
        · exact ⟨b, rfl, rs1.book⟩
        · exact ⟨b2, rfl, rs1.again⟩
        · exact ⟨b, rfl, rs1.book⟩
      have lq' := lq
      obtain ⟨dx, ls, le, vs, hq, hq2, hq3, hq4⟩ := lq'
      refine ⟨q, dx, _, rfl, hq, ⟨q, sz, ns, es, rfl, lq, ?_⟩⟩
      refine ⟨q, dx, _, rfl, hq, ⟨q, sz, ns, es, rfl, lq, fun l1 hl1 => ?_⟩⟩
      have z1 := Ext.upd (o := .lst (ns.map V.str)) hl1
      have c1 : (upd H1 l1 (.lst (ns.map V.str))) l1 = some (.lst (ns.map V.str)) := upd_same
      generalize upd H1 l1 (.lst (ns.map V.str)) = G1 at z1 c1 ⊢
      refine ⟨q, dx, _, rfl, z1 _ _ hq, ⟨q, sz, ns, es, rfl, lq.mono z1, fun l2 ys hl2 el2 => ?_⟩⟩
      have z2 := z1.trans (Ext.upd (o := .lst ys) hl2)
      have c2 : (upd G1 l2 (.lst ys)) l2 = some (.lst ys) := upd_same
      have c1' := Ext.upd (o := .lst ys) hl2 _ _ c1
      have el3 := el2.mono (Ext.upd (o := .lst ys) hl2)
      generalize upd G1 l2 (.lst ys) = G2 at z2 c2 c1' el3 ⊢
      obtain ⟨u, con⟩ := M.kd
      refine ⟨q, C, dx, _, _, _, rfl, z2 _ _ hq, M.cl, con, kd_no _ _ _, (by show 4 ≤ sizeLine; decide), fun t1 ht1 => ?_⟩
      have w3 := Ext.upd (o := .lst [.int sz, .ref l1, .ref l2, .str kd]) ht1
      have z3 := z2.trans w3
      have c3 : (upd G2 t1 (.lst [.int sz, .ref l1, .ref l2, .str kd])) t1 = some (.lst [.int sz, .ref l1, .ref l2, .str kd]) := upd_same
      have d3 : Dp K (upd G2 t1 (.lst [.int sz, .ref l1, .ref l2, .str kd])) (.ref t1) (encLog sz ns es kd) := .lst (SqL.of c3) (.cons (.int _) (.cons (dp_S (SqL.of (w3 _ _ c1'))) (.cons (dp_L (SqL.of (w3 _ _ c2)) (el3.mono w3)) (.cons (.str _) .nil))))
      generalize upd G2 t1 (.lst [.int sz, .ref l1, .ref l2, .str kd]) = G3 at z3 d3 ⊢
      have sm := Sm.log so cr ok big kdn
      refine ⟨_, _, rfl, d3, rfl, sm.sho, sm.nod, Nat.le_trans sm.dep (by decide), sm.fits (by decide), ?_⟩
      refine ⟨(by show 4 ≤ sizeLine; decide), fun t2 ht2 => ?_⟩
      have w4 := Ext.upd (o := .lst [.int sz, .ref a, .ref l, .str kd]) ht2
      have z4 := z3.trans w4
      have rs4 := rs1.ext z4
      have c4 : (upd G3 t2 (.lst [.int sz, .ref a, .ref l, .str kd])) t2 = some (.lst [.int sz, .ref a, .ref l, .str kd]) := upd_same
      have d4 : Dp K (upd G3 t2 (.lst [.int sz, .ref a, .ref l, .str kd])) (.ref t2) (encLog sz ns es kd) := .lst (SqL.of c4) (.cons (.int _) (.cons (dp_S (SqL.of rs4.crew)) (.cons (dp_L (SqL.of rs4.shown) rs4.ents) (.cons (.str _) .nil))))
      generalize upd G3 t2 (.lst [.int sz, .ref a, .ref l, .str kd]) = G4 at z4 d4 rs4 ⊢
      refine ⟨_, _, rfl, d4, rfl, sm.sho, sm.nod, Nat.le_trans sm.dep (by decide), sm.fits (by decide), ?_⟩
      dsimp only [mEqG, kB]
      refine ifF (by simp) ?_
      -- told.servers.append('x')
      refine ⟨q, dx, _, rfl, z4 _ _ hq, ⟨q, sz, ns, es, rfl, lq.mono z4, fun l3 hl3 => ?_⟩⟩
      refine ⟨.inl ⟨rfl, _, SqL.of upd_same⟩, l3, _, _, rfl, rfl, upd_same, ?_, ?_⟩
      · rw [List.length_map]; exact Nat.lt_of_le_of_lt cr.few (by decide)
      have z5 : Ext G4 (upd (upd G4 l3 (.lst (ns.map V.str))) l3 (.lst (ns.map V.str ++ [V.str "x"]))) := fun c u h => by
        rw [upd_ne (ne_of_none h hl3), upd_ne (ne_of_none h hl3)]; exact h
      have z6 := z4.trans z5
      generalize upd (upd G4 l3 (.lst (ns.map V.str))) l3 (.lst (ns.map V.str ++ [V.str "x"])) = G5 at z6 ⊢
      -- told.entries.clear()
      refine ⟨q, dx, _, rfl, z6 _ _ hq, ⟨q, sz, ns, es, rfl, lq.mono z6, fun l4 zs hl4 el4 => ?_⟩⟩
      refine ⟨.inl ⟨rfl, _, SqL.of upd_same⟩, l4, _, rfl, rfl, upd_same, ?_⟩
      have z7 : Ext G5 (upd (upd G5 l4 (.lst zs)) l4 (.lst [])) := fun c u h => by
        rw [upd_ne (ne_of_none h hl4), upd_ne (ne_of_none h hl4)]; exact h
      have z8 := z6.trans z7
      generalize upd (upd G5 l4 (.lst zs)) l4 (.lst []) = G6 at z8 ⊢
      have rs8 := rs1.ext z8
      -- len(told) != len(shown) or told.last_block() != top
      refine ⟨q, dx, _, rfl, z8 _ _ hq, q, sz, ns, es, rfl, lq.mono z8, es.length, rfl, Nat.le_trans ok.few (by decide), ?_⟩
      refine ⟨_, _, rfl, .inl ⟨_, SqL.of rs8.shown, rfl⟩, ?_⟩
      dsimp only [mEqG, kB]
      rw [el.len]
      refine ifF (by simp) ?_
      refine ⟨q, dx, _, rfl, z8 _ _ hq, lf_no _ _ _ (by decide +kernel) (by decide +kernel) (by decide +kernel), ⟨q, sz, ns, es, rfl, lq.mono z8, so, ok, cr.nam, fun G7 x7 => ?_⟩⟩
      dsimp only [mEqG, kB]
      refine ifF (by simp) ?_
      have z9 := z8.trans x7
      -- isinstance
      refine ⟨_, _, _, _, _, rfl, .own _, M.ty _ _ _ _ (z9 _ _ hq), M.kl, ifF (by rfl) ?_⟩
      refine ⟨_, _, _, _, _, rfl, .own _, M.ty _ _ _ _ (z9 _ _ hq), M.kx, ?_⟩
      dsimp only [mEqG, kB]
      refine ifF (by simp) ?_
      exact ⟨_, rfl, x.trans z9⟩
    · rintro σ H1 ⟨v, rfl, x⟩
      exact ⟨v, rfl, rs.ext (x0.trans x), fr.trans (Frm.ext (x0.trans x))⟩
  clear rs fr
  rintro σ H8 ⟨v11, rfl, rs, fr⟩
  -- for name, number in shown[:4] + shown[-4:]
  refine ⟨fun σ H' => ∃ v9 v10 v11 v12, σ = s7 p a l gg b b2 kd sz [some (.int (lastB sz es)), v9, v10, v11, v12, none] ∧ RS C p a l b b2 sz ns es xs H' ∧ Frm [p] H H', ?_, ?_⟩
  · refine ⟨_, rfl, l, xs, rfl, SqL.of rs.shown, fun t1 ht1 => ?_⟩
    have x1 := Ext.upd (o := .lst (cutV xs none (some 4))) ht1
    have c1 : (upd H8 t1 (.lst (cutV xs none (some 4)))) t1 = some (.lst (cutV xs none (some 4))) := upd_same
    generalize upd H8 t1 (.lst (cutV xs none (some 4))) = G1 at x1 c1 ⊢
    refine ⟨_, rfl, l, xs, rfl, SqL.of (x1 _ _ rs.shown), fun t2 ht2 => ?_⟩
    have x2' := Ext.upd (o := .lst (cutV xs (some (-4)) none)) ht2
    have c2 : (upd G1 t2 (.lst (cutV xs (some (-4)) none))) t2 = some (.lst (cutV xs (some (-4)) none)) := upd_same
    refine ⟨t1, t2, _, _, rfl, rfl, x2' _ _ c1, c2, ?_, fun t3 ht3 => ?_⟩
    · have a1 := cutV_length xs none (some 4)
      have a2 := cutV_length xs (some (-4)) none
      exact Nat.le_trans (show _ ≤ 400 by omega) (by decide)
    have x2 := x1.trans x2'
    have hzs : ∀ v ∈ cutV xs none (some 4) ++ cutV xs (some (-4)) none, v ∈ xs := fun v hv => (List.mem_append.mp hv).elim cutV_mem cutV_mem
    generalize cutV xs none (some 4) ++ cutV xs (some (-4)) none = zs at hzs ht3 ⊢
    have x3 := x2.trans (Ext.upd (o := .lst zs) ht3)
    have c3 : (upd (upd G1 t2 (.lst (cutV xs (some (-4)) none))) t3 (.lst zs)) t3 = some (.lst zs) := upd_same
    have pt3 : t3 ≠ p := by
      obtain ⟨u, hu, _⟩ := rs.feed
      exact (ne_of_none (x2 _ _ hu) ht3).symm
    generalize upd (upd G1 t2 (.lst (cutV xs (some (-4)) none))) t3 (.lst zs) = G3 at x3 c3 ⊢
    refine ⟨t3, rfl, ⟨_, SqL.of c3⟩, for_list (K := K) (a := t3) (xs := zs) (fun i σ H' => ∃ v9 v10 v12, σ = s7 p a l gg b b2 kd sz [some (.int (lastB sz es)), v9, v10, v11, v12, none] ∧ H' t3 = some (.lst zs) ∧ RS C p a l b b2 sz ns es xs H' ∧ Frm [p] H H')
      ⟨none, none, none, rfl, c3, rs.ext x3, fr.trans (Frm.ext x3)⟩ ?_ ?_ ?_⟩
    · rintro i σ H1 _ ⟨_, _, _, rfl, h, _⟩
      exact SqL.of h
    · rintro i y σ H1 hy ⟨v9, v10, v12, rfl, h3, r1, f1⟩
      obtain ⟨e, he, tp, rfl, htp⟩ := r1.ents.mem (hzs _ (List.mem_of_getElem? hy))
      obtain ⟨em, en⟩ := ok.ok e he
      refine ⟨tp, _, rfl, SqT.of htp, rfl, _, _, rfl, _, _, rfl, rfl, ?_⟩
      refine ⟨(by show 2 ≤ sizeLine; decide), fun q1 hq1 => ?_⟩
      have e1 : EntAt (upd H1 q1 (.tup [.str e.1, .int e.2])) e (.ref q1) := ⟨q1, rfl, upd_same⟩
      have r2 := r1.ext (Ext.upd (o := .tup [.str e.1, .int e.2]) hq1)
      have f2 := f1.trans (Frm.ext (Ext.upd (o := .tup [.str e.1, .int e.2]) hq1))
      have h4 := Ext.upd (o := .tup [.str e.1, .int e.2]) hq1 _ _ h3
      generalize upd H1 q1 (.tup [.str e.1, .int e.2]) = G2 at e1 r2 f2 h4 ⊢
      refine ⟨(by show 2 ≤ sizeLine; decide), fun q2 hq2 => ?_⟩
      have w3 := Ext.upd (o := .tup [.str e.1, .int (e.2 + 1)]) hq2
      have e2 : EntAt (upd G2 q2 (.tup [.str e.1, .int (e.2 + 1)])) (e.1, e.2 + 1) (.ref q2) := ⟨q2, rfl, upd_same⟩
      have e1' := e1.mono w3
      have r3 := r2.ext w3
      have f3 := f2.trans (Frm.ext w3)
      have h5 := w3 _ _ h4
      generalize upd G2 q2 (.tup [.str e.1, .int (e.2 + 1)]) = G4 at e2 e1' r3 f3 h5 ⊢
      -- crew[_law_pick(feed, len(crew))]
      have hc1 : (1 : Int) ≤ (ns.length : Int) := by have := cr.one; omega
      have hc2 : (ns.length : Int) ≤ 12 := by have := cr.few; omega
      refine ⟨_, _, rfl, .inl ⟨_, SqL.of r3.crew, rfl⟩, ?_⟩
      rw [List.length_map]
      refine ⟨p, _, rfl, r3.feed, hc1, Int.lt_of_le_of_lt hc2 (by decide +kernel), fun rr o5 d1 d2 fo5 => ?_⟩
      have hk5 : rr.toNat < ns.length := by omega
      have st5 := TupSt.feed (o := o5) r3.feed
      have w5 : Frm [p] G4 (upd G4 p o5) := (Frm.refl (M := [p])).upd mem1
      have r5 := r3.frm w5 (FeedAt.put fo5)
      have f5 := f3.trans w5
      have e15 : EntAt (upd G4 p o5) e (.ref q1) := by obtain ⟨_, q, h⟩ := e1'; exact ⟨_, q, st5 _ _ h⟩
      have e25 : EntAt (upd G4 p o5) (e.1, e.2 + 1) (.ref q2) := by obtain ⟨_, q, h⟩ := e2; exact ⟨_, q, st5 _ _ h⟩
      have h6 : (upd G4 p o5) t3 = some (.lst zs) := by rw [upd_ne pt3]; exact h5
      generalize upd G4 p o5 = G5 at r5 f5 e15 e25 h6 ⊢
      refine ⟨_, .str ns[rr.toNat], .inl (SqL.of r5.crew), atI_at d1 (by rw [List.getElem?_map, List.getElem?_eq_getElem hk5]; rfl), ?_⟩
      refine ⟨(by show 2 ≤ sizeLine; decide), fun q3 hq3 => ?_⟩
      have w6 := Ext.upd (o := .tup [.str ns[rr.toNat], .int e.2]) hq3
      have e36 : EntAt (upd G5 q3 (.tup [.str ns[rr.toNat], .int e.2])) (ns[rr.toNat], e.2) (.ref q3) := ⟨q3, rfl, upd_same⟩
      generalize upd G5 q3 (.tup [.str ns[rr.toNat], .int e.2]) = G6 at w6 e36 ⊢
      refine ⟨(by show 3 ≤ sizeLine; decide), fun t4 ht4 => ?_⟩
      have w7' := Ext.upd (o := .lst [.ref q1, .ref q2, .ref q3]) ht4
      have w7 := w6.trans w7'
      have r7 := r5.ext w7
      have f7 := f5.trans (Frm.ext w7)
      have h7 := w7 _ _ h6
      have m7 : ∀ v ∈ [V.ref q1, V.ref q2, V.ref q3], ∃ g, EntAt (upd G6 t4 (.lst [.ref q1, .ref q2, .ref q3])) g v ∧ g.1 ∈ ns ∧ 0 ≤ g.2 := by
        intro v hv
        simp only [List.mem_cons, List.not_mem_nil, or_false] at hv
        rcases hv with rfl | rfl | rfl
        · exact ⟨e, e15.mono w7, em, en⟩
        · exact ⟨_, e25.mono w7, em, by show 0 ≤ e.2 + 1; omega⟩
        · exact ⟨_, e36.mono w7', List.getElem_mem _, en⟩
      have c7 : (upd G6 t4 (.lst [.ref q1, .ref q2, .ref q3])) t4 = some (.lst [.ref q1, .ref q2, .ref q3]) := upd_same
      generalize upd G6 t4 (.lst [.ref q1, .ref q2, .ref q3]) = G7 at r7 f7 h7 m7 c7 ⊢
      refine ⟨t4, rfl, ⟨_, SqL.of c7⟩, for_list (K := K) (a := t4) (xs := [.ref q1, .ref q2, .ref q3]) (fun i σ H' => ∃ v12, σ = s7 p a l gg b b2 kd sz [some (.int (lastB sz es)), some (.str e.1), some (.int e.2), v11, v12, none] ∧ Ext G7 H')
        ⟨_, rfl, fun _ _ z => z⟩ ?_ ?_ ?_⟩
      · rintro i σ H2 _ ⟨_, rfl, x⟩
        exact SqL.of (x _ _ c7)
      · rintro i y σ H2 hy ⟨v12, rfl, x⟩
        obtain ⟨g, ⟨gp, rfl, hgp⟩, g1, g2⟩ := m7 _ (List.mem_of_getElem? hy)
        have r8 := r7.ext x
        have hg2 := x _ _ hgp
        have lb := r8.book
        obtain ⟨dx, ls, le, vs, hb1, hb2, hb3, hb4⟩ := lb
        refine ⟨b, dx, _, rfl, hb1, b, sz, ns, es, _, some g, rfl, r8.book, ok, cr.nam, .ok hg2 g1 g2, ?_⟩
        refine ⟨_, _, dp_E (e := g) ⟨gp, rfl, hg2⟩, dp_L (SqL.of r8.shown) r8.ents, (shaped_E (cr.nam _ g1)).1, shaped_L (fun e he => cr.nam _ (ok.ok e he).1), ?_⟩
        rw [any_L]
        dsimp only [mEqG, kB]
        refine ifF (by simp) ?_
        refine ⟨_, _, rfl, .inr (SqT.of hg2), fun t5 ht5 => ?_⟩
        have w9 := Ext.upd (o := .lst [.str g.1, .int g.2]) ht5
        have j9 : Jd K (upd H2 t5 (.lst [.str g.1, .int g.2])) ns (.ref t5) none := .kind (.base (.lst upd_same)) kt_list_tup
        refine ⟨b, dx, _, rfl, w9 _ _ hb1, b, sz, ns, es, _, none, rfl, r8.book.mono w9, ok, cr.nam, j9, ?_⟩
        dsimp only [kB]
        refine ifF (by rfl) ?_
        exact ⟨_, rfl, x.trans w9⟩
      · rintro σ H2 ⟨v12, rfl, x⟩
        exact ⟨_, _, _, rfl, x _ _ h7, r7.ext x, f7.trans (Frm.ext x)⟩
    · rintro σ H1 ⟨v9, v10, v12, rfl, h, r, f⟩
      exact ⟨v9, v10, v11, v12, rfl, r, f⟩
  clear rs fr
  rintro σ H9 ⟨v9, v10, v11, v12, rfl, rs, fr⟩
  have none_no : ("none" : Str) ∉ ns := fun h => (by decide +kernel : ("none" : Str) ∉ NAMES) (hN _ h)
  have x0 : Ext H9 H9 := fun _ _ z => z
  have od0 : OddL K H9 ns [.non, .int 0, .bl true, .str ""] := (((OddL.nil.snoc (.kind (.base .non) kt_non_tup)).snoc (.kind (.base (.int 0)) kt_int_tup)).snoc (.kind (.base (.bl true)) kt_bool_tup)).snoc (.kind (.base (.str _)) kt_str_tup)
  refine ⟨(by show 0 ≤ sizeLine; decide), fun q1 hq1 => ?_⟩
  have w1 := Ext.upd (o := .tup []) hq1
  have x1 := x0.trans w1
  have od1 := od0.step w1 (.size (p := q1) upd_same (by decide))
  generalize upd H9 q1 (.tup []) = J1 at w1 x1 od1 ⊢
  refine ⟨(by show 0 ≤ sizeLine; decide), fun q2 hq2 => ?_⟩
  have w2 := Ext.upd (o := .lst []) hq2
  have x2 := x1.trans w2
  have od2 := od1.step w2 (.kind (.base (.lst (a := q2) upd_same)) kt_list_tup)
  generalize upd J1 q2 (.lst []) = J2 at w2 x2 od2 ⊢
  refine fun q3 hq3 => ?_
  have w3 := Ext.upd (o := .dK []) hq3
  have x3 := x2.trans w3
  have od3 := od2.step w3 (.kind (.base (.dK (a := q3) upd_same)) kt_dict_tup)
  generalize upd J2 q3 (.dK []) = J3 at w3 x3 od3 ⊢
  refine ⟨(by show 1 ≤ sizeLine; decide), fun q4 hq4 => ?_⟩
  have w4 := Ext.upd (o := .tup [.str "ann"]) hq4
  have x4 := x3.trans w4
  have od4 := od3.step w4 (.size (p := q4) upd_same (by decide))
  generalize upd J3 q4 (.tup [.str "ann"]) = J4 at w4 x4 od4 ⊢
  refine ⟨(by show 2 ≤ sizeLine; decide), fun q5 hq5 => ?_⟩
  have w5 := Ext.upd (o := .tup [.int 0, .str "ann"]) hq5
  have x5 := x4.trans w5
  have od5 := od4.step w5 (.srv (p := q5) upd_same (.kind (.base (.int 0)) kt_int_str))
  generalize upd J4 q5 (.tup [.int 0, .str "ann"]) = J5 at w5 x5 od5 ⊢
  refine ⟨(by show 3 ≤ sizeLine; decide), fun q6 hq6 => ?_⟩
  have w6 := Ext.upd (o := .tup [.str "ann", .int 0, .int 0]) hq6
  have x6 := x5.trans w6
  have od6 := od5.step w6 (.size (p := q6) upd_same (by decide))
  generalize upd J5 q6 (.tup [.str "ann", .int 0, .int 0]) = J6 at w6 x6 od6 ⊢
  refine ⟨(by show 2 ≤ sizeLine; decide), fun q7 hq7 => ?_⟩
  have w7 := Ext.upd (o := .tup [.str "ann", .int (-1)]) hq7
  have x7 := x6.trans w7
  have od7 := od6.step w7 (jd_neg (q := q7) upd_same (by decide))
  generalize upd J6 q7 (.tup [.str "ann", .int (-1)]) = J7 at w7 x7 od7 ⊢
  refine ⟨(by show 2 ≤ sizeLine; decide), fun q8 hq8 => ?_⟩
  have w8 := Ext.upd (o := .tup [.str "ann", .str "0"]) hq8
  have x8 := x7.trans w8
  have od8 := od7.step w8 (jd_num (q := q8) upd_same (.kind (.base (.str _)) kt_str_int))
  generalize upd J7 q8 (.tup [.str "ann", .str "0"]) = J8 at w8 x8 od8 ⊢
  refine ⟨(by show 2 ≤ sizeLine; decide), fun q9 hq9 => ?_⟩
  have w9 := Ext.upd (o := .tup [.str "none", .int 0]) hq9
  have x9 := x8.trans w9
  have od9 := od8.step w9 (jd_who (q := q9) upd_same none_no)
  generalize upd J8 q9 (.tup [.str "none", .int 0]) = J9 at w9 x9 od9 ⊢
  refine ⟨(by show 13 ≤ sizeLine; decide), fun o1 ho1 => ?_⟩
  have w10 := Ext.upd (o := .lst [.non, .int 0, .bl true, .str "", .ref q1, .ref q2, .ref q3, .ref q4, .ref q5, .ref q6, .ref q7, .ref q8, .ref q9]) ho1
  have x10 := x9.trans w10
  have od10 : OddL K _ ns [.non, .int 0, .bl true, .str "", .ref q1, .ref q2, .ref q3, .ref q4, .ref q5, .ref q6, .ref q7, .ref q8, .ref q9] := od9.ext w10
  have co1 : (upd J9 o1 (.lst [.non, .int 0, .bl true, .str "", .ref q1, .ref q2, .ref q3, .ref q4, .ref q5, .ref q6, .ref q7, .ref q8, .ref q9])) o1 = some (.lst [.non, .int 0, .bl true, .str "", .ref q1, .ref q2, .ref q3, .ref q4, .ref q5, .ref q6, .ref q7, .ref q8, .ref q9]) := upd_same
  generalize upd J9 o1 (.lst [.non, .int 0, .bl true, .str "", .ref q1, .ref q2, .ref q3, .ref q4, .ref q5, .ref q6, .ref q7, .ref q8, .ref q9]) = J10 at w10 x10 od10 co1 ⊢
  have rs1 := rs.ext x10
  have lb := rs1.book
  obtain ⟨dxb, lsb, leb, vsb, hb1, hb2, hb3, hb4⟩ := lb
  have j10 := od10.snoc (.kind (M.ty _ _ _ _ hb1) M.nt)
  refine ⟨(by show 1 ≤ sizeLine; decide), fun n1 hn1 => ?_⟩
  have w11 := Ext.upd (o := .lst [.non]) hn1
  have x11 := x10.trans w11
  have cn1 : (upd J10 n1 (.lst [.non])) n1 = some (.lst [.non]) := upd_same
  have j11 := OddL.ext j10 w11
  have co1 := w11 _ _ co1
  generalize upd J10 n1 (.lst [.non]) = J11 at w11 x11 cn1 j11 co1 ⊢
  refine ⟨l, n1, _, _, rfl, rfl, (rs.ext x11).shown, cn1, ?_, fun n2 hn2 => ?_⟩
  · exact Nat.le_trans (show xs.length + 1 ≤ 201 by omega) (by decide)
  have w12 := Ext.upd (o := .lst (xs ++ [V.non])) hn2
  have x12 := x11.trans w12
  have j12 := OddL.step j11 w12 (.kind (.base (.lst (a := n2) upd_same)) kt_list_tup)
  have co1 := w12 _ _ co1
  generalize upd J11 n2 (.lst (xs ++ [V.non])) = J12 at w12 x12 j12 co1 ⊢
  refine ⟨(by show 2 ≤ sizeLine; decide), fun n3 hn3 => ?_⟩
  have w13 := Ext.upd (o := .tup [.str "ann", .non]) hn3
  have x13 := x12.trans w13
  have j13 := OddL.step j12 w13 (jd_num (q := n3) upd_same (.kind (.base .non) kt_non_int))
  have co1 := w13 _ _ co1
  generalize upd J12 n3 (.tup [.str "ann", .non]) = J13 at w13 x13 j13 co1 ⊢
  refine ⟨(by show 1 ≤ sizeLine; decide), fun n4 hn4 => ?_⟩
  have w14 := Ext.upd (o := .lst [.str "ann"]) hn4
  have x14 := x13.trans w14
  have cn4 : (upd J13 n4 (.lst [.str "ann"])) n4 = some (.lst [.str "ann"]) := upd_same
  have j14 := OddL.ext j13 w14
  have co1 := w14 _ _ co1
  generalize upd J13 n4 (.lst [.str "ann"]) = J14 at w14 x14 cn4 j14 co1 ⊢
  refine ⟨(by show 2 ≤ sizeLine; decide), fun n5 hn5 => ?_⟩
  have w15 := Ext.upd (o := .tup [.ref n4, .int 0]) hn5
  have x15 := x14.trans w15
  have j15 := OddL.step j14 w15 (.srv (p := n5) upd_same (.kind (.base (.lst (w15 _ _ cn4))) kt_list_str))
  have co1 := w15 _ _ co1
  generalize upd J14 n5 (.tup [.ref n4, .int 0]) = J15 at w15 x15 j15 co1 ⊢
  refine ⟨(by show 1 ≤ sizeLine; decide), fun n6 hn6 => ?_⟩
  have w16 := Ext.upd (o := .lst [.int 0]) hn6
  have x16 := x15.trans w16
  have cn6 : (upd J15 n6 (.lst [.int 0])) n6 = some (.lst [.int 0]) := upd_same
  have j16 := OddL.ext j15 w16
  have co1 := w16 _ _ co1
  generalize upd J15 n6 (.lst [.int 0]) = J16 at w16 x16 cn6 j16 co1 ⊢
  refine ⟨(by show 2 ≤ sizeLine; decide), fun n7 hn7 => ?_⟩
  have w17 := Ext.upd (o := .tup [.str "ann", .ref n6]) hn7
  have x17 := x16.trans w17
  have j17 := OddL.step j16 w17 (jd_num (q := n7) upd_same (.kind (.base (.lst (w17 _ _ cn6))) kt_list_int))
  have co1 := w17 _ _ co1
  generalize upd J16 n7 (.tup [.str "ann", .ref n6]) = J17 at w17 x17 j17 co1 ⊢
  refine fun n8 hn8 => ⟨upd_same, [(.inr "_", .ref l)], rfl, (by show 1 ≤ 15; decide), ?_⟩
  have w18 : Ext J17 (upd (upd J17 n8 (.dK [])) n8 (.dK (mergeK [] [(.inr "_", .ref l)]))) := fun c u h => by rw [upd_ne (ne_of_none h hn8), upd_ne (ne_of_none h hn8)]; exact h
  have x18 := x17.trans w18
  have j18 := OddL.step j17 w18 (.kind (.base (.dK (a := n8) upd_same)) kt_dict_tup)
  have co1 := w18 _ _ co1
  generalize upd (upd J17 n8 (.dK [])) n8 (.dK (mergeK [] [(.inr "_", .ref l)])) = J18 at w18 x18 j18 co1 ⊢
  refine ⟨(by show 2 ≤ sizeLine; decide), fun n9 hn9 => ?_⟩
  have w19 := Ext.upd (o := .tup [.str "ann", .bl false]) hn9
  have x19 := x18.trans w19
  have j19 := OddL.step j18 w19 (jd_num (q := n9) upd_same (.bl false))
  have co1 := w19 _ _ co1
  generalize upd J18 n9 (.tup [.str "ann", .bl false]) = J19 at w19 x19 j19 co1 ⊢
  refine ⟨(by show 7 ≤ sizeLine; decide), fun o2 ho2 => ?_⟩
  have w20 := Ext.upd (o := .lst [.ref b, .ref n2, .ref n3, .ref n5, .ref n7, .ref n8, .ref n9]) ho2
  have x20 := x19.trans w20
  have j20 := OddL.ext j19 w20
  have co1 := w20 _ _ co1
  have co2 : (upd J19 o2 (.lst [.ref b, .ref n2, .ref n3, .ref n5, .ref n7, .ref n8, .ref n9])) o2 = some (.lst [.ref b, .ref n2, .ref n3, .ref n5, .ref n7, .ref n8, .ref n9]) := upd_same
  generalize upd J19 o2 (.lst [.ref b, .ref n2, .ref n3, .ref n5, .ref n7, .ref n8, .ref n9]) = J20 at w20 x20 j20 co1 co2 ⊢
  refine ⟨o1, o2, _, _, rfl, rfl, co1, co2, (by show 20 ≤ sizeLine; decide), fun o3 ho3 => ?_⟩
  have no3 := Ext.free x20 ho3
  have w21 := Ext.upd (o := .lst ([V.non, V.int 0, V.bl true, V.str "", V.ref q1, V.ref q2, V.ref q3, V.ref q4, V.ref q5, V.ref q6, V.ref q7, V.ref q8, V.ref q9] ++ [V.ref b, V.ref n2, V.ref n3, V.ref n5, V.ref n7, V.ref n8, V.ref n9])) ho3
  have x21 := x20.trans w21
  have j21 : OddL K _ ns ([V.non, V.int 0, V.bl true, V.str "", V.ref q1, V.ref q2, V.ref q3, V.ref q4, V.ref q5, V.ref q6, V.ref q7, V.ref q8, V.ref q9] ++ [V.ref b, V.ref n2, V.ref n3, V.ref n5, V.ref n7, V.ref n8, V.ref n9]) := OddL.ext j20 w21
  have co3 : (upd J20 o3 (.lst ([V.non, V.int 0, V.bl true, V.str "", V.ref q1, V.ref q2, V.ref q3, V.ref q4, V.ref q5, V.ref q6, V.ref q7, V.ref q8, V.ref q9] ++ [V.ref b, V.ref n2, V.ref n3, V.ref n5, V.ref n7, V.ref n8, V.ref n9]))) o3 = some (.lst ([V.non, V.int 0, V.bl true, V.str "", V.ref q1, V.ref q2, V.ref q3, V.ref q4, V.ref q5, V.ref q6, V.ref q7, V.ref q8, V.ref q9] ++ [V.ref b, V.ref n2, V.ref n3, V.ref n5, V.ref n7, V.ref n8, V.ref n9])) := upd_same
  have hv3 : ([V.non, V.int 0, V.bl true, V.str "", V.ref q1, V.ref q2, V.ref q3, V.ref q4, V.ref q5, V.ref q6, V.ref q7, V.ref q8, V.ref q9] ++ [V.ref b, V.ref n2, V.ref n3, V.ref n5, V.ref n7, V.ref n8, V.ref n9]).length = 20 := rfl
  generalize ([V.non, V.int 0, V.bl true, V.str "", V.ref q1, V.ref q2, V.ref q3, V.ref q4, V.ref q5, V.ref q6, V.ref q7, V.ref q8, V.ref q9] ++ [V.ref b, V.ref n2, V.ref n3, V.ref n5, V.ref n7, V.ref n8, V.ref n9]) = vs at w21 x21 j21 co3 hv3 ⊢
  generalize upd J20 o3 (.lst vs) = J21 at w21 x21 j21 co3 ⊢
  refine ⟨fun σ H' => ∃ vs, σ = s7 p a l gg b b2 kd sz [some (.int (lastB sz es)), v9, v10, v11, v12, some (.ref o3)] ∧ H' o3 = some (.lst vs) ∧ OddL K H' ns vs ∧ RS C p a l b b2 sz ns es xs H' ∧ Frm [p] H H', ?_, ?_⟩
  · refine ⟨.inl ⟨rfl, _, SqL.of co3⟩, ?_⟩
    refine ⟨(by show 2 ≤ sizeLine; decide), fun m1 hm1 => ?_⟩
    have wz := Ext.upd (o := .tup [.str "bob", .bl true]) hm1
    have jz := OddL.step j21 wz (jd_num (q := m1) upd_same (.bl true))
    have xz := x21.trans wz
    have cz := wz _ _ co3
    refine ⟨o3, vs, _, rfl, rfl, cz, (by rw [hv3]; decide), _, rfl, upd_same, fun v hv => (jz v hv).updL cz, ?_⟩
    have xe : Ext H9 (upd (upd J21 m1 (.tup [.str "bob", .bl true])) o3 (.lst (vs ++ [.ref m1]))) := fun c u h => by rw [upd_ne (ne_of_none h no3)]; exact xz _ _ h
    exact ⟨rs.ext xe, fr.trans (Frm.ext xe)⟩
  clear rs1 hb1 hb2 hb3 hb4 rs fr
  rintro σ H10 ⟨vs, rfl, ho, od, rs, fr⟩
  have lb := rs.book
  obtain ⟨dxb, lsb, leb, vsb, hb1, hb2, hb3, hb4⟩ := lb
  have la := rs.again
  obtain ⟨dxa, lsa, lea, vsa, ha1, ha2, ha3, ha4⟩ := la
  refine ⟨o3, rfl, ⟨_, SqL.of ho⟩, fun d hd => lc_list (K := K) (a := o3) (xs := vs) (fun i H' => Ext H10 H' ∧ H' d = some (.lst [])) ⟨Ext.upd hd, upd_same⟩ (fun i H1 _ t => SqL.of (t.1 _ _ ho)) ?_ ?_⟩
  · intro i y H1 hy t
    refine ⟨rfl, ?_⟩
    refine ⟨b, dxb, _, rfl, t.1 _ _ hb1, b, sz, ns, es, _, none, rfl, rs.book.mono t.1, ok, cr.nam, (od _ (List.mem_of_getElem? hy)).ext t.1, ?_⟩
    dsimp only [kB]
    exact ifF (by rfl) t
  · intro H1 t
    refine ⟨(by show 0 ≤ sizeLine; decide), fun m1 hm1 => ?_⟩
    have w := Ext.upd (o := .lst []) hm1
    have x := t.1.trans w
    refine ⟨.list [], .list [], .lst (SqL.of (w _ _ t.2)) .nil, .lst (SqL.of upd_same) .nil, (by decide), (by decide), ?_⟩
    refine ⟨_, rfl, ifT (by decide) ?_⟩
    refine ⟨b, b2, dxb, dxa, _, _, rfl, rfl, x _ _ hb1, x _ _ ha1, b, b2, sz, ns, es, sz, ns, es, rfl, rs.book.mono x, rs.again.mono x, ok, cr.nam, ok, cr.nam, ?_⟩
    have e : (decide (kd = kd) && decide (sz = sz) && decide (ns = ns) && decide (es = es)) = true := by simp
    rw [e]
    exact k _ (rs.feed.keep x) (fr.trans (Frm.ext x))
end
end NB

set_option Elab.async false
set_option linter.all false
set_option maxRecDepth 100000
set_option maxHeartbeats 8000000
/-! K6: the law of logs kept -/
namespace NB
open PySem PySem.Spec L2
open PyProof.Rows (envOfC)
open C8 (pe_c pe_mk pe_mt pe_mt0 pe_gc fnScope fnBody fnArgs fnScope_by Cal Met Mak)

/-- what the law is read over -/
structure Tops (K : PySem.W.Frag) (mg : Str → Option Value) (cL cX : Addr) (A0 : Ads) : Prop where
  T : Tx K mg cL cX
  ML : LogM K cL cX cL "steady" A0
  MX : LogM K cL cX cX "losing" A0
  Ms : Ms K A0
  mgL : mg "Log" = some (.ref cL)
  mgX : mg "LosingLog" = some (.ref cX)
  d_is_integer : Dx K mg "is_integer" s_is_integer ["thing"]
  d_is_size : Dx K mg "is_size" s_is_size ["thing"]
  d_is_name : Dx K mg "is_name" s_is_name ["thing"]
  d_are_servers : Dx K mg "are_servers" s_are_servers ["thing"]
  d_is_server : Dx K mg "is_server" s_is_server ["servers", "thing"]
  d_is_entry : Dx K mg "is_entry" s_is_entry ["servers", "thing"]
  d_are_entries : Dx K mg "are_entries" s_are_entries ["servers", "thing"]
  d_law_feed : Dx K mg "_law_feed" s__law_feed ["script", "k"]
  d_law_pick : Dx K mg "_law_pick" s__law_pick ["feed", "many"]
  d_law_crew : Dx K mg "_law_crew" s__law_crew ["feed", "most"]
  d_law_entries : Dx K mg "_law_entries" s__law_entries ["feed", "crew", "most", "limit"]
  d_law_made : Dx K mg "_law_made" s__law_made ["kind", "unit", "crew", "shown"]
  d_law_right : Dx K mg "_law_right" s__law_right ["feed", "kind", "unit", "crew", "shown"]
  cvL : ∃ mc u, ClX.CRead K cL mc ∧ ClX.CVal K cL mc "KIND" (.str "steady") u
  cvX : ∃ mc u, ClX.CRead K cX mc ∧ ClX.CVal K cX mc "KIND" (.str "losing") u

section
variable {P : Program} {w : World} {K : PySem.W.Frag} {mg : Str → Option Value} {base : Heap} {cL cX C : Addr} {kd : Str} {A0 : Ads}
theorem Tops.integer (S : Tops K mg cL cX A0) : Cal P w K mg base 1 "is_integer" (spInteger K) [] := ok_is_integer S.T S.d_is_integer
theorem Tops.size (S : Tops K mg cL cX A0) : Cal P w K mg base 2 "is_size" spSizeB [] := ok_is_size S.T S.d_is_size S.integer
theorem Tops.servers (S : Tops K mg cL cX A0) : Cal P w K mg base 2 "are_servers" spCrew [] := ok_are_servers S.T S.d_are_servers (ok_is_name S.T S.d_is_name)
theorem Tops.entry (S : Tops K mg cL cX A0) : Cal P w K mg base 2 "is_entry" (spEntry K) [] := ok_is_entry S.T S.d_is_entry (ok_is_server S.T S.d_is_server) S.integer
theorem Tops.entries (S : Tops K mg cL cX A0) : Cal P w K mg base 3 "are_entries" spEntries [] := ok_are_entries S.T S.d_are_entries S.entry
theorem Tops.initL (S : Tops K mg cL cX A0) : FnOk P w K mg base C8.CX0 4 A0.fI A0.dI ["self", "size", "servers", "entries"] (spInit cL) := ok_init S.T S.ML.toLogC S.Ms.mI S.size S.servers S.entries
theorem Tops.initX (S : Tops K mg cL cX A0) : FnOk P w K mg base C8.CX0 4 A0.fI A0.dI ["self", "size", "servers", "entries"] (spInit cX) := ok_init S.T S.MX.toLogC S.Ms.mI S.size S.servers S.entries
theorem Tops.makL (S : Tops K mg cL cX A0) : Mak P w K mg base 4 "Log" cL (spInit cL) [] := ⟨_, _, _, _, S.ML.mkk, S.initL, S.mgL, S.Ms.mI.b, .nil⟩
theorem Tops.makX (S : Tops K mg cL cX A0) : Mak P w K mg base 4 "LosingLog" cX (spInit cX) [] := ⟨_, _, _, _, S.MX.mkk, S.initX, S.mgX, S.Ms.mI.b, .nil⟩
theorem Tops.made (S : Tops K mg cL cX A0) : Cal P w K mg base 6 "_law_made" (spMade cL cX) [] := ok_made S.T.toBlt S.d_law_made S.makL S.makX
theorem Tops.pick (S : Tops K mg cL cX A0) : Cal P w K mg base 1 "_law_pick" spPick [] := ok_pick S.T.toBlt S.d_law_pick

def spRight : Sp := fun vs H Q _ => ∃ p kd sz a ns l es xs, vs = [.ref p, .str kd, .int sz, .ref a, .ref l] ∧ (kd = "steady" ∨ kd = "losing") ∧ FeedAt H p ∧ SizeOk sz ∧ H a = some (.lst (ns.map V.str)) ∧ CrewOk ns ∧ (∀ z ∈ ns, z ∈ NAMES) ∧ H l = some (.lst xs) ∧ EntL H es xs ∧ EntsOk ns es ∧
  (∀ e ∈ es, e.2 < 10 ^ 60) ∧ ∀ H', FeedAt H' p → Frm [p] H H' → Q (.bl true) H'
theorem ok_right (S : Tops K mg cL cX A0) : CalG P w K mg base 7 "_law_right" spRight := by
  refine calG_of S.d_law_right sc__law_right (fun vs H Q E h => ?_) (fun f cdv A o s H vs Q E hr hgd h => ?_)
  · obtain ⟨p, kd, sz, a, ns, l, es, xs, rfl, _⟩ := h; rfl
  · obtain ⟨p, kd, sz, a, ns, l, es, xs, rfl, hk, hf, so, ha, cr, hN, hl, el, ok, big, k⟩ := h
    rcases hk with rfl | rfl
    · exact right_body S.T S.ML S.Ms (.inl ⟨rfl, rfl⟩) S.ML.mkk S.MX.mkk S.initL S.initX S.mgL S.mgX (ok_size S.ML.toLogC S.Ms.mZ) (ok_servers S.T S.ML.toLogC S.Ms.mV) (ok_entries S.T S.ML.toLogC S.Ms.mE) (ok_len S.T S.ML.toLogC S.Ms.mN)
        (ok_in S.T S.ML.toLogC S.Ms.mH S.entry) (ok_eq S.T S.ML.toLogC S.ML.toLogC S.ML.kl S.Ms.mQ) (ok_last S.T S.ML.toLogC S.Ms.mB) S.made S.pick f cdv A o s H Q E hr hgd hf so ha cr hN hl el ok big k
    · exact right_body S.T S.MX S.Ms (.inr ⟨rfl, rfl⟩) S.ML.mkk S.MX.mkk S.initL S.initX S.mgL S.mgX (ok_size S.MX.toLogC S.Ms.mZ) (ok_servers S.T S.MX.toLogC S.Ms.mV) (ok_entries S.T S.MX.toLogC S.Ms.mE) (ok_len S.T S.MX.toLogC S.Ms.mN)
        (ok_in S.T S.MX.toLogC S.Ms.mH S.entry) (ok_eq S.T S.MX.toLogC S.MX.toLogC S.MX.kl S.Ms.mQ) (ok_last S.T S.MX.toLogC S.Ms.mB) S.made S.pick f cdv A o s H Q E hr hgd hf so ha cr hN hl el ok big k

def spLaw (K : PySem.W.Frag) : Sp := fun vs H Q _ => ∃ (a : Addr) (ns : List Int), vs = [.ref a] ∧ SqL K H a (ns.map V.int) ∧ ns.length ≤ 63 ∧ ∀ H', Q (.bl true) H'
theorem ok_law (S : Tops K mg cL cX A0) {f : Addr} {fd : FuncData} (F : C8.Fun K "law" "law" s_law f fd) : FnG P w K mg base 8 f fd ["script"] (spLaw K) := by
  refine fnG_of F sc_law (fun vs H Q E h => ?_) (fun cdv A o s H vs Q E hr hgd h => ?_)
  · obtain ⟨a, ns, rfl, _⟩ := h; rfl
  · obtain ⟨a, ns, rfl, hS, hn, k⟩ := h
    have T := S.T
    have ML := S.ML
    have Ms := S.Ms
    have c__law_pick : Cal P w K mg base 1 "_law_pick" spPick [] := S.pick
    have c__law_feed : Cal P w K mg base 1 "_law_feed" (spFeed K) [] := ok_feed T.toBlt S.d_law_feed
    have c__law_crew : Cal P w K mg base 2 "_law_crew" spCrewL [] := ok_crew T.toBlt S.d_law_crew S.pick
    have c__law_entries : Cal P w K mg base 2 "_law_entries" spEntsL [] := ok_ents T.toBlt S.d_law_entries S.pick
    have c__law_right : CalG P w K mg base 7 "_law_right" spRight := ok_right S
    have c_Log : Mak P w K mg base 4 "Log" cL (spInit cL) [] := S.makL
    have F_inL : FnOk P w K mg base C8.CX0 3 A0.fH A0.dH ["self", "thing"] (spIn K cL) := ok_in T ML.toLogC Ms.mH S.entry
    have F_lastL : FnOk P w K mg base C8.CX0 1 A0.fB A0.dB ["self"] (spLast cL) := ok_last T ML.toLogC Ms.mB
    refine ⟨_, (C8.pss_cut (ps_for PassesOwn.never rfl (pi_range1 (by rfl) T.n_range (pa_cons (pe_callB (call_max2 rfl) (by rfl) T.n_max (by decide +kernel) (pa_cons pe_int (pa_cons (pe_callB (call_min2 rfl) (by rfl) T.n_min (by decide +kernel) (pa_cons pe_int (pa_cons (pe_callB call_len (by rfl) T.n_len (by decide +kernel) (pa_cons (mv 0) pa_nil)) pa_nil))) pa_nil))) pa_nil)) (pg_name (i := 1) sc_law.nd rfl (Or.inl rfl))
    (C8.pss_cut (ps_set (i := 2) sc_law.nd rfl (Or.inl rfl) (pe_c c__law_feed hr (by decide) rfl (pa_cons (mv 0) (pa_cons (mv 1) pa_nil))))
    (pss_one (ps_for PassesOwn.never rfl (pi_range1 (by rfl) T.n_range (pa_cons pe_int pa_nil)) (pg_name (i := 3) sc_law.nd rfl (Or.inl rfl))
    (pss_cons (ps_set (i := 4) sc_law.nd rfl (Or.inl rfl) (pe_ix m_ix (pe_lst (pa_cons (pe_op m_add pe_int (pe_c c__law_pick hr (by decide) rfl (pa_cons (mv 2) (pa_cons pe_int pa_nil)))) (pa_cons (pe_op m_pow pe_int pe_int) (pa_cons (pe_op m_add pe_int (pe_c c__law_pick hr (by decide) rfl (pa_cons (mv 2) (pa_cons (pe_op m_pow pe_int pe_int) pa_nil)))) pa_nil)))) (pe_c c__law_pick hr (by decide) rfl (pa_cons (mv 2) (pa_cons pe_int pa_nil))) (fun _ _ => rfl)))
    (pss_cons (ps_par (i := 5) (j := 6) rfl sc_law.nd rfl rfl (by decide) rfl rfl (pa_cons (pe_c c__law_crew hr (by decide) rfl (pa_cons (mv 2) (pa_cons (pe_ix m_ix (pe_lst (pa_cons pe_int (pa_cons pe_int pa_nil))) (mv 3) (fun _ _ => rfl)) pa_nil))) (pa_cons (pe_ix m_ix (pe_lst (pa_cons pe_int (pa_cons (pe_op m_mul (mv 4) pe_int) (pa_cons (pe_op m_pow pe_int pe_int) pa_nil)))) (pe_c c__law_pick hr (by decide) rfl (pa_cons (mv 2) (pa_cons pe_int pa_nil))) (fun _ _ => rfl)) pa_nil)) (by rfl))
    (pss_cons (ps_set (i := 7) sc_law.nd rfl (Or.inl rfl) (pe_c c__law_entries hr (by decide) rfl (pa_cons (mv 2) (pa_cons (mv 5) (pa_cons (pe_ix m_ix (pe_lst (pa_cons (pe_ix m_ix (pe_lst (pa_cons pe_int (pa_cons pe_int pa_nil))) (pe_callTy call_int1 (by rfl) T.n_int (by decide +kernel) (pa_cons (pe_cmpR m_gt (mv 1) pe_int (nomark _)) pa_nil)) (fun _ _ => rfl)) (pa_cons pe_int pa_nil))) (mv 3) (fun _ _ => rfl)) (pa_cons (mv 6) pa_nil))))))
    (pss_one (ps_if (pt_not (qv (pe_g c__law_right hr (by decide) (gd_deeper hgd) rfl (pa_cons (mv 2) (pa_cons (pe_ix m_ix (pe_lst (pa_cons pe_str (pa_cons pe_str pa_nil))) (pe_c c__law_pick hr (by decide) rfl (pa_cons (mv 2) (pa_cons pe_int pa_nil))) (fun _ _ => rfl)) (pa_cons (mv 4) (pa_cons (mv 5) (pa_cons (mv 7) pa_nil)))))))) (pss_one (ps_ret pe_bl)) pss_nil)))))))))
    (pss_cons (ps_set (i := 8) sc_law.nd rfl (Or.inl rfl) (pe_mk c_Log hr (by decide) rfl (pa_cons pe_int (pa_cons (pe_lst (pa_cons pe_str (pa_cons pe_str pa_nil))) (pa_cons (pe_lst (pa_cons (pe_tup (pa_cons pe_str (pa_cons pe_int pa_nil))) (pa_cons (pe_tup (pa_cons pe_str (pa_cons pe_int pa_nil))) (pa_cons (pe_tup (pa_cons pe_str (pa_cons pe_int pa_nil))) pa_nil)))) pa_nil)))))
    (pss_cons (ps_set (i := 9) sc_law.nd rfl (Or.inl rfl) (pe_lst (pa_cons (pe_cmpR (own_in F_inL ML.sH ML.iH Ms.mH.b (hr.mono (by decide)) ps0) (pe_tup (pa_cons pe_str (pa_cons pe_bl pa_nil))) (mv 8) (by rfl)) (pa_cons (pe_cmpR (own_in F_inL ML.sH ML.iH Ms.mH.b (hr.mono (by decide)) ps0) (pe_tup (pa_cons pe_str (pa_cons pe_bl pa_nil))) (mv 8) (by rfl)) (pa_cons (pe_cmpR (own_in F_inL ML.sH ML.iH Ms.mH.b (hr.mono (by decide)) ps0) (pe_tup (pa_cons pe_str (pa_cons pe_int pa_nil))) (mv 8) (by rfl)) (pa_cons (pe_meth0 (mv 8) ML.cl ML.mB F_lastL (hr.mono (by decide)) Ms.mB.b .nil ps0) (pa_cons (ClX.pe_cval (pe_gc rfl T.g_Log)) (pa_cons (ClX.pe_cval (pe_gc rfl T.g_LosingLog)) pa_nil))))))))
    (pss_one (ps_ret (pe_cmpR (op_eqD hr.units) (mv 9) (pe_lst (pa_cons pe_bl (pa_cons pe_bl (pa_cons pe_bl (pa_cons pe_int (pa_cons pe_str (pa_cons pe_str pa_nil))))))) (nomark _))))))), ?_⟩
    have np2 : ∀ {p : Addr} {G G' : Hp}, H p = none → Ext H G → Frm [p] G G' → Ext H G' := fun n x f c u h => f c u (x c u h) fun z => ne_of_none h n (List.mem_singleton.mp z)
    have small : ∀ {i : Int}, i ≤ 10 ^ 60 → i < 2 ^ 1000 := fun {i} h => Int.lt_of_le_of_lt h (by decide +kernel)
    -- for k in range(max(1, min(4, len(script))))
    refine ⟨fun σ H' => ∃ v1 v2 v3 v4 v5 v6 v7, σ = [some (.ref a), v1, v2, v3, v4, v5, v6, v7, none, none] ∧ Ext H H', ?_, ?_⟩
    · refine ⟨_, _, rfl, .inl ⟨_, hS, rfl⟩, _, _, rfl, _, _, rfl, ?_⟩
      rw [List.length_map]
      have hb : 0 ≤ (if (if (ns.length : Int) < 4 then (ns.length : Int) else 4) > 1 then (if (ns.length : Int) < 4 then (ns.length : Int) else 4) else 1) ∧ (if (if (ns.length : Int) < 4 then (ns.length : Int) else 4) > 1 then (if (ns.length : Int) < 4 then (ns.length : Int) else 4) else 1) ≤ 4 := by
        split <;> split <;> omega
      generalize (if (if (ns.length : Int) < 4 then (ns.length : Int) else 4) > 1 then (if (ns.length : Int) < 4 then (ns.length : Int) else 4) else 1) = N at hb ⊢
      refine ⟨_, rfl, by omega, by omega, for_range (lo := 0) (n := N.toNat) (fun i σ H' => ∃ v1 v2 v3 v4 v5 v6 v7, σ = [some (.ref a), v1, v2, v3, v4, v5, v6, v7, none, none] ∧ Ext H H') ⟨none, none, none, none, none, none, none, rfl, fun _ _ z => z⟩ ?_ ?_⟩
      · rintro i σ H1 hi ⟨v1, v2, v3, v4, v5, v6, v7, rfl, x1⟩
        -- feed = _law_feed(script, k)
        refine ⟨fun σ H' => ∃ p, σ = [some (.ref a), some (.int (0 + i)), some (.ref p), v3, v4, v5, v6, v7, none, none] ∧ Ext H H' ∧ H p = none ∧ FeedAt H' p, ?_, ?_⟩
        · refine ⟨a, ns, _, rfl, SqL.ext hS x1, by omega, by omega, hn, fun p o np fo => ?_⟩
          exact ⟨p, rfl, x1.trans (Ext.upd np), Ext.free x1 np, FeedAt.put fo⟩
        rintro σ H2 ⟨p, rfl, x2, np, hf2⟩
        -- for turn in range(2)
        refine ⟨_, rfl, by omega, by omega, for_range (lo := 0) (n := 2) (fun j σ H' => ∃ v3 v4 v5 v6 v7, σ = [some (.ref a), some (.int (0 + i)), some (.ref p), v3, v4, v5, v6, v7, none, none] ∧ Ext H H' ∧ FeedAt H' p) ⟨_, _, _, _, _, rfl, x2, hf2⟩ ?_ ?_⟩
        · clear x2 hf2 x1
          rintro j σ H3 hj ⟨v3, v4, v5, v6, v7, rfl, x3, hf3⟩
          -- unit
          refine ⟨p, 9, rfl, hf3, by decide, small (by decide), fun r1 o1 a1 a2 fo1 => ?_⟩
          refine ⟨⟨by decide, by decide, by decide⟩, ⟨by decide, by decide, by decide⟩, p, _, rfl, FeedAt.put fo1, by decide, small (by decide), fun r2 o2 b1 b2 fo2 => ?_⟩
          have up1 : Frm [p] H3 (upd (upd H3 p o1) p o2) := ((Frm.refl (M := [p])).upd mem1).upd mem1
          have x4 := np2 np x3 up1
          have hf4 : FeedAt (upd (upd H3 p o1) p o2) p := FeedAt.put fo2
          generalize upd (upd H3 p o1) p o2 = G4 at x4 hf4 ⊢
          refine ⟨(by show 3 ≤ sizeLine; decide), fun q0 hq0 => ?_⟩
          have w5 := Ext.upd (o := .lst [.int (1 + r1), .int ((10 : Int) ^ (30 : Int).toNat), .int (1 + r2)]) hq0
          have c5 : (upd G4 q0 (.lst [.int (1 + r1), .int ((10 : Int) ^ (30 : Int).toNat), .int (1 + r2)])) q0 = some (.lst [.int (1 + r1), .int ((10 : Int) ^ (30 : Int).toNat), .int (1 + r2)]) := upd_same
          have x5 := x4.trans w5
          have hf5 := hf4.keep w5
          have pq0 : q0 ≠ p := by obtain ⟨u, hu, _⟩ := hf4; exact (ne_of_none hu hq0).symm
          generalize upd G4 q0 _ = G5 at x5 hf5 c5 ⊢
          refine ⟨p, 3, rfl, hf5, by decide, small (by decide), fun r3 o3 c1 c2 fo3 => ?_⟩
          obtain ⟨sz, so, at3⟩ : ∃ sz : Int, SizeOk sz ∧ atI [V.int (1 + r1), V.int ((10 : Int) ^ (30 : Int).toNat), V.int (1 + r2)] r3 = some (.int sz) := by
            have three : r3 = 0 ∨ r3 = 1 ∨ r3 = 2 := by omega
            have b2' : r2 < 10 ^ 30 := b2
            rcases three with e | e | e
            · exact ⟨1 + r1, ⟨by omega, by omega⟩, by rw [e]; rfl⟩
            · exact ⟨10 ^ 30, ⟨by decide, by decide⟩, by rw [e]; rfl⟩
            · exact ⟨1 + r2, ⟨by omega, by omega⟩, by rw [e]; rfl⟩
          refine ⟨_, .int sz, .inl (SqL.of (by rw [upd_ne pq0]; exact c5)), at3, ?_⟩
          have x6 := np2 np x5 ((Frm.refl (M := [p])).upd (o := o3) mem1)
          have hf6 : FeedAt (upd G5 p o3) p := FeedAt.put fo3
          generalize upd G5 p o3 = G6 at x6 hf6 ⊢
          -- crew, limit
          have tj : j = 0 ∨ j = 1 := by omega
          refine ⟨(by show 2 ≤ sizeLine; decide), fun q1 hq1 => ?_⟩
          have w7 := Ext.upd (o := .lst [.int 12, .int 3]) hq1
          have x7 := x6.trans w7
          have hf7 := hf6.keep w7
          obtain ⟨most, hm1, hm2, at7⟩ : ∃ m : Int, 1 ≤ m ∧ m ≤ 12 ∧ atI [V.int 12, V.int 3] (0 + (j : Int)) = some (.int m) := by
            rcases tj with rfl | rfl
            · exact ⟨12, by decide, by decide, rfl⟩
            · exact ⟨3, by decide, by decide, rfl⟩
          refine ⟨_, .int most, .inl (SqL.of upd_same), at7, ?_⟩
          generalize upd G6 q1 (.lst [.int 12, .int 3]) = G7 at x7 hf7 ⊢
          refine ⟨p, most, rfl, hf7, hm1, hm2, fun G8 ca cn nca hca cr hN hf8 fr8 => ?_⟩
          have x8 := np2 np x7 fr8
          have cap : ca ≠ p := hf8.ne hca
          refine ⟨mulR (by decide) (by decide), ⟨by decide, by decide, by decide⟩, (by show 3 ≤ sizeLine; decide), fun q2 hq2 => ?_⟩
          have w9 := Ext.upd (o := .lst [.int 20, .int (sz * 9), .int ((10 : Int) ^ (59 : Int).toNat)]) hq2
          have c9 : (upd G8 q2 (.lst [.int 20, .int (sz * 9), .int ((10 : Int) ^ (59 : Int).toNat)])) q2 = some (.lst [.int 20, .int (sz * 9), .int ((10 : Int) ^ (59 : Int).toNat)]) := upd_same
          have x9 := x8.trans w9
          have hf9 := hf8.keep w9
          have hca9 := w9 _ _ hca
          have pq2 : q2 ≠ p := by obtain ⟨u, hu, _⟩ := hf8; exact (ne_of_none hu hq2).symm
          generalize upd G8 q2 _ = G9 at x9 hf9 hca9 c9 ⊢
          refine ⟨p, 3, rfl, hf9, by decide, small (by decide), fun r4 o4 d1 d2 fo4 => ?_⟩
          obtain ⟨limit, l1, l2, at4⟩ : ∃ m : Int, 1 ≤ m ∧ m ≤ 10 ^ 59 ∧ atI [V.int 20, V.int (sz * 9), V.int ((10 : Int) ^ (59 : Int).toNat)] r4 = some (.int m) := by
            have three : r4 = 0 ∨ r4 = 1 ∨ r4 = 2 := by omega
            have s1 := so.1
            have s2 := so.2
            rcases three with e | e | e
            · exact ⟨20, by decide, by decide, by rw [e]; rfl⟩
            · exact ⟨sz * 9, by omega, by omega, by rw [e]; rfl⟩
            · exact ⟨10 ^ 59, by decide, by decide, by rw [e]; rfl⟩
          refine ⟨_, .int limit, .inl (SqL.of (by rw [upd_ne pq2]; exact c9)), at4, ?_⟩
          have x10 := np2 np x9 ((Frm.refl (M := [p])).upd (o := o4) mem1)
          have hf10 : FeedAt (upd G9 p o4) p := FeedAt.put fo4
          have hca10 : (upd G9 p o4) ca = some (.lst (cn.map V.str)) := by rw [upd_ne cap]; exact hca9
          generalize upd G9 p o4 = G10 at x10 hf10 hca10 ⊢
          -- shown
          refine ⟨_, _, rfl, (by show 2 ≤ sizeLine; decide), fun q3 hq3 => ?_⟩
          have w11 := Ext.upd (o := .lst [.int 200, .int 20]) hq3
          have x11 := x10.trans w11
          have hf11 := hf10.keep w11
          have hca11 := w11 _ _ hca10
          obtain ⟨mo, m0, m2, at11⟩ : ∃ m : Int, 0 ≤ m ∧ m ≤ 200 ∧ atI [V.int 200, V.int 20] (if decide (0 + (i : Int) > 0) = true then 1 else 0) = some (.int m) := by
            split
            · exact ⟨20, by decide, by decide, rfl⟩
            · exact ⟨200, by decide, by decide, rfl⟩
          refine .inr ⟨_, rfl, _, _, .inl (SqL.of upd_same), at11, ?_⟩
          generalize upd G10 q3 _ = G11 at x11 hf11 hca11 ⊢
          refine ⟨(by show 2 ≤ sizeLine; decide), fun q4 hq4 => ?_⟩
          have w12 := Ext.upd (o := .lst [.int mo, .int 6]) hq4
          have x12 := x11.trans w12
          have hf12 := hf11.keep w12
          have hca12 := w12 _ _ hca11
          obtain ⟨mm, n0, n2, at12⟩ : ∃ m : Int, 0 ≤ m ∧ m ≤ 200 ∧ atI [V.int mo, V.int 6] (0 + (j : Int)) = some (.int m) := by
            rcases tj with rfl | rfl
            · exact ⟨mo, m0, m2, rfl⟩
            · exact ⟨6, by decide, by decide, rfl⟩
          refine ⟨_, _, .inl (SqL.of upd_same), at12, ?_⟩
          generalize upd G11 q4 _ = G12 at x12 hf12 hca12 ⊢
          refine ⟨p, ca, cn, mm, limit, rfl, hf12, hca12, cr, n0, n2, l1, small (Int.le_trans l2 (by decide)), fun G13 sl es xs nsl hsl el ok lim hf13 fr13 => ?_⟩
          have x13 := np2 np x12 fr13
          have hca13 := fr13 _ _ hca12 (fun z => cap (List.mem_singleton.mp z))
          -- _law_right
          refine ⟨(by show 2 ≤ sizeLine; decide), fun q5 hq5 => ?_⟩
          have w14 := Ext.upd (o := .lst [.str "steady", .str "losing"]) hq5
          have c14 : (upd G13 q5 (.lst [.str "steady", .str "losing"])) q5 = some (.lst [.str "steady", .str "losing"]) := upd_same
          have x14 := x13.trans w14
          have hf14 := hf13.keep w14
          have pq5 : q5 ≠ p := by obtain ⟨u, hu, _⟩ := hf13; exact (ne_of_none hu hq5).symm
          have hca14 := w14 _ _ hca13
          have hsl14 := w14 _ _ hsl
          have el14 := el.mono w14
          generalize upd G13 q5 _ = G14 at x14 hf14 hca14 hsl14 el14 c14 ⊢
          refine ⟨p, 2, rfl, hf14, by decide, small (by decide), fun r5 o5 e1 e2 fo5 => ?_⟩
          obtain ⟨kd, hkd, at14⟩ : ∃ kd : Str, (kd = "steady" ∨ kd = "losing") ∧ atI [V.str "steady", V.str "losing"] r5 = some (.str kd) := by
            have two : r5 = 0 ∨ r5 = 1 := by omega
            rcases two with e | e
            · exact ⟨_, .inl rfl, by rw [e]; rfl⟩
            · exact ⟨_, .inr rfl, by rw [e]; rfl⟩
          refine ⟨_, .str kd, .inl (SqL.of (by rw [upd_ne pq5]; exact c14)), at14, ?_⟩
          have slp : sl ≠ p := by
            obtain ⟨u, hu, fu⟩ := hf14
            intro e
            rw [e, hu] at hsl14
            exact el14.ne_feed fu (Option.some.inj hsl14)
          have st15 := TupSt.feed (o := o5) hf14
          have x15 := np2 np x14 ((Frm.refl (M := [p])).upd (o := o5) mem1)
          refine ⟨p, kd, sz, ca, cn, sl, es, xs, rfl, hkd, FeedAt.put fo5, so, by rw [upd_ne cap]; exact hca14, cr, hN, by rw [upd_ne slp]; exact hsl14, el14.st st15, ok, fun e he => Int.lt_trans (lim e he) (Int.lt_of_le_of_lt l2 (by decide)), fun G16 hf16 fr16 => ?_⟩
          refine ifF (by rfl) ?_
          exact ⟨_, _, _, _, _, rfl, np2 np x15 fr16, hf16⟩
        · rintro σ H3 ⟨v3, v4, v5, v6, v7, rfl, x3, hf3⟩
          exact ⟨_, _, _, _, _, _, _, rfl, x3⟩
      · rintro σ H1 ⟨v1, v2, v3, v4, v5, v6, v7, rfl, x1⟩
        exact ⟨_, _, _, _, _, _, _, rfl, x1⟩
    rintro σ H1 ⟨v1, v2, v3, v4, v5, v6, v7, rfl, x1⟩
    -- book = Log(10, ['a', 'b'], [('a', 0), ('b', 1), ('a', 99)])
    refine ⟨(by show 2 ≤ sizeLine; decide), fun u1 hu1 => ?_⟩
    have c1 : (upd H1 u1 (.lst [.str "a", .str "b"])) u1 = some (.lst ((["a", "b"] : List Str).map V.str)) := upd_same
    generalize upd H1 u1 (.lst [.str "a", .str "b"]) = G1 at c1 ⊢
    refine ⟨(by show 2 ≤ sizeLine; decide), fun t1 ht1 => ?_⟩
    have w2 := Ext.upd (o := .tup [.str "a", .int 0]) ht1
    have e1 : EntAt (upd G1 t1 (.tup [.str "a", .int 0])) ("a", 0) (.ref t1) := ⟨t1, rfl, upd_same⟩
    have c2 := w2 _ _ c1
    generalize upd G1 t1 _ = G2 at c2 e1 ⊢
    refine ⟨(by show 2 ≤ sizeLine; decide), fun t2 ht2 => ?_⟩
    have w3 := Ext.upd (o := .tup [.str "b", .int 1]) ht2
    have e2 : EntAt (upd G2 t2 (.tup [.str "b", .int 1])) ("b", 1) (.ref t2) := ⟨t2, rfl, upd_same⟩
    have c3 := w3 _ _ c2
    have e13 := e1.mono w3
    generalize upd G2 t2 _ = G3 at c3 e13 e2 ⊢
    refine ⟨(by show 2 ≤ sizeLine; decide), fun t3 ht3 => ?_⟩
    have w4 := Ext.upd (o := .tup [.str "a", .int 99]) ht3
    have e3 : EntAt (upd G3 t3 (.tup [.str "a", .int 99])) ("a", 99) (.ref t3) := ⟨t3, rfl, upd_same⟩
    have c4 := w4 _ _ c3
    have e14 := e13.mono w4
    have e24 := e2.mono w4
    generalize upd G3 t3 _ = G4 at c4 e14 e24 e3 ⊢
    refine ⟨(by show 3 ≤ sizeLine; decide), fun u2 hu2 => ?_⟩
    have w5 := Ext.upd (o := .lst [.ref t1, .ref t2, .ref t3]) hu2
    have c5 := w5 _ _ c4
    have d5 : (upd G4 u2 (.lst [.ref t1, .ref t2, .ref t3])) u2 = some (.lst [.ref t1, .ref t2, .ref t3]) := upd_same
    have el5 : EntL (upd G4 u2 (.lst [.ref t1, .ref t2, .ref t3])) [("a", 0), ("b", 1), ("a", 99)] [.ref t1, .ref t2, .ref t3] := .cons (e14.mono w5) (.cons (e24.mono w5) (.cons (e3.mono w5) .nil))
    generalize upd G4 u2 _ = G5 at c5 d5 el5 ⊢
    have cr : CrewOk ["a", "b"] := ⟨by decide, by decide, by decide +kernel, by decide +kernel⟩
    have ok : EntsOk ["a", "b"] [("a", 0), ("b", 1), ("a", 99)] := ⟨by decide, by decide +kernel⟩
    intro q dq nq ndq neq
    refine init_new' nq ndq neq ⟨by decide, by decide⟩ c5 cr d5 el5 ok fun G6 ls le nls nle b1 b2 b3 x6 => ?_
    have lg : LogAt cL G6 q 10 ["a", "b"] [("a", 0), ("b", 1), ("a", 99)] := ⟨dq, ls, le, _, b1, b2, b3, el5.mono x6⟩
    clear c5 d5 el5 x6 b2 b3
    -- told = [..]
    refine ⟨(by show 2 ≤ sizeLine; decide), fun q1 hq1 => ?_⟩
    have w1 := Ext.upd (o := .tup [.str "b", .bl true]) hq1
    have lg1 := lg.mono w1
    have b1' := w1 _ _ b1
    have j1 : Jd K (upd G6 q1 (.tup [.str "b", .bl true])) ["a", "b"] (.ref q1) none := jd_num upd_same (.bl true)
    generalize upd G6 q1 _ = G7 at lg1 b1' j1 ⊢
    refine ⟨q, dq, _, rfl, b1', q, 10, ["a", "b"], _, _, none, rfl, lg1, ok, cr.nam, j1, ?_⟩
    dsimp only [kB]
    refine ⟨(by show 2 ≤ sizeLine; decide), fun q2 hq2 => ?_⟩
    have w2 := Ext.upd (o := .tup [.str "a", .bl false]) hq2
    have lg2 := lg1.mono w2
    have b2 := w2 _ _ b1'
    have j2 : Jd K (upd G7 q2 (.tup [.str "a", .bl false])) ["a", "b"] (.ref q2) none := jd_num upd_same (.bl false)
    generalize upd G7 q2 _ = G8 at lg2 b2 j2 ⊢
    refine ⟨q, dq, _, rfl, b2, q, 10, ["a", "b"], _, _, none, rfl, lg2, ok, cr.nam, j2, ?_⟩
    dsimp only [kB]
    refine ⟨(by show 2 ≤ sizeLine; decide), fun q3 hq3 => ?_⟩
    have w3 := Ext.upd (o := .tup [.str "b", .int 1]) hq3
    have lg3 := lg2.mono w3
    have b3 := w3 _ _ b2
    have j3 : Jd K (upd G8 q3 (.tup [.str "b", .int 1])) ["a", "b"] (.ref q3) (some ("b", 1)) := .ok upd_same (by decide +kernel) (by decide)
    generalize upd G8 q3 _ = G9 at lg3 b3 j3 ⊢
    refine ⟨q, dq, _, rfl, b3, q, 10, ["a", "b"], _, _, some ("b", 1), rfl, lg3, ok, cr.nam, j3, ?_⟩
    dsimp only [kB]
    have eb : decide ((("b", 1) : Str × Int) ∈ [(("a", 0) : Str × Int), ("b", 1), ("a", 99)]) = true := by decide +kernel
    rw [eb]
    refine ⟨q, dq, _, rfl, b3, lf_no _ _ _ (by decide +kernel) (by decide +kernel) (by decide +kernel), ⟨q, 10, ["a", "b"], _, rfl, lg3, ⟨by decide, by decide⟩, ok, cr.nam, fun G10 x10 => ?_⟩⟩
    have e9 : lastB 10 [("a", 0), ("b", 1), ("a", 99)] = 9 := by decide +kernel
    rw [e9]
    obtain ⟨mc, u, cr1, cv1⟩ := S.cvL
    obtain ⟨mc2, u2, cr2, cv2⟩ := S.cvX
    refine ⟨cL, mc, _, u, rfl, cr1, cv1, cX, mc2, _, _, rfl, cr2, cv2, (by show 6 ≤ sizeLine; decide), fun r1 hr1 => ?_⟩
    refine ⟨(by show 6 ≤ sizeLine; decide), fun r2 hr2 => ?_⟩
    have w5 := Ext.upd (o := .lst [.bl false, .bl false, .bl true, .int 9, .str "steady", .str "losing"]) hr2
    refine ⟨.list [.bool false, .bool false, .bool true, .int 9, .str "steady", .str "losing"], .list [.bool false, .bool false, .bool true, .int 9, .str "steady", .str "losing"], ?_, ?_, (by decide +kernel), (by decide +kernel), ?_⟩
    · exact .lst (SqL.of (w5 _ _ upd_same)) (.cons (.bl _) (.cons (.bl _) (.cons (.bl _) (.cons (.int _) (.cons (.str _) (.cons (.str _) .nil))))))
    · exact .lst (SqL.of upd_same) (.cons (.bl _) (.cons (.bl _) (.cons (.bl _) (.cons (.int _) (.cons (.str _) (.cons (.str _) .nil))))))
    · have ee : PyData.eqv (.list [.bool false, .bool false, .bool true, .int 9, .str "steady", .str "losing"]) (.list [.bool false, .bool false, .bool true, .int 9, .str "steady", .str "losing"]) = true := by decide +kernel
      rw [ee]
      exact k _
end
end NB

set_option Elab.async false
set_option linter.all false
set_option maxRecDepth 100000
set_option maxHeartbeats 0
/-! K7: what the top must have, from its facts -/
namespace NB
open PySem PySem.Spec L2
open PyProof.Rows (envOfC)
open C8 (pe_c pe_mk pe_mt pe_mt0 pe_gc fnScope fnBody fnArgs fnScope_by Cal Met Mak)

theorem kit_same {K : PySem.W.Frag} {C : Addr} : PySem.W.kitOne K (.ref C) (.ref C) = some true := by
  unfold PySem.W.kitOne
  rw [if_pos (by simp)]
theorem kit_ref {K : PySem.W.Frag} {C : Addr} {t : Value} {b : Bool} (h1 : PySem.W.isClsIn K C = true) (h2 : PySem.W.typeIn K (.ref C) = some (.type "type")) (h3 : PySem.W.subIn K t (.ref C) = some b) (h4 : (t == Value.ref C) = false) : PySem.W.kitOne K t (.ref C) = some b := by
  unfold PySem.W.kitOne PySem.W.kitCls
  rw [if_neg (by rw [h4]; exact Bool.false_ne_true)]
  unfold PySem.W.isClsIn at h1
  simp only [h1, h2, h3, Bool.true_and, beq_self_eq_true, if_true]
theorem kit_tyR {K : PySem.W.Frag} {C : Addr} {x : String} {b : Bool} (h : PySem.W.subIn K (.ref C) (.type x) = some b) (hm : PySem.W.kitMeta x = true) : PySem.W.kitOne K (.ref C) (.type x) = some b := by
  unfold PySem.W.kitOne PySem.W.kitCls
  rw [if_neg (by simp)]
  simp only [hm, h, if_true]
theorem all_mk {P : Program} {w : World} {K : PySem.W.Frag} {h : Heap} {mg : Str → Option Value} {fa : Addr} (X : K.In h) (G : h.Ns mainGlobals mg) (hfa : mg "law" = some (.ref fa))
    {f_is_integer f_is_size f_is_name f_are_servers f_is_server f_is_entry f_are_entries f__law_feed f__law_pick f__law_crew f__law_entries f__law_made f__law_right f_law cL cX fMI pZ fMZ pV fMV pE fME fMN fMQ fMH fMB : Addr} {od_is_integer an_is_integer od_is_size an_is_size od_is_name an_is_name od_are_servers an_are_servers od_is_server an_is_server od_is_entry an_is_entry od_are_entries an_are_entries od__law_feed an__law_feed od__law_pick an__law_pick od__law_crew an__law_crew od__law_entries an__law_entries od__law_made an__law_made od__law_right an__law_right od_law an_law odMI anMI odMZ anMZ odMV anMV odME anME odMN anMN odMQ anMQ odMH anMH odMB anMB : Option Addr} {sl_is_integer sl_is_size sl_is_name sl_are_servers sl_is_server sl_is_entry sl_are_entries sl__law_feed sl__law_pick sl__law_crew sl__law_entries sl__law_made sl__law_right sl_law slMI slMZ slMV slME slMN slMQ slMH slMB : Array (Option Value)} {oc_is_integer kV_is_integer dc_is_integer pm_is_integer cd_is_integer ct_is_integer oc_is_size kV_is_size dc_is_size pm_is_size cd_is_size ct_is_size oc_is_name kV_is_name dc_is_name pm_is_name cd_is_name ct_is_name oc_are_servers kV_are_servers dc_are_servers pm_are_servers cd_are_servers ct_are_servers oc_is_server kV_is_server dc_is_server pm_is_server cd_is_server ct_is_server oc_is_entry kV_is_entry dc_is_entry pm_is_entry cd_is_entry ct_is_entry oc_are_entries kV_are_entries dc_are_entries pm_are_entries cd_are_entries ct_are_entries oc__law_feed kV__law_feed dc__law_feed pm__law_feed cd__law_feed ct__law_feed oc__law_pick kV__law_pick dc__law_pick pm__law_pick cd__law_pick ct__law_pick oc__law_crew kV__law_crew dc__law_crew pm__law_crew cd__law_crew ct__law_crew oc__law_entries kV__law_entries dc__law_entries pm__law_entries cd__law_entries ct__law_entries oc__law_made kV__law_made dc__law_made pm__law_made cd__law_made ct__law_made oc__law_right kV__law_right dc__law_right pm__law_right cd__law_right ct__law_right oc_law kV_law dc_law pm_law cd_law ct_law ocMI kVMI dcMI pmMI cdMI ctMI ocMZ kVMZ dcMZ pmMZ cdMZ ctMZ ocMV kVMV dcMV pmMV cdMV ctMV ocME kVME dcME pmME cdME ctME ocMN kVMN dcMN pmMN cdMN ctMN ocMQ kVMQ dcMQ pmMQ cdMQ ctMQ ocMH kVMH dcMH pmMH cdMH ctMH ocMB kVMB dcMB pmMB cdMB ctMB : Value} {tk0 tk1 tk2 tk3 ts0 ts1 ts2 ts3 ts4 ts5 : Tok} {rsZ rsV rsE : List Value}
    (a_is_integer : PySem.W.nsIn K mainGlobals "is_integer" = some (some (.ref f_is_integer)))
    (l_is_integer : K.lookup f_is_integer = some ⟨oc_is_integer, od_is_integer, .func (PySem.W.fnOf "is_integer" "is_integer" (fnArgs s_is_integer) (fnBody s_is_integer) (fnScope s_is_integer) .none kV_is_integer dc_is_integer pm_is_integer an_is_integer cd_is_integer ct_is_integer), sl_is_integer⟩)
    (c_is_integer : PySem.W.codeIn K cd_is_integer "is_integer" = true)
    (k_is_integer : PySem.W.keepIn K (.ref f_is_integer) = true)
    (a_is_size : PySem.W.nsIn K mainGlobals "is_size" = some (some (.ref f_is_size)))
    (l_is_size : K.lookup f_is_size = some ⟨oc_is_size, od_is_size, .func (PySem.W.fnOf "is_size" "is_size" (fnArgs s_is_size) (fnBody s_is_size) (fnScope s_is_size) .none kV_is_size dc_is_size pm_is_size an_is_size cd_is_size ct_is_size), sl_is_size⟩)
    (c_is_size : PySem.W.codeIn K cd_is_size "is_size" = true)
    (k_is_size : PySem.W.keepIn K (.ref f_is_size) = true)
    (a_is_name : PySem.W.nsIn K mainGlobals "is_name" = some (some (.ref f_is_name)))
    (l_is_name : K.lookup f_is_name = some ⟨oc_is_name, od_is_name, .func (PySem.W.fnOf "is_name" "is_name" (fnArgs s_is_name) (fnBody s_is_name) (fnScope s_is_name) .none kV_is_name dc_is_name pm_is_name an_is_name cd_is_name ct_is_name), sl_is_name⟩)
    (c_is_name : PySem.W.codeIn K cd_is_name "is_name" = true)
    (k_is_name : PySem.W.keepIn K (.ref f_is_name) = true)
    (a_are_servers : PySem.W.nsIn K mainGlobals "are_servers" = some (some (.ref f_are_servers)))
    (l_are_servers : K.lookup f_are_servers = some ⟨oc_are_servers, od_are_servers, .func (PySem.W.fnOf "are_servers" "are_servers" (fnArgs s_are_servers) (fnBody s_are_servers) (fnScope s_are_servers) .none kV_are_servers dc_are_servers pm_are_servers an_are_servers cd_are_servers ct_are_servers), sl_are_servers⟩)
    (c_are_servers : PySem.W.codeIn K cd_are_servers "are_servers" = true)
    (k_are_servers : PySem.W.keepIn K (.ref f_are_servers) = true)
    (a_is_server : PySem.W.nsIn K mainGlobals "is_server" = some (some (.ref f_is_server)))
    (l_is_server : K.lookup f_is_server = some ⟨oc_is_server, od_is_server, .func (PySem.W.fnOf "is_server" "is_server" (fnArgs s_is_server) (fnBody s_is_server) (fnScope s_is_server) .none kV_is_server dc_is_server pm_is_server an_is_server cd_is_server ct_is_server), sl_is_server⟩)
    (c_is_server : PySem.W.codeIn K cd_is_server "is_server" = true)
    (k_is_server : PySem.W.keepIn K (.ref f_is_server) = true)
    (a_is_entry : PySem.W.nsIn K mainGlobals "is_entry" = some (some (.ref f_is_entry)))
    (l_is_entry : K.lookup f_is_entry = some ⟨oc_is_entry, od_is_entry, .func (PySem.W.fnOf "is_entry" "is_entry" (fnArgs s_is_entry) (fnBody s_is_entry) (fnScope s_is_entry) .none kV_is_entry dc_is_entry pm_is_entry an_is_entry cd_is_entry ct_is_entry), sl_is_entry⟩)
    (c_is_entry : PySem.W.codeIn K cd_is_entry "is_entry" = true)
    (k_is_entry : PySem.W.keepIn K (.ref f_is_entry) = true)
    (a_are_entries : PySem.W.nsIn K mainGlobals "are_entries" = some (some (.ref f_are_entries)))
    (l_are_entries : K.lookup f_are_entries = some ⟨oc_are_entries, od_are_entries, .func (PySem.W.fnOf "are_entries" "are_entries" (fnArgs s_are_entries) (fnBody s_are_entries) (fnScope s_are_entries) .none kV_are_entries dc_are_entries pm_are_entries an_are_entries cd_are_entries ct_are_entries), sl_are_entries⟩)
    (c_are_entries : PySem.W.codeIn K cd_are_entries "are_entries" = true)
    (k_are_entries : PySem.W.keepIn K (.ref f_are_entries) = true)
    (a__law_feed : PySem.W.nsIn K mainGlobals "_law_feed" = some (some (.ref f__law_feed)))
    (l__law_feed : K.lookup f__law_feed = some ⟨oc__law_feed, od__law_feed, .func (PySem.W.fnOf "_law_feed" "_law_feed" (fnArgs s__law_feed) (fnBody s__law_feed) (fnScope s__law_feed) .none kV__law_feed dc__law_feed pm__law_feed an__law_feed cd__law_feed ct__law_feed), sl__law_feed⟩)
    (c__law_feed : PySem.W.codeIn K cd__law_feed "_law_feed" = true)
    (k__law_feed : PySem.W.keepIn K (.ref f__law_feed) = true)
    (a__law_pick : PySem.W.nsIn K mainGlobals "_law_pick" = some (some (.ref f__law_pick)))
    (l__law_pick : K.lookup f__law_pick = some ⟨oc__law_pick, od__law_pick, .func (PySem.W.fnOf "_law_pick" "_law_pick" (fnArgs s__law_pick) (fnBody s__law_pick) (fnScope s__law_pick) .none kV__law_pick dc__law_pick pm__law_pick an__law_pick cd__law_pick ct__law_pick), sl__law_pick⟩)
    (c__law_pick : PySem.W.codeIn K cd__law_pick "_law_pick" = true)
    (k__law_pick : PySem.W.keepIn K (.ref f__law_pick) = true)
    (a__law_crew : PySem.W.nsIn K mainGlobals "_law_crew" = some (some (.ref f__law_crew)))
    (l__law_crew : K.lookup f__law_crew = some ⟨oc__law_crew, od__law_crew, .func (PySem.W.fnOf "_law_crew" "_law_crew" (fnArgs s__law_crew) (fnBody s__law_crew) (fnScope s__law_crew) .none kV__law_crew dc__law_crew pm__law_crew an__law_crew cd__law_crew ct__law_crew), sl__law_crew⟩)
    (c__law_crew : PySem.W.codeIn K cd__law_crew "_law_crew" = true)
    (k__law_crew : PySem.W.keepIn K (.ref f__law_crew) = true)
    (a__law_entries : PySem.W.nsIn K mainGlobals "_law_entries" = some (some (.ref f__law_entries)))
    (l__law_entries : K.lookup f__law_entries = some ⟨oc__law_entries, od__law_entries, .func (PySem.W.fnOf "_law_entries" "_law_entries" (fnArgs s__law_entries) (fnBody s__law_entries) (fnScope s__law_entries) .none kV__law_entries dc__law_entries pm__law_entries an__law_entries cd__law_entries ct__law_entries), sl__law_entries⟩)
    (c__law_entries : PySem.W.codeIn K cd__law_entries "_law_entries" = true)
    (k__law_entries : PySem.W.keepIn K (.ref f__law_entries) = true)
    (a__law_made : PySem.W.nsIn K mainGlobals "_law_made" = some (some (.ref f__law_made)))
    (l__law_made : K.lookup f__law_made = some ⟨oc__law_made, od__law_made, .func (PySem.W.fnOf "_law_made" "_law_made" (fnArgs s__law_made) (fnBody s__law_made) (fnScope s__law_made) .none kV__law_made dc__law_made pm__law_made an__law_made cd__law_made ct__law_made), sl__law_made⟩)
    (c__law_made : PySem.W.codeIn K cd__law_made "_law_made" = true)
    (k__law_made : PySem.W.keepIn K (.ref f__law_made) = true)
    (a__law_right : PySem.W.nsIn K mainGlobals "_law_right" = some (some (.ref f__law_right)))
    (l__law_right : K.lookup f__law_right = some ⟨oc__law_right, od__law_right, .func (PySem.W.fnOf "_law_right" "_law_right" (fnArgs s__law_right) (fnBody s__law_right) (fnScope s__law_right) .none kV__law_right dc__law_right pm__law_right an__law_right cd__law_right ct__law_right), sl__law_right⟩)
    (c__law_right : PySem.W.codeIn K cd__law_right "_law_right" = true)
    (k__law_right : PySem.W.keepIn K (.ref f__law_right) = true)
    (a_law : PySem.W.nsIn K mainGlobals "law" = some (some (.ref f_law)))
    (l_law : K.lookup f_law = some ⟨oc_law, od_law, .func (PySem.W.fnOf "law" "law" (fnArgs s_law) (fnBody s_law) (fnScope s_law) .none kV_law dc_law pm_law an_law cd_law ct_law), sl_law⟩)
    (c_law : PySem.W.codeIn K cd_law "law" = true)
    (k_law : PySem.W.keepIn K (.ref f_law) = true)
    (gL : PySem.W.nsIn K mainGlobals "Log" = some (some (.ref cL)))
    (gX : PySem.W.nsIn K mainGlobals "LosingLog" = some (some (.ref cX)))
    (mLI : PySem.W.findIn K (.ref cL) "__init__" = some (some (.ref fMI)))
    (mXI : PySem.W.findIn K (.ref cX) "__init__" = some (some (.ref fMI)))
    (miI : PySem.W.isFn K (.ref fMI) = true)
    (lMI : K.lookup fMI = some ⟨ocMI, odMI, .func (PySem.W.fnOf "__init__" "Log.__init__" (fnArgs s_Log___init__) (fnBody s_Log___init__) (fnScope s_Log___init__) .none kVMI dcMI pmMI anMI cdMI ctMI), slMI⟩)
    (cMI : PySem.W.codeIn K cdMI "Log.__init__" = true)
    (pZL : PySem.W.findIn K (.ref cL) "size" = some (some (.ref pZ)))
    (pZX : PySem.W.findIn K (.ref cX) "size" = some (some (.ref pZ)))
    (pgZ : PySem.W.specialIn K (.ref pZ) "__get__" = some (some (.builtin "property.__get__")))
    (ptZ : PySem.W.takesIn K (.ref pZ) = some true)
    (prZ : PySem.W.recIn K pZ "property" = some (.ref fMZ :: rsZ))
    (lMZ : K.lookup fMZ = some ⟨ocMZ, odMZ, .func (PySem.W.fnOf "size" "Log.size" (fnArgs s_Log_size) (fnBody s_Log_size) (fnScope s_Log_size) .none kVMZ dcMZ pmMZ anMZ cdMZ ctMZ), slMZ⟩)
    (cMZ : PySem.W.codeIn K cdMZ "Log.size" = true)
    (pVL : PySem.W.findIn K (.ref cL) "servers" = some (some (.ref pV)))
    (pVX : PySem.W.findIn K (.ref cX) "servers" = some (some (.ref pV)))
    (pgV : PySem.W.specialIn K (.ref pV) "__get__" = some (some (.builtin "property.__get__")))
    (ptV : PySem.W.takesIn K (.ref pV) = some true)
    (prV : PySem.W.recIn K pV "property" = some (.ref fMV :: rsV))
    (lMV : K.lookup fMV = some ⟨ocMV, odMV, .func (PySem.W.fnOf "servers" "Log.servers" (fnArgs s_Log_servers) (fnBody s_Log_servers) (fnScope s_Log_servers) .none kVMV dcMV pmMV anMV cdMV ctMV), slMV⟩)
    (cMV : PySem.W.codeIn K cdMV "Log.servers" = true)
    (pEL : PySem.W.findIn K (.ref cL) "entries" = some (some (.ref pE)))
    (pEX : PySem.W.findIn K (.ref cX) "entries" = some (some (.ref pE)))
    (pgE : PySem.W.specialIn K (.ref pE) "__get__" = some (some (.builtin "property.__get__")))
    (ptE : PySem.W.takesIn K (.ref pE) = some true)
    (prE : PySem.W.recIn K pE "property" = some (.ref fME :: rsE))
    (lME : K.lookup fME = some ⟨ocME, odME, .func (PySem.W.fnOf "entries" "Log.entries" (fnArgs s_Log_entries) (fnBody s_Log_entries) (fnScope s_Log_entries) .none kVME dcME pmME anME cdME ctME), slME⟩)
    (cME : PySem.W.codeIn K cdME "Log.entries" = true)
    (mLN : PySem.W.findIn K (.ref cL) "__len__" = some (some (.ref fMN)))
    (mXN : PySem.W.findIn K (.ref cX) "__len__" = some (some (.ref fMN)))
    (miN : PySem.W.isFn K (.ref fMN) = true)
    (lMN : K.lookup fMN = some ⟨ocMN, odMN, .func (PySem.W.fnOf "__len__" "Log.__len__" (fnArgs s_Log___len__) (fnBody s_Log___len__) (fnScope s_Log___len__) .none kVMN dcMN pmMN anMN cdMN ctMN), slMN⟩)
    (cMN : PySem.W.codeIn K cdMN "Log.__len__" = true)
    (mLQ : PySem.W.findIn K (.ref cL) "__eq__" = some (some (.ref fMQ)))
    (mXQ : PySem.W.findIn K (.ref cX) "__eq__" = some (some (.ref fMQ)))
    (miQ : PySem.W.isFn K (.ref fMQ) = true)
    (lMQ : K.lookup fMQ = some ⟨ocMQ, odMQ, .func (PySem.W.fnOf "__eq__" "Log.__eq__" (fnArgs s_Log___eq__) (fnBody s_Log___eq__) (fnScope s_Log___eq__) .none kVMQ dcMQ pmMQ anMQ cdMQ ctMQ), slMQ⟩)
    (cMQ : PySem.W.codeIn K cdMQ "Log.__eq__" = true)
    (mLH : PySem.W.findIn K (.ref cL) "__contains__" = some (some (.ref fMH)))
    (mXH : PySem.W.findIn K (.ref cX) "__contains__" = some (some (.ref fMH)))
    (miH : PySem.W.isFn K (.ref fMH) = true)
    (lMH : K.lookup fMH = some ⟨ocMH, odMH, .func (PySem.W.fnOf "__contains__" "Log.__contains__" (fnArgs s_Log___contains__) (fnBody s_Log___contains__) (fnScope s_Log___contains__) .none kVMH dcMH pmMH anMH cdMH ctMH), slMH⟩)
    (cMH : PySem.W.codeIn K cdMH "Log.__contains__" = true)
    (mLB : PySem.W.findIn K (.ref cL) "last_block" = some (some (.ref fMB)))
    (mXB : PySem.W.findIn K (.ref cX) "last_block" = some (some (.ref fMB)))
    (miB : PySem.W.isFn K (.ref fMB) = true)
    (lMB : K.lookup fMB = some ⟨ocMB, odMB, .func (PySem.W.fnOf "last_block" "Log.last_block" (fnArgs s_Log_last_block) (fnBody s_Log_last_block) (fnScope s_Log_last_block) .none kVMB dcMB pmMB anMB cdMB ctMB), slMB⟩)
    (cMB : PySem.W.codeIn K cdMB "Log.last_block" = true)
    (kB : PySem.W.keepIn K (.ref fMB) = true)
    (pgtL : PySem.W.plainGet K cL Str.empty = true)
    (pgtX : PySem.W.plainGet K cX Str.empty = true)
    (hdL : PySem.W.hasDictIn K cL = true)
    (hdX : PySem.W.hasDictIn K cX = true)
    (poL : PySem.W.plainOver K cL = true)
    (poX : PySem.W.plainOver K cX = true)
    (saL : PySem.W.findIn K (.ref cL) "__setattr__" = some (some (.builtin "object.__setattr__")))
    (saX : PySem.W.findIn K (.ref cX) "__setattr__" = some (some (.builtin "object.__setattr__")))
    (mkL : PySem.W.makesIn K cL = true)
    (mkX : PySem.W.makesIn K cX = true)
    (kcL : PySem.W.keepIn K (.ref cL) = true)
    (kcX : PySem.W.keepIn K (.ref cX) = true)
    (nheld_sizeL : PySem.W.findIn K (.ref cL) "held_size" = some none)
    (nheld_sizeX : PySem.W.findIn K (.ref cX) "held_size" = some none)
    (nheld_serversL : PySem.W.findIn K (.ref cL) "held_servers" = some none)
    (nheld_serversX : PySem.W.findIn K (.ref cX) "held_servers" = some none)
    (nheld_entriesL : PySem.W.findIn K (.ref cL) "held_entries" = some none)
    (nheld_entriesX : PySem.W.findIn K (.ref cX) "held_entries" = some none)
    (kdL : PySem.W.findIn K (.ref cL) "KIND" = some (some (.str "steady" ts0)))
    (kdX : PySem.W.findIn K (.ref cX) "KIND" = some (some (.str "losing" ts1)))
    (kgL : PySem.W.specialIn K (.str "steady" ts0) "__get__" = some none)
    (kgX : PySem.W.specialIn K (.str "losing" ts1) "__get__" = some none)
    (ccL : PySem.W.findIn K (.ref cL) "__class__" = some (some (.builtin "object.__class__")))
    (ccX : PySem.W.findIn K (.ref cX) "__class__" = some (some (.builtin "object.__class__")))
    (moL : PySem.W.mroIn K cL (.type "object") = some true)
    (moX : PySem.W.mroIn K cX (.type "object") = some true)
    (og : PySem.W.specialIn K (.builtin "object.__class__") "__get__" = some (some (.builtin "getset_descriptor.__get__")))
    (ot : PySem.W.takesIn K (.builtin "object.__class__") = some true)
    (stL : PySem.W.subIn K (.ref cL) (.type "tuple") = some false)
    (stX : PySem.W.subIn K (.ref cX) (.type "tuple") = some false)
    (icL : PySem.W.isClsIn K cL = true)
    (icX : PySem.W.isClsIn K cX = true)
    (tyL : PySem.W.typeIn K (.ref cL) = some (.type "type"))
    (tyX : PySem.W.typeIn K (.ref cX) = some (.type "type"))
    (sXL : PySem.W.subIn K (.ref cX) (.ref cL) = some true)
    (sLX : PySem.W.subIn K (.ref cL) (.ref cX) = some false)
    (neXL : ((Value.ref cX == Value.ref cL) : Bool) = false)
    (neLX : ((Value.ref cL == Value.ref cX) : Bool) = false)
    (rdL : PySem.W.readsIn K cL (.type "type") = true)
    (rdX : PySem.W.readsIn K cX (.type "type") = true)
    (gaL : PySem.W.specialIn K (.ref cL) "__getattribute__" = some (some (.builtin "type.__getattribute__")))
    (gaX : PySem.W.specialIn K (.ref cX) "__getattribute__" = some (some (.builtin "type.__getattribute__")))
    (fcL : PySem.W.findCls K (.ref cL) (.type "type") "KIND" = some (.val (.str "steady" ts2)))
    (fcX : PySem.W.findCls K (.ref cX) (.type "type") "KIND" = some (.val (.str "losing" ts3)))
    (g_GREATEST_SIZE : PySem.W.nsIn K mainGlobals "GREATEST_SIZE" = some (some (.int (10 ^ 30) tk0)))
    (g_MOST_SERVERS : PySem.W.nsIn K mainGlobals "MOST_SERVERS" = some (some (.int 12 tk1)))
    (g_MOST_LETTERS : PySem.W.nsIn K mainGlobals "MOST_LETTERS" = some (some (.int 8 tk2)))
    (g_MOST_ENTRIES : PySem.W.nsIn K mainGlobals "MOST_ENTRIES" = some (some (.int 200 tk3)))
    (g_LETTERS : PySem.W.nsIn K mainGlobals "LETTERS" = some (some (.str LETT ts4)))
    (g_LOSING : PySem.W.nsIn K mainGlobals "LOSING" = some (some (.str "losing" ts5)))
    (b_len : PySem.W.nsIn K mainGlobals "len" = some none)
    (b_isinstance : PySem.W.nsIn K mainGlobals "isinstance" = some none)
    (b_int : PySem.W.nsIn K mainGlobals "int" = some none)
    (b_bool : PySem.W.nsIn K mainGlobals "bool" = some none)
    (b_str : PySem.W.nsIn K mainGlobals "str" = some none)
    (b_list : PySem.W.nsIn K mainGlobals "list" = some none)
    (b_tuple : PySem.W.nsIn K mainGlobals "tuple" = some none)
    (b_all : PySem.W.nsIn K mainGlobals "all" = some none)
    (b_set : PySem.W.nsIn K mainGlobals "set" = some none)
    (b_max : PySem.W.nsIn K mainGlobals "max" = some none)
    (b_min : PySem.W.nsIn K mainGlobals "min" = some none)
    (b_abs : PySem.W.nsIn K mainGlobals "abs" = some none)
    (b_range : PySem.W.nsIn K mainGlobals "range" = some none)
    (b_repr : PySem.W.nsIn K mainGlobals "repr" = some none)
    : ∃ fd : FuncData, (∀ (s : Shared) (v : Value), BindsTo s fd ⟨[v], []⟩ [("script", v)]) ∧ ∀ base : Heap, K.In base → base.Ns mainGlobals mg → FnG P w K mg base 8 fa fd ["script"] (spLaw K) := by
  have e := hfa.symm.trans (PySem.W.mg_of X G a_law)
  obtain rfl : f_law = fa := by cases e; rfl
  have F_is_integer : C8.Fun K "is_integer" "is_integer" s_is_integer f_is_integer _ := ⟨_, _, _, _, _, _, _, _, _, _, rfl, l_is_integer, c_is_integer⟩
  have D_is_integer : Dx K mg "is_integer" s_is_integer ["thing"] := ⟨_, _, ⟨F_is_integer, PySem.W.mg_of X G a_is_integer, k_is_integer⟩, F_is_integer.binds rfl fun _ _ _ _ _ _ us hl => match us, hl with | [_], _ => rfl⟩
  have F_is_size : C8.Fun K "is_size" "is_size" s_is_size f_is_size _ := ⟨_, _, _, _, _, _, _, _, _, _, rfl, l_is_size, c_is_size⟩
  have D_is_size : Dx K mg "is_size" s_is_size ["thing"] := ⟨_, _, ⟨F_is_size, PySem.W.mg_of X G a_is_size, k_is_size⟩, F_is_size.binds rfl fun _ _ _ _ _ _ us hl => match us, hl with | [_], _ => rfl⟩
  have F_is_name : C8.Fun K "is_name" "is_name" s_is_name f_is_name _ := ⟨_, _, _, _, _, _, _, _, _, _, rfl, l_is_name, c_is_name⟩
  have D_is_name : Dx K mg "is_name" s_is_name ["thing"] := ⟨_, _, ⟨F_is_name, PySem.W.mg_of X G a_is_name, k_is_name⟩, F_is_name.binds rfl fun _ _ _ _ _ _ us hl => match us, hl with | [_], _ => rfl⟩
  have F_are_servers : C8.Fun K "are_servers" "are_servers" s_are_servers f_are_servers _ := ⟨_, _, _, _, _, _, _, _, _, _, rfl, l_are_servers, c_are_servers⟩
  have D_are_servers : Dx K mg "are_servers" s_are_servers ["thing"] := ⟨_, _, ⟨F_are_servers, PySem.W.mg_of X G a_are_servers, k_are_servers⟩, F_are_servers.binds rfl fun _ _ _ _ _ _ us hl => match us, hl with | [_], _ => rfl⟩
  have F_is_server : C8.Fun K "is_server" "is_server" s_is_server f_is_server _ := ⟨_, _, _, _, _, _, _, _, _, _, rfl, l_is_server, c_is_server⟩
  have D_is_server : Dx K mg "is_server" s_is_server ["servers", "thing"] := ⟨_, _, ⟨F_is_server, PySem.W.mg_of X G a_is_server, k_is_server⟩, F_is_server.binds rfl fun _ _ _ _ _ _ us hl => match us, hl with | [_, _], _ => rfl⟩
  have F_is_entry : C8.Fun K "is_entry" "is_entry" s_is_entry f_is_entry _ := ⟨_, _, _, _, _, _, _, _, _, _, rfl, l_is_entry, c_is_entry⟩
  have D_is_entry : Dx K mg "is_entry" s_is_entry ["servers", "thing"] := ⟨_, _, ⟨F_is_entry, PySem.W.mg_of X G a_is_entry, k_is_entry⟩, F_is_entry.binds rfl fun _ _ _ _ _ _ us hl => match us, hl with | [_, _], _ => rfl⟩
  have F_are_entries : C8.Fun K "are_entries" "are_entries" s_are_entries f_are_entries _ := ⟨_, _, _, _, _, _, _, _, _, _, rfl, l_are_entries, c_are_entries⟩
  have D_are_entries : Dx K mg "are_entries" s_are_entries ["servers", "thing"] := ⟨_, _, ⟨F_are_entries, PySem.W.mg_of X G a_are_entries, k_are_entries⟩, F_are_entries.binds rfl fun _ _ _ _ _ _ us hl => match us, hl with | [_, _], _ => rfl⟩
  have F__law_feed : C8.Fun K "_law_feed" "_law_feed" s__law_feed f__law_feed _ := ⟨_, _, _, _, _, _, _, _, _, _, rfl, l__law_feed, c__law_feed⟩
  have D__law_feed : Dx K mg "_law_feed" s__law_feed ["script", "k"] := ⟨_, _, ⟨F__law_feed, PySem.W.mg_of X G a__law_feed, k__law_feed⟩, F__law_feed.binds rfl fun _ _ _ _ _ _ us hl => match us, hl with | [_, _], _ => rfl⟩
  have F__law_pick : C8.Fun K "_law_pick" "_law_pick" s__law_pick f__law_pick _ := ⟨_, _, _, _, _, _, _, _, _, _, rfl, l__law_pick, c__law_pick⟩
  have D__law_pick : Dx K mg "_law_pick" s__law_pick ["feed", "many"] := ⟨_, _, ⟨F__law_pick, PySem.W.mg_of X G a__law_pick, k__law_pick⟩, F__law_pick.binds rfl fun _ _ _ _ _ _ us hl => match us, hl with | [_, _], _ => rfl⟩
  have F__law_crew : C8.Fun K "_law_crew" "_law_crew" s__law_crew f__law_crew _ := ⟨_, _, _, _, _, _, _, _, _, _, rfl, l__law_crew, c__law_crew⟩
  have D__law_crew : Dx K mg "_law_crew" s__law_crew ["feed", "most"] := ⟨_, _, ⟨F__law_crew, PySem.W.mg_of X G a__law_crew, k__law_crew⟩, F__law_crew.binds rfl fun _ _ _ _ _ _ us hl => match us, hl with | [_, _], _ => rfl⟩
  have F__law_entries : C8.Fun K "_law_entries" "_law_entries" s__law_entries f__law_entries _ := ⟨_, _, _, _, _, _, _, _, _, _, rfl, l__law_entries, c__law_entries⟩
  have D__law_entries : Dx K mg "_law_entries" s__law_entries ["feed", "crew", "most", "limit"] := ⟨_, _, ⟨F__law_entries, PySem.W.mg_of X G a__law_entries, k__law_entries⟩, F__law_entries.binds rfl fun _ _ _ _ _ _ us hl => match us, hl with | [_, _, _, _], _ => rfl⟩
  have F__law_made : C8.Fun K "_law_made" "_law_made" s__law_made f__law_made _ := ⟨_, _, _, _, _, _, _, _, _, _, rfl, l__law_made, c__law_made⟩
  have D__law_made : Dx K mg "_law_made" s__law_made ["kind", "unit", "crew", "shown"] := ⟨_, _, ⟨F__law_made, PySem.W.mg_of X G a__law_made, k__law_made⟩, F__law_made.binds rfl fun _ _ _ _ _ _ us hl => match us, hl with | [_, _, _, _], _ => rfl⟩
  have F__law_right : C8.Fun K "_law_right" "_law_right" s__law_right f__law_right _ := ⟨_, _, _, _, _, _, _, _, _, _, rfl, l__law_right, c__law_right⟩
  have D__law_right : Dx K mg "_law_right" s__law_right ["feed", "kind", "unit", "crew", "shown"] := ⟨_, _, ⟨F__law_right, PySem.W.mg_of X G a__law_right, k__law_right⟩, F__law_right.binds rfl fun _ _ _ _ _ _ us hl => match us, hl with | [_, _, _, _, _], _ => rfl⟩
  have F_law : C8.Fun K "law" "law" s_law _ _ := ⟨_, _, _, _, _, _, _, _, _, _, rfl, l_law, c_law⟩
  have FI : C8.Fun K "__init__" "Log.__init__" s_Log___init__ fMI _ := ⟨_, _, _, _, _, _, _, _, _, _, rfl, lMI, cMI⟩
  have MI : Mx K "__init__" "Log.__init__" s_Log___init__ ["self", "size", "servers", "entries"] fMI _ := ⟨FI, FI.binds rfl fun _ _ _ _ _ _ us hl => match us, hl with | [_, _, _, _], _ => rfl⟩
  have FZ : C8.Fun K "size" "Log.size" s_Log_size fMZ _ := ⟨_, _, _, _, _, _, _, _, _, _, rfl, lMZ, cMZ⟩
  have MZ : Mx K "size" "Log.size" s_Log_size ["self"] fMZ _ := ⟨FZ, FZ.binds rfl fun _ _ _ _ _ _ us hl => match us, hl with | [_], _ => rfl⟩
  have FV : C8.Fun K "servers" "Log.servers" s_Log_servers fMV _ := ⟨_, _, _, _, _, _, _, _, _, _, rfl, lMV, cMV⟩
  have MV : Mx K "servers" "Log.servers" s_Log_servers ["self"] fMV _ := ⟨FV, FV.binds rfl fun _ _ _ _ _ _ us hl => match us, hl with | [_], _ => rfl⟩
  have FE : C8.Fun K "entries" "Log.entries" s_Log_entries fME _ := ⟨_, _, _, _, _, _, _, _, _, _, rfl, lME, cME⟩
  have ME : Mx K "entries" "Log.entries" s_Log_entries ["self"] fME _ := ⟨FE, FE.binds rfl fun _ _ _ _ _ _ us hl => match us, hl with | [_], _ => rfl⟩
  have FN : C8.Fun K "__len__" "Log.__len__" s_Log___len__ fMN _ := ⟨_, _, _, _, _, _, _, _, _, _, rfl, lMN, cMN⟩
  have MN : Mx K "__len__" "Log.__len__" s_Log___len__ ["self"] fMN _ := ⟨FN, FN.binds rfl fun _ _ _ _ _ _ us hl => match us, hl with | [_], _ => rfl⟩
  have FQ : C8.Fun K "__eq__" "Log.__eq__" s_Log___eq__ fMQ _ := ⟨_, _, _, _, _, _, _, _, _, _, rfl, lMQ, cMQ⟩
  have MQ : Mx K "__eq__" "Log.__eq__" s_Log___eq__ ["self", "other"] fMQ _ := ⟨FQ, FQ.binds rfl fun _ _ _ _ _ _ us hl => match us, hl with | [_, _], _ => rfl⟩
  have FH : C8.Fun K "__contains__" "Log.__contains__" s_Log___contains__ fMH _ := ⟨_, _, _, _, _, _, _, _, _, _, rfl, lMH, cMH⟩
  have MH : Mx K "__contains__" "Log.__contains__" s_Log___contains__ ["self", "thing"] fMH _ := ⟨FH, FH.binds rfl fun _ _ _ _ _ _ us hl => match us, hl with | [_, _], _ => rfl⟩
  have FB : C8.Fun K "last_block" "Log.last_block" s_Log_last_block fMB _ := ⟨_, _, _, _, _, _, _, _, _, _, rfl, lMB, cMB⟩
  have MB : Mx K "last_block" "Log.last_block" s_Log_last_block ["self"] fMB _ := ⟨FB, FB.binds rfl fun _ _ _ _ _ _ us hl => match us, hl with | [_], _ => rfl⟩
  have CL : LogC K cL "steady" := ⟨⟨pgtL, hdL, poL, saL⟩, nheld_sizeL, nheld_serversL, nheld_entriesL, ⟨_, kdL, ⟨_, rfl⟩, kgL, by decide +kernel⟩, fun H p dx fs hp => .base (.ins hp ⟨pgtL, hdL, poL, saL⟩ ccL og ot moL), kit_tyR stL (by decide +kernel)⟩
  have CX : LogC K cX "losing" := ⟨⟨pgtX, hdX, poX, saX⟩, nheld_sizeX, nheld_serversX, nheld_entriesX, ⟨_, kdX, ⟨_, rfl⟩, kgX, by decide +kernel⟩, fun H p dx fs hp => .base (.ins hp ⟨pgtX, hdX, poX, saX⟩ ccX og ot moX), kit_tyR stX (by decide +kernel)⟩
  have kLL : PySem.W.kitOne K (.ref cL) (.ref cL) = some true := kit_same
  have kXX : PySem.W.kitOne K (.ref cX) (.ref cX) = some true := kit_same
  have kXL : PySem.W.kitOne K (.ref cX) (.ref cL) = some true := kit_ref icL tyL sXL neXL
  have kLX : PySem.W.kitOne K (.ref cL) (.ref cX) = some false := kit_ref icX tyX sLX neLX
  have T : Tx K mg cL cX := {
    n_len := PySem.W.mg_none_of X G b_len
    n_isinstance := PySem.W.mg_none_of X G b_isinstance
    n_int := PySem.W.mg_none_of X G b_int
    n_bool := PySem.W.mg_none_of X G b_bool
    n_str := PySem.W.mg_none_of X G b_str
    n_list := PySem.W.mg_none_of X G b_list
    n_tuple := PySem.W.mg_none_of X G b_tuple
    n_all := PySem.W.mg_none_of X G b_all
    n_set := PySem.W.mg_none_of X G b_set
    n_max := PySem.W.mg_none_of X G b_max
    n_min := PySem.W.mg_none_of X G b_min
    n_abs := PySem.W.mg_none_of X G b_abs
    n_range := PySem.W.mg_none_of X G b_range
    n_repr := PySem.W.mg_none_of X G b_repr
    g_GREATEST_SIZE := ⟨_, PySem.W.mg_of X G g_GREATEST_SIZE, ⟨_, rfl⟩⟩
    g_MOST_SERVERS := ⟨_, PySem.W.mg_of X G g_MOST_SERVERS, ⟨_, rfl⟩⟩
    g_MOST_LETTERS := ⟨_, PySem.W.mg_of X G g_MOST_LETTERS, ⟨_, rfl⟩⟩
    g_MOST_ENTRIES := ⟨_, PySem.W.mg_of X G g_MOST_ENTRIES, ⟨_, rfl⟩⟩
    g_LETTERS := ⟨_, PySem.W.mg_of X G g_LETTERS, ⟨_, rfl⟩⟩
    g_LOSING := ⟨_, PySem.W.mg_of X G g_LOSING, ⟨_, rfl⟩⟩
    g_Log := ⟨_, PySem.W.mg_of X G gL, rfl⟩
    g_LosingLog := ⟨_, PySem.W.mg_of X G gX, rfl⟩
    cl1 := CL
    cl2 := CX
    ll := kLL
    xl := kXL
    lx := kLX
    xx := kXX }
  have Ms' : Ms K ⟨fMI, fMZ, fMV, fME, fMN, fMQ, fMH, fMB, (PySem.W.fnOf "__init__" "Log.__init__" (fnArgs s_Log___init__) (fnBody s_Log___init__) (fnScope s_Log___init__) .none kVMI dcMI pmMI anMI cdMI ctMI), (PySem.W.fnOf "size" "Log.size" (fnArgs s_Log_size) (fnBody s_Log_size) (fnScope s_Log_size) .none kVMZ dcMZ pmMZ anMZ cdMZ ctMZ), (PySem.W.fnOf "servers" "Log.servers" (fnArgs s_Log_servers) (fnBody s_Log_servers) (fnScope s_Log_servers) .none kVMV dcMV pmMV anMV cdMV ctMV), (PySem.W.fnOf "entries" "Log.entries" (fnArgs s_Log_entries) (fnBody s_Log_entries) (fnScope s_Log_entries) .none kVME dcME pmME anME cdME ctME), (PySem.W.fnOf "__len__" "Log.__len__" (fnArgs s_Log___len__) (fnBody s_Log___len__) (fnScope s_Log___len__) .none kVMN dcMN pmMN anMN cdMN ctMN), (PySem.W.fnOf "__eq__" "Log.__eq__" (fnArgs s_Log___eq__) (fnBody s_Log___eq__) (fnScope s_Log___eq__) .none kVMQ dcMQ pmMQ anMQ cdMQ ctMQ), (PySem.W.fnOf "__contains__" "Log.__contains__" (fnArgs s_Log___contains__) (fnBody s_Log___contains__) (fnScope s_Log___contains__) .none kVMH dcMH pmMH anMH cdMH ctMH), (PySem.W.fnOf "last_block" "Log.last_block" (fnArgs s_Log_last_block) (fnBody s_Log_last_block) (fnScope s_Log_last_block) .none kVMB dcMB pmMB anMB cdMB ctMB)⟩ := ⟨MI, MZ, MV, ME, MN, MQ, MH, MB, rfl⟩
  have ML' : LogM K cL cX cL "steady" ⟨fMI, fMZ, fMV, fME, fMN, fMQ, fMH, fMB, (PySem.W.fnOf "__init__" "Log.__init__" (fnArgs s_Log___init__) (fnBody s_Log___init__) (fnScope s_Log___init__) .none kVMI dcMI pmMI anMI cdMI ctMI), (PySem.W.fnOf "size" "Log.size" (fnArgs s_Log_size) (fnBody s_Log_size) (fnScope s_Log_size) .none kVMZ dcMZ pmMZ anMZ cdMZ ctMZ), (PySem.W.fnOf "servers" "Log.servers" (fnArgs s_Log_servers) (fnBody s_Log_servers) (fnScope s_Log_servers) .none kVMV dcMV pmMV anMV cdMV ctMV), (PySem.W.fnOf "entries" "Log.entries" (fnArgs s_Log_entries) (fnBody s_Log_entries) (fnScope s_Log_entries) .none kVME dcME pmME anME cdME ctME), (PySem.W.fnOf "__len__" "Log.__len__" (fnArgs s_Log___len__) (fnBody s_Log___len__) (fnScope s_Log___len__) .none kVMN dcMN pmMN anMN cdMN ctMN), (PySem.W.fnOf "__eq__" "Log.__eq__" (fnArgs s_Log___eq__) (fnBody s_Log___eq__) (fnScope s_Log___eq__) .none kVMQ dcMQ pmMQ anMQ cdMQ ctMQ), (PySem.W.fnOf "__contains__" "Log.__contains__" (fnArgs s_Log___contains__) (fnBody s_Log___contains__) (fnScope s_Log___contains__) .none kVMH dcMH pmMH anMH cdMH ctMH), (PySem.W.fnOf "last_block" "Log.last_block" (fnArgs s_Log_last_block) (fnBody s_Log_last_block) (fnScope s_Log_last_block) .none kVMB dcMB pmMB anMB cdMB ctMB)⟩ := { CL with
    mkk := ⟨mkL, mLI, miI, kcL⟩
    pZ := ⟨_, pZL, pgZ, ptZ, _, prZ⟩
    pV := ⟨_, pVL, pgV, ptV, _, prV⟩
    pE := ⟨_, pEL, pgE, ptE, _, prE⟩
    mB := ⟨mLB, miB, kB⟩
    sN := mLN
    iN := miN
    sQ := mLQ
    iQ := miQ
    sH := mLH
    iH := miH
    kl := kLL
    kx := by rw [kLX]; rfl }
  have MX' : LogM K cL cX cX "losing" ⟨fMI, fMZ, fMV, fME, fMN, fMQ, fMH, fMB, (PySem.W.fnOf "__init__" "Log.__init__" (fnArgs s_Log___init__) (fnBody s_Log___init__) (fnScope s_Log___init__) .none kVMI dcMI pmMI anMI cdMI ctMI), (PySem.W.fnOf "size" "Log.size" (fnArgs s_Log_size) (fnBody s_Log_size) (fnScope s_Log_size) .none kVMZ dcMZ pmMZ anMZ cdMZ ctMZ), (PySem.W.fnOf "servers" "Log.servers" (fnArgs s_Log_servers) (fnBody s_Log_servers) (fnScope s_Log_servers) .none kVMV dcMV pmMV anMV cdMV ctMV), (PySem.W.fnOf "entries" "Log.entries" (fnArgs s_Log_entries) (fnBody s_Log_entries) (fnScope s_Log_entries) .none kVME dcME pmME anME cdME ctME), (PySem.W.fnOf "__len__" "Log.__len__" (fnArgs s_Log___len__) (fnBody s_Log___len__) (fnScope s_Log___len__) .none kVMN dcMN pmMN anMN cdMN ctMN), (PySem.W.fnOf "__eq__" "Log.__eq__" (fnArgs s_Log___eq__) (fnBody s_Log___eq__) (fnScope s_Log___eq__) .none kVMQ dcMQ pmMQ anMQ cdMQ ctMQ), (PySem.W.fnOf "__contains__" "Log.__contains__" (fnArgs s_Log___contains__) (fnBody s_Log___contains__) (fnScope s_Log___contains__) .none kVMH dcMH pmMH anMH cdMH ctMH), (PySem.W.fnOf "last_block" "Log.last_block" (fnArgs s_Log_last_block) (fnBody s_Log_last_block) (fnScope s_Log_last_block) .none kVMB dcMB pmMB anMB cdMB ctMB)⟩ := { CX with
    mkk := ⟨mkX, mXI, miI, kcX⟩
    pZ := ⟨_, pZX, pgZ, ptZ, _, prZ⟩
    pV := ⟨_, pVX, pgV, ptV, _, prV⟩
    pE := ⟨_, pEX, pgE, ptE, _, prE⟩
    mB := ⟨mXB, miB, kB⟩
    sN := mXN
    iN := miN
    sQ := mXQ
    iQ := miQ
    sH := mXH
    iH := miH
    kl := kXL
    kx := by rw [kXX]; rfl }
  have S : Tops K mg cL cX _ := ⟨T, ML', MX', Ms', PySem.W.mg_of X G gL, PySem.W.mg_of X G gX, D_is_integer, D_is_size, D_is_name, D_are_servers, D_is_server, D_is_entry, D_are_entries, D__law_feed, D__law_pick, D__law_crew, D__law_entries, D__law_made, D__law_right, ⟨_, _, ⟨rdL, gaL⟩, ⟨fcL, ⟨_, rfl⟩⟩⟩, ⟨_, _, ⟨rdX, gaX⟩, ⟨fcX, ⟨_, rfl⟩⟩⟩⟩
  exact ⟨_, fun s v => .of_eq rfl, fun base _ _ => ok_law S F_law⟩

end NB

open PySem PySem.W PyProof.Rows
set_option Elab.async false
set_option maxRecDepth 100000
set_option maxHeartbeats 0
open_top hd for PySem.Challenge.rw_numberbooks_k01_logs_kept

set_option Elab.async false
set_option maxRecDepth 100000
set_option maxHeartbeats 0
open PySem PySem.W PyProof.Rows
theorem PySem.Challenge.cw_numberbooks_k01_logs_kept_holds : PySem.Challenge.rw_numberbooks_k01_logs_kept.Holds := by
  refine hd ?_
  k_fill
  refine NB.walk_g (l := PySem.Challenge.rw_numberbooks_k01_logs_kept) (n := 63) (k := 8) (x := "script") (sp := NB.spLaw) rfl (by decide) rfl ⟨rfl, by decide, by decide⟩ (fun w h Y => PySem.W.kIn_of Y) ?F (fun K H a ns hl _ hS => ⟨a, ns, rfl, hS, hl, fun _ => rfl⟩)
  case F =>
    intro w mg fa h KX G hmg
    refine' NB.all_mk KX G hmg ?a_is_integer ?l_is_integer ?c_is_integer ?k_is_integer ?a_is_size ?l_is_size ?c_is_size ?k_is_size ?a_is_name ?l_is_name ?c_is_name ?k_is_name ?a_are_servers ?l_are_servers ?c_are_servers ?k_are_servers ?a_is_server ?l_is_server ?c_is_server ?k_is_server ?a_is_entry ?l_is_entry ?c_is_entry ?k_is_entry ?a_are_entries ?l_are_entries ?c_are_entries ?k_are_entries ?a__law_feed ?l__law_feed ?c__law_feed ?k__law_feed ?a__law_pick ?l__law_pick ?c__law_pick ?k__law_pick ?a__law_crew ?l__law_crew ?c__law_crew ?k__law_crew ?a__law_entries ?l__law_entries ?c__law_entries ?k__law_entries ?a__law_made ?l__law_made ?c__law_made ?k__law_made ?a__law_right ?l__law_right ?c__law_right ?k__law_right ?a_law ?l_law ?c_law ?k_law ?gL ?gX ?mLI ?mXI ?miI ?lMI ?cMI ?pZL ?pZX ?pgZ ?ptZ ?prZ ?lMZ ?cMZ ?pVL ?pVX ?pgV ?ptV ?prV ?lMV ?cMV ?pEL ?pEX ?pgE ?ptE ?prE ?lME ?cME ?mLN ?mXN ?miN ?lMN ?cMN ?mLQ ?mXQ ?miQ ?lMQ ?cMQ ?mLH ?mXH ?miH ?lMH ?cMH ?mLB ?mXB ?miB ?lMB ?cMB ?kB ?pgtL ?pgtX ?hdL ?hdX ?poL ?poX ?saL ?saX ?mkL ?mkX ?kcL ?kcX ?nheld_sizeL ?nheld_sizeX ?nheld_serversL ?nheld_serversX ?nheld_entriesL ?nheld_entriesX ?kdL ?kdX ?kgL ?kgX ?ccL ?ccX ?moL ?moX ?og ?ot ?stL ?stX ?icL ?icX ?tyL ?tyX ?sXL ?sLX ?neXL ?neLX ?rdL ?rdX ?gaL ?gaX ?fcL ?fcX ?g_GREATEST_SIZE ?g_MOST_SERVERS ?g_MOST_LETTERS ?g_MOST_ENTRIES ?g_LETTERS ?g_LOSING ?b_len ?b_isinstance ?b_int ?b_bool ?b_str ?b_list ?b_tuple ?b_all ?b_set ?b_max ?b_min ?b_abs ?b_range ?b_repr
    (case a_is_integer => first | k_is | rfl)
    (case l_is_integer => first | k_is | rfl)
    (case c_is_integer => first | k_is | rfl)
    (case k_is_integer => first | k_is | rfl)
    (case a_is_size => first | k_is | rfl)
    (case l_is_size => first | k_is | rfl)
    (case c_is_size => first | k_is | rfl)
    (case k_is_size => first | k_is | rfl)
    (case a_is_name => first | k_is | rfl)
    (case l_is_name => first | k_is | rfl)
    (case c_is_name => first | k_is | rfl)
    (case k_is_name => first | k_is | rfl)
    (case a_are_servers => first | k_is | rfl)
    (case l_are_servers => first | k_is | rfl)
    (case c_are_servers => first | k_is | rfl)
    (case k_are_servers => first | k_is | rfl)
    (case a_is_server => first | k_is | rfl)
    (case l_is_server => first | k_is | rfl)
    (case c_is_server => first | k_is | rfl)
    (case k_is_server => first | k_is | rfl)
    (case a_is_entry => first | k_is | rfl)
    (case l_is_entry => first | k_is | rfl)
    (case c_is_entry => first | k_is | rfl)
    (case k_is_entry => first | k_is | rfl)
    (case a_are_entries => first | k_is | rfl)
    (case l_are_entries => first | k_is | rfl)
    (case c_are_entries => first | k_is | rfl)
    (case k_are_entries => first | k_is | rfl)
    (case a__law_feed => first | k_is | rfl)
    (case l__law_feed => first | k_is | rfl)
    (case c__law_feed => first | k_is | rfl)
    (case k__law_feed => first | k_is | rfl)
    (case a__law_pick => first | k_is | rfl)
    (case l__law_pick => first | k_is | rfl)
    (case c__law_pick => first | k_is | rfl)
    (case k__law_pick => first | k_is | rfl)
    (case a__law_crew => first | k_is | rfl)
    (case l__law_crew => first | k_is | rfl)
    (case c__law_crew => first | k_is | rfl)
    (case k__law_crew => first | k_is | rfl)
    (case a__law_entries => first | k_is | rfl)
    (case l__law_entries => first | k_is | rfl)
    (case c__law_entries => first | k_is | rfl)
    (case k__law_entries => first | k_is | rfl)
    (case a__law_made => first | k_is | rfl)
    (case l__law_made => first | k_is | rfl)
    (case c__law_made => first | k_is | rfl)
    (case k__law_made => first | k_is | rfl)
    (case a__law_right => first | k_is | rfl)
    (case l__law_right => first | k_is | rfl)
    (case c__law_right => first | k_is | rfl)
    (case k__law_right => first | k_is | rfl)
    (case a_law => first | k_is | rfl)
    (case l_law => first | k_is | rfl)
    (case c_law => first | k_is | rfl)
    (case k_law => first | k_is | rfl)
    (case gL => first | k_is | rfl)
    (case gX => first | k_is | rfl)
    (case mLI => first | k_is | rfl)
    (case mXI => first | k_is | rfl)
    (case miI => first | k_is | rfl)
    (case lMI => first | k_is | rfl)
    (case cMI => first | k_is | rfl)
    (case pZL => first | k_is | rfl)
    (case pZX => first | k_is | rfl)
    (case pgZ => first | k_is | rfl)
    (case ptZ => first | k_is | rfl)
    (case prZ => first | k_is | rfl)
    (case lMZ => first | k_is | rfl)
    (case cMZ => first | k_is | rfl)
    (case pVL => first | k_is | rfl)
    (case pVX => first | k_is | rfl)
    (case pgV => first | k_is | rfl)
    (case ptV => first | k_is | rfl)
    (case prV => first | k_is | rfl)
    (case lMV => first | k_is | rfl)
    (case cMV => first | k_is | rfl)
    (case pEL => first | k_is | rfl)
    (case pEX => first | k_is | rfl)
    (case pgE => first | k_is | rfl)
    (case ptE => first | k_is | rfl)
    (case prE => first | k_is | rfl)
    (case lME => first | k_is | rfl)
    (case cME => first | k_is | rfl)
    (case mLN => first | k_is | rfl)
    (case mXN => first | k_is | rfl)
    (case miN => first | k_is | rfl)
    (case lMN => first | k_is | rfl)
    (case cMN => first | k_is | rfl)
    (case mLQ => first | k_is | rfl)
    (case mXQ => first | k_is | rfl)
    (case miQ => first | k_is | rfl)
    (case lMQ => first | k_is | rfl)
    (case cMQ => first | k_is | rfl)
    (case mLH => first | k_is | rfl)
    (case mXH => first | k_is | rfl)
    (case miH => first | k_is | rfl)
    (case lMH => first | k_is | rfl)
    (case cMH => first | k_is | rfl)
    (case mLB => first | k_is | rfl)
    (case mXB => first | k_is | rfl)
    (case miB => first | k_is | rfl)
    (case lMB => first | k_is | rfl)
    (case cMB => first | k_is | rfl)
    (case kB => first | k_is | rfl)
    (case pgtL => first | k_is | rfl)
    (case pgtX => first | k_is | rfl)
    (case hdL => first | k_is | rfl)
    (case hdX => first | k_is | rfl)
    (case poL => first | k_is | rfl)
    (case poX => first | k_is | rfl)
    (case saL => first | k_is | rfl)
    (case saX => first | k_is | rfl)
    (case mkL => first | k_is | rfl)
    (case mkX => first | k_is | rfl)
    (case kcL => first | k_is | rfl)
    (case kcX => first | k_is | rfl)
    (case nheld_sizeL => first | k_is | rfl)
    (case nheld_sizeX => first | k_is | rfl)
    (case nheld_serversL => first | k_is | rfl)
    (case nheld_serversX => first | k_is | rfl)
    (case nheld_entriesL => first | k_is | rfl)
    (case nheld_entriesX => first | k_is | rfl)
    (case kdL => first | k_is | rfl)
    (case kdX => first | k_is | rfl)
    (case kgL => first | k_is | rfl)
    (case kgX => first | k_is | rfl)
    (case ccL => first | k_is | rfl)
    (case ccX => first | k_is | rfl)
    (case moL => first | k_is | rfl)
    (case moX => first | k_is | rfl)
    (case og => first | k_is | rfl)
    (case ot => first | k_is | rfl)
    (case stL => first | k_is | rfl)
    (case stX => first | k_is | rfl)
    (case icL => first | k_is | rfl)
    (case icX => first | k_is | rfl)
    (case tyL => first | k_is | rfl)
    (case tyX => first | k_is | rfl)
    (case sXL => first | k_is | rfl)
    (case sLX => first | k_is | rfl)
    (case neXL => first | k_is | rfl)
    (case neLX => first | k_is | rfl)
    (case rdL => first | k_is | rfl)
    (case rdX => first | k_is | rfl)
    (case gaL => first | k_is | rfl)
    (case gaX => first | k_is | rfl)
    (case fcL => first | k_is | rfl)
    (case fcX => first | k_is | rfl)
    (case g_GREATEST_SIZE => first | k_is | rfl)
    (case g_MOST_SERVERS => first | k_is | rfl)
    (case g_MOST_LETTERS => first | k_is | rfl)
    (case g_MOST_ENTRIES => first | k_is | rfl)
    (case g_LETTERS => first | k_is | rfl)
    (case g_LOSING => first | k_is | rfl)
    (case b_len => first | k_is | rfl)
    (case b_isinstance => first | k_is | rfl)
    (case b_int => first | k_is | rfl)
    (case b_bool => first | k_is | rfl)
    (case b_str => first | k_is | rfl)
    (case b_list => first | k_is | rfl)
    (case b_tuple => first | k_is | rfl)
    (case b_all => first | k_is | rfl)
    (case b_set => first | k_is | rfl)
    (case b_max => first | k_is | rfl)
    (case b_min => first | k_is | rfl)
    (case b_abs => first | k_is | rfl)
    (case b_range => first | k_is | rfl)
    (case b_repr => first | k_is | rfl)

