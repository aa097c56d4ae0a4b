import PyProof.Rows.All
import Wide.All
import OpenK.AllK
import Wide.FinOn
import PySem.Challenge.RW_numberbooks_k05_windows
import HandS.Base
import HandS.Call
import HandS.List
import HandS.Comp
import HandS.Codes
import HandS.OwnEq
import HandS.Ends
import HandS.Words
import PyProof.NoPylong
import PyProof.Fits
import HandS.ForMost
import HandS.IsInst
import HandS.Property
import HandS.MakeKwOnly
import HandS.WideBits
import HandS.Deep
import HandS.Wide
import PyProof.ReprRoads
import PyProof.ReprReads
import OpenK.KOps
import OpenK.KMeth
import HandS.Strs
import PyProof.ReprLen
import HandS.ForExc
import HandS.SetFor
import HandS.Iter
import HandS.Defaults
import HandS.SortKw
import HandS.SortInts
import HandS.TupAny
import HandS.DictComp
import HandS.Dict
import HandS.Small
open PySem PySem.W PyProof.Rows
set_option Elab.async false
set_option maxRecDepth 100000
set_option maxHeartbeats 0
open_top hd for PySem.Challenge.rw_numberbooks_k05_windows

set_option Elab.async false
set_option linter.all false
set_option maxRecDepth 100000
/-! B1: rules whose readings compute: ints, tests, names -/
namespace NB
open PySem PySem.Spec PyProof.Rows L2

/-- two whole numbers, under C -/
@[reducible] def mI (C : Int → Int → Prop) (g : Int → Int → V) : R2 := fun x y H Q =>
  match x, y with
  | .int i, .int j => C i j ∧ Q (g i j) H
  | _, _ => False
@[reducible] def mI0 (g : Int → Int → V) : R2 := fun x y H Q =>
  match x, y with
  | .int i, .int j => Q (g i j) H
  | _, _ => False
@[reducible] def mU (g : Int → V) : V → Hp → VK → Prop := fun x H Q =>
  match x with
  | .int i => Q (g i) H
  | _ => False
section
variable {X : Cx}
theorem m_of {f : Value → Value → Sem Value} {C : Int → Int → Prop} {g : Int → Int → V} (h : OpR X f (rI C g)) : OpR X f (mI C g) := by
  intro pins s σ H x y v u Q I rx ry q
  cases x <;> cases y <;> first | exact False.elim q | exact h pins s σ H _ _ v u Q I rx ry ⟨_, _, rfl, rfl, q⟩
theorem m_of0 {f : Value → Value → Sem Value} {g : Int → Int → V} (h : OpR X f (rI0 g)) : OpR X f (mI0 g) := by
  intro pins s σ H x y v u Q I rx ry q
  cases x <;> cases y <;> first | exact False.elim q | exact h pins s σ H _ _ v u Q I rx ry ⟨_, _, rfl, rfl, q⟩
theorem m_ofU {f : Value → Sem Value} {g : Int → V} (h : UnR X f (rU g)) : UnR X f (mU g) := by
  intro pins s σ H x v Q I rx q
  cases x <;> first | exact False.elim q | exact h pins s σ H _ v Q I rx ⟨_, rfl, q⟩
/-- a divisor that is positive and has less than 9000 bits -/
def CDv (_ j : Int) : Prop := 0 < j ∧ j.natAbs.log2 < 9000
theorem o_fdiv : OpR X (binaryOp .FloorDiv) (rI CDv fun i j => .int (i / j)) := opI fun i j _ _ _ _ _ hc q => by
  have h1 : (0 : Int) < j := hc.1
  refine floordiv_int (by omega) ?_ (.inl (PyProof.noPylong_of_log2 hc.2))
  rw [Int.fdiv_eq_ediv_of_nonneg i (by omega)]
  exact q
theorem o_mul : OpR X (binaryOp .Mult) (rI IntMulOk fun i j => .int (i * j)) := opI fun _ _ _ _ _ _ _ hc q => mul_int q hc
theorem m_add : OpR X (binaryOp .Add) (mI0 fun i j => .int (i + j)) := m_of0 op_add
theorem m_sub : OpR X (binaryOp .Sub) (mI0 fun i j => .int (i - j)) := m_of0 op_sub
theorem m_mul : OpR X (binaryOp .Mult) (mI IntMulOk fun i j => .int (i * j)) := m_of o_mul
theorem m_div : OpR X (binaryOp .FloorDiv) (mI CDv fun i j => .int (i / j)) := m_of o_fdiv
theorem m_mod : OpR X (binaryOp .Mod) (mI (fun _ j => 0 < j) fun i j => .int (i % j)) := m_of op_mod
theorem m_pow : OpR X (binaryOp .Pow) (mI CPow fun i j => .int (i ^ j.toNat)) := m_of op_pow
theorem m_lt : OpR X (compareOp .Lt) (mI0 fun i j => .bl (decide (i < j))) := m_of0 op_lt
theorem m_le : OpR X (compareOp .LtE) (mI0 fun i j => .bl (decide (i ≤ j))) := m_of0 op_le
theorem m_gt : OpR X (compareOp .Gt) (mI0 fun i j => .bl (decide (j < i))) := m_of0 op_gt
theorem m_ge : OpR X (compareOp .GtE) (mI0 fun i j => .bl (decide (j ≤ i))) := m_of0 op_ge
theorem m_neg : UnR X (unaryOp .USub) (mU fun i => .int (-i)) := m_ofU un_neg
/-- == and != of numbers, texts, bools -/
@[reducible] def mEqG (f : Bool → Bool) : R2 := fun x y H Q =>
  match x, y with
  | .int i, .int j => Q (.bl (f (decide (i = j)))) H
  | .str i, .str j => Q (.bl (f (decide (i = j)))) H
  | .bl i, .bl j => Q (.bl (f (decide (i = j)))) H
  | _, _ => False
theorem dec_i {i j : Int} : decide (V.int i = V.int j) = decide (i = j) := by
  by_cases h : i = j
  · rw [h, decide_eq_true rfl, decide_eq_true rfl]
  · rw [decide_eq_false h, decide_eq_false (fun e => h (V.int.inj e))]
theorem dec_s {i j : Str} : decide (V.str i = V.str j) = decide (i = j) := by
  by_cases h : i = j
  · rw [h, decide_eq_true rfl, decide_eq_true rfl]
  · rw [decide_eq_false h, decide_eq_false (fun e => h (V.str.inj e))]
theorem dec_b {i j : Bool} : decide (V.bl i = V.bl j) = decide (i = j) := by
  cases i <;> cases j <;> rfl
theorem m_eq : OpR X (compareOp .Eq) (mEqG fun b => b) := by
  intro pins s σ H x y v u Q I rx ry q
  cases x <;> cases y <;> first | exact False.elim q | exact op_eq pins s σ H _ _ v u Q I rx ry ⟨rfl, by first | (rw [dec_i]; exact q) | (rw [dec_s]; exact q) | (rw [dec_b]; exact q)⟩
theorem m_ne : OpR X (compareOp .NotEq) (mEqG fun b => !b) := by
  intro pins s σ H x y v u Q I rx ry q
  cases x <;> cases y <;> first | exact False.elim q | exact op_ne pins s σ H _ _ v u Q I rx ry ⟨rfl, by first | (rw [dec_i]; exact q) | (rw [dec_s]; exact q) | (rw [dec_b]; exact q)⟩
end

/-- a value that is a bool, as a test -/
@[reducible] def kB (Q : Bool → Hp → Prop) : VK := fun x H => match x with
  | .bl c => Q c H
  | _ => False
@[reducible] def mT (t : TE) : TT := fun σ H Q => t σ H (kB Q)
section
variable {X : Cx} {a b c : Expr} {ta tb tc : TE} {pos : Pos}
theorem kB_ok {Q : Bool → Hp → Prop} {x : V} {H : Hp} (h : kB Q x H) : ∃ k, x = .bl k ∧ Q k H := by
  cases x <;> first | exact False.elim h | exact ⟨_, rfl, h⟩
/-- a comparison as a test -/
theorem qt {op : CmpOp} {r : R2} (ho : OpR X (compareOp op) r) (ha : PE X a ta) (hb : PE X b tb) (hm : behindInMarks op b = false) : PT X (.Compare a [op] [b] pos) (mT (tOp r ta tb)) := by
  refine ⟨fun pins s σ H Q I h => ?_⟩
  refine wpAny_isTrue_Compare1 (thn (ha.run pins s σ H _ I h) fun v s1 ⟨x, H1, I1, r1, q1⟩ => thn (hb.run pins s1 σ H1 _ I1 q1) fun u s2 ⟨y, H2, I2, r2, q2⟩ =>
    thn (ho pins s2 σ H2 x y v u _ I2 r1 r2 q2) fun d s3 ⟨z, H3, I3, r3, q3⟩ => ?_) hm
  obtain ⟨k, e, q4⟩ := kB_ok q3
  subst e
  cases r3
  exact wpAny_truthy_bool ⟨H3, I3, q4⟩
/-- an expression that gives a bool, as a test -/
theorem qv {e : Expr} {t : TE} (h : PE X e t) (he : ∀ whole, isTrue e X.env whole = (do let v ← whole; standAt e.pos; holding [v] (truthy v)) := by intro _; rfl) : PT X e (mT t) := by
  refine ⟨fun pins s σ H Q I hw => ?_⟩
  refine isTrue_plain (thn (h.run pins s σ H _ I hw) fun v s1 ⟨x, H1, I1, r1, q1⟩ => ?_) (he _)
  obtain ⟨k, e, q4⟩ := kB_ok q1
  subst e
  cases r1
  exact wpAny_truthy_bool ⟨H1, I1, q4⟩
end

/-- the value in slot i -/
@[reducible] def mV (i : Nat) : TE := fun σ H Q => match σ[i]? with
  | some (some v) => Q v H
  | _ => False
section
variable {X : Cx}
theorem mv (i : Nat) {x : Str} {pos : Pos} (hN : X.N[i]? = some x := by rfl) (hv : Vis X.env.scope x := by first | exact Or.inl rfl | exact Or.inr (Or.inl rfl) | exact Or.inr (Or.inr rfl)) (hd : (x == ("__debug__" : Str)) = false := by decide)
    (hcd : (x == ("__classdict__" : Str)) = false := by decide) : PE X (.Name x pos) (mV i) := by
  refine ⟨fun pins s σ H Q I h => (pe_var (pos := pos) hN hv hd hcd).run pins s σ H Q I ?_⟩
  unfold mV at h
  split at h
  · rename_i v e
    exact ⟨v, e, h⟩
  · exact h.elim
end

/-! ### tests -/
theorem ifD {p A B : Prop} [Decidable p] (h1 : p → A) (h2 : ¬ p → B) : if decide p = true then A else B := by
  by_cases h : p
  · rw [decide_eq_true h, if_pos rfl]; exact h1 h
  · rw [decide_eq_false h, if_neg Bool.false_ne_true]; exact h2 h
theorem ifND {p A B : Prop} [Decidable p] (h1 : ¬ p → A) (h2 : p → B) : if (!decide p) = true then A else B := by
  by_cases h : p
  · rw [decide_eq_true h]; exact (if_neg Bool.false_ne_true).mpr (h2 h)
  · rw [decide_eq_false h]; exact (if_pos rfl).mpr (h1 h)
theorem ifT {b : Bool} {A B : Prop} (hb : b = true) (h : A) : if b = true then A else B := by rw [if_pos hb]; exact h
theorem ifF {b : Bool} {A B : Prop} (hb : b = false) (h : B) : if b = true then A else B := by rw [hb, if_neg Bool.false_ne_true]; exact h

/-! ### heaps -/
/-- all that stood in H, but for what is in M, stands in H' -/
def Frm (M : List Addr) (H H' : Hp) : Prop := ∀ a o, H a = some o → a ∉ M → H' a = some o
theorem Frm.ext {M : List Addr} {H H' : Hp} (e : Ext H H') : Frm M H H' := fun a o h _ => e a o h
theorem Frm.trans {M : List Addr} {H H1 H2 : Hp} (a : Frm M H H1) (b : Frm M H1 H2) : Frm M H H2 := fun c o h n => b c o (a c o h n) n
theorem Frm.refl {M : List Addr} {H : Hp} : Frm M H H := fun _ _ h _ => h
theorem Frm.upd {M : List Addr} {H H1 : Hp} {p : Addr} {o : HO} (a : Frm M H H1) (h : p ∈ M) : Frm M H (L2.upd H1 p o) := fun c u e n => by
  rw [upd_ne (fun z => n (by rw [z]; exact h))]; exact a c u e n
theorem Frm.new {M : List Addr} {H H1 : Hp} {p : Addr} {o : HO} (a : Frm M H H1) (h : H1 p = none) : Frm M H (L2.upd H1 p o) := fun c u e n => by
  have e1 := a c u e n
  rw [upd_ne (ne_of_none e1 h)]; exact e1
theorem Frm.to_ext {H H' : Hp} (f : Frm [] H H') : Ext H H' := fun a o h => f a o h (by simp)
end NB

set_option Elab.async false
set_option linter.all false
set_option maxRecDepth 100000
/-! B2: items, own special methods, repr of data -/
namespace NB
open PySem PySem.Spec PyProof.Rows L2

/-- an item of a list or a tuple -/
@[reducible] def mIx (K : PySem.W.Frag) : R2 := fun x y H Q =>
  match x, y with
  | .ref p, .int i => ∃ xs v, (SqL K H p xs ∨ SqT K H p xs) ∧ atI xs i = some v ∧ Q v H
  | _, _ => False
section
variable {X : Cx}
theorem m_ix : IxR X (mIx X.K) := by
  have both : IxR X (fun x y H Q => rIxL X.K x y H Q ∨ rIxT X.K x y H Q) := ix_list.or ix_tup
  have imp : ∀ x y H Q, mIx X.K x y H Q → rIxL X.K x y H Q ∨ rIxT X.K x y H Q := by
    intro x y H Q q
    cases x <;> cases y <;> first | exact False.elim q | skip
    obtain ⟨xs, z, h | h, ha, q⟩ := q
    · exact .inl ⟨_, _, _, _, rfl, rfl, h, ha, q⟩
    · exact .inr ⟨_, _, _, _, rfl, rfl, h, ha, q⟩
  unfold IxR at both ⊢
  intros
  apply both <;> first | assumption | (apply imp; assumption)

variable {CX : CXT} {k : Nat} {C f : Addr} {fd : FuncData} {ps : List Str} {sp : Sp} {E : XK}
/-- x in o, o an own instance -/
theorem own_in (F : FnOk X.prog X.w X.K X.mg X.base CX k f fd ps sp) (hs : PySem.W.findIn X.K (.ref C) "__contains__" = some (some (.ref f))) (hf : PySem.W.isFn X.K (.ref f) = true) (hb : Binds X.K fd ps []) (hr : Room k X.A) (hx : Passes CX X E) :
    OpR X (compareOp .In) (fun x y H Q => ∃ a dx fs, y = .ref a ∧ H a = some (.ins C dx fs) ∧ sp [.ref a, x] H (kB fun b H' => Q (.bl b) H') E) := by
  intro pins s σ H x y v u Q I rx ry q
  obtain ⟨a, dx, fs, rfl, ha, q⟩ := q
  cases ry
  obtain ⟨mA, O, _⟩ := ins_get I.hok ha
  obtain ⟨od, J, _⟩ := O.look
  obtain ⟨m, hF⟩ := I.fr
  refine PySem.W.in_K hF I.ok.mod.kin J hs hf ?_
  refine thn (run_fn F hr hb .nil hx I (vs := [.ref a, _]) (.cons rfl (.cons rx .nil)) q) fun r s' z => ?_
  obtain ⟨z, H', I', rz, kz⟩ := z
  obtain ⟨b, e, q2⟩ := kB_ok kz
  subst e
  cases rz
  exact wpAny_truthy_bool ⟨.bl b, H', I', rfl, q2⟩
/-- len(o), o an own instance -/
theorem own_len (F : FnOk X.prog X.w X.K X.mg X.base CX k f fd ps sp) (hs : PySem.W.findIn X.K (.ref C) "__len__" = some (some (.ref f))) (hf : PySem.W.isFn X.K (.ref f) = true) (hb : Binds X.K fd ps []) (hr : Room (k + 1) X.A) (hx : Passes CX X E) :
    CallR X (.builtin "len") (fun xs H Q => ∃ a dx fs, xs = [.ref a] ∧ H a = some (.ins C dx fs) ∧ sp [.ref a] H (fun v H' => ∃ n : Nat, v = .int n ∧ n ≤ sizeLine ∧ Q (.int n) H') E) := by
  intro pins s σ H xs us Q I rx q
  obtain ⟨a, dx, fs, rfl, ha, q⟩ := q
  obtain ⟨u, rfl, ru⟩ := vals1 rx
  cases ru
  obtain ⟨mA, O, _⟩ := ins_get I.hok ha
  obtain ⟨od, J, _⟩ := O.look
  obtain ⟨m, hF⟩ := I.fr
  refine PySem.W.len_K hF I.ok.mod.kin J hs hf ?_
  have hl : ([Value.ref a] : List Value).length = ps.length := by rw [← F.len _ _ _ _ q]; rfl
  refine wpAny_call (codeAny_mono (F.run X.A.in1 X.stack s H ⟨[.ref a], []⟩ [.ref a] [.ref a] _ E hr.in1 I.env0.in1 (by have := hb s [.ref a] I.kIn (by simpa using hl); simpa using this) (.cons rfl .nil) q) fun r s' hq => ?_)
  cases r with
  | error er => exact hx pins σ H s er s' I hq
  | ok fl =>
    cases fl with
    | ret w =>
      obtain ⟨v, H', I3, rv, n, ev, hn, q3⟩ := I.after hq
      subst ev
      obtain ⟨t, rfl⟩ := rv
      have l63 := line63
      refine ⟨⟨by omega, by have : (n : Int) ≤ sizeLine := by exact_mod_cast hn
                            omega⟩, .int n, H', I3.tok _, ⟨_, rfl⟩, q3⟩
    | next => exact False.elim hq
    | brk => exact False.elim hq
    | cont => exact False.elim hq
/-- o == p, two own instances of one class (or p of a class that is not below o's) -/
theorem own_eq (hu : X.A.units < cLine) (F : FnOk X.prog X.w X.K X.mg X.base CX k f fd ps sp) (hs : PySem.W.findIn X.K (.ref C) "__eq__" = some (some (.ref f))) (hf : PySem.W.isFn X.K (.ref f) = true) (hb : Binds X.K fd ps []) (hr : Room k X.A) (hx : Passes CX X E) :
    OpR X (compareOp .Eq) (fun x y H Q => ∃ a b dx dy fs gs, x = .ref a ∧ y = .ref b ∧ H a = some (.ins C dx fs) ∧ H b = some (.ins C dy gs) ∧ sp [.ref a, .ref b] H (kB fun b H' => Q (.bl b) H') E) := by
  intro pins s σ H x y v u Q I rx ry q
  obtain ⟨a, b, dx, dy, fs, gs, rfl, rfl, ha, hb', q⟩ := q
  cases rx
  cases ry
  obtain ⟨mA, O, _⟩ := ins_get I.hok ha
  obtain ⟨mB, O', _⟩ := ins_get I.hok hb'
  obtain ⟨od, J, _⟩ := O.look
  obtain ⟨od', J', _⟩ := O'.look
  obtain ⟨m, hF⟩ := I.fr
  show wpAny (model X.prog X.w) X.A (richCompare .Eq _ _) (EP X pins σ Q) X.xe s
  refine PySem.W.cmp_K (op := .Eq) (tb := .ref C) hu hF I.ok.mod.kin J J'.type (by simp [PySem.W.notFirst]) hs hf ?_
  refine thn (run_fn F hr hb .nil hx I (vs := [.ref a, .ref b]) (.cons rfl (.cons rfl .nil)) q) fun r s' z => ?_
  obtain ⟨z, H', I', rz, kz⟩ := z
  obtain ⟨b, e, q2⟩ := kB_ok kz
  subst e
  cases rz
  exact ⟨.bl b, H', I', rfl, q2⟩

/-- repr of data -/
def mRep (K : PySem.W.Frag) : List V → Hp → VK → Prop := fun xs H Q => ∃ v d, xs = [v] ∧ Dp K H v d ∧ isDisplay d = true ∧ d.showable = true ∧ d.hasDict = false ∧ d.depth ≤ 60 ∧ d.shown.length ≤ sizeLine ∧ Q (.str d.shown) H
end
end NB

set_option Elab.async false
set_option linter.all false
set_option maxRecDepth 100000
/-! B3: promises of defs that run where nothing is being shown (repr) -/
namespace NB
open PySem PySem.Spec PyProof.Rows L2

section
variable {P : Program} {w : World} {K : PySem.W.Frag} {mg : Str → Option Value} {base : Heap}
/-- as FnOk, no display under way -/
structure FnG (P : Program) (w : World) (K : PySem.W.Frag) (mg : Str → Option Value) (base : Heap) (k : Nat) (f : Addr) (fd : FuncData) (ps : List Str) (sp : Sp) : Prop where
  len : ∀ vs H Q E, sp vs H Q E → vs.length = ps.length
  run : ∀ (A : Around) (o : List Env) (s : Shared) (H : Hp) (ar : Args) (us : List Value) (vs : List V) (Q : VK) (E : XK), Room k A → A.guards = some [] →
    Env0 P w K mg base A o s H → BindsTo s fd ar (ps.zip us) → Vals vs us → sp vs H Q E → codeAny (model P w) A (.call (.ref f) ar) (CR C8.CX0 o P w H s Q E) s
theorem gd_deeper {A : Around} {env : Env} (h : A.guards = some []) : (A.deeper env).guards = some [] := by
  unfold Around.deeper
  first | exact h | simp [h]
theorem fnG_of {x qual : Str} {st : Stmt} {f : Addr} {fd : FuncData} {N ps : List Str} {k : Nat} {sp : Sp} (F : C8.Fun K x qual st f fd) (S : FnScope N ps (C8.fnScope st)) (len : ∀ vs H Q E, sp vs H Q E → vs.length = ps.length)
    (hb : ∀ (cdv : Value) (A : Around) (o : List Env) (s : Shared) (H : Hp) (vs : List V) (Q : VK) (E : XK), Room k (A.deeper (envOfC qual (C8.fnScope st) s.heap.objs.size f cdv)) → A.guards = some [] → sp vs H Q E →
      ∃ t, PSs (cxOf C8.CX0 P w K mg base N qual (C8.fnScope st) f cdv A o s H E).nox (C8.fnBody st) t ∧ t { nx := fun _ H' => Q .non H', rt := Q } (start N vs) H) : FnG P w K mg base (k + 1) f fd ps sp := by
  obtain ⟨oc, od, dV, kV, doc, pm, an, cdv, ct, osl, rfl, lk, hcd⟩ := F.ex
  refine ⟨len, ?_⟩
  intro A o s H ar us vs Q E hr hgd e0 hbi r hsp
  have KX : K.In s.heap := e0.mod.kin.keeps fun b o e => (e0.bs b o e).1
  obtain ⟨t, ht, hq⟩ := hb cdv A o s H vs Q E (hr.deeper _) hgd hsp
  refine codeAny_call_function hr.depth (KX _ _ lk) rfl S.co S.gen rfl (PySem.W.codeRec_of KX hcd) (hbi _ _ _ _ (wpAny_newFunctionEnv_cells S.kind (fun y hy => ?_) fun env he s1 z => ?_))
  · obtain ⟨n, v⟩ := y
    exact (S.par n (List.of_mem_zip hy).1).elim .inl fun q => .inr ⟨q, PySem.W.cellsFrom_some _ _ _ (.inl q)⟩
  · subst he
    refine ⟨(e0.mod.nolimit.keeps fun b o e => (e0.bs b o e).1).keeps z.toInCall.keep, codeAny_func (wpAny_mono (ht.nox.run [] s1 (start N vs) H _ (inv_start S hr.hd e0 (len _ _ _ _ hsp) r z) hq) (fun fl s2 hs => ?_) fun _ _ q => q)⟩
    cases fl with
    | ret u =>
      obtain ⟨v, σ2, H2, J, rv, q⟩ := hs
      exact ⟨v, H2, J.os, J.bare, J.base, J.hok, rv, q⟩
    | next =>
      obtain ⟨σ2, H2, J, q⟩ := hs
      exact ⟨V.non, H2, J.os, J.bare, J.base, J.hok, rfl, q⟩
    | brk =>
      obtain ⟨_, _, _, q⟩ := hs
      exact q.elim
    | cont =>
      obtain ⟨_, _, _, q⟩ := hs
      exact q.elim
/-- one that may be called by its name -/
structure CalG (P : Program) (w : World) (K : PySem.W.Frag) (mg : Str → Option Value) (base : Heap) (k : Nat) (x : Str) (sp : Sp) : Prop where
  ex : ∃ (f : Addr) (fd : FuncData) (ps : List Str), FnG P w K mg base k f fd ps sp ∧ mg x = some (.ref f) ∧ PySem.W.keepIn K (.ref f) = true ∧ Binds K fd ps []
end
section
variable {X : Cx} {k j : Nat} {x : Str} {sp : Sp} {p pos : Pos} {e : Expr} {es : List Expr} {t : TA}
theorem run_g {f : Addr} {fd : FuncData} {ps : List Str} {pins : List (Addr × Obj)} {σ : L2.St} {H : Hp} {s : Shared} {Q : VK} {us : List Value} {vs : List V} (F : FnG X.prog X.w X.K X.mg X.base k f fd ps sp) (hr : Room k X.A) (hgd : X.A.guards = some [])
    (hb : Binds X.K fd ps []) (I : Inv X pins σ H s) (r : Vals vs us) (h : sp vs H Q C8.E0) : wpAny (model X.prog X.w) X.A (call (.ref f) us) (EP X pins σ Q) X.xe s := by
  have hl : us.length = ps.length := by rw [← r.length]; exact F.len _ _ _ _ h
  have b := hb s us I.kIn (by simpa using hl)
  rw [List.append_nil] at b
  refine wpAny_call (codeAny_mono (F.run X.A X.stack s H ⟨us, []⟩ us vs Q C8.E0 hr hgd I.env0 b r h) fun y s2 z => ?_)
  cases y with
  | error e => exact z.elim
  | ok fl => cases fl <;> first | exact I.after z | exact False.elim z
theorem pe_g (c : CalG X.prog X.w X.K X.mg X.base k x sp) (hr : Room j X.A) (hk : k ≤ j) (hgd : X.A.guards = some []) (hg : Gl X x) (ha : PA X (e :: es) t)
    (hdb : (x == ("__debug__" : Str)) = false := by decide) (he : starEach (e :: es) X.env = (false, eval e X.env) :: starEach es X.env := by rfl) (hpl : (backTo pos (starEach es X.env)).any (·.1) = false := by rfl) :
    PE X (.Call (.Name x p) (e :: es) [] pos) (tCall sp [] C8.E0 t) := by
  obtain ⟨f, fd, ps, F, hm, kp, b⟩ := c.ex
  refine ⟨fun pins s σ H Q I h => wpAny_Call_Name_kw (ld_glob I hg hm (PySem.W.callWith_K (h₀ := X.base) I.ok.mod.kin kp (thn (ha.run pos pins s σ H _ I h) fun us s1 z => ?_) he hpl) hdb)⟩
  obtain ⟨vs, H1, I1, r, q⟩ := z
  rw [List.append_nil] at q
  exact ⟨I1.kIn, run_g F (hr.mono hk) hgd b I1 r q⟩
/-- repr(v), v of data -/
theorem call_rep (hu : X.A.units + 64 < cLine) (hgd : X.A.guards = some []) : CallR X (.builtin "repr") (mRep X.K) := by
  intro pins s σ H xs us Q I rx q
  obtain ⟨v, d, rfl, dp, h1, h2, h3, h4, h5, q⟩ := q
  obtain ⟨u, rfl, ru⟩ := vals1 rx
  obtain ⟨as, r⟩ := Dp.reads I d v u dp ru
  obtain ⟨a, rfl⟩ := isRef_of_reads r h1
  exact repr_of_reads' r h2 (fun z => by rw [h3] at z; cases z) hgd (by omega) (fun _ _ e => e) (fun h' u' tk hk => ⟨.str d.shown, H, I.kept (t' := tk) hk, ⟨_, rfl⟩, q⟩) h5
end
end NB

set_option Elab.async false
set_option linter.all false
set_option maxRecDepth 100000
/-! B4: the end of a law whose def is promised where no display is under way -/
namespace NB
open PySem PySem.Spec PyProof.Rows L2

section
variable {P : Program} {w : World} {K : PySem.W.Frag} {mg mb : Str → Option Value} {k : Nat} {fa a : Addr} {fd : FuncData} {x : Str} {sp : Sp} {s : Shared} {vs : List Value} {ns : List Int}
/-- the call, over an abstract heap H that tracks the script at most -/
theorem law_at {H : Hp} (KX : K.In s.heap) (hns : s.heap.Ns mainGlobals mg) (hb : s.heap.Ns builtinsNs mb) (hbb : ∀ x : Str, x ≠ "__name__" → mb x = bootBuiltins x) (hlim : s.heap.NoLimit) (hg : s.gens = #[])
    (ha : s.heap.get? a = some { cls := .type "list", data := .seq vs.toArray }) (hr : Room k callerA)
    (F : ∀ base : Heap, K.In base → base.Ns mainGlobals mg → FnG P w K mg base k fa fd [x] sp) (hbind : ∀ (s : Shared) (u : Value), BindsTo s fd ⟨[u], []⟩ [(x, u)])
    (hsp : sp [.ref a] H (fun v _ => v = .bl true) C8.E0) (hO : Only H) (hok : HOk P w H s.heap) (hA : ∀ b u, H b = some u → b = a ∧ K.lookup a = none) :
    codeAny (model P w) callerA (.call (.ref fa) ⟨[.ref a], []⟩) (fun r s' => r = .ok (.ret (.bool true)) ∧ OldK s.heap s'.heap ∧ s'.os = s.os ∧ AllBare s'.gens) s := by
  have free : ∀ {b : Addr} {o : Obj} {es : Array DictEntry} {ep : Nat}, s.heap.get? b = some o → o.data = .dict es ep → H b = none := by
    intro b o es ep e d
    cases q : H b with
    | none => rfl
    | some u =>
      obtain ⟨rfl, _⟩ := hA b u q
      have eo : o = _ := Option.some.inj (e.symm.trans ha)
      rw [eo] at d
      cases d
  have nsH : ∀ {b : Addr} {m : Str → Option Value}, s.heap.Ns b m → (hidT s.heap H).Ns b m := by
    rintro b m ⟨o, es, ep, e, d, r⟩
    exact ⟨o, es, ep, hidT_get e (free e d), d, r⟩
  have kin : K.In (hidT s.heap H) := by
    intro b o e
    refine hidT_get (KX b o e) ?_
    cases q : H b with
    | none => rfl
    | some u =>
      obtain ⟨rfl, z⟩ := hA b u q
      rw [z] at e
      cases e
  obtain ⟨mc, l1, l2⟩ := hlim
  have e0 : Env0 P w K mg (hidT s.heap H) callerA [] s H :=
    ⟨rfl, ⟨kin, nsH hns, ⟨mb, nsH hb, hbb⟩, ⟨mc, nsH l1, l2⟩⟩, fun b o e => of_hidT e, Nat.le_of_eq (hidT_size _ _), trivial, fun b z => absurd (show b ∈ ([] : List Addr) from z) (by simp), hok, .of_eq hg⟩
  refine codeAny_mono ((F _ kin (nsH hns)).run callerA [] s H ⟨[.ref a], []⟩ [.ref a] [.ref a] _ _ hr rfl e0 (hbind s (.ref a)) (.cons rfl .nil) hsp) fun r s2 z => ?_
  rcases r with e | fl
  · exact z.elim
  cases fl <;> first | exact False.elim z | skip
  rename_i u
  obtain ⟨v, H2, os, bare, un, hok2, rv, q⟩ := z
  have qv : v = .bl true := q
  subst qv
  obtain rfl : u = Value.bool true := rv
  refine ⟨rfl, OldK.of_keep fun b o e => ?_, os, bare⟩
  rcases hO b with q | ⟨ob, xs, q⟩
  · exact un.keep b o e q (fun z => absurd (show b ∈ ([] : List Addr) from z) (by simp)) (by simp)
  · have h1 := (hok b _ q).1
    have h2 := (hok2 b _ (un.frzs b ob _ q)).1
    rw [Option.some.inj (e.symm.trans h1)]
    exact h2
theorem law_g (KX : K.In s.heap) (hns : s.heap.Ns mainGlobals mg) (hb : s.heap.Ns builtinsNs mb) (hbb : ∀ x : Str, x ≠ "__name__" → mb x = bootBuiltins x) (hlim : s.heap.NoLimit) (hg : s.gens = #[])
    (ha : s.heap.get? a = some { cls := .type "list", data := .seq vs.toArray }) (hi : IntsAre vs ns) (hl : ns.length ≤ sizeLine) (hr : Room k callerA)
    (F : ∀ base : Heap, K.In base → base.Ns mainGlobals mg → FnG P w K mg base k fa fd [x] sp) (hbind : ∀ (s : Shared) (u : Value), BindsTo s fd ⟨[u], []⟩ [(x, u)])
    (hsp : ∀ H : Hp, Only H → SqL K H a (ns.map V.int) → sp [.ref a] H (fun v _ => v = .bl true) C8.E0) :
    codeAny (model P w) callerA (.call (.ref fa) ⟨[.ref a], []⟩) (fun r s' => r = .ok (.ret (.bool true)) ∧ OldK s.heap s'.heap ∧ s'.os = s.os ∧ AllBare s'.gens) s := by
  have rv := vals_ints hi
  cases hk : K.lookup a with
  | some o =>
    have eo : o = _ := Option.some.inj ((KX a o hk).symm.trans ha)
    have hS : SqL K (fun _ => none) a (ns.map V.int) := .inr ⟨o, vs.toArray, _, hk, by rw [eo], by rw [eo], congrArg Obj.data eo, by rw [List.size_toArray, hi.length]; exact hl, rv⟩
    exact law_at KX hns hb hbb hlim hg ha hr F hbind (hsp _ (fun _ => .inl rfl) hS) (fun _ => .inl rfl) (fun b u z => nomatch z) (fun b u z => nomatch z)
  | none =>
    let o0 : Obj := { cls := .type "list", data := .seq vs.toArray }
    have at_ : ∀ b, L2.upd (fun _ => none) a (.frz o0 (.lst (ns.map V.int))) b = none ∨ (b = a ∧ L2.upd (fun _ => none) a (.frz o0 (.lst (ns.map V.int))) b = some (.frz o0 (.lst (ns.map V.int)))) := by
      intro b
      by_cases e : b = a
      · rw [e]; exact .inr ⟨rfl, upd_same⟩
      · exact .inl (upd_ne e)
    have hO : Only (L2.upd (fun _ => none) a (.frz o0 (.lst (ns.map V.int)))) := fun b => (at_ b).elim .inl fun z => .inr ⟨_, _, z.2⟩
    refine law_at KX hns hb hbb hlim hg ha hr F hbind (hsp _ hO (.inl (.inr ⟨o0, upd_same⟩))) hO ?_ ?_
    · intro b u z
      rcases at_ b with q | ⟨rfl, q⟩
      · rw [q] at z; cases z
      · rw [q] at z
        cases z
        exact ⟨ha, by rw [List.length_map]; exact hl, vs, _, rv, ha⟩
    · intro b u z
      rcases at_ b with q | ⟨e, q⟩
      · rw [q] at z; cases z
      · exact ⟨e, hk⟩
end
theorem walk_g {l : PySem.W.OpenLaw} {n k : Nat} {q : Program} {loose : List Str} {XP : (Str → Option Value) → Heap → Prop} {YP : World → Heap → Prop} {d : DefRec} {K : Params → PySem.W.Frag} {sp : PySem.W.Frag → Sp} {x : Str}
    (hn : l.most = some n) (hn2 : n ≤ sizeLine) (hdf : d.params.defaults = []) (hr : Room k callerA) (hY : ∀ (w : World) (h : Heap), YP w h → (K w.params).In h)
    (F : ∀ (w : World) (mg : Str → Option Value) (fa : Addr) (h : Heap), (K w.params).In h → h.Ns mainGlobals mg → mg d.name = some (.ref fa) →
      ∃ fd : FuncData, (∀ (s : Shared) (u : Value), BindsTo s fd ⟨[u], []⟩ [(x, u)]) ∧ ∀ base : Heap, (K w.params).In base → base.Ns mainGlobals mg → FnG l.prog w (K w.params) mg base k fa fd [x] (sp (K w.params)))
    (hsp : ∀ (K : PySem.W.Frag) (H : Hp) (a : Addr) (ns : List Int), ns.length ≤ n → Only H → SqL K H a (ns.map V.int) → sp K [.ref a] H (fun v _ => v = .bl true) C8.E0) :
    PySem.W.WalkO q loose XP YP l.row.toRowW d [] (fun f vs => PySem.call f vs) := by
  refine Att.attach_call hn hdf ?_
  intro w s0 s1 mg mb fa o pm cd doc a vs ns G Y ho hd hcd hmg hobj hints hlen hg
  obtain ⟨fd, hb, hF⟩ := F w mg fa _ (hY w _ Y) G.T.g hmg
  exact law_g (hY w _ Y) G.T.g G.T.b G.T.builtins G.T.nolimit hg hobj hints (Nat.le_trans hlen hn2) hr hF hb fun H hO hS => hsp _ H a ns hlen hO hS
end NB

set_option Elab.async false
set_option linter.all false
set_option maxRecDepth 100000
/-! B5: set(xs) of different texts, its length -/
namespace NB
open PySem PySem.Spec PyProof.Rows L2

theorem str_at : ∀ {us : List Value} {xs : List Str}, Vals (xs.map V.str) us → ∀ (i : Nat) (v : Value), us[i]? = some v → ∃ t, v = .str (xs.getD i Str.empty) t
  | _, [], .nil, i, v, h => by simp at h
  | _, x :: xs, .cons r q, 0, v, h => by
    obtain ⟨t, rfl⟩ := r
    simp at h
    exact ⟨t, h.symm⟩
  | _, x :: xs, .cons r q, i + 1, v, h => by
    simp only [List.getElem?_cons_succ] at h
    obtain ⟨t, e⟩ := str_at q i v h
    exact ⟨t, by rw [e]; rfl⟩
/-- membership in the first i of them -/
def inF (xs : List Str) (i : Nat) : Str → Bool := fun y => decide (y ∈ xs.take i)
theorem inF_succ {xs : List Str} {i : Nat} (h : i < xs.length) (y : Str) : (inF xs i y || decide (y = xs.getD i Str.empty)) = inF xs (i + 1) y := by
  have e : xs.getD i Str.empty = xs[i] := by simp [List.getD, h]
  rw [e]
  unfold inF
  rw [Bool.eq_iff_iff]
  simp only [Bool.or_eq_true, decide_eq_true_eq]
  rw [← List.take_append_getElem h]
  simp only [List.mem_append, List.mem_singleton]
theorem inF_new {xs : List Str} (nd : xs.Nodup) {i : Nat} (h : i < xs.length) : inF xs i (xs.getD i Str.empty) = false := by
  have e : xs.getD i Str.empty = xs[i] := by simp [List.getD, h]
  rw [e]
  refine decide_eq_false fun m => ?_
  obtain ⟨j, hj, e2⟩ := List.mem_iff_getElem.mp m
  rw [List.length_take] at hj
  rw [List.getElem_take] at e2
  have := (List.getElem_inj nd).mp e2
  omega
section
variable {prog : Program} {w : World} {A : Around} {R : Result → Shared → Prop} {I : Addr} {fp wr : List Addr} {G : Array GenState → Array GenState → Prop} {n : Nat} {Pv : Nat → Value → Prop} {St' : Nat → Shared → Prop}
theorem upd_strs (W : WalksS prog w A.in1 I fp wr G n Pv St') (S : Addr) (hSf : S ∉ fp) (xs : List Str) (hsz : xs.length = n) (nd : xs.Nodup) (hn : n + 1 < scanBound) (hval : ∀ i v, Pv i v → ∃ t, v = .str (xs.getD i Str.empty) t) :
    ∀ (k i : Nat) (s : Shared), n - i = k → i ≤ n → St' i s → s.heap.SetOf (PySem.strKind prog w) S (inF xs i) i →
      (∀ s', Moved (S :: wr) G s s' → s'.heap.SetOf (PySem.strKind prog w) S (inF xs n) n → R (.ok (.ret .none)) s') →
      codeAny (model prog w) A (.builtin "set.update.loop" ⟨[.ref S, .ref I], []⟩) R s := by
  have away : S ∉ wr := fun h => hSf (W.sub _ h)
  have more : ∀ b ∈ wr, b ∈ S :: wr := fun b hb => List.mem_cons_of_mem _ hb
  have carry : ∀ {s s' : Shared} {f : Str → Bool} {m : Nat}, Moved wr G s s' → s.heap.SetOf (PySem.strKind prog w) S f m → s'.heap.SetOf (PySem.strKind prog w) S f m := by
    rintro s s' f m mv ⟨o, es, ep, tb, ho, rest⟩
    exact ⟨o, es, ep, tb, mv.heap S _ away ho, rest⟩
  intro k
  induction k with
  | zero =>
    intro i s hk hi hst hS hR
    obtain rfl : i = n := by omega
    refine codeAny_builtin PyProof.Rows.F.entry_set_update_loop ?_
    rw [Around.under_plainId PyProof.Rows.F.plain_set_update_loop _]
    show wpAny _ A.in1 (pyNext (.ref I) >>= _) _ _ s
    exact wpAny_bind (W.done s _ _ hst fun s' mv => wpAny_pure (hR s' (mv.mono more) (carry mv hS)))
  | succ k ih =>
    intro i s hk hi hst hS hR
    have hlt : i < n := by omega
    have hlx : i < xs.length := by omega
    refine codeAny_builtin PyProof.Rows.F.entry_set_update_loop ?_
    rw [Around.under_plainId PyProof.Rows.F.plain_set_update_loop _]
    show wpAny _ A.in1 (pyNext (.ref I) >>= _) _ _ s
    refine wpAny_bind (W.item i s _ _ hlt hst fun v s' hP hst' mv => ?_)
    obtain ⟨t, rfl⟩ := hval i v hP
    show wpAny _ A.in1 (holding _ (setAdd S (.str (xs.getD i Str.empty) t)) >>= _) _ _ s'
    refine wpAny_bind (wpAny_holding ?_)
    unfold setAdd
    refine wpAny_holding (wpAny_bind ((PySem.strKind prog w).pyHash (k := xs.getD i Str.empty) (strKind_is _ _ _ _) ?_))
    refine wpAny_setAddHashed_of (knd := PySem.strKind prog w) (s := { s' with toks := s'.toks + 1 }) (strKind_is _ _ _ _) rfl (show s'.heap.SetOf _ _ _ _ from carry mv hS) (by omega) fun h' hsb hS2 => ?_
    rw [inF_new nd hlx] at hS2
    have hS3 : h'.SetOf (PySem.strKind prog w) S (inF xs (i + 1)) (i + 1) := SetOf_congr hS2 (fun y => inF_succ hlx y) (by simp)
    have off : ∀ {b : Addr}, b ∈ fp → b ≠ S := fun {b} hb e => hSf (by rw [← e]; exact hb)
    refine wpAny_pure ⟨plainId_quiet PyProof.Rows.F.plain_set_update_loop _, ih (i + 1) _ (by omega) hlt (W.frame _ s' _ _ hst' (Nat.le_succ _) fun b hb o e => ?_) hS3 fun s2 mv2 hS4 => ?_⟩
    · exact (hsb.2 b (off hb)).trans e
    · refine hR s2 (Moved.trans W.gtrans ((mv.mono more).then_heap (Nat.le_succ _) fun b o hb e => ?_) mv2) hS4
      exact (hsb.2 b fun z => hb (by rw [z]; exact List.mem_cons_self)).trans e
end
section
variable {prog : Program} {w : World} {A : Around} {E : Value → Shared → Prop} {s : Shared}
/-- a new empty set -/
abbrev set0 (led : Bool) : Obj := { cls := .type "set", dict := none, data := .set #[] 0 (.fresh 0 0 led) }
set_option maxHeartbeats 3200000 in
theorem call_set_strs {l : Addr} {items : Array Value} {xs : List Str} {Q : Value → Shared → Prop} (hh : A.handled = none) (hl : s.heap.IsList l items) (hi : Vals (xs.map V.str) items.toList) (nd : xs.Nodup) (hn : xs.length + 1 < scanBound)
    (h : ∀ (h' : Heap) (tk : Nat), h'.SetOf (PySem.strKind prog w) s.heap.objs.size (inF xs xs.length) xs.length →
      (∀ b o, b < s.heap.objs.size → s.heap.get? b = some o → h'.get? b = some o) → Q (.ref s.heap.objs.size) { s with heap := h', toks := tk }) :
    wpAny (model prog w) A (call (.type "set") [.ref l]) Q E s := by
  have hsz : xs.length = items.size := by have := hi.length; simpa using this
  obtain ⟨c, tl, e_mro⟩ := PySem.F.called_set.mro
  have e_made := PySem.F.called_set.made
  have e_sub := PySem.F.called_set.sub
  have e_type := PySem.F.called_set.notType
  have e_can := PySem.F.called_set.canCreate
  have e_check := PySem.F.typeCall_set_1 (.ref l)
  refine wpAny_call (codeAny_of_tree (show wpAny _ _ (callAny (.type "set") _) _ _ _ from wpAny_pure ⟨Code.quiet_builtin _ (by decide +kernel), codeAny_builtin PySem.F.entry_type_call ?_⟩))
  rw [Around.under_plain (weight_type_call_type "set" [.ref l] []) rfl]
  repeat (any_goals (first | assumption | wp_step))
  refine codeAny_mono (code_set_new_1 (.ref l) (E := E) (Q₁ := fun u z => ∃ led : Bool, u = .ref s.heap.objs.size ∧ z = { s with heap := s.heap.push (set0 led) }) fun led => ⟨led, rfl, rfl⟩) fun r s1 hr => ?_
  rcases r with e | fl
  · exact hr
  cases fl <;> first | exact hr.elim | skip
  obtain ⟨led, rfl, rfl⟩ := hr
  have hS : (s.heap.push (set0 led)).get? s.heap.objs.size = some (set0 led) := Heap.get?_push_size _ rfl
  have hT : Shared.TypeIs { s with heap := s.heap.push (set0 led) } (.ref s.heap.objs.size) "set" := ⟨_, hS, rfl⟩
  have e_init := PySem.F.called_set.init.lookup
  have e_bind := PySem.F.called_set.init.bind (.ref s.heap.objs.size)
  repeat (any_goals (first | assumption | wp_step))
  refine codeAny_mono (codeAny_call_builtin (R := wants (fun u z => u = .none ∧ ∃ h' tk, z = { s with heap := h', toks := tk } ∧ h'.SetOf (PySem.strKind prog w) s.heap.objs.size (inF xs xs.length) xs.length ∧
      (∀ b o, b < s.heap.objs.size → s.heap.get? b = some o → h'.get? b = some o)) E) PySem.F.called_set.init.plain PySem.F.entry_set_init (check_set_init_1 hT ?_)) fun r2 s2 hr2 => ?_
  · obtain ⟨⟨ocls, odict, odata, oslots⟩, hol, hcl, nl, hdl⟩ := hl
    simp only at hcl hdl
    subst hcl; subst hdl
    have hol2 : (s.heap.push (set0 led)).get? l = some { cls := .type "list", dict := odict, data := .seq items nl, slots := oslots } := Heap.get?_push_of_some _ hol
    have f1 := PySem.F.sub_list_set
    have f2 := PySem.F.sub_list_frozenset
    have f3 : (Value.type "list" == Value.type "dict") = false := by decide
    have hl1 : (s.heap.push (set0 led)).IsList l items := ⟨_, hol2, rfl, nl, rfl⟩
    unfold Builtin.«set.__init__» noKeywords Builtin.Frozenset.updateFrom
    generalize hPI : pyIter = PI
    wp_walk
    subst hPI
    refine wpAny_pyIter_list hl1 (wpAny_bind (wpAny_runValue ?_))
    have hlS : l < s.heap.objs.size := Heap.lt_size hol
    have size1 : (s.heap.push (set0 led)).objs.size = s.heap.objs.size + 1 := Heap.size_push _ _
    refine upd_strs ((Walks.list (by simp [hh]) _ l (by rw [size1]; exact Nat.ne_of_lt (Nat.lt_succ_of_lt hlS)) items).toS) s.heap.objs.size ?hSf xs hsz nd (by rw [← hsz]; exact hn)
      (fun i v hv => str_at hi i v (by rw [Array.getElem?_toList]; exact hv)) (items.size - 0) 0 _ (by omega) (Nat.zero_le _) ⟨⟨_, Heap.get?_push_size _ rfl, rfl, rfl⟩, (hl1.push _)⟩ ?hS0 ?hR
    case hSf =>
      rw [size1]
      intro z
      rcases List.mem_cons.mp z with z | z
      · exact Nat.ne_of_lt (Nat.lt_succ_self _) z
      · exact Nat.ne_of_gt hlS (List.mem_singleton.mp z)
    case hS0 =>
      have z : ((s.heap.push (set0 led)).push { cls := .type "list_iterator", data := .fields #[.ref l, .int 0 0] }).get? s.heap.objs.size = some (set0 led) := Heap.get?_push_of_some _ hS
      exact PyProof.Rows.SetOf_congr ((PyProof.Rows.setObjOf_fresh (knd := PySem.strKind prog w) led).setOf z (by unfold scanBound; omega)) (fun y => by simp [inF]) rfl
    case hR =>
      intro z mv hz
      obtain ⟨h', g', d', tk', os'⟩ := z
      obtain rfl : g' = s.gens := mv.gens
      obtain rfl : d' = s.drawn := mv.drawn
      obtain rfl : os' = s.os := mv.os
      show wpAny _ _ _ _ _ _
      refine wpAny_pure ?_
      show wpAny _ _ (ret Value.none) _ _ _
      rw [← hsz] at hz
      refine wpAny_pure ⟨rfl, h', tk', rfl, hz, fun b o hb e => mv.heap b o ?_ (Heap.get?_push_of_some _ (Heap.get?_push_of_some _ e))⟩
      rw [size1]
      intro q
      rcases List.mem_cons.mp q with q | q
      · exact Nat.ne_of_lt hb q
      · exact Nat.ne_of_lt (Nat.lt_succ_of_lt hb) (List.mem_singleton.mp q)
  · rcases r2 with e | fl2
    · exact hr2
    cases fl2 <;> first | exact hr2.elim | skip
    obtain ⟨rfl, h', tk, rfl, hz, keep⟩ := hr2
    repeat (any_goals (first | assumption | wp_step))
    exact h _ _ hz keep
end
/-- len(set(xs)), xs a list of different texts -/
def mLenSet (K : PySem.W.Frag) (ta : TE) : TE := fun σ H Q => ta σ H fun x H1 => ∃ (l : Addr) (xs : List Str), x = V.ref l ∧ SqL K H1 l (xs.map V.str) ∧ xs.length ≤ 1000 ∧ xs.Nodup ∧ Q (.int xs.length) H1
section
variable {X : Cx}
theorem pe_lenSetS {a : Expr} {ta : TE} {p p2 q pos : Pos} (hc : X.calm = true) (hg : Gl X "len") (hm : X.mg "len" = none) (hg2 : Gl X "set") (hm2 : X.mg "set" = none) (ha : PE X a ta)
    (na : starEach [a] X.env = (false, eval a X.env) :: starEach [] X.env := by rfl) : PE X (.Call (.Name "len" p) [.Call (.Name "set" p2) [a] [] q] [] pos) (mLenSet X.K ta) := by
  refine ⟨fun pins s σ H Q I h => Call_ (ld_blt I hg hm PySem.boot_len (PyProof.Rows.callWith_builtin1 (PyProof.Rows.args_cons ?_ rfl) rfl rfl))⟩
  refine Call_ (ld_blt I hg2 hm2 PyProof.Rows.boot_set (PyProof.Rows.callWith_type1 (PyProof.Rows.args_cons (thn (ha.run pins s σ H _ I h) fun v s1 z => PyProof.Rows.args_nil ?_) na) na rfl))
  obtain ⟨x, H1, I1, r1, l, xs, rfl, hq, h1, nd, q1⟩ := z
  cases r1
  obtain ⟨its, r, pl, _⟩ := I1.list hq
  refine call_set_strs (xs := xs) (I1.ok.hd hc) pl.isList (by simpa using r) nd (by unfold scanBound; omega) fun h' tk hS hk => PyProof.Rows.args_nil ?_
  obtain ⟨o, es, ep, t, ho, hex, hd, _, _, _, hf, hn⟩ := hS
  have I2 : Inv X pins σ H1 { s1 with heap := h', toks := tk } := I1.kept fun b o e => hk b o (Heap.lt_size e) e
  exact call_len_set ho hex hd hf (by rw [hn]; omega) ⟨.int xs.length, H1, I2.tok _, ⟨_, by rw [hn]⟩, q1⟩
end
end NB

set_option Elab.async false
set_option linter.all false
set_option maxRecDepth 100000
/-! D1: the data of logs, what the top must have, promises -/
namespace NB
open PySem PySem.Spec L2
open PyProof.Rows (envOfC)

/-! ### data -/
/-- a name: one to eight small letters -/
def nameB (z : Str) : Bool := decide (1 ≤ z.length) && decide (z.length ≤ 8) && z.cps.toList.all fun c => decide (97 ≤ c) && decide (c ≤ 122)
structure CrewOk (ns : List Str) : Prop where
  one : 1 ≤ ns.length
  few : ns.length ≤ 12
  nam : ∀ z ∈ ns, nameB z = true
  nd : ns.Nodup
structure EntsOk (ns : List Str) (es : List (Str × Int)) : Prop where
  few : es.length ≤ 200
  ok : ∀ e ∈ es, e.1 ∈ ns ∧ 0 ≤ e.2
def SizeOk (sz : Int) : Prop := 1 ≤ sz ∧ sz ≤ 10 ^ 30
/-- v is the tuple of e -/
def EntAt (H : Hp) (e : Str × Int) (v : V) : Prop := ∃ p, v = .ref p ∧ H p = some (.tup [.str e.1, .int e.2])
abbrev EntL (H : Hp) : List (Str × Int) → List V → Prop := Paired (EntAt H)
theorem EntAt.mono {H H' : Hp} {e : Str × Int} {v : V} (h : EntAt H e v) (x : Ext H H') : EntAt H' e v := by
  obtain ⟨p, rfl, q⟩ := h
  exact ⟨p, rfl, x _ _ q⟩
theorem EntL.mono {H H' : Hp} {es : List (Str × Int)} {vs : List V} (h : EntL H es vs) (x : Ext H H') : EntL H' es vs := Paired.mapP h fun _ _ q => EntAt.mono q x
theorem upd_none {H : Hp} {p d : Addr} {o : HO} (h : upd H p o d = none) : d ≠ p ∧ H d = none := by
  by_cases e : d = p
  · rw [e, upd_same] at h; cases h
  · exact ⟨e, by rw [upd_ne e] at h; exact h⟩
theorem Ext.free {H H' : Hp} (e : Ext H H') {l : Addr} (h : H' l = none) : H l = none := Same.free (show Same H H' from e) h
/-- tuples stand under every change -/
def TupSt (H H' : Hp) : Prop := ∀ a xs, H a = some (.tup xs) → H' a = some (.tup xs)
theorem TupSt.ext {H H' : Hp} (x : Ext H H') : TupSt H H' := fun a xs h => x a _ h
theorem TupSt.upd {H : Hp} {p : Addr} {o u : HO} (h : H p = some u) (d : ∀ xs, u ≠ .tup xs) : TupSt H (L2.upd H p o) := fun a xs e => by
  rw [upd_ne (ne_of e h (fun z => d xs z.symm))]; exact e
theorem TupSt.trans {H H1 H2 : Hp} (a : TupSt H H1) (b : TupSt H1 H2) : TupSt H H2 := fun c xs h => b c xs (a c xs h)
theorem EntL.st {H H' : Hp} {es : List (Str × Int)} {vs : List V} (h : EntL H es vs) (x : TupSt H H') : EntL H' es vs := Paired.mapP h fun _ _ q => by
  obtain ⟨p, e, q⟩ := q
  exact ⟨p, e, x _ _ q⟩
theorem Frm.tups {p : Addr} {H H' : Hp} {o : HO} (f : Frm [p] H H') (hp : H p = some o) (d : ∀ xs, o ≠ .tup xs) : TupSt H H' := fun a xs h => f a _ h fun z => by
  rw [List.mem_singleton.mp z, hp] at h
  exact d xs (Option.some.inj h)
theorem mem1 {p : Addr} : p ∈ [p] := List.mem_singleton.mpr rfl
/-- readings of tests -/
theorem kNe {i j : Int} {Q : Bool → Hp → Prop} {H : Hp} (h : Q (!decide (i = j)) H) : mEqG (fun b => !b) (.int i) (.int j) H (kB Q) := h
theorem kEq {i j : Int} {Q : Bool → Hp → Prop} {H : Hp} (h : Q (decide (i = j)) H) : mEqG (fun b => b) (.int i) (.int j) H (kB Q) := h
theorem kNeS {i j : Str} {Q : Bool → Hp → Prop} {H : Hp} (h : Q (!decide (i = j)) H) : mEqG (fun b => !b) (.str i) (.str j) H (kB Q) := h
theorem kEqS {i j : Str} {Q : Bool → Hp → Prop} {H : Hp} (h : Q (decide (i = j)) H) : mEqG (fun b => b) (.str i) (.str j) H (kB Q) := h
theorem kNeB {i j : Bool} {Q : Bool → Hp → Prop} {H : Hp} (h : Q (!decide (i = j)) H) : mEqG (fun b => !b) (.bl i) (.bl j) H (kB Q) := h
theorem kI {c : Bool} {Q : Bool → Hp → Prop} {H : Hp} (h : Q c H) : kB Q (.bl c) H := h
/-- the fields of a log as __init__ stores them -/
def lf (sz : Int) (ls le : Addr) : List (Str × V) := putF "held_entries" (.ref le) (putF "held_servers" (.ref ls) (putF "held_size" (.int sz) []))
theorem lf_size (sz : Int) (ls le : Addr) : (lf sz ls le).lookup ("held_size" : Str) = some (.int sz) := by
  unfold lf
  rw [lookup_putF, if_neg (by decide +kernel), lookup_putF, if_neg (by decide +kernel), lookup_putF, if_pos rfl]
theorem lf_servers (sz : Int) (ls le : Addr) : (lf sz ls le).lookup ("held_servers" : Str) = some (.ref ls) := by
  unfold lf
  rw [lookup_putF, if_neg (by decide +kernel), lookup_putF, if_pos rfl]
theorem lf_entries (sz : Int) (ls le : Addr) : (lf sz ls le).lookup ("held_entries" : Str) = some (.ref le) := by
  unfold lf
  rw [lookup_putF, if_pos rfl]
theorem lf_no (sz : Int) (ls le : Addr) {m : Str} (h1 : ¬ m = "held_entries") (h2 : ¬ m = "held_servers") (h3 : ¬ m = "held_size") : (lf sz ls le).lookup m = none := by
  unfold lf
  rw [lookup_putF, if_neg h1, lookup_putF, if_neg h2, lookup_putF, if_neg h3]
  rfl
/-- a log of the class at C stands at p -/
def LogAt (C : Addr) (H : Hp) (p : Addr) (sz : Int) (ns : List Str) (es : List (Str × Int)) : Prop :=
  ∃ dx ls le vs, H p = some (.ins C dx (lf sz ls le)) ∧ H ls = some (.lst (ns.map V.str)) ∧ H le = some (.lst vs) ∧ EntL H es vs
theorem LogAt.mono {C : Addr} {H H' : Hp} {p : Addr} {sz : Int} {ns : List Str} {es : List (Str × Int)} (h : LogAt C H p sz ns es) (x : Ext H H') : LogAt C H' p sz ns es := by
  obtain ⟨dx, ls, le, vs, h1, h2, h3, h4⟩ := h
  exact ⟨dx, ls, le, vs, x _ _ h1, x _ _ h2, x _ _ h3, h4.mono x⟩

/-! ### what is an entry -/
inductive SrvJ (K : PySem.W.Frag) (H : Hp) (ns : List Str) : V → Bool → Prop where
  | str (z : Str) : SrvJ K H ns (.str z) (decide (z ∈ ns))
  | kind {x : V} {t : Value} : TyX K H x t → PySem.W.kitOne K t (.type "str") = some false → SrvJ K H ns x false
inductive IntJ (K : PySem.W.Frag) (H : Hp) : V → Bool → Prop where
  | int (i : Int) : IntJ K H (.int i) true
  | bl (b : Bool) : IntJ K H (.bl b) false
  | kind {x : V} {t : Value} : TyX K H x t → PySem.W.kitOne K t (.type "int") = some false → IntJ K H x false
inductive Jd (K : PySem.W.Frag) (H : Hp) (ns : List Str) : V → Option (Str × Int) → Prop where
  | kind {x : V} {t : Value} : TyX K H x t → PySem.W.kitOne K t (.type "tuple") = some false → Jd K H ns x none
  | size {p : Addr} {xs : List V} : H p = some (.tup xs) → xs.length ≠ 2 → Jd K H ns (.ref p) none
  | srv {p : Addr} {x y : V} : H p = some (.tup [x, y]) → SrvJ K H ns x false → Jd K H ns (.ref p) none
  | num {p : Addr} {x y : V} : H p = some (.tup [x, y]) → SrvJ K H ns x true → IntJ K H y false → Jd K H ns (.ref p) none
  | neg {p : Addr} {x : V} {i : Int} : H p = some (.tup [x, .int i]) → SrvJ K H ns x true → i < 0 → Jd K H ns (.ref p) none
  | ok {p : Addr} {z : Str} {i : Int} : H p = some (.tup [.str z, .int i]) → z ∈ ns → 0 ≤ i → Jd K H ns (.ref p) (some (z, i))

/-! ### what the top must have -/
structure LogC (K : PySem.W.Frag) (C : Addr) (kd : Str) : Prop where
  cl : Cls K C
  nS : NoAttr K C "held_size"
  nV : NoAttr K C "held_servers"
  nE : NoAttr K C "held_entries"
  kd : ∃ u, Con K C "KIND" (.str kd) u
  ty : ∀ H p dx fs, H p = some (.ins C dx fs) → TyX K H (.ref p) (.ref C)
  nt : PySem.W.kitOne K (.ref C) (.type "tuple") = some false
abbrev GV (mg : Str → Option Value) (x : Str) (v : V) : Prop := ∃ u, mg x = some u ∧ RelV v u
structure Blt (mg : Str → Option Value) : Prop where
  n_len : mg "len" = none
  n_isinstance : mg "isinstance" = none
  n_int : mg "int" = none
  n_bool : mg "bool" = none
  n_str : mg "str" = none
  n_list : mg "list" = none
  n_tuple : mg "tuple" = none
  n_all : mg "all" = none
  n_set : mg "set" = none
  n_max : mg "max" = none
  n_min : mg "min" = none
  n_abs : mg "abs" = none
  n_range : mg "range" = none
  n_repr : mg "repr" = none
abbrev LETT : Str := "abcdefghijklmnopqrstuvwxyz"
structure Tx (K : PySem.W.Frag) (mg : Str → Option Value) (cL cX : Addr) : Prop extends Blt mg where
  g_GREATEST_SIZE : GV mg "GREATEST_SIZE" (.int (10 ^ 30))
  g_MOST_SERVERS : GV mg "MOST_SERVERS" (.int 12)
  g_MOST_LETTERS : GV mg "MOST_LETTERS" (.int 8)
  g_MOST_ENTRIES : GV mg "MOST_ENTRIES" (.int 200)
  g_LETTERS : GV mg "LETTERS" (.str LETT)
  g_LOSING : GV mg "LOSING" (.str "losing")
  g_Log : GV mg "Log" (.ref cL)
  g_LosingLog : GV mg "LosingLog" (.ref cX)
  cl1 : LogC K cL "steady"
  cl2 : LogC K cX "losing"
  ll : PySem.W.kitOne K (.ref cL) (.ref cL) = some true
  xl : PySem.W.kitOne K (.ref cX) (.ref cL) = some true
  lx : PySem.W.kitOne K (.ref cL) (.ref cX) = some false
  xx : PySem.W.kitOne K (.ref cX) (.ref cX) = some true
/-- a def of the module -/
structure Dx (K : PySem.W.Frag) (mg : Str → Option Value) (x : Str) (st : Stmt) (ps : List Str) : Prop where
  ex : ∃ f fd, C8.Def K mg x st f fd ∧ Binds K fd ps []
/-- a method's def -/
structure Mx (K : PySem.W.Frag) (m qual : Str) (st : Stmt) (ps : List Str) (f : Addr) (fd : FuncData) : Prop where
  fn : C8.Fun K m qual st f fd
  b : Binds K fd ps []
section
variable {P : Program} {w : World} {K : PySem.W.Frag} {mg : Str → Option Value} {base : Heap}
theorem cal_of {x : Str} {st : Stmt} {N ps : List Str} {k : Nat} {sp : Sp} (D : Dx K mg x st ps) (S : FnScope N ps (C8.fnScope st)) (len : ∀ vs H Q E, sp vs H Q E → vs.length = ps.length)
    (hb : ∀ (f : Addr) (cdv : Value) (A : Around) (o : List Env) (s : Shared) (H : Hp) (vs : List V) (Q : VK) (E : XK), Room k (A.deeper (envOfC x (C8.fnScope st) s.heap.objs.size f cdv)) → sp vs H Q E →
      ∃ t, PSs (cxOf C8.CX0 P w K mg base N x (C8.fnScope st) f cdv A o s H E).nox (C8.fnBody st) t ∧ t { nx := fun _ H' => Q .non H', rt := Q } (start N vs) H) : C8.Cal P w K mg base (k + 1) x sp [] := by
  obtain ⟨f, fd, F, b⟩ := D.ex
  exact C8.cal0 F b .nil S len fun cdv A o s H vs Q E hr h => hb f cdv A o s H vs Q E hr h
theorem calG_of {x : Str} {st : Stmt} {N ps : List Str} {k : Nat} {sp : Sp} (D : Dx K mg x st ps) (S : FnScope N ps (C8.fnScope st)) (len : ∀ vs H Q E, sp vs H Q E → vs.length = ps.length)
    (hb : ∀ (f : Addr) (cdv : Value) (A : Around) (o : List Env) (s : Shared) (H : Hp) (vs : List V) (Q : VK) (E : XK), Room k (A.deeper (envOfC x (C8.fnScope st) s.heap.objs.size f cdv)) → A.guards = some [] → sp vs H Q E →
      ∃ t, PSs (cxOf C8.CX0 P w K mg base N x (C8.fnScope st) f cdv A o s H E).nox (C8.fnBody st) t ∧ t { nx := fun _ H' => Q .non H', rt := Q } (start N vs) H) : CalG P w K mg base (k + 1) x sp := by
  obtain ⟨f, fd, F, b⟩ := D.ex
  exact ⟨f, fd, ps, fnG_of F.fn S len fun cdv A o s H vs Q E hr hgd h => hb f cdv A o s H vs Q E hr hgd h, F.mgf, F.kp, b⟩
theorem fn_of' {m qual : Str} {st : Stmt} {f : Addr} {fd : FuncData} {N ps : List Str} {k : Nat} {sp : Sp} (D : Mx K m qual st ps f fd) (S : FnScope N ps (C8.fnScope st)) (len : ∀ vs H Q E, sp vs H Q E → vs.length = ps.length)
    (hb : ∀ (cdv : Value) (A : Around) (o : List Env) (s : Shared) (H : Hp) (vs : List V) (Q : VK) (E : XK), Room k (A.deeper (envOfC qual (C8.fnScope st) s.heap.objs.size f cdv)) → sp vs H Q E →
      ∃ t, PSs (cxOf C8.CX0 P w K mg base N qual (C8.fnScope st) f cdv A o s H E).nox (C8.fnBody st) t ∧ t { nx := fun _ H' => Q .non H', rt := Q } (start N vs) H) : FnOk P w K mg base C8.CX0 (k + 1) f fd ps sp :=
  C8.fn0 D.fn S len hb
end
theorem u65 {k : Nat} {A : Around} (hr : Room k A) : A.units + 65 < cLine := by have := hr.un; omega
/-! ### a comprehension over a text -/
theorem lc_txt {x : Str} {g : TG} {tt : TT} {te : TE} {vs : List Nat} {σ : L2.St} {H1 : Hp} {D : Addr} {Qd : Hp → Prop} (Pv : Nat → Hp → Prop) (h0 : Pv 0 (upd H1 D (.lst [])))
    (hs : ∀ i c H, x.cps.toList[i]? = some c → Pv i H → g (.str ⟨#[c]⟩) (wipe σ vs) H fun σ2 H2 => wipe σ2 vs = wipe σ vs ∧ tt σ2 H2 fun b H3 =>
      if b = true then te σ2 H3 fun y H4 => ∃ acc, H4 D = some (.lst acc) ∧ acc.length < sizeLine ∧ Pv (i + 1) (upd H4 D (.lst (acc ++ [y]))) else Pv (i + 1) H3) (hd : ∀ H, Pv x.cps.size H → Qd H) :
    ∃ W : Nat → Nat → Hp → Prop, (∃ m, W 0 m (upd H1 D (.lst []))) ∧ ∀ i m H, W i m H →
      ((Its x).stop i H ∧ Qd H) ∨ ((Its x).go i H ∧ ∃ Nx : Hp → Prop, (∀ H', Nx H' → ∃ m', m' < m ∧ W (i + 1) m' H') ∧ ∀ y H', (Its x).yld i H y H' → g y (wipe σ vs) H' fun σ2 H2 => wipe σ2 vs = wipe σ vs ∧ tt σ2 H2 fun b H3 =>
        if b = true then te σ2 H3 fun y H4 => ∃ acc, H4 D = some (.lst acc) ∧ acc.length < sizeLine ∧ Nx (upd H4 D (.lst (acc ++ [y]))) else Nx H3) := by
  refine ⟨fun i m H => m = x.cps.size - i ∧ i ≤ x.cps.size ∧ Pv i H, ⟨x.cps.size, by simp, Nat.zero_le _, h0⟩, ?_⟩
  rintro i m H ⟨rfl, hi, p⟩
  rcases Nat.lt_or_ge i x.cps.size with h | h
  · refine .inr ⟨h, Pv (i + 1), fun H' p' => ⟨x.cps.size - (i + 1), by omega, rfl, h, p'⟩, ?_⟩
    rintro y H' ⟨rfl, c, e, rfl⟩
    exact hs i c _ (by rw [Array.getElem?_toList]; exact e) p
  · obtain rfl : i = x.cps.size := by omega
    exact .inl ⟨Nat.le_refl _, hd H p⟩
end NB

set_option Elab.async false
set_option linter.all false
set_option maxRecDepth 100000
/-! D3: data that can be shown -/
namespace NB
open PySem PySem.Spec L2

structure Sm (W n : Nat) (d : PyData) : Prop where
  lay : d.canLay0 = true
  sho : d.showable = true
  nod : d.hasDict = false
  dep : d.depth ≤ n
  ish : d.intsShort 61 = true
  wt : d.weight ≤ W
theorem Sm.mono {W n W' n' : Nat} {d : PyData} (h : Sm W n d) (h1 : W ≤ W') (h2 : n ≤ n') : Sm W' n' d := ⟨h.lay, h.sho, h.nod, Nat.le_trans h.dep h2, h.ish, Nat.le_trans h.wt h1⟩
theorem pow_log {m : Nat} (h : m < 10 ^ 60) : m.log2 < 200 := by
  by_cases e : m = 0
  · subst e; decide
  · rw [Nat.log2_lt e]
    exact Nat.lt_of_lt_of_le h (by decide)
theorem Sm.int {i : Int} (h : i.natAbs < 10 ^ 60) : Sm 200 0 (.int i) := by
  have l := pow_log h
  refine ⟨rfl, ?_, rfl, Nat.le_refl _, ?_, ?_⟩
  · show decide (i.natAbs.log2 < 1920) = true
    exact decide_eq_true (by omega)
  · show decide ((PyData.shown (.int i)).length ≤ 61) = true
    refine decide_eq_true ?_
    show (Str.ofString (toString i)).length ≤ 61
    rw [PySem.ofString_length]
    exact int_text_length_le10 (k := 60) (by decide) h
  · show (if i == 0 then 0 else i.natAbs.log2 + 1) ≤ 200
    split <;> omega
theorem Sm.str {z : Str} (h : PyData.canLay0 (.str z) = true) (hl : z.length ≤ 100) : Sm 100 0 (.str z) := ⟨h, rfl, rfl, Nat.le_refl _, rfl, hl⟩
section
variable {W n : Nat}
theorem smAll : ∀ {ds : List PyData}, (∀ d ∈ ds, Sm W n d) → PyData.canLayAll0 ds = true ∧ PyData.showableAll ds = true ∧ PyData.hasDictAll ds = false ∧ PyData.depthAll ds ≤ n ∧ PyData.intsShortAll 61 ds = true ∧ PyData.weightAll ds ≤ (W + 1) * ds.length
  | [], _ => by simp [PyData.canLayAll0, PyData.showableAll, PyData.hasDictAll, PyData.depthAll, PyData.intsShortAll, PyData.weightAll]
  | d :: ds, h => by
    obtain ⟨h1, h2, h3, h4, h5, h6⟩ := smAll fun x hx => h x (List.mem_cons_of_mem _ hx)
    have g := h d List.mem_cons_self
    simp only [PyData.canLayAll0, PyData.showableAll, PyData.hasDictAll, PyData.depthAll, PyData.intsShortAll, PyData.weightAll, Bool.and_eq_true, Bool.or_eq_false_iff, List.length_cons]
    refine ⟨⟨g.lay, h1⟩, ⟨g.sho, h2⟩, ⟨g.nod, h3⟩, Nat.max_le.mpr ⟨g.dep, h4⟩, ⟨g.ish, h5⟩, ?_⟩
    have := g.wt
    rw [Nat.mul_add, Nat.mul_one]
    omega
theorem Sm.list {ds : List PyData} {m : Nat} (h : ∀ d ∈ ds, Sm W n d) (hm : ds.length ≤ m) : Sm ((W + 1) * m) (n + 1) (.list ds) := by
  obtain ⟨h1, h2, h3, h4, h5, h6⟩ := smAll h
  exact ⟨by simpa only [PyData.canLay0] using h1, by simpa only [PyData.showable] using h2, by simpa only [PyData.hasDict] using h3, by show PyData.depthAll ds + 1 ≤ n + 1; omega, by simpa only [PyData.intsShort] using h5,
    Nat.le_trans h6 (Nat.mul_le_mul (Nat.le_refl _) hm)⟩
theorem Sm.tuple {ds : List PyData} {m : Nat} (h : ∀ d ∈ ds, Sm W n d) (hm : ds.length ≤ m) : Sm ((W + 1) * m) (n + 1) (.tuple ds) := by
  obtain ⟨h1, h2, h3, h4, h5, h6⟩ := smAll h
  exact ⟨by simpa only [PyData.canLay0] using h1, by simpa only [PyData.showable] using h2, by simpa only [PyData.hasDict] using h3, by show PyData.depthAll ds + 1 ≤ n + 1; omega, by simpa only [PyData.intsShort] using h5,
    Nat.le_trans h6 (Nat.mul_le_mul (Nat.le_refl _) hm)⟩
theorem Sm.fits {d : PyData} (h : Sm W n d) (hW : W ≤ 200000) : d.shown.length ≤ sizeLine := by
  have h1 := PyData.shown_le 61 (by decide) d (PyData.leavesShort_of_canLay0 61 d h.lay h.ish)
  have h2 : (61 + 2) * d.weight ≤ 63 * 200000 := Nat.mul_le_mul (by decide) (Nat.le_trans h.wt hW)
  rw [sizeLine_eq]
  omega
theorem Sm.shaped {d : PyData} (h : Sm W n d) (hn : n ≤ 60) : SeqAt.shaped d = true := Bool.and_eq_true_iff.mpr ⟨h.lay, decide_eq_true (Nat.le_trans h.dep (by omega))⟩
end
/-- repr of it -/
theorem rep_of {K : PySem.W.Frag} {H : Hp} {v : V} {d : PyData} {W n : Nat} {Q : VK} (dp : Dp K H v d) (sm : Sm W n d) (hd : PyProof.Rows.isDisplay d = true) (hW : W ≤ 200000) (hn : n ≤ 60) (q : Q (.str d.shown) H) : mRep K [v] H Q :=
  ⟨v, d, rfl, dp, hd, sm.sho, sm.nod, Nat.le_trans sm.dep hn, sm.fits hW, q⟩
end NB

set_option Elab.async false
set_option linter.all false
set_option maxRecDepth 100000
/-! B7: defs that may raise; own +; methods by keywords -/
namespace NB
open PySem PySem.Spec L2
open PyProof.Rows (envOfC)

section
variable {P : Program} {w : World} {K : PySem.W.Frag} {mg : Str → Option Value} {base : Heap}
/-- as fn_of', for a def that may raise -/
theorem fnX_of' {m qual : Str} {st : Stmt} {f : Addr} {fd : FuncData} {N ps : List Str} {k : Nat} {sp : Sp} (D : Mx K m qual st ps f fd) (S : FnScope N ps (C8.fnScope st)) (len : ∀ vs H Q E, sp vs H Q E → vs.length = ps.length)
    (hb : ∀ (cdv : Value) (A : Around) (o : List Env) (s : Shared) (H : Hp) (vs : List V) (Q : VK) (E : XK), Room k (A.deeper (envOfC qual (C8.fnScope st) s.heap.objs.size f cdv)) → sp vs H Q E →
      ∃ t, PSs (cxOf (L2.CX P w) P w K mg base N qual (C8.fnScope st) f cdv A o s H E) (C8.fnBody st) t ∧ t { nx := fun _ H' => Q .non H', rt := Q } (start N vs) H) : FnOk P w K mg base (L2.CX P w) (k + 1) f fd ps sp := by
  obtain ⟨oc, od, dV, kV, doc, pm, an, cdv, ct, osl, rfl, lk, hcd⟩ := D.fn.ex
  exact fn_of lk hcd S len fun A outer s H vs Q E hr hsp => hb cdv A outer s H vs Q E hr hsp
end
section
variable {X : Cx} {k : Nat} {C f : Addr} {fd : FuncData} {ps : List Str} {sp : Sp} {E : XK} {CXf : CXT}
/-- a wish that no state is asked of -/
theorem passW {W : WX} (tk : Takes X W) : Passes (L2.CX X.prog X.w) X (fun c d H => ∀ σ, W c d σ H) := fun _ σ _ _ e s' I c => tk e s' (XE.of_call I (fun _ _ _ h => h σ) c)
/-- o + p, two own instances of one class -/
theorem own_add (F : FnOk X.prog X.w X.K X.mg X.base CXf k f fd ps sp) (hs : PySem.W.findIn X.K (.ref C) "__add__" = some (some (.ref f))) (hf : PySem.W.isFn X.K (.ref f) = true) (hc : PySem.W.selfFirst X.K C = true) (hb : Binds X.K fd ps []) (hr : Room k X.A) (hx : Passes CXf X E) :
    OpR X (binaryOp .Add) (fun x y H Q => ∃ a b dx dy fs gs, x = .ref a ∧ y = .ref b ∧ H a = some (.ins C dx fs) ∧ H b = some (.ins C dy gs) ∧ sp [.ref a, .ref b] H (fun v H' => (∃ q, v = .ref q) ∧ Q v H') E) := by
  intro pins s σ H x y v u Q I rx ry q
  obtain ⟨a, b, dx, dy, fs, gs, rfl, rfl, ha, hb', q⟩ := q
  cases rx
  cases ry
  obtain ⟨mA, O, _⟩ := ins_get I.hok ha
  obtain ⟨mB, O', _⟩ := ins_get I.hok hb'
  obtain ⟨od, J, _⟩ := O.look
  obtain ⟨od', J', _⟩ := O'.look
  obtain ⟨m, hF⟩ := I.fr
  refine PySem.W.binop_K (op := .Add) hF I.ok.mod.kin J J'.type hc hs hf ?_
  refine thn (run_fn F hr hb .nil hx I (vs := [.ref a, .ref b]) (.cons rfl (.cons rfl .nil)) q) fun r s' z => ?_
  obtain ⟨z, H', I', rz, ⟨q0, e⟩, kz⟩ := z
  subst e
  cases rz
  exact ⟨.ref q0, H', I', rfl, kz⟩
variable {m : Str} {o : Expr} {kws : List Keyword} {ks : List Str} {g : List Value → List Value → List Value} {gV : List V → List V → List V} {p apos pos : Pos} {ta : TE} {tk : TA}
/-- o.m(k = v, ..) -/
def tMethK0 (C : Addr) (m : Str) (n : Nat) (sp : Sp) (gV : List V → List V → List V) (E : XK) (ta : TE) (tk : TA) : TE := fun σ H Q => ta σ H fun x H1 => ∃ a dx fs, x = .ref a ∧ H1 a = some (.ins C dx fs) ∧ fs.lookup m = none ∧ tk σ H1 fun zs H2 => zs.length = n ∧ sp (gV [.ref a] zs) H2 Q E
theorem pe_methK0 {pl : Sem Bool} (he : PE X o ta) (c : Cls X.K C) (hm : Meth X.K C m f) (F : FnOk X.prog X.w X.K X.mg X.base CXf k f fd ps sp) (hr : Room k X.A) (hb : KBn X.K fd ps 1 ks g gV) (hx : Passes CXf X E) (hkw : PK X kws tk)
    (hall : (backToKw pos (keywordEach kws X.env)).all (·.1.isSome) = true := by rfl) (hks : (backToKw pos (keywordEach kws X.env)).filterMap (·.1) = ks := by rfl)
    (hpl : ((backTo pos (starEach [] X.env)).any (·.1) || (backToKw pos (keywordEach kws X.env)).any (·.1.isNone)) = false := by rfl)
    (ht : eval (.Call (.Attribute o m apos) [] kws pos) X.env = (do
      let ov ← eval o X.env
      standAt apos.atName
      let (f, first) ← holding [ov] (getMethod ov m pl)
      callWith pos f first (backTo pos (starEach [] X.env)) (backToKw pos (keywordEach kws X.env))) := by rfl) :
    PE X (.Call (.Attribute o m apos) [] kws pos) (tMethK0 C m ks.length sp gV E ta tk) := by
  refine ⟨fun pins s σ H Q I h => ?_⟩
  refine PySem.W.methodCall_KW (pl := pl) (thn (he.run pins s σ H _ I h) fun u s1 ⟨x, H1, I1, rx, a, dx, fs, ex, ea, l, q⟩ => ?_) ht
  subst ex
  obtain rfl : u = Value.ref a := rx
  refine getmeth_ok I1 ea c hm l ?_
  refine PySem.W.callWith_KW0 (first := [.ref a]) (h₀ := X.base) I.ok.mod.kin hm.kp hall (thn (hkw.run pos pins s1 σ H1 _ I1 q) fun ws s2 ⟨zs, H2, I2, rz, l2, q2⟩ => ⟨I2.kIn, ?_⟩) hpl
  rw [hks]
  have r1 : Vals [V.ref a] [Value.ref a] := .cons rfl .nil
  have e2 : ws.length = ks.length := rz.length.symm.trans l2
  refine wpAny_call (codeAny_mono (F.run X.A X.stack s2 H2 ⟨[.ref a], ks.zip ws⟩ (g [.ref a] ws) _ Q E hr I2.env0 (hb.to s2 [.ref a] ws I2.kIn rfl e2) (hb.rel r1 rz) q2) fun r s' hq => ?_)
  cases r with
  | error e => exact hx pins σ H2 s2 e s' I2 hq
  | ok fl =>
    cases fl with
    | ret u => exact I2.after hq
    | next => exact False.elim hq
    | brk => exact False.elim hq
    | cont => exact False.elim hq
end
end NB

set_option Elab.async false
set_option linter.all false
set_option maxRecDepth 100000
/-! B8: set(xs) of whole numbers -/
namespace NB
open PySem PySem.Spec PyProof.Rows L2
theorem int_at : ∀ {us : List Value} {ns : List Int}, Vals (ns.map V.int) us → ∀ (i : Nat) (v : Value), us[i]? = some v → ∃ k t, ns[i]? = some k ∧ v = .int k t
  | _, [], .nil, i, v, h => by simp at h
  | _, x :: xs, .cons r q, 0, v, h => by
    obtain ⟨t, rfl⟩ := r
    simp at h
    exact ⟨x, t, rfl, h.symm⟩
  | _, x :: xs, .cons r q, i + 1, v, h => by
    simp only [List.getElem?_cons_succ] at h
    obtain ⟨k, t, e, e2⟩ := int_at q i v h
    exact ⟨k, t, by simpa using e, e2⟩
section
variable {prog : Program} {w : World} {A : Around} {E : Value → Shared → Prop} {s : Shared}
set_option maxHeartbeats 3200000 in
theorem call_set_ints {l : Addr} {items : Array Value} {ns : List Int} {Q : Value → Shared → Prop} (hh : A.handled = none) (hl : s.heap.IsList l items) (hi : Vals (ns.map V.int) items.toList) (hn : ns.length + 1 < scanBound)
    (h : ∀ (h' : Heap) (tk c : Nat), SetR w h' s.heap.objs.size (fun j => decide (j ∈ ns)) c → c ≤ ns.length →
      (∀ b o, b < s.heap.objs.size → s.heap.get? b = some o → h'.get? b = some o) → Q (.ref s.heap.objs.size) { s with heap := h', toks := tk }) :
    wpAny (model prog w) A (call (.type "set") [.ref l]) Q E s := by
  have hsz : items.size = ns.length := by have := hi.length; simpa using this.symm
  obtain ⟨c, tl, e_mro⟩ := PySem.F.called_set.mro
  have e_made := PySem.F.called_set.made
  have e_sub := PySem.F.called_set.sub
  have e_type := PySem.F.called_set.notType
  have e_can := PySem.F.called_set.canCreate
  have e_check := PySem.F.typeCall_set_1 (.ref l)
  refine wpAny_call (codeAny_of_tree (show wpAny _ _ (callAny (.type "set") _) _ _ _ from wpAny_pure ⟨Code.quiet_builtin _ (by decide +kernel), codeAny_builtin PySem.F.entry_type_call ?_⟩))
  rw [Around.under_plain (weight_type_call_type "set" [.ref l] []) rfl]
  repeat (any_goals (first | assumption | wp_step))
  refine codeAny_mono (code_set_led1 (.ref l) (E := E) (Q₁ := fun u z => u = .ref s.heap.objs.size ∧ z = { s with heap := s.heap.push (set0 (!w.params.followText "set-order")) }) ⟨rfl, rfl⟩) fun r s1 hr => ?_
  rcases r with e | fl
  · exact hr
  cases fl <;> first | exact hr.elim | skip
  obtain ⟨rfl, rfl⟩ := hr
  generalize hled : (!w.params.followText "set-order") = led
  have hS : (s.heap.push (set0 led)).get? s.heap.objs.size = some (set0 led) := Heap.get?_push_size _ rfl
  have hT : Shared.TypeIs { s with heap := s.heap.push (set0 led) } (.ref s.heap.objs.size) "set" := ⟨_, hS, rfl⟩
  have e_init := PySem.F.called_set.init.lookup
  have e_bind := PySem.F.called_set.init.bind (.ref s.heap.objs.size)
  repeat (any_goals (first | assumption | wp_step))
  refine codeAny_mono (codeAny_call_builtin (R := wants (fun u z => u = .none ∧ ∃ h' tk c, z = { s with heap := h', toks := tk } ∧ SetR w h' s.heap.objs.size (fun j => decide (j ∈ ns)) c ∧ c ≤ ns.length ∧
      (∀ b o, b < s.heap.objs.size → s.heap.get? b = some o → h'.get? b = some o)) E) PySem.F.called_set.init.plain PySem.F.entry_set_init (check_set_init_1 hT ?_)) fun r2 s2 hr2 => ?_
  · obtain ⟨⟨ocls, odict, odata, oslots⟩, hol, hcl, nl, hdl⟩ := hl
    simp only at hcl hdl
    subst hcl; subst hdl
    have hol2 : (s.heap.push (set0 led)).get? l = some { cls := .type "list", dict := odict, data := .seq items nl, slots := oslots } := Heap.get?_push_of_some _ hol
    have f1 := PySem.F.sub_list_set
    have f2 := PySem.F.sub_list_frozenset
    have f3 : (Value.type "list" == Value.type "dict") = false := by decide
    have hl1 : (s.heap.push (set0 led)).IsList l items := ⟨_, hol2, rfl, nl, rfl⟩
    unfold Builtin.«set.__init__» noKeywords Builtin.Frozenset.updateFrom
    generalize hPI : pyIter = PI
    wp_walk
    subst hPI
    refine wpAny_pyIter_list hl1 (wpAny_bind (wpAny_runValue ?_))
    have hlS : l < s.heap.objs.size := Heap.lt_size hol
    have size1 : (s.heap.push (set0 led)).objs.size = s.heap.objs.size + 1 := Heap.size_push _ _
    refine set_update_ints ((Walks.list (by simp [hh]) _ l (by rw [size1]; exact Nat.ne_of_lt (Nat.lt_succ_of_lt hlS)) items).toS) s.heap.objs.size ?hSf ns hsz hn
      (fun i v hv => int_at hi i v (by rw [Array.getElem?_toList]; exact hv)) (items.size - 0) 0 _ (by omega) (Nat.zero_le _) ⟨⟨_, Heap.get?_push_size _ rfl, rfl, rfl⟩, (hl1.push _)⟩ ?hS0 ?hR
    case hSf =>
      rw [size1]
      intro z
      rcases List.mem_cons.mp z with z | z
      · exact Nat.ne_of_lt (Nat.lt_succ_self _) z
      · exact Nat.ne_of_gt hlS (List.mem_singleton.mp z)
    case hS0 =>
      refine ⟨0, Nat.le_refl 0, ?_⟩
      subst hled
      exact setR_new_at (Heap.get?_push_of_some _ hS)
    case hR =>
      intro z c mv hc hz
      obtain ⟨h', g', d', tk', os'⟩ := z
      obtain rfl : g' = s.gens := mv.gens
      obtain rfl : d' = s.drawn := mv.drawn
      obtain rfl : os' = s.os := mv.os
      show wpAny _ _ _ _ _ _
      refine wpAny_pure ?_
      show wpAny _ _ (ret Value.none) _ _ _
      rw [hsz] at hc
      refine wpAny_pure ⟨rfl, h', tk', c, rfl, hz, hc, fun b o hb e => mv.heap b o ?_ (Heap.get?_push_of_some _ (Heap.get?_push_of_some _ e))⟩
      rw [size1]
      intro q
      rcases List.mem_cons.mp q with q | q
      · exact Nat.ne_of_lt hb q
      · exact Nat.ne_of_lt (Nat.lt_succ_of_lt hb) (List.mem_singleton.mp q)
  · rcases r2 with e | fl2
    · exact hr2
    cases fl2 <;> first | exact hr2.elim | skip
    obtain ⟨rfl, h', tk, c2, rfl, hz, hc, keep⟩ := hr2
    repeat (any_goals (first | assumption | wp_step))
    exact h _ _ _ hz hc keep
end
/-- set(xs), xs a list of whole numbers -/
def rSetI (K : PySem.W.Frag) (w : World) : List V → Hp → VK → Prop := fun xs H Q => ∃ (l : Addr) (ns : List Int), xs = [V.ref l] ∧ SqL K H l (ns.map V.int) ∧ ns.length ≤ 1000 ∧ ∀ (p : Addr) (c : Nat), H p = none → c ≤ ns.length → Q (.ref p) (L2.upd H p (SetO w p (fun j => decide (j ∈ ns)) c))
theorem cr_setI {X : Cx} (hc : X.calm = true) : CallR X (.type "set") (rSetI X.K X.w) := by
  intro pins s σ H xs us Q I r h
  obtain ⟨l, ns, rfl, hq, hn, q⟩ := h
  rw [Vals.ref1 r]
  obtain ⟨its, rv, pl, _⟩ := I.list hq
  refine call_set_ints (ns := ns) (I.ok.hd hc) pl.isList (by simpa using rv) (by unfold scanBound; omega) fun h' tk c R hcn hk => ?_
  exact ⟨.ref _, _, I.laid (t' := tk) (o := SetO X.w s.heap.objs.size (fun j => decide (j ∈ ns)) c) (fun b u e => hk b u (Heap.lt_size e) e) (Nat.le_refl _) (setO_new R), rfl, q _ c (I.hok.fresh (Nat.le_refl _)) hcn⟩
end NB

set_option Elab.async false
set_option linter.all false
set_option maxRecDepth 100000
/-! B13: kinds of things under Ext and under a list's change -/
namespace NB
open PySem PySem.Spec L2
section
variable {H H' : Hp} {K : PySem.W.Frag}
theorem TyOf.ext {x : V} {t : Value} (h : TyOf K H x t) (e : Ext H H') : TyOf K H' x t := by
  cases h with
  | non => exact .non
  | bl x => exact .bl x
  | int i => exact .int i
  | str x => exact .str x
  | flt x => exact .flt x
  | lst h => exact .lst (e _ _ h)
  | frz h => exact .frz (e _ _ h)
  | tup h => exact .tup (e _ _ h)
  | dK h => exact .dK (e _ _ h)
  | dT h => exact .dT (e _ _ h)
  | ins h c1 c2 c3 c4 c5 => exact .ins (e _ _ h) c1 c2 c3 c4 c5
theorem TyX.ext {x : V} {t : Value} (h : TyX K H x t) (e : Ext H H') : TyX K H' x t := by
  cases h with
  | base h => exact .base (TyOf.ext h e)
  | byt b => exact .byt b
  | set h => exact .set (e _ _ h)
  | kList h c => exact .kList h c
  | kTuple h c => exact .kTuple h c
  | kDict h c => exact .kDict h c
  | fTuple h => exact .fTuple (e _ _ h)
  | fDict h => exact .fDict (e _ _ h)
variable {o : Addr} {ys zs : List V}
theorem upd_lst {c : Addr} {u : HO} (ho : H o = some (.lst ys)) (h : H c = some u) (n : ∀ z, u ≠ .lst z) : upd H o (.lst zs) c = some u := by
  rw [upd_ne (ne_of h ho (n ys))]; exact h
theorem TyOf.updL {x : V} {t : Value} (ho : H o = some (.lst ys)) (h : TyOf K H x t) : TyOf K (upd H o (.lst zs)) x t := by
  cases h with
  | non => exact .non
  | bl x => exact .bl x
  | int i => exact .int i
  | str x => exact .str x
  | flt x => exact .flt x
  | @lst c vs h =>
    by_cases e : c = o
    · subst e; exact .lst upd_same
    · exact .lst (by rw [upd_ne e]; exact h)
  | frz h => exact .frz (upd_lst ho h (fun _ z => nomatch z))
  | tup h => exact .tup (upd_lst ho h (fun _ z => nomatch z))
  | dK h => exact .dK (upd_lst ho h (fun _ z => nomatch z))
  | dT h => exact .dT (upd_lst ho h (fun _ z => nomatch z))
  | ins h c1 c2 c3 c4 c5 => exact .ins (upd_lst ho h (fun _ z => nomatch z)) c1 c2 c3 c4 c5
theorem TyX.updL {x : V} {t : Value} (ho : H o = some (.lst ys)) (h : TyX K H x t) : TyX K (upd H o (.lst zs)) x t := by
  cases h with
  | base h => exact .base (TyOf.updL ho h)
  | byt b => exact .byt b
  | set h => exact .set (upd_lst ho h (fun _ z => nomatch z))
  | kList h c => exact .kList h c
  | kTuple h c => exact .kTuple h c
  | kDict h c => exact .kDict h c
  | fTuple h => exact .fTuple (upd_lst ho h (fun _ z => nomatch z))
  | fDict h => exact .fDict (upd_lst ho h (fun _ z => nomatch z))
end
end NB

set_option Elab.async false
set_option linter.all false
set_option maxRecDepth 100000
/-! B14: for over enumerate(list) -/
namespace NB
open PySem PySem.Spec L2
theorem for_enum {K : PySem.W.Frag} {a : Addr} {xs : List V} {g : TG} {tb : TS} {D : Ends} {σ : L2.St} {H : Hp} (Pv : Nat → L2.St → Hp → Prop) (h0 : Pv 0 σ H) (hl : ∀ i σ H, i ≤ xs.length → Pv i σ H → SqL K H a xs)
    (hs : ∀ i x T σ H, xs[i]? = some x → H T = none → Pv i σ H → g (.ref T) σ (upd H T (.tup [.int (i : Nat), x])) fun σ2 H2 => tb { D with nx := Pv (i + 1), ct := Pv (i + 1), bk := D.nx } σ2 H2) (hd : ∀ σ H, Pv xs.length σ H → D.nx σ H) :
    ∃ W : Nat → Nat → L2.St → Hp → Prop, (∃ m, W 0 m σ H) ∧ ∀ i m σ H, W i m σ H →
      ((Ite K a).stop i H ∧ D.nx σ H) ∨ ((Ite K a).go i H ∧ ∃ N : L2.St → Hp → Prop, (∀ σ' H', N σ' H' → ∃ m', m' < m ∧ W (i + 1) m' σ' H') ∧ ∀ x H', (Ite K a).yld i H x H' → g x σ H' fun σ2 H2 => tb { D with nx := N, ct := N, bk := D.nx } σ2 H2) := by
  refine ⟨fun i m σ H => m = xs.length - i ∧ i ≤ xs.length ∧ Pv i σ H, ⟨xs.length, by simp, Nat.zero_le _, h0⟩, ?_⟩
  rintro i m σ H ⟨rfl, hi, p⟩
  have q := hl i σ H hi p
  by_cases hlt : i < xs.length
  · refine .inr ⟨⟨xs, xs[i], q, by simp [hlt]⟩, Pv (i + 1), fun σ' H' p' => ⟨xs.length - (i + 1), by omega, rfl, hlt, p'⟩, fun v H' y => ?_⟩
    obtain ⟨T, x, rfl, nT, rfl, y⟩ := y
    exact hs i x T σ _ (y xs q) nT p
  · have e : i = xs.length := by omega
    subst e
    exact .inl ⟨⟨xs, q, Nat.le_refl _⟩, hd σ H p⟩
end NB

set_option Elab.async false
set_option linter.all false
set_option maxRecDepth 100000
/-! B15: f(k = v, ..), a def by keywords alone -/
namespace NB
open PySem PySem.Spec PyProof.Rows L2
def tCallK0 (n : Nat) (sp : Sp) (gV : List V → List V → List V) (E : XK) (tk : TA) : TE := fun σ H Q => tk σ H fun zs H1 => zs.length = n ∧ sp (gV [] zs) H1 Q E
section
variable {X : Cx} {CXf : CXT} {k : Nat} {f : Addr} {fd : FuncData} {ps ks : List Str} {sp : Sp} {E : XK} {x : Str} {p pos : Pos} {kws : List Keyword} {tk : TA} {g : List Value → List Value → List Value} {gV : List V → List V → List V}
theorem pe_callK0 (F : FnOk X.prog X.w X.K X.mg X.base CXf k f fd ps sp) (hr : Room k X.A) (hg : Gl X x) (hm : X.mg x = some (.ref f)) (hk : PySem.W.keepIn X.K (.ref f) = true) (hb : KBn X.K fd ps 0 ks g gV) (hx : Passes CXf X E)
    (hkw : PK X kws tk) (hall : (backToKw pos (keywordEach kws X.env)).all (·.1.isSome) = true := by rfl) (hks : (backToKw pos (keywordEach kws X.env)).filterMap (·.1) = ks := by rfl)
    (hdb : (x == ("__debug__" : Str)) = false := by decide)
    (hpl : ((backTo pos (starEach [] X.env)).any (·.1) || (backToKw pos (keywordEach kws X.env)).any (·.1.isNone)) = false := by rfl) :
    PE X (.Call (.Name x p) [] kws pos) (tCallK0 ks.length sp gV E tk) := by
  refine ⟨fun pins s σ H Q I h => ?_⟩
  refine wpAny_Call_Name_kw (ld_glob I hg hm ?_ hdb)
  refine PySem.W.callWith_KW0 (first := []) (h₀ := X.base) I.ok.mod.kin hk hall (thn (hkw.run pos pins s σ H _ I h) fun ws s2 z => ?_) hpl
  obtain ⟨zs, H2, I2, rz, l2, q2⟩ := z
  refine ⟨I2.kIn, ?_⟩
  rw [hks]
  exact run_fnN F hr hb hx I2 .nil rz rfl l2 q2
end
/-- a def that may be called by keywords alone -/
structure CalK (P : Program) (w : World) (K : PySem.W.Frag) (mg : Str → Option Value) (base : Heap) (k : Nat) (x : Str) (sp : Sp) (ks : List Str) (gV : List V → List V → List V) : Prop where
  ex : ∃ (f : Addr) (fd : FuncData) (ps : List Str) (g : List Value → List Value → List Value), FnOk P w K mg base C8.CX0 k f fd ps sp ∧ mg x = some (.ref f) ∧ PySem.W.keepIn K (.ref f) = true ∧ KBn K fd ps 0 ks g gV
section
variable {X : Cx} {k j : Nat} {ks : List Str} {sp : Sp} {x : Str} {p pos : Pos} {kws : List Keyword} {tk : TA} {gV : List V → List V → List V}
theorem pe_cK (c : CalK X.prog X.w X.K X.mg X.base k x sp ks gV) (hr : Room j X.A) (hk : k ≤ j) (hg : Gl X x) (hkw : PK X kws tk) (hall : (backToKw pos (keywordEach kws X.env)).all (·.1.isSome) = true := by rfl) (hks : (backToKw pos (keywordEach kws X.env)).filterMap (·.1) = ks := by rfl)
    (hdb : (x == ("__debug__" : Str)) = false := by decide)
    (hpl : ((backTo pos (starEach [] X.env)).any (·.1) || (backToKw pos (keywordEach kws X.env)).any (·.1.isNone)) = false := by rfl) :
    PE X (.Call (.Name x p) [] kws pos) (tCallK0 ks.length sp gV C8.E0 tk) := by
  obtain ⟨f, fd, ps, g, F, hm, kp, b⟩ := c.ex
  exact pe_callK0 F (hr.mono hk) hg hm kp b C8.pass0 hkw hall hks hdb hpl
end
end NB

set_option Elab.async false
set_option linter.all false
set_option maxRecDepth 100000
/-! B19: max and min of a list of whole numbers with a default (its loops are printed by b19.py) -/
namespace NB
open PySem PySem.Spec PyProof.Rows L2
theorem args_maxD (a d : Value) : argsOk "max" ⟨[a], [(Str.ofString "default", d)]⟩ := by unfold argsOk; kernel_rfl
theorem args_minD (a d : Value) : argsOk "min" ⟨[a], [(Str.ofString "default", d)]⟩ := by unfold argsOk; kernel_rfl
section
variable {prog : Program} {w : World} {A : Around} {E : Value → Shared → Prop} {s : Shared}
theorem call_function_treeK {id : String} {b : Builtin} {args : List Value} {kw : List (Str × Value)} {Q : Value → Shared → Prop} (hk : builtinKind id = none) (hp : plainId id = true)
    (hb : entryFor table id = some b) (ha : argsOk id ⟨args, kw⟩)
    (hc : wpAny (model prog w) A.in1 (b ⟨args, kw⟩) (fun fin s' => match fin with
      | .done f => (match (Except.ok f : Result) with | .ok (.ret v) => Q v s' | .ok _ => False | .error e => E e s')
      | .again c' => c'.quiet = true ∧ codeAny (model prog w) A c' (fun r s' => match r with | .ok (.ret v) => Q v s' | .ok _ => False | .error e => E e s') s') E s) :
    wpAny (model prog w) A (call (.builtin id) args kw) Q E s := by
  refine wpAny_call (codeAny_call_builtin hp hb ?_)
  simp only [checkBuiltinCall, hk]
  cases hsig : Manifest.signature? id with
  | none => exact wpAny_pure hc
  | some sig =>
    simp only [argsOk, hsig] at ha
    have h2 : Bind.checkArgs id sig ⟨args, kw⟩ = pure () := ha
    show wpAny _ A.in1 (Bind.checkArgs id sig ⟨args, kw⟩) _ _ s
    rw [h2]; exact wpAny_pure hc
end
section
variable {prog : Program} {w : World} {A : Around} {R : Result → Shared → Prop} {I : Addr} {fp wr : List Addr} {n : Nat} {P : Nat → Value → Prop} {St : Nat → Heap → Prop} {kd : Str} {d : Value}
theorem maxD_loop (W : Walks prog w A.in1 I fp wr n P St) (bt : Nat → Nat → Bool) (hcmp : CmpOf prog w A.in1 .Gt P bt) (S : Addr) (hSf : S ∉ fp) :
    ∀ (k j : Nat) (s : Shared) (vb : Value) (c : Nat), n - (j + 1) = k → j + 1 ≤ n → St (j + 1) s.heap → P (argBest bt j) vb →
    s.heap.get? S = some { cls := .type "list", dict := none, data := .seq #[vb, vb] c, slots := #[] } →
    (∀ v h' tk, P (argBest bt (n - 1)) v → (∀ b o, b ∉ wr → b ≠ S → s.heap.get? b = some o → h'.get? b = some o) → R (.ok (.ret v)) { s with heap := h', toks := tk }) →
    codeAny (model prog w) A (.builtin "max.loop" ⟨[.ref I, .none, .ref S], [(kd, d)]⟩) R s := by
  have hSw : S ∉ wr := fun h => hSf (W.sub _ h)
  have hname : (toString "max" ++ toString ".loop" : String) = "max.loop" := by decide
  intro k
  induction k with
  | zero =>
    intro j s vb c hk hj hst hPb hS hR
    have hin : j + 1 = n := by omega
    refine codeAny_builtin F.entry_max_loop ?_
    rw [Around.under_plainId F.plain_max_loop _]
    show wpAny _ A.in1 (seqItems? (.ref S) >>= _) _ _ s
    refine wpAny_bind (wpAny_seqItems hS rfl ?_)
    show wpAny _ A.in1 (tryCatch (pyNext (.ref I)) _ >>= _) _ _ s
    refine wpAny_bind (wpAny_tryCatch (W.done s _ _ (hin ▸ hst) fun h' tk hk' => ?_))
    have hS' := hk' S _ hSw hS
    show wpAny _ A.in1 (updateSeq S (fun _ => #[]) >>= _) _ _ _
    refine wpAny_bind ?_
    refine wpAny_updateSeq hS' rfl (wpAny_bind (wpAny_letGo (wpAny_pure ?_)))
    refine hR vb _ tk (by rw [← hin]; exact hPb) fun b o hbw hbS e => (Heap.get?_update_other _ _ (Ne.symm hbS)).trans (hk' b o hbw e)
  | succ k ih =>
    intro j s vb c hk hj hst hPb hS hR
    have hlt : j + 1 < n := by omega
    refine codeAny_builtin F.entry_max_loop ?_
    rw [Around.under_plainId F.plain_max_loop _]
    show wpAny _ A.in1 (seqItems? (.ref S) >>= _) _ _ s
    refine wpAny_bind (wpAny_seqItems hS rfl ?_)
    show wpAny _ A.in1 (tryCatch (pyNext (.ref I)) _ >>= _) _ _ s
    refine wpAny_bind (wpAny_tryCatch (W.item (j + 1) s _ _ hlt hst fun v h' tk hP hst' hk' => ?_))
    have hS' := hk' S _ hSw hS
    show wpAny _ A.in1 (tryCatch (holding [v, v] (richCompare .Gt v vb >>= _)) _ >>= _) _ _ _
    refine wpAny_bind (wpAny_tryCatch (wpAny_holding (wpAny_bind (hcmp (j + 1) (argBest bt j) v vb _ _ _ hP hPb ?_))))
    refine wpAny_bind (wpAny_holding (wpAny_truthy_bool ?_))
    refine wpAny_bind (wpAny_letGo (wpAny_pure ?_))
    cases hb : bt (j + 1) (argBest bt j) with
    | true =>
      simp only [if_true]
      refine wpAny_bind ?_
      refine wpAny_updateSeq hS' rfl (wpAny_bind (wpAny_letGo ?_))
      rw [hname]
      refine wpAny_pure ⟨plainId_quiet F.plain_max_loop _, ih (j + 1) _ v _ (by omega) hlt (W.frame _ _ _ hst' fun b hbf o e => ?_) (by simp only [argBest, hb, if_true]; exact hP) (Heap.get?_update_self _ hS' rfl)
        fun v' h'' tk'' hP' hk'' => ?_⟩
      · exact (Heap.get?_update_other _ _ (fun h : S = b => hSf (by rw [h]; exact hbf))).trans e
      · exact hR v' h'' tk'' hP' fun b o hbw hbS e => hk'' b o hbw hbS ((Heap.get?_update_other _ _ (Ne.symm hbS)).trans (hk' b o hbw e))
    | false =>
      simp only [Bool.false_eq_true, if_false]
      refine wpAny_bind (wpAny_letGo ?_)
      rw [hname]
      refine wpAny_pure ⟨plainId_quiet F.plain_max_loop _, ih (j + 1) _ vb c (by omega) hlt hst' (by simp only [argBest, hb, Bool.false_eq_true, if_false]; exact hPb) hS' fun v' h'' tk'' hP' hk'' => ?_⟩
      exact hR v' h'' tk'' hP' fun b o hbw hbS e => hk'' b o hbw hbS (hk' b o hbw e)
theorem maxD_loop_first (W : Walks prog w A.in1 I fp wr n P St) (bt : Nat → Nat → Bool) (hcmp : CmpOf prog w A.in1 .Gt P bt) (S : Addr) (hSf : S ∉ fp) (hn : 0 < n) {s : Shared} {c : Nat} (hst : St 0 s.heap)
    (hS : s.heap.get? S = some { cls := .type "list", dict := none, data := .seq #[] c, slots := #[] })
    (hR : ∀ v h' tk, P (argBest bt (n - 1)) v → (∀ b o, b ∉ wr → b ≠ S → s.heap.get? b = some o → h'.get? b = some o) → R (.ok (.ret v)) { s with heap := h', toks := tk }) :
    codeAny (model prog w) A (.builtin "max.loop" ⟨[.ref I, .none, .ref S], [(kd, d)]⟩) R s := by
  have hSw : S ∉ wr := fun h => hSf (W.sub _ h)
  have hname : (toString "max" ++ toString ".loop" : String) = "max.loop" := by decide
  refine codeAny_builtin F.entry_max_loop ?_
  rw [Around.under_plainId F.plain_max_loop _]
  show wpAny _ A.in1 (seqItems? (.ref S) >>= _) _ _ s
  refine wpAny_bind (wpAny_seqItems hS rfl ?_)
  show wpAny _ A.in1 (tryCatch (pyNext (.ref I)) _ >>= _) _ _ s
  refine wpAny_bind (wpAny_tryCatch (W.item 0 s _ _ hn hst fun v h' tk hP hst' hk' => ?_))
  have hS' := hk' S _ hSw hS
  show wpAny _ A.in1 (updateSeq S (fun _ => #[v, v]) >>= _) _ _ _
  refine wpAny_bind ?_
  refine wpAny_updateSeq hS' rfl ?_
  rw [hname]
  refine wpAny_pure ⟨plainId_quiet F.plain_max_loop _, maxD_loop W bt hcmp S hSf _ 0 _ v _ rfl hn (W.frame _ _ _ hst' fun b hbf o e => ?_) hP (Heap.get?_update_self _ hS' rfl) fun v' h'' tk'' hP' hk'' => ?_⟩
  · exact (Heap.get?_update_other _ _ (fun h : S = b => hSf (by rw [h]; exact hbf))).trans e
  · exact hR v' h'' tk'' hP' fun b o hbw hbS e => hk'' b o hbw hbS ((Heap.get?_update_other _ _ (Ne.symm hbS)).trans (hk' b o hbw e))
theorem maxD_none (W : Walks prog w A.in1 I fp wr 0 P St) (S : Addr) (hSf : S ∉ fp) {s : Shared} {c : Nat} (hst : St 0 s.heap)
    (hS : s.heap.get? S = some { cls := .type "list", dict := none, data := .seq #[] c, slots := #[] })
    (hR : ∀ h' tk, (∀ b o, b ∉ wr → b ≠ S → s.heap.get? b = some o → h'.get? b = some o) → R (.ok (.ret d)) { s with heap := h', toks := tk }) :
    codeAny (model prog w) A (.builtin "max.loop" ⟨[.ref I, .none, .ref S], [(kd, d)]⟩) R s := by
  refine codeAny_builtin F.entry_max_loop ?_
  rw [Around.under_plainId F.plain_max_loop _]
  show wpAny _ A.in1 (seqItems? (.ref S) >>= _) _ _ s
  refine wpAny_bind (wpAny_seqItems hS rfl ?_)
  show wpAny _ A.in1 (tryCatch (pyNext (.ref I)) _ >>= _) _ _ s
  refine wpAny_bind (wpAny_tryCatch (W.done s _ _ hst fun h' tk hk' => ?_))
  refine wpAny_bind (wpAny_rule ?_)
  exact wpAny_pure (hR h' tk fun b o hbw _ e => hk' b o hbw e)
end
section
variable {prog : Program} {w : World} {A : Around} {E : Value → Shared → Prop} {s : Shared} {d : Value}
theorem tree_maxD (x d : Value) {Q : Value → Shared → Prop}
    (h : wpAny (model prog w) A.in1 (pyIter x) (fun it s₂ => ∃ I fp wr n P St bt, it = .ref I ∧ Walks prog w A.in1 I fp wr n P St ∧ St 0 s₂.heap ∧ (∀ b ∈ fp, b < s₂.heap.objs.size) ∧ CmpOf prog w A.in1 .Gt P bt ∧
      (0 < n → ∀ v h' tk, P (argBest bt (n - 1)) v → (∀ b o, b ∉ wr → s₂.heap.get? b = some o → h'.get? b = some o) → Q v { s₂ with heap := h', toks := tk }) ∧
      (n = 0 → ∀ h' tk, (∀ b o, b ∉ wr → s₂.heap.get? b = some o → h'.get? b = some o) → Q d { s₂ with heap := h', toks := tk })) E s) :
    wpAny (model prog w) A (call (.builtin "max") [x] [(Str.ofString "default", d)]) Q E s := by
  have hname : (toString "max" ++ toString ".loop" : String) = "max.loop" := by decide
  refine call_function_treeK F.kind_max F.plain_max F.entry_max (args_maxD _ _) ?_
  show wpAny _ A.in1 (Builtin.Builtins.bindParams "max" ["key", "default"] 0 ⟨[], [(Str.ofString "default", d)]⟩ >>= _) _ _ s
  refine wpAny_bind (wpAny_of_eq (show Builtin.Builtins.bindParams "max" ["key", "default"] 0 ⟨[], [(Str.ofString "default", d)]⟩ = pure [none, some d] from rfl) ?_)
  refine wpAny_bind (wpAny_pure ?_)
  refine wpAny_bind (wpAny_mono h (fun it s₂ h₂ => ?_) fun _ _ e => e)
  obtain ⟨I, fp, wr, n, P, St, bt, rfl, W, hst, hfp, hcmp, hQ, hQ0⟩ := h₂
  refine wpAny_bind (wpAny_newObj_type ?_)
  have hSf : s₂.heap.objs.size ∉ fp := fun hm => Nat.lt_irrefl _ (hfp _ hm)
  rw [hname]
  by_cases hn : 0 < n
  · refine wpAny_pure ⟨plainId_quiet F.plain_max_loop _, maxD_loop_first W bt hcmp s₂.heap.objs.size hSf hn (W.frame _ _ _ hst fun b _ o e => Heap.get?_push_of_some _ e) (Heap.get?_push_size _ rfl) fun v h' tk hP hk => ?_⟩
    exact hQ hn v h' tk hP fun b o hbw e => hk b o hbw (Nat.ne_of_lt (Heap.lt_size e)) (Heap.get?_push_of_some _ e)
  · obtain rfl : n = 0 := by omega
    refine wpAny_pure ⟨plainId_quiet F.plain_max_loop _, maxD_none W s₂.heap.objs.size hSf (W.frame _ _ _ hst fun b _ o e => Heap.get?_push_of_some _ e) (Heap.get?_push_size _ rfl) fun h' tk hk => ?_⟩
    exact hQ0 rfl h' tk fun b o hbw e => hk b o hbw (Nat.ne_of_lt (Heap.lt_size e)) (Heap.get?_push_of_some _ e)
end
section
variable {prog : Program} {w : World} {A : Around} {R : Result → Shared → Prop} {I : Addr} {fp wr : List Addr} {n : Nat} {P : Nat → Value → Prop} {St : Nat → Heap → Prop} {kd : Str} {d : Value}
theorem minD_loop (W : Walks prog w A.in1 I fp wr n P St) (bt : Nat → Nat → Bool) (hcmp : CmpOf prog w A.in1 .Lt P bt) (S : Addr) (hSf : S ∉ fp) :
    ∀ (k j : Nat) (s : Shared) (vb : Value) (c : Nat), n - (j + 1) = k → j + 1 ≤ n → St (j + 1) s.heap → P (argBest bt j) vb →
    s.heap.get? S = some { cls := .type "list", dict := none, data := .seq #[vb, vb] c, slots := #[] } →
    (∀ v h' tk, P (argBest bt (n - 1)) v → (∀ b o, b ∉ wr → b ≠ S → s.heap.get? b = some o → h'.get? b = some o) → R (.ok (.ret v)) { s with heap := h', toks := tk }) →
    codeAny (model prog w) A (.builtin "min.loop" ⟨[.ref I, .none, .ref S], [(kd, d)]⟩) R s := by
  have hSw : S ∉ wr := fun h => hSf (W.sub _ h)
  have hname : (toString "min" ++ toString ".loop" : String) = "min.loop" := by decide
  intro k
  induction k with
  | zero =>
    intro j s vb c hk hj hst hPb hS hR
    have hin : j + 1 = n := by omega
    refine codeAny_builtin F.entry_min_loop ?_
    rw [Around.under_plainId F.plain_min_loop _]
    show wpAny _ A.in1 (seqItems? (.ref S) >>= _) _ _ s
    refine wpAny_bind (wpAny_seqItems hS rfl ?_)
    show wpAny _ A.in1 (tryCatch (pyNext (.ref I)) _ >>= _) _ _ s
    refine wpAny_bind (wpAny_tryCatch (W.done s _ _ (hin ▸ hst) fun h' tk hk' => ?_))
    have hS' := hk' S _ hSw hS
    show wpAny _ A.in1 (updateSeq S (fun _ => #[]) >>= _) _ _ _
    refine wpAny_bind ?_
    refine wpAny_updateSeq hS' rfl (wpAny_bind (wpAny_letGo (wpAny_pure ?_)))
    refine hR vb _ tk (by rw [← hin]; exact hPb) fun b o hbw hbS e => (Heap.get?_update_other _ _ (Ne.symm hbS)).trans (hk' b o hbw e)
  | succ k ih =>
    intro j s vb c hk hj hst hPb hS hR
    have hlt : j + 1 < n := by omega
    refine codeAny_builtin F.entry_min_loop ?_
    rw [Around.under_plainId F.plain_min_loop _]
    show wpAny _ A.in1 (seqItems? (.ref S) >>= _) _ _ s
    refine wpAny_bind (wpAny_seqItems hS rfl ?_)
    show wpAny _ A.in1 (tryCatch (pyNext (.ref I)) _ >>= _) _ _ s
    refine wpAny_bind (wpAny_tryCatch (W.item (j + 1) s _ _ hlt hst fun v h' tk hP hst' hk' => ?_))
    have hS' := hk' S _ hSw hS
    show wpAny _ A.in1 (tryCatch (holding [v, v] (richCompare .Lt v vb >>= _)) _ >>= _) _ _ _
    refine wpAny_bind (wpAny_tryCatch (wpAny_holding (wpAny_bind (hcmp (j + 1) (argBest bt j) v vb _ _ _ hP hPb ?_))))
    refine wpAny_bind (wpAny_holding (wpAny_truthy_bool ?_))
    refine wpAny_bind (wpAny_letGo (wpAny_pure ?_))
    cases hb : bt (j + 1) (argBest bt j) with
    | true =>
      simp only [if_true]
      refine wpAny_bind ?_
      refine wpAny_updateSeq hS' rfl (wpAny_bind (wpAny_letGo ?_))
      rw [hname]
      refine wpAny_pure ⟨plainId_quiet F.plain_min_loop _, ih (j + 1) _ v _ (by omega) hlt (W.frame _ _ _ hst' fun b hbf o e => ?_) (by simp only [argBest, hb, if_true]; exact hP) (Heap.get?_update_self _ hS' rfl)
        fun v' h'' tk'' hP' hk'' => ?_⟩
      · exact (Heap.get?_update_other _ _ (fun h : S = b => hSf (by rw [h]; exact hbf))).trans e
      · exact hR v' h'' tk'' hP' fun b o hbw hbS e => hk'' b o hbw hbS ((Heap.get?_update_other _ _ (Ne.symm hbS)).trans (hk' b o hbw e))
    | false =>
      simp only [Bool.false_eq_true, if_false]
      refine wpAny_bind (wpAny_letGo ?_)
      rw [hname]
      refine wpAny_pure ⟨plainId_quiet F.plain_min_loop _, ih (j + 1) _ vb c (by omega) hlt hst' (by simp only [argBest, hb, Bool.false_eq_true, if_false]; exact hPb) hS' fun v' h'' tk'' hP' hk'' => ?_⟩
      exact hR v' h'' tk'' hP' fun b o hbw hbS e => hk'' b o hbw hbS (hk' b o hbw e)
theorem minD_loop_first (W : Walks prog w A.in1 I fp wr n P St) (bt : Nat → Nat → Bool) (hcmp : CmpOf prog w A.in1 .Lt P bt) (S : Addr) (hSf : S ∉ fp) (hn : 0 < n) {s : Shared} {c : Nat} (hst : St 0 s.heap)
    (hS : s.heap.get? S = some { cls := .type "list", dict := none, data := .seq #[] c, slots := #[] })
    (hR : ∀ v h' tk, P (argBest bt (n - 1)) v → (∀ b o, b ∉ wr → b ≠ S → s.heap.get? b = some o → h'.get? b = some o) → R (.ok (.ret v)) { s with heap := h', toks := tk }) :
    codeAny (model prog w) A (.builtin "min.loop" ⟨[.ref I, .none, .ref S], [(kd, d)]⟩) R s := by
  have hSw : S ∉ wr := fun h => hSf (W.sub _ h)
  have hname : (toString "min" ++ toString ".loop" : String) = "min.loop" := by decide
  refine codeAny_builtin F.entry_min_loop ?_
  rw [Around.under_plainId F.plain_min_loop _]
  show wpAny _ A.in1 (seqItems? (.ref S) >>= _) _ _ s
  refine wpAny_bind (wpAny_seqItems hS rfl ?_)
  show wpAny _ A.in1 (tryCatch (pyNext (.ref I)) _ >>= _) _ _ s
  refine wpAny_bind (wpAny_tryCatch (W.item 0 s _ _ hn hst fun v h' tk hP hst' hk' => ?_))
  have hS' := hk' S _ hSw hS
  show wpAny _ A.in1 (updateSeq S (fun _ => #[v, v]) >>= _) _ _ _
  refine wpAny_bind ?_
  refine wpAny_updateSeq hS' rfl ?_
  rw [hname]
  refine wpAny_pure ⟨plainId_quiet F.plain_min_loop _, minD_loop W bt hcmp S hSf _ 0 _ v _ rfl hn (W.frame _ _ _ hst' fun b hbf o e => ?_) hP (Heap.get?_update_self _ hS' rfl) fun v' h'' tk'' hP' hk'' => ?_⟩
  · exact (Heap.get?_update_other _ _ (fun h : S = b => hSf (by rw [h]; exact hbf))).trans e
  · exact hR v' h'' tk'' hP' fun b o hbw hbS e => hk'' b o hbw hbS ((Heap.get?_update_other _ _ (Ne.symm hbS)).trans (hk' b o hbw e))
theorem minD_none (W : Walks prog w A.in1 I fp wr 0 P St) (S : Addr) (hSf : S ∉ fp) {s : Shared} {c : Nat} (hst : St 0 s.heap)
    (hS : s.heap.get? S = some { cls := .type "list", dict := none, data := .seq #[] c, slots := #[] })
    (hR : ∀ h' tk, (∀ b o, b ∉ wr → b ≠ S → s.heap.get? b = some o → h'.get? b = some o) → R (.ok (.ret d)) { s with heap := h', toks := tk }) :
    codeAny (model prog w) A (.builtin "min.loop" ⟨[.ref I, .none, .ref S], [(kd, d)]⟩) R s := by
  refine codeAny_builtin F.entry_min_loop ?_
  rw [Around.under_plainId F.plain_min_loop _]
  show wpAny _ A.in1 (seqItems? (.ref S) >>= _) _ _ s
  refine wpAny_bind (wpAny_seqItems hS rfl ?_)
  show wpAny _ A.in1 (tryCatch (pyNext (.ref I)) _ >>= _) _ _ s
  refine wpAny_bind (wpAny_tryCatch (W.done s _ _ hst fun h' tk hk' => ?_))
  refine wpAny_bind (wpAny_rule ?_)
  exact wpAny_pure (hR h' tk fun b o hbw _ e => hk' b o hbw e)
end
section
variable {prog : Program} {w : World} {A : Around} {E : Value → Shared → Prop} {s : Shared} {d : Value}
theorem tree_minD (x d : Value) {Q : Value → Shared → Prop}
    (h : wpAny (model prog w) A.in1 (pyIter x) (fun it s₂ => ∃ I fp wr n P St bt, it = .ref I ∧ Walks prog w A.in1 I fp wr n P St ∧ St 0 s₂.heap ∧ (∀ b ∈ fp, b < s₂.heap.objs.size) ∧ CmpOf prog w A.in1 .Lt P bt ∧
      (0 < n → ∀ v h' tk, P (argBest bt (n - 1)) v → (∀ b o, b ∉ wr → s₂.heap.get? b = some o → h'.get? b = some o) → Q v { s₂ with heap := h', toks := tk }) ∧
      (n = 0 → ∀ h' tk, (∀ b o, b ∉ wr → s₂.heap.get? b = some o → h'.get? b = some o) → Q d { s₂ with heap := h', toks := tk })) E s) :
    wpAny (model prog w) A (call (.builtin "min") [x] [(Str.ofString "default", d)]) Q E s := by
  have hname : (toString "min" ++ toString ".loop" : String) = "min.loop" := by decide
  refine call_function_treeK F.kind_min F.plain_min F.entry_min (args_minD _ _) ?_
  show wpAny _ A.in1 (Builtin.Builtins.bindParams "min" ["key", "default"] 0 ⟨[], [(Str.ofString "default", d)]⟩ >>= _) _ _ s
  refine wpAny_bind (wpAny_of_eq (show Builtin.Builtins.bindParams "min" ["key", "default"] 0 ⟨[], [(Str.ofString "default", d)]⟩ = pure [none, some d] from rfl) ?_)
  refine wpAny_bind (wpAny_pure ?_)
  refine wpAny_bind (wpAny_mono h (fun it s₂ h₂ => ?_) fun _ _ e => e)
  obtain ⟨I, fp, wr, n, P, St, bt, rfl, W, hst, hfp, hcmp, hQ, hQ0⟩ := h₂
  refine wpAny_bind (wpAny_newObj_type ?_)
  have hSf : s₂.heap.objs.size ∉ fp := fun hm => Nat.lt_irrefl _ (hfp _ hm)
  rw [hname]
  by_cases hn : 0 < n
  · refine wpAny_pure ⟨plainId_quiet F.plain_min_loop _, minD_loop_first W bt hcmp s₂.heap.objs.size hSf hn (W.frame _ _ _ hst fun b _ o e => Heap.get?_push_of_some _ e) (Heap.get?_push_size _ rfl) fun v h' tk hP hk => ?_⟩
    exact hQ hn v h' tk hP fun b o hbw e => hk b o hbw (Nat.ne_of_lt (Heap.lt_size e)) (Heap.get?_push_of_some _ e)
  · obtain rfl : n = 0 := by omega
    refine wpAny_pure ⟨plainId_quiet F.plain_min_loop _, minD_none W s₂.heap.objs.size hSf (W.frame _ _ _ hst fun b _ o e => Heap.get?_push_of_some _ e) (Heap.get?_push_size _ rfl) fun h' tk hk => ?_⟩
    exact hQ0 rfl h' tk fun b o hbw e => hk b o hbw (Nat.ne_of_lt (Heap.lt_size e)) (Heap.get?_push_of_some _ e)
end
section
variable {prog : Program} {w : World} {A : Around} {E : Value → Shared → Prop} {s : Shared} {l : Addr} {its : List Value} {ns : List Int} {d : Value} {Q : Value → Shared → Prop}
theorem maxD_raw (hh : A.handled = none) (hl : s.heap.IsList l its.toArray) (hi : IntsAre its ns)
    (h : ns ≠ [] → ∀ h' tk M t', (∀ b o, s.heap.get? b = some o → h'.get? b = some o) → M ∈ ns → (∀ a, a ∈ ns → a ≤ M) → Q (.int M t') { s with heap := h', toks := tk })
    (h0 : ns = [] → ∀ h' tk, (∀ b o, s.heap.get? b = some o → h'.get? b = some o) → Q d { s with heap := h', toks := tk }) : wpAny (model prog w) A (call (.builtin "max") [.ref l] [(Str.ofString "default", d)]) Q E s := by
  obtain ⟨xs, e⟩ := hi.allInts.items
  have hn : numsOf (intItems xs).toList = ns := by rw [← e]; exact hi.numsOf
  rw [nums_intItems] at hn
  subst hn
  rw [e] at hl
  refine tree_maxD _ _ (iter_intList hl fun s₂ e st hfp hlI => ?_)
  subst e
  refine ⟨_, _, _, _, _, _, _, rfl, Walks.list (A := A.in1) hh _ l hlI (intItems xs), st, hfp, CmpOf.ints_gt (numAt xs) (fun _ _ => intItems_at), fun hn v h' tk hP hk => ?_, fun hn h' tk hk => ?_⟩
  · have hsz : 0 < xs.size := by simpa [intItems] using hn
    have es : (intItems xs).size = xs.size := by simp [intItems]
    rw [es] at hP
    obtain ⟨t, rfl⟩ := intItems_at hP
    obtain ⟨h1, h2⟩ := argBest_gt (numAt xs) (xs.size - 1)
    refine h (fun z => ?_) h' tk _ t (old_kept hk) ?_ fun a ha => ?_
    · have := congrArg List.length z
      simp only [List.length_map, Array.length_toList, List.length_nil] at this
      omega
    · rw [numAt_eq]; exact PySem.getD_mem (by rw [List.length_map, Array.length_toList]; omega)
    · obtain ⟨j, hj, rfl⟩ := mem_getD ha
      rw [List.length_map, Array.length_toList] at hj
      rw [← numAt_eq]; exact h2 j (by omega)
  · have hsz : xs.size = 0 := by simpa [intItems] using hn
    refine h0 ?_ h' tk (old_kept hk)
    have : xs.toList.length = 0 := by rw [Array.length_toList]; exact hsz
    rw [List.length_eq_zero_iff.mp this]
    rfl
theorem minD_raw (hh : A.handled = none) (hl : s.heap.IsList l its.toArray) (hi : IntsAre its ns)
    (h : ns ≠ [] → ∀ h' tk M t', (∀ b o, s.heap.get? b = some o → h'.get? b = some o) → M ∈ ns → (∀ a, a ∈ ns → M ≤ a) → Q (.int M t') { s with heap := h', toks := tk })
    (h0 : ns = [] → ∀ h' tk, (∀ b o, s.heap.get? b = some o → h'.get? b = some o) → Q d { s with heap := h', toks := tk }) : wpAny (model prog w) A (call (.builtin "min") [.ref l] [(Str.ofString "default", d)]) Q E s := by
  obtain ⟨xs, e⟩ := hi.allInts.items
  have hn : numsOf (intItems xs).toList = ns := by rw [← e]; exact hi.numsOf
  rw [nums_intItems] at hn
  subst hn
  rw [e] at hl
  refine tree_minD _ _ (iter_intList hl fun s₂ e st hfp hlI => ?_)
  subst e
  refine ⟨_, _, _, _, _, _, _, rfl, Walks.list (A := A.in1) hh _ l hlI (intItems xs), st, hfp, CmpOf.ints_lt (numAt xs) (fun _ _ => intItems_at), fun hn v h' tk hP hk => ?_, fun hn h' tk hk => ?_⟩
  · have hsz : 0 < xs.size := by simpa [intItems] using hn
    have es : (intItems xs).size = xs.size := by simp [intItems]
    rw [es] at hP
    obtain ⟨t, rfl⟩ := intItems_at hP
    obtain ⟨h1, h2⟩ := argBest_lt (numAt xs) (xs.size - 1)
    refine h (fun z => ?_) h' tk _ t (old_kept hk) ?_ fun a ha => ?_
    · have := congrArg List.length z
      simp only [List.length_map, Array.length_toList, List.length_nil] at this
      omega
    · rw [numAt_eq]; exact PySem.getD_mem (by rw [List.length_map, Array.length_toList]; omega)
    · obtain ⟨j, hj, rfl⟩ := mem_getD ha
      rw [List.length_map, Array.length_toList] at hj
      rw [← numAt_eq]; exact h2 j (by omega)
  · have hsz : xs.size = 0 := by simpa [intItems] using hn
    refine h0 ?_ h' tk (old_kept hk)
    have : xs.toList.length = 0 := by rw [Array.length_toList]; exact hsz
    rw [List.length_eq_zero_iff.mp this]
    rfl
end
section
variable {X : Cx}
/-- max(xs, default=d), min(xs, default=d) -/
def rMaxD (K : PySem.W.Frag) : List V → List V → Hp → VK → Prop := fun vs zs H Q => ∃ (a : Addr) (ns : List Int) (d : V), vs = [V.ref a] ∧ zs = [d] ∧ SqL K H a (ns.map V.int) ∧ (ns = [] → Q d H) ∧ ∀ m, m ∈ ns → (∀ y, y ∈ ns → y ≤ m) → Q (.int m) H
def rMinD (K : PySem.W.Frag) : List V → List V → Hp → VK → Prop := fun vs zs H Q => ∃ (a : Addr) (ns : List Int) (d : V), vs = [V.ref a] ∧ zs = [d] ∧ SqL K H a (ns.map V.int) ∧ (ns = [] → Q d H) ∧ ∀ m, m ∈ ns → (∀ y, y ∈ ns → m ≤ y) → Q (.int m) H
theorem cr_maxD (hc : X.calm = true) : CallRK X (.builtin "max") [Str.ofString "default"] (rMaxD X.K) := by
  intro pins s σ H vs zs us ws Q I r rz h
  obtain ⟨a, ns, d, rfl, rfl, hs, q0, q⟩ := h
  obtain ⟨its, rv, hl, _⟩ := I.list hs
  obtain rfl := Vals.ref1 r
  obtain ⟨w1, rfl, e1⟩ := vals1 rz
  exact maxD_raw (I.ok.hd hc) hl.isList rv.ints (fun _ h' tk m t' hk h1 h2 => ⟨.int _, H, I.kept hk, ⟨_, rfl⟩, q m h1 h2⟩) fun z h' tk hk => ⟨d, H, I.kept hk, e1, q0 z⟩
theorem cr_minD (hc : X.calm = true) : CallRK X (.builtin "min") [Str.ofString "default"] (rMinD X.K) := by
  intro pins s σ H vs zs us ws Q I r rz h
  obtain ⟨a, ns, d, rfl, rfl, hs, q0, q⟩ := h
  obtain ⟨its, rv, hl, _⟩ := I.list hs
  obtain rfl := Vals.ref1 r
  obtain ⟨w1, rfl, e1⟩ := vals1 rz
  exact minD_raw (I.ok.hd hc) hl.isList rv.ints (fun _ h' tk m t' hk h1 h2 => ⟨.int _, H, I.kept hk, ⟨_, rfl⟩, q m h1 h2⟩) fun z h' tk hk => ⟨d, H, I.kept hk, e1, q0 z⟩
end
end NB

set_option Elab.async false
set_option linter.all false
set_option maxRecDepth 100000
set_option maxHeartbeats 2000000
/-! B20: sorted(s), s a set of any number of whole numbers -/
namespace NB
open PySem PySem.Spec PyProof.Rows L2
section
variable {P : Program} {w : World} {A : Around} {E : Value → Shared → Prop} {s : Shared} {a : Addr}
theorem sorted_setN {S : Int → Bool} {n : Nat} {Q : Value → Shared → Prop} (R : SetR w s.heap a S n) (hh : A.handled = none) (hz : n ≤ sizeLine)
    (hQ : ∀ s' p (out : Array Value) (c : Nat) (ns : List Int), (∀ b o, s.heap.get? b = some o → s'.heap.get? b = some o) → s'.gens = s.gens → s'.os = s.os → s.heap.objs.size ≤ p →
      s'.heap.get? p = some (seqObj "list" out c) → IntsAre out.toList ns → ns.Pairwise (· < ·) → (∀ k, k ∈ ns ↔ S k = true) → ns.length = n → Q (.ref p) s') :
    wpAny (model P w) A (call (.builtin "sorted") [.ref a]) Q E s := by
  obtain ⟨o, es, ep, t, ho, hex, hd, g, nd, hm, hb, hf, hn, hr, hl⟩ := R
  refine Calls.call_function_entry kind_sorted plain_sorted entry_sorted (args_sorted1 _) ?_
  unfold Builtin.«sorted»
  refine wpAny_bind (m := checkCount "sorted" 1 1 _) (wpAny_pure ?_)
  refine wpAny_bind (collect_set (A := A.in1) hh ⟨o, ho, hex.1, hd⟩ hf hb hr hl fun s1 vs k1 hz1 g1 o1 pm => ?_)
  have hvl : vs.length = n := by rw [pm.length_eq, List.length_map, Array.length_toList]; exact hn
  have hI : IntsAre vs (vs.map Builtin.Re.reRawOf) := ints_of vs fun v hv => by
    obtain ⟨e, he, q⟩ := List.mem_map.mp (pm.mem_iff.mp hv)
    obtain ⟨k, tk, h1, _⟩ := g e he
    exact ⟨k, tk, by rw [← q]; exact h1⟩
  have pk : (vs.map Builtin.Re.reRawOf).Perm (es.toList.map keyOf) := by
    have q := pm.map Builtin.Re.reRawOf
    rw [List.map_map] at q
    exact q
  refine wpAny_bind (wpAny_newList ?_ (by rw [hvl]; exact hz))
  have hoL : (s1.heap.push (seqObj "list" vs.toArray 0)).get? s1.heap.objs.size = some (seqObj "list" vs.toArray 0) := Heap.get?_push_size _ rfl
  refine wpAny_bind (wpAny_holding (wpAny_call_entry slot_list_sort ⟨_, hoL, rfl⟩ entry_list_sort (SrtO.list_sort_ord SrtO.swo_int hoL (by rw [hvl]; exact hz) (fun h2 => SrtO.ints_sortable hI h2) fun out h1 h2 => ⟨_, rfl, ?_⟩) (args_list_sort _)))
  obtain ⟨a1, a2, a3⟩ := SrtO.ints_out hI h1 h2
  obtain ⟨c, hc⟩ := sortedHeap_at (vs := vs) (out := out.toArray) hoL
  have pn : (out.map SrtO.iv).Perm (es.toList.map keyOf) := a2.trans pk
  refine wpAny_pure ⟨_, rfl, hQ _ s1.heap.objs.size out.toArray c (out.map SrtO.iv) (fun b u e => ?_) g1 o1 hz1 hc (by simpa using a1) (lt_of_le_nodup _ a3 (pn.nodup_iff.mpr nd)) (fun k => by rw [pn.mem_iff, ← hm k]) ?_⟩
  · have q := k1 b u e
    have hlt := Heap.lt_size q
    show (sortedHeap (s1.heap.push (seqObj "list" vs.toArray 0)) s1.heap.objs.size vs out.toArray).get? b = some u
    rw [sortedHeap_old (Nat.ne_of_lt hlt) (by rw [size_push']; exact Nat.lt_succ_of_lt hlt)]
    exact Heap.get?_push_of_some _ q
  · rw [pn.length_eq, List.length_map, Array.length_toList]; exact hn
end
def rSortedSetN (w : World) : List V → Hp → VK → Prop := fun vs H Q => ∃ (a : Addr) (S : Int → Bool) (n : Nat), vs = [V.ref a] ∧ H a = some (SetO w a S n) ∧ n ≤ 2000 ∧
  ∀ (ns : List Int) (p : Addr), ns.Pairwise (· < ·) → (∀ k : Int, k ∈ ns ↔ S k = true) → ns.length = n → H p = none → Q (.ref p) (upd H p (.lst (ns.map V.int)))
theorem cr_sortedSetN {X : Cx} (hc : X.calm = true) : CallR X (.builtin "sorted") (rSortedSetN X.w) := by
  intro pins s σ H vs us Q I r h
  obtain ⟨a, S, n, rfl, ha, hz, q⟩ := h
  have R := setO_get I ha
  rw [Vals.ref1 r]
  refine sorted_setN R (I.ok.hd hc) (by rw [sizeLine_eq]; omega) fun s' p out c ns k g o hp hg hi hs hm hl => ?_
  have hlen : (ns.map V.int).length ≤ sizeLine := by rw [List.length_map, hl, sizeLine_eq]; omega
  have hn : H p = none := I.hok.fresh hp
  have J : Inv X pins σ (upd H p (.lst (ns.map V.int))) { s with heap := s'.heap, gens := s'.gens, drawn := s'.drawn, toks := s'.toks } :=
    I.call (ch := []) (Un.laid k hp hn) (I.hok.laid k hp ⟨hlen, out.toList, c, vals_of_ints hi, hg⟩) (by rw [g]; exact I.bare) (fun _ z => nomatch z)
  have e : s' = { s with heap := s'.heap, gens := s'.gens, drawn := s'.drawn, toks := s'.toks } := by
    cases s'
    cases s
    cases o
    rfl
  rw [e]
  exact ⟨.ref p, _, J, rfl, q ns p hs hm hl hn⟩
end NB

set_option Elab.async false
set_option linter.all false
set_option maxRecDepth 100000
/-! B21: a dict by a comprehension over a list -/
namespace NB
open PySem PySem.Spec L2
theorem dc_list {K : PySem.W.Frag} {a : Addr} {xs : List V} {g : TG} {tt : TT} {tk tv : TE} {vs : List Nat} {σ : L2.St} {H1 : Hp} {D : Addr} {Qd : Hp → Prop} (Pv : Nat → Hp → Prop) (h0 : Pv 0 (upd H1 D (.dK []))) (hl : ∀ i H, i ≤ xs.length → Pv i H → SqL K H a xs)
    (hs : ∀ i x H, xs[i]? = some x → Pv i H → g x (wipe σ vs) H fun σ2 H2 => wipe σ2 vs = wipe σ vs ∧ tt σ2 H2 fun b H3 =>
      if b = true then tk σ2 H3 fun y H4 => tv σ2 H4 fun z H5 => ∃ kvs k, y = kV k ∧ H5 D = some (.dK kvs) ∧ kvs.length < sizeLine ∧ Pv (i + 1) (upd H5 D (.dK (putK kvs k z))) else Pv (i + 1) H3) (hd : ∀ H, Pv xs.length H → Qd H) :
    ∃ W : Nat → Nat → Hp → Prop, (∃ m, W 0 m (upd H1 D (.dK []))) ∧ ∀ i m H, W i m H →
      ((Itl K a).stop i H ∧ Qd H) ∨ ((Itl K a).go i H ∧ ∃ Nx : Hp → Prop, (∀ H', Nx H' → ∃ m', m' < m ∧ W (i + 1) m' H') ∧ ∀ x H', (Itl K a).yld i H x H' → g x (wipe σ vs) H' fun σ2 H2 => wipe σ2 vs = wipe σ vs ∧ tt σ2 H2 fun b H3 =>
        if b = true then tk σ2 H3 fun y H4 => tv σ2 H4 fun z H5 => ∃ kvs k, y = kV k ∧ H5 D = some (.dK kvs) ∧ kvs.length < sizeLine ∧ Nx (upd H5 D (.dK (putK kvs k z))) else Nx H3) := by
  refine ⟨fun i m H => m = xs.length - i ∧ i ≤ xs.length ∧ Pv i H, ⟨xs.length, by simp, Nat.zero_le _, h0⟩, ?_⟩
  rintro i m H ⟨rfl, hi, p⟩
  have q := hl i H hi p
  by_cases h : i < xs.length
  · refine .inr ⟨⟨xs, xs[i], q, by simp [h]⟩, Pv (i + 1), fun H' p' => ⟨xs.length - (i + 1), by omega, rfl, h, p'⟩, fun x H' y => ?_⟩
    obtain ⟨e, y⟩ := y
    subst e
    exact hs i x _ (y xs q) p
  · obtain rfl : i = xs.length := by omega
    exact .inl ⟨⟨xs, q, Nat.le_refl _⟩, hd H p⟩
end NB

set_option Elab.async false
set_option linter.all false
set_option maxRecDepth 100000
namespace NB
open PySem PySem.Spec PyProof.Rows L2 C8
def top (i : Nat) : Stmt := PySem.Challenge.pw_numberbooks_k05_windows.main.body.getD i (.Pass ⟨0, 0, 0, 0⟩)
abbrev s_is_integer : Stmt := top 16
theorem sc_is_integer : FnScope ["thing"] ["thing"] (fnScope s_is_integer) := fnScope_by (by decide +kernel)
abbrev s_is_size : Stmt := top 17
theorem sc_is_size : FnScope ["thing"] ["thing"] (fnScope s_is_size) := fnScope_by (by decide +kernel)
abbrev s_is_name : Stmt := top 18
theorem sc_is_name : FnScope ["thing", "letter"] ["thing"] (fnScope s_is_name) := fnScope_by (by decide +kernel)
abbrev s_are_servers : Stmt := top 19
theorem sc_are_servers : FnScope ["thing", "name"] ["thing"] (fnScope s_are_servers) := fnScope_by (by decide +kernel)
abbrev s_is_server : Stmt := top 20
theorem sc_is_server : FnScope ["servers", "thing"] ["servers", "thing"] (fnScope s_is_server) := fnScope_by (by decide +kernel)
abbrev s_is_entry : Stmt := top 21
theorem sc_is_entry : FnScope ["servers", "thing"] ["servers", "thing"] (fnScope s_is_entry) := fnScope_by (by decide +kernel)
abbrev s_are_entries : Stmt := top 22
theorem sc_are_entries : FnScope ["servers", "thing", "entry"] ["servers", "thing"] (fnScope s_are_entries) := fnScope_by (by decide +kernel)
abbrev s_need_server : Stmt := top 23
theorem sc_need_server : FnScope ["servers", "thing"] ["servers", "thing"] (fnScope s_need_server) := fnScope_by (by decide +kernel)
abbrev s_Log___init__ : Stmt := inClass (top 24) 1
theorem sc_Log___init__ : FnScope ["self", "size", "servers", "entries"] ["self", "size", "servers", "entries"] (fnScope s_Log___init__) := fnScope_by (by decide +kernel)
abbrev s_Log_size : Stmt := inClass (top 24) 2
theorem sc_Log_size : FnScope ["self"] ["self"] (fnScope s_Log_size) := fnScope_by (by decide +kernel)
abbrev s_Log_servers : Stmt := inClass (top 24) 3
theorem sc_Log_servers : FnScope ["self"] ["self"] (fnScope s_Log_servers) := fnScope_by (by decide +kernel)
abbrev s_Log_entries : Stmt := inClass (top 24) 4
theorem sc_Log_entries : FnScope ["self"] ["self"] (fnScope s_Log_entries) := fnScope_by (by decide +kernel)
abbrev s_Log___len__ : Stmt := inClass (top 24) 5
theorem sc_Log___len__ : FnScope ["self"] ["self"] (fnScope s_Log___len__) := fnScope_by (by decide +kernel)
abbrev s_Log___eq__ : Stmt := inClass (top 24) 6
theorem sc_Log___eq__ : FnScope ["self", "other"] ["self", "other"] (fnScope s_Log___eq__) := fnScope_by (by decide +kernel)
abbrev s_Log___contains__ : Stmt := inClass (top 24) 7
theorem sc_Log___contains__ : FnScope ["self", "thing"] ["self", "thing"] (fnScope s_Log___contains__) := fnScope_by (by decide +kernel)
abbrev s_Log___add__ : Stmt := inClass (top 24) 8
theorem sc_Log___add__ : FnScope ["self", "other", "entries"] ["self", "other"] (fnScope s_Log___add__) := fnScope_by (by decide +kernel)
abbrev s_log_of : Stmt := top 26
theorem sc_log_of : FnScope ["kind", "size", "servers", "entries"] ["kind", "size", "servers", "entries"] (fnScope s_log_of) := fnScope_by (by decide +kernel)
abbrev s_Facts___init__ : Stmt := inClass (top 28) 0
theorem sc_Facts___init__ : FnScope ["self", "size", "servers", "entries", "server", "number", "index", "block", "own"] ["self", "size", "servers", "entries"] (fnScope s_Facts___init__) := fnScope_by (by decide +kernel)
abbrev s_Facts_window_of : Stmt := inClass (top 28) 2
theorem sc_Facts_window_of : FnScope ["self", "server", "block", "holder", "low", "index", "other", "high"] ["self", "server", "block"] (fnScope s_Facts_window_of) := fnScope_by (by decide +kernel)
abbrev s_facts_of : Stmt := top 29
theorem sc_facts_of : FnScope ["log"] ["log"] (fnScope s_facts_of) := fnScope_by (by decide +kernel)
abbrev s_window : Stmt := top 30
theorem sc_window : FnScope ["log", "server", "block"] ["log", "server", "block"] (fnScope s_window) := fnScope_by (by decide +kernel)
abbrev s__law_feed : Stmt := top 32
theorem sc__law_feed : FnScope ["script", "k", "start"] ["script", "k"] (fnScope s__law_feed) := fnScope_by (by decide +kernel)
abbrev s__law_pick : Stmt := top 33
theorem sc__law_pick : FnScope ["feed", "many", "digit", "found", "turn", "mixed"] ["feed", "many"] (fnScope s__law_pick) := fnScope_by (by decide +kernel)
abbrev s__law_crew : Stmt := top 34
theorem sc__law_crew : FnScope ["feed", "most", "names", "turn"] ["feed", "most"] (fnScope s__law_crew) := fnScope_by (by decide +kernel)
abbrev s__law_entries : Stmt := top 35
theorem sc__law_entries : FnScope ["feed", "crew", "most", "limit", "found", "turn", "again", "fresh"] ["feed", "crew", "most", "limit"] (fnScope s__law_entries) := fnScope_by (by decide +kernel)
abbrev s__law_made : Stmt := top 36
theorem sc__law_made : FnScope ["kind", "unit", "crew", "shown"] ["kind", "unit", "crew", "shown"] (fnScope s__law_made) := fnScope_by (by decide +kernel)
abbrev s__law_story : Stmt := top 37
theorem sc__law_story : FnScope ["feed", "unit", "crew", "most", "far", "shown", "takes", "fresh", "held", "turn", "name", "owned", "done", "way", "many", "spot"] ["feed", "unit", "crew", "most", "far"] (fnScope s__law_story) := fnScope_by (by decide +kernel)
abbrev s__law_window : Stmt := top 38
theorem sc__law_window : FnScope ["shown", "unit", "name", "wanted", "low", "high", "at", "who", "figure"] ["shown", "unit", "name", "wanted"] (fnScope s__law_window) := fnScope_by (by decide +kernel)
abbrev s__law_blocks : Stmt := top 39
theorem sc__law_blocks : FnScope ["feed", "shown", "unit", "found", "name", "figure"] ["feed", "shown", "unit"] (fnScope s__law_blocks) := fnScope_by (by decide +kernel)
abbrev s__law_right : Stmt := top 40
theorem sc__law_right : FnScope ["feed", "kind", "unit", "crew", "shown", "most", "book", "blocks", "turn", "far", "name", "due", "told"] ["feed", "kind", "unit", "crew", "shown", "most"] (fnScope s__law_right) := fnScope_by (by decide +kernel)
abbrev s_law : Stmt := top 41
theorem sc_law : FnScope ["script", "k", "feed", "unit", "crew", "turn", "shown", "book", "told", "name", "far"] ["script"] (fnScope s_law) := fnScope_by (by decide +kernel)
end NB

set_option Elab.async false
set_option linter.all false
set_option maxRecDepth 100000
set_option maxHeartbeats 4000000
/-! K1: the defs of numberbooks.logs -/
namespace NB
open PySem PySem.Spec L2
open PyProof.Rows (envOfC)
open C8 (pe_c pe_mk pe_mt pe_mt0 pe_gc fnScope fnBody fnArgs fnScope_by Cal Met Mak)

theorem kt_str_str {K : PySem.W.Frag} : PySem.W.kitOne K (.type "str") (.type "str") = some true := kit_ty (by decide +kernel)
theorem kt_list_list {K : PySem.W.Frag} : PySem.W.kitOne K (.type "list") (.type "list") = some true := kit_ty (by decide +kernel)
theorem kt_tup_tup {K : PySem.W.Frag} : PySem.W.kitOne K (.type "tuple") (.type "tuple") = some true := kit_ty (by decide +kernel)
theorem kt_int_int {K : PySem.W.Frag} : PySem.W.kitOne K (.type "int") (.type "int") = some true := kit_ty (by decide +kernel)
theorem kt_int_bool {K : PySem.W.Frag} : PySem.W.kitOne K (.type "int") (.type "bool") = some false := kit_ty (by decide +kernel)
theorem kt_bool_int {K : PySem.W.Frag} : PySem.W.kitOne K (.type "bool") (.type "int") = some true := kit_ty (by decide +kernel)
theorem kt_bool_bool {K : PySem.W.Frag} : PySem.W.kitOne K (.type "bool") (.type "bool") = some true := kit_ty (by decide +kernel)

/-! ### promises -/
def spInteger (K : PySem.W.Frag) : Sp := fun vs H Q _ => ∃ x b, vs = [x] ∧ IntJ K H x b ∧ Q (.bl b) H
def spSizeB : Sp := fun vs H Q _ => ∃ i, vs = [.int i] ∧ Q (.bl (decide (1 ≤ i) && decide (i ≤ 10 ^ 30))) H
def spName : Sp := fun vs H Q _ => ∃ z, vs = [.str z] ∧ nameB z = true ∧ ∀ H', Ext H H' → Q (.bl true) H'
def spCrew : Sp := fun vs H Q _ => ∃ a ns, vs = [.ref a] ∧ H a = some (.lst (ns.map V.str)) ∧ CrewOk ns ∧ ∀ H', Ext H H' → Q (.bl true) H'
def spServer (K : PySem.W.Frag) : Sp := fun vs H Q _ => ∃ a ns x b, vs = [.ref a, x] ∧ H a = some (.lst (ns.map V.str)) ∧ SrvJ K H ns x b ∧ Q (.bl b) H
def spEntry (K : PySem.W.Frag) : Sp := fun vs H Q _ => ∃ a ns x r, vs = [.ref a, x] ∧ H a = some (.lst (ns.map V.str)) ∧ Jd K H ns x r ∧ Q (.bl r.isSome) H
def spEntries : Sp := fun vs H Q _ => ∃ a ns l es xs, vs = [.ref a, .ref l] ∧ H a = some (.lst (ns.map V.str)) ∧ H l = some (.lst xs) ∧ EntL H es xs ∧ EntsOk ns es ∧ ∀ H', Ext H H' → Q (.bl true) H'
/-- __init__ with right arguments -/
def spInit (C : Addr) : Sp := fun vs H Q _ => ∃ p dx sz a ns l es xs, vs = [.ref p, .int sz, .ref a, .ref l] ∧ H p = some (.ins C dx []) ∧ H dx = some (.own p) ∧ SizeOk sz ∧ H a = some (.lst (ns.map V.str)) ∧ CrewOk ns ∧ H l = some (.lst xs) ∧ EntL H es xs ∧ EntsOk ns es ∧
  ∀ H' ls le, H ls = none → H le = none → H' p = some (.ins C dx (lf sz ls le)) → H' ls = some (.lst (ns.map V.str)) → H' le = some (.lst xs) → Frm [p] H H' → Q .non H'

section
variable {P : Program} {w : World} {K : PySem.W.Frag} {mg : Str → Option Value} {base : Heap} {cL cX : Addr}
theorem ok_is_integer (T : Tx K mg cL cX) (D : Dx K mg "is_integer" s_is_integer ["thing"]) : Cal P w K mg base 1 "is_integer" (spInteger K) [] := by
  refine cal_of D sc_is_integer (fun vs H Q E h => ?_) (fun f cdv A o s H vs Q E hr h => ?_)
  · obtain ⟨x, b, rfl, _⟩ := h; rfl
  · obtain ⟨x, b, rfl, j, k⟩ := h
    refine ⟨_, (pss_one (ps_ret (pe_and (pe_callB call_isi (by rfl) T.n_isinstance (by decide +kernel) (pa_cons (mv 0) (pa_cons (pe_bltn (v := .ty "int") (u := .type "int") (by rfl) T.n_int (by decide +kernel) rfl) pa_nil))) (pe_one (pe_not (pe_callB call_isi (by rfl) T.n_isinstance (by decide +kernel) (pa_cons (mv 0) (pa_cons (pe_bltn (v := .ty "bool") (u := .type "bool") (by rfl) T.n_bool (by decide +kernel) rfl) pa_nil)))))))), ?_⟩
    cases j with
    | int i =>
      refine ⟨_, _, _, _, _, rfl, .ty _, .base (.int i), kt_int_int, _, rfl, ifT (by rfl) ?_⟩
      exact ⟨_, _, _, _, _, rfl, .ty _, .base (.int i), kt_int_bool, _, rfl, k⟩
    | bl c =>
      refine ⟨_, _, _, _, _, rfl, .ty _, .base (.bl c), kt_bool_int, _, rfl, ifT (by rfl) ?_⟩
      exact ⟨_, _, _, _, _, rfl, .ty _, .base (.bl c), kt_bool_bool, _, rfl, k⟩
    | kind ty e => exact ⟨_, _, _, _, _, rfl, .ty _, ty, e, _, rfl, ifF (by rfl) k⟩

theorem ok_is_size (T : Tx K mg cL cX) (D : Dx K mg "is_size" s_is_size ["thing"]) (c_is_integer : Cal P w K mg base 1 "is_integer" (spInteger K) []) : Cal P w K mg base 2 "is_size" spSizeB [] := by
  refine cal_of D sc_is_size (fun vs H Q E h => ?_) (fun f cdv A o s H vs Q E hr h => ?_)
  · obtain ⟨i, rfl, _⟩ := h; rfl
  · obtain ⟨i, rfl, k⟩ := h
    refine ⟨_, (pss_one (ps_ret (pe_and (pe_c c_is_integer hr (by decide) rfl (pa_cons (mv 0) pa_nil)) (pe_one (pe_chain m_le m_le pe_int (mv 0) (pe_gc rfl T.g_GREATEST_SIZE)))))), ?_⟩
    refine ⟨_, _, rfl, .int i, _, rfl, ifT (by rfl) ?_⟩
    refine ⟨_, rfl, ?_⟩
    by_cases h : 1 ≤ i
    · rw [decide_eq_true h] at k ⊢
      exact ifT (by rfl) k
    · rw [decide_eq_false h] at k ⊢
      exact ifF (by rfl) k

theorem lett_in {c : Nat} (h : 97 ≤ c ∧ c ≤ 122) : (!(Builtin.Str.occurrences LETT ⟨#[c]⟩ 0 LETT.length 1).isEmpty) = true := by
  have e : LETT = SX.S [97, 98, 99, 100, 101, 102, 103, 104, 105, 106, 107, 108, 109, 110, 111, 112, 113, 114, 115, 116, 117, 118, 119, 120, 121, 122] := by decide +kernel
  rw [e]
  refine (SX.in_one _ c).trans (decide_eq_true ?_)
  obtain ⟨h1, h2⟩ := h
  have : c = 97 ∨ c = 98 ∨ c = 99 ∨ c = 100 ∨ c = 101 ∨ c = 102 ∨ c = 103 ∨ c = 104 ∨ c = 105 ∨ c = 106 ∨ c = 107 ∨ c = 108 ∨ c = 109 ∨ c = 110 ∨ c = 111 ∨ c = 112 ∨ c = 113 ∨ c = 114 ∨ c = 115 ∨ c = 116 ∨ c = 117 ∨ c = 118 ∨ c = 119 ∨ c = 120 ∨ c = 121 ∨ c = 122 := by omega
  simp only [List.mem_cons, List.not_mem_nil, or_false]
  exact this

theorem all_true (n : Nat) : (List.replicate n true).all id = true := by
  rw [List.all_replicate]; simp
theorem rep_more (n : Nat) : (List.replicate n true).map V.bl ++ [V.bl true] = (List.replicate (n + 1) true).map V.bl := by
  rw [List.replicate_succ', List.map_append]; rfl
theorem goY {σ : L2.St} {H : Hp} {Q : Bool → Hp → Prop} (h : Q true H) : tYes σ H Q := h
/-- what a comprehension of Trues keeps -/
def Trues (H0 : Hp) (D : Addr) (i : Nat) (H : Hp) : Prop := Ext H0 H ∧ H D = some (.lst ((List.replicate i true).map V.bl))
theorem Trues.next {H0 H : Hp} {D : Addr} {i : Nat} (h : Trues H0 D i H) (hD : H0 D = none) : Trues H0 D (i + 1) (upd H D (.lst ((List.replicate i true).map V.bl ++ [V.bl true]))) := by
  refine ⟨fun a o e => ?_, ?_⟩
  · rw [upd_ne (ne_of_none e hD)]; exact h.1 a o e
  · rw [upd_same, rep_more]
theorem Trues.zero {H0 : Hp} {D : Addr} (hD : H0 D = none) : Trues H0 D 0 (upd H0 D (.lst [])) := ⟨Ext.upd hD, upd_same⟩

theorem ok_is_name (T : Tx K mg cL cX) (D : Dx K mg "is_name" s_is_name ["thing"]) : Cal P w K mg base 1 "is_name" spName [] := by
  refine cal_of D sc_is_name (fun vs H Q E h => ?_) (fun f cdv A o s H vs Q E hr h => ?_)
  · obtain ⟨z, rfl, _⟩ := h; rfl
  · obtain ⟨z, rfl, hz, k⟩ := h
    unfold nameB at hz
    simp only [Bool.and_eq_true, decide_eq_true_eq] at hz
    obtain ⟨⟨h1, h2⟩, h3⟩ := hz
    have hl : z.length ≤ sizeLine := Nat.le_trans h2 (by decide)
    have e1 : (1 : Int) ≤ (z.length : Int) := by omega
    have e2 : (z.length : Int) ≤ 8 := by omega
    refine ⟨_, (pss_cons (ps_if (PW.pt (pw_or (pt_not (qv (pe_callB call_isi (by rfl) T.n_isinstance (by decide +kernel) (pa_cons (mv 0) (pa_cons (pe_bltn (v := .ty "str") (u := .type "str") (by rfl) T.n_str (by decide +kernel) rfl) pa_nil))))) (pw_or1 (pt_not (pt_chain m_le m_le pe_int (pe_callB call_len (by rfl) T.n_len (by decide +kernel) (pa_cons (mv 0) pa_nil)) (pe_gc rfl T.g_MOST_LETTERS)))))) (pss_one (ps_ret pe_bl)) pss_nil)
    (pss_one (ps_ret (pe_callB (cr_all rfl) (by rfl) T.n_all (by decide +kernel) (pa_cons (pe_lc (own := [("letter", 1)]) (g := gName 1) (tt := tYes) rfl sc_is_name.nd (pi_str (mv 0)) (blkOk_by (own := [("letter", 1)]) (N := ["thing", "letter"]) (sc := fnScope s_is_name) (by decide +kernel)) (fun _ _ _ _ _ => (pg_name (i := 1) sc_is_name.nd rfl (Or.inl rfl))) (fun _ _ _ _ _ => pts_nil) (fun _ _ _ _ _ => (pe_cmpR op_in_str (mv 1) (pe_gc rfl T.g_LETTERS) (by rfl)))) pa_nil))))), ?_⟩
    refine ⟨_, _, _, _, _, rfl, .ty _, .base (.str z), kt_str_str, ifF (by rfl) ?_⟩
    refine ⟨_, _, rfl, ⟨hl, rfl⟩, _, rfl, ?_⟩
    rw [decide_eq_true e1]
    refine ifT (by rfl) ⟨_, rfl, ?_⟩
    rw [decide_eq_true e2]
    refine ifF (by rfl) ?_
    refine ⟨_, rfl, fun d hd => lc_txt (Trues H d) (Trues.zero hd) ?_ ?_⟩
    · intro i c H1 hc t
      have hc2 := List.all_eq_true.mp h3 c (List.mem_of_getElem? hc)
      simp only [Bool.and_eq_true, decide_eq_true_eq] at hc2
      have hi : i < z.length := by have := (List.getElem?_eq_some_iff.mp hc).1; simpa [Str.length] using this
      refine ⟨rfl, goY (ifT (by rfl) ⟨_, _, rfl, rfl, _, t.2, ?_, ?_⟩)⟩
      · rw [List.length_map, List.length_replicate]; omega
      · rw [lett_in hc2]
        exact t.next hd
    · intro H1 t
      exact ⟨_, _, rfl, SqL.of t.2, by rw [all_true]; exact k H1 t.1⟩

theorem map_at {α : Type} {f : α → V} {xs : List α} {i : Nat} {y : V} (h : (xs.map f)[i]? = some y) : ∃ x, xs[i]? = some x ∧ y = f x := by
  rw [List.getElem?_map] at h
  cases e : xs[i]? with
  | none => rw [e] at h; cases h
  | some x => rw [e] at h; exact ⟨x, rfl, (Option.some.inj h).symm⟩

theorem ok_are_servers (T : Tx K mg cL cX) (D : Dx K mg "are_servers" s_are_servers ["thing"]) (c_is_name : Cal P w K mg base 1 "is_name" spName []) : Cal P w K mg base 2 "are_servers" spCrew [] := by
  refine cal_of D sc_are_servers (fun vs H Q E h => ?_) (fun f cdv A o s H vs Q E hr h => ?_)
  · obtain ⟨a, ns, rfl, _⟩ := h; rfl
  · obtain ⟨a, ns, rfl, ha, ok, k⟩ := h
    have e1 : (1 : Int) ≤ (ns.length : Int) := by have := ok.one; omega
    have e2 : (ns.length : Int) ≤ 12 := by have := ok.few; omega
    refine ⟨_, (pss_cons (ps_if (PW.pt (pw_or (pt_not (qv (pe_callB call_isi (by rfl) T.n_isinstance (by decide +kernel) (pa_cons (mv 0) (pa_cons (pe_bltn (v := .ty "list") (u := .type "list") (by rfl) T.n_list (by decide +kernel) rfl) pa_nil))))) (pw_or1 (pt_not (pt_chain m_le m_le pe_int (pe_callB call_len (by rfl) T.n_len (by decide +kernel) (pa_cons (mv 0) pa_nil)) (pe_gc rfl T.g_MOST_SERVERS)))))) (pss_one (ps_ret pe_bl)) pss_nil)
    (pss_one (ps_ret (pe_and (pe_callB (cr_all rfl) (by rfl) T.n_all (by decide +kernel) (pa_cons (pe_lc (own := [("name", 1)]) (g := gName 1) (tt := tYes) rfl sc_are_servers.nd (pi_list (mv 0)) (blkOk_by (own := [("name", 1)]) (N := ["thing", "name"]) (sc := fnScope s_are_servers) (by decide +kernel)) (fun _ _ _ _ _ => (pg_name (i := 1) sc_are_servers.nd rfl (Or.inl rfl))) (fun _ _ _ _ _ => pts_nil) (fun _ _ _ _ _ => (pe_c c_is_name hr (by decide) rfl (pa_cons (mv 1) pa_nil)))) pa_nil)) (pe_one (pe_cmpR m_eq (pe_lenSetS rfl (by rfl) T.n_len (by rfl) T.n_set (mv 0)) (pe_callB call_len (by rfl) T.n_len (by decide +kernel) (pa_cons (mv 0) pa_nil)) (nomark _))))))), ?_⟩
    refine ⟨_, _, _, _, _, rfl, .ty _, .base (.lst ha), kt_list_list, ifF (by rfl) ?_⟩
    refine ⟨_, _, rfl, .inl ⟨_, SqL.of ha, rfl⟩, _, rfl, ?_⟩
    rw [List.length_map, decide_eq_true e1]
    refine ifT (by rfl) ⟨_, rfl, ?_⟩
    rw [decide_eq_true e2]
    refine ifF (by rfl) ?_
    refine ⟨_, rfl, ⟨_, SqL.of ha⟩, fun d hd => lc_list (K := K) (a := a) (xs := ns.map V.str) (Trues H d) (Trues.zero hd) (fun i H1 _ t => SqL.of (t.1 _ _ ha)) ?_ ?_⟩
    · intro i y H1 hy t
      obtain ⟨z, hz, rfl⟩ := map_at hy
      have hi : i < ns.length := (List.getElem?_eq_some_iff.mp hz).1
      refine ⟨rfl, goY (ifT (by rfl) ?_)⟩
      refine ⟨z, rfl, ok.nam z (List.mem_of_getElem? hz), fun H2 x => ⟨_, x _ _ t.2, ?_, ?_⟩⟩
      · rw [List.length_map, List.length_replicate]
        exact Nat.lt_of_lt_of_le hi (Nat.le_trans ok.few (by decide))
      · exact Trues.next ⟨t.1.trans x, x _ _ t.2⟩ hd
    · intro H1 t
      refine ⟨_, _, rfl, SqL.of t.2, ?_⟩
      rw [all_true]
      refine ⟨_, rfl, ifT (by rfl) ?_⟩
      refine ⟨a, ns, rfl, SqL.of (t.1 _ _ ha), Nat.le_trans ok.few (by decide), ok.nd, ?_⟩
      refine ⟨_, _, rfl, .inl ⟨_, SqL.of (t.1 _ _ ha), rfl⟩, ?_⟩
      rw [List.length_map]
      show Q (.bl (decide ((ns.length : Int) = (ns.length : Int)))) H1
      rw [decide_eq_true rfl]
      exact k H1 t.1

theorem inV_str (z : Str) : ∀ ns : List Str, inV (.str z) (ns.map V.str) = decide (z ∈ ns)
  | [] => rfl
  | y :: ns => by
    have ih := inV_str z ns
    unfold inV at ih ⊢
    rw [List.map_cons, List.any_cons, ih]
    have e : eqV (.str y) (.str z) = decide (y = z) := by
      unfold eqV
      by_cases h : y = z
      · subst h; simp
      · simp [h]
    rw [e, Bool.eq_iff_iff]
    simp only [Bool.or_eq_true, decide_eq_true_eq, List.mem_cons]
    exact ⟨fun q => q.elim (fun q => .inl q.symm) .inr, fun q => q.elim (fun q => .inl q.symm) .inr⟩
theorem flat_strs (ns : List Str) : (ns.map V.str).all flatV = true := by
  rw [List.all_map, List.all_eq_true]; intro z _; rfl

theorem ok_is_server (T : Tx K mg cL cX) (D : Dx K mg "is_server" s_is_server ["servers", "thing"]) : Cal P w K mg base 1 "is_server" (spServer K) [] := by
  refine cal_of D sc_is_server (fun vs H Q E h => ?_) (fun f cdv A o s H vs Q E hr h => ?_)
  · obtain ⟨a, ns, x, b, rfl, _⟩ := h; rfl
  · obtain ⟨a, ns, x, b, rfl, ha, j, k⟩ := h
    refine ⟨_, (pss_one (ps_ret (pe_and (pe_callB call_isi (by rfl) T.n_isinstance (by decide +kernel) (pa_cons (mv 1) (pa_cons (pe_bltn (v := .ty "str") (u := .type "str") (by rfl) T.n_str (by decide +kernel) rfl) pa_nil))) (pe_one (pe_cmpR op_in_seq (mv 1) (mv 0) (by rfl)))))), ?_⟩
    cases j with
    | str z =>
      refine ⟨_, _, _, _, _, rfl, .ty _, .base (.str z), kt_str_str, _, rfl, ifT (by rfl) ?_⟩
      refine ⟨_, _, rfl, .inl (SqL.of ha), rfl, flat_strs _, ?_⟩
      rw [inV_str]
      exact k
    | kind ty e => exact ⟨_, _, _, _, _, rfl, .ty _, ty, e, _, rfl, ifF (by rfl) k⟩

theorem ok_is_entry (T : Tx K mg cL cX) (D : Dx K mg "is_entry" s_is_entry ["servers", "thing"]) (c_is_server : Cal P w K mg base 1 "is_server" (spServer K) []) (c_is_integer : Cal P w K mg base 1 "is_integer" (spInteger K) []) :
    Cal P w K mg base 2 "is_entry" (spEntry K) [] := by
  refine cal_of D sc_is_entry (fun vs H Q E h => ?_) (fun f cdv A o s H vs Q E hr h => ?_)
  · obtain ⟨a, ns, x, r, rfl, _⟩ := h; rfl
  · obtain ⟨a, ns, x, r, rfl, ha, j, k⟩ := h
    refine ⟨_, (pss_cons (ps_if (PW.pt (pw_or (pt_not (qv (pe_callB call_isi (by rfl) T.n_isinstance (by decide +kernel) (pa_cons (mv 1) (pa_cons (pe_bltn (v := .ty "tuple") (u := .type "tuple") (by rfl) T.n_tuple (by decide +kernel) rfl) pa_nil))))) (pw_or1 (qt m_ne (pe_callB call_len (by rfl) T.n_len (by decide +kernel) (pa_cons (mv 1) pa_nil)) pe_int (nomark _))))) (pss_one (ps_ret pe_bl)) pss_nil)
    (pss_one (ps_ret (pe_and (pe_c c_is_server hr (by decide) rfl (pa_cons (mv 0) (pa_cons (pe_ix m_ix (mv 1) pe_int (fun _ _ => rfl)) pa_nil))) (pe_and (pe_c c_is_integer hr (by decide) rfl (pa_cons (pe_ix m_ix (mv 1) pe_int (fun _ _ => rfl)) pa_nil)) (pe_one (pe_cmpR m_ge (pe_ix m_ix (mv 1) pe_int (fun _ _ => rfl)) pe_int (nomark _)))))))), ?_⟩
    have two : ∀ {p : Addr} {x y : V}, H p = some (.tup [x, y]) → ∀ {b : Bool}, SrvJ K H ns x b → (b = true → ∃ c, IntJ K H y c ∧ (c = true → ∃ i, y = .int i ∧ Q (.bl (decide (0 ≤ i))) H) ∧ (c = false → Q (.bl false) H)) → (b = false → Q (.bl false) H) →
        tIfS (tOr (tNot (mT (tCB (rIsi K) (tCons (mV 1) (tCons (tC (.ty "tuple")) tNil))))) (mT (tOp (mEqG fun b => !b) (tCB (fun xs H Q => ∃ x n, xs = [x] ∧ LenV K x H n ∧ Q (.int n) H) (tCons (mV 1) tNil)) (tC (.int 2)))))
          (tRet (tC (.bl false))) tNext { nx := fun _ H' => tRet (tAndV (tCall (spServer K) [] C8.E0 (tCons (mV 0) (tCons (tOp (mIx K) (mV 1) (tC (.int 0))) tNil)))
            (tAndV (tCall (spInteger K) [] C8.E0 (tCons (tOp (mIx K) (mV 1) (tC (.int 1))) tNil)) (tOp (mI0 fun i j => .bl (decide (j ≤ i))) (tOp (mIx K) (mV 1) (tC (.int 1))) (tC (.int 0))))) { nx := fun _ H' => Q .non H', rt := Q } [some (.ref a), some (.ref p)] H', rt := Q } [some (.ref a), some (.ref p)] H := by
      intro p x y hp b js h1 h2
      refine ⟨_, _, _, _, _, rfl, .ty _, .base (.tup hp), kt_tup_tup, ifF (by rfl) ?_⟩
      refine ⟨_, _, rfl, .inr ⟨_, SqT.of hp, rfl⟩, ?_⟩
      dsimp only [tC, mEqG, kB]
      refine ifF (by rfl) ?_
      refine ⟨_, _, .inr (SqT.of hp), atI_nat (j := 0) rfl, a, ns, _, b, rfl, ha, js, _, rfl, ?_⟩
      cases b with
      | false => exact ifF rfl (h2 rfl)
      | true =>
        refine ifT rfl ?_
        obtain ⟨c, jc, h3, h4⟩ := h1 rfl
        refine ⟨_, _, .inr (SqT.of hp), atI_nat (j := 1) rfl, _, c, rfl, jc, _, rfl, ?_⟩
        cases c with
        | false => exact ifF rfl (h4 rfl)
        | true =>
          refine ifT rfl ?_
          obtain ⟨i, rfl, q⟩ := h3 rfl
          exact ⟨_, _, .inr (SqT.of hp), atI_nat (j := 1) rfl, q⟩
    cases j with
    | kind ty e => exact ⟨_, _, _, _, _, rfl, .ty _, ty, e, ifT (by rfl) (ifT (by rfl) k)⟩
    | @size p xs hp hl =>
      refine ⟨_, _, _, _, _, rfl, .ty _, .base (.tup hp), kt_tup_tup, ifF (by rfl) ?_⟩
      refine ⟨_, _, rfl, .inr ⟨_, SqT.of hp, rfl⟩, ?_⟩
      have e : ¬ ((xs.length : Int) = 2) := by omega
      show if (!decide ((xs.length : Int) = 2)) = true then _ else _
      rw [decide_eq_false e]
      exact ifT (by rfl) k
    | srv hp js => exact two hp js (fun z => nomatch z) fun _ => k
    | num hp js ji => exact two hp js (fun _ => ⟨false, ji, (fun z => nomatch z), fun _ => k⟩) fun z => nomatch z
    | @neg p x i hp js hi => exact two hp js (fun _ => ⟨true, .int i, fun _ => ⟨i, rfl, by rw [decide_eq_false (by omega)]; exact k⟩, fun z => nomatch z⟩) fun z => nomatch z
    | @ok p z i hp hz hi =>
      have js : SrvJ K H ns (.str z) true := by have := SrvJ.str (K := K) (H := H) (ns := ns) z; rw [decide_eq_true hz] at this; exact this
      exact two hp js (fun _ => ⟨true, .int i, fun _ => ⟨i, rfl, by rw [decide_eq_true hi]; exact k⟩, fun z => nomatch z⟩) fun z => nomatch z

theorem EntL.at {H : Hp} : ∀ {es : List (Str × Int)} {vs : List V} {i : Nat} {v : V}, EntL H es vs → vs[i]? = some v → ∃ e, es[i]? = some e ∧ EntAt H e v
  | _, _, i, v, .nil, h => by simp at h
  | _, _, 0, v, .cons (a := e) r q, h => by simp at h; subst h; exact ⟨e, rfl, r⟩
  | _, _, i + 1, v, .cons r q, h => by
    obtain ⟨e, h1, h2⟩ := EntL.at q (i := i) (v := v) (by simpa using h)
    exact ⟨e, by simpa using h1, h2⟩
theorem EntL.len {H : Hp} {es : List (Str × Int)} {vs : List V} (h : EntL H es vs) : es.length = vs.length := Paired.length h

theorem ok_are_entries (T : Tx K mg cL cX) (D : Dx K mg "are_entries" s_are_entries ["servers", "thing"]) (c_is_entry : Cal P w K mg base 2 "is_entry" (spEntry K) []) : Cal P w K mg base 3 "are_entries" spEntries [] := by
  refine cal_of D sc_are_entries (fun vs H Q E h => ?_) (fun f cdv A o s H vs Q E hr h => ?_)
  · obtain ⟨a, ns, l, es, xs, rfl, _⟩ := h; rfl
  · obtain ⟨a, ns, l, es, xs, rfl, ha, hl, el, ok, k⟩ := h
    have hx : xs.length ≤ 200 := by rw [← el.len]; exact ok.few
    have e1 : ¬ (200 : Int) < (xs.length : Int) := by omega
    refine ⟨_, (pss_cons (ps_if (PW.pt (pw_or (pt_not (qv (pe_callB call_isi (by rfl) T.n_isinstance (by decide +kernel) (pa_cons (mv 1) (pa_cons (pe_bltn (v := .ty "list") (u := .type "list") (by rfl) T.n_list (by decide +kernel) rfl) pa_nil))))) (pw_or1 (qt m_gt (pe_callB call_len (by rfl) T.n_len (by decide +kernel) (pa_cons (mv 1) pa_nil)) (pe_gc rfl T.g_MOST_ENTRIES) (nomark _))))) (pss_one (ps_ret pe_bl)) pss_nil)
    (pss_one (ps_ret (pe_callB (cr_all rfl) (by rfl) T.n_all (by decide +kernel) (pa_cons (pe_lc (own := [("entry", 2)]) (g := gName 2) (tt := tYes) rfl sc_are_entries.nd (pi_list (mv 1)) (blkOk_by (own := [("entry", 2)]) (N := ["servers", "thing", "entry"]) (sc := fnScope s_are_entries) (by decide +kernel)) (fun _ _ _ _ _ => (pg_name (i := 2) sc_are_entries.nd rfl (Or.inl rfl))) (fun _ _ _ _ _ => pts_nil) (fun _ _ _ _ _ => (pe_c c_is_entry hr (by decide) rfl (pa_cons (mv 0) (pa_cons (mv 2) pa_nil))))) pa_nil))))), ?_⟩
    refine ⟨_, _, _, _, _, rfl, .ty _, .base (.lst hl), kt_list_list, ifF (by rfl) ?_⟩
    refine ⟨_, _, rfl, .inl ⟨_, SqL.of hl, rfl⟩, ?_⟩
    refine (show if decide ((200 : Int) < (xs.length : Int)) = true then _ else _ from ?_)
    rw [decide_eq_false e1]
    refine ifF rfl ?_
    refine ⟨_, rfl, ⟨_, SqL.of hl⟩, fun d hd => lc_list (K := K) (a := l) (xs := xs) (Trues H d) (Trues.zero hd) (fun i H1 _ t => SqL.of (t.1 _ _ hl)) ?_ ?_⟩
    · intro i y H1 hy t
      have hi : i < xs.length := (List.getElem?_eq_some_iff.mp hy).1
      obtain ⟨e, he, p, rfl, hp⟩ := el.at hy
      obtain ⟨m1, m2⟩ := ok.ok e (List.mem_of_getElem? he)
      refine ⟨rfl, goY (ifT (by rfl) ?_)⟩
      refine ⟨a, ns, _, _, rfl, t.1 _ _ ha, .ok (t.1 _ _ hp) m1 m2, _, t.2, ?_, ?_⟩
      · rw [List.length_map, List.length_replicate]
        exact Nat.lt_of_lt_of_le hi (Nat.le_trans hx (by decide))
      · exact t.next hd
    · intro H1 t
      refine ⟨_, _, rfl, SqL.of t.2, ?_⟩
      rw [all_true]
      exact k H1 t.1

/-- the class's facts for the class at C -/
theorem ok_init {kd : Str} (T : Tx K mg cL cX) {C : Addr} (L : LogC K C kd) {f : Addr} {fd : FuncData} (D : Mx K "__init__" "Log.__init__" s_Log___init__ ["self", "size", "servers", "entries"] f fd)
    (c_is_size : Cal P w K mg base 2 "is_size" spSizeB []) (c_are_servers : Cal P w K mg base 2 "are_servers" spCrew []) (c_are_entries : Cal P w K mg base 3 "are_entries" spEntries []) :
    FnOk P w K mg base C8.CX0 4 f fd ["self", "size", "servers", "entries"] (spInit C) := by
  refine fn_of' D sc_Log___init__ (fun vs H Q E h => ?_) (fun cdv A o s H vs Q E hr h => ?_)
  · obtain ⟨p, dx, sz, a, ns, l, es, xs, rfl, _⟩ := h; rfl
  · obtain ⟨p, dx, sz, a, ns, l, es, xs, rfl, hp, hdx, hsz, ha, cr, hl, el, ok, k⟩ := h
    refine ⟨_, (pss_cons (ps_if (pt_not (qv (pe_c c_is_size hr (by decide) rfl (pa_cons (mv 1) pa_nil)))) (pss_one ps_never) pss_nil)
    (pss_cons (ps_if (pt_not (qv (pe_c c_are_servers hr (by decide) rfl (pa_cons (mv 2) pa_nil)))) (pss_one ps_never) pss_nil)
    (pss_cons (ps_if (pt_not (qv (pe_c c_are_entries hr (by decide) rfl (pa_cons (mv 2) (pa_cons (mv 3) pa_nil))))) (pss_one ps_never) pss_nil)
    (pss_cons (ps_fld (mv 0) (mv 1) rfl)
    (pss_cons (ps_fld (mv 0) (pe_callTy call_list_of (by rfl) T.n_list (by decide +kernel) (pa_cons (mv 2) pa_nil)) rfl)
    (pss_one (ps_fld (mv 0) (pe_callTy call_list_of (by rfl) T.n_list (by decide +kernel) (pa_cons (mv 3) pa_nil)) rfl))))))), ?_⟩
    refine ⟨_, rfl, ?_⟩
    rw [decide_eq_true hsz.1, decide_eq_true hsz.2]
    refine ifF (by rfl) ?_
    refine ⟨a, ns, rfl, ha, cr, fun H1 x1 => ifF (by rfl) ?_⟩
    refine ⟨a, ns, l, es, xs, rfl, x1 _ _ ha, x1 _ _ hl, el.mono x1, ok, fun H2 x2 => ifF (by rfl) ?_⟩
    have x : Ext H H2 := x1.trans x2
    have apL : ∀ {b : Addr} {ys : List V}, H2 b = some (.lst ys) → b ≠ p := fun hb => ne_of hb (x _ _ hp) (by intro z; cases z)
    refine ⟨p, C, dx, _, rfl, x _ _ hp, L.cl, L.nS, (by show 0 < 1000; decide), ?_⟩
    refine ⟨a, _, rfl, .inl (SqL.of (by rw [upd_ne (apL (x _ _ ha))]; exact x _ _ ha)), fun ls nls => ?_⟩
    have p1 : p ≠ ls := ne_of_none upd_same nls
    refine ⟨p, C, dx, _, rfl, by rw [upd_ne p1]; exact upd_same, L.cl, L.nV, (by show 1 < 1000; decide), ?_⟩
    have nl1 : l ≠ ls := ne_of_none (by rw [upd_ne (apL (x _ _ hl))]; exact x _ _ hl) nls
    refine ⟨l, _, rfl, .inl (SqL.of (by rw [upd_ne (apL (x _ _ hl)), upd_ne nl1, upd_ne (apL (x _ _ hl))]; exact x _ _ hl)), fun le nle => ?_⟩
    have p2 : p ≠ le := ne_of_none upd_same nle
    refine ⟨p, C, dx, _, rfl, by rw [upd_ne p2]; exact upd_same, L.cl, L.nE, (by show 2 < 1000; decide), ?_⟩
    have nle1 : ls ≠ le := ne_of_none (o := .lst (ns.map V.str)) (by rw [upd_ne p1.symm]; exact upd_same) nle
    refine k _ ls le (Ext.free x (upd_none nls).2) (Ext.free x (upd_none (upd_none (upd_none nle).2).2).2) upd_same ?_ ?_ ?_
    · rw [upd_ne p1.symm, upd_ne nle1, upd_ne p1.symm]; exact upd_same
    · rw [upd_ne p2.symm]; exact upd_same
    · exact (((((Frm.ext x).upd mem1).new nls).upd mem1).new nle).upd mem1
end
end NB

set_option Elab.async false
set_option linter.all false
set_option maxRecDepth 100000
set_option maxHeartbeats 4000000
/-! K2: the methods of logs -/
namespace NB
open PySem PySem.Spec L2
open PyProof.Rows (envOfC)
open C8 (pe_c pe_mk pe_mt pe_mt0 pe_gc fnScope fnBody fnArgs fnScope_by Cal Met Mak)

def spSize (C : Addr) : Sp := fun vs H Q _ => ∃ p sz ns es, vs = [.ref p] ∧ LogAt C H p sz ns es ∧ Q (.int sz) H
def spServers (C : Addr) : Sp := fun vs H Q _ => ∃ p sz ns es, vs = [.ref p] ∧ LogAt C H p sz ns es ∧ ∀ l, H l = none → Q (.ref l) (upd H l (.lst (ns.map V.str)))
def spEntr (C : Addr) : Sp := fun vs H Q _ => ∃ p sz ns es, vs = [.ref p] ∧ LogAt C H p sz ns es ∧ ∀ l xs, H l = none → EntL H es xs → Q (.ref l) (upd H l (.lst xs))
def spLen (C : Addr) : Sp := fun vs H Q _ => ∃ p sz ns es, vs = [.ref p] ∧ LogAt C H p sz ns es ∧ Q (.int (es.length : Nat)) H
def spIn (K : PySem.W.Frag) (C : Addr) : Sp := fun vs H Q _ => ∃ p sz ns es x r, vs = [.ref p, x] ∧ LogAt C H p sz ns es ∧ EntsOk ns es ∧ (∀ z ∈ ns, nameB z = true) ∧ Jd K H ns x r ∧ Q (.bl (match r with | some e => decide (e ∈ es) | none => false)) H
/-- == of two logs -/
def spEqL (C C2 : Addr) (kd kd2 : Str) : Sp := fun vs H Q _ => ∃ p q sz ns es sz2 ns2 es2, vs = [.ref p, .ref q] ∧ LogAt C H p sz ns es ∧ LogAt C2 H q sz2 ns2 es2 ∧ EntsOk ns es ∧ (∀ z ∈ ns, nameB z = true) ∧ EntsOk ns2 es2 ∧ (∀ z ∈ ns2, nameB z = true) ∧
  Q (.bl (decide (kd2 = kd) && decide (sz2 = sz) && decide (ns2 = ns) && decide (es2 = es))) H
def lastB (sz : Int) : List (Str × Int) → Int
  | [] => -1
  | e :: es => (es.foldl (fun m x => max m x.2) e.2) / sz
def spLast (C : Addr) : Sp := fun vs H Q _ => ∃ p sz ns es, vs = [.ref p] ∧ LogAt C H p sz ns es ∧ SizeOk sz ∧ EntsOk ns es ∧ (∀ z ∈ ns, nameB z = true) ∧ ∀ H', Ext H H' → Q (.int (lastB sz es)) H'

/-! ### data of logs as PyData -/
def encE (e : Str × Int) : PyData := .tuple [.str e.1, .int e.2]
def encS (ns : List Str) : PyData := .list (ns.map .str)
def encL (es : List (Str × Int)) : PyData := .list (es.map encE)
theorem dp_strs {K : PySem.W.Frag} {H : Hp} : ∀ ns : List Str, DpAll K H (ns.map V.str) (ns.map .str)
  | [] => .nil
  | z :: ns => .cons (.str z) (dp_strs ns)
theorem dp_S {K : PySem.W.Frag} {H : Hp} {a : Addr} {ns : List Str} (h : SqL K H a (ns.map V.str)) : Dp K H (.ref a) (encS ns) := .lst h (dp_strs ns)
theorem dp_E {K : PySem.W.Frag} {H : Hp} {e : Str × Int} {v : V} (h : EntAt H e v) : Dp K H v (encE e) := by
  obtain ⟨p, rfl, hp⟩ := h
  exact .tup (SqT.of hp) (.cons (.str _) (.cons (.int _) .nil))
theorem dp_ents {K : PySem.W.Frag} {H : Hp} : ∀ {es : List (Str × Int)} {vs : List V}, EntL H es vs → DpAll K H vs (es.map encE)
  | _, _, .nil => .nil
  | _, _, .cons r q => .cons (dp_E r) (dp_ents q)
theorem dp_L {K : PySem.W.Frag} {H : Hp} {a : Addr} {es : List (Str × Int)} {vs : List V} (h : SqL K H a vs) (el : EntL H es vs) : Dp K H (.ref a) (encL es) := .lst h (dp_ents el)

theorem all_canLay : ∀ {ds : List PyData}, (∀ d ∈ ds, d.canLay0 = true) → PyData.canLayAll0 ds = true
  | [], _ => by simp [PyData.canLayAll0]
  | d :: ds, h => by
    simp only [PyData.canLayAll0, Bool.and_eq_true]
    exact ⟨h d List.mem_cons_self, all_canLay fun x hx => h x (List.mem_cons_of_mem _ hx)⟩
theorem all_depth {n : Nat} : ∀ {ds : List PyData}, (∀ d ∈ ds, d.depth ≤ n) → PyData.depthAll ds ≤ n
  | [], _ => by simp [PyData.depthAll]
  | d :: ds, h => by
    simp only [PyData.depthAll]
    exact Nat.max_le.mpr ⟨h d List.mem_cons_self, all_depth fun x hx => h x (List.mem_cons_of_mem _ hx)⟩
theorem shaped_list {ds : List PyData} {n : Nat} (h : ∀ d ∈ ds, d.canLay0 = true ∧ d.depth ≤ n) (hn : n < 60) : SeqAt.shaped (.list ds) = true := by
  unfold SeqAt.shaped
  have z := all_depth fun d hd => (h d hd).2
  refine Bool.and_eq_true_iff.mpr ⟨?_, decide_eq_true ?_⟩
  · show PyData.canLayAll0 ds = true
    exact all_canLay fun d hd => (h d hd).1
  · show PyData.depthAll ds + 1 ≤ 64
    omega
theorem strOk_name {z : Str} (h : nameB z = true) : PyData.canLay0 (.str z) = true := by
  unfold nameB at h
  simp only [Bool.and_eq_true, decide_eq_true_eq, List.all_eq_true] at h
  show z.cps.all (· < 0x110000) = true
  rw [← Array.all_toList, List.all_eq_true]
  intro c hc
  have := (h.2 c hc).2
  exact decide_eq_true (by omega)
theorem shaped_S {ns : List Str} (h : ∀ z ∈ ns, nameB z = true) : SeqAt.shaped (encS ns) = true := by
  refine shaped_list (n := 0) (fun d hd => ?_) (by decide)
  obtain ⟨z, hz, rfl⟩ := List.mem_map.mp hd
  exact ⟨strOk_name (h z hz), Nat.le_refl _⟩
theorem shaped_E {e : Str × Int} (h : nameB e.1 = true) : SeqAt.shaped (encE e) = true ∧ (encE e).canLay0 = true ∧ (encE e).depth ≤ 1 := by
  have c : (encE e).canLay0 = true := by
    show PyData.canLayAll0 [.str e.1, .int e.2] = true
    refine all_canLay fun d hd => ?_
    rcases List.mem_cons.mp hd with rfl | hd
    · exact strOk_name h
    · rw [List.mem_singleton.mp hd]; rfl
  have d : (encE e).depth ≤ 1 := by
    show max 0 (max 0 0) + 1 ≤ 1
    decide
  exact ⟨Bool.and_eq_true_iff.mpr ⟨c, decide_eq_true (Nat.le_trans d (by decide))⟩, c, d⟩
theorem shaped_L {es : List (Str × Int)} (h : ∀ e ∈ es, nameB e.1 = true) : SeqAt.shaped (encL es) = true := by
  refine shaped_list (n := 1) (fun d hd => ?_) (by decide)
  obtain ⟨e, he, rfl⟩ := List.mem_map.mp hd
  exact (shaped_E (h e he)).2
theorem eqvAll_map {α : Type} [DecidableEq α] {f : α → PyData} (hf : ∀ x y, PyData.eqv (f x) (f y) = decide (x = y)) : ∀ xs ys : List α, PyData.eqvAll (xs.map f) (ys.map f) = decide (xs = ys)
  | [], [] => by simp [PyData.eqvAll]
  | [], y :: ys => by simp [PyData.eqvAll]
  | x :: xs, [] => by simp [PyData.eqvAll]
  | x :: xs, y :: ys => by
    simp only [List.map_cons, PyData.eqvAll, hf, eqvAll_map hf xs ys]
    rw [Bool.eq_iff_iff]
    simp
theorem eqv_str (x y : Str) : PyData.eqv (.str x) (.str y) = decide (x = y) := by
  simp only [PyData.eqv]
  by_cases h : x = y
  · subst h; simp
  · rw [decide_eq_false h]; simpa using h
theorem eqv_ent (e g : Str × Int) : PyData.eqv (encE e) (encE g) = decide (e = g) := by
  obtain ⟨a, i⟩ := e
  obtain ⟨b, j⟩ := g
  unfold encE
  simp only [PyData.eqv, PyData.eqvAll]
  rw [Bool.eq_iff_iff]
  simp
theorem eqv_S (ns ms : List Str) : PyData.eqv (encS ns) (encS ms) = decide (ns = ms) := by
  unfold encS
  simp only [PyData.eqv]
  exact eqvAll_map eqv_str ns ms
theorem eqv_L (es gs : List (Str × Int)) : PyData.eqv (encL es) (encL gs) = decide (es = gs) := by
  unfold encL
  simp only [PyData.eqv]
  exact eqvAll_map eqv_ent es gs
theorem any_L (e : Str × Int) (es : List (Str × Int)) : ((es.map encE).any fun z => PyData.eqv z (encE e)) = decide (e ∈ es) := by
  rw [List.any_map, Bool.eq_iff_iff]
  simp only [List.any_eq_true, Function.comp, eqv_ent, decide_eq_true_eq]
  exact ⟨fun ⟨x, h, q⟩ => q ▸ h, fun h => ⟨e, h, rfl⟩⟩

section
variable {P : Program} {w : World} {K : PySem.W.Frag} {mg : Str → Option Value} {base : Heap} {cL cX C : Addr} {kd : Str} {f : Addr} {fd : FuncData}
theorem ok_size (L : LogC K C kd) (D : Mx K "size" "Log.size" s_Log_size ["self"] f fd) : FnOk P w K mg base C8.CX0 1 f fd ["self"] (spSize C) := by
  refine fn_of' D sc_Log_size (fun vs H Q E h => ?_) (fun cdv A o s H vs Q E hr h => ?_)
  · obtain ⟨p, sz, ns, es, rfl, _⟩ := h; rfl
  · obtain ⟨p, sz, ns, es, rfl, ⟨dx, ls, le, xs, hp, h1, h2, el⟩, k⟩ := h
    exact ⟨_, (pss_one (ps_ret (pe_fld (mv 0) rfl))), p, C, dx, _, _, rfl, hp, L.cl, L.nS, lf_size _ _ _, k⟩
theorem ok_servers (T : Tx K mg cL cX) (L : LogC K C kd) (D : Mx K "servers" "Log.servers" s_Log_servers ["self"] f fd) : FnOk P w K mg base C8.CX0 1 f fd ["self"] (spServers C) := by
  refine fn_of' D sc_Log_servers (fun vs H Q E h => ?_) (fun cdv A o s H vs Q E hr h => ?_)
  · obtain ⟨p, sz, ns, es, rfl, _⟩ := h; rfl
  · obtain ⟨p, sz, ns, es, rfl, ⟨dx, ls, le, xs, hp, h1, h2, el⟩, k⟩ := h
    exact ⟨_, (pss_one (ps_ret (pe_callTy call_list_of (by rfl) T.n_list (by decide +kernel) (pa_cons (pe_fld (mv 0) rfl) pa_nil)))), p, C, dx, _, _, rfl, hp, L.cl, L.nV, lf_servers _ _ _, ls, _, rfl, .inl (SqL.of h1), k⟩
theorem ok_entries (T : Tx K mg cL cX) (L : LogC K C kd) (D : Mx K "entries" "Log.entries" s_Log_entries ["self"] f fd) : FnOk P w K mg base C8.CX0 1 f fd ["self"] (spEntr C) := by
  refine fn_of' D sc_Log_entries (fun vs H Q E h => ?_) (fun cdv A o s H vs Q E hr h => ?_)
  · obtain ⟨p, sz, ns, es, rfl, _⟩ := h; rfl
  · obtain ⟨p, sz, ns, es, rfl, ⟨dx, ls, le, xs, hp, h1, h2, el⟩, k⟩ := h
    exact ⟨_, (pss_one (ps_ret (pe_callTy call_list_of (by rfl) T.n_list (by decide +kernel) (pa_cons (pe_fld (mv 0) rfl) pa_nil)))), p, C, dx, _, _, rfl, hp, L.cl, L.nE, lf_entries _ _ _, le, _, rfl, .inl (SqL.of h2), fun l hl => k l xs hl el⟩
theorem kd_no (sz : Int) (ls le : Addr) : (lf sz ls le).lookup ("KIND" : Str) = none := lf_no sz ls le (by decide +kernel) (by decide +kernel) (by decide +kernel)
theorem nat_bits {i : Int} {n : Nat} (h0 : 0 ≤ i) (h : i < 2 ^ n) (hn : 0 < n) : i.natAbs.log2 < n := by
  refine PySem.Flt.log2_lt_of hn ?_
  have : ((i.natAbs : Nat) : Int) < ((2 ^ n : Nat) : Int) := by
    rw [Int.natCast_pow]
    have e : (i.natAbs : Int) = i := by omega
    rw [e]; exact h
  exact_mod_cast this
theorem cdv_size {sz : Int} (i : Int) (h : SizeOk sz) : CDv i sz := by
  refine ⟨by have := h.1; omega, Nat.lt_trans (nat_bits (n := 100) (by have := h.1; omega) ?_ (by decide)) (by decide)⟩
  have h2 := h.2
  have : (10 : Int) ^ 30 < 2 ^ 100 := by decide
  omega
/-- the numbers of the first i entries -/
def numsV (es : List (Str × Int)) : List V := (es.map (·.2)).map V.int
def Nums (H0 : Hp) (es : List (Str × Int)) (D : Addr) (i : Nat) (H : Hp) : Prop := Ext H0 H ∧ H D = some (.lst (numsV (es.take i)))
theorem foldl_max : ∀ (es : List (Str × Int)) (m : Int), (m = es.foldl (fun m x => max m x.2) m ∨ ∃ e ∈ es, e.2 = es.foldl (fun m x => max m x.2) m) ∧ m ≤ es.foldl (fun m x => max m x.2) m ∧ ∀ e ∈ es, e.2 ≤ es.foldl (fun m x => max m x.2) m
  | [], m => ⟨.inl rfl, Int.le_refl _, fun _ h => nomatch h⟩
  | e :: es, m => by
    obtain ⟨h1, h2, h3⟩ := foldl_max es (max m e.2)
    simp only [List.foldl_cons]
    refine ⟨?_, by omega, fun x hx => ?_⟩
    · rcases h1 with h1 | ⟨x, hx, q⟩
      · rcases Int.le_total m e.2 with z | z
        · refine .inr ⟨e, List.mem_cons_self, ?_⟩
          have : max m e.2 = e.2 := by omega
          omega
        · left
          have : max m e.2 = m := by omega
          omega
      · exact .inr ⟨x, List.mem_cons_of_mem _ hx, q⟩
    · rcases List.mem_cons.mp hx with rfl | hx
      · omega
      · exact h3 x hx
theorem max_is {es : List (Str × Int)} {e0 : Str × Int} {m : Int} (h1 : m ∈ (e0 :: es).map (·.2)) (h2 : ∀ y, y ∈ (e0 :: es).map (·.2) → y ≤ m) : m = es.foldl (fun m x => max m x.2) e0.2 := by
  obtain ⟨g1, g2, g3⟩ := foldl_max es e0.2
  refine Int.le_antisymm ?_ (h2 _ ?_)
  · obtain ⟨x, hx, rfl⟩ := List.mem_map.mp h1
    rcases List.mem_cons.mp hx with rfl | hx
    · exact g2
    · exact g3 x hx
  · rcases g1 with g1 | ⟨x, hx, q⟩
    · rw [← g1]; simp
    · rw [← q]; exact List.mem_map_of_mem (List.mem_cons_of_mem _ hx)
end
end NB

set_option Elab.async false
set_option linter.all false
set_option maxRecDepth 100000
set_option maxHeartbeats 4000000
/-! K3: the draws of the laws -/
namespace NB
open PySem PySem.Spec L2
open PyProof.Rows (envOfC)
open C8 (pe_c pe_mk pe_mt pe_mt0 pe_gc fnScope fnBody fnArgs fnScope_by Cal Met Mak)

/-! ### promises -/
def FeedO (o : HO) : Prop := ∃ x y z : Int, o = .lst [.int x, .int y, .int z] ∧ 0 ≤ x ∧ 0 ≤ y ∧ y < 2305843009213693951
def FeedAt (H : Hp) (p : Addr) : Prop := ∃ o, H p = some o ∧ FeedO o
def spFeed (K : PySem.W.Frag) : Sp := fun vs H Q _ => ∃ (a : Addr) (ns : List Int) (k : Int), vs = [.ref a, .int k] ∧ SqL K H a (ns.map V.int) ∧ 0 ≤ k ∧ k < 100 ∧ ns.length ≤ 63 ∧ ∀ p o, H p = none → FeedO o → Q (.ref p) (upd H p o)
def spPick : Sp := fun vs H Q _ => ∃ p many, vs = [.ref p, .int many] ∧ FeedAt H p ∧ 1 ≤ many ∧ many < 2 ^ 1000 ∧ ∀ r o, 0 ≤ r → r < many → FeedO o → Q (.int r) (upd H p o)
theorem posM : (0 : Int) < 2305843009213693951 := by decide
theorem atI_at {α : Type} {xs : List α} {k : Int} {v : α} (h0 : 0 ≤ k) (h : xs[k.toNat]? = some v) : atI xs k = some v := by
  have e : k = ((k.toNat : Nat) : Int) := by omega
  rw [e]
  exact atI_nat h
theorem map_erase {α β : Type} (f : α → β) : ∀ (l : List α) (k : Nat), (l.eraseIdx k).map f = (l.map f).eraseIdx k
  | [], _ => rfl
  | _ :: _, 0 => rfl
  | a :: l, k + 1 => by
    show f a :: (l.eraseIdx k).map f = f a :: (l.map f).eraseIdx k
    rw [map_erase f l k]
theorem er_perm {α : Type} : ∀ (l : List α) (k : Nat) (h : k < l.length), (l[k] :: l.eraseIdx k).Perm l
  | a :: l, 0, _ => List.Perm.refl _
  | a :: l, k + 1, h => by
    have hk : k < l.length := by simpa using h
    have ih := er_perm l k hk
    show (l[k] :: a :: l.eraseIdx k).Perm (a :: l)
    exact (List.Perm.swap _ _ _).trans (ih.cons a)
theorem upd_is {H H' : Hp} {p : Addr} {o : HO} (h : H' p = some o) (r : ∀ b, b ≠ p → H' b = H b) : H' = upd H p o := by
  funext b
  by_cases e : b = p
  · rw [e, h, upd_same]
  · rw [r b e, upd_ne e]
theorem mod_lt {a b : Int} (h : 0 < b) : 0 ≤ a % b ∧ a % b < b := ⟨Int.emod_nonneg _ (by omega), Int.emod_lt_of_pos _ h⟩
theorem mulL {i j : Int} (h1 : -(2 ^ 64) < i) (h2 : i < 2 ^ 64) : PySem.IntMulOk i j := CMul.ok (.inl ⟨h1, h2⟩)
theorem mulR {i j : Int} (h1 : -(2 ^ 64) < j) (h2 : j < 2 ^ 64) : PySem.IntMulOk i j := CMul.ok (.inr ⟨h1, h2⟩)

section
variable {P : Program} {w : World} {K : PySem.W.Frag} {mg : Str → Option Value} {base : Heap}
theorem ok_feed (T : Blt mg) (D : Dx K mg "_law_feed" s__law_feed ["script", "k"]) : Cal P w K mg base 1 "_law_feed" (spFeed K) [] := by
  refine cal_of D sc__law_feed (fun vs H Q E h => ?_) (fun f cdv A o s H vs Q E hr h => ?_)
  · obtain ⟨a, ns, k, rfl, _⟩ := h; rfl
  · obtain ⟨a, ns, k, rfl, hS, hk0, hk1, hn, q⟩ := h
    have rest : ∀ start : Int, tRet (tLst (tCons (tCB (fun xs H Q => ∃ i j, xs = [.int i, .int j] ∧ Q (.int (if j > i then j else i)) H) (tCons (tC (.int 0)) (tCons (tOp (mI0 fun i j => .int (i - j)) (tCB (fun xs H Q => ∃ i, xs = [.int i] ∧ Q (.int (if i < 0 then -i else i)) H) (tCons (mV 2) tNil)) (tOp (mI CPow fun i j => .int (i ^ j.toNat)) (tC (.int 10)) (tC (.int 18)))) tNil)))
        (tCons (tOp (mI (fun _ j => 0 < j) fun i j => .int (i % j)) (tOp (mI0 fun i j => .int (i + j)) (tOp (mI0 fun i j => .int (i + j)) (tOp (mI IntMulOk fun i j => .int (i * j)) (mV 2) (tC (.int 229))) (tOp (mI IntMulOk fun i j => .int (i * j)) (tC (.int 6529)) (mV 1))) (tC (.int 89))) (tC (.int 2305843009213693951))) (tCons (tC (.int 0)) tNil)))) { nx := fun _ H' => Q .non H', rt := Q } [some (.ref a), some (.int k), some (.int start)] H := by
      intro start
      refine ⟨_, rfl, ⟨by decide, by decide, by decide⟩, _, _, rfl, ?_⟩
      refine ⟨mulR (by decide) (by decide), mulL (by decide) (by decide), posM, (by show 3 ≤ sizeLine; decide), fun p hp => ?_⟩
      refine q p _ hp ⟨_, _, _, rfl, ?_, (mod_lt (by decide)).1, (mod_lt (by decide)).2⟩
      split <;> omega
    refine ⟨_, (pss_cons (ps_set (i := 2) sc__law_feed.nd rfl (Or.inl rfl) pe_int)
    (pss_cons (ps_if (qt m_lt (mv 1) (pe_callB call_len (by rfl) T.n_len (by decide +kernel) (pa_cons (mv 0) pa_nil)) (nomark _)) (pss_one (ps_set (i := 2) sc__law_feed.nd rfl (Or.inl rfl) (pe_ix m_ix (mv 0) (mv 1) (fun _ _ => rfl)))) pss_nil)
    (pss_one (ps_ret (pe_lst (pa_cons (pe_callB (call_max2 rfl) (by rfl) T.n_max (by decide +kernel) (pa_cons pe_int (pa_cons (pe_op m_sub (pe_callB call_abs (by rfl) T.n_abs (by decide +kernel) (pa_cons (mv 2) pa_nil)) (pe_op m_pow pe_int pe_int)) pa_nil))) (pa_cons (pe_op m_mod (pe_op m_add (pe_op m_add (pe_op m_mul (mv 2) pe_int) (pe_op m_mul pe_int (mv 1))) pe_int) pe_int) (pa_cons pe_int pa_nil)))))))), ?_⟩
    refine ⟨_, _, rfl, .inl ⟨_, hS, rfl⟩, ?_⟩
    dsimp only [kB]
    refine ifD (fun h => ?_) (fun h => ?_)
    · have hlt : k.toNat < ns.length := by rw [List.length_map] at h; omega
      refine ⟨_, .int (ns[k.toNat]), .inl hS, ?_, ?_⟩
      · exact atI_at hk0 (by simp [hlt])
      · exact rest _
    · exact rest 0

theorem cdv_of {j : Int} {n : Nat} (i : Int) (h1 : 1 ≤ j) (h2 : j < 2 ^ n) (h0 : 0 < n) (h9 : n ≤ 9000) : CDv i j := ⟨by omega, Nat.lt_of_lt_of_le (nat_bits (by omega) h2 h0) h9⟩
theorem bits_le {i : Int} {n : Nat} (h1 : 0 ≤ i) (h2 : i < 2 ^ n) (h0 : 0 < n) : Builtin.Int.intBits i ≤ n := by
  have h := nat_bits h1 h2 h0
  unfold Builtin.Int.intBits
  split <;> omega
/-- between two turns of the loop in _law_pick -/
def PickI (H0 : Hp) (p : Addr) (x y many : Int) (i : Nat) (σ : L2.St) (H : Hp) : Prop := ∃ found z v4 v5, σ = [some (.ref p), some (.int many), none, some (.int found), v4, v5] ∧ H p = some (.lst [.int x, .int y, .int z]) ∧ ∀ b, b ≠ p → H b = H0 b
theorem ok_pick (T : Blt mg) (D : Dx K mg "_law_pick" s__law_pick ["feed", "many"]) : Cal P w K mg base 1 "_law_pick" spPick [] := by
  refine cal_of D sc__law_pick (fun vs H Q E h => ?_) (fun f cdv A o s H vs Q E hr h => ?_)
  · obtain ⟨p, many, rfl, _⟩ := h; rfl
  · obtain ⟨p, many, rfl, ⟨o, hp, x, y, z, rfl, hx, hy0, hy1⟩, hm1, hm2, q⟩ := h
    have at0 : ∀ {H : Hp} {x y z : Int}, H p = some (.lst [.int x, .int y, .int z]) → (SqL K H p [.int x, .int y, .int z] ∨ SqT K H p [.int x, .int y, .int z]) := fun h => .inl (SqL.of h)
    refine ⟨_, (pss_cons (ps_if (qt m_gt (pe_ix m_ix (mv 0) pe_int (fun _ _ => rfl)) pe_int (nomark _)) (pss_cons (ps_set (i := 2) sc__law_pick.nd rfl (Or.inl rfl) (pe_op m_mod (pe_ix m_ix (mv 0) pe_int (fun _ _ => rfl)) (mv 1)))
    (pss_cons (ps_asg (pe_op m_div (pe_ix m_ix (mv 0) pe_int (fun _ _ => rfl)) (mv 1)) (pg_sub (mv 0) pe_int set_list))
    (pss_one (ps_ret (mv 2))))) pss_nil)
    (pss_cons (ps_set (i := 3) sc__law_pick.nd rfl (Or.inl rfl) pe_int)
    (pss_cons (ps_for PassesOwn.never rfl (pi_range1 (by rfl) T.n_range (pa_cons (pe_op m_add pe_int (pe_op m_div (pe_bits (mv 1)) pe_int)) pa_nil)) (pg_name (i := 4) sc__law_pick.nd rfl (Or.inl rfl))
    (pss_cons (ps_asg (pe_op m_add (pe_ix m_ix (mv 0) pe_int (fun _ _ => rfl)) pe_int) (pg_sub (mv 0) pe_int set_list))
    (pss_cons (ps_set (i := 5) sc__law_pick.nd rfl (Or.inl rfl) (pe_op m_mod (pe_op m_add (pe_ix m_ix (mv 0) pe_int (fun _ _ => rfl)) (pe_op m_mul pe_int (pe_ix m_ix (mv 0) pe_int (fun _ _ => rfl)))) pe_int))
    (pss_cons (ps_set (i := 5) sc__law_pick.nd rfl (Or.inl rfl) (pe_op m_mod (pe_op m_add (pe_op m_add (pe_op m_mul (mv 5) (mv 5)) (pe_op m_mul (pe_op m_mul pe_int (pe_ix m_ix (mv 0) pe_int (fun _ _ => rfl))) (mv 5))) pe_int) pe_int))
    (pss_cons (ps_set (i := 5) sc__law_pick.nd rfl (Or.inl rfl) (pe_op m_mod (pe_op m_add (pe_op m_add (pe_op m_pow (mv 5) pe_int) (pe_ix m_ix (mv 0) pe_int (fun _ _ => rfl))) (pe_op m_mul pe_int (pe_ix m_ix (mv 0) pe_int (fun _ _ => rfl)))) pe_int))
    (pss_one (ps_set (i := 3) sc__law_pick.nd rfl (Or.inl rfl) (pe_op m_add (pe_op m_mul (mv 3) (pe_op m_pow pe_int pe_int)) (pe_op m_div (mv 5) pe_int)))))))))
    (pss_one (ps_ret (pe_op m_mod (mv 3) (mv 1))))))), ?_⟩
    refine ⟨_, _, at0 hp, atI_nat (j := 0) rfl, ?_⟩
    dsimp only [tC, kB]
    refine ifD (fun h => ?_) (fun h => ?_)
    · refine ⟨_, _, at0 hp, atI_nat (j := 0) rfl, by omega, ?_⟩
      refine ⟨_, _, at0 hp, atI_nat (j := 0) rfl, cdv_of _ hm1 hm2 (by decide) (by decide), ?_⟩
      refine ⟨p, _, _, 0, rfl, rfl, hp, rfl, ?_⟩
      exact q _ _ (mod_lt (by omega)).1 (mod_lt (by omega)).2 ⟨_, y, z, rfl, Int.ediv_nonneg hx (by omega), hy0, hy1⟩
    · refine ⟨many, rfl, ⟨by decide, by decide⟩, ?_⟩
      have hb := bits_le (by omega) hm2 (by decide)
      have hn : (0 : Int) ≤ 1 + ((Builtin.Int.intBits many : Nat) : Int) / 40 ∧ 1 + ((Builtin.Int.intBits many : Nat) : Int) / 40 ≤ 2000 := by omega
      refine ⟨_, rfl, by omega, by omega, for_range (lo := 0) (n := (1 + ((Builtin.Int.intBits many : Nat) : Int) / 40).toNat) (PickI H p x y many) ⟨0, z, none, none, rfl, hp, fun _ _ => rfl⟩ ?_ ?_⟩
      · rintro i σ H1 hi ⟨found, z1, v4, v5, rfl, h1, h2⟩
        refine ⟨_, _, at0 h1, atI_nat (j := 2) rfl, ?_⟩
        refine ⟨p, _, _, 2, rfl, rfl, h1, rfl, ?_⟩
        have h3 : (upd H1 p (.lst ([V.int x, V.int y, V.int z1].set 2 (.int (z1 + 1))))) p = some (.lst [V.int x, V.int y, V.int (z1 + 1)]) := upd_same
        refine ⟨_, _, at0 h3, atI_nat (j := 1) rfl, _, _, at0 h3, atI_nat (j := 2) rfl, mulL (by decide) (by decide), posM, ?_⟩
        obtain ⟨b0, b1⟩ := mod_lt (a := y + 230003 * (z1 + 1)) (b := 2305843009213693951) (by decide)
        refine ⟨mulL (by omega) (by omega), _, _, at0 h3, atI_nat (j := 2) rfl, mulL (by decide) (by decide), mulR (by omega) (by omega), posM, ?_⟩
        generalize hm : (y + 230003 * (z1 + 1)) % 2305843009213693951 = m1 at *
        obtain ⟨c0, c1⟩ := mod_lt (a := m1 * m1 + 78007 * (z1 + 1) * m1 + 73) (b := 2305843009213693951) (by decide)
        refine ⟨⟨by decide, by decide, by omega⟩, _, _, at0 h3, atI_nat (j := 1) rfl, _, _, at0 h3, atI_nat (j := 2) rfl, mulL (by decide) (by decide), posM, ?_⟩
        refine ⟨⟨by decide, by decide, by decide⟩, mulR (by decide) (by decide), ⟨by decide, by decide +kernel⟩, ?_⟩
        exact ⟨_, z1 + 1, _, _, rfl, h3, fun b hb => by rw [upd_ne hb]; exact h2 b hb⟩
      · rintro σ H1 ⟨found, z1, v4, v5, rfl, h1, h2⟩
        refine ⟨by omega, ?_⟩
        rw [upd_is h1 h2]
        exact q _ _ (mod_lt (by omega)).1 (mod_lt (by omega)).2 ⟨x, y, z1, rfl, hx, hy0, hy1⟩

theorem FeedO.ne_strs {o : HO} {ns : List Str} (h : FeedO o) : o ≠ .lst (ns.map V.str) := by
  obtain ⟨x, y, z, rfl, _⟩ := h
  intro e
  injection e with e
  cases ns with
  | nil => cases e
  | cons s ns => injection e with e; cases e
theorem FeedO.ne_tup {o : HO} (h : FeedO o) : ∀ xs, o ≠ .tup xs := by
  obtain ⟨x, y, z, rfl, _⟩ := h
  intro xs e
  cases e
theorem FeedAt.ne {H : Hp} {p a : Addr} {ns : List Str} (h : FeedAt H p) (ha : H a = some (.lst (ns.map V.str))) : a ≠ p := by
  obtain ⟨o, hp, fo⟩ := h
  exact fun e => by
    rw [e, hp] at ha
    exact fo.ne_strs (Option.some.inj ha)
theorem FeedAt.put {H : Hp} {p : Addr} {o : HO} (h : FeedO o) : FeedAt (L2.upd H p o) p := ⟨o, upd_same, h⟩
theorem FeedAt.keep {H H' : Hp} {p : Addr} (h : FeedAt H p) (e : Ext H H') : FeedAt H' p := by
  obtain ⟨o, hp, fo⟩ := h
  exact ⟨o, e _ _ hp, fo⟩
theorem TupSt.feed {H : Hp} {p : Addr} {o : HO} (h : FeedAt H p) : TupSt H (L2.upd H p o) := by
  obtain ⟨u, hp, fo⟩ := h
  exact TupSt.upd hp fo.ne_tup
/-- the names that crews are drawn from -/
def NAMES : List Str := ["ann", "bob", "a", "b", "cy", "zz", "abcdefgh", "ab", "x", "yvonne", "q", "annb"]
theorem names_ok : ∀ z ∈ NAMES, nameB z = true := by decide +kernel
theorem names_nd : NAMES.Nodup := by decide +kernel
def spCrewL : Sp := fun vs H Q _ => ∃ p most, vs = [.ref p, .int most] ∧ FeedAt H p ∧ 1 ≤ most ∧ most ≤ 12 ∧
  ∀ H' q ns, H q = none → H' q = some (.lst (ns.map V.str)) → CrewOk ns → (∀ z ∈ ns, z ∈ NAMES) → FeedAt H' p → Frm [p] H H' → Q (.ref q) H'
def CrewI (H0 : Hp) (p l D : Addr) (i : Nat) (H : Hp) : Prop := ∃ took rest : List Str, H l = some (.lst (rest.map V.str)) ∧ H D = some (.lst (took.map V.str)) ∧ (took ++ rest).Perm NAMES ∧ took.length = i ∧ FeedAt H p ∧ Frm [p] H0 H
theorem ok_crew (T : Blt mg) (D : Dx K mg "_law_crew" s__law_crew ["feed", "most"]) (c__law_pick : Cal P w K mg base 1 "_law_pick" spPick []) : Cal P w K mg base 2 "_law_crew" spCrewL [] := by
  refine cal_of D sc__law_crew (fun vs H Q E h => ?_) (fun f cdv A o s H vs Q E hr h => ?_)
  · obtain ⟨p, most, rfl, _⟩ := h; rfl
  · obtain ⟨p, most, rfl, hf, hm1, hm2, k⟩ := h
    refine ⟨_, (pss_cons (ps_set (i := 2) sc__law_crew.nd rfl (Or.inr rfl) (pe_lst (pa_cons pe_str (pa_cons pe_str (pa_cons pe_str (pa_cons pe_str (pa_cons pe_str (pa_cons pe_str (pa_cons pe_str (pa_cons pe_str (pa_cons pe_str (pa_cons pe_str (pa_cons pe_str (pa_cons pe_str pa_nil))))))))))))))
    (pss_one (ps_ret (pe_lc (own := [("turn", 3)]) (g := gName 3) (tt := tYes) (te := tBM K "list" rPopAt (mV 2) (tCons (tCall spPick [] C8.E0 (tCons (mV 0) (tCons (tCB (fun xs H Q => ∃ x n, xs = [x] ∧ LenV K x H n ∧ Q (.int n) H) (tCons (mV 2) tNil)) tNil))) tNil)) rfl sc__law_crew.nd (pi_range1 (by rfl) T.n_range (pa_cons (pe_op m_add pe_int (pe_c c__law_pick hr (by decide) rfl (pa_cons (mv 0) (pa_cons (mv 1) pa_nil)))) pa_nil)) (blkOk_by (own := [("turn", 3)]) (N := ["feed", "most", "names", "turn"]) (sc := fnScope s__law_crew) (by decide +kernel)) (fun _ _ _ _ _ => (pg_name (i := 3) sc__law_crew.nd rfl (Or.inl rfl))) (fun _ _ _ _ _ => pts_nil) (fun _ _ _ _ _ => (pe_bm PySem.F.plainAttrs_list PySem.F.slot_list_pop PySem.F.type_list_pop mt_popAt (mv 2) (pa_cons (pe_c c__law_pick hr (by decide) rfl (pa_cons (mv 0) (pa_cons (pe_callB call_len (by rfl) T.n_len (by decide +kernel) (pa_cons (mv 2) pa_nil)) pa_nil))) pa_nil))))))), ?_⟩
    refine ⟨(by show 12 ≤ sizeLine; decide), fun l hl => ?_⟩
    have x1 : Ext H (upd H l (.lst (NAMES.map V.str))) := Ext.upd hl
    have pl : p ≠ l := by obtain ⟨o, hp, _⟩ := hf; exact ne_of_none hp hl
    refine ⟨p, most, rfl, hf.keep x1, hm1, Int.lt_of_le_of_lt hm2 (by decide +kernel), fun r o1 h0 h1 fo => ?_⟩
    refine ⟨_, rfl, by omega, by omega, fun d hd => lc_range (lo := 0) (n := (1 + r).toNat) (CrewI H p l d) ⟨[], NAMES, ?_, upd_same, List.Perm.refl _, rfl, ?_, ?_⟩ ?_ ?_⟩
    · have ld : l ≠ d := by
        refine ne_of_none (o := .lst (NAMES.map V.str)) ?_ hd
        rw [upd_ne pl.symm]
        exact upd_same
      rw [upd_ne ld, upd_ne pl.symm]
      exact upd_same
    · exact (FeedAt.put fo).keep (Ext.upd hd)
    · exact ((Frm.ext x1).upd mem1).new hd
    · rintro i H1 hi ⟨took, rest, g1, g2, pm, ht, hf1, fr⟩
      have hl12 : took.length + rest.length = 12 := by have := pm.length_eq; rw [List.length_append] at this; exact this
      have hr1 : 1 ≤ rest.length := by omega
      refine ⟨rfl, goY (ifT (by rfl) ?_)⟩
      refine ⟨.inl ⟨rfl, _, SqL.of g1⟩, ?_⟩
      refine ⟨_, _, rfl, .inl ⟨_, SqL.of g1, rfl⟩, ?_⟩
      rw [List.length_map]
      refine ⟨p, _, rfl, hf1, by omega, Int.lt_of_le_of_lt (b := 12) (by omega) (by decide), fun r2 o2 q0 q1 fo2 => ?_⟩
      have lp : l ≠ p := hf1.ne g1
      have hk : r2.toNat < rest.length := by omega
      have dl : d ≠ l := by
        intro e
        rw [e, g1] at g2
        have e2 : rest.map V.str = took.map V.str := by injection g2 with g2; injection g2
        have e3 : rest = took := List.map_inj_right (fun a b h => V.str.inj h) |>.mp e2
        rw [e3] at pm
        have nd := pm.symm.nodup names_nd
        rw [List.nodup_append] at nd
        cases took with
        | nil => rw [e3] at hr1; exact absurd hr1 (by decide)
        | cons z t => exact nd.2.2 z List.mem_cons_self z List.mem_cons_self rfl
      have dp : d ≠ p := by
        intro e
        obtain ⟨u, hu, fu⟩ := hf1
        rw [e, hu] at g2
        exact fu.ne_strs (Option.some.inj g2)
      refine ⟨l, rest.map V.str, r2, r2.toNat, .str rest[r2.toNat], rfl, rfl, by rw [upd_ne lp]; exact g1, by omega, by omega, ?_, ?_, ?_⟩
      · rw [List.length_map]
        unfold PySem.seqIndex?
        simp
        omega
      · rw [List.getElem?_map, List.getElem?_eq_getElem hk]; rfl
      refine ⟨took.map V.str, by rw [upd_ne dl, upd_ne dp]; exact g2, by rw [List.length_map]; exact Nat.lt_of_le_of_lt (show took.length ≤ 12 by omega) (by decide), took ++ [rest[r2.toNat]], rest.eraseIdx r2.toNat, ?_, ?_, ?_, ?_, ?_, ?_⟩
      · rw [upd_ne dl.symm, upd_same, map_erase]
      · rw [upd_same, List.map_append]; rfl
      · refine List.Perm.trans ?_ pm
        rw [List.append_assoc]
        exact List.Perm.append_left _ (er_perm rest r2.toNat hk)
      · rw [List.length_append, ht]; rfl
      · refine ⟨o2, ?_, fo2⟩
        rw [upd_ne dp.symm, upd_ne lp.symm]
        exact upd_same
      · intro b u hb nb
        have b1 : b ≠ p := fun e => nb (by rw [e]; exact mem1)
        have b2 := fr b u hb nb
        rw [upd_ne ?_, upd_ne ?_, upd_ne b1]
        · exact b2
        · exact fun e => by rw [e, hl] at hb; cases hb
        · exact fun e => by rw [e, (upd_none (upd_none hd).2).2] at hb; cases hb
    · rintro H1 ⟨took, rest, g1, g2, pm, ht, hf1, fr⟩
      have hsub : ∀ z ∈ took, z ∈ NAMES := fun z hz => pm.mem_iff.mp (List.mem_append_left _ hz)
      have nd := pm.symm.nodup names_nd
      rw [List.nodup_append] at nd
      refine k H1 d took ?_ g2 ⟨by omega, ?_, fun z hz => names_ok z (hsub z hz), nd.1⟩ hsub hf1 fr
      · exact (upd_none (upd_none hd).2).2
      · have := pm.length_eq
        rw [List.length_append] at this
        have e : NAMES.length = 12 := rfl
        omega

def spEntsL : Sp := fun vs H Q _ => ∃ p a ns most limit, vs = [.ref p, .ref a, .int most, .int limit] ∧ FeedAt H p ∧ H a = some (.lst (ns.map V.str)) ∧ CrewOk ns ∧ 0 ≤ most ∧ most ≤ 200 ∧ 1 ≤ limit ∧ limit < 2 ^ 1000 ∧
  ∀ H' q es xs, H q = none → H' q = some (.lst xs) → EntL H' es xs → EntsOk ns es → (∀ e ∈ es, e.2 < limit) → FeedAt H' p → Frm [p] H H' → Q (.ref q) H'
def EntI (H0 : Hp) (p a : Addr) (ns : List Str) (most limit : Int) (l : Addr) (i : Nat) (σ : L2.St) (H : Hp) : Prop := ∃ es xs v5 v6 v7, σ = [some (.ref p), some (.ref a), some (.int most), some (.int limit), some (.ref l), v5, v6, v7] ∧
  H l = some (.lst xs) ∧ EntL H es xs ∧ es.length = i ∧ (∀ e ∈ es, e.1 ∈ ns ∧ 0 ≤ e.2 ∧ e.2 < limit) ∧ FeedAt H p ∧ Frm [p] H0 H
theorem Frm.new' {M : List Addr} {H H1 : Hp} {p : Addr} {o : HO} (a : Frm M H H1) (h : H p = none) : Frm M H (L2.upd H1 p o) := fun c u e n => by
  rw [upd_ne (ne_of_none e h)]; exact a c u e n
theorem EntL.snoc {H : Hp} : ∀ {es : List (Str × Int)} {xs : List V} {e : Str × Int} {v : V}, EntL H es xs → EntAt H e v → EntL H (es ++ [e]) (xs ++ [v])
  | _, _, _, _, .nil, h => .cons h .nil
  | _, _, _, _, .cons r q, h => .cons r (EntL.snoc q h)
theorem EntL.get {H : Hp} : ∀ {es : List (Str × Int)} {xs : List V} {i : Nat} (_ : EntL H es xs) (hi : i < es.length), ∃ v, xs[i]? = some v ∧ EntAt H es[i] v
  | _, _, 0, .cons r q, _ => ⟨_, rfl, r⟩
  | _, _, i + 1, .cons r q, hi => by
    obtain ⟨v, h1, h2⟩ := EntL.get q (i := i) (by simpa using hi)
    exact ⟨v, by simpa using h1, by simpa using h2⟩
theorem ok_ents (T : Blt mg) (D : Dx K mg "_law_entries" s__law_entries ["feed", "crew", "most", "limit"]) (c__law_pick : Cal P w K mg base 1 "_law_pick" spPick []) : Cal P w K mg base 2 "_law_entries" spEntsL [] := by
  refine cal_of D sc__law_entries (fun vs H Q E h => ?_) (fun f cdv A o s H vs Q E hr h => ?_)
  · obtain ⟨p, a, ns, most, limit, rfl, _⟩ := h; rfl
  · obtain ⟨p, a, ns, most, limit, rfl, hf, ha, cr, hm1, hm2, hl1, hl2', k⟩ := h
    have small : ∀ {i : Int}, i ≤ 1000 → i < 2 ^ 1000 := fun {i} h => Int.lt_of_le_of_lt h (by decide +kernel)
    refine ⟨_, (pss_cons (ps_set (i := 4) sc__law_entries.nd rfl (Or.inl rfl) (pe_lst pa_nil))
    (pss_cons (ps_for PassesOwn.never rfl (pi_range1 (by rfl) T.n_range (pa_cons (pe_ix m_ix (pe_lst (pa_cons (pe_c c__law_pick hr (by decide) rfl (pa_cons (mv 0) (pa_cons (pe_op m_add (mv 2) pe_int) pa_nil))) (pa_cons (mv 2) (pa_cons (pe_c c__law_pick hr (by decide) rfl (pa_cons (mv 0) (pa_cons (pe_callB (call_min2 rfl) (by rfl) T.n_min (by decide +kernel) (pa_cons pe_int (pa_cons (pe_op m_add (mv 2) pe_int) pa_nil))) pa_nil))) pa_nil)))) (pe_c c__law_pick hr (by decide) rfl (pa_cons (mv 0) (pa_cons pe_int pa_nil))) (fun _ _ => rfl)) pa_nil)) (pg_name (i := 5) sc__law_entries.nd rfl (Or.inl rfl))
    (C8.pss_cut (ps_set (i := 6) sc__law_entries.nd rfl (Or.inl rfl) (pe_and (pe_cmpR (op_neD hr.units) (mv 4) (pe_lst pa_nil) (nomark _)) (pe_one (pe_cmpR m_eq (pe_c c__law_pick hr (by decide) rfl (pa_cons (mv 0) (pa_cons pe_int pa_nil))) pe_int (nomark _)))))
    (pss_cons (ps_set (i := 7) sc__law_entries.nd rfl (Or.inl rfl) (pe_tup (pa_cons (pe_ix m_ix (mv 1) (pe_c c__law_pick hr (by decide) rfl (pa_cons (mv 0) (pa_cons (pe_callB call_len (by rfl) T.n_len (by decide +kernel) (pa_cons (mv 1) pa_nil)) pa_nil))) (fun _ _ => rfl)) (pa_cons (pe_c c__law_pick hr (by decide) rfl (pa_cons (mv 0) (pa_cons (mv 3) pa_nil))) pa_nil))))
    (pss_one (ps_expr (pe_bm PySem.F.plainAttrs_list PySem.F.slot_list_append PySem.F.type_list_append mt_append (mv 4) (pa_cons (pe_ifExp (qv (mv 6)) (pe_ix m_ix (mv 4) (pe_c c__law_pick hr (by decide) rfl (pa_cons (mv 0) (pa_cons (pe_callB call_len (by rfl) T.n_len (by decide +kernel) (pa_cons (mv 4) pa_nil)) pa_nil))) (fun _ _ => rfl)) (mv 7)) pa_nil)))))))
    (pss_one (ps_ret (mv 4))))), ?_⟩
    refine ⟨Nat.zero_le _, fun l hl => ?_⟩
    have ap : a ≠ p := hf.ne ha
    have pl : p ≠ l := by obtain ⟨o, hp, _⟩ := hf; exact ne_of_none hp hl
    refine ⟨p, _, rfl, hf.keep (Ext.upd hl), by omega, small (by omega), fun r1 o1 a1 a2 fo1 => ?_⟩
    refine ⟨_, _, rfl, p, _, rfl, FeedAt.put fo1, by split <;> omega, small (by split <;> omega), fun r2 o2 b1 b2 fo2 => ?_⟩
    refine ⟨(by show 3 ≤ sizeLine; decide), fun q0 hq0 => ?_⟩
    refine ⟨p, 3, rfl, (FeedAt.put fo2).keep (Ext.upd hq0), by decide, small (by decide), fun r3 o3 c1 c2 fo3 => ?_⟩
    have pq : p ≠ q0 := by intro e; rw [← e, upd_same] at hq0; cases hq0
    have lq : l ≠ q0 := by intro e; rw [← e, upd_ne pl.symm, upd_ne pl.symm, upd_same] at hq0; cases hq0
    have hq3 : (upd (upd (upd (upd (upd H l (.lst [])) p o1) p o2) q0 (.lst [.int r1, .int most, .int r2])) p o3) q0 = some (.lst [.int r1, .int most, .int r2]) := by rw [upd_ne pq.symm]; exact upd_same
    have three : r3 = 0 ∨ r3 = 1 ∨ r3 = 2 := by omega
    obtain ⟨n, hn, at3⟩ : ∃ n : Int, (0 ≤ n ∧ n ≤ most) ∧ atI [V.int r1, V.int most, V.int r2] r3 = some (.int n) := by
      rcases three with e | e | e
      · exact ⟨r1, by omega, by rw [e]; rfl⟩
      · exact ⟨most, by omega, by rw [e]; rfl⟩
      · refine ⟨r2, ⟨b1, ?_⟩, by rw [e]; rfl⟩
        split at b2 <;> omega
    refine ⟨_, _, .inl (SqL.of hq3), at3, _, rfl, by omega, by omega, for_range (lo := 0) (n := n.toNat) (EntI H p a ns most limit l) ⟨[], [], none, none, none, rfl, ?_, .nil, rfl, (fun _ h => nomatch h), FeedAt.put fo3, ?_⟩ ?_ ?_⟩
    · rw [upd_ne pl.symm, upd_ne lq, upd_ne pl.symm, upd_ne pl.symm]; exact upd_same
    · refine (((((Frm.refl (M := [p])).new' hl).upd mem1).upd mem1).new' ?_).upd mem1
      exact (upd_none (upd_none (upd_none hq0).2).2).2
    · rintro i σ H1 hi ⟨es, xs, v5, v6, v7, rfl, g1, el, ht, es_ok, hf1, fr⟩
      have nmE : ∀ e ∈ es, nameB e.1 = true := fun e he => cr.nam _ (es_ok e he).1
      have hi2 : es.length ≤ 200 := by omega
      -- again = found != [] and _law_pick(feed, 9) == 0
      refine ⟨fun σ2 H2 => ∃ b, σ2 = [some (.ref p), some (.ref a), some (.int most), some (.int limit), some (.ref l), some (.int (0 + i)), some (.bl b), v7] ∧ (b = true → es ≠ []) ∧ FeedAt H2 p ∧ Frm [p] H1 H2, ?_, ?_⟩
      · refine ⟨Nat.zero_le _, fun t0 ht0 => ?_⟩
        have y1 : Ext H1 (upd H1 t0 (.lst [])) := Ext.upd ht0
        refine ⟨_, encL [], dp_L (SqL.of (y1 _ _ g1)) (el.mono y1), .lst (SqL.of upd_same) .nil, shaped_L nmE, rfl, _, rfl, ?_⟩
        rw [eqv_L]
        by_cases e0 : es = []
        · rw [decide_eq_true e0]
          refine ifF (by rfl) ?_
          exact ⟨false, rfl, (fun z => nomatch z), hf1.keep y1, Frm.ext y1⟩
        · rw [decide_eq_false e0]
          refine ifT (by rfl) ?_
          refine ⟨p, _, rfl, hf1.keep y1, by decide, small (by decide), fun r4 o4 d1 d2 fo4 => ?_⟩
          exact ⟨_, rfl, fun _ => e0, FeedAt.put fo4, (Frm.ext y1).upd mem1⟩
      · rintro σ2 H2 ⟨b, rfl, hb, hf2, fr2⟩
        have lp : l ≠ p := pl.symm
        have ha2 : H2 a = some (.lst (ns.map V.str)) := fr2 _ _ (fr _ _ ha (by simpa using ap)) (by simpa using ap)
        have hc1 : (1 : Int) ≤ (ns.length : Int) := by have := cr.one; omega
        have hc2 : (ns.length : Int) ≤ 12 := by have := cr.few; omega
        have hl2 : H2 l = some (.lst xs) := fr2 _ _ g1 (by simpa using lp)
        -- fresh = (crew[..], _law_pick(feed, limit))
        refine ⟨_, _, rfl, .inl ⟨_, SqL.of ha2, rfl⟩, ?_⟩
        rw [List.length_map]
        refine ⟨p, _, rfl, hf2, hc1, small (by omega), fun r5 o5 d1 d2 fo5 => ?_⟩
        have hk5 : r5.toNat < ns.length := by omega
        refine ⟨_, .str ns[r5.toNat], .inl (SqL.of (by rw [upd_ne ap]; exact ha2)), atI_at d1 (by rw [List.getElem?_map, List.getElem?_eq_getElem hk5]; rfl), ?_⟩
        refine ⟨p, limit, rfl, FeedAt.put fo5, hl1, hl2', fun r6 o6 f1 f2 fo6 => ?_⟩
        refine ⟨(by show 2 ≤ sizeLine; decide), fun tp htp => ?_⟩
        have ptp : p ≠ tp := by intro e; rw [← e, upd_same] at htp; cases htp
        have y2 : Frm [p] H2 (upd (upd (upd H2 p o5) p o6) tp (.tup [.str ns[r5.toNat], .int r6])) := (((Frm.refl (M := [p])).upd mem1).upd mem1).new htp
        have hl3 := y2 _ _ hl2 (by simpa using lp)
        have hf3 : FeedAt (upd (upd (upd H2 p o5) p o6) tp (.tup [.str ns[r5.toNat], .int r6])) p := (FeedAt.put fo6).keep (Ext.upd htp)
        have st : TupSt H1 (upd (upd (upd H2 p o5) p o6) tp (.tup [.str ns[r5.toNat], .int r6])) := by
          obtain ⟨u1, hu1, fu1⟩ := hf1
          exact Frm.tups (fr2.trans y2) hu1 fu1.ne_tup
        have el3 := EntL.st el st
        have fresh : EntAt (upd (upd (upd H2 p o5) p o6) tp (.tup [.str ns[r5.toNat], .int r6])) (ns[r5.toNat], r6) (.ref tp) := ⟨tp, rfl, upd_same⟩
        have fin : ∀ (e : Str × Int) (v : V) (H4 : Hp), e.1 ∈ ns ∧ 0 ≤ e.2 ∧ e.2 < limit → EntAt H4 e v → EntL H4 es xs → FeedAt H4 p → Frm [p] H1 H4 → H4 l = some (.lst xs) → xs.length < sizeLine ∧
            EntI H p a ns most limit l (i + 1) [some (.ref p), some (.ref a), some (.int most), some (.int limit), some (.ref l), some (.int (0 + i)), some (.bl b), some (.ref tp)] (upd H4 l (.lst (xs ++ [v]))) := by
          intro e v H4 e_ok ea el4 hf4 fr4 hl4
          have up : TupSt H4 (upd H4 l (.lst (xs ++ [v]))) := TupSt.upd hl4 (fun _ z => nomatch z)
          refine ⟨?_, es ++ [e], xs ++ [v], _, _, _, rfl, upd_same, ?_, ?_, ?_, ?_, ?_⟩
          · rw [← el4.len]
            exact Nat.lt_of_le_of_lt hi2 (by decide)
          · obtain ⟨t1, rfl, h1⟩ := ea
            exact (EntL.st el4 up).snoc ⟨t1, rfl, up _ _ h1⟩
          · rw [List.length_append, ht]; rfl
          · intro x hx
            rcases List.mem_append.mp hx with hx | hx
            · exact es_ok x hx
            · rw [List.mem_singleton.mp hx]; exact e_ok
          · obtain ⟨u, hu, fu⟩ := hf4
            exact ⟨u, by rw [upd_ne lp.symm]; exact hu, fu⟩
          · intro c u hc nc
            have c1 : c ≠ l := fun z => by rw [z, hl] at hc; cases hc
            rw [upd_ne c1]
            exact fr4 _ _ (fr _ _ hc nc) nc
        refine ⟨.inl ⟨rfl, _, SqL.of hl3⟩, ?_⟩
        cases b with
        | false =>
          obtain ⟨z1, z2⟩ := fin _ _ _ ⟨List.getElem_mem _, f1, f2⟩ fresh el3 hf3 (fr2.trans y2) hl3
          exact ⟨l, xs, _, rfl, rfl, hl3, z1, z2⟩
        | true =>
          have ne0 := hb rfl
          have hx1 : 1 ≤ es.length := List.length_pos_iff.mpr ne0
          refine ⟨_, _, rfl, .inl ⟨_, SqL.of hl3, rfl⟩, ?_⟩
          rw [← el.len]
          refine ⟨p, _, rfl, hf3, by omega, small (by omega), fun r7 o7 w1 w2 fo7 => ?_⟩
          have hk7 : r7.toNat < es.length := by omega
          have y3 : Frm [p] H1 (upd (upd (upd (upd H2 p o5) p o6) tp (.tup [.str ns[r5.toNat], .int r6])) p o7) := (fr2.trans y2).upd mem1
          have el4 := EntL.st el3 (TupSt.feed (o := o7) hf3)
          have hl4 : (upd (upd (upd (upd H2 p o5) p o6) tp (.tup [.str ns[r5.toNat], .int r6])) p o7) l = some (.lst xs) := by rw [upd_ne lp]; exact hl3
          obtain ⟨v, hv, ev⟩ := el4.get hk7
          refine ⟨_, v, .inl (SqL.of hl4), atI_at w1 hv, ?_⟩
          obtain ⟨z1, z2⟩ := fin _ v _ (es_ok _ (List.getElem_mem hk7)) ev el4 (FeedAt.put fo7) y3 hl4
          exact ⟨l, xs, v, rfl, rfl, hl4, z1, z2⟩
    · rintro σ H1 ⟨es, xs, v5, v6, v7, rfl, g1, el, ht, es_ok, hf1, fr⟩
      exact k H1 l es xs hl g1 el ⟨by omega, fun e he => ⟨(es_ok e he).1, (es_ok e he).2.1⟩⟩ (fun e he => (es_ok e he).2.2) hf1 fr
end
end NB

set_option Elab.async false
set_option linter.all false
set_option maxRecDepth 100000
set_option maxHeartbeats 4000000
/-! K4: classes of logs, logs made -/
namespace NB
open PySem PySem.Spec L2
open PyProof.Rows (envOfC)
open C8 (pe_c pe_mk pe_mt pe_mt0 pe_gc fnScope fnBody fnArgs fnScope_by Cal Met Mak)

/-- where the methods of Log stand -/
structure Ads where
  (fI fZ fV fE : Addr)
  (dI dZ dV dE : FuncData)
structure Ms (K : PySem.W.Frag) (A : Ads) : Prop where
  mI : Mx K "__init__" "Log.__init__" s_Log___init__ ["self", "size", "servers", "entries"] A.fI A.dI
  mZ : Mx K "size" "Log.size" s_Log_size ["self"] A.fZ A.dZ
  mV : Mx K "servers" "Log.servers" s_Log_servers ["self"] A.fV A.dV
  mE : Mx K "entries" "Log.entries" s_Log_entries ["self"] A.fE A.dE
structure LogM (K : PySem.W.Frag) (C : Addr) (kn : Str) (A : Ads) : Prop extends LogC K C kn where
  mkk : Mk K C A.fI
  pZ : ∃ p, PropOf K C "size" p A.fZ
  pV : ∃ p, PropOf K C "servers" p A.fV
  pE : ∃ p, PropOf K C "entries" p A.fE
section
variable {P : Program} {w : World} {K : PySem.W.Frag} {mg : Str → Option Value} {base : Heap} {cL cX C : Addr} {kd : Str}
/-- a new log, for what is done with it -/
def NewLog (C : Addr) (H : Hp) (sz : Int) (ns : List Str) (xs : List V) (Q : VK) : Prop := ∀ H' q dx ls le, H q = none → H dx = none → H ls = none → H le = none → dx ≠ q →
  H' q = some (.ins C dx (lf sz ls le)) → H' ls = some (.lst (ns.map V.str)) → H' le = some (.lst xs) → Ext H H' → Q (.ref q) H'
theorem init_new {H : Hp} {x dx : Addr} {sz : Int} {a l : Addr} {ns : List Str} {es : List (Str × Int)} {xs : List V} {Q : VK} {E : XK} (nx : H x = none) (nd : H dx = none) (ne : dx ≠ x) (so : SizeOk sz) (ha : H a = some (.lst (ns.map V.str))) (cr : CrewOk ns)
    (hl : H l = some (.lst xs)) (el : EntL H es xs) (ok : EntsOk ns es) (k : NewLog C H sz ns xs Q) :
    spInit C [.ref x, .int sz, .ref a, .ref l] (upd (upd H dx (.own x)) x (.ins C dx [])) (fun v H2 => v = .non ∧ Q (.ref x) H2) E := by
  have x0 : Ext H (upd (upd H dx (.own x)) x (.ins C dx [])) := fun b o e => by
    rw [upd_ne (ne_of_none e nx), upd_ne (ne_of_none e nd)]; exact e
  refine ⟨x, dx, sz, a, ns, l, es, xs, rfl, upd_same, by rw [upd_ne ne]; exact upd_same, so, x0 _ _ ha, cr, x0 _ _ hl, el.mono x0, ok, fun H' ls le h1 h2 g1 g2 g3 fr => ⟨rfl, ?_⟩⟩
  refine k H' x dx ls le nx nd (Ext.free x0 h1) (Ext.free x0 h2) ne g1 g2 g3 fun b o e => fr _ _ (x0 _ _ e) ?_
  intro z
  exact ne_of_none e nx (List.mem_singleton.mp z)
def kdC (cL cX : Addr) (kd : Str) : Addr := if kd = "losing" then cX else cL
def spMade (cL cX : Addr) : Sp := fun vs H Q _ => ∃ kd sz a ns l es xs, vs = [.str kd, .int sz, .ref a, .ref l] ∧ SizeOk sz ∧ H a = some (.lst (ns.map V.str)) ∧ CrewOk ns ∧ H l = some (.lst xs) ∧ EntL H es xs ∧ EntsOk ns es ∧ NewLog (kdC cL cX kd) H sz ns xs Q
theorem ok_made (T : Blt mg) (D : Dx K mg "_law_made" s__law_made ["kind", "unit", "crew", "shown"]) (c_Log : Mak P w K mg base 4 "Log" cL (spInit cL) []) (c_LosingLog : Mak P w K mg base 4 "LosingLog" cX (spInit cX) []) :
    Cal P w K mg base 6 "_law_made" (spMade cL cX) [] := by
  refine cal_of D sc__law_made (fun vs H Q E h => ?_) (fun f cdv A o s H vs Q E hr h => ?_)
  · obtain ⟨kd, sz, a, ns, l, es, xs, rfl, _⟩ := h; rfl
  · obtain ⟨kd, sz, a, ns, l, es, xs, rfl, so, ha, cr, hl, el, ok, k⟩ := h
    refine ⟨_, (pss_one (ps_ret (pe_ifExp (qt m_eq (mv 0) pe_str (nomark _)) (pe_mk c_LosingLog hr (by decide) rfl (pa_cons (mv 1) (pa_cons (mv 2) (pa_cons (mv 3) pa_nil)))) (pe_mk c_Log hr (by decide) rfl (pa_cons (mv 1) (pa_cons (mv 2) (pa_cons (mv 3) pa_nil))))))), ?_⟩
    show if decide (kd = ("losing" : Str)) = true then _ else _
    refine ifD (fun e => ?_) (fun e => ?_)
    · intro x dx nx nd ne
      have e2 : kdC cL cX kd = cX := if_pos e
      rw [e2] at k
      exact init_new nx nd ne so ha cr hl el ok k
    · intro x dx nx nd ne
      have e2 : kdC cL cX kd = cL := if_neg e
      rw [e2] at k
      exact init_new nx nd ne so ha cr hl el ok k
end
end NB

set_option Elab.async false
set_option linter.all false
set_option maxRecDepth 100000
/-! K4d (k05): windows, in plain Lean; what facts hold -/
namespace NB
open PySem PySem.Spec L2
theorem snocI {α : Type} {P : List α → Prop} (h0 : P []) (h1 : ∀ xs x, P xs → P (xs ++ [x])) (xs : List α) : P xs := by
  have h : ∀ ys : List α, P ys.reverse := fun ys => by
    induction ys with
    | nil => exact h0
    | cons y ys ih => rw [List.reverse_cons]; exact h1 _ _ ih
  have := h xs.reverse
  rwa [List.reverse_reverse] at this
/-- the names with an entry of a block -/
def hol (sz : Int) (es : List (Str × Int)) (b : Int) : List Str := (es.filter fun e => decide (e.2 / sz = b)).map (·.1)
theorem hol_snoc (sz : Int) (es : List (Str × Int)) (e : Str × Int) (b : Int) : hol sz (es ++ [e]) b = if b = e.2 / sz then hol sz es b ++ [e.1] else hol sz es b := by
  unfold hol
  rw [List.filter_append, List.map_append]
  by_cases h : b = e.2 / sz
  · rw [if_pos h]; simp [h]
  · rw [if_neg h]
    have h' : ¬ e.2 / sz = b := fun z => h z.symm
    simp [h']
/-- index and block of a server's entries -/
def ownL (sz : Int) (z : Str) : Nat → List (Str × Int) → List (Nat × Int)
  | _, [] => []
  | i, e :: es => if e.1 = z then (i, e.2 / sz) :: ownL sz z (i + 1) es else ownL sz z (i + 1) es
theorem ownL_snoc (sz : Int) (z : Str) (e : Str × Int) : ∀ (es : List (Str × Int)) (i : Nat), ownL sz z i (es ++ [e]) = if e.1 = z then ownL sz z i es ++ [(i + es.length, e.2 / sz)] else ownL sz z i es
  | [], i => by
    show (if e.1 = z then [(i, e.2 / sz)] else []) = _
    split <;> simp [ownL]
  | y :: es, i => by
    have ih := ownL_snoc sz z e es (i + 1)
    show (if y.1 = z then (i, y.2 / sz) :: ownL sz z (i + 1) (es ++ [e]) else ownL sz z (i + 1) (es ++ [e])) = _
    have el : i + 1 + es.length = i + (y :: es).length := by simp; omega
    rw [ih, el]
    by_cases h : y.1 = z <;> by_cases h2 : e.1 = z <;> simp [ownL, h, h2]
theorem ownL_lt (sz : Int) (z : Str) : ∀ (es : List (Str × Int)) (i : Nat), ∀ p ∈ ownL sz z i es, p.1 < i + es.length
  | [], i, p, h => nomatch h
  | y :: es, i, p, h => by
    have ih := ownL_lt sz z es (i + 1)
    simp only [ownL] at h
    simp only [List.length_cons]
    split at h
    · rcases List.mem_cons.mp h with rfl | h
      · show i < _; omega
      · have := ih p h; omega
    · have := ih p h; omega
theorem ownL_len (sz : Int) (z : Str) : ∀ (es : List (Str × Int)) (i : Nat), (ownL sz z i es).length ≤ es.length
  | [], i => Nat.le_refl _
  | y :: es, i => by
    have ih := ownL_len sz z es (i + 1)
    simp only [ownL, List.length_cons]
    split
    · simp only [List.length_cons]; omega
    · omega
/-- the slots behind entries of lower blocks; the indices of entries of this or a higher one -/
def lows (sz : Int) (z : Str) (b : Int) (es : List (Str × Int)) : List Int := ((ownL sz z 0 es).filter fun p => decide (p.2 < b)).map fun p => (p.1 : Int) + 1
def highs (sz : Int) (z : Str) (b : Int) (es : List (Str × Int)) : List Int := ((ownL sz z 0 es).filter fun p => decide (b ≤ p.2)).map fun p => (p.1 : Int)
def lowW (sz : Int) (z : Str) (b : Int) : Nat → List (Str × Int) → Int → Int
  | _, [], a => a
  | i, e :: es, a => lowW sz z b (i + 1) es (if e.1 = z ∧ e.2 / sz < b then (i : Int) + 1 else a)
def highW (sz : Int) (z : Str) (b top : Int) : Nat → List (Str × Int) → Int → Int
  | _, [], a => a
  | i, e :: es, a => highW sz z b top (i + 1) es (if (e.1 = z ∧ b ≤ e.2 / sz) ∧ a = top then (i : Int) else a)
theorem lowW_snoc (sz : Int) (z : Str) (b : Int) (e : Str × Int) : ∀ (es : List (Str × Int)) (i : Nat) (a : Int), lowW sz z b i (es ++ [e]) a = if e.1 = z ∧ e.2 / sz < b then ((i + es.length : Nat) : Int) + 1 else lowW sz z b i es a
  | [], i, a => rfl
  | y :: es, i, a => by
    show lowW sz z b (i + 1) (es ++ [e]) _ = _
    rw [lowW_snoc sz z b e es (i + 1)]
    have el : i + 1 + es.length = i + (y :: es).length := by simp; omega
    rw [el]
    rfl
theorem highW_snoc (sz : Int) (z : Str) (b top : Int) (e : Str × Int) : ∀ (es : List (Str × Int)) (i : Nat) (a : Int), highW sz z b top i (es ++ [e]) a = if (e.1 = z ∧ b ≤ e.2 / sz) ∧ highW sz z b top i es a = top then ((i + es.length : Nat) : Int) else highW sz z b top i es a
  | [], i, a => rfl
  | y :: es, i, a => by
    show highW sz z b top (i + 1) (es ++ [e]) _ = _
    rw [highW_snoc sz z b top e es (i + 1)]
    have el : i + 1 + es.length = i + (y :: es).length := by simp; omega
    rw [el]
    rfl
/-- the window of a server for a block -/
def win (sz : Int) (es : List (Str × Int)) (z : Str) (b : Int) : Option (Int × Int) :=
  if (hol sz es b).any (fun y => decide (y ≠ z)) = true then none else some (lowW sz z b 0 es 0, highW sz z b es.length 0 es es.length)
theorem lows_snoc (sz : Int) (z : Str) (b : Int) (es : List (Str × Int)) (e : Str × Int) : lows sz z b (es ++ [e]) = if e.1 = z ∧ e.2 / sz < b then lows sz z b es ++ [(es.length : Int) + 1] else lows sz z b es := by
  unfold lows
  rw [ownL_snoc]
  by_cases h : e.1 = z
  · rw [if_pos h, List.filter_append, List.map_append]
    by_cases h2 : e.2 / sz < b <;> simp [h, h2]
  · rw [if_neg h, if_neg (fun q => h q.1)]
theorem highs_snoc (sz : Int) (z : Str) (b : Int) (es : List (Str × Int)) (e : Str × Int) : highs sz z b (es ++ [e]) = if e.1 = z ∧ b ≤ e.2 / sz then highs sz z b es ++ [(es.length : Int)] else highs sz z b es := by
  unfold highs
  rw [ownL_snoc]
  by_cases h : e.1 = z
  · rw [if_pos h, List.filter_append, List.map_append]
    by_cases h2 : b ≤ e.2 / sz <;> simp [h, h2]
  · rw [if_neg h, if_neg (fun q => h q.1)]
theorem lows_le (sz : Int) (z : Str) (b : Int) (es : List (Str × Int)) : ∀ y ∈ lows sz z b es, y ≤ es.length := fun y h => by
  obtain ⟨p, hp, rfl⟩ := List.mem_map.mp h
  have := ownL_lt sz z es 0 p (List.mem_filter.mp hp).1
  omega
theorem highs_lt (sz : Int) (z : Str) (b : Int) (es : List (Str × Int)) : ∀ y ∈ highs sz z b es, y < es.length := fun y h => by
  obtain ⟨p, hp, rfl⟩ := List.mem_map.mp h
  have := ownL_lt sz z es 0 p (List.mem_filter.mp hp).1
  omega
theorem low_is (sz : Int) (z : Str) (b : Int) (es : List (Str × Int)) : (lows sz z b es = [] ∧ lowW sz z b 0 es 0 = 0) ∨ (lowW sz z b 0 es 0 ∈ lows sz z b es ∧ ∀ y ∈ lows sz z b es, y ≤ lowW sz z b 0 es 0) := by
  refine snocI (P := fun es => (lows sz z b es = [] ∧ lowW sz z b 0 es 0 = 0) ∨ (lowW sz z b 0 es 0 ∈ lows sz z b es ∧ ∀ y ∈ lows sz z b es, y ≤ lowW sz z b 0 es 0)) (.inl ⟨rfl, rfl⟩) (fun es e ih => ?_) es
  rw [lows_snoc, lowW_snoc]
  by_cases h : e.1 = z ∧ e.2 / sz < b
  · rw [if_pos h, if_pos h]
    refine .inr ⟨by simp, fun y hy => ?_⟩
    rcases List.mem_append.mp hy with hy | hy
    · have := lows_le sz z b es y hy; omega
    · rw [List.mem_singleton.mp hy]; omega
  · rw [if_neg h, if_neg h]; exact ih
theorem high_is (sz : Int) (z : Str) (b top : Int) (es : List (Str × Int)) : es.length ≤ top → (highs sz z b es = [] ∧ highW sz z b top 0 es top = top) ∨ (highW sz z b top 0 es top ∈ highs sz z b es ∧ ∀ y ∈ highs sz z b es, highW sz z b top 0 es top ≤ y) := by
  refine snocI (P := fun es => (es.length : Int) ≤ top → (highs sz z b es = [] ∧ highW sz z b top 0 es top = top) ∨ (highW sz z b top 0 es top ∈ highs sz z b es ∧ ∀ y ∈ highs sz z b es, highW sz z b top 0 es top ≤ y)) (fun _ => .inl ⟨rfl, rfl⟩) (fun es e ih hl => ?_) es
  rw [List.length_append, List.length_singleton] at hl
  have ih := ih (by omega)
  rw [highs_snoc, highW_snoc]
  by_cases h : e.1 = z ∧ b ≤ e.2 / sz
  · rw [if_pos h]
    right
    rcases ih with ⟨i1, i2⟩ | ⟨i1, i2⟩
    · rw [i1, if_pos ⟨h, i2⟩]
      simp
    · have lt := highs_lt sz z b es _ i1
      rw [if_neg (fun q => by have := q.2; omega)]
      refine ⟨List.mem_append_left _ i1, fun y hy => ?_⟩
      rcases List.mem_append.mp hy with hy | hy
      · exact i2 y hy
      · rw [List.mem_singleton.mp hy]; omega
  · rw [if_neg h, if_neg (fun q => h q.1)]; exact ih
theorem low_max {sz : Int} {z : Str} {b : Int} {es : List (Str × Int)} {m : Int} (h1 : m ∈ lows sz z b es) (h2 : ∀ y, y ∈ lows sz z b es → y ≤ m) : m = lowW sz z b 0 es 0 := by
  rcases low_is sz z b es with ⟨i1, _⟩ | ⟨i1, i2⟩
  · rw [i1] at h1; cases h1
  · exact Int.le_antisymm (i2 _ h1) (h2 _ i1)
theorem low_nil {sz : Int} {z : Str} {b : Int} {es : List (Str × Int)} (h : lows sz z b es = []) : lowW sz z b 0 es 0 = 0 := by
  rcases low_is sz z b es with ⟨_, i2⟩ | ⟨i1, _⟩
  · exact i2
  · rw [h] at i1; cases i1
theorem high_min {sz : Int} {z : Str} {b : Int} {es : List (Str × Int)} {m : Int} (h1 : m ∈ highs sz z b es) (h2 : ∀ y, y ∈ highs sz z b es → m ≤ y) : m = highW sz z b es.length 0 es es.length := by
  rcases high_is sz z b es.length es (Int.le_refl _) with ⟨i1, _⟩ | ⟨i1, i2⟩
  · rw [i1] at h1; cases h1
  · exact Int.le_antisymm (h2 _ i1) (i2 _ h1)
theorem high_nil {sz : Int} {z : Str} {b : Int} {es : List (Str × Int)} (h : highs sz z b es = []) : highW sz z b es.length 0 es es.length = es.length := by
  rcases high_is sz z b es.length es (Int.le_refl _) with ⟨_, i2⟩ | ⟨i1, _⟩
  · exact i2
  · rw [h] at i1; cases i1
theorem low_bd (sz : Int) (z : Str) (b : Int) (es : List (Str × Int)) : 0 ≤ lowW sz z b 0 es 0 ∧ lowW sz z b 0 es 0 ≤ es.length := by
  rcases low_is sz z b es with ⟨_, i2⟩ | ⟨i1, _⟩
  · rw [i2]; omega
  · refine ⟨?_, lows_le sz z b es _ i1⟩
    obtain ⟨p, _, e⟩ := List.mem_map.mp i1
    rw [← e]; omega
theorem high_bd (sz : Int) (z : Str) (b : Int) (es : List (Str × Int)) : 0 ≤ highW sz z b es.length 0 es es.length ∧ highW sz z b es.length 0 es es.length ≤ es.length := by
  rcases high_is sz z b es.length es (Int.le_refl _) with ⟨_, i2⟩ | ⟨i1, _⟩
  · rw [i2]; omega
  · refine ⟨?_, by have := highs_lt sz z b es _ i1; omega⟩
    obtain ⟨p, _, e⟩ := List.mem_map.mp i1
    rw [← e]; omega
/-- nobody else has an entry of the block -/
theorem hol_free {sz : Int} {z : Str} {b : Int} {es : List (Str × Int)} : (hol sz es b).any (fun y => decide (y ≠ z)) = false ↔ ∀ e ∈ es, ¬ (e.1 ≠ z ∧ e.2 / sz = b) := by
  rw [List.any_eq_false]
  unfold hol
  constructor
  · intro h e he q
    refine h e.1 (List.mem_map.mpr ⟨e, List.mem_filter.mpr ⟨he, decide_eq_true q.2⟩, rfl⟩) (decide_eq_true q.1)
  · intro h y hy
    obtain ⟨e, he, rfl⟩ := List.mem_map.mp hy
    obtain ⟨h1, h2⟩ := List.mem_filter.mp he
    intro q
    exact h e h1 ⟨of_decide_eq_true q, of_decide_eq_true h2⟩
/-- a window stands at v -/
def WinV (H : Hp) : Option (Int × Int) → V → Prop
  | none, v => v = .non
  | some (i, j), v => ∃ p, v = .ref p ∧ H p = some (.tup [.int i, .int j])
theorem WinV.mono {H H' : Hp} {o : Option (Int × Int)} {v : V} (h : WinV H o v) (x : Ext H H') : WinV H' o v := by
  cases o with
  | none => exact h
  | some p => obtain ⟨a, rfl, q⟩ := h; exact ⟨a, rfl, x _ _ q⟩
/-! ### facts -/
def fF (a l lb hd od : Addr) (g : Int) : List (Str × V) := putF "greatest" (.int g) (putF "own" (.ref od) (putF "holders" (.ref hd) (putF "seen_blocks" (.ref lb) (putF "seen_entries" (.ref l) (putF "names" (.ref a) [])))))
theorem fF_ent (a l lb hd od : Addr) (g : Int) : (fF a l lb hd od g).lookup ("seen_entries" : Str) = some (.ref l) := by
  unfold fF
  rw [lookup_putF, if_neg (by decide +kernel), lookup_putF, if_neg (by decide +kernel), lookup_putF, if_neg (by decide +kernel), lookup_putF, if_neg (by decide +kernel), lookup_putF, if_pos rfl]
theorem fF_hol (a l lb hd od : Addr) (g : Int) : (fF a l lb hd od g).lookup ("holders" : Str) = some (.ref hd) := by
  unfold fF
  rw [lookup_putF, if_neg (by decide +kernel), lookup_putF, if_neg (by decide +kernel), lookup_putF, if_pos rfl]
theorem fF_own (a l lb hd od : Addr) (g : Int) : (fF a l lb hd od g).lookup ("own" : Str) = some (.ref od) := by
  unfold fF
  rw [lookup_putF, if_neg (by decide +kernel), lookup_putF, if_pos rfl]
theorem fF_no (a l lb hd od : Addr) (g : Int) {m : Str} (h1 : ¬ m = "greatest") (h2 : ¬ m = "own") (h3 : ¬ m = "holders") (h4 : ¬ m = "seen_blocks") (h5 : ¬ m = "seen_entries") (h6 : ¬ m = "names") : (fF a l lb hd od g).lookup m = none := by
  unfold fF
  rw [lookup_putF, if_neg h1, lookup_putF, if_neg h2, lookup_putF, if_neg h3, lookup_putF, if_neg h4, lookup_putF, if_neg h5, lookup_putF, if_neg h6]
  rfl
/-- a dict with a list for each name -/
def kvR (q : Str → Addr) (ns : List Str) : List (Key × V) := ns.map fun z => (Sum.inr z, V.ref (q z))
theorem valV_kvR {q : Str → Addr} {z : Str} : ∀ {ns : List Str}, valV (kvR q ns) (Sum.inr z) = if z ∈ ns then some (V.ref (q z)) else none
  | [] => rfl
  | y :: ns => by
    show valV ((Sum.inr y, V.ref (q y)) :: kvR q ns) (Sum.inr z) = _
    by_cases e : y = z
    · subst e
      rw [valV_pos rfl, if_pos List.mem_cons_self]
    · have ne : ¬ ((Sum.inr y : Key) = Sum.inr z) := fun h => e (Sum.inr.inj h)
      rw [valV_neg ne, valV_kvR]
      have : (z ∈ y :: ns) ↔ z ∈ ns := ⟨fun h => (List.mem_cons.mp h).elim (fun h => absurd h.symm e) id, List.mem_cons_of_mem _⟩
      by_cases m : z ∈ ns
      · rw [if_pos m, if_pos (this.mpr m)]
      · rw [if_neg m, if_neg (fun h => m (this.mp h))]
theorem kvR_congr {q q' : Str → Addr} {ns : List Str} (h : ∀ z ∈ ns, q z = q' z) : kvR q ns = kvR q' ns := List.map_congr_left fun z hz => by rw [h z hz]
/-- a pair (index, block) stands at v -/
def PairAt (H : Hp) (p : Nat × Int) (v : V) : Prop := ∃ t, v = .ref t ∧ H t = some (.tup [.int (p.1 : Nat), .int p.2])
theorem PairAt.st {H H' : Hp} {p : Nat × Int} {v : V} (h : PairAt H p v) (x : TupSt H H') : PairAt H' p v := by
  obtain ⟨t, e, q⟩ := h
  exact ⟨t, e, x _ _ q⟩
theorem pairs_st {H H' : Hp} {ps : List (Nat × Int)} {vs : List V} (h : Paired (PairAt H) ps vs) (x : TupSt H H') : Paired (PairAt H') ps vs := Paired.mapP h fun _ _ q => q.st x
/-- the tuple of names of a block -/
def HolAt (H : Hp) (o : Option V) (zs : List Str) : Prop := (zs = [] ∧ o = none) ∨ (zs ≠ [] ∧ ∃ t, o = some (.ref t) ∧ H t = some (.tup (zs.map V.str)))
theorem HolAt.st {H H' : Hp} {o : Option V} {zs : List Str} (h : HolAt H o zs) (x : TupSt H H') : HolAt H' o zs := by
  rcases h with h | ⟨h1, t, h2, h3⟩
  · exact .inl h
  · exact .inr ⟨h1, t, h2, x _ _ h3⟩
/-- the two dicts of facts, for the first entries -/
structure FactsD (H : Hp) (hd od : Addr) (q : Str → Addr) (sz : Int) (ns : List Str) (pre : List (Str × Int)) : Prop where
  own : H od = some (.dK (kvR q ns))
  ls : ∀ z ∈ ns, ∃ ts, H (q z) = some (.lst ts) ∧ Paired (PairAt H) (ownL sz z 0 pre) ts
  inj : ∀ z ∈ ns, ∀ y ∈ ns, q z = q y → z = y
  hol : ∃ kvs, H hd = some (.dK kvs) ∧ kvs.length ≤ pre.length ∧ ∀ b : Int, HolAt H (valV kvs (Sum.inl b)) (hol sz pre b)
/-- facts of a log's entries stand at d -/
def FactsAt (C : Addr) (H : Hp) (d : Addr) (sz : Int) (ns : List Str) (es : List (Str × Int)) : Prop :=
  ∃ dx a l lb hd od g q xs, H d = some (.ins C dx (fF a l lb hd od g)) ∧ H l = some (.lst xs) ∧ EntL H es xs ∧ FactsD H hd od q sz ns es
theorem FactsD.mono {H H' : Hp} {hd od : Addr} {q : Str → Addr} {sz : Int} {ns : List Str} {pre : List (Str × Int)} (h : FactsD H hd od q sz ns pre) (x : Ext H H') : FactsD H' hd od q sz ns pre := by
  obtain ⟨h1, h2, h3, kvs, h4, h5, h6⟩ := h
  refine ⟨x _ _ h1, fun z hz => ?_, h3, kvs, x _ _ h4, h5, fun b => (h6 b).st (TupSt.ext x)⟩
  obtain ⟨ts, g1, g2⟩ := h2 z hz
  exact ⟨ts, x _ _ g1, pairs_st g2 (TupSt.ext x)⟩
theorem FactsAt.mono {C : Addr} {H H' : Hp} {d : Addr} {sz : Int} {ns : List Str} {es : List (Str × Int)} (h : FactsAt C H d sz ns es) (x : Ext H H') : FactsAt C H' d sz ns es := by
  obtain ⟨dx, a, l, lb, hd, od, g, q, xs, h1, h2, h3, h4⟩ := h
  exact ⟨dx, a, l, lb, hd, od, g, q, xs, x _ _ h1, x _ _ h2, h3.mono x, h4.mono x⟩
/-- what the class of facts must have -/
structure FactC (K : PySem.W.Frag) (C : Addr) : Prop where
  cl : Cls K C
  nN : NoAttr K C "names"
  nE : NoAttr K C "seen_entries"
  nB : NoAttr K C "seen_blocks"
  nH : NoAttr K C "holders"
  nO : NoAttr K C "own"
  nG : NoAttr K C "greatest"
theorem u2 {k : Nat} {A : Around} (hr : Room k A) : A.units + 1 < cLine := by have := hr.un; omega
theorem pApp {α β : Type} {R : α → β → Prop} : ∀ {es fs : List α} {vs ws : List β}, Paired R es vs → Paired R fs ws → Paired R (es ++ fs) (vs ++ ws)
  | _, _, _, _, .nil, h => h
  | _, _, _, _, .cons r q, h => .cons r (pApp q h)
theorem pAt {α β : Type} {R : α → β → Prop} : ∀ {es : List α} {vs : List β} {i : Nat} {v : β}, Paired R es vs → vs[i]? = some v → ∃ e, es[i]? = some e ∧ R e v
  | _, _, i, v, .nil, h => by simp at h
  | _, _, 0, v, .cons (a := e) r q, h => by simp at h; subst h; exact ⟨e, rfl, r⟩
  | _, _, i + 1, v, .cons r q, h => by
    obtain ⟨e, h1, h2⟩ := pAt q (i := i) (v := v) (by simpa using h)
    exact ⟨e, by simpa using h1, h2⟩
theorem pLen {α β : Type} {R : α → β → Prop} : ∀ {es : List α} {vs : List β}, Paired R es vs → es.length = vs.length
  | _, _, .nil => rfl
  | _, _, .cons _ q => by rw [List.length_cons, List.length_cons, pLen q]
end NB

set_option Elab.async false
set_option linter.all false
set_option maxRecDepth 100000
set_option maxHeartbeats 4000000
/-! K4e (k05): the window that facts tell -/
namespace NB
open PySem PySem.Spec L2
open PyProof.Rows (envOfC)
open C8 (pe_c pe_mk pe_mt pe_mt0 pe_gc fnScope fnBody fnArgs fnScope_by Cal Met Mak)
theorem ps0 {X : Cx} : Passes C8.CX0 X C8.E0 := C8.pass0
/-- the part of a list of pairs that a comprehension keeps -/
def pick (c : Int → Bool) (g : Nat → Int) (ps : List (Nat × Int)) : List Int := (ps.filter fun p => c p.2).map fun p => g p.1
theorem pick_snoc (c : Int → Bool) (g : Nat → Int) (ps : List (Nat × Int)) (p : Nat × Int) : pick c g (ps ++ [p]) = if c p.2 = true then pick c g ps ++ [g p.1] else pick c g ps := by
  unfold pick
  rw [List.filter_append, List.map_append]
  by_cases h : c p.2 = true <;> simp [h]
theorem pick_len (c : Int → Bool) (g : Nat → Int) (ps : List (Nat × Int)) : (pick c g ps).length ≤ ps.length := by
  unfold pick
  rw [List.length_map]
  exact List.length_filter_le _ _
theorem put_ext {H0 H1 : Hp} {D : Addr} {o : HO} (x : Ext H0 H1) (n : H0 D = none) : Ext H0 (upd H1 D o) := fun b u h => by
  rw [upd_ne (ne_of_none h n)]; exact x b u h
def spWinOf (C : Addr) : Sp := fun vs H Q _ => ∃ d sz ns es z b, vs = [.ref d, .str z, .int b] ∧ FactsAt C H d sz ns es ∧ z ∈ ns ∧ es.length ≤ 200 ∧ ∀ H' v, Ext H H' → WinV H' (win sz es z b) v → Q v H'
structure Tb (mg : Str → Option Value) : Prop extends Blt mg where
  n_any : mg "any" = none
  n_enumerate : mg "enumerate" = none
section
variable {P : Program} {w : World} {K : PySem.W.Frag} {mg : Str → Option Value} {base : Heap} {C : Addr}
theorem ok_winOf (T : Tb mg) (L : FactC K C) {f : Addr} {fd : FuncData} (D : Mx K "window_of" "Facts.window_of" s_Facts_window_of ["self", "server", "block"] f fd) : FnOk P w K mg base C8.CX0 1 f fd ["self", "server", "block"] (spWinOf C) := by
  refine fn_of' D sc_Facts_window_of (fun vs H Q E h => ?_) (fun cdv A o s H vs Q E hr h => ?_)
  · obtain ⟨d, sz, ns, es, z, b, rfl, _⟩ := h; rfl
  · obtain ⟨d, sz, ns, es, z, b, rfl, ⟨dx, a, l, lb, hd, od, g, q, xs, hi, hl, el, fd⟩, hz, he, k⟩ := h
    obtain ⟨ho, hls, inj, kvs, hk, hkl, hh⟩ := fd
    refine ⟨_, (pss_cons (ps_if (qv (pe_callB (cr_any rfl) (by rfl) T.n_any (by decide +kernel) (pa_cons (pe_lc (own := [("holder", 3)]) (g := gName 3) (tt := tYes) rfl sc_Facts_window_of.nd (pi_tup (pe_dget2 (u2 hr) (pe_fld (mv 0) rfl) (mv 2) (pe_tup pa_nil) ⟨rfl, rfl, rfl, rfl⟩)) (blkOk_by (own := [("holder", 3)]) (N := ["self", "server", "block", "holder", "low", "index", "other", "high"]) (sc := fnScope s_Facts_window_of) (by decide +kernel)) (fun _ _ _ _ _ => (pg_name (i := 3) sc_Facts_window_of.nd rfl (Or.inl rfl))) (fun _ _ _ _ _ => pts_nil) (fun _ _ _ _ _ => (pe_cmpR m_ne (mv 3) (mv 1) (nomark _)))) pa_nil))) (pss_one (ps_ret pe_non)) pss_nil)
    (C8.pss_cut (ps_set (i := 4) sc_Facts_window_of.nd rfl (Or.inl rfl) (pe_callBK (cr_maxD rfl) (by rfl) T.n_max (by decide +kernel) (pa_cons (pe_lc (own := [("index", 5), ("other", 6)]) (g := gTup K 2 (gCons (gName 5) (gCons (gName 6) gNil))) rfl sc_Facts_window_of.nd (pi_list (pe_dget (u2 hr) (pe_fld (mv 0) rfl) (mv 1) (fun _ _ => rfl))) (blkOk_by (own := [("index", 5), ("other", 6)]) (N := ["self", "server", "block", "holder", "low", "index", "other", "high"]) (sc := fnScope s_Facts_window_of) (by decide +kernel)) (fun _ _ _ _ _ => (pg_tup rfl (pgs_cons (pg_name (i := 5) sc_Facts_window_of.nd rfl (Or.inl rfl)) (pgs_cons (pg_name (i := 6) sc_Facts_window_of.nd rfl (Or.inl rfl)) pgs_nil)))) (fun _ _ _ _ _ => (pts_one (qt m_lt (mv 6) (mv 2) (nomark _)))) (fun _ _ _ _ _ => (pe_op m_add (mv 5) pe_int))) pa_nil) (pk_cons pe_int pk_nil)))
    (C8.pss_cut (ps_set (i := 7) sc_Facts_window_of.nd rfl (Or.inl rfl) (pe_callBK (cr_minD rfl) (by rfl) T.n_min (by decide +kernel) (pa_cons (pe_lc (own := [("index", 5), ("other", 6)]) (g := gTup K 2 (gCons (gName 5) (gCons (gName 6) gNil))) rfl sc_Facts_window_of.nd (pi_list (pe_dget (u2 hr) (pe_fld (mv 0) rfl) (mv 1) (fun _ _ => rfl))) (blkOk_by (own := [("index", 5), ("other", 6)]) (N := ["self", "server", "block", "holder", "low", "index", "other", "high"]) (sc := fnScope s_Facts_window_of) (by decide +kernel)) (fun _ _ _ _ _ => (pg_tup rfl (pgs_cons (pg_name (i := 5) sc_Facts_window_of.nd rfl (Or.inl rfl)) (pgs_cons (pg_name (i := 6) sc_Facts_window_of.nd rfl (Or.inl rfl)) pgs_nil)))) (fun _ _ _ _ _ => (pts_one (qt m_ge (mv 6) (mv 2) (nomark _)))) (fun _ _ _ _ _ => (mv 5))) pa_nil) (pk_cons (pe_callB call_len (by rfl) T.n_len (by decide +kernel) (pa_cons (pe_fld (mv 0) rfl) pa_nil)) pk_nil)))
    (pss_one (ps_ret (pe_tup (pa_cons (mv 4) (pa_cons (mv 7) pa_nil)))))))), ?_⟩
    refine ⟨d, C, dx, _, _, rfl, hi, L.cl, L.nH, fF_hol _ _ _ _ _ _, hd, rfl, .inl ⟨kvs, .inl hk⟩, (Nat.zero_le _), fun t0 n0 => ?_⟩
    have x0 := Ext.upd (o := .tup []) n0
    have c0 : (upd H t0 (.tup [])) t0 = some (.tup []) := upd_same
    generalize upd H t0 (.tup []) = H1 at x0 c0 ⊢
    refine ⟨valV kvs (Sum.inl b), DGet.k (k := Sum.inl b) (x0 _ _ hk), ?_⟩
    obtain ⟨t1, e1, h1⟩ : ∃ t1, (valV kvs (Sum.inl b)).getD (.ref t0) = .ref t1 ∧ H1 t1 = some (.tup ((hol sz es b).map V.str)) := by
      rcases hh b with ⟨e, e2⟩ | ⟨_, t, e2, e3⟩
      · exact ⟨t0, by rw [e2]; rfl, by rw [e]; exact c0⟩
      · exact ⟨t, by rw [e2]; rfl, x0 _ _ e3⟩
    rw [e1]
    refine ⟨t1, rfl, ⟨_, SqT.of h1⟩, fun dl nD => lc_tup (K := K) (a := t1) (xs := (hol sz es b).map V.str) (fun i H' => Ext H1 H' ∧ H' dl = some (.lst ((((hol sz es b).take i).map fun y => decide (y ≠ z)).map V.bl))) ⟨Ext.upd nD, upd_same⟩ (fun i H' _ t => SqT.of (t.1 _ _ h1)) ?_ ?_⟩
    · rintro i y H2 hy ⟨x2, hD⟩
      obtain ⟨v, hv, rfl⟩ : ∃ v, (hol sz es b)[i]? = some v ∧ V.str v = y := by
        rw [List.getElem?_map] at hy
        exact Option.map_eq_some_iff.mp hy
      have hi2 : i < (hol sz es b).length := (List.getElem?_eq_some_iff.mp hv).1
      have hl2 : (hol sz es b).length ≤ 200 := by
        unfold hol
        rw [List.length_map]
        exact Nat.le_trans (List.length_filter_le _ _) he
      refine ⟨rfl, goY (ifT (by rfl) ?_)⟩
      refine ⟨_, hD, ?_, put_ext x2 nD, ?_⟩
      · rw [List.length_map, List.length_map]
        exact Nat.lt_of_le_of_lt (List.length_take_le _ _) (Nat.lt_of_le_of_lt (show i ≤ 200 by omega) (by decide))
      · rw [upd_same, List.take_succ, hv, List.map_append, List.map_append]
        simp
    rintro H2 ⟨x2, hD⟩
    rw [List.length_map, List.take_length] at hD
    refine ⟨dl, _, rfl, SqL.of hD, ?_⟩
    have x02 := x0.trans x2
    have ea : ((hol sz es b).map fun y => decide (y ≠ z)).any id = (hol sz es b).any (fun y => decide (y ≠ z)) := by rw [List.any_map]; rfl
    rw [ea]
    by_cases ec : (hol sz es b).any (fun y => decide (y ≠ z)) = true
    · refine ifT ec ?_
      refine k _ _ x02 ?_
      unfold win
      rw [if_pos ec]
      exact rfl
    · refine ifF (by simpa using ec) ?_
      obtain ⟨ts, hts, pts⟩ := hls z hz
      have dg : ∀ {G : Hp}, Ext H G → DGet G od (.str z) (some (.ref (q z))) := fun {G} x => by
        have := DGet.k (k := (Sum.inr z : Key)) (x _ _ ho)
        rw [valV_kvR, if_pos hz] at this
        exact this
      have psl : (ownL sz z 0 es).length ≤ 200 := Nat.le_trans (ownL_len sz z es 0) he
      refine ⟨fun σ H' => σ = [some (.ref d), some (.str z), some (.int b), none, some (.int (lowW sz z b 0 es 0)), none, none, none] ∧ Ext H H', ?_, ?_⟩
      · refine ⟨d, C, dx, _, _, rfl, x02 _ _ hi, L.cl, L.nO, fF_own _ _ _ _ _ _, od, _, rfl, dg x02, ?_⟩
        refine ⟨q z, rfl, ⟨_, SqL.of (x02 _ _ hts)⟩, fun d1 nd1 => lc_list (K := K) (a := q z) (xs := ts) (fun i H' => Ext H2 H' ∧ H' d1 = some (.lst ((pick (fun y => decide (y < b)) (fun y => (y : Int) + 1) ((ownL sz z 0 es).take i)).map V.int))) ⟨Ext.upd nd1, upd_same⟩ (fun i H' _ t => SqL.of (t.1 _ _ (x02 _ _ hts))) ?_ ?_⟩
        · rintro i y H3 hy ⟨x3, hd3⟩
          obtain ⟨p, hp, t, rfl, ht⟩ := pAt pts hy
          refine ⟨t, _, rfl, SqT.of ((x02.trans x3) _ _ ht), rfl, _, _, rfl, _, _, rfl, rfl, rfl, ?_⟩
          have e1 : (ownL sz z 0 es).take (i + 1) = (ownL sz z 0 es).take i ++ [p] := by rw [List.take_succ, hp]; rfl
          have lt : (pick (fun y => decide (y < b)) (fun y => (y : Int) + 1) ((ownL sz z 0 es).take i)).length < sizeLine := Nat.lt_of_le_of_lt (Nat.le_trans (pick_len _ _ _) (Nat.le_trans (List.length_take_le' _ _) psl)) (by decide)
          refine ifD (p := p.2 < b) (fun h => ?_) (fun h => ?_)
          · refine ⟨_, hd3, by rw [List.length_map]; exact lt, put_ext x3 nd1, ?_⟩
            rw [upd_same, e1, pick_snoc, if_pos (decide_eq_true h), List.map_append]; rfl
          · refine ⟨x3, ?_⟩
            rw [e1, pick_snoc, if_neg (by simpa using h)]; exact hd3
        rintro H3 ⟨x3, hd3⟩
        rw [← pLen pts, List.take_length] at hd3
        have x03 := x02.trans x3
        refine ⟨d1, lows sz z b es, _, rfl, rfl, SqL.of hd3, fun e => ?_, fun m h1 h2 => ?_⟩
        · exact ⟨by rw [low_nil e]; rfl, x03⟩
        · exact ⟨by rw [low_max h1 h2]; rfl, x03⟩
      clear x02 x2 hD x0 c0 e1 h1 nD n0
      rintro σ H4 ⟨rfl, x02⟩
      refine ⟨fun σ H' => σ = [some (.ref d), some (.str z), some (.int b), none, some (.int (lowW sz z b 0 es 0)), none, none, some (.int (highW sz z b es.length 0 es es.length))] ∧ Ext H H', ?_, ?_⟩
      · refine ⟨d, C, dx, _, _, rfl, x02 _ _ hi, L.cl, L.nO, fF_own _ _ _ _ _ _, od, _, rfl, dg x02, ?_⟩
        refine ⟨q z, rfl, ⟨_, SqL.of (x02 _ _ hts)⟩, fun d1 nd1 => lc_list (K := K) (a := q z) (xs := ts) (fun i H' => Ext H4 H' ∧ H' d1 = some (.lst ((pick (fun y => decide (b ≤ y)) (fun y => (y : Int)) ((ownL sz z 0 es).take i)).map V.int))) ⟨Ext.upd nd1, upd_same⟩ (fun i H' _ t => SqL.of (t.1 _ _ (x02 _ _ hts))) ?_ ?_⟩
        · rintro i y H5 hy ⟨x3, hd3⟩
          obtain ⟨p, hp, t, rfl, ht⟩ := pAt pts hy
          refine ⟨t, _, rfl, SqT.of ((x02.trans x3) _ _ ht), rfl, _, _, rfl, _, _, rfl, rfl, rfl, ?_⟩
          have e1 : (ownL sz z 0 es).take (i + 1) = (ownL sz z 0 es).take i ++ [p] := by rw [List.take_succ, hp]; rfl
          have lt : (pick (fun y => decide (b ≤ y)) (fun y => (y : Int)) ((ownL sz z 0 es).take i)).length < sizeLine := Nat.lt_of_le_of_lt (Nat.le_trans (pick_len _ _ _) (Nat.le_trans (List.length_take_le' _ _) psl)) (by decide)
          refine ifD (p := b ≤ p.2) (fun h => ?_) (fun h => ?_)
          · refine ⟨_, hd3, by rw [List.length_map]; exact lt, put_ext x3 nd1, ?_⟩
            rw [upd_same, e1, pick_snoc, if_pos (decide_eq_true h), List.map_append]; rfl
          · refine ⟨x3, ?_⟩
            rw [e1, pick_snoc, if_neg (by simpa using h)]; exact hd3
        rintro H5 ⟨x3, hd3⟩
        rw [← pLen pts, List.take_length] at hd3
        have x04 := x02.trans x3
        refine ⟨d, C, dx, _, _, rfl, x04 _ _ hi, L.cl, L.nE, fF_ent _ _ _ _ _ _, _, _, rfl, .inl ⟨_, SqL.of (x04 _ _ hl), rfl⟩, ?_⟩
        refine ⟨d1, highs sz z b es, _, rfl, rfl, SqL.of hd3, fun e => ?_, fun m h1 h2 => ?_⟩
        · refine ⟨?_, x04⟩
          rw [high_nil e, el.len]; rfl
        · exact ⟨by rw [high_min h1 h2]; rfl, x04⟩
      clear x02
      rintro σ H6 ⟨rfl, x6⟩
      refine ⟨(by show 2 ≤ sizeLine; decide), fun tp ntp => ?_⟩
      refine k _ _ (x6.trans (Ext.upd ntp)) ?_
      unfold win
      rw [if_neg ec]
      exact ⟨tp, rfl, upd_same⟩
end
end NB

set_option Elab.async false
set_option linter.all false
set_option maxRecDepth 100000
set_option maxHeartbeats 4000000
/-! K4f (k05): new facts -/
namespace NB
open PySem PySem.Spec L2
open PyProof.Rows (envOfC)
open C8 (pe_c pe_mk pe_mt pe_mt0 pe_gc fnScope fnBody fnArgs fnScope_by Cal Met Mak)
def spFactsI (C : Addr) : Sp := fun vs H Q _ => ∃ d dx sz a l ns es xs, vs = [.ref d, .int sz, .ref a, .ref l] ∧ H d = some (.ins C dx []) ∧ H a = some (.lst (ns.map V.str)) ∧ CrewOk ns ∧ H l = some (.lst xs) ∧ EntL H es xs ∧ EntsOk ns es ∧ SizeOk sz ∧
  ∀ H', FactsAt C H' d sz ns es → Frm [d] H H' → Q .non H'
/-- the fields before the last one -/
def fF5 (a l lb hd od : Addr) : List (Str × V) := putF "own" (.ref od) (putF "holders" (.ref hd) (putF "seen_blocks" (.ref lb) (putF "seen_entries" (.ref l) (putF "names" (.ref a) []))))
theorem fF5_hol (a l lb hd od : Addr) : (fF5 a l lb hd od).lookup ("holders" : Str) = some (.ref hd) := by
  unfold fF5
  rw [lookup_putF, if_neg (by decide +kernel), lookup_putF, if_pos rfl]
theorem fF5_own (a l lb hd od : Addr) : (fF5 a l lb hd od).lookup ("own" : Str) = some (.ref od) := by
  unfold fF5
  rw [lookup_putF, if_pos rfl]
theorem fF5_blk (a l lb hd od : Addr) : (fF5 a l lb hd od).lookup ("seen_blocks" : Str) = some (.ref lb) := by
  unfold fF5
  rw [lookup_putF, if_neg (by decide +kernel), lookup_putF, if_neg (by decide +kernel), lookup_putF, if_pos rfl]
/-- an empty list for each of the first names -/
def Empt (H1 : Hp) (D : Addr) (ns : List Str) (H : Hp) : Prop := ∃ q : Str → Addr, H D = some (.dK (kvR q ns)) ∧ (∀ z ∈ ns, H (q z) = some (.lst []) ∧ H1 (q z) = none) ∧ (∀ z ∈ ns, ∀ y ∈ ns, q z = q y → z = y) ∧ Ext H1 H
theorem Empt.snoc {H1 H : Hp} {D p : Addr} {ns : List Str} {z : Str} (h : Empt H1 D ns H) (nD : H1 D = none) (hz : z ∉ ns) (np : H p = none) : ∃ kvs, (upd H p (.lst [])) D = some (.dK kvs) ∧ kvs.length = ns.length ∧ Empt H1 D (ns ++ [z]) (upd (upd H p (.lst [])) D (.dK (putK kvs (Sum.inr z) (.ref p)))) := by
  obtain ⟨q, h1, h2, h3, h4⟩ := h
  have pD : D ≠ p := ne_of_none h1 np
  have qD : ∀ y ∈ ns, q y ≠ D := fun y hy => ne_of (h2 y hy).1 h1 (by intro e; cases e)
  have qp : ∀ y ∈ ns, q y ≠ p := fun y hy => ne_of_none (h2 y hy).1 np
  refine ⟨kvR q ns, by rw [upd_ne pD]; exact h1, List.length_map .., fun y => if y = z then p else q y, ?_, ?_, ?_, ?_⟩
  · rw [upd_same]
    have e1 : valV (kvR q ns) (Sum.inr z) = none := by rw [valV_kvR, if_neg hz]
    rw [putK_new _ e1]
    have e2 : kvR (fun y => if y = z then p else q y) ns = kvR q ns := kvR_congr fun y hy => if_neg (fun e : y = z => hz (by rw [← e]; exact hy))
    show _ = some (HO.dK ((ns ++ [z]).map _))
    rw [List.map_append]
    show _ = some (HO.dK (kvR (fun y => if y = z then p else q y) ns ++ [(Sum.inr z, V.ref (if z = z then p else q z))]))
    rw [e2, if_pos rfl]
  · intro y hy
    rcases List.mem_append.mp hy with hy | hy
    · have ne : ¬ y = z := fun e => hz (by rw [← e]; exact hy)
      show (upd (upd H p (.lst [])) D _) (if y = z then p else q y) = _ ∧ H1 (if y = z then p else q y) = none
      rw [if_neg ne, upd_ne (qD y hy), upd_ne (qp y hy)]
      exact h2 y hy
    · obtain rfl := List.mem_singleton.mp hy
      show (upd (upd H p (.lst [])) D _) (if y = y then p else q y) = _ ∧ H1 (if y = y then p else q y) = none
      rw [if_pos rfl, upd_ne pD.symm, upd_same]
      exact ⟨rfl, Ext.free h4 np⟩
  · intro y hy x hx e
    have e : (if y = z then p else q y) = (if x = z then p else q x) := e
    have inN : ∀ u ∈ ns ++ [z], ¬ u = z → u ∈ ns := fun u hu n => by
      rcases List.mem_append.mp hu with hu | hu
      · exact hu
      · exact absurd (List.mem_singleton.mp hu) n
    by_cases a : y = z <;> by_cases b : x = z
    · rw [a, b]
    · rw [if_pos a, if_neg b] at e; exact absurd e.symm (qp x (inN x hx b))
    · rw [if_neg a, if_pos b] at e; exact absurd e (qp y (inN y hy a))
    · rw [if_neg a, if_neg b] at e; exact h3 y (inN y hy a) x (inN x hx b) e
  · exact put_ext (put_ext h4 (Ext.free h4 np)) nD
theorem blk_take (sz : Int) {es : List (Str × Int)} {i : Nat} {e : Str × Int} (h : es[i]? = some e) : (es.take (i + 1)).map (fun e => e.2 / sz) = (es.take i).map (fun e => e.2 / sz) ++ [e.2 / sz] := by
  rw [List.take_succ, h, List.map_append]; rfl
theorem take_at {es : List (Str × Int)} {i : Nat} {e : Str × Int} (h : es[i]? = some e) : es.take (i + 1) = es.take i ++ [e] := by
  rw [List.take_succ, h]; rfl
section
variable {P : Program} {w : World} {K : PySem.W.Frag} {mg : Str → Option Value} {base : Heap} {C : Addr}
theorem ok_facts (T : Tb mg) (L : FactC K C) {f : Addr} {fd : FuncData} (D : Mx K "__init__" "Facts.__init__" s_Facts___init__ ["self", "size", "servers", "entries"] f fd) : FnOk P w K mg base C8.CX0 1 f fd ["self", "size", "servers", "entries"] (spFactsI C) := by
  refine fn_of' D sc_Facts___init__ (fun vs H Q E h => ?_) (fun cdv A o s H vs Q E hr h => ?_)
  · obtain ⟨d, dx, sz, a, l, ns, es, xs, rfl, _⟩ := h; rfl
  · obtain ⟨d, dx, sz, a, l, ns, es, xs, rfl, hd, ha, cr, hl, el, ok, so, k⟩ := h
    have hn12 := cr.few
    have he200 := ok.few
    have md : d ∈ [d] := List.mem_cons_self
    have lst_d : ∀ {c : Addr} {ys : List V} {fs : List (Str × V)}, H c = some (.lst ys) → c ≠ d := fun h => ne_of h hd (by intro e; cases e)
    refine ⟨_, (pss_cons (ps_fld (mv 0) (mv 2) rfl)
    (pss_cons (ps_fld (mv 0) (mv 3) rfl)
    (C8.pss_cut (ps_fld (mv 0) (pe_lc (own := [("server", 4), ("number", 5)]) (g := gTup K 2 (gCons (gName 4) (gCons (gName 5) gNil))) (tt := tYes) rfl sc_Facts___init__.nd (pi_list (mv 3)) (blkOk_by (own := [("server", 4), ("number", 5)]) (N := ["self", "size", "servers", "entries", "server", "number", "index", "block", "own"]) (sc := fnScope s_Facts___init__) (by decide +kernel)) (fun _ _ _ _ _ => (pg_tup rfl (pgs_cons (pg_name (i := 4) sc_Facts___init__.nd rfl (Or.inl rfl)) (pgs_cons (pg_name (i := 5) sc_Facts___init__.nd rfl (Or.inl rfl)) pgs_nil)))) (fun _ _ _ _ _ => pts_nil) (fun _ _ _ _ _ => (pe_op m_div (mv 5) (mv 1)))) rfl)
    (pss_cons (ps_fld (mv 0) pe_dnewK rfl)
    (C8.pss_cut (ps_fld (mv 0) (pe_dc (own := [("server", 4)]) (g := gName 4) (tt := tYes) rfl sc_Facts___init__.nd (pi_list (mv 2)) (blkOk_by (own := [("server", 4)]) (N := ["self", "size", "servers", "entries", "server", "number", "index", "block", "own"]) (sc := fnScope s_Facts___init__) (by decide +kernel)) (fun _ _ _ _ _ => (pg_name (i := 4) sc_Facts___init__.nd rfl (Or.inl rfl))) (fun _ _ _ _ _ => pts_nil) (fun _ _ _ _ _ => (mv 4)) (fun _ _ _ _ _ => (pe_lst pa_nil))) rfl)
    (C8.pss_cut (ps_for PassesOwn.never rfl (pi_enum (by rfl) T.n_enumerate (pa_cons (mv 3) pa_nil)) (pg_tup rfl (pgs_cons (pg_name (i := 6) sc_Facts___init__.nd rfl (Or.inl rfl)) (pgs_cons (pg_tup rfl (pgs_cons (pg_name (i := 4) sc_Facts___init__.nd rfl (Or.inl rfl)) (pgs_cons (pg_name (i := 5) sc_Facts___init__.nd rfl (Or.inl rfl)) pgs_nil))) pgs_nil)))
    (pss_cons (ps_set (i := 7) sc_Facts___init__.nd rfl (Or.inl rfl) (pe_op m_div (mv 5) (mv 1)))
    (C8.pss_cut (ps_asg (pe_op op_catA (pe_dget2 (u2 hr) (pe_fld (mv 0) rfl) (mv 7) (pe_tup pa_nil) ⟨rfl, rfl, rfl, rfl⟩) (pe_tup (pa_cons (mv 4) pa_nil))) (pg_sub (pe_fld (mv 0) rfl) (mv 7) (set_dict (u2 hr))))
    (pss_cons (ps_set (i := 8) sc_Facts___init__.nd rfl (Or.inl rfl) (pe_dget (u2 hr) (pe_fld (mv 0) rfl) (mv 4) (fun _ _ => rfl)))
    (pss_one (ps_expr (pe_bm PySem.F.plainAttrs_list PySem.F.slot_list_append PySem.F.type_list_append mt_append (mv 8) (pa_cons (pe_tup (pa_cons (mv 6) (pa_cons (mv 7) pa_nil))) pa_nil))))))))
    (pss_one (ps_fld (mv 0) (pe_callBK (cr_maxD rfl) (by rfl) T.n_max (by decide +kernel) (pa_cons (pe_fld (mv 0) rfl) pa_nil) (pk_cons (pe_un m_neg pe_int) pk_nil)) rfl)))))))), ?_⟩
    refine ⟨d, C, dx, _, rfl, hd, L.cl, L.nN, (by show 0 < 1000; decide), ?_⟩
    refine ⟨d, C, dx, _, rfl, upd_same, L.cl, L.nE, (by show 1 < 1000; decide), ?_⟩
    rw [upd_upd]
    have f1 : Frm [d] H (upd H d (.ins C dx (putF "seen_entries" (.ref l) (putF "names" (.ref a) [])))) := Frm.refl.upd md
    have i1 : (upd H d (.ins C dx (putF "seen_entries" (.ref l) (putF "names" (.ref a) [])))) d = some (.ins C dx (putF "seen_entries" (.ref l) (putF "names" (.ref a) []))) := upd_same
    have len200 : ∀ {G : List Int}, G.length ≤ 200 → G.length < sizeLine := fun h => Nat.lt_of_le_of_lt h (by decide)
    generalize upd H d (.ins C dx (putF "seen_entries" (.ref l) (putF "names" (.ref a) []))) = H1 at f1 i1 ⊢
    have ha1 := f1 _ _ ha (fun z => lst_d (fs := []) ha (List.mem_singleton.mp z))
    have hl1 := f1 _ _ hl (fun z => lst_d (fs := []) hl (List.mem_singleton.mp z))
    have st1 : TupSt H H1 := Frm.tups f1 hd (fun _ z => nomatch z)
    refine ⟨fun σ H' => ∃ lb, σ = [some (.ref d), some (.int sz), some (.ref a), some (.ref l), none, none, none, none, none] ∧ H' d = some (.ins C dx (putF "seen_blocks" (.ref lb) (putF "seen_entries" (.ref l) (putF "names" (.ref a) [])))) ∧ H' lb = some (.lst ((es.map fun e => e.2 / sz).map V.int)) ∧ H lb = none ∧ Frm [d] H H', ?_, ?_⟩
    · refine ⟨l, rfl, ⟨_, SqL.of hl1⟩, fun lb nlb => lc_list (K := K) (a := l) (xs := xs) (fun i H' => Ext H1 H' ∧ H' lb = some (.lst (((es.take i).map fun e => e.2 / sz).map V.int))) ⟨Ext.upd nlb, upd_same⟩ (fun i H' _ t => SqL.of (t.1 _ _ hl1)) ?_ ?_⟩
      · rintro i y H2 hy ⟨x2, hD⟩
        obtain ⟨e, hv, t, rfl, ht⟩ := EntL.at el hy
        have hi2 : i < es.length := (List.getElem?_eq_some_iff.mp hv).1
        refine ⟨t, _, rfl, SqT.of (x2 _ _ (st1 _ _ ht)), rfl, _, _, rfl, _, _, rfl, rfl, rfl, goY (ifT (by rfl) ?_)⟩
        refine ⟨cdv_size _ so, _, hD, ?_, put_ext x2 nlb, ?_⟩
        · rw [List.length_map]
          refine len200 ?_
          rw [List.length_map]
          exact Nat.le_trans (List.length_take_le' _ _) he200
        · rw [upd_same, blk_take sz hv, List.map_append]; rfl
      · rintro H2 ⟨x2, hD⟩
        rw [← el.len, List.take_length] at hD
        have fn := f1.trans (Frm.ext x2)
        refine ⟨d, C, dx, _, rfl, x2 _ _ i1, L.cl, L.nB, (by show 2 < 1000; decide), ?_⟩
        have dlb : lb ≠ d := fun z => by rw [z] at nlb; rw [nlb] at i1; cases i1
        refine ⟨lb, rfl, upd_same, by rw [upd_ne dlb]; exact hD, ?_, fn.upd md⟩
        cases e0 : H lb with
        | none => rfl
        | some u => rw [f1 _ _ e0 (fun z => dlb (List.mem_singleton.mp z))] at nlb; cases nlb
    clear st1 ha1 hl1 i1 f1
    rintro σ H2 ⟨lb, rfl, i2, hlb, nlb, f2⟩
    refine fun h0 nh0 => ?_
    refine ⟨d, C, dx, _, rfl, Ext.upd nh0 _ _ i2, L.cl, L.nH, (by show 3 < 1000; decide), ?_⟩
    have dh : h0 ≠ d := fun z => by rw [z] at nh0; rw [nh0] at i2; cases i2
    have Hh0 : H h0 = none := by
      cases e0 : H h0 with
      | none => rfl
      | some u => rw [f2 _ _ e0 (fun z => dh (List.mem_singleton.mp z))] at nh0; cases nh0
    have lbd : lb ≠ d := fun z => by rw [z] at nlb; rw [nlb] at hd; cases hd
    have lbh : lb ≠ h0 := ne_of_none hlb nh0
    have f3 := ((f2.new nh0 (o := .dK [])).upd (o := .ins C dx (putF "holders" (.ref h0) (putF "seen_blocks" (.ref lb) (putF "seen_entries" (.ref l) (putF "names" (.ref a) []))))) md)
    have i3 : (upd (upd H2 h0 (.dK [])) d (.ins C dx (putF "holders" (.ref h0) (putF "seen_blocks" (.ref lb) (putF "seen_entries" (.ref l) (putF "names" (.ref a) [])))))) d = some (.ins C dx (putF "holders" (.ref h0) (putF "seen_blocks" (.ref lb) (putF "seen_entries" (.ref l) (putF "names" (.ref a) []))))) := upd_same
    have hh3 : (upd (upd H2 h0 (.dK [])) d (.ins C dx (putF "holders" (.ref h0) (putF "seen_blocks" (.ref lb) (putF "seen_entries" (.ref l) (putF "names" (.ref a) [])))))) h0 = some (.dK []) := by rw [upd_ne dh]; exact upd_same
    have hb3 : (upd (upd H2 h0 (.dK [])) d (.ins C dx (putF "holders" (.ref h0) (putF "seen_blocks" (.ref lb) (putF "seen_entries" (.ref l) (putF "names" (.ref a) [])))))) lb = some (.lst ((es.map fun e => e.2 / sz).map V.int)) := by rw [upd_ne lbd, upd_ne lbh]; exact hlb
    generalize upd (upd H2 h0 (.dK [])) d (.ins C dx (putF "holders" (.ref h0) (putF "seen_blocks" (.ref lb) (putF "seen_entries" (.ref l) (putF "names" (.ref a) []))))) = H3 at f3 i3 hh3 hb3 ⊢
    have ha3 := f3 _ _ ha (fun z => lst_d (fs := []) ha (List.mem_singleton.mp z))
    refine ⟨fun σ H' => ∃ od q, σ = [some (.ref d), some (.int sz), some (.ref a), some (.ref l), none, none, none, none, none] ∧ H' d = some (.ins C dx (fF5 a l lb h0 od)) ∧ H' lb = some (.lst ((es.map fun e => e.2 / sz).map V.int)) ∧ (∀ z ∈ ns, H (q z) = none ∧ q z ≠ lb) ∧ od ≠ h0 ∧ FactsD H' h0 od q sz ns [] ∧ Frm [d] H H', ?_, ?_⟩
    · refine ⟨a, rfl, ⟨_, SqL.of ha3⟩, fun od nod => dc_list (K := K) (xs := ns.map V.str) (fun i H' => Empt H3 od (ns.take i) H') ⟨fun _ => 0, upd_same, (fun _ h => nomatch h), (fun _ h => nomatch h), Ext.upd nod⟩ (fun i H' _ t => by obtain ⟨_, _, _, _, x⟩ := t; exact SqL.of (x _ _ ha3)) ?_ ?_⟩
      · rintro i y G hy em
        obtain ⟨z, hz, rfl⟩ : ∃ v, ns[i]? = some v ∧ V.str v = y := by
          rw [List.getElem?_map] at hy
          exact Option.map_eq_some_iff.mp hy
        have hi2 : i < ns.length := (List.getElem?_eq_some_iff.mp hz).1
        obtain ⟨hi', ez⟩ := List.getElem?_eq_some_iff.mp hz
        have nm : z ∉ ns.take i := fun m => by
          have q : (ns.take i ++ ns.drop i).Nodup := by rw [List.take_append_drop]; exact cr.nd
          refine (List.nodup_append.mp q).2.2 z m z ?_ rfl
          rw [List.drop_eq_getElem_cons hi', ez]
          exact List.mem_cons_self
        refine ⟨rfl, goY (ifT (by rfl) ⟨Nat.zero_le _, fun p np => ?_⟩)⟩
        obtain ⟨kvs, g1, g2, g3⟩ := em.snoc nod nm np
        refine ⟨kvs, Sum.inr z, rfl, g1, ?_, ?_⟩
        · rw [g2]
          exact Nat.lt_of_le_of_lt (Nat.le_trans (List.length_take_le' _ _) hn12) (by decide)
        · have t : ns.take (i + 1) = ns.take i ++ [z] := by rw [List.take_succ, hz]; rfl
          rw [t]; exact g3
      · intro G em
        rw [List.length_map, List.take_length] at em
        obtain ⟨q, e1, e2, e3, e4⟩ := em
        refine ⟨d, C, dx, _, rfl, e4 _ _ i3, L.cl, L.nO, (by show 4 < 1000; decide), ?_⟩
        have frN : ∀ {c : Addr}, H3 c = none → c ≠ d ∧ H c = none := fun {c} n => by
          have cd : c ≠ d := fun z => by rw [z] at n; rw [n] at i3; cases i3
          refine ⟨cd, ?_⟩
          cases e0 : H c with
          | none => rfl
          | some u => rw [f3 _ _ e0 (fun z => cd (List.mem_singleton.mp z))] at n; cases n
        have odd := (frN nod).1
        refine ⟨od, q, rfl, upd_same, ?_, fun z hz => ⟨(frN (e2 z hz).2).2, fun z0 => ?_⟩, (ne_of_none hh3 nod).symm, ⟨?_, fun z hz => ⟨[], ?_, .nil⟩, e3, [], ?_, Nat.le_refl _, fun b => .inl ⟨rfl, rfl⟩⟩, (f3.trans (Frm.ext e4)).upd md⟩
        · rw [upd_ne lbd]; exact e4 _ _ hb3
        · have := (e2 z hz).2; rw [z0, hb3] at this; cases this
        · rw [upd_ne odd]; exact e1
        · rw [upd_ne (frN (e2 z hz).2).1]; exact (e2 z hz).1
        · rw [upd_ne dh]; exact e4 _ _ hh3
    clear f3 i3 hh3 hb3 ha3 f2 i2 hlb nh0
    rintro σ H4 ⟨od, q, rfl, i4, hb4, nq, oh, fd4, f4⟩
    have hl4 := f4 _ _ hl (fun z => lst_d (fs := []) hl (List.mem_singleton.mp z))
    refine ⟨fun σ H' => ∃ v4 v5 v6 v7 v8, σ = [some (.ref d), some (.int sz), some (.ref a), some (.ref l), v4, v5, v6, v7, v8] ∧ H' d = some (.ins C dx (fF5 a l lb h0 od)) ∧ H' lb = some (.lst ((es.map fun e => e.2 / sz).map V.int)) ∧ FactsD H' h0 od q sz ns es ∧ Frm [d] H H', ?_, ?_⟩
    · refine ⟨l, xs, rfl, SqL.of hl4, for_enum (xs := xs) (fun i σ H' => ∃ v4 v5 v6 v7 v8, σ = [some (.ref d), some (.int sz), some (.ref a), some (.ref l), v4, v5, v6, v7, v8] ∧ H' d = some (.ins C dx (fF5 a l lb h0 od)) ∧ H' lb = some (.lst ((es.map fun e => e.2 / sz).map V.int)) ∧ FactsD H' h0 od q sz ns (es.take i) ∧ Frm [d] H H') ⟨_, _, _, _, _, rfl, i4, hb4, fd4, f4⟩ ?_ ?_ ?_⟩
      · rintro i σ H' _ ⟨_, _, _, _, _, rfl, _, _, _, fG⟩
        exact SqL.of (fG _ _ hl (fun z => lst_d (fs := []) hl (List.mem_singleton.mp z)))
      · clear i4 hb4 fd4 f4 hl4
        rintro i x tT σ G hx nT ⟨_, _, _, _, _, rfl, iG, hbG, fdG, fG⟩
        obtain ⟨⟨z, fig⟩, hv, t, rfl, ht⟩ := EntL.at el hx
        have hi2 : i < es.length := (List.getElem?_eq_some_iff.mp hv).1
        have et := take_at hv
        have zn : z ∈ ns := (ok.ok _ (List.mem_of_getElem? hv)).1
        have tl : (es.take i).length = i := by rw [List.length_take]; omega
        have xT := Ext.upd (o := .tup [.int (i : Nat), .ref t]) nT
        have ct : (upd G tT (.tup [.int (i : Nat), .ref t])) tT = some (.tup [.int (i : Nat), .ref t]) := upd_same
        have ht' := xT _ _ (Frm.tups fG hd (fun _ z => nomatch z) _ _ ht)
        have iG := xT _ _ iG
        have hbG := xT _ _ hbG
        have fdG := fdG.mono xT
        have fG := fG.trans (Frm.ext xT)
        generalize upd G tT (.tup [.int (i : Nat), .ref t]) = G at ct ht' iG hbG fdG fG ⊢
        clear xT nT
        refine ⟨tT, _, rfl, SqT.of ct, rfl, _, _, rfl, _, _, rfl, t, _, rfl, SqT.of ht', rfl, _, _, rfl, _, _, rfl, rfl, rfl, ?_⟩
        refine ⟨cdv_size _ so, ?_⟩
        obtain ⟨hown, hls, inj, kvs, hk, hkl, hh⟩ := fdG
        rw [tl] at hkl
        refine ⟨fun σ H' => ∃ v8, σ = [some (.ref d), some (.int sz), some (.ref a), some (.ref l), some (.str z), some (.int fig), some (.int (i : Nat)), some (.int (fig / sz)), v8] ∧ H' d = some (.ins C dx (fF5 a l lb h0 od)) ∧ H' lb = some (.lst ((es.map fun e => e.2 / sz).map V.int)) ∧ H' od = some (.dK (kvR q ns)) ∧
          (∀ z ∈ ns, ∃ ts, H' (q z) = some (.lst ts) ∧ Paired (PairAt H') (ownL sz z 0 (es.take i)) ts) ∧ (∃ kvs, H' h0 = some (.dK kvs) ∧ kvs.length ≤ i + 1 ∧ ∀ b : Int, HolAt H' (valV kvs (Sum.inl b)) (hol sz (es.take (i + 1)) b)) ∧ Frm [d] H H', ?_, ?_⟩
        · refine ⟨d, C, dx, _, _, rfl, iG, L.cl, L.nH, fF5_hol _ _ _ _ _, h0, rfl, .inl ⟨kvs, .inl hk⟩, (Nat.zero_le _), fun t0 n0 => ?_⟩
          have x0 := Ext.upd (o := .tup []) n0
          have c0 : (upd G t0 (.tup [])) t0 = some (.tup []) := upd_same
          generalize upd G t0 (.tup []) = G1 at x0 c0 ⊢
          refine ⟨valV kvs (Sum.inl (fig / sz)), DGet.k (k := Sum.inl (fig / sz)) (x0 _ _ hk), ?_⟩
          obtain ⟨t1, e1, h1⟩ : ∃ t1, (valV kvs (Sum.inl (fig / sz))).getD (.ref t0) = .ref t1 ∧ G1 t1 = some (.tup ((hol sz (es.take i) (fig / sz)).map V.str)) := by
            rcases hh (fig / sz) with ⟨e, e2⟩ | ⟨_, t, e2, e3⟩
            · exact ⟨t0, by rw [e2]; rfl, by rw [e]; exact c0⟩
            · exact ⟨t, by rw [e2]; rfl, x0 _ _ e3⟩
          rw [e1]
          refine ⟨(by show 1 ≤ sizeLine; decide), fun t2 n2 => ?_⟩
          have x2 := Ext.upd (o := .tup [.str z]) n2
          have c2 : (upd G1 t2 (.tup [.str z])) t2 = some (.tup [.str z]) := upd_same
          have h1 := x2 _ _ h1
          have x2 := x0.trans x2
          generalize upd G1 t2 (.tup [.str z]) = G2 at x2 c2 h1 ⊢
          have lh : (hol sz (es.take i) (fig / sz)).length ≤ 200 := by
            unfold hol
            rw [List.length_map]
            exact Nat.le_trans (List.length_filter_le _ _) (by rw [tl]; omega)
          have fin : ∀ (t3 : Addr) (G3 : Hp), G3 t3 = some (.tup ((hol sz (es.take i) (fig / sz) ++ [z]).map V.str)) → Ext G G3 → ∃ a' H', V.ref h0 = .ref a' ∧ DPut G3 a' (.int (fig / sz)) (.ref t3) H' ∧ H' d = some (.ins C dx (fF5 a l lb h0 od)) ∧ H' lb = some (.lst ((es.map fun e => e.2 / sz).map V.int)) ∧ H' od = some (.dK (kvR q ns)) ∧
              (∀ z ∈ ns, ∃ ts, H' (q z) = some (.lst ts) ∧ Paired (PairAt H') (ownL sz z 0 (es.take i)) ts) ∧ (∃ kvs, H' h0 = some (.dK kvs) ∧ kvs.length ≤ i + 1 ∧ ∀ b : Int, HolAt H' (valV kvs (Sum.inl b)) (hol sz (es.take (i + 1)) b)) ∧ Frm [d] H H' := by
            intro t3 G3 h3 x3
            have k3 := x3 _ _ hk
            have st : TupSt G (upd G3 h0 (.dK (putK kvs (Sum.inl (fig / sz)) (.ref t3)))) := (TupSt.ext x3).trans (TupSt.upd k3 (fun _ z => nomatch z))
            have oth : ∀ {c : Addr} {u : HO}, G c = some u → (∀ ks, u ≠ .dK ks) → (upd G3 h0 (.dK (putK kvs (Sum.inl (fig / sz)) (.ref t3)))) c = some u := fun {c u} hc nu => by
              rw [upd_ne (ne_of hc hk (nu _))]; exact x3 _ _ hc
            have odh : od ≠ h0 := oh
            refine ⟨h0, _, rfl, .inl ⟨kvs, Sum.inl (fig / sz), k3, rfl, Nat.lt_of_le_of_lt (show kvs.length ≤ 200 by omega) (by decide), rfl⟩, oth iG (fun _ z => nomatch z), oth hbG (fun _ z => nomatch z), by rw [upd_ne odh]; exact x3 _ _ hown, fun y hy => ?_, ⟨_, upd_same, ?_, fun b => ?_⟩, ?_⟩
            · obtain ⟨ts, g1, g2⟩ := hls y hy
              exact ⟨ts, oth g1 (fun _ z => nomatch z), pairs_st g2 st⟩
            · exact Nat.le_trans (length_putK _ _ _) (by omega)
            · rw [valV_put, et, hol_snoc]
              by_cases e : b = fig / sz
              · rw [if_pos (by rw [e]), if_pos e]
                refine .inr ⟨by simp, t3, rfl, ?_⟩
                rw [upd_ne (ne_of h3 k3 (fun z => nomatch z)), e]; exact h3
              · rw [if_neg (fun z => e (Sum.inl.inj z)), if_neg e]
                exact (hh b).st st
            · exact (fG.trans (Frm.ext x3)).new' Hh0
          refine ⟨t1, t2, (hol sz (es.take i) (fig / sz)).map V.str, [.str z], rfl, rfl, SqT.of h1, SqT.of c2, by rw [List.length_map]; exact Nat.le_trans (show (hol sz (es.take i) (fig / sz)).length + 1 ≤ 201 by omega) (by decide), fun hn => ?_, (fun _ z => nomatch z), fun _ _ p np => ?_⟩
          · have hn' : hol sz (es.take i) (fig / sz) = [] := List.map_eq_nil_iff.mp hn
            obtain ⟨a', H', g1, g2, g3, g4, g5, g6, g7, g8⟩ := fin t2 _ (by rw [hn']; exact c2) x2
            exact ⟨d, C, dx, _, _, rfl, x2 _ _ iG, L.cl, L.nH, fF5_hol _ _ _ _ _, a', H', g1, g2, _, rfl, g3, g4, g5, g6, g7, g8⟩
          · have xp := Ext.upd (o := .tup ((hol sz (es.take i) (fig / sz)).map V.str ++ [.str z])) np
            obtain ⟨a', H', g1, g2, g3, g4, g5, g6, g7, g8⟩ := fin p _ (by rw [List.map_append]; exact upd_same) (x2.trans xp)
            exact ⟨d, C, dx, _, _, rfl, (x2.trans xp) _ _ iG, L.cl, L.nH, fF5_hol _ _ _ _ _, a', H', g1, g2, _, rfl, g3, g4, g5, g6, g7, g8⟩
        clear hown hls hk hkl hh ct ht' iG hbG fG kvs
        rintro σ G ⟨v8, rfl, iG, hbG, hown, hls, hhol, fG⟩
        have dg : DGet G od (.str z) (some (.ref (q z))) := by
          have := DGet.k (k := (Sum.inr z : Key)) hown
          rw [valV_kvR, if_pos zn] at this
          exact this
        refine ⟨d, C, dx, _, _, rfl, iG, L.cl, L.nO, fF5_own _ _ _ _ _, od, _, rfl, dg, ?_⟩
        obtain ⟨ts, hts, pts⟩ := hls z zn
        refine ⟨.inl ⟨rfl, _, SqL.of hts⟩, (by show 2 ≤ sizeLine; decide), fun tp ntp => ?_⟩
        have xp := Ext.upd (o := .tup [.int (i : Nat), .int (fig / sz)]) ntp
        have cp : (upd G tp (.tup [.int (i : Nat), .int (fig / sz)])) tp = some (.tup [.int (i : Nat), .int (fig / sz)]) := upd_same
        generalize upd G tp (.tup [.int (i : Nat), .int (fig / sz)]) = G2 at xp cp ⊢
        have h2 := xp _ _ hts
        have tsl : ts.length ≤ 200 := by
          rw [← pLen pts]
          exact Nat.le_trans (ownL_len _ _ _ _) (by omega)
        refine ⟨q z, ts, _, rfl, rfl, h2, Nat.lt_of_le_of_lt tsl (by decide), ?_⟩
        have st2 : TupSt G (upd G2 (q z) (.lst (ts ++ [.ref tp]))) := (TupSt.ext xp).trans (TupSt.upd h2 (fun _ z => nomatch z))
        have oth : ∀ {c : Addr} {u : HO}, G c = some u → (∀ ks, u ≠ .lst ks) → (upd G2 (q z) (.lst (ts ++ [.ref tp]))) c = some u := fun {c u} hc nu => by
          rw [upd_ne (ne_of hc hts (nu _))]; exact xp _ _ hc
        refine ⟨_, _, _, _, _, rfl, oth iG (fun _ z => nomatch z), by rw [upd_ne (nq z zn).2.symm]; exact xp _ _ hbG, ⟨oth hown (fun _ z => nomatch z), fun y hy => ?_, inj, ?_⟩, (fG.trans (Frm.ext xp)).new' (nq z zn).1⟩
        · rw [et, ownL_snoc, tl]
          by_cases e : z = y
          · subst e
            rw [if_pos rfl]
            refine ⟨_, upd_same, pApp (pairs_st pts st2) (.cons ⟨tp, ?_, ?_⟩ .nil)⟩
            · rfl
            · rw [upd_ne (ne_of cp h2 (fun z => nomatch z)), cp]
              simp
          · rw [if_neg e]
            obtain ⟨us, g1, g2⟩ := hls y hy
            refine ⟨us, ?_, pairs_st g2 st2⟩
            rw [upd_ne (fun z0 => e (inj y hy z zn z0).symm)]
            exact xp _ _ g1
        · obtain ⟨kvs, g1, g2, g3⟩ := hhol
          refine ⟨kvs, oth g1 (fun _ z => nomatch z), ?_, fun b => (g3 b).st st2⟩
          rw [List.length_take]
          omega
      · rintro σ G ⟨v4, v5, v6, v7, v8, rfl, iG, hbG, fdG, fG⟩
        rw [← el.len, List.take_length] at fdG
        exact ⟨_, _, _, _, _, rfl, iG, hbG, fdG, fG⟩
    clear i4 hb4 fd4 f4 hl4
    rintro σ G ⟨v4, v5, v6, v7, v8, rfl, iG, hbG, fdG, fG⟩
    have done_ : ∀ m : Int, ∃ (d' : Addr) (C' : Addr) (dx' : Addr) (fs : List (Str × V)), V.ref d = .ref d' ∧ G d' = some (.ins C' dx' fs) ∧ Cls K C' ∧ NoAttr K C' "greatest" ∧ fs.length < 1000 ∧ Q .non (upd G d' (.ins C' dx' (putF "greatest" (.int m) fs))) := by
      intro m
      refine ⟨d, C, dx, _, rfl, iG, L.cl, L.nG, (by show 5 < 1000; decide), ?_⟩
      have hl' := fG _ _ hl (fun z => lst_d (fs := []) hl (List.mem_singleton.mp z))
      have oth : ∀ {c : Addr} {u : HO}, G c = some u → (∀ C dx ks, u ≠ .ins C dx ks) → (upd G d (.ins C dx (putF "greatest" (.int m) (fF5 a l lb h0 od)))) c = some u := fun {c u} hc nu => by
        rw [upd_ne (ne_of hc iG (nu _ _ _))]; exact hc
      have st : TupSt G (upd G d (.ins C dx (putF "greatest" (.int m) (fF5 a l lb h0 od)))) := TupSt.upd iG (fun _ z => nomatch z)
      refine k _ ⟨dx, a, l, lb, h0, od, m, q, xs, upd_same, oth hl' (fun _ _ _ z => nomatch z), (el.st (Frm.tups fG hd (fun _ z => nomatch z))).st st, ?_⟩ (fG.upd md)
      obtain ⟨h1, h2, h3, kvs, h4, h5, h6⟩ := fdG
      refine ⟨oth h1 (fun _ _ _ z => nomatch z), fun y hy => ?_, h3, kvs, oth h4 (fun _ _ _ z => nomatch z), h5, fun b => (h6 b).st st⟩
      obtain ⟨ts, g1, g2⟩ := h2 y hy
      exact ⟨ts, oth g1 (fun _ _ _ z => nomatch z), pairs_st g2 st⟩
    refine ⟨d, C, dx, _, _, rfl, iG, L.cl, L.nB, fF5_blk _ _ _ _ _, lb, es.map (fun e => e.2 / sz), _, rfl, rfl, SqL.of hbG, fun _ => done_ _, fun m _ _ => done_ _⟩
end
end NB

set_option Elab.async false
set_option linter.all false
set_option maxRecDepth 100000
set_option maxHeartbeats 4000000
/-! K4g (k05): window -/
namespace NB
open PySem PySem.Spec L2
open PyProof.Rows (envOfC)
open C8 (pe_c pe_mk pe_mt pe_mt0 pe_gc fnScope fnBody fnArgs fnScope_by Cal Met Mak)
def spNeed : Sp := fun vs H Q _ => ∃ (a : Addr) (ns : List Str) (z : Str), vs = [.ref a, .str z] ∧ H a = some (.lst (ns.map V.str)) ∧ z ∈ ns ∧ Q .non H
def spFactsOf (K : PySem.W.Frag) (A0 : Ads) (cF : Addr) : Sp := fun vs H Q _ => ∃ p C kd sz ns es, vs = [.ref p] ∧ LogAt C H p sz ns es ∧ LogM K C kd A0 ∧ SizeOk sz ∧ CrewOk ns ∧ EntsOk ns es ∧ ∀ H' d, H d = none → FactsAt cF H' d sz ns es → Ext H H' → Q (.ref d) H'
def spWin (K : PySem.W.Frag) (A0 : Ads) : Sp := fun vs H Q _ => ∃ p C kd sz ns es z b, vs = [.ref p, .str z, .int b] ∧ LogAt C H p sz ns es ∧ LogM K C kd A0 ∧ SizeOk sz ∧ CrewOk ns ∧ EntsOk ns es ∧ z ∈ ns ∧ 0 ≤ b ∧ ∀ H' v, Ext H H' → WinV H' (win sz es z b) v → Q v H'
structure FactM (K : PySem.W.Frag) (C fW : Addr) : Prop extends FactC K C where
  mW : Meth K C "window_of" fW
def gWin {α : Type} (us ws : List α) : List α := match us, ws with
  | [], [b, s, l] => [l, s, b]
  | _, _ => []
theorem kb_window {K : PySem.W.Frag} {f : Addr} {fd : FuncData} (D : C8.Fun K "window" "window" s_window f fd) (df : fd.defaults = .none) : KBn K fd ["log", "server", "block"] 0 ["block", "server", "log"] gWin gWin := by
  obtain ⟨oc, od, dV, kV, doc, pm, an, cdv, ct, osl, rfl, lk, hcd⟩ := D.ex
  have e : dV = .none := df
  subst e
  refine ⟨fun s us ws X l1 l2 => ?_, fun r1 r2 => ?_⟩
  · match us, ws, l1, l2 with
    | [], [b, s, l], _, _ => exact .of_eq rfl
  · cases r1 with
    | cons _ _ => exact .nil
    | nil =>
      cases r2 with
      | nil => exact .nil
      | cons b1 r2 =>
        cases r2 with
        | nil => exact .nil
        | cons b2 r2 =>
          cases r2 with
          | nil => exact .nil
          | cons b3 r2 =>
            cases r2 with
            | cons _ _ => exact .nil
            | nil => exact .cons b3 (.cons b2 (.cons b1 .nil))
section
variable {P : Program} {w : World} {K : PySem.W.Frag} {mg : Str → Option Value} {base : Heap} {cL cX cF : Addr} {A0 : Ads}
theorem ok_need (D : Dx K mg "need_server" s_need_server ["servers", "thing"]) (c_is_server : Cal P w K mg base 1 "is_server" (spServer K) []) : Cal P w K mg base 2 "need_server" spNeed [] := by
  refine cal_of D sc_need_server (fun vs H Q E h => ?_) (fun f cdv A o s H vs Q E hr h => ?_)
  · obtain ⟨a, ns, z, rfl, _⟩ := h; rfl
  · obtain ⟨a, ns, z, rfl, ha, hz, k⟩ := h
    refine ⟨_, (pss_one (ps_if (pt_not (qv (pe_c c_is_server hr (by decide) rfl (pa_cons (mv 0) (pa_cons (mv 1) pa_nil))))) (pss_one ps_never) pss_nil)), ?_⟩
    have js : SrvJ K H ns (.str z) true := by have := SrvJ.str (K := K) (H := H) (ns := ns) z; rw [decide_eq_true hz] at this; exact this
    exact ⟨a, ns, _, _, rfl, ha, js, ifF (by rfl) k⟩
theorem ok_factsOf (T : Tx K mg cL cX) (Ms : Ms K A0) (D : Dx K mg "facts_of" s_facts_of ["log"]) (c_Facts : Mak P w K mg base 1 "Facts" cF (spFactsI cF) []) : Cal P w K mg base 3 "facts_of" (spFactsOf K A0 cF) [] := by
  refine cal_of D sc_facts_of (fun vs H Q E h => ?_) (fun f cdv A o s H vs Q E hr h => ?_)
  · obtain ⟨p, C, kd, sz, ns, es, rfl, _⟩ := h; rfl
  · obtain ⟨p, C, kd, sz, ns, es, rfl, lg, M, so, cr, ok, k⟩ := h
    have F_size := ok_size (P := P) (w := w) (mg := mg) (base := base) M.toLogC Ms.mZ
    have F_servers := ok_servers (P := P) (w := w) (base := base) T M.toLogC Ms.mV
    have F_entries := ok_entries (P := P) (w := w) (base := base) T M.toLogC Ms.mE
    obtain ⟨_, pZ⟩ := M.pZ
    obtain ⟨_, pV⟩ := M.pV
    obtain ⟨_, pE⟩ := M.pE
    refine ⟨_, (pss_one (ps_ret (pe_mk c_Facts hr (by decide) rfl (pa_cons (pe_prop (mv 0) M.cl pZ F_size (hr.mono (by decide)) Ms.mZ.b .nil ps0 rfl) (pa_cons (pe_prop (mv 0) M.cl pV F_servers (hr.mono (by decide)) Ms.mV.b .nil ps0 rfl) (pa_cons (pe_prop (mv 0) M.cl pE F_entries (hr.mono (by decide)) Ms.mE.b .nil ps0 rfl) pa_nil)))))), ?_⟩
    obtain ⟨dx, ls, le, xs0, hp, g1, g2, el0⟩ := id lg
    refine ⟨p, dx, _, rfl, hp, p, sz, ns, es, rfl, lg, p, dx, _, rfl, hp, p, sz, ns, es, rfl, lg, fun la na => ?_⟩
    have x1 := Ext.upd (o := .lst (ns.map V.str)) na
    have ha : (upd H la (.lst (ns.map V.str))) la = some (.lst (ns.map V.str)) := upd_same
    have lg1 := lg.mono x1
    have hp1 := x1 _ _ hp
    generalize upd H la (.lst (ns.map V.str)) = H1 at x1 ha lg1 hp1 ⊢
    refine ⟨p, dx, _, rfl, hp1, p, sz, ns, es, rfl, lg1, fun lb xs nb el => ?_⟩
    have x2 := Ext.upd (o := .lst xs) nb
    have hb : (upd H1 lb (.lst xs)) lb = some (.lst xs) := upd_same
    have el2 := el.mono x2
    have ha2 := x2 _ _ ha
    have x2 := x1.trans x2
    generalize upd H1 lb (.lst xs) = H2 at x2 hb el2 ha2 ⊢
    intro q dq nq nd ne
    have x0 : Ext H2 (upd (upd H2 dq (.own q)) q (.ins cF dq [])) := fun b o e => by
      rw [upd_ne (ne_of_none e nq), upd_ne (ne_of_none e nd)]; exact e
    refine ⟨q, dq, sz, la, lb, ns, es, xs, rfl, upd_same, x0 _ _ ha2, cr, x0 _ _ hb, el2.mono x0, ok, so, fun H' fa fr => ⟨rfl, ?_⟩⟩
    exact k H' q (Ext.free x2 nq) fa (x2.trans fun b o e => fr _ _ (x0 _ _ e) fun z => ne_of_none e nq (List.mem_singleton.mp z))
theorem ok_window (T : Tx K mg cL cX) (Ms : Ms K A0) {fW : Addr} {dW : FuncData} (LF : FactM K cF fW) (F_win : FnOk P w K mg base C8.CX0 1 fW dW ["self", "server", "block"] (spWinOf cF)) (bW : Binds K dW ["self", "server", "block"] [])
    (c_need_server : Cal P w K mg base 2 "need_server" spNeed []) (c_facts_of : Cal P w K mg base 3 "facts_of" (spFactsOf K A0 cF) []) {f : Addr} {fd : FuncData} (D : C8.Fun K "window" "window" s_window f fd) :
    FnOk P w K mg base C8.CX0 4 f fd ["log", "server", "block"] (spWin K A0) := by
  refine C8.fn0 D sc_window (fun vs H Q E h => ?_) (fun cdv A o s H vs Q E hr h => ?_)
  · obtain ⟨p, C, kd, sz, ns, es, z, b, rfl, _⟩ := h; rfl
  · obtain ⟨p, C, kd, sz, ns, es, z, b, rfl, lg, M, so, cr, ok, hz, hb, k⟩ := h
    have F_servers := ok_servers (P := P) (w := w) (base := base) T M.toLogC Ms.mV
    obtain ⟨_, pV⟩ := M.pV
    refine ⟨_, (pss_cons (ps_expr (pe_c c_need_server hr (by decide) rfl (pa_cons (pe_prop (mv 0) M.cl pV F_servers (hr.mono (by decide)) Ms.mV.b .nil ps0 rfl) (pa_cons (mv 1) pa_nil))))
    (pss_cons (ps_if (qt m_lt (mv 2) pe_int (nomark _)) (pss_one ps_never) pss_nil)
    (pss_one (ps_ret (pe_meth (pe_c c_facts_of hr (by decide) rfl (pa_cons (mv 0) pa_nil)) LF.cl LF.mW F_win (hr.mono (by decide)) bW .nil ps0 (pa_cons (mv 1) (pa_cons (mv 2) pa_nil))))))), ?_⟩
    obtain ⟨dx, ls, le, xs0, hp, g1, g2, el0⟩ := id lg
    refine ⟨p, dx, _, rfl, hp, p, sz, ns, es, rfl, lg, fun la na => ?_⟩
    have x1 := Ext.upd (o := .lst (ns.map V.str)) na
    refine ⟨la, ns, z, rfl, upd_same, hz, ?_⟩
    have lg1 := lg.mono x1
    generalize upd H la (.lst (ns.map V.str)) = H1 at x1 lg1 ⊢
    refine ifD (p := b < 0) (fun h => absurd h (by omega)) (fun _ => ?_)
    refine ⟨p, C, kd, sz, ns, es, rfl, lg1, M, so, cr, ok, fun H2 d nd fa x2 => ?_⟩
    obtain ⟨dd, _, _, _, _, _, _, _, _, hd, _⟩ := id fa
    refine ⟨d, dd, _, rfl, hd, fF_no _ _ _ _ _ _ (by decide +kernel) (by decide +kernel) (by decide +kernel) (by decide +kernel) (by decide +kernel) (by decide +kernel), d, sz, ns, es, z, b, rfl, fa, hz, ok.few, fun H3 v x3 wv => ?_⟩
    exact k H3 v ((x1.trans x2).trans x3) wv
end
end NB

set_option Elab.async false
set_option linter.all false
set_option maxRecDepth 100000
set_option maxHeartbeats 4000000
/-! K4h (k05): drawn histories -/
namespace NB
open PySem PySem.Spec L2
open PyProof.Rows (envOfC)
open C8 (pe_c pe_mk pe_mt pe_mt0 pe_gc fnScope fnBody fnArgs fnScope_by Cal Met Mak)
theorem tIfS_any {c : TT} {t u : TS} {D : Ends} {σ : L2.St} {H : Hp} (h : ∀ Q : Bool → Hp → Prop, Q true H → Q false H → c σ H Q) (h1 : t D σ H) (h2 : u D σ H) : tIfS c t u D σ H :=
  h _ ((if_pos rfl).mpr h1) ((if_neg Bool.false_ne_true).mpr h2)
/-- what a dict of stories has for a name -/
def HeldO (H : Hp) (sz : Int) (o : Option V) : Prop := o = none ∨ ∃ t i j, o = some (.ref t) ∧ H t = some (.tup [.int i, .int j]) ∧ 0 ≤ i ∧ i < 10 ^ 24 ∧ 0 ≤ j ∧ j ≤ sz
theorem HeldO.st {H H' : Hp} {sz : Int} {o : Option V} (h : HeldO H sz o) (x : TupSt H H') : HeldO H' sz o := by
  rcases h with h | ⟨t, i, j, h1, h2, h3⟩
  · exact .inl h
  · exact .inr ⟨t, i, j, h1, x _ _ h2, h3⟩
/-- what stays through a story -/
structure StoS (H0 : Hp) (p ls lt dh : Addr) : Prop where
  p0 : FeedAt H0 p
  ns : H0 ls = none
  nt : H0 lt = none
  nd : H0 dh = none
  st : ls ≠ lt
theorem FeedAt.ne' {H : Hp} {p q : Addr} (h : FeedAt H p) (n : H q = none) : p ≠ q := by
  obtain ⟨o, hp, _⟩ := h
  exact ne_of_none hp n
/-- between two steps of a story -/
structure StoH (H0 : Hp) (p ls lt dh : Addr) (ns : List Str) (sz most : Int) (bt bk : Nat) (H : Hp) : Prop where
  hs : ∃ es xs, H ls = some (.lst xs) ∧ EntL H es xs ∧ (es.length : Int) ≤ most ∧ ∀ e ∈ es, e.1 ∈ ns ∧ 0 ≤ e.2 ∧ e.2 < 10 ^ 60
  ht : ∃ ys, H lt = some (.lst ys) ∧ ys.length ≤ bt
  hd : ∃ kvs, H dh = some (.dK kvs) ∧ kvs.length ≤ bk ∧ ∀ z : Str, HeldO H sz (valV kvs (Sum.inr z))
  fd : FeedAt H p
  fr : Frm [p] H0 H
theorem StoH.ext {H0 : Hp} {p ls lt dh : Addr} {ns : List Str} {sz most : Int} {bt bk : Nat} {H H' : Hp} (h : StoH H0 p ls lt dh ns sz most bt bk H) (x : Ext H H') : StoH H0 p ls lt dh ns sz most bt bk H' := by
  obtain ⟨⟨es, xs, h1, h2, h3⟩, ⟨ys, h4, h5⟩, ⟨kvs, h6, h7, h8⟩, h9, h10⟩ := h
  exact ⟨⟨es, xs, x _ _ h1, h2.mono x, h3⟩, ⟨ys, x _ _ h4, h5⟩, ⟨kvs, x _ _ h6, h7, fun z => (h8 z).st (TupSt.ext x)⟩, h9.keep x, h10.trans (Frm.ext x)⟩
theorem StoH.feed {H0 : Hp} {p ls lt dh : Addr} {ns : List Str} {sz most : Int} {bt bk : Nat} {H : Hp} {o : HO} (S : StoS H0 p ls lt dh) (h : StoH H0 p ls lt dh ns sz most bt bk H) (fo : FeedO o) : StoH H0 p ls lt dh ns sz most bt bk (upd H p o) := by
  have st := TupSt.feed (o := o) h.fd
  obtain ⟨⟨es, xs, h1, h2, h3⟩, ⟨ys, h4, h5⟩, ⟨kvs, h6, h7, h8⟩, h9, h10⟩ := h
  exact ⟨⟨es, xs, by rw [upd_ne (S.p0.ne' S.ns).symm]; exact h1, h2.st st, h3⟩, ⟨ys, by rw [upd_ne (S.p0.ne' S.nt).symm]; exact h4, h5⟩, ⟨kvs, by rw [upd_ne (S.p0.ne' S.nd).symm]; exact h6, h7, fun z => (h8 z).st st⟩, FeedAt.put fo, h10.upd mem1⟩
theorem StoH.take {H0 : Hp} {p ls lt dh : Addr} {ns : List Str} {sz most : Int} {bt bk : Nat} {H : Hp} {ys : List V} {v : V} (S : StoS H0 p ls lt dh) (h : StoH H0 p ls lt dh ns sz most bt bk H) (hy : H lt = some (.lst ys)) : StoH H0 p ls lt dh ns sz most (bt + 1) bk (upd H lt (.lst (ys ++ [v]))) := by
  have st := TupSt.upd (o := .lst (ys ++ [v])) hy (fun _ z => nomatch z)
  obtain ⟨⟨es, xs, h1, h2, h3⟩, ⟨ys', h4, h5⟩, ⟨kvs, h6, h7, h8⟩, h9, h10⟩ := h
  rw [hy] at h4
  obtain rfl : ys = ys' := by injection h4 with h4; injection h4
  refine ⟨⟨es, xs, by rw [upd_ne S.st]; exact h1, h2.st st, h3⟩, ⟨_, upd_same, ?_⟩, ⟨kvs, ?_, h7, fun z => (h8 z).st st⟩, ?_, h10.new' S.nt⟩
  · rw [List.length_append, List.length_singleton]; omega
  · rw [upd_ne (ne_of h6 hy (fun z => nomatch z))]; exact h6
  · obtain ⟨u, hu, fu⟩ := h9
    exact ⟨u, by rw [upd_ne (S.p0.ne' S.nt)]; exact hu, fu⟩
theorem StoH.show' {H0 : Hp} {p ls lt dh : Addr} {ns : List Str} {sz most : Int} {bt bk : Nat} {H : Hp} {xs : List V} {es : List (Str × Int)} {e : Str × Int} {v : V} (S : StoS H0 p ls lt dh) (h : StoH H0 p ls lt dh ns sz most bt bk H) (hx : H ls = some (.lst xs))
    (hel : EntL H es xs) (hn : (es.length : Int) < most) (hok : ∀ e ∈ es, e.1 ∈ ns ∧ 0 ≤ e.2 ∧ e.2 < 10 ^ 60) (he : EntAt H e v) (ok : e.1 ∈ ns ∧ 0 ≤ e.2 ∧ e.2 < 10 ^ 60) : StoH H0 p ls lt dh ns sz most bt bk (upd H ls (.lst (xs ++ [v]))) := by
  have st := TupSt.upd (o := .lst (xs ++ [v])) hx (fun _ z => nomatch z)
  obtain ⟨_, ⟨ys, h4, h5⟩, ⟨kvs, h6, h7, h8⟩, h9, h10⟩ := h
  refine ⟨⟨es ++ [e], xs ++ [v], upd_same, ?_, ?_, ?_⟩, ⟨ys, by rw [upd_ne S.st.symm]; exact h4, h5⟩, ⟨kvs, ?_, h7, fun z => (h8 z).st st⟩, ?_, h10.new' S.ns⟩
  · obtain ⟨t1, rfl, h1⟩ := he
    exact (EntL.st hel st).snoc ⟨t1, rfl, st _ _ h1⟩
  · rw [List.length_append, List.length_singleton]; omega
  · intro y hy
    rcases List.mem_append.mp hy with hy | hy
    · exact hok y hy
    · rw [List.mem_singleton.mp hy]; exact ok
  · rw [upd_ne (ne_of h6 hx (fun z => nomatch z))]; exact h6
  · obtain ⟨u, hu, fu⟩ := h9
    exact ⟨u, by rw [upd_ne (S.p0.ne' S.ns)]; exact hu, fu⟩
theorem StoH.put {H0 : Hp} {p ls lt dh : Addr} {ns : List Str} {sz most : Int} {bt bk : Nat} {H : Hp} {kvs : List (Key × V)} {z : Str} {t : Addr} {i j : Int} (S : StoS H0 p ls lt dh) (h : StoH H0 p ls lt dh ns sz most bt bk H) (hk : H dh = some (.dK kvs))
    (ht : H t = some (.tup [.int i, .int j])) (b : 0 ≤ i ∧ i < 10 ^ 24 ∧ 0 ≤ j ∧ j ≤ sz) : StoH H0 p ls lt dh ns sz most bt (bk + 1) (upd H dh (.dK (putK kvs (Sum.inr z) (.ref t)))) := by
  have st := TupSt.upd (o := .dK (putK kvs (Sum.inr z) (.ref t))) hk (fun _ z => nomatch z)
  obtain ⟨⟨es, xs, h1, h2, h3⟩, ⟨ys, h4, h5⟩, ⟨kvs', h6, h7, h8⟩, h9, h10⟩ := h
  rw [hk] at h6
  obtain rfl : kvs = kvs' := by injection h6 with h6; injection h6
  refine ⟨⟨es, xs, by rw [upd_ne (ne_of h1 hk (fun z => nomatch z))]; exact h1, h2.st st, h3⟩, ⟨ys, by rw [upd_ne (ne_of h4 hk (fun z => nomatch z))]; exact h4, h5⟩, ⟨_, upd_same, Nat.le_trans (length_putK _ _ _) (by omega), fun y => ?_⟩, ?_, h10.new' S.nd⟩
  · rw [valV_put]
    by_cases e : y = z
    · rw [if_pos (by rw [e])]
      exact .inr ⟨t, i, j, rfl, st _ _ ht, b⟩
    · rw [if_neg (fun q => e (Sum.inr.inj q))]
      exact (h8 y).st st
  · obtain ⟨u, hu, fu⟩ := h9
    exact ⟨u, by rw [upd_ne (S.p0.ne' S.nd)]; exact hu, fu⟩
def spStory : Sp := fun vs H Q _ => ∃ p sz a ns most, vs = [.ref p, .int sz, .ref a, .int most, .int (10 ^ 20)] ∧ FeedAt H p ∧ H a = some (.lst (ns.map V.str)) ∧ CrewOk ns ∧ SizeOk sz ∧ 0 ≤ most ∧ most ≤ 200 ∧
  ∀ H' q l lt es xs, H q = none → H' q = some (.lst [.ref l, .ref lt]) → H l = none → H' l = some (.lst xs) → EntL H' es xs → EntsOk ns es → (∀ e ∈ es, e.2 < 10 ^ 60) → FeedAt H' p → Frm [p] H H' → Q (.ref q) H'
section
variable {P : Program} {w : World} {K : PySem.W.Frag} {mg : Str → Option Value} {base : Heap}
theorem ok_story (T : Tb mg) (D : Dx K mg "_law_story" s__law_story ["feed", "unit", "crew", "most", "far"]) (c__law_pick : Cal P w K mg base 1 "_law_pick" spPick []) : Cal P w K mg base 2 "_law_story" spStory [] := by
  refine cal_of D sc__law_story (fun vs H Q E h => ?_) (fun f cdv A o s H vs Q E hr h => ?_)
  · obtain ⟨p, sz, a, ns, most, rfl, _⟩ := h; rfl
  · obtain ⟨p, sz, a, ns, most, rfl, hf, ha, cr, so, hm1, hm2, k⟩ := h
    have small : ∀ {i : Int}, i ≤ 10 ^ 30 → i < 2 ^ 1000 := fun {i} h => Int.lt_of_le_of_lt h (by decide +kernel)
    have s1000 : ∀ {i : Int}, i ≤ 1000 → i < 2 ^ 1000 := fun {i} h => Int.lt_of_le_of_lt h (by decide +kernel)
    have ap : a ≠ p := hf.ne ha
    have sz1 := so.1
    have sz2 := so.2
    refine ⟨_, (C8.pss_cut (ps_asg (pe_tup (pa_cons (pe_lst pa_nil) (pa_cons (pe_lst pa_nil) (pa_cons pe_int (pa_cons pe_dnewK pa_nil))))) (pg_tup rfl (pgs_cons (pg_name (i := 5) sc__law_story.nd rfl (Or.inl rfl)) (pgs_cons (pg_name (i := 6) sc__law_story.nd rfl (Or.inl rfl)) (pgs_cons (pg_name (i := 7) sc__law_story.nd rfl (Or.inl rfl)) (pgs_cons (pg_name (i := 8) sc__law_story.nd rfl (Or.inl rfl)) pgs_nil))))))
    (pss_cons (ps_for PassesOwn.never rfl (pi_range1 (by rfl) T.n_range (pa_cons (pe_c c__law_pick hr (by decide) rfl (pa_cons (mv 0) (pa_cons (pe_op m_add (pe_op m_mul pe_int (mv 3)) pe_int) pa_nil))) pa_nil)) (pg_name (i := 9) sc__law_story.nd rfl (Or.inl rfl))
    (pss_cons (ps_set (i := 10) sc__law_story.nd rfl (Or.inl rfl) (pe_ix m_ix (mv 2) (pe_c c__law_pick hr (by decide) rfl (pa_cons (mv 0) (pa_cons (pe_callB call_len (by rfl) T.n_len (by decide +kernel) (pa_cons (mv 2) pa_nil)) pa_nil))) (fun _ _ => rfl)))
    (C8.pss_cut (ps_asg (pe_dget2 (u2 hr) (mv 8) (mv 10) (pe_tup (pa_cons pe_int (pa_cons (mv 1) pa_nil))) ⟨rfl, rfl, rfl, rfl⟩) (pg_tup rfl (pgs_cons (pg_name (i := 11) sc__law_story.nd rfl (Or.inl rfl)) (pgs_cons (pg_name (i := 12) sc__law_story.nd rfl (Or.inl rfl)) pgs_nil))))
    (C8.pss_cut (ps_set (i := 13) sc__law_story.nd rfl (Or.inl rfl) (pe_c c__law_pick hr (by decide) rfl (pa_cons (mv 0) (pa_cons pe_int pa_nil))))
    (pss_one (ps_if (PW.pt (pw_or (pt_cmp (pc_dnotin (u2 hr) (mv 10) (mv 8))) (pw_or (qt m_eq (mv 13) pe_int (nomark _)) (pw_or1 (PW.pt (pw_and (qt m_eq (mv 12) (mv 1) (nomark _)) (pw_and1 (qt m_lt (mv 13) pe_int (nomark _))))))))) (C8.pss_cut (ps_set (i := 14) sc__law_story.nd rfl (Or.inl rfl) (pe_op m_add pe_int (pe_ix m_ix (pe_lst (pa_cons pe_int (pa_cons pe_int (pa_cons (pe_c c__law_pick hr (by decide) rfl (pa_cons (mv 0) (pa_cons pe_int pa_nil))) (pa_cons (pe_c c__law_pick hr (by decide) rfl (pa_cons (mv 0) (pa_cons (mv 4) pa_nil))) pa_nil))))) (pe_c c__law_pick hr (by decide) rfl (pa_cons (mv 0) (pa_cons pe_int pa_nil))) (fun _ _ => rfl))))
    (C8.pss_cut (ps_expr (pe_bm PySem.F.plainAttrs_list PySem.F.slot_list_append PySem.F.type_list_append mt_append (mv 6) (pa_cons (pe_tup (pa_cons (mv 7) (pa_cons (pe_op m_sub (pe_op m_add (mv 7) (mv 14)) pe_int) (pa_cons (mv 10) (pa_cons (pe_callB call_len (by rfl) T.n_len (by decide +kernel) (pa_cons (mv 5) pa_nil)) pa_nil))))) pa_nil)))
    (pss_cons (ps_set (i := 7) sc__law_story.nd rfl (Or.inl rfl) (pe_op m_add (mv 7) (mv 14)))
    (pss_one (ps_asg (pe_tup (pa_cons (pe_op m_sub (mv 7) pe_int) (pa_cons pe_int pa_nil))) (pg_sub (mv 8) (mv 10) (set_dict (u2 hr)))))))) (pss_one (ps_if (qt m_lt (mv 12) (mv 1) (nomark _)) (C8.pss_cut (ps_set (i := 15) sc__law_story.nd rfl (Or.inl rfl) (pe_ix m_ix (pe_lst (pa_cons (mv 12) (pa_cons (pe_op m_sub (mv 1) pe_int) (pa_cons (pe_op m_add (mv 12) (pe_c c__law_pick hr (by decide) rfl (pa_cons (mv 0) (pa_cons (pe_op m_sub (mv 1) (mv 12)) pa_nil)))) pa_nil)))) (pe_c c__law_pick hr (by decide) rfl (pa_cons (mv 0) (pa_cons pe_int pa_nil))) (fun _ _ => rfl)))
    (C8.pss_cut (ps_asg (pe_tup (pa_cons (mv 11) (pa_cons (pe_op m_add (mv 15) pe_int) pa_nil))) (pg_sub (mv 8) (mv 10) (set_dict (u2 hr))))
    (pss_one (ps_if (PW.pt (pw_and (qt m_lt (pe_callB call_len (by rfl) T.n_len (by decide +kernel) (pa_cons (mv 5) pa_nil)) (mv 3) (nomark _)) (pw_and1 (qt m_gt (pe_c c__law_pick hr (by decide) rfl (pa_cons (mv 0) (pa_cons pe_int pa_nil))) pe_int (nomark _))))) (pss_one (ps_expr (pe_bm PySem.F.plainAttrs_list PySem.F.slot_list_append PySem.F.type_list_append mt_append (mv 5) (pa_cons (pe_tup (pa_cons (mv 10) (pa_cons (pe_op m_add (pe_op m_mul (mv 11) (mv 1)) (mv 15)) pa_nil))) pa_nil)))) pss_nil)))) pss_nil))))))))
    (pss_one (ps_ret (pe_lst (pa_cons (mv 5) (pa_cons (mv 6) pa_nil))))))), ?_⟩
    refine ⟨fun σ H' => ∃ ls lt dh, σ = [some (.ref p), some (.int sz), some (.ref a), some (.int most), some (.int (10 ^ 20)), some (.ref ls), some (.ref lt), some (.int 0), some (.ref dh), none, none, none, none, none, none, none] ∧ StoS H p ls lt dh ∧ StoH H p ls lt dh ns sz most 0 0 H', ?_, ?_⟩
    · refine ⟨Nat.zero_le _, fun ls nls => ⟨Nat.zero_le _, fun lt nlt dh ndh => ⟨(by show 4 ≤ sizeLine; decide), fun tq ntq => ?_⟩⟩⟩
      have x4 := Ext.upd (o := .tup [.ref ls, .ref lt, .int 0, .ref dh]) ntq
      have c4 : (upd (upd (upd (upd H ls (.lst [])) lt (.lst [])) dh (.dK [])) tq (.tup [.ref ls, .ref lt, .int 0, .ref dh])) tq = some (.tup [.ref ls, .ref lt, .int 0, .ref dh]) := upd_same
      have lst_ : ls ≠ lt := ne_of_none upd_same nlt
      have ld : ls ≠ dh := ne_of_none (o := .lst []) (by rw [upd_ne lst_]; exact upd_same) ndh
      have td : lt ≠ dh := ne_of_none (o := .lst []) upd_same ndh
      have x3 : Ext H (upd (upd (upd H ls (.lst [])) lt (.lst [])) dh (.dK [])) := ((Ext.upd nls).trans (Ext.upd nlt)).trans (Ext.upd ndh)
      have S : StoS H p ls lt dh := ⟨hf, nls, (upd_none nlt).2, (upd_none (upd_none ndh).2).2, lst_⟩
      refine ⟨tq, _, rfl, SqT.of c4, rfl, _, _, rfl, _, _, rfl, _, _, rfl, _, _, rfl, rfl, ?_⟩
      refine ⟨ls, lt, dh, rfl, S, StoH.ext ⟨⟨[], [], ?_, .nil, hm1, fun _ h => nomatch h⟩, ⟨[], ?_, Nat.le_refl _⟩, ⟨[], upd_same, Nat.le_refl _, fun z => .inl rfl⟩, hf.keep x3, Frm.ext x3⟩ x4⟩
      · rw [upd_ne ld, upd_ne lst_]; exact upd_same
      · rw [upd_ne td]; exact upd_same
    rintro σ H1 ⟨ls, lt, dh, rfl, S, h1⟩
    refine ⟨mulL (by decide) (by decide), p, _, rfl, h1.fd, by omega, s1000 (by omega), fun r0 o0 r00 r01 fo0 => ?_⟩
    have h2 := h1.feed S fo0
    clear h1
    refine ⟨_, rfl, by omega, by omega, for_range (lo := 0) (n := r0.toNat) (fun i σ H' => ∃ fr v9 v10 v11 v12 v13 v14 v15, σ = [some (.ref p), some (.int sz), some (.ref a), some (.int most), some (.int (10 ^ 20)), some (.ref ls), some (.ref lt), some (.int fr), some (.ref dh), v9, v10, v11, v12, v13, v14, v15] ∧ 0 ≤ fr ∧ fr ≤ i * (10 ^ 20 + 3) ∧ StoH H p ls lt dh ns sz most i i H') ⟨0, _, _, _, _, _, _, _, rfl, Int.le_refl _, by omega, h2⟩ ?_ ?_⟩
    · clear h2
      rintro i σ G hi ⟨fr, v9, v10, v11, v12, v13, v14, v15, rfl, f0, f1, h⟩
      have hi6 : i < 600 := by omega
      have haG : G a = some (.lst (ns.map V.str)) := h.fr _ _ ha (by simpa using ap)
      have hc1 : (1 : Int) ≤ (ns.length : Int) := by have := cr.one; omega
      have hc2 : (ns.length : Int) ≤ 12 := by have := cr.few; omega
      -- a name
      refine ⟨_, _, rfl, .inl ⟨_, SqL.of haG, rfl⟩, ?_⟩
      rw [List.length_map]
      refine ⟨p, _, rfl, h.fd, hc1, s1000 (by omega), fun r1 o1 a1 a2 fo1 => ?_⟩
      have hk1 : r1.toNat < ns.length := by omega
      have h := h.feed S fo1
      refine ⟨_, .str ns[r1.toNat], .inl (SqL.of (by rw [upd_ne ap]; exact haG)), atI_at a1 (by rw [List.getElem?_map, List.getElem?_eq_getElem hk1]; rfl), ?_⟩
      have hz : ns[r1.toNat] ∈ ns := List.getElem_mem _
      generalize ns[r1.toNat] = z at hz ⊢
      generalize upd G p o1 = G1 at h ⊢
      clear haG a1 a2 hk1 r1 fo1 o1
      -- what it holds
      refine ⟨fun σ H' => ∃ ow dn, σ = [some (.ref p), some (.int sz), some (.ref a), some (.int most), some (.int (10 ^ 20)), some (.ref ls), some (.ref lt), some (.int fr), some (.ref dh), some (.int (0 + i)), some (.str z), some (.int ow), some (.int dn), v13, v14, v15] ∧ (0 ≤ ow ∧ ow < 10 ^ 24 ∧ 0 ≤ dn ∧ dn ≤ sz) ∧ StoH H p ls lt dh ns sz most i i H', ?_, ?_⟩
      · obtain ⟨kvs, hk, hkl, hv⟩ := h.hd
        refine ⟨dh, rfl, .inl ⟨kvs, .inl hk⟩, (by show 2 ≤ sizeLine; decide), fun t0 n0 => ?_⟩
        have x0 := Ext.upd (o := .tup [.int 0, .int sz]) n0
        have c0 : (upd G1 t0 (.tup [.int 0, .int sz])) t0 = some (.tup [.int 0, .int sz]) := upd_same
        have h := h.ext x0
        generalize upd G1 t0 (.tup [.int 0, .int sz]) = G2 at x0 c0 h ⊢
        refine ⟨valV kvs (Sum.inr z), DGet.k (k := Sum.inr z) (x0 _ _ hk), ?_⟩
        obtain ⟨t1, ow, dn, e1, g1, gb⟩ : ∃ t1 ow dn, (valV kvs (Sum.inr z)).getD (.ref t0) = .ref t1 ∧ G2 t1 = some (.tup [.int ow, .int dn]) ∧ (0 ≤ ow ∧ ow < 10 ^ 24 ∧ 0 ≤ dn ∧ dn ≤ sz) := by
          rcases hv z with e | ⟨t, ow, dn, e, g, gb⟩
          · exact ⟨t0, 0, sz, by rw [e]; rfl, c0, Int.le_refl _, by decide, by omega, Int.le_refl _⟩
          · exact ⟨t, ow, dn, by rw [e]; rfl, x0 _ _ g, gb⟩
        rw [e1]
        exact ⟨t1, _, rfl, SqT.of g1, rfl, _, _, rfl, _, _, rfl, rfl, ow, dn, rfl, gb, h⟩
      clear h
      rintro σ G2 ⟨ow, dn, rfl, ⟨b1, b2, b3, b4⟩, h⟩
      refine ⟨fun σ H' => ∃ v13, σ = [some (.ref p), some (.int sz), some (.ref a), some (.int most), some (.int (10 ^ 20)), some (.ref ls), some (.ref lt), some (.int fr), some (.ref dh), some (.int (0 + i)), some (.str z), some (.int ow), some (.int dn), some (.int v13), v14, v15] ∧ StoH H p ls lt dh ns sz most i i H', ?_, ?_⟩
      · refine ⟨p, _, rfl, h.fd, by decide, s1000 (by decide), fun r2 o2 a1 a2 fo2 => ?_⟩
        exact ⟨_, rfl, h.feed S fo2⟩
      clear h G1 G2
      rintro σ G ⟨way, rfl, h⟩
      refine tIfS_any (fun Q q1 q2 => ?_) ?_ ?_
      · obtain ⟨kvs, hk, hkl, hv⟩ := h.hd
        refine ⟨dh, _, rfl, DGet.k (k := Sum.inr z) hk, ?_⟩
        have both : ∀ b : Bool, Q b G := fun b => by cases b with
          | false => exact q2
          | true => exact q1
        cases (valV kvs (Sum.inr z)).isSome with
        | false => exact ⟨_, rfl, ifT (by rfl) q1⟩
        | true =>
          refine ⟨_, rfl, ifF (by rfl) ?_⟩
          refine ifD (p := way = 0) (fun _ => q1) (fun _ => ?_)
          exact ifD (p := dn = sz) (fun _ => both _) (fun _ => q2)
      · -- more is taken
        refine ⟨fun σ H' => ∃ m, σ = [some (.ref p), some (.int sz), some (.ref a), some (.int most), some (.int (10 ^ 20)), some (.ref ls), some (.ref lt), some (.int fr), some (.ref dh), some (.int (0 + i)), some (.str z), some (.int ow), some (.int dn), some (.int way), some (.int m), v15] ∧ (1 ≤ m ∧ m ≤ 10 ^ 20 + 3) ∧ StoH H p ls lt dh ns sz most i i H', ?_, ?_⟩
        · refine ⟨p, 3, rfl, h.fd, by decide, s1000 (by decide), fun r2 o2 a1 a2 fo2 => ?_⟩
          have h := h.feed S fo2
          refine ⟨p, _, rfl, h.fd, by decide, small (by decide), fun r3 o3 a3 a4 fo3 => ?_⟩
          have h := h.feed S fo3
          generalize upd (upd G p o2) p o3 = G1 at h ⊢
          refine ⟨(by show 4 ≤ sizeLine; decide), fun q0 hq0 => ?_⟩
          have x0 := Ext.upd (o := .lst [.int 0, .int 0, .int r2, .int r3]) hq0
          have c0 : (upd G1 q0 (.lst [.int 0, .int 0, .int r2, .int r3])) q0 = some (.lst [.int 0, .int 0, .int r2, .int r3]) := upd_same
          have pq : p ≠ q0 := h.fd.ne' hq0
          have h := h.ext x0
          generalize upd G1 q0 (.lst [.int 0, .int 0, .int r2, .int r3]) = G2 at c0 h ⊢
          refine ⟨p, 4, rfl, h.fd, by decide, s1000 (by decide), fun r4 o4 a5 a6 fo4 => ?_⟩
          have h := h.feed S fo4
          obtain ⟨n, hn, at4⟩ : ∃ n : Int, (0 ≤ n ∧ n ≤ 10 ^ 20 + 2) ∧ atI [V.int 0, V.int 0, V.int r2, V.int r3] r4 = some (.int n) := by
            have four : r4 = 0 ∨ r4 = 1 ∨ r4 = 2 ∨ r4 = 3 := by omega
            rcases four with e | e | e | e
            · exact ⟨0, by omega, by rw [e]; rfl⟩
            · exact ⟨0, by omega, by rw [e]; rfl⟩
            · exact ⟨r2, by omega, by rw [e]; rfl⟩
            · exact ⟨r3, by omega, by rw [e]; rfl⟩
          refine ⟨_, _, .inl (SqL.of (by rw [upd_ne pq.symm]; exact c0)), at4, ?_⟩
          exact ⟨_, rfl, by omega, h⟩
        clear h G
        rintro σ G ⟨m, rfl, hm, h⟩
        refine ⟨fun σ H' => σ = [some (.ref p), some (.int sz), some (.ref a), some (.int most), some (.int (10 ^ 20)), some (.ref ls), some (.ref lt), some (.int fr), some (.ref dh), some (.int (0 + i)), some (.str z), some (.int ow), some (.int dn), some (.int way), some (.int m), v15] ∧ StoH H p ls lt dh ns sz most (i + 1) i H', ?_, ?_⟩
        · obtain ⟨ys, hy, hyl⟩ := h.ht
          obtain ⟨es, xs, hx, el, _⟩ := h.hs
          refine ⟨.inl ⟨rfl, _, SqL.of hy⟩, ?_⟩
          refine ⟨_, _, rfl, .inl ⟨_, SqL.of hx, rfl⟩, (by show 4 ≤ sizeLine; decide), fun tp ntp => ?_⟩
          have x0 := Ext.upd (o := .tup [.int fr, .int (fr + m - 1), .str z, .int (xs.length : Nat)]) ntp
          have hy := x0 _ _ hy
          have h := h.ext x0
          exact ⟨lt, ys, _, rfl, rfl, hy, Nat.lt_of_le_of_lt hyl (Nat.lt_of_lt_of_le hi6 (by decide)), rfl, h.take S hy⟩
        clear h G
        rintro σ G ⟨rfl, h⟩
        obtain ⟨kvs, hk, hkl, hv⟩ := h.hd
        refine ⟨(by show 2 ≤ sizeLine; decide), fun tp ntp => ?_⟩
        have x0 := Ext.upd (o := .tup [.int (fr + m - 1), .int 0]) ntp
        have hk := x0 _ _ hk
        have h := h.ext x0
        refine ⟨dh, _, rfl, .inl ⟨kvs, Sum.inr z, hk, rfl, Nat.lt_of_le_of_lt hkl (Nat.lt_of_lt_of_le hi6 (by decide)), rfl⟩, ?_⟩
        exact ⟨fr + m, _, _, _, _, _, _, _, rfl, by omega, by omega, h.put S hk upd_same ⟨by omega, by omega, Int.le_refl _, by omega⟩⟩
      · -- a use
        refine ifD (p := dn < sz) (fun lt_ => ?_) (fun _ => ?_)
        · refine ⟨fun σ H' => ∃ sp, σ = [some (.ref p), some (.int sz), some (.ref a), some (.int most), some (.int (10 ^ 20)), some (.ref ls), some (.ref lt), some (.int fr), some (.ref dh), some (.int (0 + i)), some (.str z), some (.int ow), some (.int dn), some (.int way), v14, some (.int sp)] ∧ (0 ≤ sp ∧ sp < sz) ∧ StoH H p ls lt dh ns sz most i i H', ?_, ?_⟩
          · refine ⟨p, _, rfl, h.fd, by omega, small (by omega), fun r2 o2 a1 a2 fo2 => ?_⟩
            have h := h.feed S fo2
            generalize upd G p o2 = G1 at h ⊢
            refine ⟨(by show 3 ≤ sizeLine; decide), fun q0 hq0 => ?_⟩
            have x0 := Ext.upd (o := .lst [.int dn, .int (sz - 1), .int (dn + r2)]) hq0
            have c0 : (upd G1 q0 (.lst [.int dn, .int (sz - 1), .int (dn + r2)])) q0 = some (.lst [.int dn, .int (sz - 1), .int (dn + r2)]) := upd_same
            have pq : p ≠ q0 := h.fd.ne' hq0
            have h := h.ext x0
            generalize upd G1 q0 (.lst [.int dn, .int (sz - 1), .int (dn + r2)]) = G2 at c0 h ⊢
            refine ⟨p, 3, rfl, h.fd, by decide, s1000 (by decide), fun r4 o4 a5 a6 fo4 => ?_⟩
            have h := h.feed S fo4
            obtain ⟨n, hn, at4⟩ : ∃ n : Int, (0 ≤ n ∧ n < sz) ∧ atI [V.int dn, V.int (sz - 1), V.int (dn + r2)] r4 = some (.int n) := by
              have three : r4 = 0 ∨ r4 = 1 ∨ r4 = 2 := by omega
              rcases three with e | e | e
              · exact ⟨dn, by omega, by rw [e]; rfl⟩
              · exact ⟨sz - 1, by omega, by rw [e]; rfl⟩
              · exact ⟨dn + r2, by omega, by rw [e]; rfl⟩
            refine ⟨_, _, .inl (SqL.of (by rw [upd_ne pq.symm]; exact c0)), at4, ?_⟩
            exact ⟨_, rfl, hn, h⟩
          clear h G
          rintro σ G ⟨sp, rfl, hsp, h⟩
          refine ⟨fun σ H' => σ = [some (.ref p), some (.int sz), some (.ref a), some (.int most), some (.int (10 ^ 20)), some (.ref ls), some (.ref lt), some (.int fr), some (.ref dh), some (.int (0 + i)), some (.str z), some (.int ow), some (.int dn), some (.int way), v14, some (.int sp)] ∧ StoH H p ls lt dh ns sz most i (i + 1) H', ?_, ?_⟩
          · obtain ⟨kvs, hk, hkl, hv⟩ := h.hd
            refine ⟨(by show 2 ≤ sizeLine; decide), fun tp ntp => ?_⟩
            have x0 := Ext.upd (o := .tup [.int ow, .int (sp + 1)]) ntp
            have hk := x0 _ _ hk
            have h := h.ext x0
            refine ⟨dh, _, rfl, .inl ⟨kvs, Sum.inr z, hk, rfl, Nat.lt_of_le_of_lt hkl (Nat.lt_of_lt_of_le hi6 (by decide)), rfl⟩, ?_⟩
            exact ⟨rfl, h.put S hk upd_same ⟨b1, b2, by omega, by omega⟩⟩
          clear h G
          rintro σ G ⟨rfl, h⟩
          have up : StoH H p ls lt dh ns sz most (i + 1) (i + 1) G := by
            obtain ⟨h1, ⟨ys, h4, h5⟩, h6, h7, h8⟩ := h
            exact ⟨h1, ⟨ys, h4, by omega⟩, h6, h7, h8⟩
          have done_ : ∀ {G' : Hp}, StoH H p ls lt dh ns sz most (i + 1) (i + 1) G' → ∃ fr' v9 v10 v11 v12 v13 v14' v15, [some (.ref p), some (.int sz), some (.ref a), some (.int most), some (.int (10 ^ 20)), some (.ref ls), some (.ref lt), some (.int fr), some (.ref dh), some (.int (0 + i)), some (.str z), some (.int ow), some (.int dn), some (.int way), v14, some (.int sp)] = [some (.ref p), some (.int sz), some (.ref a), some (.int most), some (.int (10 ^ 20)), some (.ref ls), some (.ref lt), some (.int fr'), some (.ref dh), v9, v10, v11, v12, v13, v14', v15] ∧ 0 ≤ fr' ∧ fr' ≤ ((i + 1 : Nat) : Int) * (10 ^ 20 + 3) ∧ StoH H p ls lt dh ns sz most (i + 1) (i + 1) G' :=
            fun {G'} h => ⟨fr, _, _, _, _, _, _, _, rfl, f0, by omega, h⟩
          obtain ⟨es, xs, hx, el, hlm, hok⟩ := up.hs
          have hlx := el.len
          refine ⟨_, _, rfl, .inl ⟨_, SqL.of hx, rfl⟩, ?_⟩
          refine ifD (p := (xs.length : Int) < most) (fun hlt => ?_) (fun _ => ifF rfl (done_ up))
          refine ⟨p, 5, rfl, up.fd, by decide, s1000 (by decide), fun r2 o2 a1 a2 fo2 => ?_⟩
          have el2 := EntL.st el (TupSt.feed (o := o2) up.fd)
          have hx2 : (upd G p o2) ls = some (.lst xs) := by rw [upd_ne (S.p0.ne' S.ns).symm]; exact hx
          have up := up.feed S fo2
          generalize upd G p o2 = G1 at up el2 hx2 ⊢
          refine ifD (p := 0 < r2) (fun _ => ?_) (fun _ => done_ up)
          refine ⟨.inl ⟨rfl, _, SqL.of hx2⟩, (CMulX.ok (mulx_ok (a := 90) (b := 110) ?_ ?_ (by decide))), (by show 2 ≤ sizeLine; decide), fun tp ntp => ?_⟩
          · have e : (10 : Int) ^ 24 < 2 ^ 90 := by decide
            omega
          · have e : (10 : Int) ^ 30 < 2 ^ 110 := by decide
            omega
          have x0 := Ext.upd (o := .tup [.str z, .int (ow * sz + sp)]) ntp
          have ct : (upd G1 tp (.tup [.str z, .int (ow * sz + sp)])) tp = some (.tup [.str z, .int (ow * sz + sp)]) := upd_same
          have el3 := el2.mono x0
          have hx3 := x0 _ _ hx2
          have up := up.ext x0
          generalize upd G1 tp (.tup [.str z, .int (ow * sz + sp)]) = G2 at up el3 hx3 ct ⊢
          have bd : 0 ≤ ow * sz + sp ∧ ow * sz + sp < 10 ^ 60 := by
            have m0 : 0 ≤ ow * sz := Int.mul_nonneg b1 (by omega)
            have m1 : ow * sz ≤ 10 ^ 24 * 10 ^ 30 := Int.mul_le_mul (by omega) sz2 (by omega) (by decide)
            have m2 : (10 : Int) ^ 24 * 10 ^ 30 + 10 ^ 30 < 10 ^ 60 := by decide
            omega
          exact ⟨ls, xs, _, rfl, rfl, hx3, Nat.lt_of_lt_of_le (show xs.length < 200 by omega) (by decide), done_ (up.show' (e := (z, ow * sz + sp)) S hx3 el3 (by omega) hok ⟨tp, rfl, ct⟩ ⟨hz, bd⟩)⟩
        · refine ⟨fr, _, _, _, _, _, _, _, rfl, f0, by omega, ?_⟩
          obtain ⟨h1, ⟨ys, h4, h5⟩, ⟨kvs, h6, h6', h6''⟩, h7, h8⟩ := h
          exact ⟨h1, ⟨ys, h4, by omega⟩, ⟨kvs, h6, by omega, h6''⟩, h7, h8⟩
    · clear h2
      rintro σ G ⟨fr, v9, v10, v11, v12, v13, v14, v15, rfl, f0, f1, h⟩
      obtain ⟨es, xs, hx, el, hlm, hok⟩ := h.hs
      refine ⟨(by show 2 ≤ sizeLine; decide), fun q nq => ?_⟩
      have x0 := Ext.upd (o := .lst [.ref ls, .ref lt]) nq
      have h' := h.ext x0
      refine k _ q ls lt es xs ?_ upd_same S.ns (x0 _ _ hx) (el.mono x0) ⟨by omega, fun e he => ⟨(hok e he).1, (hok e he).2.1⟩⟩ (fun e he => (hok e he).2.2) h'.fd h'.fr
      cases e : H q with
      | none => rfl
      | some u =>
        by_cases z : q = p
        · obtain ⟨u2, hu, _⟩ := h.fd
          rw [z, hu] at nq; cases nq
        · rw [h.fr _ _ e (by simpa using z)] at nq; cases nq
end
end NB

set_option Elab.async false
set_option linter.all false
set_option maxRecDepth 100000
set_option maxHeartbeats 4000000
/-! K4i (k05): windows entry by entry; blocks to be asked -/
namespace NB
open PySem PySem.Spec L2
open PyProof.Rows (envOfC)
open C8 (pe_c pe_mk pe_mt pe_mt0 pe_gc fnScope fnBody fnArgs fnScope_by Cal Met Mak)
def spLWin : Sp := fun vs H Q _ => ∃ l sz z b es xs, vs = [.ref l, .int sz, .str z, .int b] ∧ H l = some (.lst xs) ∧ EntL H es xs ∧ es.length ≤ 200 ∧ SizeOk sz ∧ ∀ H' v, Ext H H' → WinV H' (win sz es z b) v → Q v H'
def spBlk : Sp := fun vs H Q _ => ∃ p l sz es xs, vs = [.ref p, .ref l, .int sz] ∧ FeedAt H p ∧ H l = some (.lst xs) ∧ l ≠ p ∧ EntL H es xs ∧ es.length ≤ 200 ∧ (∀ e ∈ es, 0 ≤ e.2) ∧ SizeOk sz ∧
  ∀ H' q (bs : List Int), H q = none → H' q = some (.lst (bs.map V.int)) → 1 ≤ bs.length → bs.length ≤ 603 → (∀ b ∈ bs, 0 ≤ b) → FeedAt H' p → Frm [p] H H' → Q (.ref q) H'
section
variable {P : Program} {w : World} {K : PySem.W.Frag} {mg : Str → Option Value} {base : Heap}
theorem ok_lwin (T : Tb mg) (D : Dx K mg "_law_window" s__law_window ["shown", "unit", "name", "wanted"]) : Cal P w K mg base 1 "_law_window" spLWin [] := by
  refine cal_of D sc__law_window (fun vs H Q E h => ?_) (fun f cdv A o s H vs Q E hr h => ?_)
  · obtain ⟨l, sz, z, b, es, xs, rfl, _⟩ := h; rfl
  · obtain ⟨l, sz, z, b, es, xs, rfl, hl, el, hn, so, k⟩ := h
    have hle := el.len
    refine ⟨_, (pss_cons (ps_par (i := 4) (j := 5) rfl sc__law_window.nd rfl rfl (by decide) rfl rfl (pa_cons pe_int (pa_cons (pe_callB call_len (by rfl) T.n_len (by decide +kernel) (pa_cons (mv 0) pa_nil)) pa_nil)) (by rfl))
    (pss_cons (ps_for PassesOwn.never rfl (pi_enum (by rfl) T.n_enumerate (pa_cons (mv 0) pa_nil)) (pg_tup rfl (pgs_cons (pg_name (i := 6) sc__law_window.nd rfl (Or.inl rfl)) (pgs_cons (pg_tup rfl (pgs_cons (pg_name (i := 7) sc__law_window.nd rfl (Or.inl rfl)) (pgs_cons (pg_name (i := 8) sc__law_window.nd rfl (Or.inl rfl)) pgs_nil))) pgs_nil)))
    (C8.pss_cut (ps_if (PW.pt (pw_and (qt m_ne (mv 7) (mv 2) (nomark _)) (pw_and1 (qt m_eq (pe_op m_div (mv 8) (mv 1)) (mv 3) (nomark _))))) (pss_one (ps_ret pe_non)) pss_nil)
    (C8.pss_cut (ps_if (PW.pt (pw_and (qt m_eq (mv 7) (mv 2) (nomark _)) (pw_and1 (qt m_lt (pe_op m_div (mv 8) (mv 1)) (mv 3) (nomark _))))) (pss_one (ps_set (i := 4) sc__law_window.nd rfl (Or.inl rfl) (pe_op m_add (mv 6) pe_int))) pss_nil)
    (pss_one (ps_if (PW.pt (pw_and (qt m_eq (mv 7) (mv 2) (nomark _)) (pw_and (qt m_ge (pe_op m_div (mv 8) (mv 1)) (mv 3) (nomark _)) (pw_and1 (qt m_eq (mv 5) (pe_callB call_len (by rfl) T.n_len (by decide +kernel) (pa_cons (mv 0) pa_nil)) (nomark _)))))) (pss_one (ps_set (i := 5) sc__law_window.nd rfl (Or.inl rfl) (mv 6))) pss_nil)))))
    (pss_one (ps_ret (pe_tup (pa_cons (mv 4) (pa_cons (mv 5) pa_nil))))))), ?_⟩
    refine ⟨_, _, rfl, .inl ⟨_, SqL.of hl, rfl⟩, ?_⟩
    refine ⟨_, _, rfl, ?_⟩
    refine ⟨l, xs, rfl, SqL.of hl, for_enum (xs := xs) (fun i σ H' => ∃ v6 v7 v8, σ = [some (.ref l), some (.int sz), some (.str z), some (.int b), some (.int (lowW sz z b 0 (es.take i) 0)), some (.int (highW sz z b es.length 0 (es.take i) es.length)), v6, v7, v8] ∧ Ext H H' ∧ (hol sz (es.take i) b).any (fun y => decide (y ≠ z)) = false) ⟨none, none, none, (by rw [hle]; rfl), (fun _ _ h => h), rfl⟩ ?_ ?_ ?_⟩
    · rintro i σ H' _ ⟨_, _, _, rfl, xG, _⟩
      exact SqL.of (xG _ _ hl)
    · rintro i x tT σ G0 hx nT ⟨v6, v7, v8, rfl, xG, free⟩
      obtain ⟨⟨who, fig⟩, hv, t, rfl, ht⟩ := EntL.at el hx
      have hi2 : i < es.length := (List.getElem?_eq_some_iff.mp hv).1
      have et := take_at hv
      have tl : (es.take i).length = i := by rw [List.length_take]; omega
      have xT := Ext.upd (o := .tup [.int (i : Nat), .ref t]) nT
      have ct : (upd G0 tT (.tup [.int (i : Nat), .ref t])) tT = some (.tup [.int (i : Nat), .ref t]) := upd_same
      have ht' := (xG.trans xT) _ _ ht
      have xG := xG.trans xT
      generalize upd G0 tT (.tup [.int (i : Nat), .ref t]) = G at ct ht' xG ⊢
      clear xT nT
      refine ⟨tT, _, rfl, SqT.of ct, rfl, _, _, rfl, _, _, rfl, t, _, rfl, SqT.of ht', rfl, _, _, rfl, _, _, rfl, rfl, rfl, ?_⟩
      generalize el0 : lowW sz z b 0 (es.take i) 0 = lo
      generalize eh0 : highW sz z b es.length 0 (es.take i) es.length = hi
      refine ⟨fun σ H' => σ = [some (.ref l), some (.int sz), some (.str z), some (.int b), some (.int lo), some (.int hi), some (.int (i : Nat)), some (.str who), some (.int fig)] ∧ ¬ (who ≠ z ∧ fig / sz = b) ∧ H' = G, ?_, ?_⟩
      · refine ifND (p := who = z) (fun ne => ⟨cdv_size _ so, ?_⟩) (fun e => ⟨rfl, fun q => q.1 e, rfl⟩)
        refine ifD (p := fig / sz = b) (fun e2 => ?_) (fun n2 => ⟨rfl, fun q => n2 q.2, rfl⟩)
        have an : (hol sz es b).any (fun y => decide (y ≠ z)) = true := by
          cases hh : (hol sz es b).any (fun y => decide (y ≠ z)) with
          | true => rfl
          | false => exact absurd ⟨ne, e2⟩ (hol_free.mp hh _ (List.mem_of_getElem? hv))
        refine k _ _ xG ?_
        unfold win
        rw [if_pos an]
        exact rfl
      rintro σ G' ⟨rfl, nf, rfl⟩
      have e1 : lowW sz z b 0 (es.take (i + 1)) 0 = if who = z ∧ fig / sz < b then (i : Int) + 1 else lo := by rw [et, lowW_snoc, tl, Nat.zero_add, el0]
      have e2 : highW sz z b es.length 0 (es.take (i + 1)) es.length = if (who = z ∧ b ≤ fig / sz) ∧ hi = es.length then (i : Int) else hi := by rw [et, highW_snoc, tl, Nat.zero_add, eh0]
      refine ⟨fun σ H' => σ = [some (.ref l), some (.int sz), some (.str z), some (.int b), some (.int (lowW sz z b 0 (es.take (i + 1)) 0)), some (.int hi), some (.int (i : Nat)), some (.str who), some (.int fig)] ∧ H' = G', ?_, ?_⟩
      · rw [e1]
        refine ifD (p := who = z) (fun e => ⟨cdv_size _ so, ?_⟩) (fun ne => ⟨by rw [if_neg (fun q => ne q.1)], rfl⟩)
        exact ifD (p := fig / sz < b) (fun h => ⟨by rw [if_pos ⟨e, h⟩] <;> rfl, rfl⟩) (fun n => ⟨by rw [if_neg (fun q => n q.2)], rfl⟩)
      rintro σ G ⟨rfl, rfl⟩
      have fr : (hol sz (es.take (i + 1)) b).any (fun y => decide (y ≠ z)) = false := hol_free.mpr fun e he => by
        rw [et] at he
        rcases List.mem_append.mp he with he | he
        · exact hol_free.mp free e he
        · rw [List.mem_singleton.mp he]; exact nf
      have stay : (¬ ((who = z ∧ b ≤ fig / sz) ∧ hi = es.length)) → ∃ v6 v7 v8, ([some (.ref l), some (.int sz), some (.str z), some (.int b), some (.int (lowW sz z b 0 (es.take (i + 1)) 0)), some (.int hi), some (.int (i : Nat)), some (.str who), some (.int fig)] : L2.St) =
          [some (.ref l), some (.int sz), some (.str z), some (.int b), some (.int (lowW sz z b 0 (es.take (i + 1)) 0)), some (.int (highW sz z b es.length 0 (es.take (i + 1)) es.length)), v6, v7, v8] ∧ Ext H G ∧ (hol sz (es.take (i + 1)) b).any (fun y => decide (y ≠ z)) = false := fun n => by
        rw [e2, if_neg n]
        exact ⟨_, _, _, rfl, xG, fr⟩
      refine ifD (p := who = z) (fun e => ⟨cdv_size _ so, ?_⟩) (fun ne => stay fun q => ne q.1.1)
      refine ifD (p := b ≤ fig / sz) (fun h => ?_) (fun n => stay fun q => n q.1.2)
      refine ⟨_, _, rfl, .inl ⟨_, SqL.of (xG _ _ hl), rfl⟩, ?_⟩
      refine ifD (p := hi = (xs.length : Int)) (fun e3 => ?_) (fun n => stay fun q => n (by rw [q.2, hle]))
      rw [e2, if_pos ⟨⟨e, h⟩, by rw [e3, hle]⟩]
      exact ⟨_, _, _, rfl, xG, fr⟩
    · rintro σ G ⟨v6, v7, v8, e, xG, free⟩
      rw [← hle, List.take_length] at e free
      subst e
      refine ⟨(by show 2 ≤ sizeLine; decide), fun tp ntp => k _ _ (xG.trans (Ext.upd ntp)) ?_⟩
      unfold win
      rw [if_neg (by rw [free]; exact Bool.false_ne_true)]
      exact ⟨tp, rfl, upd_same⟩
theorem ok_blocks (T : Tb mg) (n_sorted : mg "sorted" = none) (D : Dx K mg "_law_blocks" s__law_blocks ["feed", "shown", "unit"]) (c__law_pick : Cal P w K mg base 1 "_law_pick" spPick []) : Cal P w K mg base 2 "_law_blocks" spBlk [] := by
  refine cal_of D sc__law_blocks (fun vs H Q E h => ?_) (fun f cdv A o s H vs Q E hr h => ?_)
  · obtain ⟨p, l, sz, es, xs, rfl, _⟩ := h; rfl
  · obtain ⟨p, l, sz, es, xs, rfl, hf, hl, lp, el, hn, nn, so, k⟩ := h
    have small : ∀ {i : Int}, i ≤ 10 ^ 30 → i < 2 ^ 1000 := fun {i} h => Int.lt_of_le_of_lt h (by decide +kernel)
    have hle := el.len
    refine ⟨_, (pss_cons (ps_set (i := 3) sc__law_blocks.nd rfl (Or.inl rfl) (pe_lst (pa_cons pe_int (pa_cons (pe_c c__law_pick hr (by decide) rfl (pa_cons (mv 0) (pa_cons pe_int pa_nil))) (pa_cons (pe_c c__law_pick hr (by decide) rfl (pa_cons (mv 0) (pa_cons (pe_op m_pow pe_int pe_int) pa_nil))) pa_nil)))))
    (pss_cons (ps_for PassesOwn.never rfl (pi_list (mv 1)) (pg_tup rfl (pgs_cons (pg_name (i := 4) sc__law_blocks.nd rfl (Or.inl rfl)) (pgs_cons (pg_name (i := 5) sc__law_blocks.nd rfl (Or.inl rfl)) pgs_nil)))
    (pss_one (ps_expr (pe_bm PySem.F.plainAttrs_list PySem.F.slot_list_extend PySem.F.type_list_extend mt_extend (mv 3) (pa_cons (pe_lst (pa_cons (pe_callB (call_max2 rfl) (by rfl) T.n_max (by decide +kernel) (pa_cons pe_int (pa_cons (pe_op m_sub (pe_op m_div (mv 5) (mv 2)) pe_int) pa_nil))) (pa_cons (pe_op m_div (mv 5) (mv 2)) (pa_cons (pe_op m_add (pe_op m_div (mv 5) (mv 2)) pe_int) pa_nil)))) pa_nil)))))
    (pss_one (ps_ret (pe_callB (cr_sortedSetN rfl) (by rfl) n_sorted (by decide +kernel) (pa_cons (pe_callTy (cr_setI rfl) (by rfl) T.n_set (by decide +kernel) (pa_cons (mv 3) pa_nil)) pa_nil)))))), ?_⟩
    refine ⟨p, 12, rfl, hf, by decide, small (by decide), fun r1 o1 a1 a2 fo1 => ?_⟩
    refine ⟨⟨by decide, by decide, by decide⟩, p, _, rfl, FeedAt.put fo1, by decide, small (by decide), fun r2 o2 a3 a4 fo2 => ?_⟩
    have f1 : Frm [p] H (upd (upd H p o1) p o2) := (Frm.refl.upd mem1).upd mem1
    have hf1 : FeedAt (upd (upd H p o1) p o2) p := FeedAt.put fo2
    have fre : ∀ {q : Addr}, (upd (upd H p o1) p o2) q = none → H q = none := fun h => (upd_none (upd_none h).2).2
    have st1 : TupSt H (upd (upd H p o1) p o2) := by
      obtain ⟨u1, hu1, fu1⟩ := hf
      exact Frm.tups f1 hu1 fu1.ne_tup
    generalize upd (upd H p o1) p o2 = H1 at f1 hf1 fre st1 ⊢
    refine ⟨(by show 3 ≤ sizeLine; decide), fun fd nfd => ?_⟩
    have hfd := fre nfd
    have pfd : p ≠ fd := hf1.ne' nfd
    have hl1 := f1 _ _ hl (by simpa using lp)
    have x1 := Ext.upd (o := .lst [.int 0, .int r1, .int r2]) nfd
    refine ⟨l, rfl, ⟨_, SqL.of (x1 _ _ hl1)⟩, for_list (K := K) (a := l) (xs := xs) (fun i σ H' => ∃ v4 v5, ∃ bs : List Int, σ = [some (.ref p), some (.ref l), some (.int sz), some (.ref fd), v4, v5] ∧ H' fd = some (.lst (bs.map V.int)) ∧ bs.length = 3 + 3 * i ∧ (∀ b ∈ bs, 0 ≤ b) ∧ FeedAt H' p ∧ Frm [p] H H' ∧ TupSt H H' ∧ H' l = some (.lst xs)) ⟨none, none, [0, r1, r2], rfl, upd_same, rfl, ?_, hf1.keep x1, f1.trans (Frm.ext x1), st1.trans (TupSt.ext x1), x1 _ _ hl1⟩ ?_ ?_ ?_⟩
    · intro b hb
      simp only [List.mem_cons, List.not_mem_nil, or_false] at hb
      rcases hb with rfl | rfl | rfl <;> omega
    · rintro i σ H' _ ⟨_, _, _, rfl, _, _, _, _, _, _, h⟩
      exact SqL.of h
    · rintro i x σ G hx ⟨v4, v5, bs, rfl, hb, hbl, b0, hfG, fG, stG, hlG⟩
      obtain ⟨⟨who, fig⟩, hv, t, rfl, ht⟩ := EntL.at el hx
      have hi2 : i < es.length := (List.getElem?_eq_some_iff.mp hv).1
      have fig0 : 0 ≤ fig := nn _ (List.mem_of_getElem? hv)
      have fs0 : 0 ≤ fig / sz := Int.ediv_nonneg fig0 (by have := so.1; omega)
      refine ⟨t, _, rfl, SqT.of (stG _ _ ht), rfl, _, _, rfl, _, _, rfl, rfl, ?_⟩
      refine ⟨.inl ⟨rfl, _, SqL.of hb⟩, ?_⟩
      refine ⟨cdv_size _ so, _, _, rfl, cdv_size _ so, cdv_size _ so, (by show 3 ≤ sizeLine; decide), fun q nq => ?_⟩
      generalize em : (if fig / sz - 1 > 0 then fig / sz - 1 else 0) = m
      have m0 : 0 ≤ m := by rw [← em]; split <;> omega
      have x0 := Ext.upd (o := .lst [.int m, .int (fig / sz), .int (fig / sz + 1)]) nq
      have c0 : (upd G q (.lst [.int m, .int (fig / sz), .int (fig / sz + 1)])) q = some (.lst [.int m, .int (fig / sz), .int (fig / sz + 1)]) := upd_same
      have hb := x0 _ _ hb
      have hfG := hfG.keep x0
      have fG := fG.trans (Frm.ext x0)
      have stG := stG.trans (TupSt.ext x0)
      have hlG := x0 _ _ hlG
      generalize upd G q (.lst [.int m, .int (fig / sz), .int (fig / sz + 1)]) = G1 at hb c0 hfG fG stG hlG ⊢
      have lfd : l ≠ fd := fun e => by rw [← e, hl] at hfd; cases hfd
      refine ⟨fd, q, _, _, rfl, rfl, hb, c0, ?_, _, _, bs ++ [m, fig / sz, fig / sz + 1], rfl, ?_, ?_, ?_, ?_, fG.new' hfd, stG.trans (TupSt.upd hb (fun _ z => nomatch z)), by rw [upd_ne lfd]; exact hlG⟩
      · rw [List.length_map]
        exact Nat.le_trans (show bs.length + 3 ≤ 603 by omega) (by decide)
      · rw [upd_same, List.map_append]; rfl
      · rw [List.length_append]
        show bs.length + 3 = _
        omega
      · intro b hb
        rcases List.mem_append.mp hb with hb | hb
        · exact b0 b hb
        · simp only [List.mem_cons, List.not_mem_nil, or_false] at hb
          rcases hb with rfl | rfl | rfl <;> omega
      · obtain ⟨u, hu, fu⟩ := hfG
        exact ⟨u, by rw [upd_ne pfd]; exact hu, fu⟩
    · rintro σ G ⟨v4, v5, bs, rfl, hb, hbl, b0, hfG, fG, stG, hlG⟩
      refine ⟨fd, bs, rfl, SqL.of hb, by omega, fun s1 c ns1 hc => ?_⟩
      have x1 := Ext.upd (o := SetO w s1 (fun j => decide (j ∈ bs)) c) ns1
      refine ⟨s1, _, c, rfl, upd_same, by omega, fun cs q srt mem len nq => ?_⟩
      have x2 := Ext.upd (o := .lst (cs.map V.int)) nq
      have x12 := x1.trans x2
      have m2 : ∀ y : Int, y ∈ cs ↔ y ∈ bs := fun y => (mem y).trans ⟨of_decide_eq_true, decide_eq_true⟩
      refine k _ q cs ?_ upd_same ?_ (by omega) (fun b hb => b0 b ((m2 b).mp hb)) (hfG.keep x12) (fG.trans (Frm.ext x12))
      · have nG := (upd_none nq).2
        cases e : H q with
        | none => rfl
        | some u =>
          by_cases z : q = p
          · obtain ⟨u2, hu, _⟩ := hfG
            rw [z, hu] at nG; cases nG
          · rw [fG _ _ e (by simpa using z)] at nG; cases nG
      · cases bs with
        | nil => exact absurd hbl (by simp only [List.length_nil]; omega)
        | cons b bs =>
          cases cs with
          | nil => exact absurd ((m2 b).mpr List.mem_cons_self) (fun h => nomatch h)
          | cons _ _ => exact Nat.succ_le_succ (Nat.zero_le _)
end
end NB

set_option Elab.async false
set_option linter.all false
set_option maxRecDepth 100000
set_option maxHeartbeats 8000000
/-! K5 (k05): the judging -/
namespace NB
open PySem PySem.Spec L2
open PyProof.Rows (envOfC)
open C8 (pe_c pe_mk pe_mt pe_mt0 pe_gc fnScope fnBody fnArgs fnScope_by Cal Met Mak)
theorem EntL.ne_feed {H : Hp} {es : List (Str × Int)} {xs : List V} {o : HO} (el : EntL H es xs) (fo : FeedO o) : o ≠ .lst xs := by
  obtain ⟨x, y, z, rfl, _⟩ := fo
  intro e
  injection e with e
  subst e
  cases el with
  | cons r q => obtain ⟨p, e, _⟩ := r; cases e
theorem FeedO.ne_ins {o : HO} (fo : FeedO o) {C dx : Addr} {fs : List (Str × V)} : o ≠ .ins C dx fs := by
  obtain ⟨x, y, z, rfl, _⟩ := fo
  intro e; cases e
section
variable {C p a l b q : Addr} {sz : Int} {ns : List Str} {es : List (Str × Int)} {xs : List V} {H H' : Hp} {K : PySem.W.Frag}
theorem nin_feed {o u : HO} (hp : H p = some o) {c : Addr} (hc : H c = some u) (n : o ≠ u) : c ∉ [p] := fun z => by
  rw [List.mem_singleton.mp z, hp] at hc
  exact n (Option.some.inj hc)
theorem LogAt.frm (h : LogAt C H q sz ns es) (hf : FeedAt H p) (f : Frm [p] H H') : LogAt C H' q sz ns es := by
  obtain ⟨dx, ls, le, vs, h1, h2, h3, h4⟩ := h
  obtain ⟨o, hp, fo⟩ := hf
  exact ⟨dx, ls, le, vs, f _ _ h1 (nin_feed hp h1 fo.ne_ins), f _ _ h2 (nin_feed hp h2 fo.ne_strs), f _ _ h3 (nin_feed hp h3 (h4.ne_feed fo)), h4.st (Frm.tups f hp fo.ne_tup)⟩
/-- what stands while a log is judged -/
structure CS (C p a l b : Addr) (sz : Int) (ns : List Str) (es : List (Str × Int)) (xs : List V) (H : Hp) : Prop where
  feed : FeedAt H p
  crew : H a = some (.lst (ns.map V.str))
  shown : H l = some (.lst xs)
  ents : EntL H es xs
  book : LogAt C H b sz ns es
theorem CS.frm (r : CS C p a l b sz ns es xs H) (f : Frm [p] H H') (hf : FeedAt H' p) : CS C p a l b sz ns es xs H' := by
  obtain ⟨o, hp, fo⟩ := r.feed
  exact ⟨hf, f _ _ r.crew (nin_feed hp r.crew fo.ne_strs), f _ _ r.shown (nin_feed hp r.shown (r.ents.ne_feed fo)), r.ents.st (Frm.tups f hp fo.ne_tup), r.book.frm ⟨o, hp, fo⟩ f⟩
theorem CS.ext (r : CS C p a l b sz ns es xs H) (x : Ext H H') : CS C p a l b sz ns es xs H' := r.frm (Frm.ext x) (r.feed.keep x)
end
/-- a list of entries of wishes, known by its ends -/
def encW : Option (Int × Int) → PyData
  | none => .none
  | some (i, j) => .tuple [.int i, .int j]
theorem dp_W {K : PySem.W.Frag} {H : Hp} {o : Option (Int × Int)} {v : V} (h : WinV H o v) : Dp K H v (encW o) := by
  cases o with
  | none => rw [show v = .non from h]; exact .non
  | some p => obtain ⟨t, rfl, q⟩ := h; exact .tup (SqT.of q) (.cons (.int _) (.cons (.int _) .nil))
theorem sm_W {sz : Int} {es : List (Str × Int)} {z : Str} {b : Int} (h : es.length ≤ 200) : Sm 402 1 (encW (win sz es z b)) := by
  unfold win
  by_cases c : (hol sz es b).any (fun y => decide (y ≠ z)) = true
  · rw [if_pos c]
    exact ⟨rfl, rfl, rfl, Nat.zero_le _, rfl, Nat.zero_le _⟩
  · rw [if_neg c]
    have h1 := low_bd sz z b es
    have h2 := high_bd sz z b es
    refine (Sm.tuple (ds := [.int (lowW sz z b 0 es 0), .int (highW sz z b es.length 0 es es.length)]) (W := 200) (n := 0) (m := 2) (fun d hd => ?_) (Nat.le_refl 2)).mono (by decide) (by decide)
    simp only [List.mem_cons, List.not_mem_nil, or_false] at hd
    rcases hd with rfl | rfl
    · exact Sm.int (by omega)
    · exact Sm.int (by omega)
theorem sm_W2 {sz : Int} {es : List (Str × Int)} {z : Str} {b : Int} (h : es.length ≤ 200) : Sm 806 2 (.list [encW (win sz es z b), encW (win sz es z b)]) := by
  refine Sm.list (W := 402) (n := 1) (m := 2) (fun d hd => ?_) (Nat.le_refl 2)
  simp only [List.mem_cons, List.not_mem_nil, or_false] at hd
  rcases hd with rfl | rfl <;> exact sm_W h
def spRight : Sp := fun vs H Q _ => ∃ p kd sz a l ns es xs most, vs = [.ref p, .str kd, .int sz, .ref a, .ref l, .int most] ∧ FeedAt H p ∧ SizeOk sz ∧ H a = some (.lst (ns.map V.str)) ∧ CrewOk ns ∧ H l = some (.lst xs) ∧ EntL H es xs ∧ EntsOk ns es ∧ 1 ≤ most ∧ most ≤ 1000 ∧ ∀ H', FeedAt H' p → Frm [p] H H' → Q (.bl true) H'
section
variable {P : Program} {w : World} {K : PySem.W.Frag} {mg : Str → Option Value} {base : Heap} {cL cX : Addr} {A0 : Ads}
theorem ok_right (T : Tx K mg cL cX) (Ms : Ms K A0) (LMs : ∀ kd, ∃ kn, LogM K (kdC cL cX kd) kn A0) (D : Dx K mg "_law_right" s__law_right ["feed", "kind", "unit", "crew", "shown", "most"])
    (c__law_pick : Cal P w K mg base 1 "_law_pick" spPick []) (c__law_made : Cal P w K mg base 6 "_law_made" (spMade cL cX) []) (c__law_blocks : Cal P w K mg base 2 "_law_blocks" spBlk []) (c__law_window : Cal P w K mg base 1 "_law_window" spLWin [])
    (c_window : Cal P w K mg base 4 "window" (spWin K A0) []) (cK_window : CalK P w K mg base 4 "window" (spWin K A0) ["block", "server", "log"] gWin) :
    CalG P w K mg base 8 "_law_right" spRight := by
  refine calG_of D sc__law_right (fun vs H Q E h => ?_) (fun f cdv A o s H vs Q E hr hgd h => ?_)
  · obtain ⟨p, kd, sz, a, l, ns, es, xs, most, rfl, _⟩ := h; rfl
  · obtain ⟨p, kd, sz, a, l, ns, es, xs, most, rfl, hf, so, ha, cr, hl, el, ok, hm1, hm2, k⟩ := h
    obtain ⟨kn, M⟩ := LMs kd
    have F_servers := ok_servers (P := P) (w := w) (base := base) T M.toLogC Ms.mV
    have F_entries := ok_entries (P := P) (w := w) (base := base) T M.toLogC Ms.mE
    obtain ⟨_, pV⟩ := M.pV
    obtain ⟨_, pE⟩ := M.pE
    have s1000 : ∀ {i : Int}, i ≤ 1000 → i < 2 ^ 1000 := fun {i} h => Int.lt_of_le_of_lt h (by decide +kernel)
    have h200 := ok.few
    have h12 := cr.few
    have hle := el.len
    have lp : l ≠ p := fun e => by
      obtain ⟨o, hp, fo⟩ := hf
      rw [e, hp] at hl
      exact el.ne_feed fo (Option.some.inj hl)
    refine ⟨_, (C8.pss_cut (ps_set (i := 6) sc__law_right.nd rfl (Or.inl rfl) (pe_c c__law_made hr (by decide) rfl (pa_cons (mv 1) (pa_cons (mv 2) (pa_cons (mv 3) (pa_cons (mv 4) pa_nil))))))
    (C8.pss_cut (ps_set (i := 7) sc__law_right.nd rfl (Or.inr rfl) (pe_c c__law_blocks hr (by decide) rfl (pa_cons (mv 0) (pa_cons (mv 4) (pa_cons (mv 2) pa_nil)))))
    (C8.pss_cut (ps_if (qt m_gt (pe_callB call_len (by rfl) T.n_len (by decide +kernel) (pa_cons (mv 7) pa_nil)) (mv 5) (nomark _)) (pss_one (ps_set (i := 7) sc__law_right.nd rfl (Or.inr rfl) (pe_lc (own := [("turn", 8)]) (g := gName 8) (tt := tYes) (te := tOp (mIx K) (mV 7) (tCall spPick [] C8.E0 (tCons (mV 0) (tCons (tCB (fun xs H Q => ∃ x n, xs = [x] ∧ LenV K x H n ∧ Q (.int n) H) (tCons (mV 7) tNil)) tNil)))) rfl sc__law_right.nd (pi_range1 (by rfl) T.n_range (pa_cons (mv 5) pa_nil)) (blkOk_by (own := [("turn", 8)]) (N := ["feed", "kind", "unit", "crew", "shown", "most", "book", "blocks", "turn", "far", "name", "due", "told"]) (sc := fnScope s__law_right) (by decide +kernel)) (fun _ _ _ _ _ => (pg_name (i := 8) sc__law_right.nd rfl (Or.inl rfl))) (fun _ _ _ _ _ => pts_nil) (fun _ _ _ _ _ => (pe_ix m_ix (mv 7) (pe_c c__law_pick hr (by decide) rfl (pa_cons (mv 0) (pa_cons (pe_callB call_len (by rfl) T.n_len (by decide +kernel) (pa_cons (mv 7) pa_nil)) pa_nil))) (fun _ _ => rfl)))))) pss_nil)
    (C8.pss_cut (ps_for PassesOwn.never rfl (pi_list (mv 7)) (pg_name (i := 9) sc__law_right.nd rfl (Or.inl rfl))
    (pss_one (ps_for PassesOwn.never rfl (pi_list (mv 3)) (pg_name (i := 10) sc__law_right.nd rfl (Or.inl rfl))
    (C8.pss_cut (ps_set (i := 11) sc__law_right.nd rfl (Or.inl rfl) (pe_c c__law_window hr (by decide) rfl (pa_cons (mv 4) (pa_cons (mv 2) (pa_cons (mv 10) (pa_cons (mv 9) pa_nil))))))
    (C8.pss_cut (ps_set (i := 12) sc__law_right.nd rfl (Or.inl rfl) (pe_lst (pa_cons (pe_c c_window hr (by decide) rfl (pa_cons (mv 6) (pa_cons (mv 10) (pa_cons (mv 9) pa_nil)))) (pa_cons (pe_cK cK_window hr (by decide) rfl (pk_cons (mv 9) (pk_cons (mv 10) (pk_cons (mv 6) pk_nil)))) pa_nil))))
    (pss_one (ps_if (qt m_ne (pe_callB (call_rep hr.units (gd_deeper hgd)) (by rfl) T.n_repr (by decide +kernel) (pa_cons (mv 12) pa_nil)) (pe_callB (call_rep hr.units (gd_deeper hgd)) (by rfl) T.n_repr (by decide +kernel) (pa_cons (pe_lst (pa_cons (mv 11) (pa_cons (mv 11) pa_nil))) pa_nil)) (nomark _)) (pss_one (ps_ret pe_bl)) pss_nil)))))))
    (pss_one (ps_ret (pe_and (pe_cmpR (op_eqD hr.units) (pe_prop (mv 6) M.cl pE F_entries (hr.mono (by decide)) Ms.mE.b .nil ps0 rfl) (mv 4) (nomark _)) (pe_one (pe_cmpR (op_eqD hr.units) (pe_prop (mv 6) M.cl pV F_servers (hr.mono (by decide)) Ms.mV.b .nil ps0 rfl) (mv 3) (nomark _)))))))))), ?_⟩
    -- a log
    refine ⟨fun σ H' => ∃ b, σ = [some (.ref p), some (.str kd), some (.int sz), some (.ref a), some (.ref l), some (.int most), some (.ref b), none, none, none, none, none, none] ∧ CS (kdC cL cX kd) p a l b sz ns es xs H' ∧ Frm [p] H H', ?_, ?_⟩
    · refine ⟨kd, sz, a, ns, l, es, xs, rfl, so, ha, cr, hl, el, ok, fun H1 b dx ls le _ _ _ _ _ hb hls hle x1 => ?_⟩
      exact ⟨b, rfl, ⟨hf.keep x1, x1 _ _ ha, x1 _ _ hl, el.mono x1, dx, ls, le, xs, hb, hls, hle, el.mono x1⟩, Frm.ext x1⟩
    rintro σ H1 ⟨b, rfl, c1, f1⟩
    -- blocks
    refine ⟨fun σ H' => ∃ bl, ∃ bs : List Int, σ = [some (.ref p), some (.str kd), some (.int sz), some (.ref a), some (.ref l), some (.int most), some (.ref b), some (.ref bl), none, none, none, none, none] ∧ CS (kdC cL cX kd) p a l b sz ns es xs H' ∧ Frm [p] H H' ∧ H' bl = some (.lst (bs.map V.int)) ∧ bl ≠ p ∧ 1 ≤ bs.length ∧ bs.length ≤ 603 ∧ (∀ y ∈ bs, 0 ≤ y), ?_, ?_⟩
    · refine ⟨p, l, sz, es, xs, rfl, c1.feed, c1.shown, lp, c1.ents, h200, fun e he => (ok.ok e he).2, so, fun H2 q bs nq hq b1 b2 b0 hf2 f2 => ?_⟩
      exact ⟨q, bs, rfl, c1.frm f2 hf2, f1.trans f2, hq, (c1.feed.ne' nq).symm, b1, b2, b0⟩
    clear c1 f1
    rintro σ H2 ⟨bl0, bs0, rfl, c2, f2, hb2, blp, b1, b2, b0⟩
    -- some of them
    refine ⟨fun σ H' => ∃ v8 bl, ∃ bs : List Int, σ = [some (.ref p), some (.str kd), some (.int sz), some (.ref a), some (.ref l), some (.int most), some (.ref b), some (.ref bl), v8, none, none, none, none] ∧ CS (kdC cL cX kd) p a l b sz ns es xs H' ∧ Frm [p] H H' ∧ H' bl = some (.lst (bs.map V.int)) ∧ (∀ y ∈ bs, 0 ≤ y), ?_, ?_⟩
    · refine ⟨_, _, rfl, .inl ⟨_, SqL.of hb2, rfl⟩, ?_⟩
      rw [List.length_map]
      refine ifD (p := most < (bs0.length : Int)) (fun _ => ?_) (fun _ => ⟨_, bl0, bs0, rfl, c2, f2, hb2, b0⟩)
      refine ⟨_, rfl, by omega, by omega, fun d hd => lc_range (lo := 0) (n := most.toNat) (fun i H' => ∃ cs : List Int, H' d = some (.lst (cs.map V.int)) ∧ cs.length = i ∧ (∀ y ∈ cs, 0 ≤ y) ∧ FeedAt H' p ∧ Frm [p] H2 H') ⟨[], upd_same, rfl, (fun _ h => nomatch h), c2.feed.keep (Ext.upd hd), Frm.ext (Ext.upd hd)⟩ ?_ ?_⟩
      · rintro i H3 hi ⟨cs, h3, hcl, c0, hf3, f3⟩
        refine ⟨rfl, goY (ifT (by rfl) ?_)⟩
        have hb3 := f3 _ _ hb2 (by simpa using blp)
        have pd : p ≠ d := c2.feed.ne' hd
        refine ⟨_, _, rfl, .inl ⟨_, SqL.of hb3, rfl⟩, ?_⟩
        rw [List.length_map]
        refine ⟨p, _, rfl, hf3, by omega, s1000 (by omega), fun r o r0 r1 fo => ?_⟩
        have hk : r.toNat < bs0.length := by omega
        refine ⟨_, .int bs0[r.toNat], .inl (SqL.of (by rw [upd_ne blp]; exact hb3)), atI_at r0 (by rw [List.getElem?_map, List.getElem?_eq_getElem hk]; rfl), ?_⟩
        refine ⟨cs.map V.int, by rw [upd_ne pd.symm]; exact h3, by rw [List.length_map]; exact Nat.lt_of_le_of_lt (show cs.length ≤ 1000 by omega) (by decide), cs ++ [bs0[r.toNat]], ?_, ?_, ?_, ?_, (f3.upd mem1).new' hd⟩
        · rw [upd_same, List.map_append]; rfl
        · rw [List.length_append, hcl]; rfl
        · intro y hy
          rcases List.mem_append.mp hy with hy | hy
          · exact c0 y hy
          · rw [List.mem_singleton.mp hy]; exact b0 _ (List.getElem_mem _)
        · exact ⟨o, by rw [upd_ne pd]; exact upd_same, fo⟩
      · rintro H3 ⟨cs, h3, hcl, c0, hf3, f3⟩
        exact ⟨_, d, cs, rfl, c2.frm f3 hf3, f2.trans f3, h3, c0⟩
    clear c2 f2 hb2 blp b1 b2 b0
    rintro σ H3 ⟨v8, bl, bs, rfl, c3, f3, hb3, b0⟩
    -- each block, each name
    refine ⟨fun σ H' => ∃ v9 v10 v11 v12, σ = [some (.ref p), some (.str kd), some (.int sz), some (.ref a), some (.ref l), some (.int most), some (.ref b), some (.ref bl), v8, v9, v10, v11, v12] ∧ Ext H3 H', ?_, ?_⟩
    · refine ⟨bl, rfl, ⟨_, SqL.of hb3⟩, for_list (K := K) (a := bl) (xs := bs.map V.int) (fun i σ H' => ∃ v9 v10 v11 v12, σ = [some (.ref p), some (.str kd), some (.int sz), some (.ref a), some (.ref l), some (.int most), some (.ref b), some (.ref bl), v8, v9, v10, v11, v12] ∧ Ext H3 H') ⟨none, none, none, none, rfl, fun _ _ h => h⟩ ?_ ?_ ?_⟩
      · rintro i σ H' _ ⟨_, _, _, _, rfl, x⟩; exact SqL.of (x _ _ hb3)
      · rintro i y σ H4 hy ⟨v9, v10, v11, v12, rfl, x4⟩
        obtain ⟨far, hfar, rfl⟩ := map_at hy
        have far0 := b0 far (List.mem_of_getElem? hfar)
        refine ⟨a, rfl, ⟨_, SqL.of (x4 _ _ c3.crew)⟩, for_list (K := K) (a := a) (xs := ns.map V.str) (fun i σ H' => ∃ v10 v11 v12, σ = [some (.ref p), some (.str kd), some (.int sz), some (.ref a), some (.ref l), some (.int most), some (.ref b), some (.ref bl), v8, some (.int far), v10, v11, v12] ∧ Ext H3 H') ⟨_, _, _, rfl, x4⟩ ?_ ?_ ?_⟩
        · rintro i σ H' _ ⟨_, _, _, rfl, x⟩; exact SqL.of (x _ _ c3.crew)
        · clear x4 v10 v11 v12
          rintro j y σ H4 hy ⟨v10, v11, v12, rfl, x4⟩
          obtain ⟨z, hz, rfl⟩ := map_at hy
          have zn := List.mem_of_getElem? hz
          refine ⟨fun σ H' => ∃ v11, σ = [some (.ref p), some (.str kd), some (.int sz), some (.ref a), some (.ref l), some (.int most), some (.ref b), some (.ref bl), v8, some (.int far), some (.str z), some v11, v12] ∧ WinV H' (win sz es z far) v11 ∧ Ext H3 H', ?_, ?_⟩
          · refine ⟨l, sz, z, far, es, xs, rfl, x4 _ _ c3.shown, c3.ents.mono x4, h200, so, fun H5 v x5 wv => ?_⟩
            exact ⟨v, rfl, wv, x4.trans x5⟩
          clear x4
          rintro σ H4 ⟨due, rfl, wd, x4⟩
          refine ⟨fun σ H' => ∃ t v w, σ = [some (.ref p), some (.str kd), some (.int sz), some (.ref a), some (.ref l), some (.int most), some (.ref b), some (.ref bl), v8, some (.int far), some (.str z), some due, some (.ref t)] ∧ H' t = some (.lst [v, w]) ∧ WinV H' (win sz es z far) v ∧ WinV H' (win sz es z far) w ∧ WinV H' (win sz es z far) due ∧ Ext H3 H', ?_, ?_⟩
          · refine ⟨b, _, kn, sz, ns, es, z, far, rfl, c3.book.mono x4, M, so, cr, ok, zn, far0, fun H5 v x5 wv => ?_⟩
            refine ⟨rfl, b, _, kn, sz, ns, es, z, far, rfl, c3.book.mono (x4.trans x5), M, so, cr, ok, zn, far0, fun H6 u x6 wu => ?_⟩
            refine ⟨(by show 2 ≤ sizeLine; decide), fun t nt => ?_⟩
            have x7 := Ext.upd (o := .lst [v, u]) nt
            exact ⟨t, v, u, rfl, upd_same, wv.mono (x6.trans x7), wu.mono x7, wd.mono ((x5.trans x6).trans x7), ((x4.trans x5).trans x6).trans x7⟩
          clear x4 wd
          rintro σ H4 ⟨t, v, u, rfl, ht, wv, wu, wd, x4⟩
          dsimp only [gName, tIfS, mT, tOp, tCB, tLst, tCons, tNil, mV, List.set]
          refine rep_of (d := .list [encW (win sz es z far), encW (win sz es z far)]) (.lst (SqL.of ht) (.cons (dp_W wv) (.cons (dp_W wu) .nil))) (sm_W2 h200) rfl (by decide) (by decide) ?_
          refine ⟨(by show 2 ≤ sizeLine; decide), fun t2 n2 => ?_⟩
          have x5 := Ext.upd (o := .lst [due, due]) n2
          have wd5 := wd.mono x5
          refine rep_of (d := .list [encW (win sz es z far), encW (win sz es z far)]) (.lst (SqL.of upd_same) (.cons (dp_W wd5) (.cons (dp_W wd5) .nil))) (sm_W2 h200) rfl (by decide) (by decide) ?_
          refine ifND (p := _ = _) (fun h => absurd rfl h) (fun _ => ?_)
          exact ⟨_, _, _, rfl, x4.trans x5⟩
        · rintro σ H' ⟨v10, v11, v12, rfl, x⟩
          exact ⟨_, _, _, _, rfl, x⟩
      · rintro σ H' ⟨v9, v10, v11, v12, rfl, x⟩
        exact ⟨_, _, _, _, rfl, x⟩
    rintro σ H4 ⟨v9, v10, v11, v12, rfl, x4⟩
    have c4 := c3.ext x4
    have f4 := f3.trans (Frm.ext x4)
    clear c3 f3 hb3 x4
    have nmE : ∀ e ∈ es, nameB e.1 = true := fun e he => cr.nam _ (ok.ok e he).1
    obtain ⟨dx, _, _, _, hb, _⟩ := id c4.book
    refine ⟨b, dx, _, rfl, hb, b, sz, ns, es, rfl, c4.book, fun l1 ys n1 el1 => ?_⟩
    have y1 := Ext.upd (o := .lst ys) n1
    refine ⟨_, _, dp_L (SqL.of upd_same) (el1.mono y1), dp_L (SqL.of (y1 _ _ c4.shown)) (c4.ents.mono y1), shaped_L nmE, shaped_L nmE, ?_⟩
    rw [eqv_L, decide_eq_true rfl]
    refine ⟨_, rfl, ifT (by rfl) ?_⟩
    have c5 := c4.ext y1
    have hb5 := y1 _ _ hb
    have f5 := f4.trans (Frm.ext y1)
    generalize upd H4 l1 (.lst ys) = H5 at c5 hb5 f5 ⊢
    refine ⟨b, dx, _, rfl, hb5, b, sz, ns, es, rfl, c5.book, fun l2 n2 => ?_⟩
    have y2 := Ext.upd (o := .lst (ns.map V.str)) n2
    refine ⟨_, _, dp_S (SqL.of upd_same), dp_S (SqL.of (y2 _ _ c5.crew)), shaped_S cr.nam, shaped_S cr.nam, ?_⟩
    rw [eqv_S, decide_eq_true rfl]
    exact k _ (c5.feed.keep y2) (f5.trans (Frm.ext y2))
end
end NB

set_option Elab.async false
set_option linter.all false
set_option maxRecDepth 100000
set_option maxHeartbeats 8000000
/-! K6 (k05): the law of windows -/
namespace NB
open PySem PySem.Spec L2
open PyProof.Rows (envOfC)
open C8 (pe_c pe_mk pe_mt pe_mt0 pe_gc fnScope fnBody fnArgs fnScope_by Cal Met Mak)
/-- a def that may be called by keywords, too -/
structure Dk (K : PySem.W.Frag) (mg : Str → Option Value) (x : Str) (st : Stmt) (ps : List Str) : Prop where
  ex : ∃ f fd, C8.Def K mg x st f fd ∧ Binds K fd ps [] ∧ fd.defaults = .none
/-- where the methods of Facts stand -/
structure AdF where
  (fI fW : Addr)
  (dI dW : FuncData)
/-- what the law is read over -/
structure Tops (K : PySem.W.Frag) (mg : Str → Option Value) (cL cX cF : Addr) (A0 : Ads) (B : AdF) : Prop where
  T : Tx K mg cL cX
  n_any : mg "any" = none
  n_enumerate : mg "enumerate" = none
  n_sorted : mg "sorted" = none
  ML : LogM K cL "steady" A0
  MX : LogM K cX "losing" A0
  Ms : Ms K A0
  LF : FactM K cF B.fW
  mkF : Mk K cF B.fI
  xFI : Mx K "__init__" "Facts.__init__" s_Facts___init__ ["self", "size", "servers", "entries"] B.fI B.dI
  xW : Mx K "window_of" "Facts.window_of" s_Facts_window_of ["self", "server", "block"] B.fW B.dW
  mgL : mg "Log" = some (.ref cL)
  mgX : mg "LosingLog" = some (.ref cX)
  mgF : mg "Facts" = some (.ref cF)
  d_is_integer : Dx K mg "is_integer" s_is_integer ["thing"]
  d_is_size : Dx K mg "is_size" s_is_size ["thing"]
  d_is_name : Dx K mg "is_name" s_is_name ["thing"]
  d_are_servers : Dx K mg "are_servers" s_are_servers ["thing"]
  d_is_server : Dx K mg "is_server" s_is_server ["servers", "thing"]
  d_is_entry : Dx K mg "is_entry" s_is_entry ["servers", "thing"]
  d_are_entries : Dx K mg "are_entries" s_are_entries ["servers", "thing"]
  d_need_server : Dx K mg "need_server" s_need_server ["servers", "thing"]
  d_facts_of : Dx K mg "facts_of" s_facts_of ["log"]
  d_window : Dk K mg "window" s_window ["log", "server", "block"]
  d_law_feed : Dx K mg "_law_feed" s__law_feed ["script", "k"]
  d_law_pick : Dx K mg "_law_pick" s__law_pick ["feed", "many"]
  d_law_crew : Dx K mg "_law_crew" s__law_crew ["feed", "most"]
  d_law_entries : Dx K mg "_law_entries" s__law_entries ["feed", "crew", "most", "limit"]
  d_law_made : Dx K mg "_law_made" s__law_made ["kind", "unit", "crew", "shown"]
  d_law_story : Dx K mg "_law_story" s__law_story ["feed", "unit", "crew", "most", "far"]
  d_law_window : Dx K mg "_law_window" s__law_window ["shown", "unit", "name", "wanted"]
  d_law_blocks : Dx K mg "_law_blocks" s__law_blocks ["feed", "shown", "unit"]
  d_law_right : Dx K mg "_law_right" s__law_right ["feed", "kind", "unit", "crew", "shown", "most"]
section
variable {P : Program} {w : World} {K : PySem.W.Frag} {mg : Str → Option Value} {base : Heap} {cL cX cF : Addr} {A0 : Ads} {B : AdF}
theorem Tops.Tk (S : Tops K mg cL cX cF A0 B) : Tb mg := { S.T.toBlt with n_any := S.n_any, n_enumerate := S.n_enumerate }
theorem Tops.integer (S : Tops K mg cL cX cF A0 B) : Cal P w K mg base 1 "is_integer" (spInteger K) [] := ok_is_integer S.T S.d_is_integer
theorem Tops.server (S : Tops K mg cL cX cF A0 B) : Cal P w K mg base 1 "is_server" (spServer K) [] := ok_is_server S.T S.d_is_server
theorem Tops.size (S : Tops K mg cL cX cF A0 B) : Cal P w K mg base 2 "is_size" spSizeB [] := ok_is_size S.T S.d_is_size S.integer
theorem Tops.servers (S : Tops K mg cL cX cF A0 B) : Cal P w K mg base 2 "are_servers" spCrew [] := ok_are_servers S.T S.d_are_servers (ok_is_name S.T S.d_is_name)
theorem Tops.entry (S : Tops K mg cL cX cF A0 B) : Cal P w K mg base 2 "is_entry" (spEntry K) [] := ok_is_entry S.T S.d_is_entry S.server S.integer
theorem Tops.entries (S : Tops K mg cL cX cF A0 B) : Cal P w K mg base 3 "are_entries" spEntries [] := ok_are_entries S.T S.d_are_entries S.entry
theorem Tops.initL (S : Tops K mg cL cX cF A0 B) : FnOk P w K mg base C8.CX0 4 A0.fI A0.dI ["self", "size", "servers", "entries"] (spInit cL) := ok_init S.T S.ML.toLogC S.Ms.mI S.size S.servers S.entries
theorem Tops.initX (S : Tops K mg cL cX cF A0 B) : FnOk P w K mg base C8.CX0 4 A0.fI A0.dI ["self", "size", "servers", "entries"] (spInit cX) := ok_init S.T S.MX.toLogC S.Ms.mI S.size S.servers S.entries
theorem Tops.makL (S : Tops K mg cL cX cF A0 B) : Mak P w K mg base 4 "Log" cL (spInit cL) [] := ⟨_, _, _, _, S.ML.mkk, S.initL, S.mgL, S.Ms.mI.b, .nil⟩
theorem Tops.makX (S : Tops K mg cL cX cF A0 B) : Mak P w K mg base 4 "LosingLog" cX (spInit cX) [] := ⟨_, _, _, _, S.MX.mkk, S.initX, S.mgX, S.Ms.mI.b, .nil⟩
theorem Tops.makF (S : Tops K mg cL cX cF A0 B) : Mak P w K mg base 1 "Facts" cF (spFactsI cF) [] := ⟨_, _, _, _, S.mkF, ok_facts S.Tk S.LF.toFactC S.xFI, S.mgF, S.xFI.b, .nil⟩
theorem Tops.win_ (S : Tops K mg cL cX cF A0 B) {f : Addr} {fd : FuncData} (F : C8.Fun K "window" "window" s_window f fd) : FnOk P w K mg base C8.CX0 4 f fd ["log", "server", "block"] (spWin K A0) :=
  ok_window S.T S.Ms S.LF (ok_winOf S.Tk S.LF.toFactC S.xW) S.xW.b (ok_need S.d_need_server S.server) (ok_factsOf S.T S.Ms S.d_facts_of S.makF) F
theorem Tops.win (S : Tops K mg cL cX cF A0 B) : Cal P w K mg base 4 "window" (spWin K A0) [] := by
  obtain ⟨f, fd, F, b, df⟩ := S.d_window.ex
  exact ⟨f, fd, _, [], S.win_ F.fn, F.mgf, F.kp, b, .nil⟩
theorem Tops.winK (S : Tops K mg cL cX cF A0 B) : CalK P w K mg base 4 "window" (spWin K A0) ["block", "server", "log"] gWin := by
  obtain ⟨f, fd, F, b, df⟩ := S.d_window.ex
  exact ⟨f, fd, _, _, S.win_ F.fn, F.mgf, F.kp, kb_window F.fn df⟩
theorem Tops.log (S : Tops K mg cL cX cF A0 B) (kd : Str) : ∃ kn, LogM K (kdC cL cX kd) kn A0 := by
  by_cases e : kd = "losing"
  · rw [show kdC cL cX kd = cX from if_pos e]; exact ⟨_, S.MX⟩
  · rw [show kdC cL cX kd = cL from if_neg e]; exact ⟨_, S.ML⟩
theorem Tops.pick (S : Tops K mg cL cX cF A0 B) : Cal P w K mg base 1 "_law_pick" spPick [] := ok_pick S.T.toBlt S.d_law_pick
theorem Tops.right (S : Tops K mg cL cX cF A0 B) : CalG P w K mg base 8 "_law_right" spRight :=
  ok_right S.T S.Ms S.log S.d_law_right S.pick (ok_made S.T.toBlt S.d_law_made S.makL S.makX) (ok_blocks S.Tk S.n_sorted S.d_law_blocks S.pick) (ok_lwin S.Tk S.d_law_window) S.win S.winK
abbrev ES : List (Str × Int) := [("a", 0), ("b", 4), ("a", 1), ("a", 2)]
abbrev PR : List (Str × Int) := [("a", 0), ("a", 1), ("a", 2), ("b", 2), ("b", 3)]
abbrev WD : List (Option (Int × Int)) := [some (0, 0), some (3, 3), none, some (0, 1), some (2, 4)]
theorem PR_win : PR.map (fun e => win 2 ES e.1 e.2) = WD := by decide +kernel
theorem PR_ok : ∀ e ∈ PR, e.1 ∈ (["a", "b"] : List Str) ∧ 0 ≤ e.2 := by decide +kernel
theorem ES_ok : EntsOk ["a", "b"] ES := ⟨by decide, by decide +kernel⟩
theorem AB_crew : CrewOk ["a", "b"] := ⟨by decide, by decide, by decide +kernel, by decide +kernel⟩
theorem dp_Ws {K : PySem.W.Frag} {H : Hp} : ∀ {os : List (Option (Int × Int))} {vs : List V}, Paired (WinV H) os vs → DpAll K H vs (os.map encW)
  | _, _, .nil => .nil
  | _, _, .cons r q => .cons (dp_W r) (dp_Ws q)
theorem WD_shaped : SeqAt.shaped (.list (WD.map encW)) = true := by decide +kernel
theorem WD_eqv : PyData.eqv (.list (WD.map encW)) (.list (WD.map encW)) = true := by decide +kernel
theorem init_R {H : Hp} {x dx C a l : Addr} {sz : Int} {ns : List Str} {es : List (Str × Int)} {xs : List V} {R : Hp → Prop} {E : XK} (nx : H x = none) (nd : H dx = none) (ne : dx ≠ x) (so : SizeOk sz) (ha : H a = some (.lst (ns.map V.str))) (cr : CrewOk ns)
    (hl : H l = some (.lst xs)) (el : EntL H es xs) (ok : EntsOk ns es) (k : ∀ H', LogAt C H' x sz ns es → Ext H H' → R H') :
    spInit C [.ref x, .int sz, .ref a, .ref l] (upd (upd H dx (.own x)) x (.ins C dx [])) (fun v H2 => v = .non ∧ R H2) E := by
  have x0 : Ext H (upd (upd H dx (.own x)) x (.ins C dx [])) := fun b o e => by
    rw [upd_ne (ne_of_none e nx), upd_ne (ne_of_none e nd)]; exact e
  refine ⟨x, dx, sz, a, ns, l, es, xs, rfl, upd_same, by rw [upd_ne ne]; exact upd_same, so, x0 _ _ ha, cr, x0 _ _ hl, el.mono x0, ok, fun H' ls le h1 h2 g1 g2 g3 fr => ⟨rfl, ?_⟩⟩
  have x1 : Ext H H' := fun b o e => fr _ _ (x0 _ _ e) fun z => ne_of_none e nx (List.mem_singleton.mp z)
  exact k H' ⟨dx, ls, le, xs, g1, g2, g3, el.mono x1⟩ x1
/-- what stands between two draws -/
structure DS (p ca l : Addr) (ns : List Str) (es : List (Str × Int)) (xs : List V) (H : Hp) : Prop where
  crew : H ca = some (.lst (ns.map V.str))
  shown : H l = some (.lst xs)
  ents : EntL H es xs
def spLaw (K : PySem.W.Frag) : Sp := fun vs H Q _ => ∃ (a : Addr) (ns : List Int), vs = [.ref a] ∧ SqL K H a (ns.map V.int) ∧ ns.length ≤ 63 ∧ ∀ H', Q (.bl true) H'
theorem ok_law (S : Tops K mg cL cX cF A0 B) {f : Addr} {fd : FuncData} (F : C8.Fun K "law" "law" s_law f fd) : FnG P w K mg base 9 f fd ["script"] (spLaw K) := by
  refine fnG_of F sc_law (fun vs H Q E h => ?_) (fun cdv A o s H vs Q E hr hgd h => ?_)
  · obtain ⟨a, ns, rfl, _⟩ := h; rfl
  · obtain ⟨a, ns, rfl, hS, hn, k⟩ := h
    have T := S.T
    have c__law_pick : Cal P w K mg base 1 "_law_pick" spPick [] := S.pick
    have c__law_feed : Cal P w K mg base 1 "_law_feed" (spFeed K) [] := ok_feed T.toBlt S.d_law_feed
    have c__law_crew : Cal P w K mg base 2 "_law_crew" spCrewL [] := ok_crew T.toBlt S.d_law_crew S.pick
    have c__law_entries : Cal P w K mg base 2 "_law_entries" spEntsL [] := ok_ents T.toBlt S.d_law_entries S.pick
    have c__law_story : Cal P w K mg base 2 "_law_story" spStory [] := ok_story S.Tk S.d_law_story S.pick
    have c__law_right : CalG P w K mg base 8 "_law_right" spRight := S.right
    have c_Log : Mak P w K mg base 4 "Log" cL (spInit cL) [] := S.makL
    have c_window : Cal P w K mg base 4 "window" (spWin K A0) [] := S.win
    refine ⟨_, (C8.pss_cut (ps_for PassesOwn.never rfl (pi_range1 (by rfl) T.n_range (pa_cons (pe_callB (call_max2 rfl) (by rfl) T.n_max (by decide +kernel) (pa_cons pe_int (pa_cons (pe_callB (call_min2 rfl) (by rfl) T.n_min (by decide +kernel) (pa_cons pe_int (pa_cons (pe_callB call_len (by rfl) T.n_len (by decide +kernel) (pa_cons (mv 0) pa_nil)) pa_nil))) pa_nil))) pa_nil)) (pg_name (i := 1) sc_law.nd rfl (Or.inl rfl))
    (C8.pss_cut (ps_set (i := 2) sc_law.nd rfl (Or.inl rfl) (pe_c c__law_feed hr (by decide) rfl (pa_cons (mv 0) (pa_cons (mv 1) pa_nil))))
    (C8.pss_cut (ps_if (qt m_eq (mv 1) pe_int (nomark _)) (pss_cons (ps_par (i := 3) (j := 4) rfl sc_law.nd rfl rfl (by decide) rfl rfl (pa_cons (pe_op m_add pe_int (pe_c c__law_pick hr (by decide) rfl (pa_cons (mv 2) (pa_cons pe_int pa_nil)))) (pa_cons (pe_c c__law_crew hr (by decide) rfl (pa_cons (mv 2) (pa_cons pe_int pa_nil))) pa_nil)) (by rfl))
    (pss_one (ps_if (pt_not (qv (pe_g c__law_right hr (by decide) (gd_deeper hgd) rfl (pa_cons (mv 2) (pa_cons pe_str (pa_cons (mv 3) (pa_cons (mv 4) (pa_cons (pe_ix m_ix (pe_c c__law_story hr (by decide) rfl (pa_cons (mv 2) (pa_cons (mv 3) (pa_cons (mv 4) (pa_cons pe_int (pa_cons (pe_op m_pow pe_int pe_int) pa_nil)))))) pe_int (fun _ _ => rfl)) (pa_cons pe_int pa_nil))))))))) (pss_one (ps_ret pe_bl)) pss_nil))) pss_nil)
    (pss_one (ps_for PassesOwn.never rfl (pi_range1 (by rfl) T.n_range (pa_cons pe_int pa_nil)) (pg_name (i := 5) sc_law.nd rfl (Or.inl rfl))
    (C8.pss_cut (ps_set (i := 3) sc_law.nd rfl (Or.inl rfl) (pe_ix m_ix (pe_lst (pa_cons (pe_op m_add pe_int (pe_c c__law_pick hr (by decide) rfl (pa_cons (mv 2) (pa_cons pe_int pa_nil)))) (pa_cons (pe_op m_pow pe_int pe_int) pa_nil))) (pe_c c__law_pick hr (by decide) rfl (pa_cons (mv 2) (pa_cons pe_int pa_nil))) (fun _ _ => rfl)))
    (C8.pss_cut (ps_set (i := 4) sc_law.nd rfl (Or.inl rfl) (pe_c c__law_crew hr (by decide) rfl (pa_cons (mv 2) (pa_cons (pe_ix m_ix (pe_lst (pa_cons pe_int (pa_cons pe_int pa_nil))) (pe_callTy call_int1 (by rfl) T.n_int (by decide +kernel) (pa_cons (pe_cmpR m_eq (mv 5) pe_int (nomark _)) pa_nil)) (fun _ _ => rfl)) pa_nil))))
    (C8.pss_cut (ps_set (i := 6) sc_law.nd rfl (Or.inl rfl) (pe_c c__law_entries hr (by decide) rfl (pa_cons (mv 2) (pa_cons (mv 4) (pa_cons (pe_ix m_ix (pe_lst (pa_cons pe_int (pa_cons pe_int pa_nil))) (pe_c c__law_pick hr (by decide) rfl (pa_cons (mv 2) (pa_cons pe_int pa_nil))) (fun _ _ => rfl)) (pa_cons (pe_ix m_ix (pe_lst (pa_cons pe_int (pa_cons (pe_op m_mul pe_int (mv 3)) pa_nil))) (pe_c c__law_pick hr (by decide) rfl (pa_cons (mv 2) (pa_cons pe_int pa_nil))) (fun _ _ => rfl)) pa_nil))))))
    (C8.pss_cut (ps_if (qt m_gt (mv 5) pe_int (nomark _)) (pss_one (ps_set (i := 6) sc_law.nd rfl (Or.inl rfl) (pe_ix m_ix (pe_c c__law_story hr (by decide) rfl (pa_cons (mv 2) (pa_cons (mv 3) (pa_cons (mv 4) (pa_cons (pe_ix m_ix (pe_lst (pa_cons pe_int (pa_cons pe_int pa_nil))) (pe_callTy call_int1 (by rfl) T.n_int (by decide +kernel) (pa_cons (pe_cmpR m_eq (mv 5) pe_int (nomark _)) pa_nil)) (fun _ _ => rfl)) (pa_cons (pe_op m_pow pe_int pe_int) pa_nil)))))) pe_int (fun _ _ => rfl)))) pss_nil)
    (pss_one (ps_if (pt_not (qv (pe_g c__law_right hr (by decide) (gd_deeper hgd) rfl (pa_cons (mv 2) (pa_cons (pe_ix m_ix (pe_lst (pa_cons pe_str (pa_cons pe_str pa_nil))) (pe_c c__law_pick hr (by decide) rfl (pa_cons (mv 2) (pa_cons pe_int pa_nil))) (fun _ _ => rfl)) (pa_cons (mv 3) (pa_cons (mv 4) (pa_cons (mv 6) (pa_cons (pe_ix m_ix (pe_lst (pa_cons pe_int (pa_cons pe_int pa_nil))) (pe_callTy call_int1 (by rfl) T.n_int (by decide +kernel) (pa_cons (pe_cmpR m_gt (mv 1) pe_int (nomark _)) pa_nil)) (fun _ _ => rfl)) pa_nil))))))))) (pss_one (ps_ret pe_bl)) pss_nil)))))))))))
    (C8.pss_cut (ps_set (i := 7) sc_law.nd rfl (Or.inr rfl) (pe_mk c_Log hr (by decide) rfl (pa_cons pe_int (pa_cons (pe_lst (pa_cons pe_str (pa_cons pe_str pa_nil))) (pa_cons (pe_lst (pa_cons (pe_tup (pa_cons pe_str (pa_cons pe_int pa_nil))) (pa_cons (pe_tup (pa_cons pe_str (pa_cons pe_int pa_nil))) (pa_cons (pe_tup (pa_cons pe_str (pa_cons pe_int pa_nil))) (pa_cons (pe_tup (pa_cons pe_str (pa_cons pe_int pa_nil))) pa_nil))))) pa_nil)))))
    (pss_cons (ps_setLc (i := 8) (own := [("name", 9), ("far", 10)]) (g := gTup K 2 (gCons (gName 9) (gCons (gName 10) gNil))) (tt := tYes) rfl sc_law.nd rfl rfl (sw_true rfl rfl rfl (by decide +kernel)) (pi_list (pe_lst (pa_cons (pe_tup (pa_cons pe_str (pa_cons pe_int pa_nil))) (pa_cons (pe_tup (pa_cons pe_str (pa_cons pe_int pa_nil))) (pa_cons (pe_tup (pa_cons pe_str (pa_cons pe_int pa_nil))) (pa_cons (pe_tup (pa_cons pe_str (pa_cons pe_int pa_nil))) (pa_cons (pe_tup (pa_cons pe_str (pa_cons pe_int pa_nil))) pa_nil))))))) (blkOk_by (own := [("name", 9), ("far", 10)]) (N := ["script", "k", "feed", "unit", "crew", "turn", "shown", "book", "told", "name", "far"]) (sc := fnScope s_law) (by decide +kernel)) (fun _ _ _ _ _ => (pg_tup rfl (pgs_cons (pg_name (i := 9) sc_law.nd rfl (Or.inl rfl)) (pgs_cons (pg_name (i := 10) sc_law.nd rfl (Or.inl rfl)) pgs_nil)))) (fun _ _ _ _ _ => pts_nil) (fun _ _ _ _ _ => (pe_c c_window hr (by decide) rfl (pa_cons (mv 7) (pa_cons (mv 9) (pa_cons (mv 10) pa_nil))))))
    (pss_one (ps_ret (pe_cmpR (op_eqD hr.units) (mv 8) (pe_lst (pa_cons (pe_tup (pa_cons pe_int (pa_cons pe_int pa_nil))) (pa_cons (pe_tup (pa_cons pe_int (pa_cons pe_int pa_nil))) (pa_cons pe_non (pa_cons (pe_tup (pa_cons pe_int (pa_cons pe_int pa_nil))) (pa_cons (pe_tup (pa_cons pe_int (pa_cons pe_int pa_nil))) pa_nil)))))) (nomark _))))))), ?_⟩
    have np2 : ∀ {p : Addr} {G G' : Hp}, H p = none → Ext H G → Frm [p] G G' → Ext H G' := fun n x f c u h => f c u (x c u h) fun z => ne_of_none h n (List.mem_singleton.mp z)
    have s1000 : ∀ {i : Int}, i ≤ 1000 → i < 2 ^ 1000 := fun {i} h => Int.lt_of_le_of_lt h (by decide +kernel)
    have s60 : ∀ {i : Int}, i ≤ 10 ^ 60 → i < 2 ^ 1000 := fun {i} h => Int.lt_of_le_of_lt h (by decide +kernel)
    refine ⟨fun σ H' => ∃ v1 v2 v3 v4 v5 v6, σ = [some (.ref a), v1, v2, v3, v4, v5, v6, none, none, none, none] ∧ Ext H H', ?_, ?_⟩
    · refine ⟨_, _, rfl, .inl ⟨_, hS, rfl⟩, _, _, rfl, _, _, rfl, ?_⟩
      rw [List.length_map]
      have hb : 0 ≤ (if (if (ns.length : Int) < 4 then (ns.length : Int) else 4) > 1 then (if (ns.length : Int) < 4 then (ns.length : Int) else 4) else 1) ∧ (if (if (ns.length : Int) < 4 then (ns.length : Int) else 4) > 1 then (if (ns.length : Int) < 4 then (ns.length : Int) else 4) else 1) ≤ 4 := by
        split <;> split <;> omega
      generalize (if (if (ns.length : Int) < 4 then (ns.length : Int) else 4) > 1 then (if (ns.length : Int) < 4 then (ns.length : Int) else 4) else 1) = N at hb ⊢
      refine ⟨_, rfl, by omega, by omega, for_range (lo := 0) (n := N.toNat) (fun i σ H' => ∃ v1 v2 v3 v4 v5 v6, σ = [some (.ref a), v1, v2, v3, v4, v5, v6, none, none, none, none] ∧ Ext H H') ⟨none, none, none, none, none, none, rfl, fun _ _ z => z⟩ ?_ ?_⟩
      · rintro i σ H1 hi ⟨v1, v2, v3, v4, v5, v6, rfl, x1⟩
        refine ⟨fun σ H' => ∃ p, σ = [some (.ref a), some (.int (0 + i)), some (.ref p), v3, v4, v5, v6, none, none, none, none] ∧ Ext H H' ∧ H p = none ∧ FeedAt H' p, ?_, ?_⟩
        · refine ⟨a, ns, _, rfl, SqL.ext hS x1, by omega, by omega, hn, fun p o np fo => ?_⟩
          exact ⟨p, rfl, x1.trans (Ext.upd np), Ext.free x1 np, FeedAt.put fo⟩
        clear x1
        rintro σ H2 ⟨p, rfl, x2, np, hf2⟩
        -- a long log
        refine ⟨fun σ H' => ∃ v3 v4, σ = [some (.ref a), some (.int (0 + i)), some (.ref p), v3, v4, v5, v6, none, none, none, none] ∧ Ext H H' ∧ FeedAt H' p, ?_, ?_⟩
        · refine ifD (p := (0 + (i : Int)) = 0) (fun _ => ?_) (fun _ => ⟨_, _, rfl, x2, hf2⟩)
          refine ⟨p, 9, rfl, hf2, by decide, s1000 (by decide), fun r1 o1 a1 a2 fo1 => ?_⟩
          have x3 := np2 np x2 ((Frm.refl (M := [p])).upd (o := o1) mem1)
          have hf3 : FeedAt (upd H2 p o1) p := FeedAt.put fo1
          generalize upd H2 p o1 = H3 at x3 hf3 ⊢
          refine ⟨p, 3, rfl, hf3, by decide, by decide, fun H4 ca cn _ hca cr _ hf4 f4 => ?_⟩
          refine ⟨_, _, rfl, ?_⟩
          have x4 := np2 np x3 f4
          have so : SizeOk (1 + r1) := ⟨by omega, Int.le_trans (b := 10) (by omega) (by decide)⟩
          refine ⟨⟨by decide, by decide, by decide⟩, p, 1 + r1, ca, cn, 200, rfl, hf4, hca, cr, so, by decide, by decide, fun H5 q l lt es xs _ hq _ hl el ok _ hf5 f5 => ?_⟩
          refine ⟨_, .ref l, .inl (SqL.of hq), atI_nat (j := 0) rfl, ?_⟩
          obtain ⟨o4, hp4, fo4⟩ := hf4
          have hca5 := f5 _ _ hca (nin_feed hp4 hca fo4.ne_strs)
          refine ⟨p, "steady", 1 + r1, ca, l, cn, es, xs, 4, rfl, hf5, so, hca5, cr, hl, el, ok, by decide, by decide, fun H6 hf6 f6 => ifF (by rfl) ?_⟩
          exact ⟨_, _, rfl, np2 np (np2 np x4 f5) f6, hf6⟩
        clear x2 hf2 v3 v4
        rintro σ H3 ⟨v3, v4, rfl, x3, hf3⟩
        refine ⟨_, rfl, by omega, by omega, for_range (lo := 0) (n := 3) (fun j σ H' => ∃ v3 v4 v5 v6, σ = [some (.ref a), some (.int (0 + i)), some (.ref p), v3, v4, v5, v6, none, none, none, none] ∧ Ext H H' ∧ FeedAt H' p) ⟨_, _, _, _, rfl, x3, hf3⟩ ?_ ?_⟩
        · clear x3 hf3 v3 v4 v5 v6
          rintro j σ H3 hj ⟨v3, v4, v5, v6, rfl, x3, hf3⟩
          -- unit
          refine ⟨fun σ H' => ∃ sz, σ = [some (.ref a), some (.int (0 + i)), some (.ref p), some (.int sz), v4, some (.int (0 + j)), v6, none, none, none, none] ∧ SizeOk sz ∧ Ext H H' ∧ FeedAt H' p, ?_, ?_⟩
          · refine ⟨p, 4, rfl, hf3, by decide, s1000 (by decide), fun r1 o1 a1 a2 fo1 => ?_⟩
            have x4 := np2 np x3 ((Frm.refl (M := [p])).upd (o := o1) mem1)
            have hf4 : FeedAt (upd H3 p o1) p := FeedAt.put fo1
            generalize upd H3 p o1 = H4 at x4 hf4 ⊢
            refine ⟨⟨by decide, by decide, by decide⟩, (by show 2 ≤ sizeLine; decide), fun q0 hq0 => ?_⟩
            have w5 := Ext.upd (o := .lst [.int (1 + r1), .int ((10 : Int) ^ (30 : Int).toNat)]) hq0
            have d5 : (upd H4 q0 (.lst [.int (1 + r1), .int ((10 : Int) ^ (30 : Int).toNat)])) q0 = some (.lst [.int (1 + r1), .int ((10 : Int) ^ (30 : Int).toNat)]) := upd_same
            have x5 := x4.trans w5
            have pq := hf4.ne' hq0
            have hf5 := hf4.keep w5
            generalize upd H4 q0 (.lst [.int (1 + r1), .int ((10 : Int) ^ (30 : Int).toNat)]) = H5 at x5 hf5 d5 ⊢
            refine ⟨p, 2, rfl, hf5, by decide, s1000 (by decide), fun r3 o3 h0 h1 fo3 => ?_⟩
            obtain ⟨sz, so, at3⟩ : ∃ sz : Int, SizeOk sz ∧ atI [V.int (1 + r1), V.int ((10 : Int) ^ (30 : Int).toNat)] r3 = some (.int sz) := by
              have two : r3 = 0 ∨ r3 = 1 := by omega
              rcases two with e | e
              · exact ⟨1 + r1, ⟨by omega, Int.le_trans (b := 10) (by omega) (by decide)⟩, by rw [e]; rfl⟩
              · exact ⟨10 ^ 30, ⟨by decide, by decide⟩, by rw [e]; rfl⟩
            refine ⟨_, .int sz, .inl (SqL.of (by rw [upd_ne pq.symm]; exact d5)), at3, ?_⟩
            exact ⟨sz, rfl, so, np2 np x5 ((Frm.refl (M := [p])).upd (o := o3) mem1), FeedAt.put fo3⟩
          clear x3 hf3
          rintro σ H4 ⟨sz, rfl, so, x4, hf4⟩
          -- crew
          refine ⟨fun σ H' => ∃ ca cn, σ = [some (.ref a), some (.int (0 + i)), some (.ref p), some (.int sz), some (.ref ca), some (.int (0 + j)), v6, none, none, none, none] ∧ H' ca = some (.lst (cn.map V.str)) ∧ CrewOk cn ∧ Ext H H' ∧ FeedAt H' p, ?_, ?_⟩
          · refine ⟨(by show 2 ≤ sizeLine; decide), fun q0 hq0 => ?_⟩
            have w5 := Ext.upd (o := .lst [.int 5, .int 12]) hq0
            have d5 : (upd H4 q0 (.lst [.int 5, .int 12])) q0 = some (.lst [.int 5, .int 12]) := upd_same
            have x5 := x4.trans w5
            have hf5 := hf4.keep w5
            generalize upd H4 q0 (.lst [.int 5, .int 12]) = H5 at x5 hf5 d5 ⊢
            obtain ⟨most, m1, m2, at5⟩ : ∃ m : Int, 1 ≤ m ∧ m ≤ 12 ∧ atI [V.int 5, V.int 12] (if decide (0 + (j : Int) = 0) = true then 1 else 0) = some (.int m) := by
              split
              · exact ⟨12, by decide, by decide, rfl⟩
              · exact ⟨5, by decide, by decide, rfl⟩
            refine .inr ⟨_, rfl, _, _, .inl (SqL.of d5), at5, ?_⟩
            refine ⟨p, most, rfl, hf5, m1, m2, fun H6 ca cn _ hca cr _ hf6 f6 => ?_⟩
            exact ⟨ca, cn, rfl, hca, cr, np2 np x5 f6, hf6⟩
          clear x4 hf4
          rintro σ H5 ⟨ca, cn, rfl, hca, cr, x5, hf5⟩
          -- entries
          refine ⟨fun σ H' => ∃ l es xs, σ = [some (.ref a), some (.int (0 + i)), some (.ref p), some (.int sz), some (.ref ca), some (.int (0 + j)), some (.ref l), none, none, none, none] ∧ DS p ca l cn es xs H' ∧ EntsOk cn es ∧ Ext H H' ∧ FeedAt H' p, ?_, ?_⟩
          · have keepC : ∀ {G G' : Hp}, G ca = some (.lst (cn.map V.str)) → FeedAt G p → Frm [p] G G' → G' ca = some (.lst (cn.map V.str)) := fun {G G'} h hf fr => by
              obtain ⟨o4, hp4, fo4⟩ := hf
              exact fr _ _ h (nin_feed hp4 h fo4.ne_strs)
            refine ⟨(by show 2 ≤ sizeLine; decide), fun q0 hq0 => ?_⟩
            have w6 := Ext.upd (o := .lst [.int 40, .int 6]) hq0
            have d6 : (upd H5 q0 (.lst [.int 40, .int 6])) q0 = some (.lst [.int 40, .int 6]) := upd_same
            have x6 := x5.trans w6
            have pq := hf5.ne' hq0
            have hf6 := hf5.keep w6
            have c6 := w6 _ _ hca
            generalize upd H5 q0 (.lst [.int 40, .int 6]) = H6 at x6 hf6 d6 c6 ⊢
            refine ⟨p, 2, rfl, hf6, by decide, s1000 (by decide), fun r1 o1 a1 a2 fo1 => ?_⟩
            obtain ⟨most, m1, m2, at6⟩ : ∃ m : Int, 0 ≤ m ∧ m ≤ 200 ∧ atI [V.int 40, V.int 6] r1 = some (.int m) := by
              have two : r1 = 0 ∨ r1 = 1 := by omega
              rcases two with e | e
              · exact ⟨40, by decide, by decide, by rw [e]; rfl⟩
              · exact ⟨6, by decide, by decide, by rw [e]; rfl⟩
            refine ⟨_, .int most, .inl (SqL.of (by rw [upd_ne pq.symm]; exact d6)), at6, ?_⟩
            have f7 : Frm [p] H6 (upd H6 p o1) := (Frm.refl (M := [p])).upd mem1
            have x7 := np2 np x6 f7
            have c7 := keepC c6 hf6 f7
            have hf7 : FeedAt (upd H6 p o1) p := FeedAt.put fo1
            generalize upd H6 p o1 = H7 at x7 c7 hf7 ⊢
            refine ⟨mulL (by decide) (by decide), (by show 2 ≤ sizeLine; decide), fun q1 hq1 => ?_⟩
            have w8 := Ext.upd (o := .lst [.int 30, .int (9 * sz)]) hq1
            have d8 : (upd H7 q1 (.lst [.int 30, .int (9 * sz)])) q1 = some (.lst [.int 30, .int (9 * sz)]) := upd_same
            have x8 := x7.trans w8
            have pq1 := hf7.ne' hq1
            have hf8 := hf7.keep w8
            have c8 := w8 _ _ c7
            generalize upd H7 q1 (.lst [.int 30, .int (9 * sz)]) = H8 at x8 hf8 d8 c8 ⊢
            refine ⟨p, 2, rfl, hf8, by decide, s1000 (by decide), fun r2 o2 a3 a4 fo2 => ?_⟩
            obtain ⟨lim, l1, l2, at8⟩ : ∃ m : Int, 1 ≤ m ∧ m ≤ 10 ^ 60 ∧ atI [V.int 30, V.int (9 * sz)] r2 = some (.int m) := by
              have two : r2 = 0 ∨ r2 = 1 := by omega
              have s1 := so.1
              have s2 := so.2
              rcases two with e | e
              · exact ⟨30, by decide, by decide, by rw [e]; rfl⟩
              · exact ⟨9 * sz, by omega, by omega, by rw [e]; rfl⟩
            refine ⟨_, .int lim, .inl (SqL.of (by rw [upd_ne pq1.symm]; exact d8)), at8, ?_⟩
            have f9 : Frm [p] H8 (upd H8 p o2) := (Frm.refl (M := [p])).upd mem1
            have x9 := np2 np x8 f9
            have c9 := keepC c8 hf8 f9
            have hf9 : FeedAt (upd H8 p o2) p := FeedAt.put fo2
            generalize upd H8 p o2 = H9 at x9 c9 hf9 ⊢
            refine ⟨p, ca, cn, most, lim, rfl, hf9, c9, cr, m1, m2, l1, s60 l2, fun H10 l es xs _ hl el ok _ hf10 f10 => ?_⟩
            exact ⟨l, es, xs, rfl, ⟨keepC c9 hf9 f10, hl, el⟩, ok, np2 np x9 f10, hf10⟩
          clear x5 hf5 hca
          rintro σ H6 ⟨l, es, xs, rfl, ds, ok, x6, hf6⟩
          -- a drawn history
          refine ⟨fun σ H' => ∃ l es xs, σ = [some (.ref a), some (.int (0 + i)), some (.ref p), some (.int sz), some (.ref ca), some (.int (0 + j)), some (.ref l), none, none, none, none] ∧ DS p ca l cn es xs H' ∧ EntsOk cn es ∧ Ext H H' ∧ FeedAt H' p, ?_, ?_⟩
          · refine ifD (p := 0 < 0 + (j : Int)) (fun _ => ?_) (fun _ => ⟨l, es, xs, rfl, ds, ok, x6, hf6⟩)
            refine ⟨(by show 2 ≤ sizeLine; decide), fun q0 hq0 => ?_⟩
            have w7 := Ext.upd (o := .lst [.int 40, .int 12]) hq0
            have d7 : (upd H6 q0 (.lst [.int 40, .int 12])) q0 = some (.lst [.int 40, .int 12]) := upd_same
            have x7 := x6.trans w7
            have hf7 := hf6.keep w7
            have c7 := w7 _ _ ds.crew
            generalize upd H6 q0 (.lst [.int 40, .int 12]) = H7 at x7 hf7 d7 c7 ⊢
            obtain ⟨most, m1, m2, at7⟩ : ∃ m : Int, 0 ≤ m ∧ m ≤ 200 ∧ atI [V.int 40, V.int 12] (if decide (0 + (j : Int) = 2) = true then 1 else 0) = some (.int m) := by
              split
              · exact ⟨12, by decide, by decide, rfl⟩
              · exact ⟨40, by decide, by decide, rfl⟩
            refine .inr ⟨_, rfl, _, _, .inl (SqL.of d7), at7, ?_⟩
            refine ⟨⟨by decide, by decide, by decide⟩, p, sz, ca, cn, most, rfl, hf7, c7, cr, so, m1, m2, fun H8 q l2 lt es2 xs2 _ hq _ hl2 el2 ok2 _ hf8 f8 => ?_⟩
            refine ⟨_, .ref l2, .inl (SqL.of hq), atI_nat (j := 0) rfl, ?_⟩
            obtain ⟨o4, hp4, fo4⟩ := hf7
            exact ⟨l2, es2, xs2, rfl, ⟨f8 _ _ c7 (nin_feed hp4 c7 fo4.ne_strs), hl2, el2⟩, ok2, np2 np x7 f8, hf8⟩
          clear ds ok x6 hf6 l es xs
          rintro σ H7 ⟨l, es, xs, rfl, ds, ok, x7, hf7⟩
          -- judged
          refine ⟨(by show 2 ≤ sizeLine; decide), fun q0 hq0 => ?_⟩
          have w8 := Ext.upd (o := .lst [.str "steady", .str "losing"]) hq0
          have d8 : (upd H7 q0 (.lst [.str "steady", .str "losing"])) q0 = some (.lst [.str "steady", .str "losing"]) := upd_same
          have x8 := x7.trans w8
          have pq := hf7.ne' hq0
          have hf8 := hf7.keep w8
          have ds8 : DS p ca l cn es xs (upd H7 q0 (.lst [.str "steady", .str "losing"])) := ⟨w8 _ _ ds.crew, w8 _ _ ds.shown, ds.ents.mono w8⟩
          generalize upd H7 q0 (.lst [.str "steady", .str "losing"]) = H8 at x8 hf8 d8 ds8 ⊢
          refine ⟨p, 2, rfl, hf8, by decide, s1000 (by decide), fun r1 o1 a1 a2 fo1 => ?_⟩
          obtain ⟨kd, at8⟩ : ∃ z : Str, atI [V.str "steady", V.str "losing"] r1 = some (.str z) := by
            have two : r1 = 0 ∨ r1 = 1 := by omega
            rcases two with e | e
            · exact ⟨"steady", by rw [e]; rfl⟩
            · exact ⟨"losing", by rw [e]; rfl⟩
          refine ⟨_, .str kd, .inl (SqL.of (by rw [upd_ne pq.symm]; exact d8)), at8, ?_⟩
          have f9 : Frm [p] H8 (upd H8 p o1) := (Frm.refl (M := [p])).upd mem1
          have x9 := np2 np x8 f9
          have ds9 : DS p ca l cn es xs (upd H8 p o1) := by
            obtain ⟨o4, hp4, fo4⟩ := hf8
            exact ⟨f9 _ _ ds8.crew (nin_feed hp4 ds8.crew fo4.ne_strs), f9 _ _ ds8.shown (nin_feed hp4 ds8.shown (ds8.ents.ne_feed fo4)), ds8.ents.st (Frm.tups f9 hp4 fo4.ne_tup)⟩
          have hf9 : FeedAt (upd H8 p o1) p := FeedAt.put fo1
          generalize upd H8 p o1 = H9 at x9 ds9 hf9 ⊢
          refine ⟨(by show 2 ≤ sizeLine; decide), fun q1 hq1 => ?_⟩
          have w10 := Ext.upd (o := .lst [.int 14, .int 6]) hq1
          have d10 : (upd H9 q1 (.lst [.int 14, .int 6])) q1 = some (.lst [.int 14, .int 6]) := upd_same
          have x10 := x9.trans w10
          have hf10 := hf9.keep w10
          have ds10 : DS p ca l cn es xs (upd H9 q1 (.lst [.int 14, .int 6])) := ⟨w10 _ _ ds9.crew, w10 _ _ ds9.shown, ds9.ents.mono w10⟩
          generalize upd H9 q1 (.lst [.int 14, .int 6]) = H10 at x10 hf10 d10 ds10 ⊢
          obtain ⟨most, m1, m2, at10⟩ : ∃ m : Int, 1 ≤ m ∧ m ≤ 1000 ∧ atI [V.int 14, V.int 6] (if decide (0 + (i : Int) > 0) = true then 1 else 0) = some (.int m) := by
            split
            · exact ⟨6, by decide, by decide, rfl⟩
            · exact ⟨14, by decide, by decide, rfl⟩
          refine .inr ⟨_, rfl, _, _, .inl (SqL.of d10), at10, ?_⟩
          refine ⟨p, kd, sz, ca, l, cn, es, xs, most, rfl, hf10, so, ds10.crew, cr, ds10.shown, ds10.ents, ok, m1, m2, fun H11 hf11 f11 => ifF (by rfl) ?_⟩
          exact ⟨_, _, _, _, rfl, np2 np x10 f11, hf11⟩
        · rintro σ H4 ⟨v3, v4, v5, v6, rfl, x4, _⟩
          exact ⟨_, _, _, _, _, _, rfl, x4⟩
      · rintro σ H1 ⟨v1, v2, v3, v4, v5, v6, rfl, x1⟩
        exact ⟨_, _, _, _, _, _, rfl, x1⟩
    rintro σ H1 ⟨v1, v2, v3, v4, v5, v6, rfl, x1⟩
    clear x1
    -- a log of four entries
    refine ⟨fun σ H' => ∃ b, σ = [some (.ref a), v1, v2, v3, v4, v5, v6, some (.ref b), none, none, none] ∧ LogAt cL H' b 2 ["a", "b"] ES, ?_, ?_⟩
    · refine ⟨(by show 2 ≤ sizeLine; decide), fun l1 n1 => ?_⟩
      have c1 : (upd H1 l1 (.lst [.str "a", .str "b"])) l1 = some (.lst ((["a", "b"] : List Str).map V.str)) := upd_same
      generalize upd H1 l1 (.lst [.str "a", .str "b"]) = G1 at c1 ⊢
      refine ⟨(by show 2 ≤ sizeLine; decide), fun t1 m1 => ?_⟩
      have y1 := Ext.upd (o := .tup [.str "a", .int 0]) m1
      have e1 : EntAt (upd G1 t1 (.tup [.str "a", .int 0])) ("a", 0) (.ref t1) := ⟨t1, rfl, upd_same⟩
      have c1 := y1 _ _ c1
      generalize upd G1 t1 (.tup [.str "a", .int 0]) = G2 at c1 e1 ⊢
      refine ⟨(by show 2 ≤ sizeLine; decide), fun t2 m2 => ?_⟩
      have y2 := Ext.upd (o := .tup [.str "b", .int 4]) m2
      have e2 : EntAt (upd G2 t2 (.tup [.str "b", .int 4])) ("b", 4) (.ref t2) := ⟨t2, rfl, upd_same⟩
      have c1 := y2 _ _ c1
      have e1 := e1.mono y2
      generalize upd G2 t2 (.tup [.str "b", .int 4]) = G3 at c1 e1 e2 ⊢
      refine ⟨(by show 2 ≤ sizeLine; decide), fun t3 m3 => ?_⟩
      have y3 := Ext.upd (o := .tup [.str "a", .int 1]) m3
      have e3 : EntAt (upd G3 t3 (.tup [.str "a", .int 1])) ("a", 1) (.ref t3) := ⟨t3, rfl, upd_same⟩
      have c1 := y3 _ _ c1
      have e1 := e1.mono y3
      have e2 := e2.mono y3
      generalize upd G3 t3 (.tup [.str "a", .int 1]) = G4 at c1 e1 e2 e3 ⊢
      refine ⟨(by show 2 ≤ sizeLine; decide), fun t4 m4 => ?_⟩
      have y4 := Ext.upd (o := .tup [.str "a", .int 2]) m4
      have e4 : EntAt (upd G4 t4 (.tup [.str "a", .int 2])) ("a", 2) (.ref t4) := ⟨t4, rfl, upd_same⟩
      have c1 := y4 _ _ c1
      have e1 := e1.mono y4
      have e2 := e2.mono y4
      have e3 := e3.mono y4
      generalize upd G4 t4 (.tup [.str "a", .int 2]) = G5 at c1 e1 e2 e3 e4 ⊢
      refine ⟨(by show 4 ≤ sizeLine; decide), fun l2 m5 => ?_⟩
      have y5 := Ext.upd (o := .lst [.ref t1, .ref t2, .ref t3, .ref t4]) m5
      have el5 : EntL (upd G5 l2 (.lst [.ref t1, .ref t2, .ref t3, .ref t4])) ES [.ref t1, .ref t2, .ref t3, .ref t4] := EntL.mono (.cons e1 (.cons e2 (.cons e3 (.cons e4 .nil)))) y5
      have c1 := y5 _ _ c1
      have c2 : (upd G5 l2 (.lst [.ref t1, .ref t2, .ref t3, .ref t4])) l2 = some (.lst [.ref t1, .ref t2, .ref t3, .ref t4]) := upd_same
      generalize upd G5 l2 (.lst [.ref t1, .ref t2, .ref t3, .ref t4]) = G6 at c1 c2 el5 ⊢
      have so : SizeOk 2 := ⟨by decide, by decide⟩
      intro h dx nh ndx ne
      exact init_R nh ndx ne so c1 AB_crew c2 el5 ES_ok fun G7 lg7 _ => ⟨h, rfl, lg7⟩
    rintro σ G0 ⟨b, rfl, lg⟩
    -- its windows
    refine ⟨(by show 2 ≤ sizeLine; decide), fun t1 m1 => ?_⟩
    have y1 := Ext.upd (o := .tup [.str "a", .int 0]) m1
    have e1 : EntAt (upd G0 t1 (.tup [.str "a", .int 0])) ("a", 0) (.ref t1) := ⟨t1, rfl, upd_same⟩
    have lg := lg.mono y1
    generalize upd G0 t1 (.tup [.str "a", .int 0]) = G1 at lg e1 ⊢
    refine ⟨(by show 2 ≤ sizeLine; decide), fun t2 m2 => ?_⟩
    have y2 := Ext.upd (o := .tup [.str "a", .int 1]) m2
    have e2 : EntAt (upd G1 t2 (.tup [.str "a", .int 1])) ("a", 1) (.ref t2) := ⟨t2, rfl, upd_same⟩
    have lg := lg.mono y2
    have e1 := e1.mono y2
    generalize upd G1 t2 (.tup [.str "a", .int 1]) = G2 at lg e1 e2 ⊢
    refine ⟨(by show 2 ≤ sizeLine; decide), fun t3 m3 => ?_⟩
    have y3 := Ext.upd (o := .tup [.str "a", .int 2]) m3
    have e3 : EntAt (upd G2 t3 (.tup [.str "a", .int 2])) ("a", 2) (.ref t3) := ⟨t3, rfl, upd_same⟩
    have lg := lg.mono y3
    have e1 := e1.mono y3
    have e2 := e2.mono y3
    generalize upd G2 t3 (.tup [.str "a", .int 2]) = G3 at lg e1 e2 e3 ⊢
    refine ⟨(by show 2 ≤ sizeLine; decide), fun t4 m4 => ?_⟩
    have y4 := Ext.upd (o := .tup [.str "b", .int 2]) m4
    have e4 : EntAt (upd G3 t4 (.tup [.str "b", .int 2])) ("b", 2) (.ref t4) := ⟨t4, rfl, upd_same⟩
    have lg := lg.mono y4
    have e1 := e1.mono y4
    have e2 := e2.mono y4
    have e3 := e3.mono y4
    generalize upd G3 t4 (.tup [.str "b", .int 2]) = G4 at lg e1 e2 e3 e4 ⊢
    refine ⟨(by show 2 ≤ sizeLine; decide), fun t5 m5 => ?_⟩
    have y5 := Ext.upd (o := .tup [.str "b", .int 3]) m5
    have e5 : EntAt (upd G4 t5 (.tup [.str "b", .int 3])) ("b", 3) (.ref t5) := ⟨t5, rfl, upd_same⟩
    have lg := lg.mono y5
    have e1 := e1.mono y5
    have e2 := e2.mono y5
    have e3 := e3.mono y5
    have e4 := e4.mono y5
    generalize upd G4 t5 (.tup [.str "b", .int 3]) = G5 at lg e1 e2 e3 e4 e5 ⊢
    refine ⟨(by show 5 ≤ sizeLine; decide), fun l2 m6 => ?_⟩
    have y6 := Ext.upd (o := .lst [.ref t1, .ref t2, .ref t3, .ref t4, .ref t5]) m6
    have el6 : EntL (upd G5 l2 (.lst [.ref t1, .ref t2, .ref t3, .ref t4, .ref t5])) PR [.ref t1, .ref t2, .ref t3, .ref t4, .ref t5] := EntL.mono (.cons e1 (.cons e2 (.cons e3 (.cons e4 (.cons e5 .nil))))) y6
    have c2 : (upd G5 l2 (.lst [.ref t1, .ref t2, .ref t3, .ref t4, .ref t5])) l2 = some (.lst [.ref t1, .ref t2, .ref t3, .ref t4, .ref t5]) := upd_same
    have lg := lg.mono y6
    generalize upd G5 l2 (.lst [.ref t1, .ref t2, .ref t3, .ref t4, .ref t5]) = G6 at lg c2 el6 ⊢
    have so : SizeOk 2 := ⟨by decide, by decide⟩
    refine ⟨l2, rfl, ⟨_, SqL.of c2⟩, fun d hd => lc_list (K := K) (a := l2) (xs := [.ref t1, .ref t2, .ref t3, .ref t4, .ref t5]) (fun i H' => ∃ vs, H' d = some (.lst vs) ∧ Paired (WinV H') (WD.take i) vs ∧ vs.length = i ∧ Ext G6 H') ⟨[], upd_same, .nil, rfl, Ext.upd hd⟩ (fun i H' _ t => by obtain ⟨_, _, _, _, x⟩ := t; exact SqL.of (x _ _ c2)) ?_ ?_⟩
    · rintro i y G7 hy ⟨vs, h7, pw, hvl, x7⟩
      obtain ⟨⟨z, far⟩, hv, t, rfl, ht⟩ := EntL.at el6 hy
      have hi : i < 5 := (List.getElem?_eq_some_iff.mp hv).1
      have okz := PR_ok _ (List.mem_of_getElem? hv)
      refine ⟨t, _, rfl, SqT.of (x7 _ _ ht), rfl, _, _, rfl, _, _, rfl, rfl, rfl, goY (ifT (by rfl) ?_)⟩
      refine ⟨b, cL, _, 2, ["a", "b"], ES, z, far, rfl, lg.mono x7, S.ML, so, AB_crew, ES_ok, okz.1, okz.2, fun G8 v x8 wv => ?_⟩
      have h8 := x8 _ _ h7
      have w : WD[i]? = some (win 2 ES z far) := by
        rw [← PR_win, List.getElem?_map, hv]; rfl
      refine ⟨vs, h8, Nat.lt_of_lt_of_le (show vs.length < 5 by omega) (by decide), vs ++ [v], upd_same, ?_, by rw [List.length_append, hvl]; rfl, put_ext (x7.trans x8) hd⟩
      have st : Ext G6 (upd G8 d (.lst (vs ++ [v]))) := put_ext (x7.trans x8) hd
      have wst : ∀ {o : Option (Int × Int)} {u : V}, WinV G8 o u → WinV (upd G8 d (.lst (vs ++ [v]))) o u := fun {o u} h => by
        cases o with
        | none => exact h
        | some p =>
          obtain ⟨t, rfl, q⟩ := h
          exact ⟨t, rfl, TupSt.upd h8 (fun _ z => nomatch z) _ _ q⟩
      have tk : WD.take (i + 1) = WD.take i ++ [win 2 ES z far] := by rw [List.take_succ, w]; rfl
      rw [tk]
      exact pApp (Paired.mapP pw fun _ _ q => wst (q.mono x8)) (.cons (wst wv) .nil)
    rintro G7 ⟨vs, h7, pw, hvl, x7⟩
    have pw : Paired (WinV G7) WD vs := pw
    -- as they should be
    refine ⟨(by show 2 ≤ sizeLine; decide), fun u1 k1 => ?_⟩
    have z1 := Ext.upd (o := .tup [.int 0, .int 0]) k1
    have f1 : WinV (upd G7 u1 (.tup [.int 0, .int 0])) (some (0, 0)) (.ref u1) := ⟨u1, rfl, upd_same⟩
    have x8 := z1
    generalize upd G7 u1 (.tup [.int 0, .int 0]) = G8 at x8 f1 ⊢
    refine ⟨(by show 2 ≤ sizeLine; decide), fun u2 k2 => ?_⟩
    have z2 := Ext.upd (o := .tup [.int 3, .int 3]) k2
    have f2 : WinV (upd G8 u2 (.tup [.int 3, .int 3])) (some (3, 3)) (.ref u2) := ⟨u2, rfl, upd_same⟩
    have x8 := x8.trans z2
    have f1 := f1.mono z2
    generalize upd G8 u2 (.tup [.int 3, .int 3]) = G9 at x8 f1 f2 ⊢
    refine ⟨(by show 2 ≤ sizeLine; decide), fun u3 k3 => ?_⟩
    have z3 := Ext.upd (o := .tup [.int 0, .int 1]) k3
    have f3 : WinV (upd G9 u3 (.tup [.int 0, .int 1])) (some (0, 1)) (.ref u3) := ⟨u3, rfl, upd_same⟩
    have x8 := x8.trans z3
    have f1 := f1.mono z3
    have f2 := f2.mono z3
    generalize upd G9 u3 (.tup [.int 0, .int 1]) = G10 at x8 f1 f2 f3 ⊢
    refine ⟨(by show 2 ≤ sizeLine; decide), fun u4 k4 => ?_⟩
    have z4 := Ext.upd (o := .tup [.int 2, .int 4]) k4
    have f4 : WinV (upd G10 u4 (.tup [.int 2, .int 4])) (some (2, 4)) (.ref u4) := ⟨u4, rfl, upd_same⟩
    have x8 := x8.trans z4
    have f1 := f1.mono z4
    have f2 := f2.mono z4
    have f3 := f3.mono z4
    generalize upd G10 u4 (.tup [.int 2, .int 4]) = G11 at x8 f1 f2 f3 f4 ⊢
    refine ⟨(by show 5 ≤ sizeLine; decide), fun lo nlo => ?_⟩
    have wo := Ext.upd (o := .lst [.ref u1, .ref u2, .non, .ref u3, .ref u4]) nlo
    have pw2 : Paired (WinV (upd G11 lo (.lst [.ref u1, .ref u2, .non, .ref u3, .ref u4]))) WD [.ref u1, .ref u2, .non, .ref u3, .ref u4] := .cons (f1.mono wo) (.cons (f2.mono wo) (.cons (show WinV _ none .non from rfl) (.cons (f3.mono wo) (.cons (f4.mono wo) .nil))))
    have x9 := x8.trans wo
    refine ⟨_, _, .lst (SqL.of (x9 _ _ h7)) (dp_Ws (Paired.mapP pw fun _ _ q => q.mono x9)), .lst (SqL.of upd_same) (dp_Ws pw2), WD_shaped, WD_shaped, ?_⟩
    rw [WD_eqv]
    exact k _
end
end NB

set_option Elab.async false
set_option linter.all false
set_option maxRecDepth 100000
set_option maxHeartbeats 0
/-! K7: what the top must have, from its facts -/
namespace NB
open PySem PySem.Spec L2
open PyProof.Rows (envOfC)
open C8 (pe_c pe_mk pe_mt pe_mt0 pe_gc fnScope fnBody fnArgs fnScope_by Cal Met Mak)

theorem kit_same {K : PySem.W.Frag} {C : Addr} : PySem.W.kitOne K (.ref C) (.ref C) = some true := by
  unfold PySem.W.kitOne
  rw [if_pos (by simp)]
theorem kit_ref {K : PySem.W.Frag} {C : Addr} {t : Value} {b : Bool} (h1 : PySem.W.isClsIn K C = true) (h2 : PySem.W.typeIn K (.ref C) = some (.type "type")) (h3 : PySem.W.subIn K t (.ref C) = some b) (h4 : (t == Value.ref C) = false) : PySem.W.kitOne K t (.ref C) = some b := by
  unfold PySem.W.kitOne PySem.W.kitCls
  rw [if_neg (by rw [h4]; exact Bool.false_ne_true)]
  unfold PySem.W.isClsIn at h1
  simp only [h1, h2, h3, Bool.true_and, beq_self_eq_true, if_true]
theorem kit_tyR {K : PySem.W.Frag} {C : Addr} {x : String} {b : Bool} (h : PySem.W.subIn K (.ref C) (.type x) = some b) (hm : PySem.W.kitMeta x = true) : PySem.W.kitOne K (.ref C) (.type x) = some b := by
  unfold PySem.W.kitOne PySem.W.kitCls
  rw [if_neg (by simp)]
  simp only [hm, h, if_true]
theorem nf_of {K : PySem.W.Frag} {C : Addr} {t : Value} (h : PySem.W.subIn K t (.ref C) = some false) : PySem.W.notFirst K C t = true := by
  unfold PySem.W.notFirst
  rw [h]
  simp
theorem all_mk {P : Program} {w : World} {K : PySem.W.Frag} {h : Heap} {mg : Str → Option Value} {fa : Addr} (X : K.In h) (G : h.Ns mainGlobals mg) (hfa : mg "law" = some (.ref fa))
    {f_is_integer f_is_size f_is_name f_are_servers f_is_server f_is_entry f_are_entries f_need_server f_facts_of f_window f__law_feed f__law_pick f__law_crew f__law_entries f__law_made f__law_story f__law_window f__law_blocks f__law_right f_law cL cX cF fMI pZ fMZ pV fMV pE fME fMFI fMFW : Addr} {od_is_integer an_is_integer od_is_size an_is_size od_is_name an_is_name od_are_servers an_are_servers od_is_server an_is_server od_is_entry an_is_entry od_are_entries an_are_entries od_need_server an_need_server od_facts_of an_facts_of od_window an_window od__law_feed an__law_feed od__law_pick an__law_pick od__law_crew an__law_crew od__law_entries an__law_entries od__law_made an__law_made od__law_story an__law_story od__law_window an__law_window od__law_blocks an__law_blocks od__law_right an__law_right od_law an_law odMI anMI odMZ anMZ odMV anMV odME anME odMFI anMFI odMFW anMFW : Option Addr} {sl_is_integer sl_is_size sl_is_name sl_are_servers sl_is_server sl_is_entry sl_are_entries sl_need_server sl_facts_of sl_window sl__law_feed sl__law_pick sl__law_crew sl__law_entries sl__law_made sl__law_story sl__law_window sl__law_blocks sl__law_right sl_law slMI slMZ slMV slME slMFI slMFW : Array (Option Value)} {oc_is_integer kV_is_integer dc_is_integer pm_is_integer cd_is_integer ct_is_integer oc_is_size kV_is_size dc_is_size pm_is_size cd_is_size ct_is_size oc_is_name kV_is_name dc_is_name pm_is_name cd_is_name ct_is_name oc_are_servers kV_are_servers dc_are_servers pm_are_servers cd_are_servers ct_are_servers oc_is_server kV_is_server dc_is_server pm_is_server cd_is_server ct_is_server oc_is_entry kV_is_entry dc_is_entry pm_is_entry cd_is_entry ct_is_entry oc_are_entries kV_are_entries dc_are_entries pm_are_entries cd_are_entries ct_are_entries oc_need_server kV_need_server dc_need_server pm_need_server cd_need_server ct_need_server oc_facts_of kV_facts_of dc_facts_of pm_facts_of cd_facts_of ct_facts_of oc_window kV_window dc_window pm_window cd_window ct_window oc__law_feed kV__law_feed dc__law_feed pm__law_feed cd__law_feed ct__law_feed oc__law_pick kV__law_pick dc__law_pick pm__law_pick cd__law_pick ct__law_pick oc__law_crew kV__law_crew dc__law_crew pm__law_crew cd__law_crew ct__law_crew oc__law_entries kV__law_entries dc__law_entries pm__law_entries cd__law_entries ct__law_entries oc__law_made kV__law_made dc__law_made pm__law_made cd__law_made ct__law_made oc__law_story kV__law_story dc__law_story pm__law_story cd__law_story ct__law_story oc__law_window kV__law_window dc__law_window pm__law_window cd__law_window ct__law_window oc__law_blocks kV__law_blocks dc__law_blocks pm__law_blocks cd__law_blocks ct__law_blocks oc__law_right kV__law_right dc__law_right pm__law_right cd__law_right ct__law_right oc_law kV_law dc_law pm_law cd_law ct_law ocMI kVMI dcMI pmMI cdMI ctMI ocMZ kVMZ dcMZ pmMZ cdMZ ctMZ ocMV kVMV dcMV pmMV cdMV ctMV ocME kVME dcME pmME cdME ctME ocMFI kVMFI dcMFI pmMFI cdMFI ctMFI ocMFW kVMFW dcMFW pmMFW cdMFW ctMFW : Value} {tk0 tk1 tk2 tk3 ts0 ts1 ts4 ts5 : Tok} {rsZ rsV rsE : List Value}
    (a_is_integer : PySem.W.nsIn K mainGlobals "is_integer" = some (some (.ref f_is_integer)))
    (l_is_integer : K.lookup f_is_integer = some ⟨oc_is_integer, od_is_integer, .func (PySem.W.fnOf "is_integer" "is_integer" (fnArgs s_is_integer) (fnBody s_is_integer) (fnScope s_is_integer) .none kV_is_integer dc_is_integer pm_is_integer an_is_integer cd_is_integer ct_is_integer), sl_is_integer⟩)
    (c_is_integer : PySem.W.codeIn K cd_is_integer "is_integer" = true)
    (k_is_integer : PySem.W.keepIn K (.ref f_is_integer) = true)
    (a_is_size : PySem.W.nsIn K mainGlobals "is_size" = some (some (.ref f_is_size)))
    (l_is_size : K.lookup f_is_size = some ⟨oc_is_size, od_is_size, .func (PySem.W.fnOf "is_size" "is_size" (fnArgs s_is_size) (fnBody s_is_size) (fnScope s_is_size) .none kV_is_size dc_is_size pm_is_size an_is_size cd_is_size ct_is_size), sl_is_size⟩)
    (c_is_size : PySem.W.codeIn K cd_is_size "is_size" = true)
    (k_is_size : PySem.W.keepIn K (.ref f_is_size) = true)
    (a_is_name : PySem.W.nsIn K mainGlobals "is_name" = some (some (.ref f_is_name)))
    (l_is_name : K.lookup f_is_name = some ⟨oc_is_name, od_is_name, .func (PySem.W.fnOf "is_name" "is_name" (fnArgs s_is_name) (fnBody s_is_name) (fnScope s_is_name) .none kV_is_name dc_is_name pm_is_name an_is_name cd_is_name ct_is_name), sl_is_name⟩)
    (c_is_name : PySem.W.codeIn K cd_is_name "is_name" = true)
    (k_is_name : PySem.W.keepIn K (.ref f_is_name) = true)
    (a_are_servers : PySem.W.nsIn K mainGlobals "are_servers" = some (some (.ref f_are_servers)))
    (l_are_servers : K.lookup f_are_servers = some ⟨oc_are_servers, od_are_servers, .func (PySem.W.fnOf "are_servers" "are_servers" (fnArgs s_are_servers) (fnBody s_are_servers) (fnScope s_are_servers) .none kV_are_servers dc_are_servers pm_are_servers an_are_servers cd_are_servers ct_are_servers), sl_are_servers⟩)
    (c_are_servers : PySem.W.codeIn K cd_are_servers "are_servers" = true)
    (k_are_servers : PySem.W.keepIn K (.ref f_are_servers) = true)
    (a_is_server : PySem.W.nsIn K mainGlobals "is_server" = some (some (.ref f_is_server)))
    (l_is_server : K.lookup f_is_server = some ⟨oc_is_server, od_is_server, .func (PySem.W.fnOf "is_server" "is_server" (fnArgs s_is_server) (fnBody s_is_server) (fnScope s_is_server) .none kV_is_server dc_is_server pm_is_server an_is_server cd_is_server ct_is_server), sl_is_server⟩)
    (c_is_server : PySem.W.codeIn K cd_is_server "is_server" = true)
    (k_is_server : PySem.W.keepIn K (.ref f_is_server) = true)
    (a_is_entry : PySem.W.nsIn K mainGlobals "is_entry" = some (some (.ref f_is_entry)))
    (l_is_entry : K.lookup f_is_entry = some ⟨oc_is_entry, od_is_entry, .func (PySem.W.fnOf "is_entry" "is_entry" (fnArgs s_is_entry) (fnBody s_is_entry) (fnScope s_is_entry) .none kV_is_entry dc_is_entry pm_is_entry an_is_entry cd_is_entry ct_is_entry), sl_is_entry⟩)
    (c_is_entry : PySem.W.codeIn K cd_is_entry "is_entry" = true)
    (k_is_entry : PySem.W.keepIn K (.ref f_is_entry) = true)
    (a_are_entries : PySem.W.nsIn K mainGlobals "are_entries" = some (some (.ref f_are_entries)))
    (l_are_entries : K.lookup f_are_entries = some ⟨oc_are_entries, od_are_entries, .func (PySem.W.fnOf "are_entries" "are_entries" (fnArgs s_are_entries) (fnBody s_are_entries) (fnScope s_are_entries) .none kV_are_entries dc_are_entries pm_are_entries an_are_entries cd_are_entries ct_are_entries), sl_are_entries⟩)
    (c_are_entries : PySem.W.codeIn K cd_are_entries "are_entries" = true)
    (k_are_entries : PySem.W.keepIn K (.ref f_are_entries) = true)
    (a_need_server : PySem.W.nsIn K mainGlobals "need_server" = some (some (.ref f_need_server)))
    (l_need_server : K.lookup f_need_server = some ⟨oc_need_server, od_need_server, .func (PySem.W.fnOf "need_server" "need_server" (fnArgs s_need_server) (fnBody s_need_server) (fnScope s_need_server) .none kV_need_server dc_need_server pm_need_server an_need_server cd_need_server ct_need_server), sl_need_server⟩)
    (c_need_server : PySem.W.codeIn K cd_need_server "need_server" = true)
    (k_need_server : PySem.W.keepIn K (.ref f_need_server) = true)
    (a_facts_of : PySem.W.nsIn K mainGlobals "facts_of" = some (some (.ref f_facts_of)))
    (l_facts_of : K.lookup f_facts_of = some ⟨oc_facts_of, od_facts_of, .func (PySem.W.fnOf "facts_of" "facts_of" (fnArgs s_facts_of) (fnBody s_facts_of) (fnScope s_facts_of) .none kV_facts_of dc_facts_of pm_facts_of an_facts_of cd_facts_of ct_facts_of), sl_facts_of⟩)
    (c_facts_of : PySem.W.codeIn K cd_facts_of "facts_of" = true)
    (k_facts_of : PySem.W.keepIn K (.ref f_facts_of) = true)
    (a_window : PySem.W.nsIn K mainGlobals "window" = some (some (.ref f_window)))
    (l_window : K.lookup f_window = some ⟨oc_window, od_window, .func (PySem.W.fnOf "window" "window" (fnArgs s_window) (fnBody s_window) (fnScope s_window) .none kV_window dc_window pm_window an_window cd_window ct_window), sl_window⟩)
    (c_window : PySem.W.codeIn K cd_window "window" = true)
    (k_window : PySem.W.keepIn K (.ref f_window) = true)
    (a__law_feed : PySem.W.nsIn K mainGlobals "_law_feed" = some (some (.ref f__law_feed)))
    (l__law_feed : K.lookup f__law_feed = some ⟨oc__law_feed, od__law_feed, .func (PySem.W.fnOf "_law_feed" "_law_feed" (fnArgs s__law_feed) (fnBody s__law_feed) (fnScope s__law_feed) .none kV__law_feed dc__law_feed pm__law_feed an__law_feed cd__law_feed ct__law_feed), sl__law_feed⟩)
    (c__law_feed : PySem.W.codeIn K cd__law_feed "_law_feed" = true)
    (k__law_feed : PySem.W.keepIn K (.ref f__law_feed) = true)
    (a__law_pick : PySem.W.nsIn K mainGlobals "_law_pick" = some (some (.ref f__law_pick)))
    (l__law_pick : K.lookup f__law_pick = some ⟨oc__law_pick, od__law_pick, .func (PySem.W.fnOf "_law_pick" "_law_pick" (fnArgs s__law_pick) (fnBody s__law_pick) (fnScope s__law_pick) .none kV__law_pick dc__law_pick pm__law_pick an__law_pick cd__law_pick ct__law_pick), sl__law_pick⟩)
    (c__law_pick : PySem.W.codeIn K cd__law_pick "_law_pick" = true)
    (k__law_pick : PySem.W.keepIn K (.ref f__law_pick) = true)
    (a__law_crew : PySem.W.nsIn K mainGlobals "_law_crew" = some (some (.ref f__law_crew)))
    (l__law_crew : K.lookup f__law_crew = some ⟨oc__law_crew, od__law_crew, .func (PySem.W.fnOf "_law_crew" "_law_crew" (fnArgs s__law_crew) (fnBody s__law_crew) (fnScope s__law_crew) .none kV__law_crew dc__law_crew pm__law_crew an__law_crew cd__law_crew ct__law_crew), sl__law_crew⟩)
    (c__law_crew : PySem.W.codeIn K cd__law_crew "_law_crew" = true)
    (k__law_crew : PySem.W.keepIn K (.ref f__law_crew) = true)
    (a__law_entries : PySem.W.nsIn K mainGlobals "_law_entries" = some (some (.ref f__law_entries)))
    (l__law_entries : K.lookup f__law_entries = some ⟨oc__law_entries, od__law_entries, .func (PySem.W.fnOf "_law_entries" "_law_entries" (fnArgs s__law_entries) (fnBody s__law_entries) (fnScope s__law_entries) .none kV__law_entries dc__law_entries pm__law_entries an__law_entries cd__law_entries ct__law_entries), sl__law_entries⟩)
    (c__law_entries : PySem.W.codeIn K cd__law_entries "_law_entries" = true)
    (k__law_entries : PySem.W.keepIn K (.ref f__law_entries) = true)
    (a__law_made : PySem.W.nsIn K mainGlobals "_law_made" = some (some (.ref f__law_made)))
    (l__law_made : K.lookup f__law_made = some ⟨oc__law_made, od__law_made, .func (PySem.W.fnOf "_law_made" "_law_made" (fnArgs s__law_made) (fnBody s__law_made) (fnScope s__law_made) .none kV__law_made dc__law_made pm__law_made an__law_made cd__law_made ct__law_made), sl__law_made⟩)
    (c__law_made : PySem.W.codeIn K cd__law_made "_law_made" = true)
    (k__law_made : PySem.W.keepIn K (.ref f__law_made) = true)
    (a__law_story : PySem.W.nsIn K mainGlobals "_law_story" = some (some (.ref f__law_story)))
    (l__law_story : K.lookup f__law_story = some ⟨oc__law_story, od__law_story, .func (PySem.W.fnOf "_law_story" "_law_story" (fnArgs s__law_story) (fnBody s__law_story) (fnScope s__law_story) .none kV__law_story dc__law_story pm__law_story an__law_story cd__law_story ct__law_story), sl__law_story⟩)
    (c__law_story : PySem.W.codeIn K cd__law_story "_law_story" = true)
    (k__law_story : PySem.W.keepIn K (.ref f__law_story) = true)
    (a__law_window : PySem.W.nsIn K mainGlobals "_law_window" = some (some (.ref f__law_window)))
    (l__law_window : K.lookup f__law_window = some ⟨oc__law_window, od__law_window, .func (PySem.W.fnOf "_law_window" "_law_window" (fnArgs s__law_window) (fnBody s__law_window) (fnScope s__law_window) .none kV__law_window dc__law_window pm__law_window an__law_window cd__law_window ct__law_window), sl__law_window⟩)
    (c__law_window : PySem.W.codeIn K cd__law_window "_law_window" = true)
    (k__law_window : PySem.W.keepIn K (.ref f__law_window) = true)
    (a__law_blocks : PySem.W.nsIn K mainGlobals "_law_blocks" = some (some (.ref f__law_blocks)))
    (l__law_blocks : K.lookup f__law_blocks = some ⟨oc__law_blocks, od__law_blocks, .func (PySem.W.fnOf "_law_blocks" "_law_blocks" (fnArgs s__law_blocks) (fnBody s__law_blocks) (fnScope s__law_blocks) .none kV__law_blocks dc__law_blocks pm__law_blocks an__law_blocks cd__law_blocks ct__law_blocks), sl__law_blocks⟩)
    (c__law_blocks : PySem.W.codeIn K cd__law_blocks "_law_blocks" = true)
    (k__law_blocks : PySem.W.keepIn K (.ref f__law_blocks) = true)
    (a__law_right : PySem.W.nsIn K mainGlobals "_law_right" = some (some (.ref f__law_right)))
    (l__law_right : K.lookup f__law_right = some ⟨oc__law_right, od__law_right, .func (PySem.W.fnOf "_law_right" "_law_right" (fnArgs s__law_right) (fnBody s__law_right) (fnScope s__law_right) .none kV__law_right dc__law_right pm__law_right an__law_right cd__law_right ct__law_right), sl__law_right⟩)
    (c__law_right : PySem.W.codeIn K cd__law_right "_law_right" = true)
    (k__law_right : PySem.W.keepIn K (.ref f__law_right) = true)
    (a_law : PySem.W.nsIn K mainGlobals "law" = some (some (.ref f_law)))
    (l_law : K.lookup f_law = some ⟨oc_law, od_law, .func (PySem.W.fnOf "law" "law" (fnArgs s_law) (fnBody s_law) (fnScope s_law) .none kV_law dc_law pm_law an_law cd_law ct_law), sl_law⟩)
    (c_law : PySem.W.codeIn K cd_law "law" = true)
    (k_law : PySem.W.keepIn K (.ref f_law) = true)
    (gL : PySem.W.nsIn K mainGlobals "Log" = some (some (.ref cL)))
    (gX : PySem.W.nsIn K mainGlobals "LosingLog" = some (some (.ref cX)))
    (gF : PySem.W.nsIn K mainGlobals "Facts" = some (some (.ref cF)))
    (mLI : PySem.W.findIn K (.ref cL) "__init__" = some (some (.ref fMI)))
    (mXI : PySem.W.findIn K (.ref cX) "__init__" = some (some (.ref fMI)))
    (miI : PySem.W.isFn K (.ref fMI) = true)
    (lMI : K.lookup fMI = some ⟨ocMI, odMI, .func (PySem.W.fnOf "__init__" "Log.__init__" (fnArgs s_Log___init__) (fnBody s_Log___init__) (fnScope s_Log___init__) .none kVMI dcMI pmMI anMI cdMI ctMI), slMI⟩)
    (cMI : PySem.W.codeIn K cdMI "Log.__init__" = true)
    (pZL : PySem.W.findIn K (.ref cL) "size" = some (some (.ref pZ)))
    (pZX : PySem.W.findIn K (.ref cX) "size" = some (some (.ref pZ)))
    (pgZ : PySem.W.specialIn K (.ref pZ) "__get__" = some (some (.builtin "property.__get__")))
    (ptZ : PySem.W.takesIn K (.ref pZ) = some true)
    (prZ : PySem.W.recIn K pZ "property" = some (.ref fMZ :: rsZ))
    (lMZ : K.lookup fMZ = some ⟨ocMZ, odMZ, .func (PySem.W.fnOf "size" "Log.size" (fnArgs s_Log_size) (fnBody s_Log_size) (fnScope s_Log_size) .none kVMZ dcMZ pmMZ anMZ cdMZ ctMZ), slMZ⟩)
    (cMZ : PySem.W.codeIn K cdMZ "Log.size" = true)
    (pVL : PySem.W.findIn K (.ref cL) "servers" = some (some (.ref pV)))
    (pVX : PySem.W.findIn K (.ref cX) "servers" = some (some (.ref pV)))
    (pgV : PySem.W.specialIn K (.ref pV) "__get__" = some (some (.builtin "property.__get__")))
    (ptV : PySem.W.takesIn K (.ref pV) = some true)
    (prV : PySem.W.recIn K pV "property" = some (.ref fMV :: rsV))
    (lMV : K.lookup fMV = some ⟨ocMV, odMV, .func (PySem.W.fnOf "servers" "Log.servers" (fnArgs s_Log_servers) (fnBody s_Log_servers) (fnScope s_Log_servers) .none kVMV dcMV pmMV anMV cdMV ctMV), slMV⟩)
    (cMV : PySem.W.codeIn K cdMV "Log.servers" = true)
    (pEL : PySem.W.findIn K (.ref cL) "entries" = some (some (.ref pE)))
    (pEX : PySem.W.findIn K (.ref cX) "entries" = some (some (.ref pE)))
    (pgE : PySem.W.specialIn K (.ref pE) "__get__" = some (some (.builtin "property.__get__")))
    (ptE : PySem.W.takesIn K (.ref pE) = some true)
    (prE : PySem.W.recIn K pE "property" = some (.ref fME :: rsE))
    (lME : K.lookup fME = some ⟨ocME, odME, .func (PySem.W.fnOf "entries" "Log.entries" (fnArgs s_Log_entries) (fnBody s_Log_entries) (fnScope s_Log_entries) .none kVME dcME pmME anME cdME ctME), slME⟩)
    (cME : PySem.W.codeIn K cdME "Log.entries" = true)
    (mFI : PySem.W.findIn K (.ref cF) "__init__" = some (some (.ref fMFI)))
    (miFI : PySem.W.isFn K (.ref fMFI) = true)
    (lMFI : K.lookup fMFI = some ⟨ocMFI, odMFI, .func (PySem.W.fnOf "__init__" "Facts.__init__" (fnArgs s_Facts___init__) (fnBody s_Facts___init__) (fnScope s_Facts___init__) .none kVMFI dcMFI pmMFI anMFI cdMFI ctMFI), slMFI⟩)
    (cMFI : PySem.W.codeIn K cdMFI "Facts.__init__" = true)
    (mFW : PySem.W.findIn K (.ref cF) "window_of" = some (some (.ref fMFW)))
    (miFW : PySem.W.isFn K (.ref fMFW) = true)
    (lMFW : K.lookup fMFW = some ⟨ocMFW, odMFW, .func (PySem.W.fnOf "window_of" "Facts.window_of" (fnArgs s_Facts_window_of) (fnBody s_Facts_window_of) (fnScope s_Facts_window_of) .none kVMFW dcMFW pmMFW anMFW cdMFW ctMFW), slMFW⟩)
    (cMFW : PySem.W.codeIn K cdMFW "Facts.window_of" = true)
    (kFW : PySem.W.keepIn K (.ref fMFW) = true)
    (pgtL : PySem.W.plainGet K cL Str.empty = true)
    (pgtX : PySem.W.plainGet K cX Str.empty = true)
    (pgtF : PySem.W.plainGet K cF Str.empty = true)
    (hdL : PySem.W.hasDictIn K cL = true)
    (hdX : PySem.W.hasDictIn K cX = true)
    (hdF : PySem.W.hasDictIn K cF = true)
    (poL : PySem.W.plainOver K cL = true)
    (poX : PySem.W.plainOver K cX = true)
    (poF : PySem.W.plainOver K cF = true)
    (saL : PySem.W.findIn K (.ref cL) "__setattr__" = some (some (.builtin "object.__setattr__")))
    (saX : PySem.W.findIn K (.ref cX) "__setattr__" = some (some (.builtin "object.__setattr__")))
    (saF : PySem.W.findIn K (.ref cF) "__setattr__" = some (some (.builtin "object.__setattr__")))
    (mkL : PySem.W.makesIn K cL = true)
    (mkX : PySem.W.makesIn K cX = true)
    (mkF : PySem.W.makesIn K cF = true)
    (kcL : PySem.W.keepIn K (.ref cL) = true)
    (kcX : PySem.W.keepIn K (.ref cX) = true)
    (kcF : PySem.W.keepIn K (.ref cF) = true)
    (nheld_sizeL : PySem.W.findIn K (.ref cL) "held_size" = some none)
    (nheld_sizeX : PySem.W.findIn K (.ref cX) "held_size" = some none)
    (nheld_serversL : PySem.W.findIn K (.ref cL) "held_servers" = some none)
    (nheld_serversX : PySem.W.findIn K (.ref cX) "held_servers" = some none)
    (nheld_entriesL : PySem.W.findIn K (.ref cL) "held_entries" = some none)
    (nheld_entriesX : PySem.W.findIn K (.ref cX) "held_entries" = some none)
    (nnamesF : PySem.W.findIn K (.ref cF) "names" = some none)
    (nseen_entriesF : PySem.W.findIn K (.ref cF) "seen_entries" = some none)
    (nseen_blocksF : PySem.W.findIn K (.ref cF) "seen_blocks" = some none)
    (nholdersF : PySem.W.findIn K (.ref cF) "holders" = some none)
    (nownF : PySem.W.findIn K (.ref cF) "own" = some none)
    (ngreatestF : PySem.W.findIn K (.ref cF) "greatest" = some none)
    (kdL : PySem.W.findIn K (.ref cL) "KIND" = some (some (.str "steady" ts0)))
    (kdX : PySem.W.findIn K (.ref cX) "KIND" = some (some (.str "losing" ts1)))
    (kgL : PySem.W.specialIn K (.str "steady" ts0) "__get__" = some none)
    (kgX : PySem.W.specialIn K (.str "losing" ts1) "__get__" = some none)
    (ccL : PySem.W.findIn K (.ref cL) "__class__" = some (some (.builtin "object.__class__")))
    (ccX : PySem.W.findIn K (.ref cX) "__class__" = some (some (.builtin "object.__class__")))
    (moL : PySem.W.mroIn K cL (.type "object") = some true)
    (moX : PySem.W.mroIn K cX (.type "object") = some true)
    (og : PySem.W.specialIn K (.builtin "object.__class__") "__get__" = some (some (.builtin "getset_descriptor.__get__")))
    (ot : PySem.W.takesIn K (.builtin "object.__class__") = some true)
    (stL : PySem.W.subIn K (.ref cL) (.type "tuple") = some false)
    (stX : PySem.W.subIn K (.ref cX) (.type "tuple") = some false)
    (icL : PySem.W.isClsIn K cL = true)
    (icX : PySem.W.isClsIn K cX = true)
    (tyL : PySem.W.typeIn K (.ref cL) = some (.type "type"))
    (tyX : PySem.W.typeIn K (.ref cX) = some (.type "type"))
    (sXL : PySem.W.subIn K (.ref cX) (.ref cL) = some true)
    (sLX : PySem.W.subIn K (.ref cL) (.ref cX) = some false)
    (neXL : ((Value.ref cX == Value.ref cL) : Bool) = false)
    (neLX : ((Value.ref cL == Value.ref cX) : Bool) = false)
    (g_GREATEST_SIZE : PySem.W.nsIn K mainGlobals "GREATEST_SIZE" = some (some (.int (10 ^ 30) tk0)))
    (g_MOST_SERVERS : PySem.W.nsIn K mainGlobals "MOST_SERVERS" = some (some (.int 12 tk1)))
    (g_MOST_LETTERS : PySem.W.nsIn K mainGlobals "MOST_LETTERS" = some (some (.int 8 tk2)))
    (g_MOST_ENTRIES : PySem.W.nsIn K mainGlobals "MOST_ENTRIES" = some (some (.int 200 tk3)))
    (g_LETTERS : PySem.W.nsIn K mainGlobals "LETTERS" = some (some (.str LETT ts4)))
    (g_LOSING : PySem.W.nsIn K mainGlobals "LOSING" = some (some (.str "losing" ts5)))
    (b_len : PySem.W.nsIn K mainGlobals "len" = some none)
    (b_isinstance : PySem.W.nsIn K mainGlobals "isinstance" = some none)
    (b_int : PySem.W.nsIn K mainGlobals "int" = some none)
    (b_bool : PySem.W.nsIn K mainGlobals "bool" = some none)
    (b_str : PySem.W.nsIn K mainGlobals "str" = some none)
    (b_list : PySem.W.nsIn K mainGlobals "list" = some none)
    (b_tuple : PySem.W.nsIn K mainGlobals "tuple" = some none)
    (b_all : PySem.W.nsIn K mainGlobals "all" = some none)
    (b_set : PySem.W.nsIn K mainGlobals "set" = some none)
    (b_max : PySem.W.nsIn K mainGlobals "max" = some none)
    (b_min : PySem.W.nsIn K mainGlobals "min" = some none)
    (b_abs : PySem.W.nsIn K mainGlobals "abs" = some none)
    (b_range : PySem.W.nsIn K mainGlobals "range" = some none)
    (b_repr : PySem.W.nsIn K mainGlobals "repr" = some none)
    (b_any : PySem.W.nsIn K mainGlobals "any" = some none)
    (b_enumerate : PySem.W.nsIn K mainGlobals "enumerate" = some none)
    (b_sorted : PySem.W.nsIn K mainGlobals "sorted" = some none)
    : ∃ fd : FuncData, (∀ (s : Shared) (v : Value), BindsTo s fd ⟨[v], []⟩ [("script", v)]) ∧ ∀ base : Heap, K.In base → base.Ns mainGlobals mg → FnG P w K mg base 9 fa fd ["script"] (spLaw K) := by
  have e := hfa.symm.trans (PySem.W.mg_of X G a_law)
  obtain rfl : f_law = fa := by cases e; rfl
  have F_is_integer : C8.Fun K "is_integer" "is_integer" s_is_integer f_is_integer _ := ⟨_, _, _, _, _, _, _, _, _, _, rfl, l_is_integer, c_is_integer⟩
  have D_is_integer : Dx K mg "is_integer" s_is_integer ["thing"] := ⟨_, _, ⟨F_is_integer, PySem.W.mg_of X G a_is_integer, k_is_integer⟩, F_is_integer.binds rfl fun _ _ _ _ _ _ us hl => match us, hl with | [_], _ => rfl⟩
  have F_is_size : C8.Fun K "is_size" "is_size" s_is_size f_is_size _ := ⟨_, _, _, _, _, _, _, _, _, _, rfl, l_is_size, c_is_size⟩
  have D_is_size : Dx K mg "is_size" s_is_size ["thing"] := ⟨_, _, ⟨F_is_size, PySem.W.mg_of X G a_is_size, k_is_size⟩, F_is_size.binds rfl fun _ _ _ _ _ _ us hl => match us, hl with | [_], _ => rfl⟩
  have F_is_name : C8.Fun K "is_name" "is_name" s_is_name f_is_name _ := ⟨_, _, _, _, _, _, _, _, _, _, rfl, l_is_name, c_is_name⟩
  have D_is_name : Dx K mg "is_name" s_is_name ["thing"] := ⟨_, _, ⟨F_is_name, PySem.W.mg_of X G a_is_name, k_is_name⟩, F_is_name.binds rfl fun _ _ _ _ _ _ us hl => match us, hl with | [_], _ => rfl⟩
  have F_are_servers : C8.Fun K "are_servers" "are_servers" s_are_servers f_are_servers _ := ⟨_, _, _, _, _, _, _, _, _, _, rfl, l_are_servers, c_are_servers⟩
  have D_are_servers : Dx K mg "are_servers" s_are_servers ["thing"] := ⟨_, _, ⟨F_are_servers, PySem.W.mg_of X G a_are_servers, k_are_servers⟩, F_are_servers.binds rfl fun _ _ _ _ _ _ us hl => match us, hl with | [_], _ => rfl⟩
  have F_is_server : C8.Fun K "is_server" "is_server" s_is_server f_is_server _ := ⟨_, _, _, _, _, _, _, _, _, _, rfl, l_is_server, c_is_server⟩
  have D_is_server : Dx K mg "is_server" s_is_server ["servers", "thing"] := ⟨_, _, ⟨F_is_server, PySem.W.mg_of X G a_is_server, k_is_server⟩, F_is_server.binds rfl fun _ _ _ _ _ _ us hl => match us, hl with | [_, _], _ => rfl⟩
  have F_is_entry : C8.Fun K "is_entry" "is_entry" s_is_entry f_is_entry _ := ⟨_, _, _, _, _, _, _, _, _, _, rfl, l_is_entry, c_is_entry⟩
  have D_is_entry : Dx K mg "is_entry" s_is_entry ["servers", "thing"] := ⟨_, _, ⟨F_is_entry, PySem.W.mg_of X G a_is_entry, k_is_entry⟩, F_is_entry.binds rfl fun _ _ _ _ _ _ us hl => match us, hl with | [_, _], _ => rfl⟩
  have F_are_entries : C8.Fun K "are_entries" "are_entries" s_are_entries f_are_entries _ := ⟨_, _, _, _, _, _, _, _, _, _, rfl, l_are_entries, c_are_entries⟩
  have D_are_entries : Dx K mg "are_entries" s_are_entries ["servers", "thing"] := ⟨_, _, ⟨F_are_entries, PySem.W.mg_of X G a_are_entries, k_are_entries⟩, F_are_entries.binds rfl fun _ _ _ _ _ _ us hl => match us, hl with | [_, _], _ => rfl⟩
  have F_need_server : C8.Fun K "need_server" "need_server" s_need_server f_need_server _ := ⟨_, _, _, _, _, _, _, _, _, _, rfl, l_need_server, c_need_server⟩
  have D_need_server : Dx K mg "need_server" s_need_server ["servers", "thing"] := ⟨_, _, ⟨F_need_server, PySem.W.mg_of X G a_need_server, k_need_server⟩, F_need_server.binds rfl fun _ _ _ _ _ _ us hl => match us, hl with | [_, _], _ => rfl⟩
  have F_facts_of : C8.Fun K "facts_of" "facts_of" s_facts_of f_facts_of _ := ⟨_, _, _, _, _, _, _, _, _, _, rfl, l_facts_of, c_facts_of⟩
  have D_facts_of : Dx K mg "facts_of" s_facts_of ["log"] := ⟨_, _, ⟨F_facts_of, PySem.W.mg_of X G a_facts_of, k_facts_of⟩, F_facts_of.binds rfl fun _ _ _ _ _ _ us hl => match us, hl with | [_], _ => rfl⟩
  have F_window : C8.Fun K "window" "window" s_window f_window _ := ⟨_, _, _, _, _, _, _, _, _, _, rfl, l_window, c_window⟩
  have D_window : Dk K mg "window" s_window ["log", "server", "block"] := ⟨_, _, ⟨F_window, PySem.W.mg_of X G a_window, k_window⟩, (F_window.binds rfl fun _ _ _ _ _ _ us hl => match us, hl with | [_, _, _], _ => rfl), rfl⟩
  have F__law_feed : C8.Fun K "_law_feed" "_law_feed" s__law_feed f__law_feed _ := ⟨_, _, _, _, _, _, _, _, _, _, rfl, l__law_feed, c__law_feed⟩
  have D__law_feed : Dx K mg "_law_feed" s__law_feed ["script", "k"] := ⟨_, _, ⟨F__law_feed, PySem.W.mg_of X G a__law_feed, k__law_feed⟩, F__law_feed.binds rfl fun _ _ _ _ _ _ us hl => match us, hl with | [_, _], _ => rfl⟩
  have F__law_pick : C8.Fun K "_law_pick" "_law_pick" s__law_pick f__law_pick _ := ⟨_, _, _, _, _, _, _, _, _, _, rfl, l__law_pick, c__law_pick⟩
  have D__law_pick : Dx K mg "_law_pick" s__law_pick ["feed", "many"] := ⟨_, _, ⟨F__law_pick, PySem.W.mg_of X G a__law_pick, k__law_pick⟩, F__law_pick.binds rfl fun _ _ _ _ _ _ us hl => match us, hl with | [_, _], _ => rfl⟩
  have F__law_crew : C8.Fun K "_law_crew" "_law_crew" s__law_crew f__law_crew _ := ⟨_, _, _, _, _, _, _, _, _, _, rfl, l__law_crew, c__law_crew⟩
  have D__law_crew : Dx K mg "_law_crew" s__law_crew ["feed", "most"] := ⟨_, _, ⟨F__law_crew, PySem.W.mg_of X G a__law_crew, k__law_crew⟩, F__law_crew.binds rfl fun _ _ _ _ _ _ us hl => match us, hl with | [_, _], _ => rfl⟩
  have F__law_entries : C8.Fun K "_law_entries" "_law_entries" s__law_entries f__law_entries _ := ⟨_, _, _, _, _, _, _, _, _, _, rfl, l__law_entries, c__law_entries⟩
  have D__law_entries : Dx K mg "_law_entries" s__law_entries ["feed", "crew", "most", "limit"] := ⟨_, _, ⟨F__law_entries, PySem.W.mg_of X G a__law_entries, k__law_entries⟩, F__law_entries.binds rfl fun _ _ _ _ _ _ us hl => match us, hl with | [_, _, _, _], _ => rfl⟩
  have F__law_made : C8.Fun K "_law_made" "_law_made" s__law_made f__law_made _ := ⟨_, _, _, _, _, _, _, _, _, _, rfl, l__law_made, c__law_made⟩
  have D__law_made : Dx K mg "_law_made" s__law_made ["kind", "unit", "crew", "shown"] := ⟨_, _, ⟨F__law_made, PySem.W.mg_of X G a__law_made, k__law_made⟩, F__law_made.binds rfl fun _ _ _ _ _ _ us hl => match us, hl with | [_, _, _, _], _ => rfl⟩
  have F__law_story : C8.Fun K "_law_story" "_law_story" s__law_story f__law_story _ := ⟨_, _, _, _, _, _, _, _, _, _, rfl, l__law_story, c__law_story⟩
  have D__law_story : Dx K mg "_law_story" s__law_story ["feed", "unit", "crew", "most", "far"] := ⟨_, _, ⟨F__law_story, PySem.W.mg_of X G a__law_story, k__law_story⟩, F__law_story.binds rfl fun _ _ _ _ _ _ us hl => match us, hl with | [_, _, _, _, _], _ => rfl⟩
  have F__law_window : C8.Fun K "_law_window" "_law_window" s__law_window f__law_window _ := ⟨_, _, _, _, _, _, _, _, _, _, rfl, l__law_window, c__law_window⟩
  have D__law_window : Dx K mg "_law_window" s__law_window ["shown", "unit", "name", "wanted"] := ⟨_, _, ⟨F__law_window, PySem.W.mg_of X G a__law_window, k__law_window⟩, F__law_window.binds rfl fun _ _ _ _ _ _ us hl => match us, hl with | [_, _, _, _], _ => rfl⟩
  have F__law_blocks : C8.Fun K "_law_blocks" "_law_blocks" s__law_blocks f__law_blocks _ := ⟨_, _, _, _, _, _, _, _, _, _, rfl, l__law_blocks, c__law_blocks⟩
  have D__law_blocks : Dx K mg "_law_blocks" s__law_blocks ["feed", "shown", "unit"] := ⟨_, _, ⟨F__law_blocks, PySem.W.mg_of X G a__law_blocks, k__law_blocks⟩, F__law_blocks.binds rfl fun _ _ _ _ _ _ us hl => match us, hl with | [_, _, _], _ => rfl⟩
  have F__law_right : C8.Fun K "_law_right" "_law_right" s__law_right f__law_right _ := ⟨_, _, _, _, _, _, _, _, _, _, rfl, l__law_right, c__law_right⟩
  have D__law_right : Dx K mg "_law_right" s__law_right ["feed", "kind", "unit", "crew", "shown", "most"] := ⟨_, _, ⟨F__law_right, PySem.W.mg_of X G a__law_right, k__law_right⟩, F__law_right.binds rfl fun _ _ _ _ _ _ us hl => match us, hl with | [_, _, _, _, _, _], _ => rfl⟩
  have F_law : C8.Fun K "law" "law" s_law _ _ := ⟨_, _, _, _, _, _, _, _, _, _, rfl, l_law, c_law⟩
  have FI : C8.Fun K "__init__" "Log.__init__" s_Log___init__ fMI _ := ⟨_, _, _, _, _, _, _, _, _, _, rfl, lMI, cMI⟩
  have MI : Mx K "__init__" "Log.__init__" s_Log___init__ ["self", "size", "servers", "entries"] fMI _ := ⟨FI, FI.binds rfl fun _ _ _ _ _ _ us hl => match us, hl with | [_, _, _, _], _ => rfl⟩
  have FZ : C8.Fun K "size" "Log.size" s_Log_size fMZ _ := ⟨_, _, _, _, _, _, _, _, _, _, rfl, lMZ, cMZ⟩
  have MZ : Mx K "size" "Log.size" s_Log_size ["self"] fMZ _ := ⟨FZ, FZ.binds rfl fun _ _ _ _ _ _ us hl => match us, hl with | [_], _ => rfl⟩
  have FV : C8.Fun K "servers" "Log.servers" s_Log_servers fMV _ := ⟨_, _, _, _, _, _, _, _, _, _, rfl, lMV, cMV⟩
  have MV : Mx K "servers" "Log.servers" s_Log_servers ["self"] fMV _ := ⟨FV, FV.binds rfl fun _ _ _ _ _ _ us hl => match us, hl with | [_], _ => rfl⟩
  have FE : C8.Fun K "entries" "Log.entries" s_Log_entries fME _ := ⟨_, _, _, _, _, _, _, _, _, _, rfl, lME, cME⟩
  have ME : Mx K "entries" "Log.entries" s_Log_entries ["self"] fME _ := ⟨FE, FE.binds rfl fun _ _ _ _ _ _ us hl => match us, hl with | [_], _ => rfl⟩
  have FFI : C8.Fun K "__init__" "Facts.__init__" s_Facts___init__ fMFI _ := ⟨_, _, _, _, _, _, _, _, _, _, rfl, lMFI, cMFI⟩
  have MFI : Mx K "__init__" "Facts.__init__" s_Facts___init__ ["self", "size", "servers", "entries"] fMFI _ := ⟨FFI, FFI.binds rfl fun _ _ _ _ _ _ us hl => match us, hl with | [_, _, _, _], _ => rfl⟩
  have FFW : C8.Fun K "window_of" "Facts.window_of" s_Facts_window_of fMFW _ := ⟨_, _, _, _, _, _, _, _, _, _, rfl, lMFW, cMFW⟩
  have MFW : Mx K "window_of" "Facts.window_of" s_Facts_window_of ["self", "server", "block"] fMFW _ := ⟨FFW, FFW.binds rfl fun _ _ _ _ _ _ us hl => match us, hl with | [_, _, _], _ => rfl⟩
  have CL : LogC K cL "steady" := ⟨⟨pgtL, hdL, poL, saL⟩, nheld_sizeL, nheld_serversL, nheld_entriesL, ⟨_, kdL, ⟨_, rfl⟩, kgL, by decide +kernel⟩, fun H p dx fs hp => .base (.ins hp ⟨pgtL, hdL, poL, saL⟩ ccL og ot moL), kit_tyR stL (by decide +kernel)⟩
  have CX : LogC K cX "losing" := ⟨⟨pgtX, hdX, poX, saX⟩, nheld_sizeX, nheld_serversX, nheld_entriesX, ⟨_, kdX, ⟨_, rfl⟩, kgX, by decide +kernel⟩, fun H p dx fs hp => .base (.ins hp ⟨pgtX, hdX, poX, saX⟩ ccX og ot moX), kit_tyR stX (by decide +kernel)⟩
  have kLL : PySem.W.kitOne K (.ref cL) (.ref cL) = some true := kit_same
  have kXX : PySem.W.kitOne K (.ref cX) (.ref cX) = some true := kit_same
  have kXL : PySem.W.kitOne K (.ref cX) (.ref cL) = some true := kit_ref icL tyL sXL neXL
  have kLX : PySem.W.kitOne K (.ref cL) (.ref cX) = some false := kit_ref icX tyX sLX neLX
  have T : Tx K mg cL cX := {
    n_len := PySem.W.mg_none_of X G b_len
    n_isinstance := PySem.W.mg_none_of X G b_isinstance
    n_int := PySem.W.mg_none_of X G b_int
    n_bool := PySem.W.mg_none_of X G b_bool
    n_str := PySem.W.mg_none_of X G b_str
    n_list := PySem.W.mg_none_of X G b_list
    n_tuple := PySem.W.mg_none_of X G b_tuple
    n_all := PySem.W.mg_none_of X G b_all
    n_set := PySem.W.mg_none_of X G b_set
    n_max := PySem.W.mg_none_of X G b_max
    n_min := PySem.W.mg_none_of X G b_min
    n_abs := PySem.W.mg_none_of X G b_abs
    n_range := PySem.W.mg_none_of X G b_range
    n_repr := PySem.W.mg_none_of X G b_repr
    g_GREATEST_SIZE := ⟨_, PySem.W.mg_of X G g_GREATEST_SIZE, ⟨_, rfl⟩⟩
    g_MOST_SERVERS := ⟨_, PySem.W.mg_of X G g_MOST_SERVERS, ⟨_, rfl⟩⟩
    g_MOST_LETTERS := ⟨_, PySem.W.mg_of X G g_MOST_LETTERS, ⟨_, rfl⟩⟩
    g_MOST_ENTRIES := ⟨_, PySem.W.mg_of X G g_MOST_ENTRIES, ⟨_, rfl⟩⟩
    g_LETTERS := ⟨_, PySem.W.mg_of X G g_LETTERS, ⟨_, rfl⟩⟩
    g_LOSING := ⟨_, PySem.W.mg_of X G g_LOSING, ⟨_, rfl⟩⟩
    g_Log := ⟨_, PySem.W.mg_of X G gL, rfl⟩
    g_LosingLog := ⟨_, PySem.W.mg_of X G gX, rfl⟩
    cl1 := CL
    cl2 := CX
    ll := kLL
    xl := kXL
    lx := kLX
    xx := kXX }
  have Ms' : Ms K ⟨fMI, fMZ, fMV, fME, (PySem.W.fnOf "__init__" "Log.__init__" (fnArgs s_Log___init__) (fnBody s_Log___init__) (fnScope s_Log___init__) .none kVMI dcMI pmMI anMI cdMI ctMI), (PySem.W.fnOf "size" "Log.size" (fnArgs s_Log_size) (fnBody s_Log_size) (fnScope s_Log_size) .none kVMZ dcMZ pmMZ anMZ cdMZ ctMZ), (PySem.W.fnOf "servers" "Log.servers" (fnArgs s_Log_servers) (fnBody s_Log_servers) (fnScope s_Log_servers) .none kVMV dcMV pmMV anMV cdMV ctMV), (PySem.W.fnOf "entries" "Log.entries" (fnArgs s_Log_entries) (fnBody s_Log_entries) (fnScope s_Log_entries) .none kVME dcME pmME anME cdME ctME)⟩ := ⟨MI, MZ, MV, ME⟩
  have ML' : LogM K cL "steady" ⟨fMI, fMZ, fMV, fME, (PySem.W.fnOf "__init__" "Log.__init__" (fnArgs s_Log___init__) (fnBody s_Log___init__) (fnScope s_Log___init__) .none kVMI dcMI pmMI anMI cdMI ctMI), (PySem.W.fnOf "size" "Log.size" (fnArgs s_Log_size) (fnBody s_Log_size) (fnScope s_Log_size) .none kVMZ dcMZ pmMZ anMZ cdMZ ctMZ), (PySem.W.fnOf "servers" "Log.servers" (fnArgs s_Log_servers) (fnBody s_Log_servers) (fnScope s_Log_servers) .none kVMV dcMV pmMV anMV cdMV ctMV), (PySem.W.fnOf "entries" "Log.entries" (fnArgs s_Log_entries) (fnBody s_Log_entries) (fnScope s_Log_entries) .none kVME dcME pmME anME cdME ctME)⟩ := { CL with
    mkk := ⟨mkL, mLI, miI, kcL⟩
    pZ := ⟨_, pZL, pgZ, ptZ, _, prZ⟩
    pV := ⟨_, pVL, pgV, ptV, _, prV⟩
    pE := ⟨_, pEL, pgE, ptE, _, prE⟩
    }
  have MX' : LogM K cX "losing" ⟨fMI, fMZ, fMV, fME, (PySem.W.fnOf "__init__" "Log.__init__" (fnArgs s_Log___init__) (fnBody s_Log___init__) (fnScope s_Log___init__) .none kVMI dcMI pmMI anMI cdMI ctMI), (PySem.W.fnOf "size" "Log.size" (fnArgs s_Log_size) (fnBody s_Log_size) (fnScope s_Log_size) .none kVMZ dcMZ pmMZ anMZ cdMZ ctMZ), (PySem.W.fnOf "servers" "Log.servers" (fnArgs s_Log_servers) (fnBody s_Log_servers) (fnScope s_Log_servers) .none kVMV dcMV pmMV anMV cdMV ctMV), (PySem.W.fnOf "entries" "Log.entries" (fnArgs s_Log_entries) (fnBody s_Log_entries) (fnScope s_Log_entries) .none kVME dcME pmME anME cdME ctME)⟩ := { CX with
    mkk := ⟨mkX, mXI, miI, kcX⟩
    pZ := ⟨_, pZX, pgZ, ptZ, _, prZ⟩
    pV := ⟨_, pVX, pgV, ptV, _, prV⟩
    pE := ⟨_, pEX, pgE, ptE, _, prE⟩
    }
  have LF : FactM K cF fMFW := { cl := ⟨pgtF, hdF, poF, saF⟩, nN := nnamesF, nE := nseen_entriesF, nB := nseen_blocksF, nH := nholdersF, nO := nownF, nG := ngreatestF, mW := ⟨mFW, miFW, kFW⟩ }
  have S : Tops K mg cL cX cF _ ⟨fMFI, fMFW, (PySem.W.fnOf "__init__" "Facts.__init__" (fnArgs s_Facts___init__) (fnBody s_Facts___init__) (fnScope s_Facts___init__) .none kVMFI dcMFI pmMFI anMFI cdMFI ctMFI), (PySem.W.fnOf "window_of" "Facts.window_of" (fnArgs s_Facts_window_of) (fnBody s_Facts_window_of) (fnScope s_Facts_window_of) .none kVMFW dcMFW pmMFW anMFW cdMFW ctMFW)⟩ := ⟨T, PySem.W.mg_none_of X G b_any, PySem.W.mg_none_of X G b_enumerate, PySem.W.mg_none_of X G b_sorted, ML', MX', Ms', LF, ⟨mkF, mFI, miFI, kcF⟩, MFI, MFW, PySem.W.mg_of X G gL, PySem.W.mg_of X G gX, PySem.W.mg_of X G gF, D_is_integer, D_is_size, D_is_name, D_are_servers, D_is_server, D_is_entry, D_are_entries, D_need_server, D_facts_of, D_window, D__law_feed, D__law_pick, D__law_crew, D__law_entries, D__law_made, D__law_story, D__law_window, D__law_blocks, D__law_right⟩
  exact ⟨_, fun s v => .of_eq rfl, fun base _ _ => ok_law S F_law⟩
end NB

set_option Elab.async false
set_option maxRecDepth 100000
set_option maxHeartbeats 0
open PySem PySem.W PyProof.Rows
theorem PySem.Challenge.cw_numberbooks_k05_windows_holds : PySem.Challenge.rw_numberbooks_k05_windows.Holds := by
  refine hd ?_
  k_fill
  refine NB.walk_g (l := PySem.Challenge.rw_numberbooks_k05_windows) (n := 63) (k := 9) (x := "script") (sp := NB.spLaw) rfl (by decide) rfl ⟨rfl, by decide, by decide⟩ (fun w h Y => PySem.W.kIn_of Y) ?F (fun K H a ns hl _ hS => ⟨a, ns, rfl, hS, hl, fun _ => rfl⟩)
  case F =>
    intro w mg fa h KX G hmg
    refine' NB.all_mk KX G hmg ?a_is_integer ?l_is_integer ?c_is_integer ?k_is_integer ?a_is_size ?l_is_size ?c_is_size ?k_is_size ?a_is_name ?l_is_name ?c_is_name ?k_is_name ?a_are_servers ?l_are_servers ?c_are_servers ?k_are_servers ?a_is_server ?l_is_server ?c_is_server ?k_is_server ?a_is_entry ?l_is_entry ?c_is_entry ?k_is_entry ?a_are_entries ?l_are_entries ?c_are_entries ?k_are_entries ?a_need_server ?l_need_server ?c_need_server ?k_need_server ?a_facts_of ?l_facts_of ?c_facts_of ?k_facts_of ?a_window ?l_window ?c_window ?k_window ?a__law_feed ?l__law_feed ?c__law_feed ?k__law_feed ?a__law_pick ?l__law_pick ?c__law_pick ?k__law_pick ?a__law_crew ?l__law_crew ?c__law_crew ?k__law_crew ?a__law_entries ?l__law_entries ?c__law_entries ?k__law_entries ?a__law_made ?l__law_made ?c__law_made ?k__law_made ?a__law_story ?l__law_story ?c__law_story ?k__law_story ?a__law_window ?l__law_window ?c__law_window ?k__law_window ?a__law_blocks ?l__law_blocks ?c__law_blocks ?k__law_blocks ?a__law_right ?l__law_right ?c__law_right ?k__law_right ?a_law ?l_law ?c_law ?k_law ?gL ?gX ?gF ?mLI ?mXI ?miI ?lMI ?cMI ?pZL ?pZX ?pgZ ?ptZ ?prZ ?lMZ ?cMZ ?pVL ?pVX ?pgV ?ptV ?prV ?lMV ?cMV ?pEL ?pEX ?pgE ?ptE ?prE ?lME ?cME ?mFI ?miFI ?lMFI ?cMFI ?mFW ?miFW ?lMFW ?cMFW ?kFW ?pgtL ?pgtX ?pgtF ?hdL ?hdX ?hdF ?poL ?poX ?poF ?saL ?saX ?saF ?mkL ?mkX ?mkF ?kcL ?kcX ?kcF ?nheld_sizeL ?nheld_sizeX ?nheld_serversL ?nheld_serversX ?nheld_entriesL ?nheld_entriesX ?nnamesF ?nseen_entriesF ?nseen_blocksF ?nholdersF ?nownF ?ngreatestF ?kdL ?kdX ?kgL ?kgX ?ccL ?ccX ?moL ?moX ?og ?ot ?stL ?stX ?icL ?icX ?tyL ?tyX ?sXL ?sLX ?neXL ?neLX ?g_GREATEST_SIZE ?g_MOST_SERVERS ?g_MOST_LETTERS ?g_MOST_ENTRIES ?g_LETTERS ?g_LOSING ?b_len ?b_isinstance ?b_int ?b_bool ?b_str ?b_list ?b_tuple ?b_all ?b_set ?b_max ?b_min ?b_abs ?b_range ?b_repr ?b_any ?b_enumerate ?b_sorted
    (case a_is_integer => first | k_is | rfl)
    (case l_is_integer => first | k_is | rfl)
    (case c_is_integer => first | k_is | rfl)
    (case k_is_integer => first | k_is | rfl)
    (case a_is_size => first | k_is | rfl)
    (case l_is_size => first | k_is | rfl)
    (case c_is_size => first | k_is | rfl)
    (case k_is_size => first | k_is | rfl)
    (case a_is_name => first | k_is | rfl)
    (case l_is_name => first | k_is | rfl)
    (case c_is_name => first | k_is | rfl)
    (case k_is_name => first | k_is | rfl)
    (case a_are_servers => first | k_is | rfl)
    (case l_are_servers => first | k_is | rfl)
    (case c_are_servers => first | k_is | rfl)
    (case k_are_servers => first | k_is | rfl)
    (case a_is_server => first | k_is | rfl)
    (case l_is_server => first | k_is | rfl)
    (case c_is_server => first | k_is | rfl)
    (case k_is_server => first | k_is | rfl)
    (case a_is_entry => first | k_is | rfl)
    (case l_is_entry => first | k_is | rfl)
    (case c_is_entry => first | k_is | rfl)
    (case k_is_entry => first | k_is | rfl)
    (case a_are_entries => first | k_is | rfl)
    (case l_are_entries => first | k_is | rfl)
    (case c_are_entries => first | k_is | rfl)
    (case k_are_entries => first | k_is | rfl)
    (case a_need_server => first | k_is | rfl)
    (case l_need_server => first | k_is | rfl)
    (case c_need_server => first | k_is | rfl)
    (case k_need_server => first | k_is | rfl)
    (case a_facts_of => first | k_is | rfl)
    (case l_facts_of => first | k_is | rfl)
    (case c_facts_of => first | k_is | rfl)
    (case k_facts_of => first | k_is | rfl)
    (case a_window => first | k_is | rfl)
    (case l_window => first | k_is | rfl)
    (case c_window => first | k_is | rfl)
    (case k_window => first | k_is | rfl)
    (case a__law_feed => first | k_is | rfl)
    (case l__law_feed => first | k_is | rfl)
    (case c__law_feed => first | k_is | rfl)
    (case k__law_feed => first | k_is | rfl)
    (case a__law_pick => first | k_is | rfl)
    (case l__law_pick => first | k_is | rfl)
    (case c__law_pick => first | k_is | rfl)
    (case k__law_pick => first | k_is | rfl)
    (case a__law_crew => first | k_is | rfl)
    (case l__law_crew => first | k_is | rfl)
    (case c__law_crew => first | k_is | rfl)
    (case k__law_crew => first | k_is | rfl)
    (case a__law_entries => first | k_is | rfl)
    (case l__law_entries => first | k_is | rfl)
    (case c__law_entries => first | k_is | rfl)
    (case k__law_entries => first | k_is | rfl)
    (case a__law_made => first | k_is | rfl)
    (case l__law_made => first | k_is | rfl)
    (case c__law_made => first | k_is | rfl)
    (case k__law_made => first | k_is | rfl)
    (case a__law_story => first | k_is | rfl)
    (case l__law_story => first | k_is | rfl)
    (case c__law_story => first | k_is | rfl)
    (case k__law_story => first | k_is | rfl)
    (case a__law_window => first | k_is | rfl)
    (case l__law_window => first | k_is | rfl)
    (case c__law_window => first | k_is | rfl)
    (case k__law_window => first | k_is | rfl)
    (case a__law_blocks => first | k_is | rfl)
    (case l__law_blocks => first | k_is | rfl)
    (case c__law_blocks => first | k_is | rfl)
    (case k__law_blocks => first | k_is | rfl)
    (case a__law_right => first | k_is | rfl)
    (case l__law_right => first | k_is | rfl)
    (case c__law_right => first | k_is | rfl)
    (case k__law_right => first | k_is | rfl)
    (case a_law => first | k_is | rfl)
    (case l_law => first | k_is | rfl)
    (case c_law => first | k_is | rfl)
    (case k_law => first | k_is | rfl)
    (case gL => first | k_is | rfl)
    (case gX => first | k_is | rfl)
    (case gF => first | k_is | rfl)
    (case mLI => first | k_is | rfl)
    (case mXI => first | k_is | rfl)
    (case miI => first | k_is | rfl)
    (case lMI => first | k_is | rfl)
    (case cMI => first | k_is | rfl)
    (case pZL => first | k_is | rfl)
    (case pZX => first | k_is | rfl)
    (case pgZ => first | k_is | rfl)
    (case ptZ => first | k_is | rfl)
    (case prZ => first | k_is | rfl)
    (case lMZ => first | k_is | rfl)
    (case cMZ => first | k_is | rfl)
    (case pVL => first | k_is | rfl)
    (case pVX => first | k_is | rfl)
    (case pgV => first | k_is | rfl)
    (case ptV => first | k_is | rfl)
    (case prV => first | k_is | rfl)
    (case lMV => first | k_is | rfl)
    (case cMV => first | k_is | rfl)
    (case pEL => first | k_is | rfl)
    (case pEX => first | k_is | rfl)
    (case pgE => first | k_is | rfl)
    (case ptE => first | k_is | rfl)
    (case prE => first | k_is | rfl)
    (case lME => first | k_is | rfl)
    (case cME => first | k_is | rfl)
    (case mFI => first | k_is | rfl)
    (case miFI => first | k_is | rfl)
    (case lMFI => first | k_is | rfl)
    (case cMFI => first | k_is | rfl)
    (case mFW => first | k_is | rfl)
    (case miFW => first | k_is | rfl)
    (case lMFW => first | k_is | rfl)
    (case cMFW => first | k_is | rfl)
    (case kFW => first | k_is | rfl)
    (case pgtL => first | k_is | rfl)
    (case pgtX => first | k_is | rfl)
    (case pgtF => first | k_is | rfl)
    (case hdL => first | k_is | rfl)
    (case hdX => first | k_is | rfl)
    (case hdF => first | k_is | rfl)
    (case poL => first | k_is | rfl)
    (case poX => first | k_is | rfl)
    (case poF => first | k_is | rfl)
    (case saL => first | k_is | rfl)
    (case saX => first | k_is | rfl)
    (case saF => first | k_is | rfl)
    (case mkL => first | k_is | rfl)
    (case mkX => first | k_is | rfl)
    (case mkF => first | k_is | rfl)
    (case kcL => first | k_is | rfl)
    (case kcX => first | k_is | rfl)
    (case kcF => first | k_is | rfl)
    (case nheld_sizeL => first | k_is | rfl)
    (case nheld_sizeX => first | k_is | rfl)
    (case nheld_serversL => first | k_is | rfl)
    (case nheld_serversX => first | k_is | rfl)
    (case nheld_entriesL => first | k_is | rfl)
    (case nheld_entriesX => first | k_is | rfl)
    (case nnamesF => first | k_is | rfl)
    (case nseen_entriesF => first | k_is | rfl)
    (case nseen_blocksF => first | k_is | rfl)
    (case nholdersF => first | k_is | rfl)
    (case nownF => first | k_is | rfl)
    (case ngreatestF => first | k_is | rfl)
    (case kdL => first | k_is | rfl)
    (case kdX => first | k_is | rfl)
    (case kgL => first | k_is | rfl)
    (case kgX => first | k_is | rfl)
    (case ccL => first | k_is | rfl)
    (case ccX => first | k_is | rfl)
    (case moL => first | k_is | rfl)
    (case moX => first | k_is | rfl)
    (case og => first | k_is | rfl)
    (case ot => first | k_is | rfl)
    (case stL => first | k_is | rfl)
    (case stX => first | k_is | rfl)
    (case icL => first | k_is | rfl)
    (case icX => first | k_is | rfl)
    (case tyL => first | k_is | rfl)
    (case tyX => first | k_is | rfl)
    (case sXL => first | k_is | rfl)
    (case sLX => first | k_is | rfl)
    (case neXL => first | k_is | rfl)
    (case neLX => first | k_is | rfl)
    (case g_GREATEST_SIZE => first | k_is | rfl)
    (case g_MOST_SERVERS => first | k_is | rfl)
    (case g_MOST_LETTERS => first | k_is | rfl)
    (case g_MOST_ENTRIES => first | k_is | rfl)
    (case g_LETTERS => first | k_is | rfl)
    (case g_LOSING => first | k_is | rfl)
    (case b_len => first | k_is | rfl)
    (case b_isinstance => first | k_is | rfl)
    (case b_int => first | k_is | rfl)
    (case b_bool => first | k_is | rfl)
    (case b_str => first | k_is | rfl)
    (case b_list => first | k_is | rfl)
    (case b_tuple => first | k_is | rfl)
    (case b_all => first | k_is | rfl)
    (case b_set => first | k_is | rfl)
    (case b_max => first | k_is | rfl)
    (case b_min => first | k_is | rfl)
    (case b_abs => first | k_is | rfl)
    (case b_range => first | k_is | rfl)
    (case b_repr => first | k_is | rfl)
    (case b_any => first | k_is | rfl)
    (case b_enumerate => first | k_is | rfl)
    (case b_sorted => first | k_is | rfl)

