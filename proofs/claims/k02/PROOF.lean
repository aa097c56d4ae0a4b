import PyProof.Rows.All
import Wide.All
import OpenK.AllK
import Wide.FinOn
import HandS.Base
import HandS.Call
import HandS.List
import HandS.Comp
import HandS.Codes
import HandS.OwnEq
import HandS.Ends
import HandS.Words
import PyProof.NoPylong
import PyProof.Fits
import HandS.ForMost
import HandS.IsInst
import HandS.Property
import HandS.MakeKwOnly
import HandS.WideBits
import HandS.Deep
import HandS.Wide
import PyProof.ReprRoads
import PyProof.ReprReads
import OpenK.KOps
import OpenK.KMeth
import HandS.Strs
import PyProof.ReprLen
import PyProof.InstEq
import PyProof.InstNe
import HandS.ForExc
import HandS.SetFor
import PySem.Challenge.RW_numberbooks_k02_logs_joined_and_cut
set_option Elab.async false
set_option linter.all false
set_option maxRecDepth 100000
/-! B1: rules whose readings compute: ints, tests, names -/
namespace NB
open PySem PySem.Spec PyProof.Rows L2

/-- two whole numbers, under C -/
@[reducible] def mI (C : Int → Int → Prop) (g : Int → Int → V) : R2 := fun x y H Q =>
  match x, y with
  | .int i, .int j => C i j ∧ Q (g i j) H
  | _, _ => False
@[reducible] def mI0 (g : Int → Int → V) : R2 := fun x y H Q =>
  match x, y with
  | .int i, .int j => Q (g i j) H
  | _, _ => False
@[reducible] def mU (g : Int → V) : V → Hp → VK → Prop := fun x H Q =>
  match x with
  | .int i => Q (g i) H
  | _ => False
section
variable {X : Cx}
theorem m_of {f : Value → Value → Sem Value} {C : Int → Int → Prop} {g : Int → Int → V} (h : OpR X f (rI C g)) : OpR X f (mI C g) := by
  intro pins s σ H x y v u Q I rx ry q
  cases x <;> cases y <;> first | exact False.elim q | exact h pins s σ H _ _ v u Q I rx ry ⟨_, _, rfl, rfl, q⟩
theorem m_of0 {f : Value → Value → Sem Value} {g : Int → Int → V} (h : OpR X f (rI0 g)) : OpR X f (mI0 g) := by
  intro pins s σ H x y v u Q I rx ry q
  cases x <;> cases y <;> first | exact False.elim q | exact h pins s σ H _ _ v u Q I rx ry ⟨_, _, rfl, rfl, q⟩
theorem m_ofU {f : Value → Sem Value} {g : Int → V} (h : UnR X f (rU g)) : UnR X f (mU g) := by
  intro pins s σ H x v Q I rx q
  cases x <;> first | exact False.elim q | exact h pins s σ H _ v Q I rx ⟨_, rfl, q⟩
/-- a divisor that is positive and has less than 9000 bits -/
def CDv (_ j : Int) : Prop := 0 < j ∧ j.natAbs.log2 < 9000
theorem o_fdiv : OpR X (binaryOp .FloorDiv) (rI CDv fun i j => .int (i / j)) := opI fun i j _ _ _ _ _ hc q => by
  have h1 : (0 : Int) < j := hc.1
  refine floordiv_int (by omega) ?_ (.inl (PyProof.noPylong_of_log2 hc.2))
  rw [Int.fdiv_eq_ediv_of_nonneg i (by omega)]
  exact q
theorem o_mul : OpR X (binaryOp .Mult) (rI IntMulOk fun i j => .int (i * j)) := opI fun _ _ _ _ _ _ _ hc q => mul_int q hc
theorem m_add : OpR X (binaryOp .Add) (mI0 fun i j => .int (i + j)) := m_of0 op_add
theorem m_sub : OpR X (binaryOp .Sub) (mI0 fun i j => .int (i - j)) := m_of0 op_sub
theorem m_mul : OpR X (binaryOp .Mult) (mI IntMulOk fun i j => .int (i * j)) := m_of o_mul
theorem m_div : OpR X (binaryOp .FloorDiv) (mI CDv fun i j => .int (i / j)) := m_of o_fdiv
theorem m_mod : OpR X (binaryOp .Mod) (mI (fun _ j => 0 < j) fun i j => .int (i % j)) := m_of op_mod
theorem m_pow : OpR X (binaryOp .Pow) (mI CPow fun i j => .int (i ^ j.toNat)) := m_of op_pow
theorem m_lt : OpR X (compareOp .Lt) (mI0 fun i j => .bl (decide (i < j))) := m_of0 op_lt
theorem m_le : OpR X (compareOp .LtE) (mI0 fun i j => .bl (decide (i ≤ j))) := m_of0 op_le
theorem m_gt : OpR X (compareOp .Gt) (mI0 fun i j => .bl (decide (j < i))) := m_of0 op_gt
theorem m_ge : OpR X (compareOp .GtE) (mI0 fun i j => .bl (decide (j ≤ i))) := m_of0 op_ge
theorem m_neg : UnR X (unaryOp .USub) (mU fun i => .int (-i)) := m_ofU un_neg
/-- == and != of numbers, texts, bools -/
@[reducible] def mEqG (f : Bool → Bool) : R2 := fun x y H Q =>
  match x, y with
  | .int i, .int j => Q (.bl (f (decide (i = j)))) H
  | .str i, .str j => Q (.bl (f (decide (i = j)))) H
  | .bl i, .bl j => Q (.bl (f (decide (i = j)))) H
  | _, _ => False
theorem dec_i {i j : Int} : decide (V.int i = V.int j) = decide (i = j) := by
  by_cases h : i = j
  · rw [h, decide_eq_true rfl, decide_eq_true rfl]
  · rw [decide_eq_false h, decide_eq_false (fun e => h (V.int.inj e))]
theorem dec_s {i j : Str} : decide (V.str i = V.str j) = decide (i = j) := by
  by_cases h : i = j
  · rw [h, decide_eq_true rfl, decide_eq_true rfl]
  · rw [decide_eq_false h, decide_eq_false (fun e => h (V.str.inj e))]
theorem dec_b {i j : Bool} : decide (V.bl i = V.bl j) = decide (i = j) := by
  cases i <;> cases j <;> rfl
theorem m_eq : OpR X (compareOp .Eq) (mEqG fun b => b) := by
  intro pins s σ H x y v u Q I rx ry q
  cases x <;> cases y <;> first | exact False.elim q | exact op_eq pins s σ H _ _ v u Q I rx ry ⟨rfl, by first | (rw [dec_i]; exact q) | (rw [dec_s]; exact q) | (rw [dec_b]; exact q)⟩
theorem m_ne : OpR X (compareOp .NotEq) (mEqG fun b => !b) := by
  intro pins s σ H x y v u Q I rx ry q
  cases x <;> cases y <;> first | exact False.elim q | exact op_ne pins s σ H _ _ v u Q I rx ry ⟨rfl, by first | (rw [dec_i]; exact q) | (rw [dec_s]; exact q) | (rw [dec_b]; exact q)⟩
end

/-- a value that is a bool, as a test -/
@[reducible] def kB (Q : Bool → Hp → Prop) : VK := fun x H => match x with
  | .bl c => Q c H
  | _ => False
@[reducible] def mT (t : TE) : TT := fun σ H Q => t σ H (kB Q)
section
variable {X : Cx} {a b c : Expr} {ta tb tc : TE} {pos : Pos}
theorem kB_ok {Q : Bool → Hp → Prop} {x : V} {H : Hp} (h : kB Q x H) : ∃ k, x = .bl k ∧ Q k H := by
  cases x <;> first | exact False.elim h | exact ⟨_, rfl, h⟩
/-- a comparison as a test -/
theorem qt {op : CmpOp} {r : R2} (ho : OpR X (compareOp op) r) (ha : PE X a ta) (hb : PE X b tb) (hm : behindInMarks op b = false) : PT X (.Compare a [op] [b] pos) (mT (tOp r ta tb)) := by
  refine ⟨fun pins s σ H Q I h => ?_⟩
  refine wpAny_isTrue_Compare1 (thn (ha.run pins s σ H _ I h) fun v s1 ⟨x, H1, I1, r1, q1⟩ => thn (hb.run pins s1 σ H1 _ I1 q1) fun u s2 ⟨y, H2, I2, r2, q2⟩ =>
    thn (ho pins s2 σ H2 x y v u _ I2 r1 r2 q2) fun d s3 ⟨z, H3, I3, r3, q3⟩ => ?_) hm
  obtain ⟨k, e, q4⟩ := kB_ok q3
  subst e
  cases r3
  exact wpAny_truthy_bool ⟨H3, I3, q4⟩
/-- an expression that gives a bool, as a test -/
theorem qv {e : Expr} {t : TE} (h : PE X e t) (he : ∀ whole, isTrue e X.env whole = (do let v ← whole; standAt e.pos; holding [v] (truthy v)) := by intro _; rfl) : PT X e (mT t) := by
  refine ⟨fun pins s σ H Q I hw => ?_⟩
  refine isTrue_plain (thn (h.run pins s σ H _ I hw) fun v s1 ⟨x, H1, I1, r1, q1⟩ => ?_) (he _)
  obtain ⟨k, e, q4⟩ := kB_ok q1
  subst e
  cases r1
  exact wpAny_truthy_bool ⟨H1, I1, q4⟩
end

/-- the value in slot i -/
@[reducible] def mV (i : Nat) : TE := fun σ H Q => match σ[i]? with
  | some (some v) => Q v H
  | _ => False
section
variable {X : Cx}
theorem mv (i : Nat) {x : Str} {pos : Pos} (hN : X.N[i]? = some x := by rfl) (hv : Vis X.env.scope x := by first | exact Or.inl rfl | exact Or.inr (Or.inl rfl) | exact Or.inr (Or.inr rfl)) (hd : (x == ("__debug__" : Str)) = false := by decide)
    (hcd : (x == ("__classdict__" : Str)) = false := by decide) : PE X (.Name x pos) (mV i) := by
  refine ⟨fun pins s σ H Q I h => (pe_var (pos := pos) hN hv hd hcd).run pins s σ H Q I ?_⟩
  unfold mV at h
  split at h
  · rename_i v e
    exact ⟨v, e, h⟩
  · exact h.elim
end

/-! ### tests -/
theorem ifD {p A B : Prop} [Decidable p] (h1 : p → A) (h2 : ¬ p → B) : if decide p = true then A else B := by
  by_cases h : p
  · rw [decide_eq_true h, if_pos rfl]; exact h1 h
  · rw [decide_eq_false h, if_neg Bool.false_ne_true]; exact h2 h
theorem ifND {p A B : Prop} [Decidable p] (h1 : ¬ p → A) (h2 : p → B) : if (!decide p) = true then A else B := by
  by_cases h : p
  · rw [decide_eq_true h]; exact (if_neg Bool.false_ne_true).mpr (h2 h)
  · rw [decide_eq_false h]; exact (if_pos rfl).mpr (h1 h)
theorem ifT {b : Bool} {A B : Prop} (hb : b = true) (h : A) : if b = true then A else B := by rw [if_pos hb]; exact h
theorem ifF {b : Bool} {A B : Prop} (hb : b = false) (h : B) : if b = true then A else B := by rw [hb, if_neg Bool.false_ne_true]; exact h

/-! ### heaps -/
/-- all that stood in H, but for what is in M, stands in H' -/
def Frm (M : List Addr) (H H' : Hp) : Prop := ∀ a o, H a = some o → a ∉ M → H' a = some o
theorem Frm.ext {M : List Addr} {H H' : Hp} (e : Ext H H') : Frm M H H' := fun a o h _ => e a o h
theorem Frm.trans {M : List Addr} {H H1 H2 : Hp} (a : Frm M H H1) (b : Frm M H1 H2) : Frm M H H2 := fun c o h n => b c o (a c o h n) n
theorem Frm.refl {M : List Addr} {H : Hp} : Frm M H H := fun _ _ h _ => h
theorem Frm.upd {M : List Addr} {H H1 : Hp} {p : Addr} {o : HO} (a : Frm M H H1) (h : p ∈ M) : Frm M H (L2.upd H1 p o) := fun c u e n => by
  rw [upd_ne (fun z => n (by rw [z]; exact h))]; exact a c u e n
theorem Frm.new {M : List Addr} {H H1 : Hp} {p : Addr} {o : HO} (a : Frm M H H1) (h : H1 p = none) : Frm M H (L2.upd H1 p o) := fun c u e n => by
  have e1 := a c u e n
  rw [upd_ne (ne_of_none e1 h)]; exact e1
theorem Frm.to_ext {H H' : Hp} (f : Frm [] H H') : Ext H H' := fun a o h => f a o h (by simp)
end NB

set_option Elab.async false
set_option linter.all false
set_option maxRecDepth 100000
/-! B2: items, own special methods, repr of data -/
namespace NB
open PySem PySem.Spec PyProof.Rows L2

/-- an item of a list or a tuple -/
@[reducible] def mIx (K : PySem.W.Frag) : R2 := fun x y H Q =>
  match x, y with
  | .ref p, .int i => ∃ xs v, (SqL K H p xs ∨ SqT K H p xs) ∧ atI xs i = some v ∧ Q v H
  | _, _ => False
section
variable {X : Cx}
theorem m_ix : IxR X (mIx X.K) := by
  have both : IxR X (fun x y H Q => rIxL X.K x y H Q ∨ rIxT X.K x y H Q) := ix_list.or ix_tup
  have imp : ∀ x y H Q, mIx X.K x y H Q → rIxL X.K x y H Q ∨ rIxT X.K x y H Q := by
    intro x y H Q q
    cases x <;> cases y <;> first | exact False.elim q | skip
    obtain ⟨xs, z, h | h, ha, q⟩ := q
    · exact .inl ⟨_, _, _, _, rfl, rfl, h, ha, q⟩
    · exact .inr ⟨_, _, _, _, rfl, rfl, h, ha, q⟩
  unfold IxR at both ⊢
  intros
  apply both <;> first | assumption | (apply imp; assumption)

variable {CX : CXT} {k : Nat} {C f : Addr} {fd : FuncData} {ps : List Str} {sp : Sp} {E : XK}
/-- x in o, o an own instance -/
theorem own_in (F : FnOk X.prog X.w X.K X.mg X.base CX k f fd ps sp) (hs : PySem.W.findIn X.K (.ref C) "__contains__" = some (some (.ref f))) (hf : PySem.W.isFn X.K (.ref f) = true) (hb : Binds X.K fd ps []) (hr : Room k X.A) (hx : Passes CX X E) :
    OpR X (compareOp .In) (fun x y H Q => ∃ a dx fs, y = .ref a ∧ H a = some (.ins C dx fs) ∧ sp [.ref a, x] H (kB fun b H' => Q (.bl b) H') E) := by
  intro pins s σ H x y v u Q I rx ry q
  obtain ⟨a, dx, fs, rfl, ha, q⟩ := q
  cases ry
  obtain ⟨mA, O, _⟩ := ins_get I.hok ha
  obtain ⟨od, J, _⟩ := O.look
  obtain ⟨m, hF⟩ := I.fr
  refine PySem.W.in_K hF I.ok.mod.kin J hs hf ?_
  refine thn (run_fn F hr hb .nil hx I (vs := [.ref a, _]) (.cons rfl (.cons rx .nil)) q) fun r s' z => ?_
  obtain ⟨z, H', I', rz, kz⟩ := z
  obtain ⟨b, e, q2⟩ := kB_ok kz
  subst e
  cases rz
  exact wpAny_truthy_bool ⟨.bl b, H', I', rfl, q2⟩
/-- len(o), o an own instance -/
theorem own_len (F : FnOk X.prog X.w X.K X.mg X.base CX k f fd ps sp) (hs : PySem.W.findIn X.K (.ref C) "__len__" = some (some (.ref f))) (hf : PySem.W.isFn X.K (.ref f) = true) (hb : Binds X.K fd ps []) (hr : Room (k + 1) X.A) (hx : Passes CX X E) :
    CallR X (.builtin "len") (fun xs H Q => ∃ a dx fs, xs = [.ref a] ∧ H a = some (.ins C dx fs) ∧ sp [.ref a] H (fun v H' => ∃ n : Nat, v = .int n ∧ n ≤ sizeLine ∧ Q (.int n) H') E) := by
  intro pins s σ H xs us Q I rx q
  obtain ⟨a, dx, fs, rfl, ha, q⟩ := q
  obtain ⟨u, rfl, ru⟩ := vals1 rx
  cases ru
  obtain ⟨mA, O, _⟩ := ins_get I.hok ha
  obtain ⟨od, J, _⟩ := O.look
  obtain ⟨m, hF⟩ := I.fr
  refine PySem.W.len_K hF I.ok.mod.kin J hs hf ?_
  have hl : ([Value.ref a] : List Value).length = ps.length := by rw [← F.len _ _ _ _ q]; rfl
  refine wpAny_call (codeAny_mono (F.run X.A.in1 X.stack s H ⟨[.ref a], []⟩ [.ref a] [.ref a] _ E hr.in1 I.env0.in1 (by have := hb s [.ref a] I.kIn (by simpa using hl); simpa using this) (.cons rfl .nil) q) fun r s' hq => ?_)
  cases r with
  | error er => exact hx pins σ H s er s' I hq
  | ok fl =>
    cases fl with
    | ret w =>
      obtain ⟨v, H', I3, rv, n, ev, hn, q3⟩ := I.after hq
      subst ev
      obtain ⟨t, rfl⟩ := rv
      have l63 := line63
      refine ⟨⟨by omega, by have : (n : Int) ≤ sizeLine := by exact_mod_cast hn
                            omega⟩, .int n, H', I3.tok _, ⟨_, rfl⟩, q3⟩
    | next => exact False.elim hq
    | brk => exact False.elim hq
    | cont => exact False.elim hq
/-- o == p, two own instances of one class (or p of a class that is not below o's) -/
theorem own_eq (hu : X.A.units < cLine) (F : FnOk X.prog X.w X.K X.mg X.base CX k f fd ps sp) (hs : PySem.W.findIn X.K (.ref C) "__eq__" = some (some (.ref f))) (hf : PySem.W.isFn X.K (.ref f) = true) (hb : Binds X.K fd ps []) (hr : Room k X.A) (hx : Passes CX X E) :
    OpR X (compareOp .Eq) (fun x y H Q => ∃ a b dx dy fs gs, x = .ref a ∧ y = .ref b ∧ H a = some (.ins C dx fs) ∧ H b = some (.ins C dy gs) ∧ sp [.ref a, .ref b] H (kB fun b H' => Q (.bl b) H') E) := by
  intro pins s σ H x y v u Q I rx ry q
  obtain ⟨a, b, dx, dy, fs, gs, rfl, rfl, ha, hb', q⟩ := q
  cases rx
  cases ry
  obtain ⟨mA, O, _⟩ := ins_get I.hok ha
  obtain ⟨mB, O', _⟩ := ins_get I.hok hb'
  obtain ⟨od, J, _⟩ := O.look
  obtain ⟨od', J', _⟩ := O'.look
  obtain ⟨m, hF⟩ := I.fr
  show wpAny (model X.prog X.w) X.A (richCompare .Eq _ _) (EP X pins σ Q) X.xe s
  refine PySem.W.cmp_K (op := .Eq) (tb := .ref C) hu hF I.ok.mod.kin J J'.type (by simp [PySem.W.notFirst]) hs hf ?_
  refine thn (run_fn F hr hb .nil hx I (vs := [.ref a, .ref b]) (.cons rfl (.cons rfl .nil)) q) fun r s' z => ?_
  obtain ⟨z, H', I', rz, kz⟩ := z
  obtain ⟨b, e, q2⟩ := kB_ok kz
  subst e
  cases rz
  exact ⟨.bl b, H', I', rfl, q2⟩

/-- repr of data -/
def mRep (K : PySem.W.Frag) : List V → Hp → VK → Prop := fun xs H Q => ∃ v d, xs = [v] ∧ Dp K H v d ∧ isDisplay d = true ∧ d.showable = true ∧ d.hasDict = false ∧ d.depth ≤ 60 ∧ d.shown.length ≤ sizeLine ∧ Q (.str d.shown) H
end
end NB

set_option Elab.async false
set_option linter.all false
set_option maxRecDepth 100000
/-! B3: promises of defs that run where nothing is being shown (repr) -/
namespace NB
open PySem PySem.Spec PyProof.Rows L2

section
variable {P : Program} {w : World} {K : PySem.W.Frag} {mg : Str → Option Value} {base : Heap}
/-- as FnOk, no display under way -/
structure FnG (P : Program) (w : World) (K : PySem.W.Frag) (mg : Str → Option Value) (base : Heap) (k : Nat) (f : Addr) (fd : FuncData) (ps : List Str) (sp : Sp) : Prop where
  len : ∀ vs H Q E, sp vs H Q E → vs.length = ps.length
  run : ∀ (A : Around) (o : List Env) (s : Shared) (H : Hp) (ar : Args) (us : List Value) (vs : List V) (Q : VK) (E : XK), Room k A → A.guards = some [] →
    Env0 P w K mg base A o s H → BindsTo s fd ar (ps.zip us) → Vals vs us → sp vs H Q E → codeAny (model P w) A (.call (.ref f) ar) (CR C8.CX0 o P w H s Q E) s
theorem gd_deeper {A : Around} {env : Env} (h : A.guards = some []) : (A.deeper env).guards = some [] := by
  unfold Around.deeper
  first | exact h | simp [h]
theorem fnG_of {x qual : Str} {st : Stmt} {f : Addr} {fd : FuncData} {N ps : List Str} {k : Nat} {sp : Sp} (F : C8.Fun K x qual st f fd) (S : FnScope N ps (C8.fnScope st)) (len : ∀ vs H Q E, sp vs H Q E → vs.length = ps.length)
    (hb : ∀ (cdv : Value) (A : Around) (o : List Env) (s : Shared) (H : Hp) (vs : List V) (Q : VK) (E : XK), Room k (A.deeper (envOfC qual (C8.fnScope st) s.heap.objs.size f cdv)) → A.guards = some [] → sp vs H Q E →
      ∃ t, PSs (cxOf C8.CX0 P w K mg base N qual (C8.fnScope st) f cdv A o s H E).nox (C8.fnBody st) t ∧ t { nx := fun _ H' => Q .non H', rt := Q } (start N vs) H) : FnG P w K mg base (k + 1) f fd ps sp := by
  obtain ⟨oc, od, dV, kV, doc, pm, an, cdv, ct, osl, rfl, lk, hcd⟩ := F.ex
  refine ⟨len, ?_⟩
  intro A o s H ar us vs Q E hr hgd e0 hbi r hsp
  have KX : K.In s.heap := e0.mod.kin.keeps fun b o e => (e0.bs b o e).1
  obtain ⟨t, ht, hq⟩ := hb cdv A o s H vs Q E (hr.deeper _) hgd hsp
  refine codeAny_call_function hr.depth (KX _ _ lk) rfl S.co S.gen rfl (PySem.W.codeRec_of KX hcd) (hbi _ _ _ _ (wpAny_newFunctionEnv_cells S.kind (fun y hy => ?_) fun env he s1 z => ?_))
  · obtain ⟨n, v⟩ := y
    exact (S.par n (List.of_mem_zip hy).1).elim .inl fun q => .inr ⟨q, PySem.W.cellsFrom_some _ _ _ (.inl q)⟩
  · subst he
    refine ⟨(e0.mod.nolimit.keeps fun b o e => (e0.bs b o e).1).keeps z.toInCall.keep, codeAny_func (wpAny_mono (ht.nox.run [] s1 (start N vs) H _ (inv_start S hr.hd e0 (len _ _ _ _ hsp) r z) hq) (fun fl s2 hs => ?_) fun _ _ q => q)⟩
    cases fl with
    | ret u =>
      obtain ⟨v, σ2, H2, J, rv, q⟩ := hs
      exact ⟨v, H2, J.os, J.bare, J.base, J.hok, rv, q⟩
    | next =>
      obtain ⟨σ2, H2, J, q⟩ := hs
      exact ⟨V.non, H2, J.os, J.bare, J.base, J.hok, rfl, q⟩
    | brk =>
      obtain ⟨_, _, _, q⟩ := hs
      exact q.elim
    | cont =>
      obtain ⟨_, _, _, q⟩ := hs
      exact q.elim
/-- one that may be called by its name -/
structure CalG (P : Program) (w : World) (K : PySem.W.Frag) (mg : Str → Option Value) (base : Heap) (k : Nat) (x : Str) (sp : Sp) : Prop where
  ex : ∃ (f : Addr) (fd : FuncData) (ps : List Str), FnG P w K mg base k f fd ps sp ∧ mg x = some (.ref f) ∧ PySem.W.keepIn K (.ref f) = true ∧ Binds K fd ps []
end
section
variable {X : Cx} {k j : Nat} {x : Str} {sp : Sp} {p pos : Pos} {e : Expr} {es : List Expr} {t : TA}
theorem run_g {f : Addr} {fd : FuncData} {ps : List Str} {pins : List (Addr × Obj)} {σ : L2.St} {H : Hp} {s : Shared} {Q : VK} {us : List Value} {vs : List V} (F : FnG X.prog X.w X.K X.mg X.base k f fd ps sp) (hr : Room k X.A) (hgd : X.A.guards = some [])
    (hb : Binds X.K fd ps []) (I : Inv X pins σ H s) (r : Vals vs us) (h : sp vs H Q C8.E0) : wpAny (model X.prog X.w) X.A (call (.ref f) us) (EP X pins σ Q) X.xe s := by
  have hl : us.length = ps.length := by rw [← r.length]; exact F.len _ _ _ _ h
  have b := hb s us I.kIn (by simpa using hl)
  rw [List.append_nil] at b
  refine wpAny_call (codeAny_mono (F.run X.A X.stack s H ⟨us, []⟩ us vs Q C8.E0 hr hgd I.env0 b r h) fun y s2 z => ?_)
  cases y with
  | error e => exact z.elim
  | ok fl => cases fl <;> first | exact I.after z | exact False.elim z
theorem pe_g (c : CalG X.prog X.w X.K X.mg X.base k x sp) (hr : Room j X.A) (hk : k ≤ j) (hgd : X.A.guards = some []) (hg : Gl X x) (ha : PA X (e :: es) t)
    (hdb : (x == ("__debug__" : Str)) = false := by decide) (he : starEach (e :: es) X.env = (false, eval e X.env) :: starEach es X.env := by rfl) (hpl : (backTo pos (starEach es X.env)).any (·.1) = false := by rfl) :
    PE X (.Call (.Name x p) (e :: es) [] pos) (tCall sp [] C8.E0 t) := by
  obtain ⟨f, fd, ps, F, hm, kp, b⟩ := c.ex
  refine ⟨fun pins s σ H Q I h => wpAny_Call_Name_kw (ld_glob I hg hm (PySem.W.callWith_K (h₀ := X.base) I.ok.mod.kin kp (thn (ha.run pos pins s σ H _ I h) fun us s1 z => ?_) he hpl) hdb)⟩
  obtain ⟨vs, H1, I1, r, q⟩ := z
  rw [List.append_nil] at q
  exact ⟨I1.kIn, run_g F (hr.mono hk) hgd b I1 r q⟩
/-- repr(v), v of data -/
theorem call_rep (hu : X.A.units + 64 < cLine) (hgd : X.A.guards = some []) : CallR X (.builtin "repr") (mRep X.K) := by
  intro pins s σ H xs us Q I rx q
  obtain ⟨v, d, rfl, dp, h1, h2, h3, h4, h5, q⟩ := q
  obtain ⟨u, rfl, ru⟩ := vals1 rx
  obtain ⟨as, r⟩ := Dp.reads I d v u dp ru
  obtain ⟨a, rfl⟩ := isRef_of_reads r h1
  exact repr_of_reads' r h2 (fun z => by rw [h3] at z; cases z) hgd (by omega) (fun _ _ e => e) (fun h' u' tk hk => ⟨.str d.shown, H, I.kept (t' := tk) hk, ⟨_, rfl⟩, q⟩) h5
end
end NB

set_option Elab.async false
set_option linter.all false
set_option maxRecDepth 100000
/-! B4: the end of a law whose def is promised where no display is under way -/
namespace NB
open PySem PySem.Spec PyProof.Rows L2

section
variable {P : Program} {w : World} {K : PySem.W.Frag} {mg mb : Str → Option Value} {k : Nat} {fa a : Addr} {fd : FuncData} {x : Str} {sp : Sp} {s : Shared} {vs : List Value} {ns : List Int}
/-- the call, over an abstract heap H that tracks the script at most -/
theorem law_at {H : Hp} (KX : K.In s.heap) (hns : s.heap.Ns mainGlobals mg) (hb : s.heap.Ns builtinsNs mb) (hbb : ∀ x : Str, x ≠ "__name__" → mb x = bootBuiltins x) (hlim : s.heap.NoLimit) (hg : s.gens = #[])
    (ha : s.heap.get? a = some { cls := .type "list", data := .seq vs.toArray }) (hr : Room k callerA)
    (F : ∀ base : Heap, K.In base → base.Ns mainGlobals mg → FnG P w K mg base k fa fd [x] sp) (hbind : ∀ (s : Shared) (u : Value), BindsTo s fd ⟨[u], []⟩ [(x, u)])
    (hsp : sp [.ref a] H (fun v _ => v = .bl true) C8.E0) (hO : Only H) (hok : HOk P w H s.heap) (hA : ∀ b u, H b = some u → b = a ∧ K.lookup a = none) :
    codeAny (model P w) callerA (.call (.ref fa) ⟨[.ref a], []⟩) (fun r s' => r = .ok (.ret (.bool true)) ∧ OldK s.heap s'.heap ∧ s'.os = s.os ∧ AllBare s'.gens) s := by
  have free : ∀ {b : Addr} {o : Obj} {es : Array DictEntry} {ep : Nat}, s.heap.get? b = some o → o.data = .dict es ep → H b = none := by
    intro b o es ep e d
    cases q : H b with
    | none => rfl
    | some u =>
      obtain ⟨rfl, _⟩ := hA b u q
      have eo : o = _ := Option.some.inj (e.symm.trans ha)
      rw [eo] at d
      cases d
  have nsH : ∀ {b : Addr} {m : Str → Option Value}, s.heap.Ns b m → (hidT s.heap H).Ns b m := by
    rintro b m ⟨o, es, ep, e, d, r⟩
    exact ⟨o, es, ep, hidT_get e (free e d), d, r⟩
  have kin : K.In (hidT s.heap H) := by
    intro b o e
    refine hidT_get (KX b o e) ?_
    cases q : H b with
    | none => rfl
    | some u =>
      obtain ⟨rfl, z⟩ := hA b u q
      rw [z] at e
      cases e
  obtain ⟨mc, l1, l2⟩ := hlim
  have e0 : Env0 P w K mg (hidT s.heap H) callerA [] s H :=
    ⟨rfl, ⟨kin, nsH hns, ⟨mb, nsH hb, hbb⟩, ⟨mc, nsH l1, l2⟩⟩, fun b o e => of_hidT e, Nat.le_of_eq (hidT_size _ _), trivial, fun b z => absurd (show b ∈ ([] : List Addr) from z) (by simp), hok, .of_eq hg⟩
  refine codeAny_mono ((F _ kin (nsH hns)).run callerA [] s H ⟨[.ref a], []⟩ [.ref a] [.ref a] _ _ hr rfl e0 (hbind s (.ref a)) (.cons rfl .nil) hsp) fun r s2 z => ?_
  rcases r with e | fl
  · exact z.elim
  cases fl <;> first | exact False.elim z | skip
  rename_i u
  obtain ⟨v, H2, os, bare, un, hok2, rv, q⟩ := z
  have qv : v = .bl true := q
  subst qv
  obtain rfl : u = Value.bool true := rv
  refine ⟨rfl, OldK.of_keep fun b o e => ?_, os, bare⟩
  rcases hO b with q | ⟨ob, xs, q⟩
  · exact un.keep b o e q (fun z => absurd (show b ∈ ([] : List Addr) from z) (by simp)) (by simp)
  · have h1 := (hok b _ q).1
    have h2 := (hok2 b _ (un.frzs b ob _ q)).1
    rw [Option.some.inj (e.symm.trans h1)]
    exact h2
theorem law_g (KX : K.In s.heap) (hns : s.heap.Ns mainGlobals mg) (hb : s.heap.Ns builtinsNs mb) (hbb : ∀ x : Str, x ≠ "__name__" → mb x = bootBuiltins x) (hlim : s.heap.NoLimit) (hg : s.gens = #[])
    (ha : s.heap.get? a = some { cls := .type "list", data := .seq vs.toArray }) (hi : IntsAre vs ns) (hl : ns.length ≤ sizeLine) (hr : Room k callerA)
    (F : ∀ base : Heap, K.In base → base.Ns mainGlobals mg → FnG P w K mg base k fa fd [x] sp) (hbind : ∀ (s : Shared) (u : Value), BindsTo s fd ⟨[u], []⟩ [(x, u)])
    (hsp : ∀ H : Hp, Only H → SqL K H a (ns.map V.int) → sp [.ref a] H (fun v _ => v = .bl true) C8.E0) :
    codeAny (model P w) callerA (.call (.ref fa) ⟨[.ref a], []⟩) (fun r s' => r = .ok (.ret (.bool true)) ∧ OldK s.heap s'.heap ∧ s'.os = s.os ∧ AllBare s'.gens) s := by
  have rv := vals_ints hi
  cases hk : K.lookup a with
  | some o =>
    have eo : o = _ := Option.some.inj ((KX a o hk).symm.trans ha)
    have hS : SqL K (fun _ => none) a (ns.map V.int) := .inr ⟨o, vs.toArray, _, hk, by rw [eo], by rw [eo], congrArg Obj.data eo, by rw [List.size_toArray, hi.length]; exact hl, rv⟩
    exact law_at KX hns hb hbb hlim hg ha hr F hbind (hsp _ (fun _ => .inl rfl) hS) (fun _ => .inl rfl) (fun b u z => nomatch z) (fun b u z => nomatch z)
  | none =>
    let o0 : Obj := { cls := .type "list", data := .seq vs.toArray }
    have at_ : ∀ b, L2.upd (fun _ => none) a (.frz o0 (.lst (ns.map V.int))) b = none ∨ (b = a ∧ L2.upd (fun _ => none) a (.frz o0 (.lst (ns.map V.int))) b = some (.frz o0 (.lst (ns.map V.int)))) := by
      intro b
      by_cases e : b = a
      · rw [e]; exact .inr ⟨rfl, upd_same⟩
      · exact .inl (upd_ne e)
    have hO : Only (L2.upd (fun _ => none) a (.frz o0 (.lst (ns.map V.int)))) := fun b => (at_ b).elim .inl fun z => .inr ⟨_, _, z.2⟩
    refine law_at KX hns hb hbb hlim hg ha hr F hbind (hsp _ hO (.inl (.inr ⟨o0, upd_same⟩))) hO ?_ ?_
    · intro b u z
      rcases at_ b with q | ⟨rfl, q⟩
      · rw [q] at z; cases z
      · rw [q] at z
        cases z
        exact ⟨ha, by rw [List.length_map]; exact hl, vs, _, rv, ha⟩
    · intro b u z
      rcases at_ b with q | ⟨e, q⟩
      · rw [q] at z; cases z
      · exact ⟨e, hk⟩
end
theorem walk_g {l : PySem.W.OpenLaw} {n k : Nat} {q : Program} {loose : List Str} {XP : (Str → Option Value) → Heap → Prop} {YP : World → Heap → Prop} {d : DefRec} {K : Params → PySem.W.Frag} {sp : PySem.W.Frag → Sp} {x : Str}
    (hn : l.most = some n) (hn2 : n ≤ sizeLine) (hdf : d.params.defaults = []) (hr : Room k callerA) (hY : ∀ (w : World) (h : Heap), YP w h → (K w.params).In h)
    (F : ∀ (w : World) (mg : Str → Option Value) (fa : Addr) (h : Heap), (K w.params).In h → h.Ns mainGlobals mg → mg d.name = some (.ref fa) →
      ∃ fd : FuncData, (∀ (s : Shared) (u : Value), BindsTo s fd ⟨[u], []⟩ [(x, u)]) ∧ ∀ base : Heap, (K w.params).In base → base.Ns mainGlobals mg → FnG l.prog w (K w.params) mg base k fa fd [x] (sp (K w.params)))
    (hsp : ∀ (K : PySem.W.Frag) (H : Hp) (a : Addr) (ns : List Int), ns.length ≤ n → Only H → SqL K H a (ns.map V.int) → sp K [.ref a] H (fun v _ => v = .bl true) C8.E0) :
    PySem.W.WalkO q loose XP YP l.row.toRowW d [] (fun f vs => PySem.call f vs) := by
  refine Att.attach_call hn hdf ?_
  intro w s0 s1 mg mb fa o pm cd doc a vs ns G Y ho hd hcd hmg hobj hints hlen hg
  obtain ⟨fd, hb, hF⟩ := F w mg fa _ (hY w _ Y) G.T.g hmg
  exact law_g (hY w _ Y) G.T.g G.T.b G.T.builtins G.T.nolimit hg hobj hints (Nat.le_trans hlen hn2) hr hF hb fun H hO hS => hsp _ H a ns hlen hO hS
end NB

set_option Elab.async false
set_option linter.all false
set_option maxRecDepth 100000
/-! B5: set(xs) of different texts, its length -/
namespace NB
open PySem PySem.Spec PyProof.Rows L2

theorem str_at : ∀ {us : List Value} {xs : List Str}, Vals (xs.map V.str) us → ∀ (i : Nat) (v : Value), us[i]? = some v → ∃ t, v = .str (xs.getD i Str.empty) t
  | _, [], .nil, i, v, h => by simp at h
  | _, x :: xs, .cons r q, 0, v, h => by
    obtain ⟨t, rfl⟩ := r
    simp at h
    exact ⟨t, h.symm⟩
  | _, x :: xs, .cons r q, i + 1, v, h => by
    simp only [List.getElem?_cons_succ] at h
    obtain ⟨t, e⟩ := str_at q i v h
    exact ⟨t, by rw [e]; rfl⟩
/-- membership in the first i of them -/
def inF (xs : List Str) (i : Nat) : Str → Bool := fun y => decide (y ∈ xs.take i)
theorem inF_succ {xs : List Str} {i : Nat} (h : i < xs.length) (y : Str) : (inF xs i y || decide (y = xs.getD i Str.empty)) = inF xs (i + 1) y := by
  have e : xs.getD i Str.empty = xs[i] := by simp [List.getD, h]
  rw [e]
  unfold inF
  rw [Bool.eq_iff_iff]
  simp only [Bool.or_eq_true, decide_eq_true_eq]
  rw [← List.take_append_getElem h]
  simp only [List.mem_append, List.mem_singleton]
theorem inF_new {xs : List Str} (nd : xs.Nodup) {i : Nat} (h : i < xs.length) : inF xs i (xs.getD i Str.empty) = false := by
  have e : xs.getD i Str.empty = xs[i] := by simp [List.getD, h]
  rw [e]
  refine decide_eq_false fun m => ?_
  obtain ⟨j, hj, e2⟩ := List.mem_iff_getElem.mp m
  rw [List.length_take] at hj
  rw [List.getElem_take] at e2
  have := (List.getElem_inj nd).mp e2
  omega
section
variable {prog : Program} {w : World} {A : Around} {R : Result → Shared → Prop} {I : Addr} {fp wr : List Addr} {G : Array GenState → Array GenState → Prop} {n : Nat} {Pv : Nat → Value → Prop} {St' : Nat → Shared → Prop}
theorem upd_strs (W : WalksS prog w A.in1 I fp wr G n Pv St') (S : Addr) (hSf : S ∉ fp) (xs : List Str) (hsz : xs.length = n) (nd : xs.Nodup) (hn : n + 1 < scanBound) (hval : ∀ i v, Pv i v → ∃ t, v = .str (xs.getD i Str.empty) t) :
    ∀ (k i : Nat) (s : Shared), n - i = k → i ≤ n → St' i s → s.heap.SetOf (PySem.strKind prog w) S (inF xs i) i →
      (∀ s', Moved (S :: wr) G s s' → s'.heap.SetOf (PySem.strKind prog w) S (inF xs n) n → R (.ok (.ret .none)) s') →
      codeAny (model prog w) A (.builtin "set.update.loop" ⟨[.ref S, .ref I], []⟩) R s := by
  have away : S ∉ wr := fun h => hSf (W.sub _ h)
  have more : ∀ b ∈ wr, b ∈ S :: wr := fun b hb => List.mem_cons_of_mem _ hb
  have carry : ∀ {s s' : Shared} {f : Str → Bool} {m : Nat}, Moved wr G s s' → s.heap.SetOf (PySem.strKind prog w) S f m → s'.heap.SetOf (PySem.strKind prog w) S f m := by
    rintro s s' f m mv ⟨o, es, ep, tb, ho, rest⟩
    exact ⟨o, es, ep, tb, mv.heap S _ away ho, rest⟩
  intro k
  induction k with
  | zero =>
    intro i s hk hi hst hS hR
    obtain rfl : i = n := by omega
    refine codeAny_builtin PyProof.Rows.F.entry_set_update_loop ?_
    rw [Around.under_plainId PyProof.Rows.F.plain_set_update_loop _]
    show wpAny _ A.in1 (pyNext (.ref I) >>= _) _ _ s
    exact wpAny_bind (W.done s _ _ hst fun s' mv => wpAny_pure (hR s' (mv.mono more) (carry mv hS)))
  | succ k ih =>
    intro i s hk hi hst hS hR
    have hlt : i < n := by omega
    have hlx : i < xs.length := by omega
    refine codeAny_builtin PyProof.Rows.F.entry_set_update_loop ?_
    rw [Around.under_plainId PyProof.Rows.F.plain_set_update_loop _]
    show wpAny _ A.in1 (pyNext (.ref I) >>= _) _ _ s
    refine wpAny_bind (W.item i s _ _ hlt hst fun v s' hP hst' mv => ?_)
    obtain ⟨t, rfl⟩ := hval i v hP
    show wpAny _ A.in1 (holding _ (setAdd S (.str (xs.getD i Str.empty) t)) >>= _) _ _ s'
    refine wpAny_bind (wpAny_holding ?_)
    unfold setAdd
    refine wpAny_holding (wpAny_bind ((PySem.strKind prog w).pyHash (k := xs.getD i Str.empty) (strKind_is _ _ _ _) ?_))
    refine wpAny_setAddHashed_of (knd := PySem.strKind prog w) (s := { s' with toks := s'.toks + 1 }) (strKind_is _ _ _ _) rfl (show s'.heap.SetOf _ _ _ _ from carry mv hS) (by omega) fun h' hsb hS2 => ?_
    rw [inF_new nd hlx] at hS2
    have hS3 : h'.SetOf (PySem.strKind prog w) S (inF xs (i + 1)) (i + 1) := SetOf_congr hS2 (fun y => inF_succ hlx y) (by simp)
    have off : ∀ {b : Addr}, b ∈ fp → b ≠ S := fun {b} hb e => hSf (by rw [← e]; exact hb)
    refine wpAny_pure ⟨plainId_quiet PyProof.Rows.F.plain_set_update_loop _, ih (i + 1) _ (by omega) hlt (W.frame _ s' _ _ hst' (Nat.le_succ _) fun b hb o e => ?_) hS3 fun s2 mv2 hS4 => ?_⟩
    · exact (hsb.2 b (off hb)).trans e
    · refine hR s2 (Moved.trans W.gtrans ((mv.mono more).then_heap (Nat.le_succ _) fun b o hb e => ?_) mv2) hS4
      exact (hsb.2 b fun z => hb (by rw [z]; exact List.mem_cons_self)).trans e
end
section
variable {prog : Program} {w : World} {A : Around} {E : Value → Shared → Prop} {s : Shared}
/-- a new empty set -/
abbrev set0 (led : Bool) : Obj := { cls := .type "set", dict := none, data := .set #[] 0 (.fresh 0 0 led) }
set_option maxHeartbeats 3200000 in
theorem call_set_strs {l : Addr} {items : Array Value} {xs : List Str} {Q : Value → Shared → Prop} (hh : A.handled = none) (hl : s.heap.IsList l items) (hi : Vals (xs.map V.str) items.toList) (nd : xs.Nodup) (hn : xs.length + 1 < scanBound)
    (h : ∀ (h' : Heap) (tk : Nat), h'.SetOf (PySem.strKind prog w) s.heap.objs.size (inF xs xs.length) xs.length →
      (∀ b o, b < s.heap.objs.size → s.heap.get? b = some o → h'.get? b = some o) → Q (.ref s.heap.objs.size) { s with heap := h', toks := tk }) :
    wpAny (model prog w) A (call (.type "set") [.ref l]) Q E s := by
  have hsz : xs.length = items.size := by have := hi.length; simpa using this
  obtain ⟨c, tl, e_mro⟩ := PySem.F.called_set.mro
  have e_made := PySem.F.called_set.made
  have e_sub := PySem.F.called_set.sub
  have e_type := PySem.F.called_set.notType
  have e_can := PySem.F.called_set.canCreate
  have e_check := PySem.F.typeCall_set_1 (.ref l)
  refine wpAny_call (codeAny_of_tree (show wpAny _ _ (callAny (.type "set") _) _ _ _ from wpAny_pure ⟨Code.quiet_builtin _ (by decide +kernel), codeAny_builtin PySem.F.entry_type_call ?_⟩))
  rw [Around.under_plain (weight_type_call_type "set" [.ref l] []) rfl]
  repeat (any_goals (first | assumption | wp_step))
  refine codeAny_mono (code_set_new_1 (.ref l) (E := E) (Q₁ := fun u z => ∃ led : Bool, u = .ref s.heap.objs.size ∧ z = { s with heap := s.heap.push (set0 led) }) fun led => ⟨led, rfl, rfl⟩) fun r s1 hr => ?_
  rcases r with e | fl
  · exact hr
  cases fl <;> first | exact hr.elim | skip
  obtain ⟨led, rfl, rfl⟩ := hr
  have hS : (s.heap.push (set0 led)).get? s.heap.objs.size = some (set0 led) := Heap.get?_push_size _ rfl
  have hT : Shared.TypeIs { s with heap := s.heap.push (set0 led) } (.ref s.heap.objs.size) "set" := ⟨_, hS, rfl⟩
  have e_init := PySem.F.called_set.init.lookup
  have e_bind := PySem.F.called_set.init.bind (.ref s.heap.objs.size)
  repeat (any_goals (first | assumption | wp_step))
  refine codeAny_mono (codeAny_call_builtin (R := wants (fun u z => u = .none ∧ ∃ h' tk, z = { s with heap := h', toks := tk } ∧ h'.SetOf (PySem.strKind prog w) s.heap.objs.size (inF xs xs.length) xs.length ∧
      (∀ b o, b < s.heap.objs.size → s.heap.get? b = some o → h'.get? b = some o)) E) PySem.F.called_set.init.plain PySem.F.entry_set_init (check_set_init_1 hT ?_)) fun r2 s2 hr2 => ?_
  · obtain ⟨⟨ocls, odict, odata, oslots⟩, hol, hcl, nl, hdl⟩ := hl
    simp only at hcl hdl
    subst hcl; subst hdl
    have hol2 : (s.heap.push (set0 led)).get? l = some { cls := .type "list", dict := odict, data := .seq items nl, slots := oslots } := Heap.get?_push_of_some _ hol
    have f1 := PySem.F.sub_list_set
    have f2 := PySem.F.sub_list_frozenset
    have f3 : (Value.type "list" == Value.type "dict") = false := by decide
    have hl1 : (s.heap.push (set0 led)).IsList l items := ⟨_, hol2, rfl, nl, rfl⟩
    unfold Builtin.«set.__init__» noKeywords Builtin.Frozenset.updateFrom
    generalize hPI : pyIter = PI
    wp_walk
    subst hPI
    refine wpAny_pyIter_list hl1 (wpAny_bind (wpAny_runValue ?_))
    have hlS : l < s.heap.objs.size := Heap.lt_size hol
    have size1 : (s.heap.push (set0 led)).objs.size = s.heap.objs.size + 1 := Heap.size_push _ _
    refine upd_strs ((Walks.list (by simp [hh]) _ l (by rw [size1]; exact Nat.ne_of_lt (Nat.lt_succ_of_lt hlS)) items).toS) s.heap.objs.size ?hSf xs hsz nd (by rw [← hsz]; exact hn)
      (fun i v hv => str_at hi i v (by rw [Array.getElem?_toList]; exact hv)) (items.size - 0) 0 _ (by omega) (Nat.zero_le _) ⟨⟨_, Heap.get?_push_size _ rfl, rfl, rfl⟩, (hl1.push _)⟩ ?hS0 ?hR
    case hSf =>
      rw [size1]
      intro z
      rcases List.mem_cons.mp z with z | z
      · exact Nat.ne_of_lt (Nat.lt_succ_self _) z
      · exact Nat.ne_of_gt hlS (List.mem_singleton.mp z)
    case hS0 =>
      have z : ((s.heap.push (set0 led)).push { cls := .type "list_iterator", data := .fields #[.ref l, .int 0 0] }).get? s.heap.objs.size = some (set0 led) := Heap.get?_push_of_some _ hS
      exact PyProof.Rows.SetOf_congr ((PyProof.Rows.setObjOf_fresh (knd := PySem.strKind prog w) led).setOf z (by unfold scanBound; omega)) (fun y => by simp [inF]) rfl
    case hR =>
      intro z mv hz
      obtain ⟨h', g', d', tk', os'⟩ := z
      obtain rfl : g' = s.gens := mv.gens
      obtain rfl : d' = s.drawn := mv.drawn
      obtain rfl : os' = s.os := mv.os
      show wpAny _ _ _ _ _ _
      refine wpAny_pure ?_
      show wpAny _ _ (ret Value.none) _ _ _
      rw [← hsz] at hz
      refine wpAny_pure ⟨rfl, h', tk', rfl, hz, fun b o hb e => mv.heap b o ?_ (Heap.get?_push_of_some _ (Heap.get?_push_of_some _ e))⟩
      rw [size1]
      intro q
      rcases List.mem_cons.mp q with q | q
      · exact Nat.ne_of_lt hb q
      · exact Nat.ne_of_lt (Nat.lt_succ_of_lt hb) (List.mem_singleton.mp q)
  · rcases r2 with e | fl2
    · exact hr2
    cases fl2 <;> first | exact hr2.elim | skip
    obtain ⟨rfl, h', tk, rfl, hz, keep⟩ := hr2
    repeat (any_goals (first | assumption | wp_step))
    exact h _ _ hz keep
end
/-- len(set(xs)), xs a list of different texts -/
def mLenSet (K : PySem.W.Frag) (ta : TE) : TE := fun σ H Q => ta σ H fun x H1 => ∃ (l : Addr) (xs : List Str), x = V.ref l ∧ SqL K H1 l (xs.map V.str) ∧ xs.length ≤ 1000 ∧ xs.Nodup ∧ Q (.int xs.length) H1
section
variable {X : Cx}
theorem pe_lenSetS {a : Expr} {ta : TE} {p p2 q pos : Pos} (hc : X.calm = true) (hg : Gl X "len") (hm : X.mg "len" = none) (hg2 : Gl X "set") (hm2 : X.mg "set" = none) (ha : PE X a ta)
    (na : starEach [a] X.env = (false, eval a X.env) :: starEach [] X.env := by rfl) : PE X (.Call (.Name "len" p) [.Call (.Name "set" p2) [a] [] q] [] pos) (mLenSet X.K ta) := by
  refine ⟨fun pins s σ H Q I h => Call_ (ld_blt I hg hm PySem.boot_len (PyProof.Rows.callWith_builtin1 (PyProof.Rows.args_cons ?_ rfl) rfl rfl))⟩
  refine Call_ (ld_blt I hg2 hm2 PyProof.Rows.boot_set (PyProof.Rows.callWith_type1 (PyProof.Rows.args_cons (thn (ha.run pins s σ H _ I h) fun v s1 z => PyProof.Rows.args_nil ?_) na) na rfl))
  obtain ⟨x, H1, I1, r1, l, xs, rfl, hq, h1, nd, q1⟩ := z
  cases r1
  obtain ⟨its, r, pl, _⟩ := I1.list hq
  refine call_set_strs (xs := xs) (I1.ok.hd hc) pl.isList (by simpa using r) nd (by unfold scanBound; omega) fun h' tk hS hk => PyProof.Rows.args_nil ?_
  obtain ⟨o, es, ep, t, ho, hex, hd, _, _, _, hf, hn⟩ := hS
  have I2 : Inv X pins σ H1 { s1 with heap := h', toks := tk } := I1.kept fun b o e => hk b o (Heap.lt_size e) e
  exact call_len_set ho hex hd hf (by rw [hn]; omega) ⟨.int xs.length, H1, I2.tok _, ⟨_, by rw [hn]⟩, q1⟩
end
end NB

set_option Elab.async false
set_option linter.all false
set_option maxRecDepth 100000
/-! D1: the data of logs, what the top must have, promises -/
namespace NB
open PySem PySem.Spec L2
open PyProof.Rows (envOfC)

/-! ### data -/
/-- a name: one to eight small letters -/
def nameB (z : Str) : Bool := decide (1 ≤ z.length) && decide (z.length ≤ 8) && z.cps.toList.all fun c => decide (97 ≤ c) && decide (c ≤ 122)
structure CrewOk (ns : List Str) : Prop where
  one : 1 ≤ ns.length
  few : ns.length ≤ 12
  nam : ∀ z ∈ ns, nameB z = true
  nd : ns.Nodup
structure EntsOk (ns : List Str) (es : List (Str × Int)) : Prop where
  few : es.length ≤ 200
  ok : ∀ e ∈ es, e.1 ∈ ns ∧ 0 ≤ e.2
def SizeOk (sz : Int) : Prop := 1 ≤ sz ∧ sz ≤ 10 ^ 30
/-- v is the tuple of e -/
def EntAt (H : Hp) (e : Str × Int) (v : V) : Prop := ∃ p, v = .ref p ∧ H p = some (.tup [.str e.1, .int e.2])
abbrev EntL (H : Hp) : List (Str × Int) → List V → Prop := Paired (EntAt H)
theorem EntAt.mono {H H' : Hp} {e : Str × Int} {v : V} (h : EntAt H e v) (x : Ext H H') : EntAt H' e v := by
  obtain ⟨p, rfl, q⟩ := h
  exact ⟨p, rfl, x _ _ q⟩
theorem EntL.mono {H H' : Hp} {es : List (Str × Int)} {vs : List V} (h : EntL H es vs) (x : Ext H H') : EntL H' es vs := Paired.mapP h fun _ _ q => EntAt.mono q x
theorem upd_none {H : Hp} {p d : Addr} {o : HO} (h : upd H p o d = none) : d ≠ p ∧ H d = none := by
  by_cases e : d = p
  · rw [e, upd_same] at h; cases h
  · exact ⟨e, by rw [upd_ne e] at h; exact h⟩
theorem Ext.free {H H' : Hp} (e : Ext H H') {l : Addr} (h : H' l = none) : H l = none := Same.free (show Same H H' from e) h
/-- tuples stand under every change -/
def TupSt (H H' : Hp) : Prop := ∀ a xs, H a = some (.tup xs) → H' a = some (.tup xs)
theorem TupSt.ext {H H' : Hp} (x : Ext H H') : TupSt H H' := fun a xs h => x a _ h
theorem TupSt.upd {H : Hp} {p : Addr} {o u : HO} (h : H p = some u) (d : ∀ xs, u ≠ .tup xs) : TupSt H (L2.upd H p o) := fun a xs e => by
  rw [upd_ne (ne_of e h (fun z => d xs z.symm))]; exact e
theorem TupSt.trans {H H1 H2 : Hp} (a : TupSt H H1) (b : TupSt H1 H2) : TupSt H H2 := fun c xs h => b c xs (a c xs h)
theorem EntL.st {H H' : Hp} {es : List (Str × Int)} {vs : List V} (h : EntL H es vs) (x : TupSt H H') : EntL H' es vs := Paired.mapP h fun _ _ q => by
  obtain ⟨p, e, q⟩ := q
  exact ⟨p, e, x _ _ q⟩
theorem Frm.tups {p : Addr} {H H' : Hp} {o : HO} (f : Frm [p] H H') (hp : H p = some o) (d : ∀ xs, o ≠ .tup xs) : TupSt H H' := fun a xs h => f a _ h fun z => by
  rw [List.mem_singleton.mp z, hp] at h
  exact d xs (Option.some.inj h)
theorem mem1 {p : Addr} : p ∈ [p] := List.mem_singleton.mpr rfl
/-- readings of tests -/
theorem kNe {i j : Int} {Q : Bool → Hp → Prop} {H : Hp} (h : Q (!decide (i = j)) H) : mEqG (fun b => !b) (.int i) (.int j) H (kB Q) := h
theorem kEq {i j : Int} {Q : Bool → Hp → Prop} {H : Hp} (h : Q (decide (i = j)) H) : mEqG (fun b => b) (.int i) (.int j) H (kB Q) := h
theorem kNeS {i j : Str} {Q : Bool → Hp → Prop} {H : Hp} (h : Q (!decide (i = j)) H) : mEqG (fun b => !b) (.str i) (.str j) H (kB Q) := h
theorem kEqS {i j : Str} {Q : Bool → Hp → Prop} {H : Hp} (h : Q (decide (i = j)) H) : mEqG (fun b => b) (.str i) (.str j) H (kB Q) := h
theorem kNeB {i j : Bool} {Q : Bool → Hp → Prop} {H : Hp} (h : Q (!decide (i = j)) H) : mEqG (fun b => !b) (.bl i) (.bl j) H (kB Q) := h
theorem kI {c : Bool} {Q : Bool → Hp → Prop} {H : Hp} (h : Q c H) : kB Q (.bl c) H := h
/-- the fields of a log as __init__ stores them -/
def lf (sz : Int) (ls le : Addr) : List (Str × V) := putF "held_entries" (.ref le) (putF "held_servers" (.ref ls) (putF "held_size" (.int sz) []))
theorem lf_size (sz : Int) (ls le : Addr) : (lf sz ls le).lookup ("held_size" : Str) = some (.int sz) := by
  unfold lf
  rw [lookup_putF, if_neg (by decide +kernel), lookup_putF, if_neg (by decide +kernel), lookup_putF, if_pos rfl]
theorem lf_servers (sz : Int) (ls le : Addr) : (lf sz ls le).lookup ("held_servers" : Str) = some (.ref ls) := by
  unfold lf
  rw [lookup_putF, if_neg (by decide +kernel), lookup_putF, if_pos rfl]
theorem lf_entries (sz : Int) (ls le : Addr) : (lf sz ls le).lookup ("held_entries" : Str) = some (.ref le) := by
  unfold lf
  rw [lookup_putF, if_pos rfl]
theorem lf_no (sz : Int) (ls le : Addr) {m : Str} (h1 : ¬ m = "held_entries") (h2 : ¬ m = "held_servers") (h3 : ¬ m = "held_size") : (lf sz ls le).lookup m = none := by
  unfold lf
  rw [lookup_putF, if_neg h1, lookup_putF, if_neg h2, lookup_putF, if_neg h3]
  rfl
/-- a log of the class at C stands at p -/
def LogAt (C : Addr) (H : Hp) (p : Addr) (sz : Int) (ns : List Str) (es : List (Str × Int)) : Prop :=
  ∃ dx ls le vs, H p = some (.ins C dx (lf sz ls le)) ∧ H ls = some (.lst (ns.map V.str)) ∧ H le = some (.lst vs) ∧ EntL H es vs
theorem LogAt.mono {C : Addr} {H H' : Hp} {p : Addr} {sz : Int} {ns : List Str} {es : List (Str × Int)} (h : LogAt C H p sz ns es) (x : Ext H H') : LogAt C H' p sz ns es := by
  obtain ⟨dx, ls, le, vs, h1, h2, h3, h4⟩ := h
  exact ⟨dx, ls, le, vs, x _ _ h1, x _ _ h2, x _ _ h3, h4.mono x⟩

/-! ### what is an entry -/
inductive SrvJ (K : PySem.W.Frag) (H : Hp) (ns : List Str) : V → Bool → Prop where
  | str (z : Str) : SrvJ K H ns (.str z) (decide (z ∈ ns))
  | kind {x : V} {t : Value} : TyX K H x t → PySem.W.kitOne K t (.type "str") = some false → SrvJ K H ns x false
inductive IntJ (K : PySem.W.Frag) (H : Hp) : V → Bool → Prop where
  | int (i : Int) : IntJ K H (.int i) true
  | bl (b : Bool) : IntJ K H (.bl b) false
  | kind {x : V} {t : Value} : TyX K H x t → PySem.W.kitOne K t (.type "int") = some false → IntJ K H x false
inductive Jd (K : PySem.W.Frag) (H : Hp) (ns : List Str) : V → Option (Str × Int) → Prop where
  | kind {x : V} {t : Value} : TyX K H x t → PySem.W.kitOne K t (.type "tuple") = some false → Jd K H ns x none
  | size {p : Addr} {xs : List V} : H p = some (.tup xs) → xs.length ≠ 2 → Jd K H ns (.ref p) none
  | srv {p : Addr} {x y : V} : H p = some (.tup [x, y]) → SrvJ K H ns x false → Jd K H ns (.ref p) none
  | num {p : Addr} {x y : V} : H p = some (.tup [x, y]) → SrvJ K H ns x true → IntJ K H y false → Jd K H ns (.ref p) none
  | neg {p : Addr} {x : V} {i : Int} : H p = some (.tup [x, .int i]) → SrvJ K H ns x true → i < 0 → Jd K H ns (.ref p) none
  | ok {p : Addr} {z : Str} {i : Int} : H p = some (.tup [.str z, .int i]) → z ∈ ns → 0 ≤ i → Jd K H ns (.ref p) (some (z, i))

/-! ### what the top must have -/
structure LogC (K : PySem.W.Frag) (C : Addr) (kd : Str) : Prop where
  cl : Cls K C
  nS : NoAttr K C "held_size"
  nV : NoAttr K C "held_servers"
  nE : NoAttr K C "held_entries"
  kd : ∃ u, Con K C "KIND" (.str kd) u
  ty : ∀ H p dx fs, H p = some (.ins C dx fs) → TyX K H (.ref p) (.ref C)
  nt : PySem.W.kitOne K (.ref C) (.type "tuple") = some false
abbrev GV (mg : Str → Option Value) (x : Str) (v : V) : Prop := ∃ u, mg x = some u ∧ RelV v u
structure Blt (mg : Str → Option Value) : Prop where
  n_len : mg "len" = none
  n_isinstance : mg "isinstance" = none
  n_int : mg "int" = none
  n_bool : mg "bool" = none
  n_str : mg "str" = none
  n_list : mg "list" = none
  n_tuple : mg "tuple" = none
  n_all : mg "all" = none
  n_set : mg "set" = none
  n_max : mg "max" = none
  n_min : mg "min" = none
  n_abs : mg "abs" = none
  n_range : mg "range" = none
  n_repr : mg "repr" = none
abbrev LETT : Str := "abcdefghijklmnopqrstuvwxyz"
structure Tx (K : PySem.W.Frag) (mg : Str → Option Value) (cL cX : Addr) : Prop extends Blt mg where
  g_GREATEST_SIZE : GV mg "GREATEST_SIZE" (.int (10 ^ 30))
  g_MOST_SERVERS : GV mg "MOST_SERVERS" (.int 12)
  g_MOST_LETTERS : GV mg "MOST_LETTERS" (.int 8)
  g_MOST_ENTRIES : GV mg "MOST_ENTRIES" (.int 200)
  g_LETTERS : GV mg "LETTERS" (.str LETT)
  g_LOSING : GV mg "LOSING" (.str "losing")
  g_Log : GV mg "Log" (.ref cL)
  g_LosingLog : GV mg "LosingLog" (.ref cX)
  cl1 : LogC K cL "steady"
  cl2 : LogC K cX "losing"
  ll : PySem.W.kitOne K (.ref cL) (.ref cL) = some true
  xl : PySem.W.kitOne K (.ref cX) (.ref cL) = some true
  lx : PySem.W.kitOne K (.ref cL) (.ref cX) = some false
  xx : PySem.W.kitOne K (.ref cX) (.ref cX) = some true
/-- a def of the module -/
structure Dx (K : PySem.W.Frag) (mg : Str → Option Value) (x : Str) (st : Stmt) (ps : List Str) : Prop where
  ex : ∃ f fd, C8.Def K mg x st f fd ∧ Binds K fd ps []
/-- a method's def -/
structure Mx (K : PySem.W.Frag) (m qual : Str) (st : Stmt) (ps : List Str) (f : Addr) (fd : FuncData) : Prop where
  fn : C8.Fun K m qual st f fd
  b : Binds K fd ps []
section
variable {P : Program} {w : World} {K : PySem.W.Frag} {mg : Str → Option Value} {base : Heap}
theorem cal_of {x : Str} {st : Stmt} {N ps : List Str} {k : Nat} {sp : Sp} (D : Dx K mg x st ps) (S : FnScope N ps (C8.fnScope st)) (len : ∀ vs H Q E, sp vs H Q E → vs.length = ps.length)
    (hb : ∀ (f : Addr) (cdv : Value) (A : Around) (o : List Env) (s : Shared) (H : Hp) (vs : List V) (Q : VK) (E : XK), Room k (A.deeper (envOfC x (C8.fnScope st) s.heap.objs.size f cdv)) → sp vs H Q E →
      ∃ t, PSs (cxOf C8.CX0 P w K mg base N x (C8.fnScope st) f cdv A o s H E).nox (C8.fnBody st) t ∧ t { nx := fun _ H' => Q .non H', rt := Q } (start N vs) H) : C8.Cal P w K mg base (k + 1) x sp [] := by
  obtain ⟨f, fd, F, b⟩ := D.ex
  exact C8.cal0 F b .nil S len fun cdv A o s H vs Q E hr h => hb f cdv A o s H vs Q E hr h
theorem calG_of {x : Str} {st : Stmt} {N ps : List Str} {k : Nat} {sp : Sp} (D : Dx K mg x st ps) (S : FnScope N ps (C8.fnScope st)) (len : ∀ vs H Q E, sp vs H Q E → vs.length = ps.length)
    (hb : ∀ (f : Addr) (cdv : Value) (A : Around) (o : List Env) (s : Shared) (H : Hp) (vs : List V) (Q : VK) (E : XK), Room k (A.deeper (envOfC x (C8.fnScope st) s.heap.objs.size f cdv)) → A.guards = some [] → sp vs H Q E →
      ∃ t, PSs (cxOf C8.CX0 P w K mg base N x (C8.fnScope st) f cdv A o s H E).nox (C8.fnBody st) t ∧ t { nx := fun _ H' => Q .non H', rt := Q } (start N vs) H) : CalG P w K mg base (k + 1) x sp := by
  obtain ⟨f, fd, F, b⟩ := D.ex
  exact ⟨f, fd, ps, fnG_of F.fn S len fun cdv A o s H vs Q E hr hgd h => hb f cdv A o s H vs Q E hr hgd h, F.mgf, F.kp, b⟩
theorem fn_of' {m qual : Str} {st : Stmt} {f : Addr} {fd : FuncData} {N ps : List Str} {k : Nat} {sp : Sp} (D : Mx K m qual st ps f fd) (S : FnScope N ps (C8.fnScope st)) (len : ∀ vs H Q E, sp vs H Q E → vs.length = ps.length)
    (hb : ∀ (cdv : Value) (A : Around) (o : List Env) (s : Shared) (H : Hp) (vs : List V) (Q : VK) (E : XK), Room k (A.deeper (envOfC qual (C8.fnScope st) s.heap.objs.size f cdv)) → sp vs H Q E →
      ∃ t, PSs (cxOf C8.CX0 P w K mg base N qual (C8.fnScope st) f cdv A o s H E).nox (C8.fnBody st) t ∧ t { nx := fun _ H' => Q .non H', rt := Q } (start N vs) H) : FnOk P w K mg base C8.CX0 (k + 1) f fd ps sp :=
  C8.fn0 D.fn S len hb
end
theorem u65 {k : Nat} {A : Around} (hr : Room k A) : A.units + 65 < cLine := by have := hr.un; omega
/-! ### a comprehension over a text -/
theorem lc_txt {x : Str} {g : TG} {tt : TT} {te : TE} {vs : List Nat} {σ : L2.St} {H1 : Hp} {D : Addr} {Qd : Hp → Prop} (Pv : Nat → Hp → Prop) (h0 : Pv 0 (upd H1 D (.lst [])))
    (hs : ∀ i c H, x.cps.toList[i]? = some c → Pv i H → g (.str ⟨#[c]⟩) (wipe σ vs) H fun σ2 H2 => wipe σ2 vs = wipe σ vs ∧ tt σ2 H2 fun b H3 =>
      if b = true then te σ2 H3 fun y H4 => ∃ acc, H4 D = some (.lst acc) ∧ acc.length < sizeLine ∧ Pv (i + 1) (upd H4 D (.lst (acc ++ [y]))) else Pv (i + 1) H3) (hd : ∀ H, Pv x.cps.size H → Qd H) :
    ∃ W : Nat → Nat → Hp → Prop, (∃ m, W 0 m (upd H1 D (.lst []))) ∧ ∀ i m H, W i m H →
      ((Its x).stop i H ∧ Qd H) ∨ ((Its x).go i H ∧ ∃ Nx : Hp → Prop, (∀ H', Nx H' → ∃ m', m' < m ∧ W (i + 1) m' H') ∧ ∀ y H', (Its x).yld i H y H' → g y (wipe σ vs) H' fun σ2 H2 => wipe σ2 vs = wipe σ vs ∧ tt σ2 H2 fun b H3 =>
        if b = true then te σ2 H3 fun y H4 => ∃ acc, H4 D = some (.lst acc) ∧ acc.length < sizeLine ∧ Nx (upd H4 D (.lst (acc ++ [y]))) else Nx H3) := by
  refine ⟨fun i m H => m = x.cps.size - i ∧ i ≤ x.cps.size ∧ Pv i H, ⟨x.cps.size, by simp, Nat.zero_le _, h0⟩, ?_⟩
  rintro i m H ⟨rfl, hi, p⟩
  rcases Nat.lt_or_ge i x.cps.size with h | h
  · refine .inr ⟨h, Pv (i + 1), fun H' p' => ⟨x.cps.size - (i + 1), by omega, rfl, h, p'⟩, ?_⟩
    rintro y H' ⟨rfl, c, e, rfl⟩
    exact hs i c _ (by rw [Array.getElem?_toList]; exact e) p
  · obtain rfl : i = x.cps.size := by omega
    exact .inl ⟨Nat.le_refl _, hd H p⟩
end NB

set_option Elab.async false
set_option linter.all false
set_option maxRecDepth 100000
/-! D3: data that can be shown -/
namespace NB
open PySem PySem.Spec L2

structure Sm (W n : Nat) (d : PyData) : Prop where
  lay : d.canLay0 = true
  sho : d.showable = true
  nod : d.hasDict = false
  dep : d.depth ≤ n
  ish : d.intsShort 61 = true
  wt : d.weight ≤ W
theorem Sm.mono {W n W' n' : Nat} {d : PyData} (h : Sm W n d) (h1 : W ≤ W') (h2 : n ≤ n') : Sm W' n' d := ⟨h.lay, h.sho, h.nod, Nat.le_trans h.dep h2, h.ish, Nat.le_trans h.wt h1⟩
theorem pow_log {m : Nat} (h : m < 10 ^ 60) : m.log2 < 200 := by
  by_cases e : m = 0
  · subst e; decide
  · rw [Nat.log2_lt e]
    exact Nat.lt_of_lt_of_le h (by decide)
theorem Sm.int {i : Int} (h : i.natAbs < 10 ^ 60) : Sm 200 0 (.int i) := by
  have l := pow_log h
  refine ⟨rfl, ?_, rfl, Nat.le_refl _, ?_, ?_⟩
  · show decide (i.natAbs.log2 < 1920) = true
    exact decide_eq_true (by omega)
  · show decide ((PyData.shown (.int i)).length ≤ 61) = true
    refine decide_eq_true ?_
    show (Str.ofString (toString i)).length ≤ 61
    rw [ofString_length]
    exact int_text_length_le10 (k := 60) (by decide) h
  · show (if i == 0 then 0 else i.natAbs.log2 + 1) ≤ 200
    split <;> omega
theorem Sm.str {z : Str} (h : PyData.canLay0 (.str z) = true) (hl : z.length ≤ 100) : Sm 100 0 (.str z) := ⟨h, rfl, rfl, Nat.le_refl _, rfl, hl⟩
section
variable {W n : Nat}
theorem smAll : ∀ {ds : List PyData}, (∀ d ∈ ds, Sm W n d) → PyData.canLayAll0 ds = true ∧ PyData.showableAll ds = true ∧ PyData.hasDictAll ds = false ∧ PyData.depthAll ds ≤ n ∧ PyData.intsShortAll 61 ds = true ∧ PyData.weightAll ds ≤ (W + 1) * ds.length
  | [], _ => by simp [PyData.canLayAll0, PyData.showableAll, PyData.hasDictAll, PyData.depthAll, PyData.intsShortAll, PyData.weightAll]
  | d :: ds, h => by
    obtain ⟨h1, h2, h3, h4, h5, h6⟩ := smAll fun x hx => h x (List.mem_cons_of_mem _ hx)
    have g := h d List.mem_cons_self
    simp only [PyData.canLayAll0, PyData.showableAll, PyData.hasDictAll, PyData.depthAll, PyData.intsShortAll, PyData.weightAll, Bool.and_eq_true, Bool.or_eq_false_iff, List.length_cons]
    refine ⟨⟨g.lay, h1⟩, ⟨g.sho, h2⟩, ⟨g.nod, h3⟩, Nat.max_le.mpr ⟨g.dep, h4⟩, ⟨g.ish, h5⟩, ?_⟩
    have := g.wt
    rw [Nat.mul_add, Nat.mul_one]
    omega
theorem Sm.list {ds : List PyData} {m : Nat} (h : ∀ d ∈ ds, Sm W n d) (hm : ds.length ≤ m) : Sm ((W + 1) * m) (n + 1) (.list ds) := by
  obtain ⟨h1, h2, h3, h4, h5, h6⟩ := smAll h
  exact ⟨by simpa only [PyData.canLay0] using h1, by simpa only [PyData.showable] using h2, by simpa only [PyData.hasDict] using h3, by show PyData.depthAll ds + 1 ≤ n + 1; omega, by simpa only [PyData.intsShort] using h5,
    Nat.le_trans h6 (Nat.mul_le_mul (Nat.le_refl _) hm)⟩
theorem Sm.tuple {ds : List PyData} {m : Nat} (h : ∀ d ∈ ds, Sm W n d) (hm : ds.length ≤ m) : Sm ((W + 1) * m) (n + 1) (.tuple ds) := by
  obtain ⟨h1, h2, h3, h4, h5, h6⟩ := smAll h
  exact ⟨by simpa only [PyData.canLay0] using h1, by simpa only [PyData.showable] using h2, by simpa only [PyData.hasDict] using h3, by show PyData.depthAll ds + 1 ≤ n + 1; omega, by simpa only [PyData.intsShort] using h5,
    Nat.le_trans h6 (Nat.mul_le_mul (Nat.le_refl _) hm)⟩
theorem Sm.fits {d : PyData} (h : Sm W n d) (hW : W ≤ 200000) : d.shown.length ≤ sizeLine := by
  have h1 := PyData.shown_le 61 (by decide) d (PyData.leavesShort_of_canLay0 61 d h.lay h.ish)
  have h2 : (61 + 2) * d.weight ≤ 63 * 200000 := Nat.mul_le_mul (by decide) (Nat.le_trans h.wt hW)
  rw [sizeLine_eq]
  omega
theorem Sm.shaped {d : PyData} (h : Sm W n d) (hn : n ≤ 60) : SeqAt.shaped d = true := Bool.and_eq_true_iff.mpr ⟨h.lay, decide_eq_true (Nat.le_trans h.dep (by omega))⟩
end
/-- repr of it -/
theorem rep_of {K : PySem.W.Frag} {H : Hp} {v : V} {d : PyData} {W n : Nat} {Q : VK} (dp : Dp K H v d) (sm : Sm W n d) (hd : PyProof.Rows.isDisplay d = true) (hW : W ≤ 200000) (hn : n ≤ 60) (q : Q (.str d.shown) H) : mRep K [v] H Q :=
  ⟨v, d, rfl, dp, hd, sm.sho, sm.nod, Nat.le_trans sm.dep hn, sm.fits hW, q⟩
end NB

set_option Elab.async false
set_option linter.all false
set_option maxRecDepth 100000
/-! B6: == and != of own instances with anything; the class on the right first where it is below -/
namespace NB
open PySem PySem.Spec PyProof.Rows PySem.Calls Builtin

section
open PySem.W
variable {prog : Program} {w : World} {A : Around} {E : Value → Shared → Prop} {s : Shared} {K : PySem.W.Frag} {x C f : Addr} {ox : Obj} {od : Option Obj} {a b ta tb : Value}
/-- x.__ne__(b) where only __eq__ is the class's own -/
theorem try_ne {Q : Value → Shared → Prop} (hu : A.units + 1 < cLine) (X : K.In s.heap) (I : InstAt s.heap x ox C od) (hn : findIn K (.ref C) "__ne__" = some (some (.builtin "object.__ne__"))) (hm : mroIn K C (.type "object") = some true)
    (hs : findIn K (.ref C) "__eq__" = some (some (.ref f))) (hf : isFn K (.ref f) = true)
    (h : wpAny (model prog w) A.in1 (call (.ref f) [.ref x, b]) (fun v s' => ∃ c, v = .bool c ∧ Q (.bool (!c)) s') E s) :
    wpAny (model prog w) A (tryCompare (.ref x) "__ne__" b) (fun r s' => ∃ v, r = some v ∧ Q v s') E s := by
  have body : wpAny (model prog w) A.in1 (Builtin.«object.__ne__» ⟨[.ref x, b], []⟩) (fun fin s' => ∃ c : Bool, fin = .done (.ret (.bool c)) ∧ Q (.bool c) s') E s := by
    unfold Builtin.«object.__ne__»
    repeat (first
      | with_reducible refine wpAny_cRoomFor hu ?_
      | (refine wpAny_bind (m := callSpecialIfBound? (.ref x) (Str.ofString "__eq__") [b]) (ifBound_K X I hs hf (wpAny_mono h (fun r s' hr => by
            obtain ⟨c, rfl, hq⟩ := hr
            repeat (first | exact ⟨_, rfl, hq⟩ | exact wpAny_pure ⟨_, rfl, hq⟩ | exact wpAny_truthy_bool ⟨_, rfl, hq⟩ | (refine wpAny_bind (m := truthy (.bool _)) (wpAny_truthy_bool ?_)) | wp_step)) fun _ _ e => e)))
      | wp_step)
  have L0 := I.type (M := model prog w)
  have L1 := looks_mroIn (M := model prog w) X hm
  have chk : ∀ {R : Unit → Shared → Prop} {E' : Value → Shared → Prop}, R () s → wpAny (model prog w) A.in1 (checkBuiltinCall "object.__ne__" ⟨.ref x :: [b], []⟩) R E' s := by
    intro R E' hq
    simp only [checkBuiltinCall, F.cmpKind_ne, F.cmpSplit_ne]
    refine wpAny_bind ?_
    unfold isInstance
    refine wpAny_bind (L0.here ?_)
    refine L1.here ?_
    cases hsig : Manifest.signature? "object.__ne__" with
    | none => exact wpAny_pure hq
    | some sig =>
      have ha := F.cmpArgs_ne (.ref x) b
      simp only [argsOk, hsig] at ha
      have h2 : Bind.checkArgs "object.__ne__" sig ⟨.ref x :: [b], []⟩ = pure () := ha
      show wpAny _ _ (Bind.checkArgs "object.__ne__" sig ⟨.ref x :: [b], []⟩) R E' _
      rw [h2]; exact wpAny_pure hq
  have fin : wpAny (model prog w) A (call (.builtin "object.__ne__") ([.ref x] ++ [b]) >>= fun v => pure (some v)) (fun r s' => ∃ v, r = some v ∧ (∃ c, v = .bool c) ∧ Q v s') E s := by
    refine wpAny_bind (wpAny_call (codeAny_call_builtin F.cmp_object.ne.plain F.cmpEntry_ne (chk (wpAny_mono body (fun fin s' z => ?_) fun _ _ e => e))))
    obtain ⟨c, rfl, q⟩ := z
    first | exact wpAny_pure ⟨_, rfl, ⟨c, rfl⟩, q⟩ | exact ⟨_, rfl, ⟨c, rfl⟩, q⟩
  unfold tryCompare
  refine wpAny_bind ?_
  simp only [callSpecialIfBound?, bindSpecialIfBound?]
  refine wpAny_holding (wpAny_bind (wpAny_bind (wpAny_bind (I.type.here ((looks_findIn X hn).here ?_)))))
  simp only [F.cmp_object.ne.bind]
  refine wpAny_bind (wpAny_askSetting (wpAny_ite ?_))
  have fin2 := wpAny_mono fin (Q' := fun r s' => wpAny (model prog w) A (match r with | some .notImplemented | none => pure none | some v => pure (some v)) (fun r s' => ∃ v, r = some v ∧ Q v s') E s') (fun r s' z => by
    obtain ⟨v, rfl, ⟨c, rfl⟩, q⟩ := z
    exact wpAny_pure ⟨_, rfl, q⟩) fun _ _ e => e
  split
  · exact wpAny_bind (wpAny_pure (wpAny_pure fin2))
  · exact wpAny_tryCatch (wpAny_bind (wpAny_pure (wpAny_pure fin2)))
/-- x.__eq__(b), own -/
theorem try_eq {Q : Value → Shared → Prop} (X : K.In s.heap) (I : InstAt s.heap x ox C od) (hs : findIn K (.ref C) "__eq__" = some (some (.ref f))) (hf : isFn K (.ref f) = true)
    (h : wpAny (model prog w) A (call (.ref f) [.ref x, b]) (PySem.W.CmpBack Q) E s) : wpAny (model prog w) A (tryCompare (.ref x) "__eq__" b) (fun r s' => ∃ v, r = some v ∧ Q v s') E s := by
  unfold tryCompare
  refine wpAny_bind (ifBound_K X I hs hf (wpAny_mono h (fun v s' hv => ?_) fun _ _ e => e))
  cases v <;> first | exact hv.elim | exact wpAny_pure ⟨_, rfl, hv⟩
/-- the left one answers -/
theorem rc_left {op : CmpOp} {Q : Value → Shared → Prop} (hu : A.units < cLine) (X : K.In s.heap) (ha : Looks (model prog w) s.heap (typeOf (.ref x)) (.ref C)) (hb : Looks (model prog w) s.heap (typeOf b) tb) (hn : notFirst K C tb = true)
    (h : wpAny (model prog w) A (tryCompare (.ref x) (cmpInfo op).2.1 b) (fun r s' => ∃ v, r = some v ∧ Q v s') E s) : wpAny (model prog w) A (richCompare op (.ref x) b) Q E s := by
  unfold richCompare
  simp only [oneThing_ref]
  refine wpAny_holding (wpAny_bind (wpAny_cRoomFor hu ?_))
  refine wpAny_bind (ha.here (wpAny_bind (hb.here ?_)))
  by_cases q : (Value.ref C != tb) = true
  · rw [if_pos q]
    have e : subIn K tb (.ref C) = some false := by
      rcases Bool.or_eq_true_iff.mp hn with e | e
      · rw [beq_iff_eq.mp e] at q; simp at q
      · exact beq_iff_eq.mp e
    refine wpAny_bind ((looks_subIn X e).here ?_)
    simp only [Bool.false_eq_true, if_false]
    refine wpAny_bind (wpAny_mono h (fun r s' z => ?_) fun _ _ e => e)
    obtain ⟨v, rfl, hq⟩ := z
    exact wpAny_pure hq
  · rw [if_neg q]
    refine wpAny_bind (wpAny_pure ?_)
    simp only [Bool.false_eq_true, if_false]
    refine wpAny_bind (wpAny_mono h (fun r s' z => ?_) fun _ _ e => e)
    obtain ⟨v, rfl, hq⟩ := z
    exact wpAny_pure hq
/-- the right one's class is below the left one's: it answers -/
theorem rc_right {op : CmpOp} {Q : Value → Shared → Prop} (hu : A.units < cLine) (X : K.In s.heap) (ha : Looks (model prog w) s.heap (typeOf (.ref x)) ta) (hb : Looks (model prog w) s.heap (typeOf b) tb) (hne : (ta != tb) = true) (hsub : subIn K tb ta = some true)
    (h : wpAny (model prog w) A (tryCompare b (cmpInfo op).2.2 (.ref x)) (fun r s' => ∃ v, r = some v ∧ Q v s') E s) : wpAny (model prog w) A (richCompare op (.ref x) b) Q E s := by
  unfold richCompare
  simp only [oneThing_ref]
  refine wpAny_holding (wpAny_bind (wpAny_cRoomFor hu ?_))
  refine wpAny_bind (ha.here (wpAny_bind (hb.here ?_)))
  rw [if_pos hne]
  refine wpAny_bind ((looks_subIn X hsub).here ?_)
  simp only [if_true]
  refine wpAny_bind (wpAny_mono h (fun r s' z => ?_) fun _ _ e => e)
  obtain ⟨v, rfl, hq⟩ := z
  repeat (first | exact hq | exact wpAny_pure hq | wp_step)
end
section
open L2
/-- a class with an own == and the usual != -/
structure EqF (P : Program) (w : World) (K : PySem.W.Frag) (mg : Str → Option Value) (base : Heap) (k : Nat) (C : Addr) (sp : Sp) : Prop where
  ex : ∃ (f : Addr) (fd : FuncData) (ps : List Str), FnOk P w K mg base C8.CX0 k f fd ps sp ∧ PySem.W.findIn K (.ref C) "__eq__" = some (some (.ref f)) ∧ PySem.W.isFn K (.ref f) = true ∧ Binds K fd ps []
  ne : PySem.W.findIn K (.ref C) "__ne__" = some (some (.builtin "object.__ne__"))
  mo : PySem.W.mroIn K C (.type "object") = some true
/-- own == (g the identity) and != (g not) -/
@[reducible] def mOwn (P : Program) (w : World) (K : PySem.W.Frag) (mg : Str → Option Value) (base : Heap) (k : Nat) (g : Bool → Bool) : R2 := fun x y H Q => ∃ (a C dx : Addr) (fs : List (Str × V)) (sp : Sp), x = .ref a ∧ H a = some (.ins C dx fs) ∧ EqF P w K mg base k C sp ∧
  ((∃ t, TyX K H y t ∧ PySem.W.notFirst K C t = true ∧ sp [.ref a, y] H (kB fun c H' => Q (.bl (g c)) H') C8.E0) ∨
    ∃ (b D dy : Addr) (gs : List (Str × V)) (sp2 : Sp), y = .ref b ∧ H b = some (.ins D dy gs) ∧ EqF P w K mg base k D sp2 ∧ PySem.W.subIn K (.ref D) (.ref C) = some true ∧ C ≠ D ∧ sp2 [.ref b, .ref a] H (kB fun c H' => Q (.bl (g c)) H') C8.E0)
variable {X : Cx} {k : Nat}
theorem own_eqG (hu : X.A.units < cLine) (hr : Room k X.A) : OpR X (compareOp .Eq) (mOwn X.prog X.w X.K X.mg X.base k fun c => c) := by
  intro pins s σ H x y v u Q I rx ry q
  obtain ⟨a, C, dx, fs, sp, rfl, ha, ⟨⟨f, fd, ps, F, hs, hf, hb⟩, hne, hmo⟩, q⟩ := q
  cases rx
  obtain ⟨mA, O, _⟩ := ins_get I.hok ha
  obtain ⟨od, J, _⟩ := O.look
  show wpAny (model X.prog X.w) X.A (richCompare .Eq _ _) (EP X pins σ Q) X.xe s
  rcases q with ⟨t, ty, hn, q⟩ | ⟨b, D, dy, gs, sp2, rfl, hb2, ⟨⟨f2, fd2, ps2, F2, hs2, hf2, hbb2⟩, hne2, hmo2⟩, hsub, hCD, q⟩
  · obtain ⟨P, Z, hp, _⟩ := kit_of I ry ty
    refine rc_left hu I.kIn J.type (Z.ty _ _ I.kIn hp) hn (try_eq I.kIn J hs hf ?_)
    refine thn (run_fn F hr hb .nil C8.pass0 I (vs := [.ref a, y]) (.cons rfl (.cons ry .nil)) q) fun r s' z => ?_
    obtain ⟨z, H', I', rz, kz⟩ := z
    obtain ⟨c, e, q2⟩ := kB_ok kz
    subst e
    cases rz
    exact ⟨.bl c, H', I', rfl, q2⟩
  · cases ry
    obtain ⟨mB, O2, _⟩ := ins_get I.hok hb2
    obtain ⟨od2, J2, _⟩ := O2.look
    refine rc_right hu I.kIn J.type J2.type (by simp [hCD]) hsub (try_eq I.kIn J2 hs2 hf2 ?_)
    refine thn (run_fn F2 hr hbb2 .nil C8.pass0 I (vs := [.ref b, .ref a]) (.cons rfl (.cons rfl .nil)) q) fun r s' z => ?_
    obtain ⟨z, H', I', rz, kz⟩ := z
    obtain ⟨c, e, q2⟩ := kB_ok kz
    subst e
    cases rz
    exact ⟨.bl c, H', I', rfl, q2⟩
theorem run_in1 {f : Addr} {fd : FuncData} {ps : List Str} {sp : Sp} {pins : List (Addr × Obj)} {σ : L2.St} {H : Hp} {s : Shared} {Q : VK} {us : List Value} {vs : List V} (F : FnOk X.prog X.w X.K X.mg X.base C8.CX0 k f fd ps sp) (hr : Room (k + 1) X.A) (hb : Binds X.K fd ps [])
    (I : Inv X pins σ H s) (r : Vals vs us) (h : sp vs H Q C8.E0) : wpAny (model X.prog X.w) X.A.in1 (call (.ref f) us) (EP X pins σ Q) X.xe s := by
  have hl : us.length = ps.length := by rw [← r.length]; exact F.len _ _ _ _ h
  have b := hb s us I.kIn (by simpa using hl)
  rw [List.append_nil] at b
  refine wpAny_call (codeAny_mono (F.run X.A.in1 X.stack s H ⟨us, []⟩ us vs Q C8.E0 hr.in1 I.env0.in1 b r h) fun y s2 z => ?_)
  cases y with
  | error e => exact z.elim
  | ok fl => cases fl <;> first | exact I.after z | exact False.elim z
theorem own_neG (hu : X.A.units + 1 < cLine) (hr : Room (k + 1) X.A) : OpR X (compareOp .NotEq) (mOwn X.prog X.w X.K X.mg X.base k fun c => !c) := by
  intro pins s σ H x y v u Q I rx ry q
  obtain ⟨a, C, dx, fs, sp, rfl, ha, ⟨⟨f, fd, ps, F, hs, hf, hb⟩, hne, hmo⟩, q⟩ := q
  cases rx
  obtain ⟨mA, O, _⟩ := ins_get I.hok ha
  obtain ⟨od, J, _⟩ := O.look
  show wpAny (model X.prog X.w) X.A (richCompare .NotEq _ _) (EP X pins σ Q) X.xe s
  rcases q with ⟨t, ty, hn, q⟩ | ⟨b, D, dy, gs, sp2, rfl, hb2, ⟨⟨f2, fd2, ps2, F2, hs2, hf2, hbb2⟩, hne2, hmo2⟩, hsub, hCD, q⟩
  · obtain ⟨P, Z, hp, _⟩ := kit_of I ry ty
    refine rc_left (by omega) I.kIn J.type (Z.ty _ _ I.kIn hp) hn (try_ne hu I.kIn J hne hmo hs hf ?_)
    refine thn (run_in1 F hr hb I (vs := [.ref a, y]) (.cons rfl (.cons ry .nil)) q) fun r s' z => ?_
    obtain ⟨z, H', I', rz, kz⟩ := z
    obtain ⟨c, e, q2⟩ := kB_ok kz
    subst e
    cases rz
    exact ⟨c, rfl, .bl (!c), H', I', rfl, q2⟩
  · cases ry
    obtain ⟨mB, O2, _⟩ := ins_get I.hok hb2
    obtain ⟨od2, J2, _⟩ := O2.look
    refine rc_right (by omega) I.kIn J.type J2.type (by simp [hCD]) hsub (try_ne hu I.kIn J2 hne2 hmo2 hs2 hf2 ?_)
    refine thn (run_in1 F2 hr hbb2 I (vs := [.ref b, .ref a]) (.cons rfl (.cons rfl .nil)) q) fun r s' z => ?_
    obtain ⟨z, H', I', rz, kz⟩ := z
    obtain ⟨c, e, q2⟩ := kB_ok kz
    subst e
    cases rz
    exact ⟨c, rfl, .bl (!c), H', I', rfl, q2⟩
theorem own_eqP {P : Program} {w : World} {K : PySem.W.Frag} {mg : Str → Option Value} {base : Heap} (hP : X.prog = P) (hw : X.w = w) (hK : X.K = K) (hm : X.mg = mg) (hb : X.base = base) (hu : X.A.units < cLine) (hr : Room k X.A) :
    OpR X (compareOp .Eq) (mOwn P w K mg base k fun c => c) := by
  subst hP hw hK hm hb
  exact own_eqG hu hr
theorem own_neP {P : Program} {w : World} {K : PySem.W.Frag} {mg : Str → Option Value} {base : Heap} (hP : X.prog = P) (hw : X.w = w) (hK : X.K = K) (hm : X.mg = mg) (hb : X.base = base) (hu : X.A.units + 1 < cLine) (hr : Room (k + 1) X.A) :
    OpR X (compareOp .NotEq) (mOwn P w K mg base k fun c => !c) := by
  subst hP hw hK hm hb
  exact own_neG hu hr
end
end NB

set_option Elab.async false
set_option linter.all false
set_option maxRecDepth 100000
/-! B7: defs that may raise; own +; methods by keywords -/
namespace NB
open PySem PySem.Spec L2
open PyProof.Rows (envOfC)

section
variable {P : Program} {w : World} {K : PySem.W.Frag} {mg : Str → Option Value} {base : Heap}
/-- as fn_of', for a def that may raise -/
theorem fnX_of' {m qual : Str} {st : Stmt} {f : Addr} {fd : FuncData} {N ps : List Str} {k : Nat} {sp : Sp} (D : Mx K m qual st ps f fd) (S : FnScope N ps (C8.fnScope st)) (len : ∀ vs H Q E, sp vs H Q E → vs.length = ps.length)
    (hb : ∀ (cdv : Value) (A : Around) (o : List Env) (s : Shared) (H : Hp) (vs : List V) (Q : VK) (E : XK), Room k (A.deeper (envOfC qual (C8.fnScope st) s.heap.objs.size f cdv)) → sp vs H Q E →
      ∃ t, PSs (cxOf (L2.CX P w) P w K mg base N qual (C8.fnScope st) f cdv A o s H E) (C8.fnBody st) t ∧ t { nx := fun _ H' => Q .non H', rt := Q } (start N vs) H) : FnOk P w K mg base (L2.CX P w) (k + 1) f fd ps sp := by
  obtain ⟨oc, od, dV, kV, doc, pm, an, cdv, ct, osl, rfl, lk, hcd⟩ := D.fn.ex
  exact fn_of lk hcd S len fun A outer s H vs Q E hr hsp => hb cdv A outer s H vs Q E hr hsp
end
section
variable {X : Cx} {k : Nat} {C f : Addr} {fd : FuncData} {ps : List Str} {sp : Sp} {E : XK} {CXf : CXT}
/-- a wish that no state is asked of -/
theorem passW {W : WX} (tk : Takes X W) : Passes (L2.CX X.prog X.w) X (fun c d H => ∀ σ, W c d σ H) := fun _ σ _ _ e s' I c => tk e s' (XE.of_call I (fun _ _ _ h => h σ) c)
/-- o + p, two own instances of one class -/
theorem own_add (F : FnOk X.prog X.w X.K X.mg X.base CXf k f fd ps sp) (hs : PySem.W.findIn X.K (.ref C) "__add__" = some (some (.ref f))) (hf : PySem.W.isFn X.K (.ref f) = true) (hc : PySem.W.selfFirst X.K C = true) (hb : Binds X.K fd ps []) (hr : Room k X.A) (hx : Passes CXf X E) :
    OpR X (binaryOp .Add) (fun x y H Q => ∃ a b dx dy fs gs, x = .ref a ∧ y = .ref b ∧ H a = some (.ins C dx fs) ∧ H b = some (.ins C dy gs) ∧ sp [.ref a, .ref b] H (fun v H' => (∃ q, v = .ref q) ∧ Q v H') E) := by
  intro pins s σ H x y v u Q I rx ry q
  obtain ⟨a, b, dx, dy, fs, gs, rfl, rfl, ha, hb', q⟩ := q
  cases rx
  cases ry
  obtain ⟨mA, O, _⟩ := ins_get I.hok ha
  obtain ⟨mB, O', _⟩ := ins_get I.hok hb'
  obtain ⟨od, J, _⟩ := O.look
  obtain ⟨od', J', _⟩ := O'.look
  obtain ⟨m, hF⟩ := I.fr
  refine PySem.W.binop_K (op := .Add) hF I.ok.mod.kin J J'.type hc hs hf ?_
  refine thn (run_fn F hr hb .nil hx I (vs := [.ref a, .ref b]) (.cons rfl (.cons rfl .nil)) q) fun r s' z => ?_
  obtain ⟨z, H', I', rz, ⟨q0, e⟩, kz⟩ := z
  subst e
  cases rz
  exact ⟨.ref q0, H', I', rfl, kz⟩
variable {m : Str} {o : Expr} {kws : List Keyword} {ks : List Str} {g : List Value → List Value → List Value} {gV : List V → List V → List V} {p apos pos : Pos} {ta : TE} {tk : TA}
/-- o.m(k = v, ..) -/
def tMethK0 (C : Addr) (m : Str) (n : Nat) (sp : Sp) (gV : List V → List V → List V) (E : XK) (ta : TE) (tk : TA) : TE := fun σ H Q => ta σ H fun x H1 => ∃ a dx fs, x = .ref a ∧ H1 a = some (.ins C dx fs) ∧ fs.lookup m = none ∧ tk σ H1 fun zs H2 => zs.length = n ∧ sp (gV [.ref a] zs) H2 Q E
theorem pe_methK0 {pl : Sem Bool} (he : PE X o ta) (c : Cls X.K C) (hm : Meth X.K C m f) (F : FnOk X.prog X.w X.K X.mg X.base CXf k f fd ps sp) (hr : Room k X.A) (hb : KBn X.K fd ps 1 ks g gV) (hx : Passes CXf X E) (hkw : PK X kws tk)
    (hall : (backToKw pos (keywordEach kws X.env)).all (·.1.isSome) = true := by rfl) (hks : (backToKw pos (keywordEach kws X.env)).filterMap (·.1) = ks := by rfl)
    (hpl : ((backTo pos (starEach [] X.env)).any (·.1) || (backToKw pos (keywordEach kws X.env)).any (·.1.isNone)) = false := by rfl)
    (ht : eval (.Call (.Attribute o m apos) [] kws pos) X.env = (do
      let ov ← eval o X.env
      standAt apos.atName
      let (f, first) ← holding [ov] (getMethod ov m pl)
      callWith pos f first (backTo pos (starEach [] X.env)) (backToKw pos (keywordEach kws X.env))) := by rfl) :
    PE X (.Call (.Attribute o m apos) [] kws pos) (tMethK0 C m ks.length sp gV E ta tk) := by
  refine ⟨fun pins s σ H Q I h => ?_⟩
  refine PySem.W.methodCall_KW (pl := pl) (thn (he.run pins s σ H _ I h) fun u s1 ⟨x, H1, I1, rx, a, dx, fs, ex, ea, l, q⟩ => ?_) ht
  subst ex
  obtain rfl : u = Value.ref a := rx
  refine getmeth_ok I1 ea c hm l ?_
  refine PySem.W.callWith_KW0 (first := [.ref a]) (h₀ := X.base) I.ok.mod.kin hm.kp hall (thn (hkw.run pos pins s1 σ H1 _ I1 q) fun ws s2 ⟨zs, H2, I2, rz, l2, q2⟩ => ⟨I2.kIn, ?_⟩) hpl
  rw [hks]
  have r1 : Vals [V.ref a] [Value.ref a] := .cons rfl .nil
  have e2 : ws.length = ks.length := rz.length.symm.trans l2
  refine wpAny_call (codeAny_mono (F.run X.A X.stack s2 H2 ⟨[.ref a], ks.zip ws⟩ (g [.ref a] ws) _ Q E hr I2.env0 (hb.to s2 [.ref a] ws I2.kIn rfl e2) (hb.rel r1 rz) q2) fun r s' hq => ?_)
  cases r with
  | error e => exact hx pins σ H2 s2 e s' I2 hq
  | ok fl =>
    cases fl with
    | ret u => exact I2.after hq
    | next => exact False.elim hq
    | brk => exact False.elim hq
    | cont => exact False.elim hq
end
end NB

set_option Elab.async false
set_option linter.all false
set_option maxRecDepth 100000
/-! B8: set(xs) of whole numbers -/
namespace NB
open PySem PySem.Spec PyProof.Rows L2
theorem int_at : ∀ {us : List Value} {ns : List Int}, Vals (ns.map V.int) us → ∀ (i : Nat) (v : Value), us[i]? = some v → ∃ k t, ns[i]? = some k ∧ v = .int k t
  | _, [], .nil, i, v, h => by simp at h
  | _, x :: xs, .cons r q, 0, v, h => by
    obtain ⟨t, rfl⟩ := r
    simp at h
    exact ⟨x, t, rfl, h.symm⟩
  | _, x :: xs, .cons r q, i + 1, v, h => by
    simp only [List.getElem?_cons_succ] at h
    obtain ⟨k, t, e, e2⟩ := int_at q i v h
    exact ⟨k, t, by simpa using e, e2⟩
section
variable {prog : Program} {w : World} {A : Around} {E : Value → Shared → Prop} {s : Shared}
set_option maxHeartbeats 3200000 in
theorem call_set_ints {l : Addr} {items : Array Value} {ns : List Int} {Q : Value → Shared → Prop} (hh : A.handled = none) (hl : s.heap.IsList l items) (hi : Vals (ns.map V.int) items.toList) (hn : ns.length + 1 < scanBound)
    (h : ∀ (h' : Heap) (tk c : Nat), SetR w h' s.heap.objs.size (fun j => decide (j ∈ ns)) c → c ≤ ns.length →
      (∀ b o, b < s.heap.objs.size → s.heap.get? b = some o → h'.get? b = some o) → Q (.ref s.heap.objs.size) { s with heap := h', toks := tk }) :
    wpAny (model prog w) A (call (.type "set") [.ref l]) Q E s := by
  have hsz : items.size = ns.length := by have := hi.length; simpa using this.symm
  obtain ⟨c, tl, e_mro⟩ := PySem.F.called_set.mro
  have e_made := PySem.F.called_set.made
  have e_sub := PySem.F.called_set.sub
  have e_type := PySem.F.called_set.notType
  have e_can := PySem.F.called_set.canCreate
  have e_check := PySem.F.typeCall_set_1 (.ref l)
  refine wpAny_call (codeAny_of_tree (show wpAny _ _ (callAny (.type "set") _) _ _ _ from wpAny_pure ⟨Code.quiet_builtin _ (by decide +kernel), codeAny_builtin PySem.F.entry_type_call ?_⟩))
  rw [Around.under_plain (weight_type_call_type "set" [.ref l] []) rfl]
  repeat (any_goals (first | assumption | wp_step))
  refine codeAny_mono (code_set_led1 (.ref l) (E := E) (Q₁ := fun u z => u = .ref s.heap.objs.size ∧ z = { s with heap := s.heap.push (set0 (!w.params.followText "set-order")) }) ⟨rfl, rfl⟩) fun r s1 hr => ?_
  rcases r with e | fl
  · exact hr
  cases fl <;> first | exact hr.elim | skip
  obtain ⟨rfl, rfl⟩ := hr
  generalize hled : (!w.params.followText "set-order") = led
  have hS : (s.heap.push (set0 led)).get? s.heap.objs.size = some (set0 led) := Heap.get?_push_size _ rfl
  have hT : Shared.TypeIs { s with heap := s.heap.push (set0 led) } (.ref s.heap.objs.size) "set" := ⟨_, hS, rfl⟩
  have e_init := PySem.F.called_set.init.lookup
  have e_bind := PySem.F.called_set.init.bind (.ref s.heap.objs.size)
  repeat (any_goals (first | assumption | wp_step))
  refine codeAny_mono (codeAny_call_builtin (R := wants (fun u z => u = .none ∧ ∃ h' tk c, z = { s with heap := h', toks := tk } ∧ SetR w h' s.heap.objs.size (fun j => decide (j ∈ ns)) c ∧ c ≤ ns.length ∧
      (∀ b o, b < s.heap.objs.size → s.heap.get? b = some o → h'.get? b = some o)) E) PySem.F.called_set.init.plain PySem.F.entry_set_init (check_set_init_1 hT ?_)) fun r2 s2 hr2 => ?_
  · obtain ⟨⟨ocls, odict, odata, oslots⟩, hol, hcl, nl, hdl⟩ := hl
    simp only at hcl hdl
    subst hcl; subst hdl
    have hol2 : (s.heap.push (set0 led)).get? l = some { cls := .type "list", dict := odict, data := .seq items nl, slots := oslots } := Heap.get?_push_of_some _ hol
    have f1 := PySem.F.sub_list_set
    have f2 := PySem.F.sub_list_frozenset
    have f3 : (Value.type "list" == Value.type "dict") = false := by decide
    have hl1 : (s.heap.push (set0 led)).IsList l items := ⟨_, hol2, rfl, nl, rfl⟩
    unfold Builtin.«set.__init__» noKeywords Builtin.Frozenset.updateFrom
    generalize hPI : pyIter = PI
    wp_walk
    subst hPI
    refine wpAny_pyIter_list hl1 (wpAny_bind (wpAny_runValue ?_))
    have hlS : l < s.heap.objs.size := Heap.lt_size hol
    have size1 : (s.heap.push (set0 led)).objs.size = s.heap.objs.size + 1 := Heap.size_push _ _
    refine set_update_ints ((Walks.list (by simp [hh]) _ l (by rw [size1]; exact Nat.ne_of_lt (Nat.lt_succ_of_lt hlS)) items).toS) s.heap.objs.size ?hSf ns hsz hn
      (fun i v hv => int_at hi i v (by rw [Array.getElem?_toList]; exact hv)) (items.size - 0) 0 _ (by omega) (Nat.zero_le _) ⟨⟨_, Heap.get?_push_size _ rfl, rfl, rfl⟩, (hl1.push _)⟩ ?hS0 ?hR
    case hSf =>
      rw [size1]
      intro z
      rcases List.mem_cons.mp z with z | z
      · exact Nat.ne_of_lt (Nat.lt_succ_self _) z
      · exact Nat.ne_of_gt hlS (List.mem_singleton.mp z)
    case hS0 =>
      refine ⟨0, Nat.le_refl 0, ?_⟩
      subst hled
      exact setR_new_at (Heap.get?_push_of_some _ hS)
    case hR =>
      intro z c mv hc hz
      obtain ⟨h', g', d', tk', os'⟩ := z
      obtain rfl : g' = s.gens := mv.gens
      obtain rfl : d' = s.drawn := mv.drawn
      obtain rfl : os' = s.os := mv.os
      show wpAny _ _ _ _ _ _
      refine wpAny_pure ?_
      show wpAny _ _ (ret Value.none) _ _ _
      rw [hsz] at hc
      refine wpAny_pure ⟨rfl, h', tk', c, rfl, hz, hc, fun b o hb e => mv.heap b o ?_ (Heap.get?_push_of_some _ (Heap.get?_push_of_some _ e))⟩
      rw [size1]
      intro q
      rcases List.mem_cons.mp q with q | q
      · exact Nat.ne_of_lt hb q
      · exact Nat.ne_of_lt (Nat.lt_succ_of_lt hb) (List.mem_singleton.mp q)
  · rcases r2 with e | fl2
    · exact hr2
    cases fl2 <;> first | exact hr2.elim | skip
    obtain ⟨rfl, h', tk, c2, rfl, hz, hc, keep⟩ := hr2
    repeat (any_goals (first | assumption | wp_step))
    exact h _ _ _ hz hc keep
end
/-- set(xs), xs a list of whole numbers -/
def rSetI (K : PySem.W.Frag) (w : World) : List V → Hp → VK → Prop := fun xs H Q => ∃ (l : Addr) (ns : List Int), xs = [V.ref l] ∧ SqL K H l (ns.map V.int) ∧ ns.length ≤ 1000 ∧ ∀ (p : Addr) (c : Nat), H p = none → c ≤ ns.length → Q (.ref p) (L2.upd H p (SetO w p (fun j => decide (j ∈ ns)) c))
theorem cr_setI {X : Cx} (hc : X.calm = true) : CallR X (.type "set") (rSetI X.K X.w) := by
  intro pins s σ H xs us Q I r h
  obtain ⟨l, ns, rfl, hq, hn, q⟩ := h
  rw [Vals.ref1 r]
  obtain ⟨its, rv, pl, _⟩ := I.list hq
  refine call_set_ints (ns := ns) (I.ok.hd hc) pl.isList (by simpa using rv) (by unfold scanBound; omega) fun h' tk c R hcn hk => ?_
  exact ⟨.ref _, _, I.laid (t' := tk) (o := SetO X.w s.heap.objs.size (fun j => decide (j ∈ ns)) c) (fun b u e => hk b u (Heap.lt_size e) e) (Nat.le_refl _) (setO_new R), rfl, q _ c (I.hok.fresh (Nat.le_refl _)) hcn⟩
end NB

set_option Elab.async false
set_option linter.all false
set_option maxRecDepth 100000
/-! B9: methods, len and + of an instance whose class is told by the reading -/
namespace NB
open PySem PySem.Spec PyProof.Rows L2
/-- a method of the class at C, promised -/
structure MetF (P : Program) (w : World) (K : PySem.W.Frag) (mg : Str → Option Value) (base : Heap) (CXf : CXT) (k : Nat) (C : Addr) (m : Str) (sp : Sp) : Prop where
  ex : ∃ (f : Addr) (fd : FuncData) (ps : List Str), Cls K C ∧ Meth K C m f ∧ FnOk P w K mg base CXf k f fd ps sp ∧ Binds K fd ps []
/-- a special method of the class at C, promised -/
structure SpcF (P : Program) (w : World) (K : PySem.W.Frag) (mg : Str → Option Value) (base : Heap) (CXf : CXT) (k : Nat) (C : Addr) (m : Str) (sp : Sp) : Prop where
  ex : ∃ (f : Addr) (fd : FuncData) (ps : List Str), PySem.W.findIn K (.ref C) m = some (some (.ref f)) ∧ PySem.W.isFn K (.ref f) = true ∧ FnOk P w K mg base CXf k f fd ps sp ∧ Binds K fd ps []
def tMethG (P : Program) (w : World) (K : PySem.W.Frag) (mg : Str → Option Value) (base : Heap) (CXf : CXT) (k : Nat) (m : Str) (E : XK) (ta : TE) (t : TA) : TE := fun σ H Q => ta σ H fun x H1 => ∃ a C dx fs sp, x = .ref a ∧ H1 a = some (.ins C dx fs) ∧ fs.lookup m = none ∧ MetF P w K mg base CXf k C m sp ∧
  t σ H1 fun vs H2 => sp (.ref a :: vs) H2 Q E
section
variable {X : Cx} {CXf : CXT} {k : Nat} {m : Str} {E : XK} {o e : Expr} {es : List Expr} {ta : TE} {t : TA} {apos pos : Pos}
theorem pe_methG {pl : Sem Bool} (he : PE X o ta) (hr : Room k X.A) (hx : Passes CXf X E) (ha : PA X (e :: es) t)
    (hst : starEach (e :: es) X.env = (false, eval e X.env) :: starEach es X.env := by rfl) (hpl : (backTo pos (starEach es X.env)).any (·.1) = false := by rfl)
    (ht : eval (.Call (.Attribute o m apos) (e :: es) [] pos) X.env = (do
      let ov ← eval o X.env
      standAt apos.atName
      let (f, first) ← holding [ov] (getMethod ov m pl)
      callWith pos f first (backTo pos (starEach (e :: es) X.env)) (backToKw pos (keywordEach [] X.env))) := by rfl) :
    PE X (.Call (.Attribute o m apos) (e :: es) [] pos) (tMethG X.prog X.w X.K X.mg X.base CXf k m E ta t) := by
  refine ⟨fun pins s σ H Q I h => ?_⟩
  refine PySem.W.methodCall_KW (pl := pl) (thn (he.run pins s σ H _ I h) fun u s1 z => ?_) ht
  obtain ⟨x, H1, I1, rx, a, C, dx, fs, sp, ex, ea, l, ⟨f, fd, ps, c, hm, F, hb⟩, q⟩ := z
  subst ex
  obtain rfl : u = Value.ref a := rx
  refine getmeth_ok I1 ea c hm l ?_
  refine PySem.W.callWith_K (first := [.ref a]) (h₀ := X.base) I.ok.mod.kin hm.kp (thn (ha.run pos pins s1 σ H1 _ I1 q) fun us s2 z => ?_) hst hpl
  obtain ⟨vs, H2, I2, r, q2⟩ := z
  refine ⟨I2.kIn, ?_⟩
  exact run_fn (us := .ref a :: us) (vs := .ref a :: vs) F hr hb .nil hx I2 (.cons rfl r) (by rw [List.append_nil]; exact q2)
/-- len(o) -/
theorem own_lenG (hr : Room (k + 1) X.A) (hx : Passes CXf X E) :
    CallR X (.builtin "len") (fun xs H Q => ∃ a C dx fs sp, xs = [.ref a] ∧ H a = some (.ins C dx fs) ∧ SpcF X.prog X.w X.K X.mg X.base CXf k C "__len__" sp ∧ sp [.ref a] H (fun v H' => ∃ n : Nat, v = .int n ∧ n ≤ sizeLine ∧ Q (.int n) H') E) := by
  intro pins s σ H xs us Q I rx q
  obtain ⟨a, C, dx, fs, sp, rfl, ha, ⟨f, fd, ps, hs, hf, F, hb⟩, q⟩ := q
  exact own_len F hs hf hb hr hx pins s σ H _ us Q I rx ⟨a, dx, fs, rfl, ha, q⟩
/-- o + p -/
theorem own_addG (hr : Room k X.A) (hx : Passes CXf X E) :
    OpR X (binaryOp .Add) (fun x y H Q => ∃ a b C dx dy fs gs sp, x = .ref a ∧ y = .ref b ∧ H a = some (.ins C dx fs) ∧ H b = some (.ins C dy gs) ∧ PySem.W.selfFirst X.K C = true ∧ SpcF X.prog X.w X.K X.mg X.base CXf k C "__add__" sp ∧
      sp [.ref a, .ref b] H (fun v H' => (∃ q, v = .ref q) ∧ Q v H') E) := by
  intro pins s σ H x y v u Q I rx ry q
  obtain ⟨a, b, C, dx, dy, fs, gs, sp, rfl, rfl, ha, hb', hc, ⟨f, fd, ps, hs, hf, F, hb⟩, q⟩ := q
  exact own_add F hs hf hc hb hr hx pins s σ H _ _ v u Q I rx ry ⟨a, b, dx, dy, fs, gs, rfl, rfl, ha, hb', q⟩
end
end NB

set_option Elab.async false
set_option linter.all false
set_option maxRecDepth 100000
namespace NB
open PySem PySem.Spec PyProof.Rows L2 C8
def top (i : Nat) : Stmt := PySem.Challenge.pw_numberbooks_k02_logs_joined_and_cut.main.body.getD i (.Pass ⟨0, 0, 0, 0⟩)
abbrev s_is_integer : Stmt := top 16
theorem sc_is_integer : FnScope ["thing"] ["thing"] (fnScope s_is_integer) := fnScope_by (by decide +kernel)
abbrev s_is_size : Stmt := top 17
theorem sc_is_size : FnScope ["thing"] ["thing"] (fnScope s_is_size) := fnScope_by (by decide +kernel)
abbrev s_is_name : Stmt := top 18
theorem sc_is_name : FnScope ["thing", "letter"] ["thing"] (fnScope s_is_name) := fnScope_by (by decide +kernel)
abbrev s_are_servers : Stmt := top 19
theorem sc_are_servers : FnScope ["thing", "name"] ["thing"] (fnScope s_are_servers) := fnScope_by (by decide +kernel)
abbrev s_is_server : Stmt := top 20
theorem sc_is_server : FnScope ["servers", "thing"] ["servers", "thing"] (fnScope s_is_server) := fnScope_by (by decide +kernel)
abbrev s_is_entry : Stmt := top 21
theorem sc_is_entry : FnScope ["servers", "thing"] ["servers", "thing"] (fnScope s_is_entry) := fnScope_by (by decide +kernel)
abbrev s_are_entries : Stmt := top 22
theorem sc_are_entries : FnScope ["servers", "thing", "entry"] ["servers", "thing"] (fnScope s_are_entries) := fnScope_by (by decide +kernel)
abbrev s_need_server : Stmt := top 23
theorem sc_need_server : FnScope ["servers", "thing"] ["servers", "thing"] (fnScope s_need_server) := fnScope_by (by decide +kernel)
abbrev s_Log___init__ : Stmt := inClass (top 24) 1
theorem sc_Log___init__ : FnScope ["self", "size", "servers", "entries"] ["self", "size", "servers", "entries"] (fnScope s_Log___init__) := fnScope_by (by decide +kernel)
abbrev s_Log_size : Stmt := inClass (top 24) 2
theorem sc_Log_size : FnScope ["self"] ["self"] (fnScope s_Log_size) := fnScope_by (by decide +kernel)
abbrev s_Log_servers : Stmt := inClass (top 24) 3
theorem sc_Log_servers : FnScope ["self"] ["self"] (fnScope s_Log_servers) := fnScope_by (by decide +kernel)
abbrev s_Log_entries : Stmt := inClass (top 24) 4
theorem sc_Log_entries : FnScope ["self"] ["self"] (fnScope s_Log_entries) := fnScope_by (by decide +kernel)
abbrev s_Log___len__ : Stmt := inClass (top 24) 5
theorem sc_Log___len__ : FnScope ["self"] ["self"] (fnScope s_Log___len__) := fnScope_by (by decide +kernel)
abbrev s_Log___eq__ : Stmt := inClass (top 24) 6
theorem sc_Log___eq__ : FnScope ["self", "other"] ["self", "other"] (fnScope s_Log___eq__) := fnScope_by (by decide +kernel)
abbrev s_Log___contains__ : Stmt := inClass (top 24) 7
theorem sc_Log___contains__ : FnScope ["self", "thing"] ["self", "thing"] (fnScope s_Log___contains__) := fnScope_by (by decide +kernel)
abbrev s_Log___add__ : Stmt := inClass (top 24) 8
theorem sc_Log___add__ : FnScope ["self", "other", "entries"] ["self", "other"] (fnScope s_Log___add__) := fnScope_by (by decide +kernel)
abbrev s_Log_with_entry : Stmt := inClass (top 24) 9
theorem sc_Log_with_entry : FnScope ["self", "server", "number"] ["self", "server", "number"] (fnScope s_Log_with_entry) := fnScope_by (by decide +kernel)
abbrev s_Log_front : Stmt := inClass (top 24) 10
theorem sc_Log_front : FnScope ["self", "count"] ["self", "count"] (fnScope s_Log_front) := fnScope_by (by decide +kernel)
abbrev s_log_of : Stmt := top 26
theorem sc_log_of : FnScope ["kind", "size", "servers", "entries"] ["kind", "size", "servers", "entries"] (fnScope s_log_of) := fnScope_by (by decide +kernel)
abbrev s__law_feed : Stmt := top 28
theorem sc__law_feed : FnScope ["script", "k", "start"] ["script", "k"] (fnScope s__law_feed) := fnScope_by (by decide +kernel)
abbrev s__law_pick : Stmt := top 29
theorem sc__law_pick : FnScope ["feed", "many", "digit", "found", "turn", "mixed"] ["feed", "many"] (fnScope s__law_pick) := fnScope_by (by decide +kernel)
abbrev s__law_crew : Stmt := top 30
theorem sc__law_crew : FnScope ["feed", "most", "names", "turn"] ["feed", "most"] (fnScope s__law_crew) := fnScope_by (by decide +kernel)
abbrev s__law_entries : Stmt := top 31
theorem sc__law_entries : FnScope ["feed", "crew", "most", "limit", "found", "turn", "again", "fresh"] ["feed", "crew", "most", "limit"] (fnScope s__law_entries) := fnScope_by (by decide +kernel)
abbrev s__law_made : Stmt := top 32
theorem sc__law_made : FnScope ["kind", "unit", "crew", "shown"] ["kind", "unit", "crew", "shown"] (fnScope s__law_made) := fnScope_by (by decide +kernel)
abbrev s__law_are : Stmt := top 33
theorem sc__law_are : FnScope ["book", "kind", "unit", "crew", "shown", "told"] ["book", "kind", "unit", "crew", "shown"] (fnScope s__law_are) := fnScope_by (by decide +kernel)
abbrev s__law_caught : Stmt := top 34
theorem sc__law_caught : FnScope ["book", "other", "entry"] ["book", "other", "entry"] (fnScope s__law_caught) := fnScope_by (by decide +kernel)
abbrev s__law_right : Stmt := top 35
theorem sc__law_right : FnScope ["feed", "kind", "unit", "crew", "shown", "cut", "book", "rest", "whole", "many", "told", "step", "name", "figure", "later"] ["feed", "kind", "unit", "crew", "shown"] (fnScope s__law_right) := fnScope_by (by decide +kernel)
abbrev s_law : Stmt := top 36
theorem sc_law : FnScope ["script", "k", "feed", "most", "kind", "crew", "unit", "full", "one", "told"] ["script"] (fnScope s_law) := fnScope_by (by decide +kernel)
end NB

set_option Elab.async false
set_option linter.all false
set_option maxRecDepth 100000
set_option maxHeartbeats 4000000
/-! K1: the defs of numberbooks.logs -/
namespace NB
open PySem PySem.Spec L2
open PyProof.Rows (envOfC)
open C8 (pe_c pe_mk pe_mt pe_mt0 pe_gc fnScope fnBody fnArgs fnScope_by Cal Met Mak)

theorem kt_str_str {K : PySem.W.Frag} : PySem.W.kitOne K (.type "str") (.type "str") = some true := kit_ty (by decide +kernel)
theorem kt_list_list {K : PySem.W.Frag} : PySem.W.kitOne K (.type "list") (.type "list") = some true := kit_ty (by decide +kernel)
theorem kt_tup_tup {K : PySem.W.Frag} : PySem.W.kitOne K (.type "tuple") (.type "tuple") = some true := kit_ty (by decide +kernel)
theorem kt_int_int {K : PySem.W.Frag} : PySem.W.kitOne K (.type "int") (.type "int") = some true := kit_ty (by decide +kernel)
theorem kt_int_bool {K : PySem.W.Frag} : PySem.W.kitOne K (.type "int") (.type "bool") = some false := kit_ty (by decide +kernel)
theorem kt_bool_int {K : PySem.W.Frag} : PySem.W.kitOne K (.type "bool") (.type "int") = some true := kit_ty (by decide +kernel)
theorem kt_bool_bool {K : PySem.W.Frag} : PySem.W.kitOne K (.type "bool") (.type "bool") = some true := kit_ty (by decide +kernel)

/-! ### promises -/
def spInteger (K : PySem.W.Frag) : Sp := fun vs H Q _ => ∃ x b, vs = [x] ∧ IntJ K H x b ∧ Q (.bl b) H
def spSizeB : Sp := fun vs H Q _ => ∃ i, vs = [.int i] ∧ Q (.bl (decide (1 ≤ i) && decide (i ≤ 10 ^ 30))) H
def spName : Sp := fun vs H Q _ => ∃ z, vs = [.str z] ∧ nameB z = true ∧ ∀ H', Ext H H' → Q (.bl true) H'
def spCrew : Sp := fun vs H Q _ => ∃ a ns, vs = [.ref a] ∧ H a = some (.lst (ns.map V.str)) ∧ CrewOk ns ∧ ∀ H', Ext H H' → Q (.bl true) H'
def spServer (K : PySem.W.Frag) : Sp := fun vs H Q _ => ∃ a ns x b, vs = [.ref a, x] ∧ H a = some (.lst (ns.map V.str)) ∧ SrvJ K H ns x b ∧ Q (.bl b) H
def spEntry (K : PySem.W.Frag) : Sp := fun vs H Q _ => ∃ a ns x r, vs = [.ref a, x] ∧ H a = some (.lst (ns.map V.str)) ∧ Jd K H ns x r ∧ Q (.bl r.isSome) H
def spEntries : Sp := fun vs H Q _ => ∃ a ns l es xs, vs = [.ref a, .ref l] ∧ H a = some (.lst (ns.map V.str)) ∧ H l = some (.lst xs) ∧ EntL H es xs ∧ EntsOk ns es ∧ ∀ H', Ext H H' → Q (.bl true) H'
/-- __init__ with right arguments -/
def spInit (C : Addr) : Sp := fun vs H Q _ => ∃ p dx sz a ns l es xs, vs = [.ref p, .int sz, .ref a, .ref l] ∧ H p = some (.ins C dx []) ∧ H dx = some (.own p) ∧ SizeOk sz ∧ H a = some (.lst (ns.map V.str)) ∧ CrewOk ns ∧ H l = some (.lst xs) ∧ EntL H es xs ∧ EntsOk ns es ∧
  ∀ H' ls le, H ls = none → H le = none → H' p = some (.ins C dx (lf sz ls le)) → H' ls = some (.lst (ns.map V.str)) → H' le = some (.lst xs) → Frm [p] H H' → Q .non H'

section
variable {P : Program} {w : World} {K : PySem.W.Frag} {mg : Str → Option Value} {base : Heap} {cL cX : Addr}
theorem ok_is_integer (T : Tx K mg cL cX) (D : Dx K mg "is_integer" s_is_integer ["thing"]) : Cal P w K mg base 1 "is_integer" (spInteger K) [] := by
  refine cal_of D sc_is_integer (fun vs H Q E h => ?_) (fun f cdv A o s H vs Q E hr h => ?_)
  · obtain ⟨x, b, rfl, _⟩ := h; rfl
  · obtain ⟨x, b, rfl, j, k⟩ := h
    refine ⟨_, (pss_one (ps_ret (pe_and (pe_callB call_isi (by rfl) T.n_isinstance (by decide +kernel) (pa_cons (mv 0) (pa_cons (pe_bltn (v := .ty "int") (u := .type "int") (by rfl) T.n_int (by decide +kernel) rfl) pa_nil))) (pe_one (pe_not (pe_callB call_isi (by rfl) T.n_isinstance (by decide +kernel) (pa_cons (mv 0) (pa_cons (pe_bltn (v := .ty "bool") (u := .type "bool") (by rfl) T.n_bool (by decide +kernel) rfl) pa_nil)))))))), ?_⟩
    cases j with
    | int i =>
      refine ⟨_, _, _, _, _, rfl, .ty _, .base (.int i), kt_int_int, _, rfl, ifT (by rfl) ?_⟩
      exact ⟨_, _, _, _, _, rfl, .ty _, .base (.int i), kt_int_bool, _, rfl, k⟩
    | bl c =>
      refine ⟨_, _, _, _, _, rfl, .ty _, .base (.bl c), kt_bool_int, _, rfl, ifT (by rfl) ?_⟩
      exact ⟨_, _, _, _, _, rfl, .ty _, .base (.bl c), kt_bool_bool, _, rfl, k⟩
    | kind ty e => exact ⟨_, _, _, _, _, rfl, .ty _, ty, e, _, rfl, ifF (by rfl) k⟩

theorem ok_is_size (T : Tx K mg cL cX) (D : Dx K mg "is_size" s_is_size ["thing"]) (c_is_integer : Cal P w K mg base 1 "is_integer" (spInteger K) []) : Cal P w K mg base 2 "is_size" spSizeB [] := by
  refine cal_of D sc_is_size (fun vs H Q E h => ?_) (fun f cdv A o s H vs Q E hr h => ?_)
  · obtain ⟨i, rfl, _⟩ := h; rfl
  · obtain ⟨i, rfl, k⟩ := h
    refine ⟨_, (pss_one (ps_ret (pe_and (pe_c c_is_integer hr (by decide) rfl (pa_cons (mv 0) pa_nil)) (pe_one (pe_chain m_le m_le pe_int (mv 0) (pe_gc rfl T.g_GREATEST_SIZE)))))), ?_⟩
    refine ⟨_, _, rfl, .int i, _, rfl, ifT (by rfl) ?_⟩
    refine ⟨_, rfl, ?_⟩
    by_cases h : 1 ≤ i
    · rw [decide_eq_true h] at k ⊢
      exact ifT (by rfl) k
    · rw [decide_eq_false h] at k ⊢
      exact ifF (by rfl) k

theorem lett_in {c : Nat} (h : 97 ≤ c ∧ c ≤ 122) : (!(Builtin.Str.occurrences LETT ⟨#[c]⟩ 0 LETT.length 1).isEmpty) = true := by
  have e : LETT = SX.S [97, 98, 99, 100, 101, 102, 103, 104, 105, 106, 107, 108, 109, 110, 111, 112, 113, 114, 115, 116, 117, 118, 119, 120, 121, 122] := by decide +kernel
  rw [e]
  refine (SX.in_one _ c).trans (decide_eq_true ?_)
  obtain ⟨h1, h2⟩ := h
  have : c = 97 ∨ c = 98 ∨ c = 99 ∨ c = 100 ∨ c = 101 ∨ c = 102 ∨ c = 103 ∨ c = 104 ∨ c = 105 ∨ c = 106 ∨ c = 107 ∨ c = 108 ∨ c = 109 ∨ c = 110 ∨ c = 111 ∨ c = 112 ∨ c = 113 ∨ c = 114 ∨ c = 115 ∨ c = 116 ∨ c = 117 ∨ c = 118 ∨ c = 119 ∨ c = 120 ∨ c = 121 ∨ c = 122 := by omega
  simp only [List.mem_cons, List.not_mem_nil, or_false]
  exact this

theorem all_true (n : Nat) : (List.replicate n true).all id = true := by
  rw [List.all_replicate]; simp
theorem rep_more (n : Nat) : (List.replicate n true).map V.bl ++ [V.bl true] = (List.replicate (n + 1) true).map V.bl := by
  rw [List.replicate_succ', List.map_append]; rfl
theorem goY {σ : L2.St} {H : Hp} {Q : Bool → Hp → Prop} (h : Q true H) : tYes σ H Q := h
/-- what a comprehension of Trues keeps -/
def Trues (H0 : Hp) (D : Addr) (i : Nat) (H : Hp) : Prop := Ext H0 H ∧ H D = some (.lst ((List.replicate i true).map V.bl))
theorem Trues.next {H0 H : Hp} {D : Addr} {i : Nat} (h : Trues H0 D i H) (hD : H0 D = none) : Trues H0 D (i + 1) (upd H D (.lst ((List.replicate i true).map V.bl ++ [V.bl true]))) := by
  refine ⟨fun a o e => ?_, ?_⟩
  · rw [upd_ne (ne_of_none e hD)]; exact h.1 a o e
  · rw [upd_same, rep_more]
theorem Trues.zero {H0 : Hp} {D : Addr} (hD : H0 D = none) : Trues H0 D 0 (upd H0 D (.lst [])) := ⟨Ext.upd hD, upd_same⟩

theorem ok_is_name (T : Tx K mg cL cX) (D : Dx K mg "is_name" s_is_name ["thing"]) : Cal P w K mg base 1 "is_name" spName [] := by
  refine cal_of D sc_is_name (fun vs H Q E h => ?_) (fun f cdv A o s H vs Q E hr h => ?_)
  · obtain ⟨z, rfl, _⟩ := h; rfl
  · obtain ⟨z, rfl, hz, k⟩ := h
    unfold nameB at hz
    simp only [Bool.and_eq_true, decide_eq_true_eq] at hz
    obtain ⟨⟨h1, h2⟩, h3⟩ := hz
    have hl : z.length ≤ sizeLine := Nat.le_trans h2 (by decide)
    have e1 : (1 : Int) ≤ (z.length : Int) := by omega
    have e2 : (z.length : Int) ≤ 8 := by omega
    refine ⟨_, (pss_cons (ps_if (PW.pt (pw_or (pt_not (qv (pe_callB call_isi (by rfl) T.n_isinstance (by decide +kernel) (pa_cons (mv 0) (pa_cons (pe_bltn (v := .ty "str") (u := .type "str") (by rfl) T.n_str (by decide +kernel) rfl) pa_nil))))) (pw_or1 (pt_not (pt_chain m_le m_le pe_int (pe_callB call_len (by rfl) T.n_len (by decide +kernel) (pa_cons (mv 0) pa_nil)) (pe_gc rfl T.g_MOST_LETTERS)))))) (pss_one (ps_ret pe_bl)) pss_nil)
    (pss_one (ps_ret (pe_callB (cr_all rfl) (by rfl) T.n_all (by decide +kernel) (pa_cons (pe_lc (own := [("letter", 1)]) (g := gName 1) (tt := tYes) rfl sc_is_name.nd (pi_str (mv 0)) (blkOk_by (own := [("letter", 1)]) (N := ["thing", "letter"]) (sc := fnScope s_is_name) (by decide +kernel)) (fun _ _ _ _ _ => (pg_name (i := 1) sc_is_name.nd rfl (Or.inl rfl))) (fun _ _ _ _ _ => pts_nil) (fun _ _ _ _ _ => (pe_cmpR op_in_str (mv 1) (pe_gc rfl T.g_LETTERS) (by rfl)))) pa_nil))))), ?_⟩
    refine ⟨_, _, _, _, _, rfl, .ty _, .base (.str z), kt_str_str, ifF (by rfl) ?_⟩
    refine ⟨_, _, rfl, ⟨hl, rfl⟩, _, rfl, ?_⟩
    rw [decide_eq_true e1]
    refine ifT (by rfl) ⟨_, rfl, ?_⟩
    rw [decide_eq_true e2]
    refine ifF (by rfl) ?_
    refine ⟨_, rfl, fun d hd => lc_txt (Trues H d) (Trues.zero hd) ?_ ?_⟩
    · intro i c H1 hc t
      have hc2 := List.all_eq_true.mp h3 c (List.mem_of_getElem? hc)
      simp only [Bool.and_eq_true, decide_eq_true_eq] at hc2
      have hi : i < z.length := by have := (List.getElem?_eq_some_iff.mp hc).1; simpa [Str.length] using this
      refine ⟨rfl, goY (ifT (by rfl) ⟨_, _, rfl, rfl, _, t.2, ?_, ?_⟩)⟩
      · rw [List.length_map, List.length_replicate]; omega
      · rw [lett_in hc2]
        exact t.next hd
    · intro H1 t
      exact ⟨_, _, rfl, SqL.of t.2, by rw [all_true]; exact k H1 t.1⟩

theorem map_at {α : Type} {f : α → V} {xs : List α} {i : Nat} {y : V} (h : (xs.map f)[i]? = some y) : ∃ x, xs[i]? = some x ∧ y = f x := by
  rw [List.getElem?_map] at h
  cases e : xs[i]? with
  | none => rw [e] at h; cases h
  | some x => rw [e] at h; exact ⟨x, rfl, (Option.some.inj h).symm⟩

theorem ok_are_servers (T : Tx K mg cL cX) (D : Dx K mg "are_servers" s_are_servers ["thing"]) (c_is_name : Cal P w K mg base 1 "is_name" spName []) : Cal P w K mg base 2 "are_servers" spCrew [] := by
  refine cal_of D sc_are_servers (fun vs H Q E h => ?_) (fun f cdv A o s H vs Q E hr h => ?_)
  · obtain ⟨a, ns, rfl, _⟩ := h; rfl
  · obtain ⟨a, ns, rfl, ha, ok, k⟩ := h
    have e1 : (1 : Int) ≤ (ns.length : Int) := by have := ok.one; omega
    have e2 : (ns.length : Int) ≤ 12 := by have := ok.few; omega
    refine ⟨_, (pss_cons (ps_if (PW.pt (pw_or (pt_not (qv (pe_callB call_isi (by rfl) T.n_isinstance (by decide +kernel) (pa_cons (mv 0) (pa_cons (pe_bltn (v := .ty "list") (u := .type "list") (by rfl) T.n_list (by decide +kernel) rfl) pa_nil))))) (pw_or1 (pt_not (pt_chain m_le m_le pe_int (pe_callB call_len (by rfl) T.n_len (by decide +kernel) (pa_cons (mv 0) pa_nil)) (pe_gc rfl T.g_MOST_SERVERS)))))) (pss_one (ps_ret pe_bl)) pss_nil)
    (pss_one (ps_ret (pe_and (pe_callB (cr_all rfl) (by rfl) T.n_all (by decide +kernel) (pa_cons (pe_lc (own := [("name", 1)]) (g := gName 1) (tt := tYes) rfl sc_are_servers.nd (pi_list (mv 0)) (blkOk_by (own := [("name", 1)]) (N := ["thing", "name"]) (sc := fnScope s_are_servers) (by decide +kernel)) (fun _ _ _ _ _ => (pg_name (i := 1) sc_are_servers.nd rfl (Or.inl rfl))) (fun _ _ _ _ _ => pts_nil) (fun _ _ _ _ _ => (pe_c c_is_name hr (by decide) rfl (pa_cons (mv 1) pa_nil)))) pa_nil)) (pe_one (pe_cmpR m_eq (pe_lenSetS rfl (by rfl) T.n_len (by rfl) T.n_set (mv 0)) (pe_callB call_len (by rfl) T.n_len (by decide +kernel) (pa_cons (mv 0) pa_nil)) (nomark _))))))), ?_⟩
    refine ⟨_, _, _, _, _, rfl, .ty _, .base (.lst ha), kt_list_list, ifF (by rfl) ?_⟩
    refine ⟨_, _, rfl, .inl ⟨_, SqL.of ha, rfl⟩, _, rfl, ?_⟩
    rw [List.length_map, decide_eq_true e1]
    refine ifT (by rfl) ⟨_, rfl, ?_⟩
    rw [decide_eq_true e2]
    refine ifF (by rfl) ?_
    refine ⟨_, rfl, ⟨_, SqL.of ha⟩, fun d hd => lc_list (K := K) (a := a) (xs := ns.map V.str) (Trues H d) (Trues.zero hd) (fun i H1 _ t => SqL.of (t.1 _ _ ha)) ?_ ?_⟩
    · intro i y H1 hy t
      obtain ⟨z, hz, rfl⟩ := map_at hy
      have hi : i < ns.length := (List.getElem?_eq_some_iff.mp hz).1
      refine ⟨rfl, goY (ifT (by rfl) ?_)⟩
      refine ⟨z, rfl, ok.nam z (List.mem_of_getElem? hz), fun H2 x => ⟨_, x _ _ t.2, ?_, ?_⟩⟩
      · rw [List.length_map, List.length_replicate]
        exact Nat.lt_of_lt_of_le hi (Nat.le_trans ok.few (by decide))
      · exact Trues.next ⟨t.1.trans x, x _ _ t.2⟩ hd
    · intro H1 t
      refine ⟨_, _, rfl, SqL.of t.2, ?_⟩
      rw [all_true]
      refine ⟨_, rfl, ifT (by rfl) ?_⟩
      refine ⟨a, ns, rfl, SqL.of (t.1 _ _ ha), Nat.le_trans ok.few (by decide), ok.nd, ?_⟩
      refine ⟨_, _, rfl, .inl ⟨_, SqL.of (t.1 _ _ ha), rfl⟩, ?_⟩
      rw [List.length_map]
      show Q (.bl (decide ((ns.length : Int) = (ns.length : Int)))) H1
      rw [decide_eq_true rfl]
      exact k H1 t.1

theorem inV_str (z : Str) : ∀ ns : List Str, inV (.str z) (ns.map V.str) = decide (z ∈ ns)
  | [] => rfl
  | y :: ns => by
    have ih := inV_str z ns
    unfold inV at ih ⊢
    rw [List.map_cons, List.any_cons, ih]
    have e : eqV (.str y) (.str z) = decide (y = z) := by
      unfold eqV
      by_cases h : y = z
      · subst h; simp
      · simp [h]
    rw [e, Bool.eq_iff_iff]
    simp only [Bool.or_eq_true, decide_eq_true_eq, List.mem_cons]
    exact ⟨fun q => q.elim (fun q => .inl q.symm) .inr, fun q => q.elim (fun q => .inl q.symm) .inr⟩
theorem flat_strs (ns : List Str) : (ns.map V.str).all flatV = true := by
  rw [List.all_map, List.all_eq_true]; intro z _; rfl

theorem ok_is_server (T : Tx K mg cL cX) (D : Dx K mg "is_server" s_is_server ["servers", "thing"]) : Cal P w K mg base 1 "is_server" (spServer K) [] := by
  refine cal_of D sc_is_server (fun vs H Q E h => ?_) (fun f cdv A o s H vs Q E hr h => ?_)
  · obtain ⟨a, ns, x, b, rfl, _⟩ := h; rfl
  · obtain ⟨a, ns, x, b, rfl, ha, j, k⟩ := h
    refine ⟨_, (pss_one (ps_ret (pe_and (pe_callB call_isi (by rfl) T.n_isinstance (by decide +kernel) (pa_cons (mv 1) (pa_cons (pe_bltn (v := .ty "str") (u := .type "str") (by rfl) T.n_str (by decide +kernel) rfl) pa_nil))) (pe_one (pe_cmpR op_in_seq (mv 1) (mv 0) (by rfl)))))), ?_⟩
    cases j with
    | str z =>
      refine ⟨_, _, _, _, _, rfl, .ty _, .base (.str z), kt_str_str, _, rfl, ifT (by rfl) ?_⟩
      refine ⟨_, _, rfl, .inl (SqL.of ha), rfl, flat_strs _, ?_⟩
      rw [inV_str]
      exact k
    | kind ty e => exact ⟨_, _, _, _, _, rfl, .ty _, ty, e, _, rfl, ifF (by rfl) k⟩

theorem ok_is_entry (T : Tx K mg cL cX) (D : Dx K mg "is_entry" s_is_entry ["servers", "thing"]) (c_is_server : Cal P w K mg base 1 "is_server" (spServer K) []) (c_is_integer : Cal P w K mg base 1 "is_integer" (spInteger K) []) :
    Cal P w K mg base 2 "is_entry" (spEntry K) [] := by
  refine cal_of D sc_is_entry (fun vs H Q E h => ?_) (fun f cdv A o s H vs Q E hr h => ?_)
  · obtain ⟨a, ns, x, r, rfl, _⟩ := h; rfl
  · obtain ⟨a, ns, x, r, rfl, ha, j, k⟩ := h
    refine ⟨_, (pss_cons (ps_if (PW.pt (pw_or (pt_not (qv (pe_callB call_isi (by rfl) T.n_isinstance (by decide +kernel) (pa_cons (mv 1) (pa_cons (pe_bltn (v := .ty "tuple") (u := .type "tuple") (by rfl) T.n_tuple (by decide +kernel) rfl) pa_nil))))) (pw_or1 (qt m_ne (pe_callB call_len (by rfl) T.n_len (by decide +kernel) (pa_cons (mv 1) pa_nil)) pe_int (nomark _))))) (pss_one (ps_ret pe_bl)) pss_nil)
    (pss_one (ps_ret (pe_and (pe_c c_is_server hr (by decide) rfl (pa_cons (mv 0) (pa_cons (pe_ix m_ix (mv 1) pe_int (fun _ _ => rfl)) pa_nil))) (pe_and (pe_c c_is_integer hr (by decide) rfl (pa_cons (pe_ix m_ix (mv 1) pe_int (fun _ _ => rfl)) pa_nil)) (pe_one (pe_cmpR m_ge (pe_ix m_ix (mv 1) pe_int (fun _ _ => rfl)) pe_int (nomark _)))))))), ?_⟩
    have two : ∀ {p : Addr} {x y : V}, H p = some (.tup [x, y]) → ∀ {b : Bool}, SrvJ K H ns x b → (b = true → ∃ c, IntJ K H y c ∧ (c = true → ∃ i, y = .int i ∧ Q (.bl (decide (0 ≤ i))) H) ∧ (c = false → Q (.bl false) H)) → (b = false → Q (.bl false) H) →
        tIfS (tOr (tNot (mT (tCB (rIsi K) (tCons (mV 1) (tCons (tC (.ty "tuple")) tNil))))) (mT (tOp (mEqG fun b => !b) (tCB (fun xs H Q => ∃ x n, xs = [x] ∧ LenV K x H n ∧ Q (.int n) H) (tCons (mV 1) tNil)) (tC (.int 2)))))
          (tRet (tC (.bl false))) tNext { nx := fun _ H' => tRet (tAndV (tCall (spServer K) [] C8.E0 (tCons (mV 0) (tCons (tOp (mIx K) (mV 1) (tC (.int 0))) tNil)))
            (tAndV (tCall (spInteger K) [] C8.E0 (tCons (tOp (mIx K) (mV 1) (tC (.int 1))) tNil)) (tOp (mI0 fun i j => .bl (decide (j ≤ i))) (tOp (mIx K) (mV 1) (tC (.int 1))) (tC (.int 0))))) { nx := fun _ H' => Q .non H', rt := Q } [some (.ref a), some (.ref p)] H', rt := Q } [some (.ref a), some (.ref p)] H := by
      intro p x y hp b js h1 h2
      refine ⟨_, _, _, _, _, rfl, .ty _, .base (.tup hp), kt_tup_tup, ifF (by rfl) ?_⟩
      refine ⟨_, _, rfl, .inr ⟨_, SqT.of hp, rfl⟩, ?_⟩
      dsimp only [tC, mEqG, kB]
      refine ifF (by rfl) ?_
      refine ⟨_, _, .inr (SqT.of hp), atI_nat (j := 0) rfl, a, ns, _, b, rfl, ha, js, _, rfl, ?_⟩
      cases b with
      | false => exact ifF rfl (h2 rfl)
      | true =>
        refine ifT rfl ?_
        obtain ⟨c, jc, h3, h4⟩ := h1 rfl
        refine ⟨_, _, .inr (SqT.of hp), atI_nat (j := 1) rfl, _, c, rfl, jc, _, rfl, ?_⟩
        cases c with
        | false => exact ifF rfl (h4 rfl)
        | true =>
          refine ifT rfl ?_
          obtain ⟨i, rfl, q⟩ := h3 rfl
          exact ⟨_, _, .inr (SqT.of hp), atI_nat (j := 1) rfl, q⟩
    cases j with
    | kind ty e => exact ⟨_, _, _, _, _, rfl, .ty _, ty, e, ifT (by rfl) (ifT (by rfl) k)⟩
    | @size p xs hp hl =>
      refine ⟨_, _, _, _, _, rfl, .ty _, .base (.tup hp), kt_tup_tup, ifF (by rfl) ?_⟩
      refine ⟨_, _, rfl, .inr ⟨_, SqT.of hp, rfl⟩, ?_⟩
      have e : ¬ ((xs.length : Int) = 2) := by omega
      show if (!decide ((xs.length : Int) = 2)) = true then _ else _
      rw [decide_eq_false e]
      exact ifT (by rfl) k
    | srv hp js => exact two hp js (fun z => nomatch z) fun _ => k
    | num hp js ji => exact two hp js (fun _ => ⟨false, ji, (fun z => nomatch z), fun _ => k⟩) fun z => nomatch z
    | @neg p x i hp js hi => exact two hp js (fun _ => ⟨true, .int i, fun _ => ⟨i, rfl, by rw [decide_eq_false (by omega)]; exact k⟩, fun z => nomatch z⟩) fun z => nomatch z
    | @ok p z i hp hz hi =>
      have js : SrvJ K H ns (.str z) true := by have := SrvJ.str (K := K) (H := H) (ns := ns) z; rw [decide_eq_true hz] at this; exact this
      exact two hp js (fun _ => ⟨true, .int i, fun _ => ⟨i, rfl, by rw [decide_eq_true hi]; exact k⟩, fun z => nomatch z⟩) fun z => nomatch z

theorem EntL.at {H : Hp} : ∀ {es : List (Str × Int)} {vs : List V} {i : Nat} {v : V}, EntL H es vs → vs[i]? = some v → ∃ e, es[i]? = some e ∧ EntAt H e v
  | _, _, i, v, .nil, h => by simp at h
  | _, _, 0, v, .cons (a := e) r q, h => by simp at h; subst h; exact ⟨e, rfl, r⟩
  | _, _, i + 1, v, .cons r q, h => by
    obtain ⟨e, h1, h2⟩ := EntL.at q (i := i) (v := v) (by simpa using h)
    exact ⟨e, by simpa using h1, h2⟩
theorem EntL.len {H : Hp} {es : List (Str × Int)} {vs : List V} (h : EntL H es vs) : es.length = vs.length := Paired.length h

theorem ok_are_entries (T : Tx K mg cL cX) (D : Dx K mg "are_entries" s_are_entries ["servers", "thing"]) (c_is_entry : Cal P w K mg base 2 "is_entry" (spEntry K) []) : Cal P w K mg base 3 "are_entries" spEntries [] := by
  refine cal_of D sc_are_entries (fun vs H Q E h => ?_) (fun f cdv A o s H vs Q E hr h => ?_)
  · obtain ⟨a, ns, l, es, xs, rfl, _⟩ := h; rfl
  · obtain ⟨a, ns, l, es, xs, rfl, ha, hl, el, ok, k⟩ := h
    have hx : xs.length ≤ 200 := by rw [← el.len]; exact ok.few
    have e1 : ¬ (200 : Int) < (xs.length : Int) := by omega
    refine ⟨_, (pss_cons (ps_if (PW.pt (pw_or (pt_not (qv (pe_callB call_isi (by rfl) T.n_isinstance (by decide +kernel) (pa_cons (mv 1) (pa_cons (pe_bltn (v := .ty "list") (u := .type "list") (by rfl) T.n_list (by decide +kernel) rfl) pa_nil))))) (pw_or1 (qt m_gt (pe_callB call_len (by rfl) T.n_len (by decide +kernel) (pa_cons (mv 1) pa_nil)) (pe_gc rfl T.g_MOST_ENTRIES) (nomark _))))) (pss_one (ps_ret pe_bl)) pss_nil)
    (pss_one (ps_ret (pe_callB (cr_all rfl) (by rfl) T.n_all (by decide +kernel) (pa_cons (pe_lc (own := [("entry", 2)]) (g := gName 2) (tt := tYes) rfl sc_are_entries.nd (pi_list (mv 1)) (blkOk_by (own := [("entry", 2)]) (N := ["servers", "thing", "entry"]) (sc := fnScope s_are_entries) (by decide +kernel)) (fun _ _ _ _ _ => (pg_name (i := 2) sc_are_entries.nd rfl (Or.inl rfl))) (fun _ _ _ _ _ => pts_nil) (fun _ _ _ _ _ => (pe_c c_is_entry hr (by decide) rfl (pa_cons (mv 0) (pa_cons (mv 2) pa_nil))))) pa_nil))))), ?_⟩
    refine ⟨_, _, _, _, _, rfl, .ty _, .base (.lst hl), kt_list_list, ifF (by rfl) ?_⟩
    refine ⟨_, _, rfl, .inl ⟨_, SqL.of hl, rfl⟩, ?_⟩
    refine (show if decide ((200 : Int) < (xs.length : Int)) = true then _ else _ from ?_)
    rw [decide_eq_false e1]
    refine ifF rfl ?_
    refine ⟨_, rfl, ⟨_, SqL.of hl⟩, fun d hd => lc_list (K := K) (a := l) (xs := xs) (Trues H d) (Trues.zero hd) (fun i H1 _ t => SqL.of (t.1 _ _ hl)) ?_ ?_⟩
    · intro i y H1 hy t
      have hi : i < xs.length := (List.getElem?_eq_some_iff.mp hy).1
      obtain ⟨e, he, p, rfl, hp⟩ := el.at hy
      obtain ⟨m1, m2⟩ := ok.ok e (List.mem_of_getElem? he)
      refine ⟨rfl, goY (ifT (by rfl) ?_)⟩
      refine ⟨a, ns, _, _, rfl, t.1 _ _ ha, .ok (t.1 _ _ hp) m1 m2, _, t.2, ?_, ?_⟩
      · rw [List.length_map, List.length_replicate]
        exact Nat.lt_of_lt_of_le hi (Nat.le_trans hx (by decide))
      · exact t.next hd
    · intro H1 t
      refine ⟨_, _, rfl, SqL.of t.2, ?_⟩
      rw [all_true]
      exact k H1 t.1

/-- the class's facts for the class at C -/
theorem ok_init {kd : Str} (T : Tx K mg cL cX) {C : Addr} (L : LogC K C kd) {f : Addr} {fd : FuncData} (D : Mx K "__init__" "Log.__init__" s_Log___init__ ["self", "size", "servers", "entries"] f fd)
    (c_is_size : Cal P w K mg base 2 "is_size" spSizeB []) (c_are_servers : Cal P w K mg base 2 "are_servers" spCrew []) (c_are_entries : Cal P w K mg base 3 "are_entries" spEntries []) :
    FnOk P w K mg base C8.CX0 4 f fd ["self", "size", "servers", "entries"] (spInit C) := by
  refine fn_of' D sc_Log___init__ (fun vs H Q E h => ?_) (fun cdv A o s H vs Q E hr h => ?_)
  · obtain ⟨p, dx, sz, a, ns, l, es, xs, rfl, _⟩ := h; rfl
  · obtain ⟨p, dx, sz, a, ns, l, es, xs, rfl, hp, hdx, hsz, ha, cr, hl, el, ok, k⟩ := h
    refine ⟨_, (pss_cons (ps_if (pt_not (qv (pe_c c_is_size hr (by decide) rfl (pa_cons (mv 1) pa_nil)))) (pss_one ps_never) pss_nil)
    (pss_cons (ps_if (pt_not (qv (pe_c c_are_servers hr (by decide) rfl (pa_cons (mv 2) pa_nil)))) (pss_one ps_never) pss_nil)
    (pss_cons (ps_if (pt_not (qv (pe_c c_are_entries hr (by decide) rfl (pa_cons (mv 2) (pa_cons (mv 3) pa_nil))))) (pss_one ps_never) pss_nil)
    (pss_cons (ps_fld (mv 0) (mv 1) rfl)
    (pss_cons (ps_fld (mv 0) (pe_callTy call_list_of (by rfl) T.n_list (by decide +kernel) (pa_cons (mv 2) pa_nil)) rfl)
    (pss_one (ps_fld (mv 0) (pe_callTy call_list_of (by rfl) T.n_list (by decide +kernel) (pa_cons (mv 3) pa_nil)) rfl))))))), ?_⟩
    refine ⟨_, rfl, ?_⟩
    rw [decide_eq_true hsz.1, decide_eq_true hsz.2]
    refine ifF (by rfl) ?_
    refine ⟨a, ns, rfl, ha, cr, fun H1 x1 => ifF (by rfl) ?_⟩
    refine ⟨a, ns, l, es, xs, rfl, x1 _ _ ha, x1 _ _ hl, el.mono x1, ok, fun H2 x2 => ifF (by rfl) ?_⟩
    have x : Ext H H2 := x1.trans x2
    have apL : ∀ {b : Addr} {ys : List V}, H2 b = some (.lst ys) → b ≠ p := fun hb => ne_of hb (x _ _ hp) (by intro z; cases z)
    refine ⟨p, C, dx, _, rfl, x _ _ hp, L.cl, L.nS, (by show 0 < 1000; decide), ?_⟩
    refine ⟨a, _, rfl, .inl (SqL.of (by rw [upd_ne (apL (x _ _ ha))]; exact x _ _ ha)), fun ls nls => ?_⟩
    have p1 : p ≠ ls := ne_of_none upd_same nls
    refine ⟨p, C, dx, _, rfl, by rw [upd_ne p1]; exact upd_same, L.cl, L.nV, (by show 1 < 1000; decide), ?_⟩
    have nl1 : l ≠ ls := ne_of_none (by rw [upd_ne (apL (x _ _ hl))]; exact x _ _ hl) nls
    refine ⟨l, _, rfl, .inl (SqL.of (by rw [upd_ne (apL (x _ _ hl)), upd_ne nl1, upd_ne (apL (x _ _ hl))]; exact x _ _ hl)), fun le nle => ?_⟩
    have p2 : p ≠ le := ne_of_none upd_same nle
    refine ⟨p, C, dx, _, rfl, by rw [upd_ne p2]; exact upd_same, L.cl, L.nE, (by show 2 < 1000; decide), ?_⟩
    have nle1 : ls ≠ le := ne_of_none (o := .lst (ns.map V.str)) (by rw [upd_ne p1.symm]; exact upd_same) nle
    refine k _ ls le (Ext.free x (upd_none nls).2) (Ext.free x (upd_none (upd_none (upd_none nle).2).2).2) upd_same ?_ ?_ ?_
    · rw [upd_ne p1.symm, upd_ne nle1, upd_ne p1.symm]; exact upd_same
    · rw [upd_ne p2.symm]; exact upd_same
    · exact (((((Frm.ext x).upd mem1).new nls).upd mem1).new nle).upd mem1
end
end NB

set_option Elab.async false
set_option linter.all false
set_option maxRecDepth 100000
set_option maxHeartbeats 4000000
/-! K2: the methods of logs -/
namespace NB
open PySem PySem.Spec L2
open PyProof.Rows (envOfC)
open C8 (pe_c pe_mk pe_mt pe_mt0 pe_gc fnScope fnBody fnArgs fnScope_by Cal Met Mak)

def spSize (C : Addr) : Sp := fun vs H Q _ => ∃ p sz ns es, vs = [.ref p] ∧ LogAt C H p sz ns es ∧ Q (.int sz) H
def spServers (C : Addr) : Sp := fun vs H Q _ => ∃ p sz ns es, vs = [.ref p] ∧ LogAt C H p sz ns es ∧ ∀ l, H l = none → Q (.ref l) (upd H l (.lst (ns.map V.str)))
def spEntr (C : Addr) : Sp := fun vs H Q _ => ∃ p sz ns es, vs = [.ref p] ∧ LogAt C H p sz ns es ∧ ∀ l xs, H l = none → EntL H es xs → Q (.ref l) (upd H l (.lst xs))
def spLen (C : Addr) : Sp := fun vs H Q _ => ∃ p sz ns es, vs = [.ref p] ∧ LogAt C H p sz ns es ∧ Q (.int (es.length : Nat)) H
def spIn (K : PySem.W.Frag) (C : Addr) : Sp := fun vs H Q _ => ∃ p sz ns es x r, vs = [.ref p, x] ∧ LogAt C H p sz ns es ∧ EntsOk ns es ∧ (∀ z ∈ ns, nameB z = true) ∧ Jd K H ns x r ∧ Q (.bl (match r with | some e => decide (e ∈ es) | none => false)) H
/-- == of two logs -/
def spEqL (C C2 : Addr) (kd kd2 : Str) : Sp := fun vs H Q _ => ∃ p q sz ns es sz2 ns2 es2, vs = [.ref p, .ref q] ∧ LogAt C H p sz ns es ∧ LogAt C2 H q sz2 ns2 es2 ∧ EntsOk ns es ∧ (∀ z ∈ ns, nameB z = true) ∧ EntsOk ns2 es2 ∧ (∀ z ∈ ns2, nameB z = true) ∧
  Q (.bl (decide (kd2 = kd) && decide (sz2 = sz) && decide (ns2 = ns) && decide (es2 = es))) H
def lastB (sz : Int) : List (Str × Int) → Int
  | [] => -1
  | e :: es => (es.foldl (fun m x => max m x.2) e.2) / sz
def spLast (C : Addr) : Sp := fun vs H Q _ => ∃ p sz ns es, vs = [.ref p] ∧ LogAt C H p sz ns es ∧ SizeOk sz ∧ EntsOk ns es ∧ (∀ z ∈ ns, nameB z = true) ∧ ∀ H', Ext H H' → Q (.int (lastB sz es)) H'

/-! ### data of logs as PyData -/
def encE (e : Str × Int) : PyData := .tuple [.str e.1, .int e.2]
def encS (ns : List Str) : PyData := .list (ns.map .str)
def encL (es : List (Str × Int)) : PyData := .list (es.map encE)
theorem dp_strs {K : PySem.W.Frag} {H : Hp} : ∀ ns : List Str, DpAll K H (ns.map V.str) (ns.map .str)
  | [] => .nil
  | z :: ns => .cons (.str z) (dp_strs ns)
theorem dp_S {K : PySem.W.Frag} {H : Hp} {a : Addr} {ns : List Str} (h : SqL K H a (ns.map V.str)) : Dp K H (.ref a) (encS ns) := .lst h (dp_strs ns)
theorem dp_E {K : PySem.W.Frag} {H : Hp} {e : Str × Int} {v : V} (h : EntAt H e v) : Dp K H v (encE e) := by
  obtain ⟨p, rfl, hp⟩ := h
  exact .tup (SqT.of hp) (.cons (.str _) (.cons (.int _) .nil))
theorem dp_ents {K : PySem.W.Frag} {H : Hp} : ∀ {es : List (Str × Int)} {vs : List V}, EntL H es vs → DpAll K H vs (es.map encE)
  | _, _, .nil => .nil
  | _, _, .cons r q => .cons (dp_E r) (dp_ents q)
theorem dp_L {K : PySem.W.Frag} {H : Hp} {a : Addr} {es : List (Str × Int)} {vs : List V} (h : SqL K H a vs) (el : EntL H es vs) : Dp K H (.ref a) (encL es) := .lst h (dp_ents el)

theorem all_canLay : ∀ {ds : List PyData}, (∀ d ∈ ds, d.canLay0 = true) → PyData.canLayAll0 ds = true
  | [], _ => by simp [PyData.canLayAll0]
  | d :: ds, h => by
    simp only [PyData.canLayAll0, Bool.and_eq_true]
    exact ⟨h d List.mem_cons_self, all_canLay fun x hx => h x (List.mem_cons_of_mem _ hx)⟩
theorem all_depth {n : Nat} : ∀ {ds : List PyData}, (∀ d ∈ ds, d.depth ≤ n) → PyData.depthAll ds ≤ n
  | [], _ => by simp [PyData.depthAll]
  | d :: ds, h => by
    simp only [PyData.depthAll]
    exact Nat.max_le.mpr ⟨h d List.mem_cons_self, all_depth fun x hx => h x (List.mem_cons_of_mem _ hx)⟩
theorem shaped_list {ds : List PyData} {n : Nat} (h : ∀ d ∈ ds, d.canLay0 = true ∧ d.depth ≤ n) (hn : n < 60) : SeqAt.shaped (.list ds) = true := by
  unfold SeqAt.shaped
  have z := all_depth fun d hd => (h d hd).2
  refine Bool.and_eq_true_iff.mpr ⟨?_, decide_eq_true ?_⟩
  · show PyData.canLayAll0 ds = true
    exact all_canLay fun d hd => (h d hd).1
  · show PyData.depthAll ds + 1 ≤ 64
    omega
theorem strOk_name {z : Str} (h : nameB z = true) : PyData.canLay0 (.str z) = true := by
  unfold nameB at h
  simp only [Bool.and_eq_true, decide_eq_true_eq, List.all_eq_true] at h
  show z.cps.all (· < 0x110000) = true
  rw [← Array.all_toList, List.all_eq_true]
  intro c hc
  have := (h.2 c hc).2
  exact decide_eq_true (by omega)
theorem shaped_S {ns : List Str} (h : ∀ z ∈ ns, nameB z = true) : SeqAt.shaped (encS ns) = true := by
  refine shaped_list (n := 0) (fun d hd => ?_) (by decide)
  obtain ⟨z, hz, rfl⟩ := List.mem_map.mp hd
  exact ⟨strOk_name (h z hz), Nat.le_refl _⟩
theorem shaped_E {e : Str × Int} (h : nameB e.1 = true) : SeqAt.shaped (encE e) = true ∧ (encE e).canLay0 = true ∧ (encE e).depth ≤ 1 := by
  have c : (encE e).canLay0 = true := by
    show PyData.canLayAll0 [.str e.1, .int e.2] = true
    refine all_canLay fun d hd => ?_
    rcases List.mem_cons.mp hd with rfl | hd
    · exact strOk_name h
    · rw [List.mem_singleton.mp hd]; rfl
  have d : (encE e).depth ≤ 1 := by
    show max 0 (max 0 0) + 1 ≤ 1
    decide
  exact ⟨Bool.and_eq_true_iff.mpr ⟨c, decide_eq_true (Nat.le_trans d (by decide))⟩, c, d⟩
theorem shaped_L {es : List (Str × Int)} (h : ∀ e ∈ es, nameB e.1 = true) : SeqAt.shaped (encL es) = true := by
  refine shaped_list (n := 1) (fun d hd => ?_) (by decide)
  obtain ⟨e, he, rfl⟩ := List.mem_map.mp hd
  exact (shaped_E (h e he)).2
theorem eqvAll_map {α : Type} [DecidableEq α] {f : α → PyData} (hf : ∀ x y, PyData.eqv (f x) (f y) = decide (x = y)) : ∀ xs ys : List α, PyData.eqvAll (xs.map f) (ys.map f) = decide (xs = ys)
  | [], [] => by simp [PyData.eqvAll]
  | [], y :: ys => by simp [PyData.eqvAll]
  | x :: xs, [] => by simp [PyData.eqvAll]
  | x :: xs, y :: ys => by
    simp only [List.map_cons, PyData.eqvAll, hf, eqvAll_map hf xs ys]
    rw [Bool.eq_iff_iff]
    simp
theorem eqv_str (x y : Str) : PyData.eqv (.str x) (.str y) = decide (x = y) := by
  simp only [PyData.eqv]
  by_cases h : x = y
  · subst h; simp
  · rw [decide_eq_false h]; simpa using h
theorem eqv_ent (e g : Str × Int) : PyData.eqv (encE e) (encE g) = decide (e = g) := by
  obtain ⟨a, i⟩ := e
  obtain ⟨b, j⟩ := g
  unfold encE
  simp only [PyData.eqv, PyData.eqvAll]
  rw [Bool.eq_iff_iff]
  simp
theorem eqv_S (ns ms : List Str) : PyData.eqv (encS ns) (encS ms) = decide (ns = ms) := by
  unfold encS
  simp only [PyData.eqv]
  exact eqvAll_map eqv_str ns ms
theorem eqv_L (es gs : List (Str × Int)) : PyData.eqv (encL es) (encL gs) = decide (es = gs) := by
  unfold encL
  simp only [PyData.eqv]
  exact eqvAll_map eqv_ent es gs
theorem any_L (e : Str × Int) (es : List (Str × Int)) : ((es.map encE).any fun z => PyData.eqv z (encE e)) = decide (e ∈ es) := by
  rw [List.any_map, Bool.eq_iff_iff]
  simp only [List.any_eq_true, Function.comp, eqv_ent, decide_eq_true_eq]
  exact ⟨fun ⟨x, h, q⟩ => q ▸ h, fun h => ⟨e, h, rfl⟩⟩

section
variable {P : Program} {w : World} {K : PySem.W.Frag} {mg : Str → Option Value} {base : Heap} {cL cX C : Addr} {kd : Str} {f : Addr} {fd : FuncData}
theorem ok_size (L : LogC K C kd) (D : Mx K "size" "Log.size" s_Log_size ["self"] f fd) : FnOk P w K mg base C8.CX0 1 f fd ["self"] (spSize C) := by
  refine fn_of' D sc_Log_size (fun vs H Q E h => ?_) (fun cdv A o s H vs Q E hr h => ?_)
  · obtain ⟨p, sz, ns, es, rfl, _⟩ := h; rfl
  · obtain ⟨p, sz, ns, es, rfl, ⟨dx, ls, le, xs, hp, h1, h2, el⟩, k⟩ := h
    exact ⟨_, (pss_one (ps_ret (pe_fld (mv 0) rfl))), p, C, dx, _, _, rfl, hp, L.cl, L.nS, lf_size _ _ _, k⟩
theorem ok_servers (T : Tx K mg cL cX) (L : LogC K C kd) (D : Mx K "servers" "Log.servers" s_Log_servers ["self"] f fd) : FnOk P w K mg base C8.CX0 1 f fd ["self"] (spServers C) := by
  refine fn_of' D sc_Log_servers (fun vs H Q E h => ?_) (fun cdv A o s H vs Q E hr h => ?_)
  · obtain ⟨p, sz, ns, es, rfl, _⟩ := h; rfl
  · obtain ⟨p, sz, ns, es, rfl, ⟨dx, ls, le, xs, hp, h1, h2, el⟩, k⟩ := h
    exact ⟨_, (pss_one (ps_ret (pe_callTy call_list_of (by rfl) T.n_list (by decide +kernel) (pa_cons (pe_fld (mv 0) rfl) pa_nil)))), p, C, dx, _, _, rfl, hp, L.cl, L.nV, lf_servers _ _ _, ls, _, rfl, .inl (SqL.of h1), k⟩
theorem ok_entries (T : Tx K mg cL cX) (L : LogC K C kd) (D : Mx K "entries" "Log.entries" s_Log_entries ["self"] f fd) : FnOk P w K mg base C8.CX0 1 f fd ["self"] (spEntr C) := by
  refine fn_of' D sc_Log_entries (fun vs H Q E h => ?_) (fun cdv A o s H vs Q E hr h => ?_)
  · obtain ⟨p, sz, ns, es, rfl, _⟩ := h; rfl
  · obtain ⟨p, sz, ns, es, rfl, ⟨dx, ls, le, xs, hp, h1, h2, el⟩, k⟩ := h
    exact ⟨_, (pss_one (ps_ret (pe_callTy call_list_of (by rfl) T.n_list (by decide +kernel) (pa_cons (pe_fld (mv 0) rfl) pa_nil)))), p, C, dx, _, _, rfl, hp, L.cl, L.nE, lf_entries _ _ _, le, _, rfl, .inl (SqL.of h2), fun l hl => k l xs hl el⟩
theorem ok_len (T : Tx K mg cL cX) (L : LogC K C kd) (D : Mx K "__len__" "Log.__len__" s_Log___len__ ["self"] f fd) : FnOk P w K mg base C8.CX0 1 f fd ["self"] (spLen C) := by
  refine fn_of' D sc_Log___len__ (fun vs H Q E h => ?_) (fun cdv A o s H vs Q E hr h => ?_)
  · obtain ⟨p, sz, ns, es, rfl, _⟩ := h; rfl
  · obtain ⟨p, sz, ns, es, rfl, ⟨dx, ls, le, xs, hp, h1, h2, el⟩, k⟩ := h
    refine ⟨_, (pss_one (ps_ret (pe_callB call_len (by rfl) T.n_len (by decide +kernel) (pa_cons (pe_fld (mv 0) rfl) pa_nil)))), p, C, dx, _, _, rfl, hp, L.cl, L.nE, lf_entries _ _ _, _, _, rfl, .inl ⟨_, SqL.of h2, rfl⟩, ?_⟩
    rw [← el.len]
    exact k
theorem ok_in (T : Tx K mg cL cX) (L : LogC K C kd) (D : Mx K "__contains__" "Log.__contains__" s_Log___contains__ ["self", "thing"] f fd) (c_is_entry : Cal P w K mg base 2 "is_entry" (spEntry K) []) :
    FnOk P w K mg base C8.CX0 3 f fd ["self", "thing"] (spIn K C) := by
  refine fn_of' D sc_Log___contains__ (fun vs H Q E h => ?_) (fun cdv A o s H vs Q E hr h => ?_)
  · obtain ⟨p, sz, ns, es, x, r, rfl, _⟩ := h; rfl
  · obtain ⟨p, sz, ns, es, x, r, rfl, lg, ok, hn, j, k⟩ := h
    obtain ⟨dx, ls, le, xs, hp, h1, h2, el⟩ := lg
    refine ⟨_, (pss_one (ps_ret (pe_and (pe_c c_is_entry hr (by decide) rfl (pa_cons (pe_fld (mv 0) rfl) (pa_cons (mv 1) pa_nil))) (pe_one (pe_cmpR (op_inD (u65 hr)) (mv 1) (pe_fld (mv 0) rfl) (by rfl)))))), p, C, dx, _, _, rfl, hp, L.cl, L.nV, lf_servers _ _ _, ls, ns, x, r, rfl, h1, j, _, rfl, ?_⟩
    cases r with
    | none => exact ifF (by rfl) k
    | some e =>
      refine ifT (by rfl) ?_
      cases j with
      | @ok t z i ht hz hi =>
        refine ⟨p, C, dx, _, _, rfl, hp, L.cl, L.nE, lf_entries _ _ _, _, _, dp_E (e := (z, i)) ⟨t, rfl, ht⟩, dp_L (SqL.of h2) el, (shaped_E (hn z hz)).1, shaped_L (fun e he => hn _ (ok.ok e he).1), ?_⟩
        rw [any_L]
        exact k
theorem kd_no (sz : Int) (ls le : Addr) : (lf sz ls le).lookup ("KIND" : Str) = none := lf_no sz ls le (by decide +kernel) (by decide +kernel) (by decide +kernel)
/-- == with anything -/
def spEqA (K : PySem.W.Frag) (cL C : Addr) (kd : Str) : Sp := fun vs H Q _ => ∃ p y sz ns es, vs = [.ref p, y] ∧ LogAt C H p sz ns es ∧ EntsOk ns es ∧ (∀ z ∈ ns, nameB z = true) ∧
  ((∃ C2 kd2 q sz2 ns2 es2, y = .ref q ∧ LogC K C2 kd2 ∧ PySem.W.kitOne K (.ref C2) (.ref cL) = some true ∧ LogAt C2 H q sz2 ns2 es2 ∧ EntsOk ns2 es2 ∧ (∀ z ∈ ns2, nameB z = true) ∧ Q (.bl (decide (kd2 = kd) && decide (sz2 = sz) && decide (ns2 = ns) && decide (es2 = es))) H) ∨
    ∃ t, TyX K H y t ∧ PySem.W.kitOne K t (.ref cL) = some false ∧ Q (.bl false) H)
theorem ok_eqA (T : Tx K mg cL cX) (L : LogC K C kd) (D : Mx K "__eq__" "Log.__eq__" s_Log___eq__ ["self", "other"] f fd) :
    FnOk P w K mg base C8.CX0 1 f fd ["self", "other"] (spEqA K cL C kd) := by
  refine fn_of' D sc_Log___eq__ (fun vs H Q E h => ?_) (fun cdv A o s H vs Q E hr h => ?_)
  · obtain ⟨p, y, sz, ns, es, rfl, _⟩ := h; rfl
  · obtain ⟨p, y, sz, ns, es, rfl, ⟨dx, ls, le, xs, hp, h1, h2, el⟩, ok, nm, h⟩ := h
    refine ⟨_, (pss_cons (ps_if (PW.pt (pw_or (pt_not (qv (pe_callB call_isi (by rfl) T.n_isinstance (by decide +kernel) (pa_cons (mv 1) (pa_cons (pe_gc rfl T.g_Log) pa_nil))))) (pw_or (qt m_ne (pe_con (mv 1) rfl) (pe_con (mv 0) rfl) (nomark _)) (pw_or1 (qt m_ne (pe_fld (mv 1) rfl) (pe_fld (mv 0) rfl) (nomark _)))))) (pss_one (ps_ret pe_bl)) pss_nil)
    (pss_one (ps_ret (pe_and (pe_cmpR (op_eqD hr.units) (pe_fld (mv 1) rfl) (pe_fld (mv 0) rfl) (nomark _)) (pe_one (pe_cmpR (op_eqD hr.units) (pe_fld (mv 1) rfl) (pe_fld (mv 0) rfl) (nomark _))))))), ?_⟩
    rcases h with ⟨C2, kd2, q, sz2, ns2, es2, rfl, L2, hk, ⟨dx2, ls2, le2, xs2, hp2, g1, g2, el2⟩, ok2, nm2, k⟩ | ⟨t, ty, hk, k⟩
    rotate_left
    · exact ⟨_, _, _, _, _, rfl, .own _, ty, hk, ifT (by rfl) (ifT (by rfl) k)⟩
    obtain ⟨u, con⟩ := L.kd
    obtain ⟨u2, con2⟩ := L2.kd
    refine ⟨_, _, _, _, _, rfl, .own _, L2.ty _ _ _ _ hp2, hk, ifF (by rfl) ?_⟩
    refine ⟨q, C2, dx2, _, _, _, rfl, hp2, L2.cl, con2, kd_no _ _ _, p, C, dx, _, _, _, rfl, hp, L.cl, con, kd_no _ _ _, ?_⟩
    dsimp only [mEqG, kB]
    by_cases e1 : kd2 = kd
    · rw [decide_eq_true e1] at k ⊢
      refine ifF (by rfl) ?_
      refine ⟨q, C2, dx2, _, _, rfl, hp2, L2.cl, L2.nS, lf_size _ _ _, p, C, dx, _, _, rfl, hp, L.cl, L.nS, lf_size _ _ _, ?_⟩
      dsimp only [mEqG, kB]
      by_cases e2 : sz2 = sz
      · rw [decide_eq_true e2] at k ⊢
        refine ifF (by rfl) ?_
        refine ⟨q, C2, dx2, _, _, rfl, hp2, L2.cl, L2.nV, lf_servers _ _ _, p, C, dx, _, _, rfl, hp, L.cl, L.nV, lf_servers _ _ _, ?_⟩
        refine ⟨_, _, dp_S (SqL.of g1), dp_S (SqL.of h1), shaped_S nm2, shaped_S nm, _, rfl, ?_⟩
        rw [eqv_S]
        by_cases e3 : ns2 = ns
        · rw [decide_eq_true e3] at k ⊢
          refine ifT (by rfl) ?_
          refine ⟨q, C2, dx2, _, _, rfl, hp2, L2.cl, L2.nE, lf_entries _ _ _, p, C, dx, _, _, rfl, hp, L.cl, L.nE, lf_entries _ _ _, ?_⟩
          refine ⟨_, _, dp_L (SqL.of g2) el2, dp_L (SqL.of h2) el, shaped_L (fun e he => nm2 _ (ok2.ok e he).1), shaped_L (fun e he => nm _ (ok.ok e he).1), ?_⟩
          rw [eqv_L]
          exact k
        · rw [decide_eq_false e3] at k ⊢
          exact ifF (by rfl) k
      · rw [decide_eq_false e2] at k ⊢
        exact ifT (by rfl) k
    · rw [decide_eq_false e1] at k ⊢
      exact ifT (by rfl) k

theorem nat_bits {i : Int} {n : Nat} (h0 : 0 ≤ i) (h : i < 2 ^ n) (hn : 0 < n) : i.natAbs.log2 < n := by
  refine PySem.Flt.log2_lt_of hn ?_
  have : ((i.natAbs : Nat) : Int) < ((2 ^ n : Nat) : Int) := by
    rw [Int.natCast_pow]
    have e : (i.natAbs : Int) = i := by omega
    rw [e]; exact h
  exact_mod_cast this
theorem cdv_size {sz : Int} (i : Int) (h : SizeOk sz) : CDv i sz := by
  refine ⟨by have := h.1; omega, Nat.lt_trans (nat_bits (n := 100) (by have := h.1; omega) ?_ (by decide)) (by decide)⟩
  have h2 := h.2
  have : (10 : Int) ^ 30 < 2 ^ 100 := by decide
  omega
/-- the numbers of the first i entries -/
def numsV (es : List (Str × Int)) : List V := (es.map (·.2)).map V.int
def Nums (H0 : Hp) (es : List (Str × Int)) (D : Addr) (i : Nat) (H : Hp) : Prop := Ext H0 H ∧ H D = some (.lst (numsV (es.take i)))
theorem foldl_max : ∀ (es : List (Str × Int)) (m : Int), (m = es.foldl (fun m x => max m x.2) m ∨ ∃ e ∈ es, e.2 = es.foldl (fun m x => max m x.2) m) ∧ m ≤ es.foldl (fun m x => max m x.2) m ∧ ∀ e ∈ es, e.2 ≤ es.foldl (fun m x => max m x.2) m
  | [], m => ⟨.inl rfl, Int.le_refl _, fun _ h => nomatch h⟩
  | e :: es, m => by
    obtain ⟨h1, h2, h3⟩ := foldl_max es (max m e.2)
    simp only [List.foldl_cons]
    refine ⟨?_, by omega, fun x hx => ?_⟩
    · rcases h1 with h1 | ⟨x, hx, q⟩
      · rcases Int.le_total m e.2 with z | z
        · refine .inr ⟨e, List.mem_cons_self, ?_⟩
          have : max m e.2 = e.2 := by omega
          omega
        · left
          have : max m e.2 = m := by omega
          omega
      · exact .inr ⟨x, List.mem_cons_of_mem _ hx, q⟩
    · rcases List.mem_cons.mp hx with rfl | hx
      · omega
      · exact h3 x hx
theorem max_is {es : List (Str × Int)} {e0 : Str × Int} {m : Int} (h1 : m ∈ (e0 :: es).map (·.2)) (h2 : ∀ y, y ∈ (e0 :: es).map (·.2) → y ≤ m) : m = es.foldl (fun m x => max m x.2) e0.2 := by
  obtain ⟨g1, g2, g3⟩ := foldl_max es e0.2
  refine Int.le_antisymm ?_ (h2 _ ?_)
  · obtain ⟨x, hx, rfl⟩ := List.mem_map.mp h1
    rcases List.mem_cons.mp hx with rfl | hx
    · exact g2
    · exact g3 x hx
  · rcases g1 with g1 | ⟨x, hx, q⟩
    · rw [← g1]; simp
    · rw [← q]; exact List.mem_map_of_mem (List.mem_cons_of_mem _ hx)
end
end NB

set_option Elab.async false
set_option linter.all false
set_option maxRecDepth 100000
set_option maxHeartbeats 4000000
/-! K3: the draws of the laws -/
namespace NB
open PySem PySem.Spec L2
open PyProof.Rows (envOfC)
open C8 (pe_c pe_mk pe_mt pe_mt0 pe_gc fnScope fnBody fnArgs fnScope_by Cal Met Mak)

/-! ### promises -/
def FeedO (o : HO) : Prop := ∃ x y z : Int, o = .lst [.int x, .int y, .int z] ∧ 0 ≤ x ∧ 0 ≤ y ∧ y < 2305843009213693951
def FeedAt (H : Hp) (p : Addr) : Prop := ∃ o, H p = some o ∧ FeedO o
def spFeed (K : PySem.W.Frag) : Sp := fun vs H Q _ => ∃ (a : Addr) (ns : List Int) (k : Int), vs = [.ref a, .int k] ∧ SqL K H a (ns.map V.int) ∧ 0 ≤ k ∧ k < 100 ∧ ns.length ≤ 63 ∧ ∀ p o, H p = none → FeedO o → Q (.ref p) (upd H p o)
def spPick : Sp := fun vs H Q _ => ∃ p many, vs = [.ref p, .int many] ∧ FeedAt H p ∧ 1 ≤ many ∧ many < 2 ^ 1000 ∧ ∀ r o, 0 ≤ r → r < many → FeedO o → Q (.int r) (upd H p o)
theorem posM : (0 : Int) < 2305843009213693951 := by decide
theorem atI_at {α : Type} {xs : List α} {k : Int} {v : α} (h0 : 0 ≤ k) (h : xs[k.toNat]? = some v) : atI xs k = some v := by
  have e : k = ((k.toNat : Nat) : Int) := by omega
  rw [e]
  exact atI_nat h
theorem map_erase {α β : Type} (f : α → β) : ∀ (l : List α) (k : Nat), (l.eraseIdx k).map f = (l.map f).eraseIdx k
  | [], _ => rfl
  | _ :: _, 0 => rfl
  | a :: l, k + 1 => by
    show f a :: (l.eraseIdx k).map f = f a :: (l.map f).eraseIdx k
    rw [map_erase f l k]
theorem er_perm {α : Type} : ∀ (l : List α) (k : Nat) (h : k < l.length), (l[k] :: l.eraseIdx k).Perm l
  | a :: l, 0, _ => List.Perm.refl _
  | a :: l, k + 1, h => by
    have hk : k < l.length := by simpa using h
    have ih := er_perm l k hk
    show (l[k] :: a :: l.eraseIdx k).Perm (a :: l)
    exact (List.Perm.swap _ _ _).trans (ih.cons a)
theorem upd_is {H H' : Hp} {p : Addr} {o : HO} (h : H' p = some o) (r : ∀ b, b ≠ p → H' b = H b) : H' = upd H p o := by
  funext b
  by_cases e : b = p
  · rw [e, h, upd_same]
  · rw [r b e, upd_ne e]
theorem mod_lt {a b : Int} (h : 0 < b) : 0 ≤ a % b ∧ a % b < b := ⟨Int.emod_nonneg _ (by omega), Int.emod_lt_of_pos _ h⟩
theorem mulL {i j : Int} (h1 : -(2 ^ 64) < i) (h2 : i < 2 ^ 64) : PySem.IntMulOk i j := CMul.ok (.inl ⟨h1, h2⟩)
theorem mulR {i j : Int} (h1 : -(2 ^ 64) < j) (h2 : j < 2 ^ 64) : PySem.IntMulOk i j := CMul.ok (.inr ⟨h1, h2⟩)

section
variable {P : Program} {w : World} {K : PySem.W.Frag} {mg : Str → Option Value} {base : Heap}
theorem ok_feed (T : Blt mg) (D : Dx K mg "_law_feed" s__law_feed ["script", "k"]) : Cal P w K mg base 1 "_law_feed" (spFeed K) [] := by
  refine cal_of D sc__law_feed (fun vs H Q E h => ?_) (fun f cdv A o s H vs Q E hr h => ?_)
  · obtain ⟨a, ns, k, rfl, _⟩ := h; rfl
  · obtain ⟨a, ns, k, rfl, hS, hk0, hk1, hn, q⟩ := h
    have rest : ∀ start : Int, tRet (tLst (tCons (tCB (fun xs H Q => ∃ i j, xs = [.int i, .int j] ∧ Q (.int (if j > i then j else i)) H) (tCons (tC (.int 0)) (tCons (tOp (mI0 fun i j => .int (i - j)) (tCB (fun xs H Q => ∃ i, xs = [.int i] ∧ Q (.int (if i < 0 then -i else i)) H) (tCons (mV 2) tNil)) (tOp (mI CPow fun i j => .int (i ^ j.toNat)) (tC (.int 10)) (tC (.int 18)))) tNil)))
        (tCons (tOp (mI (fun _ j => 0 < j) fun i j => .int (i % j)) (tOp (mI0 fun i j => .int (i + j)) (tOp (mI0 fun i j => .int (i + j)) (tOp (mI IntMulOk fun i j => .int (i * j)) (mV 2) (tC (.int 229))) (tOp (mI IntMulOk fun i j => .int (i * j)) (tC (.int 6529)) (mV 1))) (tC (.int 89))) (tC (.int 2305843009213693951))) (tCons (tC (.int 0)) tNil)))) { nx := fun _ H' => Q .non H', rt := Q } [some (.ref a), some (.int k), some (.int start)] H := by
      intro start
      refine ⟨_, rfl, ⟨by decide, by decide, by decide⟩, _, _, rfl, ?_⟩
      refine ⟨mulR (by decide) (by decide), mulL (by decide) (by decide), posM, (by show 3 ≤ sizeLine; decide), fun p hp => ?_⟩
      refine q p _ hp ⟨_, _, _, rfl, ?_, (mod_lt (by decide)).1, (mod_lt (by decide)).2⟩
      split <;> omega
    refine ⟨_, (pss_cons (ps_set (i := 2) sc__law_feed.nd rfl (Or.inl rfl) pe_int)
    (pss_cons (ps_if (qt m_lt (mv 1) (pe_callB call_len (by rfl) T.n_len (by decide +kernel) (pa_cons (mv 0) pa_nil)) (nomark _)) (pss_one (ps_set (i := 2) sc__law_feed.nd rfl (Or.inl rfl) (pe_ix m_ix (mv 0) (mv 1) (fun _ _ => rfl)))) pss_nil)
    (pss_one (ps_ret (pe_lst (pa_cons (pe_callB (call_max2 rfl) (by rfl) T.n_max (by decide +kernel) (pa_cons pe_int (pa_cons (pe_op m_sub (pe_callB call_abs (by rfl) T.n_abs (by decide +kernel) (pa_cons (mv 2) pa_nil)) (pe_op m_pow pe_int pe_int)) pa_nil))) (pa_cons (pe_op m_mod (pe_op m_add (pe_op m_add (pe_op m_mul (mv 2) pe_int) (pe_op m_mul pe_int (mv 1))) pe_int) pe_int) (pa_cons pe_int pa_nil)))))))), ?_⟩
    refine ⟨_, _, rfl, .inl ⟨_, hS, rfl⟩, ?_⟩
    dsimp only [kB]
    refine ifD (fun h => ?_) (fun h => ?_)
    · have hlt : k.toNat < ns.length := by rw [List.length_map] at h; omega
      refine ⟨_, .int (ns[k.toNat]), .inl hS, ?_, ?_⟩
      · exact atI_at hk0 (by simp [hlt])
      · exact rest _
    · exact rest 0

theorem cdv_of {j : Int} {n : Nat} (i : Int) (h1 : 1 ≤ j) (h2 : j < 2 ^ n) (h0 : 0 < n) (h9 : n ≤ 9000) : CDv i j := ⟨by omega, Nat.lt_of_lt_of_le (nat_bits (by omega) h2 h0) h9⟩
theorem bits_le {i : Int} {n : Nat} (h1 : 0 ≤ i) (h2 : i < 2 ^ n) (h0 : 0 < n) : Builtin.Int.intBits i ≤ n := by
  have h := nat_bits h1 h2 h0
  unfold Builtin.Int.intBits
  split <;> omega
/-- between two turns of the loop in _law_pick -/
def PickI (H0 : Hp) (p : Addr) (x y many : Int) (i : Nat) (σ : L2.St) (H : Hp) : Prop := ∃ found z v4 v5, σ = [some (.ref p), some (.int many), none, some (.int found), v4, v5] ∧ H p = some (.lst [.int x, .int y, .int z]) ∧ ∀ b, b ≠ p → H b = H0 b
theorem ok_pick (T : Blt mg) (D : Dx K mg "_law_pick" s__law_pick ["feed", "many"]) : Cal P w K mg base 1 "_law_pick" spPick [] := by
  refine cal_of D sc__law_pick (fun vs H Q E h => ?_) (fun f cdv A o s H vs Q E hr h => ?_)
  · obtain ⟨p, many, rfl, _⟩ := h; rfl
  · obtain ⟨p, many, rfl, ⟨o, hp, x, y, z, rfl, hx, hy0, hy1⟩, hm1, hm2, q⟩ := h
    have at0 : ∀ {H : Hp} {x y z : Int}, H p = some (.lst [.int x, .int y, .int z]) → (SqL K H p [.int x, .int y, .int z] ∨ SqT K H p [.int x, .int y, .int z]) := fun h => .inl (SqL.of h)
    refine ⟨_, (pss_cons (ps_if (qt m_gt (pe_ix m_ix (mv 0) pe_int (fun _ _ => rfl)) pe_int (nomark _)) (pss_cons (ps_set (i := 2) sc__law_pick.nd rfl (Or.inl rfl) (pe_op m_mod (pe_ix m_ix (mv 0) pe_int (fun _ _ => rfl)) (mv 1)))
    (pss_cons (ps_asg (pe_op m_div (pe_ix m_ix (mv 0) pe_int (fun _ _ => rfl)) (mv 1)) (pg_sub (mv 0) pe_int set_list))
    (pss_one (ps_ret (mv 2))))) pss_nil)
    (pss_cons (ps_set (i := 3) sc__law_pick.nd rfl (Or.inl rfl) pe_int)
    (pss_cons (ps_for PassesOwn.never rfl (pi_range1 (by rfl) T.n_range (pa_cons (pe_op m_add pe_int (pe_op m_div (pe_bits (mv 1)) pe_int)) pa_nil)) (pg_name (i := 4) sc__law_pick.nd rfl (Or.inl rfl))
    (pss_cons (ps_asg (pe_op m_add (pe_ix m_ix (mv 0) pe_int (fun _ _ => rfl)) pe_int) (pg_sub (mv 0) pe_int set_list))
    (pss_cons (ps_set (i := 5) sc__law_pick.nd rfl (Or.inl rfl) (pe_op m_mod (pe_op m_add (pe_ix m_ix (mv 0) pe_int (fun _ _ => rfl)) (pe_op m_mul pe_int (pe_ix m_ix (mv 0) pe_int (fun _ _ => rfl)))) pe_int))
    (pss_cons (ps_set (i := 5) sc__law_pick.nd rfl (Or.inl rfl) (pe_op m_mod (pe_op m_add (pe_op m_add (pe_op m_mul (mv 5) (mv 5)) (pe_op m_mul (pe_op m_mul pe_int (pe_ix m_ix (mv 0) pe_int (fun _ _ => rfl))) (mv 5))) pe_int) pe_int))
    (pss_cons (ps_set (i := 5) sc__law_pick.nd rfl (Or.inl rfl) (pe_op m_mod (pe_op m_add (pe_op m_add (pe_op m_pow (mv 5) pe_int) (pe_ix m_ix (mv 0) pe_int (fun _ _ => rfl))) (pe_op m_mul pe_int (pe_ix m_ix (mv 0) pe_int (fun _ _ => rfl)))) pe_int))
    (pss_one (ps_set (i := 3) sc__law_pick.nd rfl (Or.inl rfl) (pe_op m_add (pe_op m_mul (mv 3) (pe_op m_pow pe_int pe_int)) (pe_op m_div (mv 5) pe_int)))))))))
    (pss_one (ps_ret (pe_op m_mod (mv 3) (mv 1))))))), ?_⟩
    refine ⟨_, _, at0 hp, atI_nat (j := 0) rfl, ?_⟩
    dsimp only [tC, kB]
    refine ifD (fun h => ?_) (fun h => ?_)
    · refine ⟨_, _, at0 hp, atI_nat (j := 0) rfl, by omega, ?_⟩
      refine ⟨_, _, at0 hp, atI_nat (j := 0) rfl, cdv_of _ hm1 hm2 (by decide) (by decide), ?_⟩
      refine ⟨p, _, _, 0, rfl, rfl, hp, rfl, ?_⟩
      exact q _ _ (mod_lt (by omega)).1 (mod_lt (by omega)).2 ⟨_, y, z, rfl, Int.ediv_nonneg hx (by omega), hy0, hy1⟩
    · refine ⟨many, rfl, ⟨by decide, by decide⟩, ?_⟩
      have hb := bits_le (by omega) hm2 (by decide)
      have hn : (0 : Int) ≤ 1 + ((Builtin.Int.intBits many : Nat) : Int) / 40 ∧ 1 + ((Builtin.Int.intBits many : Nat) : Int) / 40 ≤ 2000 := by omega
      refine ⟨_, rfl, by omega, by omega, for_range (lo := 0) (n := (1 + ((Builtin.Int.intBits many : Nat) : Int) / 40).toNat) (PickI H p x y many) ⟨0, z, none, none, rfl, hp, fun _ _ => rfl⟩ ?_ ?_⟩
      · rintro i σ H1 hi ⟨found, z1, v4, v5, rfl, h1, h2⟩
        refine ⟨_, _, at0 h1, atI_nat (j := 2) rfl, ?_⟩
        refine ⟨p, _, _, 2, rfl, rfl, h1, rfl, ?_⟩
        have h3 : (upd H1 p (.lst ([V.int x, V.int y, V.int z1].set 2 (.int (z1 + 1))))) p = some (.lst [V.int x, V.int y, V.int (z1 + 1)]) := upd_same
        refine ⟨_, _, at0 h3, atI_nat (j := 1) rfl, _, _, at0 h3, atI_nat (j := 2) rfl, mulL (by decide) (by decide), posM, ?_⟩
        obtain ⟨b0, b1⟩ := mod_lt (a := y + 230003 * (z1 + 1)) (b := 2305843009213693951) (by decide)
        refine ⟨mulL (by omega) (by omega), _, _, at0 h3, atI_nat (j := 2) rfl, mulL (by decide) (by decide), mulR (by omega) (by omega), posM, ?_⟩
        generalize hm : (y + 230003 * (z1 + 1)) % 2305843009213693951 = m1 at *
        obtain ⟨c0, c1⟩ := mod_lt (a := m1 * m1 + 78007 * (z1 + 1) * m1 + 73) (b := 2305843009213693951) (by decide)
        refine ⟨⟨by decide, by decide, by omega⟩, _, _, at0 h3, atI_nat (j := 1) rfl, _, _, at0 h3, atI_nat (j := 2) rfl, mulL (by decide) (by decide), posM, ?_⟩
        refine ⟨⟨by decide, by decide, by decide⟩, mulR (by decide) (by decide), ⟨by decide, by decide +kernel⟩, ?_⟩
        exact ⟨_, z1 + 1, _, _, rfl, h3, fun b hb => by rw [upd_ne hb]; exact h2 b hb⟩
      · rintro σ H1 ⟨found, z1, v4, v5, rfl, h1, h2⟩
        refine ⟨by omega, ?_⟩
        rw [upd_is h1 h2]
        exact q _ _ (mod_lt (by omega)).1 (mod_lt (by omega)).2 ⟨x, y, z1, rfl, hx, hy0, hy1⟩

theorem FeedO.ne_strs {o : HO} {ns : List Str} (h : FeedO o) : o ≠ .lst (ns.map V.str) := by
  obtain ⟨x, y, z, rfl, _⟩ := h
  intro e
  injection e with e
  cases ns with
  | nil => cases e
  | cons s ns => injection e with e; cases e
theorem FeedO.ne_tup {o : HO} (h : FeedO o) : ∀ xs, o ≠ .tup xs := by
  obtain ⟨x, y, z, rfl, _⟩ := h
  intro xs e
  cases e
theorem FeedAt.ne {H : Hp} {p a : Addr} {ns : List Str} (h : FeedAt H p) (ha : H a = some (.lst (ns.map V.str))) : a ≠ p := by
  obtain ⟨o, hp, fo⟩ := h
  exact fun e => by
    rw [e, hp] at ha
    exact fo.ne_strs (Option.some.inj ha)
theorem FeedAt.put {H : Hp} {p : Addr} {o : HO} (h : FeedO o) : FeedAt (L2.upd H p o) p := ⟨o, upd_same, h⟩
theorem FeedAt.keep {H H' : Hp} {p : Addr} (h : FeedAt H p) (e : Ext H H') : FeedAt H' p := by
  obtain ⟨o, hp, fo⟩ := h
  exact ⟨o, e _ _ hp, fo⟩
theorem TupSt.feed {H : Hp} {p : Addr} {o : HO} (h : FeedAt H p) : TupSt H (L2.upd H p o) := by
  obtain ⟨u, hp, fo⟩ := h
  exact TupSt.upd hp fo.ne_tup
/-- the names that crews are drawn from -/
def NAMES : List Str := ["ann", "bob", "a", "b", "cy", "zz", "abcdefgh", "ab", "x", "yvonne", "q", "annb"]
theorem names_ok : ∀ z ∈ NAMES, nameB z = true := by decide +kernel
theorem names_nd : NAMES.Nodup := by decide +kernel
def spCrewL : Sp := fun vs H Q _ => ∃ p most, vs = [.ref p, .int most] ∧ FeedAt H p ∧ 1 ≤ most ∧ most ≤ 12 ∧
  ∀ H' q ns, H q = none → H' q = some (.lst (ns.map V.str)) → CrewOk ns → (∀ z ∈ ns, z ∈ NAMES) → FeedAt H' p → Frm [p] H H' → Q (.ref q) H'
def CrewI (H0 : Hp) (p l D : Addr) (i : Nat) (H : Hp) : Prop := ∃ took rest : List Str, H l = some (.lst (rest.map V.str)) ∧ H D = some (.lst (took.map V.str)) ∧ (took ++ rest).Perm NAMES ∧ took.length = i ∧ FeedAt H p ∧ Frm [p] H0 H
theorem ok_crew (T : Blt mg) (D : Dx K mg "_law_crew" s__law_crew ["feed", "most"]) (c__law_pick : Cal P w K mg base 1 "_law_pick" spPick []) : Cal P w K mg base 2 "_law_crew" spCrewL [] := by
  refine cal_of D sc__law_crew (fun vs H Q E h => ?_) (fun f cdv A o s H vs Q E hr h => ?_)
  · obtain ⟨p, most, rfl, _⟩ := h; rfl
  · obtain ⟨p, most, rfl, hf, hm1, hm2, k⟩ := h
    refine ⟨_, (pss_cons (ps_set (i := 2) sc__law_crew.nd rfl (Or.inr rfl) (pe_lst (pa_cons pe_str (pa_cons pe_str (pa_cons pe_str (pa_cons pe_str (pa_cons pe_str (pa_cons pe_str (pa_cons pe_str (pa_cons pe_str (pa_cons pe_str (pa_cons pe_str (pa_cons pe_str (pa_cons pe_str pa_nil))))))))))))))
    (pss_one (ps_ret (pe_lc (own := [("turn", 3)]) (g := gName 3) (tt := tYes) (te := tBM K "list" rPopAt (mV 2) (tCons (tCall spPick [] C8.E0 (tCons (mV 0) (tCons (tCB (fun xs H Q => ∃ x n, xs = [x] ∧ LenV K x H n ∧ Q (.int n) H) (tCons (mV 2) tNil)) tNil))) tNil)) rfl sc__law_crew.nd (pi_range1 (by rfl) T.n_range (pa_cons (pe_op m_add pe_int (pe_c c__law_pick hr (by decide) rfl (pa_cons (mv 0) (pa_cons (mv 1) pa_nil)))) pa_nil)) (blkOk_by (own := [("turn", 3)]) (N := ["feed", "most", "names", "turn"]) (sc := fnScope s__law_crew) (by decide +kernel)) (fun _ _ _ _ _ => (pg_name (i := 3) sc__law_crew.nd rfl (Or.inl rfl))) (fun _ _ _ _ _ => pts_nil) (fun _ _ _ _ _ => (pe_bm PySem.F.plainAttrs_list PySem.F.slot_list_pop PySem.F.type_list_pop mt_popAt (mv 2) (pa_cons (pe_c c__law_pick hr (by decide) rfl (pa_cons (mv 0) (pa_cons (pe_callB call_len (by rfl) T.n_len (by decide +kernel) (pa_cons (mv 2) pa_nil)) pa_nil))) pa_nil))))))), ?_⟩
    refine ⟨(by show 12 ≤ sizeLine; decide), fun l hl => ?_⟩
    have x1 : Ext H (upd H l (.lst (NAMES.map V.str))) := Ext.upd hl
    have pl : p ≠ l := by obtain ⟨o, hp, _⟩ := hf; exact ne_of_none hp hl
    refine ⟨p, most, rfl, hf.keep x1, hm1, Int.lt_of_le_of_lt hm2 (by decide +kernel), fun r o1 h0 h1 fo => ?_⟩
    refine ⟨_, rfl, by omega, by omega, fun d hd => lc_range (lo := 0) (n := (1 + r).toNat) (CrewI H p l d) ⟨[], NAMES, ?_, upd_same, List.Perm.refl _, rfl, ?_, ?_⟩ ?_ ?_⟩
    · have ld : l ≠ d := by
        refine ne_of_none (o := .lst (NAMES.map V.str)) ?_ hd
        rw [upd_ne pl.symm]
        exact upd_same
      rw [upd_ne ld, upd_ne pl.symm]
      exact upd_same
    · exact (FeedAt.put fo).keep (Ext.upd hd)
    · exact ((Frm.ext x1).upd mem1).new hd
    · rintro i H1 hi ⟨took, rest, g1, g2, pm, ht, hf1, fr⟩
      have hl12 : took.length + rest.length = 12 := by have := pm.length_eq; rw [List.length_append] at this; exact this
      have hr1 : 1 ≤ rest.length := by omega
      refine ⟨rfl, goY (ifT (by rfl) ?_)⟩
      refine ⟨.inl ⟨rfl, _, SqL.of g1⟩, ?_⟩
      refine ⟨_, _, rfl, .inl ⟨_, SqL.of g1, rfl⟩, ?_⟩
      rw [List.length_map]
      refine ⟨p, _, rfl, hf1, by omega, Int.lt_of_le_of_lt (b := 12) (by omega) (by decide), fun r2 o2 q0 q1 fo2 => ?_⟩
      have lp : l ≠ p := hf1.ne g1
      have hk : r2.toNat < rest.length := by omega
      have dl : d ≠ l := by
        intro e
        rw [e, g1] at g2
        have e2 : rest.map V.str = took.map V.str := by injection g2 with g2; injection g2
        have e3 : rest = took := List.map_inj_right (fun a b h => V.str.inj h) |>.mp e2
        rw [e3] at pm
        have nd := pm.symm.nodup names_nd
        rw [List.nodup_append] at nd
        cases took with
        | nil => rw [e3] at hr1; exact absurd hr1 (by decide)
        | cons z t => exact nd.2.2 z List.mem_cons_self z List.mem_cons_self rfl
      have dp : d ≠ p := by
        intro e
        obtain ⟨u, hu, fu⟩ := hf1
        rw [e, hu] at g2
        exact fu.ne_strs (Option.some.inj g2)
      refine ⟨l, rest.map V.str, r2, r2.toNat, .str rest[r2.toNat], rfl, rfl, by rw [upd_ne lp]; exact g1, by omega, by omega, ?_, ?_, ?_⟩
      · rw [List.length_map]
        unfold PySem.seqIndex?
        simp
        omega
      · rw [List.getElem?_map, List.getElem?_eq_getElem hk]; rfl
      refine ⟨took.map V.str, by rw [upd_ne dl, upd_ne dp]; exact g2, by rw [List.length_map]; exact Nat.lt_of_le_of_lt (show took.length ≤ 12 by omega) (by decide), took ++ [rest[r2.toNat]], rest.eraseIdx r2.toNat, ?_, ?_, ?_, ?_, ?_, ?_⟩
      · rw [upd_ne dl.symm, upd_same, map_erase]
      · rw [upd_same, List.map_append]; rfl
      · refine List.Perm.trans ?_ pm
        rw [List.append_assoc]
        exact List.Perm.append_left _ (er_perm rest r2.toNat hk)
      · rw [List.length_append, ht]; rfl
      · refine ⟨o2, ?_, fo2⟩
        rw [upd_ne dp.symm, upd_ne lp.symm]
        exact upd_same
      · intro b u hb nb
        have b1 : b ≠ p := fun e => nb (by rw [e]; exact mem1)
        have b2 := fr b u hb nb
        rw [upd_ne ?_, upd_ne ?_, upd_ne b1]
        · exact b2
        · exact fun e => by rw [e, hl] at hb; cases hb
        · exact fun e => by rw [e, (upd_none (upd_none hd).2).2] at hb; cases hb
    · rintro H1 ⟨took, rest, g1, g2, pm, ht, hf1, fr⟩
      have hsub : ∀ z ∈ took, z ∈ NAMES := fun z hz => pm.mem_iff.mp (List.mem_append_left _ hz)
      have nd := pm.symm.nodup names_nd
      rw [List.nodup_append] at nd
      refine k H1 d took ?_ g2 ⟨by omega, ?_, fun z hz => names_ok z (hsub z hz), nd.1⟩ hsub hf1 fr
      · exact (upd_none (upd_none hd).2).2
      · have := pm.length_eq
        rw [List.length_append] at this
        have e : NAMES.length = 12 := rfl
        omega

def spEntsL : Sp := fun vs H Q _ => ∃ p a ns most limit, vs = [.ref p, .ref a, .int most, .int limit] ∧ FeedAt H p ∧ H a = some (.lst (ns.map V.str)) ∧ CrewOk ns ∧ 0 ≤ most ∧ most ≤ 200 ∧ 1 ≤ limit ∧ limit < 2 ^ 1000 ∧
  ∀ H' q es xs, H q = none → H' q = some (.lst xs) → EntL H' es xs → EntsOk ns es → (∀ e ∈ es, e.2 < limit) → FeedAt H' p → Frm [p] H H' → Q (.ref q) H'
def EntI (H0 : Hp) (p a : Addr) (ns : List Str) (most limit : Int) (l : Addr) (i : Nat) (σ : L2.St) (H : Hp) : Prop := ∃ es xs v5 v6 v7, σ = [some (.ref p), some (.ref a), some (.int most), some (.int limit), some (.ref l), v5, v6, v7] ∧
  H l = some (.lst xs) ∧ EntL H es xs ∧ es.length = i ∧ (∀ e ∈ es, e.1 ∈ ns ∧ 0 ≤ e.2 ∧ e.2 < limit) ∧ FeedAt H p ∧ Frm [p] H0 H
theorem Frm.new' {M : List Addr} {H H1 : Hp} {p : Addr} {o : HO} (a : Frm M H H1) (h : H p = none) : Frm M H (L2.upd H1 p o) := fun c u e n => by
  rw [upd_ne (ne_of_none e h)]; exact a c u e n
theorem EntL.snoc {H : Hp} : ∀ {es : List (Str × Int)} {xs : List V} {e : Str × Int} {v : V}, EntL H es xs → EntAt H e v → EntL H (es ++ [e]) (xs ++ [v])
  | _, _, _, _, .nil, h => .cons h .nil
  | _, _, _, _, .cons r q, h => .cons r (EntL.snoc q h)
theorem EntL.get {H : Hp} : ∀ {es : List (Str × Int)} {xs : List V} {i : Nat} (_ : EntL H es xs) (hi : i < es.length), ∃ v, xs[i]? = some v ∧ EntAt H es[i] v
  | _, _, 0, .cons r q, _ => ⟨_, rfl, r⟩
  | _, _, i + 1, .cons r q, hi => by
    obtain ⟨v, h1, h2⟩ := EntL.get q (i := i) (by simpa using hi)
    exact ⟨v, by simpa using h1, by simpa using h2⟩
theorem ok_ents (T : Blt mg) (D : Dx K mg "_law_entries" s__law_entries ["feed", "crew", "most", "limit"]) (c__law_pick : Cal P w K mg base 1 "_law_pick" spPick []) : Cal P w K mg base 2 "_law_entries" spEntsL [] := by
  refine cal_of D sc__law_entries (fun vs H Q E h => ?_) (fun f cdv A o s H vs Q E hr h => ?_)
  · obtain ⟨p, a, ns, most, limit, rfl, _⟩ := h; rfl
  · obtain ⟨p, a, ns, most, limit, rfl, hf, ha, cr, hm1, hm2, hl1, hl2', k⟩ := h
    have small : ∀ {i : Int}, i ≤ 1000 → i < 2 ^ 1000 := fun {i} h => Int.lt_of_le_of_lt h (by decide +kernel)
    refine ⟨_, (pss_cons (ps_set (i := 4) sc__law_entries.nd rfl (Or.inl rfl) (pe_lst pa_nil))
    (pss_cons (ps_for PassesOwn.never rfl (pi_range1 (by rfl) T.n_range (pa_cons (pe_ix m_ix (pe_lst (pa_cons (pe_c c__law_pick hr (by decide) rfl (pa_cons (mv 0) (pa_cons (pe_op m_add (mv 2) pe_int) pa_nil))) (pa_cons (mv 2) (pa_cons (pe_c c__law_pick hr (by decide) rfl (pa_cons (mv 0) (pa_cons (pe_callB (call_min2 rfl) (by rfl) T.n_min (by decide +kernel) (pa_cons pe_int (pa_cons (pe_op m_add (mv 2) pe_int) pa_nil))) pa_nil))) pa_nil)))) (pe_c c__law_pick hr (by decide) rfl (pa_cons (mv 0) (pa_cons pe_int pa_nil))) (fun _ _ => rfl)) pa_nil)) (pg_name (i := 5) sc__law_entries.nd rfl (Or.inl rfl))
    (C8.pss_cut (ps_set (i := 6) sc__law_entries.nd rfl (Or.inl rfl) (pe_and (pe_cmpR (op_neD hr.units) (mv 4) (pe_lst pa_nil) (nomark _)) (pe_one (pe_cmpR m_eq (pe_c c__law_pick hr (by decide) rfl (pa_cons (mv 0) (pa_cons pe_int pa_nil))) pe_int (nomark _)))))
    (pss_cons (ps_set (i := 7) sc__law_entries.nd rfl (Or.inl rfl) (pe_tup (pa_cons (pe_ix m_ix (mv 1) (pe_c c__law_pick hr (by decide) rfl (pa_cons (mv 0) (pa_cons (pe_callB call_len (by rfl) T.n_len (by decide +kernel) (pa_cons (mv 1) pa_nil)) pa_nil))) (fun _ _ => rfl)) (pa_cons (pe_c c__law_pick hr (by decide) rfl (pa_cons (mv 0) (pa_cons (mv 3) pa_nil))) pa_nil))))
    (pss_one (ps_expr (pe_bm PySem.F.plainAttrs_list PySem.F.slot_list_append PySem.F.type_list_append mt_append (mv 4) (pa_cons (pe_ifExp (qv (mv 6)) (pe_ix m_ix (mv 4) (pe_c c__law_pick hr (by decide) rfl (pa_cons (mv 0) (pa_cons (pe_callB call_len (by rfl) T.n_len (by decide +kernel) (pa_cons (mv 4) pa_nil)) pa_nil))) (fun _ _ => rfl)) (mv 7)) pa_nil)))))))
    (pss_one (ps_ret (mv 4))))), ?_⟩
    refine ⟨Nat.zero_le _, fun l hl => ?_⟩
    have ap : a ≠ p := hf.ne ha
    have pl : p ≠ l := by obtain ⟨o, hp, _⟩ := hf; exact ne_of_none hp hl
    refine ⟨p, _, rfl, hf.keep (Ext.upd hl), by omega, small (by omega), fun r1 o1 a1 a2 fo1 => ?_⟩
    refine ⟨_, _, rfl, p, _, rfl, FeedAt.put fo1, by split <;> omega, small (by split <;> omega), fun r2 o2 b1 b2 fo2 => ?_⟩
    refine ⟨(by show 3 ≤ sizeLine; decide), fun q0 hq0 => ?_⟩
    refine ⟨p, 3, rfl, (FeedAt.put fo2).keep (Ext.upd hq0), by decide, small (by decide), fun r3 o3 c1 c2 fo3 => ?_⟩
    have pq : p ≠ q0 := by intro e; rw [← e, upd_same] at hq0; cases hq0
    have lq : l ≠ q0 := by intro e; rw [← e, upd_ne pl.symm, upd_ne pl.symm, upd_same] at hq0; cases hq0
    have hq3 : (upd (upd (upd (upd (upd H l (.lst [])) p o1) p o2) q0 (.lst [.int r1, .int most, .int r2])) p o3) q0 = some (.lst [.int r1, .int most, .int r2]) := by rw [upd_ne pq.symm]; exact upd_same
    have three : r3 = 0 ∨ r3 = 1 ∨ r3 = 2 := by omega
    obtain ⟨n, hn, at3⟩ : ∃ n : Int, (0 ≤ n ∧ n ≤ most) ∧ atI [V.int r1, V.int most, V.int r2] r3 = some (.int n) := by
      rcases three with e | e | e
      · exact ⟨r1, by omega, by rw [e]; rfl⟩
      · exact ⟨most, by omega, by rw [e]; rfl⟩
      · refine ⟨r2, ⟨b1, ?_⟩, by rw [e]; rfl⟩
        split at b2 <;> omega
    refine ⟨_, _, .inl (SqL.of hq3), at3, _, rfl, by omega, by omega, for_range (lo := 0) (n := n.toNat) (EntI H p a ns most limit l) ⟨[], [], none, none, none, rfl, ?_, .nil, rfl, (fun _ h => nomatch h), FeedAt.put fo3, ?_⟩ ?_ ?_⟩
    · rw [upd_ne pl.symm, upd_ne lq, upd_ne pl.symm, upd_ne pl.symm]; exact upd_same
    · refine (((((Frm.refl (M := [p])).new' hl).upd mem1).upd mem1).new' ?_).upd mem1
      exact (upd_none (upd_none (upd_none hq0).2).2).2
    · rintro i σ H1 hi ⟨es, xs, v5, v6, v7, rfl, g1, el, ht, es_ok, hf1, fr⟩
      have nmE : ∀ e ∈ es, nameB e.1 = true := fun e he => cr.nam _ (es_ok e he).1
      have hi2 : es.length ≤ 200 := by omega
      -- again = found != [] and _law_pick(feed, 9) == 0
      refine ⟨fun σ2 H2 => ∃ b, σ2 = [some (.ref p), some (.ref a), some (.int most), some (.int limit), some (.ref l), some (.int (0 + i)), some (.bl b), v7] ∧ (b = true → es ≠ []) ∧ FeedAt H2 p ∧ Frm [p] H1 H2, ?_, ?_⟩
      · refine ⟨Nat.zero_le _, fun t0 ht0 => ?_⟩
        have y1 : Ext H1 (upd H1 t0 (.lst [])) := Ext.upd ht0
        refine ⟨_, encL [], dp_L (SqL.of (y1 _ _ g1)) (el.mono y1), .lst (SqL.of upd_same) .nil, shaped_L nmE, rfl, _, rfl, ?_⟩
        rw [eqv_L]
        by_cases e0 : es = []
        · rw [decide_eq_true e0]
          refine ifF (by rfl) ?_
          exact ⟨false, rfl, (fun z => nomatch z), hf1.keep y1, Frm.ext y1⟩
        · rw [decide_eq_false e0]
          refine ifT (by rfl) ?_
          refine ⟨p, _, rfl, hf1.keep y1, by decide, small (by decide), fun r4 o4 d1 d2 fo4 => ?_⟩
          exact ⟨_, rfl, fun _ => e0, FeedAt.put fo4, (Frm.ext y1).upd mem1⟩
      · rintro σ2 H2 ⟨b, rfl, hb, hf2, fr2⟩
        have lp : l ≠ p := pl.symm
        have ha2 : H2 a = some (.lst (ns.map V.str)) := fr2 _ _ (fr _ _ ha (by simpa using ap)) (by simpa using ap)
        have hc1 : (1 : Int) ≤ (ns.length : Int) := by have := cr.one; omega
        have hc2 : (ns.length : Int) ≤ 12 := by have := cr.few; omega
        have hl2 : H2 l = some (.lst xs) := fr2 _ _ g1 (by simpa using lp)
        -- fresh = (crew[..], _law_pick(feed, limit))
        refine ⟨_, _, rfl, .inl ⟨_, SqL.of ha2, rfl⟩, ?_⟩
        rw [List.length_map]
        refine ⟨p, _, rfl, hf2, hc1, small (by omega), fun r5 o5 d1 d2 fo5 => ?_⟩
        have hk5 : r5.toNat < ns.length := by omega
        refine ⟨_, .str ns[r5.toNat], .inl (SqL.of (by rw [upd_ne ap]; exact ha2)), atI_at d1 (by rw [List.getElem?_map, List.getElem?_eq_getElem hk5]; rfl), ?_⟩
        refine ⟨p, limit, rfl, FeedAt.put fo5, hl1, hl2', fun r6 o6 f1 f2 fo6 => ?_⟩
        refine ⟨(by show 2 ≤ sizeLine; decide), fun tp htp => ?_⟩
        have ptp : p ≠ tp := by intro e; rw [← e, upd_same] at htp; cases htp
        have y2 : Frm [p] H2 (upd (upd (upd H2 p o5) p o6) tp (.tup [.str ns[r5.toNat], .int r6])) := (((Frm.refl (M := [p])).upd mem1).upd mem1).new htp
        have hl3 := y2 _ _ hl2 (by simpa using lp)
        have hf3 : FeedAt (upd (upd (upd H2 p o5) p o6) tp (.tup [.str ns[r5.toNat], .int r6])) p := (FeedAt.put fo6).keep (Ext.upd htp)
        have st : TupSt H1 (upd (upd (upd H2 p o5) p o6) tp (.tup [.str ns[r5.toNat], .int r6])) := by
          obtain ⟨u1, hu1, fu1⟩ := hf1
          exact Frm.tups (fr2.trans y2) hu1 fu1.ne_tup
        have el3 := EntL.st el st
        have fresh : EntAt (upd (upd (upd H2 p o5) p o6) tp (.tup [.str ns[r5.toNat], .int r6])) (ns[r5.toNat], r6) (.ref tp) := ⟨tp, rfl, upd_same⟩
        have fin : ∀ (e : Str × Int) (v : V) (H4 : Hp), e.1 ∈ ns ∧ 0 ≤ e.2 ∧ e.2 < limit → EntAt H4 e v → EntL H4 es xs → FeedAt H4 p → Frm [p] H1 H4 → H4 l = some (.lst xs) → xs.length < sizeLine ∧
            EntI H p a ns most limit l (i + 1) [some (.ref p), some (.ref a), some (.int most), some (.int limit), some (.ref l), some (.int (0 + i)), some (.bl b), some (.ref tp)] (upd H4 l (.lst (xs ++ [v]))) := by
          intro e v H4 e_ok ea el4 hf4 fr4 hl4
          have up : TupSt H4 (upd H4 l (.lst (xs ++ [v]))) := TupSt.upd hl4 (fun _ z => nomatch z)
          refine ⟨?_, es ++ [e], xs ++ [v], _, _, _, rfl, upd_same, ?_, ?_, ?_, ?_, ?_⟩
          · rw [← el4.len]
            exact Nat.lt_of_le_of_lt hi2 (by decide)
          · obtain ⟨t1, rfl, h1⟩ := ea
            exact (EntL.st el4 up).snoc ⟨t1, rfl, up _ _ h1⟩
          · rw [List.length_append, ht]; rfl
          · intro x hx
            rcases List.mem_append.mp hx with hx | hx
            · exact es_ok x hx
            · rw [List.mem_singleton.mp hx]; exact e_ok
          · obtain ⟨u, hu, fu⟩ := hf4
            exact ⟨u, by rw [upd_ne lp.symm]; exact hu, fu⟩
          · intro c u hc nc
            have c1 : c ≠ l := fun z => by rw [z, hl] at hc; cases hc
            rw [upd_ne c1]
            exact fr4 _ _ (fr _ _ hc nc) nc
        refine ⟨.inl ⟨rfl, _, SqL.of hl3⟩, ?_⟩
        cases b with
        | false =>
          obtain ⟨z1, z2⟩ := fin _ _ _ ⟨List.getElem_mem _, f1, f2⟩ fresh el3 hf3 (fr2.trans y2) hl3
          exact ⟨l, xs, _, rfl, rfl, hl3, z1, z2⟩
        | true =>
          have ne0 := hb rfl
          have hx1 : 1 ≤ es.length := List.length_pos_iff.mpr ne0
          refine ⟨_, _, rfl, .inl ⟨_, SqL.of hl3, rfl⟩, ?_⟩
          rw [← el.len]
          refine ⟨p, _, rfl, hf3, by omega, small (by omega), fun r7 o7 w1 w2 fo7 => ?_⟩
          have hk7 : r7.toNat < es.length := by omega
          have y3 : Frm [p] H1 (upd (upd (upd (upd H2 p o5) p o6) tp (.tup [.str ns[r5.toNat], .int r6])) p o7) := (fr2.trans y2).upd mem1
          have el4 := EntL.st el3 (TupSt.feed (o := o7) hf3)
          have hl4 : (upd (upd (upd (upd H2 p o5) p o6) tp (.tup [.str ns[r5.toNat], .int r6])) p o7) l = some (.lst xs) := by rw [upd_ne lp]; exact hl3
          obtain ⟨v, hv, ev⟩ := el4.get hk7
          refine ⟨_, v, .inl (SqL.of hl4), atI_at w1 hv, ?_⟩
          obtain ⟨z1, z2⟩ := fin _ v _ (es_ok _ (List.getElem_mem hk7)) ev el4 (FeedAt.put fo7) y3 hl4
          exact ⟨l, xs, v, rfl, rfl, hl4, z1, z2⟩
    · rintro σ H1 ⟨es, xs, v5, v6, v7, rfl, g1, el, ht, es_ok, hf1, fr⟩
      exact k H1 l es xs hl g1 el ⟨by omega, fun e he => ⟨(es_ok e he).1, (es_ok e he).2.1⟩⟩ (fun e he => (es_ok e he).2.2) hf1 fr
end
end NB

set_option Elab.async false
set_option linter.all false
/-! K3d: parts of lists of entries -/
namespace NB
open PySem PySem.Spec L2
theorem EntL.take {H : Hp} : ∀ {es : List (Str × Int)} {xs : List V} (n : Nat), EntL H es xs → EntL H (es.take n) (xs.take n)
  | _, _, 0, _ => by simp only [List.take_zero]; exact .nil
  | _, _, n + 1, .nil => .nil
  | _, _, n + 1, .cons r q => .cons r (EntL.take n q)
theorem EntL.drop {H : Hp} : ∀ {es : List (Str × Int)} {xs : List V} (n : Nat), EntL H es xs → EntL H (es.drop n) (xs.drop n)
  | _, _, 0, h => h
  | _, _, n + 1, .nil => .nil
  | _, _, n + 1, .cons r q => EntL.drop n q
theorem EntL.app {H : Hp} : ∀ {es gs : List (Str × Int)} {xs ys : List V}, EntL H es xs → EntL H gs ys → EntL H (es ++ gs) (xs ++ ys)
  | _, _, _, _, .nil, h => h
  | _, _, _, _, .cons r q, h => .cons r (EntL.app q h)
theorem EntL.set {H : Hp} {e : Str × Int} {v : V} (h : EntAt H e v) : ∀ {es : List (Str × Int)} {xs : List V} (n : Nat), EntL H es xs → EntL H (es.set n e) (xs.set n v)
  | _, _, _, .nil => .nil
  | _, _, 0, .cons r q => .cons h q
  | _, _, n + 1, .cons r q => .cons r (EntL.set h n q)
theorem cut_to {xs : List V} {n : Int} (h0 : 0 ≤ n) : cutV xs none (some n) = xs.take n.toNat := by
  unfold cutV
  show (xs.drop 0).take _ = _
  have hn : ¬ n < 0 := by omega
  simp only [HT.sIx, List.drop_zero, if_neg hn]
  rcases Nat.le_total n.toNat xs.length with h | h
  · congr 1
    omega
  · rw [List.take_of_length_le h, List.take_of_length_le]
    omega
theorem cut_from {xs : List V} {n : Int} (h0 : 0 ≤ n) : cutV xs (some n) none = xs.drop n.toNat := by
  unfold cutV
  have hn : ¬ n < 0 := by omega
  simp only [HT.sIx, if_neg hn]
  rcases Nat.le_total n.toNat xs.length with h | h
  · rw [List.take_of_length_le]
    · congr 1
      omega
    · rw [List.length_drop]; omega
  · rw [List.drop_eq_nil_of_le h, List.take_of_length_le]
    · exact List.drop_eq_nil_of_le (by omega)
    · rw [List.length_drop]; omega
end NB

set_option Elab.async false
set_option linter.all false
set_option maxRecDepth 100000
set_option maxHeartbeats 4000000
/-! K4 (k02): classes of logs, logs made, front, with_entry -/
namespace NB
open PySem PySem.Spec L2
open PyProof.Rows (envOfC)
open C8 (pe_c pe_mk pe_mt pe_mt0 pe_gc fnScope fnBody fnArgs fnScope_by Cal Met Mak)

/-- where the methods of Log stand -/
structure Ads where
  (fI fZ fV fE fN fQ fA fW fF : Addr)
  (dI dZ dV dE dN dQ dA dW dF : FuncData)
structure Ms (K : PySem.W.Frag) (A : Ads) : Prop where
  mI : Mx K "__init__" "Log.__init__" s_Log___init__ ["self", "size", "servers", "entries"] A.fI A.dI
  mZ : Mx K "size" "Log.size" s_Log_size ["self"] A.fZ A.dZ
  mV : Mx K "servers" "Log.servers" s_Log_servers ["self"] A.fV A.dV
  mE : Mx K "entries" "Log.entries" s_Log_entries ["self"] A.fE A.dE
  mN : Mx K "__len__" "Log.__len__" s_Log___len__ ["self"] A.fN A.dN
  mQ : Mx K "__eq__" "Log.__eq__" s_Log___eq__ ["self", "other"] A.fQ A.dQ
  mA : Mx K "__add__" "Log.__add__" s_Log___add__ ["self", "other"] A.fA A.dA
  mW : Mx K "with_entry" "Log.with_entry" s_Log_with_entry ["self", "server", "number"] A.fW A.dW
  mF : Mx K "front" "Log.front" s_Log_front ["self", "count"] A.fF A.dF
  dfW : A.dW.defaults = .none
  dfF : A.dF.defaults = .none
structure LogM (K : PySem.W.Frag) (cL cX C : Addr) (kn : Str) (A : Ads) : Prop extends LogC K C kn where
  mkk : Mk K C A.fI
  pZ : ∃ p, PropOf K C "size" p A.fZ
  pV : ∃ p, PropOf K C "servers" p A.fV
  pE : ∃ p, PropOf K C "entries" p A.fE
  mW : Meth K C "with_entry" A.fW
  mF : Meth K C "front" A.fF
  sQ : PySem.W.findIn K (.ref C) "__eq__" = some (some (.ref A.fQ))
  iQ : PySem.W.isFn K (.ref A.fQ) = true
  nQ : PySem.W.findIn K (.ref C) "__ne__" = some (some (.builtin "object.__ne__"))
  mo : PySem.W.mroIn K C (.type "object") = some true
  kl : PySem.W.kitOne K (.ref C) (.ref cL) = some true
  sN : PySem.W.findIn K (.ref C) "__len__" = some (some (.ref A.fN))
  iN : PySem.W.isFn K (.ref A.fN) = true
  sA : PySem.W.findIn K (.ref C) "__add__" = some (some (.ref A.fA))
  iA : PySem.W.isFn K (.ref A.fA) = true
  sf : PySem.W.selfFirst K C = true
  kx : PySem.W.kitOne K (.ref C) (.ref cX) = some (decide (kn = ("losing" : Str)))
/-- an own error class over ValueError, without __init__ -/
structure ErrC (K : PySem.W.Frag) (mg : Str → Option Value) (x : Str) (c : Addr) : Prop where
  g : mg x = some (.ref c)
  x : PySem.W.excIn K c [.type "ValueError", .type "Exception", .type "BaseException", .type "object"] "ValueError.__new__" = true
  k : PySem.W.keepIn K (.ref c) = true
  b : PySem.W.subIn K (.ref c) (.type "BaseException") = some true
  t : PySem.W.typeIn K (.ref c) = some (.type "type")
  i : PySem.W.isClsIn K c = true
  s : PySem.W.subIn K (.ref c) (.ref c) = some true
theorem u2 {k : Nat} {A : Around} (hr : Room k A) : A.units + 1 < cLine := by have := hr.un; omega
section
variable {P : Program} {w : World} {K : PySem.W.Frag} {mg : Str → Option Value} {base : Heap} {cL cX C : Addr} {kd : Str}
/-- a new log, for what is done with it -/
def NewLog (C : Addr) (H : Hp) (sz : Int) (ns : List Str) (es : List (Str × Int)) (Q : VK) : Prop := ∀ H' q, H q = none → LogAt C H' q sz ns es → Ext H H' → Q (.ref q) H'
theorem init_new {C : Addr} {H : Hp} {x dx : Addr} {sz : Int} {a l : Addr} {ns : List Str} {es : List (Str × Int)} {xs : List V} {Q : VK} {E : XK} (nx : H x = none) (nd : H dx = none) (ne : dx ≠ x) (so : SizeOk sz) (ha : H a = some (.lst (ns.map V.str))) (cr : CrewOk ns)
    (hl : H l = some (.lst xs)) (el : EntL H es xs) (ok : EntsOk ns es) (k : NewLog C H sz ns es Q) :
    spInit C [.ref x, .int sz, .ref a, .ref l] (upd (upd H dx (.own x)) x (.ins C dx [])) (fun v H2 => v = .non ∧ Q (.ref x) H2) E := by
  have x0 : Ext H (upd (upd H dx (.own x)) x (.ins C dx [])) := fun b o e => by
    rw [upd_ne (ne_of_none e nx), upd_ne (ne_of_none e nd)]; exact e
  refine ⟨x, dx, sz, a, ns, l, es, xs, rfl, upd_same, by rw [upd_ne ne]; exact upd_same, so, x0 _ _ ha, cr, x0 _ _ hl, el.mono x0, ok, fun H' ls le h1 h2 g1 g2 g3 fr => ⟨rfl, ?_⟩⟩
  have x1 : Ext H H' := fun b o e => fr _ _ (x0 _ _ e) fun z => ne_of_none e nx (List.mem_singleton.mp z)
  exact k H' x nx ⟨dx, ls, le, xs, g1, g2, g3, el.mono x1⟩ x1
def kdC (cL cX : Addr) (kd : Str) : Addr := if kd = "losing" then cX else cL
def spMade (cL cX : Addr) : Sp := fun vs H Q _ => ∃ kd sz a ns l es xs, vs = [.str kd, .int sz, .ref a, .ref l] ∧ SizeOk sz ∧ H a = some (.lst (ns.map V.str)) ∧ CrewOk ns ∧ H l = some (.lst xs) ∧ EntL H es xs ∧ EntsOk ns es ∧ NewLog (kdC cL cX kd) H sz ns es Q
theorem ok_made (T : Blt mg) (D : Dx K mg "_law_made" s__law_made ["kind", "unit", "crew", "shown"]) (c_Log : Mak P w K mg base 4 "Log" cL (spInit cL) []) (c_LosingLog : Mak P w K mg base 4 "LosingLog" cX (spInit cX) []) :
    Cal P w K mg base 6 "_law_made" (spMade cL cX) [] := by
  refine cal_of D sc__law_made (fun vs H Q E h => ?_) (fun f cdv A o s H vs Q E hr h => ?_)
  · obtain ⟨kd, sz, a, ns, l, es, xs, rfl, _⟩ := h; rfl
  · obtain ⟨kd, sz, a, ns, l, es, xs, rfl, so, ha, cr, hl, el, ok, k⟩ := h
    refine ⟨_, (pss_one (ps_ret (pe_ifExp (qt m_eq (mv 0) pe_str (nomark _)) (pe_mk c_LosingLog hr (by decide) rfl (pa_cons (mv 1) (pa_cons (mv 2) (pa_cons (mv 3) pa_nil)))) (pe_mk c_Log hr (by decide) rfl (pa_cons (mv 1) (pa_cons (mv 2) (pa_cons (mv 3) pa_nil))))))), ?_⟩
    show if decide (kd = ("losing" : Str)) = true then _ else _
    refine ifD (fun e => ?_) (fun e => ?_)
    · intro x dx nx nd ne
      have e2 : kdC cL cX kd = cX := if_pos e
      rw [e2] at k
      exact init_new nx nd ne so ha cr hl el ok k
    · intro x dx nx nd ne
      have e2 : kdC cL cX kd = cL := if_neg e
      rw [e2] at k
      exact init_new nx nd ne so ha cr hl el ok k
theorem ok_logof (T : Tx K mg cL cX) (D : Dx K mg "log_of" s_log_of ["kind", "size", "servers", "entries"]) (c_Log : Mak P w K mg base 4 "Log" cL (spInit cL) []) (c_LosingLog : Mak P w K mg base 4 "LosingLog" cX (spInit cX) []) :
    Cal P w K mg base 6 "log_of" (spMade cL cX) [] := by
  refine cal_of D sc_log_of (fun vs H Q E h => ?_) (fun f cdv A o s H vs Q E hr h => ?_)
  · obtain ⟨kd, sz, a, ns, l, es, xs, rfl, _⟩ := h; rfl
  · obtain ⟨kd, sz, a, ns, l, es, xs, rfl, so, ha, cr, hl, el, ok, k⟩ := h
    refine ⟨_, (pss_cons (ps_if (qt m_eq (mv 0) (pe_gc rfl T.g_LOSING) (nomark _)) (pss_one (ps_ret (pe_mk c_LosingLog hr (by decide) rfl (pa_cons (mv 1) (pa_cons (mv 2) (pa_cons (mv 3) pa_nil)))))) pss_nil)
    (pss_one (ps_ret (pe_mk c_Log hr (by decide) rfl (pa_cons (mv 1) (pa_cons (mv 2) (pa_cons (mv 3) pa_nil))))))), ?_⟩
    show if decide (kd = ("losing" : Str)) = true then _ else _
    refine ifD (fun e => ?_) (fun e => ?_)
    · intro x dx nx nd ne
      have e2 : kdC cL cX kd = cX := if_pos e
      rw [e2] at k
      exact init_new nx nd ne so ha cr hl el ok k
    · intro x dx nx nd ne
      have e2 : kdC cL cX kd = cL := if_neg e
      rw [e2] at k
      exact init_new nx nd ne so ha cr hl el ok k
def spNeed : Sp := fun vs H Q _ => ∃ (a : Addr) (ns : List Str) (z : Str), vs = [.ref a, .str z] ∧ H a = some (.lst (ns.map V.str)) ∧ z ∈ ns ∧ Q .non H
theorem ok_need (T : Tx K mg cL cX) (D : Dx K mg "need_server" s_need_server ["servers", "thing"]) (c_is_server : Cal P w K mg base 1 "is_server" (spServer K) []) : Cal P w K mg base 2 "need_server" spNeed [] := by
  refine cal_of D sc_need_server (fun vs H Q E h => ?_) (fun f cdv A o s H vs Q E hr h => ?_)
  · obtain ⟨a, ns, z, rfl, _⟩ := h; rfl
  · obtain ⟨a, ns, z, rfl, ha, hz, k⟩ := h
    refine ⟨_, (pss_one (ps_if (pt_not (qv (pe_c c_is_server hr (by decide) rfl (pa_cons (mv 0) (pa_cons (mv 1) pa_nil))))) (pss_one ps_never) pss_nil)), ?_⟩
    have js : SrvJ K H ns (.str z) true := by have := SrvJ.str (K := K) (H := H) (ns := ns) z; rw [decide_eq_true hz] at this; exact this
    exact ⟨a, ns, _, true, rfl, ha, js, ifF (by rfl) k⟩
def spFront (C : Addr) : Sp := fun vs H Q _ => ∃ p n sz ns es, vs = [.ref p, .int n] ∧ LogAt C H p sz ns es ∧ SizeOk sz ∧ CrewOk ns ∧ EntsOk ns es ∧ 0 ≤ n ∧ n ≤ (es.length : Int) ∧ NewLog C H sz ns (es.take n.toNat) Q
def spWith (cI C : Addr) : Sp := fun vs H Q E => ∃ p z i sz ns es, vs = [.ref p, .str z, .int i] ∧ LogAt C H p sz ns es ∧ SizeOk sz ∧ CrewOk ns ∧ EntsOk ns es ∧ z ∈ ns ∧ 0 ≤ i ∧ (es.length < 200 → NewLog C H sz ns (es ++ [(z, i)]) Q) ∧ (es.length = 200 → E (.ref cI) none H)
def spAdd (cI C : Addr) : Sp := fun vs H Q E => ∃ p q sz ns es es2, vs = [.ref p, .ref q] ∧ LogAt C H p sz ns es ∧ LogAt C H q sz ns es2 ∧ SizeOk sz ∧ CrewOk ns ∧ EntsOk ns es ∧ EntsOk ns es2 ∧ (es.length + es2.length ≤ 200 → NewLog C H sz ns (es ++ es2) Q) ∧
  (200 < es.length + es2.length → ∀ H', Ext H H' → E (.ref cI) none H')
theorem ok_front {f : Addr} {fd : FuncData} (T : Tx K mg cL cX) (L : LogC K C kd) (hC : kdC cL cX kd = C) (D : Mx K "front" "Log.front" s_Log_front ["self", "count"] f fd) (c_log_of : Cal P w K mg base 6 "log_of" (spMade cL cX) []) : FnOk P w K mg base C8.CX0 7 f fd ["self", "count"] (spFront C) := by
  refine fn_of' D sc_Log_front (fun vs H Q E h => ?_) (fun cdv A o s H vs Q E hr h => ?_)
  · obtain ⟨p, n, sz, ns, es, rfl, _⟩ := h; rfl
  · obtain ⟨p, n, sz, ns, es, rfl, lg, so, cr, ok, n0, n1, k⟩ := h
    obtain ⟨dx, ls, le, xs, hp, h1, h2, el⟩ := lg
    obtain ⟨u, con⟩ := L.kd
    refine ⟨_, (pss_cons (ps_if (pt_not (pt_chain m_le m_le pe_int (mv 1) (pe_callB call_len (by rfl) T.n_len (by decide +kernel) (pa_cons (pe_fld (mv 0) rfl) pa_nil)))) (pss_one ps_never) pss_nil)
    (pss_one (ps_ret (pe_c c_log_of hr (by decide) rfl (pa_cons (pe_con (mv 0) rfl) (pa_cons (pe_fld (mv 0) rfl) (pa_cons (pe_fld (mv 0) rfl) (pa_cons (pe_slice sl_list (pe_fld (mv 0) rfl) po_none (po_some (mv 1))) pa_nil)))))))), ?_⟩
    have e2 : n ≤ (xs.length : Int) := by rw [← el.len]; exact n1
    refine ⟨_, rfl, ?_⟩
    rw [decide_eq_true n0]
    refine ifT (by rfl) ?_
    refine ⟨p, C, dx, _, _, rfl, hp, L.cl, L.nE, lf_entries _ _ _, _, _, rfl, .inl ⟨_, SqL.of h2, rfl⟩, ?_⟩
    refine ⟨_, rfl, ?_⟩
    rw [decide_eq_true e2]
    refine ifF (by rfl) ?_
    refine ⟨p, C, dx, _, _, _, rfl, hp, L.cl, con, kd_no _ _ _, p, C, dx, _, _, rfl, hp, L.cl, L.nS, lf_size _ _ _, p, C, dx, _, _, rfl, hp, L.cl, L.nV, lf_servers _ _ _, p, C, dx, _, _, rfl, hp, L.cl, L.nE, lf_entries _ _ _, _, rfl, le, xs, rfl, SqL.of h2, fun t ht => ?_⟩
    have x := Ext.upd (o := .lst (cutV xs none (some n))) ht
    refine ⟨kd, sz, ls, ns, t, es.take n.toNat, _, rfl, so, x _ _ h1, cr, upd_same, by have z := (EntL.mono el x).take n.toNat; rw [← cut_to (xs := xs) n0] at z; exact z, ⟨by have := ok.few; rw [List.length_take]; omega, fun e he => ok.ok e (List.mem_of_mem_take he)⟩, ?_⟩
    rw [hC]
    exact fun H' q hq lg y => k H' q (upd_none hq).2 lg (x.trans y)
theorem ok_with {f : Addr} {fd : FuncData} (T : Tx K mg cL cX) (L : LogC K C kd) (hC : kdC cL cX kd = C) (D : Mx K "with_entry" "Log.with_entry" s_Log_with_entry ["self", "server", "number"] f fd) (c_log_of : Cal P w K mg base 6 "log_of" (spMade cL cX) [])
    (c_need_server : Cal P w K mg base 2 "need_server" spNeed []) {cI : Addr} (T2 : ErrC K mg "InvalidLog" cI) : FnOk P w K mg base (L2.CX P w) 7 f fd ["self", "server", "number"] (spWith cI C) := by
  refine fnX_of' D sc_Log_with_entry (fun vs H Q E h => ?_) (fun cdv A o s H vs Q E hr h => ?_)
  · obtain ⟨p, z, i, sz, ns, es, rfl, _⟩ := h; rfl
  · obtain ⟨p, z, i, sz, ns, es, rfl, lg, so, cr, ok, hz, i0, k, kE⟩ := h
    obtain ⟨dx, ls, le, xs, hp, h1, h2, el⟩ := lg
    obtain ⟨u, con⟩ := L.kd
    refine ⟨_, (pss_cons (ps_expr (pe_c c_need_server hr (by decide) rfl (pa_cons (pe_fld (mv 0) rfl) (pa_cons (mv 1) pa_nil))))
    (pss_cons (ps_if (qt m_lt (mv 2) pe_int (nomark _)) (pss_one ps_never) pss_nil)
    (pss_cons (ps_if (qt m_eq (pe_callB call_len (by rfl) T.n_len (by decide +kernel) (pa_cons (pe_fld (mv 0) rfl) pa_nil)) (pe_gc rfl T.g_MOST_ENTRIES) (nomark _)) (pss_one (ps_raise rfl (takes_of rfl rfl rfl rfl) (pmk_own PySem.F.excBase_ValueError T2.x T2.g T2.k (raises_own T2.b T2.t) rfl))) pss_nil)
    (pss_one (ps_ret (pe_c c_log_of hr (by decide) rfl (pa_cons (pe_con (mv 0) rfl) (pa_cons (pe_fld (mv 0) rfl) (pa_cons (pe_fld (mv 0) rfl) (pa_cons (pe_op op_cat (pe_fld (mv 0) rfl) (pe_lst (pa_cons (pe_tup (pa_cons (mv 1) (pa_cons (mv 2) pa_nil))) pa_nil))) pa_nil)))))))))), ?_⟩
    refine ⟨p, C, dx, _, _, rfl, hp, L.cl, L.nV, lf_servers _ _ _, ls, ns, z, rfl, h1, hz, ?_⟩
    dsimp only [mI0]
    refine (show if decide (i < 0) = true then _ else _ from ?_)
    rw [decide_eq_false (by omega)]
    refine ifF rfl ?_
    refine ⟨p, C, dx, _, _, rfl, hp, L.cl, L.nE, lf_entries _ _ _, _, _, rfl, .inl ⟨_, SqL.of h2, rfl⟩, ?_⟩
    refine (show if decide ((xs.length : Int) = 200) = true then _ else _ from ?_)
    refine ifD (fun e3 => ?_) (fun e3 => ?_)
    · exact kE (by rw [el.len]; omega)
    have n1 : es.length < 200 := by
      have := ok.few
      have := el.len
      omega
    have k := k n1
    refine ⟨p, C, dx, _, _, _, rfl, hp, L.cl, con, kd_no _ _ _, p, C, dx, _, _, rfl, hp, L.cl, L.nS, lf_size _ _ _, p, C, dx, _, _, rfl, hp, L.cl, L.nV, lf_servers _ _ _, p, C, dx, _, _, rfl, hp, L.cl, L.nE, lf_entries _ _ _, (by show 2 ≤ sizeLine; decide), fun tp htp => ?_⟩
    have x1 := Ext.upd (o := .tup [.str z, .int i]) htp
    have e1 : EntAt (upd H tp (.tup [.str z, .int i])) (z, i) (.ref tp) := ⟨tp, rfl, upd_same⟩
    generalize upd H tp (.tup [.str z, .int i]) = G1 at x1 e1 ⊢
    refine ⟨(by show 1 ≤ sizeLine; decide), fun t2 ht2 => ?_⟩
    have x2' := Ext.upd (o := .lst [.ref tp]) ht2
    have x2 := x1.trans x2'
    have e2 := e1.mono x2'
    have c2 : (upd G1 t2 (.lst [.ref tp])) t2 = some (.lst [.ref tp]) := upd_same
    generalize upd G1 t2 (.lst [.ref tp]) = G2 at x2 e2 c2 ⊢
    have hx2 : xs.length < 200 := by rw [← el.len]; exact n1
    refine ⟨le, t2, _, _, rfl, rfl, x2 _ _ h2, c2, Nat.le_trans (show xs.length + 1 ≤ 200 by omega) (by decide), fun t3 ht3 => ?_⟩
    have x3' := Ext.upd (o := .lst (xs ++ [.ref tp])) ht3
    have x3 := x2.trans x3'
    refine ⟨kd, sz, ls, ns, t3, es ++ [(z, i)], _, rfl, so, x3 _ _ h1, cr, upd_same, EntL.snoc (el.mono x3) (e2.mono x3'), ⟨by rw [List.length_append]; exact n1, fun e he => ?_⟩, ?_⟩
    · rcases List.mem_append.mp he with he | he
      · exact ok.ok e he
      · rw [List.mem_singleton.mp he]; exact ⟨hz, i0⟩
    rw [hC]
    exact fun H' q hq lg y => k H' q (Ext.free x3 hq) lg (x3.trans y)
theorem ok_add {f : Addr} {fd : FuncData} (T : Tx K mg cL cX) (L : LogC K C kd) (hC : kdC cL cX kd = C) (kl : PySem.W.kitOne K (.ref C) (.ref cL) = some true) (D : Mx K "__add__" "Log.__add__" s_Log___add__ ["self", "other"] f fd) (c_log_of : Cal P w K mg base 6 "log_of" (spMade cL cX) [])
    {cI : Addr} (T2 : ErrC K mg "InvalidLog" cI) : FnOk P w K mg base (L2.CX P w) 7 f fd ["self", "other"] (spAdd cI C) := by
  refine fnX_of' D sc_Log___add__ (fun vs H Q E h => ?_) (fun cdv A o s H vs Q E hr h => ?_)
  · obtain ⟨p, q, sz, ns, es, es2, rfl, _⟩ := h; rfl
  · obtain ⟨p, q, sz, ns, es, es2, rfl, lg, lg2, so, cr, ok, ok2, k, kE⟩ := h
    obtain ⟨dx, ls, le, xs, hp, h1, h2, el⟩ := lg
    obtain ⟨dx2, ls2, le2, xs2, hp2, g1, g2, el2⟩ := lg2
    obtain ⟨u, con⟩ := L.kd
    refine ⟨_, (pss_cons (ps_if (PW.pt (pw_or (pt_not (qv (pe_callB call_isi (by rfl) T.n_isinstance (by decide +kernel) (pa_cons (mv 1) (pa_cons (pe_gc rfl T.g_Log) pa_nil))))) (pw_or (qt m_ne (pe_con (mv 1) rfl) (pe_con (mv 0) rfl) (nomark _)) (pw_or1 (qt m_ne (pe_fld (mv 1) rfl) (pe_fld (mv 0) rfl) (nomark _)))))) (pss_one ps_never) pss_nil)
    (pss_cons (ps_if (qt (op_neD hr.units) (pe_fld (mv 1) rfl) (pe_fld (mv 0) rfl) (nomark _)) (pss_one ps_never) pss_nil)
    (pss_cons (ps_set (i := 2) sc_Log___add__.nd rfl (Or.inl rfl) (pe_op op_cat (pe_fld (mv 0) rfl) (pe_fld (mv 1) rfl)))
    (pss_cons (ps_if (qt m_gt (pe_callB call_len (by rfl) T.n_len (by decide +kernel) (pa_cons (mv 2) pa_nil)) (pe_gc rfl T.g_MOST_ENTRIES) (nomark _)) (pss_one (ps_raise rfl (takes_of rfl rfl rfl rfl) (pmk_own PySem.F.excBase_ValueError T2.x T2.g T2.k (raises_own T2.b T2.t) rfl))) pss_nil)
    (pss_one (ps_ret (pe_c c_log_of hr (by decide) rfl (pa_cons (pe_con (mv 0) rfl) (pa_cons (pe_fld (mv 0) rfl) (pa_cons (pe_fld (mv 0) rfl) (pa_cons (mv 2) pa_nil))))))))))), ?_⟩
    refine ⟨_, _, _, _, _, rfl, .own _, L.ty _ _ _ _ hp2, kl, ifF (by rfl) ?_⟩
    refine ⟨q, C, dx2, _, _, _, rfl, hp2, L.cl, con, kd_no _ _ _, p, C, dx, _, _, _, rfl, hp, L.cl, con, kd_no _ _ _, ?_⟩
    dsimp only [mEqG, kB]
    refine ifF (by simp) ?_
    refine ⟨q, C, dx2, _, _, rfl, hp2, L.cl, L.nS, lf_size _ _ _, p, C, dx, _, _, rfl, hp, L.cl, L.nS, lf_size _ _ _, ?_⟩
    dsimp only [mEqG, kB]
    refine ifF (by simp) ?_
    refine ⟨q, C, dx2, _, _, rfl, hp2, L.cl, L.nV, lf_servers _ _ _, p, C, dx, _, _, rfl, hp, L.cl, L.nV, lf_servers _ _ _, ?_⟩
    refine ⟨_, _, dp_S (SqL.of g1), dp_S (SqL.of h1), shaped_S cr.nam, shaped_S cr.nam, ?_⟩
    rw [eqv_S, decide_eq_true rfl]
    refine ifF (by rfl) ?_
    -- entries
    have hx1 : xs.length ≤ 200 := by rw [← el.len]; exact ok.few
    have hx2 : xs2.length ≤ 200 := by rw [← el2.len]; exact ok2.few
    refine ⟨p, C, dx, _, _, rfl, hp, L.cl, L.nE, lf_entries _ _ _, q, C, dx2, _, _, rfl, hp2, L.cl, L.nE, lf_entries _ _ _, le, le2, _, _, rfl, rfl, h2, g2, Nat.le_trans (show xs.length + xs2.length ≤ 400 by omega) (by decide), fun t ht => ?_⟩
    have x := Ext.upd (o := .lst (xs ++ xs2)) ht
    have d : (upd H t (.lst (xs ++ xs2))) t = some (.lst (xs ++ xs2)) := upd_same
    have elx := (el.mono x).app (el2.mono x)
    generalize upd H t (.lst (xs ++ xs2)) = G at x d elx ⊢
    refine ⟨_, _, rfl, .inl ⟨_, SqL.of d, rfl⟩, ?_⟩
    refine (show if decide ((200 : Int) < ((xs ++ xs2).length : Int)) = true then _ else _ from ?_)
    have hlen : (es ++ es2).length = (xs ++ xs2).length := elx.len
    rw [List.length_append] at hlen
    refine ifD (fun e3 => ?_) (fun e3 => ?_)
    · exact kE (by omega) _ x
    have k := k (by omega)
    refine ⟨p, C, dx, _, _, _, rfl, x _ _ hp, L.cl, con, kd_no _ _ _, p, C, dx, _, _, rfl, x _ _ hp, L.cl, L.nS, lf_size _ _ _, p, C, dx, _, _, rfl, x _ _ hp, L.cl, L.nV, lf_servers _ _ _, ?_⟩
    refine ⟨kd, sz, ls, ns, t, es ++ es2, _, rfl, so, x _ _ h1, cr, d, elx, ⟨by rw [List.length_append]; omega, fun e he => (List.mem_append.mp he).elim (ok.ok e) (ok2.ok e)⟩, ?_⟩
    rw [hC]
    exact fun H' q hq lg y => k H' q (Ext.free x hq) lg (x.trans y)
end
end NB

set_option Elab.async false
set_option linter.all false
set_option maxRecDepth 100000
set_option maxHeartbeats 4000000
/-! K5h: what the judging of a log keeps -/
namespace NB
open PySem PySem.Spec L2

theorem ps0 {X : Cx} : Passes C8.CX0 X C8.E0 := C8.pass0
theorem EntL.ne_feed {H : Hp} {es : List (Str × Int)} {xs : List V} {o : HO} (el : EntL H es xs) (fo : FeedO o) : o ≠ .lst xs := by
  obtain ⟨x, y, z, rfl, _⟩ := fo
  intro e
  injection e with e
  subst e
  cases el with
  | cons r q => obtain ⟨p, e, _⟩ := r; cases e
theorem FeedO.ne_ins {o : HO} (fo : FeedO o) {C dx : Addr} {fs : List (Str × V)} : o ≠ .ins C dx fs := by
  obtain ⟨x, y, z, rfl, _⟩ := fo
  intro e; cases e
section
variable {C p a l b b2 q : Addr} {sz : Int} {ns : List Str} {es : List (Str × Int)} {xs : List V} {H H' : Hp} {K : PySem.W.Frag}
theorem nin_feed {o u : HO} (hp : H p = some o) {c : Addr} (hc : H c = some u) (n : o ≠ u) : c ∉ [p] := fun z => by
  rw [List.mem_singleton.mp z, hp] at hc
  exact n (Option.some.inj hc)
theorem LogAt.frm (h : LogAt C H q sz ns es) (hf : FeedAt H p) (f : Frm [p] H H') : LogAt C H' q sz ns es := by
  obtain ⟨dx, ls, le, vs, h1, h2, h3, h4⟩ := h
  obtain ⟨o, hp, fo⟩ := hf
  exact ⟨dx, ls, le, vs, f _ _ h1 (nin_feed hp h1 fo.ne_ins), f _ _ h2 (nin_feed hp h2 fo.ne_strs), f _ _ h3 (nin_feed hp h3 (h4.ne_feed fo)), h4.st (Frm.tups f hp fo.ne_tup)⟩
/-- what stands while things are drawn -/
structure CS (p a l : Addr) (ns : List Str) (es : List (Str × Int)) (xs : List V) (H : Hp) : Prop where
  feed : FeedAt H p
  crew : H a = some (.lst (ns.map V.str))
  shown : H l = some (.lst xs)
  ents : EntL H es xs
theorem CS.frm (r : CS p a l ns es xs H) (f : Frm [p] H H') (hf : FeedAt H' p) : CS p a l ns es xs H' := by
  obtain ⟨o, hp, fo⟩ := r.feed
  exact ⟨hf, f _ _ r.crew (nin_feed hp r.crew fo.ne_strs), f _ _ r.shown (nin_feed hp r.shown (r.ents.ne_feed fo)), r.ents.st (Frm.tups f hp fo.ne_tup)⟩
theorem CS.ext (r : CS p a l ns es xs H) (x : Ext H H') : CS p a l ns es xs H' := r.frm (Frm.ext x) (r.feed.keep x)
theorem CS.pick {o : HO} (r : CS p a l ns es xs H) (fo : FeedO o) : CS p a l ns es xs (upd H p o) := r.frm ((Frm.refl (M := [p])).upd mem1) (FeedAt.put fo)
theorem frm_pick {o : HO} {H0 : Hp} (f : Frm [p] H0 H) : Frm [p] H0 (upd H p o) := f.trans ((Frm.refl (M := [p])).upd mem1)
theorem frm_new {o : HO} {H0 : Hp} {c : Addr} (f : Frm [p] H0 H) (h : H c = none) : Frm [p] H0 (upd H c o) := f.trans (Frm.ext (Ext.upd h))
theorem Frm.free {H0 : Hp} (f : Frm [p] H0 H) {c : Addr} (h : H c = none) (hp : H p ≠ none) : H0 c = none := by
  cases e : H0 c with
  | none => rfl
  | some u =>
    have := f c u e (fun z => hp (by rw [← List.mem_singleton.mp z]; exact h))
    rw [h] at this; cases this
theorem FeedAt.some (h : FeedAt H p) : H p ≠ none := by obtain ⟨u, hu, _⟩ := h; rw [hu]; exact fun z => nomatch z
/-! kinds of things under Ext and under a list's change -/
theorem TyOf.ext {x : V} {t : Value} (h : TyOf K H x t) (e : Ext H H') : TyOf K H' x t := by
  cases h with
  | non => exact .non
  | bl x => exact .bl x
  | int i => exact .int i
  | str x => exact .str x
  | flt x => exact .flt x
  | lst h => exact .lst (e _ _ h)
  | frz h => exact .frz (e _ _ h)
  | tup h => exact .tup (e _ _ h)
  | dK h => exact .dK (e _ _ h)
  | dT h => exact .dT (e _ _ h)
  | ins h c1 c2 c3 c4 c5 => exact .ins (e _ _ h) c1 c2 c3 c4 c5
theorem TyX.ext {x : V} {t : Value} (h : TyX K H x t) (e : Ext H H') : TyX K H' x t := by
  cases h with
  | base h => exact .base (TyOf.ext h e)
  | byt b => exact .byt b
  | set h => exact .set (e _ _ h)
  | kList h c => exact .kList h c
  | kTuple h c => exact .kTuple h c
  | kDict h c => exact .kDict h c
  | fTuple h => exact .fTuple (e _ _ h)
  | fDict h => exact .fDict (e _ _ h)
end
/-! the repr of a log's parts -/
theorem Sm.str' {z : Str} {m : Nat} (h : PyData.canLay0 (.str z) = true) (hl : z.length ≤ m) : Sm m 0 (.str z) := ⟨h, rfl, rfl, Nat.le_refl _, rfl, hl⟩
theorem Sm.tup2 {x y : PyData} {n a b : Nat} (h1 : Sm a n x) (h2 : Sm b n y) : Sm (a + b + 2) (n + 1) (.tuple [x, y]) := by
  refine ⟨?_, ?_, ?_, ?_, ?_, ?_⟩
  · simp only [PyData.canLay0, PyData.canLayAll0, h1.lay, h2.lay, Bool.and_self]
  · simp only [PyData.showable, PyData.showableAll, h1.sho, h2.sho, Bool.and_self]
  · simp only [PyData.hasDict, PyData.hasDictAll, h1.nod, h2.nod, Bool.or_self]
  · show max x.depth (max y.depth 0) + 1 ≤ n + 1
    have := h1.dep
    have := h2.dep
    omega
  · simp only [PyData.intsShort, PyData.intsShortAll, h1.ish, h2.ish, Bool.and_self]
  · show PyData.weightAll [x, y] ≤ _
    simp only [PyData.weightAll]
    have := h1.wt
    have := h2.wt
    omega
theorem Sm.name {z : Str} (h : nameB z = true) : Sm 8 0 (.str z) := by
  refine .str' (strOk_name h) ?_
  unfold nameB at h
  simp only [Bool.and_eq_true, decide_eq_true_eq] at h
  exact h.1.2
theorem Sm.ent {e : Str × Int} (h : nameB e.1 = true) (h0 : 0 ≤ e.2) (h1 : e.2 < 10 ^ 60) : Sm 210 1 (encE e) := .tup2 (.name h) (.int (by omega))
theorem Sm.ents {es : List (Str × Int)} (h : ∀ e ∈ es, nameB e.1 = true ∧ 0 ≤ e.2 ∧ e.2 < 10 ^ 60) (hl : es.length ≤ 200) : Sm 42200 2 (encL es) := by
  refine (Sm.list (W := 210) (n := 1) (m := 200) (fun d hd => ?_) (by rw [List.length_map]; exact hl)).mono (by decide) (by decide)
  obtain ⟨e, he, rfl⟩ := List.mem_map.mp hd
  exact .ent (h e he).1 (h e he).2.1 (h e he).2.2
theorem Sm.names {ns : List Str} (h : ∀ z ∈ ns, nameB z = true) (hl : ns.length ≤ 12) : Sm 108 1 (encS ns) := by
  refine (Sm.list (W := 8) (n := 0) (m := 12) (fun d hd => ?_) (by rw [List.length_map]; exact hl)).mono (by decide) (by decide)
  obtain ⟨e, he, rfl⟩ := List.mem_map.mp hd
  exact .name (h e he)
theorem cutV_mem {xs : List V} {lo hi : Option Int} {v : V} (h : v ∈ cutV xs lo hi) : v ∈ xs := List.mem_of_mem_drop (List.mem_of_mem_take h)
theorem EntL.mem {H : Hp} {es : List (Str × Int)} {xs : List V} {v : V} (h : EntL H es xs) (hv : v ∈ xs) : ∃ e ∈ es, EntAt H e v := by
  obtain ⟨i, hi⟩ := List.mem_iff_getElem?.mp hv
  obtain ⟨e, he, q⟩ := h.at hi
  exact ⟨e, List.mem_of_getElem? he, q⟩
end NB

set_option Elab.async false
set_option linter.all false
set_option maxRecDepth 100000
set_option maxHeartbeats 4000000
/-! K5b (k03): comparing logs -/
namespace NB
open PySem PySem.Spec L2
section
variable {P : Program} {w : World} {K : PySem.W.Frag} {mg : Str → Option Value} {base : Heap} {g : Bool → Bool} {cL cX C D : Addr} {kd kd2 : Str} {H : Hp} {Q : VK} {a b : Addr} {sz sz2 : Int} {ns ns2 : List Str} {es es2 : List (Str × Int)}
/-- alike -/
def eqLog (kd : Str) (sz : Int) (ns : List Str) (es : List (Str × Int)) (kd2 : Str) (sz2 : Int) (ns2 : List Str) (es2 : List (Str × Int)) : Bool := decide (kd = kd2 ∧ sz = sz2 ∧ ns = ns2 ∧ es = es2)
theorem eqLog_is : (decide (kd2 = kd) && decide (sz2 = sz) && decide (ns2 = ns) && decide (es2 = es)) = eqLog kd sz ns es kd2 sz2 ns2 es2 := by
  unfold eqLog
  rw [Bool.eq_iff_iff]
  simp only [Bool.and_eq_true, decide_eq_true_eq]
  exact ⟨fun h => ⟨h.1.1.1.symm, h.1.1.2.symm, h.1.2.symm, h.2.symm⟩, fun h => ⟨⟨⟨h.1.symm, h.2.1.symm⟩, h.2.2.1.symm⟩, h.2.2.2.symm⟩⟩
theorem eqLog_symm : eqLog kd2 sz2 ns2 es2 kd sz ns es = eqLog kd sz ns es kd2 sz2 ns2 es2 := by
  unfold eqLog
  rw [Bool.eq_iff_iff]
  simp only [decide_eq_true_eq]
  exact ⟨fun h => ⟨h.1.symm, h.2.1.symm, h.2.2.1.symm, h.2.2.2.symm⟩, fun h => ⟨h.1.symm, h.2.1.symm, h.2.2.1.symm, h.2.2.2.symm⟩⟩
theorem eqLog_self : eqLog kd sz ns es kd sz ns es = true := decide_eq_true ⟨rfl, rfl, rfl, rfl⟩
/-- a log == or != a log -/
theorem own_logs (LC : LogC K C kd) (LD : LogC K D kd2) (EC : EqF P w K mg base 1 C (spEqA K cL C kd)) (ED : EqF P w K mg base 1 D (spEqA K cL D kd2)) (kC : PySem.W.kitOne K (.ref C) (.ref cL) = some true) (kD : PySem.W.kitOne K (.ref D) (.ref cL) = some true)
    (rel : PySem.W.notFirst K C (.ref D) = true ∨ (PySem.W.subIn K (.ref D) (.ref C) = some true ∧ C ≠ D)) (la : LogAt C H a sz ns es) (lb : LogAt D H b sz2 ns2 es2) (ok : EntsOk ns es) (nm : ∀ z ∈ ns, nameB z = true) (ok2 : EntsOk ns2 es2) (nm2 : ∀ z ∈ ns2, nameB z = true)
    (q : Q (.bl (g (eqLog kd sz ns es kd2 sz2 ns2 es2))) H) : mOwn P w K mg base 1 g (.ref a) (.ref b) H Q := by
  have la' := la
  have lb' := lb
  obtain ⟨dx, ls, le, vs, h1, h2, h3, h4⟩ := la'
  obtain ⟨dy, ls2, le2, vs2, k1, k2, k3, k4⟩ := lb'
  refine ⟨a, C, dx, _, _, rfl, h1, EC, ?_⟩
  rcases rel with nf | ⟨sub, ne⟩
  · refine .inl ⟨_, LD.ty _ _ _ _ k1, nf, a, _, sz, ns, es, rfl, la, ok, nm, .inl ⟨D, kd2, b, sz2, ns2, es2, rfl, LD, kD, lb, ok2, nm2, ?_⟩⟩
    rw [eqLog_is]
    exact q
  · refine .inr ⟨b, D, dy, _, _, rfl, k1, ED, sub, ne, b, _, sz2, ns2, es2, rfl, lb, ok2, nm2, .inl ⟨C, kd, a, sz, ns, es, rfl, LC, kC, la, ok, nm, ?_⟩⟩
    rw [eqLog_is, eqLog_symm]
    exact q
/-- a log == or != a thing of another kind -/
theorem own_odd {y : V} {t : Value} (EC : EqF P w K mg base 1 C (spEqA K cL C kd)) (la : LogAt C H a sz ns es) (ok : EntsOk ns es) (nm : ∀ z ∈ ns, nameB z = true) (ty : TyX K H y t) (nf : PySem.W.notFirst K C t = true) (kt : PySem.W.kitOne K t (.ref cL) = some false)
    (q : Q (.bl (g false)) H) : mOwn P w K mg base 1 g (.ref a) y H Q := by
  have la' := la
  obtain ⟨dx, ls, le, vs, h1, h2, h3, h4⟩ := la'
  exact ⟨a, C, dx, _, _, rfl, h1, EC, .inl ⟨_, ty, nf, a, _, sz, ns, es, rfl, la, ok, nm, .inr ⟨t, ty, kt, q⟩⟩⟩
theorem nf_same : PySem.W.notFirst K C (.ref C) = true := by
  unfold PySem.W.notFirst
  simp
end
section
variable {p a l o x1 C D q b : Addr} {sz sz2 : Int} {ns ns2 : List Str} {es es2 : List (Str × Int)} {xs zs rest : List V} {H H' : Hp}
/-- o is a list that begins with an instance -/
def ObjL (H : Hp) (o : Addr) : Prop := ∃ x1 rest C dx fs, H o = some (.lst (.ref x1 :: rest)) ∧ H x1 = some (.ins C dx fs)
theorem ObjL.strs (h : ObjL H o) (ha : H a = some (.lst (ns.map V.str))) : a ≠ o := by
  obtain ⟨x1, rest, C, dx, fs, h1, h2⟩ := h
  intro e
  rw [e, h1] at ha
  cases ns with
  | nil => cases ha
  | cons z t => cases ha
theorem ObjL.ents (h : ObjL H o) (hl : H l = some (.lst xs)) (el : EntL H es xs) : l ≠ o := by
  obtain ⟨x1, rest, C, dx, fs, h1, h2⟩ := h
  intro e
  rw [e, h1] at hl
  cases hl
  cases el with
  | cons r q => obtain ⟨t, e, h⟩ := r; cases e; rw [h2] at h; cases h
theorem ObjL.feed (h : ObjL H o) (hf : FeedAt H p) : p ≠ o := by
  obtain ⟨x1, rest, C, dx, fs, h1, h2⟩ := h
  obtain ⟨u, hu, x, y, z, rfl, _⟩ := hf
  intro e
  rw [e, h1] at hu
  cases hu
theorem ObjL.tup (h : ObjL H o) : TupSt H (upd H o (.lst zs)) := by
  obtain ⟨x1, rest, C, dx, fs, h1, h2⟩ := h
  exact TupSt.upd h1 (fun _ z => nomatch z)
theorem LogAt.updO (g : LogAt C H q sz ns es) (h : ObjL H o) : LogAt C (upd H o (.lst zs)) q sz ns es := by
  obtain ⟨dx, ls, le, vs, h1, h2, h3, h4⟩ := g
  refine ⟨dx, ls, le, vs, ?_, ?_, ?_, h4.st h.tup⟩
  · have h' := h
    obtain ⟨x1, rest, C2, dx2, fs, k1, k2⟩ := h'
    rw [upd_ne (ne_of h1 k1 (fun z => nomatch z))]; exact h1
  · rw [upd_ne (h.strs h2)]; exact h2
  · rw [upd_ne (h.ents h3 h4)]; exact h3
theorem CS.updO (g : CS p a l ns es xs H) (h : ObjL H o) : CS p a l ns es xs (upd H o (.lst zs)) := by
  refine ⟨?_, by rw [upd_ne (h.strs g.crew)]; exact g.crew, by rw [upd_ne (h.ents g.shown g.ents)]; exact g.shown, g.ents.st h.tup⟩
  obtain ⟨u, hu, fu⟩ := g.feed
  exact ⟨u, by rw [upd_ne (h.feed g.feed)]; exact hu, fu⟩
theorem ObjL.ext (h : ObjL H o) (x : Ext H H') : ObjL H' o := by
  obtain ⟨x1, rest, C, dx, fs, h1, h2⟩ := h
  exact ⟨x1, rest, C, dx, fs, x _ _ h1, x _ _ h2⟩
/-- what stands while the comparing is judged -/
structure BS (C p a l b : Addr) (sz : Int) (ns : List Str) (es : List (Str × Int)) (xs : List V) (H : Hp) : Prop where
  cs : CS p a l ns es xs H
  book : LogAt C H b sz ns es
theorem BS.frm (r : BS C p a l b sz ns es xs H) (f : Frm [p] H H') (hf : FeedAt H' p) : BS C p a l b sz ns es xs H' := ⟨r.cs.frm f hf, r.book.frm r.cs.feed f⟩
theorem BS.ext (r : BS C p a l b sz ns es xs H) (x : Ext H H') : BS C p a l b sz ns es xs H' := ⟨r.cs.ext x, r.book.mono x⟩
theorem BS.updO (r : BS C p a l b sz ns es xs H) (h : ObjL H o) : BS C p a l b sz ns es xs (upd H o (.lst zs)) := ⟨r.cs.updO h, r.book.updO h⟩
end
end NB

set_option Elab.async false
set_option linter.all false
set_option maxRecDepth 100000
set_option maxHeartbeats 8000000
/-! K5c (k02): what a log is said to be; what is refused -/
namespace NB
open PySem PySem.Spec L2
open PyProof.Rows (envOfC)
open C8 (pe_c pe_mk pe_mt pe_mt0 pe_gc fnScope fnBody fnArgs fnScope_by Cal Met Mak)
def gF {α : Type} (us ws : List α) : List α := us ++ ws
def gN {α : Type} (us ws : List α) : List α := match us, ws with
  | [s], [n, z] => [s, z, n]
  | _, _ => []
section
variable {P : Program} {w : World} {K : PySem.W.Frag} {mg : Str → Option Value} {base : Heap} {cL cX C : Addr} {kd : Str} {A0 : Ads}
theorem kb_front {f : Addr} {fd : FuncData} (D : Mx K "front" "Log.front" s_Log_front ["self", "count"] f fd) (df : fd.defaults = .none) : KBn K fd ["self", "count"] 1 ["count"] gF gF := by
  obtain ⟨oc, od, dV, kV, doc, pm, an, cdv, ct, osl, rfl, lk, hcd⟩ := D.fn.ex
  have e : dV = .none := df
  subst e
  refine ⟨fun s us ws X l1 l2 => ?_, fun r1 r2 => r1.append r2⟩
  match us, ws, l1, l2 with
  | [s], [e], _, _ => exact .of_eq rfl
theorem kb_ns {f : Addr} {fd : FuncData} (D : Mx K "with_entry" "Log.with_entry" s_Log_with_entry ["self", "server", "number"] f fd) (df : fd.defaults = .none) : KBn K fd ["self", "server", "number"] 1 ["number", "server"] gN gN := by
  obtain ⟨oc, od, dV, kV, doc, pm, an, cdv, ct, osl, rfl, lk, hcd⟩ := D.fn.ex
  have e : dV = .none := df
  subst e
  refine ⟨fun s us ws X l1 l2 => ?_, fun r1 r2 => ?_⟩
  · match us, ws, l1, l2 with
    | [s], [n, z], _, _ => exact .of_eq rfl
  · cases r1 with
    | nil => exact .nil
    | cons a1 r1 =>
      cases r1 with
      | cons _ _ => exact .nil
      | nil =>
        cases r2 with
        | nil => exact .nil
        | cons b1 r2 =>
          cases r2 with
          | nil => exact .nil
          | cons b2 r2 =>
            cases r2 with
            | cons _ _ => exact .nil
            | nil => exact .cons a1 (.cons b2 (.cons b1 .nil))
def LK (cL cX C : Addr) (kd : Str) : Prop := (C = cL ∧ kd = "steady") ∨ (C = cX ∧ kd = "losing")
theorem LK.kdC {D : Addr} {k2 : Str} (h : LK cL cX D k2) : kdC cL cX k2 = D := by
  rcases h with ⟨rfl, rfl⟩ | ⟨rfl, rfl⟩
  · exact if_neg (by decide +kernel)
  · exact if_pos rfl
theorem Sm.fits' {W n : Nat} {d : PyData} (h : Sm W n d) (hW : W ≤ 250000) : d.shown.length ≤ sizeLine := by
  have h1 := PyData.shown_le 61 (by decide) d (PyData.leavesShort_of_canLay0 61 d h.lay h.ish)
  have h2 : (61 + 2) * d.weight ≤ 63 * 250000 := Nat.mul_le_mul (by decide) (Nat.le_trans h.wt hW)
  rw [sizeLine_eq]
  omega
/-- what a log is said to be -/
def encA (kd : Str) (sz : Int) (ns : List Str) (es : List (Str × Int)) : PyData := .list [.str kd, .int sz, encS ns, encL es, .int (es.length : Nat)]
def spAre (cL cX : Addr) : Sp := fun vs H Q _ => ∃ q kd sz a ns l es xs, vs = [.ref q, .str kd, .int sz, .ref a, .ref l] ∧ (∃ C, LK cL cX C kd ∧ LogAt C H q sz ns es) ∧ H a = some (.lst (ns.map V.str)) ∧ H l = some (.lst xs) ∧ EntL H es xs ∧ SizeOk sz ∧ CrewOk ns ∧ EntsOk ns es ∧
  (∀ e ∈ es, e.2 < 10 ^ 60) ∧ ∀ H', Ext H H' → Q (.bl true) H'
theorem are_body (T : Tx K mg cL cX) (M : LogM K cL cX C kd A0) (Ms : Ms K A0) (hC : LK cL cX C kd)
    (F_size : FnOk P w K mg base C8.CX0 1 A0.fZ A0.dZ ["self"] (spSize C)) (F_servers : FnOk P w K mg base C8.CX0 1 A0.fV A0.dV ["self"] (spServers C)) (F_entries : FnOk P w K mg base C8.CX0 1 A0.fE A0.dE ["self"] (spEntr C))
    (F_len : FnOk P w K mg base C8.CX0 1 A0.fN A0.dN ["self"] (spLen C))
    (f : Addr) (cdv : Value) (A : Around) (o : List Env) (s : Shared) (H : Hp) (Q : VK) (E : XK) (hr : Room 2 (A.deeper (envOfC "_law_are" (fnScope s__law_are) s.heap.objs.size f cdv))) (hgd : A.guards = some [])
    {q a l : Addr} {sz : Int} {ns : List Str} {es : List (Str × Int)} {xs : List V} (lg : LogAt C H q sz ns es) (ha : H a = some (.lst (ns.map V.str))) (hl : H l = some (.lst xs)) (el : EntL H es xs) (so : SizeOk sz) (cr : CrewOk ns) (ok : EntsOk ns es) (big : ∀ e ∈ es, e.2 < 10 ^ 60)
    (k : ∀ H', Ext H H' → Q (.bl true) H') :
    ∃ t, PSs (cxOf C8.CX0 P w K mg base ["book", "kind", "unit", "crew", "shown", "told"] "_law_are" (fnScope s__law_are) f cdv A o s H E).nox (fnBody s__law_are) t ∧ t { nx := fun _ H' => Q .non H', rt := Q } (start ["book", "kind", "unit", "crew", "shown", "told"] [.ref q, .str kd, .int sz, .ref a, .ref l]) H := by
  obtain ⟨pZ', pZ⟩ := M.pZ
  obtain ⟨pV', pV⟩ := M.pV
  obtain ⟨pE', pE⟩ := M.pE
  have kdn : nameB kd = true := by rcases hC with ⟨_, rfl⟩ | ⟨_, rfl⟩ <;> decide +kernel
  have lq := lg
  obtain ⟨dx, ls, le, ws, hq, hq2, hq3, hq4⟩ := lq
  obtain ⟨u, con⟩ := M.kd
  refine ⟨_, (pss_cons (ps_set (i := 5) sc__law_are.nd rfl (Or.inl rfl) (pe_lst (pa_cons (pe_con (mv 0) rfl) (pa_cons (pe_prop (mv 0) M.cl pZ F_size (hr.mono (by decide)) Ms.mZ.b .nil ps0 rfl) (pa_cons (pe_prop (mv 0) M.cl pV F_servers (hr.mono (by decide)) Ms.mV.b .nil ps0 rfl) (pa_cons (pe_prop (mv 0) M.cl pE F_entries (hr.mono (by decide)) Ms.mE.b .nil ps0 rfl) (pa_cons (pe_callB (own_len F_len M.sN M.iN Ms.mN.b (hr.mono (by decide)) ps0) (by rfl) T.n_len (by decide +kernel) (pa_cons (mv 0) pa_nil)) pa_nil)))))))
    (pss_cons (ps_if (qt m_ne (pe_callB call_isi (by rfl) T.n_isinstance (by decide +kernel) (pa_cons (mv 0) (pa_cons (pe_gc rfl T.g_LosingLog) pa_nil))) (pe_cmpR m_eq (mv 1) pe_str (nomark _)) (nomark _)) (pss_one (ps_ret pe_bl)) pss_nil)
    (pss_one (ps_ret (pe_cmpR m_eq (pe_callB (call_rep hr.units (gd_deeper hgd)) (by rfl) T.n_repr (by decide +kernel) (pa_cons (mv 5) pa_nil)) (pe_callB (call_rep hr.units (gd_deeper hgd)) (by rfl) T.n_repr (by decide +kernel) (pa_cons (pe_lst (pa_cons (mv 1) (pa_cons (mv 2) (pa_cons (mv 3) (pa_cons (mv 4) (pa_cons (pe_callB call_len (by rfl) T.n_len (by decide +kernel) (pa_cons (mv 4) pa_nil)) pa_nil)))))) pa_nil)) (nomark _)))))), ?_⟩
  refine ⟨q, C, dx, _, _, _, rfl, hq, M.cl, con, kd_no _ _ _, q, dx, _, rfl, hq, ⟨q, sz, ns, es, rfl, lg, ?_⟩⟩
  refine ⟨q, dx, _, rfl, hq, ⟨q, sz, ns, es, rfl, lg, fun l1 hl1 => ?_⟩⟩
  have z1 := Ext.upd (o := .lst (ns.map V.str)) hl1
  have c1 : (upd H l1 (.lst (ns.map V.str))) l1 = some (.lst (ns.map V.str)) := upd_same
  generalize upd H l1 (.lst (ns.map V.str)) = G1 at z1 c1 ⊢
  refine ⟨q, dx, _, rfl, z1 _ _ hq, ⟨q, sz, ns, es, rfl, lg.mono z1, fun l2 ys hl2 el2 => ?_⟩⟩
  have w2 := Ext.upd (o := .lst ys) hl2
  have z2 := z1.trans w2
  have c2 : (upd G1 l2 (.lst ys)) l2 = some (.lst ys) := upd_same
  have c1' := w2 _ _ c1
  have el3 := el2.mono w2
  generalize upd G1 l2 (.lst ys) = G2 at z2 c2 c1' el3 ⊢
  refine ⟨q, dx, _, rfl, z2 _ _ hq, q, sz, ns, es, rfl, lg.mono z2, es.length, rfl, Nat.le_trans ok.few (by decide), ?_⟩
  refine ⟨(by show 5 ≤ sizeLine; decide), fun t1 ht1 => ?_⟩
  have w3 := Ext.upd (o := .lst [.str kd, .int sz, .ref l1, .ref l2, .int (es.length : Nat)]) ht1
  have z3 := z2.trans w3
  have c3 : (upd G2 t1 (.lst [.str kd, .int sz, .ref l1, .ref l2, .int (es.length : Nat)])) t1 = some (.lst [.str kd, .int sz, .ref l1, .ref l2, .int (es.length : Nat)]) := upd_same
  have d3 : Dp K (upd G2 t1 (.lst [.str kd, .int sz, .ref l1, .ref l2, .int (es.length : Nat)])) (.ref t1) (encA kd sz ns es) := .lst (SqL.of c3) (.cons (.str _) (.cons (.int _) (.cons (dp_S (SqL.of (w3 _ _ c1'))) (.cons (dp_L (SqL.of (w3 _ _ c2)) (el3.mono w3)) (.cons (.int _) .nil)))))
  generalize upd G2 t1 (.lst [.str kd, .int sz, .ref l1, .ref l2, .int (es.length : Nat)]) = G3 at z3 d3 ⊢
  refine ⟨_, _, _, _, _, rfl, .own _, M.ty _ _ _ _ (z3 _ _ hq), M.kx, ?_⟩
  dsimp only [mEqG, kB]
  refine ifF (by simp) ?_
  have few := ok.few
  have sm : Sm 211005 3 (encA kd sz ns es) := by
    refine (Sm.list (ds := [.str kd, .int sz, encS ns, encL es, .int (es.length : Nat)]) (W := 42200) (n := 2) (m := 5) (fun d hd => ?_) (Nat.le_refl 5)).mono (by decide) (by decide)
    simp only [List.mem_cons, List.not_mem_nil, or_false] at hd
    rcases hd with rfl | rfl | rfl | rfl | rfl
    · exact (Sm.name kdn).mono (by decide) (by decide)
    · exact (Sm.int (by have := so.1; have := so.2; omega)).mono (by decide) (by decide)
    · exact (Sm.names cr.nam cr.few).mono (by decide) (by decide)
    · exact (Sm.ents (fun e he => ⟨cr.nam _ (ok.ok e he).1, (ok.ok e he).2, big e he⟩) ok.few)
    · exact (Sm.int (by omega)).mono (by decide) (by decide)
  refine ⟨_, _, rfl, d3, rfl, sm.sho, sm.nod, Nat.le_trans sm.dep (by decide), sm.fits' (by decide), ?_⟩
  refine ⟨_, _, rfl, .inl ⟨_, SqL.of (z3 _ _ hl), rfl⟩, ?_⟩
  refine ⟨(by show 5 ≤ sizeLine; decide), fun t2 ht2 => ?_⟩
  rw [← el.len]
  have w4 := Ext.upd (o := .lst [.str kd, .int sz, .ref a, .ref l, .int (es.length : Nat)]) ht2
  have z4 := z3.trans w4
  have c4 : (upd G3 t2 (.lst [.str kd, .int sz, .ref a, .ref l, .int (es.length : Nat)])) t2 = some (.lst [.str kd, .int sz, .ref a, .ref l, .int (es.length : Nat)]) := upd_same
  have d4 : Dp K (upd G3 t2 (.lst [.str kd, .int sz, .ref a, .ref l, .int (es.length : Nat)])) (.ref t2) (encA kd sz ns es) := .lst (SqL.of c4) (.cons (.str _) (.cons (.int _) (.cons (dp_S (SqL.of (z4 _ _ ha))) (.cons (dp_L (SqL.of (z4 _ _ hl)) (el.mono z4)) (.cons (.int _) .nil)))))
  generalize upd G3 t2 (.lst [.str kd, .int sz, .ref a, .ref l, .int (es.length : Nat)]) = G4 at z4 d4 ⊢
  refine ⟨_, _, rfl, d4, rfl, sm.sho, sm.nod, Nat.le_trans sm.dep (by decide), sm.fits' (by decide), ?_⟩
  dsimp only [mEqG, kB]
  rw [decide_eq_true rfl]
  exact k _ z4
/-- what is refused: the reading of the try -/
def tbC (K : PySem.W.Frag) (cI C : Addr) : WX → TS := fun W => tSeq (tIfS (mT (tOp (fun x y H Q => y = .non ∧ Q (.bl (decide (x = .non))) H) (mV 2) (tC .non)))
    (tRet (tOp (fun x y H Q => y = .non ∧ Q (.bl (decide (x = .non))) H) (tOp (fun x y H Q => ∃ a b dx dy fs gs, x = .ref a ∧ y = .ref b ∧ H a = some (.ins C dx fs) ∧ H b = some (.ins C dy gs) ∧ spAdd cI C [.ref a, .ref b] H (fun v H' => (∃ q, v = .ref q) ∧ Q v H') (fun c d H => ∀ σ, W c d σ H)) (mV 0) (mV 1)) (tC .non))) tNext)
  (tRet (tOp (fun x y H Q => y = .non ∧ Q (.bl (decide (x = .non))) H) (tMeth C "with_entry" (spWith cI C) [] (fun c d H => ∀ σ, W c d σ H) (mV 0) (tCons (tOp (mIx K) (mV 2) (tC (.int 0))) (tCons (tOp (mIx K) (mV 2) (tC (.int 1))) tNil))) (tC .non)))
def spCaught (cL cX : Addr) : Sp := fun vs H Q _ => ∃ C kd, LK cL cX C kd ∧
  ((∃ p q sz ns es es2, vs = [.ref p, .ref q, .non] ∧ LogAt C H p sz ns es ∧ LogAt C H q sz ns es2 ∧ SizeOk sz ∧ CrewOk ns ∧ EntsOk ns es ∧ EntsOk ns es2 ∧ 200 < es.length + es2.length ∧ ∀ H', Ext H H' → Q (.bl true) H') ∨
    ∃ p t z i sz ns es, vs = [.ref p, .non, .ref t] ∧ H t = some (.tup [.str z, .int i]) ∧ LogAt C H p sz ns es ∧ SizeOk sz ∧ CrewOk ns ∧ EntsOk ns es ∧ z ∈ ns ∧ 0 ≤ i ∧ es.length = 200 ∧ ∀ H', Ext H H' → Q (.bl true) H')
theorem exm_self {K : PySem.W.Frag} {c : Addr} (b : PySem.W.subIn K (.ref c) (.type "BaseException") = some true) (i : PySem.W.isClsIn K c = true) (t : PySem.W.typeIn K (.ref c) = some (.type "type")) (s : PySem.W.subIn K (.ref c) (.ref c) = some true) : PySem.W.exmOne K (.ref c) (.ref c) = some true := by
  unfold PySem.W.exmOne PySem.W.kitCls
  unfold PySem.W.isClsIn at i
  simp only [b, i, t, s, Bool.true_and, beq_self_eq_true, if_true]
theorem ok_caught (T : Tx K mg cL cX) (Ms : Ms K A0) (D : Dx K mg "_law_caught" s__law_caught ["book", "other", "entry"]) {cI : Addr} (T2 : ErrC K mg "InvalidLog" cI) (hM : ∀ {C : Addr} {kd : Str}, LK cL cX C kd → LogM K cL cX C kd A0)
    (F_addC : ∀ {C : Addr} {kd : Str}, LK cL cX C kd → FnOk P w K mg base (L2.CX P w) 7 A0.fA A0.dA ["self", "other"] (spAdd cI C)) (F_withC : ∀ {C : Addr} {kd : Str}, LK cL cX C kd → FnOk P w K mg base (L2.CX P w) 7 A0.fW A0.dW ["self", "server", "number"] (spWith cI C)) :
    Cal P w K mg base 8 "_law_caught" (spCaught cL cX) [] := by
  refine cal_of D sc__law_caught (fun vs H Q E h => ?_) (fun f cdv A o s H vs Q E hr h => ?_)
  · obtain ⟨C, kd, _, h | h⟩ := h
    · obtain ⟨p, q, sz, ns, es, es2, rfl, _⟩ := h; rfl
    · obtain ⟨p, t, z, i, sz, ns, es, rfl, _⟩ := h; rfl
  · obtain ⟨C, kd, hC, h⟩ := h
    have M := hM hC
    have F_add := F_addC hC
    have F_with := F_withC hC
    have eX : PySem.W.exmOne K (.ref cI) (.ref cI) = some true := exm_self T2.b T2.i T2.t T2.s
    refine ⟨_, (pss_one (ps_try_only (tb := tbC K cI C) (ts := fun _ _ _ => tRet (tC (.bl true))) (Wout := fun _ _ _ _ => False) rfl rfl ⟨rfl, by decide, .inl T2.g⟩ takes0 (fun W pn xe tk _ => (pss_cons (ps_if (qt op_isN (mv 2) pe_non (nomark _)) (pss_one (ps_ret (pe_cmpR op_isN (pe_op (own_add F_add M.sA M.iA M.sf Ms.mA.b (hr.mono (by decide)) (passW tk)) (mv 0) (mv 1)) pe_non (nomark _)))) pss_nil)
    (pss_one (ps_ret (pe_cmpR op_isN (pe_meth (mv 0) M.cl M.mW F_with (hr.mono (by decide)) Ms.mW.b .nil (passW tk) (pa_cons (pe_ix m_ix (mv 2) pe_int (fun _ _ => rfl)) (pa_cons (pe_ix m_ix (mv 2) pe_int (fun _ _ => rfl)) pa_nil))) pe_non (nomark _)))))) (fun a oe cls d pn _ _ => (pss_one (ps_ret pe_bl))))), ?_⟩
    rcases h with ⟨p, q, sz, ns, es, es2, rfl, lg, lg2, so, cr, ok, ok2, big, k⟩ | ⟨p, t, z, i, sz, ns, es, rfl, ht, lg, so, cr, ok, hz, i0, full, k⟩
    · have l1 := lg
      have l2 := lg2
      obtain ⟨dx, ls, le, xs, hp, _⟩ := l1
      obtain ⟨dy, ls2, le2, xs2, hp2, _⟩ := l2
      refine ⟨rfl, ifT (by rfl) ?_⟩
      refine ⟨p, q, dx, dy, _, _, rfl, rfl, hp, hp2, p, q, sz, ns, es, es2, rfl, lg, lg2, so, cr, ok, ok2, fun h => absurd h (by omega), fun _ H' x σ => ?_⟩
      exact ⟨true, eX, fun _ a ha => k H' x, fun z => nomatch z⟩
    · have l1 := lg
      obtain ⟨dx, ls, le, xs, hp, _⟩ := l1
      refine ⟨rfl, ifF (by rfl) ?_⟩
      refine ⟨p, dx, _, rfl, hp, lf_no _ _ _ (by decide +kernel) (by decide +kernel) (by decide +kernel), ?_⟩
      refine ⟨_, _, .inr (SqT.of ht), atI_nat (j := 0) rfl, _, _, .inr (SqT.of ht), atI_nat (j := 1) rfl, ?_⟩
      refine ⟨p, z, i, sz, ns, es, rfl, lg, so, cr, ok, hz, i0, fun h => absurd h (by omega), fun _ σ => ?_⟩
      exact ⟨true, eX, fun _ a ha => k H (fun _ _ e => e), fun z => nomatch z⟩
end
end NB

set_option Elab.async false
set_option linter.all false
set_option maxRecDepth 100000
set_option maxHeartbeats 8000000
/-! K5 (k02): the judging of logs joined and cut -/
namespace NB
open PySem PySem.Spec L2
open PyProof.Rows (envOfC)
open C8 (pe_c pe_mk pe_mt pe_mt0 pe_gc fnScope fnBody fnArgs fnScope_by Cal Met Mak)
theorem cut_mid {xs : List V} {a b : Int} (h0 : 0 ≤ a) (h1 : a ≤ b) (h2 : a ≤ (xs.length : Int)) : cutV xs (some a) (some b) = (xs.drop a.toNat).take (min b.toNat xs.length - a.toNat) := by
  unfold cutV
  have ha : ¬ a < 0 := by omega
  have hb : ¬ b < 0 := by omega
  simp only [HT.sIx, if_neg ha, if_neg hb]
  have e : min a.toNat xs.length = a.toNat := Nat.min_eq_left (by omega)
  rw [e]
theorem EntsOk.take {ns : List Str} {es : List (Str × Int)} (ok : EntsOk ns es) (n : Nat) : EntsOk ns (es.take n) := ⟨by have := ok.few; rw [List.length_take]; omega, fun e he => ok.ok e (List.mem_of_mem_take he)⟩
theorem EntsOk.drop {ns : List Str} {es : List (Str × Int)} (ok : EntsOk ns es) (n : Nat) : EntsOk ns (es.drop n) := ⟨by have := ok.few; rw [List.length_drop]; omega, fun e he => ok.ok e (List.mem_of_mem_drop he)⟩
section
variable {P : Program} {w : World} {K : PySem.W.Frag} {mg : Str → Option Value} {base : Heap} {cL cX C : Addr} {kd : Str} {A0 : Ads}
abbrev NR : List Str := ["feed", "kind", "unit", "crew", "shown", "cut", "book", "rest", "whole", "many", "told", "step", "name", "figure", "later"]
/-- the state of the judging: slots 0 to 7 -/
abbrev s7 (p a l b r : Addr) (kd : Str) (sz cut : Int) (rest : List (Option V)) : L2.St := some (.ref p) :: some (.str kd) :: some (.int sz) :: some (.ref a) :: some (.ref l) :: some (.int cut) :: some (.ref b) :: some (.ref r) :: rest
theorem right_body (T : Tx K mg cL cX) (M : LogM K cL cX C kd A0) (Ms : Ms K A0) (hC : LK cL cX C kd) (n_sorted : mg "sorted" = none) (EF : EqF P w K mg base 1 C (spEqA K cL C kd)) {cI : Addr}
    (F_len : FnOk P w K mg base C8.CX0 1 A0.fN A0.dN ["self"] (spLen C)) (F_front : FnOk P w K mg base C8.CX0 7 A0.fF A0.dF ["self", "count"] (spFront C))
    (F_with : FnOk P w K mg base (L2.CX P w) 7 A0.fW A0.dW ["self", "server", "number"] (spWith cI C)) (F_add : FnOk P w K mg base (L2.CX P w) 7 A0.fA A0.dA ["self", "other"] (spAdd cI C))
    (c__law_made : Cal P w K mg base 6 "_law_made" (spMade cL cX) []) (c__law_pick : Cal P w K mg base 1 "_law_pick" spPick []) (c__law_are : CalG P w K mg base 3 "_law_are" (spAre cL cX))
    (f : Addr) (cdv : Value) (A : Around) (o : List Env) (s : Shared) (H : Hp) (Q : VK) (E : XK) (hr : Room 7 (A.deeper (envOfC "_law_right" (fnScope s__law_right) s.heap.objs.size f cdv))) (hgd : A.guards = some [])
    {p a l : Addr} {sz : Int} {ns : List Str} {es : List (Str × Int)} {xs : List V} (hcs : CS p a l ns es xs H) (so : SizeOk sz) (cr : CrewOk ns) (ok : EntsOk ns es) (big : ∀ e ∈ es, e.2 < 10 ^ 60)
    (k : ∀ H', FeedAt H' p → Frm [p] H H' → Q (.bl true) H') :
    ∃ t, PSs (cxOf C8.CX0 P w K mg base NR "_law_right" (fnScope s__law_right) f cdv A o s H E).nox (fnBody s__law_right) t ∧ t { nx := fun _ H' => Q .non H', rt := Q } (start NR [.ref p, .str kd, .int sz, .ref a, .ref l]) H := by
  have few := ok.few
  have hx200 : xs.length ≤ 200 := by rw [← hcs.ents.len]; exact ok.few
  have hlen := hcs.ents.len
  have hr1 : Room 1 (A.deeper (envOfC "_law_right" (fnScope s__law_right) s.heap.objs.size f cdv)) := hr.mono (by decide)
  have hr2 : Room 2 (A.deeper (envOfC "_law_right" (fnScope s__law_right) s.heap.objs.size f cdv)) := hr.mono (by decide)
  have hu2 := u2 hr
  have cmp : ∀ {es1 es2 : List (Str × Int)} {H1 : Hp} {b q : Addr} {g : Bool → Bool} {Q1 : VK}, LogAt C H1 b sz ns es1 → LogAt C H1 q sz ns es2 → EntsOk ns es1 → EntsOk ns es2 → es1 = es2 →
      Q1 (.bl (g true)) H1 → mOwn P w K mg base 1 g (.ref b) (.ref q) H1 Q1 := fun la lb ok1 ok2 e q =>
    own_logs M.toLogC M.toLogC EF EF M.kl M.kl (.inl nf_same) la lb ok1 cr.nam ok2 cr.nam (by rw [e, eqLog_self]; exact q)
  have at_ : ∀ {es1 : List (Str × Int)} {H1 : Hp} {b : Addr}, LogAt C H1 b sz ns es1 → ∃ dx fs, H1 b = some (.ins C dx fs) ∧ fs.lookup ("front" : Str) = none ∧ fs.lookup ("with_entry" : Str) = none := fun ⟨dx, ls, le, vs, h, _⟩ =>
    ⟨dx, _, h, lf_no _ _ _ (by decide +kernel) (by decide +kernel) (by decide +kernel), lf_no _ _ _ (by decide +kernel) (by decide +kernel) (by decide +kernel)⟩
  refine ⟨_, (pss_cons (ps_set (i := 5) sc__law_right.nd rfl (Or.inl rfl) (pe_c c__law_pick hr (by decide) rfl (pa_cons (mv 0) (pa_cons (pe_op m_add (pe_callB call_len (by rfl) T.n_len (by decide +kernel) (pa_cons (mv 4) pa_nil)) pe_int) pa_nil))))
    (C8.pss_cut (ps_par (i := 6) (j := 7) rfl sc__law_right.nd rfl rfl (by decide) rfl rfl (pa_cons (pe_c c__law_made hr (by decide) rfl (pa_cons (mv 1) (pa_cons (mv 2) (pa_cons (mv 3) (pa_cons (pe_slice sl_list (mv 4) po_none (po_some (mv 5))) pa_nil))))) (pa_cons (pe_c c__law_made hr (by decide) rfl (pa_cons (mv 1) (pa_cons (mv 2) (pa_cons (mv 3) (pa_cons (pe_slice sl_list (mv 4) (po_some (mv 5)) po_none) pa_nil))))) pa_nil)) (by rfl))
    (C8.pss_cut (ps_set (i := 8) sc__law_right.nd rfl (Or.inl rfl) (pe_op (own_add F_add M.sA M.iA M.sf Ms.mA.b (hr.mono (by decide)) (passL)) (mv 6) (mv 7)))
    (C8.pss_cut (ps_if (pt_not (qv (pe_g c__law_are hr (by decide) (gd_deeper hgd) rfl (pa_cons (mv 8) (pa_cons (mv 1) (pa_cons (mv 2) (pa_cons (mv 3) (pa_cons (mv 4) pa_nil)))))))) (pss_one (ps_ret pe_bl)) pss_nil)
    (C8.pss_cut (ps_if (pt_not (qv (pe_g c__law_are hr (by decide) (gd_deeper hgd) rfl (pa_cons (pe_op (own_add F_add M.sA M.iA M.sf Ms.mA.b (hr.mono (by decide)) (passL)) (mv 7) (mv 6)) (pa_cons (mv 1) (pa_cons (mv 2) (pa_cons (mv 3) (pa_cons (pe_op op_cat (pe_slice sl_list (mv 4) (po_some (mv 5)) po_none) (pe_slice sl_list (mv 4) po_none (po_some (mv 5)))) pa_nil)))))))) (pss_one (ps_ret pe_bl)) pss_nil)
    (C8.pss_cut (ps_if (PW.pt (pw_or (pt_not (qv (pe_g c__law_are hr (by decide) (gd_deeper hgd) rfl (pa_cons (mv 6) (pa_cons (mv 1) (pa_cons (mv 2) (pa_cons (mv 3) (pa_cons (pe_slice sl_list (mv 4) po_none (po_some (mv 5))) pa_nil)))))))) (pw_or1 (pt_not (qv (pe_g c__law_are hr (by decide) (gd_deeper hgd) rfl (pa_cons (mv 7) (pa_cons (mv 1) (pa_cons (mv 2) (pa_cons (mv 3) (pa_cons (pe_slice sl_list (mv 4) (po_some (mv 5)) po_none) pa_nil))))))))))) (pss_one (ps_ret pe_bl)) pss_nil)
    (C8.pss_cut (ps_for PassesOwn.never rfl (pi_list (pe_callB (cr_sortedSet rfl) (by rfl) n_sorted (by decide +kernel) (pa_cons (pe_callTy (cr_setI rfl) (by rfl) T.n_set (by decide +kernel) (pa_cons (pe_lst (pa_cons pe_int (pa_cons (mv 5) (pa_cons (pe_callB call_len (by rfl) T.n_len (by decide +kernel) (pa_cons (mv 4) pa_nil)) pa_nil)))) pa_nil)) pa_nil))) (pg_name (i := 9) sc__law_right.nd rfl (Or.inl rfl))
    (pss_cons (ps_set (i := 10) sc__law_right.nd rfl (Or.inl rfl) (pe_lst (pa_cons (pe_meth (mv 8) M.cl M.mF F_front (hr.mono (by decide)) Ms.mF.b .nil ps0 (pa_cons (mv 9) pa_nil)) (pa_cons (pe_methK0 (mv 8) M.cl M.mF F_front (hr.mono (by decide)) (kb_front Ms.mF Ms.dfF) ps0 (pk_cons (mv 9) pk_nil)) pa_nil))))
    (pss_one (ps_if (PW.pt (pw_or (pt_not (qv (pe_g c__law_are hr (by decide) (gd_deeper hgd) rfl (pa_cons (pe_ix m_ix (mv 10) pe_int (fun _ _ => rfl)) (pa_cons (mv 1) (pa_cons (mv 2) (pa_cons (mv 3) (pa_cons (pe_slice sl_list (mv 4) po_none (po_some (mv 9))) pa_nil)))))))) (pw_or1 (qt (own_neP (P := P) (w := w) (K := K) (mg := mg) (base := base) (k := 1) rfl rfl rfl rfl rfl hu2 hr2) (pe_ix m_ix (mv 10) pe_int (fun _ _ => rfl)) (pe_ix m_ix (mv 10) pe_int (fun _ _ => rfl)) (nomark _))))) (pss_one (ps_ret pe_bl)) pss_nil))))
    (pss_cons (ps_set (i := 11) sc__law_right.nd rfl (Or.inl rfl) (mv 6))
    (C8.pss_cut (ps_for PassesOwn.never rfl (pi_list (pe_slice sl_list (mv 4) (po_some (mv 5)) (po_some (pe_op m_add (mv 5) pe_int)))) (pg_tup rfl (pgs_cons (pg_name (i := 12) sc__law_right.nd rfl (Or.inl rfl)) (pgs_cons (pg_name (i := 13) sc__law_right.nd rfl (Or.inl rfl)) pgs_nil)))
    (pss_cons (ps_set (i := 14) sc__law_right.nd rfl (Or.inl rfl) (pe_meth (mv 11) M.cl M.mW F_with (hr.mono (by decide)) Ms.mW.b .nil (passL) (pa_cons (mv 12) (pa_cons (mv 13) pa_nil))))
    (pss_cons (ps_if (PW.pt (pw_or (qt (own_neP (P := P) (w := w) (K := K) (mg := mg) (base := base) (k := 1) rfl rfl rfl rfl rfl hu2 hr2) (mv 14) (pe_methK0 (mv 11) M.cl M.mW F_with (hr.mono (by decide)) (kb_ns Ms.mW Ms.dfW) (passL) (pk_cons (mv 13) (pk_cons (mv 12) pk_nil))) (nomark _)) (pw_or1 (qt m_ne (pe_callB (own_len F_len M.sN M.iN Ms.mN.b (hr.mono (by decide)) ps0) (by rfl) T.n_len (by decide +kernel) (pa_cons (mv 14) pa_nil)) (pe_op m_add (pe_callB (own_len F_len M.sN M.iN Ms.mN.b (hr.mono (by decide)) ps0) (by rfl) T.n_len (by decide +kernel) (pa_cons (mv 11) pa_nil)) pe_int) (nomark _))))) (pss_one (ps_ret pe_bl)) pss_nil)
    (pss_cons (ps_if (qt (own_neP (P := P) (w := w) (K := K) (mg := mg) (base := base) (k := 1) rfl rfl rfl rfl rfl hu2 hr2) (pe_meth (mv 14) M.cl M.mF F_front (hr.mono (by decide)) Ms.mF.b .nil ps0 (pa_cons (pe_callB (own_len F_len M.sN M.iN Ms.mN.b (hr.mono (by decide)) ps0) (by rfl) T.n_len (by decide +kernel) (pa_cons (mv 11) pa_nil)) pa_nil)) (mv 11) (nomark _)) (pss_one (ps_ret pe_bl)) pss_nil)
    (pss_one (ps_set (i := 11) sc__law_right.nd rfl (Or.inl rfl) (mv 14)))))))
    (pss_one (ps_ret (pe_and (pe_cmpR (own_eqP (P := P) (w := w) (K := K) (mg := mg) (base := base) (k := 1) rfl rfl rfl rfl rfl hr.units0 hr1) (mv 11) (pe_meth (mv 8) M.cl M.mF F_front (hr.mono (by decide)) Ms.mF.b .nil ps0 (pa_cons (pe_callB (call_min2 rfl) (by rfl) T.n_min (by decide +kernel) (pa_cons (pe_callB call_len (by rfl) T.n_len (by decide +kernel) (pa_cons (mv 4) pa_nil)) (pa_cons (pe_op m_add (mv 5) pe_int) pa_nil))) pa_nil)) (nomark _)) (pe_and (pe_cmpR (own_eqP (P := P) (w := w) (K := K) (mg := mg) (base := base) (k := 1) rfl rfl rfl rfl rfl hr.units0 hr1) (pe_op (own_add F_add M.sA M.iA M.sf Ms.mA.b (hr.mono (by decide)) (passL)) (mv 6) (mv 7)) (mv 8) (nomark _)) (pe_one (pe_cmpR (own_eqP (P := P) (w := w) (K := K) (mg := mg) (base := base) (k := 1) rfl rfl rfl rfl rfl hr.units0 hr1) (pe_meth (mv 8) M.cl M.mF F_front (hr.mono (by decide)) Ms.mF.b .nil ps0 (pa_cons (mv 5) pa_nil)) (mv 6) (nomark _)))))))))))))))), ?_⟩
  -- cut
  refine ⟨_, _, rfl, .inl ⟨_, SqL.of hcs.shown, rfl⟩, ?_⟩
  refine ⟨p, _, rfl, hcs.feed, by omega, Int.lt_of_le_of_lt (b := 201) (by omega) (by decide +kernel), fun cut o1 c0 c1 fo => ?_⟩
  have cs1 := hcs.pick fo
  have fr1 : Frm [p] H (upd H p o1) := (Frm.refl (M := [p])).upd mem1
  generalize upd H p o1 = H1 at cs1 fr1 ⊢
  have c1' : cut.toNat ≤ es.length := by omega
  have okt := ok.take cut.toNat
  have okd := ok.drop cut.toNat
  -- book, rest
  refine ⟨fun σ H' => ∃ b r, σ = s7 p a l b r kd sz cut [none, none, none, none, none, none, none] ∧ Ext H1 H' ∧ LogAt C H' b sz ns (es.take cut.toNat) ∧ LogAt C H' r sz ns (es.drop cut.toNat), ?_, ?_⟩
  · refine ⟨_, rfl, l, xs, rfl, SqL.of cs1.shown, fun t1 ht1 => ?_⟩
    rw [cut_to c0]
    have x1 := Ext.upd (o := .lst (xs.take cut.toNat)) ht1
    have d1 : (upd H1 t1 (.lst (xs.take cut.toNat))) t1 = some (.lst (xs.take cut.toNat)) := upd_same
    generalize upd H1 t1 (.lst (xs.take cut.toNat)) = G1 at x1 d1 ⊢
    refine ⟨kd, sz, a, ns, t1, es.take cut.toNat, _, rfl, so, x1 _ _ cs1.crew, cr, d1, (cs1.ents.mono x1).take _, okt, fun G2 b nb lb x2' => ?_⟩
    rw [hC.kdC] at lb
    have x2 := x1.trans x2'
    refine ⟨_, rfl, l, xs, rfl, SqL.of (x2 _ _ cs1.shown), fun t2 ht2 => ?_⟩
    rw [cut_from c0]
    have x3' := Ext.upd (o := .lst (xs.drop cut.toNat)) ht2
    have x3 := x2.trans x3'
    have d2 : (upd G2 t2 (.lst (xs.drop cut.toNat))) t2 = some (.lst (xs.drop cut.toNat)) := upd_same
    have lb3 := lb.mono x3'
    generalize upd G2 t2 (.lst (xs.drop cut.toNat)) = G3 at x3 d2 lb3 ⊢
    refine ⟨kd, sz, a, ns, t2, es.drop cut.toNat, _, rfl, so, x3 _ _ cs1.crew, cr, d2, (cs1.ents.mono x3).drop _, okd, fun G4 r nr lr x4 => ?_⟩
    rw [hC.kdC] at lr
    exact ⟨_, _, rfl, b, r, rfl, x3.trans x4, lb3.mono x4, lr⟩
  rintro σ H2 ⟨b, r, rfl, x2, lb, lr⟩
  -- whole
  have td : es.take cut.toNat ++ es.drop cut.toNat = es := List.take_append_drop _ _
  have ltd : (es.take cut.toNat).length + (es.drop cut.toNat).length = es.length := by rw [← List.length_append, td]
  refine ⟨fun σ H' => ∃ wh, σ = s7 p a l b r kd sz cut [some (.ref wh), none, none, none, none, none, none] ∧ Ext H2 H' ∧ LogAt C H' wh sz ns es, ?_, ?_⟩
  · obtain ⟨dx, fs, hb, _⟩ := at_ lb
    obtain ⟨dy, gs, hr', _⟩ := at_ lr
    refine ⟨b, r, dx, dy, _, _, rfl, rfl, hb, hr', b, r, sz, ns, _, _, rfl, lb, lr, so, cr, okt, okd, fun _ H' q nq lg x => ⟨⟨q, rfl⟩, ?_⟩, fun h => absurd h (by omega)⟩
    rw [td] at lg
    exact ⟨q, rfl, x, lg⟩
  rintro σ H3 ⟨wh, rfl, x3', lw⟩
  have x3 := x2.trans x3'
  have cs3 := cs1.ext x3
  have lb3 := lb.mono x3'
  have lr3 := lr.mono x3'
  have fr3 := fr1.trans (Frm.ext x3)
  clear x2 lb lr x3' cs1 x3 fr1 hcs
  -- whole is as it should be
  refine ⟨fun σ H' => σ = s7 p a l b r kd sz cut [some (.ref wh), none, none, none, none, none, none] ∧ Ext H3 H', ?_, ?_⟩
  · refine ⟨wh, kd, sz, a, ns, l, es, xs, rfl, ⟨C, hC, lw⟩, cs3.crew, cs3.shown, cs3.ents, so, cr, ok, big, fun H' x => ?_⟩
    refine ifF (by rfl) ?_
    exact ⟨rfl, x⟩
  rintro σ H4 ⟨rfl, x4⟩
  -- the rest first
  refine ⟨fun σ H' => σ = s7 p a l b r kd sz cut [some (.ref wh), none, none, none, none, none, none] ∧ Ext H3 H', ?_, ?_⟩
  · have lr4 := lr3.mono x4
    have lb4 := lb3.mono x4
    obtain ⟨dx, fs, hr', _⟩ := at_ lr4
    obtain ⟨dy, gs, hb, _⟩ := at_ lb4
    refine ⟨r, b, dx, dy, _, _, rfl, rfl, hr', hb, r, b, sz, ns, _, _, rfl, lr4, lb4, so, cr, okd, okt, fun _ H5 q nq lg x5' => ⟨⟨q, rfl⟩, ?_⟩, fun h => absurd h (by omega)⟩
    have x5 := x4.trans x5'
    have cs5 := cs3.ext x5
    refine ⟨_, rfl, l, xs, rfl, SqL.of cs5.shown, fun t1 ht1 => ?_⟩
    rw [cut_from c0]
    have y1 := Ext.upd (o := .lst (xs.drop cut.toNat)) ht1
    have d1 : (upd H5 t1 (.lst (xs.drop cut.toNat))) t1 = some (.lst (xs.drop cut.toNat)) := upd_same
    generalize upd H5 t1 (.lst (xs.drop cut.toNat)) = G1 at y1 d1 ⊢
    refine ⟨_, rfl, l, xs, rfl, SqL.of (y1 _ _ cs5.shown), fun t2 ht2 => ?_⟩
    rw [cut_to c0]
    have y2' := Ext.upd (o := .lst (xs.take cut.toNat)) ht2
    have y2 := y1.trans y2'
    have d2 : (upd G1 t2 (.lst (xs.take cut.toNat))) t2 = some (.lst (xs.take cut.toNat)) := upd_same
    have d1' := y2' _ _ d1
    generalize upd G1 t2 (.lst (xs.take cut.toNat)) = G2 at y2 d2 d1' ⊢
    refine ⟨t1, t2, _, _, rfl, rfl, d1', d2, ?_, fun t3 ht3 => ?_⟩
    · rw [List.length_take, List.length_drop]
      exact Nat.le_trans (show _ ≤ 400 by omega) (by decide)
    have y3' := Ext.upd (o := .lst (xs.drop cut.toNat ++ xs.take cut.toNat)) ht3
    have y3 := y2.trans y3'
    have d3 : (upd G2 t3 (.lst (xs.drop cut.toNat ++ xs.take cut.toNat))) t3 = some (.lst (xs.drop cut.toNat ++ xs.take cut.toNat)) := upd_same
    generalize upd G2 t3 (.lst (xs.drop cut.toNat ++ xs.take cut.toNat)) = G3 at y3 d3 ⊢
    have cs6 := cs5.ext y3
    refine ⟨q, kd, sz, a, ns, t3, _, _, rfl, ⟨C, hC, lg.mono y3⟩, cs6.crew, d3, (cs6.ents.drop _).app (cs6.ents.take _), so, cr, ⟨by rw [List.length_append]; omega, fun e he => (List.mem_append.mp he).elim (okd.ok e) (okt.ok e)⟩,
      fun e he => (List.mem_append.mp he).elim (fun h => big e (List.mem_of_mem_drop h)) (fun h => big e (List.mem_of_mem_take h)), fun H' x => ?_⟩
    refine ifF (by rfl) ?_
    exact ⟨rfl, (x5.trans y3).trans x⟩
  clear x4
  rintro σ H4 ⟨rfl, x4⟩
  -- book and rest are as they were
  refine ⟨fun σ H' => σ = s7 p a l b r kd sz cut [some (.ref wh), none, none, none, none, none, none] ∧ Ext H3 H', ?_, ?_⟩
  · have cs4 := cs3.ext x4
    refine ⟨_, rfl, l, xs, rfl, SqL.of cs4.shown, fun t1 ht1 => ?_⟩
    rw [cut_to c0]
    have y1 := Ext.upd (o := .lst (xs.take cut.toNat)) ht1
    have d1 : (upd H4 t1 (.lst (xs.take cut.toNat))) t1 = some (.lst (xs.take cut.toNat)) := upd_same
    generalize upd H4 t1 (.lst (xs.take cut.toNat)) = G1 at y1 d1 ⊢
    have cs5 := cs4.ext y1
    refine ⟨b, kd, sz, a, ns, t1, _, _, rfl, ⟨C, hC, lb3.mono (x4.trans y1)⟩, cs5.crew, d1, cs5.ents.take _, so, cr, okt, fun e he => big e (List.mem_of_mem_take he), fun H5 x5 => ?_⟩
    refine ifF (by rfl) ?_
    have y15 := y1.trans x5
    have cs6 := cs4.ext y15
    refine ⟨_, rfl, l, xs, rfl, SqL.of cs6.shown, fun t2 ht2 => ?_⟩
    rw [cut_from c0]
    have y2 := Ext.upd (o := .lst (xs.drop cut.toNat)) ht2
    have d2 : (upd H5 t2 (.lst (xs.drop cut.toNat))) t2 = some (.lst (xs.drop cut.toNat)) := upd_same
    generalize upd H5 t2 (.lst (xs.drop cut.toNat)) = G2 at y2 d2 ⊢
    have cs7 := cs6.ext y2
    refine ⟨r, kd, sz, a, ns, t2, _, _, rfl, ⟨C, hC, lr3.mono (x4.trans (y15.trans y2))⟩, cs7.crew, d2, cs7.ents.drop _, so, cr, okd, fun e he => big e (List.mem_of_mem_drop he), fun H6 x6 => ?_⟩
    refine ifF (by rfl) ?_
    exact ⟨rfl, x4.trans (y15.trans (y2.trans x6))⟩
  clear x4
  rintro σ H4 ⟨rfl, x4⟩
  -- fronts
  refine ⟨fun σ H' => ∃ v9 v10, σ = s7 p a l b r kd sz cut [some (.ref wh), v9, v10, none, none, none, none] ∧ Ext H3 H', ?_, ?_⟩
  · have cs4 := cs3.ext x4
    refine ⟨_, _, rfl, .inl ⟨_, SqL.of cs4.shown, rfl⟩, ?_⟩
    refine ⟨(by show 3 ≤ sizeLine; decide), fun t1 ht1 => ?_⟩
    have y1 := Ext.upd (o := .lst [.int 0, .int cut, .int (xs.length : Nat)]) ht1
    have d1 : (upd H4 t1 (.lst [.int 0, .int cut, .int (xs.length : Nat)])) t1 = some (.lst (([0, cut, (xs.length : Nat)] : List Int).map V.int)) := upd_same
    generalize upd H4 t1 (.lst [.int 0, .int cut, .int (xs.length : Nat)]) = G1 at y1 d1 ⊢
    refine ⟨t1, [0, cut, (xs.length : Nat)], rfl, SqL.of d1, (by show 3 ≤ 1000; decide), fun sp c nsp hc => ?_⟩
    have hc3 : c ≤ 3 := hc
    generalize hG : upd G1 sp _ = G2
    have d2 : G2 sp = some (SetO w sp (fun j => decide (j ∈ ([0, cut, (xs.length : Nat)] : List Int))) c) := by rw [← hG]; exact upd_same
    have y2' : Ext G1 G2 := by rw [← hG]; exact Ext.upd nsp
    have y2 := y1.trans y2'
    clear hG
    refine ⟨sp, _, c, rfl, d2, by omega, fun ms p2 pw mem hl np2 => ?_⟩
    have y3 := y2.trans (Ext.upd (o := .lst (ms.map V.int)) np2)
    have d3 : (upd G2 p2 (.lst (ms.map V.int))) p2 = some (.lst (ms.map V.int)) := upd_same
    generalize upd G2 p2 (.lst (ms.map V.int)) = G3 at y3 d3 ⊢
    have x5 := x4.trans y3
    refine ⟨p2, rfl, ⟨_, SqL.of d3⟩, for_list (K := K) (a := p2) (xs := ms.map V.int) (fun i σ H' => ∃ v9 v10, σ = s7 p a l b r kd sz cut [some (.ref wh), v9, v10, none, none, none, none] ∧ Ext G3 H') ⟨_, _, rfl, fun _ _ z => z⟩ ?_ ?_ ?_⟩
    · rintro i σ H1 _ ⟨_, _, rfl, x⟩
      exact SqL.of (x _ _ d3)
    · rintro i y σ G4 hy ⟨v9, v10, rfl, x6⟩
      obtain ⟨m, hm, rfl⟩ := map_at hy
      have hm2 := (mem m).mp (List.mem_of_getElem? hm)
      have hm3 : 0 ≤ m ∧ m ≤ (es.length : Int) := by
        have := of_decide_eq_true hm2
        simp only [List.mem_cons, List.not_mem_nil, or_false] at this
        rcases this with rfl | rfl | rfl <;> omega
      have x7 := x5.trans x6
      have lw5 := lw.mono x7
      obtain ⟨dx, fs, hw, nf, _⟩ := at_ lw5
      refine ⟨wh, dx, _, rfl, hw, nf, ?_⟩
      refine ⟨wh, m, sz, ns, es, rfl, lw5, so, cr, ok, hm3.1, hm3.2, fun G5 q1 nq1 lg1 x8 => ?_⟩
      have lw6 := lw5.mono x8
      obtain ⟨dx, fs, hw, nf, _⟩ := at_ lw6
      refine ⟨wh, dx, _, rfl, hw, nf, rfl, ?_⟩
      refine ⟨wh, m, sz, ns, es, rfl, lw6, so, cr, ok, hm3.1, hm3.2, fun G6 q2 nq2 lg2 x9 => ?_⟩
      refine ⟨(by show 2 ≤ sizeLine; decide), fun t2 ht2 => ?_⟩
      have y4 := Ext.upd (o := .lst [.ref q1, .ref q2]) ht2
      have d4 : (upd G6 t2 (.lst [.ref q1, .ref q2])) t2 = some (.lst [.ref q1, .ref q2]) := upd_same
      have lg3 := (lg1.mono x9).mono y4
      have lg4 := lg2.mono y4
      have x10 := x6.trans (x8.trans (x9.trans y4))
      generalize upd G6 t2 (.lst [.ref q1, .ref q2]) = G7 at x10 d4 lg3 lg4 ⊢
      have cs7 := cs3.ext (x5.trans x10)
      refine ⟨_, _, .inl (SqL.of d4), atI_nat (j := 0) rfl, ?_⟩
      refine ⟨_, rfl, l, xs, rfl, SqL.of cs7.shown, fun t5 ht5 => ?_⟩
      rw [cut_to hm3.1]
      have y5 := Ext.upd (o := .lst (xs.take m.toNat)) ht5
      have d5 : (upd G7 t5 (.lst (xs.take m.toNat))) t5 = some (.lst (xs.take m.toNat)) := upd_same
      have d4' := y5 _ _ d4
      have lg5 := lg3.mono y5
      have lg6 := lg4.mono y5
      generalize upd G7 t5 (.lst (xs.take m.toNat)) = G8 at y5 d5 d4' lg5 lg6 ⊢
      have cs8 := cs7.ext y5
      refine ⟨q1, kd, sz, a, ns, t5, _, _, rfl, ⟨C, hC, lg5⟩, cs8.crew, d5, cs8.ents.take _, so, cr, ok.take _, fun e he => big e (List.mem_of_mem_take he), fun G9 x11 => ?_⟩
      refine ifF (by rfl) ?_
      refine ⟨_, _, .inl (SqL.of (x11 _ _ d4')), atI_nat (j := 0) rfl, _, _, .inl (SqL.of (x11 _ _ d4')), atI_nat (j := 1) rfl, ?_⟩
      refine cmp (lg5.mono x11) (lg6.mono x11) (ok.take _) (ok.take _) rfl ?_
      dsimp only [kB]
      refine ifF (by rfl) ?_
      exact ⟨_, _, rfl, x10.trans (y5.trans x11)⟩
    · rintro σ G4 ⟨v9, v10, rfl, x6⟩
      exact ⟨v9, v10, rfl, x5.trans x6⟩
  clear x4
  rintro σ H4 ⟨v9, v10, rfl, x4⟩
  -- step by step
  have x5 := x4
  have cs5 := cs3.ext x5
  have hcut : cut ≤ (xs.length : Int) := by omega
  have hzs := cut_mid (xs := xs) (b := cut + 8) c0 (by omega) hcut
  generalize hn : min (cut + 8).toNat xs.length - cut.toNat = n at hzs
  have hnl : cut.toNat + n ≤ es.length := by omega
  have zlen : ((xs.drop cut.toNat).take n).length = n := by rw [List.length_take, List.length_drop]; omega
  refine ⟨fun σ H' => ∃ st v12 v13 v14, σ = s7 p a l b r kd sz cut [some (.ref wh), v9, v10, some (.ref st), v12, v13, v14] ∧ Ext H3 H' ∧ LogAt C H' st sz ns (es.take (cut.toNat + n)), ?_, ?_⟩
  · refine ⟨_, rfl, _, rfl, l, xs, rfl, SqL.of cs5.shown, fun t1 ht1 => ?_⟩
    rw [hzs]
    have y1 := Ext.upd (o := .lst ((xs.drop cut.toNat).take n)) ht1
    have d1 : (upd H4 t1 (.lst ((xs.drop cut.toNat).take n))) t1 = some (.lst ((xs.drop cut.toNat).take n)) := upd_same
    generalize upd H4 t1 (.lst ((xs.drop cut.toNat).take n)) = G1 at y1 d1 ⊢
    have x6 := x5.trans y1
    have lb6 := lb3.mono x6
    refine ⟨t1, rfl, ⟨_, SqL.of d1⟩, for_list (K := K) (a := t1) (xs := (xs.drop cut.toNat).take n) (fun i σ H' => ∃ st v12 v13 v14, σ = s7 p a l b r kd sz cut [some (.ref wh), v9, v10, some (.ref st), v12, v13, v14] ∧ Ext G1 H' ∧ LogAt C H' st sz ns (es.take (cut.toNat + i)))
      ⟨b, none, none, none, rfl, fun _ _ z => z, lb6⟩ ?_ ?_ ?_⟩
    · rintro i σ H1 _ ⟨_, _, _, _, rfl, x, _⟩
      exact SqL.of (x _ _ d1)
    · rintro i y σ G2 hy ⟨st, v12, v13, v14, rfl, x7, ls⟩
      have hi : i < n := by have := (List.getElem?_eq_some_iff.mp hy).1; omega
      have hy2 : xs[cut.toNat + i]? = some y := by
        rw [List.getElem?_take, if_pos hi, List.getElem?_drop] at hy
        exact hy
      have cs7 := cs3.ext (x6.trans x7)
      obtain ⟨e, he, tp, rfl, htp⟩ := cs7.ents.at hy2
      have hci : cut.toNat + i < es.length := by omega
      have emem := List.mem_of_getElem? he
      have tk1 : es.take (cut.toNat + i) ++ [e] = es.take (cut.toNat + (i + 1)) := by
        rw [← Nat.add_assoc, List.take_add_one, he]; rfl
      have lk : (es.take (cut.toNat + i)).length = cut.toNat + i := by rw [List.length_take]; omega
      have lk1 : (es.take (cut.toNat + (i + 1))).length = cut.toNat + i + 1 := by rw [List.length_take]; omega
      obtain ⟨dx, fs, hs1, nf, nw⟩ := at_ ls
      refine ⟨tp, _, rfl, SqT.of htp, rfl, _, _, rfl, _, _, rfl, rfl, ?_⟩
      refine ⟨st, dx, _, rfl, hs1, nw, ?_⟩
      refine ⟨st, e.1, e.2, sz, ns, _, rfl, ls, so, cr, ok.take _, (ok.ok e emem).1, (ok.ok e emem).2, fun _ G3 la nla lla x8 => ?_, fun h => absurd h (by omega)⟩
      rw [tk1] at lla
      have ls2 := ls.mono x8
      obtain ⟨dx, fs, hs1, nf, nw⟩ := at_ ls2
      refine ⟨st, dx, _, rfl, hs1, nw, rfl, ?_⟩
      refine ⟨st, e.1, e.2, sz, ns, _, rfl, ls2, so, cr, ok.take _, (ok.ok e emem).1, (ok.ok e emem).2, fun _ G4 lz nlz llz x9 => ?_, fun h => absurd h (by omega)⟩
      rw [tk1] at llz
      have lla2 := lla.mono x9
      refine cmp lla2 llz (ok.take _) (ok.take _) rfl ?_
      dsimp only [kB]
      refine ifF (by rfl) ?_
      have ls3 := ls2.mono x9
      obtain ⟨dx, fs, hs1, nf, nw⟩ := at_ ls3
      obtain ⟨dy, gs, ha1, nfa, nwa⟩ := at_ lla2
      refine ⟨la, dy, _, rfl, ha1, la, sz, ns, _, rfl, lla2, _, rfl, by rw [lk1]; exact Nat.le_trans (show _ ≤ 200 by omega) (by decide), ?_⟩
      refine ⟨st, dx, _, rfl, hs1, st, sz, ns, _, rfl, ls3, _, rfl, by rw [lk]; exact Nat.le_trans (show _ ≤ 200 by omega) (by decide), ?_⟩
      dsimp only [mEqG, kB]
      rw [lk, lk1]
      refine ifF (by simp) ?_
      refine ⟨la, dy, _, rfl, ha1, nfa, ?_⟩
      refine ⟨st, dx, _, rfl, hs1, st, sz, ns, _, rfl, ls3, _, rfl, by rw [lk]; exact Nat.le_trans (show _ ≤ 200 by omega) (by decide), ?_⟩
      refine ⟨la, _, sz, ns, _, rfl, lla2, so, cr, ok.take _, by omega, by rw [lk, lk1]; omega, fun G5 lf nlf llf x10 => ?_⟩
      have tk2 : (es.take (cut.toNat + (i + 1))).take (((es.take (cut.toNat + i)).length : Nat) : Int).toNat = es.take (cut.toNat + i) := by
        rw [lk, List.take_take]
        congr 1
        omega
      rw [tk2] at llf
      have ls4 := ls3.mono x10
      refine cmp llf ls4 (ok.take _) (ok.take _) rfl ?_
      dsimp only [kB]
      refine ifF (by rfl) ?_
      exact ⟨la, _, _, _, rfl, x7.trans (x8.trans (x9.trans x10)), lla2.mono x10⟩
    · rintro σ G2 ⟨st, v12, v13, v14, rfl, x7, ls⟩
      rw [zlen] at ls
      exact ⟨st, v12, v13, v14, rfl, x6.trans x7, ls⟩
  clear x4 x5 cs5
  rintro σ H5 ⟨st, v12, v13, v14, rfl, x5, ls⟩
  -- the end
  have cs5 := cs3.ext x5
  have lw5 := lw.mono x5
  obtain ⟨dx, fs, hw, nf, nw⟩ := at_ lw5
  refine ⟨wh, dx, _, rfl, hw, nf, ?_⟩
  refine ⟨_, _, rfl, .inl ⟨_, SqL.of cs5.shown, rfl⟩, _, _, rfl, ?_⟩
  have hm : (if cut + 8 < (xs.length : Int) then cut + 8 else (xs.length : Int)) = ((cut.toNat + n : Nat) : Int) := by split <;> omega
  rw [hm]
  refine ⟨wh, _, sz, ns, es, rfl, lw5, so, cr, ok, by omega, by omega, fun H6 q1 nq1 l1 x6 => ?_⟩
  rw [Int.toNat_natCast] at l1
  refine cmp (ls.mono x6) l1 (ok.take _) (ok.take _) rfl ?_
  refine ⟨_, rfl, ifT (by rfl) ?_⟩
  have x56 := x5.trans x6
  have lb6 := lb3.mono x56
  have lr6 := lr3.mono x56
  have lw6 := lw.mono x56
  obtain ⟨dx, fs, hb, _⟩ := at_ lb6
  obtain ⟨dy, gs, hr', _⟩ := at_ lr6
  refine ⟨b, r, dx, dy, _, _, rfl, rfl, hb, hr', b, r, sz, ns, _, _, rfl, lb6, lr6, so, cr, okt, okd, fun _ H7 q nq lg x7 => ⟨⟨q, rfl⟩, ?_⟩, fun h => absurd h (by omega)⟩
  rw [td] at lg
  dsimp only [mV, s7]
  refine cmp lg (lw6.mono x7) ok ok rfl ?_
  refine ⟨_, rfl, ifT (by rfl) ?_⟩
  have lw7 := lw6.mono x7
  obtain ⟨dx, fs, hw, nf, nw⟩ := at_ lw7
  refine ⟨wh, dx, _, rfl, hw, nf, ?_⟩
  refine ⟨wh, cut, sz, ns, es, rfl, lw7, so, cr, ok, c0, by omega, fun H8 q2 nq2 l2 x8 => ?_⟩
  have x58 := x56.trans (x7.trans x8)
  refine cmp l2 (lb3.mono x58) okt okt rfl ?_
  exact k _ (cs3.feed.keep x58) (fr3.trans (Frm.ext x58))
end
end NB

set_option Elab.async false
set_option linter.all false
set_option maxRecDepth 100000
set_option maxHeartbeats 8000000
/-! K6 (k02): the law of logs joined and cut -/
namespace NB
open PySem PySem.Spec L2
open PyProof.Rows (envOfC)
open C8 (pe_c pe_mk pe_mt pe_mt0 pe_gc fnScope fnBody fnArgs fnScope_by Cal Met Mak)

/-- what the law is read over -/
structure Tops (K : PySem.W.Frag) (mg : Str → Option Value) (cL cX : Addr) (A0 : Ads) : Prop where
  T : Tx K mg cL cX
  ML : LogM K cL cX cL "steady" A0
  MX : LogM K cL cX cX "losing" A0
  Ms : Ms K A0
  mgL : mg "Log" = some (.ref cL)
  mgX : mg "LosingLog" = some (.ref cX)
  n_sorted : mg "sorted" = none
  T2 : ∃ cI, ErrC K mg "InvalidLog" cI
  d_is_integer : Dx K mg "is_integer" s_is_integer ["thing"]
  d_is_size : Dx K mg "is_size" s_is_size ["thing"]
  d_is_name : Dx K mg "is_name" s_is_name ["thing"]
  d_are_servers : Dx K mg "are_servers" s_are_servers ["thing"]
  d_is_server : Dx K mg "is_server" s_is_server ["servers", "thing"]
  d_is_entry : Dx K mg "is_entry" s_is_entry ["servers", "thing"]
  d_are_entries : Dx K mg "are_entries" s_are_entries ["servers", "thing"]
  d_need_server : Dx K mg "need_server" s_need_server ["servers", "thing"]
  d_log_of : Dx K mg "log_of" s_log_of ["kind", "size", "servers", "entries"]
  d_law_feed : Dx K mg "_law_feed" s__law_feed ["script", "k"]
  d_law_pick : Dx K mg "_law_pick" s__law_pick ["feed", "many"]
  d_law_crew : Dx K mg "_law_crew" s__law_crew ["feed", "most"]
  d_law_entries : Dx K mg "_law_entries" s__law_entries ["feed", "crew", "most", "limit"]
  d_law_made : Dx K mg "_law_made" s__law_made ["kind", "unit", "crew", "shown"]
  d_law_are : Dx K mg "_law_are" s__law_are ["book", "kind", "unit", "crew", "shown"]
  d_law_caught : Dx K mg "_law_caught" s__law_caught ["book", "other", "entry"]
  d_law_right : Dx K mg "_law_right" s__law_right ["feed", "kind", "unit", "crew", "shown"]

section
variable {P : Program} {w : World} {K : PySem.W.Frag} {mg : Str → Option Value} {base : Heap} {cL cX C : Addr} {kd : Str} {A0 : Ads}
theorem Tops.integer (S : Tops K mg cL cX A0) : Cal P w K mg base 1 "is_integer" (spInteger K) [] := ok_is_integer S.T S.d_is_integer
theorem Tops.server (S : Tops K mg cL cX A0) : Cal P w K mg base 1 "is_server" (spServer K) [] := ok_is_server S.T S.d_is_server
theorem Tops.size (S : Tops K mg cL cX A0) : Cal P w K mg base 2 "is_size" spSizeB [] := ok_is_size S.T S.d_is_size S.integer
theorem Tops.servers (S : Tops K mg cL cX A0) : Cal P w K mg base 2 "are_servers" spCrew [] := ok_are_servers S.T S.d_are_servers (ok_is_name S.T S.d_is_name)
theorem Tops.entry (S : Tops K mg cL cX A0) : Cal P w K mg base 2 "is_entry" (spEntry K) [] := ok_is_entry S.T S.d_is_entry S.server S.integer
theorem Tops.entries (S : Tops K mg cL cX A0) : Cal P w K mg base 3 "are_entries" spEntries [] := ok_are_entries S.T S.d_are_entries S.entry
theorem Tops.initL (S : Tops K mg cL cX A0) : FnOk P w K mg base C8.CX0 4 A0.fI A0.dI ["self", "size", "servers", "entries"] (spInit cL) := ok_init S.T S.ML.toLogC S.Ms.mI S.size S.servers S.entries
theorem Tops.initX (S : Tops K mg cL cX A0) : FnOk P w K mg base C8.CX0 4 A0.fI A0.dI ["self", "size", "servers", "entries"] (spInit cX) := ok_init S.T S.MX.toLogC S.Ms.mI S.size S.servers S.entries
theorem Tops.makL (S : Tops K mg cL cX A0) : Mak P w K mg base 4 "Log" cL (spInit cL) [] := ⟨_, _, _, _, S.ML.mkk, S.initL, S.mgL, S.Ms.mI.b, .nil⟩
theorem Tops.makX (S : Tops K mg cL cX A0) : Mak P w K mg base 4 "LosingLog" cX (spInit cX) [] := ⟨_, _, _, _, S.MX.mkk, S.initX, S.mgX, S.Ms.mI.b, .nil⟩
theorem Tops.made (S : Tops K mg cL cX A0) : Cal P w K mg base 6 "_law_made" (spMade cL cX) [] := ok_made S.T.toBlt S.d_law_made S.makL S.makX
theorem Tops.logof (S : Tops K mg cL cX A0) : Cal P w K mg base 6 "log_of" (spMade cL cX) [] := ok_logof S.T S.d_log_of S.makL S.makX
theorem Tops.pick (S : Tops K mg cL cX A0) : Cal P w K mg base 1 "_law_pick" spPick [] := ok_pick S.T.toBlt S.d_law_pick
theorem Tops.log (S : Tops K mg cL cX A0) {D : Addr} {k2 : Str} (h : LK cL cX D k2) : LogM K cL cX D k2 A0 := by
  rcases h with ⟨rfl, rfl⟩ | ⟨rfl, rfl⟩
  · exact S.ML
  · exact S.MX
theorem Tops.eqf (S : Tops K mg cL cX A0) {D : Addr} {k2 : Str} (h : LK cL cX D k2) : EqF P w K mg base 1 D (spEqA K cL D k2) :=
  ⟨⟨_, _, _, ok_eqA S.T (S.log h).toLogC S.Ms.mQ, (S.log h).sQ, (S.log h).iQ, S.Ms.mQ.b⟩, (S.log h).nQ, (S.log h).mo⟩
theorem Tops.with_ (S : Tops K mg cL cX A0) {cI : Addr} (T2 : ErrC K mg "InvalidLog" cI) {D : Addr} {k2 : Str} (h : LK cL cX D k2) : FnOk P w K mg base (L2.CX P w) 7 A0.fW A0.dW ["self", "server", "number"] (spWith cI D) :=
  ok_with S.T (S.log h).toLogC h.kdC S.Ms.mW S.logof (ok_need S.T S.d_need_server S.server) T2
theorem Tops.add_ (S : Tops K mg cL cX A0) {cI : Addr} (T2 : ErrC K mg "InvalidLog" cI) {D : Addr} {k2 : Str} (h : LK cL cX D k2) : FnOk P w K mg base (L2.CX P w) 7 A0.fA A0.dA ["self", "other"] (spAdd cI D) :=
  ok_add S.T (S.log h).toLogC h.kdC (S.log h).kl S.Ms.mA S.logof T2
theorem Tops.front_ (S : Tops K mg cL cX A0) {D : Addr} {k2 : Str} (h : LK cL cX D k2) : FnOk P w K mg base C8.CX0 7 A0.fF A0.dF ["self", "count"] (spFront D) := ok_front S.T (S.log h).toLogC h.kdC S.Ms.mF S.logof
theorem Tops.len_ (S : Tops K mg cL cX A0) {D : Addr} {k2 : Str} (h : LK cL cX D k2) : FnOk P w K mg base C8.CX0 1 A0.fN A0.dN ["self"] (spLen D) := ok_len S.T (S.log h).toLogC S.Ms.mN
theorem ok_are (S : Tops K mg cL cX A0) : CalG P w K mg base 3 "_law_are" (spAre cL cX) := by
  refine calG_of S.d_law_are sc__law_are (fun vs H Q E h => ?_) (fun f cdv A o s H vs Q E hr hgd h => ?_)
  · obtain ⟨q, kd, sz, a, ns, l, es, xs, rfl, _⟩ := h; rfl
  · obtain ⟨q, kd, sz, a, ns, l, es, xs, rfl, ⟨C, hC, lg⟩, ha, hl, el, so, cr, ok, big, k⟩ := h
    have M := S.log hC
    exact are_body S.T M S.Ms hC (ok_size M.toLogC S.Ms.mZ) (ok_servers S.T M.toLogC S.Ms.mV) (ok_entries S.T M.toLogC S.Ms.mE) (S.len_ hC) f cdv A o s H Q E hr hgd lg ha hl el so cr ok big k
theorem init_new' {C : Addr} {H : Hp} {x dx : Addr} {sz : Int} {a l : Addr} {ns : List Str} {es : List (Str × Int)} {xs : List V} {G : Hp → Prop} {E : XK} (nx : H x = none) (nd : H dx = none) (ne : dx ≠ x) (so : SizeOk sz) (ha : H a = some (.lst (ns.map V.str))) (cr : CrewOk ns)
    (hl : H l = some (.lst xs)) (el : EntL H es xs) (ok : EntsOk ns es) (k : ∀ H', H x = none → LogAt C H' x sz ns es → Ext H H' → G H') :
    spInit C [.ref x, .int sz, .ref a, .ref l] (upd (upd H dx (.own x)) x (.ins C dx [])) (fun v H2 => v = .non ∧ G H2) E := by
  have x0 : Ext H (upd (upd H dx (.own x)) x (.ins C dx [])) := fun b o e => by
    rw [upd_ne (ne_of_none e nx), upd_ne (ne_of_none e nd)]; exact e
  refine ⟨x, dx, sz, a, ns, l, es, xs, rfl, upd_same, by rw [upd_ne ne]; exact upd_same, so, x0 _ _ ha, cr, x0 _ _ hl, el.mono x0, ok, fun H' ls le h1 h2 g1 g2 g3 fr => ⟨rfl, ?_⟩⟩
  have x1 : Ext H H' := fun b o e => fr _ _ (x0 _ _ e) fun z => ne_of_none e nx (List.mem_singleton.mp z)
  exact k H' nx ⟨dx, ls, le, xs, g1, g2, g3, el.mono x1⟩ x1
theorem flat1 {α : Type} : ∀ (n : Nat) (v : α), (List.replicate n [v]).flatten = List.replicate n v
  | 0, _ => rfl
  | n + 1, v => by
    show [v] ++ (List.replicate n [v]).flatten = v :: List.replicate n v
    rw [flat1 n v]; rfl
theorem EntL.rep {H : Hp} {e : Str × Int} {v : V} (h : EntAt H e v) : ∀ n : Nat, EntL H (List.replicate n e) (List.replicate n v)
  | 0 => .nil
  | n + 1 => .cons h (EntL.rep h n)
def spRight : Sp := fun vs H Q _ => ∃ p kd sz a ns l es xs, vs = [.ref p, .str kd, .int sz, .ref a, .ref l] ∧ (kd = "steady" ∨ kd = "losing") ∧ CS p a l ns es xs H ∧ SizeOk sz ∧ CrewOk ns ∧ EntsOk ns es ∧
  (∀ e ∈ es, e.2 < 10 ^ 60) ∧ ∀ H', FeedAt H' p → Frm [p] H H' → Q (.bl true) H'
theorem ok_right (S : Tops K mg cL cX A0) : CalG P w K mg base 8 "_law_right" spRight := by
  refine calG_of S.d_law_right sc__law_right (fun vs H Q E h => ?_) (fun f cdv A o s H vs Q E hr hgd h => ?_)
  · obtain ⟨p, kd, sz, a, ns, l, es, xs, rfl, _⟩ := h; rfl
  · obtain ⟨p, kd, sz, a, ns, l, es, xs, rfl, hk, cs, so, cr, ok, big, k⟩ := h
    obtain ⟨C, hC⟩ : ∃ C, LK cL cX C kd := by
      rcases hk with rfl | rfl
      · exact ⟨cL, .inl ⟨rfl, rfl⟩⟩
      · exact ⟨cX, .inr ⟨rfl, rfl⟩⟩
    obtain ⟨cI, T2⟩ := S.T2
    exact right_body S.T (S.log hC) S.Ms hC S.n_sorted (S.eqf hC) (S.len_ hC) (S.front_ hC) (S.with_ T2 hC) (S.add_ T2 hC) S.made S.pick (ok_are S) f cdv A o s H Q E hr hgd cs so cr ok big k

def spLaw (K : PySem.W.Frag) : Sp := fun vs H Q _ => ∃ (a : Addr) (ns : List Int), vs = [.ref a] ∧ SqL K H a (ns.map V.int) ∧ ns.length ≤ 63 ∧ ∀ H', Q (.bl true) H'
theorem ok_law (S : Tops K mg cL cX A0) {f : Addr} {fd : FuncData} (F : C8.Fun K "law" "law" s_law f fd) : FnG P w K mg base 9 f fd ["script"] (spLaw K) := by
  refine fnG_of F sc_law (fun vs H Q E h => ?_) (fun cdv A o s H vs Q E hr hgd h => ?_)
  · obtain ⟨a, ns, rfl, _⟩ := h; rfl
  · obtain ⟨a, ns, rfl, hS, hn, k⟩ := h
    have T := S.T
    have c__law_pick : Cal P w K mg base 1 "_law_pick" spPick [] := S.pick
    have c__law_feed : Cal P w K mg base 1 "_law_feed" (spFeed K) [] := ok_feed T.toBlt S.d_law_feed
    have c__law_crew : Cal P w K mg base 2 "_law_crew" spCrewL [] := ok_crew T.toBlt S.d_law_crew S.pick
    have c__law_entries : Cal P w K mg base 2 "_law_entries" spEntsL [] := ok_ents T.toBlt S.d_law_entries S.pick
    have c__law_right : CalG P w K mg base 8 "_law_right" spRight := ok_right S
    obtain ⟨cI, T2⟩ := S.T2
    have c__law_made : Cal P w K mg base 6 "_law_made" (spMade cL cX) [] := S.made
    have c__law_caught : Cal P w K mg base 8 "_law_caught" (spCaught cL cX) [] := ok_caught S.T S.Ms S.d_law_caught T2 (fun h => S.log h) (fun h => S.add_ T2 h) (fun h => S.with_ T2 h)
    have hr1 : Room 1 (A.deeper (envOfC "law" (fnScope s_law) s.heap.objs.size f cdv)) := hr.mono (by decide)
    have hr2 : Room 2 (A.deeper (envOfC "law" (fnScope s_law) s.heap.objs.size f cdv)) := hr.mono (by decide)
    have hu2 := u2 hr
    refine ⟨_, (C8.pss_cut (ps_for PassesOwn.never rfl (pi_range1 (by rfl) T.n_range (pa_cons (pe_callB (call_max2 rfl) (by rfl) T.n_max (by decide +kernel) (pa_cons pe_int (pa_cons (pe_callB (call_min2 rfl) (by rfl) T.n_min (by decide +kernel) (pa_cons pe_int (pa_cons (pe_callB call_len (by rfl) T.n_len (by decide +kernel) (pa_cons (mv 0) pa_nil)) pa_nil))) pa_nil))) pa_nil)) (pg_name (i := 1) sc_law.nd rfl (Or.inl rfl))
    (C8.pss_cut (ps_set (i := 2) sc_law.nd rfl (Or.inl rfl) (pe_c c__law_feed hr (by decide) rfl (pa_cons (mv 0) (pa_cons (mv 1) pa_nil))))
    (pss_one (ps_for PassesOwn.never rfl (pi_list (pe_lst (pa_cons (pe_ix m_ix (pe_lst (pa_cons pe_int (pa_cons pe_int pa_nil))) (pe_callTy call_int1 (by rfl) T.n_int (by decide +kernel) (pa_cons (pe_cmpR m_gt (mv 1) pe_int (nomark _)) pa_nil)) (fun _ _ => rfl)) (pa_cons pe_int pa_nil)))) (pg_name (i := 3) sc_law.nd rfl (Or.inl rfl))
    (pss_cons (ps_par (i := 4) (j := 5) rfl sc_law.nd rfl rfl (by decide) rfl rfl (pa_cons (pe_ix m_ix (pe_lst (pa_cons pe_str (pa_cons pe_str pa_nil))) (pe_c c__law_pick hr (by decide) rfl (pa_cons (mv 2) (pa_cons pe_int pa_nil))) (fun _ _ => rfl)) (pa_cons (pe_c c__law_crew hr (by decide) rfl (pa_cons (mv 2) (pa_cons pe_int pa_nil))) pa_nil)) (by rfl))
    (pss_cons (ps_set (i := 6) sc_law.nd rfl (Or.inl rfl) (pe_ix m_ix (pe_lst (pa_cons (pe_op m_add pe_int (pe_c c__law_pick hr (by decide) rfl (pa_cons (mv 2) (pa_cons pe_int pa_nil)))) (pa_cons (pe_op m_pow pe_int pe_int) pa_nil))) (pe_c c__law_pick hr (by decide) rfl (pa_cons (mv 2) (pa_cons pe_int pa_nil))) (fun _ _ => rfl)))
    (pss_one (ps_if (pt_not (qv (pe_g c__law_right hr (by decide) (gd_deeper hgd) rfl (pa_cons (mv 2) (pa_cons (mv 4) (pa_cons (mv 6) (pa_cons (mv 5) (pa_cons (pe_c c__law_entries hr (by decide) rfl (pa_cons (mv 2) (pa_cons (mv 5) (pa_cons (mv 3) (pa_cons (pe_op m_pow pe_int pe_int) pa_nil))))) pa_nil)))))))) (pss_one (ps_ret pe_bl)) pss_nil))))))))
    (pss_cons (ps_for PassesOwn.never rfl (pi_list (pe_lst (pa_cons pe_str (pa_cons pe_str pa_nil)))) (pg_name (i := 4) sc_law.nd rfl (Or.inl rfl))
    (C8.pss_cut (ps_par (i := 7) (j := 8) rfl sc_law.nd rfl rfl (by decide) rfl rfl (pa_cons (pe_c c__law_made hr (by decide) rfl (pa_cons (mv 4) (pa_cons pe_int (pa_cons (pe_lst (pa_cons pe_str pa_nil)) (pa_cons (pe_op op_rep (pe_lst (pa_cons (pe_tup (pa_cons pe_str (pa_cons pe_int pa_nil))) pa_nil)) pe_int) pa_nil))))) (pa_cons (pe_c c__law_made hr (by decide) rfl (pa_cons (mv 4) (pa_cons pe_int (pa_cons (pe_lst (pa_cons pe_str pa_nil)) (pa_cons (pe_lst (pa_cons (pe_tup (pa_cons pe_str (pa_cons pe_int pa_nil))) pa_nil)) pa_nil))))) pa_nil)) (by rfl))
    (C8.pss_cut (ps_set (i := 9) sc_law.nd rfl (Or.inl rfl) (pe_lst (pa_cons (pe_c c__law_caught hr (by decide) rfl (pa_cons (mv 7) (pa_cons (mv 8) (pa_cons pe_non pa_nil)))) (pa_cons (pe_c c__law_caught hr (by decide) rfl (pa_cons (mv 8) (pa_cons (mv 7) (pa_cons pe_non pa_nil)))) (pa_cons (pe_c c__law_caught hr (by decide) rfl (pa_cons (mv 7) (pa_cons pe_non (pa_cons (pe_tup (pa_cons pe_str (pa_cons pe_int pa_nil))) pa_nil)))) pa_nil)))))
    (C8.pss_cut (ps_if (qt (op_neD hr.units) (mv 9) (pe_op op_rep (pe_lst (pa_cons pe_bl pa_nil)) pe_int) (nomark _)) (pss_one (ps_ret pe_bl)) pss_nil)
    (pss_one (ps_if (PW.pt (pw_or (qt m_ne (pe_callB (own_lenG (CXf := C8.CX0) (k := 1) (E := C8.E0) (hr.mono (by decide)) ps0) (by rfl) T.n_len (by decide +kernel) (pa_cons (pe_methG (CXf := L2.CX P w) (k := 7) (E := C8.E0) (pe_methG (CXf := C8.CX0) (k := 7) (E := C8.E0) (mv 7) (hr.mono (by decide)) ps0 (pa_cons pe_int pa_nil)) (hr.mono (by decide)) passL (pa_cons pe_str (pa_cons pe_int pa_nil))) pa_nil)) pe_int (nomark _)) (pw_or1 (qt m_ne (pe_callB (own_lenG (CXf := C8.CX0) (k := 1) (E := C8.E0) (hr.mono (by decide)) ps0) (by rfl) T.n_len (by decide +kernel) (pa_cons (pe_op (own_addG (CXf := L2.CX P w) (k := 7) (E := C8.E0) (hr.mono (by decide)) passL) (pe_methG (CXf := C8.CX0) (k := 7) (E := C8.E0) (mv 7) (hr.mono (by decide)) ps0 (pa_cons pe_int pa_nil)) (pe_methG (CXf := C8.CX0) (k := 7) (E := C8.E0) (mv 7) (hr.mono (by decide)) ps0 (pa_cons pe_int pa_nil))) pa_nil)) pe_int (nomark _))))) (pss_one (ps_ret pe_bl)) pss_nil))))))
    (pss_one (ps_ret pe_bl)))), ?_⟩
    have np2 : ∀ {p : Addr} {G G' : Hp}, H p = none → Ext H G → Frm [p] G G' → Ext H G' := fun n x f c u h => f c u (x c u h) fun z => ne_of_none h n (List.mem_singleton.mp z)
    have small : ∀ {i : Int}, i ≤ 10 ^ 60 → i < 2 ^ 1000 := fun {i} h => Int.lt_of_le_of_lt h (by decide +kernel)
    refine ⟨fun σ H' => ∃ v1 v2 v3 v4 v5 v6 v7, σ = [some (.ref a), v1, v2, v3, v4, v5, v6, v7, none, none] ∧ Ext H H', ?_, ?_⟩
    · refine ⟨_, _, rfl, .inl ⟨_, hS, rfl⟩, _, _, rfl, _, _, rfl, ?_⟩
      rw [List.length_map]
      have hb : 0 ≤ (if (if (ns.length : Int) < 4 then (ns.length : Int) else 4) > 1 then (if (ns.length : Int) < 4 then (ns.length : Int) else 4) else 1) ∧ (if (if (ns.length : Int) < 4 then (ns.length : Int) else 4) > 1 then (if (ns.length : Int) < 4 then (ns.length : Int) else 4) else 1) ≤ 4 := by
        split <;> split <;> omega
      generalize (if (if (ns.length : Int) < 4 then (ns.length : Int) else 4) > 1 then (if (ns.length : Int) < 4 then (ns.length : Int) else 4) else 1) = N at hb ⊢
      refine ⟨_, rfl, by omega, by omega, for_range (lo := 0) (n := N.toNat) (fun i σ H' => ∃ v1 v2 v3 v4 v5 v6 v7, σ = [some (.ref a), v1, v2, v3, v4, v5, v6, v7, none, none] ∧ Ext H H') ⟨none, none, none, none, none, none, none, rfl, fun _ _ z => z⟩ ?_ ?_⟩
      · rintro i σ H1 hi ⟨v1, v2, v3, v4, v5, v6, v7, rfl, x1⟩
        refine ⟨fun σ H' => ∃ p, σ = [some (.ref a), some (.int (0 + i)), some (.ref p), v3, v4, v5, v6, v7, none, none] ∧ Ext H H' ∧ H p = none ∧ FeedAt H' p, ?_, ?_⟩
        · refine ⟨a, ns, _, rfl, SqL.ext hS x1, by omega, by omega, hn, fun p o np fo => ?_⟩
          exact ⟨p, rfl, x1.trans (Ext.upd np), Ext.free x1 np, FeedAt.put fo⟩
        rintro σ H2 ⟨p, rfl, x2, np, hf2⟩
        -- for most in [[200, 30][int(k > 0)], 5]
        refine ⟨(by show 2 ≤ sizeLine; decide), fun q3 hq3 => ?_⟩
        have w11 := Ext.upd (o := .lst [.int 200, .int 30]) hq3
        have x11 := x2.trans w11
        have hf11 := hf2.keep w11
        obtain ⟨mo, m0, m2, at11⟩ : ∃ m : Int, 0 ≤ m ∧ m ≤ 200 ∧ atI [V.int 200, V.int 30] (if decide (0 + (i : Int) > 0) = true then 1 else 0) = some (.int m) := by
          split
          · exact ⟨30, by decide, by decide, rfl⟩
          · exact ⟨200, by decide, by decide, rfl⟩
        refine .inr ⟨_, rfl, _, _, .inl (SqL.of upd_same), at11, ?_⟩
        generalize upd H2 q3 _ = G11 at x11 hf11 ⊢
        refine ⟨(by show 2 ≤ sizeLine; decide), fun tl htl => ?_⟩
        have w12 := Ext.upd (o := .lst [.int mo, .int 5]) htl
        have x12 := x11.trans w12
        have hf12 := hf11.keep w12
        have c12 : (upd G11 tl (.lst [.int mo, .int 5])) tl = some (.lst [.int mo, .int 5]) := upd_same
        have tlp : tl ≠ p := fun e => hf11.some (e ▸ htl)
        generalize upd G11 tl _ = G12 at x12 hf12 c12 ⊢
        refine ⟨tl, rfl, ⟨_, SqL.of c12⟩, for_list (K := K) (a := tl) (xs := [.int mo, .int 5]) (fun j σ H' => ∃ v3 v4 v5 v6 v7, σ = [some (.ref a), some (.int (0 + i)), some (.ref p), v3, v4, v5, v6, v7, none, none] ∧ Ext H H' ∧ FeedAt H' p ∧ H' tl = some (.lst [.int mo, .int 5])) ⟨_, _, _, _, _, rfl, x12, hf12, c12⟩ ?_ ?_ ?_⟩
        · rintro j σ H3 _ ⟨_, _, _, _, _, rfl, _, _, h⟩
          exact SqL.of h
        · clear x2 hf2 x1 x11 hf11 x12 hf12 c12
          rintro j y σ H3 hy ⟨v3, v4, v5, v6, v7, rfl, x3, hf3, c3⟩
          obtain ⟨most, rfl, n0, n2⟩ : ∃ m : Int, y = .int m ∧ 0 ≤ m ∧ m ≤ 200 := by
            have hm := List.mem_of_getElem? hy
            simp only [List.mem_cons, List.not_mem_nil, or_false] at hm
            rcases hm with rfl | rfl
            · exact ⟨mo, rfl, m0, m2⟩
            · exact ⟨5, rfl, by decide, by decide⟩
          refine ⟨(by show 2 ≤ sizeLine; decide), fun q5 hq5 => ?_⟩
          have w14 := Ext.upd (o := .lst [.str "steady", .str "losing"]) hq5
          have c14 : (upd H3 q5 (.lst [.str "steady", .str "losing"])) q5 = some (.lst [.str "steady", .str "losing"]) := upd_same
          have x14 := x3.trans w14
          have hf14 := hf3.keep w14
          have c4 := w14 _ _ c3
          have pq5 : q5 ≠ p := fun e => hf3.some (e ▸ hq5)
          generalize upd H3 q5 _ = G14 at x14 hf14 c4 c14 ⊢
          refine ⟨p, 2, rfl, hf14, by decide, small (by decide), fun r5 o5 e1 e2 fo5 => ?_⟩
          obtain ⟨kd, hkd, at14⟩ : ∃ kd : Str, (kd = "steady" ∨ kd = "losing") ∧ atI [V.str "steady", V.str "losing"] r5 = some (.str kd) := by
            have two : r5 = 0 ∨ r5 = 1 := by omega
            rcases two with e | e
            · exact ⟨_, .inl rfl, by rw [e]; rfl⟩
            · exact ⟨_, .inr rfl, by rw [e]; rfl⟩
          refine ⟨_, .str kd, .inl (SqL.of (by rw [upd_ne pq5]; exact c14)), at14, ?_⟩
          have x15 := np2 np x14 ((Frm.refl (M := [p])).upd (o := o5) mem1)
          have hf15 : FeedAt (upd G14 p o5) p := FeedAt.put fo5
          have c5 : (upd G14 p o5) tl = some (.lst [.int mo, .int 5]) := by rw [upd_ne tlp]; exact c4
          generalize upd G14 p o5 = G15 at x15 hf15 c5 ⊢
          refine ⟨p, 6, rfl, hf15, by decide, by decide, fun G8 ca cn nca hca cr hN hf8 fr8 => ?_⟩
          have x8 := np2 np x15 fr8
          have c8 := fr8 _ _ c5 (fun z => tlp (List.mem_singleton.mp z))
          have cap : ca ≠ p := hf8.ne hca
          refine ⟨_, _, rfl, ?_⟩
          -- unit
          refine ⟨p, 9, rfl, hf8, by decide, small (by decide), fun r1 o1 a1 a2 fo1 => ?_⟩
          have x9 := np2 np x8 ((Frm.refl (M := [p])).upd (o := o1) mem1)
          have hf9 : FeedAt (upd G8 p o1) p := FeedAt.put fo1
          have c9 : (upd G8 p o1) tl = some (.lst [.int mo, .int 5]) := by rw [upd_ne tlp]; exact c8
          have hca9 : (upd G8 p o1) ca = some (.lst (cn.map V.str)) := by rw [upd_ne cap]; exact hca
          generalize upd G8 p o1 = G9 at x9 hf9 c9 hca9 ⊢
          refine ⟨⟨by decide, by decide, by decide⟩, (by show 2 ≤ sizeLine; decide), fun q0 hq0 => ?_⟩
          have w10 := Ext.upd (o := .lst [.int (1 + r1), .int ((10 : Int) ^ (30 : Int).toNat)]) hq0
          have d10 : (upd G9 q0 (.lst [.int (1 + r1), .int ((10 : Int) ^ (30 : Int).toNat)])) q0 = some (.lst [.int (1 + r1), .int ((10 : Int) ^ (30 : Int).toNat)]) := upd_same
          have x10 := x9.trans w10
          have hf10 := hf9.keep w10
          have c10 := w10 _ _ c9
          have hca10 := w10 _ _ hca9
          have pq0 : q0 ≠ p := fun e => hf9.some (e ▸ hq0)
          generalize upd G9 q0 _ = G10 at x10 hf10 c10 hca10 d10 ⊢
          refine ⟨p, 2, rfl, hf10, by decide, small (by decide), fun r3 o3 h0 h1 fo3 => ?_⟩
          obtain ⟨sz, so, at3⟩ : ∃ sz : Int, SizeOk sz ∧ atI [V.int (1 + r1), V.int ((10 : Int) ^ (30 : Int).toNat)] r3 = some (.int sz) := by
            have two : r3 = 0 ∨ r3 = 1 := by omega
            rcases two with e | e
            · exact ⟨1 + r1, ⟨by omega, by omega⟩, by rw [e]; rfl⟩
            · exact ⟨10 ^ 30, ⟨by decide, by decide⟩, by rw [e]; rfl⟩
          refine ⟨_, .int sz, .inl (SqL.of (by rw [upd_ne pq0]; exact d10)), at3, ?_⟩
          have x11 := np2 np x10 ((Frm.refl (M := [p])).upd (o := o3) mem1)
          have hf11 : FeedAt (upd G10 p o3) p := FeedAt.put fo3
          have c11 : (upd G10 p o3) tl = some (.lst [.int mo, .int 5]) := by rw [upd_ne tlp]; exact c10
          have hca11 : (upd G10 p o3) ca = some (.lst (cn.map V.str)) := by rw [upd_ne cap]; exact hca10
          generalize upd G10 p o3 = G11 at x11 hf11 c11 hca11 ⊢
          -- shown
          refine ⟨⟨by decide, by decide, by decide⟩, ?_⟩
          refine ⟨p, ca, cn, most, _, rfl, hf11, hca11, cr, n0, n2, by decide, small (by decide), fun G16 sl es xs nsl hsl el ok lim hf16 fr16 => ?_⟩
          have x16 := np2 np x11 fr16
          have c16 := fr16 _ _ c11 (fun z => tlp (List.mem_singleton.mp z))
          have hca16 := fr16 _ _ hca11 (fun z => cap (List.mem_singleton.mp z))
          refine ⟨p, kd, sz, ca, cn, sl, es, xs, rfl, hkd, ⟨hf16, hca16, hsl, el⟩, so, cr, ok, fun e he => Int.lt_trans (lim e he) (by decide), fun G17 hf17 fr17 => ?_⟩
          refine ifF (by rfl) ?_
          exact ⟨_, _, _, _, _, rfl, np2 np x16 fr17, hf17, fr17 _ _ c16 (fun z => tlp (List.mem_singleton.mp z))⟩
        · rintro σ H3 ⟨v3, v4, v5, v6, v7, rfl, x3, hf3, _⟩
          exact ⟨_, _, _, _, _, _, _, rfl, x3⟩
      · rintro σ H1 ⟨v1, v2, v3, v4, v5, v6, v7, rfl, x1⟩
        exact ⟨_, _, _, _, _, _, _, rfl, x1⟩
    rintro σ H1 ⟨v1, v2, v3, v4, v5, v6, v7, rfl, x1⟩
    have cr : CrewOk ["a"] := ⟨by decide, by decide, by decide +kernel, by decide +kernel⟩
    have so : SizeOk 5 := ⟨by decide, by decide⟩
    have ok1 : EntsOk ["a"] [("a", 0)] := ⟨by decide, by decide +kernel⟩
    have okF : EntsOk ["a"] (List.replicate 200 ("a", 7)) := ⟨by rw [List.length_replicate]; exact Nat.le_refl _, fun e he => by rw [List.eq_of_mem_replicate he]; exact ⟨by decide +kernel, by decide⟩⟩
    have ma : ("a" : Str) ∈ (["a"] : List Str) := by decide +kernel
    refine ⟨(by show 2 ≤ sizeLine; decide), fun tl htl => ?_⟩
    have d0 : (upd H1 tl (.lst [.str "steady", .str "losing"])) tl = some (.lst [.str "steady", .str "losing"]) := upd_same
    generalize upd H1 tl (.lst [.str "steady", .str "losing"]) = G0 at d0 ⊢
    refine ⟨tl, rfl, ⟨_, SqL.of d0⟩, for_list (K := K) (a := tl) (xs := [.str "steady", .str "losing"]) (fun i σ H' => ∃ v1 v2 v3 v4 v5 v6 v7 v8 v9, σ = [some (.ref a), v1, v2, v3, v4, v5, v6, v7, v8, v9] ∧ Ext G0 H') ⟨_, _, _, _, _, _, _, _, _, rfl, fun _ _ z => z⟩ ?_ ?_ ?_⟩
    · rintro i σ G1 _ ⟨_, _, _, _, _, _, _, _, _, rfl, x⟩
      exact SqL.of (x _ _ d0)
    · rintro i y σ G1 hy ⟨v1, v2, v3, v4, v5, v6, v7, v8, v9, rfl, x1⟩
      obtain ⟨kd, C, rfl, hC⟩ : ∃ kd C, y = .str kd ∧ LK cL cX C kd := by
        have hm := List.mem_of_getElem? hy
        simp only [List.mem_cons, List.not_mem_nil, or_false] at hm
        rcases hm with rfl | rfl
        · exact ⟨_, cL, rfl, .inl ⟨rfl, rfl⟩⟩
        · exact ⟨_, cX, rfl, .inr ⟨rfl, rfl⟩⟩
      have M := S.log hC
      have at_ : ∀ {es1 : List (Str × Int)} {H1 : Hp} {b : Addr}, LogAt C H1 b 5 ["a"] es1 → ∃ dx fs, H1 b = some (.ins C dx fs) ∧ fs.lookup ("front" : Str) = none ∧ fs.lookup ("with_entry" : Str) = none := fun ⟨dx, ls, le, vs, h, _⟩ =>
        ⟨dx, _, h, lf_no _ _ _ (by decide +kernel) (by decide +kernel) (by decide +kernel), lf_no _ _ _ (by decide +kernel) (by decide +kernel) (by decide +kernel)⟩
      have mF : MetF P w K mg base C8.CX0 7 C "front" (spFront C) := ⟨_, _, _, M.cl, M.mF, S.front_ hC, S.Ms.mF.b⟩
      have mW : MetF P w K mg base (L2.CX P w) 7 C "with_entry" (spWith cI C) := ⟨_, _, _, M.cl, M.mW, S.with_ T2 hC, S.Ms.mW.b⟩
      have mN : SpcF P w K mg base C8.CX0 1 C "__len__" (spLen C) := ⟨_, _, _, M.sN, M.iN, S.len_ hC, S.Ms.mN.b⟩
      have mA : SpcF P w K mg base (L2.CX P w) 7 C "__add__" (spAdd cI C) := ⟨_, _, _, M.sA, M.iA, S.add_ T2 hC, S.Ms.mA.b⟩
      refine ⟨fun σ H' => ∃ fl on, σ = [some (.ref a), v1, v2, v3, some (.str kd), v5, v6, some (.ref fl), some (.ref on), v9] ∧ Ext G0 H' ∧ LogAt C H' fl 5 ["a"] (List.replicate 200 ("a", 7)) ∧ LogAt C H' on 5 ["a"] [("a", 0)], ?_, ?_⟩
      · refine ⟨(by show 1 ≤ sizeLine; decide), fun u1 hu1 => ?_⟩
        have y1 := Ext.upd (o := .lst [.str "a"]) hu1
        have c1 : (upd G1 u1 (.lst [.str "a"])) u1 = some (.lst ((["a"] : List Str).map V.str)) := upd_same
        generalize upd G1 u1 (.lst [.str "a"]) = G2 at c1 y1 ⊢
        refine ⟨(by show 2 ≤ sizeLine; decide), fun tp htp => ?_⟩
        have y2' := Ext.upd (o := .tup [.str "a", .int 7]) htp
        have e1 : EntAt (upd G2 tp (.tup [.str "a", .int 7])) ("a", 7) (.ref tp) := ⟨tp, rfl, upd_same⟩
        have c2 := y2' _ _ c1
        have y2 := y1.trans y2'
        generalize upd G2 tp (.tup [.str "a", .int 7]) = G3 at c2 y2 e1 ⊢
        refine ⟨(by show 1 ≤ sizeLine; decide), fun t3 ht3 => ?_⟩
        have y3' := Ext.upd (o := .lst [.ref tp]) ht3
        have d3 : (upd G3 t3 (.lst [.ref tp])) t3 = some (.lst [.ref tp]) := upd_same
        have c3 := y3' _ _ c2
        have e2 := e1.mono y3'
        have y3 := y2.trans y3'
        generalize upd G3 t3 (.lst [.ref tp]) = G4 at c3 d3 y3 e2 ⊢
        refine ⟨t3, 200, _, rfl, rfl, d3, by decide, by decide, (by show 1 * 200 ≤ sizeLine; decide), fun t4 ht4 => ?_⟩
        have ef : (List.replicate (200 : Int).toNat [V.ref tp]).flatten = List.replicate 200 (V.ref tp) := flat1 200 _
        rw [ef]
        have y4' := Ext.upd (o := .lst (List.replicate 200 (V.ref tp))) ht4
        have d4 : (upd G4 t4 (.lst (List.replicate 200 (V.ref tp)))) t4 = some (.lst (List.replicate 200 (V.ref tp))) := upd_same
        have c4 := y4' _ _ c3
        have e3 := e2.mono y4'
        have y4 := y3.trans y4'
        generalize upd G4 t4 (.lst (List.replicate 200 (V.ref tp))) = G5 at c4 d4 y4 e3 ⊢
        refine ⟨kd, 5, u1, ["a"], t4, List.replicate 200 ("a", 7), _, rfl, so, c4, cr, d4, EntL.rep e3 200, okF, fun G6 fl nfl lf x5 => ?_⟩
        rw [hC.kdC] at lf
        refine ⟨(by show 1 ≤ sizeLine; decide), fun u2 hu2 => ?_⟩
        have z1 := Ext.upd (o := .lst [.str "a"]) hu2
        have c5 : (upd G6 u2 (.lst [.str "a"])) u2 = some (.lst ((["a"] : List Str).map V.str)) := upd_same
        have lf1 := lf.mono z1
        generalize upd G6 u2 (.lst [.str "a"]) = G7 at c5 z1 lf1 ⊢
        refine ⟨(by show 2 ≤ sizeLine; decide), fun tp2 htp2 => ?_⟩
        have z2' := Ext.upd (o := .tup [.str "a", .int 0]) htp2
        have e5 : EntAt (upd G7 tp2 (.tup [.str "a", .int 0])) ("a", 0) (.ref tp2) := ⟨tp2, rfl, upd_same⟩
        have c6 := z2' _ _ c5
        have lf2 := lf1.mono z2'
        have z2 := z1.trans z2'
        generalize upd G7 tp2 (.tup [.str "a", .int 0]) = G8 at c6 z2 e5 lf2 ⊢
        refine ⟨(by show 1 ≤ sizeLine; decide), fun t6 ht6 => ?_⟩
        have z3' := Ext.upd (o := .lst [.ref tp2]) ht6
        have d6 : (upd G8 t6 (.lst [.ref tp2])) t6 = some (.lst [.ref tp2]) := upd_same
        have c7 := z3' _ _ c6
        have e6 := e5.mono z3'
        have lf3 := lf2.mono z3'
        have z3 := z2.trans z3'
        generalize upd G8 t6 (.lst [.ref tp2]) = G9 at c7 z3 d6 e6 lf3 ⊢
        refine ⟨kd, 5, u2, ["a"], t6, [("a", 0)], _, rfl, so, c7, cr, d6, .cons e6 .nil, ok1, fun G10 on non_ lo x6 => ?_⟩
        rw [hC.kdC] at lo
        exact ⟨_, _, rfl, fl, on, rfl, x1.trans (y4.trans (x5.trans (z3.trans x6))), lf3.mono x6, lo⟩
      rintro σ G2 ⟨fl, on, rfl, x2, lf, lo⟩
      have l200 : (List.replicate 200 (("a" : Str), (7 : Int))).length = 200 := List.length_replicate ..
      -- refused
      refine ⟨fun σ H' => ∃ tt, σ = [some (.ref a), v1, v2, v3, some (.str kd), v5, v6, some (.ref fl), some (.ref on), some (.ref tt)] ∧ Ext G2 H' ∧ H' tt = some (.lst [.bl true, .bl true, .bl true]), ?_, ?_⟩
      · refine ⟨C, kd, hC, .inl ⟨fl, on, 5, ["a"], _, _, rfl, lf, lo, so, cr, okF, ok1, by rw [l200]; decide, fun G3 x3 => ?_⟩⟩
        refine ⟨C, kd, hC, .inl ⟨on, fl, 5, ["a"], _, _, rfl, lo.mono x3, lf.mono x3, so, cr, ok1, okF, by rw [l200]; decide, fun G4 x4 => ?_⟩⟩
        refine ⟨(by show 2 ≤ sizeLine; decide), fun tp htp => ?_⟩
        have y1 := Ext.upd (o := .tup [.str "a", .int 1]) htp
        have y := (x3.trans x4).trans y1
        refine ⟨C, kd, hC, .inr ⟨fl, tp, "a", 1, 5, ["a"], _, rfl, upd_same, lf.mono y, so, cr, okF, ma, by decide, l200, fun G5 x5 => ?_⟩⟩
        refine ⟨(by show 3 ≤ sizeLine; decide), fun tt htt => ?_⟩
        exact ⟨tt, rfl, y.trans (x5.trans (Ext.upd htt)), upd_same⟩
      rintro σ G3 ⟨tt, rfl, x3, d3⟩
      refine ⟨fun σ H' => σ = [some (.ref a), v1, v2, v3, some (.str kd), v5, v6, some (.ref fl), some (.ref on), some (.ref tt)] ∧ Ext G2 H', ?_, ?_⟩
      · refine ⟨(by show 1 ≤ sizeLine; decide), fun t4 ht4 => ?_⟩
        have y1 := Ext.upd (o := .lst [.bl true]) ht4
        have d4 : (upd G3 t4 (.lst [.bl true])) t4 = some (.lst [.bl true]) := upd_same
        generalize upd G3 t4 (.lst [.bl true]) = G4 at y1 d4 ⊢
        refine ⟨t4, 3, _, rfl, rfl, d4, by decide, by decide, (by show 1 * 3 ≤ sizeLine; decide), fun t5 ht5 => ?_⟩
        have ef : (List.replicate (3 : Int).toNat [V.bl true]).flatten = [.bl true, .bl true, .bl true] := rfl
        rw [ef]
        have y2' := Ext.upd (o := .lst [.bl true, .bl true, .bl true]) ht5
        have y2 := y1.trans y2'
        refine ⟨.list [.bool true, .bool true, .bool true], .list [.bool true, .bool true, .bool true], .lst (SqL.of (y2 _ _ d3)) (.cons (.bl _) (.cons (.bl _) (.cons (.bl _) .nil))), .lst (SqL.of upd_same) (.cons (.bl _) (.cons (.bl _) (.cons (.bl _) .nil))), (by decide), (by decide), ?_⟩
        refine ifF (by decide) ?_
        exact ⟨rfl, x3.trans y2⟩
      clear x3 d3
      rintro σ G4 ⟨rfl, x4⟩
      have lf4 := lf.mono x4
      obtain ⟨dx, fs, hf1, nf, _⟩ := at_ lf4
      refine ⟨fl, C, dx, _, _, rfl, hf1, nf, mF, ?_⟩
      refine ⟨fl, 199, 5, ["a"], _, rfl, lf4, so, cr, okF, by decide, by rw [l200]; decide, fun G5 q1 nq1 l1 x5 => ?_⟩
      have r199 : (List.replicate 200 (("a" : Str), (7 : Int))).take (199 : Int).toNat = List.replicate 199 (("a" : Str), (7 : Int)) := by rw [List.take_replicate]; rfl
      rw [r199] at l1
      have ok199 : EntsOk ["a"] (List.replicate 199 (("a" : Str), (7 : Int))) := by rw [← r199]; exact okF.take _
      obtain ⟨dx, fs, hf1, _, nw⟩ := at_ l1
      refine ⟨q1, C, dx, _, _, rfl, hf1, nw, mW, ?_⟩
      refine ⟨q1, "a", 3, 5, ["a"], _, rfl, l1, so, cr, ok199, ma, by decide, fun _ G6 q2 nq2 l2 x6 => ?_, fun h => absurd h (by rw [List.length_replicate]; decide)⟩
      obtain ⟨dx, fs, hf1, _, _⟩ := at_ l2
      have l2len : (List.replicate 199 (("a" : Str), (7 : Int)) ++ [(("a" : Str), (3 : Int))]).length = 200 := by rw [List.length_append, List.length_replicate]; rfl
      refine ⟨q2, C, dx, _, _, rfl, hf1, mN, q2, 5, ["a"], _, rfl, l2, _, rfl, by rw [l2len]; decide, ?_⟩
      dsimp only [tC, mEqG, kB]
      rw [l2len]
      refine ifF (by decide) ?_
      have x46 := x4.trans (x5.trans x6)
      have lf6 := lf.mono x46
      obtain ⟨dx, fs, hf1, nf, _⟩ := at_ lf6
      refine ⟨fl, C, dx, _, _, rfl, hf1, nf, mF, ?_⟩
      refine ⟨fl, 100, 5, ["a"], _, rfl, lf6, so, cr, okF, by decide, by rw [l200]; decide, fun G7 q3 nq3 l3 x7 => ?_⟩
      have lf7 := lf6.mono x7
      obtain ⟨dx, fs, hf1, nf, _⟩ := at_ lf7
      refine ⟨fl, C, dx, _, _, rfl, hf1, nf, mF, ?_⟩
      refine ⟨fl, 100, 5, ["a"], _, rfl, lf7, so, cr, okF, by decide, by rw [l200]; decide, fun G8 q4 nq4 l4 x8 => ?_⟩
      have r100 : (List.replicate 200 (("a" : Str), (7 : Int))).take (100 : Int).toNat = List.replicate 100 (("a" : Str), (7 : Int)) := by rw [List.take_replicate]; rfl
      rw [r100] at l3 l4
      have ok100 : EntsOk ["a"] (List.replicate 100 (("a" : Str), (7 : Int))) := by rw [← r100]; exact okF.take _
      have l3' := l3.mono x8
      obtain ⟨dx, fs, h3, _, _⟩ := at_ l3'
      obtain ⟨dy, gs, h4, _, _⟩ := at_ l4
      have l100 : (List.replicate 100 (("a" : Str), (7 : Int))).length + (List.replicate 100 (("a" : Str), (7 : Int))).length = 200 := by rw [List.length_replicate]
      refine ⟨q3, q4, C, dx, dy, _, _, _, rfl, rfl, h3, h4, M.sf, mA, q3, q4, 5, ["a"], _, _, rfl, l3', l4, so, cr, ok100, ok100, fun _ G9 q5 nq5 l5 x9 => ⟨⟨q5, rfl⟩, ?_⟩, fun h => absurd h (by omega)⟩
      obtain ⟨dx, fs, h5, _, _⟩ := at_ l5
      have l5len : (List.replicate 100 (("a" : Str), (7 : Int)) ++ List.replicate 100 (("a" : Str), (7 : Int))).length = 200 := by rw [List.length_append]; exact l100
      refine ⟨q5, C, dx, _, _, rfl, h5, mN, q5, 5, ["a"], _, rfl, l5, _, rfl, by rw [l5len]; decide, ?_⟩
      dsimp only [tC, mEqG, kB]
      rw [l5len]
      refine ifF (by decide) ?_
      exact ⟨_, _, _, _, _, _, _, _, _, rfl, x2.trans (x46.trans (x7.trans (x8.trans x9)))⟩
    · rintro σ G1 ⟨v1, v2, v3, v4, v5, v6, v7, v8, v9, rfl, x1⟩
      exact k _
end
end NB

set_option Elab.async false
set_option linter.all false
set_option maxRecDepth 100000
set_option maxHeartbeats 0
/-! K7: what the top must have, from its facts -/
namespace NB
open PySem PySem.Spec L2
open PyProof.Rows (envOfC)
open C8 (pe_c pe_mk pe_mt pe_mt0 pe_gc fnScope fnBody fnArgs fnScope_by Cal Met Mak)

theorem kit_same {K : PySem.W.Frag} {C : Addr} : PySem.W.kitOne K (.ref C) (.ref C) = some true := by
  unfold PySem.W.kitOne
  rw [if_pos (by simp)]
theorem kit_ref {K : PySem.W.Frag} {C : Addr} {t : Value} {b : Bool} (h1 : PySem.W.isClsIn K C = true) (h2 : PySem.W.typeIn K (.ref C) = some (.type "type")) (h3 : PySem.W.subIn K t (.ref C) = some b) (h4 : (t == Value.ref C) = false) : PySem.W.kitOne K t (.ref C) = some b := by
  unfold PySem.W.kitOne PySem.W.kitCls
  rw [if_neg (by rw [h4]; exact Bool.false_ne_true)]
  unfold PySem.W.isClsIn at h1
  simp only [h1, h2, h3, Bool.true_and, beq_self_eq_true, if_true]
theorem kit_tyR {K : PySem.W.Frag} {C : Addr} {x : String} {b : Bool} (h : PySem.W.subIn K (.ref C) (.type x) = some b) (hm : PySem.W.kitMeta x = true) : PySem.W.kitOne K (.ref C) (.type x) = some b := by
  unfold PySem.W.kitOne PySem.W.kitCls
  rw [if_neg (by simp)]
  simp only [hm, h, if_true]
theorem all_mk {P : Program} {w : World} {K : PySem.W.Frag} {h : Heap} {mg : Str → Option Value} {fa : Addr} (X : K.In h) (G : h.Ns mainGlobals mg) (hfa : mg "law" = some (.ref fa))
    {f_is_integer f_is_size f_is_name f_are_servers f_is_server f_is_entry f_are_entries f_need_server f_log_of f__law_feed f__law_pick f__law_crew f__law_entries f__law_made f__law_are f__law_caught f__law_right f_law cL cX fMI pZ fMZ pV fMV pE fME fMN fMQ fMA fMW fMF cI : Addr} {od_is_integer an_is_integer od_is_size an_is_size od_is_name an_is_name od_are_servers an_are_servers od_is_server an_is_server od_is_entry an_is_entry od_are_entries an_are_entries od_need_server an_need_server od_log_of an_log_of od__law_feed an__law_feed od__law_pick an__law_pick od__law_crew an__law_crew od__law_entries an__law_entries od__law_made an__law_made od__law_are an__law_are od__law_caught an__law_caught od__law_right an__law_right od_law an_law odMI anMI odMZ anMZ odMV anMV odME anME odMN anMN odMQ anMQ odMA anMA odMW anMW odMF anMF : Option Addr} {sl_is_integer sl_is_size sl_is_name sl_are_servers sl_is_server sl_is_entry sl_are_entries sl_need_server sl_log_of sl__law_feed sl__law_pick sl__law_crew sl__law_entries sl__law_made sl__law_are sl__law_caught sl__law_right sl_law slMI slMZ slMV slME slMN slMQ slMA slMW slMF : Array (Option Value)} {oc_is_integer kV_is_integer dc_is_integer pm_is_integer cd_is_integer ct_is_integer oc_is_size kV_is_size dc_is_size pm_is_size cd_is_size ct_is_size oc_is_name kV_is_name dc_is_name pm_is_name cd_is_name ct_is_name oc_are_servers kV_are_servers dc_are_servers pm_are_servers cd_are_servers ct_are_servers oc_is_server kV_is_server dc_is_server pm_is_server cd_is_server ct_is_server oc_is_entry kV_is_entry dc_is_entry pm_is_entry cd_is_entry ct_is_entry oc_are_entries kV_are_entries dc_are_entries pm_are_entries cd_are_entries ct_are_entries oc_need_server kV_need_server dc_need_server pm_need_server cd_need_server ct_need_server oc_log_of kV_log_of dc_log_of pm_log_of cd_log_of ct_log_of oc__law_feed kV__law_feed dc__law_feed pm__law_feed cd__law_feed ct__law_feed oc__law_pick kV__law_pick dc__law_pick pm__law_pick cd__law_pick ct__law_pick oc__law_crew kV__law_crew dc__law_crew pm__law_crew cd__law_crew ct__law_crew oc__law_entries kV__law_entries dc__law_entries pm__law_entries cd__law_entries ct__law_entries oc__law_made kV__law_made dc__law_made pm__law_made cd__law_made ct__law_made oc__law_are kV__law_are dc__law_are pm__law_are cd__law_are ct__law_are oc__law_caught kV__law_caught dc__law_caught pm__law_caught cd__law_caught ct__law_caught oc__law_right kV__law_right dc__law_right pm__law_right cd__law_right ct__law_right oc_law kV_law dc_law pm_law cd_law ct_law ocMI kVMI dcMI pmMI cdMI ctMI ocMZ kVMZ dcMZ pmMZ cdMZ ctMZ ocMV kVMV dcMV pmMV cdMV ctMV ocME kVME dcME pmME cdME ctME ocMN kVMN dcMN pmMN cdMN ctMN ocMQ kVMQ dcMQ pmMQ cdMQ ctMQ ocMA kVMA dcMA pmMA cdMA ctMA ocMW kVMW dcMW pmMW cdMW ctMW ocMF kVMF dcMF pmMF cdMF ctMF : Value} {tk0 tk1 tk2 tk3 ts0 ts1 ts4 ts5 : Tok} {rsZ rsV rsE : List Value}
    (a_is_integer : PySem.W.nsIn K mainGlobals "is_integer" = some (some (.ref f_is_integer)))
    (l_is_integer : K.lookup f_is_integer = some ⟨oc_is_integer, od_is_integer, .func (PySem.W.fnOf "is_integer" "is_integer" (fnArgs s_is_integer) (fnBody s_is_integer) (fnScope s_is_integer) .none kV_is_integer dc_is_integer pm_is_integer an_is_integer cd_is_integer ct_is_integer), sl_is_integer⟩)
    (c_is_integer : PySem.W.codeIn K cd_is_integer "is_integer" = true)
    (k_is_integer : PySem.W.keepIn K (.ref f_is_integer) = true)
    (a_is_size : PySem.W.nsIn K mainGlobals "is_size" = some (some (.ref f_is_size)))
    (l_is_size : K.lookup f_is_size = some ⟨oc_is_size, od_is_size, .func (PySem.W.fnOf "is_size" "is_size" (fnArgs s_is_size) (fnBody s_is_size) (fnScope s_is_size) .none kV_is_size dc_is_size pm_is_size an_is_size cd_is_size ct_is_size), sl_is_size⟩)
    (c_is_size : PySem.W.codeIn K cd_is_size "is_size" = true)
    (k_is_size : PySem.W.keepIn K (.ref f_is_size) = true)
    (a_is_name : PySem.W.nsIn K mainGlobals "is_name" = some (some (.ref f_is_name)))
    (l_is_name : K.lookup f_is_name = some ⟨oc_is_name, od_is_name, .func (PySem.W.fnOf "is_name" "is_name" (fnArgs s_is_name) (fnBody s_is_name) (fnScope s_is_name) .none kV_is_name dc_is_name pm_is_name an_is_name cd_is_name ct_is_name), sl_is_name⟩)
    (c_is_name : PySem.W.codeIn K cd_is_name "is_name" = true)
    (k_is_name : PySem.W.keepIn K (.ref f_is_name) = true)
    (a_are_servers : PySem.W.nsIn K mainGlobals "are_servers" = some (some (.ref f_are_servers)))
    (l_are_servers : K.lookup f_are_servers = some ⟨oc_are_servers, od_are_servers, .func (PySem.W.fnOf "are_servers" "are_servers" (fnArgs s_are_servers) (fnBody s_are_servers) (fnScope s_are_servers) .none kV_are_servers dc_are_servers pm_are_servers an_are_servers cd_are_servers ct_are_servers), sl_are_servers⟩)
    (c_are_servers : PySem.W.codeIn K cd_are_servers "are_servers" = true)
    (k_are_servers : PySem.W.keepIn K (.ref f_are_servers) = true)
    (a_is_server : PySem.W.nsIn K mainGlobals "is_server" = some (some (.ref f_is_server)))
    (l_is_server : K.lookup f_is_server = some ⟨oc_is_server, od_is_server, .func (PySem.W.fnOf "is_server" "is_server" (fnArgs s_is_server) (fnBody s_is_server) (fnScope s_is_server) .none kV_is_server dc_is_server pm_is_server an_is_server cd_is_server ct_is_server), sl_is_server⟩)
    (c_is_server : PySem.W.codeIn K cd_is_server "is_server" = true)
    (k_is_server : PySem.W.keepIn K (.ref f_is_server) = true)
    (a_is_entry : PySem.W.nsIn K mainGlobals "is_entry" = some (some (.ref f_is_entry)))
    (l_is_entry : K.lookup f_is_entry = some ⟨oc_is_entry, od_is_entry, .func (PySem.W.fnOf "is_entry" "is_entry" (fnArgs s_is_entry) (fnBody s_is_entry) (fnScope s_is_entry) .none kV_is_entry dc_is_entry pm_is_entry an_is_entry cd_is_entry ct_is_entry), sl_is_entry⟩)
    (c_is_entry : PySem.W.codeIn K cd_is_entry "is_entry" = true)
    (k_is_entry : PySem.W.keepIn K (.ref f_is_entry) = true)
    (a_are_entries : PySem.W.nsIn K mainGlobals "are_entries" = some (some (.ref f_are_entries)))
    (l_are_entries : K.lookup f_are_entries = some ⟨oc_are_entries, od_are_entries, .func (PySem.W.fnOf "are_entries" "are_entries" (fnArgs s_are_entries) (fnBody s_are_entries) (fnScope s_are_entries) .none kV_are_entries dc_are_entries pm_are_entries an_are_entries cd_are_entries ct_are_entries), sl_are_entries⟩)
    (c_are_entries : PySem.W.codeIn K cd_are_entries "are_entries" = true)
    (k_are_entries : PySem.W.keepIn K (.ref f_are_entries) = true)
    (a_need_server : PySem.W.nsIn K mainGlobals "need_server" = some (some (.ref f_need_server)))
    (l_need_server : K.lookup f_need_server = some ⟨oc_need_server, od_need_server, .func (PySem.W.fnOf "need_server" "need_server" (fnArgs s_need_server) (fnBody s_need_server) (fnScope s_need_server) .none kV_need_server dc_need_server pm_need_server an_need_server cd_need_server ct_need_server), sl_need_server⟩)
    (c_need_server : PySem.W.codeIn K cd_need_server "need_server" = true)
    (k_need_server : PySem.W.keepIn K (.ref f_need_server) = true)
    (a_log_of : PySem.W.nsIn K mainGlobals "log_of" = some (some (.ref f_log_of)))
    (l_log_of : K.lookup f_log_of = some ⟨oc_log_of, od_log_of, .func (PySem.W.fnOf "log_of" "log_of" (fnArgs s_log_of) (fnBody s_log_of) (fnScope s_log_of) .none kV_log_of dc_log_of pm_log_of an_log_of cd_log_of ct_log_of), sl_log_of⟩)
    (c_log_of : PySem.W.codeIn K cd_log_of "log_of" = true)
    (k_log_of : PySem.W.keepIn K (.ref f_log_of) = true)
    (a__law_feed : PySem.W.nsIn K mainGlobals "_law_feed" = some (some (.ref f__law_feed)))
    (l__law_feed : K.lookup f__law_feed = some ⟨oc__law_feed, od__law_feed, .func (PySem.W.fnOf "_law_feed" "_law_feed" (fnArgs s__law_feed) (fnBody s__law_feed) (fnScope s__law_feed) .none kV__law_feed dc__law_feed pm__law_feed an__law_feed cd__law_feed ct__law_feed), sl__law_feed⟩)
    (c__law_feed : PySem.W.codeIn K cd__law_feed "_law_feed" = true)
    (k__law_feed : PySem.W.keepIn K (.ref f__law_feed) = true)
    (a__law_pick : PySem.W.nsIn K mainGlobals "_law_pick" = some (some (.ref f__law_pick)))
    (l__law_pick : K.lookup f__law_pick = some ⟨oc__law_pick, od__law_pick, .func (PySem.W.fnOf "_law_pick" "_law_pick" (fnArgs s__law_pick) (fnBody s__law_pick) (fnScope s__law_pick) .none kV__law_pick dc__law_pick pm__law_pick an__law_pick cd__law_pick ct__law_pick), sl__law_pick⟩)
    (c__law_pick : PySem.W.codeIn K cd__law_pick "_law_pick" = true)
    (k__law_pick : PySem.W.keepIn K (.ref f__law_pick) = true)
    (a__law_crew : PySem.W.nsIn K mainGlobals "_law_crew" = some (some (.ref f__law_crew)))
    (l__law_crew : K.lookup f__law_crew = some ⟨oc__law_crew, od__law_crew, .func (PySem.W.fnOf "_law_crew" "_law_crew" (fnArgs s__law_crew) (fnBody s__law_crew) (fnScope s__law_crew) .none kV__law_crew dc__law_crew pm__law_crew an__law_crew cd__law_crew ct__law_crew), sl__law_crew⟩)
    (c__law_crew : PySem.W.codeIn K cd__law_crew "_law_crew" = true)
    (k__law_crew : PySem.W.keepIn K (.ref f__law_crew) = true)
    (a__law_entries : PySem.W.nsIn K mainGlobals "_law_entries" = some (some (.ref f__law_entries)))
    (l__law_entries : K.lookup f__law_entries = some ⟨oc__law_entries, od__law_entries, .func (PySem.W.fnOf "_law_entries" "_law_entries" (fnArgs s__law_entries) (fnBody s__law_entries) (fnScope s__law_entries) .none kV__law_entries dc__law_entries pm__law_entries an__law_entries cd__law_entries ct__law_entries), sl__law_entries⟩)
    (c__law_entries : PySem.W.codeIn K cd__law_entries "_law_entries" = true)
    (k__law_entries : PySem.W.keepIn K (.ref f__law_entries) = true)
    (a__law_made : PySem.W.nsIn K mainGlobals "_law_made" = some (some (.ref f__law_made)))
    (l__law_made : K.lookup f__law_made = some ⟨oc__law_made, od__law_made, .func (PySem.W.fnOf "_law_made" "_law_made" (fnArgs s__law_made) (fnBody s__law_made) (fnScope s__law_made) .none kV__law_made dc__law_made pm__law_made an__law_made cd__law_made ct__law_made), sl__law_made⟩)
    (c__law_made : PySem.W.codeIn K cd__law_made "_law_made" = true)
    (k__law_made : PySem.W.keepIn K (.ref f__law_made) = true)
    (a__law_are : PySem.W.nsIn K mainGlobals "_law_are" = some (some (.ref f__law_are)))
    (l__law_are : K.lookup f__law_are = some ⟨oc__law_are, od__law_are, .func (PySem.W.fnOf "_law_are" "_law_are" (fnArgs s__law_are) (fnBody s__law_are) (fnScope s__law_are) .none kV__law_are dc__law_are pm__law_are an__law_are cd__law_are ct__law_are), sl__law_are⟩)
    (c__law_are : PySem.W.codeIn K cd__law_are "_law_are" = true)
    (k__law_are : PySem.W.keepIn K (.ref f__law_are) = true)
    (a__law_caught : PySem.W.nsIn K mainGlobals "_law_caught" = some (some (.ref f__law_caught)))
    (l__law_caught : K.lookup f__law_caught = some ⟨oc__law_caught, od__law_caught, .func (PySem.W.fnOf "_law_caught" "_law_caught" (fnArgs s__law_caught) (fnBody s__law_caught) (fnScope s__law_caught) .none kV__law_caught dc__law_caught pm__law_caught an__law_caught cd__law_caught ct__law_caught), sl__law_caught⟩)
    (c__law_caught : PySem.W.codeIn K cd__law_caught "_law_caught" = true)
    (k__law_caught : PySem.W.keepIn K (.ref f__law_caught) = true)
    (a__law_right : PySem.W.nsIn K mainGlobals "_law_right" = some (some (.ref f__law_right)))
    (l__law_right : K.lookup f__law_right = some ⟨oc__law_right, od__law_right, .func (PySem.W.fnOf "_law_right" "_law_right" (fnArgs s__law_right) (fnBody s__law_right) (fnScope s__law_right) .none kV__law_right dc__law_right pm__law_right an__law_right cd__law_right ct__law_right), sl__law_right⟩)
    (c__law_right : PySem.W.codeIn K cd__law_right "_law_right" = true)
    (k__law_right : PySem.W.keepIn K (.ref f__law_right) = true)
    (a_law : PySem.W.nsIn K mainGlobals "law" = some (some (.ref f_law)))
    (l_law : K.lookup f_law = some ⟨oc_law, od_law, .func (PySem.W.fnOf "law" "law" (fnArgs s_law) (fnBody s_law) (fnScope s_law) .none kV_law dc_law pm_law an_law cd_law ct_law), sl_law⟩)
    (c_law : PySem.W.codeIn K cd_law "law" = true)
    (k_law : PySem.W.keepIn K (.ref f_law) = true)
    (gL : PySem.W.nsIn K mainGlobals "Log" = some (some (.ref cL)))
    (gX : PySem.W.nsIn K mainGlobals "LosingLog" = some (some (.ref cX)))
    (mLI : PySem.W.findIn K (.ref cL) "__init__" = some (some (.ref fMI)))
    (mXI : PySem.W.findIn K (.ref cX) "__init__" = some (some (.ref fMI)))
    (miI : PySem.W.isFn K (.ref fMI) = true)
    (lMI : K.lookup fMI = some ⟨ocMI, odMI, .func (PySem.W.fnOf "__init__" "Log.__init__" (fnArgs s_Log___init__) (fnBody s_Log___init__) (fnScope s_Log___init__) .none kVMI dcMI pmMI anMI cdMI ctMI), slMI⟩)
    (cMI : PySem.W.codeIn K cdMI "Log.__init__" = true)
    (pZL : PySem.W.findIn K (.ref cL) "size" = some (some (.ref pZ)))
    (pZX : PySem.W.findIn K (.ref cX) "size" = some (some (.ref pZ)))
    (pgZ : PySem.W.specialIn K (.ref pZ) "__get__" = some (some (.builtin "property.__get__")))
    (ptZ : PySem.W.takesIn K (.ref pZ) = some true)
    (prZ : PySem.W.recIn K pZ "property" = some (.ref fMZ :: rsZ))
    (lMZ : K.lookup fMZ = some ⟨ocMZ, odMZ, .func (PySem.W.fnOf "size" "Log.size" (fnArgs s_Log_size) (fnBody s_Log_size) (fnScope s_Log_size) .none kVMZ dcMZ pmMZ anMZ cdMZ ctMZ), slMZ⟩)
    (cMZ : PySem.W.codeIn K cdMZ "Log.size" = true)
    (pVL : PySem.W.findIn K (.ref cL) "servers" = some (some (.ref pV)))
    (pVX : PySem.W.findIn K (.ref cX) "servers" = some (some (.ref pV)))
    (pgV : PySem.W.specialIn K (.ref pV) "__get__" = some (some (.builtin "property.__get__")))
    (ptV : PySem.W.takesIn K (.ref pV) = some true)
    (prV : PySem.W.recIn K pV "property" = some (.ref fMV :: rsV))
    (lMV : K.lookup fMV = some ⟨ocMV, odMV, .func (PySem.W.fnOf "servers" "Log.servers" (fnArgs s_Log_servers) (fnBody s_Log_servers) (fnScope s_Log_servers) .none kVMV dcMV pmMV anMV cdMV ctMV), slMV⟩)
    (cMV : PySem.W.codeIn K cdMV "Log.servers" = true)
    (pEL : PySem.W.findIn K (.ref cL) "entries" = some (some (.ref pE)))
    (pEX : PySem.W.findIn K (.ref cX) "entries" = some (some (.ref pE)))
    (pgE : PySem.W.specialIn K (.ref pE) "__get__" = some (some (.builtin "property.__get__")))
    (ptE : PySem.W.takesIn K (.ref pE) = some true)
    (prE : PySem.W.recIn K pE "property" = some (.ref fME :: rsE))
    (lME : K.lookup fME = some ⟨ocME, odME, .func (PySem.W.fnOf "entries" "Log.entries" (fnArgs s_Log_entries) (fnBody s_Log_entries) (fnScope s_Log_entries) .none kVME dcME pmME anME cdME ctME), slME⟩)
    (cME : PySem.W.codeIn K cdME "Log.entries" = true)
    (mLN : PySem.W.findIn K (.ref cL) "__len__" = some (some (.ref fMN)))
    (mXN : PySem.W.findIn K (.ref cX) "__len__" = some (some (.ref fMN)))
    (miN : PySem.W.isFn K (.ref fMN) = true)
    (lMN : K.lookup fMN = some ⟨ocMN, odMN, .func (PySem.W.fnOf "__len__" "Log.__len__" (fnArgs s_Log___len__) (fnBody s_Log___len__) (fnScope s_Log___len__) .none kVMN dcMN pmMN anMN cdMN ctMN), slMN⟩)
    (cMN : PySem.W.codeIn K cdMN "Log.__len__" = true)
    (mLQ : PySem.W.findIn K (.ref cL) "__eq__" = some (some (.ref fMQ)))
    (mXQ : PySem.W.findIn K (.ref cX) "__eq__" = some (some (.ref fMQ)))
    (miQ : PySem.W.isFn K (.ref fMQ) = true)
    (lMQ : K.lookup fMQ = some ⟨ocMQ, odMQ, .func (PySem.W.fnOf "__eq__" "Log.__eq__" (fnArgs s_Log___eq__) (fnBody s_Log___eq__) (fnScope s_Log___eq__) .none kVMQ dcMQ pmMQ anMQ cdMQ ctMQ), slMQ⟩)
    (cMQ : PySem.W.codeIn K cdMQ "Log.__eq__" = true)
    (mLA : PySem.W.findIn K (.ref cL) "__add__" = some (some (.ref fMA)))
    (mXA : PySem.W.findIn K (.ref cX) "__add__" = some (some (.ref fMA)))
    (miA : PySem.W.isFn K (.ref fMA) = true)
    (lMA : K.lookup fMA = some ⟨ocMA, odMA, .func (PySem.W.fnOf "__add__" "Log.__add__" (fnArgs s_Log___add__) (fnBody s_Log___add__) (fnScope s_Log___add__) .none kVMA dcMA pmMA anMA cdMA ctMA), slMA⟩)
    (cMA : PySem.W.codeIn K cdMA "Log.__add__" = true)
    (mLW : PySem.W.findIn K (.ref cL) "with_entry" = some (some (.ref fMW)))
    (mXW : PySem.W.findIn K (.ref cX) "with_entry" = some (some (.ref fMW)))
    (miW : PySem.W.isFn K (.ref fMW) = true)
    (lMW : K.lookup fMW = some ⟨ocMW, odMW, .func (PySem.W.fnOf "with_entry" "Log.with_entry" (fnArgs s_Log_with_entry) (fnBody s_Log_with_entry) (fnScope s_Log_with_entry) .none kVMW dcMW pmMW anMW cdMW ctMW), slMW⟩)
    (cMW : PySem.W.codeIn K cdMW "Log.with_entry" = true)
    (mLF : PySem.W.findIn K (.ref cL) "front" = some (some (.ref fMF)))
    (mXF : PySem.W.findIn K (.ref cX) "front" = some (some (.ref fMF)))
    (miF : PySem.W.isFn K (.ref fMF) = true)
    (lMF : K.lookup fMF = some ⟨ocMF, odMF, .func (PySem.W.fnOf "front" "Log.front" (fnArgs s_Log_front) (fnBody s_Log_front) (fnScope s_Log_front) .none kVMF dcMF pmMF anMF cdMF ctMF), slMF⟩)
    (cMF : PySem.W.codeIn K cdMF "Log.front" = true)
    (kW : PySem.W.keepIn K (.ref fMW) = true)
    (kF : PySem.W.keepIn K (.ref fMF) = true)
    (pgtL : PySem.W.plainGet K cL Str.empty = true)
    (pgtX : PySem.W.plainGet K cX Str.empty = true)
    (hdL : PySem.W.hasDictIn K cL = true)
    (hdX : PySem.W.hasDictIn K cX = true)
    (poL : PySem.W.plainOver K cL = true)
    (poX : PySem.W.plainOver K cX = true)
    (saL : PySem.W.findIn K (.ref cL) "__setattr__" = some (some (.builtin "object.__setattr__")))
    (saX : PySem.W.findIn K (.ref cX) "__setattr__" = some (some (.builtin "object.__setattr__")))
    (mkL : PySem.W.makesIn K cL = true)
    (mkX : PySem.W.makesIn K cX = true)
    (kcL : PySem.W.keepIn K (.ref cL) = true)
    (kcX : PySem.W.keepIn K (.ref cX) = true)
    (nheld_sizeL : PySem.W.findIn K (.ref cL) "held_size" = some none)
    (nheld_sizeX : PySem.W.findIn K (.ref cX) "held_size" = some none)
    (nheld_serversL : PySem.W.findIn K (.ref cL) "held_servers" = some none)
    (nheld_serversX : PySem.W.findIn K (.ref cX) "held_servers" = some none)
    (nheld_entriesL : PySem.W.findIn K (.ref cL) "held_entries" = some none)
    (nheld_entriesX : PySem.W.findIn K (.ref cX) "held_entries" = some none)
    (kdL : PySem.W.findIn K (.ref cL) "KIND" = some (some (.str "steady" ts0)))
    (kdX : PySem.W.findIn K (.ref cX) "KIND" = some (some (.str "losing" ts1)))
    (kgL : PySem.W.specialIn K (.str "steady" ts0) "__get__" = some none)
    (kgX : PySem.W.specialIn K (.str "losing" ts1) "__get__" = some none)
    (ccL : PySem.W.findIn K (.ref cL) "__class__" = some (some (.builtin "object.__class__")))
    (ccX : PySem.W.findIn K (.ref cX) "__class__" = some (some (.builtin "object.__class__")))
    (moL : PySem.W.mroIn K cL (.type "object") = some true)
    (moX : PySem.W.mroIn K cX (.type "object") = some true)
    (og : PySem.W.specialIn K (.builtin "object.__class__") "__get__" = some (some (.builtin "getset_descriptor.__get__")))
    (ot : PySem.W.takesIn K (.builtin "object.__class__") = some true)
    (stL : PySem.W.subIn K (.ref cL) (.type "tuple") = some false)
    (stX : PySem.W.subIn K (.ref cX) (.type "tuple") = some false)
    (icL : PySem.W.isClsIn K cL = true)
    (icX : PySem.W.isClsIn K cX = true)
    (tyL : PySem.W.typeIn K (.ref cL) = some (.type "type"))
    (tyX : PySem.W.typeIn K (.ref cX) = some (.type "type"))
    (sXL : PySem.W.subIn K (.ref cX) (.ref cL) = some true)
    (sLX : PySem.W.subIn K (.ref cL) (.ref cX) = some false)
    (neXL : ((Value.ref cX == Value.ref cL) : Bool) = false)
    (neLX : ((Value.ref cL == Value.ref cX) : Bool) = false)
    (sfL : PySem.W.selfFirst K cL = true)
    (sfX : PySem.W.selfFirst K cX = true)
    (eg : PySem.W.nsIn K mainGlobals "InvalidLog" = some (some (.ref cI)))
    (ex : PySem.W.excIn K cI [.type "ValueError", .type "Exception", .type "BaseException", .type "object"] "ValueError.__new__" = true)
    (ek : PySem.W.keepIn K (.ref cI) = true)
    (eb : PySem.W.subIn K (.ref cI) (.type "BaseException") = some true)
    (et : PySem.W.typeIn K (.ref cI) = some (.type "type"))
    (ei : PySem.W.isClsIn K cI = true)
    (es : PySem.W.subIn K (.ref cI) (.ref cI) = some true)
    (b_sorted : PySem.W.nsIn K mainGlobals "sorted" = some none)
    (nqL : PySem.W.findIn K (.ref cL) "__ne__" = some (some (.builtin "object.__ne__")))
    (nqX : PySem.W.findIn K (.ref cX) "__ne__" = some (some (.builtin "object.__ne__")))
    (g_GREATEST_SIZE : PySem.W.nsIn K mainGlobals "GREATEST_SIZE" = some (some (.int (10 ^ 30) tk0)))
    (g_MOST_SERVERS : PySem.W.nsIn K mainGlobals "MOST_SERVERS" = some (some (.int 12 tk1)))
    (g_MOST_LETTERS : PySem.W.nsIn K mainGlobals "MOST_LETTERS" = some (some (.int 8 tk2)))
    (g_MOST_ENTRIES : PySem.W.nsIn K mainGlobals "MOST_ENTRIES" = some (some (.int 200 tk3)))
    (g_LETTERS : PySem.W.nsIn K mainGlobals "LETTERS" = some (some (.str LETT ts4)))
    (g_LOSING : PySem.W.nsIn K mainGlobals "LOSING" = some (some (.str "losing" ts5)))
    (b_len : PySem.W.nsIn K mainGlobals "len" = some none)
    (b_isinstance : PySem.W.nsIn K mainGlobals "isinstance" = some none)
    (b_int : PySem.W.nsIn K mainGlobals "int" = some none)
    (b_bool : PySem.W.nsIn K mainGlobals "bool" = some none)
    (b_str : PySem.W.nsIn K mainGlobals "str" = some none)
    (b_list : PySem.W.nsIn K mainGlobals "list" = some none)
    (b_tuple : PySem.W.nsIn K mainGlobals "tuple" = some none)
    (b_all : PySem.W.nsIn K mainGlobals "all" = some none)
    (b_set : PySem.W.nsIn K mainGlobals "set" = some none)
    (b_max : PySem.W.nsIn K mainGlobals "max" = some none)
    (b_min : PySem.W.nsIn K mainGlobals "min" = some none)
    (b_abs : PySem.W.nsIn K mainGlobals "abs" = some none)
    (b_range : PySem.W.nsIn K mainGlobals "range" = some none)
    (b_repr : PySem.W.nsIn K mainGlobals "repr" = some none)
    : ∃ fd : FuncData, (∀ (s : Shared) (v : Value), BindsTo s fd ⟨[v], []⟩ [("script", v)]) ∧ ∀ base : Heap, K.In base → base.Ns mainGlobals mg → FnG P w K mg base 9 fa fd ["script"] (spLaw K) := by
  have e := hfa.symm.trans (PySem.W.mg_of X G a_law)
  obtain rfl : f_law = fa := by cases e; rfl
  have F_is_integer : C8.Fun K "is_integer" "is_integer" s_is_integer f_is_integer _ := ⟨_, _, _, _, _, _, _, _, _, _, rfl, l_is_integer, c_is_integer⟩
  have D_is_integer : Dx K mg "is_integer" s_is_integer ["thing"] := ⟨_, _, ⟨F_is_integer, PySem.W.mg_of X G a_is_integer, k_is_integer⟩, F_is_integer.binds rfl fun _ _ _ _ _ _ us hl => match us, hl with | [_], _ => rfl⟩
  have F_is_size : C8.Fun K "is_size" "is_size" s_is_size f_is_size _ := ⟨_, _, _, _, _, _, _, _, _, _, rfl, l_is_size, c_is_size⟩
  have D_is_size : Dx K mg "is_size" s_is_size ["thing"] := ⟨_, _, ⟨F_is_size, PySem.W.mg_of X G a_is_size, k_is_size⟩, F_is_size.binds rfl fun _ _ _ _ _ _ us hl => match us, hl with | [_], _ => rfl⟩
  have F_is_name : C8.Fun K "is_name" "is_name" s_is_name f_is_name _ := ⟨_, _, _, _, _, _, _, _, _, _, rfl, l_is_name, c_is_name⟩
  have D_is_name : Dx K mg "is_name" s_is_name ["thing"] := ⟨_, _, ⟨F_is_name, PySem.W.mg_of X G a_is_name, k_is_name⟩, F_is_name.binds rfl fun _ _ _ _ _ _ us hl => match us, hl with | [_], _ => rfl⟩
  have F_are_servers : C8.Fun K "are_servers" "are_servers" s_are_servers f_are_servers _ := ⟨_, _, _, _, _, _, _, _, _, _, rfl, l_are_servers, c_are_servers⟩
  have D_are_servers : Dx K mg "are_servers" s_are_servers ["thing"] := ⟨_, _, ⟨F_are_servers, PySem.W.mg_of X G a_are_servers, k_are_servers⟩, F_are_servers.binds rfl fun _ _ _ _ _ _ us hl => match us, hl with | [_], _ => rfl⟩
  have F_is_server : C8.Fun K "is_server" "is_server" s_is_server f_is_server _ := ⟨_, _, _, _, _, _, _, _, _, _, rfl, l_is_server, c_is_server⟩
  have D_is_server : Dx K mg "is_server" s_is_server ["servers", "thing"] := ⟨_, _, ⟨F_is_server, PySem.W.mg_of X G a_is_server, k_is_server⟩, F_is_server.binds rfl fun _ _ _ _ _ _ us hl => match us, hl with | [_, _], _ => rfl⟩
  have F_is_entry : C8.Fun K "is_entry" "is_entry" s_is_entry f_is_entry _ := ⟨_, _, _, _, _, _, _, _, _, _, rfl, l_is_entry, c_is_entry⟩
  have D_is_entry : Dx K mg "is_entry" s_is_entry ["servers", "thing"] := ⟨_, _, ⟨F_is_entry, PySem.W.mg_of X G a_is_entry, k_is_entry⟩, F_is_entry.binds rfl fun _ _ _ _ _ _ us hl => match us, hl with | [_, _], _ => rfl⟩
  have F_are_entries : C8.Fun K "are_entries" "are_entries" s_are_entries f_are_entries _ := ⟨_, _, _, _, _, _, _, _, _, _, rfl, l_are_entries, c_are_entries⟩
  have D_are_entries : Dx K mg "are_entries" s_are_entries ["servers", "thing"] := ⟨_, _, ⟨F_are_entries, PySem.W.mg_of X G a_are_entries, k_are_entries⟩, F_are_entries.binds rfl fun _ _ _ _ _ _ us hl => match us, hl with | [_, _], _ => rfl⟩
  have F_need_server : C8.Fun K "need_server" "need_server" s_need_server f_need_server _ := ⟨_, _, _, _, _, _, _, _, _, _, rfl, l_need_server, c_need_server⟩
  have D_need_server : Dx K mg "need_server" s_need_server ["servers", "thing"] := ⟨_, _, ⟨F_need_server, PySem.W.mg_of X G a_need_server, k_need_server⟩, F_need_server.binds rfl fun _ _ _ _ _ _ us hl => match us, hl with | [_, _], _ => rfl⟩
  have F_log_of : C8.Fun K "log_of" "log_of" s_log_of f_log_of _ := ⟨_, _, _, _, _, _, _, _, _, _, rfl, l_log_of, c_log_of⟩
  have D_log_of : Dx K mg "log_of" s_log_of ["kind", "size", "servers", "entries"] := ⟨_, _, ⟨F_log_of, PySem.W.mg_of X G a_log_of, k_log_of⟩, F_log_of.binds rfl fun _ _ _ _ _ _ us hl => match us, hl with | [_, _, _, _], _ => rfl⟩
  have F__law_feed : C8.Fun K "_law_feed" "_law_feed" s__law_feed f__law_feed _ := ⟨_, _, _, _, _, _, _, _, _, _, rfl, l__law_feed, c__law_feed⟩
  have D__law_feed : Dx K mg "_law_feed" s__law_feed ["script", "k"] := ⟨_, _, ⟨F__law_feed, PySem.W.mg_of X G a__law_feed, k__law_feed⟩, F__law_feed.binds rfl fun _ _ _ _ _ _ us hl => match us, hl with | [_, _], _ => rfl⟩
  have F__law_pick : C8.Fun K "_law_pick" "_law_pick" s__law_pick f__law_pick _ := ⟨_, _, _, _, _, _, _, _, _, _, rfl, l__law_pick, c__law_pick⟩
  have D__law_pick : Dx K mg "_law_pick" s__law_pick ["feed", "many"] := ⟨_, _, ⟨F__law_pick, PySem.W.mg_of X G a__law_pick, k__law_pick⟩, F__law_pick.binds rfl fun _ _ _ _ _ _ us hl => match us, hl with | [_, _], _ => rfl⟩
  have F__law_crew : C8.Fun K "_law_crew" "_law_crew" s__law_crew f__law_crew _ := ⟨_, _, _, _, _, _, _, _, _, _, rfl, l__law_crew, c__law_crew⟩
  have D__law_crew : Dx K mg "_law_crew" s__law_crew ["feed", "most"] := ⟨_, _, ⟨F__law_crew, PySem.W.mg_of X G a__law_crew, k__law_crew⟩, F__law_crew.binds rfl fun _ _ _ _ _ _ us hl => match us, hl with | [_, _], _ => rfl⟩
  have F__law_entries : C8.Fun K "_law_entries" "_law_entries" s__law_entries f__law_entries _ := ⟨_, _, _, _, _, _, _, _, _, _, rfl, l__law_entries, c__law_entries⟩
  have D__law_entries : Dx K mg "_law_entries" s__law_entries ["feed", "crew", "most", "limit"] := ⟨_, _, ⟨F__law_entries, PySem.W.mg_of X G a__law_entries, k__law_entries⟩, F__law_entries.binds rfl fun _ _ _ _ _ _ us hl => match us, hl with | [_, _, _, _], _ => rfl⟩
  have F__law_made : C8.Fun K "_law_made" "_law_made" s__law_made f__law_made _ := ⟨_, _, _, _, _, _, _, _, _, _, rfl, l__law_made, c__law_made⟩
  have D__law_made : Dx K mg "_law_made" s__law_made ["kind", "unit", "crew", "shown"] := ⟨_, _, ⟨F__law_made, PySem.W.mg_of X G a__law_made, k__law_made⟩, F__law_made.binds rfl fun _ _ _ _ _ _ us hl => match us, hl with | [_, _, _, _], _ => rfl⟩
  have F__law_are : C8.Fun K "_law_are" "_law_are" s__law_are f__law_are _ := ⟨_, _, _, _, _, _, _, _, _, _, rfl, l__law_are, c__law_are⟩
  have D__law_are : Dx K mg "_law_are" s__law_are ["book", "kind", "unit", "crew", "shown"] := ⟨_, _, ⟨F__law_are, PySem.W.mg_of X G a__law_are, k__law_are⟩, F__law_are.binds rfl fun _ _ _ _ _ _ us hl => match us, hl with | [_, _, _, _, _], _ => rfl⟩
  have F__law_caught : C8.Fun K "_law_caught" "_law_caught" s__law_caught f__law_caught _ := ⟨_, _, _, _, _, _, _, _, _, _, rfl, l__law_caught, c__law_caught⟩
  have D__law_caught : Dx K mg "_law_caught" s__law_caught ["book", "other", "entry"] := ⟨_, _, ⟨F__law_caught, PySem.W.mg_of X G a__law_caught, k__law_caught⟩, F__law_caught.binds rfl fun _ _ _ _ _ _ us hl => match us, hl with | [_, _, _], _ => rfl⟩
  have F__law_right : C8.Fun K "_law_right" "_law_right" s__law_right f__law_right _ := ⟨_, _, _, _, _, _, _, _, _, _, rfl, l__law_right, c__law_right⟩
  have D__law_right : Dx K mg "_law_right" s__law_right ["feed", "kind", "unit", "crew", "shown"] := ⟨_, _, ⟨F__law_right, PySem.W.mg_of X G a__law_right, k__law_right⟩, F__law_right.binds rfl fun _ _ _ _ _ _ us hl => match us, hl with | [_, _, _, _, _], _ => rfl⟩
  have F_law : C8.Fun K "law" "law" s_law _ _ := ⟨_, _, _, _, _, _, _, _, _, _, rfl, l_law, c_law⟩
  have FI : C8.Fun K "__init__" "Log.__init__" s_Log___init__ fMI _ := ⟨_, _, _, _, _, _, _, _, _, _, rfl, lMI, cMI⟩
  have MI : Mx K "__init__" "Log.__init__" s_Log___init__ ["self", "size", "servers", "entries"] fMI _ := ⟨FI, FI.binds rfl fun _ _ _ _ _ _ us hl => match us, hl with | [_, _, _, _], _ => rfl⟩
  have FZ : C8.Fun K "size" "Log.size" s_Log_size fMZ _ := ⟨_, _, _, _, _, _, _, _, _, _, rfl, lMZ, cMZ⟩
  have MZ : Mx K "size" "Log.size" s_Log_size ["self"] fMZ _ := ⟨FZ, FZ.binds rfl fun _ _ _ _ _ _ us hl => match us, hl with | [_], _ => rfl⟩
  have FV : C8.Fun K "servers" "Log.servers" s_Log_servers fMV _ := ⟨_, _, _, _, _, _, _, _, _, _, rfl, lMV, cMV⟩
  have MV : Mx K "servers" "Log.servers" s_Log_servers ["self"] fMV _ := ⟨FV, FV.binds rfl fun _ _ _ _ _ _ us hl => match us, hl with | [_], _ => rfl⟩
  have FE : C8.Fun K "entries" "Log.entries" s_Log_entries fME _ := ⟨_, _, _, _, _, _, _, _, _, _, rfl, lME, cME⟩
  have ME : Mx K "entries" "Log.entries" s_Log_entries ["self"] fME _ := ⟨FE, FE.binds rfl fun _ _ _ _ _ _ us hl => match us, hl with | [_], _ => rfl⟩
  have FN : C8.Fun K "__len__" "Log.__len__" s_Log___len__ fMN _ := ⟨_, _, _, _, _, _, _, _, _, _, rfl, lMN, cMN⟩
  have MN : Mx K "__len__" "Log.__len__" s_Log___len__ ["self"] fMN _ := ⟨FN, FN.binds rfl fun _ _ _ _ _ _ us hl => match us, hl with | [_], _ => rfl⟩
  have FQ : C8.Fun K "__eq__" "Log.__eq__" s_Log___eq__ fMQ _ := ⟨_, _, _, _, _, _, _, _, _, _, rfl, lMQ, cMQ⟩
  have MQ : Mx K "__eq__" "Log.__eq__" s_Log___eq__ ["self", "other"] fMQ _ := ⟨FQ, FQ.binds rfl fun _ _ _ _ _ _ us hl => match us, hl with | [_, _], _ => rfl⟩
  have FA : C8.Fun K "__add__" "Log.__add__" s_Log___add__ fMA _ := ⟨_, _, _, _, _, _, _, _, _, _, rfl, lMA, cMA⟩
  have MA : Mx K "__add__" "Log.__add__" s_Log___add__ ["self", "other"] fMA _ := ⟨FA, FA.binds rfl fun _ _ _ _ _ _ us hl => match us, hl with | [_, _], _ => rfl⟩
  have FW : C8.Fun K "with_entry" "Log.with_entry" s_Log_with_entry fMW _ := ⟨_, _, _, _, _, _, _, _, _, _, rfl, lMW, cMW⟩
  have MW : Mx K "with_entry" "Log.with_entry" s_Log_with_entry ["self", "server", "number"] fMW _ := ⟨FW, FW.binds rfl fun _ _ _ _ _ _ us hl => match us, hl with | [_, _, _], _ => rfl⟩
  have FF : C8.Fun K "front" "Log.front" s_Log_front fMF _ := ⟨_, _, _, _, _, _, _, _, _, _, rfl, lMF, cMF⟩
  have MF : Mx K "front" "Log.front" s_Log_front ["self", "count"] fMF _ := ⟨FF, FF.binds rfl fun _ _ _ _ _ _ us hl => match us, hl with | [_, _], _ => rfl⟩
  have CL : LogC K cL "steady" := ⟨⟨pgtL, hdL, poL, saL⟩, nheld_sizeL, nheld_serversL, nheld_entriesL, ⟨_, kdL, ⟨_, rfl⟩, kgL, by decide +kernel⟩, fun H p dx fs hp => .base (.ins hp ⟨pgtL, hdL, poL, saL⟩ ccL og ot moL), kit_tyR stL (by decide +kernel)⟩
  have CX : LogC K cX "losing" := ⟨⟨pgtX, hdX, poX, saX⟩, nheld_sizeX, nheld_serversX, nheld_entriesX, ⟨_, kdX, ⟨_, rfl⟩, kgX, by decide +kernel⟩, fun H p dx fs hp => .base (.ins hp ⟨pgtX, hdX, poX, saX⟩ ccX og ot moX), kit_tyR stX (by decide +kernel)⟩
  have kLL : PySem.W.kitOne K (.ref cL) (.ref cL) = some true := kit_same
  have kXX : PySem.W.kitOne K (.ref cX) (.ref cX) = some true := kit_same
  have kXL : PySem.W.kitOne K (.ref cX) (.ref cL) = some true := kit_ref icL tyL sXL neXL
  have kLX : PySem.W.kitOne K (.ref cL) (.ref cX) = some false := kit_ref icX tyX sLX neLX
  have T : Tx K mg cL cX := {
    n_len := PySem.W.mg_none_of X G b_len
    n_isinstance := PySem.W.mg_none_of X G b_isinstance
    n_int := PySem.W.mg_none_of X G b_int
    n_bool := PySem.W.mg_none_of X G b_bool
    n_str := PySem.W.mg_none_of X G b_str
    n_list := PySem.W.mg_none_of X G b_list
    n_tuple := PySem.W.mg_none_of X G b_tuple
    n_all := PySem.W.mg_none_of X G b_all
    n_set := PySem.W.mg_none_of X G b_set
    n_max := PySem.W.mg_none_of X G b_max
    n_min := PySem.W.mg_none_of X G b_min
    n_abs := PySem.W.mg_none_of X G b_abs
    n_range := PySem.W.mg_none_of X G b_range
    n_repr := PySem.W.mg_none_of X G b_repr
    g_GREATEST_SIZE := ⟨_, PySem.W.mg_of X G g_GREATEST_SIZE, ⟨_, rfl⟩⟩
    g_MOST_SERVERS := ⟨_, PySem.W.mg_of X G g_MOST_SERVERS, ⟨_, rfl⟩⟩
    g_MOST_LETTERS := ⟨_, PySem.W.mg_of X G g_MOST_LETTERS, ⟨_, rfl⟩⟩
    g_MOST_ENTRIES := ⟨_, PySem.W.mg_of X G g_MOST_ENTRIES, ⟨_, rfl⟩⟩
    g_LETTERS := ⟨_, PySem.W.mg_of X G g_LETTERS, ⟨_, rfl⟩⟩
    g_LOSING := ⟨_, PySem.W.mg_of X G g_LOSING, ⟨_, rfl⟩⟩
    g_Log := ⟨_, PySem.W.mg_of X G gL, rfl⟩
    g_LosingLog := ⟨_, PySem.W.mg_of X G gX, rfl⟩
    cl1 := CL
    cl2 := CX
    ll := kLL
    xl := kXL
    lx := kLX
    xx := kXX }
  have Ms' : Ms K ⟨fMI, fMZ, fMV, fME, fMN, fMQ, fMA, fMW, fMF, (PySem.W.fnOf "__init__" "Log.__init__" (fnArgs s_Log___init__) (fnBody s_Log___init__) (fnScope s_Log___init__) .none kVMI dcMI pmMI anMI cdMI ctMI), (PySem.W.fnOf "size" "Log.size" (fnArgs s_Log_size) (fnBody s_Log_size) (fnScope s_Log_size) .none kVMZ dcMZ pmMZ anMZ cdMZ ctMZ), (PySem.W.fnOf "servers" "Log.servers" (fnArgs s_Log_servers) (fnBody s_Log_servers) (fnScope s_Log_servers) .none kVMV dcMV pmMV anMV cdMV ctMV), (PySem.W.fnOf "entries" "Log.entries" (fnArgs s_Log_entries) (fnBody s_Log_entries) (fnScope s_Log_entries) .none kVME dcME pmME anME cdME ctME), (PySem.W.fnOf "__len__" "Log.__len__" (fnArgs s_Log___len__) (fnBody s_Log___len__) (fnScope s_Log___len__) .none kVMN dcMN pmMN anMN cdMN ctMN), (PySem.W.fnOf "__eq__" "Log.__eq__" (fnArgs s_Log___eq__) (fnBody s_Log___eq__) (fnScope s_Log___eq__) .none kVMQ dcMQ pmMQ anMQ cdMQ ctMQ), (PySem.W.fnOf "__add__" "Log.__add__" (fnArgs s_Log___add__) (fnBody s_Log___add__) (fnScope s_Log___add__) .none kVMA dcMA pmMA anMA cdMA ctMA), (PySem.W.fnOf "with_entry" "Log.with_entry" (fnArgs s_Log_with_entry) (fnBody s_Log_with_entry) (fnScope s_Log_with_entry) .none kVMW dcMW pmMW anMW cdMW ctMW), (PySem.W.fnOf "front" "Log.front" (fnArgs s_Log_front) (fnBody s_Log_front) (fnScope s_Log_front) .none kVMF dcMF pmMF anMF cdMF ctMF)⟩ := ⟨MI, MZ, MV, ME, MN, MQ, MA, MW, MF, rfl, rfl⟩
  have ML' : LogM K cL cX cL "steady" ⟨fMI, fMZ, fMV, fME, fMN, fMQ, fMA, fMW, fMF, (PySem.W.fnOf "__init__" "Log.__init__" (fnArgs s_Log___init__) (fnBody s_Log___init__) (fnScope s_Log___init__) .none kVMI dcMI pmMI anMI cdMI ctMI), (PySem.W.fnOf "size" "Log.size" (fnArgs s_Log_size) (fnBody s_Log_size) (fnScope s_Log_size) .none kVMZ dcMZ pmMZ anMZ cdMZ ctMZ), (PySem.W.fnOf "servers" "Log.servers" (fnArgs s_Log_servers) (fnBody s_Log_servers) (fnScope s_Log_servers) .none kVMV dcMV pmMV anMV cdMV ctMV), (PySem.W.fnOf "entries" "Log.entries" (fnArgs s_Log_entries) (fnBody s_Log_entries) (fnScope s_Log_entries) .none kVME dcME pmME anME cdME ctME), (PySem.W.fnOf "__len__" "Log.__len__" (fnArgs s_Log___len__) (fnBody s_Log___len__) (fnScope s_Log___len__) .none kVMN dcMN pmMN anMN cdMN ctMN), (PySem.W.fnOf "__eq__" "Log.__eq__" (fnArgs s_Log___eq__) (fnBody s_Log___eq__) (fnScope s_Log___eq__) .none kVMQ dcMQ pmMQ anMQ cdMQ ctMQ), (PySem.W.fnOf "__add__" "Log.__add__" (fnArgs s_Log___add__) (fnBody s_Log___add__) (fnScope s_Log___add__) .none kVMA dcMA pmMA anMA cdMA ctMA), (PySem.W.fnOf "with_entry" "Log.with_entry" (fnArgs s_Log_with_entry) (fnBody s_Log_with_entry) (fnScope s_Log_with_entry) .none kVMW dcMW pmMW anMW cdMW ctMW), (PySem.W.fnOf "front" "Log.front" (fnArgs s_Log_front) (fnBody s_Log_front) (fnScope s_Log_front) .none kVMF dcMF pmMF anMF cdMF ctMF)⟩ := { CL with
    mkk := ⟨mkL, mLI, miI, kcL⟩
    pZ := ⟨_, pZL, pgZ, ptZ, _, prZ⟩
    pV := ⟨_, pVL, pgV, ptV, _, prV⟩
    pE := ⟨_, pEL, pgE, ptE, _, prE⟩
    mW := ⟨mLW, miW, kW⟩
    mF := ⟨mLF, miF, kF⟩
    sQ := mLQ
    iQ := miQ
    nQ := nqL
    mo := moL
    kl := kLL
    sN := mLN
    iN := miN
    sA := mLA
    iA := miA
    sf := sfL
    kx := by rw [kLX]; rfl }
  have MX' : LogM K cL cX cX "losing" ⟨fMI, fMZ, fMV, fME, fMN, fMQ, fMA, fMW, fMF, (PySem.W.fnOf "__init__" "Log.__init__" (fnArgs s_Log___init__) (fnBody s_Log___init__) (fnScope s_Log___init__) .none kVMI dcMI pmMI anMI cdMI ctMI), (PySem.W.fnOf "size" "Log.size" (fnArgs s_Log_size) (fnBody s_Log_size) (fnScope s_Log_size) .none kVMZ dcMZ pmMZ anMZ cdMZ ctMZ), (PySem.W.fnOf "servers" "Log.servers" (fnArgs s_Log_servers) (fnBody s_Log_servers) (fnScope s_Log_servers) .none kVMV dcMV pmMV anMV cdMV ctMV), (PySem.W.fnOf "entries" "Log.entries" (fnArgs s_Log_entries) (fnBody s_Log_entries) (fnScope s_Log_entries) .none kVME dcME pmME anME cdME ctME), (PySem.W.fnOf "__len__" "Log.__len__" (fnArgs s_Log___len__) (fnBody s_Log___len__) (fnScope s_Log___len__) .none kVMN dcMN pmMN anMN cdMN ctMN), (PySem.W.fnOf "__eq__" "Log.__eq__" (fnArgs s_Log___eq__) (fnBody s_Log___eq__) (fnScope s_Log___eq__) .none kVMQ dcMQ pmMQ anMQ cdMQ ctMQ), (PySem.W.fnOf "__add__" "Log.__add__" (fnArgs s_Log___add__) (fnBody s_Log___add__) (fnScope s_Log___add__) .none kVMA dcMA pmMA anMA cdMA ctMA), (PySem.W.fnOf "with_entry" "Log.with_entry" (fnArgs s_Log_with_entry) (fnBody s_Log_with_entry) (fnScope s_Log_with_entry) .none kVMW dcMW pmMW anMW cdMW ctMW), (PySem.W.fnOf "front" "Log.front" (fnArgs s_Log_front) (fnBody s_Log_front) (fnScope s_Log_front) .none kVMF dcMF pmMF anMF cdMF ctMF)⟩ := { CX with
    mkk := ⟨mkX, mXI, miI, kcX⟩
    pZ := ⟨_, pZX, pgZ, ptZ, _, prZ⟩
    pV := ⟨_, pVX, pgV, ptV, _, prV⟩
    pE := ⟨_, pEX, pgE, ptE, _, prE⟩
    mW := ⟨mXW, miW, kW⟩
    mF := ⟨mXF, miF, kF⟩
    sQ := mXQ
    iQ := miQ
    nQ := nqX
    mo := moX
    kl := kXL
    sN := mXN
    iN := miN
    sA := mXA
    iA := miA
    sf := sfX
    kx := by rw [kXX]; rfl }
  have S : Tops K mg cL cX _ := ⟨T, ML', MX', Ms', PySem.W.mg_of X G gL, PySem.W.mg_of X G gX, PySem.W.mg_none_of X G b_sorted, ⟨cI, PySem.W.mg_of X G eg, ex, ek, eb, et, ei, es⟩, D_is_integer, D_is_size, D_is_name, D_are_servers, D_is_server, D_is_entry, D_are_entries, D_need_server, D_log_of, D__law_feed, D__law_pick, D__law_crew, D__law_entries, D__law_made, D__law_are, D__law_caught, D__law_right⟩
  exact ⟨_, fun s v => .of_eq rfl, fun base _ _ => ok_law S F_law⟩

end NB

open PySem PySem.W PyProof.Rows
set_option Elab.async false
set_option maxRecDepth 100000
set_option maxHeartbeats 0
open_top hd for PySem.Challenge.rw_numberbooks_k02_logs_joined_and_cut

set_option Elab.async false
set_option maxRecDepth 100000
set_option maxHeartbeats 0
open PySem PySem.W PyProof.Rows
theorem PySem.Challenge.cw_numberbooks_k02_logs_joined_and_cut_holds : PySem.Challenge.rw_numberbooks_k02_logs_joined_and_cut.Holds := by
  refine hd ?_
  k_fill
  refine NB.walk_g (l := PySem.Challenge.rw_numberbooks_k02_logs_joined_and_cut) (n := 63) (k := 9) (x := "script") (sp := NB.spLaw) rfl (by decide) rfl ⟨rfl, by decide, by decide⟩ (fun w h Y => PySem.W.kIn_of Y) ?F (fun K H a ns hl _ hS => ⟨a, ns, rfl, hS, hl, fun _ => rfl⟩)
  case F =>
    intro w mg fa h KX G hmg
    refine' NB.all_mk KX G hmg ?a_is_integer ?l_is_integer ?c_is_integer ?k_is_integer ?a_is_size ?l_is_size ?c_is_size ?k_is_size ?a_is_name ?l_is_name ?c_is_name ?k_is_name ?a_are_servers ?l_are_servers ?c_are_servers ?k_are_servers ?a_is_server ?l_is_server ?c_is_server ?k_is_server ?a_is_entry ?l_is_entry ?c_is_entry ?k_is_entry ?a_are_entries ?l_are_entries ?c_are_entries ?k_are_entries ?a_need_server ?l_need_server ?c_need_server ?k_need_server ?a_log_of ?l_log_of ?c_log_of ?k_log_of ?a__law_feed ?l__law_feed ?c__law_feed ?k__law_feed ?a__law_pick ?l__law_pick ?c__law_pick ?k__law_pick ?a__law_crew ?l__law_crew ?c__law_crew ?k__law_crew ?a__law_entries ?l__law_entries ?c__law_entries ?k__law_entries ?a__law_made ?l__law_made ?c__law_made ?k__law_made ?a__law_are ?l__law_are ?c__law_are ?k__law_are ?a__law_caught ?l__law_caught ?c__law_caught ?k__law_caught ?a__law_right ?l__law_right ?c__law_right ?k__law_right ?a_law ?l_law ?c_law ?k_law ?gL ?gX ?mLI ?mXI ?miI ?lMI ?cMI ?pZL ?pZX ?pgZ ?ptZ ?prZ ?lMZ ?cMZ ?pVL ?pVX ?pgV ?ptV ?prV ?lMV ?cMV ?pEL ?pEX ?pgE ?ptE ?prE ?lME ?cME ?mLN ?mXN ?miN ?lMN ?cMN ?mLQ ?mXQ ?miQ ?lMQ ?cMQ ?mLA ?mXA ?miA ?lMA ?cMA ?mLW ?mXW ?miW ?lMW ?cMW ?mLF ?mXF ?miF ?lMF ?cMF ?kW ?kF ?pgtL ?pgtX ?hdL ?hdX ?poL ?poX ?saL ?saX ?mkL ?mkX ?kcL ?kcX ?nheld_sizeL ?nheld_sizeX ?nheld_serversL ?nheld_serversX ?nheld_entriesL ?nheld_entriesX ?kdL ?kdX ?kgL ?kgX ?ccL ?ccX ?moL ?moX ?og ?ot ?stL ?stX ?icL ?icX ?tyL ?tyX ?sXL ?sLX ?neXL ?neLX ?sfL ?sfX ?eg ?ex ?ek ?eb ?et ?ei ?es ?b_sorted ?nqL ?nqX ?g_GREATEST_SIZE ?g_MOST_SERVERS ?g_MOST_LETTERS ?g_MOST_ENTRIES ?g_LETTERS ?g_LOSING ?b_len ?b_isinstance ?b_int ?b_bool ?b_str ?b_list ?b_tuple ?b_all ?b_set ?b_max ?b_min ?b_abs ?b_range ?b_repr
    (case a_is_integer => first | k_is | rfl | k_exc)
    (case l_is_integer => first | k_is | rfl | k_exc)
    (case c_is_integer => first | k_is | rfl | k_exc)
    (case k_is_integer => first | k_is | rfl | k_exc)
    (case a_is_size => first | k_is | rfl | k_exc)
    (case l_is_size => first | k_is | rfl | k_exc)
    (case c_is_size => first | k_is | rfl | k_exc)
    (case k_is_size => first | k_is | rfl | k_exc)
    (case a_is_name => first | k_is | rfl | k_exc)
    (case l_is_name => first | k_is | rfl | k_exc)
    (case c_is_name => first | k_is | rfl | k_exc)
    (case k_is_name => first | k_is | rfl | k_exc)
    (case a_are_servers => first | k_is | rfl | k_exc)
    (case l_are_servers => first | k_is | rfl | k_exc)
    (case c_are_servers => first | k_is | rfl | k_exc)
    (case k_are_servers => first | k_is | rfl | k_exc)
    (case a_is_server => first | k_is | rfl | k_exc)
    (case l_is_server => first | k_is | rfl | k_exc)
    (case c_is_server => first | k_is | rfl | k_exc)
    (case k_is_server => first | k_is | rfl | k_exc)
    (case a_is_entry => first | k_is | rfl | k_exc)
    (case l_is_entry => first | k_is | rfl | k_exc)
    (case c_is_entry => first | k_is | rfl | k_exc)
    (case k_is_entry => first | k_is | rfl | k_exc)
    (case a_are_entries => first | k_is | rfl | k_exc)
    (case l_are_entries => first | k_is | rfl | k_exc)
    (case c_are_entries => first | k_is | rfl | k_exc)
    (case k_are_entries => first | k_is | rfl | k_exc)
    (case a_need_server => first | k_is | rfl | k_exc)
    (case l_need_server => first | k_is | rfl | k_exc)
    (case c_need_server => first | k_is | rfl | k_exc)
    (case k_need_server => first | k_is | rfl | k_exc)
    (case a_log_of => first | k_is | rfl | k_exc)
    (case l_log_of => first | k_is | rfl | k_exc)
    (case c_log_of => first | k_is | rfl | k_exc)
    (case k_log_of => first | k_is | rfl | k_exc)
    (case a__law_feed => first | k_is | rfl | k_exc)
    (case l__law_feed => first | k_is | rfl | k_exc)
    (case c__law_feed => first | k_is | rfl | k_exc)
    (case k__law_feed => first | k_is | rfl | k_exc)
    (case a__law_pick => first | k_is | rfl | k_exc)
    (case l__law_pick => first | k_is | rfl | k_exc)
    (case c__law_pick => first | k_is | rfl | k_exc)
    (case k__law_pick => first | k_is | rfl | k_exc)
    (case a__law_crew => first | k_is | rfl | k_exc)
    (case l__law_crew => first | k_is | rfl | k_exc)
    (case c__law_crew => first | k_is | rfl | k_exc)
    (case k__law_crew => first | k_is | rfl | k_exc)
    (case a__law_entries => first | k_is | rfl | k_exc)
    (case l__law_entries => first | k_is | rfl | k_exc)
    (case c__law_entries => first | k_is | rfl | k_exc)
    (case k__law_entries => first | k_is | rfl | k_exc)
    (case a__law_made => first | k_is | rfl | k_exc)
    (case l__law_made => first | k_is | rfl | k_exc)
    (case c__law_made => first | k_is | rfl | k_exc)
    (case k__law_made => first | k_is | rfl | k_exc)
    (case a__law_are => first | k_is | rfl | k_exc)
    (case l__law_are => first | k_is | rfl | k_exc)
    (case c__law_are => first | k_is | rfl | k_exc)
    (case k__law_are => first | k_is | rfl | k_exc)
    (case a__law_caught => first | k_is | rfl | k_exc)
    (case l__law_caught => first | k_is | rfl | k_exc)
    (case c__law_caught => first | k_is | rfl | k_exc)
    (case k__law_caught => first | k_is | rfl | k_exc)
    (case a__law_right => first | k_is | rfl | k_exc)
    (case l__law_right => first | k_is | rfl | k_exc)
    (case c__law_right => first | k_is | rfl | k_exc)
    (case k__law_right => first | k_is | rfl | k_exc)
    (case a_law => first | k_is | rfl | k_exc)
    (case l_law => first | k_is | rfl | k_exc)
    (case c_law => first | k_is | rfl | k_exc)
    (case k_law => first | k_is | rfl | k_exc)
    (case gL => first | k_is | rfl | k_exc)
    (case gX => first | k_is | rfl | k_exc)
    (case mLI => first | k_is | rfl | k_exc)
    (case mXI => first | k_is | rfl | k_exc)
    (case miI => first | k_is | rfl | k_exc)
    (case lMI => first | k_is | rfl | k_exc)
    (case cMI => first | k_is | rfl | k_exc)
    (case pZL => first | k_is | rfl | k_exc)
    (case pZX => first | k_is | rfl | k_exc)
    (case pgZ => first | k_is | rfl | k_exc)
    (case ptZ => first | k_is | rfl | k_exc)
    (case prZ => first | k_is | rfl | k_exc)
    (case lMZ => first | k_is | rfl | k_exc)
    (case cMZ => first | k_is | rfl | k_exc)
    (case pVL => first | k_is | rfl | k_exc)
    (case pVX => first | k_is | rfl | k_exc)
    (case pgV => first | k_is | rfl | k_exc)
    (case ptV => first | k_is | rfl | k_exc)
    (case prV => first | k_is | rfl | k_exc)
    (case lMV => first | k_is | rfl | k_exc)
    (case cMV => first | k_is | rfl | k_exc)
    (case pEL => first | k_is | rfl | k_exc)
    (case pEX => first | k_is | rfl | k_exc)
    (case pgE => first | k_is | rfl | k_exc)
    (case ptE => first | k_is | rfl | k_exc)
    (case prE => first | k_is | rfl | k_exc)
    (case lME => first | k_is | rfl | k_exc)
    (case cME => first | k_is | rfl | k_exc)
    (case mLN => first | k_is | rfl | k_exc)
    (case mXN => first | k_is | rfl | k_exc)
    (case miN => first | k_is | rfl | k_exc)
    (case lMN => first | k_is | rfl | k_exc)
    (case cMN => first | k_is | rfl | k_exc)
    (case mLQ => first | k_is | rfl | k_exc)
    (case mXQ => first | k_is | rfl | k_exc)
    (case miQ => first | k_is | rfl | k_exc)
    (case lMQ => first | k_is | rfl | k_exc)
    (case cMQ => first | k_is | rfl | k_exc)
    (case mLA => first | k_is | rfl | k_exc)
    (case mXA => first | k_is | rfl | k_exc)
    (case miA => first | k_is | rfl | k_exc)
    (case lMA => first | k_is | rfl | k_exc)
    (case cMA => first | k_is | rfl | k_exc)
    (case mLW => first | k_is | rfl | k_exc)
    (case mXW => first | k_is | rfl | k_exc)
    (case miW => first | k_is | rfl | k_exc)
    (case lMW => first | k_is | rfl | k_exc)
    (case cMW => first | k_is | rfl | k_exc)
    (case mLF => first | k_is | rfl | k_exc)
    (case mXF => first | k_is | rfl | k_exc)
    (case miF => first | k_is | rfl | k_exc)
    (case lMF => first | k_is | rfl | k_exc)
    (case cMF => first | k_is | rfl | k_exc)
    (case kW => first | k_is | rfl | k_exc)
    (case kF => first | k_is | rfl | k_exc)
    (case pgtL => first | k_is | rfl | k_exc)
    (case pgtX => first | k_is | rfl | k_exc)
    (case hdL => first | k_is | rfl | k_exc)
    (case hdX => first | k_is | rfl | k_exc)
    (case poL => first | k_is | rfl | k_exc)
    (case poX => first | k_is | rfl | k_exc)
    (case saL => first | k_is | rfl | k_exc)
    (case saX => first | k_is | rfl | k_exc)
    (case mkL => first | k_is | rfl | k_exc)
    (case mkX => first | k_is | rfl | k_exc)
    (case kcL => first | k_is | rfl | k_exc)
    (case kcX => first | k_is | rfl | k_exc)
    (case nheld_sizeL => first | k_is | rfl | k_exc)
    (case nheld_sizeX => first | k_is | rfl | k_exc)
    (case nheld_serversL => first | k_is | rfl | k_exc)
    (case nheld_serversX => first | k_is | rfl | k_exc)
    (case nheld_entriesL => first | k_is | rfl | k_exc)
    (case nheld_entriesX => first | k_is | rfl | k_exc)
    (case kdL => first | k_is | rfl | k_exc)
    (case kdX => first | k_is | rfl | k_exc)
    (case kgL => first | k_is | rfl | k_exc)
    (case kgX => first | k_is | rfl | k_exc)
    (case ccL => first | k_is | rfl | k_exc)
    (case ccX => first | k_is | rfl | k_exc)
    (case moL => first | k_is | rfl | k_exc)
    (case moX => first | k_is | rfl | k_exc)
    (case og => first | k_is | rfl | k_exc)
    (case ot => first | k_is | rfl | k_exc)
    (case stL => first | k_is | rfl | k_exc)
    (case stX => first | k_is | rfl | k_exc)
    (case icL => first | k_is | rfl | k_exc)
    (case icX => first | k_is | rfl | k_exc)
    (case tyL => first | k_is | rfl | k_exc)
    (case tyX => first | k_is | rfl | k_exc)
    (case sXL => first | k_is | rfl | k_exc)
    (case sLX => first | k_is | rfl | k_exc)
    (case neXL => first | k_is | rfl | k_exc)
    (case neLX => first | k_is | rfl | k_exc)
    (case sfL => first | k_is | rfl | k_exc)
    (case sfX => first | k_is | rfl | k_exc)
    (case eg => first | k_is | rfl | k_exc)
    (case ex => first | k_is | rfl | k_exc)
    (case ek => first | k_is | rfl | k_exc)
    (case eb => first | k_is | rfl | k_exc)
    (case et => first | k_is | rfl | k_exc)
    (case ei => first | k_is | rfl | k_exc)
    (case es => first | k_is | rfl | k_exc)
    (case b_sorted => first | k_is | rfl | k_exc)
    (case nqL => first | k_is | rfl | k_exc)
    (case nqX => first | k_is | rfl | k_exc)
    (case g_GREATEST_SIZE => first | k_is | rfl | k_exc)
    (case g_MOST_SERVERS => first | k_is | rfl | k_exc)
    (case g_MOST_LETTERS => first | k_is | rfl | k_exc)
    (case g_MOST_ENTRIES => first | k_is | rfl | k_exc)
    (case g_LETTERS => first | k_is | rfl | k_exc)
    (case g_LOSING => first | k_is | rfl | k_exc)
    (case b_len => first | k_is | rfl | k_exc)
    (case b_isinstance => first | k_is | rfl | k_exc)
    (case b_int => first | k_is | rfl | k_exc)
    (case b_bool => first | k_is | rfl | k_exc)
    (case b_str => first | k_is | rfl | k_exc)
    (case b_list => first | k_is | rfl | k_exc)
    (case b_tuple => first | k_is | rfl | k_exc)
    (case b_all => first | k_is | rfl | k_exc)
    (case b_set => first | k_is | rfl | k_exc)
    (case b_max => first | k_is | rfl | k_exc)
    (case b_min => first | k_is | rfl | k_exc)
    (case b_abs => first | k_is | rfl | k_exc)
    (case b_range => first | k_is | rfl | k_exc)
    (case b_repr => first | k_is | rfl | k_exc)

