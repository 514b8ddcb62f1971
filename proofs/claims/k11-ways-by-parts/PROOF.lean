import PyProof.Rows.All
import HandS.ForMost
import KE.SortData
import HandS.TupSets
import KE.KDictDisplayH
import KE.KDictWalk
import KE.KDictCopyH
import KE.KDictSum
import HandS.DictTup
import KE.KDictZip
import KE.KDictList
import HandS.Defaults
import HandS.IsInst
import HandS.TupAny
import HandS.Deep
import Wide.All
import OpenK.AllK
import Wide.FinOn
import KE.KStateDown
import HandS.Base
import HandS.Call
import HandS.Ends
import HandS.More
import HandS.Words
import HandS.WordsExc
import HandS.Head0
import HandS.Head1
import HandS.Head2
import HandS.HeadEnd
import HandS.HeadHook1
import HandS.HeadHook2
import HandS.HeadHook3
import PySem.Challenge.RW_finallycopies_k11_whole_ways_by_the_part
set_option Elab.async false
set_option linter.all false
/-! The mathematics: ways, statements, the ways of a statement. -/
namespace L2.K11
open PySem
inductive Way where
  | normal | rse | ret | brk (n : Int) | cnt (n : Int)
  deriving DecidableEq
/-- a way's tuple, as a key, as values, as data -/
def Way.key : Way → List Key
  | .normal => [.inr "normal"]
  | .rse => [.inr "raise"]
  | .ret => [.inr "return"]
  | .brk n => [.inr "break", .inl n]
  | .cnt n => [.inr "continue", .inl n]
abbrev Way.vs (w : Way) : List V := w.key.map kV
def Way.data : Way → PyData
  | .normal => .tuple [.str "normal"]
  | .rse => .tuple [.str "raise"]
  | .ret => .tuple [.str "return"]
  | .brk n => .tuple [.str "break", .int n]
  | .cnt n => .tuple [.str "continue", .int n]
theorem s_nb : ¬ ("normal" : Str) = "break" := by decide +kernel
theorem s_nc : ¬ ("normal" : Str) = "continue" := by decide +kernel
theorem s_nr : ¬ ("normal" : Str) = "raise" := by decide +kernel
theorem s_nt : ¬ ("normal" : Str) = "return" := by decide +kernel
theorem s_rb : ¬ ("raise" : Str) = "break" := by decide +kernel
theorem s_rc : ¬ ("raise" : Str) = "continue" := by decide +kernel
theorem s_rt : ¬ ("raise" : Str) = "return" := by decide +kernel
theorem s_tb : ¬ ("return" : Str) = "break" := by decide +kernel
theorem s_tc : ¬ ("return" : Str) = "continue" := by decide +kernel
theorem s_bc : ¬ ("break" : Str) = "continue" := by decide +kernel
theorem Way.key_inj {a b : Way} (h : a.key = b.key) : a = b := by
  cases a <;> cases b <;> simp [Way.key, s_nb, s_nc, s_nr, s_nt, s_rb, s_rc, s_rt, s_tb, s_tc, s_bc, Ne.symm s_nb, Ne.symm s_nc, Ne.symm s_nr, Ne.symm s_nt, Ne.symm s_rb, Ne.symm s_rc, Ne.symm s_rt, Ne.symm s_tb, Ne.symm s_tc, Ne.symm s_bc] at h ⊢ <;> first | exact h | done
theorem Way.alike (a b : Way) : PySem.W.alike a.data b.data = true := by
  cases a <;> cases b <;> simp [Way.data, PySem.W.alike, PySem.W.alikeAll]
theorem Way.depth (a : Way) : a.data.depth ≤ 1 := by
  cases a <;> simp [Way.data, PyData.depth, PyData.depthAll]
theorem Way.tup (a : Way) : ∃ x r, a.data = .tuple (x :: r) := by
  cases a <;> exact ⟨_, _, rfl⟩
theorem Way.data_inj {a b : Way} (h : a.data = b.data) : a = b := by
  cases a <;> cases b <;> simp [Way.data, s_nb, s_nc, s_nr, s_nt, s_rb, s_rc, s_rt, s_tb, s_tc, s_bc, Ne.symm s_nb, Ne.symm s_nc, Ne.symm s_nr, Ne.symm s_nt, Ne.symm s_rb, Ne.symm s_rc, Ne.symm s_rt, Ne.symm s_tb, Ne.symm s_tc, Ne.symm s_bc] at h ⊢ <;> first | exact h | done
theorem Way.eqv (a b : Way) : PyData.eqv a.data b.data = decide (a = b) := by
  cases a <;> cases b <;> simp [Way.data, PyData.eqv, PyData.eqvAll, s_nb, s_nc, s_nr, s_nt, s_rb, s_rc, s_rt, s_tb, s_tc, s_bc, Ne.symm s_nb, Ne.symm s_nc, Ne.symm s_nr, Ne.symm s_nt, Ne.symm s_rb, Ne.symm s_rc, Ne.symm s_rt, Ne.symm s_tb, Ne.symm s_tc, Ne.symm s_bc] <;> rfl
/-- the order of the ways -/
def wle (a b : Way) : Bool := PySem.W.dataLe false Way.data a b
theorem wle_total : PySem.W.TotalLe wle := PySem.W.sortLe_total (PyProof.Rows.listOrd PyProof.Rows.itemOrd) false fun b => PySem.W.keyToks (Way.data b)
theorem wle_anti {a b : Way} (h1 : wle a b = true) (h2 : wle b a = true) : a = b := by
  have e1 : (PyProof.Rows.listOrd PyProof.Rows.itemOrd).blt (PySem.W.keyToks b.data) (PySem.W.keyToks a.data) = false := by simpa [wle, PySem.W.dataLe, PySem.W.sortLe] using h1
  have e2 : (PyProof.Rows.listOrd PyProof.Rows.itemOrd).blt (PySem.W.keyToks a.data) (PySem.W.keyToks b.data) = false := by simpa [wle, PySem.W.dataLe, PySem.W.sortLe] using h2
  have e := (PyProof.Rows.listOrd PyProof.Rows.itemOrd).total _ _ e2 e1
  cases hq : PyData.eqv a.data b.data with
  | true =>
    rw [Way.eqv] at hq
    exact of_decide_eq_true hq
  | false =>
    exfalso
    have k := (PySem.W.toks_eqv a.data b.data (Way.alike a b)).2 hq
    revert e
    cases a <;> cases b <;> simp [Way.data, PyData.eqv, PyData.eqvAll] at hq <;> simp [Way.data, PySem.W.keyToks, PySem.W.keyToksAll] <;> first | exact hq | exact fun e => absurd e (by decide +kernel) | decide +kernel
/-- a strictly ascending list of ways -/
structure Asc (ws : List Way) : Prop where
  nd : ws.Nodup
  pw : ws.Pairwise fun a b => wle a b = true
theorem Asc.one {l m : List Way} (a : Asc l) (b : Asc m) (h : ∀ w, w ∈ l ↔ w ∈ m) : l = m :=
  List.Perm.eq_of_pairwise (le := fun a b => wle a b = true) (fun _ _ _ _ h1 h2 => wle_anti h1 h2) a.pw b.pw ((List.perm_ext_iff_of_nodup a.nd b.nd).mpr h)
/-- a list whose image is arranged anew is arranged anew -/
theorem perm_lift {α β : Type} {f : α → β} {l l' : List β} (h : l.Perm l') : ∀ L : List α, l' = L.map f → ∃ L1 : List α, L1.Perm L ∧ l = L1.map f := by
  induction h with
  | nil => exact fun L e => ⟨L, .refl _, e⟩
  | @cons x l1 l2 p ih =>
    intro L e
    cases L with
    | nil => simp at e
    | cons a L =>
      rw [List.map_cons] at e
      injection e with e1 e2
      obtain ⟨L1, p1, e3⟩ := ih L e2
      exact ⟨a :: L1, p1.cons a, by rw [List.map_cons, e1, e3]⟩
  | swap x y l =>
    intro L e
    match L, e with
    | a :: b :: L, e =>
      simp only [List.map_cons, List.cons.injEq] at e
      obtain ⟨e1, e2, e3⟩ := e
      exact ⟨b :: a :: L, .swap _ _ _, by simp [e1, e2, e3]⟩
  | trans p q ih1 ih2 =>
    intro L e
    obtain ⟨L2, p2, e2⟩ := ih2 L e
    obtain ⟨L1, p1, e1⟩ := ih1 L2 e2
    exact ⟨L1, p1.trans p2, e1⟩
end L2.K11
set_option Elab.async false
set_option linter.all false
set_option maxRecDepth 100000
/-! Rules of our own, part A: stores to attributes as targets, len(c) and c[n] by an own class's methods. -/
namespace L2.K11
open PySem PySem.Spec PyProof.Rows
section
variable {X : Cx} {e o : Expr} {te to ta tb : TE} {pos : Pos}
/-- a target o.f within a tuple of targets -/
def gAttr (K : PySem.W.Frag) (f : Str) (to : TE) : TG := fun v st H Q => to st H fun x H1 => ∃ a C dx fs, x = .ref a ∧ H1 a = some (.ins C dx fs) ∧ Cls K C ∧ NoAttr K C f ∧ fs.length < 1000 ∧ Q st (upd H1 a (.ins C dx (putF f v fs)))
theorem pg_attr {f : Str} (ho : PE X o to) : PG X (.Attribute o f pos) (gAttr X.K f to) := by
  refine ⟨fun pins s st H v u Q I rv hq => ?_⟩
  have ee : assign (.Attribute o f pos) X.env u = (do
      let ov ← holding [u] (eval o X.env)
      standAt pos.atName
      holding [u, ov] (setAttr ov f u)
      release [u, ov] []) := by rfl
  rw [ee]
  refine wpAny_bind (wpAny_holding (thn (ho.run pins s st H _ I hq) fun ov s1 hx => ?_))
  obtain ⟨x, H1, I1, rx, a, C, dx, fs, rfl, ea, cl, na, hl, q⟩ := hx
  obtain rfl : ov = Value.ref a := rx
  refine wpAny_bind (wpAny_standAt (wpAny_bind (wpAny_holding ?_)))
  exact setattr_ok I1 ea cl na hl rv fun s2 I2 => wpAny_release ⟨st, _, I2, q⟩

/-- a def of our own called by a builtin that runs one frame deeper -/
theorem run_in1 {CX : CXT} {k : Nat} {f : Addr} {fd : FuncData} {ps : List Str} {sp : Sp} {E : XK} {pins : List (Addr × Obj)} {st : St} {H : Hp} {s : Shared} {Q : VK} {us : List Value} {vs : List V}
    (F : FnOk X.prog X.w X.K X.mg X.base CX k f fd ps sp) (hr : Room (k + 1) X.A) (hb : Binds X.K fd ps []) (hx : Passes CX X E)
    (I : Inv X pins st H s) (r : Vals vs us) (h : sp vs H Q E) : wpAny (model X.prog X.w) X.A.in1 (call (.ref f) us) (EP X pins st Q) X.xe s := by
  have hl : (us ++ []).length = ps.length := by
    rw [List.append_nil, ← r.length]
    exact F.len _ _ _ _ h
  have hb' := hb s us I.kIn hl
  rw [List.append_nil] at hb'
  refine wpAny_call (codeAny_mono (F.run X.A.in1 X.stack s H ⟨us, []⟩ us vs Q E hr.in1 I.env0.in1 hb' r h) fun rr s' hq => ?_)
  cases rr with
  | error e => exact hx pins st H s e s' I hq
  | ok fl =>
    cases fl with
    | ret u => exact I.after hq
    | _ => exact False.elim hq

/-- what the class says of a special method -/
structure Spm (K : PySem.W.Frag) (C : Addr) (m : Str) (f : Addr) : Prop where
  at_ : PySem.W.findIn K (.ref C) m = some (some (.ref f))
  fn : PySem.W.isFn K (.ref f) = true
  inn : PySem.W.fnIn K f = true

def rLenC (C : Addr) (sp : Sp) (E : XK) : List V → Hp → VK → Prop := fun vs H Q => ∃ a dx fs, vs = [.ref a] ∧ H a = some (.ins C dx fs) ∧ sp [.ref a] H (fun v H2 => ∃ n : Int, v = .int n ∧ 0 ≤ n ∧ n < 2 ^ 63 ∧ Q (.int n) H2) E
theorem call_lenC {CX : CXT} {k : Nat} {f C : Addr} {fd : FuncData} {ps : List Str} {sp : Sp} {E : XK} (m : Spm X.K C "__len__" f) (F : FnOk X.prog X.w X.K X.mg X.base CX k f fd ps sp) (hr : Room (k + 1) X.A) (hb : Binds X.K fd ps []) (hx : Passes CX X E) :
    CallR X (.builtin "len") (rLenC C sp E) := by
  rintro pins s st H xs us Q I r ⟨a, dx, fs, rfl, ea, hq⟩
  obtain rfl := r.ref1
  obtain ⟨mA, O, _⟩ := ins_get I.hok ea
  obtain ⟨od, J, _⟩ := O.look
  obtain ⟨mm, F0⟩ := I.fr
  refine PySem.W.len_K F0 I.ok.mod.kin J m.at_ m.fn ?_
  refine thn (run_in1 F hr hb hx I (vs := [V.ref a]) (us := [Value.ref a]) (.cons rfl .nil) hq) fun u s' hu => ?_
  obtain ⟨v, H2, I2, rv, n, rfl, h0, h1, q⟩ := hu
  obtain ⟨t, rfl⟩ := (show ∃ t, u = Value.int n t from rv)
  exact ⟨⟨h0, h1⟩, .int n, H2, I2.tok _, ⟨_, rfl⟩, q⟩

def tIxC (C : Addr) (sp : Sp) (E : XK) (ta tb : TE) : TE := fun st H Q => ta st H fun x H1 => tb st H1 fun y H2 => ∃ a dx fs, x = .ref a ∧ H2 a = some (.ins C dx fs) ∧ sp [.ref a, y] H2 Q E
theorem ix_own {CX : CXT} {k : Nat} {f C : Addr} {fd : FuncData} {ps : List Str} {sp : Sp} {E : XK} (m : Spm X.K C "__getitem__" f) (F : FnOk X.prog X.w X.K X.mg X.base CX k f fd ps sp) (hr : Room (k + 1) X.A) (hb : Binds X.K fd ps []) (hx : Passes CX X E)
    {value slice : Expr} {pins : List (Addr × Obj)} {s : Shared} {st : St} {H : Hp} {a dx : Addr} {fs : List (Str × V)} {y : V} {i : Value} {Q : VK} (I : Inv X pins st H s) (ea : H a = some (.ins C dx fs)) (ry : RelV y i)
    (hq : sp [.ref a, y] H Q E) (hsl : subscripted slice true (.ref a) i = runValue (.builtin "lifetime.subscript" ⟨[.ref a, i], []⟩)) :
    wpAny (model X.prog X.w) X.A (subscriptTail value slice (.ref a) i) (EP X pins st Q) X.xe s := by
  obtain ⟨mA, O, _⟩ := ins_get I.hok ea
  obtain ⟨od, J, _⟩ := O.look
  obtain ⟨mm, F0⟩ := I.fr
  exact PySem.W.sub_K F0 I.ok.mod.kin J m.at_ m.inn m.fn (run_in1 F hr hb hx I (vs := [V.ref a, y]) (us := [Value.ref a, i]) (.cons rfl (.cons ry .nil)) hq) hsl
theorem pe_ixC {CX : CXT} {k : Nat} {f C : Addr} {fd : FuncData} {ps : List Str} {sp : Sp} {E : XK} {a b : Expr} (m : Spm X.K C "__getitem__" f) (F : FnOk X.prog X.w X.K X.mg X.base CX k f fd ps sp) (hr : Room (k + 1) X.A) (hb : Binds X.K fd ps []) (hx : Passes CX X E)
    (ha : PE X a ta) (hb2 : PE X b tb) (hsl : ∀ p i, subscripted b true (.ref p) i = runValue (.builtin "lifetime.subscript" ⟨[.ref p, i], []⟩)) : PE X (.Subscript a b pos) (tIxC C sp E ta tb) := by
  refine ⟨fun pins s st H Q I h => ?_⟩
  refine Subscript_ (binT ha hb2 I h fun v u s2 x y H2 I2 rx ry hq => ?_)
  obtain ⟨p, dx, fs, rfl, ea, q⟩ := hq
  obtain rfl : v = Value.ref p := rx
  exact ix_own m F hr hb hx I2 ea ry q (hsl _ _)

/-! ### comparisons with an empty tuple, an empty list -/
theorem size_ne {xs : List V} {its : List Value} (r : Vals xs its) : (its.toArray.size == 0) = xs.isEmpty := by
  cases r <;> simp
def rEqT0 (K : PySem.W.Frag) : R2 := fun x y H Q => ∃ a b xs, x = .ref a ∧ y = .ref b ∧ SqT K H a xs ∧ SqT K H b [] ∧ Q (.bl xs.isEmpty) H
def rNeT0 (K : PySem.W.Frag) : R2 := fun x y H Q => ∃ a b xs, x = .ref a ∧ y = .ref b ∧ SqT K H a xs ∧ SqT K H b [] ∧ Q (.bl (!xs.isEmpty)) H
def rNeL0 (K : PySem.W.Frag) : R2 := fun x y H Q => ∃ a b xs, x = .ref a ∧ y = .ref b ∧ SqL K H a xs ∧ SqL K H b [] ∧ Q (.bl (!xs.isEmpty)) H
theorem op_eqT0 (hu : X.A.units < cLine) : OpR X (compareOp .Eq) (rEqT0 X.K) := by
  rintro pins s st H x y v u Q I rx ry ⟨a, b, xs, rfl, rfl, ha, hb, q⟩
  cases rx
  cases ry
  obtain ⟨its, r1, p1, _⟩ := I.tuple ha
  obtain ⟨its2, r2, p2, _⟩ := I.tuple hb
  obtain rfl := r2.zero
  refine SeqAt.eq_tupleAt (e := fun _ => true) p1 p2 hu (fun j _ h2 => absurd h2 (Nat.not_lt_zero _)) ⟨.bl xs.isEmpty, H, I, ?_, q⟩
  show _ = _
  have e1 := size_ne r1
  simp at e1 ⊢
  exact e1
theorem op_neT0 (hu : X.A.units < cLine) : OpR X (compareOp .NotEq) (rNeT0 X.K) := by
  rintro pins s st H x y v u Q I rx ry ⟨a, b, xs, rfl, rfl, ha, hb, q⟩
  cases rx
  cases ry
  obtain ⟨its, r1, p1, _⟩ := I.tuple ha
  obtain ⟨its2, r2, p2, _⟩ := I.tuple hb
  obtain rfl := r2.zero
  refine SeqAt.RcNeAt.tuples (e := fun _ => true) p1 p2 hu (fun j _ h2 => absurd h2 (Nat.not_lt_zero _)) _ _ _ _ ⟨.bl (!xs.isEmpty), H, I, ?_, q⟩
  show _ = _
  have e1 := size_ne r1
  simp at e1 ⊢
  exact e1
theorem op_neL0 (hu : X.A.units < cLine) : OpR X (compareOp .NotEq) (rNeL0 X.K) := by
  rintro pins s st H x y v u Q I rx ry ⟨a, b, xs, rfl, rfl, ha, hb, q⟩
  cases rx
  cases ry
  obtain ⟨its, r1, p1, _⟩ := I.list ha
  obtain ⟨its2, r2, p2, _⟩ := I.list hb
  obtain rfl := r2.zero
  cases xs with
  | nil =>
    obtain rfl := r1.zero
    exact SeqAt.RcNeAt.lists (e := fun _ => true) p1.isList p2.isList rfl hu (fun j _ h2 => absurd h2 (Nat.not_lt_zero _)) _ _ _ _ ⟨.bl false, H, I, rfl, q⟩
  | cons z zs =>
    cases r1 with
    | cons _ _ => exact SeqAt.RcNeAt.lists_lengths p1.isList p2.isList rfl hu _ _ _ _ ⟨.bl true, H, I, rfl, q⟩

/-! ### (int, list of ints) < (int, list of ints): some answer -/
def rLtIL (K : PySem.W.Frag) : R2 := fun x y H Q => ∃ (a b : Addr) (i j : Int) (la lb : Addr) (ns ms : List Int), x = .ref a ∧ y = .ref b ∧ SqT K H a [.int i, .ref la] ∧ SqT K H b [.int j, .ref lb] ∧ SqL K H la (ns.map V.int) ∧ SqL K H lb (ms.map V.int) ∧ ∀ c, Q (.bl c) H
theorem dpInts {K : PySem.W.Frag} {H : Hp} : ∀ ns : List Int, DpAll K H (ns.map V.int) (ns.map PyData.int)
  | [] => .nil
  | n :: r => .cons (.int n) (dpInts r)
theorem depInts (ns : List Int) : PyData.depthAll (ns.map PyData.int) = 0 := PySem.W.depth_ints ns
theorem op_ltIL (hu : X.A.units + 64 < cLine) : OpR X (compareOp .Lt) (rLtIL X.K) := by
  rintro pins s st H x y v u Q I rx ry ⟨a, b, i, j, la, lb, ns, ms, rfl, rfl, ha, hb, hla, hlb, q⟩
  have d1 : Dp X.K H (.ref a) (.tuple [.int i, .list (ns.map PyData.int)]) := .tup ha (.cons (.int i) (.cons (.lst hla (dpInts ns)) .nil))
  have d2 : Dp X.K H (.ref b) (.tuple [.int j, .list (ms.map PyData.int)]) := .tup hb (.cons (.int j) (.cons (.lst hlb (dpInts ms)) .nil))
  obtain ⟨as, r1⟩ := Dp.reads I _ _ v d1 rx
  obtain ⟨bs, r2⟩ := Dp.reads I _ _ u d2 ry
  have hal : PySem.W.alike (.tuple [.int i, .list (ns.map PyData.int)]) (.tuple [.int j, .list (ms.map PyData.int)]) = true := by
    simp [PySem.W.alike, PySem.W.alikeAll, PySem.W.alike_ints]
  have hdep : (PyData.tuple [.int i, .list (ns.map PyData.int)]).depth ≤ 4 := by
    simp [PyData.depth, PyData.depthAll, depInts]
  have hmin : min (PyData.tuple [.int i, .list (ns.map PyData.int)]).depth (PyData.tuple [.int j, .list (ms.map PyData.int)]).depth ≤ 4 := Nat.le_trans (Nat.min_le_left _ _) hdep
  exact PySem.W.rcLt_alike _ _ X.A s v u as bs r1 r2 hal (fun z => by cases z) (by omega) _ _ _ _ ⟨.bl _, H, I, rfl, q _⟩
end
end L2.K11
set_option Elab.async false
set_option linter.all false
set_option maxRecDepth 100000
set_option maxHeartbeats 4000000
/-! Sets of tuples of ints and texts, up to 306 members: the table with the masks 7, 31, 127, 511. -/
namespace L2.K11
open PySem PySem.Spec PyProof.Rows

/-! ### i -> 5 i + 1 goes through all residues -/
structure Full (m : Nat) : Prop where
  all : ∀ j, j ≤ m → ∃ b, b ≤ m ∧ lcgN m b = j
  round : lcgN m (m + 1) = 0
  msk : m = 7 ∨ m = 31 ∨ m = 127 ∨ m = 511
theorem Full.odd {m : Nat} (F : Full m) : m % 2 = 1 := by rcases F.msk with e | e | e | e <;> omega
theorem Full.top {m : Nat} (F : Full m) : m ≤ 511 := by rcases F.msk with e | e | e | e <;> omega
def orb (m : Nat) : Nat → Nat → List Nat
  | 0, _ => []
  | n + 1, x => x :: orb m n ((x * 5 + 1) % (m + 1))
theorem orb_len (m : Nat) : ∀ n x, (orb m n x).length = n
  | 0, _ => rfl
  | n + 1, x => congrArg (· + 1) (orb_len m n _)
theorem orb_mem (m : Nat) : ∀ n k y, y ∈ orb m n (lcgN m k) → ∃ b, k ≤ b ∧ b < k + n ∧ lcgN m b = y
  | 0, _, _, h => nomatch h
  | n + 1, k, y, h => by
    rcases List.mem_cons.mp h with e | h
    · exact ⟨k, Nat.le_refl _, by omega, e.symm⟩
    · obtain ⟨b, h1, h2, h3⟩ := orb_mem m n (k + 1) y h
      exact ⟨b, by omega, by omega, h3⟩
def cov : List Nat → Nat
  | [] => 0
  | x :: r => 2 ^ x ||| cov r
theorem cov_mem {j : Nat} : ∀ l : List Nat, (cov l).testBit j = true → j ∈ l
  | [], h => by simp [cov] at h
  | x :: r, h => by
    rw [cov, Nat.testBit_or, Bool.or_eq_true] at h
    rcases h with h | h
    · rw [Nat.testBit_two_pow] at h
      rw [of_decide_eq_true h]
      exact List.mem_cons_self
    · exact List.mem_cons_of_mem _ (cov_mem r h)
theorem full_of {m : Nat} (h1 : cov (orb m (m + 1) 0) = 2 ^ (m + 1) - 1) (h3 : lcgN m (m + 1) = 0) (h4 : m = 7 ∨ m = 31 ∨ m = 127 ∨ m = 511) : Full m := by
  refine ⟨fun j hj => ?_, h3, h4⟩
  have hm : j ∈ orb m (m + 1) 0 := cov_mem _ (by rw [h1, Nat.testBit_two_pow_sub_one]; exact decide_eq_true (Nat.lt_succ_of_le hj))
  obtain ⟨b, _, hb, e⟩ := orb_mem m (m + 1) 0 j hm
  exact ⟨b, by omega, e⟩
theorem full7 : Full 7 := full_of (by decide +kernel) (by decide +kernel) (by decide)
theorem full31 : Full 31 := full_of (by decide +kernel) (by decide +kernel) (by decide)
theorem full127 : Full 127 := full_of (by decide +kernel) (by decide +kernel) (by decide)
theorem full511 : Full 511 := full_of (by decide +kernel) (by decide +kernel) (by decide)
theorem Full.again {m : Nat} (F : Full m) : ∀ k, lcgN m (m + 1 + k) = lcgN m k
  | 0 => F.round
  | k + 1 => by
    have e := F.again k
    show (lcgN m (m + 1 + k) * 5 + 1) % (m + 1) = _
    rw [e]
    rfl
theorem Full.reach {m i j : Nat} (F : Full m) (hi : i ≤ m) (hj : j ≤ m) : ∃ k, k ≤ m ∧ lcgI m i k = j := by
  obtain ⟨a, ha, rfl⟩ := F.all i hi
  obtain ⟨b, hb, rfl⟩ := F.all j hj
  by_cases c : a ≤ b
  · refine ⟨b - a, by omega, ?_⟩
    rw [lcgN_add, Nat.add_sub_cancel' c]
  · refine ⟨m + 1 + b - a, by omega, ?_⟩
    rw [lcgN_add, show a + (m + 1 + b - a) = m + 1 + b by omega, F.again]
theorem Full.meets {m j : Nat} (F : Full m) (h : Int) (hj : j ≤ m) : ∃ n, n ≤ m + 12 ∧ runI m (SetTable.bits h) n = j := by
  obtain ⟨k, hk, e⟩ := F.reach (runI_le m (SetTable.bits h) 12) hj
  refine ⟨12 + k, by omega, ?_⟩
  rw [runI_tail (bits_lt h), e]
theorem Full.nth {m j : Nat} (F : Full m) (h : Int) (hj : j ≤ m) : ∃ k, k < 10 * SetTable.turns m ∧ way m h k = j := by
  obtain ⟨n, hn, e⟩ := F.meets h hj
  obtain ⟨k, hk, e2⟩ := run_nth m (SetTable.bits h) n
  have ht : m + 12 < SetTable.turns m := by
    unfold SetTable.turns
    omega
  refine ⟨k, by omega, ?_⟩
  show (L2.nth m _ k).j = j
  rw [e2]
  exact e
theorem way_top {m : Nat} {h : Int} {k : Nat} : way m h k ≤ m := by
  have hi : SetTable.bits h % (m + 1) ≤ m := Nat.le_of_lt_succ (Nat.mod_lt _ (Nat.succ_pos _))
  have r := runEnd_bd hi
  have hs : (runAt m (SetTable.bits h % (m + 1)) (SetTable.bits h)).j + (runAt m (SetTable.bits h % (m + 1)) (SetTable.bits h)).more ≤ m := by
    show SetTable.bits h % (m + 1) + (SetTable.runEnd m (SetTable.bits h % (m + 1)) - SetTable.bits h % (m + 1)) ≤ m
    omega
  have q := nth_in k _ hs
  show (L2.nth m (runAt m (SetTable.bits h % (m + 1)) (SetTable.bits h)) k).j ≤ m
  omega

/-! ### the table -/
structure Tab (t : SetTable) (hs : List Int) : Prop where
  ris : Ris t.place.toList
  dm : t.dummies = #[]
  sz : t.place.size = hs.length
  full : Full t.mask
  bd : ∀ x ∈ t.place.toList, x ≤ t.mask
  reach : ∀ (i : Nat) (h : Int) (j : Nat), hs[i]? = some h → t.place.toList[i]? = some j → ∃ k, way t.mask h k = j ∧ ∀ k', k' < k → way t.mask h k' ∈ t.place.toList
theorem Tab.first {t : SetTable} {hs : List Int} (T : Tab t hs) (hl : hs.length ≤ t.mask) (h : Int) : ∃ K, K < 10 * SetTable.turns t.mask ∧ way t.mask h K ∉ t.place.toList ∧ ∀ k, k < K → way t.mask h k ∈ t.place.toList := by
  have hlen : t.place.toList.length < t.mask + 1 := by
    rw [Array.length_toList, T.sz]
    omega
  obtain ⟨j, hj, hn⟩ := st_missing _ _ hlen
  obtain ⟨k, hk, e⟩ := T.full.nth h (Nat.le_of_lt_succ hj)
  obtain ⟨K, h1, h2, h3⟩ := st_least (p := fun k => way t.mask h k ∉ t.place.toList) k (by rw [e]; exact hn)
  exact ⟨K, by omega, h2, fun k' hk' => Classical.byContradiction fun c => h3 k' hk' c⟩
theorem Tab.ahead {t : SetTable} {hs : List Int} (T : Tab t hs) {h : Int} {K i j : Nat} (hK : way t.mask h K ∉ t.place.toList) (hi : hs[i]? = some h) (hj : t.place.toList[i]? = some j) : ∃ k, k < K ∧ way t.mask h k = j := by
  obtain ⟨k, e, hb⟩ := T.reach i h j hi hj
  refine ⟨k, ?_, e⟩
  rcases Nat.lt_trichotomy k K with c | c | c
  · exact c
  · exact absurd (by rw [← c, e]; exact List.mem_of_getElem? hj) hK
  · exact absurd (hb K c) hK
theorem Tab.put {t : SetTable} {hs : List Int} (T : Tab t hs) {h : Int} {K p : Nat} (hK : way t.mask h K ∉ t.place.toList) (hb : ∀ k, k < K → way t.mask h k ∈ t.place.toList) (hp : SetTable.below t.place (way t.mask h K) = p) :
    p ≤ hs.length ∧ Tab (t.put (way t.mask h K)).1 (hs.take p ++ h :: hs.drop p) ∧ (t.put (way t.mask h K)).1.fill = hs.length + 1 := by
  have hjm : way t.mask h K ≤ t.mask := way_top
  generalize ej : way t.mask h K = j at hK hjm hp ⊢
  obtain ⟨c1, _, _⟩ := below_cut T.ris j
  rw [hp] at c1
  have hpl : p ≤ t.place.toList.length := by
    rw [Array.length_toList]
    exact c1
  have hph : p ≤ hs.length := by
    rw [← T.sz]
    exact c1
  have hnp : t.place[SetTable.below t.place j]? ≠ some j := fun e => hK (List.mem_of_getElem? (by rw [Array.getElem?_toList]; exact e))
  have hpp := put_place t j
  rw [hp] at hpp
  have hsize : (t.put j).1.place.size = hs.length + 1 := by
    rw [← Array.length_toList, hpp, len_ins _ hpl, Array.length_toList, T.sz]
  have up : ∀ {x : Nat}, x ∈ t.place.toList → x ∈ (t.put j).1.place.toList := fun {x} hx => by
    rw [hpp]
    exact mem_ins.2 (.inr hx)
  refine ⟨hph, ⟨ris_insert T.ris hnp, put_dm T.dm j, by rw [len_ins _ hph]; exact hsize, T.full, fun x hx => ?_, fun i h' j' h1 h2 => ?_⟩, ?_⟩
  · rw [hpp] at hx
    rcases mem_ins.1 hx with rfl | z
    · exact hjm
    · exact T.bd x z
  · rw [tins_get hs hph] at h1
    rw [hpp, tins_get _ hpl] at h2
    show ∃ k, way t.mask h' k = j' ∧ ∀ k', k' < k → way t.mask h' k' ∈ (t.put j).1.place.toList
    have old : ∀ i', hs[i']? = some h' → t.place.toList[i']? = some j' → ∃ k, way t.mask h' k = j' ∧ ∀ k', k' < k → way t.mask h' k' ∈ (t.put j).1.place.toList := fun i' a b => by
      obtain ⟨k, e, z⟩ := T.reach i' h' j' a b
      exact ⟨k, e, fun k' hk' => up (z k' hk')⟩
    by_cases c : i < p
    · rw [if_pos c] at h1 h2
      exact old i h1 h2
    · rw [if_neg c] at h1 h2
      by_cases d : i = p
      · rw [if_pos d] at h1 h2
        obtain rfl : h = h' := Option.some.inj h1
        obtain rfl : j = j' := Option.some.inj h2
        exact ⟨K, ej, fun k' hk' => up (hb k' hk')⟩
      · rw [if_neg d] at h1 h2
        exact old (i - 1) h1 h2
  · show (t.put j).1.place.size + (t.put j).1.dummies.size = hs.length + 1
    rw [hsize, put_dm T.dm j]
    rfl

/-! ### laid anew -/
theorem Full.free {m : Nat} (F : Full m) (owner : Array (Option Nat)) (h : Int) {j : Nat} (hj : j ≤ m) (hf : oAt owner j = none) :
    ∃ K, SetTable.layClean.free m owner (SetTable.turns m) (SetTable.bits h % (m + 1)) (SetTable.bits h) = some (way m h K) ∧ oAt owner (way m h K) = none ∧ ∀ k, k < K → oAt owner (way m h k) ≠ none := by
  obtain ⟨n, hn, e⟩ := F.meets h hj
  have hw : way m h (off m (SetTable.bits h % (m + 1)) (SetTable.bits h) n) = j := by
    show (L2.nth m (runAt m _ _) _).j = j
    rw [nth_off, itL_run]
    exact e
  obtain ⟨K, k1, k2, k3⟩ := st_least (p := fun k => oAt owner (way m h k) = none) _ (show oAt owner (way m h (off m (SetTable.bits h % (m + 1)) (SetTable.bits h) n)) = none by rw [hw]; exact hf)
  have hturn : n < SetTable.turns m := by
    unfold SetTable.turns
    omega
  refine ⟨K, free_spec m owner _ n _ _ K hturn k1 (fun k hk => ?_) ?_, k2, k3⟩
  · cases z : oAt owner (L2.nth m (runAt m (SetTable.bits h % (m + 1)) (SetTable.bits h)) k).j with
    | none => exact absurd z (k3 k hk)
    | some _ => rfl
  · have q : oAt owner (L2.nth m (runAt m (SetTable.bits h % (m + 1)) (SetTable.bits h)) K).j = none := k2
    rw [q]
    rfl
theorem own_step {m : Nat} (F : Full m) {done : List Int} {owner : Array (Option Nat)} (W : Own m done owner) (hl : done.length ≤ m) (h : Int) :
    ∃ j, SetTable.layClean.free m owner (SetTable.turns m) (SetTable.bits h % (m + 1)) (SetTable.bits h) = some j ∧ Own m (done ++ [h]) (owner.setIfInBounds j (some done.length)) := by
  obtain ⟨ps, hps, hin⟩ := W.ps
  obtain ⟨j0, h0, hn0⟩ := st_missing ps (m + 1) (by omega)
  have hj0 : oAt owner j0 = none := Classical.byContradiction fun c => hn0 (hin j0 (Nat.le_of_lt_succ h0) c)
  obtain ⟨K, e1, e2, e3⟩ := F.free owner h (Nat.le_of_lt_succ h0) hj0
  have hjs : way m h K < owner.size := by
    rw [W.sz]
    exact Nat.lt_succ_of_le way_top
  have hself := oAt_set_self (some done.length) hjs
  refine ⟨_, e1, ?_⟩
  generalize ej : way m h K = j at e2 hjs hself ⊢
  have mono : ∀ {i : Nat}, oAt owner i ≠ none → oAt (owner.setIfInBounds j (some done.length)) i ≠ none := fun {i} hi => by
    by_cases c : i = j
    · rw [c, hself]
      exact fun e => nomatch e
    · rw [oAt_set_ne _ c]
      exact hi
  refine ⟨by rw [Array.size_setIfInBounds]; exact W.sz, fun i k hi e => ?_, fun k hk => ?_, j :: ps, by simp [hps], fun i hi e => ?_⟩
  · by_cases c : i = j
    · subst c
      rw [hself] at e
      obtain rfl : done.length = k := Option.some.inj e
      exact ⟨h, K, by simp, ej, fun k' hk' => mono (e3 k' hk')⟩
    · rw [oAt_set_ne _ c] at e
      obtain ⟨h', K', a1, a2, a3⟩ := W.at_ i k hi e
      refine ⟨h', K', ?_, a2, fun k' hk' => mono (a3 k' hk')⟩
      rw [List.getElem?_append_left (List.getElem?_eq_some_iff.mp a1).1, a1]
  · rw [List.length_append, List.length_singleton] at hk
    by_cases c : k < done.length
    · obtain ⟨i, hi, e⟩ := W.all k c
      have hne : i ≠ j := fun z => by
        rw [z, e2] at e
        cases e
      exact ⟨i, hi, by rw [oAt_set_ne _ hne]; exact e⟩
    · obtain rfl : k = done.length := by omega
      exact ⟨j, by rw [← ej]; exact way_top, hself⟩
  · by_cases c : i = j
    · rw [c]
      exact List.mem_cons_self
    · rw [oAt_set_ne _ c] at e
      exact List.mem_cons_of_mem _ (hin i hi e)
theorem own_fold {m : Nat} (F : Full m) : ∀ (rest done : List Int) (owner : Array (Option Nat)), Own m done owner → done.length + rest.length ≤ m →
    ∃ owner', rest.foldl (stepF m) (some (owner, done.length)) = some (owner', (done ++ rest).length) ∧ Own m (done ++ rest) owner'
  | [], done, owner, W, _ => ⟨owner, by simp, by simpa using W⟩
  | h :: rest, done, owner, W, hl => by
    rw [List.length_cons] at hl
    obtain ⟨j, e, W'⟩ := own_step F W (by omega) h
    obtain ⟨owner', f, W2⟩ := own_fold F rest (done ++ [h]) _ W' (by simp; omega)
    refine ⟨owner', ?_, by simpa using W2⟩
    rw [List.foldl_cons, stepF_some e]
    simpa using f
theorem laid_ok {m : Nat} (F : Full m) {hs : Array Int} (hn : hs.size ≤ m) : ∃ owner, SetTable.layClean m hs = some owner ∧ Own m hs.toList owner := by
  obtain ⟨owner, f, W⟩ := own_fold F hs.toList [] _ (Own.init m) (by simpa using hn)
  rw [List.nil_append] at W f
  refine ⟨owner, ?_, W⟩
  rw [layClean_eq]
  show (hs.toList.foldl (stepF m) (some (Array.replicate (m + 1) none, ([] : List Int).length))).map (·.1) = some owner
  rw [f]
  rfl
theorem anew_ok (t : SetTable) {hs : Array Int} {wanted M : Nat} (hw : SetTable.sizeAbove wanted - 1 = M) (F : Full M) (hn : hs.size ≤ M) :
    ∃ t' order, t.relaid hs wanted = some (t', order) ∧ order.toList.Perm (List.range hs.size) ∧ Tab t' (order.toList.map fun i => hs.getD i 0) ∧ t'.mask = M ∧ t'.led = t.led := by
  obtain ⟨owner, e, W⟩ := laid_ok F hn
  have hr : t.relaid hs wanted = some (tabOf t M owner, ((liveOf M owner).map (·.2)).toArray) := by
    rw [relaid_eq, hw, e]
    rfl
  have ris := ris_live (fun j => owner.getD j none) (List.range (M + 1)) List.pairwise_lt_range
  have r1 : Ris ((liveOf M owner).map (·.1)) := ris.1
  have r2 : ∀ x ∈ (liveOf M owner).map (·.1), x ∈ List.range (M + 1) := ris.2
  have hz : hs.toList.length = hs.size := rfl
  have inl : ∀ k, k < hs.size → k ∈ (liveOf M owner).map (·.2) := fun k hk => by
    obtain ⟨j, b1, b2⟩ := W.all k (by omega)
    exact List.mem_map.mpr ⟨(j, k), (mem_live W.sz).2 ⟨b1, b2⟩, rfl⟩
  have hlen : (liveOf M owner).length = hs.size := by
    obtain ⟨ps, p1, p2⟩ := W.ps
    have nd : ((liveOf M owner).map (·.1)).Nodup := List.Pairwise.imp (fun h => Nat.ne_of_lt h) r1
    have a := nat_nodup_len ((liveOf M owner).map (·.1)) ps nd fun x hx => by
      obtain ⟨⟨y, k⟩, hq, rfl⟩ := List.mem_map.mp hx
      obtain ⟨b1, b2⟩ := (mem_live W.sz).1 hq
      exact p2 y b1 fun z => by
        rw [b2] at z
        cases z
    have b := nat_nodup_len (List.range hs.size) ((liveOf M owner).map (·.2)) List.nodup_range fun k hk => inl k (List.mem_range.mp hk)
    rw [List.length_map, p1] at a
    rw [List.length_map, List.length_range] at b
    omega
  refine ⟨_, _, hr, perm_range hs.size _ (by simpa using hlen) (fun k hk => by simpa using inl k hk), ⟨r1, rfl, ?_, F, fun x hx => ?_, fun i h j h1 h2 => ?_⟩, rfl, rfl⟩
  · show ((liveOf M owner).map (·.1)).toArray.size = _
    simp
  · exact Nat.le_of_lt_succ (List.mem_range.mp (r2 x hx))
  · have h1' : (((liveOf M owner).map (·.2)).map fun i => hs.getD i 0)[i]? = some h := h1
    have h2' : ((liveOf M owner).map (·.1))[i]? = some j := h2
    rw [List.getElem?_map, List.getElem?_map] at h1'
    rw [List.getElem?_map] at h2'
    cases hq : (liveOf M owner)[i]? with
    | none =>
      rw [hq] at h2'
      cases h2'
    | some q =>
      obtain ⟨y, k⟩ := q
      rw [hq] at h1' h2'
      obtain rfl : y = j := Option.some.inj h2'
      have eh : hs.getD k 0 = h := Option.some.inj h1'
      obtain ⟨b1, b2⟩ := (mem_live W.sz).1 (List.mem_of_getElem? hq)
      obtain ⟨h0, K, a1, a2, a3⟩ := W.at_ y k b1 b2
      have e0 : hs.getD k 0 = h0 := by
        rw [Array.getD_eq_getD_getElem?, ← Array.getElem?_toList, a1]
        rfl
      obtain rfl : h0 = h := e0.symm.trans eh
      refine ⟨K, a2, fun k' hk' => ?_⟩
      show way M h0 k' ∈ (liveOf M owner).map (·.1)
      cases z : oAt owner (way M h0 k') with
      | none => exact absurd z (a3 k' hk')
      | some k2 => exact List.mem_map.mpr ⟨(way M h0 k', k2), (mem_live W.sz).2 ⟨way_top, z⟩, rfl⟩
theorem up20 : SetTable.sizeAbove (SetTable.grown 5) = 32 := by decide +kernel
theorem up76 : SetTable.sizeAbove (SetTable.grown 19) = 128 := by decide +kernel
theorem up308 : SetTable.sizeAbove (SetTable.grown 77) = 512 := by decide +kernel
end L2.K11
set_option Elab.async false
set_option linter.all false
set_option maxRecDepth 100000
set_option maxHeartbeats 4000000
namespace L2.K11
open PySem PySem.Spec PyProof.Rows
abbrev IsM (P : Program) (w : World) (h : Heap) (k : List Key) (a : Addr) : Prop := IsTupleKey (mixKind P w) h k a
abbrev mhash (P : Program) (w : World) (k : List Key) : Int := tupleKeyHash (mixKind P w) k
section
variable {P : Program} {w : World} {A : Around} {E : Value → Shared → Prop} {s : Shared}

/-! ### small questions asked of such tuples -/
def Leaf (v : Value) : Prop := (∃ i t, v = Value.int i t) ∨ ∃ x t, v = Value.str x t
theorem items_leaf {k : List Key} {vs : List Value} (h : ItemsAre (mixKind P w) k vs) : ∀ v ∈ vs, Leaf v := by
  induction h with
  | nil => exact fun v hv => nomatch hv
  | cons h1 _ ih =>
    intro v hv
    rcases List.mem_cons.mp hv with rfl | hv
    · rcases keyIs_shape h1 with ⟨i, t, _, e⟩ | ⟨x, t, _, e⟩
      · exact .inl ⟨i, t, e⟩
      · exact .inr ⟨x, t, e⟩
    · exact ih v hv
theorem cls_leaf {v : Value} (n : Nat) (h : Leaf v) : ofAClassStatement n v = pure false := by
  rcases h with ⟨i, t, rfl⟩ | ⟨x, t, rfl⟩ <;> cases n <;> rfl
theorem hash_leaf {v : Value} (n : Nat) (h : Leaf v) : ∃ b, hashByValue n v = pure b := by
  rcases h with ⟨i, t, rfl⟩ | ⟨x, t, rfl⟩
  · exact ⟨true, by cases n <;> rfl⟩
  · exact ⟨false, by cases n <;> rfl⟩
theorem cls_tup {k : List Key} {b : Addr} {Q : Bool → Shared → Prop} (hk : IsM P w s.heap k b) (h : Q false s) : wpAny (model P w) A (ofAClassStatement 8 (.ref b)) Q E s := by
  have hT := hk.typeIs
  obtain ⟨o, items, n, ho, _, hd, hi⟩ := hk
  unfold ofAClassStatement
  refine wpAny_bind (wpAny_typeOf hT ?_)
  dsimp only
  have e : (("tuple" : String) == "tuple") = true := by decide
  simp only [e, if_true, Bool.not_true, Bool.false_eq_true, if_false]
  try refine wpAny_bind (wpAny_pure ?_)
  try simp only [Bool.not_true, Bool.false_eq_true, if_false]
  show wpAny _ _ (seqItems? (.ref b) >>= _) _ _ s
  refine wpAny_bind (wpAny_seqItems ho hd ?_)
  dsimp only
  refine wpAny_bind ?_
  show wpAny _ _ (forIn items _ _) _ _ s
  rw [← Array.forIn_toList]
  refine wpAny_forIn_list _ (fun left r s' => r.1 = none ∧ s' = s ∧ ∀ v ∈ left, Leaf v) _ ?_ ?_ _ _ ⟨rfl, rfl, items_leaf hi⟩
  · rintro v left r s' ⟨hr, rfl, hall⟩
    rw [cls_leaf _ (hall v List.mem_cons_self)]
    refine wpAny_bind (wpAny_pure ?_)
    simp only [Bool.false_eq_true, if_false]
    exact wpAny_pure ⟨rfl, rfl, fun u hu' => hall u (List.mem_cons_of_mem _ hu')⟩
  · rintro ⟨r1, r2⟩ s' ⟨hr, rfl, _⟩
    simp only at hr
    subst hr
    exact wpAny_pure h
theorem hashed_tup {k : List Key} {b : Addr} {Q : Bool → Shared → Prop} (hk : IsM P w s.heap k b) (h : ∀ c, Q c s) : wpAny (model P w) A (hashByValue 8 (.ref b)) Q E s := by
  have hT := hk.typeIs
  obtain ⟨o, items, n, ho, _, hd, hi⟩ := hk
  unfold hashByValue
  refine wpAny_bind (wpAny_specialOf hT F.slot_tuple_hash.lookup ?_)
  show wpAny _ _ (seqItems? (.ref b) >>= _) _ _ s
  refine wpAny_bind (wpAny_seqItems ho hd ?_)
  refine wpAny_bind ?_
  show wpAny _ _ (forIn items _ _) _ _ s
  rw [← Array.forIn_toList]
  refine wpAny_forIn_list _ (fun left r s' => r.1 = none ∧ s' = s ∧ ∀ v ∈ left, Leaf v) _ ?_ ?_ _ _ ⟨rfl, rfl, items_leaf hi⟩
  · rintro v left r s' ⟨hr, rfl, hall⟩
    obtain ⟨c, ec⟩ := hash_leaf 7 (hall v List.mem_cons_self)
    rw [ec]
    refine wpAny_bind (wpAny_pure ?_)
    cases c with
    | true =>
      simp only [Bool.not_true, Bool.false_eq_true, if_false]
      exact wpAny_pure ⟨rfl, rfl, fun u hu' => hall u (List.mem_cons_of_mem _ hu')⟩
    | false =>
      simp only [Bool.not_false, if_true]
      exact wpAny_pure (wpAny_pure (h _))
  · rintro ⟨r1, r2⟩ s' ⟨hr, rfl, _⟩
    simp only at hr
    subst hr
    exact wpAny_pure (h _)
theorem unseen_tup {k : List Key} {b : Addr} {Q : Bool → Shared → Prop} (hk : IsM P w s.heap k b) {ys : List Value} (hy : ∀ y ∈ ys, ∃ k' c, y = Value.ref c ∧ IsM P w s.heap k' c) (h : Q false s) :
    wpAny (model P w) A (searchCouldBeSeen (.ref b) ys) Q E s := by
  unfold searchCouldBeSeen
  refine wpAny_bind ?_
  refine wpAny_forIn_list _ (fun left r s' => r.1 = none ∧ s' = s ∧ ∀ y ∈ left, ∃ k' c, y = Value.ref c ∧ IsM P w s.heap k' c) _ ?_ ?_ _ _ ⟨rfl, rfl, hy⟩
  · rintro v left r s' ⟨hr, rfl, hall⟩
    obtain ⟨k', c, rfl, hc⟩ := hall v List.mem_cons_self
    have left' : ∀ y ∈ left, ∃ k' c, y = Value.ref c ∧ IsM P w s'.heap k' c := fun u hu' => hall u (List.mem_cons_of_mem _ hu')
    dsimp only
    by_cases hv : (b == c || (carriedByValue (.ref b) && carriedByValue (.ref c))) = true
    · exact wp_if_pos hv (wpAny_pure ⟨rfl, rfl, left'⟩)
    · refine wp_if_neg hv ?_
      refine wpAny_bind (wpAny_eqIsQuiet_tuple hk ?_)
      simp only [Bool.not_true, Bool.false_eq_true, if_false]
      refine wpAny_bind (wpAny_eqIsQuiet_tuple hc ?_)
      simp only [Bool.not_true, Bool.false_eq_true, if_false]
      refine wpAny_bind (cls_tup hk ?_)
      simp only [Bool.false_eq_true, if_false]
      refine wpAny_bind (cls_tup hc ?_)
      simp only [Bool.false_eq_true, if_false]
      exact wpAny_pure ⟨rfl, rfl, left'⟩
  · rintro ⟨r1, r2⟩ s' ⟨hr, rfl, _⟩
    simp only at hr
    subst hr
    exact wpAny_pure h

/-! ### the set -/
abbrev Ent := Addr × List Key
def rowsM (P : Program) (w : World) (L : List Ent) : List (Int × Value) := L.map fun p => (mhash P w p.2, Value.ref p.1)
structure SetM (P : Program) (w : World) (h : Heap) (a : Addr) (L : List Ent) (es : Array (Int × Value)) (ep : Nat) (t : SetTable) : Prop where
  ob : ∃ o, h.get? a = some o ∧ o.ExactSet ∧ o.data = .set es ep t
  rows : es.toList = rowsM P w L
  tab : Tab t (L.map fun p => mhash P w p.2)
  nd : (L.map (·.2)).Nodup
  tup : ∀ p ∈ L, IsM P w h p.2 p.1
  led : w.params.followText "set-order" = true ∨ t.led = true
  room : L.length * 5 < t.mask * 3
variable {a : Addr} {L : List Ent} {es : Array (Int × Value)} {ep : Nat} {t : SetTable}
theorem SetM.size (R : SetM P w s.heap a L es ep t) : es.size = L.length := by
  have h := congrArg List.length R.rows
  simpa [rowsM] using h
theorem SetM.fits (R : SetM P w s.heap a L es ep t) : t.fits es.size = true := by
  have h1 := R.tab.sz
  rw [List.length_map] at h1
  have h2 := R.size
  have h3 := R.room
  unfold SetTable.fits SetTable.fill
  rw [R.tab.dm, Bool.and_eq_true, beq_iff_eq, decide_eq_true_eq]
  show t.place.size = es.size ∧ t.place.size + 0 ≤ t.mask
  omega
theorem SetM.entry (R : SetM P w s.heap a L es ep t) {i : Nat} {p : Ent} (h : L[i]? = some p) : es[i]? = some (mhash P w p.2, Value.ref p.1) := by
  rw [← Array.getElem?_toList, R.rows, rowsM, List.getElem?_map, h]
  rfl
theorem SetM.gw (R : SetM P w s.heap a L es ep t) : ¬ t.gaveWay = true := by
  unfold SetTable.gaveWay
  rw [R.tab.full.odd]
  decide

theorem dummy_nth (m : Nat) : ∀ (n : Nat) (p : SetTable.Probe), p.dummy = none → (nth m p n).dummy = none
  | 0, _, h => h
  | n + 1, p, h => dummy_nth m n (adv m p) (by
    unfold adv
    split <;> exact h)

/-- THE SEARCH: from the c-th step of the way on -/
theorem look_from (R : SetM P w s.heap a L es ep t) {x : Addr} {k : List Key} (hx : IsM P w s.heap k x) (hu : A.units < cLine) {K : Nat} (hKf : K < 10 * SetTable.turns t.mask)
    (hK : way t.mask (mhash P w k) K ∉ t.place.toList) (hKb : ∀ c, c < K → way t.mask (mhash P w k) c ∈ t.place.toList) {Q : SetFound → Shared → Prop}
    (hin : k ∈ L.map (·.2) → Q (.there none) s) (hout : k ∉ L.map (·.2) → Q (.free (way t.mask (mhash P w k) K) false) s) :
    ∀ (f c : Nat) (stand : Option SetTable.Probe), stand.getD (t.probeStart (mhash P w k)) = nth t.mask (runAt t.mask (SetTable.bits (mhash P w k) % (t.mask + 1)) (SetTable.bits (mhash P w k))) c → c ≤ K → K - c < f →
      (∀ (i : Nat) p, L[i]? = some p → p.2 = k → ∃ c', c ≤ c' ∧ c' < K ∧ t.place.toList[i]? = some (way t.mask (mhash P w k) c')) →
      wpAny (model P w) A (setSearchFrom a (.ref x) (mhash P w k) true f stand) Q E s
  | 0, c, stand, _, _, hf, _ => absurd hf (Nat.not_lt_zero _)
  | f + 1, c, stand, hst, hc, hf, hre => by
    obtain ⟨o, ho, hex, hd⟩ := R.ob
    rw [setSearchFrom_succ]
    refine wpAny_bind (wpAny_setState_of ho hd R.fits ?_)
    dsimp only
    refine wp_if_neg R.gw ?_
    try refine wpAny_bind (wpAny_pure ?_)
    generalize ep0 : runAt t.mask (SetTable.bits (mhash P w k) % (t.mask + 1)) (SetTable.bits (mhash P w k)) = p0 at hst
    have hw : ∀ q, way t.mask (mhash P w k) q = (nth t.mask p0 q).j := fun q => by rw [← ep0]
    have hnd : (nth t.mask p0 c).dummy = none := dummy_nth _ _ _ (by rw [← ep0]; rfl)
    have sh : ∀ q, nth t.mask (nth t.mask p0 c) q = nth t.mask p0 (c + q) := fun q => (nth_add t.mask c _ q).symm
    have e1 : ∀ q, (nth t.mask (nth t.mask p0 c) q).j = way t.mask (mhash P w k) (c + q) := fun q => by rw [sh, hw]
    have hcK : c + (K - c) = K := by omega
    have spec := go_spec t R.tab.ris R.tab.dm (fun i => (es[i]?.map (·.1)).getD 0) (mhash P w k) (10 * SetTable.turns t.mask) (K - c) _ hnd (by omega)
      (fun q hq => by rw [e1]; exact hKb _ (by omega)) (by rw [e1, hcK]; exact hK)
    have hashAt : ∀ (i : Nat) p, L[i]? = some p → (fun i => (es[i]?.map (·.1)).getD 0) i = mhash P w p.2 := fun i p hp => by
      show (es[i]?.map (·.1)).getD 0 = _
      rw [R.entry hp]
      rfl
    have hprobe : t.probe (fun i => (es[i]?.map (·.1)).getD 0) (mhash P w k) (stand.getD (t.probeStart (mhash P w k))) = SetTable.probe.go t (fun i => (es[i]?.map (·.1)).getD 0) (mhash P w k) (10 * SetTable.turns t.mask) (nth t.mask p0 c) := by
      rw [hst]
      rfl
    rcases spec with ⟨q, i, hq, hi, hh, hno, hpr⟩ | ⟨hno, hpr⟩
    · -- a candidate
      rw [sh, sh] at hpr
      rw [hprobe, hpr]
      dsimp only
      rw [sh] at hi
      have hil : i < L.length := by
        have h1 : i < t.place.toList.length := (List.getElem?_eq_some_iff.mp hi).1
        have h2 := R.tab.sz
        rw [List.length_map] at h2
        rw [Array.length_toList] at h1
        omega
      have hp : L[i]? = some L[i] := List.getElem?_eq_getElem hil
      generalize hpe : L[i] = p at hp
      have hmem : p ∈ L := List.mem_of_getElem? hp
      have hpt := R.tup p hmem
      have after : wpAny (model P w) A (searchRest a (.ref x) (mhash P w k) true f es t (nth t.mask p0 (c + q)).j i (nth t.mask p0 (c + (q + 1)))) Q E s := by
        unfold searchRest
        rw [R.entry hp]
        dsimp only
        refine wpAny_bind (wpAny_holding (wpAny_eqBool_tuple hu hpt hx ?_))
        refine wpAny_bind (wpAny_setState_of ho hd R.fits ?_)
        dsimp only
        by_cases hkk : p.2 = k
        · refine wp_if_pos (by simp [hkk]) ?_
          exact wpAny_pure (hin (List.mem_map.mpr ⟨p, hmem, hkk⟩))
        · refine wp_if_neg (by simp [hkk]) ?_
          try refine wpAny_bind (wpAny_pure ?_)
          rw [sameMem]
          dsimp only
          have hsl : t.slot (nth t.mask p0 (c + q)).j = .live i := slot_live R.tab.ris hi
          simp only [if_true, hsl, R.entry hp]
          refine wpAny_bind (wpAny_isSame_ref_self (wpAny_bind (wpAny_pure ?_)))
          simp only [if_true]
          refine wp_if_neg (by simp [hkk]) ?_
          refine look_from R hx hu hKf hK hKb hin hout f (c + (q + 1)) _ (by rw [ep0]; rfl) (by omega) (by omega) fun i0 p1 h0 hk0 => ?_
          obtain ⟨c', a1, a2, a3⟩ := hre i0 p1 h0 hk0
          refine ⟨c', ?_, a2, a3⟩
          rcases Nat.lt_trichotomy c' (c + q) with z | z | z
          · exfalso
            refine hno (c' - c) i0 (by omega) (by rw [e1, show c + (c' - c) = c' by omega]; exact a3) ?_
            exact (hashAt i0 p1 h0).trans (congrArg (mhash P w) hk0)
          · exfalso
            rw [z, hw] at a3
            have s0 := slot_live R.tab.ris a3
            rw [hsl] at s0
            injection s0 with s0
            rw [← s0, hp] at h0
            exact hkk ((congrArg Prod.snd (Option.some.inj h0)).trans hk0)
          · omega
      by_cases hl : t.led = true
      · refine wp_if_neg (by simp [hl]) ?_
        try refine wpAny_bind (wpAny_pure ?_)
        exact after
      · refine wp_if_pos (by simp [hl]) ?_
        refine wpAny_bind (unseen_tup hx (fun y hy => ?_) ?_)
        · obtain ⟨e, he, ee⟩ := List.mem_map.mp hy
          have he1 : e ∈ es ∧ e.1 = mhash P w k := by simpa using he
          have he2 : e ∈ es.toList := by simpa using he1.1
          rw [R.rows] at he2
          obtain ⟨p2, hp2, e2⟩ := List.mem_map.mp he2
          exact ⟨p2.2, p2.1, by rw [← ee, ← e2], R.tup p2 hp2⟩
        · refine wp_if_neg (by decide) ?_
          try refine wpAny_bind (wpAny_pure ?_)
          exact after
    · -- the empty slot
      rw [sh, hcK] at hpr
      rw [hprobe, hpr]
      dsimp only
      refine wpAny_pure ?_
      rw [← hw]
      refine hout fun hm => ?_
      obtain ⟨p1, h0, hk0⟩ := List.mem_map.mp hm
      obtain ⟨i0, hi0, e0⟩ := List.getElem_of_mem h0
      have h00 : L[i0]? = some p1 := by rw [List.getElem?_eq_getElem hi0, e0]
      obtain ⟨c', a1, a2, a3⟩ := hre i0 p1 h00 hk0
      refine hno (c' - c) i0 (by omega) (by rw [e1, show c + (c' - c) = c' by omega]; exact a3) ?_
      exact (hashAt i0 p1 h00).trans (congrArg (mhash P w) hk0)
theorem look_at (R : SetM P w s.heap a L es ep t) {x : Addr} {k : List Key} (hx : IsM P w s.heap k x) (hu : A.units < cLine) {Q : SetFound → Shared → Prop}
    (hin : k ∈ L.map (·.2) → Q (.there none) s)
    (hout : ∀ K, k ∉ L.map (·.2) → way t.mask (mhash P w k) K ∉ t.place.toList → (∀ c, c < K → way t.mask (mhash P w k) c ∈ t.place.toList) → Q (.free (way t.mask (mhash P w k) K) false) s) :
    wpAny (model P w) A (setSearch a (.ref x) (mhash P w k) true) Q E s := by
  have hroom := R.room
  obtain ⟨K, hKf, hK, hKb⟩ := R.tab.first (by rw [List.length_map]; omega) (mhash P w k)
  have hbig : 10 * SetTable.turns t.mask ≤ 99999 := by
    have := R.tab.full.top
    unfold SetTable.turns
    omega
  unfold setSearch
  refine look_from R hx hu hKf hK hKb hin (fun hn => hout K hn hK hKb) 100000 0 none rfl (Nat.zero_le _) (by omega) fun i p hp hk => ?_
  have hi : (L.map fun p => mhash P w p.2)[i]? = some (mhash P w k) := by
    rw [List.getElem?_map, hp, ← hk]
    rfl
  have hil : i < t.place.toList.length := by
    have h1 : i < L.length := (List.getElem?_eq_some_iff.mp hp).1
    have h2 := R.tab.sz
    rw [List.length_map] at h2
    rw [Array.length_toList]
    omega
  have hj := List.getElem?_eq_getElem hil
  obtain ⟨c, hc, e⟩ := R.tab.ahead hK hi hj
  exact ⟨c, Nat.zero_le _, hc, by rw [hj, e]⟩
end
end L2.K11
set_option Elab.async false
set_option linter.all false
set_option maxRecDepth 100000
set_option maxHeartbeats 4000000
namespace L2.K11
open PySem PySem.Spec PyProof.Rows
section
variable {P : Program} {w : World} {A : Around} {E : Value → Shared → Prop} {s : Shared}
theorem isM_but {h h' : Heap} {k : List Key} {a b : Addr} {o : Obj} {es : Array (Int × Value)} {ep : Nat} {t : SetTable} (hb : IsM P w h k b) (ho : h.get? a = some o) (hd : o.data = .set es ep t) (hs : Heap.SameBut a h h') : IsM P w h' k b := by
  obtain ⟨o', items, n, ho', hc, hd', hi⟩ := hb
  have hne : b ≠ a := by
    rintro rfl
    rw [ho] at ho'
    cases ho'
    rw [hd] at hd'
    exact nomatch hd'
  exact ⟨o', items, n, (hs.2 b hne).trans ho', hc, hd', hi⟩
theorem rows_ins (L : List Ent) (p : Nat) (x : Addr) (k : List Key) : rowsM P w (L.take p ++ (x, k) :: L.drop p) = (rowsM P w L).take p ++ (mhash P w k, Value.ref x) :: (rowsM P w L).drop p := by
  simp [rowsM, List.map_take, List.map_drop]
theorem ins_perm {α : Type} (L : List α) (p : Nat) (x : α) : (L.take p ++ x :: L.drop p).Perm (x :: L) := by
  have h : (L.take p ++ x :: L.drop p).Perm (x :: (L.take p ++ L.drop p)) := List.perm_middle
  rwa [List.take_append_drop] at h
theorem take_fm {α : Type} (L : List α) : ∀ n, n ≤ L.length → (List.range n).filterMap (fun i => L[i]?) = L.take n
  | 0, _ => rfl
  | n + 1, hn => by
    have hlt : n < L.length := hn
    rw [List.range_succ, List.filterMap_append, take_fm L n (Nat.le_of_lt hlt), List.take_add_one, List.getElem?_eq_getElem hlt]
    simp [List.getElem?_eq_getElem hlt]
theorem rows_order (L : List Ent) (es : Array (Int × Value)) (order : Array Nat) (hr : es.toList = rowsM P w L) (hp : order.toList.Perm (List.range L.length)) :
    ∃ L2, (order.filterMap (es[·]?)).toList = rowsM P w L2 ∧ L2.Perm L ∧ (L2.map fun p => mhash P w p.2) = order.toList.map fun i => (es.map (·.1)).getD i 0 := by
  have hsz : es.size = L.length := by
    have h := congrArg List.length hr
    simpa [rowsM] using h
  have ent : ∀ i (h : i < L.length), es[i]? = some (mhash P w (L[i]).2, Value.ref (L[i]).1) := fun i h => by
    rw [← Array.getElem?_toList, hr, rowsM, List.getElem?_map, List.getElem?_eq_getElem h]
    rfl
  have key : ∀ l : List Nat, (∀ i ∈ l, i < L.length) → ∃ L2 : List Ent, l.filterMap (fun i => es[i]?) = rowsM P w L2 ∧ L2 = l.filterMap (fun i => L[i]?) ∧ (L2.map fun p => mhash P w p.2) = l.map fun i => (es.map (·.1)).getD i 0 := by
    intro l
    induction l with
    | nil => exact fun _ => ⟨[], rfl, rfl, rfl⟩
    | cons i l ih =>
      intro hl
      have hi := hl i List.mem_cons_self
      obtain ⟨L2, e1, e2, e3⟩ := ih fun j hj => hl j (List.mem_cons_of_mem _ hj)
      refine ⟨L[i] :: L2, ?_, ?_, ?_⟩
      · rw [List.filterMap_cons_some (ent i hi), e1]
        rfl
      · rw [List.filterMap_cons_some (List.getElem?_eq_getElem hi), e2]
      · rw [List.map_cons, List.map_cons, e3]
        have e4 : (es.map (·.1)).getD i 0 = mhash P w (L[i]).2 := by
          have e5 : (es.map (·.1))[i]? = some (mhash P w (L[i]).2) := by
            rw [Array.getElem?_map, ent i hi]
            rfl
          simp [Array.getD_eq_getD_getElem?, e5]
        rw [e4]
  obtain ⟨L2, e1, e2, e3⟩ := key order.toList fun i hi => List.mem_range.mp (hp.mem_iff.mp hi)
  refine ⟨L2, by simpa using e1, ?_, e3⟩
  have h1 : L2.Perm ((List.range L.length).filterMap fun i => L[i]?) := by
    rw [e2]
    exact hp.filterMap _
  rwa [take_fm L L.length (Nat.le_refl _), List.take_length] at h1

variable {a : Addr} {L : List Ent} {es : Array (Int × Value)} {ep : Nat} {t : SetTable}
theorem laid_at {o : Obj} (ho : s.heap.get? a = some o) (hex : o.ExactSet) (hd : o.data = .set es ep t) (hrows : es.toList = rowsM P w L) (hsz : t.place.size = es.size) (hdm : t.dummies = #[]) (hfl : es.size ≤ t.mask)
    (nd : (L.map (·.2)).Nodup) (tup : ∀ p ∈ L, IsM P w s.heap p.2 p.1) (ld : w.params.followText "set-order" = true ∨ t.led = true) {wanted M : Nat}
    (hw : SetTable.sizeAbove wanted - 1 = M) (hM : Full M) (hw2 : SetTable.sizeAbove wanted ≤ 512) (hn : L.length * 5 < M * 3) {Q : Unit → Shared → Prop}
    (hQ : ∀ h' L' es' ep' t', Heap.SameBut a s.heap h' → SetM P w h' a L' es' ep' t' → L'.Perm L → Q () { s with heap := h' }) : wpAny (model P w) A (setRelay a wanted) Q E s := by
  have hsl : es.size = L.length := by
    have h := congrArg List.length hrows
    simpa [rowsM] using h
  have hML := hM.top
  have hfits : t.fits es.size = true := by
    unfold SetTable.fits SetTable.fill
    rw [hdm, Bool.and_eq_true, beq_iff_eq, decide_eq_true_eq]
    show t.place.size = es.size ∧ t.place.size + 0 ≤ t.mask
    omega
  obtain ⟨t', order, e, hp, T, em, el⟩ := anew_ok t (hs := es.map (·.1)) (wanted := wanted) hw hM (by rw [Array.size_map, hsl]; omega)
  rw [Array.size_map, hsl] at hp
  obtain ⟨L2, r1, r2, r3⟩ := rows_order L es order hrows hp
  rw [← r3] at T
  have hs2 : (order.filterMap (es[·]?)).size = es.size := by
    have h := congrArg List.length r1
    rw [rowsM, Array.length_toList, List.length_map, r2.length_eq] at h
    rw [h, hsl]
  rw [setRelay_eq]
  refine wpAny_bind (wpAny_setState_of ho hd hfits ?_)
  dsimp only
  refine wp_if_neg (by rw [sizeLine_eq]; omega) ?_
  try refine wpAny_bind (wpAny_pure ?_)
  rw [e]
  dsimp only
  refine wpAny_bind ?_
  refine wp_if_neg (by rw [hs2]; simp) ?_
  try refine wpAny_bind (wpAny_pure ?_)
  refine wpAny_pure ?_
  dsimp only
  refine wpAny_storeSet_of ho hd ?_ (by rw [hs2, hsl, sizeLine_eq]; omega)
  have sb : Heap.SameBut a s.heap (s.heap.update a (Obj.putSet (order.filterMap (es[·]?)) t')) := Heap.SameBut.update ..
  refine hQ _ L2 _ (ep + 1) t' sb ⟨⟨_, store_at ho hd, ⟨hex.1, hex.2.1, hex.2.2⟩, rfl⟩, r1, T, (r2.map (·.2)).nodup_iff.mpr nd, fun p hpm => isM_but (tup p (r2.mem_iff.mp hpm)) ho hd sb, by rw [el]; exact ld, ?_⟩ r2
  rw [r2.length_eq, em]
  exact hn

/-- adding what is there -/
theorem put_old (R : SetM P w s.heap a L es ep t) {x : Addr} {k : List Key} (hx : IsM P w s.heap k x) (hu : A.units < cLine) (hm : k ∈ L.map (·.2)) {Q : Bool → Shared → Prop} (hQ : Q false s) :
    wpAny (model P w) A (setAddHashed a (.ref x) (mhash P w k)) Q E s := by
  obtain ⟨o, ho, hex, hd⟩ := R.ob
  unfold setAddHashed
  refine wpAny_holding ?_
  rw [show (100000 : Nat) = 99999 + 1 from rfl, setAddHashedIn_succ]
  refine wpAny_bind (wpAny_setState_of ho hd R.fits ?_)
  dsimp only
  refine wp_if_neg (by simp [byScan, Value.scannable]) ?_
  try refine wpAny_bind (wpAny_pure ?_)
  refine wpAny_bind (look_at R hx hu (fun _ => ?_) fun K hn => absurd hm hn)
  dsimp only
  exact wpAny_pure hQ
/-- ADDING, to fewer than 306 members -/
theorem put_at (R : SetM P w s.heap a L es ep t) {x : Addr} {k : List Key} (hx : IsM P w s.heap k x) (hu : A.units < cLine) (hfew : L.length < 306) {Q : Bool → Shared → Prop}
    (hQ : ∀ b h' L' es' ep' t', Heap.SameBut a s.heap h' → SetM P w h' a L' es' ep' t' → (k ∈ L.map (·.2) → L' = L) → (k ∉ L.map (·.2) → L'.Perm ((x, k) :: L)) → Q b { s with heap := h' }) :
    wpAny (model P w) A (setAddHashed a (.ref x) (mhash P w k)) Q E s := by
  obtain ⟨o, ho, hex, hd⟩ := R.ob
  have hsl := R.size
  have hroom := R.room
  unfold setAddHashed
  refine wpAny_holding ?_
  rw [show (100000 : Nat) = 99999 + 1 from rfl, setAddHashedIn_succ]
  refine wpAny_bind (wpAny_setState_of ho hd R.fits ?_)
  dsimp only
  refine wp_if_neg (by simp [byScan, Value.scannable]) ?_
  try refine wpAny_bind (wpAny_pure ?_)
  refine wpAny_bind (look_at R hx hu (fun hm => ?_) fun K hm hK hb => ?_)
  · dsimp only
    exact wpAny_pure (hQ false s.heap L es ep t (Heap.SameBut.refl a s.heap) R (fun _ => rfl) fun z => absurd hm z)
  · dsimp only
    refine wpAny_bind (wpAny_setState_of ho hd R.fits ?_)
    dsimp only
    obtain ⟨q2, q3, q9⟩ := R.tab.put hK hb rfl
    have q4 : (t.put (way t.mask (mhash P w k) K)).1.mask = t.mask := rfl
    have q5 : (t.put (way t.mask (mhash P w k) K)).1.led = t.led := rfl
    have q1 : (t.put (way t.mask (mhash P w k) K)).2 = SetTable.below t.place (way t.mask (mhash P w k) K) := rfl
    generalize t.put (way t.mask (mhash P w k) K) = pt at q1 q3 q4 q5 q9 ⊢
    obtain ⟨t1, p⟩ := pt
    dsimp only at q1 q3 q4 q5 q9 ⊢
    subst q1
    have hin : (SetTable.insertAt es (SetTable.below t.place (way t.mask (mhash P w k) K)) (mhash P w k, Value.ref x)).toList = rowsM P w (L.take (SetTable.below t.place (way t.mask (mhash P w k) K)) ++ (x, k) :: L.drop (SetTable.below t.place (way t.mask (mhash P w k) K))) := by
      rw [SetTable.toList_insertAt, rows_ins, R.rows]
    generalize SetTable.below t.place (way t.mask (mhash P w k) K) = p at q2 q3 hin ⊢
    have pm := ins_perm L p (x, k)
    have hlen : (L.take p ++ (x, k) :: L.drop p).length = L.length + 1 := pm.length_eq
    have hhs : (L.take p ++ (x, k) :: L.drop p).map (fun p => mhash P w p.2) = (L.map fun p => mhash P w p.2).take p ++ mhash P w k :: (L.map fun p => mhash P w p.2).drop p := by
      simp [List.map_take, List.map_drop]
    rw [← hhs] at q3
    have nd1 : ((L.take p ++ (x, k) :: L.drop p).map (·.2)).Nodup := by
      refine (pm.map (·.2)).nodup_iff.mpr ?_
      rw [List.map_cons]
      exact List.nodup_cons.mpr ⟨hm, R.nd⟩
    have hes : (SetTable.insertAt es p (mhash P w k, Value.ref x)).size = L.length + 1 := by
      have h := congrArg List.length hin
      rw [rowsM, Array.length_toList, List.length_map, hlen] at h
      exact h
    generalize SetTable.insertAt es p (mhash P w k, Value.ref x) = es1 at hin hes ⊢
    generalize L.take p ++ (x, k) :: L.drop p = L1 at pm hlen q3 nd1 hin
    have q9' : t1.fill = L.length + 1 := by rw [q9, List.length_map]
    -- whatever the mark is
    have go : ∀ t2 : SetTable, t2.mask = t1.mask → t2.led = t1.led → t2.place = t1.place → t2.dummies = t1.dummies →
        wpAny (model P w) A (do
          storeSet a es1 t2
          if (!false && t2.tooFull) = true then setRelay a (SetTable.grown (es.size + 1))
          return true) Q E s := by
      intro t2 m1 m2 m3 m4
      have T2 : Tab t2 (L1.map fun p => mhash P w p.2) := ⟨by rw [m3]; exact q3.ris, by rw [m4]; exact q3.dm, by rw [m3]; exact q3.sz, by rw [m1]; exact q3.full, by rw [m3, m1]; exact q3.bd, by rw [m3, m1]; exact q3.reach⟩
      have f2 : t2.fill = L.length + 1 := by
        rw [← q9']
        unfold SetTable.fill
        rw [m3, m4]
      refine wpAny_bind (wpAny_storeSet_of ho hd ?_ (by rw [hes, sizeLine_eq]; omega))
      have sb : Heap.SameBut a s.heap (s.heap.update a (Obj.putSet es1 t2)) := Heap.SameBut.update ..
      have ho1 := store_at (es' := es1) (t' := t2) ho hd
      generalize s.heap.update a (Obj.putSet es1 t2) = h1 at sb ho1 ⊢
      have tup1 : ∀ p ∈ L1, IsM P w h1 p.2 p.1 := fun p hp => by
        rcases List.mem_cons.mp (pm.mem_iff.mp hp) with e | hp
        · rw [e]
          exact isM_but hx ho hd sb
        · exact isM_but (R.tup p hp) ho hd sb
      have ld1 : w.params.followText "set-order" = true ∨ t2.led = true := by
        rw [m2, q5]
        exact R.led
      by_cases hf : t2.tooFull = true
      · first
          | (refine wpAny_bind ?_; refine wp_if_pos (by simp [hf]) ?_)
          | (refine wp_if_pos (by simp [hf]) ?_; refine wpAny_bind ?_)
        have hfull : (L.length + 1) * 5 ≥ t.mask * 3 := by
          have h := hf
          unfold SetTable.tooFull at h
          rw [decide_eq_true_eq, f2, m1, q4] at h
          exact h
        rw [hsl]
        have hsz1 : t2.place.size = es1.size := by
          have h := T2.sz
          rw [List.length_map, hlen] at h
          rw [h, hes]
        have hmk : L.length + 1 ≤ t2.mask := by
          rw [m1, q4]
          have := q3.full.odd
          rw [q4] at this
          omega
        have go2 : ∀ M, SetTable.sizeAbove (SetTable.grown (L.length + 1)) - 1 = M → Full M → SetTable.sizeAbove (SetTable.grown (L.length + 1)) ≤ 512 → (L.length + 1) * 5 < M * 3 →
            wpAny (model P w) A (setRelay a (SetTable.grown (L.length + 1))) (fun _ s' => wpAny (model P w) A (pure true) Q E s') E { s with heap := h1 } := fun M g1 g2 g3 g4 => by
          refine laid_at (s := { s with heap := h1 }) ho1 ⟨hex.1, hex.2.1, hex.2.2⟩ rfl hin hsz1 T2.dm (by rw [hes]; exact hmk) nd1 tup1 ld1 g1 g2 g3 (by rw [hlen]; exact g4) ?_
          intro h2 L2 es2 ep2 t3 sb2 R2 pm2
          exact wpAny_pure (hQ true h2 L2 es2 ep2 t3 (sb.trans sb2) R2 (fun z => absurd z hm) fun _ => pm2.trans pm)
        have hcase : (L.length = 4 ∨ L.length = 18) ∨ L.length = 76 := by
          have : t.mask = 7 ∨ t.mask = 31 ∨ t.mask = 127 ∨ t.mask = 511 := R.tab.full.msk
          omega
        rcases hcase with (e2 | e2) | e2
        · exact go2 31 (by rw [e2, up20]) full31 (by rw [e2, up20]; decide) (by omega)
        · exact go2 127 (by rw [e2, up76]) full127 (by rw [e2, up76]; decide) (by omega)
        · exact go2 511 (by rw [e2, up308]) full511 (by rw [e2, up308]; decide) (by omega)
      · first
          | refine wp_if_neg (by simp [hf]) ?_
          | (refine wpAny_bind ?_; refine wp_if_neg (by simp [hf]) ?_; refine wpAny_pure ?_)
        refine wpAny_pure (hQ true h1 L1 es1 (ep + 1) t2 sb ⟨⟨_, ho1, ⟨hex.1, hex.2.1, hex.2.2⟩, rfl⟩, hin, T2, nd1, tup1, ld1, ?_⟩ (fun z => absurd z hm) fun _ => pm)
        have h := hf
        unfold SetTable.tooFull at h
        rw [decide_eq_true_eq, f2] at h
        rw [hlen]
        omega
    by_cases hp1 : t1.plain = true
    · first
        | (refine wpAny_bind ?_; refine wp_if_pos hp1 ?_; refine hashed_tup hx fun c => ?_)
        | refine wp_if_pos hp1 (wpAny_bind (hashed_tup hx fun c => ?_))
      cases c with
      | true => simpa using go t1 rfl rfl rfl rfl
      | false => simpa using go { t1 with plain := false } rfl rfl rfl rfl
    · first
        | (refine wpAny_bind ?_; refine wp_if_neg hp1 ?_; refine wpAny_pure ?_)
        | refine wp_if_neg hp1 (wpAny_bind (wpAny_pure ?_))
      simpa using go t1 rfl rfl rfl rfl
end
end L2.K11
set_option Elab.async false
set_option linter.all false
set_option maxRecDepth 100000
set_option maxHeartbeats 4000000
namespace L2.K11
open PySem PySem.Spec PyProof.Rows
/-- what the set has got from the first i items; fewer than 306 keys in all -/
structure GotM (ks : List Ent) (i : Nat) (L : List Ent) : Prop where
  sub : ∀ p ∈ L, p ∈ ks.take i
  all : ∀ p ∈ ks.take i, p.2 ∈ L.map (·.2)
theorem got0 (ks : List Ent) : GotM ks 0 [] := ⟨fun p h => (nomatch h), fun p h => by simp at h⟩
theorem GotM.old {ks L : List Ent} {i : Nat} {x : Ent} (g : GotM ks i L) (h : ks[i]? = some x) (hm : x.2 ∈ L.map (·.2)) : GotM ks (i + 1) L := by
  refine ⟨fun p hp => ?_, fun p hp => ?_⟩
  · rw [take_next h]
    exact List.mem_append_left _ (g.sub p hp)
  · rw [take_next h] at hp
    rcases List.mem_append.mp hp with z | z
    · exact g.all p z
    · rwa [List.mem_singleton.mp z]
theorem GotM.new {ks L L' : List Ent} {i : Nat} {x : Ent} (g : GotM ks i L) (h : ks[i]? = some x) (pm : L'.Perm (x :: L)) : GotM ks (i + 1) L' := by
  refine ⟨fun p hp => ?_, fun p hp => ?_⟩
  · rw [take_next h]
    rcases List.mem_cons.mp (pm.mem_iff.mp hp) with rfl | z
    · exact List.mem_append_right _ (List.mem_singleton.mpr rfl)
    · exact List.mem_append_left _ (g.sub p z)
  · rw [(pm.map (·.2)).mem_iff, List.map_cons]
    rw [take_next h] at hp
    rcases List.mem_append.mp hp with z | z
    · exact List.mem_cons_of_mem _ (g.all p z)
    · rw [List.mem_singleton.mp z]
      exact List.mem_cons_self
/-- the keys are among fewer than 306 -/
def Few (ks : List Ent) : Prop := ∃ U : List (List Key), U.length ≤ 306 ∧ ∀ p ∈ ks, p.2 ∈ U
theorem nodup_le {α : Type} [DecidableEq α] : ∀ (l D : List α), l.Nodup → (∀ x ∈ l, x ∈ D) → l.length ≤ D.length
  | [], _, _, _ => Nat.zero_le _
  | x :: l, D, hn, hs => by
    obtain ⟨h1, h2⟩ := List.nodup_cons.mp hn
    have hx : x ∈ D := hs x List.mem_cons_self
    have ih := nodup_le l (D.erase x) h2 fun y hy => by
      have hne : y ≠ x := fun e => h1 (e ▸ hy)
      exact (List.mem_erase_of_ne hne).2 (hs y (List.mem_cons_of_mem _ hy))
    have e := List.length_erase_of_mem hx
    have hp : 0 < D.length := List.length_pos_of_mem hx
    rw [List.length_cons]
    omega
theorem few_now {ks L : List Ent} {i : Nat} {x : Ent} (f : Few ks) (g : GotM ks i L) (h : ks[i]? = some x) (nd : (L.map (·.2)).Nodup) (hx : x.2 ∉ L.map (·.2)) : L.length < 306 := by
  obtain ⟨U, hU, hk⟩ := f
  have q := nodup_le (x.2 :: L.map (·.2)) U (List.nodup_cons.mpr ⟨hx, nd⟩) fun y hy => by
    rcases List.mem_cons.mp hy with rfl | hy
    · exact hk x (List.mem_of_getElem? h)
    · obtain ⟨p, hp, rfl⟩ := List.mem_map.mp hy
      exact hk p (List.mem_of_mem_take (g.sub p hp))
  rw [List.length_cons, List.length_map] at q
  omega
section
variable {P : Program} {w : World} {A : Around} {E : Value → Shared → Prop} {s : Shared}
theorem isM_keep {h h' : Heap} {k : List Key} {b : Addr} (x : IsM P w h k b) (hk : ∀ c o, h.get? c = some o → h'.get? c = some o) : IsM P w h' k b := by
  obtain ⟨o, items, n, ho, r⟩ := x
  exact ⟨o, items, n, hk b o ho, r⟩
theorem SetM.keep {h h' : Heap} {a : Addr} {L : List Ent} {es : Array (Int × Value)} {ep : Nat} {t : SetTable} (R : SetM P w h a L es ep t) (ha : ∀ o, h.get? a = some o → h'.get? a = some o) (ht : ∀ p ∈ L, IsM P w h' p.2 p.1) : SetM P w h' a L es ep t := by
  obtain ⟨o, ho, r⟩ := R.ob
  exact ⟨⟨o, ha o ho, r⟩, R.rows, R.tab, R.nd, ht, R.led, R.room⟩
abbrev setObj0 (w : World) : Obj := { cls := .type "set", dict := none, data := .set #[] 0 (.fresh 0 0 (!w.params.followText "set-order")) }
theorem setM_fresh {h : Heap} {a : Addr} (ho : h.get? a = some (setObj0 w)) : SetM P w h a [] #[] 0 (.fresh 0 0 (!w.params.followText "set-order")) where
  ob := ⟨_, ho, ⟨rfl, rfl, rfl⟩, rfl⟩
  rows := rfl
  tab := ⟨List.Pairwise.nil, rfl, rfl, full7, fun x hx => (nomatch hx), fun i h j hi => by simp at hi⟩
  nd := List.nodup_nil
  tup := fun p hp => nomatch hp
  led := by
    show _ ∨ (!w.params.followText "set-order") = true
    cases w.params.followText "set-order"
    · exact .inr rfl
    · exact .inl rfl
  room := by
    show 0 * 5 < 7 * 3
    decide

/-- set.update's loop -/
theorem set_fill {I : Addr} {fp wr : List Addr} {G : Array GenState → Array GenState → Prop} {n : Nat} {Pv : Nat → Value → Prop} {St : Nat → Shared → Prop} {R : Result → Shared → Prop}
    (W : WalksS P w A.in1 I fp wr G n Pv St) (S : Addr) (hSf : S ∉ fp) (ks : List Ent) (hn : n = ks.length) (hfew : Few ks) (hval : ∀ i v, Pv i v → ∃ p, ks[i]? = some p ∧ v = .ref p.1)
    (h0 : Heap) (hk : ∀ p ∈ ks, IsM P w h0 p.2 p.1) (hS0 : h0.get? S = none) (hw0 : ∀ b ∈ wr, h0.get? b = none) (hu : A.in1.units < cLine) :
    ∀ (k i : Nat) (s : Shared), n - i = k → i ≤ n → St i s → (∀ b o, h0.get? b = some o → s.heap.get? b = some o) → (∃ L es ep t, SetM P w s.heap S L es ep t ∧ GotM ks i L) →
      (∀ s' L es ep t, Moved (S :: wr) G s s' → SetM P w s'.heap S L es ep t → GotM ks n L → (∀ b o, h0.get? b = some o → s'.heap.get? b = some o) → R (.ok (.ret .none)) s') →
      codeAny (model P w) A (.builtin "set.update.loop" ⟨[.ref S, .ref I], []⟩) R s := by
  have hSw : S ∉ wr := fun h => hSf (W.sub _ h)
  have hsub : ∀ b ∈ wr, b ∈ S :: wr := fun b hb => List.mem_cons_of_mem _ hb
  have keepM : ∀ {s s' : Shared}, Moved wr G s s' → (∀ b o, h0.get? b = some o → s.heap.get? b = some o) → ∀ b o, h0.get? b = some o → s'.heap.get? b = some o := fun hm hkp b o e =>
    hm.heap b o (fun hb => by rw [hw0 b hb] at e; cases e) (hkp b o e)
  intro k
  induction k with
  | zero =>
    intro i s hk' hi hst hkp hSG hR
    obtain ⟨L, es, ep, t, hS, g⟩ := hSG
    obtain rfl : i = n := by omega
    refine codeAny_builtin F.entry_set_update_loop ?_
    rw [Around.under_plainId F.plain_set_update_loop _]
    show wpAny _ A.in1 (pyNext (.ref I) >>= _) _ _ s
    refine wpAny_bind (W.done s _ _ hst fun s' hm => ?_)
    show wpAny _ A.in1 (ret Value.none) _ _ s'
    have hkp' := keepM hm hkp
    exact wpAny_pure (hR s' L es ep t (hm.mono hsub) (hS.keep (fun o e => hm.heap S o hSw e) fun p hp => isM_keep (hk p (List.mem_of_mem_take (g.sub p hp))) hkp') g hkp')
  | succ k ih =>
    intro i s hk' hi hst hkp hSG hR
    obtain ⟨L, es, ep, t, hS, g⟩ := hSG
    have hlt : i < n := by omega
    refine codeAny_builtin F.entry_set_update_loop ?_
    rw [Around.under_plainId F.plain_set_update_loop _]
    show wpAny _ A.in1 (pyNext (.ref I) >>= _) _ _ s
    refine wpAny_bind (W.item i s _ _ hlt hst fun v s' hP hst' hm => ?_)
    obtain ⟨p, hp, rfl⟩ := hval i v hP
    have hkp' := keepM hm hkp
    have hS' : SetM P w s'.heap S L es ep t := hS.keep (fun o e => hm.heap S o hSw e) fun q hq => isM_keep (hk q (List.mem_of_mem_take (g.sub q hq))) hkp'
    have hx : IsM P w s'.heap p.2 p.1 := isM_keep (hk p (List.mem_of_getElem? hp)) hkp'
    show wpAny _ A.in1 (holding [Value.ref p.1] (setAdd S (.ref p.1)) >>= _) _ _ s'
    refine wpAny_bind (wpAny_holding ?_)
    unfold setAdd
    refine wpAny_holding ?_
    refine wpAny_bind (wpAny_pyHash_tuple hu hx ?_)
    have cont : ∀ (b : Bool) (h' : Heap) (L' : List Ent) (es' : Array (Int × Value)) (ep' : Nat) (t' : SetTable), Heap.SameBut S s'.heap h' → SetM P w h' S L' es' ep' t' → (p.2 ∈ L.map (·.2) → L' = L) → (p.2 ∉ L.map (·.2) → L'.Perm ((p.1, p.2) :: L)) →
        wpAny (model P w) A.in1 (again (.builtin "set.update.loop" ⟨[.ref S, .ref I], []⟩)) (fun fin s' => match fin with | .done f => R (.ok f) s' | .again c' => c'.quiet = true ∧ codeAny (model P w) A c' R s') (fun e s' => R (.error e) s') { s' with heap := h', toks := s'.toks + (p.2.length + 1) } := by
      intro b h' L' es' ep' t' hsb hS2 c1 c2
      have g' : GotM ks (i + 1) L' := by
        rcases Classical.em (p.2 ∈ L.map (·.2)) with c | c
        · rw [c1 c]
          exact g.old hp c
        · exact g.new hp (c2 c)
      have hkp2 : ∀ b o, h0.get? b = some o → h'.get? b = some o := fun b o e => (hsb.2 b (fun z => by rw [z, hS0] at e; cases e)).trans (hkp' b o e)
      refine wpAny_pure ⟨plainId_quiet F.plain_set_update_loop _, ih (i + 1) _ (by omega) hlt (W.frame _ s' _ _ hst' (Nat.le_add_right _ _) fun b hb o e => ?_) hkp2 ⟨L', es', ep', t', hS2, g'⟩ fun s'' L2 es2 ep2 t2 hm'' hS'' g'' hkp'' => ?_⟩
      · rw [hsb.2 b (fun h : b = S => hSf (by rw [← h]; exact hb))]
        exact e
      · refine hR s'' L2 es2 ep2 t2 (Moved.trans W.gtrans ((hm.mono hsub).then_heap (Nat.le_add_right _ _) fun b o hb e => ?_) hm'') hS'' g'' hkp''
        rw [hsb.2 b (fun h : b = S => hb (by rw [h]; exact List.mem_cons_self))]
        exact e
    rcases Classical.em (p.2 ∈ L.map (·.2)) with c | c
    · refine put_old (s := { s' with toks := s'.toks + (p.2.length + 1) }) hS' hx hu c ?_
      exact cont false s'.heap L es ep t (Heap.SameBut.refl _ _) hS' (fun _ => rfl) fun z => absurd c z
    · exact put_at (s := { s' with toks := s'.toks + (p.2.length + 1) }) hS' hx hu (few_now hfew g hp hS.nd c) cont
end
end L2.K11
set_option Elab.async false
set_option linter.all false
set_option maxRecDepth 100000
set_option maxHeartbeats 4000000
namespace L2.K11
open PySem PySem.Spec PyProof.Rows
section
variable {P : Program} {w : World} {A : Around} {E : Value → Shared → Prop} {s : Shared}
/-- addresses of tuples, each with its way -/
abbrev AW := Addr × Way
abbrev entW (p : AW) : Ent := (p.1, p.2.key)
theorem reads_leaf {h : Heap} : ∀ {k : List Key} {vs : List Value} {ds : List PyData}, ItemsAre (mixKind P w) k vs → k.map (fun z => match z with | .inl i => PyData.int i | .inr x => PyData.str x) = ds → ReadsAll h vs ds []
  | _, _, _, .nil, rfl => .nil
  | _, _, _, .cons (k := k) h1 t, rfl => by
    have r2 := reads_leaf (h := h) t rfl
    rcases keyIs_shape h1 with ⟨i, u, rfl, rfl⟩ | ⟨x, u, rfl, rfl⟩
    · exact .cons (as := []) (bs := []) (.int i u) r2
    · exact .cons (as := []) (bs := []) (.str x u) r2
theorem reads_way {h : Heap} {a : Addr} {v : Way} (x : IsM P w h v.key a) : Reads h (.ref a) v.data [] := by
  obtain ⟨o, items, n, ho, hc, hd, hi⟩ := x
  cases v <;> exact .tuple ho hc hd (reads_leaf hi rfl)
theorem each_ref {h : Heap} {R : Value → AW → Prop} : ∀ L : List AW, (∀ p ∈ L, R (.ref p.1) p) → PySem.W.EachIs R (L.map fun p => Value.ref p.1) L
  | [], _ => .nil
  | p :: L, hL => .cons (hL p List.mem_cons_self) (each_ref (h := h) L fun q hq => hL q (List.mem_cons_of_mem _ hq))
theorem each_out : ∀ {out : List Value} {L : List AW}, PySem.W.EachIs (fun v p => v = Value.ref p.1) out L → out = L.map fun p => Value.ref p.1
  | _, _, .nil => rfl
  | _, _, .cons h t => by rw [h, each_out t, List.map_cons]
/-- what stands behind «the items gathered»: a new list, sorted -/
theorem sort_new {L : List AW} {Q : Value → Shared → Prop} (hL : L.length ≤ sizeLine) (hx : ∀ p ∈ L, IsM P w s.heap p.2.key p.1) (hu : A.units + 4 < cLine)
    (hQ : ∀ (h' : Heap) (out : Array Value) (c : Nat) (L' : List AW), (∀ b o, s.heap.get? b = some o → h'.get? b = some o) → h'.get? s.heap.objs.size = some (seqObj "list" out c) → out.toList = L'.map (fun p => Value.ref p.1) → L'.Perm L → L'.Pairwise (fun p q => wle p.2 q.2 = true) →
      Q (.ref s.heap.objs.size) { s with heap := h' }) :
    wpAny (model P w) A (do
      let l ← newList (L.map fun p => Value.ref p.1)
      let _ ← holding [l] (call (.builtin "list.sort") [l] [])
      ret l) (fun fin s' => ∃ v, fin = Fin.done (Flow.ret v) ∧ Q v s') E s := by
  refine wpAny_bind (wpAny_newList ?_ (by rw [List.length_map]; exact hL))
  have ho : (s.heap.push (seqObj "list" (L.map fun p => Value.ref p.1).toArray 0)).get? s.heap.objs.size = some (seqObj "list" (L.map fun p => Value.ref p.1).toArray 0) := Heap.get?_push_size _ rfl
  have hx' : ∀ p ∈ L, IsM P w (s.heap.push (seqObj "list" (L.map fun p => Value.ref p.1).toArray 0)) p.2.key p.1 := fun p hp => isM_keep (hx p hp) fun c o e => Heap.get?_push_of_some _ e
  refine wpAny_bind (wpAny_holding (PySem.W.list_sort_data (s := { s with heap := s.heap.push (seqObj "list" (L.map fun p => Value.ref p.1).toArray 0) }) (enc := fun p : AW => p.2.data) (R := fun v p => v = Value.ref p.1) (bs := L) ho
    (each_ref (h := s.heap) L fun p _ => rfl) (each_ref (h := s.heap) L fun p hp => ⟨[], reads_way (hx' p hp), fun z => nomatch z⟩) (PySem.W.AllAlike.of fun p q => Way.alike p.2 q.2) (PySem.W.Sortable.tuples fun p => Way.tup p.2) hL
    (fun p _ => by have := Way.depth p.2; omega) fun out hlen hout => ?_))
  obtain ⟨c, hc⟩ := sortedHeap_at (vs := L.map fun p => Value.ref p.1) (out := out.toArray) ho
  refine wpAny_pure ⟨_, rfl, hQ _ out.toArray c (L.mergeSort (PySem.W.dataLe false fun p : AW => p.2.data)) (fun b u e => ?_) hc (by simpa using each_out hout) (List.mergeSort_perm _ _) ?_⟩
  · have hlt := Heap.lt_size e
    rw [sortedHeap_old (Nat.ne_of_lt hlt) (by rw [size_push']; exact Nat.lt_succ_of_lt hlt)]
    exact Heap.get?_push_of_some _ e
  · exact PySem.W.sort_pairwise (le := PySem.W.dataLe false fun p : AW => p.2.data) (PySem.W.sortLe_total (PyProof.Rows.listOrd PyProof.Rows.itemOrd) false fun p : AW => PySem.W.keyToks p.2.data) L

theorem rows_vals (L : List Ent) : (rowsM P w L).map (·.2) = L.map fun p => Value.ref p.1 := by
  simp [rowsM]
/-- sorted(set) -/
theorem sorted_setM {a : Addr} {L : List AW} {es : Array (Int × Value)} {ep : Nat} {t : SetTable} {Q : Value → Shared → Prop} (R : SetM P w s.heap a (L.map entW) es ep t) (hh : A.handled = none) (hu : A.units + 6 < cLine)
    (hQ : ∀ s' p (out : Array Value) (c : Nat) (L' : List AW), (∀ b o, s.heap.get? b = some o → s'.heap.get? b = some o) → s'.gens = s.gens → s'.os = s.os → s.heap.objs.size ≤ p →
      s'.heap.get? p = some (seqObj "list" out c) → out.toList = L'.map (fun q => Value.ref q.1) → L'.Perm L → L'.Pairwise (fun p q => wle p.2 q.2 = true) → Q (.ref p) s') :
    wpAny (model P w) A (call (.builtin "sorted") [.ref a]) Q E s := by
  obtain ⟨o, ho, hex, hd⟩ := R.ob
  have hsz := R.size
  rw [List.length_map] at hsz
  have hroom := R.room
  rw [List.length_map] at hroom
  have htop := R.tab.full.top
  refine Calls.call_function_entry kind_sorted plain_sorted entry_sorted (args_sorted1 _) ?_
  unfold Builtin.«sorted»
  refine wpAny_bind (m := checkCount "sorted" 1 1 _) (wpAny_pure ?_)
  refine wpAny_bind (collect_set (A := A.in1) hh ⟨o, ho, hex.1, hd⟩ R.fits (by unfold scanBound; omega) R.tab.ris R.led fun s1 vs k1 hz g1 o1 pm => ?_)
  have hes : es.toList.map (·.2) = L.map fun q => Value.ref q.1 := by
    rw [R.rows, rows_vals, List.map_map]
    rfl
  rw [hes] at pm
  obtain ⟨L1, p1, rfl⟩ := perm_lift pm L rfl
  have hlen : L1.length ≤ sizeLine := by
    rw [p1.length_eq, sizeLine_eq]
    omega
  have hx : ∀ p ∈ L1, IsM P w s1.heap p.2.key p.1 := fun p hp => isM_keep (R.tup (entW p) (List.mem_map.mpr ⟨p, p1.mem_iff.mp hp, rfl⟩)) k1
  refine sort_new (A := A.in1) (s := s1) hlen hx (by show A.units + 1 + 4 < cLine; omega) fun h' out c L' k2 hg hout pm2 pw => ?_
  exact hQ _ s1.heap.objs.size out c L' (fun b u e => k2 b u (k1 b u e)) g1 o1 hz hg hout (pm2.trans p1) pw
end
end L2.K11
set_option Elab.async false
set_option linter.all false
set_option maxRecDepth 100000
set_option maxHeartbeats 4000000
namespace L2.K11
open PySem PySem.Spec PyProof.Rows
section
variable {P : Program} {w : World} {A : Around} {E : Value → Shared → Prop} {s : Shared}
/-- set(xs) -/
theorem call_setM {l : Addr} {items : Array Value} (ks : List Ent) {Q : Value → Shared → Prop} (hh : A.handled = none) (hl : s.heap.IsList l items) (hit : items.toList = ks.map fun p => Value.ref p.1)
    (hk : ∀ p ∈ ks, IsM P w s.heap p.2 p.1) (hfew : Few ks) (hu : A.units + 3 < cLine)
    (h : ∀ (h' : Heap) (tk : Nat) L es ep t, SetM P w h' s.heap.objs.size L es ep t → GotM ks ks.length L → (∀ b o, s.heap.get? b = some o → h'.get? b = some o) → Q (.ref s.heap.objs.size) { s with heap := h', toks := tk }) :
    wpAny (model P w) A (call (.type "set") [.ref l]) Q E s := by
  have hisz : items.size = ks.length := by
    have q := congrArg List.length hit
    rwa [Array.length_toList, List.length_map] at q
  have none_of : ∀ b, s.heap.objs.size ≤ b → s.heap.get? b = none := fun b hb => by
    cases q : s.heap.get? b with
    | none => rfl
    | some o => exact absurd (Nat.lt_of_lt_of_le (Heap.lt_size q) hb) (Nat.lt_irrefl _)
  obtain ⟨c, tl, hmro⟩ := F.called_set.mro
  have hmade := F.called_set.made
  have hsub := F.called_set.sub
  refine wpAny_call (codeAny_of_tree ?_)
  show wpAny _ _ (callAny (.type "set") _) _ _ _
  refine wpAny_pure ⟨Code.quiet_builtin _ (by decide +kernel), codeAny_builtin F.entry_type_call ?_⟩
  rw [Around.under_plain (weight_type_call_type "set" [.ref l] []) rfl]
  have h1 := F.called_set.notType
  have h2 := F.called_set.canCreate
  have hct := F.typeCall_set_1 (.ref l)
  repeat (any_goals (first | assumption | wp_step))
  refine codeAny_mono (code_set_led1 (.ref l) (E := E) (Q₁ := fun obj s1 => obj = .ref s.heap.objs.size ∧ s1 = { s with heap := s.heap.push (setObj0 w) }) ⟨rfl, rfl⟩) fun r s1 hr => ?_
  cases r with
  | error e => exact hr
  | ok fl =>
    cases fl with
    | ret obj =>
      obtain ⟨rfl, rfl⟩ := hr
      have hS : (s.heap.push (setObj0 w)).get? s.heap.objs.size = some (setObj0 w) := Heap.get?_push_size _ rfl
      have hT : Shared.TypeIs { s with heap := s.heap.push (setObj0 w) } (.ref s.heap.objs.size) "set" := ⟨_, hS, rfl⟩
      have hli := F.called_set.init.lookup
      have hbi := F.called_set.init.bind (.ref s.heap.objs.size)
      repeat (any_goals (first | assumption | wp_step))
      refine codeAny_mono (codeAny_call_builtin (R := wants (fun r s2 => r = .none ∧ ∃ h' tk L es ep t, s2 = { s with heap := h', toks := tk } ∧ SetM P w h' s.heap.objs.size L es ep t ∧ GotM ks ks.length L ∧
          (∀ b o, s.heap.get? b = some o → h'.get? b = some o)) E) F.called_set.init.plain F.entry_set_init (check_set_init_1 hT ?_)) fun r2 s2 hr2 => ?_
      · obtain ⟨ol, hol, hcl, nl, hdl⟩ := hl
        obtain ⟨ocls, odict, odata, oslots⟩ := ol
        simp only at hcl hdl
        subst hcl
        subst hdl
        have hol' : (s.heap.push (setObj0 w)).get? l = some { cls := .type "list", dict := odict, data := .seq items nl, slots := oslots } := Heap.get?_push_of_some _ hol
        have hsls := F.sub_list_set
        have hslf := F.sub_list_frozenset
        have hne : (Value.type "list" == Value.type "dict") = false := by decide
        have hl1 : (s.heap.push (setObj0 w)).IsList l items := ⟨_, hol', rfl, nl, rfl⟩
        unfold Builtin.«set.__init__» noKeywords Builtin.Frozenset.updateFrom
        generalize hPI : pyIter = PI
        wp_walk
        subst hPI
        refine wpAny_pyIter_list hl1 ?_
        refine wpAny_bind (wpAny_runValue ?_)
        have hlS : l < s.heap.objs.size := Heap.lt_size hol
        have hh3 : A.in1.in1.in1.handled = none := by simp [hh]
        have hz1 : (s.heap.push (setObj0 w)).objs.size = s.heap.objs.size + 1 := Heap.size_push ..
        have hneI : l ≠ (s.heap.push (setObj0 w)).objs.size := by
          rw [hz1]
          exact Nat.ne_of_lt (Nat.lt_succ_of_lt hlS)
        have hSf : s.heap.objs.size ∉ [(s.heap.push (setObj0 w)).objs.size, l] := by
          rw [hz1]
          simp only [List.mem_cons, List.mem_singleton, List.not_mem_nil, or_false, not_or]
          exact ⟨Nat.ne_of_lt (Nat.lt_succ_self _), Nat.ne_of_gt hlS⟩
        have hval : ∀ (i : Nat) (v : Value), items[i]? = some v → ∃ p, ks[i]? = some p ∧ v = .ref p.1 := fun i v hv => by
          have q : items.toList[i]? = some v := by rw [Array.getElem?_toList]; exact hv
          rw [hit, List.getElem?_map] at q
          cases hq : ks[i]? with
          | none =>
            rw [hq] at q
            cases q
          | some p =>
            rw [hq] at q
            exact ⟨p, rfl, (Option.some.inj q).symm⟩
        refine set_fill ((Walks.list hh3 _ l hneI items).toS) s.heap.objs.size
          hSf ks hisz hfew hval s.heap hk (none_of _ (Nat.le_refl _)) (fun b hb => none_of b (by rw [List.mem_singleton.mp hb, hz1]; exact Nat.le_succ _)) hu (items.size - 0) 0 _ (by omega) (Nat.zero_le _)
          ⟨⟨_, Heap.get?_push_size _ rfl, rfl, rfl⟩, (hl1.push _)⟩ (fun b o e => Heap.get?_push_of_some _ (Heap.get?_push_of_some _ e)) ?hS0 ?hR
        case hS0 =>
          exact ⟨[], #[], 0, _, setM_fresh (Heap.get?_push_of_some _ hS), got0 ks⟩
        case hR =>
          intro s' L es ep t hm hS' g' hkp
          obtain ⟨h', g2, d', tk', os'⟩ := s'
          obtain rfl : g2 = s.gens := hm.gens
          obtain rfl : d' = s.drawn := hm.drawn
          obtain rfl : os' = s.os := hm.os
          show wpAny _ _ _ _ _ _
          refine wpAny_pure ?_
          show wpAny _ _ (ret Value.none) _ _ _
          rw [hisz] at g'
          exact wpAny_pure ⟨rfl, h', tk', L, es, ep, t, rfl, hS', g', hkp⟩
      · cases r2 with
        | error e => exact hr2
        | ok fl2 =>
          cases fl2 with
          | ret r =>
            obtain ⟨rfl, h', tk, L, es, ep, t, rfl, hS', g', hk'⟩ := hr2
            repeat (any_goals (first | assumption | wp_step))
            exact h _ _ _ _ _ _ hS' g' hk'
          | _ => exact hr2.elim
    | _ => exact hr.elim
end

/-! ### over the layer -/
/-- a set of ways at a: L their tuples -/
def SetW0 (P : Program) (w : World) (h : Heap) (a : Addr) (L : List AW) : Prop :=
  ∃ (es : Array (Int × Value)) (ep : Nat) (t : SetTable), (∃ o, h.get? a = some o ∧ o.ExactSet ∧ o.data = .set es ep t) ∧ es.toList = rowsM P w (L.map entW) ∧ Tab t ((L.map entW).map fun p => mhash P w p.2) ∧ ((L.map entW).map (·.2)).Nodup ∧
    (w.params.followText "set-order" = true ∨ t.led = true) ∧ (L.map entW).length * 5 < t.mask * 3
def setWO (P : Program) (w : World) (a : Addr) (L : List AW) : HO := .ext fun h => SetW0 P w h a L
theorem setW_new {P : Program} {w : World} {H : Hp} {h : Heap} {a : Addr} {L : List AW} (R : SetW0 P w h a L) : ObjOk P w H h a (setWO P w a L) := by
  obtain ⟨es, ep, t, ⟨o, ho, hex, hd⟩, r⟩ := id R
  refine ⟨R, ⟨o, ho⟩, fun h1 h2 ⟨es, ep, t, ⟨o, ho, r0⟩, r⟩ k => ⟨es, ep, t, ⟨o, k o ho, r0⟩, r⟩⟩
/-- the tuples' ways stand there -/
abbrev AwOk (K : PySem.W.Frag) (H : Hp) (L : List AW) : Prop := ∀ p ∈ L, SqT K H p.1 p.2.vs
theorem items_mix {P : Program} {w : World} : ∀ {k : List Key} {us : List Value}, Vals (k.map kV) us → ItemsAre (mixKind P w) k us := items_are
section
variable {X : Cx}
theorem Inv.isM {pins : List (Addr × Obj)} {σ : St} {H : Hp} {s : Shared} {b : Addr} {k : List Key} (I : Inv X pins σ H s) (h : SqT X.K H b (k.map kV)) : IsM X.prog X.w s.heap k b := by
  obtain ⟨its, rv, ⟨o, ho, hc, n, hd⟩, _⟩ := I.tuple h
  exact ⟨o, its.toArray, n, ho, hc, hd, by simpa using items_are rv⟩
theorem vals_aw : ∀ L : List AW, Vals (L.map fun p => V.ref p.1) (L.map fun p => Value.ref p.1)
  | [] => .nil
  | p :: L => .cons rfl (vals_aw L)
theorem aw_of_vals : ∀ {L : List AW} {us : List Value}, Vals (L.map fun p => V.ref p.1) us → us = L.map fun p => Value.ref p.1
  | [], _, r => by
    rw [List.map_nil] at r
    cases r
    rfl
  | p :: L, _, r => by
    rw [List.map_cons] at r
    cases r with
    | cons h t =>
      obtain rfl := h
      rw [List.map_cons, aw_of_vals t]
/-- the ways are among fewer than 306 -/
def FewW (ws : List Way) : Prop := ∃ U : List Way, U.length ≤ 306 ∧ ∀ v ∈ ws, v ∈ U
def rSetW (K : PySem.W.Frag) (P : Program) (w : World) : List V → Hp → VK → Prop := fun xs H Q => ∃ (l : Addr) (L : List AW), xs = [V.ref l] ∧ SqL K H l (L.map fun p => V.ref p.1) ∧ AwOk K H L ∧ FewW (L.map (·.2)) ∧
  ∀ a L', H a = none → (∀ p ∈ L', p ∈ L) → (∀ p ∈ L, p.2 ∈ L'.map (·.2)) → (L'.map (·.2)).Nodup → Q (.ref a) (upd H a (setWO P w a L'))
theorem ent_lift : ∀ (L : List AW) (M : List Ent), (∀ q ∈ M, q ∈ L.map entW) → ∃ L' : List AW, M = L'.map entW ∧ ∀ p ∈ L', p ∈ L
  | _, [], _ => ⟨[], rfl, fun p h => nomatch h⟩
  | L, q :: M, h => by
    obtain ⟨p, hp, e⟩ := List.mem_map.mp (h q List.mem_cons_self)
    obtain ⟨L', e', hs⟩ := ent_lift L M fun r hr => h r (List.mem_cons_of_mem _ hr)
    refine ⟨p :: L', by rw [List.map_cons, e, e'], fun r hr => ?_⟩
    rcases List.mem_cons.mp hr with rfl | hr
    · exact hp
    · exact hs r hr
theorem call_setW (hc : X.calm = true) (hu : X.A.units + 3 < cLine) : CallR X (.type "set") (rSetW X.K X.prog X.w) := by
  rintro pins s σ H xs us Q I r ⟨l, L, rfl, hl, hk, ⟨U, hU, hUm⟩, q⟩
  rw [Vals.ref1 r]
  obtain ⟨its, rv, pl, hz⟩ := I.list hl
  have hn : H s.heap.objs.size = none := I.hok.fresh (Nat.le_refl _)
  have hfew : Few (L.map entW) := ⟨U.map Way.key, by rw [List.length_map]; exact hU, fun p hp => by
    obtain ⟨x, hx, rfl⟩ := List.mem_map.mp hp
    exact List.mem_map.mpr ⟨x.2, hUm _ (List.mem_map.mpr ⟨x, hx, rfl⟩), rfl⟩⟩
  refine call_setM (P := X.prog) (w := X.w) (L.map entW) (I.ok.hd hc) pl.isList (by rw [List.map_map]; exact aw_of_vals rv) (fun p hp => ?_) hfew hu fun h' tk M es ep t R g k => ?_
  · obtain ⟨x, hx, rfl⟩ := List.mem_map.mp hp
    exact Inv.isM I (hk x hx)
  obtain ⟨L', rfl, hs⟩ := ent_lift L M fun p hp => List.mem_of_mem_take (g.sub p hp)
  have hnd : (L'.map (·.2)).Nodup := by
    refine nodup_of_map (f := Way.key) ?_
    have := R.nd
    rw [List.map_map] at this ⊢
    exact this
  refine ⟨.ref s.heap.objs.size, upd H s.heap.objs.size (setWO X.prog X.w s.heap.objs.size L'), I.laid (t' := tk) k (Nat.le_refl _) (setW_new ⟨es, ep, t, R.ob, R.rows, R.tab, R.nd, R.led, R.room⟩), rfl, q _ L' hn hs (fun p hp => ?_) hnd⟩
  have hm := g.all (entW p) (by rw [List.take_length]; exact List.mem_map.mpr ⟨p, hp, rfl⟩)
  rw [List.map_map] at hm
  obtain ⟨y, hy, e⟩ := List.mem_map.mp hm
  exact List.mem_map.mpr ⟨y, hy, Way.key_inj e⟩
def rSortedW (K : PySem.W.Frag) (P : Program) (w : World) : List V → Hp → VK → Prop := fun xs H Q => ∃ (a : Addr) (L : List AW), xs = [V.ref a] ∧ H a = some (setWO P w a L) ∧ AwOk K H L ∧
  ∀ (p : Addr) (L' : List AW), H p = none → L'.Perm L → Asc (L'.map (·.2)) → Q (.ref p) (upd H p (.lst (L'.map fun q => V.ref q.1)))
theorem call_sortedW (hc : X.calm = true) (hu : X.A.units + 6 < cLine) : CallR X (.builtin "sorted") (rSortedW X.K X.prog X.w) := by
  rintro pins s σ H xs us Q I r ⟨a, L, rfl, ha, hk, q⟩
  rw [Vals.ref1 r]
  obtain ⟨es, ep, t, hob, hrows, htab, hnd, hled, hroom⟩ := (I.hok a _ ha).1
  have R : SetM X.prog X.w s.heap a (L.map entW) es ep t := ⟨hob, hrows, htab, hnd, fun p hp => by
    obtain ⟨x, hx, rfl⟩ := List.mem_map.mp hp
    exact Inv.isM I (hk x hx), hled, hroom⟩
  refine sorted_setM R (I.ok.hd hc) hu fun s' p out c L' k g o hp hg hout pm pw => ?_
  have htop := htab.full.top
  rw [List.length_map] at hroom
  have hlen : (L'.map fun q => V.ref q.1).length ≤ sizeLine := by
    rw [List.length_map, pm.length_eq, sizeLine_eq]
    omega
  have hn : H p = none := I.hok.fresh hp
  have hv : Vals (L'.map fun q => V.ref q.1) out.toList := by
    rw [hout]
    exact vals_aw L'
  have J : Inv X pins σ (upd H p (.lst (L'.map fun q => V.ref q.1))) { s with heap := s'.heap, gens := s'.gens, drawn := s'.drawn, toks := s'.toks } :=
    I.call (ch := []) (Un.laid k hp hn) (I.hok.laid k hp ⟨hlen, out.toList, c, hv, hg⟩) (by rw [g]; exact I.bare) (fun _ z => nomatch z)
  have e : s' = { s with heap := s'.heap, gens := s'.gens, drawn := s'.drawn, toks := s'.toks } := by
    cases s'
    cases s
    cases o
    rfl
  rw [e]
  have hnd' : (L.map (·.2)).Nodup := by
    refine nodup_of_map (f := Way.key) ?_
    rw [List.map_map] at hnd ⊢
    exact hnd
  exact ⟨.ref p, _, J, rfl, q p L' hn pm ⟨(pm.map (·.2)).nodup_iff.mpr hnd', List.pairwise_map.mpr pw⟩⟩
end
end L2.K11
set_option Elab.async false
set_option linter.all false
set_option maxRecDepth 100000
set_option maxHeartbeats 1000000
/-! Dicts whose keys are ways: the key tuples tracked, locked or of the written part. -/
namespace L2.K11
open PySem PySem.Spec PyProof.Rows
/-- an entry: its way, the address of its key's tuple, its value -/
abbrev Dent := Way × Addr × V
abbrev XE := List Key × Addr × Value
abbrev TKW (P : Program) (w : World) := tupleKind (mixKind P w)
abbrev DX : List Dent → List XE → Prop := Paired fun e x => x.1 = e.1.key ∧ x.2.1 = e.2.1 ∧ RelV e.2.2 x.2.2
def DictW0 (P : Program) (w : World) (h : Heap) (d : Addr) (ents : List Dent) : Prop :=
  (d == sysModules) = false ∧ ents.length ≤ sizeLine ∧ ∃ xs : List XE, DX ents xs ∧ ∃ o es ep, h.get? d = some o ∧ o.ExactDict ∧ o.data = .dict es ep ∧ es.toList = xs.map (entryOfKey (TKW P w)) ∧ (xs.map (·.1)).Nodup
def dwO (P : Program) (w : World) (d : Addr) (ents : List Dent) : HO := .ext fun h => DictW0 P w h d ents
theorem dwO_ok {P : Program} {w : World} {H : Hp} {h : Heap} {d : Addr} {ents : List Dent} (R : DictW0 P w h d ents) : ObjOk P w H h d (dwO P w d ents) := by
  obtain ⟨_, _, xs, _, o, es, ep, ho, _⟩ := id R
  exact ⟨R, ⟨o, ho⟩, fun h1 h2 ⟨a, b, xs, r, o, es, ep, ho, q⟩ k => ⟨a, b, xs, r, o, es, ep, k o ho, q⟩⟩
/-- the keys' tuples stand there -/
abbrev KeysOk (K : PySem.W.Frag) (H : Hp) (ents : List Dent) : Prop := ∀ e ∈ ents, SqT K H e.2.1 e.1.vs
def entAt (ents : List Dent) (v : Way) : Option V := (ents.find? fun e => decide (e.1 = v)).map (·.2.2)
def putE (ents : List Dent) (v : Way) (a : Addr) (x : V) : List Dent :=
  if (entAt ents v).isSome = true then ents.map (fun e => if e.1 = v then (e.1, e.2.1, x) else e) else ents ++ [(v, a, x)]
theorem DX.keys {ents : List Dent} {xs : List XE} (r : DX ents xs) : xs.map (·.1) = ents.map (·.1.key) := by
  induction r with
  | nil => rfl
  | cons h t ih => rw [List.map_cons, List.map_cons, ih, h.1]
theorem DX.at' {ents : List Dent} {xs : List XE} (r : DX ents xs) (v : Way) : RelO (entAt ents v) ((atKey xs v.key).map (·.2)) := by
  induction r with
  | nil => exact True.intro
  | @cons e x es xs h t ih =>
    obtain ⟨h1, h2, h3⟩ := h
    by_cases c : e.1 = v
    · have a : entAt (e :: es) v = some e.2.2 := by simp [entAt, List.find?_cons, c]
      have b : atKey (x :: xs) v.key = some x.2 := by simp [atKey, List.find?_cons, h1, c]
      rw [a, b]
      exact h3
    · have c' : ¬ x.1 = v.key := fun z => c (Way.key_inj (h1.symm.trans z))
      have a : entAt (e :: es) v = entAt es v := by simp [entAt, List.find?_cons, c]
      have b : atKey (x :: xs) v.key = atKey xs v.key := by simp [atKey, List.find?_cons, c']
      rw [a, b]
      exact ih
theorem DX.repl {ents : List Dent} {xs : List XE} (r : DX ents xs) (v : Way) {x : V} {u : Value} (ru : RelV x u) :
    DX (ents.map fun e => if e.1 = v then (e.1, e.2.1, x) else e) (xs.map (putAt v.key u)) := by
  induction r with
  | nil => exact .nil
  | @cons e y es xs h t ih =>
    refine .cons ?_ ih
    obtain ⟨h1, h2, h3⟩ := h
    unfold putAt
    dsimp only
    by_cases c : e.1 = v
    · rw [if_pos c, if_pos (h1.trans (congrArg Way.key c))]
      exact ⟨h1, h2, ru⟩
    · rw [if_neg c, if_neg fun z => c (Way.key_inj (h1.symm.trans z))]
      exact ⟨h1, h2, h3⟩
theorem DX.put {ents : List Dent} {xs : List XE} (r : DX ents xs) (v : Way) (a : Addr) {x : V} {u : Value} (ru : RelV x u) : DX (putE ents v a x) (storedH xs v.key a u) := by
  have e : (entAt ents v).isSome = (atKey xs v.key).isSome := by
    rw [(r.at' v).isSome_eq, Option.isSome_map]
  unfold putE storedH
  rw [e]
  by_cases c : (atKey xs v.key).isSome = true
  · rw [if_pos c, if_pos c]
    exact r.repl v ru
  · rw [if_neg c, if_neg c]
    exact Paired.snoc r ⟨rfl, rfl, ru⟩
theorem putE_len (ents : List Dent) (v : Way) (a : Addr) (x : V) : (putE ents v a x).length ≤ ents.length + 1 := by
  unfold putE
  split <;> simp
theorem entAt_some {ents : List Dent} {v : Way} {x : V} (h : entAt ents v = some x) : ∃ a, (v, a, x) ∈ ents := by
  obtain ⟨e, he, rfl⟩ := Option.map_eq_some_iff.mp h
  have h1 := List.mem_of_find?_eq_some he
  have h2 := List.find?_some he
  obtain rfl : e.1 = v := of_decide_eq_true h2
  exact ⟨e.2.1, h1⟩
theorem entAt_mem (ents : List Dent) (v : Way) : (entAt ents v).isSome = true ↔ v ∈ ents.map (·.1) := by
  rw [entAt, Option.isSome_map, List.find?_isSome]
  simp only [decide_eq_true_eq, List.mem_map]
theorem mem_putE {ents : List Dent} {v : Way} {a : Addr} {x : V} {e : Dent} (h : e ∈ putE ents v a x) : (e.1 = v ∧ e.2.2 = x ∧ (e.2.1 = a ∨ ∃ y, (v, e.2.1, y) ∈ ents)) ∨ e ∈ ents := by
  unfold putE at h
  split at h
  · obtain ⟨e0, h0, rfl⟩ := List.mem_map.mp h
    by_cases c : e0.1 = v
    · rw [if_pos c]
      exact .inl ⟨c, rfl, .inr ⟨e0.2.2, by rw [← c]; exact h0⟩⟩
    · rw [if_neg c]
      exact .inr h0
  · rcases List.mem_append.mp h with h | h
    · exact .inr h
    · rw [List.mem_singleton.mp h]
      exact .inl ⟨rfl, rfl, .inl rfl⟩
theorem ways_putE (ents : List Dent) (v : Way) (a : Addr) (x : V) (z : Way) : z ∈ (putE ents v a x).map (·.1) ↔ z = v ∨ z ∈ ents.map (·.1) := by
  unfold putE
  split
  · next h =>
    have e : (ents.map (fun e => if e.1 = v then (e.1, e.2.1, x) else e)).map (·.1) = ents.map (·.1) := by
      rw [List.map_map]
      refine List.map_congr_left fun e _ => ?_
      show (if e.1 = v then (e.1, e.2.1, x) else e).1 = e.1
      split <;> rfl
    rw [e]
    refine ⟨.inr, fun c => c.elim (fun c => ?_) id⟩
    rw [c]
    exact (entAt_mem ents v).mp h
  · rw [List.map_append]
    simp only [List.mem_append, List.map_cons, List.map_nil, List.mem_singleton]
    exact Or.comm
section
variable {X : Cx} {pins : List (Addr × Obj)} {σ : St} {H : Hp} {s : Shared} {d : Addr} {ents : List Dent} {A : Around} {E : Value → Shared → Prop}
theorem Inv.isK (I : Inv X pins σ H s) {b : Addr} {k : List Key} (h : SqT X.K H b (k.map kV)) : (TKW X.prog X.w).is s.heap k b := by
  obtain ⟨its, rv, ⟨o, ho, hc, n, hd⟩, _⟩ := I.tuple h
  exact ⟨o, its.toArray, n, ho, hc, hd, by simpa using items_are rv⟩
theorem DX.mem {ents : List Dent} {xs : List XE} (r : DX ents xs) : ∀ x ∈ xs, ∃ e ∈ ents, x.1 = e.1.key ∧ x.2.1 = e.2.1 ∧ RelV e.2.2 x.2.2 := by
  induction r with
  | nil => exact fun x h => nomatch h
  | cons h t ih =>
    intro x hx
    rcases List.mem_cons.mp hx with rfl | hx
    · exact ⟨_, List.mem_cons_self, h⟩
    · obtain ⟨e, he, q⟩ := ih x hx
      exact ⟨e, List.mem_cons_of_mem _ he, q⟩
theorem Inv.dw (I : Inv X pins σ H s) (hd : Rd H d (dwO X.prog X.w d ents)) (hk : KeysOk X.K H ents) :
    (d == sysModules) = false ∧ ents.length ≤ sizeLine ∧ ∃ xs : List XE, DX ents xs ∧ s.heap.DictOfH (TKW X.prog X.w) d xs := by
  obtain ⟨a, b, xs, r, o, es, ep, ho, hx, hdt, he, hn⟩ := (show DictW0 X.prog X.w s.heap d ents from (hd.ok I.hok).1)
  refine ⟨a, b, xs, r, o, es, ep, ho, hx, hdt, he, fun x hx => ?_, hn⟩
  obtain ⟨e, hem, e1, e2, _⟩ := r.mem x hx
  rw [e1, e2]
  exact Inv.isK I (hk e hem)
theorem dw_in {Q : Value → Shared → Prop} {b : Addr} {v : Way} (hu : A.units + 1 < cLine) (I : Inv X pins σ H s) (hd : Rd H d (dwO X.prog X.w d ents)) (hk : KeysOk X.K H ents) (hb : SqT X.K H b v.vs)
    (h : ∀ s', Inv X pins σ H s' → Q (.bool (entAt ents v).isSome) s') : wpAny (model X.prog X.w) A (compareOp .In (.ref b) (.ref d)) Q E s := by
  obtain ⟨hs, _, xs, r, dd⟩ := Inv.dw I hd hk
  refine wpAny_in_heap (tupleKind_room_in1 hu) (Inv.isK I hb) hs dd ?_
  have q := (r.at' v).isSome_eq
  rw [Option.isSome_map] at q
  rw [← q]
  exact h _ (I.tok _)
theorem dw_notIn {Q : Value → Shared → Prop} {b : Addr} {v : Way} (hu : A.units + 1 < cLine) (I : Inv X pins σ H s) (hd : Rd H d (dwO X.prog X.w d ents)) (hk : KeysOk X.K H ents) (hb : SqT X.K H b v.vs)
    (h : ∀ s', Inv X pins σ H s' → Q (.bool (!(entAt ents v).isSome)) s') : wpAny (model X.prog X.w) A (compareOp .NotIn (.ref b) (.ref d)) Q E s := by
  obtain ⟨hs, _, xs, r, dd⟩ := Inv.dw I hd hk
  refine wpAny_notIn_heap (tupleKind_room_in1 hu) (Inv.isK I hb) hs dd ?_
  have q := (r.at' v).isSome_eq
  rw [Option.isSome_map] at q
  rw [← q]
  exact h _ (I.tok _)
theorem dw_get {Q : Value → Shared → Prop} {b : Addr} {v : Way} {x : V} (hu : A.units + 1 < cLine) (I : Inv X pins σ H s) (hd : Rd H d (dwO X.prog X.w d ents)) (hk : KeysOk X.K H ents) (hb : SqT X.K H b v.vs)
    (hx : entAt ents v = some x) (h : ∀ u s', Inv X pins σ H s' → RelV x u → Q u s') : wpAny (model X.prog X.w) A (getItem (.ref d) (.ref b)) Q E s := by
  obtain ⟨hs, _, xs, r, dd⟩ := Inv.dw I hd hk
  obtain ⟨u, hu2, ru⟩ := RelO.some_of (v := x) (o := (atKey xs v.key).map (·.2)) (by rw [← hx]; exact r.at' v)
  obtain ⟨p, hp, hp2⟩ := Option.map_eq_some_iff.mp hu2
  refine wpAny_getItem_heap (tupleKind_room_in1 hu) (Inv.isK I hb) dd hp ?_
  rw [hp2]
  exact h u _ (I.tok _) ru
theorem dw_set {Q : Unit → Shared → Prop} {b : Addr} {v : Way} {x : V} {u : Value} (hu : A.units + 1 < cLine) (I : Inv X pins σ H s) (hd : H d = some (dwO X.prog X.w d ents)) (hk : KeysOk X.K H ents) (hb : SqT X.K H b v.vs)
    (hl : ents.length < sizeLine) (ru : RelV x u) (h : ∀ s', Inv X pins σ (upd H d (dwO X.prog X.w d (putE ents v b x))) s' → Q () s') : wpAny (model X.prog X.w) A (setItem (.ref d) (.ref b) u) Q E s := by
  obtain ⟨hs, hz, xs, r, dd⟩ := Inv.dw I (.inl hd) hk
  have hzx : xs.length ≤ sizeLine := by
    rw [← Paired.length r]
    exact hz
  have hlp := putE_len ents v b x
  refine wpAny_setItem_heap (hsz := hzx) (tupleKind_room_in1 hu) (Inv.isK I hb) dd fun h' dd' sb => h _ ?_
  obtain ⟨q, es, ep, hq, h2, h3, h4, _, h5⟩ := dd'
  exact d_write I (by rw [hd]; exact True.intro) sb ⟨q, hq⟩ (dwO_ok ⟨hs, by omega, _, r.put v b ru, q, es, ep, hq, h2, h3, h4, h5⟩)
end
end L2.K11
set_option Elab.async false
set_option linter.all false
set_option maxRecDepth 100000
set_option maxHeartbeats 1000000
/-! Rules over dicts of ways: in, [], []=, displays, items(), values(), sorted. -/
namespace L2.K11
open PySem PySem.Spec PyProof.Rows
def WAt (X : Cx) (H : Hp) (x y : V) (o : Option V) : Prop :=
  ∃ (d b : Addr) (v : Way) (ents : List Dent), x = .ref d ∧ y = .ref b ∧ Rd H d (dwO X.prog X.w d ents) ∧ KeysOk X.K H ents ∧ SqT X.K H b v.vs ∧ entAt ents v = o
def rInW (X : Cx) : R2 := fun y x H Q => ∃ o, WAt X H x y o ∧ Q (.bl o.isSome) H
def rNotInW (X : Cx) : R2 := fun y x H Q => ∃ o, WAt X H x y o ∧ Q (.bl (!o.isSome)) H
def rIxW (X : Cx) : R2 := fun x y H Q => ∃ v, WAt X H x y (some v) ∧ Q v H
def rSetDW (X : Cx) : TSet := fun o i v H Q => ∃ (d b : Addr) (k : Way) (ents : List Dent), o = .ref d ∧ i = .ref b ∧ H d = some (dwO X.prog X.w d ents) ∧ KeysOk X.K H ents ∧ SqT X.K H b k.vs ∧ ents.length < sizeLine ∧
  Q (upd H d (dwO X.prog X.w d (putE ents k b v)))
section
variable {X : Cx}
theorem op_in_dw (hu : X.A.units + 1 < cLine) : OpR X (compareOp .In) (rInW X) := by
  rintro pins s σ H y x u v Q I ry rx ⟨o, ⟨d, b, w, ents, rfl, rfl, hd, hk, hb, ho⟩, q⟩
  obtain rfl := rx
  obtain rfl := ry
  exact dw_in hu I hd hk hb fun s' I' => ⟨.bl o.isSome, H, I', by rw [ho]; rfl, q⟩
theorem op_notIn_dw (hu : X.A.units + 1 < cLine) : OpR X (compareOp .NotIn) (rNotInW X) := by
  rintro pins s σ H y x u v Q I ry rx ⟨o, ⟨d, b, w, ents, rfl, rfl, hd, hk, hb, ho⟩, q⟩
  obtain rfl := rx
  obtain rfl := ry
  exact dw_notIn hu I hd hk hb fun s' I' => ⟨.bl (!o.isSome), H, I', by rw [ho]; rfl, q⟩
theorem dw_type {pins : List (Addr × Obj)} {σ : St} {H : Hp} {s : Shared} {d : Addr} {ents : List Dent} (I : Inv X pins σ H s) (hd : Rd H d (dwO X.prog X.w d ents)) : s.TypeIs (.ref d) "dict" := by
  obtain ⟨_, _, xs, r, o, es, ep, ho, hx, _⟩ := (show DictW0 X.prog X.w s.heap d ents from (hd.ok I.hok).1)
  exact ⟨o, ho, hx.1⟩
theorem ix_dw (hu : X.A.units + 1 < cLine) : IxR X (rIxW X) := by
  rintro value slice pins s σ H x y u v Q I rx ry ⟨r, ⟨d, b, w, ents, rfl, rfl, hd, hk, hb, ho⟩, q⟩ hs
  obtain rfl := rx
  obtain rfl := ry
  exact tail_any (dw_type I hd) slot_dict_getitem.lookup (dw_get hu I hd hk hb ho fun u' s' I' ru => ⟨r, H, I', ru, q⟩) hs
theorem set_dw (hu : X.A.units + 1 < cLine) : PSet X (rSetDW X) := by
  rintro pins s σ H o i v ov iv u Q I ro ri rv ⟨d, b, k, ents, rfl, rfl, hd, hk, hb, hl, q⟩
  obtain rfl := ro
  obtain rfl := ri
  exact dw_set hu I hd hk hb hl rv fun s' I' => ⟨_, I', q⟩
/-! ### displays -/
theorem dw_empty {P : Program} {w : World} {H : Hp} (h : Heap) (hb : sysModules < h.objs.size) : ObjOk P w H (h.push { cls := .type "dict", data := .dict #[] }) h.objs.size (dwO P w h.objs.size []) :=
  dwO_ok ⟨beq_eq_false_iff_ne.mpr (Ne.symm (Nat.ne_of_lt hb)), Nat.zero_le _, [], .nil, _, #[], 0, Heap.get?_push_size _ rfl, ⟨rfl, rfl, rfl⟩, rfl, rfl, List.nodup_nil⟩
def tDNewW (X : Cx) : TE := fun _ H Q => ∀ p, H p = none → Q (.ref p) (upd H p (dwO X.prog X.w p []))
theorem pe_dnewW {pos : Pos} : PE X (.Dict [] [] pos) (tDNewW X) := ⟨fun pins s σ H Q I h =>
  wpAny_Dict_empty ⟨.ref s.heap.objs.size, _, I.laid (a := s.heap.objs.size) (o := dwO X.prog X.w s.heap.objs.size []) (t' := s.toks) (fun _ _ q => Heap.get?_push_of_some _ q) (Nat.le_refl _) (dw_empty s.heap I.big), rfl, h _ (I.hok.fresh (Nat.le_refl _))⟩⟩
def mergeE (acc more : List Dent) : List Dent := more.foldl (fun acc e => putE acc e.1 e.2.1 e.2.2) acc
theorem DX.merge : ∀ {more : List Dent} {ps : List XE} {acc : List Dent} {xs : List XE}, DX more ps → DX acc xs → DX (mergeE acc more) (storedAllH xs ps) := by
  intro more ps acc xs r
  unfold DX at r
  induction r generalizing acc xs with
  | nil => exact id
  | @cons e x more ps h t ih =>
    intro r0
    have q := r0.put e.1 e.2.1 h.2.2
    rw [← h.1] at q
    show DX (mergeE (putE acc e.1 e.2.1 e.2.2) more) (storedAllH (storedH xs x.1 x.2.1 x.2.2) ps)
    exact ih (by rw [h.2.1]; exact q)
theorem length_mergeE : ∀ (more acc : List Dent), (mergeE acc more).length ≤ acc.length + more.length
  | [], acc => by show acc.length ≤ acc.length + 0; omega
  | p :: r, acc => by
    have h1 := length_mergeE r (putE acc p.1 p.2.1 p.2.2)
    have h2 := putE_len acc p.1 p.2.1 p.2.2
    show (mergeE (putE acc p.1 p.2.1 p.2.2) r).length ≤ _
    rw [List.length_cons]; omega
theorem carriesW_of {pins : List (Addr × Obj)} {σ : St} {H : Hp} {s : Shared} (I : Inv X pins σ H s) : ∀ {kvs : List Dent} {ws : List (Value × Value)}, KeysOk X.K H kvs → VV (kvs.map fun e => (V.ref e.2.1, e.2.2)) ws → ∃ ps, CarriesH (TKW X.prog X.w) s.heap ws ps ∧ DX kvs ps
  | [], _, _, r => by rw [List.map_nil] at r; cases r; exact ⟨[], True.intro, .nil⟩
  | p :: kvs, _, hk, r => by
    rw [List.map_cons] at r
    cases r with
    | @cons a b as bs h t =>
      obtain ⟨ps, c, q⟩ := carriesW_of I (fun e he => hk e (List.mem_cons_of_mem _ he)) t
      obtain ⟨b1, b2⟩ := b
      obtain ⟨h1, h2⟩ := h
      obtain rfl : b1 = Value.ref p.2.1 := h1
      exact ⟨(p.1.key, p.2.1, b2) :: ps, ⟨rfl, rfl, Inv.isK I (hk p List.mem_cons_self), c⟩, .cons ⟨rfl, rfl, h2⟩ q⟩
def tDispW (X : Cx) (trs : List (TE × TE)) : TE := fun σ H Q => ∀ p, H p = none → tPairs trs σ (upd H p (dwO X.prog X.w p [])) fun ps H2 => H2 p = some (dwO X.prog X.w p []) ∧ ∃ kvs : List Dent, ps = kvs.map (fun e => (V.ref e.2.1, e.2.2)) ∧ KeysOk X.K H2 kvs ∧ kvs.length ≤ 15 ∧
  Q (.ref p) (upd H2 p (dwO X.prog X.w p (mergeE [] kvs)))
theorem pe_dispW {pos : Pos} {keys : List (Option Expr)} {values : List Expr} {trs : List (TE × TE)} (hu : X.A.units + 1 < cLine) (h : PPs X pos keys values trs) (hall : keys.all (·.isSome) = true) (hl : keys.length = values.length) (h0 : keys ≠ [])
    (h15 : keys.length ≤ 15) : PE X (.Dict keys values pos) (tDispW X trs) := by
  refine ⟨fun pins s σ H Q I q => ?_⟩
  have hn := I.hok.fresh (Nat.le_refl s.heap.objs.size)
  have I1 := I.laid (a := s.heap.objs.size) (o := dwO X.prog X.w s.heap.objs.size []) (h' := s.heap.push { cls := .type "dict", data := .dict #[] }) (t' := s.toks) (fun _ _ q => Heap.get?_push_of_some _ q) (Nat.le_refl _) (dw_empty s.heap I.big)
  have hpl := pairTrees_length keys values X.env pos hall hl
  have hp0 : pairTrees keys values X.env pos ≠ [] := fun e => by
    rw [e] at hpl
    exact h0 (List.length_eq_zero_iff.mp hpl.symm)
  rw [arm_eval_Dict, zip_pairTrees keys values X.env pos hall hl, dictDisplay_pairs (pairTrees keys values X.env pos) hp0 (by omega)]
  refine wpAny_bind (wpAny_standAt (wpAny_bind (wpAny_subDictH (knd := TKW X.prog X.w) (show X.A.units < cLine by omega) (by omega) (thn (h.run pins _ σ _ _ I1 (q _ hn)) fun ws s2 ⟨ps, H2, I2, rel, e, kvs, ep, hk, lk, q2⟩ => ?_))))
  subst ep
  obtain ⟨rs, c, rk⟩ := carriesW_of I2 hk rel
  obtain ⟨hs, _, xs, r0, dd⟩ := Inv.dw I2 (.inl e) (fun e he => nomatch he)
  cases r0
  refine ⟨rs, c, dd, fun h' tk dd' sb => wpAny_pure ⟨.ref s.heap.objs.size, _, ?_, rfl, q2⟩⟩
  have hz : (mergeE [] kvs).length ≤ sizeLine := by
    have h1 := length_mergeE kvs []
    rw [List.length_nil] at h1
    rw [sizeLine_eq]; omega
  obtain ⟨o, es, ep, hq, h2, h3, h4, _, h5⟩ := dd'
  exact d_write I2 (by rw [e]; exact True.intro) sb ⟨o, hq⟩ (dwO_ok ⟨hs, hz, _, DX.merge rk .nil, o, es, ep, hq, h2, h3, h4, h5⟩)
end
/-! ### walks -/
def ItWI (P : Program) (w : World) (d : Addr) (o : Obj) (ents : List Dent) : It :=
  ⟨fun i H => H d = some (.frz o (dwO P w d ents)) ∧ i < ents.length, fun i H x H' => ∃ T e, ents[i]? = some e ∧ x = .ref T ∧ H T = none ∧ H' = upd H T (.tup [.ref e.2.1, e.2.2]), fun i H => H d = some (.frz o (dwO P w d ents)) ∧ ents.length ≤ i⟩
def ItWV (P : Program) (w : World) (d : Addr) (o : Obj) (ents : List Dent) : It :=
  ⟨fun i H => H d = some (.frz o (dwO P w d ents)) ∧ i < ents.length, fun i H x H' => H' = H ∧ ∃ e, ents[i]? = some e ∧ x = e.2.2, fun i H => H d = some (.frz o (dwO P w d ents)) ∧ ents.length ≤ i⟩
section
variable {P : Program} {w : World} {X : Cx} {pins : List (Addr × Obj)} {σ : St} {H : Hp} {s : Shared} {d : Addr} {ents : List Dent} {o : Obj} {K : PySem.W.Frag} {es : Array DictEntry} {ep : Nat} {tg : Expr}
theorem Inv.frzW (I : Inv X pins σ H s) (h : H d = some (.frz o (dwO X.prog X.w d ents))) :
    (d == sysModules) = false ∧ s.heap.get? d = some o ∧ o.ExactDict ∧ ∃ (es : Array DictEntry) (ep : Nat), o.data = .dict es ep ∧ es.size = ents.length ∧
      ∀ (i : Nat) (e : Dent), ents[i]? = some e → ∃ en, es[i]? = some en ∧ en.key = .ref e.2.1 ∧ RelV e.2.2 en.val := by
  obtain ⟨hd, ⟨hs, _, xs, pr, o', es, ep, ho, hx, hdt, he, _⟩, _⟩ := I.hok d _ h
  rw [hd] at ho
  cases ho
  refine ⟨hs, hd, hx, es, ep, hdt, ?_, fun i e q => ?_⟩
  · have l1 : es.size = xs.length := size_of_entries he
    have l2 : ents.length = xs.length := Paired.length pr
    omega
  · obtain ⟨b, hb, e1, e2, e3⟩ := paired_get pr q
    refine ⟨entryOfKey (TKW X.prog X.w) b, ?_, ?_, ?_⟩
    · rw [entry_at he i, hb]
      rfl
    · show Value.ref b.2.1 = _
      rw [e2]
    · exact e3
theorem turn_wi {elts : List Expr} {kk : Nat} {tpos : Pos} (it : Addr) (hod : o.data = .dict es ep) :
    Turn P w K (.Tuple elts kk tpos) (ItWI P w d o ents) [it] it (fun i h => ∃ ok ov, IsItemIter h it d i ents.length ep ok ov) where
  mem := by simp
  obj := fun i h st b hb => by
    have e : b = it := by simpa using hb
    subst e
    obtain ⟨ok, ov, e⟩ := st
    exact ⟨_, e, fun v z => nomatch z⟩
  keep := fun i h h' st k => let ⟨ok, ov, e⟩ := st; ⟨ok, ov, k it (by simp) _ e⟩
  item := by
    intro X hP hw hK hc i pins s σ H E I hf st hg
    subst hP hw hK
    obtain ⟨hd, hi⟩ := hg
    obtain ⟨hs, hgd, hx, es', ep', hdt, hsz, ent⟩ := Inv.frzW I hd
    obtain ⟨rfl, rfl⟩ := dict_ep hod hdt
    obtain ⟨e, he⟩ : ∃ p, ents[i]? = some p := ⟨ents[i], List.getElem?_eq_getElem hi⟩
    obtain ⟨en, hen, hkey, hval⟩ := ent i e he
    have hlt' : i < es'.size := by omega
    obtain rfl : es'[i] = en := by
      rw [Array.getElem?_eq_getElem hlt'] at hen
      exact Option.some.inj hen
    obtain ⟨ok, ov, hit⟩ := st
    rw [← hsz] at hit
    have hlt : it < s.heap.objs.size := Heap.lt_size hit
    refine wpAny_pyNext_items_item_raw hit ⟨o, hgd, hx, hdt⟩ hlt' fun h' ho hT hz hk => ?_
    refine ⟨_, rfl, wpAny_letOwnedTupleGo_items (s := { s with heap := h' }) ho fun h'' he' sb => ?_⟩
    have hT2 : h''.get? s.heap.objs.size = some { cls := .type "tuple", data := .seq #[es'[i].key, es'[i].val] } := (sb.2 _ (Nat.ne_of_gt hlt)).trans hT
    have new : ObjOk X.prog X.w (upd H s.heap.objs.size (.tup [.ref e.2.1, e.2.2])) h'' s.heap.objs.size (.tup [.ref e.2.1, e.2.2]) :=
      ⟨by show 2 ≤ sizeLine; decide, [es'[i].key, es'[i].val], .cons hkey (.cons hval .nil), ⟨_, hT2, rfl, _, rfl⟩⟩
    have I1 : Inv X pins σ (upd H s.heap.objs.size (.tup [.ref e.2.1, e.2.2])) { s with heap := h'' } :=
      I.turnedNew (t' := s.toks) (ch := [it]) (fun b ob hb e => (sb.2 b (by simpa using hb)).trans (hk b ob (by simpa using hb) e)) hf (Nat.le_refl _) new
    refine ⟨.ref s.heap.objs.size, _, I1, rfl, ⟨_, e, he, rfl, I.hok.fresh (Nat.le_refl _), rfl⟩, ⟨es'[i].key, es'[i].val, ?_⟩, fun b hb => ?_⟩
    · rw [← hsz]; exact he'
    · have e : b = it := by simpa using hb
      rw [e, upd_ne (Nat.ne_of_lt hlt)]
      exact (hf it (by simp)).1
  done := by
    intro X hP hw hK hc i pins s σ H E I hf st hg
    subst hP hw hK
    obtain ⟨hd, hi⟩ := hg
    obtain ⟨f0, f1, f2, f3, f4, f5⟩ := hf it (by simp)
    obtain ⟨hs, hgd, hx, es', ep', hdt, hsz, ent⟩ := Inv.frzW I hd
    obtain ⟨rfl, rfl⟩ := dict_ep hod hdt
    obtain ⟨ok, ov, he⟩ := st
    rw [← hsz] at he
    exact wpAny_pyNext_items_end_raw (I.ok.hd hc) he ⟨o, hgd, hx, hdt⟩ (by omega) fun h' eb => ⟨rfl, I.turned (t' := s.toks) (fun b ob hb e => eb b ob hb e) f0 f1 f3 f4 f5⟩
  self := fun A i s Q E st h => let ⟨_, _, e⟩ := st; PySem.W.kcp_self e h
theorem turn_wv (it : Addr) (hod : o.data = .dict es ep) : Turn P w K tg (ItWV P w d o ents) [it] it (fun i h => h.IsValIter it d i ents.length ep) where
  mem := by simp
  obj := fun i h st b hb => by
    have e : b = it := by simpa using hb
    subst e
    obtain ⟨oi, e, c, dd⟩ := st
    exact ⟨oi, e, fun v z => by rw [dd] at z; cases z⟩
  keep := fun i h h' st k => st.at fun oi e => k it (by simp) oi e
  item := by
    intro X hP hw hK hc i pins s σ H E I hf st hg
    subst hP hw hK
    obtain ⟨hd, hi⟩ := hg
    obtain ⟨f0, f1, f2, f3, f4, f5⟩ := hf it (by simp)
    obtain ⟨hs, hgd, hx, es', ep', hdt, hsz, ent⟩ := Inv.frzW I hd
    obtain ⟨rfl, rfl⟩ := dict_ep hod hdt
    obtain ⟨e, he⟩ : ∃ p, ents[i]? = some p := ⟨ents[i], List.getElem?_eq_getElem hi⟩
    obtain ⟨en, hen, hkey, hval⟩ := ent i e he
    have hlt' : i < es'.size := by omega
    obtain rfl : es'[i] = en := by
      rw [Array.getElem?_eq_getElem hlt'] at hen
      exact Option.some.inj hen
    rw [← hsz] at st
    refine wpAny_pyNext_values_item_raw st ⟨o, hgd, hx, hdt⟩ hlt' fun h' st' sb => ?_
    have I1 : Inv X pins σ H { s with heap := h' } := I.turned (t' := s.toks) (fun b ob hb e => (sb.2 b hb).trans e) f0 f1 f3 f4 f5
    obtain ⟨oi, e1, c, dd⟩ := id st'
    refine ⟨_, rfl, go_of (s := { s with heap := h' }) e1 c dd (by decide) ⟨e.2.2, H, I1, hval, ⟨rfl, e, he, rfl⟩, ?_, fun b hb => (hf b hb).1⟩⟩
    show h'.IsValIter it d (i + 1) ents.length _
    rw [← hsz]
    exact st'
  done := by
    intro X hP hw hK hc i pins s σ H E I hf st hg
    subst hP hw hK
    obtain ⟨hd, hi⟩ := hg
    obtain ⟨f0, f1, f2, f3, f4, f5⟩ := hf it (by simp)
    obtain ⟨hs, hgd, hx, es', ep', hdt, hsz, ent⟩ := Inv.frzW I hd
    obtain ⟨rfl, rfl⟩ := dict_ep hod hdt
    rw [← hsz] at st
    exact wpAny_pyNext_values_end_raw (I.ok.hd hc) st ⟨o, hgd, hx, hdt⟩ (by omega) fun h' eb => ⟨rfl, I.turned (t' := s.toks) (fun b ob hb e => eb b ob hb e) f0 f1 f3 f4 f5⟩
  self := fun A i s Q E st h => wpAny_pyIter_valiter st h
end
def iWI (X : Cx) (td : TE) : TI := fun σ H R => td σ H fun x H1 => ∃ d o ents, x = .ref d ∧ H1 d = some (.frz o (dwO X.prog X.w d ents)) ∧ R (ItWI X.prog X.w d o ents) H1
def iWV (X : Cx) (td : TE) : TI := fun σ H R => td σ H fun x H1 => ∃ d o ents, x = .ref d ∧ H1 d = some (.frz o (dwO X.prog X.w d ents)) ∧ R (ItWV X.prog X.w d o ents) H1
section
variable {X : Cx} {tg e : Expr} {td : TE} {apos cpos : Pos}
theorem pi_wv (he : PE X e td) (hbase : attributeBase e "values" X.env (eval e X.env) = eval e X.env := by rfl) (hline : (apos.endLine == cpos.line) = true := by rfl) : PI X tg (.Call (.Attribute e "values" apos) [] [] cpos) (iWV X td) := by
  refine ⟨fun pins s σ H R I h => ?_⟩
  refine wpAny_Call_method (T := "dict") (id := "dict.values") hbase rfl hline F.plainAttrs_dict F.slot_dict_values F.type_dict_values (thn (he.run pins s σ H _ I h) fun u s1 ⟨x, H1, I1, rx, d, o, ents, ex, hd, q⟩ => ?_)
  subst ex
  obtain rfl : u = Value.ref d := rx
  obtain ⟨hs, hgd, hx, es, ep, hdt, hsz, ent⟩ := Inv.frzW I1 hd
  have hraw : s1.heap.DictRaw d es ep := ⟨o, hgd, hx, hdt⟩
  refine ⟨hraw.typeIs, fun b q => (by cases q; exact ⟨o, hgd, hx.2.1⟩), ?_⟩
  have I2 : Inv X pins σ H1 { s1 with heap := s1.heap.push { cls := .type "dict_values", data := .fields #[.ref d] } } := I1.kept (t' := s1.toks) fun b ob q => Heap.get?_push_of_some _ q
  have fin : wpAny (model X.prog X.w) X.A (pyIter (.ref s1.heap.objs.size)) (PIE X pins σ tg R) X.xe { s1 with heap := s1.heap.push { cls := .type "dict_values", data := .fields #[.ref d] } } := by
    refine wpAny_pyIter_values_raw (d := d) ⟨_, Heap.get?_push_size _ rfl, rfl, rfl⟩ (hraw.push _) (pi_one (tk := s1.toks) I2 _ (turn_wv _ hdt) ⟨_, Heap.get?_push_size _ rfl, rfl, ?_⟩ q)
    rw [hsz] <;> rfl
  show wpAny _ _ (callWith cpos (.builtin "dict.values") [.ref d] [] []) _ X.xe s1
  exact method_meetsIn F.slot_dict_values F.entry_dict_values rfl (PySem.evalArgs_none ⟨rfl, hraw.typeIs, F.args_dict_values_1 _, _, meets_dict_values_raw d hs, ⟨es, ep, hraw⟩, fin⟩)
theorem pi_wi {elts : List Expr} {kk : Nat} {tpos : Pos} (he : PE X e td) (hbase : attributeBase e "items" X.env (eval e X.env) = eval e X.env := by rfl) (hline : (apos.endLine == cpos.line) = true := by rfl) :
    PI X (.Tuple elts kk tpos) (.Call (.Attribute e "items" apos) [] [] cpos) (iWI X td) := by
  refine ⟨fun pins s σ H R I h => ?_⟩
  refine wpAny_Call_method (T := "dict") (id := "dict.items") hbase rfl hline F.plainAttrs_dict F.slot_dict_items F.type_dict_items (thn (he.run pins s σ H _ I h) fun u s1 ⟨x, H1, I1, rx, d, o, ents, ex, hd, q⟩ => ?_)
  subst ex
  obtain rfl : u = Value.ref d := rx
  obtain ⟨hs, hgd, hx, es, ep, hdt, hsz, ent⟩ := Inv.frzW I1 hd
  have hraw : s1.heap.DictRaw d es ep := ⟨o, hgd, hx, hdt⟩
  refine ⟨hraw.typeIs, fun b q => (by cases q; exact ⟨o, hgd, hx.2.1⟩), ?_⟩
  have I2 : Inv X pins σ H1 { s1 with heap := s1.heap.push { cls := .type "dict_items", data := .fields #[.ref d] } } := I1.kept (t' := s1.toks) fun b ob q => Heap.get?_push_of_some _ q
  have fin : wpAny (model X.prog X.w) X.A (pyIter (.ref s1.heap.objs.size)) (PIE X pins σ (.Tuple elts kk tpos) R) X.xe { s1 with heap := s1.heap.push { cls := .type "dict_items", data := .fields #[.ref d] } } := by
    refine wpAny_pyIter_items_raw (d := d) ⟨_, Heap.get?_push_size _ rfl, rfl, rfl⟩ (hraw.push _) (pi_one (tk := s1.toks) I2 _ (turn_wi _ hdt) ⟨.none, .none, ?_⟩ q)
    rw [← hsz]
    exact Heap.get?_push_size _ rfl
  show wpAny _ _ (callWith cpos (.builtin "dict.items") [.ref d] [] []) _ X.xe s1
  exact method_meetsIn F.slot_dict_items F.entry_dict_items rfl (PySem.evalArgs_none ⟨rfl, hraw.typeIs, F.args_dict_items_1 _, _, meets_dict_items_raw d hs, ⟨es, ep, hraw⟩, fin⟩)
end
/-! ### a walk's bookkeeping -/
section
variable {P : Program} {w : World} {d : Addr} {o : Obj} {ents : List Dent} {g : TG} {tb : TS} {D : Ends} {σ : St} {H : Hp}
theorem for_wi (Pv : Nat → St → Hp → Prop) (h0 : Pv 0 σ H) (hl : ∀ i σ H, i ≤ ents.length → Pv i σ H → H d = some (.frz o (dwO P w d ents)))
    (hs : ∀ i e T σ H, ents[i]? = some e → Pv i σ H → H T = none → g (.ref T) σ (upd H T (.tup [.ref e.2.1, e.2.2])) fun σ2 H2 => tb { D with nx := Pv (i + 1), ct := Pv (i + 1), bk := D.nx } σ2 H2) (hd : ∀ σ H, Pv ents.length σ H → D.nx σ H) :
    ∃ W : Nat → Nat → St → Hp → Prop, (∃ m, W 0 m σ H) ∧ ∀ i m σ H, W i m σ H →
      ((ItWI P w d o ents).stop i H ∧ D.nx σ H) ∨ ((ItWI P w d o ents).go i H ∧ ∃ N : St → Hp → Prop, (∀ σ' H', N σ' H' → ∃ m', m' < m ∧ W (i + 1) m' σ' H') ∧ ∀ x H', (ItWI P w d o ents).yld i H x H' → g x σ H' fun σ2 H2 => tb { D with nx := N, ct := N, bk := D.nx } σ2 H2) := by
  refine ⟨fun i m σ H => m = ents.length - i ∧ i ≤ ents.length ∧ Pv i σ H, ⟨ents.length, by simp, Nat.zero_le _, h0⟩, ?_⟩
  rintro i m σ H ⟨rfl, hi, p⟩
  have q := hl i σ H hi p
  by_cases hlt : i < ents.length
  · refine .inr ⟨⟨q, hlt⟩, Pv (i + 1), fun σ' H' p' => ⟨ents.length - (i + 1), by omega, rfl, hlt, p'⟩, fun x H' y => ?_⟩
    obtain ⟨T, e, he, rfl, hT, rfl⟩ := y
    exact hs i e T σ H he p hT
  · have e : i = ents.length := by omega
    subst e
    exact .inl ⟨⟨q, Nat.le_refl _⟩, hd σ H p⟩
theorem for_wv (Pv : Nat → St → Hp → Prop) (h0 : Pv 0 σ H) (hl : ∀ i σ H, i ≤ ents.length → Pv i σ H → H d = some (.frz o (dwO P w d ents)))
    (hs : ∀ i e σ H, ents[i]? = some e → Pv i σ H → g e.2.2 σ H fun σ2 H2 => tb { D with nx := Pv (i + 1), ct := Pv (i + 1), bk := D.nx } σ2 H2) (hd : ∀ σ H, Pv ents.length σ H → D.nx σ H) :
    ∃ W : Nat → Nat → St → Hp → Prop, (∃ m, W 0 m σ H) ∧ ∀ i m σ H, W i m σ H →
      ((ItWV P w d o ents).stop i H ∧ D.nx σ H) ∨ ((ItWV P w d o ents).go i H ∧ ∃ N : St → Hp → Prop, (∀ σ' H', N σ' H' → ∃ m', m' < m ∧ W (i + 1) m' σ' H') ∧ ∀ x H', (ItWV P w d o ents).yld i H x H' → g x σ H' fun σ2 H2 => tb { D with nx := N, ct := N, bk := D.nx } σ2 H2) := by
  refine ⟨fun i m σ H => m = ents.length - i ∧ i ≤ ents.length ∧ Pv i σ H, ⟨ents.length, by simp, Nat.zero_le _, h0⟩, ?_⟩
  rintro i m σ H ⟨rfl, hi, p⟩
  have q := hl i σ H hi p
  by_cases hlt : i < ents.length
  · refine .inr ⟨⟨q, hlt⟩, Pv (i + 1), fun σ' H' p' => ⟨ents.length - (i + 1), by omega, rfl, hlt, p'⟩, fun x H' y => ?_⟩
    obtain ⟨rfl, e, he, rfl⟩ := y
    exact hs i e σ H' he p
  · have e : i = ents.length := by omega
    subst e
    exact .inl ⟨⟨q, Nat.le_refl _⟩, hd σ H p⟩
end
/-! ### sorted(d) -/
def rSortedDW (X : Cx) : List V → Hp → VK → Prop := fun xs H Q => ∃ (a : Addr) (ents : List Dent), xs = [V.ref a] ∧ Rd H a (dwO X.prog X.w a ents) ∧ KeysOk X.K H ents ∧ (ents.map (·.1)).Nodup ∧
  ∀ (p : Addr) (L' : List AW), H p = none → L'.Perm (ents.map fun e => (e.2.1, e.1)) → Asc (L'.map (·.2)) → Q (.ref p) (upd H p (.lst (L'.map fun q => V.ref q.1)))
section
variable {X : Cx}
theorem acc_eq {L : List AW} {es : Array DictEntry} {acc : Array Value} (hsz : es.size = L.length) (hk : ∀ (i : Nat) (p : AW), L[i]? = some p → ∃ en, es[i]? = some en ∧ en.key = .ref p.1) (h : ItemsOf (fun i v => ∃ hi : i < es.size, v = es[i].key) acc es.size) :
    acc.toList = L.map fun p => Value.ref p.1 := by
  refine List.ext_getElem? fun i => ?_
  rw [Array.getElem?_toList, List.getElem?_map]
  by_cases hi : i < L.length
  · have ha : i < acc.size := by rw [h.1]; omega
    obtain ⟨en, hen, hkey⟩ := hk i L[i] (List.getElem?_eq_getElem hi)
    obtain ⟨hj, e⟩ := h.2 i acc[i] (Array.getElem?_eq_getElem ha)
    rw [Array.getElem?_eq_getElem hj] at hen
    rw [Array.getElem?_eq_getElem ha, List.getElem?_eq_getElem hi, e, Option.some.inj hen, hkey]
    rfl
  · rw [Array.getElem?_eq_none (by rw [h.1]; omega), List.getElem?_eq_none (by omega)]
    rfl
theorem collect_dw {P : Program} {w : World} {A : Around} {E : Value → Shared → Prop} {s : Shared} {d : Addr} {es : Array DictEntry} {ep : Nat} {R : List Value → Shared → Prop} (hs : (d == sysModules) = false) (hh : A.handled = none) (hm : s.heap.DictRaw d es ep) (hn : es.size ≤ sizeLine)
    (h : ∀ (h' : Heap) (tk : Nat) (acc : Array Value), (∀ b o, s.heap.get? b = some o → h'.get? b = some o) → s.heap.objs.size ≤ h'.objs.size → ItemsOf (fun i v => ∃ hi : i < es.size, v = es[i].key) acc es.size → R acc.toList { s with heap := h', toks := tk }) :
    wpAny (model P w) A (collect (.ref d)) R E s := by
  have hlt := hm.lt_size
  unfold collect
  refine wpAny_bind (wpAny_runValue (codeAny_builtin F.entry_proto_collect ?_))
  rw [Around.under_plainId F.plain_proto_collect _]
  show wpAny _ A.in1 (newList [] >>= fun l => again (.builtin "list.__iadd__" ⟨[l, .ref d], []⟩)) _ _ s
  refine wpAny_bind (wpAny_newObj_type ?_)
  refine wpAny_pure ⟨plainId_quiet F.plain_list_iadd _, codeAny_builtin F.entry_list_iadd ?_⟩
  rw [Around.under_plainId F.plain_list_iadd _]
  show wpAny _ A.in1 (Builtin.List.listExtendWith (.ref s.heap.objs.size) (.ref d) (.ref s.heap.objs.size)) _ _ _
  have hS : (s.heap.push { cls := .type "list", data := .seq ([] : List Value).toArray }).get? s.heap.objs.size = some { cls := .type "list", data := .seq #[] 0 } := Heap.get?_push_size _ rfl
  refine wpAny_mono (PySem.W.kdl_extend (A := A) (PySem.KdlSrc.rawDict (prog := P) (w := w) (es := es) (ep := ep) hs) hh (s := { s with heap := s.heap.push { cls := .type "list", data := .seq ([] : List Value).toArray } })
    (R := fun rr s' => rr = .ok (.ret (.ref s.heap.objs.size)) ∧ ∃ (h' : Heap) (tk : Nat) (acc : Array Value) (c' : Nat), s' = { s with heap := h', toks := tk } ∧
      (∀ b o, s.heap.get? b = some o → h'.get? b = some o) ∧ h'.get? s.heap.objs.size = some { cls := .type "list", dict := none, data := .seq acc c', slots := #[] } ∧ ItemsOf (fun i v => ∃ hi : i < es.size, v = es[i].key) acc es.size)
    (hm.push _) s.heap.objs.size (Nat.ne_of_gt hlt) (Nat.ne_of_gt hlt) (.ref s.heap.objs.size) 0 hS
    (fun h' tk acc c' hk e hi => ⟨rfl, h', tk, acc, c', rfl, fun b o q => hk b o (Nat.ne_of_lt (Heap.lt_size q)) (Heap.get?_push_of_some _ q), e, hi⟩) hn) (fun fin s' x => ?_) (fun e s' x => ?_)
  · cases fin with
    | done f =>
      obtain ⟨e, h', tk, acc, c', rfl, hk, hS', hacc⟩ := x
      cases e
      show wpAny _ A (load s.heap.objs.size >>= _) _ _ _
      exact wpAny_bind (wpAny_load hS' (wpAny_pure (h h' tk acc hk (Nat.le_of_lt (Heap.lt_size hS')) hacc)))
    | again c₁ =>
      refine ⟨x.1, codeAny_mono x.2 fun q s₂ y => ?_⟩
      obtain ⟨rfl, h', tk, acc, c', rfl, hk, hS', hacc⟩ := y
      show wpAny _ A (load s.heap.objs.size >>= _) _ _ _
      exact wpAny_bind (wpAny_load hS' (wpAny_pure (h h' tk acc hk (Nat.le_of_lt (Heap.lt_size hS')) hacc)))
  · exact absurd x.1 (by intro z; cases z)
theorem call_sortedDW (hc : X.calm = true) (hu : X.A.units + 6 < cLine) : CallR X (.builtin "sorted") (rSortedDW X) := by
  rintro pins s σ H xs us Q I r ⟨a, ents, rfl, ha, hk, hnd, q⟩
  rw [Vals.ref1 r]
  obtain ⟨hs, hz, xs, pr, o, es, ep, ho, hx, hdt, he, _⟩ := (show DictW0 X.prog X.w s.heap a ents from (ha.ok I.hok).1)
  have hsz : es.size = (ents.map fun e => ((e.2.1, e.1) : AW)).length := by
    rw [size_of_entries he, List.length_map]
    exact (Paired.length pr).symm
  rw [List.length_map] at hsz
  have hkeys : ∀ (i : Nat) (p : AW), (ents.map fun e => ((e.2.1, e.1) : AW))[i]? = some p → ∃ en, es[i]? = some en ∧ en.key = .ref p.1 := fun i p hp => by
    rw [List.getElem?_map] at hp
    obtain ⟨e, hp', rfl⟩ := Option.map_eq_some_iff.mp hp
    replace hp := hp'
    obtain ⟨b, hb, e1, e2, e3⟩ := paired_get pr hp
    refine ⟨entryOfKey (TKW X.prog X.w) b, ?_, ?_⟩
    · rw [entry_at he i, hb]
      rfl
    · show Value.ref b.2.1 = _
      rw [e2]
  refine Calls.call_function_entry kind_sorted plain_sorted entry_sorted (args_sorted1 _) ?_
  unfold Builtin.«sorted»
  refine wpAny_bind (m := checkCount "sorted" 1 1 _) (wpAny_pure ?_)
  refine wpAny_bind (collect_dw (A := X.A.in1) (es := es) (ep := ep) hs (I.ok.hd hc) ⟨o, ho, hx, hdt⟩ (by omega) fun h1 tk acc k1 hle hacc => ?_)
  rw [acc_eq (L := ents.map fun e => ((e.2.1, e.1) : AW)) (by rw [List.length_map]; exact hsz) hkeys hacc]
  refine sort_new (P := X.prog) (w := X.w) (A := X.A.in1) (s := { s with heap := h1, toks := tk }) (L := ents.map fun e => ((e.2.1, e.1) : AW)) (by rw [List.length_map]; exact hz) (fun p hp => ?_) (by show X.A.units + 1 + 4 < cLine; omega) fun h' out c L' k2 hg hout pm pw => ?_
  · obtain ⟨e, hem, rfl⟩ := List.mem_map.mp hp
    exact isM_keep (Inv.isM I (hk e hem)) k1
  have hn : H h1.objs.size = none := I.hok.fresh hle
  have hv : Vals (L'.map fun q => V.ref q.1) out.toList := by
    rw [hout]
    exact vals_aw L'
  have hlen : (L'.map fun q => V.ref q.1).length ≤ sizeLine := by
    rw [List.length_map, pm.length_eq, List.length_map]
    exact hz
  have J : Inv X pins σ (upd H h1.objs.size (.lst (L'.map fun q => V.ref q.1))) { s with heap := h', toks := tk } :=
    I.laid (t' := tk) (fun b u e => k2 b u (k1 b u e)) hle ⟨hlen, out.toList, c, hv, hg⟩
  refine ⟨.ref h1.objs.size, _, J, rfl, q h1.objs.size L' hn pm ⟨?_, ?_⟩⟩
  · refine (pm.map (·.2)).nodup_iff.mpr ?_
    rw [List.map_map]
    exact hnd
  · exact List.pairwise_map.mpr pw
end
end L2.K11
set_option Elab.async false
set_option linter.all false
set_option maxRecDepth 100000
set_option maxHeartbeats 1000000
/-! list(enumerate(xs)): a new list of new pairs. -/
namespace L2.K11
open PySem PySem.Spec PyProof.Rows
theorem ml_enum : typeLookup (.type "enumerate") "__len__" = pure none := by rw [typeLookup_type, builtinLookup_eq_fast]; kernel_rfl
theorem mh_enum : typeLookup (.type "enumerate") "__length_hint__" = pure none := by rw [typeLookup_type, builtinLookup_eq_fast]; kernel_rfl
section
variable {P : Program} {w : World} {A : Around} {E : Value → Shared → Prop} {s : Shared}
theorem hint_enum {r : Addr} {Q : Bool → Shared → Prop} (hT : s.TypeIs (.ref r) "enumerate") (h : Q true s) : wpAny (model P w) A (Builtin.List.listLengthHint (.ref r)) Q E s := by
  unfold Builtin.List.listLengthHint
  refine wpAny_bind (wpAny_specialOf hT ml_enum ?_)
  show wpAny _ _ (specialOf (.ref r) "__length_hint__" >>= _) _ _ s
  refine wpAny_bind (wpAny_specialOf hT mh_enum ?_)
  exact wpAny_pure h
/-- where the enumeration is: its first turn, or a pair of its own is held by the list at S -/
def EnSt (h : Heap) (e it l S : Addr) (i : Nat) : Prop :=
  h.IsListIter it l i ∧ ((∃ old, IsEnum h e it i old) ∨ ∃ old T f oT, IsEnumHeld h e it i old T f ∧ h.get? T = some oT ∧ T ≠ e ∧ T ≠ it ∧ T ≠ S)
theorem EnSt.keep {h h' : Heap} {e it l S : Addr} {i : Nat} (x : EnSt h e it l S i) (k : ∀ b o, b ≠ S → h.get? b = some o → h'.get? b = some o) (he : e ≠ S) (hi : it ≠ S) : EnSt h' e it l S i := by
  refine ⟨x.1.at fun o q => k it o hi q, ?_⟩
  rcases x.2 with ⟨old, q⟩ | ⟨old, T, f, oT, q, hT, h1, h2, h3⟩
  · exact .inl ⟨old, k e _ he q⟩
  · exact .inr ⟨old, T, f, oT, k e _ he q, k T _ h3 hT, h1, h2, h3⟩
theorem en_item {e it l S : Addr} {i : Nat} {items : Array Value} {x : Value} {Q : Option Value → Shared → Prop} (st : EnSt s.heap e it l S i) (hl : s.heap.IsList l items) (hx : items[i]? = some x) (hne : e ≠ it) (hS : S < s.heap.objs.size)
    (hQ : ∀ h' t, EnSt h' e it l S (i + 1) → h'.get? s.heap.objs.size = some { cls := .type "tuple", data := .seq #[.int i t, x] } → h'.objs.size = s.heap.objs.size + 1 →
      (∀ b o, b ≠ e → b ≠ it → s.heap.get? b = some o → h'.get? b = some o) → Q (some (.ref s.heap.objs.size)) { s with heap := h', toks := s.toks + 1 }) :
    wpAny (model P w) A (pyNext (.ref e)) Q E s := by
  have hil : it < s.heap.objs.size := by obtain ⟨_, q, _⟩ := st.1; exact Heap.lt_size q
  have e1 : ((i + 1 : Nat) : Int) = (i : Int) + 1 := by omega
  rcases st with ⟨hit, ⟨old, he⟩ | ⟨old, T, f, oT, he, hT, h1, h2, h3⟩⟩
  · have hel : e < s.heap.objs.size := Heap.lt_size he
    refine wpAny_pyNext_enum_item he hit hl hx hne fun h' ho hit' ht hz hk => hQ h' _ ⟨hit', .inr ⟨x, s.heap.objs.size, false, _, ?_, ht, Nat.ne_of_gt hel, Nat.ne_of_gt hil, Nat.ne_of_gt hS⟩⟩ ht hz hk
    rw [e1]
    exact ho
  · refine wpAny_pyNext_enum_item_held he hT h1 h2 hit hl hx hne fun h' ho hit' ht hz hk => hQ h' _ ⟨hit', .inr ⟨old, T, true, oT, ?_, hk T oT h1 h2 hT, h1, h2, h3⟩⟩ ht hz hk
    rw [e1]
    exact ho
theorem en_end {e it l S : Addr} {i : Nat} {items : Array Value} {Q : Option Value → Shared → Prop} (hh : A.handled = none) (st : EnSt s.heap e it l S i) (hl : s.heap.IsList l items) (hx : items[i]? = none)
    (hQ : ∀ h', Heap.ExtBut it s.heap h' → Q none { s with heap := h' }) : wpAny (model P w) A (pyNext (.ref e)) Q E s := by
  rcases st with ⟨hit, ⟨old, he⟩ | ⟨old, T, f, oT, he, hT, h1, h2, h3⟩⟩
  · exact wpAny_pyNext_enum_end hh he hit hl hx hQ
  · exact wpAny_pyNext_enum_end_held hh he hit hl hx hQ
structure MadeE (items : Array Value) (lo : Addr) (h : Heap) (as : List Addr) : Prop where
  rise : as.Pairwise (· < ·)
  above : ∀ a ∈ as, lo < a
  pairs : ∀ (j : Nat) (a : Addr), as[j]? = some a → ∃ x t, items[j]? = some x ∧ h.get? a = some { cls := .type "tuple", data := .seq #[.int j t, x] }
theorem MadeE.there {items : Array Value} {lo : Addr} {h : Heap} {as : List Addr} (g : MadeE items lo h as) {a : Addr} (ha : a ∈ as) : a < h.objs.size := by
  obtain ⟨j, hj⟩ := List.mem_iff_getElem?.mp ha
  obtain ⟨_, _, _, e⟩ := g.pairs j a hj
  exact Heap.lt_size e
theorem loop_en {R : Result → Shared → Prop} {items : Array Value} {S e it l : Addr} (hh : A.handled = none) (heS : e < S) (hiS : it < S) (hlS : l ≠ S) (hle : l ≠ e) (hli : l ≠ it) (hne : e ≠ it) (hn : items.size ≤ sizeLine) (res : Value) {h₁ : Heap}
    (hR : ∀ h' tk acc c as, (∀ b o, b ≠ S → b ≠ e → b ≠ it → h₁.get? b = some o → h'.get? b = some o) → h'.get? S = some { cls := .type "list", dict := none, data := .seq acc c, slots := #[] } → as.length = items.size → MadeE items S h' as →
      acc.toList = as.map Value.ref → R (.ok (.ret res)) { s with heap := h', toks := tk }) :
    ∀ (k i : Nat) (h : Heap) (tk c : Nat) (acc : Array Value) (as : List Addr), items.size - i = k → i ≤ items.size → EnSt h e it l S i → h.IsList l items → (∀ b o, b ≠ S → b ≠ e → b ≠ it → h₁.get? b = some o → h.get? b = some o) →
      h.get? S = some { cls := .type "list", dict := none, data := .seq acc c, slots := #[] } → acc.toList = as.map Value.ref → as.length = i → MadeE items S h as →
      codeAny (model P w) A (.builtin "list.extend.loop" ⟨[.ref S, .ref e, res], []⟩) R { s with heap := h, toks := tk } := by
  intro k
  induction k with
  | zero =>
    intro i h tk c acc as hk hi hst hl hkeep hS hacc hal hG
    refine codeAny_builtin PySem.F.entry_extend_loop ?_
    rw [Around.under_plainId PySem.F.plain_extend_loop _]
    show wpAny _ A.in1 (pyNext (.ref e) >>= _) _ _ _
    refine wpAny_bind (en_end (s := { s with heap := h, toks := tk }) (A := A.in1) hh hst hl (Array.getElem?_eq_none (by omega)) fun h' he => ?_)
    refine wpAny_pure (hR h' tk acc c as (fun b o h1 h2 h3 q => he b o h3 (hkeep b o h1 h2 h3 q)) (he S _ (Nat.ne_of_gt hiS) hS) (by omega) ⟨hG.rise, hG.above, fun j a hj => ?_⟩ hacc)
    obtain ⟨x, t, e1, e3⟩ := hG.pairs j a hj
    exact ⟨x, t, e1, he a _ (Nat.ne_of_gt (Nat.lt_trans hiS (hG.above a (List.mem_of_getElem? hj)))) e3⟩
  | succ k ih =>
    intro i h tk c acc as hk hi hst hl hkeep hS hacc hal hG
    have hlt : i < items.size := by omega
    have hsz : acc.size = i := by rw [← Array.length_toList, hacc, List.length_map, hal]
    refine codeAny_builtin PySem.F.entry_extend_loop ?_
    rw [Around.under_plainId PySem.F.plain_extend_loop _]
    show wpAny _ A.in1 (pyNext (.ref e) >>= _) _ _ _
    refine wpAny_bind (en_item (s := { s with heap := h, toks := tk }) hst hl (Array.getElem?_eq_getElem hlt) hne (Heap.lt_size hS) fun h' t hst' ht hz hkp => ?_)
    dsimp only at ht hz hkp ⊢
    have hS' := hkp S _ (Nat.ne_of_gt heS) (Nat.ne_of_gt hiS) hS
    have up : ∀ b o, b ≠ S → h'.get? b = some o → (h'.update S (Obj.mapSeq (·.push (Value.ref h.objs.size)))).get? b = some o := fun b o hb e => (Heap.get?_update_other _ _ (Ne.symm hb)).trans e
    have hSl : S < h.objs.size := Heap.lt_size hS
    show wpAny _ A.in1 (updateSeq S (·.push (Value.ref h.objs.size)) >>= _) _ _ _
    refine wpAny_bind ?_
    refine wpAny_updateSeq hS' rfl (wpAny_pure ⟨plainId_quiet PySem.F.plain_extend_loop _, ih (i + 1) _ _ _ (acc.push (Value.ref h.objs.size)) (as ++ [h.objs.size]) (by omega) hlt (hst'.keep up (Nat.ne_of_lt heS) (Nat.ne_of_lt hiS)) ?_
      (fun b o h1 h2 h3 q => up b o h1 (hkp b o h2 h3 (hkeep b o h1 h2 h3 q))) (Heap.get?_update_self _ hS' rfl) (by rw [Array.toList_push, hacc, List.map_append]; rfl) (by rw [List.length_append, hal]; rfl) ⟨?_, ?_, ?_⟩⟩) (by rw [hsz]; omega) (by show (acc.push (Value.ref h.objs.size)).size ≤ sizeLine + 1; rw [Array.size_push, hsz]; omega)
    · obtain ⟨o, ho, q⟩ := hl
      exact ⟨o, up l o hlS (hkp l o hle hli ho), q⟩
    · refine List.pairwise_append.mpr ⟨hG.rise, List.pairwise_singleton _ _, fun a ha b hb => ?_⟩
      rw [List.mem_singleton.mp hb]
      exact hG.there ha
    · intro a ha
      rcases List.mem_append.mp ha with ha | ha
      · exact hG.above a ha
      · rw [List.mem_singleton.mp ha]; exact hSl
    · intro j b hj
      rcases Nat.lt_trichotomy j as.length with h1 | h1 | h1
      · rw [List.getElem?_append_left h1] at hj
        obtain ⟨x', t', e1, e3⟩ := hG.pairs j b hj
        have hb := hG.above b (List.mem_of_getElem? hj)
        exact ⟨x', t', e1, up b _ (Nat.ne_of_gt hb) (hkp b _ (Nat.ne_of_gt (Nat.lt_trans heS hb)) (Nat.ne_of_gt (Nat.lt_trans hiS hb)) e3)⟩
      · subst h1
        have hb : h.objs.size = b := by simpa using hj
        subst hb
        exact ⟨items[as.length]'(by rw [hal]; exact hlt), t, Array.getElem?_eq_getElem _, up _ _ (Nat.ne_of_gt hSl) (by subst hal; exact ht)⟩
      · have hnone : (as ++ [h.objs.size])[j]? = none := List.getElem?_eq_none (by rw [List.length_append, List.length_singleton]; omega)
        rw [hnone] at hj; cases hj
theorem ext_en {R : Result → Shared → Prop} {items : Array Value} {S e it l : Addr} (hh : A.handled = none) (heS : e < S) (hiS : it < S) (hlS : l ≠ S) (hle : l ≠ e) (hli : l ≠ it) (hne : e ≠ it) (hn : items.size ≤ sizeLine) (res : Value) (c₀ : Nat)
    (he : IsEnum s.heap e it 0 .none) (hit : s.heap.IsListIter it l 0) (hl : s.heap.IsList l items) (hS : s.heap.get? S = some { cls := .type "list", data := .seq #[] c₀ })
    (hR : ∀ h' tk acc c as, (∀ b o, b ≠ S → b ≠ e → b ≠ it → s.heap.get? b = some o → h'.get? b = some o) → h'.get? S = some { cls := .type "list", dict := none, data := .seq acc c, slots := #[] } → as.length = items.size → MadeE items S h' as →
      acc.toList = as.map Value.ref → R (.ok (.ret res)) { s with heap := h', toks := tk }) :
    wpAny (model P w) A.in1 (Builtin.List.listExtendWith (.ref S) (.ref e) res)
      (fun fin s' => match fin with | .done f => R (.ok f) s' | .again c' => c'.quiet = true ∧ codeAny (model P w) A c' R s') (fun e s' => R (.error e) s') s := by
  have hT : s.TypeIs (.ref e) "enumerate" := ⟨_, he, rfl⟩
  have key : ∀ (h : Heap) (c₁ tk : Nat), (∀ b o, b ≠ S → s.heap.get? b = some o → h.get? b = some o) →
      h.get? S = some { cls := .type "list", data := .seq #[] c₁ } → codeAny (model P w) A (.builtin "list.extend.loop" ⟨[.ref S, .ref e, res], []⟩) R { s with heap := h, toks := tk } := by
    intro h c₁ tk hk hS₁
    refine loop_en (s := s) (h₁ := s.heap) hh heS hiS hlS hle hli hne hn res hR items.size 0 h tk c₁ #[] [] (Nat.sub_zero _) (Nat.zero_le _) ⟨hit.at fun o q => hk it o (Nat.ne_of_lt hiS) q, .inl ⟨.none, hk e _ (Nat.ne_of_lt heS) he⟩⟩ ?_ (fun b o hb _ _ q => hk b o hb q) hS₁ rfl rfl
      ⟨List.Pairwise.nil, (fun _ ha => nomatch ha), (fun j a hj => by simp at hj)⟩
    obtain ⟨o, ho, q⟩ := hl
    exact ⟨o, hk l o hlS ho, q⟩
  unfold Builtin.List.listExtendWith
  refine wpAny_bind (wpAny_typeOf (T := "enumerate") hT ?_)
  have h1 : Builtin.List.listSameRef (.ref S) (.ref e) = false := by simp [Builtin.List.listSameRef, Nat.ne_of_gt heS]
  have h2 : (Value.type "enumerate" == Value.type "list") = false := by decide
  have h3 : (Value.type "enumerate" == Value.type "tuple") = false := by decide
  simp only [h1, h2, h3, Bool.or_false, Bool.false_eq_true, if_false]
  refine wpAny_bind (wpAny_pyIter_enum he ?_)
  refine wpAny_bind (wpAny_holding (hint_enum hT ?_))
  refine wpAny_ite_split (fun _ => ?_) (fun _ => wpAny_pure ⟨plainId_quiet PySem.F.plain_extend_loop _, key _ c₀ _ (fun b o _ e => e) hS⟩)
  refine wpAny_bind (wpAny_rule ?_)
  refine wpAny_bind ?_
  show wpAny _ _ (updateSeq S (·.push .none) >>= fun _ => updateSeq S (·.pop)) _ _ _
  refine wpAny_bind (wpAny_updateSeq hS rfl ?_)
  have hS₂ := Heap.get?_update_self (Obj.mapSeq (·.push Value.none)) hS rfl
  refine wpAny_updateSeq (hz := by seq_fits) hS₂ rfl ?_
  have hS₃ := Heap.get?_update_self (Obj.mapSeq (·.pop)) hS₂ rfl
  refine wpAny_pure ⟨plainId_quiet PySem.F.plain_extend_loop _, key _ _ _ (fun b o hb e => ?_) hS₃⟩
  exact (Heap.get?_update_other _ _ (Ne.symm hb)).trans ((Heap.get?_update_other _ _ (Ne.symm hb)).trans e)
theorem call_list_en {items : Array Value} {e it l : Addr} {Q : Value → Shared → Prop} (hh : A.handled = none) (hle : l ≠ e) (hli : l ≠ it) (hne : e ≠ it) (hn : items.size ≤ sizeLine)
    (he : IsEnum s.heap e it 0 .none) (hit : s.heap.IsListIter it l 0) (hl : s.heap.IsList l items)
    (hQ : ∀ h' tk acc c as, (∀ b o, b ≠ e → b ≠ it → s.heap.get? b = some o → h'.get? b = some o) → h'.get? s.heap.objs.size = some { cls := .type "list", dict := none, data := .seq acc c, slots := #[] } → as.length = items.size → MadeE items s.heap.objs.size h' as →
      acc.toList = as.map Value.ref → Q (.ref s.heap.objs.size) { s with heap := h', toks := tk }) :
    wpAny (model P w) A (call (.type "list") [.ref e]) Q E s := by
  refine callType_codes (Q₁ := fun obj s₁ => obj = .ref s.heap.objs.size ∧ s₁ = { s with heap := s.heap.push { cls := .type "list", data := .seq #[] } }) PySem.F.called_list (PySem.F.typeCall_list_1 _) PySem.F.entry_list_init
    (code_list_new _ ⟨rfl, rfl⟩) fun obj s₁ h₁ => ?_
  obtain ⟨rfl, rfl⟩ := h₁
  have hS : (s.heap.push { cls := .type "list", data := .seq #[] }).get? s.heap.objs.size = some { cls := .type "list", data := .seq #[] } := Heap.get?_push_size _ rfl
  have hlt : e < s.heap.objs.size := Heap.lt_size he
  have hil : it < s.heap.objs.size := by obtain ⟨_, q, _⟩ := hit; exact Heap.lt_size q
  have hll : l < s.heap.objs.size := by obtain ⟨_, q, _⟩ := hl; exact Heap.lt_size q
  refine ⟨⟨_, hS, rfl⟩, PySem.F.args_list_init_2 _ _, ?_⟩
  show wpAny _ _ (do let old ← Builtin.List.listItems (.ref s.heap.objs.size); Builtin.List.listUpdate (.ref s.heap.objs.size) (fun _ => #[]); letGo old.toList.reverse; Builtin.List.listExtendWith (.ref s.heap.objs.size) (.ref e) .none) _ _ _
  refine wpAny_bind ?_
  unfold Builtin.List.listItems
  refine wpAny_bind (wpAny_seqItems hS rfl (wpAny_pure ?_))
  show wpAny _ _ (updateSeq s.heap.objs.size (fun _ => #[]) >>= fun _ => letGo (#[] : Array Value).toList.reverse >>= fun _ => Builtin.List.listExtendWith (.ref s.heap.objs.size) (.ref e) .none) _ _ _
  refine wpAny_bind (wpAny_updateSeq hS rfl ?_)
  have hS₂ := Heap.get?_update_self (Obj.mapSeq (fun _ => (#[] : Array Value))) hS rfl
  have oth : ∀ b o, b ≠ s.heap.objs.size → s.heap.get? b = some o → ((s.heap.push { cls := .type "list", data := .seq #[] }).update s.heap.objs.size (Obj.mapSeq (fun _ => (#[] : Array Value)))).get? b = some o :=
    fun b o hb q => (Heap.get?_update_other _ _ (Ne.symm hb)).trans (Heap.get?_push_of_some _ q)
  refine wpAny_bind (wpAny_letGo ?_)
  refine ext_en (A := A.in1) hh hlt hil (Nat.ne_of_lt hll) hle hli hne hn .none _ (oth e _ (Nat.ne_of_lt hlt) he) (hit.at fun o q => oth it o (Nat.ne_of_lt hil) q) ?_ hS₂ fun h' tk acc c as hk hS' hal hG hacc => ⟨rfl, hQ h' tk acc c as (fun b o h1 h2 q => hk b o (Nat.ne_of_lt (Heap.lt_size q)) h1 h2 (oth b o (Nat.ne_of_lt (Heap.lt_size q)) q)) hS' hal hG hacc⟩
  obtain ⟨o, ho, q⟩ := hl
  exact ⟨o, oth l o (Nat.ne_of_lt hll) ho, q⟩
end
/-! ### over the layer -/
def tLE (K : PySem.W.Frag) (ta : TA) : TE := fun σ H Q => ta σ H fun vs H1 => ∃ a xs, vs = [.ref a] ∧ SqL K H1 a xs ∧
  ∀ (l : Addr) (Ts : List Addr) (H2 : Hp), Same H1 H2 → H1 l = none → (∀ T ∈ Ts, H1 T = none) → Ts.length = xs.length → H2 l = some (.lst (Ts.map V.ref)) → (∀ (i : Nat) (T : Addr) (x : V), Ts[i]? = some T → xs[i]? = some x → H2 T = some (.tup [.int (i : Nat), x])) → Q (.ref l) H2
section
variable {X : Cx} {e : Expr} {ta : TA} {p p2 pos pos2 : Pos}
theorem pe_listEnum (hc : X.calm = true) (hgl : Gl X "list") (hml : X.mg "list" = none) (hg : Gl X "enumerate") (hm : X.mg "enumerate" = none) (ha : PA X [e] ta) (hs : starEach [e] X.env = [(false, eval e X.env)] := by rfl)
    (hs2 : starEach [.Call (.Name "enumerate" p2) [e] [] pos2] X.env = [(false, eval (.Call (.Name "enumerate" p2) [e] [] pos2) X.env)] := by rfl) :
    PE X (.Call (.Name "list" p) [.Call (.Name "enumerate" p2) [e] [] pos2] [] pos) (tLE X.K ta) := by
  refine ⟨fun pins s σ H Q I h => ?_⟩
  refine Call_ (ld_blt I hgl hml PyProof.Rows.boot_list (PyProof.Rows.callWith_type1 ?_ hs2 rfl))
  rw [hs2]
  show wpAny _ _ (spliced ((false, eval (.Call (.Name "enumerate" p2) [e] [] pos2) X.env) :: backTo pos [])) _ _ s
  refine Calls.spliced_cons (Call_ (ld_blt I hg hm boot_enumerate (PyProof.Rows.callWith_type1 (thn (ha.run pos2 pins s σ H _ I h) fun us s1 ⟨vs, H1, I1, r1, q1⟩ => ?_) hs rfl)))
  obtain ⟨a, xs, ex, hq, q⟩ := q1
  subst ex
  obtain rfl := Vals.ref1 r1
  obtain ⟨its, rv, p', hz⟩ := I1.list hq
  obtain ⟨oa, hoa, _⟩ := id p'.isList
  have hal : a < s1.heap.objs.size := Heap.lt_size hoa
  refine call_enumerate_list p'.isList fun h' he hit hsz hk => Calls.spliced_nil ?_
  have hlen := rv.length
  refine call_list_en (s := { s1 with heap := h' }) (I1.ok.hd hc) (Nat.ne_of_lt (Nat.lt_succ_of_lt hal)) (Nat.ne_of_lt hal) (Nat.succ_ne_self _) (by rw [List.size_toArray]; omega) he hit (let ⟨o, ho, q⟩ := p'.isList; ⟨o, hk a o ho, q⟩) fun h2 tk acc c as hk2 hS hl hG hacc => ?_
  dsimp only at hS hG ⊢
  rw [hsz] at hS hG ⊢
  rw [List.size_toArray] at hl
  have k2 : ∀ b o, s1.heap.get? b = some o → h2.get? b = some o := fun b o q => hk2 b o (Nat.ne_of_lt (Nat.lt_succ_of_lt (Heap.lt_size q))) (Nat.ne_of_lt (Heap.lt_size q)) (hk b o q)
  have hle : s1.heap.objs.size ≤ s1.heap.objs.size + 2 := Nat.le_add_right _ _
  have hnl : H1 (s1.heap.objs.size + 2) = none := I1.hok.fresh hle
  have lv : Vals (as.map V.ref) acc.toList := by
    rw [hacc]
    clear hl hG hacc
    induction as with
    | nil => exact .nil
    | cons a as ih => exact .cons rfl ih
  have I2 : Inv X pins σ (upd H1 (s1.heap.objs.size + 2) (.lst (as.map V.ref))) { s1 with heap := h2, toks := tk } :=
    I1.laid (t' := tk) k2 hle ⟨by rw [List.length_map]; omega, acc.toList, c, lv, hS⟩
  have above : ∀ T ∈ as, s1.heap.objs.size + 2 < T := hG.above
  obtain ⟨H3, I3, g, q3⟩ := DX.takeT (P := fun T vs => ∃ (i : Nat) (x : V), as[i]? = some T ∧ xs[i]? = some x ∧ vs = [.int (i : Nat), x]) I1 as _ I2 (List.Pairwise.imp (fun h => Nat.ne_of_lt h) hG.rise) fun T hT => by
    have hab := above T hT
    obtain ⟨i, hi⟩ := List.mem_iff_getElem?.mp hT
    obtain ⟨x, t, hx, hg⟩ := hG.pairs i T hi
    have hil : i < as.length := (List.getElem?_eq_some_iff.mp hi).1
    obtain ⟨v, hv⟩ : ∃ v, xs[i]? = some v := ⟨xs[i]'(by omega), List.getElem?_eq_getElem _⟩
    obtain ⟨u, hu, ru⟩ := rv.get hv
    have hux : u = x := by
      have : its.toArray[i]? = some u := by simpa using hu
      exact Option.some.inj (this.symm.trans hx)
    subst hux
    refine ⟨by omega, ?_, [.int (i : Nat), v], ⟨i, v, hi, hv, rfl⟩, fun H2 => ⟨by show 2 ≤ sizeLine; decide, [.int i t, u], .cons ⟨_, rfl⟩ (.cons ru .nil), ⟨_, hg, rfl, _, rfl⟩⟩⟩
    rw [upd_ne (Nat.ne_of_gt hab)]
    exact I1.hok.fresh (by omega)
  refine ⟨.ref (s1.heap.objs.size + 2), H3, I3, rfl, q _ as H3 (fun b o hb => g b o (by rw [upd_ne (ne_of_none hb hnl)]; exact hb)) hnl (fun T hT => I1.hok.fresh (by have := above T hT; omega)) (hl.trans hlen.symm) (g _ _ upd_same) fun i T x hi hx => ?_⟩
  obtain ⟨vs, ⟨j, y, hj, hy, rfl⟩, hT⟩ := q3 T (List.mem_of_getElem? hi)
  have hnd : as.Nodup := List.Pairwise.imp (fun h => Nat.ne_of_lt h) hG.rise
  obtain rfl : i = j := nd_ix hnd hi hj
  rw [hx] at hy
  cases hy
  exact hT
end
end L2.K11
set_option Elab.async false
set_option linter.all false
/-! The mathematics: statements, the ways that leave them. -/
namespace L2.K11
open PySem
inductive T where
  | act (x : Str) | call (x : Str) | brk (n : Int) | cnt (n : Int) | ret | rse
  | ife (x : Str) (a b : T) | wh (x : Str) (a : T) | seq (ts : List T) | tryy (a b : T) | fin (a b : T)
/-- out of a loop -/
def outw : Way → Option Way
  | .normal => none
  | .rse => some .rse
  | .ret => some .ret
  | .brk n => if 1 < n then some (.brk (n - 1)) else none
  | .cnt n => if 1 < n then some (.cnt (n - 1)) else none
mutual
def T.ws : T → List Way
  | .act _ => [.normal]
  | .call _ => [.normal, .rse]
  | .brk n => [.brk n]
  | .cnt n => [.cnt n]
  | .ret => [.ret]
  | .rse => [.rse]
  | .ife _ a b => a.ws ++ b.ws
  | .wh _ a => .normal :: a.ws.filterMap outw
  | .seq ts => T.wsS ts
  | .tryy a b => (a.ws.filter fun w => decide (w ≠ .rse)) ++ (if Way.rse ∈ a.ws then b.ws else [])
  | .fin a b => (if Way.normal ∈ b.ws then a.ws else []) ++ b.ws.filter fun w => decide (w ≠ .normal)
def T.wsS : List T → List Way
  | [] => [.normal]
  | t :: ts => (t.ws.filter fun w => decide (w ≠ .normal)) ++ (if Way.normal ∈ t.ws then T.wsS ts else [])
end
def T.kids : T → List T
  | .ife _ a b => [a, b]
  | .wh _ a => [a]
  | .seq ts => ts
  | .tryy a b => [a, b]
  | .fin a b => [a, b]
  | _ => []
mutual
def T.pre : T → List T
  | .ife x a b => .ife x a b :: (a.pre ++ b.pre)
  | .wh x a => .wh x a :: a.pre
  | .seq ts => .seq ts :: T.preS ts
  | .tryy a b => .tryy a b :: (a.pre ++ b.pre)
  | .fin a b => .fin a b :: (a.pre ++ b.pre)
  | t => [t]
def T.preS : List T → List T
  | [] => []
  | t :: ts => t.pre ++ T.preS ts
end
theorem T.preS_eq : ∀ ts : List T, T.preS ts = ts.flatMap T.pre
  | [] => by rw [T.preS]; rfl
  | t :: ts => by rw [T.preS, T.preS_eq ts]; rfl
theorem T.pre_eq (t : T) : t.pre = t :: t.kids.flatMap T.pre := by
  cases t <;> simp [T.pre, T.kids, T.preS_eq]
abbrev T.size (t : T) : Nat := t.pre.length
theorem T.size_pos (t : T) : 1 ≤ t.size := by
  rw [T.size, T.pre_eq]
  simp
theorem T.size_kids (t : T) : t.size = 1 + (t.kids.map T.size).sum := by
  have h : ∀ ts : List T, (ts.flatMap T.pre).length = (ts.map T.size).sum := by
    intro ts
    induction ts with
    | nil => rfl
    | cons a as ih => simp [List.flatMap_cons, ih]
  unfold T.size
  rw [T.pre_eq, List.length_cons, h]
  show (List.map T.size t.kids).sum + 1 = 1 + (List.map T.size t.kids).sum
  omega
mutual
/-- how deep it is; how deep in finally blocks -/
def T.deep : T → Nat
  | .ife _ a b => 1 + max a.deep b.deep
  | .wh _ a => 1 + a.deep
  | .seq ts => 1 + T.deepS ts
  | .tryy a b => 1 + max a.deep b.deep
  | .fin a b => 1 + max a.deep b.deep
  | _ => 1
def T.deepS : List T → Nat
  | [] => 0
  | t :: ts => max t.deep (T.deepS ts)
end
mutual
def T.blk : T → Nat
  | .ife _ a b => max a.blk b.blk
  | .wh _ a => a.blk
  | .seq ts => T.blkS ts
  | .tryy a b => max a.blk b.blk
  | .fin a b => max a.blk (1 + b.blk)
  | _ => 0
def T.blkS : List T → Nat
  | [] => 0
  | t :: ts => max t.blk (T.blkS ts)
end
def letters : Str := "abcdefghijklmnopqrstuvwxyz"
def nameOk (x : Str) : Prop := 1 ≤ x.length ∧ x.length ≤ 8 ∧ ∀ c ∈ x.cps.toList, c ∈ letters.cps.toList
mutual
/-- well made within so many loops -/
def T.wf : Nat → T → Prop
  | _, .act x => nameOk x
  | _, .call x => nameOk x
  | k, .brk n => 1 ≤ n ∧ n ≤ (k : Int)
  | k, .cnt n => 1 ≤ n ∧ n ≤ (k : Int)
  | _, .ret => True
  | _, .rse => True
  | k, .ife x a b => nameOk x ∧ T.wf k a ∧ T.wf k b
  | k, .wh x a => nameOk x ∧ T.wf (k + 1) a
  | k, .seq ts => ts ≠ [] ∧ T.wfS k ts
  | k, .tryy a b => T.wf k a ∧ T.wf k b
  | k, .fin a b => T.wf k a ∧ T.wf k b
def T.wfS : Nat → List T → Prop
  | _, [] => True
  | k, t :: ts => T.wf k t ∧ T.wfS k ts
end
def Way.le (k : Nat) : Way → Prop
  | .brk n => 1 ≤ n ∧ n ≤ (k : Int)
  | .cnt n => 1 ≤ n ∧ n ≤ (k : Int)
  | _ => True
theorem outw_le {k : Nat} {w z : Way} (h : w.le (k + 1)) (e : outw w = some z) : z.le k := by
  cases w <;> simp [outw] at e <;> try (subst e; trivial)
  · obtain ⟨h1, rfl⟩ := e
    simp [Way.le] at h ⊢
    omega
  · obtain ⟨h1, rfl⟩ := e
    simp [Way.le] at h ⊢
    omega
mutual
theorem T.ws_le : ∀ (t : T) (k : Nat), T.wf k t → ∀ w ∈ t.ws, w.le k
  | .act _, k, _, w, h => by simp [T.ws] at h; subst h; trivial
  | .call _, k, _, w, h => by simp [T.ws] at h; rcases h with rfl | rfl <;> trivial
  | .brk n, k, f, w, h => by simp [T.ws] at h; subst h; exact f
  | .cnt n, k, f, w, h => by simp [T.ws] at h; subst h; exact f
  | .ret, k, _, w, h => by simp [T.ws] at h; subst h; trivial
  | .rse, k, _, w, h => by simp [T.ws] at h; subst h; trivial
  | .ife _ a b, k, f, w, h => by
    simp only [T.ws, List.mem_append] at h
    exact h.elim (T.ws_le a k f.2.1 w) (T.ws_le b k f.2.2 w)
  | .wh _ a, k, f, w, h => by
    simp only [T.ws, List.mem_cons, List.mem_filterMap] at h
    rcases h with rfl | ⟨z, hz, e⟩
    · trivial
    · exact outw_le (T.ws_le a (k + 1) f.2 z hz) e
  | .seq ts, k, f, w, h => T.wsS_le ts k f.2 w (by rw [T.ws] at h; exact h)
  | .tryy a b, k, f, w, h => by
    simp only [T.ws, List.mem_append, List.mem_filter] at h
    rcases h with h | h
    · exact T.ws_le a k f.1 w h.1
    · split at h
      · exact T.ws_le b k f.2 w h
      · exact nomatch h
  | .fin a b, k, f, w, h => by
    simp only [T.ws, List.mem_append, List.mem_filter] at h
    rcases h with h | h
    · split at h
      · exact T.ws_le a k f.1 w h
      · exact nomatch h
    · exact T.ws_le b k f.2 w h.1
theorem T.wsS_le : ∀ (ts : List T) (k : Nat), T.wfS k ts → ∀ w ∈ T.wsS ts, w.le k
  | [], k, _, w, h => by simp [T.wsS] at h; subst h; trivial
  | t :: ts, k, f, w, h => by
    simp only [T.wsS, List.mem_append, List.mem_filter] at h
    rcases h with h | h
    · exact T.ws_le t k f.1 w h.1
    · split at h
      · exact T.wsS_le ts k f.2 w h
      · exact nomatch h
end
mutual
theorem T.ws_ne : ∀ t : T, ∃ w, w ∈ t.ws
  | .act _ => ⟨.normal, by simp [T.ws]⟩
  | .call _ => ⟨.normal, by simp [T.ws]⟩
  | .brk n => ⟨.brk n, by simp [T.ws]⟩
  | .cnt n => ⟨.cnt n, by simp [T.ws]⟩
  | .ret => ⟨.ret, by simp [T.ws]⟩
  | .rse => ⟨.rse, by simp [T.ws]⟩
  | .ife _ a b => by obtain ⟨w, h⟩ := T.ws_ne a; exact ⟨w, by simp [T.ws, h]⟩
  | .wh _ a => ⟨.normal, by simp [T.ws]⟩
  | .seq ts => by obtain ⟨w, h⟩ := T.wsS_ne ts; exact ⟨w, by rw [T.ws]; exact h⟩
  | .tryy a b => by
    obtain ⟨w, h⟩ := T.ws_ne a
    obtain ⟨z, hz⟩ := T.ws_ne b
    by_cases e : w = .rse
    · subst e
      exact ⟨z, by simp only [T.ws, List.mem_append]; rw [if_pos h]; exact .inr hz⟩
    · exact ⟨w, by simp only [T.ws, List.mem_append, List.mem_filter]; exact .inl ⟨h, decide_eq_true e⟩⟩
  | .fin a b => by
    obtain ⟨w, h⟩ := T.ws_ne b
    obtain ⟨z, hz⟩ := T.ws_ne a
    by_cases e : w = .normal
    · subst e
      exact ⟨z, by simp only [T.ws, List.mem_append]; rw [if_pos h]; exact .inl hz⟩
    · exact ⟨w, by simp only [T.ws, List.mem_append, List.mem_filter]; exact .inr ⟨h, decide_eq_true e⟩⟩
theorem T.wsS_ne : ∀ ts : List T, ∃ w, w ∈ T.wsS ts
  | [] => ⟨.normal, by simp [T.wsS]⟩
  | t :: ts => by
    obtain ⟨w, h⟩ := T.ws_ne t
    obtain ⟨z, hz⟩ := T.wsS_ne ts
    by_cases e : w = .normal
    · subst e
      exact ⟨z, by simp only [T.wsS, List.mem_append]; rw [if_pos h]; exact .inr hz⟩
    · exact ⟨w, by simp only [T.wsS, List.mem_append, List.mem_filter]; exact .inl ⟨h, decide_eq_true e⟩⟩
end
/-- what is handed down to the parts -/
theorem T.deepS_le : ∀ {ts : List T} {t : T}, t ∈ ts → t.deep ≤ T.deepS ts
  | a :: ts, t, h => by
    rw [T.deepS]
    rcases List.mem_cons.mp h with rfl | h
    · exact Nat.le_max_left _ _
    · exact Nat.le_trans (T.deepS_le h) (Nat.le_max_right _ _)
theorem T.blkS_le : ∀ {ts : List T} {t : T}, t ∈ ts → t.blk ≤ T.blkS ts
  | a :: ts, t, h => by
    rw [T.blkS]
    rcases List.mem_cons.mp h with rfl | h
    · exact Nat.le_max_left _ _
    · exact Nat.le_trans (T.blkS_le h) (Nat.le_max_right _ _)
theorem T.wfS_mem : ∀ {ts : List T} {t : T} {k : Nat}, T.wfS k ts → t ∈ ts → T.wf k t
  | a :: ts, t, k, f, h => by
    rcases List.mem_cons.mp h with rfl | h
    · exact f.1
    · exact T.wfS_mem f.2 h
def T.isWh : T → Bool
  | .wh _ _ => true
  | _ => false
def T.isFin : T → Bool
  | .fin _ _ => true
  | _ => false
theorem T.deep_kid {t u : T} (h : u ∈ t.kids) : u.deep + 1 ≤ t.deep := by
  cases t <;> simp [T.kids] at h <;> simp only [T.deep]
  · rcases h with rfl | rfl
    · have := Nat.le_max_left u.deep (by assumption : T).deep; omega
    · rename_i a; have := Nat.le_max_right a.deep u.deep; omega
  · subst h; omega
  · have := T.deepS_le h; omega
  · rcases h with rfl | rfl
    · have := Nat.le_max_left u.deep (by assumption : T).deep; omega
    · rename_i a; have := Nat.le_max_right a.deep u.deep; omega
  · rcases h with rfl | rfl
    · have := Nat.le_max_left u.deep (by assumption : T).deep; omega
    · rename_i a; have := Nat.le_max_right a.deep u.deep; omega
theorem T.deep_pos (t : T) : 1 ≤ t.deep := by cases t <;> simp [T.deep]
theorem T.wf_kid {t u : T} {k : Nat} (f : T.wf k t) (h : u ∈ t.kids) : T.wf (k + (if t.isWh then 1 else 0)) u := by
  cases t <;> simp [T.kids] at h <;> simp [T.wf] at f <;> simp [T.isWh]
  · rcases h with rfl | rfl
    · exact f.2.1
    · exact f.2.2
  · subst h; exact f.2
  · exact T.wfS_mem f.2 h
  · rcases h with rfl | rfl
    · exact f.1
    · exact f.2
  · rcases h with rfl | rfl
    · exact f.1
    · exact f.2
theorem T.blk_kid {t u : T} {i : Nat} (h : t.kids[i]? = some u) : u.blk + (if t.isFin = true ∧ i = 1 then 1 else 0) ≤ t.blk := by
  have hm := List.mem_of_getElem? h
  cases t <;> simp [T.kids] at hm <;> simp [T.isFin, T.blk]
  · rcases hm with rfl | rfl <;> omega
  · subst hm; omega
  · exact T.blkS_le hm
  · rcases hm with rfl | rfl <;> omega
  · rename_i a b
    match i, h with
    | 0, h => simp [T.kids] at h; subst h; simp; omega
    | 1, h => simp [T.kids] at h; subst h; simp; omega
    | i + 2, h => simp [T.kids] at h
theorem le_sum {x : Nat} : ∀ {l : List Nat}, x ∈ l → x ≤ l.sum
  | a :: l, h => by
    rw [List.sum_cons]
    rcases List.mem_cons.mp h with rfl | h
    · omega
    · have := le_sum h
      omega
/-- the ways there can be -/
def allWays : List Way := [.normal, .rse, .ret] ++ (List.range 100).map (fun i => Way.brk (i + 1 : Nat)) ++ (List.range 100).map (fun i => Way.cnt (i + 1 : Nat))
theorem mem_allWays {w : Way} {k : Nat} (hk : k ≤ 100) (h : w.le k) : w ∈ allWays := by
  cases w <;> simp [allWays, Way.le] at h ⊢
  · exact ⟨(by assumption : Int).toNat - 1, by omega, by omega⟩
  · exact ⟨(by assumption : Int).toNat - 1, by omega, by omega⟩
theorem allWays_len : allWays.length = 203 := by simp [allWays]
/-- the ways within a place of a well made statement of bounded depth -/
theorem T.pre_wf : ∀ (n : Nat) (t : T), t.size ≤ n → ∀ k, T.wf k t → ∀ u ∈ t.pre, ∃ k', k' + u.deep ≤ k + t.deep ∧ T.wf k' u
  | 0, t, h, _, _, _, _ => absurd (T.size_pos t) (by omega)
  | n + 1, t, h, k, f, u, hu => by
    rw [T.pre_eq] at hu
    rcases List.mem_cons.mp hu with rfl | hu
    · exact ⟨k, Nat.le_refl _, f⟩
    · obtain ⟨c, hc, huc⟩ := List.mem_flatMap.mp hu
      have hs : c.size ≤ n := by
        have e := T.size_kids t
        have : c.size ≤ (t.kids.map T.size).sum := by
          have hm : c.size ∈ t.kids.map T.size := List.mem_map.mpr ⟨c, hc, rfl⟩
          exact le_sum hm
        omega
      obtain ⟨k', h1, h2⟩ := T.pre_wf n c hs _ (T.wf_kid f hc) u huc
      have := T.deep_kid hc
      refine ⟨k', ?_, h2⟩
      split at h1 <;> omega
end L2.K11
set_option Elab.async false
set_option linter.all false
set_option maxRecDepth 100000
set_option maxHeartbeats 1000000
/-! The defs, part A: what is said of them, comparisons of answers. -/
namespace L2.K11
open PySem PySem.Spec PyProof.Rows
/-! ### the text -/
def topS (i : Nat) : Stmt := PySem.Challenge.pw_finallycopies_k11_whole_ways_by_the_part.main.body.getD i (.Pass ⟨0, 0, 0, 0⟩)
/-- a def of the top or of a class -/
abbrev FnP (K : PySem.W.Frag) (x qual : Str) (st : Stmt) (f : Addr) (fd : FuncData) : Prop := FunD K x qual (defArgs st) (defBody st) (defScope st) [] [] f fd
section
variable {P : Program} {w : World} {K : PySem.W.Frag} {mg : Str → Option Value} {base : Heap}
theorem fok {x qual : Str} {st : Stmt} {f : Addr} {fd : FuncData} {N ps : List Str} {k : Nat} {sp : Sp} (F : FnP K x qual st f fd) (S : FnScope N ps (defScope st)) (len : ∀ vs H Q E, sp vs H Q E → vs.length = ps.length)
    (hbody : ∀ (cdv : Value) (A : Around) (outer : List Env) (s : Shared) (H : Hp) (vs : List V) (Q : VK) (E : XK), Room k (A.deeper (envOfC qual (defScope st) s.heap.objs.size f cdv)) → sp vs H Q E →
      ∃ t, PSs (cxOf CX0 P w K mg base N qual (defScope st) f cdv A outer s H E).nox (defBody st) t ∧ t { nx := fun _ H' => Q .non H', rt := Q } (start N vs) H) : FnOk P w K mg base CX0 (k + 1) f fd ps sp :=
  F.ok S len fun cdv A outer s H vs Q E hr hsp => by
    obtain ⟨t, h, q⟩ := hbody cdv A outer s H vs Q E hr hsp
    exact ⟨t, h.nox, q⟩
end
/-- a def that may be called by its name -/
structure Cal (P : Program) (w : World) (K : PySem.W.Frag) (mg : Str → Option Value) (base : Heap) (k : Nat) (x : Str) (ps : List Str) (sp : Sp) (f : Addr) (fd : FuncData) : Prop where
  m : mg x = some (.ref f)
  kp : PySem.W.keepIn K (.ref f) = true
  b : Binds K fd ps []
  ok : FnOk P w K mg base CX0 k f fd ps sp
/-- a method -/
structure CalM (P : Program) (w : World) (K : PySem.W.Frag) (mg : Str → Option Value) (base : Heap) (k : Nat) (C : Addr) (x : Str) (ps : List Str) (sp : Sp) (f : Addr) (fd : FuncData) : Prop where
  m : Meth K C x f
  b : Binds K fd ps []
  ok : FnOk P w K mg base CX0 k f fd ps sp
/-! ### heaps -/
theorem same_upd {H : Hp} {p : Addr} {o : HO} (h : H p = none) : Same H (upd H p o) := fun b x e => by
  rw [upd_ne (ne_of_none e h)]
  exact e
/-- all but d -/
def Kx (d : Addr) (H H' : Hp) : Prop := ∀ b o, H b = some o → b ≠ d → H' b = some o
theorem Kx.trans {d : Addr} {H H1 H2 : Hp} (a : Kx d H H1) (b : Kx d H1 H2) : Kx d H H2 := fun c o h n => b c o (a c o h n) n
theorem Same.kx {H H1 : Hp} (a : Same H H1) (d : Addr) : Kx d H H1 := fun c o h _ => a c o h
theorem Kx.upd (d : Addr) (H : Hp) (o : HO) : Kx d H (upd H d o) := fun b x e n => by rw [upd_ne n]; exact e
theorem Kx.same {d : Addr} {H0 H H1 : Hp} (s : Same H0 H) (a : Kx d H H1) (hd : H0 d = none) : Same H0 H1 := fun b o e => a b o (s b o e) (ne_of_none e hd)
/-- no tuple -/
def NoTup : HO → Prop
  | .tup _ => False
  | .frz _ (.tup _) => False
  | _ => True
theorem Kx.sqT {K : PySem.W.Frag} {d : Addr} {H H1 : Hp} {o : HO} (a : Kx d H H1) (hd : H d = some o) (n : NoTup o) {b : Addr} {xs : List V} (h : SqT K H b xs) : SqT K H1 b xs := by
  rcases h with (h | ⟨u, h⟩) | h
  · refine .inl (.inl (a _ _ h fun e => ?_))
    subst e
    rw [hd] at h
    cases h
    exact n
  · refine .inl (.inr ⟨u, a _ _ h fun e => ?_⟩)
    subst e
    rw [hd] at h
    cases h
    exact n
  · exact .inr h
theorem same_sqT {K : PySem.W.Frag} {H H1 : Hp} (a : Same H H1) {b : Addr} {xs : List V} (h : SqT K H b xs) : SqT K H1 b xs := by
  rcases h with (h | ⟨u, h⟩) | h
  · exact .inl (.inl (a _ _ h))
  · exact .inl (.inr ⟨u, a _ _ h⟩)
  · exact .inr h
/-- no list -/
def NoLst : HO → Prop
  | .lst _ => False
  | .frz _ (.lst _) => False
  | _ => True
theorem Kx.sqL {K : PySem.W.Frag} {d : Addr} {H H1 : Hp} {o : HO} (a : Kx d H H1) (hd : H d = some o) (n : NoLst o) {b : Addr} {xs : List V} (h : SqL K H b xs) : SqL K H1 b xs := by
  rcases h with (h | ⟨u, h⟩) | h
  · refine .inl (.inl (a _ _ h fun e => ?_))
    subst e
    rw [hd] at h
    cases h
    exact n
  · refine .inl (.inr ⟨u, a _ _ h fun e => ?_⟩)
    subst e
    rw [hd] at h
    cases h
    exact n
  · exact .inr h
theorem Kx.lst {d : Addr} {H H1 : Hp} {o : HO} (a : Kx d H H1) (hd : H d = some o) (n : NoLst o) {b : Addr} {xs : List V} (h : H b = some (.lst xs)) : H1 b = some (.lst xs) := a _ _ h fun e => by
  subst e
  rw [hd] at h
  cases h
  exact n
/-- a lock given back -/
theorem Same.unlock {H H' : Hp} {d : Addr} {u x : HO} (hd : H d = some u) (a : Same (upd H d x) H') : Same H (upd H' d u) := fun b o e => by
  by_cases h : b = d
  · subst h
    rw [upd_same, ← hd, e]
  · rw [upd_ne h]
    exact a b o (by rw [upd_ne h]; exact e)
theorem small_line {n : Nat} (h : n ≤ 100000) : n ≤ sizeLine := by rw [sizeLine_eq]; omega
theorem small_lt {n : Nat} (h : n ≤ 100000) : n < sizeLine := by rw [sizeLine_eq]; omega
/-! ### dicts of ways, by what is in them -/
def GoodE (K : PySem.W.Frag) (H : Hp) (n : Nat) (ents : List Dent) : Prop :=
  (ents.map (·.1)).Nodup ∧ ∀ e ∈ ents, e.1 ∈ allWays ∧ SqT K H e.2.1 e.1.vs ∧ ∃ (l : Addr) (ns : List Int), e.2.2 = .ref l ∧ H l = some (.lst (ns.map V.int)) ∧ ns.length ≤ n
theorem GoodE.keys {K : PySem.W.Frag} {H : Hp} {n : Nat} {ents : List Dent} (g : GoodE K H n ents) : KeysOk K H ents := fun e h => (g.2 e h).2.1
theorem nodup_len {α : Type} [DecidableEq α] : ∀ {l m : List α}, l.Nodup → (∀ x ∈ l, x ∈ m) → l.length ≤ m.length
  | [], _, _, _ => Nat.zero_le _
  | a :: l, m, hn, h => by
    rw [List.nodup_cons] at hn
    have hm : a ∈ m := h a List.mem_cons_self
    have ih := nodup_len (l := l) (m := m.erase a) hn.2 fun x hx => (List.mem_erase_of_ne (fun e => hn.1 (by rw [← e]; exact hx))).mpr (h x (List.mem_cons_of_mem _ hx))
    rw [List.length_erase_of_mem hm] at ih
    have : 0 < m.length := List.length_pos_of_mem hm
    rw [List.length_cons]
    omega
theorem GoodE.len {K : PySem.W.Frag} {H : Hp} {n : Nat} {ents : List Dent} (g : GoodE K H n ents) : ents.length ≤ 203 := by
  have := nodup_len (l := ents.map (·.1)) (m := allWays) g.1 fun x hx => by
    obtain ⟨e, he, rfl⟩ := List.mem_map.mp hx
    exact (g.2 e he).1
  rwa [List.length_map, allWays_len] at this
theorem GoodE.mono {K : PySem.W.Frag} {H H' : Hp} {n m : Nat} {ents : List Dent} (g : GoodE K H n ents) (hn : n ≤ m) (ht : ∀ b xs, SqT K H b xs → SqT K H' b xs) (hl : ∀ b xs, H b = some (.lst xs) → H' b = some (.lst xs)) : GoodE K H' m ents :=
  ⟨g.1, fun e he => let ⟨a, b, l, ns, c, d, f⟩ := g.2 e he; ⟨a, ht _ _ b, l, ns, c, hl _ _ d, Nat.le_trans f hn⟩⟩
theorem GoodE.same {K : PySem.W.Frag} {H H' : Hp} {n : Nat} {ents : List Dent} (g : GoodE K H n ents) (s : Same H H') : GoodE K H' n ents := g.mono (Nat.le_refl _) (fun _ _ h => same_sqT s h) fun _ _ h => s _ _ h
theorem GoodE.kx {K : PySem.W.Frag} {H H' : Hp} {n : Nat} {ents : List Dent} {d : Addr} {o : HO} (g : GoodE K H n ents) (a : Kx d H H') (hd : H d = some o) (h1 : NoTup o) (h2 : NoLst o) : GoodE K H' n ents :=
  g.mono (Nat.le_refl _) (fun _ _ h => a.sqT hd h1 h) fun _ _ h => a.lst hd h2 h
theorem putE_nodup {ents : List Dent} (h : (ents.map (·.1)).Nodup) (v : Way) (a : Addr) (x : V) : ((putE ents v a x).map (·.1)).Nodup := by
  unfold putE
  split
  · have e : (ents.map (fun e => if e.1 = v then (e.1, e.2.1, x) else e)).map (·.1) = ents.map (·.1) := by
      rw [List.map_map]
      refine List.map_congr_left fun e _ => ?_
      show (if e.1 = v then (e.1, e.2.1, x) else e).1 = e.1
      split <;> rfl
    rw [e]
    exact h
  · next c =>
    rw [List.map_append, List.nodup_append]
    refine ⟨h, by simp, fun a ha b hb => ?_⟩
    simp at hb
    subst hb
    exact fun e => c ((entAt_mem ents b).mpr (by rw [← e]; exact ha))
theorem GoodE.put {K : PySem.W.Frag} {H : Hp} {n : Nat} {ents : List Dent} (g : GoodE K H n ents) {v : Way} {a l : Addr} {ns : List Int} (hv : v ∈ allWays) (ha : SqT K H a v.vs) (hl : H l = some (.lst (ns.map V.int))) (hn : ns.length ≤ n) : GoodE K H n (putE ents v a (.ref l)) := by
  refine ⟨putE_nodup g.1 v a _, fun e he => ?_⟩
  rcases mem_putE he with ⟨h1, h2, h3⟩ | h
  · rw [h1]
    refine ⟨hv, ?_, l, ns, h2, hl, hn⟩
    rcases h3 with h3 | ⟨y, h3⟩
    · rw [h3]; exact ha
    · exact (g.2 _ h3).2.1
  · exact g.2 e h
theorem GoodE.nil {K : PySem.W.Frag} {H : Hp} {n : Nat} : GoodE K H n [] := ⟨by simp, fun e h => nomatch h⟩
/-- the dict at d has the ways ws, each with its answers -/
def DW (P : Program) (w : World) (K : PySem.W.Frag) (H : Hp) (d : Addr) (ws : List Way) (n : Nat) : Prop :=
  ∃ ents, H d = some (dwO P w d ents) ∧ GoodE K H n ents ∧ ∀ z, z ∈ ents.map (·.1) ↔ z ∈ ws
theorem DW.same {P : Program} {w : World} {K : PySem.W.Frag} {H H' : Hp} {d : Addr} {ws : List Way} {n : Nat} (h : DW P w K H d ws n) (s : Same H H') : DW P w K H' d ws n :=
  let ⟨ents, a, b, c⟩ := h; ⟨ents, s _ _ a, b.same s, c⟩
theorem DW.mono {P : Program} {w : World} {K : PySem.W.Frag} {H : Hp} {d : Addr} {ws ws' : List Way} {n m : Nat} (h : DW P w K H d ws n) (hn : n ≤ m) (hw : ∀ z, z ∈ ws ↔ z ∈ ws') : DW P w K H d ws' m :=
  let ⟨ents, a, b, c⟩ := h; ⟨ents, a, b.mono hn (fun _ _ h => h) fun _ _ h => h, fun z => (c z).trans (hw z)⟩
/-! ### what the top holds -/
structure Txt (K : PySem.W.Frag) (mg : Str → Option Value) : Prop where
  normal : ∃ a, mg "NORMAL" = some (.ref a) ∧ ∀ H, SqT K H a Way.normal.vs
  rse : ∃ a, mg "RAISE" = some (.ref a) ∧ ∀ H, SqT K H a Way.rse.vs
  len : mg "len" = none
  sorted : mg "sorted" = none
  range : mg "range" = none
  enumerate : mg "enumerate" = none
  reversed : mg "reversed" = none
  list : mg "list" = none
  set : mg "set" = none
  int : mg "int" = none
  tuple : mg "tuple" = none
  str : mg "str" = none
  bool : mg "bool" = none
  isinstance : mg "isinstance" = none
  all : mg "all" = none
/-! ### comparisons -/
section
variable {P : Program} {w : World} {K : PySem.W.Frag} {mg : Str → Option Value} {base : Heap}
abbrev sComes : Stmt := topS 12
theorem scComes : FnScope ["one", "other"] ["one", "other"] (defScope sComes) := ⟨rfl, rfl, rfl, by decide +kernel, rfl, by decide +kernel, by decide +kernel⟩
def spComes (K : PySem.W.Frag) : Sp := fun vs H Q _ => ∃ (a b : Addr) (ns ms : List Int), vs = [.ref a, .ref b] ∧ SqL K H a (ns.map V.int) ∧ SqL K H b (ms.map V.int) ∧ ∀ c H', Same H H' → Q (.bl c) H'
theorem ok_comes {f : Addr} {fd : FuncData} (F : FnP K "comes_first" "comes_first" sComes f fd) (Tx : Txt K mg) : FnOk P w K mg base CX0 1 f fd ["one", "other"] (spComes K) := by
  refine fok F scComes (fun vs H Q E h => ?_) (fun cdv A outer s H vs Q E hr h => ?_)
  · obtain ⟨a, b, ns, ms, rfl, _⟩ := h
    rfl
  · obtain ⟨a, b, ns, ms, rfl, hA, hB, q⟩ := h
    refine ⟨_, pss_one (ps_ret (pe_cmpR (op_ltIL hr.units) (pe_tup (pa_cons (pe_callB call_len_seq (by rfl) Tx.len PySem.boot_len (pa_cons (pv 0) pa_nil)) (pa_cons (pv 0) pa_nil)))
      (pe_tup (pa_cons (pe_callB call_len_seq (by rfl) Tx.len PySem.boot_len (pa_cons (pv 1) pa_nil)) (pa_cons (pv 1) pa_nil))) (nomark _))), ?_⟩
    refine ⟨.ref a, rfl, a, _, rfl, .inl hA, .ref a, rfl, (by show 2 ≤ sizeLine; decide), fun t ht => ?_⟩
    have s1 := same_upd (o := .tup [.int ((ns.map V.int).length : Int), .ref a]) ht
    refine ⟨.ref b, rfl, b, _, rfl, .inl (s1.seq hB), .ref b, rfl, (by show 2 ≤ sizeLine; decide), fun u hu => ?_⟩
    have s2 := same_upd (o := .tup [.int ((ms.map V.int).length : Int), .ref b]) hu
    exact ⟨t, u, _, _, a, b, ns, ms, rfl, rfl, SqT.of (s2 _ _ upd_same), SqT.of upd_same, s2.seq (s1.seq hA), s2.seq (s1.seq hB), fun c => q c _ (s1.trans s2)⟩
abbrev sKeep : Stmt := topS 13
theorem scKeep : FnScope ["found", "way", "answers"] ["found", "way", "answers"] (defScope sKeep) := ⟨rfl, rfl, rfl, by decide +kernel, rfl, by decide +kernel, by decide +kernel⟩
def spKeep (P : Program) (w : World) (K : PySem.W.Frag) : Sp := fun vs H Q _ => ∃ (d b l : Addr) (v : Way) (ents : List Dent) (n : Nat) (ns : List Int), vs = [.ref d, .ref b, .ref l] ∧ H d = some (dwO P w d ents) ∧ GoodE K H n ents ∧ v ∈ allWays ∧ SqT K H b v.vs ∧
  H l = some (.lst (ns.map V.int)) ∧ ns.length ≤ n ∧ ∀ ents' H', Kx d H H' → H' d = some (dwO P w d ents') → GoodE K H' n ents' → (∀ z, z ∈ ents'.map (·.1) ↔ z = v ∨ z ∈ ents.map (·.1)) → Q .non H'
theorem ok_keep {f f1 : Addr} {fd fd1 : FuncData} (F : FnP K "keep_first" "keep_first" sKeep f fd) (Tx : Txt K mg) (c1 : Cal P w K mg base 1 "comes_first" ["one", "other"] (spComes K) f1 fd1) : FnOk P w K mg base CX0 2 f fd ["found", "way", "answers"] (spKeep P w K) := by
  refine fok F scKeep (fun vs H Q E h => ?_) (fun cdv A outer s H vs Q E hr h => ?_)
  · obtain ⟨d, b, l, v, ents, n, ns, rfl, _⟩ := h
    rfl
  · obtain ⟨d, b, l, v, ents, n, ns, rfl, hd, g, hv, hb, hl, hn, q⟩ := h
    refine ⟨_, pss_one (ps_if (PW.pt (pw_or (pt_cmpR (op_notIn_dw (hu_of hr)) (pv 1) (pv 0) rfl) (pw_or1 (pt_val (pe_call c1.ok hr (by rfl) c1.m c1.kp c1.b .nil pass0 (pa_cons (pv 2) (pa_cons (pe_ix (ix_dw (hu_of hr)) (pv 0) (pv 1) (fun _ _ => rfl)) pa_nil)))))))
      (pss_one (ps_asg (pv 2) (pg_sub (pv 0) (pv 1) (set_dw (hu_of hr))))) pss_nil), ?_⟩
    have store : ∀ H1 : Hp, Same H H1 → ∃ (d' b' : Addr) (k : Way) (ents' : List Dent), V.ref d = .ref d' ∧ V.ref b = .ref b' ∧ H1 d' = some (dwO P w d' ents') ∧ KeysOk K H1 ents' ∧ SqT K H1 b' k.vs ∧ ents'.length < sizeLine ∧ Q .non (upd H1 d' (dwO P w d' (putE ents' k b' (.ref l)))) := fun H1 s1 => by
      have g1 := g.same s1
      refine ⟨d, b, v, ents, rfl, rfl, s1 _ _ hd, g1.keys, same_sqT s1 hb, small_lt (by have := g.len; omega), ?_⟩
      have kx : Kx d H1 (upd H1 d (dwO P w d (putE ents v b (.ref l)))) := Kx.upd _ _ _
      exact q _ _ ((Same.kx s1 d).trans kx) upd_same ((g1.put hv (same_sqT s1 hb) (s1 _ _ hl) hn).kx kx (s1 _ _ hd) trivial trivial) fun z => ways_putE _ _ _ _ _
    refine ⟨.ref b, rfl, .ref d, rfl, entAt ents v, ⟨d, b, v, ents, rfl, rfl, .inl hd, g.keys, hb, rfl⟩, _, rfl, ?_⟩
    cases e : entAt ents v with
    | none =>
      exact ⟨_, rfl, _, rfl, _, rfl, store H (Same.refl _)⟩
    | some x =>
      obtain ⟨a0, he⟩ := entAt_some e
      obtain ⟨_, _, l0, ms, ex, hl0, _⟩ := g.2 _ he
      dsimp only at ex
      subst ex
      refine ⟨_, rfl, _, rfl, _, rfl, .ref l0, ⟨d, b, v, ents, rfl, rfl, .inl hd, g.keys, hb, e⟩, l, l0, ns, ms, rfl, SqL.of hl, SqL.of hl0, fun c H1 s1 => ⟨c, rfl, ?_⟩⟩
      cases c with
      | true => exact ⟨_, rfl, _, rfl, _, rfl, store H1 s1⟩
      | false =>
        refine q ents H1 (Same.kx s1 d) (s1 _ _ hd) (g.same s1) fun z => ⟨.inr, fun h => h.elim (fun h => ?_) id⟩
        rw [h]
        exact (entAt_mem ents v).mp (by rw [e]; rfl)
end
end L2.K11
set_option Elab.async false
set_option linter.all false
set_option maxRecDepth 100000
set_option maxHeartbeats 1000000
/-! The defs, part B: first_shortest, left_by_leaf. -/
namespace L2.K11
open PySem PySem.Spec PyProof.Rows
section
variable {P : Program} {w : World} {K : PySem.W.Frag} {mg : Str → Option Value} {base : Heap}
abbrev sFirst : Stmt := topS 14
theorem scFirst : FnScope ["found", "best", "answers"] ["found"] (defScope sFirst) := ⟨rfl, rfl, rfl, by decide +kernel, rfl, by decide +kernel, by decide +kernel⟩
def spFirst (P : Program) (w : World) (K : PySem.W.Frag) : Sp := fun vs H Q _ => ∃ (d : Addr) (ents : List Dent) (n : Nat), vs = [.ref d] ∧ H d = some (dwO P w d ents) ∧ GoodE K H n ents ∧ ents ≠ [] ∧
  ∀ (l : Addr) (ns : List Int) H', Same H H' → H' l = some (.lst (ns.map V.int)) → ns.length ≤ n → Q (.ref l) H'
theorem ok_first {f f1 : Addr} {fd fd1 : FuncData} (F : FnP K "first_shortest" "first_shortest" sFirst f fd) (Tx : Txt K mg) (c1 : Cal P w K mg base 1 "comes_first" ["one", "other"] (spComes K) f1 fd1) : FnOk P w K mg base CX0 2 f fd ["found"] (spFirst P w K) := by
  refine fok F scFirst (fun vs H Q E h => ?_) (fun cdv A outer s H vs Q E hr h => ?_)
  · obtain ⟨d, ents, n, rfl, _⟩ := h
    rfl
  · obtain ⟨d, ents, n, rfl, hd, g, hne, q⟩ := h
    refine ⟨_, pss_cons (ps_set (i := 1) scFirst.nd rfl (.inl rfl) pe_non)
      (pss_cons (ps_lock (ps_for PassesOwn.never rfl (pi_wv (pv 0)) (pg_name (i := 2) scFirst.nd rfl (.inl rfl))
        (pss_one (ps_if (PW.pt (pw_or (pt_cmpR op_isN (pv 1) pe_non (nomark _)) (pw_or1 (pt_val (pe_call c1.ok hr (by rfl) c1.m c1.kp c1.b .nil pass0 (pa_cons (pv 2) (pa_cons (pv 1) pa_nil)))))))
          (pss_one (ps_set (i := 1) scFirst.nd rfl (.inl rfl) (pv 2))) pss_nil))))
      (pss_one (ps_ret (pv 1)))), ?_⟩
    refine ⟨d, _, hd, trivial, fun od => ?_⟩
    refine ⟨.ref d, rfl, d, od, ents, rfl, upd_same, for_wv (fun i σ H1 => ∃ best v2, σ = [some (.ref d), some best, v2] ∧ Same (upd H d (.frz od (dwO P w d ents))) H1 ∧
      (i = 0 ∧ best = .non ∨ ∃ (l : Addr) (ns : List Int), best = .ref l ∧ H l = some (.lst (ns.map V.int)) ∧ ns.length ≤ n)) ⟨_, _, rfl, Same.refl _, .inl ⟨rfl, rfl⟩⟩ (fun i σ H1 _ ⟨_, _, _, s1, _⟩ => s1 _ _ upd_same) ?_ ?_⟩
    · rintro i e σ H1 he ⟨best, v2, rfl, s1, hb⟩
      obtain ⟨_, _, l, ns, el, hl, hn⟩ := g.2 e (List.mem_of_getElem? he)
      have kx : Kx d H H1 := (Kx.upd d H _).trans (Same.kx s1 d)
      rw [el]
      refine ⟨_, rfl, rfl, _, rfl, ?_⟩
      rcases hb with ⟨_, rfl⟩ | ⟨l2, ms, rfl, hl2, hm⟩
      · exact ⟨_, rfl, _, _, rfl, s1, .inr ⟨l, ns, rfl, hl, hn⟩⟩
      · refine ⟨_, rfl, _, rfl, l, l2, ns, ms, rfl, SqL.of (kx.lst hd trivial hl), SqL.of (kx.lst hd trivial hl2), fun c H2 s2 => ⟨c, rfl, ?_⟩⟩
        cases c with
        | true => exact ⟨_, rfl, _, _, rfl, s1.trans s2, .inr ⟨l, ns, rfl, hl, hn⟩⟩
        | false => exact ⟨_, _, rfl, s1.trans s2, .inr ⟨l2, ms, rfl, hl2, hm⟩⟩
    · rintro σ H1 ⟨best, v2, rfl, s1, hb⟩
      refine ⟨s1 _ _ upd_same, ?_⟩
      have ss := Same.unlock hd s1
      rcases hb with ⟨h0, _⟩ | ⟨l, ns, rfl, hl, hn⟩
      · exact absurd (List.length_eq_zero_iff.mp h0) hne
      · exact ⟨_, rfl, q l ns _ ss (ss _ _ hl) hn⟩
/-! ### a leaf -/
def T.kind : T → Str
  | .act _ => "do"
  | .call _ => "call"
  | .brk _ => "break"
  | .cnt _ => "continue"
  | .ret => "return"
  | .rse => "raise"
  | .ife _ _ _ => "if"
  | .wh _ _ => "while"
  | .seq _ => "seq"
  | .tryy _ _ => "try"
  | .fin _ _ => "final"
def T.label : T → V
  | .act x => .str x
  | .call x => .str x
  | .brk n => .int n
  | .cnt n => .int n
  | .ife x _ _ => .str x
  | .wh x _ => .str x
  | _ => .non
def T.isLeaf : T → Bool
  | .act _ | .call _ | .brk _ | .cnt _ | .ret | .rse => true
  | _ => false
theorem ifT {c A B : Prop} [Decidable c] (hc : c) (h : A) : if c then A else B := by
  rw [if_pos hc]
  exact h
theorem ifF {c A B : Prop} [Decidable c] (hc : ¬ c) (h : B) : if c then A else B := by
  rw [if_neg hc]
  exact h
theorem vsT {a : Str} : decide (V.str a = V.str a) = true := decide_eq_true rfl
theorem vsF {a b : Str} (h : ¬ a = b) : ¬ decide (V.str a = V.str b) = true := fun e => h (V.str.inj (of_decide_eq_true e))
theorem leaf_fin {H H2 : Hp} {p : Addr} {o : HO} {ents : List Dent} {ws : List Way} {n : Nat} (hp : H p = none) (s : Same (upd H p o) H2) (n1 : NoTup o) (n2 : NoLst o) (g : GoodE K H2 n ents) (hw : ∀ z, z ∈ ents.map (·.1) ↔ z ∈ ws) :
    Same H (upd H2 p (dwO P w p ents)) ∧ DW P w K (upd H2 p (dwO P w p ents)) p ws n := by
  have kx : Kx p H2 (upd H2 p (dwO P w p ents)) := Kx.upd _ _ _
  refine ⟨kx.same (fun b x e => s b x (by rw [upd_ne (ne_of_none e hp)]; exact e)) hp, ents, upd_same, g.kx kx (s _ _ upd_same) n1 n2, hw⟩
abbrev sLeaf : Stmt := topS 15
theorem scLeaf : FnScope ["kind", "label"] ["kind", "label"] (defScope sLeaf) := ⟨rfl, rfl, rfl, by decide +kernel, rfl, by decide +kernel, by decide +kernel⟩
def spLeaf (P : Program) (w : World) (K : PySem.W.Frag) : Sp := fun vs H Q _ => ∃ (t : T), vs = [.str t.kind, t.label] ∧ t.isLeaf = true ∧ (∀ v ∈ t.ws, v ∈ allWays) ∧
  ∀ d H', Same H H' → H d = none → DW P w K H' d t.ws 1 → Q (.ref d) H'
theorem ok_leaf {f : Addr} {fd : FuncData} (F : FnP K "left_by_leaf" "left_by_leaf" sLeaf f fd) (Tx : Txt K mg) : FnOk P w K mg base CX0 1 f fd ["kind", "label"] (spLeaf P w K) := by
  refine fok F scLeaf (fun vs H Q E h => ?_) (fun cdv A outer s H vs Q E hr h => ?_)
  · obtain ⟨t, rfl, _⟩ := h
    rfl
  · obtain ⟨t, e, hl, ha, q⟩ := h
    obtain ⟨aN, mN, hN⟩ := Tx.normal
    obtain ⟨aR, mR, hR⟩ := Tx.rse
    refine ⟨_, pss_cons (ps_if (pt_cmpR op_eq (pv 0) pe_str (nomark _)) (pss_one (ps_ret (pe_dispW (hu_of hr) (pps_cons (pe_glob rfl mN (v := .ref aN) rfl) (pe_lst pa_nil) pps_nil) (by rfl) (by rfl) (fun z => by cases z) (by decide)))) pss_nil)
      (pss_cons (ps_if (pt_cmpR op_eq (pv 0) pe_str (nomark _)) (pss_one (ps_ret (pe_dispW (hu_of hr) (pps_cons (pe_glob rfl mN (v := .ref aN) rfl) (pe_lst (pa_cons pe_int pa_nil)) (pps_cons (pe_glob rfl mR (v := .ref aR) rfl) (pe_lst (pa_cons pe_int pa_nil)) pps_nil)) (by rfl) (by rfl) (fun z => by cases z) (by decide)))) pss_nil)
      (pss_cons (ps_if (pt_cmpR op_in_seq (pv 0) (pe_tup (pa_cons pe_str (pa_cons pe_str pa_nil))) (by rfl)) (pss_one (ps_ret (pe_dispW (hu_of hr) (pps_cons (pe_tup (pa_cons (pv 0) (pa_cons (pv 1) pa_nil))) (pe_lst pa_nil) pps_nil) (by rfl) (by rfl) (fun z => by cases z) (by decide)))) pss_nil)
      (pss_one (ps_ret (pe_dispW (hu_of hr) (pps_cons (pe_tup (pa_cons (pv 0) pa_nil)) (pe_lst pa_nil) pps_nil) (by rfl) (by rfl) (fun z => by cases z) (by decide)))))), ?_⟩
    have one : ∀ (H0 : Hp) (d b : Addr) (v : Way) (hH : Same H H0) (hd : H0 d = none) (H1 : Hp) (s1 : Same (upd H0 d (dwO P w d [])) H1) (hb : SqT K H1 b v.vs), t.ws = [v] →
        ∀ l, H1 l = none → (upd H1 l (.lst [])) d = some (dwO P w d []) ∧ ∃ kvs : List Dent, [(V.ref b, V.ref l)] = kvs.map (fun e => (V.ref e.2.1, e.2.2)) ∧ KeysOk K (upd H1 l (.lst [])) kvs ∧ kvs.length ≤ 15 ∧ Q (.ref d) (upd (upd H1 l (.lst [])) d (dwO P w d (mergeE [] kvs))) := by
      intro H0 d b v hH hd H1 s1 hb hws l hl1
      have s2 : Same H1 (upd H1 l (.lst [])) := same_upd hl1
      have g : GoodE K (upd H1 l (.lst [])) 1 [(v, b, .ref l)] := (GoodE.nil.put (v := v) (a := b) (l := l) (ns := []) (ha v (by rw [hws]; exact List.mem_singleton.mpr rfl)) (same_sqT s2 hb) upd_same (by decide))
      obtain ⟨r1, r2⟩ := leaf_fin (P := P) (w := w) (K := K) (ws := t.ws) hd (s1.trans s2) trivial trivial g (fun z => by rw [hws]; exact Iff.rfl)
      exact ⟨(s1.trans s2) _ _ upd_same, [(v, b, .ref l)], rfl, g.keys, (by show 1 ≤ 15; decide), q d _ (hH.trans r1) (hH.free hd) r2⟩
    cases t with
    | act x =>
      obtain rfl : vs = [.str "do", .str x] := e
      refine ⟨_, rfl, rfl, _, rfl, ifT vsT ?_⟩
      intro d hd
      exact ⟨by decide, fun l hl1 => one H d aN .normal (Same.refl _) hd _ (Same.refl _) (hN _) rfl l hl1⟩
    | call x =>
      obtain rfl : vs = [.str "call", .str x] := e
      refine ⟨_, rfl, rfl, _, rfl, ifF (vsF (by decide +kernel)) ⟨_, rfl, rfl, _, rfl, ifT vsT ?_⟩⟩
      intro d hd
      refine ⟨by decide, fun l hl1 => ⟨by decide, fun l2 hl2 => ?_⟩⟩
      have s1 : Same (upd H d (dwO P w d [])) _ := (same_upd (o := .lst [.int 0]) hl1).trans (same_upd (o := .lst [.int 1]) hl2)
      have g : GoodE K (upd (upd (upd H d (dwO P w d [])) l (.lst [.int 0])) l2 (.lst [.int 1])) 1 [(.normal, aN, .ref l), (.rse, aR, .ref l2)] :=
        (GoodE.nil.put (v := .normal) (a := aN) (l := l) (ns := [0]) (ha _ (by simp [T.ws])) (hN _) (by rw [upd_ne (ne_of_none upd_same hl2)]; exact upd_same) (by decide)).put (v := .rse) (a := aR) (l := l2) (ns := [1]) (ha _ (by simp [T.ws])) (hR _) upd_same (by decide)
      obtain ⟨r1, r2⟩ := leaf_fin (P := P) (w := w) (K := K) (ws := (T.call x).ws) hd s1 trivial trivial g (fun z => by simp [T.ws])
      exact ⟨s1 _ _ upd_same, [(.normal, aN, .ref l), (.rse, aR, .ref l2)], rfl, g.keys, (by show 2 ≤ 15; decide), q d _ r1 hd r2⟩
    | brk n =>
      obtain rfl : vs = [.str "break", .int n] := e
      refine ⟨_, rfl, rfl, _, rfl, ifF (vsF (by decide +kernel)) ⟨_, rfl, rfl, _, rfl, ifF (vsF (by decide +kernel)) ?_⟩⟩
      refine ⟨_, rfl, (by decide), fun t0 ht0 => ⟨t0, _, rfl, .inr (SqT.of upd_same), rfl, rfl, _, rfl, ifT (by decide +kernel) ?_⟩⟩
      intro d hd
      refine ⟨_, rfl, _, rfl, (by show 2 ≤ sizeLine; decide), fun b hb => ⟨by decide, fun l hl1 => ?_⟩⟩
      exact one _ d b (.brk n) (same_upd ht0) hd _ (same_upd hb) (SqT.of upd_same) rfl l hl1
    | cnt n =>
      obtain rfl : vs = [.str "continue", .int n] := e
      refine ⟨_, rfl, rfl, _, rfl, ifF (vsF (by decide +kernel)) ⟨_, rfl, rfl, _, rfl, ifF (vsF (by decide +kernel)) ?_⟩⟩
      refine ⟨_, rfl, (by decide), fun t0 ht0 => ⟨t0, _, rfl, .inr (SqT.of upd_same), rfl, rfl, _, rfl, ifT (by decide +kernel) ?_⟩⟩
      intro d hd
      refine ⟨_, rfl, _, rfl, (by show 2 ≤ sizeLine; decide), fun b hb => ⟨by decide, fun l hl1 => ?_⟩⟩
      exact one _ d b (.cnt n) (same_upd ht0) hd _ (same_upd hb) (SqT.of upd_same) rfl l hl1
    | ret =>
      obtain rfl : vs = [.str "return", .non] := e
      refine ⟨_, rfl, rfl, _, rfl, ifF (vsF (by decide +kernel)) ⟨_, rfl, rfl, _, rfl, ifF (vsF (by decide +kernel)) ?_⟩⟩
      refine ⟨_, rfl, (by decide), fun t0 ht0 => ⟨t0, _, rfl, .inr (SqT.of upd_same), rfl, rfl, _, rfl, ifF (by decide +kernel) ?_⟩⟩
      intro d hd
      refine ⟨_, rfl, (by decide), fun b hb => ⟨by decide, fun l hl1 => ?_⟩⟩
      exact one _ d b .ret (same_upd ht0) hd _ (same_upd hb) (SqT.of upd_same) rfl l hl1
    | rse =>
      obtain rfl : vs = [.str "raise", .non] := e
      refine ⟨_, rfl, rfl, _, rfl, ifF (vsF (by decide +kernel)) ⟨_, rfl, rfl, _, rfl, ifF (vsF (by decide +kernel)) ?_⟩⟩
      refine ⟨_, rfl, (by decide), fun t0 ht0 => ⟨t0, _, rfl, .inr (SqT.of upd_same), rfl, rfl, _, rfl, ifF (by decide +kernel) ?_⟩⟩
      intro d hd
      refine ⟨_, rfl, (by decide), fun b hb => ⟨by decide, fun l hl1 => ?_⟩⟩
      exact one _ d b .rse (same_upd ht0) hd _ (same_upd hb) (SqT.of upd_same) rfl l hl1
    | ife x a b => cases hl
    | wh x a => cases hl
    | seq ts => cases hl
    | tryy a b => cases hl
    | fin a b => cases hl
end
end L2.K11
set_option Elab.async false
set_option linter.all false
set_option maxRecDepth 100000
set_option maxHeartbeats 1000000
/-! The defs, part C: for way, answers in part.items(). -/
namespace L2.K11
open PySem PySem.Spec PyProof.Rows
theorem set_way {σ : St} {i j : Nat} (h : i ≠ j) (a b c d : Option V) : (((σ.set i a).set j b).set i c).set j d = (σ.set i c).set j d := by
  rw [List.set_comm _ _ h.symm, List.set_set, List.set_set]
/-- what stands in H1 as it did in H0, d being locked, df being filled -/
structure Stands (K : PySem.W.Frag) (df : Addr) (H0 H1 : Hp) : Prop where
  rd : ∀ d2 u2, H0 d2 = some u2 → d2 ≠ df → Rd H1 d2 u2
  t : ∀ b xs, SqT K H0 b xs → SqT K H1 b xs
  l : ∀ b xs, H0 b = some (.lst xs) → H1 b = some (.lst xs)
theorem keep_loop {X : Cx} {tb : TS} {D : Ends} {σ0 : St} {H0 : Hp} {d df : Addr} {ents entsF : List Dent} {N is iw ia : Nat} (out : Way → Option Way) (hi : σ0[is]? = some (some (.ref d))) (hwa : iw ≠ ia)
    (hd : H0 d = some (dwO X.prog X.w d ents)) (hdf : H0 df = some (dwO X.prog X.w df entsF)) (hne : df ≠ d) (gF : GoodE X.K H0 N entsF)
    (hb : ∀ (e : Dent) (D : Ends) (H1 : Hp) (entsF1 : List Dent), e ∈ ents → Stands X.K df H0 H1 → H1 df = some (dwO X.prog X.w df entsF1) → GoodE X.K H1 N entsF1 →
      (∀ entsF2 H2, Kx df H1 H2 → H2 df = some (dwO X.prog X.w df entsF2) → GoodE X.K H2 N entsF2 → (∀ z, z ∈ entsF2.map (·.1) ↔ out e.1 = some z ∨ z ∈ entsF1.map (·.1)) → D.nx ((σ0.set iw (some (.ref e.2.1))).set ia (some e.2.2)) H2) →
      tb D ((σ0.set iw (some (.ref e.2.1))).set ia (some e.2.2)) H1)
    (hx : ∀ entsF' H' v1 v2, Kx df H0 H' → H' df = some (dwO X.prog X.w df entsF') → GoodE X.K H' N entsF' → (∀ z, z ∈ entsF'.map (·.1) ↔ (∃ v ∈ ents.map (·.1), out v = some z) ∨ z ∈ entsF.map (·.1)) → D.nx ((σ0.set iw v1).set ia v2) H')
    (hv : ∃ v1 v2, (σ0.set iw v1).set ia v2 = σ0) :
    tLock (tFor (iWI X (tVar is)) (gTup X.K 2 (gCons (gName iw) (gCons (gName ia) gNil))) tb) D σ0 H0 := by
  refine ⟨d, _, hd, trivial, fun od => ?_⟩
  refine ⟨.ref d, hi, d, od, ents, rfl, upd_same, ?_⟩
  have kxL : Kx d H0 (upd H0 d (.frz od (dwO X.prog X.w d ents))) := Kx.upd _ _ _
  refine for_wi (fun i σ H1 => ∃ v1 v2 entsF1, σ = (σ0.set iw v1).set ia v2 ∧ Kx df (upd H0 d (.frz od (dwO X.prog X.w d ents))) H1 ∧ H1 df = some (dwO X.prog X.w df entsF1) ∧ GoodE X.K H1 N entsF1 ∧
    (∀ z, z ∈ entsF1.map (·.1) ↔ (∃ v ∈ (ents.take i).map (·.1), out v = some z) ∨ z ∈ entsF.map (·.1))) ?_ ?_ ?_ ?_
  · obtain ⟨v1, v2, e⟩ := hv
    exact ⟨v1, v2, entsF, e.symm, fun _ _ h _ => h, by rw [upd_ne hne]; exact hdf, gF.kx kxL hd trivial trivial, fun z => by simp⟩
  · rintro i σ H1 _ ⟨v1, v2, entsF1, _, k1, _⟩
    exact k1 _ _ upd_same (Ne.symm hne)
  · rintro i e T σ H1 he ⟨v1, v2, entsF1, rfl, k1, h1, g1, w1⟩ hT
    have sT : Same H1 (upd H1 T (.tup [.ref e.2.1, e.2.2])) := same_upd hT
    have k2 : Kx df (upd H0 d (.frz od (dwO X.prog X.w d ents))) (upd H1 T (.tup [.ref e.2.1, e.2.2])) := k1.trans (Same.kx sT df)
    refine ⟨T, [.ref e.2.1, e.2.2], rfl, SqT.of upd_same, rfl, .ref e.2.1, [e.2.2], rfl, e.2.2, [], rfl, rfl, ?_⟩
    rw [set_way hwa]
    have st : Stands X.K df H0 (upd H1 T (.tup [.ref e.2.1, e.2.2])) := by
      refine ⟨fun d2 u2 h2 n2 => ?_, fun b xs h => k2.sqT (o := dwO X.prog X.w df entsF) (by rw [upd_ne hne]; exact hdf) trivial (kxL.sqT hd trivial h), fun b xs h => k2.lst (o := dwO X.prog X.w df entsF) (by rw [upd_ne hne]; exact hdf) trivial (kxL.lst hd trivial h)⟩
      by_cases e2 : d2 = d
      · subst e2
        rw [hd] at h2
        cases h2
        exact .inr ⟨od, k2 _ _ upd_same n2⟩
      · exact .inl (k2 _ _ (by rw [upd_ne e2]; exact h2) n2)
    refine hb e _ _ entsF1 (List.mem_of_getElem? he) st (sT _ _ h1) (g1.same sT) fun entsF2 H2 kx h2 g2 w2 => ?_
    refine ⟨_, _, entsF2, rfl, k2.trans kx, h2, g2, fun z => ?_⟩
    rw [w2, w1, List.take_add_one, he, List.map_append]
    simp only [Option.toList_some, List.map_cons, List.map_nil, List.mem_append, List.mem_singleton]
    constructor
    · rintro (a | ⟨v, a, b⟩ | a)
      · exact .inl ⟨_, .inr rfl, a⟩
      · exact .inl ⟨v, .inl a, b⟩
      · exact .inr a
    · rintro (⟨v, a | rfl, b⟩ | a)
      · exact .inr (.inl ⟨v, a, b⟩)
      · exact .inl b
      · exact .inr (.inr a)
  · rintro σ H1 ⟨v1, v2, entsF1, rfl, k1, h1, g1, w1⟩
    have hd1 : H1 d = some (.frz od (dwO X.prog X.w d ents)) := k1 _ _ upd_same (Ne.symm hne)
    refine ⟨hd1, ?_⟩
    have kxU : Kx d H1 (upd H1 d (dwO X.prog X.w d ents)) := Kx.upd _ _ _
    refine hx entsF1 _ v1 v2 (fun b x e n => ?_) (by rw [upd_ne hne]; exact h1) (g1.kx kxU hd1 trivial trivial) fun z => by rw [w1, List.take_length]
    by_cases e2 : b = d
    · subst e2
      rw [upd_same, ← hd, e]
    · rw [upd_ne e2]
      exact k1 _ _ (by rw [upd_ne e2]; exact e) n
end L2.K11
set_option Elab.async false
set_option linter.all false
set_option maxRecDepth 100000
set_option maxHeartbeats 1000000
/-! The defs, part D: left_by_if, left_by_while. -/
namespace L2.K11
open PySem PySem.Spec PyProof.Rows
theorem for_enum {K : PySem.W.Frag} {a : Addr} {xs : List V} {g : TG} {tb : TS} {D : Ends} {σ : St} {H : Hp} (Pv : Nat → St → Hp → Prop) (h0 : Pv 0 σ H) (hl : ∀ i σ H, i ≤ xs.length → Pv i σ H → SqL K H a xs)
    (inj : ∀ (H : Hp) (xs ys : List V), SqL K H a xs → SqL K H a ys → True)
    (hs : ∀ i x T σ H, xs[i]? = some x → Pv i σ H → H T = none → g (.ref T) σ (upd H T (.tup [.int (i : Nat), x])) fun σ2 H2 => tb { D with nx := Pv (i + 1), ct := Pv (i + 1), bk := D.nx } σ2 H2) (hd : ∀ σ H, Pv xs.length σ H → D.nx σ H) :
    ∃ W : Nat → Nat → St → Hp → Prop, (∃ m, W 0 m σ H) ∧ ∀ i m σ H, W i m σ H →
      ((Ite K a).stop i H ∧ D.nx σ H) ∨ ((Ite K a).go i H ∧ ∃ N : St → Hp → Prop, (∀ σ' H', N σ' H' → ∃ m', m' < m ∧ W (i + 1) m' σ' H') ∧ ∀ x H', (Ite K a).yld i H x H' → g x σ H' fun σ2 H2 => tb { D with nx := N, ct := N, bk := D.nx } σ2 H2) := by
  refine ⟨fun i m σ H => m = xs.length - i ∧ i ≤ xs.length ∧ Pv i σ H, ⟨xs.length, by simp, Nat.zero_le _, h0⟩, ?_⟩
  rintro i m σ H ⟨rfl, hi, p⟩
  have q := hl i σ H hi p
  by_cases hlt : i < xs.length
  · refine .inr ⟨⟨xs, xs[i], q, by simp [hlt]⟩, Pv (i + 1), fun σ' H' p' => ⟨xs.length - (i + 1), by omega, rfl, hlt, p'⟩, fun x H' y => ?_⟩
    obtain ⟨T, x, rfl, hT, rfl, hx⟩ := y
    exact hs i x T σ H (hx xs q) p hT
  · have e : i = xs.length := by omega
    subst e
    exact .inl ⟨⟨xs, q, Nat.le_refl _⟩, hd σ H p⟩
section
variable {P : Program} {w : World} {K : PySem.W.Frag} {mg : Str → Option Value} {base : Heap}
abbrev CKeep (P : Program) (w : World) (K : PySem.W.Frag) (mg : Str → Option Value) (base : Heap) (f : Addr) (fd : FuncData) : Prop := Cal P w K mg base 2 "keep_first" ["found", "way", "answers"] (spKeep P w K) f fd
theorem keep_use {H2 H3 : Hp} {df b l : Addr} {v : Way} {entsF1 : List Dent} {N : Nat} {ns : List Int} {Q : VK} {E : XK} {vs : List V} (hvs : vs = [.ref df, .ref b, .ref l]) (s : Same H2 H3) (h2 : H2 df = some (dwO P w df entsF1)) (g2 : GoodE K H2 N entsF1) (hv : v ∈ allWays) (ht : SqT K H2 b v.vs)
    (hl : H3 l = some (.lst (ns.map V.int))) (hn : ns.length ≤ N)
    {ow : Option Way} (ho : ow = some v) (k : ∀ entsF2 H4, Kx df H2 H4 → H4 df = some (dwO P w df entsF2) → GoodE K H4 N entsF2 → (∀ z, z ∈ entsF2.map (·.1) ↔ ow = some z ∨ z ∈ entsF1.map (·.1)) → Q .non H4) : spKeep P w K vs H3 Q E :=
  ⟨df, b, l, v, entsF1, N, ns, hvs, s _ _ h2, g2.same s, hv, same_sqT s ht, hl, hn, fun ents' H4 kx h4 g4 w4 => k ents' H4 ((Same.kx s df).trans kx) h4 g4 fun z => by rw [w4, ho]; simp [eq_comm]⟩
abbrev sIf : Stmt := topS 16
theorem scIf : FnScope ["parts", "found", "answer", "part", "way", "answers"] ["parts"] (defScope sIf) := ⟨rfl, rfl, rfl, by decide +kernel, rfl, by decide +kernel, by decide +kernel⟩
def spIf (P : Program) (w : World) (K : PySem.W.Frag) : Sp := fun vs H Q _ => ∃ (p : Addr) (ds : List (Addr × List Way)) (n : Nat), vs = [.ref p] ∧ SqL K H p (ds.map fun q => V.ref q.1) ∧ (∀ q ∈ ds, DW P w K H q.1 q.2 n) ∧ n ≤ 1000 ∧
  ∀ d H', Same H H' → H d = none → DW P w K H' d (ds.flatMap (·.2)) (n + 1) → Q (.ref d) H'
theorem ok_if {f f1 : Addr} {fd fd1 : FuncData} (F : FnP K "left_by_if" "left_by_if" sIf f fd) (Tx : Txt K mg) (c1 : CKeep P w K mg base f1 fd1) : FnOk P w K mg base CX0 3 f fd ["parts"] (spIf P w K) := by
  refine fok F scIf (fun vs H Q E h => ?_) (fun cdv A outer s H vs Q E hr h => ?_)
  · obtain ⟨p, ds, n, rfl, _⟩ := h
    rfl
  · obtain ⟨p, ds, n, rfl, hp, hds, hn, q⟩ := h
    refine ⟨_, pss_cons (ps_set (i := 1) scIf.nd rfl (.inl rfl) pe_dnewW)
      (pss_cons (ps_for PassesOwn.never rfl (pi_enum (by rfl) Tx.enumerate (pa_cons (pv 0) pa_nil)) (pg_tup rfl (pgs_cons (pg_name (i := 2) scIf.nd rfl (.inl rfl)) (pgs_cons (pg_name (i := 3) scIf.nd rfl (.inl rfl)) pgs_nil)))
        (pss_one (ps_lock (ps_for PassesOwn.never rfl (pi_wi (pv 3)) (pg_tup rfl (pgs_cons (pg_name (i := 4) scIf.nd rfl (.inl rfl)) (pgs_cons (pg_name (i := 5) scIf.nd rfl (.inl rfl)) pgs_nil)))
          (pss_one (ps_expr (pe_call c1.ok hr (by rfl) c1.m c1.kp c1.b .nil pass0 (pa_cons (pv 1) (pa_cons (pv 4) (pa_cons (pe_op op_cat (pe_lst (pa_cons (pv 2) pa_nil)) (pv 5)) pa_nil))))))))))
      (pss_one (ps_ret (pv 1)))), ?_⟩
    intro df hdf
    have s0 : Same H (upd H df (dwO P w df [])) := same_upd hdf
    refine ⟨_, rfl, p, _, rfl, s0.seq hp, for_enum (K := K) (a := p) (xs := ds.map fun q => V.ref q.1) (fun i σ H1 => ∃ v2 v3 v4 v5 entsF, σ = [some (.ref p), some (.ref df), v2, v3, v4, v5] ∧ Same H H1 ∧ H1 df = some (dwO P w df entsF) ∧ GoodE K H1 (n + 1) entsF ∧
      ∀ z, z ∈ entsF.map (·.1) ↔ z ∈ (ds.take i).flatMap (·.2)) ⟨_, _, _, _, [], rfl, s0, upd_same, GoodE.nil, fun z => by simp⟩ (fun i σ H1 _ ⟨_, _, _, _, _, _, s1, _⟩ => s1.seq hp) (fun _ _ _ _ _ => trivial) ?_ ?_⟩
    · rintro i x T σ H1 hi ⟨v2, v3, v4, v5, entsF, rfl, s1, h1, g1, w1⟩ hT
      obtain ⟨⟨d, ws⟩, hq, rfl⟩ : ∃ q, ds[i]? = some q ∧ x = .ref q.1 := by
        rw [List.getElem?_map] at hi
        obtain ⟨q, hq, e⟩ := Option.map_eq_some_iff.mp hi
        exact ⟨q, hq, e.symm⟩
      obtain ⟨ents, hd, g, wd⟩ := hds _ (List.mem_of_getElem? hq)
      dsimp only at hd wd
      have sT : Same H1 (upd H1 T (.tup [.int (i : Nat), .ref d])) := same_upd hT
      refine ⟨T, _, rfl, SqT.of upd_same, rfl, _, _, rfl, _, _, rfl, rfl, ?_⟩
      have ne : df ≠ d := ne_of_none hd hdf |>.symm
      refine keep_loop (N := n + 1) (entsF := entsF) (fun v => some v) rfl (by decide) ((s1.trans sT) _ _ hd) (sT _ _ h1) ne (g1.same sT) ?_ ?_ ⟨v4, v5, rfl⟩
      · rintro e D2 H2 entsF1 he st h2 g2 k
        obtain ⟨hv, ht, l, ns, el, hl, hlen⟩ := g.2 e he
        refine ⟨_, rfl, _, rfl, _, rfl, (by show 1 ≤ sizeLine; decide), fun l1 hl1 => ?_⟩
        have sl : Same H2 (upd H2 l1 (.lst [.int (i : Nat)])) := same_upd hl1
        have hl2 : (upd H2 l1 (.lst [.int (i : Nat)])) l = some (.lst (ns.map V.int)) := sl _ _ (st.l _ _ ((s1.trans sT) _ _ hl))
        refine ⟨_, rfl, l1, l, [.int (i : Nat)], ns.map V.int, rfl, el, upd_same, hl2, (by rw [List.length_map]; exact small_line (by simp; omega)), fun l3 hl3 => ?_⟩
        dsimp only [tNil]
        exact keep_use rfl (sl.trans (same_upd hl3)) h2 g2 hv (st.t _ _ (same_sqT (s1.trans sT) ht)) (ns := (i : Int) :: ns) upd_same (by simp; omega) rfl k
      · rintro entsF' H' w1' w2' kx h' g' w'
        refine ⟨_, _, _, _, entsF', rfl, kx.same (s1.trans sT) hdf, h', g', fun z => ?_⟩
        rw [w', w1, List.take_add_one, hq]
        simp only [Option.toList_some, List.flatMap_append, List.mem_append, List.flatMap_cons, List.flatMap_nil, List.append_nil, ← wd]
        exact ⟨fun h => h.elim (fun ⟨v, a, b⟩ => .inr (by cases b; exact a)) .inl, fun h => h.elim .inr fun h => .inl ⟨z, h, rfl⟩⟩
    · rintro σ H1 ⟨v2, v3, v4, v5, entsF, rfl, s1, h1, g1, w1⟩
      refine ⟨_, rfl, q df H1 s1 hdf ⟨entsF, h1, g1, fun z => ?_⟩⟩
      rw [w1, List.length_map, List.take_length]
theorem store_use {H2 H3 : Hp} {df b l : Addr} {v : Way} {entsF1 : List Dent} {N : Nat} {ns : List Int} (s : Same H2 H3) (h2 : H2 df = some (dwO P w df entsF1)) (g2 : GoodE K H2 N entsF1) (hv : v ∈ allWays) (ht : SqT K H3 b v.vs)
    (hl : H3 l = some (.lst (ns.map V.int))) (hn : ns.length ≤ N) {ow : Option Way} (ho : ow = some v) {R : Hp → Prop}
    (k : ∀ entsF2 H4, Kx df H2 H4 → H4 df = some (dwO P w df entsF2) → GoodE K H4 N entsF2 → (∀ z, z ∈ entsF2.map (·.1) ↔ ow = some z ∨ z ∈ entsF1.map (·.1)) → R H4) :
    H3 df = some (dwO P w df entsF1) ∧ KeysOk K H3 entsF1 ∧ entsF1.length < sizeLine ∧ R (upd H3 df (dwO P w df (putE entsF1 v b (.ref l)))) := by
  have g3 := g2.same s
  have kx : Kx df H3 (upd H3 df (dwO P w df (putE entsF1 v b (.ref l)))) := Kx.upd _ _ _
  refine ⟨s _ _ h2, g3.keys, small_lt (by have := g2.len; omega), k _ _ ((Same.kx s df).trans kx) upd_same ((g3.put hv ht hl hn).kx kx (s _ _ h2) trivial trivial) fun z => ?_⟩
  rw [ways_putE, ho]
  simp [eq_comm]
abbrev sWh : Stmt := topS 17
theorem scWh : FnScope ["body", "found", "way", "answers"] ["body"] (defScope sWh) := ⟨rfl, rfl, rfl, by decide +kernel, rfl, by decide +kernel, by decide +kernel⟩
def spWh (P : Program) (w : World) (K : PySem.W.Frag) : Sp := fun vs H Q _ => ∃ (p : Addr) (ws : List Way) (n : Nat), vs = [.ref p] ∧ DW P w K H p ws n ∧ n ≤ 1000 ∧ (∀ z ∈ Way.normal :: ws.filterMap outw, z ∈ allWays) ∧
  ∀ d H', Same H H' → H d = none → DW P w K H' d (Way.normal :: ws.filterMap outw) (n + 1) → Q (.ref d) H'
theorem ok_wh {f : Addr} {fd : FuncData} (F : FnP K "left_by_while" "left_by_while" sWh f fd) (Tx : Txt K mg) : FnOk P w K mg base CX0 1 f fd ["body"] (spWh P w K) := by
  refine fok F scWh (fun vs H Q E h => ?_) (fun cdv A outer s H vs Q E hr h => ?_)
  · obtain ⟨p, ws, n, rfl, _⟩ := h
    rfl
  · obtain ⟨d, ws, n, rfl, ⟨ents, hd, g, wd⟩, hn, ha, q⟩ := h
    obtain ⟨aN, mN, hN⟩ := Tx.normal
    refine ⟨_, pss_cons (ps_set (i := 1) scWh.nd rfl (.inl rfl) (pe_dispW (hu_of hr) (pps_cons (pe_glob rfl mN (v := .ref aN) rfl) (pe_lst (pa_cons pe_int pa_nil)) pps_nil) (by rfl) (by rfl) (fun z => by cases z) (by decide)))
      (pss_cons (ps_lock (ps_for PassesOwn.never rfl (pi_wi (pv 0)) (pg_tup rfl (pgs_cons (pg_name (i := 2) scWh.nd rfl (.inl rfl)) (pgs_cons (pg_name (i := 3) scWh.nd rfl (.inl rfl)) pgs_nil)))
        (pss_one (ps_if (PW.pt (pw_and (pt_cmpR op_eq (pe_callB call_len_seq (by rfl) Tx.len PySem.boot_len (pa_cons (pv 2) pa_nil)) pe_int (nomark _)) (pw_and1 (pt_cmpR op_gt (pe_ix ix_tup (pv 2) pe_int (fun _ _ => rfl)) pe_int (nomark _)))))
          (pss_one (ps_asg (pe_op op_cat (pe_lst (pa_cons pe_int pa_nil)) (pv 3)) (pg_sub (pv 1) (pe_tup (pa_cons (pe_ix ix_tup (pv 2) pe_int (fun _ _ => rfl)) (pa_cons (pe_op op_sub (pe_ix ix_tup (pv 2) pe_int (fun _ _ => rfl)) pe_int) pa_nil))) (set_dw (hu_of hr)))))
          (pss_one (ps_if (pt_cmpR op_in_seq (pe_ix ix_tup (pv 2) pe_int (fun _ _ => rfl)) (pe_tup (pa_cons pe_str (pa_cons pe_str pa_nil))) (by rfl))
            (pss_one (ps_asg (pe_op op_cat (pe_lst (pa_cons pe_int pa_nil)) (pv 3)) (pg_sub (pv 1) (pv 2) (set_dw (hu_of hr))))) pss_nil))))))
      (pss_one (ps_ret (pv 1)))), ?_⟩
    intro df hdf
    refine ⟨by decide, fun l0 hl0 => ?_⟩
    have s0 : Same (upd H df (dwO P w df [])) (upd (upd H df (dwO P w df [])) l0 (.lst [.int 0])) := same_upd hl0
    have hN' : Way.normal ∈ allWays := ha _ List.mem_cons_self
    have g0 : GoodE K (upd (upd H df (dwO P w df [])) l0 (.lst [.int 0])) (n + 1) [(.normal, aN, .ref l0)] := GoodE.nil.put (v := .normal) (a := aN) (l := l0) (ns := [0]) hN' (hN _) upd_same (by simp)
    refine ⟨s0 _ _ upd_same, [(.normal, aN, .ref l0)], rfl, g0.keys, (by show 1 ≤ 15; decide), ?_⟩
    have kx0 : Kx df (upd (upd H df (dwO P w df [])) l0 (.lst [.int 0])) (upd (upd (upd H df (dwO P w df [])) l0 (.lst [.int 0])) df (dwO P w df (mergeE [] [(.normal, aN, .ref l0)]))) := Kx.upd _ _ _
    have s1 : Same H (upd (upd (upd H df (dwO P w df [])) l0 (.lst [.int 0])) df (dwO P w df (mergeE [] [(.normal, aN, .ref l0)]))) := kx0.same ((same_upd hdf).trans s0) hdf
    have ne : df ≠ d := (ne_of_none hd hdf).symm
    refine keep_loop (N := n + 1) (entsF := [(.normal, aN, .ref l0)]) outw rfl (by decide) (s1 _ _ hd) upd_same ne (g0.kx kx0 (s0 _ _ upd_same) trivial trivial) ?_ ?_ ⟨none, none, rfl⟩
    · rintro ⟨v, b, x⟩ D2 H2 entsF1 he st h2 g2 k
      obtain ⟨hv, ht, l, ns, el, hl, hlen⟩ := g.2 _ he
      dsimp only at hv ht el k
      subst el
      have ht2 : SqT K H2 b v.vs := st.t _ _ (same_sqT s1 ht)
      have hl2 : H2 l = some (.lst (ns.map V.int)) := st.l _ _ (s1 _ _ hl)
      have hz : [V.int 1].length + (ns.map V.int).length ≤ sizeLine := by rw [List.length_map]; exact small_line (by simp; omega)
      have hn2 : ((1 : Int) :: ns).length ≤ n + 1 := by simp; omega
      -- found[key] = [1] + answers
      have put : ∀ (R : Hp → Prop) (k : ∀ entsF2 H4, Kx df H2 H4 → H4 df = some (dwO P w df entsF2) → GoodE K H4 (n + 1) entsF2 → (∀ z, z ∈ entsF2.map (·.1) ↔ outw v = some z ∨ z ∈ entsF1.map (·.1)) → R H4) (u : Way) (b2 : Addr) (H3 : Hp), outw v = some u → u ∈ allWays → Same H2 H3 →
          SqT K H3 b2 u.vs → ∀ (l3 : Addr), H3 l3 = some (.lst (((1 : Int) :: ns).map V.int)) → ∃ (d' b' : Addr) (k' : Way) (ents' : List Dent), V.ref df = .ref d' ∧ V.ref b2 = .ref b' ∧ H3 d' = some (dwO P w d' ents') ∧ KeysOk K H3 ents' ∧
          SqT K H3 b' k'.vs ∧ ents'.length < sizeLine ∧ R (upd H3 d' (dwO P w d' (putE ents' k' b' (.ref l3)))) := by
        intro R k u b2 H3 ho hu s3 hb2 l3 hl3
        obtain ⟨r1, r2, r3, r4⟩ := store_use (P := P) (w := w) (K := K) (R := R) (l := l3) (b := b2) (v := u) s3 h2 g2 hu hb2 hl3 hn2 ho k
        exact ⟨df, b2, u, entsF1, rfl, rfl, r1, r2, hb2, r3, r4⟩
      have mem : ∀ u, outw v = some u → u ∈ allWays := fun u hu => ha u (List.mem_cons_of_mem _ (List.mem_filterMap.mpr ⟨v, (wd v).mp (List.mem_map.mpr ⟨_, he, rfl⟩), hu⟩))
      cases v with
      | normal =>
        refine ⟨_, rfl, b, _, rfl, .inr ht2, rfl, _, rfl, ifF (fun e => nomatch V.int.inj (of_decide_eq_true e)) ?_⟩
        refine ⟨_, rfl, b, _, _, _, rfl, rfl, ht2, atI_nat (j := 0) rfl, (by decide), fun t0 ht0 => ⟨t0, _, rfl, .inr (SqT.of upd_same), rfl, rfl, _, rfl, ifF (by decide +kernel) ?_⟩⟩
        exact k entsF1 _ (Same.kx (same_upd ht0) df) (same_upd ht0 _ _ h2) (g2.same (same_upd ht0)) fun z => by simp [outw]
      | rse =>
        refine ⟨_, rfl, b, _, rfl, .inr ht2, rfl, _, rfl, ifF (fun e => nomatch V.int.inj (of_decide_eq_true e)) ?_⟩
        refine ⟨_, rfl, b, _, _, _, rfl, rfl, ht2, atI_nat (j := 0) rfl, (by decide), fun t0 ht0 => ⟨t0, _, rfl, .inr (SqT.of upd_same), rfl, rfl, _, rfl, ifT (by decide +kernel) ?_⟩⟩
        refine ⟨(by decide), fun l1 hl1 => ⟨_, rfl, l1, l, [.int 1], ns.map V.int, rfl, rfl, upd_same, same_upd hl1 _ _ (same_upd ht0 _ _ hl2), hz, fun l3 hl3 => ⟨_, rfl, _, rfl, ?_⟩⟩⟩
        have s3 := ((same_upd (o := .tup [.str "return", .str "raise"]) ht0).trans (same_upd (o := .lst [.int 1]) hl1)).trans (same_upd (o := .lst ([.int 1] ++ ns.map V.int)) hl3)
        exact put _ k .rse b _ rfl (mem _ rfl) s3 (same_sqT s3 ht2) l3 upd_same
      | ret =>
        refine ⟨_, rfl, b, _, rfl, .inr ht2, rfl, _, rfl, ifF (fun e => nomatch V.int.inj (of_decide_eq_true e)) ?_⟩
        refine ⟨_, rfl, b, _, _, _, rfl, rfl, ht2, atI_nat (j := 0) rfl, (by decide), fun t0 ht0 => ⟨t0, _, rfl, .inr (SqT.of upd_same), rfl, rfl, _, rfl, ifT (by decide +kernel) ?_⟩⟩
        refine ⟨(by decide), fun l1 hl1 => ⟨_, rfl, l1, l, [.int 1], ns.map V.int, rfl, rfl, upd_same, same_upd hl1 _ _ (same_upd ht0 _ _ hl2), hz, fun l3 hl3 => ⟨_, rfl, _, rfl, ?_⟩⟩⟩
        have s3 := ((same_upd (o := .tup [.str "return", .str "raise"]) ht0).trans (same_upd (o := .lst [.int 1]) hl1)).trans (same_upd (o := .lst ([.int 1] ++ ns.map V.int)) hl3)
        exact put _ k .ret b _ rfl (mem _ rfl) s3 (same_sqT s3 ht2) l3 upd_same
      | brk m =>
        refine ⟨_, rfl, b, _, rfl, .inr ht2, rfl, _, rfl, ifT (decide_eq_true rfl) ?_⟩
        refine ⟨_, rfl, b, _, _, _, rfl, rfl, ht2, atI_nat (j := 1) rfl, m, 1, rfl, rfl, _, rfl, ?_⟩
        by_cases hm : 1 < m
        · have e0 : outw (.brk m) = some (.brk (m - 1)) := by simp [outw, hm]
          refine ifT (decide_eq_true hm) ?_
          refine ⟨(by decide), fun l1 hl1 => ⟨_, rfl, l1, l, [.int 1], ns.map V.int, rfl, rfl, upd_same, same_upd hl1 _ _ hl2, hz, fun l3 hl3 => ⟨_, rfl, ?_⟩⟩⟩
          have s2 := (same_upd (o := .lst [.int 1]) hl1).trans (same_upd (o := .lst ([.int 1] ++ ns.map V.int)) hl3)
          have ht3 := same_sqT s2 ht2
          refine ⟨_, rfl, b, _, _, _, rfl, rfl, ht3, atI_nat (j := 0) rfl, _, rfl, b, _, _, _, rfl, rfl, ht3, atI_nat (j := 1) rfl, m, 1, rfl, rfl, (by show 2 ≤ sizeLine; decide), fun t0 ht0 => ?_⟩
          have s3 := s2.trans (same_upd (o := .tup [.str "break", .int (m - 1)]) ht0)
          exact put _ k (.brk (m - 1)) t0 _ e0 (mem _ e0) s3 (SqT.of upd_same) l3 (same_upd ht0 _ _ upd_same)
        · have e0 : outw (.brk m) = none := by simp [outw, hm]
          refine ifF (fun e => hm (of_decide_eq_true e)) ?_
          refine ⟨_, rfl, b, _, _, _, rfl, rfl, ht2, atI_nat (j := 0) rfl, (by decide), fun t0 ht0 => ⟨t0, _, rfl, .inr (SqT.of upd_same), rfl, rfl, _, rfl, ifF (by decide +kernel) ?_⟩⟩
          exact k entsF1 _ (Same.kx (same_upd ht0) df) (same_upd ht0 _ _ h2) (g2.same (same_upd ht0)) fun z => by simp [e0]
      | cnt m =>
        refine ⟨_, rfl, b, _, rfl, .inr ht2, rfl, _, rfl, ifT (decide_eq_true rfl) ?_⟩
        refine ⟨_, rfl, b, _, _, _, rfl, rfl, ht2, atI_nat (j := 1) rfl, m, 1, rfl, rfl, _, rfl, ?_⟩
        by_cases hm : 1 < m
        · have e0 : outw (.cnt m) = some (.cnt (m - 1)) := by simp [outw, hm]
          refine ifT (decide_eq_true hm) ?_
          refine ⟨(by decide), fun l1 hl1 => ⟨_, rfl, l1, l, [.int 1], ns.map V.int, rfl, rfl, upd_same, same_upd hl1 _ _ hl2, hz, fun l3 hl3 => ⟨_, rfl, ?_⟩⟩⟩
          have s2 := (same_upd (o := .lst [.int 1]) hl1).trans (same_upd (o := .lst ([.int 1] ++ ns.map V.int)) hl3)
          have ht3 := same_sqT s2 ht2
          refine ⟨_, rfl, b, _, _, _, rfl, rfl, ht3, atI_nat (j := 0) rfl, _, rfl, b, _, _, _, rfl, rfl, ht3, atI_nat (j := 1) rfl, m, 1, rfl, rfl, (by show 2 ≤ sizeLine; decide), fun t0 ht0 => ?_⟩
          have s3 := s2.trans (same_upd (o := .tup [.str "continue", .int (m - 1)]) ht0)
          exact put _ k (.cnt (m - 1)) t0 _ e0 (mem _ e0) s3 (SqT.of upd_same) l3 (same_upd ht0 _ _ upd_same)
        · have e0 : outw (.cnt m) = none := by simp [outw, hm]
          refine ifF (fun e => hm (of_decide_eq_true e)) ?_
          refine ⟨_, rfl, b, _, _, _, rfl, rfl, ht2, atI_nat (j := 0) rfl, (by decide), fun t0 ht0 => ⟨t0, _, rfl, .inr (SqT.of upd_same), rfl, rfl, _, rfl, ifF (by decide +kernel) ?_⟩⟩
          exact k entsF1 _ (Same.kx (same_upd ht0) df) (same_upd ht0 _ _ h2) (g2.same (same_upd ht0)) fun z => by simp [e0]
    · rintro entsF' H' w1' w2' kx h' g' w'
      refine ⟨_, rfl, q df H' (kx.same s1 hdf) hdf ⟨entsF', h', g', fun z => ?_⟩⟩
      rw [w']
      simp only [List.map_cons, List.map_nil, List.mem_singleton, List.mem_cons, List.mem_filterMap]
      constructor
      · rintro (⟨v, hv, e⟩ | e)
        · exact .inr ⟨v, (wd v).mp hv, e⟩
        · exact .inl (e.elim id fun h => nomatch h)
      · rintro (e | ⟨v, hv, e⟩)
        · exact .inr (.inl e)
        · exact .inl ⟨v, (wd v).mpr hv, e⟩
end
end L2.K11
set_option Elab.async false
set_option linter.all false
set_option maxRecDepth 100000
set_option maxHeartbeats 1000000
/-! The defs, part E: left_by_seq, left_by_try, left_by_final. -/
namespace L2.K11
open PySem PySem.Spec PyProof.Rows
theorem Way.dp {K : PySem.W.Frag} {H : Hp} {a : Addr} {v : Way} (h : SqT K H a v.vs) : Dp K H (.ref a) v.data := by
  cases v with
  | normal => exact .tup h (.cons (.str _) .nil)
  | rse => exact .tup h (.cons (.str _) .nil)
  | ret => exact .tup h (.cons (.str _) .nil)
  | brk n => exact .tup h (.cons (.str _) (.cons (.int _) .nil))
  | cnt n => exact .tup h (.cons (.str _) (.cons (.int _) .nil))
theorem Way.shaped (v : Way) : SeqAt.shaped v.data = true := by
  have h := Way.depth v
  have : v.data.canLay0 = true := by cases v <;> simp [Way.data, PyData.canLay0, PyData.canLayAll0] <;> decide +kernel
  unfold SeqAt.shaped
  rw [this]
  exact decide_eq_true (by omega)
def rNeW (K : PySem.W.Frag) : R2 := fun x y H Q => ∃ (a b : Addr) (v z : Way), x = .ref a ∧ y = .ref b ∧ SqT K H a v.vs ∧ SqT K H b z.vs ∧ Q (.bl (!decide (v = z))) H
def rEqW (K : PySem.W.Frag) : R2 := fun x y H Q => ∃ (a b : Addr) (v z : Way), x = .ref a ∧ y = .ref b ∧ SqT K H a v.vs ∧ SqT K H b z.vs ∧ Q (.bl (decide (v = z))) H
section
variable {X : Cx}
theorem op_neW (hu : X.A.units + 64 < cLine) : OpR X (compareOp .NotEq) (rNeW X.K) := by
  rintro pins s σ H x y v u Q I rx ry ⟨a, b, v1, z, rfl, rfl, h1, h2, q⟩
  exact op_neD hu pins s σ H _ _ v u Q I rx ry ⟨v1.data, z.data, Way.dp h1, Way.dp h2, Way.shaped _, Way.shaped _, by rw [Way.eqv]; exact q⟩
theorem op_eqW (hu : X.A.units + 64 < cLine) : OpR X (compareOp .Eq) (rEqW X.K) := by
  rintro pins s σ H x y v u Q I rx ry ⟨a, b, v1, z, rfl, rfl, h1, h2, q⟩
  exact op_eqD hu pins s σ H _ _ v u Q I rx ry ⟨v1.data, z.data, Way.dp h1, Way.dp h2, Way.shaped _, Way.shaped _, by rw [Way.eqv]; exact q⟩
end
def but (c v : Way) : Option Way := if v = c then none else some v
theorem but_eq {c v z : Way} : but c v = some z ↔ v ≠ c ∧ v = z := by
  unfold but
  split <;> simp_all
def seqW : List (List Way) → List Way
  | [] => [.normal]
  | x :: xs => (x.filter fun w => decide (w ≠ .normal)) ++ (if Way.normal ∈ x then seqW xs else [])
theorem wsS_eq : ∀ ts : List T, T.wsS ts = seqW (ts.map T.ws)
  | [] => by rw [T.wsS]; rfl
  | t :: ts => by rw [T.wsS, wsS_eq ts]; rfl
section
variable {P : Program} {w : World} {K : PySem.W.Frag} {mg : Str → Option Value} {base : Heap}
/-- one way's answers in a dict -/
theorem DW.at' {H : Hp} {ents : List Dent} {n : Nat} {v : Way} (g : GoodE K H n ents) (hv : v ∈ ents.map (·.1)) : ∃ (l : Addr) (ns : List Int), entAt ents v = some (.ref l) ∧ H l = some (.lst (ns.map V.int)) ∧ ns.length ≤ n := by
  obtain ⟨x, hx⟩ := Option.isSome_iff_exists.mp ((entAt_mem ents v).mpr hv)
  obtain ⟨a, ha⟩ := entAt_some hx
  obtain ⟨_, _, l, ns, el, hl, hn⟩ := g.2 _ ha
  dsimp only at el
  exact ⟨l, ns, by rw [hx, el], hl, hn⟩
abbrev sSeq : Stmt := topS 18
theorem scSeq : FnScope ["parts", "found", "before", "part", "way", "answers"] ["parts"] (defScope sSeq) := ⟨rfl, rfl, rfl, by decide +kernel, rfl, by decide +kernel, by decide +kernel⟩
abbrev Pt := Addr × List Way × Nat
def spSeq (P : Program) (w : World) (K : PySem.W.Frag) : Sp := fun vs H Q _ => ∃ (p : Addr) (ds : List Pt), vs = [.ref p] ∧ SqL K H p (ds.map fun q => V.ref q.1) ∧ (∀ q ∈ ds, DW P w K H q.1 q.2.1 q.2.2) ∧ (ds.map (·.2.2)).sum ≤ 1000 ∧
  ∀ d H', Same H H' → H d = none → DW P w K H' d (seqW (ds.map (·.2.1))) (ds.map (·.2.2)).sum → Q (.ref d) H'
theorem ok_seq {f f1 : Addr} {fd fd1 : FuncData} (F : FnP K "left_by_seq" "left_by_seq" sSeq f fd) (Tx : Txt K mg) (c1 : CKeep P w K mg base f1 fd1) : FnOk P w K mg base CX0 3 f fd ["parts"] (spSeq P w K) := by
  refine fok F scSeq (fun vs H Q E h => ?_) (fun cdv A outer s H vs Q E hr h => ?_)
  · obtain ⟨p, ds, rfl, _⟩ := h
    rfl
  · obtain ⟨p, ds, rfl, hp, hds, hn, q⟩ := h
    obtain ⟨aN, mN, hN⟩ := Tx.normal
    refine ⟨_, pss_cons (ps_set (i := 1) scSeq.nd rfl (.inl rfl) pe_dnewW) (pss_cons (ps_set (i := 2) scSeq.nd rfl (.inl rfl) (pe_lst pa_nil))
      (pss_cons (ps_for PassesOwn.never rfl (pi_list (pv 0)) (pg_name (i := 3) scSeq.nd rfl (.inl rfl))
        (pss_cons (ps_lock (ps_for PassesOwn.never rfl (pi_wi (pv 3)) (pg_tup rfl (pgs_cons (pg_name (i := 4) scSeq.nd rfl (.inl rfl)) (pgs_cons (pg_name (i := 5) scSeq.nd rfl (.inl rfl)) pgs_nil)))
          (pss_one (ps_if (pt_cmpR (op_neW hr.units) (pv 4) (pe_glob rfl mN (v := .ref aN) rfl) (nomark _)) (pss_one (ps_expr (pe_call c1.ok hr (by rfl) c1.m c1.kp c1.b .nil pass0 (pa_cons (pv 1) (pa_cons (pv 4) (pa_cons (pe_op op_cat (pv 2) (pv 5)) pa_nil)))))) pss_nil))))
        (pss_cons (ps_if (pt_cmpR (op_notIn_dw (hu_of hr)) (pe_glob rfl mN (v := .ref aN) rfl) (pv 3) (by rfl)) (pss_one (ps_ret (pv 1))) pss_nil)
        (pss_one (ps_set (i := 2) scSeq.nd rfl (.inl rfl) (pe_op op_cat (pv 2) (pe_ix (ix_dw (hu_of hr)) (pv 3) (pe_glob rfl mN (v := .ref aN) rfl) (fun _ _ => rfl))))))))
      (pss_cons (ps_asg (pv 2) (pg_sub (pv 1) (pe_glob rfl mN (v := .ref aN) rfl) (set_dw (hu_of hr))))
      (pss_one (ps_ret (pv 1)))))), ?_⟩
    intro df hdf
    have s0 : Same H (upd H df (dwO P w df [])) := same_upd hdf
    refine ⟨Nat.zero_le _, fun lb hlb => ?_⟩
    have sb : Same (upd H df (dwO P w df [])) (upd (upd H df (dwO P w df [])) lb (.lst [])) := same_upd hlb
    generalize hN0 : (ds.map (·.2.2)).sum = N at hn q
    refine ⟨_, rfl, p, rfl, ⟨_, (s0.trans sb).seq hp⟩, for_list (K := K) (a := p) (xs := ds.map fun q => V.ref q.1) (fun i σ H1 => ∃ l2 v3 v4 v5 entsF ns, σ = [some (.ref p), some (.ref df), some (.ref l2), v3, v4, v5] ∧ Same H H1 ∧ H1 df = some (dwO P w df entsF) ∧ GoodE K H1 N entsF ∧
      H1 l2 = some (.lst (ns.map V.int)) ∧ ns.length + ((ds.drop i).map (·.2.2)).sum ≤ N ∧ ∀ z, z ∈ seqW (ds.map (·.2.1)) ↔ z ∈ entsF.map (·.1) ∨ z ∈ seqW ((ds.drop i).map (·.2.1)))
      ⟨lb, _, _, _, [], [], rfl, s0.trans sb, sb _ _ upd_same, GoodE.nil, upd_same, by simp; omega, fun z => by simp⟩ (fun i σ H1 _ ⟨_, _, _, _, _, _, _, s1, _⟩ => s1.seq hp) ?_ ?_⟩
    · rintro i x σ H1 hi ⟨l2, v3, v4, v5, entsF, ns, rfl, s1, h1, g1, hl2, hle, w1⟩
      obtain ⟨⟨d, ws, n⟩, hq, rfl⟩ : ∃ q, ds[i]? = some q ∧ x = .ref q.1 := by
        rw [List.getElem?_map] at hi
        obtain ⟨q, hq, e⟩ := Option.map_eq_some_iff.mp hi
        exact ⟨q, hq, e.symm⟩
      obtain ⟨hil, hgi⟩ := List.getElem?_eq_some_iff.mp hq
      have hdrop : ds.drop i = (d, ws, n) :: ds.drop (i + 1) := by
        rw [List.drop_eq_getElem_cons hil, hgi]
      obtain ⟨ents, hd, g, wd⟩ := hds _ (List.mem_of_getElem? hq)
      dsimp only at hd g wd
      rw [hdrop] at hle w1
      simp only [List.map_cons, List.sum_cons] at hle
      have ne : df ≠ d := (ne_of_none hd hdf).symm
      refine keep_loop (N := N) (entsF := entsF) (but .normal) rfl (by decide) (s1 _ _ hd) h1 ne g1 ?_ ?_ ⟨v4, v5, rfl⟩
      · rintro ⟨v, b, x⟩ D2 H2 entsF1 he st h2 g2 k
        obtain ⟨hv, ht, l, ms, el, hl, hlen⟩ := g.2 _ he
        dsimp only at hv ht el k
        subst el
        have ht2 : SqT K H2 b v.vs := st.t _ _ (same_sqT s1 ht)
        refine ⟨_, rfl, b, aN, v, .normal, rfl, rfl, ht2, hN _, _, rfl, ?_⟩
        by_cases e : v = .normal
        · refine ifF (by simp [e]) ?_
          exact k entsF1 H2 (fun _ _ h _ => h) h2 g2 fun z => by simp [but, e]
        · refine ifT (by simp [e]) ?_
          refine ⟨_, rfl, _, rfl, _, rfl, _, rfl, l2, l, ns.map V.int, ms.map V.int, rfl, rfl, st.l _ _ hl2, st.l _ _ (s1 _ _ hl), (by rw [List.length_map, List.length_map]; exact small_line (by omega)), fun l3 hl3 => ?_⟩
          dsimp only [tNil]
          exact keep_use rfl (same_upd hl3) h2 g2 hv ht2 (ns := ns ++ ms) (by rw [upd_same, List.map_append]) (by rw [List.length_append]; omega) (by simp [but, e]) k
      · rintro entsF' H' w1' w2' kx h' g' w'
        have s2 : Same H H' := kx.same s1 hdf
        have mm : (Way.normal ∈ ents.map (·.1)) ↔ Way.normal ∈ ws := wd _
        have w2 : ∀ z, z ∈ seqW (ds.map (·.2.1)) ↔ z ∈ entsF'.map (·.1) ∨ z ∈ (if Way.normal ∈ ws then seqW ((ds.drop (i + 1)).map (·.2.1)) else []) := by
          intro z
          rw [w1, w']
          simp only [List.map_cons, seqW, List.mem_append, List.mem_filter, decide_eq_true_eq, but_eq, ← wd]
          constructor
          · rintro (a | ⟨a, b⟩ | a)
            · exact .inl (.inr a)
            · exact .inl (.inl ⟨z, a, b, rfl⟩)
            · exact .inr a
          · rintro ((⟨v, a, b, rfl⟩ | a) | a)
            · exact .inr (.inl ⟨a, b⟩)
            · exact .inl a
            · exact .inr (.inr a)
        refine ⟨_, rfl, _, ⟨d, aN, .normal, ents, rfl, rfl, .inl (s2 _ _ hd), (g.same s2).keys, hN _, rfl⟩, _, rfl, ?_⟩
        by_cases hm : Way.normal ∈ ws
        · have hm' := (entAt_mem ents .normal).mpr (mm.mpr hm)
          obtain ⟨l, ms, e1, hl, hms⟩ := DW.at' (g.same s2) (mm.mpr hm)
          refine ifF (by rw [hm']; simp) ?_
          rw [if_pos hm] at w2
          refine ⟨_, rfl, _, rfl, .ref l, ⟨d, aN, .normal, ents, rfl, rfl, .inl (s2 _ _ hd), (g.same s2).keys, hN _, e1⟩, l2, l, ns.map V.int, ms.map V.int, rfl, rfl, kx.lst h1 trivial hl2, hl, (by rw [List.length_map, List.length_map]; exact small_line (by omega)), fun l3 hl3 => ?_⟩
          have s3 := same_upd (o := .lst (ns.map V.int ++ ms.map V.int)) hl3
          exact ⟨l3, _, _, _, entsF', ns ++ ms, rfl, s2.trans s3, s3 _ _ h', g'.same s3, by rw [upd_same, List.map_append], by rw [List.length_append]; omega, w2⟩
        · have hm' : (entAt ents .normal).isSome = false := by
            rw [Bool.eq_false_iff]
            exact fun h => hm (mm.mp ((entAt_mem ents .normal).mp h))
          refine ifT (by rw [hm']; rfl) ?_
          rw [if_neg hm] at w2
          exact ⟨_, rfl, q df H' s2 hdf ⟨entsF', h', g', fun z => by rw [w2]; simp⟩⟩
    · rintro σ H1 ⟨l2, v3, v4, v5, entsF, ns, rfl, s1, h1, g1, hl2, hle, w1⟩
      rw [List.length_map, List.drop_length] at w1 hle
      refine ⟨_, rfl, _, rfl, df, aN, .normal, entsF, rfl, rfl, h1, g1.keys, hN _, small_lt (by have := g1.len; omega), ?_⟩
      have kx : Kx df H1 (upd H1 df (dwO P w df (putE entsF .normal aN (.ref l2)))) := Kx.upd _ _ _
      refine ⟨_, rfl, q df _ (kx.same s1 hdf) hdf ⟨_, upd_same, (g1.put (by decide +kernel) (hN _) hl2 (by omega)).kx kx h1 trivial trivial, fun z => ?_⟩⟩
      rw [ways_putE, w1]
      simp [seqW, or_comm]
end
end L2.K11
set_option Elab.async false
set_option linter.all false
set_option maxRecDepth 100000
set_option maxHeartbeats 1000000
/-! The defs, part F: left_by_try, left_by_final. -/
namespace L2.K11
open PySem PySem.Spec PyProof.Rows
section
variable {P : Program} {w : World} {K : PySem.W.Frag} {mg : Str → Option Value} {base : Heap}
abbrev sTry : Stmt := topS 19
theorem scTry : FnScope ["body", "handler", "found", "way", "answers"] ["body", "handler"] (defScope sTry) := ⟨rfl, rfl, rfl, by decide +kernel, rfl, by decide +kernel, by decide +kernel⟩
def tryW (a b : List Way) : List Way := (a.filter fun w => decide (w ≠ .rse)) ++ (if Way.rse ∈ a then b else [])
def spTry (P : Program) (w : World) (K : PySem.W.Frag) : Sp := fun vs H Q _ => ∃ (p r : Addr) (ws zs : List Way) (n m : Nat), vs = [.ref p, .ref r] ∧ DW P w K H p ws n ∧ DW P w K H r zs m ∧ n + m ≤ 1000 ∧
  ∀ d H', Same H H' → H d = none → DW P w K H' d (tryW ws zs) (n + m) → Q (.ref d) H'
theorem ok_try {f f1 : Addr} {fd fd1 : FuncData} (F : FnP K "left_by_try" "left_by_try" sTry f fd) (Tx : Txt K mg) (c1 : CKeep P w K mg base f1 fd1) : FnOk P w K mg base CX0 3 f fd ["body", "handler"] (spTry P w K) := by
  refine fok F scTry (fun vs H Q E h => ?_) (fun cdv A outer s H vs Q E hr h => ?_)
  · obtain ⟨p, r, ws, zs, n, m, rfl, _⟩ := h
    rfl
  · obtain ⟨d, r, ws, zs, n, m, rfl, ⟨ents, hd, g, wd⟩, ⟨ents2, hd2, g2', wd2⟩, hn, q⟩ := h
    obtain ⟨aR, mR, hR⟩ := Tx.rse
    refine ⟨_, pss_cons (ps_set (i := 2) scTry.nd rfl (.inl rfl) pe_dnewW)
      (pss_cons (ps_lock (ps_for PassesOwn.never rfl (pi_wi (pv 0)) (pg_tup rfl (pgs_cons (pg_name (i := 3) scTry.nd rfl (.inl rfl)) (pgs_cons (pg_name (i := 4) scTry.nd rfl (.inl rfl)) pgs_nil)))
          (pss_one (ps_if (pt_cmpR (op_neW hr.units) (pv 3) (pe_glob rfl mR (v := .ref aR) rfl) (nomark _)) (pss_one (ps_expr (pe_call c1.ok hr (by rfl) c1.m c1.kp c1.b .nil pass0 (pa_cons (pv 2) (pa_cons (pv 3) (pa_cons (pv 4) pa_nil)))))) pss_nil))))
      (pss_cons (ps_if (pt_cmpR (op_in_dw (hu_of hr)) (pe_glob rfl mR (v := .ref aR) rfl) (pv 0) (by rfl))
        (pss_one (ps_lock (ps_for PassesOwn.never rfl (pi_wi (pv 1)) (pg_tup rfl (pgs_cons (pg_name (i := 3) scTry.nd rfl (.inl rfl)) (pgs_cons (pg_name (i := 4) scTry.nd rfl (.inl rfl)) pgs_nil)))
          (pss_one (ps_expr (pe_call c1.ok hr (by rfl) c1.m c1.kp c1.b .nil pass0 (pa_cons (pv 2) (pa_cons (pv 3) (pa_cons (pe_op op_cat (pe_ix (ix_dw (hu_of hr)) (pv 0) (pe_glob rfl mR (v := .ref aR) rfl) (fun _ _ => rfl)) (pv 4)) pa_nil))))))))) pss_nil)
      (pss_one (ps_ret (pv 2))))), ?_⟩
    intro df hdf
    have s0 : Same H (upd H df (dwO P w df [])) := same_upd hdf
    have ne : df ≠ d := (ne_of_none hd hdf).symm
    have ne2 : df ≠ r := (ne_of_none hd2 hdf).symm
    refine keep_loop (N := n + m) (entsF := []) (but .rse) rfl (by decide) (s0 _ _ hd) upd_same ne GoodE.nil ?_ ?_ ⟨none, none, rfl⟩
    · rintro ⟨v, b, x⟩ D2 H2 entsF1 he st h2 g2 k
      obtain ⟨hv, ht, l, ms, el, hl, hlen⟩ := g.2 _ he
      dsimp only at hv ht el k
      subst el
      have ht2 : SqT K H2 b v.vs := st.t _ _ (same_sqT s0 ht)
      refine ⟨_, rfl, b, aR, v, .rse, rfl, rfl, ht2, hR _, _, rfl, ?_⟩
      by_cases e : v = .rse
      · refine ifF (by simp [e]) ?_
        exact k entsF1 H2 (fun _ _ h _ => h) h2 g2 fun z => by simp [but, e]
      · refine ifT (by simp [e]) ?_
        refine ⟨_, rfl, _, rfl, _, rfl, ?_⟩
        dsimp only [tNil]
        exact keep_use rfl (Same.refl _) h2 g2 hv ht2 (ns := ms) (st.l _ _ (s0 _ _ hl)) (by omega) (by simp [but, e]) k
    · rintro entsF1 H1 v3 v4 kx1 h1 g1 w1
      have s1 : Same H H1 := kx1.same s0 hdf
      have mm : (Way.rse ∈ ents.map (·.1)) ↔ Way.rse ∈ ws := wd _
      have w1' : ∀ z, z ∈ entsF1.map (·.1) ↔ z ∈ ws ∧ z ≠ .rse := by
        intro z
        rw [w1]
        simp only [but_eq, List.map_nil, List.not_mem_nil, or_false, wd]
        constructor
        · rintro ⟨v, a, b, rfl⟩
          exact ⟨a, b⟩
        · rintro ⟨a, b⟩
          exact ⟨z, a, b, rfl⟩
      refine ⟨_, rfl, _, ⟨d, aR, .rse, ents, rfl, rfl, .inl (s1 _ _ hd), (g.same s1).keys, hR _, rfl⟩, _, rfl, ?_⟩
      by_cases hm : Way.rse ∈ ws
      · have hm' := (entAt_mem ents .rse).mpr (mm.mpr hm)
        obtain ⟨lr, rs, e1, hlr, hrs⟩ := DW.at' g (mm.mpr hm)
        refine ifT hm' ?_
        refine keep_loop (N := n + m) (entsF := entsF1) some rfl (by decide) (s1 _ _ hd2) h1 ne2 g1 ?_ ?_ ⟨v3, v4, rfl⟩
        · rintro ⟨v, b, x⟩ D2 H2 entsF2 he st h2 g2 k
          obtain ⟨hv, ht, l, ms, el, hl, hlen⟩ := g2'.2 _ he
          dsimp only at hv ht el k
          subst el
          have ht2 : SqT K H2 b v.vs := st.t _ _ (same_sqT s1 ht)
          have keys : KeysOk K H2 ents := fun e he => st.t _ _ (same_sqT s1 ((g.2 e he).2.1))
          refine ⟨_, rfl, _, rfl, _, rfl, .ref lr, ⟨d, aR, .rse, ents, rfl, rfl, st.rd _ _ (s1 _ _ hd) ne.symm, keys, hR _, e1⟩, _, rfl, lr, l, rs.map V.int, ms.map V.int, rfl, rfl, st.l _ _ (s1 _ _ hlr), st.l _ _ (s1 _ _ hl), (by rw [List.length_map, List.length_map]; exact small_line (by omega)), fun l3 hl3 => ?_⟩
          dsimp only [tNil]
          exact keep_use rfl (same_upd hl3) h2 g2 hv ht2 (ns := rs ++ ms) (by rw [upd_same, List.map_append]) (by rw [List.length_append]; omega) rfl k
        · rintro entsF2 H2 v3' v4' kx2 h2 g2 w2
          refine ⟨_, rfl, q df H2 (kx2.same s1 hdf) hdf ⟨entsF2, h2, g2, fun z => ?_⟩⟩
          rw [w2, w1']
          simp only [tryW, List.mem_append, List.mem_filter, decide_eq_true_eq, if_pos hm, ← wd2]
          constructor
          · rintro (⟨v, a, b⟩ | a)
            · cases b
              exact .inr a
            · exact .inl a
          · rintro (a | a)
            · exact .inr a
            · exact .inl ⟨z, a, rfl⟩
      · have hm' : (entAt ents .rse).isSome = false := by
          rw [Bool.eq_false_iff]
          exact fun h => hm (mm.mp ((entAt_mem ents .rse).mp h))
        refine ifF (by rw [hm']; simp) ?_
        refine ⟨_, rfl, q df H1 s1 hdf ⟨entsF1, h1, g1, fun z => ?_⟩⟩
        rw [w1']
        simp [tryW, hm]
abbrev sFin : Stmt := topS 20
theorem scFin : FnScope ["body", "block", "found", "way", "answers", "begun"] ["body", "block"] (defScope sFin) := ⟨rfl, rfl, rfl, by decide +kernel, rfl, by decide +kernel, by decide +kernel⟩
def finW (a b : List Way) : List Way := (if Way.normal ∈ b then a else []) ++ b.filter fun w => decide (w ≠ .normal)
def spFin (P : Program) (w : World) (K : PySem.W.Frag) : Sp := fun vs H Q _ => ∃ (p r : Addr) (ws zs : List Way) (n m : Nat), vs = [.ref p, .ref r] ∧ DW P w K H p ws n ∧ DW P w K H r zs m ∧ n + m ≤ 1000 ∧ (∃ v, v ∈ ws) ∧
  ∀ d H', Same H H' → H d = none → DW P w K H' d (finW ws zs) (n + m) → Q (.ref d) H'
theorem ok_fin {f f1 f2 : Addr} {fd fd1 fd2 : FuncData} (F : FnP K "left_by_final" "left_by_final" sFin f fd) (Tx : Txt K mg) (c1 : CKeep P w K mg base f1 fd1) (c2 : Cal P w K mg base 2 "first_shortest" ["found"] (spFirst P w K) f2 fd2) : FnOk P w K mg base CX0 3 f fd ["body", "block"] (spFin P w K) := by
  refine fok F scFin (fun vs H Q E h => ?_) (fun cdv A outer s H vs Q E hr h => ?_)
  · obtain ⟨p, r, ws, zs, n, m, rfl, _⟩ := h
    rfl
  · obtain ⟨d, r, ws, zs, n, m, rfl, ⟨ents, hd, g, wd⟩, ⟨ents2, hd2, g2', wd2⟩, hn, ⟨v0, hv0⟩, q⟩ := h
    obtain ⟨aN, mN, hN⟩ := Tx.normal
    refine ⟨_, pss_cons (ps_set (i := 2) scFin.nd rfl (.inl rfl) pe_dnewW)
      (pss_cons (ps_if (pt_cmpR (op_in_dw (hu_of hr)) (pe_glob rfl mN (v := .ref aN) rfl) (pv 1) (by rfl))
        (pss_one (ps_lock (ps_for PassesOwn.never rfl (pi_wi (pv 0)) (pg_tup rfl (pgs_cons (pg_name (i := 3) scFin.nd rfl (.inl rfl)) (pgs_cons (pg_name (i := 4) scFin.nd rfl (.inl rfl)) pgs_nil)))
          (pss_one (ps_expr (pe_call c1.ok hr (by rfl) c1.m c1.kp c1.b .nil pass0 (pa_cons (pv 2) (pa_cons (pv 3) (pa_cons (pe_op op_cat (pv 4) (pe_ix (ix_dw (hu_of hr)) (pv 1) (pe_glob rfl mN (v := .ref aN) rfl) (fun _ _ => rfl))) pa_nil))))))))) pss_nil)
      (pss_cons (ps_set (i := 5) scFin.nd rfl (.inl rfl) (pe_call c2.ok hr (by rfl) c2.m c2.kp c2.b .nil pass0 (pa_cons (pv 0) pa_nil)))
      (pss_cons (ps_lock (ps_for PassesOwn.never rfl (pi_wi (pv 1)) (pg_tup rfl (pgs_cons (pg_name (i := 3) scFin.nd rfl (.inl rfl)) (pgs_cons (pg_name (i := 4) scFin.nd rfl (.inl rfl)) pgs_nil)))
          (pss_one (ps_if (pt_cmpR (op_neW hr.units) (pv 3) (pe_glob rfl mN (v := .ref aN) rfl) (nomark _)) (pss_one (ps_expr (pe_call c1.ok hr (by rfl) c1.m c1.kp c1.b .nil pass0 (pa_cons (pv 2) (pa_cons (pv 3) (pa_cons (pe_op op_cat (pv 5) (pv 4)) pa_nil)))))) pss_nil))))
      (pss_one (ps_ret (pv 2)))))), ?_⟩
    intro df hdf
    have s0 : Same H (upd H df (dwO P w df [])) := same_upd hdf
    have ne : df ≠ d := (ne_of_none hd hdf).symm
    have ne2 : df ≠ r := (ne_of_none hd2 hdf).symm
    have mm : (Way.normal ∈ ents2.map (·.1)) ↔ Way.normal ∈ zs := wd2 _
    have hne : ents ≠ [] := fun e => by
      have := (wd v0).mpr hv0
      rw [e] at this
      exact nomatch this
    refine ⟨_, rfl, _, ⟨r, aN, .normal, ents2, rfl, rfl, .inl (s0 _ _ hd2), (g2'.same s0).keys, hN _, rfl⟩, _, rfl, ite2 (fun hm' => ?_) (fun hm' => ?_)⟩
    · have hm : Way.normal ∈ zs := mm.mp ((entAt_mem ents2 .normal).mp hm')
      obtain ⟨lr, rs, e1, hlr, hrs⟩ := DW.at' g2' (mm.mpr hm)
      refine keep_loop (N := n + m) (entsF := []) some rfl (by decide) (s0 _ _ hd) upd_same ne GoodE.nil ?_ ?hx ⟨none, none, rfl⟩
      · rintro ⟨v, b, x⟩ D2 H2 entsF2 he st h2 g2 k
        obtain ⟨hv, ht, l, ms, el, hl, hlen⟩ := g.2 _ he
        dsimp only at hv ht el k
        subst el
        have ht2 : SqT K H2 b v.vs := st.t _ _ (same_sqT s0 ht)
        have keys : KeysOk K H2 ents2 := fun e he => st.t _ _ (same_sqT s0 ((g2'.2 e he).2.1))
        refine ⟨_, rfl, _, rfl, _, rfl, _, rfl, .ref lr, ⟨r, aN, .normal, ents2, rfl, rfl, st.rd _ _ (s0 _ _ hd2) ne2.symm, keys, hN _, e1⟩, l, lr, ms.map V.int, rs.map V.int, rfl, rfl, st.l _ _ (s0 _ _ hl), st.l _ _ (s0 _ _ hlr), (by rw [List.length_map, List.length_map]; exact small_line (by omega)), fun l3 hl3 => ?_⟩
        dsimp only [tNil]
        exact keep_use rfl (same_upd hl3) h2 g2 hv ht2 (ns := ms ++ rs) (by rw [upd_same, List.map_append]) (by rw [List.length_append]; omega) rfl k
      rintro entsF1 H1 v3 v4 kx1 h1 g1 w1'
      have s1 : Same H H1 := kx1.same s0 hdf
      have w1 : ∀ z, z ∈ entsF1.map (·.1) ↔ Way.normal ∈ zs ∧ z ∈ ws := by
        intro z
        rw [w1']
        simp only [List.map_nil, List.not_mem_nil, or_false, wd]
        constructor
        · rintro ⟨v, a, b⟩
          cases b
          exact ⟨hm, a⟩
        · rintro ⟨_, a⟩
          exact ⟨z, a, rfl⟩
      refine ⟨_, rfl, d, ents, n, rfl, s1 _ _ hd, g.same s1, hne, fun lb bs H2 s2 hlb hbs => ?_⟩
      refine keep_loop (N := n + m) (but .normal) rfl (by decide) (s2 _ _ (s1 _ _ hd2)) (s2 _ _ h1) ne2 (g1.same s2) ?_ ?_ ⟨_, _, rfl⟩
      · rintro ⟨v, b, x⟩ D2 H3 entsF2 he st h2 g2 k
        obtain ⟨hv, ht, l, ms, el, hl, hlen⟩ := g2'.2 _ he
        dsimp only at hv ht el k
        subst el
        have ht2 : SqT K H3 b v.vs := st.t _ _ (same_sqT s2 (same_sqT s1 ht))
        refine ⟨_, rfl, b, aN, v, .normal, rfl, rfl, ht2, hN _, _, rfl, ?_⟩
        by_cases e : v = .normal
        · refine ifF (by simp [e]) ?_
          exact k entsF2 H3 (fun _ _ h _ => h) h2 g2 fun z => by simp [but, e]
        · refine ifT (by simp [e]) ?_
          refine ⟨_, rfl, _, rfl, _, rfl, _, rfl, lb, l, bs.map V.int, ms.map V.int, rfl, rfl, st.l _ _ hlb, st.l _ _ (s2 _ _ (s1 _ _ hl)), (by rw [List.length_map, List.length_map]; exact small_line (by omega)), fun l3 hl3 => ?_⟩
          dsimp only [tNil]
          exact keep_use rfl (same_upd hl3) h2 g2 hv ht2 (ns := bs ++ ms) (by rw [upd_same, List.map_append]) (by rw [List.length_append]; omega) (by simp [but, e]) k
      · rintro entsF2 H3 v3' v4' kx2 h2 g2 w2
        refine ⟨_, rfl, q df H3 (kx2.same (s1.trans s2) hdf) hdf ⟨entsF2, h2, g2, fun z => ?_⟩⟩
        rw [w2, w1]
        simp only [finW, List.mem_append, List.mem_filter, decide_eq_true_eq, but_eq, ← wd2 z]
        constructor
        · rintro (⟨v, a, b, rfl⟩ | ⟨a, b⟩)
          · exact .inr ⟨a, b⟩
          · exact .inl (by rw [if_pos a]; exact b)
        · rintro (a | ⟨a, b⟩)
          · refine .inr ?_
            by_cases hz : Way.normal ∈ zs
            · rw [if_pos hz] at a
              exact ⟨hz, a⟩
            · rw [if_neg hz] at a
              exact absurd a List.not_mem_nil
          · exact .inl ⟨z, a, b, rfl⟩
    · have hm : ¬ Way.normal ∈ zs := fun h => hm' ((entAt_mem ents2 .normal).mpr (mm.mpr h))
      have s1 := s0
      have h1 : (upd H df (dwO P w df [])) df = some (dwO P w df []) := upd_same
      have g1 : GoodE K (upd H df (dwO P w df [])) (n + m) [] := GoodE.nil
      have w1 : ∀ z, z ∈ ([] : List Dent).map (·.1) ↔ Way.normal ∈ zs ∧ z ∈ ws := fun z => by simp [hm]
      refine ⟨_, rfl, d, ents, n, rfl, s1 _ _ hd, g.same s1, hne, fun lb bs H2 s2 hlb hbs => ?_⟩
      refine keep_loop (N := n + m) (but .normal) rfl (by decide) (s2 _ _ (s1 _ _ hd2)) (s2 _ _ h1) ne2 (g1.same s2) ?_ ?_ ⟨_, _, rfl⟩
      · rintro ⟨v, b, x⟩ D2 H3 entsF2 he st h2 g2 k
        obtain ⟨hv, ht, l, ms, el, hl, hlen⟩ := g2'.2 _ he
        dsimp only at hv ht el k
        subst el
        have ht2 : SqT K H3 b v.vs := st.t _ _ (same_sqT s2 (same_sqT s1 ht))
        refine ⟨_, rfl, b, aN, v, .normal, rfl, rfl, ht2, hN _, _, rfl, ?_⟩
        by_cases e : v = .normal
        · refine ifF (by simp [e]) ?_
          exact k entsF2 H3 (fun _ _ h _ => h) h2 g2 fun z => by simp [but, e]
        · refine ifT (by simp [e]) ?_
          refine ⟨_, rfl, _, rfl, _, rfl, _, rfl, lb, l, bs.map V.int, ms.map V.int, rfl, rfl, st.l _ _ hlb, st.l _ _ (s2 _ _ (s1 _ _ hl)), (by rw [List.length_map, List.length_map]; exact small_line (by omega)), fun l3 hl3 => ?_⟩
          dsimp only [tNil]
          exact keep_use rfl (same_upd hl3) h2 g2 hv ht2 (ns := bs ++ ms) (by rw [upd_same, List.map_append]) (by rw [List.length_append]; omega) (by simp [but, e]) k
      · rintro entsF2 H3 v3' v4' kx2 h2 g2 w2
        refine ⟨_, rfl, q df H3 (kx2.same (s1.trans s2) hdf) hdf ⟨entsF2, h2, g2, fun z => ?_⟩⟩
        rw [w2, w1]
        simp only [finW, List.mem_append, List.mem_filter, decide_eq_true_eq, but_eq, ← wd2 z]
        constructor
        · rintro (⟨v, a, b, rfl⟩ | ⟨a, b⟩)
          · exact .inr ⟨a, b⟩
          · exact .inl (by rw [if_pos a]; exact b)
        · rintro (a | ⟨a, b⟩)
          · refine .inr ?_
            by_cases hz : Way.normal ∈ zs
            · rw [if_pos hz] at a
              exact ⟨hz, a⟩
            · rw [if_neg hz] at a
              exact absurd a List.not_mem_nil
          · exact .inl ⟨z, a, b, rfl⟩
end
end L2.K11
set_option Elab.async false
set_option linter.all false
set_option maxRecDepth 100000
set_option maxHeartbeats 1000000
/-! A Code object; its own small methods; shortest_answers, all_ways, ways. -/
namespace L2.K11
open PySem PySem.Spec PyProof.Rows
/-! ### statements in the heap -/
mutual
def IsS (K : PySem.W.Frag) (H : Hp) : T → Addr → Prop
  | .act x, a => SqT K H a [.str "do", .str x]
  | .call x, a => SqT K H a [.str "call", .str x]
  | .brk n, a => SqT K H a [.str "break", .int n]
  | .cnt n, a => SqT K H a [.str "continue", .int n]
  | .ret, a => SqT K H a [.str "return"]
  | .rse, a => SqT K H a [.str "raise"]
  | .ife x p q, a => ∃ b c, SqT K H a [.str "if", .str x, .ref b, .ref c] ∧ IsS K H p b ∧ IsS K H q c
  | .wh x p, a => ∃ b, SqT K H a [.str "while", .str x, .ref b] ∧ IsS K H p b
  | .seq ts, a => ∃ b as, SqT K H a [.str "seq", .ref b] ∧ SqT K H b (as.map V.ref) ∧ IsSs K H ts as
  | .tryy p q, a => ∃ b c, SqT K H a [.str "try", .ref b, .ref c] ∧ IsS K H p b ∧ IsS K H q c
  | .fin p q, a => ∃ b c, SqT K H a [.str "final", .ref b, .ref c] ∧ IsS K H p b ∧ IsS K H q c
def IsSs (K : PySem.W.Frag) (H : Hp) : List T → List Addr → Prop
  | [], as => as = []
  | t :: ts, as => ∃ a r, as = a :: r ∧ IsS K H t a ∧ IsSs K H ts r
end
mutual
theorem IsS.mono {K : PySem.W.Frag} {H H' : Hp} (k : ∀ b xs, SqT K H b xs → SqT K H' b xs) : ∀ (t : T) (a : Addr), IsS K H t a → IsS K H' t a
  | .act x, a, h => k _ _ h
  | .call x, a, h => k _ _ h
  | .brk n, a, h => k _ _ h
  | .cnt n, a, h => k _ _ h
  | .ret, a, h => k _ _ h
  | .rse, a, h => k _ _ h
  | .ife x p q, a, ⟨b, c, h, h1, h2⟩ => ⟨b, c, k _ _ h, IsS.mono k p b h1, IsS.mono k q c h2⟩
  | .wh x p, a, ⟨b, h, h1⟩ => ⟨b, k _ _ h, IsS.mono k p b h1⟩
  | .seq ts, a, ⟨b, as, h, h1, h2⟩ => ⟨b, as, k _ _ h, k _ _ h1, IsSs.mono k ts as h2⟩
  | .tryy p q, a, ⟨b, c, h, h1, h2⟩ => ⟨b, c, k _ _ h, IsS.mono k p b h1, IsS.mono k q c h2⟩
  | .fin p q, a, ⟨b, c, h, h1, h2⟩ => ⟨b, c, k _ _ h, IsS.mono k p b h1, IsS.mono k q c h2⟩
theorem IsSs.mono {K : PySem.W.Frag} {H H' : Hp} (k : ∀ b xs, SqT K H b xs → SqT K H' b xs) : ∀ (ts : List T) (as : List Addr), IsSs K H ts as → IsSs K H' ts as
  | [], as, h => h
  | t :: ts, as, ⟨a, r, e, h1, h2⟩ => ⟨a, r, e, IsS.mono k t a h1, IsSs.mono k ts r h2⟩
end
/-! ### the object -/
theorem n_sk : ¬ ("statements" : Str) = "kinds" := by decide +kernel
theorem n_sl : ¬ ("statements" : Str) = "labels" := by decide +kernel
theorem n_sp : ¬ ("statements" : Str) = "parents" := by decide +kernel
theorem n_sc : ¬ ("statements" : Str) = "children" := by decide +kernel
theorem n_kl : ¬ ("kinds" : Str) = "labels" := by decide +kernel
theorem n_kp : ¬ ("kinds" : Str) = "parents" := by decide +kernel
theorem n_kc : ¬ ("kinds" : Str) = "children" := by decide +kernel
theorem n_lp : ¬ ("labels" : Str) = "parents" := by decide +kernel
theorem n_lc : ¬ ("labels" : Str) = "children" := by decide +kernel
theorem n_pc : ¬ ("parents" : Str) = "children" := by decide +kernel
def cf (ls lk ll lp lc : Addr) : List (Str × V) := putF "children" (.ref lc) (putF "parents" (.ref lp) (putF "labels" (.ref ll) (putF "kinds" (.ref lk) (putF "statements" (.ref ls) []))))
section
variable {ls lk ll lp lc : Addr}
theorem cf_s : (cf ls lk ll lp lc).lookup ("statements" : Str) = some (.ref ls) := by
  unfold cf
  rw [lookup_putF, if_neg n_sc, lookup_putF, if_neg n_sp, lookup_putF, if_neg n_sl, lookup_putF, if_neg n_sk, lookup_putF, if_pos rfl]
theorem cf_k : (cf ls lk ll lp lc).lookup ("kinds" : Str) = some (.ref lk) := by
  unfold cf
  rw [lookup_putF, if_neg n_kc, lookup_putF, if_neg n_kp, lookup_putF, if_neg n_kl, lookup_putF, if_pos rfl]
theorem cf_l : (cf ls lk ll lp lc).lookup ("labels" : Str) = some (.ref ll) := by
  unfold cf
  rw [lookup_putF, if_neg n_lc, lookup_putF, if_neg n_lp, lookup_putF, if_pos rfl]
theorem cf_p : (cf ls lk ll lp lc).lookup ("parents" : Str) = some (.ref lp) := by
  unfold cf
  rw [lookup_putF, if_neg n_pc, lookup_putF, if_pos rfl]
theorem cf_c : (cf ls lk ll lp lc).lookup ("children" : Str) = some (.ref lc) := by
  unfold cf
  rw [lookup_putF, if_pos rfl]
theorem cf_no {m : Str} (h1 : ¬ m = "children") (h2 : ¬ m = "parents") (h3 : ¬ m = "labels") (h4 : ¬ m = "kinds") (h5 : ¬ m = "statements") : (cf ls lk ll lp lc).lookup m = none := by
  unfold cf
  rw [lookup_putF, if_neg h1, lookup_putF, if_neg h2, lookup_putF, if_neg h3, lookup_putF, if_neg h4, lookup_putF, if_neg h5]
  rfl
end
structure CA where
  dx : Addr
  ls : Addr
  lk : Addr
  ll : Addr
  lp : Addr
  lc : Addr
abbrev CA.fs (A : CA) : List (Str × V) := cf A.ls A.lk A.ll A.lp A.lc
structure CodeAt (K : PySem.W.Frag) (C : Addr) (H : Hp) (p : Addr) (A : CA) (nodes : List (T × Addr)) (kids : List (Addr × List Nat)) (prs : List V) : Prop where
  ob : H p = some (.ins C A.dx A.fs)
  st : H A.ls = some (.lst (nodes.map fun q => V.ref q.2))
  kd : H A.lk = some (.lst (nodes.map fun q => V.str q.1.kind))
  lb : H A.ll = some (.lst (nodes.map fun q => q.1.label))
  pr : H A.lp = some (.lst prs)
  ch : H A.lc = some (.lst (kids.map fun q => V.ref q.1))
  kl : kids.length = nodes.length
  kid : ∀ q ∈ kids, H q.1 = some (.lst (q.2.map fun (j : Nat) => V.int j))
  stm : ∀ q ∈ nodes, IsS K H q.1 q.2
theorem CodeAt.same {K : PySem.W.Frag} {C : Addr} {H H' : Hp} {p : Addr} {A : CA} {nodes : List (T × Addr)} {kids : List (Addr × List Nat)} {prs : List V} (c : CodeAt K C H p A nodes kids prs) (s : Same H H') : CodeAt K C H' p A nodes kids prs :=
  ⟨s _ _ c.ob, s _ _ c.st, s _ _ c.kd, s _ _ c.lb, s _ _ c.pr, s _ _ c.ch, c.kl, fun q hq => s _ _ (c.kid q hq), fun q hq => IsS.mono (fun _ _ h => same_sqT s h) _ _ (c.stm q hq)⟩
/-- how the parts lie -/
structure Lay (nodes : List (T × Addr)) (kids : List (Addr × List Nat)) : Prop where
  kid : ∀ (i : Nat) (t : T) (a : Addr) (c : Addr) (js : List Nat), nodes[i]? = some (t, a) → kids[i]? = some (c, js) → t.kids.map some = js.map (fun j => (nodes[j]?).map (·.1)) ∧ ∀ j ∈ js, i < j
  small : nodes.length ≤ 400
  node : ∀ q ∈ nodes, q.1.size ≤ 400 ∧ ∃ k, k ≤ 100 ∧ T.wf k q.1
theorem Lay.ways {nodes : List (T × Addr)} {kids : List (Addr × List Nat)} (L : Lay nodes kids) {q : T × Addr} (h : q ∈ nodes) : ∀ v ∈ q.1.ws, v ∈ allWays := fun v hv => by
  obtain ⟨_, k, hk, f⟩ := L.node q h
  exact mem_allWays hk (T.ws_le _ _ f v hv)
structure TxtC (K : PySem.W.Frag) (mg : Str → Option Value) (C : Addr) : Prop where
  cl : Cls K C
  mgC : mg "Code" = some (.ref C)
  ns : NoAttr K C "statements"
  nk : NoAttr K C "kinds"
  nl : NoAttr K C "labels"
  np : NoAttr K C "parents"
  nc : NoAttr K C "children"
section
variable {P : Program} {w : World} {K : PySem.W.Frag} {mg : Str → Option Value} {base : Heap}
abbrev cS (i : Nat) : Stmt := inClass (topS 36) i
abbrev sLen : Stmt := cS 4
theorem scLen : FnScope ["self"] ["self"] (defScope sLen) := ⟨rfl, rfl, rfl, by decide +kernel, rfl, by decide +kernel, by decide +kernel⟩
def spLen (K : PySem.W.Frag) (C : Addr) : Sp := fun vs H Q _ => ∃ (p : Addr) (A : CA) (nodes : List (T × Addr)) (kids : List (Addr × List Nat)) (prs : List V), vs = [.ref p] ∧ CodeAt K C H p A nodes kids prs ∧ Q (.int (nodes.length : Nat)) H
theorem ok_len {f C : Addr} {fd : FuncData} (F : FnP K "__len__" "Code.__len__" sLen f fd) (Tx : Txt K mg) (TC : TxtC K mg C) : FnOk P w K mg base CX0 1 f fd ["self"] (spLen K C) := by
  refine fok F scLen (fun vs H Q E h => ?_) (fun cdv A outer s H vs Q E hr h => ?_)
  · obtain ⟨p, A, nodes, kids, prs, rfl, _⟩ := h
    rfl
  · obtain ⟨p, A, nodes, kids, prs, rfl, c, q⟩ := h
    refine ⟨_, pss_one (ps_ret (pe_callB call_len_seq (by rfl) Tx.len PySem.boot_len (pa_cons (pe_fld (pv 0) rfl) pa_nil))), ?_⟩
    refine ⟨_, rfl, p, C, A.dx, _, _, rfl, c.ob, TC.cl, TC.nk, cf_k, A.lk, _, rfl, .inl (SqL.of c.kd), ?_⟩
    dsimp only
    rw [List.length_map]
    exact q
end
end L2.K11
set_option Elab.async false
set_option linter.all false
set_option maxRecDepth 100000
set_option maxHeartbeats 1000000
/-! The defs, part G: is_integer, is_between, is_name, is_statement, parts_in. -/
namespace L2.K11
open PySem PySem.Spec PyProof.Rows
theorem tyTup {K : PySem.W.Frag} {H : Hp} {a : Addr} {xs : List V} (h : SqT K H a xs) : TyX K H (.ref a) (.type "tuple") := by
  rcases h with (h | ⟨o, h⟩) | ⟨o, its, n, h, c, _⟩
  · exact .base (.tup h)
  · exact .fTuple h
  · exact .kTuple h c
def sizes : List (Str × Int) := [("do", 2), ("call", 2), ("if", 4), ("while", 3), ("seq", 2), ("break", 2), ("continue", 2), ("return", 1), ("raise", 1), ("try", 3), ("final", 3)]
structure TxtS (K : PySem.W.Frag) (w : World) (mg : Str → Option Value) : Prop where
  named : ∃ a, mg "NAMED" = some (.ref a) ∧ ∀ H, SqT K H a [.str "do", .str "call", .str "if", .str "while"]
  jumps : ∃ a, mg "JUMPS" = some (.ref a) ∧ ∀ H, SqT K H a [.str "break", .str "continue"]
  sizes : ∃ d es n, mg "SIZES" = some (.ref d) ∧ KDict K w d es n ∧ ∀ q ∈ sizes, ∃ u, PySem.W.nsIn K d q.1 = some (some u) ∧ RelV (.int q.2) u
  mStat : ∃ t, mg "MOST_STATEMENTS" = some (.int 400 t)
  mDeep : ∃ t, mg "MOST_DEEP" = some (.int 100 t)
  mBlk : ∃ t, mg "MOST_BLOCKS" = some (.int 25 t)
  mLet : ∃ t, mg "MOST_LETTERS" = some (.int 8 t)
  letters : ∃ t, mg "LETTERS" = some (.str letters t)
theorem lc_its {x : Str} {g : TG} {tt : TT} {te : TE} {vs : List Nat} {σ : St} {H1 : Hp} {D : Addr} {Qd : Hp → Prop} (Pv : Nat → Hp → Prop) (h0 : Pv 0 (upd H1 D (.lst [])))
    (hs : ∀ i c H, x.cps[i]? = some c → Pv i H → g (.str ⟨#[c]⟩) (wipe σ vs) H fun σ2 H2 => wipe σ2 vs = wipe σ vs ∧ tt σ2 H2 fun b H3 =>
      if b = true then te σ2 H3 fun y H4 => ∃ acc, H4 D = some (.lst acc) ∧ acc.length < sizeLine ∧ Pv (i + 1) (upd H4 D (.lst (acc ++ [y]))) else Pv (i + 1) H3) (hd : ∀ H, Pv x.cps.size H → Qd H) :
    ∃ W : Nat → Nat → Hp → Prop, (∃ m, W 0 m (upd H1 D (.lst []))) ∧ ∀ i m H, W i m H →
      ((Its x).stop i H ∧ Qd H) ∨ ((Its x).go i H ∧ ∃ Nx : Hp → Prop, (∀ H', Nx H' → ∃ m', m' < m ∧ W (i + 1) m' H') ∧ ∀ y H', (Its x).yld i H y H' → g y (wipe σ vs) H' fun σ2 H2 => wipe σ2 vs = wipe σ vs ∧ tt σ2 H2 fun b H3 =>
        if b = true then te σ2 H3 fun y H4 => ∃ acc, H4 D = some (.lst acc) ∧ acc.length < sizeLine ∧ Nx (upd H4 D (.lst (acc ++ [y]))) else Nx H3) := by
  refine ⟨fun i m H => m = x.cps.size - i ∧ i ≤ x.cps.size ∧ Pv i H, ⟨x.cps.size, by simp, Nat.zero_le _, h0⟩, ?_⟩
  rintro i m H ⟨rfl, hi, p⟩
  by_cases hlt : i < x.cps.size
  · refine .inr ⟨hlt, Pv (i + 1), fun H' p' => ⟨x.cps.size - (i + 1), by omega, rfl, hlt, p'⟩, fun y H' hy => ?_⟩
    obtain ⟨rfl, c, hc, rfl⟩ := hy
    exact hs i c H' hc p
  · have e : i = x.cps.size := by omega
    subst e
    exact .inl ⟨Nat.le_refl _, hd H p⟩
section
variable {P : Program} {w : World} {K : PySem.W.Frag} {mg : Str → Option Value} {base : Heap}
abbrev sInt : Stmt := topS 7
theorem scInt : FnScope ["value"] ["value"] (defScope sInt) := ⟨rfl, rfl, rfl, by decide +kernel, rfl, by decide +kernel, by decide +kernel⟩
def spInt : Sp := fun vs H Q _ => ∃ (i : Int), vs = [.int i] ∧ Q (.bl true) H
theorem ok_int {f : Addr} {fd : FuncData} (F : FnP K "is_integer" "is_integer" sInt f fd) (Tx : Txt K mg) : FnOk P w K mg base CX0 1 f fd ["value"] spInt := by
  refine fok F scInt (fun vs H Q E h => ?_) (fun cdv A outer s H vs Q E hr h => ?_)
  · obtain ⟨i, rfl, _⟩ := h
    rfl
  · obtain ⟨i, rfl, q⟩ := h
    refine ⟨_, pss_one (ps_ret (pe_and (pe_callB call_isi (by rfl) Tx.isinstance (by decide +kernel) (pa_cons (pv 0) (pa_cons (pe_bltn (v := .ty "int") (by rfl) Tx.int (by decide +kernel) rfl) pa_nil)))
      (pe_one (pe_not (pe_callB call_isi (by rfl) Tx.isinstance (by decide +kernel) (pa_cons (pv 0) (pa_cons (pe_bltn (v := .ty "bool") (by rfl) Tx.bool (by decide +kernel) rfl) pa_nil))))))), ?_⟩
    exact ⟨_, rfl, .int i, .ty "int", _, _, true, rfl, .ty "int", .base (.int i), kit_ty (by decide +kernel), true, rfl, ifT rfl ⟨_, rfl, .int i, .ty "bool", _, _, false, rfl, .ty "bool", .base (.int i), kit_ty (by decide +kernel), false, rfl, q⟩⟩
abbrev sBet : Stmt := topS 8
theorem scBet : FnScope ["value", "low", "high"] ["value", "low", "high"] (defScope sBet) := ⟨rfl, rfl, rfl, by decide +kernel, rfl, by decide +kernel, by decide +kernel⟩
def spBet : Sp := fun vs H Q _ => ∃ (i lo hi : Int), vs = [.int i, .int lo, .int hi] ∧ lo ≤ i ∧ i ≤ hi ∧ Q (.bl true) H
theorem ok_bet {f f1 : Addr} {fd fd1 : FuncData} (F : FnP K "is_between" "is_between" sBet f fd) (c1 : Cal P w K mg base 1 "is_integer" ["value"] spInt f1 fd1) : FnOk P w K mg base CX0 2 f fd ["value", "low", "high"] spBet := by
  refine fok F scBet (fun vs H Q E h => ?_) (fun cdv A outer s H vs Q E hr h => ?_)
  · obtain ⟨i, lo, hi, rfl, _⟩ := h
    rfl
  · obtain ⟨i, lo, hi, rfl, h1, h2, q⟩ := h
    refine ⟨_, pss_one (ps_ret (pe_and (pe_call c1.ok hr (by rfl) c1.m c1.kp c1.b .nil pass0 (pa_cons (pv 0) pa_nil)) (pe_one (pe_chain op_le op_le (pv 1) (pv 0) (pv 2))))), ?_⟩
    refine ⟨_, rfl, i, rfl, true, rfl, ifT rfl ⟨_, rfl, _, rfl, lo, i, rfl, rfl, _, rfl, ifT (decide_eq_true h1) ⟨_, rfl, i, hi, rfl, rfl, ?_⟩⟩⟩
    dsimp only
    rw [decide_eq_true h2]
    exact q
abbrev sName : Stmt := topS 33
theorem scName : FnScope ["value", "sign"] ["value"] (defScope sName) := ⟨rfl, rfl, rfl, by decide +kernel, rfl, by decide +kernel, by decide +kernel⟩
def spName : Sp := fun vs H Q _ => ∃ (x : Str), vs = [.str x] ∧ nameOk x ∧ ∀ H', Same H H' → Q (.bl true) H'
theorem ok_name {f : Addr} {fd : FuncData} (F : FnP K "is_name" "is_name" sName f fd) (Tx : Txt K mg) (TS : TxtS K w mg) : FnOk P w K mg base CX0 1 f fd ["value"] spName := by
  refine fok F scName (fun vs H Q E h => ?_) (fun cdv A outer s H vs Q E hr h => ?_)
  · obtain ⟨i, rfl, _⟩ := h
    rfl
  · obtain ⟨x, rfl, ⟨x1, x2, x3⟩, q⟩ := h
    obtain ⟨t8, m8⟩ := TS.mLet
    obtain ⟨tL, mL⟩ := TS.letters
    refine ⟨_, pss_one (ps_ret (pe_and (pe_callB call_isi (by rfl) Tx.isinstance (by decide +kernel) (pa_cons (pv 0) (pa_cons (pe_bltn (v := .ty "str") (by rfl) Tx.str (by decide +kernel) rfl) pa_nil)))
      (pe_and (pe_chain op_le op_le pe_int (pe_callB call_len_str (by rfl) Tx.len PySem.boot_len (pa_cons (pv 0) pa_nil)) (pe_glob (v := .int 8) rfl m8 ⟨_, rfl⟩))
      (pe_one (pe_callB (cr_all rfl) (by rfl) Tx.all (by decide +kernel) (pa_cons (pe_lc (own := [("sign", 1)]) (g := gName 1) (tt := tYes) rfl scName.nd (pi_str (pv 0)) (blkOk_by (N := ["value", "sign"]) (sc := defScope sName) (by decide +kernel)) (fun _ _ _ _ _ => pg_name (i := 1) scName.nd rfl (Or.inl rfl)) (fun _ _ _ _ _ => pts_nil)
        (fun _ _ _ _ _ => pe_cmpR op_in_sign (pv 1) (pe_glob (v := .str letters) rfl mL ⟨_, rfl⟩) (by rfl))) pa_nil)))))), ?_⟩
    refine ⟨_, rfl, .str x, .ty "str", _, _, true, rfl, .ty "str", .base (.str x), kit_ty (by decide +kernel), true, rfl, ifT rfl ?_⟩
    refine ⟨_, rfl, x, rfl, small_line (by omega), 1, _, rfl, rfl, _, rfl, ifT (decide_eq_true (by omega)) ⟨_, _, rfl, rfl, _, rfl, ifT (decide_eq_true (by omega)) ?_⟩⟩
    refine ⟨_, rfl, x, rfl, fun D hD => lc_its (x := x) (fun i H1 => Same H H1 ∧ H1 D = some (.lst ((List.replicate i true).map V.bl))) ⟨same_upd hD, upd_same⟩ ?_ ?_⟩
    · rintro i c H1 hc ⟨s1, h1⟩
      refine ⟨rfl, _, rfl, c, letters, rfl, rfl, _, h1, small_lt (by rw [List.length_map, List.length_replicate]; have := (Array.getElem?_eq_some_iff.mp hc).1; have e : x.cps.size = x.length := rfl; omega), fun b o e => ?_, ?_⟩
      · rw [upd_ne (ne_of_none e hD)]
        exact s1 b o e
      · rw [upd_same, decide_eq_true (x3 c (by rw [← Array.getElem?_toList] at hc; exact List.mem_of_getElem? hc)), List.replicate_succ', List.map_append]
        rfl
    · rintro H1 ⟨s1, h1⟩
      refine ⟨D, _, rfl, SqL.of h1, ?_⟩
      have e : (List.replicate x.cps.size true).all id = true := List.all_eq_true.mpr fun b hb => (List.mem_replicate.mp hb).2
      dsimp only
      rw [e]
      exact q _ s1
end
end L2.K11
set_option Elab.async false
set_option linter.all false
set_option maxRecDepth 100000
set_option maxHeartbeats 1000000
/-! The defs, part H: is_statement, parts_in. -/
namespace L2.K11
open PySem PySem.Spec PyProof.Rows
/-- which kinds are named, which are jumps -/
def T.isNamed : T → Bool
  | .act _ | .call _ | .ife _ _ _ | .wh _ _ => true
  | _ => false
def T.isJump : T → Bool
  | .brk _ | .cnt _ => true
  | _ => false
theorem IsS.head {K : PySem.W.Frag} {H : Hp} {t : T} {a : Addr} (h : IsS K H t a) : ∃ xs, SqT K H a (.str t.kind :: xs) ∧ (t.kind, ((xs.length + 1 : Nat) : Int)) ∈ sizes ∧
    (t.isNamed = true → ∃ x r, xs = .str x :: r ∧ t.label = .str x ∧ ∀ k, T.wf k t → nameOk x) ∧ (t.isJump = true → ∃ n : Int, xs = [.int n] ∧ t.label = .int n ∧ ∀ k : Nat, T.wf k t → 1 ≤ n ∧ n ≤ (k : Int)) ∧
    (∀ ts, t = .seq ts → ∃ b as, xs = [.ref b] ∧ SqT K H b (as.map V.ref) ∧ IsSs K H ts as) := by
  cases t with
  | act x => exact ⟨_, h, by simp [sizes, T.kind], fun _ => ⟨x, [], rfl, rfl, fun _ f => f⟩, (fun z => nomatch z), fun _ z => nomatch z⟩
  | call x => exact ⟨_, h, by simp [sizes, T.kind], fun _ => ⟨x, [], rfl, rfl, fun _ f => f⟩, (fun z => nomatch z), fun _ z => nomatch z⟩
  | brk n => exact ⟨_, h, by simp [sizes, T.kind], (fun z => nomatch z), fun _ => ⟨n, rfl, rfl, fun _ f => f⟩, fun _ z => nomatch z⟩
  | cnt n => exact ⟨_, h, by simp [sizes, T.kind], (fun z => nomatch z), fun _ => ⟨n, rfl, rfl, fun _ f => f⟩, fun _ z => nomatch z⟩
  | ret => exact ⟨_, h, by simp [sizes, T.kind], (fun z => nomatch z), (fun z => nomatch z), fun _ z => nomatch z⟩
  | rse => exact ⟨_, h, by simp [sizes, T.kind], (fun z => nomatch z), (fun z => nomatch z), fun _ z => nomatch z⟩
  | ife x p q => obtain ⟨b, c, h, _⟩ := h; exact ⟨_, h, by simp [sizes, T.kind], fun _ => ⟨x, _, rfl, rfl, fun _ f => f.1⟩, (fun z => nomatch z), fun _ z => nomatch z⟩
  | wh x p => obtain ⟨b, h, _⟩ := h; exact ⟨_, h, by simp [sizes, T.kind], fun _ => ⟨x, _, rfl, rfl, fun _ f => f.1⟩, (fun z => nomatch z), fun _ z => nomatch z⟩
  | seq ts => obtain ⟨b, as, h, h1, h2⟩ := h; exact ⟨_, h, by simp [sizes, T.kind], (fun z => nomatch z), (fun z => nomatch z), fun ts' e => by cases e; exact ⟨b, as, rfl, h1, h2⟩⟩
  | tryy p q => obtain ⟨b, c, h, _⟩ := h; exact ⟨_, h, by simp [sizes, T.kind], (fun z => nomatch z), (fun z => nomatch z), fun _ z => nomatch z⟩
  | fin p q => obtain ⟨b, c, h, _⟩ := h; exact ⟨_, h, by simp [sizes, T.kind], (fun z => nomatch z), (fun z => nomatch z), fun _ z => nomatch z⟩
theorem IsSs.len {K : PySem.W.Frag} {H : Hp} : ∀ {ts : List T} {as : List Addr}, IsSs K H ts as → as.length = ts.length
  | [], as, h => by rw [show as = [] from h]; rfl
  | t :: ts, as, ⟨a, r, e, h1, h2⟩ => by rw [e, List.length_cons, List.length_cons, IsSs.len h2]
def inL (z : Str) (zs : List Str) : Bool := inV (.str z) (zs.map V.str)
theorem named_in (t : T) : inV (.str t.kind) [.str "do", .str "call", .str "if", .str "while"] = t.isNamed := by
  cases t <;> first | exact (by decide +kernel : inV (.str "do") [.str "do", .str "call", .str "if", .str "while"] = true) | exact (by decide +kernel : inV (.str "call") [.str "do", .str "call", .str "if", .str "while"] = true) | exact (by decide +kernel : inV (.str "if") [.str "do", .str "call", .str "if", .str "while"] = true) | exact (by decide +kernel : inV (.str "while") [.str "do", .str "call", .str "if", .str "while"] = true) | exact (by decide +kernel : inV (.str "break") [.str "do", .str "call", .str "if", .str "while"] = false) | exact (by decide +kernel : inV (.str "continue") [.str "do", .str "call", .str "if", .str "while"] = false) | exact (by decide +kernel : inV (.str "return") [.str "do", .str "call", .str "if", .str "while"] = false) | exact (by decide +kernel : inV (.str "raise") [.str "do", .str "call", .str "if", .str "while"] = false) | exact (by decide +kernel : inV (.str "seq") [.str "do", .str "call", .str "if", .str "while"] = false) | exact (by decide +kernel : inV (.str "try") [.str "do", .str "call", .str "if", .str "while"] = false) | exact (by decide +kernel : inV (.str "final") [.str "do", .str "call", .str "if", .str "while"] = false)
theorem jump_in (t : T) : inV (.str t.kind) [.str "break", .str "continue"] = t.isJump := by
  cases t <;> first | exact (by decide +kernel : inV (.str "do") [.str "break", .str "continue"] = false) | exact (by decide +kernel : inV (.str "call") [.str "break", .str "continue"] = false) | exact (by decide +kernel : inV (.str "if") [.str "break", .str "continue"] = false) | exact (by decide +kernel : inV (.str "while") [.str "break", .str "continue"] = false) | exact (by decide +kernel : inV (.str "break") [.str "break", .str "continue"] = true) | exact (by decide +kernel : inV (.str "continue") [.str "break", .str "continue"] = true) | exact (by decide +kernel : inV (.str "return") [.str "break", .str "continue"] = false) | exact (by decide +kernel : inV (.str "raise") [.str "break", .str "continue"] = false) | exact (by decide +kernel : inV (.str "seq") [.str "break", .str "continue"] = false) | exact (by decide +kernel : inV (.str "try") [.str "break", .str "continue"] = false) | exact (by decide +kernel : inV (.str "final") [.str "break", .str "continue"] = false)
theorem kind_flat (t : T) : flatV (.str t.kind) = true := rfl
theorem k_seq {t : T} (h : t.kind = "seq") : ∃ ts, t = .seq ts := by
  cases t with
  | seq ts => exact ⟨ts, rfl⟩
  | act x => exact absurd h (by show ¬ ("do" : Str) = "seq"; decide +kernel)
  | call x => exact absurd h (by show ¬ ("call" : Str) = "seq"; decide +kernel)
  | brk x => exact absurd h (by show ¬ ("break" : Str) = "seq"; decide +kernel)
  | cnt x => exact absurd h (by show ¬ ("continue" : Str) = "seq"; decide +kernel)
  | ret => exact absurd h (by show ¬ ("return" : Str) = "seq"; decide +kernel)
  | rse => exact absurd h (by show ¬ ("raise" : Str) = "seq"; decide +kernel)
  | ife x p q => exact absurd h (by show ¬ ("if" : Str) = "seq"; decide +kernel)
  | wh x p => exact absurd h (by show ¬ ("while" : Str) = "seq"; decide +kernel)
  | tryy p q => exact absurd h (by show ¬ ("try" : Str) = "seq"; decide +kernel)
  | fin p q => exact absurd h (by show ¬ ("final" : Str) = "seq"; decide +kernel)
section
variable {P : Program} {w : World} {K : PySem.W.Frag} {mg : Str → Option Value} {base : Heap}
abbrev sStm : Stmt := topS 34
theorem scStm : FnScope ["value", "loops"] ["value", "loops"] (defScope sStm) := ⟨rfl, rfl, rfl, by decide +kernel, rfl, by decide +kernel, by decide +kernel⟩
def spStm (K : PySem.W.Frag) : Sp := fun vs H Q _ => ∃ (a : Addr) (t : T) (k : Nat), vs = [.ref a, .int (k : Nat)] ∧ IsS K H t a ∧ T.wf k t ∧ ∀ H', Same H H' → Q (.bl true) H'
theorem ok_stm {f f1 f2 : Addr} {fd fd1 fd2 : FuncData} (F : FnP K "is_statement" "is_statement" sStm f fd) (Tx : Txt K mg) (TS : TxtS K w mg) (c1 : Cal P w K mg base 1 "is_name" ["value"] spName f1 fd1) (c2 : Cal P w K mg base 2 "is_between" ["value", "low", "high"] spBet f2 fd2) :
    FnOk P w K mg base CX0 3 f fd ["value", "loops"] (spStm K) := by
  refine fok F scStm (fun vs H Q E h => ?_) (fun cdv A outer s H vs Q E hr h => ?_)
  · obtain ⟨a, t, k, rfl, _⟩ := h
    rfl
  · obtain ⟨a, t, k, rfl, ht, wf, q⟩ := h
    obtain ⟨aN, mN, hN⟩ := TS.named
    obtain ⟨aJ, mJ, hJ⟩ := TS.jumps
    obtain ⟨aS, es, n, mS, D, hS⟩ := TS.sizes
    have hr1 := hr.mono (show 1 ≤ 2 by decide)
    refine ⟨_, (pss_cons (ps_if (PW.pt (pw_or (pt_not (pt_val (pe_callB call_isi (by rfl) Tx.isinstance (by decide +kernel) (pa_cons (pv 0) (pa_cons (pe_bltn (v := .ty "tuple") (by rfl) Tx.tuple (by decide +kernel) rfl) pa_nil))))) (pw_or (pt_cmpR (op_eqT0 hr.units0) (pv 0) (pe_tup pa_nil) (nomark _)) (pw_or1 (pt_not (pt_val (pe_callB call_isi (by rfl) Tx.isinstance (by decide +kernel) (pa_cons (pe_ix ix_tup (pv 0) pe_int (fun _ _ => rfl)) (pa_cons (pe_bltn (v := .ty "str") (by rfl) Tx.str (by decide +kernel) rfl) pa_nil)))))))))
 (pss_one (ps_ret pe_bl))
 pss_nil)
 (pss_cons (ps_if (PW.pt (pw_or (pt_cmpR (op_notIn_kd D) (pe_ix ix_tup (pv 0) pe_int (fun _ _ => rfl)) (pe_glob (v := .ref aS) (by rfl) mS rfl) (by rfl)) (pw_or1 (pt_cmpR op_ne (pe_callB call_len_seq (by rfl) Tx.len PySem.boot_len (pa_cons (pv 0) pa_nil)) (pe_ix ix_kdict (pe_glob (v := .ref aS) (by rfl) mS rfl) (pe_ix ix_tup (pv 0) pe_int (fun _ _ => rfl)) (fun _ _ => rfl)) (nomark _)))))
 (pss_one (ps_ret pe_bl))
 pss_nil)
 (pss_cons (ps_if (pt_cmpR op_in_seq (pe_ix ix_tup (pv 0) pe_int (fun _ _ => rfl)) (pe_glob (v := .ref aN) (by rfl) mN rfl) (by rfl))
 (pss_one (ps_ret (pe_call c1.ok hr1 (by rfl) c1.m c1.kp c1.b .nil pass0 (pa_cons (pe_ix ix_tup (pv 0) pe_int (fun _ _ => rfl)) pa_nil))))
 pss_nil)
 (pss_cons (ps_if (pt_cmpR op_in_seq (pe_ix ix_tup (pv 0) pe_int (fun _ _ => rfl)) (pe_glob (v := .ref aJ) (by rfl) mJ rfl) (by rfl))
 (pss_one (ps_ret (pe_call c2.ok hr (by rfl) c2.m c2.kp c2.b .nil pass0 (pa_cons (pe_ix ix_tup (pv 0) pe_int (fun _ _ => rfl)) (pa_cons pe_int (pa_cons (pv 1) pa_nil))))))
 pss_nil)
 (pss_one (ps_ret (pe_or (pe_cmpR op_ne (pe_ix ix_tup (pv 0) pe_int (fun _ _ => rfl)) pe_str (nomark _)) (pe_one (pe_and (pe_callB call_isi (by rfl) Tx.isinstance (by decide +kernel) (pa_cons (pe_ix ix_tup (pv 0) pe_int (fun _ _ => rfl)) (pa_cons (pe_bltn (v := .ty "tuple") (by rfl) Tx.tuple (by decide +kernel) rfl) pa_nil))) (pe_one (pe_cmpR (op_neT0 hr.units0) (pe_ix ix_tup (pv 0) pe_int (fun _ _ => rfl)) (pe_tup pa_nil) (nomark _)))))))))))), ?_⟩
    obtain ⟨xs, hx, hsz, hnm, hjp, hsq⟩ := ht.head
    obtain ⟨u, hu, ru⟩ := hS _ hsz
    -- the first test
    refine ⟨_, rfl, .ref a, .ty "tuple", _, _, true, rfl, .ty "tuple", tyTup hx, kit_ty (by decide +kernel), _, rfl, ?_⟩
    refine ⟨_, rfl, (by decide), fun e0 he0 => ⟨a, e0, _, rfl, rfl, same_sqT (same_upd he0) hx, SqT.of upd_same, _, rfl, ?_⟩⟩
    have s0 : Same H (upd H e0 (.tup [])) := same_upd he0
    have hx0 := same_sqT s0 hx
    refine ⟨_, rfl, a, _, 0, .str t.kind, rfl, rfl, hx0, atI_nat (j := 0) rfl, .str t.kind, .ty "str", _, _, true, rfl, .ty "str", .base (.str _), kit_ty (by decide +kernel), _, rfl, ?_⟩
    -- the second
    refine ⟨_, rfl, a, _, 0, .str t.kind, rfl, rfl, hx0, atI_nat (j := 0) rfl, t.kind, some u, rfl, rfl, hu, _, rfl, ?_⟩
    refine ⟨_, rfl, a, _, rfl, .inr hx0, _, rfl, a, _, 0, .str t.kind, rfl, rfl, hx0, atI_nat (j := 0) rfl, aS, t.kind, .int ((xs.length + 1 : Nat) : Int), rfl, rfl, ⟨es, n, u, D.at_, D.lit, hu, ru⟩, rfl, _, rfl, ifF (by simp) ?_⟩
    -- the third
    refine ⟨_, rfl, a, _, 0, .str t.kind, rfl, rfl, hx0, atI_nat (j := 0) rfl, aN, _, rfl, .inr (hN _), rfl, rfl, _, rfl, ?_⟩
    cases hn : t.isNamed with
    | true =>
      refine ifT ((named_in t).trans hn) ?_
      obtain ⟨x, r, rfl, _, hx2⟩ := hnm hn
      exact ⟨_, rfl, a, _, 1, .str x, rfl, rfl, hx0, atI_nat (j := 1) rfl, x, rfl, hx2 k wf, fun H' s' => q H' (s0.trans s')⟩
    | false =>
      refine ifF (fun e => Bool.false_ne_true ((hn.symm.trans (named_in t).symm).trans e)) ?_
      refine ⟨_, rfl, a, _, 0, .str t.kind, rfl, rfl, hx0, atI_nat (j := 0) rfl, aJ, _, rfl, .inr (hJ _), rfl, rfl, _, rfl, ?_⟩
      cases hj : t.isJump with
      | true =>
        refine ifT ((jump_in t).trans hj) ?_
        obtain ⟨n, rfl, _, hn2⟩ := hjp hj
        exact ⟨_, rfl, a, _, 1, .int n, rfl, rfl, hx0, atI_nat (j := 1) rfl, _, rfl, n, 1, (k : Nat), rfl, (hn2 k wf).1, (hn2 k wf).2, q _ s0⟩
      | false =>
        refine ifF (fun e => Bool.false_ne_true ((hj.symm.trans (jump_in t).symm).trans e)) ?_
        refine ⟨_, rfl, a, _, 0, .str t.kind, rfl, rfl, hx0, atI_nat (j := 0) rfl, rfl, _, rfl, ?_⟩
        by_cases hk : t.kind = "seq"
        · obtain ⟨ts, rfl⟩ := k_seq hk
          obtain ⟨b, as, rfl, hb, hs⟩ := hsq ts rfl
          refine ifF (by simp [hk]) ?_
          have hb0 := same_sqT s0 hb
          refine ⟨_, rfl, a, _, 1, .ref b, rfl, rfl, hx0, atI_nat (j := 1) rfl, .ref b, .ty "tuple", _, _, true, rfl, .ty "tuple", tyTup hb0, kit_ty (by decide +kernel), true, rfl, ifT rfl ?_⟩
          refine ⟨_, rfl, a, _, 1, .ref b, rfl, rfl, hx0, atI_nat (j := 1) rfl, (by decide), fun e1 he1 => ⟨b, e1, _, rfl, rfl, same_sqT (same_upd he1) hb0, SqT.of upd_same, ?_⟩⟩
          have hl := hs.len
          have hne : ts ≠ [] := wf.1
          cases as with
          | nil => exact absurd (List.length_eq_zero_iff.mp hl.symm) hne
          | cons a0 as => exact q _ (s0.trans (same_upd he1))
        · refine ifT (by simp [hk]) ?_
          exact q _ s0
end
end L2.K11
set_option Elab.async false
set_option linter.all false
set_option maxRecDepth 100000
set_option maxHeartbeats 1000000
/-! The defs, part I: parts_in. -/
namespace L2.K11
open PySem PySem.Spec PyProof.Rows
section
variable {P : Program} {w : World} {K : PySem.W.Frag} {mg : Str → Option Value} {base : Heap}
abbrev sParts : Stmt := topS 35
theorem scParts : FnScope ["statement"] ["statement"] (defScope sParts) := ⟨rfl, rfl, rfl, by decide +kernel, rfl, by decide +kernel, by decide +kernel⟩
def spParts (K : PySem.W.Frag) : Sp := fun vs H Q _ => ∃ (a : Addr) (t : T), vs = [.ref a] ∧ IsS K H t a ∧ t.size ≤ 400 ∧ ∀ l as H', Same H H' → H l = none → H' l = some (.lst (as.map V.ref)) → IsSs K H' t.kids as → Q (.ref l) H'
theorem IsSs.same {H H' : Hp} {ts : List T} {as : List Addr} (h : IsSs K H ts as) (s : Same H H') : IsSs K H' ts as := IsSs.mono (fun _ _ h => same_sqT s h) ts as h
theorem cut2 (x y z : V) : cutV [x, y, z] (some 2) none = [z] := rfl
theorem ok_parts {f : Addr} {fd : FuncData} (F : FnP K "parts_in" "parts_in" sParts f fd) (Tx : Txt K mg) (TS : TxtS K w mg) : FnOk P w K mg base CX0 1 f fd ["statement"] (spParts K) := by
  refine fok F scParts (fun vs H Q E h => ?_) (fun cdv A outer s H vs Q E hr h => ?_)
  · obtain ⟨a, t, rfl, _⟩ := h
    rfl
  · obtain ⟨a, t, rfl, ht, hz, q⟩ := h
    obtain ⟨aN, mN, hN⟩ := TS.named
    obtain ⟨t4, m4⟩ := TS.mStat
    refine ⟨_, (pss_cons (ps_if (pt_cmpR op_eq (pe_ix ix_tup (pv 0) pe_int (fun _ _ => rfl)) pe_str (nomark _))
 (pss_one (ps_ret (pe_callTy call_list_of (by rfl) Tx.list (by decide +kernel) (pa_cons (pe_slice sl_tupA (pe_ix ix_tup (pv 0) pe_int (fun _ _ => rfl)) po_none (po_some (pe_op op_add (pe_glob (v := .int 400) (by rfl) m4 ⟨_, rfl⟩) pe_int))) pa_nil))))
 pss_nil)
 (pss_cons (ps_if (pt_cmpR op_in_seq (pe_ix ix_tup (pv 0) pe_int (fun _ _ => rfl)) (pe_glob (v := .ref aN) (by rfl) mN rfl) (by rfl))
 (pss_one (ps_ret (pe_callTy call_list_of (by rfl) Tx.list (by decide +kernel) (pa_cons (pe_slice sl_tupA (pv 0) (po_some pe_int) po_none) pa_nil))))
 pss_nil)
 (pss_one (ps_ret (pe_ifExp (pt_cmpR op_in_seq (pe_ix ix_tup (pv 0) pe_int (fun _ _ => rfl)) (pe_tup (pa_cons pe_str (pa_cons pe_str pa_nil))) (by rfl)) (pe_callTy call_list_of (by rfl) Tx.list (by decide +kernel) (pa_cons (pe_slice sl_tupA (pv 0) (po_some pe_int) po_none) pa_nil)) (pe_lst pa_nil)))))), ?_⟩
    obtain ⟨xs, hx, hsz, hnm, hjp, hsq⟩ := ht.head
    refine ⟨_, rfl, a, _, 0, .str t.kind, rfl, rfl, hx, atI_nat (j := 0) rfl, rfl, _, rfl, ?_⟩
    -- one list of what is cut off
    have cut : ∀ (H1 : Hp) (b : Addr) (as : List Addr), Same H H1 → SqT K H1 b (as.map V.ref) → IsSs K H1 t.kids as → ∀ l, H1 l = none → Q (.ref l) (upd H1 l (.lst (as.map V.ref))) := fun H1 b as s1 hb hs l hl =>
      q l as _ (s1.trans (same_upd hl)) (s1.free hl) upd_same (hs.same (same_upd hl))
    by_cases hk : t.kind = "seq"
    · obtain ⟨ts, rfl⟩ := k_seq hk
      obtain ⟨b, as, rfl, hb, hs⟩ := hsq ts rfl
      refine ifT (by simp [hk]) ?_
      have hl := hs.len
      have hlen : ts.length ≤ 400 := by
        have e := T.size_kids (.seq ts)
        have : ∀ l : List T, l.length ≤ (l.map T.size).sum := fun l => by
          induction l with
          | nil => exact Nat.le_refl _
          | cons t l ih => rw [List.map_cons, List.sum_cons, List.length_cons]; have := T.size_pos t; omega
        have := this ts
        simp only [T.kids] at e
        omega
      refine ⟨_, rfl, a, _, 1, .ref b, rfl, rfl, hx, atI_nat (j := 1) rfl, 400, 1, rfl, rfl, 401, rfl, b, as.map V.ref, rfl, hb, fun _ => ⟨b, _, rfl, .inr hb, cut H b as (Same.refl _) hb hs⟩, fun h => absurd ⟨HT.sIx_none _ _, ?_⟩ h⟩
      rw [show HT.sIx (as.map V.ref).length (as.map V.ref).length (some 401) = min 401 (as.map V.ref).length from HT.sIx_nat _ _ 401, List.length_map]
      omega
    · refine ifF (by simp [hk]) ?_
      refine ⟨_, rfl, a, _, 0, .str t.kind, rfl, rfl, hx, atI_nat (j := 0) rfl, aN, _, rfl, .inr (hN _), rfl, rfl, _, rfl, ?_⟩
      cases t with
      | seq ts => exact absurd rfl hk
      | act x =>
        refine ifT ((named_in (.act x)).trans rfl) ?_
        refine ⟨_, rfl, 2, rfl, a, _, rfl, (show SqT K H a _ from ht), fun h => absurd h.1 (by show ¬ (2 = 0); decide), fun _ p hp => ?_⟩
        exact ⟨p, ([] : List Addr).map V.ref, rfl, .inr (SqT.of upd_same), cut _ p ([] : List Addr) (same_upd hp) (SqT.of upd_same) rfl⟩
      | call x =>
        refine ifT ((named_in (.call x)).trans rfl) ?_
        refine ⟨_, rfl, 2, rfl, a, _, rfl, (show SqT K H a _ from ht), fun h => absurd h.1 (by show ¬ (2 = 0); decide), fun _ p hp => ?_⟩
        exact ⟨p, ([] : List Addr).map V.ref, rfl, .inr (SqT.of upd_same), cut _ p ([] : List Addr) (same_upd hp) (SqT.of upd_same) rfl⟩
      | ife x u v =>
        obtain ⟨b, c, h, h1, h2⟩ := ht
        refine ifT ((named_in (.ife x u v)).trans rfl) ?_
        refine ⟨_, rfl, 2, rfl, a, _, rfl, h, fun h => absurd h.1 (by show ¬ (2 = 0); decide), fun _ p hp => ?_⟩
        exact ⟨p, [b, c].map V.ref, rfl, .inr (SqT.of upd_same), cut _ p [b, c] (same_upd hp) (SqT.of upd_same) ⟨b, _, rfl, IsS.mono (fun _ _ h => same_sqT (same_upd hp) h) _ _ h1, c, _, rfl, IsS.mono (fun _ _ h => same_sqT (same_upd hp) h) _ _ h2, rfl⟩⟩
      | wh x u =>
        obtain ⟨b, h, h1⟩ := ht
        refine ifT ((named_in (.wh x u)).trans rfl) ?_
        refine ⟨_, rfl, 2, rfl, a, _, rfl, h, fun h => absurd h.1 (by show ¬ (2 = 0); decide), fun _ p hp => ?_⟩
        exact ⟨p, [b].map V.ref, rfl, .inr (SqT.of upd_same), cut _ p [b] (same_upd hp) (SqT.of upd_same) ⟨b, _, rfl, IsS.mono (fun _ _ h => same_sqT (same_upd hp) h) _ _ h1, rfl⟩⟩
      | brk n =>
        refine ifF (fun e => Bool.false_ne_true ((named_in (.brk n)).symm.trans e)) ?_
        refine ⟨_, rfl, a, _, 0, .str (T.kind (.brk n)), rfl, rfl, hx, atI_nat (j := 0) rfl, (by decide), fun t0 ht0 => ⟨t0, _, rfl, .inr (SqT.of upd_same), rfl, rfl, _, rfl, ?_⟩⟩
        refine ifF (by show ¬ inV (.str "break") [.str "try", .str "final"] = true; decide +kernel) ⟨by decide, fun l hl => ?_⟩
        exact q l [] _ ((same_upd ht0).trans (same_upd hl)) ((same_upd ht0).free hl) upd_same rfl
      | cnt n =>
        refine ifF (fun e => Bool.false_ne_true ((named_in (.cnt n)).symm.trans e)) ?_
        refine ⟨_, rfl, a, _, 0, .str (T.kind (.cnt n)), rfl, rfl, hx, atI_nat (j := 0) rfl, (by decide), fun t0 ht0 => ⟨t0, _, rfl, .inr (SqT.of upd_same), rfl, rfl, _, rfl, ?_⟩⟩
        refine ifF (by show ¬ inV (.str "continue") [.str "try", .str "final"] = true; decide +kernel) ⟨by decide, fun l hl => ?_⟩
        exact q l [] _ ((same_upd ht0).trans (same_upd hl)) ((same_upd ht0).free hl) upd_same rfl
      | ret =>
        refine ifF (fun e => Bool.false_ne_true ((named_in (.ret)).symm.trans e)) ?_
        refine ⟨_, rfl, a, _, 0, .str (T.kind (.ret)), rfl, rfl, hx, atI_nat (j := 0) rfl, (by decide), fun t0 ht0 => ⟨t0, _, rfl, .inr (SqT.of upd_same), rfl, rfl, _, rfl, ?_⟩⟩
        refine ifF (by show ¬ inV (.str "return") [.str "try", .str "final"] = true; decide +kernel) ⟨by decide, fun l hl => ?_⟩
        exact q l [] _ ((same_upd ht0).trans (same_upd hl)) ((same_upd ht0).free hl) upd_same rfl
      | rse =>
        refine ifF (fun e => Bool.false_ne_true ((named_in (.rse)).symm.trans e)) ?_
        refine ⟨_, rfl, a, _, 0, .str (T.kind (.rse)), rfl, rfl, hx, atI_nat (j := 0) rfl, (by decide), fun t0 ht0 => ⟨t0, _, rfl, .inr (SqT.of upd_same), rfl, rfl, _, rfl, ?_⟩⟩
        refine ifF (by show ¬ inV (.str "raise") [.str "try", .str "final"] = true; decide +kernel) ⟨by decide, fun l hl => ?_⟩
        exact q l [] _ ((same_upd ht0).trans (same_upd hl)) ((same_upd ht0).free hl) upd_same rfl
      | tryy u v =>
        obtain ⟨b, c, h, h1, h2⟩ := ht
        refine ifF (fun e => Bool.false_ne_true ((named_in (.tryy u v)).symm.trans e)) ?_
        refine ⟨_, rfl, a, _, 0, .str (T.kind (.tryy u v)), rfl, rfl, hx, atI_nat (j := 0) rfl, (by decide), fun t0 ht0 => ⟨t0, _, rfl, .inr (SqT.of upd_same), rfl, rfl, _, rfl, ?_⟩⟩
        refine ifT (by show inV (.str "try") [.str "try", .str "final"] = true; decide +kernel) ?_
        have s0 := same_upd (o := .tup [.str "try", .str "final"]) ht0
        refine ⟨_, rfl, 1, rfl, a, _, rfl, same_sqT s0 h, fun h => absurd h.1 (by show ¬ (1 = 0); decide), fun _ p hp => ?_⟩
        have s1 := s0.trans (same_upd (o := .tup [.ref b, .ref c]) hp)
        exact ⟨p, [b, c].map V.ref, rfl, .inr (SqT.of upd_same), cut _ p [b, c] s1 (SqT.of upd_same) ⟨b, _, rfl, IsS.mono (fun _ _ h => same_sqT s1 h) _ _ h1, c, _, rfl, IsS.mono (fun _ _ h => same_sqT s1 h) _ _ h2, rfl⟩⟩
      | fin u v =>
        obtain ⟨b, c, h, h1, h2⟩ := ht
        refine ifF (fun e => Bool.false_ne_true ((named_in (.fin u v)).symm.trans e)) ?_
        refine ⟨_, rfl, a, _, 0, .str (T.kind (.fin u v)), rfl, rfl, hx, atI_nat (j := 0) rfl, (by decide), fun t0 ht0 => ⟨t0, _, rfl, .inr (SqT.of upd_same), rfl, rfl, _, rfl, ?_⟩⟩
        refine ifT (by show inV (.str "final") [.str "try", .str "final"] = true; decide +kernel) ?_
        have s0 := same_upd (o := .tup [.str "try", .str "final"]) ht0
        refine ⟨_, rfl, 1, rfl, a, _, rfl, same_sqT s0 h, fun h => absurd h.1 (by show ¬ (1 = 0); decide), fun _ p hp => ?_⟩
        have s1 := s0.trans (same_upd (o := .tup [.ref b, .ref c]) hp)
        exact ⟨p, [b, c].map V.ref, rfl, .inr (SqT.of upd_same), cut _ p [b, c] s1 (SqT.of upd_same) ⟨b, _, rfl, IsS.mono (fun _ _ h => same_sqT s1 h) _ _ h1, c, _, rfl, IsS.mono (fun _ _ h => same_sqT s1 h) _ _ h2, rfl⟩⟩
end
end L2.K11
set_option Elab.async false
set_option linter.all false
set_option maxRecDepth 100000
set_option maxHeartbeats 1000000
/-! A Code's methods that read. -/
namespace L2.K11
open PySem PySem.Spec PyProof.Rows
section
variable {P : Program} {w : World} {K : PySem.W.Frag} {mg : Str → Option Value} {base : Heap}
abbrev sCheckN : Stmt := cS 7
theorem scCheckN : FnScope ["self", "number"] ["self", "number"] (defScope sCheckN) := ⟨rfl, rfl, rfl, by decide +kernel, rfl, by decide +kernel, by decide +kernel⟩
/-- a place of a code -/
structure Place (K : PySem.W.Frag) (C : Addr) (H : Hp) (vs : List V) (p : Addr) (A : CA) (nodes : List (T × Addr)) (kids : List (Addr × List Nat)) (prs : List V) (i : Nat) (q : T × Addr) (k : Addr × List Nat) : Prop where
  vs : vs = [.ref p, .int (i : Nat)]
  c : CodeAt K C H p A nodes kids prs
  q : nodes[i]? = some q
  k : kids[i]? = some k
theorem Place.lt {C : Addr} {H : Hp} {vs : List V} {p : Addr} {A : CA} {nodes : List (T × Addr)} {kids : List (Addr × List Nat)} {prs : List V} {i : Nat} {q : T × Addr} {k : Addr × List Nat} (x : Place K C H vs p A nodes kids prs i q k) : i < nodes.length := (List.getElem?_eq_some_iff.mp x.q).1
def spPl (K : PySem.W.Frag) (C : Addr) (R : Addr → CA → List (T × Addr) → T × Addr → Addr × List Nat → Hp → VK → Prop) : Sp := fun vs H Q _ => ∃ p A nodes kids prs i q k, Place K C H vs p A nodes kids prs i q k ∧ R p A nodes q k H Q
def spCheckN (K : PySem.W.Frag) (C : Addr) : Sp := spPl K C fun _ _ _ _ _ H Q => Q .non H
theorem ok_checkN {f f2 C : Addr} {fd fd2 : FuncData} (F : FnP K "check_number" "Code.check_number" sCheckN f fd) (Tx : Txt K mg) (TC : TxtC K mg C) (c2 : Cal P w K mg base 2 "is_between" ["value", "low", "high"] spBet f2 fd2) : FnOk P w K mg base CX0 3 f fd ["self", "number"] (spCheckN K C) := by
  refine fok F scCheckN (fun vs H Q E h => ?_) (fun cdv A outer s H vs Q E hr h => ?_)
  · obtain ⟨p, A, nodes, kids, prs, i, q, k, x, _⟩ := h
    rw [x.vs] <;> rfl
  · obtain ⟨p, A, nodes, kids, prs, i, q, k, x, qq⟩ := h
    have hlt := x.lt
    obtain ⟨rfl, c, hq, hk⟩ := x
    refine ⟨_, (pss_one (ps_if (pt_not (pt_val (pe_call c2.ok hr (by rfl) c2.m c2.kp c2.b .nil pass0 (pa_cons (pv 1) (pa_cons pe_int (pa_cons (pe_op op_sub (pe_callB call_len_seq (by rfl) Tx.len PySem.boot_len (pa_cons (pe_fld (pv 0) rfl) pa_nil)) pe_int) pa_nil))))))
 (pss_one ps_never)
 pss_nil)), ?_⟩
    refine ⟨_, rfl, _, rfl, p, C, A.dx, _, _, rfl, c.ob, TC.cl, TC.nk, cf_k, A.lk, _, rfl, .inl (SqL.of c.kd), _, _, rfl, rfl, (i : Nat), 0, _, rfl, by omega, (by rw [List.length_map]; omega), true, rfl, ?_⟩
    exact qq
abbrev sKind : Stmt := cS 10
theorem scKind : FnScope ["self", "number"] ["self", "number"] (defScope sKind) := ⟨rfl, rfl, rfl, by decide +kernel, rfl, by decide +kernel, by decide +kernel⟩
def spKind (K : PySem.W.Frag) (C : Addr) : Sp := spPl K C fun _ _ _ q _ H Q => Q (.str q.1.kind) H
theorem no_m {ls lk ll lp lc : Addr} : (cf ls lk ll lp lc).lookup ("check_number" : Str) = none := cf_no (by decide +kernel) (by decide +kernel) (by decide +kernel) (by decide +kernel) (by decide +kernel)
theorem ok_kind {f f2 C : Addr} {fd fd2 : FuncData} (F : FnP K "kind" "Code.kind" sKind f fd) (TC : TxtC K mg C) (c2 : CalM P w K mg base 3 C "check_number" ["self", "number"] (spCheckN K C) f2 fd2) : FnOk P w K mg base CX0 4 f fd ["self", "number"] (spKind K C) := by
  refine fok F scKind (fun vs H Q E h => ?_) (fun cdv A outer s H vs Q E hr h => ?_)
  · obtain ⟨p, A, nodes, kids, prs, i, q, k, x, _⟩ := h
    rw [x.vs] <;> rfl
  · obtain ⟨p, A, nodes, kids, prs, i, q, k, x, qq⟩ := h
    obtain ⟨rfl, c, hq, hk⟩ := id x
    refine ⟨_, (pss_cons (ps_expr (pe_meth (pv 0) TC.cl c2.m c2.ok hr c2.b .nil pass0 (pa_cons (pv 1) pa_nil)))
 (pss_one (ps_ret (pe_ix ix_list (pe_fld (pv 0) rfl) (pv 1) (fun _ _ => rfl))))), ?_⟩
    refine ⟨_, rfl, p, A.dx, _, rfl, c.ob, no_m, _, rfl, p, A, nodes, kids, prs, i, q, k, ⟨rfl, c, hq, hk⟩, ?_⟩
    exact ⟨_, rfl, p, C, A.dx, _, _, rfl, c.ob, TC.cl, TC.nk, cf_k, _, rfl, A.lk, _, _, _, rfl, rfl, SqL.of c.kd, atI_nat (j := i) (by rw [List.getElem?_map, hq]; rfl), qq⟩
abbrev sPts : Stmt := cS 12
theorem scPts : FnScope ["self", "number"] ["self", "number"] (defScope sPts) := ⟨rfl, rfl, rfl, by decide +kernel, rfl, by decide +kernel, by decide +kernel⟩
def spPts (K : PySem.W.Frag) (C : Addr) : Sp := spPl K C fun _ _ _ _ k H Q => ∀ l, H l = none → Q (.ref l) (upd H l (.lst (k.2.map fun (j : Nat) => V.int j)))
theorem ok_pts {f f2 C : Addr} {fd fd2 : FuncData} (F : FnP K "parts" "Code.parts" sPts f fd) (Tx : Txt K mg) (TC : TxtC K mg C) (c2 : CalM P w K mg base 3 C "check_number" ["self", "number"] (spCheckN K C) f2 fd2) : FnOk P w K mg base CX0 4 f fd ["self", "number"] (spPts K C) := by
  refine fok F scPts (fun vs H Q E h => ?_) (fun cdv A outer s H vs Q E hr h => ?_)
  · obtain ⟨p, A, nodes, kids, prs, i, q, k, x, _⟩ := h
    rw [x.vs] <;> rfl
  · obtain ⟨p, A, nodes, kids, prs, i, q, k, x, qq⟩ := h
    obtain ⟨rfl, c, hq, hk⟩ := id x
    refine ⟨_, (pss_cons (ps_expr (pe_meth (pv 0) TC.cl c2.m c2.ok hr c2.b .nil pass0 (pa_cons (pv 1) pa_nil)))
 (pss_one (ps_ret (pe_callTy call_list_of (by rfl) Tx.list (by decide +kernel) (pa_cons (pe_ix ix_list (pe_fld (pv 0) rfl) (pv 1) (fun _ _ => rfl)) pa_nil))))), ?_⟩
    refine ⟨_, rfl, p, A.dx, _, rfl, c.ob, no_m, _, rfl, p, A, nodes, kids, prs, i, q, k, ⟨rfl, c, hq, hk⟩, ?_⟩
    exact ⟨_, rfl, p, C, A.dx, _, _, rfl, c.ob, TC.cl, TC.nc, cf_c, _, rfl, A.lc, _, _, .ref k.1, rfl, rfl, SqL.of c.ch, atI_nat (j := i) (by rw [List.getElem?_map, hk]; rfl), k.1, _, rfl, .inl (SqL.of (c.kid k (List.mem_of_getElem? hk))), qq⟩
abbrev sGet : Stmt := cS 5
theorem scGet : FnScope ["self", "number"] ["self", "number"] (defScope sGet) := ⟨rfl, rfl, rfl, by decide +kernel, rfl, by decide +kernel, by decide +kernel⟩
def spGet (K : PySem.W.Frag) (C : Addr) : Sp := spPl K C fun _ _ _ q _ H Q => Q (.ref q.2) H
theorem ok_get {f f2 C : Addr} {fd fd2 : FuncData} (F : FnP K "__getitem__" "Code.__getitem__" sGet f fd) (TC : TxtC K mg C) (c2 : CalM P w K mg base 3 C "check_number" ["self", "number"] (spCheckN K C) f2 fd2) : FnOk P w K mg base CX0 4 f fd ["self", "number"] (spGet K C) := by
  refine fok F scGet (fun vs H Q E h => ?_) (fun cdv A outer s H vs Q E hr h => ?_)
  · obtain ⟨p, A, nodes, kids, prs, i, q, k, x, _⟩ := h
    rw [x.vs] <;> rfl
  · obtain ⟨p, A, nodes, kids, prs, i, q, k, x, qq⟩ := h
    obtain ⟨rfl, c, hq, hk⟩ := id x
    refine ⟨_, (pss_cons (ps_expr (pe_meth (pv 0) TC.cl c2.m c2.ok hr c2.b .nil pass0 (pa_cons (pv 1) pa_nil)))
 (pss_one (ps_ret (pe_ix ix_list (pe_fld (pv 0) rfl) (pv 1) (fun _ _ => rfl))))), ?_⟩
    refine ⟨_, rfl, p, A.dx, _, rfl, c.ob, no_m, _, rfl, p, A, nodes, kids, prs, i, q, k, ⟨rfl, c, hq, hk⟩, ?_⟩
    exact ⟨_, rfl, p, C, A.dx, _, _, rfl, c.ob, TC.cl, TC.ns, cf_s, _, rfl, A.ls, _, _, _, rfl, rfl, SqL.of c.st, atI_nat (j := i) (by rw [List.getElem?_map, hq]; rfl), qq⟩
end
end L2.K11
set_option Elab.async false
set_option linter.all false
set_option maxRecDepth 100000
set_option maxHeartbeats 1000000
/-! Code.check, Code.keep. -/
namespace L2.K11
open PySem PySem.Spec PyProof.Rows
section
variable {P : Program} {w : World} {K : PySem.W.Frag} {mg : Str → Option Value} {base : Heap}
abbrev sCheck : Stmt := cS 1
theorem scCheck : FnScope ["self", "value", "number", "deep", "loops", "blocks"] ["self", "value", "number", "deep", "loops", "blocks"] (defScope sCheck) := ⟨rfl, rfl, rfl, by decide +kernel, rfl, by decide +kernel, by decide +kernel⟩
def spCheck (K : PySem.W.Frag) : Sp := fun vs H Q _ => ∃ (p a : Addr) (t : T) (n d b : Int) (k : Nat), vs = [.ref p, .ref a, .int n, .int d, .int (k : Nat), .int b] ∧ IsS K H t a ∧ T.wf k t ∧ n < 400 ∧ d ≤ 100 ∧ b ≤ 25 ∧ ∀ H', Same H H' → Q .non H'
theorem ok_check {f f2 : Addr} {fd fd2 : FuncData} (F : FnP K "check" "Code.check" sCheck f fd) (TS : TxtS K w mg) (c2 : Cal P w K mg base 3 "is_statement" ["value", "loops"] (spStm K) f2 fd2) : FnOk P w K mg base CX0 4 f fd ["self", "value", "number", "deep", "loops", "blocks"] (spCheck K) := by
  refine fok F scCheck (fun vs H Q E h => ?_) (fun cdv A outer s H vs Q E hr h => ?_)
  · obtain ⟨p, a, t, n, d, b, k, rfl, _⟩ := h
    rfl
  · obtain ⟨p, a, t, n, d, b, k, rfl, ht, wf, hn, hd, hb, q⟩ := h
    obtain ⟨t1, m1⟩ := TS.mStat
    obtain ⟨t2, m2⟩ := TS.mDeep
    obtain ⟨t3, m3⟩ := TS.mBlk
    refine ⟨_, (pss_cons (ps_if (pt_cmpR op_ge (pv 2) (pe_glob (v := .int 400) (by rfl) m1 ⟨_, rfl⟩) (nomark _))
 (pss_one ps_never)
 pss_nil)
 (pss_cons (ps_if (pt_cmpR op_gt (pv 3) (pe_glob (v := .int 100) (by rfl) m2 ⟨_, rfl⟩) (nomark _))
 (pss_one ps_never)
 pss_nil)
 (pss_cons (ps_if (pt_cmpR op_gt (pv 5) (pe_glob (v := .int 25) (by rfl) m3 ⟨_, rfl⟩) (nomark _))
 (pss_one ps_never)
 pss_nil)
 (pss_one (ps_if (pt_not (pt_val (pe_call c2.ok hr (by rfl) c2.m c2.kp c2.b .nil pass0 (pa_cons (pv 1) (pa_cons (pv 4) pa_nil)))))
 (pss_one ps_never)
 pss_nil))))), ?_⟩
    refine ⟨_, rfl, _, _, rfl, rfl, _, rfl, ifF (by simp; omega) ⟨_, rfl, _, _, rfl, rfl, _, rfl, ifF (by simp; omega) ⟨_, rfl, _, _, rfl, rfl, _, rfl, ifF (by simp; omega) ?_⟩⟩⟩
    refine ⟨_, rfl, _, rfl, a, t, k, rfl, ht, wf, fun H' s1 => ⟨true, rfl, ?_⟩⟩
    exact q H' s1
abbrev sKeepC : Stmt := cS 2
theorem scKeepC : FnScope ["self", "statement", "parent"] ["self", "statement", "parent"] (defScope sKeepC) := ⟨rfl, rfl, rfl, by decide +kernel, rfl, by decide +kernel, by decide +kernel⟩
/-- its lists are five and one a node, no two alike -/
structure Apart (A : CA) (kids : List (Addr × List Nat)) : Prop where
  sk : A.ls ≠ A.lk
  sl : A.ls ≠ A.ll
  sp : A.ls ≠ A.lp
  sc : A.ls ≠ A.lc
  kl : A.lk ≠ A.ll
  kp : A.lk ≠ A.lp
  kc : A.lk ≠ A.lc
  lp : A.ll ≠ A.lp
  lc : A.ll ≠ A.lc
  pc : A.lp ≠ A.lc
  ks : ∀ q ∈ kids, q.1 ≠ A.ls ∧ q.1 ≠ A.lk ∧ q.1 ≠ A.ll ∧ q.1 ≠ A.lp ∧ q.1 ≠ A.lc
  nd : (kids.map (·.1)).Nodup
/-- one of its lists -/
def Its' (A : CA) (kids : List (Addr × List Nat)) (b : Addr) : Prop := b = A.ls ∨ b = A.lk ∨ b = A.ll ∨ b = A.lp ∨ b = A.lc ∨ ∃ q ∈ kids, q.1 = b
/-- a new part's number goes to its parent -/
def kidsUp (kids : List (Addr × List Nat)) (par : Option Nat) (n : Nat) : List (Addr × List Nat) :=
  match par with
  | none => kids
  | some j => match kids[j]? with
    | some (c, js) => kids.set j (c, js ++ [n])
    | none => kids
theorem kidsUp_len (kids : List (Addr × List Nat)) (par : Option Nat) (n : Nat) : (kidsUp kids par n).length = kids.length := by
  unfold kidsUp
  split
  · rfl
  · split
    · rw [List.length_set]
    · rfl
theorem kidsUp_fst (kids : List (Addr × List Nat)) (par : Option Nat) (n : Nat) : (kidsUp kids par n).map (·.1) = kids.map (·.1) := by
  unfold kidsUp
  split
  · rfl
  · next j =>
    split
    · next c js e =>
      refine List.ext_getElem? fun i => ?_
      rw [List.getElem?_map, List.getElem?_map, List.getElem?_set]
      split
      · next h =>
        subst h
        rw [e]
        split
        · rfl
        · next h2 => exact absurd (List.getElem?_eq_some_iff.mp e).1 h2
      · rfl
    · rfl
def parV : Option Nat → V
  | none => .non
  | some j => .int (j : Nat)
def spKeepC (K : PySem.W.Frag) (C : Addr) : Sp := fun vs H Q _ => ∃ (p a : Addr) (par : Option Nat) (A : CA) (nodes : List (T × Addr)) (kids : List (Addr × List Nat)) (prs : List V) (t : T), vs = [.ref p, .ref a, parV par] ∧ CodeAt K C H p A nodes kids prs ∧ Apart A kids ∧ IsS K H t a ∧
  (∀ j, par = some j → j < nodes.length) ∧ nodes.length ≤ 400 ∧ prs.length ≤ 400 ∧ (∀ q ∈ kids, q.2.length ≤ 400) ∧
  ∀ (c : Addr) (H' : Hp), H c = none → CodeAt K C H' p A (nodes ++ [(t, a)]) (kidsUp kids par nodes.length ++ [(c, [])]) (prs ++ [parV par]) → Apart A (kidsUp kids par nodes.length ++ [(c, [])]) → (∀ b o, H b = some o → ¬ Its' A kids b → H' b = some o) → Q .non H'
/-- the heap behind the first statement of keep -/
theorem keep_kids {C : Addr} {H : Hp} {p : Addr} {A : CA} {nodes : List (T × Addr)} {kids : List (Addr × List Nat)} {prs : List V} (c : CodeAt K C H p A nodes kids prs) (ap : Apart A kids) {j : Nat} {cj : Addr} {js : List Nat} (hj : kids[j]? = some (cj, js)) (n : Nat) :
    CodeAt K C (upd H cj (.lst ((js ++ [n]).map fun (j : Nat) => V.int j))) p A nodes (kids.set j (cj, js ++ [n])) prs := by
  have hm := List.mem_of_getElem? hj
  obtain ⟨k1, k2, k3, k4, k5⟩ := ap.ks _ hm
  dsimp only at k1 k2 k3 k4 k5
  have hc : H cj = some _ := c.kid _ hm
  have kx : Kx cj H (upd H cj (.lst ((js ++ [n]).map fun (j : Nat) => V.int j))) := Kx.upd _ _ _
  refine ⟨kx _ _ c.ob (ne_of c.ob hc (by intro z; cases z)), kx _ _ c.st k1.symm, kx _ _ c.kd k2.symm, kx _ _ c.lb k3.symm, kx _ _ c.pr k4.symm, ?_, ?_, ?_, fun q hq => IsS.mono (fun _ _ h => kx.sqT hc trivial h) _ _ (c.stm q hq)⟩
  · have e : (kids.set j (cj, js ++ [n])).map (fun q => V.ref q.1) = kids.map (fun q => V.ref q.1) := by
      have := kidsUp_fst kids (some j) n
      simp only [kidsUp, hj] at this
      have e2 : ∀ l : List (Addr × List Nat), l.map (fun q => V.ref q.1) = (l.map (·.1)).map V.ref := fun l => by rw [List.map_map]; rfl
      rw [e2, e2, this]
    rw [e]
    exact kx _ _ c.ch k5.symm
  · rw [List.length_set, c.kl]
  · intro q hq
    obtain ⟨i, hi⟩ := List.mem_iff_getElem?.mp hq
    rw [List.getElem?_set] at hi
    split at hi
    · split at hi
      · cases hi
        exact upd_same
      · exact nomatch hi
    · next hne =>
      have hq0 := List.mem_of_getElem? hi
      refine kx _ _ (c.kid q hq0) fun e => hne ?_
      refine nd_ix ap.nd (i := j) (j := i) (x := cj) ?_ ?_
      · rw [List.getElem?_map, hj]; rfl
      · rw [List.getElem?_map, hi, ← e]; rfl
end
end L2.K11
set_option Elab.async false
set_option linter.all false
set_option maxRecDepth 100000
set_option maxHeartbeats 1000000
/-! Code.keep. -/
namespace L2.K11
open PySem PySem.Spec PyProof.Rows
theorem upd_none {H : Hp} {a b : Addr} {o : HO} (h : upd H a o b = none) : b ≠ a ∧ H b = none := by
  by_cases e : b = a
  · rw [e, upd_same] at h
    cases h
  · rw [upd_ne e] at h
    exact ⟨e, h⟩
theorem inV_app (x : V) (xs ys : List V) : inV x (xs ++ ys) = (inV x xs || inV x ys) := by
  unfold inV
  rw [List.any_append]
theorem T.label_non {t : T} (h1 : t.isNamed = false) (h2 : t.isJump = false) : t.label = .non := by
  cases t <;> simp_all [T.isNamed, T.isJump, T.label]
/-- the six places of a code while keep runs -/
structure Six (C : Addr) (H : Hp) (p : Addr) (A : CA) (o1 o2 o3 o4 o5 : List V) : Prop where
  ob : H p = some (.ins C A.dx A.fs)
  s : H A.ls = some (.lst o1)
  k : H A.lk = some (.lst o2)
  l : H A.ll = some (.lst o3)
  r : H A.lp = some (.lst o4)
  c : H A.lc = some (.lst o5)
theorem Six.up {C p : Addr} {H : Hp} {A : CA} {o1 o2 o3 o4 o5 : List V} (x : Six C H p A o1 o2 o3 o4 o5) {T : Addr} (hT : H T = none) (o : HO) : Six C (upd H T o) p A o1 o2 o3 o4 o5 :=
  ⟨same_upd hT _ _ x.ob, same_upd hT _ _ x.s, same_upd hT _ _ x.k, same_upd hT _ _ x.l, same_upd hT _ _ x.r, same_upd hT _ _ x.c⟩
section
variable {C p : Addr} {H : Hp} {A : CA} {o1 o2 o3 o4 o5 : List V} {kids : List (Addr × List Nat)}
theorem Six.us (x : Six C H p A o1 o2 o3 o4 o5) (ap : Apart A kids) (o : List V) : Six C (upd H A.ls (.lst o)) p A o o2 o3 o4 o5 :=
  ⟨by rw [upd_ne (ne_of x.ob x.s (by intro z; cases z))]; exact x.ob, upd_same, by rw [upd_ne ap.sk.symm]; exact x.k, by rw [upd_ne ap.sl.symm]; exact x.l, by rw [upd_ne ap.sp.symm]; exact x.r, by rw [upd_ne ap.sc.symm]; exact x.c⟩
theorem Six.uk (x : Six C H p A o1 o2 o3 o4 o5) (ap : Apart A kids) (o : List V) : Six C (upd H A.lk (.lst o)) p A o1 o o3 o4 o5 :=
  ⟨by rw [upd_ne (ne_of x.ob x.k (by intro z; cases z))]; exact x.ob, by rw [upd_ne ap.sk]; exact x.s, upd_same, by rw [upd_ne ap.kl.symm]; exact x.l, by rw [upd_ne ap.kp.symm]; exact x.r, by rw [upd_ne ap.kc.symm]; exact x.c⟩
theorem Six.ul (x : Six C H p A o1 o2 o3 o4 o5) (ap : Apart A kids) (o : List V) : Six C (upd H A.ll (.lst o)) p A o1 o2 o o4 o5 :=
  ⟨by rw [upd_ne (ne_of x.ob x.l (by intro z; cases z))]; exact x.ob, by rw [upd_ne ap.sl]; exact x.s, by rw [upd_ne ap.kl]; exact x.k, upd_same, by rw [upd_ne ap.lp.symm]; exact x.r, by rw [upd_ne ap.lc.symm]; exact x.c⟩
theorem Six.ur (x : Six C H p A o1 o2 o3 o4 o5) (ap : Apart A kids) (o : List V) : Six C (upd H A.lp (.lst o)) p A o1 o2 o3 o o5 :=
  ⟨by rw [upd_ne (ne_of x.ob x.r (by intro z; cases z))]; exact x.ob, by rw [upd_ne ap.sp]; exact x.s, by rw [upd_ne ap.kp]; exact x.k, by rw [upd_ne ap.lp]; exact x.l, upd_same, by rw [upd_ne ap.pc.symm]; exact x.c⟩
theorem Six.uc (x : Six C H p A o1 o2 o3 o4 o5) (ap : Apart A kids) (o : List V) : Six C (upd H A.lc (.lst o)) p A o1 o2 o3 o4 o :=
  ⟨by rw [upd_ne (ne_of x.ob x.c (by intro z; cases z))]; exact x.ob, by rw [upd_ne ap.sc]; exact x.s, by rw [upd_ne ap.kc]; exact x.k, by rw [upd_ne ap.lc]; exact x.l, by rw [upd_ne ap.pc]; exact x.r, upd_same⟩
end
theorem keep_fin {K : PySem.W.Frag} {C p a T0 cn : Addr} {H1 : Hp} {A : CA} {nodes : List (T × Addr)} {kids1 : List (Addr × List Nat)} {prs : List V} {t : T} {o0 : HO} (c1 : CodeAt K C H1 p A nodes kids1 prs) (ap : Apart A kids1) (ht1 : IsS K H1 t a) (pv : V)
    (hT0 : upd (upd H1 A.ls (.lst (nodes.map (fun q => V.ref q.2) ++ [V.ref a]))) A.lk (.lst (nodes.map (fun q => V.str q.1.kind) ++ [V.str t.kind])) T0 = none)
    (hcn : upd (upd (upd (upd (upd H1 A.ls (.lst (nodes.map (fun q => V.ref q.2) ++ [V.ref a]))) A.lk (.lst (nodes.map (fun q => V.str q.1.kind) ++ [V.str t.kind]))) T0 o0) A.ll (.lst (nodes.map (fun q => q.1.label) ++ [t.label]))) A.lp (.lst (prs ++ [pv])) cn = none) :
    CodeAt K C (upd (upd (upd (upd (upd (upd (upd H1 A.ls (.lst (nodes.map (fun q => V.ref q.2) ++ [V.ref a]))) A.lk (.lst (nodes.map (fun q => V.str q.1.kind) ++ [V.str t.kind]))) T0 o0) A.ll (.lst (nodes.map (fun q => q.1.label) ++ [t.label]))) A.lp (.lst (prs ++ [pv]))) cn (.lst [])) A.lc (.lst (kids1.map (fun q => V.ref q.1) ++ [V.ref cn])))
      p A (nodes ++ [(t, a)]) (kids1 ++ [(cn, [])]) (prs ++ [pv]) ∧ Apart A (kids1 ++ [(cn, [])]) ∧ H1 cn = none ∧
      ∀ b o, H1 b = some o → b ≠ A.ls → b ≠ A.lk → b ≠ A.ll → b ≠ A.lp → b ≠ A.lc → (upd (upd (upd (upd (upd (upd (upd H1 A.ls (.lst (nodes.map (fun q => V.ref q.2) ++ [V.ref a]))) A.lk (.lst (nodes.map (fun q => V.str q.1.kind) ++ [V.str t.kind]))) T0 o0) A.ll (.lst (nodes.map (fun q => q.1.label) ++ [t.label]))) A.lp (.lst (prs ++ [pv]))) cn (.lst [])) A.lc (.lst (kids1.map (fun q => V.ref q.1) ++ [V.ref cn]))) b = some o := by
  have x1 : Six C H1 p A _ _ _ _ _ := ⟨c1.ob, c1.st, c1.kd, c1.lb, c1.pr, c1.ch⟩
  have x2 := x1.us ap (nodes.map (fun q => V.ref q.2) ++ [V.ref a])
  have x3 := x2.uk ap (nodes.map (fun q => V.str q.1.kind) ++ [V.str t.kind])
  have x4 := x3.up hT0 o0
  have x5 := x4.ul ap (nodes.map (fun q => q.1.label) ++ [t.label])
  have x6 := x5.ur ap (prs ++ [pv])
  have x7 := (x6.up hcn (.lst [])).uc ap (kids1.map (fun q => V.ref q.1) ++ [V.ref cn])
  obtain ⟨n5, hc5⟩ := upd_none hcn
  obtain ⟨n4, hc4⟩ := upd_none hc5
  obtain ⟨n3, hc3⟩ := upd_none hc4
  obtain ⟨n2, hc2⟩ := upd_none hc3
  obtain ⟨n1, hc1⟩ := upd_none hc2
  have hT1 := (upd_none (upd_none hT0).2).2
  have go : ∀ b o, H1 b = some o → b ≠ A.ls → b ≠ A.lk → b ≠ A.ll → b ≠ A.lp → b ≠ A.lc → (upd (upd (upd (upd (upd (upd (upd H1 A.ls (.lst (nodes.map (fun q => V.ref q.2) ++ [V.ref a]))) A.lk (.lst (nodes.map (fun q => V.str q.1.kind) ++ [V.str t.kind]))) T0 o0) A.ll (.lst (nodes.map (fun q => q.1.label) ++ [t.label]))) A.lp (.lst (prs ++ [pv]))) cn (.lst [])) A.lc (.lst (kids1.map (fun q => V.ref q.1) ++ [V.ref cn]))) b = some o := fun b o e e1 e2 e3 e4 e5 => by
    rw [upd_ne e5, upd_ne (ne_of_none e hc1), upd_ne e4, upd_ne e3, upd_ne (ne_of_none e hT1), upd_ne e2, upd_ne e1]
    exact e
  have tt : ∀ b xs, SqT K H1 b xs → SqT K (upd (upd (upd (upd (upd (upd (upd H1 A.ls (.lst (nodes.map (fun q => V.ref q.2) ++ [V.ref a]))) A.lk (.lst (nodes.map (fun q => V.str q.1.kind) ++ [V.str t.kind]))) T0 o0) A.ll (.lst (nodes.map (fun q => q.1.label) ++ [t.label]))) A.lp (.lst (prs ++ [pv]))) cn (.lst [])) A.lc (.lst (kids1.map (fun q => V.ref q.1) ++ [V.ref cn]))) b xs := fun b xs h =>
    (Kx.upd A.lc _ _).sqT (x6.up hcn (.lst [])).c trivial (same_sqT (same_upd hcn) ((Kx.upd A.lp _ _).sqT x5.r trivial ((Kx.upd A.ll _ _).sqT x4.l trivial (same_sqT (same_upd hT0) ((Kx.upd A.lk _ _).sqT x2.k trivial ((Kx.upd A.ls _ _).sqT x1.s trivial h))))))
  refine ⟨⟨x7.ob, ?_, ?_, ?_, x7.r, ?_, ?_, ?_, ?_⟩, ⟨ap.sk, ap.sl, ap.sp, ap.sc, ap.kl, ap.kp, ap.kc, ap.lp, ap.lc, ap.pc, ?_, ?_⟩, hc1, go⟩
  · rw [List.map_append]; exact x7.s
  · rw [List.map_append]; exact x7.k
  · rw [List.map_append]; exact x7.l
  · rw [List.map_append]; exact x7.c
  · rw [List.length_append, List.length_append, c1.kl]; rfl
  · intro k hk
    rcases List.mem_append.mp hk with hk | hk
    · obtain ⟨e1, e2, e3, e4, e5⟩ := ap.ks k hk
      exact go _ _ (c1.kid k hk) e1 e2 e3 e4 e5
    · rw [List.mem_singleton.mp hk]
      dsimp only
      rw [upd_ne (ne_of_none x6.c hcn).symm, upd_same]
      rfl
  · intro k hk
    rcases List.mem_append.mp hk with hk | hk
    · exact IsS.mono tt _ _ (c1.stm k hk)
    · rw [List.mem_singleton.mp hk]
      exact IsS.mono tt _ _ ht1
  · intro k hk
    rcases List.mem_append.mp hk with hk | hk
    · exact ap.ks k hk
    · rw [List.mem_singleton.mp hk]
      exact ⟨(ne_of_none x6.s hcn).symm, (ne_of_none x6.k hcn).symm, (ne_of_none x6.l hcn).symm, (ne_of_none x6.r hcn).symm, (ne_of_none x6.c hcn).symm⟩
  · rw [List.map_append, List.nodup_append]
    refine ⟨ap.nd, by simp, fun x hx y hy => ?_⟩
    simp at hy
    subst hy
    obtain ⟨k, hk, rfl⟩ := List.mem_map.mp hx
    exact ne_of_none (c1.kid k hk) hc1
section
variable {P : Program} {w : World} {K : PySem.W.Frag} {mg : Str → Option Value} {base : Heap}
theorem ok_keepC {f C : Addr} {fd : FuncData} (F : FnP K "keep" "Code.keep" sKeepC f fd) (Tx : Txt K mg) (TS : TxtS K w mg) (TC : TxtC K mg C) : FnOk P w K mg base CX0 1 f fd ["self", "statement", "parent"] (spKeepC K C) := by
  refine fok F scKeepC (fun vs H Q E h => ?_) (fun cdv A outer s H vs Q E hr h => ?_)
  · obtain ⟨p, a, par, A, nodes, kids, prs, t, rfl, _⟩ := h
    rfl
  · obtain ⟨p, a, par, A', nodes, kids, prs, t, rfl, c0, ap, ht, hpar, hn, hpr, hkl, q⟩ := h
    obtain ⟨aN, mN, hN⟩ := TS.named
    obtain ⟨aJ, mJ, hJ⟩ := TS.jumps
    refine ⟨_, (pss_cons (ps_if (pt_cmpR op_notN (pv 2) pe_non (nomark _))
 (pss_one (ps_expr (pe_bm PySem.F.plainAttrs_list PySem.F.slot_list_append PySem.F.type_list_append mt_append (pe_ix ix_list (pe_fld (pv 0) rfl) (pv 2) (fun _ _ => rfl)) (pa_cons (pe_callB call_len_seq (by rfl) Tx.len PySem.boot_len (pa_cons (pe_fld (pv 0) rfl) pa_nil)) pa_nil))))
 pss_nil)
 (pss_cons (ps_expr (pe_bm PySem.F.plainAttrs_list PySem.F.slot_list_append PySem.F.type_list_append mt_append (pe_fld (pv 0) rfl) (pa_cons (pv 1) pa_nil)))
 (pss_cons (ps_expr (pe_bm PySem.F.plainAttrs_list PySem.F.slot_list_append PySem.F.type_list_append mt_append (pe_fld (pv 0) rfl) (pa_cons (pe_ix ix_tup (pv 1) pe_int (fun _ _ => rfl)) pa_nil)))
 (pss_cons (ps_expr (pe_bm PySem.F.plainAttrs_list PySem.F.slot_list_append PySem.F.type_list_append mt_append (pe_fld (pv 0) rfl) (pa_cons (pe_ifExp (pt_cmpR op_in_seq (pe_ix ix_tup (pv 1) pe_int (fun _ _ => rfl)) (pe_op op_catA (pe_glob (v := .ref aN) (by rfl) mN rfl) (pe_glob (v := .ref aJ) (by rfl) mJ rfl)) (by rfl)) (pe_ix ix_tup (pv 1) pe_int (fun _ _ => rfl)) pe_non) pa_nil)))
 (pss_cons (ps_expr (pe_bm PySem.F.plainAttrs_list PySem.F.slot_list_append PySem.F.type_list_append mt_append (pe_fld (pv 0) rfl) (pa_cons (pv 2) pa_nil)))
 (pss_one (ps_expr (pe_bm PySem.F.plainAttrs_list PySem.F.slot_list_append PySem.F.type_list_append mt_append (pe_fld (pv 0) rfl) (pa_cons (pe_lst pa_nil) pa_nil))))))))), ?_⟩
    refine ⟨_, rfl, rfl, _, rfl, ?_⟩
    -- the first statement by cases; what follows, for both
    have frame0 : ∀ b o, H b = some o → ¬ Its' A' kids b → H b = some o := fun b o e _ => e
    rcases par with _ | j
    · refine ifF (by simp [parV]) ?_
      have c1 : CodeAt K C H p A' nodes (kidsUp kids none nodes.length) prs := c0
      have ap1 : Apart A' (kidsUp kids none nodes.length) := ap
      have t1 : ∀ b xs, SqT K H b xs → SqT K H b xs := fun _ _ h => h
      have fr1 := frame0
      have nn : ∀ b, H b = none → H b = none := fun _ h => h
      obtain ⟨xs, hx, hsz, hnm, hjp, hsq⟩ := ht.head
      have hx1 := t1 _ _ hx
      have ht1 := IsS.mono t1 _ _ ht
      have x1 : Six C _ p A' _ _ _ _ _ := ⟨c1.ob, c1.st, c1.kd, c1.lb, c1.pr, c1.ch⟩
      have z1 : (nodes.map fun q => V.ref q.2).length < sizeLine := small_lt (by rw [List.length_map]; omega)
      have z2 : (nodes.map fun q => V.str q.1.kind).length < sizeLine := small_lt (by rw [List.length_map]; omega)
      have z3 : (nodes.map fun q => q.1.label).length < sizeLine := small_lt (by rw [List.length_map]; omega)
      have z5 : ∀ par, ((kidsUp kids par nodes.length).map fun q => V.ref q.1).length < sizeLine := fun par => small_lt (by rw [List.length_map, kidsUp_len, c0.kl]; omega)
      -- self.statements.append(statement)
      refine ⟨_, rfl, p, C, A'.dx, _, _, rfl, x1.ob, TC.cl, TC.ns, cf_s, .inl ⟨rfl, _, SqL.of x1.s⟩, _, rfl, A'.ls, _, _, rfl, rfl, x1.s, z1, ?_⟩
      have x2 := x1.us ap (nodes.map (fun q => V.ref q.2) ++ [V.ref a])
      have k2 := (Kx.upd A'.ls _ (.lst (nodes.map (fun q => V.ref q.2) ++ [V.ref a]))).sqT x1.s trivial hx1
      -- self.kinds.append(statement[0])
      refine ⟨_, rfl, p, C, A'.dx, _, _, rfl, x2.ob, TC.cl, TC.nk, cf_k, .inl ⟨rfl, _, SqL.of x2.k⟩, _, rfl, a, _, 0, _, rfl, rfl, k2, atI_nat (j := 0) rfl, A'.lk, _, _, rfl, rfl, x2.k, z2, ?_⟩
      have x3 := x2.uk ap (nodes.map (fun q => V.str q.1.kind) ++ [V.str t.kind])
      have k3 := (Kx.upd A'.lk _ (.lst (nodes.map (fun q => V.str q.1.kind) ++ [V.str t.kind]))).sqT x2.k trivial k2
      -- self.labels.append(..)
      refine ⟨_, rfl, p, C, A'.dx, _, _, rfl, x3.ob, TC.cl, TC.nl, cf_l, .inl ⟨rfl, _, SqL.of x3.l⟩, ?_⟩
      refine ⟨_, rfl, a, _, 0, _, rfl, rfl, k3, atI_nat (j := 0) rfl, aN, aJ, _, _, rfl, rfl, hN _, hJ _, small_line (by decide), (fun z => nomatch z), (fun _ z => nomatch z), fun _ _ T0 hT0 => ?_⟩
      have x4 := x3.up hT0 (.tup ([.str "do", .str "call", .str "if", .str "while"] ++ [.str "break", .str "continue"]))
      have k4 := same_sqT (same_upd (o := .tup ([.str "do", .str "call", .str "if", .str "while"] ++ [.str "break", .str "continue"])) hT0) k3
      refine ⟨T0, _, rfl, .inr (SqT.of upd_same), rfl, rfl, _, rfl, ?_⟩
      refine ite2 (fun hin => ?_) (fun hin => ?_)
      rotate_left
      · -- None
        have hboth : t.isNamed = false ∧ t.isJump = false := by
          have e : inV (.str t.kind) ([.str "do", .str "call", .str "if", .str "while"] ++ [.str "break", .str "continue"]) = (t.isNamed || t.isJump) := by rw [inV_app, named_in, jump_in]
          have h2 : ¬ (t.isNamed || t.isJump) = true := fun h => hin (e.trans h)
          simpa using h2
        have hlab := T.label_non hboth.1 hboth.2
        refine ⟨A'.ll, _, _, rfl, rfl, x4.l, z3, ?_⟩
        have x5 := x4.ul ap (nodes.map (fun q => q.1.label) ++ [V.non])
        -- self.parents.append(parent)
        refine ⟨_, rfl, p, C, A'.dx, _, _, rfl, x5.ob, TC.cl, TC.np, cf_p, .inl ⟨rfl, _, SqL.of x5.r⟩, _, rfl, A'.lp, _, _, rfl, rfl, x5.r, small_lt (by omega), ?_⟩
        have x6 := x5.ur ap (prs ++ [parV none])
        -- self.children.append([])
        refine ⟨_, rfl, p, C, A'.dx, _, _, rfl, x6.ob, TC.cl, TC.nc, cf_c, .inl ⟨rfl, _, SqL.of x6.c⟩, (by decide), fun cn hcn => ⟨A'.lc, _, _, rfl, rfl, (x6.up hcn (.lst [])).c, z5 _, ?_⟩⟩
        have x7 := (x6.up hcn (.lst [])).uc ap ((kidsUp kids none nodes.length).map (fun q => V.ref q.1) ++ [V.ref cn])
        rw [← hlab] at hcn
        obtain ⟨r1, r2, r3, r4⟩ := keep_fin c1 ap1 ht1 (parV none) hT0 hcn
        have zz := q cn _ (nn _ r3) r1 r2 fun b o e n => r4 b o (fr1 b o e n) (fun z => n (.inl z)) (fun z => n (.inr (.inl z))) (fun z => n (.inr (.inr (.inl z)))) (fun z => n (.inr (.inr (.inr (.inl z))))) (fun z => n (.inr (.inr (.inr (.inr (.inl z))))))
        rw [hlab] at zz
        exact zz
      · have hboth : t.isNamed = true ∨ t.isJump = true := by
          have e : inV (.str t.kind) ([.str "do", .str "call", .str "if", .str "while"] ++ [.str "break", .str "continue"]) = (t.isNamed || t.isJump) := by rw [inV_app, named_in, jump_in]
          have h2 : (t.isNamed || t.isJump) = true := e.symm.trans hin
          simpa using h2
        obtain ⟨ys, rfl⟩ : ∃ ys, xs = t.label :: ys := by
          rcases hboth with h | h
          · obtain ⟨x, r, e1, e2, _⟩ := hnm h
            exact ⟨r, by rw [e1, e2]⟩
          · obtain ⟨n, e1, e2, _⟩ := hjp h
            exact ⟨[], by rw [e1, e2]⟩
        refine ⟨_, rfl, a, _, 1, t.label, rfl, rfl, k4, atI_nat (j := 1) rfl, ?_⟩
        refine ⟨A'.ll, _, _, rfl, rfl, x4.l, z3, ?_⟩
        have x5 := x4.ul ap (nodes.map (fun q => q.1.label) ++ [t.label])
        -- self.parents.append(parent)
        refine ⟨_, rfl, p, C, A'.dx, _, _, rfl, x5.ob, TC.cl, TC.np, cf_p, .inl ⟨rfl, _, SqL.of x5.r⟩, _, rfl, A'.lp, _, _, rfl, rfl, x5.r, small_lt (by omega), ?_⟩
        have x6 := x5.ur ap (prs ++ [parV none])
        -- self.children.append([])
        refine ⟨_, rfl, p, C, A'.dx, _, _, rfl, x6.ob, TC.cl, TC.nc, cf_c, .inl ⟨rfl, _, SqL.of x6.c⟩, (by decide), fun cn hcn => ⟨A'.lc, _, _, rfl, rfl, (x6.up hcn (.lst [])).c, z5 _, ?_⟩⟩
        have x7 := (x6.up hcn (.lst [])).uc ap ((kidsUp kids none nodes.length).map (fun q => V.ref q.1) ++ [V.ref cn])
        obtain ⟨r1, r2, r3, r4⟩ := keep_fin c1 ap1 ht1 (parV none) hT0 hcn
        exact q cn _ (nn _ r3) r1 r2 fun b o e n => r4 b o (fr1 b o e n) (fun z => n (.inl z)) (fun z => n (.inr (.inl z))) (fun z => n (.inr (.inr (.inl z)))) (fun z => n (.inr (.inr (.inr (.inl z))))) (fun z => n (.inr (.inr (.inr (.inr (.inl z))))))
    · obtain ⟨⟨cj, js⟩, hj⟩ : ∃ k, kids[j]? = some k := ⟨_, List.getElem?_eq_getElem (by rw [c0.kl]; exact hpar j rfl)⟩
      have hmj := List.mem_of_getElem? hj
      refine ifT (by simp [parV]) ?_
      have e1 : kidsUp kids (some j) nodes.length = kids.set j (cj, js ++ [nodes.length]) := by simp only [kidsUp, hj]
      have c1 := keep_kids c0 ap hj nodes.length
      rw [← e1] at c1
      have ap1 : Apart A' (kidsUp kids (some j) nodes.length) := ⟨ap.sk, ap.sl, ap.sp, ap.sc, ap.kl, ap.kp, ap.kc, ap.lp, ap.lc, ap.pc, fun q hq => by
        have : q.1 ∈ kids.map (·.1) := by rw [← kidsUp_fst kids (some j) nodes.length]; exact List.mem_map.mpr ⟨q, hq, rfl⟩
        obtain ⟨q', h1, h2⟩ := List.mem_map.mp this
        rw [← h2]
        exact ap.ks q' h1, by rw [kidsUp_fst]; exact ap.nd⟩
      have kx : Kx cj H (upd H cj (.lst ((js ++ [nodes.length]).map fun (j : Nat) => V.int j))) := Kx.upd _ _ _
      have t1 : ∀ b xs, SqT K H b xs → SqT K (upd H cj (.lst ((js ++ [nodes.length]).map fun (j : Nat) => V.int j))) b xs := fun _ _ h => kx.sqT (c0.kid _ hmj) trivial h
      have fr1 : ∀ b o, H b = some o → ¬ Its' A' kids b → (upd H cj (.lst ((js ++ [nodes.length]).map fun (j : Nat) => V.int j))) b = some o := fun b o e n => kx b o e fun z => n (by rw [z]; exact .inr (.inr (.inr (.inr (.inr ⟨_, hmj, rfl⟩)))))
      have nn : ∀ b, (upd H cj (.lst ((js ++ [nodes.length]).map fun (j : Nat) => V.int j))) b = none → H b = none := fun _ h => (upd_none h).2
      refine ⟨_, rfl, p, C, A'.dx, _, _, rfl, c0.ob, TC.cl, TC.nc, cf_c, _, rfl, A'.lc, _, _, .ref cj, rfl, rfl, SqL.of c0.ch, atI_nat (j := j) (by rw [List.getElem?_map, hj]; rfl), .inl ⟨rfl, _, SqL.of (c0.kid _ hmj)⟩, _, rfl, p, C, A'.dx, _, _, rfl, c0.ob, TC.cl, TC.nk, cf_k, A'.lk, _, rfl, .inl (SqL.of c0.kd), cj, _, _, rfl, rfl, c0.kid _ hmj, small_lt (by rw [List.length_map]; have := hkl _ hmj; dsimp only at this ⊢; omega), ?_⟩
      have ee : (js.map fun (j : Nat) => V.int j) ++ [V.int ((nodes.map fun q => V.str q.1.kind).length : Nat)] = (js ++ [nodes.length]).map fun (j : Nat) => V.int j := by rw [List.map_append, List.length_map]; rfl
      dsimp only
      rw [ee]
      obtain ⟨xs, hx, hsz, hnm, hjp, hsq⟩ := ht.head
      have hx1 := t1 _ _ hx
      have ht1 := IsS.mono t1 _ _ ht
      have x1 : Six C _ p A' _ _ _ _ _ := ⟨c1.ob, c1.st, c1.kd, c1.lb, c1.pr, c1.ch⟩
      have z1 : (nodes.map fun q => V.ref q.2).length < sizeLine := small_lt (by rw [List.length_map]; omega)
      have z2 : (nodes.map fun q => V.str q.1.kind).length < sizeLine := small_lt (by rw [List.length_map]; omega)
      have z3 : (nodes.map fun q => q.1.label).length < sizeLine := small_lt (by rw [List.length_map]; omega)
      have z5 : ∀ par, ((kidsUp kids par nodes.length).map fun q => V.ref q.1).length < sizeLine := fun par => small_lt (by rw [List.length_map, kidsUp_len, c0.kl]; omega)
      -- self.statements.append(statement)
      refine ⟨_, rfl, p, C, A'.dx, _, _, rfl, x1.ob, TC.cl, TC.ns, cf_s, .inl ⟨rfl, _, SqL.of x1.s⟩, _, rfl, A'.ls, _, _, rfl, rfl, x1.s, z1, ?_⟩
      have x2 := x1.us ap (nodes.map (fun q => V.ref q.2) ++ [V.ref a])
      have k2 := (Kx.upd A'.ls _ (.lst (nodes.map (fun q => V.ref q.2) ++ [V.ref a]))).sqT x1.s trivial hx1
      -- self.kinds.append(statement[0])
      refine ⟨_, rfl, p, C, A'.dx, _, _, rfl, x2.ob, TC.cl, TC.nk, cf_k, .inl ⟨rfl, _, SqL.of x2.k⟩, _, rfl, a, _, 0, _, rfl, rfl, k2, atI_nat (j := 0) rfl, A'.lk, _, _, rfl, rfl, x2.k, z2, ?_⟩
      have x3 := x2.uk ap (nodes.map (fun q => V.str q.1.kind) ++ [V.str t.kind])
      have k3 := (Kx.upd A'.lk _ (.lst (nodes.map (fun q => V.str q.1.kind) ++ [V.str t.kind]))).sqT x2.k trivial k2
      -- self.labels.append(..)
      refine ⟨_, rfl, p, C, A'.dx, _, _, rfl, x3.ob, TC.cl, TC.nl, cf_l, .inl ⟨rfl, _, SqL.of x3.l⟩, ?_⟩
      refine ⟨_, rfl, a, _, 0, _, rfl, rfl, k3, atI_nat (j := 0) rfl, aN, aJ, _, _, rfl, rfl, hN _, hJ _, small_line (by decide), (fun z => nomatch z), (fun _ z => nomatch z), fun _ _ T0 hT0 => ?_⟩
      have x4 := x3.up hT0 (.tup ([.str "do", .str "call", .str "if", .str "while"] ++ [.str "break", .str "continue"]))
      have k4 := same_sqT (same_upd (o := .tup ([.str "do", .str "call", .str "if", .str "while"] ++ [.str "break", .str "continue"])) hT0) k3
      refine ⟨T0, _, rfl, .inr (SqT.of upd_same), rfl, rfl, _, rfl, ?_⟩
      refine ite2 (fun hin => ?_) (fun hin => ?_)
      rotate_left
      · -- None
        have hboth : t.isNamed = false ∧ t.isJump = false := by
          have e : inV (.str t.kind) ([.str "do", .str "call", .str "if", .str "while"] ++ [.str "break", .str "continue"]) = (t.isNamed || t.isJump) := by rw [inV_app, named_in, jump_in]
          have h2 : ¬ (t.isNamed || t.isJump) = true := fun h => hin (e.trans h)
          simpa using h2
        have hlab := T.label_non hboth.1 hboth.2
        refine ⟨A'.ll, _, _, rfl, rfl, x4.l, z3, ?_⟩
        have x5 := x4.ul ap (nodes.map (fun q => q.1.label) ++ [V.non])
        -- self.parents.append(parent)
        refine ⟨_, rfl, p, C, A'.dx, _, _, rfl, x5.ob, TC.cl, TC.np, cf_p, .inl ⟨rfl, _, SqL.of x5.r⟩, _, rfl, A'.lp, _, _, rfl, rfl, x5.r, small_lt (by omega), ?_⟩
        have x6 := x5.ur ap (prs ++ [parV (some j)])
        -- self.children.append([])
        refine ⟨_, rfl, p, C, A'.dx, _, _, rfl, x6.ob, TC.cl, TC.nc, cf_c, .inl ⟨rfl, _, SqL.of x6.c⟩, (by decide), fun cn hcn => ⟨A'.lc, _, _, rfl, rfl, (x6.up hcn (.lst [])).c, z5 _, ?_⟩⟩
        have x7 := (x6.up hcn (.lst [])).uc ap ((kidsUp kids (some j) nodes.length).map (fun q => V.ref q.1) ++ [V.ref cn])
        rw [← hlab] at hcn
        obtain ⟨r1, r2, r3, r4⟩ := keep_fin c1 ap1 ht1 (parV (some j)) hT0 hcn
        have zz := q cn _ (nn _ r3) r1 r2 fun b o e n => r4 b o (fr1 b o e n) (fun z => n (.inl z)) (fun z => n (.inr (.inl z))) (fun z => n (.inr (.inr (.inl z)))) (fun z => n (.inr (.inr (.inr (.inl z))))) (fun z => n (.inr (.inr (.inr (.inr (.inl z))))))
        rw [hlab] at zz
        exact zz
      · have hboth : t.isNamed = true ∨ t.isJump = true := by
          have e : inV (.str t.kind) ([.str "do", .str "call", .str "if", .str "while"] ++ [.str "break", .str "continue"]) = (t.isNamed || t.isJump) := by rw [inV_app, named_in, jump_in]
          have h2 : (t.isNamed || t.isJump) = true := e.symm.trans hin
          simpa using h2
        obtain ⟨ys, rfl⟩ : ∃ ys, xs = t.label :: ys := by
          rcases hboth with h | h
          · obtain ⟨x, r, e1, e2, _⟩ := hnm h
            exact ⟨r, by rw [e1, e2]⟩
          · obtain ⟨n, e1, e2, _⟩ := hjp h
            exact ⟨[], by rw [e1, e2]⟩
        refine ⟨_, rfl, a, _, 1, t.label, rfl, rfl, k4, atI_nat (j := 1) rfl, ?_⟩
        refine ⟨A'.ll, _, _, rfl, rfl, x4.l, z3, ?_⟩
        have x5 := x4.ul ap (nodes.map (fun q => q.1.label) ++ [t.label])
        -- self.parents.append(parent)
        refine ⟨_, rfl, p, C, A'.dx, _, _, rfl, x5.ob, TC.cl, TC.np, cf_p, .inl ⟨rfl, _, SqL.of x5.r⟩, _, rfl, A'.lp, _, _, rfl, rfl, x5.r, small_lt (by omega), ?_⟩
        have x6 := x5.ur ap (prs ++ [parV (some j)])
        -- self.children.append([])
        refine ⟨_, rfl, p, C, A'.dx, _, _, rfl, x6.ob, TC.cl, TC.nc, cf_c, .inl ⟨rfl, _, SqL.of x6.c⟩, (by decide), fun cn hcn => ⟨A'.lc, _, _, rfl, rfl, (x6.up hcn (.lst [])).c, z5 _, ?_⟩⟩
        have x7 := (x6.up hcn (.lst [])).uc ap ((kidsUp kids (some j) nodes.length).map (fun q => V.ref q.1) ++ [V.ref cn])
        obtain ⟨r1, r2, r3, r4⟩ := keep_fin c1 ap1 ht1 (parV (some j)) hT0 hcn
        exact q cn _ (nn _ r3) r1 r2 fun b o e n => r4 b o (fr1 b o e n) (fun z => n (.inl z)) (fun z => n (.inr (.inl z))) (fun z => n (.inr (.inr (.inl z)))) (fun z => n (.inr (.inr (.inr (.inl z))))) (fun z => n (.inr (.inr (.inr (.inr (.inl z))))))
end
end L2.K11
set_option Elab.async false
set_option linter.all false
set_option maxRecDepth 100000
/-! How Code.__init__ lays a statement out: the plain law. -/
namespace L2.K11
open PySem
/-- one that waits -/
structure Wt where
  q : Addr
  t : T
  a : Addr
  par : Option Nat
  deep : Nat
  loops : Nat
  blocks : Nat
/-- what is true before each turn -/
structure Bld (root : T) (nodes : List (T × Addr)) (kids : List (Addr × List Nat)) (st : List Wt) : Prop where
  pre : nodes.map (·.1) ++ st.flatMap (fun e => e.t.pre) = root.pre
  kl : kids.length = nodes.length
  kid : ∀ (i : Nat) (t : T) (a c : Addr) (js : List Nat), nodes[i]? = some (t, a) → kids[i]? = some (c, js) →
    t.kids.map some = js.map (fun j => (nodes[j]?).map (·.1)) ++ (st.filter fun e => decide (e.par = some i)).map (fun e => some e.t) ∧ ∀ j ∈ js, i < j ∧ j < nodes.length
  par : ∀ e ∈ st, ∀ i, e.par = some i → i < nodes.length
  ok : ∀ e ∈ st, T.wf e.loops e.t ∧ e.deep + e.t.deep ≤ 101 ∧ e.loops + e.t.deep ≤ 100 ∧ e.blocks + e.t.blk ≤ 25
theorem Bld.start {root : T} (q a : Addr) (h1 : T.wf 0 root) (h2 : root.deep ≤ 100) (h3 : root.blk ≤ 25) : Bld root [] [] [⟨q, root, a, none, 1, 0, 0⟩] := by
  refine ⟨by simp, rfl, fun i t a c js h => by simp at h, fun e he i hi => ?_, fun e he => ?_⟩
  · simp at he
    subst he
    cases hi
  · simp at he
    subst he
    exact ⟨h1, by dsimp only; omega, by dsimp only; omega, by dsimp only; omega⟩
theorem Bld.lt {root : T} {nodes : List (T × Addr)} {kids : List (Addr × List Nat)} {e : Wt} {st : List Wt} (b : Bld root nodes kids (e :: st)) : nodes.length + e.t.size ≤ root.size := by
  have h := congrArg List.length b.pre
  rw [List.length_append, List.length_map, List.flatMap_cons, List.length_append] at h
  show nodes.length + e.t.pre.length ≤ root.pre.length
  omega
theorem filter_par {st : List Wt} {n : Nat} (h : ∀ e ∈ st, ∀ i, e.par = some i → i < n) : st.filter (fun e => decide (e.par = some n)) = [] := by
  rw [List.filter_eq_nil_iff]
  intro e he hp
  exact absurd (h e he n (of_decide_eq_true hp)) (by omega)
/-- the parts come to wait: new ones on top, the first of them first -/
structure News (e : Wt) (n : Nat) (es : List Wt) : Prop where
  ts : es.map (·.t) = e.t.kids
  at_ : ∀ (i : Nat) (u : Wt), es[i]? = some u → u.par = some n ∧ u.deep = e.deep + 1 ∧ u.loops = e.loops + (if e.t.isWh then 1 else 0) ∧ u.blocks = e.blocks + (if e.t.isFin = true ∧ i = 1 then 1 else 0)
theorem Bld.step {root : T} {nodes : List (T × Addr)} {kids : List (Addr × List Nat)} {e : Wt} {st es : List Wt} {c : Addr} (b : Bld root nodes kids (e :: st)) (N : News e nodes.length es) :
    Bld root (nodes ++ [(e.t, e.a)]) (kidsUp kids e.par nodes.length ++ [(c, [])]) (es ++ st) := by
  have hes : ∀ u ∈ es, u.par = some nodes.length := fun u hu => by
    obtain ⟨i, hi⟩ := List.mem_iff_getElem?.mp hu
    exact (N.at_ i u hi).1
  have hst : ∀ u ∈ st, ∀ i, u.par = some i → i < nodes.length := fun u hu => b.par u (List.mem_cons_of_mem _ hu)
  refine ⟨?_, ?_, ?_, ?_, ?_⟩
  · rw [← b.pre, List.map_append, List.flatMap_append, List.flatMap_cons, T.pre_eq e.t, ← N.ts, List.flatMap_map]
    simp
  · rw [List.length_append, List.length_append, kidsUp_len, b.kl]; rfl
  · intro i t a cc js hn hk
    rcases Nat.lt_trichotomy i nodes.length with hi | hi | hi
    · rw [List.getElem?_append_left hi] at hn
      rw [List.getElem?_append_left (by rw [kidsUp_len, b.kl]; exact hi)] at hk
      have keep : ∀ l : List Nat, (∀ j ∈ l, i < j ∧ j < nodes.length) → l.map (fun j => ((nodes ++ [(e.t, e.a)])[j]?).map (·.1)) = l.map (fun j => (nodes[j]?).map (·.1)) := fun l hl => List.map_congr_left fun j hj => by rw [List.getElem?_append_left (hl j hj).2]
      have hfe : es.filter (fun u => decide (u.par = some i)) = [] := by
        rw [List.filter_eq_nil_iff]
        intro u hu hp
        have := (hes u hu).symm.trans (of_decide_eq_true hp)
        simp at this
        omega
      by_cases hp : e.par = some i
      · -- its part is taken
        obtain ⟨⟨c0, js0⟩, hk0⟩ : ∃ k0, kids[i]? = some k0 := ⟨_, List.getElem?_eq_getElem (by rw [b.kl]; exact hi)⟩
        have e1 : kidsUp kids e.par nodes.length = kids.set i (c0, js0 ++ [nodes.length]) := by simp only [hp, kidsUp, hk0]
        rw [e1, List.getElem?_set_self (List.getElem?_eq_some_iff.mp hk0).1] at hk
        cases hk
        obtain ⟨h1, h2⟩ := b.kid i t a _ js0 hn hk0
        rw [List.filter_cons, if_pos (decide_eq_true hp), List.map_cons] at h1
        refine ⟨?_, fun j hj => ?_⟩
        · rw [h1, List.map_append, keep js0 h2, List.filter_append, hfe, List.nil_append]
          simp
        · rcases List.mem_append.mp hj with hj | hj
          · obtain ⟨x, y⟩ := h2 j hj
            exact ⟨x, by rw [List.length_append]; simp; omega⟩
          · rw [List.mem_singleton.mp hj]
            exact ⟨hi, by rw [List.length_append]; simp⟩
      · have hk' : kids[i]? = some (cc, js) := by
          rw [← hk]
          unfold kidsUp
          split
          · rfl
          · next j hj =>
            split
            · rw [List.getElem?_set_ne (fun z => hp (by rw [hj, z]))]
            · rfl
        obtain ⟨h1, h2⟩ := b.kid i t a cc js hn hk'
        rw [List.filter_cons, if_neg (by simp [hp])] at h1
        refine ⟨by rw [h1, keep js h2, List.filter_append, hfe, List.nil_append], fun j hj => ?_⟩
        obtain ⟨x, y⟩ := h2 j hj
        exact ⟨x, by rw [List.length_append]; simp; omega⟩
    · subst hi
      rw [List.getElem?_append_right (Nat.le_refl _), Nat.sub_self] at hn
      rw [List.getElem?_append_right (by rw [kidsUp_len, b.kl]; exact Nat.le_refl _), kidsUp_len, b.kl, Nat.sub_self] at hk
      cases hn
      cases hk
      refine ⟨?_, fun j hj => nomatch hj⟩
      rw [List.filter_append, filter_par hst, List.append_nil, List.filter_eq_self.mpr fun u hu => decide_eq_true (hes u hu)]
      rw [← N.ts, List.map_map]
      rfl
    · rw [List.getElem?_eq_none (by rw [List.length_append]; simp; omega)] at hn
      cases hn
  · intro u hu i hi
    rw [List.length_append]
    rcases List.mem_append.mp hu with hu | hu
    · rw [hes u hu] at hi
      cases hi
      simp
    · have := hst u hu i hi
      simp
      omega
  · intro u hu
    rcases List.mem_append.mp hu with hu | hu
    · obtain ⟨i, hi⟩ := List.mem_iff_getElem?.mp hu
      obtain ⟨_, h2, h3, h4⟩ := N.at_ i u hi
      obtain ⟨w1, w2, w3, w4⟩ := b.ok e List.mem_cons_self
      have hk : e.t.kids[i]? = some u.t := by rw [← N.ts, List.getElem?_map, hi]; rfl
      have hd := T.deep_kid (List.mem_of_getElem? hk)
      have hb := T.blk_kid hk
      refine ⟨by rw [h3]; exact T.wf_kid w1 (List.mem_of_getElem? hk), by omega, ?_, by omega⟩
      rw [h3]
      split <;> omega
    · exact b.ok u (List.mem_cons_of_mem _ hu)
theorem Bld.done {root : T} {nodes : List (T × Addr)} {kids : List (Addr × List Nat)} (b : Bld root nodes kids []) (hz : root.size ≤ 400) (hd : root.deep ≤ 100) (hw : T.wf 0 root) : Lay nodes kids ∧ nodes.map (·.1) = root.pre := by
  have hp : nodes.map (·.1) = root.pre := by
    have := b.pre
    simpa using this
  have hsub : ∀ n (t : T), t.size ≤ n → ∀ u ∈ t.pre, u.size ≤ t.size := by
    intro n
    induction n with
    | zero => exact fun t h => absurd (T.size_pos t) (by omega)
    | succ n ih =>
      intro t h u hu
      rw [T.pre_eq] at hu
      rcases List.mem_cons.mp hu with rfl | hu
      · exact Nat.le_refl _
      · obtain ⟨c, hc, huc⟩ := List.mem_flatMap.mp hu
        have e := T.size_kids t
        have hs : c.size ≤ (t.kids.map T.size).sum := le_sum (List.mem_map.mpr ⟨c, hc, rfl⟩)
        have := ih c (by omega) u huc
        omega
  refine ⟨⟨fun i t a c js hn hk => ?_, ?_, fun q hq => ?_⟩, hp⟩
  · obtain ⟨h1, h2⟩ := b.kid i t a c js hn hk
    exact ⟨by simpa using h1, fun j hj => (h2 j hj).1⟩
  · have := congrArg List.length hp
    rw [List.length_map] at this
    show nodes.length ≤ 400
    have : nodes.length = root.size := this
    omega
  · have hm : q.1 ∈ root.pre := by rw [← hp]; exact List.mem_map.mpr ⟨q, hq, rfl⟩
    refine ⟨Nat.le_trans (hsub _ _ (Nat.le_refl _) _ hm) hz, ?_⟩
    obtain ⟨k, h1, h2⟩ := T.pre_wf _ root (Nat.le_refl _) 0 hw q.1 hm
    exact ⟨k, by omega, h2⟩
end L2.K11
set_option Elab.async false
set_option linter.all false
set_option maxRecDepth 100000
set_option maxHeartbeats 1000000
/-! Code.__init__. -/
namespace L2.K11
open PySem PySem.Spec PyProof.Rows
theorem for_rev {K : PySem.W.Frag} {a : Addr} {xs : List V} {g : TG} {tb : TS} {D : Ends} {σ : St} {H : Hp} (Pv : Nat → St → Hp → Prop) (h0 : Pv 0 σ H) (hl : ∀ i σ H, i ≤ xs.length → Pv i σ H → SqL K H a xs)
    (hs : ∀ i x σ H, i < xs.length → xs[xs.length - 1 - i]? = some x → Pv i σ H → g x σ H fun σ2 H2 => tb { D with nx := Pv (i + 1), ct := Pv (i + 1), bk := D.nx } σ2 H2) (hd : ∀ σ H, Pv xs.length σ H → D.nx σ H) :
    ∃ W : Nat → Nat → St → Hp → Prop, (∃ m, W 0 m σ H) ∧ ∀ i m σ H, W i m σ H →
      ((Itv K a xs.length).stop i H ∧ D.nx σ H) ∨ ((Itv K a xs.length).go i H ∧ ∃ N : St → Hp → Prop, (∀ σ' H', N σ' H' → ∃ m', m' < m ∧ W (i + 1) m' σ' H') ∧ ∀ x H', (Itv K a xs.length).yld i H x H' → g x σ H' fun σ2 H2 => tb { D with nx := N, ct := N, bk := D.nx } σ2 H2) := by
  refine ⟨fun i m σ H => m = xs.length - i ∧ i ≤ xs.length ∧ Pv i σ H, ⟨xs.length, by simp, Nat.zero_le _, h0⟩, ?_⟩
  rintro i m σ H ⟨rfl, hi, p⟩
  have q := hl i σ H hi p
  by_cases hlt : i < xs.length
  · have e : xs[xs.length - 1 - i]? = some (xs[xs.length - 1 - i]'(by omega)) := List.getElem?_eq_getElem _
    refine .inr ⟨⟨hlt, xs, _, q, e⟩, Pv (i + 1), fun σ' H' p' => ⟨xs.length - (i + 1), by omega, rfl, hlt, p'⟩, fun x H' y => ?_⟩
    obtain ⟨rfl, y⟩ := y
    exact hs i x σ H' hlt (y xs q) p
  · have e : i = xs.length := by omega
    subst e
    exact .inl ⟨Nat.le_refl _, hd σ H p⟩
theorem kind_wh (t : T) : decide (V.str t.kind = V.str "while") = t.isWh := by
  cases t <;> first | exact (by decide +kernel : decide (V.str "do" = V.str "while") = false) | exact (by decide +kernel : decide (V.str "call" = V.str "while") = false) | exact (by decide +kernel : decide (V.str "if" = V.str "while") = false) | exact (by decide +kernel : decide (V.str "while" = V.str "while") = true) | exact (by decide +kernel : decide (V.str "break" = V.str "while") = false) | exact (by decide +kernel : decide (V.str "continue" = V.str "while") = false) | exact (by decide +kernel : decide (V.str "return" = V.str "while") = false) | exact (by decide +kernel : decide (V.str "raise" = V.str "while") = false) | exact (by decide +kernel : decide (V.str "seq" = V.str "while") = false) | exact (by decide +kernel : decide (V.str "try" = V.str "while") = false) | exact (by decide +kernel : decide (V.str "final" = V.str "while") = false)
theorem kind_fin (t : T) : decide (V.str t.kind = V.str "final") = t.isFin := by
  cases t <;> first | exact (by decide +kernel : decide (V.str "do" = V.str "final") = false) | exact (by decide +kernel : decide (V.str "call" = V.str "final") = false) | exact (by decide +kernel : decide (V.str "if" = V.str "final") = false) | exact (by decide +kernel : decide (V.str "while" = V.str "final") = false) | exact (by decide +kernel : decide (V.str "break" = V.str "final") = false) | exact (by decide +kernel : decide (V.str "continue" = V.str "final") = false) | exact (by decide +kernel : decide (V.str "return" = V.str "final") = false) | exact (by decide +kernel : decide (V.str "raise" = V.str "final") = false) | exact (by decide +kernel : decide (V.str "seq" = V.str "final") = false) | exact (by decide +kernel : decide (V.str "try" = V.str "final") = false) | exact (by decide +kernel : decide (V.str "final" = V.str "final") = true)
theorem CodeAt.kx {K : PySem.W.Frag} {C : Addr} {H H' : Hp} {p W : Addr} {A : CA} {nodes : List (T × Addr)} {kids : List (Addr × List Nat)} {prs zs : List V} (c : CodeAt K C H p A nodes kids prs) (k : Kx W H H') (hW : H W = some (.lst zs)) (hn : ¬ Its' A kids W) : CodeAt K C H' p A nodes kids prs :=
  ⟨k _ _ c.ob (ne_of c.ob hW (by intro z; cases z)), k _ _ c.st (fun z => hn (.inl z.symm)), k _ _ c.kd (fun z => hn (.inr (.inl z.symm))), k _ _ c.lb (fun z => hn (.inr (.inr (.inl z.symm)))), k _ _ c.pr (fun z => hn (.inr (.inr (.inr (.inl z.symm))))), k _ _ c.ch (fun z => hn (.inr (.inr (.inr (.inr (.inl z.symm)))))), c.kl,
    fun q hq => k _ _ (c.kid q hq) (fun z => hn (.inr (.inr (.inr (.inr (.inr ⟨q, hq, z⟩)))))), fun q hq => IsS.mono (fun _ _ h => k.sqT hW trivial h) _ _ (c.stm q hq)⟩
/-- one that waits, in the heap -/
def WtOk (K : PySem.W.Frag) (H : Hp) (e : Wt) : Prop := SqT K H e.q [.ref e.a, parV e.par, .int (e.deep : Nat), .int (e.loops : Nat), .int (e.blocks : Nat)] ∧ IsS K H e.t e.a
theorem WtOk.mono {K : PySem.W.Frag} {H H' : Hp} {e : Wt} (k : ∀ b xs, SqT K H b xs → SqT K H' b xs) (h : WtOk K H e) : WtOk K H' e := ⟨k _ _ h.1, IsS.mono k _ _ h.2⟩
theorem IsSs.at' {K : PySem.W.Frag} {H : Hp} : ∀ {ts : List T} {as : List Addr} {i : Nat} {a : Addr}, IsSs K H ts as → as[i]? = some a → ∃ t, ts[i]? = some t ∧ IsS K H t a
  | [], as, i, a, h, e => by
    rw [show as = [] from h] at e
    simp at e
  | t :: ts, as, i, a, ⟨b, r, h, h1, h2⟩, e => by
    subst h
    cases i with
    | zero =>
      simp at e
      subst e
      exact ⟨t, rfl, h1⟩
    | succ i =>
      obtain ⟨t', e1, e2⟩ := IsSs.at' (ts := ts) (as := r) (i := i) h2 (by simpa using e)
      exact ⟨t', by simpa using e1, e2⟩
theorem Kx.free {d b : Addr} {H H1 : Hp} (k : Kx d H H1) (h : H1 b = none) (n : b ≠ d) : H b = none := by
  cases e : H b with
  | none => rfl
  | some o =>
    rw [k b o e n] at h
    cases h
theorem CodeAt.frT {K : PySem.W.Frag} {C : Addr} {H H' : Hp} {p : Addr} {A : CA} {nodes : List (T × Addr)} {kids : List (Addr × List Nat)} {prs : List V} (c : CodeAt K C H p A nodes kids prs) (fr : ∀ b o, H b = some o → ¬ Its' A kids b → H' b = some o) {b : Addr} {xs : List V} (h : SqT K H b xs) : SqT K H' b xs := by
  have no : ∀ o, H b = some o → NoLst o → ¬ Its' A kids b := by
    rintro o e n (z | z | z | z | z | ⟨q, hq, z⟩)
    · rw [z, c.st] at e; cases e; exact n
    · rw [z, c.kd] at e; cases e; exact n
    · rw [z, c.lb] at e; cases e; exact n
    · rw [z, c.pr] at e; cases e; exact n
    · rw [z, c.ch] at e; cases e; exact n
    · rw [← z, c.kid q hq] at e; cases e; exact n
  rcases h with (h | ⟨u, h⟩) | h
  · exact .inl (.inl (fr _ _ h (no _ h trivial)))
  · exact .inl (.inr ⟨u, fr _ _ h (no _ h trivial)⟩)
  · exact .inr h
theorem kidsUp_le {kids : List (Addr × List Nat)} {n : Nat} (h : ∀ q ∈ kids, q.2.length ≤ n) (par : Option Nat) (m : Nat) : ∀ q ∈ kidsUp kids par m, q.2.length ≤ n + 1 := by
  intro q hq
  unfold kidsUp at hq
  split at hq
  · exact Nat.le_succ_of_le (h q hq)
  · split at hq
    · next c js e =>
      rcases List.mem_or_eq_of_mem_set hq with hq | rfl
      · exact Nat.le_succ_of_le (h q hq)
      · have := h _ (List.mem_of_getElem? e)
        simp at this ⊢
        exact this
    · exact Nat.le_succ_of_le (h q hq)
theorem kidsUp_its {A : CA} {kids : List (Addr × List Nat)} {par : Option Nat} {n : Nat} {cn b : Addr} (h : Its' A (kidsUp kids par n ++ [(cn, [])]) b) : Its' A kids b ∨ b = cn := by
  rcases h with z | z | z | z | z | ⟨q, hq, z⟩
  · exact .inl (.inl z)
  · exact .inl (.inr (.inl z))
  · exact .inl (.inr (.inr (.inl z)))
  · exact .inl (.inr (.inr (.inr (.inl z))))
  · exact .inl (.inr (.inr (.inr (.inr (.inl z)))))
  · rcases List.mem_append.mp hq with hq | hq
    · have : b ∈ kids.map (·.1) := by rw [← kidsUp_fst kids par n, ← z]; exact List.mem_map.mpr ⟨q, hq, rfl⟩
      obtain ⟨q', h1, h2⟩ := List.mem_map.mp this
      exact .inl (.inr (.inr (.inr (.inr (.inr ⟨q', h1, h2⟩)))))
    · rw [List.mem_singleton.mp hq] at z
      exact .inr z.symm
theorem kids_len (t : T) : t.kids.length ≤ t.size := by
  have e := T.size_kids t
  have : ∀ l : List T, l.length ≤ (l.map T.size).sum := fun l => by
    induction l with
    | nil => exact Nat.le_refl _
    | cons t l ih => rw [List.map_cons, List.sum_cons, List.length_cons]; have := T.size_pos t; omega
  have := this t.kids
  omega
theorem flat_len : ∀ st : List Wt, st.length ≤ (st.flatMap fun e => e.t.pre).length
  | [] => Nat.zero_le _
  | e :: st => by
    rw [List.flatMap_cons, List.length_append, List.length_cons]
    have := flat_len st
    have := T.size_pos e.t
    have : e.t.pre.length = e.t.size := rfl
    omega
theorem no_check {ls lk ll lp lc : Addr} : (cf ls lk ll lp lc).lookup ("check" : Str) = none := cf_no (by decide +kernel) (by decide +kernel) (by decide +kernel) (by decide +kernel) (by decide +kernel)
theorem no_keep {ls lk ll lp lc : Addr} : (cf ls lk ll lp lc).lookup ("keep" : Str) = none := cf_no (by decide +kernel) (by decide +kernel) (by decide +kernel) (by decide +kernel) (by decide +kernel)
section
variable {P : Program} {w : World} {K : PySem.W.Frag} {mg : Str → Option Value} {base : Heap}
abbrev sInit : Stmt := cS 0
theorem scInit : FnScope ["self", "statement", "waiting", "value", "parent", "deep", "loops", "blocks", "number", "at", "part", "inside"] ["self", "statement"] (defScope sInit) := ⟨rfl, rfl, rfl, by decide +kernel, rfl, by decide +kernel, by decide +kernel⟩
def spInit (K : PySem.W.Frag) (C : Addr) : Sp := fun vs H Q _ => ∃ (p dx a : Addr) (t : T), vs = [.ref p, .ref a] ∧ H p = some (.ins C dx []) ∧ IsS K H t a ∧ t.size ≤ 400 ∧ t.deep ≤ 100 ∧ t.blk ≤ 25 ∧ T.wf 0 t ∧
  ∀ (A : CA) (nodes : List (T × Addr)) (kids : List (Addr × List Nat)) (prs : List V) (H' : Hp), CodeAt K C H' p A nodes kids prs → Lay nodes kids → nodes.map (·.1) = t.pre → (∀ b, Its' A kids b → H b = none) → (∀ b o, H b = some o → b ≠ p → H' b = some o) → Q .non H'
/-- the state of the loop -/
structure Mid (K : PySem.W.Frag) (C : Addr) (H : Hp) (t : T) (p W : Addr) (A : CA) (nodes : List (T × Addr)) (kids : List (Addr × List Nat)) (prs : List V) (st : List Wt) (H1 : Hp) : Prop where
  b : Bld t nodes kids st
  c : CodeAt K C H1 p A nodes kids prs
  ap : Apart A kids
  pl : prs.length = nodes.length
  kl : ∀ q ∈ kids, q.2.length ≤ nodes.length
  w : H1 W = some (.lst (st.reverse.map fun e => V.ref e.q))
  nw : ¬ Its' A kids W
  wt : ∀ e ∈ st, WtOk K H1 e
  fr : ∀ b o, H b = some o → b ≠ p → H1 b = some o
  new : ∀ b, Its' A kids b → H b = none
  newW : H W = none
theorem ok_init {f C f1 f2 f3 : Addr} {fd fd1 fd2 fd3 : FuncData} (F : FnP K "__init__" "Code.__init__" sInit f fd) (Tx : Txt K mg) (TC : TxtC K mg C) (c1 : CalM P w K mg base 4 C "check" ["self", "value", "number", "deep", "loops", "blocks"] (spCheck K) f1 fd1)
    (c2 : CalM P w K mg base 1 C "keep" ["self", "statement", "parent"] (spKeepC K C) f2 fd2) (c3 : Cal P w K mg base 1 "parts_in" ["statement"] (spParts K) f3 fd3) : FnOk P w K mg base CX0 5 f fd ["self", "statement"] (spInit K C) := by
  refine fok F scInit (fun vs H Q E h => ?_) (fun cdv A outer s H vs Q E hr h => ?_)
  · obtain ⟨p, dx, a, t, rfl, _⟩ := h
    rfl
  · obtain ⟨p, dx, a, t, rfl, hp, ht, hz, hd, hb, hw, q⟩ := h
    have hr1 := hr.mono (show 1 ≤ 4 by decide)
    refine ⟨_, (pss_cons (ps_asg (pe_tup (pa_cons (pe_lst pa_nil) (pa_cons (pe_lst pa_nil) (pa_cons (pe_lst pa_nil) pa_nil)))) (pg_tup rfl (pgs_cons (pg_attr (pv 0)) (pgs_cons (pg_attr (pv 0)) (pgs_cons (pg_attr (pv 0)) pgs_nil)))))
 (pss_cons (ps_asg (pe_tup (pa_cons (pe_lst pa_nil) (pa_cons (pe_lst pa_nil) pa_nil))) (pg_tup rfl (pgs_cons (pg_attr (pv 0)) (pgs_cons (pg_attr (pv 0)) pgs_nil))))
 (pss_cons (ps_set (i := 2) scInit.nd rfl (.inl rfl) (pe_lst (pa_cons (pe_tup (pa_cons (pv 1) (pa_cons pe_non (pa_cons pe_int (pa_cons pe_int (pa_cons pe_int pa_nil)))))) pa_nil)))
 (pss_one (ps_while PassesOwn.never (pt_cmpR (op_neL0 hr.units0) (pv 2) (pe_lst pa_nil) (nomark _))
 (pss_cons (ps_asg (pe_bm0 PySem.F.plainAttrs_list PySem.F.slot_list_pop PySem.F.type_list_pop mt_pop (pv 2)) (pg_tup rfl (pgs_cons (pg_name (i := 3) scInit.nd rfl (.inl rfl)) (pgs_cons (pg_name (i := 4) scInit.nd rfl (.inl rfl)) (pgs_cons (pg_name (i := 5) scInit.nd rfl (.inl rfl)) (pgs_cons (pg_name (i := 6) scInit.nd rfl (.inl rfl)) (pgs_cons (pg_name (i := 7) scInit.nd rfl (.inl rfl)) pgs_nil)))))))
 (pss_cons (ps_set (i := 8) scInit.nd rfl (.inl rfl) (pe_callB call_len_seq (by rfl) Tx.len PySem.boot_len (pa_cons (pe_fld (pv 0) rfl) pa_nil)))
 (pss_cons (ps_expr (pe_meth (pv 0) TC.cl c1.m c1.ok hr c1.b .nil pass0 (pa_cons (pv 3) (pa_cons (pv 8) (pa_cons (pv 5) (pa_cons (pv 6) (pa_cons (pv 7) pa_nil)))))))
 (pss_cons (ps_expr (pe_meth (pv 0) TC.cl c2.m c2.ok hr1 c2.b .nil pass0 (pa_cons (pv 3) (pa_cons (pv 4) pa_nil))))
 (pss_one (ps_for PassesOwn.never rfl (pi_reversed (by rfl) Tx.reversed (pa_cons (pe_listEnum rfl (by rfl) Tx.list (by rfl) Tx.enumerate (pa_cons (pe_call c3.ok hr1 (by rfl) c3.m c3.kp c3.b .nil pass0 (pa_cons (pv 3) pa_nil)) pa_nil)) pa_nil)) (pg_tup rfl (pgs_cons (pg_name (i := 9) scInit.nd rfl (.inl rfl)) (pgs_cons (pg_name (i := 10) scInit.nd rfl (.inl rfl)) pgs_nil)))
 (pss_cons (ps_set (i := 11) scInit.nd rfl (.inl rfl) (pe_op op_add (pv 7) (pe_callTy call_int1 (by rfl) Tx.int (by decide +kernel) (pa_cons (pe_and (pe_cmpR op_eq (pe_ix ix_tup (pv 3) pe_int (fun _ _ => rfl)) pe_str (nomark _)) (pe_one (pe_cmpR op_eq (pv 9) pe_int (nomark _)))) pa_nil))))
 (pss_one (ps_expr (pe_bm PySem.F.plainAttrs_list PySem.F.slot_list_append PySem.F.type_list_append mt_append (pv 2) (pa_cons (pe_tup (pa_cons (pv 10) (pa_cons (pv 8) (pa_cons (pe_op op_add (pv 5) pe_int) (pa_cons (pe_op op_add (pv 6) (pe_callTy call_int1 (by rfl) Tx.int (by decide +kernel) (pa_cons (pe_cmpR op_eq (pe_ix ix_tup (pv 3) pe_int (fun _ _ => rfl)) pe_str (nomark _)) pa_nil))) (pa_cons (pv 11) pa_nil)))))) pa_nil)))))))))))))))), ?_⟩
    -- the five lists
    refine ⟨by decide, fun l1 hl1 => ⟨by decide, fun l2 hl2 => ⟨by decide, fun l3 hl3 => ⟨(by show 3 ≤ sizeLine; decide), fun T1 hT1 => ?_⟩⟩⟩⟩
    have s1 : Same H (upd H l1 (.lst [])) := same_upd hl1
    have s2 := s1.trans (same_upd (o := .lst []) hl2)
    have s3 := s2.trans (same_upd (o := .lst []) hl3)
    have s4 := s3.trans (same_upd (o := .tup [.ref l1, .ref l2, .ref l3]) hT1)
    have ob4 := s4 _ _ hp
    refine ⟨T1, _, rfl, SqT.of upd_same, rfl, .ref l1, _, rfl, ⟨_, rfl, p, C, dx, [], rfl, ob4, TC.cl, TC.ns, (by show 0 < 1000; decide), .ref l2, _, rfl, ⟨_, rfl, p, C, dx, _, rfl, upd_same, TC.cl, TC.nk, (by show 1 < 1000; decide), .ref l3, _, rfl, ⟨_, rfl, p, C, dx, _, rfl, upd_same, TC.cl, TC.nl, (by show 2 < 1000; decide), rfl, ?_⟩⟩⟩⟩
    refine ⟨by decide, fun l4 hl4 => ⟨by decide, fun l5 hl5 => ⟨(by show 2 ≤ sizeLine; decide), fun T2 hT2 => ?_⟩⟩⟩
    refine ⟨T2, _, rfl, SqT.of upd_same, rfl, .ref l4, _, rfl, ⟨_, rfl, p, C, dx, _, rfl, (same_upd hT2) _ _ ((same_upd hl5) _ _ ((same_upd hl4) _ _ upd_same)), TC.cl, TC.np, (by show 3 < 1000; decide), .ref l5, _, rfl, ⟨_, rfl, p, C, dx, _, rfl, upd_same, TC.cl, TC.nc, (by show 4 < 1000; decide), rfl, ?_⟩⟩⟩
    have v1 := same_upd (o := .lst []) hl1
    have v2 := same_upd (o := .lst []) hl2
    have v3 := same_upd (o := .lst []) hl3
    have vT1 := same_upd (o := .tup [.ref l1, .ref l2, .ref l3]) hT1
    have v4 := same_upd (o := .lst []) hl4
    have v5 := same_upd (o := .lst []) hl5
    have vT2 := same_upd (o := .tup [.ref l4, .ref l5]) hT2
    have kA : Kx p H _ := Same.kx s4 p
    have kB : Kx p (upd (upd (upd (upd H l1 (.lst [])) l2 (.lst [])) l3 (.lst [])) T1 (.tup [.ref l1, .ref l2, .ref l3])) _ := ((Kx.upd p _ (.ins C dx (putF "statements" (.ref l1) []))).trans (Kx.upd p _ (.ins C dx (putF "kinds" (.ref l2) (putF "statements" (.ref l1) []))))).trans (Kx.upd p _ (.ins C dx (putF "labels" (.ref l3) (putF "kinds" (.ref l2) (putF "statements" (.ref l1) [])))))
    have sC := (v4.trans v5).trans vT2
    have kC := Same.kx sC p
    have kD : ∀ X : Hp, Kx p X (upd (upd X p (.ins C dx (putF "parents" (.ref l4) (putF "labels" (.ref l3) (putF "kinds" (.ref l2) (putF "statements" (.ref l1) [])))))) p (.ins C dx (cf l1 l2 l3 l4 l5))) := fun X => (Kx.upd p _ (.ins C dx (putF "parents" (.ref l4) (putF "labels" (.ref l3) (putF "kinds" (.ref l2) (putF "statements" (.ref l1) [])))))).trans (Kx.upd p _ (.ins C dx (cf l1 l2 l3 l4 l5)))
    have kAll := ((kA.trans kB).trans kC).trans (kD _)
    have n1 := ne_of_none hp hl1
    have n2 := ne_of_none (s1 _ _ hp) hl2
    have n3 := ne_of_none (s2 _ _ hp) hl3
    have n4 := ne_of_none upd_same hl4
    have n5 := ne_of_none (v4 _ _ upd_same) hl5
    have a1 : (upd (upd (upd (upd H l1 (.lst [])) l2 (.lst [])) l3 (.lst [])) T1 (.tup [.ref l1, .ref l2, .ref l3])) l1 = some (.lst []) := vT1 _ _ (v3 _ _ (v2 _ _ upd_same))
    have a2 : (upd (upd (upd (upd H l1 (.lst [])) l2 (.lst [])) l3 (.lst [])) T1 (.tup [.ref l1, .ref l2, .ref l3])) l2 = some (.lst []) := vT1 _ _ (v3 _ _ upd_same)
    have a3 : (upd (upd (upd (upd H l1 (.lst [])) l2 (.lst [])) l3 (.lst [])) T1 (.tup [.ref l1, .ref l2, .ref l3])) l3 = some (.lst []) := vT1 _ _ upd_same
    have b1 := kB _ _ a1 n1.symm
    have b2 := kB _ _ a2 n2.symm
    have b3 := kB _ _ a3 n3.symm
    have d1 := kD _ _ _ (sC _ _ b1) n1.symm
    have d2 := kD _ _ _ (sC _ _ b2) n2.symm
    have d3 := kD _ _ _ (sC _ _ b3) n3.symm
    have d4 := kD _ _ _ (vT2 _ _ (v5 _ _ upd_same)) n4.symm
    have d5 := kD _ _ _ (vT2 _ _ upd_same) n5.symm
    have m12 := ne_of_none upd_same hl2
    have m13 := ne_of_none (v2 _ _ upd_same) hl3
    have m23 := ne_of_none upd_same hl3
    have m14 := ne_of_none b1 hl4
    have m24 := ne_of_none b2 hl4
    have m34 := ne_of_none b3 hl4
    have m15 := ne_of_none (v4 _ _ b1) hl5
    have m25 := ne_of_none (v4 _ _ b2) hl5
    have m35 := ne_of_none (v4 _ _ b3) hl5
    have m45 := ne_of_none upd_same hl5
    have f2 := s1.free hl2
    have f3 := s2.free hl3
    have f4 := (kA.trans kB).free hl4 n4.symm
    have f5 := (kA.trans kB).free (v4.free hl5) n5.symm
    -- waiting
    refine ⟨_, rfl, (by show 5 ≤ sizeLine; decide), fun q0 hq0 => ⟨(by show 1 ≤ sizeLine; decide), fun W hW => ?_⟩⟩
    have vq := same_upd (o := .tup [.ref a, .non, .int 1, .int 0, .int 0]) hq0
    have sE := vq.trans (same_upd (o := .lst [.ref q0]) hW)
    have kF := kAll.trans (Same.kx sE p)
    refine ⟨fun m σ H1 => ∃ nodes kids prs st v3 v4 v5 v6 v7 v8 v9 v10 v11, σ = [some (.ref p), some (.ref a), some (.ref W), v3, v4, v5, v6, v7, v8, v9, v10, v11] ∧ Mid K C H t p W ⟨dx, l1, l2, l3, l4, l5⟩ nodes kids prs st H1 ∧ m = t.size - nodes.length,
      ⟨_, [], [], [], [⟨q0, t, a, none, 1, 0, 0⟩], none, none, none, none, none, none, none, none, none, rfl, ?_, rfl⟩, ?_⟩
    · refine ⟨Bld.start q0 a hw hd hb, ⟨sE _ _ upd_same, sE _ _ d1, sE _ _ d2, sE _ _ d3, sE _ _ d4, sE _ _ d5, rfl, (fun q hq => nomatch hq), (fun q hq => nomatch hq)⟩, ⟨m12, m13, m14, m15, m23, m24, m25, m34, m35, m45, (fun q hq => nomatch hq), List.nodup_nil⟩, rfl, (fun q hq => nomatch hq), upd_same, ?_, ?_, kF, ?_, ?_⟩
      · rintro (z | z | z | z | z | ⟨q, hq, _⟩)
        · exact ne_of_none (vq _ _ d1) hW z.symm
        · exact ne_of_none (vq _ _ d2) hW z.symm
        · exact ne_of_none (vq _ _ d3) hW z.symm
        · exact ne_of_none (vq _ _ d4) hW z.symm
        · exact ne_of_none (vq _ _ d5) hW z.symm
        · exact nomatch hq
      · intro e he
        rw [List.mem_singleton.mp he]
        exact ⟨SqT.of ((same_upd hW) _ _ upd_same), IsS.mono (fun _ _ h => kF.sqT hp trivial h) _ _ ht⟩
      · rintro b (z | z | z | z | z | ⟨q, hq, _⟩)
        · rw [z]; exact hl1
        · rw [z]; exact f2
        · rw [z]; exact f3
        · rw [z]; exact f4
        · rw [z]; exact f5
        · exact nomatch hq
      · exact (kAll.trans (Same.kx vq p)).free hW (ne_of_none (vq _ _ upd_same) hW).symm
    rintro m σ H1 ⟨nodes, kids, prs, st, v3, v4, v5, v6, v7, v8, v9, v10, v11, rfl, M, rfl⟩
    refine ⟨_, rfl, by decide, fun e0 he0 => ⟨W, e0, _, rfl, rfl, SqL.of (same_upd he0 _ _ M.w), SqL.of upd_same, _, rfl, ?_⟩⟩
    have x0 := same_upd (o := .lst []) he0
    cases st with
    | nil =>
      refine ifF (by simp) ?_
      obtain ⟨L, hpre⟩ := M.b.done hz hd hw
      exact q _ nodes kids prs _ (M.c.same x0) L hpre M.new fun b o e n => x0 _ _ (M.fr b o e n)
    | cons e st =>
      refine ifT (by simp) ⟨_, fun σ' H' h => h, ?_⟩
      have hlt := M.b.lt
      have hpos := T.size_pos e.t
      obtain ⟨w1, w2, w3, w4⟩ := M.b.ok e List.mem_cons_self
      obtain ⟨hq, hs⟩ := M.wt e List.mem_cons_self
      have hdp := T.deep_pos e.t
      have hw1 : (upd H1 e0 (.lst [])) W = some (.lst (st.reverse.map (fun e => V.ref e.q) ++ [V.ref e.q])) := by
        rw [x0 _ _ M.w]
        simp
      -- pop
      refine ⟨_, rfl, .inl ⟨rfl, _, SqL.of hw1⟩, W, _, .ref e.q, rfl, rfl, hw1, by simp, ?_⟩
      rw [List.dropLast_concat]
      have k2 : Kx W (upd H1 e0 (.lst [])) (upd (upd H1 e0 (.lst [])) W (.lst (st.reverse.map fun e => V.ref e.q))) := Kx.upd _ _ _
      have c2' := (M.c.same x0).kx k2 hw1 M.nw
      have t2 : ∀ b xs, SqT K H1 b xs → SqT K (upd (upd H1 e0 (.lst [])) W (.lst (st.reverse.map fun e => V.ref e.q))) b xs := fun b xs h => k2.sqT hw1 trivial (same_sqT x0 h)
      refine ⟨e.q, _, rfl, t2 _ _ hq, rfl, _, _, rfl, _, _, rfl, _, _, rfl, _, _, rfl, _, _, rfl, rfl, ?_⟩
      -- number
      refine ⟨_, rfl, p, C, dx, _, _, rfl, c2'.ob, TC.cl, TC.nk, cf_k, l2, _, rfl, .inl (SqL.of c2'.kd), ?_⟩
      -- check
      refine ⟨_, rfl, p, dx, _, rfl, c2'.ob, no_check, _, rfl, _, rfl, _, rfl, _, rfl, _, rfl, p, e.a, e.t, _, _, _, e.loops, rfl, IsS.mono t2 _ _ hs, w1, (by rw [List.length_map]; omega), (by omega), (by omega), fun H3 s3 => ?_⟩
      have c3' := c2'.same s3
      -- keep
      refine ⟨_, rfl, p, dx, _, rfl, c3'.ob, no_keep, _, rfl, _, rfl, p, e.a, e.par, _, nodes, kids, prs, e.t, rfl, c3', M.ap, IsS.mono (fun _ _ h => same_sqT s3 (t2 _ _ h)) _ _ hs, (fun j hj => M.b.par e List.mem_cons_self j hj), (by omega), (by rw [M.pl]; omega), (fun k hk => by have := M.kl k hk; omega), fun cn H4 hcn c4 ap4 fr4 => ?_⟩
      have t4 : ∀ b xs, SqT K H1 b xs → SqT K H4 b xs := fun _ _ h => c3'.frT fr4 (same_sqT s3 (t2 _ _ h))
      have hW3 : H3 W = some (.lst (st.reverse.map fun e => V.ref e.q)) := s3 _ _ upd_same
      have hW4 := fr4 _ _ hW3 M.nw
      have hz4 : e.t.size ≤ 400 := by omega
      -- the parts
      refine ⟨_, rfl, e.a, e.t, rfl, IsS.mono t4 _ _ hs, hz4, fun l as H5 s5 hl5 h5 hs5 => ⟨l, _, rfl, SqL.of h5, fun lr Ts H6 s6 hlr hTs hlen h6 hT6 => ?_⟩⟩
      have s46 := s5.trans s6
      have hW6 := s46 _ _ hW4
      rw [List.length_map] at hlen
      have hkl := hs5.len
      have hs6 : IsSs K H6 e.t.kids as := hs5.same s6
      have t6 : ∀ b xs, SqT K H1 b xs → SqT K H6 b xs := fun _ _ h => same_sqT s46 (t4 _ _ h)
      have hv6 : IsS K H6 e.t e.a := IsS.mono t6 _ _ hs
      obtain ⟨xs6, hx6, _⟩ := hv6.head
      have nW' : ¬ Its' ⟨dx, l1, l2, l3, l4, l5⟩ (kidsUp kids e.par nodes.length ++ [(cn, [])]) W := fun z => (kidsUp_its z).elim M.nw fun z => ne_of_none hW3 hcn z
      have pH3 := c3'.ob
      refine ⟨lr, _, rfl, SqL.of h6, for_rev (K := K) (a := lr) (xs := Ts.map V.ref) (fun i σ H7 => ∃ v9 v10 v11 es, σ = [some (.ref p), some (.ref a), some (.ref W), some (.ref e.a), some (parV e.par), some (.int (e.deep : Nat)), some (.int (e.loops : Nat)), some (.int (e.blocks : Nat)), some (.int ((nodes.map fun q => V.str q.1.kind).length : Nat)), v9, v10, v11] ∧
        Kx W H6 H7 ∧ H7 W = some (.lst ((es ++ st).reverse.map fun e => V.ref e.q)) ∧ es.map (·.t) = e.t.kids.drop (as.length - i) ∧ (∀ u ∈ es, WtOk K H7 u) ∧
        (∀ (k : Nat) (u : Wt), es[k]? = some u → u.par = some nodes.length ∧ u.deep = e.deep + 1 ∧ u.loops = e.loops + (if e.t.isWh then 1 else 0) ∧ u.blocks = e.blocks + (if e.t.isFin = true ∧ as.length - i + k = 1 then 1 else 0)))
        ⟨v9, v10, v11, [], rfl, (fun _ _ h _ => h), hW6, by rw [Nat.sub_zero, hkl, List.drop_length]; rfl, (fun u hu => nomatch hu), fun k u hu => by simp at hu⟩ (fun i σ H7 _ ⟨_, _, _, _, _, k7, _⟩ => SqL.of (k7 _ _ h6 (ne_of_none (s5 _ _ hW4) hlr).symm)) ?_ ?_⟩
      · rintro i x σ H7 hi hx ⟨v9', v10', v11', es, rfl, k7, hW7, hts, hes, hat⟩
        rw [List.length_map] at hi hx
        generalize hj : Ts.length - 1 - i = j at hx
        obtain ⟨Tj, hTj, rfl⟩ : ∃ Tj, Ts[j]? = some Tj ∧ x = .ref Tj := by
          rw [List.getElem?_map] at hx
          obtain ⟨Tj, h1, h2⟩ := Option.map_eq_some_iff.mp hx
          exact ⟨Tj, h1, h2.symm⟩
        obtain ⟨aj, haj⟩ : ∃ aj, as[j]? = some aj := ⟨_, List.getElem?_eq_getElem (by omega)⟩
        obtain ⟨tj, htj, hsj⟩ := hs6.at' haj
        have hcT := hT6 j Tj (.ref aj) hTj (by rw [List.getElem?_map, haj]; rfl)
        have t7 : ∀ b xs, SqT K H6 b xs → SqT K H7 b xs := fun _ _ h => k7.sqT hW6 trivial h
        have hx7 := t7 _ _ hx6
        refine ⟨Tj, _, rfl, t7 _ _ (SqT.of hcT), rfl, _, _, rfl, _, _, rfl, rfl, ?_⟩
        have hdrop : e.t.kids.drop (as.length - (i + 1)) = tj :: e.t.kids.drop (as.length - i) := by
          have e1 : as.length - (i + 1) = j := by omega
          have e2 : as.length - i = j + 1 := by omega
          obtain ⟨hjl, hje⟩ := List.getElem?_eq_some_iff.mp htj
          rw [e1, e2, List.drop_eq_getElem_cons hjl, hje]
        have step : ∀ (bb : Nat) (qn : Addr) (ys : List V), bb = (if e.t.isFin = true ∧ j = 1 then 1 else 0) → H7 qn = none → ys = [.ref aj, .int (nodes.length : Nat), .int ((e.deep + 1 : Nat) : Int), .int ((e.loops + (if e.t.isWh then 1 else 0) : Nat) : Int), .int ((e.blocks + bb : Nat) : Int)] →
            ∃ es', Kx W H6 (upd (upd H7 qn (.tup ys)) W (.lst ((es ++ st).reverse.map (fun e => V.ref e.q) ++ [V.ref qn]))) ∧ (upd (upd H7 qn (.tup ys)) W (.lst ((es ++ st).reverse.map (fun e => V.ref e.q) ++ [V.ref qn]))) W = some (.lst ((es' ++ st).reverse.map fun e => V.ref e.q)) ∧ es'.map (·.t) = e.t.kids.drop (as.length - (i + 1)) ∧
              (∀ u ∈ es', WtOk K (upd (upd H7 qn (.tup ys)) W (.lst ((es ++ st).reverse.map (fun e => V.ref e.q) ++ [V.ref qn]))) u) ∧
              (∀ (k : Nat) (u : Wt), es'[k]? = some u → u.par = some nodes.length ∧ u.deep = e.deep + 1 ∧ u.loops = e.loops + (if e.t.isWh then 1 else 0) ∧ u.blocks = e.blocks + (if e.t.isFin = true ∧ as.length - (i + 1) + k = 1 then 1 else 0)) := by
          rintro bb qn ys hbb hqn rfl
          have x8 := same_upd (o := .tup [.ref aj, .int (nodes.length : Nat), .int ((e.deep + 1 : Nat) : Int), .int ((e.loops + (if e.t.isWh then 1 else 0) : Nat) : Int), .int ((e.blocks + bb : Nat) : Int)]) hqn
          have k8 := Kx.upd W (upd H7 qn (.tup [.ref aj, .int (nodes.length : Nat), .int ((e.deep + 1 : Nat) : Int), .int ((e.loops + (if e.t.isWh then 1 else 0) : Nat) : Int), .int ((e.blocks + bb : Nat) : Int)])) (.lst ((es ++ st).reverse.map (fun e => V.ref e.q) ++ [V.ref qn]))
          have t8 : ∀ b xs, SqT K H7 b xs → SqT K _ b xs := fun _ _ h => k8.sqT (x8 _ _ hW7) trivial (same_sqT x8 h)
          refine ⟨⟨qn, tj, aj, some nodes.length, e.deep + 1, e.loops + (if e.t.isWh then 1 else 0), e.blocks + bb⟩ :: es, (k7.trans (Same.kx x8 W)).trans k8, by rw [upd_same]; simp, by rw [List.map_cons, hdrop, hts], fun u hu => ?_, fun k u hu => ?_⟩
          · rcases List.mem_cons.mp hu with rfl | hu
            · exact ⟨k8.sqT (x8 _ _ hW7) trivial (SqT.of upd_same), IsS.mono (fun _ _ h => t8 _ _ (t7 _ _ h)) _ _ hsj⟩
            · exact (hes u hu).mono t8
          · cases k with
            | zero =>
              rw [List.getElem?_cons_zero] at hu
              cases hu
              have e1 : as.length - (i + 1) + 0 = j := by omega
              refine ⟨rfl, rfl, rfl, ?_⟩
              rw [e1, hbb]
            | succ k =>
              rw [List.getElem?_cons_succ] at hu
              have e2 : as.length - (i + 1) + (k + 1) = as.length - i + k := by omega
              rw [e2]
              exact hat k u hu
        have hnum : ((nodes.map fun q => V.str q.1.kind).length : Nat) = nodes.length := List.length_map ..
        have hlz : ((es ++ st).reverse.map fun e => V.ref e.q).length < sizeLine := small_lt (by
          rw [List.length_map, List.length_reverse, List.length_append]
          have h1 := congrArg List.length hts
          rw [List.length_map, List.length_drop] at h1
          have h2 := kids_len e.t
          have h3 := congrArg List.length M.b.pre
          rw [List.length_append, List.flatMap_cons, List.length_append] at h3
          have h4 := flat_len st
          have h5 : e.t.pre.length = e.t.size := rfl
          have h6 : t.pre.length = t.size := rfl
          omega)
        refine ⟨_, rfl, _, rfl, e.a, _, 0, _, rfl, rfl, hx7, atI_nat (j := 0) rfl, rfl, _, rfl, ?_⟩
        cases hf : e.t.isFin with
        | true =>
          refine ifT ((kind_fin _).trans hf) ⟨_, rfl, rfl, .inr ⟨_, rfl, _, _, rfl, rfl, ?_⟩⟩
          refine ⟨_, rfl, .inl ⟨rfl, _, SqL.of hW7⟩, _, rfl, _, rfl, _, rfl, _, _, rfl, rfl, _, rfl, _, rfl, e.a, _, 0, _, rfl, rfl, hx7, atI_nat (j := 0) rfl, rfl, .inr ⟨_, rfl, _, _, rfl, rfl, _, rfl, (by show 5 ≤ sizeLine; decide), fun qn hqn => ⟨W, _, _, rfl, rfl, (same_upd hqn) _ _ hW7, hlz, ?_⟩⟩⟩
          have hys : ([.ref aj, .int ((nodes.map fun q => V.str q.1.kind).length : Nat), .int ((e.deep : Nat) + 1), .int ((e.loops : Nat) + (if decide (V.str e.t.kind = V.str "while") = true then 1 else 0)), .int ((e.blocks : Nat) + (if decide (V.int (j : Nat) = V.int 1) = true then 1 else 0))] : List V) = [.ref aj, .int (nodes.length : Nat), .int ((e.deep + 1 : Nat) : Int), .int ((e.loops + (if e.t.isWh then 1 else 0) : Nat) : Int), .int ((e.blocks + (if e.t.isFin = true ∧ j = 1 then 1 else 0) : Nat) : Int)] := by
            rw [kind_wh, hnum, hf]
            have e1 : decide (V.int (j : Nat) = V.int 1) = decide (j = 1) := by rw [decide_eq_decide]; exact ⟨fun z => by have := V.int.inj z; omega, fun z => by rw [z]; rfl⟩
            rw [e1]
            cases e.t.isWh <;> by_cases hj1 : j = 1 <;> simp [hj1]
          obtain ⟨es', r1, r2, r3, r4, r5⟩ := step _ qn _ rfl hqn hys
          exact ⟨_, _, _, es', rfl, r1, r2, r3, r4, fun k u hu => by have := r5 k u hu; rw [hf] at this; exact this⟩
        | false =>
          refine ifF (fun z => Bool.false_ne_true ((hf.symm.trans (kind_fin _).symm).trans z)) (.inr ⟨_, rfl, _, _, rfl, rfl, ?_⟩)
          refine ⟨_, rfl, .inl ⟨rfl, _, SqL.of hW7⟩, _, rfl, _, rfl, _, rfl, _, _, rfl, rfl, _, rfl, _, rfl, e.a, _, 0, _, rfl, rfl, hx7, atI_nat (j := 0) rfl, rfl, .inr ⟨_, rfl, _, _, rfl, rfl, _, rfl, (by show 5 ≤ sizeLine; decide), fun qn hqn => ⟨W, _, _, rfl, rfl, (same_upd hqn) _ _ hW7, hlz, ?_⟩⟩⟩
          have hys : ([.ref aj, .int ((nodes.map fun q => V.str q.1.kind).length : Nat), .int ((e.deep : Nat) + 1), .int ((e.loops : Nat) + (if decide (V.str e.t.kind = V.str "while") = true then 1 else 0)), .int ((e.blocks : Nat) + (if false = true then 1 else 0))] : List V) = [.ref aj, .int (nodes.length : Nat), .int ((e.deep + 1 : Nat) : Int), .int ((e.loops + (if e.t.isWh then 1 else 0) : Nat) : Int), .int ((e.blocks + 0 : Nat) : Int)] := by
            rw [kind_wh, hnum]
            cases e.t.isWh <;> simp
          obtain ⟨es', r1, r2, r3, r4, r5⟩ := step 0 qn _ (by simp [hf]) hqn hys
          exact ⟨_, _, _, es', rfl, r1, r2, r3, r4, fun k u hu => by have := r5 k u hu; rw [hf] at this; exact this⟩
      · rintro σ H7 ⟨v9', v10', v11', es, rfl, k7, hW7, hts, hes, hat⟩
        rw [List.length_map, hlen, Nat.sub_self] at hts hat
        have N : News e nodes.length es := ⟨hts, fun k u hu => by have := hat k u hu; rw [Nat.zero_add] at this; exact this⟩
        refine ⟨t.size - (nodes ++ [(e.t, e.a)]).length, by rw [List.length_append]; simp; omega, nodes ++ [(e.t, e.a)], kidsUp kids e.par nodes.length ++ [(cn, [])], prs ++ [parV e.par], es ++ st, _, _, _, _, _, _, _, _, _, rfl, ⟨M.b.step N, (c4.same s46).kx k7 hW6 nW', ap4, ?_, ?_, hW7, nW', ?_, ?_, ?_, M.newW⟩, rfl⟩
        · rw [List.length_append, List.length_append, M.pl]; rfl
        · intro k hk
          rw [List.length_append]
          rcases List.mem_append.mp hk with hk | hk
          · exact kidsUp_le M.kl _ _ k hk
          · rw [List.mem_singleton.mp hk]
            exact Nat.zero_le _
        · intro u hu
          rcases List.mem_append.mp hu with hu | hu
          · exact hes u hu
          · exact (M.wt u (List.mem_cons_of_mem _ hu)).mono fun _ _ h => k7.sqT hW6 trivial (t6 _ _ h)
        · intro b o e1 n1
          have nb : b ≠ W := ne_of_none e1 M.newW
          have h1 := s3 _ _ (k2 _ _ (x0 _ _ (M.fr b o e1 n1)) nb)
          refine k7 _ _ (s46 _ _ (fr4 _ _ h1 fun z => ?_)) nb
          rw [M.new b z] at e1
          cases e1
        · intro b hb
          rcases kidsUp_its hb with z | rfl
          · exact M.new b z
          · cases e1 : H b with
            | none => rfl
            | some o =>
              have nb : b ≠ W := ne_of_none e1 M.newW
              have h1 := s3 _ _ (k2 _ _ (x0 _ _ (M.fr b o e1 (ne_of_none pH3 hcn).symm)) nb)
              rw [h1] at hcn
              cases hcn
end
end L2.K11
set_option Elab.async false
set_option linter.all false
set_option maxRecDepth 100000
set_option maxHeartbeats 1000000
/-! shortest_answers, all_ways, ways. -/
namespace L2.K11
open PySem PySem.Spec PyProof.Rows
theorem T.ws_kids (t : T) (h : t.isLeaf = false) : True := trivial
theorem leaf_ne {t : T} (h : t.isLeaf = true) : ¬ t.kind = "if" ∧ ¬ t.kind = "while" ∧ ¬ t.kind = "seq" ∧ ¬ t.kind = "try" ∧ ¬ t.kind = "final" := by
  cases t with
  | act x => exact (by decide +kernel : ¬ ("do" : Str) = "if" ∧ ¬ ("do" : Str) = "while" ∧ ¬ ("do" : Str) = "seq" ∧ ¬ ("do" : Str) = "try" ∧ ¬ ("do" : Str) = "final")
  | call x => exact (by decide +kernel : ¬ ("call" : Str) = "if" ∧ ¬ ("call" : Str) = "while" ∧ ¬ ("call" : Str) = "seq" ∧ ¬ ("call" : Str) = "try" ∧ ¬ ("call" : Str) = "final")
  | brk x => exact (by decide +kernel : ¬ ("break" : Str) = "if" ∧ ¬ ("break" : Str) = "while" ∧ ¬ ("break" : Str) = "seq" ∧ ¬ ("break" : Str) = "try" ∧ ¬ ("break" : Str) = "final")
  | cnt x => exact (by decide +kernel : ¬ ("continue" : Str) = "if" ∧ ¬ ("continue" : Str) = "while" ∧ ¬ ("continue" : Str) = "seq" ∧ ¬ ("continue" : Str) = "try" ∧ ¬ ("continue" : Str) = "final")
  | ret => exact (by decide +kernel : ¬ ("return" : Str) = "if" ∧ ¬ ("return" : Str) = "while" ∧ ¬ ("return" : Str) = "seq" ∧ ¬ ("return" : Str) = "try" ∧ ¬ ("return" : Str) = "final")
  | rse => exact (by decide +kernel : ¬ ("raise" : Str) = "if" ∧ ¬ ("raise" : Str) = "while" ∧ ¬ ("raise" : Str) = "seq" ∧ ¬ ("raise" : Str) = "try" ∧ ¬ ("raise" : Str) = "final")
  | ife x a b => cases h
  | wh x a => cases h
  | seq ts => cases h
  | tryy a b => cases h
  | fin a b => cases h
theorem n_wi : ¬ ("while" : Str) = "if" := by decide +kernel
theorem n_si : ¬ ("seq" : Str) = "if" := by decide +kernel
theorem n_sw : ¬ ("seq" : Str) = "while" := by decide +kernel
theorem n_ti : ¬ ("try" : Str) = "if" := by decide +kernel
theorem n_tw : ¬ ("try" : Str) = "while" := by decide +kernel
theorem n_ts : ¬ ("try" : Str) = "seq" := by decide +kernel
theorem n_fi : ¬ ("final" : Str) = "if" := by decide +kernel
theorem n_fw : ¬ ("final" : Str) = "while" := by decide +kernel
theorem n_fs : ¬ ("final" : Str) = "seq" := by decide +kernel
theorem n_ft : ¬ ("final" : Str) = "try" := by decide +kernel
theorem set_rep {n : Nat} {x : V} {ds : List V} : (List.replicate (n + 1) V.non ++ ds).set n x = List.replicate n V.non ++ (x :: ds) := by
  rw [List.set_append]
  rw [if_pos (by rw [List.length_replicate]; omega), List.replicate_succ', List.set_append, if_neg (by rw [List.length_replicate]; omega), List.length_replicate, Nat.sub_self]
  simp
section
variable {P : Program} {w : World} {K : PySem.W.Frag} {mg : Str → Option Value} {base : Heap}
abbrev sShort : Stmt := topS 21
theorem scShort : FnScope ["code", "found", "number", "kind", "parts", "part"] ["code"] (defScope sShort) := ⟨rfl, rfl, rfl, by decide +kernel, rfl, by decide +kernel, by decide +kernel⟩
/-- the dicts of the nodes from number n on -/
def Dicts (P : Program) (w : World) (K : PySem.W.Frag) (H : Hp) (nodes : List (T × Addr)) (ds : List Addr) : Prop :=
  ds.length ≤ nodes.length ∧ ∀ (j : Nat) (d : Addr), ds[j]? = some d → ∃ q, nodes[nodes.length - ds.length + j]? = some q ∧ DW P w K H d q.1.ws q.1.size
theorem Dicts.same {H H' : Hp} {nodes : List (T × Addr)} {ds : List Addr} (h : Dicts P w K H nodes ds) (s : Same H H') : Dicts P w K H' nodes ds :=
  ⟨h.1, fun j d e => let ⟨q, a, b⟩ := h.2 j d e; ⟨q, a, b.same s⟩⟩
theorem Dicts.cons {H : Hp} {nodes : List (T × Addr)} {ds : List Addr} {d : Addr} {q : T × Addr} (h : Dicts P w K H nodes ds) {i : Nat} (hi : nodes[i]? = some q) (e : i + 1 + ds.length = nodes.length) (hd : DW P w K H d q.1.ws q.1.size) : Dicts P w K H nodes (d :: ds) := by
  refine ⟨by rw [List.length_cons]; omega, fun j d' hj => ?_⟩
  cases j with
  | zero =>
    cases hj
    exact ⟨q, by rw [show nodes.length - (d :: ds).length + 0 = i by rw [List.length_cons]; omega]; exact hi, hd⟩
  | succ j =>
    rw [List.getElem?_cons_succ] at hj
    obtain ⟨q', a, b⟩ := h.2 j d' hj
    exact ⟨q', by rw [show nodes.length - (d :: ds).length + (j + 1) = nodes.length - ds.length + j by rw [List.length_cons]; omega]; exact a, b⟩
def spShort (P : Program) (w : World) (K : PySem.W.Frag) (C : Addr) : Sp := fun vs H Q _ => ∃ p A nodes kids prs, vs = [.ref p] ∧ CodeAt K C H p A nodes kids prs ∧ Lay nodes kids ∧
  ∀ (F : Addr) (ds : List Addr) (H' : Hp), Same H H' → H F = none → H' F = some (.lst (ds.map V.ref)) → ds.length = nodes.length → Dicts P w K H' nodes ds → Q (.ref F) H'
theorem DW.kxF {H H' : Hp} {F d : Addr} {zs : List V} {ws : List Way} {m : Nat} (h : DW P w K H d ws m) (k : Kx F H H') (hF : H F = some (.lst (V.non :: zs))) : DW P w K H' d ws m := by
  obtain ⟨ents, h1, ⟨g1, g2⟩, h3⟩ := h
  refine ⟨ents, k _ _ h1 (ne_of h1 hF (by intro z; cases z)), ⟨g1, fun e he => ?_⟩, h3⟩
  obtain ⟨a, b, l, ns, el, hl, hn⟩ := g2 e he
  refine ⟨a, k.sqT hF trivial b, l, ns, el, k _ _ hl (ne_of hl hF fun z => ?_), hn⟩
  have e1 := HO.lst.inj z
  cases ns with
  | nil => cases e1
  | cons n ns => cases e1
/-- the loop of shortest_answers -/
def ShInv (P : Program) (w : World) (K : PySem.W.Frag) (H : Hp) (p F : Addr) (nodes : List (T × Addr)) (i : Nat) (σ : St) (H1 : Hp) : Prop :=
  ∃ v2 v3 v4 v5 ds, σ = [some (.ref p), some (.ref F), v2, v3, v4, v5] ∧ Same H H1 ∧ H1 F = some (.lst (List.replicate (nodes.length - i) V.non ++ ds.map V.ref)) ∧ ds.length = i ∧ Dicts P w K H1 nodes ds
theorem sh_store {H H1 H3 : Hp} {p F d : Addr} {nodes : List (T × Addr)} {i k : Nat} {q : T × Addr} {ds : List Addr} {v2 v3 v4 v5 : Option V} {n : Int} (hF : H F = none) (s1 : Same H H1) (h1 : H1 F = some (.lst (List.replicate (nodes.length - i) V.non ++ ds.map V.ref))) (hl : ds.length = i) (D : Dicts P w K H1 nodes ds)
    (hk : k + 1 + i = nodes.length) (hn : n = (k : Nat)) (hq : nodes[k]? = some q) (s3 : Same H1 H3) (hd : DW P w K H3 d q.1.ws q.1.size) :
    ∃ (a : Addr) (xs : List V) (k0 : Int) (j : Nat), V.ref F = .ref a ∧ V.int n = .int k0 ∧ H3 a = some (.lst xs) ∧ ixN xs.length k0 = some j ∧ ShInv P w K H p F nodes (i + 1) [some (.ref p), some (.ref F), v2, v3, v4, v5] (upd H3 a (.lst (xs.set j (V.ref d)))) := by
  have e1 : nodes.length - i = k + 1 := by omega
  have h3 := s3 _ _ h1
  rw [e1] at h3
  have kx := Kx.upd F H3 (.lst ((List.replicate (k + 1) V.non ++ ds.map V.ref).set k (V.ref d)))
  have all : Same H (upd H3 F (.lst ((List.replicate (k + 1) V.non ++ ds.map V.ref).set k (V.ref d)))) := kx.same (s1.trans s3) hF
  refine ⟨F, _, n, k, rfl, rfl, h3, ?_, v2, v3, v4, v5, d :: ds, rfl, all, ?_, by rw [List.length_cons, hl], ?_⟩
  · rw [hn]
    unfold ixN
    rw [if_pos (by omega), if_pos (by rw [List.length_append, List.length_replicate]; omega)]
    rfl
  · rw [upd_same, set_rep, show nodes.length - (i + 1) = k by omega]
    rfl
  · have hF3 : H3 F = some (.lst (V.non :: (List.replicate k V.non ++ ds.map V.ref))) := by
      rw [h3, List.replicate_succ]
      rfl
    have D3 := D.same s3
    refine Dicts.cons ⟨D3.1, fun j d' e => ?_⟩ hq (by omega) (hd.kxF kx hF3)
    obtain ⟨q', a, b⟩ := D3.2 j d' e
    exact ⟨q', a, b.kxF kx hF3⟩
theorem ok_short {f C f0 f1 f2 f3 f4 f5 f6 : Addr} {fd fd0 fd1 fd2 fd3 fd4 fd5 fd6 : FuncData} (F : FnP K "shortest_answers" "shortest_answers" sShort f fd) (Tx : Txt K mg) (TC : TxtC K mg C) (m0 : Spm K C "__len__" f0) (b0 : Binds K fd0 ["self"] []) (g0 : FnOk P w K mg base CX0 1 f0 fd0 ["self"] (spLen K C))
    (c1 : Cal P w K mg base 3 "left_by_if" ["parts"] (spIf P w K) f1 fd1) (c2 : Cal P w K mg base 1 "left_by_while" ["body"] (spWh P w K) f2 fd2) (c3 : Cal P w K mg base 3 "left_by_seq" ["parts"] (spSeq P w K) f3 fd3)
    (c4 : Cal P w K mg base 3 "left_by_try" ["body", "handler"] (spTry P w K) f4 fd4) (c5 : Cal P w K mg base 3 "left_by_final" ["body", "block"] (spFin P w K) f5 fd5) (c6 : Cal P w K mg base 1 "left_by_leaf" ["kind", "label"] (spLeaf P w K) f6 fd6) :
    FnOk P w K mg base CX0 4 f fd ["code"] (spShort P w K C) := by
  refine fok F scShort (fun vs H Q E h => ?_) (fun cdv A outer s H vs Q E hr h => ?_)
  · obtain ⟨p, A, nodes, kids, prs, rfl, _⟩ := h
    rfl
  · obtain ⟨p, A', nodes, kids, prs, rfl, c, L, q⟩ := h
    have hr1 := hr.mono (show 1 ≤ 3 by decide)
    have hr2 := hr.mono (show 1 + 1 ≤ 3 by decide)
    refine ⟨_, (pss_cons (ps_set (i := 1) scShort.nd rfl (.inr rfl) (pe_op op_rep (pe_lst (pa_cons pe_non pa_nil)) (pe_callB (call_lenC (E := E0) m0 g0 hr2 b0 pass0) (by rfl) Tx.len PySem.boot_len (pa_cons (pv 0) pa_nil))))
 (pss_cons (ps_for PassesOwn.never rfl (pi_range3 (by rfl) Tx.range (pa_cons (pe_op op_sub (pe_callB (call_lenC (E := E0) m0 g0 hr2 b0 pass0) (by rfl) Tx.len PySem.boot_len (pa_cons (pv 0) pa_nil)) pe_int) (pa_cons (pe_un un_neg pe_int) (pa_cons (pe_un un_neg pe_int) pa_nil)))) (pg_name (i := 2) scShort.nd rfl (.inl rfl))
 (pss_cons (ps_set (i := 3) scShort.nd rfl (.inl rfl) (pe_ix ix_list (pe_fld (pv 0) rfl) (pv 2) (fun _ _ => rfl)))
 (pss_cons (ps_setLc (i := 4) (own := [("part", 5)]) (g := gName 5) (tt := tYes) (te := tOp (rIxL K) (tVar 1) (tVar 5)) rfl scShort.nd rfl rfl (sw_true rfl rfl rfl (by decide +kernel)) (pi_list (pe_ix ix_list (pe_fld (pv 0) rfl) (pv 2) (fun _ _ => rfl))) (blkOk_by (N := ["code", "found", "number", "kind", "parts", "part"]) (sc := defScope sShort) (by decide +kernel)) (fun _ _ _ _ _ => pg_name (i := 5) scShort.nd rfl (Or.inl rfl)) (fun _ _ _ _ _ => pts_nil) (fun _ _ _ _ _ => pe_ix ix_list (pv 1) (pv 5) (fun _ _ => rfl)))
 (pss_one (ps_if (pt_cmpR op_eq (pv 3) pe_str (nomark _))
 (pss_one (ps_asg (pe_call c1.ok hr (by rfl) c1.m c1.kp c1.b .nil pass0 (pa_cons (pv 4) pa_nil)) (pg_sub (pv 1) (pv 2) set_list)))
 (pss_one (ps_if (pt_cmpR op_eq (pv 3) pe_str (nomark _))
 (pss_one (ps_asg (pe_call c2.ok hr1 (by rfl) c2.m c2.kp c2.b .nil pass0 (pa_cons (pe_ix ix_list (pv 4) pe_int (fun _ _ => rfl)) pa_nil)) (pg_sub (pv 1) (pv 2) set_list)))
 (pss_one (ps_if (pt_cmpR op_eq (pv 3) pe_str (nomark _))
 (pss_one (ps_asg (pe_call c3.ok hr (by rfl) c3.m c3.kp c3.b .nil pass0 (pa_cons (pv 4) pa_nil)) (pg_sub (pv 1) (pv 2) set_list)))
 (pss_one (ps_if (pt_cmpR op_eq (pv 3) pe_str (nomark _))
 (pss_one (ps_asg (pe_call c4.ok hr (by rfl) c4.m c4.kp c4.b .nil pass0 (pa_cons (pe_ix ix_list (pv 4) pe_int (fun _ _ => rfl)) (pa_cons (pe_ix ix_list (pv 4) pe_int (fun _ _ => rfl)) pa_nil))) (pg_sub (pv 1) (pv 2) set_list)))
 (pss_one (ps_if (pt_cmpR op_eq (pv 3) pe_str (nomark _))
 (pss_one (ps_asg (pe_call c5.ok hr (by rfl) c5.m c5.kp c5.b .nil pass0 (pa_cons (pe_ix ix_list (pv 4) pe_int (fun _ _ => rfl)) (pa_cons (pe_ix ix_list (pv 4) pe_int (fun _ _ => rfl)) pa_nil))) (pg_sub (pv 1) (pv 2) set_list)))
 (pss_one (ps_asg (pe_call c6.ok hr1 (by rfl) c6.m c6.kp c6.b .nil pass0 (pa_cons (pv 3) (pa_cons (pe_ix ix_list (pe_fld (pv 0) rfl) (pv 2) (fun _ _ => rfl)) pa_nil))) (pg_sub (pv 1) (pv 2) set_list))))))))))))))))
 (pss_one (ps_ret (pv 1))))), ?_⟩
    have e0 : ∀ n : Nat, (List.replicate n [V.non]).flatten = List.replicate n V.non := fun n => by simp
    have hsm := L.small
    refine ⟨(by show 1 ≤ sizeLine; decide), fun l0 hl0 => ?_⟩
    have s0 := same_upd (o := .lst [.non]) hl0
    refine ⟨_, rfl, p, A'.dx, _, rfl, (c.same s0).ob, p, A', nodes, kids, prs, rfl, c.same s0, _, rfl, by omega, by omega, l0, _, _, rfl, rfl, upd_same, by omega, by omega, small_line (by simp; omega), fun F hF => ?_⟩
    have s1 := s0.trans (same_upd (o := .lst (List.replicate (Int.toNat (nodes.length : Nat)) [V.non]).flatten) hF)
    have hF0 := s0.free hF
    refine ⟨_, rfl, p, A'.dx, _, rfl, (c.same s1).ob, p, A', nodes, kids, prs, rfl, c.same s1, _, rfl, by omega, by omega, _, _, rfl, rfl, 1, rfl, 1, rfl, _, _, _, nodes.length, rfl, ?_, for_rangeC (ShInv P w K H p F nodes) ⟨none, none, none, none, [], rfl, s1, ?_, rfl, Nat.zero_le _, fun j d h => by simp at h⟩ ?_ ?_⟩
    · have := RgC.neg (i := (nodes.length : Int) - 1) (j := -1) (by omega) (by omega) (by decide) (by decide)
      rw [show ((nodes.length : Int) - 1 - -1).toNat = nodes.length by omega] at this
      exact this
    · rw [upd_same, e0]
      simp
    · rintro i σ H1 hi ⟨v2, v3, v4, v5, ds, rfl, s1, h1, hl, D⟩
      obtain ⟨k, hk⟩ : ∃ k, k + 1 + i = nodes.length := ⟨nodes.length - 1 - i, by omega⟩
      have hkn : ((nodes.length : Int) - 1 + (i : Nat) * -1) = ((k : Nat) : Int) := by omega
      obtain ⟨⟨t, at'⟩, hq⟩ : ∃ q, nodes[k]? = some q := ⟨_, List.getElem?_eq_getElem (by omega)⟩
      obtain ⟨⟨ck, js⟩, hkk⟩ : ∃ q, kids[k]? = some q := ⟨_, List.getElem?_eq_getElem (by rw [c.kl]; omega)⟩
      obtain ⟨hjs, hjk⟩ := L.kid k t at' ck js hq hkk
      have c1' := c.same s1
      have hck := c1'.kid _ (List.mem_of_getElem? hkk)
      have hlen : js.length = t.kids.length := by
        have := congrArg List.length hjs
        rw [List.length_map, List.length_map] at this
        exact this.symm
      refine ⟨_, rfl, p, C, A'.dx, _, _, rfl, c1'.ob, TC.cl, TC.nk, cf_k, _, rfl, A'.lk, _, _, _, rfl, rfl, SqL.of c1'.kd, by rw [hkn]; exact atI_nat (j := k) (by rw [List.getElem?_map, hq]; rfl), ?_⟩
      refine ⟨_, rfl, p, C, A'.dx, _, _, rfl, c1'.ob, TC.cl, TC.nc, cf_c, _, rfl, A'.lc, _, _, .ref ck, rfl, rfl, SqL.of c1'.ch, (by rw [hkn]; exact atI_nat (j := k) (by rw [List.getElem?_map, hkk]; rfl)), ck, rfl, ⟨_, SqL.of hck⟩, fun D0 hD0 => ?_⟩
      have hFD : F ≠ D0 := ne_of_none h1 hD0
      refine lc_list (K := K) (a := ck) (xs := js.map fun (j : Nat) => V.int j) (fun i H2 => ∃ kd : List (Addr × T), Same H1 H2 ∧ H2 D0 = some (.lst (kd.map fun q => V.ref q.1)) ∧ kd.map (·.2) = t.kids.take i ∧ ∀ q ∈ kd, DW P w K H1 q.1 q.2.ws q.2.size) ⟨[], same_upd hD0, upd_same, by simp, fun q hq => nomatch hq⟩ (fun i H2 _ ⟨_, s2, _⟩ => SqL.of (s2 _ _ hck)) ?_ ?_
      · rintro m x H2 hm ⟨kd, s2, h2, hts, hkd⟩
        obtain ⟨j, hj, rfl⟩ : ∃ j, js[m]? = some j ∧ x = .int (j : Nat) := by
          rw [List.getElem?_map] at hm
          obtain ⟨j, a, b⟩ := Option.map_eq_some_iff.mp hm
          exact ⟨j, a, b.symm⟩
        have hjb := hjk j (List.mem_of_getElem? hj)
        have hjt := congrArg (fun l => l[m]?) hjs
        rw [List.getElem?_map, List.getElem?_map, hj] at hjt
        obtain ⟨u, hu, hu2⟩ : ∃ u, t.kids[m]? = some u ∧ some u = (nodes[j]?).map (·.1) := by
          cases hku : t.kids[m]? with
          | none =>
            rw [hku] at hjt
            cases hjt
          | some u =>
            rw [hku] at hjt
            exact ⟨u, rfl, Option.some.inj hjt⟩
        obtain ⟨⟨u', au⟩, hn2, rfl⟩ := Option.map_eq_some_iff.mp hu2.symm
        have hjl : j < nodes.length := (List.getElem?_eq_some_iff.mp hn2).1
        obtain ⟨d, hd⟩ : ∃ d, ds[j - (k + 1)]? = some d := ⟨_, List.getElem?_eq_getElem (by omega)⟩
        obtain ⟨q', hq', hdw⟩ := D.2 _ _ hd
        rw [show nodes.length - ds.length + (j - (k + 1)) = j by omega, hn2] at hq'
        cases hq'
        have hat : (List.replicate (nodes.length - i) V.non ++ ds.map V.ref)[j]? = some (V.ref d) := by
          rw [List.getElem?_append_right (by rw [List.length_replicate]; omega), List.length_replicate, show nodes.length - i = k + 1 by omega, List.getElem?_map, hd]
          rfl
        refine ⟨rfl, _, rfl, _, rfl, F, _, _, _, rfl, rfl, SqL.of (s2 _ _ h1), atI_nat (j := j) hat, _, h2, ?_, kd ++ [(d, u')], fun b o e => ?_, ?_, ?_, ?_⟩
        · have h1 := congrArg List.length hts
          rw [List.length_map] at h1
          have h2 := List.length_take_le m t.kids
          have h3 := kids_len t
          have h4 := (L.node _ (List.mem_of_getElem? hq)).1
          dsimp only at h4
          exact small_lt (by rw [List.length_map]; rw [List.length_take] at h1; omega)
        · rw [upd_ne (ne_of_none e hD0)]
          exact s2 b o e
        · rw [upd_same, List.map_append]
          rfl
        · rw [List.map_append, hts, List.take_add_one, hu]
          rfl
        · intro q' hq'
          rcases List.mem_append.mp hq' with hq' | hq'
          · exact hkd q' hq'
          · rw [List.mem_singleton.mp hq']
            exact hdw
      · rintro H2 ⟨kd, s2, h2, hts, hkd⟩
        rw [List.length_map, hlen, List.take_length] at hts
        have hsz := (L.node _ (List.mem_of_getElem? hq)).1
        have hways := L.ways (List.mem_of_getElem? hq)
        have hks := T.size_kids t
        dsimp only at hsz hways
        have kd2 : ∀ q ∈ kd, DW P w K H2 q.1 q.2.ws q.2.size := fun q hq => (hkd q hq).same s2
        have store : ∀ {d : Addr} {H3 : Hp}, Same H2 H3 → DW P w K H3 d t.ws t.size → ∃ (a : Addr) (xs : List V) (k0 : Int) (j : Nat), V.ref F = .ref a ∧ V.int ((nodes.length : Int) - 1 + (i : Nat) * -1) = .int k0 ∧ H3 a = some (.lst xs) ∧ ixN xs.length k0 = some j ∧ ShInv P w K H p F nodes (i + 1) _ (upd H3 a (.lst (xs.set j (V.ref d)))) :=
          fun s3 hd => sh_store (v2 := some (.int ((nodes.length : Int) - 1 + (i : Nat) * -1))) (v3 := some (.str t.kind)) (v4 := some (.ref D0)) (v5 := v5) hF0 s1 h1 hl D hk hkn hq (s2.trans s3) hd
        cases hlf : t.isLeaf with
        | true =>
          obtain ⟨m1, m2, m3, m4, m5⟩ := leaf_ne hlf
          refine ⟨_, rfl, rfl, _, rfl, ifF (vsF m1) ⟨_, rfl, rfl, _, rfl, ifF (vsF m2) ⟨_, rfl, rfl, _, rfl, ifF (vsF m3) ⟨_, rfl, rfl, _, rfl, ifF (vsF m4) ⟨_, rfl, rfl, _, rfl, ifF (vsF m5) ?_⟩⟩⟩⟩⟩
          have c2' := c1'.same s2
          refine ⟨_, rfl, _, rfl, p, C, A'.dx, _, _, rfl, c2'.ob, TC.cl, TC.nl, cf_l, _, rfl, A'.ll, _, _, t.label, rfl, rfl, SqL.of c2'.lb, (by rw [hkn]; exact atI_nat (j := k) (by rw [List.getElem?_map, hq]; rfl)), t, rfl, hlf, hways, fun d H3 s3 _ hd => ⟨_, rfl, _, rfl, ?_⟩⟩
          exact store s3 (hd.mono (T.size_pos t) fun _ => Iff.rfl)
        | false =>
          cases t with
          | act x => cases hlf
          | call x => cases hlf
          | brk x => cases hlf
          | cnt x => cases hlf
          | ret => cases hlf
          | rse => cases hlf
          | ife x a b =>
            obtain ⟨d0, d1, rfl⟩ : ∃ d0 d1, kd = [(d0, a), (d1, b)] := by
              match kd, hts with
              | [(d0, _), (d1, _)], h => simp [T.kids] at h; exact ⟨d0, d1, by rw [h.1, h.2]⟩
            have z0 := kd2 _ (List.mem_cons_self)
            have z1 := kd2 _ (List.mem_cons_of_mem _ List.mem_cons_self)
            simp only [T.kids, List.map_cons, List.map_nil, List.sum_cons, List.sum_nil] at hks
            refine ⟨_, rfl, rfl, _, rfl, ifT (decide_eq_true rfl) ⟨_, rfl, D0, [(d0, a.ws), (d1, b.ws)], a.size + b.size, rfl, SqL.of h2, ?_, by omega, fun d H3 s3 _ hd => ⟨_, rfl, _, rfl, ?_⟩⟩⟩
            · intro q' hq'
              rcases List.mem_cons.mp hq' with rfl | hq'
              · exact z0.mono (by dsimp only; omega) fun _ => Iff.rfl
              · rw [List.mem_singleton.mp hq']
                exact z1.mono (by dsimp only; omega) fun _ => Iff.rfl
            · exact store s3 (hd.mono (by omega) fun z => by simp [T.ws])
          | wh x a =>
            obtain ⟨d0, rfl⟩ : ∃ d0, kd = [(d0, a)] := by
              match kd, hts with
              | [(d0, _)], h => simp [T.kids] at h; exact ⟨d0, by rw [h]⟩
            have z0 := kd2 _ (List.mem_cons_self)
            simp only [T.kids, List.map_cons, List.map_nil, List.sum_cons, List.sum_nil] at hks
            refine ⟨_, rfl, rfl, _, rfl, ifF (vsF n_wi) ⟨_, rfl, rfl, _, rfl, ifT (decide_eq_true rfl) ⟨_, rfl, D0, _, _, .ref d0, rfl, rfl, SqL.of h2, atI_nat (j := 0) rfl, d0, a.ws, a.size, rfl, z0, by omega, hways, fun d H3 s3 _ hd => ⟨_, rfl, _, rfl, ?_⟩⟩⟩⟩
            exact store s3 (hd.mono (by omega) fun z => by rw [T.ws])
          | seq ts =>
            simp only [T.kids] at hks hts
            refine ⟨_, rfl, rfl, _, rfl, ifF (vsF n_si) ⟨_, rfl, rfl, _, rfl, ifF (vsF n_sw) ⟨_, rfl, rfl, _, rfl, ifT (decide_eq_true rfl) ⟨_, rfl, D0, kd.map (fun q => (q.1, q.2.ws, q.2.size)), rfl, ?_, ?_, ?_, fun d H3 s3 _ hd => ⟨_, rfl, _, rfl, ?_⟩⟩⟩⟩⟩
            · rw [List.map_map]
              exact SqL.of h2
            · intro q' hq'
              obtain ⟨q0, h0, rfl⟩ := List.mem_map.mp hq'
              exact kd2 q0 h0
            · rw [List.map_map, show ((fun q : Pt => q.2.2) ∘ fun q : Addr × T => (q.1, q.2.ws, q.2.size)) = T.size ∘ (fun q : Addr × T => q.2) from rfl, ← List.map_map, hts]
              omega
            · refine store s3 (hd.mono ?_ fun z => ?_)
              · rw [List.map_map, show ((fun q : Pt => q.2.2) ∘ fun q : Addr × T => (q.1, q.2.ws, q.2.size)) = T.size ∘ (fun q : Addr × T => q.2) from rfl, ← List.map_map, hts]
                omega
              · rw [List.map_map, show ((fun q : Pt => q.2.1) ∘ fun q : Addr × T => (q.1, q.2.ws, q.2.size)) = T.ws ∘ (fun q : Addr × T => q.2) from rfl, ← List.map_map, hts, T.ws, wsS_eq]
          | tryy a b =>
            obtain ⟨d0, d1, rfl⟩ : ∃ d0 d1, kd = [(d0, a), (d1, b)] := by
              match kd, hts with
              | [(d0, _), (d1, _)], h => simp [T.kids] at h; exact ⟨d0, d1, by rw [h.1, h.2]⟩
            have z0 := kd2 _ (List.mem_cons_self)
            have z1 := kd2 _ (List.mem_cons_of_mem _ List.mem_cons_self)
            simp only [T.kids, List.map_cons, List.map_nil, List.sum_cons, List.sum_nil] at hks
            refine ⟨_, rfl, rfl, _, rfl, ifF (vsF n_ti) ⟨_, rfl, rfl, _, rfl, ifF (vsF n_tw) ⟨_, rfl, rfl, _, rfl, ifF (vsF n_ts) ⟨_, rfl, rfl, _, rfl, ifT (decide_eq_true rfl) ⟨_, rfl, D0, _, _, .ref d0, rfl, rfl, SqL.of h2, atI_nat (j := 0) rfl, _, rfl, D0, _, _, .ref d1, rfl, rfl, SqL.of h2, atI_nat (j := 1) rfl,
              d0, d1, a.ws, b.ws, a.size, b.size, rfl, z0, z1, by omega, fun d H3 s3 _ hd => ⟨_, rfl, _, rfl, ?_⟩⟩⟩⟩⟩⟩
            exact store s3 (hd.mono (by omega) fun z => by rw [T.ws]; rfl)
          | fin a b =>
            obtain ⟨d0, d1, rfl⟩ : ∃ d0 d1, kd = [(d0, a), (d1, b)] := by
              match kd, hts with
              | [(d0, _), (d1, _)], h => simp [T.kids] at h; exact ⟨d0, d1, by rw [h.1, h.2]⟩
            have z0 := kd2 _ (List.mem_cons_self)
            have z1 := kd2 _ (List.mem_cons_of_mem _ List.mem_cons_self)
            simp only [T.kids, List.map_cons, List.map_nil, List.sum_cons, List.sum_nil] at hks
            refine ⟨_, rfl, rfl, _, rfl, ifF (vsF n_fi) ⟨_, rfl, rfl, _, rfl, ifF (vsF n_fw) ⟨_, rfl, rfl, _, rfl, ifF (vsF n_fs) ⟨_, rfl, rfl, _, rfl, ifF (vsF n_ft) ⟨_, rfl, rfl, _, rfl, ifT (decide_eq_true rfl) ⟨_, rfl, D0, _, _, .ref d0, rfl, rfl, SqL.of h2, atI_nat (j := 0) rfl, _, rfl, D0, _, _, .ref d1, rfl, rfl, SqL.of h2, atI_nat (j := 1) rfl,
              d0, d1, a.ws, b.ws, a.size, b.size, rfl, z0, z1, by omega, T.ws_ne a, fun d H3 s3 _ hd => ⟨_, rfl, _, rfl, ?_⟩⟩⟩⟩⟩⟩⟩
            exact store s3 (hd.mono (by omega) fun z => by rw [T.ws]; rfl)
    · rintro σ H1 ⟨v2, v3, v4, v5, ds, rfl, s1, h1, hl, D⟩
      rw [Nat.sub_self] at h1
      exact ⟨_, rfl, q F ds H1 s1 hF0 h1 hl D⟩
end
end L2.K11
set_option Elab.async false
set_option linter.all false
set_option maxRecDepth 100000
set_option maxHeartbeats 1000000
/-! all_ways, ways. -/
namespace L2.K11
open PySem PySem.Spec PyProof.Rows
/-- a list of ways, strictly ascending -/
def WL (K : PySem.W.Frag) (H : Hp) (l : Addr) (ws : List Way) : Prop := ∃ L : List AW, H l = some (.lst (L.map fun p => V.ref p.1)) ∧ AwOk K H L ∧ Asc (L.map (·.2)) ∧ ∀ z, z ∈ L.map (·.2) ↔ z ∈ ws
theorem WL.same {K : PySem.W.Frag} {H H' : Hp} {l : Addr} {ws : List Way} (h : WL K H l ws) (s : Same H H') : WL K H' l ws :=
  let ⟨L, a, b, c, d⟩ := h; ⟨L, s _ _ a, fun p hp => same_sqT s (b p hp), c, d⟩
theorem WL.kx {K : PySem.W.Frag} {H H' : Hp} {l D : Addr} {zs : List V} {ws : List Way} (h : WL K H l ws) (k : Kx D H H') (hD : H D = some (.lst zs)) (n : l ≠ D) : WL K H' l ws :=
  let ⟨L, a, b, c, d⟩ := h; ⟨L, k _ _ a n, fun p hp => k.sqT hD trivial (b p hp), c, d⟩
def rSortedPW (P : Program) (w : World) (K : PySem.W.Frag) : List V → Hp → VK → Prop := fun xs H Q => ∃ (a : Addr) (ents : List Dent), xs = [V.ref a] ∧ Rd H a (dwO P w a ents) ∧ KeysOk K H ents ∧ (ents.map (·.1)).Nodup ∧
  ∀ (p : Addr) (L' : List AW), H p = none → L'.Perm (ents.map fun e => (e.2.1, e.1)) → Asc (L'.map (·.2)) → Q (.ref p) (upd H p (.lst (L'.map fun q => V.ref q.1)))
theorem call_sortedPW {X : Cx} (hc : X.calm = true) (hu : X.A.units + 6 < cLine) : CallR X (.builtin "sorted") (rSortedPW X.prog X.w X.K) := call_sortedDW hc hu
section
variable {P : Program} {w : World} {K : PySem.W.Frag} {mg : Str → Option Value} {base : Heap}
abbrev sAll : Stmt := topS 22
theorem scAll : FnScope ["code", "found"] ["code"] (defScope sAll) := ⟨rfl, rfl, rfl, by decide +kernel, rfl, by decide +kernel, by decide +kernel⟩
def spAll (K : PySem.W.Frag) (C : Addr) : Sp := fun vs H Q _ => ∃ p A nodes kids prs, vs = [.ref p] ∧ CodeAt K C H p A nodes kids prs ∧ Lay nodes kids ∧
  ∀ (R : Addr) (ls : List Addr) (H' : Hp), Same H H' → H R = none → H' R = some (.lst (ls.map V.ref)) → ls.length = nodes.length → (∀ (i : Nat) (l : Addr) (q : T × Addr), ls[i]? = some l → nodes[i]? = some q → WL K H' l q.1.ws ∧ H l = none) → Q (.ref R) H'
theorem ok_all {f C f1 : Addr} {fd fd1 : FuncData} (F : FnP K "all_ways" "all_ways" sAll f fd) (Tx : Txt K mg) (c1 : Cal P w K mg base 4 "shortest_answers" ["code"] (spShort P w K C) f1 fd1) : FnOk P w K mg base CX0 5 f fd ["code"] (spAll K C) := by
  refine fok F scAll (fun vs H Q E h => ?_) (fun cdv A outer s H vs Q E hr h => ?_)
  · obtain ⟨p, A, nodes, kids, prs, rfl, _⟩ := h
    rfl
  · obtain ⟨p, A', nodes, kids, prs, rfl, c, L, q⟩ := h
    have hu6 : (A.deeper (envOfC "all_ways" (defScope sAll) s.heap.objs.size f cdv)).units + 6 < cLine := by have := hr.units; omega
    refine ⟨_, pss_one (ps_ret (pe_lc (own := [("found", 1)]) (g := gName 1) (tt := tYes) (te := tCB (rSortedPW P w K) (tCons (tVar 1) tNil)) rfl scAll.nd (pi_list (pe_call c1.ok hr (by rfl) c1.m c1.kp c1.b .nil pass0 (pa_cons (pv 0) pa_nil))) (blkOk_by (N := ["code", "found"]) (sc := defScope sAll) (by decide +kernel))
      (fun _ _ _ _ _ => pg_name (i := 1) scAll.nd rfl (Or.inl rfl)) (fun _ _ _ _ _ => pts_nil) (fun _ _ _ _ _ => pe_callB (call_sortedPW rfl hu6) (by rfl) Tx.sorted (by decide +kernel) (pa_cons (pv 1) pa_nil)))), ?_⟩
    refine ⟨_, rfl, p, A', nodes, kids, prs, rfl, c, L, fun F0 ds H1 s1 hF0 h1 hdl D => ⟨F0, rfl, ⟨_, SqL.of h1⟩, fun D0 hD0 => ?_⟩⟩
    refine lc_list (K := K) (a := F0) (xs := ds.map V.ref) (fun i H2 => ∃ ls : List Addr, Same H1 H2 ∧ H2 D0 = some (.lst (ls.map V.ref)) ∧ ls.length = i ∧ ∀ (j : Nat) (l : Addr) (q : T × Addr), ls[j]? = some l → nodes[j]? = some q → WL K H2 l q.1.ws ∧ l ≠ D0 ∧ H1 l = none) ⟨[], same_upd hD0, upd_same, rfl, fun j l q h => by simp at h⟩
      (fun i H2 _ ⟨_, s2, _⟩ => SqL.of (s2 _ _ h1)) ?_ ?_
    · rintro i x H2 hi ⟨ls, s2, h2, hl, hw⟩
      obtain ⟨d, hd, rfl⟩ : ∃ d, ds[i]? = some d ∧ x = .ref d := by
        rw [List.getElem?_map] at hi
        obtain ⟨d, a, b⟩ := Option.map_eq_some_iff.mp hi
        exact ⟨d, a, b.symm⟩
      obtain ⟨qn, hqn, hdw⟩ := D.2 i d hd
      rw [show nodes.length - ds.length + i = i by omega] at hqn
      obtain ⟨ents, he, g, hww⟩ := hdw.same s2
      have hin := (List.getElem?_eq_some_iff.mp hqn).1
      have hsm := L.small
      refine ⟨rfl, _, rfl, d, ents, rfl, .inl he, g.keys, g.1, fun p0 L' hp0 pm asc => ⟨_, (same_upd hp0) _ _ h2, small_lt (by rw [List.length_map]; omega), ls ++ [p0], fun b o e => ?_, ?_, by rw [List.length_append, hl]; rfl, fun j l q' hj hq' => ?_⟩⟩
      · rw [upd_ne (ne_of_none e hD0)]
        exact (same_upd hp0) _ _ (s2 _ _ e)
      · rw [upd_same, List.map_append]
        rfl
      · have sp := same_upd (o := .lst (L'.map fun q => V.ref q.1)) hp0
        have k := Kx.upd D0 (upd H2 p0 (.lst (L'.map fun q => V.ref q.1))) (.lst (ls.map V.ref ++ [V.ref p0]))
        have hD := sp _ _ h2
        rcases Nat.lt_trichotomy j ls.length with h | h | h
        · rw [List.getElem?_append_left h] at hj
          obtain ⟨a, b⟩ := hw j l q' hj hq'
          exact ⟨(a.same sp).kx k hD b.1, b⟩
        · subst h
          rw [List.getElem?_append_right (Nat.le_refl _), Nat.sub_self] at hj
          cases hj
          rw [hl, hqn] at hq'
          cases hq'
          have n : p0 ≠ D0 := (ne_of_none h2 hp0).symm
          refine ⟨WL.kx ⟨L', upd_same, fun x hx => ?_, asc, fun z => ?_⟩ k hD n, n, s2.free hp0⟩
          · have hx' := pm.mem_iff.mp hx
            obtain ⟨e, he', rfl⟩ := List.mem_map.mp hx'
            exact same_sqT sp (g.2 e he').2.1
          · rw [(pm.map (·.2)).mem_iff, List.map_map]
            exact hww z
        · rw [List.getElem?_eq_none (by rw [List.length_append]; simp; omega)] at hj
          cases hj
    · rintro H2 ⟨ls, s2, h2, hl, hw⟩
      rw [List.length_map] at hl
      exact q D0 ls H2 (s1.trans s2) (s1.free hD0) h2 (by omega) fun i l q' a b => ⟨(hw i l q' a b).1, s1.free (hw i l q' a b).2.2⟩
abbrev sWays : Stmt := topS 23
theorem scWays : FnScope ["code", "number"] ["code", "number"] (defScope sWays) := ⟨rfl, rfl, rfl, by decide +kernel, rfl, by decide +kernel, by decide +kernel⟩
def spWays (K : PySem.W.Frag) (C : Addr) : Sp := fun vs H Q _ => ∃ p A nodes kids prs i q k, Place K C H vs p A nodes kids prs i q k ∧ Lay nodes kids ∧ ∀ l H', Same H H' → H l = none → WL K H' l q.1.ws → Q (.ref l) H'
theorem no_kind {ls lk ll lp lc : Addr} : (cf ls lk ll lp lc).lookup ("kind" : Str) = none := cf_no (by decide +kernel) (by decide +kernel) (by decide +kernel) (by decide +kernel) (by decide +kernel)
theorem ok_ways {f C f1 f2 : Addr} {fd fd1 fd2 : FuncData} (F : FnP K "ways" "ways" sWays f fd) (TC : TxtC K mg C) (c1 : Cal P w K mg base 5 "all_ways" ["code"] (spAll K C) f1 fd1) (c2 : CalM P w K mg base 4 C "kind" ["self", "number"] (spKind K C) f2 fd2) : FnOk P w K mg base CX0 6 f fd ["code", "number"] (spWays K C) := by
  refine fok F scWays (fun vs H Q E h => ?_) (fun cdv A outer s H vs Q E hr h => ?_)
  · obtain ⟨p, A, nodes, kids, prs, i, q, k, x, _⟩ := h
    rw [x.vs] <;> rfl
  · obtain ⟨p, A', nodes, kids, prs, i, q, k, x, L, qq⟩ := h
    obtain ⟨rfl, c, hq, hk⟩ := id x
    have hr4 := hr.mono (show 4 ≤ 5 by decide)
    refine ⟨_, pss_cons (ps_expr (pe_meth (pv 0) TC.cl c2.m c2.ok hr4 c2.b .nil pass0 (pa_cons (pv 1) pa_nil))) (pss_one (ps_ret (pe_ix ix_list (pe_call c1.ok hr (by rfl) c1.m c1.kp c1.b .nil pass0 (pa_cons (pv 0) pa_nil)) (pv 1) (fun _ _ => rfl)))), ?_⟩
    refine ⟨_, rfl, p, A'.dx, _, rfl, c.ob, no_kind, _, rfl, p, A', nodes, kids, prs, i, q, k, ⟨rfl, c, hq, hk⟩, ?_⟩
    refine ⟨_, rfl, p, A', nodes, kids, prs, rfl, c, L, fun R ls H1 s1 hR h1 hl hw => ?_⟩
    obtain ⟨l, hl0⟩ : ∃ l, ls[i]? = some l := ⟨_, List.getElem?_eq_getElem (by rw [hl]; exact x.lt)⟩
    exact ⟨_, rfl, R, _, _, .ref l, rfl, rfl, SqL.of h1, atI_nat (j := i) (by rw [List.getElem?_map, hl0]; rfl), qq l H1 s1 (hw i l q hl0 hq).2 (hw i l q hl0 hq).1⟩
end
end L2.K11
set_option Elab.async false
set_option linter.all false
set_option maxRecDepth 100000
set_option maxHeartbeats 1000000
/-! The law's draws. -/
namespace L2.K11
open PySem PySem.Spec PyProof.Rows
/-- a source of draws at r, good for m more -/
def Src (H : Hp) (r : Addr) (m : Nat) : Prop := ∃ z0 z1 z2 : Int, H r = some (.lst [.int z0, .int z1, .int z2]) ∧ 0 ≤ z1 ∧ z1 < 2147483647 ∧ 0 ≤ z2 ∧ z2 + m ≤ 1000000000
theorem Src.same {H H' : Hp} {r : Addr} {m : Nat} (h : Src H r m) (s : Same H H') : Src H' r m :=
  let ⟨a, b, c, d, e⟩ := h; ⟨a, b, c, s _ _ d, e⟩
theorem Src.mono {H : Hp} {r : Addr} {m n : Nat} (h : Src H r m) (l : n ≤ m) : Src H r n :=
  let ⟨a, b, c, d, e1, e2, e3, e4⟩ := h; ⟨a, b, c, d, e1, e2, e3, by omega⟩
theorem Src.sqT {K : PySem.W.Frag} {H H' : Hp} {r : Addr} {m : Nat} (h : Src H r m) (k : Kx r H H') {b : Addr} {xs : List V} (x : SqT K H b xs) : SqT K H' b xs :=
  let ⟨_, _, _, d, _⟩ := h; k.sqT d trivial x
section
variable {P : Program} {w : World} {K : PySem.W.Frag} {mg : Str → Option Value} {base : Heap}
abbrev sCell : Stmt := topS 38
theorem scCell : FnScope ["_law_script", "_law_index"] ["_law_script", "_law_index"] (defScope sCell) := ⟨rfl, rfl, rfl, by decide +kernel, rfl, by decide +kernel, by decide +kernel⟩
def spCell (K : PySem.W.Frag) : Sp := fun vs H Q _ => ∃ (a : Addr) (ns : List Int), vs = [.ref a, .int 0] ∧ SqL K H a (ns.map V.int) ∧ ∀ z, Q (.int z) H
theorem ok_cell {f : Addr} {fd : FuncData} (F : FnP K "_law_cell_at" "_law_cell_at" sCell f fd) (Tx : Txt K mg) : FnOk P w K mg base CX0 1 f fd ["_law_script", "_law_index"] (spCell K) := by
  refine fok F scCell (fun vs H Q E h => ?_) (fun cdv A outer s H vs Q E hr h => ?_)
  · obtain ⟨a, ns, rfl, _⟩ := h
    rfl
  · obtain ⟨a, ns, rfl, hS, q⟩ := h
    refine ⟨_, (pss_cons (ps_if (pt_cmpR op_lt (pv 1) (pe_callB call_len_seq (by rfl) Tx.len PySem.boot_len (pa_cons (pv 0) pa_nil)) (nomark _))
 (pss_one (ps_ret (pe_ix ix_list (pv 0) (pv 1) (fun _ _ => rfl))))
 pss_nil)
 (pss_one (ps_ret pe_int))), ?_⟩
    refine ⟨_, rfl, _, rfl, a, _, rfl, .inl hS, _, _, rfl, rfl, _, rfl, ?_⟩
    cases ns with
    | nil => exact ifF (by simp) (q 0)
    | cons z ns => exact ifT (by simp) ⟨_, rfl, _, rfl, a, _, 0, .int z, rfl, rfl, hS, atI_nat (j := 0) rfl, q z⟩
abbrev sSrc : Stmt := topS 39
theorem scSrc : FnScope ["_law_cell"] ["_law_cell"] (defScope sSrc) := ⟨rfl, rfl, rfl, by decide +kernel, rfl, by decide +kernel, by decide +kernel⟩
def spSrc : Sp := fun vs H Q _ => ∃ (z : Int), vs = [.int z] ∧ ∀ r H', Same H H' → H r = none → Src H' r 900000000 → Q (.ref r) H'
theorem ok_src {f : Addr} {fd : FuncData} (F : FnP K "_law_source" "_law_source" sSrc f fd) (Tx : Txt K mg) : FnOk P w K mg base CX0 1 f fd ["_law_cell"] spSrc := by
  refine fok F scSrc (fun vs H Q E h => ?_) (fun cdv A outer s H vs Q E hr h => ?_)
  · obtain ⟨z, rfl, _⟩ := h
    rfl
  · obtain ⟨z, rfl, q⟩ := h
    refine ⟨_, (pss_one (ps_ret (pe_lst (pa_cons (pe_op op_mul (pv 0) (pe_callTy call_int1 (by rfl) Tx.int (by decide +kernel) (pa_cons (pe_cmpR op_ge (pv 0) (pe_op op_pow pe_int pe_int) (nomark _)) pa_nil))) (pa_cons (pe_op op_mod (pe_callTy call_int1 (by rfl) Tx.int (by decide +kernel) (pa_cons (pv 0) pa_nil)) pe_int) (pa_cons pe_int pa_nil)))))), ?_⟩
    refine ⟨_, rfl, _, rfl, 10, 18, rfl, rfl, ⟨by decide, by decide, by decide⟩, _, _, rfl, rfl, .inr ⟨_, rfl, _, _, rfl, rfl, .inr ?_, _, rfl, .inl ⟨_, rfl, _, _, rfl, rfl, (by show (0 : Int) < 2147483647; decide), (by show 3 ≤ sizeLine; decide), fun r hr => ?_⟩⟩⟩
    · split <;> decide
    · exact q r _ (same_upd hr) hr ⟨_, _, _, upd_same, Int.emod_nonneg _ (by decide), Int.emod_lt_of_pos _ (by decide), by decide, by decide⟩
abbrev sDraw : Stmt := topS 40
theorem scDraw : FnScope ["_law_source_here", "_law_bound", "_law_result", "_law_prime", "_law_mixed"] ["_law_source_here", "_law_bound"] (defScope sDraw) := ⟨rfl, rfl, rfl, by decide +kernel, rfl, by decide +kernel, by decide +kernel⟩
def spDraw : Sp := fun vs H Q _ => ∃ (r : Addr) (b : Int) (m : Nat), vs = [.ref r, .int b] ∧ Src H r (m + 1) ∧ 0 < b ∧ b ≤ 100000 ∧ ∀ v H', 0 ≤ v → v < b → Kx r H H' → Src H' r m → Q (.int v) H'
theorem ok_draw {f : Addr} {fd : FuncData} (F : FnP K "_law_draw" "_law_draw" sDraw f fd) (Tx : Txt K mg) : FnOk P w K mg base CX0 1 f fd ["_law_source_here", "_law_bound"] spDraw := by
  refine fok F scDraw (fun vs H Q E h => ?_) (fun cdv A outer s H vs Q E hr h => ?_)
  · obtain ⟨r, b, m, rfl, _⟩ := h
    rfl
  · obtain ⟨r, b, m, rfl, ⟨z0, z1, z2, hr0, h1, h2, h3, h4⟩, hb, hb2, q⟩ := h
    refine ⟨_, (pss_cons (ps_if (pt_cmpR op_gt (pe_ix ix_list (pv 0) pe_int (fun _ _ => rfl)) pe_int (nomark _))
 (pss_cons (ps_set (i := 2) scDraw.nd rfl (.inl rfl) (pe_op op_mod (pe_callTy call_int1 (by rfl) Tx.int (by decide +kernel) (pa_cons (pe_ix ix_list (pv 0) pe_int (fun _ _ => rfl)) pa_nil)) (pv 1)))
 (pss_cons (ps_asg (pe_op op_fdiv (pe_ix ix_list (pv 0) pe_int (fun _ _ => rfl)) (pv 1)) (pg_sub (pv 0) pe_int set_list))
 (pss_one (ps_ret (pv 2)))))
 pss_nil)
 (pss_cons (ps_asg (pe_op op_add (pe_ix ix_list (pv 0) pe_int (fun _ _ => rfl)) pe_int) (pg_sub (pv 0) pe_int set_list))
 (pss_cons (ps_set (i := 3) scDraw.nd rfl (.inl rfl) (pe_ix ix_list (pe_lst (pa_cons pe_int (pa_cons pe_int (pa_cons pe_int (pa_cons pe_int (pa_cons pe_int pa_nil)))))) (pe_op op_mod (pe_callTy call_int1 (by rfl) Tx.int (by decide +kernel) (pa_cons (pe_ix ix_list (pv 0) pe_int (fun _ _ => rfl)) pa_nil)) pe_int) (fun _ _ => rfl)))
 (pss_cons (ps_set (i := 4) scDraw.nd rfl (.inl rfl) (pe_op op_mod (pe_callTy call_int1 (by rfl) Tx.int (by decide +kernel) (pa_cons (pe_op op_pow (pe_op op_add (pe_op op_add (pe_ix ix_list (pv 0) pe_int (fun _ _ => rfl)) (pe_op op_mul pe_int (pe_ix ix_list (pv 0) pe_int (fun _ _ => rfl)))) pe_int) pe_int) pa_nil)) (pv 3)))
 (pss_cons (ps_set (i := 4) scDraw.nd rfl (.inl rfl) (pe_op op_mod (pe_callTy call_int1 (by rfl) Tx.int (by decide +kernel) (pa_cons (pe_op op_mul (pe_op op_add (pv 4) (pe_ix ix_list (pv 0) pe_int (fun _ _ => rfl))) (pe_op op_add (pe_op op_fdiv (pv 4) pe_int) pe_int)) pa_nil)) (pv 3)))
 (pss_cons (ps_set (i := 4) scDraw.nd rfl (.inl rfl) (pe_op op_mod (pe_callTy call_int1 (by rfl) Tx.int (by decide +kernel) (pa_cons (pe_op op_mul (pv 4) (pe_op op_add (pe_op op_add (pe_op op_fdiv (pv 4) pe_int) pe_int) (pe_ix ix_list (pv 0) pe_int (fun _ _ => rfl)))) pa_nil)) pe_int))
 (pss_one (ps_ret (pe_op op_mod (pe_callTy call_int1 (by rfl) Tx.int (by decide +kernel) (pa_cons (pe_op op_fdiv (pv 4) pe_int) pa_nil)) (pv 1)))))))))), ?_⟩
    refine ⟨_, rfl, r, _, 0, _, rfl, rfl, SqL.of hr0, atI_nat (j := 0) rfl, _, _, rfl, rfl, _, rfl, ite2 (fun hp => ?_) (fun hp => ?_)⟩
    · -- from the number
      refine ⟨_, rfl, r, _, 0, _, rfl, rfl, SqL.of hr0, atI_nat (j := 0) rfl, .inl ⟨_, rfl, _, rfl, _, _, rfl, rfl, hb, ?_⟩⟩
      refine ⟨_, rfl, r, _, 0, _, rfl, rfl, SqL.of hr0, atI_nat (j := 0) rfl, _, rfl, _, _, rfl, rfl, ⟨hb, by omega⟩, _, rfl, r, _, 0, 0, rfl, rfl, hr0, rfl, ?_⟩
      exact ⟨_, rfl, q _ _ (Int.emod_nonneg _ (by omega)) (Int.emod_lt_of_pos _ hb) (Kx.upd _ _ _) ⟨_, z1, z2, upd_same, h1, h2, h3, by omega⟩⟩
    · -- by counting
      refine ⟨_, rfl, r, _, 2, _, rfl, rfl, SqL.of hr0, atI_nat (j := 2) rfl, _, _, rfl, rfl, _, rfl, r, _, 2, 2, rfl, rfl, hr0, rfl, ?_⟩
      have hr1 : (upd H r (.lst [.int z0, .int z1, .int (z2 + 1)])) r = some (.lst [.int z0, .int z1, .int (z2 + 1)]) := upd_same
      refine ⟨(by show 5 ≤ sizeLine; decide), fun lp hlp => ?_⟩
      have hr2 := (same_upd (o := .lst [.int 2147483629, .int 2147483587, .int 2147483579, .int 2147483563, .int 2147483549]) hlp) _ _ hr1
      obtain ⟨pr, hpr, hp0, hp1⟩ : ∃ pr : Int, atI [V.int 2147483629, V.int 2147483587, V.int 2147483579, V.int 2147483563, V.int 2147483549] ((z2 + 1) % 5) = some (.int pr) ∧ 0 < pr ∧ pr ≤ 2147483647 := by
        have : (z2 + 1) % 5 = 0 ∨ (z2 + 1) % 5 = 1 ∨ (z2 + 1) % 5 = 2 ∨ (z2 + 1) % 5 = 3 ∨ (z2 + 1) % 5 = 4 := by omega
        rcases this with e | e | e | e | e <;> rw [e] <;> exact ⟨_, rfl, by decide, by decide⟩
      refine ⟨_, rfl, r, _, 2, _, rfl, rfl, SqL.of hr2, atI_nat (j := 2) rfl, .inl ⟨_, rfl, _, _, rfl, rfl, (by show (0 : Int) < 5; decide), lp, _, _, _, rfl, rfl, SqL.of upd_same, hpr, ?_⟩⟩
      -- mixed, three times
      refine ⟨_, rfl, r, _, 1, _, rfl, rfl, SqL.of hr2, atI_nat (j := 1) rfl, _, rfl, r, _, 2, _, rfl, rfl, SqL.of hr2, atI_nat (j := 2) rfl, _, _, rfl, rfl, .inl ⟨by decide, by decide⟩, _, _, rfl, rfl, _, _, rfl, rfl, _, _, rfl, rfl, ⟨by decide, by decide, by omega⟩, .inl ⟨_, rfl, _, rfl, _, _, rfl, rfl, hp0, ?_⟩⟩
      have ma := Int.emod_nonneg ((z1 + 5413 * (z2 + 1) + 23) ^ (3 : Int).toNat) (show pr ≠ 0 by omega)
      have mb := Int.emod_lt_of_pos ((z1 + 5413 * (z2 + 1) + 23) ^ (3 : Int).toNat) hp0
      refine ⟨_, rfl, _, rfl, r, _, 2, _, rfl, rfl, SqL.of hr2, atI_nat (j := 2) rfl, _, _, rfl, rfl, _, rfl, _, _, rfl, rfl, ⟨by decide, by decide⟩, _, _, rfl, rfl, _, _, rfl, rfl, .inl ⟨by omega, by omega⟩, .inl ⟨_, rfl, _, rfl, _, _, rfl, rfl, hp0, ?_⟩⟩
      have mc := Int.emod_nonneg ((((z1 + 5413 * (z2 + 1) + 23) ^ (3 : Int).toNat % pr) + (z2 + 1)) * (((z1 + 5413 * (z2 + 1) + 23) ^ (3 : Int).toNat % pr) / 1013 + 69001)) (show pr ≠ 0 by omega)
      have md := Int.emod_lt_of_pos ((((z1 + 5413 * (z2 + 1) + 23) ^ (3 : Int).toNat % pr) + (z2 + 1)) * (((z1 + 5413 * (z2 + 1) + 23) ^ (3 : Int).toNat % pr) / 1013 + 69001)) hp0
      refine ⟨_, rfl, _, rfl, _, _, rfl, rfl, ⟨by decide, by decide⟩, _, _, rfl, rfl, _, rfl, r, _, 2, _, rfl, rfl, SqL.of hr2, atI_nat (j := 2) rfl, _, _, rfl, rfl, _, _, rfl, rfl, .inl ⟨by omega, by omega⟩, .inl ⟨_, rfl, _, _, rfl, rfl, (by show (0 : Int) < 2147483543; decide), ?_⟩⟩
      refine ⟨_, rfl, _, _, rfl, rfl, ⟨by decide, by decide⟩, .inl ⟨_, rfl, _, rfl, _, _, rfl, rfl, hb, ?_⟩⟩
      exact q _ _ (Int.emod_nonneg _ (by omega)) (Int.emod_lt_of_pos _ hb) ((Kx.upd r H _).trans (Same.kx (same_upd hlp) r)) ⟨z0, z1, z2 + 1, hr2, h1, h2, by omega, by omega⟩
end
end L2.K11
set_option Elab.async false
set_option linter.all false
set_option maxRecDepth 100000
set_option maxHeartbeats 1000000
/-! The law's choices, names, leaves. -/
namespace L2.K11
open PySem PySem.Spec PyProof.Rows
instance (x : Str) : Decidable (nameOk x) := by unfold nameOk; infer_instance
section
variable {P : Program} {w : World} {K : PySem.W.Frag} {mg : Str → Option Value} {base : Heap}
abbrev CDraw (P : Program) (w : World) (K : PySem.W.Frag) (mg : Str → Option Value) (base : Heap) (f : Addr) (fd : FuncData) : Prop := Cal P w K mg base 1 "_law_draw" ["_law_source_here", "_law_bound"] spDraw f fd
abbrev sCho : Stmt := topS 41
theorem scCho : FnScope ["_law_source_here", "_law_items"] ["_law_source_here", "_law_items"] (defScope sCho) := ⟨rfl, rfl, rfl, by decide +kernel, rfl, by decide +kernel, by decide +kernel⟩
def spCho : Sp := fun vs H Q _ => ∃ (r l : Addr) (xs : List V) (m : Nat), vs = [.ref r, .ref l] ∧ Src H r (m + 1) ∧ H l = some (.lst xs) ∧ l ≠ r ∧ 0 < xs.length ∧ xs.length ≤ 1000 ∧ ∀ x ∈ xs, ∀ H', Kx r H H' → Src H' r m → Q x H'
theorem ok_cho {f f1 : Addr} {fd fd1 : FuncData} (F : FnP K "_law_choice" "_law_choice" sCho f fd) (Tx : Txt K mg) (c1 : CDraw P w K mg base f1 fd1) : FnOk P w K mg base CX0 2 f fd ["_law_source_here", "_law_items"] spCho := by
  refine fok F scCho (fun vs H Q E h => ?_) (fun cdv A outer s H vs Q E hr h => ?_)
  · obtain ⟨r, l, xs, m, rfl, _⟩ := h
    rfl
  · obtain ⟨r, l, xs, m, rfl, hs, hl, hne, h0, h1, q⟩ := h
    refine ⟨_, (pss_one (ps_ret (pe_ix ix_list (pv 1) (pe_call c1.ok hr (by rfl) c1.m c1.kp c1.b .nil pass0 (pa_cons (pv 0) (pa_cons (pe_callB call_len_seq (by rfl) Tx.len PySem.boot_len (pa_cons (pv 1) pa_nil)) pa_nil))) (fun _ _ => rfl)))), ?_⟩
    refine ⟨_, rfl, _, rfl, _, rfl, l, _, rfl, .inl (SqL.of hl), r, _, m, rfl, hs, by omega, by omega, fun v H' hv0 hv1 kx hs' => ?_⟩
    obtain ⟨j, rfl⟩ : ∃ j : Nat, v = (j : Int) := ⟨v.toNat, by omega⟩
    have hj : j < xs.length := by omega
    exact ⟨l, _, _, xs[j], rfl, rfl, SqL.of (kx _ _ hl hne), atI_nat (j := j) (List.getElem?_eq_getElem hj), q _ (List.getElem_mem hj) H' kx hs'⟩
abbrev sNm : Stmt := topS 42
theorem scNm : FnScope ["_law_source_here"] ["_law_source_here"] (defScope sNm) := ⟨rfl, rfl, rfl, by decide +kernel, rfl, by decide +kernel, by decide +kernel⟩
def spNm : Sp := fun vs H Q _ => ∃ (r : Addr) (m : Nat), vs = [.ref r] ∧ Src H r (m + 1) ∧ ∀ x H', nameOk x → Kx r H H' → Src H' r m → Q (.str x) H'
theorem ok_nm {f f1 : Addr} {fd fd1 : FuncData} (F : FnP K "_law_name" "_law_name" sNm f fd) (c1 : Cal P w K mg base 2 "_law_choice" ["_law_source_here", "_law_items"] spCho f1 fd1) : FnOk P w K mg base CX0 3 f fd ["_law_source_here"] spNm := by
  refine fok F scNm (fun vs H Q E h => ?_) (fun cdv A outer s H vs Q E hr h => ?_)
  · obtain ⟨r, m, rfl, _⟩ := h
    rfl
  · obtain ⟨r, m, rfl, hs, q⟩ := h
    refine ⟨_, (pss_one (ps_ret (pe_call c1.ok hr (by rfl) c1.m c1.kp c1.b .nil pass0 (pa_cons (pv 0) (pa_cons (pe_lst (pa_cons pe_str (pa_cons pe_str (pa_cons pe_str (pa_cons pe_str (pa_cons pe_str (pa_cons pe_str (pa_cons pe_str (pa_cons pe_str pa_nil))))))))) pa_nil))))), ?_⟩
    obtain ⟨z0, z1, z2, hr0, _⟩ := id hs
    refine ⟨_, rfl, (by show 8 ≤ sizeLine; decide), fun l hl => ⟨r, l, _, m, rfl, hs.same (same_upd hl), upd_same, (ne_of_none hr0 hl).symm, by decide +kernel, by decide +kernel, fun x hx H' kx hs' => ?_⟩⟩
    have hk : ∀ x ∈ ([.str "a", .str "b", .str "x", .str "y", .str "loop", .str "zzzzzzzz", .str "do", .str "final"] : List V), ∃ y, x = .str y ∧ nameOk y := by
      intro x hx
      simp only [List.mem_cons, List.not_mem_nil, or_false] at hx
      rcases hx with rfl | rfl | rfl | rfl | rfl | rfl | rfl | rfl <;> exact ⟨_, rfl, by decide +kernel⟩
    obtain ⟨y, rfl, hy⟩ := hk x hx
    exact q y H' hy ((Same.kx (same_upd hl) r).trans kx) hs'
abbrev sLf : Stmt := topS 43
theorem scLf : FnScope ["_law_source_here", "_law_loops", "_law_way"] ["_law_source_here", "_law_loops"] (defScope sLf) := ⟨rfl, rfl, rfl, by decide +kernel, rfl, by decide +kernel, by decide +kernel⟩
def spLf (K : PySem.W.Frag) : Sp := fun vs H Q _ => ∃ (r : Addr) (k m : Nat), vs = [.ref r, .int (k : Nat)] ∧ Src H r (m + 2) ∧ k ≤ 1000 ∧ ∀ t a H', IsS K H' t a → T.wf k t → t.size = 1 → t.deep = 1 → t.blk = 0 → Kx r H H' → Src H' r m → Q (.ref a) H'
theorem ok_lf {f f1 f2 : Addr} {fd fd1 fd2 : FuncData} (F : FnP K "_law_leaf" "_law_leaf" sLf f fd) (Tx : Txt K mg) (c1 : CDraw P w K mg base f1 fd1) (c2 : Cal P w K mg base 3 "_law_name" ["_law_source_here"] spNm f2 fd2) : FnOk P w K mg base CX0 4 f fd ["_law_source_here", "_law_loops"] (spLf K) := by
  refine fok F scLf (fun vs H Q E h => ?_) (fun cdv A outer s H vs Q E hr h => ?_)
  · obtain ⟨r, k, m, rfl, _⟩ := h
    rfl
  · obtain ⟨r, k, m, rfl, hs, hk, q⟩ := h
    have hr1 := hr.mono (show 1 ≤ 3 by decide)
    refine ⟨_, (pss_cons (ps_set (i := 2) scLf.nd rfl (.inl rfl) (pe_call c1.ok hr1 (by rfl) c1.m c1.kp c1.b .nil pass0 (pa_cons (pv 0) (pa_cons pe_int pa_nil))))
 (pss_cons (ps_if (pt_cmpR op_gt (pv 2) pe_int (nomark _))
 (pss_one (ps_ret (pe_ix ix_list (pe_lst (pa_cons (pe_tup (pa_cons pe_str pa_nil)) (pa_cons (pe_tup (pa_cons pe_str pa_nil)) (pa_cons (pe_tup (pa_cons pe_str pa_nil)) pa_nil)))) (pe_op op_sub (pv 2) pe_int) (fun _ _ => rfl))))
 pss_nil)
 (pss_cons (ps_if (PW.pt (pw_and (pt_cmpR op_gt (pv 2) pe_int (nomark _)) (pw_and1 (pt_cmpR op_gt (pv 1) pe_int (nomark _)))))
 (pss_one (ps_ret (pe_tup (pa_cons (pe_ix ix_list (pe_lst (pa_cons pe_str (pa_cons pe_str pa_nil))) (pe_op op_mod (pe_callTy call_int1 (by rfl) Tx.int (by decide +kernel) (pa_cons (pv 2) pa_nil)) pe_int) (fun _ _ => rfl)) (pa_cons (pe_op op_add pe_int (pe_call c1.ok hr1 (by rfl) c1.m c1.kp c1.b .nil pass0 (pa_cons (pv 0) (pa_cons (pv 1) pa_nil)))) pa_nil)))))
 pss_nil)
 (pss_one (ps_ret (pe_tup (pa_cons (pe_ix ix_list (pe_lst (pa_cons pe_str (pa_cons pe_str pa_nil))) (pe_callTy call_int1 (by rfl) Tx.int (by decide +kernel) (pa_cons (pe_cmpR op_gt (pv 2) pe_int (nomark _)) pa_nil)) (fun _ _ => rfl)) (pa_cons (pe_call c2.ok hr (by rfl) c2.m c2.kp c2.b .nil pass0 (pa_cons (pv 0) pa_nil)) pa_nil)))))))), ?_⟩
    refine ⟨_, rfl, r, 10, m + 1, rfl, hs, by decide, by decide, fun v H1 hv0 hv1 kx1 hs1 => ?_⟩
    obtain ⟨_, _, _, hr1', _⟩ := id hs1
    refine ⟨_, rfl, _, _, rfl, rfl, _, rfl, ite2 (fun h6 => ?_) (fun h6 => ?_)⟩
    · -- return, raise
      have h6' : 6 < v := of_decide_eq_true h6
      refine ⟨(by decide), fun a1 ha1 => ⟨(by decide), fun a2 ha2 => ⟨(by decide), fun a3 ha3 => ⟨(by show 3 ≤ sizeLine; decide), fun l hl => ?_⟩⟩⟩⟩
      have sA := ((same_upd (o := .tup [.str "return"]) ha1).trans (same_upd (o := .tup [.str "raise"]) ha2)).trans (same_upd (o := .tup [.str "raise"]) ha3)
      have sB := sA.trans (same_upd (o := .lst [.ref a1, .ref a2, .ref a3]) hl)
      have e1 := (same_upd (o := .lst [.ref a1, .ref a2, .ref a3]) hl) _ _ ((same_upd (o := .tup [.str "raise"]) ha3) _ _ ((same_upd (o := .tup [.str "raise"]) ha2) _ _ upd_same))
      have e2 := (same_upd (o := .lst [.ref a1, .ref a2, .ref a3]) hl) _ _ ((same_upd (o := .tup [.str "raise"]) ha3) _ _ upd_same)
      have e3 := (same_upd (o := .lst [.ref a1, .ref a2, .ref a3]) hl) _ _ upd_same
      have hv : v = 7 ∨ v = 8 ∨ v = 9 := by omega
      rcases hv with rfl | rfl | rfl
      · exact ⟨_, rfl, _, _, rfl, rfl, l, _, _, .ref a1, rfl, rfl, SqL.of upd_same, rfl, q .ret a1 _ (SqT.of e1) trivial rfl rfl rfl (kx1.trans (Same.kx sB r)) ((hs1.same sB).mono (by omega))⟩
      · exact ⟨_, rfl, _, _, rfl, rfl, l, _, _, .ref a2, rfl, rfl, SqL.of upd_same, rfl, q .rse a2 _ (SqT.of e2) trivial rfl rfl rfl (kx1.trans (Same.kx sB r)) ((hs1.same sB).mono (by omega))⟩
      · exact ⟨_, rfl, _, _, rfl, rfl, l, _, _, .ref a3, rfl, rfl, SqL.of upd_same, rfl, q .rse a3 _ (SqT.of e3) trivial rfl rfl rfl (kx1.trans (Same.kx sB r)) ((hs1.same sB).mono (by omega))⟩
    · refine ⟨_, rfl, _, _, rfl, rfl, _, rfl, ?_⟩
      by_cases h2 : 2 < v
      · refine ifT (decide_eq_true h2) ⟨_, rfl, _, _, rfl, rfl, _, rfl, ?_⟩
        by_cases h3 : (0 : Int) < (k : Nat)
        · refine ifT (decide_eq_true h3) ⟨(by decide), fun l hl => ?_⟩
          have sl := same_upd (o := .lst [.str "break", .str "continue"]) hl
          have hm : v % 2 = 0 ∨ v % 2 = 1 := by omega
          rcases hm with hm | hm
          · refine ⟨_, rfl, .inl ⟨_, rfl, _, _, rfl, rfl, (by show (0 : Int) < 2; decide), l, _, _, .str "break", rfl, rfl, SqL.of upd_same, by rw [hm]; rfl, _, rfl, _, rfl, r, _, m, rfl, hs1.same sl, h3, by omega, fun v2 H3 hv2 hv3 kx hs3 => ⟨_, _, rfl, rfl, (by show 2 ≤ sizeLine; decide), fun a ha => ?_⟩⟩⟩
            exact q (.brk (1 + v2)) a _ (SqT.of upd_same) ⟨by omega, by omega⟩ rfl rfl rfl (((kx1.trans (Same.kx sl r)).trans kx).trans (Same.kx (same_upd ha) r)) (hs3.same (same_upd ha))
          · refine ⟨_, rfl, .inl ⟨_, rfl, _, _, rfl, rfl, (by show (0 : Int) < 2; decide), l, _, _, .str "continue", rfl, rfl, SqL.of upd_same, by rw [hm]; rfl, _, rfl, _, rfl, r, _, m, rfl, hs1.same sl, h3, by omega, fun v2 H3 hv2 hv3 kx hs3 => ⟨_, _, rfl, rfl, (by show 2 ≤ sizeLine; decide), fun a ha => ?_⟩⟩⟩
            exact q (.cnt (1 + v2)) a _ (SqT.of upd_same) ⟨by omega, by omega⟩ rfl rfl rfl (((kx1.trans (Same.kx sl r)).trans kx).trans (Same.kx (same_upd ha) r)) (hs3.same (same_upd ha))
        · refine ifF (fun e => h3 (of_decide_eq_true e)) ?_
          refine ⟨(by decide), fun l hl => ?_⟩
          have sl := same_upd (o := .lst [.str "do", .str "call"]) hl
          by_cases hv : 0 < v
          · refine ⟨_, rfl, _, _, rfl, rfl, .inr ⟨_, rfl, l, _, _, .str "call", rfl, rfl, SqL.of upd_same, by rw [decide_eq_true hv]; rfl, _, rfl, r, m, rfl, hs1.same sl, fun x H3 hx kx hs3 => ⟨(by show 2 ≤ sizeLine; decide), fun a ha => ?_⟩⟩⟩
            exact q (.call x) a _ (SqT.of upd_same) hx rfl rfl rfl (((kx1.trans (Same.kx sl r)).trans kx).trans (Same.kx (same_upd ha) r)) (hs3.same (same_upd ha))
          · refine ⟨_, rfl, _, _, rfl, rfl, .inr ⟨_, rfl, l, _, _, .str "do", rfl, rfl, SqL.of upd_same, by rw [decide_eq_false hv]; rfl, _, rfl, r, m, rfl, hs1.same sl, fun x H3 hx kx hs3 => ⟨(by show 2 ≤ sizeLine; decide), fun a ha => ?_⟩⟩⟩
            exact q (.act x) a _ (SqT.of upd_same) hx rfl rfl rfl (((kx1.trans (Same.kx sl r)).trans kx).trans (Same.kx (same_upd ha) r)) (hs3.same (same_upd ha))
      · refine ifF (fun e => h2 (of_decide_eq_true e)) ?_
        refine ⟨(by decide), fun l hl => ?_⟩
        have sl := same_upd (o := .lst [.str "do", .str "call"]) hl
        by_cases hv : 0 < v
        · refine ⟨_, rfl, _, _, rfl, rfl, .inr ⟨_, rfl, l, _, _, .str "call", rfl, rfl, SqL.of upd_same, by rw [decide_eq_true hv]; rfl, _, rfl, r, m, rfl, hs1.same sl, fun x H3 hx kx hs3 => ⟨(by show 2 ≤ sizeLine; decide), fun a ha => ?_⟩⟩⟩
          exact q (.call x) a _ (SqT.of upd_same) hx rfl rfl rfl (((kx1.trans (Same.kx sl r)).trans kx).trans (Same.kx (same_upd ha) r)) (hs3.same (same_upd ha))
        · refine ⟨_, rfl, _, _, rfl, rfl, .inr ⟨_, rfl, l, _, _, .str "do", rfl, rfl, SqL.of upd_same, by rw [decide_eq_false hv]; rfl, _, rfl, r, m, rfl, hs1.same sl, fun x H3 hx kx hs3 => ⟨(by show 2 ≤ sizeLine; decide), fun a ha => ?_⟩⟩⟩
          exact q (.act x) a _ (SqT.of upd_same) hx rfl rfl rfl (((kx1.trans (Same.kx sl r)).trans kx).trans (Same.kx (same_upd ha) r)) (hs3.same (same_upd ha))
end
end L2.K11
set_option Elab.async false
set_option linter.all false
set_option maxRecDepth 100000
set_option maxHeartbeats 1000000
/-! The law's statements. -/
namespace L2.K11
open PySem PySem.Spec PyProof.Rows
theorem IsSs.snoc {K : PySem.W.Frag} {H : Hp} {t : T} {a : Addr} : ∀ {ts : List T} {as : List Addr}, IsSs K H ts as → IsS K H t a → IsSs K H (ts ++ [t]) (as ++ [a])
  | [], as, h, h1 => by
    rw [show as = [] from h]
    exact ⟨a, [], rfl, h1, rfl⟩
  | u :: ts, as, ⟨b, r, e, h2, h3⟩, h1 => ⟨b, r ++ [a], by rw [e]; rfl, h2, IsSs.snoc h3 h1⟩
theorem T.deepS_snoc (t : T) : ∀ ts : List T, T.deepS (ts ++ [t]) = max (T.deepS ts) t.deep
  | [] => by simp [T.deepS]
  | u :: ts => by
    rw [List.cons_append, T.deepS, T.deepS, T.deepS_snoc t ts]
    omega
theorem T.blkS_snoc (t : T) : ∀ ts : List T, T.blkS (ts ++ [t]) = max (T.blkS ts) t.blk
  | [] => by simp [T.blkS]
  | u :: ts => by
    rw [List.cons_append, T.blkS, T.blkS, T.blkS_snoc t ts]
    omega
theorem T.wfS_snoc {k : Nat} {t : T} (h : T.wf k t) : ∀ {ts : List T}, T.wfS k ts → T.wfS k (ts ++ [t])
  | [], _ => ⟨h, trivial⟩
  | u :: ts, ⟨a, b⟩ => ⟨a, T.wfS_snoc h b⟩
theorem size_wh (x : Str) (a : T) : (T.wh x a).size = 1 + a.size := by
  have := T.size_kids (.wh x a)
  simpa [T.kids] using this
theorem size_ife (x : Str) (a b : T) : (T.ife x a b).size = 1 + (a.size + b.size) := by
  have := T.size_kids (.ife x a b)
  simpa [T.kids] using this
theorem size_try (a b : T) : (T.tryy a b).size = 1 + (a.size + b.size) := by
  have := T.size_kids (.tryy a b)
  simpa [T.kids] using this
theorem size_fin (a b : T) : (T.fin a b).size = 1 + (a.size + b.size) := by
  have := T.size_kids (.fin a b)
  simpa [T.kids] using this
theorem size_seq (ts : List T) : (T.seq ts).size = 1 + (ts.map T.size).sum := by
  have := T.size_kids (.seq ts)
  simpa [T.kids] using this
section
variable {P : Program} {w : World} {K : PySem.W.Frag} {mg : Str → Option Value} {base : Heap}
abbrev sSt : Stmt := topS 44
abbrev nSt : List Str := ["_law_source_here", "_law_room", "_law_deep", "_law_loops", "_law_blocks", "_law_way", "_law_parts", "_law_rest", "_law_turn", "_law_share", "_law_one", "_law_other"]
abbrev pSt : List Str := ["_law_source_here", "_law_room", "_law_deep", "_law_loops", "_law_blocks"]
theorem scSt : FnScope nSt pSt (defScope sSt) := ⟨rfl, rfl, rfl, by decide +kernel, rfl, by decide +kernel, by decide +kernel⟩
def spSt (K : PySem.W.Frag) (d : Nat) : Sp := fun vs H Q _ => ∃ (r : Addr) (room deep k b m : Nat), vs = [.ref r, .int (room : Nat), .int (deep : Nat), .int (k : Nat), .int (b : Nat)] ∧ Src H r (10 * room + m) ∧ 1 ≤ room ∧ room ≤ 400 ∧ 1 ≤ deep ∧ deep ≤ d ∧ k + deep ≤ 1000 ∧ b ≤ 25 ∧
  ∀ t a H', IsS K H' t a → T.wf k t → t.size ≤ room → t.deep ≤ deep → t.blk + b ≤ 25 → Kx r H H' → Src H' r m → Q (.ref a) H'
theorem ok_st {f f1 f2 f3 : Addr} {fd fd1 fd2 fd3 : FuncData} (F : FnP K "_law_statement" "_law_statement" sSt f fd) (mF : mg "_law_statement" = some (.ref f)) (bF : Binds K fd pSt []) (Tx : Txt K mg) (c1 : CDraw P w K mg base f1 fd1) (c2 : Cal P w K mg base 3 "_law_name" ["_law_source_here"] spNm f2 fd2)
    (c3 : Cal P w K mg base 4 "_law_leaf" ["_law_source_here", "_law_loops"] (spLf K) f3 fd3) : ∀ d : Nat, FnOk P w K mg base CX0 (d + 5) f fd pSt (spSt K d)
  | 0 => by
    refine fok F scSt (fun vs H Q E h => ?_) (fun cdv A outer s H vs Q E hr h => ?_)
    · obtain ⟨r, room, deep, k, b, m, rfl, _⟩ := h
      rfl
    · obtain ⟨r, room, deep, k, b, m, rfl, hs, h1, h2, h3, h4, _⟩ := h
      exact absurd h3 (by omega)
  | d + 1 => by
    have G := ok_st F mF bF Tx c1 c2 c3 d
    have c4 : Cal P w K mg base (d + 5) "_law_statement" pSt (spSt K d) f fd := ⟨mF, F.kp, bF, G⟩
    refine fok F scSt (fun vs H Q E h => ?_) (fun cdv A outer s H vs Q E hr h => ?_)
    · obtain ⟨r, room, deep, k, b, m, rfl, _⟩ := h
      rfl
    · obtain ⟨r, room, deep, k, b, m, rfl, hs, hm1, hm2, hd1, hd2, hk, hb, q⟩ := h
      have hr1 := hr.mono (show 1 ≤ d + 5 by omega)
      have hr3 := hr.mono (show 3 ≤ d + 5 by omega)
      have hr4 := hr.mono (show 4 ≤ d + 5 by omega)
      refine ⟨_, (pss_cons (ps_set (i := 5) scSt.nd rfl (.inl rfl) (pe_call c1.ok hr1 (by rfl) c1.m c1.kp c1.b .nil pass0 (pa_cons (pv 0) (pa_cons pe_int pa_nil))))
 (pss_cons (ps_if (PW.pt (pw_or (pt_cmpR op_lt (pv 1) pe_int (nomark _)) (pw_or (pt_cmpR op_lt (pv 2) pe_int (nomark _)) (pw_or1 (pt_cmpR op_eq (pv 5) pe_int (nomark _))))))
 (pss_one (ps_ret (pe_call c3.ok hr4 (by rfl) c3.m c3.kp c3.b .nil pass0 (pa_cons (pv 0) (pa_cons (pv 3) pa_nil)))))
 pss_nil)
 (pss_cons (ps_if (pt_cmpR op_lt (pv 5) pe_int (nomark _))
 (pss_one (ps_ret (pe_tup (pa_cons pe_str (pa_cons (pe_call c2.ok hr3 (by rfl) c2.m c2.kp c2.b .nil pass0 (pa_cons (pv 0) pa_nil)) (pa_cons (pe_call c4.ok hr (by rfl) c4.m c4.kp c4.b .nil pass0 (pa_cons (pv 0) (pa_cons (pe_op op_sub (pv 1) pe_int) (pa_cons (pe_op op_sub (pv 2) pe_int) (pa_cons (pe_op op_add (pv 3) pe_int) (pa_cons (pv 4) pa_nil)))))) pa_nil))))))
 pss_nil)
 (pss_cons (ps_if (PW.pt (pw_or (pt_cmpR op_lt (pv 1) pe_int (nomark _)) (pw_or1 (pt_cmpR op_gt (pv 5) pe_int (nomark _)))))
 (pss_cons (ps_par (i := 6) (j := 7) (by rfl) scSt.nd rfl rfl (by decide) rfl rfl (pa_cons (pe_lst pa_nil) (pa_cons (pe_op op_sub (pv 1) pe_int) pa_nil)) (by rfl))
 (pss_cons (ps_for PassesOwn.never rfl (pi_range1 (by rfl) Tx.range (pa_cons (pe_op op_add pe_int (pe_call c1.ok hr1 (by rfl) c1.m c1.kp c1.b .nil pass0 (pa_cons (pv 0) (pa_cons pe_int pa_nil)))) pa_nil)) (pg_name (i := 8) scSt.nd rfl (.inl rfl))
 (pss_one (ps_if (pt_cmpR op_gt (pv 7) pe_int (nomark _))
 (pss_cons (ps_set (i := 9) scSt.nd rfl (.inl rfl) (pe_op op_add pe_int (pe_call c1.ok hr1 (by rfl) c1.m c1.kp c1.b .nil pass0 (pa_cons (pv 0) (pa_cons (pv 7) pa_nil)))))
 (pss_cons (ps_expr (pe_bm PySem.F.plainAttrs_list PySem.F.slot_list_append PySem.F.type_list_append mt_append (pv 6) (pa_cons (pe_call c4.ok hr (by rfl) c4.m c4.kp c4.b .nil pass0 (pa_cons (pv 0) (pa_cons (pv 9) (pa_cons (pe_op op_sub (pv 2) pe_int) (pa_cons (pv 3) (pa_cons (pv 4) pa_nil)))))) pa_nil)))
 (pss_one (ps_set (i := 7) scSt.nd rfl (.inl rfl) (pe_op op_sub (pv 7) (pv 9))))))
 pss_nil)))
 (pss_one (ps_ret (pe_tup (pa_cons pe_str (pa_cons (pe_callTy call_tuple_of (by rfl) Tx.tuple (by decide +kernel) (pa_cons (pv 6) pa_nil)) pa_nil)))))))
 pss_nil)
 (pss_cons (ps_set (i := 9) scSt.nd rfl (.inl rfl) (pe_op op_add pe_int (pe_call c1.ok hr1 (by rfl) c1.m c1.kp c1.b .nil pass0 (pa_cons (pv 0) (pa_cons (pe_op op_sub (pv 1) pe_int) pa_nil)))))
 (pss_cons (ps_set (i := 10) scSt.nd rfl (.inl rfl) (pe_call c4.ok hr (by rfl) c4.m c4.kp c4.b .nil pass0 (pa_cons (pv 0) (pa_cons (pv 9) (pa_cons (pe_op op_sub (pv 2) pe_int) (pa_cons (pv 3) (pa_cons (pv 4) pa_nil)))))))
 (pss_cons (ps_if (PW.pt (pw_and (pt_cmpR op_lt (pv 5) pe_int (nomark _)) (pw_and1 (pt_cmpR op_lt (pv 4) pe_int (nomark _)))))
 (pss_one (ps_ret (pe_tup (pa_cons pe_str (pa_cons (pv 10) (pa_cons (pe_call c4.ok hr (by rfl) c4.m c4.kp c4.b .nil pass0 (pa_cons (pv 0) (pa_cons (pe_op op_sub (pe_op op_sub (pv 1) pe_int) (pv 9)) (pa_cons (pe_op op_sub (pv 2) pe_int) (pa_cons (pv 3) (pa_cons (pe_op op_add (pv 4) pe_int) pa_nil)))))) pa_nil))))))
 pss_nil)
 (pss_cons (ps_set (i := 11) scSt.nd rfl (.inl rfl) (pe_call c4.ok hr (by rfl) c4.m c4.kp c4.b .nil pass0 (pa_cons (pv 0) (pa_cons (pe_op op_sub (pe_op op_sub (pv 1) pe_int) (pv 9)) (pa_cons (pe_op op_sub (pv 2) pe_int) (pa_cons (pv 3) (pa_cons (pv 4) pa_nil)))))))
 (pss_one (ps_ret (pe_ifExp (pt_cmpR op_eq (pv 5) pe_int (nomark _)) (pe_tup (pa_cons pe_str (pa_cons (pv 10) (pa_cons (pv 11) pa_nil)))) (pe_tup (pa_cons pe_str (pa_cons (pe_call c2.ok hr3 (by rfl) c2.m c2.kp c2.b .nil pass0 (pa_cons (pv 0) pa_nil)) (pa_cons (pv 10) (pa_cons (pv 11) pa_nil)))))))))))))))), ?_⟩
      obtain ⟨_, _, _, hrr, _⟩ := id hs
      refine ⟨_, rfl, r, 12, 10 * room + m - 1, rfl, hs.mono (by omega), by decide, by decide, fun v H1 hv0 hv1 kx1 hs1 => ?_⟩
      obtain ⟨_, _, _, hr1', _⟩ := id hs1
      have eR1 : (room : Int) - 1 = ((room - 1 : Nat) : Int) := by omega
      have eD : (deep : Int) - 1 = ((deep - 1 : Nat) : Int) := by omega
      have eK : (k : Int) + 1 = ((k + 1 : Nat) : Int) := by omega
      have eB : (b : Int) + 1 = ((b + 1 : Nat) : Int) := by omega
      refine ⟨_, rfl, _, _, rfl, rfl, _, rfl, ite2 (fun hz => ?_) (fun hz => ?_)⟩
      · exact ⟨_, rfl, _, rfl, r, k, 10 * room + m - 3, rfl, hs1.mono (by omega), by omega, fun t a H' h1 h2 h3 h4 h5 h6 h7 => q t a H' h1 h2 (by omega) (by omega) (by omega) (kx1.trans h6) (h7.mono (by omega))⟩
      refine ⟨_, rfl, _, _, rfl, rfl, _, rfl, ite2 (fun hz2 => ?_) (fun hz2 => ?_)⟩
      · exact ⟨_, rfl, _, rfl, r, k, 10 * room + m - 3, rfl, hs1.mono (by omega), by omega, fun t a H' h1 h2 h3 h4 h5 h6 h7 => q t a H' h1 h2 (by omega) (by omega) (by omega) (kx1.trans h6) (h7.mono (by omega))⟩
      refine ⟨_, rfl, rfl, _, rfl, ite2 (fun hz3 => ?_) (fun hz3 => ?_)⟩
      · exact ⟨_, rfl, _, rfl, r, k, 10 * room + m - 3, rfl, hs1.mono (by omega), by omega, fun t a H' h1 h2 h3 h4 h5 h6 h7 => q t a H' h1 h2 (by omega) (by omega) (by omega) (kx1.trans h6) (h7.mono (by omega))⟩
      have hR : 2 ≤ room := by
        rcases Nat.lt_or_ge room 2 with h | h
        · exact absurd (decide_eq_true (show (room : Int) < 2 by omega)) hz
        · exact h
      have hD : 2 ≤ deep := by
        rcases Nat.lt_or_ge deep 2 with h | h
        · exact absurd (decide_eq_true (show (deep : Int) < 2 by omega)) hz2
        · exact h
      -- while
      refine ⟨_, rfl, _, _, rfl, rfl, _, rfl, ite2 (fun hw => ?_) (fun hw => ?_)⟩
      · refine ⟨_, rfl, r, 10 * (room - 1) + m + 7, rfl, hs1.mono (by omega), fun x H2 hx kx2 hs2 => ?_⟩
        refine ⟨_, rfl, _, rfl, _, _, rfl, rfl, _, rfl, _, _, rfl, rfl, _, rfl, _, _, rfl, rfl, _, rfl, r, room - 1, deep - 1, k + 1, b, m + 7, (by rw [← eR1, ← eD, ← eK]; rfl), hs2.mono (by omega), by omega, by omega, by omega, by omega, by omega, hb, fun t1 a1 H3 i1 i2 i3 i4 i5 kx3 hs3 => ⟨(by show 3 ≤ sizeLine; decide), fun a ha => ?_⟩⟩
        have sa := same_upd (o := .tup [.str "while", .str x, .ref a1]) ha
        exact q (.wh x t1) a _ ⟨a1, SqT.of upd_same, IsS.mono (fun _ _ h => same_sqT sa h) _ _ i1⟩ ⟨hx, i2⟩ (by rw [size_wh]; omega) (by rw [T.deep]; omega) (by rw [T.blk]; exact i5) (((kx1.trans kx2).trans kx3).trans (Same.kx sa r)) ((hs3.same sa).mono (by omega))
      refine ⟨_, rfl, _, _, rfl, rfl, _, rfl, ?_⟩
      by_cases hs3 : (room : Int) < 3 ∨ 9 < v
      · by_cases e1 : (room : Int) < 3
        · refine ifT (decide_eq_true e1) ?_
          refine ⟨Nat.zero_le _, fun Lp hLp => ⟨_, rfl, _, _, rfl, rfl, _, _, rfl, ?_⟩⟩
          have sL := same_upd (o := .lst []) hLp
          have nLr : Lp ≠ r := (ne_of_none hr1' hLp).symm
          have hLp0 : H Lp = none := kx1.free hLp nLr
          refine ⟨_, rfl, r, 4, 10 * (room - 1) + m + 4, rfl, (hs1.same sL).mono (by omega), by decide, by decide, fun w0 H2 hw0 hw1 kx2 hs2 => ⟨_, _, rfl, rfl, _, rfl, by omega, by omega, ?_⟩⟩
          obtain ⟨n, hn⟩ : ∃ n : Nat, (1 + w0).toNat = n := ⟨_, rfl⟩
          rw [hn]
          refine for_range (n := n) (fun i σ H3 => ∃ v8 v9 ts as rest, σ = [some (.ref r), some (.int (room : Nat)), some (.int (deep : Nat)), some (.int (k : Nat)), some (.int (b : Nat)), some (.int v), some (.ref Lp), some (.int (rest : Nat)), v8, v9, none, none] ∧ H3 Lp = some (.lst (as.map V.ref)) ∧ IsSs K H3 ts as ∧ T.wfS k ts ∧
              (ts.map T.size).sum + rest ≤ room - 1 ∧ T.deepS ts ≤ deep - 1 ∧ T.blkS ts + b ≤ 25 ∧ (i = 0 → rest = room - 1) ∧ (0 < i → ts ≠ []) ∧ Kx r H H3 ∧ Src H3 r (10 * rest + (n - i) + m))
            ⟨none, none, [], [], room - 1, by rw [← eR1]; rfl, kx2 _ _ upd_same nLr, rfl, trivial, by simp, Nat.zero_le _, by show 0 + b ≤ 25; omega, fun _ => rfl, fun z => absurd z (Nat.lt_irrefl _), (kx1.trans (Same.kx sL r)).trans kx2, hs2.mono (by omega)⟩ ?_ ?_
          · rintro i σ H3 hi ⟨v8, v9, ts, as, rest, rfl, h3, hts, hwf, hsum, hdeep, hblk, hi0, hi1, kxH, hs3'⟩
            obtain ⟨_, _, _, hr3', _⟩ := id hs3'
            refine ⟨_, rfl, _, _, rfl, rfl, _, rfl, ite2 (fun hp => ?_) (fun hp => ?_)⟩
            · have hp' : (0 : Int) < (rest : Nat) := of_decide_eq_true hp
              refine ⟨_, rfl, _, rfl, r, _, 10 * rest + (n - (i + 1)) + m, rfl, hs3'.mono (by omega), hp', by omega, fun w1 H4 hw2 hw3 kx4 hs4 => ⟨_, _, rfl, rfl, ?_⟩⟩
              obtain ⟨sh, rfl⟩ : ∃ sh : Nat, w1 = (sh : Int) := ⟨w1.toNat, by omega⟩
              have eS : (1 : Int) + (sh : Nat) = ((1 + sh : Nat) : Int) := by omega
              have eQ : (rest : Int) - (1 + (sh : Nat)) = ((rest - (1 + sh) : Nat) : Int) := by omega
              have h4 := kx4 _ _ h3 nLr
              refine ⟨_, rfl, .inl ⟨rfl, _, SqL.of h4⟩, _, rfl, _, rfl, _, rfl, _, _, rfl, rfl, _, rfl, _, rfl, r, 1 + sh, deep - 1, k, b, 10 * (rest - (1 + sh)) + (n - (i + 1)) + m, (by rw [← eD, ← eS]; rfl), hs4.mono (by omega), by omega, by omega, by omega, by omega, by omega, hb, fun t1 a1 H5 i1 i2 i3 i4 i5 kx5 hs5 => ?_⟩
              have h5 := kx5 _ _ h4 nLr
              have hlas : as.length ≤ 400 := by
                have e1 := hts.len
                have : ∀ l : List T, l.length ≤ (l.map T.size).sum := fun l => by
                  induction l with
                  | nil => exact Nat.le_refl _
                  | cons t l ih => rw [List.map_cons, List.sum_cons, List.length_cons]; have := T.size_pos t; omega
                have := this ts
                omega
              have kL := Kx.upd Lp H5 (.lst (as.map V.ref ++ [V.ref a1]))
              have tL : ∀ b xs, SqT K H5 b xs → SqT K (upd H5 Lp (.lst (as.map V.ref ++ [V.ref a1]))) b xs := fun _ _ h => kL.sqT h5 trivial h
              refine ⟨Lp, _, _, rfl, rfl, h5, small_lt (by rw [List.length_map]; omega), _, rfl, _, rfl, _, _, rfl, rfl, _, _, ts ++ [t1], as ++ [a1], rest - (1 + sh), by rw [← eQ]; rfl, by rw [upd_same, List.map_append]; rfl, ?_, T.wfS_snoc i2 hwf, ?_, ?_, ?_, fun z => absurd z (Nat.succ_ne_zero _), fun _ z => by simp at z, ?_, ?_⟩
              · exact IsSs.snoc (IsSs.mono (fun _ _ h => tL _ _ (hs4.sqT kx5 (hs3'.sqT kx4 h))) _ _ hts) (IsS.mono tL _ _ i1)
              · rw [List.map_append, List.sum_append]
                simp
                omega
              · rw [T.deepS_snoc]
                omega
              · rw [T.blkS_snoc]
                omega
              · exact fun b o e n1 => kL _ _ (kx5 _ _ (kx4 _ _ (kxH b o e n1) n1) n1) (ne_of_none e hLp0)
              · obtain ⟨y0, y1, y2, hy, hy'⟩ := hs5
                exact ⟨y0, y1, y2, kL _ _ hy nLr.symm, hy'⟩
            · have hp' : ¬ (0 : Int) < (rest : Nat) := fun z => hp (decide_eq_true z)
              refine ⟨_, v9, ts, as, rest, rfl, h3, hts, hwf, hsum, hdeep, hblk, fun z => absurd z (Nat.succ_ne_zero _), fun _ => ?_, kxH, hs3'.mono (by omega)⟩
              rcases Nat.eq_zero_or_pos i with hz0 | hz0
              · have := hi0 hz0
                omega
              · exact hi1 hz0
          · rintro σ H3 ⟨v8, v9, ts, as, rest, rfl, h3, hts, hwf, hsum, hdeep, hblk, hi0, hi1, kxH, hs3'⟩
            refine ⟨_, rfl, Lp, _, rfl, .inl ⟨SqL.of h3, fun tp htp => ⟨(by show 2 ≤ sizeLine; decide), fun a ha => ?_⟩⟩⟩
            have st := same_upd (o := .tup (as.map V.ref)) htp
            have sa := same_upd (o := .tup [.str "seq", .ref tp]) ha
            have sta := st.trans sa
            exact q (.seq ts) a _ ⟨tp, as, SqT.of upd_same, same_sqT sa (SqT.of upd_same), hts.same sta⟩ ⟨hi1 (by omega), hwf⟩ (by rw [size_seq]; omega) (by rw [T.deep]; omega) (by rw [T.blk]; omega) (kxH.trans (Same.kx sta r)) ((hs3'.same sta).mono (by omega))
        · refine ifF (fun z => e1 (of_decide_eq_true z)) ⟨_, rfl, _, _, rfl, rfl, _, rfl, ifT (decide_eq_true (hs3.resolve_left e1)) ?_⟩
          refine ⟨Nat.zero_le _, fun Lp hLp => ⟨_, rfl, _, _, rfl, rfl, _, _, rfl, ?_⟩⟩
          have sL := same_upd (o := .lst []) hLp
          have nLr : Lp ≠ r := (ne_of_none hr1' hLp).symm
          have hLp0 : H Lp = none := kx1.free hLp nLr
          refine ⟨_, rfl, r, 4, 10 * (room - 1) + m + 4, rfl, (hs1.same sL).mono (by omega), by decide, by decide, fun w0 H2 hw0 hw1 kx2 hs2 => ⟨_, _, rfl, rfl, _, rfl, by omega, by omega, ?_⟩⟩
          obtain ⟨n, hn⟩ : ∃ n : Nat, (1 + w0).toNat = n := ⟨_, rfl⟩
          rw [hn]
          refine for_range (n := n) (fun i σ H3 => ∃ v8 v9 ts as rest, σ = [some (.ref r), some (.int (room : Nat)), some (.int (deep : Nat)), some (.int (k : Nat)), some (.int (b : Nat)), some (.int v), some (.ref Lp), some (.int (rest : Nat)), v8, v9, none, none] ∧ H3 Lp = some (.lst (as.map V.ref)) ∧ IsSs K H3 ts as ∧ T.wfS k ts ∧
              (ts.map T.size).sum + rest ≤ room - 1 ∧ T.deepS ts ≤ deep - 1 ∧ T.blkS ts + b ≤ 25 ∧ (i = 0 → rest = room - 1) ∧ (0 < i → ts ≠ []) ∧ Kx r H H3 ∧ Src H3 r (10 * rest + (n - i) + m))
            ⟨none, none, [], [], room - 1, by rw [← eR1]; rfl, kx2 _ _ upd_same nLr, rfl, trivial, by simp, Nat.zero_le _, by show 0 + b ≤ 25; omega, fun _ => rfl, fun z => absurd z (Nat.lt_irrefl _), (kx1.trans (Same.kx sL r)).trans kx2, hs2.mono (by omega)⟩ ?_ ?_
          · rintro i σ H3 hi ⟨v8, v9, ts, as, rest, rfl, h3, hts, hwf, hsum, hdeep, hblk, hi0, hi1, kxH, hs3'⟩
            obtain ⟨_, _, _, hr3', _⟩ := id hs3'
            refine ⟨_, rfl, _, _, rfl, rfl, _, rfl, ite2 (fun hp => ?_) (fun hp => ?_)⟩
            · have hp' : (0 : Int) < (rest : Nat) := of_decide_eq_true hp
              refine ⟨_, rfl, _, rfl, r, _, 10 * rest + (n - (i + 1)) + m, rfl, hs3'.mono (by omega), hp', by omega, fun w1 H4 hw2 hw3 kx4 hs4 => ⟨_, _, rfl, rfl, ?_⟩⟩
              obtain ⟨sh, rfl⟩ : ∃ sh : Nat, w1 = (sh : Int) := ⟨w1.toNat, by omega⟩
              have eS : (1 : Int) + (sh : Nat) = ((1 + sh : Nat) : Int) := by omega
              have eQ : (rest : Int) - (1 + (sh : Nat)) = ((rest - (1 + sh) : Nat) : Int) := by omega
              have h4 := kx4 _ _ h3 nLr
              refine ⟨_, rfl, .inl ⟨rfl, _, SqL.of h4⟩, _, rfl, _, rfl, _, rfl, _, _, rfl, rfl, _, rfl, _, rfl, r, 1 + sh, deep - 1, k, b, 10 * (rest - (1 + sh)) + (n - (i + 1)) + m, (by rw [← eD, ← eS]; rfl), hs4.mono (by omega), by omega, by omega, by omega, by omega, by omega, hb, fun t1 a1 H5 i1 i2 i3 i4 i5 kx5 hs5 => ?_⟩
              have h5 := kx5 _ _ h4 nLr
              have hlas : as.length ≤ 400 := by
                have e1 := hts.len
                have : ∀ l : List T, l.length ≤ (l.map T.size).sum := fun l => by
                  induction l with
                  | nil => exact Nat.le_refl _
                  | cons t l ih => rw [List.map_cons, List.sum_cons, List.length_cons]; have := T.size_pos t; omega
                have := this ts
                omega
              have kL := Kx.upd Lp H5 (.lst (as.map V.ref ++ [V.ref a1]))
              have tL : ∀ b xs, SqT K H5 b xs → SqT K (upd H5 Lp (.lst (as.map V.ref ++ [V.ref a1]))) b xs := fun _ _ h => kL.sqT h5 trivial h
              refine ⟨Lp, _, _, rfl, rfl, h5, small_lt (by rw [List.length_map]; omega), _, rfl, _, rfl, _, _, rfl, rfl, _, _, ts ++ [t1], as ++ [a1], rest - (1 + sh), by rw [← eQ]; rfl, by rw [upd_same, List.map_append]; rfl, ?_, T.wfS_snoc i2 hwf, ?_, ?_, ?_, fun z => absurd z (Nat.succ_ne_zero _), fun _ z => by simp at z, ?_, ?_⟩
              · exact IsSs.snoc (IsSs.mono (fun _ _ h => tL _ _ (hs4.sqT kx5 (hs3'.sqT kx4 h))) _ _ hts) (IsS.mono tL _ _ i1)
              · rw [List.map_append, List.sum_append]
                simp
                omega
              · rw [T.deepS_snoc]
                omega
              · rw [T.blkS_snoc]
                omega
              · exact fun b o e n1 => kL _ _ (kx5 _ _ (kx4 _ _ (kxH b o e n1) n1) n1) (ne_of_none e hLp0)
              · obtain ⟨y0, y1, y2, hy, hy'⟩ := hs5
                exact ⟨y0, y1, y2, kL _ _ hy nLr.symm, hy'⟩
            · have hp' : ¬ (0 : Int) < (rest : Nat) := fun z => hp (decide_eq_true z)
              refine ⟨_, v9, ts, as, rest, rfl, h3, hts, hwf, hsum, hdeep, hblk, fun z => absurd z (Nat.succ_ne_zero _), fun _ => ?_, kxH, hs3'.mono (by omega)⟩
              rcases Nat.eq_zero_or_pos i with hz0 | hz0
              · have := hi0 hz0
                omega
              · exact hi1 hz0
          · rintro σ H3 ⟨v8, v9, ts, as, rest, rfl, h3, hts, hwf, hsum, hdeep, hblk, hi0, hi1, kxH, hs3'⟩
            refine ⟨_, rfl, Lp, _, rfl, .inl ⟨SqL.of h3, fun tp htp => ⟨(by show 2 ≤ sizeLine; decide), fun a ha => ?_⟩⟩⟩
            have st := same_upd (o := .tup (as.map V.ref)) htp
            have sa := same_upd (o := .tup [.str "seq", .ref tp]) ha
            have sta := st.trans sa
            exact q (.seq ts) a _ ⟨tp, as, SqT.of upd_same, same_sqT sa (SqT.of upd_same), hts.same sta⟩ ⟨hi1 (by omega), hwf⟩ (by rw [size_seq]; omega) (by rw [T.deep]; omega) (by rw [T.blk]; omega) (kxH.trans (Same.kx sta r)) ((hs3'.same sta).mono (by omega))
      · have e1 : ¬ (room : Int) < 3 := fun z => hs3 (.inl z)
        have e2 : ¬ 9 < v := fun z => hs3 (.inr z)
        have hR3 : 3 ≤ room := by omega
        have eR2 : (room : Int) - 2 = ((room - 2 : Nat) : Int) := by omega
        refine ifF (fun z => e1 (of_decide_eq_true z)) ⟨_, rfl, _, _, rfl, rfl, _, rfl, ifF (fun z => e2 (of_decide_eq_true z)) ?_⟩
        -- the share
        refine ⟨_, rfl, _, rfl, _, _, rfl, rfl, r, ((room - 2 : Nat) : Int), 10 * (room - 1) + m + 6, (by rw [← eR2]; rfl), hs1.mono (by omega), by omega, by omega, fun w0 H2 hw0 hw1 kx2 hs2 => ⟨_, _, rfl, rfl, ?_⟩⟩
        obtain ⟨sh, rfl⟩ : ∃ sh : Nat, w0 = (sh : Int) := ⟨w0.toNat, by omega⟩
        have eS : (1 : Int) + (sh : Nat) = ((1 + sh : Nat) : Int) := by omega
        have eQ : (room : Int) - 1 - (1 + (sh : Nat)) = ((room - 1 - (1 + sh) : Nat) : Int) := by omega
        -- one
        refine ⟨_, rfl, _, rfl, _, rfl, _, _, rfl, rfl, _, rfl, _, rfl, r, 1 + sh, deep - 1, k, b, 10 * (room - 1 - (1 + sh)) + m + 6, (by rw [← eD, ← eS]; rfl), hs2.mono (by omega), by omega, by omega, by omega, by omega, by omega, hb, fun t1 a1 H3 i1 i2 i3 i4 i5 kx3 hs3 => ?_⟩
        obtain ⟨_, _, _, hr3', _⟩ := id hs3
        have k13 := (kx1.trans kx2).trans kx3
        refine ⟨_, rfl, _, _, rfl, rfl, _, rfl, ?_⟩
        by_cases hfin : v < 7 ∧ (b : Int) < 25
        · refine ifT (decide_eq_true hfin.1) ⟨_, rfl, _, _, rfl, rfl, _, rfl, ifT (decide_eq_true hfin.2) ?_⟩
          refine ⟨_, rfl, _, rfl, _, rfl, _, _, rfl, rfl, _, rfl, _, _, rfl, rfl, _, rfl, _, _, rfl, rfl, _, rfl, _, rfl, _, _, rfl, rfl, r, room - 1 - (1 + sh), deep - 1, k, b + 1, m + 6, (by rw [← eD, ← eQ, ← eB]; rfl), hs3.mono (by omega), by omega, by omega, by omega, by omega, by omega, by omega, fun t2 a2 H4 j1 j2 j3 j4 j5 kx4 hs4 => ⟨(by show 3 ≤ sizeLine; decide), fun a ha => ?_⟩⟩
          have sa := same_upd (o := .tup [.str "final", .ref a1, .ref a2]) ha
          refine q (.fin t1 t2) a _ ⟨a1, a2, SqT.of upd_same, IsS.mono (fun _ _ h => same_sqT sa (hs3.sqT kx4 h)) _ _ i1, IsS.mono (fun _ _ h => same_sqT sa h) _ _ j1⟩ ⟨i2, j2⟩ (by rw [size_fin]; omega) (by rw [T.deep]; omega) (by rw [T.blk]; omega) ((k13.trans kx4).trans (Same.kx sa r)) ((hs4.same sa).mono (by omega))
        · by_cases h7 : v < 7
          · refine ifT (decide_eq_true h7) ⟨_, rfl, _, _, rfl, rfl, _, rfl, ifF (fun z => hfin ⟨h7, of_decide_eq_true z⟩) ?_⟩
            refine ⟨_, rfl, _, rfl, _, _, rfl, rfl, _, rfl, _, _, rfl, rfl, _, rfl, _, _, rfl, rfl, _, rfl, _, rfl, r, room - 1 - (1 + sh), deep - 1, k, b, m + 6, (by rw [← eD, ← eQ]; rfl), hs3.mono (by omega), by omega, by omega, by omega, by omega, by omega, hb, fun t2 a2 H4 j1 j2 j3 j4 j5 kx4 hs4 => ⟨_, rfl, rfl, _, rfl, ite2 (fun h7 => ?_) (fun h7 => ?_)⟩⟩
            · refine ⟨_, rfl, _, rfl, (by show 3 ≤ sizeLine; decide), fun a ha => ?_⟩
              have sa := same_upd (o := .tup [.str "try", .ref a1, .ref a2]) ha
              exact q (.tryy t1 t2) a _ ⟨a1, a2, SqT.of upd_same, IsS.mono (fun _ _ h => same_sqT sa (hs3.sqT kx4 h)) _ _ i1, IsS.mono (fun _ _ h => same_sqT sa h) _ _ j1⟩ ⟨i2, j2⟩ (by rw [size_try]; omega) (by rw [T.deep]; omega) (by rw [T.blk]; omega) ((k13.trans kx4).trans (Same.kx sa r)) ((hs4.same sa).mono (by omega))
            · refine ⟨_, rfl, r, m + 5, rfl, hs4, fun x H5 hx kx5 hs5 => ⟨_, rfl, _, rfl, (by show 4 ≤ sizeLine; decide), fun a ha => ?_⟩⟩
              have sa := same_upd (o := .tup [.str "if", .str x, .ref a1, .ref a2]) ha
              exact q (.ife x t1 t2) a _ ⟨a1, a2, SqT.of upd_same, IsS.mono (fun _ _ h => same_sqT sa (hs4.sqT kx5 (hs3.sqT kx4 h))) _ _ i1, IsS.mono (fun _ _ h => same_sqT sa (hs4.sqT kx5 h)) _ _ j1⟩ ⟨hx, i2, j2⟩ (by rw [size_ife]; omega) (by rw [T.deep]; omega) (by rw [T.blk]; omega) (((k13.trans kx4).trans kx5).trans (Same.kx sa r)) ((hs5.same sa).mono (by omega))
          · refine ifF (fun z => h7 (of_decide_eq_true z)) ?_
            refine ⟨_, rfl, _, rfl, _, _, rfl, rfl, _, rfl, _, _, rfl, rfl, _, rfl, _, _, rfl, rfl, _, rfl, _, rfl, r, room - 1 - (1 + sh), deep - 1, k, b, m + 6, (by rw [← eD, ← eQ]; rfl), hs3.mono (by omega), by omega, by omega, by omega, by omega, by omega, hb, fun t2 a2 H4 j1 j2 j3 j4 j5 kx4 hs4 => ⟨_, rfl, rfl, _, rfl, ite2 (fun h7 => ?_) (fun h7 => ?_)⟩⟩
            · refine ⟨_, rfl, _, rfl, (by show 3 ≤ sizeLine; decide), fun a ha => ?_⟩
              have sa := same_upd (o := .tup [.str "try", .ref a1, .ref a2]) ha
              exact q (.tryy t1 t2) a _ ⟨a1, a2, SqT.of upd_same, IsS.mono (fun _ _ h => same_sqT sa (hs3.sqT kx4 h)) _ _ i1, IsS.mono (fun _ _ h => same_sqT sa h) _ _ j1⟩ ⟨i2, j2⟩ (by rw [size_try]; omega) (by rw [T.deep]; omega) (by rw [T.blk]; omega) ((k13.trans kx4).trans (Same.kx sa r)) ((hs4.same sa).mono (by omega))
            · refine ⟨_, rfl, r, m + 5, rfl, hs4, fun x H5 hx kx5 hs5 => ⟨_, rfl, _, rfl, (by show 4 ≤ sizeLine; decide), fun a ha => ?_⟩⟩
              have sa := same_upd (o := .tup [.str "if", .str x, .ref a1, .ref a2]) ha
              exact q (.ife x t1 t2) a _ ⟨a1, a2, SqT.of upd_same, IsS.mono (fun _ _ h => same_sqT sa (hs4.sqT kx5 (hs3.sqT kx4 h))) _ _ i1, IsS.mono (fun _ _ h => same_sqT sa (hs4.sqT kx5 h)) _ _ j1⟩ ⟨hx, i2, j2⟩ (by rw [size_ife]; omega) (by rw [T.deep]; omega) (by rw [T.blk]; omega) (((k13.trans kx4).trans kx5).trans (Same.kx sa r)) ((hs5.same sa).mono (by omega))
end
end L2.K11
set_option Elab.async false
set_option linter.all false
set_option maxRecDepth 100000
set_option maxHeartbeats 1000000
/-! Lists of ways: in, ==, !=; _law_outside, _law_of_seq. -/
namespace L2.K11
open PySem PySem.Spec PyProof.Rows
theorem dpWays {K : PySem.W.Frag} {H : Hp} : ∀ {L : List AW}, AwOk K H L → DpAll K H (L.map fun p => V.ref p.1) (L.map fun p => p.2.data)
  | [], _ => .nil
  | p :: L, h => .cons (Way.dp (h p List.mem_cons_self)) (dpWays fun q hq => h q (List.mem_cons_of_mem _ hq))
theorem Way.canLay (v : Way) : v.data.canLay0 = true := by
  cases v <;> simp [Way.data, PyData.canLay0, PyData.canLayAll0] <;> decide +kernel
theorem canLayWs : ∀ L : List Way, PyData.canLayAll0 (L.map Way.data) = true
  | [] => by simp [PyData.canLayAll0]
  | v :: L => by
    rw [List.map_cons, PyData.canLayAll0, Way.canLay, canLayWs L]
    rfl
theorem depthWs : ∀ L : List Way, PyData.depthAll (L.map Way.data) ≤ 2
  | [] => by simp [PyData.depthAll]
  | v :: L => by
    rw [List.map_cons, PyData.depthAll]
    have := Way.depth v
    have := depthWs L
    omega
theorem shapedWs (L : List Way) : SeqAt.shaped (.list (L.map Way.data)) = true := by
  have h := depthWs L
  unfold SeqAt.shaped
  rw [show (PyData.list (L.map Way.data)).canLay0 = true by rw [PyData.canLay0]; exact canLayWs L]
  refine decide_eq_true ?_
  rw [PyData.depth]
  omega
theorem map_data (L : List AW) : L.map (fun p => p.2.data) = (L.map (·.2)).map Way.data := by
  rw [List.map_map]
  rfl
theorem any_eqv (v : Way) : ∀ L : List Way, ((L.map Way.data).any fun z => PyData.eqv z v.data) = decide (v ∈ L)
  | [] => by simp
  | u :: L => by
    rw [List.map_cons, List.any_cons, any_eqv v L, Way.eqv]
    by_cases h : u = v
    · simp [h]
    · simp [h, Ne.symm h, fun e : v = u => h e.symm]
def rInWs (K : PySem.W.Frag) : R2 := fun x y H Q => ∃ (b l : Addr) (v : Way) (L : List AW), x = .ref b ∧ y = .ref l ∧ SqT K H b v.vs ∧ SqL K H l (L.map fun p => V.ref p.1) ∧ AwOk K H L ∧ Q (.bl (decide (v ∈ L.map (·.2)))) H
def rNotInWs (K : PySem.W.Frag) : R2 := fun x y H Q => ∃ (b l : Addr) (v : Way) (L : List AW), x = .ref b ∧ y = .ref l ∧ SqT K H b v.vs ∧ SqL K H l (L.map fun p => V.ref p.1) ∧ AwOk K H L ∧ Q (.bl (!decide (v ∈ L.map (·.2)))) H
/-- two lists of the same ways -/
def rSameWs (K : PySem.W.Frag) (r : Bool) : R2 := fun x y H Q => ∃ (l m : Addr) (L M : List AW), x = .ref l ∧ y = .ref m ∧ SqL K H l (L.map fun p => V.ref p.1) ∧ SqL K H m (M.map fun p => V.ref p.1) ∧ AwOk K H L ∧ AwOk K H M ∧ L.map (·.2) = M.map (·.2) ∧ Q (.bl r) H
section
variable {X : Cx}
theorem op_inWs (hu : X.A.units + 65 < cLine) : OpR X (compareOp .In) (rInWs X.K) := by
  rintro pins s σ H x y v u Q I rx ry ⟨b, l, w, L, rfl, rfl, h1, h2, h3, q⟩
  refine op_inD hu pins s σ H _ _ v u Q I rx ry ⟨w.data, _, Way.dp h1, .lst h2 (dpWays h3), Way.shaped _, by rw [map_data]; exact shapedWs _, ?_⟩
  rw [map_data, any_eqv]
  exact q
theorem op_notInWs (hu : X.A.units + 65 < cLine) : OpR X (compareOp .NotIn) (rNotInWs X.K) := by
  rintro pins s σ H x y v u Q I rx ry ⟨b, l, w, L, rfl, rfl, h1, h2, h3, q⟩
  refine op_notInD hu pins s σ H _ _ v u Q I rx ry ⟨w.data, _, Way.dp h1, .lst h2 (dpWays h3), Way.shaped _, by rw [map_data]; exact shapedWs _, ?_⟩
  rw [map_data, any_eqv]
  exact q
theorem eqvWs (L : List Way) : PyData.eqv (.list (L.map Way.data)) (.list (L.map Way.data)) = true := SeqAt.eqv_refl _ (by rw [PyData.canLay0]; exact canLayWs L)
theorem op_eqWs (hu : X.A.units + 64 < cLine) : OpR X (compareOp .Eq) (rSameWs X.K true) := by
  rintro pins s σ H x y v u Q I rx ry ⟨l, m, L, M, rfl, rfl, h1, h2, h3, h4, e, q⟩
  refine op_eqD hu pins s σ H _ _ v u Q I rx ry ⟨_, _, .lst h1 (dpWays h3), .lst h2 (dpWays h4), by rw [map_data]; exact shapedWs _, by rw [map_data]; exact shapedWs _, ?_⟩
  rw [map_data, map_data, e, eqvWs]
  exact q
theorem op_neWs (hu : X.A.units + 64 < cLine) : OpR X (compareOp .NotEq) (rSameWs X.K false) := by
  rintro pins s σ H x y v u Q I rx ry ⟨l, m, L, M, rfl, rfl, h1, h2, h3, h4, e, q⟩
  refine op_neD hu pins s σ H _ _ v u Q I rx ry ⟨_, _, .lst h1 (dpWays h3), .lst h2 (dpWays h4), by rw [map_data]; exact shapedWs _, by rw [map_data]; exact shapedWs _, ?_⟩
  rw [map_data, map_data, e, eqvWs]
  exact q
end
/-- out of a loop, as the law says it -/
def outl : Way → Way
  | .brk n => if n = 1 then .normal else .brk (n - 1)
  | .cnt n => .cnt (n - 1)
  | v => v
section
variable {P : Program} {w : World} {K : PySem.W.Frag} {mg : Str → Option Value} {base : Heap}
abbrev sOut : Stmt := topS 45
theorem scOut : FnScope ["_law_way"] ["_law_way"] (defScope sOut) := ⟨rfl, rfl, rfl, by decide +kernel, rfl, by decide +kernel, by decide +kernel⟩
def spOut (K : PySem.W.Frag) : Sp := fun vs H Q _ => ∃ (b : Addr) (v : Way), vs = [.ref b] ∧ SqT K H b v.vs ∧ ∀ c H', Same H H' → SqT K H' c (outl v).vs → Q (.ref c) H'
theorem ok_out {f : Addr} {fd : FuncData} (F : FnP K "_law_outside" "_law_outside" sOut f fd) (Tx : Txt K mg) : FnOk P w K mg base CX0 1 f fd ["_law_way"] (spOut K) := by
  refine fok F scOut (fun vs H Q E h => ?_) (fun cdv A outer s H vs Q E hr h => ?_)
  · obtain ⟨b, v, rfl, _⟩ := h
    rfl
  · obtain ⟨b, v, rfl, hb, q⟩ := h
    refine ⟨_, (pss_cons (ps_if (pt_cmpR op_eq (pe_callB call_len_seq (by rfl) Tx.len PySem.boot_len (pa_cons (pv 0) pa_nil)) pe_int (nomark _))
 (pss_one (ps_ret (pv 0)))
 pss_nil)
 (pss_one (ps_ret (pe_ifExp (pt_cmpR (op_eqW hr.units) (pv 0) (pe_tup (pa_cons pe_str (pa_cons pe_int pa_nil))) (nomark _)) (pe_tup (pa_cons pe_str pa_nil)) (pe_tup (pa_cons (pe_ix ix_tup (pv 0) pe_int (fun _ _ => rfl)) (pa_cons (pe_op op_sub (pe_ix ix_tup (pv 0) pe_int (fun _ _ => rfl)) pe_int) pa_nil))))))), ?_⟩
    cases v with
    | normal => exact ⟨_, rfl, b, _, rfl, .inr hb, rfl, _, rfl, ifT (decide_eq_true rfl) ⟨_, rfl, q b H (Same.refl _) hb⟩⟩
    | rse => exact ⟨_, rfl, b, _, rfl, .inr hb, rfl, _, rfl, ifT (decide_eq_true rfl) ⟨_, rfl, q b H (Same.refl _) hb⟩⟩
    | ret => exact ⟨_, rfl, b, _, rfl, .inr hb, rfl, _, rfl, ifT (decide_eq_true rfl) ⟨_, rfl, q b H (Same.refl _) hb⟩⟩
    | brk n =>
      refine ⟨_, rfl, b, _, rfl, .inr hb, rfl, _, rfl, ifF (fun e => nomatch V.int.inj (of_decide_eq_true e)) ⟨_, rfl, (by show 2 ≤ sizeLine; decide), fun t0 ht0 => ⟨b, t0, .brk n, .brk 1, rfl, rfl, same_sqT (same_upd ht0) hb, SqT.of upd_same, _, rfl, ?_⟩⟩⟩
      have s0 := same_upd (o := .tup [.str "break", .int 1]) ht0
      by_cases hn : n = 1
      · refine ifT (by rw [hn]; simp) ⟨(by decide), fun c hc => q c _ (s0.trans (same_upd hc)) ?_⟩
        rw [show outl (.brk n) = .normal by simp [outl, hn]]
        exact SqT.of upd_same
      · have hb0 := same_sqT s0 hb
        refine ifF (by simp [hn]) ⟨_, rfl, b, _, 0, _, rfl, rfl, hb0, atI_nat (j := 0) rfl, _, rfl, b, _, 1, _, rfl, rfl, hb0, atI_nat (j := 1) rfl, _, _, rfl, rfl, (by show 2 ≤ sizeLine; decide), fun c hc => q c _ (s0.trans (same_upd hc)) ?_⟩
        rw [show outl (.brk n) = .brk (n - 1) by simp [outl, hn]]
        exact SqT.of upd_same
    | cnt n =>
      refine ⟨_, rfl, b, _, rfl, .inr hb, rfl, _, rfl, ifF (fun e => nomatch V.int.inj (of_decide_eq_true e)) ⟨_, rfl, (by show 2 ≤ sizeLine; decide), fun t0 ht0 => ⟨b, t0, .cnt n, .brk 1, rfl, rfl, same_sqT (same_upd ht0) hb, SqT.of upd_same, _, rfl, ?_⟩⟩⟩
      have s0 := same_upd (o := .tup [.str "break", .int 1]) ht0
      have hb0 := same_sqT s0 hb
      refine ifF (by simp) ⟨_, rfl, b, _, 0, _, rfl, rfl, hb0, atI_nat (j := 0) rfl, _, rfl, b, _, 1, _, rfl, rfl, hb0, atI_nat (j := 1) rfl, _, _, rfl, rfl, (by show 2 ≤ sizeLine; decide), fun c hc => q c _ (s0.trans (same_upd hc)) ?_⟩
      exact SqT.of upd_same
end
end L2.K11
set_option Elab.async false
set_option linter.all false
set_option maxRecDepth 100000
set_option maxHeartbeats 1000000
/-! _law_of_seq. -/
namespace L2.K11
open PySem PySem.Spec PyProof.Rows
/-- [e(way) for way in xs if way != c] -/
theorem lc_ways {K : PySem.W.Frag} {l D : Addr} {L : List AW} {H1 : Hp} {σ : St} {iw : Nat} {c : Way} {f : Way → Way} {ta : TA} {te : TE} {Qd : Hp → Prop} (hl : H1 l = some (.lst (L.map fun p => V.ref p.1))) (hk : AwOk K H1 L) (hD : H1 D = none) (hlen : L.length ≤ 100000) (hiw : iw < σ.length)
    (hta : ∀ σ H (Q : List V → Hp → Prop), Q c.vs H → ta σ H Q)
    (hte : ∀ p ∈ L, p.2 ≠ c → ∀ (σ : St) (H2 : Hp) (Q : VK), σ[iw]? = some (some (.ref p.1)) → SqT K H2 p.1 p.2.vs → (∀ a H3, Same H2 H3 → SqT K H3 a (f p.2).vs → Q (.ref a) H3) → te σ H2 Q)
    (hz : c.vs.length ≤ sizeLine)
    (hq : ∀ H2 L', Same H1 H2 → H2 D = some (.lst (L'.map fun p => V.ref p.1)) → AwOk K H2 L' → L'.map (·.2) = ((L.map (·.2)).filter fun v => decide (v ≠ c)).map f → Qd H2) :
    ∃ W : Nat → Nat → Hp → Prop, (∃ m, W 0 m (upd H1 D (.lst []))) ∧ ∀ i m H, W i m H →
      ((Itl K l).stop i H ∧ Qd H) ∨ ((Itl K l).go i H ∧ ∃ Nx : Hp → Prop, (∀ H', Nx H' → ∃ m', m' < m ∧ W (i + 1) m' H') ∧ ∀ x H', (Itl K l).yld i H x H' → gName iw x (wipe σ [iw]) H' fun σ2 H2 => wipe σ2 [iw] = wipe σ [iw] ∧ tTest (tOp (rNeW K) (tVar iw) (tTup ta)) σ2 H2 fun b H3 =>
        if b = true then te σ2 H3 fun y H4 => ∃ acc, H4 D = some (.lst acc) ∧ acc.length < sizeLine ∧ Nx (upd H4 D (.lst (acc ++ [y]))) else Nx H3) := by
  refine lc_list (K := K) (a := l) (xs := L.map fun p => V.ref p.1) (fun i H2 => ∃ L', Same H1 H2 ∧ H2 D = some (.lst (L'.map fun p => V.ref p.1)) ∧ AwOk K H2 L' ∧ L'.map (·.2) = (((L.take i).map (·.2)).filter fun v => decide (v ≠ c)).map f ∧ L'.length ≤ i) ⟨[], same_upd hD, upd_same, (fun p hp => nomatch hp), by simp, Nat.le_refl _⟩ (fun i H2 _ ⟨_, s2, _⟩ => SqL.of (s2 _ _ hl)) ?_ ?_
  · rintro i x H2 hi ⟨L', s2, h2, hk', hm, hln⟩
    obtain ⟨p, hp, rfl⟩ : ∃ p, L[i]? = some p ∧ x = .ref p.1 := by
      rw [List.getElem?_map] at hi
      obtain ⟨p, a, b⟩ := Option.map_eq_some_iff.mp hi
      exact ⟨p, a, b.symm⟩
    have hpm := List.mem_of_getElem? hp
    have hil := (List.getElem?_eq_some_iff.mp hp).1
    have hw1 : wipe ((wipe σ [iw]).set iw (some (.ref p.1))) [iw] = wipe σ [iw] := by simp [wipe]
    have hg : ((wipe σ [iw]).set iw (some (V.ref p.1)))[iw]? = some (some (.ref p.1)) := List.getElem?_set_self (by simp [wipe]; exact hiw)
    refine ⟨hw1, _, hg, hta _ _ _ ⟨hz, fun t0 ht0 => ⟨p.1, t0, p.2, c, rfl, rfl, same_sqT (same_upd ht0) (same_sqT s2 (hk p hpm)), SqT.of upd_same, _, rfl, ?_⟩⟩⟩
    have s0 := same_upd (o := .tup c.vs) ht0
    have htk : (L.take (i + 1)).map (·.2) = (L.take i).map (·.2) ++ [p.2] := by
      rw [List.take_add_one, hp, List.map_append]
      rfl
    by_cases hc : p.2 = c
    · rw [show (!decide (p.2 = c)) = false by simp [hc]]
      refine ⟨L', s2.trans s0, s0 _ _ h2, fun q hq => same_sqT s0 (hk' q hq), ?_, by omega⟩
      rw [htk, List.filter_append, hm]
      simp [hc]
    · rw [show (!decide (p.2 = c)) = true by simp [hc]]
      refine hte p hpm hc _ _ _ hg (same_sqT s0 (same_sqT s2 (hk p hpm))) fun a H3 s3 ha => ?_
      have h3 := s3 _ _ (s0 _ _ h2)
      have kx := Kx.upd D H3 (.lst (L'.map (fun p => V.ref p.1) ++ [V.ref a]))
      refine ⟨_, h3, small_lt (by rw [List.length_map]; omega), L' ++ [(a, f p.2)], kx.same ((s2.trans s0).trans s3) hD, by rw [upd_same, List.map_append]; rfl, fun q hq => ?_, ?_, by rw [List.length_append]; simp; omega⟩
      · rcases List.mem_append.mp hq with hq | hq
        · exact kx.sqT h3 trivial (same_sqT s3 (same_sqT s0 (hk' q hq)))
        · rw [List.mem_singleton.mp hq]
          exact kx.sqT h3 trivial ha
      · rw [htk, List.filter_append, List.map_append, hm]
        simp [hc]
  · rintro H2 ⟨L', s2, h2, hk', hm, _⟩
    rw [List.length_map, List.take_length] at hm
    exact hq H2 L' s2 h2 hk' hm
theorem hteId {K : PySem.W.Frag} {L : List AW} {iw : Nat} {c : Way} : ∀ p ∈ L, p.2 ≠ c → ∀ (σ : St) (H2 : Hp) (Q : VK), σ[iw]? = some (some (.ref p.1)) → SqT K H2 p.1 p.2.vs → (∀ a H3, Same H2 H3 → SqT K H3 a (id p.2).vs → Q (.ref a) H3) → tVar iw σ H2 Q :=
  fun p _ _ σ H2 Q h h2 q => ⟨_, h, q p.1 H2 (Same.refl _) h2⟩
theorem WL.len {K : PySem.W.Frag} {H : Hp} {l : Addr} {ws : List Way} (h : WL K H l ws) (hw : ∀ v ∈ ws, v ∈ allWays) : ∃ L : List AW, H l = some (.lst (L.map fun p => V.ref p.1)) ∧ AwOk K H L ∧ Asc (L.map (·.2)) ∧ (∀ z, z ∈ L.map (·.2) ↔ z ∈ ws) ∧ L.length ≤ 203 := by
  obtain ⟨L, a, b, c, d⟩ := h
  have := nodup_len (l := L.map (·.2)) (m := allWays) c.nd fun x hx => hw x ((d x).mp hx)
  rw [List.length_map, allWays_len] at this
  exact ⟨L, a, b, c, d, this⟩
theorem SqL.of_same {K : PySem.W.Frag} {H H' : Hp} {a : Addr} {xs : List V} (s : Same H H') (h : SqL K H a xs) : SqL K H' a xs := s.seq h
section
variable {P : Program} {w : World} {K : PySem.W.Frag} {mg : Str → Option Value} {base : Heap}
abbrev sOS : Stmt := topS 46
theorem scOS : FnScope ["_law_some", "_law_found", "_law_is_open", "_law_here", "_law_way"] ["_law_some"] (defScope sOS) := ⟨rfl, rfl, rfl, by decide +kernel, rfl, by decide +kernel, by decide +kernel⟩
def spOS (K : PySem.W.Frag) : Sp := fun vs H Q _ => ∃ (p : Addr) (ls : List (Addr × List Way)), vs = [.ref p] ∧ SqL K H p (ls.map fun q => V.ref q.1) ∧ (∀ q ∈ ls, WL K H q.1 q.2 ∧ ∀ v ∈ q.2, v ∈ allWays) ∧ ls.length ≤ 400 ∧
  ∀ R L H', Same H H' → H' R = some (.lst (L.map fun (p : AW) => V.ref p.1)) → AwOk K H' L → (∀ z, z ∈ L.map (·.2) ↔ z ∈ seqW (ls.map (·.2))) → L.length ≤ 90000 → Q (.ref R) H'
theorem ok_os {f : Addr} {fd : FuncData} (F : FnP K "_law_of_seq" "_law_of_seq" sOS f fd) (Tx : Txt K mg) : FnOk P w K mg base CX0 1 f fd ["_law_some"] (spOS K) := by
  refine fok F scOS (fun vs H Q E h => ?_) (fun cdv A outer s H vs Q E hr h => ?_)
  · obtain ⟨p, ls, rfl, _⟩ := h
    rfl
  · obtain ⟨p, ls, rfl, hp, hls, hlen, q⟩ := h
    have hu64 : (A.deeper (envOfC "_law_of_seq" (defScope sOS) s.heap.objs.size f cdv)).units + 64 < cLine := hr.units
    have hu65 : (A.deeper (envOfC "_law_of_seq" (defScope sOS) s.heap.objs.size f cdv)).units + 65 < cLine := by have := hr.un; omega
    refine ⟨_, (pss_cons (ps_par (i := 1) (j := 2) (by rfl) scOS.nd rfl rfl (by decide) rfl rfl (pa_cons (pe_lst pa_nil) (pa_cons pe_bl pa_nil)) (by rfl))
 (pss_cons (ps_for PassesOwn.never rfl (pi_list (pv 0)) (pg_name (i := 3) scOS.nd rfl (.inl rfl))
 (pss_one (ps_if (pt_val (pv 2))
 (pss_cons (ps_expr (pe_bm PySem.F.plainAttrs_list PySem.F.slot_list_extend PySem.F.type_list_extend mt_extend (pv 1) (pa_cons (pe_lc (own := [("_law_way", 4)]) (g := gName 4) (tt := tTest (tOp (rNeW K) (tVar 4) (tTup (tCons (tC (V.str "normal")) tNil)))) (te := tVar 4) rfl scOS.nd (pi_list (pv 3)) (blkOk_by (N := ["_law_some", "_law_found", "_law_is_open", "_law_here", "_law_way"]) (sc := defScope sOS) (by decide +kernel)) (fun _ _ _ _ _ => pg_name (i := 4) scOS.nd rfl (Or.inl rfl)) (fun _ _ _ _ _ => pts_one (pt_cmpR (op_neW hu64) (pv 4) (pe_tup (pa_cons pe_str pa_nil)) (nomark _))) (fun _ _ _ _ _ => pv 4)) pa_nil)))
 (pss_one (ps_set (i := 2) scOS.nd rfl (.inl rfl) (pe_cmpR (op_inWs hu65) (pe_tup (pa_cons pe_str pa_nil)) (pv 3) (by rfl)))))
 pss_nil)))
 (pss_one (ps_ret (pe_op op_cat (pv 1) (pe_op op_rep (pe_lst (pa_cons (pe_tup (pa_cons pe_str pa_nil)) pa_nil)) (pe_callTy call_int1 (by rfl) Tx.int (by decide +kernel) (pa_cons (pv 2) pa_nil)))))))), ?_⟩
    refine ⟨by decide, fun F hF => ⟨_, _, rfl, ?_⟩⟩
    have sF := same_upd (o := .lst []) hF
    refine ⟨_, rfl, p, rfl, ⟨_, SqL.of_same sF hp⟩, for_list (K := K) (a := p) (xs := ls.map fun q => V.ref q.1) (fun i σ H1 => ∃ o v3 v4 L, σ = [some (.ref p), some (.ref F), some (.bl o), v3, v4] ∧ Same H H1 ∧ H1 F = some (.lst (L.map fun (p : AW) => V.ref p.1)) ∧ AwOk K H1 L ∧ L.length ≤ 203 * i ∧
      ∀ z, z ∈ seqW (ls.map (·.2)) ↔ z ∈ L.map (·.2) ∨ (o = true ∧ z ∈ seqW ((ls.drop i).map (·.2)))) ⟨true, none, none, [], rfl, sF, upd_same, (fun p hp => nomatch hp), Nat.zero_le _, fun z => by simp⟩ (fun i σ H1 _ ⟨_, _, _, _, _, s1, _⟩ => s1.seq hp) ?_ ?_⟩
    · rintro i x σ H1 hi ⟨o, v3, v4, L, rfl, s1, h1, hk, hln, hw⟩
      obtain ⟨⟨l, ws⟩, hq, rfl⟩ : ∃ q, ls[i]? = some q ∧ x = .ref q.1 := by
        rw [List.getElem?_map] at hi
        obtain ⟨q, a, b⟩ := Option.map_eq_some_iff.mp hi
        exact ⟨q, a, b.symm⟩
      obtain ⟨hil, hgi⟩ := List.getElem?_eq_some_iff.mp hq
      obtain ⟨hwl, hws⟩ := hls _ (List.mem_of_getElem? hq)
      have hdrop : ls.drop i = (l, ws) :: ls.drop (i + 1) := by
        rw [List.drop_eq_getElem_cons hil, hgi]
      cases o with
      | false =>
        exact ⟨_, rfl, false, rfl, false, some (.ref l), v4, L, rfl, s1, h1, hk, by omega, fun z => by rw [hw]; simp⟩
      | true =>
        refine ⟨_, rfl, true, rfl, ?_⟩
        obtain ⟨M, m1, m2, m3, m4, m5⟩ := (hwl.same s1).len hws
        refine ⟨_, rfl, .inl ⟨rfl, _, SqL.of h1⟩, _, rfl, l, rfl, ⟨_, SqL.of m1⟩, fun D hD => ?_⟩
        refine lc_ways (K := K) (iw := 4) (c := .normal) (f := id) m1 m2 hD (by omega) (by show 4 < 5; decide) (fun _ _ _ h => h) hteId (by decide) fun H2 L' s2 h2 hk' hm => ?_
        have h1' := s2 _ _ h1
        have hL' : L'.length ≤ 203 := by
          have := congrArg List.length hm
          rw [List.length_map, List.length_map] at this
          have h3 := List.length_filter_le (fun v => decide (v ≠ Way.normal)) (M.map (·.2))
          rw [List.length_map] at h3
          omega
        refine ⟨F, D, _, _, rfl, rfl, h1', h2, (by rw [List.length_map, List.length_map]; exact small_line (by omega)), ?_⟩
        have kx := Kx.upd F H2 (.lst (L.map (fun (p : AW) => V.ref p.1) ++ L'.map fun (p : AW) => V.ref p.1))
        have nF : l ≠ F := fun e => by
          rw [e] at hwl
          obtain ⟨_, z, _⟩ := hwl
          rw [hF] at z
          cases z
        have m1' := kx _ _ (s2 _ _ m1) nF
        have m2' : AwOk K (upd H2 F (.lst (L.map (fun (p : AW) => V.ref p.1) ++ L'.map fun (p : AW) => V.ref p.1))) M := fun p hp => kx.sqT h1' trivial (same_sqT s2 (m2 p hp))
        refine ⟨(by decide), fun t0 ht0 => ⟨_, rfl, t0, l, .normal, M, rfl, rfl, SqT.of upd_same, SqL.of (same_upd ht0 _ _ m1'), fun p hp => same_sqT (same_upd ht0) (m2' p hp), ?_⟩⟩
        have s0 := same_upd (o := .tup [.str "normal"]) ht0
        refine ⟨decide (Way.normal ∈ M.map (·.2)), _, _, L ++ L', rfl, (kx.same (s1.trans s2) hF).trans s0, s0 _ _ (by rw [upd_same, List.map_append]), fun p hp => ?_, by rw [List.length_append]; omega, fun z => ?_⟩
        · rcases List.mem_append.mp hp with hp | hp
          · exact same_sqT s0 (kx.sqT h1' trivial (same_sqT s2 (hk p hp)))
          · exact same_sqT s0 (kx.sqT h1' trivial (hk' p hp))
        · rw [hw, hdrop, List.map_append, hm]
          simp only [List.map_cons, seqW, List.map_id, List.mem_append, List.mem_filter, decide_eq_true_eq, m4, true_and]
          by_cases hn : Way.normal ∈ ws
          · rw [if_pos hn]
            simp only [hn, true_and]
            constructor
            · rintro (a | a | a)
              · exact .inl (.inl a)
              · exact .inl (.inr a)
              · exact .inr a
            · rintro ((a | a) | a)
              · exact .inl a
              · exact .inr (.inl a)
              · exact .inr (.inr a)
          · rw [if_neg hn]
            simp [hn]
    · rintro σ H1 ⟨o, v3, v4, L, rfl, s1, h1, hk, hln, hw⟩
      rw [List.length_map, List.drop_length] at hw
      rw [List.length_map] at hln
      refine ⟨_, rfl, (by decide), fun t0 ht0 => ⟨(by show 1 ≤ sizeLine; decide), fun l0 hl0 => ?_⟩⟩
      have s0 := same_upd (o := .tup [.str "normal"]) ht0
      have sl := s0.trans (same_upd (o := .lst [.ref t0]) hl0)
      refine ⟨_, rfl, .inr ⟨o, rfl, l0, _, _, rfl, rfl, upd_same, ?_, ?_, ?_, fun l1 hl1 => ?_⟩⟩
      · cases o <;> decide
      · cases o <;> decide
      · cases o <;> exact small_line (by simp)
      have s1' := same_upd (o := .lst (List.replicate (Int.toNat (if o = true then 1 else 0)) [V.ref t0]).flatten) hl1
      have sA := sl.trans s1'
      refine ⟨F, l1, _, _, rfl, rfl, sA _ _ h1, upd_same, ?_, fun R hR => ?_⟩
      · cases o <;> (rw [List.length_map]; exact small_line (by simp; omega))
      have sR := sA.trans (same_upd (o := .lst (L.map (fun (p : AW) => V.ref p.1) ++ (List.replicate (Int.toNat (if o = true then 1 else 0)) [V.ref t0]).flatten)) hR)
      refine q R (L ++ (if o = true then [(t0, Way.normal)] else [])) _ (s1.trans sR) ?_ ?_ ?_ ?_
      · rw [upd_same]
        cases o <;> simp
      · intro p hp
        rcases List.mem_append.mp hp with hp | hp
        · exact same_sqT sR (hk p hp)
        · cases o with
          | false => exact nomatch hp
          | true =>
            rw [if_pos rfl, List.mem_singleton] at hp
            rw [hp]
            exact same_sqT (((same_upd hl0).trans s1').trans (same_upd hR)) (SqT.of upd_same)
      · intro z
        rw [hw]
        cases o <;> simp [seqW]
      · rw [List.length_append]
        cases o <;> simp <;> omega
end
end L2.K11
set_option Elab.async false
set_option linter.all false
set_option maxRecDepth 100000
set_option maxHeartbeats 1000000
/-! _law_by_parts. -/
namespace L2.K11
open PySem PySem.Spec PyProof.Rows
theorem allWays_le {v : Way} (h : v ∈ allWays) : v.le 100 := by
  simp only [allWays, List.mem_append, List.mem_cons, List.mem_map, List.mem_range, List.not_mem_nil, or_false] at h
  rcases h with ((rfl | rfl | rfl) | ⟨i, hi, rfl⟩) | ⟨i, hi, rfl⟩
  · trivial
  · trivial
  · trivial
  · show (1 : Int) ≤ ((i + 1 : Nat) : Int) ∧ ((i + 1 : Nat) : Int) ≤ (100 : Nat)
    omega
  · show (1 : Int) ≤ ((i + 1 : Nat) : Int) ∧ ((i + 1 : Nat) : Int) ≤ (100 : Nat)
    omega
theorem out_mem {ws : List Way} (hw : ∀ v ∈ ws, v ∈ allWays) (z : Way) : z ∈ Way.normal :: (ws.filter fun v => decide (v ≠ .cnt 1)).map outl ↔ z ∈ Way.normal :: ws.filterMap outw := by
  simp only [List.mem_cons, List.mem_map, List.mem_filter, List.mem_filterMap, decide_eq_true_eq]
  constructor
  · rintro (rfl | ⟨v, ⟨h1, h2⟩, rfl⟩)
    · exact .inl rfl
    · have hl := allWays_le (hw v h1)
      cases v with
      | normal => exact .inl rfl
      | rse => exact .inr ⟨_, h1, rfl⟩
      | ret => exact .inr ⟨_, h1, rfl⟩
      | brk n =>
        simp only [Way.le] at hl
        by_cases e : n = 1
        · exact .inl (by simp [outl, e])
        · exact .inr ⟨_, h1, by simp [outl, outw, e]; omega⟩
      | cnt n =>
        simp only [Way.le] at hl
        have e : n ≠ 1 := fun e => h2 (by rw [e])
        exact .inr ⟨_, h1, by simp [outl, outw]; omega⟩
  · rintro (rfl | ⟨v, h1, h2⟩)
    · exact .inl rfl
    · refine .inr ⟨v, ⟨h1, ?_⟩, ?_⟩
      · rintro rfl
        simp [outw] at h2
      · cases v with
        | normal => cases h2
        | rse => simpa [outw, outl] using h2
        | ret => simpa [outw, outl] using h2
        | brk n =>
          simp [outw] at h2
          obtain ⟨a, rfl⟩ := h2
          simp [outl, show n ≠ 1 by omega]
        | cnt n =>
          simp [outw] at h2
          obtain ⟨a, rfl⟩ := h2
          simp [outl]
theorem rep_if (b : Bool) (x : List V) : (List.replicate (Int.toNat (if b = true then 1 else 0)) x).flatten = if b = true then x else [] := by
  cases b <;> simp
theorem rep_b1 (b : Bool) : -(2 ^ 63) ≤ (if b = true then (1 : Int) else 0) := by cases b <;> decide
theorem rep_b2 (b : Bool) : (if b = true then (1 : Int) else 0) < 2 ^ 63 := by cases b <;> decide
theorem rep_b3 (b : Bool) {n : Nat} (h : n ≤ 100000) : n * (Int.toNat (if b = true then 1 else 0)) ≤ sizeLine := by cases b <;> exact small_line (by simp; try omega)
theorem leaf_dc {t : T} (h : t.isLeaf = true) (h1 : t.isNamed = false) : inV (.str t.kind) [.str "do", .str "call"] = false := by
  cases t with
  | act x => cases h1
  | call x => cases h1
  | brk x => exact (by decide +kernel : inV (.str "break") [.str "do", .str "call"] = false)
  | cnt x => exact (by decide +kernel : inV (.str "continue") [.str "do", .str "call"] = false)
  | ret => exact (by decide +kernel : inV (.str "return") [.str "do", .str "call"] = false)
  | rse => exact (by decide +kernel : inV (.str "raise") [.str "do", .str "call"] = false)
  | ife x a b => cases h
  | wh x a => cases h
  | seq ts => cases h
  | tryy a b => cases h
  | fin a b => cases h
theorem inn_dc {t : T} (h : t.isLeaf = false) : inV (.str t.kind) [.str "do", .str "call"] = false := by
  cases t with
  | act x => cases h
  | call x => cases h
  | brk x => cases h
  | cnt x => cases h
  | ret => cases h
  | rse => cases h
  | ife x a b => exact (by decide +kernel : inV (.str "if") [.str "do", .str "call"] = false)
  | wh x a => exact (by decide +kernel : inV (.str "while") [.str "do", .str "call"] = false)
  | seq ts => exact (by decide +kernel : inV (.str "seq") [.str "do", .str "call"] = false)
  | tryy a b => exact (by decide +kernel : inV (.str "try") [.str "do", .str "call"] = false)
  | fin a b => exact (by decide +kernel : inV (.str "final") [.str "do", .str "call"] = false)
theorem two_kd {a b : T} {kd : List (Addr × T)} (h : kd.map (·.2) = [a, b]) : ∃ d0 d1, kd = [(d0, a), (d1, b)] := by
  match kd, h with
  | [(d0, _), (d1, _)], h => simp at h; exact ⟨d0, d1, by rw [h.1, h.2]⟩
theorem one_kd {a : T} {kd : List (Addr × T)} (h : kd.map (·.2) = [a]) : ∃ d0, kd = [(d0, a)] := by
  match kd, h with
  | [(d0, _)], h => simp at h; exact ⟨d0, by rw [h]⟩
section
variable {P : Program} {w : World} {K : PySem.W.Frag} {mg : Str → Option Value} {base : Heap}
theorem byp_tail {σ : St} {H1 : Hp} {Q : VK} {F : Addr} {L : List AW} {ws : List Way} (hσ : σ[3]? = some (some (.ref F))) (hF : H1 F = some (.lst (L.map fun p => V.ref p.1))) (hk : AwOk K H1 L) (hm : ∀ z, z ∈ L.map (·.2) ↔ z ∈ ws) (hw : ∀ v ∈ ws, v ∈ allWays)
    (q : ∀ R H', Same H1 H' → WL K H' R ws → Q (.ref R) H') : tCB (rSortedW K P w) (tCons (tCB (rSetW K P w) (tCons (tVar 3) tNil)) tNil) σ H1 Q := by
  refine ⟨_, hσ, F, L, rfl, SqL.of hF, hk, ⟨allWays, by rw [allWays_len]; decide, fun v hv => hw v ((hm v).mp hv)⟩, fun a L' ha h1 h2 h3 => ?_⟩
  have sa := same_upd (o := setWO P w a L') ha
  refine ⟨a, L', rfl, upd_same, fun p hp => same_sqT sa (hk p (h1 p hp)), fun p L'' hp pm asc => ?_⟩
  have sp := same_upd (o := .lst (L''.map fun q => V.ref q.1)) hp
  refine q p _ (sa.trans sp) ⟨L'', upd_same, fun x hx => same_sqT (sa.trans sp) (hk x (h1 x (pm.mem_iff.mp hx))), asc, fun z => ?_⟩
  rw [(pm.map (·.2)).mem_iff, ← hm z]
  constructor
  · intro h
    obtain ⟨x, hx, rfl⟩ := List.mem_map.mp h
    exact List.mem_map.mpr ⟨x, h1 x hx, rfl⟩
  · intro h
    obtain ⟨x, hx, rfl⟩ := List.mem_map.mp h
    exact h2 x hx
abbrev sBy : Stmt := topS 47
abbrev nBy : List Str := ["_law_statement_here", "_law_some", "_law_kind", "_law_found", "_law_way"]
theorem scBy : FnScope nBy ["_law_statement_here", "_law_some"] (defScope sBy) := ⟨rfl, rfl, rfl, by decide +kernel, rfl, by decide +kernel, by decide +kernel⟩
def spBy (K : PySem.W.Frag) : Sp := fun vs H Q _ => ∃ (a s : Addr) (t : T) (kd : List (Addr × T)), vs = [.ref a, .ref s] ∧ IsS K H t a ∧ t.size ≤ 400 ∧ (∀ v ∈ t.ws, v ∈ allWays) ∧ H s = some (.lst (kd.map fun q => V.ref q.1)) ∧ kd.map (·.2) = t.kids ∧
  (∀ q ∈ kd, WL K H q.1 q.2.ws ∧ ∀ v ∈ q.2.ws, v ∈ allWays) ∧ ∀ R H', Same H H' → WL K H' R t.ws → Q (.ref R) H'
theorem ok_by {f f1 f2 : Addr} {fd fd1 fd2 : FuncData} (F : FnP K "_law_by_parts" "_law_by_parts" sBy f fd) (Tx : Txt K mg) (c1 : Cal P w K mg base 1 "_law_outside" ["_law_way"] (spOut K) f1 fd1) (c2 : Cal P w K mg base 1 "_law_of_seq" ["_law_some"] (spOS K) f2 fd2) :
    FnOk P w K mg base CX0 2 f fd ["_law_statement_here", "_law_some"] (spBy K) := by
  refine fok F scBy (fun vs H Q E h => ?_) (fun cdv A outer s H vs Q E hr h => ?_)
  · obtain ⟨a, s, t, kd, rfl, _⟩ := h
    rfl
  · obtain ⟨a, so, t, kd, rfl, ht, hz, hw, hso, hkd, hwl, q⟩ := h
    have hu64 : (A.deeper (envOfC "_law_by_parts" (defScope sBy) s.heap.objs.size f cdv)).units + 64 < cLine := hr.units
    have hu65 : (A.deeper (envOfC "_law_by_parts" (defScope sBy) s.heap.objs.size f cdv)).units + 65 < cLine := by have := hr.un; omega
    have hu3 : (A.deeper (envOfC "_law_by_parts" (defScope sBy) s.heap.objs.size f cdv)).units + 3 < cLine := by have := hr.un; omega
    have hu6 : (A.deeper (envOfC "_law_by_parts" (defScope sBy) s.heap.objs.size f cdv)).units + 6 < cLine := by have := hr.un; omega
    refine ⟨_, (pss_cons (ps_par (i := 2) (j := 3) (by rfl) scBy.nd rfl rfl (by decide) rfl rfl (pa_cons (pe_ix ix_tup (pv 0) pe_int (fun _ _ => rfl)) (pa_cons (pe_lst pa_nil) pa_nil)) (by rfl))
 (pss_cons (ps_if (pt_cmpR op_in_seq (pv 2) (pe_tup (pa_cons pe_str (pa_cons pe_str pa_nil))) (by rfl))
 (pss_one (ps_set (i := 3) scBy.nd rfl (.inl rfl) (pe_op op_cat (pe_lst (pa_cons (pe_tup (pa_cons pe_str pa_nil)) pa_nil)) (pe_op op_rep (pe_lst (pa_cons (pe_tup (pa_cons pe_str pa_nil)) pa_nil)) (pe_callTy call_int1 (by rfl) Tx.int (by decide +kernel) (pa_cons (pe_cmpR op_eq (pv 2) pe_str (nomark _)) pa_nil))))))
 (pss_one (ps_if (pt_cmpR op_eq (pv 2) pe_str (nomark _))
 (pss_one (ps_set (i := 3) scBy.nd rfl (.inl rfl) (pe_op op_cat (pe_ix ix_list (pv 1) pe_int (fun _ _ => rfl)) (pe_ix ix_list (pv 1) pe_int (fun _ _ => rfl)))))
 (pss_one (ps_if (pt_cmpR op_eq (pv 2) pe_str (nomark _))
 (pss_one (ps_set (i := 3) scBy.nd rfl (.inl rfl) (pe_op op_cat (pe_lst (pa_cons (pe_tup (pa_cons pe_str pa_nil)) pa_nil)) (pe_lc (own := [("_law_way", 4)]) (g := gName 4) (tt := tTest (tOp (rNeW K) (tVar 4) (tTup (tCons (tC (V.str "continue")) (tCons (tC (V.int 1)) tNil))))) (te := tCall (spOut K) [] E0 (tCons (tVar 4) tNil)) rfl scBy.nd (pi_list (pe_ix ix_list (pv 1) pe_int (fun _ _ => rfl))) (blkOk_by (N := nBy) (sc := defScope sBy) (by decide +kernel)) (fun _ _ _ _ _ => pg_name (i := 4) scBy.nd rfl (Or.inl rfl)) (fun _ _ _ _ _ => pts_one (pt_cmpR (op_neW hu64) (pv 4) (pe_tup (pa_cons pe_str (pa_cons pe_int pa_nil))) (nomark _))) (fun _ _ _ _ _ => pe_call c1.ok hr (by rfl) c1.m c1.kp c1.b .nil pass0 (pa_cons (pv 4) pa_nil))))))
 (pss_one (ps_if (pt_cmpR op_eq (pv 2) pe_str (nomark _))
 (pss_one (ps_set (i := 3) scBy.nd rfl (.inl rfl) (pe_call c2.ok hr (by rfl) c2.m c2.kp c2.b .nil pass0 (pa_cons (pv 1) pa_nil))))
 (pss_one (ps_if (pt_cmpR op_eq (pv 2) pe_str (nomark _))
 (pss_one (ps_set (i := 3) scBy.nd rfl (.inl rfl) (pe_op op_cat (pe_lc (own := [("_law_way", 4)]) (g := gName 4) (tt := tTest (tOp (rNeW K) (tVar 4) (tTup (tCons (tC (V.str "raise")) tNil)))) (te := tVar 4) rfl scBy.nd (pi_list (pe_ix ix_list (pv 1) pe_int (fun _ _ => rfl))) (blkOk_by (N := nBy) (sc := defScope sBy) (by decide +kernel)) (fun _ _ _ _ _ => pg_name (i := 4) scBy.nd rfl (Or.inl rfl)) (fun _ _ _ _ _ => pts_one (pt_cmpR (op_neW hu64) (pv 4) (pe_tup (pa_cons pe_str pa_nil)) (nomark _))) (fun _ _ _ _ _ => pv 4)) (pe_op op_rep (pe_ix ix_list (pv 1) pe_int (fun _ _ => rfl)) (pe_callTy call_int1 (by rfl) Tx.int (by decide +kernel) (pa_cons (pe_cmpR (op_inWs hu65) (pe_tup (pa_cons pe_str pa_nil)) (pe_ix ix_list (pv 1) pe_int (fun _ _ => rfl)) (by rfl)) pa_nil))))))
 (pss_one (ps_if (pt_cmpR op_eq (pv 2) pe_str (nomark _))
 (pss_one (ps_set (i := 3) scBy.nd rfl (.inl rfl) (pe_op op_cat (pe_op op_rep (pe_ix ix_list (pv 1) pe_int (fun _ _ => rfl)) (pe_callTy call_int1 (by rfl) Tx.int (by decide +kernel) (pa_cons (pe_cmpR (op_inWs hu65) (pe_tup (pa_cons pe_str pa_nil)) (pe_ix ix_list (pv 1) pe_int (fun _ _ => rfl)) (by rfl)) pa_nil))) (pe_lc (own := [("_law_way", 4)]) (g := gName 4) (tt := tTest (tOp (rNeW K) (tVar 4) (tTup (tCons (tC (V.str "normal")) tNil)))) (te := tVar 4) rfl scBy.nd (pi_list (pe_ix ix_list (pv 1) pe_int (fun _ _ => rfl))) (blkOk_by (N := nBy) (sc := defScope sBy) (by decide +kernel)) (fun _ _ _ _ _ => pg_name (i := 4) scBy.nd rfl (Or.inl rfl)) (fun _ _ _ _ _ => pts_one (pt_cmpR (op_neW hu64) (pv 4) (pe_tup (pa_cons pe_str pa_nil)) (nomark _))) (fun _ _ _ _ _ => pv 4)))))
 (pss_one (ps_set (i := 3) scBy.nd rfl (.inl rfl) (pe_lst (pa_cons (pv 0) pa_nil)))))))))))))))
 (pss_one (ps_ret (pe_callB (call_sortedW rfl hu6) (by rfl) Tx.sorted (by decide +kernel) (pa_cons (pe_callTy (call_setW rfl hu3) (by rfl) Tx.set (by decide +kernel) (pa_cons (pv 3) pa_nil)) pa_nil)))))), ?_⟩
    obtain ⟨xs, hx, hsz, hnm, hjp, hsq⟩ := ht.head
    refine ⟨_, rfl, a, _, 0, _, rfl, rfl, hx, atI_nat (j := 0) rfl, by decide, fun F0 hF0 => ⟨_, _, rfl, ?_⟩⟩
    have sF := same_upd (o := .lst []) hF0
    refine ⟨_, rfl, (by decide), fun t0 ht0 => ⟨t0, _, rfl, .inr (SqT.of upd_same), rfl, rfl, _, rfl, ?_⟩⟩
    have s0 := sF.trans (same_upd (o := .tup [.str "do", .str "call"]) ht0)
    have hso' := s0 _ _ hso
    have hwl' : ∀ q ∈ kd, ∃ L : List AW, (upd (upd H F0 (.lst [])) t0 (.tup [.str "do", .str "call"])) q.1 = some (.lst (L.map fun p => V.ref p.1)) ∧ AwOk K (upd (upd H F0 (.lst [])) t0 (.tup [.str "do", .str "call"])) L ∧ (∀ z, z ∈ L.map (·.2) ↔ z ∈ q.2.ws) ∧ L.length ≤ 203 := fun q hq => by
      obtain ⟨L, a, b, _, c, d⟩ := ((hwl q hq).1.same s0).len (hwl q hq).2
      exact ⟨L, a, b, c, d⟩
    cases t with
    | act x =>
      refine ifT (show inV (.str "do") [.str "do", .str "call"] = true by decide +kernel) ?_
      have ek : decide (V.str (T.kind (.act x)) = V.str "call") = false := (by decide +kernel : decide (V.str "do" = V.str "call") = false)
      refine ⟨by decide, fun tn htn => ⟨(by show 1 ≤ sizeLine; decide), fun ln hln => ⟨by decide, fun tr htr => ⟨(by show 1 ≤ sizeLine; decide), fun lr hlr => ?_⟩⟩⟩⟩
      have a1 := same_upd (o := .tup [.str "normal"]) htn
      have a2 := same_upd (o := .lst [.ref tn]) hln
      have a3 := same_upd (o := .tup [.str "raise"]) htr
      have a4 := same_upd (o := .lst [.ref tr]) hlr
      have sA := ((a1.trans a2).trans a3).trans a4
      refine ⟨_, rfl, rfl, .inr ⟨_, rfl, lr, _, _, rfl, rfl, upd_same, rep_b1 _, rep_b2 _, rep_b3 _ (by show 1 ≤ 100000; decide), fun l2 hl2 => ?_⟩⟩
      have a5 := same_upd (o := .lst (List.replicate (Int.toNat (if decide (V.str (T.kind (.act x)) = V.str "call") = true then 1 else 0)) [V.ref tr]).flatten) hl2
      refine ⟨ln, l2, _, _, rfl, rfl, a5 _ _ (a4 _ _ (a3 _ _ upd_same)), upd_same, (by rw [rep_if, ek]; exact small_line (by simp)), fun l3 hl3 => ?_⟩
      have a6 := same_upd (o := .lst ([V.ref tn] ++ (List.replicate (Int.toNat (if decide (V.str (T.kind (.act x)) = V.str "call") = true then 1 else 0)) [V.ref tr]).flatten)) hl3
      have sB := (sA.trans a5).trans a6
      refine byp_tail (L := [(tn, .normal)]) (ws := (T.act x).ws) rfl (by rw [upd_same, rep_if, ek]; rfl) ?_ (fun z => by simp [T.ws]) hw fun R H' s' h => q R H' ((s0.trans sB).trans s') h
      intro p hp
      simp only [List.mem_cons, List.not_mem_nil, or_false] at hp
      subst hp
      exact same_sqT ((((a2.trans a3).trans a4).trans a5).trans a6) (SqT.of upd_same)
    | call x =>
      refine ifT (show inV (.str "call") [.str "do", .str "call"] = true by decide +kernel) ?_
      have ek : decide (V.str (T.kind (.call x)) = V.str "call") = true := (by decide +kernel : decide (V.str "call" = V.str "call") = true)
      refine ⟨by decide, fun tn htn => ⟨(by show 1 ≤ sizeLine; decide), fun ln hln => ⟨by decide, fun tr htr => ⟨(by show 1 ≤ sizeLine; decide), fun lr hlr => ?_⟩⟩⟩⟩
      have a1 := same_upd (o := .tup [.str "normal"]) htn
      have a2 := same_upd (o := .lst [.ref tn]) hln
      have a3 := same_upd (o := .tup [.str "raise"]) htr
      have a4 := same_upd (o := .lst [.ref tr]) hlr
      have sA := ((a1.trans a2).trans a3).trans a4
      refine ⟨_, rfl, rfl, .inr ⟨_, rfl, lr, _, _, rfl, rfl, upd_same, rep_b1 _, rep_b2 _, rep_b3 _ (by show 1 ≤ 100000; decide), fun l2 hl2 => ?_⟩⟩
      have a5 := same_upd (o := .lst (List.replicate (Int.toNat (if decide (V.str (T.kind (.call x)) = V.str "call") = true then 1 else 0)) [V.ref tr]).flatten) hl2
      refine ⟨ln, l2, _, _, rfl, rfl, a5 _ _ (a4 _ _ (a3 _ _ upd_same)), upd_same, (by rw [rep_if, ek]; exact small_line (by simp)), fun l3 hl3 => ?_⟩
      have a6 := same_upd (o := .lst ([V.ref tn] ++ (List.replicate (Int.toNat (if decide (V.str (T.kind (.call x)) = V.str "call") = true then 1 else 0)) [V.ref tr]).flatten)) hl3
      have sB := (sA.trans a5).trans a6
      refine byp_tail (L := [(tn, .normal), (tr, .rse)]) (ws := (T.call x).ws) rfl (by rw [upd_same, rep_if, ek]; rfl) ?_ (fun z => by simp [T.ws]) hw fun R H' s' h => q R H' ((s0.trans sB).trans s') h
      intro p hp
      simp only [List.mem_cons, List.not_mem_nil, or_false] at hp
      rcases hp with rfl | rfl
      · exact same_sqT ((((a2.trans a3).trans a4).trans a5).trans a6) (SqT.of upd_same)
      · exact same_sqT ((a4.trans a5).trans a6) (SqT.of upd_same)
    | brk n =>
      obtain ⟨m1, m2, m3, m4, m5⟩ := leaf_ne (t := .brk n) rfl
      refine ifF (fun e => Bool.false_ne_true ((leaf_dc (t := .brk n) rfl rfl).symm.trans e)) ⟨_, rfl, rfl, _, rfl, ifF (vsF m1) ⟨_, rfl, rfl, _, rfl, ifF (vsF m2) ⟨_, rfl, rfl, _, rfl, ifF (vsF m3) ⟨_, rfl, rfl, _, rfl, ifF (vsF m4) ⟨_, rfl, rfl, _, rfl, ifF (vsF m5) ⟨_, rfl, (by show 1 ≤ sizeLine; decide), fun l3 hl3 => ?_⟩⟩⟩⟩⟩⟩
      have a6 := same_upd (o := .lst [V.ref a]) hl3
      refine byp_tail (L := [(a, .brk n)]) (ws := (T.brk n).ws) rfl upd_same (fun p hp => ?_) (fun z => by simp [T.ws]) hw fun R H' s' h => q R H' ((s0.trans a6).trans s') h
      rw [List.mem_singleton.mp hp]
      exact same_sqT (s0.trans a6) (show SqT K H a _ from ht)
    | cnt n =>
      obtain ⟨m1, m2, m3, m4, m5⟩ := leaf_ne (t := .cnt n) rfl
      refine ifF (fun e => Bool.false_ne_true ((leaf_dc (t := .cnt n) rfl rfl).symm.trans e)) ⟨_, rfl, rfl, _, rfl, ifF (vsF m1) ⟨_, rfl, rfl, _, rfl, ifF (vsF m2) ⟨_, rfl, rfl, _, rfl, ifF (vsF m3) ⟨_, rfl, rfl, _, rfl, ifF (vsF m4) ⟨_, rfl, rfl, _, rfl, ifF (vsF m5) ⟨_, rfl, (by show 1 ≤ sizeLine; decide), fun l3 hl3 => ?_⟩⟩⟩⟩⟩⟩
      have a6 := same_upd (o := .lst [V.ref a]) hl3
      refine byp_tail (L := [(a, .cnt n)]) (ws := (T.cnt n).ws) rfl upd_same (fun p hp => ?_) (fun z => by simp [T.ws]) hw fun R H' s' h => q R H' ((s0.trans a6).trans s') h
      rw [List.mem_singleton.mp hp]
      exact same_sqT (s0.trans a6) (show SqT K H a _ from ht)
    | ret =>
      obtain ⟨m1, m2, m3, m4, m5⟩ := leaf_ne (t := .ret) rfl
      refine ifF (fun e => Bool.false_ne_true ((leaf_dc (t := .ret) rfl rfl).symm.trans e)) ⟨_, rfl, rfl, _, rfl, ifF (vsF m1) ⟨_, rfl, rfl, _, rfl, ifF (vsF m2) ⟨_, rfl, rfl, _, rfl, ifF (vsF m3) ⟨_, rfl, rfl, _, rfl, ifF (vsF m4) ⟨_, rfl, rfl, _, rfl, ifF (vsF m5) ⟨_, rfl, (by show 1 ≤ sizeLine; decide), fun l3 hl3 => ?_⟩⟩⟩⟩⟩⟩
      have a6 := same_upd (o := .lst [V.ref a]) hl3
      refine byp_tail (L := [(a, .ret)]) (ws := (T.ret).ws) rfl upd_same (fun p hp => ?_) (fun z => by simp [T.ws]) hw fun R H' s' h => q R H' ((s0.trans a6).trans s') h
      rw [List.mem_singleton.mp hp]
      exact same_sqT (s0.trans a6) (show SqT K H a _ from ht)
    | rse =>
      obtain ⟨m1, m2, m3, m4, m5⟩ := leaf_ne (t := .rse) rfl
      refine ifF (fun e => Bool.false_ne_true ((leaf_dc (t := .rse) rfl rfl).symm.trans e)) ⟨_, rfl, rfl, _, rfl, ifF (vsF m1) ⟨_, rfl, rfl, _, rfl, ifF (vsF m2) ⟨_, rfl, rfl, _, rfl, ifF (vsF m3) ⟨_, rfl, rfl, _, rfl, ifF (vsF m4) ⟨_, rfl, rfl, _, rfl, ifF (vsF m5) ⟨_, rfl, (by show 1 ≤ sizeLine; decide), fun l3 hl3 => ?_⟩⟩⟩⟩⟩⟩
      have a6 := same_upd (o := .lst [V.ref a]) hl3
      refine byp_tail (L := [(a, .rse)]) (ws := (T.rse).ws) rfl upd_same (fun p hp => ?_) (fun z => by simp [T.ws]) hw fun R H' s' h => q R H' ((s0.trans a6).trans s') h
      rw [List.mem_singleton.mp hp]
      exact same_sqT (s0.trans a6) (show SqT K H a _ from ht)
    | ife x u v =>
      obtain ⟨d0, d1, rfl⟩ := two_kd hkd
      obtain ⟨L0, p0, p1, p2, p3⟩ := hwl' _ List.mem_cons_self
      obtain ⟨L1, r0, r1, r2, r3⟩ := hwl' _ (List.mem_cons_of_mem _ List.mem_cons_self)
      refine ifF (fun e => Bool.false_ne_true ((inn_dc (t := .ife x u v) rfl).symm.trans e)) ⟨_, rfl, rfl, _, rfl, ifT (decide_eq_true rfl) ⟨_, rfl, so, _, 0, .ref d0, rfl, rfl, SqL.of hso', rfl, _, rfl, so, _, 1, .ref d1, rfl, rfl, SqL.of hso', rfl, d0, d1, _, _, rfl, rfl, p0, r0, (by rw [List.length_map, List.length_map]; exact small_line (by omega)), fun l3 hl3 => ?_⟩⟩
      have a6 := same_upd (o := .lst (L0.map (fun p => V.ref p.1) ++ L1.map fun p => V.ref p.1)) hl3
      refine byp_tail (L := L0 ++ L1) (ws := (T.ife x u v).ws) rfl (by rw [upd_same, List.map_append]) (fun p hp => ?_) (fun z => ?_) hw fun R H' s' h => q R H' ((s0.trans a6).trans s') h
      · rcases List.mem_append.mp hp with hp | hp
        · exact same_sqT a6 (p1 p hp)
        · exact same_sqT a6 (r1 p hp)
      · rw [List.map_append, List.mem_append, p2, r2, T.ws, List.mem_append]
    | wh x u =>
      obtain ⟨d0, rfl⟩ := one_kd hkd
      obtain ⟨L0, p0, p1, p2, p3⟩ := hwl' _ List.mem_cons_self
      refine ifF (fun e => Bool.false_ne_true ((inn_dc (t := .wh x u) rfl).symm.trans e)) ⟨_, rfl, rfl, _, rfl, ifF (vsF n_wi) ⟨_, rfl, rfl, _, rfl, ifT (decide_eq_true rfl) ⟨by decide, fun tn htn => ⟨(by show 1 ≤ sizeLine; decide), fun ln hln => ?_⟩⟩⟩⟩
      have a1 := same_upd (o := .tup [.str "normal"]) htn
      have a2 := same_upd (o := .lst [.ref tn]) hln
      have sA := a1.trans a2
      refine ⟨_, rfl, so, _, 0, .ref d0, rfl, rfl, SqL.of (sA _ _ hso'), rfl, d0, rfl, ⟨_, SqL.of (sA _ _ p0)⟩, fun D hD => ?_⟩
      refine lc_ways (K := K) (iw := 4) (c := .cnt 1) (f := outl) (sA _ _ p0) (fun p hp => same_sqT sA (p1 p hp)) hD (by omega) (by show 4 < 5; decide) (fun _ _ _ h => h) (fun p hp hne σ H2 Q hσ hsq qq => ⟨_, hσ, p.1, p.2, rfl, hsq, fun c H' s' hc => qq c H' s' hc⟩) (by decide) fun H2 L' s2 h2 hk' hm => ?_
      have hL' : L'.length ≤ 203 := by
        have := congrArg List.length hm
        rw [List.length_map, List.length_map] at this
        have h3 := List.length_filter_le (fun v => decide (v ≠ Way.cnt 1)) (L0.map (·.2))
        rw [List.length_map] at h3
        omega
      refine ⟨ln, D, _, _, rfl, rfl, s2 _ _ upd_same, h2, (by rw [List.length_map]; exact small_line (by simp; omega)), fun l3 hl3 => ?_⟩
      have a6 := same_upd (o := .lst ([V.ref tn] ++ L'.map fun p => V.ref p.1)) hl3
      have sB := (sA.trans s2).trans a6
      refine byp_tail (L := (tn, .normal) :: L') (ws := (T.wh x u).ws) rfl (by rw [upd_same]; rfl) (fun p hp => ?_) (fun z => ?_) hw fun R H' s' h => q R H' ((s0.trans sB).trans s') h
      · rcases List.mem_cons.mp hp with rfl | hp
        · exact same_sqT ((a2.trans s2).trans a6) (SqT.of upd_same)
        · exact same_sqT a6 (hk' p hp)
      · rw [List.map_cons, hm, T.ws, ← out_mem (hwl _ List.mem_cons_self).2]
        simp only [List.mem_cons, List.mem_map, List.mem_filter, p2]
    | seq ts =>
      refine ifF (fun e => Bool.false_ne_true ((inn_dc (t := .seq ts) rfl).symm.trans e)) ⟨_, rfl, rfl, _, rfl, ifF (vsF n_si) ⟨_, rfl, rfl, _, rfl, ifF (vsF n_sw) ⟨_, rfl, rfl, _, rfl, ifT (decide_eq_true rfl) ⟨_, rfl, so, kd.map (fun q => (q.1, q.2.ws)), rfl, ?_, ?_, ?_, fun R0 L H2 s2 h2 hk' hm hln => ?_⟩⟩⟩⟩
      · rw [List.map_map]
        exact SqL.of hso'
      · intro q' hq'
        obtain ⟨q0, h0, rfl⟩ := List.mem_map.mp hq'
        exact ⟨(hwl q0 h0).1.same s0, (hwl q0 h0).2⟩
      · have h1 := congrArg List.length hkd
        rw [List.length_map] at h1 ⊢
        have h3 := kids_len (.seq ts)
        omega
      · refine byp_tail (L := L) (ws := (T.seq ts).ws) rfl h2 hk' (fun z => ?_) hw fun R H' s' h => q R H' ((s0.trans s2).trans s') h
        rw [hm, List.map_map, show ((fun q : Addr × List Way => q.2) ∘ fun q : Addr × T => (q.1, q.2.ws)) = T.ws ∘ (fun q : Addr × T => q.2) from rfl, ← List.map_map, hkd, T.ws, wsS_eq]
        rfl
    | tryy u v =>
      obtain ⟨d0, d1, rfl⟩ := two_kd hkd
      obtain ⟨L0, p0, p1, p2, p3⟩ := hwl' _ List.mem_cons_self
      obtain ⟨L1, r0, r1, r2, r3⟩ := hwl' _ (List.mem_cons_of_mem _ List.mem_cons_self)
      refine ifF (fun e => Bool.false_ne_true ((inn_dc (t := .tryy u v) rfl).symm.trans e)) ⟨_, rfl, rfl, _, rfl, ifF (vsF n_ti) ⟨_, rfl, rfl, _, rfl, ifF (vsF n_tw) ⟨_, rfl, rfl, _, rfl, ifF (vsF n_ts) ⟨_, rfl, rfl, _, rfl, ifT (decide_eq_true rfl) ⟨_, rfl, so, _, 0, .ref d0, rfl, rfl, SqL.of hso', rfl, d0, rfl, ⟨_, SqL.of p0⟩, fun D hD => ?_⟩⟩⟩⟩⟩
      refine lc_ways (K := K) (iw := 4) (c := .rse) (f := id) p0 p1 hD (by omega) (by show 4 < 5; decide) (fun _ _ _ h => h) hteId (by decide) fun H2 L' s2 h2 hk' hm => ?_
      have hL' : L'.length ≤ 203 := by
        have := congrArg List.length hm
        rw [List.length_map, List.length_map] at this
        have h3 := List.length_filter_le (fun v => decide (v ≠ Way.rse)) (L0.map (·.2))
        rw [List.length_map] at h3
        omega
      refine ⟨_, rfl, so, _, 1, .ref d1, rfl, rfl, SqL.of (s2 _ _ hso'), rfl, by decide, fun tr htr => ?_⟩
      have a3 := same_upd (o := .tup [.str "raise"]) htr
      have sA := s2.trans a3
      refine ⟨_, rfl, so, _, 0, .ref d0, rfl, rfl, SqL.of (sA _ _ hso'), rfl, tr, d0, .rse, L0, rfl, rfl, SqT.of upd_same, SqL.of (sA _ _ p0), fun p hp => same_sqT sA (p1 p hp), .inr ⟨_, rfl, d1, _, _, rfl, rfl, sA _ _ r0, rep_b1 _, rep_b2 _, rep_b3 _ (by rw [List.length_map]; omega), fun l2 hl2 => ?_⟩⟩
      have a5 := same_upd (o := .lst (List.replicate (Int.toNat (if decide (Way.rse ∈ L0.map (·.2)) = true then 1 else 0)) (L1.map fun p => V.ref p.1)).flatten) hl2
      refine ⟨D, l2, _, _, rfl, rfl, a5 _ _ (a3 _ _ h2), upd_same, (by rw [rep_if, List.length_map]; split <;> exact small_line (by simp; omega)), fun l3 hl3 => ?_⟩
      have a6 := same_upd (o := .lst (L'.map (fun p => V.ref p.1) ++ (List.replicate (Int.toNat (if decide (Way.rse ∈ L0.map (·.2)) = true then 1 else 0)) (L1.map fun p => V.ref p.1)).flatten)) hl3
      have sB := (a3.trans a5).trans a6
      refine byp_tail (L := L' ++ (if decide (Way.rse ∈ L0.map (·.2)) = true then L1 else [])) (ws := (T.tryy u v).ws) rfl (by rw [upd_same, rep_if, List.map_append]; split <;> rfl) (fun p hp => ?_) (fun z => ?_) hw fun R H' s' h => q R H' (((s0.trans s2).trans sB).trans s') h
      · rcases List.mem_append.mp hp with hp | hp
        · exact same_sqT sB (hk' p hp)
        · split at hp
          · exact same_sqT (s2.trans sB) (r1 p hp)
          · exact nomatch hp
      · rw [List.map_append, List.mem_append, hm, T.ws, List.mem_append, List.map_id, List.mem_filter, List.mem_filter, p2 z]
        by_cases hr : Way.rse ∈ u.ws
        · rw [if_pos (decide_eq_true ((p2 _).mpr hr)), if_pos hr, r2]
        · rw [if_neg (fun e => hr ((p2 _).mp (of_decide_eq_true e))), if_neg hr]
          rfl
    | fin u v =>
      obtain ⟨d0, d1, rfl⟩ := two_kd hkd
      obtain ⟨L0, p0, p1, p2, p3⟩ := hwl' _ List.mem_cons_self
      obtain ⟨L1, r0, r1, r2, r3⟩ := hwl' _ (List.mem_cons_of_mem _ List.mem_cons_self)
      refine ifF (fun e => Bool.false_ne_true ((inn_dc (t := .fin u v) rfl).symm.trans e)) ⟨_, rfl, rfl, _, rfl, ifF (vsF n_fi) ⟨_, rfl, rfl, _, rfl, ifF (vsF n_fw) ⟨_, rfl, rfl, _, rfl, ifF (vsF n_fs) ⟨_, rfl, rfl, _, rfl, ifF (vsF n_ft) ⟨_, rfl, rfl, _, rfl, ifT (decide_eq_true rfl) ⟨_, rfl, so, _, 0, .ref d0, rfl, rfl, SqL.of hso', rfl, by decide, fun tr htr => ?_⟩⟩⟩⟩⟩⟩
      have a3 := same_upd (o := .tup [.str "normal"]) htr
      refine ⟨_, rfl, so, _, 1, .ref d1, rfl, rfl, SqL.of (a3 _ _ hso'), rfl, tr, d1, .normal, L1, rfl, rfl, SqT.of upd_same, SqL.of (a3 _ _ r0), fun p hp => same_sqT a3 (r1 p hp), .inr ⟨_, rfl, d0, _, _, rfl, rfl, a3 _ _ p0, rep_b1 _, rep_b2 _, rep_b3 _ (by rw [List.length_map]; omega), fun l2 hl2 => ?_⟩⟩
      have a5 := same_upd (o := .lst (List.replicate (Int.toNat (if decide (Way.normal ∈ L1.map (·.2)) = true then 1 else 0)) (L0.map fun p => V.ref p.1)).flatten) hl2
      have sA := a3.trans a5
      refine ⟨_, rfl, so, _, 1, .ref d1, rfl, rfl, SqL.of (sA _ _ hso'), rfl, d1, rfl, ⟨_, SqL.of (sA _ _ r0)⟩, fun D hD => ?_⟩
      refine lc_ways (K := K) (iw := 4) (c := .normal) (f := id) (sA _ _ r0) (fun p hp => same_sqT sA (r1 p hp)) hD (by omega) (by show 4 < 5; decide) (fun _ _ _ h => h) hteId (by decide) fun H2 L' s2 h2 hk' hm => ?_
      have hL' : L'.length ≤ 203 := by
        have := congrArg List.length hm
        rw [List.length_map, List.length_map] at this
        have h3 := List.length_filter_le (fun v => decide (v ≠ Way.normal)) (L1.map (·.2))
        rw [List.length_map] at h3
        omega
      refine ⟨l2, D, _, _, rfl, rfl, s2 _ _ upd_same, h2, (by rw [rep_if, List.length_map]; split <;> exact small_line (by simp; omega)), fun l3 hl3 => ?_⟩
      have a6 := same_upd (o := .lst ((List.replicate (Int.toNat (if decide (Way.normal ∈ L1.map (·.2)) = true then 1 else 0)) (L0.map fun p => V.ref p.1)).flatten ++ L'.map fun p => V.ref p.1)) hl3
      have sB := s2.trans a6
      refine byp_tail (L := (if decide (Way.normal ∈ L1.map (·.2)) = true then L0 else []) ++ L') (ws := (T.fin u v).ws) rfl (by rw [upd_same, rep_if, List.map_append]; split <;> rfl) (fun p hp => ?_) (fun z => ?_) hw fun R H' s' h => q R H' (((s0.trans sA).trans sB).trans s') h
      · rcases List.mem_append.mp hp with hp | hp
        · split at hp
          · exact same_sqT (sA.trans sB) (p1 p hp)
          · exact nomatch hp
        · exact same_sqT a6 (hk' p hp)
      · rw [List.map_append, List.mem_append, hm, T.ws, List.mem_append, List.map_id, List.mem_filter, List.mem_filter, r2 z]
        by_cases hr : Way.normal ∈ v.ws
        · rw [if_pos (decide_eq_true ((r2 _).mpr hr)), if_pos hr, p2]
        · rw [if_neg (fun e => hr ((r2 _).mp (of_decide_eq_true e))), if_neg hr]
          rfl
end
end L2.K11
set_option Elab.async false
set_option linter.all false
set_option maxRecDepth 100000
set_option maxHeartbeats 1000000
/-! _law_deep_right. -/
namespace L2.K11
open PySem PySem.Spec PyProof.Rows
/-- i whiles around a statement -/
def wrap : Nat → T → T
  | 0, t => t
  | i + 1, t => .wh "w" (wrap i t)
theorem w_ok : nameOk "w" := by decide +kernel
theorem wrap_wf : ∀ (i k : Nat) (t : T), T.wf (k + i) t → T.wf k (wrap i t)
  | 0, k, t, h => h
  | i + 1, k, t, h => ⟨w_ok, wrap_wf i (k + 1) t (by rw [show k + 1 + i = k + (i + 1) by omega]; exact h)⟩
theorem wrap_size : ∀ (i : Nat) (t : T), (wrap i t).size = i + t.size
  | 0, t => by rw [wrap]; omega
  | i + 1, t => by rw [wrap, size_wh, wrap_size i t]; omega
theorem wrap_deep : ∀ (i : Nat) (t : T), (wrap i t).deep = i + t.deep
  | 0, t => by rw [wrap]; omega
  | i + 1, t => by rw [wrap, T.deep, wrap_deep i t]; omega
theorem wrap_blk : ∀ (i : Nat) (t : T), (wrap i t).blk = t.blk
  | 0, t => rfl
  | i + 1, t => by rw [wrap, T.blk, wrap_blk i t]
theorem wrap_pre : ∀ (n : Nat) (t : T) (j : Nat), j ≤ n → (wrap n t).pre[j]? = some (wrap (n - j) t)
  | n, t, 0, _ => by rw [T.pre_eq]; rfl
  | n + 1, t, j + 1, h => by
    rw [wrap, T.pre, List.getElem?_cons_succ, wrap_pre n t j (by omega), show n + 1 - (j + 1) = n - j by omega]
theorem wrap_pre2 : ∀ (n : Nat) (t : T) (j : Nat), (wrap n t).pre[n + j]? = t.pre[j]?
  | 0, t, j => by rw [wrap, Nat.zero_add]
  | n + 1, t, j => by
    rw [wrap, T.pre, show n + 1 + j = (n + j) + 1 by omega, List.getElem?_cons_succ, wrap_pre2 n t j]
def chain : T := .ife "x" (.brk 2) (.ife "y" (.brk 10) (.ife "z" (.cnt 11) (.ife "a" (.brk 12) (.ife "b" (.cnt 3) (.act "c")))))
def core : T := .fin chain (.act "d")
def due : List Way := [.brk 2, .brk 10, .brk 12, .cnt 3, .cnt 11, .normal]
theorem core_wf : T.wf 12 core := by
  have n : ∀ x ∈ (["x", "y", "z", "a", "b", "c", "d"] : List Str), nameOk x := by decide +kernel
  exact ⟨⟨n _ (by simp), ⟨by decide, by decide⟩, n _ (by simp), ⟨by decide, by decide⟩, n _ (by simp), ⟨by decide, by decide⟩, n _ (by simp), ⟨by decide, by decide⟩, n _ (by simp), ⟨by decide, by decide⟩, n _ (by simp)⟩, n _ (by simp)⟩
theorem core_size : core.size = 13 := by decide +kernel
theorem core_deep : core.deep = 7 := by decide +kernel
theorem core_blk : core.blk = 1 := by decide +kernel
theorem chain_due (z : Way) : z ∈ due ↔ z ∈ chain.ws := by
  simp only [due, chain, T.ws, List.mem_append, List.mem_cons, List.not_mem_nil, or_false]
  constructor
  · rintro (h | h | h | h | h | h) <;> simp [h]
  · rintro (h | h | h | h | h | h) <;> simp [h]
theorem core_due (z : Way) : z ∈ due ↔ z ∈ core.ws := by
  rw [chain_due]
  show z ∈ chain.ws ↔ z ∈ T.ws (.fin chain (.act "d"))
  simp only [T.ws, List.mem_append, List.mem_filter]
  simp
theorem due_asc : Asc due := ⟨by decide, by decide +kernel⟩
section
variable {P : Program} {w : World} {K : PySem.W.Frag} {mg : Str → Option Value} {base : Heap}
theorem made_same {H1 : Hp} {x dx C : Addr} (nx : H1 x = none) (ndx : H1 dx = none) : Same H1 (upd (upd H1 dx (.own x)) x (.ins C dx [])) := fun b o e => by
  rw [upd_ne (ne_of_none e nx), upd_ne (ne_of_none e ndx)]
  exact e
/-- a code, as it is known after it was made -/
structure Made (K : PySem.W.Frag) (C : Addr) (H : Hp) (p : Addr) (t : T) (A : CA) (nodes : List (T × Addr)) (kids : List (Addr × List Nat)) (prs : List V) : Prop where
  c : CodeAt K C H p A nodes kids prs
  L : Lay nodes kids
  pre : nodes.map (·.1) = t.pre
theorem Made.same {C : Addr} {H H' : Hp} {p : Addr} {t : T} {A : CA} {nodes : List (T × Addr)} {kids : List (Addr × List Nat)} {prs : List V} (m : Made K C H p t A nodes kids prs) (s : Same H H') : Made K C H' p t A nodes kids prs := ⟨m.c.same s, m.L, m.pre⟩
theorem Made.at' {C : Addr} {H : Hp} {p : Addr} {t u : T} {A : CA} {nodes : List (T × Addr)} {kids : List (Addr × List Nat)} {prs : List V} (m : Made K C H p t A nodes kids prs) {i : Nat} (h : t.pre[i]? = some u) :
    ∃ a k, nodes[i]? = some (u, a) ∧ kids[i]? = some k ∧ Place K C H [.ref p, .int (i : Nat)] p A nodes kids prs i (u, a) k := by
  rw [← m.pre, List.getElem?_map] at h
  obtain ⟨⟨u', a⟩, h1, rfl⟩ := Option.map_eq_some_iff.mp h
  obtain ⟨k, hk⟩ : ∃ k, kids[i]? = some k := ⟨_, List.getElem?_eq_getElem (by rw [m.c.kl]; exact (List.getElem?_eq_some_iff.mp h1).1)⟩
  exact ⟨a, k, h1, hk, rfl, m.c, h1, hk⟩
abbrev sDR : Stmt := topS 48
abbrev nDR : List Str := ["_law_chain", "_law_due", "_law_statement_here", "_law_turn", "_law_code", "_law_number"]
theorem scDR : FnScope nDR [] (defScope sDR) := ⟨rfl, rfl, rfl, by decide +kernel, rfl, by decide +kernel, by decide +kernel⟩
def spDR : Sp := fun vs H Q _ => vs = [] ∧ ∀ H', Q (.bl true) H'
theorem ok_dr {f C f1 f2 f3 f4 : Addr} {fd fd1 fd2 fd3 fd4 : FuncData} (F : FnP K "_law_deep_right" "_law_deep_right" sDR f fd) (Tx : Txt K mg) (TC : TxtC K mg C) (MC : Mk K C f1) (b1 : Binds K fd1 ["self", "statement"] []) (g1 : FnOk P w K mg base CX0 5 f1 fd1 ["self", "statement"] (spInit K C))
    (c2 : Cal P w K mg base 6 "ways" ["code", "number"] (spWays K C) f2 fd2) (c3 : Cal P w K mg base 2 "_law_by_parts" ["_law_statement_here", "_law_some"] (spBy K) f3 fd3) (m4 : Spm K C "__getitem__" f4) (b4 : Binds K fd4 ["self", "number"] []) (g4 : FnOk P w K mg base CX0 4 f4 fd4 ["self", "number"] (spGet K C)) :
    FnOk P w K mg base CX0 7 f fd [] spDR := by
  refine fok F scDR (fun vs H Q E h => ?_) (fun cdv A outer s H vs Q E hr h => ?_)
  · obtain ⟨rfl, _⟩ := h
    rfl
  · obtain ⟨rfl, q⟩ := h
    have hr2 := hr.mono (show 2 ≤ 6 by decide)
    have hr5 := hr.mono (show 4 + 1 ≤ 6 by decide)
    have hu64 : (A.deeper (envOfC "_law_deep_right" (defScope sDR) s.heap.objs.size f cdv)).units + 64 < cLine := hr.units
    refine ⟨_, (pss_cons (ps_set (i := 0) scDR.nd rfl (.inl rfl) (pe_tup (pa_cons pe_str (pa_cons pe_str (pa_cons (pe_tup (pa_cons pe_str (pa_cons pe_int pa_nil))) (pa_cons (pe_tup (pa_cons pe_str (pa_cons pe_str (pa_cons (pe_tup (pa_cons pe_str (pa_cons pe_int pa_nil))) (pa_cons (pe_tup (pa_cons pe_str (pa_cons pe_str pa_nil))) pa_nil))))) pa_nil))))))
 (pss_cons (ps_set (i := 0) scDR.nd rfl (.inl rfl) (pe_tup (pa_cons pe_str (pa_cons pe_str (pa_cons (pe_tup (pa_cons pe_str (pa_cons pe_int pa_nil))) (pa_cons (pe_tup (pa_cons pe_str (pa_cons pe_str (pa_cons (pe_tup (pa_cons pe_str (pa_cons pe_int pa_nil))) (pa_cons (pe_tup (pa_cons pe_str (pa_cons pe_str (pa_cons (pe_tup (pa_cons pe_str (pa_cons pe_int pa_nil))) (pa_cons (pv 0) pa_nil))))) pa_nil))))) pa_nil))))))
 (pss_cons (ps_set (i := 1) scDR.nd rfl (.inl rfl) (pe_lst (pa_cons (pe_tup (pa_cons pe_str (pa_cons pe_int pa_nil))) (pa_cons (pe_tup (pa_cons pe_str (pa_cons pe_int pa_nil))) (pa_cons (pe_tup (pa_cons pe_str (pa_cons pe_int pa_nil))) (pa_cons (pe_tup (pa_cons pe_str (pa_cons pe_int pa_nil))) (pa_cons (pe_tup (pa_cons pe_str (pa_cons pe_int pa_nil))) (pa_cons (pe_tup (pa_cons pe_str pa_nil)) pa_nil))))))))
 (pss_cons (ps_set (i := 2) scDR.nd rfl (.inl rfl) (pe_tup (pa_cons pe_str (pa_cons (pv 0) (pa_cons (pe_tup (pa_cons pe_str (pa_cons pe_str pa_nil))) pa_nil)))))
 (pss_cons (ps_for PassesOwn.never rfl (pi_range1 (by rfl) Tx.range (pa_cons pe_int pa_nil)) (pg_name (i := 3) scDR.nd rfl (.inl rfl))
 (pss_one (ps_set (i := 2) scDR.nd rfl (.inl rfl) (pe_tup (pa_cons pe_str (pa_cons pe_str (pa_cons (pv 2) pa_nil)))))))
 (pss_cons (ps_set (i := 4) scDR.nd rfl (.inl rfl) (pe_make MC g1 hr (by rfl) TC.mgC b1 .nil pass0 (pa_cons (pv 2) pa_nil)))
 (pss_cons (ps_for PassesOwn.never rfl (pi_range1 (by rfl) Tx.range (pa_cons pe_int pa_nil)) (pg_name (i := 5) scDR.nd rfl (.inl rfl))
 (pss_one (ps_if (pt_cmpR (op_neWs hu64) (pe_call c2.ok hr (by rfl) c2.m c2.kp c2.b .nil pass0 (pa_cons (pv 4) (pa_cons (pv 5) pa_nil))) (pe_call c3.ok hr2 (by rfl) c3.m c3.kp c3.b .nil pass0 (pa_cons (pe_ixC m4 g4 hr5 b4 pass0 (pv 4) (pv 5) (fun _ _ => by with_unfolding_all rfl)) (pa_cons (pe_lst (pa_cons (pe_call c2.ok hr (by rfl) c2.m c2.kp c2.b .nil pass0 (pa_cons (pv 4) (pa_cons (pe_op op_add (pv 5) pe_int) pa_nil))) pa_nil)) pa_nil))) (nomark _))
 (pss_one (ps_ret pe_bl))
 pss_nil)))
 (pss_one (ps_ret (pe_and (pe_cmpR (op_eqWs hu64) (pe_call c2.ok hr (by rfl) c2.m c2.kp c2.b .nil pass0 (pa_cons (pv 4) (pa_cons pe_int pa_nil))) (pv 1) (nomark _)) (pe_one (pe_cmpR (op_eqWs hu64) (pe_call c2.ok hr (by rfl) c2.m c2.kp c2.b .nil pass0 (pa_cons (pv 4) (pa_cons pe_int pa_nil))) (pv 1) (nomark _))))))))))))), ?_⟩
    -- the chain
    refine ⟨(by show 2 ≤ sizeLine; decide), fun a1 h1 => ⟨(by show 2 ≤ sizeLine; decide), fun a2 h2 => ⟨(by show 2 ≤ sizeLine; decide), fun a3 h3 => ⟨(by show 4 ≤ sizeLine; decide), fun a4 h4 => ⟨(by show 4 ≤ sizeLine; decide), fun a5 h5 => ?_⟩⟩⟩⟩⟩
    have x1 := same_upd (o := .tup [.str "break", .int 12]) h1
    have x2 := same_upd (o := .tup [.str "continue", .int 3]) h2
    have x3 := same_upd (o := .tup [.str "do", .str "c"]) h3
    have x4 := same_upd (o := .tup [.str "if", .str "b", .ref a2, .ref a3]) h4
    have x5 := same_upd (o := .tup [.str "if", .str "a", .ref a1, .ref a4]) h5
    have i4 : IsS K _ (.ife "b" (.cnt 3) (.act "c")) a4 := ⟨a2, a3, SqT.of upd_same, same_sqT (x3.trans x4) (SqT.of upd_same), same_sqT x4 (SqT.of upd_same)⟩
    have i5 : IsS K _ (.ife "a" (.brk 12) (.ife "b" (.cnt 3) (.act "c"))) a5 := ⟨a1, a4, SqT.of upd_same, same_sqT (((x2.trans x3).trans x4).trans x5) (SqT.of upd_same), IsS.mono (fun _ _ h => same_sqT x5 h) _ _ i4⟩
    refine ⟨(by show 2 ≤ sizeLine; decide), fun a6 h6 => ⟨(by show 2 ≤ sizeLine; decide), fun a7 h7 => ⟨(by show 2 ≤ sizeLine; decide), fun a8 h8 => ⟨_, rfl, (by show 4 ≤ sizeLine; decide), fun a9 h9 => ⟨(by show 4 ≤ sizeLine; decide), fun a10 h10 => ⟨(by show 4 ≤ sizeLine; decide), fun a11 h11 => ?_⟩⟩⟩⟩⟩⟩
    have x6 := same_upd (o := .tup [.str "break", .int 2]) h6
    have x7 := same_upd (o := .tup [.str "break", .int 10]) h7
    have x8 := same_upd (o := .tup [.str "continue", .int 11]) h8
    have x9 := same_upd (o := .tup [.str "if", .str "z", .ref a8, .ref a5]) h9
    have x10 := same_upd (o := .tup [.str "if", .str "y", .ref a7, .ref a9]) h10
    have x11 := same_upd (o := .tup [.str "if", .str "x", .ref a6, .ref a10]) h11
    have i9 : IsS K _ (.ife "z" (.cnt 11) (.ife "a" (.brk 12) (.ife "b" (.cnt 3) (.act "c")))) a9 := ⟨a8, a5, SqT.of upd_same, same_sqT x9 (SqT.of upd_same), IsS.mono (fun _ _ h => same_sqT (((x6.trans x7).trans x8).trans x9) h) _ _ i5⟩
    have i10 : IsS K _ (.ife "y" (.brk 10) (.ife "z" (.cnt 11) (.ife "a" (.brk 12) (.ife "b" (.cnt 3) (.act "c"))))) a10 := ⟨a7, a9, SqT.of upd_same, same_sqT ((x8.trans x9).trans x10) (SqT.of upd_same), IsS.mono (fun _ _ h => same_sqT x10 h) _ _ i9⟩
    have i11 : IsS K _ chain a11 := ⟨a6, a10, SqT.of upd_same, same_sqT ((((x7.trans x8).trans x9).trans x10).trans x11) (SqT.of upd_same), IsS.mono (fun _ _ h => same_sqT x11 h) _ _ i10⟩
    -- what is due
    refine ⟨(by show 2 ≤ sizeLine; decide), fun d1 k1 => ⟨(by show 2 ≤ sizeLine; decide), fun d2 k2 => ⟨(by show 2 ≤ sizeLine; decide), fun d3 k3 => ⟨(by show 2 ≤ sizeLine; decide), fun d4 k4 => ⟨(by show 2 ≤ sizeLine; decide), fun d5 k5 => ⟨by decide, fun d6 k6 => ⟨(by show 6 ≤ sizeLine; decide), fun Ld kL => ?_⟩⟩⟩⟩⟩⟩⟩
    have y1 := same_upd (o := .tup [.str "break", .int 2]) k1
    have y2 := same_upd (o := .tup [.str "break", .int 10]) k2
    have y3 := same_upd (o := .tup [.str "break", .int 12]) k3
    have y4 := same_upd (o := .tup [.str "continue", .int 3]) k4
    have y5 := same_upd (o := .tup [.str "continue", .int 11]) k5
    have y6 := same_upd (o := .tup [.str "normal"]) k6
    have yL := same_upd (o := .lst [.ref d1, .ref d2, .ref d3, .ref d4, .ref d5, .ref d6]) kL
    have yA := (((((y1.trans y2).trans y3).trans y4).trans y5).trans y6).trans yL
    -- ('final', chain, ('do', 'd'))
    refine ⟨_, rfl, (by show 2 ≤ sizeLine; decide), fun a12 h12 => ⟨(by show 3 ≤ sizeLine; decide), fun a13 h13 => ?_⟩⟩
    have x12 := same_upd (o := .tup [.str "do", .str "d"]) h12
    have x13 := same_upd (o := .tup [.str "final", .ref a11, .ref a12]) h13
    have i13 : IsS K _ core a13 := ⟨a11, a12, SqT.of upd_same, IsS.mono (fun _ _ h => same_sqT ((yA.trans x12).trans x13) h) _ _ i11, same_sqT x13 (SqT.of upd_same)⟩
    have hdue : ∀ {H1 : Hp}, Same _ H1 → H1 Ld = some (.lst (([(d1, .brk 2), (d2, .brk 10), (d3, .brk 12), (d4, .cnt 3), (d5, .cnt 11), (d6, .normal)] : List AW).map fun p => V.ref p.1)) ∧ AwOk K H1 [(d1, .brk 2), (d2, .brk 10), (d3, .brk 12), (d4, .cnt 3), (d5, .cnt 11), (d6, .normal)] := fun {H1} s1 => by
      have z := (x12.trans x13).trans s1
      refine ⟨z _ _ upd_same, fun p hp => ?_⟩
      simp only [List.mem_cons, List.not_mem_nil, or_false] at hp
      rcases hp with rfl | rfl | rfl | rfl | rfl | rfl
      · exact same_sqT ((((((y2.trans y3).trans y4).trans y5).trans y6).trans yL).trans z) (SqT.of upd_same)
      · exact same_sqT (((((y3.trans y4).trans y5).trans y6).trans yL).trans z) (SqT.of upd_same)
      · exact same_sqT ((((y4.trans y5).trans y6).trans yL).trans z) (SqT.of upd_same)
      · exact same_sqT (((y5.trans y6).trans yL).trans z) (SqT.of upd_same)
      · exact same_sqT ((y6.trans yL).trans z) (SqT.of upd_same)
      · exact same_sqT (yL.trans z) (SqT.of upd_same)
    -- twelve times ('while', 'w', ..)
    refine ⟨12, rfl, by decide, by decide, for_range (n := 12) (fun i σ H1 => ∃ a v, σ = [some (.ref a11), some (.ref Ld), some (.ref a), v, none, none] ∧ Same _ H1 ∧ IsS K H1 (wrap i core) a) ⟨a13, none, rfl, Same.refl _, i13⟩ ?_ ?_⟩
    · rintro i σ H1 hi ⟨a, v, rfl, s1, hs⟩
      refine ⟨_, rfl, (by show 3 ≤ sizeLine; decide), fun a' ha' => ?_⟩
      have sa := same_upd (o := .tup [.str "while", .str "w", .ref a]) ha'
      exact ⟨a', _, rfl, s1.trans sa, a, SqT.of upd_same, IsS.mono (fun _ _ h => same_sqT sa h) _ _ hs⟩
    · rintro σ H1 ⟨a, v, rfl, s1, hs⟩
      refine ⟨_, rfl, ?_⟩
      intro x dx nx ndx ne
      have sm := made_same (C := C) nx ndx
      refine ⟨x, dx, a, wrap 12 core, rfl, upd_same, IsS.mono (fun _ _ h => same_sqT sm h) _ _ hs, by rw [wrap_size, core_size]; decide, by rw [wrap_deep, core_deep]; decide, by rw [wrap_blk, core_blk]; decide, wrap_wf 12 0 core core_wf, fun A' nodes kids prs H2 c L hpre hnew fr => ⟨rfl, ?_⟩⟩
      have s2 : Same H1 H2 := Same.made nx ndx fr
      have M : Made K C H2 x (wrap 12 core) A' nodes kids prs := ⟨c, L, hpre⟩
      refine ⟨12, rfl, by decide, by decide, for_range (n := 12) (fun i σ H3 => ∃ v5, σ = [some (.ref a11), some (.ref Ld), some (.ref a), v, some (.ref x), v5] ∧ Same H2 H3) ⟨none, rfl, Same.refl _⟩ ?_ ?_⟩
      · rintro i σ H3 hi ⟨v5, rfl, s3⟩
        have M3 := M.same s3
        obtain ⟨ai, ki, hn, hk, _⟩ := M3.at' (wrap_pre 12 core i (by omega))
        obtain ⟨aj, kj, hn2, hk2, _⟩ := M3.at' (wrap_pre 12 core (i + 1) (by omega))
        have ew : wrap (12 - i) core = .wh "w" (wrap (12 - (i + 1)) core) := by
          rw [show 12 - i = (12 - (i + 1)) + 1 by omega, wrap]
        refine ⟨_, rfl, _, rfl, x, A', nodes, kids, prs, i, _, ki, ⟨by rw [Int.zero_add]; rfl, M3.c, hn, hk⟩, L, fun l1 H4 s4 _ wl1 => ?_⟩
        have M4 := M3.same s4
        refine ⟨_, rfl, _, rfl, x, A'.dx, _, rfl, M4.c.ob, x, A', nodes, kids, prs, i, _, ki, ⟨by rw [Int.zero_add], M4.c, hn, hk⟩, ?_⟩
        refine ⟨_, rfl, _, rfl, _, _, rfl, rfl, x, A', nodes, kids, prs, i + 1, _, kj, ⟨by show [V.ref x, V.int ((0 : Int) + (i : Nat) + 1)] = _; rw [show (0 : Int) + (i : Nat) + 1 = ((i + 1 : Nat) : Int) by omega], M4.c, hn2, hk2⟩, L, fun l2 H5 s5 _ wl2 => ⟨(by show 1 ≤ sizeLine; decide), fun Lp hLp => ?_⟩⟩
        have sp := same_upd (o := .lst [.ref l2]) hLp
        have M6 := (M4.same s5).same sp
        refine ⟨ai, Lp, wrap (12 - i) core, [(l2, wrap (12 - (i + 1)) core)], rfl, M6.c.stm _ (List.mem_of_getElem? hn), (L.node _ (List.mem_of_getElem? hn)).1, L.ways (List.mem_of_getElem? hn), upd_same, by rw [ew]; rfl, fun q' hq' => ?_, fun R H7 s7 wl7 => ?_⟩
        · rw [List.mem_singleton.mp hq']
          exact ⟨wl2.same sp, L.ways (List.mem_of_getElem? hn2)⟩
        · have sA := (s5.trans sp).trans s7
          obtain ⟨L1, e1, e2, e3, e4⟩ := wl1.same sA
          obtain ⟨L7, f1, f2, f3, f4⟩ := wl7
          refine ⟨l1, R, L1, L7, rfl, rfl, SqL.of e1, SqL.of f1, e2, f2, e3.one f3 fun z => (e4 z).trans (f4 z).symm, _, rfl, ifF (by simp) ?_⟩
          exact ⟨_, rfl, (s3.trans s4).trans sA⟩
      · rintro σ H3 ⟨v5, rfl, s3⟩
        have M3 := M.same s3
        have g12 := wrap_pre 12 core 12 (Nat.le_refl _)
        have g13 : (wrap 12 core).pre[13]? = some chain := by
          rw [show 13 = 12 + 1 from rfl, wrap_pre2]
          show (T.pre (.fin chain (.act "d")))[1]? = some chain
          rw [T.pre, T.pre_eq chain]
          rfl
        obtain ⟨aa, ka, hn, hk, _⟩ := M3.at' g12
        obtain ⟨ab, kb, hn2, hk2, _⟩ := M3.at' g13
        refine ⟨_, rfl, x, A', nodes, kids, prs, 12, _, ka, ⟨rfl, M3.c, hn, hk⟩, L, fun l1 H4 s4 _ wl1 => ?_⟩
        obtain ⟨L1, e1, e2, e3, e4⟩ := wl1
        obtain ⟨p1, p2⟩ := hdue (((s1.trans s2).trans s3).trans s4)
        refine ⟨_, rfl, l1, Ld, L1, _, rfl, rfl, SqL.of e1, SqL.of p1, e2, p2, e3.one due_asc fun z => (e4 z).trans (core_due z).symm, true, rfl, ifT rfl ?_⟩
        refine ⟨_, rfl, x, A', nodes, kids, prs, 13, _, kb, ⟨rfl, (M3.same s4).c, hn2, hk2⟩, L, fun l2 H5 s5 _ wl2 => ?_⟩
        obtain ⟨L2, f1, f2, f3, f4⟩ := wl2
        obtain ⟨q1, q2⟩ := hdue ((((s1.trans s2).trans s3).trans s4).trans s5)
        exact ⟨_, rfl, l2, Ld, L2, _, rfl, rfl, SqL.of f1, SqL.of q1, f2, q2, f3.one due_asc fun z => (f4 z).trans (chain_due z).symm, q _⟩
end
end L2.K11
set_option Elab.async false
set_option linter.all false
set_option maxRecDepth 100000
set_option maxHeartbeats 1000000
/-! The law. -/
namespace L2.K11
open PySem PySem.Spec PyProof.Rows
theorem no_parts {ls lk ll lp lc : Addr} : (cf ls lk ll lp lc).lookup ("parts" : Str) = none := cf_no (by decide +kernel) (by decide +kernel) (by decide +kernel) (by decide +kernel) (by decide +kernel)
section
variable {P : Program} {w : World} {K : PySem.W.Frag} {mg : Str → Option Value} {base : Heap}
abbrev sLaw : Stmt := topS 49
abbrev nLaw : List Str := ["_law_script", "_law_cell", "_law_source_here", "_law_code", "_law_turn", "_law_number", "_law_some", "_law_part", "_law_way"]
theorem scLaw : FnScope nLaw ["_law_script"] (defScope sLaw) := ⟨rfl, rfl, rfl, by decide +kernel, rfl, by decide +kernel, by decide +kernel⟩
def spLaw (K : PySem.W.Frag) : Sp := fun vs H Q _ => ∃ (a : Addr) (ns : List Int), vs = [.ref a] ∧ SqL K H a (ns.map V.int) ∧ ns.length ≤ 63 ∧ ∀ H', Q (.bl true) H'
theorem ok_law {f C f0 f1 f2 f3 f4 f5 f6 f7 f8 f9 fa fb : Addr} {fd fd0 fd1 fd2 fd3 fd4 fd5 fd6 fd7 fd8 fd9 fda fdb : FuncData} (F : FnP K "law" "law" sLaw f fd) (Tx : Txt K mg) (TC : TxtC K mg C) (MC : Mk K C f1) (b1 : Binds K fd1 ["self", "statement"] []) (g1 : FnOk P w K mg base CX0 5 f1 fd1 ["self", "statement"] (spInit K C))
    (c2 : Cal P w K mg base 6 "ways" ["code", "number"] (spWays K C) f2 fd2) (c3 : Cal P w K mg base 2 "_law_by_parts" ["_law_statement_here", "_law_some"] (spBy K) f3 fd3) (m4 : Spm K C "__getitem__" f4) (b4 : Binds K fd4 ["self", "number"] []) (g4 : FnOk P w K mg base CX0 4 f4 fd4 ["self", "number"] (spGet K C))
    (m0 : Spm K C "__len__" f0) (b0 : Binds K fd0 ["self"] []) (g0 : FnOk P w K mg base CX0 1 f0 fd0 ["self"] (spLen K C)) (c5 : Cal P w K mg base 1 "_law_cell_at" ["_law_script", "_law_index"] (spCell K) f5 fd5) (c6 : Cal P w K mg base 1 "_law_source" ["_law_cell"] spSrc f6 fd6)
    (c7 : Cal P w K mg base 105 "_law_statement" pSt (spSt K 100) f7 fd7) (c8 : Cal P w K mg base 2 "_law_choice" ["_law_source_here", "_law_items"] spCho f8 fd8) (c9 : CDraw P w K mg base f9 fd9) (ca : CalM P w K mg base 4 C "parts" ["self", "number"] (spPts K C) fa fda) (cb : Cal P w K mg base 7 "_law_deep_right" [] spDR fb fdb) :
    FnOk P w K mg base CX0 106 f fd ["_law_script"] (spLaw K) := by
  refine fok F scLaw (fun vs H Q E h => ?_) (fun cdv A outer s H vs Q E hr h => ?_)
  · obtain ⟨a, ns, rfl, _⟩ := h
    rfl
  · obtain ⟨a, ns, rfl, hS, hlen, q⟩ := h
    have hr1 := hr.mono (show 1 ≤ 105 by decide)
    have hr2 := hr.mono (show 2 ≤ 105 by decide)
    have hr11 := hr.mono (show 1 + 1 ≤ 105 by decide)
    have hr4 := hr.mono (show 4 ≤ 105 by decide)
    have hr5 := hr.mono (show 4 + 1 ≤ 105 by decide)
    have hr6 := hr.mono (show 6 ≤ 105 by decide)
    have hr51 := hr.mono (show 5 + 1 ≤ 105 by decide)
    have hr7 := hr.mono (show 7 ≤ 105 by decide)
    have hu64 : (A.deeper (envOfC "law" (defScope sLaw) s.heap.objs.size f cdv)).units + 64 < cLine := hr.units
    have hu65 : (A.deeper (envOfC "law" (defScope sLaw) s.heap.objs.size f cdv)).units + 65 < cLine := by have := hr.un; omega
    refine ⟨_, (pss_cons (ps_for PassesOwn.never rfl (pi_list (pe_op op_cat (pe_lst (pa_cons (pe_call c5.ok hr1 (by rfl) c5.m c5.kp c5.b .nil pass0 (pa_cons (pv 0) (pa_cons pe_int pa_nil))) pa_nil)) (pe_slice sl_list (pv 0) (po_some pe_int) (po_some pe_int)))) (pg_name (i := 1) scLaw.nd rfl (.inl rfl))
 (pss_cons (ps_set (i := 2) scLaw.nd rfl (.inl rfl) (pe_call c6.ok hr1 (by rfl) c6.m c6.kp c6.b .nil pass0 (pa_cons (pv 1) pa_nil)))
 (pss_cons (ps_set (i := 3) scLaw.nd rfl (.inr rfl) (pe_make MC g1 hr51 (by rfl) TC.mgC b1 .nil pass0 (pa_cons (pe_call c7.ok hr (by rfl) c7.m c7.kp c7.b .nil pass0 (pa_cons (pv 2) (pa_cons (pe_call c8.ok hr2 (by rfl) c8.m c8.kp c8.b .nil pass0 (pa_cons (pv 2) (pa_cons (pe_lst (pa_cons pe_int (pa_cons pe_int (pa_cons pe_int pa_nil)))) pa_nil))) (pa_cons pe_int (pa_cons pe_int (pa_cons pe_int pa_nil)))))) pa_nil)))
 (pss_cons (ps_for PassesOwn.never rfl (pi_range1 (by rfl) Tx.range (pa_cons pe_int pa_nil)) (pg_name (i := 4) scLaw.nd rfl (.inl rfl))
 (pss_cons (ps_set (i := 5) scLaw.nd rfl (.inl rfl) (pe_op op_mul (pe_call c9.ok hr1 (by rfl) c9.m c9.kp c9.b .nil pass0 (pa_cons (pv 2) (pa_cons (pe_callB (call_lenC (E := E0) m0 g0 hr11 b0 pass0) (by rfl) Tx.len PySem.boot_len (pa_cons (pv 3) pa_nil)) pa_nil))) (pe_callTy call_int1 (by rfl) Tx.int (by decide +kernel) (pa_cons (pe_cmpR op_gt (pv 4) pe_int (nomark _)) pa_nil))))
 (pss_cons (ps_setLc (i := 6) (own := [("_law_part", 7)]) (g := gName 7) (tt := tYes) (te := tCall (spWays K C) [] E0 (tCons (tVar 3) (tCons (tVar 7) tNil))) rfl scLaw.nd rfl rfl (sw_true rfl rfl rfl (by decide +kernel)) (pi_list (pe_meth (pv 3) TC.cl ca.m ca.ok hr4 ca.b .nil pass0 (pa_cons (pv 5) pa_nil))) (blkOk_by (N := nLaw) (sc := defScope sLaw) (by decide +kernel)) (fun _ _ _ _ _ => pg_name (i := 7) scLaw.nd rfl (Or.inl rfl)) (fun _ _ _ _ _ => pts_nil) (fun _ _ _ _ _ => pe_call c2.ok hr6 (by rfl) c2.m c2.kp c2.b .nil pass0 (pa_cons (pv 3) (pa_cons (pv 7) pa_nil))))
 (pss_one (ps_if (pt_cmpR (op_neWs hu64) (pe_call c2.ok hr6 (by rfl) c2.m c2.kp c2.b .nil pass0 (pa_cons (pv 3) (pa_cons (pv 5) pa_nil))) (pe_call c3.ok hr2 (by rfl) c3.m c3.kp c3.b .nil pass0 (pa_cons (pe_ixC m4 g4 hr5 b4 pass0 (pv 3) (pv 5) (fun _ _ => by with_unfolding_all rfl)) (pa_cons (pv 6) pa_nil))) (nomark _))
 (pss_one (ps_ret pe_bl))
 pss_nil)))))
 (pss_one (ps_if (pt_cmpR (op_neL0 hr.units0) (pe_lc (own := [("_law_way", 8)]) (g := gName 8) (tt := tTest (tOp (rNotInWs K) (tVar 8) (tLst (tCons (tTup (tCons (tC (V.str "normal")) tNil)) (tCons (tTup (tCons (tC (V.str "return")) tNil)) (tCons (tTup (tCons (tC (V.str "raise")) tNil)) tNil)))))) (te := tVar 8) rfl scLaw.nd (pi_list (pe_call c2.ok hr6 (by rfl) c2.m c2.kp c2.b .nil pass0 (pa_cons (pv 3) (pa_cons pe_int pa_nil)))) (blkOk_by (N := nLaw) (sc := defScope sLaw) (by decide +kernel)) (fun _ _ _ _ _ => pg_name (i := 8) scLaw.nd rfl (Or.inl rfl)) (fun _ _ _ _ _ => pts_one (pt_cmpR (op_notInWs hu65) (pv 8) (pe_lst (pa_cons (pe_tup (pa_cons pe_str pa_nil)) (pa_cons (pe_tup (pa_cons pe_str pa_nil)) (pa_cons (pe_tup (pa_cons pe_str pa_nil)) pa_nil)))) (by rfl))) (fun _ _ _ _ _ => pv 8)) (pe_lst pa_nil) (nomark _))
 (pss_one (ps_ret pe_bl))
 pss_nil))))))
 (pss_one (ps_ret (pe_call0 cb.ok hr7 (by rfl) cb.m cb.kp cb.b .nil pass0)))), ?_⟩
    -- the cells
    refine ⟨_, rfl, a, ns, rfl, hS, fun z => ⟨(by show 1 ≤ sizeLine; decide), fun l0 hl0 => ?_⟩⟩
    have w0 := same_upd (o := .lst [.int z]) hl0
    refine ⟨_, rfl, 1, rfl, 3, rfl, a, _, rfl, w0.seq hS, fun l1 hl1 => ?_⟩
    have w1 := same_upd (o := .lst (cutV (ns.map V.int) (some 1) (some 3))) hl1
    have hcut : ∀ x ∈ cutV (ns.map V.int) (some 1) (some 3), ∃ y, x = .int y := fun x hx => by
      have h1 : x ∈ ns.map V.int := List.mem_of_mem_drop (List.mem_of_mem_take hx)
      obtain ⟨y, _, e⟩ := List.mem_map.mp h1
      exact ⟨y, e.symm⟩
    have hcl : (cutV (ns.map V.int) (some 1) (some 3)).length ≤ 63 := by
      unfold cutV
      rw [List.length_take, List.length_drop, List.length_map]
      omega
    refine ⟨l0, l1, _, _, rfl, rfl, w1 _ _ upd_same, upd_same, (by rw [List.length_singleton]; exact small_line (by omega)), fun lc hlc => ?_⟩
    refine ⟨lc, rfl, ⟨_, SqL.of upd_same⟩, for_list (K := K) (a := lc) (xs := [.int z] ++ cutV (ns.map V.int) (some 1) (some 3)) (fun i σ H1 => ∃ v1 v2 v3 v4 v5 v6, σ = [some (.ref a), v1, v2, v3, v4, v5, v6, none, none] ∧ Same _ H1) ⟨none, none, none, none, none, none, rfl, Same.refl _⟩ (fun i σ H1 _ ⟨_, _, _, _, _, _, _, s1⟩ => s1.seq (SqL.of upd_same)) ?_ ?_⟩
    · rintro i x0 σ H1 hi ⟨v1, v2, v3, v4, v5, v6, rfl, s1⟩
      obtain ⟨y, rfl⟩ : ∃ y, x0 = .int y := by
        rcases List.mem_append.mp (List.mem_of_getElem? hi) with h | h
        · exact ⟨z, List.mem_singleton.mp h⟩
        · exact hcut _ h
      refine ⟨_, rfl, y, rfl, fun r H2 s2 nr hs2 => ?_⟩
      obtain ⟨z0, z1, z2, hr2', _⟩ := id hs2
      refine ⟨_, rfl, _, rfl, (by show 3 ≤ sizeLine; decide), fun lo hlo => ⟨r, lo, _, 899999999, rfl, hs2.same (same_upd hlo), upd_same, (ne_of_none hr2' hlo).symm, by decide, by decide, fun xr hxr H4 kx4 hs4 => ?_⟩⟩
      obtain ⟨room, rfl, hm1, hm2⟩ : ∃ room : Nat, xr = .int room ∧ 1 ≤ room ∧ room ≤ 400 := by
        simp only [List.mem_cons, List.not_mem_nil, or_false] at hxr
        rcases hxr with rfl | rfl | rfl
        · exact ⟨12, rfl, by decide, by decide⟩
        · exact ⟨60, rfl, by decide, by decide⟩
        · exact ⟨400, rfl, by decide, by decide⟩
      refine ⟨r, room, 100, 0, 0, 100, rfl, hs4.mono (by omega), hm1, hm2, by decide, by decide, by decide, by decide, fun t ta H5 ht wf0 tz td tb kx5 hs5 => ?_⟩
      intro x dx nx ndx ne
      have sm := made_same (C := C) nx ndx
      refine ⟨x, dx, ta, t, rfl, upd_same, IsS.mono (fun _ _ h => same_sqT sm h) _ _ ht, by omega, td, by omega, wf0, fun A' nodes kids prs H6 c L hpre hnew fr => ⟨rfl, ?_⟩⟩
      have s6 : Same H5 H6 := Same.made nx ndx fr
      have M : Made K C H6 x t A' nodes kids prs := ⟨c, L, hpre⟩
      have hs6 := hs5.same s6
      obtain ⟨y0, y1, y2, hr5, _⟩ := id hs5
      have hr6' := s6 _ _ hr5
      have hnr : ¬ Its' A' kids r := fun h => by
        have h1 := hnew r h
        rw [sm _ _ hr5] at h1
        cases h1
      have k06 : Same H1 H6 := (((kx4.trans kx5).same (s2.trans (same_upd hlo)) nr)).trans s6
      have hnl : 0 < nodes.length := by
        have h1 := congrArg List.length hpre
        rw [List.length_map, T.pre_eq] at h1
        rw [h1]
        simp
      refine ⟨12, rfl, by decide, by decide, for_range (n := 12) (fun i σ H7 => ∃ v4 v5 v6, σ = [some (.ref a), some (.int y), some (.ref r), some (.ref x), v4, v5, v6, none, none] ∧ Kx r H6 H7 ∧ Src H7 r (100 - i)) ⟨v4, v5, v6, rfl, Same.kx (Same.refl _) r, hs6⟩ ?_ ?_⟩
      · rintro i7 σ H7 hi7 ⟨w4, w5, w6, rfl, kx7, hs7⟩
        have M7 : Made K C H7 x t A' nodes kids prs := ⟨c.kx kx7 hr6' hnr, L, hpre⟩
        have hsm := L.small
        refine ⟨_, rfl, _, rfl, x, A'.dx, _, rfl, M7.c.ob, x, A', nodes, kids, prs, rfl, M7.c, _, rfl, by omega, by omega, r, _, 99 - i7, rfl, hs7.mono (by omega), by omega, by omega, fun v H8 hv0 hv1 kx8 hs8 => ?_⟩
        obtain ⟨zz0, zz1, zz2, hr7', _⟩ := id hs7
        have M8 : Made K C H8 x t A' nodes kids prs := ⟨M7.c.kx kx8 hr7' hnr, L, hpre⟩
        obtain ⟨j, hj, ej⟩ : ∃ j : Nat, j < nodes.length ∧ v * (if decide (0 < (0 : Int) + (i7 : Nat)) = true then 1 else 0) = (j : Int) := by
          split
          · exact ⟨v.toNat, by omega, by omega⟩
          · exact ⟨0, hnl, by omega⟩
        refine ⟨_, rfl, _, _, rfl, rfl, .inr ⟨_, rfl, _, _, rfl, rfl, .inr (by split <;> decide), ?_⟩⟩
        obtain ⟨⟨u, au⟩, hn⟩ : ∃ q, nodes[j]? = some q := ⟨_, List.getElem?_eq_getElem hj⟩
        obtain ⟨⟨kc, js⟩, hk⟩ : ∃ k, kids[j]? = some k := ⟨_, List.getElem?_eq_getElem (by rw [c.kl]; exact hj)⟩
        refine ⟨_, rfl, x, A'.dx, _, rfl, M8.c.ob, no_parts, _, rfl, x, A', nodes, kids, prs, j, (u, au), (kc, js), ⟨congrArg (fun z => [V.ref x, V.int z]) ej, M8.c, hn, hk⟩, fun lp hlp => ⟨lp, rfl, ⟨_, SqL.of upd_same⟩, fun D hD => ?_⟩⟩
        have sp := same_upd (o := .lst (js.map fun (j : Nat) => V.int j)) hlp
        have hkj := (L.kid j u au kc js hn hk).1
        have hjl : js.length = u.kids.length := by
          have := congrArg List.length hkj
          rw [List.length_map, List.length_map] at this
          exact this.symm
        have hkl : js.length ≤ 400 := by
          have h1 := kids_len u
          have h2 : u.size ≤ 400 := (L.node _ (List.mem_of_getElem? hn)).1
          omega
        refine lc_list (K := K) (a := lp) (xs := js.map fun (j : Nat) => V.int j) (fun n H9 => ∃ kd : List (Addr × T), Same (upd H8 lp (.lst (js.map fun (j : Nat) => V.int j))) H9 ∧ H9 D = some (.lst (kd.map fun q => V.ref q.1)) ∧ kd.length = n ∧ kd.map (·.2) = u.kids.take n ∧ ∀ q ∈ kd, (WL K H9 q.1 q.2.ws ∧ ∀ v ∈ q.2.ws, v ∈ allWays) ∧ q.1 ≠ D) ⟨[], same_upd hD, upd_same, rfl, rfl, fun q h => nomatch h⟩
          (fun n H9 _ ⟨_, s9, _⟩ => SqL.of (s9 _ _ upd_same)) ?_ ?_
        · rintro n x9 H9 hi9 ⟨kd, s9, h9, hl9, hm9, hw9⟩
          obtain ⟨jj, hjj, rfl⟩ : ∃ jj : Nat, js[n]? = some jj ∧ x9 = .int (jj : Nat) := by
            rw [List.getElem?_map] at hi9
            obtain ⟨d, a, b⟩ := Option.map_eq_some_iff.mp hi9
            exact ⟨d, a, b.symm⟩
          obtain ⟨uk, huk, hnk⟩ : ∃ uk, u.kids[n]? = some uk ∧ (nodes[jj]?).map (·.1) = some uk := by
            have h1 : (u.kids.map some)[n]? = (js.map fun j => (nodes[j]?).map (·.1))[n]? := by rw [hkj]
            rw [List.getElem?_map, List.getElem?_map, hjj] at h1
            obtain ⟨uk, h2, h3⟩ := Option.map_eq_some_iff.mp h1
            exact ⟨uk, h2, h3.symm⟩
          obtain ⟨⟨uk', ak⟩, hnn, rfl⟩ := Option.map_eq_some_iff.mp hnk
          obtain ⟨kk, hkk⟩ : ∃ k, kids[jj]? = some k := ⟨_, List.getElem?_eq_getElem (by rw [c.kl]; exact (List.getElem?_eq_some_iff.mp hnn).1)⟩
          have M9 := (M8.same sp).same s9
          refine ⟨rfl, _, rfl, _, rfl, x, A', nodes, kids, prs, jj, (uk', ak), kk, ⟨rfl, M9.c, hnn, hkk⟩, L, fun l H10 s10 nl10 wl10 => ?_⟩
          have h10 := s10 _ _ h9
          have nlD : l ≠ D := (ne_of_none h9 nl10).symm
          have kx := Kx.upd D H10 (.lst ((kd.map fun q => V.ref q.1) ++ [V.ref l]))
          refine ⟨_, h10, small_lt (by rw [List.length_map]; have := (List.getElem?_eq_some_iff.mp hjj).1; omega), kd ++ [(l, uk')], kx.same (s9.trans s10) hD, by rw [upd_same, List.map_append]; rfl, by rw [List.length_append, hl9]; rfl, ?_, fun q hq => ?_⟩
          · rw [List.map_append, hm9, List.take_add_one, huk]
            rfl
          · rcases List.mem_append.mp hq with hq | hq
            · obtain ⟨⟨a, b⟩, d⟩ := hw9 q hq
              exact ⟨⟨(a.same s10).kx kx h10 d, b⟩, d⟩
            · rw [List.mem_singleton.mp hq]
              exact ⟨⟨wl10.kx kx h10 nlD, L.ways (List.mem_of_getElem? hnn)⟩, nlD⟩
        · rintro H9 ⟨kd, s9, h9, hl9, hm9, hw9⟩
          rw [List.length_map] at hm9
          have hm9' : kd.map (·.2) = u.kids := by rw [hm9, hjl, List.take_length]
          have M9 := (M8.same sp).same s9
          refine ⟨_, rfl, _, rfl, x, A', nodes, kids, prs, j, (u, au), (kc, js), ⟨congrArg (fun z => [V.ref x, V.int z]) ej, M9.c, hn, hk⟩, L, fun l1 H10 s10 _ wl1 => ?_⟩
          have M10 := M9.same s10
          refine ⟨_, rfl, _, rfl, x, A'.dx, _, rfl, M10.c.ob, x, A', nodes, kids, prs, j, (u, au), (kc, js), ⟨congrArg (fun z => [V.ref x, V.int z]) ej, M10.c, hn, hk⟩, ?_⟩
          refine ⟨_, rfl, au, D, u, kd, rfl, M10.c.stm _ (List.mem_of_getElem? hn), (L.node _ (List.mem_of_getElem? hn)).1, L.ways (List.mem_of_getElem? hn), s10 _ _ h9, hm9', fun q hq => ⟨(hw9 q hq).1.1.same s10, (hw9 q hq).1.2⟩, fun R H11 s11 wl11 => ?_⟩
          obtain ⟨L1, e1, e2, e3, e4⟩ := wl1.same s11
          obtain ⟨L7, f1, f2, f3, f4⟩ := wl11
          refine ⟨l1, R, L1, L7, rfl, rfl, SqL.of e1, SqL.of f1, e2, f2, e3.one f3 fun z => (e4 z).trans (f4 z).symm, _, rfl, ifF (by simp) ?_⟩
          have sA := ((sp.trans s9).trans s10).trans s11
          exact ⟨_, _, _, rfl, (kx7.trans kx8).trans (Same.kx sA r), (hs8.same sA).mono (by omega)⟩
      · rintro σ H7 ⟨w4, w5, w6, rfl, kx7, hs7⟩
        have M7 : Made K C H7 x t A' nodes kids prs := ⟨c.kx kx7 hr6' hnr, L, hpre⟩
        obtain ⟨ar, kr, hn, hk, _⟩ := M7.at' (i := 0) (u := t) (by rw [T.pre_eq]; rfl)
        refine ⟨_, rfl, x, A', nodes, kids, prs, 0, (t, ar), kr, ⟨rfl, M7.c, hn, hk⟩, L, fun l1 H8 s8 _ wl8 => ?_⟩
        obtain ⟨L1, e1, e2, e3, e4⟩ := wl8
        refine ⟨l1, rfl, ⟨_, SqL.of e1⟩, fun D hD => ?_⟩
        refine lc_list (K := K) (a := l1) (xs := L1.map fun p => V.ref p.1) (fun n H9 => Same H8 H9 ∧ H9 D = some (.lst [])) ⟨same_upd hD, upd_same⟩ (fun n H9 _ ⟨s9, _⟩ => SqL.of (s9 _ _ e1)) ?_ ?_
        · rintro n x9 H9 hi9 ⟨s9, h9⟩
          obtain ⟨p, hp, rfl⟩ : ∃ p, L1[n]? = some p ∧ x9 = .ref p.1 := by
            rw [List.getElem?_map] at hi9
            obtain ⟨p, a, b⟩ := Option.map_eq_some_iff.mp hi9
            exact ⟨p, a, b.symm⟩
          have hpm := List.mem_of_getElem? hp
          refine ⟨rfl, _, rfl, (by show 1 ≤ sizeLine; decide), fun t1 k1 => ⟨(by show 1 ≤ sizeLine; decide), fun t2 k2 => ⟨(by show 1 ≤ sizeLine; decide), fun t3 k3 => ⟨(by show 3 ≤ sizeLine; decide), fun tl kl => ?_⟩⟩⟩⟩
          have y1 := same_upd (o := .tup [.str "normal"]) k1
          have y2 := same_upd (o := .tup [.str "return"]) k2
          have y3 := same_upd (o := .tup [.str "raise"]) k3
          have y4 := same_upd (o := .lst [.ref t1, .ref t2, .ref t3]) kl
          have yA := ((y1.trans y2).trans y3).trans y4
          have hin : p.2 ∈ ([(t1, .normal), (t2, .ret), (t3, .rse)] : List AW).map (·.2) := by
            have h1 := T.ws_le t 0 wf0 p.2 ((e4 p.2).mp (List.mem_map.mpr ⟨p, hpm, rfl⟩))
            cases hp2 : p.2 with
            | normal => simp
            | ret => simp
            | rse => simp
            | brk m =>
              rw [hp2] at h1
              have h2 : 1 ≤ m ∧ m ≤ ((0 : Nat) : Int) := h1
              omega
            | cnt m =>
              rw [hp2] at h1
              have h2 : 1 ≤ m ∧ m ≤ ((0 : Nat) : Int) := h1
              omega
          refine ⟨p.1, tl, p.2, [(t1, .normal), (t2, .ret), (t3, .rse)], rfl, rfl, same_sqT (s9.trans yA) (e2 p hpm), SqL.of upd_same, fun q hq => ?_, _, rfl, ifF (by rw [decide_eq_true hin]; simp) ⟨s9.trans yA, yA _ _ h9⟩⟩
          simp only [List.mem_cons, List.not_mem_nil, or_false] at hq
          rcases hq with rfl | rfl | rfl
          · exact same_sqT ((y2.trans y3).trans y4) (SqT.of upd_same)
          · exact same_sqT (y3.trans y4) (SqT.of upd_same)
          · exact same_sqT y4 (SqT.of upd_same)
        · rintro H9 ⟨s9, h9⟩
          refine ⟨by decide, fun le hle => ⟨D, le, [], rfl, rfl, SqL.of (same_upd hle _ _ h9), SqL.of upd_same, _, rfl, ifF (by simp) ?_⟩⟩
          exact ⟨_, _, _, _, _, _, rfl, s1.trans ((kx7.same k06 nr).trans ((s8.trans s9).trans (same_upd hle)))⟩
    · rintro σ H1 ⟨v1, v2, v3, v4, v5, v6, rfl, s1⟩
      exact ⟨rfl, fun H' => q H'⟩
end
end L2.K11
set_option Elab.async false
set_option linter.all false
set_option maxRecDepth 100000
set_option maxHeartbeats 0
/-! The head: facts by names, the run. -/
namespace L2.K11
open PySem PySem.Spec PyProof.Rows
def dInt : He.DefD := ⟨("is_integer", none), "is_integer", "is_integer", defArgs sInt, defBody sInt, defScope sInt, [], []⟩
def dBet : He.DefD := ⟨("is_between", none), "is_between", "is_between", defArgs sBet, defBody sBet, defScope sBet, [], []⟩
def dComes : He.DefD := ⟨("comes_first", none), "comes_first", "comes_first", defArgs sComes, defBody sComes, defScope sComes, [], []⟩
def dKeep : He.DefD := ⟨("keep_first", none), "keep_first", "keep_first", defArgs sKeep, defBody sKeep, defScope sKeep, [], []⟩
def dFirst : He.DefD := ⟨("first_shortest", none), "first_shortest", "first_shortest", defArgs sFirst, defBody sFirst, defScope sFirst, [], []⟩
def dLeaf : He.DefD := ⟨("left_by_leaf", none), "left_by_leaf", "left_by_leaf", defArgs sLeaf, defBody sLeaf, defScope sLeaf, [], []⟩
def dIf : He.DefD := ⟨("left_by_if", none), "left_by_if", "left_by_if", defArgs sIf, defBody sIf, defScope sIf, [], []⟩
def dWh : He.DefD := ⟨("left_by_while", none), "left_by_while", "left_by_while", defArgs sWh, defBody sWh, defScope sWh, [], []⟩
def dSeq : He.DefD := ⟨("left_by_seq", none), "left_by_seq", "left_by_seq", defArgs sSeq, defBody sSeq, defScope sSeq, [], []⟩
def dTry : He.DefD := ⟨("left_by_try", none), "left_by_try", "left_by_try", defArgs sTry, defBody sTry, defScope sTry, [], []⟩
def dFin : He.DefD := ⟨("left_by_final", none), "left_by_final", "left_by_final", defArgs sFin, defBody sFin, defScope sFin, [], []⟩
def dShort : He.DefD := ⟨("shortest_answers", none), "shortest_answers", "shortest_answers", defArgs sShort, defBody sShort, defScope sShort, [], []⟩
def dAll : He.DefD := ⟨("all_ways", none), "all_ways", "all_ways", defArgs sAll, defBody sAll, defScope sAll, [], []⟩
def dWays : He.DefD := ⟨("ways", none), "ways", "ways", defArgs sWays, defBody sWays, defScope sWays, [], []⟩
def dName : He.DefD := ⟨("is_name", none), "is_name", "is_name", defArgs sName, defBody sName, defScope sName, [], []⟩
def dStm : He.DefD := ⟨("is_statement", none), "is_statement", "is_statement", defArgs sStm, defBody sStm, defScope sStm, [], []⟩
def dParts : He.DefD := ⟨("parts_in", none), "parts_in", "parts_in", defArgs sParts, defBody sParts, defScope sParts, [], []⟩
def dCell : He.DefD := ⟨("_law_cell_at", none), "_law_cell_at", "_law_cell_at", defArgs sCell, defBody sCell, defScope sCell, [], []⟩
def dSrc : He.DefD := ⟨("_law_source", none), "_law_source", "_law_source", defArgs sSrc, defBody sSrc, defScope sSrc, [], []⟩
def dDraw : He.DefD := ⟨("_law_draw", none), "_law_draw", "_law_draw", defArgs sDraw, defBody sDraw, defScope sDraw, [], []⟩
def dCho : He.DefD := ⟨("_law_choice", none), "_law_choice", "_law_choice", defArgs sCho, defBody sCho, defScope sCho, [], []⟩
def dNm : He.DefD := ⟨("_law_name", none), "_law_name", "_law_name", defArgs sNm, defBody sNm, defScope sNm, [], []⟩
def dLf : He.DefD := ⟨("_law_leaf", none), "_law_leaf", "_law_leaf", defArgs sLf, defBody sLf, defScope sLf, [], []⟩
def dSt : He.DefD := ⟨("_law_statement", none), "_law_statement", "_law_statement", defArgs sSt, defBody sSt, defScope sSt, [], []⟩
def dOut : He.DefD := ⟨("_law_outside", none), "_law_outside", "_law_outside", defArgs sOut, defBody sOut, defScope sOut, [], []⟩
def dOS : He.DefD := ⟨("_law_of_seq", none), "_law_of_seq", "_law_of_seq", defArgs sOS, defBody sOS, defScope sOS, [], []⟩
def dBy : He.DefD := ⟨("_law_by_parts", none), "_law_by_parts", "_law_by_parts", defArgs sBy, defBody sBy, defScope sBy, [], []⟩
def dDR : He.DefD := ⟨("_law_deep_right", none), "_law_deep_right", "_law_deep_right", defArgs sDR, defBody sDR, defScope sDR, [], []⟩
def dLaw : He.DefD := ⟨("law", none), "law", "law", defArgs sLaw, defBody sLaw, defScope sLaw, [], []⟩
def dLen : He.DefD := ⟨("Code", some "__len__"), "__len__", "Code.__len__", defArgs sLen, defBody sLen, defScope sLen, [], []⟩
def dCheckN : He.DefD := ⟨("Code", some "check_number"), "check_number", "Code.check_number", defArgs sCheckN, defBody sCheckN, defScope sCheckN, [], []⟩
def dKind : He.DefD := ⟨("Code", some "kind"), "kind", "Code.kind", defArgs sKind, defBody sKind, defScope sKind, [], []⟩
def dPts : He.DefD := ⟨("Code", some "parts"), "parts", "Code.parts", defArgs sPts, defBody sPts, defScope sPts, [], []⟩
def dGet : He.DefD := ⟨("Code", some "__getitem__"), "__getitem__", "Code.__getitem__", defArgs sGet, defBody sGet, defScope sGet, [], []⟩
def dCheck : He.DefD := ⟨("Code", some "check"), "check", "Code.check", defArgs sCheck, defBody sCheck, defScope sCheck, [], []⟩
def dKeepC : He.DefD := ⟨("Code", some "keep"), "keep", "Code.keep", defArgs sKeepC, defBody sKeepC, defScope sKeepC, [], []⟩
def dInit : He.DefD := ⟨("Code", some "__init__"), "__init__", "Code.__init__", defArgs sInit, defBody sInit, defScope sInit, [], []⟩
def fn : List He.DefD := [dInt, dBet, dComes, dKeep, dFirst, dLeaf, dIf, dWh, dSeq, dTry, dFin, dShort, dAll, dWays, dName, dStm, dParts, dCell, dSrc, dDraw, dCho, dNm, dLf, dSt, dOut, dOS, dBy, dDR, dLaw, dLen, dCheckN, dKind, dPts, dGet, dCheck, dKeepC, dInit]
def fa : List He.Fa := [.free "len", .free "sorted", .free "range", .free "enumerate", .free "reversed", .free "list", .free "set", .free "int", .free "tuple", .free "str", .free "bool", .free "isinstance", .free "all", .int "MOST_STATEMENTS" 400, .int "MOST_DEEP" 100, .int "MOST_BLOCKS" 25, .int "MOST_LETTERS" 8, .str "LETTERS" letters, .cls "Code", .mkr "Code", .noat "Code" "statements", .noat "Code" "kinds", .noat "Code" "labels", .noat "Code" "parents", .noat "Code" "children", .meth "Code" "check", .meth "Code" "keep", .meth "Code" "check_number", .meth "Code" "kind", .meth "Code" "parts", .glo "NORMAL", .glo "RAISE", .glo "NAMED", .glo "JUMPS", .glo "SIZES", .glo "Code", .glo "is_integer", .glo "is_between", .glo "comes_first", .glo "keep_first", .glo "first_shortest", .glo "left_by_leaf", .glo "left_by_if", .glo "left_by_while", .glo "left_by_seq", .glo "left_by_try", .glo "left_by_final", .glo "shortest_answers", .glo "all_ways", .glo "ways", .glo "is_name", .glo "is_statement", .glo "parts_in", .glo "_law_cell_at", .glo "_law_source", .glo "_law_draw", .glo "_law_choice", .glo "_law_name", .glo "_law_leaf", .glo "_law_statement", .glo "_law_outside", .glo "_law_of_seq", .glo "_law_by_parts", .glo "_law_deep_right", .glo "law", .keep "Code"]
/-- a special method -/
def spmB (K : PySem.W.Frag) (m : Str) : Bool := He.eqO (PySem.W.findIn K (.ref (He.ga K "Code")) m) (some (some (.ref (He.ma K (He.ga K "Code") m)))) && (PySem.W.isFn K (.ref (He.ma K (He.ga K "Code") m)) && PySem.W.fnIn K (He.ma K (He.ga K "Code") m))
def sizesD : List (Str × He.Dv) := sizes.map fun q => (q.1, He.Dv.int q.2)
def extra (K : PySem.W.Frag) : Bool := spmB K "__len__" && (spmB K "__getitem__" && (He.tupB K "NORMAL" [.str "normal"] && (He.tupB K "RAISE" [.str "raise"] && (He.tupB K "NAMED" [.str "do", .str "call", .str "if", .str "while"] && (He.tupB K "JUMPS" [.str "break", .str "continue"] && He.valsB K (He.ga K "SIZES") sizesD)))))
def ts : List He.Tab := [(fun K => He.ga K "SIZES", sizes.map (·.1))]
def obX (K : PySem.W.Frag) : He.AlT × Bool := (He.obsT fa fn ts K, extra K)
def valX (w : World) : He.AlT × Bool := (He.valT fn ts w, true)
def SaysX (w : World) (K : PySem.W.Frag) : Prop := obX K = valX w
def obXG (g : Addr → Option Obj) : He.AlT × Bool := obX (He.frG g (He.asD g 5))
def hk : PySem.W.Hook where
  α := He.AlT × Bool
  obs := fun s => obXG s.heap.get?
  val := fun w => valX w
  says := fun w h => ∃ K : PySem.W.Frag, K.In h ∧ SaysX w K
  of := fun _ _ e => ⟨_, He.frG_in, e⟩
  keeps := fun _ _ _ ⟨K, hK, c⟩ k => ⟨K, PySem.W.Frag.In.keeps hK k, c⟩
abbrev R : PySem.W.OpenRow := PySem.W.OpenLaw.row PySem.Challenge.rw_finallycopies_k11_whole_ways_by_the_part
def ob (s : PySem.W.SharedT) : He.AlT × Bool := obXG (HandSHeadRun.getT s)
theorem ob_eq (s : PySem.W.SharedT) : ob s = hk.obs s.abs := by
  have e : HandSHeadRun.getT s = s.abs.heap.get? := funext (HandSHeadRun.getT_eq s)
  unfold ob
  rw [e] <;> rfl
def looseA : List Str := ["_wall", "CopyError", "InvalidCode", "InvalidNumber", "LimitExceeded", "is_integer", "is_between", "NORMAL", "RAISE", "comes_first", "keep_first", "first_shortest", "left_by_leaf", "left_by_if", "left_by_while", "left_by_seq", "left_by_try", "left_by_final", "shortest_answers", "all_ways", "ways", "MOST_STATEMENTS"]
def looseB : List Str := ["MOST_DEEP", "MOST_BLOCKS", "MOST_LETTERS", "LETTERS", "SIZES", "NAMED", "JUMPS", "is_name", "is_statement", "parts_in", "Code", "_law_cell_at", "_law_source", "_law_draw", "_law_choice", "_law_name", "_law_leaf", "_law_statement", "_law_outside", "_law_of_seq", "_law_by_parts", "_law_deep_right"]
abbrev loose : List Str := looseA ++ looseB
theorem runF (w : World) : HandSHeadRun.RunEq R (PySem.W.view R.prog [49]) hk ob 4000 loose (w.withFollow "special-get-raises" false) := by
  intro os
  kernel_rfl
theorem runT (w : World) : HandSHeadRun.RunEq R (PySem.W.view R.prog [49]) hk ob 4000 loose (w.withFollow "special-get-raises" true) := by
  intro os
  kernel_rfl
theorem run (w : World) : HandSHeadRun.RunEq R (PySem.W.view R.prog [49]) hk ob 4000 loose w :=
  PySem.W.byRow2 "special-get-raises" (P := fun w => HandSHeadRun.RunEq R (PySem.W.view R.prog [49]) hk ob 4000 loose w) runF runT w
end L2.K11
set_option Elab.async false
set_option linter.all false
set_option maxRecDepth 100000
set_option maxHeartbeats 1000000
/-! The end: the facts joined, the law. -/
namespace L2.K11
open PySem PySem.Spec PyProof.Rows
theorem SaysX.t {w : World} {K : PySem.W.Frag} (c : SaysX w K) : He.SaysT fa fn ts w K := congrArg (fun z : He.AlT × Bool => z.1) c
theorem SaysX.e {w : World} {K : PySem.W.Frag} (c : SaysX w K) : extra K = true := congrArg (fun z : He.AlT × Bool => z.2) c
theorem spm_ok {K : PySem.W.Frag} {m : Str} (h : spmB K m = true) : Spm K (He.ga K "Code") m (He.ma K (He.ga K "Code") m) := by
  obtain ⟨h1, h2⟩ := He.ba h
  obtain ⟨h3, h4⟩ := He.ba h2
  exact ⟨He.eqO_ok h1, h3, h4⟩
section
variable {w : World} {K : PySem.W.Frag} {h : Heap} {mg : Str → Option Value}
theorem txt (X : K.In h) (G : h.Ns mainGlobals mg) (c : SaysX w K) : Txt K mg := by
  have d := c.t.d
  obtain ⟨e1, e⟩ := He.ba c.e
  obtain ⟨e2, e⟩ := He.ba e
  obtain ⟨e3, e⟩ := He.ba e
  obtain ⟨e4, e⟩ := He.ba e
  exact {
    normal := ⟨_, He.glo_ok X G (d.fact 30 (f := .glo "NORMAL") rfl), He.tupB_ok e3⟩
    rse := ⟨_, He.glo_ok X G (d.fact 31 (f := .glo "RAISE") rfl), He.tupB_ok e4⟩
    len := He.free_ok X G (d.fact 0 (f := .free "len") rfl)
    sorted := He.free_ok X G (d.fact 1 (f := .free "sorted") rfl)
    range := He.free_ok X G (d.fact 2 (f := .free "range") rfl)
    enumerate := He.free_ok X G (d.fact 3 (f := .free "enumerate") rfl)
    reversed := He.free_ok X G (d.fact 4 (f := .free "reversed") rfl)
    list := He.free_ok X G (d.fact 5 (f := .free "list") rfl)
    set := He.free_ok X G (d.fact 6 (f := .free "set") rfl)
    int := He.free_ok X G (d.fact 7 (f := .free "int") rfl)
    tuple := He.free_ok X G (d.fact 8 (f := .free "tuple") rfl)
    str := He.free_ok X G (d.fact 9 (f := .free "str") rfl)
    bool := He.free_ok X G (d.fact 10 (f := .free "bool") rfl)
    isinstance := He.free_ok X G (d.fact 11 (f := .free "isinstance") rfl)
    all := He.free_ok X G (d.fact 12 (f := .free "all") rfl) }
theorem txtS (X : K.In h) (G : h.Ns mainGlobals mg) (c : SaysX w K) : TxtS K w mg := by
  have d := c.t.d
  obtain ⟨e1, e⟩ := He.ba c.e
  obtain ⟨e2, e⟩ := He.ba e
  obtain ⟨e3, e⟩ := He.ba e
  obtain ⟨e4, e⟩ := He.ba e
  obtain ⟨e5, e⟩ := He.ba e
  obtain ⟨e6, e7⟩ := He.ba e
  obtain ⟨es, n, hd⟩ := c.t.tab 0 (t := (fun K => He.ga K "SIZES", sizes.map (·.1))) rfl
  exact {
    named := ⟨_, He.glo_ok X G (d.fact 32 (f := .glo "NAMED") rfl), He.tupB_ok e5⟩
    jumps := ⟨_, He.glo_ok X G (d.fact 33 (f := .glo "JUMPS") rfl), He.tupB_ok e6⟩
    sizes := ⟨_, es, n, He.glo_ok X G (d.fact 34 (f := .glo "SIZES") rfl), hd, fun q hq => He.valsB_ok e7 (q := (q.1, He.Dv.int q.2)) (List.mem_map.mpr ⟨q, hq, rfl⟩)⟩
    mStat := He.int_ok X G (d.fact 13 (f := .int "MOST_STATEMENTS" 400) rfl)
    mDeep := He.int_ok X G (d.fact 14 (f := .int "MOST_DEEP" 100) rfl)
    mBlk := He.int_ok X G (d.fact 15 (f := .int "MOST_BLOCKS" 25) rfl)
    mLet := He.int_ok X G (d.fact 16 (f := .int "MOST_LETTERS" 8) rfl)
    letters := He.str_ok X G (d.fact 17 (f := .str "LETTERS" letters) rfl) }
theorem txtC (X : K.In h) (G : h.Ns mainGlobals mg) (c : SaysX w K) : TxtC K mg (He.ga K "Code") := by
  have d := c.t.d
  exact {
    cl := He.cls_ok (d.fact 18 (f := .cls "Code") rfl)
    mgC := He.glo_ok X G (d.fact 35 (f := .glo "Code") rfl)
    ns := He.noat_ok (d.fact 20 (f := .noat "Code" "statements") rfl)
    nk := He.noat_ok (d.fact 21 (f := .noat "Code" "kinds") rfl)
    nl := He.noat_ok (d.fact 22 (f := .noat "Code" "labels") rfl)
    np := He.noat_ok (d.fact 23 (f := .noat "Code" "parents") rfl)
    nc := He.noat_ok (d.fact 24 (f := .noat "Code" "children") rfl) }
theorem facts {P : Program} {f : Addr} (X : K.In h) (G : h.Ns mainGlobals mg) (hfa : mg ("law" : Str) = some (.ref f)) (c : SaysX w K) :
    ∃ fd : FuncData, (∀ (s : Shared) (v : Value), BindsTo s fd ⟨[v], []⟩ [("_law_script", v)]) ∧ ∀ base : Heap, K.In base → base.Ns mainGlobals mg → FnOk P w K mg base CX0 106 f fd ["_law_script"] (spLaw K) := by
  have d := c.t.d
  obtain ⟨e1, e⟩ := He.ba c.e
  obtain ⟨e2, _⟩ := He.ba e
  have Tx := txt X G c
  have TS := txtS X G c
  have TC := txtC X G c
  have m1 := spm_ok e1
  have m2 := spm_ok e2
  have MC := He.mkr_ok (d.fact 19 (f := .mkr "Code") rfl)
  have el := hfa.symm.trans (He.glo_ok X G (d.fact 64 (f := .glo "law") rfl))
  cases el
  obtain ⟨fdInt, FInt⟩ : ∃ fd, FnP K "is_integer" "is_integer" sInt (He.ga K "is_integer") fd := d.def_ 0 (d := dInt) rfl
  obtain ⟨fdBet, FBet⟩ : ∃ fd, FnP K "is_between" "is_between" sBet (He.ga K "is_between") fd := d.def_ 1 (d := dBet) rfl
  obtain ⟨fdComes, FComes⟩ : ∃ fd, FnP K "comes_first" "comes_first" sComes (He.ga K "comes_first") fd := d.def_ 2 (d := dComes) rfl
  obtain ⟨fdKeep, FKeep⟩ : ∃ fd, FnP K "keep_first" "keep_first" sKeep (He.ga K "keep_first") fd := d.def_ 3 (d := dKeep) rfl
  obtain ⟨fdFirst, FFirst⟩ : ∃ fd, FnP K "first_shortest" "first_shortest" sFirst (He.ga K "first_shortest") fd := d.def_ 4 (d := dFirst) rfl
  obtain ⟨fdLeaf, FLeaf⟩ : ∃ fd, FnP K "left_by_leaf" "left_by_leaf" sLeaf (He.ga K "left_by_leaf") fd := d.def_ 5 (d := dLeaf) rfl
  obtain ⟨fdIf, FIf⟩ : ∃ fd, FnP K "left_by_if" "left_by_if" sIf (He.ga K "left_by_if") fd := d.def_ 6 (d := dIf) rfl
  obtain ⟨fdWh, FWh⟩ : ∃ fd, FnP K "left_by_while" "left_by_while" sWh (He.ga K "left_by_while") fd := d.def_ 7 (d := dWh) rfl
  obtain ⟨fdSeq, FSeq⟩ : ∃ fd, FnP K "left_by_seq" "left_by_seq" sSeq (He.ga K "left_by_seq") fd := d.def_ 8 (d := dSeq) rfl
  obtain ⟨fdTry, FTry⟩ : ∃ fd, FnP K "left_by_try" "left_by_try" sTry (He.ga K "left_by_try") fd := d.def_ 9 (d := dTry) rfl
  obtain ⟨fdFin, FFin⟩ : ∃ fd, FnP K "left_by_final" "left_by_final" sFin (He.ga K "left_by_final") fd := d.def_ 10 (d := dFin) rfl
  obtain ⟨fdShort, FShort⟩ : ∃ fd, FnP K "shortest_answers" "shortest_answers" sShort (He.ga K "shortest_answers") fd := d.def_ 11 (d := dShort) rfl
  obtain ⟨fdAll, FAll⟩ : ∃ fd, FnP K "all_ways" "all_ways" sAll (He.ga K "all_ways") fd := d.def_ 12 (d := dAll) rfl
  obtain ⟨fdWays, FWays⟩ : ∃ fd, FnP K "ways" "ways" sWays (He.ga K "ways") fd := d.def_ 13 (d := dWays) rfl
  obtain ⟨fdName, FName⟩ : ∃ fd, FnP K "is_name" "is_name" sName (He.ga K "is_name") fd := d.def_ 14 (d := dName) rfl
  obtain ⟨fdStm, FStm⟩ : ∃ fd, FnP K "is_statement" "is_statement" sStm (He.ga K "is_statement") fd := d.def_ 15 (d := dStm) rfl
  obtain ⟨fdParts, FParts⟩ : ∃ fd, FnP K "parts_in" "parts_in" sParts (He.ga K "parts_in") fd := d.def_ 16 (d := dParts) rfl
  obtain ⟨fdCell, FCell⟩ : ∃ fd, FnP K "_law_cell_at" "_law_cell_at" sCell (He.ga K "_law_cell_at") fd := d.def_ 17 (d := dCell) rfl
  obtain ⟨fdSrc, FSrc⟩ : ∃ fd, FnP K "_law_source" "_law_source" sSrc (He.ga K "_law_source") fd := d.def_ 18 (d := dSrc) rfl
  obtain ⟨fdDraw, FDraw⟩ : ∃ fd, FnP K "_law_draw" "_law_draw" sDraw (He.ga K "_law_draw") fd := d.def_ 19 (d := dDraw) rfl
  obtain ⟨fdCho, FCho⟩ : ∃ fd, FnP K "_law_choice" "_law_choice" sCho (He.ga K "_law_choice") fd := d.def_ 20 (d := dCho) rfl
  obtain ⟨fdNm, FNm⟩ : ∃ fd, FnP K "_law_name" "_law_name" sNm (He.ga K "_law_name") fd := d.def_ 21 (d := dNm) rfl
  obtain ⟨fdLf, FLf⟩ : ∃ fd, FnP K "_law_leaf" "_law_leaf" sLf (He.ga K "_law_leaf") fd := d.def_ 22 (d := dLf) rfl
  obtain ⟨fdSt, FSt⟩ : ∃ fd, FnP K "_law_statement" "_law_statement" sSt (He.ga K "_law_statement") fd := d.def_ 23 (d := dSt) rfl
  obtain ⟨fdOut, FOut⟩ : ∃ fd, FnP K "_law_outside" "_law_outside" sOut (He.ga K "_law_outside") fd := d.def_ 24 (d := dOut) rfl
  obtain ⟨fdOS, FOS⟩ : ∃ fd, FnP K "_law_of_seq" "_law_of_seq" sOS (He.ga K "_law_of_seq") fd := d.def_ 25 (d := dOS) rfl
  obtain ⟨fdBy, FBy⟩ : ∃ fd, FnP K "_law_by_parts" "_law_by_parts" sBy (He.ga K "_law_by_parts") fd := d.def_ 26 (d := dBy) rfl
  obtain ⟨fdDR, FDR⟩ : ∃ fd, FnP K "_law_deep_right" "_law_deep_right" sDR (He.ga K "_law_deep_right") fd := d.def_ 27 (d := dDR) rfl
  obtain ⟨fdLaw, FLaw⟩ : ∃ fd, FnP K "law" "law" sLaw (He.ga K "law") fd := d.def_ 28 (d := dLaw) rfl
  obtain ⟨fdLen, FLen⟩ : ∃ fd, FnP K "__len__" "Code.__len__" sLen (He.ma K (He.ga K "Code") "__len__") fd := d.def_ 29 (d := dLen) rfl
  obtain ⟨fdCheckN, FCheckN⟩ : ∃ fd, FnP K "check_number" "Code.check_number" sCheckN (He.ma K (He.ga K "Code") "check_number") fd := d.def_ 30 (d := dCheckN) rfl
  obtain ⟨fdKind, FKind⟩ : ∃ fd, FnP K "kind" "Code.kind" sKind (He.ma K (He.ga K "Code") "kind") fd := d.def_ 31 (d := dKind) rfl
  obtain ⟨fdPts, FPts⟩ : ∃ fd, FnP K "parts" "Code.parts" sPts (He.ma K (He.ga K "Code") "parts") fd := d.def_ 32 (d := dPts) rfl
  obtain ⟨fdGet, FGet⟩ : ∃ fd, FnP K "__getitem__" "Code.__getitem__" sGet (He.ma K (He.ga K "Code") "__getitem__") fd := d.def_ 33 (d := dGet) rfl
  obtain ⟨fdCheck, FCheck⟩ : ∃ fd, FnP K "check" "Code.check" sCheck (He.ma K (He.ga K "Code") "check") fd := d.def_ 34 (d := dCheck) rfl
  obtain ⟨fdKeepC, FKeepC⟩ : ∃ fd, FnP K "keep" "Code.keep" sKeepC (He.ma K (He.ga K "Code") "keep") fd := d.def_ 35 (d := dKeepC) rfl
  obtain ⟨fdInit, FInit⟩ : ∃ fd, FnP K "__init__" "Code.__init__" sInit (He.ma K (He.ga K "Code") "__init__") fd := d.def_ 36 (d := dInit) rfl
  have bInt : Binds K fdInt ["value"] [] := FInt.bindsN fun _ _ _ _ _ _ us hl => match us, hl with | [_], _ => rfl
  have bBet : Binds K fdBet ["value", "low", "high"] [] := FBet.bindsN fun _ _ _ _ _ _ us hl => match us, hl with | [_, _, _], _ => rfl
  have bComes : Binds K fdComes ["one", "other"] [] := FComes.bindsN fun _ _ _ _ _ _ us hl => match us, hl with | [_, _], _ => rfl
  have bKeep : Binds K fdKeep ["found", "way", "answers"] [] := FKeep.bindsN fun _ _ _ _ _ _ us hl => match us, hl with | [_, _, _], _ => rfl
  have bFirst : Binds K fdFirst ["found"] [] := FFirst.bindsN fun _ _ _ _ _ _ us hl => match us, hl with | [_], _ => rfl
  have bLeaf : Binds K fdLeaf ["kind", "label"] [] := FLeaf.bindsN fun _ _ _ _ _ _ us hl => match us, hl with | [_, _], _ => rfl
  have bIf : Binds K fdIf ["parts"] [] := FIf.bindsN fun _ _ _ _ _ _ us hl => match us, hl with | [_], _ => rfl
  have bWh : Binds K fdWh ["body"] [] := FWh.bindsN fun _ _ _ _ _ _ us hl => match us, hl with | [_], _ => rfl
  have bSeq : Binds K fdSeq ["parts"] [] := FSeq.bindsN fun _ _ _ _ _ _ us hl => match us, hl with | [_], _ => rfl
  have bTry : Binds K fdTry ["body", "handler"] [] := FTry.bindsN fun _ _ _ _ _ _ us hl => match us, hl with | [_, _], _ => rfl
  have bFin : Binds K fdFin ["body", "block"] [] := FFin.bindsN fun _ _ _ _ _ _ us hl => match us, hl with | [_, _], _ => rfl
  have bShort : Binds K fdShort ["code"] [] := FShort.bindsN fun _ _ _ _ _ _ us hl => match us, hl with | [_], _ => rfl
  have bAll : Binds K fdAll ["code"] [] := FAll.bindsN fun _ _ _ _ _ _ us hl => match us, hl with | [_], _ => rfl
  have bWays : Binds K fdWays ["code", "number"] [] := FWays.bindsN fun _ _ _ _ _ _ us hl => match us, hl with | [_, _], _ => rfl
  have bName : Binds K fdName ["value"] [] := FName.bindsN fun _ _ _ _ _ _ us hl => match us, hl with | [_], _ => rfl
  have bStm : Binds K fdStm ["value", "loops"] [] := FStm.bindsN fun _ _ _ _ _ _ us hl => match us, hl with | [_, _], _ => rfl
  have bParts : Binds K fdParts ["statement"] [] := FParts.bindsN fun _ _ _ _ _ _ us hl => match us, hl with | [_], _ => rfl
  have bCell : Binds K fdCell ["_law_script", "_law_index"] [] := FCell.bindsN fun _ _ _ _ _ _ us hl => match us, hl with | [_, _], _ => rfl
  have bSrc : Binds K fdSrc ["_law_cell"] [] := FSrc.bindsN fun _ _ _ _ _ _ us hl => match us, hl with | [_], _ => rfl
  have bDraw : Binds K fdDraw ["_law_source_here", "_law_bound"] [] := FDraw.bindsN fun _ _ _ _ _ _ us hl => match us, hl with | [_, _], _ => rfl
  have bCho : Binds K fdCho ["_law_source_here", "_law_items"] [] := FCho.bindsN fun _ _ _ _ _ _ us hl => match us, hl with | [_, _], _ => rfl
  have bNm : Binds K fdNm ["_law_source_here"] [] := FNm.bindsN fun _ _ _ _ _ _ us hl => match us, hl with | [_], _ => rfl
  have bLf : Binds K fdLf ["_law_source_here", "_law_loops"] [] := FLf.bindsN fun _ _ _ _ _ _ us hl => match us, hl with | [_, _], _ => rfl
  have bSt : Binds K fdSt ["_law_source_here", "_law_room", "_law_deep", "_law_loops", "_law_blocks"] [] := FSt.bindsN fun _ _ _ _ _ _ us hl => match us, hl with | [_, _, _, _, _], _ => rfl
  have bOut : Binds K fdOut ["_law_way"] [] := FOut.bindsN fun _ _ _ _ _ _ us hl => match us, hl with | [_], _ => rfl
  have bOS : Binds K fdOS ["_law_some"] [] := FOS.bindsN fun _ _ _ _ _ _ us hl => match us, hl with | [_], _ => rfl
  have bBy : Binds K fdBy ["_law_statement_here", "_law_some"] [] := FBy.bindsN fun _ _ _ _ _ _ us hl => match us, hl with | [_, _], _ => rfl
  have bDR : Binds K fdDR [] [] := FDR.bindsN fun _ _ _ _ _ _ us hl => match us, hl with | [], _ => rfl
  have bLaw : Binds K fdLaw ["_law_script"] [] := FLaw.bindsN fun _ _ _ _ _ _ us hl => match us, hl with | [_], _ => rfl
  have bLen : Binds K fdLen ["self"] [] := FLen.bindsN fun _ _ _ _ _ _ us hl => match us, hl with | [_], _ => rfl
  have bCheckN : Binds K fdCheckN ["self", "number"] [] := FCheckN.bindsN fun _ _ _ _ _ _ us hl => match us, hl with | [_, _], _ => rfl
  have bKind : Binds K fdKind ["self", "number"] [] := FKind.bindsN fun _ _ _ _ _ _ us hl => match us, hl with | [_, _], _ => rfl
  have bPts : Binds K fdPts ["self", "number"] [] := FPts.bindsN fun _ _ _ _ _ _ us hl => match us, hl with | [_, _], _ => rfl
  have bGet : Binds K fdGet ["self", "number"] [] := FGet.bindsN fun _ _ _ _ _ _ us hl => match us, hl with | [_, _], _ => rfl
  have bCheck : Binds K fdCheck ["self", "value", "number", "deep", "loops", "blocks"] [] := FCheck.bindsN fun _ _ _ _ _ _ us hl => match us, hl with | [_, _, _, _, _, _], _ => rfl
  have bKeepC : Binds K fdKeepC ["self", "statement", "parent"] [] := FKeepC.bindsN fun _ _ _ _ _ _ us hl => match us, hl with | [_, _, _], _ => rfl
  have bInit : Binds K fdInit ["self", "statement"] [] := FInit.bindsN fun _ _ _ _ _ _ us hl => match us, hl with | [_, _], _ => rfl
  refine ⟨fdLaw, fun s v => FunD.bindsA (ps := ["_law_script"]) FLaw (fun _ _ _ _ _ _ us hl => match us, hl with | [_], _ => rfl) s [v] rfl, fun base _ _ => ?_⟩
  have cInt := Cal.mk (P := P) (w := w) (base := base) (He.glo_ok X G (d.fact 36 (f := .glo "is_integer") rfl)) FInt.kp bInt (ok_int FInt Tx)
  have cBet := Cal.mk (P := P) (w := w) (base := base) (He.glo_ok X G (d.fact 37 (f := .glo "is_between") rfl)) FBet.kp bBet (ok_bet FBet cInt)
  have cName := Cal.mk (P := P) (w := w) (base := base) (He.glo_ok X G (d.fact 50 (f := .glo "is_name") rfl)) FName.kp bName (ok_name FName Tx TS)
  have cStm := Cal.mk (P := P) (w := w) (base := base) (He.glo_ok X G (d.fact 51 (f := .glo "is_statement") rfl)) FStm.kp bStm (ok_stm FStm Tx TS cName cBet)
  have cParts := Cal.mk (P := P) (w := w) (base := base) (He.glo_ok X G (d.fact 52 (f := .glo "parts_in") rfl)) FParts.kp bParts (ok_parts FParts Tx TS)
  have cComes := Cal.mk (P := P) (w := w) (base := base) (He.glo_ok X G (d.fact 38 (f := .glo "comes_first") rfl)) FComes.kp bComes (ok_comes FComes Tx)
  have cKeep := Cal.mk (P := P) (w := w) (base := base) (He.glo_ok X G (d.fact 39 (f := .glo "keep_first") rfl)) FKeep.kp bKeep (ok_keep FKeep Tx cComes)
  have cFirst := Cal.mk (P := P) (w := w) (base := base) (He.glo_ok X G (d.fact 40 (f := .glo "first_shortest") rfl)) FFirst.kp bFirst (ok_first FFirst Tx cComes)
  have cLeaf := Cal.mk (P := P) (w := w) (base := base) (He.glo_ok X G (d.fact 41 (f := .glo "left_by_leaf") rfl)) FLeaf.kp bLeaf (ok_leaf FLeaf Tx)
  have cIf := Cal.mk (P := P) (w := w) (base := base) (He.glo_ok X G (d.fact 42 (f := .glo "left_by_if") rfl)) FIf.kp bIf (ok_if FIf Tx cKeep)
  have cWh := Cal.mk (P := P) (w := w) (base := base) (He.glo_ok X G (d.fact 43 (f := .glo "left_by_while") rfl)) FWh.kp bWh (ok_wh FWh Tx)
  have cSeq := Cal.mk (P := P) (w := w) (base := base) (He.glo_ok X G (d.fact 44 (f := .glo "left_by_seq") rfl)) FSeq.kp bSeq (ok_seq FSeq Tx cKeep)
  have cTry := Cal.mk (P := P) (w := w) (base := base) (He.glo_ok X G (d.fact 45 (f := .glo "left_by_try") rfl)) FTry.kp bTry (ok_try FTry Tx cKeep)
  have cFin := Cal.mk (P := P) (w := w) (base := base) (He.glo_ok X G (d.fact 46 (f := .glo "left_by_final") rfl)) FFin.kp bFin (ok_fin FFin Tx cKeep cFirst)
  have cCheckN := CalM.mk (P := P) (w := w) (mg := mg) (base := base) (He.meth_ok (d.fact 27 (f := .meth "Code" "check_number") rfl)) bCheckN (ok_checkN FCheckN Tx TC cBet)
  have cKind := CalM.mk (P := P) (w := w) (mg := mg) (base := base) (He.meth_ok (d.fact 28 (f := .meth "Code" "kind") rfl)) bKind (ok_kind FKind TC cCheckN)
  have cPts := CalM.mk (P := P) (w := w) (mg := mg) (base := base) (He.meth_ok (d.fact 29 (f := .meth "Code" "parts") rfl)) bPts (ok_pts FPts Tx TC cCheckN)
  have cCheck := CalM.mk (P := P) (w := w) (mg := mg) (base := base) (He.meth_ok (d.fact 25 (f := .meth "Code" "check") rfl)) bCheck (ok_check FCheck TS cStm)
  have cKeepC := CalM.mk (P := P) (w := w) (mg := mg) (base := base) (He.meth_ok (d.fact 26 (f := .meth "Code" "keep") rfl)) bKeepC (ok_keepC FKeepC Tx TS TC)
  have gLen : FnOk P w K mg base CX0 1 _ fdLen ["self"] (spLen K (He.ga K "Code")) := ok_len FLen Tx TC
  have gGet : FnOk P w K mg base CX0 4 _ fdGet ["self", "number"] (spGet K (He.ga K "Code")) := ok_get FGet TC cCheckN
  have gInit : FnOk P w K mg base CX0 5 _ fdInit ["self", "statement"] (spInit K (He.ga K "Code")) := ok_init FInit Tx TC cCheck cKeepC cParts
  have cShort := Cal.mk (P := P) (w := w) (base := base) (He.glo_ok X G (d.fact 47 (f := .glo "shortest_answers") rfl)) FShort.kp bShort (ok_short FShort Tx TC m1 bLen gLen cIf cWh cSeq cTry cFin cLeaf)
  have cAll := Cal.mk (P := P) (w := w) (base := base) (He.glo_ok X G (d.fact 48 (f := .glo "all_ways") rfl)) FAll.kp bAll (ok_all FAll Tx cShort)
  have cWays := Cal.mk (P := P) (w := w) (base := base) (He.glo_ok X G (d.fact 49 (f := .glo "ways") rfl)) FWays.kp bWays (ok_ways FWays TC cAll cKind)
  have cCell := Cal.mk (P := P) (w := w) (base := base) (He.glo_ok X G (d.fact 53 (f := .glo "_law_cell_at") rfl)) FCell.kp bCell (ok_cell FCell Tx)
  have cSrc := Cal.mk (P := P) (w := w) (base := base) (He.glo_ok X G (d.fact 54 (f := .glo "_law_source") rfl)) FSrc.kp bSrc (ok_src FSrc Tx)
  have cDraw := Cal.mk (P := P) (w := w) (base := base) (He.glo_ok X G (d.fact 55 (f := .glo "_law_draw") rfl)) FDraw.kp bDraw (ok_draw FDraw Tx)
  have cCho := Cal.mk (P := P) (w := w) (base := base) (He.glo_ok X G (d.fact 56 (f := .glo "_law_choice") rfl)) FCho.kp bCho (ok_cho FCho Tx cDraw)
  have cNm := Cal.mk (P := P) (w := w) (base := base) (He.glo_ok X G (d.fact 57 (f := .glo "_law_name") rfl)) FNm.kp bNm (ok_nm FNm cCho)
  have cLf := Cal.mk (P := P) (w := w) (base := base) (He.glo_ok X G (d.fact 58 (f := .glo "_law_leaf") rfl)) FLf.kp bLf (ok_lf FLf Tx cDraw cNm)
  have cSt := Cal.mk (P := P) (w := w) (base := base) (He.glo_ok X G (d.fact 59 (f := .glo "_law_statement") rfl)) FSt.kp bSt (ok_st FSt (He.glo_ok X G (d.fact 59 (f := .glo "_law_statement") rfl)) bSt Tx cDraw cNm cLf 100)
  have cOut := Cal.mk (P := P) (w := w) (base := base) (He.glo_ok X G (d.fact 60 (f := .glo "_law_outside") rfl)) FOut.kp bOut (ok_out FOut Tx)
  have cOS := Cal.mk (P := P) (w := w) (base := base) (He.glo_ok X G (d.fact 61 (f := .glo "_law_of_seq") rfl)) FOS.kp bOS (ok_os FOS Tx)
  have cBy := Cal.mk (P := P) (w := w) (base := base) (He.glo_ok X G (d.fact 62 (f := .glo "_law_by_parts") rfl)) FBy.kp bBy (ok_by FBy Tx cOut cOS)
  have cDR := Cal.mk (P := P) (w := w) (base := base) (He.glo_ok X G (d.fact 63 (f := .glo "_law_deep_right") rfl)) FDR.kp bDR (ok_dr FDR Tx TC MC bInit gInit cWays cBy m2 bGet gGet)
  exact ok_law FLaw Tx TC MC bInit gInit cWays cBy m2 bGet gGet m1 bLen gLen cCell cSrc cSt cCho cDraw cPts cDR
end
end L2.K11
open PySem PySem.W PySem.Calls PyProof.Rows
theorem PySem.Challenge.cw_finallycopies_k11_whole_ways_by_the_part_holds : PySem.Challenge.rw_finallycopies_k11_whole_ways_by_the_part.Holds := by
  w_on; o_law
  refine HandSHeadRun.head_any (r := OpenLaw.row PySem.Challenge.rw_finallycopies_k11_whole_ways_by_the_part) (q := view (OpenLaw.row PySem.Challenge.rw_finallycopies_k11_whole_ways_by_the_part).prog [49]) (H := L2.K11.hk) (ob := L2.K11.ob) (M := 4000) (loose := L2.K11.loose) (d := HandSHeadRun.topDef (OpenLaw.row PySem.Challenge.rw_finallycopies_k11_whole_ways_by_the_part).prog 49) (kwd := []) L2.K11.ob_eq
    (by kernel_rfl) (fun s => by kernel_rfl) L2.K11.run (by kernel_rfl) (by kernel_rfl) (by kernel_rfl) (by rfl) (by first | assumption | decide +kernel) (by decide +kernel) ⟨rfl, rfl, rfl, rfl, rfl, by decide +kernel⟩ ?hw ?hc
  case hw => w_witness2
  case hc =>
    refine L2.walk_ofE (l := PySem.Challenge.rw_finallycopies_k11_whole_ways_by_the_part) (n := 63) (k := 106) (x := "_law_script") (CX := L2.CX0) rfl (by decide) (by kernel_rfl) ⟨rfl, by decide, by decide⟩ ?F (fun _ _ _ _ z => z)
    intro w mg fa h Y G hmg0
    obtain ⟨K, KX, c⟩ := Y
    have hmg : mg ("law" : PySem.Str) = some (.ref fa) := by
      have e : (HandSHeadRun.topDef (OpenLaw.row PySem.Challenge.rw_finallycopies_k11_whole_ways_by_the_part).prog 49).name = ("law" : PySem.Str) := by kernel_rfl
      rw [← e]
      exact hmg0
    obtain ⟨fd, hb, hF⟩ := L2.K11.facts (P := (PySem.Challenge.rw_finallycopies_k11_whole_ways_by_the_part).prog) (w := w) KX G hmg c
    exact ⟨K, fd, L2.K11.spLaw K, KX, hb, fun H a ns hl _ hS => ⟨a, ns, rfl, hS, hl, fun _ => rfl⟩, hF⟩
