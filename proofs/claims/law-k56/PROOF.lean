import PyProof.Rows.All
import Wide.All
import OpenK.AllK
import Wide.FinOn
import HandS.ForMost
import HandS.Style
import HandS.IsInst
import HandS.TupAny
import HandS.TupMul
import HandS.Zip
import HandS.Conv
import PyProof.DictStraight
import PyProof.ReprRoads
import PyProof.ReprLen
import PyProof.StrLawsRepr
import PySem.Challenge.RW_roadsettings_k56_begins_turned_late
set_option Elab.async false
set_option linter.all false
set_option maxRecDepth 100000
set_option maxHeartbeats 4000000
/-! RS: the base of this seat's proofs: standing defs, calls by a bundle, readings step by step. -/
namespace RS
open PySem PySem.Spec L2
open PyProof.Rows (envOfC)

/-! ### defs that stand, and what they keep -/
/-- the module's name x holds the def st -/
def Std (K : PySem.W.Frag) (mg : Str → Option Value) (x : Str) (st : Stmt) : Prop := ∃ f fd, Fun K x x st f fd ∧ mg x = some (.ref f)
/-- the module's name x holds a def that keeps sp -/
def Cal (P : Program) (w : World) (K : PySem.W.Frag) (mg : Str → Option Value) (base : Heap) (k : Nat) (x : Str) (ps : List Str) (sp : Sp) : Prop :=
  ∃ f fd, FnOk P w K mg base CX0 k f fd ps sp ∧ mg x = some (.ref f) ∧ PySem.W.keepIn K (.ref f) = true ∧ Binds K fd ps [] ∧ ∃ oc od osl, K.lookup f = some ⟨oc, od, .func fd, osl⟩
section
variable {P : Program} {w : World} {K : PySem.W.Frag} {mg : Str → Option Value} {base : Heap} {k : Nat} {x : Str} {ps : List Str} {sp : Sp}
theorem Cal.mono {j : Nat} (c : Cal P w K mg base j x ps sp) (h : j ≤ k) : Cal P w K mg base k x ps sp := by
  obtain ⟨f, fd, a, b⟩ := c
  exact ⟨f, fd, a.mono h, b⟩
theorem Cal.imp {sp' : Sp} (c : Cal P w K mg base k x ps sp) (h : ∀ vs H Q E, sp' vs H Q E → sp vs H Q E) : Cal P w K mg base k x ps sp' := by
  obtain ⟨f, fd, a, b⟩ := c
  exact ⟨f, fd, a.imp h, b⟩
theorem cal_mk {N : List Str} {st : Stmt} (hS : Std K mg x st) (S : FnScope N ps (defScope st))
    (hb : ∀ (kV doc pm : Value) (an : Option Addr) (cdv ct : Value) (us : List Value), us.length = ps.length → bindArgs (PySem.W.fnOf x x (defArgs st) (defBody st) (defScope st) .none kV doc pm an cdv ct) ⟨us, []⟩ = pure (ps.zip us))
    (len : ∀ vs H Q E, sp vs H Q E → vs.length = ps.length)
    (hbody : ∀ (f : Addr) (cdv : Value) (A : Around) (outer : List Env) (s : Shared) (H : Hp) (vs : List V) (Q : VK) (E : XK), Room k (A.deeper (envOfC x (defScope st) s.heap.objs.size f cdv)) → sp vs H Q E →
      ∃ t, PSs (cxOf CX0 P w K mg base N x (defScope st) f cdv A outer s H E).nox (defBody st) t ∧ t ⟨fun _ H' => Q .non H', Q, fun _ _ => False, fun _ _ => False⟩ (start N vs) H) : Cal P w K mg base (k + 1) x ps sp := by
  obtain ⟨f, fd, F, hm⟩ := hS
  obtain ⟨oc, od, _, _, _, _, _, _, osl, _, lk, _⟩ := F.ex
  exact ⟨f, fd, F.ok S len (fun cdv A outer s H vs Q E hr h => hbody f cdv A outer s H vs Q E hr h), hm, F.kp, F.binds hb, oc, od, osl, lk⟩
/-- a promise that nothing is asked of -/
theorem cal_never {st : Stmt} (hS : Std K mg x st) (hb : ∀ (kV doc pm : Value) (an : Option Addr) (cdv ct : Value) (us : List Value), us.length = ps.length → bindArgs (PySem.W.fnOf x x (defArgs st) (defBody st) (defScope st) .none kV doc pm an cdv ct) ⟨us, []⟩ = pure (ps.zip us))
    (no : ∀ vs H Q E, ¬ sp vs H Q E) : Cal P w K mg base k x ps sp := by
  obtain ⟨f, fd, F, hm⟩ := hS
  obtain ⟨oc, od, _, _, _, _, _, _, osl, _, lk, _⟩ := F.ex
  exact ⟨f, fd, ⟨fun vs H Q E h => absurd h (no vs H Q E), fun A outer s H args us vs Q E _ _ _ _ h => absurd h (no vs H Q E)⟩, hm, F.kp, F.binds hb, oc, od, osl, lk⟩
/-- two calls of one def -/
theorem Cal.one {j : Nat} {sp' : Sp} {f g : Addr} {fd gd : FuncData} {a1 a2 a3 b1 b2 b3} (h1 : mg x = some (.ref f)) (h2 : mg x = some (.ref g)) (l1 : K.lookup f = some ⟨a1, a2, .func fd, a3⟩) (l2 : K.lookup g = some ⟨b1, b2, .func gd, b3⟩) : f = g ∧ fd = gd := by
  rw [h1] at h2
  cases h2
  rw [l1] at l2
  cases l2
  exact ⟨rfl, rfl⟩
/-- one of several promises -/
theorem Cal.any {N : Nat} {sps : Nat → Sp} (c0 : Cal P w K mg base k x ps sp) (c : ∀ e, e < N → Cal P w K mg base k x ps (sps e)) : Cal P w K mg base k x ps (fun vs H Q E => ∃ e, e < N ∧ sps e vs H Q E) := by
  obtain ⟨f, fd, F, hm, hk, hb, oc, od, osl, lk⟩ := c0
  refine ⟨f, fd, ⟨fun vs H Q E h => ?_, fun A outer s H args us vs Q E hr he hbd hv h => ?_⟩, hm, hk, hb, oc, od, osl, lk⟩
  · obtain ⟨e, he, h⟩ := h
    obtain ⟨g, gd, G, hm2, _, _, _, _, _, lk2⟩ := c e he
    exact G.len vs H Q E h
  · obtain ⟨e, hlt, h⟩ := h
    obtain ⟨g, gd, G, hm2, _, _, _, _, _, lk2⟩ := c e hlt
    obtain ⟨rfl, rfl⟩ := Cal.one (j := k) (sp' := sp) hm hm2 lk lk2
    exact G.run A outer s H args us vs Q E hr he hbd hv h
/-- the law itself, for the row's end -/
theorem Cal.fin {l : PySem.W.OpenLaw} {h : Heap} {w : World} {st : Stmt} {fa : Addr} {f : Addr} {y : Str} {oc : Value} {od an : Option Addr} {osl : Array (Option Value)} {kV doc pm cdv ct : Value} (X : K.In h) (G : h.Ns mainGlobals mg) (hfa : mg x = some (.ref fa)) (a : PySem.W.nsIn K mainGlobals x = some (some (.ref f)))
    (lk : K.lookup f = some ⟨oc, od, .func (PySem.W.fnOf x x (defArgs st) (defBody st) (defScope st) .none kV doc pm an cdv ct), osl⟩)
    (hb : ∀ v, bindArgs (PySem.W.fnOf x x (defArgs st) (defBody st) (defScope st) .none kV doc pm an cdv ct) ⟨[v], []⟩ = pure [(y, v)])
    (C : ∀ base : Heap, K.In base → base.Ns mainGlobals mg → Cal l.prog w K mg base k x [y] sp) :
    ∃ fd : FuncData, (∀ (s : Shared) (v : Value), BindsTo s fd ⟨[v], []⟩ [(y, v)]) ∧ ∀ base : Heap, K.In base → base.Ns mainGlobals mg → FnOk l.prog w K mg base CX0 k fa fd [y] sp := by
  have e := hfa.symm.trans (PySem.W.mg_of X G a)
  cases e
  refine ⟨_, fun s v => .of_eq (hb v), fun base B1 B2 => ?_⟩
  obtain ⟨g, gd, F, hm2, _, _, _, _, _, lk2⟩ := C base B1 B2
  obtain ⟨rfl, rfl⟩ := Cal.one (j := k) (sp' := sp) hfa hm2 lk lk2
  exact F
theorem std_mk {h : Heap} {st : Stmt} {f : Addr} {oc : Value} {od an : Option Addr} {osl : Array (Option Value)} {kV doc pm cdv ct : Value} (X : K.In h) (G : h.Ns mainGlobals mg) (a : PySem.W.nsIn K mainGlobals x = some (some (.ref f)))
    (l : K.lookup f = some ⟨oc, od, .func (PySem.W.fnOf x x (defArgs st) (defBody st) (defScope st) .none kV doc pm an cdv ct), osl⟩) (c : PySem.W.codeIn K cdv x = true) (k : PySem.W.keepIn K (.ref f) = true) : Std K mg x st :=
  ⟨f, _, fun_mk l c k, PySem.W.mg_of X G a⟩
end
section
variable {X : Cx} {k : Nat} {x : Str} {ps : List Str} {sp : Sp} {e : Expr} {es : List Expr} {t : TA} {p pos : Pos}
theorem pe_cal (C : Cal X.prog X.w X.K X.mg X.base k x ps sp) (hr : Room k X.A) (hg : Gl X x) (ha : PA X (e :: es) t) (hdb : (x == ("__debug__" : Str)) = false := by decide)
    (he : starEach (e :: es) X.env = (false, eval e X.env) :: starEach es X.env := by rfl) (hpl : (backTo pos (starEach es X.env)).any (·.1) = false := by rfl) :
    PE X (.Call (.Name x p) (e :: es) [] pos) (tCall sp [] E0 t) := by
  obtain ⟨f, fd, F, hm, hk, hb, _⟩ := C
  exact pe_call F hr hg hm hk hb .nil pass0 ha hdb he hpl
end

/-! ### promises by their number of arguments -/
def Sp1 (f : V → Hp → VK → Prop) : Sp := fun vs H Q _ => ∃ a, vs = [a] ∧ f a H Q
def Sp2 (f : V → V → Hp → VK → Prop) : Sp := fun vs H Q _ => ∃ a b, vs = [a, b] ∧ f a b H Q
def Sp3 (f : V → V → V → Hp → VK → Prop) : Sp := fun vs H Q _ => ∃ a b c, vs = [a, b, c] ∧ f a b c H Q
def Sp4 (f : V → V → V → V → Hp → VK → Prop) : Sp := fun vs H Q _ => ∃ a b c d, vs = [a, b, c, d] ∧ f a b c d H Q
def Sp5 (f : V → V → V → V → V → Hp → VK → Prop) : Sp := fun vs H Q _ => ∃ a b c d e, vs = [a, b, c, d, e] ∧ f a b c d e H Q
def Sp6 (f : V → V → V → V → V → V → Hp → VK → Prop) : Sp := fun vs H Q _ => ∃ a b c d e g, vs = [a, b, c, d, e, g] ∧ f a b c d e g H Q
def Sp7 (f : V → V → V → V → V → V → V → Hp → VK → Prop) : Sp := fun vs H Q _ => ∃ a b c d e g i, vs = [a, b, c, d, e, g, i] ∧ f a b c d e g i H Q
theorem len1 {f} {vs : List V} {H : Hp} {Q : VK} {E : XK} (h : Sp1 f vs H Q E) : vs.length = 1 := by
  obtain ⟨_, rfl, _⟩ := h
  rfl
theorem len2 {f} {vs : List V} {H : Hp} {Q : VK} {E : XK} (h : Sp2 f vs H Q E) : vs.length = 2 := by
  obtain ⟨_, _, rfl, _⟩ := h
  rfl
theorem len3 {f} {vs : List V} {H : Hp} {Q : VK} {E : XK} (h : Sp3 f vs H Q E) : vs.length = 3 := by
  obtain ⟨_, _, _, rfl, _⟩ := h
  rfl
theorem len4 {f} {vs : List V} {H : Hp} {Q : VK} {E : XK} (h : Sp4 f vs H Q E) : vs.length = 4 := by
  obtain ⟨_, _, _, _, rfl, _⟩ := h
  rfl
theorem len5 {f} {vs : List V} {H : Hp} {Q : VK} {E : XK} (h : Sp5 f vs H Q E) : vs.length = 5 := by
  obtain ⟨_, _, _, _, _, rfl, _⟩ := h
  rfl
theorem len6 {f} {vs : List V} {H : Hp} {Q : VK} {E : XK} (h : Sp6 f vs H Q E) : vs.length = 6 := by
  obtain ⟨_, _, _, _, _, _, rfl, _⟩ := h
  rfl
theorem len7 {f} {vs : List V} {H : Hp} {Q : VK} {E : XK} (h : Sp7 f vs H Q E) : vs.length = 7 := by
  obtain ⟨_, _, _, _, _, _, _, rfl, _⟩ := h
  rfl

/-! ### named continuations, named rules -/
def BoolK (QB : Bool → Hp → Prop) : VK := fun x H => ∃ k, x = .bl k ∧ QB k H
def AndK (tb : TE) (σ : L2.St) (Q : VK) : VK := fun x H1 => ∃ c, x = .bl c ∧ if c = true then tb σ H1 Q else Q (.bl false) H1
def OrK (tb : TE) (σ : L2.St) (Q : VK) : VK := fun x H1 => ∃ c, x = .bl c ∧ if c = true then Q (.bl true) H1 else tb σ H1 Q
def NotK (Q : VK) : VK := fun x H1 => ∃ c, x = .bl c ∧ Q (.bl (!c)) H1
def ParK (i j : Nat) (σ : L2.St) (nx : L2.St → Hp → Prop) : List V → Hp → Prop := fun vs H1 => ∃ v w, vs = [v, w] ∧ nx ((σ.set i (some v)).set j (some w)) H1
def LstK (Q : VK) : List V → Hp → Prop := fun xs H1 => xs.length ≤ sizeLine ∧ ∀ p, H1 p = none → Q (.ref p) (upd H1 p (.lst xs))
def TupK (Q : VK) : List V → Hp → Prop := fun xs H1 => xs.length ≤ sizeLine ∧ ∀ p, H1 p = none → Q (.ref p) (upd H1 p (.tup xs))
def Rng1K (R : It → Hp → Prop) : List V → Hp → Prop := fun vs H1 => ∃ j : Int, vs = [.int j] ∧ -(2 ^ 62) ≤ j ∧ j < 2 ^ 62 ∧ R (Itr 0 j.toNat) H1
def Rng2K (R : It → Hp → Prop) : List V → Hp → Prop := fun vs H1 => ∃ i j : Int, vs = [.int i, .int j] ∧ (-(2 ^ 62) ≤ i ∧ i < 2 ^ 62 ∧ -(2 ^ 62) ≤ j ∧ j < 2 ^ 62) ∧ R (Itr i (j - i).toNat) H1
def IListK (K : PySem.W.Frag) (R : It → Hp → Prop) : VK := fun x H1 => ∃ a, x = .ref a ∧ (∃ xs, SqL K H1 a xs) ∧ R (Itl K a) H1
def ITupK (K : PySem.W.Frag) (R : It → Hp → Prop) : VK := fun x H1 => ∃ a, x = .ref a ∧ (∃ xs, SqT K H1 a xs) ∧ R (Itt K a) H1
def PartK (QO : Option Int → Hp → Prop) : VK := fun x H1 => ∃ i, x = .int i ∧ QO (some i) H1
def TyK (K : PySem.W.Frag) (f : VK) : VK := fun x H1 => tyV K "list" x H1 ∧ f x H1
/-- a new list gone through: what the comprehension is to show -/
def LcK (J : It) (g : TG) (tt : TT) (te : TE) (vs : List Nat) (σ : L2.St) (Q : VK) (H1 : Hp) : Prop := ∀ D, H1 D = none → ∃ W : Nat → Nat → Hp → Prop, (∃ m, W 0 m (upd H1 D (.lst []))) ∧ ∀ i m H, W i m H →
  (J.stop i H ∧ Q (.ref D) H) ∨ (J.go i H ∧ ∃ Nx : Hp → Prop, (∀ H', Nx H' → ∃ m', m' < m ∧ W (i + 1) m' H') ∧ ∀ x H', J.yld i H x H' → g x (wipe σ vs) H' fun σ2 H2 => wipe σ2 vs = wipe σ vs ∧ tt σ2 H2 fun b H3 =>
    if b = true then te σ2 H3 fun y H4 => ∃ acc, H4 D = some (.lst acc) ∧ acc.length < sizeLine ∧ Nx (upd H4 D (.lst (acc ++ [y]))) else Nx H3)
def GrowK (D : Addr) (Nx : Hp → Prop) : VK := fun y H4 => ∃ acc, H4 D = some (.lst acc) ∧ acc.length < sizeLine ∧ Nx (upd H4 D (.lst (acc ++ [y])))
/-- a loop: what is to be shown -/
def ForK (J : It) (g : TG) (t : TS) (nx : L2.St → Hp → Prop) (rt : VK) (σ : L2.St) (H1 : Hp) : Prop := ∃ W : Nat → Nat → L2.St → Hp → Prop, (∃ m, W 0 m σ H1) ∧ ∀ i m σ H, W i m σ H →
      (J.stop i H ∧ nx σ H) ∨ (J.go i H ∧ ∃ N : L2.St → Hp → Prop, (∀ σ' H', N σ' H' → ∃ m', m' < m ∧ W (i + 1) m' σ' H') ∧ ∀ x H', J.yld i H x H' → g x σ H' fun σ2 H2 => t ⟨N, rt, nx, N⟩ σ2 H2)
def rLenQ (K : PySem.W.Frag) : List V → Hp → VK → Prop := fun xs H Q => ∃ p ys, xs = [.ref p] ∧ (SqL K H p ys ∨ SqT K H p ys) ∧ Q (.int ys.length) H
def rLenZ : List V → Hp → VK → Prop := fun xs H Q => ∃ z, xs = [.str z] ∧ z.length ≤ sizeLine ∧ Q (.int z.length) H
def rAbs : List V → Hp → VK → Prop := fun xs H Q => ∃ i, xs = [.int i] ∧ Q (.int (if i < 0 then -i else i)) H
def rMaxQ : List V → Hp → VK → Prop := fun xs H Q => ∃ i j, xs = [.int i, .int j] ∧ Q (.int (if j > i then j else i)) H
def rMinQ : List V → Hp → VK → Prop := fun xs H Q => ∃ i j, xs = [.int i, .int j] ∧ Q (.int (if j < i then j else i)) H
def rIntQ : List V → Hp → VK → Prop := fun xs H Q => (∃ i, xs = [.int i] ∧ Q (.int i) H) ∨ ∃ k, xs = [.bl k] ∧ Q (.int (if k then 1 else 0)) H
def rStrQ : List V → Hp → VK → Prop := fun xs H Q => ∃ i, xs = [.int i] ∧ i.natAbs.log2 < 1920 ∧ Q (.str (toString i)) H
def rDivmod : List V → Hp → VK → Prop := fun xs H Q => ∃ i j, xs = [.int i, .int j] ∧ CDiv i j ∧ ∀ p, H p = none → Q (.ref p) (upd H p (.tup [.int (i / j), .int (i % j)]))
def rListQ (K : PySem.W.Frag) : List V → Hp → VK → Prop := fun xs H Q => ∃ p ys, xs = [.ref p] ∧ (SqL K H p ys ∨ SqT K H p ys) ∧ ∀ l, H l = none → Q (.ref l) (upd H l (.lst ys))
def rTupleQ (K : PySem.W.Frag) : List V → Hp → VK → Prop := fun xs H Q => ∃ p ys, xs = [.ref p] ∧ ((SqL K H p ys ∧ ∀ l, H l = none → Q (.ref l) (upd H l (.tup ys))) ∨ (SqT K H p ys ∧ Q (.ref p) H))
def rAddZ : R2 := fun x y H Q => ∃ i j, x = .str i ∧ y = .str j ∧ i.length + j.length ≤ sizeLine ∧ Q (.str (i ++ j)) H
def rIsNQ : R2 := fun x y H Q => y = .non ∧ Q (.bl (decide (x = .non))) H
def rNotNQ : R2 := fun x y H Q => y = .non ∧ Q (.bl (!decide (x = .non))) H
def rInZ : R2 := fun x y H Q => ∃ (c : Nat) (z : Str), x = .str ⟨#[c]⟩ ∧ y = .str z ∧ Q (.bl (decide (c ∈ z.cps.toList))) H
def rJoin (K : PySem.W.Frag) : V → List V → Hp → VK → Prop := fun x xs H Q => ∃ a p, ∃ ys : List Str, x = .str a ∧ xs = [.ref p] ∧ (SqL K H p (ys.map V.str) ∨ SqT K H p (ys.map V.str)) ∧ (ys.map (·.length)).sum + ys.length * a.length ≤ 16777216 ∧ Q (.str (Txt.join a ys)) H
def StrK (f : VK) : VK := fun x H1 => (∃ a, x = .str a) ∧ f x H1
def Par3K (i j l : Nat) (σ : L2.St) (nx : L2.St → Hp → Prop) : List V → Hp → Prop := fun vs H1 => ∃ u v w, vs = [u, v, w] ∧ nx (((σ.set i (some u)).set j (some v)).set l (some w)) H1
def GTupK (K : PySem.W.Frag) (n : Nat) (t : TGs) (σ : L2.St) (nx : L2.St → Hp → Prop) : VK := fun v H => ∃ a xs, v = .ref a ∧ SqT K H a xs ∧ xs.length = n ∧ t xs σ H nx
section
variable {X : Cx}
theorem pe_joinQ {o e : Expr} {to te : TE} {apos pos : Pos} (ho : PE X o to) (he : PE X e te) (hs : starEach [e] X.env = [(false, eval e X.env)] := by rfl) (hbase : attributeBase o "join" X.env (eval o X.env) = eval o X.env := by rfl) (hline : (apos.endLine == pos.line) = true := by rfl) :
    PE X (.Call (.Attribute o "join" apos) [e] [] pos) (tM1 (rJoin X.K) to te) := pe_join ho he hs hbase hline
theorem call_lenQ : CallR X (.builtin "len") (rLenQ X.K) := call_len_seq
theorem call_lenZ : CallR X (.builtin "len") rLenZ := call_len_str
theorem call_absQ : CallR X (.builtin "abs") rAbs := call_abs
theorem call_maxQ (hc : X.calm = true) : CallR X (.builtin "max") rMaxQ := call_max2 hc
theorem call_minQ (hc : X.calm = true) : CallR X (.builtin "min") rMinQ := call_min2 hc
theorem call_intQ : CallR X (.type "int") rIntQ := call_int1
theorem call_strQ : CallR X (.type "str") rStrQ := call_str_int
theorem call_divmodQ : CallR X (.builtin "divmod") rDivmod := call_divmod
theorem call_listQ : CallR X (.type "list") (rListQ X.K) := call_list_of
theorem call_tupleQ : CallR X (.type "tuple") (rTupleQ X.K) := call_tuple_of
theorem op_addZ : OpR X (binaryOp .Add) rAddZ := op_add_str
theorem op_isNQ : OpR X (compareOp .Is) rIsNQ := op_isN
theorem op_notNQ : OpR X (compareOp .IsNot) rNotNQ := op_notN
theorem op_inZ : OpR X (compareOp .In) rInZ := op_in_sign
end
/-! ### readings, a step at a time -/
section
variable {σ : L2.St} {H : Hp} {Q : VK} {QB : Bool → Hp → Prop} {QL : List V → Hp → Prop} {QO : Option Int → Hp → Prop} {QS : L2.St → Hp → Prop} {v x y : V} {i : Nat} {ta tb te tc : TE} {t u : TS} {tt tu : TT} {g : TG} {tr : TA} {r : R2} {nx bk ct : L2.St → Hp → Prop} {rt : VK} {K : PySem.W.Frag} {a p : Addr} {xs : List V} {n m : Int} {b : Bool} {E : XK}
theorem r_seq (h : t ⟨u ⟨nx, rt, bk, ct⟩, rt, bk, ct⟩ σ H) : tSeq t u ⟨nx, rt, bk, ct⟩ σ H := h
theorem r_next (h : nx σ H) : tNext ⟨nx, rt, bk, ct⟩ σ H := h
theorem r_asg (h : te σ H fun x H1 => g x σ H1 nx) : tAsg te g ⟨nx, rt, bk, ct⟩ σ H := h
theorem r_name (h : QS (σ.set i (some v)) H) : gName i v σ H QS := h
theorem r_ret (h : te σ H rt) : tRet te ⟨nx, rt, bk, ct⟩ σ H := h
theorem r_drop (h : te σ H fun _ H1 => nx σ H1) : tDrop te ⟨nx, rt, bk, ct⟩ σ H := h
theorem r_par {i j : Nat} (h : tr σ H (ParK i j σ nx)) : tPar i j tr ⟨nx, rt, bk, ct⟩ σ H := h
theorem r_par2 {i j : Nat} {w : V} (h : nx ((σ.set i (some v)).set j (some w)) H) : ParK i j σ nx [v, w] H := ⟨v, w, rfl, h⟩
theorem r_var (e : σ[i]? = some (some v)) (h : Q v H) : tVar i σ H Q := ⟨v, e, h⟩
theorem r_c (h : Q v H) : tC v σ H Q := h
theorem r_op (h : ta σ H fun x H1 => tb σ H1 fun y H2 => r x y H2 Q) : tOp r ta tb σ H Q := h
theorem r_un {r : V → Hp → VK → Prop} (h : ta σ H fun x H1 => r x H1 Q) : tUn r ta σ H Q := h
theorem r_I0 {f : Int → Int → V} (h : Q (f n m) H) : rI0 f (.int n) (.int m) H Q := ⟨n, m, rfl, rfl, h⟩
theorem r_I {f : Int → Int → V} {C : Int → Int → Prop} (c : C n m) (h : Q (f n m) H) : rI C f (.int n) (.int m) H Q := ⟨n, m, rfl, rfl, c, h⟩
theorem r_mod (c : 0 < m) (h : Q (.int (n % m)) H) : rI (fun _ j => 0 < j) (fun i j => .int (i % j)) (.int n) (.int m) H Q := ⟨n, m, rfl, rfl, c, h⟩
theorem r_fdiv (c : 0 < m) (d : m < 1073741824) (h : Q (.int (n / m)) H) : rI CDiv (fun i j => .int (i / j)) (.int n) (.int m) H Q := ⟨n, m, rfl, rfl, ⟨c, d⟩, h⟩
theorem r_mul (c : (-(2 ^ 64) < n ∧ n < 2 ^ 64) ∨ (-(2 ^ 64) < m ∧ m < 2 ^ 64)) (h : Q (.int (n * m)) H) : rI CMul (fun i j => .int (i * j)) (.int n) (.int m) H Q := ⟨n, m, rfl, rfl, c, h⟩
theorem r_pow (c : 0 ≤ m ∧ m ≤ 1000000 ∧ n.natAbs < 2 ^ 64) (h : Q (.int (n ^ m.toNat)) H) : rI CPow (fun i j => .int (i ^ j.toNat)) (.int n) (.int m) H Q := ⟨n, m, rfl, rfl, c, h⟩
theorem r_U {f : Int → V} (h : Q (f n) H) : rU f (.int n) H Q := ⟨n, rfl, h⟩
theorem r_eqI (h : Q (.bl (decide (n = m))) H) : rEq (.int n) (.int m) H Q := ⟨rfl, by rw [show decide (V.int n = V.int m) = decide (n = m) from by simp]; exact h⟩
theorem r_neI (h : Q (.bl (!decide (n = m))) H) : rNe (.int n) (.int m) H Q := ⟨rfl, by rw [show decide (V.int n = V.int m) = decide (n = m) from by simp]; exact h⟩
theorem r_eqS {n m : Str} (h : Q (.bl (decide (n = m))) H) : rEq (.str n) (.str m) H Q := ⟨rfl, by rw [show decide (V.str n = V.str m) = decide (n = m) from by simp]; exact h⟩
theorem r_neS {n m : Str} (h : Q (.bl (!decide (n = m))) H) : rNe (.str n) (.str m) H Q := ⟨rfl, by rw [show decide (V.str n = V.str m) = decide (n = m) from by simp]; exact h⟩
theorem r_eqB {n m : Bool} (h : Q (.bl (decide (n = m))) H) : rEq (.bl n) (.bl m) H Q := ⟨rfl, by rw [show decide (V.bl n = V.bl m) = decide (n = m) from by simp]; exact h⟩
theorem r_neB {n m : Bool} (h : Q (.bl (!decide (n = m))) H) : rNe (.bl n) (.bl m) H Q := ⟨rfl, by rw [show decide (V.bl n = V.bl m) = decide (n = m) from by simp]; exact h⟩
theorem r_test (h : te σ H (BoolK QB)) : tTest te σ H QB := h
theorem r_tB (h : te σ H (BoolK QB)) : tB te σ H QB := h
theorem r_k (h : QB b H) : BoolK QB (.bl b) H := ⟨b, rfl, h⟩
theorem r_if (h : tt σ H fun b H1 => if b = true then t ⟨nx, rt, bk, ct⟩ σ H1 else u ⟨nx, rt, bk, ct⟩ σ H1) : tIfS tt t u ⟨nx, rt, bk, ct⟩ σ H := h
theorem r_ifE (h : tt σ H fun b H1 => if b = true then ta σ H1 Q else tb σ H1 Q) : tIf tt ta tb σ H Q := h
theorem r_and (h : tt σ H fun b H1 => if b = true then tu σ H1 QB else QB false H1) : tAnd tt tu σ H QB := h
theorem r_or (h : tt σ H fun b H1 => if b = true then QB true H1 else tu σ H1 QB) : tOr tt tu σ H QB := h
theorem r_not (h : tt σ H fun b H1 => QB (!b) H1) : tNot tt σ H QB := h
theorem r_andV (h : ta σ H (AndK tb σ Q)) : tAndV ta tb σ H Q := h
theorem r_orV (h : ta σ H (OrK tb σ Q)) : tOrV ta tb σ H Q := h
theorem r_notV (h : ta σ H (NotK Q)) : tNotV ta σ H Q := h
theorem r_andE (h : if b = true then tb σ H Q else Q (.bl false) H) : AndK tb σ Q (.bl b) H := ⟨b, rfl, h⟩
theorem r_orE (h : if b = true then Q (.bl true) H else tb σ H Q) : OrK tb σ Q (.bl b) H := ⟨b, rfl, h⟩
theorem r_notE (h : Q (.bl (!b)) H) : NotK Q (.bl b) H := ⟨b, rfl, h⟩
theorem r_nil (h : QL [] H) : tNil σ H QL := h
theorem r_cons (h : te σ H fun x H1 => tr σ H1 fun xs H2 => QL (x :: xs) H2) : tCons te tr σ H QL := h
theorem r_lst (h : tr σ H (LstK Q)) : tLst tr σ H Q := h
theorem r_tup (h : tr σ H (TupK Q)) : tTup tr σ H Q := h
theorem r_lstE (z : xs.length ≤ 1000) (h : ∀ p, H p = none → Q (.ref p) (upd H p (.lst xs))) : LstK Q xs H := ⟨Nat.le_of_lt (small1000 z), h⟩
theorem r_tupE (z : xs.length ≤ 1000) (h : ∀ p, H p = none → Q (.ref p) (upd H p (.tup xs))) : TupK Q xs H := ⟨Nat.le_of_lt (small1000 z), h⟩
theorem r_ixL {v : V} (h : SqL K H p xs) (e : atI xs n = some v) (q : Q v H) : rIxL K (.ref p) (.int n) H Q := ⟨p, xs, n, v, rfl, rfl, h, e, q⟩
theorem r_ixT {v : V} (h : SqT K H p xs) (e : atI xs n = some v) (q : Q v H) : rIxT K (.ref p) (.int n) H Q := ⟨p, xs, n, v, rfl, rfl, h, e, q⟩
theorem r_ixS {z : Str} {c : Nat} (h : z.length ≤ sizeLine) (e : atI z.cps.toList n = some c) (q : Q (.str ⟨#[c]⟩) H) : rIxS (.str z) (.int n) H Q := ⟨z, n, c, rfl, rfl, h, e, q⟩
theorem r_inT (h : SqT K H p xs) (f1 : flatV v = true) (f2 : xs.all flatV = true) (q : Q (.bl (inV v xs)) H) : rIn K false v (.ref p) H Q := ⟨p, xs, rfl, .inr h, f1, f2, q⟩
theorem r_niT (h : SqT K H p xs) (f1 : flatV v = true) (f2 : xs.all flatV = true) (q : Q (.bl (!inV v xs)) H) : rIn K true v (.ref p) H Q := ⟨p, xs, rfl, .inr h, f1, f2, q⟩
theorem r_inL (h : SqL K H p xs) (f1 : flatV v = true) (f2 : xs.all flatV = true) (q : Q (.bl (inV v xs)) H) : rIn K false v (.ref p) H Q := ⟨p, xs, rfl, .inl h, f1, f2, q⟩
theorem r_niL (h : SqL K H p xs) (f1 : flatV v = true) (f2 : xs.all flatV = true) (q : Q (.bl (!inV v xs)) H) : rIn K true v (.ref p) H Q := ⟨p, xs, rfl, .inl h, f1, f2, q⟩
theorem r_cb {r : List V → Hp → VK → Prop} (h : tr σ H fun vs H1 => r vs H1 Q) : tCB r tr σ H Q := h
theorem r_call {sp : Sp} {dvs : List V} (h : tr σ H fun vs H1 => sp (vs ++ dvs) H1 Q E) : tCall sp dvs E tr σ H Q := h
theorem r_sp1 {f} {a : V} (h : f a H Q) : Sp1 f ([a] ++ []) H Q E := ⟨a, rfl, h⟩
theorem r_sp2 {f} {a b : V} (h : f a b H Q) : Sp2 f ([a, b] ++ []) H Q E := ⟨a, b, rfl, h⟩
theorem r_sp3 {f} {a b c : V} (h : f a b c H Q) : Sp3 f ([a, b, c] ++ []) H Q E := ⟨a, b, c, rfl, h⟩
theorem r_sp4 {f} {a b c d : V} (h : f a b c d H Q) : Sp4 f ([a, b, c, d] ++ []) H Q E := ⟨a, b, c, d, rfl, h⟩
theorem r_sp5 {f} {a b c d e : V} (h : f a b c d e H Q) : Sp5 f ([a, b, c, d, e] ++ []) H Q E := ⟨a, b, c, d, e, rfl, h⟩
theorem r_sp6 {f} {a b c d e g : V} (h : f a b c d e g H Q) : Sp6 f ([a, b, c, d, e, g] ++ []) H Q E := ⟨a, b, c, d, e, g, rfl, h⟩
theorem r_sp7 {f} {a b c d e g i : V} (h : f a b c d e g i H Q) : Sp7 f ([a, b, c, d, e, g, i] ++ []) H Q E := ⟨a, b, c, d, e, g, i, rfl, h⟩
theorem r_addS {n m : Str} (z : n.length + m.length ≤ sizeLine) (h : Q (.str (n ++ m)) H) : rAddZ (.str n) (.str m) H Q := ⟨n, m, rfl, rfl, z, h⟩
theorem r_sub {to ti : TE} {tset : TSet} (h : to σ H fun o H1 => ti σ H1 fun i H2 => tset o i v H2 fun H3 => QS σ H3) : gSub to ti tset v σ H QS := h
theorem r_setL {QH : Hp → Prop} {j : Nat} (h : H p = some (.lst xs)) (e : ixN xs.length n = some j) (q : QH (upd H p (.lst (xs.set j v)))) : rSetL (.ref p) (.int n) v H QH := ⟨p, xs, n, j, rfl, rfl, h, e, q⟩
theorem r_ite {c : Prop} {dc : Decidable c} {A B : Prop} (h1 : c → A) (h2 : ¬ c → B) : if decide c = true then A else B := by
  by_cases h : c
  · rw [decide_eq_true h, if_pos rfl]
    exact h1 h
  · rw [decide_eq_false h, if_neg Bool.false_ne_true]
    exact h2 h
theorem iteTb {b : Bool} {A B : Prop} (h : b = true) (q : A) : if b = true then A else B := by
  rw [if_pos h]
  exact q
theorem iteFb {b : Bool} {A B : Prop} (h : b = false) (q : B) : if b = true then A else B := by
  rw [h, if_neg Bool.false_ne_true]
  exact q
theorem r_iteP {c : Prop} {dc : Decidable c} {A B : Prop} (h1 : c → A) (h2 : ¬ c → B) : if decide c = true then A else B := by
  by_cases h : c
  · rw [decide_eq_true h]
    exact iteT (h1 h)
  · rw [decide_eq_false h]
    exact iteF (h2 h)
theorem r_iteN {c : Prop} {dc : Decidable c} {A B : Prop} (h1 : ¬ c → A) (h2 : c → B) : if (!decide c) = true then A else B := by
  by_cases h : c
  · rw [decide_eq_true h]
    exact iteF (h2 h)
  · rw [decide_eq_false h]
    exact iteT (h1 h)
/-! ### built-ins -/
theorem r_lenL (h : SqL K H p xs) (q : Q (.int xs.length) H) : rLenQ K [.ref p] H Q := ⟨p, xs, rfl, .inl h, q⟩
theorem r_lenT (h : SqT K H p xs) (q : Q (.int xs.length) H) : rLenQ K [.ref p] H Q := ⟨p, xs, rfl, .inr h, q⟩
theorem r_lenS {z : Str} (h : z.length ≤ sizeLine) (q : Q (.int z.length) H) : rLenZ [.str z] H Q := ⟨z, rfl, h, q⟩
theorem r_abs (q : Q (.int (if n < 0 then -n else n)) H) : rAbs [.int n] H Q := ⟨n, rfl, q⟩
theorem r_intB (q : Q (.int (if b then 1 else 0)) H) : rIntQ [.bl b] H Q := .inr ⟨b, rfl, q⟩
theorem r_intI (q : Q (.int n) H) : rIntQ [.int n] H Q := .inl ⟨n, rfl, q⟩
theorem r_max2 (q : Q (.int (if m > n then m else n)) H) : rMaxQ [.int n, .int m] H Q := ⟨n, m, rfl, q⟩
theorem r_min2 (q : Q (.int (if m < n then m else n)) H) : rMinQ [.int n, .int m] H Q := ⟨n, m, rfl, q⟩
theorem r_strI (z : n.natAbs.log2 < 1920) (q : Q (.str (toString n)) H) : rStrQ [.int n] H Q := ⟨n, rfl, z, q⟩
theorem r_divmod (c : 0 < m) (d : m < 1073741824) (h : ∀ p, H p = none → Q (.ref p) (upd H p (.tup [.int (n / m), .int (n % m)]))) : rDivmod [.int n, .int m] H Q := ⟨n, m, rfl, ⟨c, d⟩, h⟩
theorem r_listL (h : SqL K H p xs) (q : ∀ l, H l = none → Q (.ref l) (upd H l (.lst xs))) : rListQ K [.ref p] H Q := ⟨p, xs, rfl, .inl h, q⟩
theorem r_listT (h : SqT K H p xs) (q : ∀ l, H l = none → Q (.ref l) (upd H l (.lst xs))) : rListQ K [.ref p] H Q := ⟨p, xs, rfl, .inr h, q⟩
theorem r_tupleL (h : SqL K H p xs) (q : ∀ l, H l = none → Q (.ref l) (upd H l (.tup xs))) : rTupleQ K [.ref p] H Q := ⟨p, xs, rfl, .inl ⟨h, q⟩⟩
theorem r_append {v : V} (h : H p = some (.lst xs)) (z : xs.length < 100000) (q : Q .non (upd H p (.lst (xs ++ [v])))) : tBM K "list" rAppend (tC (.ref p)) (tCons (tC v) tNil) σ H Q :=
  ⟨.inl ⟨rfl, _, SqL.of h⟩, p, xs, v, rfl, rfl, h, Nat.lt_of_lt_of_le z (by decide), q⟩
/-- a method of a tracked list: the receiver is seen -/
theorem r_bm {rr : V → List V → Hp → VK → Prop} (h : te σ H (TyK K fun x H1 => tr σ H1 fun xs H2 => rr x xs H2 Q)) : tBM K "list" rr te tr σ H Q := h
theorem r_bm0 {rr : V → List V → Hp → VK → Prop} (h : te σ H (TyK K fun x H1 => rr x [] H1 Q)) : tBM0 K "list" rr te σ H Q := h
theorem r_ty {f : VK} (h : SqL K H p xs) (q : f (.ref p) H) : TyK K f (.ref p) H := ⟨.inl ⟨rfl, _, h⟩, q⟩
theorem r_app {v : V} (h : H p = some (.lst xs)) (z : xs.length < 100000) (q : Q .non (upd H p (.lst (xs ++ [v])))) : rAppend (.ref p) [v] H Q := ⟨p, xs, v, rfl, rfl, h, Nat.lt_of_lt_of_le z (by decide), q⟩
theorem r_ext {c : Addr} {ys : List V} (h : H p = some (.lst xs)) (h2 : H c = some (.lst ys)) (z : xs.length + ys.length ≤ 100000) (q : Q .non (upd H p (.lst (xs ++ ys)))) : rExtend (.ref p) [.ref c] H Q := ⟨p, c, xs, ys, rfl, rfl, h, h2, Nat.le_trans z (by decide), q⟩
theorem r_pop {v : V} (h : H p = some (.lst xs)) (z : xs[xs.length - 1]? = some v) (q : Q v (upd H p (.lst xs.dropLast))) : rPop (.ref p) [] H Q := ⟨p, xs, v, rfl, rfl, h, z, q⟩
theorem r_rev (h : H p = some (.lst xs)) (q : Q .non (upd H p (.lst xs.reverse))) : rReverse (.ref p) [] H Q := ⟨p, xs, rfl, rfl, h, q⟩
theorem r_sl {r : V → Option Int → Option Int → Hp → VK → Prop} {tl th : TO} (h : te σ H fun x H1 => tl σ H1 fun l H2 => th σ H2 fun u H3 => r x l u H3 Q) : tSl r te tl th σ H Q := h
theorem r_noPart (h : QO none H) : tNoPart σ H QO := h
theorem r_part (h : te σ H (PartK QO)) : tPart te σ H QO := h
theorem r_partE (h : QO (some n) H) : PartK QO (.int n) H := ⟨n, rfl, h⟩
theorem r_slL {lo hi : Option Int} (h : SqL K H p xs) (q : ∀ a, H a = none → Q (.ref a) (upd H a (.lst (cutV xs lo hi)))) : rSlL K (.ref p) lo hi H Q := ⟨p, xs, rfl, h, q⟩
theorem r_slS {z : Str} {lo hi : Option Int} (h : z.length ≤ sizeLine) (q : Q (.str (cutS z lo hi)) H) : rSlS (.str z) lo hi H Q := ⟨z, rfl, h, q⟩
theorem r_cat {c : Addr} {ys : List V} (h : H p = some (.lst xs)) (h2 : H c = some (.lst ys)) (z : xs.length + ys.length ≤ 100000) (q : ∀ a, H a = none → Q (.ref a) (upd H a (.lst (xs ++ ys)))) : rCat (.ref p) (.ref c) H Q := ⟨p, c, xs, ys, rfl, rfl, h, h2, Nat.le_trans z (by decide), q⟩
theorem r_isN (q : Q (.bl (decide (v = .non))) H) : rIsNQ v .non H Q := ⟨rfl, q⟩
theorem r_notN (q : Q (.bl (!decide (v = .non))) H) : rNotNQ v .non H Q := ⟨rfl, q⟩
theorem r_inZ {c : Nat} {z : Str} (q : Q (.bl (decide (c ∈ z.cps.toList))) H) : rInZ (.str ⟨#[c]⟩) (.str z) H Q := ⟨c, z, rfl, rfl, q⟩
theorem r_all {bs : List Bool} (h : SqL K H p (bs.map V.bl)) (q : Q (.bl (bs.all id)) H) : rAll K [.ref p] H Q := ⟨p, bs, rfl, h, q⟩
theorem r_any {bs : List Bool} (h : SqL K H p (bs.map V.bl)) (q : Q (.bl (bs.any id)) H) : rAny K [.ref p] H Q := ⟨p, bs, rfl, h, q⟩
theorem r_eqX {x y : V} (h : scal x y = true) (q : Q (.bl (decide (x = y))) H) : rEq x y H Q := ⟨h, q⟩
theorem r_neX {x y : V} (h : scal x y = true) (q : Q (.bl (!decide (x = y))) H) : rNe x y H Q := ⟨h, q⟩
theorem eqv_nil (ds : List PyData) : PyData.eqv (.list ds) (.list []) = ds.isEmpty := by cases ds <;> simp [PyData.eqv, PyData.eqvAll]
theorem r_neNil {ds : List PyData} {x : V} (h : Dp K H x (.list ds)) (z : SeqAt.shaped (.list ds) = true) (hp : SqL K H p []) (q : Q (.bl (!ds.isEmpty)) H) : rNeD K x (.ref p) H Q :=
  ⟨.list ds, .list [], h, .lst hp .nil, z, rfl, by rw [eqv_nil]; exact q⟩
theorem sum_abs (n : Int) : 0 ≤ (if n < 0 then -n else n) := by split <;> omega
theorem r_m1 {rr : V → List V → Hp → VK → Prop} {to : TE} (h : to σ H (StrK fun x H1 => te σ H1 fun y H2 => rr x [y] H2 Q)) : tM1 rr to te σ H Q := h
theorem r_m0 {rr : V → List V → Hp → VK → Prop} {to : TE} (h : to σ H (StrK fun x H1 => rr x [] H1 Q)) : tM0 rr to σ H Q := h
theorem r_strE {f : VK} {z : Str} (h : f (.str z) H) : StrK f (.str z) H := ⟨⟨z, rfl⟩, h⟩
theorem r_join {z : Str} {ys : List Str} (h : SqL K H p (ys.map V.str)) (c : (ys.map (·.length)).sum + ys.length * z.length ≤ 16777216) (q : Q (.str (Txt.join z ys)) H) : rJoin K (.str z) [.ref p] H Q := ⟨z, p, ys, rfl, rfl, .inl h, c, q⟩
theorem r_joinT {z : Str} {ys : List Str} (h : SqT K H p (ys.map V.str)) (c : (ys.map (·.length)).sum + ys.length * z.length ≤ 16777216) (q : Q (.str (Txt.join z ys)) H) : rJoin K (.str z) [.ref p] H Q := ⟨z, p, ys, rfl, rfl, .inr h, c, q⟩
theorem r_par3 {i j l : Nat} (h : tr σ H (Par3K i j l σ nx)) : tPar3 i j l tr ⟨nx, rt, bk, ct⟩ σ H := h
theorem r_par3E {i j l : Nat} {u v w : V} (h : nx (((σ.set i (some u)).set j (some v)).set l (some w)) H) : Par3K i j l σ nx [u, v, w] H := ⟨u, v, w, rfl, h⟩
theorem r_gtup {n : Nat} {t : TGs} (h : GTupK K n t σ QS v H) : gTup K n t v σ H QS := h
theorem r_gtupE {n : Nat} {t : TGs} (h : SqT K H p xs) (e : xs.length = n) (q : t xs σ H QS) : GTupK K n t σ QS (.ref p) H := ⟨p, xs, rfl, h, e, q⟩
theorem r_gnil (h : QS σ H) : gNil [] σ H QS := ⟨rfl, h⟩
theorem r_gcons {g : TG} {u : TGs} {r : List V} (h : g v σ H fun σ' H' => u r σ' H' QS) : gCons g u (v :: r) σ H QS := ⟨v, r, rfl, h⟩
/-! ### loops -/
theorem r_for {wi : TI} (h : wi σ H fun J H1 => ForK J g t nx rt σ H1) : tFor wi g t ⟨nx, rt, bk, ct⟩ σ H := h
theorem r_rng1 {R : It → Hp → Prop} (h : tr σ H (Rng1K R)) : iRng1 tr σ H R := h
theorem r_rng2 {R : It → Hp → Prop} (h : tr σ H (Rng2K R)) : iRng2 tr σ H R := h
theorem r_rng1E {R : It → Hp → Prop} (h1 : -(2 ^ 62) ≤ n) (h2 : n < 2 ^ 62) (h : R (Itr 0 n.toNat) H) : Rng1K R [.int n] H := ⟨n, rfl, h1, h2, h⟩
theorem r_rng2E {R : It → Hp → Prop} (h1 : -(2 ^ 62) ≤ n) (h2 : n < 2 ^ 62) (h3 : -(2 ^ 62) ≤ m) (h4 : m < 2 ^ 62) (h : R (Itr n (m - n).toNat) H) : Rng2K R [.int n, .int m] H := ⟨n, m, rfl, ⟨h1, h2, h3, h4⟩, h⟩
theorem r_iList {R : It → Hp → Prop} (h : te σ H (IListK K R)) : iList K te σ H R := h
theorem r_iTup {R : It → Hp → Prop} (h : te σ H (ITupK K R)) : iTup K te σ H R := h
theorem r_iListE {R : It → Hp → Prop} (h1 : SqL K H p xs) (h : R (Itl K p) H) : IListK K R (.ref p) H := ⟨p, rfl, ⟨xs, h1⟩, h⟩
theorem r_iTupE {R : It → Hp → Prop} (h1 : SqT K H p xs) (h : R (Itt K p) H) : ITupK K R (.ref p) H := ⟨p, rfl, ⟨xs, h1⟩, h⟩
theorem forR {lo : Int} {n : Nat} (Pv : Nat → L2.St → Hp → Prop) (h0 : Pv 0 σ H) (hs : ∀ i σ H, i < n → Pv i σ H → g (.int (lo + i)) σ H fun σ2 H2 => t ⟨Pv (i + 1), rt, nx, Pv (i + 1)⟩ σ2 H2) (hd : ∀ σ H, Pv n σ H → nx σ H) : ForK (Itr lo n) g t nx rt σ H :=
  for_range (D := ⟨nx, rt, fun _ _ => False, fun _ _ => False⟩) Pv h0 hs hd
theorem forL {a : Addr} {xs : List V} (Pv : Nat → L2.St → Hp → Prop) (h0 : Pv 0 σ H) (hl : ∀ i σ H, i ≤ xs.length → Pv i σ H → SqL K H a xs)
    (hs : ∀ i x σ H, xs[i]? = some x → Pv i σ H → g x σ H fun σ2 H2 => t ⟨Pv (i + 1), rt, nx, Pv (i + 1)⟩ σ2 H2) (hd : ∀ σ H, Pv xs.length σ H → nx σ H) : ForK (Itl K a) g t nx rt σ H :=
  for_list (D := ⟨nx, rt, fun _ _ => False, fun _ _ => False⟩) Pv h0 hl hs hd
theorem forT {a : Addr} {xs : List V} (Pv : Nat → L2.St → Hp → Prop) (h0 : Pv 0 σ H) (hl : ∀ i σ H, i ≤ xs.length → Pv i σ H → SqT K H a xs)
    (hs : ∀ i x σ H, xs[i]? = some x → Pv i σ H → g x σ H fun σ2 H2 => t ⟨Pv (i + 1), rt, nx, Pv (i + 1)⟩ σ2 H2) (hd : ∀ σ H, Pv xs.length σ H → nx σ H) : ForK (Itt K a) g t nx rt σ H :=
  for_tup (D := ⟨nx, rt, fun _ _ => False, fun _ _ => False⟩) Pv h0 hl hs hd
/-! ### while -/
def WhK (t : TS) (nx : L2.St → Hp → Prop) (rt : VK) (W : Nat → L2.St → Hp → Prop) (m : Nat) (σ : L2.St) : Bool → Hp → Prop := fun b H1 =>
  if b = true then ∃ N : L2.St → Hp → Prop, (∀ σ' H', N σ' H' → ∃ m', m' < m ∧ W m' σ' H') ∧ t ⟨N, rt, nx, N⟩ σ H1 else nx σ H1
theorem r_while (W : Nat → L2.St → Hp → Prop) (m0 : Nat) (h0 : W m0 σ H) (hs : ∀ m σ H, W m σ H → tt σ H (WhK t nx rt W m σ)) : tWhile tt t ⟨nx, rt, bk, ct⟩ σ H := ⟨W, ⟨m0, h0⟩, hs⟩
theorem r_whT {W : Nat → L2.St → Hp → Prop} {m : Nat} (h : t ⟨fun σ' H' => ∃ m', m' < m ∧ W m' σ' H', rt, nx, fun σ' H' => ∃ m', m' < m ∧ W m' σ' H'⟩ σ H) : WhK t nx rt W m σ true H := by
  unfold WhK
  rw [if_pos rfl]
  exact ⟨_, fun _ _ h => h, h⟩
theorem r_whF {W : Nat → L2.St → Hp → Prop} {m : Nat} (h : nx σ H) : WhK t nx rt W m σ false H := by
  unfold WhK
  rw [if_neg Bool.false_ne_true]
  exact h
/-! ### comprehensions -/
theorem r_lc {wi : TI} {vs : List Nat} (h : wi σ H fun J H1 => LcK J g tt te vs σ Q H1) : tLc wi g tt te vs σ H Q := h
theorem lcR {lo : Int} {n : Nat} {vs : List Nat} (h : ∀ D, H D = none → ∃ Pv : Nat → Hp → Prop, Pv 0 (upd H D (.lst [])) ∧ (∀ i H, i < n → Pv i H → g (.int (lo + i)) (wipe σ vs) H fun σ2 H2 => wipe σ2 vs = wipe σ vs ∧ tt σ2 H2 fun b H3 => if b = true then te σ2 H3 (GrowK D (Pv (i + 1))) else Pv (i + 1) H3) ∧ ∀ H, Pv n H → Q (.ref D) H) :
    LcK (Itr lo n) g tt te vs σ Q H := fun D hD => by
  obtain ⟨Pv, h0, hs, hd⟩ := h D hD
  exact lc_range Pv h0 hs hd
theorem lcL {a : Addr} {xs : List V} {vs : List Nat} (h : ∀ D, H D = none → ∃ Pv : Nat → Hp → Prop, Pv 0 (upd H D (.lst [])) ∧ (∀ i H, i ≤ xs.length → Pv i H → SqL K H a xs) ∧ (∀ i x H, xs[i]? = some x → Pv i H → g x (wipe σ vs) H fun σ2 H2 => wipe σ2 vs = wipe σ vs ∧ tt σ2 H2 fun b H3 => if b = true then te σ2 H3 (GrowK D (Pv (i + 1))) else Pv (i + 1) H3) ∧ ∀ H, Pv xs.length H → Q (.ref D) H) :
    LcK (Itl K a) g tt te vs σ Q H := fun D hD => by
  obtain ⟨Pv, h0, hl, hs, hd⟩ := h D hD
  exact lc_list Pv h0 hl hs hd
theorem lcT {a : Addr} {xs : List V} {vs : List Nat} (h : ∀ D, H D = none → ∃ Pv : Nat → Hp → Prop, Pv 0 (upd H D (.lst [])) ∧ (∀ i H, i ≤ xs.length → Pv i H → SqT K H a xs) ∧ (∀ i x H, xs[i]? = some x → Pv i H → g x (wipe σ vs) H fun σ2 H2 => wipe σ2 vs = wipe σ vs ∧ tt σ2 H2 fun b H3 => if b = true then te σ2 H3 (GrowK D (Pv (i + 1))) else Pv (i + 1) H3) ∧ ∀ H, Pv xs.length H → Q (.ref D) H) :
    LcK (Itt K a) g tt te vs σ Q H := fun D hD => by
  obtain ⟨Pv, h0, hl, hs, hd⟩ := h D hD
  exact lc_tup Pv h0 hl hs hd
theorem r_wipe {vs : List Nat} {τ τ' : L2.St} {F : Prop} (e : wipe τ vs = wipe τ' vs) (h : F) : wipe τ vs = wipe τ' vs ∧ F := ⟨e, h⟩
theorem r_yes (h : QB true H) : tYes σ H QB := h
/-- the new list grows by one -/
theorem r_lcE {D : Addr} {acc : List V} {Nx : Hp → Prop} (h : H D = some (.lst acc)) (z : acc.length < 100000) (q : Nx (upd H D (.lst (acc ++ [v])))) : GrowK D Nx v H :=
  ⟨acc, h, Nat.lt_of_lt_of_le z (by decide), q⟩
end

theorem at_g {α : Type} {xs : List α} {z : Int} {j : Nat} {v : α} (e : z = (j : Int)) (h : xs[j]? = some v) : atI xs z = some v := by
  rw [e]
  exact atI_nat h
theorem line_le {n : Nat} (h : n ≤ 100000) : n ≤ sizeLine := Nat.le_trans h (by decide)

/-! ### heaps -/
theorem Same.get {H H' : Hp} {a : Addr} {o : HO} (s : Same H H') (h : H a = some o) : H' a = some o := s _ _ h
theorem same_new {H : Hp} {p : Addr} {o : HO} (h : H p = none) : Same H (upd H p o) := fun b x e => by
  rw [upd_ne (ne_of_none e h)]
  exact e
theorem upd_new {H : Hp} {p a : Addr} {o u : HO} (h : H p = none) (e : H a = some u) : upd H p o a = some u := same_new h _ _ e
theorem upd_old {H : Hp} {p a : Addr} {o u : HO} (h : a ≠ p) (e : H a = some u) : upd H p o a = some u := by
  rw [upd_ne h]
  exact e
theorem sqL_new {K : PySem.W.Frag} {H : Hp} {p a : Addr} {o : HO} {xs : List V} (h : H p = none) (e : SqL K H a xs) : SqL K (upd H p o) a xs := (same_new h).seq e
theorem sqT_same {K : PySem.W.Frag} {H H' : Hp} {a : Addr} {xs : List V} (s : Same H H') (e : SqT K H a xs) : SqT K H' a xs := by
  rcases e with (h | ⟨o, h⟩) | h
  · exact .inl (.inl (s _ _ h))
  · exact .inl (.inr ⟨o, s _ _ h⟩)
  · exact .inr h
theorem sqT_new {K : PySem.W.Frag} {H : Hp} {p a : Addr} {o : HO} {xs : List V} (h : H p = none) (e : SqT K H a xs) : SqT K (upd H p o) a xs := sqT_same (same_new h) e
/-- all but what stands at M is as it was -/
def Keep (M : List Addr) (H H' : Hp) : Prop := ∀ x o, x ∉ M → H x = some o → H' x = some o
theorem Keep.refl {M : List Addr} {H : Hp} : Keep M H H := fun _ _ _ h => h
theorem Keep.trans {M : List Addr} {H H1 H2 : Hp} (a : Keep M H H1) (b : Keep M H1 H2) : Keep M H H2 := fun x o n h => b x o n (a x o n h)
theorem Keep.new {M : List Addr} {H H1 : Hp} {p : Addr} {o : HO} (a : Keep M H H1) (h : H1 p = none) : Keep M H (upd H1 p o) := fun x u n e => upd_new h (a x u n e)
theorem Keep.mut {M : List Addr} {H H1 : Hp} {p : Addr} {o : HO} (a : Keep M H H1) (h : p ∈ M) : Keep M H (upd H1 p o) := fun x u n e => upd_old (fun z => n (z ▸ h)) (a x u n e)
/-- an object that came behind H may change -/
theorem Keep.own {M : List Addr} {H H1 : Hp} {p : Addr} {o : HO} (a : Keep M H H1) (h : H p = none) : Keep M H (upd H1 p o) := fun x u n e => upd_old (ne_of_none e h) (a x u n e)
theorem Keep.mono {M N : List Addr} {H H1 : Hp} (a : Keep M H H1) (h : ∀ x ∈ M, x ∈ N) : Keep N H H1 := fun x o n e => a x o (fun z => n (h x z)) e
theorem Same.keep {M : List Addr} {H H1 : Hp} (a : Same H H1) : Keep M H H1 := fun x o _ e => a x o e
theorem Keep.same {H H1 : Hp} (a : Keep [] H H1) : Same H H1 := fun x o e => a x o (by simp) e
theorem Keep.free {M : List Addr} {H H1 : Hp} {p : Addr} (a : Keep M H H1) (n : p ∉ M) (h : H1 p = none) : H p = none := by
  cases e : H p with
  | none => rfl
  | some o => rw [a p o n e] at h; cases h
theorem upd_free {H : Hp} {p q : Addr} {o : HO} (h : upd H p o q = none) : H q = none ∧ q ≠ p := by
  have hn : q ≠ p := fun e => by
    subst e
    rw [upd_same] at h
    cases h
  exact ⟨by rwa [upd_ne hn] at h, hn⟩
end RS

open PySem PySem.Spec L2 RS TL
set_option autoImplicit false
open PyProof.Rows (envOfC)
set_option Elab.async false
set_option linter.all false
set_option maxRecDepth 100000
set_option maxHeartbeats 4000000

/-! RT: texts as lists of codes (no program) -/
namespace RS
theorem tl_cut_to (z : Str) (k : Nat) : tl (cutS z none (some (k : Int))) = (tl z).take k := by
  show (((tl z).drop 0).take (HT.sIx z.length z.length (some (k : Int)) - 0)) = (tl z).take k
  rw [HT.sIx_nat, List.drop_zero, Nat.sub_zero]
  by_cases h : k ≤ z.length
  · rw [Nat.min_eq_left h]
  · rw [Nat.min_eq_right (by omega)]
    have e : z.length = (tl z).length := by simp [Str.length]
    rw [List.take_of_length_le (by omega), List.take_of_length_le (by omega)]
theorem tl_cut_from (z : Str) (k : Nat) : tl (cutS z (some (k : Int)) none) = (tl z).drop k := by
  show (((tl z).drop (HT.sIx z.length 0 (some (k : Int)))).take (z.length - HT.sIx z.length 0 (some (k : Int)))) = (tl z).drop k
  have e : z.length = (tl z).length := by simp [Str.length]
  rw [HT.sIx_nat]
  by_cases h : k ≤ z.length
  · rw [Nat.min_eq_left h]
    exact List.take_of_length_le (by rw [List.length_drop]; omega)
  · rw [Nat.min_eq_right (by omega), List.drop_of_length_le (by omega : (tl z).length ≤ z.length), List.drop_of_length_le (by omega : (tl z).length ≤ k)]
    exact List.take_nil
theorem tl_one (c : Nat) : tl (⟨#[c]⟩ : Str) = [c] := rfl
abbrev oneS (c : Nat) : Str := ⟨#[c]⟩
theorem tl_joinE (zs : List Nat) (e : Str) (he : tl e = []) : tl (Txt.join e (zs.map oneS)) = zs := by
  rw [join_eq, tl_join, he, List.map_map]
  show joinL [] (zs.map fun c => [c]) = zs
  induction zs with
  | nil => rfl
  | cons a r ih =>
    cases r with
    | nil => rfl
    | cons b r =>
      show [a] ++ ([] ++ joinL [] ((b :: r).map fun c => [c])) = a :: b :: r
      rw [ih]
      rfl
theorem sum_ones (zs : List Nat) : ((zs.map oneS).map (·.length)).sum = zs.length := by
  induction zs with
  | nil => rfl
  | cons a r ih =>
    rw [List.map_cons, List.map_cons, List.sum_cons, ih, List.length_cons]
    show 1 + r.length = r.length + 1
    omega
/-- a name: two to eight small letters -/
def NameS (z : Str) : Prop := 2 ≤ (tl z).length ∧ (tl z).length ≤ 8 ∧ ∀ c ∈ tl z, 97 ≤ c ∧ c ≤ 122
/-- names: unlike ones -/
def Names (n : Nat) (ns : List Str) : Prop := ns.length = n ∧ (∀ z ∈ ns, NameS z) ∧ ns.Nodup
def letters : Str := "abcdefghijklmnopqrstuvwxyz"
theorem letters_at : ∀ r : Nat, r < 26 → (tl letters)[r]? = some (97 + r) := by decide +kernel
theorem letters_len : (tl letters).length = 26 := by decide +kernel
def signs : Str := " !\"#$&'()*+,-./0123456789:;<=>?@ABCDEFGHIJKLMNOPQRSTUVWXYZ[\\]^_`abcdefghijklmnopqrstuvwxyz{|}~"
/-- the r-th sign: no percent sign among them -/
def signAt (r : Nat) : Nat := if r < 5 then 32 + r else 33 + r
theorem signs_at : ∀ r : Nat, r < 94 → (tl signs)[r]? = some (signAt r) := by decide +kernel
theorem signs_len : (tl signs).length = 94 := by decide +kernel
/-- the k-th name of a stem -/
def nameW (st : List Nat) (p q : Nat) : List Nat := st.take p ++ [97 + q / 26] ++ [97 + q % 26] ++ st.drop p
theorem nameW_inj {st : List Nat} {p q q' : Nat} (hp : p ≤ st.length) (h : nameW st p q = nameW st p q') : q = q' := by
  unfold nameW at h
  rw [List.append_assoc, List.append_assoc, List.append_assoc, List.append_assoc] at h
  have h1 := List.append_cancel_left h
  have a : 97 + q / 26 = 97 + q' / 26 := by injection h1
  have b : 97 + q % 26 = 97 + q' % 26 := by
    injection h1 with _ h2
    injection h2
  omega
theorem step_inj {f s i j : Nat} (hs : s = 1 ∨ s = 27 ∨ s = 5 ∨ s = 251) (hi : i < 60) (hj : j < 60) (h : (f + s * i) % 676 = (f + s * j) % 676) : i = j := by
  rcases hs with rfl | rfl | rfl | rfl <;> omega
theorem names_ok {st : List Nat} {p f s n : Nat} (hst : st.length ≤ 6) (hp : p ≤ st.length) (hc : ∀ c ∈ st, 97 ≤ c ∧ c ≤ 122) (hs : s = 1 ∨ s = 27 ∨ s = 5 ∨ s = 251) (hn : n ≤ 60) {ns : List Str}
    (h : ns.map tl = (List.range n).map fun k => nameW st p ((f + s * k) % 676)) : Names n ns := by
  have hl : ns.length = n := by
    have := congrArg List.length h
    simpa using this
  refine ⟨hl, fun z hz => ?_, ?_⟩
  · have hz' : tl z ∈ ns.map tl := List.mem_map_of_mem hz
    rw [h] at hz'
    obtain ⟨k, _, e⟩ := List.mem_map.mp hz'
    have hq : (f + s * k) % 676 < 676 := Nat.mod_lt _ (by decide)
    refine ⟨?_, ?_, fun c hcz => ?_⟩
    · rw [← e]
      simp only [nameW, List.length_append, List.length_take, List.length_drop, List.length_singleton]
      omega
    · rw [← e]
      simp only [nameW, List.length_append, List.length_take, List.length_drop, List.length_singleton]
      omega
    · rw [← e] at hcz
      simp only [nameW, List.mem_append, List.mem_singleton] at hcz
      rcases hcz with ((hcz | hcz) | hcz) | hcz
      · exact hc c (List.mem_of_mem_take hcz)
      · omega
      · omega
      · exact hc c (List.mem_of_mem_drop hcz)
  · have hnd : (ns.map tl).Nodup := by
      rw [h]
      rw [List.nodup_iff_pairwise_ne, List.pairwise_map]
      refine List.Pairwise.imp_of_mem ?_ (List.nodup_range (n := n))
      intro i j hi hj hne e
      have hi' := List.mem_range.mp hi
      have hj' := List.mem_range.mp hj
      exact hne (step_inj hs (by omega) (by omega) (nameW_inj hp e))
    rw [List.nodup_iff_pairwise_ne, List.pairwise_map] at hnd
    exact hnd.imp fun hne e => hne (by rw [e])
/-- a value: a number of up to 31 figures, or a text of up to 40 signs from the blank to the tilde -/
def ValOk : V → Prop
  | .int i => -(10 ^ 30) < i ∧ i < 10 ^ 30
  | .str z => (tl z).length ≤ 40 ∧ ∀ c ∈ tl z, 32 ≤ c ∧ c ≤ 126
  | _ => False
end RS

/-! RR: rules of my own: tuple[::-1], () * n, isinstance by kinds, comprehensions over zip -/
namespace RS
open PyProof.Rows HT RZ
open L2 (St)
section
variable {prog : Program} {w : World} {A : Around} {E : Value → Shared → Prop} {s : Shared}
theorem adjust_rev (n : Nat) : Builtin.Slice.sliceAdjust none none (-1) (n : Int) = ((n : Int) - 1, -1) := rfl
theorem places_rev (n : Nat) : Builtin.Slice.slicePlaces ((n : Int) - 1) (-1) (-1) = n := by
  unfold Builtin.Slice.slicePlaces
  rw [if_neg (by decide)]
  by_cases h : (n : Int) - 1 > -1
  · rw [if_pos h, show (-(-1) : Int) = 1 by decide, Int.ediv_one]
    omega
  · rw [if_neg h]
    omega
theorem sliceApplied_rev {sl : Addr} {vl vu vs : Value} {n : Nat} {Q : Int × Int × Nat → Shared → Prop} (hs : s.heap.IsSliceOf sl vl vu vs) (pl : IsPart vl none) (pu : IsPart vu none) (ps : IsPart vs (some (-1)))
    (h : Q ((n : Int) - 1, -1, n) s) : wpAny (model prog w) A (Builtin.Slice.sliceApplied (.ref sl) (pure (n : Int))) Q E s := by
  obtain ⟨os, hos, hcs, hds⟩ := id hs
  unfold Builtin.Slice.sliceApplied Builtin.Slice.sliceFields
  refine wpAny_bind (wpAny_bind (wpAny_field hos hds (x := vl) rfl (wpAny_bind (wpAny_field hos hds (x := vu) rfl (wpAny_bind (wpAny_field hos hds (x := vs) rfl (wpAny_pure ?_)))))))
  refine wpAny_bind (slicePart_ ps ?_)
  show wpAny _ _ (if ((-1 : Int) == 0) = true then _ else _) _ _ s
  rw [if_neg (by decide)]
  refine wpAny_bind (slicePart_ pl (wpAny_bind (slicePart_ pu (wpAny_bind (wpAny_pure ?_)))))
  show wpAny _ _ (match Builtin.Slice.sliceAdjust none none (-1) (n : Int) with | (lo, hi) => pure (lo, (-1 : Int), Builtin.Slice.slicePlaces lo hi (-1))) _ _ s
  rw [adjust_rev n]
  show wpAny _ _ (pure ((n : Int) - 1, (-1 : Int), Builtin.Slice.slicePlaces ((n : Int) - 1) (-1) (-1))) _ _ s
  rw [places_rev]
  exact wpAny_pure h
theorem fm_congr {α β : Type} {f g : α → Option β} : ∀ {l : List α}, (∀ x ∈ l, f x = g x) → l.filterMap f = l.filterMap g
  | [], _ => rfl
  | x :: r, h => by
    rw [List.filterMap_cons, List.filterMap_cons, h x List.mem_cons_self, fm_congr fun y hy => h y (List.mem_cons_of_mem _ hy)]
theorem pick_rev (xs : Array Value) : ((List.range xs.size).filterMap fun (k : Nat) => xs[(((xs.size : Nat) : Int) - 1 + (k : Int) * -1).toNat]?).toArray = xs.toList.reverse.toArray := by
  have e : (List.range xs.size).filterMap (fun (k : Nat) => xs[(((xs.size : Nat) : Int) - 1 + (k : Int) * -1).toNat]?) = (List.range xs.size).filterMap (fun k => xs[xs.size - 1 - k]?) := by
    refine fm_congr fun k hk => ?_
    have hk' := List.mem_range.mp hk
    have : (((xs.size : Nat) : Int) - 1 + (k : Int) * -1).toNat = xs.size - 1 - k := by omega
    rw [this]
  rw [e]
  have e2 : (List.range xs.size).filterMap (fun k => xs[xs.size - 1 - k]?) = ((List.range xs.size).map (fun k => xs.size - 1 - k)).filterMap (xs[·]?) := by
    rw [List.filterMap_map]
    rfl
  rw [e2, PySem.W.krv_range, List.filterMap_reverse, PySem.W.krv_all]
theorem getItem_tuple_rev {t sl : Addr} {items : Array Value} {vl vu vs : Value} {Q : Value → Shared → Prop} (ht : IsTup s.heap t items) (hs : s.heap.IsSliceOf sl vl vu vs) (pl : IsPart vl none) (pu : IsPart vu none) (ps : IsPart vs (some (-1)))
    (h : Q (.ref s.heap.objs.size) { s with heap := s.heap.push { cls := .type "tuple", data := .seq items.toList.reverse.toArray } })
    (hsz : items.size ≤ sizeLine) : wpAny (model prog w) A (getItem (.ref t) (.ref sl)) Q E s := by
  have htake : sizeOk (.seq items.toList.reverse.toArray) := by
    show items.toList.reverse.toArray.size ≤ sizeLine
    rw [List.size_toArray, List.length_reverse, Array.length_toList]
    exact hsz
  obtain ⟨os, hos, hcs, hds⟩ := id hs
  have hTs : s.TypeIs (.ref sl) "slice" := ⟨os, hos, hcs⟩
  unfold getItem
  try with_reducible refine wpAny_holding ?_
  first | refine wpAny_bind (wpAny_pure ?_) | skip
  refine wpAny_bind (wpAny_sequenceKey ht.typeIs (by decide) ?_)
  refine wpAny_bind (wpAny_callSpecial?_slot (name := Str.ofString "__getitem__") ht.typeIs PyProof.Rows.slot_tuple_getitem
    (wpAny_call_entry PyProof.Rows.slot_tuple_getitem ht.typeIs entry_tuple_getitem ?_ (args_tuple_getitem _ _)))
  show wpAny _ _ (Builtin.Tuple.tupleItemsOf (.ref t) >>= _) _ _ s
  refine wpAny_bind (tupleItemsOf_ ht ?_)
  refine wpAny_bind (wpAny_typeOf hTs ?_)
  rw [if_pos (by decide)]
  refine wpAny_bind (sliceApplied_rev hs pl pu ps ?_)
  have hno : ¬ (((((items.size : Nat) : Int) - 1 == 0) && (-1 : Int) == 1 && items.size == items.size) = true) := by
    rw [show ((-1 : Int) == 1) = false from rfl, Bool.and_false, Bool.false_and]
    exact Bool.false_ne_true
  show wpAny _ _ (if ((((items.size : Nat) : Int) - 1 == 0) && (-1 : Int) == 1 && items.size == items.size) = true then _ else _) _ _ s
  rw [if_neg hno, pick_rev]
  first
    | exact wpAny_bind (m := Builtin.Tuple.tupleExact _) (wpAny_newObj_type (wpAny_pure ⟨_, rfl, wpAny_pure h⟩) htake)
    | exact wpAny_bind (m := Builtin.Tuple.tupleExact _) (wpAny_newObj_type (wpAny_bind (wpAny_pure (wpAny_pure ⟨_, rfl, wpAny_pure h⟩))) htake)
    | exact wpAny_bind (wpAny_bind (m := Builtin.Tuple.tupleExact _) (wpAny_newObj_type (wpAny_pure (wpAny_pure ⟨_, rfl, wpAny_pure h⟩)) htake))
    | exact wpAny_bind (wpAny_bind (m := Builtin.Tuple.tupleExact _) (wpAny_newObj_type (wpAny_pure ⟨_, rfl, wpAny_pure h⟩) htake))
end
section
variable {X : Cx}
/-- t[::-1] of a tuple -/
def RevTK (K : PySem.W.Frag) (Q : VK) : VK := fun x H1 => ∃ a xs, x = .ref a ∧ SqT K H1 a xs ∧ ∀ p, H1 p = none → Q (.ref p) (upd H1 p (.tup xs.reverse))
def tRevT (K : PySem.W.Frag) (te : TE) : TE := fun σ H Q => te σ H (RevTK K Q)
theorem pe_revT {e : Expr} {te : TE} {k : Nat} {p1 p2 p3 pos : Pos} (he : PE X e te) : PE X (.Subscript e (.Slice none none (some (.UnaryOp .USub (.Constant (.int 1) k p1) p2)) p3) pos) (tRevT X.K te) := by
  refine ⟨fun pins s σ H Q I h => ?_⟩
  refine Subscript_ (thn (he.run pins s σ H _ I h) fun v s1 ⟨x, H1, I1, r1, q1⟩ => ?_)
  obtain ⟨a, xs, ex, hx, q⟩ := q1
  subst ex
  cases r1
  have hst : PO X (some (.UnaryOp .USub (.Constant (.int 1) k p1) p2)) (tPart (tUn (rU fun i => .int (-i)) (tC (.int 1)))) := po_some (pe_un un_neg pe_int)
  refine wpAny_Slice (thn (po_none.run pins s1 σ H1 (fun o H2 => o = none ∧ H2 = H1) I1 ⟨rfl, rfl⟩) fun vl s2 ⟨l, H2, I2, pl, el, e2⟩ => ?_)
  subst el e2
  refine thn (po_none.run pins s2 σ H2 (fun o H3 => o = none ∧ H3 = H2) I2 ⟨rfl, rfl⟩) fun vu s3 ⟨u, H3, I3, pu, eu, e3⟩ => ?_
  subst eu e3
  refine thn (hst.run pins s3 σ H3 (fun o H4 => o = some (-1) ∧ H4 = H3) I3 ⟨1, rfl, -1, rfl, rfl, rfl⟩) fun vs s4 ⟨o, H4, I4, ps, eo, e4⟩ => ?_
  subst eo e4
  have I5 : Inv X pins σ H4 { s4 with heap := s4.heap.push { cls := .type "slice", data := .fields #[vl, vu, vs] } } := I4.kept (t' := s4.toks) fun b ob q => Heap.get?_push_of_some _ q
  obtain ⟨its, r, ht, hz⟩ := I5.tuple hx
  have hlen := r.length
  show wpAny (model X.prog X.w) X.A (subscriptTail e (.Slice none none (some (.UnaryOp .USub (.Constant (.int 1) k p1) p2)) p3) (.ref a) (.ref s4.heap.objs.size)) (EP X pins σ Q) X.xe { s4 with heap := s4.heap.push { cls := .type "slice", data := .fields #[vl, vu, vs] } }
  refine tail_any (ops := [.ref a, .ref s4.heap.objs.size]) ht.typeIs (PySem.F.slot_tuple_getitem.lookup) ?_ (by with_unfolding_all rfl)
  refine getItem_tuple_rev ht (Heap.IsSliceOf.new _ vl vu vs) pl pu ps ?_ (by rw [List.size_toArray]; omega)
  refine ⟨.ref _, _, I5.laid (t' := s4.toks) (o := .tup xs.reverse) (fun b ob q => Heap.get?_push_of_some _ q) (Nat.le_refl _) ?_, rfl, q _ (I5.hok.fresh (Nat.le_refl _))⟩
  refine ⟨by rw [List.length_reverse]; exact hz, its.reverse, r.reverse, ?_⟩
  rw [show its.toArray.toList.reverse.toArray = its.reverse.toArray from rfl]
  exact IsTup.new _ _
end
theorem r_revT {K : PySem.W.Frag} {te : TE} {σ : L2.St} {H : Hp} {Q : VK} (h : te σ H (RevTK K Q)) : tRevT K te σ H Q := h
theorem r_revTE {K : PySem.W.Frag} {H : Hp} {Q : VK} {a : Addr} {xs : List V} (h : SqT K H a xs) (q : ∀ p, H p = none → Q (.ref p) (upd H p (.tup xs.reverse))) : RevTK K Q (.ref a) H := ⟨a, xs, rfl, h, q⟩
/-! ### () * k -/
theorem tuple_mul0 (l : Addr) (items : Array Value) (n : Nat) (dd : Option Addr) (sl : Array (Option Value)) (x : Int) (u : Tok) (c0 : (decide (x < -(2 ^ 63)) || decide (x ≥ 2 ^ 63)) = false) (c1 : (items.isEmpty || x == 1) = true) :
    Meets (Builtin.«tuple.__mul__» ⟨[.ref l, .int x u], []⟩) (fun _ R s => s.heap.get? l = some { cls := .type "tuple", dict := dd, data := .seq items n, slots := sl } ∧
      R (.ok (.ret (Value.ref l))) s) :=
  .of_wp fun prog w A R s h => by
    obtain ⟨hp, g, d, tk, os⟩ := s
    obtain ⟨hl, h⟩ := h
    have f1 := AutoSeq1.idx_int
    wp_walk using wpAny_loadPart' hl
    repeat (first
      | (refine wpAny_ite_false (decide_eq_false (by rw [c0]; exact Bool.false_ne_true)) ?_; wp_walk using wpAny_loadPart' hl)
      | (refine wpAny_ite_true (decide_eq_true (by rw [c1])) ?_; wp_walk using wpAny_loadPart' hl))
    exact ⟨_, rfl, h⟩
/-- t * k: a new tuple; () * k is () -/
def rRepQ (K : PySem.W.Frag) : R2 := fun x y H Q => rRepT K x y H Q ∨ ∃ l k, x = .ref l ∧ y = .int k ∧ SqT K H l [] ∧ -(2 ^ 63) ≤ k ∧ k < 2 ^ 63 ∧ Q (.ref l) H
section
variable {X : Cx}
theorem op_rep0 : OpR X (binaryOp .Mult) (fun x y H Q => ∃ l k, x = .ref l ∧ y = .int k ∧ SqT X.K H l [] ∧ -(2 ^ 63) ≤ k ∧ k < 2 ^ 63 ∧ Q (.ref l) H) := by
  intro pins s σ H x y v u Q I rx ry h
  obtain ⟨l, k, rfl, rfl, hT, h1, h2, q⟩ := h
  cases rx
  obtain ⟨t, rfl⟩ := ry
  obtain ⟨its, r, ⟨⟨cls, dd, data, sl⟩, ho, hc, n, hd⟩, hs⟩ := I.tuple hT
  simp only at hc hd
  subst hc hd
  have hn : its = [] := by
    cases r
    rfl
  subst hn
  have c0 : (decide (k < -(2 ^ 63)) || decide (k ≥ 2 ^ 63)) = false := by
    rw [decide_eq_false (by omega), decide_eq_false (by omega)] <;> rfl
  exact wpAny_binaryOp_repeat_ref (T := "tuple") (U := "int") (by decide) ⟨_, ho, rfl⟩ (fun s' => typeIs_int s' k t) noFill_tuple_mul F.fills_int_mul F.slot_int_rmul repeat_tuple F.slot_int_index.lookup
    (call_meets F.slot_int_rmul (typeIs_int s k t) F.entry_int_rmul (F.args_int_rmul_2 _ _) (int_rmul_tuple k t l [].toArray n dd sl)
      ⟨ho, rfl, ⟨_, ho, rfl⟩, call_meets F.slot_tuple_mul ⟨_, ho, rfl⟩ F.entry_tuple_mul (F.args_tuple_mul_2 _ _) (tuple_mul0 l [].toArray n dd sl k t c0 rfl) ⟨ho, ⟨.ref l, H, I.tok _, rfl, q⟩⟩⟩)
theorem op_repQ : OpR X (binaryOp .Mult) (rRepQ X.K) := op_repT.or op_rep0
end
theorem r_repQ {K : PySem.W.Frag} {H : Hp} {Q : VK} {l : Addr} {k : Int} {xs : List V} (h : SqT K H l xs) (h1 : 2 ≤ k) (h2 : k ≤ 1000) (hl : xs.length ≤ 1000)
    (q0 : xs = [] → Q (.ref l) H) (q : xs ≠ [] → ∀ p, H p = none → Q (.ref p) (upd H p (.tup (List.replicate k.toNat xs).flatten))) : rRepQ K (.ref l) (.int k) H Q := by
  by_cases e : xs = []
  · subst e
    exact .inr ⟨l, k, rfl, rfl, h, by omega, by omega, q0 rfl⟩
  · exact .inl ⟨l, k, xs, rfl, rfl, h, e, h1, h2, hl, q e⟩

/-! ### isinstance by kinds -/
/-- the written kind of a value -/
inductive Kd (K : PySem.W.Frag) (H : Hp) : V → String → Prop where
  | non : Kd K H .non "NoneType"
  | bl (b : Bool) : Kd K H (.bl b) "bool"
  | int (i : Int) : Kd K H (.int i) "int"
  | str (z : Str) : Kd K H (.str z) "str"
  | lst {a : Addr} {xs : List V} (h : SqL K H a xs) : Kd K H (.ref a) "list"
  | tup {a : Addr} {xs : List V} (h : SqT K H a xs) : Kd K H (.ref a) "tuple"
theorem Kd.ty {K : PySem.W.Frag} {H : Hp} {x : V} {t : String} (h : Kd K H x t) : TyX K H x (.type t) := by
  cases h with
  | non => exact .base .non
  | bl b => exact .base (.bl b)
  | int i => exact .base (.int i)
  | str z => exact .base (.str z)
  | lst h =>
    rcases h with (h | ⟨o, h⟩) | ⟨o, its, n, hk, hc, _⟩
    · exact .base (.lst h)
    · exact .base (.frz h)
    · exact .kList hk hc
  | tup h =>
    rcases h with (h | ⟨o, h⟩) | ⟨o, its, n, hk, hc, _⟩
    · exact .base (.tup h)
    · exact .fTuple h
    · exact .kTuple hk hc
theorem Kd.new {K : PySem.W.Frag} {H : Hp} {x : V} {t : String} {p : Addr} {o : HO} (h : Kd K H x t) (hp : H p = none) : Kd K (upd H p o) x t := by
  cases h with
  | non => exact .non
  | bl b => exact .bl b
  | int i => exact .int i
  | str z => exact .str z
  | lst h => exact .lst ((same_new hp).seq h)
  | @tup a xs h =>
    refine .tup (xs := xs) ?_
    rcases h with (h | ⟨o', h⟩) | h
    · exact .inl (.inl (upd_new hp h))
    · exact .inl (.inr ⟨o', upd_new hp h⟩)
    · exact .inr h
/-- which of the kinds are of which classes -/
def kindIs (t c : String) : Bool := t == c || (t == "bool" && c == "int")
theorem kitB_ok : ∀ t ∈ ["NoneType", "bool", "int", "str", "list", "tuple"], ∀ c ∈ ["int", "str", "list", "tuple", "bool"], kitB t c = some (kindIs t c) := by decide +kernel
def IsiK (K : PySem.W.Frag) (c : String) (Q : VK) : VK := fun x H => ∃ t, Kd K H x t ∧ Q (.bl (kindIs t c)) H
def IsiTK (K : PySem.W.Frag) (c d : String) (Q : VK) : VK := fun x H => ∃ t, Kd K H x t ∧ ∀ p, H p = none → Q (.bl (kindIs t c || kindIs t d)) (upd H p (.tup [.ty c, .ty d]))
def tIsi (K : PySem.W.Frag) (c : String) (te : TE) : TE := fun σ H Q => te σ H (IsiK K c Q)
def tIsiT (K : PySem.W.Frag) (c d : String) (te : TE) : TE := fun σ H Q => te σ H (IsiTK K c d Q)
theorem kd_mem {K : PySem.W.Frag} {H : Hp} {x : V} {t : String} (h : Kd K H x t) : t ∈ ["NoneType", "bool", "int", "str", "list", "tuple"] := by
  cases h <;> simp
section
variable {X : Cx} {a : Expr} {te : TE} {p p2 p3 pos : Pos} {c d : Str} {C D : String}
/-- isinstance(a, c) -/
theorem pe_isi (hm : X.mg "isinstance" = none) (ha : PE X a te) (hc : X.mg c = none) (hC : C ∈ ["int", "str", "list", "tuple", "bool"]) (hv : bootBuiltins c = some (.type C)) (hg : Gl X "isinstance" := by rfl) (hg2 : Gl X c := by rfl)
    (hn : c ≠ "__name__" := by decide) (hdb : (c == ("__debug__" : Str)) = false := by decide)
    (he : starEach [a, .Name c p2] X.env = (false, eval a X.env) :: starEach [.Name c p2] X.env := by rfl) (hpl : (backTo pos (starEach [.Name c p2] X.env)).any (·.1) = false := by rfl)
    (h2 : starEach [.Name c p2] X.env = (false, eval (.Name c p2) X.env) :: starEach [] X.env := by rfl) :
    PE X (.Call (.Name "isinstance" p) [a, .Name c p2] [] pos) (tIsi X.K C te) := by
  refine ⟨fun pins s σ H Q I h => ?_⟩
  refine wpAny_Call_Name_kw (ld_blt (u := .builtin "isinstance") I hg hm (by decide +kernel) ?_ (by decide) (by decide))
  refine callWith_builtin1 (args_cons (thn (ha.run pins s σ H _ I h) fun v s1 ⟨x, H1, I1, r1, q1⟩ => ?_) he) he hpl
  refine args_cons (ld_blt I1 hg2 hc hv (args_nil ?_) hn hdb) h2
  obtain ⟨t, k, q⟩ := q1
  exact call_isi pins s1 σ H1 [x, .ty C] _ Q I1 (.cons r1 (.cons rfl .nil)) ⟨x, .ty C, _, _, _, rfl, .ty C, k.ty, kit_ty (kitB_ok _ (kd_mem k) _ hC), q⟩
/-- isinstance(a, (c, d)) -/
theorem pe_isiT {p4 : Pos} {k0 : Nat} (hm : X.mg "isinstance" = none) (ha : PE X a te) (hc : X.mg c = none) (hd : X.mg d = none) (hC : C ∈ ["int", "str", "list", "tuple", "bool"]) (hD : D ∈ ["int", "str", "list", "tuple", "bool"]) (hv : bootBuiltins c = some (.type C)) (hv2 : bootBuiltins d = some (.type D))
    (hg : Gl X "isinstance" := by rfl) (hg2 : Gl X c := by rfl) (hg3 : Gl X d := by rfl)
    (hn : c ≠ "__name__" := by decide) (hdb : (c == ("__debug__" : Str)) = false := by decide) (hn2 : d ≠ "__name__" := by decide) (hdb2 : (d == ("__debug__" : Str)) = false := by decide)
    (he : starEach [a, .Tuple [.Name c p2, .Name d p3] k0 p4] X.env = (false, eval a X.env) :: starEach [.Tuple [.Name c p2, .Name d p3] k0 p4] X.env := by rfl) (hpl : (backTo pos (starEach [.Tuple [.Name c p2, .Name d p3] k0 p4] X.env)).any (·.1) = false := by rfl)
    (h2 : starEach [.Tuple [.Name c p2, .Name d p3] k0 p4] X.env = (false, eval (.Tuple [.Name c p2, .Name d p3] k0 p4) X.env) :: starEach [] X.env := by rfl)
    (h3 : starEach [.Name c p2, .Name d p3] X.env = (false, eval (.Name c p2) X.env) :: starEach [.Name d p3] X.env := by rfl) (h4 : starEach [.Name d p3] X.env = (false, eval (.Name d p3) X.env) :: starEach [] X.env := by rfl) :
    PE X (.Call (.Name "isinstance" p) [a, .Tuple [.Name c p2, .Name d p3] k0 p4] [] pos) (tIsiT X.K C D te) := by
  refine ⟨fun pins s σ H Q I h => ?_⟩
  refine wpAny_Call_Name_kw (ld_blt (u := .builtin "isinstance") I hg hm (by decide +kernel) ?_ (by decide) (by decide))
  refine callWith_builtin1 (args_cons (thn (ha.run pins s σ H _ I h) fun v s1 ⟨x, H1, I1, r1, q1⟩ => ?_) he) he hpl
  have ht : PE X (.Tuple [.Name c p2, .Name d p3] k0 p4) (tTup (tCons (tC (.ty C)) (tCons (tC (.ty D)) tNil))) := pe_tup (pa_cons (pe_bltn hg2 hc hv rfl hn hdb) (pa_cons (pe_bltn hg3 hd hv2 rfl hn2 hdb2) pa_nil h4) h3)
  refine args_cons (thn (ht.run pins s1 σ H1 (fun y H2 => ∃ p, y = .ref p ∧ H1 p = none ∧ H2 = upd H1 p (.tup [.ty C, .ty D])) I1 ⟨(by show 2 ≤ sizeLine; decide), fun p hp => ⟨p, rfl, hp, rfl⟩⟩) fun v2 s2 ⟨y, H2, I2, r2, p, ey, hp, eH⟩ => args_nil ?_) h2
  subst ey eH
  obtain ⟨t, k, q⟩ := q1
  have e1 := kitB_ok _ (kd_mem k) _ hC
  have e2 := kitB_ok _ (kd_mem k) _ hD
  refine call_isiT pins s2 σ _ [x, .ref p] _ Q I2 (.cons r1 (.cons r2 .nil)) ⟨x, p, [.ty C, .ty D], _, [.type C, .type D], _, rfl, upd_same, .cons (.ty C) (.cons (.ty D) .nil), (k.new hp).ty, ?_, q p hp⟩
  refine kitAny_cons (kit_ty e1) (fun h1 => ?_) (fun h1 => by rw [h1, Bool.true_or])
  refine kitAny_cons (kit_ty e2) (fun h2 => ?_) (fun h2 => by rw [h2, Bool.or_true])
  rw [h1, h2]
  exact kitAny_nil
end
theorem r_isi {K : PySem.W.Frag} {c : String} {te : TE} {σ : L2.St} {H : Hp} {Q : VK} (h : te σ H (IsiK K c Q)) : tIsi K c te σ H Q := h
theorem r_isiT {K : PySem.W.Frag} {c d : String} {te : TE} {σ : L2.St} {H : Hp} {Q : VK} (h : te σ H (IsiTK K c d Q)) : tIsiT K c d te σ H Q := h
theorem r_isiE {K : PySem.W.Frag} {c t : String} {b : Bool} {H : Hp} {Q : VK} {x : V} (k : Kd K H x t) (e : kindIs t c = b) (q : Q (.bl b) H) : IsiK K c Q x H := ⟨t, k, by rw [e]; exact q⟩
theorem r_isiTE {K : PySem.W.Frag} {c d t : String} {b : Bool} {H : Hp} {Q : VK} {x : V} (k : Kd K H x t) (e : (kindIs t c || kindIs t d) = b) (q : ∀ p, H p = none → Q (.bl b) (upd H p (.tup [.ty c, .ty d]))) : IsiTK K c d Q x H := ⟨t, k, by rw [e]; exact q⟩
/-! ### dicts with text keys -/
def DPutK (σ : L2.St) (nx : L2.St → Hp → Prop) (v x : V) : VK := fun y H3 => ∃ a H4, x = .ref a ∧ DPut H3 a y v H4 ∧ nx σ H4
section
variable {σ : L2.St} {H : Hp} {Q : VK} {td ty tv : TE} {nx bk ct : L2.St → Hp → Prop} {rt : VK} {v : V} {p : Addr} {kvs : List (Key × V)} {z : Str}
theorem r_dput (h : tv σ H fun v H1 => td σ H1 fun x H2 => ty σ H2 (DPutK σ nx v x)) : sDPut td ty tv ⟨nx, rt, bk, ct⟩ σ H := h
theorem r_dputS (h : H p = some (.dK kvs)) (c : kvs.length < 100000) (q : nx σ (upd H p (.dK (putK kvs (.inr z) v)))) : DPutK σ nx v (.ref p) (.str z) H := ⟨p, _, rfl, DPut.k (k := .inr z) h (Nat.lt_of_lt_of_le c (by decide)), q⟩
theorem r_dnew (h : ∀ p, H p = none → Q (.ref p) (upd H p (.dK []))) : tDNewK σ H Q := h
theorem r_listD (h : H p = some (.dK kvs)) (q : ∀ l, H l = none → Q (.ref l) (upd H l (.lst (kvs.map fun kv => kV kv.1)))) : rListD [.ref p] H Q := ⟨p, kvs, rfl, h, q⟩
end
/-! ### comprehensions over zip of two of one length -/
section
variable {σ : L2.St} {H : Hp} {Q : VK} {te : TE} {tt : TT} {g : TG} {K : PySem.W.Frag} {tr : TA}
def ZipK (K : PySem.W.Frag) (R : It → Hp → Prop) : List V → Hp → Prop := fun vs H1 => ∃ a b xs ys, vs = [.ref a, .ref b] ∧ ((SqL K H1 a xs ∧ SqL K H1 b ys ∧ R (Itz K a b) H1) ∨ (SqT K H1 a xs ∧ SqT K H1 b ys ∧ R (ItzT K a b) H1))
theorem r_zip {R : It → Hp → Prop} (h : tr σ H (ZipK K R)) : iZipA K tr σ H R := h
theorem r_zipL {R : It → Hp → Prop} {a b : Addr} {xs ys : List V} (h1 : SqL K H a xs) (h2 : SqL K H b ys) (h : R (Itz K a b) H) : ZipK K R [.ref a, .ref b] H := ⟨a, b, xs, ys, rfl, .inl ⟨h1, h2, h⟩⟩
theorem r_zipT {R : It → Hp → Prop} {a b : Addr} {xs ys : List V} (h1 : SqT K H a xs) (h2 : SqT K H b ys) (h : R (ItzT K a b) H) : ZipK K R [.ref a, .ref b] H := ⟨a, b, xs, ys, rfl, .inr ⟨h1, h2, h⟩⟩
theorem lcZ {a b : Addr} {xs ys : List V} {vs : List Nat} (hl : xs.length = ys.length) (h : ∀ D, H D = none → ∃ Pv : Nat → Hp → Prop, Pv 0 (upd H D (.lst [])) ∧ (∀ i H, Pv i H → SqL K H a xs ∧ SqL K H b ys) ∧
      (∀ i x y T H, xs[i]? = some x → ys[i]? = some y → Pv i H → H T = none → g (.ref T) (wipe σ vs) (upd H T (.tup [x, y])) fun σ2 H2 => wipe σ2 vs = wipe σ vs ∧ tt σ2 H2 fun b H3 => if b = true then te σ2 H3 (GrowK D (Pv (i + 1))) else Pv (i + 1) H3) ∧ ∀ H, Pv xs.length H → Q (.ref D) H) :
    LcK (Itz K a b) g tt te vs σ Q H := fun D hD => by
  obtain ⟨Pv, h0, hq, hs, hd⟩ := h D hD
  refine ⟨fun i m H => m = xs.length - i ∧ i ≤ xs.length ∧ Pv i H, ⟨xs.length, by simp, Nat.zero_le _, h0⟩, ?_⟩
  rintro i m H ⟨rfl, hi, p⟩
  obtain ⟨qx, qy⟩ := hq i H p
  by_cases hlt : i < xs.length
  · have hlt2 : i < ys.length := by omega
    refine .inr ⟨⟨xs, ys, _, _, qx, qy, List.getElem?_eq_getElem hlt, List.getElem?_eq_getElem hlt2⟩, Pv (i + 1), fun H' p' => ⟨xs.length - (i + 1), by omega, rfl, hlt, p'⟩, fun v H' y => ?_⟩
    obtain ⟨T, x', y', rfl, hT, rfl, f1, f2⟩ := y
    exact hs i x' y' T H (f1 xs qx) (f2 ys qy) p hT
  · have e : i = xs.length := by omega
    subst e
    exact .inl ⟨⟨xs, ys, qx, qy, Or.inl (Nat.le_refl _)⟩, hd H p⟩
theorem lcZT {a b : Addr} {xs ys : List V} {vs : List Nat} (hl : xs.length = ys.length) (h : ∀ D, H D = none → ∃ Pv : Nat → Hp → Prop, Pv 0 (upd H D (.lst [])) ∧ (∀ i H, Pv i H → SqT K H a xs ∧ SqT K H b ys) ∧
      (∀ i x y T H, xs[i]? = some x → ys[i]? = some y → Pv i H → H T = none → g (.ref T) (wipe σ vs) (upd H T (.tup [x, y])) fun σ2 H2 => wipe σ2 vs = wipe σ vs ∧ tt σ2 H2 fun b H3 => if b = true then te σ2 H3 (GrowK D (Pv (i + 1))) else Pv (i + 1) H3) ∧ ∀ H, Pv xs.length H → Q (.ref D) H) :
    LcK (ItzT K a b) g tt te vs σ Q H := fun D hD => by
  obtain ⟨Pv, h0, hq, hs, hd⟩ := h D hD
  refine ⟨fun i m H => m = xs.length - i ∧ i ≤ xs.length ∧ Pv i H, ⟨xs.length, by simp, Nat.zero_le _, h0⟩, ?_⟩
  rintro i m H ⟨rfl, hi, p⟩
  obtain ⟨qx, qy⟩ := hq i H p
  by_cases hlt : i < xs.length
  · have hlt2 : i < ys.length := by omega
    refine .inr ⟨⟨xs, ys, _, _, qx, qy, List.getElem?_eq_getElem hlt, List.getElem?_eq_getElem hlt2⟩, Pv (i + 1), fun H' p' => ⟨xs.length - (i + 1), by omega, rfl, hlt, p'⟩, fun v H' y => ?_⟩
    obtain ⟨T, x', y', rfl, hT, rfl, f1, f2⟩ := y
    exact hs i x' y' T H (f1 xs qx) (f2 ys qy) p hT
  · have e : i = xs.length := by omega
    subst e
    exact .inl ⟨⟨xs, ys, qx, qy, Or.inl (Nat.le_refl _)⟩, hd H p⟩
end
end RS

/-! RP: programs as data (no program text): steps, their counts and names, how they stand in a heap -/
namespace RS
inductive Stp where
  | set (n : Str) (v : V) (s : Str)
  | look (n : Str)
  | back (s : Str)
  | copy (s : Str)
  | pass
  | begin (p : List Stp)
  | late (p : List Stp)
  | inn (s : Str) (p : List Stp)
def vD : V → PyData
  | .int i => .int i
  | .str z => .str z
  | _ => .none
mutual
def Stp.data : Stp → PyData
  | .set n v s => .tuple [.str "set", .str n, vD v, .str s]
  | .look n => .tuple [.str "look", .str n]
  | .back s => .tuple [.str "back", .str s]
  | .copy s => .tuple [.str "copy", .str s]
  | .pass => .tuple [.str "pass"]
  | .begin p => .tuple [.str "begin", .tuple (dataL p)]
  | .late p => .tuple [.str "late", .tuple (dataL p)]
  | .inn s p => .tuple [.str "in", .str s, .tuple (dataL p)]
def dataL : List Stp → List PyData
  | [] => []
  | s :: r => s.data :: dataL r
end
abbrev progD (p : List Stp) : PyData := .tuple (dataL p)
def Stp.inner : Stp → List Stp
  | .begin p => p
  | .late p => p
  | .inn _ p => p
  | _ => []
def Stp.word : Stp → Str
  | .set _ _ _ => "set"
  | .look _ => "look"
  | .back _ => "back"
  | .copy _ => "copy"
  | .pass => "pass"
  | .begin _ => "begin"
  | .late _ => "late"
  | .inn _ _ => "in"
def Stp.isBlock : Stp → Bool
  | .begin _ => true
  | .late _ => true
  | .inn _ _ => true
  | _ => false
/-- the name that a step sets or looks at -/
def Stp.own : Stp → List Str
  | .set n _ _ => [n]
  | .look n => [n]
  | _ => []
mutual
def Stp.count : Stp → Nat
  | .begin p => countL p + 1
  | .late p => countL p + 1
  | .inn _ p => countL p + 1
  | _ => 1
def countL : List Stp → Nat
  | [] => 0
  | s :: r => s.count + countL r
end
mutual
def Stp.flat : Stp → List Stp
  | .begin p => .begin p :: flatL p
  | .late p => .late p :: flatL p
  | .inn s p => .inn s p :: flatL p
  | s => [s]
def flatL : List Stp → List Stp
  | [] => []
  | s :: r => s.flat ++ flatL r
end
theorem count_eq (s : Stp) : s.count = countL s.inner + 1 := by cases s <;> rfl
theorem flat_eq (s : Stp) : s.flat = s :: flatL s.inner := by cases s <;> rfl
theorem dataL_map : ∀ p : List Stp, dataL p = p.map Stp.data
  | [] => rfl
  | s :: r => by rw [dataL, dataL_map r, List.map_cons]
theorem countL_sum : ∀ p : List Stp, countL p = (p.map Stp.count).sum
  | [] => rfl
  | s :: r => by rw [countL, countL_sum r, List.map_cons, List.sum_cons]
theorem countL_append (p q : List Stp) : countL (p ++ q) = countL p + countL q := by
  rw [countL_sum, countL_sum, countL_sum, List.map_append, List.sum_append]
theorem flatL_append : ∀ p q : List Stp, flatL (p ++ q) = flatL p ++ flatL q
  | [], q => rfl
  | s :: r, q => by rw [List.cons_append, flatL, flatL, flatL_append r q, List.append_assoc]
theorem countL_mem {s : Stp} {p : List Stp} (h : s ∈ p) : s.count ≤ countL p := by
  induction p with
  | nil => cases h
  | cons a r ih =>
    rw [countL]
    rcases List.mem_cons.mp h with rfl | h
    · omega
    · have := ih h
      omega
mutual
theorem flat_len : ∀ s : Stp, s.flat.length = s.count
  | .set _ _ _ => rfl
  | .look _ => rfl
  | .back _ => rfl
  | .copy _ => rfl
  | .pass => rfl
  | .begin p => by rw [Stp.flat, Stp.count, List.length_cons, flatL_len p]
  | .late p => by rw [Stp.flat, Stp.count, List.length_cons, flatL_len p]
  | .inn _ p => by rw [Stp.flat, Stp.count, List.length_cons, flatL_len p]
theorem flatL_len : ∀ p : List Stp, (flatL p).length = countL p
  | [] => rfl
  | s :: r => by rw [flatL, countL, List.length_append, flat_len s, flatL_len r]
end
theorem len_le_count : ∀ p : List Stp, p.length ≤ countL p
  | [] => Nat.le_refl _
  | s :: r => by
    have := len_le_count r
    rw [List.length_cons, countL, count_eq]
    omega
/-- so many calls deep at most: that of a program without steps is 1 -/
def Deep : Nat → List Stp → Prop
  | 0, _ => False
  | n + 1, p => ∀ s ∈ p, Deep n s.inner
theorem Deep.nil (n : Nat) : Deep (n + 1) [] := nofun
theorem Deep.mono : ∀ {n m : Nat} {p : List Stp}, Deep n p → n ≤ m → Deep m p
  | 0, m, p, h, _ => h.elim
  | n + 1, 0, p, h, e => by omega
  | n + 1, m + 1, p, h, e => fun s hs => (h s hs).mono (by omega)
/-- the names, each once, as they come -/
def addName (acc : List Str) (n : Str) : List Str := if n ∈ acc then acc else acc ++ [n]
def addNames (acc ns : List Str) : List Str := ns.foldl addName acc
def namesOf (p : List Stp) : List Str := (flatL p).flatMap Stp.own
theorem namesOf_cons (s : Stp) (r : List Stp) : namesOf (s :: r) = s.own ++ namesOf s.inner ++ namesOf r := by
  unfold namesOf
  rw [flatL, flat_eq, List.flatMap_append, List.flatMap_cons]
theorem addNames_append (acc a b : List Str) : addNames acc (a ++ b) = addNames (addNames acc a) b := List.foldl_append

theorem sum_counts : ∀ p : List Stp, (p.map fun s => ((s.count : Nat) : Int)).sum = ((countL p : Nat) : Int)
  | [] => rfl
  | s :: r => by
    rw [List.map_cons, List.sum_cons, sum_counts r, countL]
    omega
theorem addName_len (acc : List Str) (n : Str) : (addName acc n).length ≤ acc.length + 1 := by
  unfold addName
  split
  · omega
  · rw [List.length_append, List.length_singleton]
    exact Nat.le_refl _
theorem addNames_len : ∀ (ns acc : List Str), (addNames acc ns).length ≤ acc.length + ns.length
  | [], acc => Nat.le_refl _
  | n :: r, acc => by
    have h1 := addNames_len r (addName acc n)
    have h2 := addName_len acc n
    show (addNames (addName acc n) r).length ≤ _
    rw [List.length_cons]
    omega
theorem own_len (s : Stp) : s.own.length ≤ 1 := by cases s <;> simp [Stp.own]
theorem flatMap_own_len : ∀ l : List Stp, (l.flatMap Stp.own).length ≤ l.length
  | [] => Nat.le_refl _
  | s :: r => by
    have := flatMap_own_len r
    have h := own_len s
    rw [List.flatMap_cons, List.length_append, List.length_cons]
    omega
theorem namesOf_len (p : List Stp) : (namesOf p).length ≤ countL p := by
  have := flatMap_own_len (flatL p)
  rw [flatL_len] at this
  exact this
/-- a dict of names, each with True -/
def keysD (ns : List Str) : List (Key × V) := ns.map fun n => (Sum.inr n, V.bl true)
theorem keysD_any (ns : List Str) (n : Str) : ((keysD ns).any fun kv => decide (kv.1 = (Sum.inr n : Key))) = decide (n ∈ ns) := by
  induction ns with
  | nil => rfl
  | cons a r ih =>
    show (decide ((Sum.inr a : Key) = Sum.inr n) || (keysD r).any _) = _
    rw [ih, key_rr]
    by_cases e : a = n
    · subst e
      simp
    · rw [decide_eq_false e, Bool.false_or]
      have : ¬ n = a := fun z => e z.symm
      simp [this]
theorem put_keys (ns : List Str) (n : Str) : putK (keysD ns) (.inr n) (.bl true) = keysD (addName ns n) := by
  unfold putK
  rw [keysD_any]
  unfold addName
  by_cases h : n ∈ ns
  · rw [decide_eq_true h, if_pos rfl, if_pos h]
    unfold keysD
    rw [List.map_map]
    refine List.map_congr_left fun m _ => ?_
    show (if (Sum.inr m : Key) = Sum.inr n then ((Sum.inr m : Key), V.bl true) else (Sum.inr m, V.bl true)) = _
    split <;> rfl
  · rw [decide_eq_false h, if_neg Bool.false_ne_true, if_neg h]
    unfold keysD
    rw [List.map_append]
    rfl
theorem keys_back (ns : List Str) : (keysD ns).map (fun kv => kV kv.1) = ns.map V.str := by
  unfold keysD
  rw [List.map_map]
  rfl
theorem namesOf_take {p : List Stp} {i : Nat} {s : Stp} (h : p[i]? = some s) : namesOf (p.take (i + 1)) = namesOf (p.take i) ++ (s.own ++ namesOf s.inner) := by
  unfold namesOf
  rw [List.take_add_one, h, flatL_append, List.flatMap_append]
  show _ ++ (s.flat ++ flatL []).flatMap Stp.own = _
  rw [show flatL ([] : List Stp) = [] from rfl, List.append_nil, flat_eq, List.flatMap_cons]
/-! ### data in a heap: tuples all the way down -/
mutual
inductive DT (H : Hp) : V → PyData → Prop
  | non : DT H .non .none
  | bl (b : Bool) : DT H (.bl b) (.bool b)
  | int (i : Int) : DT H (.int i) (.int i)
  | str (z : Str) : DT H (.str z) (.str z)
  | tup {a : Addr} {xs : List V} {ds : List PyData} : H a = some (.tup xs) → DTs H xs ds → DT H (.ref a) (.tuple ds)
inductive DTs (H : Hp) : List V → List PyData → Prop
  | nil : DTs H [] []
  | cons {v : V} {vs : List V} {d : PyData} {ds : List PyData} : DT H v d → DTs H vs ds → DTs H (v :: vs) (d :: ds)
end
/-- no tuple changes -/
def TK (H H' : Hp) : Prop := ∀ a xs, H a = some (.tup xs) → H' a = some (.tup xs)
theorem TK.refl {H : Hp} : TK H H := fun _ _ h => h
theorem TK.trans {H H1 H2 : Hp} (a : TK H H1) (b : TK H1 H2) : TK H H2 := fun x o h => b x o (a x o h)
theorem TK.same {H H' : Hp} (s : Same H H') : TK H H' := fun a _ h => s a _ h
theorem TK.new {H H1 : Hp} {p : Addr} {o : HO} (a : TK H H1) (h : H1 p = none) : TK H (upd H1 p o) := fun x u e => upd_new h (a x u e)
theorem TK.mut {H H1 : Hp} {p : Addr} {o o' : HO} (a : TK H H1) (h : H1 p = some o') (hn : ∀ xs, o' ≠ .tup xs) : TK H (upd H1 p o) := fun x u e => upd_old (ne_of (a x u e) h fun z => hn u z.symm) (a x u e)
/-- what stands at M is no tuple -/
theorem TK.keep {M : List Addr} {H H' : Hp} (k : Keep M H H') (h : ∀ m ∈ M, ∀ xs, H m ≠ some (.tup xs)) : TK H H' := fun a xs e => k a _ (fun hm => h a hm xs e) e
mutual
theorem DT.mono {H H' : Hp} (t : TK H H') : ∀ {v : V} {d : PyData}, DT H v d → DT H' v d
  | _, _, .non => .non
  | _, _, .bl b => .bl b
  | _, _, .int i => .int i
  | _, _, .str z => .str z
  | _, _, .tup h hs => .tup (t _ _ h) (DTs.mono t hs)
theorem DTs.mono {H H' : Hp} (t : TK H H') : ∀ {vs : List V} {ds : List PyData}, DTs H vs ds → DTs H' vs ds
  | _, _, .nil => .nil
  | _, _, .cons h hs => .cons (DT.mono t h) (DTs.mono t hs)
end
mutual
theorem DT.dp {K : PySem.W.Frag} {H : Hp} : ∀ {v : V} {d : PyData}, DT H v d → Dp K H v d
  | _, _, .non => .non
  | _, _, .bl b => .bl b
  | _, _, .int i => .int i
  | _, _, .str z => .str z
  | _, _, .tup h hs => .tup (SqT.of h) (DTs.dp hs)
theorem DTs.dp {K : PySem.W.Frag} {H : Hp} : ∀ {vs : List V} {ds : List PyData}, DTs H vs ds → DpAll K H vs ds
  | _, _, .nil => .nil
  | _, _, .cons h hs => .cons (DT.dp h) (DTs.dp hs)
end
theorem DTs.len {H : Hp} : ∀ {vs : List V} {ds : List PyData}, DTs H vs ds → vs.length = ds.length
  | _, _, .nil => rfl
  | _, _, .cons _ hs => by rw [List.length_cons, List.length_cons, hs.len]
theorem DTs.get {H : Hp} : ∀ {vs : List V} {ds : List PyData} {i : Nat} {v : V}, DTs H vs ds → vs[i]? = some v → ∃ d, ds[i]? = some d ∧ DT H v d
  | _, _, _, _, .nil, h => by simp at h
  | _, _, 0, _, .cons a _, h => by
    have e := Option.some.inj h
    subst e
    exact ⟨_, rfl, a⟩
  | _, _, i + 1, _, .cons _ b, h => DTs.get (i := i) b h
theorem DTs.append {H : Hp} : ∀ {vs ws : List V} {ds es : List PyData}, DTs H vs ds → DTs H ws es → DTs H (vs ++ ws) (ds ++ es)
  | _, _, _, _, .nil, h => h
  | _, _, _, _, .cons a b, h => .cons a (DTs.append b h)
theorem DTs.reverse {H : Hp} : ∀ {vs : List V} {ds : List PyData}, DTs H vs ds → DTs H vs.reverse ds.reverse
  | _, _, .nil => .nil
  | _, _, .cons a b => by
    rw [List.reverse_cons, List.reverse_cons]
    exact (DTs.reverse b).append (.cons a .nil)
theorem DT.tup_inv {H : Hp} {v : V} {ds : List PyData} (h : DT H v (.tuple ds)) : ∃ a xs, v = .ref a ∧ H a = some (.tup xs) ∧ DTs H xs ds := by
  cases h with
  | tup h hs => exact ⟨_, _, rfl, h, hs⟩
theorem DTs.cons_inv {H : Hp} {xs : List V} {d : PyData} {ds : List PyData} (h : DTs H xs (d :: ds)) : ∃ v vs, xs = v :: vs ∧ DT H v d ∧ DTs H vs ds := by
  cases h with
  | cons a b => exact ⟨_, _, rfl, a, b⟩
theorem DTs.nil_inv {H : Hp} {xs : List V} (h : DTs H xs []) : xs = [] := by
  cases h
  rfl
theorem DT.str_inv {H : Hp} {v : V} {z : Str} (h : DT H v (.str z)) : v = .str z := by
  cases h
  rfl
/-- how a step stands: its word first, a block's program last, the name it sets or looks at second -/
theorem step_at {H : Hp} {v : V} {s : Stp} (h : DT H v s.data) : ∃ a xs, v = .ref a ∧ H a = some (.tup xs) ∧ xs.length ≤ 4 ∧ atI xs 0 = some (.str s.word) ∧
    (s.isBlock = true → ∃ vi, atI xs (-1) = some vi ∧ DT H vi (progD s.inner)) ∧ (∀ n ∈ s.own, atI xs 1 = some (.str n)) := by
  cases s with
  | set n w s =>
    obtain ⟨a, xs, rfl, ha, hs⟩ := h.tup_inv
    obtain ⟨v1, _, rfl, h1, hs⟩ := hs.cons_inv
    obtain ⟨v2, _, rfl, h2, hs⟩ := hs.cons_inv
    obtain ⟨v3, _, rfl, h3, hs⟩ := hs.cons_inv
    obtain ⟨v4, _, rfl, h4, hs⟩ := hs.cons_inv
    cases hs.nil_inv
    cases h1.str_inv
    cases h2.str_inv
    refine ⟨a, _, rfl, ha, by simp, rfl, nofun, fun m hm => ?_⟩
    rw [List.mem_singleton.mp hm]
    rfl
  | look n =>
    obtain ⟨a, xs, rfl, ha, hs⟩ := h.tup_inv
    obtain ⟨v1, _, rfl, h1, hs⟩ := hs.cons_inv
    obtain ⟨v2, _, rfl, h2, hs⟩ := hs.cons_inv
    cases hs.nil_inv
    cases h1.str_inv
    cases h2.str_inv
    refine ⟨a, _, rfl, ha, by simp, rfl, nofun, fun m hm => ?_⟩
    rw [List.mem_singleton.mp hm]
    rfl
  | back n =>
    obtain ⟨a, xs, rfl, ha, hs⟩ := h.tup_inv
    obtain ⟨v1, _, rfl, h1, hs⟩ := hs.cons_inv
    obtain ⟨v2, _, rfl, h2, hs⟩ := hs.cons_inv
    cases hs.nil_inv
    cases h1.str_inv
    exact ⟨a, _, rfl, ha, by simp, rfl, nofun, nofun⟩
  | copy n =>
    obtain ⟨a, xs, rfl, ha, hs⟩ := h.tup_inv
    obtain ⟨v1, _, rfl, h1, hs⟩ := hs.cons_inv
    obtain ⟨v2, _, rfl, h2, hs⟩ := hs.cons_inv
    cases hs.nil_inv
    cases h1.str_inv
    exact ⟨a, _, rfl, ha, by simp, rfl, nofun, nofun⟩
  | pass =>
    obtain ⟨a, xs, rfl, ha, hs⟩ := h.tup_inv
    obtain ⟨v1, _, rfl, h1, hs⟩ := hs.cons_inv
    cases hs.nil_inv
    cases h1.str_inv
    exact ⟨a, _, rfl, ha, by simp, rfl, nofun, nofun⟩
  | begin p =>
    obtain ⟨a, xs, rfl, ha, hs⟩ := h.tup_inv
    obtain ⟨v1, _, rfl, h1, hs⟩ := hs.cons_inv
    obtain ⟨v2, _, rfl, h2, hs⟩ := hs.cons_inv
    cases hs.nil_inv
    cases h1.str_inv
    exact ⟨a, _, rfl, ha, by simp, rfl, fun _ => ⟨v2, rfl, h2⟩, nofun⟩
  | late p =>
    obtain ⟨a, xs, rfl, ha, hs⟩ := h.tup_inv
    obtain ⟨v1, _, rfl, h1, hs⟩ := hs.cons_inv
    obtain ⟨v2, _, rfl, h2, hs⟩ := hs.cons_inv
    cases hs.nil_inv
    cases h1.str_inv
    exact ⟨a, _, rfl, ha, by simp, rfl, fun _ => ⟨v2, rfl, h2⟩, nofun⟩
  | inn n p =>
    obtain ⟨a, xs, rfl, ha, hs⟩ := h.tup_inv
    obtain ⟨v1, _, rfl, h1, hs⟩ := hs.cons_inv
    obtain ⟨v2, _, rfl, h2, hs⟩ := hs.cons_inv
    obtain ⟨v3, _, rfl, h3, hs⟩ := hs.cons_inv
    cases hs.nil_inv
    cases h1.str_inv
    exact ⟨a, _, rfl, ha, by simp, rfl, fun _ => ⟨v3, rfl, h3⟩, nofun⟩
theorem word_block (s : Stp) : inV (.str s.word) [.str "begin", .str "late", .str "in"] = s.isBlock := by cases s <;> rfl
theorem word_own (s : Stp) : inV (.str s.word) [.str "set", .str "look"] = !s.own.isEmpty := by cases s <;> rfl
theorem noblock_inner {s : Stp} (h : s.isBlock = false) : s.inner = [] := by cases s <;> first | rfl | cases h
theorem prog_at {H : Hp} {v : V} {p : List Stp} (h : DT H v (progD p)) : ∃ a xs, v = .ref a ∧ H a = some (.tup xs) ∧ DTs H xs (dataL p) := h.tup_inv
theorem prog_len {H : Hp} {xs : List V} {p : List Stp} (h : DTs H xs (dataL p)) : xs.length = p.length := by
  rw [h.len, dataL_map, List.length_map]
theorem prog_get {H : Hp} {xs : List V} {p : List Stp} {i : Nat} {v : V} (h : DTs H xs (dataL p)) (e : xs[i]? = some v) : ∃ s, p[i]? = some s ∧ DT H v s.data := by
  obtain ⟨d, hd, hv⟩ := h.get e
  rw [dataL_map, List.getElem?_map] at hd
  cases hp : p[i]? with
  | none => rw [hp] at hd; cases hd
  | some s =>
    rw [hp] at hd
    cases Option.some.inj hd
    exact ⟨s, rfl, hv⟩
/-! ### data of bounded depth and width -/
def Lv : Nat → PyData → Prop
  | 0, _ => False
  | n + 1, .list ds => ds.length ≤ 1000 ∧ ∀ d ∈ ds, Lv n d
  | n + 1, .tuple ds => ds.length ≤ 1000 ∧ ∀ d ∈ ds, Lv n d
  | _ + 1, .dict _ => False
  | _ + 1, .none => True
  | _ + 1, .bool _ => True
  | _ + 1, .int _ => True
  | _ + 1, .str _ => True
theorem DpAll.len {K : PySem.W.Frag} {H : Hp} : ∀ {vs : List V} {ds : List PyData}, DpAll K H vs ds → vs.length = ds.length
  | _, _, .nil => rfl
  | _, _, .cons _ hs => by rw [List.length_cons, List.length_cons, DpAll.len hs]
theorem DpAll.get {K : PySem.W.Frag} {H : Hp} : ∀ {vs : List V} {ds : List PyData} {i : Nat} {v : V}, DpAll K H vs ds → vs[i]? = some v → ∃ d, ds[i]? = some d ∧ Dp K H v d
  | _, _, _, _, .nil, h => by simp at h
  | _, _, 0, _, .cons a _, h => by
    have e := Option.some.inj h
    subst e
    exact ⟨_, rfl, a⟩
  | _, _, i + 1, _, .cons _ b, h => DpAll.get (i := i) b h
mutual
theorem Dp.mono {K : PySem.W.Frag} {H H' : Hp} (s : Same H H') : ∀ {v : V} {d : PyData}, Dp K H v d → Dp K H' v d
  | _, _, .non => .non
  | _, _, .bl b => .bl b
  | _, _, .int i => .int i
  | _, _, .str z => .str z
  | _, _, .lst h hs => .lst (s.seq h) (DpAll.mono s hs)
  | _, _, .tup h hs => .tup (sqT_same s h) (DpAll.mono s hs)
theorem DpAll.mono {K : PySem.W.Frag} {H H' : Hp} (s : Same H H') : ∀ {vs : List V} {ds : List PyData}, DpAll K H vs ds → DpAll K H' vs ds
  | _, _, .nil => .nil
  | _, _, .cons h hs => .cons (Dp.mono s h) (DpAll.mono s hs)
end
theorem Dp.lst_inv {K : PySem.W.Frag} {H : Hp} {v : V} {ds : List PyData} (h : Dp K H v (.list ds)) : ∃ a xs, v = .ref a ∧ SqL K H a xs ∧ DpAll K H xs ds := by
  cases h with
  | lst h hs => exact ⟨_, _, rfl, h, hs⟩
theorem Dp.tup_inv {K : PySem.W.Frag} {H : Hp} {v : V} {ds : List PyData} (h : Dp K H v (.tuple ds)) : ∃ a xs, v = .ref a ∧ SqT K H a xs ∧ DpAll K H xs ds := by
  cases h with
  | tup h hs => exact ⟨_, _, rfl, h, hs⟩
theorem dp_strs {K : PySem.W.Frag} {H : Hp} : ∀ ns : List Str, DpAll K H (ns.map V.str) (ns.map PyData.str)
  | [] => .nil
  | _ :: r => .cons (.str _) (dp_strs r)
theorem rep_all (n : Nat) : (List.replicate n true).all id = true := by
  induction n with
  | zero => rfl
  | succ n ih => rw [List.replicate_succ, List.all_cons, ih] <;> rfl
theorem dataL_append (p q : List Stp) : dataL (p ++ q) = dataL p ++ dataL q := by rw [dataL_map, dataL_map, dataL_map, List.map_append]
theorem dataL_reverse (p : List Stp) : dataL p.reverse = (dataL p).reverse := by rw [dataL_map, dataL_map, List.map_reverse]
/-! texts of names, values in order -/
mutual
def OkS : Stp → Prop
  | .set n v s => NameS n ∧ ValOk v ∧ NameS s
  | .look n => NameS n
  | .back s => NameS s
  | .copy s => NameS s
  | .pass => True
  | .begin p => OkL p
  | .late p => OkL p
  | .inn s p => NameS s ∧ OkL p
def OkL : List Stp → Prop
  | [] => True
  | s :: r => OkS s ∧ OkL r
end
theorem OkL.mem : ∀ {p : List Stp}, OkL p → ∀ s ∈ p, OkS s
  | s :: r, h, x, hx => by
    rcases List.mem_cons.mp hx with rfl | hx
    · exact h.1
    · exact OkL.mem h.2 x hx
theorem OkL.of : ∀ {p : List Stp}, (∀ s ∈ p, OkS s) → OkL p
  | [], _ => trivial
  | s :: r, h => ⟨h s List.mem_cons_self, OkL.of fun x hx => h x (List.mem_cons_of_mem _ hx)⟩
theorem OkS.inner {s : Stp} (h : OkS s) : OkL s.inner := by
  cases s with
  | set n v s => exact trivial
  | look n => exact trivial
  | back n => exact trivial
  | copy n => exact trivial
  | pass => exact trivial
  | begin p => exact h
  | late p => exact h
  | inn n p => exact h.2
theorem strOk_of {z : Str} (h : ∀ c ∈ tl z, c ≤ 126) : PyData.strOk z = true := by
  unfold PyData.strOk
  rw [← Array.all_toList, List.all_eq_true]
  intro c hc
  have := h c hc
  exact decide_eq_true (by omega)
theorem NameS.ok {z : Str} (h : NameS z) : PyData.strOk z = true := strOk_of fun c hc => by have := h.2.2 c hc; omega
theorem NameS.val {z : Str} (h : NameS z) : ValOk (.str z) := ⟨by have := h.2.1; omega, fun c hc => by have := h.2.2 c hc; omega⟩
theorem ValOk.lay {v : V} (h : ValOk v) : (vD v).canLay0 = true ∧ (vD v).depth = 0 := by
  cases v with
  | int i => exact ⟨by simp [vD, PyData.canLay0], by simp [vD, PyData.depth]⟩
  | str z => exact ⟨by simp only [vD, PyData.canLay0]; exact strOk_of fun c hc => (h.2 c hc).2, by simp [vD, PyData.depth]⟩
  | _ => exact h.elim
theorem ValOk.dt {v : V} {H : Hp} (h : ValOk v) : DT H v (vD v) := by
  cases v with
  | int i => exact .int i
  | str z => exact .str z
  | _ => exact h.elim
mutual
theorem OkS.lay : ∀ {s : Stp}, OkS s → s.data.canLay0 = true
  | .set n v s, h => by simp [Stp.data, PyData.canLay0, PyData.canLayAll0, h.1.ok, h.2.1.lay.1, h.2.2.ok]; decide +kernel
  | .look n, h => by simp [Stp.data, PyData.canLay0, PyData.canLayAll0, NameS.ok h]; decide +kernel
  | .back n, h => by simp [Stp.data, PyData.canLay0, PyData.canLayAll0, NameS.ok h]; decide +kernel
  | .copy n, h => by simp [Stp.data, PyData.canLay0, PyData.canLayAll0, NameS.ok h]; decide +kernel
  | .pass, _ => by simp [Stp.data, PyData.canLay0, PyData.canLayAll0]; decide +kernel
  | .begin p, h => by simp [Stp.data, PyData.canLay0, PyData.canLayAll0, OkL.lay h]; decide +kernel
  | .late p, h => by simp [Stp.data, PyData.canLay0, PyData.canLayAll0, OkL.lay h]; decide +kernel
  | .inn n p, h => by simp [Stp.data, PyData.canLay0, PyData.canLayAll0, OkL.lay h.2, h.1.ok]; decide +kernel
theorem OkL.lay : ∀ {p : List Stp}, OkL p → PyData.canLayAll0 (dataL p) = true
  | [], _ => by simp [dataL, PyData.canLayAll0]
  | s :: r, h => by simp [dataL, PyData.canLayAll0, OkS.lay h.1, OkL.lay h.2]
end
theorem depthAll_le {n : Nat} : ∀ {ds : List PyData}, (∀ d ∈ ds, d.depth ≤ n) → PyData.depthAll ds ≤ n
  | [], _ => by simp [PyData.depthAll]
  | d :: r, h => by
    simp only [PyData.depthAll]
    have h1 := h d List.mem_cons_self
    have h2 := depthAll_le (ds := r) fun x hx => h x (List.mem_cons_of_mem _ hx)
    omega
theorem OkS.depth0 {s : Stp} (h : OkS s) : s.data.depth ≤ PyData.depthAll (dataL s.inner) + 2 := by
  cases s with
  | set n v s => simp [Stp.data, Stp.inner, PyData.depth, PyData.depthAll, h.2.1.lay.2]
  | look n => simp [Stp.data, Stp.inner, PyData.depth, PyData.depthAll]
  | back n => simp [Stp.data, Stp.inner, PyData.depth, PyData.depthAll]
  | copy n => simp [Stp.data, Stp.inner, PyData.depth, PyData.depthAll]
  | pass => simp [Stp.data, Stp.inner, PyData.depth, PyData.depthAll]
  | begin p => simp [Stp.data, Stp.inner, PyData.depth, PyData.depthAll]
  | late p => simp [Stp.data, Stp.inner, PyData.depth, PyData.depthAll]
  | inn n p => simp [Stp.data, Stp.inner, PyData.depth, PyData.depthAll]
theorem deep_depth : ∀ {n : Nat} {p : List Stp}, OkL p → Deep n p → PyData.depthAll (dataL p) ≤ 2 * n
  | 0, _, _, h => h.elim
  | n + 1, p, ok, h => depthAll_le fun d hd => by
    rw [dataL_map] at hd
    obtain ⟨s, hs, rfl⟩ := List.mem_map.mp hd
    have h1 := (ok.mem s hs).depth0
    have h2 := deep_depth (ok.mem s hs).inner (h s hs)
    omega
theorem shaped_of {n : Nat} {p : List Stp} (ok : OkL p) (h : Deep n p) (hn : n ≤ 30) : SeqAt.shaped (.list (dataL p)) = true := by
  unfold SeqAt.shaped
  rw [Bool.and_eq_true]
  refine ⟨by simp only [PyData.canLay0]; exact ok.lay, decide_eq_true ?_⟩
  have := deep_depth ok h
  simp only [PyData.depth]
  omega
theorem Deep.append {n : Nat} {p q : List Stp} (a : Deep n p) (b : Deep n q) : Deep n (p ++ q) := by
  cases n with
  | zero => exact a.elim
  | succ n => exact fun s hs => (List.mem_append.mp hs).elim (a s) (b s)
theorem OkL.append {p q : List Stp} (a : OkL p) (b : OkL q) : OkL (p ++ q) := OkL.of fun s hs => (List.mem_append.mp hs).elim (a.mem s) (b.mem s)
theorem Deep.up {n : Nat} {p : List Stp} {s : Stp} (a : Deep (n + 1) p) (h : s ∈ p) : Deep (n + 1) s.inner := (a s h).mono (by omega)
theorem mem_addName {acc : List Str} {n x : Str} : x ∈ addName acc n ↔ x ∈ acc ∨ x = n := by
  unfold addName
  split
  · rename_i h
    constructor
    · exact .inl
    · rintro (h2 | rfl)
      · exact h2
      · exact h
  · rw [List.mem_append, List.mem_singleton]
theorem mem_addNames : ∀ {ns acc : List Str} {x : Str}, x ∈ addNames acc ns ↔ x ∈ acc ∨ x ∈ ns
  | [], acc, x => by simp [addNames]
  | n :: r, acc, x => by
    show x ∈ addNames (addName acc n) r ↔ _
    rw [mem_addNames, mem_addName, List.mem_cons, or_assoc]
theorem addNames_in : ∀ {ns acc : List Str}, (∀ x ∈ ns, x ∈ acc) → addNames acc ns = acc
  | [], acc, _ => rfl
  | n :: r, acc, h => by
    show addNames (addName acc n) r = acc
    have e : addName acc n = acc := if_pos (h n List.mem_cons_self)
    rw [e]
    exact addNames_in fun x hx => h x (List.mem_cons_of_mem _ hx)
theorem namesOf_append (p q : List Stp) : namesOf (p ++ q) = namesOf p ++ namesOf q := by
  unfold namesOf
  rw [flatL_append, List.flatMap_append]
theorem names_twice (p : List Stp) : addNames [] (namesOf (p ++ p)) = addNames [] (namesOf p) := by
  rw [namesOf_append, addNames_append]
  exact addNames_in fun x hx => mem_addNames.mpr (.inr hx)
theorem inV_strs (n : Str) : ∀ ns : List Str, inV (.str n) (ns.map V.str) = decide (n ∈ ns)
  | [] => rfl
  | a :: r => by
    have ih := inV_strs n r
    unfold inV at ih ⊢
    rw [List.map_cons, List.any_cons, ih]
    show (decide (a = n) || _) = _
    by_cases e : a = n
    · subst e
      simp
    · rw [decide_eq_false e, Bool.false_or]
      have : ¬ n = a := fun z => e z.symm
      simp [this]
theorem flat_strs (ns : List Str) : (ns.map V.str).all flatV = true := by
  rw [List.all_eq_true]
  intro v hv
  obtain ⟨z, _, rfl⟩ := List.mem_map.mp hv
  rfl
end RS

namespace RS
open PySem PySem.Spec L2 PyProof.Rows RZ
open PySem.W (KeysLit)
set_option autoImplicit false
/-! ### a dict of the module with text keys: in, not in, d[k] -/
inductive DEs : List DictEntry → List (Str × V) → Prop where
  | nil : DEs [] []
  | cons {e : DictEntry} {es : List DictEntry} {z : Str} {v : V} {ks : List (Str × V)} {t : Tok} : e.key = .str z t → RelV v e.val → DEs es ks → DEs (e :: es) ((z, v) :: ks)
/-- the written dict at p, by its keys -/
structure Dct (K : PySem.W.Frag) (w : World) (p : Addr) (ks : List (Str × V)) : Prop where
  low : (p == sysModules) = false
  ex : ∃ es n, K.lookup p = some ⟨.type "dict", none, .dict es n, #[]⟩ ∧ KeysLit w.params es.toList ∧ DEs es.toList ks
theorem dct_find : ∀ {es : List DictEntry} {ks : List (Str × V)}, DEs es ks → ∀ z : Str,
    match ks.find? (fun k => k.1 == z) with
    | some k => ∃ u, (es.find? fun e => Value.isStrOf z e.key).map (·.val) = some u ∧ RelV k.2 u
    | none => (es.find? fun e => Value.isStrOf z e.key).map (·.val) = none
  | _, _, .nil, z => rfl
  | e :: es, (k, _) :: ks, .cons h1 h2 hr, z => by
    have ih := dct_find hr z
    have hk : Value.isStrOf z e.key = (k == z) := by rw [h1]; rfl
    rw [List.find?_cons, List.find?_cons, hk]
    cases hc : (k == z) with
    | true => exact ⟨_, rfl, h2⟩
    | false => exact ih
def rNinK (K : PySem.W.Frag) (w : World) : R2 := fun x y H Q => ∃ z p ks, x = .str z ∧ y = .ref p ∧ Dct K w p ks ∧ Q (.bl (!(ks.find? (fun k => k.1 == z)).isSome)) H
def rIxK (K : PySem.W.Frag) (w : World) : R2 := fun x y H Q => ∃ z p ks k, x = .ref p ∧ y = .str z ∧ Dct K w p ks ∧ ks.find? (fun k => k.1 == z) = some k ∧ Q k.2 H
section
variable {X : Cx}
theorem op_ninK : OpR X (compareOp .NotIn) (rNinK X.K X.w) := by
  intro pins s σ H x y v u Q I rx ry h
  obtain ⟨z, p, ks, rfl, rfl, ⟨low, es, n, hl, hk, hf⟩, q⟩ := h
  obtain ⟨t, rfl⟩ := (show ∃ t, v = Value.str z t from rx)
  obtain rfl : u = Value.ref p := ry
  have hm := PySem.W.mapOf_K (prog := X.prog) (w := X.w) I.kIn hl hk
  refine wpAny_notIn_of (strKind_is X.prog X.w z t) low hm ?_
  have hd := dct_find hf z
  have e : (findBy Value.isStrOf es z).isSome = (ks.find? (fun k => k.1 == z)).isSome := by
    show ((es.find? fun e => Value.isStrOf z e.key).map (·.val)).isSome = _
    rw [← Array.find?_toList]
    cases hc : ks.find? (fun k => k.1 == z) with
    | some k =>
      rw [hc] at hd
      obtain ⟨u, e, _⟩ := hd
      rw [e]
      rfl
    | none =>
      rw [hc] at hd
      dsimp only at hd
      rw [hd]
      rfl
  rw [e]
  exact ⟨.bl _, H, I.tok _, rfl, q⟩
theorem ix_K : IxR X (rIxK X.K X.w) := by
  intro value slice pins s σ H x y v u Q I rx ry h hs
  obtain ⟨z, p, ks, k, rfl, rfl, ⟨low, es, n, hl, hk, hf⟩, hc, q⟩ := h
  obtain rfl : v = Value.ref p := rx
  obtain ⟨t, rfl⟩ := (show ∃ t, u = Value.str z t from ry)
  have hm := PySem.W.mapOf_K (prog := X.prog) (w := X.w) I.kIn hl hk
  have hd := dct_find hf z
  rw [hc] at hd
  obtain ⟨u0, e, ru⟩ := hd
  have e' : findBy Value.isStrOf es z = some u0 := by
    show (es.find? fun e => Value.isStrOf z e.key).map (·.val) = _
    rw [← Array.find?_toList]
    exact e
  exact tail_any hm.typeIs slot_dict_getitem.lookup (wpAny_getItem_of (strKind_is X.prog X.w z t) hm e' ⟨k.2, H, I.tok _, ru, q⟩) hs
end
theorem r_ninK {K : PySem.W.Frag} {w : World} {z : Str} {p : Addr} {ks : List (Str × V)} {H : Hp} {Q : VK} (D : Dct K w p ks) (q : Q (.bl (!(ks.find? (fun k => k.1 == z)).isSome)) H) : rNinK K w (.str z) (.ref p) H Q := ⟨z, p, ks, rfl, rfl, D, q⟩
theorem r_ixK {K : PySem.W.Frag} {w : World} {z : Str} {p : Addr} {ks : List (Str × V)} {k : Str × V} {H : Hp} {Q : VK} (D : Dct K w p ks) (h : ks.find? (fun k => k.1 == z) = some k) (q : Q k.2 H) : rIxK K w (.ref p) (.str z) H Q := ⟨z, p, ks, k, rfl, rfl, D, h, q⟩
theorem pe_gv {X : Cx} {x : Str} {v : V} {pos : Pos} (hg : Gl X x) (h : ∃ u, X.mg x = some u ∧ RelV v u) (hd : (x == ("__debug__" : Str)) = false := by decide) : PE X (.Name x pos) (tC v) := by
  obtain ⟨u, hm, r⟩ := h
  exact pe_glob hg hm r hd
/-! ### comparisons of texts, chains -/
def rLeZ : R2 := fun x y H Q => ∃ i j, x = .str i ∧ y = .str j ∧ Q (.bl (!decide (j.cps.toList < i.cps.toList))) H
theorem op_leZ {X : Cx} : OpR X (compareOp .LtE) rLeZ := op_le_str
theorem r_leZ {i j : Str} {H : Hp} {Q : VK} (q : Q (.bl (!decide (j.cps.toList < i.cps.toList))) H) : rLeZ (.str i) (.str j) H Q := ⟨i, j, rfl, rfl, q⟩
def ChK (r' : R2) (tc : TE) (σ : L2.St) (y : V) (Q : VK) : VK := fun z H3 => ∃ k, z = .bl k ∧ (if k = true then tc σ H3 fun w' H4 => r' y w' H4 Q else Q (.bl false) H3)
theorem r_chain {r r' : R2} {ta tb tc : TE} {σ : L2.St} {H : Hp} {Q : VK} (h : ta σ H fun x H1 => tb σ H1 fun y H2 => r x y H2 (ChK r' tc σ y Q)) : tChain r r' ta tb tc σ H Q := h
theorem r_chT {r' : R2} {tc : TE} {σ : L2.St} {y : V} {H : Hp} {Q : VK} {c : Prop} {dc : Decidable c} (h0 : ¬ c → Q (.bl false) H) (h1 : c → tc σ H fun w' H4 => r' y w' H4 Q) : ChK r' tc σ y Q (.bl (decide c)) H := by
  by_cases h : c
  · exact ⟨_, rfl, by rw [decide_eq_true h, if_pos rfl]; exact h1 h⟩
  · exact ⟨_, rfl, by rw [decide_eq_false h, if_neg Bool.false_ne_true]; exact h0 h⟩
theorem r_chN {r' : R2} {tc : TE} {σ : L2.St} {y : V} {H : Hp} {Q : VK} {c : Prop} {dc : Decidable c} (h0 : c → Q (.bl false) H) (h1 : ¬ c → tc σ H fun w' H4 => r' y w' H4 Q) : ChK r' tc σ y Q (.bl (!decide c)) H := by
  by_cases h : c
  · exact ⟨_, rfl, by rw [decide_eq_true h, Bool.not_true, if_neg Bool.false_ne_true]; exact h0 h⟩
  · exact ⟨_, rfl, by rw [decide_eq_false h, Bool.not_false, if_pos rfl]; exact h1 h⟩
/-! ### all([.. for x in ..]): lists of bools -/
section
variable {σ : L2.St} {H : Hp} {Q : VK} {te : TE} {g : TG} {K : PySem.W.Frag} {vs : List Nat}
theorem lcB {J : It} {n : Nat} (bs : Nat → Bool) (hz : n ≤ 100000) (hstop : ∀ Hi, Same H Hi → J.stop n Hi) (hgo : ∀ i Hi, i < n → Same H Hi → J.go i Hi)
    (hs : ∀ i x Hi H' (Q' : VK), i < n → Same H Hi → J.yld i Hi x H' → Same Hi H' ∧ ∀ (_ : ∀ H4, Same H' H4 → Q' (.bl (bs i)) H4), g x (wipe σ vs) H' fun σ2 H2 => wipe σ2 vs = wipe σ vs ∧ te σ2 H2 Q')
    (hd : ∀ D H', Same H H' → H' D = some (.lst (((List.range n).map bs).map V.bl)) → Q (.ref D) H') : LcK J g tYes te vs σ Q H := fun D hD => by
  refine ⟨fun i m Hi => m = n - i ∧ i ≤ n ∧ Same H Hi ∧ Hi D = some (.lst (((List.range i).map bs).map V.bl)), ⟨n, by simp, Nat.zero_le _, same_new hD, upd_same⟩, ?_⟩
  rintro i m Hi ⟨rfl, hi, sm, hDi⟩
  by_cases hlt : i < n
  · refine .inr ⟨hgo i Hi hlt sm, fun H' => i + 1 ≤ n ∧ Same H H' ∧ H' D = some (.lst (((List.range (i + 1)).map bs).map V.bl)), fun H' p' => ⟨n - (i + 1), by omega, rfl, p'⟩, fun x H' y => ?_⟩
    obtain ⟨s1, hh⟩ := hs i x Hi H' (GrowK D fun H' => i + 1 ≤ n ∧ Same H H' ∧ H' D = some (.lst (((List.range (i + 1)).map bs).map V.bl))) hlt sm y
    refine hh fun H4 s4 => ?_
    refine r_lcE (s4 _ _ (s1 _ _ hDi)) (by rw [List.length_map, List.length_map, List.length_range]; omega) ⟨hlt, ?_, ?_⟩
    · exact ((Same.keep (M := []) ((sm.trans s1).trans s4)).own hD).same
    · rw [upd_same, List.range_succ, List.map_append, List.map_append]
      rfl
  · have e : i = n := by omega
    subst e
    exact .inl ⟨hstop Hi sm, hd D Hi sm hDi⟩
theorem lcTB {a : Addr} {xs : List V} (bs : Nat → Bool) (hT : SqT K H a xs) (hz : xs.length ≤ 100000)
    (hs : ∀ i x Hi (Q' : VK), xs[i]? = some x → Same H Hi → (∀ H4, Same Hi H4 → Q' (.bl (bs i)) H4) → g x (wipe σ vs) Hi fun σ2 H2 => wipe σ2 vs = wipe σ vs ∧ te σ2 H2 Q')
    (hd : ∀ D H', Same H H' → H' D = some (.lst (((List.range xs.length).map bs).map V.bl)) → Q (.ref D) H') : LcK (Itt K a) g tYes te vs σ Q H :=
  lcB bs hz (fun Hi sm => ⟨xs, sqT_same sm hT, Nat.le_refl _⟩) (fun i Hi hi sm => ⟨xs, xs[i], sqT_same sm hT, List.getElem?_eq_getElem hi⟩)
    (fun i x Hi H' Q' hi sm y => by
      obtain ⟨rfl, y⟩ := y
      exact ⟨Same.refl _, fun q => hs i x H' Q' (y xs (sqT_same sm hT)) sm q⟩) hd
theorem lcSB {z : Str} (P : Nat → Bool) (hz : z.cps.size ≤ 100000)
    (hs : ∀ c Hi (Q' : VK), c ∈ z.cps.toList → Same H Hi → (∀ H4, Same Hi H4 → Q' (.bl (P c)) H4) → g (.str ⟨#[c]⟩) (wipe σ vs) Hi fun σ2 H2 => wipe σ2 vs = wipe σ vs ∧ te σ2 H2 Q')
    (hd : ∀ D H', Same H H' → H' D = some (.lst ((z.cps.toList.map P).map V.bl)) → Q (.ref D) H') : LcK (Its z) g tYes te vs σ Q H := by
  refine lcB (n := z.cps.size) (fun i => P (z.cps[i]?.getD 0)) hz (fun Hi _ => Nat.le_refl _) (fun i Hi hi _ => hi) (fun i x Hi H' Q' hi sm y => ?_) (fun D H' sm hD => hd D H' sm ?_)
  · obtain ⟨rfl, c, hc, rfl⟩ := y
    refine ⟨Same.refl _, fun q => hs c H' Q' ?_ sm (by rw [hc] at q; exact q)⟩
    rw [← Array.getElem?_toList] at hc
    exact List.mem_of_getElem? hc
  · rw [hD]
    congr 3
    apply List.ext_getElem
    · simp
    · intro i h1 h2
      simp at h1 h2
      simp [h2]
theorem lcZB {a b : Addr} {xs ys : List V} (bs : Nat → Bool) (hl : xs.length = ys.length) (hA : SqT K H a xs) (hB : SqT K H b ys) (hz : xs.length ≤ 100000)
    (hs : ∀ i x y T Hi (Q' : VK), xs[i]? = some x → ys[i]? = some y → Same H Hi → Hi T = some (.tup [x, y]) → (∀ H4, Same Hi H4 → Q' (.bl (bs i)) H4) → g (.ref T) (wipe σ vs) Hi fun σ2 H2 => wipe σ2 vs = wipe σ vs ∧ te σ2 H2 Q')
    (hd : ∀ D H', Same H H' → H' D = some (.lst (((List.range xs.length).map bs).map V.bl)) → Q (.ref D) H') : LcK (ItzT K a b) g tYes te vs σ Q H := by
  refine lcB bs hz (fun Hi sm => ⟨xs, ys, sqT_same sm hA, sqT_same sm hB, .inl (Nat.le_refl _)⟩) (fun i Hi hi sm => ⟨xs, ys, _, _, sqT_same sm hA, sqT_same sm hB, List.getElem?_eq_getElem hi, List.getElem?_eq_getElem (hl ▸ hi)⟩)
    (fun i v Hi H' Q' hi sm y => ?_) hd
  obtain ⟨T, x, y, rfl, hT, rfl, h1, h2⟩ := y
  exact ⟨same_new hT, fun q => hs i x y T _ Q' (h1 xs (sqT_same sm hA)) (h2 ys (sqT_same sm hB)) (sm.trans (same_new hT)) upd_same q⟩
end
def IStrK (R : It → Hp → Prop) : VK := fun v H1 => ∃ x, v = .str x ∧ R (Its x) H1
theorem r_iStr {R : It → Hp → Prop} {te : TE} {σ : L2.St} {H : Hp} (h : te σ H (IStrK R)) : iStr te σ H R := h
theorem r_iStrE {R : It → Hp → Prop} {z : Str} {H : Hp} (h : R (Its z) H) : IStrK R (.str z) H := ⟨z, rfl, h⟩
/-! ### the rest of a tuple -/
theorem r_ixT0 {K : PySem.W.Frag} {a : Addr} {x : V} {xs : List V} {H : Hp} {Q : VK} (h : SqT K H a (x :: xs)) (q : Q x H) : rIxT K (.ref a) (.int 0) H Q := r_ixT h (at_g (j := 0) rfl rfl) q
theorem r_slT1 {K : PySem.W.Frag} {a : Addr} {x : V} {xs : List V} {H : Hp} {Q : VK} (h : SqT K H a (x :: xs)) (q : ∀ p, H p = none → Q (.ref p) (upd H p (.tup xs))) : rSlT K (.ref a) (some 1) none H Q := by
  have e1 : HT.sIx (x :: xs).length 0 (some 1) = 1 := by
    rw [show HT.sIx (x :: xs).length 0 (some 1) = min 1 (x :: xs).length from HT.sIx_nat _ _ 1, List.length_cons]
    omega
  refine ⟨a, _, rfl, h, fun hh => by rw [e1] at hh; exact absurd hh.1 (by decide), fun p hp => ?_⟩
  have e2 : cutV (x :: xs) (some 1) none = xs := by
    unfold cutV
    rw [e1, show HT.sIx (x :: xs).length (x :: xs).length none = (x :: xs).length from rfl, List.drop_one, List.tail_cons, List.take_of_length_le (by rw [List.length_cons]; omega)]
  rw [e2]
  exact q p hp
end RS

namespace RS
open PySem PySem.Spec L2 PyProof.Rows
set_option autoImplicit false
/-! ### repr of data, in a def that the law's caller calls (no repr is under way there) -/
def rReprG (K : PySem.W.Frag) : List V → Hp → VK → Prop := fun xs H Q => ∃ v d ds, xs = [v] ∧ d = .tuple ds ∧ Dp K H v d ∧ d.showable = true ∧ d.hasDict = false ∧ d.depth ≤ 60 ∧ d.shown.length ≤ sizeLine ∧ Q (.str d.shown) H
theorem call_reprG {X : Cx} (hg : X.A.guards = some []) (hu : X.A.units + 64 < cLine) : CallR X (.builtin "repr") (rReprG X.K) := by
  intro pins s σ H xs us Q I r h
  obtain ⟨v, d, ds, rfl, hd, hv, h1, h2, h3, h4, q⟩ := h
  obtain ⟨u, rfl, ru⟩ := vals1 r
  obtain ⟨as, rd⟩ := Dp.reads I d v u hv ru
  subst hd
  cases hv with
  | tup ht hxs =>
    obtain rfl : u = Value.ref _ := ru
    exact repr_of_reads' rd h1 (fun e => by rw [h2] at e; cases e) hg (by omega) (fun _ _ e => e) (fun h' u tk hk => ⟨.str _, H, I.kept hk, ⟨_, rfl⟩, q⟩) h4
/-- the promise of a def of one parameter, as the law's caller calls it -/
def CallC (P : Program) (w : World) (K : PySem.W.Frag) (mg : Str → Option Value) (base : Heap) (f : Addr) (sp : Sp) : Prop :=
  ∀ (sh : Shared) (Hh : Hp) (u : Value) (v : V) (Q : VK) (E : XK), Env0 P w K mg base callerA [] sh Hh → RelV v u → sp [v] Hh Q E → codeAny (model P w) callerA (.call (.ref f) ⟨[u], []⟩) (CR CX0 [] P w Hh sh Q E) sh
theorem callC_mk {P : Program} {w : World} {K : PySem.W.Frag} {mg : Str → Option Value} {base : Heap} {x qual y : Str} {st : Stmt} {f : Addr} {fd : FuncData} {N : List Str} {k : Nat} {sp : Sp} (F : Fun K x qual st f fd) (S : FnScope N [y] (defScope st)) (hr : Room (k + 1) callerA)
    (hb : ∀ (kV doc pm : Value) (an : Option Addr) (cdv ct u : Value), bindArgs (PySem.W.fnOf x qual (defArgs st) (defBody st) (defScope st) .none kV doc pm an cdv ct) ⟨[u], []⟩ = pure [(y, u)])
    (hbody : ∀ (cdv : Value) (sh : Shared) (Hh : Hp) (v : V) (Q : VK) (E : XK), Room k (callerA.deeper (envOfC qual (defScope st) sh.heap.objs.size f cdv)) → sp [v] Hh Q E →
      ∃ t, PSs (cxOf CX0 P w K mg base N qual (defScope st) f cdv callerA [] sh Hh E).nox (defBody st) t ∧ t ⟨fun _ H' => Q .non H', Q, fun _ _ => False, fun _ _ => False⟩ (start N [v]) Hh) : CallC P w K mg base f sp := by
  obtain ⟨oc, od, kV, doc, pm, an, cdv, ct, osl, rfl, lk, hcd⟩ := F.ex
  intro sh Hh u v Q E env hv hsp
  have old := fun b o e => (env.bs b o e).1
  have inK := env.mod.kin.keeps old
  have noLim := env.mod.nolimit.keeps old
  refine codeAny_call_function hr.depth (inK _ _ lk) rfl S.co S.gen rfl (PySem.W.codeRec_of inK hcd) (BindsTo.of_eq (s := sh) (hb kV doc pm an cdv ct u) _ _ _ _ ?_)
  refine wpAny_newFunctionEnv_cells S.kind (fun z hz => ?kd) fun env' he s1 st1 => ?_
  case kd =>
    cases List.mem_singleton.mp hz
    rcases S.par y (List.mem_singleton.mpr rfl) with g | g
    · exact .inl g
    · exact .inr ⟨g, PySem.W.cellsFrom_some _ _ _ (.inl g)⟩
  subst he
  refine ⟨noLim.keeps st1.toInCall.keep, codeAny_func ?_⟩
  obtain ⟨t, ht, hq⟩ := hbody cdv sh Hh v Q E (hr.deeper _) hsp
  have J := inv_start (CX := CX0) (E := E) (vs := [v]) (us := [u]) (ps := [y]) S hr.hd env rfl (.cons hv .nil) st1
  refine wpAny_mono (ht.nox.run [] s1 (start N [v]) Hh _ J hq) (fun fl s' hs => ?_) fun _ _ hs => hs
  cases fl with
  | ret u' =>
    obtain ⟨v', σ', H', J', rv, q'⟩ := hs
    exact ⟨v', H', J'.os, J'.bare, J'.base, J'.hok, rv, q'⟩
  | next =>
    obtain ⟨σ', H', J', q'⟩ := hs
    exact ⟨.non, H', J'.os, J'.bare, J'.base, J'.hok, rfl, q'⟩
  | brk =>
    obtain ⟨_, _, _, q'⟩ := hs
    exact q'.elim
  | cont =>
    obtain ⟨_, _, _, q'⟩ := hs
    exact q'.elim
end RS

namespace RS
open PySem PySem.Spec L2 PyProof.Rows
set_option autoImplicit false
/-! ### the end of a law whose own def calls repr: from CallC -/
section
variable {P : Program} {w : World} {K : PySem.W.Frag} {mg mb : Str → Option Value} {fa a : Addr} {sp : Sp} {st : Shared} {vs : List Value} {ns : List Int}
/-- seen from one abstract heap -/
theorem callC_at (H : Hp) (kin : K.In st.heap) (g1 : st.heap.Ns mainGlobals mg) (g2 : st.heap.Ns builtinsNs mb) (g3 : ∀ x : Str, x ≠ "__name__" → mb x = bootBuiltins x) (g4 : st.heap.NoLimit) (g5 : st.gens = #[])
    (la : st.heap.get? a = some { cls := .type "list", data := .seq vs.toArray }) (C : ∀ base : Heap, K.In base → base.Ns mainGlobals mg → CallC P w K mg base fa sp)
    (Y : sp [.ref a] H (fun v _ => v = .bl true) fun _ _ _ => False) (o1 : Only H) (o2 : HOk P w H st.heap) (o3 : ∀ b, H b ≠ none → b = a) (o4 : H a ≠ none → K.lookup a = none) :
    codeAny (model P w) callerA (.call (.ref fa) ⟨[.ref a], []⟩) (fun r s' => r = .ok (.ret (.bool true)) ∧ OldK st.heap s'.heap ∧ s'.os = st.os ∧ AllBare s'.gens) st := by
  have dictFree : ∀ (b : Addr) (o : Obj) (es : Array DictEntry) (ep : Nat), st.heap.get? b = some o → o.data = .dict es ep → H b = none := fun b o es ep e1 e2 => by
    by_cases z : H b = none
    · exact z
    · obtain rfl := o3 b z
      rw [la] at e1
      cases e1
      exact absurd (show Data.seq vs.toArray _ = Data.dict es ep from e2) nofun
  have names : ∀ (b : Addr) (m : Str → Option Value), st.heap.Ns b m → (hidT st.heap H).Ns b m := fun b m z => by
    obtain ⟨o, es, ep, e1, e2, e3⟩ := z
    exact ⟨o, es, ep, hidT_get e1 (dictFree b o es ep e1 e2), e2, e3⟩
  have keeps : K.In (hidT st.heap H) := fun b o e => by
    refine hidT_get (kin b o e) ?_
    by_cases z : H b = none
    · exact z
    · obtain rfl := o3 b z
      rw [o4 z] at e
      cases e
  obtain ⟨mc, m1, m2⟩ := g4
  have module : Mod K mg (hidT st.heap H) := ⟨keeps, names _ _ g1, ⟨mb, names _ _ g2, g3⟩, ⟨mc, names _ _ m1, m2⟩⟩
  have start : Env0 P w K mg (hidT st.heap H) callerA [] st H := by
    refine ⟨rfl, module, fun b o e => of_hidT e, Nat.le_of_eq (hidT_size _ _), trivial, ?_, o2, .of_eq g5⟩
    intro b hb
    cases hb
  refine codeAny_mono (C _ keeps (names _ _ g1) st H (.ref a) (.ref a) _ _ start rfl Y) fun r s' z => ?_
  match r, z with
  | .error e, z => exact z.elim
  | .ok .next, z => exact z.elim
  | .ok .brk, z => exact z.elim
  | .ok .cont, z => exact z.elim
  | .ok (.ret u), z =>
    obtain ⟨v, H', os, bare, un, ok', rv, e⟩ := z
    cases (show v = .bl true from e)
    cases (show u = Value.bool true from rv)
    refine ⟨rfl, OldK.of_keep fun b o e => ?_, os, bare⟩
    by_cases z : H b = none
    · exact un.keep b o e z nofun nofun
    · rcases o1 b with z1 | ⟨ob, xs, z1⟩
      · exact absurd z1 z
      · have e1 := (o2 b _ z1).1
        have e2 := (ok' b _ (un.frzs b ob _ z1)).1
        rw [e] at e1
        cases e1
        exact e2
theorem law_callC (kin : K.In st.heap) (g1 : st.heap.Ns mainGlobals mg) (g2 : st.heap.Ns builtinsNs mb) (g3 : ∀ x : Str, x ≠ "__name__" → mb x = bootBuiltins x) (g4 : st.heap.NoLimit) (g5 : st.gens = #[])
    (la : st.heap.get? a = some { cls := .type "list", data := .seq vs.toArray }) (li : IntsAre vs ns) (ll : ns.length ≤ sizeLine) (C : ∀ base : Heap, K.In base → base.Ns mainGlobals mg → CallC P w K mg base fa sp)
    (Y : ∀ H : Hp, Only H → SqL K H a (ns.map V.int) → sp [.ref a] H (fun v _ => v = .bl true) fun _ _ _ => False) :
    codeAny (model P w) callerA (.call (.ref fa) ⟨[.ref a], []⟩) (fun r s' => r = .ok (.ret (.bool true)) ∧ OldK st.heap s'.heap ∧ s'.os = st.os ∧ AllBare s'.gens) st := by
  have vals := vals_ints li
  have len := li.length
  by_cases hk : K.lookup a = none
  · let L : HO := .frz { cls := .type "list", data := .seq vs.toArray } (.lst (ns.map V.int))
    let H : Hp := fun b => if b = a then some L else none
    have at_a : H a = some L := if_pos rfl
    have off : ∀ b, H b ≠ none → b = a := fun b z => by
      by_cases e : b = a
      · exact e
      · exact absurd (if_neg e) z
    have o1 : Only H := fun b => by
      by_cases e : b = a
      · exact .inr ⟨_, _, if_pos e⟩
      · exact .inl (if_neg e)
    have o2 : HOk P w H st.heap := fun b o z => by
      obtain rfl := off b (by rw [z]; nofun)
      cases at_a.symm.trans z
      exact ⟨la, by rw [List.length_map]; exact ll, vs, _, vals, la⟩
    exact callC_at H kin g1 g2 g3 g4 g5 la C (Y H o1 (.inl (.inr ⟨_, at_a⟩))) o1 o2 off fun _ => hk
  · obtain ⟨o, ho⟩ := Option.ne_none_iff_exists'.mp hk
    have e := kin a o ho
    rw [la] at e
    cases e
    have o1 : Only fun _ => none := fun _ => .inl rfl
    refine callC_at (fun _ => none) kin g1 g2 g3 g4 g5 la C (Y _ o1 (.inr ⟨_, vs.toArray, _, ho, rfl, rfl, rfl, by rw [List.size_toArray, len]; exact ll, by simpa using vals⟩)) o1 (fun b u z => ?_) (fun b z => absurd rfl z) fun z => absurd rfl z
    cases (show (none : Option HO) = some u from z)
end
theorem walk_ofC {l : PySem.W.OpenLaw} {n : Nat} {q : Program} {loose : List Str} {XP : (Str → Option Value) → Heap → Prop} {YP : World → Heap → Prop} {d : DefRec} {K : Params → PySem.W.Frag} {sp : PySem.W.Frag → Sp}
    (hn : l.most = some n) (hn2 : n ≤ sizeLine) (hdf : d.params.defaults = []) (hY : ∀ (w : World) (h : Heap), YP w h → (K w.params).In h)
    (F : ∀ (w : World) (mg : Str → Option Value) (fa : Addr) (h : Heap), (K w.params).In h → h.Ns mainGlobals mg → mg d.name = some (.ref fa) →
      ∀ base : Heap, (K w.params).In base → base.Ns mainGlobals mg → CallC l.prog w (K w.params) mg base fa (sp (K w.params)))
    (Y : ∀ (w : World) (H : Hp) (a : Addr) (ns : List Int), ns.length ≤ n → Only H → SqL (K w.params) H a (ns.map V.int) → sp (K w.params) [.ref a] H (fun v _ => v = .bl true) fun _ _ _ => False) :
    PySem.W.WalkO q loose XP YP l.row.toRowW d [] (fun f vs => PySem.call f vs) := by
  refine Att.attach_call hn hdf ?_
  intro w s0 s1 mg mb fa o pm cd doc a vs ns G y ho hd hcd hmg la li ll lg
  have kin := hY w _ y
  exact law_callC kin G.T.g G.T.b G.T.builtins G.T.nolimit lg la li (Nat.le_trans ll hn2) (F w mg fa _ kin G.T.g hmg) fun H o1 hS => Y w H a ns ll o1 hS
end RS

local macro_rules | `(tactic| walk_at "ne") => `(tactic| first
  | assumption
  | (apply Ne.symm; assumption)
  | (with_reducible apply ne_of_none; (focus assumption); (focus assumption))
  | (apply Ne.symm; with_reducible apply ne_of_none; (focus assumption); (focus assumption))
  | (with_reducible apply ne_of; (focus assumption); (focus assumption); (focus nofun)))
local macro_rules | `(tactic| walk_at "hp") => `(tactic| first
  | assumption
  | (with_reducible exact upd_same)
  | (with_reducible apply upd_new; (focus assumption); walk_at "hp")
  | (with_reducible apply upd_old; (focus walk_at "ne"); walk_at "hp"))
local macro_rules | `(tactic| walk_at "sq") => `(tactic| first
  | assumption
  | (with_reducible apply SqL.of; walk_at "hp")
  | (with_reducible apply SqT.of; walk_at "hp")
  | (with_reducible apply sqL_new; (focus assumption); walk_at "sq")
  | (with_reducible apply sqT_new; (focus assumption); walk_at "sq"))
local macro_rules | `(tactic| walk_at "kd") => `(tactic| first
  | exact Kd.int _
  | exact Kd.str _
  | exact Kd.non
  | exact Kd.bl _
  | (with_reducible apply Kd.lst; walk_at "sq")
  | (with_reducible apply Kd.tup; walk_at "sq"))
local macro_rules | `(tactic| walk_at "si") => `(tactic| first | omega | decide | assumption)
local macro_rules | `(tactic| walk_at "r1") => `(tactic| first
  | (with_reducible refine' r_seq ?_)
  | (with_reducible refine' r_next ?_)
  | (with_reducible refine' r_asg ?_)
  | (with_reducible refine' r_name ?_)
  | ((with_reducible refine' r_var (v := ?hv) ?he ?_); (case he => rfl))
  | (with_reducible refine' r_c ?_)
  | (with_reducible refine' r_op ?_)
  | (with_reducible refine' r_un ?_)
  | (with_reducible refine' r_I0 ?_)
  | ((with_reducible refine' r_mod ?hc ?_); (case hc => walk_at "si"))
  | ((with_reducible refine' r_fdiv ?hc ?hd ?_); (case hc => walk_at "si"); (case hd => walk_at "si"))
  | ((with_reducible refine' r_mul ?hc ?_); (case hc => first | (left; omega) | (right; omega)))
  | ((with_reducible refine' r_pow ?hc ?_); (case hc => exact ⟨by decide, by decide, by decide⟩))
  | (with_reducible refine' r_U ?_)
  | (with_reducible refine' r_eqI ?_)
  | (with_reducible refine' r_eqS ?_)
  | (with_reducible refine' r_eqB ?_)
  | (with_reducible refine' r_neI ?_)
  | (with_reducible refine' r_neS ?_)
  | (with_reducible refine' r_neB ?_)
  | (with_reducible refine' r_test ?_)
  | (with_reducible refine' r_tB ?_)
  | (with_reducible refine' r_k ?_)
  | (with_reducible refine' r_if ?_)
  | (with_reducible refine' r_ifE ?_)
  | (with_reducible refine' r_and ?_)
  | (with_reducible refine' r_or ?_)
  | (with_reducible refine' r_not ?_)
  | (with_reducible refine' r_andV ?_)
  | (with_reducible refine' r_orV ?_)
  | (with_reducible refine' r_notV ?_)
  | (with_reducible refine' r_andE ?_)
  | (with_reducible refine' r_orE ?_)
  | (with_reducible refine' r_notE ?_)
  | (with_reducible refine' r_notN ?_)
  | (with_reducible refine' r_inZ ?_)
  | ((with_reducible refine' r_lstE ?hz ?_); (case hz => exact of_decide_eq_true rfl))
  | ((with_reducible refine' r_tupE ?hz ?_); (case hz => exact of_decide_eq_true rfl))
  | (with_reducible refine' r_nil ?_)
  | (with_reducible refine' r_cons ?_)
  | (with_reducible refine' r_lst ?_)
  | (with_reducible refine' r_tup ?_)
  | (with_reducible refine' r_cb ?_)
  | (with_reducible refine' r_call ?_)
  | (with_reducible refine' r_ret ?_)
  | (with_reducible refine' r_drop ?_)
  | (with_reducible refine' r_par ?_)
  | (with_reducible refine' r_par2 ?_)
  | (with_reducible refine' r_sub ?_)
  | (with_reducible refine' r_sp1 ?_)
  | (with_reducible refine' r_sp2 ?_)
  | (with_reducible refine' r_sp3 ?_)
  | (with_reducible refine' r_sp4 ?_)
  | (with_reducible refine' r_sp5 ?_)
  | (with_reducible refine' r_sp6 ?_)
  | (with_reducible refine' r_sp7 ?_)
  | (with_reducible refine' r_for ?_)
  | (with_reducible refine' r_rng1 ?_)
  | (with_reducible refine' r_rng2 ?_)
  | (with_reducible refine' r_iList ?_)
  | (with_reducible refine' r_iTup ?_)
  | (with_reducible refine' r_m1 ?_)
  | (with_reducible refine' r_m0 ?_)
  | (with_reducible refine' r_strE ?_)
  | (with_reducible refine' r_par3 ?_)
  | (with_reducible refine' r_par3E ?_)
  | (with_reducible refine' r_gtup ?_)
  | ((with_reducible refine' r_gtupE ?ha ?hb ?_); (case ha => walk_at "sq"); (case hb => rfl))
  | (with_reducible refine' r_gnil ?_)
  | (with_reducible refine' r_gcons ?_)
  | ((with_reducible refine' r_rng1E ?ha ?hb ?_); (case ha => walk_at "si"); (case hb => walk_at "si"))
  | ((with_reducible refine' r_rng2E ?ha ?hb ?hc ?hd ?_); (case ha => walk_at "si"); (case hb => walk_at "si"); (case hc => walk_at "si"); (case hd => walk_at "si"))
  | ((with_reducible refine' r_iListE ?ha ?_); (case ha => walk_at "sq"))
  | ((with_reducible refine' r_iTupE ?ha ?_); (case ha => walk_at "sq"))
  | (with_reducible refine' r_lc ?_)
  | (with_reducible refine' r_yes ?_)
  | (with_reducible refine' iteT ?_)
  | (with_reducible refine' iteF ?_)
  | ((with_reducible refine' iteTb ?ha ?_); (case ha => rfl))
  | ((with_reducible refine' iteFb ?ha ?_); (case ha => rfl))
  | ((with_reducible refine' r_wipe ?ha ?_); (case ha => rfl))
  | ((with_reducible refine' r_lenL ?ha ?_); (case ha => walk_at "sq"))
  | ((with_reducible refine' r_lenT ?ha ?_); (case ha => walk_at "sq"))
  | ((with_reducible refine' r_lenS ?ha ?_); (case ha => first | assumption | decide +kernel))
  | (with_reducible refine' r_abs ?_)
  | (with_reducible refine' r_intB ?_)
  | (with_reducible refine' r_intI ?_)
  | (with_reducible refine' r_max2 ?_)
  | (with_reducible refine' r_min2 ?_)
  | ((with_reducible refine' r_divmod ?ha ?hb ?_); (case ha => walk_at "si"); (case hb => walk_at "si"))
  | ((with_reducible refine' r_listL ?ha ?_); (case ha => walk_at "sq"))
  | ((with_reducible refine' r_listT ?ha ?_); (case ha => walk_at "sq"))
  | ((with_reducible refine' r_tupleL ?ha ?_); (case ha => walk_at "sq"))
  | (with_reducible refine' r_bm ?_)
  | (with_reducible refine' r_bm0 ?_)
  | ((with_reducible refine' r_ty ?ha ?_); (case ha => walk_at "sq"))
  | ((with_reducible refine' r_rev ?ha ?_); (case ha => walk_at "hp"))
  | (with_reducible refine' r_sl ?_)
  | (with_reducible refine' r_noPart ?_)
  | (with_reducible refine' r_part ?_)
  | (with_reducible refine' r_partE ?_)
  | ((with_reducible refine' r_slL ?ha ?_); (case ha => walk_at "sq"))
  | ((with_reducible refine' r_slS ?ha ?_); (case ha => first | assumption | decide))
  | (with_reducible refine' r_isN ?_)
  | ((with_reducible refine' r_inT ?ha ?hb ?hc ?_); (case ha => walk_at "sq"); (case hb => rfl); (case hc => rfl))
  | ((with_reducible refine' r_niT ?ha ?hb ?hc ?_); (case ha => walk_at "sq"); (case hb => rfl); (case hc => rfl))
  | (with_reducible refine' r_revT ?_)
  | ((with_reducible refine' r_revTE ?ha ?_); (case ha => walk_at "sq"))
  | (with_reducible refine' r_isi ?_)
  | (with_reducible refine' r_isiT ?_)
  | ((with_reducible refine' r_isiE ?ha ?hb ?_); (case ha => walk_at "kd"); (case hb => rfl))
  | ((with_reducible refine' r_isiTE ?ha ?hb ?_); (case ha => walk_at "kd"); (case hb => rfl))
  | (with_reducible refine' r_zip ?_)
  | (with_reducible refine' r_dput ?_)
  | (with_reducible refine' r_dnew ?_)
  | ((with_reducible refine' r_listD ?ha ?_); (case ha => walk_at "hp"))
  | ((with_reducible refine' r_ixL ?ha ?hb ?_); (case ha => walk_at "sq"); (case hb => rfl))
  | ((with_reducible refine' r_ixT ?ha ?hb ?_); (case ha => walk_at "sq"); (case hb => rfl))
  | ((with_reducible refine' r_setL ?ha ?hb ?_); (case ha => walk_at "hp"); (case hb => rfl)))
local macro_rules | `(tactic| walk_at "rd") => `(tactic| (repeat walk_at "r1"))
local macro_rules | `(tactic| walk_at "go") => `(tactic| ((try dsimp only [cxOf, Cx.nox, Cx.wish]); walk_at "rd"))

namespace A
def topS (i : Nat) : Stmt := PySem.Challenge.pw_roadsettings_k56_begins_turned_late.main.body.getD i (.Pass ⟨0, 0, 0, 0⟩)
abbrev s_is_name : Stmt := topS 3
theorem sc_is_name : FnScope ["thing", "sign"] ["thing"] (defScope s_is_name) := ⟨rfl, rfl, rfl, by decide +kernel, rfl, by decide +kernel, by decide +kernel⟩
abbrev s_is_number : Stmt := topS 4
theorem sc_is_number : FnScope ["thing"] ["thing"] (defScope s_is_number) := ⟨rfl, rfl, rfl, by decide +kernel, rfl, by decide +kernel, by decide +kernel⟩
abbrev s_is_value : Stmt := topS 5
theorem sc_is_value : FnScope ["thing", "sign"] ["thing"] (defScope s_is_value) := ⟨rfl, rfl, rfl, by decide +kernel, rfl, by decide +kernel, by decide +kernel⟩
abbrev s_part_fits : Stmt := topS 8
theorem sc_part_fits : FnScope ["sort", "thing"] ["sort", "thing"] (defScope s_part_fits) := ⟨rfl, rfl, rfl, by decide +kernel, rfl, by decide +kernel, by decide +kernel⟩
abbrev s_is_step : Stmt := topS 9
theorem sc_is_step : FnScope ["thing", "sort", "part"] ["thing"] (defScope s_is_step) := ⟨rfl, rfl, rfl, by decide +kernel, rfl, by decide +kernel, by decide +kernel⟩
abbrev s_is_program : Stmt := topS 10
theorem sc_is_program : FnScope ["thing", "step"] ["thing"] (defScope s_is_program) := ⟨rfl, rfl, rfl, by decide +kernel, rfl, by decide +kernel, by decide +kernel⟩
abbrev s_inner_of : Stmt := topS 11
theorem sc_inner_of : FnScope ["step"] ["step"] (defScope s_inner_of) := ⟨rfl, rfl, rfl, by decide +kernel, rfl, by decide +kernel, by decide +kernel⟩
abbrev s_steps_in : Stmt := topS 12
theorem sc_steps_in : FnScope ["program", "step"] ["program"] (defScope s_steps_in) := ⟨rfl, rfl, rfl, by decide +kernel, rfl, by decide +kernel, by decide +kernel⟩
abbrev s_gather : Stmt := topS 13
theorem sc_gather : FnScope ["program", "met", "step"] ["program", "met"] (defScope s_gather) := ⟨rfl, rfl, rfl, by decide +kernel, rfl, by decide +kernel, by decide +kernel⟩
abbrev s_names_in : Stmt := topS 14
theorem sc_names_in : FnScope ["program", "met"] ["program"] (defScope s_names_in) := ⟨rfl, rfl, rfl, by decide +kernel, rfl, by decide +kernel, by decide +kernel⟩
abbrev s_turned_step : Stmt := topS 15
theorem sc_turned_step : FnScope ["step", "word"] ["step", "word"] (defScope s_turned_step) := ⟨rfl, rfl, rfl, by decide +kernel, rfl, by decide +kernel, by decide +kernel⟩
abbrev s_turned : Stmt := topS 16
theorem sc_turned : FnScope ["program", "word", "step"] ["program", "word"] (defScope s_turned) := ⟨rfl, rfl, rfl, by decide +kernel, rfl, by decide +kernel, by decide +kernel⟩
abbrev s_law_cell_at : Stmt := topS 18
theorem sc_law_cell_at : FnScope ["_law_script", "_law_k"] ["_law_script", "_law_k"] (defScope s_law_cell_at) := ⟨rfl, rfl, rfl, by decide +kernel, rfl, by decide +kernel, by decide +kernel⟩
abbrev s_law_box : Stmt := topS 19
theorem sc_law_box : FnScope ["_law_script", "_law_k", "_law_cell"] ["_law_script", "_law_k"] (defScope s_law_box) := ⟨rfl, rfl, rfl, by decide +kernel, rfl, by decide +kernel, by decide +kernel⟩
abbrev s_law_take : Stmt := topS 20
theorem sc_law_take : FnScope ["_law_box_here", "_law_many", "_law_found", "_law_once", "_law_twice"] ["_law_box_here", "_law_many"] (defScope s_law_take) := ⟨rfl, rfl, rfl, by decide +kernel, rfl, by decide +kernel, by decide +kernel⟩
abbrev s_law_names : Stmt := topS 21
theorem sc_law_names : FnScope ["_law_box_here", "_law_many", "_law_letters", "_law_size", "_law_stem", "_law_first", "_law_step_here", "_law_at", "_law_found", "_law_k", "_law_one", "_law_other", "_law_place"] ["_law_box_here", "_law_many"] (defScope s_law_names) := ⟨rfl, rfl, rfl, by decide +kernel, rfl, by decide +kernel, by decide +kernel⟩
abbrev s_law_value : Stmt := topS 22
theorem sc_law_value : FnScope ["_law_box_here", "_law_way", "_law_signs", "_law_place"] ["_law_box_here"] (defScope s_law_value) := ⟨rfl, rfl, rfl, by decide +kernel, rfl, by decide +kernel, by decide +kernel⟩
abbrev s_law_same : Stmt := topS 23
theorem sc_law_same : FnScope ["_law_found", "_law_due", "_law_one", "_law_other"] ["_law_found", "_law_due"] (defScope s_law_same) := ⟨rfl, rfl, rfl, by decide +kernel, rfl, by decide +kernel, by decide +kernel⟩
abbrev s_law_step : Stmt := topS 24
theorem sc_law_step : FnScope ["_law_box_here", "_law_names_here", "_law_slots", "_law_words", "_law_room", "_law_deep", "_law_word", "_law_name", "_law_value_here", "_law_head", "_law_inner"] ["_law_box_here", "_law_names_here", "_law_slots", "_law_words", "_law_room", "_law_deep"] (defScope s_law_step) := ⟨rfl, rfl, rfl, by decide +kernel, rfl, by decide +kernel, by decide +kernel⟩
abbrev s_law_program : Stmt := topS 25
theorem sc_law_program : FnScope ["_law_box_here", "_law_names_here", "_law_slots", "_law_words", "_law_room", "_law_deep", "_law_many", "_law_steps", "_law_turn"] ["_law_box_here", "_law_names_here", "_law_slots", "_law_words", "_law_room", "_law_deep", "_law_many"] (defScope s_law_program) := ⟨rfl, rfl, rfl, by decide +kernel, rfl, by decide +kernel, by decide +kernel⟩
abbrev s_law_flat : Stmt := topS 26
theorem sc_law_flat : FnScope ["_law_program_here", "_law_found", "_law_left", "_law_step_here"] ["_law_program_here"] (defScope s_law_flat) := ⟨rfl, rfl, rfl, by decide +kernel, rfl, by decide +kernel, by decide +kernel⟩
abbrev s_law_turned : Stmt := topS 27
theorem sc_law_turned : FnScope ["_law_program_here", "_law_word", "_law_found", "_law_step_here"] ["_law_program_here", "_law_word"] (defScope s_law_turned) := ⟨rfl, rfl, rfl, by decide +kernel, rfl, by decide +kernel, by decide +kernel⟩
abbrev s_law : Stmt := topS 28
theorem sc_law : FnScope ["_law_script", "_law_words", "_law_k", "_law_box_here", "_law_names_here", "_law_some", "_law_program_here", "_law_kept", "_law_heads", "_law_word", "_law_other", "_law_found", "_law_step_here"] ["_law_script"] (defScope s_law) := ⟨rfl, rfl, rfl, by decide +kernel, rfl, by decide +kernel, by decide +kernel⟩
/-- the built-ins' names are the built-ins' -/
def Blt (mg : Str → Option Value) : Prop := ∀ x ∈ (["len", "abs", "int", "range", "divmod", "isinstance", "str", "list", "tuple", "repr", "min", "max", "sum", "all", "any", "zip", "enumerate", "bool"] : List Str), mg x = none
/-! ### a box of draws -/
def BoxL (l : List V) (n : Int) : Prop := ∃ a s c : Int, l = [.int a, .int s, .int c] ∧ 0 ≤ a ∧ 0 ≤ s ∧ s < 2 ^ 62 ∧ 0 ≤ c ∧ c ≤ n
def BoxAt (H : Hp) (b : Addr) (n : Int) : Prop := ∃ l, H b = some (.lst l) ∧ BoxL l n
theorem BoxL.mono {l : List V} {n m : Int} (h : BoxL l n) (e : n ≤ m) : BoxL l m := by
  obtain ⟨a, s, c, h1, h2, h3, h4, h5, h6⟩ := h
  exact ⟨a, s, c, h1, h2, h3, h4, h5, by omega⟩

section
variable {P : Program} {w : World} {K : PySem.W.Frag} {mg : Str → Option Value} {base : Heap}
def cCell (K : PySem.W.Frag) : V → V → Hp → VK → Prop := fun s k H Q => ∃ (a : Addr) (ns : List Int) (j : Int), s = .ref a ∧ k = .int j ∧ SqL K H a (ns.map V.int) ∧ 0 ≤ j ∧ ∀ z, Q (.int z) H
theorem ok_cell_at (S : Std K mg "_law_cell_at" s_law_cell_at) (Z : Blt mg) : Cal P w K mg base 1 "_law_cell_at" ["_law_script", "_law_k"] (Sp2 (cCell K)) := by
  refine cal_mk S sc_law_cell_at (fun _ _ _ _ _ _ us hl => match us, hl with | [_, _], _ => rfl) (fun _ _ _ _ h => len2 h) (fun f cdv A outer s H vs Q E hr h => ?_)
  obtain ⟨_, _, rfl, a, ns, j, rfl, rfl, hS, hj, q⟩ := h
  refine ⟨_, (pss_cons (ps_if (pt_cmpR op_lt (pv 1) (pe_callB call_lenQ (by rfl) (Z "len" (by decide)) PySem.boot_len (pa_cons (pv 0) pa_nil)) (nomark _))
  (pss_one (ps_ret (pe_ix ix_list (pv 0) (pv 1) (fun _ _ => rfl))))
  pss_nil)
  (pss_one (ps_ret pe_int))), ?_⟩
  walk_at "go"
  refine r_ite (fun c => ?_) (fun c => ?_)
  · rw [List.length_map] at c
    walk_at "rd"
    refine r_ixL hS (at_of (j := j.toNat) (by omega) ?_) (q (ns[j.toNat]'(by omega)))
    rw [List.getElem?_map, List.getElem?_eq_getElem (by omega)]
    rfl
  · walk_at "rd"
    exact q 0
/-- a new box; the number's place bounded -/
def cBox (K : PySem.W.Frag) : V → V → Hp → VK → Prop := fun s k H Q => ∃ (a : Addr) (ns : List Int) (j : Int), s = .ref a ∧ k = .int j ∧ SqL K H a (ns.map V.int) ∧ 0 ≤ j ∧ j < 1000 ∧ ∀ p l, H p = none → BoxL l 0 → Q (.ref p) (upd H p (.lst l))
theorem ok_box (S : Std K mg "_law_box" s_law_box) (Z : Blt mg) (c_law_cell_at : Cal P w K mg base 1 "_law_cell_at" ["_law_script", "_law_k"] (Sp2 (cCell K))) : Cal P w K mg base 2 "_law_box" ["_law_script", "_law_k"] (Sp2 (cBox K)) := by
  refine cal_mk S sc_law_box (fun _ _ _ _ _ _ us hl => match us, hl with | [_, _], _ => rfl) (fun _ _ _ _ h => len2 h) (fun f cdv A outer s H vs Q E hr h => ?_)
  obtain ⟨_, _, rfl, a, ns, j, rfl, rfl, hS, h0, h1, q⟩ := h
  refine ⟨_, (pss_cons (ps_set (i := 2) sc_law_box.nd rfl (.inl rfl) (pe_cal c_law_cell_at (hr.mono (by decide)) rfl (pa_cons (pv 0) (pa_cons (pv 1) pa_nil))))
  (pss_one (ps_ret (pe_lst (pa_cons (pe_op op_mul (pe_callB call_absQ (by rfl) (Z "abs" (by decide)) (by decide +kernel) (pa_cons (pv 2) pa_nil)) (pe_callTy call_intQ (by rfl) (Z "int" (by decide)) (by decide +kernel) (pa_cons (pe_cmpR op_ge (pe_callB call_absQ (by rfl) (Z "abs" (by decide)) (by decide +kernel) (pa_cons (pv 2) pa_nil)) (pe_op op_pow pe_int pe_int) (nomark _)) pa_nil))) (pa_cons (pe_op op_add (pe_op op_add (pe_op op_mod (pv 2) pe_int) (pe_op op_mul pe_int (pv 1))) pe_int) (pa_cons pe_int pa_nil))))))), ?_⟩
  walk_at "go"
  refine ⟨a, ns, j, rfl, rfl, hS, h0, fun z => ?_⟩
  walk_at "rd"
  intro p hp
  refine q p _ hp ⟨_, _, _, rfl, ?_, ?_, ?_, Int.le_refl 0, Int.le_refl 0⟩
  · by_cases c : z < 0
    · rw [if_pos c]
      split <;> omega
    · rw [if_neg c]
      split <;> omega
  · omega
  · omega
/-- a draw below k; the box used once more -/
def cTake : V → V → Hp → VK → Prop := fun b m H Q => ∃ (p : Addr) (k n : Int), b = .ref p ∧ m = .int k ∧ 0 < k ∧ k < 1073741824 ∧ BoxAt H p n ∧ n < 1099511627776 ∧ ∀ r l, 0 ≤ r → r < k → BoxL l (n + 1) → Q (.int r) (upd H p (.lst l))
theorem r_take {p : Addr} {k n : Int} {H : Hp} {Q : VK} (h : BoxAt H p n) (h0 : 0 < k) (h1 : k < 1073741824) (hn : n < 1099511627776) (q : ∀ r l, 0 ≤ r → r < k → BoxL l (n + 1) → Q (.int r) (upd H p (.lst l))) : cTake (.ref p) (.int k) H Q := ⟨p, k, n, rfl, rfl, h0, h1, h, hn, q⟩
theorem ok_take (S : Std K mg "_law_take" s_law_take) (Z : Blt mg) : Cal P w K mg base 1 "_law_take" ["_law_box_here", "_law_many"] (Sp2 cTake) := by
  refine cal_mk S sc_law_take (fun _ _ _ _ _ _ us hl => match us, hl with | [_, _], _ => rfl) (fun _ _ _ _ h => len2 h) (fun f cdv A outer s H vs Q E hr h => ?_)
  obtain ⟨_, _, rfl, b, k, n, rfl, rfl, h0, h1, ⟨l, hb, a, s', c, rfl, g1, g2, g3, g4, g5⟩, hn, q⟩ := h
  refine ⟨_, (pss_cons (ps_if (pt_cmpR op_gt (pe_ix ix_list (pv 0) pe_int (fun _ _ => rfl)) pe_int (nomark _))
  (pss_cons (ps_set (i := 2) sc_law_take.nd rfl (.inl rfl) (pe_op op_mod (pe_ix ix_list (pv 0) pe_int (fun _ _ => rfl)) (pv 1)))
  (pss_cons (ps_asg (pe_op op_fdiv (pe_ix ix_list (pv 0) pe_int (fun _ _ => rfl)) (pv 1)) (pg_sub (pv 0) pe_int set_list))
  (pss_one (ps_ret (pv 2)))))
  pss_nil)
  (pss_cons (ps_asg (pe_op op_add (pe_ix ix_list (pv 0) pe_int (fun _ _ => rfl)) pe_int) (pg_sub (pv 0) pe_int set_list))
  (pss_cons (ps_set (i := 3) sc_law_take.nd rfl (.inl rfl) (pe_op op_mod (pe_op op_mul (pe_op op_add (pe_ix ix_list (pv 0) pe_int (fun _ _ => rfl)) (pe_op op_mul pe_int (pe_ix ix_list (pv 0) pe_int (fun _ _ => rfl)))) (pe_op op_add pe_int (pe_ix ix_list (pv 0) pe_int (fun _ _ => rfl)))) pe_int))
  (pss_cons (ps_set (i := 4) sc_law_take.nd rfl (.inl rfl) (pe_op op_mod (pe_op op_mul (pe_op op_add (pv 3) (pe_ix ix_list (pv 0) pe_int (fun _ _ => rfl))) (pe_op op_add (pe_op op_mod (pv 3) pe_int) pe_int)) pe_int))
  (pss_one (ps_ret (pe_op op_mod (pe_op op_fdiv (pe_op op_mod (pe_op op_add (pe_op op_mul (pv 4) pe_int) (pv 3)) pe_int) pe_int) (pv 1)))))))), ?_⟩
  walk_at "go"
  refine r_ite (fun e => ?_) (fun e => ?_)
  · walk_at "rd"
    refine q _ _ (Int.emod_nonneg _ (by omega)) (Int.emod_lt_of_pos _ h0) ⟨_, _, _, rfl, ?_, g2, g3, g4, by omega⟩
    exact Int.ediv_nonneg g1 (by omega)
  · walk_at "rd"
    refine q _ _ (Int.emod_nonneg _ (by omega)) (Int.emod_lt_of_pos _ h0) ⟨_, _, _, rfl, g1, g2, g3, by omega, by omega⟩
end
end A

namespace A
theorem BoxAt.upd {H : Hp} {p : Addr} {l : List V} {n : Int} (h : BoxL l n) : BoxAt (upd H p (.lst l)) p n := ⟨l, upd_same, h⟩
theorem BoxAt.mono {H : Hp} {p : Addr} {n m : Int} (h : BoxAt H p n) (e : n ≤ m) : BoxAt H p m := by
  obtain ⟨l, a, b⟩ := h
  exact ⟨l, a, b.mono e⟩
theorem BoxAt.new {H : Hp} {p q : Addr} {n : Int} {o : HO} (h : BoxAt H p n) (hq : H q = none) : BoxAt (L2.upd H q o) p n := by
  obtain ⟨l, a, b⟩ := h
  exact ⟨l, upd_new hq a, b⟩
theorem BoxAt.ne {H : Hp} {p q : Addr} {n : Int} {o : HO} (h : BoxAt H p n) (hq : q ≠ p) : BoxAt (L2.upd H q o) p n := by
  obtain ⟨l, a, b⟩ := h
  exact ⟨l, upd_old (Ne.symm hq) a, b⟩
theorem BoxAt.nn {H : Hp} {p q : Addr} {n : Int} (h : BoxAt H p n) (hq : H q = none) : q ≠ p := by
  obtain ⟨l, a, b⟩ := h
  exact (ne_of_none a hq).symm
local macro_rules | `(tactic| walk_at "bx") => `(tactic| first
  | assumption
  | (with_reducible apply BoxAt.upd; assumption)
  | (with_reducible apply BoxAt.new; (focus walk_at "bx"); (focus assumption))
  | (with_reducible apply BoxAt.ne; (focus walk_at "bx"); (focus walk_at "ne")))
local macro_rules | `(tactic| walk_at "r1") => `(tactic| ((with_reducible refine' r_take ?ha ?hb ?hc ?hd ?_); (case ha => walk_at "bx"); (case hb => walk_at "si"); (case hc => walk_at "si"); (case hd => walk_at "si")))

/-- new names: a list of unlike ones -/
def cNames : V → V → Hp → VK → Prop := fun b m H Q => ∃ (p : Addr) (k : Nat) (n : Int), b = .ref p ∧ m = .int (k : Int) ∧ k ≤ 60 ∧ BoxAt H p n ∧ n < 1000000000000 ∧
  ∀ a ns H', Keep [p] H H' → H a = none → H' a = some (.lst (ns.map V.str)) → BoxAt H' p (n + 20) → Names k ns → Q (.ref a) H'
section
variable {P : Program} {w : World} {K : PySem.W.Frag} {mg : Str → Option Value} {base : Heap}
theorem ok_names (S : Std K mg "_law_names" s_law_names) (Z : Blt mg) (c_law_take : Cal P w K mg base 1 "_law_take" ["_law_box_here", "_law_many"] (Sp2 cTake)) : Cal P w K mg base 2 "_law_names" ["_law_box_here", "_law_many"] (Sp2 cNames) := by
  refine cal_mk S sc_law_names (fun _ _ _ _ _ _ us hl => match us, hl with | [_, _], _ => rfl) (fun _ _ _ _ h => len2 h) (fun f cdv A outer s H vs Q E hr h => ?_)
  obtain ⟨_, _, rfl, b, k, n, rfl, rfl, hk, hb, hn, q⟩ := h
  refine ⟨_, (pss_cons (ps_asg (pe_tup (pa_cons pe_str (pa_cons (pe_op op_add pe_int (pe_cal c_law_take (hr.mono (by decide)) rfl (pa_cons (pv 0) (pa_cons pe_int pa_nil)))) pa_nil))) (pg_tup rfl (pgs_cons (pg_name (i := 2) sc_law_names.nd rfl (.inr rfl)) (pgs_cons (pg_name (i := 3) sc_law_names.nd rfl (.inl rfl)) pgs_nil))))
  (pss_cons (ps_set (i := 4) sc_law_names.nd rfl (.inl rfl) (pe_joinQ pe_str (pe_lc (own := [("_law_place", 12)]) (g := gName 12) rfl sc_law_names.nd (pi_range1 rfl (Z "range" (by decide)) (pa_cons (pe_op op_sub (pv 3) pe_int) pa_nil)) (blkOk_by (own := [("_law_place", 12)]) (N := ["_law_box_here", "_law_many", "_law_letters", "_law_size", "_law_stem", "_law_first", "_law_step_here", "_law_at", "_law_found", "_law_k", "_law_one", "_law_other", "_law_place"]) (sc := defScope s_law_names) (by decide +kernel)) (fun _ _ _ _ _ => (pg_name (i := 12) sc_law_names.nd rfl (.inl rfl))) (fun _ _ _ _ _ => pts_nil) (fun _ _ _ _ _ => (pe_ix ix_str (pv 2) (pe_cal c_law_take (hr.mono (by decide)) rfl (pa_cons (pv 0) (pa_cons pe_int pa_nil))) (fun _ _ => rfl))))))
  (pss_cons (ps_par3 (i := 5) (j := 6) (l := 7) (by rfl) sc_law_names.nd rfl rfl rfl (by decide) (by decide) (by decide) rfl rfl rfl (pa_cons (pe_cal c_law_take (hr.mono (by decide)) rfl (pa_cons (pv 0) (pa_cons pe_int pa_nil))) (pa_cons (pe_ix ix_list (pe_lst (pa_cons pe_int (pa_cons pe_int (pa_cons pe_int (pa_cons pe_int pa_nil))))) (pe_cal c_law_take (hr.mono (by decide)) rfl (pa_cons (pv 0) (pa_cons pe_int pa_nil))) (fun _ _ => rfl)) (pa_cons (pe_cal c_law_take (hr.mono (by decide)) rfl (pa_cons (pv 0) (pa_cons (pe_op op_sub (pv 3) pe_int) pa_nil))) pa_nil))) (by rfl))
  (pss_cons (ps_set (i := 8) sc_law_names.nd rfl (.inl rfl) (pe_lst pa_nil))
  (pss_cons (ps_for PassesOwn.never rfl (pi_range1 rfl (Z "range" (by decide)) (pa_cons (pv 1) pa_nil)) (pg_name (i := 9) sc_law_names.nd rfl (.inl rfl))
  (pss_cons (ps_asg (pe_callB call_divmodQ (by rfl) (Z "divmod" (by decide)) (by decide +kernel) (pa_cons (pe_op op_mod (pe_op op_add (pv 5) (pe_op op_mul (pv 6) (pv 9))) pe_int) (pa_cons pe_int pa_nil))) (pg_tup rfl (pgs_cons (pg_name (i := 10) sc_law_names.nd rfl (.inl rfl)) (pgs_cons (pg_name (i := 11) sc_law_names.nd rfl (.inl rfl)) pgs_nil))))
  (pss_one (ps_expr (pe_bm PySem.F.plainAttrs_list PySem.F.slot_list_append PySem.F.type_list_append mt_append (pv 8) (pa_cons (pe_op op_addZ (pe_op op_addZ (pe_op op_addZ (pe_slice sl_str (pv 4) po_none (po_some (pv 7))) (pe_ix ix_str (pv 2) (pv 10) (fun _ _ => rfl))) (pe_ix ix_str (pv 2) (pv 11) (fun _ _ => rfl))) (pe_slice sl_str (pv 4) (po_some (pv 7)) po_none)) pa_nil))))))
  (pss_one (ps_ret (pv 8)))))))), ?_⟩
  walk_at "go"
  intro r1 l1 h10 h11 hl1
  walk_at "rd"
  intro t ht
  walk_at "rd"
  have eN : (2 + r1 - 2).toNat = r1.toNat := by omega
  rw [eN]
  refine lcR fun D hD => ⟨fun i H' => ∃ zs : List Nat, zs.length = i ∧ (∀ c ∈ zs, 97 ≤ c ∧ c ≤ 122) ∧ Keep [b] H H' ∧ BoxAt H' b (n + 1 + i) ∧ H' D = some (.lst ((zs.map oneS).map V.str)), ?_, ?_, ?_⟩
  · refine ⟨[], rfl, nofun, ?_, ?_, upd_same⟩
    · exact ((Keep.refl.mut (by simp)).new ht).new hD
    · exact BoxAt.mono (by walk_at "bx") (by omega)
  · rintro i Hi hi ⟨zs, hz, hc, kp, bx, hDi⟩
    walk_at "rd"
    intro r l hr0 hr1 hl
    refine r_ixS (by decide) (at_g (z := r) (j := r.toNat) (by omega) (letters_at _ (by omega))) ?_
    have nDb : D ≠ b := by
      have q1 := (upd_free hD).1
      exact (upd_free q1).2
    have nD0 : H D = none := (upd_free (upd_free hD).1).1
    refine r_lcE (upd_old nDb hDi) (by simp; omega) ⟨zs ++ [97 + r.toNat], by simp [hz], ?_, ?_, ?_, ?_⟩
    · intro c h
      rcases List.mem_append.mp h with h | h
      · exact hc c h
      · have := List.mem_singleton.mp h
        omega
    · exact (kp.mut (by simp)).own nD0
    · exact (BoxAt.upd hl).ne nDb |>.mono (by omega)
    · rw [upd_same, List.map_append, List.map_append]
      rfl
  · rintro Hi ⟨zs, hz, hc, kp, bx, hDi⟩
    refine r_join (ys := zs.map oneS) (SqL.of hDi) ?_ ?_
    · rw [sum_ones]
      show zs.length + _ * 0 ≤ 16777216
      omega
    have hst : tl (Txt.join (Str.ofString "") (zs.map oneS)) = zs := tl_joinE zs _ rfl
    generalize Txt.join (Str.ofString "") (zs.map oneS) = stem at hst ⊢
    walk_at "rd"
    intro r2 l2 h20 h21 hl2
    walk_at "rd"
    intro p hp
    walk_at "rd"
    intro r3 l3 h30 h31 hl3
    have hp2 := upd_free hp
    obtain ⟨s3, hs3, ha3⟩ : ∃ s3 : Nat, (s3 = 1 ∨ s3 = 27 ∨ s3 = 5 ∨ s3 = 251) ∧ atI [V.int 1, V.int 27, V.int 5, V.int 251] r3 = some (.int (s3 : Int)) := by
      have : r3 = 0 ∨ r3 = 1 ∨ r3 = 2 ∨ r3 = 3 := by omega
      rcases this with rfl | rfl | rfl | rfl
      · exact ⟨1, .inl rfl, rfl⟩
      · exact ⟨27, .inr (.inl rfl), rfl⟩
      · exact ⟨5, .inr (.inr (.inl rfl)), rfl⟩
      · exact ⟨251, .inr (.inr (.inr rfl)), rfl⟩
    refine r_ixL (SqL.of (upd_old hp2.2 upd_same)) ha3 ?_
    walk_at "rd"
    intro r4 l4 h40 h41 hl4
    walk_at "rd"
    intro o ho
    walk_at "rd"
    have no1 := upd_free ho
    have no2 := upd_free no1.1
    have no3 := upd_free no2.1
    have no4 := upd_free no3.1
    have kpo : Keep [b] H Hi := kp
    have noH : H o = none := kpo.free (by simp; exact no1.2) no4.1
    have npH : H p = none := kpo.free (by simp; exact hp2.2) hp2.1
    refine forR (fun i σ H' => ∃ (ns : List Str) (y9 y10 y11 : Option V), σ = [some (.ref b), some (.int (k : Int)), some (.str (Str.ofString "abcdefghijklmnopqrstuvwxyz")), some (.int (2 + r1)), some (.str stem), some (.int r2), some (.int (s3 : Int)), some (.int r4), some (.ref o), y9, y10, y11, none] ∧
      ns.map tl = (List.range i).map (fun k => nameW zs r4.toNat ((r2.toNat + s3 * k) % 676)) ∧ Keep [b] H H' ∧ BoxAt H' b (n + 20) ∧ H' o = some (.lst (ns.map V.str))) ?_ ?_ ?_
    · refine ⟨[], none, none, none, rfl, rfl, ?_, ?_, upd_same⟩
      · exact ((((kp.mut (by simp)).new hp).mut (by simp)).mut (by simp)).new ho
      · exact BoxAt.mono (by walk_at "bx") (by omega)
    · rintro i σ Hj hi ⟨ns, y9, y10, y11, rfl, hns, kj, bj, hoj⟩
      have hi' : i < k := by omega
      walk_at "rd"
      intro t2 ht2
      obtain ⟨m, hm1, hm2⟩ : ∃ m : Nat, (r2 + (s3 : Int) * (0 + (i : Int))) % 676 = (m : Int) ∧ m = (r2.toNat + s3 * i) % 676 := by
        refine ⟨_, ?_, rfl⟩
        have e1 : r2 = ((r2.toNat : Nat) : Int) := by omega
        rw [e1]
        push_cast
        simp
      rw [hm1]
      have hm3 : m < 676 := by omega
      walk_at "rd"
      have et : r4 = ((r4.toNat : Nat) : Int) := by omega
      rw [et]
      have hlz : (tl stem).length ≤ 6 := by rw [hst]; omega
      refine r_slS (by rw [len_tl]; exact line_le (by omega)) ?_
      walk_at "rd"
      refine r_ixS (by decide) (at_g (z := (m : Int) / 26) (j := m / 26) (by omega) (letters_at _ (by omega))) ?_
      refine r_addS (line_le (by simp only [len_tl, tl_cut_to, List.length_take]; show _ + 1 ≤ _; omega)) ?_
      walk_at "rd"
      refine r_ixS (by decide) (at_g (z := (m : Int) % 26) (j := m % 26) (by omega) (letters_at _ (by omega))) ?_
      refine r_addS (line_le (by simp only [len_tl, tl_append, List.length_append, tl_cut_to, List.length_take]; show _ + 1 + 1 ≤ _; omega)) ?_
      walk_at "rd"
      refine r_slS (by rw [len_tl]; exact line_le (by omega)) ?_
      refine r_addS (line_le (by simp only [len_tl, tl_append, List.length_append, tl_cut_to, tl_cut_from, List.length_take, List.length_drop]; show _ + 1 + 1 + _ ≤ _; omega)) ?_
      walk_at "rd"
      have nob : o ≠ b := no1.2
      have not2 : o ≠ t2 := ne_of_none hoj ht2
      have hl : ns.length = i := by
        have := congrArg List.length hns
        simpa using this
      have hzz : tl (cutS stem none (some (r4.toNat : Int)) ++ (⟨#[97 + m / 26]⟩ : Str) ++ (⟨#[97 + m % 26]⟩ : Str) ++ cutS stem (some (r4.toNat : Int)) none) = nameW zs r4.toNat m := by
        simp only [tl_append, tl_cut_to, tl_cut_from, tl_one, hst, nameW]
      generalize cutS stem none (some (r4.toNat : Int)) ++ (⟨#[97 + m / 26]⟩ : Str) ++ (⟨#[97 + m % 26]⟩ : Str) ++ cutS stem (some (r4.toNat : Int)) none = z at hzz ⊢
      refine r_app (upd_old not2 hoj) (by rw [List.length_map]; omega) ⟨ns ++ [z], _, _, _, rfl, ?_, ?_, ?_, ?_⟩
      · rw [List.map_append, hns, List.range_succ, List.map_append]
        simp only [List.map_cons, List.map_nil, hzz, Int.toNat_natCast, ← hm2]
      · exact (kj.new ht2).own noH
      · exact (bj.new ht2).ne nob
      · rw [upd_same, List.map_append]
        rfl
    · rintro σ Hj ⟨ns, y9, y10, y11, rfl, hns, kj, bj, hoj⟩
      walk_at "rd"
      exact q o ns Hj kj noH hoj bj (names_ok (by omega) (by omega) hc hs3 hk hns)
def cValue : V → Hp → VK → Prop := fun b H Q => ∃ (p : Addr) (n : Int), b = .ref p ∧ BoxAt H p n ∧ n < 1000000000000 ∧
  ∀ v H', Keep [p] H H' → BoxAt H' p (n + 50) → ValOk v → Q v H'
theorem ok_value (S : Std K mg "_law_value" s_law_value) (Z : Blt mg) (c_law_take : Cal P w K mg base 1 "_law_take" ["_law_box_here", "_law_many"] (Sp2 cTake)) : Cal P w K mg base 2 "_law_value" ["_law_box_here"] (Sp1 cValue) := by
  refine cal_mk S sc_law_value (fun _ _ _ _ _ _ us hl => match us, hl with | [_], _ => rfl) (fun _ _ _ _ h => len1 h) (fun f cdv A outer s H vs Q E hr h => ?_)
  obtain ⟨_, rfl, b, n, rfl, hb, hn, q⟩ := h
  refine ⟨_, (pss_cons (ps_set (i := 1) sc_law_value.nd rfl (.inl rfl) (pe_cal c_law_take (hr.mono (by decide)) rfl (pa_cons (pv 0) (pa_cons pe_int pa_nil))))
  (pss_cons (ps_if (pt_cmpR op_lt (pv 1) pe_int (nomark _))
  (pss_one (ps_ret (pe_op op_sub (pe_cal c_law_take (hr.mono (by decide)) rfl (pa_cons (pv 0) (pa_cons pe_int pa_nil))) pe_int)))
  pss_nil)
  (pss_cons (ps_if (pt_cmpR op_eq (pv 1) pe_int (nomark _))
  (pss_one (ps_ret (pe_ix ix_list (pe_lst (pa_cons (pe_op op_sub (pe_op op_pow pe_int pe_int) pe_int) (pa_cons (pe_op op_sub pe_int (pe_op op_pow pe_int pe_int)) (pa_cons (pe_op op_pow pe_int pe_int) (pa_cons pe_int pa_nil))))) (pe_cal c_law_take (hr.mono (by decide)) rfl (pa_cons (pv 0) (pa_cons pe_int pa_nil))) (fun _ _ => rfl))))
  pss_nil)
  (pss_cons (ps_if (pt_cmpR op_eq (pv 1) pe_int (nomark _))
  (pss_one (ps_ret (pe_ix ix_list (pe_lst (pa_cons pe_str (pa_cons pe_str (pa_cons pe_str (pa_cons pe_str (pa_cons pe_str (pa_cons pe_str (pa_cons pe_str (pa_cons pe_str pa_nil))))))))) (pe_cal c_law_take (hr.mono (by decide)) rfl (pa_cons (pv 0) (pa_cons pe_int pa_nil))) (fun _ _ => rfl))))
  pss_nil)
  (pss_cons (ps_set (i := 2) sc_law_value.nd rfl (.inr rfl) pe_str)
  (pss_one (ps_ret (pe_joinQ pe_str (pe_lc (own := [("_law_place", 3)]) (g := gName 3) rfl sc_law_value.nd (pi_range1 rfl (Z "range" (by decide)) (pa_cons (pe_cal c_law_take (hr.mono (by decide)) rfl (pa_cons (pv 0) (pa_cons (pe_ifExp (pt_cmpR op_eq (pv 1) pe_int (nomark _)) pe_int pe_int) pa_nil))) pa_nil)) (blkOk_by (own := [("_law_place", 3)]) (N := ["_law_box_here", "_law_way", "_law_signs", "_law_place"]) (sc := defScope s_law_value) (by decide +kernel)) (fun _ _ _ _ _ => (pg_name (i := 3) sc_law_value.nd rfl (.inl rfl))) (fun _ _ _ _ _ => pts_nil) (fun _ _ _ _ _ => (pe_ix ix_str (pv 2) (pe_cal c_law_take (hr.mono (by decide)) rfl (pa_cons (pv 0) (pa_cons (pe_callB call_lenZ (by rfl) (Z "len" (by decide)) PySem.boot_len (pa_cons (pv 2) pa_nil)) pa_nil))) (fun _ _ => rfl)))))))))))), ?_⟩
  walk_at "go"
  intro r1 l1 h10 h11 hl1
  walk_at "rd"
  refine r_ite (fun e => ?_) (fun e => ?_)
  · walk_at "rd"
    intro r2 l2 h20 h21 hl2
    walk_at "rd"
    exact q _ _ ((Keep.refl.mut (by simp)).mut (by simp)) (BoxAt.mono (by walk_at "bx") (by omega)) ⟨by omega, by omega⟩
  walk_at "rd"
  have kp1 : ∀ l1 p o l2, upd H b (.lst l1) p = none → Keep [b] H (upd (upd (upd H b (.lst l1)) p o) b (.lst l2)) := fun l1 p o l2 hp => ((Keep.refl.mut (by simp)).new hp).mut (by simp)
  refine r_ite (fun e => ?_) (fun e => ?_)
  · walk_at "rd"
    intro p hp
    have hp1 := upd_free hp
    walk_at "rd"
    intro r2 l2 h20 h21 hl2
    have hb2 : BoxAt (upd (upd (upd H b (.lst l1)) p (.lst [.int (10 ^ Int.toNat 30 - 1), .int (1 - 10 ^ Int.toNat 30), .int (10 ^ Int.toNat 29), .int 0])) b (.lst l2)) b (n + 50) := (BoxAt.upd hl2).mono (by omega)
    have : r2 = 0 ∨ r2 = 1 ∨ r2 = 2 ∨ r2 = 3 := by omega
    rcases this with rfl | rfl | rfl | rfl
    · exact r_ixL (SqL.of (upd_old hp1.2 upd_same)) rfl (q _ _ (kp1 _ _ _ _ hp) hb2 ⟨by decide +kernel, by decide +kernel⟩)
    · exact r_ixL (SqL.of (upd_old hp1.2 upd_same)) rfl (q _ _ (kp1 _ _ _ _ hp) hb2 ⟨by decide +kernel, by decide +kernel⟩)
    · exact r_ixL (SqL.of (upd_old hp1.2 upd_same)) rfl (q _ _ (kp1 _ _ _ _ hp) hb2 ⟨by decide +kernel, by decide +kernel⟩)
    · exact r_ixL (SqL.of (upd_old hp1.2 upd_same)) rfl (q _ _ (kp1 _ _ _ _ hp) hb2 ⟨by decide +kernel, by decide +kernel⟩)
  walk_at "rd"
  refine r_ite (fun e => ?_) (fun e => ?_)
  · walk_at "rd"
    intro p hp
    have hp1 := upd_free hp
    walk_at "rd"
    intro r2 l2 h20 h21 hl2
    have hb2 : ∀ o, BoxAt (upd (upd (upd H b (.lst l1)) p o) b (.lst l2)) b (n + 50) := fun o => (BoxAt.upd hl2).mono (by omega)
    have : r2 = 0 ∨ r2 = 1 ∨ r2 = 2 ∨ r2 = 3 ∨ r2 = 4 ∨ r2 = 5 ∨ r2 = 6 ∨ r2 = 7 := by omega
    rcases this with rfl | rfl | rfl | rfl | rfl | rfl | rfl | rfl
    · exact r_ixL (SqL.of (upd_old hp1.2 upd_same)) rfl (q _ _ (kp1 _ _ _ _ hp) (hb2 _) ⟨by decide +kernel, by decide +kernel⟩)
    · exact r_ixL (SqL.of (upd_old hp1.2 upd_same)) rfl (q _ _ (kp1 _ _ _ _ hp) (hb2 _) ⟨by decide +kernel, by decide +kernel⟩)
    · exact r_ixL (SqL.of (upd_old hp1.2 upd_same)) rfl (q _ _ (kp1 _ _ _ _ hp) (hb2 _) ⟨by decide +kernel, by decide +kernel⟩)
    · exact r_ixL (SqL.of (upd_old hp1.2 upd_same)) rfl (q _ _ (kp1 _ _ _ _ hp) (hb2 _) ⟨by decide +kernel, by decide +kernel⟩)
    · exact r_ixL (SqL.of (upd_old hp1.2 upd_same)) rfl (q _ _ (kp1 _ _ _ _ hp) (hb2 _) ⟨by decide +kernel, by decide +kernel⟩)
    · exact r_ixL (SqL.of (upd_old hp1.2 upd_same)) rfl (q _ _ (kp1 _ _ _ _ hp) (hb2 _) ⟨by decide +kernel, by decide +kernel⟩)
    · exact r_ixL (SqL.of (upd_old hp1.2 upd_same)) rfl (q _ _ (kp1 _ _ _ _ hp) (hb2 _) ⟨by decide +kernel, by decide +kernel⟩)
    · exact r_ixL (SqL.of (upd_old hp1.2 upd_same)) rfl (q _ _ (kp1 _ _ _ _ hp) (hb2 _) ⟨by decide +kernel, by decide +kernel⟩)
  walk_at "rd"
  refine r_ite (fun e => ?_) (fun e => ?_)
  all_goals
    walk_at "rd"
    intro r2 l2 h20 h21 hl2
    walk_at "rd"
    refine lcR fun D hD => ⟨fun i H' => ∃ zs : List Nat, zs.length = i ∧ (∀ c ∈ zs, 32 ≤ c ∧ c ≤ 126) ∧ Keep [b] H H' ∧ BoxAt H' b (n + 2 + i) ∧ H' D = some (.lst ((zs.map oneS).map V.str)), ?_, ?_, ?_⟩
    · exact ⟨[], rfl, nofun, ((Keep.refl.mut (by simp)).mut (by simp)).new hD, BoxAt.mono (BoxAt.new (BoxAt.upd hl2) hD) (by omega), upd_same⟩
    · rintro i Hi hi ⟨zs, hz, hc, kp, bx, hDi⟩
      have nDb : D ≠ b := (upd_free hD).2
      have nD0 : H D = none := (upd_free (upd_free hD).1).1
      walk_at "rd"
      intro r l hr0 hr1 hl
      have hr2 : r < 94 := hr1
      have hg : 32 ≤ signAt r.toNat ∧ signAt r.toNat ≤ 126 := by unfold signAt; split <;> omega
      refine r_ixS (by decide +kernel) (at_g (z := r) (j := r.toNat) (by omega) (signs_at _ (by omega))) ?_
      refine r_lcE (upd_old nDb hDi) (by simp; omega) ⟨zs ++ [signAt r.toNat], by simp [hz], ?_, (kp.mut (by simp)).own nD0, (BoxAt.upd hl).ne nDb |>.mono (by omega), ?_⟩
      · intro c h
        rcases List.mem_append.mp h with h | h
        · exact hc c h
        · rw [List.mem_singleton.mp h]
          exact hg
      · rw [upd_same, List.map_append, List.map_append]
        rfl
    · rintro Hi ⟨zs, hz, hc, kp, bx, hDi⟩
      refine r_join (ys := zs.map oneS) (SqL.of hDi) ?_ ?_
      · rw [sum_ones]
        show zs.length + _ * 0 ≤ 16777216
        omega
      have hst : tl (Txt.join (Str.ofString "") (zs.map oneS)) = zs := tl_joinE zs _ rfl
      exact q _ _ kp (bx.mono (by omega)) ⟨by rw [hst]; omega, by rw [hst]; exact hc⟩
end
end A

namespace A
section
variable {P : Program} {w : World} {K : PySem.W.Frag} {mg : Str → Option Value} {base : Heap}
/-- the program within a step -/
def cInner : V → Hp → VK → Prop := fun v H Q => ∃ s : Stp, DT H v s.data ∧ ∀ v' H', Same H H' → DT H' v' (progD s.inner) → Q v' H'
theorem ok_inner_of (S : Std K mg "inner_of" s_inner_of) (Z : Blt mg) : Cal P w K mg base 1 "inner_of" ["step"] (Sp1 cInner) := by
  refine cal_mk S sc_inner_of (fun _ _ _ _ _ _ us hl => match us, hl with | [_], _ => rfl) (fun _ _ _ _ h => len1 h) (fun f cdv A outer s H vs Q E hr h => ?_)
  obtain ⟨v, rfl, st, hv, q⟩ := h
  obtain ⟨a, xs, rfl, ha, hl, h0, hb, hn⟩ := step_at hv
  refine ⟨_, (pss_cons (ps_if (pt_cmpR op_in_seq (pe_ix ix_tup (pv 0) pe_int (fun _ _ => rfl)) (pe_tup (pa_cons pe_str (pa_cons pe_str (pa_cons pe_str pa_nil)))) (by rfl))
  (pss_one (ps_ret (pe_ix ix_tup (pv 0) (pe_un un_neg pe_int) (fun _ _ => rfl))))
  pss_nil)
  (pss_one (ps_ret (pe_tup pa_nil)))), ?_⟩
  walk_at "go"
  refine r_ixT (SqT.of ha) h0 ?_
  walk_at "rd"
  intro p hp
  walk_at "rd"
  rw [word_block]
  have sm : Same H (upd H p (.tup [.str "begin", .str "late", .str "in"])) := same_new hp
  by_cases hB : st.isBlock = true
  · rw [hB]
    obtain ⟨vi, hi, hd⟩ := hb hB
    walk_at "rd"
    exact r_ixT (SqT.of (sm _ _ ha)) hi (q _ _ sm (hd.mono (.same sm)))
  · rw [Bool.eq_false_iff.mpr hB]
    walk_at "rd"
    intro p2 hp2
    refine q _ _ (sm.trans (same_new hp2)) ?_
    rw [noblock_inner (Bool.eq_false_iff.mpr hB)]
    exact .tup upd_same .nil
/-- how many steps; n blocks within one another at most -/
def cSteps (n : Nat) : V → Hp → VK → Prop := fun v H Q => ∃ p : List Stp, DT H v (progD p) ∧ Deep n p ∧ countL p ≤ 1000 ∧ ∀ H', Same H H' → Q (.int (countL p : Nat)) H'
theorem ok_steps_in (S : Std K mg "steps_in" s_steps_in) (Z : Blt mg) (c_inner_of : Cal P w K mg base 1 "inner_of" ["step"] (Sp1 cInner)) : ∀ n, Cal P w K mg base (n + 1) "steps_in" ["program"] (Sp1 (cSteps n))
  | 0 => cal_never S (fun _ _ _ _ _ _ us hl => match us, hl with | [_], _ => rfl) fun vs H Q E ⟨_, _, p, _, hD, _⟩ => hD
  | n + 1 => by
    have c_steps_in := ok_steps_in S Z c_inner_of n
    refine cal_mk S sc_steps_in (fun _ _ _ _ _ _ us hl => match us, hl with | [_], _ => rfl) (fun _ _ _ _ h => len1 h) (fun f cdv A outer s H vs Q E hr h => ?_)
    obtain ⟨v, rfl, p, hv, hD, hc, q⟩ := h
    obtain ⟨a, xs, rfl, ha, hxs⟩ := prog_at hv
    have hr1 : Room 1 _ := hr.mono (by omega)
    refine ⟨_, (pss_one (ps_ret (pe_callB (cr_sum rfl) (by rfl) (Z "sum" (by decide)) (by decide +kernel) (pa_cons (pe_lc (own := [("step", 1)]) (g := gName 1) rfl sc_steps_in.nd (pi_tup (pv 0)) (blkOk_by (own := [("step", 1)]) (N := ["program", "step"]) (sc := defScope s_steps_in) (by decide +kernel)) (fun _ _ _ _ _ => (pg_name (i := 1) sc_steps_in.nd rfl (.inl rfl))) (fun _ _ _ _ _ => pts_nil) (fun _ _ _ _ _ => (pe_op op_add pe_int (pe_cal c_steps_in hr rfl (pa_cons (pe_cal c_inner_of hr1 rfl (pa_cons (pv 1) pa_nil)) pa_nil))))) pa_nil)))), ?_⟩
    walk_at "go"
    have hlen := prog_len hxs
    have hle := len_le_count p
    refine lcT fun D hDn => ⟨fun i H' => Same H H' ∧ H' D = some (.lst (((p.take i).map fun s => ((s.count : Nat) : Int)).map V.int)), ⟨same_new hDn, upd_same⟩, fun i H' _ h => SqT.of (h.1 _ _ ha), ?_, ?_⟩
    · rintro i x Hi hx ⟨sm, hDi⟩
      obtain ⟨st, hst, hd⟩ := prog_get hxs hx
      have hm : st ∈ p := List.mem_of_getElem? hst
      have hcm := countL_mem hm
      rw [count_eq] at hcm
      walk_at "rd"
      refine ⟨st, hd.mono (.same sm), fun v' H1 s1 hd1 => ?_⟩
      walk_at "rd"
      refine ⟨st.inner, hd1, hD st hm, by omega, fun H2 s2 => ?_⟩
      walk_at "rd"
      have hi : i < p.length := (List.getElem?_eq_some_iff.mp hst).1
      have hD2 : H2 D = _ := s2 _ _ (s1 _ _ hDi)
      refine r_lcE hD2 (by simp; omega) ⟨?_, ?_⟩
      · exact ((Same.keep (M := []) (sm.trans (s1.trans s2))).own hDn).same
      · rw [upd_same, List.take_add_one, hst]
        simp only [List.map_append, Option.toList, List.map_cons, List.map_nil, count_eq]
        rw [show ((countL st.inner + 1 : Nat) : Int) = 1 + (countL st.inner : Nat) by omega]
    · rintro Hi ⟨sm, hDi⟩
      refine ⟨D, _, rfl, SqL.of hDi, ?_⟩
      rw [hlen, List.take_length]
      rw [sum_counts]
      exact q Hi sm
/-- the names of a program, into a dict of names -/
def cGather (n : Nat) : V → V → Hp → VK → Prop := fun v m H Q => ∃ (p : List Stp) (a : Addr) (ns : List Str), DT H v (progD p) ∧ Deep n p ∧ m = .ref a ∧ H a = some (.dK (keysD ns)) ∧ ns.length + countL p ≤ 1000 ∧
  ∀ H', Keep [a] H H' → H' a = some (.dK (keysD (addNames ns (namesOf p)))) → Q .non H'
theorem ok_gather (S : Std K mg "gather" s_gather) (Z : Blt mg) (c_inner_of : Cal P w K mg base 1 "inner_of" ["step"] (Sp1 cInner)) : ∀ n, Cal P w K mg base (n + 1) "gather" ["program", "met"] (Sp2 (cGather n))
  | 0 => cal_never S (fun _ _ _ _ _ _ us hl => match us, hl with | [_, _], _ => rfl) fun vs H Q E ⟨_, _, _, p, _, _, _, hD, _⟩ => hD
  | n + 1 => by
    have c_gather := ok_gather S Z c_inner_of n
    refine cal_mk S sc_gather (fun _ _ _ _ _ _ us hl => match us, hl with | [_, _], _ => rfl) (fun _ _ _ _ h => len2 h) (fun f cdv A outer s H vs Q E hr h => ?_)
    obtain ⟨v, _, rfl, p, m, ns, hv, hD, rfl, hm, hc, q⟩ := h
    obtain ⟨a, xs, rfl, ha, hxs⟩ := prog_at hv
    have hr1 : Room 1 _ := hr.mono (by omega)
    refine ⟨_, (pss_one (ps_for PassesOwn.never rfl (pi_tup (pv 0)) (pg_name (i := 2) sc_gather.nd rfl (.inl rfl))
  (pss_cons (ps_if (pt_cmpR op_in_seq (pe_ix ix_tup (pv 2) pe_int (fun _ _ => rfl)) (pe_tup (pa_cons pe_str (pa_cons pe_str pa_nil))) (by rfl))
  (pss_one (ps_dput (hu_of hr) (pv 1) (pe_ix ix_tup (pv 2) pe_int (fun _ _ => rfl)) pe_bl rfl))
  pss_nil)
  (pss_one (ps_expr (pe_cal c_gather hr rfl (pa_cons (pe_cal c_inner_of hr1 rfl (pa_cons (pv 2) pa_nil)) (pa_cons (pv 1) pa_nil)))))))), ?_⟩
    walk_at "go"
    have hlen := prog_len hxs
    have tk : ∀ {H'}, Keep [m] H H' → TK H H' := fun k => TK.keep k (fun x hx xs e => by
      rw [List.mem_singleton.mp hx, hm] at e
      cases e)
    refine forT (xs := xs) (fun i σ H' => ∃ y, σ = [some (.ref a), some (.ref m), y] ∧ Keep [m] H H' ∧ H' m = some (.dK (keysD (addNames ns (namesOf (p.take i)))))) ⟨none, rfl, Keep.refl, hm⟩ (fun i σ H' _ h => ?_) ?_ ?_
    · obtain ⟨y, _, k, _⟩ := h
      exact SqT.of (tk k _ _ ha)
    · rintro i x σ Hi hx ⟨y, rfl, kp, hmi⟩
      obtain ⟨st, hst, hd⟩ := prog_get hxs hx
      have hmem : st ∈ p := List.mem_of_getElem? hst
      have hcm : countL (p.take (i + 1)) ≤ countL p := by
        have e := countL_append (p.take (i + 1)) (p.drop (i + 1))
        rw [List.take_append_drop] at e
        omega
      have hcm2 : countL (p.take (i + 1)) = countL (p.take i) + st.count := by
        rw [List.take_add_one, hst, countL_append]
        rfl
      rw [count_eq] at hcm2
      have hl1 := addNames_len (namesOf (p.take i)) ns
      have hl2 := namesOf_len (p.take i)
      obtain ⟨b, ys, rfl, hb, hl, g0, gb, gn⟩ := step_at (hd.mono (tk kp))
      have last : ∀ ns1 H1, Keep [m] H H1 → H1 m = some (.dK (keysD ns1)) → ns1.length ≤ ns.length + countL (p.take i) + 1 → addNames ns (namesOf (p.take i) ++ st.own) = ns1 →
          tDrop (tCall (Sp2 (cGather n)) [] E0 (tCons (tCall (Sp1 cInner) [] E0 (tCons (tVar 2) tNil)) (tCons (tVar 1) tNil))) ⟨fun σ H' => ∃ y, σ = [some (.ref a), some (.ref m), y] ∧ Keep [m] H H' ∧ H' m = some (.dK (keysD (addNames ns (namesOf (p.take (i + 1)))))), Q, fun _ H' => Q .non H', fun σ H' => ∃ y, σ = [some (.ref a), some (.ref m), y] ∧ Keep [m] H H' ∧ H' m = some (.dK (keysD (addNames ns (namesOf (p.take (i + 1)))))) ⟩
          ([some (.ref a), some (.ref m), y].set 2 (some (.ref b))) H1 := fun ns1 H1 k1 hm1 hn1 he => by
        walk_at "rd"
        refine ⟨st, hd.mono (tk k1), fun v' H2 s2 hd2 => ?_⟩
        walk_at "rd"
        refine ⟨st.inner, m, ns1, hd2, hD st hmem, rfl, s2 _ _ hm1, by omega, fun H3 k3 hm3 => ?_⟩
        refine ⟨_, rfl, k1.trans ((Same.keep s2).trans k3), ?_⟩
        rw [hm3, namesOf_take hst, ← List.append_assoc, addNames_append ns (namesOf (p.take i) ++ st.own), he]
      walk_at "rd"
      refine r_ixT (SqT.of hb) g0 ?_
      walk_at "rd"
      intro t ht
      walk_at "rd"
      rw [word_own]
      have kt : Keep [m] H (upd Hi t (.tup [.str "set", .str "look"])) := kp.new ht
      have hmt : upd Hi t (.tup [.str "set", .str "look"]) m = _ := upd_new ht hmi
      cases hO : st.own with
      | nil =>
        refine iteF (r_next ?_)
        refine last _ _ kt hmt (by omega) ?_
        rw [hO, List.append_nil]
      | cons nm r =>
        have hr0 : r = [] := by
          have := own_len st
          rw [hO, List.length_cons] at this
          exact List.eq_nil_of_length_eq_zero (by omega)
        subst hr0
        refine iteT ?_
        walk_at "rd"
        refine r_ixT (SqT.of (upd_new ht hb)) (gn nm (by rw [hO]; exact List.mem_singleton.mpr rfl)) ?_
        refine r_dputS hmt (by unfold keysD; rw [List.length_map]; omega) ?_
        refine last (addName (addNames ns (namesOf (p.take i))) nm) _ (kt.mut (by simp)) ?_ ?_ ?_
        · rw [upd_same, put_keys]
        · have := addName_len (addNames ns (namesOf (p.take i))) nm
          omega
        · rw [hO, addNames_append]
          rfl
    · rintro σ Hi ⟨y, rfl, kp, hmi⟩
      rw [hlen, List.take_length] at hmi
      exact q _ kp hmi
/-- the names, a new list -/
def cNamesIn (n : Nat) : V → Hp → VK → Prop := fun v H Q => ∃ p : List Stp, DT H v (progD p) ∧ Deep n p ∧ countL p ≤ 1000 ∧ ∀ a H', Same H H' → H a = none → H' a = some (.lst ((addNames [] (namesOf p)).map V.str)) → Q (.ref a) H'
theorem ok_names_in (S : Std K mg "names_in" s_names_in) (Z : Blt mg) {n : Nat} (c_gather : Cal P w K mg base (n + 1) "gather" ["program", "met"] (Sp2 (cGather n))) : Cal P w K mg base (n + 2) "names_in" ["program"] (Sp1 (cNamesIn n)) := by
  refine cal_mk S sc_names_in (fun _ _ _ _ _ _ us hl => match us, hl with | [_], _ => rfl) (fun _ _ _ _ h => len1 h) (fun f cdv A outer s H vs Q E hr h => ?_)
  obtain ⟨v, rfl, p, hv, hD, hc, q⟩ := h
  refine ⟨_, (pss_cons (ps_set (i := 1) sc_names_in.nd rfl (.inl rfl) pe_dnewK)
  (pss_cons (ps_expr (pe_cal c_gather hr rfl (pa_cons (pv 0) (pa_cons (pv 1) pa_nil))))
  (pss_one (ps_ret (pe_callTy (call_list_dK rfl) (by rfl) (Z "list" (by decide)) (by decide +kernel) (pa_cons (pv 1) pa_nil)))))), ?_⟩
  walk_at "go"
  intro m hm
  walk_at "rd"
  refine ⟨p, m, [], hv.mono (.same (same_new hm)), hD, rfl, upd_same, by simp; omega, fun H1 k1 h1 => ?_⟩
  walk_at "rd"
  intro l hl
  rw [keys_back]
  have sm : Same H H1 := fun x o e => k1 x o (by simp; exact ne_of_none e hm) (upd_new hm e)
  exact q l _ (sm.trans (same_new hl)) (sm.free hl) upd_same
end
end A

namespace A
section
variable {P : Program} {w : World} {K : PySem.W.Frag} {mg : Str → Option Value} {base : Heap}
/-- two readings of one datum are the same -/
def cSame (K : PySem.W.Frag) (n : Nat) : V → V → Hp → VK → Prop := fun x y H Q => ∃ d, Dp K H x d ∧ Dp K H y d ∧ Lv n d ∧ ∀ H', Same H H' → Q (.bl true) H'
theorem ok_same (S : Std K mg "_law_same" s_law_same) (Z : Blt mg) : ∀ n, Cal P w K mg base (n + 1) "_law_same" ["_law_found", "_law_due"] (Sp2 (cSame K n))
  | 0 => cal_never S (fun _ _ _ _ _ _ us hl => match us, hl with | [_, _], _ => rfl) fun vs H Q E ⟨_, _, _, d, _, _, h, _⟩ => h
  | n + 1 => by
    have c_law_same := ok_same S Z n
    refine cal_mk S sc_law_same (fun _ _ _ _ _ _ us hl => match us, hl with | [_, _], _ => rfl) (fun _ _ _ _ h => len2 h) (fun f cdv A outer s H vs Q E hr h => ?_)
    obtain ⟨x, y, rfl, d, hx, hy, hL, q⟩ := h
    refine ⟨_, (pss_cons (ps_if (pt_val (pe_isiT (C := "list") (D := "tuple") (Z "isinstance" (by decide)) (pv 1) (Z "list" (by decide)) (Z "tuple" (by decide)) (by decide +kernel) (by decide +kernel) (by decide +kernel) (by decide +kernel)))
  (pss_cons (ps_if (PW.pt (pw_or (pt_cmpR op_ne (pe_isi (C := "list") (Z "isinstance" (by decide)) (pv 0) (Z "list" (by decide)) (by decide +kernel) (by decide +kernel)) (pe_isi (C := "list") (Z "isinstance" (by decide)) (pv 1) (Z "list" (by decide)) (by decide +kernel) (by decide +kernel)) (nomark _)) (pw_or1 (pt_cmpR op_ne (pe_isi (C := "tuple") (Z "isinstance" (by decide)) (pv 0) (Z "tuple" (by decide)) (by decide +kernel) (by decide +kernel)) (pe_isi (C := "tuple") (Z "isinstance" (by decide)) (pv 1) (Z "tuple" (by decide)) (by decide +kernel) (by decide +kernel)) (nomark _)))))
  (pss_one (ps_ret pe_bl))
  pss_nil)
  (pss_one (ps_ret (pe_and (pe_cmpR op_eq (pe_callB call_lenQ (by rfl) (Z "len" (by decide)) PySem.boot_len (pa_cons (pv 0) pa_nil)) (pe_callB call_lenQ (by rfl) (Z "len" (by decide)) PySem.boot_len (pa_cons (pv 1) pa_nil)) (nomark _)) (pe_one (pe_callB (cr_all rfl) (by rfl) (Z "all" (by decide)) (by decide +kernel) (pa_cons (pe_lc (own := [("_law_one", 2), ("_law_other", 3)]) (g := gTup K 2 (gCons (gName 2) (gCons (gName 3) gNil))) rfl sc_law_same.nd (RZ.pi_zipA (by rfl) (Z "zip" (by decide)) (pa_cons (pv 0) (pa_cons (pv 1) pa_nil))) (blkOk_by (own := [("_law_one", 2), ("_law_other", 3)]) (N := ["_law_found", "_law_due", "_law_one", "_law_other"]) (sc := defScope s_law_same) (by decide +kernel)) (fun _ _ _ _ _ => (pg_tup rfl (pgs_cons (pg_name (i := 2) sc_law_same.nd rfl (.inl rfl)) (pgs_cons (pg_name (i := 3) sc_law_same.nd rfl (.inl rfl)) pgs_nil)))) (fun _ _ _ _ _ => pts_nil) (fun _ _ _ _ _ => (pe_cal c_law_same hr rfl (pa_cons (pv 2) (pa_cons (pv 3) pa_nil))))) pa_nil)))))))
  pss_nil)
  (pss_cons (ps_if (PW.pt (pw_or (pt_cmpR op_isNQ (pv 1) pe_non (nomark _)) (pw_or1 (pt_cmpR op_isNQ (pv 0) pe_non (nomark _)))))
  (pss_one (ps_ret (pe_and (pe_cmpR op_isNQ (pv 1) pe_non (nomark _)) (pe_one (pe_cmpR op_isNQ (pv 0) pe_non (nomark _))))))
  pss_nil)
  (pss_cons (ps_if (pt_cmpR op_ne (pe_isi (C := "bool") (Z "isinstance" (by decide)) (pv 1) (Z "bool" (by decide)) (by decide +kernel) (by decide +kernel)) (pe_isi (C := "bool") (Z "isinstance" (by decide)) (pv 0) (Z "bool" (by decide)) (by decide +kernel) (by decide +kernel)) (nomark _))
  (pss_one (ps_ret pe_bl))
  pss_nil)
  (pss_one (ps_ret (pe_and (pe_cmpR op_eq (pe_isi (C := "str") (Z "isinstance" (by decide)) (pv 0) (Z "str" (by decide)) (by decide +kernel) (by decide +kernel)) (pe_isi (C := "str") (Z "isinstance" (by decide)) (pv 1) (Z "str" (by decide)) (by decide +kernel) (by decide +kernel)) (nomark _)) (pe_one (pe_cmpR op_eq (pv 0) (pv 1) (nomark _))))))))), ?_⟩
    have loop : ∀ (xs ys : List V) (ds : List PyData), DpAll K H xs ds → DpAll K H ys ds → (∀ d ∈ ds, Lv n d) → ∀ (i : Nat) (x y : V) (H1 : Hp), xs[i]? = some x → ys[i]? = some y → Same H H1 → ∃ d, Dp K H1 x d ∧ Dp K H1 y d ∧ Lv n d := fun xs ys ds hx hy hl i x y H1 e1 e2 sm => by
      obtain ⟨d1, g1, k1⟩ := DpAll.get hx e1
      obtain ⟨d2, g2, k2⟩ := DpAll.get hy e2
      rw [g1] at g2
      cases Option.some.inj g2
      exact ⟨d1, Dp.mono sm k1, Dp.mono sm k2, hl d1 (List.mem_of_getElem? g1)⟩
    have res : ∀ (D t : Addr) (m : Nat) (o : HO), H t = none → upd H t o D = none → Same H (upd (upd H t o) D (.lst [])) := fun D t m o h1 h2 => (same_new h1).trans (same_new h2)
    cases d with
    | list ds =>
      obtain ⟨a, xs, rfl, ha, hxs⟩ := Dp.lst_inv hx
      obtain ⟨b, ys, rfl, hb, hys⟩ := Dp.lst_inv hy
      have hl1 := DpAll.len hxs
      have hl2 := DpAll.len hys
      walk_at "go"
      intro t ht
      walk_at "rd"
      rw [decide_eq_true (show ((xs.length : Nat) : Int) = (ys.length : Nat) by omega)]
      walk_at "rd"
      refine r_zipL (sqL_new ht ha) (sqL_new ht hb) ?_
      refine lcZ (by omega) fun D hD => ⟨fun i H' => Same H H' ∧ H' D = some (.lst ((List.replicate i true).map V.bl)), ⟨(same_new ht).trans (same_new hD), upd_same⟩, fun i H' h => ⟨h.1.seq ha, h.1.seq hb⟩, ?_, ?_⟩
      · rintro i x y T Hi h1 h2 ⟨sm, hDi⟩ hT
        have sm1 : Same H (upd Hi T (.tup [x, y])) := sm.trans (same_new hT)
        obtain ⟨d, k1, k2, k3⟩ := loop xs ys ds hxs hys hL.2 i x y _ h1 h2 sm1
        walk_at "rd"
        refine ⟨d, k1, k2, k3, fun H3 s3 => ?_⟩
        have hi : i < xs.length := (List.getElem?_eq_some_iff.mp h1).1
        refine r_lcE (s3 _ _ (upd_new hT hDi)) (by have := hL.1; simp; omega) ⟨?_, ?_⟩
        · exact ((Same.keep (M := []) (sm1.trans s3)).own ((same_new ht).free hD)).same
        · rw [upd_same, List.replicate_succ', List.map_append]
          rfl
      · rintro Hi ⟨sm, hDi⟩
        walk_at "rd"
        refine r_all (SqL.of hDi) ?_
        rw [rep_all]
        exact q _ sm
    | tuple ds =>
      obtain ⟨a, xs, rfl, ha, hxs⟩ := Dp.tup_inv hx
      obtain ⟨b, ys, rfl, hb, hys⟩ := Dp.tup_inv hy
      have hl1 := DpAll.len hxs
      have hl2 := DpAll.len hys
      walk_at "go"
      intro t ht
      walk_at "rd"
      rw [decide_eq_true (show ((xs.length : Nat) : Int) = (ys.length : Nat) by omega)]
      walk_at "rd"
      refine r_zipT (sqT_new ht ha) (sqT_new ht hb) ?_
      refine lcZT (by omega) fun D hD => ⟨fun i H' => Same H H' ∧ H' D = some (.lst ((List.replicate i true).map V.bl)), ⟨(same_new ht).trans (same_new hD), upd_same⟩, fun i H' h => ⟨sqT_same h.1 ha, sqT_same h.1 hb⟩, ?_, ?_⟩
      · rintro i x y T Hi h1 h2 ⟨sm, hDi⟩ hT
        have sm1 : Same H (upd Hi T (.tup [x, y])) := sm.trans (same_new hT)
        obtain ⟨d, k1, k2, k3⟩ := loop xs ys ds hxs hys hL.2 i x y _ h1 h2 sm1
        walk_at "rd"
        refine ⟨d, k1, k2, k3, fun H3 s3 => ?_⟩
        have hi : i < xs.length := (List.getElem?_eq_some_iff.mp h1).1
        refine r_lcE (s3 _ _ (upd_new hT hDi)) (by have := hL.1; simp; omega) ⟨?_, ?_⟩
        · exact ((Same.keep (M := []) (sm1.trans s3)).own ((same_new ht).free hD)).same
        · rw [upd_same, List.replicate_succ', List.map_append]
          rfl
      · rintro Hi ⟨sm, hDi⟩
        walk_at "rd"
        refine r_all (SqL.of hDi) ?_
        rw [rep_all]
        exact q _ sm
    | none =>
      cases hx
      cases hy
      walk_at "go"
      intro t ht
      walk_at "rd"
      exact q _ (same_new ht)
    | bool b =>
      cases hx
      cases hy
      walk_at "go"
      intro t ht
      walk_at "rd"
      rw [decide_eq_true rfl]
      exact q _ (same_new ht)
    | int i =>
      cases hx
      cases hy
      walk_at "go"
      intro t ht
      walk_at "rd"
      rw [decide_eq_true rfl]
      exact q _ (same_new ht)
    | str z =>
      cases hx
      cases hy
      walk_at "go"
      intro t ht
      walk_at "rd"
      rw [decide_eq_true rfl]
      exact q _ (same_new ht)
    | dict _ => cases hL
end
end A

namespace A
section
variable {P : Program} {w : World} {K : PySem.W.Frag} {mg : Str → Option Value} {base : Heap}
/-- all steps, as they come: a new list -/
def cFlat : V → Hp → VK → Prop := fun v H Q => ∃ (p : List Stp) (n : Nat), DT H v (progD p) ∧ OkL p ∧ Deep n p ∧ n ≤ 30 ∧ countL p ≤ 1000 ∧ ∀ a vs H', Same H H' → H a = none → H' a = some (.lst vs) → DTs H' vs (dataL (flatL p)) → Q (.ref a) H'
theorem ok_flat (S : Std K mg "_law_flat" s_law_flat) (Z : Blt mg) : Cal P w K mg base 1 "_law_flat" ["_law_program_here"] (Sp1 cFlat) := by
  refine cal_mk S sc_law_flat (fun _ _ _ _ _ _ us hl => match us, hl with | [_], _ => rfl) (fun _ _ _ _ h => len1 h) (fun f cdv A outer s H vs Q E hr h => ?_)
  obtain ⟨v, rfl, p, n, hv, ok, hD, hn, hc, q⟩ := h
  obtain ⟨a, xs, rfl, ha, hxs⟩ := prog_at hv
  have hlp := prog_len hxs
  have hle := len_le_count p
  cases n with
  | zero => exact hD.elim
  | succ n =>
  refine ⟨_, (pss_cons (ps_par (i := 1) (j := 2) (by rfl) sc_law_flat.nd rfl rfl (by decide) rfl rfl (pa_cons (pe_lst pa_nil) (pa_cons (pe_callTy call_listQ (by rfl) (Z "list" (by decide)) (by decide +kernel) (pa_cons (pe_revT (pv 0)) pa_nil)) pa_nil)) (by rfl))
  (pss_cons (ps_while PassesOwn.never (pt_cmpR (op_neD hr.units) (pv 2) (pe_lst pa_nil) (nomark _))
  (pss_cons (ps_set (i := 3) sc_law_flat.nd rfl (.inl rfl) (pe_bm0 PySem.F.plainAttrs_list PySem.F.slot_list_pop PySem.F.type_list_pop mt_pop (pv 2)))
  (pss_cons (ps_expr (pe_bm PySem.F.plainAttrs_list PySem.F.slot_list_append PySem.F.type_list_append mt_append (pv 1) (pa_cons (pv 3) pa_nil)))
  (pss_one (ps_if (pt_cmpR op_in_seq (pe_ix ix_tup (pv 3) pe_int (fun _ _ => rfl)) (pe_tup (pa_cons pe_str (pa_cons pe_str (pa_cons pe_str pa_nil)))) (by rfl))
  (pss_one (ps_expr (pe_bm PySem.F.plainAttrs_list PySem.F.slot_list_extend PySem.F.type_list_extend mt_extend (pv 2) (pa_cons (pe_callTy call_listQ (by rfl) (Z "list" (by decide)) (by decide +kernel) (pa_cons (pe_revT (pe_ix ix_tup (pv 3) (pe_un un_neg pe_int) (fun _ _ => rfl))) pa_nil)) pa_nil))))
  pss_nil)))))
  (pss_one (ps_ret (pv 1))))), ?_⟩
  walk_at "go"
  intro o ho
  walk_at "rd"
  intro t ht
  walk_at "rd"
  intro l hl
  walk_at "rd"
  have hl1 := upd_free hl
  have hl2 := upd_free hl1.1
  have ht1 := upd_free ht
  refine r_while (fun m σ H' => ∃ (y : Option V) (dn stk : List Stp) (ws us : List V), σ = [some (.ref a), some (.ref o), some (.ref l), y] ∧ m = countL stk ∧ Same H H' ∧ H' o = some (.lst ws) ∧ H' l = some (.lst us.reverse) ∧
    DTs H' ws (dataL dn) ∧ DTs H' us (dataL stk) ∧ flatL p = dn ++ flatL stk ∧ OkL stk ∧ Deep (n + 1) stk) (countL p) ?_ ?_
  · have sm : Same H (upd (upd (upd H o (.lst [])) t (.tup xs.reverse)) l (.lst xs.reverse)) := ((same_new ho).trans (same_new ht)).trans (same_new hl)
    exact ⟨none, [], p, [], xs, rfl, rfl, sm, upd_new hl (upd_new ht upd_same), upd_same, .nil, hxs.mono (.same sm), rfl, ok, hD⟩
  · rintro m σ Hi ⟨y, dn, stk, ws, us, rfl, rfl, sm, hoi, hli, hw, hu, e, okS, hDs⟩
    walk_at "rd"
    intro z hz
    have tk1 : TK Hi (upd Hi z (.lst [])) := TK.refl.new hz
    have hdp : Dp K (upd Hi z (.lst [])) (.ref l) (.list (dataL stk.reverse)) := by
      rw [dataL_reverse]
      exact .lst (SqL.of (upd_new hz hli)) (DTs.dp (hu.mono tk1).reverse)
    refine r_neNil hdp (shaped_of (n := n + 1) (OkL.of fun s hs => okS.mem s (List.mem_reverse.mp hs)) (fun s hs => hDs s (List.mem_reverse.mp hs)) hn) (SqL.of upd_same) ?_
    cases stk with
    | nil =>
      refine r_k (r_whF ?_)
      walk_at "rd"
      rw [show flatL ([] : List Stp) = [] from rfl, List.append_nil] at e
      refine q o ws _ (sm.trans (same_new hz)) ho (upd_new hz hoi) ?_
      rw [e]
      exact hw.mono tk1
    | cons st r =>
      have he : (!(dataL (st :: r).reverse).isEmpty) = true := by
        rw [dataL_map, List.reverse_cons]
        simp
      rw [he]
      refine r_k (r_whT ?_)
      obtain ⟨v, us', rfl, hv, hu'⟩ := hu.cons_inv
      have sm1 : Same H (upd Hi z (.lst [])) := sm.trans (same_new hz)
      have hlv : Hi l = some (.lst (us'.reverse ++ [v])) := by rw [hli, List.reverse_cons]
      obtain ⟨b, ys, rfl, hb, hbl, g0, gb, _⟩ := step_at (hv.mono tk1)
      have hlz : l ≠ z := ne_of_none hli hz
      have hoz : o ≠ z := ne_of_none hoi hz
      have hlo : l ≠ o := hl2.2
      have hbl2 : b ≠ l := ne_of hb (upd_new hz hli) nofun
      have hbo2 : b ≠ o := ne_of hb (upd_new hz hoi) nofun
      have hcs : countL (st :: r) = st.count + countL r := rfl
      have hfl : flatL (st :: r) = st :: (flatL st.inner ++ flatL r) := by rw [flatL, flat_eq]; rfl
      walk_at "rd"
      refine r_pop (v := .ref b) (xs := us'.reverse ++ [.ref b]) (upd_new hz hlv) (by simp) ?_
      rw [List.dropLast_concat]
      walk_at "rd"
      have hwl : ws.length < 100000 := by
        have h1 := hw.len
        rw [dataL_map, List.length_map] at h1
        have h2 := congrArg List.length e
        rw [flatL_len, List.length_append] at h2
        omega
      refine r_app (upd_old hlo.symm (upd_new hz hoi)) hwl ?_
      walk_at "rd"
      refine r_ixT (SqT.of (upd_old hbo2 (upd_old hbl2 hb))) g0 ?_
      walk_at "rd"
      intro t2 ht2
      walk_at "rd"
      rw [word_block]
      have kp : ∀ H2, H2 = upd (upd (upd (upd Hi z (.lst [])) l (.lst us'.reverse)) o (.lst (ws ++ [.ref b]))) t2 (.tup [.str "begin", .str "late", .str "in"]) → Same H H2 ∧ TK (upd Hi z (.lst [])) H2 ∧ H2 o = some (.lst (ws ++ [.ref b])) ∧ H2 l = some (.lst us'.reverse) := by
        rintro H2 rfl
        refine ⟨?_, ?_, upd_new ht2 upd_same, upd_new ht2 (upd_old hlo upd_same)⟩
        · exact ((((Same.keep (M := []) sm1).own hl2.1).own ho).new ht2).same
        · exact ((TK.refl.mut (upd_new hz hli) nofun).mut (upd_old hlo.symm (upd_new hz hoi)) nofun).new ht2
      obtain ⟨k1, k2, k3, k4⟩ := kp _ rfl
      generalize upd (upd (upd (upd Hi z (.lst [])) l (.lst us'.reverse)) o (.lst (ws ++ [.ref b]))) t2 (.tup [.str "begin", .str "late", .str "in"]) = H2 at k1 k2 k3 k4 ⊢
      have hws : DTs (upd Hi z (.lst [])) (ws ++ [.ref b]) (dataL (dn ++ [st])) := by
        rw [dataL_append]
        exact (hw.mono tk1).append (.cons (hv.mono tk1) .nil)
      by_cases hB : st.isBlock = true
      · rw [hB]
        obtain ⟨vi, hi, hd⟩ := gb hB
        walk_at "rd"
        refine r_ixT (SqT.of (k2 _ _ hb)) hi ?_
        obtain ⟨c, zs, rfl, hc2, hzs⟩ := prog_at (hd.mono k2)
        walk_at "rd"
        intro t3 ht3
        walk_at "rd"
        intro l3 hl3
        have hl3' := upd_free hl3
        walk_at "rd"
        refine r_ext (upd_new hl3 (upd_new ht3 k4)) upd_same ?_ ?_
        · have h1 := prog_len hzs
          have h2 := len_le_count st.inner
          have h3 := hu'.len
          rw [dataL_map, List.length_map] at h3
          have h4 := len_le_count r
          have h5 := congrArg List.length e
          rw [flatL_len, List.length_append, flatL_len, hcs, count_eq] at h5
          simp only [List.length_reverse]
          omega
        have tk2 : TK H2 (upd (upd (upd H2 t3 (.tup zs.reverse)) l3 (.lst zs.reverse)) l (.lst (us'.reverse ++ zs.reverse))) := ((TK.refl.new ht3).new hl3).mut (upd_new hl3 (upd_new ht3 k4)) nofun
        refine ⟨countL (st.inner ++ r), ?_, _, dn ++ [st], st.inner ++ r, ws ++ [.ref b], zs ++ us', rfl, rfl, ?_, ?_, ?_, ?_, ?_, ?_, ?_, ?_⟩
        · rw [countL_append, hcs, count_eq]
          omega
        · exact ((((Same.keep (M := []) k1).new ht3).new hl3).own hl2.1).same
        · exact upd_old hlo.symm (upd_new hl3 (upd_new ht3 k3))
        · rw [upd_same, List.reverse_append]
        · exact hws.mono (k2.trans tk2)
        · rw [dataL_append]
          exact (hzs.mono tk2).append (hu'.mono (tk1.trans (k2.trans tk2)))
        · rw [e, hfl, flatL_append, List.append_assoc]
          rfl
        · exact (okS.1.inner).append okS.2
        · exact (hDs.up List.mem_cons_self).append fun s hs => hDs s (List.mem_cons_of_mem _ hs)
      · rw [Bool.eq_false_iff.mpr hB]
        walk_at "rd"
        refine ⟨countL r, ?_, _, dn ++ [st], r, ws ++ [.ref b], us', rfl, rfl, k1, k3, k4, hws.mono k2, hu'.mono (tk1.trans k2), ?_, okS.2, fun s hs => hDs s (List.mem_cons_of_mem _ hs)⟩
        · rw [hcs, count_eq]
          omega
        · rw [e, hfl, noblock_inner (Bool.eq_false_iff.mpr hB), List.append_assoc]
          rfl
end
end A

namespace A
/-- what a program is drawn from: a box, names, slots, words, room -/
structure Src (H : Hp) (b r a1 a2 a3 : Addr) (ns ss ws : List Str) : Prop where
  h1 : H a1 = some (.lst (ns.map V.str))
  h2 : H a2 = some (.lst (ss.map V.str))
  h3 : H a3 = some (.lst (ws.map V.str))
  n1 : a1 ≠ b ∧ a1 ≠ r
  n2 : a2 ≠ b ∧ a2 ≠ r
  n3 : a3 ≠ b ∧ a3 ≠ r
  nb : b ≠ r
  o1 : (∀ z ∈ ns, NameS z) ∧ ns ≠ [] ∧ ns.length ≤ 100
  o2 : (∀ z ∈ ss, NameS z) ∧ ss ≠ [] ∧ ss.length ≤ 100
  o3 : (∀ z ∈ ws, z ∈ (["set", "look", "back", "begin", "late", "copy", "in", "pass"] : List Str)) ∧ ws ≠ [] ∧ ws.length ≤ 100
theorem Src.keep {H H' : Hp} {b r a1 a2 a3 : Addr} {ns ss ws : List Str} (s : Src H b r a1 a2 a3 ns ss ws) (k : Keep [b, r] H H') : Src H' b r a1 a2 a3 ns ss ws :=
  ⟨k _ _ (by simp [s.n1.1, s.n1.2]) s.h1, k _ _ (by simp [s.n2.1, s.n2.2]) s.h2, k _ _ (by simp [s.n3.1, s.n3.2]) s.h3, s.n1, s.n2, s.n3, s.nb, s.o1, s.o2, s.o3⟩
def cst (d : Nat) : Nat := 60 * 8 ^ d
theorem cst_pos (d : Nat) : 60 ≤ cst d := by
  have : 1 ≤ 8 ^ d := Nat.one_le_pow _ _ (by decide)
  unfold cst
  omega
theorem cst_succ (d : Nat) : 60 + 6 * cst d ≤ cst (d + 1) := by
  have h := cst_pos d
  have e : cst (d + 1) = 8 * cst d := by
    unfold cst
    rw [Nat.pow_succ]
    omega
  omega
theorem cst_mono {d e : Nat} (h : d ≤ e) : cst d ≤ cst e := Nat.mul_le_mul_left _ (Nat.pow_le_pow_right (by decide) h)
theorem ix_str {ns : List Str} {i : Int} (h0 : 0 ≤ i) (h1 : i < (ns.length : Nat)) : ∃ z ∈ ns, atI (ns.map V.str) i = some (.str z) := by
  have hi : i.toNat < ns.length := by omega
  refine ⟨ns[i.toNat], List.getElem_mem hi, at_g (j := i.toNat) (by omega) ?_⟩
  rw [List.getElem?_map, List.getElem?_eq_getElem hi]
  rfl
/-- all of it as it stands now -/
structure Now (H : Hp) (b r a1 a2 a3 : Addr) (ns ss ws : List Str) (n k : Int) : Prop where
  src : Src H b r a1 a2 a3 ns ss ws
  box : BoxAt H b n
  room : H r = some (.lst [.int k])
theorem Now.new {H : Hp} {b r a1 a2 a3 : Addr} {ns ss ws : List Str} {n k : Int} {p : Addr} {o : HO} (h : Now H b r a1 a2 a3 ns ss ws n k) (hp : H p = none) : Now (upd H p o) b r a1 a2 a3 ns ss ws n k :=
  ⟨h.src.keep (Keep.refl.new hp), h.box.new hp, upd_new hp h.room⟩
theorem Now.tk {H H' : Hp} {b r a1 a2 a3 : Addr} {ns ss ws : List Str} {n k : Int} (h : Now H b r a1 a2 a3 ns ss ws n k) (kp : Keep [b, r] H H') : TK H H' := TK.keep kp fun m hm xs e => by
  rcases List.mem_cons.mp hm with rfl | hm
  · obtain ⟨l, h1, _⟩ := h.box
    rw [h1] at e
    cases e
  · rw [List.mem_singleton.mp hm, h.room] at e
    cases e
theorem r_catT {K : PySem.W.Frag} {H : Hp} {Q : VK} {p c : Addr} {xs ys : List V} (h : SqT K H p xs) (h2 : SqT K H c ys) (hx : xs ≠ []) (hy : ys ≠ []) (z : xs.length + ys.length ≤ 100000) (q : ∀ a, H a = none → Q (.ref a) (upd H a (.tup (xs ++ ys)))) : rCatT K (.ref p) (.ref c) H Q :=
  ⟨p, c, xs, ys, rfl, rfl, h, h2, hx, Nat.le_trans z (by decide), fun e => absurd e hy, fun _ => q⟩
section
variable {K : PySem.W.Frag} {σ : L2.St} {H : Hp} {Q : VK} {b r a1 a2 a3 : Addr} {ns ss ws : List Str} {n k : Int} {i : Nat}
theorem r_pick {a : Addr} {xs : List Str} (h : Now H b r a1 a2 a3 ns ss ws n k) (hn : n < 1000000000000) (e0 : σ[0]? = some (some (.ref b))) (ei : σ[i]? = some (some (.ref a))) (ha : H a = some (.lst (xs.map V.str))) (hab : a ≠ b) (hne : xs ≠ []) (hle : xs.length ≤ 100)
    (q : ∀ z H', z ∈ xs → Keep [b, r] H H' → TK H H' → Now H' b r a1 a2 a3 ns ss ws (n + 1) k → Q (.str z) H') : tOp (rIxL K) (tVar i) (tCall (Sp2 cTake) [] E0 (tCons (tVar 0) (tCons (tCB (rLenQ K) (tCons (tVar i) tNil)) tNil))) σ H Q := by
  have hl : (xs.map V.str).length = xs.length := List.length_map _
  have h1 : 0 < xs.length := List.length_pos_iff.mpr hne
  refine r_op (r_var ei (r_call (r_cons (r_var e0 (r_cons (r_cb (r_cons (r_var ei (r_nil (r_lenL (SqL.of ha) (r_nil (r_sp2 (r_take h.box (by rw [hl]; omega) (by rw [hl]; omega) (by omega) ?_)))))))))))))
  intro c l hc0 hc1 hl'
  rw [hl] at hc1
  obtain ⟨z, hz, hat⟩ := ix_str hc0 hc1
  have kp : Keep [b, r] H (upd H b (.lst l)) := Keep.refl.mut (by simp)
  exact r_ixL (SqL.of (upd_old hab ha)) hat (q z _ hz kp (h.tk kp) ⟨h.src.keep kp, BoxAt.upd hl', upd_old h.src.nb.symm h.room⟩)
theorem r_pick1 (h : Now H b r a1 a2 a3 ns ss ws n k) (hn : n < 1000000000000) (e0 : σ[0]? = some (some (.ref b))) (ei : σ[i]? = some (some (.ref a1)))
    (q : ∀ z H', NameS z → Keep [b, r] H H' → TK H H' → Now H' b r a1 a2 a3 ns ss ws (n + 1) k → Q (.str z) H') : tOp (rIxL K) (tVar i) (tCall (Sp2 cTake) [] E0 (tCons (tVar 0) (tCons (tCB (rLenQ K) (tCons (tVar i) tNil)) tNil))) σ H Q :=
  r_pick h hn e0 ei h.src.h1 h.src.n1.1 h.src.o1.2.1 h.src.o1.2.2 fun z H' hz k1 k2 k3 => q z H' (h.src.o1.1 z hz) k1 k2 k3
theorem r_pick2 (h : Now H b r a1 a2 a3 ns ss ws n k) (hn : n < 1000000000000) (e0 : σ[0]? = some (some (.ref b))) (ei : σ[i]? = some (some (.ref a2)))
    (q : ∀ z H', NameS z → Keep [b, r] H H' → TK H H' → Now H' b r a1 a2 a3 ns ss ws (n + 1) k → Q (.str z) H') : tOp (rIxL K) (tVar i) (tCall (Sp2 cTake) [] E0 (tCons (tVar 0) (tCons (tCB (rLenQ K) (tCons (tVar i) tNil)) tNil))) σ H Q :=
  r_pick h hn e0 ei h.src.h2 h.src.n2.1 h.src.o2.2.1 h.src.o2.2.2 fun z H' hz k1 k2 k3 => q z H' (h.src.o2.1 z hz) k1 k2 k3
theorem r_valueS (h : Now H b r a1 a2 a3 ns ss ws n k) (hn : n < 1000000000000)
    (q : ∀ v H', ValOk v → Keep [b, r] H H' → TK H H' → Now H' b r a1 a2 a3 ns ss ws (n + 50) k → Q v H') : cValue (.ref b) H Q :=
  ⟨b, n, rfl, h.box, hn, fun v H' kp hb hv => by
    have k2 : Keep [b, r] H H' := kp.mono (by simp)
    exact q v H' hv k2 (h.tk k2) ⟨h.src.keep k2, hb, kp _ _ (by simp [h.src.nb.symm]) h.room⟩⟩
end
local macro_rules | `(tactic| walk_at "r1") => `(tactic| first
  | ((with_reducible refine' r_pick1 ?ha ?hb ?hc ?hd ?_); (case ha => assumption); (case hb => walk_at "si"); (case hc => rfl); (case hd => rfl))
  | ((with_reducible refine' r_pick2 ?ha ?hb ?hc ?hd ?_); (case ha => assumption); (case hb => walk_at "si"); (case hc => rfl); (case hd => rfl))
  | ((with_reducible refine' r_valueS ?ha ?hb ?_); (case ha => assumption); (case hb => walk_at "si")))
section
variable {P : Program} {w : World} {K : PySem.W.Frag} {mg : Str → Option Value} {base : Heap}
/-- a step; d blocks within one another at most -/
def cStep (d : Nat) : V → V → V → V → V → V → Hp → VK → Prop := fun x1 x2 x3 x4 x5 x6 H Q => ∃ (b r a1 a2 a3 : Addr) (ns ss ws : List Str) (n k : Int), x1 = .ref b ∧ x2 = .ref a1 ∧ x3 = .ref a2 ∧ x4 = .ref a3 ∧ x5 = .ref r ∧ x6 = .int (d : Int) ∧
  Src H b r a1 a2 a3 ns ss ws ∧ BoxAt H b n ∧ n + cst d < 1000000000000 ∧ H r = some (.lst [.int k]) ∧ 0 ≤ k ∧
  ∀ v s H' k', Keep [b, r] H H' → BoxAt H' b (n + cst d) → H' r = some (.lst [.int k']) → 0 ≤ k' → (s.count : Int) + k' ≤ 1 + k → DT H' v s.data → OkS s → Deep (d + 1) s.inner → Q v H'
/-- a program; e - 1 blocks within one another at most -/
def cProg (e : Nat) : V → V → V → V → V → V → V → Hp → VK → Prop := fun x1 x2 x3 x4 x5 x6 x7 H Q => ∃ (b r a1 a2 a3 : Addr) (ns ss ws : List Str) (n k : Int) (m : Nat), x1 = .ref b ∧ x2 = .ref a1 ∧ x3 = .ref a2 ∧ x4 = .ref a3 ∧ x5 = .ref r ∧ x6 = .int ((e : Int) - 1) ∧ x7 = .int (m : Int) ∧ 1 ≤ e ∧ m ≤ 150 ∧
  Src H b r a1 a2 a3 ns ss ws ∧ BoxAt H b n ∧ n + (m * cst (e - 1) : Nat) < 1000000000000 ∧ H r = some (.lst [.int k]) ∧ 0 ≤ k ∧
  ∀ v p H' k', Keep [b, r] H H' → BoxAt H' b (n + (m * cst (e - 1) : Nat)) → H' r = some (.lst [.int k']) → 0 ≤ k' → (countL p : Int) + k' ≤ k → DT H' v (progD p) → OkL p → Deep (e + 1) p → Q v H'
theorem ok_step {d : Nat} (S : Std K mg "_law_step" s_law_step) (Z : Blt mg) (c_law_take : Cal P w K mg base 1 "_law_take" ["_law_box_here", "_law_many"] (Sp2 cTake)) (c_law_value : Cal P w K mg base 2 "_law_value" ["_law_box_here"] (Sp1 cValue))
    (c_law_program : Cal P w K mg base (2 * d + 2) "_law_program" ["_law_box_here", "_law_names_here", "_law_slots", "_law_words", "_law_room", "_law_deep", "_law_many"] (Sp7 (cProg d))) :
    Cal P w K mg base (2 * d + 3) "_law_step" ["_law_box_here", "_law_names_here", "_law_slots", "_law_words", "_law_room", "_law_deep"] (Sp6 (cStep d)) := by
  refine cal_mk S sc_law_step (fun _ _ _ _ _ _ us hl => match us, hl with | [_, _, _, _, _, _], _ => rfl) (fun _ _ _ _ h => len6 h) (fun f cdv A outer s H vs Q E hr h => ?_)
  obtain ⟨_, _, _, _, _, _, rfl, b, r, a1, a2, a3, ns, ss, ws, n, k, rfl, rfl, rfl, rfl, rfl, rfl, hs, hb, hn, hr', hk, q⟩ := h
  have hr1 : Room 1 _ := hr.mono (by omega)
  have hr2 : Room 2 _ := hr.mono (by omega)
  refine ⟨_, (pss_cons (ps_set (i := 6) sc_law_step.nd rfl (.inl rfl) (pe_ix ix_list (pv 3) (pe_cal c_law_take hr1 rfl (pa_cons (pv 0) (pa_cons (pe_callB call_lenQ (by rfl) (Z "len" (by decide)) PySem.boot_len (pa_cons (pv 3) pa_nil)) pa_nil))) (fun _ _ => rfl)))
  (pss_cons (ps_if (PW.pt (pw_and (pt_cmpR op_in_seq (pv 6) (pe_tup (pa_cons pe_str (pa_cons pe_str (pa_cons pe_str pa_nil)))) (by rfl)) (pw_and1 (pt_cmpR op_eq (pv 5) pe_int (nomark _)))))
  (pss_one (ps_set (i := 6) sc_law_step.nd rfl (.inl rfl) pe_str))
  pss_nil)
  (pss_cons (ps_if (pt_cmpR op_eq (pv 6) pe_str (nomark _))
  (pss_cons (ps_set (i := 7) sc_law_step.nd rfl (.inl rfl) (pe_ix ix_list (pv 1) (pe_cal c_law_take hr1 rfl (pa_cons (pv 0) (pa_cons (pe_callB call_lenQ (by rfl) (Z "len" (by decide)) PySem.boot_len (pa_cons (pv 1) pa_nil)) pa_nil))) (fun _ _ => rfl)))
  (pss_cons (ps_set (i := 8) sc_law_step.nd rfl (.inl rfl) (pe_ifExp (pt_cmpR op_eq (pe_cal c_law_take hr1 rfl (pa_cons (pv 0) (pa_cons pe_int pa_nil))) pe_int (nomark _)) (pe_ix ix_list (pv 1) (pe_cal c_law_take hr1 rfl (pa_cons (pv 0) (pa_cons (pe_callB call_lenQ (by rfl) (Z "len" (by decide)) PySem.boot_len (pa_cons (pv 1) pa_nil)) pa_nil))) (fun _ _ => rfl)) (pe_cal c_law_value hr2 rfl (pa_cons (pv 0) pa_nil))))
  (pss_one (ps_ret (pe_tup (pa_cons pe_str (pa_cons (pv 7) (pa_cons (pv 8) (pa_cons (pe_ix ix_list (pv 2) (pe_cal c_law_take hr1 rfl (pa_cons (pv 0) (pa_cons (pe_callB call_lenQ (by rfl) (Z "len" (by decide)) PySem.boot_len (pa_cons (pv 2) pa_nil)) pa_nil))) (fun _ _ => rfl)) pa_nil)))))))))
  pss_nil)
  (pss_cons (ps_if (pt_cmpR op_eq (pv 6) pe_str (nomark _))
  (pss_one (ps_ret (pe_tup (pa_cons pe_str (pa_cons (pe_ix ix_list (pv 1) (pe_cal c_law_take hr1 rfl (pa_cons (pv 0) (pa_cons (pe_callB call_lenQ (by rfl) (Z "len" (by decide)) PySem.boot_len (pa_cons (pv 1) pa_nil)) pa_nil))) (fun _ _ => rfl)) pa_nil)))))
  pss_nil)
  (pss_cons (ps_if (pt_cmpR op_in_seq (pv 6) (pe_tup (pa_cons pe_str (pa_cons pe_str pa_nil))) (by rfl))
  (pss_one (ps_ret (pe_tup (pa_cons (pv 6) (pa_cons (pe_ix ix_list (pv 2) (pe_cal c_law_take hr1 rfl (pa_cons (pv 0) (pa_cons (pe_callB call_lenQ (by rfl) (Z "len" (by decide)) PySem.boot_len (pa_cons (pv 2) pa_nil)) pa_nil))) (fun _ _ => rfl)) pa_nil)))))
  pss_nil)
  (pss_cons (ps_if (pt_cmpR op_eq (pv 6) pe_str (nomark _))
  (pss_one (ps_ret (pe_tup (pa_cons pe_str pa_nil))))
  pss_nil)
  (pss_cons (ps_set (i := 9) sc_law_step.nd rfl (.inl rfl) (pe_ifExp (pt_cmpR op_eq (pv 6) pe_str (nomark _)) (pe_tup (pa_cons (pv 6) (pa_cons (pe_ix ix_list (pv 2) (pe_cal c_law_take hr1 rfl (pa_cons (pv 0) (pa_cons (pe_callB call_lenQ (by rfl) (Z "len" (by decide)) PySem.boot_len (pa_cons (pv 2) pa_nil)) pa_nil))) (fun _ _ => rfl)) pa_nil))) (pe_tup (pa_cons (pv 6) pa_nil))))
  (pss_cons (ps_set (i := 10) sc_law_step.nd rfl (.inl rfl) (pe_cal c_law_program (hr.mono (by omega)) rfl (pa_cons (pv 0) (pa_cons (pv 1) (pa_cons (pv 2) (pa_cons (pv 3) (pa_cons (pv 4) (pa_cons (pe_op op_sub (pv 5) pe_int) (pa_cons (pe_cal c_law_take hr1 rfl (pa_cons (pv 0) (pa_cons pe_int pa_nil))) pa_nil)))))))))
  (pss_one (ps_ret (pe_op op_catT (pv 9) (pe_tup (pa_cons (pv 10) pa_nil))))))))))))), ?_⟩
  have hc0 := cst_pos d
  have hnn : (ws.map V.str).length = ws.length := List.length_map _
  have hw1 : 0 < ws.length := List.length_pos_iff.mpr hs.o3.2.1
  have hw2 := hs.o3.2.2
  have h3 := hs.h3
  have h0 : Now H b r a1 a2 a3 ns ss ws n k := ⟨hs, hb, hr'⟩
  clear hs hb hr'
  (try dsimp only [cxOf, Cx.nox, Cx.wish])
  refine r_seq (r_asg (r_pick h0 (by omega) rfl rfl h0.src.h3 h0.src.n3.1 h0.src.o3.2.1 h0.src.o3.2.2 fun wd H1 hwd k1 t1 n1 => r_name ?_))
  have hwd' := n1.src.o3.1 wd hwd
  clear hwd
  have fin1 : ∀ (p : Addr) (H2 : Hp) (st : Stp) (xs : List V) (n' : Int), Keep [b, r] H1 H2 → Now H2 b r a1 a2 a3 ns ss ws n' k → n' ≤ n + cst d → H2 p = none → st.inner = [] → OkS st → DT (upd H2 p (.tup xs)) (.ref p) st.data → Q (.ref p) (upd H2 p (.tup xs)) :=
    fun p H2 st xs n' k2 n2 hn' hp hi ok hd => by
      refine q _ st _ k ((k1.trans k2).new hp) ((n2.new hp).box.mono hn') (n2.new hp).room hk ?_ hd ok ?_
      · rw [count_eq, hi]
        show ((countL ([] : List Stp) + 1 : Nat) : Int) + k ≤ 1 + k
        rw [show countL ([] : List Stp) = 0 from rfl]
        omega
      · rw [hi]
        exact Deep.nil d
  simp only [List.mem_cons, List.not_mem_nil, or_false] at hwd'
  rcases hwd' with rfl | rfl | rfl | rfl | rfl | rfl | rfl | rfl
  · -- set
    walk_at "rd"
    intro t ht
    have n2 := n1.new ht (o := .tup [.str "begin", .str "late", .str "in"])
    walk_at "rd"
    intro z H3 hz k3 t3 n3
    walk_at "rd"
    refine r_take n3.box (by omega) (by omega) (by omega) ?_
    intro m l hm0 hm1 hl
    have k4 : Keep [b, r] H3 (upd H3 b (.lst l)) := Keep.refl.mut (by simp)
    have t4 := n3.tk k4
    have n4 : Now (upd H3 b (.lst l)) b r a1 a2 a3 ns ss ws _ k := ⟨n3.src.keep k4, BoxAt.upd hl, upd_old n3.src.nb.symm n3.room⟩
    generalize upd H3 b (.lst l) = H4 at k4 t4 n4 ⊢
    walk_at "rd"
    refine r_iteP (fun _ => ?_) (fun _ => ?_)
    · walk_at "rd"
      intro v H5 hv k5 t5 n5
      walk_at "rd"
      intro z2 H6 hz2 k6 t6 n6
      walk_at "rd"
      intro p hp
      refine fin1 p H6 (.set z (.str v) z2) _ _ ((((Keep.refl.new ht).trans k3).trans k4).trans (k5.trans k6)) n6 (by omega) hp rfl ⟨hz, hv.val, hz2⟩ (.tup upd_same (.cons (.str _) (.cons (.str _) (.cons (.str _) (.cons (.str _) .nil)))))
    · walk_at "rd"
      intro v H5 hv k5 t5 n5
      walk_at "rd"
      intro z2 H6 hz2 k6 t6 n6
      walk_at "rd"
      intro p hp
      refine fin1 p H6 (.set z v z2) _ _ ((((Keep.refl.new ht).trans k3).trans k4).trans (k5.trans k6)) n6 (by omega) hp rfl ⟨hz, hv, hz2⟩ (.tup upd_same (.cons (.str _) (.cons (.str _) (.cons hv.dt (.cons (.str _) .nil)))))
  · -- look
    walk_at "rd"
    intro t ht
    have n2 := n1.new ht (o := .tup [.str "begin", .str "late", .str "in"])
    walk_at "rd"
    intro z H3 hz k3 t3 n3
    walk_at "rd"
    intro p hp
    exact fin1 p H3 (.look z) _ _ ((Keep.refl.new ht).trans k3) n3 (by omega) hp rfl hz (.tup upd_same (.cons (.str _) (.cons (.str _) .nil)))
  · -- back
    walk_at "rd"
    intro t ht
    have n2 := n1.new ht (o := .tup [.str "begin", .str "late", .str "in"])
    walk_at "rd"
    intro t2 ht2
    have n22 := n2.new ht2 (o := .tup [.str "back", .str "copy"])
    walk_at "rd"
    intro z H3 hz k3 t3 n3
    walk_at "rd"
    intro p hp
    exact fin1 p H3 (.back z) _ _ (((Keep.refl.new ht).new ht2).trans k3) n3 (by omega) hp rfl hz (.tup upd_same (.cons (.str _) (.cons (.str _) .nil)))
  · -- begin
    walk_at "rd"
    intro t ht
    have n2 := n1.new ht (o := .tup [.str "begin", .str "late", .str "in"])
    walk_at "rd"
    refine r_ite (fun e0 => ?_) (fun e0 => ?_)
    · -- no more room below: a look
      walk_at "rd"
      intro z H3 hz k3 t3 n3
      walk_at "rd"
      intro p hp
      exact fin1 p H3 (.look z) _ _ ((Keep.refl.new ht).trans k3) n3 (by omega) hp rfl hz (.tup upd_same (.cons (.str _) (.cons (.str _) .nil)))
    have hd1 : 1 ≤ d := by omega
    have hcd : 60 + 6 * cst (d - 1) ≤ cst d := by
      have := cst_succ (d - 1)
      rwa [Nat.sub_add_cancel hd1] at this
    walk_at "rd"
    intro t2 ht2
    have n22 := n2.new ht2 (o := .tup [.str "back", .str "copy"])
    walk_at "rd"
    intro hd hhd
    have n3 := n22.new hhd (o := .tup [.str "begin"])
    have k3 : Keep [b, r] H1 (upd (upd (upd H1 t (.tup [.str "begin", .str "late", .str "in"])) t2 (.tup [.str "back", .str "copy"])) hd (.tup [.str "begin"])) := ((Keep.refl.new ht).new ht2).new hhd
    have hh3 : upd (upd (upd H1 t (.tup [.str "begin", .str "late", .str "in"])) t2 (.tup [.str "back", .str "copy"])) hd (.tup [.str "begin"]) hd = some (.tup [.str "begin"]) := upd_same
    generalize upd (upd (upd H1 t (.tup [.str "begin", .str "late", .str "in"])) t2 (.tup [.str "back", .str "copy"])) hd (.tup [.str "begin"]) = H3 at n3 k3 hh3 ⊢
    walk_at "rd"
    refine r_take n3.box (by omega) (by omega) (by omega) ?_
    intro m l hm0 hm1 hl
    have k4 : Keep [b, r] H3 (upd H3 b (.lst l)) := Keep.refl.mut (by simp)
    have t4 := n3.tk k4
    have n4 : Now (upd H3 b (.lst l)) b r a1 a2 a3 ns ss ws _ k := ⟨n3.src.keep k4, BoxAt.upd hl, upd_old n3.src.nb.symm n3.room⟩
    have hh4 := t4 _ _ hh3
    generalize upd H3 b (.lst l) = H4 at k4 t4 n4 hh4 ⊢
    walk_at "rd"
    have hm2 : m.toNat * cst (d - 1) ≤ 6 * cst (d - 1) := Nat.mul_le_mul_right _ (by omega)
    refine ⟨b, r, a1, a2, a3, ns, ss, ws, _, k, m.toNat, rfl, rfl, rfl, rfl, rfl, rfl, by rw [Int.toNat_of_nonneg hm0], hd1, by omega, n4.src, n4.box, by omega, n4.room, hk, fun v p H5 k' k5 hb5 hr5 hk0 hcp hdp hok hdeep => ?_⟩
    have t5 : TK H4 H5 := n4.tk k5
    have n5 : Now H5 b r a1 a2 a3 ns ss ws _ k' := ⟨n4.src.keep k5, hb5, hr5⟩
    walk_at "rd"
    intro p1 hp1
    walk_at "rd"
    refine r_catT (SqT.of (upd_new hp1 (t5 _ _ hh4))) (SqT.of upd_same) (by simp) (by simp) (by simp) ?_
    intro p2 hp2
    have n6 := (n5.new hp1 (o := .tup [v])).new hp2 (o := .tup ([.str "begin"] ++ [v]))
    refine q _ (.begin p) _ k' (((((k1.trans k3).trans k4).trans k5).new hp1).new hp2) (n6.box.mono (by omega)) n6.room hk0 ?_ (.tup upd_same (.cons (.str _) (.cons (hdp.mono (.new (.new .refl hp1) hp2)) .nil))) hok hdeep
    rw [count_eq]
    show ((countL p + 1 : Nat) : Int) + k' ≤ 1 + k
    omega
  · -- late
    walk_at "rd"
    intro t ht
    have n2 := n1.new ht (o := .tup [.str "begin", .str "late", .str "in"])
    walk_at "rd"
    refine r_ite (fun e0 => ?_) (fun e0 => ?_)
    · -- no more room below: a look
      walk_at "rd"
      intro z H3 hz k3 t3 n3
      walk_at "rd"
      intro p hp
      exact fin1 p H3 (.look z) _ _ ((Keep.refl.new ht).trans k3) n3 (by omega) hp rfl hz (.tup upd_same (.cons (.str _) (.cons (.str _) .nil)))
    have hd1 : 1 ≤ d := by omega
    have hcd : 60 + 6 * cst (d - 1) ≤ cst d := by
      have := cst_succ (d - 1)
      rwa [Nat.sub_add_cancel hd1] at this
    walk_at "rd"
    intro t2 ht2
    have n22 := n2.new ht2 (o := .tup [.str "back", .str "copy"])
    walk_at "rd"
    intro hd hhd
    have n3 := n22.new hhd (o := .tup [.str "late"])
    have k3 : Keep [b, r] H1 (upd (upd (upd H1 t (.tup [.str "begin", .str "late", .str "in"])) t2 (.tup [.str "back", .str "copy"])) hd (.tup [.str "late"])) := ((Keep.refl.new ht).new ht2).new hhd
    have hh3 : upd (upd (upd H1 t (.tup [.str "begin", .str "late", .str "in"])) t2 (.tup [.str "back", .str "copy"])) hd (.tup [.str "late"]) hd = some (.tup [.str "late"]) := upd_same
    generalize upd (upd (upd H1 t (.tup [.str "begin", .str "late", .str "in"])) t2 (.tup [.str "back", .str "copy"])) hd (.tup [.str "late"]) = H3 at n3 k3 hh3 ⊢
    walk_at "rd"
    refine r_take n3.box (by omega) (by omega) (by omega) ?_
    intro m l hm0 hm1 hl
    have k4 : Keep [b, r] H3 (upd H3 b (.lst l)) := Keep.refl.mut (by simp)
    have t4 := n3.tk k4
    have n4 : Now (upd H3 b (.lst l)) b r a1 a2 a3 ns ss ws _ k := ⟨n3.src.keep k4, BoxAt.upd hl, upd_old n3.src.nb.symm n3.room⟩
    have hh4 := t4 _ _ hh3
    generalize upd H3 b (.lst l) = H4 at k4 t4 n4 hh4 ⊢
    walk_at "rd"
    have hm2 : m.toNat * cst (d - 1) ≤ 6 * cst (d - 1) := Nat.mul_le_mul_right _ (by omega)
    refine ⟨b, r, a1, a2, a3, ns, ss, ws, _, k, m.toNat, rfl, rfl, rfl, rfl, rfl, rfl, by rw [Int.toNat_of_nonneg hm0], hd1, by omega, n4.src, n4.box, by omega, n4.room, hk, fun v p H5 k' k5 hb5 hr5 hk0 hcp hdp hok hdeep => ?_⟩
    have t5 : TK H4 H5 := n4.tk k5
    have n5 : Now H5 b r a1 a2 a3 ns ss ws _ k' := ⟨n4.src.keep k5, hb5, hr5⟩
    walk_at "rd"
    intro p1 hp1
    walk_at "rd"
    refine r_catT (SqT.of (upd_new hp1 (t5 _ _ hh4))) (SqT.of upd_same) (by simp) (by simp) (by simp) ?_
    intro p2 hp2
    have n6 := (n5.new hp1 (o := .tup [v])).new hp2 (o := .tup ([.str "late"] ++ [v]))
    refine q _ (.late p) _ k' (((((k1.trans k3).trans k4).trans k5).new hp1).new hp2) (n6.box.mono (by omega)) n6.room hk0 ?_ (.tup upd_same (.cons (.str _) (.cons (hdp.mono (.new (.new .refl hp1) hp2)) .nil))) hok hdeep
    rw [count_eq]
    show ((countL p + 1 : Nat) : Int) + k' ≤ 1 + k
    omega
  · -- copy
    walk_at "rd"
    intro t ht
    have n2 := n1.new ht (o := .tup [.str "begin", .str "late", .str "in"])
    walk_at "rd"
    intro t2 ht2
    have n22 := n2.new ht2 (o := .tup [.str "back", .str "copy"])
    walk_at "rd"
    intro z H3 hz k3 t3 n3
    walk_at "rd"
    intro p hp
    exact fin1 p H3 (.copy z) _ _ (((Keep.refl.new ht).new ht2).trans k3) n3 (by omega) hp rfl hz (.tup upd_same (.cons (.str _) (.cons (.str _) .nil)))
  · -- in
    walk_at "rd"
    intro t ht
    have n2 := n1.new ht (o := .tup [.str "begin", .str "late", .str "in"])
    walk_at "rd"
    refine r_ite (fun e0 => ?_) (fun e0 => ?_)
    · -- no more room below: a look
      walk_at "rd"
      intro z H3 hz k3 t3 n3
      walk_at "rd"
      intro p hp
      exact fin1 p H3 (.look z) _ _ ((Keep.refl.new ht).trans k3) n3 (by omega) hp rfl hz (.tup upd_same (.cons (.str _) (.cons (.str _) .nil)))
    have hd1 : 1 ≤ d := by omega
    have hcd : 60 + 6 * cst (d - 1) ≤ cst d := by
      have := cst_succ (d - 1)
      rwa [Nat.sub_add_cancel hd1] at this
    walk_at "rd"
    intro t2 ht2
    have n22 := n2.new ht2 (o := .tup [.str "back", .str "copy"])
    walk_at "rd"
    intro z H25 hz k25 t25 n25
    walk_at "rd"
    intro hd hhd
    have n3 := n25.new hhd (o := .tup [.str "in", .str z])
    have k3 : Keep [b, r] H1 (upd H25 hd (.tup [.str "in", .str z])) := (((Keep.refl.new ht).new ht2).trans k25).new hhd
    have hh3 : upd H25 hd (.tup [.str "in", .str z]) hd = some (.tup [.str "in", .str z]) := upd_same
    generalize upd H25 hd (.tup [.str "in", .str z]) = H3 at n3 k3 hh3 ⊢
    walk_at "rd"
    refine r_take n3.box (by omega) (by omega) (by omega) ?_
    intro m l hm0 hm1 hl
    have k4 : Keep [b, r] H3 (upd H3 b (.lst l)) := Keep.refl.mut (by simp)
    have t4 := n3.tk k4
    have n4 : Now (upd H3 b (.lst l)) b r a1 a2 a3 ns ss ws _ k := ⟨n3.src.keep k4, BoxAt.upd hl, upd_old n3.src.nb.symm n3.room⟩
    have hh4 := t4 _ _ hh3
    generalize upd H3 b (.lst l) = H4 at k4 t4 n4 hh4 ⊢
    walk_at "rd"
    have hm2 : m.toNat * cst (d - 1) ≤ 6 * cst (d - 1) := Nat.mul_le_mul_right _ (by omega)
    refine ⟨b, r, a1, a2, a3, ns, ss, ws, _, k, m.toNat, rfl, rfl, rfl, rfl, rfl, rfl, by rw [Int.toNat_of_nonneg hm0], hd1, by omega, n4.src, n4.box, by omega, n4.room, hk, fun v p H5 k' k5 hb5 hr5 hk0 hcp hdp hok hdeep => ?_⟩
    have t5 : TK H4 H5 := n4.tk k5
    have n5 : Now H5 b r a1 a2 a3 ns ss ws _ k' := ⟨n4.src.keep k5, hb5, hr5⟩
    walk_at "rd"
    intro p1 hp1
    walk_at "rd"
    refine r_catT (SqT.of (upd_new hp1 (t5 _ _ hh4))) (SqT.of upd_same) (by simp) (by simp) (by simp) ?_
    intro p2 hp2
    have n6 := (n5.new hp1 (o := .tup [v])).new hp2 (o := .tup ([.str "in", .str z] ++ [v]))
    refine q _ (.inn z p) _ k' (((((k1.trans k3).trans k4).trans k5).new hp1).new hp2) (n6.box.mono (by omega)) n6.room hk0 ?_ (.tup upd_same (.cons (.str _) (.cons (.str _) (.cons (hdp.mono (.new (.new .refl hp1) hp2)) .nil)))) ⟨hz, hok⟩ hdeep
    rw [count_eq]
    show ((countL p + 1 : Nat) : Int) + k' ≤ 1 + k
    omega
  · -- pass
    walk_at "rd"
    intro t ht
    have n2 := n1.new ht (o := .tup [.str "begin", .str "late", .str "in"])
    walk_at "rd"
    intro t2 ht2
    have n22 := n2.new ht2 (o := .tup [.str "back", .str "copy"])
    walk_at "rd"
    intro p hp
    exact fin1 p _ .pass _ _ ((Keep.refl.new ht).new ht2) n22 (by omega) hp rfl trivial (.tup upd_same (.cons (.str _) .nil))
theorem ok_program {d : Nat} (S : Std K mg "_law_program" s_law_program) (Z : Blt mg)
    (c_law_step : Cal P w K mg base (2 * d + 3) "_law_step" ["_law_box_here", "_law_names_here", "_law_slots", "_law_words", "_law_room", "_law_deep"] (Sp6 (cStep d))) :
    Cal P w K mg base (2 * d + 4) "_law_program" ["_law_box_here", "_law_names_here", "_law_slots", "_law_words", "_law_room", "_law_deep", "_law_many"] (Sp7 (cProg (d + 1))) := by
  refine cal_mk S sc_law_program (fun _ _ _ _ _ _ us hl => match us, hl with | [_, _, _, _, _, _, _], _ => rfl) (fun _ _ _ _ h => len7 h) (fun f cdv A outer s H vs Q E hr h => ?_)
  obtain ⟨_, _, _, _, _, _, _, rfl, b, r, a1, a2, a3, ns, ss, ws, n, k, m, rfl, rfl, rfl, rfl, rfl, rfl, rfl, _, hm, hs, hb, hn, hr', hk, q⟩ := h
  have h0 : Now H b r a1 a2 a3 ns ss ws n k := ⟨hs, hb, hr'⟩
  clear hs hb hr'
  have ed : (((d + 1 : Nat) : Int) - 1) = (d : Int) := by omega
  rw [ed] at *
  rw [Nat.add_sub_cancel] at hn q
  refine ⟨_, (pss_cons (ps_set (i := 7) sc_law_program.nd rfl (.inl rfl) (pe_lst pa_nil))
  (pss_cons (ps_for PassesOwn.never rfl (pi_range1 rfl (Z "range" (by decide)) (pa_cons (pv 6) pa_nil)) (pg_name (i := 8) sc_law_program.nd rfl (.inl rfl))
  (pss_one (ps_if (pt_cmpR op_gt (pe_ix ix_list (pv 4) pe_int (fun _ _ => rfl)) pe_int (nomark _))
  (pss_cons (ps_asg (pe_op op_sub (pe_ix ix_list (pv 4) pe_int (fun _ _ => rfl)) pe_int) (pg_sub (pv 4) pe_int set_list))
  (pss_one (ps_expr (pe_bm PySem.F.plainAttrs_list PySem.F.slot_list_append PySem.F.type_list_append mt_append (pv 7) (pa_cons (pe_cal c_law_step (hr.mono (by omega)) rfl (pa_cons (pv 0) (pa_cons (pv 1) (pa_cons (pv 2) (pa_cons (pv 3) (pa_cons (pv 4) (pa_cons (pv 5) pa_nil))))))) pa_nil)))))
  pss_nil)))
  (pss_one (ps_ret (pe_callTy call_tupleQ (by rfl) (Z "tuple" (by decide)) (by decide +kernel) (pa_cons (pv 7) pa_nil)))))), ?_⟩
  walk_at "go"
  intro o ho
  walk_at "rd"
  have hob : o ≠ b := h0.box.nn ho
  have hor : o ≠ r := (ne_of_none h0.room ho).symm
  have hmi : ((m : Int)).toNat = m := by omega
  have hmc : ∀ i, i ≤ m → i * cst d ≤ m * cst d := fun i hi => Nat.mul_le_mul_right _ hi
  refine forR (fun i σ H' => ∃ (p : List Stp) (vs : List V) (k' : Int) (y : Option V), σ = [some (.ref b), some (.ref a1), some (.ref a2), some (.ref a3), some (.ref r), some (.int (d : Int)), some (.int (m : Int)), some (.ref o), y] ∧
    Now H' b r a1 a2 a3 ns ss ws (n + (i * cst d : Nat)) k' ∧ Keep [b, r] H H' ∧ H' o = some (.lst vs) ∧ DTs H' vs (dataL p) ∧ OkL p ∧ Deep (d + 2) p ∧ (countL p : Int) + k' ≤ k ∧ 0 ≤ k' ∧ p.length ≤ i) ?_ ?_ ?_
  · refine ⟨[], [], k, none, rfl, ?_, Keep.refl.new ho, upd_same, .nil, trivial, Deep.nil _, ?_, hk, Nat.le_refl _⟩
    · have := h0.new ho (o := .lst [])
      rwa [Nat.zero_mul, show n + ((0 : Nat) : Int) = n by omega]
    · show ((0 : Nat) : Int) + k ≤ k
      omega
  · rintro i σ Hi hi ⟨p, vs, k', y, rfl, n1, kp, hoi, hvs, ok, dp, hc, hk0, hl⟩
    rw [hmi] at hi
    have hci := hmc (i + 1) hi
    have hce : (i + 1) * cst d = i * cst d + cst d := Nat.succ_mul _ _
    have hroom := n1.room
    walk_at "rd"
    refine r_ite (fun e => ?_) (fun e => ?_)
    · walk_at "rd"
      have k2 : Keep [b, r] Hi (upd Hi r (.lst [.int (k' - 1)])) := Keep.refl.mut (by simp)
      have t2 := n1.tk k2
      have n2 : Now (upd Hi r (.lst [.int (k' - 1)])) b r a1 a2 a3 ns ss ws (n + (i * cst d : Nat)) (k' - 1) := ⟨n1.src.keep k2, n1.box.ne n1.src.nb.symm, upd_same⟩
      have ho2 : upd Hi r (.lst [.int (k' - 1)]) o = some (.lst vs) := upd_old hor hoi
      have er : ([V.int k'].set (Int.toNat 0) (V.int (k' - 1))) = [.int (k' - 1)] := rfl
      rw [er]
      generalize upd Hi r (.lst [.int (k' - 1)]) = H2 at k2 t2 n2 ho2 ⊢
      walk_at "rd"
      refine ⟨b, r, a1, a2, a3, ns, ss, ws, _, k' - 1, rfl, rfl, rfl, rfl, rfl, rfl, n2.src, n2.box, by omega, n2.room, by omega, fun v st H3 k3' k3 hb3 hr3 hk3 hc3 hd3 ok3 dp3 => ?_⟩
      have t3 : TK H2 H3 := n2.tk k3
      have n3 : Now H3 b r a1 a2 a3 ns ss ws (n + ((i + 1) * cst d : Nat)) k3' := ⟨n2.src.keep k3, hb3.mono (by omega), hr3⟩
      have ho3 : H3 o = some (.lst vs) := k3 _ _ (by simp [hob, hor]) ho2
      have hvl : vs.length < 100000 := by
        have := hvs.len
        rw [dataL_map, List.length_map] at this
        omega
      walk_at "rd"
      refine r_app ho3 hvl ⟨p ++ [st], vs ++ [v], k3', _, rfl, ?_, ?_, upd_same, ?_, ?_, ?_, ?_, hk3, ?_⟩
      · exact ⟨⟨upd_old (ne_of_none (h0.src.h1) ho) n3.src.h1, upd_old (ne_of_none (h0.src.h2) ho) n3.src.h2, upd_old (ne_of_none (h0.src.h3) ho) n3.src.h3, n3.src.n1, n3.src.n2, n3.src.n3, n3.src.nb, n3.src.o1, n3.src.o2, n3.src.o3⟩, n3.box.ne hob, upd_old hor.symm n3.room⟩
      · exact ((kp.trans k2).trans k3).own ho
      · rw [dataL_append]
        have t4 : TK H3 (upd H3 o (.lst (vs ++ [v]))) := TK.refl.mut ho3 nofun
        exact (hvs.mono (t2.trans (t3.trans t4))).append (.cons (hd3.mono t4) .nil)
      · exact ok.append ⟨ok3, trivial⟩
      · exact dp.append fun s hs => by
          rw [List.mem_singleton.mp hs]
          exact dp3
      · rw [countL_append]
        show ((countL p + (st.count + 0) : Nat) : Int) + k3' ≤ k
        omega
      · rw [List.length_append, List.length_singleton]
        omega
    · walk_at "rd"
      exact ⟨p, vs, k', _, rfl, ⟨n1.src, n1.box.mono (by omega), n1.room⟩, kp, hoi, hvs, ok, dp, hc, hk0, by omega⟩
  · rintro σ Hi ⟨p, vs, k', y, rfl, n1, kp, hoi, hvs, ok, dp, hc, hk0, hl⟩
    rw [hmi] at n1
    walk_at "rd"
    intro l hl
    have n2 := n1.new hl (o := .tup vs)
    exact q _ p _ k' (kp.new hl) n2.box n2.room hk0 hc (.tup upd_same (hvs.mono (TK.refl.new hl))) ok dp
/-- both, by induction -/
theorem ok_programs (S1 : Std K mg "_law_step" s_law_step) (S2 : Std K mg "_law_program" s_law_program) (Z : Blt mg) (c_law_take : Cal P w K mg base 1 "_law_take" ["_law_box_here", "_law_many"] (Sp2 cTake)) (c_law_value : Cal P w K mg base 2 "_law_value" ["_law_box_here"] (Sp1 cValue)) :
    ∀ e, Cal P w K mg base (2 * e + 2) "_law_program" ["_law_box_here", "_law_names_here", "_law_slots", "_law_words", "_law_room", "_law_deep", "_law_many"] (Sp7 (cProg e))
  | 0 => cal_never S2 (fun _ _ _ _ _ _ us hl => match us, hl with | [_, _, _, _, _, _, _], _ => rfl) fun vs H Q E h => by
    obtain ⟨_, _, _, _, _, _, _, rfl, b, r, a1, a2, a3, ns, ss, ws, n, k, m, _, _, _, _, _, _, _, h1, _⟩ := h
    omega
  | e + 1 => ok_program S2 Z (ok_step S1 Z c_law_take c_law_value (ok_programs S1 S2 Z c_law_take c_law_value e))
end
end A

namespace A
local macro_rules | `(tactic| walk_at "r1") => `(tactic| first
  | (with_reducible refine' r_chain ?_)
  | (with_reducible refine' r_leZ ?_)
  | ((with_reducible refine' r_ixT0 ?ha ?_); (case ha => walk_at "sq"))
  | (with_reducible refine' r_iStr ?_)
  | (with_reducible refine' r_iStrE ?_)
  | ((with_reducible refine' r_ninK ?ha ?_); (case ha => assumption)))

/-! ### what the program takes for a name, a value, a program: on data -/
def lettersS : Str := "abcdefghijklmnopqrstuvwxyz"
def nameOk (z : Str) : Bool := decide (1 ≤ z.length) && (decide (z.length ≤ 8) && z.cps.toList.all fun c => decide (c ∈ lettersS.cps.toList))
def signOk (c : Nat) : Bool := !decide ([c] < [32]) && !decide ([126] < [c])
def isNameD : PyData → Bool
  | .str z => nameOk z
  | _ => false
def isNumD : PyData → Bool
  | .int _ => true
  | _ => false
def isValD : PyData → Bool
  | .str z => z.cps.toList.all signOk
  | .int _ => true
  | _ => false
def sortsL : List (Str × List Str) := [("set", ["name", "value", "name"]), ("look", ["name"]), ("back", ["name"]), ("begin", ["program"]), ("late", ["program"]), ("copy", ["name"]), ("in", ["name", "program"]), ("pass", [])]
def sortsOf (z : Str) : Option (List Str) := (sortsL.find? fun s => s.1 == z).map (·.2)
mutual
def isProgD : PyData → Bool
  | .tuple ds => allStepD ds
  | _ => false
def isStepD : PyData → Bool
  | .tuple (.str z :: ds) => match sortsOf z with
    | none => false
    | some ss => decide (ds.length = ss.length) && fitsD ss ds
  | _ => false
def allStepD : List PyData → Bool
  | [] => true
  | d :: ds => isStepD d && allStepD ds
def fitsD : List Str → List PyData → Bool
  | s :: ss, d :: ds => (if s = ("name" : Str) then isNameD d else if s = ("value" : Str) then isValD d else isProgD d) && fitsD ss ds
  | _, _ => true
end
def fit1 (s : Str) (d : PyData) : Bool := if s = ("name" : Str) then isNameD d else if s = ("value" : Str) then isValD d else isProgD d
/-- data of bounded depth, width and texts -/
def Wd : Nat → PyData → Prop
  | 0, _ => False
  | n + 1, .list ds => ds.length ≤ 1000 ∧ ∀ d ∈ ds, Wd n d
  | n + 1, .tuple ds => ds.length ≤ 1000 ∧ ∀ d ∈ ds, Wd n d
  | _ + 1, .dict _ => False
  | _ + 1, .none => True
  | _ + 1, .bool _ => True
  | _ + 1, .int _ => True
  | _ + 1, .str z => z.cps.size ≤ 1000
def kindD : PyData → String
  | .none => "NoneType"
  | .bool _ => "bool"
  | .int _ => "int"
  | .str _ => "str"
  | .list _ => "list"
  | .tuple _ => "tuple"
  | .dict _ => "dict"
theorem Dp.kd {K : PySem.W.Frag} {H : Hp} {v : V} {d : PyData} {n : Nat} (h : Dp K H v d) (hw : Wd n d) : Kd K H v (kindD d) := by
  cases h with
  | non => exact .non
  | bl b => exact .bl b
  | int i => exact .int i
  | str z => exact .str z
  | lst h _ => exact .lst h
  | tup h _ => exact .tup h
inductive STab (K : PySem.W.Frag) : List (Str × List Str) → List (Str × V) → Prop where
  | nil : STab K [] []
  | cons {z : Str} {ss : List Str} {a : Addr} {r : List (Str × List Str)} {ks : List (Str × V)} : (∀ H, SqT K H a (ss.map V.str)) → STab K r ks → STab K ((z, ss) :: r) ((z, .ref a) :: ks)
theorem STab.find {K : PySem.W.Frag} : ∀ {ss : List (Str × List Str)} {ks : List (Str × V)}, STab K ss ks → ∀ z : Str,
    match ss.find? (fun s => s.1 == z) with
    | some s => ∃ k a, ks.find? (fun k => k.1 == z) = some (k, .ref a) ∧ ∀ H, SqT K H a (s.2.map V.str)
    | none => ks.find? (fun k => k.1 == z) = none
  | _, _, .nil, z => rfl
  | (w, ss) :: r, (_, .ref a) :: ks, .cons h1 h2, z => by
    have ih := h2.find z
    rw [List.find?_cons, List.find?_cons]
    cases hc : (w == z) with
    | true => exact ⟨_, _, rfl, h1⟩
    | false => exact ih
structure Glb (K : PySem.W.Frag) (w : World) (mg : Str → Option Value) (p : Addr) (ks : List (Str × V)) : Prop where
  letters : ∃ u, mg "LETTERS" = some u ∧ RelV (.str lettersS) u
  most : ∃ u, mg "MOST_LETTERS" = some u ∧ RelV (.int 8) u
  sorts : ∃ u, mg "SORTS" = some u ∧ RelV (.ref p) u
  dct : Dct K w p ks
  tab : STab K sortsL ks
theorem all_id (bs : List Bool) : bs.all id = bs.all id := rfl
section
variable {P : Program} {w : World} {K : PySem.W.Frag} {mg : Str → Option Value} {base : Heap} {p : Addr} {ks : List (Str × V)}
/-- a look at data -/
def cLook (K : PySem.W.Frag) (f : PyData → Bool) (n : Nat) : V → Hp → VK → Prop := fun v H Q => ∃ d, Dp K H v d ∧ Wd n d ∧ ∀ H', Same H H' → Q (.bl (f d)) H'
theorem Wd.pos {n : Nat} {d : PyData} (h : Wd n d) : ∃ m, n = m + 1 := by
  cases n with
  | zero => exact h.elim
  | succ m => exact ⟨m, rfl⟩
theorem ok_is_name (S : Std K mg "is_name" s_is_name) (Z : Blt mg) (G : Glb K w mg p ks) (n : Nat) : Cal P w K mg base 1 "is_name" ["thing"] (Sp1 (cLook K isNameD n)) := by
  refine cal_mk S sc_is_name (fun _ _ _ _ _ _ us hl => match us, hl with | [_], _ => rfl) (fun _ _ _ _ h => len1 h) (fun f cdv A outer s H vs Q E hr h => ?_)
  obtain ⟨v, rfl, d, hv, hd, q⟩ := h
  obtain ⟨n, rfl⟩ := hd.pos
  refine ⟨_, (pss_cons (ps_if (PW.pt (pw_or (pt_not (pt_val (pe_isi (C := "str") (Z "isinstance" (by decide)) (pv 0) (Z "str" (by decide)) (by decide +kernel) (by decide +kernel)))) (pw_or1 (pt_not (pt_chain op_le op_le pe_int (pe_callB call_lenZ (by rfl) (Z "len" (by decide)) PySem.boot_len (pa_cons (pv 0) pa_nil)) (pe_gv rfl (G.most)))))))
  (pss_one (ps_ret pe_bl))
  pss_nil)
  (pss_one (ps_ret (pe_callB (cr_all rfl) (by rfl) (Z "all" (by decide)) (by decide +kernel) (pa_cons (pe_lc (own := [("sign", 1)]) (g := gName 1) rfl sc_is_name.nd (pi_str (pv 0)) (blkOk_by (own := [("sign", 1)]) (N := ["thing", "sign"]) (sc := defScope s_is_name) (by decide +kernel)) (fun _ _ _ _ _ => (pg_name (i := 1) sc_is_name.nd rfl (.inl rfl))) (fun _ _ _ _ _ => pts_nil) (fun _ _ _ _ _ => (pe_cmpR op_inZ (pv 1) (pe_gv rfl (G.letters)) (by rfl)))) pa_nil))))), ?_⟩
  have hk := Dp.kd hv hd
  (try dsimp only [cxOf, Cx.nox, Cx.wish])
  cases hv with
  | str z =>
    have hz' : z.cps.size ≤ 1000 := hd
    have hz : z.length ≤ sizeLine := Nat.le_trans (show z.cps.size ≤ 1000 from hz') (by decide)
    walk_at "rd"
    refine r_chT (fun h => ?_) (fun h => ?_)
    · walk_at "rd"
      have e : isNameD (.str z) = false := by
        show nameOk z = false
        unfold nameOk
        rw [decide_eq_false (show ¬ 1 ≤ z.length by omega), Bool.false_and]
      rw [e] at q
      exact q _ (Same.refl _)
    · walk_at "rd"
      refine r_iteN (fun h2 => ?_) (fun h2 => ?_)
      · walk_at "rd"
        have e : isNameD (.str z) = false := by
          show nameOk z = false
          unfold nameOk
          rw [decide_eq_false (show ¬ z.length ≤ 8 by omega), Bool.false_and, Bool.and_false]
        rw [e] at q
        exact q _ (Same.refl _)
      · walk_at "rd"
        refine lcSB (fun c => decide (c ∈ lettersS.cps.toList)) (by omega) (fun c Hi Q' hc sm q' => ?_) (fun D H' sm hD => ?_)
        · walk_at "rd"
          exact q' _ (Same.refl _)
        · walk_at "rd"
          refine r_all (SqL.of hD) ?_
          have e : isNameD (.str z) = ((z.cps.toList.map fun c => decide (c ∈ lettersS.cps.toList)).all id) := by
            show nameOk z = _
            unfold nameOk
            rw [decide_eq_true (show 1 ≤ z.length by omega), decide_eq_true (show z.length ≤ 8 by omega), Bool.true_and, Bool.true_and, List.all_map]
            rfl
          rw [← e]
          exact q _ sm
  | _ =>
    walk_at "rd"
    exact q _ (Same.refl _)
theorem ok_is_number (S : Std K mg "is_number" s_is_number) (Z : Blt mg) (n : Nat) : Cal P w K mg base 1 "is_number" ["thing"] (Sp1 (cLook K isNumD n)) := by
  refine cal_mk S sc_is_number (fun _ _ _ _ _ _ us hl => match us, hl with | [_], _ => rfl) (fun _ _ _ _ h => len1 h) (fun f cdv A outer s H vs Q E hr h => ?_)
  obtain ⟨v, rfl, d, hv, hd, q⟩ := h
  obtain ⟨n, rfl⟩ := hd.pos
  refine ⟨_, (pss_one (ps_ret (pe_and (pe_isi (C := "int") (Z "isinstance" (by decide)) (pv 0) (Z "int" (by decide)) (by decide +kernel) (by decide +kernel)) (pe_one (pe_not (pe_isi (C := "bool") (Z "isinstance" (by decide)) (pv 0) (Z "bool" (by decide)) (by decide +kernel) (by decide +kernel))))))), ?_⟩
  have hk := Dp.kd hv hd
  (try dsimp only [cxOf, Cx.nox, Cx.wish])
  cases hv with
  | _ =>
    walk_at "rd"
    exact q _ (Same.refl _)
theorem ok_is_value (S : Std K mg "is_value" s_is_value) (Z : Blt mg) (n : Nat) (c_is_number : Cal P w K mg base 1 "is_number" ["thing"] (Sp1 (cLook K isNumD n))) : Cal P w K mg base 2 "is_value" ["thing"] (Sp1 (cLook K isValD n)) := by
  refine cal_mk S sc_is_value (fun _ _ _ _ _ _ us hl => match us, hl with | [_], _ => rfl) (fun _ _ _ _ h => len1 h) (fun f cdv A outer s H vs Q E hr h => ?_)
  obtain ⟨v, rfl, d, hv, hd, q⟩ := h
  obtain ⟨n, rfl⟩ := hd.pos
  have hr1 : Room 1 _ := hr
  refine ⟨_, (pss_cons (ps_if (pt_val (pe_isi (C := "str") (Z "isinstance" (by decide)) (pv 0) (Z "str" (by decide)) (by decide +kernel) (by decide +kernel)))
  (pss_one (ps_ret (pe_callB (cr_all rfl) (by rfl) (Z "all" (by decide)) (by decide +kernel) (pa_cons (pe_lc (own := [("sign", 1)]) (g := gName 1) rfl sc_is_value.nd (pi_str (pv 0)) (blkOk_by (own := [("sign", 1)]) (N := ["thing", "sign"]) (sc := defScope s_is_value) (by decide +kernel)) (fun _ _ _ _ _ => (pg_name (i := 1) sc_is_value.nd rfl (.inl rfl))) (fun _ _ _ _ _ => pts_nil) (fun _ _ _ _ _ => (pe_chain op_leZ op_leZ pe_str (pv 1) pe_str))) pa_nil))))
  pss_nil)
  (pss_one (ps_ret (pe_cal c_is_number hr1 rfl (pa_cons (pv 0) pa_nil))))), ?_⟩
  have hk := Dp.kd hv hd
  (try dsimp only [cxOf, Cx.nox, Cx.wish])
  have hv0 := hv
  cases hv with
  | str z =>
    have hz' : z.cps.size ≤ 1000 := hd
    walk_at "rd"
    refine lcSB signOk (by omega) (fun c Hi Q' hc sm q' => ?_) (fun D H' sm hD => ?_)
    · walk_at "rd"
      refine r_chN (fun h => ?_) (fun h => ?_)
      · have e : signOk c = false := by
          unfold signOk
          rw [decide_eq_true (show [c] < [32] from h)]
          rfl
        rw [e] at q'
        exact q' _ (Same.refl _)
      · walk_at "rd"
        have e : signOk c = !decide ([126] < [c]) := by
          unfold signOk
          rw [decide_eq_false (show ¬ [c] < [32] from h)]
          rfl
        rw [e] at q'
        exact q' _ (Same.refl _)
    · walk_at "rd"
      refine r_all (SqL.of hD) ?_
      have e : isValD (.str z) = ((z.cps.toList.map signOk).all id) := by
        rw [List.all_map]
        rfl
      rw [← e]
      exact q _ sm
  | _ =>
    walk_at "rd"
    refine ⟨_, hv0, hd, fun H' sm => ?_⟩
    walk_at "rd"
    exact q _ sm
end
end A

namespace A
local macro_rules | `(tactic| walk_at "r1") => `(tactic| first
  | (with_reducible refine' r_chain ?_)
  | (with_reducible refine' r_leZ ?_)
  | ((with_reducible refine' r_ixT0 ?ha ?_); (case ha => walk_at "sq"))
  | (with_reducible refine' r_iStr ?_)
  | (with_reducible refine' r_iStrE ?_)
  | ((with_reducible refine' r_ninK ?ha ?_); (case ha => assumption)))

theorem range_all {α : Type} (f : α → Bool) (x0 : α) : ∀ ds : List α, ((List.range ds.length).map fun i => f (ds[i]?.getD x0)).all id = ds.all f
  | [] => rfl
  | d :: ds => by
    rw [List.length_cons, List.range_succ_eq_map, List.map_cons, List.map_map, List.all_cons, List.all_cons, ← range_all f x0 ds]
    rfl
theorem allStepD_eq : ∀ ds : List PyData, allStepD ds = ds.all isStepD
  | [] => by rw [allStepD]; rfl
  | d :: ds => by rw [allStepD, List.all_cons, allStepD_eq ds]
theorem fitsD_eq : ∀ (ss : List Str) (ds : List PyData), ss.length = ds.length → fitsD ss ds = ((List.range ss.length).map fun i => fit1 (ss[i]?.getD "") (ds[i]?.getD .none)).all id
  | [], _, _ => by
    rw [fitsD]
    · rfl
    · nofun
  | s :: ss, [], h => by cases h
  | s :: ss, d :: ds, h => by
    rw [fitsD, fitsD_eq ss ds (by simpa using h), List.length_cons, List.range_succ_eq_map, List.map_cons, List.map_map, List.all_cons]
    rfl
theorem Wd.item {n : Nat} {ds : List PyData} {d : PyData} (h : Wd (n + 1) (.tuple ds)) (m : d ∈ ds) : Wd n d := h.2 d m
section
variable {P : Program} {w : World} {K : PySem.W.Frag} {mg : Str → Option Value} {base : Heap} {p : Addr} {ks : List (Str × V)}
def cFits (K : PySem.W.Frag) (n : Nat) : V → V → Hp → VK → Prop := fun s v H Q => ∃ z d, s = .str z ∧ Dp K H v d ∧ Wd n d ∧ ∀ H', Same H H' → Q (.bl (fit1 z d)) H'
theorem ok_part_fits (S : Std K mg "part_fits" s_part_fits) (Z : Blt mg) {n j : Nat} (hj : 2 ≤ j) (c_is_name : Cal P w K mg base 1 "is_name" ["thing"] (Sp1 (cLook K isNameD n))) (c_is_value : Cal P w K mg base 2 "is_value" ["thing"] (Sp1 (cLook K isValD n)))
    (c_is_program : Cal P w K mg base j "is_program" ["thing"] (Sp1 (cLook K isProgD n))) : Cal P w K mg base (j + 1) "part_fits" ["sort", "thing"] (Sp2 (cFits K n)) := by
  refine cal_mk S sc_part_fits (fun _ _ _ _ _ _ us hl => match us, hl with | [_, _], _ => rfl) (fun _ _ _ _ h => len2 h) (fun f cdv A outer s H vs Q E hr h => ?_)
  obtain ⟨_, v, rfl, z, d, rfl, hv, hd, q⟩ := h
  have hr1 : Room 1 _ := hr.mono (by omega)
  have hr2 : Room 2 _ := hr.mono hj
  refine ⟨_, (pss_cons (ps_if (pt_cmpR op_eq (pv 0) pe_str (nomark _))
  (pss_one (ps_ret (pe_cal c_is_name hr1 rfl (pa_cons (pv 1) pa_nil))))
  pss_nil)
  (pss_cons (ps_if (pt_cmpR op_eq (pv 0) pe_str (nomark _))
  (pss_one (ps_ret (pe_cal c_is_value hr2 rfl (pa_cons (pv 1) pa_nil))))
  pss_nil)
  (pss_one (ps_ret (pe_cal c_is_program hr rfl (pa_cons (pv 1) pa_nil)))))), ?_⟩
  (try dsimp only [cxOf, Cx.nox, Cx.wish])
  walk_at "rd"
  refine r_ite (fun h => ?_) (fun h => ?_)
  · walk_at "rd"
    refine ⟨d, hv, hd, fun H' sm => ?_⟩
    walk_at "rd"
    rw [show fit1 z d = isNameD d from if_pos h] at q
    exact q _ sm
  · walk_at "rd"
    refine r_ite (fun h2 => ?_) (fun h2 => ?_)
    · walk_at "rd"
      refine ⟨d, hv, hd, fun H' sm => ?_⟩
      walk_at "rd"
      rw [show fit1 z d = isValD d from (if_neg h).trans (if_pos h2)] at q
      exact q _ sm
    · walk_at "rd"
      refine ⟨d, hv, hd, fun H' sm => ?_⟩
      walk_at "rd"
      rw [show fit1 z d = isProgD d from (if_neg h).trans (if_neg h2)] at q
      exact q _ sm
theorem ok_is_step (S : Std K mg "is_step" s_is_step) (Z : Blt mg) (G : Glb K w mg p ks) {n j : Nat} (c_part_fits : Cal P w K mg base j "part_fits" ["sort", "thing"] (Sp2 (cFits K n))) : Cal P w K mg base (j + 1) "is_step" ["thing"] (Sp1 (cLook K isStepD (n + 1))) := by
  refine cal_mk S sc_is_step (fun _ _ _ _ _ _ us hl => match us, hl with | [_], _ => rfl) (fun _ _ _ _ h => len1 h) (fun f cdv A outer s H vs Q E hr h => ?_)
  obtain ⟨v, rfl, d, hv, hd, q⟩ := h
  refine ⟨_, (pss_cons (ps_if (PW.pt (pw_or (pt_not (pt_val (pe_isi (C := "tuple") (Z "isinstance" (by decide)) (pv 0) (Z "tuple" (by decide)) (by decide +kernel) (by decide +kernel)))) (pw_or (pt_cmpR op_eq (pe_callB call_lenQ (by rfl) (Z "len" (by decide)) PySem.boot_len (pa_cons (pv 0) pa_nil)) pe_int (nomark _)) (pw_or1 (pt_not (pt_val (pe_isi (C := "str") (Z "isinstance" (by decide)) (pe_ix ix_tup (pv 0) pe_int (fun _ _ => rfl)) (Z "str" (by decide)) (by decide +kernel) (by decide +kernel))))))))
  (pss_one (ps_ret pe_bl))
  pss_nil)
  (pss_cons (ps_if (PW.pt (pw_or (pt_cmpR op_ninK (pe_ix ix_tup (pv 0) pe_int (fun _ _ => rfl)) (pe_gv rfl (G.sorts)) (by rfl)) (pw_or1 (pt_cmpR op_ne (pe_op op_sub (pe_callB call_lenQ (by rfl) (Z "len" (by decide)) PySem.boot_len (pa_cons (pv 0) pa_nil)) pe_int) (pe_callB call_lenQ (by rfl) (Z "len" (by decide)) PySem.boot_len (pa_cons (pe_ix ix_K (pe_gv rfl (G.sorts)) (pe_ix ix_tup (pv 0) pe_int (fun _ _ => rfl)) (fun _ _ => rfl)) pa_nil)) (nomark _)))))
  (pss_one (ps_ret pe_bl))
  pss_nil)
  (pss_one (ps_ret (pe_callB (cr_all rfl) (by rfl) (Z "all" (by decide)) (by decide +kernel) (pa_cons (pe_lc (own := [("sort", 1), ("part", 2)]) (g := gTup K 2 (gCons (gName 1) (gCons (gName 2) gNil))) rfl sc_is_step.nd (RZ.pi_zipA (by rfl) (Z "zip" (by decide)) (pa_cons (pe_ix ix_K (pe_gv rfl (G.sorts)) (pe_ix ix_tup (pv 0) pe_int (fun _ _ => rfl)) (fun _ _ => rfl)) (pa_cons (pe_slice sl_tup (pv 0) (po_some pe_int) po_none) pa_nil))) (blkOk_by (own := [("sort", 1), ("part", 2)]) (N := ["thing", "sort", "part"]) (sc := defScope s_is_step) (by decide +kernel)) (fun _ _ _ _ _ => (pg_tup rfl (pgs_cons (pg_name (i := 1) sc_is_step.nd rfl (.inl rfl)) (pgs_cons (pg_name (i := 2) sc_is_step.nd rfl (.inl rfl)) pgs_nil)))) (fun _ _ _ _ _ => pts_nil) (fun _ _ _ _ _ => (pe_cal c_part_fits hr rfl (pa_cons (pv 1) (pa_cons (pv 2) pa_nil))))) pa_nil)))))), ?_⟩
  have hD := G.dct
  (try dsimp only [cxOf, Cx.nox, Cx.wish])
  cases hv with
  | tup ha hxs =>
    cases hxs with
    | nil =>
      walk_at "rd"
      exact q _ (Same.refl _)
    | cons h0 hxs =>
      rename_i a v0 vs d0 ds
      have hl := DpAll.len hxs
      have hw := hd.1
      rw [List.length_cons] at hw
      cases h0 with
      | str z =>
        have hf := G.tab.find z
        walk_at "rd"
        cases hs : sortsL.find? (fun s => s.1 == z) with
        | none =>
          rw [hs] at hf
          dsimp only at hf
          rw [hf]
          walk_at "rd"
          have e : isStepD (.tuple (.str z :: ds)) = false := by
            rw [isStepD]
            unfold sortsOf
            rw [hs]
            rfl
          rw [e] at q
          exact q _ (Same.refl _)
        | some sr =>
          have e0 : isStepD (.tuple (.str z :: ds)) = (decide (ds.length = sr.2.length) && fitsD sr.2 ds) := by
            rw [isStepD]
            unfold sortsOf
            rw [hs]
            rfl
          rw [hs] at hf
          obtain ⟨k, t, hf, hT⟩ := hf
          rw [hf]
          have hT0 := hT H
          have hz0 : (V.str z :: vs).length = ds.length + 1 := by rw [List.length_cons, hl]
          have hz1 : (sr.2.map V.str).length = sr.2.length := List.length_map _
          walk_at "rd"
          refine r_ixK hD hf ?_
          walk_at "rd"
          rw [hz0, hz1]
          refine r_iteN (fun hne => ?_) (fun heq => ?_)
          · walk_at "rd"
            rw [e0, decide_eq_false (by omega), Bool.false_and] at q
            exact q _ (Same.refl _)
          · have hle : ds.length = sr.2.length := by omega
            walk_at "rd"
            refine r_ixK hD hf ?_
            walk_at "rd"
            refine r_slT1 ha ?_
            intro p1 hp1
            walk_at "rd"
            refine r_zipT (hT _) (SqT.of upd_same) ?_
            refine lcZB (fun i => fit1 (sr.2[i]?.getD "") (ds[i]?.getD .none)) (by omega) (hT _) (SqT.of upd_same) (by omega) (fun i x y T Hi Q' hx hy sm hTi q' => ?_) (fun D H' sm hDD => ?_)
            · obtain ⟨d', hd', hdp⟩ := DpAll.get hxs hy
              rw [List.getElem?_map] at hx
              cases hx' : sr.2[i]? with
              | none =>
                rw [hx'] at hx
                cases hx
              | some z' =>
                rw [hx'] at hx
                cases hx
                rw [hx', hd'] at q'
                walk_at "rd"
                refine ⟨z', d', rfl, Dp.mono ((same_new hp1).trans sm) hdp, hd.item (List.mem_cons_of_mem _ (List.mem_of_getElem? hd')), fun H3 s3 => ?_⟩
                walk_at "rd"
                exact q' _ s3
            · walk_at "rd"
              refine r_all (SqL.of hDD) ?_
              rw [hz1, ← fitsD_eq _ _ hle.symm]
              rw [e0, decide_eq_true hle, Bool.true_and] at q
              exact q _ ((same_new hp1).trans sm)
      | _ =>
        walk_at "rd"
        exact q _ (Same.refl _)
  | _ =>
    walk_at "rd"
    exact q _ (Same.refl _)
/-- is_program, for data of the depth 2 j -/
theorem ok_is_program (S0 : Std K mg "is_name" s_is_name) (S1 : Std K mg "is_number" s_is_number) (S2 : Std K mg "is_value" s_is_value) (S3 : Std K mg "part_fits" s_part_fits) (S4 : Std K mg "is_step" s_is_step) (S : Std K mg "is_program" s_is_program) (Z : Blt mg) (G : Glb K w mg p ks) :
    ∀ j, Cal P w K mg base (3 * j + 2) "is_program" ["thing"] (Sp1 (cLook K isProgD (2 * j)))
  | 0 => cal_never S (fun _ _ _ _ _ _ us hl => match us, hl with | [_], _ => rfl) fun vs H Q E ⟨_, _, d, _, h, _⟩ => h
  | j + 1 => by
    have c_is_step := ok_is_step S4 Z G (ok_part_fits S3 Z (by omega) (ok_is_name S0 Z G (2 * j)) (ok_is_value S2 Z (2 * j) (ok_is_number S1 Z (2 * j))) (ok_is_program S0 S1 S2 S3 S4 S Z G j))
    refine cal_mk S sc_is_program (fun _ _ _ _ _ _ us hl => match us, hl with | [_], _ => rfl) (fun _ _ _ _ h => len1 h) (fun f cdv A outer s H vs Q E hr h => ?_)
    obtain ⟨v, rfl, d, hv, hd, q⟩ := h
    refine ⟨_, (pss_one (ps_ret (pe_and (pe_isi (C := "tuple") (Z "isinstance" (by decide)) (pv 0) (Z "tuple" (by decide)) (by decide +kernel) (by decide +kernel)) (pe_one (pe_callB (cr_all rfl) (by rfl) (Z "all" (by decide)) (by decide +kernel) (pa_cons (pe_lc (own := [("step", 1)]) (g := gName 1) rfl sc_is_program.nd (pi_tup (pv 0)) (blkOk_by (own := [("step", 1)]) (N := ["thing", "step"]) (sc := defScope s_is_program) (by decide +kernel)) (fun _ _ _ _ _ => (pg_name (i := 1) sc_is_program.nd rfl (.inl rfl))) (fun _ _ _ _ _ => pts_nil) (fun _ _ _ _ _ => (pe_cal c_is_step hr rfl (pa_cons (pv 1) pa_nil)))) pa_nil)))))), ?_⟩
    have hk := Dp.kd hv hd
    (try dsimp only [cxOf, Cx.nox, Cx.wish])
    cases hv with
    | tup ha hxs =>
      rename_i a xs ds
      have hl := DpAll.len hxs
      have hw := hd.1
      walk_at "rd"
      refine lcTB (fun i => isStepD (ds[i]?.getD .none)) ha (by omega) (fun i x Hi Q' hx sm q' => ?_) (fun D H' sm hDD => ?_)
      · obtain ⟨d', hd', hdp⟩ := DpAll.get hxs hx
        rw [hd'] at q'
        walk_at "rd"
        refine ⟨d', Dp.mono sm hdp, hd.item (List.mem_of_getElem? hd'), fun H3 s3 => ?_⟩
        walk_at "rd"
        exact q' _ s3
      · walk_at "rd"
        refine r_all (SqL.of hDD) ?_
        rw [hl, range_all, ← allStepD_eq]
        exact q _ sm
    | _ =>
      walk_at "rd"
      exact q _ (Same.refl _)
end
end A

namespace A
local macro_rules | `(tactic| walk_at "r1") => `(tactic| first
  | (with_reducible refine' r_chain ?_)
  | (with_reducible refine' r_leZ ?_)
  | ((with_reducible refine' r_ixT0 ?ha ?_); (case ha => walk_at "sq"))
  | (with_reducible refine' r_iStr ?_)
  | (with_reducible refine' r_iStrE ?_)
  | ((with_reducible refine' r_ninK ?ha ?_); (case ha => assumption)))

/-! ### every begin and late turned to one of them -/
def tw (l : Bool) : Str := if l then "late" else "begin"
mutual
def turn (l : Bool) : Stp → Stp
  | .begin p => if l then .late (turnL l p) else .begin (turnL l p)
  | .late p => if l then .late (turnL l p) else .begin (turnL l p)
  | .inn s p => .inn s (turnL l p)
  | .set n v s => .set n v s
  | .look n => .look n
  | .back s => .back s
  | .copy s => .copy s
  | .pass => .pass
def turnL (l : Bool) : List Stp → List Stp
  | [] => []
  | s :: r => turn l s :: turnL l r
end
theorem turnL_map (l : Bool) : ∀ p : List Stp, turnL l p = p.map (turn l)
  | [] => by rw [turnL]; rfl
  | s :: r => by rw [turnL, List.map_cons, turnL_map l r]
theorem turn_inner (l : Bool) (s : Stp) : (turn l s).inner = turnL l s.inner := by
  cases s <;> cases l <;> simp [turn, turnL, Stp.inner]
theorem turn_own (l : Bool) (s : Stp) : (turn l s).own = s.own := by
  cases s <;> cases l <;> simp [turn, Stp.own]
mutual
theorem turn_count (l : Bool) : ∀ s : Stp, (turn l s).count = s.count
  | .begin p => by cases l <;> simp [turn, Stp.count, turnL_count]
  | .late p => by cases l <;> simp [turn, Stp.count, turnL_count]
  | .inn _ p => by simp [turn, Stp.count, turnL_count]
  | .set _ _ _ => by rw [turn]
  | .look _ => by rw [turn]
  | .back _ => by rw [turn]
  | .copy _ => by rw [turn]
  | .pass => by rw [turn]
theorem turnL_count (l : Bool) : ∀ p : List Stp, countL (turnL l p) = countL p
  | [] => by rw [turnL]
  | s :: r => by rw [turnL, countL, countL, turn_count l s, turnL_count l r]
end
mutual
theorem turn_names (l : Bool) : ∀ s : Stp, (turn l s).flat.flatMap Stp.own = s.flat.flatMap Stp.own
  | .begin p => by rw [flat_eq, flat_eq, List.flatMap_cons, List.flatMap_cons, turn_own, turn_inner]; exact congrArg _ (turnL_names l p)
  | .late p => by rw [flat_eq, flat_eq, List.flatMap_cons, List.flatMap_cons, turn_own, turn_inner]; exact congrArg _ (turnL_names l p)
  | .inn _ p => by rw [flat_eq, flat_eq, List.flatMap_cons, List.flatMap_cons, turn_own, turn_inner]; exact congrArg _ (turnL_names l p)
  | .set _ _ _ => by rw [turn]
  | .look _ => by rw [turn]
  | .back _ => by rw [turn]
  | .copy _ => by rw [turn]
  | .pass => by rw [turn]
theorem turnL_names (l : Bool) : ∀ p : List Stp, (flatL (turnL l p)).flatMap Stp.own = (flatL p).flatMap Stp.own
  | [] => by rw [turnL]
  | s :: r => by rw [turnL, flatL, flatL, List.flatMap_append, List.flatMap_append, turn_names l s, turnL_names l r]
end
theorem turnL_namesOf (l : Bool) (p : List Stp) : namesOf (turnL l p) = namesOf p := turnL_names l p
mutual
theorem turn_ok (l : Bool) : ∀ s : Stp, OkS s → OkS (turn l s)
  | .begin p, h => by cases l <;> simp only [turn, OkS, if_true, Bool.false_eq_true, if_false] at h ⊢ <;> exact turnL_ok _ p h
  | .late p, h => by cases l <;> simp only [turn, OkS, if_true, Bool.false_eq_true, if_false] at h ⊢ <;> exact turnL_ok _ p h
  | .inn _ p, h => by
    simp only [turn, OkS] at h ⊢
    exact ⟨h.1, turnL_ok l p h.2⟩
  | .set _ _ _, h => by rw [turn]; exact h
  | .look _, h => by rw [turn]; exact h
  | .back _, h => by rw [turn]; exact h
  | .copy _, h => by rw [turn]; exact h
  | .pass, h => by rw [turn]; exact h
theorem turnL_ok (l : Bool) : ∀ p : List Stp, OkL p → OkL (turnL l p)
  | [], _ => by rw [turnL]; trivial
  | s :: r, h => by rw [turnL]; exact ⟨turn_ok l s h.1, turnL_ok l r h.2⟩
end
theorem turnL_deep (l : Bool) : ∀ {n : Nat} {p : List Stp}, Deep n p → Deep n (turnL l p)
  | 0, _, h => h.elim
  | n + 1, p, h => fun s hs => by
    rw [turnL_map] at hs
    obtain ⟨t, ht, rfl⟩ := List.mem_map.mp hs
    rw [turn_inner]
    exact turnL_deep l (h t ht)
mutual
theorem turn_turn (l m : Bool) : ∀ s : Stp, turn l (turn m s) = turn l s
  | .begin p => by cases l <;> cases m <;> simp [turn, turnL_turnL]
  | .late p => by cases l <;> cases m <;> simp [turn, turnL_turnL]
  | .inn _ p => by simp [turn, turnL_turnL]
  | .set _ _ _ => by simp [turn]
  | .look _ => by simp [turn]
  | .back _ => by simp [turn]
  | .copy _ => by simp [turn]
  | .pass => by simp [turn]
theorem turnL_turnL (l m : Bool) : ∀ p : List Stp, turnL l (turnL m p) = turnL l p
  | [] => by rw [turnL, turnL]
  | s :: r => by rw [turnL, turnL, turnL, turn_turn l m s, turnL_turnL l m r]
end
abbrev TurnAt (H : Hp) (l : Bool) (s : Stp) (xs : List V) : Prop :=
  (inV (.str s.word) [.str "begin", .str "late"] = true ∧ (∃ vi, atI xs 1 = some vi ∧ DT H vi (progD s.inner)) ∧ (turn l s).data = .tuple [.str (tw l), progD (turnL l s.inner)]) ∨
  (inV (.str s.word) [.str "begin", .str "late"] = false ∧ s.word = "in" ∧ (∃ z vi, atI xs 1 = some (.str z) ∧ atI xs 2 = some vi ∧ DT H vi (progD s.inner) ∧ (turn l s).data = .tuple [.str "in", .str z, progD (turnL l s.inner)])) ∨
  (inV (.str s.word) [.str "begin", .str "late"] = false ∧ s.word ≠ "in" ∧ turn l s = s)
/-- how a step stands, and what it is turned to: told by its word -/
theorem turn_at {H : Hp} {v : V} {s : Stp} (l : Bool) (h : DT H v s.data) : ∃ a xs, v = .ref a ∧ H a = some (.tup xs) ∧ atI xs 0 = some (.str s.word) ∧ TurnAt H l s xs := by
  have old : inV (.str s.word) [.str "begin", .str "late"] = false → s.word ≠ "in" → turn l s = s → ∃ a xs, v = .ref a ∧ H a = some (.tup xs) ∧ atI xs 0 = some (.str s.word) ∧ TurnAt H l s xs := fun h1 h2 h3 => by
    obtain ⟨a, xs, e, ha, _, h0, _, _⟩ := step_at h
    exact ⟨a, xs, e, ha, h0, .inr (.inr ⟨h1, h2, h3⟩)⟩
  cases s with
  | begin p =>
    obtain ⟨a, xs, rfl, ha, hs⟩ := h.tup_inv
    obtain ⟨v1, _, rfl, h1, hs⟩ := hs.cons_inv
    obtain ⟨v2, _, rfl, h2, hs⟩ := hs.cons_inv
    cases hs.nil_inv
    cases h1.str_inv
    refine ⟨a, _, rfl, ha, rfl, .inl ⟨rfl, ⟨v2, rfl, h2⟩, ?_⟩⟩
    cases l <;> simp [turn, Stp.data, tw, Stp.inner]
  | late p =>
    obtain ⟨a, xs, rfl, ha, hs⟩ := h.tup_inv
    obtain ⟨v1, _, rfl, h1, hs⟩ := hs.cons_inv
    obtain ⟨v2, _, rfl, h2, hs⟩ := hs.cons_inv
    cases hs.nil_inv
    cases h1.str_inv
    refine ⟨a, _, rfl, ha, rfl, .inl ⟨rfl, ⟨v2, rfl, h2⟩, ?_⟩⟩
    cases l <;> simp [turn, Stp.data, tw, Stp.inner]
  | inn n p =>
    obtain ⟨a, xs, rfl, ha, hs⟩ := h.tup_inv
    obtain ⟨v1, _, rfl, h1, hs⟩ := hs.cons_inv
    obtain ⟨v2, _, rfl, h2, hs⟩ := hs.cons_inv
    obtain ⟨v3, _, rfl, h3, hs⟩ := hs.cons_inv
    cases hs.nil_inv
    cases h1.str_inv
    cases h2.str_inv
    refine ⟨a, _, rfl, ha, rfl, .inr (.inl ⟨rfl, rfl, n, v3, rfl, rfl, h3, ?_⟩)⟩
    simp [turn, Stp.data, Stp.inner]
  | set n w z => exact old rfl (show ("set" : Str) ≠ "in" by decide) (by rw [turn])
  | look n => exact old rfl (show ("look" : Str) ≠ "in" by decide) (by rw [turn])
  | back n => exact old rfl (show ("back" : Str) ≠ "in" by decide) (by rw [turn])
  | copy n => exact old rfl (show ("copy" : Str) ≠ "in" by decide) (by rw [turn])
  | pass => exact old rfl (show ("pass" : Str) ≠ "in" by decide) (by rw [turn])
theorem turnL_take (l : Bool) {p : List Stp} {i : Nat} {s : Stp} (h : p[i]? = some s) : dataL (turnL l (p.take (i + 1))) = dataL (turnL l (p.take i)) ++ [(turn l s).data] := by
  rw [List.take_add_one, h, turnL_map, turnL_map, dataL_map, dataL_map]
  simp
section
variable {P : Program} {w : World} {K : PySem.W.Frag} {mg : Str → Option Value} {base : Heap}
def cTurn (n : Nat) : V → V → Hp → VK → Prop := fun v m H Q => ∃ (p : List Stp) (l : Bool), DT H v (progD p) ∧ Deep n p ∧ countL p ≤ 1000 ∧ m = .str (tw l) ∧ ∀ v' H', Same H H' → DT H' v' (progD (turnL l p)) → Q v' H'
def cTurnS (n : Nat) : V → V → Hp → VK → Prop := fun v m H Q => ∃ (s : Stp) (l : Bool), DT H v s.data ∧ Deep n s.inner ∧ countL s.inner ≤ 1000 ∧ m = .str (tw l) ∧ ∀ v' H', Same H H' → DT H' v' (turn l s).data → Q v' H'
theorem ok_turned_step {n j : Nat} (S : Std K mg "turned_step" s_turned_step) (Z : Blt mg) (c_turned : Cal P w K mg base j "turned" ["program", "word"] (Sp2 (cTurn n))) : Cal P w K mg base (j + 1) "turned_step" ["step", "word"] (Sp2 (cTurnS n)) := by
  refine cal_mk S sc_turned_step (fun _ _ _ _ _ _ us hl => match us, hl with | [_, _], _ => rfl) (fun _ _ _ _ h => len2 h) (fun f cdv A outer s H vs Q E hr h => ?_)
  obtain ⟨v, _, rfl, st, l, hv, hD, hc, rfl, q⟩ := h
  refine ⟨_, (pss_cons (ps_if (pt_cmpR op_in_seq (pe_ix ix_tup (pv 0) pe_int (fun _ _ => rfl)) (pe_tup (pa_cons pe_str (pa_cons pe_str pa_nil))) (by rfl))
  (pss_one (ps_ret (pe_tup (pa_cons (pv 1) (pa_cons (pe_cal c_turned hr rfl (pa_cons (pe_ix ix_tup (pv 0) pe_int (fun _ _ => rfl)) (pa_cons (pv 1) pa_nil))) pa_nil)))))
  pss_nil)
  (pss_cons (ps_if (pt_cmpR op_eq (pe_ix ix_tup (pv 0) pe_int (fun _ _ => rfl)) pe_str (nomark _))
  (pss_one (ps_ret (pe_tup (pa_cons pe_str (pa_cons (pe_ix ix_tup (pv 0) pe_int (fun _ _ => rfl)) (pa_cons (pe_cal c_turned hr rfl (pa_cons (pe_ix ix_tup (pv 0) pe_int (fun _ _ => rfl)) (pa_cons (pv 1) pa_nil))) pa_nil))))))
  pss_nil)
  (pss_one (ps_ret (pv 0))))), ?_⟩
  obtain ⟨a, xs, rfl, ha, h0, hh⟩ := turn_at l hv
  (try dsimp only [cxOf, Cx.nox, Cx.wish])
  walk_at "rd"
  refine r_ixT (SqT.of ha) h0 ?_
  walk_at "rd"
  intro t ht
  walk_at "rd"
  have ha1 := upd_new ht ha (o := .tup [.str "begin", .str "late"])
  have hv1 := hv.mono (.same (same_new ht (o := .tup [.str "begin", .str "late"])))
  have s1 : Same H _ := same_new ht (o := .tup [.str "begin", .str "late"])
  rcases hh with ⟨e1, ⟨vi, e2, e3⟩, e4⟩ | ⟨e1, e5, z, vi, e2, e6, e3, e4⟩ | ⟨e1, e5, e4⟩
  · rw [e1]
    walk_at "rd"
    refine r_ixT (SqT.of ha1) e2 ?_
    walk_at "rd"
    refine ⟨st.inner, l, e3.mono (.same s1), hD, hc, rfl, fun v' H' s2 hv' => ?_⟩
    walk_at "rd"
    intro p1 hp1
    refine q _ _ ((s1.trans s2).trans (same_new hp1)) ?_
    rw [e4]
    exact .tup upd_same (.cons (.str _) (.cons (hv'.mono (.same (same_new hp1))) .nil))
  · rw [e1]
    walk_at "rd"
    refine r_ixT (SqT.of ha1) h0 ?_
    rw [e5]
    walk_at "rd"
    refine r_ixT (SqT.of ha1) e2 ?_
    walk_at "rd"
    refine r_ixT (SqT.of ha1) e6 ?_
    walk_at "rd"
    refine ⟨st.inner, l, e3.mono (.same s1), hD, hc, rfl, fun v' H' s2 hv' => ?_⟩
    walk_at "rd"
    intro p1 hp1
    refine q _ _ ((s1.trans s2).trans (same_new hp1)) ?_
    rw [e4]
    exact .tup upd_same (.cons (.str _) (.cons (.str _) (.cons (hv'.mono (.same (same_new hp1))) .nil)))
  · rw [e1]
    walk_at "rd"
    refine r_ixT (SqT.of ha1) h0 ?_
    walk_at "rd"
    rw [decide_eq_false e5]
    walk_at "rd"
    rw [e4] at q
    exact q _ _ s1 hv1
theorem ok_turned (S1 : Std K mg "turned_step" s_turned_step) (S : Std K mg "turned" s_turned) (Z : Blt mg) : ∀ n, Cal P w K mg base (2 * n) "turned" ["program", "word"] (Sp2 (cTurn n))
  | 0 => cal_never S (fun _ _ _ _ _ _ us hl => match us, hl with | [_, _], _ => rfl) fun vs H Q E ⟨_, _, _, p, _, _, h, _⟩ => h
  | n + 1 => by
    have c_turned_step := ok_turned_step S1 Z (ok_turned S1 S Z n)
    refine cal_mk S sc_turned (fun _ _ _ _ _ _ us hl => match us, hl with | [_, _], _ => rfl) (fun _ _ _ _ h => len2 h) (fun f cdv A outer s H vs Q E hr h => ?_)
    obtain ⟨v, _, rfl, p, l, hv, hD, hc, rfl, q⟩ := h
    refine ⟨_, (pss_one (ps_ret (pe_callTy call_tupleQ (by rfl) (Z "tuple" (by decide)) (by decide +kernel) (pa_cons (pe_lc (own := [("step", 2)]) (g := gName 2) rfl sc_turned.nd (pi_tup (pv 0)) (blkOk_by (own := [("step", 2)]) (N := ["program", "word", "step"]) (sc := defScope s_turned) (by decide +kernel)) (fun _ _ _ _ _ => (pg_name (i := 2) sc_turned.nd rfl (.inl rfl))) (fun _ _ _ _ _ => pts_nil) (fun _ _ _ _ _ => (pe_cal c_turned_step hr rfl (pa_cons (pv 2) (pa_cons (pv 1) pa_nil))))) pa_nil)))), ?_⟩
    obtain ⟨a, xs, rfl, ha, hxs⟩ := prog_at hv
    have hl := prog_len hxs
    have hlc := len_le_count p
    (try dsimp only [cxOf, Cx.nox, Cx.wish])
    walk_at "rd"
    refine lcT fun D hD' => ⟨fun i H' => Same H H' ∧ ∃ vs, H' D = some (.lst vs) ∧ DTs H' vs (dataL (turnL l (p.take i))), ⟨same_new hD', [], upd_same, by rw [List.take_zero, turnL]; exact .nil⟩, fun i H' _ h => sqT_same h.1 (SqT.of ha), ?_, ?_⟩
    · rintro i x Hi hx ⟨sm, vs, hDi, hvs⟩
      obtain ⟨st, hst, hdx⟩ := prog_get hxs hx
      have hmem := List.mem_of_getElem? hst
      walk_at "rd"
      have hcs := countL_mem hmem
      rw [count_eq] at hcs
      refine ⟨st, l, hdx.mono (.same sm), hD st hmem, by omega, rfl, fun v' H3 s3 hv' => ?_⟩
      have hvl := hvs.len
      rw [dataL_map, List.length_map, turnL_map, List.length_map, List.length_take] at hvl
      have tk : TK H3 (upd H3 D (.lst (vs ++ [v']))) := (TK.refl (H := H3)).mut (s3 _ _ hDi) nofun
      refine r_lcE (s3 _ _ hDi) (by omega) ⟨?_, _, upd_same, ?_⟩
      · exact ((Same.keep (M := []) (sm.trans s3)).own hD').same
      · rw [turnL_take l hst]
        exact ((hvs.mono (.same s3)).mono tk).append (.cons (hv'.mono tk) .nil)
    · rintro Hi ⟨sm, vs, hDi, hvs⟩
      walk_at "rd"
      intro p1 hp1
      rw [hl, List.take_length] at hvs
      exact q _ _ (sm.trans (same_new hp1)) (.tup upd_same (hvs.mono (.same (same_new hp1))))
end
end A

namespace A
local macro_rules | `(tactic| walk_at "r1") => `(tactic| first
  | (with_reducible refine' r_chain ?_)
  | (with_reducible refine' r_leZ ?_)
  | ((with_reducible refine' r_ixT0 ?ha ?_); (case ha => walk_at "sq"))
  | (with_reducible refine' r_iStr ?_)
  | (with_reducible refine' r_iStrE ?_)
  | ((with_reducible refine' r_ninK ?ha ?_); (case ha => assumption)))

section
variable {P : Program} {w : World} {K : PySem.W.Frag} {mg : Str → Option Value} {base : Heap}
/-- the law's own turning -/
theorem ok_law_turned (S : Std K mg "_law_turned" s_law_turned) (Z : Blt mg) : ∀ n, Cal P w K mg base n "_law_turned" ["_law_program_here", "_law_word"] (Sp2 (cTurn n))
  | 0 => cal_never S (fun _ _ _ _ _ _ us hl => match us, hl with | [_, _], _ => rfl) fun vs H Q E ⟨_, _, _, p, _, _, h, _⟩ => h
  | n + 1 => by
    have c_law_turned := ok_law_turned S Z n
    refine cal_mk S sc_law_turned (fun _ _ _ _ _ _ us hl => match us, hl with | [_, _], _ => rfl) (fun _ _ _ _ h => len2 h) (fun f cdv A outer s H vs Q E hr h => ?_)
    obtain ⟨v, _, rfl, p, l, hv, hD, hc, rfl, q⟩ := h
    refine ⟨_, (pss_cons (ps_set (i := 2) sc_law_turned.nd rfl (.inl rfl) (pe_lst pa_nil))
  (pss_cons (ps_for PassesOwn.never rfl (pi_tup (pv 0)) (pg_name (i := 3) sc_law_turned.nd rfl (.inl rfl))
  (pss_one (ps_if (pt_cmpR op_in_seq (pe_ix ix_tup (pv 3) pe_int (fun _ _ => rfl)) (pe_tup (pa_cons pe_str (pa_cons pe_str pa_nil))) (by rfl))
  (pss_one (ps_expr (pe_bm PySem.F.plainAttrs_list PySem.F.slot_list_append PySem.F.type_list_append mt_append (pv 2) (pa_cons (pe_tup (pa_cons (pv 1) (pa_cons (pe_cal c_law_turned hr rfl (pa_cons (pe_ix ix_tup (pv 3) pe_int (fun _ _ => rfl)) (pa_cons (pv 1) pa_nil))) pa_nil))) pa_nil))))
  (pss_one (ps_if (pt_cmpR op_eq (pe_ix ix_tup (pv 3) pe_int (fun _ _ => rfl)) pe_str (nomark _))
  (pss_one (ps_expr (pe_bm PySem.F.plainAttrs_list PySem.F.slot_list_append PySem.F.type_list_append mt_append (pv 2) (pa_cons (pe_tup (pa_cons pe_str (pa_cons (pe_ix ix_tup (pv 3) pe_int (fun _ _ => rfl)) (pa_cons (pe_cal c_law_turned hr rfl (pa_cons (pe_ix ix_tup (pv 3) pe_int (fun _ _ => rfl)) (pa_cons (pv 1) pa_nil))) pa_nil)))) pa_nil))))
  (pss_one (ps_expr (pe_bm PySem.F.plainAttrs_list PySem.F.slot_list_append PySem.F.type_list_append mt_append (pv 2) (pa_cons (pv 3) pa_nil)))))))))
  (pss_one (ps_ret (pe_callTy call_tupleQ (by rfl) (Z "tuple" (by decide)) (by decide +kernel) (pa_cons (pv 2) pa_nil)))))), ?_⟩
    obtain ⟨a, xs, rfl, ha, hxs⟩ := prog_at hv
    have hl := prog_len hxs
    have hlc := len_le_count p
    (try dsimp only [cxOf, Cx.nox, Cx.wish])
    walk_at "rd"
    intro fa hfa
    walk_at "rd"
    refine forT (xs := xs) (fun i σ H' => ∃ y3 : Option V, σ = [some (.ref a), some (.str (tw l)), some (.ref fa), y3] ∧ Same H H' ∧ ∃ vs, H' fa = some (.lst vs) ∧ DTs H' vs (dataL (turnL l (p.take i)))) ⟨_, rfl, same_new hfa, [], upd_same, by rw [List.take_zero, turnL]; exact .nil⟩ ?_ ?_ ?_
    · rintro i σ H' _ ⟨_, _, s', _⟩
      exact sqT_same s' (SqT.of ha)
    · rintro i x σ Hi hx ⟨y3, rfl, sm, vs, hDi, hvs⟩
      obtain ⟨st, hst, hdx⟩ := prog_get hxs hx
      have hmem := List.mem_of_getElem? hst
      have hcs := countL_mem hmem
      rw [count_eq] at hcs
      have hvl := hvs.len
      rw [dataL_map, List.length_map, turnL_map, List.length_map, List.length_take] at hvl
      have last : ∀ (v' : V) (H3 : Hp) (σ' : L2.St), Same Hi H3 → DT H3 v' (turn l st).data → σ' = [some (.ref a), some (.str (tw l)), some (.ref fa), some x] →
          ∃ y3 : Option V, σ' = [some (.ref a), some (.str (tw l)), some (.ref fa), y3] ∧ Same H (upd H3 fa (.lst (vs ++ [v']))) ∧ ∃ vs', upd H3 fa (.lst (vs ++ [v'])) fa = some (.lst vs') ∧ DTs (upd H3 fa (.lst (vs ++ [v']))) vs' (dataL (turnL l (p.take (i + 1)))) := fun v' H3 σ' s3 hv' e => by
        have tk : TK H3 (upd H3 fa (.lst (vs ++ [v']))) := (TK.refl (H := H3)).mut (s3 _ _ hDi) nofun
        refine ⟨_, e, ((Same.keep (M := []) (sm.trans s3)).own hfa).same, _, upd_same, ?_⟩
        rw [turnL_take l hst]
        exact ((hvs.mono (.same s3)).mono tk).append (.cons (hv'.mono tk) .nil)
      obtain ⟨b, ys, rfl, hb, h0, hh⟩ := turn_at l (hdx.mono (.same sm))
      walk_at "rd"
      refine r_ixT (SqT.of hb) h0 ?_
      walk_at "rd"
      intro t ht
      walk_at "rd"
      have hb1 := upd_new ht hb (o := .tup [.str "begin", .str "late"])
      have s1 : Same Hi _ := same_new ht (o := .tup [.str "begin", .str "late"])
      have hf1 := s1 _ _ hDi
      rcases hh with ⟨e1, ⟨vi, e2, e3⟩, e4⟩ | ⟨e1, e5, z, vi, e2, e6, e3, e4⟩ | ⟨e1, e5, e4⟩
      · rw [e1]
        walk_at "rd"
        refine r_ixT (SqT.of hb1) e2 ?_
        walk_at "rd"
        refine ⟨st.inner, l, e3.mono (.same s1), hD st hmem, by omega, rfl, fun v' H3 s2 hv' => ?_⟩
        have hf2 := s2 _ _ hf1
        walk_at "rd"
        intro p1 hp1
        walk_at "rd"
        refine r_app (upd_new hp1 hf2) (by omega) (last _ _ _ ((s1.trans s2).trans (same_new hp1)) ?_ rfl)
        rw [e4]
        exact .tup upd_same (.cons (.str _) (.cons (hv'.mono (.same (same_new hp1))) .nil))
      · rw [e1]
        walk_at "rd"
        refine r_ixT (SqT.of hb1) h0 ?_
        rw [e5]
        walk_at "rd"
        refine r_ixT (SqT.of hb1) e2 ?_
        walk_at "rd"
        refine r_ixT (SqT.of hb1) e6 ?_
        walk_at "rd"
        refine ⟨st.inner, l, e3.mono (.same s1), hD st hmem, by omega, rfl, fun v' H3 s2 hv' => ?_⟩
        have hf2 := s2 _ _ hf1
        walk_at "rd"
        intro p1 hp1
        walk_at "rd"
        refine r_app (upd_new hp1 hf2) (by omega) (last _ _ _ ((s1.trans s2).trans (same_new hp1)) ?_ rfl)
        rw [e4]
        exact .tup upd_same (.cons (.str _) (.cons (.str _) (.cons (hv'.mono (.same (same_new hp1))) .nil)))
      · rw [e1]
        walk_at "rd"
        refine r_ixT (SqT.of hb1) h0 ?_
        walk_at "rd"
        rw [decide_eq_false e5]
        walk_at "rd"
        refine r_app hf1 (by omega) (last _ _ _ s1 ?_ rfl)
        rw [e4]
        exact (hdx.mono (.same sm)).mono (.same s1)
    · rintro σ Hj ⟨y3, rfl, sm, vs, hDj, hvs⟩
      walk_at "rd"
      intro p1 hp1
      rw [hl, List.take_length] at hvs
      exact q _ _ (sm.trans (same_new hp1)) (.tup upd_same (hvs.mono (.same (same_new hp1))))
end
end A

namespace A
/-! ### programs are what is_program takes for programs; equality with a turned one -/
theorem size_tl (z : Str) : z.cps.size = (tl z).length := by
  show _ = z.cps.toList.length
  rw [Array.length_toList]
theorem NameS.nameOk {z : Str} (h : NameS z) : nameOk z = true := by
  have e := size_tl z
  unfold A.nameOk
  have l1 : 1 ≤ z.length := (show 1 ≤ z.cps.size by have := h.1; omega)
  have l2 : z.length ≤ 8 := (show z.cps.size ≤ 8 by have := h.2.1; omega)
  rw [decide_eq_true l1, decide_eq_true l2, Bool.true_and, Bool.true_and, List.all_eq_true]
  intro c hc
  have hb := h.2.2 c hc
  have hall : ∀ c : Nat, 97 ≤ c → c ≤ 122 → c ∈ lettersS.cps.toList := by
    intro c h1 h2
    have : ∀ d : Nat, d < 26 → 97 + d ∈ lettersS.cps.toList := by decide +kernel
    have := this (c - 97) (by omega)
    rwa [show 97 + (c - 97) = c by omega] at this
  exact decide_eq_true (hall c hb.1 hb.2)
theorem lt_one {a b : Nat} (h : [a] < [b]) : a < b := by
  cases h with
  | rel h => exact h
  | cons h => cases h
theorem ValOk.isVal {v : V} (h : ValOk v) : isValD (vD v) = true := by
  cases v with
  | int i => rfl
  | str z =>
    show z.cps.toList.all signOk = true
    rw [List.all_eq_true]
    intro c hc
    have hb := h.2 c hc
    unfold signOk
    rw [decide_eq_false (show ¬ [c] < [32] from fun h => by have := lt_one h; omega), decide_eq_false (show ¬ [126] < [c] from fun h => by have := lt_one h; omega)]
    rfl
  | _ => exact h.elim
theorem isStepD_eq (z : Str) (ds : List PyData) (ss : List Str) (h : sortsOf z = some ss) : isStepD (.tuple (.str z :: ds)) = (decide (ds.length = ss.length) && fitsD ss ds) := by
  rw [isStepD, h]
mutual
theorem OkS.isStep : ∀ {s : Stp}, OkS s → isStepD s.data = true
  | .set n v z, h => by
    rw [Stp.data, isStepD_eq _ _ ["name", "value", "name"] (by decide +kernel)]
    simp only [fitsD, isNameD]
    rw [NameS.nameOk h.1, NameS.nameOk h.2.2, ValOk.isVal h.2.1]
    rfl
  | .look n, h => by
    rw [Stp.data, isStepD_eq _ _ ["name"] (by decide +kernel)]
    simp only [fitsD, isNameD]
    rw [NameS.nameOk h]
    rfl
  | .back n, h => by
    rw [Stp.data, isStepD_eq _ _ ["name"] (by decide +kernel)]
    simp only [fitsD, isNameD]
    rw [NameS.nameOk h]
    rfl
  | .copy n, h => by
    rw [Stp.data, isStepD_eq _ _ ["name"] (by decide +kernel)]
    simp only [fitsD, isNameD]
    rw [NameS.nameOk h]
    rfl
  | .pass, h => by
    rw [Stp.data, isStepD_eq _ _ [] (by decide +kernel)]
    simp only [fitsD]
    rfl
  | .begin p, h => by
    rw [Stp.data, isStepD_eq _ _ ["program"] (by decide +kernel)]
    simp only [fitsD, isProgD]
    rw [OkL.allStep h]
    rfl
  | .late p, h => by
    rw [Stp.data, isStepD_eq _ _ ["program"] (by decide +kernel)]
    simp only [fitsD, isProgD]
    rw [OkL.allStep h]
    rfl
  | .inn z p, h => by
    rw [Stp.data, isStepD_eq _ _ ["name", "program"] (by decide +kernel)]
    simp only [fitsD, isProgD, isNameD]
    rw [OkL.allStep h.2, NameS.nameOk h.1]
    rfl
theorem OkL.allStep : ∀ {p : List Stp}, OkL p → allStepD (dataL p) = true
  | [], _ => by rw [dataL, allStepD]
  | s :: r, h => by rw [dataL, allStepD, OkS.isStep h.1, OkL.allStep h.2]; rfl
end
theorem OkL.isProg {p : List Stp} (h : OkL p) : isProgD (progD p) = true := by
  rw [isProgD]
  exact OkL.allStep h
theorem wd_prog : ∀ {n : Nat} {p : List Stp}, OkL p → Deep n p → countL p ≤ 1000 → Wd (2 * n) (progD p)
  | 0, _, _, h, _ => h.elim
  | n + 1, p, ok, h, hc => by
    have hl := len_le_count p
    refine ⟨by rw [dataL_map, List.length_map]; omega, fun d hd => ?_⟩
    rw [dataL_map] at hd
    obtain ⟨s, hs, rfl⟩ := List.mem_map.mp hd
    have hD := h s hs
    have hi : Wd (2 * n) (progD s.inner) := wd_prog (ok.mem s hs).inner hD (by have := countL_mem hs; rw [count_eq] at this; omega)
    have okS := ok.mem s hs
    obtain ⟨m, hm⟩ : ∃ m, 2 * n = m + 1 := by
      cases n with
      | zero => exact hD.elim
      | succ k => exact ⟨2 * k + 1, by omega⟩
    show Wd (2 * n + 1) s.data
    rw [hm] at hi ⊢
    have st : ∀ {z : Str}, z.cps.size ≤ 1000 → Wd (m + 1) (.str z) := fun h => h
    have nm : ∀ {z : Str}, NameS z → Wd (m + 1) (.str z) := fun {z} h => by
      have := size_tl z
      have := h.2.1
      exact st (by omega)
    have lit : ∀ z : Str, z.cps.size ≤ 1000 → Wd (m + 1) (.str z) := fun _ h => h
    cases s with
    | set a v b =>
      refine ⟨by simp, fun d hd => ?_⟩
      simp only [List.mem_cons, List.not_mem_nil, or_false] at hd
      rcases hd with rfl | rfl | rfl | rfl
      · exact lit "set" (by decide)
      · exact nm okS.1
      · have hv := okS.2.1
        cases v with
        | int i => exact trivial
        | str z =>
          have e1 := size_tl z
          have e2 := hv.1
          exact st (by omega)
        | _ => exact hv.elim
      · exact nm okS.2.2
    | look a =>
      refine ⟨by simp, fun d hd => ?_⟩
      simp only [List.mem_cons, List.not_mem_nil, or_false] at hd
      rcases hd with rfl | rfl
      · exact lit "look" (by decide)
      · exact nm okS
    | back a =>
      refine ⟨by simp, fun d hd => ?_⟩
      simp only [List.mem_cons, List.not_mem_nil, or_false] at hd
      rcases hd with rfl | rfl
      · exact lit "back" (by decide)
      · exact nm okS
    | copy a =>
      refine ⟨by simp, fun d hd => ?_⟩
      simp only [List.mem_cons, List.not_mem_nil, or_false] at hd
      rcases hd with rfl | rfl
      · exact lit "copy" (by decide)
      · exact nm okS
    | pass =>
      refine ⟨by simp, fun d hd => ?_⟩
      simp only [List.mem_cons, List.not_mem_nil, or_false] at hd
      rw [hd]
      exact lit "pass" (by decide)
    | begin q =>
      refine ⟨by simp, fun d hd => ?_⟩
      simp only [List.mem_cons, List.not_mem_nil, or_false] at hd
      rcases hd with rfl | rfl
      · exact lit "begin" (by decide)
      · exact hi
    | late q =>
      refine ⟨by simp, fun d hd => ?_⟩
      simp only [List.mem_cons, List.not_mem_nil, or_false] at hd
      rcases hd with rfl | rfl
      · exact lit "late" (by decide)
      · exact hi
    | inn a q =>
      refine ⟨by simp, fun d hd => ?_⟩
      simp only [List.mem_cons, List.not_mem_nil, or_false] at hd
      rcases hd with rfl | rfl | rfl
      · exact lit "in" (by decide)
      · exact nm okS.1
      · exact hi
/-! ### equality -/
theorem vD_eqv (v : V) : PyData.eqv (vD v) (vD v) = true := by
  cases v <;> simp [vD, PyData.eqv]
def words (p : List Stp) : List Str := (flatL p).map Stp.word
theorem ne_late_set : (("late" : Str) = "set") = False := eq_false (by decide)
theorem ne_late_look : (("late" : Str) = "look") = False := eq_false (by decide)
theorem ne_late_back : (("late" : Str) = "back") = False := eq_false (by decide)
theorem ne_late_copy : (("late" : Str) = "copy") = False := eq_false (by decide)
theorem ne_late_pass : (("late" : Str) = "pass") = False := eq_false (by decide)
theorem ne_late_in : (("late" : Str) = "in") = False := eq_false (by decide)
theorem ne_late_begin : (("late" : Str) = "begin") = False := eq_false (by decide)
theorem ne_begin_set : (("begin" : Str) = "set") = False := eq_false (by decide)
theorem ne_begin_look : (("begin" : Str) = "look") = False := eq_false (by decide)
theorem ne_begin_back : (("begin" : Str) = "back") = False := eq_false (by decide)
theorem ne_begin_copy : (("begin" : Str) = "copy") = False := eq_false (by decide)
theorem ne_begin_pass : (("begin" : Str) = "pass") = False := eq_false (by decide)
theorem ne_begin_in : (("begin" : Str) = "in") = False := eq_false (by decide)
theorem ne_begin_late : (("begin" : Str) = "late") = False := eq_false (by decide)
mutual
theorem turn_eqv (m : Bool) : ∀ s : Stp, PyData.eqv (turn m s).data s.data = !decide (tw (!m) ∈ s.flat.map Stp.word)
  | .begin p => by
    have ih := turnL_eqv m p
    cases m
    · simp [turn, Stp.data, PyData.eqv, PyData.eqvAll, ih, flat_eq, Stp.word, tw, ne_late_set, ne_late_look, ne_late_back, ne_late_copy, ne_late_pass, ne_late_in, ne_late_begin, ne_begin_set, ne_begin_look, ne_begin_back, ne_begin_copy, ne_begin_pass, ne_begin_in, ne_begin_late, Stp.inner, words]
    · simp [turn, Stp.data, PyData.eqv, PyData.eqvAll, flat_eq, Stp.word, tw, ne_late_set, ne_late_look, ne_late_back, ne_late_copy, ne_late_pass, ne_late_in, ne_late_begin, ne_begin_set, ne_begin_look, ne_begin_back, ne_begin_copy, ne_begin_pass, ne_begin_in, ne_begin_late]
  | .late p => by
    have ih := turnL_eqv m p
    cases m
    · simp [turn, Stp.data, PyData.eqv, PyData.eqvAll, flat_eq, Stp.word, tw, ne_late_set, ne_late_look, ne_late_back, ne_late_copy, ne_late_pass, ne_late_in, ne_late_begin, ne_begin_set, ne_begin_look, ne_begin_back, ne_begin_copy, ne_begin_pass, ne_begin_in, ne_begin_late]
    · simp [turn, Stp.data, PyData.eqv, PyData.eqvAll, ih, flat_eq, Stp.word, tw, ne_late_set, ne_late_look, ne_late_back, ne_late_copy, ne_late_pass, ne_late_in, ne_late_begin, ne_begin_set, ne_begin_look, ne_begin_back, ne_begin_copy, ne_begin_pass, ne_begin_in, ne_begin_late, Stp.inner, words]
  | .inn z p => by
    have ih := turnL_eqv m p
    cases m <;> simp [turn, Stp.data, PyData.eqv, PyData.eqvAll, ih, flat_eq, Stp.word, tw, ne_late_set, ne_late_look, ne_late_back, ne_late_copy, ne_late_pass, ne_late_in, ne_late_begin, ne_begin_set, ne_begin_look, ne_begin_back, ne_begin_copy, ne_begin_pass, ne_begin_in, ne_begin_late, Stp.inner, words]
  | .set a v b => by cases m <;> simp [turn, Stp.data, PyData.eqv, PyData.eqvAll, vD_eqv, Stp.flat, Stp.word, tw, ne_late_set, ne_late_look, ne_late_back, ne_late_copy, ne_late_pass, ne_late_in, ne_late_begin, ne_begin_set, ne_begin_look, ne_begin_back, ne_begin_copy, ne_begin_pass, ne_begin_in, ne_begin_late]
  | .look a => by cases m <;> simp [turn, Stp.data, PyData.eqv, PyData.eqvAll, Stp.flat, Stp.word, tw, ne_late_set, ne_late_look, ne_late_back, ne_late_copy, ne_late_pass, ne_late_in, ne_late_begin, ne_begin_set, ne_begin_look, ne_begin_back, ne_begin_copy, ne_begin_pass, ne_begin_in, ne_begin_late]
  | .back a => by cases m <;> simp [turn, Stp.data, PyData.eqv, PyData.eqvAll, Stp.flat, Stp.word, tw, ne_late_set, ne_late_look, ne_late_back, ne_late_copy, ne_late_pass, ne_late_in, ne_late_begin, ne_begin_set, ne_begin_look, ne_begin_back, ne_begin_copy, ne_begin_pass, ne_begin_in, ne_begin_late]
  | .copy a => by cases m <;> simp [turn, Stp.data, PyData.eqv, PyData.eqvAll, Stp.flat, Stp.word, tw, ne_late_set, ne_late_look, ne_late_back, ne_late_copy, ne_late_pass, ne_late_in, ne_late_begin, ne_begin_set, ne_begin_look, ne_begin_back, ne_begin_copy, ne_begin_pass, ne_begin_in, ne_begin_late]
  | .pass => by cases m <;> simp [turn, Stp.data, PyData.eqv, PyData.eqvAll, Stp.flat, Stp.word, tw, ne_late_set, ne_late_look, ne_late_back, ne_late_copy, ne_late_pass, ne_late_in, ne_late_begin, ne_begin_set, ne_begin_look, ne_begin_back, ne_begin_copy, ne_begin_pass, ne_begin_in, ne_begin_late]
theorem turnL_eqv (m : Bool) : ∀ p : List Stp, PyData.eqvAll (dataL (turnL m p)) (dataL p) = !decide (tw (!m) ∈ words p)
  | [] => by rw [turnL]; rfl
  | s :: r => by
    rw [turnL, dataL, dataL, PyData.eqvAll, turn_eqv m s, turnL_eqv m r]
    unfold words
    rw [flatL, List.map_append]
    by_cases h1 : tw (!m) ∈ s.flat.map Stp.word <;> by_cases h2 : tw (!m) ∈ (flatL r).map Stp.word <;> simp only [h1, h2, List.mem_append, decide_true, decide_false, Bool.not_true, Bool.not_false, Bool.and_true, Bool.and_false, or_true, or_false]
end
end A

namespace A
open PySem.PyData (shown shownAll)
theorem shownAll_map : ∀ ds : List PyData, shownAll ds = ds.map shown
  | [] => by rw [shownAll]; rfl
  | d :: ds => by rw [shownAll, shownAll_map ds]; rfl
theorem shown_tup (ds : List PyData) : (shown (.tuple ds)).length ≤ ((ds.map shown).map (·.length)).sum + 2 * ds.length + 3 := by
  rw [shown, shownAll_map]
  have := tupleText_len_le (ds.map shown)
  rw [List.length_map] at this
  exact this
theorem shown_str (z : Str) (n : Nat) (h1 : z.cps.size ≤ n) (h2 : ∀ c ∈ z.cps.toList, c ≤ 126) : (shown (.str z)).length ≤ 10 * n + 2 := by
  rw [shown]
  have := StrLaws.reprText_len z fun c hc => Nat.lt_of_le_of_lt (h2 c hc) (by decide)
  have e : z.length = z.cps.size := rfl
  omega
theorem shown_name {z : Str} (h : NameS z) : (shown (.str z)).length ≤ 82 := by
  have e := size_tl z
  exact shown_str z 8 (by have := h.2.1; omega) fun c hc => by have := h.2.2 c hc; omega
theorem shown_int {i : Int} (h : i.natAbs < 10 ^ 30) : (shown (.int i)).length ≤ 40 := by
  rw [shown]
  have := int_text_length_le10 (k := 30) (by decide) h
  show (Str.ofString (toString i)).length ≤ 40
  rw [ofString_length]
  omega
theorem shown_val {v : V} (h : ValOk v) : (shown (vD v)).length ≤ 402 := by
  cases v with
  | int i =>
    have h1 : -(10 ^ 30) < i ∧ i < 10 ^ 30 := h
    exact Nat.le_trans (shown_int (by omega)) (by decide)
  | str z =>
    have e := size_tl z
    exact shown_str z 40 (by have := h.1; omega) fun c hc => (h.2 c hc).2
  | _ => exact h.elim
theorem shown_lit (z : Str) (h1 : z.cps.size ≤ 5) (h2 : ∀ c ∈ z.cps.toList, c ≤ 126) : (shown (.str z)).length ≤ 52 := shown_str z 5 h1 h2
theorem lit_set : (shown (.str "set")).length ≤ 52 := shown_lit _ (by decide) (by decide +kernel)
theorem lit_look : (shown (.str "look")).length ≤ 52 := shown_lit _ (by decide) (by decide +kernel)
theorem lit_back : (shown (.str "back")).length ≤ 52 := shown_lit _ (by decide) (by decide +kernel)
theorem lit_copy : (shown (.str "copy")).length ≤ 52 := shown_lit _ (by decide) (by decide +kernel)
theorem lit_pass : (shown (.str "pass")).length ≤ 52 := shown_lit _ (by decide) (by decide +kernel)
theorem lit_begin : (shown (.str "begin")).length ≤ 52 := shown_lit _ (by decide) (by decide +kernel)
theorem lit_late : (shown (.str "late")).length ≤ 52 := shown_lit _ (by decide) (by decide +kernel)
theorem lit_in : (shown (.str "in")).length ≤ 52 := shown_lit _ (by decide) (by decide +kernel)
theorem tup1 (a : PyData) : (shown (.tuple [a])).length ≤ (shown a).length + 5 := by
  have := shown_tup [a]
  simp at this
  omega
theorem tup2 (a b : PyData) : (shown (.tuple [a, b])).length ≤ (shown a).length + (shown b).length + 7 := by
  have := shown_tup [a, b]
  simp at this
  omega
theorem tup3 (a b c : PyData) : (shown (.tuple [a, b, c])).length ≤ (shown a).length + (shown b).length + (shown c).length + 9 := by
  have := shown_tup [a, b, c]
  simp at this
  omega
theorem tup4 (a b c d : PyData) : (shown (.tuple [a, b, c, d])).length ≤ (shown a).length + (shown b).length + (shown c).length + (shown d).length + 11 := by
  have := shown_tup [a, b, c, d]
  simp at this
  omega
mutual
theorem shown_step : ∀ {s : Stp}, OkS s → (shown s.data).length + 2 ≤ 700 * s.count
  | .set n v z, h => by
    have := tup4 (.str "set") (.str n) (vD v) (.str z)
    have := lit_set
    have := shown_name h.1
    have := shown_val h.2.1
    have := shown_name h.2.2
    show (shown (.tuple [.str "set", .str n, vD v, .str z])).length + 2 ≤ 700 * 1
    omega
  | .look n, h => by
    have := tup2 (.str "look") (.str n)
    have := lit_look
    have := shown_name h
    show (shown (.tuple [.str "look", .str n])).length + 2 ≤ 700 * 1
    omega
  | .back n, h => by
    have := tup2 (.str "back") (.str n)
    have := lit_back
    have := shown_name h
    show (shown (.tuple [.str "back", .str n])).length + 2 ≤ 700 * 1
    omega
  | .copy n, h => by
    have := tup2 (.str "copy") (.str n)
    have := lit_copy
    have := shown_name h
    show (shown (.tuple [.str "copy", .str n])).length + 2 ≤ 700 * 1
    omega
  | .pass, h => by
    have := tup1 (.str "pass")
    have := lit_pass
    show (shown (.tuple [.str "pass"])).length + 2 ≤ 700 * 1
    omega
  | .begin p, h => by
    have := tup2 (.str "begin") (.tuple (dataL p))
    have := lit_begin
    have : (shown (.tuple (dataL p))).length ≤ 700 * countL p + 3 := shown_prog (p := p) h
    rw [Stp.data, Stp.count]
    omega
  | .late p, h => by
    have := tup2 (.str "late") (.tuple (dataL p))
    have := lit_late
    have : (shown (.tuple (dataL p))).length ≤ 700 * countL p + 3 := shown_prog (p := p) h
    rw [Stp.data, Stp.count]
    omega
  | .inn z p, h => by
    have := tup3 (.str "in") (.str z) (.tuple (dataL p))
    have := lit_in
    have := shown_name h.1
    have : (shown (.tuple (dataL p))).length ≤ 700 * countL p + 3 := shown_prog (p := p) h.2
    rw [Stp.data, Stp.count]
    omega
theorem shown_steps : ∀ {p : List Stp}, OkL p → (((dataL p).map shown).map (·.length)).sum + 2 * (dataL p).length ≤ 700 * countL p
  | [], _ => by simp [dataL, countL]
  | s :: r, h => by
    have h1 := shown_step h.1
    have h2 := shown_steps h.2
    rw [dataL, countL, List.map_cons, List.map_cons, List.sum_cons, List.length_cons]
    omega
theorem shown_prog : ∀ {p : List Stp}, OkL p → (shown (progD p)).length ≤ 700 * countL p + 3
  | [], _ => by
    have := shown_tup (dataL [])
    simp [dataL] at this
    show (shown (.tuple (dataL []))).length ≤ _
    rw [dataL]
    omega
  | s :: r, h => by
    have h1 := shown_step h.1
    have h2 := shown_steps h.2
    have h3 := shown_tup (dataL (s :: r))
    rw [dataL, List.map_cons, List.map_cons, List.sum_cons, List.length_cons] at h3
    rw [countL]
    show (shown (.tuple (s.data :: dataL r))).length ≤ _
    omega
end
mutual
theorem able_step : ∀ {s : Stp}, OkS s → s.data.showable = true
  | .set n v z, h => by
    have hv : (vD v).showable = true := by
      cases v with
      | int i =>
        have h1 : -(10 ^ 30) < i ∧ i < 10 ^ 30 := h.2.1
        refine decide_eq_true ?_
        have : i.natAbs < 2 ^ 1920 := Nat.lt_of_lt_of_le (show i.natAbs < 10 ^ 30 by omega) (by decide +kernel)
        by_cases h0 : i.natAbs = 0
        · rw [h0]; decide
        · exact (Nat.log2_lt h0).mpr this
      | str z => rfl
      | _ => exact h.2.1.elim
    simp [Stp.data, PyData.showable, PyData.showableAll, hv]
  | .look n, h => by simp [Stp.data, PyData.showable, PyData.showableAll]
  | .back n, h => by simp [Stp.data, PyData.showable, PyData.showableAll]
  | .copy n, h => by simp [Stp.data, PyData.showable, PyData.showableAll]
  | .pass, h => by simp [Stp.data, PyData.showable, PyData.showableAll]
  | .begin p, h => by
    have := able_steps (p := p) h
    simp [Stp.data, PyData.showable, PyData.showableAll, this]
  | .late p, h => by
    have := able_steps (p := p) h
    simp [Stp.data, PyData.showable, PyData.showableAll, this]
  | .inn z p, h => by
    have := able_steps (p := p) h.2
    simp [Stp.data, PyData.showable, PyData.showableAll, this]
theorem able_steps : ∀ {p : List Stp}, OkL p → PyData.showableAll (dataL p) = true
  | [], _ => by rw [dataL, PyData.showableAll]
  | s :: r, h => by rw [dataL, PyData.showableAll, able_step h.1, able_steps h.2]; rfl
end
end A

namespace A
theorem shapedT {n : Nat} {p : List Stp} (ok : OkL p) (h : Deep n p) (hn : n ≤ 30) : SeqAt.shaped (progD p) = true := by
  unfold SeqAt.shaped
  rw [Bool.and_eq_true]
  refine ⟨by simp only [PyData.canLay0]; exact ok.lay, decide_eq_true ?_⟩
  have := deep_depth ok h
  simp only [PyData.depth]
  omega
mutual
theorem own_ok : ∀ {s : Stp}, OkS s → ∀ z ∈ s.flat.flatMap Stp.own, NameS z
  | .set n v b, h, z, hz => by
    simp [Stp.flat, Stp.own] at hz
    rw [hz]
    exact h.1
  | .look n, h, z, hz => by
    simp [Stp.flat, Stp.own] at hz
    rw [hz]
    exact h
  | .back n, h, z, hz => by simp [Stp.flat, Stp.own] at hz
  | .copy n, h, z, hz => by simp [Stp.flat, Stp.own] at hz
  | .pass, h, z, hz => by simp [Stp.flat, Stp.own] at hz
  | .begin p, h, z, hz => by
    rw [flat_eq, List.flatMap_cons] at hz
    exact ownL_ok (p := p) h z hz
  | .late p, h, z, hz => by
    rw [flat_eq, List.flatMap_cons] at hz
    exact ownL_ok (p := p) h z hz
  | .inn n p, h, z, hz => by
    rw [flat_eq, List.flatMap_cons] at hz
    exact ownL_ok (p := p) h.2 z hz
theorem ownL_ok : ∀ {p : List Stp}, OkL p → ∀ z ∈ (flatL p).flatMap Stp.own, NameS z
  | [], _, z, hz => by cases hz
  | s :: r, h, z, hz => by
    rw [flatL, List.flatMap_append] at hz
    rcases List.mem_append.mp hz with hz | hz
    · exact own_ok h.1 z hz
    · exact ownL_ok h.2 z hz
end
theorem names_ok2 {p : List Stp} (h : OkL p) : ∀ z ∈ addNames [] (namesOf p), NameS z := fun z hz => by
  rcases mem_addNames.mp hz with hz | hz
  · cases hz
  · exact ownL_ok h z hz
theorem strs_lay : ∀ {ns : List Str}, (∀ z ∈ ns, NameS z) → PyData.canLayAll0 (ns.map .str) = true
  | [], _ => by simp [PyData.canLayAll0]
  | n :: r, h => by
    have h1 := (h n (List.mem_cons_self ..)).ok
    have h2 := strs_lay fun z hz => h z (List.mem_cons_of_mem _ hz)
    simp [PyData.canLayAll0, PyData.canLay0, h1, h2]
theorem strs_shaped {ns : List Str} (h : ∀ z ∈ ns, NameS z) : SeqAt.shaped (.list (ns.map .str)) = true := by
  unfold SeqAt.shaped
  rw [Bool.and_eq_true]
  refine ⟨by simp only [PyData.canLay0]; exact strs_lay h, decide_eq_true ?_⟩
  have : PyData.depthAll (ns.map .str) ≤ 0 := depthAll_le fun d hd => by
    obtain ⟨z, _, rfl⟩ := List.mem_map.mp hd
    simp [PyData.depth]
  simp only [PyData.depth]
  omega
theorem strs_eqv (ns : List Str) : PyData.eqv (.list (ns.map .str)) (.list (ns.map .str)) = true := by
  rw [PyData.eqv]
  induction ns with
  | nil => rfl
  | cons n r ih => simp [PyData.eqvAll, PyData.eqv, ih]
theorem prog_eqv (m : Bool) (p : List Stp) : PyData.eqv (progD (turnL m p)) (progD p) = !decide (tw (!m) ∈ words p) := by
  rw [PyData.eqv]
  exact turnL_eqv m p
theorem r_notB {b c : Bool} {H : Hp} {Q : VK} (q : Q (.bl (!decide (b = c))) H) : rNotB (.bl b) (.bl c) H Q := ⟨b, c, rfl, rfl, q⟩
theorem words_strs (p : List Stp) : ((flatL p).map fun s => V.str s.word) = (words p).map V.str := by
  unfold words
  rw [List.map_map]
  rfl
end A

namespace A
local macro_rules | `(tactic| walk_at "bx") => `(tactic| first
  | assumption
  | (with_reducible apply BoxAt.upd; assumption)
  | (with_reducible apply BoxAt.new; (focus walk_at "bx"); (focus assumption))
  | (with_reducible apply BoxAt.ne; (focus walk_at "bx"); (focus walk_at "ne")))
local macro_rules | `(tactic| walk_at "r1") => `(tactic| ((with_reducible refine' r_take ?ha ?hb ?hc ?hd ?_); (case ha => walk_at "bx"); (case hb => walk_at "si"); (case hc => walk_at "si"); (case hd => walk_at "si")))

local macro_rules | `(tactic| walk_at "r1") => `(tactic| first
  | (with_reducible refine' r_chain ?_)
  | (with_reducible refine' r_leZ ?_)
  | ((with_reducible refine' r_ixT0 ?ha ?_); (case ha => walk_at "sq"))
  | (with_reducible refine' r_iStr ?_)
  | (with_reducible refine' r_iStrE ?_)
  | ((with_reducible refine' r_ninK ?ha ?_); (case ha => assumption)))

def spLaw (K : PySem.W.Frag) : Sp := Sp1 fun v H Q => ∃ (a : Addr) (ns : List Int), v = .ref a ∧ SqL K H a (ns.map V.int) ∧ ns.length ≤ 63 ∧ ∀ H', Q (.bl true) H'
theorem same_keep {M : List Addr} {H0 H1 H2 : Hp} (s : Same H0 H1) (k : Keep M H1 H2) (n : ∀ m ∈ M, H1 m = none) : Same H0 H2 := fun x o e => k x o (fun hm => by
  have := s _ _ e
  rw [n x hm] at this
  cases this) (s _ _ e)
theorem Wd.lv : ∀ {n : Nat} {d : PyData}, Wd n d → Lv n d
  | 0, _, h => h.elim
  | n + 1, .list ds, h => ⟨h.1, fun d hd => Wd.lv (h.2 d hd)⟩
  | n + 1, .tuple ds, h => ⟨h.1, fun d hd => Wd.lv (h.2 d hd)⟩
  | _ + 1, .dict _, h => h.elim
  | _ + 1, .none, _ => trivial
  | _ + 1, .bool _, _ => trivial
  | _ + 1, .int _, _ => trivial
  | _ + 1, .str _, _ => trivial
theorem iteC {c : Prop} {dc : Decidable c} {ta tb : TE} {σ : L2.St} {H : Hp} {Q : VK} (T : V → Hp → Prop) (hT : ∀ x H', T x H' → Q x H') (h1 : c → ∀ Q' : VK, (∀ x H', T x H' → Q' x H') → ta σ H Q') (h2 : ¬ c → ∀ Q' : VK, (∀ x H', T x H' → Q' x H') → tb σ H Q') : if decide c = true then ta σ H Q else tb σ H Q := by
  by_cases h : c
  · rw [decide_eq_true h, if_pos rfl]
    exact h1 h Q hT
  · rw [decide_eq_false h, if_neg Bool.false_ne_true]
    exact h2 h Q hT
theorem cutTail (x : V) (xs : List V) : cutV (x :: xs) (some 1) none = xs := by
  unfold cutV
  rw [show HT.sIx (x :: xs).length 0 (some 1) = min 1 (x :: xs).length from HT.sIx_nat _ _ 1, show HT.sIx (x :: xs).length (x :: xs).length none = (x :: xs).length from rfl, List.length_cons, show min 1 (xs.length + 1) = 1 by omega, List.drop_one, List.tail_cons, List.take_of_length_le (by omega)]
theorem names12 : ∀ z ∈ ((["look", "set", "look", "back", "begin", "late", "copy", "in", "pass", "begin", "in"] : List Str) ++ (["pass"] : List Str)), NameS z := by
  simp only [NameS]
  decide +kernel
section
variable {P : Program} {w : World} {K : PySem.W.Frag} {mg : Str → Option Value} {base : Heap} {p0 : Addr} {ks : List (Str × V)}
set_option linter.unusedVariables false in
theorem ok_law (S : Std K mg "law" s_law) (Z : Blt mg) (c_law_box : Cal P w K mg base 2 "_law_box" ["_law_script", "_law_k"] (Sp2 (cBox K))) (c_law_take : Cal P w K mg base 1 "_law_take" ["_law_box_here", "_law_many"] (Sp2 cTake))
    (c_law_names : Cal P w K mg base 2 "_law_names" ["_law_box_here", "_law_many"] (Sp2 cNames))
    (c_law_program : Cal P w K mg base 18 "_law_program" ["_law_box_here", "_law_names_here", "_law_slots", "_law_words", "_law_room", "_law_deep", "_law_many"] (fun vs H Q E => ∃ e, e < 8 ∧ Sp7 (cProg e) vs H Q E))
    (c_law_flat : Cal P w K mg base 1 "_law_flat" ["_law_program_here"] (Sp1 cFlat)) (c_law_same : Cal P w K mg base 19 "_law_same" ["_law_found", "_law_due"] (Sp2 (cSame K 18)))
    (c_steps_in : Cal P w K mg base 10 "steps_in" ["program"] (Sp1 (cSteps 9))) (c_names_in : Cal P w K mg base 12 "names_in" ["program"] (Sp1 (cNamesIn 9)))
    (c_is_program : Cal P w K mg base 29 "is_program" ["thing"] (Sp1 (cLook K isProgD 18))) (c_turned : Cal P w K mg base 18 "turned" ["program", "word"] (Sp2 (cTurn 9)))
    (c_law_turned : Cal P w K mg base 9 "_law_turned" ["_law_program_here", "_law_word"] (Sp2 (cTurn 9))) {fa : Addr} (hfa : mg "law" = some (.ref fa)) : CallC P w K mg base fa (spLaw K) := by
  obtain ⟨f, fd, F, hm⟩ := S
  rw [hfa] at hm
  cases hm
  refine callC_mk (k := 30) F sc_law ⟨rfl, by decide, by decide⟩ (fun _ _ _ _ _ _ _ => rfl) (fun cdv s H v Q E hr h => ?_)
  obtain ⟨_, e0, a, ns, rfl, hS, h63, q⟩ := h
  cases e0
  have hg : (callerA.deeper (envOfC "law" (defScope s_law) s.heap.objs.size fa cdv)).guards = some [] := rfl
  have hu : (callerA.deeper (envOfC "law" (defScope s_law) s.heap.objs.size fa cdv)).units + 64 < cLine := hr.units
  refine ⟨_, (pss_cons (ps_set (i := 1) sc_law.nd rfl (.inl rfl) (pe_lst (pa_cons pe_str (pa_cons pe_str (pa_cons pe_str (pa_cons pe_str (pa_cons pe_str (pa_cons pe_str (pa_cons pe_str (pa_cons pe_str (pa_cons pe_str (pa_cons pe_str (pa_cons pe_str (pa_cons pe_str pa_nil))))))))))))))
  (pss_cons (ps_for PassesOwn.never rfl (pi_range1 rfl (Z "range" (by decide)) (pa_cons (pe_op op_add pe_int (pe_callB (call_minQ rfl) (by rfl) (Z "min" (by decide)) (by decide +kernel) (pa_cons pe_int (pa_cons (pe_callB call_lenQ (by rfl) (Z "len" (by decide)) PySem.boot_len (pa_cons (pv 0) pa_nil)) pa_nil)))) pa_nil)) (pg_name (i := 2) sc_law.nd rfl (.inl rfl))
  (pss_cons (ps_set (i := 3) sc_law.nd rfl (.inl rfl) (pe_cal c_law_box (hr.mono (by decide)) rfl (pa_cons (pv 0) (pa_cons (pv 2) pa_nil))))
  (pss_cons (ps_set (i := 4) sc_law.nd rfl (.inl rfl) (pe_ifExp (pt_cmpR op_gt (pe_cal c_law_take (hr.mono (by decide)) rfl (pa_cons (pv 3) (pa_cons pe_int pa_nil))) pe_int (nomark _)) (pe_cal c_law_names (hr.mono (by decide)) rfl (pa_cons (pv 3) (pa_cons pe_int pa_nil))) (pe_op op_cat (pe_slice sl_list (pv 1) (po_some pe_int) po_none) (pe_lst (pa_cons pe_str pa_nil)))))
  (pss_cons (ps_set (i := 5) sc_law.nd rfl (.inl rfl) (pe_ix ix_list (pe_lst (pa_cons (pv 1) (pa_cons (pe_op op_cat (pv 1) (pe_op op_rep (pe_lst (pa_cons pe_str pa_nil)) pe_int)) (pa_cons (pe_lst (pa_cons pe_str (pa_cons pe_str (pa_cons pe_str (pa_cons pe_str pa_nil))))) pa_nil)))) (pe_cal c_law_take (hr.mono (by decide)) rfl (pa_cons (pv 3) (pa_cons pe_int pa_nil))) (fun _ _ => rfl)))
  (pss_cons (ps_set (i := 6) sc_law.nd rfl (.inl rfl) (pe_cal c_law_program (hr.mono (by decide)) rfl (pa_cons (pv 3) (pa_cons (pv 4) (pa_cons (pv 4) (pa_cons (pv 5) (pa_cons (pe_lst (pa_cons pe_int pa_nil)) (pa_cons (pe_cal c_law_take (hr.mono (by decide)) rfl (pa_cons (pv 3) (pa_cons pe_int pa_nil))) (pa_cons (pe_cal c_law_take (hr.mono (by decide)) rfl (pa_cons (pv 3) (pa_cons pe_int pa_nil))) pa_nil)))))))))
  (pss_cons (ps_par (i := 7) (j := 8) (by rfl) sc_law.nd rfl rfl (by decide) rfl rfl (pa_cons (pe_callB (call_reprG hg hu) (by rfl) (Z "repr" (by decide)) (by decide +kernel) (pa_cons (pv 6) pa_nil)) (pa_cons (pe_lc (own := [("_law_step_here", 12)]) (g := gName 12) rfl sc_law.nd (pi_list (pe_cal c_law_flat (hr.mono (by decide)) rfl (pa_cons (pv 6) pa_nil))) (blkOk_by (own := [("_law_step_here", 12)]) (N := ["_law_script", "_law_words", "_law_k", "_law_box_here", "_law_names_here", "_law_some", "_law_program_here", "_law_kept", "_law_heads", "_law_word", "_law_other", "_law_found", "_law_step_here"]) (sc := defScope s_law) (by decide +kernel)) (fun _ _ _ _ _ => (pg_name (i := 12) sc_law.nd rfl (.inl rfl))) (fun _ _ _ _ _ => pts_nil) (fun _ _ _ _ _ => (pe_ix (show IxR _ (rIxT K) from ix_tup) (pv 12) pe_int (fun _ _ => rfl)))) pa_nil)) (by rfl))
  (pss_one (ps_for PassesOwn.never rfl (pi_tup (pe_tup (pa_cons (pe_tup (pa_cons pe_str (pa_cons pe_str pa_nil))) (pa_cons (pe_tup (pa_cons pe_str (pa_cons pe_str pa_nil))) pa_nil)))) (pg_tup rfl (pgs_cons (pg_name (i := 9) sc_law.nd rfl (.inl rfl)) (pgs_cons (pg_name (i := 10) sc_law.nd rfl (.inl rfl)) pgs_nil)))
  (pss_cons (ps_set (i := 11) sc_law.nd rfl (.inl rfl) (pe_cal c_turned (hr.mono (by decide)) rfl (pa_cons (pv 6) (pa_cons (pv 9) pa_nil))))
  (pss_cons (ps_if (PW.pt (pw_or (pt_not (pt_val (pe_cal c_law_same (hr.mono (by decide)) rfl (pa_cons (pv 11) (pa_cons (pe_cal c_law_turned (hr.mono (by decide)) rfl (pa_cons (pv 6) (pa_cons (pv 9) pa_nil))) pa_nil))))) (pw_or1 (pt_cmpR op_notBl (pe_cal c_is_program (hr.mono (by decide)) rfl (pa_cons (pv 11) pa_nil)) pe_bl (nomark _)))))
  (pss_one (ps_ret pe_bl))
  pss_nil)
  (pss_cons (ps_if (PW.pt (pw_or (pt_not (pt_val (pe_cal c_law_same (hr.mono (by decide)) rfl (pa_cons (pe_cal c_turned (hr.mono (by decide)) rfl (pa_cons (pv 11) (pa_cons (pv 9) pa_nil))) (pa_cons (pv 11) pa_nil))))) (pw_or1 (pt_cmpR op_ne (pe_cmpR (op_eqD hr.units) (pe_cal c_turned (hr.mono (by decide)) rfl (pa_cons (pv 11) (pa_cons (pv 10) pa_nil))) (pv 6) (nomark _)) (pe_cmpR op_notIn_seq (pv 9) (pv 8) (by rfl)) (nomark _)))))
  (pss_one (ps_ret pe_bl))
  pss_nil)
  (pss_one (ps_if (PW.pt (pw_or (pt_cmpR op_ne (pe_cal c_steps_in (hr.mono (by decide)) rfl (pa_cons (pv 11) pa_nil)) (pe_cal c_steps_in (hr.mono (by decide)) rfl (pa_cons (pv 6) pa_nil)) (nomark _)) (pw_or (pt_cmpR (op_neD hr.units) (pe_cal c_names_in (hr.mono (by decide)) rfl (pa_cons (pv 11) pa_nil)) (pe_cal c_names_in (hr.mono (by decide)) rfl (pa_cons (pv 6) pa_nil)) (nomark _)) (pw_or1 (pt_cmpR op_ne (pe_callB (call_reprG hg hu) (by rfl) (Z "repr" (by decide)) (by decide +kernel) (pa_cons (pv 6) pa_nil)) (pv 7) (nomark _))))))
  (pss_one (ps_ret pe_bl))
  pss_nil)))))))))))))
  (pss_one (ps_ret pe_bl)))), ?_⟩
  have hnl : (ns.map V.int).length = ns.length := List.length_map _
  walk_at "go"
  intro wd hwd
  walk_at "rd"
  have S0 : SqL K (upd H wd (.lst [.str "set", .str "look", .str "set", .str "look", .str "back", .str "begin", .str "late", .str "copy", .str "in", .str "pass", .str "begin", .str "in"])) a (ns.map V.int) := sqL_new hwd hS
  have W0 : upd H wd (.lst [.str "set", .str "look", .str "set", .str "look", .str "back", .str "begin", .str "late", .str "copy", .str "in", .str "pass", .str "begin", .str "in"]) wd = some (.lst ((["set", "look", "set", "look", "back", "begin", "late", "copy", "in", "pass", "begin", "in"] : List Str).map V.str)) := upd_same
  generalize upd H wd (.lst [.str "set", .str "look", .str "set", .str "look", .str "back", .str "begin", .str "late", .str "copy", .str "in", .str "pass", .str "begin", .str "in"]) = H0 at S0 W0 ⊢
  rw [hnl]
  refine forR (fun i σ H' => ∃ y2 y3 y4 y5 y6 y7 y8 y9 y10 y11 y12 : Option V, σ = [some (.ref a), some (.ref wd), y2, y3, y4, y5, y6, y7, y8, y9, y10, y11, y12] ∧ Same H0 H') ⟨_, _, _, _, _, _, _, _, _, _, _, rfl, Same.refl _⟩ ?_ ?_
  · rintro i' σ Hi hi ⟨y2, y3, y4, y5, y6, y7, y8, y9, y10, y11, y12, rfl, sm0⟩
    have hi9 : i' < 9 := by
      split at hi <;> omega
    walk_at "rd"
    refine ⟨a, ns, _, rfl, rfl, sm0.seq S0, by omega, by omega, fun b l hb hl => ?_⟩
    have hb0 : H0 b = none := sm0.free hb
    have B1 : BoxAt (upd Hi b (.lst l)) b 0 := BoxAt.upd hl
    have K1 : Keep [b] Hi (upd Hi b (.lst l)) := Keep.refl.mut (by simp)
    have nwb : wd ≠ b := ne_of_none (sm0 _ _ W0) hb
    have W1 := K1 _ _ (by simp [nwb]) (sm0 _ _ W0)
    generalize upd Hi b (.lst l) = H1 at B1 K1 W1 ⊢
    walk_at "rd"
    intro t1 l1 ht10 ht11 hl1
    have B3 : BoxAt (upd H1 b (.lst l1)) b 1 := BoxAt.upd hl1
    have K3 : Keep [b] Hi (upd H1 b (.lst l1)) := K1.mut (by simp)
    have W3 := upd_old nwb W1 (o := .lst l1)
    generalize upd H1 b (.lst l1) = H3 at B3 K3 W3 ⊢
    walk_at "rd"
    refine iteC (fun x H4 => ∃ (a1 : Addr) (ns1 : List Str) (m : Int), x = .ref a1 ∧ Keep [b] H3 H4 ∧ H3 a1 = none ∧ H4 a1 = some (.lst (ns1.map V.str)) ∧ BoxAt H4 b m ∧ m ≤ 1000 ∧ (∀ z ∈ ns1, NameS z) ∧ ns1 ≠ [] ∧ ns1.length ≤ 100) (fun x H4 hx => ?_) (fun _ Q' q' => ?_) (fun _ Q' q' => ?_)
    · obtain ⟨a1, ns1, m1, rfl, k4, ha1, h41, B4, hm1, o1⟩ := hx
      have K4 := K3.trans k4
      have W4 := k4 _ _ (by simp [nwb]) W3
      have na1 : a1 ≠ b := B3.nn ha1
      walk_at "rd"
      intro e1 fe1
      have n_e1 : e1 ≠ b := B4.nn fe1
      have B5 := B4.new fe1 (o := .lst [.str "begin"])
      have K5 := K4.new fe1 (o := .lst [.str "begin"])
      have W_5 := upd_new fe1 W4 (o := .lst [.str "begin"])
      have a1_5 := upd_new fe1 h41 (o := .lst [.str "begin"])
      have e1_5 : upd H4 e1 (.lst [.str "begin"]) e1 = some (.lst [.str "begin"]) := upd_same
      generalize upd H4 e1 (.lst [.str "begin"]) = H5 at B5 K5 W_5 a1_5 e1_5 ⊢
      walk_at "rd"
      refine ⟨_, _, _, rfl, rfl, e1_5, by decide, by decide, by decide, ?_⟩
      rw [show (List.replicate (Int.toNat 3) [V.str "begin"]).flatten = (["begin", "begin", "begin"] : List Str).map V.str from rfl]
      intro e2 fe2
      have n_e2 : e2 ≠ b := B5.nn fe2
      have B6 := B5.new fe2 (o := .lst ((["begin", "begin", "begin"] : List Str).map V.str))
      have K6 := K5.new fe2 (o := .lst ((["begin", "begin", "begin"] : List Str).map V.str))
      have W_6 := upd_new fe2 W_5 (o := .lst ((["begin", "begin", "begin"] : List Str).map V.str))
      have a1_6 := upd_new fe2 a1_5 (o := .lst ((["begin", "begin", "begin"] : List Str).map V.str))
      have e1_6 := upd_new fe2 e1_5 (o := .lst ((["begin", "begin", "begin"] : List Str).map V.str))
      have e2_6 : upd H5 e2 (.lst ((["begin", "begin", "begin"] : List Str).map V.str)) e2 = some (.lst ((["begin", "begin", "begin"] : List Str).map V.str)) := upd_same
      generalize upd H5 e2 (.lst ((["begin", "begin", "begin"] : List Str).map V.str)) = H6 at B6 K6 W_6 a1_6 e1_6 e2_6 ⊢
      refine r_cat W_6 e2_6 (by simp) ?_
      rw [← List.map_append]
      intro a3 fa3
      have n_a3 : a3 ≠ b := B6.nn fa3
      have B7 := B6.new fa3 (o := .lst (((["set", "look", "set", "look", "back", "begin", "late", "copy", "in", "pass", "begin", "in"] : List Str) ++ (["begin", "begin", "begin"] : List Str)).map V.str))
      have K7 := K6.new fa3 (o := .lst (((["set", "look", "set", "look", "back", "begin", "late", "copy", "in", "pass", "begin", "in"] : List Str) ++ (["begin", "begin", "begin"] : List Str)).map V.str))
      have W_7 := upd_new fa3 W_6 (o := .lst (((["set", "look", "set", "look", "back", "begin", "late", "copy", "in", "pass", "begin", "in"] : List Str) ++ (["begin", "begin", "begin"] : List Str)).map V.str))
      have a1_7 := upd_new fa3 a1_6 (o := .lst (((["set", "look", "set", "look", "back", "begin", "late", "copy", "in", "pass", "begin", "in"] : List Str) ++ (["begin", "begin", "begin"] : List Str)).map V.str))
      have e1_7 := upd_new fa3 e1_6 (o := .lst (((["set", "look", "set", "look", "back", "begin", "late", "copy", "in", "pass", "begin", "in"] : List Str) ++ (["begin", "begin", "begin"] : List Str)).map V.str))
      have e2_7 := upd_new fa3 e2_6 (o := .lst (((["set", "look", "set", "look", "back", "begin", "late", "copy", "in", "pass", "begin", "in"] : List Str) ++ (["begin", "begin", "begin"] : List Str)).map V.str))
      have a3_7 : upd H6 a3 (.lst (((["set", "look", "set", "look", "back", "begin", "late", "copy", "in", "pass", "begin", "in"] : List Str) ++ (["begin", "begin", "begin"] : List Str)).map V.str)) a3 = some (.lst (((["set", "look", "set", "look", "back", "begin", "late", "copy", "in", "pass", "begin", "in"] : List Str) ++ (["begin", "begin", "begin"] : List Str)).map V.str)) := upd_same
      generalize upd H6 a3 (.lst (((["set", "look", "set", "look", "back", "begin", "late", "copy", "in", "pass", "begin", "in"] : List Str) ++ (["begin", "begin", "begin"] : List Str)).map V.str)) = H7 at B7 K7 W_7 a1_7 e1_7 e2_7 a3_7 ⊢
      walk_at "rd"
      intro a4 fa4
      have n_a4 : a4 ≠ b := B7.nn fa4
      have B8 := B7.new fa4 (o := .lst [.str "late", .str "in", .str "set", .str "late"])
      have K8 := K7.new fa4 (o := .lst [.str "late", .str "in", .str "set", .str "late"])
      have W_8 := upd_new fa4 W_7 (o := .lst [.str "late", .str "in", .str "set", .str "late"])
      have a1_8 := upd_new fa4 a1_7 (o := .lst [.str "late", .str "in", .str "set", .str "late"])
      have e1_8 := upd_new fa4 e1_7 (o := .lst [.str "late", .str "in", .str "set", .str "late"])
      have e2_8 := upd_new fa4 e2_7 (o := .lst [.str "late", .str "in", .str "set", .str "late"])
      have a3_8 := upd_new fa4 a3_7 (o := .lst [.str "late", .str "in", .str "set", .str "late"])
      have a4_8 : upd H7 a4 (.lst [.str "late", .str "in", .str "set", .str "late"]) a4 = some (.lst [.str "late", .str "in", .str "set", .str "late"]) := upd_same
      generalize upd H7 a4 (.lst [.str "late", .str "in", .str "set", .str "late"]) = H8 at B8 K8 W_8 a1_8 e1_8 e2_8 a3_8 a4_8 ⊢
      walk_at "rd"
      intro e5 fe5
      have n_e5 : e5 ≠ b := B8.nn fe5
      have B9 := B8.new fe5 (o := .lst [.ref wd, .ref a3, .ref a4])
      have K9 := K8.new fe5 (o := .lst [.ref wd, .ref a3, .ref a4])
      have W_9 := upd_new fe5 W_8 (o := .lst [.ref wd, .ref a3, .ref a4])
      have a1_9 := upd_new fe5 a1_8 (o := .lst [.ref wd, .ref a3, .ref a4])
      have e1_9 := upd_new fe5 e1_8 (o := .lst [.ref wd, .ref a3, .ref a4])
      have e2_9 := upd_new fe5 e2_8 (o := .lst [.ref wd, .ref a3, .ref a4])
      have a3_9 := upd_new fe5 a3_8 (o := .lst [.ref wd, .ref a3, .ref a4])
      have a4_9 := upd_new fe5 a4_8 (o := .lst [.ref wd, .ref a3, .ref a4])
      have e5_9 : upd H8 e5 (.lst [.ref wd, .ref a3, .ref a4]) e5 = some (.lst [.ref wd, .ref a3, .ref a4]) := upd_same
      generalize upd H8 e5 (.lst [.ref wd, .ref a3, .ref a4]) = H9 at B9 K9 W_9 a1_9 e1_9 e2_9 a3_9 a4_9 e5_9 ⊢
      walk_at "rd"
      intro t2 l2 ht20 ht21 hl2
      obtain ⟨ad, ws, hat, had, nad, o3⟩ : ∃ (ad : Addr) (ws : List Str), atI [V.ref wd, V.ref a3, V.ref a4] t2 = some (.ref ad) ∧ H9 ad = some (.lst (ws.map V.str)) ∧ ad ≠ b ∧ (∀ z ∈ ws, z ∈ (["set", "look", "back", "begin", "late", "copy", "in", "pass"] : List Str)) ∧ ws ≠ [] ∧ ws.length ≤ 100 := by
        have : t2 = 0 ∨ t2 = 1 ∨ t2 = 2 := by omega
        rcases this with rfl | rfl | rfl
        · exact ⟨wd, _, rfl, W_9, nwb, by decide +kernel, by simp, by decide⟩
        · exact ⟨a3, _, rfl, a3_9, n_a3, by decide +kernel, by simp, by decide⟩
        · exact ⟨a4, ["late", "in", "set", "late"], rfl, a4_9, n_a4, by decide +kernel, by simp, by decide⟩
      refine r_ixL (SqL.of (upd_old n_e5 e5_9)) hat ?_
      have B10 : BoxAt (upd H9 b (.lst l2)) b _ := BoxAt.upd hl2
      have K10 : Keep [b] Hi (upd H9 b (.lst l2)) := K9.mut (by simp)
      have a1_10 := upd_old na1 a1_9 (o := .lst l2)
      have d_10 := upd_old nad had (o := .lst l2)
      generalize upd H9 b (.lst l2) = H10 at B10 K10 a1_10 d_10 ⊢
      clear B1 B3 B4 B5 B6 B7 B8 B9 K1 K3 K4 K5 K6 K7 K8 K9 W1 W3 W4 W_5 W_6 W_7 W_8 W_9 a1_5 a1_6 a1_7 a1_8 a1_9 e1_5 e1_6 e1_7 e1_8 e1_9 e2_6 e2_7 e2_8 e2_9 a3_7 a3_8 a3_9 a4_8 a4_9 e5_9 k4 h41 had hat
      walk_at "rd"
      intro r fr
      have n1r : a1 ≠ r := ne_of_none a1_10 fr
      have ndr : ad ≠ r := ne_of_none d_10 fr
      have n_r : r ≠ b := B10.nn fr
      have B11 := B10.new fr (o := .lst [.int 150])
      have K11 := K10.new fr (o := .lst [.int 150])
      have a1_11 := upd_new fr a1_10 (o := .lst [.int 150])
      have d_11 := upd_new fr d_10 (o := .lst [.int 150])
      have r_11 : upd H10 r (.lst [.int 150]) r = some (.lst [.int 150]) := upd_same
      generalize upd H10 r (.lst [.int 150]) = H11 at B11 K11 a1_11 d_11 r_11 ⊢
      have hir : Hi r = none := K10.free (by simp [n_r]) fr
      walk_at "rd"
      intro t3 l3 ht30 ht31 hl3
      walk_at "rd"
      intro t4 l4 ht40 ht41 hl4
      have B12 : BoxAt (upd (upd H11 b (.lst l3)) b (.lst l4)) b _ := BoxAt.upd hl4
      have K12 : Keep [b] H11 (upd (upd H11 b (.lst l3)) b (.lst l4)) := (Keep.refl.mut (by simp)).mut (by simp)
      generalize upd (upd H11 b (.lst l3)) b (.lst l4) = H12 at B12 K12 ⊢
      walk_at "rd"
      have hcst : t4.toNat * cst t3.toNat ≤ 150 * cst 6 := Nat.mul_le_mul (by omega) (cst_mono (by omega))
      have hc6 : cst 6 = 15728640 := by decide
      have src : Src H12 b r a1 a1 ad ns1 ns1 ws := ⟨K12 _ _ (by simp [na1]) a1_11, K12 _ _ (by simp [na1]) a1_11, K12 _ _ (by simp [nad]) d_11, ⟨na1, n1r⟩, ⟨na1, n1r⟩, ⟨nad, ndr⟩, n_r.symm, o1, o1, o3⟩
      refine ⟨t3.toNat + 1, by omega, ?_⟩
      walk_at "rd"
      refine ⟨b, r, a1, a1, ad, ns1, ns1, ws, _, 150, t4.toNat, rfl, rfl, rfl, rfl, rfl, congrArg V.int (by omega), congrArg V.int (by omega), by omega, by omega, src, B12, ?_, K12 _ _ (by simp [n_r]) r_11, by omega, fun v p Hp k' kp hbp hrp hk0 hcp hd okp dpp => ?_⟩
      · rw [Nat.add_sub_cancel]
        omega
      have smp : Same H0 Hp := by
        refine same_keep (M := [b, r]) sm0 (((K11.trans K12).mono (by simp)).trans kp) fun m hm => ?_
        rcases List.mem_cons.mp hm with rfl | hm
        · exact hb
        · rw [List.mem_singleton.mp hm]
          exact hir
      have dp9 : Deep 9 p := dpp.mono (by omega)
      have hcl : countL p ≤ 150 := by omega
      clear B10 B11 B12 K10 K11 K12 a1_10 a1_11 d_10 d_11 r_11 src kp hbp hrp hl hl1 hl2 hl3 hl4
      have rep : ∀ (H' : L2.Hp) (Q' : VK), DT H' v (progD p) → Q' (.str (PyData.shown (progD p))) H' → rReprG K [v] H' Q' := fun H' Q' hd' q' => by
        refine ⟨v, _, _, rfl, rfl, hd'.dp, ?_, ?_, ?_, ?_, q'⟩
        · simp only [PyData.showable]
          exact able_steps okp
        · refine PyData.hasDict_of_canLay _ ?_
          simp only [PyData.canLay0]
          exact okp.lay
        · have := deep_depth okp dp9
          simp only [PyData.depth]
          omega
        · have : (PyData.shown (progD p)).length ≤ 105003 := Nat.le_trans (shown_prog okp) (by omega)
          exact Nat.le_trans this (by decide)
      walk_at "rd"
      refine rep _ _ hd ?_
      walk_at "rd"
      refine ⟨p, 9, hd, okp, dp9, by omega, by omega, fun fb vs H13 s13 hfb hf hfd => ?_⟩
      walk_at "rd"
      have hvl : vs.length = countL p := by
        have := hfd.len
        rw [dataL_map, List.length_map, flatL_len] at this
        exact this
      refine lcL fun D hD => ⟨fun i H' => Same H13 H' ∧ H' D = some (.lst (((flatL p).take i).map fun s => V.str s.word)), ⟨same_new hD, upd_same⟩, fun i H' _ h => h.1.seq (SqL.of hf), ?_, ?_⟩
      · rintro i x Hj hx ⟨sj, hDj⟩
        obtain ⟨st, hst, hdx⟩ := prog_get hfd hx
        obtain ⟨c, ys, rfl, hc0, hcl', g0, _, gn⟩ := step_at (hdx.mono (.same sj))
        walk_at "rd"
        refine r_ixT (SqT.of hc0) g0 ?_
        have h3 : ((flatL p).take i).length ≤ (flatL p).length := by
          rw [List.length_take]
          omega
        have h4 := flatL_len p
        refine r_lcE hDj (by rw [List.length_map]; omega) ⟨((Same.keep (M := []) sj).own hD).same, ?_⟩
        rw [upd_same, List.take_add_one, hst, List.map_append]
        rfl
      · rintro H14 ⟨s14, hD14⟩
        have hlf : vs.length = (flatL p).length := by rw [flatL_len, hvl]
        rw [hlf, List.take_length] at hD14
        have hdv := hd.mono (.same (s13.trans s14))
        have sm14 : Same H0 H14 := (smp.trans s13).trans s14
        clear hf hfd hfb hd smp
        rw [words_strs] at hD14
        walk_at "rd"
        intro u1 fu1
        have D15 := upd_new fu1 hD14 (o := .tup [.str (tw true), .str (tw false)])
        have P15 := hdv.mono (.same (same_new fu1 (o := .tup [.str (tw true), .str (tw false)])))
        have s15 := sm14.trans (same_new fu1 (o := .tup [.str (tw true), .str (tw false)]))
        have U15 : upd H14 u1 (.tup [.str "late", .str "begin"]) u1 = some (.tup [.str (tw true), .str (tw false)]) := upd_same
        generalize hH15 : upd H14 u1 (.tup [.str "late", .str "begin"]) = H15 at U15 ⊢
        replace D15 : H15 D = _ := hH15 ▸ D15
        replace P15 : DT H15 v (progD p) := hH15 ▸ P15
        replace s15 : Same H0 H15 := hH15 ▸ s15
        walk_at "rd"
        intro u2 fu2
        have D16 := upd_new fu2 D15 (o := .tup [.str (tw false), .str (tw true)])
        have P16 := P15.mono (.same (same_new fu2 (o := .tup [.str (tw false), .str (tw true)])))
        have s16 := s15.trans (same_new fu2 (o := .tup [.str (tw false), .str (tw true)]))
        have U16 := upd_new fu2 U15 (o := .tup [.str (tw false), .str (tw true)])
        have V16 : upd H15 u2 (.tup [.str "begin", .str "late"]) u2 = some (.tup [.str (tw false), .str (tw true)]) := upd_same
        generalize hH16 : upd H15 u2 (.tup [.str "begin", .str "late"]) = H16 at V16 ⊢
        replace D16 : H16 D = _ := hH16 ▸ D16
        replace P16 : DT H16 v (progD p) := hH16 ▸ P16
        replace s16 : Same H0 H16 := hH16 ▸ s16
        replace U16 : H16 u1 = some (.tup [.str (tw true), .str (tw false)]) := hH16 ▸ U16
        walk_at "rd"
        intro u3 fu3
        have D17 := upd_new fu3 D16 (o := .tup [.ref u1, .ref u2])
        have P17 := P16.mono (.same (same_new fu3 (o := .tup [.ref u1, .ref u2])))
        have s17 := s16.trans (same_new fu3 (o := .tup [.ref u1, .ref u2]))
        have U17 := upd_new fu3 U16 (o := .tup [.ref u1, .ref u2])
        have V17 := upd_new fu3 V16 (o := .tup [.ref u1, .ref u2])
        have W17 : upd H16 u3 (.tup [.ref u1, .ref u2]) u3 = some (.tup [.ref u1, .ref u2]) := upd_same
        generalize upd H16 u3 (.tup [.ref u1, .ref u2]) = H17 at D17 P17 s17 U17 V17 W17 ⊢
        walk_at "rd"
        refine forT (xs := [.ref u1, .ref u2]) (fun i σ H' => ∃ z9 z10 z11 z12 : Option V, σ = [some (.ref a), some (.ref wd), some (.int (0 + (i' : Int))), some (.ref b), some (.ref a1), some (.ref ad), some v, some (.str (PyData.shown (progD p))), some (.ref D), z9, z10, z11, z12] ∧ Same H17 H') ⟨_, _, _, _, rfl, Same.refl _⟩ ?_ ?_ ?_
        · rintro i σ H' _ ⟨_, _, _, _, _, s'⟩
          exact sqT_same s' (SqT.of W17)
        · rintro i x σ Hk hx ⟨z9, z10, z11, z12, rfl, sk⟩
          obtain ⟨u, l, rfl, hu0⟩ : ∃ (u : Addr) (l : Bool), x = .ref u ∧ Hk u = some (.tup [.str (tw l), .str (tw (!l))]) := by
            match i, hx with
            | 0, hx =>
              cases hx
              exact ⟨u1, true, rfl, sk _ _ U17⟩
            | 1, hx =>
              cases hx
              exact ⟨u2, false, rfl, sk _ _ V17⟩
            | i + 2, hx => simp at hx
          have PK := P17.mono (.same sk)
          have okt := turnL_ok l p okp
          have dpt := turnL_deep l dp9
          have hct := turnL_count l p
          walk_at "rd"
          refine ⟨p, l, PK, dp9, by omega, rfl, fun v2 H2 s2 hv2 => ?_⟩
          walk_at "rd"
          refine ⟨p, l, PK.mono (.same s2), dp9, by omega, rfl, fun v3 H3 s3 hv3 => ?_⟩
          have hv2' := hv2.mono (.same s3)
          walk_at "rd"
          refine ⟨progD (turnL l p), hv2'.dp, hv3.dp, (wd_prog okt dpt (by omega)).lv, fun H4 s4 => ?_⟩
          walk_at "rd"
          refine ⟨progD (turnL l p), (hv2'.mono (.same s4)).dp, wd_prog okt dpt (by omega), fun H5 s5 => ?_⟩
          rw [OkL.isProg okt]
          walk_at "rd"
          refine r_notB ?_
          walk_at "rd"
          have P5 := PK.mono (.same (((s2.trans s3).trans s4).trans s5))
          have V5 := (hv2'.mono (.same s4)).mono (.same s5)
          have k5 := ((s2.trans s3).trans s4).trans s5
          refine ⟨turnL l p, l, V5, dpt, by omega, rfl, fun v4 H6 s6 hv4 => ?_⟩
          rw [turnL_turnL] at hv4
          walk_at "rd"
          refine ⟨progD (turnL l p), hv4.dp, (V5.mono (.same s6)).dp, (wd_prog okt dpt (by omega)).lv, fun H7 s7 => ?_⟩
          have k7 := (k5.trans s6).trans s7
          have D7 := k7 _ _ (sk _ _ D17)
          have P7 := PK.mono (.same k7)
          have V7 := (V5.mono (.same s6)).mono (.same s7)
          walk_at "rd"
          refine ⟨turnL l p, !l, V7, dpt, by omega, rfl, fun v5 H8 s8 hv5 => ?_⟩
          rw [turnL_turnL] at hv5
          walk_at "rd"
          refine ⟨progD (turnL (!l) p), progD p, hv5.dp, (P7.mono (.same s8)).dp, shapedT (turnL_ok _ p okp) (turnL_deep _ dp9) (by omega), shapedT okp dp9 (by omega), ?_⟩
          walk_at "rd"
          refine r_niL (SqL.of (s8 _ _ D7)) rfl (flat_strs _) ?_
          rw [prog_eqv, inV_strs, Bool.not_not]
          walk_at "rd"
          refine r_iteN (fun h => absurd rfl h) (fun _ => ?_)
          have P8 := P7.mono (.same s8)
          have V8 := V7.mono (.same s8)
          walk_at "rd"
          refine ⟨turnL l p, V8, dpt, by omega, fun H9 s9 => ?_⟩
          walk_at "rd"
          refine ⟨p, P8.mono (.same s9), dp9, by omega, fun H10 s10 => ?_⟩
          rw [hct]
          walk_at "rd"
          refine r_iteN (fun h => absurd rfl h) (fun _ => ?_)
          have P10 := P8.mono (.same (s9.trans s10))
          have V10 := V8.mono (.same (s9.trans s10))
          walk_at "rd"
          refine ⟨turnL l p, V10, dpt, by omega, fun m1 H11 s11 _ hm1 => ?_⟩
          rw [turnL_namesOf] at hm1
          walk_at "rd"
          refine ⟨p, P10.mono (.same s11), dp9, by omega, fun m2 H12 s12 _ hm2 => ?_⟩
          walk_at "rd"
          refine ⟨.list ((addNames [] (namesOf p)).map .str), .list ((addNames [] (namesOf p)).map .str), .lst (.of (s12 _ _ hm1)) (dp_strs _), .lst (.of hm2) (dp_strs _), strs_shaped (names_ok2 okp), strs_shaped (names_ok2 okp), ?_⟩
          rw [strs_eqv]
          walk_at "rd"
          refine rep _ _ (P10.mono (.same (s11.trans s12))) ?_
          walk_at "rd"
          refine r_iteN (fun h => absurd rfl h) (fun _ => ?_)
          walk_at "rd"
          exact ⟨_, _, _, _, rfl, (((((sk.trans k7).trans s8).trans s9).trans s10).trans s11).trans s12⟩
        · rintro σ Hk ⟨z9, z10, z11, z12, rfl, sk⟩
          exact ⟨_, _, _, _, _, _, _, _, _, _, _, rfl, s17.trans sk⟩
    · walk_at "rd"
      refine ⟨b, 3, _, rfl, rfl, by omega, B3, by omega, fun a1 ns1 H4 k4 ha1 h41 B4 hN1 => ?_⟩
      refine q' _ _ ⟨a1, ns1, _, rfl, k4, ha1, h41, B4, by omega, hN1.2.1, ?_, by rw [hN1.1]; omega⟩
      intro e
      have := hN1.1
      rw [e] at this
      cases this
    · walk_at "rd"
      intro c1 hc1
      rw [show cutV (List.map V.str ["set", "look", "set", "look", "back", "begin", "late", "copy", "in", "pass", "begin", "in"]) (some 1) none = List.map V.str ["look", "set", "look", "back", "begin", "late", "copy", "in", "pass", "begin", "in"] from cutTail _ _]
      walk_at "rd"
      intro c2 hc2
      refine r_cat (upd_new hc2 upd_same) upd_same (by simp) ?_
      intro a1 ha1
      have f1 := upd_free ha1
      have f2 := upd_free f1.1
      refine q' _ _ ⟨a1, (["look", "set", "look", "back", "begin", "late", "copy", "in", "pass", "begin", "in"] : List Str) ++ (["pass"] : List Str), _, rfl, ((Keep.refl.new hc1).new hc2).new ha1, f2.1, ?_, ((B3.new hc1).new hc2).new ha1, by omega, names12, by simp, by decide⟩
      exact upd_same
  · rintro σ Hi ⟨y2, y3, y4, y5, y6, y7, y8, y9, y10, y11, y12, rfl, sm0⟩
    walk_at "rd"
    exact q _
end
end A

namespace A
inductive StrsT : List Value → List Str → Prop where
  | nil : StrsT [] []
  | cons {z : Str} {t : Tok} {r : List Value} {zs : List Str} : StrsT r zs → StrsT (.str z t :: r) (z :: zs)
theorem StrsT.vals : ∀ {us : List Value} {zs : List Str}, StrsT us zs → Vals (zs.map V.str) us
  | _, _, .nil => .nil
  | _, _, .cons h => .cons ⟨_, rfl⟩ h.vals
theorem StrsT.len : ∀ {us : List Value} {zs : List Str}, StrsT us zs → us.length = zs.length
  | _, _, .nil => rfl
  | _, _, .cons h => congrArg (· + 1) h.len
theorem tup_sq {K : PySem.W.Frag} {t : Addr} {od : Option Addr} {its : Array Value} {n : Nat} {sl : Array (Option Value)} {zs : List Str} (h : K.lookup t = some ⟨.type "tuple", od, .seq its n, sl⟩) (v : StrsT its.toList zs) (hz : zs.length ≤ 10) : ∀ H, SqT K H t (zs.map V.str) := fun H => by
  refine .inr ⟨_, its, n, h, rfl, rfl, ?_, v.vals⟩
  have := v.len
  rw [Array.length_toList] at this
  exact Nat.le_trans (show its.size ≤ 10 by omega) (by decide)
theorem all_mk {l : PySem.W.OpenLaw} {w : World} {K : PySem.W.Frag} {h : Heap} {mg : Str → Option Value} {fa : Addr} (X : K.In h) (G : h.Ns mainGlobals mg) (hfa : mg "law" = some (.ref fa))
    {f0 : Addr} {od0 an0 : Option Addr} {sl0 : Array (Option Value)} {oc0 kV0 dc0 pm0 cd0 ct0 : Value}
    (a0 : PySem.W.nsIn K mainGlobals "is_name" = some (some (.ref f0))) (l0 : K.lookup f0 = some ⟨oc0, od0, .func (PySem.W.fnOf "is_name" "is_name" (defArgs s_is_name) (defBody s_is_name) (defScope s_is_name) .none kV0 dc0 pm0 an0 cd0 ct0), sl0⟩) (c0 : PySem.W.codeIn K cd0 "is_name" = true) (k0 : PySem.W.keepIn K (.ref f0) = true)
    {f1 : Addr} {od1 an1 : Option Addr} {sl1 : Array (Option Value)} {oc1 kV1 dc1 pm1 cd1 ct1 : Value}
    (a1 : PySem.W.nsIn K mainGlobals "is_number" = some (some (.ref f1))) (l1 : K.lookup f1 = some ⟨oc1, od1, .func (PySem.W.fnOf "is_number" "is_number" (defArgs s_is_number) (defBody s_is_number) (defScope s_is_number) .none kV1 dc1 pm1 an1 cd1 ct1), sl1⟩) (c1 : PySem.W.codeIn K cd1 "is_number" = true) (k1 : PySem.W.keepIn K (.ref f1) = true)
    {f2 : Addr} {od2 an2 : Option Addr} {sl2 : Array (Option Value)} {oc2 kV2 dc2 pm2 cd2 ct2 : Value}
    (a2 : PySem.W.nsIn K mainGlobals "is_value" = some (some (.ref f2))) (l2 : K.lookup f2 = some ⟨oc2, od2, .func (PySem.W.fnOf "is_value" "is_value" (defArgs s_is_value) (defBody s_is_value) (defScope s_is_value) .none kV2 dc2 pm2 an2 cd2 ct2), sl2⟩) (c2 : PySem.W.codeIn K cd2 "is_value" = true) (k2 : PySem.W.keepIn K (.ref f2) = true)
    {f3 : Addr} {od3 an3 : Option Addr} {sl3 : Array (Option Value)} {oc3 kV3 dc3 pm3 cd3 ct3 : Value}
    (a3 : PySem.W.nsIn K mainGlobals "part_fits" = some (some (.ref f3))) (l3 : K.lookup f3 = some ⟨oc3, od3, .func (PySem.W.fnOf "part_fits" "part_fits" (defArgs s_part_fits) (defBody s_part_fits) (defScope s_part_fits) .none kV3 dc3 pm3 an3 cd3 ct3), sl3⟩) (c3 : PySem.W.codeIn K cd3 "part_fits" = true) (k3 : PySem.W.keepIn K (.ref f3) = true)
    {f4 : Addr} {od4 an4 : Option Addr} {sl4 : Array (Option Value)} {oc4 kV4 dc4 pm4 cd4 ct4 : Value}
    (a4 : PySem.W.nsIn K mainGlobals "is_step" = some (some (.ref f4))) (l4 : K.lookup f4 = some ⟨oc4, od4, .func (PySem.W.fnOf "is_step" "is_step" (defArgs s_is_step) (defBody s_is_step) (defScope s_is_step) .none kV4 dc4 pm4 an4 cd4 ct4), sl4⟩) (c4 : PySem.W.codeIn K cd4 "is_step" = true) (k4 : PySem.W.keepIn K (.ref f4) = true)
    {f5 : Addr} {od5 an5 : Option Addr} {sl5 : Array (Option Value)} {oc5 kV5 dc5 pm5 cd5 ct5 : Value}
    (a5 : PySem.W.nsIn K mainGlobals "is_program" = some (some (.ref f5))) (l5 : K.lookup f5 = some ⟨oc5, od5, .func (PySem.W.fnOf "is_program" "is_program" (defArgs s_is_program) (defBody s_is_program) (defScope s_is_program) .none kV5 dc5 pm5 an5 cd5 ct5), sl5⟩) (c5 : PySem.W.codeIn K cd5 "is_program" = true) (k5 : PySem.W.keepIn K (.ref f5) = true)
    {f6 : Addr} {od6 an6 : Option Addr} {sl6 : Array (Option Value)} {oc6 kV6 dc6 pm6 cd6 ct6 : Value}
    (a6 : PySem.W.nsIn K mainGlobals "inner_of" = some (some (.ref f6))) (l6 : K.lookup f6 = some ⟨oc6, od6, .func (PySem.W.fnOf "inner_of" "inner_of" (defArgs s_inner_of) (defBody s_inner_of) (defScope s_inner_of) .none kV6 dc6 pm6 an6 cd6 ct6), sl6⟩) (c6 : PySem.W.codeIn K cd6 "inner_of" = true) (k6 : PySem.W.keepIn K (.ref f6) = true)
    {f7 : Addr} {od7 an7 : Option Addr} {sl7 : Array (Option Value)} {oc7 kV7 dc7 pm7 cd7 ct7 : Value}
    (a7 : PySem.W.nsIn K mainGlobals "steps_in" = some (some (.ref f7))) (l7 : K.lookup f7 = some ⟨oc7, od7, .func (PySem.W.fnOf "steps_in" "steps_in" (defArgs s_steps_in) (defBody s_steps_in) (defScope s_steps_in) .none kV7 dc7 pm7 an7 cd7 ct7), sl7⟩) (c7 : PySem.W.codeIn K cd7 "steps_in" = true) (k7 : PySem.W.keepIn K (.ref f7) = true)
    {f8 : Addr} {od8 an8 : Option Addr} {sl8 : Array (Option Value)} {oc8 kV8 dc8 pm8 cd8 ct8 : Value}
    (a8 : PySem.W.nsIn K mainGlobals "gather" = some (some (.ref f8))) (l8 : K.lookup f8 = some ⟨oc8, od8, .func (PySem.W.fnOf "gather" "gather" (defArgs s_gather) (defBody s_gather) (defScope s_gather) .none kV8 dc8 pm8 an8 cd8 ct8), sl8⟩) (c8 : PySem.W.codeIn K cd8 "gather" = true) (k8 : PySem.W.keepIn K (.ref f8) = true)
    {f9 : Addr} {od9 an9 : Option Addr} {sl9 : Array (Option Value)} {oc9 kV9 dc9 pm9 cd9 ct9 : Value}
    (a9 : PySem.W.nsIn K mainGlobals "names_in" = some (some (.ref f9))) (l9 : K.lookup f9 = some ⟨oc9, od9, .func (PySem.W.fnOf "names_in" "names_in" (defArgs s_names_in) (defBody s_names_in) (defScope s_names_in) .none kV9 dc9 pm9 an9 cd9 ct9), sl9⟩) (c9 : PySem.W.codeIn K cd9 "names_in" = true) (k9 : PySem.W.keepIn K (.ref f9) = true)
    {f10 : Addr} {od10 an10 : Option Addr} {sl10 : Array (Option Value)} {oc10 kV10 dc10 pm10 cd10 ct10 : Value}
    (a10 : PySem.W.nsIn K mainGlobals "turned_step" = some (some (.ref f10))) (l10 : K.lookup f10 = some ⟨oc10, od10, .func (PySem.W.fnOf "turned_step" "turned_step" (defArgs s_turned_step) (defBody s_turned_step) (defScope s_turned_step) .none kV10 dc10 pm10 an10 cd10 ct10), sl10⟩) (c10 : PySem.W.codeIn K cd10 "turned_step" = true) (k10 : PySem.W.keepIn K (.ref f10) = true)
    {f11 : Addr} {od11 an11 : Option Addr} {sl11 : Array (Option Value)} {oc11 kV11 dc11 pm11 cd11 ct11 : Value}
    (a11 : PySem.W.nsIn K mainGlobals "turned" = some (some (.ref f11))) (l11 : K.lookup f11 = some ⟨oc11, od11, .func (PySem.W.fnOf "turned" "turned" (defArgs s_turned) (defBody s_turned) (defScope s_turned) .none kV11 dc11 pm11 an11 cd11 ct11), sl11⟩) (c11 : PySem.W.codeIn K cd11 "turned" = true) (k11 : PySem.W.keepIn K (.ref f11) = true)
    {f12 : Addr} {od12 an12 : Option Addr} {sl12 : Array (Option Value)} {oc12 kV12 dc12 pm12 cd12 ct12 : Value}
    (a12 : PySem.W.nsIn K mainGlobals "_law_cell_at" = some (some (.ref f12))) (l12 : K.lookup f12 = some ⟨oc12, od12, .func (PySem.W.fnOf "_law_cell_at" "_law_cell_at" (defArgs s_law_cell_at) (defBody s_law_cell_at) (defScope s_law_cell_at) .none kV12 dc12 pm12 an12 cd12 ct12), sl12⟩) (c12 : PySem.W.codeIn K cd12 "_law_cell_at" = true) (k12 : PySem.W.keepIn K (.ref f12) = true)
    {f13 : Addr} {od13 an13 : Option Addr} {sl13 : Array (Option Value)} {oc13 kV13 dc13 pm13 cd13 ct13 : Value}
    (a13 : PySem.W.nsIn K mainGlobals "_law_box" = some (some (.ref f13))) (l13 : K.lookup f13 = some ⟨oc13, od13, .func (PySem.W.fnOf "_law_box" "_law_box" (defArgs s_law_box) (defBody s_law_box) (defScope s_law_box) .none kV13 dc13 pm13 an13 cd13 ct13), sl13⟩) (c13 : PySem.W.codeIn K cd13 "_law_box" = true) (k13 : PySem.W.keepIn K (.ref f13) = true)
    {f14 : Addr} {od14 an14 : Option Addr} {sl14 : Array (Option Value)} {oc14 kV14 dc14 pm14 cd14 ct14 : Value}
    (a14 : PySem.W.nsIn K mainGlobals "_law_take" = some (some (.ref f14))) (l14 : K.lookup f14 = some ⟨oc14, od14, .func (PySem.W.fnOf "_law_take" "_law_take" (defArgs s_law_take) (defBody s_law_take) (defScope s_law_take) .none kV14 dc14 pm14 an14 cd14 ct14), sl14⟩) (c14 : PySem.W.codeIn K cd14 "_law_take" = true) (k14 : PySem.W.keepIn K (.ref f14) = true)
    {f15 : Addr} {od15 an15 : Option Addr} {sl15 : Array (Option Value)} {oc15 kV15 dc15 pm15 cd15 ct15 : Value}
    (a15 : PySem.W.nsIn K mainGlobals "_law_names" = some (some (.ref f15))) (l15 : K.lookup f15 = some ⟨oc15, od15, .func (PySem.W.fnOf "_law_names" "_law_names" (defArgs s_law_names) (defBody s_law_names) (defScope s_law_names) .none kV15 dc15 pm15 an15 cd15 ct15), sl15⟩) (c15 : PySem.W.codeIn K cd15 "_law_names" = true) (k15 : PySem.W.keepIn K (.ref f15) = true)
    {f16 : Addr} {od16 an16 : Option Addr} {sl16 : Array (Option Value)} {oc16 kV16 dc16 pm16 cd16 ct16 : Value}
    (a16 : PySem.W.nsIn K mainGlobals "_law_value" = some (some (.ref f16))) (l16 : K.lookup f16 = some ⟨oc16, od16, .func (PySem.W.fnOf "_law_value" "_law_value" (defArgs s_law_value) (defBody s_law_value) (defScope s_law_value) .none kV16 dc16 pm16 an16 cd16 ct16), sl16⟩) (c16 : PySem.W.codeIn K cd16 "_law_value" = true) (k16 : PySem.W.keepIn K (.ref f16) = true)
    {f17 : Addr} {od17 an17 : Option Addr} {sl17 : Array (Option Value)} {oc17 kV17 dc17 pm17 cd17 ct17 : Value}
    (a17 : PySem.W.nsIn K mainGlobals "_law_same" = some (some (.ref f17))) (l17 : K.lookup f17 = some ⟨oc17, od17, .func (PySem.W.fnOf "_law_same" "_law_same" (defArgs s_law_same) (defBody s_law_same) (defScope s_law_same) .none kV17 dc17 pm17 an17 cd17 ct17), sl17⟩) (c17 : PySem.W.codeIn K cd17 "_law_same" = true) (k17 : PySem.W.keepIn K (.ref f17) = true)
    {f18 : Addr} {od18 an18 : Option Addr} {sl18 : Array (Option Value)} {oc18 kV18 dc18 pm18 cd18 ct18 : Value}
    (a18 : PySem.W.nsIn K mainGlobals "_law_step" = some (some (.ref f18))) (l18 : K.lookup f18 = some ⟨oc18, od18, .func (PySem.W.fnOf "_law_step" "_law_step" (defArgs s_law_step) (defBody s_law_step) (defScope s_law_step) .none kV18 dc18 pm18 an18 cd18 ct18), sl18⟩) (c18 : PySem.W.codeIn K cd18 "_law_step" = true) (k18 : PySem.W.keepIn K (.ref f18) = true)
    {f19 : Addr} {od19 an19 : Option Addr} {sl19 : Array (Option Value)} {oc19 kV19 dc19 pm19 cd19 ct19 : Value}
    (a19 : PySem.W.nsIn K mainGlobals "_law_program" = some (some (.ref f19))) (l19 : K.lookup f19 = some ⟨oc19, od19, .func (PySem.W.fnOf "_law_program" "_law_program" (defArgs s_law_program) (defBody s_law_program) (defScope s_law_program) .none kV19 dc19 pm19 an19 cd19 ct19), sl19⟩) (c19 : PySem.W.codeIn K cd19 "_law_program" = true) (k19 : PySem.W.keepIn K (.ref f19) = true)
    {f20 : Addr} {od20 an20 : Option Addr} {sl20 : Array (Option Value)} {oc20 kV20 dc20 pm20 cd20 ct20 : Value}
    (a20 : PySem.W.nsIn K mainGlobals "_law_flat" = some (some (.ref f20))) (l20 : K.lookup f20 = some ⟨oc20, od20, .func (PySem.W.fnOf "_law_flat" "_law_flat" (defArgs s_law_flat) (defBody s_law_flat) (defScope s_law_flat) .none kV20 dc20 pm20 an20 cd20 ct20), sl20⟩) (c20 : PySem.W.codeIn K cd20 "_law_flat" = true) (k20 : PySem.W.keepIn K (.ref f20) = true)
    {f21 : Addr} {od21 an21 : Option Addr} {sl21 : Array (Option Value)} {oc21 kV21 dc21 pm21 cd21 ct21 : Value}
    (a21 : PySem.W.nsIn K mainGlobals "_law_turned" = some (some (.ref f21))) (l21 : K.lookup f21 = some ⟨oc21, od21, .func (PySem.W.fnOf "_law_turned" "_law_turned" (defArgs s_law_turned) (defBody s_law_turned) (defScope s_law_turned) .none kV21 dc21 pm21 an21 cd21 ct21), sl21⟩) (c21 : PySem.W.codeIn K cd21 "_law_turned" = true) (k21 : PySem.W.keepIn K (.ref f21) = true)
    {f22 : Addr} {od22 an22 : Option Addr} {sl22 : Array (Option Value)} {oc22 kV22 dc22 pm22 cd22 ct22 : Value}
    (a22 : PySem.W.nsIn K mainGlobals "law" = some (some (.ref f22))) (l22 : K.lookup f22 = some ⟨oc22, od22, .func (PySem.W.fnOf "law" "law" (defArgs s_law) (defBody s_law) (defScope s_law) .none kV22 dc22 pm22 an22 cd22 ct22), sl22⟩) (c22 : PySem.W.codeIn K cd22 "law" = true) (k22 : PySem.W.keepIn K (.ref f22) = true)
    (z0 : PySem.W.nsIn K mainGlobals "len" = some none)
    (z1 : PySem.W.nsIn K mainGlobals "abs" = some none)
    (z2 : PySem.W.nsIn K mainGlobals "int" = some none)
    (z3 : PySem.W.nsIn K mainGlobals "range" = some none)
    (z4 : PySem.W.nsIn K mainGlobals "divmod" = some none)
    (z5 : PySem.W.nsIn K mainGlobals "isinstance" = some none)
    (z6 : PySem.W.nsIn K mainGlobals "str" = some none)
    (z7 : PySem.W.nsIn K mainGlobals "list" = some none)
    (z8 : PySem.W.nsIn K mainGlobals "tuple" = some none)
    (z9 : PySem.W.nsIn K mainGlobals "repr" = some none)
    (z10 : PySem.W.nsIn K mainGlobals "min" = some none)
    (z11 : PySem.W.nsIn K mainGlobals "max" = some none)
    (z12 : PySem.W.nsIn K mainGlobals "sum" = some none)
    (z13 : PySem.W.nsIn K mainGlobals "all" = some none)
    (z14 : PySem.W.nsIn K mainGlobals "any" = some none)
    (z15 : PySem.W.nsIn K mainGlobals "zip" = some none)
    (z16 : PySem.W.nsIn K mainGlobals "enumerate" = some none)
    (z17 : PySem.W.nsIn K mainGlobals "bool" = some none)
    {tl tm : Tok} {ps : Addr} {es : Array DictEntry} {ne : Nat} {t0 t1 t2 t3 t4 t5 t6 t7 : Addr}
    (gl : PySem.W.nsIn K mainGlobals "LETTERS" = some (some (.str lettersS tl))) (gm : PySem.W.nsIn K mainGlobals "MOST_LETTERS" = some (some (.int 8 tm))) (gs : PySem.W.nsIn K mainGlobals "SORTS" = some (some (.ref ps)))
    (gd : K.lookup ps = some ⟨.type "dict", none, .dict es ne, #[]⟩) (gw : (ps == sysModules) = false) (gk : PySem.W.KeysLit w.params es.toList)
    {od_0 : Option Addr} {its0 : Array Value} {nn0 : Nat} {sl_0 : Array (Option Value)} (q0 : PySem.W.nsIn K ps "set" = some (some (.ref t0))) (r0 : K.lookup t0 = some ⟨.type "tuple", od_0, .seq its0 nn0, sl_0⟩) (v0 : StrsT its0.toList ["name", "value", "name"])
    {od_1 : Option Addr} {its1 : Array Value} {nn1 : Nat} {sl_1 : Array (Option Value)} (q1 : PySem.W.nsIn K ps "look" = some (some (.ref t1))) (r1 : K.lookup t1 = some ⟨.type "tuple", od_1, .seq its1 nn1, sl_1⟩) (v1 : StrsT its1.toList ["name"])
    {od_2 : Option Addr} {its2 : Array Value} {nn2 : Nat} {sl_2 : Array (Option Value)} (q2 : PySem.W.nsIn K ps "back" = some (some (.ref t2))) (r2 : K.lookup t2 = some ⟨.type "tuple", od_2, .seq its2 nn2, sl_2⟩) (v2 : StrsT its2.toList ["name"])
    {od_3 : Option Addr} {its3 : Array Value} {nn3 : Nat} {sl_3 : Array (Option Value)} (q3 : PySem.W.nsIn K ps "begin" = some (some (.ref t3))) (r3 : K.lookup t3 = some ⟨.type "tuple", od_3, .seq its3 nn3, sl_3⟩) (v3 : StrsT its3.toList ["program"])
    {od_4 : Option Addr} {its4 : Array Value} {nn4 : Nat} {sl_4 : Array (Option Value)} (q4 : PySem.W.nsIn K ps "late" = some (some (.ref t4))) (r4 : K.lookup t4 = some ⟨.type "tuple", od_4, .seq its4 nn4, sl_4⟩) (v4 : StrsT its4.toList ["program"])
    {od_5 : Option Addr} {its5 : Array Value} {nn5 : Nat} {sl_5 : Array (Option Value)} (q5 : PySem.W.nsIn K ps "copy" = some (some (.ref t5))) (r5 : K.lookup t5 = some ⟨.type "tuple", od_5, .seq its5 nn5, sl_5⟩) (v5 : StrsT its5.toList ["name"])
    {od_6 : Option Addr} {its6 : Array Value} {nn6 : Nat} {sl_6 : Array (Option Value)} (q6 : PySem.W.nsIn K ps "in" = some (some (.ref t6))) (r6 : K.lookup t6 = some ⟨.type "tuple", od_6, .seq its6 nn6, sl_6⟩) (v6 : StrsT its6.toList ["name", "program"])
    {od_7 : Option Addr} {its7 : Array Value} {nn7 : Nat} {sl_7 : Array (Option Value)} (q7 : PySem.W.nsIn K ps "pass" = some (some (.ref t7))) (r7 : K.lookup t7 = some ⟨.type "tuple", od_7, .seq its7 nn7, sl_7⟩) (v7 : StrsT its7.toList [])
    (ge : DEs es.toList [("set", .ref t0), ("look", .ref t1), ("back", .ref t2), ("begin", .ref t3), ("late", .ref t4), ("copy", .ref t5), ("in", .ref t6), ("pass", .ref t7)])
    : ∀ base : Heap, K.In base → base.Ns mainGlobals mg → CallC l.prog w K mg base fa (spLaw K) := by
  intro base B1 B2
  have Z : Blt mg := by
    intro x hx
    rcases List.mem_cons.mp hx with rfl | hx
    · exact PySem.W.mg_none_of X G z0
    rcases List.mem_cons.mp hx with rfl | hx
    · exact PySem.W.mg_none_of X G z1
    rcases List.mem_cons.mp hx with rfl | hx
    · exact PySem.W.mg_none_of X G z2
    rcases List.mem_cons.mp hx with rfl | hx
    · exact PySem.W.mg_none_of X G z3
    rcases List.mem_cons.mp hx with rfl | hx
    · exact PySem.W.mg_none_of X G z4
    rcases List.mem_cons.mp hx with rfl | hx
    · exact PySem.W.mg_none_of X G z5
    rcases List.mem_cons.mp hx with rfl | hx
    · exact PySem.W.mg_none_of X G z6
    rcases List.mem_cons.mp hx with rfl | hx
    · exact PySem.W.mg_none_of X G z7
    rcases List.mem_cons.mp hx with rfl | hx
    · exact PySem.W.mg_none_of X G z8
    rcases List.mem_cons.mp hx with rfl | hx
    · exact PySem.W.mg_none_of X G z9
    rcases List.mem_cons.mp hx with rfl | hx
    · exact PySem.W.mg_none_of X G z10
    rcases List.mem_cons.mp hx with rfl | hx
    · exact PySem.W.mg_none_of X G z11
    rcases List.mem_cons.mp hx with rfl | hx
    · exact PySem.W.mg_none_of X G z12
    rcases List.mem_cons.mp hx with rfl | hx
    · exact PySem.W.mg_none_of X G z13
    rcases List.mem_cons.mp hx with rfl | hx
    · exact PySem.W.mg_none_of X G z14
    rcases List.mem_cons.mp hx with rfl | hx
    · exact PySem.W.mg_none_of X G z15
    rcases List.mem_cons.mp hx with rfl | hx
    · exact PySem.W.mg_none_of X G z16
    rcases List.mem_cons.mp hx with rfl | hx
    · exact PySem.W.mg_none_of X G z17
    cases hx
  have S_is_name : Std K mg "is_name" s_is_name := std_mk X G a0 l0 c0 k0
  have S_is_number : Std K mg "is_number" s_is_number := std_mk X G a1 l1 c1 k1
  have S_is_value : Std K mg "is_value" s_is_value := std_mk X G a2 l2 c2 k2
  have S_part_fits : Std K mg "part_fits" s_part_fits := std_mk X G a3 l3 c3 k3
  have S_is_step : Std K mg "is_step" s_is_step := std_mk X G a4 l4 c4 k4
  have S_is_program : Std K mg "is_program" s_is_program := std_mk X G a5 l5 c5 k5
  have S_inner_of : Std K mg "inner_of" s_inner_of := std_mk X G a6 l6 c6 k6
  have S_steps_in : Std K mg "steps_in" s_steps_in := std_mk X G a7 l7 c7 k7
  have S_gather : Std K mg "gather" s_gather := std_mk X G a8 l8 c8 k8
  have S_names_in : Std K mg "names_in" s_names_in := std_mk X G a9 l9 c9 k9
  have S_turned_step : Std K mg "turned_step" s_turned_step := std_mk X G a10 l10 c10 k10
  have S_turned : Std K mg "turned" s_turned := std_mk X G a11 l11 c11 k11
  have S_law_cell_at : Std K mg "_law_cell_at" s_law_cell_at := std_mk X G a12 l12 c12 k12
  have S_law_box : Std K mg "_law_box" s_law_box := std_mk X G a13 l13 c13 k13
  have S_law_take : Std K mg "_law_take" s_law_take := std_mk X G a14 l14 c14 k14
  have S_law_names : Std K mg "_law_names" s_law_names := std_mk X G a15 l15 c15 k15
  have S_law_value : Std K mg "_law_value" s_law_value := std_mk X G a16 l16 c16 k16
  have S_law_same : Std K mg "_law_same" s_law_same := std_mk X G a17 l17 c17 k17
  have S_law_step : Std K mg "_law_step" s_law_step := std_mk X G a18 l18 c18 k18
  have S_law_program : Std K mg "_law_program" s_law_program := std_mk X G a19 l19 c19 k19
  have S_law_flat : Std K mg "_law_flat" s_law_flat := std_mk X G a20 l20 c20 k20
  have S_law_turned : Std K mg "_law_turned" s_law_turned := std_mk X G a21 l21 c21 k21
  have S_law : Std K mg "law" s_law := std_mk X G a22 l22 c22 k22
  have G0 : Glb K w mg ps [("set", .ref t0), ("look", .ref t1), ("back", .ref t2), ("begin", .ref t3), ("late", .ref t4), ("copy", .ref t5), ("in", .ref t6), ("pass", .ref t7)] := by
    refine ⟨⟨_, PySem.W.mg_of X G gl, _, rfl⟩, ⟨_, PySem.W.mg_of X G gm, _, rfl⟩, ⟨_, PySem.W.mg_of X G gs, rfl⟩, ⟨gw, es, ne, gd, gk, ge⟩, ?_⟩
    exact (.cons (tup_sq r0 v0 (by decide)) (.cons (tup_sq r1 v1 (by decide)) (.cons (tup_sq r2 v2 (by decide)) (.cons (tup_sq r3 v3 (by decide)) (.cons (tup_sq r4 v4 (by decide)) (.cons (tup_sq r5 v5 (by decide)) (.cons (tup_sq r6 v6 (by decide)) (.cons (tup_sq r7 v7 (by decide)) .nil))))))))
  have c_cell := ok_cell_at (P := l.prog) (w := w) (base := base) S_law_cell_at Z
  have c_box := ok_box S_law_box Z c_cell
  have c_take := ok_take (P := l.prog) (w := w) (base := base) S_law_take Z
  have c_names := ok_names S_law_names Z c_take
  have c_value := ok_value S_law_value Z c_take
  have c_programs := ok_programs S_law_step S_law_program Z c_take c_value
  have c_program := Cal.any (N := 8) (sps := fun e => Sp7 (cProg e)) ((c_programs 0).mono (by omega)) fun e he => (c_programs e).mono (k := 18) (by omega)
  have c_flat := ok_flat (P := l.prog) (w := w) (base := base) S_law_flat Z
  have c_same := ok_same (P := l.prog) (w := w) (base := base) S_law_same Z 18
  have c_inner := ok_inner_of (P := l.prog) (w := w) (base := base) S_inner_of Z
  have c_steps := ok_steps_in S_steps_in Z c_inner 9
  have c_gather := ok_gather S_gather Z c_inner 9
  have c_names_in := ok_names_in S_names_in Z c_gather
  have c_is_program := ok_is_program (P := l.prog) (base := base) S_is_name S_is_number S_is_value S_part_fits S_is_step S_is_program Z G0 9
  have c_turned := ok_turned (P := l.prog) (w := w) (base := base) S_turned_step S_turned Z 9
  have c_law_turned := ok_law_turned (P := l.prog) (w := w) (base := base) S_law_turned Z 9
  exact ok_law S_law Z c_box c_take c_names c_program c_flat c_same c_steps (c_names_in.mono (by omega)) c_is_program c_turned c_law_turned hfa
end A
open PySem PySem.W PyProof.Rows in
set_option maxRecDepth 100000 in
set_option maxHeartbeats 0 in
theorem PySem.Challenge.cw_roadsettings_k56_begins_turned_late_holds : PySem.Challenge.rw_roadsettings_k56_begins_turned_late.Holds := by
  w_on; o_law; k_head; (case hw => w_witness2)
  k_fill
  refine RS.walk_ofC (l := PySem.Challenge.rw_roadsettings_k56_begins_turned_late) (n := 63) (sp := A.spLaw) rfl (by decide) rfl (fun w h Y => PySem.W.kIn_of Y) ?F (fun _ _ a ns hl _ hS => ⟨_, rfl, a, ns, rfl, hS, hl, fun _ => rfl⟩)
  case F =>
    intro w mg fa h KX G hmg
    refine' A.all_mk KX G hmg ?a0 ?l0 ?c0 ?k0 ?a1 ?l1 ?c1 ?k1 ?a2 ?l2 ?c2 ?k2 ?a3 ?l3 ?c3 ?k3 ?a4 ?l4 ?c4 ?k4 ?a5 ?l5 ?c5 ?k5 ?a6 ?l6 ?c6 ?k6 ?a7 ?l7 ?c7 ?k7 ?a8 ?l8 ?c8 ?k8 ?a9 ?l9 ?c9 ?k9 ?a10 ?l10 ?c10 ?k10 ?a11 ?l11 ?c11 ?k11 ?a12 ?l12 ?c12 ?k12 ?a13 ?l13 ?c13 ?k13 ?a14 ?l14 ?c14 ?k14 ?a15 ?l15 ?c15 ?k15 ?a16 ?l16 ?c16 ?k16 ?a17 ?l17 ?c17 ?k17 ?a18 ?l18 ?c18 ?k18 ?a19 ?l19 ?c19 ?k19 ?a20 ?l20 ?c20 ?k20 ?a21 ?l21 ?c21 ?k21 ?a22 ?l22 ?c22 ?k22 ?z0 ?z1 ?z2 ?z3 ?z4 ?z5 ?z6 ?z7 ?z8 ?z9 ?z10 ?z11 ?z12 ?z13 ?z14 ?z15 ?z16 ?z17 ?gl ?gm ?gs ?gd ?gw ?gk ?q0 ?r0 ?v0 ?q1 ?r1 ?v1 ?q2 ?r2 ?v2 ?q3 ?r3 ?v3 ?q4 ?r4 ?v4 ?q5 ?r5 ?v5 ?q6 ?r6 ?v6 ?q7 ?r7 ?v7 ?ge
    (case a0 => k_is)
    (case l0 => k_is)
    (case c0 => k_is)
    (case k0 => k_is)
    (case a1 => k_is)
    (case l1 => k_is)
    (case c1 => k_is)
    (case k1 => k_is)
    (case a2 => k_is)
    (case l2 => k_is)
    (case c2 => k_is)
    (case k2 => k_is)
    (case a3 => k_is)
    (case l3 => k_is)
    (case c3 => k_is)
    (case k3 => k_is)
    (case a4 => k_is)
    (case l4 => k_is)
    (case c4 => k_is)
    (case k4 => k_is)
    (case a5 => k_is)
    (case l5 => k_is)
    (case c5 => k_is)
    (case k5 => k_is)
    (case a6 => k_is)
    (case l6 => k_is)
    (case c6 => k_is)
    (case k6 => k_is)
    (case a7 => k_is)
    (case l7 => k_is)
    (case c7 => k_is)
    (case k7 => k_is)
    (case a8 => k_is)
    (case l8 => k_is)
    (case c8 => k_is)
    (case k8 => k_is)
    (case a9 => k_is)
    (case l9 => k_is)
    (case c9 => k_is)
    (case k9 => k_is)
    (case a10 => k_is)
    (case l10 => k_is)
    (case c10 => k_is)
    (case k10 => k_is)
    (case a11 => k_is)
    (case l11 => k_is)
    (case c11 => k_is)
    (case k11 => k_is)
    (case a12 => k_is)
    (case l12 => k_is)
    (case c12 => k_is)
    (case k12 => k_is)
    (case a13 => k_is)
    (case l13 => k_is)
    (case c13 => k_is)
    (case k13 => k_is)
    (case a14 => k_is)
    (case l14 => k_is)
    (case c14 => k_is)
    (case k14 => k_is)
    (case a15 => k_is)
    (case l15 => k_is)
    (case c15 => k_is)
    (case k15 => k_is)
    (case a16 => k_is)
    (case l16 => k_is)
    (case c16 => k_is)
    (case k16 => k_is)
    (case a17 => k_is)
    (case l17 => k_is)
    (case c17 => k_is)
    (case k17 => k_is)
    (case a18 => k_is)
    (case l18 => k_is)
    (case c18 => k_is)
    (case k18 => k_is)
    (case a19 => k_is)
    (case l19 => k_is)
    (case c19 => k_is)
    (case k19 => k_is)
    (case a20 => k_is)
    (case l20 => k_is)
    (case c20 => k_is)
    (case k20 => k_is)
    (case a21 => k_is)
    (case l21 => k_is)
    (case c21 => k_is)
    (case k21 => k_is)
    (case a22 => k_is)
    (case l22 => k_is)
    (case c22 => k_is)
    (case k22 => k_is)
    (case z0 => k_is)
    (case z1 => k_is)
    (case z2 => k_is)
    (case z3 => k_is)
    (case z4 => k_is)
    (case z5 => k_is)
    (case z6 => k_is)
    (case z7 => k_is)
    (case z8 => k_is)
    (case z9 => k_is)
    (case z10 => k_is)
    (case z11 => k_is)
    (case z12 => k_is)
    (case z13 => k_is)
    (case z14 => k_is)
    (case z15 => k_is)
    (case z16 => k_is)
    (case z17 => k_is)
    (case gl => k_is)
    (case gm => k_is)
    (case gs => k_is)
    (case gd => k_is)
    (case q0 => k_is)
    (case r0 => k_is)
    (case q1 => k_is)
    (case r1 => k_is)
    (case q2 => k_is)
    (case r2 => k_is)
    (case q3 => k_is)
    (case r3 => k_is)
    (case q4 => k_is)
    (case r4 => k_is)
    (case q5 => k_is)
    (case r5 => k_is)
    (case q6 => k_is)
    (case r6 => k_is)
    (case q7 => k_is)
    (case r7 => k_is)
    (case gw => decide)
    (case gk => exact ⟨⟨_, _, rfl, rfl⟩, ⟨_, _, rfl, rfl⟩, ⟨_, _, rfl, rfl⟩, ⟨_, _, rfl, rfl⟩, ⟨_, _, rfl, rfl⟩, ⟨_, _, rfl, rfl⟩, ⟨_, _, rfl, rfl⟩, ⟨_, _, rfl, rfl⟩, trivial⟩)
    (case v0 => exact (.cons (.cons (.cons .nil))))
    (case v1 => exact (.cons .nil))
    (case v2 => exact (.cons .nil))
    (case v3 => exact (.cons .nil))
    (case v4 => exact (.cons .nil))
    (case v5 => exact (.cons .nil))
    (case v6 => exact (.cons (.cons .nil)))
    (case v7 => exact .nil)
    (case ge => exact (.cons rfl rfl (.cons rfl rfl (.cons rfl rfl (.cons rfl rfl (.cons rfl rfl (.cons rfl rfl (.cons rfl rfl (.cons rfl rfl .nil)))))))))
