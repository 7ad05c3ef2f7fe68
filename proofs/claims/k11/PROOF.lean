import PyProof.Rows.All
import Wide.All
import OpenK.AllK
import Wide.FinOn
import HandS.ForMost
import HandS.Steps
import HandS.Wide
import HandS.IsInst
import HandS.More
import KE.KUnpackStar
import HandS.Defaults
import HandS.WordsExc
import HandS.Exc
import HandS.ExcOwn
import HandS.ExcIs
import HandS.Dict
import PySem.Challenge.RW_nearestname_k11_spaces_made
set_option Elab.async false
set_option linter.all false
set_option maxRecDepth 100000
set_option maxHeartbeats 4000000
/-! own base: a def with its promise, names for readings, steps through readings -/
namespace NN
open PySem PySem.Spec PyProof.Rows L2

/-! ### names of readings -/
abbrev rAdd0 : R2 := rI0 fun i j => .int (i + j)
abbrev rSub0 : R2 := rI0 fun i j => .int (i - j)
abbrev rMul0 : R2 := rI CMul fun i j => .int (i * j)
abbrev rMulW : R2 := rI CMulW fun i j => .int (i * j)
abbrev rMod0 : R2 := rI (fun _ j => 0 < j) fun i j => .int (i % j)
abbrev rDivW : R2 := rI CDivW fun i j => .int (i / j)
abbrev rPow0 : R2 := rI CPow fun i j => .int (i ^ j.toNat)
abbrev rShl0 : R2 := rI CPow fun i j => .int (i * 2 ^ j.toNat)
abbrev rLt : R2 := rI0 fun i j => .bl (decide (i < j))
abbrev rLe : R2 := rI0 fun i j => .bl (decide (i ≤ j))
abbrev rGt : R2 := rI0 fun i j => .bl (decide (j < i))
abbrev rGe : R2 := rI0 fun i j => .bl (decide (j ≤ i))
abbrev rAddIb : R2 := fun x y H Q => ∃ i k, x = .int i ∧ y = .bl k ∧ Q (.int (i + b2i k)) H
abbrev rAddStr : R2 := fun x y H Q => ∃ i j, x = .str i ∧ y = .str j ∧ i.length + j.length ≤ sizeLine ∧ Q (.str (i ++ j)) H
abbrev RCl := List V → Hp → VK → Prop
abbrev rMax2 : RCl := fun xs H Q => ∃ i j, xs = [.int i, .int j] ∧ Q (.int (if j > i then j else i)) H
abbrev rMin2 : RCl := fun xs H Q => ∃ i j, xs = [.int i, .int j] ∧ Q (.int (if j < i then j else i)) H
abbrev rAbs : RCl := fun xs H Q => ∃ i, xs = [.int i] ∧ Q (.int (if i < 0 then -i else i)) H
abbrev rInt1 : RCl := fun xs H Q => (∃ i, xs = [.int i] ∧ Q (.int i) H) ∨ ∃ k, xs = [.bl k] ∧ Q (.int (if k then 1 else 0)) H
abbrev rStrI : RCl := fun xs H Q => ∃ i, xs = [.int i] ∧ i.natAbs.log2 < 1920 ∧ Q (.str (toString i)) H
abbrev rLenS (K : PySem.W.Frag) : RCl := fun xs H Q => ∃ p ys, xs = [.ref p] ∧ (SqL K H p ys ∨ SqT K H p ys) ∧ Q (.int ys.length) H
abbrev rListS (K : PySem.W.Frag) : RCl := fun xs H Q => ∃ p ys, xs = [.ref p] ∧ (SqL K H p ys ∨ SqT K H p ys) ∧ ∀ l, H l = none → Q (.ref l) (upd H l (.lst ys))
abbrev rInsert : V → List V → Hp → VK → Prop := fun x vs H Q => ∃ (l : Addr) (xs : List V) (i : Int) (y : V), x = .ref l ∧ vs = [.int i, y] ∧ H l = some (.lst xs) ∧ xs.length < sizeLine ∧ 0 ≤ i ∧ i < 2 ^ 63 ∧ Q .non (upd H l (.lst (xs.take i.toNat ++ [y] ++ xs.drop i.toNat)))
abbrev rLenStr : RCl := fun xs H Q => ∃ z, xs = [.str z] ∧ z.length ≤ sizeLine ∧ Q (.int z.length) H

/-! ### a def of the text, its promise -/
structure DefF (K : PySem.W.Frag) (mg : Str → Option Value) (x : Str) (st : Stmt) : Prop where
  ex : ∃ f fd, mg x = some (.ref f) ∧ Fun K x x st f fd
theorem def_mk {K : PySem.W.Frag} {h : Heap} {mg : Str → Option Value} {x : Str} {st : Stmt} (X : K.In h) (G : h.Ns mainGlobals mg) {f : Addr} {od an : Option Addr} {sl : Array (Option Value)} {oc kV dc pm cd ct : Value}
    (a : PySem.W.nsIn K mainGlobals x = some (some (.ref f))) (l : K.lookup f = some ⟨oc, od, .func (PySem.W.fnOf x x (defArgs st) (defBody st) (defScope st) .none kV dc pm an cd ct), sl⟩)
    (c : PySem.W.codeIn K cd x = true) (k : PySem.W.keepIn K (.ref f) = true) : DefF K mg x st := ⟨_, _, PySem.W.mg_of X G a, fun_mk l c k⟩
/-- the parameters take the arguments one by one -/
abbrev PlainB (x : Str) (ps : List Str) (st : Stmt) : Prop := ∀ (kV doc pm : Value) (an : Option Addr) (cdv ct : Value) (us : List Value), us.length = ps.length → bindArgs (PySem.W.fnOf x x (defArgs st) (defBody st) (defScope st) .none kV doc pm an cdv ct) ⟨us, []⟩ = pure (ps.zip us)
/-- a def that keeps its promise -/
structure DefK (P : Program) (w : World) (K : PySem.W.Frag) (mg : Str → Option Value) (base : Heap) (k : Nat) (x : Str) (ps : List Str) (st : Stmt) (sp : Sp) : Prop where
  ex : ∃ f fd, mg x = some (.ref f) ∧ PySem.W.keepIn K (.ref f) = true ∧ Binds K fd ps [] ∧ Fun K x x st f fd ∧ FnOk P w K mg base CX0 k f fd ps sp
section
variable {P : Program} {w : World} {K : PySem.W.Frag} {mg : Str → Option Value} {base : Heap}
/-- THE RULE: the body's derivation, the reading -/
theorem DefF.ok {x : Str} {st : Stmt} {N ps : List Str} {k : Nat} {sp : Sp} {t : TS} (F : DefF K mg x st) (S : FnScope N ps (defScope st)) (B : PlainB x ps st) (len : ∀ vs H Q E, sp vs H Q E → vs.length = ps.length)
    (der : ∀ (f : Addr) (cdv : Value) (A : Around) (outer : List Env) (s : Shared) (H : Hp) (E : XK), Room k (A.deeper (envOfC x (defScope st) s.heap.objs.size f cdv)) → PSs (cxOf CX0 P w K mg base N x (defScope st) f cdv A outer s H E).nox (defBody st) t)
    (rd : ∀ vs H Q E, sp vs H Q E → t { nx := fun _ H' => Q .non H', rt := Q } (start N vs) H) : DefK P w K mg base (k + 1) x ps st sp := by
  obtain ⟨f, fd, hm, F⟩ := F.ex
  exact ⟨f, fd, hm, F.kp, F.binds B, F, F.ok S len fun cdv A outer s H vs Q E hr h => ⟨t, der f cdv A outer s H E hr, rd vs H Q E h⟩⟩
/-- the law's own def, at the end -/
theorem law_fin {l : PySem.W.OpenLaw} {x p : Str} {st : Stmt} {k : Nat} {sp : Sp} {fa : Addr} (F : DefF K mg x st) (hfa : mg x = some (.ref fa)) (B : PlainB x [p] st)
    (ok : ∀ (base : Heap) (f : Addr) (fd : FuncData), Fun K x x st f fd → FnOk l.prog w K mg base CX0 k f fd [p] sp) :
    ∃ fd : FuncData, (∀ (s : Shared) (v : Value), BindsTo s fd ⟨[v], []⟩ [(p, v)]) ∧ ∀ base : Heap, K.In base → base.Ns mainGlobals mg → FnOk l.prog w K mg base CX0 k fa fd [p] sp := by
  obtain ⟨f, fd, hm, F⟩ := F.ex
  have e : f = fa := by
    have z := hm.symm.trans hfa
    injection z with z
    injection z
  subst e
  refine ⟨fd, fun s v => ?_, fun base _ _ => ok base f fd F⟩
  obtain ⟨oc, od, kV, doc, pm, an, cdv, ct, osl, rfl, lk, hcd⟩ := F.ex
  exact .of_eq (B kV doc pm an cdv ct [v] rfl)
/-- THE RULE for the law's def -/
theorem fun_ok {x : Str} {st : Stmt} {N ps : List Str} {k : Nat} {sp : Sp} {t : TS} {f : Addr} {fd : FuncData} (F : Fun K x x st f fd) (S : FnScope N ps (defScope st)) (len : ∀ vs H Q E, sp vs H Q E → vs.length = ps.length)
    (der : ∀ (f : Addr) (cdv : Value) (A : Around) (outer : List Env) (s : Shared) (H : Hp) (E : XK), Room k (A.deeper (envOfC x (defScope st) s.heap.objs.size f cdv)) → PSs (cxOf CX0 P w K mg base N x (defScope st) f cdv A outer s H E).nox (defBody st) t)
    (rd : ∀ vs H Q E, sp vs H Q E → t { nx := fun _ H' => Q .non H', rt := Q } (start N vs) H) : FnOk P w K mg base CX0 (k + 1) f fd ps sp :=
  F.ok S len fun cdv A outer s H vs Q E hr h => ⟨t, der f cdv A outer s H E hr, rd vs H Q E h⟩
end
section
variable {X : Cx} {k j : Nat} {ps : List Str} {sp : Sp} {x : Str} {st : Stmt} {p pos : Pos} {e : Expr} {es : List Expr} {t : TA}
theorem pe_def (D : DefK X.prog X.w X.K X.mg X.base k x ps st sp) (hr : Room j X.A) (hj : k ≤ j) (hg : Gl X x) (ha : PA X (e :: es) t) (hdb : (x == ("__debug__" : Str)) = false := by decide)
    (he : starEach (e :: es) X.env = (false, eval e X.env) :: starEach es X.env := by rfl) (hpl : (backTo pos (starEach es X.env)).any (·.1) = false := by rfl) : PE X (.Call (.Name x p) (e :: es) [] pos) (tCall sp [] E0 t) := by
  obtain ⟨f, fd, hm, hk, hb, _, F⟩ := D.ex
  exact pe_call F (hr.mono hj) hg hm hk hb .nil pass0 ha hdb he hpl
theorem pe_gI {i : Int} (hg : Gl X x) (h : ∃ t, X.mg x = some (.int i t)) (hd : (x == ("__debug__" : Str)) = false := by decide) : PE X (.Name x pos) (tC (.int i)) := by
  obtain ⟨t, h⟩ := h
  exact pe_glob hg h ⟨t, rfl⟩ hd
theorem pe_gS {i : Str} (hg : Gl X x) (h : ∃ t, X.mg x = some (.str i t)) (hd : (x == ("__debug__" : Str)) = false := by decide) : PE X (.Name x pos) (tC (.str i)) := by
  obtain ⟨t, h⟩ := h
  exact pe_glob hg h ⟨t, rfl⟩ hd
theorem pe_gR {C : Addr} (hg : Gl X x) (h : X.mg x = some (.ref C)) (hd : (x == ("__debug__" : Str)) = false := by decide) : PE X (.Name x pos) (tC (.ref C)) := pe_glob hg h rfl hd

/-! ### calls by keywords alone -/
/-- the parameters by keywords: pi tells for each parameter which keyword -/
structure KwB (x : Str) (ps ks : List Str) (st : Stmt) (pi : List Nat) : Prop where
  all : ∀ (kV doc pm : Value) (an : Option Addr) (cdv ct : Value) (ws : List Value), ws.length = ks.length → bindArgs (PySem.W.fnOf x x (defArgs st) (defBody st) (defScope st) .none kV doc pm an cdv ct) ⟨[], ks.zip ws⟩ = pure (ps.zip (pi.filterMap fun i => ws[i]?))
def perm {α : Type} (pi : List Nat) (ws : List α) : List α := pi.filterMap fun i => ws[i]?
theorem perm_rel (pi : List Nat) {zs : List V} {ws : List Value} (r : Vals zs ws) : Vals (perm pi zs) (perm pi ws) := by
  induction pi with
  | nil => exact .nil
  | cons i l ih =>
    unfold perm
    rw [List.filterMap_cons, List.filterMap_cons]
    cases e : zs[i]? with
    | none => rw [r.none_of e]; exact ih
    | some z =>
      obtain ⟨u, e2, r2⟩ := r.get e
      rw [e2]
      exact .cons r2 ih
def tCallP (n : Nat) (pi : List Nat) (sp : Sp) (E : XK) (tk : TA) : TE := fun σ H Q => tk σ H fun zs H2 => zs.length = n ∧ sp (perm pi zs) H2 Q E
theorem pe_defK {ks : List Str} {pi : List Nat} {kws : List Keyword} {tk : TA} (D : DefK X.prog X.w X.K X.mg X.base k x ps st sp) (B : KwB x ps ks st pi) (hr : Room j X.A) (hj : k ≤ j) (hg : Gl X x) (hkw : PK X kws tk)
    (hall : (backToKw pos (keywordEach kws X.env)).all (·.1.isSome) = true := by rfl) (hks : (backToKw pos (keywordEach kws X.env)).filterMap (·.1) = ks := by rfl)
    (hdb : (x == ("__debug__" : Str)) = false := by decide) (hpl : (backToKw pos (keywordEach kws X.env)).any (·.1.isNone) = false := by rfl) :
    PE X (.Call (.Name x p) [] kws pos) (tCallP ks.length pi sp E0 tk) := by
  obtain ⟨f, fd, hm, hk, hb, Fn, F⟩ := D.ex
  refine ⟨fun pins s σ H Q I h => ?_⟩
  refine wpAny_Call_Name_kw (ld_glob I hg hm ?_ hdb)
  refine PySem.W.callWith_KW0 (h₀ := X.base) I.ok.mod.kin hk hall (thn (hkw.run pos pins s σ H _ I h) fun ws s2 ⟨zs, H2, I2, rz, q1, q2⟩ => ⟨I2.kIn, ?_⟩) hpl
  rw [hks]
  have r2 : Vals (perm pi zs) (perm pi ws) := perm_rel pi rz
  obtain ⟨oc, od, kV, doc, pm, an, cdv, ct, osl, rfl, lk, hcd⟩ := Fn.ex
  have hw : ws.length = ks.length := rz.length.symm.trans q1
  refine wpAny_call (codeAny_mono ((F.mono hj).run X.A X.stack s2 H2 ⟨[], ks.zip ws⟩ (perm pi ws) (perm pi zs) Q E0 hr I2.env0 (.of_eq (B.all kV doc pm an cdv ct ws hw)) r2 q2) fun r s' hq => ?_)
  cases r with
  | error e => exact hq.elim
  | ok fl =>
    cases fl with
    | ret u => exact I2.after hq
    | next => exact False.elim hq
    | brk => exact False.elim hq
    | cont => exact False.elim hq
end
end NN
/-! own steps through readings -/
namespace NN
open PySem L2

/-! ### what is kept -/
def Kp (S : List Addr) (H H' : Hp) : Prop := ∀ b o, H b = some o → b ∉ S → H' b = some o
theorem Kp.refl {S : List Addr} {H : Hp} : Kp S H H := fun _ _ h _ => h
theorem Kp.trans {S : List Addr} {H H1 H2 : Hp} (a : Kp S H H1) (b : Kp S H1 H2) : Kp S H H2 := fun c o h n => b c o (a c o h n) n
theorem Kp.at {S : List Addr} {H H1 : Hp} {b : Addr} {o : HO} (a : Kp S H H1) (h : H b = some o) (n : b ∉ S) : H1 b = some o := a b o h n
theorem Kp.mono {S T : List Addr} {H H1 : Hp} (a : Kp S H H1) (h : ∀ x ∈ S, x ∈ T) : Kp T H H1 := fun c o e n => a c o e fun z => n (h _ z)
theorem Kp.wid {S : List Addr} {H H1 : Hp} (a : Kp [] H H1) : Kp S H H1 := a.mono fun _ z => nomatch z
theorem Kp.new {S : List Addr} {H H1 : Hp} {p : Addr} {o : HO} (a : Kp S H H1) (h : H1 p = none) : Kp S H (upd H1 p o) := fun c u e n => by
  have e1 := a c u e n
  rw [upd_ne (ne_of_none e1 h)]; exact e1
/-- an object that H does not know is written -/
theorem Kp.own {S : List Addr} {H H1 : Hp} {p : Addr} {o : HO} (a : Kp S H H1) (h : H p = none) : Kp S H (upd H1 p o) := fun c u e n => by
  rw [upd_ne (ne_of_none e h)]; exact a c u e n
theorem Kp.wr {S : List Addr} {H H1 : Hp} {p : Addr} {o : HO} (a : Kp S H H1) (h : p ∈ S) : Kp S H (upd H1 p o) := fun c u e n => by
  rw [upd_ne (fun z => n (by rw [z]; exact h))]; exact a c u e n
theorem Kp.seq {S : List Addr} {K : PySem.W.Frag} {H H1 : Hp} {p : Addr} {xs : List V} (a : Kp S H H1) (n : p ∉ S) (h : SqL K H p xs) : SqL K H1 p xs := by
  rcases h with (h | ⟨o, h⟩) | h
  · exact .inl (.inl (a _ _ h n))
  · exact .inl (.inr ⟨o, a _ _ h n⟩)
  · exact .inr h
theorem Kp.seq0 {K : PySem.W.Frag} {H H1 : Hp} {p : Addr} {xs : List V} (a : Kp [] H H1) (h : SqL K H p xs) : SqL K H1 p xs := a.seq (by intro z; cases z) h
theorem Kp.free {S : List Addr} {H H1 : Hp} {p : Addr} (a : Kp S H H1) (n : p ∉ S) (h : H1 p = Option.none) : H p = Option.none := by
  cases e : H p with
  | none => rfl
  | some o => rw [a p o e n] at h; cases h

/-! ### steps -/
section
variable {σ : St} {H : Hp} {Q : VK} {QB : Bool → Hp → Prop} {QA : List V → Hp → Prop} {v x y : V} {i : Nat} {a b : Int} {ta tb te tc : TE} {t u : TT} {D : Ends} {s1 s2 : TS} {tl tr : TA} {r r' : R2} {K : PySem.W.Frag} {p : Addr} {xs ys : List V} {rc : RCl} {c : Bool}
theorem g_var (h : σ[i]? = some (some v)) (q : Q v H) : tVar i σ H Q := ⟨v, h, q⟩
theorem g_c (q : Q v H) : tC v σ H Q := q
theorem g_op (q : ta σ H fun x H1 => tb σ H1 fun y H2 => r x y H2 Q) : tOp r ta tb σ H Q := q
theorem g_un {r : V → Hp → VK → Prop} (q : ta σ H fun x H1 => r x H1 Q) : tUn r ta σ H Q := q
theorem g_neg (q : Q (.int (-a)) H) : rU (fun i => .int (-i)) (.int a) H Q := ⟨a, rfl, q⟩
theorem g_I0 {g : Int → Int → V} (q : Q (g a b) H) : rI0 g (.int a) (.int b) H Q := ⟨a, b, rfl, rfl, q⟩
theorem g_I {C : Int → Int → Prop} {g : Int → Int → V} (h : C a b) (q : Q (g a b) H) : rI C g (.int a) (.int b) H Q := ⟨a, b, rfl, rfl, h, q⟩
theorem g_eqI (q : Q (.bl (decide (a = b))) H) : rEq (.int a) (.int b) H Q := ⟨rfl, by
  have e : decide (V.int a = V.int b) = decide (a = b) := by rw [dec_int, Bool.beq_eq_decide_eq]
  rw [e]; exact q⟩
theorem g_neI (q : Q (.bl (!decide (a = b))) H) : rNe (.int a) (.int b) H Q := ⟨rfl, by
  have e : decide (V.int a = V.int b) = decide (a = b) := by rw [dec_int, Bool.beq_eq_decide_eq]
  rw [e]; exact q⟩
theorem g_eq (h : scal x y = true) (q : Q (.bl (decide (x = y))) H) : rEq x y H Q := ⟨h, q⟩
theorem g_ne (h : scal x y = true) (q : Q (.bl (!decide (x = y))) H) : rNe x y H Q := ⟨h, q⟩
theorem g_test (q : te σ H fun x H1 => ∃ k, x = .bl k ∧ QB k H1) : tTest te σ H QB := q
theorem g_tb (q : te σ H fun x H1 => ∃ k, x = .bl k ∧ QB k H1) : tB te σ H QB := q
theorem g_bl {b : Bool} {P : Bool → Prop} (q : P b) : ∃ k, V.bl b = .bl k ∧ P k := ⟨b, rfl, q⟩
theorem g_and (q : t σ H fun c H1 => if c = true then u σ H1 QB else QB false H1) : tAnd t u σ H QB := q
theorem g_or (q : t σ H fun c H1 => if c = true then QB true H1 else u σ H1 QB) : tOr t u σ H QB := q
theorem g_not (q : t σ H fun c H1 => QB (!c) H1) : tNot t σ H QB := q
theorem g_andV (q : ta σ H fun x H1 => ∃ c, x = .bl c ∧ if c = true then tb σ H1 Q else Q (.bl false) H1) : tAndV ta tb σ H Q := q
theorem g_orV (q : ta σ H fun x H1 => ∃ c, x = .bl c ∧ if c = true then Q (.bl true) H1 else tb σ H1 Q) : tOrV ta tb σ H Q := q
theorem g_notV (q : ta σ H fun x H1 => ∃ c, x = .bl c ∧ Q (.bl (!c)) H1) : tNotV ta σ H Q := q
theorem g_if (q : t σ H fun c H1 => if c = true then ta σ H1 Q else tb σ H1 Q) : tIf t ta tb σ H Q := q
theorem g_nil (q : QA [] H) : tNil σ H QA := q
theorem g_cons (q : te σ H fun x H1 => tr σ H1 fun xs H2 => QA (x :: xs) H2) : tCons te tr σ H QA := q
theorem g_tup (q : tl σ H fun xs H1 => xs.length ≤ sizeLine ∧ ∀ p, H1 p = none → Q (.ref p) (upd H1 p (.tup xs))) : tTup tl σ H Q := q
theorem g_lst (q : tl σ H fun xs H1 => xs.length ≤ sizeLine ∧ ∀ p, H1 p = none → Q (.ref p) (upd H1 p (.lst xs))) : tLst tl σ H Q := q
theorem g_cb (q : tl σ H fun vs H1 => rc vs H1 Q) : tCB rc tl σ H Q := q
theorem g_max2 (q : Q (.int (if b > a then b else a)) H) : rMax2 [.int a, .int b] H Q := ⟨a, b, rfl, q⟩
theorem g_min2 (q : Q (.int (if b < a then b else a)) H) : rMin2 [.int a, .int b] H Q := ⟨a, b, rfl, q⟩
theorem g_abs (q : Q (.int (if a < 0 then -a else a)) H) : rAbs [.int a] H Q := ⟨a, rfl, q⟩
theorem g_int1b (q : Q (.int (if c then 1 else 0)) H) : rInt1 [.bl c] H Q := .inr ⟨c, rfl, q⟩
theorem g_int1i (q : Q (.int a) H) : rInt1 [.int a] H Q := .inl ⟨a, rfl, q⟩
theorem g_lenL (h : SqL K H p xs) (q : Q (.int xs.length) H) : rLenS K [.ref p] H Q := ⟨p, xs, rfl, .inl h, q⟩
theorem g_listL (h : SqL K H p xs) (q : ∀ l, H l = none → Q (.ref l) (upd H l (.lst xs))) : rListS K [.ref p] H Q := ⟨p, xs, rfl, .inl h, q⟩
theorem g_ixL {j : Int} (h : SqL K H p xs) (e : atI xs j = some v) (q : Q v H) : rIxL K (.ref p) (.int j) H Q := ⟨p, xs, j, v, rfl, rfl, h, e, q⟩
theorem g_ixT {j : Int} (h : SqT K H p xs) (e : atI xs j = some v) (q : Q v H) : rIxT K (.ref p) (.int j) H Q := ⟨p, xs, j, v, rfl, rfl, h, e, q⟩
theorem g_sl {r : V → Option Int → Option Int → Hp → VK → Prop} {lo hi : TO} (q : te σ H fun x H1 => lo σ H1 fun l H2 => hi σ H2 fun u H3 => r x l u H3 Q) : tSl r te lo hi σ H Q := q
theorem g_nopart {QO : Option Int → Hp → Prop} (q : QO none H) : tNoPart σ H QO := q
theorem g_part {QO : Option Int → Hp → Prop} (q : te σ H fun x H1 => ∃ i, x = .int i ∧ QO (some i) H1) : tPart te σ H QO := q
theorem g_int {P : Int → Prop} (q : P a) : ∃ i, V.int a = .int i ∧ P i := ⟨a, rfl, q⟩
theorem g_slL {lo hi : Option Int} (h : SqL K H p xs) (q : ∀ l, H l = none → Q (.ref l) (upd H l (.lst (cutV xs lo hi)))) : rSlL K (.ref p) lo hi H Q := ⟨p, xs, rfl, h, q⟩
theorem g_isN (q : Q (.bl (decide (x = .non))) H) : rIsN x .non H Q := ⟨rfl, q⟩
theorem g_notN (q : Q (.bl (!decide (x = .non))) H) : rNotN x .non H Q := ⟨rfl, q⟩
theorem g_in {neg : Bool} (h : SqL K H p xs) (hx : flatV x = true) (hs : xs.all flatV = true) (q : Q (.bl (if neg then !inV x xs else inV x xs)) H) : rIn K neg x (.ref p) H Q := ⟨p, xs, rfl, .inl h, hx, hs, q⟩
theorem g_cat {p' : Addr} (h : H p = some (.lst xs)) (h' : H p' = some (.lst ys)) (hl : xs.length + ys.length ≤ sizeLine) (q : ∀ l, H l = none → Q (.ref l) (upd H l (.lst (xs ++ ys)))) : rCat (.ref p) (.ref p') H Q := ⟨p, p', xs, ys, rfl, rfl, h, h', hl, q⟩
theorem g_call {sp : Sp} {dvs : List V} {E : XK} (q : tl σ H fun vs H1 => sp (vs ++ dvs) H1 Q E) : tCall sp dvs E tl σ H Q := q
/-! statements -/
theorem g_seq (q : s1 { D with nx := s2 D } σ H) : tSeq s1 s2 D σ H := q
theorem g_isIf {s3 : TS} (q : tSeq (tIfS t s1 s2) s3 D σ H) : tSeq (tIfS t s1 s2) s3 D σ H := q
/-- two statements with a word between them -/
theorem g_seqJ {M : St → Hp → Prop} (F : ∀ σ' H', M σ' H' → s2 D σ' H') (q : ∀ N : St → Hp → Prop, (∀ σ' H', M σ' H' → N σ' H') → s1 { D with nx := N } σ H) : tSeq s1 s2 D σ H := q (s2 D) F
theorem g_next (q : D.nx σ H) : tNext D σ H := q
theorem g_brk (q : D.bk σ H) : tBreak D σ H := q
theorem g_ct (q : D.ct σ H) : tCont D σ H := q
theorem g_drop (q : te σ H fun _ H1 => D.nx σ H1) : tDrop te D σ H := q
theorem g_ret (q : te σ H D.rt) : tRet te D σ H := q
theorem g_retN (q : D.rt .non H) : tRetN D σ H := q
theorem g_ifS (q : t σ H fun b H1 => if b = true then s1 D σ H1 else s2 D σ H1) : tIfS t s1 s2 D σ H := q
theorem g_asg {g : TG} (q : te σ H fun x H1 => g x σ H1 D.nx) : tAsg te g D σ H := q
theorem g_name {σ' : St} {QS : St → Hp → Prop} (e : σ.set i (some v) = σ') (q : QS σ' H) : gName i v σ H QS := by subst e; exact q
theorem g_sub {to ti : TE} {ts : TSet} {QS : St → Hp → Prop} (q : to σ H fun o H1 => ti σ H1 fun i H2 => ts o i v H2 fun H3 => QS σ H3) : gSub to ti ts v σ H QS := q
theorem g_setL {QH : Hp → Prop} {k : Int} {j : Nat} (h : H p = some (.lst xs)) (e : ixN xs.length k = some j) (q : QH (upd H p (.lst (xs.set j v)))) : rSetL (.ref p) (.int k) v H QH := ⟨p, xs, k, j, rfl, rfl, h, e, q⟩
theorem g_aug {ti : TIp} (h : σ[i]? = some (some x)) (q : te σ H fun y H1 => ti x y H1 fun z H2 => D.nx (σ.set i (some z)) H2) : tAug i te ti D σ H := ⟨x, h, q⟩
theorem g_ipI {f : Int → Int → Int} (q : Q (.int (f a b)) H) : ipI f (.int a) (.int b) H Q := ⟨a, b, rfl, rfl, q⟩
theorem g_par {j : Nat} (q : tl σ H fun vs H1 => ∃ v w, vs = [v, w] ∧ D.nx ((σ.set i (some v)).set j (some w)) H1) : tPar i j tl D σ H := q
theorem g_ex1 {A : Prop} (h : A) (q : Q v H) : A ∧ Q v H := ⟨h, q⟩
theorem g_ite {A B pr : Prop} [Decidable pr] (h1 : pr → A) (h2 : ¬ pr → B) : if decide pr = true then A else B := by
  by_cases h : pr
  · rw [decide_eq_true h, if_pos rfl]; exact h1 h
  · rw [decide_eq_false h, if_neg Bool.false_ne_true]; exact h2 h
theorem g_iteN {A B pr : Prop} [Decidable pr] (h1 : ¬ pr → A) (h2 : pr → B) : if (!decide pr) = true then A else B := by
  by_cases h : pr
  · rw [decide_eq_true h]; exact h2 h
  · rw [decide_eq_false h]; exact h1 h
theorem g_itb {A B : Prop} {b : Bool} (h1 : b = true → A) (h2 : b = false → B) : if b = true then A else B := by
  cases b with
  | true => exact h1 rfl
  | false => exact h2 rfl
theorem g_for {wi : TI} {g : TG} {tb : TS} (q : wi σ H fun J H1 => ∃ W : Nat → Nat → St → Hp → Prop, (∃ m, W 0 m σ H1) ∧ ∀ i m σ H, W i m σ H →
  (J.stop i H ∧ D.nx σ H) ∨ (J.go i H ∧ ∃ N : St → Hp → Prop, (∀ σ' H', N σ' H' → ∃ m', m' < m ∧ W (i + 1) m' σ' H') ∧ ∀ x H', J.yld i H x H' → g x σ H' fun σ2 H2 => tb { D with nx := N, ct := N, bk := D.nx } σ2 H2)) : tFor wi g tb D σ H := q
theorem g_iList {R : It → Hp → Prop} (q : te σ H fun x H1 => ∃ a, x = .ref a ∧ (∃ xs, SqL K H1 a xs) ∧ R (Itl K a) H1) : iList K te σ H R := q
theorem g_iRng1 {R : It → Hp → Prop} (q : tl σ H fun vs H1 => ∃ j : Int, vs = [.int j] ∧ -(2 ^ 62) ≤ j ∧ j < 2 ^ 62 ∧ R (Itr 0 j.toNat) H1) : iRng1 tl σ H R := q
theorem g_iRng2 {R : It → Hp → Prop} (q : tl σ H fun vs H1 => ∃ i j : Int, vs = [.int i, .int j] ∧ (-(2 ^ 62) ≤ i ∧ i < 2 ^ 62 ∧ -(2 ^ 62) ≤ j ∧ j < 2 ^ 62) ∧ R (Itr i (j - i).toNat) H1) : iRng2 tl σ H R := q
/-- a loop over a list that is at hand -/
theorem f_list {g : TG} {tb : TS} {nxt : St → Hp → Prop} {rt : VK} (h : SqL K H p xs) (Pv : Nat → St → Hp → Prop) (h0 : Pv 0 σ H) (hl : ∀ i σ H, i ≤ xs.length → Pv i σ H → SqL K H p xs)
    (hs : ∀ i x σ H, xs[i]? = some x → Pv i σ H → g x σ H fun σ2 H2 => tb { nx := Pv (i + 1), rt := rt, bk := nxt, ct := Pv (i + 1) } σ2 H2) (hd : ∀ σ H, Pv xs.length σ H → nxt σ H) :
    ∃ a, V.ref p = .ref a ∧ (∃ xs, SqL K H a xs) ∧ ∃ W : Nat → Nat → St → Hp → Prop, (∃ m, W 0 m σ H) ∧ ∀ i m σ H, W i m σ H →
      ((Itl K a).stop i H ∧ nxt σ H) ∨ ((Itl K a).go i H ∧ ∃ N : St → Hp → Prop, (∀ σ' H', N σ' H' → ∃ m', m' < m ∧ W (i + 1) m' σ' H') ∧ ∀ x H', (Itl K a).yld i H x H' → g x σ H' fun σ2 H2 => tb { nx := N, rt := rt, bk := nxt, ct := N } σ2 H2) :=
  ⟨p, rfl, ⟨xs, h⟩, for_list (D := { nx := nxt, rt := rt, bk := nxt, ct := nxt }) Pv h0 hl hs hd⟩
theorem f_rng1 {g : TG} {tb : TS} {nxt : St → Hp → Prop} {rt : VK} (n : Nat) (hn : a.toNat = n) (h1 : -(2 ^ 62) ≤ a) (h2 : a < 2 ^ 62) (Pv : Nat → St → Hp → Prop) (h0 : Pv 0 σ H)
    (hs : ∀ i σ H, i < n → Pv i σ H → g (.int ((i : Nat) : Int)) σ H fun σ2 H2 => tb { nx := Pv (i + 1), rt := rt, bk := nxt, ct := Pv (i + 1) } σ2 H2) (hd : ∀ σ H, Pv n σ H → nxt σ H) :
    ∃ j : Int, [V.int a] = [.int j] ∧ -(2 ^ 62) ≤ j ∧ j < 2 ^ 62 ∧ ∃ W : Nat → Nat → St → Hp → Prop, (∃ m, W 0 m σ H) ∧ ∀ i m σ H, W i m σ H →
      ((Itr 0 j.toNat).stop i H ∧ nxt σ H) ∨ ((Itr 0 j.toNat).go i H ∧ ∃ N : St → Hp → Prop, (∀ σ' H', N σ' H' → ∃ m', m' < m ∧ W (i + 1) m' σ' H') ∧ ∀ x H', (Itr 0 j.toNat).yld i H x H' → g x σ H' fun σ2 H2 => tb { nx := N, rt := rt, bk := nxt, ct := N } σ2 H2) := by
  subst hn
  exact ⟨a, rfl, h1, h2, for_range (lo := 0) (D := { nx := nxt, rt := rt, bk := nxt, ct := nxt }) Pv h0 (fun i σ H hi q => by rw [Int.zero_add]; exact hs i σ H hi q) hd⟩
theorem f_rng {g : TG} {tb : TS} {nxt : St → Hp → Prop} {rt : VK} (hb : 0 ≤ a ∧ a ≤ 1000000) (Pv : Nat → St → Hp → Prop) (h0 : Pv 0 σ H)
    (hs : ∀ i σ H, ((i : Nat) : Int) < a → Pv i σ H → g (.int ((i : Nat) : Int)) σ H fun σ2 H2 => tb { nx := Pv (i + 1), rt := rt, bk := nxt, ct := Pv (i + 1) } σ2 H2) (hd : ∀ σ H, Pv a.toNat σ H → nxt σ H) :
    ∃ j : Int, [V.int a] = [.int j] ∧ -(2 ^ 62) ≤ j ∧ j < 2 ^ 62 ∧ ∃ W : Nat → Nat → St → Hp → Prop, (∃ m, W 0 m σ H) ∧ ∀ i m σ H, W i m σ H →
      ((Itr 0 j.toNat).stop i H ∧ nxt σ H) ∨ ((Itr 0 j.toNat).go i H ∧ ∃ N : St → Hp → Prop, (∀ σ' H', N σ' H' → ∃ m', m' < m ∧ W (i + 1) m' σ' H') ∧ ∀ x H', (Itr 0 j.toNat).yld i H x H' → g x σ H' fun σ2 H2 => tb { nx := N, rt := rt, bk := nxt, ct := N } σ2 H2) :=
  f_rng1 a.toNat rfl (by omega) (by omega) Pv h0 (fun i σ H hi q => hs i σ H (by omega) q) hd
/-! comprehensions -/
theorem g_lc {wi : TI} {g : TG} {tt : TT} {vs : List Nat} (q : wi σ H fun J H1 => ∀ D, H1 D = none → ∃ W : Nat → Nat → Hp → Prop, (∃ m, W 0 m (upd H1 D (.lst []))) ∧ ∀ i m H, W i m H →
  (J.stop i H ∧ Q (.ref D) H) ∨ (J.go i H ∧ ∃ Nx : Hp → Prop, (∀ H', Nx H' → ∃ m', m' < m ∧ W (i + 1) m' H') ∧ ∀ x H', J.yld i H x H' → g x (wipe σ vs) H' fun σ2 H2 => wipe σ2 vs = wipe σ vs ∧ tt σ2 H2 fun b H3 =>
    if b = true then te σ2 H3 fun y H4 => ∃ acc, H4 D = some (.lst acc) ∧ acc.length < sizeLine ∧ Nx (upd H4 D (.lst (acc ++ [y]))) else Nx H3)) : tLc wi g tt te vs σ H Q := q
/-- over a list at hand -/
theorem c_list {g : TG} {tt : TT} {vs : List Nat} {Qd : Addr → Hp → Prop} (h : SqL K H p xs) (Pv : Addr → Nat → Hp → Prop) (h0 : ∀ D, H D = none → Pv D 0 (upd H D (.lst []))) (hl : ∀ D i H', H D = none → i ≤ xs.length → Pv D i H' → SqL K H' p xs)
    (hs : ∀ D i x H', H D = none → xs[i]? = some x → Pv D i H' → g x (wipe σ vs) H' fun σ2 H2 => wipe σ2 vs = wipe σ vs ∧ tt σ2 H2 fun b H3 =>
      if b = true then te σ2 H3 fun y H4 => ∃ acc, H4 D = some (.lst acc) ∧ acc.length < sizeLine ∧ Pv D (i + 1) (upd H4 D (.lst (acc ++ [y]))) else Pv D (i + 1) H3)
    (hd : ∀ D H', H D = none → Pv D xs.length H' → Qd D H') :
    ∃ a, V.ref p = .ref a ∧ (∃ xs, SqL K H a xs) ∧ ∀ D, H D = none → ∃ W : Nat → Nat → Hp → Prop, (∃ m, W 0 m (upd H D (.lst []))) ∧ ∀ i m H, W i m H →
  ((Itl K a).stop i H ∧ Qd D H) ∨ ((Itl K a).go i H ∧ ∃ Nx : Hp → Prop, (∀ H', Nx H' → ∃ m', m' < m ∧ W (i + 1) m' H') ∧ ∀ x H', (Itl K a).yld i H x H' → g x (wipe σ vs) H' fun σ2 H2 => wipe σ2 vs = wipe σ vs ∧ tt σ2 H2 fun b H3 =>
    if b = true then te σ2 H3 fun y H4 => ∃ acc, H4 D = some (.lst acc) ∧ acc.length < sizeLine ∧ Nx (upd H4 D (.lst (acc ++ [y]))) else Nx H3) :=
  ⟨p, rfl, ⟨xs, h⟩, fun D hD => lc_list (xs := xs) (Qd := Qd D) (Pv D) (h0 D hD) (fun i H' hi q => hl D i H' hD hi q) (fun i x H' hx q => hs D i x H' hD hx q) fun H' q => hd D H' hD q⟩
theorem c_rng1 {g : TG} {tt : TT} {vs : List Nat} {Qd : Addr → Hp → Prop} (n : Nat) (hn : a.toNat = n) (h1 : -(2 ^ 62) ≤ a) (h2 : a < 2 ^ 62) (Pv : Addr → Nat → Hp → Prop) (h0 : ∀ D, H D = none → Pv D 0 (upd H D (.lst [])))
    (hs : ∀ D i H', H D = none → i < n → Pv D i H' → g (.int ((i : Nat) : Int)) (wipe σ vs) H' fun σ2 H2 => wipe σ2 vs = wipe σ vs ∧ tt σ2 H2 fun b H3 =>
      if b = true then te σ2 H3 fun y H4 => ∃ acc, H4 D = some (.lst acc) ∧ acc.length < sizeLine ∧ Pv D (i + 1) (upd H4 D (.lst (acc ++ [y]))) else Pv D (i + 1) H3)
    (hd : ∀ D H', H D = none → Pv D n H' → Qd D H') :
    ∃ j : Int, [V.int a] = [.int j] ∧ -(2 ^ 62) ≤ j ∧ j < 2 ^ 62 ∧ ∀ D, H D = none → ∃ W : Nat → Nat → Hp → Prop, (∃ m, W 0 m (upd H D (.lst []))) ∧ ∀ i m H, W i m H →
  ((Itr 0 j.toNat).stop i H ∧ Qd D H) ∨ ((Itr 0 j.toNat).go i H ∧ ∃ Nx : Hp → Prop, (∀ H', Nx H' → ∃ m', m' < m ∧ W (i + 1) m' H') ∧ ∀ x H', (Itr 0 j.toNat).yld i H x H' → g x (wipe σ vs) H' fun σ2 H2 => wipe σ2 vs = wipe σ vs ∧ tt σ2 H2 fun b H3 =>
    if b = true then te σ2 H3 fun y H4 => ∃ acc, H4 D = some (.lst acc) ∧ acc.length < sizeLine ∧ Nx (upd H4 D (.lst (acc ++ [y]))) else Nx H3) := by
  subst hn
  exact ⟨a, rfl, h1, h2, fun D hD => lc_range (lo := 0) (Qd := Qd D) (Pv D) (h0 D hD) (fun i H' hi q => by rw [Int.zero_add]; exact hs D i H' hD hi q) fun H' q => hd D H' hD q⟩
theorem c_rng {g : TG} {tt : TT} {vs : List Nat} {Qd : Addr → Hp → Prop} (hb : 0 ≤ a ∧ a ≤ 1000000) (Pv : Addr → Nat → Hp → Prop) (h0 : ∀ D, H D = none → Pv D 0 (upd H D (.lst [])))
    (hs : ∀ D i H', H D = none → ((i : Nat) : Int) < a → Pv D i H' → g (.int ((i : Nat) : Int)) (wipe σ vs) H' fun σ2 H2 => wipe σ2 vs = wipe σ vs ∧ tt σ2 H2 fun b H3 =>
      if b = true then te σ2 H3 fun y H4 => ∃ acc, H4 D = some (.lst acc) ∧ acc.length < sizeLine ∧ Pv D (i + 1) (upd H4 D (.lst (acc ++ [y]))) else Pv D (i + 1) H3)
    (hd : ∀ D H', H D = none → Pv D a.toNat H' → Qd D H') :
    ∃ j : Int, [V.int a] = [.int j] ∧ -(2 ^ 62) ≤ j ∧ j < 2 ^ 62 ∧ ∀ D, H D = none → ∃ W : Nat → Nat → Hp → Prop, (∃ m, W 0 m (upd H D (.lst []))) ∧ ∀ i m H, W i m H →
  ((Itr 0 j.toNat).stop i H ∧ Qd D H) ∨ ((Itr 0 j.toNat).go i H ∧ ∃ Nx : Hp → Prop, (∀ H', Nx H' → ∃ m', m' < m ∧ W (i + 1) m' H') ∧ ∀ x H', (Itr 0 j.toNat).yld i H x H' → g x (wipe σ vs) H' fun σ2 H2 => wipe σ2 vs = wipe σ vs ∧ tt σ2 H2 fun b H3 =>
    if b = true then te σ2 H3 fun y H4 => ∃ acc, H4 D = some (.lst acc) ∧ acc.length < sizeLine ∧ Nx (upd H4 D (.lst (acc ++ [y]))) else Nx H3) :=
  c_rng1 a.toNat rfl (by omega) (by omega) Pv h0 (fun D i H' hD hi q => hs D i H' hD (by omega) q) hd
/-! ### the same, the heap behind by what is known of it -/
theorem h_tup (q : tl σ H fun xs H1 => xs.length ≤ sizeLine ∧ ∀ p H2, H1 p = none → Kp [] H1 H2 → H2 p = some (.tup xs) → Q (.ref p) H2) (mono : ∀ QA' : List V → Hp → Prop, (∀ xs H1, (xs.length ≤ sizeLine ∧ ∀ p H2, H1 p = none → Kp [] H1 H2 → H2 p = some (.tup xs) → Q (.ref p) H2) → QA' xs H1) → tl σ H QA') : tTup tl σ H Q :=
  mono _ fun xs H1 ⟨h1, h2⟩ => ⟨h1, fun p hp => h2 p _ hp (Kp.refl.new hp) upd_same⟩
theorem h_new {o : HO} (q : ∀ p H2, H p = none → Kp [] H H2 → H2 p = some o → Q (.ref p) H2) : ∀ p, H p = none → Q (.ref p) (upd H p o) := fun p hp => q p _ hp (Kp.refl.new hp) upd_same
theorem g_sz {n : Nat} {P : Prop} (h : n ≤ sizeLine) (q : P) : n ≤ sizeLine ∧ P := ⟨h, q⟩
theorem Kp.of_upd {H H2 : Hp} {p : Addr} {o : HO} (e : upd H p o = H2) (h : H p = none) : Kp [] H H2 := e ▸ Kp.refl.new h
theorem at_upd {H H2 : Hp} {p : Addr} {o : HO} (e : upd H p o = H2) : H2 p = some o := e ▸ upd_same
theorem g_eqc {α : Type} {x y : α} {P : Prop} (h : x = y) (q : P) : x = y ∧ P := ⟨h, q⟩
theorem h_listL (h : SqL K H p xs) (q : ∀ l H2, H l = none → Kp [] H H2 → H2 l = some (.lst xs) → Q (.ref l) H2) : rListS K [.ref p] H Q := g_listL h (h_new q)
theorem h_slL {lo hi : Option Int} (h : SqL K H p xs) (q : ∀ l H2, H l = none → Kp [] H H2 → H2 l = some (.lst (cutV xs lo hi)) → Q (.ref l) H2) : rSlL K (.ref p) lo hi H Q := g_slL h (h_new q)
theorem h_cat {p' : Addr} (h : H p = some (.lst xs)) (h' : H p' = some (.lst ys)) (hl : xs.length + ys.length ≤ sizeLine) (q : ∀ l H2, H l = none → Kp [] H H2 → H2 l = some (.lst (xs ++ ys)) → Q (.ref l) H2) : rCat (.ref p) (.ref p') H Q := g_cat h h' hl (h_new q)
theorem h_sized {o : HO} {n : Nat} (h : n ≤ sizeLine) (q : ∀ p H2, H p = none → Kp [] H H2 → H2 p = some o → Q (.ref p) H2) : n ≤ sizeLine ∧ ∀ p, H p = none → Q (.ref p) (upd H p o) := ⟨h, h_new q⟩
theorem h_setL {QH : Hp → Prop} {k : Int} {j : Nat} (h : H p = some (.lst xs)) (e : ixN xs.length k = some j) (q : ∀ H2, Kp [p] H H2 → H2 p = some (.lst (xs.set j v)) → QH H2) : rSetL (.ref p) (.int k) v H QH :=
  g_setL h e (q _ (Kp.refl.wr (List.mem_singleton.mpr rfl)) upd_same)
theorem h_append (h : H p = some (.lst xs)) (hl : xs.length < sizeLine) (q : ∀ H2, Kp [p] H H2 → H2 p = some (.lst (xs ++ [y])) → Q .non H2) : rAppend (.ref p) [y] H Q :=
  ⟨p, xs, y, rfl, rfl, h, hl, q _ (Kp.refl.wr (List.mem_singleton.mpr rfl)) upd_same⟩
theorem g_bm {T : String} {r : V → List V → Hp → VK → Prop} (q : te σ H fun x H1 => tyV K T x H1 ∧ tl σ H1 fun xs H2 => r x xs H2 Q) : tBM K T r te tl σ H Q := q
theorem g_tyL {A : Prop} (h : SqL K H p xs) (q : A) : tyV K "list" (.ref p) H ∧ A := ⟨.inl ⟨rfl, xs, h⟩, q⟩
end
/-! ### one step by the head of what is to be shown -/
class Stp (goal : Prop) (new : outParam Prop) : Prop where
  imp : new → goal
class Getx (σ : St) (i : Nat) (v : outParam V) : Prop where
  get : σ[i]? = some (some v)
class Setx (σ : St) (i : Nat) (v : V) (σ' : outParam St) : Prop where
  set : σ.set i (some v) = σ'
instance gx0 {v : V} {r : List (Option V)} : Getx (some v :: r) 0 v := ⟨rfl⟩
instance sx0 {b : Option V} {v : V} {r : List (Option V)} : Setx (b :: r) 0 v (some v :: r) := ⟨rfl⟩
instance gx1 {a0 : Option V} {v : V} {r : List (Option V)} : Getx (a0 :: some v :: r) 1 v := ⟨rfl⟩
instance sx1 {a0 : Option V} {b : Option V} {v : V} {r : List (Option V)} : Setx (a0 :: b :: r) 1 v (a0 :: some v :: r) := ⟨rfl⟩
instance gx2 {a0 a1 : Option V} {v : V} {r : List (Option V)} : Getx (a0 :: a1 :: some v :: r) 2 v := ⟨rfl⟩
instance sx2 {a0 a1 : Option V} {b : Option V} {v : V} {r : List (Option V)} : Setx (a0 :: a1 :: b :: r) 2 v (a0 :: a1 :: some v :: r) := ⟨rfl⟩
instance gx3 {a0 a1 a2 : Option V} {v : V} {r : List (Option V)} : Getx (a0 :: a1 :: a2 :: some v :: r) 3 v := ⟨rfl⟩
instance sx3 {a0 a1 a2 : Option V} {b : Option V} {v : V} {r : List (Option V)} : Setx (a0 :: a1 :: a2 :: b :: r) 3 v (a0 :: a1 :: a2 :: some v :: r) := ⟨rfl⟩
instance gx4 {a0 a1 a2 a3 : Option V} {v : V} {r : List (Option V)} : Getx (a0 :: a1 :: a2 :: a3 :: some v :: r) 4 v := ⟨rfl⟩
instance sx4 {a0 a1 a2 a3 : Option V} {b : Option V} {v : V} {r : List (Option V)} : Setx (a0 :: a1 :: a2 :: a3 :: b :: r) 4 v (a0 :: a1 :: a2 :: a3 :: some v :: r) := ⟨rfl⟩
instance gx5 {a0 a1 a2 a3 a4 : Option V} {v : V} {r : List (Option V)} : Getx (a0 :: a1 :: a2 :: a3 :: a4 :: some v :: r) 5 v := ⟨rfl⟩
instance sx5 {a0 a1 a2 a3 a4 : Option V} {b : Option V} {v : V} {r : List (Option V)} : Setx (a0 :: a1 :: a2 :: a3 :: a4 :: b :: r) 5 v (a0 :: a1 :: a2 :: a3 :: a4 :: some v :: r) := ⟨rfl⟩
instance gx6 {a0 a1 a2 a3 a4 a5 : Option V} {v : V} {r : List (Option V)} : Getx (a0 :: a1 :: a2 :: a3 :: a4 :: a5 :: some v :: r) 6 v := ⟨rfl⟩
instance sx6 {a0 a1 a2 a3 a4 a5 : Option V} {b : Option V} {v : V} {r : List (Option V)} : Setx (a0 :: a1 :: a2 :: a3 :: a4 :: a5 :: b :: r) 6 v (a0 :: a1 :: a2 :: a3 :: a4 :: a5 :: some v :: r) := ⟨rfl⟩
instance gx7 {a0 a1 a2 a3 a4 a5 a6 : Option V} {v : V} {r : List (Option V)} : Getx (a0 :: a1 :: a2 :: a3 :: a4 :: a5 :: a6 :: some v :: r) 7 v := ⟨rfl⟩
instance sx7 {a0 a1 a2 a3 a4 a5 a6 : Option V} {b : Option V} {v : V} {r : List (Option V)} : Setx (a0 :: a1 :: a2 :: a3 :: a4 :: a5 :: a6 :: b :: r) 7 v (a0 :: a1 :: a2 :: a3 :: a4 :: a5 :: a6 :: some v :: r) := ⟨rfl⟩
instance gx8 {a0 a1 a2 a3 a4 a5 a6 a7 : Option V} {v : V} {r : List (Option V)} : Getx (a0 :: a1 :: a2 :: a3 :: a4 :: a5 :: a6 :: a7 :: some v :: r) 8 v := ⟨rfl⟩
instance sx8 {a0 a1 a2 a3 a4 a5 a6 a7 : Option V} {b : Option V} {v : V} {r : List (Option V)} : Setx (a0 :: a1 :: a2 :: a3 :: a4 :: a5 :: a6 :: a7 :: b :: r) 8 v (a0 :: a1 :: a2 :: a3 :: a4 :: a5 :: a6 :: a7 :: some v :: r) := ⟨rfl⟩
instance gx9 {a0 a1 a2 a3 a4 a5 a6 a7 a8 : Option V} {v : V} {r : List (Option V)} : Getx (a0 :: a1 :: a2 :: a3 :: a4 :: a5 :: a6 :: a7 :: a8 :: some v :: r) 9 v := ⟨rfl⟩
instance sx9 {a0 a1 a2 a3 a4 a5 a6 a7 a8 : Option V} {b : Option V} {v : V} {r : List (Option V)} : Setx (a0 :: a1 :: a2 :: a3 :: a4 :: a5 :: a6 :: a7 :: a8 :: b :: r) 9 v (a0 :: a1 :: a2 :: a3 :: a4 :: a5 :: a6 :: a7 :: a8 :: some v :: r) := ⟨rfl⟩
instance gx10 {a0 a1 a2 a3 a4 a5 a6 a7 a8 a9 : Option V} {v : V} {r : List (Option V)} : Getx (a0 :: a1 :: a2 :: a3 :: a4 :: a5 :: a6 :: a7 :: a8 :: a9 :: some v :: r) 10 v := ⟨rfl⟩
instance sx10 {a0 a1 a2 a3 a4 a5 a6 a7 a8 a9 : Option V} {b : Option V} {v : V} {r : List (Option V)} : Setx (a0 :: a1 :: a2 :: a3 :: a4 :: a5 :: a6 :: a7 :: a8 :: a9 :: b :: r) 10 v (a0 :: a1 :: a2 :: a3 :: a4 :: a5 :: a6 :: a7 :: a8 :: a9 :: some v :: r) := ⟨rfl⟩
instance gx11 {a0 a1 a2 a3 a4 a5 a6 a7 a8 a9 a10 : Option V} {v : V} {r : List (Option V)} : Getx (a0 :: a1 :: a2 :: a3 :: a4 :: a5 :: a6 :: a7 :: a8 :: a9 :: a10 :: some v :: r) 11 v := ⟨rfl⟩
instance sx11 {a0 a1 a2 a3 a4 a5 a6 a7 a8 a9 a10 : Option V} {b : Option V} {v : V} {r : List (Option V)} : Setx (a0 :: a1 :: a2 :: a3 :: a4 :: a5 :: a6 :: a7 :: a8 :: a9 :: a10 :: b :: r) 11 v (a0 :: a1 :: a2 :: a3 :: a4 :: a5 :: a6 :: a7 :: a8 :: a9 :: a10 :: some v :: r) := ⟨rfl⟩
instance gx12 {a0 a1 a2 a3 a4 a5 a6 a7 a8 a9 a10 a11 : Option V} {v : V} {r : List (Option V)} : Getx (a0 :: a1 :: a2 :: a3 :: a4 :: a5 :: a6 :: a7 :: a8 :: a9 :: a10 :: a11 :: some v :: r) 12 v := ⟨rfl⟩
instance sx12 {a0 a1 a2 a3 a4 a5 a6 a7 a8 a9 a10 a11 : Option V} {b : Option V} {v : V} {r : List (Option V)} : Setx (a0 :: a1 :: a2 :: a3 :: a4 :: a5 :: a6 :: a7 :: a8 :: a9 :: a10 :: a11 :: b :: r) 12 v (a0 :: a1 :: a2 :: a3 :: a4 :: a5 :: a6 :: a7 :: a8 :: a9 :: a10 :: a11 :: some v :: r) := ⟨rfl⟩
instance gx13 {a0 a1 a2 a3 a4 a5 a6 a7 a8 a9 a10 a11 a12 : Option V} {v : V} {r : List (Option V)} : Getx (a0 :: a1 :: a2 :: a3 :: a4 :: a5 :: a6 :: a7 :: a8 :: a9 :: a10 :: a11 :: a12 :: some v :: r) 13 v := ⟨rfl⟩
instance sx13 {a0 a1 a2 a3 a4 a5 a6 a7 a8 a9 a10 a11 a12 : Option V} {b : Option V} {v : V} {r : List (Option V)} : Setx (a0 :: a1 :: a2 :: a3 :: a4 :: a5 :: a6 :: a7 :: a8 :: a9 :: a10 :: a11 :: a12 :: b :: r) 13 v (a0 :: a1 :: a2 :: a3 :: a4 :: a5 :: a6 :: a7 :: a8 :: a9 :: a10 :: a11 :: a12 :: some v :: r) := ⟨rfl⟩
instance gx14 {a0 a1 a2 a3 a4 a5 a6 a7 a8 a9 a10 a11 a12 a13 : Option V} {v : V} {r : List (Option V)} : Getx (a0 :: a1 :: a2 :: a3 :: a4 :: a5 :: a6 :: a7 :: a8 :: a9 :: a10 :: a11 :: a12 :: a13 :: some v :: r) 14 v := ⟨rfl⟩
instance sx14 {a0 a1 a2 a3 a4 a5 a6 a7 a8 a9 a10 a11 a12 a13 : Option V} {b : Option V} {v : V} {r : List (Option V)} : Setx (a0 :: a1 :: a2 :: a3 :: a4 :: a5 :: a6 :: a7 :: a8 :: a9 :: a10 :: a11 :: a12 :: a13 :: b :: r) 14 v (a0 :: a1 :: a2 :: a3 :: a4 :: a5 :: a6 :: a7 :: a8 :: a9 :: a10 :: a11 :: a12 :: a13 :: some v :: r) := ⟨rfl⟩
instance gx15 {a0 a1 a2 a3 a4 a5 a6 a7 a8 a9 a10 a11 a12 a13 a14 : Option V} {v : V} {r : List (Option V)} : Getx (a0 :: a1 :: a2 :: a3 :: a4 :: a5 :: a6 :: a7 :: a8 :: a9 :: a10 :: a11 :: a12 :: a13 :: a14 :: some v :: r) 15 v := ⟨rfl⟩
instance sx15 {a0 a1 a2 a3 a4 a5 a6 a7 a8 a9 a10 a11 a12 a13 a14 : Option V} {b : Option V} {v : V} {r : List (Option V)} : Setx (a0 :: a1 :: a2 :: a3 :: a4 :: a5 :: a6 :: a7 :: a8 :: a9 :: a10 :: a11 :: a12 :: a13 :: a14 :: b :: r) 15 v (a0 :: a1 :: a2 :: a3 :: a4 :: a5 :: a6 :: a7 :: a8 :: a9 :: a10 :: a11 :: a12 :: a13 :: a14 :: some v :: r) := ⟨rfl⟩
instance gx16 {a0 a1 a2 a3 a4 a5 a6 a7 a8 a9 a10 a11 a12 a13 a14 a15 : Option V} {v : V} {r : List (Option V)} : Getx (a0 :: a1 :: a2 :: a3 :: a4 :: a5 :: a6 :: a7 :: a8 :: a9 :: a10 :: a11 :: a12 :: a13 :: a14 :: a15 :: some v :: r) 16 v := ⟨rfl⟩
instance sx16 {a0 a1 a2 a3 a4 a5 a6 a7 a8 a9 a10 a11 a12 a13 a14 a15 : Option V} {b : Option V} {v : V} {r : List (Option V)} : Setx (a0 :: a1 :: a2 :: a3 :: a4 :: a5 :: a6 :: a7 :: a8 :: a9 :: a10 :: a11 :: a12 :: a13 :: a14 :: a15 :: b :: r) 16 v (a0 :: a1 :: a2 :: a3 :: a4 :: a5 :: a6 :: a7 :: a8 :: a9 :: a10 :: a11 :: a12 :: a13 :: a14 :: a15 :: some v :: r) := ⟨rfl⟩
instance gx17 {a0 a1 a2 a3 a4 a5 a6 a7 a8 a9 a10 a11 a12 a13 a14 a15 a16 : Option V} {v : V} {r : List (Option V)} : Getx (a0 :: a1 :: a2 :: a3 :: a4 :: a5 :: a6 :: a7 :: a8 :: a9 :: a10 :: a11 :: a12 :: a13 :: a14 :: a15 :: a16 :: some v :: r) 17 v := ⟨rfl⟩
instance sx17 {a0 a1 a2 a3 a4 a5 a6 a7 a8 a9 a10 a11 a12 a13 a14 a15 a16 : Option V} {b : Option V} {v : V} {r : List (Option V)} : Setx (a0 :: a1 :: a2 :: a3 :: a4 :: a5 :: a6 :: a7 :: a8 :: a9 :: a10 :: a11 :: a12 :: a13 :: a14 :: a15 :: a16 :: b :: r) 17 v (a0 :: a1 :: a2 :: a3 :: a4 :: a5 :: a6 :: a7 :: a8 :: a9 :: a10 :: a11 :: a12 :: a13 :: a14 :: a15 :: a16 :: some v :: r) := ⟨rfl⟩
instance gx18 {a0 a1 a2 a3 a4 a5 a6 a7 a8 a9 a10 a11 a12 a13 a14 a15 a16 a17 : Option V} {v : V} {r : List (Option V)} : Getx (a0 :: a1 :: a2 :: a3 :: a4 :: a5 :: a6 :: a7 :: a8 :: a9 :: a10 :: a11 :: a12 :: a13 :: a14 :: a15 :: a16 :: a17 :: some v :: r) 18 v := ⟨rfl⟩
instance sx18 {a0 a1 a2 a3 a4 a5 a6 a7 a8 a9 a10 a11 a12 a13 a14 a15 a16 a17 : Option V} {b : Option V} {v : V} {r : List (Option V)} : Setx (a0 :: a1 :: a2 :: a3 :: a4 :: a5 :: a6 :: a7 :: a8 :: a9 :: a10 :: a11 :: a12 :: a13 :: a14 :: a15 :: a16 :: a17 :: b :: r) 18 v (a0 :: a1 :: a2 :: a3 :: a4 :: a5 :: a6 :: a7 :: a8 :: a9 :: a10 :: a11 :: a12 :: a13 :: a14 :: a15 :: a16 :: a17 :: some v :: r) := ⟨rfl⟩
instance gx19 {a0 a1 a2 a3 a4 a5 a6 a7 a8 a9 a10 a11 a12 a13 a14 a15 a16 a17 a18 : Option V} {v : V} {r : List (Option V)} : Getx (a0 :: a1 :: a2 :: a3 :: a4 :: a5 :: a6 :: a7 :: a8 :: a9 :: a10 :: a11 :: a12 :: a13 :: a14 :: a15 :: a16 :: a17 :: a18 :: some v :: r) 19 v := ⟨rfl⟩
instance sx19 {a0 a1 a2 a3 a4 a5 a6 a7 a8 a9 a10 a11 a12 a13 a14 a15 a16 a17 a18 : Option V} {b : Option V} {v : V} {r : List (Option V)} : Setx (a0 :: a1 :: a2 :: a3 :: a4 :: a5 :: a6 :: a7 :: a8 :: a9 :: a10 :: a11 :: a12 :: a13 :: a14 :: a15 :: a16 :: a17 :: a18 :: b :: r) 19 v (a0 :: a1 :: a2 :: a3 :: a4 :: a5 :: a6 :: a7 :: a8 :: a9 :: a10 :: a11 :: a12 :: a13 :: a14 :: a15 :: a16 :: a17 :: a18 :: some v :: r) := ⟨rfl⟩
instance gx20 {a0 a1 a2 a3 a4 a5 a6 a7 a8 a9 a10 a11 a12 a13 a14 a15 a16 a17 a18 a19 : Option V} {v : V} {r : List (Option V)} : Getx (a0 :: a1 :: a2 :: a3 :: a4 :: a5 :: a6 :: a7 :: a8 :: a9 :: a10 :: a11 :: a12 :: a13 :: a14 :: a15 :: a16 :: a17 :: a18 :: a19 :: some v :: r) 20 v := ⟨rfl⟩
instance sx20 {a0 a1 a2 a3 a4 a5 a6 a7 a8 a9 a10 a11 a12 a13 a14 a15 a16 a17 a18 a19 : Option V} {b : Option V} {v : V} {r : List (Option V)} : Setx (a0 :: a1 :: a2 :: a3 :: a4 :: a5 :: a6 :: a7 :: a8 :: a9 :: a10 :: a11 :: a12 :: a13 :: a14 :: a15 :: a16 :: a17 :: a18 :: a19 :: b :: r) 20 v (a0 :: a1 :: a2 :: a3 :: a4 :: a5 :: a6 :: a7 :: a8 :: a9 :: a10 :: a11 :: a12 :: a13 :: a14 :: a15 :: a16 :: a17 :: a18 :: a19 :: some v :: r) := ⟨rfl⟩
instance gx21 {a0 a1 a2 a3 a4 a5 a6 a7 a8 a9 a10 a11 a12 a13 a14 a15 a16 a17 a18 a19 a20 : Option V} {v : V} {r : List (Option V)} : Getx (a0 :: a1 :: a2 :: a3 :: a4 :: a5 :: a6 :: a7 :: a8 :: a9 :: a10 :: a11 :: a12 :: a13 :: a14 :: a15 :: a16 :: a17 :: a18 :: a19 :: a20 :: some v :: r) 21 v := ⟨rfl⟩
instance sx21 {a0 a1 a2 a3 a4 a5 a6 a7 a8 a9 a10 a11 a12 a13 a14 a15 a16 a17 a18 a19 a20 : Option V} {b : Option V} {v : V} {r : List (Option V)} : Setx (a0 :: a1 :: a2 :: a3 :: a4 :: a5 :: a6 :: a7 :: a8 :: a9 :: a10 :: a11 :: a12 :: a13 :: a14 :: a15 :: a16 :: a17 :: a18 :: a19 :: a20 :: b :: r) 21 v (a0 :: a1 :: a2 :: a3 :: a4 :: a5 :: a6 :: a7 :: a8 :: a9 :: a10 :: a11 :: a12 :: a13 :: a14 :: a15 :: a16 :: a17 :: a18 :: a19 :: a20 :: some v :: r) := ⟨rfl⟩
instance gx22 {a0 a1 a2 a3 a4 a5 a6 a7 a8 a9 a10 a11 a12 a13 a14 a15 a16 a17 a18 a19 a20 a21 : Option V} {v : V} {r : List (Option V)} : Getx (a0 :: a1 :: a2 :: a3 :: a4 :: a5 :: a6 :: a7 :: a8 :: a9 :: a10 :: a11 :: a12 :: a13 :: a14 :: a15 :: a16 :: a17 :: a18 :: a19 :: a20 :: a21 :: some v :: r) 22 v := ⟨rfl⟩
instance sx22 {a0 a1 a2 a3 a4 a5 a6 a7 a8 a9 a10 a11 a12 a13 a14 a15 a16 a17 a18 a19 a20 a21 : Option V} {b : Option V} {v : V} {r : List (Option V)} : Setx (a0 :: a1 :: a2 :: a3 :: a4 :: a5 :: a6 :: a7 :: a8 :: a9 :: a10 :: a11 :: a12 :: a13 :: a14 :: a15 :: a16 :: a17 :: a18 :: a19 :: a20 :: a21 :: b :: r) 22 v (a0 :: a1 :: a2 :: a3 :: a4 :: a5 :: a6 :: a7 :: a8 :: a9 :: a10 :: a11 :: a12 :: a13 :: a14 :: a15 :: a16 :: a17 :: a18 :: a19 :: a20 :: a21 :: some v :: r) := ⟨rfl⟩
instance gx23 {a0 a1 a2 a3 a4 a5 a6 a7 a8 a9 a10 a11 a12 a13 a14 a15 a16 a17 a18 a19 a20 a21 a22 : Option V} {v : V} {r : List (Option V)} : Getx (a0 :: a1 :: a2 :: a3 :: a4 :: a5 :: a6 :: a7 :: a8 :: a9 :: a10 :: a11 :: a12 :: a13 :: a14 :: a15 :: a16 :: a17 :: a18 :: a19 :: a20 :: a21 :: a22 :: some v :: r) 23 v := ⟨rfl⟩
instance sx23 {a0 a1 a2 a3 a4 a5 a6 a7 a8 a9 a10 a11 a12 a13 a14 a15 a16 a17 a18 a19 a20 a21 a22 : Option V} {b : Option V} {v : V} {r : List (Option V)} : Setx (a0 :: a1 :: a2 :: a3 :: a4 :: a5 :: a6 :: a7 :: a8 :: a9 :: a10 :: a11 :: a12 :: a13 :: a14 :: a15 :: a16 :: a17 :: a18 :: a19 :: a20 :: a21 :: a22 :: b :: r) 23 v (a0 :: a1 :: a2 :: a3 :: a4 :: a5 :: a6 :: a7 :: a8 :: a9 :: a10 :: a11 :: a12 :: a13 :: a14 :: a15 :: a16 :: a17 :: a18 :: a19 :: a20 :: a21 :: a22 :: some v :: r) := ⟨rfl⟩
section
variable {σ σ' : St} {H : Hp} {Q : VK} {QB : Bool → Hp → Prop} {QA : List V → Hp → Prop} {v x y : V} {i j : Nat} {a b : Int} {ta tb te : TE} {t u : TT} {D : Ends} {s1 s2 s3 : TS} {tl tr : TA} {r : R2} {K : PySem.W.Frag} {p : Addr} {xs ys : List V} {rc : RCl} {c : Bool} {wi : TI} {g : TG}
class NotIf (s : TS) : Prop where
  ok : True
instance ni_asg : NotIf (tAsg te g) := ⟨trivial⟩
instance ni_drop : NotIf (tDrop te) := ⟨trivial⟩
instance ni_ret : NotIf (tRet te) := ⟨trivial⟩
instance ni_retN : NotIf (tRetN) := ⟨trivial⟩
instance ni_for : NotIf (tFor wi g s1) := ⟨trivial⟩
instance ni_while : NotIf (tWhile t s1) := ⟨trivial⟩
instance ni_next : NotIf (tNext) := ⟨trivial⟩
instance ni_aug {ti : TIp} : NotIf (tAug i te ti) := ⟨trivial⟩
instance ni_par : NotIf (tPar i j tl) := ⟨trivial⟩
instance ni_seq : NotIf (tSeq s1 s2) := ⟨trivial⟩
instance ni_never : NotIf (tNever) := ⟨trivial⟩
instance ni_fld {f : Str} : NotIf (sFld K ta te f) := ⟨trivial⟩
instance ni_brk : NotIf (tBreak) := ⟨trivial⟩
instance ni_ct : NotIf (tCont) := ⟨trivial⟩
instance p_seq [NotIf s1] : Stp (tSeq s1 s2 D σ H) (s1 { D with nx := s2 D } σ H) := ⟨fun q => q⟩
instance p_asg : Stp (tAsg te g D σ H) (te σ H fun x H1 => g x σ H1 D.nx) := ⟨fun q => q⟩
instance p_drop : Stp (tDrop te D σ H) (te σ H fun _ H1 => D.nx σ H1) := ⟨fun q => q⟩
instance p_ret : Stp (tRet te D σ H) (te σ H D.rt) := ⟨fun q => q⟩
instance p_retN : Stp (tRetN D σ H) (D.rt .non H) := ⟨fun q => q⟩
instance p_next : Stp (tNext D σ H) (D.nx σ H) := ⟨fun q => q⟩
instance p_brk : Stp (tBreak D σ H) (D.bk σ H) := ⟨fun q => q⟩
instance p_ct : Stp (tCont D σ H) (D.ct σ H) := ⟨fun q => q⟩
instance p_ifS : Stp (tIfS t s1 s2 D σ H) (t σ H fun b H1 => if b = true then s1 D σ H1 else s2 D σ H1) := ⟨fun q => q⟩
instance p_name {QS : St → Hp → Prop} [S : Setx σ i v σ'] : Stp (gName i v σ H QS) (QS σ' H) := ⟨fun q => by have e := S.set; subst e; exact q⟩
instance p_sub {to ti : TE} {ts : TSet} {QS : St → Hp → Prop} : Stp (gSub to ti ts v σ H QS) (to σ H fun o H1 => ti σ H1 fun i H2 => ts o i v H2 fun H3 => QS σ H3) := ⟨fun q => q⟩
instance p_aug {ti : TIp} [G : Getx σ i x] : Stp (tAug i te ti D σ H) (te σ H fun y H1 => ti x y H1 fun z H2 => D.nx (σ.set i (some z)) H2) := ⟨fun q => ⟨x, G.get, q⟩⟩
instance p_ipI {f : Int → Int → Int} : Stp (ipI f (.int a) (.int b) H Q) (Q (.int (f a b)) H) := ⟨fun q => ⟨a, b, rfl, rfl, q⟩⟩
instance p_par : Stp (tPar i j tl D σ H) (tl σ H fun vs H1 => ∃ v w, vs = [v, w] ∧ D.nx ((σ.set i (some v)).set j (some w)) H1) := ⟨fun q => q⟩
instance p_var [G : Getx σ i v] : Stp (tVar i σ H Q) (Q v H) := ⟨fun q => ⟨v, G.get, q⟩⟩
instance p_c : Stp (tC v σ H Q) (Q v H) := ⟨fun q => q⟩
instance p_op : Stp (tOp r ta tb σ H Q) (ta σ H fun x H1 => tb σ H1 fun y H2 => r x y H2 Q) := ⟨fun q => q⟩
instance p_un {r : V → Hp → VK → Prop} : Stp (tUn r ta σ H Q) (ta σ H fun x H1 => r x H1 Q) := ⟨fun q => q⟩
instance p_neg : Stp (rU (fun i => .int (-i)) (.int a) H Q) (Q (.int (-a)) H) := ⟨fun q => ⟨a, rfl, q⟩⟩
instance p_I0 {g : Int → Int → V} : Stp (rI0 g (.int a) (.int b) H Q) (Q (g a b) H) := ⟨fun q => ⟨a, b, rfl, rfl, q⟩⟩
instance p_eqI : Stp (rEq (.int a) (.int b) H Q) (Q (.bl (decide (a = b))) H) := ⟨g_eqI⟩
instance p_neI : Stp (rNe (.int a) (.int b) H Q) (Q (.bl (!decide (a = b))) H) := ⟨g_neI⟩
instance p_test : Stp (tTest te σ H QB) (te σ H fun x H1 => ∃ k, x = .bl k ∧ QB k H1) := ⟨fun q => q⟩
instance p_tb : Stp (tB te σ H QB) (te σ H fun x H1 => ∃ k, x = .bl k ∧ QB k H1) := ⟨fun q => q⟩
instance p_bl {b : Bool} {P : Bool → Prop} : Stp (∃ k, V.bl b = .bl k ∧ P k) (P b) := ⟨fun q => ⟨b, rfl, q⟩⟩
instance p_int {P : Int → Prop} : Stp (∃ k, V.int a = .int k ∧ P k) (P a) := ⟨fun q => ⟨a, rfl, q⟩⟩
instance p_vw {P : V → V → Prop} : Stp (∃ v w, [x, y] = [v, w] ∧ P v w) (P x y) := ⟨fun q => ⟨x, y, rfl, q⟩⟩
instance p_and : Stp (tAnd t u σ H QB) (t σ H fun c H1 => if c = true then u σ H1 QB else QB false H1) := ⟨fun q => q⟩
instance p_or : Stp (tOr t u σ H QB) (t σ H fun c H1 => if c = true then QB true H1 else u σ H1 QB) := ⟨fun q => q⟩
instance p_not : Stp (tNot t σ H QB) (t σ H fun c H1 => QB (!c) H1) := ⟨fun q => q⟩
instance p_andV : Stp (tAndV ta tb σ H Q) (ta σ H fun x H1 => ∃ c, x = .bl c ∧ if c = true then tb σ H1 Q else Q (.bl false) H1) := ⟨fun q => q⟩
instance p_orV : Stp (tOrV ta tb σ H Q) (ta σ H fun x H1 => ∃ c, x = .bl c ∧ if c = true then Q (.bl true) H1 else tb σ H1 Q) := ⟨fun q => q⟩
instance p_notV : Stp (tNotV ta σ H Q) (ta σ H fun x H1 => ∃ c, x = .bl c ∧ Q (.bl (!c)) H1) := ⟨fun q => q⟩
instance p_if : Stp (tIf t ta tb σ H Q) (t σ H fun c H1 => if c = true then ta σ H1 Q else tb σ H1 Q) := ⟨fun q => q⟩
instance p_nil : Stp (tNil σ H QA) (QA [] H) := ⟨fun q => q⟩
instance p_cons : Stp (tCons te tr σ H QA) (te σ H fun x H1 => tr σ H1 fun xs H2 => QA (x :: xs) H2) := ⟨fun q => q⟩
instance p_tup : Stp (tTup tl σ H Q) (tl σ H fun xs H1 => xs.length ≤ sizeLine ∧ ∀ p, H1 p = none → Q (.ref p) (upd H1 p (.tup xs))) := ⟨fun q => q⟩
instance p_lst : Stp (tLst tl σ H Q) (tl σ H fun xs H1 => xs.length ≤ sizeLine ∧ ∀ p, H1 p = none → Q (.ref p) (upd H1 p (.lst xs))) := ⟨fun q => q⟩
instance p_cb : Stp (tCB rc tl σ H Q) (tl σ H fun vs H1 => rc vs H1 Q) := ⟨fun q => q⟩
instance p_max2 : Stp (rMax2 [.int a, .int b] H Q) (Q (.int (if b > a then b else a)) H) := ⟨fun q => ⟨a, b, rfl, q⟩⟩
instance p_min2 : Stp (rMin2 [.int a, .int b] H Q) (Q (.int (if b < a then b else a)) H) := ⟨fun q => ⟨a, b, rfl, q⟩⟩
instance p_abs : Stp (rAbs [.int a] H Q) (Q (.int (if a < 0 then -a else a)) H) := ⟨fun q => ⟨a, rfl, q⟩⟩
instance p_int1b : Stp (rInt1 [.bl c] H Q) (Q (.int (if c then 1 else 0)) H) := ⟨fun q => .inr ⟨c, rfl, q⟩⟩
instance p_int1i : Stp (rInt1 [.int a] H Q) (Q (.int a) H) := ⟨fun q => .inl ⟨a, rfl, q⟩⟩
instance p_isN : Stp (rIsN x .non H Q) (Q (.bl (decide (x = .non))) H) := ⟨fun q => ⟨rfl, q⟩⟩
instance p_notN : Stp (rNotN x .non H Q) (Q (.bl (!decide (x = .non))) H) := ⟨fun q => ⟨rfl, q⟩⟩
instance p_sl {r : V → Option Int → Option Int → Hp → VK → Prop} {lo hi : TO} : Stp (tSl r te lo hi σ H Q) (te σ H fun x H1 => lo σ H1 fun l H2 => hi σ H2 fun u H3 => r x l u H3 Q) := ⟨fun q => q⟩
instance p_nopart {QO : Option Int → Hp → Prop} : Stp (tNoPart σ H QO) (QO none H) := ⟨fun q => q⟩
instance p_part {QO : Option Int → Hp → Prop} : Stp (tPart te σ H QO) (te σ H fun x H1 => ∃ i, x = .int i ∧ QO (some i) H1) := ⟨fun q => q⟩
instance p_call {sp : Sp} {dvs : List V} {E : XK} : Stp (tCall sp dvs E tl σ H Q) (tl σ H fun vs H1 => sp (vs ++ dvs) H1 Q E) := ⟨fun q => q⟩
instance p_callP {n : Nat} {pi : List Nat} {sp : Sp} {E : XK} : Stp (tCallP n pi sp E tl σ H Q) (tl σ H fun zs H2 => zs.length = n ∧ sp (perm pi zs) H2 Q E) := ⟨fun q => q⟩
instance p_for {tb : TS} : Stp (tFor wi g tb D σ H) (wi σ H fun J H1 => ∃ W : Nat → Nat → St → Hp → Prop, (∃ m, W 0 m σ H1) ∧ ∀ i m σ H, W i m σ H →
  (J.stop i H ∧ D.nx σ H) ∨ (J.go i H ∧ ∃ N : St → Hp → Prop, (∀ σ' H', N σ' H' → ∃ m', m' < m ∧ W (i + 1) m' σ' H') ∧ ∀ x H', J.yld i H x H' → g x σ H' fun σ2 H2 => tb { D with nx := N, ct := N, bk := D.nx } σ2 H2)) := ⟨fun q => q⟩
instance p_iList {R : It → Hp → Prop} : Stp (iList K te σ H R) (te σ H fun x H1 => ∃ a, x = .ref a ∧ (∃ xs, SqL K H1 a xs) ∧ R (Itl K a) H1) := ⟨fun q => q⟩
instance p_iRng1 {R : It → Hp → Prop} : Stp (iRng1 tl σ H R) (tl σ H fun vs H1 => ∃ j : Int, vs = [.int j] ∧ -(2 ^ 62) ≤ j ∧ j < 2 ^ 62 ∧ R (Itr 0 j.toNat) H1) := ⟨fun q => q⟩
instance p_iRng2 {R : It → Hp → Prop} : Stp (iRng2 tl σ H R) (tl σ H fun vs H1 => ∃ i j : Int, vs = [.int i, .int j] ∧ (-(2 ^ 62) ≤ i ∧ i < 2 ^ 62 ∧ -(2 ^ 62) ≤ j ∧ j < 2 ^ 62) ∧ R (Itr i (j - i).toNat) H1) := ⟨fun q => q⟩
instance p_lc {tt : TT} {vs : List Nat} : Stp (tLc wi g tt te vs σ H Q) (wi σ H fun J H1 => ∀ D, H1 D = none → ∃ W : Nat → Nat → Hp → Prop, (∃ m, W 0 m (upd H1 D (.lst []))) ∧ ∀ i m H, W i m H →
  (J.stop i H ∧ Q (.ref D) H) ∨ (J.go i H ∧ ∃ Nx : Hp → Prop, (∀ H', Nx H' → ∃ m', m' < m ∧ W (i + 1) m' H') ∧ ∀ x H', J.yld i H x H' → g x (wipe σ vs) H' fun σ2 H2 => wipe σ2 vs = wipe σ vs ∧ tt σ2 H2 fun b H3 =>
    if b = true then te σ2 H3 fun y H4 => ∃ acc, H4 D = some (.lst acc) ∧ acc.length < sizeLine ∧ Nx (upd H4 D (.lst (acc ++ [y]))) else Nx H3)) := ⟨fun q => q⟩
instance p_yes : Stp (tYes σ H QB) (QB true H) := ⟨fun q => q⟩
instance p_itT {A B : Prop} : Stp (if true = true then A else B) A := ⟨fun q => q⟩
instance p_itF {A B : Prop} : Stp (if false = true then A else B) B := ⟨fun q => q⟩
instance p_itNT {A B : Prop} : Stp (if (!true) = true then A else B) B := ⟨fun q => q⟩
instance p_itNF {A B : Prop} : Stp (if (!false) = true then A else B) A := ⟨fun q => q⟩
instance p_bm {T : String} {r : V → List V → Hp → VK → Prop} : Stp (tBM K T r te tl σ H Q) (te σ H fun x H1 => tyV K T x H1 ∧ tl σ H1 fun xs H2 => r x xs H2 Q) := ⟨fun q => q⟩
end
/-- behind S-steps a T-step: what T writes is S's or new -/
theorem Kp.step {S T : List Addr} {H H1 H2 : Hp} (a : Kp S H H1) (b : Kp T H1 H2) (h : ∀ x ∈ T, x ∈ S ∨ H x = none) : Kp S H H2 := fun c o e n => b c o (a c o e n) fun z => by
  rcases h c z with q | q
  · exact n q
  · rw [q] at e; cases e
theorem set_0 {α : Type} {a0 v : α} {r : List α} : (a0 :: r).set 0 v = v :: r := rfl
theorem set_1 {α : Type} {a0 a1 v : α} {r : List α} : (a0 :: a1 :: r).set 1 v = a0 :: v :: r := rfl
theorem set_2 {α : Type} {a0 a1 a2 v : α} {r : List α} : (a0 :: a1 :: a2 :: r).set 2 v = a0 :: a1 :: v :: r := rfl
theorem set_3 {α : Type} {a0 a1 a2 a3 v : α} {r : List α} : (a0 :: a1 :: a2 :: a3 :: r).set 3 v = a0 :: a1 :: a2 :: v :: r := rfl
theorem set_4 {α : Type} {a0 a1 a2 a3 a4 v : α} {r : List α} : (a0 :: a1 :: a2 :: a3 :: a4 :: r).set 4 v = a0 :: a1 :: a2 :: a3 :: v :: r := rfl
theorem set_5 {α : Type} {a0 a1 a2 a3 a4 a5 v : α} {r : List α} : (a0 :: a1 :: a2 :: a3 :: a4 :: a5 :: r).set 5 v = a0 :: a1 :: a2 :: a3 :: a4 :: v :: r := rfl
theorem set_6 {α : Type} {a0 a1 a2 a3 a4 a5 a6 v : α} {r : List α} : (a0 :: a1 :: a2 :: a3 :: a4 :: a5 :: a6 :: r).set 6 v = a0 :: a1 :: a2 :: a3 :: a4 :: a5 :: v :: r := rfl
theorem set_7 {α : Type} {a0 a1 a2 a3 a4 a5 a6 a7 v : α} {r : List α} : (a0 :: a1 :: a2 :: a3 :: a4 :: a5 :: a6 :: a7 :: r).set 7 v = a0 :: a1 :: a2 :: a3 :: a4 :: a5 :: a6 :: v :: r := rfl
theorem set_8 {α : Type} {a0 a1 a2 a3 a4 a5 a6 a7 a8 v : α} {r : List α} : (a0 :: a1 :: a2 :: a3 :: a4 :: a5 :: a6 :: a7 :: a8 :: r).set 8 v = a0 :: a1 :: a2 :: a3 :: a4 :: a5 :: a6 :: a7 :: v :: r := rfl
theorem set_9 {α : Type} {a0 a1 a2 a3 a4 a5 a6 a7 a8 a9 v : α} {r : List α} : (a0 :: a1 :: a2 :: a3 :: a4 :: a5 :: a6 :: a7 :: a8 :: a9 :: r).set 9 v = a0 :: a1 :: a2 :: a3 :: a4 :: a5 :: a6 :: a7 :: a8 :: v :: r := rfl
theorem set_10 {α : Type} {a0 a1 a2 a3 a4 a5 a6 a7 a8 a9 a10 v : α} {r : List α} : (a0 :: a1 :: a2 :: a3 :: a4 :: a5 :: a6 :: a7 :: a8 :: a9 :: a10 :: r).set 10 v = a0 :: a1 :: a2 :: a3 :: a4 :: a5 :: a6 :: a7 :: a8 :: a9 :: v :: r := rfl
theorem set_11 {α : Type} {a0 a1 a2 a3 a4 a5 a6 a7 a8 a9 a10 a11 v : α} {r : List α} : (a0 :: a1 :: a2 :: a3 :: a4 :: a5 :: a6 :: a7 :: a8 :: a9 :: a10 :: a11 :: r).set 11 v = a0 :: a1 :: a2 :: a3 :: a4 :: a5 :: a6 :: a7 :: a8 :: a9 :: a10 :: v :: r := rfl
theorem set_12 {α : Type} {a0 a1 a2 a3 a4 a5 a6 a7 a8 a9 a10 a11 a12 v : α} {r : List α} : (a0 :: a1 :: a2 :: a3 :: a4 :: a5 :: a6 :: a7 :: a8 :: a9 :: a10 :: a11 :: a12 :: r).set 12 v = a0 :: a1 :: a2 :: a3 :: a4 :: a5 :: a6 :: a7 :: a8 :: a9 :: a10 :: a11 :: v :: r := rfl
theorem set_13 {α : Type} {a0 a1 a2 a3 a4 a5 a6 a7 a8 a9 a10 a11 a12 a13 v : α} {r : List α} : (a0 :: a1 :: a2 :: a3 :: a4 :: a5 :: a6 :: a7 :: a8 :: a9 :: a10 :: a11 :: a12 :: a13 :: r).set 13 v = a0 :: a1 :: a2 :: a3 :: a4 :: a5 :: a6 :: a7 :: a8 :: a9 :: a10 :: a11 :: a12 :: v :: r := rfl
theorem set_14 {α : Type} {a0 a1 a2 a3 a4 a5 a6 a7 a8 a9 a10 a11 a12 a13 a14 v : α} {r : List α} : (a0 :: a1 :: a2 :: a3 :: a4 :: a5 :: a6 :: a7 :: a8 :: a9 :: a10 :: a11 :: a12 :: a13 :: a14 :: r).set 14 v = a0 :: a1 :: a2 :: a3 :: a4 :: a5 :: a6 :: a7 :: a8 :: a9 :: a10 :: a11 :: a12 :: a13 :: v :: r := rfl
theorem set_15 {α : Type} {a0 a1 a2 a3 a4 a5 a6 a7 a8 a9 a10 a11 a12 a13 a14 a15 v : α} {r : List α} : (a0 :: a1 :: a2 :: a3 :: a4 :: a5 :: a6 :: a7 :: a8 :: a9 :: a10 :: a11 :: a12 :: a13 :: a14 :: a15 :: r).set 15 v = a0 :: a1 :: a2 :: a3 :: a4 :: a5 :: a6 :: a7 :: a8 :: a9 :: a10 :: a11 :: a12 :: a13 :: a14 :: v :: r := rfl
theorem set_16 {α : Type} {a0 a1 a2 a3 a4 a5 a6 a7 a8 a9 a10 a11 a12 a13 a14 a15 a16 v : α} {r : List α} : (a0 :: a1 :: a2 :: a3 :: a4 :: a5 :: a6 :: a7 :: a8 :: a9 :: a10 :: a11 :: a12 :: a13 :: a14 :: a15 :: a16 :: r).set 16 v = a0 :: a1 :: a2 :: a3 :: a4 :: a5 :: a6 :: a7 :: a8 :: a9 :: a10 :: a11 :: a12 :: a13 :: a14 :: a15 :: v :: r := rfl
theorem set_17 {α : Type} {a0 a1 a2 a3 a4 a5 a6 a7 a8 a9 a10 a11 a12 a13 a14 a15 a16 a17 v : α} {r : List α} : (a0 :: a1 :: a2 :: a3 :: a4 :: a5 :: a6 :: a7 :: a8 :: a9 :: a10 :: a11 :: a12 :: a13 :: a14 :: a15 :: a16 :: a17 :: r).set 17 v = a0 :: a1 :: a2 :: a3 :: a4 :: a5 :: a6 :: a7 :: a8 :: a9 :: a10 :: a11 :: a12 :: a13 :: a14 :: a15 :: a16 :: v :: r := rfl
theorem set_18 {α : Type} {a0 a1 a2 a3 a4 a5 a6 a7 a8 a9 a10 a11 a12 a13 a14 a15 a16 a17 a18 v : α} {r : List α} : (a0 :: a1 :: a2 :: a3 :: a4 :: a5 :: a6 :: a7 :: a8 :: a9 :: a10 :: a11 :: a12 :: a13 :: a14 :: a15 :: a16 :: a17 :: a18 :: r).set 18 v = a0 :: a1 :: a2 :: a3 :: a4 :: a5 :: a6 :: a7 :: a8 :: a9 :: a10 :: a11 :: a12 :: a13 :: a14 :: a15 :: a16 :: a17 :: v :: r := rfl
theorem set_19 {α : Type} {a0 a1 a2 a3 a4 a5 a6 a7 a8 a9 a10 a11 a12 a13 a14 a15 a16 a17 a18 a19 v : α} {r : List α} : (a0 :: a1 :: a2 :: a3 :: a4 :: a5 :: a6 :: a7 :: a8 :: a9 :: a10 :: a11 :: a12 :: a13 :: a14 :: a15 :: a16 :: a17 :: a18 :: a19 :: r).set 19 v = a0 :: a1 :: a2 :: a3 :: a4 :: a5 :: a6 :: a7 :: a8 :: a9 :: a10 :: a11 :: a12 :: a13 :: a14 :: a15 :: a16 :: a17 :: a18 :: v :: r := rfl
theorem set_20 {α : Type} {a0 a1 a2 a3 a4 a5 a6 a7 a8 a9 a10 a11 a12 a13 a14 a15 a16 a17 a18 a19 a20 v : α} {r : List α} : (a0 :: a1 :: a2 :: a3 :: a4 :: a5 :: a6 :: a7 :: a8 :: a9 :: a10 :: a11 :: a12 :: a13 :: a14 :: a15 :: a16 :: a17 :: a18 :: a19 :: a20 :: r).set 20 v = a0 :: a1 :: a2 :: a3 :: a4 :: a5 :: a6 :: a7 :: a8 :: a9 :: a10 :: a11 :: a12 :: a13 :: a14 :: a15 :: a16 :: a17 :: a18 :: a19 :: v :: r := rfl
theorem set_21 {α : Type} {a0 a1 a2 a3 a4 a5 a6 a7 a8 a9 a10 a11 a12 a13 a14 a15 a16 a17 a18 a19 a20 a21 v : α} {r : List α} : (a0 :: a1 :: a2 :: a3 :: a4 :: a5 :: a6 :: a7 :: a8 :: a9 :: a10 :: a11 :: a12 :: a13 :: a14 :: a15 :: a16 :: a17 :: a18 :: a19 :: a20 :: a21 :: r).set 21 v = a0 :: a1 :: a2 :: a3 :: a4 :: a5 :: a6 :: a7 :: a8 :: a9 :: a10 :: a11 :: a12 :: a13 :: a14 :: a15 :: a16 :: a17 :: a18 :: a19 :: a20 :: v :: r := rfl
theorem set_22 {α : Type} {a0 a1 a2 a3 a4 a5 a6 a7 a8 a9 a10 a11 a12 a13 a14 a15 a16 a17 a18 a19 a20 a21 a22 v : α} {r : List α} : (a0 :: a1 :: a2 :: a3 :: a4 :: a5 :: a6 :: a7 :: a8 :: a9 :: a10 :: a11 :: a12 :: a13 :: a14 :: a15 :: a16 :: a17 :: a18 :: a19 :: a20 :: a21 :: a22 :: r).set 22 v = a0 :: a1 :: a2 :: a3 :: a4 :: a5 :: a6 :: a7 :: a8 :: a9 :: a10 :: a11 :: a12 :: a13 :: a14 :: a15 :: a16 :: a17 :: a18 :: a19 :: a20 :: a21 :: v :: r := rfl
theorem set_23 {α : Type} {a0 a1 a2 a3 a4 a5 a6 a7 a8 a9 a10 a11 a12 a13 a14 a15 a16 a17 a18 a19 a20 a21 a22 a23 v : α} {r : List α} : (a0 :: a1 :: a2 :: a3 :: a4 :: a5 :: a6 :: a7 :: a8 :: a9 :: a10 :: a11 :: a12 :: a13 :: a14 :: a15 :: a16 :: a17 :: a18 :: a19 :: a20 :: a21 :: a22 :: a23 :: r).set 23 v = a0 :: a1 :: a2 :: a3 :: a4 :: a5 :: a6 :: a7 :: a8 :: a9 :: a10 :: a11 :: a12 :: a13 :: a14 :: a15 :: a16 :: a17 :: a18 :: a19 :: a20 :: a21 :: a22 :: v :: r := rfl
theorem at_0 {x0 : V} {r : List V} : atI (x0 :: r) 0 = some x0 := atI_nat (j := 0) rfl
theorem at_1 {x0 x1 : V} {r : List V} : atI (x0 :: x1 :: r) 1 = some x1 := atI_nat (j := 1) rfl
theorem at_2 {x0 x1 x2 : V} {r : List V} : atI (x0 :: x1 :: x2 :: r) 2 = some x2 := atI_nat (j := 2) rfl
theorem at_3 {x0 x1 x2 x3 : V} {r : List V} : atI (x0 :: x1 :: x2 :: x3 :: r) 3 = some x3 := atI_nat (j := 3) rfl
theorem at_4 {x0 x1 x2 x3 x4 : V} {r : List V} : atI (x0 :: x1 :: x2 :: x3 :: x4 :: r) 4 = some x4 := atI_nat (j := 4) rfl
theorem at_5 {x0 x1 x2 x3 x4 x5 : V} {r : List V} : atI (x0 :: x1 :: x2 :: x3 :: x4 :: x5 :: r) 5 = some x5 := atI_nat (j := 5) rfl
theorem at_6 {x0 x1 x2 x3 x4 x5 x6 : V} {r : List V} : atI (x0 :: x1 :: x2 :: x3 :: x4 :: x5 :: x6 :: r) 6 = some x6 := atI_nat (j := 6) rfl
theorem at_7 {x0 x1 x2 x3 x4 x5 x6 x7 : V} {r : List V} : atI (x0 :: x1 :: x2 :: x3 :: x4 :: x5 :: x6 :: x7 :: r) 7 = some x7 := atI_nat (j := 7) rfl
theorem at_8 {x0 x1 x2 x3 x4 x5 x6 x7 x8 : V} {r : List V} : atI (x0 :: x1 :: x2 :: x3 :: x4 :: x5 :: x6 :: x7 :: x8 :: r) 8 = some x8 := atI_nat (j := 8) rfl
theorem at_9 {x0 x1 x2 x3 x4 x5 x6 x7 x8 x9 : V} {r : List V} : atI (x0 :: x1 :: x2 :: x3 :: x4 :: x5 :: x6 :: x7 :: x8 :: x9 :: r) 9 = some x9 := atI_nat (j := 9) rfl
theorem at_10 {x0 x1 x2 x3 x4 x5 x6 x7 x8 x9 x10 : V} {r : List V} : atI (x0 :: x1 :: x2 :: x3 :: x4 :: x5 :: x6 :: x7 :: x8 :: x9 :: x10 :: r) 10 = some x10 := atI_nat (j := 10) rfl
theorem at_11 {x0 x1 x2 x3 x4 x5 x6 x7 x8 x9 x10 x11 : V} {r : List V} : atI (x0 :: x1 :: x2 :: x3 :: x4 :: x5 :: x6 :: x7 :: x8 :: x9 :: x10 :: x11 :: r) 11 = some x11 := atI_nat (j := 11) rfl
theorem at_12 {x0 x1 x2 x3 x4 x5 x6 x7 x8 x9 x10 x11 x12 : V} {r : List V} : atI (x0 :: x1 :: x2 :: x3 :: x4 :: x5 :: x6 :: x7 :: x8 :: x9 :: x10 :: x11 :: x12 :: r) 12 = some x12 := atI_nat (j := 12) rfl
theorem at_13 {x0 x1 x2 x3 x4 x5 x6 x7 x8 x9 x10 x11 x12 x13 : V} {r : List V} : atI (x0 :: x1 :: x2 :: x3 :: x4 :: x5 :: x6 :: x7 :: x8 :: x9 :: x10 :: x11 :: x12 :: x13 :: r) 13 = some x13 := atI_nat (j := 13) rfl
theorem at_14 {x0 x1 x2 x3 x4 x5 x6 x7 x8 x9 x10 x11 x12 x13 x14 : V} {r : List V} : atI (x0 :: x1 :: x2 :: x3 :: x4 :: x5 :: x6 :: x7 :: x8 :: x9 :: x10 :: x11 :: x12 :: x13 :: x14 :: r) 14 = some x14 := atI_nat (j := 14) rfl
theorem at_15 {x0 x1 x2 x3 x4 x5 x6 x7 x8 x9 x10 x11 x12 x13 x14 x15 : V} {r : List V} : atI (x0 :: x1 :: x2 :: x3 :: x4 :: x5 :: x6 :: x7 :: x8 :: x9 :: x10 :: x11 :: x12 :: x13 :: x14 :: x15 :: r) 15 = some x15 := atI_nat (j := 15) rfl
theorem c_mulL {i j : Int} (h1 : -18446744073709551616 < i) (h2 : i < 18446744073709551616) : CMul i j := Or.inl ⟨h1, h2⟩
theorem c_mulR {i j : Int} (h1 : -18446744073709551616 < j) (h2 : j < 18446744073709551616) : CMul i j := Or.inr ⟨h1, h2⟩
theorem c_mulB {i : Int} {c : Bool} : CMul i (if c then 1 else 0) := by cases c <;> exact Or.inr ⟨by decide, by decide⟩
theorem pow2_le {n m : Nat} (h : n ≤ m) : (2 : Int) ^ n ≤ 2 ^ m := by exact_mod_cast Nat.pow_le_pow_right (by decide : 0 < 2) h
theorem c_divW {i j : Int} (h : 0 < j) (h2 : j < 2 ^ 200) : CDivW i j := wide_div h (b := 200) (by omega) (by decide) (by decide)
theorem c_pow {i j : Int} (h : 0 ≤ j) (h1 : j ≤ 1000000) (h2 : i.natAbs < 2 ^ 64) : CPow i j := ⟨h, h1, h2⟩
/-- tracked -/
structure Dom (H : Hp) (a : Addr) : Prop where
  ex : ∃ o, H a = some o
theorem Dom.of {H : Hp} {a : Addr} {o : HO} (h : H a = some o) : Dom H a := ⟨o, h⟩
theorem Dom.at {S : List Addr} {H H1 : Hp} {a : Addr} (k : Kp S H H1) (h : Dom H a) (n : a ∉ S) : Dom H1 a := let ⟨o, e⟩ := h.ex; ⟨o, k _ _ e n⟩
theorem ne_dom {H : Hp} {a b : Addr} (h : Dom H a) (h' : H b = none) : a ≠ b := let ⟨_, e⟩ := h.ex; ne_of_none e h'
/-- a way put by: found by kp alone -/
structure KpC (S : List Addr) (H H1 : Hp) : Prop where
  k : Kp S H H1
theorem nm0 {a : Addr} : a ∉ ([] : List Addr) := fun h => nomatch h
theorem nm1 {a b : Addr} (h : a ≠ b) : a ∉ [b] := fun z => h (List.mem_singleton.mp z)
theorem nm2 {a b : Addr} {S : List Addr} (h : a ≠ b) (h2 : a ∉ S) : a ∉ b :: S := fun z => (List.mem_cons.mp z).elim h h2
theorem al0 {P : Addr → Prop} : ∀ x ∈ ([] : List Addr), P x := fun _ h => nomatch h
theorem al1 {P : Addr → Prop} {b : Addr} {S : List Addr} (h : P b) (h2 : ∀ x ∈ S, P x) : ∀ x ∈ b :: S, P x := fun x z => (List.mem_cons.mp z).elim (fun e => e ▸ h) (h2 x)
/-- a list of ints at hand, item by item -/
theorem ints_at {ns : List Int} {i : Nat} {x : V} (h : (ns.map V.int)[i]? = some x) : ∃ n, ns[i]? = some n ∧ x = .int n := by
  rw [List.getElem?_map] at h
  cases e : ns[i]? with
  | none => rw [e] at h; cases h
  | some n => rw [e] at h; exact ⟨n, rfl, (Option.some.inj h).symm⟩
theorem ints_get {ns : List Int} {i : Nat} {n : Int} (h : ns[i]? = some n) : (ns.map V.int)[i]? = some (.int n) := by rw [List.getElem?_map, h]; rfl
theorem ints_ix {ns : List Int} {j : Int} (h0 : 0 ≤ j) (h1 : j < ns.length) : ∃ n, ns[j.toNat]? = some n ∧ atI (ns.map V.int) j = some (.int n) := by
  obtain ⟨m, rfl⟩ : ∃ m : Nat, j = (m : Int) := ⟨j.toNat, (Int.toNat_of_nonneg h0).symm⟩
  have hl : m < ns.length := by omega
  rw [Int.toNat_natCast]
  exact ⟨ns[m], List.getElem?_eq_getElem hl, atI_nat (ints_get (List.getElem?_eq_getElem hl))⟩
theorem ints_flat : ∀ ns : List Int, (ns.map V.int).all flatV = true
  | [] => rfl
  | _ :: r => by rw [List.map_cons, List.all_cons, ints_flat r]; rfl
/-- a slice's items -/
def cutG {α : Type} (xs : List α) (lo hi : Option Int) : List α := (xs.drop (HT.sIx xs.length 0 lo)).take (HT.sIx xs.length xs.length hi - HT.sIx xs.length 0 lo)
theorem cut_map {α : Type} (f : α → V) (xs : List α) (lo hi : Option Int) : cutV (xs.map f) lo hi = (cutG xs lo hi).map f := by
  unfold cutV cutG
  rw [List.length_map, ← List.map_drop, ← List.map_take]
theorem cut_to {α : Type} (xs : List α) (k : Nat) : cutG xs none (some (k : Int)) = xs.take k := by
  unfold cutG
  rw [HT.sIx_none, HT.sIx_nat, List.drop_zero, Nat.sub_zero]
  by_cases h : k ≤ xs.length
  · rw [Nat.min_eq_left h]
  · rw [Nat.min_eq_right (by omega), List.take_length, List.take_of_length_le (by omega)]
theorem cut_from {α : Type} (xs : List α) (k : Nat) : cutG xs (some (k : Int)) none = xs.drop k := by
  unfold cutG
  rw [HT.sIx_none, HT.sIx_nat]
  by_cases h : k ≤ xs.length
  · rw [Nat.min_eq_left h, List.take_of_length_le (by rw [List.length_drop]; omega)]
  · rw [Nat.min_eq_right (by omega), List.drop_length, List.drop_eq_nil_of_le (by omega)]; exact List.take_nil
theorem sz_small {n : Nat} (h : n ≤ 100000) : n ≤ sizeLine := Nat.le_trans h (by decide)
theorem sz_less {n : Nat} (h : n < 100000) : n < sizeLine := Nat.lt_of_lt_of_le h (by decide)
theorem idx_le {x : Int} : ∀ {ns : List Int} {m : Nat}, ns[m]? = some x → ns.idxOf x ≤ m
  | [], m, h => by simp at h
  | a :: r, 0, h => by
    have e : a = x := Option.some.inj h
    rw [List.idxOf_cons, e]; simp
  | a :: r, m + 1, h => by
    have z := idx_le (ns := r) (m := m) h
    rw [List.idxOf_cons]
    cases (a == x)
    · exact Nat.succ_le_succ z
    · exact Nat.zero_le _
theorem ixN_nat {n j : Nat} (h : j < n) : ixN n ((j : Nat) : Int) = some j := by
  unfold ixN
  simp [h]
section
variable {σ : St} {H : Hp} {Q : VK} {K : PySem.W.Frag} {p : Addr} {ns : List Int} {x : Int} {D : Ends} {t : TT} {tb : TS}
theorem h_idx (h : SqL K H p (ns.map V.int)) (hx : x ∈ ns) (q : Q (.int ((ns.idxOf x : Nat) : Int)) H) : rIndex K (.ref p) [.int x] H Q := by
  have hl : ns.idxOf x < ns.length := List.idxOf_lt_length_of_mem hx
  refine ⟨p, ns.map V.int, .int x, ns.idxOf x, .int x, rfl, rfl, h, rfl, ints_flat ns, ?_, ?_, ?_, q⟩
  · rw [List.getElem?_map, List.getElem?_eq_getElem hl, List.getElem_idxOf hl]; rfl
  · show (x == x) = true
    exact beq_self_eq_true x
  · intro m z hm hz
    obtain ⟨n, hn, rfl⟩ := ints_at hz
    show (n == x) = false
    by_cases e : n = x
    · subst e
      exact absurd hm (Nat.not_lt_of_le (idx_le hn))
    · exact beq_false_of_ne e
theorem h_insert {xs : List V} {i : Int} {y : V} (h : H p = some (.lst xs)) (hl : xs.length < sizeLine) (h0 : 0 ≤ i) (h1 : i < 2 ^ 63) (q : ∀ H2, Kp [p] H H2 → H2 p = some (.lst (xs.take i.toNat ++ [y] ++ xs.drop i.toNat)) → Q .non H2) : rInsert (.ref p) [.int i, y] H Q :=
  ⟨p, xs, i, y, rfl, rfl, h, hl, h0, h1, q _ (Kp.refl.wr (List.mem_singleton.mpr rfl)) upd_same⟩
end
section
variable {H : Hp} {Q : VK} {K : PySem.W.Frag} {p p' : Addr} {ns ms : List Int}
theorem cut_toI {j : Int} (h : 0 ≤ j) : cutV (ns.map V.int) none (some j) = (ns.take j.toNat).map V.int := by
  have e : j = ((j.toNat : Nat) : Int) := (Int.toNat_of_nonneg h).symm
  rw [cut_map]
  conv => lhs; rw [e]
  rw [cut_to]
theorem cut_fromI {j : Int} (h : 0 ≤ j) : cutV (ns.map V.int) (some j) none = (ns.drop j.toNat).map V.int := by
  have e : j = ((j.toNat : Nat) : Int) := (Int.toNat_of_nonneg h).symm
  rw [cut_map]
  conv => lhs; rw [e]
  rw [cut_from]
theorem h_slTo {j : Int} (h : SqL K H p (ns.map V.int)) (h0 : 0 ≤ j) (q : ∀ l H2, H l = none → Kp [] H H2 → H2 l = some (.lst ((ns.take j.toNat).map V.int)) → Q (.ref l) H2) : rSlL K (.ref p) none (some j) H Q :=
  h_slL h fun l H2 a b c => q l H2 a b (by rw [c, cut_toI h0])
theorem h_slFrom {j : Int} (h : SqL K H p (ns.map V.int)) (h0 : 0 ≤ j) (q : ∀ l H2, H l = none → Kp [] H H2 → H2 l = some (.lst ((ns.drop j.toNat).map V.int)) → Q (.ref l) H2) : rSlL K (.ref p) (some j) none H Q :=
  h_slL h fun l H2 a b c => q l H2 a b (by rw [c, cut_fromI h0])
theorem h_catI (h : H p = some (.lst (ns.map V.int))) (h' : H p' = some (.lst (ms.map V.int))) (hl : ns.length + ms.length ≤ sizeLine) (q : ∀ l H2, H l = none → Kp [] H H2 → H2 l = some (.lst ((ns ++ ms).map V.int)) → Q (.ref l) H2) : rCat (.ref p) (.ref p') H Q :=
  h_cat h h' (by rw [List.length_map, List.length_map]; exact hl) fun l H2 a b c => q l H2 a b (by rw [c, List.map_append])
theorem h_catI1 {n : Int} (h : H p = some (.lst (ns.map V.int))) (h' : H p' = some (.lst [.int n])) (hl : ns.length + 1 ≤ sizeLine) (q : ∀ l H2, H l = none → Kp [] H H2 → H2 l = some (.lst ((ns ++ [n]).map V.int)) → Q (.ref l) H2) : rCat (.ref p) (.ref p') H Q :=
  h_cat h h' (by rw [List.length_map]; exact hl) fun l H2 a b c => q l H2 a b (by rw [c, List.map_append]; rfl)
theorem h_catI2 {n : Int} (h : H p = some (.lst [.int n])) (h' : H p' = some (.lst (ns.map V.int))) (hl : 1 + ns.length ≤ sizeLine) (q : ∀ l H2, H l = none → Kp [] H H2 → H2 l = some (.lst ((n :: ns).map V.int)) → Q (.ref l) H2) : rCat (.ref p) (.ref p') H Q :=
  h_cat h h' (by rw [List.length_map]; exact hl) fun l H2 a b c => q l H2 a b (by rw [c]; rfl)
theorem h_appendI {n : Int} (h : H p = some (.lst (ns.map V.int))) (hl : ns.length < sizeLine) (q : ∀ H2, Kp [p] H H2 → H2 p = some (.lst ((ns ++ [n]).map V.int)) → Q .non H2) : rAppend (.ref p) [.int n] H Q :=
  h_append h (by rw [List.length_map]; exact hl) fun H2 a b => q H2 a (by rw [b, List.map_append]; rfl)
theorem h_insertI {i n : Int} (h : H p = some (.lst (ns.map V.int))) (hl : ns.length < sizeLine) (h0 : 0 ≤ i) (h1 : i < 2 ^ 63) (q : ∀ H2, Kp [p] H H2 → H2 p = some (.lst ((ns.take i.toNat ++ [n] ++ ns.drop i.toNat).map V.int)) → Q .non H2) : rInsert (.ref p) [.int i, .int n] H Q :=
  h_insert h (by rw [List.length_map]; exact hl) h0 h1 fun H2 a b => q H2 a (by rw [b, List.map_append, List.map_append, List.map_take, List.map_drop]; rfl)
theorem h_setLI {QH : Hp → Prop} {k n : Int} {j : Nat} (h : H p = some (.lst (ns.map V.int))) (e : ixN ns.length k = some j) (q : ∀ H2, Kp [p] H H2 → H2 p = some (.lst ((ns.set j n).map V.int)) → QH H2) : rSetL (.ref p) (.int k) (.int n) H QH :=
  h_setL h (by rw [List.length_map]; exact e) fun H2 a b => q H2 a (by rw [b, List.map_set])
theorem ixN_lit {n j : Nat} {k : Int} (e : k = (j : Nat)) (h : j < n) : ixN n k = some j := by subst e; exact ixN_nat h
theorem h_all {bs : List Bool} (h : SqL K H p (bs.map V.bl)) (q : Q (.bl (bs.all id)) H) : rAll K [.ref p] H Q := ⟨p, bs, rfl, h, q⟩
theorem h_any {bs : List Bool} (h : SqL K H p (bs.map V.bl)) (q : Q (.bl (bs.any id)) H) : rAny K [.ref p] H Q := ⟨p, bs, rfl, h, q⟩
end
end NN
/-! own rule: a star among targets -/
namespace NN
open PySem L2
def gStar (K : PySem.W.Frag) (n i : Nat) (t : TGs) : TG := fun v σ H Q => ∃ a xs, v = .ref a ∧ SqL K H a xs ∧ n ≤ xs.length + 1 ∧ xs.length ≤ 10000 ∧
  ∀ D, H D = none → t (xs.take i ++ [.ref D] ++ (xs.drop i).drop (xs.length + 1 - n)) σ (upd H D (.lst ((xs.drop i).take (xs.length + 1 - n)))) Q
theorem got {P : Program} {w : World} {H : Hp} {h : Heap} {a : Addr} : ∀ {o : HO}, ObjOk P w H h a o → ∃ ob, h.get? a = some ob
  | .lst _, ⟨_, _, _, _, e⟩ => ⟨_, e⟩
  | .tup _, ⟨_, _, _, ob, e, _⟩ => ⟨ob, e⟩
  | .dK _, ⟨_, _, _, _, ob, _, _, e, _⟩ => ⟨ob, e⟩
  | .dT _, ⟨_, _, _, _, ob, _, _, e, _⟩ => ⟨ob, e⟩
  | .set _ _, ⟨ob, _, _, _, e, _⟩ => ⟨ob, e⟩
  | .ins _ _ _, ⟨_, _, _, e, _⟩ => ⟨_, e⟩
  | .own _, ⟨ob, e⟩ => ⟨ob, e⟩
  | .xd _, ⟨_, ⟨ob, _, _, e, _⟩, _⟩ => ⟨ob, e⟩
  | .rng _ _, ⟨_, _, _, e⟩ => ⟨_, e⟩
  | .frz _ _, ⟨e, _⟩ => ⟨_, e⟩
  | .tbl _, e => ⟨_, e⟩
  | .met _ _, e => ⟨_, e⟩
  | .ext _, ⟨_, ⟨ob, e⟩, _⟩ => ⟨ob, e⟩
section
variable {X : Cx} {pos : Pos}
theorem pgs_star {e : Expr} {p : Pos} {es : List Expr} {t : TG} {u : TGs} (h1 : PG X e t) (h2 : PGs X es u)
    (hs : (assignEach (.Starred e p :: es) X.env).map (·.2) = assign e X.env :: (assignEach es X.env).map (·.2) := by rfl) : PGs X (.Starred e p :: es) (gCons t u) := by
  refine ⟨fun pins s σ H vs us Q I r h => ?_⟩
  obtain ⟨v, vr, e1, h⟩ := h
  subst e1
  cases r with
  | cons r rr =>
    rw [hs]
    refine PyProof.Rows.assignInOrder_cons (thn (h1.run pins s σ H _ _ _ I r h) fun _ s1 ⟨σ1, H1, I1, q1⟩ => ?_)
    exact h2.run pins s1 σ1 H1 _ _ Q I1 rr q1
theorem pg_star {es : List Expr} {k : Nat} {t : TGs} {n i : Nat} (hc : X.calm = true) (h : PGs X es t) (hi : i < n)
    (hn : (assignEach es X.env).length = n := by rfl) (hst : (assignEach es X.env).findIdx? (·.1) = some i := by rfl) : PG X (.Tuple es k pos) (gStar X.K n i t) := by
  refine ⟨fun pins s σ H v u Q I r hw => ?_⟩
  obtain ⟨a, xs, e1, hq, hl, hz, hw⟩ := hw
  subst e1
  cases r
  obtain ⟨its, rv, pl, _⟩ := I.list hq
  have hl' : s.heap.IsList a its.toArray := by
    obtain ⟨o, m, e, c, d, q⟩ := pl
    exact ⟨o, e, c, m, q⟩
  have elen : its.toArray.size = xs.length := by rw [rv.length]; simp
  obtain ⟨m, F⟩ := I.fr
  refine PySem.W.kun_assignL (n := n) (i := i) F (news_all (g := X.base) (L := X.env.locals)) hl' (I.ok.hd hc) hn hst hi (by rw [elen]; exact hl) (by rw [elen]; omega) rfl rfl rfl fun D h' tk F' N' hD => ?_
  have hDp := N' (D, _) List.mem_cons_self
  have kept : ∀ b o, b ≠ X.env.locals → s.heap.get? b = some o → h'.get? b = some o := fun b o hb e => by
    cases q : X.base.get? b with
    | some o2 =>
      have z := I.bk b o2 q
      rw [e] at z; cases z
      exact F'.keep b _ q
    | none => exact (N' (b, o) (List.mem_cons_of_mem _ (mem_allNews hb q e))).1
  have newD : s.heap.get? D = none := by
    cases q : s.heap.get? D with
    | none => rfl
    | some o => exact absurd (hD (D, o) (mem_allNews hDp.2.1 hDp.2.2 q)) (Nat.lt_irrefl _)
  have HD : H D = none := by
    cases q : H D with
    | none => rfl
    | some o =>
      obtain ⟨oo, eo⟩ := got (I.hok D o q)
      rw [newD] at eo; cases eo
  have nD : ∀ b o, s.heap.get? b = some o → b ≠ D := fun b o e z => by rw [z, newD] at e; cases e
  have nL : ∀ b o, H b = some o → b ≠ X.env.locals := fun b o e z => by rw [z, I.free] at e; cases e
  have tkd : ∀ b o, H b = some o → upd H D (.lst ((xs.drop i).take (xs.length + 1 - n))) b = some o := fun b o e => by rw [upd_ne (ne_of_none e HD)]; exact e
  have hok : HOk X.prog X.w (upd H D (.lst ((xs.drop i).take (xs.length + 1 - n)))) h' := fun b o e => by
    by_cases hb : b = D
    · subst hb
      rw [upd_same] at e; cases e
      refine ⟨?_, _, 0, ?_, hDp.1⟩
      · rw [List.length_take, List.length_drop]; exact sz_small (by omega)
      · rw [elen]
        exact (rv.drop i).take _
    · rw [upd_ne hb] at e
      refine (I.hok b o e).stay (fun c w hc' q => kept c w ?_ q) (fun c q => tkd c _ q) fun c ys q => tkd c _ q
      rcases hc' with z | z
      · rw [z]; exact nL b o e
      · exact nL c _ z
  have I1 : Inv X pins σ (upd H D (.lst ((xs.drop i).take (xs.length + 1 - n)))) { s with heap := h', toks := tk } := by
    refine I.step (g' := s.gens) (d' := s.drawn) (ch := []) (fun _ z => nomatch z) (fun b o hb _ _ e _ => kept b o hb e) (fun b o hb _ _ e _ => ⟨o.slots, kept b o hb e⟩)
      (fun b o _ e n => by rw [upd_ne (nD b o e)]; exact n) (fun b o _ e => ?_) (fun b ys e => tkd b _ e) (fun b o u e => tkd b _ e) (fun b ps e => ⟨#[], by rw [tkd b _ e]; simp⟩) (fun m' hm' => ?_) hok I.bare
    · by_cases hb : b = X.env.locals
      · obtain ⟨o', _, _, e', _⟩ := F'.ns
        exact ⟨o', by rw [hb]; exact e'⟩
      · exact ⟨o, kept b o hb e⟩
    · have em : m' = m := by
        obtain ⟨o1, es1, ep1, q1, d1, _, f1⟩ := hm'
        obtain ⟨o2, es2, ep2, q2, d2, _, f2⟩ := F.ns
        rw [q1] at q2; cases q2
        rw [d1] at d2
        injection d2 with d2 _
        subst d2
        funext x
        exact (f1 x).symm.trans (f2 x)
      rw [em]; exact F'.ns
  have rv2 : Vals (xs.take i ++ [.ref D] ++ (xs.drop i).drop (xs.length + 1 - n)) (its.toArray.toList.take i ++ [.ref D] ++ (its.toArray.toList.drop i).drop (its.toArray.size + 1 - n)) := by
    rw [elen]
    exact ((rv.take i).append (.cons (show RelV (.ref D) (.ref D) from rfl) .nil)).append ((rv.drop i).drop _)
  exact h.run pins _ σ _ _ _ Q I1 rv2 (hw D HD)
end
instance p_gNil {σ : St} {H : Hp} {QS : St → Hp → Prop} : Stp (gNil [] σ H QS) (QS σ H) := ⟨fun q => ⟨rfl, q⟩⟩
instance p_gCons {σ : St} {H : Hp} {QS : St → Hp → Prop} {v : V} {r : List V} {t : TG} {u : TGs} : Stp (gCons t u (v :: r) σ H QS) (t v σ H fun σ' H' => u r σ' H' QS) := ⟨fun q => ⟨v, r, rfl, q⟩⟩
section
variable {K : PySem.W.Frag} {σ : St} {H : Hp} {QS : St → Hp → Prop} {p : Addr} {ns : List Int} {t : TGs}
/-- *ahead, last = a list of ints -/
theorem h_starLast {f : Int} (h : SqL K H p ((ns ++ [f]).map V.int)) (hl : ns.length < 9999) (q : ∀ D H2, H D = none → Kp [] H H2 → H2 D = some (.lst (ns.map V.int)) → t [.ref D, .int f] σ H2 QS) : gStar K 2 0 t (.ref p) σ H QS := by
  refine ⟨p, _, rfl, h, by simp, by simp; omega, fun D hD => ?_⟩
  have e1 : (((ns ++ [f]).map V.int).drop 0).drop (((ns ++ [f]).map V.int).length + 1 - 2) = [.int f] := by simp
  have e2 : (((ns ++ [f]).map V.int).drop 0).take (((ns ++ [f]).map V.int).length + 1 - 2) = ns.map V.int := by simp
  rw [e1, e2]
  exact q D _ hD (Kp.refl.new hD) upd_same
end
end NN
/-! own: data at any depth, held against each other -/
namespace NN
open PySem L2
/-- data that may be compared, of at most that depth -/
def Sh (n : Nat) (d : PyData) : Prop := d.canLay0 = true ∧ d.depth ≤ n
def ShA (n : Nat) (ds : List PyData) : Prop := PyData.canLayAll0 ds = true ∧ PyData.depthAll ds ≤ n
theorem Sh.non {n : Nat} : Sh n .none := ⟨rfl, Nat.zero_le _⟩
theorem Sh.int {n : Nat} {i : Int} : Sh n (.int i) := ⟨rfl, Nat.zero_le _⟩
theorem Sh.bool {n : Nat} {b : Bool} : Sh n (.bool b) := ⟨rfl, Nat.zero_le _⟩
theorem Sh.list {n : Nat} {ds : List PyData} (h : ShA n ds) : Sh (n + 1) (.list ds) := ⟨h.1, Nat.succ_le_succ h.2⟩
theorem Sh.tuple {n : Nat} {ds : List PyData} (h : ShA n ds) : Sh (n + 1) (.tuple ds) := ⟨h.1, Nat.succ_le_succ h.2⟩
theorem ShA.nil {n : Nat} : ShA n [] := ⟨rfl, Nat.zero_le _⟩
theorem ShA.cons {n : Nat} {d : PyData} {ds : List PyData} (h : Sh n d) (h2 : ShA n ds) : ShA n (d :: ds) := by
  refine ⟨?_, Nat.max_le.mpr ⟨h.2, h2.2⟩⟩
  show (d.canLay0 && PyData.canLayAll0 ds) = true
  rw [h.1, h2.1]; rfl
theorem ShA.all {n : Nat} {α : Type} {f : α → PyData} : ∀ {xs : List α}, (∀ x ∈ xs, Sh n (f x)) → ShA n (xs.map f)
  | [], _ => .nil
  | x :: r, h => .cons (h x List.mem_cons_self) (ShA.all fun y hy => h y (List.mem_cons_of_mem _ hy))
theorem ShA.ints {n : Nat} {ns : List Int} : ShA n (ns.map PyData.int) := .all fun _ _ => .int
theorem Sh.shaped {n : Nat} {d : PyData} (h : Sh n d) (hn : n ≤ 64) : SeqAt.shaped d = true := by
  unfold SeqAt.shaped
  rw [h.1, decide_eq_true (Nat.le_trans h.2 hn)]; rfl
theorem Sh.mono {n m : Nat} {d : PyData} (h : Sh n d) (hn : n ≤ m) : Sh m d := ⟨h.1, Nat.le_trans h.2 hn⟩
/-! no bools, no dicts: equal where the data are the same -/
mutual
def noB : PyData → Bool
  | .none => true
  | .bool _ => false
  | .int _ => true
  | .str _ => true
  | .list xs => noBA xs
  | .tuple xs => noBA xs
  | .dict _ => false
def noBA : List PyData → Bool
  | [] => true
  | x :: xs => noB x && noBA xs
end
mutual
theorem eqv_eq : ∀ d e : PyData, noB d = true → noB e = true → PyData.eqv d e = true → d = e
  | .none, e, _, he, h => by cases e <;> simp_all [PyData.eqv, noB]
  | .bool _, _, h, _, _ => nomatch h
  | .int i, e, _, he, h => by cases e <;> simp_all [PyData.eqv, noB]
  | .str x, e, _, he, h => by cases e <;> simp_all [PyData.eqv, noB]
  | .list xs, e, hd, he, h => by
    cases e with
    | list ys =>
      rw [PyData.eqv] at h
      rw [eqvAll_eq' xs ys hd he h]
    | _ => simp_all [PyData.eqv, noB]
  | .tuple xs, e, hd, he, h => by
    cases e with
    | tuple ys =>
      rw [PyData.eqv] at h
      rw [eqvAll_eq' xs ys hd he h]
    | _ => simp_all [PyData.eqv, noB]
  | .dict _, _, h, _, _ => nomatch h
theorem eqvAll_eq' : ∀ ds es : List PyData, noBA ds = true → noBA es = true → PyData.eqvAll ds es = true → ds = es
  | [], [], _, _, _ => rfl
  | [], _ :: _, _, _, h => nomatch h
  | _ :: _, [], _, _, h => nomatch h
  | d :: ds, e :: es, hd, he, h => by
    have h1 : PyData.eqv d e = true ∧ PyData.eqvAll ds es = true := by simpa [PyData.eqvAll] using h
    have h2 : noB d = true ∧ noBA ds = true := by simpa [noBA] using hd
    have h3 : noB e = true ∧ noBA es = true := by simpa [noBA] using he
    rw [eqv_eq d e h2.1 h3.1 h1.1, eqvAll_eq' ds es h2.2 h3.2 h1.2]
end
theorem noBA.ints : ∀ ns : List Int, noBA (ns.map PyData.int) = true
  | [] => rfl
  | _ :: r => by
    show (true && noBA (r.map PyData.int)) = true
    rw [noBA.ints r]; rfl
open Classical in
/-- ==, != of data -/
theorem eqv_dec {n : Nat} {d e : PyData} (h : Sh n d) (hd : noB d = true) (he : noB e = true) : PyData.eqv d e = decide (d = e) := by
  by_cases q : d = e
  · subst q; rw [decide_eq_true rfl]; exact PySem.SeqAt.eqv_refl d h.1
  · rw [decide_eq_false q]
    cases z : PyData.eqv d e with
    | false => rfl
    | true => exact absurd (eqv_eq d e hd he z) q
section
variable {K : PySem.W.Frag} {H : Hp} {Q : VK} {x y : V} {d e : PyData} {n m : Nat} {p : Addr} {ns : List Int}
theorem dp_ints (h : SqL K H p (ns.map V.int)) : Dp K H (.ref p) (.list (ns.map PyData.int)) := .lst h (by
  clear h
  induction ns with
  | nil => exact .nil
  | cons i r ih => exact .cons (.int i) ih)
/-- equal ones -/
theorem d_eqT (hx : Dp K H x d) (hy : Dp K H y d) (s1 : Sh n d) (hn : n ≤ 64) (q : Q (.bl true) H) : rEqD K x y H Q :=
  ⟨d, d, hx, hy, s1.shaped hn, s1.shaped hn, by rw [PySem.SeqAt.eqv_refl d s1.1]; exact q⟩
theorem d_neF (hx : Dp K H x d) (hy : Dp K H y d) (s1 : Sh n d) (hn : n ≤ 64) (q : Q (.bl false) H) : rNeD K x y H Q :=
  ⟨d, d, hx, hy, s1.shaped hn, s1.shaped hn, by rw [PySem.SeqAt.eqv_refl d s1.1]; exact q⟩
open Classical in
theorem d_eq (hx : Dp K H x d) (hy : Dp K H y e) (s1 : Sh n d) (s2 : Sh m e) (hn : n ≤ 64) (hm : m ≤ 64) (hd : noB d = true) (he : noB e = true) (q : Q (.bl (decide (d = e))) H) : rEqD K x y H Q :=
  ⟨d, e, hx, hy, s1.shaped hn, s2.shaped hm, by rw [eqv_dec s1 hd he]; exact q⟩
open Classical in
theorem d_ne (hx : Dp K H x d) (hy : Dp K H y e) (s1 : Sh n d) (s2 : Sh m e) (hn : n ≤ 64) (hm : m ≤ 64) (hd : noB d = true) (he : noB e = true) (q : Q (.bl (!decide (d = e))) H) : rNeD K x y H Q :=
  ⟨d, e, hx, hy, s1.shaped hn, s2.shaped hm, by rw [eqv_dec s1 hd he]; exact q⟩
theorem ints_inj : ∀ {ns ms : List Int}, ns.map PyData.int = ms.map PyData.int → ns = ms
  | [], [], _ => rfl
  | [], _ :: _, h => nomatch h
  | _ :: _, [], h => nomatch h
  | a :: r, b :: t, h => by
    injection h with h1 h2
    injection h1 with h1
    rw [h1, ints_inj h2]
/-- two lists of ints -/
theorem d_eqI {ms : List Int} {p' : Addr} (hx : SqL K H p (ns.map V.int)) (hy : SqL K H p' (ms.map V.int)) (q : Q (.bl (decide (ns = ms))) H) : rEqD K (.ref p) (.ref p') H Q :=
  ⟨_, _, dp_ints hx, dp_ints hy, (Sh.list (n := 0) .ints).shaped (by decide), (Sh.list (n := 0) .ints).shaped (by decide), by
    have e : PyData.eqv (.list (ns.map PyData.int)) (.list (ms.map PyData.int)) = decide (ns = ms) := by
      by_cases h : ns = ms
      · subst h; rw [decide_eq_true rfl]; exact PySem.SeqAt.eqv_refl _ (Sh.list (n := 0) .ints).1
      · rw [decide_eq_false h]
        cases z : PyData.eqv (.list (ns.map PyData.int)) (.list (ms.map PyData.int)) with
        | false => rfl
        | true =>
          have z2 := eqv_eq (.list (ns.map PyData.int)) (.list (ms.map PyData.int)) (noBA.ints ns) (noBA.ints ms) z
          injection z2 with z2
          exact absurd (ints_inj z2) h
    rw [e]; exact q⟩
theorem d_neI {ms : List Int} {p' : Addr} (hx : SqL K H p (ns.map V.int)) (hy : SqL K H p' (ms.map V.int)) (q : Q (.bl (!decide (ns = ms))) H) : rNeD K (.ref p) (.ref p') H Q := by
  have z : rEqD K (.ref p) (.ref p') H (fun v H' => v = .bl (decide (ns = ms)) ∧ H' = H) := d_eqI hx hy ⟨rfl, rfl⟩
  obtain ⟨d, e, h1, h2, h3, h4, h5, _⟩ := z
  injection h5 with h5
  exact ⟨d, e, h1, h2, h3, h4, by rw [h5]; exact q⟩
theorem inV_int {i : Int} : ∀ {ms : List Int}, inV (.int i) (ms.map V.int) = decide (i ∈ ms)
  | [] => (decide_eq_false (fun z => nomatch z)).symm
  | m :: r => by
    show (eqV (.int m) (.int i) || inV (.int i) (r.map V.int)) = _
    rw [inV_int]
    show ((m == i) || decide (i ∈ r)) = _
    by_cases h : m = i
    · subst h; simp
    · by_cases h2 : i ∈ r
      · simp [h2]
      · have : i ≠ m := fun z => h z.symm
        simp [h, h2, this]
end
section
variable {K : PySem.W.Frag} {H : Hp} {Q : VK} {x : V}
/-- isinstance of a built-in class -/
theorem isi {t n : String} {b : Bool} (h : TyX K H x (.type t)) (e : kitB t n = some b) (q : Q (.bl b) H) : rIsi K [x, .ty n] H Q := ⟨x, .ty n, _, _, b, rfl, .ty n, h, kit_ty e, q⟩
end
end NN
/-! own: calls of any shape (places, keywords, defaults), of defs, methods, classes -/
namespace NN
open PySem L2
/-- where a parameter's value comes from -/
inductive Src where
  | pos (i : Nat) | kw (i : Nat) | dfl (i : Nat) | kwd (i : Nat)
def consO {α : Type} : Option α → List α → List α
  | none, l => l
  | some x, l => x :: l
def srcAt {α : Type} (us ws its kv : List α) : Src → Option α
  | .pos i => us[i]? | .kw i => ws[i]? | .dfl i => its[i]? | .kwd i => kv[i]?
def plan {α : Type} (us ws its kv : List α) : List Src → List α
  | [] => []
  | c :: l => consO (srcAt us ws its kv c) (plan us ws its kv l)
theorem consO_rel {xs : List V} {ys : List Value} {A : List V} {B : List Value} (i : Nat) (q : Vals xs ys) (h : Vals A B) : Vals (consO xs[i]? A) (consO ys[i]? B) := by
  cases e : xs[i]? with
  | none => rw [q.none_of e]; exact h
  | some z =>
    obtain ⟨u, e2, r2⟩ := q.get e
    rw [e2]
    exact .cons r2 h
theorem plan_rel (pl : List Src) {vs zs ds ks : List V} {us ws its kv : List Value} (r : Vals vs us) (rz : Vals zs ws) (rd : Vals ds its) (rk : Vals ks kv) : Vals (plan vs zs ds ks pl) (plan us ws its kv pl) := by
  induction pl with
  | nil => exact .nil
  | cons c l ih =>
    cases c with
    | pos i => exact consO_rel i r ih
    | kw i => exact consO_rel i rz ih
    | dfl i => exact consO_rel i rd ih
    | kwd i => exact consO_rel i rk ih
/-- how a call with n places and keywords ks binds -/
def CallB (K : PySem.W.Frag) (fd : FuncData) (ps : List Str) (n : Nat) (ks : List Str) (pl : List Src) (dvs kvs : List V) : Prop :=
  ∀ (s : Shared) (us ws : List Value) (vs zs : List V), K.In s.heap → us.length = n → ws.length = ks.length → Vals vs us → Vals zs ws →
    ∃ args : List Value, Vals (plan vs zs dvs kvs pl) args ∧ BindsTo s fd ⟨us, ks.zip ws⟩ (ps.zip args)
section
variable {K : PySem.W.Frag} {x qual : Str} {params : Arguments} {body : List Stmt} {scope : Scope} {dvs : List V} {kws : List (Str × V)} {f : Addr} {fd : FuncData} {ps ks : List Str} {pl : List Src} {n : Nat}
/-- no default is asked -/
theorem callb_p (F : FunD K x qual params body scope [] kws f fd)
    (h : ∀ (kV doc pm : Value) (an : Option Addr) (cdv ct : Value) (us ws : List Value), us.length = n → ws.length = ks.length → bindArgs (PySem.W.fnOf x qual params body scope .none kV doc pm an cdv ct) ⟨us, ks.zip ws⟩ = pure (ps.zip (plan us ws [] [] pl))) : CallB K fd ps n ks pl [] [] := fun s us ws vs zs X hn hm r rz => by
  obtain ⟨oc, od, dV, kV, doc, pm, an, cdv, ct, osl, rfl, lk, hcd, hD, hK⟩ := F.ex
  rcases hD with ⟨_, rfl⟩ | ⟨e, _⟩
  · exact ⟨_, plan_rel pl r rz .nil .nil, .of_eq (h kV doc pm an cdv ct us ws hn hm)⟩
  · exact absurd rfl e
/-- defaults of the places -/
theorem callb_d (F : FunD K x qual params body scope dvs kws f fd) (hd : dvs ≠ [])
    (h : ∀ (T : Addr) (kV doc pm : Value) (an : Option Addr) (cdv ct : Value) (us ws its : List Value), us.length = n → ws.length = ks.length → its.length = dvs.length →
      ∃ k, bindArgs (PySem.W.fnOf x qual params body scope (.ref T) kV doc pm an cdv ct) ⟨us, ks.zip ws⟩ = seqItems? (.ref T) >>= k ∧ k (some its.toArray) = pure (ps.zip (plan us ws its [] pl))) : CallB K fd ps n ks pl dvs [] := fun s us ws vs zs X hn hm r rz => by
  obtain ⟨oc, od, dV, kV, doc, pm, an, cdv, ct, osl, rfl, lk, hcd, hD, hK⟩ := F.ex
  rcases hD with ⟨e, _⟩ | ⟨_, T, o, its, m, rfl, lT, oT, rT⟩
  · exact absurd e hd
  · obtain ⟨k, e1, e2⟩ := h T kV doc pm an cdv ct us ws its hn hm rT.length.symm
    refine ⟨_, plan_rel pl r rz rT .nil, L2.BindsTo.of_looks fun M => ?_⟩
    rw [e1]
    exact looks_items X lT oT (.of_pure e2)
end
section
variable {X : Cx} {CX : CXT} {k : Nat} {f C : Addr} {fd : FuncData} {ps ks : List Str} {pl : List Src} {dvs kvs : List V} {n : Nat} {sp : Sp} {x m : Str} {p pos apos : Pos} {e o : Expr} {es : List Expr} {kws : List Keyword} {ta : TE} {t tk : TA} {E : St → XK}
/-- the arguments of a call -/
structure PAr (X : Cx) (pos : Pos) (es : List Expr) (kws : List Keyword) (ks : List Str) (t tk : TA) : Prop where
  run : ∀ (pins : List (Addr × Obj)) (s : Shared) (σ : St) (H : Hp) (f : Value) (first : List Value) (R : List V → List V → Hp → Prop) (Q : Value → Shared → Prop), PySem.W.keepIn X.K f = true → Inv X pins σ H s → (t σ H fun vs H1 => tk σ H1 fun zs H2 => R vs zs H2) →
    (∀ us ws vs zs H2 s2, Inv X pins σ H2 s2 → Vals vs us → Vals zs ws → R vs zs H2 → wpAny (model X.prog X.w) X.A (call f (first ++ us) (ks.zip ws)) Q X.xe s2) →
    wpAny (model X.prog X.w) X.A (callWith pos f first (backTo pos (starEach es X.env)) (backToKw pos (keywordEach kws X.env))) Q X.xe s
theorem par_pos (ha : PA X (e :: es) t) (he : starEach (e :: es) X.env = (false, eval e X.env) :: starEach es X.env := by rfl) (hpl : (backTo pos (starEach es X.env)).any (·.1) = false := by rfl) : PAr X pos (e :: es) [] [] t tNil :=
  ⟨fun pins s σ H f first R Q hk I h run => PySem.W.callWith_K (h₀ := X.base) I.ok.mod.kin hk (thn (ha.run pos pins s σ H _ I h) fun us s1 ⟨vs, H1, I1, r, q⟩ => ⟨I1.kIn, run us [] vs [] H1 s1 I1 r .nil q⟩) he hpl⟩
theorem par_0 : PAr X pos [] [] [] tNil tNil :=
  ⟨fun pins s σ H f first R Q hk I h run => PySem.W.callWith_K0 I.kIn hk (run [] [] [] [] H s I .nil .nil h)⟩
theorem par_kw (hkw : PK X kws tk) (hall : (backToKw pos (keywordEach kws X.env)).all (·.1.isSome) = true := by rfl) (hks : (backToKw pos (keywordEach kws X.env)).filterMap (·.1) = ks := by rfl)
    (hpl : (backToKw pos (keywordEach kws X.env)).any (·.1.isNone) = false := by rfl) : PAr X pos [] kws ks tNil tk :=
  ⟨fun pins s σ H f first R Q hk I h run => PySem.W.callWith_KW0 (h₀ := X.base) I.ok.mod.kin hk hall (thn (hkw.run pos pins s σ H _ I h) fun ws s2 ⟨zs, H2, I2, rz, q⟩ => ⟨I2.kIn, by rw [hks]; exact run [] ws [] zs H2 s2 I2 .nil rz q⟩) hpl⟩
theorem par_both (ha : PA X (e :: es) t) (hkw : PK X kws tk) (hall : (backToKw pos (keywordEach kws X.env)).all (·.1.isSome) = true := by rfl) (hks : (backToKw pos (keywordEach kws X.env)).filterMap (·.1) = ks := by rfl)
    (he : starEach (e :: es) X.env = (false, eval e X.env) :: starEach es X.env := by rfl) (hpl : ((backTo pos (starEach (e :: es) X.env)).any (·.1) || (backToKw pos (keywordEach kws X.env)).any (·.1.isNone)) = false := by rfl) : PAr X pos (e :: es) kws ks t tk :=
  ⟨fun pins s σ H f first R Q hk I h run => PySem.W.callWith_KW (h₀ := X.base) I.ok.mod.kin hk hall (thn (ha.run pos pins s σ H _ I h) fun us s1 ⟨vs, H1, I1, r, q⟩ =>
    thn (hkw.run pos pins s1 σ H1 _ I1 q) fun ws s2 ⟨zs, H2, I2, rz, q2⟩ => ⟨I2.kIn, by rw [hks]; exact run us ws vs zs H2 s2 I2 r rz q2⟩) hpl he⟩
/-- the callee runs -/
theorem run_c {pins : List (Addr × Obj)} {σ : St} {H : Hp} {s : Shared} {Q : VK} {us ws : List Value} {vs zs : List V} {E : XK} (F : FnOk X.prog X.w X.K X.mg X.base CX k f fd ps sp) (hr : Room k X.A) (hb : CallB X.K fd ps n ks pl dvs kvs) (hx : PassesAt CX X σ E)
    (I : Inv X pins σ H s) (r : Vals vs us) (rz : Vals zs ws) (hn : vs.length = n) (hm : zs.length = ks.length) (h : sp (plan vs zs dvs kvs pl) H Q E) : wpAny (model X.prog X.w) X.A (call (.ref f) us (ks.zip ws)) (EP X pins σ Q) X.xe s := by
  obtain ⟨args, ra, b⟩ := hb s us ws vs zs I.kIn (r.length.symm.trans hn) (rz.length.symm.trans hm) r rz
  refine wpAny_call (codeAny_mono (F.run X.A X.stack s H ⟨us, ks.zip ws⟩ args _ Q E hr I.env0 b ra h) fun r s' hq => ?_)
  cases r with
  | error e => exact hx pins H s e s' I hq
  | ok fl =>
    cases fl with
    | ret u => exact I.after hq
    | next => exact False.elim hq
    | brk => exact False.elim hq
    | cont => exact False.elim hq
def tCl (sp : Sp) (pl : List Src) (dvs kvs : List V) (n m : Nat) (E : St → XK) (t tk : TA) : TE := fun σ H Q => t σ H fun vs H1 => tk σ H1 fun zs H2 => vs.length = n ∧ zs.length = m ∧ sp (plan vs zs dvs kvs pl) H2 Q (E σ)
theorem pe_cl (F : FnOk X.prog X.w X.K X.mg X.base CX k f fd ps sp) (hr : Room k X.A) (hg : Gl X x) (hm : X.mg x = some (.ref f)) (hk : PySem.W.keepIn X.K (.ref f) = true) (hb : CallB X.K fd ps n ks pl dvs kvs) (hx : ∀ σ, PassesAt CX X σ (E σ))
    (ha : PAr X pos es kws ks t tk) (hdb : (x == ("__debug__" : Str)) = false := by decide) : PE X (.Call (.Name x p) es kws pos) (tCl sp pl dvs kvs n ks.length E t tk) := by
  refine ⟨fun pins s σ H Q I h => ?_⟩
  refine wpAny_Call_Name_kw (ld_glob I hg hm ?_ hdb)
  exact ha.run pins s σ H _ [] _ _ hk I h fun us ws vs zs H2 s2 I2 r rz ⟨q1, q2, q3⟩ => run_c F hr hb (hx σ) I2 r rz q1 q2 q3
/-- o.m(..) -/
def tMe (C : Addr) (m : Str) (sp : Sp) (pl : List Src) (dvs kvs : List V) (n l : Nat) (E : St → XK) (ta : TE) (t tk : TA) : TE := fun σ H Q => ta σ H fun x H1 => ∃ a dx fs, x = .ref a ∧ H1 a = some (.ins C dx fs) ∧ fs.lookup m = none ∧
  t σ H1 fun vs H2 => tk σ H2 fun zs H3 => vs.length + 1 = n ∧ zs.length = l ∧ sp (plan (x :: vs) zs dvs kvs pl) H3 Q (E σ)
theorem pe_me {pl' : Sem Bool} (he : PE X o ta) (c : Cls X.K C) (hm : Meth X.K C m f) (F : FnOk X.prog X.w X.K X.mg X.base CX k f fd ps sp) (hr : Room k X.A) (hb : CallB X.K fd ps n ks pl dvs kvs) (hx : ∀ σ, PassesAt CX X σ (E σ))
    (ha : PAr X pos es kws ks t tk)
    (ht : eval (.Call (.Attribute o m apos) es kws pos) X.env = (do
      let ov ← eval o X.env
      standAt apos.atName
      let (f, first) ← holding [ov] (getMethod ov m pl')
      callWith pos f first (backTo pos (starEach es X.env)) (backToKw pos (keywordEach kws X.env))) := by rfl) :
    PE X (.Call (.Attribute o m apos) es kws pos) (tMe C m sp pl dvs kvs n ks.length E ta t tk) := by
  refine ⟨fun pins s σ H Q I h => ?_⟩
  refine PySem.W.methodCall_KW (pl := pl') (thn (he.run pins s σ H _ I h) fun u s1 ⟨x, H1, I1, rx, a, dx, fs, ex, ea, l, q⟩ => ?_) ht
  subst ex
  obtain rfl : u = Value.ref a := rx
  refine getmeth_ok I1 ea c hm l ?_
  exact ha.run pins s1 σ H1 _ [.ref a] _ _ hm.kp I1 q fun us ws vs zs H2 s2 I2 r rz ⟨q1, q2, q3⟩ => run_c F hr hb (hx σ) I2 (.cons (show RelV (.ref a) (.ref a) from rfl) r) rz q1 q2 q3
/-- C(..) -/
def tMk (C : Addr) (sp : Sp) (pl : List Src) (dvs kvs : List V) (n l : Nat) (E : St → XK) (t tk : TA) : TE := fun σ H Q => t σ H fun vs H1 => tk σ H1 fun zs H2 => vs.length + 1 = n ∧ zs.length = l ∧ ∀ x dx, H2 x = none → H2 dx = none → dx ≠ x →
  sp (plan (.ref x :: vs) zs dvs kvs pl) (upd (upd H2 dx (.own x)) x (.ins C dx [])) (fun v H3 => v = .non ∧ Q (.ref x) H3) (E σ)
theorem pe_mk (M : Mk X.K C f) (F : FnOk X.prog X.w X.K X.mg X.base CX k f fd ps sp) (hr : Room (k + 1) X.A) (hg : Gl X x) (hm : X.mg x = some (.ref C)) (hb : CallB X.K fd ps n ks pl dvs kvs) (hx : ∀ σ, PassesAt CX X σ (E σ))
    (ha : PAr X pos es kws ks t tk) (hdb : (x == ("__debug__" : Str)) = false := by decide) : PE X (.Call (.Name x p) es kws pos) (tMk C sp pl dvs kvs n ks.length E t tk) := by
  refine ⟨fun pins s σ H Q I h => ?_⟩
  refine wpAny_Call_Name_kw (ld_glob I hg hm ?_ hdb)
  refine ha.run pins s σ H _ [] _ _ M.kp I h fun us ws vs zs H2 s2 I2 r rz ⟨q1, q2, q3⟩ => ?_
  have hq := q3 (s2.heap.objs.size + 1) s2.heap.objs.size (I2.hok.fresh (Nat.le_succ _)) (I2.hok.fresh (Nat.le_refl _)) (Nat.ne_of_lt (Nat.lt_succ_self _))
  have I3 := Inv.made (C := C) I2
  have r3 : Vals (V.ref (s2.heap.objs.size + 1) :: vs) (Value.ref (s2.heap.objs.size + 1) :: us) := .cons rfl r
  obtain ⟨args, ra, b⟩ := hb _ _ ws _ zs I3.kIn (r3.length.symm.trans q1) (rz.length.symm.trans q2) r3 rz
  refine wpAny_call (make_map (f := f) I2.kIn M.makes M.init (beq_iff_eq.mp M.fn) (codeAny_mono (F.run _ X.stack _ _ ⟨Value.ref (s2.heap.objs.size + 1) :: us, ks.zip ws⟩ args _ _ (E σ) (hr.make C us (ks.zip ws))
    (I3.env0.make C us (ks.zip ws)) b ra hq) fun r s' hq' => ?_))
  cases r with
  | error e => exact hx σ pins _ _ e s' I3 hq'
  | ok fl =>
    cases fl with
    | ret u =>
      obtain ⟨v, H', I4, rv, ev, q5⟩ := I3.after hq'
      subst ev
      exact ⟨rv, ⟨V.ref (s2.heap.objs.size + 1), H', I4, rfl, q5⟩⟩
    | next => exact False.elim hq'
    | brk => exact False.elim hq'
    | cont => exact False.elim hq'
end
/-! ### bundles -/
/-- where the classes stand -/
structure Ad where
  Space : Addr
  Node : Addr
  Ring : Addr
  Seeker : Addr
  Found : Addr
  Desk : Addr
  NoSpace : Addr
  NoPoint : Addr
  NoRing : Addr
  NoMember : Addr
  Taken : Addr
  Fixed : Addr
  Alone : Addr
  LastOne : Addr
  TooFar : Addr
  NoText : Addr
  NoValue : Addr
  NoOrder : Addr
  NoRow : Addr
  RingError : Addr
abbrev FunS (K : PySem.W.Frag) (x qual : Str) (st : Stmt) (dvs : List V) (kws : List (Str × V)) (f : Addr) (fd : FuncData) : Prop := FunD K x qual (defArgs st) (defBody st) (defScope st) dvs kws f fd
/-- a def of the text (facts), a method, a class's __init__ -/
structure DF (K : PySem.W.Frag) (mg : Str → Option Value) (x : Str) (st : Stmt) (dvs : List V) (kws : List (Str × V)) : Prop where
  ex : ∃ f fd, mg x = some (.ref f) ∧ FunS K x x st dvs kws f fd
structure MF (K : PySem.W.Frag) (C : Addr) (m qual : Str) (st : Stmt) (dvs : List V) (kws : List (Str × V)) : Prop where
  ex : ∃ f fd, Meth K C m f ∧ FunS K m qual st dvs kws f fd
structure IF (K : PySem.W.Frag) (C : Addr) (qual : Str) (st : Stmt) (dvs : List V) (kws : List (Str × V)) : Prop where
  ex : ∃ f fd, Mk K C f ∧ FunS K "__init__" qual st dvs kws f fd
/-- .. that keeps its promise -/
structure DK (P : Program) (w : World) (K : PySem.W.Frag) (mg : Str → Option Value) (base : Heap) (CX : CXT) (k : Nat) (x : Str) (ps : List Str) (st : Stmt) (dvs : List V) (kws : List (Str × V)) (sp : Sp) : Prop where
  ex : ∃ f fd, mg x = some (.ref f) ∧ FunS K x x st dvs kws f fd ∧ FnOk P w K mg base CX k f fd ps sp
structure MK (P : Program) (w : World) (K : PySem.W.Frag) (mg : Str → Option Value) (base : Heap) (CX : CXT) (k : Nat) (C : Addr) (m qual : Str) (ps : List Str) (st : Stmt) (dvs : List V) (kws : List (Str × V)) (sp : Sp) : Prop where
  ex : ∃ f fd, Meth K C m f ∧ FunS K m qual st dvs kws f fd ∧ FnOk P w K mg base CX k f fd ps sp
structure IK (P : Program) (w : World) (K : PySem.W.Frag) (mg : Str → Option Value) (base : Heap) (CX : CXT) (k : Nat) (C : Addr) (qual : Str) (ps : List Str) (st : Stmt) (dvs : List V) (kws : List (Str × V)) (sp : Sp) : Prop where
  ex : ∃ f fd, Mk K C f ∧ FunS K "__init__" qual st dvs kws f fd ∧ FnOk P w K mg base CX k f fd ps sp
section
variable {P : Program} {w : World} {K : PySem.W.Frag} {mg : Str → Option Value} {base : Heap} {x qual : Str} {st : Stmt} {N ps : List Str} {k : Nat} {sp : Sp} {t : TS} {tx : XK → TS} {dvs : List V} {kws : List (Str × V)} {f : Addr} {fd : FuncData} {C : Addr} {m : Str}
/-- THE RULES: a body that lets nothing out, one that may raise -/
theorem fn0 (F : FunS K x qual st dvs kws f fd) (S : FnScope N ps (defScope st)) (len : ∀ vs H Q E, sp vs H Q E → vs.length = ps.length)
    (der : ∀ (f : Addr) (cdv : Value) (A : Around) (outer : List Env) (s : Shared) (H : Hp) (E : XK), Room k (A.deeper (PyProof.Rows.envOfC qual (defScope st) s.heap.objs.size f cdv)) → PSs (cxOf CX0 P w K mg base N qual (defScope st) f cdv A outer s H E).nox (defBody st) t)
    (rd : ∀ vs H Q E, sp vs H Q E → t { nx := fun _ H' => Q .non H', rt := Q } (start N vs) H) : FnOk P w K mg base CX0 (k + 1) f fd ps sp :=
  F.ok S len fun cdv A outer s H vs Q E hr h => ⟨t, (der f cdv A outer s H E hr).nox, rd vs H Q E h⟩
theorem fnx (F : FunS K x qual st dvs kws f fd) (S : FnScope N ps (defScope st)) (len : ∀ vs H Q E, sp vs H Q E → vs.length = ps.length)
    (der : ∀ (f : Addr) (cdv : Value) (A : Around) (outer : List Env) (s : Shared) (H : Hp) (E : XK), Room k (A.deeper (PyProof.Rows.envOfC qual (defScope st) s.heap.objs.size f cdv)) → PSs (cxOf (L2.CX P w) P w K mg base N qual (defScope st) f cdv A outer s H E) (defBody st) (tx E))
    (rd : ∀ vs H Q E, sp vs H Q E → tx E { nx := fun _ H' => Q .non H', rt := Q } (start N vs) H) : FnOk P w K mg base (L2.CX P w) (k + 1) f fd ps sp :=
  F.ok S len fun cdv A outer s H vs Q E hr h => ⟨tx E, der f cdv A outer s H E hr, rd vs H Q E h⟩
theorem DF.mk2 {CX : CXT} (F : DF K mg x st dvs kws) (h : ∀ f fd, FunS K x x st dvs kws f fd → FnOk P w K mg base CX k f fd ps sp) : DK P w K mg base CX k x ps st dvs kws sp :=
  let ⟨f, fd, hm, F⟩ := F.ex; ⟨f, fd, hm, F, h f fd F⟩
theorem MF.mk2 {CX : CXT} (F : MF K C m qual st dvs kws) (h : ∀ f fd, FunS K m qual st dvs kws f fd → FnOk P w K mg base CX k f fd ps sp) : MK P w K mg base CX k C m qual ps st dvs kws sp :=
  let ⟨f, fd, hm, F⟩ := F.ex; ⟨f, fd, hm, F, h f fd F⟩
theorem IF.mk2 {CX : CXT} (F : IF K C qual st dvs kws) (h : ∀ f fd, FunS K "__init__" qual st dvs kws f fd → FnOk P w K mg base CX k f fd ps sp) : IK P w K mg base CX k C qual ps st dvs kws sp :=
  let ⟨f, fd, hm, F⟩ := F.ex; ⟨f, fd, hm, F, h f fd F⟩
end
section
variable {X : Cx} {CX : CXT} {k j : Nat} {C : Addr} {ps ks : List Str} {pl : List Src} {dvs dv kv : List V} {kw' : List (Str × V)} {n : Nat} {sp : Sp} {x m qual : Str} {st : Stmt} {p pos apos : Pos} {o : Expr} {es : List Expr} {kws : List Keyword} {ta : TE} {t tk : TA} {E : St → XK}
theorem pe_dk (D : DK X.prog X.w X.K X.mg X.base CX k x ps st dvs kw' sp) (hr : Room j X.A) (hj : k ≤ j) (hg : Gl X x) (hb : ∀ {f fd}, FunS X.K x x st dvs kw' f fd → CallB X.K fd ps n ks pl dv kv) (hx : ∀ σ, PassesAt CX X σ (E σ))
    (ha : PAr X pos es kws ks t tk) (hdb : (x == ("__debug__" : Str)) = false := by decide) : PE X (.Call (.Name x p) es kws pos) (tCl sp pl dv kv n ks.length E t tk) := by
  obtain ⟨f, fd, hm, F, ok⟩ := D.ex
  exact pe_cl ok (hr.mono hj) hg hm F.kp (hb F) hx ha hdb
theorem pe_mkk (D : MK X.prog X.w X.K X.mg X.base CX k C m qual ps st dvs kw' sp) {pl' : Sem Bool} (he : PE X o ta) (c : Cls X.K C) (hr : Room j X.A) (hj : k ≤ j) (hb : ∀ {f fd}, FunS X.K m qual st dvs kw' f fd → CallB X.K fd ps n ks pl dv kv) (hx : ∀ σ, PassesAt CX X σ (E σ))
    (ha : PAr X pos es kws ks t tk)
    (ht : eval (.Call (.Attribute o m apos) es kws pos) X.env = (do
      let ov ← eval o X.env
      standAt apos.atName
      let (f, first) ← holding [ov] (getMethod ov m pl')
      callWith pos f first (backTo pos (starEach es X.env)) (backToKw pos (keywordEach kws X.env))) := by rfl) :
    PE X (.Call (.Attribute o m apos) es kws pos) (tMe C m sp pl dv kv n ks.length E ta t tk) := by
  obtain ⟨f, fd, hm, F, ok⟩ := D.ex
  exact pe_me he c hm ok (hr.mono hj) (hb F) hx ha ht
theorem pe_ik (D : IK X.prog X.w X.K X.mg X.base CX k C qual ps st dvs kw' sp) (hr : Room j X.A) (hj : k + 1 ≤ j) (hg : Gl X x) (hm : X.mg x = some (.ref C)) (hb : ∀ {f fd}, FunS X.K "__init__" qual st dvs kw' f fd → CallB X.K fd ps n ks pl dv kv) (hx : ∀ σ, PassesAt CX X σ (E σ))
    (ha : PAr X pos es kws ks t tk) (hdb : (x == ("__debug__" : Str)) = false := by decide) : PE X (.Call (.Name x p) es kws pos) (tMk C sp pl dv kv n ks.length E t tk) := by
  obtain ⟨f, fd, M, F, ok⟩ := D.ex
  exact pe_mk M ok (hr.mono hj) hg hm (hb F) hx ha hdb
/-- exceptions of a callee: none comes; they are the def's own; they are the try's -/
theorem xa0 (σ : St) : PassesAt CX0 X σ E0 := fun _ _ _ _ _ _ h => h.elim
theorem xaL (σ : St) : PassesAt (L2.CX X.prog X.w) X σ E0 := fun pins H s e s' I h => passL pins σ H s e s' I h
theorem xaC {E : XK} (tk : Takes X (fun cls d _ H => E cls d H)) (σ : St) : PassesAt (L2.CX X.prog X.w) X σ E := fun pins H s e s' I h => passes_call tk (fun _ _ _ _ q => q) pins σ H s e s' I h
end
/-! ### steps -/
section
variable {σ : St} {H : Hp} {Q : VK} {ta : TE} {t tk : TA} {E : St → XK} {sp : Sp} {pl : List Src} {dvs kvs : List V} {n l : Nat} {C : Addr} {m : Str}
instance p_cl : Stp (tCl sp pl dvs kvs n l E t tk σ H Q) (t σ H fun vs H1 => tk σ H1 fun zs H2 => vs.length = n ∧ zs.length = l ∧ sp (plan vs zs dvs kvs pl) H2 Q (E σ)) := ⟨fun q => q⟩
instance p_me : Stp (tMe C m sp pl dvs kvs n l E ta t tk σ H Q) (ta σ H fun x H1 => ∃ a dx fs, x = .ref a ∧ H1 a = some (.ins C dx fs) ∧ fs.lookup m = none ∧
  t σ H1 fun vs H2 => tk σ H2 fun zs H3 => vs.length + 1 = n ∧ zs.length = l ∧ sp (plan (x :: vs) zs dvs kvs pl) H3 Q (E σ)) := ⟨fun q => q⟩
instance p_mk : Stp (tMk C sp pl dvs kvs n l E t tk σ H Q) (t σ H fun vs H1 => tk σ H1 fun zs H2 => vs.length + 1 = n ∧ zs.length = l ∧ ∀ x dx, H2 x = none → H2 dx = none → dx ≠ x →
  sp (plan (.ref x :: vs) zs dvs kvs pl) (upd (upd H2 dx (.own x)) x (.ins C dx [])) (fun v H3 => v = .non ∧ Q (.ref x) H3) (E σ)) := ⟨fun q => q⟩
/-- an instance at hand -/
theorem g_ins {a dx : Addr} {fs : List (Str × V)} {P : Prop} (h : H a = some (.ins C dx fs)) (hl : fs.lookup m = none) (q : P) : ∃ a' dx fs, V.ref a = .ref a' ∧ H a' = some (.ins C dx fs) ∧ fs.lookup m = none ∧ P := ⟨a, dx, fs, rfl, h, hl, q⟩
theorem g_fld {K : PySem.W.Frag} {a dx : Addr} {fs : List (Str × V)} {f : Str} {v : V} {P : V → Prop} (h : H a = some (.ins C dx fs)) (hc : Cls K C) (hn : NoAttr K C f) (hl : fs.lookup f = some v) (q : P v) :
    ∃ a' C dx fs v, V.ref a = .ref a' ∧ H a' = some (.ins C dx fs) ∧ Cls K C ∧ NoAttr K C f ∧ fs.lookup f = some v ∧ P v := ⟨a, C, dx, fs, v, rfl, h, hc, hn, hl, q⟩
instance p_fld {K : PySem.W.Frag} {f : Str} : Stp (tFld K ta f σ H Q) (ta σ H fun x H1 => ∃ a C dx fs v, x = .ref a ∧ H1 a = some (.ins C dx fs) ∧ Cls K C ∧ NoAttr K C f ∧ fs.lookup f = some v ∧ Q v H1) := ⟨fun q => q⟩
end
end NN
/-! own: try .. except X as n; isinstance of what was caught -/
namespace NN
open PySem L2
def sTryAs (K : PySem.W.Frag) (c : Value) (i : Nat) (ts : Addr → Value → Option Addr → TS) (Wout : WX) (tb : WX → TS) : TS := fun D σ H => tb (wAs K c i ts Wout D) D σ H
section
variable {X : Cx} {x n : Str} {c : Value} {i : Nat} {body suite : List Stmt} {b₀ : Stmt} {np pos pos' : Pos} {tb : WX → TS} {ts : Addr → Value → Option Addr → TS} {Wout : WX}
theorem ps_tryA (hs : X.stack = X.env :: X.outer) (hf : X.env.frame = some X.env.locals) (hN : X.N.Nodup) (hi : X.N[i]? = some n) (hln : X.env.kindOf n = some .local) (hc : Names X x c) (tk : Takes X Wout)
    (hb : ∀ (W : WX) (pn : List (Addr × Obj)) (xe : Value → Shared → Prop), Takes (X.tr pn xe) W → PassesOwn (model X.prog X.w) X.A X.env xe → PSs (X.tr pn xe) body (tb W))
    (hsu : ∀ (a : Addr) (oe : Obj) (cls : Value) (d : Option Addr) (pn : List (Addr × Obj)), Zc cls d oe → (∃ vs, oe.data = .fields vs) → PSs (X.suite a ((a, oe) :: pn)) (b₀ :: suite) (ts a cls d)) :
    PS X (.Try body [.ExceptHandler (some (.Name x np)) (some n) (b₀ :: suite) pos'] [] [] pos) (sTryAs X.K c i ts Wout tb) := ps_try_as hs hf hN hi hln hc tk hb hsu
/-- isinstance of the caught one, whose class the reading tells -/
theorem call_isE2 {a : Addr} {oe : Obj} {cls : Value} {d : Option Addr} {pn : List (Addr × Obj)} (hz : Zc cls d oe) (hf : ∃ vs, oe.data = .fields vs) :
    CallR (X.suite a ((a, oe) :: pn)) (.builtin "isinstance") (fun xs H Q => ∃ D : Addr, cls = .ref D ∧ d = none ∧ ExcC X.K D ∧ rIsE X.K D a xs H Q) := fun pins s σ H vs us Q I r h => by
  obtain ⟨D, rfl, rfl, C, h⟩ := h
  exact call_isE C hz hf pins s σ H vs us Q I r h
end
section
variable {K : PySem.W.Frag} {σ : St} {H : Hp} {D : Ends} {c : Value} {i : Nat} {ts : Addr → Value → Option Addr → TS} {Wout : WX} {tb : WX → TS}
instance p_tryA : Stp (sTryAs K c i ts Wout tb D σ H) (tb (wAs K c i ts Wout D) D σ H) := ⟨fun q => q⟩
end
/-- isinstance of the caught one -/
abbrev rIsE2 (K : PySem.W.Frag) (a : Addr) (cls : Value) (d : Option Addr) : RCl := fun xs H Q => ∃ D : Addr, cls = .ref D ∧ d = none ∧ ExcC K D ∧ rIsE K D a xs H Q
/-- is not, of a bool or an int and a bool -/
def rNotX : R2 := fun x y H Q => ∃ b : Bool, y = .bl b ∧ ((∃ a : Bool, x = .bl a ∧ Q (.bl (!decide (a = b))) H) ∨ (∃ i : Int, x = .int i ∧ Q (.bl true) H))
theorem op_notX {X : Cx} : OpR X (compareOp .IsNot) rNotX := by
  intro pins s σ H x y v u Q I rx ry h
  obtain ⟨b, rfl, ⟨a, rfl, q⟩ | ⟨i, rfl, q⟩⟩ := h
  · cases (show v = Value.bool a from rx)
    cases (show u = Value.bool b from ry)
    by_cases e : a = b
    · subst e
      exact wpAny_isNot_self rfl ⟨.bl false, H, I, rfl, by simpa using q⟩
    · exact wpAny_isNot_other rfl (fun z => e (Value.bool.inj z)) ⟨.bl true, H, I, rfl, by simpa [e] using q⟩
  · obtain ⟨t, rfl⟩ := rx
    cases (show u = Value.bool b from ry)
    exact wpAny_isNot_other rfl (fun z => by cases z) ⟨.bl true, H, I, rfl, q⟩
end NN
/-! own: the end of a law whose text has classes -/
namespace NN
open PySem PyProof.Rows L2
theorem fund_p {K : PySem.W.Frag} {x qual : Str} {st : Stmt} {f : Addr} {od an : Option Addr} {sl : Array (Option Value)} {oc kV dc pm cd ct : Value}
    (l : K.lookup f = some ⟨oc, od, .func (PySem.W.fnOf x qual (defArgs st) (defBody st) (defScope st) .none kV dc pm an cd ct), sl⟩)
    (c : PySem.W.codeIn K cd qual = true) (k : PySem.W.keepIn K (.ref f) = true) : FunS K x qual st [] [] f (PySem.W.fnOf x qual (defArgs st) (defBody st) (defScope st) .none kV dc pm an cd ct) :=
  ⟨⟨oc, od, .none, kV, dc, pm, an, cd, ct, sl, rfl, l, c, .inl ⟨rfl, rfl⟩, .inl rfl⟩, k⟩
theorem fund_1 {K : PySem.W.Frag} {x qual : Str} {st : Stmt} {f T : Addr} {od an odT : Option Addr} {sl slT : Array (Option Value)} {oc kV dc pm cd ct ocT u : Value} {n : Nat} {v : V}
    (l : K.lookup f = some ⟨oc, od, .func (PySem.W.fnOf x qual (defArgs st) (defBody st) (defScope st) (.ref T) kV dc pm an cd ct), sl⟩)
    (c : PySem.W.codeIn K cd qual = true) (k : PySem.W.keepIn K (.ref f) = true) (lT : K.lookup T = some ⟨ocT, odT, .seq #[u] n, slT⟩) (r : RelV v u) : FunS K x qual st [v] [] f (PySem.W.fnOf x qual (defArgs st) (defBody st) (defScope st) (.ref T) kV dc pm an cd ct) :=
  ⟨⟨oc, od, .ref T, kV, dc, pm, an, cd, ct, sl, rfl, l, c, .inr ⟨by simp, T, _, [u], n, rfl, lT, rfl, .cons r .nil⟩, .inl rfl⟩, k⟩
/-- the law's own def, at the end -/
theorem law_fin2 {l : PySem.W.OpenLaw} {w : World} {K : PySem.W.Frag} {mg : Str → Option Value} {CX : CXT} {x p : Str} {st : Stmt} {k : Nat} {sp : Sp} {fa : Addr} (F : DF K mg x st [] []) (hfa : mg x = some (.ref fa)) (B : PlainB x [p] st)
    (ok : ∀ (base : Heap) (f : Addr) (fd : FuncData), FunS K x x st [] [] f fd → FnOk l.prog w K mg base CX k f fd [p] sp) :
    ∃ fd : FuncData, (∀ (s : Shared) (v : Value), BindsTo s fd ⟨[v], []⟩ [(p, v)]) ∧ ∀ base : Heap, K.In base → base.Ns mainGlobals mg → FnOk l.prog w K mg base CX k fa fd [p] sp := by
  obtain ⟨f, fd, hm, F⟩ := F.ex
  have e : f = fa := by
    have z := hm.symm.trans hfa
    injection z with z
    injection z
  subst e
  refine ⟨fd, fun s v => ?_, fun base _ _ => ok base f fd F⟩
  obtain ⟨oc, od, dV, kV, doc, pm, an, cdv, ct, osl, rfl, lk, hcd, hD, _⟩ := F.ex
  rcases hD with ⟨_, rfl⟩ | ⟨z, _⟩
  · exact .of_eq (B kV doc pm an cdv ct [v] rfl)
  · exact absurd rfl z
def Z0 : Ad := ⟨0, 0, 0, 0, 0, 0, 0, 0, 0, 0, 0, 0, 0, 0, 0, 0, 0, 0, 0, 0⟩
end NN
namespace NN
open PySem L2
local macro_rules | `(tactic| walk_at "ne") => `(tactic| first | assumption | (apply Ne.symm; assumption) | walk_at "neX" | (refine ne_dom ?_ (by assumption); walk_at "dm") | (refine Ne.symm (ne_dom ?_ (by assumption)); walk_at "dm"))
local macro_rules | `(tactic| walk_at "neX") => `(tactic| fail)
local macro_rules | `(tactic| walk_at "dm") => `(tactic| first | exact Dom.of (by assumption) | (refine Dom.at (by assumption) ?_ ?_; (walk_at "dm"); walk_at "nm"))
local macro_rules | `(tactic| walk_at "nm") => `(tactic| first | exact nm0 | (refine nm1 ?_; walk_at "ne") | (refine nm2 ?_ ?_; (walk_at "ne"); walk_at "nm"))
local macro_rules | `(tactic| walk_at "tr") => `(tactic| first | assumption | exact upd_same | (refine Kp.at (by assumption) ?_ ?_; (walk_at "tr"); walk_at "nm") | (rw [upd_ne (by walk_at "ne")]; walk_at "tr"))
local macro_rules | `(tactic| walk_at "sq") => `(tactic| first | assumption | exact SqL.of (by walk_at "tr") | (refine Kp.seq0 ?_ (by assumption); walk_at "kp") | (refine Kp.seq (by assumption) (by walk_at "nm") ?_; walk_at "sq"))
local macro_rules | `(tactic| walk_at "fr") => `(tactic| first | assumption | (refine Kp.free (S := []) ?_ nm0 (by assumption); walk_at "kp") | (refine Kp.free (by assumption) (by walk_at "nm") ?_; assumption) | (refine Kp.free (by assumption) (by walk_at "nm") ?_; walk_at "fr"))
local macro_rules | `(tactic| walk_at "al") => `(tactic| first | exact al0 | (refine al1 ?_ ?_; (first | exact Or.inl List.mem_cons_self | exact Or.inl (List.mem_cons_of_mem _ List.mem_cons_self) | (refine Or.inr ?_; walk_at "fr")); walk_at "al"))
local macro_rules | `(tactic| walk_at "kp") => `(tactic| first | assumption | exact Kp.refl | exact KpC.k (by assumption) | (refine Kp.step ?_ (by assumption) ?_; (walk_at "kp"); walk_at "al"))
local macro_rules | `(tactic| walk_at "ar") => `(tactic| first | omega | (simp only [List.length_cons, List.length_nil, List.length_append, List.length_map, List.length_set, List.length_take, List.length_drop] <;> omega) | decide)
local macro_rules | `(tactic| walk_at "cond") => `(tactic| first | assumption | exact c_mulB | (exact c_mulL (by walk_at "nl") (by walk_at "nl")) | (exact c_mulR (by walk_at "nl") (by walk_at "nl")) | (exact c_divW (by walk_at "nl") (by walk_at "nl")) | (exact c_pow (by walk_at "nl") (by walk_at "nl") (by walk_at "nl")) | walk_at "nl")
local macro_rules | `(tactic| walk_at "nl") => `(tactic| first | with_reducible assumption | omega | (simp only [List.length_map] <;> omega))
local macro_rules | `(tactic| walk_at "set") => `(tactic| first | exact set_0 | exact set_1 | exact set_2 | exact set_3 | exact set_4 | exact set_5 | exact set_6 | exact set_7 | exact set_8 | exact set_9 | exact set_10 | exact set_11 | exact set_12 | exact set_13 | exact set_14 | exact set_15 | exact set_16 | exact set_17 | exact set_18 | exact set_19 | exact set_20 | exact set_21 | exact set_22 | exact set_23)
local macro_rules | `(tactic| walk_at "sz") => `(tactic| first | exact sz_small (by simp only [List.length_cons, List.length_nil]; decide) | exact sz_small (by decide) | exact sz_small (by walk_at "ar"))
local macro_rules | `(tactic| walk_at "sl") => `(tactic| first | exact sz_less (by walk_at "ar"))
local macro_rules | `(tactic| walk_at "at") => `(tactic| first | assumption | exact at_0 | exact at_1 | exact at_2 | exact at_3 | exact at_4 | exact at_5 | exact at_6 | exact at_7 | exact at_8 | exact at_9 | exact at_10 | exact at_11 | exact at_12 | exact at_13 | exact at_14 | exact at_15 | exact atI_nat (by assumption))
local macro_rules | `(tactic| walk_at "flat") => `(tactic| first | exact ints_flat _ | rfl | assumption | decide)
local macro_rules | `(tactic| walk_at "call") => `(tactic| fail)
local macro_rules | `(tactic| walk_at "go1") => `(tactic| first | ((with_reducible refine Stp.imp ?_)) | (((with_reducible refine' g_eqc ?h0 ?_); (case h0 => rfl))) | (((with_reducible refine' g_I ?h0 ?_); (case h0 => walk_at "cond"))) | (((with_reducible refine' g_eq ?h0 ?_); (case h0 => with_unfolding_all rfl))) | (((with_reducible refine' g_ne ?h0 ?_); (case h0 => with_unfolding_all rfl))) | (((with_reducible refine' g_lenL ?h0 ?_); (case h0 => walk_at "sq"))) | (((with_reducible refine' h_listL ?h0 ?_); (case h0 => walk_at "sq"); intro _ _ _ _ _)) | (((with_reducible refine' h_slTo ?h0 ?h1 ?_); (case h0 => walk_at "sq"); (case h1 => walk_at "nl"); intro _ _ _ _ _)) | (((with_reducible refine' h_slFrom ?h0 ?h1 ?_); (case h0 => walk_at "sq"); (case h1 => walk_at "nl"); intro _ _ _ _ _)) | (((with_reducible refine' h_slL ?h0 ?_); (case h0 => walk_at "sq"); intro _ _ _ _ _)) | (((with_reducible refine' g_ixL ?h0 ?h1 ?_); (case h0 => walk_at "sq"); (case h1 => walk_at "at"))) | (((with_reducible refine' g_in ?h0 ?h1 ?h2 ?_); (case h0 => walk_at "sq"); (case h1 => with_unfolding_all rfl); (case h2 => walk_at "flat"))) | (((with_reducible refine' h_setLI ?h0 ?h1 ?_); (case h0 => walk_at "tr"); (case h1 => walk_at "ixn"); intro _ _ _)) | (((with_reducible refine' h_setL ?h0 ?h1 ?_); (case h0 => walk_at "tr"); (case h1 => with_unfolding_all rfl); intro _ _ _)) | (((with_reducible refine' h_appendI ?h0 ?h1 ?_); (case h0 => walk_at "tr"); (case h1 => walk_at "sl"); intro _ _ _)) | (((with_reducible refine' h_append ?h0 ?h1 ?_); (case h0 => walk_at "tr"); (case h1 => walk_at "sl"); intro _ _ _)) | (((with_reducible refine' g_sz ?h0 ?_); (case h0 => walk_at "sz"); intro p hp; generalize hg : upd _ p _ = H2; have hk := Kp.of_upd hg hp; have hs := at_upd hg; clear hg)) | (((with_reducible refine' g_tyL ?h0 ?_); (case h0 => walk_at "sq"))) | (((with_reducible refine' h_catI ?h0 ?h1 ?h2 ?_); (case h0 => walk_at "tr"); (case h1 => walk_at "tr"); (case h2 => walk_at "sz"); intro _ _ _ _ _)) | (((with_reducible refine' h_catI1 ?h0 ?h1 ?h2 ?_); (case h0 => walk_at "tr"); (case h1 => walk_at "tr"); (case h2 => walk_at "sz"); intro _ _ _ _ _)) | (((with_reducible refine' h_catI2 ?h0 ?h1 ?h2 ?_); (case h0 => walk_at "tr"); (case h1 => walk_at "tr"); (case h2 => walk_at "sz"); intro _ _ _ _ _)) | (((with_reducible refine' h_cat ?h0 ?h1 ?h2 ?_); (case h0 => walk_at "tr"); (case h1 => walk_at "tr"); (case h2 => walk_at "sz"); intro _ _ _ _ _)) | (((with_reducible refine' h_idx ?h0 ?h1 ?_); (case h0 => walk_at "sq"); (case h1 => assumption))) | (((with_reducible refine' h_insertI ?h0 ?h1 ?h2 ?h3 ?_); (case h0 => walk_at "tr"); (case h1 => walk_at "sl"); (case h2 => decide); (case h3 => decide); intro _ _ _)) | (((with_reducible refine' h_insert ?h0 ?h1 ?h2 ?h3 ?_); (case h0 => walk_at "tr"); (case h1 => walk_at "sl"); (case h2 => decide); (case h3 => decide); intro _ _ _)) | walk_at "call")
local macro_rules | `(tactic| walk_at "go") => `(tactic| (repeat walk_at "go1"); (try dsimp only))
local macro_rules | `(tactic| walk_at "on") => `(tactic| (with_reducible refine g_seq ?_); walk_at "go")
local macro_rules | `(tactic| walk_at "ixn") => `(tactic| first | with_unfolding_all rfl | exact ixN_lit (j := 0) rfl (by walk_at "ar") | exact ixN_nat (by walk_at "ar"))
local macro_rules | `(tactic| walk_at "ifs") => `(tactic| ((try simp only [List.length_map]) <;> (repeat' split) <;> omega))
local macro_rules | `(tactic| walk_at "dp") => `(tactic| first | exact Dp.int _ | exact Dp.non | exact Dp.str _ | exact Dp.bl _ | exact dp_ints (by walk_at "sq") | (apply Dp.lst; (walk_at "sq"); walk_at "dpA") | (apply Dp.tup; (walk_at "st"); walk_at "dpA"))
local macro_rules | `(tactic| walk_at "dpA") => `(tactic| first | exact DpAll.nil | (apply DpAll.cons; (walk_at "dp"); walk_at "dpA"))
local macro_rules | `(tactic| walk_at "sh") => `(tactic| first | exact Sh.int | exact Sh.non | exact Sh.bool | exact Sh.list ShA.ints | (refine Sh.list ?_; walk_at "shA") | (refine Sh.tuple ?_; walk_at "shA"))
local macro_rules | `(tactic| walk_at "shA") => `(tactic| first | exact ShA.nil | exact ShA.ints | (refine ShA.cons ?_ ?_; (walk_at "sh"); walk_at "shA"))
local macro_rules | `(tactic| walk_at "st") => `(tactic| first | assumption | exact SqT.of (by walk_at "tr"))
/-- a pot of draws: two numbers -/
def PotAt (H : Hp) (p : Addr) : Prop := ∃ x y : Int, H p = some (.lst [.int x, .int y]) ∧ 0 ≤ y ∧ y < 2147483648
theorem PotAt.kp {S : List Addr} {H H1 : Hp} {p : Addr} (k : Kp S H H1) (n : p ∉ S) (h : PotAt H p) : PotAt H1 p := by
  obtain ⟨x, y, e, h1, h2⟩ := h
  exact ⟨x, y, k _ _ e n, h1, h2⟩
theorem PotAt.ne {H H0 : Hp} {p q : Addr} (_ : PotAt H0 p) (h : PotAt H p) (n : H q = none) : p ≠ q := by
  obtain ⟨x, y, e, _⟩ := h
  exact ne_of_none e n
theorem PotAt.nonneg {H H0 : Hp} {p q : Addr} (h0 : PotAt H0 p) (h : PotAt H p) (n : H q = none) : q ≠ p := (h0.ne h n).symm
/-- a space of m points -/
def SpAt (Z : Ad) (H : Hp) (a : Addr) (m : Int) : Prop := ∃ (dx : Addr) (b : Int), H a = some (.ins Z.Space dx [("own_bits", .int b)]) ∧ 3 ≤ b ∧ b ≤ 32 ∧ m = 2 ^ b.toNat
theorem SpAt.kp {Z : Ad} {S : List Addr} {H H1 : Hp} {p : Addr} {m : Int} (k : Kp S H H1) (n : p ∉ S) (h : SpAt Z H p m) : SpAt Z H1 p m := by
  obtain ⟨dx, b, e, r⟩ := h
  exact ⟨dx, b, k _ _ e n, r⟩
theorem SpAt.ne {Z : Ad} {H H0 : Hp} {p q : Addr} {m : Int} (_ : SpAt Z H0 p m) (h : SpAt Z H p m) (n : H q = none) : p ≠ q := by
  obtain ⟨dx, b, e, _⟩ := h
  exact ne_of_none e n
theorem SpAt.nonneg {Z : Ad} {H H0 : Hp} {p q : Addr} {m : Int} (h0 : SpAt Z H0 p m) (h : SpAt Z H p m) (n : H q = none) : q ≠ p := (h0.ne h n).symm
theorem SpAt.pos {Z : Ad} {H : Hp} {p : Addr} {m : Int} (h : SpAt Z H p m) : 8 ≤ m ∧ m ≤ 4294967296 := by
  obtain ⟨dx, b, e, h1, h2, rfl⟩ := h
  have z1 : (2 : Int) ^ 3 ≤ 2 ^ b.toNat := pow2_le (by omega)
  have z2 : (2 : Int) ^ b.toNat ≤ 2 ^ 32 := pow2_le (by omega)
  exact ⟨z1, z2⟩
local macro_rules | `(tactic| walk_at "pot") => `(tactic| first | assumption | (refine PotAt.kp (by assumption) (by walk_at "nm") ?_; walk_at "pot"))
local macro_rules | `(tactic| walk_at "spa") => `(tactic| first | assumption | (refine SpAt.kp (by assumption) (by walk_at "nm") ?_; walk_at "spa"))
local macro_rules | `(tactic| walk_at "neX") => `(tactic| first | (refine PotAt.ne (by assumption) ?_ (by assumption); walk_at "pot") | (refine PotAt.nonneg (by assumption) ?_ (by assumption); walk_at "pot") | (refine SpAt.ne (by assumption) ?_ (by assumption); walk_at "spa") | (refine SpAt.nonneg (by assumption) ?_ (by assumption); walk_at "spa"))
section
variable {σ : St} {H : Hp} {Q : VK} {ta tb tc tv : TE} {r r' : R2} {K : PySem.W.Frag} {Z : Ad} {f : Str} {D : Ends} {E : XK} {cls : Value}
instance p_chain : Stp (tChain r r' ta tb tc σ H Q) (ta σ H fun x H1 => tb σ H1 fun y H2 => r x y H2 fun z H3 => ∃ k, z = .bl k ∧ (if k = true then tc σ H3 fun w' H4 => r' y w' H4 Q else Q (.bl false) H3)) := ⟨fun q => q⟩
instance p_sfld : Stp (sFld K ta tv f D σ H) (tv σ H fun y H1 => ta σ H1 fun x H2 => ∃ a C dx fs, x = .ref a ∧ H2 a = some (.ins C dx fs) ∧ Cls K C ∧ NoAttr K C f ∧ fs.length < 1000 ∧ D.nx σ (upd H2 a (.ins C dx (putF f y fs)))) := ⟨fun q => q⟩
instance p_raise : Stp (tRaise E cls D σ H) (E cls none H) := ⟨fun q => q⟩
end
theorem g_insS {Z : Ad} {H : Hp} {a : Addr} {m : Int} {n : Str} {P : Prop} (h : SpAt Z H a m) (hl : ((n == ("own_bits" : Str)) = false)) (q : P) : ∃ a' dx fs, V.ref a = .ref a' ∧ H a' = some (.ins Z.Space dx fs) ∧ fs.lookup n = none ∧ P := by
  obtain ⟨dx, b, e, _⟩ := h
  exact ⟨a, dx, _, rfl, e, by simp only [List.lookup, hl], q⟩
/-! ### things of any kind -/
/-- None, a text, a list, a tuple, a dict -/
def OddT (H : Hp) (v : V) : Prop := v = .non ∨ (∃ s, v = .str s) ∨ ∃ a, v = .ref a ∧ ((∃ xs, H a = some (.lst xs)) ∨ (∃ xs, H a = some (.tup xs)) ∨ ∃ kv, H a = some (.dK kv))
/-- .. that is not at p -/
def Apart (v : V) (p : Addr) : Prop := ∀ a, v = .ref a → a ≠ p
def Th (H : Hp) (v : V) : Prop := (∃ i, v = .int i) ∨ (∃ b, v = .bl b) ∨ OddT H v
theorem OddT.kp {H H1 : Hp} {v : V} {S : List Addr} (k : Kp S H H1) (h : OddT H v) (n : ∀ a, v = .ref a → a ∉ S) : OddT H1 v := by
  rcases h with h | h | ⟨a, e, h | h | h⟩
  · exact .inl h
  · exact .inr (.inl h)
  · obtain ⟨xs, h⟩ := h; exact .inr (.inr ⟨a, e, .inl ⟨xs, k _ _ h (n a e)⟩⟩)
  · obtain ⟨xs, h⟩ := h; exact .inr (.inr ⟨a, e, .inr (.inl ⟨xs, k _ _ h (n a e)⟩)⟩)
  · obtain ⟨xs, h⟩ := h; exact .inr (.inr ⟨a, e, .inr (.inr ⟨xs, k _ _ h (n a e)⟩)⟩)
theorem Th.kp {H H1 : Hp} {v : V} {S : List Addr} (k : Kp S H H1) (h : Th H v) (n : ∀ a, v = .ref a → a ∉ S) : Th H1 v := by
  rcases h with h | h | h
  · exact .inl h
  · exact .inr (.inl h)
  · exact .inr (.inr (h.kp k n))
theorem Th.kp0 {H H1 : Hp} {v : V} (k : Kp [] H H1) (h : Th H v) : Th H1 v := h.kp k fun _ _ => nm0
theorem Th.kp1 {H H1 : Hp} {v : V} {p : Addr} (k : Kp [p] H H1) (h : Th H v) (n : Apart v p) : Th H1 v := h.kp k fun a e => nm1 (n a e)
/-- is it a whole number, within bounds -/
def wv : V → Bool | .int _ => true | _ => false
def inB (l h : Int) : V → Bool | .int i => decide (l ≤ i) && decide (i < h) | _ => false
/-- isinstance of int, of bool -/
theorem isi_int {K : PySem.W.Frag} {H : Hp} {Q : VK} {v : V} (h : Th H v) (q : Q (.bl (match v with | .int _ => true | .bl _ => true | _ => false)) H) : rIsi K [v, .ty "int"] H Q := by
  rcases h with ⟨i, rfl⟩ | ⟨b, rfl⟩ | h | ⟨s, rfl⟩ | ⟨a, rfl, ⟨xs, h⟩ | ⟨xs, h⟩ | ⟨kv, h⟩⟩
  · exact isi (b := true) (.base (.int _)) (by decide +kernel) q
  · exact isi (b := true) (.base (.bl _)) (by decide +kernel) q
  · subst h; exact isi (b := false) (.base .non) (by decide +kernel) q
  · exact isi (b := false) (.base (.str _)) (by decide +kernel) q
  · exact isi (b := false) (.base (.lst h)) (by decide +kernel) q
  · exact isi (b := false) (.base (.tup h)) (by decide +kernel) q
  · exact isi (b := false) (.base (.dK h)) (by decide +kernel) q
section
variable {K : PySem.W.Frag} {Z : Ad} {H : Hp} {Q : VK} {E : XK} {vs : List V}
def sp_Space_bits (_ : PySem.W.Frag) (Z : Ad) : Sp := fun vs H Q _ => ∃ (a dx : Addr) (b : Int), vs = [.ref a] ∧ H a = some (.ins Z.Space dx [("own_bits", .int b)]) ∧ Q (.int b) H
def sp_Space_size (_ : PySem.W.Frag) (Z : Ad) : Sp := fun vs H Q _ => ∃ (a : Addr) (m : Int), vs = [.ref a] ∧ SpAt Z H a m ∧ Q (.int m) H
theorem use_size {a : Addr} {m : Int} (e : vs = [.ref a]) (h : SpAt Z H a m) (q : Q (.int m) H) : sp_Space_size K Z vs H Q E := ⟨a, m, e, h, q⟩
def sp__law_take (_ : PySem.W.Frag) (_ : Ad) : Sp := fun vs H Q _ => ∃ (p : Addr) (n : Int), vs = [.ref p, .int n] ∧ PotAt H p ∧ 0 < n ∧ n < 2 ^ 200 ∧ ∀ (r : Int) (H' : Hp), 0 ≤ r → r < n → Kp [p] H H' → PotAt H' p → Q (.int r) H'
theorem use_take {p : Addr} {n : Int} (e : vs = [.ref p, .int n]) (h : PotAt H p) (h0 : 0 < n) (h1 : n < 2 ^ 200) (q : ∀ (r : Int) (H' : Hp), 0 ≤ r → r < n → Kp [p] H H' → PotAt H' p → Q (.int r) H') : sp__law_take K Z vs H Q E :=
  ⟨p, n, e, h, h0, h1, q⟩
def sp__law_cell (K : PySem.W.Frag) (_ : Ad) : Sp := fun vs H Q _ => ∃ (a : Addr) (ns : List Int) (k : Int), vs = [.ref a, .int k] ∧ SqL K H a (ns.map V.int) ∧ 0 ≤ k ∧ ∀ c : Int, Q (.int c) H
theorem use_cell {a : Addr} {ns : List Int} {k : Int} (e : vs = [.ref a, .int k]) (h : SqL K H a (ns.map V.int)) (h0 : 0 ≤ k) (q : ∀ c : Int, Q (.int c) H) : sp__law_cell K Z vs H Q E := ⟨a, ns, k, e, h, h0, q⟩
def sp__law_pot (K : PySem.W.Frag) (_ : Ad) : Sp := fun vs H Q _ => ∃ (a : Addr) (ns : List Int) (k : Int), vs = [.ref a, .int k] ∧ SqL K H a (ns.map V.int) ∧ 0 ≤ k ∧ k ≤ 100 ∧ ∀ (p : Addr) (H' : Hp), H p = none → Kp [] H H' → PotAt H' p → Q (.ref p) H'
theorem use_pot {a : Addr} {ns : List Int} {k : Int} (e : vs = [.ref a, .int k]) (h : SqL K H a (ns.map V.int)) (h0 : 0 ≤ k) (h1 : k ≤ 100) (q : ∀ (p : Addr) (H' : Hp), H p = none → Kp [] H H' → PotAt H' p → Q (.ref p) H') : sp__law_pot K Z vs H Q E := ⟨a, ns, k, e, h, h0, h1, q⟩
theorem use_bits {a dx : Addr} {b : Int} (e : vs = [.ref a]) (h : H a = some (.ins Z.Space dx [("own_bits", .int b)])) (q : Q (.int b) H) : sp_Space_bits K Z vs H Q E := ⟨a, dx, b, e, h, q⟩
def sp_is_whole (_ : PySem.W.Frag) (_ : Ad) : Sp := fun vs H Q _ => ∃ v : V, vs = [v] ∧ Th H v ∧ Q (.bl (wv v)) H
theorem use_whole {v : V} (e : vs = [v]) (h : Th H v) (q : Q (.bl (wv v)) H) : sp_is_whole K Z vs H Q E := ⟨v, e, h, q⟩
def sp__law_is_whole (_ : PySem.W.Frag) (_ : Ad) : Sp := fun vs H Q _ => ∃ v : V, vs = [v] ∧ Th H v ∧ Q (.bl (wv v)) H
theorem use_wholeL {v : V} (e : vs = [v]) (h : Th H v) (q : Q (.bl (wv v)) H) : sp__law_is_whole K Z vs H Q E := ⟨v, e, h, q⟩
def sp__law_is_right (_ : PySem.W.Frag) (_ : Ad) : Sp := fun vs H Q _ => ∃ v : V, vs = [v] ∧ Th H v ∧ Q (.bl (inB 3 33 v)) H
theorem use_rightL {v : V} (e : vs = [v]) (h : Th H v) (q : Q (.bl (inB 3 33 v)) H) : sp__law_is_right K Z vs H Q E := ⟨v, e, h, q⟩
def sp_Space___init__ (_ : PySem.W.Frag) (Z : Ad) : Sp := fun vs H Q E => ∃ (x dx : Addr) (v : V), vs = [.ref x, v] ∧ Th H v ∧ H x = some (.ins Z.Space dx []) ∧ (inB 3 33 v = true → Q .non (upd H x (.ins Z.Space dx [("own_bits", v)]))) ∧ (inB 3 33 v = false → E (.ref Z.NoSpace) none H)
def sp_Space_has (_ : PySem.W.Frag) (Z : Ad) : Sp := fun vs H Q _ => ∃ (a : Addr) (m : Int) (v : V), vs = [.ref a, v] ∧ SpAt Z H a m ∧ Th H v ∧ Q (.bl (inB 0 m v)) H
theorem use_has {a : Addr} {m : Int} {v : V} (e : vs = [.ref a, v]) (h : SpAt Z H a m) (h2 : Th H v) (q : Q (.bl (inB 0 m v)) H) : sp_Space_has K Z vs H Q E := ⟨a, m, v, e, h, h2, q⟩
end
local macro_rules | `(tactic| walk_at "call") => `(tactic| first
  | ((with_reducible refine' use_take ?e ?h0 ?h1 ?h2 ?_); (case e => rfl); (case h0 => walk_at "pot"); (case h1 => walk_at "nl"); (case h2 => walk_at "nl"); intro _ _ _ _ _ _)
  | ((with_reducible refine' use_size ?e ?h0 ?_); (case e => rfl); (case h0 => walk_at "spa"))
  | ((with_reducible refine' g_insS ?h0 ?h1 ?_); (case h0 => walk_at "spa"); (case h1 => rfl)))
def t_Space_bits (K : PySem.W.Frag) (Z : Ad) : TS :=
  (tRet (tFld K (tVar 0) "own_bits"))
theorem rd_Space_bits (K : PySem.W.Frag) (Z : Ad) (hc : Cls K Z.Space) (hn : NoAttr K Z.Space "own_bits") : ∀ vs H Q E, sp_Space_bits K Z vs H Q E → t_Space_bits K Z { nx := fun _ H' => Q .non H', rt := Q } (start (["self"]) vs) H := by
  rintro _ H Q E ⟨a, dx, b, rfl, e, q⟩
  show t_Space_bits K Z _ [some (.ref a)] H
  unfold t_Space_bits
  walk_at "go"
  exact g_fld e hc hn rfl q
def t_Space_size (K : PySem.W.Frag) (Z : Ad) : TS :=
  (tRet (tOp rShl0 (tC (.int 1)) (tFld K (tVar 0) "own_bits")))
theorem rd_Space_size (K : PySem.W.Frag) (Z : Ad) (hc : Cls K Z.Space) (hn : NoAttr K Z.Space "own_bits") : ∀ vs H Q E, sp_Space_size K Z vs H Q E → t_Space_size K Z { nx := fun _ H' => Q .non H', rt := Q } (start (["self"]) vs) H := by
  rintro _ H Q E ⟨a, m, rfl, ⟨dx, b, e, h1, h2, rfl⟩, q⟩
  show t_Space_size K Z _ [some (.ref a)] H
  unfold t_Space_size
  walk_at "go"
  refine g_fld e hc hn rfl ?_
  refine g_I (c_pow (by omega) (by omega) (by decide)) ?_
  rw [Int.one_mul]
  exact q
def t__law_take (K : PySem.W.Frag) (Z : Ad) : TS :=
  (tSeq (tIfS (tTest (tOp rGt (tOp (rIxL K) (tVar 0) (tC (.int 0))) (tC (.int 0)))) (tSeq (tAsg (tOp rMod0 (tOp (rIxL K) (tVar 0) (tC (.int 0))) (tVar 1)) (gName 2))
  (tSeq (tAsg (tOp rDivW (tOp (rIxL K) (tVar 0) (tC (.int 0))) (tVar 1)) (gSub (tVar 0) (tC (.int 0)) rSetL))
  (tRet (tVar 2)))) tNext)
  (tSeq (tAsg (tOp rMod0 (tOp rAdd0 (tOp rMul0 (tOp (rIxL K) (tVar 0) (tC (.int 1))) (tC (.int 39373))) (tC (.int 8191))) (tC (.int 2147483587))) (gSub (tVar 0) (tC (.int 1)) rSetL))
  (tRet (tOp rMod0 (tOp rDivW (tOp rMod0 (tOp rMul0 (tOp (rIxL K) (tVar 0) (tC (.int 1))) (tOp (rIxL K) (tVar 0) (tC (.int 1)))) (tC (.int 2147483543))) (tC (.int 13))) (tVar 1)))))
theorem rd__law_take (K : PySem.W.Frag) (Z : Ad) : ∀ vs H Q E, sp__law_take K Z vs H Q E → t__law_take K Z { nx := fun _ H' => Q .non H', rt := Q } (start (["_law_pot_here", "_law_room", "_law_digit"]) vs) H := by
  rintro _ H Q E ⟨p, n, rfl, ⟨x, y, hp, hy0, hy1⟩, h0, h1, q⟩
  show t__law_take K Z _ [some (.ref p), some (.int n), none] H
  unfold t__law_take
  walk_at "go"
  walk_at "on"
  refine g_ite (fun hx => ?_) fun hx => ?_
  · walk_at "go"
    refine q _ _ (Int.emod_nonneg _ (by omega)) (Int.emod_lt_of_pos _ h0) (by walk_at "kp") ⟨x / n, y, by assumption, hy0, hy1⟩
  · walk_at "go"
    refine q _ _ (Int.emod_nonneg _ (by omega)) (Int.emod_lt_of_pos _ h0) (by walk_at "kp") ⟨x, _, by assumption, by omega, by omega⟩
def t__law_cell (K : PySem.W.Frag) (Z : Ad) : TS :=
  (tRet (tIf (tTest (tOp rLt (tVar 1) (tCB (rLenS K) (tCons (tVar 0) tNil)))) (tOp (rIxL K) (tVar 0) (tVar 1)) (tC (.int 0))))
theorem rd__law_cell (K : PySem.W.Frag) (Z : Ad) : ∀ vs H Q E, sp__law_cell K Z vs H Q E → t__law_cell K Z { nx := fun _ H' => Q .non H', rt := Q } (start (["_law_script", "_law_k"]) vs) H := by
  rintro _ H Q E ⟨a, ns, k, rfl, hs, hk0, q⟩
  show t__law_cell K Z _ [some (.ref a), some (.int k)] H
  unfold t__law_cell
  walk_at "go"
  refine g_ite (fun hx => ?_) fun _ => ?_
  · obtain ⟨n, e1, e2⟩ := ints_ix hk0 (by rw [List.length_map] at hx; exact hx)
    walk_at "go"
    exact q _
  · walk_at "go"
    exact q _
def t__law_pot (K : PySem.W.Frag) (Z : Ad) : TS :=
  (tSeq (tAsg (tCl (sp__law_cell K Z) [.pos 0, .pos 1] [] [] 2 0 (fun _ => E0) (tCons (tVar 0) (tCons (tVar 1) tNil)) tNil) (gName 2))
  (tRet (tLst (tCons (tCB rMax2 (tCons (tC (.int 0)) (tCons (tOp rSub0 (tVar 2) (tOp rPow0 (tC (.int 10)) (tC (.int 18)))) tNil))) (tCons (tOp rMod0 (tOp rAdd0 (tOp rAdd0 (tOp rAdd0 (tOp rMul0 (tOp rMod0 (tCB rAbs (tCons (tVar 2) tNil)) (tC (.int 2147483629))) (tC (.int 48271))) (tOp rMul0 (tOp rMul0 (tC (.int 7919)) (tVar 1)) (tVar 1))) (tOp rMul0 (tC (.int 613)) (tVar 1))) (tC (.int 29))) (tC (.int 2147483629))) tNil)))))
theorem rd__law_pot (K : PySem.W.Frag) (Z : Ad) : ∀ vs H Q E, sp__law_pot K Z vs H Q E → t__law_pot K Z { nx := fun _ H' => Q .non H', rt := Q } (start (["_law_script", "_law_k", "_law_cell_here"]) vs) H := by
  rintro _ H Q E ⟨a, ns, k, rfl, hs, hk0, hk1, q⟩
  show t__law_pot K Z _ [some (.ref a), some (.int k), none] H
  unfold t__law_pot
  walk_at "go"
  refine use_cell rfl hs hk0 ?_
  intro c
  walk_at "go"
  exact q _ _ (by assumption) (by assumption) ⟨_, _, by assumption, by omega, by omega⟩
def t_is_whole (K : PySem.W.Frag) (Z : Ad) : TS :=
  (tRet (tAndV (tCB (rIsi K) (tCons (tVar 0) (tCons (tC (.ty "int")) tNil))) (tNotV (tCB (rIsi K) (tCons (tVar 0) (tCons (tC (.ty "bool")) tNil))))))
theorem rd_is_whole (K : PySem.W.Frag) (Z : Ad) : ∀ vs H Q E, sp_is_whole K Z vs H Q E → t_is_whole K Z { nx := fun _ H' => Q .non H', rt := Q } (start (["thing"]) vs) H := by
  rintro _ H Q E ⟨v, rfl, hv, q⟩
  show t_is_whole K Z _ [some v] H
  unfold t_is_whole
  walk_at "go"
  refine isi_int hv ?_
  rcases hv with ⟨i, rfl⟩ | ⟨b, rfl⟩ | ho
  · walk_at "go"
    refine isi (b := false) (.base (.int _)) (by decide +kernel) ?_
    walk_at "go"
    exact q
  · walk_at "go"
    refine isi (b := true) (.base (.bl _)) (by decide +kernel) ?_
    walk_at "go"
    exact q
  · rcases ho with rfl | ⟨s, rfl⟩ | ⟨a, rfl, _⟩
    · walk_at "go"; exact q
    · walk_at "go"; exact q
    · walk_at "go"; exact q
def t__law_is_whole (K : PySem.W.Frag) (Z : Ad) : TS :=
  (tRet (tAndV (tCB (rIsi K) (tCons (tVar 0) (tCons (tC (.ty "int")) tNil))) (tAndV (tOp rNotX (tVar 0) (tC (.bl true))) (tOp rNotX (tVar 0) (tC (.bl false))))))
theorem rd__law_is_whole (K : PySem.W.Frag) (Z : Ad) : ∀ vs H Q E, sp__law_is_whole K Z vs H Q E → t__law_is_whole K Z { nx := fun _ H' => Q .non H', rt := Q } (start (["_law_thing"]) vs) H := by
  rintro _ H Q E ⟨v, rfl, hv, q⟩
  show t__law_is_whole K Z _ [some v] H
  unfold t__law_is_whole
  walk_at "go"
  refine isi_int hv ?_
  rcases hv with ⟨i, rfl⟩ | ⟨b, rfl⟩ | ho
  · walk_at "go"
    refine ⟨true, rfl, .inr ⟨i, rfl, ?_⟩⟩
    walk_at "go"
    refine ⟨false, rfl, .inr ⟨i, rfl, ?_⟩⟩
    exact q
  · walk_at "go"
    refine ⟨true, rfl, .inl ⟨b, rfl, ?_⟩⟩
    cases b with
    | true => exact ⟨false, rfl, q⟩
    | false =>
      refine ⟨true, rfl, ?_⟩
      walk_at "go"
      exact ⟨false, rfl, .inl ⟨false, rfl, q⟩⟩
  · rcases ho with rfl | ⟨s, rfl⟩ | ⟨a, rfl, _⟩
    · walk_at "go"; exact q
    · walk_at "go"; exact q
    · walk_at "go"; exact q
def t__law_is_right (K : PySem.W.Frag) (Z : Ad) : TS :=
  (tRet (tAndV (tCl (sp__law_is_whole K Z) [.pos 0] [] [] 1 0 (fun _ => E0) (tCons (tVar 0) tNil) tNil) (tAndV (tOp rGt (tVar 0) (tC (.int 2))) (tOp rLt (tVar 0) (tC (.int 33))))))
theorem rd__law_is_right (K : PySem.W.Frag) (Z : Ad) : ∀ vs H Q E, sp__law_is_right K Z vs H Q E → t__law_is_right K Z { nx := fun _ H' => Q .non H', rt := Q } (start (["_law_thing"]) vs) H := by
  rintro _ H Q E ⟨v, rfl, hv, q⟩
  show t__law_is_right K Z _ [some v] H
  unfold t__law_is_right
  walk_at "go"
  refine use_wholeL rfl hv ?_
  rcases hv with ⟨i, rfl⟩ | ⟨b, rfl⟩ | ho
  · show ∃ c, V.bl true = V.bl c ∧ _
    walk_at "go"
    refine g_ite (fun h => ?_) fun h => ?_
    · walk_at "go"
      have e : inB 3 33 (.int i) = decide (i < 33) := by
        show (decide (3 ≤ i) && decide (i < 33)) = _
        rw [decide_eq_true (by omega), Bool.true_and]
      rw [e] at q; exact q
    · have e : inB 3 33 (.int i) = false := by
        show (decide (3 ≤ i) && decide (i < 33)) = _
        rw [decide_eq_false (by omega), Bool.false_and]
      rw [e] at q; exact q
  · show ∃ c, V.bl false = V.bl c ∧ _
    walk_at "go"
    exact q
  · rcases ho with rfl | ⟨s, rfl⟩ | ⟨a, rfl, _⟩
    · show ∃ c, V.bl false = V.bl c ∧ _
      walk_at "go"; exact q
    · show ∃ c, V.bl false = V.bl c ∧ _
      walk_at "go"; exact q
    · show ∃ c, V.bl false = V.bl c ∧ _
      walk_at "go"; exact q
def t_Space_has (K : PySem.W.Frag) (Z : Ad) : TS :=
  (tRet (tAndV (tCl (sp_is_whole K Z) [.pos 0] [] [] 1 0 (fun _ => E0) (tCons (tVar 1) tNil) tNil) (tChain rLe rLt (tC (.int 0)) (tVar 1) (tMe Z.Space "size" (sp_Space_size K Z) [.pos 0] [] [] 1 0 (fun _ => E0) (tVar 0) tNil tNil))))
theorem rd_Space_has (K : PySem.W.Frag) (Z : Ad) : ∀ vs H Q E, sp_Space_has K Z vs H Q E → t_Space_has K Z { nx := fun _ H' => Q .non H', rt := Q } (start (["self", "thing"]) vs) H := by
  rintro _ H Q E ⟨a, m, v, rfl, hs, hv, q⟩
  show t_Space_has K Z _ [some (.ref a), some v] H
  unfold t_Space_has
  walk_at "go"
  refine use_whole rfl hv ?_
  rcases hv with ⟨i, rfl⟩ | ⟨b, rfl⟩ | ho
  · show ∃ c, V.bl true = V.bl c ∧ _
    walk_at "go"
    refine g_ite (fun h => ?_) fun h => ?_
    · walk_at "go"
      have e : inB 0 m (.int i) = decide (i < m) := by
        show (decide (0 ≤ i) && decide (i < m)) = _
        rw [decide_eq_true (by omega), Bool.true_and]
      rw [e] at q; exact q
    · have e : inB 0 m (.int i) = false := by
        show (decide (0 ≤ i) && decide (i < m)) = _
        rw [decide_eq_false (by omega), Bool.false_and]
      rw [e] at q; exact q
  · show ∃ c, V.bl false = V.bl c ∧ _
    walk_at "go"
    exact q
  · rcases ho with rfl | ⟨s, rfl⟩ | ⟨a, rfl, _⟩
    · show ∃ c, V.bl false = V.bl c ∧ _
      walk_at "go"; exact q
    · show ∃ c, V.bl false = V.bl c ∧ _
      walk_at "go"; exact q
    · show ∃ c, V.bl false = V.bl c ∧ _
      walk_at "go"; exact q
def t_Space___init__ (K : PySem.W.Frag) (Z : Ad) (E : XK) : TS :=
  (tSeq (tIfS (tOr (tNot (tB (tCl (sp_is_whole K Z) [.pos 0] [] [] 1 0 (fun _ => E0) (tCons (tVar 1) tNil) tNil))) (tNot (tTest (tChain rLe rLe (tC (.int 3)) (tVar 1) (tC (.int 32)))))) (tRaise E (.ref Z.NoSpace)) tNext)
  (sFld K (tVar 0) (tVar 1) "own_bits"))
theorem rd_Space___init__ (K : PySem.W.Frag) (Z : Ad) (hc : Cls K Z.Space) (hn : NoAttr K Z.Space "own_bits") : ∀ vs H Q E, sp_Space___init__ K Z vs H Q E → t_Space___init__ K Z E { nx := fun _ H' => Q .non H', rt := Q } (start (["self", "bits"]) vs) H := by
  rintro _ H Q E ⟨x, dx, v, rfl, hv, hx, q1, q2⟩
  show t_Space___init__ K Z E _ [some (.ref x), some v] H
  unfold t_Space___init__
  walk_at "go"
  walk_at "on"
  refine use_whole rfl hv ?_
  rcases hv with ⟨i, rfl⟩ | ⟨b, rfl⟩ | ho
  · show ∃ c, V.bl true = V.bl c ∧ _
    walk_at "go"
    by_cases h1 : 3 ≤ i
    · rw [decide_eq_true h1]
      walk_at "go"
      by_cases h2 : i ≤ 32
      · rw [decide_eq_true h2]
        walk_at "go"
        refine ⟨x, Z.Space, dx, [], rfl, hx, hc, hn, by show 0 < 1000; decide, q1 ?_⟩
        show (decide (3 ≤ i) && decide (i < 33)) = true
        rw [decide_eq_true h1, decide_eq_true (by omega)]; rfl
      · rw [decide_eq_false h2]
        walk_at "go"
        refine q2 ?_
        show (decide (3 ≤ i) && decide (i < 33)) = false
        rw [decide_eq_true h1, decide_eq_false (by omega)]; rfl
    · rw [decide_eq_false h1]
      walk_at "go"
      refine q2 ?_
      show (decide (3 ≤ i) && decide (i < 33)) = false
      rw [decide_eq_false h1]; rfl
  · show ∃ c, V.bl false = V.bl c ∧ _
    walk_at "go"
    exact q2 rfl
  · rcases ho with rfl | ⟨s, rfl⟩ | ⟨a, rfl, _⟩
    · show ∃ c, V.bl false = V.bl c ∧ _
      walk_at "go"; exact q2 rfl
    · show ∃ c, V.bl false = V.bl c ∧ _
      walk_at "go"; exact q2 rfl
    · show ∃ c, V.bl false = V.bl c ∧ _
      walk_at "go"; exact q2 rfl
section
variable {K : PySem.W.Frag} {Z : Ad} {H : Hp} {Q : VK} {E : XK} {vs : List V}
instance ni_try {c : Value} {i : Nat} {ts : Addr → Value → Option Addr → TS} {Wout : WX} {tb : WX → TS} : NotIf (sTryAs K c i ts Wout tb) := ⟨trivial⟩
theorem use_mk2 {v : V} {vv : Addr → List V} {R : Addr → Hp → Prop} (e : ∀ x, vv x = [.ref x, v]) (hv : Th H v) (q1 : inB 3 33 v = true → ∀ x dx H', H x = none → Kp [] H H' → H' x = some (.ins Z.Space dx [("own_bits", v)]) → R x H') (q2 : inB 3 33 v = false → ∀ H', Kp [] H H' → E (.ref Z.NoSpace) none H') :
    ∀ x dx, H x = none → H dx = none → dx ≠ x → sp_Space___init__ K Z (vv x) (upd (upd H dx (.own x)) x (.ins Z.Space dx [])) (fun v H3 => v = .non ∧ R x H3) E := fun x dx hx hd ne => by
  have k : Kp [] H (upd (upd H dx (.own x)) x (.ins Z.Space dx [])) := fun c o e n => by
    rw [upd_ne (ne_of_none e hx), upd_ne (ne_of_none e hd)]; exact e
  refine ⟨x, dx, v, e x, hv.kp0 k, upd_same, fun h => ⟨rfl, q1 h x dx _ hx (fun c o e n => ?_) upd_same⟩, fun h => q2 h _ k⟩
  rw [upd_ne (ne_of_none e hx)]
  exact k _ _ e n
def sp__law_number (_ : PySem.W.Frag) (_ : Ad) : Sp := fun vs H Q _ => ∃ (p : Addr), vs = [.ref p] ∧ PotAt H p ∧ ∀ (i : Int) (H' : Hp), Kp [p] H H' → PotAt H' p → Q (.int i) H'
theorem use_number {p : Addr} (e : vs = [.ref p]) (h : PotAt H p) (q : ∀ (i : Int) (H' : Hp), Kp [p] H H' → PotAt H' p → Q (.int i) H') : sp__law_number K Z vs H Q E := ⟨p, e, h, q⟩
def sp__law_odd (_ : PySem.W.Frag) (_ : Ad) : Sp := fun vs H Q _ => ∃ (p : Addr), vs = [.ref p] ∧ PotAt H p ∧ ∀ (v : V) (H' : Hp), Kp [p] H H' → PotAt H' p → Th H' v → Apart v p → inB 3 33 v = false → wv v = false → Q v H'
theorem use_odd {p : Addr} (e : vs = [.ref p]) (h : PotAt H p) (q : ∀ (v : V) (H' : Hp), Kp [p] H H' → PotAt H' p → Th H' v → Apart v p → inB 3 33 v = false → wv v = false → Q v H') : sp__law_odd K Z vs H Q E := ⟨p, e, h, q⟩
def sp__law_made (_ : PySem.W.Frag) (Z : Ad) : Sp := fun vs H Q _ => ∃ (v : V) (w : Int), vs = [v, .int w] ∧ Th H v ∧ (inB 3 33 v = true → ∀ s dx H', H s = none → Kp [] H H' → H' s = some (.ins Z.Space dx [("own_bits", v)]) → Q (.ref s) H') ∧ (inB 3 33 v = false → ∀ H', Kp [] H H' → Q (.str "refused") H')
theorem use_made {v : V} {w : Int} (e : vs = [v, .int w]) (h : Th H v) (q1 : inB 3 33 v = true → ∀ s dx H', H s = none → Kp [] H H' → H' s = some (.ins Z.Space dx [("own_bits", v)]) → Q (.ref s) H') (q2 : inB 3 33 v = false → ∀ H', Kp [] H H' → Q (.str "refused") H') : sp__law_made K Z vs H Q E := ⟨v, w, e, h, q1, q2⟩
def sp__law_size (_ : PySem.W.Frag) (_ : Ad) : Sp := fun vs H Q _ => ∃ (b : Int), vs = [.int b] ∧ 0 ≤ b ∧ b ≤ 64 ∧ Q (.int (2 ^ b.toNat)) H
theorem use_sizeL {b : Int} (e : vs = [.int b]) (h0 : 0 ≤ b) (h1 : b ≤ 64) (q : Q (.int (2 ^ b.toNat)) H) : sp__law_size K Z vs H Q E := ⟨b, e, h0, h1, q⟩
end
def t__law_size (K : PySem.W.Frag) (Z : Ad) : TS :=
  (tSeq (tAsg (tC (.int 1)) (gName 1))
  (tSeq (tFor (iRng1 (tCons (tVar 0) tNil)) (gName 2) (tAsg (tOp rMul0 (tVar 1) (tC (.int 2))) (gName 1)))
  (tRet (tVar 1))))
theorem rd__law_size (K : PySem.W.Frag) (Z : Ad) : ∀ vs H Q E, sp__law_size K Z vs H Q E → t__law_size K Z { nx := fun _ H' => Q .non H', rt := Q } (start (["_law_wide", "_law_found", "_law_k"]) vs) H := by
  rintro _ H Q E ⟨b, rfl, h0, h1, q⟩
  show t__law_size K Z _ [some (.int b), none, none] H
  unfold t__law_size
  walk_at "go"
  refine f_rng (by omega) (fun j σ' H' => H = H' ∧ ∃ z, σ' = [some (.int b), some (.int (2 ^ j)), z]) ⟨rfl, none, rfl⟩ ?_ ?_
  · rintro j _ _ hj ⟨rfl, z, rfl⟩
    walk_at "go"
    rw [← Int.pow_succ]
    exact ⟨_, rfl⟩
  · rintro _ _ ⟨rfl, z, rfl⟩
    walk_at "go"
    exact q
def t__law_number (K : PySem.W.Frag) (Z : Ad) : TS :=
  (tSeq (tAsg (tCl (sp__law_take K Z) [.pos 0, .pos 1] [] [] 2 0 (fun _ => E0) (tCons (tVar 0) (tCons (tC (.int 6)) tNil)) tNil) (gName 1))
  (tSeq (tIfS (tTest (tOp rEq (tVar 1) (tC (.int 0)))) (tRet (tOp (rIxL K) (tLst (tCons (tC (.int 2)) (tCons (tC (.int 33)) (tCons (tC (.int 0)) (tCons (tUn (rU fun i => .int (-i)) (tC (.int 1))) (tCons (tC (.int 3)) (tCons (tC (.int 32)) tNil))))))) (tCl (sp__law_take K Z) [.pos 0, .pos 1] [] [] 2 0 (fun _ => E0) (tCons (tVar 0) (tCons (tC (.int 6)) tNil)) tNil))) tNext)
  (tSeq (tIfS (tTest (tOp rEq (tVar 1) (tC (.int 1)))) (tRet (tOp rAdd0 (tCl (sp__law_take K Z) [.pos 0, .pos 1] [] [] 2 0 (fun _ => E0) (tCons (tVar 0) (tCons (tOp rPow0 (tC (.int 10)) (tC (.int 40))) tNil)) tNil) (tC (.int 33)))) tNext)
  (tSeq (tIfS (tTest (tOp rEq (tVar 1) (tC (.int 2)))) (tRet (tOp rSub0 (tUn (rU fun i => .int (-i)) (tC (.int 1))) (tCl (sp__law_take K Z) [.pos 0, .pos 1] [] [] 2 0 (fun _ => E0) (tCons (tVar 0) (tCons (tOp rPow0 (tC (.int 10)) (tC (.int 20))) tNil)) tNil))) tNext)
  (tRet (tCl (sp__law_take K Z) [.pos 0, .pos 1] [] [] 2 0 (fun _ => E0) (tCons (tVar 0) (tCons (tC (.int 41)) tNil)) tNil))))))
theorem rd__law_number (K : PySem.W.Frag) (Z : Ad) : ∀ vs H Q E, sp__law_number K Z vs H Q E → t__law_number K Z { nx := fun _ H' => Q .non H', rt := Q } (start (["_law_pot_here", "_law_way"]) vs) H := by
  rintro _ H Q E ⟨p, rfl, hp, q⟩
  show t__law_number K Z _ [some (.ref p), none] H
  unfold t__law_number
  walk_at "go"
  walk_at "on"
  refine g_ite (fun _ => ?_) fun _ => ?_
  · walk_at "go"
    rename_i r3 _ _ _ _ _
    obtain ⟨n, e1, e2⟩ := ints_ix (ns := [2, 33, 0, -1, 3, 32]) (j := r3) (by assumption) (by show _ < (6 : Int); omega)
    refine g_ixL (by walk_at "sq") e2 (q _ _ (by walk_at "kp") (by walk_at "pot"))
  · walk_at "go"
    walk_at "on"
    refine g_ite (fun _ => ?_) fun _ => ?_
    · walk_at "go"
      refine use_take rfl (by walk_at "pot") (by decide) (by decide) ?_
      intro _ _ _ _ _ _
      walk_at "go"
      exact q _ _ (by walk_at "kp") (by walk_at "pot")
    · walk_at "go"
      walk_at "on"
      refine g_ite (fun _ => ?_) fun _ => ?_
      · walk_at "go"
        refine use_take rfl (by walk_at "pot") (by decide) (by decide) ?_
        intro _ _ _ _ _ _
        walk_at "go"
        exact q _ _ (by walk_at "kp") (by walk_at "pot")
      · walk_at "go"
        exact q _ _ (by walk_at "kp") (by walk_at "pot")
def t__law_made (K : PySem.W.Frag) (Z : Ad) : TS :=
  (tSeq (tAsg (tC .non) (gName 2))
  (tSeq (tAsg (tC (.str "")) (gName 3))
  (tSeq (sTryAs K (.ref Z.NoSpace) 4 (fun a cls d => (tAsg (tOp (rIxL K) (tLst (tCons (tC (.str "no error")) (tCons (tC (.str "refused")) tNil))) (tCB rInt1 (tCons (tAndV (tCB (rIsE2 K a cls d) (tCons (tVar 4) (tCons (tC (.ref Z.RingError)) tNil))) (tCB (rIsE2 K a cls d) (tCons (tVar 4) (tCons (tC (.ty "ValueError")) tNil)))) tNil))) (gName 3))) (fun _ _ _ _ => False) (fun W => (tAsg (tIf (tTest (tOp rEq (tVar 1) (tC (.int 0)))) (tMk Z.Space (sp_Space___init__ K Z) [.pos 0, .pos 1] [.int 8] [] 2 0 (WE W) (tCons (tVar 0) tNil) tNil) (tMk Z.Space (sp_Space___init__ K Z) [.pos 0, .kw 0] [.int 8] [] 1 1 (WE W) tNil (tCons (tVar 0) tNil))) (gName 2))))
  (tRet (tIf (tTest (tOp rIsN (tVar 2) (tC .non))) (tVar 3) (tVar 2))))))
theorem rd__law_made (K : PySem.W.Frag) (Z : Ad) (hex : PySem.W.exmOne K (.ref Z.NoSpace) (.ref Z.NoSpace) = some true) (hC : ExcC K Z.NoSpace) (hk1 : PySem.W.kitOne K (.ref Z.NoSpace) (.ref Z.RingError) = some true) (hk2 : PySem.W.kitOne K (.ref Z.NoSpace) (.type "ValueError") = some true) : ∀ vs H Q E, sp__law_made K Z vs H Q E → t__law_made K Z { nx := fun _ H' => Q .non H', rt := Q } (start (["_law_thing", "_law_way", "_law_found", "_law_told", "e"]) vs) H := by
  rintro _ H Q E ⟨v, w, rfl, hv, q1, q2⟩
  show t__law_made K Z _ [some v, some (.int w), none, none, none] H
  unfold t__law_made
  walk_at "go"
  refine g_ite (fun _ => ?_) fun _ => ?_
  · walk_at "go"
    refine use_mk2 (fun _ => rfl) hv ?_ ?_
    · intro hb x dx H' hx k e
      walk_at "go"
      refine g_ite (fun h => nomatch h) fun _ => ?_
      walk_at "go"
      exact q1 hb _ _ _ hx k e
    · intro hb H' k
      refine ⟨true, hex, fun _ a ha => ?_, fun z => nomatch z⟩
      dsimp only [List.set]
      walk_at "go"
      refine ⟨Z.NoSpace, rfl, rfl, hC, _, .ref Z.RingError, true, rfl, fun u h => h, hk1, ?_⟩
      walk_at "go"
      refine ⟨Z.NoSpace, rfl, rfl, hC, _, .type "ValueError", true, rfl, fun u h => h, hk2, ?_⟩
      walk_at "go"
      dsimp only [List.set]
      walk_at "go"
      refine g_ite (fun _ => ?_) (fun h => absurd rfl h)
      walk_at "go"
      exact q2 hb _ (by walk_at "kp")
  · walk_at "go"
    refine use_mk2 (fun _ => rfl) hv ?_ ?_
    · intro hb x dx H' hx k e
      walk_at "go"
      refine g_ite (fun h => nomatch h) fun _ => ?_
      walk_at "go"
      exact q1 hb _ _ _ hx k e
    · intro hb H' k
      refine ⟨true, hex, fun _ a ha => ?_, fun z => nomatch z⟩
      dsimp only [List.set]
      walk_at "go"
      refine ⟨Z.NoSpace, rfl, rfl, hC, _, .ref Z.RingError, true, rfl, fun u h => h, hk1, ?_⟩
      walk_at "go"
      refine ⟨Z.NoSpace, rfl, rfl, hC, _, .type "ValueError", true, rfl, fun u h => h, hk2, ?_⟩
      walk_at "go"
      dsimp only [List.set]
      walk_at "go"
      refine g_ite (fun _ => ?_) (fun h => absurd rfl h)
      walk_at "go"
      exact q2 hb _ (by walk_at "kp")
theorem g_disp1 {σ : St} {H : Hp} {Q : VK} (q : ∀ d H' kv, H d = none → Kp [] H H' → H' d = some (.dK kv) → Q (.ref d) H') : tDisp [(tC (.int 8), tC (.int 8))] σ H Q := by
  intro d hd
  refine ⟨upd_same, [(.inl 8, V.int 8)], rfl, by decide, ?_⟩
  refine q d _ _ hd (fun c o e n => ?_) upd_same
  rw [upd_ne (ne_of_none e hd), upd_ne (ne_of_none e hd)]
  exact e
theorem g_dnew {σ : St} {H : Hp} {Q : VK} (q : ∀ d H' kv, H d = none → Kp [] H H' → H' d = some (.dK kv) → Q (.ref d) H') : tDNewK σ H Q := fun d hd => q d _ [] hd (Kp.refl.new hd) upd_same
def t__law_odd (K : PySem.W.Frag) (Z : Ad) : TS :=
  (tSeq (tAsg (tLst (tCons (tC .non) (tCons (tC (.str "8")) (tCons (tC (.str "")) (tCons (tLst (tCons (tC (.int 8)) tNil)) (tCons (tTup (tCons (tC (.int 8)) tNil)) (tCons (tDisp [((tC (.int 8)), (tC (.int 8)))]) (tCons (tC (.bl true)) (tCons (tC (.bl false)) (tCons (tLst tNil) (tCons (tTup tNil) (tCons (tC (.str "3")) (tCons (tLst (tCons (tLst (tCons (tC (.int 3)) tNil)) tNil)) (tCons tDNewK (tCons (tC (.str "bits")) tNil))))))))))))))) (gName 1))
  (tRet (tOp (rIxL K) (tVar 1) (tCl (sp__law_take K Z) [.pos 0, .pos 1] [] [] 2 0 (fun _ => E0) (tCons (tVar 0) (tCons (tCB (rLenS K) (tCons (tVar 1) tNil)) tNil)) tNil))))
theorem rd__law_odd (K : PySem.W.Frag) (Z : Ad) : ∀ vs H Q E, sp__law_odd K Z vs H Q E → t__law_odd K Z { nx := fun _ H' => Q .non H', rt := Q } (start (["_law_pot_here", "_law_some"]) vs) H := by
  rintro _ H Q E ⟨p, rfl, hp, q⟩
  show t__law_odd K Z _ [some (.ref p), none] H
  unfold t__law_odd
  walk_at "go"
  refine g_disp1 ?_
  intro d1 D1 kv1 hd1 kd1 ed1
  walk_at "go"
  refine g_dnew ?_
  intro d2 D2 kv2 hd2 kd2 ed2
  walk_at "go"
  rename_i p6 hp6 G6 hk6 hs6 p5 hp5 G5 hk5 hs5 p4 hp4 G4 hk4 hs4 p3 hp3 G3 hk3 hs3 p2 hp2 G2 hk2 hs2 p1 hp1 G1 hk1 hs1 pl hpl Gl hkl hsl
  refine use_take rfl (by walk_at "pot") (by show (0 : Int) < 14; decide) (by show (14 : Int) < 2 ^ 200; decide) ?_
  intro r Hf hr0 hr1 kf hpf
  have hr2 : r < 14 := hr1
  have esl : SqL K Hf pl _ := SqL.of (kf _ _ hsl (nm1 (by walk_at "ne")))
  have o6 : Hf p6 = some (.lst [.int 8]) := by walk_at "tr"
  have o5 : Hf p5 = some (.tup [.int 8]) := by walk_at "tr"
  have od1 : Hf d1 = some (.dK kv1) := by walk_at "tr"
  have o4 : Hf p4 = some (.lst []) := by walk_at "tr"
  have o3 : Hf p3 = some (.tup []) := by walk_at "tr"
  have o1 : Hf p1 = some (.lst [.ref p2]) := by walk_at "tr"
  have od2 : Hf d2 = some (.dK kv2) := by walk_at "tr"
  have n6 : p6 ≠ p := by walk_at "ne"
  have n5 : p5 ≠ p := by walk_at "ne"
  have nd1 : d1 ≠ p := by walk_at "ne"
  have n4 : p4 ≠ p := by walk_at "ne"
  have n3 : p3 ≠ p := by walk_at "ne"
  have n1 : p1 ≠ p := by walk_at "ne"
  have nd2 : d2 ≠ p := by walk_at "ne"
  have kall : Kp [p] H Hf := by walk_at "kp"
  have hlt : r.toNat < 14 := by omega
  refine g_ixL esl (v := ([V.non, .str "8", .str "", .ref p6, .ref p5, .ref d1, .bl true, .bl false, .ref p4, .ref p3, .str "3", .ref p1, .ref d2, .str "bits"] : List V)[r.toNat]'hlt) ?_ ?_
  · have er : r = ((r.toNat : Nat) : Int) := by omega
    conv => lhs; rw [er]
    exact atI_nat (List.getElem?_eq_getElem hlt)
  · have hm : ([V.non, .str "8", .str "", .ref p6, .ref p5, .ref d1, .bl true, .bl false, .ref p4, .ref p3, .str "3", .ref p1, .ref d2, .str "bits"] : List V)[r.toNat]'hlt ∈ ([V.non, .str "8", .str "", .ref p6, .ref p5, .ref d1, .bl true, .bl false, .ref p4, .ref p3, .str "3", .ref p1, .ref d2, .str "bits"] : List V) := List.getElem_mem _
    generalize ([V.non, .str "8", .str "", .ref p6, .ref p5, .ref d1, .bl true, .bl false, .ref p4, .ref p3, .str "3", .ref p1, .ref d2, .str "bits"] : List V)[r.toNat]'hlt = v at hm ⊢
    simp only [List.mem_cons, List.not_mem_nil, or_false] at hm
    have str : ∀ s : Str, v = .str s → Q v Hf := fun s h => by
      subst h
      exact q _ _ kall hpf (.inr (.inr (.inr (.inl ⟨s, rfl⟩)))) (fun _ h => nomatch h) rfl rfl
    have ref : ∀ c : Addr, v = .ref c → c ≠ p → ((∃ xs, Hf c = some (.lst xs)) ∨ (∃ xs, Hf c = some (.tup xs)) ∨ ∃ kv, Hf c = some (.dK kv)) → Q v Hf := fun c h n o => by
      subst h
      exact q _ _ kall hpf (.inr (.inr (.inr (.inr ⟨c, rfl, o⟩)))) (fun a h => by cases h; exact n) rfl rfl
    have bol : ∀ b : Bool, v = .bl b → Q v Hf := fun b h => by
      subst h
      exact q _ _ kall hpf (.inr (.inl ⟨b, rfl⟩)) (fun _ h => nomatch h) rfl rfl
    rcases hm with h | h | h | h | h | h | h | h | h | h | h | h | h | h
    · subst h
      exact q _ _ kall hpf (.inr (.inr (.inl rfl))) (fun _ h => nomatch h) rfl rfl
    · exact str _ h
    · exact str _ h
    · exact ref _ h n6 (.inl ⟨_, o6⟩)
    · exact ref _ h n5 (.inr (.inl ⟨_, o5⟩))
    · exact ref _ h nd1 (.inr (.inr ⟨_, od1⟩))
    · exact bol _ h
    · exact bol _ h
    · exact ref _ h n4 (.inl ⟨_, o4⟩)
    · exact ref _ h n3 (.inr (.inl ⟨_, o3⟩))
    · exact str _ h
    · exact ref _ h n1 (.inl ⟨_, o1⟩)
    · exact ref _ h nd2 (.inr (.inr ⟨_, od2⟩))
    · exact str _ h
section
variable {K : PySem.W.Frag} {Z : Ad} {H : Hp} {Q : VK} {E : XK} {vs : List V}
def sp__law_right (_ : PySem.W.Frag) (Z : Ad) : Sp := fun vs H Q _ => ∃ (p s dx : Addr) (b : Int), vs = [.ref p, .ref s, .int b] ∧ PotAt H p ∧ H s = some (.ins Z.Space dx [("own_bits", .int b)]) ∧ 3 ≤ b ∧ b ≤ 32 ∧ s ≠ p ∧ ∀ H', Kp [p] H H' → PotAt H' p → Q (.bl true) H'
theorem use_right {p s dx : Addr} {b : Int} (e : vs = [.ref p, .ref s, .int b]) (h0 : PotAt H p) (h1 : H s = some (.ins Z.Space dx [("own_bits", .int b)])) (h2 : 3 ≤ b) (h3 : b ≤ 32) (h4 : s ≠ p) (q : ∀ H', Kp [p] H H' → PotAt H' p → Q (.bl true) H') : sp__law_right K Z vs H Q E := ⟨p, s, dx, b, e, h0, h1, h2, h3, h4, q⟩
end
def t__law_right (K : PySem.W.Frag) (Z : Ad) : TS :=
  (tSeq (tAsg (tCl (sp__law_size K Z) [.pos 0] [] [] 1 0 (fun _ => E0) (tCons (tVar 2) tNil) tNil) (gName 3))
  (tSeq (tAsg (tLst (tCons (tMe Z.Space "bits" (sp_Space_bits K Z) [.pos 0] [] [] 1 0 (fun _ => E0) (tVar 1) tNil tNil) (tCons (tMe Z.Space "size" (sp_Space_size K Z) [.pos 0] [] [] 1 0 (fun _ => E0) (tVar 1) tNil tNil) tNil))) (gName 4))
  (tSeq (tIfS (tOr (tNot (tB (tCB (rAll K) (tCons (tLc (iList K (tVar 4)) (gName 7) tYes (tCl (sp__law_is_whole K Z) [.pos 0] [] [] 1 0 (fun _ => E0) (tCons (tVar 7) tNil) tNil) [7]) tNil)))) (tTest (tOp (rNeD K) (tVar 4) (tLst (tCons (tVar 2) (tCons (tVar 3) tNil)))))) (tRet (tC (.bl false))) tNext)
  (tSeq (tAsg (tLst (tCons (tC (.int 0)) (tCons (tOp rSub0 (tVar 3) (tC (.int 1))) (tCons (tVar 3) (tCons (tUn (rU fun i => .int (-i)) (tC (.int 1))) (tCons (tOp rAdd0 (tOp rAdd0 (tVar 3) (tC (.int 1))) (tCl (sp__law_take K Z) [.pos 0, .pos 1] [] [] 2 0 (fun _ => E0) (tCons (tVar 0) (tCons (tOp rPow0 (tC (.int 10)) (tC (.int 20))) tNil)) tNil)) (tCons (tOp rSub0 (tUn (rU fun i => .int (-i)) (tC (.int 1))) (tCl (sp__law_take K Z) [.pos 0, .pos 1] [] [] 2 0 (fun _ => E0) (tCons (tVar 0) (tCons (tVar 3) tNil)) tNil)) (tCons (tCl (sp__law_take K Z) [.pos 0, .pos 1] [] [] 2 0 (fun _ => E0) (tCons (tVar 0) (tCons (tVar 3) tNil)) tNil) tNil)))))))) (gName 5))
  (tSeq (tAsg (tOp rCat (tVar 5) (tLst (tCons (tCl (sp__law_odd K Z) [.pos 0] [] [] 1 0 (fun _ => E0) (tCons (tVar 0) tNil) tNil) (tCons (tCl (sp__law_odd K Z) [.pos 0] [] [] 1 0 (fun _ => E0) (tCons (tVar 0) tNil) tNil) (tCons (tC (.int 1)) (tCons (tC (.bl true)) (tCons (tC (.int 0)) (tCons (tC (.bl false)) (tCons (tC .non) tNil))))))))) (gName 5))
  (tSeq (tFor (iList K (tVar 5)) (gName 6) (tSeq (tAsg (tMe Z.Space "has" (sp_Space_has K Z) [.pos 0, .pos 1] [] [] 2 0 (fun _ => E0) (tVar 1) (tCons (tVar 6) tNil) tNil) (gName 4))
  (tIfS (tOr (tNot (tB (tCB (rIsi K) (tCons (tVar 4) (tCons (tC (.ty "bool")) tNil))))) (tTest (tOp rNe (tVar 4) (tAndV (tCl (sp__law_is_whole K Z) [.pos 0] [] [] 1 0 (fun _ => E0) (tCons (tVar 6) tNil) tNil) (tAndV (tOp rGe (tVar 6) (tC (.int 0))) (tOp rLt (tVar 6) (tVar 3))))))) (tRet (tC (.bl false))) tNext)))
  (tRet (tC (.bl true)))))))))
theorem rd__law_right (K : PySem.W.Frag) (Z : Ad) : ∀ vs H Q E, sp__law_right K Z vs H Q E → t__law_right K Z { nx := fun _ H' => Q .non H', rt := Q } (start (["_law_pot_here", "_law_space", "_law_wide", "_law_size_here", "_law_told", "_law_some", "_law_thing", "_law_one"]) vs) H := by
  rintro _ H Q E ⟨p, s, dx, b, rfl, hp, hs, h2, h3, hsp, q⟩
  show t__law_right K Z _ [some (.ref p), some (.ref s), some (.int b), none, none, none, none, none] H
  unfold t__law_right
  have hS : SpAt Z H s (2 ^ b.toNat) := ⟨dx, b, hs, h2, h3, rfl⟩
  have hm0 := hS.pos
  walk_at "go"
  refine use_sizeL rfl (by omega) (by omega) ?_
  generalize (2 : Int) ^ b.toNat = m at *
  walk_at "go"
  refine use_bits rfl hs ?_
  walk_at "go"
  rename_i l1 hl1 H1 k1 e1
  have e1' : H1 l1 = some (.lst (([b, m] : List Int).map V.int)) := e1
  walk_at "on"
  refine c_list (SqL.of e1') (fun D j H' => H' D = some (.lst ((List.replicate j true).map V.bl)) ∧ Kp [] H1 H') ?_ ?_ ?_ ?_
  · intro D hD
    exact ⟨upd_same, Kp.refl.new hD⟩
  · rintro D j H' hD hj ⟨_, k⟩
    exact k.seq0 (SqL.of e1')
  · rintro D j xv H' hD hx ⟨e, k⟩
    have hj : j < 2 := (List.getElem?_eq_some_iff.mp hx).1
    obtain ⟨x, hx2, rfl⟩ := ints_at hx
    dsimp only [wipe, List.set]
    walk_at "go"
    refine use_wholeL rfl (.inl ⟨x, rfl⟩) ?_
    refine ⟨_, e, sz_less (by rw [List.length_map, List.length_replicate]; omega), ?_, k.own hD⟩
    rw [upd_same, List.replicate_succ', List.map_append]; rfl
  · rintro D H2 hD ⟨e2, k2⟩
    walk_at "go"
    refine h_all (SqL.of e2) ?_
    rw [show (List.replicate (([b, m] : List Int).map V.int).length true).all id = true by rfl]
    walk_at "go"
    rename_i l3 hl3 H3 k3 e3
    have e3' : H3 l3 = some (.lst (([b, m] : List Int).map V.int)) := e3
    have e13 : H3 l1 = some (.lst (([b, m] : List Int).map V.int)) := (k2.trans k3) _ _ e1' nm0
    refine d_neI (SqL.of e13) (SqL.of e3') ?_
    rw [decide_eq_true rfl]
    have kk3 : KpC [] H H3 := ⟨(k1.trans k2).trans k3⟩
    have hp3 : PotAt H3 p := hp.kp kk3.k nm0
    have hS3 : SpAt Z H3 s m := hS.kp kk3.k nm0
    clear k1 k2 k3 e1 e2 e3 e1' e3' e13 hl1 hl3 hD
    walk_at "go"
    refine use_take rfl (by walk_at "pot") (by decide) (by decide) ?_
    intro r4 H4 hr40 hr41 k4 hp4
    walk_at "go"
    rename_i r5 H5 hr50 hr51 k5 hp5 r6 H6 hr60 hr61 k6 hp6 l7 hl7 H7 k7 e7
    have hp7 : PotAt H7 p := hp6.kp k7 nm0
    refine use_odd rfl hp7 ?_
    intro v1 H8 k8 hp8 t1 a1 b1 w1
    walk_at "go"
    refine use_odd rfl hp8 ?_
    intro v2 H9 k9 hp9 t2 a2 b2 w2
    have l7p : l7 ≠ p := PotAt.nonneg hp6 hp6 hl7
    have e9 := k9 _ _ (k8 _ _ e7 (nm1 l7p)) (nm1 l7p)
    have t1' := t1.kp1 k9 a1
    have hS9 : SpAt Z H9 s m := ((((((hS3.kp k4 (nm1 hsp)).kp k5 (nm1 hsp)).kp k6 (nm1 hsp)).kp k7 nm0).kp k8 (nm1 hsp)).kp k9 (nm1 hsp))
    have kk9 : KpC [p] H H9 := ⟨((((((kk3.k.wid.trans k4).trans k5).trans k6).trans k7.wid).trans k8).trans k9)⟩
    clear k4 k5 k6 k7 k8 k9 hp3 hp4 hp5 hp6 hp7 hp8 e7 t1 kk3 hS3
    walk_at "go"
    rename_i l10 hl10 H10 k10 e10 l11 H11 hl11 k11 e11
    have z11 : Kp [] H9 H11 := k10.trans k11
    have hall : ∀ v ∈ ([V.int 0, .int (m - 1), .int m, .int (-1), .int (m + 1 + r4), .int (-1 - r5), .int r6] ++ [v1, v2, .int 1, .bl true, .int 0, .bl false, .non] : List V), Th H11 v := by
      intro v hv
      simp only [List.mem_append, List.mem_cons, List.not_mem_nil, or_false] at hv
      rcases hv with (h | h | h | h | h | h | h) | (h | h | h | h | h | h | h)
      · exact .inl ⟨_, h⟩
      · exact .inl ⟨_, h⟩
      · exact .inl ⟨_, h⟩
      · exact .inl ⟨_, h⟩
      · exact .inl ⟨_, h⟩
      · exact .inl ⟨_, h⟩
      · exact .inl ⟨_, h⟩
      · rw [h]; exact t1'.kp0 z11
      · rw [h]; exact t2.kp0 z11
      · exact .inl ⟨_, h⟩
      · exact .inr (.inl ⟨_, h⟩)
      · exact .inl ⟨_, h⟩
      · exact .inr (.inl ⟨_, h⟩)
      · exact .inr (.inr (.inl h))
    have hS11 : SpAt Z H11 s m := hS9.kp z11 nm0
    refine f_list (SqL.of e11) (fun i σ' H' => H11 = H' ∧ ∃ y4 y6, σ' = [some (.ref p), some (.ref s), some (.int b), some (.int m), y4, some (.ref l11), y6, none]) ⟨rfl, _, _, rfl⟩ (by rintro _ _ _ _ ⟨rfl, _⟩; exact SqL.of e11) ?_ ?_
    · rintro i v _ _ hx ⟨rfl, y4, y6, rfl⟩
      have hv := hall v (List.mem_of_getElem? hx)
      walk_at "go"
      refine use_has rfl hS11 hv ?_
      walk_at "go"
      refine isi (b := true) (.base (.bl _)) (by decide +kernel) ?_
      walk_at "go"
      refine use_wholeL rfl hv ?_
      rcases hv with ⟨i, rfl⟩ | ⟨c, rfl⟩ | ho
      · show ∃ c, V.bl true = V.bl c ∧ _
        walk_at "go"
        refine g_ite (fun h => ?_) fun h => ?_
        · walk_at "go"
          refine g_iteN (fun w => absurd ?_ w) fun _ => ?_
          · show V.bl (decide (0 ≤ i) && decide (i < m)) = _
            rw [decide_eq_true (by omega), Bool.true_and]
          · walk_at "go"
            exact ⟨_, _, rfl⟩
        · walk_at "go"
          refine g_iteN (fun w => absurd ?_ w) fun _ => ?_
          · show V.bl (decide (0 ≤ i) && decide (i < m)) = _
            rw [decide_eq_false (by omega), Bool.false_and]
          · walk_at "go"
            exact ⟨_, _, rfl⟩
      · show ∃ c, V.bl false = V.bl c ∧ _
        walk_at "go"
        refine g_iteN (fun w => absurd rfl w) fun _ => ?_
        walk_at "go"
        exact ⟨_, _, rfl⟩
      · rcases ho with rfl | ⟨t, rfl⟩ | ⟨c, rfl, _⟩
        · show ∃ c, V.bl false = V.bl c ∧ _
          walk_at "go"
          refine g_iteN (fun w => absurd rfl w) fun _ => ?_
          walk_at "go"
          exact ⟨_, _, rfl⟩
        · show ∃ c, V.bl false = V.bl c ∧ _
          walk_at "go"
          refine g_iteN (fun w => absurd rfl w) fun _ => ?_
          walk_at "go"
          exact ⟨_, _, rfl⟩
        · show ∃ c, V.bl false = V.bl c ∧ _
          walk_at "go"
          refine g_iteN (fun w => absurd rfl w) fun _ => ?_
          walk_at "go"
          exact ⟨_, _, rfl⟩
    · rintro _ _ ⟨rfl, y4, y6, rfl⟩
      walk_at "go"
      exact q _ (kk9.k.trans z11.wid) (hp9.kp z11 nm0)
def sp_law (K : PySem.W.Frag) (_ : Ad) : Sp := fun vs H Q _ => ∃ (a : Addr) (ns : List Int), vs = [.ref a] ∧ SqL K H a (ns.map V.int) ∧ ns.length ≤ 63 ∧ ∀ H', Q (.bl true) H'
theorem g_iteT {b : Bool} {σ : St} {H : Hp} {ta tb : TE} {Q : VK} (M : V → Hp → Prop) (h1 : ∀ Q' : VK, (∀ v H', M v H' → Q' v H') → ta σ H Q') (h2 : ∀ Q' : VK, (∀ v H', M v H' → Q' v H') → tb σ H Q') (q : ∀ v H', M v H' → Q v H') : if b = true then ta σ H Q else tb σ H Q := by
  cases b with
  | true => exact h1 Q q
  | false => exact h2 Q q
theorem inB_int {l h : Int} {v : V} (e : inB l h v = true) : ∃ i, v = .int i ∧ l ≤ i ∧ i < h := by
  cases v with
  | int i =>
    have z : (decide (l ≤ i) && decide (i < h)) = true := e
    simp only [Bool.and_eq_true, decide_eq_true_eq] at z
    exact ⟨i, rfl, z.1, z.2⟩
  | _ => cases e
def t_law (K : PySem.W.Frag) (Z : Ad) : TS :=
  (tSeq (tIfS (tOr (tTest (tOp rNe (tC (.int 8)) (tC (.int 8)))) (tNot (tB (tCl (sp__law_right K Z) [.pos 0, .pos 1, .pos 2] [] [] 3 0 (fun _ => E0) (tCons (tCl (sp__law_pot K Z) [.pos 0, .pos 1] [] [] 2 0 (fun _ => E0) (tCons (tVar 0) (tCons (tC (.int 0)) tNil)) tNil) (tCons (tMk Z.Space (sp_Space___init__ K Z) [.pos 0, .dfl 0] [.int 8] [] 1 0 (fun _ => E0) tNil tNil) (tCons (tC (.int 8)) tNil))) tNil)))) (tRet (tC (.bl false))) tNext)
  (tSeq (tFor (iRng1 (tCons (tCB rMax2 (tCons (tC (.int 1)) (tCons (tCB rMin2 (tCons (tCB (rLenS K) (tCons (tVar 0) tNil)) (tCons (tC (.int 30)) tNil))) tNil))) tNil)) (gName 1) (tSeq (tAsg (tCl (sp__law_pot K Z) [.pos 0, .pos 1] [] [] 2 0 (fun _ => E0) (tCons (tVar 0) (tCons (tVar 1) tNil)) tNil) (gName 2))
  (tSeq (tAsg (tIf (tTest (tOp rEq (tCl (sp__law_take K Z) [.pos 0, .pos 1] [] [] 2 0 (fun _ => E0) (tCons (tVar 2) (tCons (tC (.int 4)) tNil)) tNil) (tC (.int 0)))) (tCl (sp__law_odd K Z) [.pos 0] [] [] 1 0 (fun _ => E0) (tCons (tVar 2) tNil) tNil) (tCl (sp__law_number K Z) [.pos 0] [] [] 1 0 (fun _ => E0) (tCons (tVar 2) tNil) tNil)) (gName 3))
  (tSeq (tAsg (tCl (sp__law_made K Z) [.pos 0, .pos 1] [] [] 2 0 (fun _ => E0) (tCons (tVar 3) (tCons (tCl (sp__law_take K Z) [.pos 0, .pos 1] [] [] 2 0 (fun _ => E0) (tCons (tVar 2) (tCons (tC (.int 2)) tNil)) tNil) tNil)) tNil) (gName 4))
  (tIfS (tNot (tB (tCl (sp__law_is_right K Z) [.pos 0] [] [] 1 0 (fun _ => E0) (tCons (tVar 3) tNil) tNil))) (tIfS (tTest (tOp rNe (tVar 4) (tC (.str "refused")))) (tRet (tC (.bl false))) tNext) (tIfS (tOr (tNot (tB (tCB (rIsi K) (tCons (tVar 4) (tCons (tC (.ref Z.Space)) tNil))))) (tNot (tB (tCl (sp__law_right K Z) [.pos 0, .pos 1, .pos 2] [] [] 3 0 (fun _ => E0) (tCons (tVar 2) (tCons (tVar 4) (tCons (tVar 3) tNil))) tNil)))) (tRet (tC (.bl false))) tNext))))))
  (tRet (tC (.bl true)))))
theorem rd_law (K : PySem.W.Frag) (Z : Ad) (hisi : ∀ (H : Hp) (s dx : Addr) (fs : List (Str × V)) (Q : VK), H s = some (.ins Z.Space dx fs) → Q (.bl true) H → rIsi K [.ref s, .ref Z.Space] H Q) : ∀ vs H Q E, sp_law K Z vs H Q E → t_law K Z { nx := fun _ H' => Q .non H', rt := Q } (start (["_law_script", "_law_k", "_law_pot_here", "_law_thing", "_law_found"]) vs) H := by
  rintro _ H Q E ⟨a, ns, rfl, ha, hl, q⟩
  show t_law K Z _ [some (.ref a), none, none, none, none] H
  unfold t_law
  walk_at "go"
  walk_at "on"
  refine g_iteN (fun h => absurd rfl h) fun _ => ?_
  walk_at "go"
  refine use_pot rfl ha (by omega) (by omega) ?_
  intro p H1 hp k1 hp1
  walk_at "go"
  refine use_mk2 (v := .int 8) (fun _ => rfl) (.inl ⟨8, rfl⟩) ?_ (fun h => absurd h (by decide))
  intro _ s dx H2 hs k2 es
  walk_at "go"
  refine use_right rfl (hp1.kp k2 nm0) es (by decide) (by decide) (PotAt.nonneg hp1 hp1 hs) ?_
  intro H3 k3 hp3
  have kk3 : KpC [] H H3 := ⟨by
    have z : Kp [p] H H3 := (k1.trans k2).wid.trans k3
    intro c ob e _
    exact z c ob e (nm1 (ne_of_none e hp))⟩
  clear k1 k2 k3
  walk_at "go"
  refine f_rng ?_ (fun i σ' H' => ∃ y1 y2 y3 y4, σ' = [some (.ref a), y1, y2, y3, y4] ∧ Kp [] H H') ⟨_, _, _, _, rfl, kk3.k⟩ ?_ ?_
  · constructor <;> walk_at "ifs"
  · rintro i _ H1 hi ⟨y1, y2, y3, y4, rfl, k1⟩
    have hi2 : (i : Int) < 30 := by
      refine Int.lt_of_lt_of_le hi ?_
      walk_at "ifs"
    clear hi hp hp1 hp3 hs es kk3
    walk_at "go"
    refine use_pot rfl (k1.seq0 ha) (by omega) (by omega) ?_
    intro p H2 hp k2 hp2
    walk_at "go"
    rename_i r H3 hr0 hr1 k3 hp3
    refine g_iteT (fun v H' => Kp [p] H3 H' ∧ PotAt H' p ∧ Th H' v ∧ Apart v p) ?_ ?_ ?_
    · intro Q' q'
      walk_at "go"
      refine use_odd rfl hp3 ?_
      intro v H' k' hp' t' a' _ _
      exact q' _ _ ⟨k', hp', t', a'⟩
    · intro Q' q'
      walk_at "go"
      refine use_number rfl hp3 ?_
      intro i H' k' hp'
      exact q' _ _ ⟨k', hp', .inl ⟨i, rfl⟩, fun _ h => nomatch h⟩
    · rintro v H4 ⟨k4, hp4, th4, ap⟩
      have kk4 : KpC [] H H4 := ⟨by
        have z : Kp [p] H H4 := ((k1.trans k2).wid.trans k3).trans k4
        intro c ob e _
        exact z c ob e (nm1 (ne_of_none (k1 _ _ e nm0) hp))⟩
      have hpH : H p = none := k1.free nm0 hp
      clear k1 k2 k3 k4 hp2 hp3
      walk_at "go"
      rename_i r5 H5 hr50 hr51 k5 hp5
      refine use_made rfl (th4.kp1 k5 ap) ?_ ?_
      · intro hb s dx H6 hs k6 es
        obtain ⟨j, rfl, hj1, hj2⟩ := inB_int hb
        walk_at "go"
        refine use_rightL rfl (.inl ⟨j, rfl⟩) ?_
        rw [hb]
        walk_at "go"
        refine hisi _ _ _ _ _ es ?_
        walk_at "go"
        refine use_right rfl (hp5.kp k6 nm0) es hj1 (by omega) (PotAt.nonneg hp5 hp5 hs) ?_
        intro H7 k7 hp7
        walk_at "go"
        refine ⟨_, _, _, _, rfl, ?_⟩
        have z : Kp [p] H H7 := ((kk4.k.wid.trans k5).trans k6.wid).trans k7
        intro c ob e _
        exact z c ob e (nm1 (ne_of_none e hpH))
      · intro hb H6 k6
        walk_at "go"
        refine use_rightL rfl ((th4.kp1 k5 ap).kp0 k6) ?_
        rw [hb]
        walk_at "go"
        refine g_iteN (fun h => absurd rfl h) fun _ => ?_
        walk_at "go"
        refine ⟨_, _, _, _, rfl, ?_⟩
        have z : Kp [p] H H6 := (kk4.k.wid.trans k5).trans k6.wid
        intro c ob e _
        exact z c ob e (nm1 (ne_of_none e hpH))
  · rintro _ H1 ⟨y1, y2, y3, y4, rfl, k1⟩
    walk_at "go"
    exact q _
end NN
namespace NN
open PySem L2
def topS (i : Nat) : Stmt := PySem.Challenge.pw_nearestname_k11_spaces_made.main.body.getD i (.Pass ⟨0, 0, 0, 0⟩)
abbrev s_is_whole : Stmt := topS 11
abbrev s_Space___init__ : Stmt := inClass (topS 12) 0
abbrev s_Space_bits : Stmt := inClass (topS 12) 1
abbrev s_Space_size : Stmt := inClass (topS 12) 2
abbrev s_Space_has : Stmt := inClass (topS 12) 3
abbrev s__law_cell : Stmt := topS 14
abbrev s__law_pot : Stmt := topS 15
abbrev s__law_take : Stmt := topS 16
abbrev s__law_odd : Stmt := topS 17
abbrev s__law_number : Stmt := topS 18
abbrev s__law_is_whole : Stmt := topS 19
abbrev s__law_is_right : Stmt := topS 20
abbrev s__law_made : Stmt := topS 21
abbrev s__law_size : Stmt := topS 22
abbrev s__law_right : Stmt := topS 23
abbrev s_law : Stmt := topS 24
theorem sc_is_whole : FnScope ["thing"] ["thing"] (defScope s_is_whole) := ⟨rfl, rfl, rfl, by decide +kernel, rfl, by decide +kernel, by decide +kernel⟩
theorem sc_Space___init__ : FnScope ["self", "bits"] ["self", "bits"] (defScope s_Space___init__) := ⟨rfl, rfl, rfl, by decide +kernel, rfl, by decide +kernel, by decide +kernel⟩
theorem sc_Space_bits : FnScope ["self"] ["self"] (defScope s_Space_bits) := ⟨rfl, rfl, rfl, by decide +kernel, rfl, by decide +kernel, by decide +kernel⟩
theorem sc_Space_size : FnScope ["self"] ["self"] (defScope s_Space_size) := ⟨rfl, rfl, rfl, by decide +kernel, rfl, by decide +kernel, by decide +kernel⟩
theorem sc_Space_has : FnScope ["self", "thing"] ["self", "thing"] (defScope s_Space_has) := ⟨rfl, rfl, rfl, by decide +kernel, rfl, by decide +kernel, by decide +kernel⟩
theorem sc__law_cell : FnScope ["_law_script", "_law_k"] ["_law_script", "_law_k"] (defScope s__law_cell) := ⟨rfl, rfl, rfl, by decide +kernel, rfl, by decide +kernel, by decide +kernel⟩
theorem sc__law_pot : FnScope ["_law_script", "_law_k", "_law_cell_here"] ["_law_script", "_law_k"] (defScope s__law_pot) := ⟨rfl, rfl, rfl, by decide +kernel, rfl, by decide +kernel, by decide +kernel⟩
theorem sc__law_take : FnScope ["_law_pot_here", "_law_room", "_law_digit"] ["_law_pot_here", "_law_room"] (defScope s__law_take) := ⟨rfl, rfl, rfl, by decide +kernel, rfl, by decide +kernel, by decide +kernel⟩
theorem sc__law_odd : FnScope ["_law_pot_here", "_law_some"] ["_law_pot_here"] (defScope s__law_odd) := ⟨rfl, rfl, rfl, by decide +kernel, rfl, by decide +kernel, by decide +kernel⟩
theorem sc__law_number : FnScope ["_law_pot_here", "_law_way"] ["_law_pot_here"] (defScope s__law_number) := ⟨rfl, rfl, rfl, by decide +kernel, rfl, by decide +kernel, by decide +kernel⟩
theorem sc__law_is_whole : FnScope ["_law_thing"] ["_law_thing"] (defScope s__law_is_whole) := ⟨rfl, rfl, rfl, by decide +kernel, rfl, by decide +kernel, by decide +kernel⟩
theorem sc__law_is_right : FnScope ["_law_thing"] ["_law_thing"] (defScope s__law_is_right) := ⟨rfl, rfl, rfl, by decide +kernel, rfl, by decide +kernel, by decide +kernel⟩
theorem sc__law_made : FnScope ["_law_thing", "_law_way", "_law_found", "_law_told", "e"] ["_law_thing", "_law_way"] (defScope s__law_made) := ⟨rfl, rfl, rfl, by decide +kernel, rfl, by decide +kernel, by decide +kernel⟩
theorem sc__law_size : FnScope ["_law_wide", "_law_found", "_law_k"] ["_law_wide"] (defScope s__law_size) := ⟨rfl, rfl, rfl, by decide +kernel, rfl, by decide +kernel, by decide +kernel⟩
theorem sc__law_right : FnScope ["_law_pot_here", "_law_space", "_law_wide", "_law_size_here", "_law_told", "_law_some", "_law_thing", "_law_one"] ["_law_pot_here", "_law_space", "_law_wide"] (defScope s__law_right) := ⟨rfl, rfl, rfl, by decide +kernel, rfl, by decide +kernel, by decide +kernel⟩
theorem sc_law : FnScope ["_law_script", "_law_k", "_law_pot_here", "_law_thing", "_law_found"] ["_law_script"] (defScope s_law) := ⟨rfl, rfl, rfl, by decide +kernel, rfl, by decide +kernel, by decide +kernel⟩
theorem cb_is_whole_1 {K : PySem.W.Frag} {f : Addr} {fd : FuncData} (F : FunS K "is_whole" "is_whole" s_is_whole [] [] f fd) : CallB K fd ["thing"] 1 [] [.pos 0] [] [] :=
  callb_p F (fun _ _ _ _ _ _ us ws hn hm => match us, hn, ws, hm with | [_], _, [], _ => rfl)
theorem cb_Space_size_1 {K : PySem.W.Frag} {f : Addr} {fd : FuncData} (F : FunS K "size" "Space.size" s_Space_size [] [] f fd) : CallB K fd ["self"] 1 [] [.pos 0] [] [] :=
  callb_p F (fun _ _ _ _ _ _ us ws hn hm => match us, hn, ws, hm with | [_], _, [], _ => rfl)
theorem cb__law_cell_2 {K : PySem.W.Frag} {f : Addr} {fd : FuncData} (F : FunS K "_law_cell" "_law_cell" s__law_cell [] [] f fd) : CallB K fd ["_law_script", "_law_k"] 2 [] [.pos 0, .pos 1] [] [] :=
  callb_p F (fun _ _ _ _ _ _ us ws hn hm => match us, hn, ws, hm with | [_, _], _, [], _ => rfl)
theorem cb__law_take_2 {K : PySem.W.Frag} {f : Addr} {fd : FuncData} (F : FunS K "_law_take" "_law_take" s__law_take [] [] f fd) : CallB K fd ["_law_pot_here", "_law_room"] 2 [] [.pos 0, .pos 1] [] [] :=
  callb_p F (fun _ _ _ _ _ _ us ws hn hm => match us, hn, ws, hm with | [_, _], _, [], _ => rfl)
theorem cb__law_is_whole_1 {K : PySem.W.Frag} {f : Addr} {fd : FuncData} (F : FunS K "_law_is_whole" "_law_is_whole" s__law_is_whole [] [] f fd) : CallB K fd ["_law_thing"] 1 [] [.pos 0] [] [] :=
  callb_p F (fun _ _ _ _ _ _ us ws hn hm => match us, hn, ws, hm with | [_], _, [], _ => rfl)
theorem cb_Space___init___2 {K : PySem.W.Frag} {f : Addr} {fd : FuncData} (F : FunS K "__init__" "Space.__init__" s_Space___init__ [.int 8] [] f fd) : CallB K fd ["self", "bits"] 2 [] [.pos 0, .pos 1] [.int 8] [] :=
  callb_d F (by simp) (fun _ _ _ _ _ _ _ us ws its hn hm hd => match us, hn, ws, hm, its, hd with | [_, _], _, [], _, [_], _ => ⟨_, rfl, rfl⟩)
theorem cb_Space___init___1_1 {K : PySem.W.Frag} {f : Addr} {fd : FuncData} (F : FunS K "__init__" "Space.__init__" s_Space___init__ [.int 8] [] f fd) : CallB K fd ["self", "bits"] 1 ["bits"] [.pos 0, .kw 0] [.int 8] [] :=
  callb_d F (by simp) (fun _ _ _ _ _ _ _ us ws its hn hm hd => match us, hn, ws, hm, its, hd with | [_], _, [_], _, [_], _ => ⟨_, rfl, rfl⟩)
theorem cb__law_size_1 {K : PySem.W.Frag} {f : Addr} {fd : FuncData} (F : FunS K "_law_size" "_law_size" s__law_size [] [] f fd) : CallB K fd ["_law_wide"] 1 [] [.pos 0] [] [] :=
  callb_p F (fun _ _ _ _ _ _ us ws hn hm => match us, hn, ws, hm with | [_], _, [], _ => rfl)
theorem cb_Space_bits_1 {K : PySem.W.Frag} {f : Addr} {fd : FuncData} (F : FunS K "bits" "Space.bits" s_Space_bits [] [] f fd) : CallB K fd ["self"] 1 [] [.pos 0] [] [] :=
  callb_p F (fun _ _ _ _ _ _ us ws hn hm => match us, hn, ws, hm with | [_], _, [], _ => rfl)
theorem cb__law_odd_1 {K : PySem.W.Frag} {f : Addr} {fd : FuncData} (F : FunS K "_law_odd" "_law_odd" s__law_odd [] [] f fd) : CallB K fd ["_law_pot_here"] 1 [] [.pos 0] [] [] :=
  callb_p F (fun _ _ _ _ _ _ us ws hn hm => match us, hn, ws, hm with | [_], _, [], _ => rfl)
theorem cb_Space_has_2 {K : PySem.W.Frag} {f : Addr} {fd : FuncData} (F : FunS K "has" "Space.has" s_Space_has [] [] f fd) : CallB K fd ["self", "thing"] 2 [] [.pos 0, .pos 1] [] [] :=
  callb_p F (fun _ _ _ _ _ _ us ws hn hm => match us, hn, ws, hm with | [_, _], _, [], _ => rfl)
theorem cb_Space___init___1 {K : PySem.W.Frag} {f : Addr} {fd : FuncData} (F : FunS K "__init__" "Space.__init__" s_Space___init__ [.int 8] [] f fd) : CallB K fd ["self", "bits"] 1 [] [.pos 0, .dfl 0] [.int 8] [] :=
  callb_d F (by simp) (fun _ _ _ _ _ _ _ us ws its hn hm hd => match us, hn, ws, hm, its, hd with | [_], _, [], _, [_], _ => ⟨_, rfl, rfl⟩)
theorem cb__law_pot_2 {K : PySem.W.Frag} {f : Addr} {fd : FuncData} (F : FunS K "_law_pot" "_law_pot" s__law_pot [] [] f fd) : CallB K fd ["_law_script", "_law_k"] 2 [] [.pos 0, .pos 1] [] [] :=
  callb_p F (fun _ _ _ _ _ _ us ws hn hm => match us, hn, ws, hm with | [_, _], _, [], _ => rfl)
theorem cb__law_right_3 {K : PySem.W.Frag} {f : Addr} {fd : FuncData} (F : FunS K "_law_right" "_law_right" s__law_right [] [] f fd) : CallB K fd ["_law_pot_here", "_law_space", "_law_wide"] 3 [] [.pos 0, .pos 1, .pos 2] [] [] :=
  callb_p F (fun _ _ _ _ _ _ us ws hn hm => match us, hn, ws, hm with | [_, _, _], _, [], _ => rfl)
theorem cb__law_number_1 {K : PySem.W.Frag} {f : Addr} {fd : FuncData} (F : FunS K "_law_number" "_law_number" s__law_number [] [] f fd) : CallB K fd ["_law_pot_here"] 1 [] [.pos 0] [] [] :=
  callb_p F (fun _ _ _ _ _ _ us ws hn hm => match us, hn, ws, hm with | [_], _, [], _ => rfl)
theorem cb__law_made_2 {K : PySem.W.Frag} {f : Addr} {fd : FuncData} (F : FunS K "_law_made" "_law_made" s__law_made [] [] f fd) : CallB K fd ["_law_thing", "_law_way"] 2 [] [.pos 0, .pos 1] [] [] :=
  callb_p F (fun _ _ _ _ _ _ us ws hn hm => match us, hn, ws, hm with | [_, _], _, [], _ => rfl)
theorem cb__law_is_right_1 {K : PySem.W.Frag} {f : Addr} {fd : FuncData} (F : FunS K "_law_is_right" "_law_is_right" s__law_is_right [] [] f fd) : CallB K fd ["_law_thing"] 1 [] [.pos 0] [] [] :=
  callb_p F (fun _ _ _ _ _ _ us ws hn hm => match us, hn, ws, hm with | [_], _, [], _ => rfl)
structure Txt (K : PySem.W.Frag) (mg : Str → Option Value) (Z : Ad) : Prop where
  c_NoSpace : mg "NoSpace" = some (.ref Z.NoSpace)
  c_RingError : mg "RingError" = some (.ref Z.RingError)
  c_Space : mg "Space" = some (.ref Z.Space)
  cl_Space : Cls K Z.Space
  na_Space_own_bits : NoAttr K Z.Space "own_bits"
  x_NoSpace : PySem.W.excIn K Z.NoSpace [.type "ValueError", .type "Exception", .type "BaseException", .type "object"] "ValueError.__new__" = true
  kp_NoSpace : PySem.W.keepIn K (.ref Z.NoSpace) = true
  b_NoSpace : PySem.W.subIn K (.ref Z.NoSpace) (.type "BaseException") = some true
  t_NoSpace : PySem.W.typeIn K (.ref Z.NoSpace) = some (.type "type")
  f_is_whole : DF K mg "is_whole" s_is_whole [] []
  f_Space___init__ : IF K Z.Space "Space.__init__" s_Space___init__ [.int 8] []
  f_Space_bits : MF K Z.Space "bits" "Space.bits" s_Space_bits [] []
  f_Space_size : MF K Z.Space "size" "Space.size" s_Space_size [] []
  f_Space_has : MF K Z.Space "has" "Space.has" s_Space_has [] []
  f__law_cell : DF K mg "_law_cell" s__law_cell [] []
  f__law_pot : DF K mg "_law_pot" s__law_pot [] []
  f__law_take : DF K mg "_law_take" s__law_take [] []
  f__law_odd : DF K mg "_law_odd" s__law_odd [] []
  f__law_number : DF K mg "_law_number" s__law_number [] []
  f__law_is_whole : DF K mg "_law_is_whole" s__law_is_whole [] []
  f__law_is_right : DF K mg "_law_is_right" s__law_is_right [] []
  f__law_made : DF K mg "_law_made" s__law_made [] []
  f__law_size : DF K mg "_law_size" s__law_size [] []
  f__law_right : DF K mg "_law_right" s__law_right [] []
  f_law : DF K mg "law" s_law [] []
  n_ValueError : mg "ValueError" = none
  n_abs : mg "abs" = none
  n_all : mg "all" = none
  n_bool : mg "bool" = none
  n_int : mg "int" = none
  n_isinstance : mg "isinstance" = none
  n_len : mg "len" = none
  n_max : mg "max" = none
  n_min : mg "min" = none
  n_range : mg "range" = none
  c_BITS : ∃ t, mg "BITS" = some (.int 8 t)
  c_LEAST_BITS : ∃ t, mg "LEAST_BITS" = some (.int 3 t)
  c_MOST_BITS : ∃ t, mg "MOST_BITS" = some (.int 32 t)
  gg1 : PySem.W.exmOne K (.ref Z.NoSpace) (.ref Z.NoSpace) = some true
  gg2 : PySem.W.kitOne K (.ref Z.NoSpace) (.ref Z.RingError) = some true
  gg3 : PySem.W.kitOne K (.ref Z.NoSpace) (.type "ValueError") = some true
  gg4 : PySem.W.kitOne K (.ref Z.Space) (.ref Z.Space) = some true
  gh1 : PySem.W.findIn K (.ref Z.NoSpace) "__getattribute__" = some (some (.builtin "BaseException.__getattribute__"))
  gh2 : PySem.W.findIn K (.ref Z.NoSpace) "__getattr__" = some none
  gh3 : PySem.W.hasDictIn K Z.NoSpace = true
  gh4 : PySem.W.findIn K (.ref Z.NoSpace) "__class__" = some (some (.builtin "object.__class__"))
  gh5 : PySem.W.specialIn K (.builtin "object.__class__") "__get__" = some (some (.builtin "getset_descriptor.__get__"))
  gh6 : PySem.W.takesIn K (.builtin "object.__class__") = some true
  gh7 : PySem.W.mroIn K Z.NoSpace (.type "object") = some true
  gh8 : PySem.W.findIn K (.ref Z.Space) "__class__" = some (some (.builtin "object.__class__"))
  gh9 : PySem.W.mroIn K Z.Space (.type "object") = some true
section
variable {P : Program} {w : World} {K : PySem.W.Frag} {mg : Str → Option Value} {base : Heap} {Z : Ad}
theorem ok_is_whole (T : Txt K mg Z) : DK P w K mg base CX0 1 "is_whole" ["thing"] s_is_whole [] [] (sp_is_whole K Z) :=
  T.f_is_whole.mk2 fun f fd F => fn0 F sc_is_whole (by intro vs H Q E h; unfold sp_is_whole at h; (repeat (obtain ⟨_, h⟩ := h)); subst_vars; rfl) (fun f cdv A outer s H E hr => (pss_one (ps_ret (pe_and (pe_callB call_isi (by rfl) T.n_isinstance (by decide +kernel) (pa_cons (pv 0) (pa_cons (pe_bltn (v := .ty "int") (by rfl) T.n_int (by decide +kernel) rfl) pa_nil))) (pe_one (pe_not (pe_callB call_isi (by rfl) T.n_isinstance (by decide +kernel) (pa_cons (pv 0) (pa_cons (pe_bltn (v := .ty "bool") (by rfl) T.n_bool (by decide +kernel) rfl) pa_nil))))))))) (rd_is_whole K Z)
theorem ok_Space___init__ (T : Txt K mg Z) : IK P w K mg base (L2.CX P w) 2 Z.Space "Space.__init__" ["self", "bits"] s_Space___init__ [.int 8] [] (sp_Space___init__ K Z) :=
  T.f_Space___init__.mk2 fun f fd F => fnx F sc_Space___init__ (by intro vs H Q E h; unfold sp_Space___init__ at h; (repeat (obtain ⟨_, h⟩ := h)); subst_vars; rfl) (fun f cdv A outer s H E hr => (pss_cons (ps_if (PW.pt (pw_or (pt_not (pt_val (pe_dk (ok_is_whole T) hr (by decide) (by rfl) cb_is_whole_1 xa0 (par_pos (pa_cons (pv 1) pa_nil))))) (pw_or1 (pt_not (pt_chain op_le op_le (pe_gI rfl T.c_LEAST_BITS) (pv 1) (pe_gI rfl T.c_MOST_BITS)))))) (pss_one (ps_raise rfl (takes_of rfl rfl rfl rfl) (pmk_own PySem.F.excBase_ValueError T.x_NoSpace T.c_NoSpace T.kp_NoSpace (raises_own T.b_NoSpace T.t_NoSpace) rfl))) pss_nil)
      (pss_one (ps_fld (pv 0) (pv 1) rfl)))) (rd_Space___init__ K Z T.cl_Space T.na_Space_own_bits)
theorem ok_Space_bits (T : Txt K mg Z) : MK P w K mg base CX0 1 Z.Space "bits" "Space.bits" ["self"] s_Space_bits [] [] (sp_Space_bits K Z) :=
  T.f_Space_bits.mk2 fun f fd F => fn0 F sc_Space_bits (by intro vs H Q E h; unfold sp_Space_bits at h; (repeat (obtain ⟨_, h⟩ := h)); subst_vars; rfl) (fun f cdv A outer s H E hr => (pss_one (ps_ret (pe_fld (pv 0) rfl)))) (rd_Space_bits K Z T.cl_Space T.na_Space_own_bits)
theorem ok_Space_size (T : Txt K mg Z) : MK P w K mg base CX0 1 Z.Space "size" "Space.size" ["self"] s_Space_size [] [] (sp_Space_size K Z) :=
  T.f_Space_size.mk2 fun f fd F => fn0 F sc_Space_size (by intro vs H Q E h; unfold sp_Space_size at h; (repeat (obtain ⟨_, h⟩ := h)); subst_vars; rfl) (fun f cdv A outer s H E hr => (pss_one (ps_ret (pe_op op_shl pe_int (pe_fld (pv 0) rfl))))) (rd_Space_size K Z T.cl_Space T.na_Space_own_bits)
theorem ok_Space_has (T : Txt K mg Z) : MK P w K mg base CX0 2 Z.Space "has" "Space.has" ["self", "thing"] s_Space_has [] [] (sp_Space_has K Z) :=
  T.f_Space_has.mk2 fun f fd F => fn0 F sc_Space_has (by intro vs H Q E h; unfold sp_Space_has at h; (repeat (obtain ⟨_, h⟩ := h)); subst_vars; rfl) (fun f cdv A outer s H E hr => (pss_one (ps_ret (pe_and (pe_dk (ok_is_whole T) hr (by decide) (by rfl) cb_is_whole_1 xa0 (par_pos (pa_cons (pv 1) pa_nil))) (pe_one (pe_chain op_le op_lt pe_int (pv 1) (pe_mkk (ok_Space_size T) (pv 0) T.cl_Space hr (by decide) cb_Space_size_1 xa0 par_0))))))) (rd_Space_has K Z)
theorem ok__law_cell (T : Txt K mg Z) : DK P w K mg base CX0 1 "_law_cell" ["_law_script", "_law_k"] s__law_cell [] [] (sp__law_cell K Z) :=
  T.f__law_cell.mk2 fun f fd F => fn0 F sc__law_cell (by intro vs H Q E h; unfold sp__law_cell at h; (repeat (obtain ⟨_, h⟩ := h)); subst_vars; rfl) (fun f cdv A outer s H E hr => (pss_one (ps_ret (pe_ifExp (pt_cmpR op_lt (pv 1) (pe_callB call_len_seq (by rfl) T.n_len (by decide +kernel) (pa_cons (pv 0) pa_nil)) (nomark _)) (pe_ix ix_list (pv 0) (pv 1) (fun _ _ => rfl)) pe_int)))) (rd__law_cell K Z)
theorem ok__law_pot (T : Txt K mg Z) : DK P w K mg base CX0 2 "_law_pot" ["_law_script", "_law_k"] s__law_pot [] [] (sp__law_pot K Z) :=
  T.f__law_pot.mk2 fun f fd F => fn0 F sc__law_pot (by intro vs H Q E h; unfold sp__law_pot at h; (repeat (obtain ⟨_, h⟩ := h)); subst_vars; rfl) (fun f cdv A outer s H E hr => (pss_cons (ps_set (i := 2) sc__law_pot.nd rfl (.inl rfl) (pe_dk (ok__law_cell T) hr (by decide) (by rfl) cb__law_cell_2 xa0 (par_pos (pa_cons (pv 0) (pa_cons (pv 1) pa_nil)))))
      (pss_one (ps_ret (pe_lst (pa_cons (pe_callB (call_max2 rfl) (by rfl) T.n_max (by decide +kernel) (pa_cons pe_int (pa_cons (pe_op op_sub (pv 2) (pe_op op_pow pe_int pe_int)) pa_nil))) (pa_cons (pe_op op_mod (pe_op op_add (pe_op op_add (pe_op op_add (pe_op op_mul (pe_op op_mod (pe_callB call_abs (by rfl) T.n_abs (by decide +kernel) (pa_cons (pv 2) pa_nil)) pe_int) pe_int) (pe_op op_mul (pe_op op_mul pe_int (pv 1)) (pv 1))) (pe_op op_mul pe_int (pv 1))) pe_int) pe_int) pa_nil))))))) (rd__law_pot K Z)
theorem ok__law_take (T : Txt K mg Z) : DK P w K mg base CX0 1 "_law_take" ["_law_pot_here", "_law_room"] s__law_take [] [] (sp__law_take K Z) :=
  T.f__law_take.mk2 fun f fd F => fn0 F sc__law_take (by intro vs H Q E h; unfold sp__law_take at h; (repeat (obtain ⟨_, h⟩ := h)); subst_vars; rfl) (fun f cdv A outer s H E hr => (pss_cons (ps_if (pt_cmpR op_gt (pe_ix ix_list (pv 0) pe_int (fun _ _ => rfl)) pe_int (nomark _)) (pss_cons (ps_set (i := 2) sc__law_take.nd rfl (.inl rfl) (pe_op op_mod (pe_ix ix_list (pv 0) pe_int (fun _ _ => rfl)) (pv 1)))
      (pss_cons (ps_asg (pe_op op_fdivW (pe_ix ix_list (pv 0) pe_int (fun _ _ => rfl)) (pv 1)) (pg_sub (pv 0) pe_int set_list))
      (pss_one (ps_ret (pv 2))))) pss_nil)
      (pss_cons (ps_asg (pe_op op_mod (pe_op op_add (pe_op op_mul (pe_ix ix_list (pv 0) pe_int (fun _ _ => rfl)) pe_int) pe_int) pe_int) (pg_sub (pv 0) pe_int set_list))
      (pss_one (ps_ret (pe_op op_mod (pe_op op_fdivW (pe_op op_mod (pe_op op_mul (pe_ix ix_list (pv 0) pe_int (fun _ _ => rfl)) (pe_ix ix_list (pv 0) pe_int (fun _ _ => rfl))) pe_int) pe_int) (pv 1))))))) (rd__law_take K Z)
theorem ok__law_odd (T : Txt K mg Z) : DK P w K mg base CX0 2 "_law_odd" ["_law_pot_here"] s__law_odd [] [] (sp__law_odd K Z) :=
  T.f__law_odd.mk2 fun f fd F => fn0 F sc__law_odd (by intro vs H Q E h; unfold sp__law_odd at h; (repeat (obtain ⟨_, h⟩ := h)); subst_vars; rfl) (fun f cdv A outer s H E hr => (pss_cons (ps_set (i := 1) sc__law_odd.nd rfl (.inl rfl) (pe_lst (pa_cons pe_non (pa_cons pe_str (pa_cons pe_str (pa_cons (pe_lst (pa_cons pe_int pa_nil)) (pa_cons (pe_tup (pa_cons pe_int pa_nil)) (pa_cons (pe_disp (pps_cons pe_int pe_int pps_nil) rfl rfl (by simp) (by decide)) (pa_cons pe_bl (pa_cons pe_bl (pa_cons (pe_lst pa_nil) (pa_cons (pe_tup pa_nil) (pa_cons pe_str (pa_cons (pe_lst (pa_cons (pe_lst (pa_cons pe_int pa_nil)) pa_nil)) (pa_cons pe_dnewK (pa_cons pe_str pa_nil))))))))))))))))
      (pss_one (ps_ret (pe_ix ix_list (pv 1) (pe_dk (ok__law_take T) hr (by decide) (by rfl) cb__law_take_2 xa0 (par_pos (pa_cons (pv 0) (pa_cons (pe_callB call_len_seq (by rfl) T.n_len (by decide +kernel) (pa_cons (pv 1) pa_nil)) pa_nil)))) (fun _ _ => rfl)))))) (rd__law_odd K Z)
theorem ok__law_number (T : Txt K mg Z) : DK P w K mg base CX0 2 "_law_number" ["_law_pot_here"] s__law_number [] [] (sp__law_number K Z) :=
  T.f__law_number.mk2 fun f fd F => fn0 F sc__law_number (by intro vs H Q E h; unfold sp__law_number at h; (repeat (obtain ⟨_, h⟩ := h)); subst_vars; rfl) (fun f cdv A outer s H E hr => (pss_cons (ps_set (i := 1) sc__law_number.nd rfl (.inl rfl) (pe_dk (ok__law_take T) hr (by decide) (by rfl) cb__law_take_2 xa0 (par_pos (pa_cons (pv 0) (pa_cons pe_int pa_nil)))))
      (pss_cons (ps_if (pt_cmpR op_eq (pv 1) pe_int (nomark _)) (pss_one (ps_ret (pe_ix ix_list (pe_lst (pa_cons pe_int (pa_cons pe_int (pa_cons pe_int (pa_cons (pe_un un_neg pe_int) (pa_cons pe_int (pa_cons pe_int pa_nil))))))) (pe_dk (ok__law_take T) hr (by decide) (by rfl) cb__law_take_2 xa0 (par_pos (pa_cons (pv 0) (pa_cons pe_int pa_nil)))) (fun _ _ => rfl)))) pss_nil)
      (pss_cons (ps_if (pt_cmpR op_eq (pv 1) pe_int (nomark _)) (pss_one (ps_ret (pe_op op_add (pe_dk (ok__law_take T) hr (by decide) (by rfl) cb__law_take_2 xa0 (par_pos (pa_cons (pv 0) (pa_cons (pe_op op_pow pe_int pe_int) pa_nil)))) pe_int))) pss_nil)
      (pss_cons (ps_if (pt_cmpR op_eq (pv 1) pe_int (nomark _)) (pss_one (ps_ret (pe_op op_sub (pe_un un_neg pe_int) (pe_dk (ok__law_take T) hr (by decide) (by rfl) cb__law_take_2 xa0 (par_pos (pa_cons (pv 0) (pa_cons (pe_op op_pow pe_int pe_int) pa_nil))))))) pss_nil)
      (pss_one (ps_ret (pe_dk (ok__law_take T) hr (by decide) (by rfl) cb__law_take_2 xa0 (par_pos (pa_cons (pv 0) (pa_cons pe_int pa_nil))))))))))) (rd__law_number K Z)
theorem ok__law_is_whole (T : Txt K mg Z) : DK P w K mg base CX0 1 "_law_is_whole" ["_law_thing"] s__law_is_whole [] [] (sp__law_is_whole K Z) :=
  T.f__law_is_whole.mk2 fun f fd F => fn0 F sc__law_is_whole (by intro vs H Q E h; unfold sp__law_is_whole at h; (repeat (obtain ⟨_, h⟩ := h)); subst_vars; rfl) (fun f cdv A outer s H E hr => (pss_one (ps_ret (pe_and (pe_callB call_isi (by rfl) T.n_isinstance (by decide +kernel) (pa_cons (pv 0) (pa_cons (pe_bltn (v := .ty "int") (by rfl) T.n_int (by decide +kernel) rfl) pa_nil))) (pe_and (pe_cmpR op_notX (pv 0) pe_bl (nomark _)) (pe_one (pe_cmpR op_notX (pv 0) pe_bl (nomark _)))))))) (rd__law_is_whole K Z)
theorem ok__law_is_right (T : Txt K mg Z) : DK P w K mg base CX0 2 "_law_is_right" ["_law_thing"] s__law_is_right [] [] (sp__law_is_right K Z) :=
  T.f__law_is_right.mk2 fun f fd F => fn0 F sc__law_is_right (by intro vs H Q E h; unfold sp__law_is_right at h; (repeat (obtain ⟨_, h⟩ := h)); subst_vars; rfl) (fun f cdv A outer s H E hr => (pss_one (ps_ret (pe_and (pe_dk (ok__law_is_whole T) hr (by decide) (by rfl) cb__law_is_whole_1 xa0 (par_pos (pa_cons (pv 0) pa_nil))) (pe_and (pe_cmpR op_gt (pv 0) pe_int (nomark _)) (pe_one (pe_cmpR op_lt (pv 0) pe_int (nomark _)))))))) (rd__law_is_right K Z)
theorem ok__law_made (T : Txt K mg Z) : DK P w K mg base CX0 4 "_law_made" ["_law_thing", "_law_way"] s__law_made [] [] (sp__law_made K Z) :=
  T.f__law_made.mk2 fun f fd F => fn0 F sc__law_made (by intro vs H Q E h; unfold sp__law_made at h; (repeat (obtain ⟨_, h⟩ := h)); subst_vars; rfl) (fun f cdv A outer s H E hr => (pss_cons (ps_set (i := 2) sc__law_made.nd rfl (.inl rfl) pe_non)
      (pss_cons (ps_set (i := 3) sc__law_made.nd rfl (.inl rfl) pe_str)
      (pss_cons (ps_tryA (i := 4) rfl rfl sc__law_made.nd rfl rfl ⟨by rfl, by decide, .inl T.c_NoSpace⟩ takes0 (fun W pn xe tk _ => (pss_one (ps_set (i := 2) sc__law_made.nd rfl (.inl rfl) (pe_ifExp (pt_cmpR op_eq (pv 1) pe_int (nomark _)) (pe_ik (ok_Space___init__ T) hr (by decide) (by rfl) T.c_Space cb_Space___init___2 (passAt tk) (par_pos (pa_cons (pv 0) pa_nil))) (pe_ik (ok_Space___init__ T) hr (by decide) (by rfl) T.c_Space cb_Space___init___1_1 (passAt tk) (par_kw (pk_cons (pv 0) pk_nil))))))) (fun a oe cls d pn hz hf => (pss_one (ps_set (i := 3) sc__law_made.nd rfl (.inl rfl) (pe_ix ix_list (pe_lst (pa_cons pe_str (pa_cons pe_str pa_nil))) (pe_callTy call_int1 (by rfl) T.n_int (by decide +kernel) (pa_cons (pe_and (pe_callB (call_isE2 hz hf) (by rfl) T.n_isinstance (by decide +kernel) (pa_cons (pv 4) (pa_cons (pe_gR (by rfl) T.c_RingError) pa_nil))) (pe_one (pe_callB (call_isE2 hz hf) (by rfl) T.n_isinstance (by decide +kernel) (pa_cons (pv 4) (pa_cons (pe_bltn (v := .ty "ValueError") (by rfl) T.n_ValueError (by decide +kernel) rfl) pa_nil))))) pa_nil)) (fun _ _ => rfl))))))
      (pss_one (ps_ret (pe_ifExp (pt_cmpR op_isN (pv 2) pe_non (nomark _)) (pv 3) (pv 2)))))))) (rd__law_made K Z T.gg1 ⟨T.gh1, T.gh2, T.b_NoSpace, T.gh3, T.gh4, T.gh5, T.gh6, T.gh7⟩ T.gg2 T.gg3)
theorem ok__law_size (T : Txt K mg Z) : DK P w K mg base CX0 1 "_law_size" ["_law_wide"] s__law_size [] [] (sp__law_size K Z) :=
  T.f__law_size.mk2 fun f fd F => fn0 F sc__law_size (by intro vs H Q E h; unfold sp__law_size at h; (repeat (obtain ⟨_, h⟩ := h)); subst_vars; rfl) (fun f cdv A outer s H E hr => (pss_cons (ps_set (i := 1) sc__law_size.nd rfl (.inl rfl) pe_int)
      (pss_cons (ps_for PassesOwn.never rfl (pi_range1 rfl T.n_range (pa_cons (pv 0) pa_nil)) (pg_name (i := 2) sc__law_size.nd rfl (Or.inl rfl)) (pss_one (ps_set (i := 1) sc__law_size.nd rfl (.inl rfl) (pe_op op_mul (pv 1) pe_int))))
      (pss_one (ps_ret (pv 1)))))) (rd__law_size K Z)
theorem ok__law_right (T : Txt K mg Z) : DK P w K mg base CX0 3 "_law_right" ["_law_pot_here", "_law_space", "_law_wide"] s__law_right [] [] (sp__law_right K Z) :=
  T.f__law_right.mk2 fun f fd F => fn0 F sc__law_right (by intro vs H Q E h; unfold sp__law_right at h; (repeat (obtain ⟨_, h⟩ := h)); subst_vars; rfl) (fun f cdv A outer s H E hr => (pss_cons (ps_set (i := 3) sc__law_right.nd rfl (.inl rfl) (pe_dk (ok__law_size T) hr (by decide) (by rfl) cb__law_size_1 xa0 (par_pos (pa_cons (pv 2) pa_nil))))
      (pss_cons (ps_set (i := 4) sc__law_right.nd rfl (.inl rfl) (pe_lst (pa_cons (pe_mkk (ok_Space_bits T) (pv 1) T.cl_Space hr (by decide) cb_Space_bits_1 xa0 par_0) (pa_cons (pe_mkk (ok_Space_size T) (pv 1) T.cl_Space hr (by decide) cb_Space_size_1 xa0 par_0) pa_nil))))
      (pss_cons (ps_if (PW.pt (pw_or (pt_not (pt_val (pe_callB (cr_all rfl) (by rfl) T.n_all (by decide +kernel) (pa_cons (pe_lc (own := [("_law_one", 7)]) rfl sc__law_right.nd (pi_list (pv 4)) (blkOk_by (N := ["_law_pot_here", "_law_space", "_law_wide", "_law_size_here", "_law_told", "_law_some", "_law_thing", "_law_one"]) (sc := defScope s__law_right) (by decide +kernel)) (fun _ _ _ _ _ => (pg_name (i := 7) sc__law_right.nd rfl (Or.inl rfl))) (fun _ _ _ _ _ => pts_nil) (fun _ _ _ _ _ => (pe_dk (ok__law_is_whole T) hr (by decide) (by rfl) cb__law_is_whole_1 xa0 (par_pos (pa_cons (pv 7) pa_nil))))) pa_nil)))) (pw_or1 (pt_cmpR (op_neD hr.units) (pv 4) (pe_lst (pa_cons (pv 2) (pa_cons (pv 3) pa_nil))) (nomark _))))) (pss_one (ps_ret pe_bl)) pss_nil)
      (pss_cons (ps_set (i := 5) sc__law_right.nd rfl (.inl rfl) (pe_lst (pa_cons pe_int (pa_cons (pe_op op_sub (pv 3) pe_int) (pa_cons (pv 3) (pa_cons (pe_un un_neg pe_int) (pa_cons (pe_op op_add (pe_op op_add (pv 3) pe_int) (pe_dk (ok__law_take T) hr (by decide) (by rfl) cb__law_take_2 xa0 (par_pos (pa_cons (pv 0) (pa_cons (pe_op op_pow pe_int pe_int) pa_nil))))) (pa_cons (pe_op op_sub (pe_un un_neg pe_int) (pe_dk (ok__law_take T) hr (by decide) (by rfl) cb__law_take_2 xa0 (par_pos (pa_cons (pv 0) (pa_cons (pv 3) pa_nil))))) (pa_cons (pe_dk (ok__law_take T) hr (by decide) (by rfl) cb__law_take_2 xa0 (par_pos (pa_cons (pv 0) (pa_cons (pv 3) pa_nil)))) pa_nil)))))))))
      (pss_cons (ps_set (i := 5) sc__law_right.nd rfl (.inl rfl) (pe_op op_cat (pv 5) (pe_lst (pa_cons (pe_dk (ok__law_odd T) hr (by decide) (by rfl) cb__law_odd_1 xa0 (par_pos (pa_cons (pv 0) pa_nil))) (pa_cons (pe_dk (ok__law_odd T) hr (by decide) (by rfl) cb__law_odd_1 xa0 (par_pos (pa_cons (pv 0) pa_nil))) (pa_cons pe_int (pa_cons pe_bl (pa_cons pe_int (pa_cons pe_bl (pa_cons pe_non pa_nil))))))))))
      (pss_cons (ps_for PassesOwn.never rfl (pi_list (pv 5)) (pg_name (i := 6) sc__law_right.nd rfl (Or.inl rfl)) (pss_cons (ps_set (i := 4) sc__law_right.nd rfl (.inl rfl) (pe_mkk (ok_Space_has T) (pv 1) T.cl_Space hr (by decide) cb_Space_has_2 xa0 (par_pos (pa_cons (pv 6) pa_nil))))
      (pss_one (ps_if (PW.pt (pw_or (pt_not (pt_val (pe_callB call_isi (by rfl) T.n_isinstance (by decide +kernel) (pa_cons (pv 4) (pa_cons (pe_bltn (v := .ty "bool") (by rfl) T.n_bool (by decide +kernel) rfl) pa_nil))))) (pw_or1 (pt_cmpR op_ne (pv 4) (pe_and (pe_dk (ok__law_is_whole T) hr (by decide) (by rfl) cb__law_is_whole_1 xa0 (par_pos (pa_cons (pv 6) pa_nil))) (pe_and (pe_cmpR op_ge (pv 6) pe_int (nomark _)) (pe_one (pe_cmpR op_lt (pv 6) (pv 3) (nomark _))))) (nomark _))))) (pss_one (ps_ret pe_bl)) pss_nil))))
      (pss_one (ps_ret pe_bl))))))))) (rd__law_right K Z)
theorem ok_law (T : Txt K mg Z) (f : Addr) (fd : FuncData) (F : FunS K "law" "law" s_law [] [] f fd) : FnOk P w K mg base CX0 5 f fd ["_law_script"] (sp_law K Z) :=
  fn0 F sc_law (by intro vs H Q E h; unfold sp_law at h; (repeat (obtain ⟨_, h⟩ := h)); subst_vars; rfl) (fun f cdv A outer s H E hr => (pss_cons (ps_if (PW.pt (pw_or (pt_cmpR op_ne (pe_gI rfl T.c_BITS) pe_int (nomark _)) (pw_or1 (pt_not (pt_val (pe_dk (ok__law_right T) hr (by decide) (by rfl) cb__law_right_3 xa0 (par_pos (pa_cons (pe_dk (ok__law_pot T) hr (by decide) (by rfl) cb__law_pot_2 xa0 (par_pos (pa_cons (pv 0) (pa_cons pe_int pa_nil)))) (pa_cons (pe_ik (ok_Space___init__ T) hr (by decide) (by rfl) T.c_Space cb_Space___init___1 xaL par_0) (pa_cons (pe_gI rfl T.c_BITS) pa_nil)))))))))) (pss_one (ps_ret pe_bl)) pss_nil)
      (pss_cons (ps_for PassesOwn.never rfl (pi_range1 rfl T.n_range (pa_cons (pe_callB (call_max2 rfl) (by rfl) T.n_max (by decide +kernel) (pa_cons pe_int (pa_cons (pe_callB (call_min2 rfl) (by rfl) T.n_min (by decide +kernel) (pa_cons (pe_callB call_len_seq (by rfl) T.n_len (by decide +kernel) (pa_cons (pv 0) pa_nil)) (pa_cons pe_int pa_nil))) pa_nil))) pa_nil)) (pg_name (i := 1) sc_law.nd rfl (Or.inl rfl)) (pss_cons (ps_set (i := 2) sc_law.nd rfl (.inl rfl) (pe_dk (ok__law_pot T) hr (by decide) (by rfl) cb__law_pot_2 xa0 (par_pos (pa_cons (pv 0) (pa_cons (pv 1) pa_nil)))))
      (pss_cons (ps_set (i := 3) sc_law.nd rfl (.inl rfl) (pe_ifExp (pt_cmpR op_eq (pe_dk (ok__law_take T) hr (by decide) (by rfl) cb__law_take_2 xa0 (par_pos (pa_cons (pv 2) (pa_cons pe_int pa_nil)))) pe_int (nomark _)) (pe_dk (ok__law_odd T) hr (by decide) (by rfl) cb__law_odd_1 xa0 (par_pos (pa_cons (pv 2) pa_nil))) (pe_dk (ok__law_number T) hr (by decide) (by rfl) cb__law_number_1 xa0 (par_pos (pa_cons (pv 2) pa_nil)))))
      (pss_cons (ps_set (i := 4) sc_law.nd rfl (.inl rfl) (pe_dk (ok__law_made T) hr (by decide) (by rfl) cb__law_made_2 xa0 (par_pos (pa_cons (pv 3) (pa_cons (pe_dk (ok__law_take T) hr (by decide) (by rfl) cb__law_take_2 xa0 (par_pos (pa_cons (pv 2) (pa_cons pe_int pa_nil)))) pa_nil)))))
      (pss_one (ps_if (pt_not (pt_val (pe_dk (ok__law_is_right T) hr (by decide) (by rfl) cb__law_is_right_1 xa0 (par_pos (pa_cons (pv 3) pa_nil))))) (pss_one (ps_if (pt_cmpR op_ne (pv 4) pe_str (nomark _)) (pss_one (ps_ret pe_bl)) pss_nil)) (pss_one (ps_if (PW.pt (pw_or (pt_not (pt_val (pe_callB call_isi (by rfl) T.n_isinstance (by decide +kernel) (pa_cons (pv 4) (pa_cons (pe_gR (by rfl) T.c_Space) pa_nil))))) (pw_or1 (pt_not (pt_val (pe_dk (ok__law_right T) hr (by decide) (by rfl) cb__law_right_3 xa0 (par_pos (pa_cons (pv 2) (pa_cons (pv 4) (pa_cons (pv 3) pa_nil)))))))))) (pss_one (ps_ret pe_bl)) pss_nil))))))))
      (pss_one (ps_ret pe_bl))))) (rd_law K Z (fun H s dx fs Q e q => ⟨_, _, _, _, true, rfl, .own _, .base (.ins e T.cl_Space T.gh8 T.gh5 T.gh6 T.gh9), T.gg4, q⟩))
end
theorem all_mk {l : PySem.W.OpenLaw} {w : World} {K : PySem.W.Frag} {h : Heap} {mg : Str → Option Value} {fa : Addr} (X : K.In h) (G : h.Ns mainGlobals mg) (hfa : mg "law" = some (.ref fa))
    {zNoSpace : Addr} {zRingError : Addr} {zSpace : Addr} {f0 : Addr} {od0 an0 : Option Addr} {sl0 : Array (Option Value)} {oc0 kV0 dc0 pm0 cd0 ct0 : Value} {f1 T1 : Addr} {od1 an1 oT1 : Option Addr} {sl1 tl1 : Array (Option Value)} {oc1 kV1 dc1 pm1 cd1 ct1 cT1 u1 : Value} {n1 : Nat} {f2 : Addr} {od2 an2 : Option Addr} {sl2 : Array (Option Value)} {oc2 kV2 dc2 pm2 cd2 ct2 : Value} {f3 : Addr} {od3 an3 : Option Addr} {sl3 : Array (Option Value)} {oc3 kV3 dc3 pm3 cd3 ct3 : Value} {f4 : Addr} {od4 an4 : Option Addr} {sl4 : Array (Option Value)} {oc4 kV4 dc4 pm4 cd4 ct4 : Value} {f5 : Addr} {od5 an5 : Option Addr} {sl5 : Array (Option Value)} {oc5 kV5 dc5 pm5 cd5 ct5 : Value} {f6 : Addr} {od6 an6 : Option Addr} {sl6 : Array (Option Value)} {oc6 kV6 dc6 pm6 cd6 ct6 : Value} {f7 : Addr} {od7 an7 : Option Addr} {sl7 : Array (Option Value)} {oc7 kV7 dc7 pm7 cd7 ct7 : Value} {f8 : Addr} {od8 an8 : Option Addr} {sl8 : Array (Option Value)} {oc8 kV8 dc8 pm8 cd8 ct8 : Value} {f9 : Addr} {od9 an9 : Option Addr} {sl9 : Array (Option Value)} {oc9 kV9 dc9 pm9 cd9 ct9 : Value} {f10 : Addr} {od10 an10 : Option Addr} {sl10 : Array (Option Value)} {oc10 kV10 dc10 pm10 cd10 ct10 : Value} {f11 : Addr} {od11 an11 : Option Addr} {sl11 : Array (Option Value)} {oc11 kV11 dc11 pm11 cd11 ct11 : Value} {f12 : Addr} {od12 an12 : Option Addr} {sl12 : Array (Option Value)} {oc12 kV12 dc12 pm12 cd12 ct12 : Value} {f13 : Addr} {od13 an13 : Option Addr} {sl13 : Array (Option Value)} {oc13 kV13 dc13 pm13 cd13 ct13 : Value} {f14 : Addr} {od14 an14 : Option Addr} {sl14 : Array (Option Value)} {oc14 kV14 dc14 pm14 cd14 ct14 : Value} {f15 : Addr} {od15 an15 : Option Addr} {sl15 : Array (Option Value)} {oc15 kV15 dc15 pm15 cd15 ct15 : Value} {ttBITS : _} {ttLEAST_BITS : _} {ttMOST_BITS : _}
    (gNoSpace : PySem.W.nsIn K mainGlobals "NoSpace" = some (some (.ref zNoSpace)))
    (gRingError : PySem.W.nsIn K mainGlobals "RingError" = some (some (.ref zRingError)))
    (gSpace : PySem.W.nsIn K mainGlobals "Space" = some (some (.ref zSpace)))
    (pgSpace : PySem.W.plainGet K zSpace Str.empty = true) (hdSpace : PySem.W.hasDictIn K zSpace = true) (poSpace : PySem.W.plainOver K zSpace = true) (saSpace : PySem.W.findIn K (.ref zSpace) "__setattr__" = some (some (.builtin "object.__setattr__")))
    (naSpaceown_bits : PySem.W.findIn K (.ref zSpace) "own_bits" = some none)
    (xNoSpace : PySem.W.excIn K zNoSpace [.type "ValueError", .type "Exception", .type "BaseException", .type "object"] "ValueError.__new__" = true) (kpNoSpace : PySem.W.keepIn K (.ref zNoSpace) = true) (bNoSpace : PySem.W.subIn K (.ref zNoSpace) (.type "BaseException") = some true) (tNoSpace : PySem.W.typeIn K (.ref zNoSpace) = some (.type "type"))
    (a0 : PySem.W.nsIn K mainGlobals "is_whole" = some (some (.ref f0)))
    (l0 : K.lookup f0 = some ⟨oc0, od0, .func (PySem.W.fnOf "is_whole" "is_whole" (defArgs s_is_whole) (defBody s_is_whole) (defScope s_is_whole) .none kV0 dc0 pm0 an0 cd0 ct0), sl0⟩) (cc0 : PySem.W.codeIn K cd0 "is_whole" = true) (k0 : PySem.W.keepIn K (.ref f0) = true)
    (mk1 : PySem.W.makesIn K zSpace = true) (kc1 : PySem.W.keepIn K (.ref zSpace) = true)
    (a1 : PySem.W.findIn K (.ref zSpace) "__init__" = some (some (.ref f1))) (i1 : PySem.W.isFn K (.ref f1) = true)
    (l1 : K.lookup f1 = some ⟨oc1, od1, .func (PySem.W.fnOf "__init__" "Space.__init__" (defArgs s_Space___init__) (defBody s_Space___init__) (defScope s_Space___init__) (.ref T1) kV1 dc1 pm1 an1 cd1 ct1), sl1⟩) (cc1 : PySem.W.codeIn K cd1 "Space.__init__" = true) (k1 : PySem.W.keepIn K (.ref f1) = true)
    (lT1 : K.lookup T1 = some ⟨cT1, oT1, .seq #[u1] n1, tl1⟩) (rT1 : RelV (.int 8) u1)
    (a2 : PySem.W.findIn K (.ref zSpace) "bits" = some (some (.ref f2))) (i2 : PySem.W.isFn K (.ref f2) = true)
    (l2 : K.lookup f2 = some ⟨oc2, od2, .func (PySem.W.fnOf "bits" "Space.bits" (defArgs s_Space_bits) (defBody s_Space_bits) (defScope s_Space_bits) .none kV2 dc2 pm2 an2 cd2 ct2), sl2⟩) (cc2 : PySem.W.codeIn K cd2 "Space.bits" = true) (k2 : PySem.W.keepIn K (.ref f2) = true)
    (a3 : PySem.W.findIn K (.ref zSpace) "size" = some (some (.ref f3))) (i3 : PySem.W.isFn K (.ref f3) = true)
    (l3 : K.lookup f3 = some ⟨oc3, od3, .func (PySem.W.fnOf "size" "Space.size" (defArgs s_Space_size) (defBody s_Space_size) (defScope s_Space_size) .none kV3 dc3 pm3 an3 cd3 ct3), sl3⟩) (cc3 : PySem.W.codeIn K cd3 "Space.size" = true) (k3 : PySem.W.keepIn K (.ref f3) = true)
    (a4 : PySem.W.findIn K (.ref zSpace) "has" = some (some (.ref f4))) (i4 : PySem.W.isFn K (.ref f4) = true)
    (l4 : K.lookup f4 = some ⟨oc4, od4, .func (PySem.W.fnOf "has" "Space.has" (defArgs s_Space_has) (defBody s_Space_has) (defScope s_Space_has) .none kV4 dc4 pm4 an4 cd4 ct4), sl4⟩) (cc4 : PySem.W.codeIn K cd4 "Space.has" = true) (k4 : PySem.W.keepIn K (.ref f4) = true)
    (a5 : PySem.W.nsIn K mainGlobals "_law_cell" = some (some (.ref f5)))
    (l5 : K.lookup f5 = some ⟨oc5, od5, .func (PySem.W.fnOf "_law_cell" "_law_cell" (defArgs s__law_cell) (defBody s__law_cell) (defScope s__law_cell) .none kV5 dc5 pm5 an5 cd5 ct5), sl5⟩) (cc5 : PySem.W.codeIn K cd5 "_law_cell" = true) (k5 : PySem.W.keepIn K (.ref f5) = true)
    (a6 : PySem.W.nsIn K mainGlobals "_law_pot" = some (some (.ref f6)))
    (l6 : K.lookup f6 = some ⟨oc6, od6, .func (PySem.W.fnOf "_law_pot" "_law_pot" (defArgs s__law_pot) (defBody s__law_pot) (defScope s__law_pot) .none kV6 dc6 pm6 an6 cd6 ct6), sl6⟩) (cc6 : PySem.W.codeIn K cd6 "_law_pot" = true) (k6 : PySem.W.keepIn K (.ref f6) = true)
    (a7 : PySem.W.nsIn K mainGlobals "_law_take" = some (some (.ref f7)))
    (l7 : K.lookup f7 = some ⟨oc7, od7, .func (PySem.W.fnOf "_law_take" "_law_take" (defArgs s__law_take) (defBody s__law_take) (defScope s__law_take) .none kV7 dc7 pm7 an7 cd7 ct7), sl7⟩) (cc7 : PySem.W.codeIn K cd7 "_law_take" = true) (k7 : PySem.W.keepIn K (.ref f7) = true)
    (a8 : PySem.W.nsIn K mainGlobals "_law_odd" = some (some (.ref f8)))
    (l8 : K.lookup f8 = some ⟨oc8, od8, .func (PySem.W.fnOf "_law_odd" "_law_odd" (defArgs s__law_odd) (defBody s__law_odd) (defScope s__law_odd) .none kV8 dc8 pm8 an8 cd8 ct8), sl8⟩) (cc8 : PySem.W.codeIn K cd8 "_law_odd" = true) (k8 : PySem.W.keepIn K (.ref f8) = true)
    (a9 : PySem.W.nsIn K mainGlobals "_law_number" = some (some (.ref f9)))
    (l9 : K.lookup f9 = some ⟨oc9, od9, .func (PySem.W.fnOf "_law_number" "_law_number" (defArgs s__law_number) (defBody s__law_number) (defScope s__law_number) .none kV9 dc9 pm9 an9 cd9 ct9), sl9⟩) (cc9 : PySem.W.codeIn K cd9 "_law_number" = true) (k9 : PySem.W.keepIn K (.ref f9) = true)
    (a10 : PySem.W.nsIn K mainGlobals "_law_is_whole" = some (some (.ref f10)))
    (l10 : K.lookup f10 = some ⟨oc10, od10, .func (PySem.W.fnOf "_law_is_whole" "_law_is_whole" (defArgs s__law_is_whole) (defBody s__law_is_whole) (defScope s__law_is_whole) .none kV10 dc10 pm10 an10 cd10 ct10), sl10⟩) (cc10 : PySem.W.codeIn K cd10 "_law_is_whole" = true) (k10 : PySem.W.keepIn K (.ref f10) = true)
    (a11 : PySem.W.nsIn K mainGlobals "_law_is_right" = some (some (.ref f11)))
    (l11 : K.lookup f11 = some ⟨oc11, od11, .func (PySem.W.fnOf "_law_is_right" "_law_is_right" (defArgs s__law_is_right) (defBody s__law_is_right) (defScope s__law_is_right) .none kV11 dc11 pm11 an11 cd11 ct11), sl11⟩) (cc11 : PySem.W.codeIn K cd11 "_law_is_right" = true) (k11 : PySem.W.keepIn K (.ref f11) = true)
    (a12 : PySem.W.nsIn K mainGlobals "_law_made" = some (some (.ref f12)))
    (l12 : K.lookup f12 = some ⟨oc12, od12, .func (PySem.W.fnOf "_law_made" "_law_made" (defArgs s__law_made) (defBody s__law_made) (defScope s__law_made) .none kV12 dc12 pm12 an12 cd12 ct12), sl12⟩) (cc12 : PySem.W.codeIn K cd12 "_law_made" = true) (k12 : PySem.W.keepIn K (.ref f12) = true)
    (a13 : PySem.W.nsIn K mainGlobals "_law_size" = some (some (.ref f13)))
    (l13 : K.lookup f13 = some ⟨oc13, od13, .func (PySem.W.fnOf "_law_size" "_law_size" (defArgs s__law_size) (defBody s__law_size) (defScope s__law_size) .none kV13 dc13 pm13 an13 cd13 ct13), sl13⟩) (cc13 : PySem.W.codeIn K cd13 "_law_size" = true) (k13 : PySem.W.keepIn K (.ref f13) = true)
    (a14 : PySem.W.nsIn K mainGlobals "_law_right" = some (some (.ref f14)))
    (l14 : K.lookup f14 = some ⟨oc14, od14, .func (PySem.W.fnOf "_law_right" "_law_right" (defArgs s__law_right) (defBody s__law_right) (defScope s__law_right) .none kV14 dc14 pm14 an14 cd14 ct14), sl14⟩) (cc14 : PySem.W.codeIn K cd14 "_law_right" = true) (k14 : PySem.W.keepIn K (.ref f14) = true)
    (a15 : PySem.W.nsIn K mainGlobals "law" = some (some (.ref f15)))
    (l15 : K.lookup f15 = some ⟨oc15, od15, .func (PySem.W.fnOf "law" "law" (defArgs s_law) (defBody s_law) (defScope s_law) .none kV15 dc15 pm15 an15 cd15 ct15), sl15⟩) (cc15 : PySem.W.codeIn K cd15 "law" = true) (k15 : PySem.W.keepIn K (.ref f15) = true)
    (n_ValueError : PySem.W.nsIn K mainGlobals "ValueError" = some none)
    (n_abs : PySem.W.nsIn K mainGlobals "abs" = some none)
    (n_all : PySem.W.nsIn K mainGlobals "all" = some none)
    (n_bool : PySem.W.nsIn K mainGlobals "bool" = some none)
    (n_int : PySem.W.nsIn K mainGlobals "int" = some none)
    (n_isinstance : PySem.W.nsIn K mainGlobals "isinstance" = some none)
    (n_len : PySem.W.nsIn K mainGlobals "len" = some none)
    (n_max : PySem.W.nsIn K mainGlobals "max" = some none)
    (n_min : PySem.W.nsIn K mainGlobals "min" = some none)
    (n_range : PySem.W.nsIn K mainGlobals "range" = some none)
    (qBITS : PySem.W.nsIn K mainGlobals "BITS" = some (some (.int 8 ttBITS)))
    (qLEAST_BITS : PySem.W.nsIn K mainGlobals "LEAST_BITS" = some (some (.int 3 ttLEAST_BITS)))
    (qMOST_BITS : PySem.W.nsIn K mainGlobals "MOST_BITS" = some (some (.int 32 ttMOST_BITS)))
    (gg1 : PySem.W.exmOne K (.ref zNoSpace) (.ref zNoSpace) = some true)
    (gg2 : PySem.W.kitOne K (.ref zNoSpace) (.ref zRingError) = some true)
    (gg3 : PySem.W.kitOne K (.ref zNoSpace) (.type "ValueError") = some true)
    (gg4 : PySem.W.kitOne K (.ref zSpace) (.ref zSpace) = some true)
    (gh1 : PySem.W.findIn K (.ref zNoSpace) "__getattribute__" = some (some (.builtin "BaseException.__getattribute__")))
    (gh2 : PySem.W.findIn K (.ref zNoSpace) "__getattr__" = some none)
    (gh3 : PySem.W.hasDictIn K zNoSpace = true)
    (gh4 : PySem.W.findIn K (.ref zNoSpace) "__class__" = some (some (.builtin "object.__class__")))
    (gh5 : PySem.W.specialIn K (.builtin "object.__class__") "__get__" = some (some (.builtin "getset_descriptor.__get__")))
    (gh6 : PySem.W.takesIn K (.builtin "object.__class__") = some true)
    (gh7 : PySem.W.mroIn K zNoSpace (.type "object") = some true)
    (gh8 : PySem.W.findIn K (.ref zSpace) "__class__" = some (some (.builtin "object.__class__")))
    (gh9 : PySem.W.mroIn K zSpace (.type "object") = some true) :
    ∃ fd : FuncData, (∀ (s : Shared) (v : Value), BindsTo s fd ⟨[v], []⟩ [("_law_script", v)]) ∧ ∀ base : Heap, K.In base → base.Ns mainGlobals mg → FnOk l.prog w K mg base CX0 5 fa fd ["_law_script"] (sp_law K Z0) := by
  have T : Txt K mg ⟨zSpace, 0, 0, 0, 0, 0, zNoSpace, 0, 0, 0, 0, 0, 0, 0, 0, 0, 0, 0, 0, zRingError⟩ := { c_NoSpace := PySem.W.mg_of X G gNoSpace, c_RingError := PySem.W.mg_of X G gRingError, c_Space := PySem.W.mg_of X G gSpace, cl_Space := ⟨pgSpace, hdSpace, poSpace, saSpace⟩, na_Space_own_bits := naSpaceown_bits, x_NoSpace := xNoSpace, kp_NoSpace := kpNoSpace, b_NoSpace := bNoSpace, t_NoSpace := tNoSpace, f_is_whole := ⟨f0, _, PySem.W.mg_of X G a0, fund_p l0 cc0 k0⟩, f_Space___init__ := ⟨f1, _, ⟨mk1, a1, i1, kc1⟩, fund_1 l1 cc1 k1 lT1 rT1⟩, f_Space_bits := ⟨f2, _, ⟨a2, i2, k2⟩, fund_p l2 cc2 k2⟩, f_Space_size := ⟨f3, _, ⟨a3, i3, k3⟩, fund_p l3 cc3 k3⟩, f_Space_has := ⟨f4, _, ⟨a4, i4, k4⟩, fund_p l4 cc4 k4⟩, f__law_cell := ⟨f5, _, PySem.W.mg_of X G a5, fund_p l5 cc5 k5⟩, f__law_pot := ⟨f6, _, PySem.W.mg_of X G a6, fund_p l6 cc6 k6⟩, f__law_take := ⟨f7, _, PySem.W.mg_of X G a7, fund_p l7 cc7 k7⟩, f__law_odd := ⟨f8, _, PySem.W.mg_of X G a8, fund_p l8 cc8 k8⟩, f__law_number := ⟨f9, _, PySem.W.mg_of X G a9, fund_p l9 cc9 k9⟩, f__law_is_whole := ⟨f10, _, PySem.W.mg_of X G a10, fund_p l10 cc10 k10⟩, f__law_is_right := ⟨f11, _, PySem.W.mg_of X G a11, fund_p l11 cc11 k11⟩, f__law_made := ⟨f12, _, PySem.W.mg_of X G a12, fund_p l12 cc12 k12⟩, f__law_size := ⟨f13, _, PySem.W.mg_of X G a13, fund_p l13 cc13 k13⟩, f__law_right := ⟨f14, _, PySem.W.mg_of X G a14, fund_p l14 cc14 k14⟩, f_law := ⟨f15, _, PySem.W.mg_of X G a15, fund_p l15 cc15 k15⟩, n_ValueError := PySem.W.mg_none_of X G n_ValueError, n_abs := PySem.W.mg_none_of X G n_abs, n_all := PySem.W.mg_none_of X G n_all, n_bool := PySem.W.mg_none_of X G n_bool, n_int := PySem.W.mg_none_of X G n_int, n_isinstance := PySem.W.mg_none_of X G n_isinstance, n_len := PySem.W.mg_none_of X G n_len, n_max := PySem.W.mg_none_of X G n_max, n_min := PySem.W.mg_none_of X G n_min, n_range := PySem.W.mg_none_of X G n_range, c_BITS := ⟨_, PySem.W.mg_of X G qBITS⟩, c_LEAST_BITS := ⟨_, PySem.W.mg_of X G qLEAST_BITS⟩, c_MOST_BITS := ⟨_, PySem.W.mg_of X G qMOST_BITS⟩, gg1 := gg1, gg2 := gg2, gg3 := gg3, gg4 := gg4, gh1 := gh1, gh2 := gh2, gh3 := gh3, gh4 := gh4, gh5 := gh5, gh6 := gh6, gh7 := gh7, gh8 := gh8, gh9 := gh9 }
  exact law_fin2 T.f_law hfa (fun _ _ _ _ _ _ us hl => match us, hl with | [_], _ => rfl) fun base f fd F => ok_law T f fd F
end NN
open PySem PySem.W PyProof.Rows
set_option maxHeartbeats 0 in
theorem PySem.Challenge.cw_nearestname_k11_spaces_made_holds : PySem.Challenge.rw_nearestname_k11_spaces_made.Holds := by
  w_on; o_law; k_head; (case hw => w_witness2)
  k_fill
  refine L2.walk_of (l := PySem.Challenge.rw_nearestname_k11_spaces_made) (n := 63) (k := 5) (x := "_law_script") (CX := fun _ => L2.CX0) (sp := fun w => NN.sp_law _ NN.Z0) rfl (by decide) rfl ⟨rfl, by decide, by decide⟩ (fun w h Y => PySem.W.kIn_of Y) ?F (fun _ _ a ns hl _ hS => ⟨a, ns, rfl, hS, hl, fun _ => rfl⟩) (fun _ _ _ _ _ h => h)
  case F =>
    intro w mg fa h KX G hmg
    refine' NN.all_mk KX G hmg ?gNoSpace ?gRingError ?gSpace ?pgSpace ?hdSpace ?poSpace ?saSpace ?naSpaceown_bits ?xNoSpace ?kpNoSpace ?bNoSpace ?tNoSpace ?a0 ?l0 ?cc0 ?k0 ?mk1 ?kc1 ?a1 ?i1 ?l1 ?cc1 ?k1 ?lT1 ?rT1 ?a2 ?i2 ?l2 ?cc2 ?k2 ?a3 ?i3 ?l3 ?cc3 ?k3 ?a4 ?i4 ?l4 ?cc4 ?k4 ?a5 ?l5 ?cc5 ?k5 ?a6 ?l6 ?cc6 ?k6 ?a7 ?l7 ?cc7 ?k7 ?a8 ?l8 ?cc8 ?k8 ?a9 ?l9 ?cc9 ?k9 ?a10 ?l10 ?cc10 ?k10 ?a11 ?l11 ?cc11 ?k11 ?a12 ?l12 ?cc12 ?k12 ?a13 ?l13 ?cc13 ?k13 ?a14 ?l14 ?cc14 ?k14 ?a15 ?l15 ?cc15 ?k15 ?n_ValueError ?n_abs ?n_all ?n_bool ?n_int ?n_isinstance ?n_len ?n_max ?n_min ?n_range ?qBITS ?qLEAST_BITS ?qMOST_BITS ?gg1 ?gg2 ?gg3 ?gg4 ?gh1 ?gh2 ?gh3 ?gh4 ?gh5 ?gh6 ?gh7 ?gh8 ?gh9
    (case gNoSpace => k_is)
    (case gRingError => k_is)
    (case gSpace => k_is)
    (case pgSpace => k_is)
    (case hdSpace => k_is)
    (case poSpace => k_is)
    (case saSpace => k_is)
    (case naSpaceown_bits => k_is)
    (case xNoSpace => k_exc)
    (case kpNoSpace => k_is)
    (case bNoSpace => k_is)
    (case tNoSpace => k_is)
    (case a0 => k_is)
    (case l0 => k_is)
    (case cc0 => k_is)
    (case k0 => k_is)
    (case mk1 => k_is)
    (case kc1 => k_is)
    (case a1 => k_is)
    (case i1 => k_is)
    (case l1 => k_is)
    (case cc1 => k_is)
    (case k1 => k_is)
    (case lT1 => k_is)
    (case rT1 => first | exact rfl | exact ⟨_, rfl⟩)
    (case a2 => k_is)
    (case i2 => k_is)
    (case l2 => k_is)
    (case cc2 => k_is)
    (case k2 => k_is)
    (case a3 => k_is)
    (case i3 => k_is)
    (case l3 => k_is)
    (case cc3 => k_is)
    (case k3 => k_is)
    (case a4 => k_is)
    (case i4 => k_is)
    (case l4 => k_is)
    (case cc4 => k_is)
    (case k4 => k_is)
    (case a5 => k_is)
    (case l5 => k_is)
    (case cc5 => k_is)
    (case k5 => k_is)
    (case a6 => k_is)
    (case l6 => k_is)
    (case cc6 => k_is)
    (case k6 => k_is)
    (case a7 => k_is)
    (case l7 => k_is)
    (case cc7 => k_is)
    (case k7 => k_is)
    (case a8 => k_is)
    (case l8 => k_is)
    (case cc8 => k_is)
    (case k8 => k_is)
    (case a9 => k_is)
    (case l9 => k_is)
    (case cc9 => k_is)
    (case k9 => k_is)
    (case a10 => k_is)
    (case l10 => k_is)
    (case cc10 => k_is)
    (case k10 => k_is)
    (case a11 => k_is)
    (case l11 => k_is)
    (case cc11 => k_is)
    (case k11 => k_is)
    (case a12 => k_is)
    (case l12 => k_is)
    (case cc12 => k_is)
    (case k12 => k_is)
    (case a13 => k_is)
    (case l13 => k_is)
    (case cc13 => k_is)
    (case k13 => k_is)
    (case a14 => k_is)
    (case l14 => k_is)
    (case cc14 => k_is)
    (case k14 => k_is)
    (case a15 => k_is)
    (case l15 => k_is)
    (case cc15 => k_is)
    (case k15 => k_is)
    (case n_ValueError => k_is)
    (case n_abs => k_is)
    (case n_all => k_is)
    (case n_bool => k_is)
    (case n_int => k_is)
    (case n_isinstance => k_is)
    (case n_len => k_is)
    (case n_max => k_is)
    (case n_min => k_is)
    (case n_range => k_is)
    (case qBITS => k_is)
    (case qLEAST_BITS => k_is)
    (case qMOST_BITS => k_is)
    (case gg1 => first | k_is | kit_is | rfl)
    (case gg2 => first | k_is | kit_is | rfl)
    (case gg3 => first | k_is | kit_is | rfl)
    (case gg4 => first | k_is | kit_is | rfl)
    (case gh1 => k_is)
    (case gh2 => k_is)
    (case gh3 => k_is)
    (case gh4 => k_is)
    (case gh5 => k_is)
    (case gh6 => k_is)
    (case gh7 => k_is)
    (case gh8 => k_is)
    (case gh9 => k_is)
