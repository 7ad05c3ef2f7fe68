import PyProof.Rows.All
import Wide.All
import OpenK.AllK
import Wide.FinOn
import HandS.ForMost
import HandS.Steps
import HandS.Wide
import HandS.IsInst
import HandS.More
import KE.KUnpackStar
import HandS.Defaults
import HandS.WordsExc
import HandS.Exc
import HandS.ExcOwn
import HandS.Iter
import HandS.Zip
import KE.GoesEnumKw
import OpenK.KMore
import HandS.Conv
import HandS.Style
import PySem.Challenge.RW_nearestname_k26_whole_unpassing_lists_ri
set_option Elab.async false
set_option linter.all false
set_option maxRecDepth 100000
set_option maxHeartbeats 4000000
/-! own base: a def with its promise, names for readings, steps through readings -/
namespace NN
open PySem PySem.Spec PyProof.Rows L2

/-! ### names of readings -/
abbrev rAdd0 : R2 := rI0 fun i j => .int (i + j)
abbrev rSub0 : R2 := rI0 fun i j => .int (i - j)
abbrev rMul0 : R2 := rI CMul fun i j => .int (i * j)
abbrev rMulW : R2 := rI CMulW fun i j => .int (i * j)
abbrev rMod0 : R2 := rI (fun _ j => 0 < j) fun i j => .int (i % j)
abbrev rDivW : R2 := rI CDivW fun i j => .int (i / j)
abbrev rPow0 : R2 := rI CPow fun i j => .int (i ^ j.toNat)
abbrev rShl0 : R2 := rI CPow fun i j => .int (i * 2 ^ j.toNat)
abbrev rLt : R2 := rI0 fun i j => .bl (decide (i < j))
abbrev rLe : R2 := rI0 fun i j => .bl (decide (i ≤ j))
abbrev rGt : R2 := rI0 fun i j => .bl (decide (j < i))
abbrev rGe : R2 := rI0 fun i j => .bl (decide (j ≤ i))
abbrev rAddIb : R2 := fun x y H Q => ∃ i k, x = .int i ∧ y = .bl k ∧ Q (.int (i + b2i k)) H
abbrev rAddStr : R2 := fun x y H Q => ∃ i j, x = .str i ∧ y = .str j ∧ i.length + j.length ≤ sizeLine ∧ Q (.str (i ++ j)) H
abbrev RCl := List V → Hp → VK → Prop
abbrev rMax2 : RCl := fun xs H Q => ∃ i j, xs = [.int i, .int j] ∧ Q (.int (if j > i then j else i)) H
abbrev rMin2 : RCl := fun xs H Q => ∃ i j, xs = [.int i, .int j] ∧ Q (.int (if j < i then j else i)) H
abbrev rAbs : RCl := fun xs H Q => ∃ i, xs = [.int i] ∧ Q (.int (if i < 0 then -i else i)) H
abbrev rInt1 : RCl := fun xs H Q => (∃ i, xs = [.int i] ∧ Q (.int i) H) ∨ ∃ k, xs = [.bl k] ∧ Q (.int (if k then 1 else 0)) H
abbrev rStrI : RCl := fun xs H Q => ∃ i, xs = [.int i] ∧ i.natAbs.log2 < 1920 ∧ Q (.str (toString i)) H
abbrev rLenS (K : PySem.W.Frag) : RCl := fun xs H Q => ∃ p ys, xs = [.ref p] ∧ (SqL K H p ys ∨ SqT K H p ys) ∧ Q (.int ys.length) H
abbrev rListS (K : PySem.W.Frag) : RCl := fun xs H Q => ∃ p ys, xs = [.ref p] ∧ (SqL K H p ys ∨ SqT K H p ys) ∧ ∀ l, H l = none → Q (.ref l) (upd H l (.lst ys))
abbrev rInsert : V → List V → Hp → VK → Prop := fun x vs H Q => ∃ (l : Addr) (xs : List V) (i : Int) (y : V), x = .ref l ∧ vs = [.int i, y] ∧ H l = some (.lst xs) ∧ xs.length < sizeLine ∧ 0 ≤ i ∧ i < 2 ^ 63 ∧ Q .non (upd H l (.lst (xs.take i.toNat ++ [y] ++ xs.drop i.toNat)))
abbrev rLenStr : RCl := fun xs H Q => ∃ z, xs = [.str z] ∧ z.length ≤ sizeLine ∧ Q (.int z.length) H

/-! ### a def of the text, its promise -/
structure DefF (K : PySem.W.Frag) (mg : Str → Option Value) (x : Str) (st : Stmt) : Prop where
  ex : ∃ f fd, mg x = some (.ref f) ∧ Fun K x x st f fd
theorem def_mk {K : PySem.W.Frag} {h : Heap} {mg : Str → Option Value} {x : Str} {st : Stmt} (X : K.In h) (G : h.Ns mainGlobals mg) {f : Addr} {od an : Option Addr} {sl : Array (Option Value)} {oc kV dc pm cd ct : Value}
    (a : PySem.W.nsIn K mainGlobals x = some (some (.ref f))) (l : K.lookup f = some ⟨oc, od, .func (PySem.W.fnOf x x (defArgs st) (defBody st) (defScope st) .none kV dc pm an cd ct), sl⟩)
    (c : PySem.W.codeIn K cd x = true) (k : PySem.W.keepIn K (.ref f) = true) : DefF K mg x st := ⟨_, _, PySem.W.mg_of X G a, fun_mk l c k⟩
/-- the parameters take the arguments one by one -/
abbrev PlainB (x : Str) (ps : List Str) (st : Stmt) : Prop := ∀ (kV doc pm : Value) (an : Option Addr) (cdv ct : Value) (us : List Value), us.length = ps.length → bindArgs (PySem.W.fnOf x x (defArgs st) (defBody st) (defScope st) .none kV doc pm an cdv ct) ⟨us, []⟩ = pure (ps.zip us)
/-- a def that keeps its promise -/
structure DefK (P : Program) (w : World) (K : PySem.W.Frag) (mg : Str → Option Value) (base : Heap) (k : Nat) (x : Str) (ps : List Str) (st : Stmt) (sp : Sp) : Prop where
  ex : ∃ f fd, mg x = some (.ref f) ∧ PySem.W.keepIn K (.ref f) = true ∧ Binds K fd ps [] ∧ Fun K x x st f fd ∧ FnOk P w K mg base CX0 k f fd ps sp
section
variable {P : Program} {w : World} {K : PySem.W.Frag} {mg : Str → Option Value} {base : Heap}
/-- THE RULE: the body's derivation, the reading -/
theorem DefF.ok {x : Str} {st : Stmt} {N ps : List Str} {k : Nat} {sp : Sp} {t : TS} (F : DefF K mg x st) (S : FnScope N ps (defScope st)) (B : PlainB x ps st) (len : ∀ vs H Q E, sp vs H Q E → vs.length = ps.length)
    (der : ∀ (f : Addr) (cdv : Value) (A : Around) (outer : List Env) (s : Shared) (H : Hp) (E : XK), Room k (A.deeper (envOfC x (defScope st) s.heap.objs.size f cdv)) → PSs (cxOf CX0 P w K mg base N x (defScope st) f cdv A outer s H E).nox (defBody st) t)
    (rd : ∀ vs H Q E, sp vs H Q E → t { nx := fun _ H' => Q .non H', rt := Q } (start N vs) H) : DefK P w K mg base (k + 1) x ps st sp := by
  obtain ⟨f, fd, hm, F⟩ := F.ex
  exact ⟨f, fd, hm, F.kp, F.binds B, F, F.ok S len fun cdv A outer s H vs Q E hr h => ⟨t, der f cdv A outer s H E hr, rd vs H Q E h⟩⟩
/-- the law's own def, at the end -/
theorem law_fin {l : PySem.W.OpenLaw} {x p : Str} {st : Stmt} {k : Nat} {sp : Sp} {fa : Addr} (F : DefF K mg x st) (hfa : mg x = some (.ref fa)) (B : PlainB x [p] st)
    (ok : ∀ (base : Heap) (f : Addr) (fd : FuncData), Fun K x x st f fd → FnOk l.prog w K mg base CX0 k f fd [p] sp) :
    ∃ fd : FuncData, (∀ (s : Shared) (v : Value), BindsTo s fd ⟨[v], []⟩ [(p, v)]) ∧ ∀ base : Heap, K.In base → base.Ns mainGlobals mg → FnOk l.prog w K mg base CX0 k fa fd [p] sp := by
  obtain ⟨f, fd, hm, F⟩ := F.ex
  have e : f = fa := by
    have z := hm.symm.trans hfa
    injection z with z
    injection z
  subst e
  refine ⟨fd, fun s v => ?_, fun base _ _ => ok base f fd F⟩
  obtain ⟨oc, od, kV, doc, pm, an, cdv, ct, osl, rfl, lk, hcd⟩ := F.ex
  exact .of_eq (B kV doc pm an cdv ct [v] rfl)
/-- THE RULE for the law's def -/
theorem fun_ok {x : Str} {st : Stmt} {N ps : List Str} {k : Nat} {sp : Sp} {t : TS} {f : Addr} {fd : FuncData} (F : Fun K x x st f fd) (S : FnScope N ps (defScope st)) (len : ∀ vs H Q E, sp vs H Q E → vs.length = ps.length)
    (der : ∀ (f : Addr) (cdv : Value) (A : Around) (outer : List Env) (s : Shared) (H : Hp) (E : XK), Room k (A.deeper (envOfC x (defScope st) s.heap.objs.size f cdv)) → PSs (cxOf CX0 P w K mg base N x (defScope st) f cdv A outer s H E).nox (defBody st) t)
    (rd : ∀ vs H Q E, sp vs H Q E → t { nx := fun _ H' => Q .non H', rt := Q } (start N vs) H) : FnOk P w K mg base CX0 (k + 1) f fd ps sp :=
  F.ok S len fun cdv A outer s H vs Q E hr h => ⟨t, der f cdv A outer s H E hr, rd vs H Q E h⟩
end
section
variable {X : Cx} {k j : Nat} {ps : List Str} {sp : Sp} {x : Str} {st : Stmt} {p pos : Pos} {e : Expr} {es : List Expr} {t : TA}
theorem pe_def (D : DefK X.prog X.w X.K X.mg X.base k x ps st sp) (hr : Room j X.A) (hj : k ≤ j) (hg : Gl X x) (ha : PA X (e :: es) t) (hdb : (x == ("__debug__" : Str)) = false := by decide)
    (he : starEach (e :: es) X.env = (false, eval e X.env) :: starEach es X.env := by rfl) (hpl : (backTo pos (starEach es X.env)).any (·.1) = false := by rfl) : PE X (.Call (.Name x p) (e :: es) [] pos) (tCall sp [] E0 t) := by
  obtain ⟨f, fd, hm, hk, hb, _, F⟩ := D.ex
  exact pe_call F (hr.mono hj) hg hm hk hb .nil pass0 ha hdb he hpl
theorem pe_gI {i : Int} (hg : Gl X x) (h : ∃ t, X.mg x = some (.int i t)) (hd : (x == ("__debug__" : Str)) = false := by decide) : PE X (.Name x pos) (tC (.int i)) := by
  obtain ⟨t, h⟩ := h
  exact pe_glob hg h ⟨t, rfl⟩ hd
theorem pe_gS {i : Str} (hg : Gl X x) (h : ∃ t, X.mg x = some (.str i t)) (hd : (x == ("__debug__" : Str)) = false := by decide) : PE X (.Name x pos) (tC (.str i)) := by
  obtain ⟨t, h⟩ := h
  exact pe_glob hg h ⟨t, rfl⟩ hd
theorem pe_gR {C : Addr} (hg : Gl X x) (h : X.mg x = some (.ref C)) (hd : (x == ("__debug__" : Str)) = false := by decide) : PE X (.Name x pos) (tC (.ref C)) := pe_glob hg h rfl hd

/-! ### calls by keywords alone -/
/-- the parameters by keywords: pi tells for each parameter which keyword -/
structure KwB (x : Str) (ps ks : List Str) (st : Stmt) (pi : List Nat) : Prop where
  all : ∀ (kV doc pm : Value) (an : Option Addr) (cdv ct : Value) (ws : List Value), ws.length = ks.length → bindArgs (PySem.W.fnOf x x (defArgs st) (defBody st) (defScope st) .none kV doc pm an cdv ct) ⟨[], ks.zip ws⟩ = pure (ps.zip (pi.filterMap fun i => ws[i]?))
def perm {α : Type} (pi : List Nat) (ws : List α) : List α := pi.filterMap fun i => ws[i]?
theorem perm_rel (pi : List Nat) {zs : List V} {ws : List Value} (r : Vals zs ws) : Vals (perm pi zs) (perm pi ws) := by
  induction pi with
  | nil => exact .nil
  | cons i l ih =>
    unfold perm
    rw [List.filterMap_cons, List.filterMap_cons]
    cases e : zs[i]? with
    | none => rw [r.none_of e]; exact ih
    | some z =>
      obtain ⟨u, e2, r2⟩ := r.get e
      rw [e2]
      exact .cons r2 ih
def tCallP (n : Nat) (pi : List Nat) (sp : Sp) (E : XK) (tk : TA) : TE := fun σ H Q => tk σ H fun zs H2 => zs.length = n ∧ sp (perm pi zs) H2 Q E
theorem pe_defK {ks : List Str} {pi : List Nat} {kws : List Keyword} {tk : TA} (D : DefK X.prog X.w X.K X.mg X.base k x ps st sp) (B : KwB x ps ks st pi) (hr : Room j X.A) (hj : k ≤ j) (hg : Gl X x) (hkw : PK X kws tk)
    (hall : (backToKw pos (keywordEach kws X.env)).all (·.1.isSome) = true := by rfl) (hks : (backToKw pos (keywordEach kws X.env)).filterMap (·.1) = ks := by rfl)
    (hdb : (x == ("__debug__" : Str)) = false := by decide) (hpl : (backToKw pos (keywordEach kws X.env)).any (·.1.isNone) = false := by rfl) :
    PE X (.Call (.Name x p) [] kws pos) (tCallP ks.length pi sp E0 tk) := by
  obtain ⟨f, fd, hm, hk, hb, Fn, F⟩ := D.ex
  refine ⟨fun pins s σ H Q I h => ?_⟩
  refine wpAny_Call_Name_kw (ld_glob I hg hm ?_ hdb)
  refine PySem.W.callWith_KW0 (h₀ := X.base) I.ok.mod.kin hk hall (thn (hkw.run pos pins s σ H _ I h) fun ws s2 ⟨zs, H2, I2, rz, q1, q2⟩ => ⟨I2.kIn, ?_⟩) hpl
  rw [hks]
  have r2 : Vals (perm pi zs) (perm pi ws) := perm_rel pi rz
  obtain ⟨oc, od, kV, doc, pm, an, cdv, ct, osl, rfl, lk, hcd⟩ := Fn.ex
  have hw : ws.length = ks.length := rz.length.symm.trans q1
  refine wpAny_call (codeAny_mono ((F.mono hj).run X.A X.stack s2 H2 ⟨[], ks.zip ws⟩ (perm pi ws) (perm pi zs) Q E0 hr I2.env0 (.of_eq (B.all kV doc pm an cdv ct ws hw)) r2 q2) fun r s' hq => ?_)
  cases r with
  | error e => exact hq.elim
  | ok fl =>
    cases fl with
    | ret u => exact I2.after hq
    | next => exact False.elim hq
    | brk => exact False.elim hq
    | cont => exact False.elim hq
end
end NN
/-! own steps through readings -/
namespace NN
open PySem L2

/-! ### what is kept -/
def Kp (S : List Addr) (H H' : Hp) : Prop := ∀ b o, H b = some o → b ∉ S → H' b = some o
theorem Kp.refl {S : List Addr} {H : Hp} : Kp S H H := fun _ _ h _ => h
theorem Kp.trans {S : List Addr} {H H1 H2 : Hp} (a : Kp S H H1) (b : Kp S H1 H2) : Kp S H H2 := fun c o h n => b c o (a c o h n) n
theorem Kp.at {S : List Addr} {H H1 : Hp} {b : Addr} {o : HO} (a : Kp S H H1) (h : H b = some o) (n : b ∉ S) : H1 b = some o := a b o h n
theorem Kp.mono {S T : List Addr} {H H1 : Hp} (a : Kp S H H1) (h : ∀ x ∈ S, x ∈ T) : Kp T H H1 := fun c o e n => a c o e fun z => n (h _ z)
theorem Kp.wid {S : List Addr} {H H1 : Hp} (a : Kp [] H H1) : Kp S H H1 := a.mono fun _ z => nomatch z
theorem Kp.new {S : List Addr} {H H1 : Hp} {p : Addr} {o : HO} (a : Kp S H H1) (h : H1 p = none) : Kp S H (upd H1 p o) := fun c u e n => by
  have e1 := a c u e n
  rw [upd_ne (ne_of_none e1 h)]; exact e1
/-- an object that H does not know is written -/
theorem Kp.own {S : List Addr} {H H1 : Hp} {p : Addr} {o : HO} (a : Kp S H H1) (h : H p = none) : Kp S H (upd H1 p o) := fun c u e n => by
  rw [upd_ne (ne_of_none e h)]; exact a c u e n
theorem Kp.wr {S : List Addr} {H H1 : Hp} {p : Addr} {o : HO} (a : Kp S H H1) (h : p ∈ S) : Kp S H (upd H1 p o) := fun c u e n => by
  rw [upd_ne (fun z => n (by rw [z]; exact h))]; exact a c u e n
theorem Kp.seq {S : List Addr} {K : PySem.W.Frag} {H H1 : Hp} {p : Addr} {xs : List V} (a : Kp S H H1) (n : p ∉ S) (h : SqL K H p xs) : SqL K H1 p xs := by
  rcases h with (h | ⟨o, h⟩) | h
  · exact .inl (.inl (a _ _ h n))
  · exact .inl (.inr ⟨o, a _ _ h n⟩)
  · exact .inr h
theorem Kp.seq0 {K : PySem.W.Frag} {H H1 : Hp} {p : Addr} {xs : List V} (a : Kp [] H H1) (h : SqL K H p xs) : SqL K H1 p xs := a.seq (by intro z; cases z) h
theorem Kp.free {S : List Addr} {H H1 : Hp} {p : Addr} (a : Kp S H H1) (n : p ∉ S) (h : H1 p = Option.none) : H p = Option.none := by
  cases e : H p with
  | none => rfl
  | some o => rw [a p o e n] at h; cases h

/-! ### steps -/
section
variable {σ : St} {H : Hp} {Q : VK} {QB : Bool → Hp → Prop} {QA : List V → Hp → Prop} {v x y : V} {i : Nat} {a b : Int} {ta tb te tc : TE} {t u : TT} {D : Ends} {s1 s2 : TS} {tl tr : TA} {r r' : R2} {K : PySem.W.Frag} {p : Addr} {xs ys : List V} {rc : RCl} {c : Bool}
theorem g_var (h : σ[i]? = some (some v)) (q : Q v H) : tVar i σ H Q := ⟨v, h, q⟩
theorem g_c (q : Q v H) : tC v σ H Q := q
theorem g_op (q : ta σ H fun x H1 => tb σ H1 fun y H2 => r x y H2 Q) : tOp r ta tb σ H Q := q
theorem g_un {r : V → Hp → VK → Prop} (q : ta σ H fun x H1 => r x H1 Q) : tUn r ta σ H Q := q
theorem g_neg (q : Q (.int (-a)) H) : rU (fun i => .int (-i)) (.int a) H Q := ⟨a, rfl, q⟩
theorem g_I0 {g : Int → Int → V} (q : Q (g a b) H) : rI0 g (.int a) (.int b) H Q := ⟨a, b, rfl, rfl, q⟩
theorem g_I {C : Int → Int → Prop} {g : Int → Int → V} (h : C a b) (q : Q (g a b) H) : rI C g (.int a) (.int b) H Q := ⟨a, b, rfl, rfl, h, q⟩
theorem g_eqI (q : Q (.bl (decide (a = b))) H) : rEq (.int a) (.int b) H Q := ⟨rfl, by
  have e : decide (V.int a = V.int b) = decide (a = b) := by rw [dec_int, Bool.beq_eq_decide_eq]
  rw [e]; exact q⟩
theorem g_neI (q : Q (.bl (!decide (a = b))) H) : rNe (.int a) (.int b) H Q := ⟨rfl, by
  have e : decide (V.int a = V.int b) = decide (a = b) := by rw [dec_int, Bool.beq_eq_decide_eq]
  rw [e]; exact q⟩
theorem g_eq (h : scal x y = true) (q : Q (.bl (decide (x = y))) H) : rEq x y H Q := ⟨h, q⟩
theorem g_ne (h : scal x y = true) (q : Q (.bl (!decide (x = y))) H) : rNe x y H Q := ⟨h, q⟩
theorem g_test (q : te σ H fun x H1 => ∃ k, x = .bl k ∧ QB k H1) : tTest te σ H QB := q
theorem g_tb (q : te σ H fun x H1 => ∃ k, x = .bl k ∧ QB k H1) : tB te σ H QB := q
theorem g_bl {b : Bool} {P : Bool → Prop} (q : P b) : ∃ k, V.bl b = .bl k ∧ P k := ⟨b, rfl, q⟩
theorem g_and (q : t σ H fun c H1 => if c = true then u σ H1 QB else QB false H1) : tAnd t u σ H QB := q
theorem g_or (q : t σ H fun c H1 => if c = true then QB true H1 else u σ H1 QB) : tOr t u σ H QB := q
theorem g_not (q : t σ H fun c H1 => QB (!c) H1) : tNot t σ H QB := q
theorem g_andV (q : ta σ H fun x H1 => ∃ c, x = .bl c ∧ if c = true then tb σ H1 Q else Q (.bl false) H1) : tAndV ta tb σ H Q := q
theorem g_orV (q : ta σ H fun x H1 => ∃ c, x = .bl c ∧ if c = true then Q (.bl true) H1 else tb σ H1 Q) : tOrV ta tb σ H Q := q
theorem g_notV (q : ta σ H fun x H1 => ∃ c, x = .bl c ∧ Q (.bl (!c)) H1) : tNotV ta σ H Q := q
theorem g_if (q : t σ H fun c H1 => if c = true then ta σ H1 Q else tb σ H1 Q) : tIf t ta tb σ H Q := q
theorem g_nil (q : QA [] H) : tNil σ H QA := q
theorem g_cons (q : te σ H fun x H1 => tr σ H1 fun xs H2 => QA (x :: xs) H2) : tCons te tr σ H QA := q
theorem g_tup (q : tl σ H fun xs H1 => xs.length ≤ sizeLine ∧ ∀ p, H1 p = none → Q (.ref p) (upd H1 p (.tup xs))) : tTup tl σ H Q := q
theorem g_lst (q : tl σ H fun xs H1 => xs.length ≤ sizeLine ∧ ∀ p, H1 p = none → Q (.ref p) (upd H1 p (.lst xs))) : tLst tl σ H Q := q
theorem g_cb (q : tl σ H fun vs H1 => rc vs H1 Q) : tCB rc tl σ H Q := q
theorem g_max2 (q : Q (.int (if b > a then b else a)) H) : rMax2 [.int a, .int b] H Q := ⟨a, b, rfl, q⟩
theorem g_min2 (q : Q (.int (if b < a then b else a)) H) : rMin2 [.int a, .int b] H Q := ⟨a, b, rfl, q⟩
theorem g_abs (q : Q (.int (if a < 0 then -a else a)) H) : rAbs [.int a] H Q := ⟨a, rfl, q⟩
theorem g_int1b (q : Q (.int (if c then 1 else 0)) H) : rInt1 [.bl c] H Q := .inr ⟨c, rfl, q⟩
theorem g_int1i (q : Q (.int a) H) : rInt1 [.int a] H Q := .inl ⟨a, rfl, q⟩
theorem g_lenL (h : SqL K H p xs) (q : Q (.int xs.length) H) : rLenS K [.ref p] H Q := ⟨p, xs, rfl, .inl h, q⟩
theorem g_listL (h : SqL K H p xs) (q : ∀ l, H l = none → Q (.ref l) (upd H l (.lst xs))) : rListS K [.ref p] H Q := ⟨p, xs, rfl, .inl h, q⟩
theorem g_ixL {j : Int} (h : SqL K H p xs) (e : atI xs j = some v) (q : Q v H) : rIxL K (.ref p) (.int j) H Q := ⟨p, xs, j, v, rfl, rfl, h, e, q⟩
theorem g_ixT {j : Int} (h : SqT K H p xs) (e : atI xs j = some v) (q : Q v H) : rIxT K (.ref p) (.int j) H Q := ⟨p, xs, j, v, rfl, rfl, h, e, q⟩
theorem g_sl {r : V → Option Int → Option Int → Hp → VK → Prop} {lo hi : TO} (q : te σ H fun x H1 => lo σ H1 fun l H2 => hi σ H2 fun u H3 => r x l u H3 Q) : tSl r te lo hi σ H Q := q
theorem g_nopart {QO : Option Int → Hp → Prop} (q : QO none H) : tNoPart σ H QO := q
theorem g_part {QO : Option Int → Hp → Prop} (q : te σ H fun x H1 => ∃ i, x = .int i ∧ QO (some i) H1) : tPart te σ H QO := q
theorem g_int {P : Int → Prop} (q : P a) : ∃ i, V.int a = .int i ∧ P i := ⟨a, rfl, q⟩
theorem g_slL {lo hi : Option Int} (h : SqL K H p xs) (q : ∀ l, H l = none → Q (.ref l) (upd H l (.lst (cutV xs lo hi)))) : rSlL K (.ref p) lo hi H Q := ⟨p, xs, rfl, h, q⟩
theorem g_isN (q : Q (.bl (decide (x = .non))) H) : rIsN x .non H Q := ⟨rfl, q⟩
theorem g_notN (q : Q (.bl (!decide (x = .non))) H) : rNotN x .non H Q := ⟨rfl, q⟩
theorem g_in {neg : Bool} (h : SqL K H p xs) (hx : flatV x = true) (hs : xs.all flatV = true) (q : Q (.bl (if neg then !inV x xs else inV x xs)) H) : rIn K neg x (.ref p) H Q := ⟨p, xs, rfl, .inl h, hx, hs, q⟩
theorem g_cat {p' : Addr} (h : H p = some (.lst xs)) (h' : H p' = some (.lst ys)) (hl : xs.length + ys.length ≤ sizeLine) (q : ∀ l, H l = none → Q (.ref l) (upd H l (.lst (xs ++ ys)))) : rCat (.ref p) (.ref p') H Q := ⟨p, p', xs, ys, rfl, rfl, h, h', hl, q⟩
theorem g_call {sp : Sp} {dvs : List V} {E : XK} (q : tl σ H fun vs H1 => sp (vs ++ dvs) H1 Q E) : tCall sp dvs E tl σ H Q := q
/-! statements -/
theorem g_seq (q : s1 { D with nx := s2 D } σ H) : tSeq s1 s2 D σ H := q
theorem g_isIf {s3 : TS} (q : tSeq (tIfS t s1 s2) s3 D σ H) : tSeq (tIfS t s1 s2) s3 D σ H := q
/-- two statements with a word between them -/
theorem g_seqJ {M : St → Hp → Prop} (F : ∀ σ' H', M σ' H' → s2 D σ' H') (q : ∀ N : St → Hp → Prop, (∀ σ' H', M σ' H' → N σ' H') → s1 { D with nx := N } σ H) : tSeq s1 s2 D σ H := q (s2 D) F
theorem g_next (q : D.nx σ H) : tNext D σ H := q
theorem g_brk (q : D.bk σ H) : tBreak D σ H := q
theorem g_ct (q : D.ct σ H) : tCont D σ H := q
theorem g_drop (q : te σ H fun _ H1 => D.nx σ H1) : tDrop te D σ H := q
theorem g_ret (q : te σ H D.rt) : tRet te D σ H := q
theorem g_retN (q : D.rt .non H) : tRetN D σ H := q
theorem g_ifS (q : t σ H fun b H1 => if b = true then s1 D σ H1 else s2 D σ H1) : tIfS t s1 s2 D σ H := q
theorem g_asg {g : TG} (q : te σ H fun x H1 => g x σ H1 D.nx) : tAsg te g D σ H := q
theorem g_name {σ' : St} {QS : St → Hp → Prop} (e : σ.set i (some v) = σ') (q : QS σ' H) : gName i v σ H QS := by subst e; exact q
theorem g_sub {to ti : TE} {ts : TSet} {QS : St → Hp → Prop} (q : to σ H fun o H1 => ti σ H1 fun i H2 => ts o i v H2 fun H3 => QS σ H3) : gSub to ti ts v σ H QS := q
theorem g_setL {QH : Hp → Prop} {k : Int} {j : Nat} (h : H p = some (.lst xs)) (e : ixN xs.length k = some j) (q : QH (upd H p (.lst (xs.set j v)))) : rSetL (.ref p) (.int k) v H QH := ⟨p, xs, k, j, rfl, rfl, h, e, q⟩
theorem g_aug {ti : TIp} (h : σ[i]? = some (some x)) (q : te σ H fun y H1 => ti x y H1 fun z H2 => D.nx (σ.set i (some z)) H2) : tAug i te ti D σ H := ⟨x, h, q⟩
theorem g_ipI {f : Int → Int → Int} (q : Q (.int (f a b)) H) : ipI f (.int a) (.int b) H Q := ⟨a, b, rfl, rfl, q⟩
theorem g_par {j : Nat} (q : tl σ H fun vs H1 => ∃ v w, vs = [v, w] ∧ D.nx ((σ.set i (some v)).set j (some w)) H1) : tPar i j tl D σ H := q
theorem g_ex1 {A : Prop} (h : A) (q : Q v H) : A ∧ Q v H := ⟨h, q⟩
theorem g_ite {A B pr : Prop} [Decidable pr] (h1 : pr → A) (h2 : ¬ pr → B) : if decide pr = true then A else B := by
  by_cases h : pr
  · rw [decide_eq_true h, if_pos rfl]; exact h1 h
  · rw [decide_eq_false h, if_neg Bool.false_ne_true]; exact h2 h
theorem g_iteN {A B pr : Prop} [Decidable pr] (h1 : ¬ pr → A) (h2 : pr → B) : if (!decide pr) = true then A else B := by
  by_cases h : pr
  · rw [decide_eq_true h]; exact h2 h
  · rw [decide_eq_false h]; exact h1 h
theorem g_itb {A B : Prop} {b : Bool} (h1 : b = true → A) (h2 : b = false → B) : if b = true then A else B := by
  cases b with
  | true => exact h1 rfl
  | false => exact h2 rfl
theorem g_for {wi : TI} {g : TG} {tb : TS} (q : wi σ H fun J H1 => ∃ W : Nat → Nat → St → Hp → Prop, (∃ m, W 0 m σ H1) ∧ ∀ i m σ H, W i m σ H →
  (J.stop i H ∧ D.nx σ H) ∨ (J.go i H ∧ ∃ N : St → Hp → Prop, (∀ σ' H', N σ' H' → ∃ m', m' < m ∧ W (i + 1) m' σ' H') ∧ ∀ x H', J.yld i H x H' → g x σ H' fun σ2 H2 => tb { D with nx := N, ct := N, bk := D.nx } σ2 H2)) : tFor wi g tb D σ H := q
theorem g_iList {R : It → Hp → Prop} (q : te σ H fun x H1 => ∃ a, x = .ref a ∧ (∃ xs, SqL K H1 a xs) ∧ R (Itl K a) H1) : iList K te σ H R := q
theorem g_iRng1 {R : It → Hp → Prop} (q : tl σ H fun vs H1 => ∃ j : Int, vs = [.int j] ∧ -(2 ^ 62) ≤ j ∧ j < 2 ^ 62 ∧ R (Itr 0 j.toNat) H1) : iRng1 tl σ H R := q
theorem g_iRng2 {R : It → Hp → Prop} (q : tl σ H fun vs H1 => ∃ i j : Int, vs = [.int i, .int j] ∧ (-(2 ^ 62) ≤ i ∧ i < 2 ^ 62 ∧ -(2 ^ 62) ≤ j ∧ j < 2 ^ 62) ∧ R (Itr i (j - i).toNat) H1) : iRng2 tl σ H R := q
/-- a loop over a list that is at hand -/
theorem f_list {g : TG} {tb : TS} {nxt : St → Hp → Prop} {rt : VK} (h : SqL K H p xs) (Pv : Nat → St → Hp → Prop) (h0 : Pv 0 σ H) (hl : ∀ i σ H, i ≤ xs.length → Pv i σ H → SqL K H p xs)
    (hs : ∀ i x σ H, xs[i]? = some x → Pv i σ H → g x σ H fun σ2 H2 => tb { nx := Pv (i + 1), rt := rt, bk := nxt, ct := Pv (i + 1) } σ2 H2) (hd : ∀ σ H, Pv xs.length σ H → nxt σ H) :
    ∃ a, V.ref p = .ref a ∧ (∃ xs, SqL K H a xs) ∧ ∃ W : Nat → Nat → St → Hp → Prop, (∃ m, W 0 m σ H) ∧ ∀ i m σ H, W i m σ H →
      ((Itl K a).stop i H ∧ nxt σ H) ∨ ((Itl K a).go i H ∧ ∃ N : St → Hp → Prop, (∀ σ' H', N σ' H' → ∃ m', m' < m ∧ W (i + 1) m' σ' H') ∧ ∀ x H', (Itl K a).yld i H x H' → g x σ H' fun σ2 H2 => tb { nx := N, rt := rt, bk := nxt, ct := N } σ2 H2) :=
  ⟨p, rfl, ⟨xs, h⟩, for_list (D := { nx := nxt, rt := rt, bk := nxt, ct := nxt }) Pv h0 hl hs hd⟩
theorem f_rng1 {g : TG} {tb : TS} {nxt : St → Hp → Prop} {rt : VK} (n : Nat) (hn : a.toNat = n) (h1 : -(2 ^ 62) ≤ a) (h2 : a < 2 ^ 62) (Pv : Nat → St → Hp → Prop) (h0 : Pv 0 σ H)
    (hs : ∀ i σ H, i < n → Pv i σ H → g (.int ((i : Nat) : Int)) σ H fun σ2 H2 => tb { nx := Pv (i + 1), rt := rt, bk := nxt, ct := Pv (i + 1) } σ2 H2) (hd : ∀ σ H, Pv n σ H → nxt σ H) :
    ∃ j : Int, [V.int a] = [.int j] ∧ -(2 ^ 62) ≤ j ∧ j < 2 ^ 62 ∧ ∃ W : Nat → Nat → St → Hp → Prop, (∃ m, W 0 m σ H) ∧ ∀ i m σ H, W i m σ H →
      ((Itr 0 j.toNat).stop i H ∧ nxt σ H) ∨ ((Itr 0 j.toNat).go i H ∧ ∃ N : St → Hp → Prop, (∀ σ' H', N σ' H' → ∃ m', m' < m ∧ W (i + 1) m' σ' H') ∧ ∀ x H', (Itr 0 j.toNat).yld i H x H' → g x σ H' fun σ2 H2 => tb { nx := N, rt := rt, bk := nxt, ct := N } σ2 H2) := by
  subst hn
  exact ⟨a, rfl, h1, h2, for_range (lo := 0) (D := { nx := nxt, rt := rt, bk := nxt, ct := nxt }) Pv h0 (fun i σ H hi q => by rw [Int.zero_add]; exact hs i σ H hi q) hd⟩
theorem f_rng {g : TG} {tb : TS} {nxt : St → Hp → Prop} {rt : VK} (hb : 0 ≤ a ∧ a ≤ 1000000) (Pv : Nat → St → Hp → Prop) (h0 : Pv 0 σ H)
    (hs : ∀ i σ H, ((i : Nat) : Int) < a → Pv i σ H → g (.int ((i : Nat) : Int)) σ H fun σ2 H2 => tb { nx := Pv (i + 1), rt := rt, bk := nxt, ct := Pv (i + 1) } σ2 H2) (hd : ∀ σ H, Pv a.toNat σ H → nxt σ H) :
    ∃ j : Int, [V.int a] = [.int j] ∧ -(2 ^ 62) ≤ j ∧ j < 2 ^ 62 ∧ ∃ W : Nat → Nat → St → Hp → Prop, (∃ m, W 0 m σ H) ∧ ∀ i m σ H, W i m σ H →
      ((Itr 0 j.toNat).stop i H ∧ nxt σ H) ∨ ((Itr 0 j.toNat).go i H ∧ ∃ N : St → Hp → Prop, (∀ σ' H', N σ' H' → ∃ m', m' < m ∧ W (i + 1) m' σ' H') ∧ ∀ x H', (Itr 0 j.toNat).yld i H x H' → g x σ H' fun σ2 H2 => tb { nx := N, rt := rt, bk := nxt, ct := N } σ2 H2) :=
  f_rng1 a.toNat rfl (by omega) (by omega) Pv h0 (fun i σ H hi q => hs i σ H (by omega) q) hd
/-! comprehensions -/
theorem g_lc {wi : TI} {g : TG} {tt : TT} {vs : List Nat} (q : wi σ H fun J H1 => ∀ D, H1 D = none → ∃ W : Nat → Nat → Hp → Prop, (∃ m, W 0 m (upd H1 D (.lst []))) ∧ ∀ i m H, W i m H →
  (J.stop i H ∧ Q (.ref D) H) ∨ (J.go i H ∧ ∃ Nx : Hp → Prop, (∀ H', Nx H' → ∃ m', m' < m ∧ W (i + 1) m' H') ∧ ∀ x H', J.yld i H x H' → g x (wipe σ vs) H' fun σ2 H2 => wipe σ2 vs = wipe σ vs ∧ tt σ2 H2 fun b H3 =>
    if b = true then te σ2 H3 fun y H4 => ∃ acc, H4 D = some (.lst acc) ∧ acc.length < sizeLine ∧ Nx (upd H4 D (.lst (acc ++ [y]))) else Nx H3)) : tLc wi g tt te vs σ H Q := q
/-- over a list at hand -/
theorem c_list {g : TG} {tt : TT} {vs : List Nat} {Qd : Addr → Hp → Prop} (h : SqL K H p xs) (Pv : Addr → Nat → Hp → Prop) (h0 : ∀ D, H D = none → Pv D 0 (upd H D (.lst []))) (hl : ∀ D i H', H D = none → i ≤ xs.length → Pv D i H' → SqL K H' p xs)
    (hs : ∀ D i x H', H D = none → xs[i]? = some x → Pv D i H' → g x (wipe σ vs) H' fun σ2 H2 => wipe σ2 vs = wipe σ vs ∧ tt σ2 H2 fun b H3 =>
      if b = true then te σ2 H3 fun y H4 => ∃ acc, H4 D = some (.lst acc) ∧ acc.length < sizeLine ∧ Pv D (i + 1) (upd H4 D (.lst (acc ++ [y]))) else Pv D (i + 1) H3)
    (hd : ∀ D H', H D = none → Pv D xs.length H' → Qd D H') :
    ∃ a, V.ref p = .ref a ∧ (∃ xs, SqL K H a xs) ∧ ∀ D, H D = none → ∃ W : Nat → Nat → Hp → Prop, (∃ m, W 0 m (upd H D (.lst []))) ∧ ∀ i m H, W i m H →
  ((Itl K a).stop i H ∧ Qd D H) ∨ ((Itl K a).go i H ∧ ∃ Nx : Hp → Prop, (∀ H', Nx H' → ∃ m', m' < m ∧ W (i + 1) m' H') ∧ ∀ x H', (Itl K a).yld i H x H' → g x (wipe σ vs) H' fun σ2 H2 => wipe σ2 vs = wipe σ vs ∧ tt σ2 H2 fun b H3 =>
    if b = true then te σ2 H3 fun y H4 => ∃ acc, H4 D = some (.lst acc) ∧ acc.length < sizeLine ∧ Nx (upd H4 D (.lst (acc ++ [y]))) else Nx H3) :=
  ⟨p, rfl, ⟨xs, h⟩, fun D hD => lc_list (xs := xs) (Qd := Qd D) (Pv D) (h0 D hD) (fun i H' hi q => hl D i H' hD hi q) (fun i x H' hx q => hs D i x H' hD hx q) fun H' q => hd D H' hD q⟩
theorem c_rng1 {g : TG} {tt : TT} {vs : List Nat} {Qd : Addr → Hp → Prop} (n : Nat) (hn : a.toNat = n) (h1 : -(2 ^ 62) ≤ a) (h2 : a < 2 ^ 62) (Pv : Addr → Nat → Hp → Prop) (h0 : ∀ D, H D = none → Pv D 0 (upd H D (.lst [])))
    (hs : ∀ D i H', H D = none → i < n → Pv D i H' → g (.int ((i : Nat) : Int)) (wipe σ vs) H' fun σ2 H2 => wipe σ2 vs = wipe σ vs ∧ tt σ2 H2 fun b H3 =>
      if b = true then te σ2 H3 fun y H4 => ∃ acc, H4 D = some (.lst acc) ∧ acc.length < sizeLine ∧ Pv D (i + 1) (upd H4 D (.lst (acc ++ [y]))) else Pv D (i + 1) H3)
    (hd : ∀ D H', H D = none → Pv D n H' → Qd D H') :
    ∃ j : Int, [V.int a] = [.int j] ∧ -(2 ^ 62) ≤ j ∧ j < 2 ^ 62 ∧ ∀ D, H D = none → ∃ W : Nat → Nat → Hp → Prop, (∃ m, W 0 m (upd H D (.lst []))) ∧ ∀ i m H, W i m H →
  ((Itr 0 j.toNat).stop i H ∧ Qd D H) ∨ ((Itr 0 j.toNat).go i H ∧ ∃ Nx : Hp → Prop, (∀ H', Nx H' → ∃ m', m' < m ∧ W (i + 1) m' H') ∧ ∀ x H', (Itr 0 j.toNat).yld i H x H' → g x (wipe σ vs) H' fun σ2 H2 => wipe σ2 vs = wipe σ vs ∧ tt σ2 H2 fun b H3 =>
    if b = true then te σ2 H3 fun y H4 => ∃ acc, H4 D = some (.lst acc) ∧ acc.length < sizeLine ∧ Nx (upd H4 D (.lst (acc ++ [y]))) else Nx H3) := by
  subst hn
  exact ⟨a, rfl, h1, h2, fun D hD => lc_range (lo := 0) (Qd := Qd D) (Pv D) (h0 D hD) (fun i H' hi q => by rw [Int.zero_add]; exact hs D i H' hD hi q) fun H' q => hd D H' hD q⟩
theorem c_rng {g : TG} {tt : TT} {vs : List Nat} {Qd : Addr → Hp → Prop} (hb : 0 ≤ a ∧ a ≤ 1000000) (Pv : Addr → Nat → Hp → Prop) (h0 : ∀ D, H D = none → Pv D 0 (upd H D (.lst [])))
    (hs : ∀ D i H', H D = none → ((i : Nat) : Int) < a → Pv D i H' → g (.int ((i : Nat) : Int)) (wipe σ vs) H' fun σ2 H2 => wipe σ2 vs = wipe σ vs ∧ tt σ2 H2 fun b H3 =>
      if b = true then te σ2 H3 fun y H4 => ∃ acc, H4 D = some (.lst acc) ∧ acc.length < sizeLine ∧ Pv D (i + 1) (upd H4 D (.lst (acc ++ [y]))) else Pv D (i + 1) H3)
    (hd : ∀ D H', H D = none → Pv D a.toNat H' → Qd D H') :
    ∃ j : Int, [V.int a] = [.int j] ∧ -(2 ^ 62) ≤ j ∧ j < 2 ^ 62 ∧ ∀ D, H D = none → ∃ W : Nat → Nat → Hp → Prop, (∃ m, W 0 m (upd H D (.lst []))) ∧ ∀ i m H, W i m H →
  ((Itr 0 j.toNat).stop i H ∧ Qd D H) ∨ ((Itr 0 j.toNat).go i H ∧ ∃ Nx : Hp → Prop, (∀ H', Nx H' → ∃ m', m' < m ∧ W (i + 1) m' H') ∧ ∀ x H', (Itr 0 j.toNat).yld i H x H' → g x (wipe σ vs) H' fun σ2 H2 => wipe σ2 vs = wipe σ vs ∧ tt σ2 H2 fun b H3 =>
    if b = true then te σ2 H3 fun y H4 => ∃ acc, H4 D = some (.lst acc) ∧ acc.length < sizeLine ∧ Nx (upd H4 D (.lst (acc ++ [y]))) else Nx H3) :=
  c_rng1 a.toNat rfl (by omega) (by omega) Pv h0 (fun D i H' hD hi q => hs D i H' hD (by omega) q) hd
/-! ### the same, the heap behind by what is known of it -/
theorem h_tup (q : tl σ H fun xs H1 => xs.length ≤ sizeLine ∧ ∀ p H2, H1 p = none → Kp [] H1 H2 → H2 p = some (.tup xs) → Q (.ref p) H2) (mono : ∀ QA' : List V → Hp → Prop, (∀ xs H1, (xs.length ≤ sizeLine ∧ ∀ p H2, H1 p = none → Kp [] H1 H2 → H2 p = some (.tup xs) → Q (.ref p) H2) → QA' xs H1) → tl σ H QA') : tTup tl σ H Q :=
  mono _ fun xs H1 ⟨h1, h2⟩ => ⟨h1, fun p hp => h2 p _ hp (Kp.refl.new hp) upd_same⟩
theorem h_new {o : HO} (q : ∀ p H2, H p = none → Kp [] H H2 → H2 p = some o → Q (.ref p) H2) : ∀ p, H p = none → Q (.ref p) (upd H p o) := fun p hp => q p _ hp (Kp.refl.new hp) upd_same
theorem g_sz {n : Nat} {P : Prop} (h : n ≤ sizeLine) (q : P) : n ≤ sizeLine ∧ P := ⟨h, q⟩
theorem Kp.of_upd {H H2 : Hp} {p : Addr} {o : HO} (e : upd H p o = H2) (h : H p = none) : Kp [] H H2 := e ▸ Kp.refl.new h
theorem at_upd {H H2 : Hp} {p : Addr} {o : HO} (e : upd H p o = H2) : H2 p = some o := e ▸ upd_same
theorem g_eqc {α : Type} {x y : α} {P : Prop} (h : x = y) (q : P) : x = y ∧ P := ⟨h, q⟩
theorem h_listL (h : SqL K H p xs) (q : ∀ l H2, H l = none → Kp [] H H2 → H2 l = some (.lst xs) → Q (.ref l) H2) : rListS K [.ref p] H Q := g_listL h (h_new q)
theorem h_slL {lo hi : Option Int} (h : SqL K H p xs) (q : ∀ l H2, H l = none → Kp [] H H2 → H2 l = some (.lst (cutV xs lo hi)) → Q (.ref l) H2) : rSlL K (.ref p) lo hi H Q := g_slL h (h_new q)
theorem h_cat {p' : Addr} (h : H p = some (.lst xs)) (h' : H p' = some (.lst ys)) (hl : xs.length + ys.length ≤ sizeLine) (q : ∀ l H2, H l = none → Kp [] H H2 → H2 l = some (.lst (xs ++ ys)) → Q (.ref l) H2) : rCat (.ref p) (.ref p') H Q := g_cat h h' hl (h_new q)
theorem h_sized {o : HO} {n : Nat} (h : n ≤ sizeLine) (q : ∀ p H2, H p = none → Kp [] H H2 → H2 p = some o → Q (.ref p) H2) : n ≤ sizeLine ∧ ∀ p, H p = none → Q (.ref p) (upd H p o) := ⟨h, h_new q⟩
theorem h_setL {QH : Hp → Prop} {k : Int} {j : Nat} (h : H p = some (.lst xs)) (e : ixN xs.length k = some j) (q : ∀ H2, Kp [p] H H2 → H2 p = some (.lst (xs.set j v)) → QH H2) : rSetL (.ref p) (.int k) v H QH :=
  g_setL h e (q _ (Kp.refl.wr (List.mem_singleton.mpr rfl)) upd_same)
theorem h_append (h : H p = some (.lst xs)) (hl : xs.length < sizeLine) (q : ∀ H2, Kp [p] H H2 → H2 p = some (.lst (xs ++ [y])) → Q .non H2) : rAppend (.ref p) [y] H Q :=
  ⟨p, xs, y, rfl, rfl, h, hl, q _ (Kp.refl.wr (List.mem_singleton.mpr rfl)) upd_same⟩
theorem g_bm {T : String} {r : V → List V → Hp → VK → Prop} (q : te σ H fun x H1 => tyV K T x H1 ∧ tl σ H1 fun xs H2 => r x xs H2 Q) : tBM K T r te tl σ H Q := q
theorem g_tyL {A : Prop} (h : SqL K H p xs) (q : A) : tyV K "list" (.ref p) H ∧ A := ⟨.inl ⟨rfl, xs, h⟩, q⟩
end
/-! ### one step by the head of what is to be shown -/
class Stp (goal : Prop) (new : outParam Prop) : Prop where
  imp : new → goal
class Getx (σ : St) (i : Nat) (v : outParam V) : Prop where
  get : σ[i]? = some (some v)
class Setx (σ : St) (i : Nat) (v : V) (σ' : outParam St) : Prop where
  set : σ.set i (some v) = σ'
instance gx0 {v : V} {r : List (Option V)} : Getx (some v :: r) 0 v := ⟨rfl⟩
instance sx0 {b : Option V} {v : V} {r : List (Option V)} : Setx (b :: r) 0 v (some v :: r) := ⟨rfl⟩
instance gx1 {a0 : Option V} {v : V} {r : List (Option V)} : Getx (a0 :: some v :: r) 1 v := ⟨rfl⟩
instance sx1 {a0 : Option V} {b : Option V} {v : V} {r : List (Option V)} : Setx (a0 :: b :: r) 1 v (a0 :: some v :: r) := ⟨rfl⟩
instance gx2 {a0 a1 : Option V} {v : V} {r : List (Option V)} : Getx (a0 :: a1 :: some v :: r) 2 v := ⟨rfl⟩
instance sx2 {a0 a1 : Option V} {b : Option V} {v : V} {r : List (Option V)} : Setx (a0 :: a1 :: b :: r) 2 v (a0 :: a1 :: some v :: r) := ⟨rfl⟩
instance gx3 {a0 a1 a2 : Option V} {v : V} {r : List (Option V)} : Getx (a0 :: a1 :: a2 :: some v :: r) 3 v := ⟨rfl⟩
instance sx3 {a0 a1 a2 : Option V} {b : Option V} {v : V} {r : List (Option V)} : Setx (a0 :: a1 :: a2 :: b :: r) 3 v (a0 :: a1 :: a2 :: some v :: r) := ⟨rfl⟩
instance gx4 {a0 a1 a2 a3 : Option V} {v : V} {r : List (Option V)} : Getx (a0 :: a1 :: a2 :: a3 :: some v :: r) 4 v := ⟨rfl⟩
instance sx4 {a0 a1 a2 a3 : Option V} {b : Option V} {v : V} {r : List (Option V)} : Setx (a0 :: a1 :: a2 :: a3 :: b :: r) 4 v (a0 :: a1 :: a2 :: a3 :: some v :: r) := ⟨rfl⟩
instance gx5 {a0 a1 a2 a3 a4 : Option V} {v : V} {r : List (Option V)} : Getx (a0 :: a1 :: a2 :: a3 :: a4 :: some v :: r) 5 v := ⟨rfl⟩
instance sx5 {a0 a1 a2 a3 a4 : Option V} {b : Option V} {v : V} {r : List (Option V)} : Setx (a0 :: a1 :: a2 :: a3 :: a4 :: b :: r) 5 v (a0 :: a1 :: a2 :: a3 :: a4 :: some v :: r) := ⟨rfl⟩
instance gx6 {a0 a1 a2 a3 a4 a5 : Option V} {v : V} {r : List (Option V)} : Getx (a0 :: a1 :: a2 :: a3 :: a4 :: a5 :: some v :: r) 6 v := ⟨rfl⟩
instance sx6 {a0 a1 a2 a3 a4 a5 : Option V} {b : Option V} {v : V} {r : List (Option V)} : Setx (a0 :: a1 :: a2 :: a3 :: a4 :: a5 :: b :: r) 6 v (a0 :: a1 :: a2 :: a3 :: a4 :: a5 :: some v :: r) := ⟨rfl⟩
instance gx7 {a0 a1 a2 a3 a4 a5 a6 : Option V} {v : V} {r : List (Option V)} : Getx (a0 :: a1 :: a2 :: a3 :: a4 :: a5 :: a6 :: some v :: r) 7 v := ⟨rfl⟩
instance sx7 {a0 a1 a2 a3 a4 a5 a6 : Option V} {b : Option V} {v : V} {r : List (Option V)} : Setx (a0 :: a1 :: a2 :: a3 :: a4 :: a5 :: a6 :: b :: r) 7 v (a0 :: a1 :: a2 :: a3 :: a4 :: a5 :: a6 :: some v :: r) := ⟨rfl⟩
instance gx8 {a0 a1 a2 a3 a4 a5 a6 a7 : Option V} {v : V} {r : List (Option V)} : Getx (a0 :: a1 :: a2 :: a3 :: a4 :: a5 :: a6 :: a7 :: some v :: r) 8 v := ⟨rfl⟩
instance sx8 {a0 a1 a2 a3 a4 a5 a6 a7 : Option V} {b : Option V} {v : V} {r : List (Option V)} : Setx (a0 :: a1 :: a2 :: a3 :: a4 :: a5 :: a6 :: a7 :: b :: r) 8 v (a0 :: a1 :: a2 :: a3 :: a4 :: a5 :: a6 :: a7 :: some v :: r) := ⟨rfl⟩
instance gx9 {a0 a1 a2 a3 a4 a5 a6 a7 a8 : Option V} {v : V} {r : List (Option V)} : Getx (a0 :: a1 :: a2 :: a3 :: a4 :: a5 :: a6 :: a7 :: a8 :: some v :: r) 9 v := ⟨rfl⟩
instance sx9 {a0 a1 a2 a3 a4 a5 a6 a7 a8 : Option V} {b : Option V} {v : V} {r : List (Option V)} : Setx (a0 :: a1 :: a2 :: a3 :: a4 :: a5 :: a6 :: a7 :: a8 :: b :: r) 9 v (a0 :: a1 :: a2 :: a3 :: a4 :: a5 :: a6 :: a7 :: a8 :: some v :: r) := ⟨rfl⟩
instance gx10 {a0 a1 a2 a3 a4 a5 a6 a7 a8 a9 : Option V} {v : V} {r : List (Option V)} : Getx (a0 :: a1 :: a2 :: a3 :: a4 :: a5 :: a6 :: a7 :: a8 :: a9 :: some v :: r) 10 v := ⟨rfl⟩
instance sx10 {a0 a1 a2 a3 a4 a5 a6 a7 a8 a9 : Option V} {b : Option V} {v : V} {r : List (Option V)} : Setx (a0 :: a1 :: a2 :: a3 :: a4 :: a5 :: a6 :: a7 :: a8 :: a9 :: b :: r) 10 v (a0 :: a1 :: a2 :: a3 :: a4 :: a5 :: a6 :: a7 :: a8 :: a9 :: some v :: r) := ⟨rfl⟩
instance gx11 {a0 a1 a2 a3 a4 a5 a6 a7 a8 a9 a10 : Option V} {v : V} {r : List (Option V)} : Getx (a0 :: a1 :: a2 :: a3 :: a4 :: a5 :: a6 :: a7 :: a8 :: a9 :: a10 :: some v :: r) 11 v := ⟨rfl⟩
instance sx11 {a0 a1 a2 a3 a4 a5 a6 a7 a8 a9 a10 : Option V} {b : Option V} {v : V} {r : List (Option V)} : Setx (a0 :: a1 :: a2 :: a3 :: a4 :: a5 :: a6 :: a7 :: a8 :: a9 :: a10 :: b :: r) 11 v (a0 :: a1 :: a2 :: a3 :: a4 :: a5 :: a6 :: a7 :: a8 :: a9 :: a10 :: some v :: r) := ⟨rfl⟩
instance gx12 {a0 a1 a2 a3 a4 a5 a6 a7 a8 a9 a10 a11 : Option V} {v : V} {r : List (Option V)} : Getx (a0 :: a1 :: a2 :: a3 :: a4 :: a5 :: a6 :: a7 :: a8 :: a9 :: a10 :: a11 :: some v :: r) 12 v := ⟨rfl⟩
instance sx12 {a0 a1 a2 a3 a4 a5 a6 a7 a8 a9 a10 a11 : Option V} {b : Option V} {v : V} {r : List (Option V)} : Setx (a0 :: a1 :: a2 :: a3 :: a4 :: a5 :: a6 :: a7 :: a8 :: a9 :: a10 :: a11 :: b :: r) 12 v (a0 :: a1 :: a2 :: a3 :: a4 :: a5 :: a6 :: a7 :: a8 :: a9 :: a10 :: a11 :: some v :: r) := ⟨rfl⟩
instance gx13 {a0 a1 a2 a3 a4 a5 a6 a7 a8 a9 a10 a11 a12 : Option V} {v : V} {r : List (Option V)} : Getx (a0 :: a1 :: a2 :: a3 :: a4 :: a5 :: a6 :: a7 :: a8 :: a9 :: a10 :: a11 :: a12 :: some v :: r) 13 v := ⟨rfl⟩
instance sx13 {a0 a1 a2 a3 a4 a5 a6 a7 a8 a9 a10 a11 a12 : Option V} {b : Option V} {v : V} {r : List (Option V)} : Setx (a0 :: a1 :: a2 :: a3 :: a4 :: a5 :: a6 :: a7 :: a8 :: a9 :: a10 :: a11 :: a12 :: b :: r) 13 v (a0 :: a1 :: a2 :: a3 :: a4 :: a5 :: a6 :: a7 :: a8 :: a9 :: a10 :: a11 :: a12 :: some v :: r) := ⟨rfl⟩
instance gx14 {a0 a1 a2 a3 a4 a5 a6 a7 a8 a9 a10 a11 a12 a13 : Option V} {v : V} {r : List (Option V)} : Getx (a0 :: a1 :: a2 :: a3 :: a4 :: a5 :: a6 :: a7 :: a8 :: a9 :: a10 :: a11 :: a12 :: a13 :: some v :: r) 14 v := ⟨rfl⟩
instance sx14 {a0 a1 a2 a3 a4 a5 a6 a7 a8 a9 a10 a11 a12 a13 : Option V} {b : Option V} {v : V} {r : List (Option V)} : Setx (a0 :: a1 :: a2 :: a3 :: a4 :: a5 :: a6 :: a7 :: a8 :: a9 :: a10 :: a11 :: a12 :: a13 :: b :: r) 14 v (a0 :: a1 :: a2 :: a3 :: a4 :: a5 :: a6 :: a7 :: a8 :: a9 :: a10 :: a11 :: a12 :: a13 :: some v :: r) := ⟨rfl⟩
instance gx15 {a0 a1 a2 a3 a4 a5 a6 a7 a8 a9 a10 a11 a12 a13 a14 : Option V} {v : V} {r : List (Option V)} : Getx (a0 :: a1 :: a2 :: a3 :: a4 :: a5 :: a6 :: a7 :: a8 :: a9 :: a10 :: a11 :: a12 :: a13 :: a14 :: some v :: r) 15 v := ⟨rfl⟩
instance sx15 {a0 a1 a2 a3 a4 a5 a6 a7 a8 a9 a10 a11 a12 a13 a14 : Option V} {b : Option V} {v : V} {r : List (Option V)} : Setx (a0 :: a1 :: a2 :: a3 :: a4 :: a5 :: a6 :: a7 :: a8 :: a9 :: a10 :: a11 :: a12 :: a13 :: a14 :: b :: r) 15 v (a0 :: a1 :: a2 :: a3 :: a4 :: a5 :: a6 :: a7 :: a8 :: a9 :: a10 :: a11 :: a12 :: a13 :: a14 :: some v :: r) := ⟨rfl⟩
instance gx16 {a0 a1 a2 a3 a4 a5 a6 a7 a8 a9 a10 a11 a12 a13 a14 a15 : Option V} {v : V} {r : List (Option V)} : Getx (a0 :: a1 :: a2 :: a3 :: a4 :: a5 :: a6 :: a7 :: a8 :: a9 :: a10 :: a11 :: a12 :: a13 :: a14 :: a15 :: some v :: r) 16 v := ⟨rfl⟩
instance sx16 {a0 a1 a2 a3 a4 a5 a6 a7 a8 a9 a10 a11 a12 a13 a14 a15 : Option V} {b : Option V} {v : V} {r : List (Option V)} : Setx (a0 :: a1 :: a2 :: a3 :: a4 :: a5 :: a6 :: a7 :: a8 :: a9 :: a10 :: a11 :: a12 :: a13 :: a14 :: a15 :: b :: r) 16 v (a0 :: a1 :: a2 :: a3 :: a4 :: a5 :: a6 :: a7 :: a8 :: a9 :: a10 :: a11 :: a12 :: a13 :: a14 :: a15 :: some v :: r) := ⟨rfl⟩
instance gx17 {a0 a1 a2 a3 a4 a5 a6 a7 a8 a9 a10 a11 a12 a13 a14 a15 a16 : Option V} {v : V} {r : List (Option V)} : Getx (a0 :: a1 :: a2 :: a3 :: a4 :: a5 :: a6 :: a7 :: a8 :: a9 :: a10 :: a11 :: a12 :: a13 :: a14 :: a15 :: a16 :: some v :: r) 17 v := ⟨rfl⟩
instance sx17 {a0 a1 a2 a3 a4 a5 a6 a7 a8 a9 a10 a11 a12 a13 a14 a15 a16 : Option V} {b : Option V} {v : V} {r : List (Option V)} : Setx (a0 :: a1 :: a2 :: a3 :: a4 :: a5 :: a6 :: a7 :: a8 :: a9 :: a10 :: a11 :: a12 :: a13 :: a14 :: a15 :: a16 :: b :: r) 17 v (a0 :: a1 :: a2 :: a3 :: a4 :: a5 :: a6 :: a7 :: a8 :: a9 :: a10 :: a11 :: a12 :: a13 :: a14 :: a15 :: a16 :: some v :: r) := ⟨rfl⟩
instance gx18 {a0 a1 a2 a3 a4 a5 a6 a7 a8 a9 a10 a11 a12 a13 a14 a15 a16 a17 : Option V} {v : V} {r : List (Option V)} : Getx (a0 :: a1 :: a2 :: a3 :: a4 :: a5 :: a6 :: a7 :: a8 :: a9 :: a10 :: a11 :: a12 :: a13 :: a14 :: a15 :: a16 :: a17 :: some v :: r) 18 v := ⟨rfl⟩
instance sx18 {a0 a1 a2 a3 a4 a5 a6 a7 a8 a9 a10 a11 a12 a13 a14 a15 a16 a17 : Option V} {b : Option V} {v : V} {r : List (Option V)} : Setx (a0 :: a1 :: a2 :: a3 :: a4 :: a5 :: a6 :: a7 :: a8 :: a9 :: a10 :: a11 :: a12 :: a13 :: a14 :: a15 :: a16 :: a17 :: b :: r) 18 v (a0 :: a1 :: a2 :: a3 :: a4 :: a5 :: a6 :: a7 :: a8 :: a9 :: a10 :: a11 :: a12 :: a13 :: a14 :: a15 :: a16 :: a17 :: some v :: r) := ⟨rfl⟩
instance gx19 {a0 a1 a2 a3 a4 a5 a6 a7 a8 a9 a10 a11 a12 a13 a14 a15 a16 a17 a18 : Option V} {v : V} {r : List (Option V)} : Getx (a0 :: a1 :: a2 :: a3 :: a4 :: a5 :: a6 :: a7 :: a8 :: a9 :: a10 :: a11 :: a12 :: a13 :: a14 :: a15 :: a16 :: a17 :: a18 :: some v :: r) 19 v := ⟨rfl⟩
instance sx19 {a0 a1 a2 a3 a4 a5 a6 a7 a8 a9 a10 a11 a12 a13 a14 a15 a16 a17 a18 : Option V} {b : Option V} {v : V} {r : List (Option V)} : Setx (a0 :: a1 :: a2 :: a3 :: a4 :: a5 :: a6 :: a7 :: a8 :: a9 :: a10 :: a11 :: a12 :: a13 :: a14 :: a15 :: a16 :: a17 :: a18 :: b :: r) 19 v (a0 :: a1 :: a2 :: a3 :: a4 :: a5 :: a6 :: a7 :: a8 :: a9 :: a10 :: a11 :: a12 :: a13 :: a14 :: a15 :: a16 :: a17 :: a18 :: some v :: r) := ⟨rfl⟩
instance gx20 {a0 a1 a2 a3 a4 a5 a6 a7 a8 a9 a10 a11 a12 a13 a14 a15 a16 a17 a18 a19 : Option V} {v : V} {r : List (Option V)} : Getx (a0 :: a1 :: a2 :: a3 :: a4 :: a5 :: a6 :: a7 :: a8 :: a9 :: a10 :: a11 :: a12 :: a13 :: a14 :: a15 :: a16 :: a17 :: a18 :: a19 :: some v :: r) 20 v := ⟨rfl⟩
instance sx20 {a0 a1 a2 a3 a4 a5 a6 a7 a8 a9 a10 a11 a12 a13 a14 a15 a16 a17 a18 a19 : Option V} {b : Option V} {v : V} {r : List (Option V)} : Setx (a0 :: a1 :: a2 :: a3 :: a4 :: a5 :: a6 :: a7 :: a8 :: a9 :: a10 :: a11 :: a12 :: a13 :: a14 :: a15 :: a16 :: a17 :: a18 :: a19 :: b :: r) 20 v (a0 :: a1 :: a2 :: a3 :: a4 :: a5 :: a6 :: a7 :: a8 :: a9 :: a10 :: a11 :: a12 :: a13 :: a14 :: a15 :: a16 :: a17 :: a18 :: a19 :: some v :: r) := ⟨rfl⟩
instance gx21 {a0 a1 a2 a3 a4 a5 a6 a7 a8 a9 a10 a11 a12 a13 a14 a15 a16 a17 a18 a19 a20 : Option V} {v : V} {r : List (Option V)} : Getx (a0 :: a1 :: a2 :: a3 :: a4 :: a5 :: a6 :: a7 :: a8 :: a9 :: a10 :: a11 :: a12 :: a13 :: a14 :: a15 :: a16 :: a17 :: a18 :: a19 :: a20 :: some v :: r) 21 v := ⟨rfl⟩
instance sx21 {a0 a1 a2 a3 a4 a5 a6 a7 a8 a9 a10 a11 a12 a13 a14 a15 a16 a17 a18 a19 a20 : Option V} {b : Option V} {v : V} {r : List (Option V)} : Setx (a0 :: a1 :: a2 :: a3 :: a4 :: a5 :: a6 :: a7 :: a8 :: a9 :: a10 :: a11 :: a12 :: a13 :: a14 :: a15 :: a16 :: a17 :: a18 :: a19 :: a20 :: b :: r) 21 v (a0 :: a1 :: a2 :: a3 :: a4 :: a5 :: a6 :: a7 :: a8 :: a9 :: a10 :: a11 :: a12 :: a13 :: a14 :: a15 :: a16 :: a17 :: a18 :: a19 :: a20 :: some v :: r) := ⟨rfl⟩
instance gx22 {a0 a1 a2 a3 a4 a5 a6 a7 a8 a9 a10 a11 a12 a13 a14 a15 a16 a17 a18 a19 a20 a21 : Option V} {v : V} {r : List (Option V)} : Getx (a0 :: a1 :: a2 :: a3 :: a4 :: a5 :: a6 :: a7 :: a8 :: a9 :: a10 :: a11 :: a12 :: a13 :: a14 :: a15 :: a16 :: a17 :: a18 :: a19 :: a20 :: a21 :: some v :: r) 22 v := ⟨rfl⟩
instance sx22 {a0 a1 a2 a3 a4 a5 a6 a7 a8 a9 a10 a11 a12 a13 a14 a15 a16 a17 a18 a19 a20 a21 : Option V} {b : Option V} {v : V} {r : List (Option V)} : Setx (a0 :: a1 :: a2 :: a3 :: a4 :: a5 :: a6 :: a7 :: a8 :: a9 :: a10 :: a11 :: a12 :: a13 :: a14 :: a15 :: a16 :: a17 :: a18 :: a19 :: a20 :: a21 :: b :: r) 22 v (a0 :: a1 :: a2 :: a3 :: a4 :: a5 :: a6 :: a7 :: a8 :: a9 :: a10 :: a11 :: a12 :: a13 :: a14 :: a15 :: a16 :: a17 :: a18 :: a19 :: a20 :: a21 :: some v :: r) := ⟨rfl⟩
instance gx23 {a0 a1 a2 a3 a4 a5 a6 a7 a8 a9 a10 a11 a12 a13 a14 a15 a16 a17 a18 a19 a20 a21 a22 : Option V} {v : V} {r : List (Option V)} : Getx (a0 :: a1 :: a2 :: a3 :: a4 :: a5 :: a6 :: a7 :: a8 :: a9 :: a10 :: a11 :: a12 :: a13 :: a14 :: a15 :: a16 :: a17 :: a18 :: a19 :: a20 :: a21 :: a22 :: some v :: r) 23 v := ⟨rfl⟩
instance sx23 {a0 a1 a2 a3 a4 a5 a6 a7 a8 a9 a10 a11 a12 a13 a14 a15 a16 a17 a18 a19 a20 a21 a22 : Option V} {b : Option V} {v : V} {r : List (Option V)} : Setx (a0 :: a1 :: a2 :: a3 :: a4 :: a5 :: a6 :: a7 :: a8 :: a9 :: a10 :: a11 :: a12 :: a13 :: a14 :: a15 :: a16 :: a17 :: a18 :: a19 :: a20 :: a21 :: a22 :: b :: r) 23 v (a0 :: a1 :: a2 :: a3 :: a4 :: a5 :: a6 :: a7 :: a8 :: a9 :: a10 :: a11 :: a12 :: a13 :: a14 :: a15 :: a16 :: a17 :: a18 :: a19 :: a20 :: a21 :: a22 :: some v :: r) := ⟨rfl⟩
section
variable {σ σ' : St} {H : Hp} {Q : VK} {QB : Bool → Hp → Prop} {QA : List V → Hp → Prop} {v x y : V} {i j : Nat} {a b : Int} {ta tb te : TE} {t u : TT} {D : Ends} {s1 s2 s3 : TS} {tl tr : TA} {r : R2} {K : PySem.W.Frag} {p : Addr} {xs ys : List V} {rc : RCl} {c : Bool} {wi : TI} {g : TG}
class NotIf (s : TS) : Prop where
  ok : True
instance ni_asg : NotIf (tAsg te g) := ⟨trivial⟩
instance ni_drop : NotIf (tDrop te) := ⟨trivial⟩
instance ni_ret : NotIf (tRet te) := ⟨trivial⟩
instance ni_retN : NotIf (tRetN) := ⟨trivial⟩
instance ni_for : NotIf (tFor wi g s1) := ⟨trivial⟩
instance ni_while : NotIf (tWhile t s1) := ⟨trivial⟩
instance ni_next : NotIf (tNext) := ⟨trivial⟩
instance ni_aug {ti : TIp} : NotIf (tAug i te ti) := ⟨trivial⟩
instance ni_par : NotIf (tPar i j tl) := ⟨trivial⟩
instance ni_seq : NotIf (tSeq s1 s2) := ⟨trivial⟩
instance ni_never : NotIf (tNever) := ⟨trivial⟩
instance ni_fld {f : Str} : NotIf (sFld K ta te f) := ⟨trivial⟩
instance ni_brk : NotIf (tBreak) := ⟨trivial⟩
instance ni_ct : NotIf (tCont) := ⟨trivial⟩
instance p_seq [NotIf s1] : Stp (tSeq s1 s2 D σ H) (s1 { D with nx := s2 D } σ H) := ⟨fun q => q⟩
instance p_asg : Stp (tAsg te g D σ H) (te σ H fun x H1 => g x σ H1 D.nx) := ⟨fun q => q⟩
instance p_drop : Stp (tDrop te D σ H) (te σ H fun _ H1 => D.nx σ H1) := ⟨fun q => q⟩
instance p_ret : Stp (tRet te D σ H) (te σ H D.rt) := ⟨fun q => q⟩
instance p_retN : Stp (tRetN D σ H) (D.rt .non H) := ⟨fun q => q⟩
instance p_next : Stp (tNext D σ H) (D.nx σ H) := ⟨fun q => q⟩
instance p_brk : Stp (tBreak D σ H) (D.bk σ H) := ⟨fun q => q⟩
instance p_ct : Stp (tCont D σ H) (D.ct σ H) := ⟨fun q => q⟩
instance p_ifS : Stp (tIfS t s1 s2 D σ H) (t σ H fun b H1 => if b = true then s1 D σ H1 else s2 D σ H1) := ⟨fun q => q⟩
instance p_name {QS : St → Hp → Prop} [S : Setx σ i v σ'] : Stp (gName i v σ H QS) (QS σ' H) := ⟨fun q => by have e := S.set; subst e; exact q⟩
instance p_sub {to ti : TE} {ts : TSet} {QS : St → Hp → Prop} : Stp (gSub to ti ts v σ H QS) (to σ H fun o H1 => ti σ H1 fun i H2 => ts o i v H2 fun H3 => QS σ H3) := ⟨fun q => q⟩
instance p_aug {ti : TIp} [G : Getx σ i x] : Stp (tAug i te ti D σ H) (te σ H fun y H1 => ti x y H1 fun z H2 => D.nx (σ.set i (some z)) H2) := ⟨fun q => ⟨x, G.get, q⟩⟩
instance p_ipI {f : Int → Int → Int} : Stp (ipI f (.int a) (.int b) H Q) (Q (.int (f a b)) H) := ⟨fun q => ⟨a, b, rfl, rfl, q⟩⟩
instance p_par : Stp (tPar i j tl D σ H) (tl σ H fun vs H1 => ∃ v w, vs = [v, w] ∧ D.nx ((σ.set i (some v)).set j (some w)) H1) := ⟨fun q => q⟩
instance p_var [G : Getx σ i v] : Stp (tVar i σ H Q) (Q v H) := ⟨fun q => ⟨v, G.get, q⟩⟩
instance p_c : Stp (tC v σ H Q) (Q v H) := ⟨fun q => q⟩
instance p_op : Stp (tOp r ta tb σ H Q) (ta σ H fun x H1 => tb σ H1 fun y H2 => r x y H2 Q) := ⟨fun q => q⟩
instance p_un {r : V → Hp → VK → Prop} : Stp (tUn r ta σ H Q) (ta σ H fun x H1 => r x H1 Q) := ⟨fun q => q⟩
instance p_neg : Stp (rU (fun i => .int (-i)) (.int a) H Q) (Q (.int (-a)) H) := ⟨fun q => ⟨a, rfl, q⟩⟩
instance p_I0 {g : Int → Int → V} : Stp (rI0 g (.int a) (.int b) H Q) (Q (g a b) H) := ⟨fun q => ⟨a, b, rfl, rfl, q⟩⟩
instance p_eqI : Stp (rEq (.int a) (.int b) H Q) (Q (.bl (decide (a = b))) H) := ⟨g_eqI⟩
instance p_neI : Stp (rNe (.int a) (.int b) H Q) (Q (.bl (!decide (a = b))) H) := ⟨g_neI⟩
instance p_test : Stp (tTest te σ H QB) (te σ H fun x H1 => ∃ k, x = .bl k ∧ QB k H1) := ⟨fun q => q⟩
instance p_tb : Stp (tB te σ H QB) (te σ H fun x H1 => ∃ k, x = .bl k ∧ QB k H1) := ⟨fun q => q⟩
instance p_bl {b : Bool} {P : Bool → Prop} : Stp (∃ k, V.bl b = .bl k ∧ P k) (P b) := ⟨fun q => ⟨b, rfl, q⟩⟩
instance p_int {P : Int → Prop} : Stp (∃ k, V.int a = .int k ∧ P k) (P a) := ⟨fun q => ⟨a, rfl, q⟩⟩
instance p_vw {P : V → V → Prop} : Stp (∃ v w, [x, y] = [v, w] ∧ P v w) (P x y) := ⟨fun q => ⟨x, y, rfl, q⟩⟩
instance p_and : Stp (tAnd t u σ H QB) (t σ H fun c H1 => if c = true then u σ H1 QB else QB false H1) := ⟨fun q => q⟩
instance p_or : Stp (tOr t u σ H QB) (t σ H fun c H1 => if c = true then QB true H1 else u σ H1 QB) := ⟨fun q => q⟩
instance p_not : Stp (tNot t σ H QB) (t σ H fun c H1 => QB (!c) H1) := ⟨fun q => q⟩
instance p_andV : Stp (tAndV ta tb σ H Q) (ta σ H fun x H1 => ∃ c, x = .bl c ∧ if c = true then tb σ H1 Q else Q (.bl false) H1) := ⟨fun q => q⟩
instance p_orV : Stp (tOrV ta tb σ H Q) (ta σ H fun x H1 => ∃ c, x = .bl c ∧ if c = true then Q (.bl true) H1 else tb σ H1 Q) := ⟨fun q => q⟩
instance p_notV : Stp (tNotV ta σ H Q) (ta σ H fun x H1 => ∃ c, x = .bl c ∧ Q (.bl (!c)) H1) := ⟨fun q => q⟩
instance p_if : Stp (tIf t ta tb σ H Q) (t σ H fun c H1 => if c = true then ta σ H1 Q else tb σ H1 Q) := ⟨fun q => q⟩
instance p_nil : Stp (tNil σ H QA) (QA [] H) := ⟨fun q => q⟩
instance p_cons : Stp (tCons te tr σ H QA) (te σ H fun x H1 => tr σ H1 fun xs H2 => QA (x :: xs) H2) := ⟨fun q => q⟩
instance p_tup : Stp (tTup tl σ H Q) (tl σ H fun xs H1 => xs.length ≤ sizeLine ∧ ∀ p, H1 p = none → Q (.ref p) (upd H1 p (.tup xs))) := ⟨fun q => q⟩
instance p_lst : Stp (tLst tl σ H Q) (tl σ H fun xs H1 => xs.length ≤ sizeLine ∧ ∀ p, H1 p = none → Q (.ref p) (upd H1 p (.lst xs))) := ⟨fun q => q⟩
instance p_cb : Stp (tCB rc tl σ H Q) (tl σ H fun vs H1 => rc vs H1 Q) := ⟨fun q => q⟩
instance p_max2 : Stp (rMax2 [.int a, .int b] H Q) (Q (.int (if b > a then b else a)) H) := ⟨fun q => ⟨a, b, rfl, q⟩⟩
instance p_min2 : Stp (rMin2 [.int a, .int b] H Q) (Q (.int (if b < a then b else a)) H) := ⟨fun q => ⟨a, b, rfl, q⟩⟩
instance p_abs : Stp (rAbs [.int a] H Q) (Q (.int (if a < 0 then -a else a)) H) := ⟨fun q => ⟨a, rfl, q⟩⟩
instance p_int1b : Stp (rInt1 [.bl c] H Q) (Q (.int (if c then 1 else 0)) H) := ⟨fun q => .inr ⟨c, rfl, q⟩⟩
instance p_int1i : Stp (rInt1 [.int a] H Q) (Q (.int a) H) := ⟨fun q => .inl ⟨a, rfl, q⟩⟩
instance p_isN : Stp (rIsN x .non H Q) (Q (.bl (decide (x = .non))) H) := ⟨fun q => ⟨rfl, q⟩⟩
instance p_notN : Stp (rNotN x .non H Q) (Q (.bl (!decide (x = .non))) H) := ⟨fun q => ⟨rfl, q⟩⟩
instance p_sl {r : V → Option Int → Option Int → Hp → VK → Prop} {lo hi : TO} : Stp (tSl r te lo hi σ H Q) (te σ H fun x H1 => lo σ H1 fun l H2 => hi σ H2 fun u H3 => r x l u H3 Q) := ⟨fun q => q⟩
instance p_nopart {QO : Option Int → Hp → Prop} : Stp (tNoPart σ H QO) (QO none H) := ⟨fun q => q⟩
instance p_part {QO : Option Int → Hp → Prop} : Stp (tPart te σ H QO) (te σ H fun x H1 => ∃ i, x = .int i ∧ QO (some i) H1) := ⟨fun q => q⟩
instance p_call {sp : Sp} {dvs : List V} {E : XK} : Stp (tCall sp dvs E tl σ H Q) (tl σ H fun vs H1 => sp (vs ++ dvs) H1 Q E) := ⟨fun q => q⟩
instance p_callP {n : Nat} {pi : List Nat} {sp : Sp} {E : XK} : Stp (tCallP n pi sp E tl σ H Q) (tl σ H fun zs H2 => zs.length = n ∧ sp (perm pi zs) H2 Q E) := ⟨fun q => q⟩
instance p_for {tb : TS} : Stp (tFor wi g tb D σ H) (wi σ H fun J H1 => ∃ W : Nat → Nat → St → Hp → Prop, (∃ m, W 0 m σ H1) ∧ ∀ i m σ H, W i m σ H →
  (J.stop i H ∧ D.nx σ H) ∨ (J.go i H ∧ ∃ N : St → Hp → Prop, (∀ σ' H', N σ' H' → ∃ m', m' < m ∧ W (i + 1) m' σ' H') ∧ ∀ x H', J.yld i H x H' → g x σ H' fun σ2 H2 => tb { D with nx := N, ct := N, bk := D.nx } σ2 H2)) := ⟨fun q => q⟩
instance p_iList {R : It → Hp → Prop} : Stp (iList K te σ H R) (te σ H fun x H1 => ∃ a, x = .ref a ∧ (∃ xs, SqL K H1 a xs) ∧ R (Itl K a) H1) := ⟨fun q => q⟩
instance p_iRng1 {R : It → Hp → Prop} : Stp (iRng1 tl σ H R) (tl σ H fun vs H1 => ∃ j : Int, vs = [.int j] ∧ -(2 ^ 62) ≤ j ∧ j < 2 ^ 62 ∧ R (Itr 0 j.toNat) H1) := ⟨fun q => q⟩
instance p_iRng2 {R : It → Hp → Prop} : Stp (iRng2 tl σ H R) (tl σ H fun vs H1 => ∃ i j : Int, vs = [.int i, .int j] ∧ (-(2 ^ 62) ≤ i ∧ i < 2 ^ 62 ∧ -(2 ^ 62) ≤ j ∧ j < 2 ^ 62) ∧ R (Itr i (j - i).toNat) H1) := ⟨fun q => q⟩
instance p_lc {tt : TT} {vs : List Nat} : Stp (tLc wi g tt te vs σ H Q) (wi σ H fun J H1 => ∀ D, H1 D = none → ∃ W : Nat → Nat → Hp → Prop, (∃ m, W 0 m (upd H1 D (.lst []))) ∧ ∀ i m H, W i m H →
  (J.stop i H ∧ Q (.ref D) H) ∨ (J.go i H ∧ ∃ Nx : Hp → Prop, (∀ H', Nx H' → ∃ m', m' < m ∧ W (i + 1) m' H') ∧ ∀ x H', J.yld i H x H' → g x (wipe σ vs) H' fun σ2 H2 => wipe σ2 vs = wipe σ vs ∧ tt σ2 H2 fun b H3 =>
    if b = true then te σ2 H3 fun y H4 => ∃ acc, H4 D = some (.lst acc) ∧ acc.length < sizeLine ∧ Nx (upd H4 D (.lst (acc ++ [y]))) else Nx H3)) := ⟨fun q => q⟩
instance p_yes : Stp (tYes σ H QB) (QB true H) := ⟨fun q => q⟩
instance p_itT {A B : Prop} : Stp (if true = true then A else B) A := ⟨fun q => q⟩
instance p_itF {A B : Prop} : Stp (if false = true then A else B) B := ⟨fun q => q⟩
instance p_itNT {A B : Prop} : Stp (if (!true) = true then A else B) B := ⟨fun q => q⟩
instance p_itNF {A B : Prop} : Stp (if (!false) = true then A else B) A := ⟨fun q => q⟩
instance p_bm {T : String} {r : V → List V → Hp → VK → Prop} : Stp (tBM K T r te tl σ H Q) (te σ H fun x H1 => tyV K T x H1 ∧ tl σ H1 fun xs H2 => r x xs H2 Q) := ⟨fun q => q⟩
end
/-- behind S-steps a T-step: what T writes is S's or new -/
theorem Kp.step {S T : List Addr} {H H1 H2 : Hp} (a : Kp S H H1) (b : Kp T H1 H2) (h : ∀ x ∈ T, x ∈ S ∨ H x = none) : Kp S H H2 := fun c o e n => b c o (a c o e n) fun z => by
  rcases h c z with q | q
  · exact n q
  · rw [q] at e; cases e
theorem set_0 {α : Type} {a0 v : α} {r : List α} : (a0 :: r).set 0 v = v :: r := rfl
theorem set_1 {α : Type} {a0 a1 v : α} {r : List α} : (a0 :: a1 :: r).set 1 v = a0 :: v :: r := rfl
theorem set_2 {α : Type} {a0 a1 a2 v : α} {r : List α} : (a0 :: a1 :: a2 :: r).set 2 v = a0 :: a1 :: v :: r := rfl
theorem set_3 {α : Type} {a0 a1 a2 a3 v : α} {r : List α} : (a0 :: a1 :: a2 :: a3 :: r).set 3 v = a0 :: a1 :: a2 :: v :: r := rfl
theorem set_4 {α : Type} {a0 a1 a2 a3 a4 v : α} {r : List α} : (a0 :: a1 :: a2 :: a3 :: a4 :: r).set 4 v = a0 :: a1 :: a2 :: a3 :: v :: r := rfl
theorem set_5 {α : Type} {a0 a1 a2 a3 a4 a5 v : α} {r : List α} : (a0 :: a1 :: a2 :: a3 :: a4 :: a5 :: r).set 5 v = a0 :: a1 :: a2 :: a3 :: a4 :: v :: r := rfl
theorem set_6 {α : Type} {a0 a1 a2 a3 a4 a5 a6 v : α} {r : List α} : (a0 :: a1 :: a2 :: a3 :: a4 :: a5 :: a6 :: r).set 6 v = a0 :: a1 :: a2 :: a3 :: a4 :: a5 :: v :: r := rfl
theorem set_7 {α : Type} {a0 a1 a2 a3 a4 a5 a6 a7 v : α} {r : List α} : (a0 :: a1 :: a2 :: a3 :: a4 :: a5 :: a6 :: a7 :: r).set 7 v = a0 :: a1 :: a2 :: a3 :: a4 :: a5 :: a6 :: v :: r := rfl
theorem set_8 {α : Type} {a0 a1 a2 a3 a4 a5 a6 a7 a8 v : α} {r : List α} : (a0 :: a1 :: a2 :: a3 :: a4 :: a5 :: a6 :: a7 :: a8 :: r).set 8 v = a0 :: a1 :: a2 :: a3 :: a4 :: a5 :: a6 :: a7 :: v :: r := rfl
theorem set_9 {α : Type} {a0 a1 a2 a3 a4 a5 a6 a7 a8 a9 v : α} {r : List α} : (a0 :: a1 :: a2 :: a3 :: a4 :: a5 :: a6 :: a7 :: a8 :: a9 :: r).set 9 v = a0 :: a1 :: a2 :: a3 :: a4 :: a5 :: a6 :: a7 :: a8 :: v :: r := rfl
theorem set_10 {α : Type} {a0 a1 a2 a3 a4 a5 a6 a7 a8 a9 a10 v : α} {r : List α} : (a0 :: a1 :: a2 :: a3 :: a4 :: a5 :: a6 :: a7 :: a8 :: a9 :: a10 :: r).set 10 v = a0 :: a1 :: a2 :: a3 :: a4 :: a5 :: a6 :: a7 :: a8 :: a9 :: v :: r := rfl
theorem set_11 {α : Type} {a0 a1 a2 a3 a4 a5 a6 a7 a8 a9 a10 a11 v : α} {r : List α} : (a0 :: a1 :: a2 :: a3 :: a4 :: a5 :: a6 :: a7 :: a8 :: a9 :: a10 :: a11 :: r).set 11 v = a0 :: a1 :: a2 :: a3 :: a4 :: a5 :: a6 :: a7 :: a8 :: a9 :: a10 :: v :: r := rfl
theorem set_12 {α : Type} {a0 a1 a2 a3 a4 a5 a6 a7 a8 a9 a10 a11 a12 v : α} {r : List α} : (a0 :: a1 :: a2 :: a3 :: a4 :: a5 :: a6 :: a7 :: a8 :: a9 :: a10 :: a11 :: a12 :: r).set 12 v = a0 :: a1 :: a2 :: a3 :: a4 :: a5 :: a6 :: a7 :: a8 :: a9 :: a10 :: a11 :: v :: r := rfl
theorem set_13 {α : Type} {a0 a1 a2 a3 a4 a5 a6 a7 a8 a9 a10 a11 a12 a13 v : α} {r : List α} : (a0 :: a1 :: a2 :: a3 :: a4 :: a5 :: a6 :: a7 :: a8 :: a9 :: a10 :: a11 :: a12 :: a13 :: r).set 13 v = a0 :: a1 :: a2 :: a3 :: a4 :: a5 :: a6 :: a7 :: a8 :: a9 :: a10 :: a11 :: a12 :: v :: r := rfl
theorem set_14 {α : Type} {a0 a1 a2 a3 a4 a5 a6 a7 a8 a9 a10 a11 a12 a13 a14 v : α} {r : List α} : (a0 :: a1 :: a2 :: a3 :: a4 :: a5 :: a6 :: a7 :: a8 :: a9 :: a10 :: a11 :: a12 :: a13 :: a14 :: r).set 14 v = a0 :: a1 :: a2 :: a3 :: a4 :: a5 :: a6 :: a7 :: a8 :: a9 :: a10 :: a11 :: a12 :: a13 :: v :: r := rfl
theorem set_15 {α : Type} {a0 a1 a2 a3 a4 a5 a6 a7 a8 a9 a10 a11 a12 a13 a14 a15 v : α} {r : List α} : (a0 :: a1 :: a2 :: a3 :: a4 :: a5 :: a6 :: a7 :: a8 :: a9 :: a10 :: a11 :: a12 :: a13 :: a14 :: a15 :: r).set 15 v = a0 :: a1 :: a2 :: a3 :: a4 :: a5 :: a6 :: a7 :: a8 :: a9 :: a10 :: a11 :: a12 :: a13 :: a14 :: v :: r := rfl
theorem set_16 {α : Type} {a0 a1 a2 a3 a4 a5 a6 a7 a8 a9 a10 a11 a12 a13 a14 a15 a16 v : α} {r : List α} : (a0 :: a1 :: a2 :: a3 :: a4 :: a5 :: a6 :: a7 :: a8 :: a9 :: a10 :: a11 :: a12 :: a13 :: a14 :: a15 :: a16 :: r).set 16 v = a0 :: a1 :: a2 :: a3 :: a4 :: a5 :: a6 :: a7 :: a8 :: a9 :: a10 :: a11 :: a12 :: a13 :: a14 :: a15 :: v :: r := rfl
theorem set_17 {α : Type} {a0 a1 a2 a3 a4 a5 a6 a7 a8 a9 a10 a11 a12 a13 a14 a15 a16 a17 v : α} {r : List α} : (a0 :: a1 :: a2 :: a3 :: a4 :: a5 :: a6 :: a7 :: a8 :: a9 :: a10 :: a11 :: a12 :: a13 :: a14 :: a15 :: a16 :: a17 :: r).set 17 v = a0 :: a1 :: a2 :: a3 :: a4 :: a5 :: a6 :: a7 :: a8 :: a9 :: a10 :: a11 :: a12 :: a13 :: a14 :: a15 :: a16 :: v :: r := rfl
theorem set_18 {α : Type} {a0 a1 a2 a3 a4 a5 a6 a7 a8 a9 a10 a11 a12 a13 a14 a15 a16 a17 a18 v : α} {r : List α} : (a0 :: a1 :: a2 :: a3 :: a4 :: a5 :: a6 :: a7 :: a8 :: a9 :: a10 :: a11 :: a12 :: a13 :: a14 :: a15 :: a16 :: a17 :: a18 :: r).set 18 v = a0 :: a1 :: a2 :: a3 :: a4 :: a5 :: a6 :: a7 :: a8 :: a9 :: a10 :: a11 :: a12 :: a13 :: a14 :: a15 :: a16 :: a17 :: v :: r := rfl
theorem set_19 {α : Type} {a0 a1 a2 a3 a4 a5 a6 a7 a8 a9 a10 a11 a12 a13 a14 a15 a16 a17 a18 a19 v : α} {r : List α} : (a0 :: a1 :: a2 :: a3 :: a4 :: a5 :: a6 :: a7 :: a8 :: a9 :: a10 :: a11 :: a12 :: a13 :: a14 :: a15 :: a16 :: a17 :: a18 :: a19 :: r).set 19 v = a0 :: a1 :: a2 :: a3 :: a4 :: a5 :: a6 :: a7 :: a8 :: a9 :: a10 :: a11 :: a12 :: a13 :: a14 :: a15 :: a16 :: a17 :: a18 :: v :: r := rfl
theorem set_20 {α : Type} {a0 a1 a2 a3 a4 a5 a6 a7 a8 a9 a10 a11 a12 a13 a14 a15 a16 a17 a18 a19 a20 v : α} {r : List α} : (a0 :: a1 :: a2 :: a3 :: a4 :: a5 :: a6 :: a7 :: a8 :: a9 :: a10 :: a11 :: a12 :: a13 :: a14 :: a15 :: a16 :: a17 :: a18 :: a19 :: a20 :: r).set 20 v = a0 :: a1 :: a2 :: a3 :: a4 :: a5 :: a6 :: a7 :: a8 :: a9 :: a10 :: a11 :: a12 :: a13 :: a14 :: a15 :: a16 :: a17 :: a18 :: a19 :: v :: r := rfl
theorem set_21 {α : Type} {a0 a1 a2 a3 a4 a5 a6 a7 a8 a9 a10 a11 a12 a13 a14 a15 a16 a17 a18 a19 a20 a21 v : α} {r : List α} : (a0 :: a1 :: a2 :: a3 :: a4 :: a5 :: a6 :: a7 :: a8 :: a9 :: a10 :: a11 :: a12 :: a13 :: a14 :: a15 :: a16 :: a17 :: a18 :: a19 :: a20 :: a21 :: r).set 21 v = a0 :: a1 :: a2 :: a3 :: a4 :: a5 :: a6 :: a7 :: a8 :: a9 :: a10 :: a11 :: a12 :: a13 :: a14 :: a15 :: a16 :: a17 :: a18 :: a19 :: a20 :: v :: r := rfl
theorem set_22 {α : Type} {a0 a1 a2 a3 a4 a5 a6 a7 a8 a9 a10 a11 a12 a13 a14 a15 a16 a17 a18 a19 a20 a21 a22 v : α} {r : List α} : (a0 :: a1 :: a2 :: a3 :: a4 :: a5 :: a6 :: a7 :: a8 :: a9 :: a10 :: a11 :: a12 :: a13 :: a14 :: a15 :: a16 :: a17 :: a18 :: a19 :: a20 :: a21 :: a22 :: r).set 22 v = a0 :: a1 :: a2 :: a3 :: a4 :: a5 :: a6 :: a7 :: a8 :: a9 :: a10 :: a11 :: a12 :: a13 :: a14 :: a15 :: a16 :: a17 :: a18 :: a19 :: a20 :: a21 :: v :: r := rfl
theorem set_23 {α : Type} {a0 a1 a2 a3 a4 a5 a6 a7 a8 a9 a10 a11 a12 a13 a14 a15 a16 a17 a18 a19 a20 a21 a22 a23 v : α} {r : List α} : (a0 :: a1 :: a2 :: a3 :: a4 :: a5 :: a6 :: a7 :: a8 :: a9 :: a10 :: a11 :: a12 :: a13 :: a14 :: a15 :: a16 :: a17 :: a18 :: a19 :: a20 :: a21 :: a22 :: a23 :: r).set 23 v = a0 :: a1 :: a2 :: a3 :: a4 :: a5 :: a6 :: a7 :: a8 :: a9 :: a10 :: a11 :: a12 :: a13 :: a14 :: a15 :: a16 :: a17 :: a18 :: a19 :: a20 :: a21 :: a22 :: v :: r := rfl
theorem at_0 {x0 : V} {r : List V} : atI (x0 :: r) 0 = some x0 := atI_nat (j := 0) rfl
theorem at_1 {x0 x1 : V} {r : List V} : atI (x0 :: x1 :: r) 1 = some x1 := atI_nat (j := 1) rfl
theorem at_2 {x0 x1 x2 : V} {r : List V} : atI (x0 :: x1 :: x2 :: r) 2 = some x2 := atI_nat (j := 2) rfl
theorem at_3 {x0 x1 x2 x3 : V} {r : List V} : atI (x0 :: x1 :: x2 :: x3 :: r) 3 = some x3 := atI_nat (j := 3) rfl
theorem at_4 {x0 x1 x2 x3 x4 : V} {r : List V} : atI (x0 :: x1 :: x2 :: x3 :: x4 :: r) 4 = some x4 := atI_nat (j := 4) rfl
theorem at_5 {x0 x1 x2 x3 x4 x5 : V} {r : List V} : atI (x0 :: x1 :: x2 :: x3 :: x4 :: x5 :: r) 5 = some x5 := atI_nat (j := 5) rfl
theorem at_6 {x0 x1 x2 x3 x4 x5 x6 : V} {r : List V} : atI (x0 :: x1 :: x2 :: x3 :: x4 :: x5 :: x6 :: r) 6 = some x6 := atI_nat (j := 6) rfl
theorem at_7 {x0 x1 x2 x3 x4 x5 x6 x7 : V} {r : List V} : atI (x0 :: x1 :: x2 :: x3 :: x4 :: x5 :: x6 :: x7 :: r) 7 = some x7 := atI_nat (j := 7) rfl
theorem at_8 {x0 x1 x2 x3 x4 x5 x6 x7 x8 : V} {r : List V} : atI (x0 :: x1 :: x2 :: x3 :: x4 :: x5 :: x6 :: x7 :: x8 :: r) 8 = some x8 := atI_nat (j := 8) rfl
theorem at_9 {x0 x1 x2 x3 x4 x5 x6 x7 x8 x9 : V} {r : List V} : atI (x0 :: x1 :: x2 :: x3 :: x4 :: x5 :: x6 :: x7 :: x8 :: x9 :: r) 9 = some x9 := atI_nat (j := 9) rfl
theorem at_10 {x0 x1 x2 x3 x4 x5 x6 x7 x8 x9 x10 : V} {r : List V} : atI (x0 :: x1 :: x2 :: x3 :: x4 :: x5 :: x6 :: x7 :: x8 :: x9 :: x10 :: r) 10 = some x10 := atI_nat (j := 10) rfl
theorem at_11 {x0 x1 x2 x3 x4 x5 x6 x7 x8 x9 x10 x11 : V} {r : List V} : atI (x0 :: x1 :: x2 :: x3 :: x4 :: x5 :: x6 :: x7 :: x8 :: x9 :: x10 :: x11 :: r) 11 = some x11 := atI_nat (j := 11) rfl
theorem at_12 {x0 x1 x2 x3 x4 x5 x6 x7 x8 x9 x10 x11 x12 : V} {r : List V} : atI (x0 :: x1 :: x2 :: x3 :: x4 :: x5 :: x6 :: x7 :: x8 :: x9 :: x10 :: x11 :: x12 :: r) 12 = some x12 := atI_nat (j := 12) rfl
theorem at_13 {x0 x1 x2 x3 x4 x5 x6 x7 x8 x9 x10 x11 x12 x13 : V} {r : List V} : atI (x0 :: x1 :: x2 :: x3 :: x4 :: x5 :: x6 :: x7 :: x8 :: x9 :: x10 :: x11 :: x12 :: x13 :: r) 13 = some x13 := atI_nat (j := 13) rfl
theorem at_14 {x0 x1 x2 x3 x4 x5 x6 x7 x8 x9 x10 x11 x12 x13 x14 : V} {r : List V} : atI (x0 :: x1 :: x2 :: x3 :: x4 :: x5 :: x6 :: x7 :: x8 :: x9 :: x10 :: x11 :: x12 :: x13 :: x14 :: r) 14 = some x14 := atI_nat (j := 14) rfl
theorem at_15 {x0 x1 x2 x3 x4 x5 x6 x7 x8 x9 x10 x11 x12 x13 x14 x15 : V} {r : List V} : atI (x0 :: x1 :: x2 :: x3 :: x4 :: x5 :: x6 :: x7 :: x8 :: x9 :: x10 :: x11 :: x12 :: x13 :: x14 :: x15 :: r) 15 = some x15 := atI_nat (j := 15) rfl
theorem c_mulL {i j : Int} (h1 : -18446744073709551616 < i) (h2 : i < 18446744073709551616) : CMul i j := Or.inl ⟨h1, h2⟩
theorem c_mulR {i j : Int} (h1 : -18446744073709551616 < j) (h2 : j < 18446744073709551616) : CMul i j := Or.inr ⟨h1, h2⟩
theorem c_mulB {i : Int} {c : Bool} : CMul i (if c then 1 else 0) := by cases c <;> exact Or.inr ⟨by decide, by decide⟩
theorem pow2_le {n m : Nat} (h : n ≤ m) : (2 : Int) ^ n ≤ 2 ^ m := by exact_mod_cast Nat.pow_le_pow_right (by decide : 0 < 2) h
theorem c_divW {i j : Int} (h : 0 < j) (h2 : j < 2 ^ 200) : CDivW i j := wide_div h (b := 200) (by omega) (by decide) (by decide)
theorem c_pow {i j : Int} (h : 0 ≤ j) (h1 : j ≤ 1000000) (h2 : i.natAbs < 2 ^ 64) : CPow i j := ⟨h, h1, h2⟩
/-- tracked -/
structure Dom (H : Hp) (a : Addr) : Prop where
  ex : ∃ o, H a = some o
theorem Dom.of {H : Hp} {a : Addr} {o : HO} (h : H a = some o) : Dom H a := ⟨o, h⟩
theorem Dom.at {S : List Addr} {H H1 : Hp} {a : Addr} (k : Kp S H H1) (h : Dom H a) (n : a ∉ S) : Dom H1 a := let ⟨o, e⟩ := h.ex; ⟨o, k _ _ e n⟩
theorem ne_dom {H : Hp} {a b : Addr} (h : Dom H a) (h' : H b = none) : a ≠ b := let ⟨_, e⟩ := h.ex; ne_of_none e h'
/-- a way put by: found by kp alone -/
structure KpC (S : List Addr) (H H1 : Hp) : Prop where
  k : Kp S H H1
theorem nm0 {a : Addr} : a ∉ ([] : List Addr) := fun h => nomatch h
theorem nm1 {a b : Addr} (h : a ≠ b) : a ∉ [b] := fun z => h (List.mem_singleton.mp z)
theorem nm2 {a b : Addr} {S : List Addr} (h : a ≠ b) (h2 : a ∉ S) : a ∉ b :: S := fun z => (List.mem_cons.mp z).elim h h2
theorem al0 {P : Addr → Prop} : ∀ x ∈ ([] : List Addr), P x := fun _ h => nomatch h
theorem al1 {P : Addr → Prop} {b : Addr} {S : List Addr} (h : P b) (h2 : ∀ x ∈ S, P x) : ∀ x ∈ b :: S, P x := fun x z => (List.mem_cons.mp z).elim (fun e => e ▸ h) (h2 x)
/-- a list of ints at hand, item by item -/
theorem ints_at {ns : List Int} {i : Nat} {x : V} (h : (ns.map V.int)[i]? = some x) : ∃ n, ns[i]? = some n ∧ x = .int n := by
  rw [List.getElem?_map] at h
  cases e : ns[i]? with
  | none => rw [e] at h; cases h
  | some n => rw [e] at h; exact ⟨n, rfl, (Option.some.inj h).symm⟩
theorem ints_get {ns : List Int} {i : Nat} {n : Int} (h : ns[i]? = some n) : (ns.map V.int)[i]? = some (.int n) := by rw [List.getElem?_map, h]; rfl
theorem ints_ix {ns : List Int} {j : Int} (h0 : 0 ≤ j) (h1 : j < ns.length) : ∃ n, ns[j.toNat]? = some n ∧ atI (ns.map V.int) j = some (.int n) := by
  obtain ⟨m, rfl⟩ : ∃ m : Nat, j = (m : Int) := ⟨j.toNat, (Int.toNat_of_nonneg h0).symm⟩
  have hl : m < ns.length := by omega
  rw [Int.toNat_natCast]
  exact ⟨ns[m], List.getElem?_eq_getElem hl, atI_nat (ints_get (List.getElem?_eq_getElem hl))⟩
theorem ints_flat : ∀ ns : List Int, (ns.map V.int).all flatV = true
  | [] => rfl
  | _ :: r => by rw [List.map_cons, List.all_cons, ints_flat r]; rfl
/-- a slice's items -/
def cutG {α : Type} (xs : List α) (lo hi : Option Int) : List α := (xs.drop (HT.sIx xs.length 0 lo)).take (HT.sIx xs.length xs.length hi - HT.sIx xs.length 0 lo)
theorem cut_map {α : Type} (f : α → V) (xs : List α) (lo hi : Option Int) : cutV (xs.map f) lo hi = (cutG xs lo hi).map f := by
  unfold cutV cutG
  rw [List.length_map, ← List.map_drop, ← List.map_take]
theorem cut_to {α : Type} (xs : List α) (k : Nat) : cutG xs none (some (k : Int)) = xs.take k := by
  unfold cutG
  rw [HT.sIx_none, HT.sIx_nat, List.drop_zero, Nat.sub_zero]
  by_cases h : k ≤ xs.length
  · rw [Nat.min_eq_left h]
  · rw [Nat.min_eq_right (by omega), List.take_length, List.take_of_length_le (by omega)]
theorem cut_from {α : Type} (xs : List α) (k : Nat) : cutG xs (some (k : Int)) none = xs.drop k := by
  unfold cutG
  rw [HT.sIx_none, HT.sIx_nat]
  by_cases h : k ≤ xs.length
  · rw [Nat.min_eq_left h, List.take_of_length_le (by rw [List.length_drop]; omega)]
  · rw [Nat.min_eq_right (by omega), List.drop_length, List.drop_eq_nil_of_le (by omega)]; exact List.take_nil
theorem sz_small {n : Nat} (h : n ≤ 100000) : n ≤ sizeLine := Nat.le_trans h (by decide)
theorem sz_less {n : Nat} (h : n < 100000) : n < sizeLine := Nat.lt_of_lt_of_le h (by decide)
theorem idx_le {x : Int} : ∀ {ns : List Int} {m : Nat}, ns[m]? = some x → ns.idxOf x ≤ m
  | [], m, h => by simp at h
  | a :: r, 0, h => by
    have e : a = x := Option.some.inj h
    rw [List.idxOf_cons, e]; simp
  | a :: r, m + 1, h => by
    have z := idx_le (ns := r) (m := m) h
    rw [List.idxOf_cons]
    cases (a == x)
    · exact Nat.succ_le_succ z
    · exact Nat.zero_le _
theorem ixN_nat {n j : Nat} (h : j < n) : ixN n ((j : Nat) : Int) = some j := by
  unfold ixN
  simp [h]
section
variable {σ : St} {H : Hp} {Q : VK} {K : PySem.W.Frag} {p : Addr} {ns : List Int} {x : Int} {D : Ends} {t : TT} {tb : TS}
theorem h_idx (h : SqL K H p (ns.map V.int)) (hx : x ∈ ns) (q : Q (.int ((ns.idxOf x : Nat) : Int)) H) : rIndex K (.ref p) [.int x] H Q := by
  have hl : ns.idxOf x < ns.length := List.idxOf_lt_length_of_mem hx
  refine ⟨p, ns.map V.int, .int x, ns.idxOf x, .int x, rfl, rfl, h, rfl, ints_flat ns, ?_, ?_, ?_, q⟩
  · rw [List.getElem?_map, List.getElem?_eq_getElem hl, List.getElem_idxOf hl]; rfl
  · show (x == x) = true
    exact beq_self_eq_true x
  · intro m z hm hz
    obtain ⟨n, hn, rfl⟩ := ints_at hz
    show (n == x) = false
    by_cases e : n = x
    · subst e
      exact absurd hm (Nat.not_lt_of_le (idx_le hn))
    · exact beq_false_of_ne e
theorem h_insert {xs : List V} {i : Int} {y : V} (h : H p = some (.lst xs)) (hl : xs.length < sizeLine) (h0 : 0 ≤ i) (h1 : i < 2 ^ 63) (q : ∀ H2, Kp [p] H H2 → H2 p = some (.lst (xs.take i.toNat ++ [y] ++ xs.drop i.toNat)) → Q .non H2) : rInsert (.ref p) [.int i, y] H Q :=
  ⟨p, xs, i, y, rfl, rfl, h, hl, h0, h1, q _ (Kp.refl.wr (List.mem_singleton.mpr rfl)) upd_same⟩
end
section
variable {H : Hp} {Q : VK} {K : PySem.W.Frag} {p p' : Addr} {ns ms : List Int}
theorem cut_toI {j : Int} (h : 0 ≤ j) : cutV (ns.map V.int) none (some j) = (ns.take j.toNat).map V.int := by
  have e : j = ((j.toNat : Nat) : Int) := (Int.toNat_of_nonneg h).symm
  rw [cut_map]
  conv => lhs; rw [e]
  rw [cut_to]
theorem cut_fromI {j : Int} (h : 0 ≤ j) : cutV (ns.map V.int) (some j) none = (ns.drop j.toNat).map V.int := by
  have e : j = ((j.toNat : Nat) : Int) := (Int.toNat_of_nonneg h).symm
  rw [cut_map]
  conv => lhs; rw [e]
  rw [cut_from]
theorem h_slTo {j : Int} (h : SqL K H p (ns.map V.int)) (h0 : 0 ≤ j) (q : ∀ l H2, H l = none → Kp [] H H2 → H2 l = some (.lst ((ns.take j.toNat).map V.int)) → Q (.ref l) H2) : rSlL K (.ref p) none (some j) H Q :=
  h_slL h fun l H2 a b c => q l H2 a b (by rw [c, cut_toI h0])
theorem h_slFrom {j : Int} (h : SqL K H p (ns.map V.int)) (h0 : 0 ≤ j) (q : ∀ l H2, H l = none → Kp [] H H2 → H2 l = some (.lst ((ns.drop j.toNat).map V.int)) → Q (.ref l) H2) : rSlL K (.ref p) (some j) none H Q :=
  h_slL h fun l H2 a b c => q l H2 a b (by rw [c, cut_fromI h0])
theorem h_catI (h : H p = some (.lst (ns.map V.int))) (h' : H p' = some (.lst (ms.map V.int))) (hl : ns.length + ms.length ≤ sizeLine) (q : ∀ l H2, H l = none → Kp [] H H2 → H2 l = some (.lst ((ns ++ ms).map V.int)) → Q (.ref l) H2) : rCat (.ref p) (.ref p') H Q :=
  h_cat h h' (by rw [List.length_map, List.length_map]; exact hl) fun l H2 a b c => q l H2 a b (by rw [c, List.map_append])
theorem h_catI1 {n : Int} (h : H p = some (.lst (ns.map V.int))) (h' : H p' = some (.lst [.int n])) (hl : ns.length + 1 ≤ sizeLine) (q : ∀ l H2, H l = none → Kp [] H H2 → H2 l = some (.lst ((ns ++ [n]).map V.int)) → Q (.ref l) H2) : rCat (.ref p) (.ref p') H Q :=
  h_cat h h' (by rw [List.length_map]; exact hl) fun l H2 a b c => q l H2 a b (by rw [c, List.map_append]; rfl)
theorem h_catI2 {n : Int} (h : H p = some (.lst [.int n])) (h' : H p' = some (.lst (ns.map V.int))) (hl : 1 + ns.length ≤ sizeLine) (q : ∀ l H2, H l = none → Kp [] H H2 → H2 l = some (.lst ((n :: ns).map V.int)) → Q (.ref l) H2) : rCat (.ref p) (.ref p') H Q :=
  h_cat h h' (by rw [List.length_map]; exact hl) fun l H2 a b c => q l H2 a b (by rw [c]; rfl)
theorem h_appendI {n : Int} (h : H p = some (.lst (ns.map V.int))) (hl : ns.length < sizeLine) (q : ∀ H2, Kp [p] H H2 → H2 p = some (.lst ((ns ++ [n]).map V.int)) → Q .non H2) : rAppend (.ref p) [.int n] H Q :=
  h_append h (by rw [List.length_map]; exact hl) fun H2 a b => q H2 a (by rw [b, List.map_append]; rfl)
theorem h_insertI {i n : Int} (h : H p = some (.lst (ns.map V.int))) (hl : ns.length < sizeLine) (h0 : 0 ≤ i) (h1 : i < 2 ^ 63) (q : ∀ H2, Kp [p] H H2 → H2 p = some (.lst ((ns.take i.toNat ++ [n] ++ ns.drop i.toNat).map V.int)) → Q .non H2) : rInsert (.ref p) [.int i, .int n] H Q :=
  h_insert h (by rw [List.length_map]; exact hl) h0 h1 fun H2 a b => q H2 a (by rw [b, List.map_append, List.map_append, List.map_take, List.map_drop]; rfl)
theorem h_setLI {QH : Hp → Prop} {k n : Int} {j : Nat} (h : H p = some (.lst (ns.map V.int))) (e : ixN ns.length k = some j) (q : ∀ H2, Kp [p] H H2 → H2 p = some (.lst ((ns.set j n).map V.int)) → QH H2) : rSetL (.ref p) (.int k) (.int n) H QH :=
  h_setL h (by rw [List.length_map]; exact e) fun H2 a b => q H2 a (by rw [b, List.map_set])
theorem ixN_lit {n j : Nat} {k : Int} (e : k = (j : Nat)) (h : j < n) : ixN n k = some j := by subst e; exact ixN_nat h
theorem h_all {bs : List Bool} (h : SqL K H p (bs.map V.bl)) (q : Q (.bl (bs.all id)) H) : rAll K [.ref p] H Q := ⟨p, bs, rfl, h, q⟩
theorem h_any {bs : List Bool} (h : SqL K H p (bs.map V.bl)) (q : Q (.bl (bs.any id)) H) : rAny K [.ref p] H Q := ⟨p, bs, rfl, h, q⟩
end
end NN
/-! own rule: a star among targets -/
namespace NN
open PySem L2
def gStar (K : PySem.W.Frag) (n i : Nat) (t : TGs) : TG := fun v σ H Q => ∃ a xs, v = .ref a ∧ SqL K H a xs ∧ n ≤ xs.length + 1 ∧ xs.length ≤ 10000 ∧
  ∀ D, H D = none → t (xs.take i ++ [.ref D] ++ (xs.drop i).drop (xs.length + 1 - n)) σ (upd H D (.lst ((xs.drop i).take (xs.length + 1 - n)))) Q
theorem got {P : Program} {w : World} {H : Hp} {h : Heap} {a : Addr} : ∀ {o : HO}, ObjOk P w H h a o → ∃ ob, h.get? a = some ob
  | .lst _, ⟨_, _, _, _, e⟩ => ⟨_, e⟩
  | .tup _, ⟨_, _, _, ob, e, _⟩ => ⟨ob, e⟩
  | .dK _, ⟨_, _, _, _, ob, _, _, e, _⟩ => ⟨ob, e⟩
  | .dT _, ⟨_, _, _, _, ob, _, _, e, _⟩ => ⟨ob, e⟩
  | .set _ _, ⟨ob, _, _, _, e, _⟩ => ⟨ob, e⟩
  | .ins _ _ _, ⟨_, _, _, e, _⟩ => ⟨_, e⟩
  | .own _, ⟨ob, e⟩ => ⟨ob, e⟩
  | .xd _, ⟨_, ⟨ob, _, _, e, _⟩, _⟩ => ⟨ob, e⟩
  | .rng _ _, ⟨_, _, _, e⟩ => ⟨_, e⟩
  | .frz _ _, ⟨e, _⟩ => ⟨_, e⟩
  | .tbl _, e => ⟨_, e⟩
  | .met _ _, e => ⟨_, e⟩
  | .ext _, ⟨_, ⟨ob, e⟩, _⟩ => ⟨ob, e⟩
section
variable {X : Cx} {pos : Pos}
theorem pgs_star {e : Expr} {p : Pos} {es : List Expr} {t : TG} {u : TGs} (h1 : PG X e t) (h2 : PGs X es u)
    (hs : (assignEach (.Starred e p :: es) X.env).map (·.2) = assign e X.env :: (assignEach es X.env).map (·.2) := by rfl) : PGs X (.Starred e p :: es) (gCons t u) := by
  refine ⟨fun pins s σ H vs us Q I r h => ?_⟩
  obtain ⟨v, vr, e1, h⟩ := h
  subst e1
  cases r with
  | cons r rr =>
    rw [hs]
    refine PyProof.Rows.assignInOrder_cons (thn (h1.run pins s σ H _ _ _ I r h) fun _ s1 ⟨σ1, H1, I1, q1⟩ => ?_)
    exact h2.run pins s1 σ1 H1 _ _ Q I1 rr q1
theorem pg_star {es : List Expr} {k : Nat} {t : TGs} {n i : Nat} (hc : X.calm = true) (h : PGs X es t) (hi : i < n)
    (hn : (assignEach es X.env).length = n := by rfl) (hst : (assignEach es X.env).findIdx? (·.1) = some i := by rfl) : PG X (.Tuple es k pos) (gStar X.K n i t) := by
  refine ⟨fun pins s σ H v u Q I r hw => ?_⟩
  obtain ⟨a, xs, e1, hq, hl, hz, hw⟩ := hw
  subst e1
  cases r
  obtain ⟨its, rv, pl, _⟩ := I.list hq
  have hl' : s.heap.IsList a its.toArray := by
    obtain ⟨o, m, e, c, d, q⟩ := pl
    exact ⟨o, e, c, m, q⟩
  have elen : its.toArray.size = xs.length := by rw [rv.length]; simp
  obtain ⟨m, F⟩ := I.fr
  refine PySem.W.kun_assignL (n := n) (i := i) F (news_all (g := X.base) (L := X.env.locals)) hl' (I.ok.hd hc) hn hst hi (by rw [elen]; exact hl) (by rw [elen]; omega) rfl rfl rfl fun D h' tk F' N' hD => ?_
  have hDp := N' (D, _) List.mem_cons_self
  have kept : ∀ b o, b ≠ X.env.locals → s.heap.get? b = some o → h'.get? b = some o := fun b o hb e => by
    cases q : X.base.get? b with
    | some o2 =>
      have z := I.bk b o2 q
      rw [e] at z; cases z
      exact F'.keep b _ q
    | none => exact (N' (b, o) (List.mem_cons_of_mem _ (mem_allNews hb q e))).1
  have newD : s.heap.get? D = none := by
    cases q : s.heap.get? D with
    | none => rfl
    | some o => exact absurd (hD (D, o) (mem_allNews hDp.2.1 hDp.2.2 q)) (Nat.lt_irrefl _)
  have HD : H D = none := by
    cases q : H D with
    | none => rfl
    | some o =>
      obtain ⟨oo, eo⟩ := got (I.hok D o q)
      rw [newD] at eo; cases eo
  have nD : ∀ b o, s.heap.get? b = some o → b ≠ D := fun b o e z => by rw [z, newD] at e; cases e
  have nL : ∀ b o, H b = some o → b ≠ X.env.locals := fun b o e z => by rw [z, I.free] at e; cases e
  have tkd : ∀ b o, H b = some o → upd H D (.lst ((xs.drop i).take (xs.length + 1 - n))) b = some o := fun b o e => by rw [upd_ne (ne_of_none e HD)]; exact e
  have hok : HOk X.prog X.w (upd H D (.lst ((xs.drop i).take (xs.length + 1 - n)))) h' := fun b o e => by
    by_cases hb : b = D
    · subst hb
      rw [upd_same] at e; cases e
      refine ⟨?_, _, 0, ?_, hDp.1⟩
      · rw [List.length_take, List.length_drop]; exact sz_small (by omega)
      · rw [elen]
        exact (rv.drop i).take _
    · rw [upd_ne hb] at e
      refine (I.hok b o e).stay (fun c w hc' q => kept c w ?_ q) (fun c q => tkd c _ q) fun c ys q => tkd c _ q
      rcases hc' with z | z
      · rw [z]; exact nL b o e
      · exact nL c _ z
  have I1 : Inv X pins σ (upd H D (.lst ((xs.drop i).take (xs.length + 1 - n)))) { s with heap := h', toks := tk } := by
    refine I.step (g' := s.gens) (d' := s.drawn) (ch := []) (fun _ z => nomatch z) (fun b o hb _ _ e _ => kept b o hb e) (fun b o hb _ _ e _ => ⟨o.slots, kept b o hb e⟩)
      (fun b o _ e n => by rw [upd_ne (nD b o e)]; exact n) (fun b o _ e => ?_) (fun b ys e => tkd b _ e) (fun b o u e => tkd b _ e) (fun b ps e => ⟨#[], by rw [tkd b _ e]; simp⟩) (fun m' hm' => ?_) hok I.bare
    · by_cases hb : b = X.env.locals
      · obtain ⟨o', _, _, e', _⟩ := F'.ns
        exact ⟨o', by rw [hb]; exact e'⟩
      · exact ⟨o, kept b o hb e⟩
    · have em : m' = m := by
        obtain ⟨o1, es1, ep1, q1, d1, _, f1⟩ := hm'
        obtain ⟨o2, es2, ep2, q2, d2, _, f2⟩ := F.ns
        rw [q1] at q2; cases q2
        rw [d1] at d2
        injection d2 with d2 _
        subst d2
        funext x
        exact (f1 x).symm.trans (f2 x)
      rw [em]; exact F'.ns
  have rv2 : Vals (xs.take i ++ [.ref D] ++ (xs.drop i).drop (xs.length + 1 - n)) (its.toArray.toList.take i ++ [.ref D] ++ (its.toArray.toList.drop i).drop (its.toArray.size + 1 - n)) := by
    rw [elen]
    exact ((rv.take i).append (.cons (show RelV (.ref D) (.ref D) from rfl) .nil)).append ((rv.drop i).drop _)
  exact h.run pins _ σ _ _ _ Q I1 rv2 (hw D HD)
end
instance p_gNil {σ : St} {H : Hp} {QS : St → Hp → Prop} : Stp (gNil [] σ H QS) (QS σ H) := ⟨fun q => ⟨rfl, q⟩⟩
instance p_gCons {σ : St} {H : Hp} {QS : St → Hp → Prop} {v : V} {r : List V} {t : TG} {u : TGs} : Stp (gCons t u (v :: r) σ H QS) (t v σ H fun σ' H' => u r σ' H' QS) := ⟨fun q => ⟨v, r, rfl, q⟩⟩
section
variable {K : PySem.W.Frag} {σ : St} {H : Hp} {QS : St → Hp → Prop} {p : Addr} {ns : List Int} {t : TGs}
/-- *ahead, last = a list of ints -/
theorem h_starLast {f : Int} (h : SqL K H p ((ns ++ [f]).map V.int)) (hl : ns.length < 9999) (q : ∀ D H2, H D = none → Kp [] H H2 → H2 D = some (.lst (ns.map V.int)) → t [.ref D, .int f] σ H2 QS) : gStar K 2 0 t (.ref p) σ H QS := by
  refine ⟨p, _, rfl, h, by simp, by simp; omega, fun D hD => ?_⟩
  have e1 : (((ns ++ [f]).map V.int).drop 0).drop (((ns ++ [f]).map V.int).length + 1 - 2) = [.int f] := by simp
  have e2 : (((ns ++ [f]).map V.int).drop 0).take (((ns ++ [f]).map V.int).length + 1 - 2) = ns.map V.int := by simp
  rw [e1, e2]
  exact q D _ hD (Kp.refl.new hD) upd_same
end
end NN
/-! own: data at any depth, held against each other -/
namespace NN
open PySem L2
/-- data that may be compared, of at most that depth -/
def Sh (n : Nat) (d : PyData) : Prop := d.canLay0 = true ∧ d.depth ≤ n
def ShA (n : Nat) (ds : List PyData) : Prop := PyData.canLayAll0 ds = true ∧ PyData.depthAll ds ≤ n
theorem Sh.non {n : Nat} : Sh n .none := ⟨rfl, Nat.zero_le _⟩
theorem Sh.int {n : Nat} {i : Int} : Sh n (.int i) := ⟨rfl, Nat.zero_le _⟩
theorem Sh.bool {n : Nat} {b : Bool} : Sh n (.bool b) := ⟨rfl, Nat.zero_le _⟩
theorem Sh.list {n : Nat} {ds : List PyData} (h : ShA n ds) : Sh (n + 1) (.list ds) := ⟨h.1, Nat.succ_le_succ h.2⟩
theorem Sh.tuple {n : Nat} {ds : List PyData} (h : ShA n ds) : Sh (n + 1) (.tuple ds) := ⟨h.1, Nat.succ_le_succ h.2⟩
theorem ShA.nil {n : Nat} : ShA n [] := ⟨rfl, Nat.zero_le _⟩
theorem ShA.cons {n : Nat} {d : PyData} {ds : List PyData} (h : Sh n d) (h2 : ShA n ds) : ShA n (d :: ds) := by
  refine ⟨?_, Nat.max_le.mpr ⟨h.2, h2.2⟩⟩
  show (d.canLay0 && PyData.canLayAll0 ds) = true
  rw [h.1, h2.1]; rfl
theorem ShA.all {n : Nat} {α : Type} {f : α → PyData} : ∀ {xs : List α}, (∀ x ∈ xs, Sh n (f x)) → ShA n (xs.map f)
  | [], _ => .nil
  | x :: r, h => .cons (h x List.mem_cons_self) (ShA.all fun y hy => h y (List.mem_cons_of_mem _ hy))
theorem ShA.ints {n : Nat} {ns : List Int} : ShA n (ns.map PyData.int) := .all fun _ _ => .int
theorem Sh.shaped {n : Nat} {d : PyData} (h : Sh n d) (hn : n ≤ 64) : SeqAt.shaped d = true := by
  unfold SeqAt.shaped
  rw [h.1, decide_eq_true (Nat.le_trans h.2 hn)]; rfl
theorem Sh.mono {n m : Nat} {d : PyData} (h : Sh n d) (hn : n ≤ m) : Sh m d := ⟨h.1, Nat.le_trans h.2 hn⟩
/-! no bools, no dicts: equal where the data are the same -/
mutual
def noB : PyData → Bool
  | .none => true
  | .bool _ => false
  | .int _ => true
  | .str _ => true
  | .list xs => noBA xs
  | .tuple xs => noBA xs
  | .dict _ => false
def noBA : List PyData → Bool
  | [] => true
  | x :: xs => noB x && noBA xs
end
mutual
theorem eqv_eq : ∀ d e : PyData, noB d = true → noB e = true → PyData.eqv d e = true → d = e
  | .none, e, _, he, h => by cases e <;> simp_all [PyData.eqv, noB]
  | .bool _, _, h, _, _ => nomatch h
  | .int i, e, _, he, h => by cases e <;> simp_all [PyData.eqv, noB]
  | .str x, e, _, he, h => by cases e <;> simp_all [PyData.eqv, noB]
  | .list xs, e, hd, he, h => by
    cases e with
    | list ys =>
      rw [PyData.eqv] at h
      rw [eqvAll_eq' xs ys hd he h]
    | _ => simp_all [PyData.eqv, noB]
  | .tuple xs, e, hd, he, h => by
    cases e with
    | tuple ys =>
      rw [PyData.eqv] at h
      rw [eqvAll_eq' xs ys hd he h]
    | _ => simp_all [PyData.eqv, noB]
  | .dict _, _, h, _, _ => nomatch h
theorem eqvAll_eq' : ∀ ds es : List PyData, noBA ds = true → noBA es = true → PyData.eqvAll ds es = true → ds = es
  | [], [], _, _, _ => rfl
  | [], _ :: _, _, _, h => nomatch h
  | _ :: _, [], _, _, h => nomatch h
  | d :: ds, e :: es, hd, he, h => by
    have h1 : PyData.eqv d e = true ∧ PyData.eqvAll ds es = true := by simpa [PyData.eqvAll] using h
    have h2 : noB d = true ∧ noBA ds = true := by simpa [noBA] using hd
    have h3 : noB e = true ∧ noBA es = true := by simpa [noBA] using he
    rw [eqv_eq d e h2.1 h3.1 h1.1, eqvAll_eq' ds es h2.2 h3.2 h1.2]
end
theorem noBA.ints : ∀ ns : List Int, noBA (ns.map PyData.int) = true
  | [] => rfl
  | _ :: r => by
    show (true && noBA (r.map PyData.int)) = true
    rw [noBA.ints r]; rfl
open Classical in
/-- ==, != of data -/
theorem eqv_dec {n : Nat} {d e : PyData} (h : Sh n d) (hd : noB d = true) (he : noB e = true) : PyData.eqv d e = decide (d = e) := by
  by_cases q : d = e
  · subst q; rw [decide_eq_true rfl]; exact PySem.SeqAt.eqv_refl d h.1
  · rw [decide_eq_false q]
    cases z : PyData.eqv d e with
    | false => rfl
    | true => exact absurd (eqv_eq d e hd he z) q
section
variable {K : PySem.W.Frag} {H : Hp} {Q : VK} {x y : V} {d e : PyData} {n m : Nat} {p : Addr} {ns : List Int}
theorem dp_ints (h : SqL K H p (ns.map V.int)) : Dp K H (.ref p) (.list (ns.map PyData.int)) := .lst h (by
  clear h
  induction ns with
  | nil => exact .nil
  | cons i r ih => exact .cons (.int i) ih)
/-- equal ones -/
theorem d_eqT (hx : Dp K H x d) (hy : Dp K H y d) (s1 : Sh n d) (hn : n ≤ 64) (q : Q (.bl true) H) : rEqD K x y H Q :=
  ⟨d, d, hx, hy, s1.shaped hn, s1.shaped hn, by rw [PySem.SeqAt.eqv_refl d s1.1]; exact q⟩
theorem d_neF (hx : Dp K H x d) (hy : Dp K H y d) (s1 : Sh n d) (hn : n ≤ 64) (q : Q (.bl false) H) : rNeD K x y H Q :=
  ⟨d, d, hx, hy, s1.shaped hn, s1.shaped hn, by rw [PySem.SeqAt.eqv_refl d s1.1]; exact q⟩
open Classical in
theorem d_eq (hx : Dp K H x d) (hy : Dp K H y e) (s1 : Sh n d) (s2 : Sh m e) (hn : n ≤ 64) (hm : m ≤ 64) (hd : noB d = true) (he : noB e = true) (q : Q (.bl (decide (d = e))) H) : rEqD K x y H Q :=
  ⟨d, e, hx, hy, s1.shaped hn, s2.shaped hm, by rw [eqv_dec s1 hd he]; exact q⟩
open Classical in
theorem d_ne (hx : Dp K H x d) (hy : Dp K H y e) (s1 : Sh n d) (s2 : Sh m e) (hn : n ≤ 64) (hm : m ≤ 64) (hd : noB d = true) (he : noB e = true) (q : Q (.bl (!decide (d = e))) H) : rNeD K x y H Q :=
  ⟨d, e, hx, hy, s1.shaped hn, s2.shaped hm, by rw [eqv_dec s1 hd he]; exact q⟩
theorem ints_inj : ∀ {ns ms : List Int}, ns.map PyData.int = ms.map PyData.int → ns = ms
  | [], [], _ => rfl
  | [], _ :: _, h => nomatch h
  | _ :: _, [], h => nomatch h
  | a :: r, b :: t, h => by
    injection h with h1 h2
    injection h1 with h1
    rw [h1, ints_inj h2]
/-- two lists of ints -/
theorem d_eqI {ms : List Int} {p' : Addr} (hx : SqL K H p (ns.map V.int)) (hy : SqL K H p' (ms.map V.int)) (q : Q (.bl (decide (ns = ms))) H) : rEqD K (.ref p) (.ref p') H Q :=
  ⟨_, _, dp_ints hx, dp_ints hy, (Sh.list (n := 0) .ints).shaped (by decide), (Sh.list (n := 0) .ints).shaped (by decide), by
    have e : PyData.eqv (.list (ns.map PyData.int)) (.list (ms.map PyData.int)) = decide (ns = ms) := by
      by_cases h : ns = ms
      · subst h; rw [decide_eq_true rfl]; exact PySem.SeqAt.eqv_refl _ (Sh.list (n := 0) .ints).1
      · rw [decide_eq_false h]
        cases z : PyData.eqv (.list (ns.map PyData.int)) (.list (ms.map PyData.int)) with
        | false => rfl
        | true =>
          have z2 := eqv_eq (.list (ns.map PyData.int)) (.list (ms.map PyData.int)) (noBA.ints ns) (noBA.ints ms) z
          injection z2 with z2
          exact absurd (ints_inj z2) h
    rw [e]; exact q⟩
theorem d_neI {ms : List Int} {p' : Addr} (hx : SqL K H p (ns.map V.int)) (hy : SqL K H p' (ms.map V.int)) (q : Q (.bl (!decide (ns = ms))) H) : rNeD K (.ref p) (.ref p') H Q := by
  have z : rEqD K (.ref p) (.ref p') H (fun v H' => v = .bl (decide (ns = ms)) ∧ H' = H) := d_eqI hx hy ⟨rfl, rfl⟩
  obtain ⟨d, e, h1, h2, h3, h4, h5, _⟩ := z
  injection h5 with h5
  exact ⟨d, e, h1, h2, h3, h4, by rw [h5]; exact q⟩
theorem inV_int {i : Int} : ∀ {ms : List Int}, inV (.int i) (ms.map V.int) = decide (i ∈ ms)
  | [] => (decide_eq_false (fun z => nomatch z)).symm
  | m :: r => by
    show (eqV (.int m) (.int i) || inV (.int i) (r.map V.int)) = _
    rw [inV_int]
    show ((m == i) || decide (i ∈ r)) = _
    by_cases h : m = i
    · subst h; simp
    · by_cases h2 : i ∈ r
      · simp [h2]
      · have : i ≠ m := fun z => h z.symm
        simp [h, h2, this]
end
section
variable {K : PySem.W.Frag} {H : Hp} {Q : VK} {x : V}
/-- isinstance of a built-in class -/
theorem isi {t n : String} {b : Bool} (h : TyX K H x (.type t)) (e : kitB t n = some b) (q : Q (.bl b) H) : rIsi K [x, .ty n] H Q := ⟨x, .ty n, _, _, b, rfl, .ty n, h, kit_ty e, q⟩
end
end NN
/-! own: calls of any shape (places, keywords, defaults), of defs, methods, classes -/
namespace NN
open PySem L2
/-- where a parameter's value comes from -/
inductive Src where
  | pos (i : Nat) | kw (i : Nat) | dfl (i : Nat) | kwd (i : Nat)
def consO {α : Type} : Option α → List α → List α
  | none, l => l
  | some x, l => x :: l
def srcAt {α : Type} (us ws its kv : List α) : Src → Option α
  | .pos i => us[i]? | .kw i => ws[i]? | .dfl i => its[i]? | .kwd i => kv[i]?
def plan {α : Type} (us ws its kv : List α) : List Src → List α
  | [] => []
  | c :: l => consO (srcAt us ws its kv c) (plan us ws its kv l)
theorem consO_rel {xs : List V} {ys : List Value} {A : List V} {B : List Value} (i : Nat) (q : Vals xs ys) (h : Vals A B) : Vals (consO xs[i]? A) (consO ys[i]? B) := by
  cases e : xs[i]? with
  | none => rw [q.none_of e]; exact h
  | some z =>
    obtain ⟨u, e2, r2⟩ := q.get e
    rw [e2]
    exact .cons r2 h
theorem plan_rel (pl : List Src) {vs zs ds ks : List V} {us ws its kv : List Value} (r : Vals vs us) (rz : Vals zs ws) (rd : Vals ds its) (rk : Vals ks kv) : Vals (plan vs zs ds ks pl) (plan us ws its kv pl) := by
  induction pl with
  | nil => exact .nil
  | cons c l ih =>
    cases c with
    | pos i => exact consO_rel i r ih
    | kw i => exact consO_rel i rz ih
    | dfl i => exact consO_rel i rd ih
    | kwd i => exact consO_rel i rk ih
/-- how a call with n places and keywords ks binds -/
def CallB (K : PySem.W.Frag) (fd : FuncData) (ps : List Str) (n : Nat) (ks : List Str) (pl : List Src) (dvs kvs : List V) : Prop :=
  ∀ (s : Shared) (us ws : List Value) (vs zs : List V), K.In s.heap → us.length = n → ws.length = ks.length → Vals vs us → Vals zs ws →
    ∃ args : List Value, Vals (plan vs zs dvs kvs pl) args ∧ BindsTo s fd ⟨us, ks.zip ws⟩ (ps.zip args)
section
variable {K : PySem.W.Frag} {x qual : Str} {params : Arguments} {body : List Stmt} {scope : Scope} {dvs : List V} {kws : List (Str × V)} {f : Addr} {fd : FuncData} {ps ks : List Str} {pl : List Src} {n : Nat}
/-- no default is asked -/
theorem callb_p (F : FunD K x qual params body scope [] kws f fd)
    (h : ∀ (kV doc pm : Value) (an : Option Addr) (cdv ct : Value) (us ws : List Value), us.length = n → ws.length = ks.length → bindArgs (PySem.W.fnOf x qual params body scope .none kV doc pm an cdv ct) ⟨us, ks.zip ws⟩ = pure (ps.zip (plan us ws [] [] pl))) : CallB K fd ps n ks pl [] [] := fun s us ws vs zs X hn hm r rz => by
  obtain ⟨oc, od, dV, kV, doc, pm, an, cdv, ct, osl, rfl, lk, hcd, hD, hK⟩ := F.ex
  rcases hD with ⟨_, rfl⟩ | ⟨e, _⟩
  · exact ⟨_, plan_rel pl r rz .nil .nil, .of_eq (h kV doc pm an cdv ct us ws hn hm)⟩
  · exact absurd rfl e
/-- defaults of the places -/
theorem callb_d (F : FunD K x qual params body scope dvs kws f fd) (hd : dvs ≠ [])
    (h : ∀ (T : Addr) (kV doc pm : Value) (an : Option Addr) (cdv ct : Value) (us ws its : List Value), us.length = n → ws.length = ks.length → its.length = dvs.length →
      ∃ k, bindArgs (PySem.W.fnOf x qual params body scope (.ref T) kV doc pm an cdv ct) ⟨us, ks.zip ws⟩ = seqItems? (.ref T) >>= k ∧ k (some its.toArray) = pure (ps.zip (plan us ws its [] pl))) : CallB K fd ps n ks pl dvs [] := fun s us ws vs zs X hn hm r rz => by
  obtain ⟨oc, od, dV, kV, doc, pm, an, cdv, ct, osl, rfl, lk, hcd, hD, hK⟩ := F.ex
  rcases hD with ⟨e, _⟩ | ⟨_, T, o, its, m, rfl, lT, oT, rT⟩
  · exact absurd e hd
  · obtain ⟨k, e1, e2⟩ := h T kV doc pm an cdv ct us ws its hn hm rT.length.symm
    refine ⟨_, plan_rel pl r rz rT .nil, L2.BindsTo.of_looks fun M => ?_⟩
    rw [e1]
    exact looks_items X lT oT (.of_pure e2)
end
section
variable {X : Cx} {CX : CXT} {k : Nat} {f C : Addr} {fd : FuncData} {ps ks : List Str} {pl : List Src} {dvs kvs : List V} {n : Nat} {sp : Sp} {x m : Str} {p pos apos : Pos} {e o : Expr} {es : List Expr} {kws : List Keyword} {ta : TE} {t tk : TA} {E : St → XK}
/-- the arguments of a call -/
structure PAr (X : Cx) (pos : Pos) (es : List Expr) (kws : List Keyword) (ks : List Str) (t tk : TA) : Prop where
  run : ∀ (pins : List (Addr × Obj)) (s : Shared) (σ : St) (H : Hp) (f : Value) (first : List Value) (R : List V → List V → Hp → Prop) (Q : Value → Shared → Prop), PySem.W.keepIn X.K f = true → Inv X pins σ H s → (t σ H fun vs H1 => tk σ H1 fun zs H2 => R vs zs H2) →
    (∀ us ws vs zs H2 s2, Inv X pins σ H2 s2 → Vals vs us → Vals zs ws → R vs zs H2 → wpAny (model X.prog X.w) X.A (call f (first ++ us) (ks.zip ws)) Q X.xe s2) →
    wpAny (model X.prog X.w) X.A (callWith pos f first (backTo pos (starEach es X.env)) (backToKw pos (keywordEach kws X.env))) Q X.xe s
theorem par_pos (ha : PA X (e :: es) t) (he : starEach (e :: es) X.env = (false, eval e X.env) :: starEach es X.env := by rfl) (hpl : (backTo pos (starEach es X.env)).any (·.1) = false := by rfl) : PAr X pos (e :: es) [] [] t tNil :=
  ⟨fun pins s σ H f first R Q hk I h run => PySem.W.callWith_K (h₀ := X.base) I.ok.mod.kin hk (thn (ha.run pos pins s σ H _ I h) fun us s1 ⟨vs, H1, I1, r, q⟩ => ⟨I1.kIn, run us [] vs [] H1 s1 I1 r .nil q⟩) he hpl⟩
theorem par_0 : PAr X pos [] [] [] tNil tNil :=
  ⟨fun pins s σ H f first R Q hk I h run => PySem.W.callWith_K0 I.kIn hk (run [] [] [] [] H s I .nil .nil h)⟩
theorem par_kw (hkw : PK X kws tk) (hall : (backToKw pos (keywordEach kws X.env)).all (·.1.isSome) = true := by rfl) (hks : (backToKw pos (keywordEach kws X.env)).filterMap (·.1) = ks := by rfl)
    (hpl : (backToKw pos (keywordEach kws X.env)).any (·.1.isNone) = false := by rfl) : PAr X pos [] kws ks tNil tk :=
  ⟨fun pins s σ H f first R Q hk I h run => PySem.W.callWith_KW0 (h₀ := X.base) I.ok.mod.kin hk hall (thn (hkw.run pos pins s σ H _ I h) fun ws s2 ⟨zs, H2, I2, rz, q⟩ => ⟨I2.kIn, by rw [hks]; exact run [] ws [] zs H2 s2 I2 .nil rz q⟩) hpl⟩
theorem par_both (ha : PA X (e :: es) t) (hkw : PK X kws tk) (hall : (backToKw pos (keywordEach kws X.env)).all (·.1.isSome) = true := by rfl) (hks : (backToKw pos (keywordEach kws X.env)).filterMap (·.1) = ks := by rfl)
    (he : starEach (e :: es) X.env = (false, eval e X.env) :: starEach es X.env := by rfl) (hpl : ((backTo pos (starEach (e :: es) X.env)).any (·.1) || (backToKw pos (keywordEach kws X.env)).any (·.1.isNone)) = false := by rfl) : PAr X pos (e :: es) kws ks t tk :=
  ⟨fun pins s σ H f first R Q hk I h run => PySem.W.callWith_KW (h₀ := X.base) I.ok.mod.kin hk hall (thn (ha.run pos pins s σ H _ I h) fun us s1 ⟨vs, H1, I1, r, q⟩ =>
    thn (hkw.run pos pins s1 σ H1 _ I1 q) fun ws s2 ⟨zs, H2, I2, rz, q2⟩ => ⟨I2.kIn, by rw [hks]; exact run us ws vs zs H2 s2 I2 r rz q2⟩) hpl he⟩
/-- the callee runs -/
theorem run_c {pins : List (Addr × Obj)} {σ : St} {H : Hp} {s : Shared} {Q : VK} {us ws : List Value} {vs zs : List V} {E : XK} (F : FnOk X.prog X.w X.K X.mg X.base CX k f fd ps sp) (hr : Room k X.A) (hb : CallB X.K fd ps n ks pl dvs kvs) (hx : PassesAt CX X σ E)
    (I : Inv X pins σ H s) (r : Vals vs us) (rz : Vals zs ws) (hn : vs.length = n) (hm : zs.length = ks.length) (h : sp (plan vs zs dvs kvs pl) H Q E) : wpAny (model X.prog X.w) X.A (call (.ref f) us (ks.zip ws)) (EP X pins σ Q) X.xe s := by
  obtain ⟨args, ra, b⟩ := hb s us ws vs zs I.kIn (r.length.symm.trans hn) (rz.length.symm.trans hm) r rz
  refine wpAny_call (codeAny_mono (F.run X.A X.stack s H ⟨us, ks.zip ws⟩ args _ Q E hr I.env0 b ra h) fun r s' hq => ?_)
  cases r with
  | error e => exact hx pins H s e s' I hq
  | ok fl =>
    cases fl with
    | ret u => exact I.after hq
    | next => exact False.elim hq
    | brk => exact False.elim hq
    | cont => exact False.elim hq
def tCl (sp : Sp) (pl : List Src) (dvs kvs : List V) (n m : Nat) (E : St → XK) (t tk : TA) : TE := fun σ H Q => t σ H fun vs H1 => tk σ H1 fun zs H2 => vs.length = n ∧ zs.length = m ∧ sp (plan vs zs dvs kvs pl) H2 Q (E σ)
theorem pe_cl (F : FnOk X.prog X.w X.K X.mg X.base CX k f fd ps sp) (hr : Room k X.A) (hg : Gl X x) (hm : X.mg x = some (.ref f)) (hk : PySem.W.keepIn X.K (.ref f) = true) (hb : CallB X.K fd ps n ks pl dvs kvs) (hx : ∀ σ, PassesAt CX X σ (E σ))
    (ha : PAr X pos es kws ks t tk) (hdb : (x == ("__debug__" : Str)) = false := by decide) : PE X (.Call (.Name x p) es kws pos) (tCl sp pl dvs kvs n ks.length E t tk) := by
  refine ⟨fun pins s σ H Q I h => ?_⟩
  refine wpAny_Call_Name_kw (ld_glob I hg hm ?_ hdb)
  exact ha.run pins s σ H _ [] _ _ hk I h fun us ws vs zs H2 s2 I2 r rz ⟨q1, q2, q3⟩ => run_c F hr hb (hx σ) I2 r rz q1 q2 q3
/-- o.m(..) -/
def tMe (C : Addr) (m : Str) (sp : Sp) (pl : List Src) (dvs kvs : List V) (n l : Nat) (E : St → XK) (ta : TE) (t tk : TA) : TE := fun σ H Q => ta σ H fun x H1 => ∃ a dx fs, x = .ref a ∧ H1 a = some (.ins C dx fs) ∧ fs.lookup m = none ∧
  t σ H1 fun vs H2 => tk σ H2 fun zs H3 => vs.length + 1 = n ∧ zs.length = l ∧ sp (plan (x :: vs) zs dvs kvs pl) H3 Q (E σ)
theorem pe_me {pl' : Sem Bool} (he : PE X o ta) (c : Cls X.K C) (hm : Meth X.K C m f) (F : FnOk X.prog X.w X.K X.mg X.base CX k f fd ps sp) (hr : Room k X.A) (hb : CallB X.K fd ps n ks pl dvs kvs) (hx : ∀ σ, PassesAt CX X σ (E σ))
    (ha : PAr X pos es kws ks t tk)
    (ht : eval (.Call (.Attribute o m apos) es kws pos) X.env = (do
      let ov ← eval o X.env
      standAt apos.atName
      let (f, first) ← holding [ov] (getMethod ov m pl')
      callWith pos f first (backTo pos (starEach es X.env)) (backToKw pos (keywordEach kws X.env))) := by rfl) :
    PE X (.Call (.Attribute o m apos) es kws pos) (tMe C m sp pl dvs kvs n ks.length E ta t tk) := by
  refine ⟨fun pins s σ H Q I h => ?_⟩
  refine PySem.W.methodCall_KW (pl := pl') (thn (he.run pins s σ H _ I h) fun u s1 ⟨x, H1, I1, rx, a, dx, fs, ex, ea, l, q⟩ => ?_) ht
  subst ex
  obtain rfl : u = Value.ref a := rx
  refine getmeth_ok I1 ea c hm l ?_
  exact ha.run pins s1 σ H1 _ [.ref a] _ _ hm.kp I1 q fun us ws vs zs H2 s2 I2 r rz ⟨q1, q2, q3⟩ => run_c F hr hb (hx σ) I2 (.cons (show RelV (.ref a) (.ref a) from rfl) r) rz q1 q2 q3
/-- C(..) -/
def tMk (C : Addr) (sp : Sp) (pl : List Src) (dvs kvs : List V) (n l : Nat) (E : St → XK) (t tk : TA) : TE := fun σ H Q => t σ H fun vs H1 => tk σ H1 fun zs H2 => vs.length + 1 = n ∧ zs.length = l ∧ ∀ x dx, H2 x = none → H2 dx = none → dx ≠ x →
  sp (plan (.ref x :: vs) zs dvs kvs pl) (upd (upd H2 dx (.own x)) x (.ins C dx [])) (fun v H3 => v = .non ∧ Q (.ref x) H3) (E σ)
theorem pe_mk (M : Mk X.K C f) (F : FnOk X.prog X.w X.K X.mg X.base CX k f fd ps sp) (hr : Room (k + 1) X.A) (hg : Gl X x) (hm : X.mg x = some (.ref C)) (hb : CallB X.K fd ps n ks pl dvs kvs) (hx : ∀ σ, PassesAt CX X σ (E σ))
    (ha : PAr X pos es kws ks t tk) (hdb : (x == ("__debug__" : Str)) = false := by decide) : PE X (.Call (.Name x p) es kws pos) (tMk C sp pl dvs kvs n ks.length E t tk) := by
  refine ⟨fun pins s σ H Q I h => ?_⟩
  refine wpAny_Call_Name_kw (ld_glob I hg hm ?_ hdb)
  refine ha.run pins s σ H _ [] _ _ M.kp I h fun us ws vs zs H2 s2 I2 r rz ⟨q1, q2, q3⟩ => ?_
  have hq := q3 (s2.heap.objs.size + 1) s2.heap.objs.size (I2.hok.fresh (Nat.le_succ _)) (I2.hok.fresh (Nat.le_refl _)) (Nat.ne_of_lt (Nat.lt_succ_self _))
  have I3 := Inv.made (C := C) I2
  have r3 : Vals (V.ref (s2.heap.objs.size + 1) :: vs) (Value.ref (s2.heap.objs.size + 1) :: us) := .cons rfl r
  obtain ⟨args, ra, b⟩ := hb _ _ ws _ zs I3.kIn (r3.length.symm.trans q1) (rz.length.symm.trans q2) r3 rz
  refine wpAny_call (make_map (f := f) I2.kIn M.makes M.init (beq_iff_eq.mp M.fn) (codeAny_mono (F.run _ X.stack _ _ ⟨Value.ref (s2.heap.objs.size + 1) :: us, ks.zip ws⟩ args _ _ (E σ) (hr.make C us (ks.zip ws))
    (I3.env0.make C us (ks.zip ws)) b ra hq) fun r s' hq' => ?_))
  cases r with
  | error e => exact hx σ pins _ _ e s' I3 hq'
  | ok fl =>
    cases fl with
    | ret u =>
      obtain ⟨v, H', I4, rv, ev, q5⟩ := I3.after hq'
      subst ev
      exact ⟨rv, ⟨V.ref (s2.heap.objs.size + 1), H', I4, rfl, q5⟩⟩
    | next => exact False.elim hq'
    | brk => exact False.elim hq'
    | cont => exact False.elim hq'
end
/-! ### bundles -/
/-- where the classes stand -/
structure Ad where
  Space : Addr
  Node : Addr
  Ring : Addr
  Seeker : Addr
  Found : Addr
  Desk : Addr
  NoSpace : Addr
  NoPoint : Addr
  NoRing : Addr
  NoMember : Addr
  Taken : Addr
  Fixed : Addr
  Alone : Addr
  LastOne : Addr
  TooFar : Addr
  NoText : Addr
  NoValue : Addr
  NoOrder : Addr
  NoRow : Addr
  RingError : Addr
abbrev FunS (K : PySem.W.Frag) (x qual : Str) (st : Stmt) (dvs : List V) (kws : List (Str × V)) (f : Addr) (fd : FuncData) : Prop := FunD K x qual (defArgs st) (defBody st) (defScope st) dvs kws f fd
/-- a def of the text (facts), a method, a class's __init__ -/
structure DF (K : PySem.W.Frag) (mg : Str → Option Value) (x : Str) (st : Stmt) (dvs : List V) (kws : List (Str × V)) : Prop where
  ex : ∃ f fd, mg x = some (.ref f) ∧ FunS K x x st dvs kws f fd
structure MF (K : PySem.W.Frag) (C : Addr) (m qual : Str) (st : Stmt) (dvs : List V) (kws : List (Str × V)) : Prop where
  ex : ∃ f fd, Meth K C m f ∧ FunS K m qual st dvs kws f fd
structure IF (K : PySem.W.Frag) (C : Addr) (qual : Str) (st : Stmt) (dvs : List V) (kws : List (Str × V)) : Prop where
  ex : ∃ f fd, Mk K C f ∧ FunS K "__init__" qual st dvs kws f fd
/-- .. that keeps its promise -/
structure DK (P : Program) (w : World) (K : PySem.W.Frag) (mg : Str → Option Value) (base : Heap) (CX : CXT) (k : Nat) (x : Str) (ps : List Str) (st : Stmt) (dvs : List V) (kws : List (Str × V)) (sp : Sp) : Prop where
  ex : ∃ f fd, mg x = some (.ref f) ∧ FunS K x x st dvs kws f fd ∧ FnOk P w K mg base CX k f fd ps sp
structure MK (P : Program) (w : World) (K : PySem.W.Frag) (mg : Str → Option Value) (base : Heap) (CX : CXT) (k : Nat) (C : Addr) (m qual : Str) (ps : List Str) (st : Stmt) (dvs : List V) (kws : List (Str × V)) (sp : Sp) : Prop where
  ex : ∃ f fd, Meth K C m f ∧ FunS K m qual st dvs kws f fd ∧ FnOk P w K mg base CX k f fd ps sp
structure IK (P : Program) (w : World) (K : PySem.W.Frag) (mg : Str → Option Value) (base : Heap) (CX : CXT) (k : Nat) (C : Addr) (qual : Str) (ps : List Str) (st : Stmt) (dvs : List V) (kws : List (Str × V)) (sp : Sp) : Prop where
  ex : ∃ f fd, Mk K C f ∧ FunS K "__init__" qual st dvs kws f fd ∧ FnOk P w K mg base CX k f fd ps sp
section
variable {P : Program} {w : World} {K : PySem.W.Frag} {mg : Str → Option Value} {base : Heap} {x qual : Str} {st : Stmt} {N ps : List Str} {k : Nat} {sp : Sp} {t : TS} {tx : XK → TS} {dvs : List V} {kws : List (Str × V)} {f : Addr} {fd : FuncData} {C : Addr} {m : Str}
/-- THE RULES: a body that lets nothing out, one that may raise -/
theorem fn0 (F : FunS K x qual st dvs kws f fd) (S : FnScope N ps (defScope st)) (len : ∀ vs H Q E, sp vs H Q E → vs.length = ps.length)
    (der : ∀ (f : Addr) (cdv : Value) (A : Around) (outer : List Env) (s : Shared) (H : Hp) (E : XK), Room k (A.deeper (PyProof.Rows.envOfC qual (defScope st) s.heap.objs.size f cdv)) → PSs (cxOf CX0 P w K mg base N qual (defScope st) f cdv A outer s H E).nox (defBody st) t)
    (rd : ∀ vs H Q E, sp vs H Q E → t { nx := fun _ H' => Q .non H', rt := Q } (start N vs) H) : FnOk P w K mg base CX0 (k + 1) f fd ps sp :=
  F.ok S len fun cdv A outer s H vs Q E hr h => ⟨t, (der f cdv A outer s H E hr).nox, rd vs H Q E h⟩
theorem fnx (F : FunS K x qual st dvs kws f fd) (S : FnScope N ps (defScope st)) (len : ∀ vs H Q E, sp vs H Q E → vs.length = ps.length)
    (der : ∀ (f : Addr) (cdv : Value) (A : Around) (outer : List Env) (s : Shared) (H : Hp) (E : XK), Room k (A.deeper (PyProof.Rows.envOfC qual (defScope st) s.heap.objs.size f cdv)) → PSs (cxOf (L2.CX P w) P w K mg base N qual (defScope st) f cdv A outer s H E) (defBody st) (tx E))
    (rd : ∀ vs H Q E, sp vs H Q E → tx E { nx := fun _ H' => Q .non H', rt := Q } (start N vs) H) : FnOk P w K mg base (L2.CX P w) (k + 1) f fd ps sp :=
  F.ok S len fun cdv A outer s H vs Q E hr h => ⟨tx E, der f cdv A outer s H E hr, rd vs H Q E h⟩
theorem DF.mk2 {CX : CXT} (F : DF K mg x st dvs kws) (h : ∀ f fd, FunS K x x st dvs kws f fd → FnOk P w K mg base CX k f fd ps sp) : DK P w K mg base CX k x ps st dvs kws sp :=
  let ⟨f, fd, hm, F⟩ := F.ex; ⟨f, fd, hm, F, h f fd F⟩
theorem MF.mk2 {CX : CXT} (F : MF K C m qual st dvs kws) (h : ∀ f fd, FunS K m qual st dvs kws f fd → FnOk P w K mg base CX k f fd ps sp) : MK P w K mg base CX k C m qual ps st dvs kws sp :=
  let ⟨f, fd, hm, F⟩ := F.ex; ⟨f, fd, hm, F, h f fd F⟩
theorem IF.mk2 {CX : CXT} (F : IF K C qual st dvs kws) (h : ∀ f fd, FunS K "__init__" qual st dvs kws f fd → FnOk P w K mg base CX k f fd ps sp) : IK P w K mg base CX k C qual ps st dvs kws sp :=
  let ⟨f, fd, hm, F⟩ := F.ex; ⟨f, fd, hm, F, h f fd F⟩
end
section
variable {X : Cx} {CX : CXT} {k j : Nat} {C : Addr} {ps ks : List Str} {pl : List Src} {dvs dv kv : List V} {kw' : List (Str × V)} {n : Nat} {sp : Sp} {x m qual : Str} {st : Stmt} {p pos apos : Pos} {o : Expr} {es : List Expr} {kws : List Keyword} {ta : TE} {t tk : TA} {E : St → XK}
theorem pe_dk (D : DK X.prog X.w X.K X.mg X.base CX k x ps st dvs kw' sp) (hr : Room j X.A) (hj : k ≤ j) (hg : Gl X x) (hb : ∀ {f fd}, FunS X.K x x st dvs kw' f fd → CallB X.K fd ps n ks pl dv kv) (hx : ∀ σ, PassesAt CX X σ (E σ))
    (ha : PAr X pos es kws ks t tk) (hdb : (x == ("__debug__" : Str)) = false := by decide) : PE X (.Call (.Name x p) es kws pos) (tCl sp pl dv kv n ks.length E t tk) := by
  obtain ⟨f, fd, hm, F, ok⟩ := D.ex
  exact pe_cl ok (hr.mono hj) hg hm F.kp (hb F) hx ha hdb
theorem pe_mkk (D : MK X.prog X.w X.K X.mg X.base CX k C m qual ps st dvs kw' sp) {pl' : Sem Bool} (he : PE X o ta) (c : Cls X.K C) (hr : Room j X.A) (hj : k ≤ j) (hb : ∀ {f fd}, FunS X.K m qual st dvs kw' f fd → CallB X.K fd ps n ks pl dv kv) (hx : ∀ σ, PassesAt CX X σ (E σ))
    (ha : PAr X pos es kws ks t tk)
    (ht : eval (.Call (.Attribute o m apos) es kws pos) X.env = (do
      let ov ← eval o X.env
      standAt apos.atName
      let (f, first) ← holding [ov] (getMethod ov m pl')
      callWith pos f first (backTo pos (starEach es X.env)) (backToKw pos (keywordEach kws X.env))) := by rfl) :
    PE X (.Call (.Attribute o m apos) es kws pos) (tMe C m sp pl dv kv n ks.length E ta t tk) := by
  obtain ⟨f, fd, hm, F, ok⟩ := D.ex
  exact pe_me he c hm ok (hr.mono hj) (hb F) hx ha ht
theorem pe_ik (D : IK X.prog X.w X.K X.mg X.base CX k C qual ps st dvs kw' sp) (hr : Room j X.A) (hj : k + 1 ≤ j) (hg : Gl X x) (hm : X.mg x = some (.ref C)) (hb : ∀ {f fd}, FunS X.K "__init__" qual st dvs kw' f fd → CallB X.K fd ps n ks pl dv kv) (hx : ∀ σ, PassesAt CX X σ (E σ))
    (ha : PAr X pos es kws ks t tk) (hdb : (x == ("__debug__" : Str)) = false := by decide) : PE X (.Call (.Name x p) es kws pos) (tMk C sp pl dv kv n ks.length E t tk) := by
  obtain ⟨f, fd, M, F, ok⟩ := D.ex
  exact pe_mk M ok (hr.mono hj) hg hm (hb F) hx ha hdb
/-- exceptions of a callee: none comes; they are the def's own; they are the try's -/
theorem xa0 (σ : St) : PassesAt CX0 X σ E0 := fun _ _ _ _ _ _ h => h.elim
theorem xaL (σ : St) : PassesAt (L2.CX X.prog X.w) X σ E0 := fun pins H s e s' I h => passL pins σ H s e s' I h
theorem xaC {E : XK} (tk : Takes X (fun cls d _ H => E cls d H)) (σ : St) : PassesAt (L2.CX X.prog X.w) X σ E := fun pins H s e s' I h => passes_call tk (fun _ _ _ _ q => q) pins σ H s e s' I h
end
/-! ### steps -/
section
variable {σ : St} {H : Hp} {Q : VK} {ta : TE} {t tk : TA} {E : St → XK} {sp : Sp} {pl : List Src} {dvs kvs : List V} {n l : Nat} {C : Addr} {m : Str}
instance p_cl : Stp (tCl sp pl dvs kvs n l E t tk σ H Q) (t σ H fun vs H1 => tk σ H1 fun zs H2 => vs.length = n ∧ zs.length = l ∧ sp (plan vs zs dvs kvs pl) H2 Q (E σ)) := ⟨fun q => q⟩
instance p_me : Stp (tMe C m sp pl dvs kvs n l E ta t tk σ H Q) (ta σ H fun x H1 => ∃ a dx fs, x = .ref a ∧ H1 a = some (.ins C dx fs) ∧ fs.lookup m = none ∧
  t σ H1 fun vs H2 => tk σ H2 fun zs H3 => vs.length + 1 = n ∧ zs.length = l ∧ sp (plan (x :: vs) zs dvs kvs pl) H3 Q (E σ)) := ⟨fun q => q⟩
instance p_mk : Stp (tMk C sp pl dvs kvs n l E t tk σ H Q) (t σ H fun vs H1 => tk σ H1 fun zs H2 => vs.length + 1 = n ∧ zs.length = l ∧ ∀ x dx, H2 x = none → H2 dx = none → dx ≠ x →
  sp (plan (.ref x :: vs) zs dvs kvs pl) (upd (upd H2 dx (.own x)) x (.ins C dx [])) (fun v H3 => v = .non ∧ Q (.ref x) H3) (E σ)) := ⟨fun q => q⟩
/-- an instance at hand -/
theorem g_ins {a dx : Addr} {fs : List (Str × V)} {P : Prop} (h : H a = some (.ins C dx fs)) (hl : fs.lookup m = none) (q : P) : ∃ a' dx fs, V.ref a = .ref a' ∧ H a' = some (.ins C dx fs) ∧ fs.lookup m = none ∧ P := ⟨a, dx, fs, rfl, h, hl, q⟩
theorem g_fld {K : PySem.W.Frag} {a dx : Addr} {fs : List (Str × V)} {f : Str} {v : V} {P : V → Prop} (h : H a = some (.ins C dx fs)) (hc : Cls K C) (hn : NoAttr K C f) (hl : fs.lookup f = some v) (q : P v) :
    ∃ a' C dx fs v, V.ref a = .ref a' ∧ H a' = some (.ins C dx fs) ∧ Cls K C ∧ NoAttr K C f ∧ fs.lookup f = some v ∧ P v := ⟨a, C, dx, fs, v, rfl, h, hc, hn, hl, q⟩
instance p_fld {K : PySem.W.Frag} {f : Str} : Stp (tFld K ta f σ H Q) (ta σ H fun x H1 => ∃ a C dx fs v, x = .ref a ∧ H1 a = some (.ins C dx fs) ∧ Cls K C ∧ NoAttr K C f ∧ fs.lookup f = some v ∧ Q v H1) := ⟨fun q => q⟩
end
end NN
/-! own: the end of a law whose text has classes -/
namespace NN
open PySem PyProof.Rows L2
theorem fund_p {K : PySem.W.Frag} {x qual : Str} {st : Stmt} {f : Addr} {od an : Option Addr} {sl : Array (Option Value)} {oc kV dc pm cd ct : Value}
    (l : K.lookup f = some ⟨oc, od, .func (PySem.W.fnOf x qual (defArgs st) (defBody st) (defScope st) .none kV dc pm an cd ct), sl⟩)
    (c : PySem.W.codeIn K cd qual = true) (k : PySem.W.keepIn K (.ref f) = true) : FunS K x qual st [] [] f (PySem.W.fnOf x qual (defArgs st) (defBody st) (defScope st) .none kV dc pm an cd ct) :=
  ⟨⟨oc, od, .none, kV, dc, pm, an, cd, ct, sl, rfl, l, c, .inl ⟨rfl, rfl⟩, .inl rfl⟩, k⟩
theorem fund_1 {K : PySem.W.Frag} {x qual : Str} {st : Stmt} {f T : Addr} {od an odT : Option Addr} {sl slT : Array (Option Value)} {oc kV dc pm cd ct ocT u : Value} {n : Nat} {v : V}
    (l : K.lookup f = some ⟨oc, od, .func (PySem.W.fnOf x qual (defArgs st) (defBody st) (defScope st) (.ref T) kV dc pm an cd ct), sl⟩)
    (c : PySem.W.codeIn K cd qual = true) (k : PySem.W.keepIn K (.ref f) = true) (lT : K.lookup T = some ⟨ocT, odT, .seq #[u] n, slT⟩) (r : RelV v u) : FunS K x qual st [v] [] f (PySem.W.fnOf x qual (defArgs st) (defBody st) (defScope st) (.ref T) kV dc pm an cd ct) :=
  ⟨⟨oc, od, .ref T, kV, dc, pm, an, cd, ct, sl, rfl, l, c, .inr ⟨by simp, T, _, [u], n, rfl, lT, rfl, .cons r .nil⟩, .inl rfl⟩, k⟩
/-- the law's own def, at the end -/
theorem law_fin2 {l : PySem.W.OpenLaw} {w : World} {K : PySem.W.Frag} {mg : Str → Option Value} {CX : CXT} {x p : Str} {st : Stmt} {k : Nat} {sp : Sp} {fa : Addr} (F : DF K mg x st [] []) (hfa : mg x = some (.ref fa)) (B : PlainB x [p] st)
    (ok : ∀ (base : Heap) (f : Addr) (fd : FuncData), FunS K x x st [] [] f fd → FnOk l.prog w K mg base CX k f fd [p] sp) :
    ∃ fd : FuncData, (∀ (s : Shared) (v : Value), BindsTo s fd ⟨[v], []⟩ [(p, v)]) ∧ ∀ base : Heap, K.In base → base.Ns mainGlobals mg → FnOk l.prog w K mg base CX k fa fd [p] sp := by
  obtain ⟨f, fd, hm, F⟩ := F.ex
  have e : f = fa := by
    have z := hm.symm.trans hfa
    injection z with z
    injection z
  subst e
  refine ⟨fd, fun s v => ?_, fun base _ _ => ok base f fd F⟩
  obtain ⟨oc, od, dV, kV, doc, pm, an, cdv, ct, osl, rfl, lk, hcd, hD, _⟩ := F.ex
  rcases hD with ⟨_, rfl⟩ | ⟨z, _⟩
  · exact .of_eq (B kV doc pm an cdv ct [v] rfl)
  · exact absurd rfl z
def Z0 : Ad := ⟨0, 0, 0, 0, 0, 0, 0, 0, 0, 0, 0, 0, 0, 0, 0, 0, 0, 0, 0, 0⟩
end NN
namespace NN
open PySem L2
local macro_rules | `(tactic| walk_at "ne") => `(tactic| first | assumption | (apply Ne.symm; assumption) | walk_at "neX" | (refine ne_dom ?_ (by assumption); walk_at "dm") | (refine Ne.symm (ne_dom ?_ (by assumption)); walk_at "dm"))
local macro_rules | `(tactic| walk_at "neX") => `(tactic| fail)
local macro_rules | `(tactic| walk_at "dm") => `(tactic| first | exact Dom.of (by assumption) | (refine Dom.at (by assumption) ?_ ?_; (walk_at "dm"); walk_at "nm"))
local macro_rules | `(tactic| walk_at "nm") => `(tactic| first | exact nm0 | (refine nm1 ?_; walk_at "ne") | (refine nm2 ?_ ?_; (walk_at "ne"); walk_at "nm"))
local macro_rules | `(tactic| walk_at "tr") => `(tactic| first | assumption | exact upd_same | (refine Kp.at (by assumption) ?_ ?_; (walk_at "tr"); walk_at "nm") | (rw [upd_ne (by walk_at "ne")]; walk_at "tr"))
local macro_rules | `(tactic| walk_at "sq") => `(tactic| first | assumption | exact SqL.of (by walk_at "tr") | (refine Kp.seq0 ?_ (by assumption); walk_at "kp") | (refine Kp.seq (by assumption) (by walk_at "nm") ?_; walk_at "sq"))
local macro_rules | `(tactic| walk_at "fr") => `(tactic| first | assumption | (refine Kp.free (S := []) ?_ nm0 (by assumption); walk_at "kp") | (refine Kp.free (by assumption) (by walk_at "nm") ?_; assumption) | (refine Kp.free (by assumption) (by walk_at "nm") ?_; walk_at "fr"))
local macro_rules | `(tactic| walk_at "al") => `(tactic| first | exact al0 | (refine al1 ?_ ?_; (first | exact Or.inl List.mem_cons_self | exact Or.inl (List.mem_cons_of_mem _ List.mem_cons_self) | (refine Or.inr ?_; walk_at "fr")); walk_at "al"))
local macro_rules | `(tactic| walk_at "kp") => `(tactic| first | assumption | exact Kp.refl | exact KpC.k (by assumption) | (refine Kp.step ?_ (by assumption) ?_; (walk_at "kp"); walk_at "al"))
local macro_rules | `(tactic| walk_at "ar") => `(tactic| first | omega | (simp only [List.length_cons, List.length_nil, List.length_append, List.length_map, List.length_set, List.length_take, List.length_drop] <;> omega) | decide)
local macro_rules | `(tactic| walk_at "cond") => `(tactic| first | assumption | exact c_mulB | (exact c_mulL (by walk_at "nl") (by walk_at "nl")) | (exact c_mulR (by walk_at "nl") (by walk_at "nl")) | (exact c_divW (by walk_at "nl") (by walk_at "nl")) | (exact c_pow (by walk_at "nl") (by walk_at "nl") (by walk_at "nl")) | walk_at "nl")
local macro_rules | `(tactic| walk_at "nl") => `(tactic| first | with_reducible assumption | omega | (simp only [List.length_map] <;> omega))
local macro_rules | `(tactic| walk_at "set") => `(tactic| first | exact set_0 | exact set_1 | exact set_2 | exact set_3 | exact set_4 | exact set_5 | exact set_6 | exact set_7 | exact set_8 | exact set_9 | exact set_10 | exact set_11 | exact set_12 | exact set_13 | exact set_14 | exact set_15 | exact set_16 | exact set_17 | exact set_18 | exact set_19 | exact set_20 | exact set_21 | exact set_22 | exact set_23)
local macro_rules | `(tactic| walk_at "sz") => `(tactic| first | exact sz_small (by simp only [List.length_cons, List.length_nil]; decide) | exact sz_small (by decide) | exact sz_small (by walk_at "ar"))
local macro_rules | `(tactic| walk_at "sl") => `(tactic| first | exact sz_less (by walk_at "ar"))
local macro_rules | `(tactic| walk_at "at") => `(tactic| first | assumption | exact at_0 | exact at_1 | exact at_2 | exact at_3 | exact at_4 | exact at_5 | exact at_6 | exact at_7 | exact at_8 | exact at_9 | exact at_10 | exact at_11 | exact at_12 | exact at_13 | exact at_14 | exact at_15 | exact atI_nat (by assumption))
local macro_rules | `(tactic| walk_at "flat") => `(tactic| first | exact ints_flat _ | rfl | assumption | decide)
local macro_rules | `(tactic| walk_at "call") => `(tactic| fail)
local macro_rules | `(tactic| walk_at "go1") => `(tactic| first | ((with_reducible refine Stp.imp ?_)) | (((with_reducible refine' g_eqc ?h0 ?_); (case h0 => rfl))) | (((with_reducible refine' g_I ?h0 ?_); (case h0 => walk_at "cond"))) | (((with_reducible refine' g_eq ?h0 ?_); (case h0 => with_unfolding_all rfl))) | (((with_reducible refine' g_ne ?h0 ?_); (case h0 => with_unfolding_all rfl))) | (((with_reducible refine' g_lenL ?h0 ?_); (case h0 => walk_at "sq"))) | (((with_reducible refine' h_listL ?h0 ?_); (case h0 => walk_at "sq"); intro _ _ _ _ _)) | (((with_reducible refine' h_slTo ?h0 ?h1 ?_); (case h0 => walk_at "sq"); (case h1 => walk_at "nl"); intro _ _ _ _ _)) | (((with_reducible refine' h_slFrom ?h0 ?h1 ?_); (case h0 => walk_at "sq"); (case h1 => walk_at "nl"); intro _ _ _ _ _)) | (((with_reducible refine' h_slL ?h0 ?_); (case h0 => walk_at "sq"); intro _ _ _ _ _)) | (((with_reducible refine' g_ixL ?h0 ?h1 ?_); (case h0 => walk_at "sq"); (case h1 => walk_at "at"))) | (((with_reducible refine' g_in ?h0 ?h1 ?h2 ?_); (case h0 => walk_at "sq"); (case h1 => with_unfolding_all rfl); (case h2 => walk_at "flat"))) | (((with_reducible refine' h_setLI ?h0 ?h1 ?_); (case h0 => walk_at "tr"); (case h1 => walk_at "ixn"); intro _ _ _)) | (((with_reducible refine' h_setL ?h0 ?h1 ?_); (case h0 => walk_at "tr"); (case h1 => with_unfolding_all rfl); intro _ _ _)) | (((with_reducible refine' h_appendI ?h0 ?h1 ?_); (case h0 => walk_at "tr"); (case h1 => walk_at "sl"); intro _ _ _)) | (((with_reducible refine' h_append ?h0 ?h1 ?_); (case h0 => walk_at "tr"); (case h1 => walk_at "sl"); intro _ _ _)) | (((with_reducible refine' g_sz ?h0 ?_); (case h0 => walk_at "sz"); intro p hp; generalize hg : upd _ p _ = H2; have hk := Kp.of_upd hg hp; have hs := at_upd hg; clear hg)) | (((with_reducible refine' g_tyL ?h0 ?_); (case h0 => walk_at "sq"))) | (((with_reducible refine' h_catI ?h0 ?h1 ?h2 ?_); (case h0 => walk_at "tr"); (case h1 => walk_at "tr"); (case h2 => walk_at "sz"); intro _ _ _ _ _)) | (((with_reducible refine' h_catI1 ?h0 ?h1 ?h2 ?_); (case h0 => walk_at "tr"); (case h1 => walk_at "tr"); (case h2 => walk_at "sz"); intro _ _ _ _ _)) | (((with_reducible refine' h_catI2 ?h0 ?h1 ?h2 ?_); (case h0 => walk_at "tr"); (case h1 => walk_at "tr"); (case h2 => walk_at "sz"); intro _ _ _ _ _)) | (((with_reducible refine' h_cat ?h0 ?h1 ?h2 ?_); (case h0 => walk_at "tr"); (case h1 => walk_at "tr"); (case h2 => walk_at "sz"); intro _ _ _ _ _)) | (((with_reducible refine' h_idx ?h0 ?h1 ?_); (case h0 => walk_at "sq"); (case h1 => assumption))) | (((with_reducible refine' h_insertI ?h0 ?h1 ?h2 ?h3 ?_); (case h0 => walk_at "tr"); (case h1 => walk_at "sl"); (case h2 => decide); (case h3 => decide); intro _ _ _)) | (((with_reducible refine' h_insert ?h0 ?h1 ?h2 ?h3 ?_); (case h0 => walk_at "tr"); (case h1 => walk_at "sl"); (case h2 => decide); (case h3 => decide); intro _ _ _)) | walk_at "call")
local macro_rules | `(tactic| walk_at "go") => `(tactic| (repeat walk_at "go1"); (try dsimp only))
local macro_rules | `(tactic| walk_at "on") => `(tactic| (with_reducible refine g_seq ?_); walk_at "go")
local macro_rules | `(tactic| walk_at "ixn") => `(tactic| first | with_unfolding_all rfl | exact ixN_lit (j := 0) rfl (by walk_at "ar") | exact ixN_nat (by walk_at "ar"))
local macro_rules | `(tactic| walk_at "ifs") => `(tactic| ((try simp only [List.length_map]) <;> (repeat' split) <;> omega))
local macro_rules | `(tactic| walk_at "dp") => `(tactic| first | exact Dp.int _ | exact Dp.non | exact Dp.str _ | exact Dp.bl _ | exact dp_ints (by walk_at "sq") | (apply Dp.lst; (walk_at "sq"); walk_at "dpA") | (apply Dp.tup; (walk_at "st"); walk_at "dpA"))
local macro_rules | `(tactic| walk_at "dpA") => `(tactic| first | exact DpAll.nil | (apply DpAll.cons; (walk_at "dp"); walk_at "dpA"))
local macro_rules | `(tactic| walk_at "sh") => `(tactic| first | exact Sh.int | exact Sh.non | exact Sh.bool | exact Sh.list ShA.ints | (refine Sh.list ?_; walk_at "shA") | (refine Sh.tuple ?_; walk_at "shA"))
local macro_rules | `(tactic| walk_at "shA") => `(tactic| first | exact ShA.nil | exact ShA.ints | (refine ShA.cons ?_ ?_; (walk_at "sh"); walk_at "shA"))
local macro_rules | `(tactic| walk_at "st") => `(tactic| first | assumption | exact SqT.of (by walk_at "tr"))
/-- a pot of draws: two numbers -/
def PotAt (H : Hp) (p : Addr) : Prop := ∃ x y : Int, H p = some (.lst [.int x, .int y]) ∧ 0 ≤ y ∧ y < 2147483648
theorem PotAt.kp {S : List Addr} {H H1 : Hp} {p : Addr} (k : Kp S H H1) (n : p ∉ S) (h : PotAt H p) : PotAt H1 p := by
  obtain ⟨x, y, e, h1, h2⟩ := h
  exact ⟨x, y, k _ _ e n, h1, h2⟩
theorem PotAt.ne {H H0 : Hp} {p q : Addr} (_ : PotAt H0 p) (h : PotAt H p) (n : H q = none) : p ≠ q := by
  obtain ⟨x, y, e, _⟩ := h
  exact ne_of_none e n
theorem PotAt.nonneg {H H0 : Hp} {p q : Addr} (h0 : PotAt H0 p) (h : PotAt H p) (n : H q = none) : q ≠ p := (h0.ne h n).symm
/-- a space of m points -/
def SpAt (Z : Ad) (H : Hp) (a : Addr) (m : Int) : Prop := ∃ (dx : Addr) (b : Int), H a = some (.ins Z.Space dx [("own_bits", .int b)]) ∧ 3 ≤ b ∧ b ≤ 32 ∧ m = 2 ^ b.toNat
theorem SpAt.kp {Z : Ad} {S : List Addr} {H H1 : Hp} {p : Addr} {m : Int} (k : Kp S H H1) (n : p ∉ S) (h : SpAt Z H p m) : SpAt Z H1 p m := by
  obtain ⟨dx, b, e, r⟩ := h
  exact ⟨dx, b, k _ _ e n, r⟩
theorem SpAt.ne {Z : Ad} {H H0 : Hp} {p q : Addr} {m : Int} (_ : SpAt Z H0 p m) (h : SpAt Z H p m) (n : H q = none) : p ≠ q := by
  obtain ⟨dx, b, e, _⟩ := h
  exact ne_of_none e n
theorem SpAt.nonneg {Z : Ad} {H H0 : Hp} {p q : Addr} {m : Int} (h0 : SpAt Z H0 p m) (h : SpAt Z H p m) (n : H q = none) : q ≠ p := (h0.ne h n).symm
theorem SpAt.pos {Z : Ad} {H : Hp} {p : Addr} {m : Int} (h : SpAt Z H p m) : 8 ≤ m ∧ m ≤ 4294967296 := by
  obtain ⟨dx, b, e, h1, h2, rfl⟩ := h
  have z1 : (2 : Int) ^ 3 ≤ 2 ^ b.toNat := pow2_le (by omega)
  have z2 : (2 : Int) ^ b.toNat ≤ 2 ^ 32 := pow2_le (by omega)
  exact ⟨z1, z2⟩
local macro_rules | `(tactic| walk_at "pot") => `(tactic| first | assumption | (refine PotAt.kp (by assumption) (by walk_at "nm") ?_; walk_at "pot"))
local macro_rules | `(tactic| walk_at "spa") => `(tactic| first | assumption | (refine SpAt.kp (by assumption) (by walk_at "nm") ?_; walk_at "spa"))
local macro_rules | `(tactic| walk_at "neX") => `(tactic| first | (refine PotAt.ne (by assumption) ?_ (by assumption); walk_at "pot") | (refine PotAt.nonneg (by assumption) ?_ (by assumption); walk_at "pot") | (refine SpAt.ne (by assumption) ?_ (by assumption); walk_at "spa") | (refine SpAt.nonneg (by assumption) ?_ (by assumption); walk_at "spa"))
section
variable {σ : St} {H : Hp} {Q : VK} {ta tb tc tv : TE} {r r' : R2} {K : PySem.W.Frag} {Z : Ad} {f : Str} {D : Ends} {E : XK} {cls : Value}
instance p_chain : Stp (tChain r r' ta tb tc σ H Q) (ta σ H fun x H1 => tb σ H1 fun y H2 => r x y H2 fun z H3 => ∃ k, z = .bl k ∧ (if k = true then tc σ H3 fun w' H4 => r' y w' H4 Q else Q (.bl false) H3)) := ⟨fun q => q⟩
instance p_sfld : Stp (sFld K ta tv f D σ H) (tv σ H fun y H1 => ta σ H1 fun x H2 => ∃ a C dx fs, x = .ref a ∧ H2 a = some (.ins C dx fs) ∧ Cls K C ∧ NoAttr K C f ∧ fs.length < 1000 ∧ D.nx σ (upd H2 a (.ins C dx (putF f y fs)))) := ⟨fun q => q⟩
instance p_raise : Stp (tRaise E cls D σ H) (E cls none H) := ⟨fun q => q⟩
end
theorem g_insS {Z : Ad} {H : Hp} {a : Addr} {m : Int} {n : Str} {P : Prop} (h : SpAt Z H a m) (hl : ((n == ("own_bits" : Str)) = false)) (q : P) : ∃ a' dx fs, V.ref a = .ref a' ∧ H a' = some (.ins Z.Space dx fs) ∧ fs.lookup n = none ∧ P := by
  obtain ⟨dx, b, e, _⟩ := h
  exact ⟨a, dx, _, rfl, e, by simp only [List.lookup, hl], q⟩
/-! ### the promises -/
section
variable {K : PySem.W.Frag} {Z : Ad} {H : Hp} {Q : VK} {E : XK} {vs : List V}
def sp_is_whole (_ : PySem.W.Frag) (_ : Ad) : Sp := fun vs H Q _ => ∃ i : Int, vs = [.int i] ∧ Q (.bl true) H
theorem use_whole {i : Int} (e : vs = [.int i]) (q : Q (.bl true) H) : sp_is_whole K Z vs H Q E := ⟨i, e, q⟩
def sp_Space___init__ (_ : PySem.W.Frag) (Z : Ad) : Sp := fun vs H Q _ => ∃ (x dx : Addr) (b : Int), vs = [.ref x, .int b] ∧ H x = some (.ins Z.Space dx []) ∧ 3 ≤ b ∧ b ≤ 32 ∧ Q .non (upd H x (.ins Z.Space dx [("own_bits", .int b)]))
theorem use_make {b : Int} {vv : Addr → List V} {R : Addr → Hp → Prop} (e : ∀ x, vv x = [.ref x, .int b]) (h1 : 3 ≤ b) (h2 : b ≤ 32) (q : ∀ x H', H x = none → Kp [] H H' → SpAt Z H' x (2 ^ b.toNat) → R x H') :
    ∀ x dx, H x = none → H dx = none → dx ≠ x → sp_Space___init__ K Z (vv x) (upd (upd H dx (.own x)) x (.ins Z.Space dx [])) (fun v H3 => v = .non ∧ R x H3) E :=
  fun x dx hx hd ne => ⟨x, dx, b, e x, upd_same, h1, h2, rfl, q x _ hx (fun c o e n => by
    have n1 := ne_of_none e hx
    have n2 := ne_of_none e hd
    rw [upd_ne n1, upd_ne n1, upd_ne n2]; exact e) ⟨dx, b, upd_same, h1, h2, rfl⟩⟩
def sp_Space_bits (_ : PySem.W.Frag) (Z : Ad) : Sp := fun vs H Q _ => ∃ (a dx : Addr) (b : Int), vs = [.ref a] ∧ H a = some (.ins Z.Space dx [("own_bits", .int b)]) ∧ Q (.int b) H
def sp_Space_size (_ : PySem.W.Frag) (Z : Ad) : Sp := fun vs H Q _ => ∃ (a : Addr) (m : Int), vs = [.ref a] ∧ SpAt Z H a m ∧ Q (.int m) H
theorem use_size {a : Addr} {m : Int} (e : vs = [.ref a]) (h : SpAt Z H a m) (q : Q (.int m) H) : sp_Space_size K Z vs H Q E := ⟨a, m, e, h, q⟩
def sp_Space_distance (_ : PySem.W.Frag) (Z : Ad) : Sp := fun vs H Q _ => ∃ (a : Addr) (m x y : Int), vs = [.ref a, .int x, .int y] ∧ SpAt Z H a m ∧ Q (.int ((y - x) % m)) H
theorem use_distance {a : Addr} {m x y : Int} (e : vs = [.ref a, .int x, .int y]) (h : SpAt Z H a m) (q : Q (.int ((y - x) % m)) H) : sp_Space_distance K Z vs H Q E := ⟨a, m, x, y, e, h, q⟩
/-- between, as the program tells it -/
def betw (m p x y : Int) : Bool := decide (0 < (p - x) % m) && (decide (x = y) || decide ((p - x) % m < (y - x) % m))
def sp_Space_is_between (_ : PySem.W.Frag) (Z : Ad) : Sp := fun vs H Q _ => ∃ (a : Addr) (m p x y : Int), vs = [.ref a, .int p, .int x, .int y] ∧ SpAt Z H a m ∧ Q (.bl (betw m p x y)) H
theorem use_between {a : Addr} {m p x y : Int} (e : vs = [.ref a, .int p, .int x, .int y]) (h : SpAt Z H a m) (q : Q (.bl (betw m p x y)) H) : sp_Space_is_between K Z vs H Q E := ⟨a, m, p, x, y, e, h, q⟩
end
local macro_rules | `(tactic| walk_at "call") => `(tactic| first
  | ((with_reducible refine' use_whole ?e  ?_); (case e => rfl))
  | ((with_reducible refine' use_size ?e ?h0 ?_); (case e => rfl); (case h0 => walk_at "spa"))
  | ((with_reducible refine' use_distance ?e ?h0 ?_); (case e => rfl); (case h0 => walk_at "spa"))
  | ((with_reducible refine' use_between ?e ?h0 ?_); (case e => rfl); (case h0 => walk_at "spa"))
  | ((with_reducible refine' use_make ?e ?h0 ?h1 ?_); (case e => exact fun _ => rfl); (case h0 => walk_at "nl"); (case h1 => walk_at "nl"); intro _ _ _ _ _)
  | ((with_reducible refine' g_insS ?h0 ?h1 ?_); (case h0 => walk_at "spa"); (case h1 => rfl)))
/-! ### the readings are met -/
def t_is_whole (K : PySem.W.Frag) (Z : Ad) : TS :=
  (tRet (tAndV (tCB (rIsi K) (tCons (tVar 0) (tCons (tC (.ty "int")) tNil))) (tNotV (tCB (rIsi K) (tCons (tVar 0) (tCons (tC (.ty "bool")) tNil))))))
theorem rd_is_whole (K : PySem.W.Frag) (Z : Ad) : ∀ vs H Q E, sp_is_whole K Z vs H Q E → t_is_whole K Z { nx := fun _ H' => Q .non H', rt := Q } (start (["thing"]) vs) H := by
  rintro _ H Q E ⟨i, rfl, q⟩
  show t_is_whole K Z _ [some (.int i)] H
  unfold t_is_whole
  walk_at "go"
  refine isi (b := true) (.base (.int _)) (by decide +kernel) ?_
  walk_at "go"
  refine isi (b := false) (.base (.int _)) (by decide +kernel) ?_
  walk_at "go"
  exact q
def t_Space___init__ (K : PySem.W.Frag) (Z : Ad) (E : XK) : TS :=
  (tSeq (tIfS (tOr (tNot (tB (tCl (sp_is_whole K Z) [.pos 0] [] [] 1 0 (fun _ => E0) (tCons (tVar 1) tNil) tNil))) (tNot (tTest (tChain rLe rLe (tC (.int 3)) (tVar 1) (tC (.int 32)))))) (tRaise E (.ref Z.NoSpace)) tNext)
  (sFld K (tVar 0) (tVar 1) "own_bits"))
theorem rd_Space___init__ (K : PySem.W.Frag) (Z : Ad) (hc : Cls K Z.Space) (hn : NoAttr K Z.Space "own_bits") : ∀ vs H Q E, sp_Space___init__ K Z vs H Q E → t_Space___init__ K Z E { nx := fun _ H' => Q .non H', rt := Q } (start (["self", "bits"]) vs) H := by
  rintro _ H Q E ⟨x, dx, b, rfl, hx, h1, h2, q⟩
  show t_Space___init__ K Z E _ [some (.ref x), some (.int b)] H
  unfold t_Space___init__
  walk_at "go"
  walk_at "on"
  rw [decide_eq_true h1]
  walk_at "go"
  rw [decide_eq_true h2]
  walk_at "go"
  exact ⟨x, Z.Space, dx, [], rfl, hx, hc, hn, by show 0 < 1000; decide, q⟩
def t_Space_bits (K : PySem.W.Frag) (Z : Ad) : TS :=
  (tRet (tFld K (tVar 0) "own_bits"))
theorem rd_Space_bits (K : PySem.W.Frag) (Z : Ad) (hc : Cls K Z.Space) (hn : NoAttr K Z.Space "own_bits") : ∀ vs H Q E, sp_Space_bits K Z vs H Q E → t_Space_bits K Z { nx := fun _ H' => Q .non H', rt := Q } (start (["self"]) vs) H := by
  rintro _ H Q E ⟨a, dx, b, rfl, e, q⟩
  show t_Space_bits K Z _ [some (.ref a)] H
  unfold t_Space_bits
  walk_at "go"
  exact g_fld e hc hn rfl q
def t_Space_size (K : PySem.W.Frag) (Z : Ad) : TS :=
  (tRet (tOp rShl0 (tC (.int 1)) (tFld K (tVar 0) "own_bits")))
theorem rd_Space_size (K : PySem.W.Frag) (Z : Ad) (hc : Cls K Z.Space) (hn : NoAttr K Z.Space "own_bits") : ∀ vs H Q E, sp_Space_size K Z vs H Q E → t_Space_size K Z { nx := fun _ H' => Q .non H', rt := Q } (start (["self"]) vs) H := by
  rintro _ H Q E ⟨a, m, rfl, ⟨dx, b, e, h1, h2, rfl⟩, q⟩
  show t_Space_size K Z _ [some (.ref a)] H
  unfold t_Space_size
  walk_at "go"
  refine g_fld e hc hn rfl ?_
  refine g_I (c_pow (by omega) (by omega) (by decide)) ?_
  rw [Int.one_mul]
  exact q
def t_Space_distance (K : PySem.W.Frag) (Z : Ad) : TS :=
  (tRet (tOp rMod0 (tOp rSub0 (tVar 2) (tVar 1)) (tMe Z.Space "size" (sp_Space_size K Z) [.pos 0] [] [] 1 0 (fun _ => E0) (tVar 0) tNil tNil)))
theorem rd_Space_distance (K : PySem.W.Frag) (Z : Ad) : ∀ vs H Q E, sp_Space_distance K Z vs H Q E → t_Space_distance K Z { nx := fun _ H' => Q .non H', rt := Q } (start (["self", "one", "other"]) vs) H := by
  rintro _ H Q E ⟨a, m, x, y, rfl, hm, q⟩
  have hp := hm.pos
  show t_Space_distance K Z _ [some (.ref a), some (.int x), some (.int y)] H
  unfold t_Space_distance
  walk_at "go"
  exact q
def t_Space_is_between (K : PySem.W.Frag) (Z : Ad) : TS :=
  (tSeq (tAsg (tMe Z.Space "distance" (sp_Space_distance K Z) [.pos 0, .pos 1, .pos 2] [] [] 3 0 (fun _ => E0) (tVar 0) (tCons (tVar 2) (tCons (tVar 1) tNil)) tNil) (gName 4))
  (tRet (tAndV (tOp rGt (tVar 4) (tC (.int 0))) (tOrV (tOp rEq (tVar 2) (tVar 3)) (tOp rLt (tVar 4) (tMe Z.Space "distance" (sp_Space_distance K Z) [.pos 0, .pos 1, .pos 2] [] [] 3 0 (fun _ => E0) (tVar 0) (tCons (tVar 2) (tCons (tVar 3) tNil)) tNil))))))
theorem rd_Space_is_between (K : PySem.W.Frag) (Z : Ad) : ∀ vs H Q E, sp_Space_is_between K Z vs H Q E → t_Space_is_between K Z { nx := fun _ H' => Q .non H', rt := Q } (start (["self", "point", "one", "other", "far"]) vs) H := by
  rintro _ H Q E ⟨a, m, p, x, y, rfl, hm, q⟩
  show t_Space_is_between K Z _ [some (.ref a), some (.int p), some (.int x), some (.int y), none] H
  unfold t_Space_is_between
  walk_at "go"
  unfold betw at q
  refine g_ite (fun h => ?_) fun h => ?_
  · walk_at "go"
    rw [decide_eq_true h, Bool.true_and] at q
    refine g_ite (fun h2 => ?_) fun h2 => ?_
    · rw [decide_eq_true h2] at q; exact q
    · rw [decide_eq_false h2, Bool.false_or] at q
      walk_at "go"
      exact q
  · rw [decide_eq_false h] at q; exact q
end NN
namespace NN
open PySem L2
theorem g_iteV {b : Bool} {σ : St} {H : Hp} {ta tb : TE} {Q : VK} {v : V} (h1 : b = true → ∀ Q' : VK, Q' v H → ta σ H Q') (h2 : b = false → ∀ Q' : VK, Q' v H → tb σ H Q') (q : Q v H) : if b = true then ta σ H Q else tb σ H Q := by
  cases b with
  | true => exact h1 rfl Q q
  | false => exact h2 rfl Q q
theorem g_iteA {b : Bool} {σ : St} {H : Hp} {ta : TE} {Q : VK} {v w : V} (h1 : b = true → ∀ Q' : VK, Q' v H → ta σ H Q') (h2 : b = false → v = w) (q : Q v H) : if b = true then ta σ H Q else Q w H := by
  cases b with
  | true => exact h1 rfl Q q
  | false => rw [← h2 rfl]; exact q
/-! ### remainders by cases -/
theorem mod_a {z m : Int} (h1 : 0 ≤ z) (h2 : z < m) : z % m = z := Int.emod_eq_of_lt h1 h2
theorem mod_b {z m : Int} (h1 : m ≤ z) (h2 : z < 2 * m) : z % m = z - m := by
  have e := Int.add_mul_emod_self_left (z - m) m 1
  rw [Int.mul_one, Int.sub_add_cancel] at e
  rw [e, Int.emod_eq_of_lt (by omega) (by omega)]
theorem mod_c {z m : Int} (h1 : -m ≤ z) (h2 : z < 0) : z % m = z + m := by
  have e := Int.add_mul_emod_self_left z m 1
  rw [Int.mul_one] at e
  rw [← e, Int.emod_eq_of_lt (by omega) (by omega)]
theorem mod_s {z m : Int} (h1 : -m ≤ z) (h2 : z < m) : (0 ≤ z ∧ z % m = z) ∨ (z < 0 ∧ z % m = z + m) := by
  by_cases h : 0 ≤ z
  · exact .inl ⟨h, mod_a h h2⟩
  · exact .inr ⟨by omega, mod_c h1 (by omega)⟩
theorem mod_t {z m : Int} (h1 : 0 ≤ z) (h2 : z < 2 * m) : (z < m ∧ z % m = z) ∨ (m ≤ z ∧ z % m = z - m) := by
  by_cases h : z < m
  · exact .inl ⟨h, mod_a h1 h⟩
  · exact .inr ⟨by omega, mod_b (by omega) h2⟩
/-- how many points lie on the way -/
def wln (m x y : Int) : Nat := ((y - x - 1) % m).toNat
def wl (m x y : Int) (n : Nat) : List Int := (List.range n).map fun (j : Nat) => (x + 1 + (j : Int)) % m
theorem wl_len (m x y : Int) (n : Nat) : (wl m x y n).length = n := by unfold wl; rw [List.length_map, List.length_range]
theorem wl_succ (m x y : Int) (n : Nat) : wl m x y (n + 1) = wl m x y n ++ [(x + 1 + (n : Int)) % m] := by unfold wl; rw [List.range_succ, List.map_append]; rfl
theorem wln_lt {m x y : Int} (hm : 8 ≤ m) : ((wln m x y : Nat) : Int) < m ∧ ((wln m x y : Nat) : Int) = (y - x - 1) % m := by
  unfold wln
  have h1 := Int.emod_nonneg (y - x - 1) (show m ≠ 0 by omega)
  have h2 := Int.emod_lt_of_pos (y - x - 1) (show 0 < m by omega)
  omega
theorem wl_hit {m x y : Int} {n : Nat} (hm : 8 ≤ m) (hx : 0 ≤ x ∧ x < m) (hy : 0 ≤ y ∧ y < m) (hn : (n : Int) < m) : (x + 1 + (n : Int)) % m = y ↔ n = wln m x y := by
  have h1 := wln_lt (x := x) (y := y) hm
  rcases mod_s (z := y - x - 1) (m := m) (by omega) (by omega) with a | a <;> rcases mod_t (z := x + 1 + (n : Int)) (m := m) (by omega) (by omega) with b | b <;> constructor <;> intro h <;> omega
theorem betw_wl {m p x y : Int} (hm : 8 ≤ m) (hp : 0 ≤ p ∧ p < m) (hx : 0 ≤ x ∧ x < m) (hy : 0 ≤ y ∧ y < m) : betw m p x y = decide (p ∈ wl m x y (wln m x y)) := by
  have e : p ∈ wl m x y (wln m x y) ↔ wln m x p < wln m x y := by
    unfold wl
    rw [List.mem_map]
    constructor
    · rintro ⟨j, hj, e⟩
      rw [List.mem_range] at hj
      have z := wln_lt (x := x) (y := y) hm
      rw [wl_hit hm hx hp (by omega)] at e
      omega
    · intro h
      refine ⟨wln m x p, List.mem_range.mpr h, ?_⟩
      have z := wln_lt (x := x) (y := p) hm
      rw [wl_hit hm hx hp (by omega)]
  have h1 := wln_lt (x := x) (y := y) hm
  have h2 := wln_lt (x := x) (y := p) hm
  rw [Bool.eq_iff_iff]
  unfold betw
  simp only [Bool.and_eq_true, Bool.or_eq_true, decide_eq_true_eq]
  rw [e]
  rcases mod_s (z := y - x - 1) (m := m) (by omega) (by omega) with a | a <;> rcases mod_s (z := p - x - 1) (m := m) (by omega) (by omega) with b | b <;> rcases mod_s (z := p - x) (m := m) (by omega) (by omega) with c | c <;> rcases mod_s (z := y - x) (m := m) (by omega) (by omega) with d | d <;> constructor <;> intro h <;> omega
theorem betw_no {m p x y : Int} (h : p = x) : betw m p x y = false := by
  unfold betw
  rw [h, Int.sub_self, Int.zero_emod]
  rfl
theorem betw_pos {m p x : Int} (hm : 8 ≤ m) (hp : 0 ≤ p ∧ p < m) (hx : 0 ≤ x ∧ x < m) (h : p ≠ x) : 0 < (p - x) % m := by
  rcases mod_s (z := p - x) (m := m) (by omega) (by omega) with a | a <;> omega
theorem betw_T {m p x y : Int} (hm : 8 ≤ m) (hp : 0 ≤ p ∧ p < m) (hx : 0 ≤ x ∧ x < m) (h : p ≠ x) (h2 : x = y) : betw m p x y = true := by
  unfold betw
  rw [decide_eq_true (betw_pos hm hp hx h), decide_eq_true h2]
  rfl
theorem betw_L {m p x y : Int} (hm : 8 ≤ m) (hp : 0 ≤ p ∧ p < m) (hx : 0 ≤ x ∧ x < m) (h : p ≠ x) (h2 : ¬ x = y) : betw m p x y = decide ((p - x) % m < (y - x) % m) := by
  unfold betw
  rw [decide_eq_true (betw_pos hm hp hx h), decide_eq_false h2, Bool.true_and, Bool.false_or]
end NN
namespace NN
open PySem L2
local macro_rules | `(tactic| walk_at "ne") => `(tactic| first | assumption | (apply Ne.symm; assumption) | walk_at "neX" | (refine ne_dom ?_ (by assumption); walk_at "dm") | (refine Ne.symm (ne_dom ?_ (by assumption)); walk_at "dm"))
local macro_rules | `(tactic| walk_at "neX") => `(tactic| fail)
local macro_rules | `(tactic| walk_at "dm") => `(tactic| first | exact Dom.of (by assumption) | (refine Dom.at (by assumption) ?_ ?_; (walk_at "dm"); walk_at "nm"))
local macro_rules | `(tactic| walk_at "nm") => `(tactic| first | exact nm0 | (refine nm1 ?_; walk_at "ne") | (refine nm2 ?_ ?_; (walk_at "ne"); walk_at "nm"))
local macro_rules | `(tactic| walk_at "tr") => `(tactic| first | assumption | exact upd_same | (refine Kp.at (by assumption) ?_ ?_; (walk_at "tr"); walk_at "nm") | (rw [upd_ne (by walk_at "ne")]; walk_at "tr"))
local macro_rules | `(tactic| walk_at "sq") => `(tactic| first | assumption | exact SqL.of (by walk_at "tr") | (refine Kp.seq0 ?_ (by assumption); walk_at "kp") | (refine Kp.seq (by assumption) (by walk_at "nm") ?_; walk_at "sq"))
local macro_rules | `(tactic| walk_at "fr") => `(tactic| first | assumption | (refine Kp.free (S := []) ?_ nm0 (by assumption); walk_at "kp") | (refine Kp.free (by assumption) (by walk_at "nm") ?_; assumption) | (refine Kp.free (by assumption) (by walk_at "nm") ?_; walk_at "fr"))
local macro_rules | `(tactic| walk_at "al") => `(tactic| first | exact al0 | (refine al1 ?_ ?_; (first | exact Or.inl List.mem_cons_self | exact Or.inl (List.mem_cons_of_mem _ List.mem_cons_self) | (refine Or.inr ?_; walk_at "fr")); walk_at "al"))
local macro_rules | `(tactic| walk_at "kp") => `(tactic| first | assumption | exact Kp.refl | exact KpC.k (by assumption) | (refine Kp.step ?_ (by assumption) ?_; (walk_at "kp"); walk_at "al"))
local macro_rules | `(tactic| walk_at "ar") => `(tactic| first | omega | (simp only [List.length_cons, List.length_nil, List.length_append, List.length_map, List.length_set, List.length_take, List.length_drop] <;> omega) | decide)
local macro_rules | `(tactic| walk_at "cond") => `(tactic| first | assumption | exact c_mulB | (exact c_mulL (by walk_at "nl") (by walk_at "nl")) | (exact c_mulR (by walk_at "nl") (by walk_at "nl")) | (exact c_divW (by walk_at "nl") (by walk_at "nl")) | (exact c_pow (by walk_at "nl") (by walk_at "nl") (by walk_at "nl")) | walk_at "nl")
local macro_rules | `(tactic| walk_at "nl") => `(tactic| first | with_reducible assumption | omega | (simp only [List.length_map] <;> omega))
local macro_rules | `(tactic| walk_at "set") => `(tactic| first | exact set_0 | exact set_1 | exact set_2 | exact set_3 | exact set_4 | exact set_5 | exact set_6 | exact set_7 | exact set_8 | exact set_9 | exact set_10 | exact set_11 | exact set_12 | exact set_13 | exact set_14 | exact set_15 | exact set_16 | exact set_17 | exact set_18 | exact set_19 | exact set_20 | exact set_21 | exact set_22 | exact set_23)
local macro_rules | `(tactic| walk_at "sz") => `(tactic| first | exact sz_small (by simp only [List.length_cons, List.length_nil]; decide) | exact sz_small (by decide) | exact sz_small (by walk_at "ar"))
local macro_rules | `(tactic| walk_at "sl") => `(tactic| first | exact sz_less (by walk_at "ar"))
local macro_rules | `(tactic| walk_at "at") => `(tactic| first | assumption | exact at_0 | exact at_1 | exact at_2 | exact at_3 | exact at_4 | exact at_5 | exact at_6 | exact at_7 | exact at_8 | exact at_9 | exact at_10 | exact at_11 | exact at_12 | exact at_13 | exact at_14 | exact at_15 | exact atI_nat (by assumption))
local macro_rules | `(tactic| walk_at "flat") => `(tactic| first | exact ints_flat _ | rfl | assumption | decide)
local macro_rules | `(tactic| walk_at "call") => `(tactic| fail)
local macro_rules | `(tactic| walk_at "go1") => `(tactic| first | ((with_reducible refine Stp.imp ?_)) | (((with_reducible refine' g_eqc ?h0 ?_); (case h0 => rfl))) | (((with_reducible refine' g_I ?h0 ?_); (case h0 => walk_at "cond"))) | (((with_reducible refine' g_eq ?h0 ?_); (case h0 => with_unfolding_all rfl))) | (((with_reducible refine' g_ne ?h0 ?_); (case h0 => with_unfolding_all rfl))) | (((with_reducible refine' g_lenL ?h0 ?_); (case h0 => walk_at "sq"))) | (((with_reducible refine' h_listL ?h0 ?_); (case h0 => walk_at "sq"); intro _ _ _ _ _)) | (((with_reducible refine' h_slTo ?h0 ?h1 ?_); (case h0 => walk_at "sq"); (case h1 => walk_at "nl"); intro _ _ _ _ _)) | (((with_reducible refine' h_slFrom ?h0 ?h1 ?_); (case h0 => walk_at "sq"); (case h1 => walk_at "nl"); intro _ _ _ _ _)) | (((with_reducible refine' h_slL ?h0 ?_); (case h0 => walk_at "sq"); intro _ _ _ _ _)) | (((with_reducible refine' g_ixL ?h0 ?h1 ?_); (case h0 => walk_at "sq"); (case h1 => walk_at "at"))) | (((with_reducible refine' g_in ?h0 ?h1 ?h2 ?_); (case h0 => walk_at "sq"); (case h1 => with_unfolding_all rfl); (case h2 => walk_at "flat"))) | (((with_reducible refine' h_setLI ?h0 ?h1 ?_); (case h0 => walk_at "tr"); (case h1 => walk_at "ixn"); intro _ _ _)) | (((with_reducible refine' h_setL ?h0 ?h1 ?_); (case h0 => walk_at "tr"); (case h1 => with_unfolding_all rfl); intro _ _ _)) | (((with_reducible refine' h_appendI ?h0 ?h1 ?_); (case h0 => walk_at "tr"); (case h1 => walk_at "sl"); intro _ _ _)) | (((with_reducible refine' h_append ?h0 ?h1 ?_); (case h0 => walk_at "tr"); (case h1 => walk_at "sl"); intro _ _ _)) | (((with_reducible refine' g_sz ?h0 ?_); (case h0 => walk_at "sz"); intro p hp; generalize hg : upd _ p _ = H2; have hk := Kp.of_upd hg hp; have hs := at_upd hg; clear hg)) | (((with_reducible refine' g_tyL ?h0 ?_); (case h0 => walk_at "sq"))) | (((with_reducible refine' h_catI ?h0 ?h1 ?h2 ?_); (case h0 => walk_at "tr"); (case h1 => walk_at "tr"); (case h2 => walk_at "sz"); intro _ _ _ _ _)) | (((with_reducible refine' h_catI1 ?h0 ?h1 ?h2 ?_); (case h0 => walk_at "tr"); (case h1 => walk_at "tr"); (case h2 => walk_at "sz"); intro _ _ _ _ _)) | (((with_reducible refine' h_catI2 ?h0 ?h1 ?h2 ?_); (case h0 => walk_at "tr"); (case h1 => walk_at "tr"); (case h2 => walk_at "sz"); intro _ _ _ _ _)) | (((with_reducible refine' h_cat ?h0 ?h1 ?h2 ?_); (case h0 => walk_at "tr"); (case h1 => walk_at "tr"); (case h2 => walk_at "sz"); intro _ _ _ _ _)) | (((with_reducible refine' h_idx ?h0 ?h1 ?_); (case h0 => walk_at "sq"); (case h1 => assumption))) | (((with_reducible refine' h_insertI ?h0 ?h1 ?h2 ?h3 ?_); (case h0 => walk_at "tr"); (case h1 => walk_at "sl"); (case h2 => decide); (case h3 => decide); intro _ _ _)) | (((with_reducible refine' h_insert ?h0 ?h1 ?h2 ?h3 ?_); (case h0 => walk_at "tr"); (case h1 => walk_at "sl"); (case h2 => decide); (case h3 => decide); intro _ _ _)) | walk_at "call")
local macro_rules | `(tactic| walk_at "go") => `(tactic| (repeat walk_at "go1"); (try dsimp only))
local macro_rules | `(tactic| walk_at "on") => `(tactic| (with_reducible refine g_seq ?_); walk_at "go")
local macro_rules | `(tactic| walk_at "ixn") => `(tactic| first | with_unfolding_all rfl | exact ixN_lit (j := 0) rfl (by walk_at "ar") | exact ixN_nat (by walk_at "ar"))
local macro_rules | `(tactic| walk_at "ifs") => `(tactic| ((try simp only [List.length_map]) <;> (repeat' split) <;> omega))
local macro_rules | `(tactic| walk_at "dp") => `(tactic| first | exact Dp.int _ | exact Dp.non | exact Dp.str _ | exact Dp.bl _ | exact dp_ints (by walk_at "sq") | (apply Dp.lst; (walk_at "sq"); walk_at "dpA") | (apply Dp.tup; (walk_at "st"); walk_at "dpA"))
local macro_rules | `(tactic| walk_at "dpA") => `(tactic| first | exact DpAll.nil | (apply DpAll.cons; (walk_at "dp"); walk_at "dpA"))
local macro_rules | `(tactic| walk_at "sh") => `(tactic| first | exact Sh.int | exact Sh.non | exact Sh.bool | exact Sh.list ShA.ints | (refine Sh.list ?_; walk_at "shA") | (refine Sh.tuple ?_; walk_at "shA"))
local macro_rules | `(tactic| walk_at "shA") => `(tactic| first | exact ShA.nil | exact ShA.ints | (refine ShA.cons ?_ ?_; (walk_at "sh"); walk_at "shA"))
local macro_rules | `(tactic| walk_at "st") => `(tactic| first | assumption | exact SqT.of (by walk_at "tr"))
local macro_rules | `(tactic| walk_at "pot") => `(tactic| first | assumption | (refine PotAt.kp (by assumption) (by walk_at "nm") ?_; walk_at "pot"))
local macro_rules | `(tactic| walk_at "spa") => `(tactic| first | assumption | (refine SpAt.kp (by assumption) (by walk_at "nm") ?_; walk_at "spa"))
local macro_rules | `(tactic| walk_at "neX") => `(tactic| first | (refine PotAt.ne (by assumption) ?_ (by assumption); walk_at "pot") | (refine PotAt.nonneg (by assumption) ?_ (by assumption); walk_at "pot") | (refine SpAt.ne (by assumption) ?_ (by assumption); walk_at "spa") | (refine SpAt.nonneg (by assumption) ?_ (by assumption); walk_at "spa"))
def sp__law_take (_ : PySem.W.Frag) (_ : Ad) : Sp := fun vs H Q _ => ∃ (p : Addr) (n : Int), vs = [.ref p, .int n] ∧ PotAt H p ∧ 0 < n ∧ n < 2 ^ 200 ∧ ∀ (r : Int) (H' : Hp), 0 ≤ r → r < n → Kp [p] H H' → PotAt H' p → Q (.int r) H'
theorem use_take {K : PySem.W.Frag} {Z : Ad} {H : Hp} {vs : List V} {p : Addr} {n : Int} {Q : VK} (h : PotAt H p) (h0 : 0 < n) (h1 : n < 2 ^ 200) (q : ∀ (r : Int) (H' : Hp), 0 ≤ r → r < n → Kp [p] H H' → PotAt H' p → Q (.int r) H') {E : XK} (e : vs = [.ref p, .int n]) : sp__law_take K Z vs H Q E :=
  ⟨p, n, e, h, h0, h1, q⟩
local macro_rules | `(tactic| walk_at "call") => `(tactic| first
  | ((with_reducible refine' use_take ?h0 ?h1 ?h2 ?_ ?e); (case e => rfl); (case h0 => walk_at "pot"); (case h1 => walk_at "nl"); (case h2 => walk_at "nl"); intro _ _ _ _ _ _))
def t__law_take (K : PySem.W.Frag) (Z : Ad) : TS :=
  (tSeq (tIfS (tTest (tOp rGt (tOp (rIxL K) (tVar 0) (tC (.int 0))) (tC (.int 0)))) (tSeq (tAsg (tOp rMod0 (tOp (rIxL K) (tVar 0) (tC (.int 0))) (tVar 1)) (gName 2))
  (tSeq (tAsg (tOp rDivW (tOp (rIxL K) (tVar 0) (tC (.int 0))) (tVar 1)) (gSub (tVar 0) (tC (.int 0)) rSetL))
  (tRet (tVar 2)))) tNext)
  (tSeq (tAsg (tOp rMod0 (tOp rAdd0 (tOp rMul0 (tOp (rIxL K) (tVar 0) (tC (.int 1))) (tC (.int 39373))) (tC (.int 2311))) (tC (.int 2147483629))) (gSub (tVar 0) (tC (.int 1)) rSetL))
  (tRet (tOp rMod0 (tOp rDivW (tOp rMod0 (tOp rMul0 (tOp (rIxL K) (tVar 0) (tC (.int 1))) (tOp (rIxL K) (tVar 0) (tC (.int 1)))) (tC (.int 2147483587))) (tC (.int 17))) (tVar 1)))))
theorem rd__law_take (K : PySem.W.Frag) (Z : Ad) : ∀ vs H Q E, sp__law_take K Z vs H Q E → t__law_take K Z { nx := fun _ H' => Q .non H', rt := Q } (start (["_law_pot_here", "_law_room", "_law_digit"]) vs) H := by
  rintro _ H Q E ⟨p, n, rfl, ⟨x, y, hp, hy0, hy1⟩, h0, h1, q⟩
  show t__law_take K Z _ [some (.ref p), some (.int n), none] H
  unfold t__law_take
  walk_at "go"
  walk_at "on"
  refine g_ite (fun hx => ?_) fun hx => ?_
  · walk_at "go"
    refine q _ _ (Int.emod_nonneg _ (by omega)) (Int.emod_lt_of_pos _ h0) (by walk_at "kp") ⟨x / n, y, by assumption, hy0, hy1⟩
  · walk_at "go"
    refine q _ _ (Int.emod_nonneg _ (by omega)) (Int.emod_lt_of_pos _ h0) (by walk_at "kp") ⟨x, _, by assumption, by omega, by omega⟩
def sp__law_pot (K : PySem.W.Frag) (_ : Ad) : Sp := fun vs H Q _ => ∃ (a : Addr) (ns : List Int) (k : Int), vs = [.ref a, .int k] ∧ SqL K H a (ns.map V.int) ∧ ns.length ≤ 63 ∧ 0 ≤ k ∧ k ≤ 100 ∧ ∀ (p : Addr) (H' : Hp), H p = none → Kp [] H H' → PotAt H' p → Q (.ref p) H'
def t__law_pot (K : PySem.W.Frag) (Z : Ad) : TS :=
  (tSeq (tAsg (tC (.int 0)) (gName 2))
  (tSeq (tIfS (tTest (tOp rLt (tVar 1) (tCB (rLenS K) (tCons (tVar 0) tNil)))) (tAsg (tOp (rIxL K) (tVar 0) (tVar 1)) (gName 2)) tNext)
  (tSeq (tAsg (tOp rAdd0 (tC (.int 1000003)) (tOp rMul0 (tC (.int 7919)) (tVar 1))) (gName 3))
  (tSeq (tFor (iList K (tSl (rSlL K) (tVar 0) tNoPart (tPart (tC (.int 63))))) (gName 4) (tAsg (tOp rMod0 (tOp rAdd0 (tOp rMul0 (tVar 3) (tC (.int 39373))) (tVar 4)) (tC (.int 2147483629))) (gName 3)))
  (tRet (tLst (tCons (tOp rMul0 (tVar 2) (tCB rInt1 (tCons (tOp rGe (tVar 2) (tOp rPow0 (tC (.int 10)) (tC (.int 18)))) tNil))) (tCons (tVar 3) tNil))))))))
theorem rd__law_pot (K : PySem.W.Frag) (Z : Ad) : ∀ vs H Q E, sp__law_pot K Z vs H Q E → t__law_pot K Z { nx := fun _ H' => Q .non H', rt := Q } (start (["_law_script", "_law_k", "_law_cell", "_law_mixed", "_law_one"]) vs) H := by
  rintro _ H Q E ⟨a, ns, k, rfl, hs, hl, hk0, hk1, q⟩
  show t__law_pot K Z _ [some (.ref a), some (.int k), none, none, none] H
  unfold t__law_pot
  walk_at "go"
  refine g_seqJ (M := fun σ' H' => ∃ c, σ' = [some (.ref a), some (.int k), some (.int c), none, none] ∧ H = H') ?_ ?_
  · rintro _ _ ⟨c, rfl, rfl⟩
    walk_at "go"
    rename_i l H2 _ _ _
    refine f_list (by walk_at "sq") (fun i σ' H' => ∃ m y, σ' = [some (.ref a), some (.int k), some (.int c), some (.int m), y] ∧ Kp [] H H' ∧ Kp [] H2 H' ∧ (m = 1000003 + 7919 * k ∨ 0 ≤ m ∧ m < 2147483629)) ?_ ?_ ?_ ?_
    · exact ⟨_, _, rfl, by walk_at "kp", by walk_at "kp", .inl rfl⟩
    · rintro i _ H3 _ ⟨m, y, rfl, _, _, _⟩
      walk_at "sq"
    · rintro i x _ H3 hx ⟨m, y, rfl, _, _, _⟩
      obtain ⟨n, _, rfl⟩ := ints_at hx
      walk_at "go"
      exact ⟨_, _, rfl, by walk_at "kp", by walk_at "kp", by omega⟩
    · rintro _ H3 ⟨m, y, rfl, _, _, _⟩
      walk_at "go"
      exact q _ _ (by walk_at "fr") (by walk_at "kp") ⟨_, m, by assumption, by omega, by omega⟩
  · intro N F
    walk_at "go"
    refine g_ite (fun hx => ?_) fun _ => ?_
    · obtain ⟨n, e1, e2⟩ := ints_ix hk0 (by rw [List.length_map] at hx; exact hx)
      walk_at "go"
      exact F _ _ ⟨n, rfl, rfl⟩
    · walk_at "go"
      exact F _ _ ⟨0, rfl, rfl⟩
/-- how a draw of bits, of a point goes on -/
def sp__law_bits (_ : PySem.W.Frag) (_ : Ad) : Sp := fun vs H Q _ => ∃ (p : Addr), vs = [.ref p] ∧ PotAt H p ∧ ∀ (r : Int) (H' : Hp), 3 ≤ r → r ≤ 32 → Kp [p] H H' → PotAt H' p → Q (.int r) H'
theorem use_bits {K : PySem.W.Frag} {Z : Ad} {H : Hp} {vs : List V} {p : Addr} {Q : VK} (h : PotAt H p) (q : ∀ (r : Int) (H' : Hp), 3 ≤ r → r ≤ 32 → Kp [p] H H' → PotAt H' p → Q (.int r) H') {E : XK} (e : vs = [.ref p]) : sp__law_bits K Z vs H Q E := ⟨p, e, h, q⟩
def t__law_bits (K : PySem.W.Frag) (Z : Ad) : TS :=
  (tRet (tOp (rIxL K) (tLst (tCons (tC (.int 3)) (tCons (tC (.int 4)) (tCons (tOp rAdd0 (tC (.int 3)) (tCl (sp__law_take K Z) [.pos 0, .pos 1] [] [] 2 0 (fun _ => E0) (tCons (tVar 0) (tCons (tC (.int 6)) tNil)) tNil)) (tCons (tOp rAdd0 (tC (.int 3)) (tCl (sp__law_take K Z) [.pos 0, .pos 1] [] [] 2 0 (fun _ => E0) (tCons (tVar 0) (tCons (tC (.int 30)) tNil)) tNil)) tNil))))) (tCl (sp__law_take K Z) [.pos 0, .pos 1] [] [] 2 0 (fun _ => E0) (tCons (tVar 0) (tCons (tC (.int 4)) tNil)) tNil)))
theorem rd__law_bits (K : PySem.W.Frag) (Z : Ad) : ∀ vs H Q E, sp__law_bits K Z vs H Q E → t__law_bits K Z { nx := fun _ H' => Q .non H', rt := Q } (start (["_law_pot_here"]) vs) H := by
  rintro _ H Q E ⟨p, rfl, hp, q⟩
  show t__law_bits K Z _ [some (.ref p)] H
  unfold t__law_bits
  walk_at "go"
  rename_i r1 H1 _ _ _ _ r2 H2 _ _ _ _ _ _ _ _ _ r3 _ _ _ _ _
  obtain ⟨n, e1, e2⟩ := ints_ix (ns := [3, 4, 3 + r1, 3 + r2]) (j := r3) (by assumption) (by walk_at "ar")
  have e3 := List.mem_of_getElem? e1
  simp only [List.mem_cons, List.not_mem_nil, or_false] at e3
  refine g_ixL (by walk_at "sq") e2 (q _ _ (by omega) (by omega) (by walk_at "kp") (by walk_at "pot"))
def sp__law_point (_ : PySem.W.Frag) (_ : Ad) : Sp := fun vs H Q _ => ∃ (p : Addr) (size near : Int), vs = [.ref p, .int size, .int near] ∧ PotAt H p ∧ 0 < size ∧ size < 2 ^ 200 ∧ ∀ (r : Int) (H' : Hp), 0 ≤ r → r < size → Kp [p] H H' → PotAt H' p → Q (.int r) H'
theorem use_point {K : PySem.W.Frag} {Z : Ad} {H : Hp} {vs : List V} {p : Addr} {size near : Int} {Q : VK} (h : PotAt H p) (h0 : 0 < size) (h1 : size < 2 ^ 200) (q : ∀ (r : Int) (H' : Hp), 0 ≤ r → r < size → Kp [p] H H' → PotAt H' p → Q (.int r) H') {E : XK} (e : vs = [.ref p, .int size, .int near]) : sp__law_point K Z vs H Q E :=
  ⟨p, size, near, e, h, h0, h1, q⟩
def t__law_point (K : PySem.W.Frag) (Z : Ad) : TS :=
  (tSeq (tAsg (tCl (sp__law_take K Z) [.pos 0, .pos 1] [] [] 2 0 (fun _ => E0) (tCons (tVar 0) (tCons (tC (.int 4)) tNil)) tNil) (gName 3))
  (tSeq (tAsg (tCl (sp__law_take K Z) [.pos 0, .pos 1] [] [] 2 0 (fun _ => E0) (tCons (tVar 0) (tCons (tVar 1) tNil)) tNil) (gName 4))
  (tRet (tOp (rIxL K) (tLst (tCons (tVar 4) (tCons (tOp rMod0 (tOp rSub0 (tOp rAdd0 (tVar 2) (tOp rMod0 (tVar 4) (tC (.int 9)))) (tC (.int 4))) (tVar 1)) (tCons (tOp rMod0 (tOp rAdd0 (tVar 2) (tOp rMod0 (tVar 4) (tC (.int 3)))) (tVar 1)) (tCons (tVar 4) tNil))))) (tVar 3)))))
theorem rd__law_point (K : PySem.W.Frag) (Z : Ad) : ∀ vs H Q E, sp__law_point K Z vs H Q E → t__law_point K Z { nx := fun _ H' => Q .non H', rt := Q } (start (["_law_pot_here", "_law_size_here", "_law_near", "_law_way", "_law_far"]) vs) H := by
  rintro _ H Q E ⟨p, size, near, rfl, hp, h0, h1, q⟩
  show t__law_point K Z _ [some (.ref p), some (.int size), some (.int near), none, none] H
  unfold t__law_point
  walk_at "go"
  rename_i w _ _ _ _ _ r _ _ _ _ _ _ _ _ _ _
  obtain ⟨n, e1, e2⟩ := ints_ix (ns := [r, (near + r % 9 - 4) % size, (near + r % 3) % size, r]) (j := w) (by assumption) (by walk_at "ar")
  have e3 := List.mem_of_getElem? e1
  simp only [List.mem_cons, List.not_mem_nil, or_false] at e3
  have b1 := Int.emod_nonneg (near + r % 9 - 4) (show size ≠ 0 by omega)
  have b2 := Int.emod_lt_of_pos (near + r % 9 - 4) h0
  have b3 := Int.emod_nonneg (near + r % 3) (show size ≠ 0 by omega)
  have b4 := Int.emod_lt_of_pos (near + r % 3) h0
  have b : 0 ≤ n ∧ n < size := by
    rcases e3 with e | e | e | e <;> subst e <;> (constructor <;> assumption)
  refine g_ixL (by walk_at "sq") e2 (q _ _ b.1 b.2 (by walk_at "kp") (by walk_at "pot"))
/-- all points of a list lie in the space -/
def InSp (size : Int) (ns : List Int) : Prop := ∀ n ∈ ns, 0 ≤ n ∧ n < size
def sp__law_points (_ : PySem.W.Frag) (_ : Ad) : Sp := fun vs H Q _ => ∃ (p : Addr) (size near room : Int), vs = [.ref p, .int size, .int near, .int room] ∧ PotAt H p ∧ 0 < size ∧ size < 2 ^ 200 ∧ 0 < room ∧ room ≤ 100 ∧
  ∀ (l : Addr) (ns : List Int) (H' : Hp), H l = none → H' l = some (.lst (ns.map V.int)) → 0 < ns.length → (ns.length : Int) ≤ room → InSp size ns → Kp [p] H H' → PotAt H' p → Q (.ref l) H'
theorem use_points {K : PySem.W.Frag} {Z : Ad} {H : Hp} {vs : List V} {p : Addr} {size near room : Int} {Q : VK} (h : PotAt H p) (h0 : 0 < size) (h1 : size < 2 ^ 200) (h2 : 0 < room) (h3 : room ≤ 100)
    (q : ∀ (l : Addr) (ns : List Int) (H' : Hp), H l = none → H' l = some (.lst (ns.map V.int)) → 0 < ns.length → (ns.length : Int) ≤ room → InSp size ns → Kp [p] H H' → PotAt H' p → Q (.ref l) H') {E : XK} (e : vs = [.ref p, .int size, .int near, .int room]) : sp__law_points K Z vs H Q E :=
  ⟨p, size, near, room, e, h, h0, h1, h2, h3, q⟩
local macro_rules | `(tactic| walk_at "call") => `(tactic| first
  | ((with_reducible refine' use_take ?h0 ?h1 ?h2 ?_ ?e); (case e => rfl); (case h0 => walk_at "pot"); (case h1 => walk_at "nl"); (case h2 => walk_at "nl"); intro _ _ _ _ _ _)
  | ((with_reducible refine' use_point ?h0 ?h1 ?h2 ?_ ?e); (case e => rfl); (case h0 => walk_at "pot"); (case h1 => walk_at "nl"); (case h2 => walk_at "nl"); intro _ _ _ _ _ _)
  | ((with_reducible refine' use_bits ?h0 ?_ ?e); (case e => rfl); (case h0 => walk_at "pot"); intro _ _ _ _ _ _)
  | ((with_reducible refine' use_points ?h0 ?h1 ?h2 ?h3 ?h4 ?_ ?e); (case e => rfl); (case h0 => walk_at "pot"); (case h1 => walk_at "nl"); (case h2 => walk_at "nl"); (case h3 => walk_at "nl"); (case h4 => walk_at "nl"); intro _ _ _ _ _ _ _ _ _ _))
def t__law_points (K : PySem.W.Frag) (Z : Ad) : TS :=
  (tRet (tLc (iRng1 (tCons (tOp rAdd0 (tC (.int 1)) (tCl (sp__law_take K Z) [.pos 0, .pos 1] [] [] 2 0 (fun _ => E0) (tCons (tVar 0) (tCons (tVar 3) tNil)) tNil)) tNil)) (gName 4) tYes (tCl (sp__law_point K Z) [.pos 0, .pos 1, .pos 2] [] [] 3 0 (fun _ => E0) (tCons (tVar 0) (tCons (tVar 1) (tCons (tVar 2) tNil))) tNil) [4]))
theorem rd__law_points (K : PySem.W.Frag) (Z : Ad) : ∀ vs H Q E, sp__law_points K Z vs H Q E → t__law_points K Z { nx := fun _ H' => Q .non H', rt := Q } (start (["_law_pot_here", "_law_size_here", "_law_near", "_law_room", "_law_k"]) vs) H := by
  rintro _ H Q E ⟨p, size, near, room, rfl, hp, h0, h1, h2, h3, q⟩
  show t__law_points K Z _ [some (.ref p), some (.int size), some (.int near), some (.int room), none] H
  unfold t__law_points
  walk_at "go"
  rename_i r H1 hr0 hr1 hk1 hp1
  refine c_rng1 (r.toNat + 1) (by omega) (by omega) (by omega) (fun D i H' => ∃ ns : List Int, H' D = some (.lst (ns.map V.int)) ∧ ns.length = i ∧ InSp size ns ∧ Kp [p] H1 H' ∧ PotAt H' p) ?_ ?_ ?_
  · intro D hD
    exact ⟨[], upd_same, rfl, (fun _ z => nomatch z), Kp.refl.new hD, hp1.kp (S := []) (Kp.refl.new hD) nm0⟩
  · rintro D i H2 hD hi ⟨ns, e1, e2, e3, k2, hp2⟩
    dsimp only [wipe, List.set]
    walk_at "go"
    rename_i y H3 hy0 hy1 k3 hp3
    have eD : H3 D = some (.lst (ns.map V.int)) := k3 _ _ e1 (nm1 (PotAt.nonneg hp1 hp1 hD))
    refine ⟨_, eD, sz_less (by rw [List.length_map]; omega), ns ++ [y], ?_, ?_, ?_, ?_, ?_⟩
    · rw [upd_same, List.map_append]; rfl
    · rw [List.length_append, e2]; rfl
    · intro n hn
      rcases List.mem_append.mp hn with z | z
      · exact e3 n z
      · rw [List.mem_singleton.mp z]; exact ⟨hy0, hy1⟩
    · exact (k2.trans k3).own hD
    · obtain ⟨x', y', e, z⟩ := hp3
      exact ⟨x', y', by rw [upd_ne (PotAt.ne hp1 hp1 hD)]; exact e, z⟩
  · rintro D H2 hD ⟨ns, e1, e2, e3, k2, hp2⟩
    exact q D ns H2 (by walk_at "fr") e1 (by omega) (by omega) e3 (by walk_at "kp") hp2
end NN
/-! own: zip(a, b, strict=True) of two lists of one length -/
namespace NZ
open PySem
open PySem.Sem (wp)
theorem typeCall_zipS (a b : Value) : checkTypeCall "zip" ⟨[a, b], [(Str.ofString "strict", .bool true)]⟩ = pure () := by kernel_rfl
theorem newCall_zipS (a b : Value) : checkBuiltinCall "zip.__new__" ⟨[.type "zip", a, b], [(Str.ofString "strict", .bool true)]⟩ = pure () := by kernel_rfl
theorem args_object_initS (obj a b : Value) : argsOk "object.__init__" ⟨[obj, a, b], [(Str.ofString "strict", .bool true)]⟩ := by unfold argsOk; kernel_rfl
/-- a strict zip -/
abbrev IsZipS (h : Heap) (z TI TO : Addr) (f0 : Value) : Prop :=
  h.get? z = some { cls := .type "zip", dict := none, data := .fields #[f0, .bool false, .bool true, .ref TI, .ref TO], slots := #[] }
section
variable {prog : Program} {w : World} {A : Around} {E : Value → Shared → Prop} {s : Shared}
theorem nextOrEnd_item {it l : Addr} {i : Nat} {items} {x : Value} {Q : Option Value → Shared → Prop} (hit : s.heap.IsListIter it l i) (hl : s.heap.IsList l items) (hx : items[i]? = some x)
    (hQ : ∀ h', h'.IsListIter it l (i + 1) → Heap.SameBut it s.heap h' → Q (some x) { s with heap := h' }) : wpAny (model prog w) A (Builtin.SmallTypes.nextOrEnd (.ref it)) Q E s := by
  unfold Builtin.SmallTypes.nextOrEnd
  exact wpAny_bind (wpAny_attempt (wpAny_nextOf_list_item hit hl hx fun h' a b => wpAny_pure (hQ h' a b)))
theorem nextOrEnd_end {it l : Addr} {i : Nat} {items} {Q : Option Value → Shared → Prop} (hh : A.handled = none) (hit : s.heap.IsListIter it l i) (hl : s.heap.IsList l items) (hx : items[i]? = none)
    (hQ : ∀ h', Heap.ExtBut it s.heap h' → Q none { s with heap := h' }) : wpAny (model prog w) A (Builtin.SmallTypes.nextOrEnd (.ref it)) Q E s := by
  unfold Builtin.SmallTypes.nextOrEnd
  refine wpAny_bind (wpAny_attempt (wpAny_nextOf_list_end hh hit hl hx fun h' e k he => ?_))
  obtain ⟨o, ho, hc⟩ := he
  exact wpAny_bind (wpAny_isInstance (T := "StopIteration") (b := true) ⟨o, ho, hc⟩ isSubtype_stop (wpAny_pure (hQ _ k)))
theorem zip_next_item {z TI TO i1 i2 l1 l2 : Addr} {k1 k2 : Nat} {xs ys : Array Value} {x y a b : Value} {Q : Value → Shared → Prop} (D : ZipApart z TI TO i1 i2 l1 l2)
    (hz : IsZipS s.heap z TI TO .none) (hTI : IsPair s.heap TI (.ref i1) (.ref i2)) (hTO : IsPair s.heap TO a b)
    (h1 : s.heap.IsListIter i1 l1 k1) (h2 : s.heap.IsListIter i2 l2 k2) (hl1 : s.heap.IsList l1 xs) (hl2 : s.heap.IsList l2 ys) (hx : xs[k1]? = some x) (hy : ys[k2]? = some y)
    (hQ : ∀ h', IsZipS h' z TI TO (rawInt s.heap.objs.size) → IsPair h' TO x y → h'.IsListIter i1 l1 (k1 + 1) → h'.IsListIter i2 l2 (k2 + 1) → IsPair h' s.heap.objs.size x y → h'.objs.size = s.heap.objs.size + 1 →
      (∀ c o, c ≠ z → c ≠ TO → c ≠ i1 → c ≠ i2 → s.heap.get? c = some o → h'.get? c = some o) → Q (.ref s.heap.objs.size) { s with heap := h' }) :
    wpAny (model prog w) A (Builtin.«zip.__next__» ⟨[.ref z], []⟩) (fun fin s' => ∃ v, fin = .done (.ret v) ∧ Q v s') E s := by
  show wpAny _ _ (field (.ref z) 2 >>= _) _ _ _
  refine wpAny_bind (wpAny_field hz rfl (x := .bool true) rfl ?_)
  show wpAny _ _ (field (.ref z) 3 >>= _) _ _ _
  refine wpAny_bind (wpAny_field hz rfl (x := .ref TI) rfl ?_)
  refine wpAny_bind (wpAny_seqItems hTI rfl ?_)
  show wpAny _ _ (Builtin.SmallTypes.ownedTupleIsFree (.ref z) >>= _) _ _ _
  refine wpAny_bind ?_
  unfold Builtin.SmallTypes.ownedTupleIsFree
  refine wpAny_bind (wpAny_field hz rfl (x := .none) rfl (wpAny_pure ?_))
  simp only [if_true]
  refine wpAny_bind (wpAny_rule ?_)
  refine wpAny_bind (wpAny_field hz rfl (x := .ref TO) rfl ?_)
  refine wpAny_bind (wpAny_setField_rec hz (by simp) fun h₁ hz₁ hs₁ => ?_)
  replace hz₁ : IsZipS h₁ z TI TO .ellipsis := hz₁
  refine wpAny_bind ?_
  simp only [List.zipIdx_cons, List.zipIdx_nil, List.forIn_cons, List.forIn_nil]
  refine wpAny_bind (wpAny_bind (wpAny_onRaise ?_))
  show wpAny _ _ (Builtin.SmallTypes.nextOrEnd (.ref i1)) _ _ _
  refine nextOrEnd_item (h1.extBut hs₁.extBut D.i1z) (hl1.extBut hs₁.extBut D.l1z) hx fun h₂ h1₂ hs₂ => ?_
  have hTO₂ : IsPair h₂ TO a b := hs₂.extBut _ _ D.TOi1 (hs₁.extBut _ _ D.TOz hTO)
  refine wpAny_bind (wpAny_seqItems hTO₂ rfl ?_)
  refine wpAny_bind (wpAny_updateSeq_pair hTO₂ fun h₃ hTO₃ hs₃ => ?_)
  replace hTO₃ : IsPair h₃ TO x b := hTO₃
  refine wpAny_bind (wpAny_letGo (wpAny_pure ?_))
  refine wpAny_bind (wpAny_bind (wpAny_onRaise ?_))
  show wpAny _ _ (Builtin.SmallTypes.nextOrEnd (.ref i2)) _ _ _
  refine nextOrEnd_item (((h2.extBut hs₁.extBut D.i2z).extBut hs₂.extBut D.i12.symm).extBut hs₃.extBut D.TOi2.symm)
    (((hl2.extBut hs₁.extBut D.l2z).extBut hs₂.extBut D.l2i1).extBut hs₃.extBut D.l2TO) hy fun h₄ h2₄ hs₄ => ?_
  have hTO₄ : IsPair h₄ TO x b := hs₄.extBut _ _ D.TOi2 hTO₃
  refine wpAny_bind (wpAny_seqItems hTO₄ rfl ?_)
  refine wpAny_bind (wpAny_updateSeq_pair hTO₄ fun h₅ hTO₅ hs₅ => ?_)
  replace hTO₅ : IsPair h₅ TO x y := hTO₅
  refine wpAny_bind (wpAny_letGo (wpAny_pure (wpAny_pure ?_)))
  refine wpAny_bind (wpAny_seqItems hTO₅ rfl ?_)
  refine wpAny_bind (wpAny_newTuple ?_)
  have hsz : h₅.objs.size = s.heap.objs.size := by rw [hs₅.1, hs₄.1, hs₃.1, hs₂.1, hs₁.1]
  have hz₅ : IsZipS h₅ z TI TO .ellipsis := hs₅.extBut _ _ D.TOz.symm (hs₄.extBut _ _ D.i2z.symm (hs₃.extBut _ _ D.TOz.symm (hs₂.extBut _ _ D.i1z.symm hz₁)))
  have hk₅ : ∀ c o, c ≠ z → c ≠ TO → c ≠ i1 → c ≠ i2 → s.heap.get? c = some o → h₅.get? c = some o := fun c o c1 c2 c3 c4 e =>
    hs₅.extBut _ _ c2 (hs₄.extBut _ _ c4 (hs₃.extBut _ _ c2 (hs₂.extBut _ _ c3 (hs₁.extBut _ _ c1 e))))
  have h1₅ : h₅.IsListIter i1 l1 (k1 + 1) := ((h1₂.extBut hs₃.extBut D.TOi1.symm).extBut hs₄.extBut D.i12).extBut hs₅.extBut D.TOi1.symm
  have h2₅ : h₅.IsListIter i2 l2 (k2 + 1) := h2₄.extBut hs₅.extBut D.TOi2.symm
  have hzlt : z < h₅.objs.size := Heap.lt_size hz₅
  have hTOlt : TO < h₅.objs.size := Heap.lt_size hTO₅
  show wpAny _ _ (Builtin.SmallTypes.ownedTupleHandOut (.ref z) (.ref h₅.objs.size) >>= _) _ _ _
  refine wpAny_bind ?_
  unfold Builtin.SmallTypes.ownedTupleHandOut
  have hz₆ : IsZipS (h₅.push { cls := .type "tuple", data := .seq #[x, y] }) z TI TO .ellipsis := Heap.get?_push_of_some _ hz₅
  refine wpAny_bind (wpAny_setField_rec hz₆ (by simp) fun h₇ hz₇ hs₇ => ?_)
  replace hz₇ : IsZipS h₇ z TI TO (rawInt h₅.objs.size) := hz₇
  refine wpAny_setField_rec hz₇ (by simp) fun h₈ hz₈ hs₈ => ?_
  replace hz₈ : IsZipS h₈ z TI TO (rawInt h₅.objs.size) := hz₈
  have up : ∀ c o, c ≠ z → h₅.get? c = some o → h₈.get? c = some o := fun c o c1 e => hs₈.extBut _ _ c1 (hs₇.extBut _ _ c1 (Heap.get?_push_of_some _ e))
  have hT₈ : IsPair h₈ h₅.objs.size x y := hs₈.extBut _ _ (Nat.ne_of_gt hzlt) (hs₇.extBut _ _ (Nat.ne_of_gt hzlt) (Heap.get?_push_size _ rfl))
  have hz8 : h₈.objs.size = h₅.objs.size + 1 := by rw [hs₈.1, hs₇.1, Heap.size_push]
  rw [hsz] at hz₈ hT₈ hz8
  refine wpAny_pure ⟨_, rfl, ?_⟩
  show Q (.ref h₅.objs.size) _
  rw [hsz]
  exact hQ h₈ hz₈ (up _ _ D.TOz hTO₅) (h1₅.at fun o e => up _ o D.i1z e) (h2₅.at fun o e => up _ o D.i2z e) hT₈ hz8 fun c o c1 c2 c3 c4 e => up c o c1 (hk₅ c o c1 c2 c3 c4 e)
theorem stopIt {α : Type} {Q : α → Shared → Prop} (hh : A.handled = none) (hE : ∀ h' e, (∀ c o, s.heap.get? c = some o → h'.get? c = some o) → (∃ o, h'.get? e = some o ∧ o.cls = .type "StopIteration") → E (.ref e) { s with heap := h' }) :
    wpAny (model prog w) A (Builtin.SmallTypes.stopIteration : Sem α) Q E s := by
  unfold Builtin.SmallTypes.stopIteration
  refine wpAny_bind ?_
  simp only [newExc, newTuple]
  refine wpAny_bind (wpAny_newObj_type ?_ (by size_fits))
  refine wpAny_bind (m := firstArgMember _ _) (wpAny_of_eq (a := Value.none) (by first | rfl | (simp only [firstArgMember]; rfl)) ?_)
  refine wpAny_newObj_type ?_ (by size_fits)
  simp only [raiseNew]
  refine wpAny_bind (wpAny_handled ?_)
  first | rw [show A.in1.handled = none from hh] | rw [hh]
  refine wpAny_bind (wpAny_pure (wpAny_throw ?_))
  exact hE _ _ (fun c o e => Heap.get?_push_of_some _ (Heap.get?_push_of_some _ e)) ⟨_, Heap.get?_push_size _ rfl, rfl⟩
theorem zip_next_end {z TI TO i1 i2 l1 l2 : Addr} {k1 k2 : Nat} {xs ys : Array Value} {a b : Value} {Q : Fin → Shared → Prop} (hh : A.handled = none) (D : ZipApart z TI TO i1 i2 l1 l2)
    (hz : IsZipS s.heap z TI TO .none) (hTI : IsPair s.heap TI (.ref i1) (.ref i2)) (hTO : IsPair s.heap TO a b)
    (h1 : s.heap.IsListIter i1 l1 k1) (h2 : s.heap.IsListIter i2 l2 k2) (hl1 : s.heap.IsList l1 xs) (hl2 : s.heap.IsList l2 ys) (hx : xs[k1]? = none) (hy : ys[k2]? = none)
    (hE : ∀ h' e, (∀ c o, c ≠ z → c ≠ TO → c ≠ i1 → c ≠ i2 → s.heap.get? c = some o → h'.get? c = some o) → (∃ o, h'.get? e = some o ∧ o.cls = .type "StopIteration") → E (.ref e) { s with heap := h' }) :
    wpAny (model prog w) A (Builtin.«zip.__next__» ⟨[.ref z], []⟩) Q E s := by
  show wpAny _ _ (field (.ref z) 2 >>= _) _ _ _
  refine wpAny_bind (wpAny_field hz rfl (x := .bool true) rfl ?_)
  show wpAny _ _ (field (.ref z) 3 >>= _) _ _ _
  refine wpAny_bind (wpAny_field hz rfl (x := .ref TI) rfl ?_)
  refine wpAny_bind (wpAny_seqItems hTI rfl ?_)
  show wpAny _ _ (Builtin.SmallTypes.ownedTupleIsFree (.ref z) >>= _) _ _ _
  refine wpAny_bind ?_
  unfold Builtin.SmallTypes.ownedTupleIsFree
  refine wpAny_bind (wpAny_field hz rfl (x := .none) rfl (wpAny_pure ?_))
  simp only [if_true]
  refine wpAny_bind (wpAny_rule ?_)
  refine wpAny_bind (wpAny_field hz rfl (x := .ref TO) rfl ?_)
  refine wpAny_bind (wpAny_setField_rec hz (by simp) fun h₁ hz₁ hs₁ => ?_)
  replace hz₁ : IsZipS h₁ z TI TO .ellipsis := hz₁
  refine wpAny_bind ?_
  simp only [List.zipIdx_cons, List.zipIdx_nil, List.forIn_cons, List.forIn_nil]
  refine wpAny_bind (wpAny_bind (wpAny_onRaise ?_))
  show wpAny _ _ (Builtin.SmallTypes.nextOrEnd (.ref i1)) _ _ _
  refine nextOrEnd_end hh (h1.extBut hs₁.extBut D.i1z) (hl1.extBut hs₁.extBut D.l1z) hx fun h₂ hs₂ => ?_
  have hz₂ : IsZipS h₂ z TI TO .ellipsis := hs₂ _ _ D.i1z.symm hz₁
  refine wpAny_bind (wpAny_setField_rec hz₂ (by simp) fun h₃ _ hs₃ => ?_)
  refine wpAny_bind ?_
  show wpAny _ _ (forIn (m := Sem) (List.zipIdx (List.drop 1 [Value.ref i1, Value.ref i2]) 1) PUnit.unit _ >>= _) _ _ _
  simp only [List.drop, List.zipIdx_cons, List.zipIdx_nil, List.forIn_cons, List.forIn_nil]
  refine wpAny_bind (wpAny_bind (wpAny_bind ?_))
  refine nextOrEnd_end hh (((h2.extBut hs₁.extBut D.i2z).extBut hs₂ D.i12.symm).extBut hs₃.extBut D.i2z) (((hl2.extBut hs₁.extBut D.l2z).extBut hs₂ D.l2i1).extBut hs₃.extBut D.l2z) hy fun h₄ hs₄ => ?_
  show wpAny _ _ (pure _) _ _ _
  refine wpAny_pure ?_
  show wpAny _ _ (pure _) _ _ _
  refine wpAny_pure ?_
  refine wpAny_bind (wpAny_rule ?_)
  exact stopIt hh fun h' e k he => hE h' e (fun c o c1 c2 c3 c4 x => k _ _ (hs₄ _ _ c4 (hs₃.extBut _ _ c1 (hs₂ _ _ c3 (hs₁.extBut _ _ c1 x))))) he
theorem pyNext_item {z TI TO i1 i2 l1 l2 : Addr} {k1 k2 : Nat} {xs ys : Array Value} {x y a b : Value} {Q : Option Value → Shared → Prop} (D : ZipApart z TI TO i1 i2 l1 l2)
    (hz : IsZipS s.heap z TI TO .none) (hTI : IsPair s.heap TI (.ref i1) (.ref i2)) (hTO : IsPair s.heap TO a b)
    (h1 : s.heap.IsListIter i1 l1 k1) (h2 : s.heap.IsListIter i2 l2 k2) (hl1 : s.heap.IsList l1 xs) (hl2 : s.heap.IsList l2 ys) (hx : xs[k1]? = some x) (hy : ys[k2]? = some y)
    (hQ : ∀ h', IsZipS h' z TI TO (rawInt s.heap.objs.size) → IsPair h' TO x y → h'.IsListIter i1 l1 (k1 + 1) → h'.IsListIter i2 l2 (k2 + 1) → IsPair h' s.heap.objs.size x y → h'.objs.size = s.heap.objs.size + 1 →
      (∀ c o, c ≠ z → c ≠ TO → c ≠ i1 → c ≠ i2 → s.heap.get? c = some o → h'.get? c = some o) → Q (some (.ref s.heap.objs.size)) { s with heap := h' }) :
    wpAny (model prog w) A (pyNext (.ref z)) Q E s := by
  have hT : s.TypeIs (.ref z) "zip" := ⟨_, hz, rfl⟩
  unfold pyNext
  exact wpAny_bind (wpAny_attempt (wpAny_callSpecial?_slot (name := Str.ofString "__next__") hT F.slot_zip_next
    (wpAny_call_entry F.slot_zip_next hT F.entry_zip_next
      (zip_next_item D hz hTI hTO h1 h2 hl1 hl2 hx hy fun h' a1 a2 a3 a4 a5 a6 a7 => wpAny_pure (hQ h' a1 a2 a3 a4 a5 a6 a7)) (F.args_zip_next_1 _))))
theorem pyNext_end {z TI TO i1 i2 l1 l2 : Addr} {k1 k2 : Nat} {xs ys : Array Value} {a b : Value} {Q : Option Value → Shared → Prop} (hh : A.handled = none) (D : ZipApart z TI TO i1 i2 l1 l2)
    (hz : IsZipS s.heap z TI TO .none) (hTI : IsPair s.heap TI (.ref i1) (.ref i2)) (hTO : IsPair s.heap TO a b)
    (h1 : s.heap.IsListIter i1 l1 k1) (h2 : s.heap.IsListIter i2 l2 k2) (hl1 : s.heap.IsList l1 xs) (hl2 : s.heap.IsList l2 ys) (hx : xs[k1]? = none) (hy : ys[k2]? = none)
    (hQ : ∀ h', (∀ c o, c ≠ z → c ≠ TO → c ≠ i1 → c ≠ i2 → s.heap.get? c = some o → h'.get? c = some o) → Q none { s with heap := h' }) : wpAny (model prog w) A (pyNext (.ref z)) Q E s := by
  have hT : s.TypeIs (.ref z) "zip" := ⟨_, hz, rfl⟩
  unfold pyNext
  refine wpAny_bind (wpAny_attempt (wpAny_callSpecial?_slot (name := Str.ofString "__next__") hT F.slot_zip_next
    (wpAny_call_entry F.slot_zip_next hT F.entry_zip_next (zip_next_end hh D hz hTI hTO h1 h2 hl1 hl2 hx hy fun h' e hk he => ?_) (F.args_zip_next_1 _))))
  obtain ⟨o, ho, hc⟩ := he
  refine wpAny_bind (wpAny_isInstance (T := "StopIteration") (b := true) ⟨o, ho, hc⟩ isSubtype_stop ?_)
  exact wpAny_pure (hQ _ hk)
theorem letGo_zip {elts : List Expr} {x1} {pos : Pos} {z TI TO T : Addr} {Q : Unit → Shared → Prop} (hz : IsZipS s.heap z TI TO (rawInt T))
    (hQ : ∀ h', IsZipS h' z TI TO .none → Heap.SameBut z s.heap h' → Q () { s with heap := h' }) :
    wpAny (model prog w) A (letOwnedTupleGo (.Tuple elts x1 pos) (.ref z) (.ref T)) Q E s := by
  unfold letOwnedTupleGo
  refine wpAny_bind (wpAny_load hz ?_)
  show wpAny _ _ (if (["enumerate", "zip", "dict_itemiterator", "dict_reverseitemiterator", "odict_iterator", "itertools.zip_longest", "itertools.pairwise"].contains "zip" &&
      (#[rawInt T, .bool false, .bool true, .ref TI, .ref TO] : Array Value)[0]? == some (rawInt T)) = true then _ else _) Q E s
  rw [if_pos (by simp)]
  refine wpAny_bind (wpAny_rule ?_)
  show wpAny _ _ (setField (.ref z) 0 .none) Q E s
  exact wpAny_setField_rec hz (by simp) fun h' hz' hs' => hQ h' hz' hs'
theorem pyIter_zip {z TI TO : Addr} {f0 : Value} {Q : Value → Shared → Prop} (hz : IsZipS s.heap z TI TO f0) (h : Q (.ref z) s) : wpAny (model prog w) A (pyIter (.ref z)) Q E s := by
  have hT : s.TypeIs (.ref z) "zip" := ⟨_, hz, rfl⟩
  refine wpAny_pyIter_slot hT F.slot_zip_iter (wpAny_call_entry F.slot_zip_iter hT F.entry_zip_iter ?_ (F.args_zip_iter_1 _))
  show wpAny _ _ (ret (.ref z)) _ _ s
  exact wpAny_pure ⟨_, rfl, "zip", _, hT, F.slot_zip_next.lookup, h⟩
end
abbrev zipHS (h : Heap) (l1 l2 : Addr) : Heap := (zipH4 h l1 l2).push { cls := .type "zip", data := .fields #[.none, .bool false, .bool true, .ref (zipH2 h l1 l2).objs.size, .ref (zipH3 h l1 l2).objs.size] }
theorem meets_zip_newS (l1 l2 : Addr) (xs ys : Array Value) :
    Meets (Builtin.«zip.__new__» ⟨[.type "zip", .ref l1, .ref l2], [(Str.ofString "strict", .bool true)]⟩) (fun _ R s => s.heap.IsList l1 xs ∧ s.heap.IsList l2 ys ∧
      R (.ok (.ret (.ref (zipH4 s.heap l1 l2).objs.size))) { s with heap := zipHS s.heap l1 l2 }) :=
  .of_wp fun prog w A R s h => by
    obtain ⟨hp, g, d, tk, os⟩ := s; obtain ⟨hl1, hl2, h⟩ := h
    have hsub := sub_zip
    have hL1 : Heap.IsList (Shared.heap ⟨hp, g, d, tk, os⟩) l1 xs := hl1
    have hL2 : Heap.IsList (Shared.heap ⟨hp.push { cls := .type "list_iterator", data := .fields #[.ref l1, .int 0 0] }, g, d, tk, os⟩) l2 ys := Heap.IsList.push hl2 _
    have e2 : (Str.ofString "strict" != ("strict" : Str)) = false := by decide +kernel
    have e1 : (Str.ofString "strict" == ("strict" : Str)) = true := by decide +kernel
    wp_walk using wpAny_pyIter_list hL1, wpAny_pyIter_list hL2
    exact ⟨_, rfl, h⟩
section
variable {prog : Program} {w : World} {A : Around} {E : Value → Shared → Prop} {s : Shared}
theorem call_zipS {l1 l2 : Addr} {xs ys : Array Value} {Q : Value → Shared → Prop} (hl1 : s.heap.IsList l1 xs) (hl2 : s.heap.IsList l2 ys)
    (h : ∀ h', IsZipS h' (s.heap.objs.size + 4) (s.heap.objs.size + 2) (s.heap.objs.size + 3) .none → IsPair h' (s.heap.objs.size + 2) (.ref s.heap.objs.size) (.ref (s.heap.objs.size + 1)) →
      IsPair h' (s.heap.objs.size + 3) .none .none → h'.IsListIter s.heap.objs.size l1 0 → h'.IsListIter (s.heap.objs.size + 1) l2 0 → h'.objs.size = s.heap.objs.size + 5 →
      (∀ c o, s.heap.get? c = some o → h'.get? c = some o) → Q (.ref (s.heap.objs.size + 4)) { s with heap := h' }) :
    wpAny (model prog w) A (call (.type "zip") [.ref l1, .ref l2] [(Str.ofString "strict", .bool true)]) Q E s := by
  refine callType_newKw F.called_zip (by decide) (typeCall_zipS _ _) (newCall_zipS _ _) (fun obj => args_object_initS obj _ _) F.entry_zip_new
    (meets_zip_newS l1 l2 xs ys) ⟨hl1, hl2, ?_⟩
  have z1 : (zipH1 s.heap l1).objs.size = s.heap.objs.size + 1 := Heap.size_push ..
  have z2 : (zipH2 s.heap l1 l2).objs.size = s.heap.objs.size + 2 := by rw [Heap.size_push, z1]
  have z3 : (zipH3 s.heap l1 l2).objs.size = s.heap.objs.size + 3 := by rw [Heap.size_push, z2]
  have z4 : (zipH4 s.heap l1 l2).objs.size = s.heap.objs.size + 4 := by rw [Heap.size_push, z3]
  have z5 : (zipHS s.heap l1 l2).objs.size = s.heap.objs.size + 5 := by rw [Heap.size_push, z4]
  have g5 : (zipHS s.heap l1 l2).get? (zipH4 s.heap l1 l2).objs.size = some _ := Heap.get?_push_size _ rfl
  have g4 : (zipHS s.heap l1 l2).get? (zipH3 s.heap l1 l2).objs.size = some _ := Heap.get?_push_of_some _ (Heap.get?_push_size _ rfl)
  have g3 : (zipHS s.heap l1 l2).get? (zipH2 s.heap l1 l2).objs.size = some _ := Heap.get?_push_of_some _ (Heap.get?_push_of_some _ (Heap.get?_push_size _ rfl))
  have g2 : (zipHS s.heap l1 l2).get? (zipH1 s.heap l1).objs.size = some _ := Heap.get?_push_of_some _ (Heap.get?_push_of_some _ (Heap.get?_push_of_some _ (Heap.get?_push_size _ rfl)))
  have g1 : (zipHS s.heap l1 l2).get? s.heap.objs.size = some _ := Heap.get?_push_of_some _ (Heap.get?_push_of_some _ (Heap.get?_push_of_some _ (Heap.get?_push_of_some _ (Heap.get?_push_size _ rfl))))
  show _ ∧ _
  rw [z2, z3, z4] at g5
  rw [z1, z2] at g3
  rw [z3] at g4
  rw [z1] at g2
  rw [z4]
  exact ⟨⟨_, g5, rfl⟩, h _ g5 g3 g4 ⟨_, g1, rfl, rfl⟩ ⟨_, g2, rfl, rfl⟩ z5 fun c o x =>
    Heap.get?_push_of_some _ (Heap.get?_push_of_some _ (Heap.get?_push_of_some _ (Heap.get?_push_of_some _ (Heap.get?_push_of_some _ x))))⟩
end
end NZ
namespace NZ
open PySem PySem.Spec PyProof.Rows L2
theorem callWith_typeKw {M : Model} {A : Around} {E : Value → Shared → Prop} {s : Shared} {env : Env} {pos : Pos} {T : String} {e : Expr} {rest : List Expr} {kws : List Keyword} {Q : Value → Shared → Prop}
    (h : wpAny M A (spliced (backTo pos (starEach (e :: rest) env))) (fun vs s₁ => wpAny M A (evalAll ((backToKw pos (keywordEach kws env)).map (·.2)))
      (fun kvs s₂ => wpAny M A (call (.type T) vs (((backToKw pos (keywordEach kws env)).filterMap (·.1)).zip kvs)) Q E s₂) E s₁) E s)
    (he : backTo pos (starEach (e :: rest) env) = (false, eval e env) :: backTo pos (starEach rest env) := by rfl)
    (hplain : (backTo pos (starEach (e :: rest) env)).any (·.1) = false := by rfl)
    (hall : (backToKw pos (keywordEach kws env)).all (·.1.isSome) = true := by rfl)
    (hkw : (backToKw pos (keywordEach kws env)).any (·.1.isNone) = false := by rfl) :
    wpAny M A (callWith pos (.type T) [] (backTo pos (starEach (e :: rest) env)) (backToKw pos (keywordEach kws env))) Q E s := by
  have h2 : wpAny M A (evalArgs (.type T) true (backTo pos (starEach (e :: rest) env)) (backToKw pos (keywordEach kws env))) (fun a s₁ => wpAny M A (call (.type T) ([] ++ a.pos) a.kw) Q E s₁) E s := by
    rw [he] at h ⊢
    exact evalArgs_kwB hall h
  unfold callWith
  refine wpAny_bind (wpAny_holding (wpAny_mono h2 (fun a s₁ h₁ => wpAny_bind (wpAny_standAt ?_)) fun _ _ x => x))
  simp only [hplain, hkw, Bool.or_false]
  refine wpAny_bind (wpAny_pure ?_)
  exact wpAny_bind (wpAny_mono h₁ (fun r s₂ hr => wpAny_bind (wpAny_holding (wpAny_point (wpAny_pure hr)))) fun _ _ x => x)
/-- the lists at a and b as they stand at each turn, of one length, the items in new pairs -/
def ItzS (K : PySem.W.Frag) (a b : Addr) : It :=
  ⟨fun i H => ∃ (xs ys : List V) (x y : V), SqL K H a xs ∧ SqL K H b ys ∧ xs[i]? = some x ∧ ys[i]? = some y,
    fun i H v H' => ∃ T x y, v = .ref T ∧ H T = none ∧ H' = upd H T (.tup [x, y]) ∧ (∀ xs, SqL K H a xs → xs[i]? = some x) ∧ ∀ ys, SqL K H b ys → ys[i]? = some y,
    fun i H => ∃ xs ys : List V, SqL K H a xs ∧ SqL K H b ys ∧ xs.length ≤ i ∧ ys.length ≤ i⟩
theorem turn_zipS {P : Program} {w : World} {K : PySem.W.Frag} {elts : List Expr} {kk : Nat} {tpos : Pos} {a b z TI TO i1 i2 : Addr} (D : ZipApart z TI TO i1 i2 a b) :
    Turn P w K (.Tuple elts kk tpos) (ItzS K a b) [z, TI, TO, i1, i2] z (fun i h => IsZipS h z TI TO .none ∧ IsPair h TI (.ref i1) (.ref i2) ∧ (∃ x y, IsPair h TO x y) ∧ h.IsListIter i1 a i ∧ h.IsListIter i2 b i) where
  mem := by simp
  obj := fun i h st c hc => by
    obtain ⟨hz, hTI, ⟨x, y, hTO⟩, ⟨o1, e1, _, d1⟩, ⟨o2, e2, _, d2⟩⟩ := st
    have e' : c = z ∨ c = TI ∨ c = TO ∨ c = i1 ∨ c = i2 := by simpa using hc
    rcases e' with q | q | q | q | q
    · rw [q]; exact ⟨_, hz, fun v q => nomatch q⟩
    · rw [q]; exact ⟨_, hTI, fun v q => nomatch q⟩
    · rw [q]; exact ⟨_, hTO, fun v q => nomatch q⟩
    · rw [q]; exact ⟨o1, e1, fun v q => by rw [d1] at q; cases q⟩
    · rw [q]; exact ⟨o2, e2, fun v q => by rw [d2] at q; cases q⟩
  keep := fun i h h' st k => by
    obtain ⟨hz, hTI, ⟨x, y, hTO⟩, h1, h2⟩ := st
    exact ⟨k z (by simp) _ hz, k TI (by simp) _ hTI, ⟨x, y, k TO (by simp) _ hTO⟩, h1.at fun o q => k i1 (by simp) o q, h2.at fun o q => k i2 (by simp) o q⟩
  item := by
    intro X hP hw hK hc i pins s σ H E I hf st hg
    subst hP hw hK
    obtain ⟨hz, hTI, ⟨x0, y0, hTO⟩, h1, h2⟩ := st
    obtain ⟨xs, ys, x, y, hqx, hqy, hx, hy⟩ := hg
    obtain ⟨its, rv, p, _⟩ := I.list hqx
    obtain ⟨its2, rv2, p2, _⟩ := I.list hqy
    obtain ⟨u, hu, ru⟩ := rv.get hx
    obtain ⟨u2, hu2, ru2⟩ := rv2.get hy
    have hzl : z < s.heap.objs.size := Heap.lt_size hz
    refine pyNext_item D hz hTI hTO h1 h2 p.isList p2.isList (x := u) (y := u2) (by simpa using hu) (by simpa using hu2) fun h' z' TO' h1' h2' hT hsz hk => ?_
    refine ⟨_, rfl, letGo_zip (s := { s with heap := h' }) z' fun h'' z'' sb => ?_⟩
    have hT2 : h''.get? s.heap.objs.size = some { cls := .type "tuple", data := .seq #[u, u2] } := (sb.2 _ (Nat.ne_of_gt hzl)).trans hT
    have new : ObjOk X.prog X.w (upd H s.heap.objs.size (.tup [x, y])) h'' s.heap.objs.size (.tup [x, y]) :=
      ⟨by show 2 ≤ sizeLine; decide, [u, u2], .cons ru (.cons ru2 .nil), ⟨_, hT2, rfl, _, rfl⟩⟩
    have I1 : Inv X pins σ (upd H s.heap.objs.size (.tup [x, y])) { s with heap := h'' } :=
      I.turnedNew (t' := s.toks) (ch := [z, TI, TO, i1, i2]) (fun c o hb q => (sb.2 c (fun q' => hb (by simp [q']))).trans (hk c o (fun q' => hb (by simp [q'])) (fun q' => hb (by simp [q'])) (fun q' => hb (by simp [q'])) (fun q' => hb (by simp [q'])) q)) hf (Nat.le_refl _) new
    refine ⟨.ref s.heap.objs.size, _, I1, rfl, ⟨_, x, y, rfl, I.hok.fresh (Nat.le_refl _), rfl, fun l hl => by rw [I.list_inj hl hqx]; exact hx, fun l hl => by rw [I.list_inj hl hqy]; exact hy⟩, ⟨z'', ?_, ⟨u, u2, ?_⟩, ?_, ?_⟩, fun c hcm => ?_⟩
    · exact (sb.2 _ D.TIz).trans (hk _ _ D.TIz D.TITO D.TIi1 D.TIi2 hTI)
    · exact (sb.2 _ D.TOz).trans TO'
    · exact h1'.at fun o q => (sb.2 _ D.i1z).trans q
    · exact h2'.at fun o q => (sb.2 _ D.i2z).trans q
    · have hlt : c < s.heap.objs.size := by
        have e' : c = z ∨ c = TI ∨ c = TO ∨ c = i1 ∨ c = i2 := by simpa using hcm
        rcases e' with q | q | q | q | q
        · rw [q]; exact hzl
        · rw [q]; exact Heap.lt_size hTI
        · rw [q]; exact Heap.lt_size hTO
        · rw [q]; obtain ⟨_, e1, _⟩ := h1; exact Heap.lt_size e1
        · rw [q]; obtain ⟨_, e2, _⟩ := h2; exact Heap.lt_size e2
      rw [upd_ne (Nat.ne_of_lt hlt)]
      exact (hf c hcm).1
  done := by
    intro X hP hw hK hc i pins s σ H E I hf st hg
    subst hP hw hK
    obtain ⟨hz, hTI, ⟨x0, y0, hTO⟩, h1, h2⟩ := st
    obtain ⟨xs, ys, hqx, hqy, e1, e2⟩ := hg
    obtain ⟨its, rv, p, _⟩ := I.list hqx
    obtain ⟨its2, rv2, p2, _⟩ := I.list hqy
    have l1 := rv.length
    have l2 := rv2.length
    exact pyNext_end (I.ok.hd hc) D hz hTI hTO h1 h2 p.isList p2.isList (by simp; omega) (by simp; omega) fun h' hk => ⟨rfl, I.turnedL (t' := s.toks) (ch := [z, TI, TO, i1, i2]) (fun c o hb q =>
      hk c o (fun q' => hb (by simp [q'])) (fun q' => hb (by simp [q'])) (fun q' => hb (by simp [q'])) (fun q' => hb (by simp [q'])) q) hf⟩
  self := fun A i s Q E st h => pyIter_zip st.1 h
def iZipS (K : PySem.W.Frag) (ta tk : TA) : TI := fun σ H R => ta σ H fun vs H1 => tk σ H1 fun zs H2 => ∃ a b xs ys, vs = [.ref a, .ref b] ∧ zs = [.bl true] ∧ SqL K H2 a xs ∧ SqL K H2 b ys ∧ R (ItzS K a b) H2
theorem pi_zipS {X : Cx} {e e2 : Expr} {ta tk : TA} {p pos tpos : Pos} {elts : List Expr} {kk : Nat} {kws : List Keyword} (hg : Gl X "zip") (hm : X.mg "zip" = none) (ha : PA X [e, e2] ta) (hk : PK X kws tk)
    (he : backTo pos (starEach [e, e2] X.env) = (false, eval e X.env) :: backTo pos (starEach [e2] X.env) := by rfl) (hpl : (backTo pos (starEach [e, e2] X.env)).any (·.1) = false := by rfl)
    (hall : (backToKw pos (keywordEach kws X.env)).all (·.1.isSome) = true := by rfl) (hnone : (backToKw pos (keywordEach kws X.env)).any (·.1.isNone) = false := by rfl) (hks : (backToKw pos (keywordEach kws X.env)).filterMap (·.1) = [("strict" : Str)] := by rfl) :
    PI X (.Tuple elts kk tpos) (.Call (.Name "zip" p) [e, e2] kws pos) (iZipS X.K ta tk) := by
  refine ⟨fun pins s σ H R I h => ?_⟩
  refine wpAny_Call_Name_kw (ld_blt I hg hm PyProof.Rows.boot_zip ?_)
  refine callWith_typeKw (thn (ha.run pos pins s σ H _ I h) fun us s0 ⟨vs, H0, I0, r0, q0⟩ => thn (hk.run pos pins s0 σ H0 _ I0 q0) fun ws s1 ⟨zs, H1, I1, rz, q1⟩ => ?_) he hpl hall hnone
  rw [hks]
  obtain ⟨a, b, xs, ys, ex, ez, hqx, hqy, q⟩ := q1
  subst ex
  subst ez
  cases rz with
  | cons rk rkn =>
    cases rkn
    cases rk
    cases r0 with
    | cons r rr =>
      cases rr with
      | cons r' rr =>
        cases rr
        cases r
        cases r'
        obtain ⟨its, rv, p1, _⟩ := I1.list hqx
        obtain ⟨its2, rv2, p2, _⟩ := I1.list hqy
        have la : a < s1.heap.objs.size := p1.lt
        have lb : b < s1.heap.objs.size := p2.lt
        show wpAny _ _ (call (.type "zip") [.ref a, .ref b] [(Str.ofString "strict", .bool true)]) _ _ _
        refine call_zipS p1.isList p2.isList fun h' hz hTI hTO h1 h2 hsz hk => pyIter_zip hz ?_
        have I2 : Inv X pins σ H1 { s1 with heap := h' } := I1.kept (t' := s1.toks) hk
        refine ⟨s1.heap.objs.size + 4, [s1.heap.objs.size + 4, s1.heap.objs.size + 2, s1.heap.objs.size + 3, s1.heap.objs.size, s1.heap.objs.size + 1], _, _, H1, rfl, I2, turn_zipS (PySem.W.ktu_apart s1.heap.objs.size a b la lb), ⟨hz, hTI, ⟨_, _, hTO⟩, h1, h2⟩, fun c hcm => ?_, q⟩
        have e' : c = s1.heap.objs.size + 4 ∨ c = s1.heap.objs.size + 2 ∨ c = s1.heap.objs.size + 3 ∨ c = s1.heap.objs.size ∨ c = s1.heap.objs.size + 1 := by simpa using hcm
        have hle : s1.heap.objs.size ≤ c := by
          rcases e' with z | z | z | z | z
          · rw [z]; exact Nat.le_add_right _ _
          · rw [z]; exact Nat.le_add_right _ _
          · rw [z]; exact Nat.le_add_right _ _
          · rw [z]; exact Nat.le_refl _
          · rw [z]; exact Nat.le_add_right _ _
        exact I1.fpOk hle (I1.hok.fresh hle)
end NZ
namespace NN
open PySem L2
/-! ### lists by their last thing; walks over two lists -/
theorem cut_last {α : Type} (xs : List α) : cutG xs none (some (-1)) = xs.dropLast := by
  unfold cutG
  rw [HT.sIx_none, List.drop_zero, Nat.sub_zero, List.dropLast_eq_take]
  congr 1
  simp only [HT.sIx]
  rw [if_pos (by decide)]
  omega
theorem cut_lastV (ns : List Int) : cutV (ns.map V.int) none (some (-1)) = (ns.dropLast).map V.int := by rw [cut_map, cut_last]
theorem at_last {xs : List V} {x : V} : atI (xs ++ [x]) (-1) = some x := by
  unfold atI
  have e : ixN (xs ++ [x]).length (-1) = some xs.length := by
    unfold ixN
    rw [List.length_append, List.length_singleton, if_neg (by decide), if_pos (by omega)]
    congr 1
    omega
  rw [e]
  show (xs ++ [x])[xs.length]? = some x
  rw [List.getElem?_append_right (Nat.le_refl _), Nat.sub_self]; rfl
section
variable {σ : St} {H : Hp} {Q : VK} {K : PySem.W.Frag} {ta te : TE} {tl tk : TA} {g g1 g2 : TG} {tt : TT} {vs : List Nat}
instance p_zipS {R : It → Hp → Prop} : Stp (NZ.iZipS K tl tk σ H R) (tl σ H fun vs H1 => tk σ H1 fun zs H2 => ∃ a b xs ys, vs = [.ref a, .ref b] ∧ zs = [.bl true] ∧ SqL K H2 a xs ∧ SqL K H2 b ys ∧ R (NZ.ItzS K a b) H2) := ⟨fun q => q⟩
instance p_lstRg {t : St → Hp → (Int → Int → Hp → Prop) → Prop} : Stp (tLstRg t σ H Q) (t σ H fun a b H1 => RgOk a b ∧ ∀ q, H1 q = none → Q (.ref q) (upd H1 q (.lst (rgV a b)))) := ⟨fun q => q⟩
instance p_rg1 {R : Int → Int → Hp → Prop} : Stp (tRg1 ta σ H R) (ta σ H fun x H1 => ∃ n, x = .int n ∧ R 0 n H1) := ⟨fun q => q⟩
theorem g_pair {T : Addr} {x y : V} {QS : St → Hp → Prop} (h : SqT K H T [x, y]) (q : g1 x σ H fun σ1 H1 => g2 y σ1 H1 QS) : gTup K 2 (gCons g1 (gCons g2 gNil)) (.ref T) σ H QS := by
  refine ⟨T, [x, y], rfl, h, rfl, x, [y], rfl, ?_⟩
  have e : (fun σ1 H1 => g2 y σ1 H1 QS) = (fun σ1 H1 => g2 y σ1 H1 QS) := rfl
  exact (show g1 x σ H (fun σ' H' => gCons g2 gNil [y] σ' H' QS) from by
    have z : (fun (σ1 : St) (H1 : Hp) => g2 y σ1 H1 QS) = (fun σ' H' => gCons g2 gNil [y] σ' H' QS) := by
      funext σ1 H1
      apply propext
      constructor
      · intro z
        refine ⟨y, [], rfl, ?_⟩
        have w : (fun (σ' : St) (H' : Hp) => QS σ' H') = fun σ' H' => gNil [] σ' H' QS := by
          funext a b
          exact propext ⟨fun z => ⟨rfl, z⟩, fun z => z.2⟩
        rw [← w]; exact z
      · rintro ⟨v, r, e, z⟩
        cases e
        have w : (fun (σ' : St) (H' : Hp) => QS σ' H') = fun σ' H' => gNil [] σ' H' QS := by
          funext a b
          exact propext ⟨fun z => ⟨rfl, z⟩, fun z => z.2⟩
        rw [← w] at z; exact z
    rw [← z]; exact q)
theorem c_zip {a b : Addr} {xs ys : List V} {Qd : Addr → Hp → Prop} (hx : SqL K H a xs) (hy : SqL K H b ys) (hl : xs.length = ys.length) (Pv : Addr → Nat → Hp → Prop) (h0 : ∀ D, H D = none → Pv D 0 (upd H D (.lst [])))
    (hq : ∀ D i H', H D = none → Pv D i H' → SqL K H' a xs ∧ SqL K H' b ys)
    (hs : ∀ D i x y T H', H D = none → xs[i]? = some x → ys[i]? = some y → Pv D i H' → H' T = none → g (.ref T) (wipe σ vs) (upd H' T (.tup [x, y])) fun σ2 H2 => wipe σ2 vs = wipe σ vs ∧ tt σ2 H2 fun b H3 =>
      if b = true then te σ2 H3 fun y H4 => ∃ acc, H4 D = some (.lst acc) ∧ acc.length < sizeLine ∧ Pv D (i + 1) (upd H4 D (.lst (acc ++ [y]))) else Pv D (i + 1) H3)
    (hd : ∀ D H', H D = none → Pv D xs.length H' → Qd D H') :
    ∃ a' b' xs ys, [V.ref a, V.ref b] = [.ref a', .ref b'] ∧ [V.bl true] = [.bl true] ∧ SqL K H a' xs ∧ SqL K H b' ys ∧ ∀ D, H D = none → ∃ W : Nat → Nat → Hp → Prop, (∃ m, W 0 m (upd H D (.lst []))) ∧ ∀ i m H, W i m H →
  ((NZ.ItzS K a' b').stop i H ∧ Qd D H) ∨ ((NZ.ItzS K a' b').go i H ∧ ∃ Nx : Hp → Prop, (∀ H', Nx H' → ∃ m', m' < m ∧ W (i + 1) m' H') ∧ ∀ x H', (NZ.ItzS K a' b').yld i H x H' → g x (wipe σ vs) H' fun σ2 H2 => wipe σ2 vs = wipe σ vs ∧ tt σ2 H2 fun b H3 =>
    if b = true then te σ2 H3 fun y H4 => ∃ acc, H4 D = some (.lst acc) ∧ acc.length < sizeLine ∧ Nx (upd H4 D (.lst (acc ++ [y]))) else Nx H3) := by
  refine ⟨a, b, xs, ys, rfl, rfl, hx, hy, fun D hD => ?_⟩
  refine ⟨fun i m H' => m = xs.length - i ∧ i ≤ xs.length ∧ Pv D i H', ⟨xs.length, rfl, Nat.zero_le _, h0 D hD⟩, ?_⟩
  rintro i m H' ⟨rfl, hi, p⟩
  obtain ⟨qx, qy⟩ := hq D i H' hD p
  by_cases hlt : i < xs.length
  · have e1 : xs[i]? = some xs[i] := List.getElem?_eq_getElem hlt
    have hlt2 : i < ys.length := by omega
    have e2 : ys[i]? = some ys[i] := List.getElem?_eq_getElem hlt2
    refine .inr ⟨⟨xs, ys, _, _, qx, qy, e1, e2⟩, Pv D (i + 1), fun H2 p' => ⟨xs.length - (i + 1), by omega, rfl, hlt, p'⟩, fun v H2 y => ?_⟩
    obtain ⟨T, x', y', rfl, hT, rfl, f1, f2⟩ := y
    exact hs D i x' y' T H' hD (f1 xs qx) (f2 ys qy) p hT
  · have e : i = xs.length := by omega
    subst e
    exact .inl ⟨⟨xs, ys, qx, qy, Nat.le_refl _, by omega⟩, hd D H' hD p⟩
end
end NN
namespace NN
open PySem L2
local macro_rules | `(tactic| walk_at "ne") => `(tactic| first | assumption | (apply Ne.symm; assumption) | walk_at "neX" | (refine ne_dom ?_ (by assumption); walk_at "dm") | (refine Ne.symm (ne_dom ?_ (by assumption)); walk_at "dm"))
local macro_rules | `(tactic| walk_at "neX") => `(tactic| fail)
local macro_rules | `(tactic| walk_at "dm") => `(tactic| first | exact Dom.of (by assumption) | (refine Dom.at (by assumption) ?_ ?_; (walk_at "dm"); walk_at "nm"))
local macro_rules | `(tactic| walk_at "nm") => `(tactic| first | exact nm0 | (refine nm1 ?_; walk_at "ne") | (refine nm2 ?_ ?_; (walk_at "ne"); walk_at "nm"))
local macro_rules | `(tactic| walk_at "tr") => `(tactic| first | assumption | exact upd_same | (refine Kp.at (by assumption) ?_ ?_; (walk_at "tr"); walk_at "nm") | (rw [upd_ne (by walk_at "ne")]; walk_at "tr"))
local macro_rules | `(tactic| walk_at "sq") => `(tactic| first | assumption | exact SqL.of (by walk_at "tr") | (refine Kp.seq0 ?_ (by assumption); walk_at "kp") | (refine Kp.seq (by assumption) (by walk_at "nm") ?_; walk_at "sq"))
local macro_rules | `(tactic| walk_at "fr") => `(tactic| first | assumption | (refine Kp.free (S := []) ?_ nm0 (by assumption); walk_at "kp") | (refine Kp.free (by assumption) (by walk_at "nm") ?_; assumption) | (refine Kp.free (by assumption) (by walk_at "nm") ?_; walk_at "fr"))
local macro_rules | `(tactic| walk_at "al") => `(tactic| first | exact al0 | (refine al1 ?_ ?_; (first | exact Or.inl List.mem_cons_self | exact Or.inl (List.mem_cons_of_mem _ List.mem_cons_self) | (refine Or.inr ?_; walk_at "fr")); walk_at "al"))
local macro_rules | `(tactic| walk_at "kp") => `(tactic| first | assumption | exact Kp.refl | exact KpC.k (by assumption) | (refine Kp.step ?_ (by assumption) ?_; (walk_at "kp"); walk_at "al"))
local macro_rules | `(tactic| walk_at "ar") => `(tactic| first | omega | (simp only [List.length_cons, List.length_nil, List.length_append, List.length_map, List.length_set, List.length_take, List.length_drop] <;> omega) | decide)
local macro_rules | `(tactic| walk_at "cond") => `(tactic| first | assumption | exact c_mulB | (exact c_mulL (by walk_at "nl") (by walk_at "nl")) | (exact c_mulR (by walk_at "nl") (by walk_at "nl")) | (exact c_divW (by walk_at "nl") (by walk_at "nl")) | (exact c_pow (by walk_at "nl") (by walk_at "nl") (by walk_at "nl")) | walk_at "nl")
local macro_rules | `(tactic| walk_at "nl") => `(tactic| first | with_reducible assumption | omega | (simp only [List.length_map] <;> omega))
local macro_rules | `(tactic| walk_at "set") => `(tactic| first | exact set_0 | exact set_1 | exact set_2 | exact set_3 | exact set_4 | exact set_5 | exact set_6 | exact set_7 | exact set_8 | exact set_9 | exact set_10 | exact set_11 | exact set_12 | exact set_13 | exact set_14 | exact set_15 | exact set_16 | exact set_17 | exact set_18 | exact set_19 | exact set_20 | exact set_21 | exact set_22 | exact set_23)
local macro_rules | `(tactic| walk_at "sz") => `(tactic| first | exact sz_small (by simp only [List.length_cons, List.length_nil]; decide) | exact sz_small (by decide) | exact sz_small (by walk_at "ar"))
local macro_rules | `(tactic| walk_at "sl") => `(tactic| first | exact sz_less (by walk_at "ar"))
local macro_rules | `(tactic| walk_at "at") => `(tactic| first | assumption | exact at_0 | exact at_1 | exact at_2 | exact at_3 | exact at_4 | exact at_5 | exact at_6 | exact at_7 | exact at_8 | exact at_9 | exact at_10 | exact at_11 | exact at_12 | exact at_13 | exact at_14 | exact at_15 | exact atI_nat (by assumption))
local macro_rules | `(tactic| walk_at "flat") => `(tactic| first | exact ints_flat _ | rfl | assumption | decide)
local macro_rules | `(tactic| walk_at "call") => `(tactic| fail)
local macro_rules | `(tactic| walk_at "go1") => `(tactic| first | ((with_reducible refine Stp.imp ?_)) | (((with_reducible refine' g_eqc ?h0 ?_); (case h0 => rfl))) | (((with_reducible refine' g_I ?h0 ?_); (case h0 => walk_at "cond"))) | (((with_reducible refine' g_eq ?h0 ?_); (case h0 => with_unfolding_all rfl))) | (((with_reducible refine' g_ne ?h0 ?_); (case h0 => with_unfolding_all rfl))) | (((with_reducible refine' g_lenL ?h0 ?_); (case h0 => walk_at "sq"))) | (((with_reducible refine' h_listL ?h0 ?_); (case h0 => walk_at "sq"); intro _ _ _ _ _)) | (((with_reducible refine' h_slTo ?h0 ?h1 ?_); (case h0 => walk_at "sq"); (case h1 => walk_at "nl"); intro _ _ _ _ _)) | (((with_reducible refine' h_slFrom ?h0 ?h1 ?_); (case h0 => walk_at "sq"); (case h1 => walk_at "nl"); intro _ _ _ _ _)) | (((with_reducible refine' h_slL ?h0 ?_); (case h0 => walk_at "sq"); intro _ _ _ _ _)) | (((with_reducible refine' g_ixL ?h0 ?h1 ?_); (case h0 => walk_at "sq"); (case h1 => walk_at "at"))) | (((with_reducible refine' g_in ?h0 ?h1 ?h2 ?_); (case h0 => walk_at "sq"); (case h1 => with_unfolding_all rfl); (case h2 => walk_at "flat"))) | (((with_reducible refine' h_setLI ?h0 ?h1 ?_); (case h0 => walk_at "tr"); (case h1 => walk_at "ixn"); intro _ _ _)) | (((with_reducible refine' h_setL ?h0 ?h1 ?_); (case h0 => walk_at "tr"); (case h1 => with_unfolding_all rfl); intro _ _ _)) | (((with_reducible refine' h_appendI ?h0 ?h1 ?_); (case h0 => walk_at "tr"); (case h1 => walk_at "sl"); intro _ _ _)) | (((with_reducible refine' h_append ?h0 ?h1 ?_); (case h0 => walk_at "tr"); (case h1 => walk_at "sl"); intro _ _ _)) | (((with_reducible refine' g_sz ?h0 ?_); (case h0 => walk_at "sz"); intro p hp; generalize hg : upd _ p _ = H2; have hk := Kp.of_upd hg hp; have hs := at_upd hg; clear hg)) | (((with_reducible refine' g_tyL ?h0 ?_); (case h0 => walk_at "sq"))) | (((with_reducible refine' h_catI ?h0 ?h1 ?h2 ?_); (case h0 => walk_at "tr"); (case h1 => walk_at "tr"); (case h2 => walk_at "sz"); intro _ _ _ _ _)) | (((with_reducible refine' h_catI1 ?h0 ?h1 ?h2 ?_); (case h0 => walk_at "tr"); (case h1 => walk_at "tr"); (case h2 => walk_at "sz"); intro _ _ _ _ _)) | (((with_reducible refine' h_catI2 ?h0 ?h1 ?h2 ?_); (case h0 => walk_at "tr"); (case h1 => walk_at "tr"); (case h2 => walk_at "sz"); intro _ _ _ _ _)) | (((with_reducible refine' h_cat ?h0 ?h1 ?h2 ?_); (case h0 => walk_at "tr"); (case h1 => walk_at "tr"); (case h2 => walk_at "sz"); intro _ _ _ _ _)) | (((with_reducible refine' h_idx ?h0 ?h1 ?_); (case h0 => walk_at "sq"); (case h1 => assumption))) | (((with_reducible refine' h_insertI ?h0 ?h1 ?h2 ?h3 ?_); (case h0 => walk_at "tr"); (case h1 => walk_at "sl"); (case h2 => decide); (case h3 => decide); intro _ _ _)) | (((with_reducible refine' h_insert ?h0 ?h1 ?h2 ?h3 ?_); (case h0 => walk_at "tr"); (case h1 => walk_at "sl"); (case h2 => decide); (case h3 => decide); intro _ _ _)) | walk_at "call")
local macro_rules | `(tactic| walk_at "go") => `(tactic| (repeat walk_at "go1"); (try dsimp only))
local macro_rules | `(tactic| walk_at "on") => `(tactic| (with_reducible refine g_seq ?_); walk_at "go")
local macro_rules | `(tactic| walk_at "ixn") => `(tactic| first | with_unfolding_all rfl | exact ixN_lit (j := 0) rfl (by walk_at "ar") | exact ixN_nat (by walk_at "ar"))
local macro_rules | `(tactic| walk_at "ifs") => `(tactic| ((try simp only [List.length_map]) <;> (repeat' split) <;> omega))
local macro_rules | `(tactic| walk_at "dp") => `(tactic| first | exact Dp.int _ | exact Dp.non | exact Dp.str _ | exact Dp.bl _ | exact dp_ints (by walk_at "sq") | (apply Dp.lst; (walk_at "sq"); walk_at "dpA") | (apply Dp.tup; (walk_at "st"); walk_at "dpA"))
local macro_rules | `(tactic| walk_at "dpA") => `(tactic| first | exact DpAll.nil | (apply DpAll.cons; (walk_at "dp"); walk_at "dpA"))
local macro_rules | `(tactic| walk_at "sh") => `(tactic| first | exact Sh.int | exact Sh.non | exact Sh.bool | exact Sh.list ShA.ints | (refine Sh.list ?_; walk_at "shA") | (refine Sh.tuple ?_; walk_at "shA"))
local macro_rules | `(tactic| walk_at "shA") => `(tactic| first | exact ShA.nil | exact ShA.ints | (refine ShA.cons ?_ ?_; (walk_at "sh"); walk_at "shA"))
local macro_rules | `(tactic| walk_at "st") => `(tactic| first | assumption | exact SqT.of (by walk_at "tr"))
local macro_rules | `(tactic| walk_at "pot") => `(tactic| first | assumption | (refine PotAt.kp (by assumption) (by walk_at "nm") ?_; walk_at "pot"))
local macro_rules | `(tactic| walk_at "spa") => `(tactic| first | assumption | (refine SpAt.kp (by assumption) (by walk_at "nm") ?_; walk_at "spa"))
local macro_rules | `(tactic| walk_at "neX") => `(tactic| first | (refine PotAt.ne (by assumption) ?_ (by assumption); walk_at "pot") | (refine PotAt.nonneg (by assumption) ?_ (by assumption); walk_at "pot") | (refine SpAt.ne (by assumption) ?_ (by assumption); walk_at "spa") | (refine SpAt.nonneg (by assumption) ?_ (by assumption); walk_at "spa"))
local macro_rules | `(tactic| walk_at "call") => `(tactic| first
  | ((with_reducible refine' use_whole ?e  ?_); (case e => rfl))
  | ((with_reducible refine' use_size ?e ?h0 ?_); (case e => rfl); (case h0 => walk_at "spa"))
  | ((with_reducible refine' use_distance ?e ?h0 ?_); (case e => rfl); (case h0 => walk_at "spa"))
  | ((with_reducible refine' use_between ?e ?h0 ?_); (case e => rfl); (case h0 => walk_at "spa"))
  | ((with_reducible refine' use_make ?e ?h0 ?h1 ?_); (case e => exact fun _ => rfl); (case h0 => walk_at "nl"); (case h1 => walk_at "nl"); intro _ _ _ _ _)
  | ((with_reducible refine' g_insS ?h0 ?h1 ?_); (case h0 => walk_at "spa"); (case h1 => rfl)))
local macro_rules | `(tactic| walk_at "call") => `(tactic| first
  | ((with_reducible refine' use_take ?h0 ?h1 ?h2 ?_ ?e); (case e => rfl); (case h0 => walk_at "pot"); (case h1 => walk_at "nl"); (case h2 => walk_at "nl"); intro _ _ _ _ _ _)
  | ((with_reducible refine' use_point ?h0 ?h1 ?h2 ?_ ?e); (case e => rfl); (case h0 => walk_at "pot"); (case h1 => walk_at "nl"); (case h2 => walk_at "nl"); intro _ _ _ _ _ _)
  | ((with_reducible refine' use_bits ?h0 ?_ ?e); (case e => rfl); (case h0 => walk_at "pot"); intro _ _ _ _ _ _)
  | ((with_reducible refine' use_points ?h0 ?h1 ?h2 ?h3 ?h4 ?_ ?e); (case e => rfl); (case h0 => walk_at "pot"); (case h1 => walk_at "nl"); (case h2 => walk_at "nl"); (case h3 => walk_at "nl"); (case h4 => walk_at "nl"); intro _ _ _ _ _ _ _ _ _ _)
  | ((with_reducible refine' use_make ?e ?h0 ?h1 ?_); (case e => exact fun _ => rfl); (case h0 => walk_at "nl"); (case h1 => walk_at "nl"); intro _ _ _ _ _)
  | ((with_reducible refine' use_between ?e ?h0 ?_); (case e => rfl); (case h0 => walk_at "spa"))
  | ((with_reducible refine' g_insS ?h0 ?h1 ?_); (case h0 => walk_at "spa"); (case h1 => rfl)))
/-- by which steps of a list a point is passed -/
def passL (m o : Int) (ns : List Int) (p : Int) : List Bool := ((o :: ns).zip ns).map fun z => betw m p z.1 z.2
theorem passL_len (m o : Int) (ns : List Int) (p : Int) : (passL m o ns p).length = ns.length := by
  unfold passL
  rw [List.length_map, List.length_zip, List.length_cons]
  omega
theorem passL_at {m o : Int} {ns : List Int} {p : Int} {i : Nat} {x y : Int} (hx : (o :: ns)[i]? = some x) (hy : ns[i]? = some y) : (passL m o ns p)[i]? = some (betw m p x y) := by
  unfold passL
  rw [List.getElem?_map, List.getElem?_zip_eq_some (z := (x, y)) |>.mpr ⟨hx, hy⟩]
  rfl
theorem take_more {α : Type} {xs : List α} {i : Nat} {x : α} (h : xs[i]? = some x) : xs.take (i + 1) = xs.take i ++ [x] := by
  rw [List.take_succ, h]
  rfl
section
variable {K : PySem.W.Frag} {Z : Ad} {H : Hp} {Q : VK} {E : XK} {vs : List V}
def sp_passes (_ : PySem.W.Frag) (Z : Ad) : Sp := fun vs H Q _ => ∃ (s n : Addr) (o p m : Int) (ns : List Int), vs = [.ref s, .int o, .ref n, .int p] ∧ SpAt Z H s m ∧ H n = some (.lst (ns.map V.int)) ∧ 0 < ns.length ∧ ns.length ≤ 1000 ∧ ∀ H', Kp [] H H' → Q (.bl ((passL m o ns p).any id)) H'
theorem use_passes {s n : Addr} {o p m : Int} {ns : List Int} (e : vs = [.ref s, .int o, .ref n, .int p]) (h : SpAt Z H s m) (h1 : H n = some (.lst (ns.map V.int))) (h2 : 0 < ns.length) (h3 : ns.length ≤ 1000) (q : ∀ H', Kp [] H H' → Q (.bl ((passL m o ns p).any id)) H') : sp_passes K Z vs H Q E := ⟨s, n, o, p, m, ns, e, h, h1, h2, h3, q⟩
def sp__law_size (_ : PySem.W.Frag) (_ : Ad) : Sp := fun vs H Q _ => ∃ (b : Int), vs = [.int b] ∧ 0 ≤ b ∧ b ≤ 64 ∧ Q (.int (2 ^ b.toNat)) H
theorem use_sizeL {b : Int} (e : vs = [.int b]) (h0 : 0 ≤ b) (h1 : b ≤ 64) (q : Q (.int (2 ^ b.toNat)) H) : sp__law_size K Z vs H Q E := ⟨b, e, h0, h1, q⟩
def sp__law_met (_ : PySem.W.Frag) (_ : Ad) : Sp := fun vs H Q _ => ∃ (m x y : Int), vs = [.int m, .int x, .int y] ∧ 8 ≤ m ∧ m ≤ 1000 ∧ (0 ≤ x ∧ x < m) ∧ (0 ≤ y ∧ y < m) ∧ ∀ l H', H l = none → Kp [] H H' → H' l = some (.lst ((wl m x y (wln m x y)).map V.int)) → Q (.ref l) H'
theorem use_met {m x y : Int} (e : vs = [.int m, .int x, .int y]) (h1 : 8 ≤ m) (h2 : m ≤ 1000) (h3 : 0 ≤ x ∧ x < m) (h4 : 0 ≤ y ∧ y < m) (q : ∀ l H', H l = none → Kp [] H H' → H' l = some (.lst ((wl m x y (wln m x y)).map V.int)) → Q (.ref l) H') : sp__law_met K Z vs H Q E := ⟨m, x, y, e, h1, h2, h3, h4, q⟩
def sp__law_is_passed (_ : PySem.W.Frag) (_ : Ad) : Sp := fun vs H Q _ => ∃ (m x y p : Int), vs = [.int m, .int x, .int y, .int p] ∧ 8 ≤ m ∧ (0 ≤ x ∧ x < m) ∧ (0 ≤ y ∧ y < m) ∧ (0 ≤ p ∧ p < m) ∧ ∀ H', Kp [] H H' → Q (.bl (betw m p x y)) H'
theorem use_is_passed {m x y p : Int} (e : vs = [.int m, .int x, .int y, .int p]) (h1 : 8 ≤ m) (h3 : 0 ≤ x ∧ x < m) (h4 : 0 ≤ y ∧ y < m) (h5 : 0 ≤ p ∧ p < m) (q : ∀ H', Kp [] H H' → Q (.bl (betw m p x y)) H') : sp__law_is_passed K Z vs H Q E := ⟨m, x, y, p, e, h1, h3, h4, h5, q⟩
def sp__law_pass (_ : PySem.W.Frag) (_ : Ad) : Sp := fun vs H Q _ => ∃ (m o p : Int) (n : Addr) (ns : List Int), vs = [.int m, .int o, .ref n, .int p] ∧ H n = some (.lst (ns.map V.int)) ∧ 8 ≤ m ∧ (0 ≤ o ∧ o < m) ∧ (0 ≤ p ∧ p < m) ∧ InSp m ns ∧ ns.length ≤ 1000 ∧ ∀ H', Kp [] H H' → Q (.bl ((passL m o ns p).any id)) H'
theorem use_pass {m o p : Int} {n : Addr} {ns : List Int} (e : vs = [.int m, .int o, .ref n, .int p]) (h : H n = some (.lst (ns.map V.int))) (h1 : 8 ≤ m) (h2 : 0 ≤ o ∧ o < m) (h3 : 0 ≤ p ∧ p < m) (h4 : InSp m ns) (h5 : ns.length ≤ 1000) (q : ∀ H', Kp [] H H' → Q (.bl ((passL m o ns p).any id)) H') : sp__law_pass K Z vs H Q E := ⟨m, o, p, n, ns, e, h, h1, h2, h3, h4, h5, q⟩
theorem use_pot {a : Addr} {ns : List Int} {k : Int} (e : vs = [.ref a, .int k]) (h : SqL K H a (ns.map V.int)) (hl : ns.length ≤ 63) (h0 : 0 ≤ k) (h1 : k ≤ 100) (q : ∀ (p : Addr) (H' : Hp), H p = none → Kp [] H H' → PotAt H' p → Q (.ref p) H') : sp__law_pot K Z vs H Q E := ⟨a, ns, k, e, h, hl, h0, h1, q⟩
end
def t_passes (K : PySem.W.Frag) (Z : Ad) : TS :=
  (tSeq (tAsg (tOp rCat (tLst (tCons (tVar 1) tNil)) (tSl (rSlL K) (tVar 2) tNoPart (tPart (tUn (rU fun i => .int (-i)) (tC (.int 1)))))) (gName 4))
  (tRet (tCB (rAny K) (tCons (tLc (NZ.iZipS K (tCons (tVar 4) (tCons (tVar 2) tNil)) (tCons (tC (.bl true)) tNil)) (gTup K 2 (gCons (gName 5) (gCons (gName 6) gNil))) tYes (tMe Z.Space "is_between" (sp_Space_is_between K Z) [.pos 0, .pos 1, .pos 2, .pos 3] [] [] 4 0 (fun _ => E0) (tVar 0) (tCons (tVar 3) (tCons (tVar 5) (tCons (tVar 6) tNil))) tNil) [5, 6]) tNil))))
theorem rd_passes (K : PySem.W.Frag) (Z : Ad) : ∀ vs H Q E, sp_passes K Z vs H Q E → t_passes K Z { nx := fun _ H' => Q .non H', rt := Q } (start (["space", "owner", "names", "point", "ahead", "one", "other"]) vs) H := by
  rintro _ H Q E ⟨s, n, o, p, m, ns, rfl, hs, hn, h2, h3, q⟩
  show t_passes K Z _ [some (.ref s), some (.int o), some (.ref n), some (.int p), none, none, none] H
  unfold t_passes
  walk_at "go"
  rename_i e3
  rw [cut_lastV] at e3
  have hlen : ns.dropLast.length ≤ 1000 := by rw [List.length_dropLast]; omega
  walk_at "go"
  rename_i l H3 hl k3 e3
  have kk : KpC [] H H3 := ⟨by walk_at "kp"⟩
  have hn3 : H3 n = some (.lst (ns.map V.int)) := by walk_at "tr"
  have hs3 : SpAt Z H3 s m := by walk_at "spa"
  refine c_zip (SqL.of e3) (SqL.of hn3) (by rw [List.length_map, List.length_map, List.length_cons, List.length_dropLast]; omega) (fun D i H' => H' D = some (.lst (((passL m o ns p).take i).map V.bl)) ∧ Kp [] H3 H') ?_ ?_ ?_ ?_
  · intro D hD
    exact ⟨upd_same, Kp.refl.new hD⟩
  · rintro D i H4 hD ⟨_, k4⟩
    exact ⟨k4.seq0 (SqL.of e3), k4.seq0 (SqL.of hn3)⟩
  · rintro D i xv yv T H4 hD hx hy ⟨e4, k4⟩ hT
    obtain ⟨x, hx2, rfl⟩ := ints_at hx
    obtain ⟨y, hy2, rfl⟩ := ints_at hy
    refine g_pair (SqT.of upd_same) ?_
    have k5 : Kp [] H4 (upd H4 T (.tup [.int x, .int y])) := Kp.refl.new hT
    generalize upd H4 T (.tup [.int x, .int y]) = H5 at k5
    have hs5 : SpAt Z H5 s m := (hs3.kp k4 nm0).kp k5 nm0
    dsimp only [wipe, List.set]
    walk_at "go"
    have hx3 : (o :: ns)[i]? = some x := by
      have hi := (List.getElem?_eq_some_iff.mp hy2).1
      cases i with
      | zero => exact hx2
      | succ j =>
        rw [List.getElem?_cons_succ] at hx2 ⊢
        rw [List.getElem?_dropLast] at hx2
        split at hx2
        · exact hx2
        · cases hx2
    refine ⟨_, k5 _ _ e4 nm0, sz_less (by rw [List.length_map, List.length_take, passL_len]; omega), ?_, ?_⟩
    · rw [upd_same, take_more (passL_at hx3 hy2), List.map_append]; rfl
    · exact (k4.trans k5).own hD
  · rintro D H4 hD ⟨e4, k4⟩
    walk_at "go"
    refine h_any (SqL.of e4) ?_
    rw [List.length_map, List.length_cons, List.length_dropLast, List.take_of_length_le (by rw [passL_len]; omega)]
    exact q _ (kk.k.trans k4)
def t__law_size (K : PySem.W.Frag) (Z : Ad) : TS :=
  (tSeq (tAsg (tC (.int 1)) (gName 1))
  (tSeq (tFor (iRng1 (tCons (tVar 0) tNil)) (gName 2) (tAsg (tOp rMul0 (tVar 1) (tC (.int 2))) (gName 1)))
  (tRet (tVar 1))))
theorem rd__law_size (K : PySem.W.Frag) (Z : Ad) : ∀ vs H Q E, sp__law_size K Z vs H Q E → t__law_size K Z { nx := fun _ H' => Q .non H', rt := Q } (start (["_law_bits_here", "_law_size_here", "_law_turn"]) vs) H := by
  rintro _ H Q E ⟨b, rfl, h0, h1, q⟩
  show t__law_size K Z _ [some (.int b), none, none] H
  unfold t__law_size
  walk_at "go"
  refine f_rng (by omega) (fun j σ' H' => H = H' ∧ ∃ z, σ' = [some (.int b), some (.int (2 ^ j)), z]) ⟨rfl, none, rfl⟩ ?_ ?_
  · rintro j _ _ hj ⟨rfl, z, rfl⟩
    walk_at "go"
    rw [← Int.pow_succ]
    exact ⟨_, rfl⟩
  · rintro _ _ ⟨rfl, z, rfl⟩
    walk_at "go"
    exact q
def t__law_met (K : PySem.W.Frag) (Z : Ad) : TS :=
  (tSeq (tAsg (tLst (tCons (tOp rMod0 (tOp rAdd0 (tVar 1) (tC (.int 1))) (tVar 0)) tNil)) (gName 3))
  (tSeq (tWhile (tTest (tOp rNe (tOp (rIxL K) (tVar 3) (tUn (rU fun i => .int (-i)) (tC (.int 1)))) (tVar 2))) (tDrop (tBM K "list" rAppend (tVar 3) (tCons (tOp rMod0 (tOp rAdd0 (tOp (rIxL K) (tVar 3) (tUn (rU fun i => .int (-i)) (tC (.int 1)))) (tC (.int 1))) (tVar 0)) tNil))))
  (tRet (tSl (rSlL K) (tVar 3) tNoPart (tPart (tUn (rU fun i => .int (-i)) (tC (.int 1))))))))
theorem rd__law_met (K : PySem.W.Frag) (Z : Ad) : ∀ vs H Q E, sp__law_met K Z vs H Q E → t__law_met K Z { nx := fun _ H' => Q .non H', rt := Q } (start (["_law_size_here", "_law_one", "_law_other", "_law_found"]) vs) H := by
  rintro _ H Q E ⟨m, x, y, rfl, h1, h2, h3, h4, q⟩
  show t__law_met K Z _ [some (.int m), some (.int x), some (.int y), none] H
  unfold t__law_met
  have hL := wln_lt (x := x) (y := y) h1
  walk_at "go"
  rename_i l hl H2 k2 e2
  replace e2 : H2 l = some (.lst ((wl m x y 1).map V.int)) := by
    rw [e2]
    show _ = some (HO.lst [V.int ((x + 1 + 0) % m)])
    rw [Int.add_zero]
  refine ⟨fun mm σ' H' => ∃ j : Nat, mm = wln m x y - j ∧ j ≤ wln m x y ∧ σ' = [some (.int m), some (.int x), some (.int y), some (.ref l)] ∧ H' l = some (.lst ((wl m x y (j + 1)).map V.int)) ∧ Kp [] H H', ⟨_, 0, rfl, Nat.zero_le _, rfl, e2, by walk_at "kp"⟩, ?_⟩
  rintro mm _ H3 ⟨j, rfl, hj, rfl, e3, k3⟩
  have ea : atI ((wl m x y (j + 1)).map V.int) (-1) = some (.int ((x + 1 + (j : Int)) % m)) := by
    rw [wl_succ, List.map_append]
    exact at_last
  have hlen : (wl m x y (j + 1)).length ≤ 1001 := by rw [wl_len]; omega
  walk_at "go"
  refine g_iteN (fun hn => ?_) fun hn => ?_
  · refine ⟨_, fun _ _ h => h, ?_⟩
    walk_at "go"
    rename_i H4 k4 e4
    have hjL : j ≠ wln m x y := fun z => hn ((wl_hit h1 h3 h4 (by omega)).mpr z)
    have e5 : ((x + 1 + (j : Int)) % m + 1) % m = (x + 1 + ((j + 1 : Nat) : Int)) % m := by
      rw [Int.emod_add_emod]
      congr 1
      push_cast
      omega
    refine ⟨wln m x y - (j + 1), by omega, j + 1, rfl, by omega, rfl, ?_, by walk_at "kp"⟩
    rw [e4, wl_succ m x y (j + 1), ← e5]
  · have hjL : j = wln m x y := (wl_hit h1 h3 h4 (by omega)).mp hn
    walk_at "go"
    rename_i l2 H4 hl2 k4 e4
    refine q _ _ (by walk_at "fr") (by walk_at "kp") ?_
    rw [e4, cut_lastV, wl_succ, List.dropLast_concat, hjL]
def t__law_is_passed (K : PySem.W.Frag) (Z : Ad) : TS :=
  (tSeq (tIfS (tTest (tOp rLe (tVar 0) (tC (.int 16)))) (tRet (tOp (rIn K false) (tVar 3) (tCl (sp__law_met K Z) [.pos 0, .pos 1, .pos 2] [] [] 3 0 (fun _ => E0) (tCons (tVar 0) (tCons (tVar 1) (tCons (tVar 2) tNil))) tNil))) tNext)
  (tSeq (tAsg (tOp rMod0 (tOp rSub0 (tVar 3) (tVar 1)) (tVar 0)) (gName 4))
  (tRet (tAndV (tOp rGt (tVar 4) (tC (.int 0))) (tOrV (tOp rEq (tVar 1) (tVar 2)) (tOp rLt (tVar 4) (tOp rMod0 (tOp rSub0 (tVar 2) (tVar 1)) (tVar 0))))))))
theorem rd__law_is_passed (K : PySem.W.Frag) (Z : Ad) : ∀ vs H Q E, sp__law_is_passed K Z vs H Q E → t__law_is_passed K Z { nx := fun _ H' => Q .non H', rt := Q } (start (["_law_size_here", "_law_one", "_law_other", "_law_point_here", "_law_far"]) vs) H := by
  rintro _ H Q E ⟨m, x, y, p, rfl, h1, h3, h4, h5, q⟩
  show t__law_is_passed K Z _ [some (.int m), some (.int x), some (.int y), some (.int p), none] H
  unfold t__law_is_passed
  walk_at "go"
  walk_at "on"
  refine g_ite (fun h => ?_) fun h => ?_
  · walk_at "go"
    refine use_met rfl h1 (by omega) h3 h4 ?_
    intro l H2 hl k2 e2
    walk_at "go"
    show Q (V.bl (inV _ _)) _
    rw [inV_int, ← betw_wl h1 h5 h3 h4]
    exact q _ k2
  · walk_at "go"
    have q := q _ Kp.refl
    unfold betw at q
    refine g_ite (fun h => ?_) fun h => ?_
    · walk_at "go"
      rw [decide_eq_true h, Bool.true_and] at q
      refine g_ite (fun h2 => ?_) fun h2 => ?_
      · rw [decide_eq_true h2] at q; exact q
      · rw [decide_eq_false h2, Bool.false_or] at q
        walk_at "go"
        exact q
    · rw [decide_eq_false h] at q; exact q
def t__law_pass (K : PySem.W.Frag) (Z : Ad) : TS :=
  (tSeq (tAsg (tOp rCat (tLst (tCons (tVar 1) tNil)) (tVar 2)) (gName 4))
  (tRet (tCB (rAny K) (tCons (tLc (iRng1 (tCons (tCB (rLenS K) (tCons (tVar 2) tNil)) tNil)) (gName 5) tYes (tCl (sp__law_is_passed K Z) [.pos 0, .pos 1, .pos 2, .pos 3] [] [] 4 0 (fun _ => E0) (tCons (tVar 0) (tCons (tOp (rIxL K) (tVar 4) (tVar 5)) (tCons (tOp (rIxL K) (tVar 2) (tVar 5)) (tCons (tVar 3) tNil)))) tNil) [5]) tNil))))
theorem rd__law_pass (K : PySem.W.Frag) (Z : Ad) : ∀ vs H Q E, sp__law_pass K Z vs H Q E → t__law_pass K Z { nx := fun _ H' => Q .non H', rt := Q } (start (["_law_size_here", "_law_owner", "_law_names", "_law_point_here", "_law_ahead", "_law_k"]) vs) H := by
  rintro _ H Q E ⟨m, o, p, n, ns, rfl, hn, h1, h2, h3, h4, h5, q⟩
  show t__law_pass K Z _ [some (.int m), some (.int o), some (.ref n), some (.int p), none, none] H
  unfold t__law_pass
  walk_at "go"
  rename_i l H3 hl k3 e3
  have kk : KpC [] H H3 := ⟨by walk_at "kp"⟩
  have hn3 : H3 n = some (.lst (ns.map V.int)) := by walk_at "tr"
  refine c_rng (by rw [List.length_map]; omega) (fun D i H' => H' D = some (.lst (((passL m o ns p).take i).map V.bl)) ∧ Kp [] H3 H') ?_ ?_ ?_
  · intro D hD
    exact ⟨upd_same, Kp.refl.new hD⟩
  · rintro D i H4 hD hi ⟨e4, k4⟩
    rw [List.length_map] at hi
    obtain ⟨y, f1, f2⟩ := ints_ix (ns := ns) (j := (i : Int)) (by omega) hi
    obtain ⟨x, g1, g2⟩ := ints_ix (ns := o :: ns) (j := (i : Int)) (by omega) (by rw [List.length_cons]; push_cast; omega)
    rw [Int.toNat_natCast] at f1 g1
    have hy := h4 y (List.mem_of_getElem? f1)
    have hx : 0 ≤ x ∧ x < m := by
      rcases List.mem_cons.mp (List.mem_of_getElem? g1) with z | z
      · rw [z]; exact h2
      · exact h4 x z
    dsimp only [wipe, List.set]
    walk_at "go"
    refine use_is_passed rfl h1 hx hy h3 ?_
    intro H5 k5
    walk_at "go"
    refine ⟨_, k5 _ _ e4 nm0, sz_less (by rw [List.length_map, List.length_take, passL_len]; omega), ?_, ?_⟩
    · rw [upd_same, take_more (passL_at g1 f1), List.map_append]; rfl
    · exact (k4.trans k5).own hD
  · rintro D H4 hD ⟨e4, k4⟩
    walk_at "go"
    refine h_any (SqL.of e4) ?_
    rw [Int.toNat_natCast, List.length_map, List.take_of_length_le (by rw [passL_len]; omega)]
    exact q _ (kk.k.trans k4)
theorem insp_app {m : Int} {a b : List Int} (h1 : InSp m a) (h2 : InSp m b) : InSp m (a ++ b) := fun n hn => (List.mem_append.mp hn).elim (h1 n) (h2 n)
theorem insp_1 {m n : Int} (h : 0 ≤ n ∧ n < m) : InSp m [n] := fun k hk => by rw [List.mem_singleton.mp hk]; exact h
end NN
namespace NN
open PySem L2
local macro_rules | `(tactic| walk_at "ne") => `(tactic| first | assumption | (apply Ne.symm; assumption) | walk_at "neX" | (refine ne_dom ?_ (by assumption); walk_at "dm") | (refine Ne.symm (ne_dom ?_ (by assumption)); walk_at "dm"))
local macro_rules | `(tactic| walk_at "neX") => `(tactic| fail)
local macro_rules | `(tactic| walk_at "dm") => `(tactic| first | exact Dom.of (by assumption) | (refine Dom.at (by assumption) ?_ ?_; (walk_at "dm"); walk_at "nm"))
local macro_rules | `(tactic| walk_at "nm") => `(tactic| first | exact nm0 | (refine nm1 ?_; walk_at "ne") | (refine nm2 ?_ ?_; (walk_at "ne"); walk_at "nm"))
local macro_rules | `(tactic| walk_at "tr") => `(tactic| first | assumption | exact upd_same | (refine Kp.at (by assumption) ?_ ?_; (walk_at "tr"); walk_at "nm") | (rw [upd_ne (by walk_at "ne")]; walk_at "tr"))
local macro_rules | `(tactic| walk_at "sq") => `(tactic| first | assumption | exact SqL.of (by walk_at "tr") | (refine Kp.seq0 ?_ (by assumption); walk_at "kp") | (refine Kp.seq (by assumption) (by walk_at "nm") ?_; walk_at "sq"))
local macro_rules | `(tactic| walk_at "fr") => `(tactic| first | assumption | (refine Kp.free (S := []) ?_ nm0 (by assumption); walk_at "kp") | (refine Kp.free (by assumption) (by walk_at "nm") ?_; assumption) | (refine Kp.free (by assumption) (by walk_at "nm") ?_; walk_at "fr"))
local macro_rules | `(tactic| walk_at "al") => `(tactic| first | exact al0 | (refine al1 ?_ ?_; (first | exact Or.inl List.mem_cons_self | exact Or.inl (List.mem_cons_of_mem _ List.mem_cons_self) | (refine Or.inr ?_; walk_at "fr")); walk_at "al"))
local macro_rules | `(tactic| walk_at "kp") => `(tactic| first | assumption | exact Kp.refl | exact KpC.k (by assumption) | (refine Kp.step ?_ (by assumption) ?_; (walk_at "kp"); walk_at "al"))
local macro_rules | `(tactic| walk_at "ar") => `(tactic| first | omega | (simp only [List.length_cons, List.length_nil, List.length_append, List.length_map, List.length_set, List.length_take, List.length_drop] <;> omega) | decide)
local macro_rules | `(tactic| walk_at "cond") => `(tactic| first | assumption | exact c_mulB | (exact c_mulL (by walk_at "nl") (by walk_at "nl")) | (exact c_mulR (by walk_at "nl") (by walk_at "nl")) | (exact c_divW (by walk_at "nl") (by walk_at "nl")) | (exact c_pow (by walk_at "nl") (by walk_at "nl") (by walk_at "nl")) | walk_at "nl")
local macro_rules | `(tactic| walk_at "nl") => `(tactic| first | with_reducible assumption | omega | (simp only [List.length_map] <;> omega))
local macro_rules | `(tactic| walk_at "set") => `(tactic| first | exact set_0 | exact set_1 | exact set_2 | exact set_3 | exact set_4 | exact set_5 | exact set_6 | exact set_7 | exact set_8 | exact set_9 | exact set_10 | exact set_11 | exact set_12 | exact set_13 | exact set_14 | exact set_15 | exact set_16 | exact set_17 | exact set_18 | exact set_19 | exact set_20 | exact set_21 | exact set_22 | exact set_23)
local macro_rules | `(tactic| walk_at "sz") => `(tactic| first | exact sz_small (by simp only [List.length_cons, List.length_nil]; decide) | exact sz_small (by decide) | exact sz_small (by walk_at "ar"))
local macro_rules | `(tactic| walk_at "sl") => `(tactic| first | exact sz_less (by walk_at "ar"))
local macro_rules | `(tactic| walk_at "at") => `(tactic| first | assumption | exact at_0 | exact at_1 | exact at_2 | exact at_3 | exact at_4 | exact at_5 | exact at_6 | exact at_7 | exact at_8 | exact at_9 | exact at_10 | exact at_11 | exact at_12 | exact at_13 | exact at_14 | exact at_15 | exact atI_nat (by assumption))
local macro_rules | `(tactic| walk_at "flat") => `(tactic| first | exact ints_flat _ | rfl | assumption | decide)
local macro_rules | `(tactic| walk_at "call") => `(tactic| fail)
local macro_rules | `(tactic| walk_at "go1") => `(tactic| first | ((with_reducible refine Stp.imp ?_)) | (((with_reducible refine' g_eqc ?h0 ?_); (case h0 => rfl))) | (((with_reducible refine' g_I ?h0 ?_); (case h0 => walk_at "cond"))) | (((with_reducible refine' g_eq ?h0 ?_); (case h0 => with_unfolding_all rfl))) | (((with_reducible refine' g_ne ?h0 ?_); (case h0 => with_unfolding_all rfl))) | (((with_reducible refine' g_lenL ?h0 ?_); (case h0 => walk_at "sq"))) | (((with_reducible refine' h_listL ?h0 ?_); (case h0 => walk_at "sq"); intro _ _ _ _ _)) | (((with_reducible refine' h_slTo ?h0 ?h1 ?_); (case h0 => walk_at "sq"); (case h1 => walk_at "nl"); intro _ _ _ _ _)) | (((with_reducible refine' h_slFrom ?h0 ?h1 ?_); (case h0 => walk_at "sq"); (case h1 => walk_at "nl"); intro _ _ _ _ _)) | (((with_reducible refine' h_slL ?h0 ?_); (case h0 => walk_at "sq"); intro _ _ _ _ _)) | (((with_reducible refine' g_ixL ?h0 ?h1 ?_); (case h0 => walk_at "sq"); (case h1 => walk_at "at"))) | (((with_reducible refine' g_in ?h0 ?h1 ?h2 ?_); (case h0 => walk_at "sq"); (case h1 => with_unfolding_all rfl); (case h2 => walk_at "flat"))) | (((with_reducible refine' h_setLI ?h0 ?h1 ?_); (case h0 => walk_at "tr"); (case h1 => walk_at "ixn"); intro _ _ _)) | (((with_reducible refine' h_setL ?h0 ?h1 ?_); (case h0 => walk_at "tr"); (case h1 => with_unfolding_all rfl); intro _ _ _)) | (((with_reducible refine' h_appendI ?h0 ?h1 ?_); (case h0 => walk_at "tr"); (case h1 => walk_at "sl"); intro _ _ _)) | (((with_reducible refine' h_append ?h0 ?h1 ?_); (case h0 => walk_at "tr"); (case h1 => walk_at "sl"); intro _ _ _)) | (((with_reducible refine' g_sz ?h0 ?_); (case h0 => walk_at "sz"); intro p hp; generalize hg : upd _ p _ = H2; have hk := Kp.of_upd hg hp; have hs := at_upd hg; clear hg)) | (((with_reducible refine' g_tyL ?h0 ?_); (case h0 => walk_at "sq"))) | (((with_reducible refine' h_catI ?h0 ?h1 ?h2 ?_); (case h0 => walk_at "tr"); (case h1 => walk_at "tr"); (case h2 => walk_at "sz"); intro _ _ _ _ _)) | (((with_reducible refine' h_catI1 ?h0 ?h1 ?h2 ?_); (case h0 => walk_at "tr"); (case h1 => walk_at "tr"); (case h2 => walk_at "sz"); intro _ _ _ _ _)) | (((with_reducible refine' h_catI2 ?h0 ?h1 ?h2 ?_); (case h0 => walk_at "tr"); (case h1 => walk_at "tr"); (case h2 => walk_at "sz"); intro _ _ _ _ _)) | (((with_reducible refine' h_cat ?h0 ?h1 ?h2 ?_); (case h0 => walk_at "tr"); (case h1 => walk_at "tr"); (case h2 => walk_at "sz"); intro _ _ _ _ _)) | (((with_reducible refine' h_idx ?h0 ?h1 ?_); (case h0 => walk_at "sq"); (case h1 => assumption))) | (((with_reducible refine' h_insertI ?h0 ?h1 ?h2 ?h3 ?_); (case h0 => walk_at "tr"); (case h1 => walk_at "sl"); (case h2 => decide); (case h3 => decide); intro _ _ _)) | (((with_reducible refine' h_insert ?h0 ?h1 ?h2 ?h3 ?_); (case h0 => walk_at "tr"); (case h1 => walk_at "sl"); (case h2 => decide); (case h3 => decide); intro _ _ _)) | walk_at "call")
local macro_rules | `(tactic| walk_at "go") => `(tactic| (repeat walk_at "go1"); (try dsimp only))
local macro_rules | `(tactic| walk_at "on") => `(tactic| (with_reducible refine g_seq ?_); walk_at "go")
local macro_rules | `(tactic| walk_at "ixn") => `(tactic| first | with_unfolding_all rfl | exact ixN_lit (j := 0) rfl (by walk_at "ar") | exact ixN_nat (by walk_at "ar"))
local macro_rules | `(tactic| walk_at "ifs") => `(tactic| ((try simp only [List.length_map]) <;> (repeat' split) <;> omega))
local macro_rules | `(tactic| walk_at "dp") => `(tactic| first | exact Dp.int _ | exact Dp.non | exact Dp.str _ | exact Dp.bl _ | exact dp_ints (by walk_at "sq") | (apply Dp.lst; (walk_at "sq"); walk_at "dpA") | (apply Dp.tup; (walk_at "st"); walk_at "dpA"))
local macro_rules | `(tactic| walk_at "dpA") => `(tactic| first | exact DpAll.nil | (apply DpAll.cons; (walk_at "dp"); walk_at "dpA"))
local macro_rules | `(tactic| walk_at "sh") => `(tactic| first | exact Sh.int | exact Sh.non | exact Sh.bool | exact Sh.list ShA.ints | (refine Sh.list ?_; walk_at "shA") | (refine Sh.tuple ?_; walk_at "shA"))
local macro_rules | `(tactic| walk_at "shA") => `(tactic| first | exact ShA.nil | exact ShA.ints | (refine ShA.cons ?_ ?_; (walk_at "sh"); walk_at "shA"))
local macro_rules | `(tactic| walk_at "st") => `(tactic| first | assumption | exact SqT.of (by walk_at "tr"))
local macro_rules | `(tactic| walk_at "pot") => `(tactic| first | assumption | (refine PotAt.kp (by assumption) (by walk_at "nm") ?_; walk_at "pot"))
local macro_rules | `(tactic| walk_at "spa") => `(tactic| first | assumption | (refine SpAt.kp (by assumption) (by walk_at "nm") ?_; walk_at "spa"))
local macro_rules | `(tactic| walk_at "neX") => `(tactic| first | (refine PotAt.ne (by assumption) ?_ (by assumption); walk_at "pot") | (refine PotAt.nonneg (by assumption) ?_ (by assumption); walk_at "pot") | (refine SpAt.ne (by assumption) ?_ (by assumption); walk_at "spa") | (refine SpAt.nonneg (by assumption) ?_ (by assumption); walk_at "spa"))
local macro_rules | `(tactic| walk_at "call") => `(tactic| first
  | ((with_reducible refine' use_take ?h0 ?h1 ?h2 ?_ ?e); (case e => rfl); (case h0 => walk_at "pot"); (case h1 => walk_at "nl"); (case h2 => walk_at "nl"); intro _ _ _ _ _ _)
  | ((with_reducible refine' use_point ?h0 ?h1 ?h2 ?_ ?e); (case e => rfl); (case h0 => walk_at "pot"); (case h1 => walk_at "nl"); (case h2 => walk_at "nl"); intro _ _ _ _ _ _)
  | ((with_reducible refine' use_bits ?h0 ?_ ?e); (case e => rfl); (case h0 => walk_at "pot"); intro _ _ _ _ _ _)
  | ((with_reducible refine' use_points ?h0 ?h1 ?h2 ?h3 ?h4 ?_ ?e); (case e => rfl); (case h0 => walk_at "pot"); (case h1 => walk_at "nl"); (case h2 => walk_at "nl"); (case h3 => walk_at "nl"); (case h4 => walk_at "nl"); intro _ _ _ _ _ _ _ _ _ _)
  | ((with_reducible refine' use_make ?e ?h0 ?h1 ?_); (case e => exact fun _ => rfl); (case h0 => walk_at "nl"); (case h1 => walk_at "nl"); intro _ _ _ _ _)
  | ((with_reducible refine' use_between ?e ?h0 ?_); (case e => rfl); (case h0 => walk_at "spa"))
  | ((with_reducible refine' g_insS ?h0 ?h1 ?_); (case h0 => walk_at "spa"); (case h1 => rfl)))
local macro_rules | `(tactic| walk_at "call") => `(tactic| ((with_reducible refine' use_distance ?e ?h0 ?_); (case e => rfl); (case h0 => walk_at "spa")))
def pR (m : Int) : Int → List Int → Int → Bool
  | _, [], _ => false
  | o, n :: r, p => betw m p o n || pR m n r p
theorem passL_any (m p : Int) : ∀ (ns : List Int) (o : Int), (passL m o ns p).any id = pR m o ns p
  | [], _ => rfl
  | n :: r, o => by
    show (betw m p o n || (passL m n r p).any id) = _
    rw [passL_any m p r n]; rfl
theorem pR_cons {m o n p : Int} {r : List Int} (h : pR m o (n :: r) p = false) : betw m p o n = false ∧ pR m n r p = false := by
  have z : (betw m p o n || pR m n r p) = false := h
  rwa [Bool.or_eq_false_iff] at z
theorem pR_mk {m o n p : Int} {r : List Int} (h : betw m p o n = false) (h2 : pR m n r p = false) : pR m o (n :: r) p = false := by
  show (betw m p o n || pR m n r p) = false
  rw [h, h2]; rfl
/-! ### the plain law: a list that passes few rises -/
def stepd (m o n : Int) : Int := (n - o - 1) % m + 1
theorem stepd_b {m o n : Int} (hm : 8 ≤ m) : 1 ≤ stepd m o n ∧ stepd m o n ≤ m := by
  unfold stepd
  have h1 := Int.emod_nonneg (n - o - 1) (show m ≠ 0 by omega)
  have h2 := Int.emod_lt_of_pos (n - o - 1) (show 0 < m by omega)
  omega
theorem stepd_at {m o n : Int} (hm : 8 ≤ m) (ho : 0 ≤ o ∧ o < m) (hn : 0 ≤ n ∧ n < m) : (o + stepd m o n) % m = n := by
  unfold stepd
  rcases mod_s (z := n - o - 1) (m := m) (by omega) (by omega) with ⟨a, e⟩ | ⟨a, e⟩ <;> rw [e]
  · rw [mod_a (by omega) (by omega)]; omega
  · rw [mod_b (by omega) (by omega)]; omega
theorem hit3 {m o n p t : Int} (hm : 8 ≤ m) (ho : 0 ≤ o ∧ o < m) (hn : 0 ≤ n ∧ n < m) (hp : 0 ≤ p ∧ p < m) (h1 : 1 ≤ t) (h2 : t ≤ m) (e : (o + t) % m = p) : (t < stepd m o n → betw m p o n = true) ∧ (t = stepd m o n → p = n) ∧ (stepd m o n < t → (n + (t - stepd m o n)) % m = p) := by
  have a := mod_s (z := n - o - 1) (m := m) (by omega) (by omega)
  have b := mod_t (z := o + t) (m := m) (by omega) (by omega)
  rw [e] at b
  unfold stepd
  refine ⟨fun h => ?_, fun h => ?_, fun h => ?_⟩
  · have c := mod_s (z := p - o) (m := m) (by omega) (by omega)
    have d := mod_s (z := n - o) (m := m) (by omega) (by omega)
    unfold betw
    simp only [Bool.and_eq_true, Bool.or_eq_true, decide_eq_true_eq]
    generalize (p - o) % m = A at *
    generalize (n - o) % m = B at *
    generalize (n - o - 1) % m = C at *
    omega
  · generalize (n - o - 1) % m = C at *
    omega
  · generalize (n - o - 1) % m = C at *
    have c := mod_t (z := n + (t - (C + 1))) (m := m) (by omega) (by omega)
    generalize (n + (t - (C + 1))) % m = D at *
    omega
def tot (m : Int) : Int → List Int → Int
  | _, [] => 0
  | o, n :: r => stepd m o n + tot m n r
theorem tot_nn {m : Int} (hm : 8 ≤ m) : ∀ (ns : List Int) (o : Int), 0 ≤ tot m o ns
  | [], _ => Int.le_refl 0
  | n :: r, o => by
    show 0 ≤ stepd m o n + tot m n r
    have a := stepd_b (o := o) (n := n) hm
    have b := tot_nn hm r n
    omega
theorem covered {m p : Int} (hm : 8 ≤ m) (hp : 0 ≤ p ∧ p < m) : ∀ (ns : List Int) (o t : Int), (0 ≤ o ∧ o < m) → InSp m ns → pR m o ns p = false → 1 ≤ t → t ≤ m → (o + t) % m = p → t ≤ tot m o ns → p ∈ ns
  | [], o, t, _, _, _, h1, _, _, h => by
    have z : t ≤ 0 := h
    omega
  | n :: r, o, t, ho, hn, hpr, h1, h2, e, h => by
    obtain ⟨a, b⟩ := pR_cons hpr
    have hnm := hn n List.mem_cons_self
    obtain ⟨q1, q2, q3⟩ := hit3 hm ho hnm hp h1 h2 e
    have hsd := stepd_b (o := o) (n := n) hm
    have z : t ≤ stepd m o n + tot m n r := h
    rcases Int.lt_trichotomy t (stepd m o n) with w | w | w
    · rw [q1 w] at a; cases a
    · rw [q2 w]; exact List.mem_cons_self
    · exact List.mem_cons_of_mem _ (covered hm hp r n (t - stepd m o n) hnm (fun k hk => hn k (List.mem_cons_of_mem _ hk)) b (by omega) (by omega) (q3 w) (by omega))
def riseF (m o : Int) : Int → List Int → Bool
  | _, [] => true
  | far, n :: r => decide (far < (n - o) % m) && riseF m o ((n - o) % m) r
theorem rises_of {m o : Int} (hm : 8 ≤ m) (ho : 0 ≤ o ∧ o < m) : ∀ (ns : List Int) (c : Int), (0 ≤ c ∧ c < m) → InSp m ns → (c - o) % m + tot m c ns < m → riseF m o ((c - o) % m) ns = true ∧ o ∉ ns
  | [], _, _, _, _ => ⟨rfl, fun z => nomatch z⟩
  | n :: r, c, hc, hn, h => by
    have hnm := hn n List.mem_cons_self
    have z : (c - o) % m + (stepd m c n + tot m n r) < m := h
    have ht := tot_nn hm r n
    have hs := stepd_b (o := c) (n := n) hm
    have a1 := mod_s (z := c - o) (m := m) (by omega) (by omega)
    have a2 := mod_s (z := n - o) (m := m) (by omega) (by omega)
    have a3 := mod_s (z := n - c - 1) (m := m) (by omega) (by omega)
    have e : (n - o) % m = (c - o) % m + stepd m c n := by
      unfold stepd at *
      generalize (c - o) % m = A at *
      generalize (n - o) % m = B at *
      generalize (n - c - 1) % m = C at *
      omega
    obtain ⟨q1, q2⟩ := rises_of hm ho r n hnm (fun k hk => hn k (List.mem_cons_of_mem _ hk)) (by rw [e]; omega)
    constructor
    · show (decide ((c - o) % m < (n - o) % m) && riseF m o ((n - o) % m) r) = true
      rw [q1, decide_eq_true (by omega)]; rfl
    · intro w
      rcases List.mem_cons.mp w with w | w
      · subst w
        rw [Int.sub_self, Int.zero_emod] at e
        omega
      · exact q2 w
theorem nodup_le : ∀ {a b : List Int}, a.Nodup → (∀ x ∈ a, x ∈ b) → a.length ≤ b.length
  | [], _, _, _ => Nat.zero_le _
  | x :: a, b, hn, h => by
    have hx := h x List.mem_cons_self
    obtain ⟨h1, h2⟩ := List.nodup_cons.mp hn
    have z : a.length ≤ (b.erase x).length := nodup_le h2 fun y hy => (List.mem_erase_of_ne (fun w => h1 (by rw [← w]; exact hy))).mpr (h y (List.mem_cons_of_mem _ hy))
    rw [List.length_erase_of_mem hx] at z
    have w := List.length_pos_of_mem hx
    rw [List.length_cons]
    omega
theorem must_rise {m o : Int} {ns fs : List Int} (hm : 8 ≤ m) (ho : 0 ≤ o ∧ o < m) (hn : InSp m ns) (hf : InSp m fs) (hd : fs.Nodup) (hl : ns.length < fs.length) (h : ∀ p ∈ fs, pR m o ns p = false) : riseF m o 0 ns = true ∧ o ∉ ns := by
  have e : (o - o) % m = 0 := by rw [Int.sub_self, Int.zero_emod]
  by_cases ht : tot m o ns < m
  · have z := rises_of hm ho ns o ho hn (by rw [e]; omega)
    rw [e] at z
    exact z
  · have z := nodup_le hd fun p hp => by
      have hpm := hf p hp
      have hs := stepd_b (o := o) (n := p) hm
      exact covered hm hpm ns o (stepd m o p) ho hn (h p hp) hs.1 hs.2 (stepd_at hm ho hpm) (by omega)
    omega
/-- the last one of a list, else the owner -/
def lstD : Int → List Int → Int
  | o, [] => o
  | _, n :: r => lstD n r
theorem lstD_snoc : ∀ (ns : List Int) (o n : Int), lstD o (ns ++ [n]) = n
  | [], _, _ => rfl
  | a :: r, _, n => lstD_snoc r a n
theorem pR_snoc {m p n : Int} : ∀ {ns : List Int} {o : Int}, pR m o ns p = false → betw m p (lstD o ns) n = false → pR m o (ns ++ [n]) p = false
  | [], o, _, h => pR_mk h rfl
  | a :: r, o, h, h2 => by
    obtain ⟨x, y⟩ := pR_cons h
    exact pR_mk x (pR_snoc y h2)
theorem no_betw {m f h c : Int} (hm : 8 ≤ m) (hf : 0 ≤ f ∧ f < m) (hh : 0 ≤ h ∧ h < m) (h1 : 1 ≤ c) (h2 : c ≤ stepd m h f) : betw m f h ((h + c) % m) = false := by
  have hs := stepd_b (o := h) (n := f) hm
  have a := mod_s (z := f - h - 1) (m := m) (by omega) (by omega)
  have b := mod_t (z := h + c) (m := m) (by omega) (by omega)
  have d := mod_s (z := f - h) (m := m) (by omega) (by omega)
  unfold stepd at h2
  generalize hx : (h + c) % m = x at *
  have e := mod_s (z := x - h) (m := m) (by omega) (by omega)
  rw [Bool.eq_false_iff]
  unfold betw
  simp only [ne_eq, Bool.and_eq_true, Bool.or_eq_true, decide_eq_true_eq]
  generalize (f - h - 1) % m = A at *
  generalize (f - h) % m = B at *
  generalize (x - h) % m = C at *
  omega
def adjL (l : List Int) : List Bool := (l.zip l.tail).map fun z => decide (z.1 < z.2)
theorem adjL_len (l : List Int) : (adjL l).length = l.length - 1 := by
  unfold adjL
  rw [List.length_map, List.length_zip, List.length_tail]
  omega
theorem adjL_at {l : List Int} {i : Nat} {x y : Int} (hx : l[i]? = some x) (hy : l[i + 1]? = some y) : (adjL l)[i]? = some (decide (x < y)) := by
  unfold adjL
  have e : l.tail[i]? = some y := by rw [List.getElem?_tail]; exact hy
  rw [List.getElem?_map, (List.getElem?_zip_eq_some (z := (x, y))).mpr ⟨hx, e⟩]
  rfl
theorem riseF_adj (m o : Int) : ∀ (ns : List Int) (far : Int), riseF m o far ns = match ns.map (fun n => (n - o) % m) with
    | [] => true
    | a :: r => decide (far < a) && (adjL (a :: r)).all id
  | [], _ => rfl
  | n :: r, far => by
    show (decide (far < (n - o) % m) && riseF m o ((n - o) % m) r) = (decide (far < (n - o) % m) && (adjL ((n - o) % m :: r.map fun n => (n - o) % m)).all id)
    rw [riseF_adj m o r]
    cases r with
    | nil => rfl
    | cons b t => rfl
section
variable {K : PySem.W.Frag} {Z : Ad} {H : Hp} {Q : VK} {E : XK} {vs : List V}
/-- a list of truths over a list -/
theorem c_bools {te : TE} {g : TG} {σ : St} {wv : List Nat} {l : Addr} {fs : List Int} {Qd : Addr → Hp → Prop} (f : Int → Bool) (hl : H l = some (.lst (fs.map V.int))) (h2 : fs.length ≤ 1000)
    (hs : ∀ p H' (Q' : VK), p ∈ fs → Kp [] H H' → (∀ H2, Kp [] H' H2 → Q' (.bl (f p)) H2) → g (.int p) (wipe σ wv) H' fun σ2 H2 => wipe σ2 wv = wipe σ wv ∧ tYes σ2 H2 fun b H3 => if b = true then te σ2 H3 Q' else True)
    (mono : ∀ p H' (A B : St → Hp → Prop), (∀ a b, A a b → B a b) → g (.int p) (wipe σ wv) H' A → g (.int p) (wipe σ wv) H' B)
    (hd : ∀ D H', H D = none → Kp [] H H' → H' D = some (.lst ((fs.map f).map V.bl)) → Qd D H') :
    ∃ a, V.ref l = .ref a ∧ (∃ xs, SqL K H a xs) ∧ ∀ D, H D = none → ∃ W : Nat → Nat → Hp → Prop, (∃ m, W 0 m (upd H D (.lst []))) ∧ ∀ i m H, W i m H →
  ((Itl K a).stop i H ∧ Qd D H) ∨ ((Itl K a).go i H ∧ ∃ Nx : Hp → Prop, (∀ H', Nx H' → ∃ m', m' < m ∧ W (i + 1) m' H') ∧ ∀ x H', (Itl K a).yld i H x H' → g x (wipe σ wv) H' fun σ2 H2 => wipe σ2 wv = wipe σ wv ∧ tYes σ2 H2 fun b H3 =>
    if b = true then te σ2 H3 fun y H4 => ∃ acc, H4 D = some (.lst acc) ∧ acc.length < sizeLine ∧ Nx (upd H4 D (.lst (acc ++ [y]))) else Nx H3) := by
  refine c_list (SqL.of hl) (fun D j H' => H' D = some (.lst (((fs.map f).take j).map V.bl)) ∧ Kp [] H H') ?_ ?_ ?_ ?_
  · intro D hD
    exact ⟨upd_same, Kp.refl.new hD⟩
  · rintro D j H' hD hj ⟨_, k⟩
    exact k.seq0 (SqL.of hl)
  · rintro D j xv H' hD hx ⟨e, k⟩
    have hj : j < fs.length := by
      have z := (List.getElem?_eq_some_iff.mp hx).1
      rwa [List.length_map] at z
    obtain ⟨p, hp, rfl⟩ := ints_at hx
    refine mono p H' _ _ ?_ (hs p H' (fun y H4 => ∃ acc, H4 D = some (.lst acc) ∧ acc.length < sizeLine ∧ (upd H4 D (.lst (acc ++ [y])) D = some (.lst (((fs.map f).take (j + 1)).map V.bl)) ∧ Kp [] H (upd H4 D (.lst (acc ++ [y]))))) (List.mem_of_getElem? hp) k ?_)
    · rintro a b ⟨w1, w2⟩
      exact ⟨w1, w2⟩
    · intro H2 k2
      refine ⟨_, k2 _ _ e nm0, sz_less (by rw [List.length_map, List.length_take, List.length_map]; omega), ?_, (k.trans k2).own hD⟩
      have e2 : (fs.map f)[j]? = some (f p) := by rw [List.getElem?_map, hp]; rfl
      rw [upd_same, take_more e2, List.map_append]; rfl
  · rintro D H' hD ⟨e, k⟩
    rw [List.length_map, List.take_of_length_le (by rw [List.length_map]; exact Nat.le_refl _)] at e
    exact hd D H' hD k e
theorem mono_name {i : Nat} {v : V} {σ : St} {H' : Hp} (A B : St → Hp → Prop) (h : ∀ a b, A a b → B a b) (q : gName i v σ H' A) : gName i v σ H' B := h _ _ q
def sp_rises (_ : PySem.W.Frag) (Z : Ad) : Sp := fun vs H Q _ => ∃ (s n : Addr) (o m : Int) (ns : List Int), vs = [.ref s, .int o, .ref n] ∧ SpAt Z H s m ∧ H n = some (.lst (ns.map V.int)) ∧ ns.length ≤ 1000 ∧ Q (.bl (riseF m o 0 ns)) H
theorem use_rises {s n : Addr} {o m : Int} {ns : List Int} (e : vs = [.ref s, .int o, .ref n]) (h : SpAt Z H s m) (h1 : H n = some (.lst (ns.map V.int))) (h2 : ns.length ≤ 1000) (q : Q (.bl (riseF m o 0 ns)) H) : sp_rises K Z vs H Q E := ⟨s, n, o, m, ns, e, h, h1, h2, q⟩
def sp__law_rise (_ : PySem.W.Frag) (_ : Ad) : Sp := fun vs H Q _ => ∃ (n : Addr) (m o : Int) (ns : List Int), vs = [.int m, .int o, .ref n] ∧ H n = some (.lst (ns.map V.int)) ∧ 8 ≤ m ∧ 0 < ns.length ∧ ns.length ≤ 1000 ∧ ∀ H', Kp [] H H' → Q (.bl (riseF m o 0 ns)) H'
theorem use_rise {n : Addr} {o m : Int} {ns : List Int} (e : vs = [.int m, .int o, .ref n]) (h1 : H n = some (.lst (ns.map V.int))) (h2 : 8 ≤ m) (h3 : 0 < ns.length) (h4 : ns.length ≤ 1000) (q : ∀ H', Kp [] H H' → Q (.bl (riseF m o 0 ns)) H') : sp__law_rise K Z vs H Q E := ⟨n, m, o, ns, e, h1, h2, h3, h4, q⟩
def sp__law_fixed (_ : PySem.W.Frag) (_ : Ad) : Sp := fun vs H Q _ => ∃ (p : Addr) (m near many : Int), vs = [.ref p, .int m, .int near, .int many] ∧ PotAt H p ∧ 8 ≤ m ∧ m ≤ 4294967296 ∧ 1 ≤ many ∧ many ≤ 7 ∧ ∀ l fs H', H l = none → H' l = some (.lst (fs.map V.int)) → InSp m fs → fs.Nodup → many < fs.length → fs.length ≤ 1000 → Kp [p] H H' → PotAt H' p → Q (.ref l) H'
theorem use_fixed {p : Addr} {m near many : Int} (e : vs = [.ref p, .int m, .int near, .int many]) (h0 : PotAt H p) (h1 : 8 ≤ m) (h2 : m ≤ 4294967296) (h3 : 1 ≤ many) (h4 : many ≤ 7) (q : ∀ l fs H', H l = none → H' l = some (.lst (fs.map V.int)) → InSp m fs → fs.Nodup → many < fs.length → fs.length ≤ 1000 → Kp [p] H H' → PotAt H' p → Q (.ref l) H') : sp__law_fixed K Z vs H Q E := ⟨p, m, near, many, e, h0, h1, h2, h3, h4, q⟩
def sp__law_built (_ : PySem.W.Frag) (_ : Ad) : Sp := fun vs H Q _ => ∃ (p x : Addr) (m o many : Int) (fs : List Int), vs = [.ref p, .int m, .int o, .ref x, .int many] ∧ PotAt H p ∧ 8 ≤ m ∧ m ≤ 4294967296 ∧ (0 ≤ o ∧ o < m) ∧ H x = some (.lst (fs.map V.int)) ∧ x ≠ p ∧ InSp m fs ∧ 0 < fs.length ∧ fs.length ≤ 1000 ∧ 1 ≤ many ∧ many ≤ 7 ∧
  ∀ l ns H', H l = none → H' l = some (.lst (ns.map V.int)) → InSp m ns → (ns.length : Int) = many → (∀ f ∈ fs, pR m o ns f = false) → Kp [p] H H' → PotAt H' p → Q (.ref l) H'
theorem use_built {p x : Addr} {m o many : Int} {fs : List Int} (e : vs = [.ref p, .int m, .int o, .ref x, .int many]) (h0 : PotAt H p) (h1 : 8 ≤ m) (h2 : m ≤ 4294967296) (h3 : 0 ≤ o ∧ o < m) (h4 : H x = some (.lst (fs.map V.int))) (h5 : x ≠ p) (h6 : InSp m fs) (h7 : 0 < fs.length) (h8 : fs.length ≤ 1000) (h9 : 1 ≤ many) (h10 : many ≤ 7)
    (q : ∀ l ns H', H l = none → H' l = some (.lst (ns.map V.int)) → InSp m ns → (ns.length : Int) = many → (∀ f ∈ fs, pR m o ns f = false) → Kp [p] H H' → PotAt H' p → Q (.ref l) H') : sp__law_built K Z vs H Q E := ⟨p, x, m, o, many, fs, e, h0, h1, h2, h3, h4, h5, h6, h7, h8, h9, h10, q⟩
def sp__law_right (K : PySem.W.Frag) (Z : Ad) : Sp := fun vs H Q _ => ∃ (s n x : Addr) (m o : Int) (ns fs : List Int), vs = [.ref s, .int m, .int o, .ref n, .ref x] ∧ SpAt Z H s m ∧ (0 ≤ o ∧ o < m) ∧ H n = some (.lst (ns.map V.int)) ∧ InSp m ns ∧ 0 < ns.length ∧ ns.length ≤ 1000 ∧ H x = some (.lst (fs.map V.int)) ∧ InSp m fs ∧ fs.Nodup ∧ ns.length < fs.length ∧ fs.length ≤ 1000 ∧ ∀ H', Kp [] H H' → Q (.bl true) H'
theorem use_right {s n x : Addr} {m o : Int} {ns fs : List Int} (e : vs = [.ref s, .int m, .int o, .ref n, .ref x]) (h1 : SpAt Z H s m) (h2 : 0 ≤ o ∧ o < m) (h3 : H n = some (.lst (ns.map V.int))) (h4 : InSp m ns) (h5 : 0 < ns.length) (h6 : ns.length ≤ 1000) (h7 : H x = some (.lst (fs.map V.int))) (h8 : InSp m fs) (h9 : fs.Nodup) (h10 : ns.length < fs.length) (h11 : fs.length ≤ 1000) (q : ∀ H', Kp [] H H' → Q (.bl true) H') : sp__law_right K Z vs H Q E := ⟨s, n, x, m, o, ns, fs, e, h1, h2, h3, h4, h5, h6, h7, h8, h9, h10, h11, q⟩
def sp_law (K : PySem.W.Frag) (_ : Ad) : Sp := fun vs H Q _ => ∃ (a : Addr) (ns : List Int), vs = [.ref a] ∧ SqL K H a (ns.map V.int) ∧ ns.length ≤ 63 ∧ ∀ H', Q (.bl true) H'
end
def t_rises (K : PySem.W.Frag) (Z : Ad) : TS :=
  (tSeq (tAsg (tC (.int 0)) (gName 3))
  (tSeq (tFor (iList K (tVar 2)) (gName 4) (tSeq (tIfS (tTest (tOp rLe (tMe Z.Space "distance" (sp_Space_distance K Z) [.pos 0, .pos 1, .pos 2] [] [] 3 0 (fun _ => E0) (tVar 0) (tCons (tVar 1) (tCons (tVar 4) tNil)) tNil) (tVar 3))) (tRet (tC (.bl false))) tNext)
  (tAsg (tMe Z.Space "distance" (sp_Space_distance K Z) [.pos 0, .pos 1, .pos 2] [] [] 3 0 (fun _ => E0) (tVar 0) (tCons (tVar 1) (tCons (tVar 4) tNil)) tNil) (gName 3))))
  (tRet (tC (.bl true)))))
theorem rd_rises (K : PySem.W.Frag) (Z : Ad) : ∀ vs H Q E, sp_rises K Z vs H Q E → t_rises K Z { nx := fun _ H' => Q .non H', rt := Q } (start (["space", "owner", "names", "far", "name"]) vs) H := by
  rintro _ H Q E ⟨s, n, o, m, ns, rfl, hs, hn, hl, q⟩
  show t_rises K Z _ [some (.ref s), some (.int o), some (.ref n), none, none] H
  unfold t_rises
  walk_at "go"
  refine f_list (SqL.of hn) (fun i σ' H' => H = H' ∧ ∃ far z, σ' = [some (.ref s), some (.int o), some (.ref n), some (.int far), z] ∧ riseF m o 0 ns = riseF m o far (ns.drop i)) ⟨rfl, 0, none, rfl, rfl⟩ (by rintro _ _ _ _ ⟨rfl, _⟩; exact SqL.of hn) ?_ ?_
  · rintro i xv _ _ hx ⟨rfl, far, z, rfl, hr⟩
    obtain ⟨x, hx2, rfl⟩ := ints_at hx
    have hi := (List.getElem?_eq_some_iff.mp hx2)
    obtain ⟨hi1, hi2⟩ := hi
    rw [List.drop_eq_getElem_cons hi1, hi2] at hr
    have hr2 : riseF m o 0 ns = (decide (far < (x - o) % m) && riseF m o ((x - o) % m) (ns.drop (i + 1))) := hr
    walk_at "go"
    walk_at "on"
    refine g_ite (fun h => ?_) fun h => ?_
    · walk_at "go"
      rw [hr2, decide_eq_false (by omega), Bool.false_and] at q
      exact q
    · walk_at "go"
      refine ⟨_, _, rfl, ?_⟩
      rw [hr2, decide_eq_true (by omega), Bool.true_and]
  · rintro _ _ ⟨rfl, far, z, rfl, hr⟩
    rw [List.length_map, List.drop_length] at hr
    walk_at "go"
    rw [hr] at q
    exact q
def t__law_rise (K : PySem.W.Frag) (Z : Ad) : TS :=
  (tSeq (tAsg (tLc (iList K (tVar 2)) (gName 4) tYes (tOp rMod0 (tOp rSub0 (tVar 4) (tVar 1)) (tVar 0)) [4]) (gName 3))
  (tRet (tAndV (tOp rGt (tOp (rIxL K) (tVar 3) (tC (.int 0))) (tC (.int 0))) (tCB (rAll K) (tCons (tLc (iRng1 (tCons (tOp rSub0 (tCB (rLenS K) (tCons (tVar 3) tNil)) (tC (.int 1))) tNil)) (gName 5) tYes (tOp rLt (tOp (rIxL K) (tVar 3) (tVar 5)) (tOp (rIxL K) (tVar 3) (tOp rAdd0 (tVar 5) (tC (.int 1))))) [5]) tNil)))))
theorem rd__law_rise (K : PySem.W.Frag) (Z : Ad) : ∀ vs H Q E, sp__law_rise K Z vs H Q E → t__law_rise K Z { nx := fun _ H' => Q .non H', rt := Q } (start (["_law_size_here", "_law_home", "_law_row", "_law_far", "_law_name", "_law_k"]) vs) H := by
  rintro _ H Q E ⟨n, m, o, ns, rfl, hn, h1, h2, h3, q⟩
  show t__law_rise K Z _ [some (.int m), some (.int o), some (.ref n), none, none, none] H
  unfold t__law_rise
  walk_at "go"
  refine c_list (SqL.of hn) (fun D j H' => H' D = some (.lst (((ns.map fun n => (n - o) % m).take j).map V.int)) ∧ Kp [] H H') ?_ ?_ ?_ ?_
  · intro D hD
    exact ⟨upd_same, Kp.refl.new hD⟩
  · rintro D j H' hD hj ⟨_, k⟩
    exact k.seq0 (SqL.of hn)
  · rintro D j xv H' hD hx ⟨e, k⟩
    obtain ⟨x, hx2, rfl⟩ := ints_at hx
    dsimp only [wipe, List.set]
    walk_at "go"
    have e2 : (ns.map fun n => (n - o) % m)[j]? = some ((x - o) % m) := by rw [List.getElem?_map, hx2]; rfl
    refine ⟨_, e, sz_less (by rw [List.length_map, List.length_take, List.length_map]; omega), ?_, k.own hD⟩
    rw [upd_same, take_more e2, List.map_append]; rfl
  · rintro D H2 hD ⟨e, k⟩
    rw [List.length_map, List.take_of_length_le (by rw [List.length_map]; exact Nat.le_refl _)] at e
    have hfl : (ns.map fun n => (n - o) % m).length = ns.length := List.length_map _
    have hq := riseF_adj m o ns 0
    generalize (ns.map fun n => (n - o) % m) = fl at e hfl hq
    cases fl with
    | nil => rw [← hfl] at h2; cases h2
    | cons a r =>
      have hq2 : riseF m o 0 ns = (decide (0 < a) && (adjL (a :: r)).all id) := hq
      have q2 := fun H' k' => q H' k'
      rw [hq2] at q2
      walk_at "go"
      refine g_ite (fun h => ?_) fun h => ?_
      · rw [decide_eq_true h] at q2
        walk_at "go"
        refine c_rng (by rw [List.length_map]; omega) (fun D2 j H' => H' D2 = some (.lst (((adjL (a :: r)).take j).map V.bl)) ∧ Kp [] H2 H') ?_ ?_ ?_
        · intro D2 hD2
          exact ⟨upd_same, Kp.refl.new hD2⟩
        · rintro D2 j H3 hD2 hj ⟨e3, k3⟩
          rw [List.length_map] at hj
          obtain ⟨x, f1, f2⟩ := ints_ix (ns := a :: r) (j := (j : Int)) (by omega) (by omega)
          obtain ⟨y, g1, g2⟩ := ints_ix (ns := a :: r) (j := (j : Int) + 1) (by omega) (by omega)
          rw [Int.toNat_natCast] at f1
          have g3 : (a :: r)[j + 1]? = some y := by
            have z : ((j : Int) + 1).toNat = j + 1 := by omega
            rw [z] at g1; exact g1
          have e4 := k3.seq0 (SqL.of e (K := K))
          dsimp only [wipe, List.set]
          walk_at "go"
          refine ⟨_, e3, sz_less (by rw [List.length_map, List.length_take, adjL_len]; omega), ?_, k3.own hD2⟩
          rw [upd_same, take_more (adjL_at f1 g3), List.map_append]; rfl
        · rintro D2 H3 hD2 ⟨e3, k3⟩
          rw [List.length_map, List.take_of_length_le (by rw [adjL_len]; omega)] at e3
          walk_at "go"
          refine h_all (SqL.of e3) ?_
          exact q2 _ (k.trans k3)
      · rw [decide_eq_false h] at q2
        exact q2 _ k
def t__law_fixed (K : PySem.W.Frag) (Z : Ad) : TS :=
  (tSeq (tAsg (tLst tNil) (gName 4))
  (tSeq (tFor (iList K (tCl (sp__law_points K Z) [.pos 0, .pos 1, .pos 2, .pos 3] [] [] 4 0 (fun _ => E0) (tCons (tVar 0) (tCons (tVar 1) (tCons (tVar 2) (tCons (tC (.int 12)) tNil)))) tNil)) (gName 5) (tIfS (tAnd (tTest (tOp (rIn K true) (tVar 5) (tVar 4))) (tTest (tOp rLt (tCB (rLenS K) (tCons (tVar 4) tNil)) (tC (.int 8))))) (tDrop (tBM K "list" rAppend (tVar 4) (tCons (tVar 5) tNil))) tNext))
  (tSeq (tFor (iRng1 (tCons (tVar 1) tNil)) (gName 5) (tSeq (tIfS (tAnd (tTest (tOp rLe (tCB (rLenS K) (tCons (tVar 4) tNil)) (tVar 3))) (tTest (tOp (rIn K true) (tVar 5) (tVar 4)))) (tDrop (tBM K "list" rAppend (tVar 4) (tCons (tVar 5) tNil))) tNext)
  (tIfS (tTest (tOp rGt (tCB (rLenS K) (tCons (tVar 4) tNil)) (tVar 3))) (tRet (tVar 4)) tNext)))
  (tRet (tVar 4)))))
theorem rd__law_fixed (K : PySem.W.Frag) (Z : Ad) : ∀ vs H Q E, sp__law_fixed K Z vs H Q E → t__law_fixed K Z { nx := fun _ H' => Q .non H', rt := Q } (start (["_law_pot_here", "_law_size_here", "_law_near", "_law_many", "_law_found", "_law_point_here"]) vs) H := by
  rintro _ H Q E ⟨p, m, near, many, rfl, hp, h1, h2, h3, h4, q⟩
  show t__law_fixed K Z _ [some (.ref p), some (.int m), some (.int near), some (.int many), none, none] H
  unfold t__law_fixed
  walk_at "go"
  rename_i l H2 hl k2 e2 lp ps H3 hlp elp hp0 hp1 hpm k3 hp3
  have hlne : l ≠ p := by walk_at "ne"
  have hllp : l ≠ lp := by walk_at "ne"
  have e3 : H3 l = some (.lst (([] : List Int).map V.int)) := by walk_at "tr"
  have kk : KpC [p] H H3 := ⟨by walk_at "kp"⟩
  refine f_list (SqL.of elp) (fun i σ' H' => ∃ fs z, σ' = [some (.ref p), some (.int m), some (.int near), some (.int many), some (.ref l), z] ∧ H' l = some (.lst (fs.map V.int)) ∧ InSp m fs ∧ fs.Nodup ∧ fs.length ≤ 8 ∧ Kp [l] H3 H') ⟨[], none, rfl, e3, (fun _ z => nomatch z), List.nodup_nil, Nat.zero_le _, Kp.refl⟩ ?_ ?_ ?_
  · rintro i _ H4 _ ⟨fs, z, rfl, f1, f2, f3, f4, k4⟩
    exact k4.seq (nm1 hllp.symm) (SqL.of elp)
  · rintro i xv _ H4 hx ⟨fs, z, rfl, f1, f2, f3, f4, k4⟩
    obtain ⟨x, hx2, rfl⟩ := ints_at hx
    have hxm := hpm x (List.mem_of_getElem? hx2)
    walk_at "go"
    rw [if_pos rfl, inV_int]
    refine g_iteN (fun hg => ?_) fun hg => ?_
    · walk_at "go"
      refine g_ite (fun hlt => ?_) fun hlt => ?_
      · rw [List.length_map] at hlt
        walk_at "go"
        rename_i H5 k5 e5
        refine ⟨_, _, rfl, e5, insp_app f2 (insp_1 hxm), ?_, by rw [List.length_append, List.length_singleton]; omega, k4.trans k5⟩
        exact List.nodup_append.mpr ⟨f3, List.nodup_cons.mpr ⟨(fun z => nomatch z), List.nodup_nil⟩, fun a ha b hb => by rw [List.mem_singleton.mp hb]; exact fun w => hg (w ▸ ha)⟩
      · walk_at "go"
        exact ⟨fs, _, rfl, f1, f2, f3, f4, k4⟩
    · walk_at "go"
      exact ⟨fs, _, rfl, f1, f2, f3, f4, k4⟩
  · rintro _ H4 ⟨fs, z, rfl, f1, f2, f3, f4, k4⟩
    have hlH : H l = none := by walk_at "fr"
    have fin : ∀ (gs : List Int) (H5 : Hp), Kp [l] H3 H5 → Kp [p] H H5 ∧ PotAt H5 p := fun gs H5 k => ⟨kk.k.step k (al1 (.inr hlH) al0), hp3.kp k (nm1 hlne.symm)⟩
    walk_at "go"
    refine f_rng1 m.toNat rfl (by omega) (by omega) (fun i σ' H' => ∃ fs z, σ' = [some (.ref p), some (.int m), some (.int near), some (.int many), some (.ref l), z] ∧ H' l = some (.lst (fs.map V.int)) ∧ InSp m fs ∧ fs.Nodup ∧ fs.length ≤ 8 ∧ Kp [l] H3 H' ∧ (∀ j : Nat, j < i → (j : Int) ∈ fs) ∧ (1 ≤ i → (fs.length : Int) ≤ many)) ⟨fs, _, rfl, f1, f2, f3, f4, k4, fun j hj => absurd hj (Nat.not_lt_zero _), fun w => absurd w (by decide)⟩ ?_ ?_
    · rintro i _ H5 hi ⟨fs, z, rfl, f1, f2, f3, f4, k5, f6, f7⟩
      have hlen : (fs.map V.int).length = fs.length := List.length_map _
      walk_at "go"
      refine g_seqJ (M := fun σ' H' => ∃ fs, σ' = [some (.ref p), some (.int m), some (.int near), some (.int many), some (.ref l), some (.int (i : Int))] ∧ H' l = some (.lst (fs.map V.int)) ∧ InSp m fs ∧ fs.Nodup ∧ fs.length ≤ 8 ∧ Kp [l] H3 H' ∧ ((fs.length : Int) ≤ many → ∀ j : Nat, j < i + 1 → (j : Int) ∈ fs)) ?_ ?_
      · rintro _ H6 ⟨gs, rfl, g1, g2, g3, g4, k6, g6⟩
        walk_at "go"
        rw [List.length_map]
        refine g_ite (fun hlt => ?_) fun hlt => ?_
        · walk_at "go"
          obtain ⟨w1, w2⟩ := fin gs _ k6
          exact q l gs _ hlH g1 g2 g3 hlt (by omega) w1 w2
        · walk_at "go"
          exact ⟨gs, _, rfl, g1, g2, g3, g4, k6, g6 (by omega), fun _ => by omega⟩
      · intro N F
        walk_at "go"
        rw [List.length_map]
        refine g_ite (fun hle => ?_) fun hle => ?_
        · walk_at "go"
          rw [if_pos rfl, inV_int]
          refine g_iteN (fun hg => ?_) fun hg => ?_
          · walk_at "go"
            rename_i H6 k6 e6
            refine F _ _ ⟨_, rfl, e6, insp_app f2 (insp_1 ⟨by omega, by omega⟩), ?_, by rw [List.length_append, List.length_singleton]; omega, k5.trans k6, fun _ j hj => ?_⟩
            · exact List.nodup_append.mpr ⟨f3, List.nodup_cons.mpr ⟨(fun z => nomatch z), List.nodup_nil⟩, fun a ha b hb => by rw [List.mem_singleton.mp hb]; exact fun w => hg (w ▸ ha)⟩
            · rcases Nat.lt_succ_iff_lt_or_eq.mp hj with w | w
              · exact List.mem_append_left _ (f6 j w)
              · rw [w]; exact List.mem_append_right _ (List.mem_singleton.mpr rfl)
          · walk_at "go"
            refine F _ _ ⟨fs, rfl, f1, f2, f3, f4, k5, fun _ j hj => ?_⟩
            rcases Nat.lt_succ_iff_lt_or_eq.mp hj with w | w
            · exact f6 j w
            · rw [w]; exact hg
        · walk_at "go"
          exact F _ _ ⟨fs, rfl, f1, f2, f3, f4, k5, fun w => absurd w (by omega)⟩
    · rintro _ H5 ⟨fs, z, rfl, f1, f2, f3, f4, k5, f6, f7⟩
      exfalso
      have w := f7 (by omega)
      have hr : ((List.range 8).map fun j : Nat => (j : Int)).Nodup := by decide
      have z := nodup_le hr (b := fs) fun x hx => by
        obtain ⟨j, hj, rfl⟩ := List.mem_map.mp hx
        exact f6 j (by have := List.mem_range.mp hj; omega)
      rw [List.length_map, List.length_range] at z
      omega
def t__law_built (K : PySem.W.Frag) (Z : Ad) : TS :=
  (tSeq (tAsg (tLst tNil) (gName 5))
  (tSeq (tAsg (tVar 2) (gName 6))
  (tSeq (tFor (iRng1 (tCons (tVar 4) tNil)) (gName 7) (tSeq (tAsg (tCB (rMin K) (tCons (tLc (iList K (tVar 3)) (gName 9) tYes (tOp rAdd0 (tOp rMod0 (tOp rSub0 (tOp rSub0 (tVar 9) (tVar 6)) (tC (.int 1))) (tVar 1)) (tC (.int 1))) [9]) tNil)) (gName 8))
  (tSeq (tAsg (tOp rMod0 (tOp rAdd0 (tVar 6) (tOp (rIxL K) (tLst (tCons (tC (.int 1)) (tCons (tVar 8) (tCons (tOp rAdd0 (tC (.int 1)) (tCl (sp__law_take K Z) [.pos 0, .pos 1] [] [] 2 0 (fun _ => E0) (tCons (tVar 0) (tCons (tVar 8) tNil)) tNil)) tNil)))) (tCl (sp__law_take K Z) [.pos 0, .pos 1] [] [] 2 0 (fun _ => E0) (tCons (tVar 0) (tCons (tC (.int 3)) tNil)) tNil))) (tVar 1)) (gName 6))
  (tDrop (tBM K "list" rAppend (tVar 5) (tCons (tVar 6) tNil))))))
  (tRet (tVar 5)))))
theorem rd__law_built (K : PySem.W.Frag) (Z : Ad) : ∀ vs H Q E, sp__law_built K Z vs H Q E → t__law_built K Z { nx := fun _ H' => Q .non H', rt := Q } (start (["_law_pot_here", "_law_size_here", "_law_home", "_law_fixed_here", "_law_many", "_law_found", "_law_here", "_law_k", "_law_steps", "_law_point_here"]) vs) H := by
  rintro _ H Q E ⟨p, x, m, o, many, fs, rfl, hp, h1, h2, h3, hx, hxp, hfm, hf0, hfl, h9, h10, q⟩
  show t__law_built K Z _ [some (.ref p), some (.int m), some (.int o), some (.ref x), some (.int many), none, none, none, none, none] H
  unfold t__law_built
  walk_at "go"
  rename_i l hl H2 k2 e2
  have hlp : l ≠ p := by walk_at "ne"
  refine f_rng (by omega) (fun i σ' H' => ∃ ns y7 y8, σ' = [some (.ref p), some (.int m), some (.int o), some (.ref x), some (.int many), some (.ref l), some (.int (lstD o ns)), y7, y8, none] ∧ H' l = some (.lst (ns.map V.int)) ∧ ns.length = i ∧ InSp m ns ∧ (0 ≤ lstD o ns ∧ lstD o ns < m) ∧ (∀ f ∈ fs, pR m o ns f = false) ∧ Kp [p] H H' ∧ PotAt H' p) ⟨[], none, none, rfl, e2, rfl, (fun _ z => nomatch z), h3, fun f _ => rfl, k2.wid, hp.kp k2 nm0⟩ ?_ ?_
  · rintro i _ H3 hi ⟨ns, y7, y8, rfl, e3, f1, f2, f3, f4, k3, hp3⟩
    generalize hh : lstD o ns = here at f3 ⊢
    have hx3 : H3 x = some (.lst (fs.map V.int)) := k3 _ _ hx (nm1 hxp)
    walk_at "go"
    refine c_list (SqL.of hx3) (fun D j H' => H' D = some (.lst (((fs.map fun f => stepd m here f).take j).map V.int)) ∧ Kp [] H3 H') ?_ ?_ ?_ ?_
    · intro D hD
      exact ⟨upd_same, Kp.refl.new hD⟩
    · rintro D j H' hD hj ⟨_, k⟩
      exact k.seq0 (SqL.of hx3)
    · rintro D j xv H' hD hxv ⟨e, k⟩
      have hj : j < fs.length := by
        have z := (List.getElem?_eq_some_iff.mp hxv).1
        rwa [List.length_map] at z
      obtain ⟨f, hf2, rfl⟩ := ints_at hxv
      dsimp only [wipe, List.set]
      walk_at "go"
      have e2 : (fs.map fun f => stepd m here f)[j]? = some (stepd m here f) := by rw [List.getElem?_map, hf2]; rfl
      refine ⟨_, e, sz_less (by rw [List.length_map, List.length_take, List.length_map]; omega), ?_, k.own hD⟩
      rw [upd_same, take_more e2, List.map_append]; rfl
    · rintro D H4 hD ⟨e4, k4⟩
      rw [List.length_map, List.take_of_length_le (by rw [List.length_map]; exact Nat.le_refl _)] at e4
      have hp4 : PotAt H4 p := hp3.kp k4 nm0
      walk_at "go"
      refine ⟨D, fs.map fun f => stepd m here f, rfl, SqL.of e4, by rw [List.length_map]; exact hf0, fun st hst hmin => ?_⟩
      have hst1 : 1 ≤ st ∧ st ≤ m := by
        obtain ⟨f, _, rfl⟩ := List.mem_map.mp hst
        exact stepd_b h1
      have hle : ∀ f ∈ fs, st ≤ stepd m here f := fun f hf => hmin _ (List.mem_map.mpr ⟨f, hf, rfl⟩)
      clear hst hmin
      walk_at "go"
      rename_i r5 H5 hr50 hr51 k5 hp5 l6 hl6 H6 k6 e6 r7 H7 hr70 hr71 k7 hp7
      obtain ⟨c, g1, g2⟩ := ints_ix (ns := [1, st, 1 + r5]) (j := r7) hr70 (by show _ < (3 : Int); exact hr71)
      have hc : 1 ≤ c ∧ c ≤ st := by
        have z := List.mem_of_getElem? g1
        simp only [List.mem_cons, List.not_mem_nil, or_false] at z
        omega
      refine g_ixL (by walk_at "sq") g2 ?_
      have hlD : l ≠ D := ne_of_none e3 hD
      have e7 : H7 l = some (.lst (ns.map V.int)) := by
        have z4 := k4 _ _ e3 nm0
        have z5 := k5 _ _ z4 (nm1 hlp)
        have z6 := k6 _ _ z5 nm0
        exact k7 _ _ z6 (nm1 hlp)
      have kk7 : KpC [p] H H7 := ⟨(((k3.trans k4.wid).trans k5).trans k6.wid).trans k7⟩
      have hlen : ns.length ≤ 10 := by omega
      have hlH : H l = none := hl
      clear k3 k4 k5 k6 k7 g2 e6 hl6 hp4 hp5 hp3
      walk_at "go"
      rename_i H8 k8 e8
      have hn : 0 ≤ (here + c) % m ∧ (here + c) % m < m := ⟨Int.emod_nonneg _ (by omega), Int.emod_lt_of_pos _ (by omega)⟩
      refine ⟨ns ++ [(here + c) % m], some (.int (i : Int)), some (.int st), ?_, e8, by rw [List.length_append, f1]; rfl, insp_app f2 (insp_1 hn), ?_, fun f hf => ?_, kk7.k.step k8 (al1 (.inr hlH) al0), hp7.kp k8 (nm1 hlp.symm)⟩
      · rw [lstD_snoc]
      · rw [lstD_snoc]; exact hn
      · refine pR_snoc (f4 f hf) ?_
        rw [hh]
        exact no_betw h1 (hfm f hf) f3 hc.1 (Int.le_trans hc.2 (hle f hf))
  · rintro _ H3 ⟨ns, y7, y8, rfl, e3, f1, f2, f3, f4, k3, hp3⟩
    walk_at "go"
    exact q l ns _ hl e3 f2 (by omega) f4 k3 hp3
instance p_revL {K : PySem.W.Frag} {te : TE} {σ : St} {H : Hp} {Q : VK} : Stp (tRevL K te σ H Q) (te σ H fun x H1 => ∃ a xs, x = .ref a ∧ SqL K H1 a xs ∧ ∀ p, H1 p = none → Q (.ref p) (upd H1 p (.lst xs.reverse))) := ⟨fun q => q⟩
def t__law_right (K : PySem.W.Frag) (Z : Ad) : TS :=
  (tSeq (tAsg (tCB (rListS K) (tCons (tVar 3) tNil)) (gName 5))
  (tSeq (tAsg (tCl (sp_rises K Z) [.kw 2, .kw 1, .kw 0] [] [] 0 3 (fun _ => E0) tNil (tCons (tVar 3) (tCons (tVar 2) (tCons (tVar 0) tNil)))) (gName 6))
  (tSeq (tIfS (tOr (tNot (tB (tCB (rIsi K) (tCons (tVar 6) (tCons (tC (.ty "bool")) tNil))))) (tOr (tTest (tOp rNe (tVar 6) (tCl (sp__law_rise K Z) [.pos 0, .pos 1, .pos 2] [] [] 3 0 (fun _ => E0) (tCons (tVar 1) (tCons (tVar 2) (tCons (tVar 3) tNil))) tNil))) (tTest (tOp (rNeD K) (tVar 3) (tVar 5))))) (tRet (tC (.bl false))) tNext)
  (tSeq (tIfS (tB (tCB (rAny K) (tCons (tLc (iList K (tVar 4)) (gName 7) tYes (tCl (sp_passes K Z) [.pos 0, .pos 1, .pos 2, .pos 3] [] [] 4 0 (fun _ => E0) (tCons (tVar 0) (tCons (tVar 2) (tCons (tVar 3) (tCons (tVar 7) tNil)))) tNil) [7]) tNil))) (tRet (tC (.bl true))) tNext)
  (tRet (tAndV (tVar 6) (tOp (rIn K true) (tVar 2) (tVar 3))))))))
theorem rd__law_right (K : PySem.W.Frag) (Z : Ad) : ∀ vs H Q E, sp__law_right K Z vs H Q E → t__law_right K Z { nx := fun _ H' => Q .non H', rt := Q } (start (["_law_circle", "_law_size_here", "_law_home", "_law_row", "_law_fixed_here", "_law_kept", "_law_told", "_law_point_here"]) vs) H := by
  rintro _ H Q E ⟨s, n, x, m, o, ns, fs, rfl, hs, ho, hn, hnm, hn0, hnl, hx, hfm, hfd, hlt, hfl, q⟩
  show t__law_right K Z _ [some (.ref s), some (.int m), some (.int o), some (.ref n), some (.ref x), none, none, none] H
  unfold t__law_right
  have hm0 := hs.pos
  walk_at "go"
  rename_i lk H2 hlk k2 ek
  refine use_rises rfl (hs.kp k2 nm0) (k2 _ _ hn nm0) hnl ?_
  walk_at "go"
  walk_at "on"
  refine isi (b := true) (.base (.bl _)) (by decide +kernel) ?_
  walk_at "go"
  refine use_rise rfl (k2 _ _ hn nm0) hm0.1 hn0 hnl ?_
  intro H3 k3
  walk_at "go"
  refine g_iteN (fun h => absurd rfl h) fun _ => ?_
  have k23 := k2.trans k3
  walk_at "go"
  refine d_neI (SqL.of (k23 _ _ hn nm0)) (SqL.of (k3 _ _ ek nm0)) ?_
  rw [decide_eq_true rfl]
  walk_at "go"
  walk_at "on"
  refine c_bools (fun p => pR m o ns p) (k23 _ _ hx nm0) hfl ?_ (fun _ _ A B h w => mono_name A B h w) ?_
  · intro p H' Q' hp k q'
    dsimp only [wipe, List.set]
    walk_at "go"
    refine use_passes rfl (hs.kp (k23.trans k) nm0) ((k23.trans k) _ _ hn nm0) hn0 hnl ?_
    intro H4 k4
    rw [passL_any]
    exact q' _ k4
  · intro D H4 hD k4 e4
    walk_at "go"
    refine h_any (SqL.of e4) ?_
    cases hany : (fs.map fun p => pR m o ns p).any id with
    | true =>
      walk_at "go"
      exact q _ (k23.trans k4)
    | false =>
      have hall : ∀ p ∈ fs, pR m o ns p = false := by
        intro p hp
        rw [List.any_eq_false] at hany
        have z := hany _ (List.mem_map.mpr ⟨p, hp, rfl⟩)
        simpa using z
      obtain ⟨w1, w2⟩ := must_rise hm0.1 ho hnm hfm hfd hlt hall
      rw [w1]
      have hn4 : H4 n = some (.lst (ns.map V.int)) := (k23.trans k4) _ _ hn nm0
      walk_at "go"
      rw [if_pos rfl, inV_int, decide_eq_false w2]
      exact q _ (k23.trans k4)
def t_law (K : PySem.W.Frag) (Z : Ad) : TS :=
  (tSeq (tFor (iRng1 (tCons (tCB rMax2 (tCons (tC (.int 2)) (tCons (tCB rMin2 (tCons (tC (.int 12)) (tCons (tCB (rLenS K) (tCons (tVar 0) tNil)) tNil))) tNil))) tNil)) (gName 1) (tSeq (tAsg (tCl (sp__law_pot K Z) [.pos 0, .pos 1] [] [] 2 0 (fun _ => E0) (tCons (tVar 0) (tCons (tVar 1) tNil)) tNil) (gName 2))
  (tSeq (tAsg (tCl (sp__law_bits K Z) [.pos 0] [] [] 1 0 (fun _ => E0) (tCons (tVar 2) tNil) tNil) (gName 3))
  (tSeq (tAsg (tCl (sp__law_size K Z) [.pos 0] [] [] 1 0 (fun _ => E0) (tCons (tVar 3) tNil) tNil) (gName 4))
  (tSeq (tAsg (tMk Z.Space (sp_Space___init__ K Z) [.pos 0, .pos 1] [.int 8] [] 2 0 (fun _ => E0) (tCons (tVar 3) tNil) tNil) (gName 5))
  (tSeq (tAsg (tCl (sp__law_take K Z) [.pos 0, .pos 1] [] [] 2 0 (fun _ => E0) (tCons (tVar 2) (tCons (tVar 4) tNil)) tNil) (gName 6))
  (tSeq (tAsg (tOp rAdd0 (tC (.int 1)) (tCl (sp__law_take K Z) [.pos 0, .pos 1] [] [] 2 0 (fun _ => E0) (tCons (tVar 2) (tCons (tC (.int 7)) tNil)) tNil)) (gName 7))
  (tSeq (tAsg (tCl (sp__law_fixed K Z) [.pos 0, .pos 1, .pos 2, .pos 3] [] [] 4 0 (fun _ => E0) (tCons (tVar 2) (tCons (tVar 4) (tCons (tVar 6) (tCons (tVar 7) tNil)))) tNil) (gName 8))
  (tSeq (tAsg (tCl (sp__law_point K Z) [.pos 0, .pos 1, .pos 2] [] [] 3 0 (fun _ => E0) (tCons (tVar 2) (tCons (tVar 4) (tCons (tVar 6) tNil))) tNil) (gName 9))
  (tSeq (tAsg (tCl (sp__law_built K Z) [.pos 0, .pos 1, .pos 2, .pos 3, .pos 4] [] [] 5 0 (fun _ => E0) (tCons (tVar 2) (tCons (tVar 4) (tCons (tVar 9) (tCons (tVar 8) (tCons (tVar 7) tNil))))) tNil) (gName 10))
  (tSeq (tIfS (tOr (tB (tCB (rAny K) (tCons (tLc (iList K (tVar 8)) (gName 15) tYes (tCl (sp_passes K Z) [.pos 0, .pos 1, .pos 2, .pos 3] [] [] 4 0 (fun _ => E0) (tCons (tVar 5) (tCons (tVar 9) (tCons (tVar 10) (tCons (tVar 15) tNil)))) tNil) [15]) tNil))) (tNot (tB (tCl (sp_rises K Z) [.pos 0, .pos 1, .pos 2] [] [] 3 0 (fun _ => E0) (tCons (tVar 5) (tCons (tVar 9) (tCons (tVar 10) tNil))) tNil)))) (tRet (tC (.bl false))) tNext)
  (tSeq (tAsg (tCl (sp__law_take K Z) [.pos 0, .pos 1] [] [] 2 0 (fun _ => E0) (tCons (tVar 2) (tCons (tVar 7) tNil)) tNil) (gName 11))
  (tSeq (tAsg (tOp rCat (tOp rCat (tSl (rSlL K) (tVar 10) tNoPart (tPart (tVar 11))) (tLst (tCons (tCl (sp__law_point K Z) [.pos 0, .pos 1, .pos 2] [] [] 3 0 (fun _ => E0) (tCons (tVar 2) (tCons (tVar 4) (tCons (tVar 6) tNil))) tNil) tNil))) (tSl (rSlL K) (tVar 10) (tPart (tOp rAdd0 (tVar 11) (tC (.int 1)))) tNoPart)) (gName 12))
  (tSeq (tAsg (tLc (iRng1 (tCons (tVar 7) tNil)) (gName 16) tYes (tCl (sp__law_point K Z) [.pos 0, .pos 1, .pos 2] [] [] 3 0 (fun _ => E0) (tCons (tVar 2) (tCons (tVar 4) (tCons (tVar 6) tNil))) tNil) [16]) (gName 13))
  (tFor (iList K (tLst (tCons (tVar 10) (tCons (tVar 12) (tCons (tVar 13) (tCons (tRevL K (tVar 10)) (tCons (tOp rCat (tLst (tCons (tVar 9) tNil)) (tSl (rSlL K) (tVar 10) (tPart (tC (.int 1))) tNoPart)) tNil))))))) (gName 14) (tIfS (tNot (tB (tCl (sp__law_right K Z) [.pos 0, .pos 1, .pos 2, .pos 3, .pos 4] [] [] 5 0 (fun _ => E0) (tCons (tVar 5) (tCons (tVar 4) (tCons (tVar 9) (tCons (tVar 14) (tCons (tVar 8) tNil))))) tNil))) (tRet (tC (.bl false))) tNext))))))))))))))))
  (tRet (tC (.bl true))))
theorem rd_law (K : PySem.W.Frag) (Z : Ad) : ∀ vs H Q E, sp_law K Z vs H Q E → t_law K Z { nx := fun _ H' => Q .non H', rt := Q } (start (["_law_script", "_law_k", "_law_pot_here", "_law_bits_here", "_law_size_here", "_law_circle", "_law_near", "_law_many", "_law_fixed_here", "_law_home", "_law_row", "_law_at", "_law_bent", "_law_drawn", "_law_some", "_law_point_here", "_law_j"]) vs) H := by
  rintro _ H Q E ⟨a, ns, rfl, ha, hl, q⟩
  show t_law K Z _ [some (.ref a), none, none, none, none, none, none, none, none, none, none, none, none, none, none, none, none] H
  unfold t_law
  walk_at "go"
  refine f_rng ?_ (fun i σ' H' => ∃ y1 y2 y3 y4 y5 y6 y7 y8 y9 y10 y11 y12 y13 y14, σ' = [some (.ref a), y1, y2, y3, y4, y5, y6, y7, y8, y9, y10, y11, y12, y13, y14, none, none] ∧ Kp [] H H') ⟨_, _, _, _, _, _, _, _, _, _, _, _, _, _, rfl, Kp.refl⟩ ?_ ?_
  · constructor <;> walk_at "ifs"
  · rintro i _ H1 hi ⟨y1, y2, y3, y4, y5, y6, y7, y8, y9, y10, y11, y12, y13, y14, rfl, k1⟩
    have hi2 : (i : Int) < 12 := by
      refine Int.lt_of_lt_of_le hi ?_
      walk_at "ifs"
    clear hi
    walk_at "go"
    refine use_pot rfl (by walk_at "sq") hl (by omega) (by omega) ?_
    intro p H2 hp k2 hp2
    walk_at "go"
    rename_i b H3 hb0 hb1 k3 hp3
    refine use_sizeL rfl (by omega) (by omega) ?_
    walk_at "go"
    rename_i s H4 hs k4 hs4
    have hm0 := hs4.pos
    generalize (2 : Int) ^ b.toNat = m at *
    have hp4 : PotAt H4 p := by walk_at "pot"
    have hsp : s ≠ p := by walk_at "ne"
    walk_at "go"
    rename_i nr H5 hnr0 hnr1 k5 hp5 mr H6 hmr0 hmr1 k6 hp6
    refine use_fixed rfl hp6 hm0.1 hm0.2 (by omega) (by omega) ?_
    intro lx fs H7 hlx elx hfm hfd hfl hfl2 k7 hp7
    have hlxp : lx ≠ p := PotAt.nonneg hp6 hp6 hlx
    walk_at "go"
    rename_i o H8 ho0 ho1 k8 hp8
    refine use_built rfl hp8 hm0.1 hm0.2 ⟨ho0, ho1⟩ (k8 _ _ elx (nm1 hlxp)) hlxp hfm (by omega) hfl2 (by omega) (by omega) ?_
    intro lr rs H9 hlr elr hrm hrl hpr k9 hp9
    have hlrp : lr ≠ p := PotAt.nonneg hp8 hp8 hlr
    have hpH : H p = none := by walk_at "fr"
    have hs9 : SpAt Z H9 s m := by walk_at "spa"
    have elx9 : H9 lx = some (.lst (fs.map V.int)) := k9 _ _ (k8 _ _ elx (nm1 hlxp)) (nm1 hlxp)
    have kk9 : KpC [] H H9 := ⟨by
      have z4 : Kp [] H H2 := by walk_at "kp"
      have z : Kp [p] H H9 := ((((((z4.wid.trans k3).trans k4.wid).trans k5).trans k6).trans k7).trans k8).trans k9
      intro c ob e _
      exact z c ob e (nm1 (ne_of_none e hpH))⟩
    obtain ⟨w1, w2⟩ := must_rise hm0.1 ⟨ho0, ho1⟩ hrm hfm hfd (by omega) hpr
    clear k1 k2 k3 k4 k5 k6 k7 k8 k9 hp2 hp3 hp4 hp5 hp6 hp7 hp8 hs4 hs elx hlx hlr
    walk_at "go"
    walk_at "on"
    refine c_bools (fun _ => false) elx9 hfl2 ?_ (fun _ _ A B h w => mono_name A B h w) ?_
    · intro f H' Q' hf k q'
      dsimp only [wipe, List.set]
      walk_at "go"
      refine use_passes rfl (hs9.kp k nm0) (k _ _ elr nm0) (by omega) (by omega) ?_
      intro H10 k10
      rw [passL_any, hpr f hf]
      exact q' _ k10
    intro D H10 hD k10 e10
    walk_at "go"
    refine h_any (SqL.of e10) ?_
    rw [show (fs.map fun _ => false).any id = false by simp]
    walk_at "go"
    refine use_rises rfl (hs9.kp k10 nm0) (k10 _ _ elr nm0) (by omega) ?_
    rw [w1]
    have hp10 : PotAt H10 p := hp9.kp k10 nm0
    have hs10 : SpAt Z H10 s m := hs9.kp k10 nm0
    replace elr := k10 _ _ elr nm0
    replace elx9 := k10 _ _ elx9 nm0
    have kk10 : KpC [] H H10 := ⟨kk9.k.trans k10⟩
    clear k10 hp9 hs9 e10 hD
    walk_at "go"
    rename_i at_ H11 hat0 hat1 k11 hp11 l12 H12 hl12 k12 e12 pt H13 hpt0 hpt1 k13 hp13 p14 hp14 H14 k14 e14 l15 H15 hl15 k15 e15 l16 H16 hl16 k16 e16 lb H17 hlb k17 elb
    have hp16 : PotAt H16 p := ((hp13.kp k14 nm0).kp k15 nm0).kp k16 nm0
    have hp17 : PotAt H17 p := hp16.kp k17 nm0
    have hlbp : lb ≠ p := PotAt.nonneg hp16 hp16 hlb
    have z17 : Kp [p] H10 H17 := (((((k11.trans k12.wid).trans k13).trans k14.wid).trans k15.wid).trans k16.wid).trans k17.wid
    have elr17 := z17 _ _ elr (nm1 hlrp)
    have elx17 := z17 _ _ elx9 (nm1 hlxp)
    have hs17 : SpAt Z H17 s m := hs10.kp z17 (nm1 hsp)
    have hbm : InSp m (rs.take at_.toNat ++ [pt] ++ rs.drop (at_ + 1).toNat) := insp_app (insp_app (fun k hk => hrm k (List.mem_of_mem_take hk)) (insp_1 ⟨hpt0, hpt1⟩)) (fun k hk => hrm k (List.mem_of_mem_drop hk))
    have hbl : (rs.take at_.toNat ++ [pt] ++ rs.drop (at_ + 1).toNat).length = rs.length := by
      simp only [List.length_append, List.length_take, List.length_drop, List.length_singleton]
      omega
    generalize rs.take at_.toNat ++ [pt] ++ rs.drop (at_ + 1).toNat = bent at elb hbm hbl
    clear k11 k12 k13 k14 k15 k16 k17 hp11 hp13 hp16 e12 e14 e15 e16 hl12 hp14 hl15 hl16 elr elx9 hs10 hp10
    have kkp : KpC [p] H H17 := ⟨kk10.k.wid.trans z17⟩
    refine c_rng (by omega) (fun D i H' => ∃ ds : List Int, H' D = some (.lst (ds.map V.int)) ∧ ds.length = i ∧ InSp m ds ∧ Kp [p] H17 H' ∧ PotAt H' p) ?_ ?_ ?_
    · intro D hD
      exact ⟨[], upd_same, rfl, (fun _ z => nomatch z), Kp.refl.new hD, hp17.kp (S := []) (Kp.refl.new hD) nm0⟩
    · rintro D i H18 hD hi ⟨ds, f1, f2, f3, k18, hp18⟩
      dsimp only [wipe, List.set]
      walk_at "go"
      rename_i y H19 hy0 hy1 k19 hp19
      have eD : H19 D = some (.lst (ds.map V.int)) := k19 _ _ f1 (nm1 (PotAt.nonneg hp17 hp17 hD))
      refine ⟨_, eD, sz_less (by rw [List.length_map]; omega), ds ++ [y], ?_, ?_, ?_, ?_, ?_⟩
      · rw [upd_same, List.map_append]; rfl
      · rw [List.length_append, f2]; rfl
      · exact insp_app f3 (insp_1 ⟨hy0, hy1⟩)
      · exact (k18.trans k19).own hD
      · obtain ⟨x', y', e, z⟩ := hp19
        exact ⟨x', y', by rw [upd_ne (PotAt.ne hp17 hp17 hD)]; exact e, z⟩
    · rintro ld H18 hld ⟨ds, eld, hdl, hdm, k18, hp18⟩
      have elr18 := k18 _ _ elr17 (nm1 hlrp)
      have elb18 := k18 _ _ elb (nm1 hlbp)
      have elx18 := k18 _ _ elx17 (nm1 hlxp)
      have hs18 : SpAt Z H18 s m := hs17.kp k18 (nm1 hsp)
      have kkp18 : KpC [] H H18 := ⟨by
        have z : Kp [p] H H18 := kkp.k.trans k18
        intro c ob e _
        exact z c ob e (nm1 (ne_of_none e hpH))⟩
      clear k18 elr17 elb elx17 hs17 hlb hld hp17 hp18 kkp z17 kk9 kk10
      walk_at "go"
      refine ⟨lr, rs.map V.int, rfl, SqL.of elr18, ?_⟩
      intro lv hlv
      generalize hgv : upd H18 lv _ = H19
      have k19 := Kp.of_upd hgv hlv
      have ev := at_upd hgv
      clear hgv
      rw [← List.map_reverse] at ev
      have hrl2 : rs.length ≤ 100 := by omega
      walk_at "go"
      rename_i p20 hp20 H20 k20 e20 l21 H21 hl21 k21 e21 lh H22 hlh k22 eh L hL H23 k23 eL
      have k1923 : Kp [] H19 H23 := ((k20.trans k21).trans k22).trans k23
      have k1823 : Kp [] H18 H23 := k19.trans k1923
      have hall : ∀ r ∈ [V.ref lr, V.ref lb, V.ref ld, V.ref lv, V.ref lh], ∃ (c : Addr) (zs : List Int), r = V.ref c ∧ H23 c = some (.lst (zs.map V.int)) ∧ InSp m zs ∧ zs.length = rs.length := by
        intro r hr
        simp only [List.mem_cons, List.not_mem_nil, or_false] at hr
        rcases hr with h | h | h | h | h
        · exact ⟨lr, rs, h, k1823 _ _ elr18 nm0, hrm, rfl⟩
        · exact ⟨lb, bent, h, k1823 _ _ elb18 nm0, hbm, hbl⟩
        · exact ⟨ld, ds, h, k1823 _ _ eld nm0, hdm, by rw [hdl]; omega⟩
        · exact ⟨lv, rs.reverse, h, k1923 _ _ ev nm0, (fun k hk => hrm k (List.mem_reverse.mp hk)), by rw [List.length_reverse]⟩
        · exact ⟨lh, _, h, k23 _ _ eh nm0, (fun k hk => (List.mem_cons.mp hk).elim (fun w => by rw [w]; exact ⟨ho0, ho1⟩) (fun w => hrm k (List.mem_of_mem_drop w))), by rw [List.length_cons, List.length_drop]; omega⟩
      have elx23 := k1823 _ _ elx18 nm0
      have hs23 : SpAt Z H23 s m := hs18.kp k1823 nm0
      have kk23 : KpC [] H H23 := ⟨kkp18.k.trans k1823⟩
      refine f_list (SqL.of eL) (fun j σ' H' => ∃ y14, σ' = [some (.ref a), some (.int (i : Int)), some (.ref p), some (.int b), some (.int m), some (.ref s), some (.int nr), some (.int (1 + mr)), some (.ref lx), some (.int o), some (.ref lr), some (.int at_), some (.ref lb), some (.ref ld), y14, none, none] ∧ Kp [] H23 H') ⟨_, rfl, Kp.refl⟩ ?_ ?_ ?_
      · rintro j _ H24 _ ⟨_, rfl, k24⟩
        exact k24.seq0 (SqL.of eL)
      · rintro j xv _ H24 hx ⟨y14, rfl, k24⟩
        obtain ⟨c, zs, rfl, ec, hzm, hzl⟩ := hall xv (List.mem_of_getElem? hx)
        walk_at "go"
        refine use_right rfl (hs23.kp k24 nm0) ⟨ho0, ho1⟩ (k24 _ _ ec nm0) hzm (by omega) (by omega) (k24 _ _ elx23 nm0) hfm hfd (by omega) hfl2 ?_
        intro H25 k25
        walk_at "go"
        exact ⟨_, rfl, k24.trans k25⟩
      · rintro _ H24 ⟨y14, rfl, k24⟩
        walk_at "go"
        exact ⟨_, _, _, _, _, _, _, _, _, _, _, _, _, _, rfl, kk23.k.trans k24⟩
  · rintro _ H1 ⟨y1, y2, y3, y4, y5, y6, y7, y8, y9, y10, y11, y12, y13, y14, rfl, k1⟩
    walk_at "go"
    exact q _
end NN
namespace NN
open PySem L2
def topS (i : Nat) : Stmt := PySem.Challenge.pw_nearestname_k26_whole_unpassing_lists_ri.main.body.getD i (.Pass ⟨0, 0, 0, 0⟩)
abbrev s_is_whole : Stmt := topS 14
abbrev s_Space___init__ : Stmt := inClass (topS 15) 0
abbrev s_Space_size : Stmt := inClass (topS 15) 2
abbrev s_Space_distance : Stmt := inClass (topS 15) 4
abbrev s_Space_is_between : Stmt := inClass (topS 15) 5
abbrev s_passes : Stmt := topS 2
abbrev s_rises : Stmt := topS 3
abbrev s__law_pot : Stmt := topS 17
abbrev s__law_take : Stmt := topS 18
abbrev s__law_bits : Stmt := topS 19
abbrev s__law_point : Stmt := topS 20
abbrev s__law_points : Stmt := topS 21
abbrev s__law_size : Stmt := topS 22
abbrev s__law_fixed : Stmt := topS 26
abbrev s__law_built : Stmt := topS 27
abbrev s__law_rise : Stmt := topS 28
abbrev s__law_right : Stmt := topS 29
abbrev s_law : Stmt := topS 30
theorem sc_is_whole : FnScope ["thing"] ["thing"] (defScope s_is_whole) := ⟨rfl, rfl, rfl, by decide +kernel, rfl, by decide +kernel, by decide +kernel⟩
theorem sc_Space___init__ : FnScope ["self", "bits"] ["self", "bits"] (defScope s_Space___init__) := ⟨rfl, rfl, rfl, by decide +kernel, rfl, by decide +kernel, by decide +kernel⟩
theorem sc_Space_size : FnScope ["self"] ["self"] (defScope s_Space_size) := ⟨rfl, rfl, rfl, by decide +kernel, rfl, by decide +kernel, by decide +kernel⟩
theorem sc_Space_distance : FnScope ["self", "one", "other"] ["self", "one", "other"] (defScope s_Space_distance) := ⟨rfl, rfl, rfl, by decide +kernel, rfl, by decide +kernel, by decide +kernel⟩
theorem sc_Space_is_between : FnScope ["self", "point", "one", "other", "far"] ["self", "point", "one", "other"] (defScope s_Space_is_between) := ⟨rfl, rfl, rfl, by decide +kernel, rfl, by decide +kernel, by decide +kernel⟩
theorem sc_passes : FnScope ["space", "owner", "names", "point", "ahead", "one", "other"] ["space", "owner", "names", "point"] (defScope s_passes) := ⟨rfl, rfl, rfl, by decide +kernel, rfl, by decide +kernel, by decide +kernel⟩
theorem sc_rises : FnScope ["space", "owner", "names", "far", "name"] ["space", "owner", "names"] (defScope s_rises) := ⟨rfl, rfl, rfl, by decide +kernel, rfl, by decide +kernel, by decide +kernel⟩
theorem sc__law_pot : FnScope ["_law_script", "_law_k", "_law_cell", "_law_mixed", "_law_one"] ["_law_script", "_law_k"] (defScope s__law_pot) := ⟨rfl, rfl, rfl, by decide +kernel, rfl, by decide +kernel, by decide +kernel⟩
theorem sc__law_take : FnScope ["_law_pot_here", "_law_room", "_law_digit"] ["_law_pot_here", "_law_room"] (defScope s__law_take) := ⟨rfl, rfl, rfl, by decide +kernel, rfl, by decide +kernel, by decide +kernel⟩
theorem sc__law_bits : FnScope ["_law_pot_here"] ["_law_pot_here"] (defScope s__law_bits) := ⟨rfl, rfl, rfl, by decide +kernel, rfl, by decide +kernel, by decide +kernel⟩
theorem sc__law_point : FnScope ["_law_pot_here", "_law_size_here", "_law_near", "_law_way", "_law_far"] ["_law_pot_here", "_law_size_here", "_law_near"] (defScope s__law_point) := ⟨rfl, rfl, rfl, by decide +kernel, rfl, by decide +kernel, by decide +kernel⟩
theorem sc__law_points : FnScope ["_law_pot_here", "_law_size_here", "_law_near", "_law_room", "_law_k"] ["_law_pot_here", "_law_size_here", "_law_near", "_law_room"] (defScope s__law_points) := ⟨rfl, rfl, rfl, by decide +kernel, rfl, by decide +kernel, by decide +kernel⟩
theorem sc__law_size : FnScope ["_law_bits_here", "_law_size_here", "_law_turn"] ["_law_bits_here"] (defScope s__law_size) := ⟨rfl, rfl, rfl, by decide +kernel, rfl, by decide +kernel, by decide +kernel⟩
theorem sc__law_fixed : FnScope ["_law_pot_here", "_law_size_here", "_law_near", "_law_many", "_law_found", "_law_point_here"] ["_law_pot_here", "_law_size_here", "_law_near", "_law_many"] (defScope s__law_fixed) := ⟨rfl, rfl, rfl, by decide +kernel, rfl, by decide +kernel, by decide +kernel⟩
theorem sc__law_built : FnScope ["_law_pot_here", "_law_size_here", "_law_home", "_law_fixed_here", "_law_many", "_law_found", "_law_here", "_law_k", "_law_steps", "_law_point_here"] ["_law_pot_here", "_law_size_here", "_law_home", "_law_fixed_here", "_law_many"] (defScope s__law_built) := ⟨rfl, rfl, rfl, by decide +kernel, rfl, by decide +kernel, by decide +kernel⟩
theorem sc__law_rise : FnScope ["_law_size_here", "_law_home", "_law_row", "_law_far", "_law_name", "_law_k"] ["_law_size_here", "_law_home", "_law_row"] (defScope s__law_rise) := ⟨rfl, rfl, rfl, by decide +kernel, rfl, by decide +kernel, by decide +kernel⟩
theorem sc__law_right : FnScope ["_law_circle", "_law_size_here", "_law_home", "_law_row", "_law_fixed_here", "_law_kept", "_law_told", "_law_point_here"] ["_law_circle", "_law_size_here", "_law_home", "_law_row", "_law_fixed_here"] (defScope s__law_right) := ⟨rfl, rfl, rfl, by decide +kernel, rfl, by decide +kernel, by decide +kernel⟩
theorem sc_law : FnScope ["_law_script", "_law_k", "_law_pot_here", "_law_bits_here", "_law_size_here", "_law_circle", "_law_near", "_law_many", "_law_fixed_here", "_law_home", "_law_row", "_law_at", "_law_bent", "_law_drawn", "_law_some", "_law_point_here", "_law_j"] ["_law_script"] (defScope s_law) := ⟨rfl, rfl, rfl, by decide +kernel, rfl, by decide +kernel, by decide +kernel⟩
theorem cb_is_whole_1 {K : PySem.W.Frag} {f : Addr} {fd : FuncData} (F : FunS K "is_whole" "is_whole" s_is_whole [] [] f fd) : CallB K fd ["thing"] 1 [] [.pos 0] [] [] :=
  callb_p F (fun _ _ _ _ _ _ us ws hn hm => match us, hn, ws, hm with | [_], _, [], _ => rfl)
theorem cb_Space_size_1 {K : PySem.W.Frag} {f : Addr} {fd : FuncData} (F : FunS K "size" "Space.size" s_Space_size [] [] f fd) : CallB K fd ["self"] 1 [] [.pos 0] [] [] :=
  callb_p F (fun _ _ _ _ _ _ us ws hn hm => match us, hn, ws, hm with | [_], _, [], _ => rfl)
theorem cb_Space_distance_3 {K : PySem.W.Frag} {f : Addr} {fd : FuncData} (F : FunS K "distance" "Space.distance" s_Space_distance [] [] f fd) : CallB K fd ["self", "one", "other"] 3 [] [.pos 0, .pos 1, .pos 2] [] [] :=
  callb_p F (fun _ _ _ _ _ _ us ws hn hm => match us, hn, ws, hm with | [_, _, _], _, [], _ => rfl)
theorem cb_Space_is_between_4 {K : PySem.W.Frag} {f : Addr} {fd : FuncData} (F : FunS K "is_between" "Space.is_between" s_Space_is_between [] [] f fd) : CallB K fd ["self", "point", "one", "other"] 4 [] [.pos 0, .pos 1, .pos 2, .pos 3] [] [] :=
  callb_p F (fun _ _ _ _ _ _ us ws hn hm => match us, hn, ws, hm with | [_, _, _, _], _, [], _ => rfl)
theorem cb__law_take_2 {K : PySem.W.Frag} {f : Addr} {fd : FuncData} (F : FunS K "_law_take" "_law_take" s__law_take [] [] f fd) : CallB K fd ["_law_pot_here", "_law_room"] 2 [] [.pos 0, .pos 1] [] [] :=
  callb_p F (fun _ _ _ _ _ _ us ws hn hm => match us, hn, ws, hm with | [_, _], _, [], _ => rfl)
theorem cb__law_point_3 {K : PySem.W.Frag} {f : Addr} {fd : FuncData} (F : FunS K "_law_point" "_law_point" s__law_point [] [] f fd) : CallB K fd ["_law_pot_here", "_law_size_here", "_law_near"] 3 [] [.pos 0, .pos 1, .pos 2] [] [] :=
  callb_p F (fun _ _ _ _ _ _ us ws hn hm => match us, hn, ws, hm with | [_, _, _], _, [], _ => rfl)
theorem cb__law_points_4 {K : PySem.W.Frag} {f : Addr} {fd : FuncData} (F : FunS K "_law_points" "_law_points" s__law_points [] [] f fd) : CallB K fd ["_law_pot_here", "_law_size_here", "_law_near", "_law_room"] 4 [] [.pos 0, .pos 1, .pos 2, .pos 3] [] [] :=
  callb_p F (fun _ _ _ _ _ _ us ws hn hm => match us, hn, ws, hm with | [_, _, _, _], _, [], _ => rfl)
theorem cb_rises_0_2_1_0 {K : PySem.W.Frag} {f : Addr} {fd : FuncData} (F : FunS K "rises" "rises" s_rises [] [] f fd) : CallB K fd ["space", "owner", "names"] 0 ["names", "owner", "space"] [.kw 2, .kw 1, .kw 0] [] [] :=
  callb_p F (fun _ _ _ _ _ _ us ws hn hm => match us, hn, ws, hm with | [], _, [_, _, _], _ => rfl)
theorem cb__law_rise_3 {K : PySem.W.Frag} {f : Addr} {fd : FuncData} (F : FunS K "_law_rise" "_law_rise" s__law_rise [] [] f fd) : CallB K fd ["_law_size_here", "_law_home", "_law_row"] 3 [] [.pos 0, .pos 1, .pos 2] [] [] :=
  callb_p F (fun _ _ _ _ _ _ us ws hn hm => match us, hn, ws, hm with | [_, _, _], _, [], _ => rfl)
theorem cb_passes_4 {K : PySem.W.Frag} {f : Addr} {fd : FuncData} (F : FunS K "passes" "passes" s_passes [] [] f fd) : CallB K fd ["space", "owner", "names", "point"] 4 [] [.pos 0, .pos 1, .pos 2, .pos 3] [] [] :=
  callb_p F (fun _ _ _ _ _ _ us ws hn hm => match us, hn, ws, hm with | [_, _, _, _], _, [], _ => rfl)
theorem cb__law_pot_2 {K : PySem.W.Frag} {f : Addr} {fd : FuncData} (F : FunS K "_law_pot" "_law_pot" s__law_pot [] [] f fd) : CallB K fd ["_law_script", "_law_k"] 2 [] [.pos 0, .pos 1] [] [] :=
  callb_p F (fun _ _ _ _ _ _ us ws hn hm => match us, hn, ws, hm with | [_, _], _, [], _ => rfl)
theorem cb__law_bits_1 {K : PySem.W.Frag} {f : Addr} {fd : FuncData} (F : FunS K "_law_bits" "_law_bits" s__law_bits [] [] f fd) : CallB K fd ["_law_pot_here"] 1 [] [.pos 0] [] [] :=
  callb_p F (fun _ _ _ _ _ _ us ws hn hm => match us, hn, ws, hm with | [_], _, [], _ => rfl)
theorem cb__law_size_1 {K : PySem.W.Frag} {f : Addr} {fd : FuncData} (F : FunS K "_law_size" "_law_size" s__law_size [] [] f fd) : CallB K fd ["_law_bits_here"] 1 [] [.pos 0] [] [] :=
  callb_p F (fun _ _ _ _ _ _ us ws hn hm => match us, hn, ws, hm with | [_], _, [], _ => rfl)
theorem cb_Space___init___2 {K : PySem.W.Frag} {f : Addr} {fd : FuncData} (F : FunS K "__init__" "Space.__init__" s_Space___init__ [.int 8] [] f fd) : CallB K fd ["self", "bits"] 2 [] [.pos 0, .pos 1] [.int 8] [] :=
  callb_d F (by simp) (fun _ _ _ _ _ _ _ us ws its hn hm hd => match us, hn, ws, hm, its, hd with | [_, _], _, [], _, [_], _ => ⟨_, rfl, rfl⟩)
theorem cb__law_fixed_4 {K : PySem.W.Frag} {f : Addr} {fd : FuncData} (F : FunS K "_law_fixed" "_law_fixed" s__law_fixed [] [] f fd) : CallB K fd ["_law_pot_here", "_law_size_here", "_law_near", "_law_many"] 4 [] [.pos 0, .pos 1, .pos 2, .pos 3] [] [] :=
  callb_p F (fun _ _ _ _ _ _ us ws hn hm => match us, hn, ws, hm with | [_, _, _, _], _, [], _ => rfl)
theorem cb__law_built_5 {K : PySem.W.Frag} {f : Addr} {fd : FuncData} (F : FunS K "_law_built" "_law_built" s__law_built [] [] f fd) : CallB K fd ["_law_pot_here", "_law_size_here", "_law_home", "_law_fixed_here", "_law_many"] 5 [] [.pos 0, .pos 1, .pos 2, .pos 3, .pos 4] [] [] :=
  callb_p F (fun _ _ _ _ _ _ us ws hn hm => match us, hn, ws, hm with | [_, _, _, _, _], _, [], _ => rfl)
theorem cb_rises_3 {K : PySem.W.Frag} {f : Addr} {fd : FuncData} (F : FunS K "rises" "rises" s_rises [] [] f fd) : CallB K fd ["space", "owner", "names"] 3 [] [.pos 0, .pos 1, .pos 2] [] [] :=
  callb_p F (fun _ _ _ _ _ _ us ws hn hm => match us, hn, ws, hm with | [_, _, _], _, [], _ => rfl)
theorem cb__law_right_5 {K : PySem.W.Frag} {f : Addr} {fd : FuncData} (F : FunS K "_law_right" "_law_right" s__law_right [] [] f fd) : CallB K fd ["_law_circle", "_law_size_here", "_law_home", "_law_row", "_law_fixed_here"] 5 [] [.pos 0, .pos 1, .pos 2, .pos 3, .pos 4] [] [] :=
  callb_p F (fun _ _ _ _ _ _ us ws hn hm => match us, hn, ws, hm with | [_, _, _, _, _], _, [], _ => rfl)
structure Txt (K : PySem.W.Frag) (mg : Str → Option Value) (Z : Ad) : Prop where
  c_NoSpace : mg "NoSpace" = some (.ref Z.NoSpace)
  c_Space : mg "Space" = some (.ref Z.Space)
  cl_Space : Cls K Z.Space
  na_Space_own_bits : NoAttr K Z.Space "own_bits"
  x_NoSpace : PySem.W.excIn K Z.NoSpace [.type "ValueError", .type "Exception", .type "BaseException", .type "object"] "ValueError.__new__" = true
  kp_NoSpace : PySem.W.keepIn K (.ref Z.NoSpace) = true
  b_NoSpace : PySem.W.subIn K (.ref Z.NoSpace) (.type "BaseException") = some true
  t_NoSpace : PySem.W.typeIn K (.ref Z.NoSpace) = some (.type "type")
  f_is_whole : DF K mg "is_whole" s_is_whole [] []
  f_Space___init__ : IF K Z.Space "Space.__init__" s_Space___init__ [.int 8] []
  f_Space_size : MF K Z.Space "size" "Space.size" s_Space_size [] []
  f_Space_distance : MF K Z.Space "distance" "Space.distance" s_Space_distance [] []
  f_Space_is_between : MF K Z.Space "is_between" "Space.is_between" s_Space_is_between [] []
  f_passes : DF K mg "passes" s_passes [] []
  f_rises : DF K mg "rises" s_rises [] []
  f__law_pot : DF K mg "_law_pot" s__law_pot [] []
  f__law_take : DF K mg "_law_take" s__law_take [] []
  f__law_bits : DF K mg "_law_bits" s__law_bits [] []
  f__law_point : DF K mg "_law_point" s__law_point [] []
  f__law_points : DF K mg "_law_points" s__law_points [] []
  f__law_size : DF K mg "_law_size" s__law_size [] []
  f__law_fixed : DF K mg "_law_fixed" s__law_fixed [] []
  f__law_built : DF K mg "_law_built" s__law_built [] []
  f__law_rise : DF K mg "_law_rise" s__law_rise [] []
  f__law_right : DF K mg "_law_right" s__law_right [] []
  f_law : DF K mg "law" s_law [] []
  n_all : mg "all" = none
  n_any : mg "any" = none
  n_bool : mg "bool" = none
  n_int : mg "int" = none
  n_isinstance : mg "isinstance" = none
  n_len : mg "len" = none
  n_list : mg "list" = none
  n_max : mg "max" = none
  n_min : mg "min" = none
  n_range : mg "range" = none
  n_zip : mg "zip" = none
  c_LEAST_BITS : ∃ t, mg "LEAST_BITS" = some (.int 3 t)
  c_MOST_BITS : ∃ t, mg "MOST_BITS" = some (.int 32 t)
section
variable {P : Program} {w : World} {K : PySem.W.Frag} {mg : Str → Option Value} {base : Heap} {Z : Ad}
theorem ok_is_whole (T : Txt K mg Z) : DK P w K mg base CX0 1 "is_whole" ["thing"] s_is_whole [] [] (sp_is_whole K Z) :=
  T.f_is_whole.mk2 fun f fd F => fn0 F sc_is_whole (by intro vs H Q E h; unfold sp_is_whole at h; (repeat (obtain ⟨_, h⟩ := h)); subst_vars; rfl) (fun f cdv A outer s H E hr => (pss_one (ps_ret (pe_and (pe_callB call_isi (by rfl) T.n_isinstance (by decide +kernel) (pa_cons (pv 0) (pa_cons (pe_bltn (v := .ty "int") (by rfl) T.n_int (by decide +kernel) rfl) pa_nil))) (pe_one (pe_not (pe_callB call_isi (by rfl) T.n_isinstance (by decide +kernel) (pa_cons (pv 0) (pa_cons (pe_bltn (v := .ty "bool") (by rfl) T.n_bool (by decide +kernel) rfl) pa_nil))))))))) (rd_is_whole K Z)
theorem ok_Space___init__ (T : Txt K mg Z) : IK P w K mg base (L2.CX P w) 2 Z.Space "Space.__init__" ["self", "bits"] s_Space___init__ [.int 8] [] (sp_Space___init__ K Z) :=
  T.f_Space___init__.mk2 fun f fd F => fnx F sc_Space___init__ (by intro vs H Q E h; unfold sp_Space___init__ at h; (repeat (obtain ⟨_, h⟩ := h)); subst_vars; rfl) (fun f cdv A outer s H E hr => (pss_cons (ps_if (PW.pt (pw_or (pt_not (pt_val (pe_dk (ok_is_whole T) hr (by decide) (by rfl) cb_is_whole_1 xa0 (par_pos (pa_cons (pv 1) pa_nil))))) (pw_or1 (pt_not (pt_chain op_le op_le (pe_gI rfl T.c_LEAST_BITS) (pv 1) (pe_gI rfl T.c_MOST_BITS)))))) (pss_one (ps_raise rfl (takes_of rfl rfl rfl rfl) (pmk_own PySem.F.excBase_ValueError T.x_NoSpace T.c_NoSpace T.kp_NoSpace (raises_own T.b_NoSpace T.t_NoSpace) rfl))) pss_nil)
      (pss_one (ps_fld (pv 0) (pv 1) rfl)))) (rd_Space___init__ K Z T.cl_Space T.na_Space_own_bits)
theorem ok_Space_size (T : Txt K mg Z) : MK P w K mg base CX0 1 Z.Space "size" "Space.size" ["self"] s_Space_size [] [] (sp_Space_size K Z) :=
  T.f_Space_size.mk2 fun f fd F => fn0 F sc_Space_size (by intro vs H Q E h; unfold sp_Space_size at h; (repeat (obtain ⟨_, h⟩ := h)); subst_vars; rfl) (fun f cdv A outer s H E hr => (pss_one (ps_ret (pe_op op_shl pe_int (pe_fld (pv 0) rfl))))) (rd_Space_size K Z T.cl_Space T.na_Space_own_bits)
theorem ok_Space_distance (T : Txt K mg Z) : MK P w K mg base CX0 2 Z.Space "distance" "Space.distance" ["self", "one", "other"] s_Space_distance [] [] (sp_Space_distance K Z) :=
  T.f_Space_distance.mk2 fun f fd F => fn0 F sc_Space_distance (by intro vs H Q E h; unfold sp_Space_distance at h; (repeat (obtain ⟨_, h⟩ := h)); subst_vars; rfl) (fun f cdv A outer s H E hr => (pss_one (ps_ret (pe_op op_mod (pe_op op_sub (pv 2) (pv 1)) (pe_mkk (ok_Space_size T) (pv 0) T.cl_Space hr (by decide) cb_Space_size_1 xa0 par_0))))) (rd_Space_distance K Z)
theorem ok_Space_is_between (T : Txt K mg Z) : MK P w K mg base CX0 3 Z.Space "is_between" "Space.is_between" ["self", "point", "one", "other"] s_Space_is_between [] [] (sp_Space_is_between K Z) :=
  T.f_Space_is_between.mk2 fun f fd F => fn0 F sc_Space_is_between (by intro vs H Q E h; unfold sp_Space_is_between at h; (repeat (obtain ⟨_, h⟩ := h)); subst_vars; rfl) (fun f cdv A outer s H E hr => (pss_cons (ps_set (i := 4) sc_Space_is_between.nd rfl (.inl rfl) (pe_mkk (ok_Space_distance T) (pv 0) T.cl_Space hr (by decide) cb_Space_distance_3 xa0 (par_pos (pa_cons (pv 2) (pa_cons (pv 1) pa_nil)))))
      (pss_one (ps_ret (pe_and (pe_cmpR op_gt (pv 4) pe_int (nomark _)) (pe_one (pe_or (pe_cmpR op_eq (pv 2) (pv 3) (nomark _)) (pe_one (pe_cmpR op_lt (pv 4) (pe_mkk (ok_Space_distance T) (pv 0) T.cl_Space hr (by decide) cb_Space_distance_3 xa0 (par_pos (pa_cons (pv 2) (pa_cons (pv 3) pa_nil)))) (nomark _)))))))))) (rd_Space_is_between K Z)
theorem ok_passes (T : Txt K mg Z) : DK P w K mg base CX0 4 "passes" ["space", "owner", "names", "point"] s_passes [] [] (sp_passes K Z) :=
  T.f_passes.mk2 fun f fd F => fn0 F sc_passes (by intro vs H Q E h; unfold sp_passes at h; (repeat (obtain ⟨_, h⟩ := h)); subst_vars; rfl) (fun f cdv A outer s H E hr => (pss_cons (ps_set (i := 4) sc_passes.nd rfl (.inl rfl) (pe_op op_cat (pe_lst (pa_cons (pv 1) pa_nil)) (pe_slice sl_list (pv 2) po_none (po_some (pe_un un_neg pe_int)))))
      (pss_one (ps_ret (pe_callB (cr_any rfl) (by rfl) T.n_any (by decide +kernel) (pa_cons (pe_lc (own := [("one", 5), ("other", 6)]) rfl sc_passes.nd (NZ.pi_zipS (by rfl) T.n_zip (pa_cons (pv 4) (pa_cons (pv 2) pa_nil)) (pk_cons pe_bl pk_nil)) (blkOk_by (N := ["space", "owner", "names", "point", "ahead", "one", "other"]) (sc := defScope s_passes) (by decide +kernel)) (fun _ _ _ _ _ => (pg_tup rfl (pgs_cons (pg_name (i := 5) sc_passes.nd rfl (Or.inl rfl)) (pgs_cons (pg_name (i := 6) sc_passes.nd rfl (Or.inl rfl)) pgs_nil)))) (fun _ _ _ _ _ => pts_nil) (fun _ _ _ _ _ => (pe_mkk (ok_Space_is_between T) (pv 0) T.cl_Space hr (by decide) cb_Space_is_between_4 xa0 (par_pos (pa_cons (pv 3) (pa_cons (pv 5) (pa_cons (pv 6) pa_nil))))))) pa_nil)))))) (rd_passes K Z)
theorem ok_rises (T : Txt K mg Z) : DK P w K mg base CX0 3 "rises" ["space", "owner", "names"] s_rises [] [] (sp_rises K Z) :=
  T.f_rises.mk2 fun f fd F => fn0 F sc_rises (by intro vs H Q E h; unfold sp_rises at h; (repeat (obtain ⟨_, h⟩ := h)); subst_vars; rfl) (fun f cdv A outer s H E hr => (pss_cons (ps_set (i := 3) sc_rises.nd rfl (.inl rfl) pe_int)
      (pss_cons (ps_for PassesOwn.never rfl (pi_list (pv 2)) (pg_name (i := 4) sc_rises.nd rfl (Or.inl rfl)) (pss_cons (ps_if (pt_cmpR op_le (pe_mkk (ok_Space_distance T) (pv 0) T.cl_Space hr (by decide) cb_Space_distance_3 xa0 (par_pos (pa_cons (pv 1) (pa_cons (pv 4) pa_nil)))) (pv 3) (nomark _)) (pss_one (ps_ret pe_bl)) pss_nil)
      (pss_one (ps_set (i := 3) sc_rises.nd rfl (.inl rfl) (pe_mkk (ok_Space_distance T) (pv 0) T.cl_Space hr (by decide) cb_Space_distance_3 xa0 (par_pos (pa_cons (pv 1) (pa_cons (pv 4) pa_nil))))))))
      (pss_one (ps_ret pe_bl))))) (rd_rises K Z)
theorem ok__law_pot (T : Txt K mg Z) : DK P w K mg base CX0 1 "_law_pot" ["_law_script", "_law_k"] s__law_pot [] [] (sp__law_pot K Z) :=
  T.f__law_pot.mk2 fun f fd F => fn0 F sc__law_pot (by intro vs H Q E h; unfold sp__law_pot at h; (repeat (obtain ⟨_, h⟩ := h)); subst_vars; rfl) (fun f cdv A outer s H E hr => (pss_cons (ps_set (i := 2) sc__law_pot.nd rfl (.inl rfl) pe_int)
      (pss_cons (ps_if (pt_cmpR op_lt (pv 1) (pe_callB call_len_seq (by rfl) T.n_len (by decide +kernel) (pa_cons (pv 0) pa_nil)) (nomark _)) (pss_one (ps_set (i := 2) sc__law_pot.nd rfl (.inl rfl) (pe_ix ix_list (pv 0) (pv 1) (fun _ _ => rfl)))) pss_nil)
      (pss_cons (ps_set (i := 3) sc__law_pot.nd rfl (.inl rfl) (pe_op op_add pe_int (pe_op op_mul pe_int (pv 1))))
      (pss_cons (ps_for PassesOwn.never rfl (pi_list (pe_slice sl_list (pv 0) po_none (po_some pe_int))) (pg_name (i := 4) sc__law_pot.nd rfl (Or.inl rfl)) (pss_one (ps_set (i := 3) sc__law_pot.nd rfl (.inl rfl) (pe_op op_mod (pe_op op_add (pe_op op_mul (pv 3) pe_int) (pv 4)) pe_int))))
      (pss_one (ps_ret (pe_lst (pa_cons (pe_op op_mul (pv 2) (pe_callTy call_int1 (by rfl) T.n_int (by decide +kernel) (pa_cons (pe_cmpR op_ge (pv 2) (pe_op op_pow pe_int pe_int) (nomark _)) pa_nil))) (pa_cons (pv 3) pa_nil)))))))))) (rd__law_pot K Z)
theorem ok__law_take (T : Txt K mg Z) : DK P w K mg base CX0 1 "_law_take" ["_law_pot_here", "_law_room"] s__law_take [] [] (sp__law_take K Z) :=
  T.f__law_take.mk2 fun f fd F => fn0 F sc__law_take (by intro vs H Q E h; unfold sp__law_take at h; (repeat (obtain ⟨_, h⟩ := h)); subst_vars; rfl) (fun f cdv A outer s H E hr => (pss_cons (ps_if (pt_cmpR op_gt (pe_ix ix_list (pv 0) pe_int (fun _ _ => rfl)) pe_int (nomark _)) (pss_cons (ps_set (i := 2) sc__law_take.nd rfl (.inl rfl) (pe_op op_mod (pe_ix ix_list (pv 0) pe_int (fun _ _ => rfl)) (pv 1)))
      (pss_cons (ps_asg (pe_op op_fdivW (pe_ix ix_list (pv 0) pe_int (fun _ _ => rfl)) (pv 1)) (pg_sub (pv 0) pe_int set_list))
      (pss_one (ps_ret (pv 2))))) pss_nil)
      (pss_cons (ps_asg (pe_op op_mod (pe_op op_add (pe_op op_mul (pe_ix ix_list (pv 0) pe_int (fun _ _ => rfl)) pe_int) pe_int) pe_int) (pg_sub (pv 0) pe_int set_list))
      (pss_one (ps_ret (pe_op op_mod (pe_op op_fdivW (pe_op op_mod (pe_op op_mul (pe_ix ix_list (pv 0) pe_int (fun _ _ => rfl)) (pe_ix ix_list (pv 0) pe_int (fun _ _ => rfl))) pe_int) pe_int) (pv 1))))))) (rd__law_take K Z)
theorem ok__law_bits (T : Txt K mg Z) : DK P w K mg base CX0 2 "_law_bits" ["_law_pot_here"] s__law_bits [] [] (sp__law_bits K Z) :=
  T.f__law_bits.mk2 fun f fd F => fn0 F sc__law_bits (by intro vs H Q E h; unfold sp__law_bits at h; (repeat (obtain ⟨_, h⟩ := h)); subst_vars; rfl) (fun f cdv A outer s H E hr => (pss_one (ps_ret (pe_ix ix_list (pe_lst (pa_cons pe_int (pa_cons pe_int (pa_cons (pe_op op_add pe_int (pe_dk (ok__law_take T) hr (by decide) (by rfl) cb__law_take_2 xa0 (par_pos (pa_cons (pv 0) (pa_cons pe_int pa_nil))))) (pa_cons (pe_op op_add pe_int (pe_dk (ok__law_take T) hr (by decide) (by rfl) cb__law_take_2 xa0 (par_pos (pa_cons (pv 0) (pa_cons pe_int pa_nil))))) pa_nil))))) (pe_dk (ok__law_take T) hr (by decide) (by rfl) cb__law_take_2 xa0 (par_pos (pa_cons (pv 0) (pa_cons pe_int pa_nil)))) (fun _ _ => rfl))))) (rd__law_bits K Z)
theorem ok__law_point (T : Txt K mg Z) : DK P w K mg base CX0 2 "_law_point" ["_law_pot_here", "_law_size_here", "_law_near"] s__law_point [] [] (sp__law_point K Z) :=
  T.f__law_point.mk2 fun f fd F => fn0 F sc__law_point (by intro vs H Q E h; unfold sp__law_point at h; (repeat (obtain ⟨_, h⟩ := h)); subst_vars; rfl) (fun f cdv A outer s H E hr => (pss_cons (ps_set (i := 3) sc__law_point.nd rfl (.inl rfl) (pe_dk (ok__law_take T) hr (by decide) (by rfl) cb__law_take_2 xa0 (par_pos (pa_cons (pv 0) (pa_cons pe_int pa_nil)))))
      (pss_cons (ps_set (i := 4) sc__law_point.nd rfl (.inl rfl) (pe_dk (ok__law_take T) hr (by decide) (by rfl) cb__law_take_2 xa0 (par_pos (pa_cons (pv 0) (pa_cons (pv 1) pa_nil)))))
      (pss_one (ps_ret (pe_ix ix_list (pe_lst (pa_cons (pv 4) (pa_cons (pe_op op_mod (pe_op op_sub (pe_op op_add (pv 2) (pe_op op_mod (pv 4) pe_int)) pe_int) (pv 1)) (pa_cons (pe_op op_mod (pe_op op_add (pv 2) (pe_op op_mod (pv 4) pe_int)) (pv 1)) (pa_cons (pv 4) pa_nil))))) (pv 3) (fun _ _ => rfl))))))) (rd__law_point K Z)
theorem ok__law_points (T : Txt K mg Z) : DK P w K mg base CX0 3 "_law_points" ["_law_pot_here", "_law_size_here", "_law_near", "_law_room"] s__law_points [] [] (sp__law_points K Z) :=
  T.f__law_points.mk2 fun f fd F => fn0 F sc__law_points (by intro vs H Q E h; unfold sp__law_points at h; (repeat (obtain ⟨_, h⟩ := h)); subst_vars; rfl) (fun f cdv A outer s H E hr => (pss_one (ps_ret (pe_lc (own := [("_law_k", 4)]) rfl sc__law_points.nd (pi_range1 rfl T.n_range (pa_cons (pe_op op_add pe_int (pe_dk (ok__law_take T) hr (by decide) (by rfl) cb__law_take_2 xa0 (par_pos (pa_cons (pv 0) (pa_cons (pv 3) pa_nil))))) pa_nil)) (blkOk_by (N := ["_law_pot_here", "_law_size_here", "_law_near", "_law_room", "_law_k"]) (sc := defScope s__law_points) (by decide +kernel)) (fun _ _ _ _ _ => (pg_name (i := 4) sc__law_points.nd rfl (Or.inl rfl))) (fun _ _ _ _ _ => pts_nil) (fun _ _ _ _ _ => (pe_dk (ok__law_point T) hr (by decide) (by rfl) cb__law_point_3 xa0 (par_pos (pa_cons (pv 0) (pa_cons (pv 1) (pa_cons (pv 2) pa_nil)))))))))) (rd__law_points K Z)
theorem ok__law_size (T : Txt K mg Z) : DK P w K mg base CX0 1 "_law_size" ["_law_bits_here"] s__law_size [] [] (sp__law_size K Z) :=
  T.f__law_size.mk2 fun f fd F => fn0 F sc__law_size (by intro vs H Q E h; unfold sp__law_size at h; (repeat (obtain ⟨_, h⟩ := h)); subst_vars; rfl) (fun f cdv A outer s H E hr => (pss_cons (ps_set (i := 1) sc__law_size.nd rfl (.inl rfl) pe_int)
      (pss_cons (ps_for PassesOwn.never rfl (pi_range1 rfl T.n_range (pa_cons (pv 0) pa_nil)) (pg_name (i := 2) sc__law_size.nd rfl (Or.inl rfl)) (pss_one (ps_set (i := 1) sc__law_size.nd rfl (.inl rfl) (pe_op op_mul (pv 1) pe_int))))
      (pss_one (ps_ret (pv 1)))))) (rd__law_size K Z)
theorem ok__law_fixed (T : Txt K mg Z) : DK P w K mg base CX0 4 "_law_fixed" ["_law_pot_here", "_law_size_here", "_law_near", "_law_many"] s__law_fixed [] [] (sp__law_fixed K Z) :=
  T.f__law_fixed.mk2 fun f fd F => fn0 F sc__law_fixed (by intro vs H Q E h; unfold sp__law_fixed at h; (repeat (obtain ⟨_, h⟩ := h)); subst_vars; rfl) (fun f cdv A outer s H E hr => (pss_cons (ps_set (i := 4) sc__law_fixed.nd rfl (.inl rfl) (pe_lst pa_nil))
      (pss_cons (ps_for PassesOwn.never rfl (pi_list (pe_dk (ok__law_points T) hr (by decide) (by rfl) cb__law_points_4 xa0 (par_pos (pa_cons (pv 0) (pa_cons (pv 1) (pa_cons (pv 2) (pa_cons pe_int pa_nil))))))) (pg_name (i := 5) sc__law_fixed.nd rfl (Or.inl rfl)) (pss_one (ps_if (PW.pt (pw_and (pt_cmpR op_notIn_seq (pv 5) (pv 4) (by rfl)) (pw_and1 (pt_cmpR op_lt (pe_callB call_len_seq (by rfl) T.n_len (by decide +kernel) (pa_cons (pv 4) pa_nil)) pe_int (nomark _))))) (pss_one (ps_expr (pe_bm PySem.F.plainAttrs_list PySem.F.slot_list_append PySem.F.type_list_append mt_append (pv 4) (pa_cons (pv 5) pa_nil)))) pss_nil)))
      (pss_cons (ps_for PassesOwn.never rfl (pi_range1 rfl T.n_range (pa_cons (pv 1) pa_nil)) (pg_name (i := 5) sc__law_fixed.nd rfl (Or.inl rfl)) (pss_cons (ps_if (PW.pt (pw_and (pt_cmpR op_le (pe_callB call_len_seq (by rfl) T.n_len (by decide +kernel) (pa_cons (pv 4) pa_nil)) (pv 3) (nomark _)) (pw_and1 (pt_cmpR op_notIn_seq (pv 5) (pv 4) (by rfl))))) (pss_one (ps_expr (pe_bm PySem.F.plainAttrs_list PySem.F.slot_list_append PySem.F.type_list_append mt_append (pv 4) (pa_cons (pv 5) pa_nil)))) pss_nil)
      (pss_one (ps_if (pt_cmpR op_gt (pe_callB call_len_seq (by rfl) T.n_len (by decide +kernel) (pa_cons (pv 4) pa_nil)) (pv 3) (nomark _)) (pss_one (ps_ret (pv 4))) pss_nil))))
      (pss_one (ps_ret (pv 4))))))) (rd__law_fixed K Z)
theorem ok__law_built (T : Txt K mg Z) : DK P w K mg base CX0 2 "_law_built" ["_law_pot_here", "_law_size_here", "_law_home", "_law_fixed_here", "_law_many"] s__law_built [] [] (sp__law_built K Z) :=
  T.f__law_built.mk2 fun f fd F => fn0 F sc__law_built (by intro vs H Q E h; unfold sp__law_built at h; (repeat (obtain ⟨_, h⟩ := h)); subst_vars; rfl) (fun f cdv A outer s H E hr => (pss_cons (ps_set (i := 5) sc__law_built.nd rfl (.inl rfl) (pe_lst pa_nil))
      (pss_cons (ps_set (i := 6) sc__law_built.nd rfl (.inr rfl) (pv 2))
      (pss_cons (ps_for PassesOwn.never rfl (pi_range1 rfl T.n_range (pa_cons (pv 4) pa_nil)) (pg_name (i := 7) sc__law_built.nd rfl (Or.inl rfl)) (pss_cons (ps_set (i := 8) sc__law_built.nd rfl (.inl rfl) (pe_callB (cr_min rfl) (by rfl) T.n_min (by decide +kernel) (pa_cons (pe_lc (own := [("_law_point_here", 9)]) rfl sc__law_built.nd (pi_list (pv 3)) (blkOk_by (N := ["_law_pot_here", "_law_size_here", "_law_home", "_law_fixed_here", "_law_many", "_law_found", "_law_here", "_law_k", "_law_steps", "_law_point_here"]) (sc := defScope s__law_built) (by decide +kernel)) (fun _ _ _ _ _ => (pg_name (i := 9) sc__law_built.nd rfl (Or.inl rfl))) (fun _ _ _ _ _ => pts_nil) (fun _ _ _ _ _ => (pe_op op_add (pe_op op_mod (pe_op op_sub (pe_op op_sub (pv 9) (pv 6)) pe_int) (pv 1)) pe_int))) pa_nil)))
      (pss_cons (ps_set (i := 6) sc__law_built.nd rfl (.inr rfl) (pe_op op_mod (pe_op op_add (pv 6) (pe_ix ix_list (pe_lst (pa_cons pe_int (pa_cons (pv 8) (pa_cons (pe_op op_add pe_int (pe_dk (ok__law_take T) hr (by decide) (by rfl) cb__law_take_2 xa0 (par_pos (pa_cons (pv 0) (pa_cons (pv 8) pa_nil))))) pa_nil)))) (pe_dk (ok__law_take T) hr (by decide) (by rfl) cb__law_take_2 xa0 (par_pos (pa_cons (pv 0) (pa_cons pe_int pa_nil)))) (fun _ _ => rfl))) (pv 1)))
      (pss_one (ps_expr (pe_bm PySem.F.plainAttrs_list PySem.F.slot_list_append PySem.F.type_list_append mt_append (pv 5) (pa_cons (pv 6) pa_nil)))))))
      (pss_one (ps_ret (pv 5))))))) (rd__law_built K Z)
theorem ok__law_rise (T : Txt K mg Z) : DK P w K mg base CX0 1 "_law_rise" ["_law_size_here", "_law_home", "_law_row"] s__law_rise [] [] (sp__law_rise K Z) :=
  T.f__law_rise.mk2 fun f fd F => fn0 F sc__law_rise (by intro vs H Q E h; unfold sp__law_rise at h; (repeat (obtain ⟨_, h⟩ := h)); subst_vars; rfl) (fun f cdv A outer s H E hr => (pss_cons (ps_set (i := 3) sc__law_rise.nd rfl (.inr rfl) (pe_lc (own := [("_law_name", 4)]) rfl sc__law_rise.nd (pi_list (pv 2)) (blkOk_by (N := ["_law_size_here", "_law_home", "_law_row", "_law_far", "_law_name", "_law_k"]) (sc := defScope s__law_rise) (by decide +kernel)) (fun _ _ _ _ _ => (pg_name (i := 4) sc__law_rise.nd rfl (Or.inl rfl))) (fun _ _ _ _ _ => pts_nil) (fun _ _ _ _ _ => (pe_op op_mod (pe_op op_sub (pv 4) (pv 1)) (pv 0)))))
      (pss_one (ps_ret (pe_and (pe_cmpR op_gt (pe_ix ix_list (pv 3) pe_int (fun _ _ => rfl)) pe_int (nomark _)) (pe_one (pe_callB (cr_all rfl) (by rfl) T.n_all (by decide +kernel) (pa_cons (pe_lc (own := [("_law_k", 5)]) rfl sc__law_rise.nd (pi_range1 rfl T.n_range (pa_cons (pe_op op_sub (pe_callB call_len_seq (by rfl) T.n_len (by decide +kernel) (pa_cons (pv 3) pa_nil)) pe_int) pa_nil)) (blkOk_by (N := ["_law_size_here", "_law_home", "_law_row", "_law_far", "_law_name", "_law_k"]) (sc := defScope s__law_rise) (by decide +kernel)) (fun _ _ _ _ _ => (pg_name (i := 5) sc__law_rise.nd rfl (Or.inl rfl))) (fun _ _ _ _ _ => pts_nil) (fun _ _ _ _ _ => (pe_cmpR op_lt (pe_ix ix_list (pv 3) (pv 5) (fun _ _ => rfl)) (pe_ix ix_list (pv 3) (pe_op op_add (pv 5) pe_int) (fun _ _ => rfl)) (nomark _)))) pa_nil)))))))) (rd__law_rise K Z)
theorem ok__law_right (T : Txt K mg Z) : DK P w K mg base CX0 5 "_law_right" ["_law_circle", "_law_size_here", "_law_home", "_law_row", "_law_fixed_here"] s__law_right [] [] (sp__law_right K Z) :=
  T.f__law_right.mk2 fun f fd F => fn0 F sc__law_right (by intro vs H Q E h; unfold sp__law_right at h; (repeat (obtain ⟨_, h⟩ := h)); subst_vars; rfl) (fun f cdv A outer s H E hr => (pss_cons (ps_set (i := 5) sc__law_right.nd rfl (.inl rfl) (pe_callTy call_list_of (by rfl) T.n_list (by decide +kernel) (pa_cons (pv 3) pa_nil)))
      (pss_cons (ps_set (i := 6) sc__law_right.nd rfl (.inl rfl) (pe_dk (ok_rises T) hr (by decide) (by rfl) cb_rises_0_2_1_0 xa0 (par_kw (pk_cons (pv 3) (pk_cons (pv 2) (pk_cons (pv 0) pk_nil))))))
      (pss_cons (ps_if (PW.pt (pw_or (pt_not (pt_val (pe_callB call_isi (by rfl) T.n_isinstance (by decide +kernel) (pa_cons (pv 6) (pa_cons (pe_bltn (v := .ty "bool") (by rfl) T.n_bool (by decide +kernel) rfl) pa_nil))))) (pw_or (pt_cmpR op_ne (pv 6) (pe_dk (ok__law_rise T) hr (by decide) (by rfl) cb__law_rise_3 xa0 (par_pos (pa_cons (pv 1) (pa_cons (pv 2) (pa_cons (pv 3) pa_nil))))) (nomark _)) (pw_or1 (pt_cmpR (op_neD hr.units) (pv 3) (pv 5) (nomark _)))))) (pss_one (ps_ret pe_bl)) pss_nil)
      (pss_cons (ps_if (pt_val (pe_callB (cr_any rfl) (by rfl) T.n_any (by decide +kernel) (pa_cons (pe_lc (own := [("_law_point_here", 7)]) rfl sc__law_right.nd (pi_list (pv 4)) (blkOk_by (N := ["_law_circle", "_law_size_here", "_law_home", "_law_row", "_law_fixed_here", "_law_kept", "_law_told", "_law_point_here"]) (sc := defScope s__law_right) (by decide +kernel)) (fun _ _ _ _ _ => (pg_name (i := 7) sc__law_right.nd rfl (Or.inl rfl))) (fun _ _ _ _ _ => pts_nil) (fun _ _ _ _ _ => (pe_dk (ok_passes T) hr (by decide) (by rfl) cb_passes_4 xa0 (par_pos (pa_cons (pv 0) (pa_cons (pv 2) (pa_cons (pv 3) (pa_cons (pv 7) pa_nil)))))))) pa_nil))) (pss_one (ps_ret pe_bl)) pss_nil)
      (pss_one (ps_ret (pe_and (pv 6) (pe_one (pe_cmpR op_notIn_seq (pv 2) (pv 3) (by rfl))))))))))) (rd__law_right K Z)
theorem ok_law (T : Txt K mg Z) (f : Addr) (fd : FuncData) (F : FunS K "law" "law" s_law [] [] f fd) : FnOk P w K mg base CX0 6 f fd ["_law_script"] (sp_law K Z) :=
  fn0 F sc_law (by intro vs H Q E h; unfold sp_law at h; (repeat (obtain ⟨_, h⟩ := h)); subst_vars; rfl) (fun f cdv A outer s H E hr => (pss_cons (ps_for PassesOwn.never rfl (pi_range1 rfl T.n_range (pa_cons (pe_callB (call_max2 rfl) (by rfl) T.n_max (by decide +kernel) (pa_cons pe_int (pa_cons (pe_callB (call_min2 rfl) (by rfl) T.n_min (by decide +kernel) (pa_cons pe_int (pa_cons (pe_callB call_len_seq (by rfl) T.n_len (by decide +kernel) (pa_cons (pv 0) pa_nil)) pa_nil))) pa_nil))) pa_nil)) (pg_name (i := 1) sc_law.nd rfl (Or.inl rfl)) (pss_cons (ps_set (i := 2) sc_law.nd rfl (.inr rfl) (pe_dk (ok__law_pot T) hr (by decide) (by rfl) cb__law_pot_2 xa0 (par_pos (pa_cons (pv 0) (pa_cons (pv 1) pa_nil)))))
      (pss_cons (ps_set (i := 3) sc_law.nd rfl (.inl rfl) (pe_dk (ok__law_bits T) hr (by decide) (by rfl) cb__law_bits_1 xa0 (par_pos (pa_cons (pv 2) pa_nil))))
      (pss_cons (ps_set (i := 4) sc_law.nd rfl (.inr rfl) (pe_dk (ok__law_size T) hr (by decide) (by rfl) cb__law_size_1 xa0 (par_pos (pa_cons (pv 3) pa_nil))))
      (pss_cons (ps_set (i := 5) sc_law.nd rfl (.inr rfl) (pe_ik (ok_Space___init__ T) hr (by decide) rfl T.c_Space cb_Space___init___2 xaL (par_pos (pa_cons (pv 3) pa_nil))))
      (pss_cons (ps_set (i := 6) sc_law.nd rfl (.inr rfl) (pe_dk (ok__law_take T) hr (by decide) (by rfl) cb__law_take_2 xa0 (par_pos (pa_cons (pv 2) (pa_cons (pv 4) pa_nil)))))
      (pss_cons (ps_set (i := 7) sc_law.nd rfl (.inl rfl) (pe_op op_add pe_int (pe_dk (ok__law_take T) hr (by decide) (by rfl) cb__law_take_2 xa0 (par_pos (pa_cons (pv 2) (pa_cons pe_int pa_nil))))))
      (pss_cons (ps_set (i := 8) sc_law.nd rfl (.inl rfl) (pe_dk (ok__law_fixed T) hr (by decide) (by rfl) cb__law_fixed_4 xa0 (par_pos (pa_cons (pv 2) (pa_cons (pv 4) (pa_cons (pv 6) (pa_cons (pv 7) pa_nil)))))))
      (pss_cons (ps_set (i := 9) sc_law.nd rfl (.inr rfl) (pe_dk (ok__law_point T) hr (by decide) (by rfl) cb__law_point_3 xa0 (par_pos (pa_cons (pv 2) (pa_cons (pv 4) (pa_cons (pv 6) pa_nil))))))
      (pss_cons (ps_set (i := 10) sc_law.nd rfl (.inr rfl) (pe_dk (ok__law_built T) hr (by decide) (by rfl) cb__law_built_5 xa0 (par_pos (pa_cons (pv 2) (pa_cons (pv 4) (pa_cons (pv 9) (pa_cons (pv 8) (pa_cons (pv 7) pa_nil))))))))
      (pss_cons (ps_if (PW.pt (pw_or (pt_val (pe_callB (cr_any rfl) (by rfl) T.n_any (by decide +kernel) (pa_cons (pe_lc (own := [("_law_point_here", 15)]) rfl sc_law.nd (pi_list (pv 8)) (blkOk_by (N := ["_law_script", "_law_k", "_law_pot_here", "_law_bits_here", "_law_size_here", "_law_circle", "_law_near", "_law_many", "_law_fixed_here", "_law_home", "_law_row", "_law_at", "_law_bent", "_law_drawn", "_law_some", "_law_point_here", "_law_j"]) (sc := defScope s_law) (by decide +kernel)) (fun _ _ _ _ _ => (pg_name (i := 15) sc_law.nd rfl (Or.inl rfl))) (fun _ _ _ _ _ => pts_nil) (fun _ _ _ _ _ => (pe_dk (ok_passes T) hr (by decide) (by rfl) cb_passes_4 xa0 (par_pos (pa_cons (pv 5) (pa_cons (pv 9) (pa_cons (pv 10) (pa_cons (pv 15) pa_nil)))))))) pa_nil))) (pw_or1 (pt_not (pt_val (pe_dk (ok_rises T) hr (by decide) (by rfl) cb_rises_3 xa0 (par_pos (pa_cons (pv 5) (pa_cons (pv 9) (pa_cons (pv 10) pa_nil)))))))))) (pss_one (ps_ret pe_bl)) pss_nil)
      (pss_cons (ps_set (i := 11) sc_law.nd rfl (.inl rfl) (pe_dk (ok__law_take T) hr (by decide) (by rfl) cb__law_take_2 xa0 (par_pos (pa_cons (pv 2) (pa_cons (pv 7) pa_nil)))))
      (pss_cons (ps_set (i := 12) sc_law.nd rfl (.inl rfl) (pe_op op_cat (pe_op op_cat (pe_slice sl_list (pv 10) po_none (po_some (pv 11))) (pe_lst (pa_cons (pe_dk (ok__law_point T) hr (by decide) (by rfl) cb__law_point_3 xa0 (par_pos (pa_cons (pv 2) (pa_cons (pv 4) (pa_cons (pv 6) pa_nil))))) pa_nil))) (pe_slice sl_list (pv 10) (po_some (pe_op op_add (pv 11) pe_int)) po_none)))
      (pss_cons (ps_setLc (i := 13) (own := [("_law_j", 16)]) rfl sc_law.nd rfl rfl (sw_true rfl rfl rfl (by decide +kernel)) (pi_range1 rfl T.n_range (pa_cons (pv 7) pa_nil)) (blkOk_by (N := ["_law_script", "_law_k", "_law_pot_here", "_law_bits_here", "_law_size_here", "_law_circle", "_law_near", "_law_many", "_law_fixed_here", "_law_home", "_law_row", "_law_at", "_law_bent", "_law_drawn", "_law_some", "_law_point_here", "_law_j"]) (sc := defScope s_law) (by decide +kernel)) (fun _ _ _ _ _ => (pg_name (i := 16) sc_law.nd rfl (Or.inl rfl))) (fun _ _ _ _ _ => pts_nil) (fun _ _ _ _ _ => (pe_dk (ok__law_point T) hr (by decide) (by rfl) cb__law_point_3 xa0 (par_pos (pa_cons (pv 2) (pa_cons (pv 4) (pa_cons (pv 6) pa_nil)))))))
      (pss_one (ps_for PassesOwn.never rfl (pi_list (pe_lst (pa_cons (pv 10) (pa_cons (pv 12) (pa_cons (pv 13) (pa_cons (pe_revL (pv 10)) (pa_cons (pe_op op_cat (pe_lst (pa_cons (pv 9) pa_nil)) (pe_slice sl_list (pv 10) (po_some pe_int) po_none)) pa_nil))))))) (pg_name (i := 14) sc_law.nd rfl (Or.inl rfl)) (pss_one (ps_if (pt_not (pt_val (pe_dk (ok__law_right T) hr (by decide) (by rfl) cb__law_right_5 xa0 (par_pos (pa_cons (pv 5) (pa_cons (pv 4) (pa_cons (pv 9) (pa_cons (pv 14) (pa_cons (pv 8) pa_nil))))))))) (pss_one (ps_ret pe_bl)) pss_nil))))))))))))))))))
      (pss_one (ps_ret pe_bl)))) (rd_law K Z)
end
theorem all_mk {l : PySem.W.OpenLaw} {w : World} {K : PySem.W.Frag} {h : Heap} {mg : Str → Option Value} {fa : Addr} (X : K.In h) (G : h.Ns mainGlobals mg) (hfa : mg "law" = some (.ref fa))
    {zNoSpace : Addr} {zSpace : Addr} {f0 : Addr} {od0 an0 : Option Addr} {sl0 : Array (Option Value)} {oc0 kV0 dc0 pm0 cd0 ct0 : Value} {f1 T1 : Addr} {od1 an1 oT1 : Option Addr} {sl1 tl1 : Array (Option Value)} {oc1 kV1 dc1 pm1 cd1 ct1 cT1 u1 : Value} {n1 : Nat} {f2 : Addr} {od2 an2 : Option Addr} {sl2 : Array (Option Value)} {oc2 kV2 dc2 pm2 cd2 ct2 : Value} {f3 : Addr} {od3 an3 : Option Addr} {sl3 : Array (Option Value)} {oc3 kV3 dc3 pm3 cd3 ct3 : Value} {f4 : Addr} {od4 an4 : Option Addr} {sl4 : Array (Option Value)} {oc4 kV4 dc4 pm4 cd4 ct4 : Value} {f5 : Addr} {od5 an5 : Option Addr} {sl5 : Array (Option Value)} {oc5 kV5 dc5 pm5 cd5 ct5 : Value} {f6 : Addr} {od6 an6 : Option Addr} {sl6 : Array (Option Value)} {oc6 kV6 dc6 pm6 cd6 ct6 : Value} {f7 : Addr} {od7 an7 : Option Addr} {sl7 : Array (Option Value)} {oc7 kV7 dc7 pm7 cd7 ct7 : Value} {f8 : Addr} {od8 an8 : Option Addr} {sl8 : Array (Option Value)} {oc8 kV8 dc8 pm8 cd8 ct8 : Value} {f9 : Addr} {od9 an9 : Option Addr} {sl9 : Array (Option Value)} {oc9 kV9 dc9 pm9 cd9 ct9 : Value} {f10 : Addr} {od10 an10 : Option Addr} {sl10 : Array (Option Value)} {oc10 kV10 dc10 pm10 cd10 ct10 : Value} {f11 : Addr} {od11 an11 : Option Addr} {sl11 : Array (Option Value)} {oc11 kV11 dc11 pm11 cd11 ct11 : Value} {f12 : Addr} {od12 an12 : Option Addr} {sl12 : Array (Option Value)} {oc12 kV12 dc12 pm12 cd12 ct12 : Value} {f13 : Addr} {od13 an13 : Option Addr} {sl13 : Array (Option Value)} {oc13 kV13 dc13 pm13 cd13 ct13 : Value} {f14 : Addr} {od14 an14 : Option Addr} {sl14 : Array (Option Value)} {oc14 kV14 dc14 pm14 cd14 ct14 : Value} {f15 : Addr} {od15 an15 : Option Addr} {sl15 : Array (Option Value)} {oc15 kV15 dc15 pm15 cd15 ct15 : Value} {f16 : Addr} {od16 an16 : Option Addr} {sl16 : Array (Option Value)} {oc16 kV16 dc16 pm16 cd16 ct16 : Value} {f17 : Addr} {od17 an17 : Option Addr} {sl17 : Array (Option Value)} {oc17 kV17 dc17 pm17 cd17 ct17 : Value} {ttLEAST_BITS : _} {ttMOST_BITS : _}
    (gNoSpace : PySem.W.nsIn K mainGlobals "NoSpace" = some (some (.ref zNoSpace)))
    (gSpace : PySem.W.nsIn K mainGlobals "Space" = some (some (.ref zSpace)))
    (pgSpace : PySem.W.plainGet K zSpace Str.empty = true) (hdSpace : PySem.W.hasDictIn K zSpace = true) (poSpace : PySem.W.plainOver K zSpace = true) (saSpace : PySem.W.findIn K (.ref zSpace) "__setattr__" = some (some (.builtin "object.__setattr__")))
    (naSpaceown_bits : PySem.W.findIn K (.ref zSpace) "own_bits" = some none)
    (xNoSpace : PySem.W.excIn K zNoSpace [.type "ValueError", .type "Exception", .type "BaseException", .type "object"] "ValueError.__new__" = true) (kpNoSpace : PySem.W.keepIn K (.ref zNoSpace) = true) (bNoSpace : PySem.W.subIn K (.ref zNoSpace) (.type "BaseException") = some true) (tNoSpace : PySem.W.typeIn K (.ref zNoSpace) = some (.type "type"))
    (a0 : PySem.W.nsIn K mainGlobals "is_whole" = some (some (.ref f0)))
    (l0 : K.lookup f0 = some ⟨oc0, od0, .func (PySem.W.fnOf "is_whole" "is_whole" (defArgs s_is_whole) (defBody s_is_whole) (defScope s_is_whole) .none kV0 dc0 pm0 an0 cd0 ct0), sl0⟩) (cc0 : PySem.W.codeIn K cd0 "is_whole" = true) (k0 : PySem.W.keepIn K (.ref f0) = true)
    (mk1 : PySem.W.makesIn K zSpace = true) (kc1 : PySem.W.keepIn K (.ref zSpace) = true)
    (a1 : PySem.W.findIn K (.ref zSpace) "__init__" = some (some (.ref f1))) (i1 : PySem.W.isFn K (.ref f1) = true)
    (l1 : K.lookup f1 = some ⟨oc1, od1, .func (PySem.W.fnOf "__init__" "Space.__init__" (defArgs s_Space___init__) (defBody s_Space___init__) (defScope s_Space___init__) (.ref T1) kV1 dc1 pm1 an1 cd1 ct1), sl1⟩) (cc1 : PySem.W.codeIn K cd1 "Space.__init__" = true) (k1 : PySem.W.keepIn K (.ref f1) = true)
    (lT1 : K.lookup T1 = some ⟨cT1, oT1, .seq #[u1] n1, tl1⟩) (rT1 : RelV (.int 8) u1)
    (a2 : PySem.W.findIn K (.ref zSpace) "size" = some (some (.ref f2))) (i2 : PySem.W.isFn K (.ref f2) = true)
    (l2 : K.lookup f2 = some ⟨oc2, od2, .func (PySem.W.fnOf "size" "Space.size" (defArgs s_Space_size) (defBody s_Space_size) (defScope s_Space_size) .none kV2 dc2 pm2 an2 cd2 ct2), sl2⟩) (cc2 : PySem.W.codeIn K cd2 "Space.size" = true) (k2 : PySem.W.keepIn K (.ref f2) = true)
    (a3 : PySem.W.findIn K (.ref zSpace) "distance" = some (some (.ref f3))) (i3 : PySem.W.isFn K (.ref f3) = true)
    (l3 : K.lookup f3 = some ⟨oc3, od3, .func (PySem.W.fnOf "distance" "Space.distance" (defArgs s_Space_distance) (defBody s_Space_distance) (defScope s_Space_distance) .none kV3 dc3 pm3 an3 cd3 ct3), sl3⟩) (cc3 : PySem.W.codeIn K cd3 "Space.distance" = true) (k3 : PySem.W.keepIn K (.ref f3) = true)
    (a4 : PySem.W.findIn K (.ref zSpace) "is_between" = some (some (.ref f4))) (i4 : PySem.W.isFn K (.ref f4) = true)
    (l4 : K.lookup f4 = some ⟨oc4, od4, .func (PySem.W.fnOf "is_between" "Space.is_between" (defArgs s_Space_is_between) (defBody s_Space_is_between) (defScope s_Space_is_between) .none kV4 dc4 pm4 an4 cd4 ct4), sl4⟩) (cc4 : PySem.W.codeIn K cd4 "Space.is_between" = true) (k4 : PySem.W.keepIn K (.ref f4) = true)
    (a5 : PySem.W.nsIn K mainGlobals "passes" = some (some (.ref f5)))
    (l5 : K.lookup f5 = some ⟨oc5, od5, .func (PySem.W.fnOf "passes" "passes" (defArgs s_passes) (defBody s_passes) (defScope s_passes) .none kV5 dc5 pm5 an5 cd5 ct5), sl5⟩) (cc5 : PySem.W.codeIn K cd5 "passes" = true) (k5 : PySem.W.keepIn K (.ref f5) = true)
    (a6 : PySem.W.nsIn K mainGlobals "rises" = some (some (.ref f6)))
    (l6 : K.lookup f6 = some ⟨oc6, od6, .func (PySem.W.fnOf "rises" "rises" (defArgs s_rises) (defBody s_rises) (defScope s_rises) .none kV6 dc6 pm6 an6 cd6 ct6), sl6⟩) (cc6 : PySem.W.codeIn K cd6 "rises" = true) (k6 : PySem.W.keepIn K (.ref f6) = true)
    (a7 : PySem.W.nsIn K mainGlobals "_law_pot" = some (some (.ref f7)))
    (l7 : K.lookup f7 = some ⟨oc7, od7, .func (PySem.W.fnOf "_law_pot" "_law_pot" (defArgs s__law_pot) (defBody s__law_pot) (defScope s__law_pot) .none kV7 dc7 pm7 an7 cd7 ct7), sl7⟩) (cc7 : PySem.W.codeIn K cd7 "_law_pot" = true) (k7 : PySem.W.keepIn K (.ref f7) = true)
    (a8 : PySem.W.nsIn K mainGlobals "_law_take" = some (some (.ref f8)))
    (l8 : K.lookup f8 = some ⟨oc8, od8, .func (PySem.W.fnOf "_law_take" "_law_take" (defArgs s__law_take) (defBody s__law_take) (defScope s__law_take) .none kV8 dc8 pm8 an8 cd8 ct8), sl8⟩) (cc8 : PySem.W.codeIn K cd8 "_law_take" = true) (k8 : PySem.W.keepIn K (.ref f8) = true)
    (a9 : PySem.W.nsIn K mainGlobals "_law_bits" = some (some (.ref f9)))
    (l9 : K.lookup f9 = some ⟨oc9, od9, .func (PySem.W.fnOf "_law_bits" "_law_bits" (defArgs s__law_bits) (defBody s__law_bits) (defScope s__law_bits) .none kV9 dc9 pm9 an9 cd9 ct9), sl9⟩) (cc9 : PySem.W.codeIn K cd9 "_law_bits" = true) (k9 : PySem.W.keepIn K (.ref f9) = true)
    (a10 : PySem.W.nsIn K mainGlobals "_law_point" = some (some (.ref f10)))
    (l10 : K.lookup f10 = some ⟨oc10, od10, .func (PySem.W.fnOf "_law_point" "_law_point" (defArgs s__law_point) (defBody s__law_point) (defScope s__law_point) .none kV10 dc10 pm10 an10 cd10 ct10), sl10⟩) (cc10 : PySem.W.codeIn K cd10 "_law_point" = true) (k10 : PySem.W.keepIn K (.ref f10) = true)
    (a11 : PySem.W.nsIn K mainGlobals "_law_points" = some (some (.ref f11)))
    (l11 : K.lookup f11 = some ⟨oc11, od11, .func (PySem.W.fnOf "_law_points" "_law_points" (defArgs s__law_points) (defBody s__law_points) (defScope s__law_points) .none kV11 dc11 pm11 an11 cd11 ct11), sl11⟩) (cc11 : PySem.W.codeIn K cd11 "_law_points" = true) (k11 : PySem.W.keepIn K (.ref f11) = true)
    (a12 : PySem.W.nsIn K mainGlobals "_law_size" = some (some (.ref f12)))
    (l12 : K.lookup f12 = some ⟨oc12, od12, .func (PySem.W.fnOf "_law_size" "_law_size" (defArgs s__law_size) (defBody s__law_size) (defScope s__law_size) .none kV12 dc12 pm12 an12 cd12 ct12), sl12⟩) (cc12 : PySem.W.codeIn K cd12 "_law_size" = true) (k12 : PySem.W.keepIn K (.ref f12) = true)
    (a13 : PySem.W.nsIn K mainGlobals "_law_fixed" = some (some (.ref f13)))
    (l13 : K.lookup f13 = some ⟨oc13, od13, .func (PySem.W.fnOf "_law_fixed" "_law_fixed" (defArgs s__law_fixed) (defBody s__law_fixed) (defScope s__law_fixed) .none kV13 dc13 pm13 an13 cd13 ct13), sl13⟩) (cc13 : PySem.W.codeIn K cd13 "_law_fixed" = true) (k13 : PySem.W.keepIn K (.ref f13) = true)
    (a14 : PySem.W.nsIn K mainGlobals "_law_built" = some (some (.ref f14)))
    (l14 : K.lookup f14 = some ⟨oc14, od14, .func (PySem.W.fnOf "_law_built" "_law_built" (defArgs s__law_built) (defBody s__law_built) (defScope s__law_built) .none kV14 dc14 pm14 an14 cd14 ct14), sl14⟩) (cc14 : PySem.W.codeIn K cd14 "_law_built" = true) (k14 : PySem.W.keepIn K (.ref f14) = true)
    (a15 : PySem.W.nsIn K mainGlobals "_law_rise" = some (some (.ref f15)))
    (l15 : K.lookup f15 = some ⟨oc15, od15, .func (PySem.W.fnOf "_law_rise" "_law_rise" (defArgs s__law_rise) (defBody s__law_rise) (defScope s__law_rise) .none kV15 dc15 pm15 an15 cd15 ct15), sl15⟩) (cc15 : PySem.W.codeIn K cd15 "_law_rise" = true) (k15 : PySem.W.keepIn K (.ref f15) = true)
    (a16 : PySem.W.nsIn K mainGlobals "_law_right" = some (some (.ref f16)))
    (l16 : K.lookup f16 = some ⟨oc16, od16, .func (PySem.W.fnOf "_law_right" "_law_right" (defArgs s__law_right) (defBody s__law_right) (defScope s__law_right) .none kV16 dc16 pm16 an16 cd16 ct16), sl16⟩) (cc16 : PySem.W.codeIn K cd16 "_law_right" = true) (k16 : PySem.W.keepIn K (.ref f16) = true)
    (a17 : PySem.W.nsIn K mainGlobals "law" = some (some (.ref f17)))
    (l17 : K.lookup f17 = some ⟨oc17, od17, .func (PySem.W.fnOf "law" "law" (defArgs s_law) (defBody s_law) (defScope s_law) .none kV17 dc17 pm17 an17 cd17 ct17), sl17⟩) (cc17 : PySem.W.codeIn K cd17 "law" = true) (k17 : PySem.W.keepIn K (.ref f17) = true)
    (n_all : PySem.W.nsIn K mainGlobals "all" = some none)
    (n_any : PySem.W.nsIn K mainGlobals "any" = some none)
    (n_bool : PySem.W.nsIn K mainGlobals "bool" = some none)
    (n_int : PySem.W.nsIn K mainGlobals "int" = some none)
    (n_isinstance : PySem.W.nsIn K mainGlobals "isinstance" = some none)
    (n_len : PySem.W.nsIn K mainGlobals "len" = some none)
    (n_list : PySem.W.nsIn K mainGlobals "list" = some none)
    (n_max : PySem.W.nsIn K mainGlobals "max" = some none)
    (n_min : PySem.W.nsIn K mainGlobals "min" = some none)
    (n_range : PySem.W.nsIn K mainGlobals "range" = some none)
    (n_zip : PySem.W.nsIn K mainGlobals "zip" = some none)
    (qLEAST_BITS : PySem.W.nsIn K mainGlobals "LEAST_BITS" = some (some (.int 3 ttLEAST_BITS)))
    (qMOST_BITS : PySem.W.nsIn K mainGlobals "MOST_BITS" = some (some (.int 32 ttMOST_BITS))) :
    ∃ fd : FuncData, (∀ (s : Shared) (v : Value), BindsTo s fd ⟨[v], []⟩ [("_law_script", v)]) ∧ ∀ base : Heap, K.In base → base.Ns mainGlobals mg → FnOk l.prog w K mg base CX0 6 fa fd ["_law_script"] (sp_law K Z0) := by
  have T : Txt K mg ⟨zSpace, 0, 0, 0, 0, 0, zNoSpace, 0, 0, 0, 0, 0, 0, 0, 0, 0, 0, 0, 0, 0⟩ := { c_NoSpace := PySem.W.mg_of X G gNoSpace, c_Space := PySem.W.mg_of X G gSpace, cl_Space := ⟨pgSpace, hdSpace, poSpace, saSpace⟩, na_Space_own_bits := naSpaceown_bits, x_NoSpace := xNoSpace, kp_NoSpace := kpNoSpace, b_NoSpace := bNoSpace, t_NoSpace := tNoSpace, f_is_whole := ⟨f0, _, PySem.W.mg_of X G a0, fund_p l0 cc0 k0⟩, f_Space___init__ := ⟨f1, _, ⟨mk1, a1, i1, kc1⟩, fund_1 l1 cc1 k1 lT1 rT1⟩, f_Space_size := ⟨f2, _, ⟨a2, i2, k2⟩, fund_p l2 cc2 k2⟩, f_Space_distance := ⟨f3, _, ⟨a3, i3, k3⟩, fund_p l3 cc3 k3⟩, f_Space_is_between := ⟨f4, _, ⟨a4, i4, k4⟩, fund_p l4 cc4 k4⟩, f_passes := ⟨f5, _, PySem.W.mg_of X G a5, fund_p l5 cc5 k5⟩, f_rises := ⟨f6, _, PySem.W.mg_of X G a6, fund_p l6 cc6 k6⟩, f__law_pot := ⟨f7, _, PySem.W.mg_of X G a7, fund_p l7 cc7 k7⟩, f__law_take := ⟨f8, _, PySem.W.mg_of X G a8, fund_p l8 cc8 k8⟩, f__law_bits := ⟨f9, _, PySem.W.mg_of X G a9, fund_p l9 cc9 k9⟩, f__law_point := ⟨f10, _, PySem.W.mg_of X G a10, fund_p l10 cc10 k10⟩, f__law_points := ⟨f11, _, PySem.W.mg_of X G a11, fund_p l11 cc11 k11⟩, f__law_size := ⟨f12, _, PySem.W.mg_of X G a12, fund_p l12 cc12 k12⟩, f__law_fixed := ⟨f13, _, PySem.W.mg_of X G a13, fund_p l13 cc13 k13⟩, f__law_built := ⟨f14, _, PySem.W.mg_of X G a14, fund_p l14 cc14 k14⟩, f__law_rise := ⟨f15, _, PySem.W.mg_of X G a15, fund_p l15 cc15 k15⟩, f__law_right := ⟨f16, _, PySem.W.mg_of X G a16, fund_p l16 cc16 k16⟩, f_law := ⟨f17, _, PySem.W.mg_of X G a17, fund_p l17 cc17 k17⟩, n_all := PySem.W.mg_none_of X G n_all, n_any := PySem.W.mg_none_of X G n_any, n_bool := PySem.W.mg_none_of X G n_bool, n_int := PySem.W.mg_none_of X G n_int, n_isinstance := PySem.W.mg_none_of X G n_isinstance, n_len := PySem.W.mg_none_of X G n_len, n_list := PySem.W.mg_none_of X G n_list, n_max := PySem.W.mg_none_of X G n_max, n_min := PySem.W.mg_none_of X G n_min, n_range := PySem.W.mg_none_of X G n_range, n_zip := PySem.W.mg_none_of X G n_zip, c_LEAST_BITS := ⟨_, PySem.W.mg_of X G qLEAST_BITS⟩, c_MOST_BITS := ⟨_, PySem.W.mg_of X G qMOST_BITS⟩ }
  exact law_fin2 T.f_law hfa (fun _ _ _ _ _ _ us hl => match us, hl with | [_], _ => rfl) fun base f fd F => ok_law T f fd F
end NN
open PySem PySem.W PyProof.Rows
set_option maxHeartbeats 0 in
theorem PySem.Challenge.cw_nearestname_k26_whole_unpassing_lists_ri_holds : PySem.Challenge.rw_nearestname_k26_whole_unpassing_lists_ri.Holds := by
  w_on; o_law; k_head; (case hw => w_witness2)
  k_fill
  refine L2.walk_of (l := PySem.Challenge.rw_nearestname_k26_whole_unpassing_lists_ri) (n := 63) (k := 6) (x := "_law_script") (CX := fun _ => L2.CX0) (sp := fun w => NN.sp_law _ NN.Z0) rfl (by decide) rfl ⟨rfl, by decide, by decide⟩ (fun w h Y => PySem.W.kIn_of Y) ?F (fun _ _ a ns hl _ hS => ⟨a, ns, rfl, hS, hl, fun _ => rfl⟩) (fun _ _ _ _ _ h => h)
  case F =>
    intro w mg fa h KX G hmg
    refine' NN.all_mk KX G hmg ?gNoSpace ?gSpace ?pgSpace ?hdSpace ?poSpace ?saSpace ?naSpaceown_bits ?xNoSpace ?kpNoSpace ?bNoSpace ?tNoSpace ?a0 ?l0 ?cc0 ?k0 ?mk1 ?kc1 ?a1 ?i1 ?l1 ?cc1 ?k1 ?lT1 ?rT1 ?a2 ?i2 ?l2 ?cc2 ?k2 ?a3 ?i3 ?l3 ?cc3 ?k3 ?a4 ?i4 ?l4 ?cc4 ?k4 ?a5 ?l5 ?cc5 ?k5 ?a6 ?l6 ?cc6 ?k6 ?a7 ?l7 ?cc7 ?k7 ?a8 ?l8 ?cc8 ?k8 ?a9 ?l9 ?cc9 ?k9 ?a10 ?l10 ?cc10 ?k10 ?a11 ?l11 ?cc11 ?k11 ?a12 ?l12 ?cc12 ?k12 ?a13 ?l13 ?cc13 ?k13 ?a14 ?l14 ?cc14 ?k14 ?a15 ?l15 ?cc15 ?k15 ?a16 ?l16 ?cc16 ?k16 ?a17 ?l17 ?cc17 ?k17 ?n_all ?n_any ?n_bool ?n_int ?n_isinstance ?n_len ?n_list ?n_max ?n_min ?n_range ?n_zip ?qLEAST_BITS ?qMOST_BITS
    (case gNoSpace => k_is)
    (case gSpace => k_is)
    (case pgSpace => k_is)
    (case hdSpace => k_is)
    (case poSpace => k_is)
    (case saSpace => k_is)
    (case naSpaceown_bits => k_is)
    (case xNoSpace => k_exc)
    (case kpNoSpace => k_is)
    (case bNoSpace => k_is)
    (case tNoSpace => k_is)
    (case a0 => k_is)
    (case l0 => k_is)
    (case cc0 => k_is)
    (case k0 => k_is)
    (case mk1 => k_is)
    (case kc1 => k_is)
    (case a1 => k_is)
    (case i1 => k_is)
    (case l1 => k_is)
    (case cc1 => k_is)
    (case k1 => k_is)
    (case lT1 => k_is)
    (case rT1 => first | exact rfl | exact ⟨_, rfl⟩)
    (case a2 => k_is)
    (case i2 => k_is)
    (case l2 => k_is)
    (case cc2 => k_is)
    (case k2 => k_is)
    (case a3 => k_is)
    (case i3 => k_is)
    (case l3 => k_is)
    (case cc3 => k_is)
    (case k3 => k_is)
    (case a4 => k_is)
    (case i4 => k_is)
    (case l4 => k_is)
    (case cc4 => k_is)
    (case k4 => k_is)
    (case a5 => k_is)
    (case l5 => k_is)
    (case cc5 => k_is)
    (case k5 => k_is)
    (case a6 => k_is)
    (case l6 => k_is)
    (case cc6 => k_is)
    (case k6 => k_is)
    (case a7 => k_is)
    (case l7 => k_is)
    (case cc7 => k_is)
    (case k7 => k_is)
    (case a8 => k_is)
    (case l8 => k_is)
    (case cc8 => k_is)
    (case k8 => k_is)
    (case a9 => k_is)
    (case l9 => k_is)
    (case cc9 => k_is)
    (case k9 => k_is)
    (case a10 => k_is)
    (case l10 => k_is)
    (case cc10 => k_is)
    (case k10 => k_is)
    (case a11 => k_is)
    (case l11 => k_is)
    (case cc11 => k_is)
    (case k11 => k_is)
    (case a12 => k_is)
    (case l12 => k_is)
    (case cc12 => k_is)
    (case k12 => k_is)
    (case a13 => k_is)
    (case l13 => k_is)
    (case cc13 => k_is)
    (case k13 => k_is)
    (case a14 => k_is)
    (case l14 => k_is)
    (case cc14 => k_is)
    (case k14 => k_is)
    (case a15 => k_is)
    (case l15 => k_is)
    (case cc15 => k_is)
    (case k15 => k_is)
    (case a16 => k_is)
    (case l16 => k_is)
    (case cc16 => k_is)
    (case k16 => k_is)
    (case a17 => k_is)
    (case l17 => k_is)
    (case cc17 => k_is)
    (case k17 => k_is)
    (case n_all => k_is)
    (case n_any => k_is)
    (case n_bool => k_is)
    (case n_int => k_is)
    (case n_isinstance => k_is)
    (case n_len => k_is)
    (case n_list => k_is)
    (case n_max => k_is)
    (case n_min => k_is)
    (case n_range => k_is)
    (case n_zip => k_is)
    (case qLEAST_BITS => k_is)
    (case qMOST_BITS => k_is)
