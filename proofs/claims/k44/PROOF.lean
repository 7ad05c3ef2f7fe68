import PyProof.Rows.All
import Wide.All
import OpenK.AllK
import Wide.FinOn
import HandS.ForMost
import HandS.Steps
import HandS.Wide
import HandS.IsInst
import HandS.More
import KE.KUnpackStar
import HandS.Defaults
import HandS.WordsExc
import HandS.Exc
import HandS.ExcOwn
import HandS.Iter
import HandS.Zip
import KE.GoesEnumKw
import OpenK.KMore
import HandS.Conv
import HandS.ExcIs
import HandS.Lambda
import HandS.SortInts
import HandS.Style
import KE.DataMinKey
import KE.SortKeyHeap
import HandS.SortKw
import HandS.ExcValue
import HandS.EndTab
import HandS.ExcInit
import HandS.ExcField
import HandS.TryMany
import KE.KExcIs
import KE.KNestM
import KE.KLam
import HandS.Head0
import HandS.Head1
import HandS.Head2
import HandS.HeadEnd
import HandS.HeadHook1
import HandS.HeadHook2
import HandS.HeadHook3
import HandS.HeadHook4
import HandS.HeadWalk
import HandS.Dict
import HandS.DictComp
import HandS.ListItems
import HandS.WideBits
import HandS.SortRule
import PySem.Challenge.RW_nearestname_k44_within_hops
set_option Elab.async false
set_option linter.all false
set_option maxRecDepth 100000
set_option maxHeartbeats 4000000
/-! own base: a def with its promise, names for readings, steps through readings -/
namespace NN
open PySem PySem.Spec PyProof.Rows L2

/-! ### names of readings -/
abbrev rAdd0 : R2 := rI0 fun i j => .int (i + j)
abbrev rSub0 : R2 := rI0 fun i j => .int (i - j)
abbrev rMul0 : R2 := rI CMul fun i j => .int (i * j)
abbrev rMulW : R2 := rI CMulW fun i j => .int (i * j)
abbrev rMod0 : R2 := rI (fun _ j => 0 < j) fun i j => .int (i % j)
abbrev rDivW : R2 := rI CDivW fun i j => .int (i / j)
abbrev rPow0 : R2 := rI CPow fun i j => .int (i ^ j.toNat)
abbrev rShl0 : R2 := rI CPow fun i j => .int (i * 2 ^ j.toNat)
abbrev rLt : R2 := rI0 fun i j => .bl (decide (i < j))
abbrev rLe : R2 := rI0 fun i j => .bl (decide (i ≤ j))
abbrev rGt : R2 := rI0 fun i j => .bl (decide (j < i))
abbrev rGe : R2 := rI0 fun i j => .bl (decide (j ≤ i))
abbrev rAddIb : R2 := fun x y H Q => ∃ i k, x = .int i ∧ y = .bl k ∧ Q (.int (i + b2i k)) H
abbrev rAddStr : R2 := fun x y H Q => ∃ i j, x = .str i ∧ y = .str j ∧ i.length + j.length ≤ sizeLine ∧ Q (.str (i ++ j)) H
abbrev RCl := List V → Hp → VK → Prop
abbrev rMax2 : RCl := fun xs H Q => ∃ i j, xs = [.int i, .int j] ∧ Q (.int (if j > i then j else i)) H
abbrev rMin2 : RCl := fun xs H Q => ∃ i j, xs = [.int i, .int j] ∧ Q (.int (if j < i then j else i)) H
abbrev rAbs : RCl := fun xs H Q => ∃ i, xs = [.int i] ∧ Q (.int (if i < 0 then -i else i)) H
abbrev rInt1 : RCl := fun xs H Q => (∃ i, xs = [.int i] ∧ Q (.int i) H) ∨ ∃ k, xs = [.bl k] ∧ Q (.int (if k then 1 else 0)) H
abbrev rStrI : RCl := fun xs H Q => ∃ i, xs = [.int i] ∧ i.natAbs.log2 < 1920 ∧ Q (.str (toString i)) H
abbrev rLenS (K : PySem.W.Frag) : RCl := fun xs H Q => ∃ p ys, xs = [.ref p] ∧ (SqL K H p ys ∨ SqT K H p ys) ∧ Q (.int ys.length) H
abbrev rListS (K : PySem.W.Frag) : RCl := fun xs H Q => ∃ p ys, xs = [.ref p] ∧ (SqL K H p ys ∨ SqT K H p ys) ∧ ∀ l, H l = none → Q (.ref l) (upd H l (.lst ys))
abbrev rInsert : V → List V → Hp → VK → Prop := fun x vs H Q => ∃ (l : Addr) (xs : List V) (i : Int) (y : V), x = .ref l ∧ vs = [.int i, y] ∧ H l = some (.lst xs) ∧ xs.length < sizeLine ∧ 0 ≤ i ∧ i < 2 ^ 63 ∧ Q .non (upd H l (.lst (xs.take i.toNat ++ [y] ++ xs.drop i.toNat)))
abbrev rLenStr : RCl := fun xs H Q => ∃ z, xs = [.str z] ∧ z.length ≤ sizeLine ∧ Q (.int z.length) H

/-! ### a def of the text, its promise -/
structure DefF (K : PySem.W.Frag) (mg : Str → Option Value) (x : Str) (st : Stmt) : Prop where
  ex : ∃ f fd, mg x = some (.ref f) ∧ Fun K x x st f fd
theorem def_mk {K : PySem.W.Frag} {h : Heap} {mg : Str → Option Value} {x : Str} {st : Stmt} (X : K.In h) (G : h.Ns mainGlobals mg) {f : Addr} {od an : Option Addr} {sl : Array (Option Value)} {oc kV dc pm cd ct : Value}
    (a : PySem.W.nsIn K mainGlobals x = some (some (.ref f))) (l : K.lookup f = some ⟨oc, od, .func (PySem.W.fnOf x x (defArgs st) (defBody st) (defScope st) .none kV dc pm an cd ct), sl⟩)
    (c : PySem.W.codeIn K cd x = true) (k : PySem.W.keepIn K (.ref f) = true) : DefF K mg x st := ⟨_, _, PySem.W.mg_of X G a, fun_mk l c k⟩
/-- the parameters take the arguments one by one -/
abbrev PlainB (x : Str) (ps : List Str) (st : Stmt) : Prop := ∀ (kV doc pm : Value) (an : Option Addr) (cdv ct : Value) (us : List Value), us.length = ps.length → bindArgs (PySem.W.fnOf x x (defArgs st) (defBody st) (defScope st) .none kV doc pm an cdv ct) ⟨us, []⟩ = pure (ps.zip us)
/-- a def that keeps its promise -/
structure DefK (P : Program) (w : World) (K : PySem.W.Frag) (mg : Str → Option Value) (base : Heap) (k : Nat) (x : Str) (ps : List Str) (st : Stmt) (sp : Sp) : Prop where
  ex : ∃ f fd, mg x = some (.ref f) ∧ PySem.W.keepIn K (.ref f) = true ∧ Binds K fd ps [] ∧ Fun K x x st f fd ∧ FnOk P w K mg base CX0 k f fd ps sp
section
variable {P : Program} {w : World} {K : PySem.W.Frag} {mg : Str → Option Value} {base : Heap}
/-- THE RULE: the body's derivation, the reading -/
theorem DefF.ok {x : Str} {st : Stmt} {N ps : List Str} {k : Nat} {sp : Sp} {t : TS} (F : DefF K mg x st) (S : FnScope N ps (defScope st)) (B : PlainB x ps st) (len : ∀ vs H Q E, sp vs H Q E → vs.length = ps.length)
    (der : ∀ (f : Addr) (cdv : Value) (A : Around) (outer : List Env) (s : Shared) (H : Hp) (E : XK), Room k (A.deeper (envOfC x (defScope st) s.heap.objs.size f cdv)) → PSs (cxOf CX0 P w K mg base N x (defScope st) f cdv A outer s H E).nox (defBody st) t)
    (rd : ∀ vs H Q E, sp vs H Q E → t { nx := fun _ H' => Q .non H', rt := Q } (start N vs) H) : DefK P w K mg base (k + 1) x ps st sp := by
  obtain ⟨f, fd, hm, F⟩ := F.ex
  exact ⟨f, fd, hm, F.kp, F.binds B, F, F.ok S len fun cdv A outer s H vs Q E hr h => ⟨t, der f cdv A outer s H E hr, rd vs H Q E h⟩⟩
/-- the law's own def, at the end -/
theorem law_fin {l : PySem.W.OpenLaw} {x p : Str} {st : Stmt} {k : Nat} {sp : Sp} {fa : Addr} (F : DefF K mg x st) (hfa : mg x = some (.ref fa)) (B : PlainB x [p] st)
    (ok : ∀ (base : Heap) (f : Addr) (fd : FuncData), Fun K x x st f fd → FnOk l.prog w K mg base CX0 k f fd [p] sp) :
    ∃ fd : FuncData, (∀ (s : Shared) (v : Value), BindsTo s fd ⟨[v], []⟩ [(p, v)]) ∧ ∀ base : Heap, K.In base → base.Ns mainGlobals mg → FnOk l.prog w K mg base CX0 k fa fd [p] sp := by
  obtain ⟨f, fd, hm, F⟩ := F.ex
  have e : f = fa := by
    have z := hm.symm.trans hfa
    injection z with z
    injection z
  subst e
  refine ⟨fd, fun s v => ?_, fun base _ _ => ok base f fd F⟩
  obtain ⟨oc, od, kV, doc, pm, an, cdv, ct, osl, rfl, lk, hcd⟩ := F.ex
  exact .of_eq (B kV doc pm an cdv ct [v] rfl)
/-- THE RULE for the law's def -/
theorem fun_ok {x : Str} {st : Stmt} {N ps : List Str} {k : Nat} {sp : Sp} {t : TS} {f : Addr} {fd : FuncData} (F : Fun K x x st f fd) (S : FnScope N ps (defScope st)) (len : ∀ vs H Q E, sp vs H Q E → vs.length = ps.length)
    (der : ∀ (f : Addr) (cdv : Value) (A : Around) (outer : List Env) (s : Shared) (H : Hp) (E : XK), Room k (A.deeper (envOfC x (defScope st) s.heap.objs.size f cdv)) → PSs (cxOf CX0 P w K mg base N x (defScope st) f cdv A outer s H E).nox (defBody st) t)
    (rd : ∀ vs H Q E, sp vs H Q E → t { nx := fun _ H' => Q .non H', rt := Q } (start N vs) H) : FnOk P w K mg base CX0 (k + 1) f fd ps sp :=
  F.ok S len fun cdv A outer s H vs Q E hr h => ⟨t, der f cdv A outer s H E hr, rd vs H Q E h⟩
end
section
variable {X : Cx} {k j : Nat} {ps : List Str} {sp : Sp} {x : Str} {st : Stmt} {p pos : Pos} {e : Expr} {es : List Expr} {t : TA}
theorem pe_def (D : DefK X.prog X.w X.K X.mg X.base k x ps st sp) (hr : Room j X.A) (hj : k ≤ j) (hg : Gl X x) (ha : PA X (e :: es) t) (hdb : (x == ("__debug__" : Str)) = false := by decide)
    (he : starEach (e :: es) X.env = (false, eval e X.env) :: starEach es X.env := by rfl) (hpl : (backTo pos (starEach es X.env)).any (·.1) = false := by rfl) : PE X (.Call (.Name x p) (e :: es) [] pos) (tCall sp [] E0 t) := by
  obtain ⟨f, fd, hm, hk, hb, _, F⟩ := D.ex
  exact pe_call F (hr.mono hj) hg hm hk hb .nil pass0 ha hdb he hpl
theorem pe_gI {i : Int} (hg : Gl X x) (h : ∃ t, X.mg x = some (.int i t)) (hd : (x == ("__debug__" : Str)) = false := by decide) : PE X (.Name x pos) (tC (.int i)) := by
  obtain ⟨t, h⟩ := h
  exact pe_glob hg h ⟨t, rfl⟩ hd
theorem pe_gS {i : Str} (hg : Gl X x) (h : ∃ t, X.mg x = some (.str i t)) (hd : (x == ("__debug__" : Str)) = false := by decide) : PE X (.Name x pos) (tC (.str i)) := by
  obtain ⟨t, h⟩ := h
  exact pe_glob hg h ⟨t, rfl⟩ hd
theorem pe_gR {C : Addr} (hg : Gl X x) (h : X.mg x = some (.ref C)) (hd : (x == ("__debug__" : Str)) = false := by decide) : PE X (.Name x pos) (tC (.ref C)) := pe_glob hg h rfl hd

/-! ### calls by keywords alone -/
/-- the parameters by keywords: pi tells for each parameter which keyword -/
structure KwB (x : Str) (ps ks : List Str) (st : Stmt) (pi : List Nat) : Prop where
  all : ∀ (kV doc pm : Value) (an : Option Addr) (cdv ct : Value) (ws : List Value), ws.length = ks.length → bindArgs (PySem.W.fnOf x x (defArgs st) (defBody st) (defScope st) .none kV doc pm an cdv ct) ⟨[], ks.zip ws⟩ = pure (ps.zip (pi.filterMap fun i => ws[i]?))
def perm {α : Type} (pi : List Nat) (ws : List α) : List α := pi.filterMap fun i => ws[i]?
theorem perm_rel (pi : List Nat) {zs : List V} {ws : List Value} (r : Vals zs ws) : Vals (perm pi zs) (perm pi ws) := by
  induction pi with
  | nil => exact .nil
  | cons i l ih =>
    unfold perm
    rw [List.filterMap_cons, List.filterMap_cons]
    cases e : zs[i]? with
    | none => rw [r.none_of e]; exact ih
    | some z =>
      obtain ⟨u, e2, r2⟩ := r.get e
      rw [e2]
      exact .cons r2 ih
def tCallP (n : Nat) (pi : List Nat) (sp : Sp) (E : XK) (tk : TA) : TE := fun σ H Q => tk σ H fun zs H2 => zs.length = n ∧ sp (perm pi zs) H2 Q E
theorem pe_defK {ks : List Str} {pi : List Nat} {kws : List Keyword} {tk : TA} (D : DefK X.prog X.w X.K X.mg X.base k x ps st sp) (B : KwB x ps ks st pi) (hr : Room j X.A) (hj : k ≤ j) (hg : Gl X x) (hkw : PK X kws tk)
    (hall : (backToKw pos (keywordEach kws X.env)).all (·.1.isSome) = true := by rfl) (hks : (backToKw pos (keywordEach kws X.env)).filterMap (·.1) = ks := by rfl)
    (hdb : (x == ("__debug__" : Str)) = false := by decide) (hpl : (backToKw pos (keywordEach kws X.env)).any (·.1.isNone) = false := by rfl) :
    PE X (.Call (.Name x p) [] kws pos) (tCallP ks.length pi sp E0 tk) := by
  obtain ⟨f, fd, hm, hk, hb, Fn, F⟩ := D.ex
  refine ⟨fun pins s σ H Q I h => ?_⟩
  refine wpAny_Call_Name_kw (ld_glob I hg hm ?_ hdb)
  refine PySem.W.callWith_KW0 (h₀ := X.base) I.ok.mod.kin hk hall (thn (hkw.run pos pins s σ H _ I h) fun ws s2 ⟨zs, H2, I2, rz, q1, q2⟩ => ⟨I2.kIn, ?_⟩) hpl
  rw [hks]
  have r2 : Vals (perm pi zs) (perm pi ws) := perm_rel pi rz
  obtain ⟨oc, od, kV, doc, pm, an, cdv, ct, osl, rfl, lk, hcd⟩ := Fn.ex
  have hw : ws.length = ks.length := rz.length.symm.trans q1
  refine wpAny_call (codeAny_mono ((F.mono hj).run X.A X.stack s2 H2 ⟨[], ks.zip ws⟩ (perm pi ws) (perm pi zs) Q E0 hr I2.env0 (.of_eq (B.all kV doc pm an cdv ct ws hw)) r2 q2) fun r s' hq => ?_)
  cases r with
  | error e => exact hq.elim
  | ok fl =>
    cases fl with
    | ret u => exact I2.after hq
    | next => exact False.elim hq
    | brk => exact False.elim hq
    | cont => exact False.elim hq
end
end NN
/-! own steps through readings -/
namespace NN
open PySem L2

/-! ### what is kept -/
def Kp (S : List Addr) (H H' : Hp) : Prop := ∀ b o, H b = some o → b ∉ S → H' b = some o
theorem Kp.refl {S : List Addr} {H : Hp} : Kp S H H := fun _ _ h _ => h
theorem Kp.trans {S : List Addr} {H H1 H2 : Hp} (a : Kp S H H1) (b : Kp S H1 H2) : Kp S H H2 := fun c o h n => b c o (a c o h n) n
theorem Kp.at {S : List Addr} {H H1 : Hp} {b : Addr} {o : HO} (a : Kp S H H1) (h : H b = some o) (n : b ∉ S) : H1 b = some o := a b o h n
theorem Kp.mono {S T : List Addr} {H H1 : Hp} (a : Kp S H H1) (h : ∀ x ∈ S, x ∈ T) : Kp T H H1 := fun c o e n => a c o e fun z => n (h _ z)
theorem Kp.wid {S : List Addr} {H H1 : Hp} (a : Kp [] H H1) : Kp S H H1 := a.mono fun _ z => nomatch z
theorem Kp.new {S : List Addr} {H H1 : Hp} {p : Addr} {o : HO} (a : Kp S H H1) (h : H1 p = none) : Kp S H (upd H1 p o) := fun c u e n => by
  have e1 := a c u e n
  rw [upd_ne (ne_of_none e1 h)]; exact e1
/-- an object that H does not know is written -/
theorem Kp.own {S : List Addr} {H H1 : Hp} {p : Addr} {o : HO} (a : Kp S H H1) (h : H p = none) : Kp S H (upd H1 p o) := fun c u e n => by
  rw [upd_ne (ne_of_none e h)]; exact a c u e n
theorem Kp.wr {S : List Addr} {H H1 : Hp} {p : Addr} {o : HO} (a : Kp S H H1) (h : p ∈ S) : Kp S H (upd H1 p o) := fun c u e n => by
  rw [upd_ne (fun z => n (by rw [z]; exact h))]; exact a c u e n
theorem Kp.seq {S : List Addr} {K : PySem.W.Frag} {H H1 : Hp} {p : Addr} {xs : List V} (a : Kp S H H1) (n : p ∉ S) (h : SqL K H p xs) : SqL K H1 p xs := by
  rcases h with (h | ⟨o, h⟩) | h
  · exact .inl (.inl (a _ _ h n))
  · exact .inl (.inr ⟨o, a _ _ h n⟩)
  · exact .inr h
theorem Kp.seq0 {K : PySem.W.Frag} {H H1 : Hp} {p : Addr} {xs : List V} (a : Kp [] H H1) (h : SqL K H p xs) : SqL K H1 p xs := a.seq (by intro z; cases z) h
theorem Kp.free {S : List Addr} {H H1 : Hp} {p : Addr} (a : Kp S H H1) (n : p ∉ S) (h : H1 p = Option.none) : H p = Option.none := by
  cases e : H p with
  | none => rfl
  | some o => rw [a p o e n] at h; cases h

/-! ### steps -/
section
variable {σ : St} {H : Hp} {Q : VK} {QB : Bool → Hp → Prop} {QA : List V → Hp → Prop} {v x y : V} {i : Nat} {a b : Int} {ta tb te tc : TE} {t u : TT} {D : Ends} {s1 s2 : TS} {tl tr : TA} {r r' : R2} {K : PySem.W.Frag} {p : Addr} {xs ys : List V} {rc : RCl} {c : Bool}
theorem g_var (h : σ[i]? = some (some v)) (q : Q v H) : tVar i σ H Q := ⟨v, h, q⟩
theorem g_c (q : Q v H) : tC v σ H Q := q
theorem g_op (q : ta σ H fun x H1 => tb σ H1 fun y H2 => r x y H2 Q) : tOp r ta tb σ H Q := q
theorem g_un {r : V → Hp → VK → Prop} (q : ta σ H fun x H1 => r x H1 Q) : tUn r ta σ H Q := q
theorem g_neg (q : Q (.int (-a)) H) : rU (fun i => .int (-i)) (.int a) H Q := ⟨a, rfl, q⟩
theorem g_I0 {g : Int → Int → V} (q : Q (g a b) H) : rI0 g (.int a) (.int b) H Q := ⟨a, b, rfl, rfl, q⟩
theorem g_I {C : Int → Int → Prop} {g : Int → Int → V} (h : C a b) (q : Q (g a b) H) : rI C g (.int a) (.int b) H Q := ⟨a, b, rfl, rfl, h, q⟩
theorem g_eqI (q : Q (.bl (decide (a = b))) H) : rEq (.int a) (.int b) H Q := ⟨rfl, by
  have e : decide (V.int a = V.int b) = decide (a = b) := by rw [dec_int, Bool.beq_eq_decide_eq]
  rw [e]; exact q⟩
theorem g_neI (q : Q (.bl (!decide (a = b))) H) : rNe (.int a) (.int b) H Q := ⟨rfl, by
  have e : decide (V.int a = V.int b) = decide (a = b) := by rw [dec_int, Bool.beq_eq_decide_eq]
  rw [e]; exact q⟩
theorem g_eq (h : scal x y = true) (q : Q (.bl (decide (x = y))) H) : rEq x y H Q := ⟨h, q⟩
theorem g_ne (h : scal x y = true) (q : Q (.bl (!decide (x = y))) H) : rNe x y H Q := ⟨h, q⟩
theorem g_test (q : te σ H fun x H1 => ∃ k, x = .bl k ∧ QB k H1) : tTest te σ H QB := q
theorem g_tb (q : te σ H fun x H1 => ∃ k, x = .bl k ∧ QB k H1) : tB te σ H QB := q
theorem g_bl {b : Bool} {P : Bool → Prop} (q : P b) : ∃ k, V.bl b = .bl k ∧ P k := ⟨b, rfl, q⟩
theorem g_and (q : t σ H fun c H1 => if c = true then u σ H1 QB else QB false H1) : tAnd t u σ H QB := q
theorem g_or (q : t σ H fun c H1 => if c = true then QB true H1 else u σ H1 QB) : tOr t u σ H QB := q
theorem g_not (q : t σ H fun c H1 => QB (!c) H1) : tNot t σ H QB := q
theorem g_andV (q : ta σ H fun x H1 => ∃ c, x = .bl c ∧ if c = true then tb σ H1 Q else Q (.bl false) H1) : tAndV ta tb σ H Q := q
theorem g_orV (q : ta σ H fun x H1 => ∃ c, x = .bl c ∧ if c = true then Q (.bl true) H1 else tb σ H1 Q) : tOrV ta tb σ H Q := q
theorem g_notV (q : ta σ H fun x H1 => ∃ c, x = .bl c ∧ Q (.bl (!c)) H1) : tNotV ta σ H Q := q
theorem g_if (q : t σ H fun c H1 => if c = true then ta σ H1 Q else tb σ H1 Q) : tIf t ta tb σ H Q := q
theorem g_nil (q : QA [] H) : tNil σ H QA := q
theorem g_cons (q : te σ H fun x H1 => tr σ H1 fun xs H2 => QA (x :: xs) H2) : tCons te tr σ H QA := q
theorem g_tup (q : tl σ H fun xs H1 => xs.length ≤ sizeLine ∧ ∀ p, H1 p = none → Q (.ref p) (upd H1 p (.tup xs))) : tTup tl σ H Q := q
theorem g_lst (q : tl σ H fun xs H1 => xs.length ≤ sizeLine ∧ ∀ p, H1 p = none → Q (.ref p) (upd H1 p (.lst xs))) : tLst tl σ H Q := q
theorem g_cb (q : tl σ H fun vs H1 => rc vs H1 Q) : tCB rc tl σ H Q := q
theorem g_max2 (q : Q (.int (if b > a then b else a)) H) : rMax2 [.int a, .int b] H Q := ⟨a, b, rfl, q⟩
theorem g_min2 (q : Q (.int (if b < a then b else a)) H) : rMin2 [.int a, .int b] H Q := ⟨a, b, rfl, q⟩
theorem g_abs (q : Q (.int (if a < 0 then -a else a)) H) : rAbs [.int a] H Q := ⟨a, rfl, q⟩
theorem g_int1b (q : Q (.int (if c then 1 else 0)) H) : rInt1 [.bl c] H Q := .inr ⟨c, rfl, q⟩
theorem g_int1i (q : Q (.int a) H) : rInt1 [.int a] H Q := .inl ⟨a, rfl, q⟩
theorem g_lenL (h : SqL K H p xs) (q : Q (.int xs.length) H) : rLenS K [.ref p] H Q := ⟨p, xs, rfl, .inl h, q⟩
theorem g_listL (h : SqL K H p xs) (q : ∀ l, H l = none → Q (.ref l) (upd H l (.lst xs))) : rListS K [.ref p] H Q := ⟨p, xs, rfl, .inl h, q⟩
theorem g_ixL {j : Int} (h : SqL K H p xs) (e : atI xs j = some v) (q : Q v H) : rIxL K (.ref p) (.int j) H Q := ⟨p, xs, j, v, rfl, rfl, h, e, q⟩
theorem g_ixT {j : Int} (h : SqT K H p xs) (e : atI xs j = some v) (q : Q v H) : rIxT K (.ref p) (.int j) H Q := ⟨p, xs, j, v, rfl, rfl, h, e, q⟩
theorem g_sl {r : V → Option Int → Option Int → Hp → VK → Prop} {lo hi : TO} (q : te σ H fun x H1 => lo σ H1 fun l H2 => hi σ H2 fun u H3 => r x l u H3 Q) : tSl r te lo hi σ H Q := q
theorem g_nopart {QO : Option Int → Hp → Prop} (q : QO none H) : tNoPart σ H QO := q
theorem g_part {QO : Option Int → Hp → Prop} (q : te σ H fun x H1 => ∃ i, x = .int i ∧ QO (some i) H1) : tPart te σ H QO := q
theorem g_int {P : Int → Prop} (q : P a) : ∃ i, V.int a = .int i ∧ P i := ⟨a, rfl, q⟩
theorem g_slL {lo hi : Option Int} (h : SqL K H p xs) (q : ∀ l, H l = none → Q (.ref l) (upd H l (.lst (cutV xs lo hi)))) : rSlL K (.ref p) lo hi H Q := ⟨p, xs, rfl, h, q⟩
theorem g_isN (q : Q (.bl (decide (x = .non))) H) : rIsN x .non H Q := ⟨rfl, q⟩
theorem g_notN (q : Q (.bl (!decide (x = .non))) H) : rNotN x .non H Q := ⟨rfl, q⟩
theorem g_in {neg : Bool} (h : SqL K H p xs) (hx : flatV x = true) (hs : xs.all flatV = true) (q : Q (.bl (if neg then !inV x xs else inV x xs)) H) : rIn K neg x (.ref p) H Q := ⟨p, xs, rfl, .inl h, hx, hs, q⟩
theorem g_cat {p' : Addr} (h : H p = some (.lst xs)) (h' : H p' = some (.lst ys)) (hl : xs.length + ys.length ≤ sizeLine) (q : ∀ l, H l = none → Q (.ref l) (upd H l (.lst (xs ++ ys)))) : rCat (.ref p) (.ref p') H Q := ⟨p, p', xs, ys, rfl, rfl, h, h', hl, q⟩
theorem g_call {sp : Sp} {dvs : List V} {E : XK} (q : tl σ H fun vs H1 => sp (vs ++ dvs) H1 Q E) : tCall sp dvs E tl σ H Q := q
/-! statements -/
theorem g_seq (q : s1 { D with nx := s2 D } σ H) : tSeq s1 s2 D σ H := q
theorem g_isIf {s3 : TS} (q : tSeq (tIfS t s1 s2) s3 D σ H) : tSeq (tIfS t s1 s2) s3 D σ H := q
/-- two statements with a word between them -/
theorem g_seqJ {M : St → Hp → Prop} (F : ∀ σ' H', M σ' H' → s2 D σ' H') (q : ∀ N : St → Hp → Prop, (∀ σ' H', M σ' H' → N σ' H') → s1 { D with nx := N } σ H) : tSeq s1 s2 D σ H := q (s2 D) F
theorem g_next (q : D.nx σ H) : tNext D σ H := q
theorem g_brk (q : D.bk σ H) : tBreak D σ H := q
theorem g_ct (q : D.ct σ H) : tCont D σ H := q
theorem g_drop (q : te σ H fun _ H1 => D.nx σ H1) : tDrop te D σ H := q
theorem g_ret (q : te σ H D.rt) : tRet te D σ H := q
theorem g_retN (q : D.rt .non H) : tRetN D σ H := q
theorem g_ifS (q : t σ H fun b H1 => if b = true then s1 D σ H1 else s2 D σ H1) : tIfS t s1 s2 D σ H := q
theorem g_asg {g : TG} (q : te σ H fun x H1 => g x σ H1 D.nx) : tAsg te g D σ H := q
theorem g_name {σ' : St} {QS : St → Hp → Prop} (e : σ.set i (some v) = σ') (q : QS σ' H) : gName i v σ H QS := by subst e; exact q
theorem g_sub {to ti : TE} {ts : TSet} {QS : St → Hp → Prop} (q : to σ H fun o H1 => ti σ H1 fun i H2 => ts o i v H2 fun H3 => QS σ H3) : gSub to ti ts v σ H QS := q
theorem g_setL {QH : Hp → Prop} {k : Int} {j : Nat} (h : H p = some (.lst xs)) (e : ixN xs.length k = some j) (q : QH (upd H p (.lst (xs.set j v)))) : rSetL (.ref p) (.int k) v H QH := ⟨p, xs, k, j, rfl, rfl, h, e, q⟩
theorem g_aug {ti : TIp} (h : σ[i]? = some (some x)) (q : te σ H fun y H1 => ti x y H1 fun z H2 => D.nx (σ.set i (some z)) H2) : tAug i te ti D σ H := ⟨x, h, q⟩
theorem g_ipI {f : Int → Int → Int} (q : Q (.int (f a b)) H) : ipI f (.int a) (.int b) H Q := ⟨a, b, rfl, rfl, q⟩
theorem g_par {j : Nat} (q : tl σ H fun vs H1 => ∃ v w, vs = [v, w] ∧ D.nx ((σ.set i (some v)).set j (some w)) H1) : tPar i j tl D σ H := q
theorem g_ex1 {A : Prop} (h : A) (q : Q v H) : A ∧ Q v H := ⟨h, q⟩
theorem g_ite {A B pr : Prop} [Decidable pr] (h1 : pr → A) (h2 : ¬ pr → B) : if decide pr = true then A else B := by
  by_cases h : pr
  · rw [decide_eq_true h, if_pos rfl]; exact h1 h
  · rw [decide_eq_false h, if_neg Bool.false_ne_true]; exact h2 h
theorem g_iteN {A B pr : Prop} [Decidable pr] (h1 : ¬ pr → A) (h2 : pr → B) : if (!decide pr) = true then A else B := by
  by_cases h : pr
  · rw [decide_eq_true h]; exact h2 h
  · rw [decide_eq_false h]; exact h1 h
theorem g_itb {A B : Prop} {b : Bool} (h1 : b = true → A) (h2 : b = false → B) : if b = true then A else B := by
  cases b with
  | true => exact h1 rfl
  | false => exact h2 rfl
theorem g_for {wi : TI} {g : TG} {tb : TS} (q : wi σ H fun J H1 => ∃ W : Nat → Nat → St → Hp → Prop, (∃ m, W 0 m σ H1) ∧ ∀ i m σ H, W i m σ H →
  (J.stop i H ∧ D.nx σ H) ∨ (J.go i H ∧ ∃ N : St → Hp → Prop, (∀ σ' H', N σ' H' → ∃ m', m' < m ∧ W (i + 1) m' σ' H') ∧ ∀ x H', J.yld i H x H' → g x σ H' fun σ2 H2 => tb { D with nx := N, ct := N, bk := D.nx } σ2 H2)) : tFor wi g tb D σ H := q
theorem g_iList {R : It → Hp → Prop} (q : te σ H fun x H1 => ∃ a, x = .ref a ∧ (∃ xs, SqL K H1 a xs) ∧ R (Itl K a) H1) : iList K te σ H R := q
theorem g_iRng1 {R : It → Hp → Prop} (q : tl σ H fun vs H1 => ∃ j : Int, vs = [.int j] ∧ -(2 ^ 62) ≤ j ∧ j < 2 ^ 62 ∧ R (Itr 0 j.toNat) H1) : iRng1 tl σ H R := q
theorem g_iRng2 {R : It → Hp → Prop} (q : tl σ H fun vs H1 => ∃ i j : Int, vs = [.int i, .int j] ∧ (-(2 ^ 62) ≤ i ∧ i < 2 ^ 62 ∧ -(2 ^ 62) ≤ j ∧ j < 2 ^ 62) ∧ R (Itr i (j - i).toNat) H1) : iRng2 tl σ H R := q
/-- a loop over a list that is at hand -/
theorem f_list {g : TG} {tb : TS} {nxt : St → Hp → Prop} {rt : VK} (h : SqL K H p xs) (Pv : Nat → St → Hp → Prop) (h0 : Pv 0 σ H) (hl : ∀ i σ H, i ≤ xs.length → Pv i σ H → SqL K H p xs)
    (hs : ∀ i x σ H, xs[i]? = some x → Pv i σ H → g x σ H fun σ2 H2 => tb { nx := Pv (i + 1), rt := rt, bk := nxt, ct := Pv (i + 1) } σ2 H2) (hd : ∀ σ H, Pv xs.length σ H → nxt σ H) :
    ∃ a, V.ref p = .ref a ∧ (∃ xs, SqL K H a xs) ∧ ∃ W : Nat → Nat → St → Hp → Prop, (∃ m, W 0 m σ H) ∧ ∀ i m σ H, W i m σ H →
      ((Itl K a).stop i H ∧ nxt σ H) ∨ ((Itl K a).go i H ∧ ∃ N : St → Hp → Prop, (∀ σ' H', N σ' H' → ∃ m', m' < m ∧ W (i + 1) m' σ' H') ∧ ∀ x H', (Itl K a).yld i H x H' → g x σ H' fun σ2 H2 => tb { nx := N, rt := rt, bk := nxt, ct := N } σ2 H2) :=
  ⟨p, rfl, ⟨xs, h⟩, for_list (D := { nx := nxt, rt := rt, bk := nxt, ct := nxt }) Pv h0 hl hs hd⟩
theorem f_rng1 {g : TG} {tb : TS} {nxt : St → Hp → Prop} {rt : VK} (n : Nat) (hn : a.toNat = n) (h1 : -(2 ^ 62) ≤ a) (h2 : a < 2 ^ 62) (Pv : Nat → St → Hp → Prop) (h0 : Pv 0 σ H)
    (hs : ∀ i σ H, i < n → Pv i σ H → g (.int ((i : Nat) : Int)) σ H fun σ2 H2 => tb { nx := Pv (i + 1), rt := rt, bk := nxt, ct := Pv (i + 1) } σ2 H2) (hd : ∀ σ H, Pv n σ H → nxt σ H) :
    ∃ j : Int, [V.int a] = [.int j] ∧ -(2 ^ 62) ≤ j ∧ j < 2 ^ 62 ∧ ∃ W : Nat → Nat → St → Hp → Prop, (∃ m, W 0 m σ H) ∧ ∀ i m σ H, W i m σ H →
      ((Itr 0 j.toNat).stop i H ∧ nxt σ H) ∨ ((Itr 0 j.toNat).go i H ∧ ∃ N : St → Hp → Prop, (∀ σ' H', N σ' H' → ∃ m', m' < m ∧ W (i + 1) m' σ' H') ∧ ∀ x H', (Itr 0 j.toNat).yld i H x H' → g x σ H' fun σ2 H2 => tb { nx := N, rt := rt, bk := nxt, ct := N } σ2 H2) := by
  subst hn
  exact ⟨a, rfl, h1, h2, for_range (lo := 0) (D := { nx := nxt, rt := rt, bk := nxt, ct := nxt }) Pv h0 (fun i σ H hi q => by rw [Int.zero_add]; exact hs i σ H hi q) hd⟩
theorem f_rng {g : TG} {tb : TS} {nxt : St → Hp → Prop} {rt : VK} (hb : 0 ≤ a ∧ a ≤ 1000000) (Pv : Nat → St → Hp → Prop) (h0 : Pv 0 σ H)
    (hs : ∀ i σ H, ((i : Nat) : Int) < a → Pv i σ H → g (.int ((i : Nat) : Int)) σ H fun σ2 H2 => tb { nx := Pv (i + 1), rt := rt, bk := nxt, ct := Pv (i + 1) } σ2 H2) (hd : ∀ σ H, Pv a.toNat σ H → nxt σ H) :
    ∃ j : Int, [V.int a] = [.int j] ∧ -(2 ^ 62) ≤ j ∧ j < 2 ^ 62 ∧ ∃ W : Nat → Nat → St → Hp → Prop, (∃ m, W 0 m σ H) ∧ ∀ i m σ H, W i m σ H →
      ((Itr 0 j.toNat).stop i H ∧ nxt σ H) ∨ ((Itr 0 j.toNat).go i H ∧ ∃ N : St → Hp → Prop, (∀ σ' H', N σ' H' → ∃ m', m' < m ∧ W (i + 1) m' σ' H') ∧ ∀ x H', (Itr 0 j.toNat).yld i H x H' → g x σ H' fun σ2 H2 => tb { nx := N, rt := rt, bk := nxt, ct := N } σ2 H2) :=
  f_rng1 a.toNat rfl (by omega) (by omega) Pv h0 (fun i σ H hi q => hs i σ H (by omega) q) hd
/-! comprehensions -/
theorem g_lc {wi : TI} {g : TG} {tt : TT} {vs : List Nat} (q : wi σ H fun J H1 => ∀ D, H1 D = none → ∃ W : Nat → Nat → Hp → Prop, (∃ m, W 0 m (upd H1 D (.lst []))) ∧ ∀ i m H, W i m H →
  (J.stop i H ∧ Q (.ref D) H) ∨ (J.go i H ∧ ∃ Nx : Hp → Prop, (∀ H', Nx H' → ∃ m', m' < m ∧ W (i + 1) m' H') ∧ ∀ x H', J.yld i H x H' → g x (wipe σ vs) H' fun σ2 H2 => wipe σ2 vs = wipe σ vs ∧ tt σ2 H2 fun b H3 =>
    if b = true then te σ2 H3 fun y H4 => ∃ acc, H4 D = some (.lst acc) ∧ acc.length < sizeLine ∧ Nx (upd H4 D (.lst (acc ++ [y]))) else Nx H3)) : tLc wi g tt te vs σ H Q := q
/-- over a list at hand -/
theorem c_list {g : TG} {tt : TT} {vs : List Nat} {Qd : Addr → Hp → Prop} (h : SqL K H p xs) (Pv : Addr → Nat → Hp → Prop) (h0 : ∀ D, H D = none → Pv D 0 (upd H D (.lst []))) (hl : ∀ D i H', H D = none → i ≤ xs.length → Pv D i H' → SqL K H' p xs)
    (hs : ∀ D i x H', H D = none → xs[i]? = some x → Pv D i H' → g x (wipe σ vs) H' fun σ2 H2 => wipe σ2 vs = wipe σ vs ∧ tt σ2 H2 fun b H3 =>
      if b = true then te σ2 H3 fun y H4 => ∃ acc, H4 D = some (.lst acc) ∧ acc.length < sizeLine ∧ Pv D (i + 1) (upd H4 D (.lst (acc ++ [y]))) else Pv D (i + 1) H3)
    (hd : ∀ D H', H D = none → Pv D xs.length H' → Qd D H') :
    ∃ a, V.ref p = .ref a ∧ (∃ xs, SqL K H a xs) ∧ ∀ D, H D = none → ∃ W : Nat → Nat → Hp → Prop, (∃ m, W 0 m (upd H D (.lst []))) ∧ ∀ i m H, W i m H →
  ((Itl K a).stop i H ∧ Qd D H) ∨ ((Itl K a).go i H ∧ ∃ Nx : Hp → Prop, (∀ H', Nx H' → ∃ m', m' < m ∧ W (i + 1) m' H') ∧ ∀ x H', (Itl K a).yld i H x H' → g x (wipe σ vs) H' fun σ2 H2 => wipe σ2 vs = wipe σ vs ∧ tt σ2 H2 fun b H3 =>
    if b = true then te σ2 H3 fun y H4 => ∃ acc, H4 D = some (.lst acc) ∧ acc.length < sizeLine ∧ Nx (upd H4 D (.lst (acc ++ [y]))) else Nx H3) :=
  ⟨p, rfl, ⟨xs, h⟩, fun D hD => lc_list (xs := xs) (Qd := Qd D) (Pv D) (h0 D hD) (fun i H' hi q => hl D i H' hD hi q) (fun i x H' hx q => hs D i x H' hD hx q) fun H' q => hd D H' hD q⟩
theorem c_rng1 {g : TG} {tt : TT} {vs : List Nat} {Qd : Addr → Hp → Prop} (n : Nat) (hn : a.toNat = n) (h1 : -(2 ^ 62) ≤ a) (h2 : a < 2 ^ 62) (Pv : Addr → Nat → Hp → Prop) (h0 : ∀ D, H D = none → Pv D 0 (upd H D (.lst [])))
    (hs : ∀ D i H', H D = none → i < n → Pv D i H' → g (.int ((i : Nat) : Int)) (wipe σ vs) H' fun σ2 H2 => wipe σ2 vs = wipe σ vs ∧ tt σ2 H2 fun b H3 =>
      if b = true then te σ2 H3 fun y H4 => ∃ acc, H4 D = some (.lst acc) ∧ acc.length < sizeLine ∧ Pv D (i + 1) (upd H4 D (.lst (acc ++ [y]))) else Pv D (i + 1) H3)
    (hd : ∀ D H', H D = none → Pv D n H' → Qd D H') :
    ∃ j : Int, [V.int a] = [.int j] ∧ -(2 ^ 62) ≤ j ∧ j < 2 ^ 62 ∧ ∀ D, H D = none → ∃ W : Nat → Nat → Hp → Prop, (∃ m, W 0 m (upd H D (.lst []))) ∧ ∀ i m H, W i m H →
  ((Itr 0 j.toNat).stop i H ∧ Qd D H) ∨ ((Itr 0 j.toNat).go i H ∧ ∃ Nx : Hp → Prop, (∀ H', Nx H' → ∃ m', m' < m ∧ W (i + 1) m' H') ∧ ∀ x H', (Itr 0 j.toNat).yld i H x H' → g x (wipe σ vs) H' fun σ2 H2 => wipe σ2 vs = wipe σ vs ∧ tt σ2 H2 fun b H3 =>
    if b = true then te σ2 H3 fun y H4 => ∃ acc, H4 D = some (.lst acc) ∧ acc.length < sizeLine ∧ Nx (upd H4 D (.lst (acc ++ [y]))) else Nx H3) := by
  subst hn
  exact ⟨a, rfl, h1, h2, fun D hD => lc_range (lo := 0) (Qd := Qd D) (Pv D) (h0 D hD) (fun i H' hi q => by rw [Int.zero_add]; exact hs D i H' hD hi q) fun H' q => hd D H' hD q⟩
theorem c_rng {g : TG} {tt : TT} {vs : List Nat} {Qd : Addr → Hp → Prop} (hb : 0 ≤ a ∧ a ≤ 1000000) (Pv : Addr → Nat → Hp → Prop) (h0 : ∀ D, H D = none → Pv D 0 (upd H D (.lst [])))
    (hs : ∀ D i H', H D = none → ((i : Nat) : Int) < a → Pv D i H' → g (.int ((i : Nat) : Int)) (wipe σ vs) H' fun σ2 H2 => wipe σ2 vs = wipe σ vs ∧ tt σ2 H2 fun b H3 =>
      if b = true then te σ2 H3 fun y H4 => ∃ acc, H4 D = some (.lst acc) ∧ acc.length < sizeLine ∧ Pv D (i + 1) (upd H4 D (.lst (acc ++ [y]))) else Pv D (i + 1) H3)
    (hd : ∀ D H', H D = none → Pv D a.toNat H' → Qd D H') :
    ∃ j : Int, [V.int a] = [.int j] ∧ -(2 ^ 62) ≤ j ∧ j < 2 ^ 62 ∧ ∀ D, H D = none → ∃ W : Nat → Nat → Hp → Prop, (∃ m, W 0 m (upd H D (.lst []))) ∧ ∀ i m H, W i m H →
  ((Itr 0 j.toNat).stop i H ∧ Qd D H) ∨ ((Itr 0 j.toNat).go i H ∧ ∃ Nx : Hp → Prop, (∀ H', Nx H' → ∃ m', m' < m ∧ W (i + 1) m' H') ∧ ∀ x H', (Itr 0 j.toNat).yld i H x H' → g x (wipe σ vs) H' fun σ2 H2 => wipe σ2 vs = wipe σ vs ∧ tt σ2 H2 fun b H3 =>
    if b = true then te σ2 H3 fun y H4 => ∃ acc, H4 D = some (.lst acc) ∧ acc.length < sizeLine ∧ Nx (upd H4 D (.lst (acc ++ [y]))) else Nx H3) :=
  c_rng1 a.toNat rfl (by omega) (by omega) Pv h0 (fun D i H' hD hi q => hs D i H' hD (by omega) q) hd
/-! ### the same, the heap behind by what is known of it -/
theorem h_tup (q : tl σ H fun xs H1 => xs.length ≤ sizeLine ∧ ∀ p H2, H1 p = none → Kp [] H1 H2 → H2 p = some (.tup xs) → Q (.ref p) H2) (mono : ∀ QA' : List V → Hp → Prop, (∀ xs H1, (xs.length ≤ sizeLine ∧ ∀ p H2, H1 p = none → Kp [] H1 H2 → H2 p = some (.tup xs) → Q (.ref p) H2) → QA' xs H1) → tl σ H QA') : tTup tl σ H Q :=
  mono _ fun xs H1 ⟨h1, h2⟩ => ⟨h1, fun p hp => h2 p _ hp (Kp.refl.new hp) upd_same⟩
theorem h_new {o : HO} (q : ∀ p H2, H p = none → Kp [] H H2 → H2 p = some o → Q (.ref p) H2) : ∀ p, H p = none → Q (.ref p) (upd H p o) := fun p hp => q p _ hp (Kp.refl.new hp) upd_same
theorem g_sz {n : Nat} {P : Prop} (h : n ≤ sizeLine) (q : P) : n ≤ sizeLine ∧ P := ⟨h, q⟩
theorem Kp.of_upd {H H2 : Hp} {p : Addr} {o : HO} (e : upd H p o = H2) (h : H p = none) : Kp [] H H2 := e ▸ Kp.refl.new h
theorem at_upd {H H2 : Hp} {p : Addr} {o : HO} (e : upd H p o = H2) : H2 p = some o := e ▸ upd_same
theorem g_eqc {α : Type} {x y : α} {P : Prop} (h : x = y) (q : P) : x = y ∧ P := ⟨h, q⟩
theorem h_listL (h : SqL K H p xs) (q : ∀ l H2, H l = none → Kp [] H H2 → H2 l = some (.lst xs) → Q (.ref l) H2) : rListS K [.ref p] H Q := g_listL h (h_new q)
theorem h_slL {lo hi : Option Int} (h : SqL K H p xs) (q : ∀ l H2, H l = none → Kp [] H H2 → H2 l = some (.lst (cutV xs lo hi)) → Q (.ref l) H2) : rSlL K (.ref p) lo hi H Q := g_slL h (h_new q)
theorem h_cat {p' : Addr} (h : H p = some (.lst xs)) (h' : H p' = some (.lst ys)) (hl : xs.length + ys.length ≤ sizeLine) (q : ∀ l H2, H l = none → Kp [] H H2 → H2 l = some (.lst (xs ++ ys)) → Q (.ref l) H2) : rCat (.ref p) (.ref p') H Q := g_cat h h' hl (h_new q)
theorem h_sized {o : HO} {n : Nat} (h : n ≤ sizeLine) (q : ∀ p H2, H p = none → Kp [] H H2 → H2 p = some o → Q (.ref p) H2) : n ≤ sizeLine ∧ ∀ p, H p = none → Q (.ref p) (upd H p o) := ⟨h, h_new q⟩
theorem h_setL {QH : Hp → Prop} {k : Int} {j : Nat} (h : H p = some (.lst xs)) (e : ixN xs.length k = some j) (q : ∀ H2, Kp [p] H H2 → H2 p = some (.lst (xs.set j v)) → QH H2) : rSetL (.ref p) (.int k) v H QH :=
  g_setL h e (q _ (Kp.refl.wr (List.mem_singleton.mpr rfl)) upd_same)
theorem h_append (h : H p = some (.lst xs)) (hl : xs.length < sizeLine) (q : ∀ H2, Kp [p] H H2 → H2 p = some (.lst (xs ++ [y])) → Q .non H2) : rAppend (.ref p) [y] H Q :=
  ⟨p, xs, y, rfl, rfl, h, hl, q _ (Kp.refl.wr (List.mem_singleton.mpr rfl)) upd_same⟩
theorem g_bm {T : String} {r : V → List V → Hp → VK → Prop} (q : te σ H fun x H1 => tyV K T x H1 ∧ tl σ H1 fun xs H2 => r x xs H2 Q) : tBM K T r te tl σ H Q := q
theorem g_tyL {A : Prop} (h : SqL K H p xs) (q : A) : tyV K "list" (.ref p) H ∧ A := ⟨.inl ⟨rfl, xs, h⟩, q⟩
end
/-! ### one step by the head of what is to be shown -/
class Stp (goal : Prop) (new : outParam Prop) : Prop where
  imp : new → goal
class Getx (σ : St) (i : Nat) (v : outParam V) : Prop where
  get : σ[i]? = some (some v)
class Setx (σ : St) (i : Nat) (v : V) (σ' : outParam St) : Prop where
  set : σ.set i (some v) = σ'
instance gx0 {v : V} {r : List (Option V)} : Getx (some v :: r) 0 v := ⟨rfl⟩
instance sx0 {b : Option V} {v : V} {r : List (Option V)} : Setx (b :: r) 0 v (some v :: r) := ⟨rfl⟩
instance gx1 {a0 : Option V} {v : V} {r : List (Option V)} : Getx (a0 :: some v :: r) 1 v := ⟨rfl⟩
instance sx1 {a0 : Option V} {b : Option V} {v : V} {r : List (Option V)} : Setx (a0 :: b :: r) 1 v (a0 :: some v :: r) := ⟨rfl⟩
instance gx2 {a0 a1 : Option V} {v : V} {r : List (Option V)} : Getx (a0 :: a1 :: some v :: r) 2 v := ⟨rfl⟩
instance sx2 {a0 a1 : Option V} {b : Option V} {v : V} {r : List (Option V)} : Setx (a0 :: a1 :: b :: r) 2 v (a0 :: a1 :: some v :: r) := ⟨rfl⟩
instance gx3 {a0 a1 a2 : Option V} {v : V} {r : List (Option V)} : Getx (a0 :: a1 :: a2 :: some v :: r) 3 v := ⟨rfl⟩
instance sx3 {a0 a1 a2 : Option V} {b : Option V} {v : V} {r : List (Option V)} : Setx (a0 :: a1 :: a2 :: b :: r) 3 v (a0 :: a1 :: a2 :: some v :: r) := ⟨rfl⟩
instance gx4 {a0 a1 a2 a3 : Option V} {v : V} {r : List (Option V)} : Getx (a0 :: a1 :: a2 :: a3 :: some v :: r) 4 v := ⟨rfl⟩
instance sx4 {a0 a1 a2 a3 : Option V} {b : Option V} {v : V} {r : List (Option V)} : Setx (a0 :: a1 :: a2 :: a3 :: b :: r) 4 v (a0 :: a1 :: a2 :: a3 :: some v :: r) := ⟨rfl⟩
instance gx5 {a0 a1 a2 a3 a4 : Option V} {v : V} {r : List (Option V)} : Getx (a0 :: a1 :: a2 :: a3 :: a4 :: some v :: r) 5 v := ⟨rfl⟩
instance sx5 {a0 a1 a2 a3 a4 : Option V} {b : Option V} {v : V} {r : List (Option V)} : Setx (a0 :: a1 :: a2 :: a3 :: a4 :: b :: r) 5 v (a0 :: a1 :: a2 :: a3 :: a4 :: some v :: r) := ⟨rfl⟩
instance gx6 {a0 a1 a2 a3 a4 a5 : Option V} {v : V} {r : List (Option V)} : Getx (a0 :: a1 :: a2 :: a3 :: a4 :: a5 :: some v :: r) 6 v := ⟨rfl⟩
instance sx6 {a0 a1 a2 a3 a4 a5 : Option V} {b : Option V} {v : V} {r : List (Option V)} : Setx (a0 :: a1 :: a2 :: a3 :: a4 :: a5 :: b :: r) 6 v (a0 :: a1 :: a2 :: a3 :: a4 :: a5 :: some v :: r) := ⟨rfl⟩
instance gx7 {a0 a1 a2 a3 a4 a5 a6 : Option V} {v : V} {r : List (Option V)} : Getx (a0 :: a1 :: a2 :: a3 :: a4 :: a5 :: a6 :: some v :: r) 7 v := ⟨rfl⟩
instance sx7 {a0 a1 a2 a3 a4 a5 a6 : Option V} {b : Option V} {v : V} {r : List (Option V)} : Setx (a0 :: a1 :: a2 :: a3 :: a4 :: a5 :: a6 :: b :: r) 7 v (a0 :: a1 :: a2 :: a3 :: a4 :: a5 :: a6 :: some v :: r) := ⟨rfl⟩
instance gx8 {a0 a1 a2 a3 a4 a5 a6 a7 : Option V} {v : V} {r : List (Option V)} : Getx (a0 :: a1 :: a2 :: a3 :: a4 :: a5 :: a6 :: a7 :: some v :: r) 8 v := ⟨rfl⟩
instance sx8 {a0 a1 a2 a3 a4 a5 a6 a7 : Option V} {b : Option V} {v : V} {r : List (Option V)} : Setx (a0 :: a1 :: a2 :: a3 :: a4 :: a5 :: a6 :: a7 :: b :: r) 8 v (a0 :: a1 :: a2 :: a3 :: a4 :: a5 :: a6 :: a7 :: some v :: r) := ⟨rfl⟩
instance gx9 {a0 a1 a2 a3 a4 a5 a6 a7 a8 : Option V} {v : V} {r : List (Option V)} : Getx (a0 :: a1 :: a2 :: a3 :: a4 :: a5 :: a6 :: a7 :: a8 :: some v :: r) 9 v := ⟨rfl⟩
instance sx9 {a0 a1 a2 a3 a4 a5 a6 a7 a8 : Option V} {b : Option V} {v : V} {r : List (Option V)} : Setx (a0 :: a1 :: a2 :: a3 :: a4 :: a5 :: a6 :: a7 :: a8 :: b :: r) 9 v (a0 :: a1 :: a2 :: a3 :: a4 :: a5 :: a6 :: a7 :: a8 :: some v :: r) := ⟨rfl⟩
instance gx10 {a0 a1 a2 a3 a4 a5 a6 a7 a8 a9 : Option V} {v : V} {r : List (Option V)} : Getx (a0 :: a1 :: a2 :: a3 :: a4 :: a5 :: a6 :: a7 :: a8 :: a9 :: some v :: r) 10 v := ⟨rfl⟩
instance sx10 {a0 a1 a2 a3 a4 a5 a6 a7 a8 a9 : Option V} {b : Option V} {v : V} {r : List (Option V)} : Setx (a0 :: a1 :: a2 :: a3 :: a4 :: a5 :: a6 :: a7 :: a8 :: a9 :: b :: r) 10 v (a0 :: a1 :: a2 :: a3 :: a4 :: a5 :: a6 :: a7 :: a8 :: a9 :: some v :: r) := ⟨rfl⟩
instance gx11 {a0 a1 a2 a3 a4 a5 a6 a7 a8 a9 a10 : Option V} {v : V} {r : List (Option V)} : Getx (a0 :: a1 :: a2 :: a3 :: a4 :: a5 :: a6 :: a7 :: a8 :: a9 :: a10 :: some v :: r) 11 v := ⟨rfl⟩
instance sx11 {a0 a1 a2 a3 a4 a5 a6 a7 a8 a9 a10 : Option V} {b : Option V} {v : V} {r : List (Option V)} : Setx (a0 :: a1 :: a2 :: a3 :: a4 :: a5 :: a6 :: a7 :: a8 :: a9 :: a10 :: b :: r) 11 v (a0 :: a1 :: a2 :: a3 :: a4 :: a5 :: a6 :: a7 :: a8 :: a9 :: a10 :: some v :: r) := ⟨rfl⟩
instance gx12 {a0 a1 a2 a3 a4 a5 a6 a7 a8 a9 a10 a11 : Option V} {v : V} {r : List (Option V)} : Getx (a0 :: a1 :: a2 :: a3 :: a4 :: a5 :: a6 :: a7 :: a8 :: a9 :: a10 :: a11 :: some v :: r) 12 v := ⟨rfl⟩
instance sx12 {a0 a1 a2 a3 a4 a5 a6 a7 a8 a9 a10 a11 : Option V} {b : Option V} {v : V} {r : List (Option V)} : Setx (a0 :: a1 :: a2 :: a3 :: a4 :: a5 :: a6 :: a7 :: a8 :: a9 :: a10 :: a11 :: b :: r) 12 v (a0 :: a1 :: a2 :: a3 :: a4 :: a5 :: a6 :: a7 :: a8 :: a9 :: a10 :: a11 :: some v :: r) := ⟨rfl⟩
instance gx13 {a0 a1 a2 a3 a4 a5 a6 a7 a8 a9 a10 a11 a12 : Option V} {v : V} {r : List (Option V)} : Getx (a0 :: a1 :: a2 :: a3 :: a4 :: a5 :: a6 :: a7 :: a8 :: a9 :: a10 :: a11 :: a12 :: some v :: r) 13 v := ⟨rfl⟩
instance sx13 {a0 a1 a2 a3 a4 a5 a6 a7 a8 a9 a10 a11 a12 : Option V} {b : Option V} {v : V} {r : List (Option V)} : Setx (a0 :: a1 :: a2 :: a3 :: a4 :: a5 :: a6 :: a7 :: a8 :: a9 :: a10 :: a11 :: a12 :: b :: r) 13 v (a0 :: a1 :: a2 :: a3 :: a4 :: a5 :: a6 :: a7 :: a8 :: a9 :: a10 :: a11 :: a12 :: some v :: r) := ⟨rfl⟩
instance gx14 {a0 a1 a2 a3 a4 a5 a6 a7 a8 a9 a10 a11 a12 a13 : Option V} {v : V} {r : List (Option V)} : Getx (a0 :: a1 :: a2 :: a3 :: a4 :: a5 :: a6 :: a7 :: a8 :: a9 :: a10 :: a11 :: a12 :: a13 :: some v :: r) 14 v := ⟨rfl⟩
instance sx14 {a0 a1 a2 a3 a4 a5 a6 a7 a8 a9 a10 a11 a12 a13 : Option V} {b : Option V} {v : V} {r : List (Option V)} : Setx (a0 :: a1 :: a2 :: a3 :: a4 :: a5 :: a6 :: a7 :: a8 :: a9 :: a10 :: a11 :: a12 :: a13 :: b :: r) 14 v (a0 :: a1 :: a2 :: a3 :: a4 :: a5 :: a6 :: a7 :: a8 :: a9 :: a10 :: a11 :: a12 :: a13 :: some v :: r) := ⟨rfl⟩
instance gx15 {a0 a1 a2 a3 a4 a5 a6 a7 a8 a9 a10 a11 a12 a13 a14 : Option V} {v : V} {r : List (Option V)} : Getx (a0 :: a1 :: a2 :: a3 :: a4 :: a5 :: a6 :: a7 :: a8 :: a9 :: a10 :: a11 :: a12 :: a13 :: a14 :: some v :: r) 15 v := ⟨rfl⟩
instance sx15 {a0 a1 a2 a3 a4 a5 a6 a7 a8 a9 a10 a11 a12 a13 a14 : Option V} {b : Option V} {v : V} {r : List (Option V)} : Setx (a0 :: a1 :: a2 :: a3 :: a4 :: a5 :: a6 :: a7 :: a8 :: a9 :: a10 :: a11 :: a12 :: a13 :: a14 :: b :: r) 15 v (a0 :: a1 :: a2 :: a3 :: a4 :: a5 :: a6 :: a7 :: a8 :: a9 :: a10 :: a11 :: a12 :: a13 :: a14 :: some v :: r) := ⟨rfl⟩
instance gx16 {a0 a1 a2 a3 a4 a5 a6 a7 a8 a9 a10 a11 a12 a13 a14 a15 : Option V} {v : V} {r : List (Option V)} : Getx (a0 :: a1 :: a2 :: a3 :: a4 :: a5 :: a6 :: a7 :: a8 :: a9 :: a10 :: a11 :: a12 :: a13 :: a14 :: a15 :: some v :: r) 16 v := ⟨rfl⟩
instance sx16 {a0 a1 a2 a3 a4 a5 a6 a7 a8 a9 a10 a11 a12 a13 a14 a15 : Option V} {b : Option V} {v : V} {r : List (Option V)} : Setx (a0 :: a1 :: a2 :: a3 :: a4 :: a5 :: a6 :: a7 :: a8 :: a9 :: a10 :: a11 :: a12 :: a13 :: a14 :: a15 :: b :: r) 16 v (a0 :: a1 :: a2 :: a3 :: a4 :: a5 :: a6 :: a7 :: a8 :: a9 :: a10 :: a11 :: a12 :: a13 :: a14 :: a15 :: some v :: r) := ⟨rfl⟩
instance gx17 {a0 a1 a2 a3 a4 a5 a6 a7 a8 a9 a10 a11 a12 a13 a14 a15 a16 : Option V} {v : V} {r : List (Option V)} : Getx (a0 :: a1 :: a2 :: a3 :: a4 :: a5 :: a6 :: a7 :: a8 :: a9 :: a10 :: a11 :: a12 :: a13 :: a14 :: a15 :: a16 :: some v :: r) 17 v := ⟨rfl⟩
instance sx17 {a0 a1 a2 a3 a4 a5 a6 a7 a8 a9 a10 a11 a12 a13 a14 a15 a16 : Option V} {b : Option V} {v : V} {r : List (Option V)} : Setx (a0 :: a1 :: a2 :: a3 :: a4 :: a5 :: a6 :: a7 :: a8 :: a9 :: a10 :: a11 :: a12 :: a13 :: a14 :: a15 :: a16 :: b :: r) 17 v (a0 :: a1 :: a2 :: a3 :: a4 :: a5 :: a6 :: a7 :: a8 :: a9 :: a10 :: a11 :: a12 :: a13 :: a14 :: a15 :: a16 :: some v :: r) := ⟨rfl⟩
instance gx18 {a0 a1 a2 a3 a4 a5 a6 a7 a8 a9 a10 a11 a12 a13 a14 a15 a16 a17 : Option V} {v : V} {r : List (Option V)} : Getx (a0 :: a1 :: a2 :: a3 :: a4 :: a5 :: a6 :: a7 :: a8 :: a9 :: a10 :: a11 :: a12 :: a13 :: a14 :: a15 :: a16 :: a17 :: some v :: r) 18 v := ⟨rfl⟩
instance sx18 {a0 a1 a2 a3 a4 a5 a6 a7 a8 a9 a10 a11 a12 a13 a14 a15 a16 a17 : Option V} {b : Option V} {v : V} {r : List (Option V)} : Setx (a0 :: a1 :: a2 :: a3 :: a4 :: a5 :: a6 :: a7 :: a8 :: a9 :: a10 :: a11 :: a12 :: a13 :: a14 :: a15 :: a16 :: a17 :: b :: r) 18 v (a0 :: a1 :: a2 :: a3 :: a4 :: a5 :: a6 :: a7 :: a8 :: a9 :: a10 :: a11 :: a12 :: a13 :: a14 :: a15 :: a16 :: a17 :: some v :: r) := ⟨rfl⟩
instance gx19 {a0 a1 a2 a3 a4 a5 a6 a7 a8 a9 a10 a11 a12 a13 a14 a15 a16 a17 a18 : Option V} {v : V} {r : List (Option V)} : Getx (a0 :: a1 :: a2 :: a3 :: a4 :: a5 :: a6 :: a7 :: a8 :: a9 :: a10 :: a11 :: a12 :: a13 :: a14 :: a15 :: a16 :: a17 :: a18 :: some v :: r) 19 v := ⟨rfl⟩
instance sx19 {a0 a1 a2 a3 a4 a5 a6 a7 a8 a9 a10 a11 a12 a13 a14 a15 a16 a17 a18 : Option V} {b : Option V} {v : V} {r : List (Option V)} : Setx (a0 :: a1 :: a2 :: a3 :: a4 :: a5 :: a6 :: a7 :: a8 :: a9 :: a10 :: a11 :: a12 :: a13 :: a14 :: a15 :: a16 :: a17 :: a18 :: b :: r) 19 v (a0 :: a1 :: a2 :: a3 :: a4 :: a5 :: a6 :: a7 :: a8 :: a9 :: a10 :: a11 :: a12 :: a13 :: a14 :: a15 :: a16 :: a17 :: a18 :: some v :: r) := ⟨rfl⟩
instance gx20 {a0 a1 a2 a3 a4 a5 a6 a7 a8 a9 a10 a11 a12 a13 a14 a15 a16 a17 a18 a19 : Option V} {v : V} {r : List (Option V)} : Getx (a0 :: a1 :: a2 :: a3 :: a4 :: a5 :: a6 :: a7 :: a8 :: a9 :: a10 :: a11 :: a12 :: a13 :: a14 :: a15 :: a16 :: a17 :: a18 :: a19 :: some v :: r) 20 v := ⟨rfl⟩
instance sx20 {a0 a1 a2 a3 a4 a5 a6 a7 a8 a9 a10 a11 a12 a13 a14 a15 a16 a17 a18 a19 : Option V} {b : Option V} {v : V} {r : List (Option V)} : Setx (a0 :: a1 :: a2 :: a3 :: a4 :: a5 :: a6 :: a7 :: a8 :: a9 :: a10 :: a11 :: a12 :: a13 :: a14 :: a15 :: a16 :: a17 :: a18 :: a19 :: b :: r) 20 v (a0 :: a1 :: a2 :: a3 :: a4 :: a5 :: a6 :: a7 :: a8 :: a9 :: a10 :: a11 :: a12 :: a13 :: a14 :: a15 :: a16 :: a17 :: a18 :: a19 :: some v :: r) := ⟨rfl⟩
instance gx21 {a0 a1 a2 a3 a4 a5 a6 a7 a8 a9 a10 a11 a12 a13 a14 a15 a16 a17 a18 a19 a20 : Option V} {v : V} {r : List (Option V)} : Getx (a0 :: a1 :: a2 :: a3 :: a4 :: a5 :: a6 :: a7 :: a8 :: a9 :: a10 :: a11 :: a12 :: a13 :: a14 :: a15 :: a16 :: a17 :: a18 :: a19 :: a20 :: some v :: r) 21 v := ⟨rfl⟩
instance sx21 {a0 a1 a2 a3 a4 a5 a6 a7 a8 a9 a10 a11 a12 a13 a14 a15 a16 a17 a18 a19 a20 : Option V} {b : Option V} {v : V} {r : List (Option V)} : Setx (a0 :: a1 :: a2 :: a3 :: a4 :: a5 :: a6 :: a7 :: a8 :: a9 :: a10 :: a11 :: a12 :: a13 :: a14 :: a15 :: a16 :: a17 :: a18 :: a19 :: a20 :: b :: r) 21 v (a0 :: a1 :: a2 :: a3 :: a4 :: a5 :: a6 :: a7 :: a8 :: a9 :: a10 :: a11 :: a12 :: a13 :: a14 :: a15 :: a16 :: a17 :: a18 :: a19 :: a20 :: some v :: r) := ⟨rfl⟩
instance gx22 {a0 a1 a2 a3 a4 a5 a6 a7 a8 a9 a10 a11 a12 a13 a14 a15 a16 a17 a18 a19 a20 a21 : Option V} {v : V} {r : List (Option V)} : Getx (a0 :: a1 :: a2 :: a3 :: a4 :: a5 :: a6 :: a7 :: a8 :: a9 :: a10 :: a11 :: a12 :: a13 :: a14 :: a15 :: a16 :: a17 :: a18 :: a19 :: a20 :: a21 :: some v :: r) 22 v := ⟨rfl⟩
instance sx22 {a0 a1 a2 a3 a4 a5 a6 a7 a8 a9 a10 a11 a12 a13 a14 a15 a16 a17 a18 a19 a20 a21 : Option V} {b : Option V} {v : V} {r : List (Option V)} : Setx (a0 :: a1 :: a2 :: a3 :: a4 :: a5 :: a6 :: a7 :: a8 :: a9 :: a10 :: a11 :: a12 :: a13 :: a14 :: a15 :: a16 :: a17 :: a18 :: a19 :: a20 :: a21 :: b :: r) 22 v (a0 :: a1 :: a2 :: a3 :: a4 :: a5 :: a6 :: a7 :: a8 :: a9 :: a10 :: a11 :: a12 :: a13 :: a14 :: a15 :: a16 :: a17 :: a18 :: a19 :: a20 :: a21 :: some v :: r) := ⟨rfl⟩
instance gx23 {a0 a1 a2 a3 a4 a5 a6 a7 a8 a9 a10 a11 a12 a13 a14 a15 a16 a17 a18 a19 a20 a21 a22 : Option V} {v : V} {r : List (Option V)} : Getx (a0 :: a1 :: a2 :: a3 :: a4 :: a5 :: a6 :: a7 :: a8 :: a9 :: a10 :: a11 :: a12 :: a13 :: a14 :: a15 :: a16 :: a17 :: a18 :: a19 :: a20 :: a21 :: a22 :: some v :: r) 23 v := ⟨rfl⟩
instance sx23 {a0 a1 a2 a3 a4 a5 a6 a7 a8 a9 a10 a11 a12 a13 a14 a15 a16 a17 a18 a19 a20 a21 a22 : Option V} {b : Option V} {v : V} {r : List (Option V)} : Setx (a0 :: a1 :: a2 :: a3 :: a4 :: a5 :: a6 :: a7 :: a8 :: a9 :: a10 :: a11 :: a12 :: a13 :: a14 :: a15 :: a16 :: a17 :: a18 :: a19 :: a20 :: a21 :: a22 :: b :: r) 23 v (a0 :: a1 :: a2 :: a3 :: a4 :: a5 :: a6 :: a7 :: a8 :: a9 :: a10 :: a11 :: a12 :: a13 :: a14 :: a15 :: a16 :: a17 :: a18 :: a19 :: a20 :: a21 :: a22 :: some v :: r) := ⟨rfl⟩
section
variable {σ σ' : St} {H : Hp} {Q : VK} {QB : Bool → Hp → Prop} {QA : List V → Hp → Prop} {v x y : V} {i j : Nat} {a b : Int} {ta tb te : TE} {t u : TT} {D : Ends} {s1 s2 s3 : TS} {tl tr : TA} {r : R2} {K : PySem.W.Frag} {p : Addr} {xs ys : List V} {rc : RCl} {c : Bool} {wi : TI} {g : TG}
class NotIf (s : TS) : Prop where
  ok : True
instance ni_asg : NotIf (tAsg te g) := ⟨trivial⟩
instance ni_drop : NotIf (tDrop te) := ⟨trivial⟩
instance ni_ret : NotIf (tRet te) := ⟨trivial⟩
instance ni_retN : NotIf (tRetN) := ⟨trivial⟩
instance ni_for : NotIf (tFor wi g s1) := ⟨trivial⟩
instance ni_while : NotIf (tWhile t s1) := ⟨trivial⟩
instance ni_next : NotIf (tNext) := ⟨trivial⟩
instance ni_aug {ti : TIp} : NotIf (tAug i te ti) := ⟨trivial⟩
instance ni_par : NotIf (tPar i j tl) := ⟨trivial⟩
instance ni_seq : NotIf (tSeq s1 s2) := ⟨trivial⟩
instance ni_never : NotIf (tNever) := ⟨trivial⟩
instance ni_fld {f : Str} : NotIf (sFld K ta te f) := ⟨trivial⟩
instance ni_brk : NotIf (tBreak) := ⟨trivial⟩
instance ni_ct : NotIf (tCont) := ⟨trivial⟩
instance p_seq [NotIf s1] : Stp (tSeq s1 s2 D σ H) (s1 { D with nx := s2 D } σ H) := ⟨fun q => q⟩
instance p_asg : Stp (tAsg te g D σ H) (te σ H fun x H1 => g x σ H1 D.nx) := ⟨fun q => q⟩
instance p_drop : Stp (tDrop te D σ H) (te σ H fun _ H1 => D.nx σ H1) := ⟨fun q => q⟩
instance p_ret : Stp (tRet te D σ H) (te σ H D.rt) := ⟨fun q => q⟩
instance p_retN : Stp (tRetN D σ H) (D.rt .non H) := ⟨fun q => q⟩
instance p_next : Stp (tNext D σ H) (D.nx σ H) := ⟨fun q => q⟩
instance p_brk : Stp (tBreak D σ H) (D.bk σ H) := ⟨fun q => q⟩
instance p_ct : Stp (tCont D σ H) (D.ct σ H) := ⟨fun q => q⟩
instance p_ifS : Stp (tIfS t s1 s2 D σ H) (t σ H fun b H1 => if b = true then s1 D σ H1 else s2 D σ H1) := ⟨fun q => q⟩
instance p_name {QS : St → Hp → Prop} [S : Setx σ i v σ'] : Stp (gName i v σ H QS) (QS σ' H) := ⟨fun q => by have e := S.set; subst e; exact q⟩
instance p_sub {to ti : TE} {ts : TSet} {QS : St → Hp → Prop} : Stp (gSub to ti ts v σ H QS) (to σ H fun o H1 => ti σ H1 fun i H2 => ts o i v H2 fun H3 => QS σ H3) := ⟨fun q => q⟩
instance p_aug {ti : TIp} [G : Getx σ i x] : Stp (tAug i te ti D σ H) (te σ H fun y H1 => ti x y H1 fun z H2 => D.nx (σ.set i (some z)) H2) := ⟨fun q => ⟨x, G.get, q⟩⟩
instance p_ipI {f : Int → Int → Int} : Stp (ipI f (.int a) (.int b) H Q) (Q (.int (f a b)) H) := ⟨fun q => ⟨a, b, rfl, rfl, q⟩⟩
instance p_par : Stp (tPar i j tl D σ H) (tl σ H fun vs H1 => ∃ v w, vs = [v, w] ∧ D.nx ((σ.set i (some v)).set j (some w)) H1) := ⟨fun q => q⟩
instance p_var [G : Getx σ i v] : Stp (tVar i σ H Q) (Q v H) := ⟨fun q => ⟨v, G.get, q⟩⟩
instance p_c : Stp (tC v σ H Q) (Q v H) := ⟨fun q => q⟩
instance p_op : Stp (tOp r ta tb σ H Q) (ta σ H fun x H1 => tb σ H1 fun y H2 => r x y H2 Q) := ⟨fun q => q⟩
instance p_un {r : V → Hp → VK → Prop} : Stp (tUn r ta σ H Q) (ta σ H fun x H1 => r x H1 Q) := ⟨fun q => q⟩
instance p_neg : Stp (rU (fun i => .int (-i)) (.int a) H Q) (Q (.int (-a)) H) := ⟨fun q => ⟨a, rfl, q⟩⟩
instance p_I0 {g : Int → Int → V} : Stp (rI0 g (.int a) (.int b) H Q) (Q (g a b) H) := ⟨fun q => ⟨a, b, rfl, rfl, q⟩⟩
instance p_eqI : Stp (rEq (.int a) (.int b) H Q) (Q (.bl (decide (a = b))) H) := ⟨g_eqI⟩
instance p_neI : Stp (rNe (.int a) (.int b) H Q) (Q (.bl (!decide (a = b))) H) := ⟨g_neI⟩
instance p_test : Stp (tTest te σ H QB) (te σ H fun x H1 => ∃ k, x = .bl k ∧ QB k H1) := ⟨fun q => q⟩
instance p_tb : Stp (tB te σ H QB) (te σ H fun x H1 => ∃ k, x = .bl k ∧ QB k H1) := ⟨fun q => q⟩
instance p_bl {b : Bool} {P : Bool → Prop} : Stp (∃ k, V.bl b = .bl k ∧ P k) (P b) := ⟨fun q => ⟨b, rfl, q⟩⟩
instance p_int {P : Int → Prop} : Stp (∃ k, V.int a = .int k ∧ P k) (P a) := ⟨fun q => ⟨a, rfl, q⟩⟩
instance p_vw {P : V → V → Prop} : Stp (∃ v w, [x, y] = [v, w] ∧ P v w) (P x y) := ⟨fun q => ⟨x, y, rfl, q⟩⟩
instance p_and : Stp (tAnd t u σ H QB) (t σ H fun c H1 => if c = true then u σ H1 QB else QB false H1) := ⟨fun q => q⟩
instance p_or : Stp (tOr t u σ H QB) (t σ H fun c H1 => if c = true then QB true H1 else u σ H1 QB) := ⟨fun q => q⟩
instance p_not : Stp (tNot t σ H QB) (t σ H fun c H1 => QB (!c) H1) := ⟨fun q => q⟩
instance p_andV : Stp (tAndV ta tb σ H Q) (ta σ H fun x H1 => ∃ c, x = .bl c ∧ if c = true then tb σ H1 Q else Q (.bl false) H1) := ⟨fun q => q⟩
instance p_orV : Stp (tOrV ta tb σ H Q) (ta σ H fun x H1 => ∃ c, x = .bl c ∧ if c = true then Q (.bl true) H1 else tb σ H1 Q) := ⟨fun q => q⟩
instance p_notV : Stp (tNotV ta σ H Q) (ta σ H fun x H1 => ∃ c, x = .bl c ∧ Q (.bl (!c)) H1) := ⟨fun q => q⟩
instance p_if : Stp (tIf t ta tb σ H Q) (t σ H fun c H1 => if c = true then ta σ H1 Q else tb σ H1 Q) := ⟨fun q => q⟩
instance p_nil : Stp (tNil σ H QA) (QA [] H) := ⟨fun q => q⟩
instance p_cons : Stp (tCons te tr σ H QA) (te σ H fun x H1 => tr σ H1 fun xs H2 => QA (x :: xs) H2) := ⟨fun q => q⟩
instance p_tup : Stp (tTup tl σ H Q) (tl σ H fun xs H1 => xs.length ≤ sizeLine ∧ ∀ p, H1 p = none → Q (.ref p) (upd H1 p (.tup xs))) := ⟨fun q => q⟩
instance p_lst : Stp (tLst tl σ H Q) (tl σ H fun xs H1 => xs.length ≤ sizeLine ∧ ∀ p, H1 p = none → Q (.ref p) (upd H1 p (.lst xs))) := ⟨fun q => q⟩
instance p_cb : Stp (tCB rc tl σ H Q) (tl σ H fun vs H1 => rc vs H1 Q) := ⟨fun q => q⟩
instance p_max2 : Stp (rMax2 [.int a, .int b] H Q) (Q (.int (if b > a then b else a)) H) := ⟨fun q => ⟨a, b, rfl, q⟩⟩
instance p_min2 : Stp (rMin2 [.int a, .int b] H Q) (Q (.int (if b < a then b else a)) H) := ⟨fun q => ⟨a, b, rfl, q⟩⟩
instance p_abs : Stp (rAbs [.int a] H Q) (Q (.int (if a < 0 then -a else a)) H) := ⟨fun q => ⟨a, rfl, q⟩⟩
instance p_int1b : Stp (rInt1 [.bl c] H Q) (Q (.int (if c then 1 else 0)) H) := ⟨fun q => .inr ⟨c, rfl, q⟩⟩
instance p_int1i : Stp (rInt1 [.int a] H Q) (Q (.int a) H) := ⟨fun q => .inl ⟨a, rfl, q⟩⟩
instance p_isN : Stp (rIsN x .non H Q) (Q (.bl (decide (x = .non))) H) := ⟨fun q => ⟨rfl, q⟩⟩
instance p_notN : Stp (rNotN x .non H Q) (Q (.bl (!decide (x = .non))) H) := ⟨fun q => ⟨rfl, q⟩⟩
instance p_sl {r : V → Option Int → Option Int → Hp → VK → Prop} {lo hi : TO} : Stp (tSl r te lo hi σ H Q) (te σ H fun x H1 => lo σ H1 fun l H2 => hi σ H2 fun u H3 => r x l u H3 Q) := ⟨fun q => q⟩
instance p_nopart {QO : Option Int → Hp → Prop} : Stp (tNoPart σ H QO) (QO none H) := ⟨fun q => q⟩
instance p_part {QO : Option Int → Hp → Prop} : Stp (tPart te σ H QO) (te σ H fun x H1 => ∃ i, x = .int i ∧ QO (some i) H1) := ⟨fun q => q⟩
instance p_call {sp : Sp} {dvs : List V} {E : XK} : Stp (tCall sp dvs E tl σ H Q) (tl σ H fun vs H1 => sp (vs ++ dvs) H1 Q E) := ⟨fun q => q⟩
instance p_callP {n : Nat} {pi : List Nat} {sp : Sp} {E : XK} : Stp (tCallP n pi sp E tl σ H Q) (tl σ H fun zs H2 => zs.length = n ∧ sp (perm pi zs) H2 Q E) := ⟨fun q => q⟩
instance p_for {tb : TS} : Stp (tFor wi g tb D σ H) (wi σ H fun J H1 => ∃ W : Nat → Nat → St → Hp → Prop, (∃ m, W 0 m σ H1) ∧ ∀ i m σ H, W i m σ H →
  (J.stop i H ∧ D.nx σ H) ∨ (J.go i H ∧ ∃ N : St → Hp → Prop, (∀ σ' H', N σ' H' → ∃ m', m' < m ∧ W (i + 1) m' σ' H') ∧ ∀ x H', J.yld i H x H' → g x σ H' fun σ2 H2 => tb { D with nx := N, ct := N, bk := D.nx } σ2 H2)) := ⟨fun q => q⟩
instance p_iList {R : It → Hp → Prop} : Stp (iList K te σ H R) (te σ H fun x H1 => ∃ a, x = .ref a ∧ (∃ xs, SqL K H1 a xs) ∧ R (Itl K a) H1) := ⟨fun q => q⟩
instance p_iRng1 {R : It → Hp → Prop} : Stp (iRng1 tl σ H R) (tl σ H fun vs H1 => ∃ j : Int, vs = [.int j] ∧ -(2 ^ 62) ≤ j ∧ j < 2 ^ 62 ∧ R (Itr 0 j.toNat) H1) := ⟨fun q => q⟩
instance p_iRng2 {R : It → Hp → Prop} : Stp (iRng2 tl σ H R) (tl σ H fun vs H1 => ∃ i j : Int, vs = [.int i, .int j] ∧ (-(2 ^ 62) ≤ i ∧ i < 2 ^ 62 ∧ -(2 ^ 62) ≤ j ∧ j < 2 ^ 62) ∧ R (Itr i (j - i).toNat) H1) := ⟨fun q => q⟩
instance p_lc {tt : TT} {vs : List Nat} : Stp (tLc wi g tt te vs σ H Q) (wi σ H fun J H1 => ∀ D, H1 D = none → ∃ W : Nat → Nat → Hp → Prop, (∃ m, W 0 m (upd H1 D (.lst []))) ∧ ∀ i m H, W i m H →
  (J.stop i H ∧ Q (.ref D) H) ∨ (J.go i H ∧ ∃ Nx : Hp → Prop, (∀ H', Nx H' → ∃ m', m' < m ∧ W (i + 1) m' H') ∧ ∀ x H', J.yld i H x H' → g x (wipe σ vs) H' fun σ2 H2 => wipe σ2 vs = wipe σ vs ∧ tt σ2 H2 fun b H3 =>
    if b = true then te σ2 H3 fun y H4 => ∃ acc, H4 D = some (.lst acc) ∧ acc.length < sizeLine ∧ Nx (upd H4 D (.lst (acc ++ [y]))) else Nx H3)) := ⟨fun q => q⟩
instance p_yes : Stp (tYes σ H QB) (QB true H) := ⟨fun q => q⟩
instance p_itT {A B : Prop} : Stp (if true = true then A else B) A := ⟨fun q => q⟩
instance p_itF {A B : Prop} : Stp (if false = true then A else B) B := ⟨fun q => q⟩
instance p_itNT {A B : Prop} : Stp (if (!true) = true then A else B) B := ⟨fun q => q⟩
instance p_itNF {A B : Prop} : Stp (if (!false) = true then A else B) A := ⟨fun q => q⟩
instance p_bm {T : String} {r : V → List V → Hp → VK → Prop} : Stp (tBM K T r te tl σ H Q) (te σ H fun x H1 => tyV K T x H1 ∧ tl σ H1 fun xs H2 => r x xs H2 Q) := ⟨fun q => q⟩
end
/-- behind S-steps a T-step: what T writes is S's or new -/
theorem Kp.step {S T : List Addr} {H H1 H2 : Hp} (a : Kp S H H1) (b : Kp T H1 H2) (h : ∀ x ∈ T, x ∈ S ∨ H x = none) : Kp S H H2 := fun c o e n => b c o (a c o e n) fun z => by
  rcases h c z with q | q
  · exact n q
  · rw [q] at e; cases e
theorem set_0 {α : Type} {a0 v : α} {r : List α} : (a0 :: r).set 0 v = v :: r := rfl
theorem set_1 {α : Type} {a0 a1 v : α} {r : List α} : (a0 :: a1 :: r).set 1 v = a0 :: v :: r := rfl
theorem set_2 {α : Type} {a0 a1 a2 v : α} {r : List α} : (a0 :: a1 :: a2 :: r).set 2 v = a0 :: a1 :: v :: r := rfl
theorem set_3 {α : Type} {a0 a1 a2 a3 v : α} {r : List α} : (a0 :: a1 :: a2 :: a3 :: r).set 3 v = a0 :: a1 :: a2 :: v :: r := rfl
theorem set_4 {α : Type} {a0 a1 a2 a3 a4 v : α} {r : List α} : (a0 :: a1 :: a2 :: a3 :: a4 :: r).set 4 v = a0 :: a1 :: a2 :: a3 :: v :: r := rfl
theorem set_5 {α : Type} {a0 a1 a2 a3 a4 a5 v : α} {r : List α} : (a0 :: a1 :: a2 :: a3 :: a4 :: a5 :: r).set 5 v = a0 :: a1 :: a2 :: a3 :: a4 :: v :: r := rfl
theorem set_6 {α : Type} {a0 a1 a2 a3 a4 a5 a6 v : α} {r : List α} : (a0 :: a1 :: a2 :: a3 :: a4 :: a5 :: a6 :: r).set 6 v = a0 :: a1 :: a2 :: a3 :: a4 :: a5 :: v :: r := rfl
theorem set_7 {α : Type} {a0 a1 a2 a3 a4 a5 a6 a7 v : α} {r : List α} : (a0 :: a1 :: a2 :: a3 :: a4 :: a5 :: a6 :: a7 :: r).set 7 v = a0 :: a1 :: a2 :: a3 :: a4 :: a5 :: a6 :: v :: r := rfl
theorem set_8 {α : Type} {a0 a1 a2 a3 a4 a5 a6 a7 a8 v : α} {r : List α} : (a0 :: a1 :: a2 :: a3 :: a4 :: a5 :: a6 :: a7 :: a8 :: r).set 8 v = a0 :: a1 :: a2 :: a3 :: a4 :: a5 :: a6 :: a7 :: v :: r := rfl
theorem set_9 {α : Type} {a0 a1 a2 a3 a4 a5 a6 a7 a8 a9 v : α} {r : List α} : (a0 :: a1 :: a2 :: a3 :: a4 :: a5 :: a6 :: a7 :: a8 :: a9 :: r).set 9 v = a0 :: a1 :: a2 :: a3 :: a4 :: a5 :: a6 :: a7 :: a8 :: v :: r := rfl
theorem set_10 {α : Type} {a0 a1 a2 a3 a4 a5 a6 a7 a8 a9 a10 v : α} {r : List α} : (a0 :: a1 :: a2 :: a3 :: a4 :: a5 :: a6 :: a7 :: a8 :: a9 :: a10 :: r).set 10 v = a0 :: a1 :: a2 :: a3 :: a4 :: a5 :: a6 :: a7 :: a8 :: a9 :: v :: r := rfl
theorem set_11 {α : Type} {a0 a1 a2 a3 a4 a5 a6 a7 a8 a9 a10 a11 v : α} {r : List α} : (a0 :: a1 :: a2 :: a3 :: a4 :: a5 :: a6 :: a7 :: a8 :: a9 :: a10 :: a11 :: r).set 11 v = a0 :: a1 :: a2 :: a3 :: a4 :: a5 :: a6 :: a7 :: a8 :: a9 :: a10 :: v :: r := rfl
theorem set_12 {α : Type} {a0 a1 a2 a3 a4 a5 a6 a7 a8 a9 a10 a11 a12 v : α} {r : List α} : (a0 :: a1 :: a2 :: a3 :: a4 :: a5 :: a6 :: a7 :: a8 :: a9 :: a10 :: a11 :: a12 :: r).set 12 v = a0 :: a1 :: a2 :: a3 :: a4 :: a5 :: a6 :: a7 :: a8 :: a9 :: a10 :: a11 :: v :: r := rfl
theorem set_13 {α : Type} {a0 a1 a2 a3 a4 a5 a6 a7 a8 a9 a10 a11 a12 a13 v : α} {r : List α} : (a0 :: a1 :: a2 :: a3 :: a4 :: a5 :: a6 :: a7 :: a8 :: a9 :: a10 :: a11 :: a12 :: a13 :: r).set 13 v = a0 :: a1 :: a2 :: a3 :: a4 :: a5 :: a6 :: a7 :: a8 :: a9 :: a10 :: a11 :: a12 :: v :: r := rfl
theorem set_14 {α : Type} {a0 a1 a2 a3 a4 a5 a6 a7 a8 a9 a10 a11 a12 a13 a14 v : α} {r : List α} : (a0 :: a1 :: a2 :: a3 :: a4 :: a5 :: a6 :: a7 :: a8 :: a9 :: a10 :: a11 :: a12 :: a13 :: a14 :: r).set 14 v = a0 :: a1 :: a2 :: a3 :: a4 :: a5 :: a6 :: a7 :: a8 :: a9 :: a10 :: a11 :: a12 :: a13 :: v :: r := rfl
theorem set_15 {α : Type} {a0 a1 a2 a3 a4 a5 a6 a7 a8 a9 a10 a11 a12 a13 a14 a15 v : α} {r : List α} : (a0 :: a1 :: a2 :: a3 :: a4 :: a5 :: a6 :: a7 :: a8 :: a9 :: a10 :: a11 :: a12 :: a13 :: a14 :: a15 :: r).set 15 v = a0 :: a1 :: a2 :: a3 :: a4 :: a5 :: a6 :: a7 :: a8 :: a9 :: a10 :: a11 :: a12 :: a13 :: a14 :: v :: r := rfl
theorem set_16 {α : Type} {a0 a1 a2 a3 a4 a5 a6 a7 a8 a9 a10 a11 a12 a13 a14 a15 a16 v : α} {r : List α} : (a0 :: a1 :: a2 :: a3 :: a4 :: a5 :: a6 :: a7 :: a8 :: a9 :: a10 :: a11 :: a12 :: a13 :: a14 :: a15 :: a16 :: r).set 16 v = a0 :: a1 :: a2 :: a3 :: a4 :: a5 :: a6 :: a7 :: a8 :: a9 :: a10 :: a11 :: a12 :: a13 :: a14 :: a15 :: v :: r := rfl
theorem set_17 {α : Type} {a0 a1 a2 a3 a4 a5 a6 a7 a8 a9 a10 a11 a12 a13 a14 a15 a16 a17 v : α} {r : List α} : (a0 :: a1 :: a2 :: a3 :: a4 :: a5 :: a6 :: a7 :: a8 :: a9 :: a10 :: a11 :: a12 :: a13 :: a14 :: a15 :: a16 :: a17 :: r).set 17 v = a0 :: a1 :: a2 :: a3 :: a4 :: a5 :: a6 :: a7 :: a8 :: a9 :: a10 :: a11 :: a12 :: a13 :: a14 :: a15 :: a16 :: v :: r := rfl
theorem set_18 {α : Type} {a0 a1 a2 a3 a4 a5 a6 a7 a8 a9 a10 a11 a12 a13 a14 a15 a16 a17 a18 v : α} {r : List α} : (a0 :: a1 :: a2 :: a3 :: a4 :: a5 :: a6 :: a7 :: a8 :: a9 :: a10 :: a11 :: a12 :: a13 :: a14 :: a15 :: a16 :: a17 :: a18 :: r).set 18 v = a0 :: a1 :: a2 :: a3 :: a4 :: a5 :: a6 :: a7 :: a8 :: a9 :: a10 :: a11 :: a12 :: a13 :: a14 :: a15 :: a16 :: a17 :: v :: r := rfl
theorem set_19 {α : Type} {a0 a1 a2 a3 a4 a5 a6 a7 a8 a9 a10 a11 a12 a13 a14 a15 a16 a17 a18 a19 v : α} {r : List α} : (a0 :: a1 :: a2 :: a3 :: a4 :: a5 :: a6 :: a7 :: a8 :: a9 :: a10 :: a11 :: a12 :: a13 :: a14 :: a15 :: a16 :: a17 :: a18 :: a19 :: r).set 19 v = a0 :: a1 :: a2 :: a3 :: a4 :: a5 :: a6 :: a7 :: a8 :: a9 :: a10 :: a11 :: a12 :: a13 :: a14 :: a15 :: a16 :: a17 :: a18 :: v :: r := rfl
theorem set_20 {α : Type} {a0 a1 a2 a3 a4 a5 a6 a7 a8 a9 a10 a11 a12 a13 a14 a15 a16 a17 a18 a19 a20 v : α} {r : List α} : (a0 :: a1 :: a2 :: a3 :: a4 :: a5 :: a6 :: a7 :: a8 :: a9 :: a10 :: a11 :: a12 :: a13 :: a14 :: a15 :: a16 :: a17 :: a18 :: a19 :: a20 :: r).set 20 v = a0 :: a1 :: a2 :: a3 :: a4 :: a5 :: a6 :: a7 :: a8 :: a9 :: a10 :: a11 :: a12 :: a13 :: a14 :: a15 :: a16 :: a17 :: a18 :: a19 :: v :: r := rfl
theorem set_21 {α : Type} {a0 a1 a2 a3 a4 a5 a6 a7 a8 a9 a10 a11 a12 a13 a14 a15 a16 a17 a18 a19 a20 a21 v : α} {r : List α} : (a0 :: a1 :: a2 :: a3 :: a4 :: a5 :: a6 :: a7 :: a8 :: a9 :: a10 :: a11 :: a12 :: a13 :: a14 :: a15 :: a16 :: a17 :: a18 :: a19 :: a20 :: a21 :: r).set 21 v = a0 :: a1 :: a2 :: a3 :: a4 :: a5 :: a6 :: a7 :: a8 :: a9 :: a10 :: a11 :: a12 :: a13 :: a14 :: a15 :: a16 :: a17 :: a18 :: a19 :: a20 :: v :: r := rfl
theorem set_22 {α : Type} {a0 a1 a2 a3 a4 a5 a6 a7 a8 a9 a10 a11 a12 a13 a14 a15 a16 a17 a18 a19 a20 a21 a22 v : α} {r : List α} : (a0 :: a1 :: a2 :: a3 :: a4 :: a5 :: a6 :: a7 :: a8 :: a9 :: a10 :: a11 :: a12 :: a13 :: a14 :: a15 :: a16 :: a17 :: a18 :: a19 :: a20 :: a21 :: a22 :: r).set 22 v = a0 :: a1 :: a2 :: a3 :: a4 :: a5 :: a6 :: a7 :: a8 :: a9 :: a10 :: a11 :: a12 :: a13 :: a14 :: a15 :: a16 :: a17 :: a18 :: a19 :: a20 :: a21 :: v :: r := rfl
theorem set_23 {α : Type} {a0 a1 a2 a3 a4 a5 a6 a7 a8 a9 a10 a11 a12 a13 a14 a15 a16 a17 a18 a19 a20 a21 a22 a23 v : α} {r : List α} : (a0 :: a1 :: a2 :: a3 :: a4 :: a5 :: a6 :: a7 :: a8 :: a9 :: a10 :: a11 :: a12 :: a13 :: a14 :: a15 :: a16 :: a17 :: a18 :: a19 :: a20 :: a21 :: a22 :: a23 :: r).set 23 v = a0 :: a1 :: a2 :: a3 :: a4 :: a5 :: a6 :: a7 :: a8 :: a9 :: a10 :: a11 :: a12 :: a13 :: a14 :: a15 :: a16 :: a17 :: a18 :: a19 :: a20 :: a21 :: a22 :: v :: r := rfl
theorem at_0 {x0 : V} {r : List V} : atI (x0 :: r) 0 = some x0 := atI_nat (j := 0) rfl
theorem at_1 {x0 x1 : V} {r : List V} : atI (x0 :: x1 :: r) 1 = some x1 := atI_nat (j := 1) rfl
theorem at_2 {x0 x1 x2 : V} {r : List V} : atI (x0 :: x1 :: x2 :: r) 2 = some x2 := atI_nat (j := 2) rfl
theorem at_3 {x0 x1 x2 x3 : V} {r : List V} : atI (x0 :: x1 :: x2 :: x3 :: r) 3 = some x3 := atI_nat (j := 3) rfl
theorem at_4 {x0 x1 x2 x3 x4 : V} {r : List V} : atI (x0 :: x1 :: x2 :: x3 :: x4 :: r) 4 = some x4 := atI_nat (j := 4) rfl
theorem at_5 {x0 x1 x2 x3 x4 x5 : V} {r : List V} : atI (x0 :: x1 :: x2 :: x3 :: x4 :: x5 :: r) 5 = some x5 := atI_nat (j := 5) rfl
theorem at_6 {x0 x1 x2 x3 x4 x5 x6 : V} {r : List V} : atI (x0 :: x1 :: x2 :: x3 :: x4 :: x5 :: x6 :: r) 6 = some x6 := atI_nat (j := 6) rfl
theorem at_7 {x0 x1 x2 x3 x4 x5 x6 x7 : V} {r : List V} : atI (x0 :: x1 :: x2 :: x3 :: x4 :: x5 :: x6 :: x7 :: r) 7 = some x7 := atI_nat (j := 7) rfl
theorem at_8 {x0 x1 x2 x3 x4 x5 x6 x7 x8 : V} {r : List V} : atI (x0 :: x1 :: x2 :: x3 :: x4 :: x5 :: x6 :: x7 :: x8 :: r) 8 = some x8 := atI_nat (j := 8) rfl
theorem at_9 {x0 x1 x2 x3 x4 x5 x6 x7 x8 x9 : V} {r : List V} : atI (x0 :: x1 :: x2 :: x3 :: x4 :: x5 :: x6 :: x7 :: x8 :: x9 :: r) 9 = some x9 := atI_nat (j := 9) rfl
theorem at_10 {x0 x1 x2 x3 x4 x5 x6 x7 x8 x9 x10 : V} {r : List V} : atI (x0 :: x1 :: x2 :: x3 :: x4 :: x5 :: x6 :: x7 :: x8 :: x9 :: x10 :: r) 10 = some x10 := atI_nat (j := 10) rfl
theorem at_11 {x0 x1 x2 x3 x4 x5 x6 x7 x8 x9 x10 x11 : V} {r : List V} : atI (x0 :: x1 :: x2 :: x3 :: x4 :: x5 :: x6 :: x7 :: x8 :: x9 :: x10 :: x11 :: r) 11 = some x11 := atI_nat (j := 11) rfl
theorem at_12 {x0 x1 x2 x3 x4 x5 x6 x7 x8 x9 x10 x11 x12 : V} {r : List V} : atI (x0 :: x1 :: x2 :: x3 :: x4 :: x5 :: x6 :: x7 :: x8 :: x9 :: x10 :: x11 :: x12 :: r) 12 = some x12 := atI_nat (j := 12) rfl
theorem at_13 {x0 x1 x2 x3 x4 x5 x6 x7 x8 x9 x10 x11 x12 x13 : V} {r : List V} : atI (x0 :: x1 :: x2 :: x3 :: x4 :: x5 :: x6 :: x7 :: x8 :: x9 :: x10 :: x11 :: x12 :: x13 :: r) 13 = some x13 := atI_nat (j := 13) rfl
theorem at_14 {x0 x1 x2 x3 x4 x5 x6 x7 x8 x9 x10 x11 x12 x13 x14 : V} {r : List V} : atI (x0 :: x1 :: x2 :: x3 :: x4 :: x5 :: x6 :: x7 :: x8 :: x9 :: x10 :: x11 :: x12 :: x13 :: x14 :: r) 14 = some x14 := atI_nat (j := 14) rfl
theorem at_15 {x0 x1 x2 x3 x4 x5 x6 x7 x8 x9 x10 x11 x12 x13 x14 x15 : V} {r : List V} : atI (x0 :: x1 :: x2 :: x3 :: x4 :: x5 :: x6 :: x7 :: x8 :: x9 :: x10 :: x11 :: x12 :: x13 :: x14 :: x15 :: r) 15 = some x15 := atI_nat (j := 15) rfl
theorem c_mulL {i j : Int} (h1 : -18446744073709551616 < i) (h2 : i < 18446744073709551616) : CMul i j := Or.inl ⟨h1, h2⟩
theorem c_mulR {i j : Int} (h1 : -18446744073709551616 < j) (h2 : j < 18446744073709551616) : CMul i j := Or.inr ⟨h1, h2⟩
theorem c_mulB {i : Int} {c : Bool} : CMul i (if c then 1 else 0) := by cases c <;> exact Or.inr ⟨by decide, by decide⟩
theorem pow2_le {n m : Nat} (h : n ≤ m) : (2 : Int) ^ n ≤ 2 ^ m := by exact_mod_cast Nat.pow_le_pow_right (by decide : 0 < 2) h
theorem c_divW {i j : Int} (h : 0 < j) (h2 : j < 2 ^ 200) : CDivW i j := wide_div h (b := 200) (by omega) (by decide) (by decide)
theorem c_pow {i j : Int} (h : 0 ≤ j) (h1 : j ≤ 1000000) (h2 : i.natAbs < 2 ^ 64) : CPow i j := ⟨h, h1, h2⟩
/-- tracked -/
structure Dom (H : Hp) (a : Addr) : Prop where
  ex : ∃ o, H a = some o
theorem Dom.of {H : Hp} {a : Addr} {o : HO} (h : H a = some o) : Dom H a := ⟨o, h⟩
theorem Dom.at {S : List Addr} {H H1 : Hp} {a : Addr} (k : Kp S H H1) (h : Dom H a) (n : a ∉ S) : Dom H1 a := let ⟨o, e⟩ := h.ex; ⟨o, k _ _ e n⟩
theorem ne_dom {H : Hp} {a b : Addr} (h : Dom H a) (h' : H b = none) : a ≠ b := let ⟨_, e⟩ := h.ex; ne_of_none e h'
/-- a way put by: found by kp alone -/
structure KpC (S : List Addr) (H H1 : Hp) : Prop where
  k : Kp S H H1
theorem nm0 {a : Addr} : a ∉ ([] : List Addr) := fun h => nomatch h
theorem nm1 {a b : Addr} (h : a ≠ b) : a ∉ [b] := fun z => h (List.mem_singleton.mp z)
theorem nm2 {a b : Addr} {S : List Addr} (h : a ≠ b) (h2 : a ∉ S) : a ∉ b :: S := fun z => (List.mem_cons.mp z).elim h h2
theorem al0 {P : Addr → Prop} : ∀ x ∈ ([] : List Addr), P x := fun _ h => nomatch h
theorem al1 {P : Addr → Prop} {b : Addr} {S : List Addr} (h : P b) (h2 : ∀ x ∈ S, P x) : ∀ x ∈ b :: S, P x := fun x z => (List.mem_cons.mp z).elim (fun e => e ▸ h) (h2 x)
/-- a list of ints at hand, item by item -/
theorem ints_at {ns : List Int} {i : Nat} {x : V} (h : (ns.map V.int)[i]? = some x) : ∃ n, ns[i]? = some n ∧ x = .int n := by
  rw [List.getElem?_map] at h
  cases e : ns[i]? with
  | none => rw [e] at h; cases h
  | some n => rw [e] at h; exact ⟨n, rfl, (Option.some.inj h).symm⟩
theorem ints_get {ns : List Int} {i : Nat} {n : Int} (h : ns[i]? = some n) : (ns.map V.int)[i]? = some (.int n) := by rw [List.getElem?_map, h]; rfl
theorem ints_ix {ns : List Int} {j : Int} (h0 : 0 ≤ j) (h1 : j < ns.length) : ∃ n, ns[j.toNat]? = some n ∧ atI (ns.map V.int) j = some (.int n) := by
  obtain ⟨m, rfl⟩ : ∃ m : Nat, j = (m : Int) := ⟨j.toNat, (Int.toNat_of_nonneg h0).symm⟩
  have hl : m < ns.length := by omega
  rw [Int.toNat_natCast]
  exact ⟨ns[m], List.getElem?_eq_getElem hl, atI_nat (ints_get (List.getElem?_eq_getElem hl))⟩
theorem ints_flat : ∀ ns : List Int, (ns.map V.int).all flatV = true
  | [] => rfl
  | _ :: r => by rw [List.map_cons, List.all_cons, ints_flat r]; rfl
/-- a slice's items -/
def cutG {α : Type} (xs : List α) (lo hi : Option Int) : List α := (xs.drop (HT.sIx xs.length 0 lo)).take (HT.sIx xs.length xs.length hi - HT.sIx xs.length 0 lo)
theorem cut_map {α : Type} (f : α → V) (xs : List α) (lo hi : Option Int) : cutV (xs.map f) lo hi = (cutG xs lo hi).map f := by
  unfold cutV cutG
  rw [List.length_map, ← List.map_drop, ← List.map_take]
theorem cut_to {α : Type} (xs : List α) (k : Nat) : cutG xs none (some (k : Int)) = xs.take k := by
  unfold cutG
  rw [HT.sIx_none, HT.sIx_nat, List.drop_zero, Nat.sub_zero]
  by_cases h : k ≤ xs.length
  · rw [Nat.min_eq_left h]
  · rw [Nat.min_eq_right (by omega), List.take_length, List.take_of_length_le (by omega)]
theorem cut_from {α : Type} (xs : List α) (k : Nat) : cutG xs (some (k : Int)) none = xs.drop k := by
  unfold cutG
  rw [HT.sIx_none, HT.sIx_nat]
  by_cases h : k ≤ xs.length
  · rw [Nat.min_eq_left h, List.take_of_length_le (by rw [List.length_drop]; omega)]
  · rw [Nat.min_eq_right (by omega), List.drop_length, List.drop_eq_nil_of_le (by omega)]; exact List.take_nil
theorem sz_small {n : Nat} (h : n ≤ 100000) : n ≤ sizeLine := Nat.le_trans h (by decide)
theorem sz_less {n : Nat} (h : n < 100000) : n < sizeLine := Nat.lt_of_lt_of_le h (by decide)
theorem idx_le {x : Int} : ∀ {ns : List Int} {m : Nat}, ns[m]? = some x → ns.idxOf x ≤ m
  | [], m, h => by simp at h
  | a :: r, 0, h => by
    have e : a = x := Option.some.inj h
    rw [List.idxOf_cons, e]; simp
  | a :: r, m + 1, h => by
    have z := idx_le (ns := r) (m := m) h
    rw [List.idxOf_cons]
    cases (a == x)
    · exact Nat.succ_le_succ z
    · exact Nat.zero_le _
theorem ixN_nat {n j : Nat} (h : j < n) : ixN n ((j : Nat) : Int) = some j := by
  unfold ixN
  simp [h]
section
variable {σ : St} {H : Hp} {Q : VK} {K : PySem.W.Frag} {p : Addr} {ns : List Int} {x : Int} {D : Ends} {t : TT} {tb : TS}
theorem h_idx (h : SqL K H p (ns.map V.int)) (hx : x ∈ ns) (q : Q (.int ((ns.idxOf x : Nat) : Int)) H) : rIndex K (.ref p) [.int x] H Q := by
  have hl : ns.idxOf x < ns.length := List.idxOf_lt_length_of_mem hx
  refine ⟨p, ns.map V.int, .int x, ns.idxOf x, .int x, rfl, rfl, h, rfl, ints_flat ns, ?_, ?_, ?_, q⟩
  · rw [List.getElem?_map, List.getElem?_eq_getElem hl, List.getElem_idxOf hl]; rfl
  · show (x == x) = true
    exact beq_self_eq_true x
  · intro m z hm hz
    obtain ⟨n, hn, rfl⟩ := ints_at hz
    show (n == x) = false
    by_cases e : n = x
    · subst e
      exact absurd hm (Nat.not_lt_of_le (idx_le hn))
    · exact beq_false_of_ne e
theorem h_insert {xs : List V} {i : Int} {y : V} (h : H p = some (.lst xs)) (hl : xs.length < sizeLine) (h0 : 0 ≤ i) (h1 : i < 2 ^ 63) (q : ∀ H2, Kp [p] H H2 → H2 p = some (.lst (xs.take i.toNat ++ [y] ++ xs.drop i.toNat)) → Q .non H2) : rInsert (.ref p) [.int i, y] H Q :=
  ⟨p, xs, i, y, rfl, rfl, h, hl, h0, h1, q _ (Kp.refl.wr (List.mem_singleton.mpr rfl)) upd_same⟩
end
section
variable {H : Hp} {Q : VK} {K : PySem.W.Frag} {p p' : Addr} {ns ms : List Int}
theorem cut_toI {j : Int} (h : 0 ≤ j) : cutV (ns.map V.int) none (some j) = (ns.take j.toNat).map V.int := by
  have e : j = ((j.toNat : Nat) : Int) := (Int.toNat_of_nonneg h).symm
  rw [cut_map]
  conv => lhs; rw [e]
  rw [cut_to]
theorem cut_fromI {j : Int} (h : 0 ≤ j) : cutV (ns.map V.int) (some j) none = (ns.drop j.toNat).map V.int := by
  have e : j = ((j.toNat : Nat) : Int) := (Int.toNat_of_nonneg h).symm
  rw [cut_map]
  conv => lhs; rw [e]
  rw [cut_from]
theorem h_slTo {j : Int} (h : SqL K H p (ns.map V.int)) (h0 : 0 ≤ j) (q : ∀ l H2, H l = none → Kp [] H H2 → H2 l = some (.lst ((ns.take j.toNat).map V.int)) → Q (.ref l) H2) : rSlL K (.ref p) none (some j) H Q :=
  h_slL h fun l H2 a b c => q l H2 a b (by rw [c, cut_toI h0])
theorem h_slFrom {j : Int} (h : SqL K H p (ns.map V.int)) (h0 : 0 ≤ j) (q : ∀ l H2, H l = none → Kp [] H H2 → H2 l = some (.lst ((ns.drop j.toNat).map V.int)) → Q (.ref l) H2) : rSlL K (.ref p) (some j) none H Q :=
  h_slL h fun l H2 a b c => q l H2 a b (by rw [c, cut_fromI h0])
theorem h_catI (h : H p = some (.lst (ns.map V.int))) (h' : H p' = some (.lst (ms.map V.int))) (hl : ns.length + ms.length ≤ sizeLine) (q : ∀ l H2, H l = none → Kp [] H H2 → H2 l = some (.lst ((ns ++ ms).map V.int)) → Q (.ref l) H2) : rCat (.ref p) (.ref p') H Q :=
  h_cat h h' (by rw [List.length_map, List.length_map]; exact hl) fun l H2 a b c => q l H2 a b (by rw [c, List.map_append])
theorem h_catI1 {n : Int} (h : H p = some (.lst (ns.map V.int))) (h' : H p' = some (.lst [.int n])) (hl : ns.length + 1 ≤ sizeLine) (q : ∀ l H2, H l = none → Kp [] H H2 → H2 l = some (.lst ((ns ++ [n]).map V.int)) → Q (.ref l) H2) : rCat (.ref p) (.ref p') H Q :=
  h_cat h h' (by rw [List.length_map]; exact hl) fun l H2 a b c => q l H2 a b (by rw [c, List.map_append]; rfl)
theorem h_catI2 {n : Int} (h : H p = some (.lst [.int n])) (h' : H p' = some (.lst (ns.map V.int))) (hl : 1 + ns.length ≤ sizeLine) (q : ∀ l H2, H l = none → Kp [] H H2 → H2 l = some (.lst ((n :: ns).map V.int)) → Q (.ref l) H2) : rCat (.ref p) (.ref p') H Q :=
  h_cat h h' (by rw [List.length_map]; exact hl) fun l H2 a b c => q l H2 a b (by rw [c]; rfl)
theorem h_appendI {n : Int} (h : H p = some (.lst (ns.map V.int))) (hl : ns.length < sizeLine) (q : ∀ H2, Kp [p] H H2 → H2 p = some (.lst ((ns ++ [n]).map V.int)) → Q .non H2) : rAppend (.ref p) [.int n] H Q :=
  h_append h (by rw [List.length_map]; exact hl) fun H2 a b => q H2 a (by rw [b, List.map_append]; rfl)
theorem h_insertI {i n : Int} (h : H p = some (.lst (ns.map V.int))) (hl : ns.length < sizeLine) (h0 : 0 ≤ i) (h1 : i < 2 ^ 63) (q : ∀ H2, Kp [p] H H2 → H2 p = some (.lst ((ns.take i.toNat ++ [n] ++ ns.drop i.toNat).map V.int)) → Q .non H2) : rInsert (.ref p) [.int i, .int n] H Q :=
  h_insert h (by rw [List.length_map]; exact hl) h0 h1 fun H2 a b => q H2 a (by rw [b, List.map_append, List.map_append, List.map_take, List.map_drop]; rfl)
theorem h_setLI {QH : Hp → Prop} {k n : Int} {j : Nat} (h : H p = some (.lst (ns.map V.int))) (e : ixN ns.length k = some j) (q : ∀ H2, Kp [p] H H2 → H2 p = some (.lst ((ns.set j n).map V.int)) → QH H2) : rSetL (.ref p) (.int k) (.int n) H QH :=
  h_setL h (by rw [List.length_map]; exact e) fun H2 a b => q H2 a (by rw [b, List.map_set])
theorem ixN_lit {n j : Nat} {k : Int} (e : k = (j : Nat)) (h : j < n) : ixN n k = some j := by subst e; exact ixN_nat h
theorem h_all {bs : List Bool} (h : SqL K H p (bs.map V.bl)) (q : Q (.bl (bs.all id)) H) : rAll K [.ref p] H Q := ⟨p, bs, rfl, h, q⟩
theorem h_any {bs : List Bool} (h : SqL K H p (bs.map V.bl)) (q : Q (.bl (bs.any id)) H) : rAny K [.ref p] H Q := ⟨p, bs, rfl, h, q⟩
end
end NN
/-! own rule: a star among targets -/
namespace NN
open PySem L2
def gStar (K : PySem.W.Frag) (n i : Nat) (t : TGs) : TG := fun v σ H Q => ∃ a xs, v = .ref a ∧ SqL K H a xs ∧ n ≤ xs.length + 1 ∧ xs.length ≤ 10000 ∧
  ∀ D, H D = none → t (xs.take i ++ [.ref D] ++ (xs.drop i).drop (xs.length + 1 - n)) σ (upd H D (.lst ((xs.drop i).take (xs.length + 1 - n)))) Q
theorem got {P : Program} {w : World} {H : Hp} {h : Heap} {a : Addr} : ∀ {o : HO}, ObjOk P w H h a o → ∃ ob, h.get? a = some ob
  | .lst _, ⟨_, _, _, _, e⟩ => ⟨_, e⟩
  | .tup _, ⟨_, _, _, ob, e, _⟩ => ⟨ob, e⟩
  | .dK _, ⟨_, _, _, _, ob, _, _, e, _⟩ => ⟨ob, e⟩
  | .dT _, ⟨_, _, _, _, ob, _, _, e, _⟩ => ⟨ob, e⟩
  | .set _ _, ⟨ob, _, _, _, e, _⟩ => ⟨ob, e⟩
  | .ins _ _ _, ⟨_, _, _, e, _⟩ => ⟨_, e⟩
  | .own _, ⟨ob, e⟩ => ⟨ob, e⟩
  | .xd _, ⟨_, ⟨ob, _, _, e, _⟩, _⟩ => ⟨ob, e⟩
  | .rng _ _, ⟨_, _, _, e⟩ => ⟨_, e⟩
  | .frz _ _, ⟨e, _⟩ => ⟨_, e⟩
  | .tbl _, e => ⟨_, e⟩
  | .met _ _, e => ⟨_, e⟩
  | .ext _, ⟨_, ⟨ob, e⟩, _⟩ => ⟨ob, e⟩
section
variable {X : Cx} {pos : Pos}
theorem pgs_star {e : Expr} {p : Pos} {es : List Expr} {t : TG} {u : TGs} (h1 : PG X e t) (h2 : PGs X es u)
    (hs : (assignEach (.Starred e p :: es) X.env).map (·.2) = assign e X.env :: (assignEach es X.env).map (·.2) := by rfl) : PGs X (.Starred e p :: es) (gCons t u) := by
  refine ⟨fun pins s σ H vs us Q I r h => ?_⟩
  obtain ⟨v, vr, e1, h⟩ := h
  subst e1
  cases r with
  | cons r rr =>
    rw [hs]
    refine PyProof.Rows.assignInOrder_cons (thn (h1.run pins s σ H _ _ _ I r h) fun _ s1 ⟨σ1, H1, I1, q1⟩ => ?_)
    exact h2.run pins s1 σ1 H1 _ _ Q I1 rr q1
theorem pg_star {es : List Expr} {k : Nat} {t : TGs} {n i : Nat} (hc : X.calm = true) (h : PGs X es t) (hi : i < n)
    (hn : (assignEach es X.env).length = n := by rfl) (hst : (assignEach es X.env).findIdx? (·.1) = some i := by rfl) : PG X (.Tuple es k pos) (gStar X.K n i t) := by
  refine ⟨fun pins s σ H v u Q I r hw => ?_⟩
  obtain ⟨a, xs, e1, hq, hl, hz, hw⟩ := hw
  subst e1
  cases r
  obtain ⟨its, rv, pl, _⟩ := I.list hq
  have hl' : s.heap.IsList a its.toArray := by
    obtain ⟨o, m, e, c, d, q⟩ := pl
    exact ⟨o, e, c, m, q⟩
  have elen : its.toArray.size = xs.length := by rw [rv.length]; simp
  obtain ⟨m, F⟩ := I.fr
  refine PySem.W.kun_assignL (n := n) (i := i) F (news_all (g := X.base) (L := X.env.locals)) hl' (I.ok.hd hc) hn hst hi (by rw [elen]; exact hl) (by rw [elen]; omega) rfl rfl rfl fun D h' tk F' N' hD => ?_
  have hDp := N' (D, _) List.mem_cons_self
  have kept : ∀ b o, b ≠ X.env.locals → s.heap.get? b = some o → h'.get? b = some o := fun b o hb e => by
    cases q : X.base.get? b with
    | some o2 =>
      have z := I.bk b o2 q
      rw [e] at z; cases z
      exact F'.keep b _ q
    | none => exact (N' (b, o) (List.mem_cons_of_mem _ (mem_allNews hb q e))).1
  have newD : s.heap.get? D = none := by
    cases q : s.heap.get? D with
    | none => rfl
    | some o => exact absurd (hD (D, o) (mem_allNews hDp.2.1 hDp.2.2 q)) (Nat.lt_irrefl _)
  have HD : H D = none := by
    cases q : H D with
    | none => rfl
    | some o =>
      obtain ⟨oo, eo⟩ := got (I.hok D o q)
      rw [newD] at eo; cases eo
  have nD : ∀ b o, s.heap.get? b = some o → b ≠ D := fun b o e z => by rw [z, newD] at e; cases e
  have nL : ∀ b o, H b = some o → b ≠ X.env.locals := fun b o e z => by rw [z, I.free] at e; cases e
  have tkd : ∀ b o, H b = some o → upd H D (.lst ((xs.drop i).take (xs.length + 1 - n))) b = some o := fun b o e => by rw [upd_ne (ne_of_none e HD)]; exact e
  have hok : HOk X.prog X.w (upd H D (.lst ((xs.drop i).take (xs.length + 1 - n)))) h' := fun b o e => by
    by_cases hb : b = D
    · subst hb
      rw [upd_same] at e; cases e
      refine ⟨?_, _, 0, ?_, hDp.1⟩
      · rw [List.length_take, List.length_drop]; exact sz_small (by omega)
      · rw [elen]
        exact (rv.drop i).take _
    · rw [upd_ne hb] at e
      refine (I.hok b o e).stay (fun c w hc' q => kept c w ?_ q) (fun c q => tkd c _ q) fun c ys q => tkd c _ q
      rcases hc' with z | z
      · rw [z]; exact nL b o e
      · exact nL c _ z
  have I1 : Inv X pins σ (upd H D (.lst ((xs.drop i).take (xs.length + 1 - n)))) { s with heap := h', toks := tk } := by
    refine I.step (g' := s.gens) (d' := s.drawn) (ch := []) (fun _ z => nomatch z) (fun b o hb _ _ e _ => kept b o hb e) (fun b o hb _ _ e _ => ⟨o.slots, kept b o hb e⟩)
      (fun b o _ e n => by rw [upd_ne (nD b o e)]; exact n) (fun b o _ e => ?_) (fun b ys e => tkd b _ e) (fun b o u e => tkd b _ e) (fun b ps e => ⟨#[], by rw [tkd b _ e]; simp⟩) (fun m' hm' => ?_) hok I.bare
    · by_cases hb : b = X.env.locals
      · obtain ⟨o', _, _, e', _⟩ := F'.ns
        exact ⟨o', by rw [hb]; exact e'⟩
      · exact ⟨o, kept b o hb e⟩
    · have em : m' = m := by
        obtain ⟨o1, es1, ep1, q1, d1, _, f1⟩ := hm'
        obtain ⟨o2, es2, ep2, q2, d2, _, f2⟩ := F.ns
        rw [q1] at q2; cases q2
        rw [d1] at d2
        injection d2 with d2 _
        subst d2
        funext x
        exact (f1 x).symm.trans (f2 x)
      rw [em]; exact F'.ns
  have rv2 : Vals (xs.take i ++ [.ref D] ++ (xs.drop i).drop (xs.length + 1 - n)) (its.toArray.toList.take i ++ [.ref D] ++ (its.toArray.toList.drop i).drop (its.toArray.size + 1 - n)) := by
    rw [elen]
    exact ((rv.take i).append (.cons (show RelV (.ref D) (.ref D) from rfl) .nil)).append ((rv.drop i).drop _)
  exact h.run pins _ σ _ _ _ Q I1 rv2 (hw D HD)
end
instance p_gNil {σ : St} {H : Hp} {QS : St → Hp → Prop} : Stp (gNil [] σ H QS) (QS σ H) := ⟨fun q => ⟨rfl, q⟩⟩
instance p_gCons {σ : St} {H : Hp} {QS : St → Hp → Prop} {v : V} {r : List V} {t : TG} {u : TGs} : Stp (gCons t u (v :: r) σ H QS) (t v σ H fun σ' H' => u r σ' H' QS) := ⟨fun q => ⟨v, r, rfl, q⟩⟩
section
variable {K : PySem.W.Frag} {σ : St} {H : Hp} {QS : St → Hp → Prop} {p : Addr} {ns : List Int} {t : TGs}
/-- *ahead, last = a list of ints -/
theorem h_starLast {f : Int} (h : SqL K H p ((ns ++ [f]).map V.int)) (hl : ns.length < 9999) (q : ∀ D H2, H D = none → Kp [] H H2 → H2 D = some (.lst (ns.map V.int)) → t [.ref D, .int f] σ H2 QS) : gStar K 2 0 t (.ref p) σ H QS := by
  refine ⟨p, _, rfl, h, by simp, by simp; omega, fun D hD => ?_⟩
  have e1 : (((ns ++ [f]).map V.int).drop 0).drop (((ns ++ [f]).map V.int).length + 1 - 2) = [.int f] := by simp
  have e2 : (((ns ++ [f]).map V.int).drop 0).take (((ns ++ [f]).map V.int).length + 1 - 2) = ns.map V.int := by simp
  rw [e1, e2]
  exact q D _ hD (Kp.refl.new hD) upd_same
end
end NN
/-! own: data at any depth, held against each other -/
namespace NN
open PySem L2
/-- data that may be compared, of at most that depth -/
def Sh (n : Nat) (d : PyData) : Prop := d.canLay0 = true ∧ d.depth ≤ n
def ShA (n : Nat) (ds : List PyData) : Prop := PyData.canLayAll0 ds = true ∧ PyData.depthAll ds ≤ n
theorem Sh.non {n : Nat} : Sh n .none := ⟨rfl, Nat.zero_le _⟩
theorem Sh.int {n : Nat} {i : Int} : Sh n (.int i) := ⟨rfl, Nat.zero_le _⟩
theorem Sh.bool {n : Nat} {b : Bool} : Sh n (.bool b) := ⟨rfl, Nat.zero_le _⟩
theorem Sh.list {n : Nat} {ds : List PyData} (h : ShA n ds) : Sh (n + 1) (.list ds) := ⟨h.1, Nat.succ_le_succ h.2⟩
theorem Sh.tuple {n : Nat} {ds : List PyData} (h : ShA n ds) : Sh (n + 1) (.tuple ds) := ⟨h.1, Nat.succ_le_succ h.2⟩
theorem ShA.nil {n : Nat} : ShA n [] := ⟨rfl, Nat.zero_le _⟩
theorem ShA.cons {n : Nat} {d : PyData} {ds : List PyData} (h : Sh n d) (h2 : ShA n ds) : ShA n (d :: ds) := by
  refine ⟨?_, Nat.max_le.mpr ⟨h.2, h2.2⟩⟩
  show (d.canLay0 && PyData.canLayAll0 ds) = true
  rw [h.1, h2.1]; rfl
theorem ShA.all {n : Nat} {α : Type} {f : α → PyData} : ∀ {xs : List α}, (∀ x ∈ xs, Sh n (f x)) → ShA n (xs.map f)
  | [], _ => .nil
  | x :: r, h => .cons (h x List.mem_cons_self) (ShA.all fun y hy => h y (List.mem_cons_of_mem _ hy))
theorem ShA.ints {n : Nat} {ns : List Int} : ShA n (ns.map PyData.int) := .all fun _ _ => .int
theorem Sh.shaped {n : Nat} {d : PyData} (h : Sh n d) (hn : n ≤ 64) : SeqAt.shaped d = true := by
  unfold SeqAt.shaped
  rw [h.1, decide_eq_true (Nat.le_trans h.2 hn)]; rfl
theorem Sh.mono {n m : Nat} {d : PyData} (h : Sh n d) (hn : n ≤ m) : Sh m d := ⟨h.1, Nat.le_trans h.2 hn⟩
/-! no bools, no dicts: equal where the data are the same -/
mutual
def noB : PyData → Bool
  | .none => true
  | .bool _ => false
  | .int _ => true
  | .str _ => true
  | .list xs => noBA xs
  | .tuple xs => noBA xs
  | .dict _ => false
def noBA : List PyData → Bool
  | [] => true
  | x :: xs => noB x && noBA xs
end
mutual
theorem eqv_eq : ∀ d e : PyData, noB d = true → noB e = true → PyData.eqv d e = true → d = e
  | .none, e, _, he, h => by cases e <;> simp_all [PyData.eqv, noB]
  | .bool _, _, h, _, _ => nomatch h
  | .int i, e, _, he, h => by cases e <;> simp_all [PyData.eqv, noB]
  | .str x, e, _, he, h => by cases e <;> simp_all [PyData.eqv, noB]
  | .list xs, e, hd, he, h => by
    cases e with
    | list ys =>
      rw [PyData.eqv] at h
      rw [eqvAll_eq' xs ys hd he h]
    | _ => simp_all [PyData.eqv, noB]
  | .tuple xs, e, hd, he, h => by
    cases e with
    | tuple ys =>
      rw [PyData.eqv] at h
      rw [eqvAll_eq' xs ys hd he h]
    | _ => simp_all [PyData.eqv, noB]
  | .dict _, _, h, _, _ => nomatch h
theorem eqvAll_eq' : ∀ ds es : List PyData, noBA ds = true → noBA es = true → PyData.eqvAll ds es = true → ds = es
  | [], [], _, _, _ => rfl
  | [], _ :: _, _, _, h => nomatch h
  | _ :: _, [], _, _, h => nomatch h
  | d :: ds, e :: es, hd, he, h => by
    have h1 : PyData.eqv d e = true ∧ PyData.eqvAll ds es = true := by simpa [PyData.eqvAll] using h
    have h2 : noB d = true ∧ noBA ds = true := by simpa [noBA] using hd
    have h3 : noB e = true ∧ noBA es = true := by simpa [noBA] using he
    rw [eqv_eq d e h2.1 h3.1 h1.1, eqvAll_eq' ds es h2.2 h3.2 h1.2]
end
theorem noBA.ints : ∀ ns : List Int, noBA (ns.map PyData.int) = true
  | [] => rfl
  | _ :: r => by
    show (true && noBA (r.map PyData.int)) = true
    rw [noBA.ints r]; rfl
open Classical in
/-- ==, != of data -/
theorem eqv_dec {n : Nat} {d e : PyData} (h : Sh n d) (hd : noB d = true) (he : noB e = true) : PyData.eqv d e = decide (d = e) := by
  by_cases q : d = e
  · subst q; rw [decide_eq_true rfl]; exact PySem.SeqAt.eqv_refl d h.1
  · rw [decide_eq_false q]
    cases z : PyData.eqv d e with
    | false => rfl
    | true => exact absurd (eqv_eq d e hd he z) q
section
variable {K : PySem.W.Frag} {H : Hp} {Q : VK} {x y : V} {d e : PyData} {n m : Nat} {p : Addr} {ns : List Int}
theorem dp_ints (h : SqL K H p (ns.map V.int)) : Dp K H (.ref p) (.list (ns.map PyData.int)) := .lst h (by
  clear h
  induction ns with
  | nil => exact .nil
  | cons i r ih => exact .cons (.int i) ih)
/-- equal ones -/
theorem d_eqT (hx : Dp K H x d) (hy : Dp K H y d) (s1 : Sh n d) (hn : n ≤ 64) (q : Q (.bl true) H) : rEqD K x y H Q :=
  ⟨d, d, hx, hy, s1.shaped hn, s1.shaped hn, by rw [PySem.SeqAt.eqv_refl d s1.1]; exact q⟩
theorem d_neF (hx : Dp K H x d) (hy : Dp K H y d) (s1 : Sh n d) (hn : n ≤ 64) (q : Q (.bl false) H) : rNeD K x y H Q :=
  ⟨d, d, hx, hy, s1.shaped hn, s1.shaped hn, by rw [PySem.SeqAt.eqv_refl d s1.1]; exact q⟩
open Classical in
theorem d_eq (hx : Dp K H x d) (hy : Dp K H y e) (s1 : Sh n d) (s2 : Sh m e) (hn : n ≤ 64) (hm : m ≤ 64) (hd : noB d = true) (he : noB e = true) (q : Q (.bl (decide (d = e))) H) : rEqD K x y H Q :=
  ⟨d, e, hx, hy, s1.shaped hn, s2.shaped hm, by rw [eqv_dec s1 hd he]; exact q⟩
open Classical in
theorem d_ne (hx : Dp K H x d) (hy : Dp K H y e) (s1 : Sh n d) (s2 : Sh m e) (hn : n ≤ 64) (hm : m ≤ 64) (hd : noB d = true) (he : noB e = true) (q : Q (.bl (!decide (d = e))) H) : rNeD K x y H Q :=
  ⟨d, e, hx, hy, s1.shaped hn, s2.shaped hm, by rw [eqv_dec s1 hd he]; exact q⟩
theorem ints_inj : ∀ {ns ms : List Int}, ns.map PyData.int = ms.map PyData.int → ns = ms
  | [], [], _ => rfl
  | [], _ :: _, h => nomatch h
  | _ :: _, [], h => nomatch h
  | a :: r, b :: t, h => by
    injection h with h1 h2
    injection h1 with h1
    rw [h1, ints_inj h2]
/-- two lists of ints -/
theorem d_eqI {ms : List Int} {p' : Addr} (hx : SqL K H p (ns.map V.int)) (hy : SqL K H p' (ms.map V.int)) (q : Q (.bl (decide (ns = ms))) H) : rEqD K (.ref p) (.ref p') H Q :=
  ⟨_, _, dp_ints hx, dp_ints hy, (Sh.list (n := 0) .ints).shaped (by decide), (Sh.list (n := 0) .ints).shaped (by decide), by
    have e : PyData.eqv (.list (ns.map PyData.int)) (.list (ms.map PyData.int)) = decide (ns = ms) := by
      by_cases h : ns = ms
      · subst h; rw [decide_eq_true rfl]; exact PySem.SeqAt.eqv_refl _ (Sh.list (n := 0) .ints).1
      · rw [decide_eq_false h]
        cases z : PyData.eqv (.list (ns.map PyData.int)) (.list (ms.map PyData.int)) with
        | false => rfl
        | true =>
          have z2 := eqv_eq (.list (ns.map PyData.int)) (.list (ms.map PyData.int)) (noBA.ints ns) (noBA.ints ms) z
          injection z2 with z2
          exact absurd (ints_inj z2) h
    rw [e]; exact q⟩
theorem d_neI {ms : List Int} {p' : Addr} (hx : SqL K H p (ns.map V.int)) (hy : SqL K H p' (ms.map V.int)) (q : Q (.bl (!decide (ns = ms))) H) : rNeD K (.ref p) (.ref p') H Q := by
  have z : rEqD K (.ref p) (.ref p') H (fun v H' => v = .bl (decide (ns = ms)) ∧ H' = H) := d_eqI hx hy ⟨rfl, rfl⟩
  obtain ⟨d, e, h1, h2, h3, h4, h5, _⟩ := z
  injection h5 with h5
  exact ⟨d, e, h1, h2, h3, h4, by rw [h5]; exact q⟩
theorem inV_int {i : Int} : ∀ {ms : List Int}, inV (.int i) (ms.map V.int) = decide (i ∈ ms)
  | [] => (decide_eq_false (fun z => nomatch z)).symm
  | m :: r => by
    show (eqV (.int m) (.int i) || inV (.int i) (r.map V.int)) = _
    rw [inV_int]
    show ((m == i) || decide (i ∈ r)) = _
    by_cases h : m = i
    · subst h; simp
    · by_cases h2 : i ∈ r
      · simp [h2]
      · have : i ≠ m := fun z => h z.symm
        simp [h, h2, this]
end
section
variable {K : PySem.W.Frag} {H : Hp} {Q : VK} {x : V}
/-- isinstance of a built-in class -/
theorem isi {t n : String} {b : Bool} (h : TyX K H x (.type t)) (e : kitB t n = some b) (q : Q (.bl b) H) : rIsi K [x, .ty n] H Q := ⟨x, .ty n, _, _, b, rfl, .ty n, h, kit_ty e, q⟩
end
end NN
/-! own: calls of any shape (places, keywords, defaults), of defs, methods, classes -/
namespace NN
open PySem L2
/-- where a parameter's value comes from -/
inductive Src where
  | pos (i : Nat) | kw (i : Nat) | dfl (i : Nat) | kwd (i : Nat)
def consO {α : Type} : Option α → List α → List α
  | none, l => l
  | some x, l => x :: l
def srcAt {α : Type} (us ws its kv : List α) : Src → Option α
  | .pos i => us[i]? | .kw i => ws[i]? | .dfl i => its[i]? | .kwd i => kv[i]?
def plan {α : Type} (us ws its kv : List α) : List Src → List α
  | [] => []
  | c :: l => consO (srcAt us ws its kv c) (plan us ws its kv l)
theorem consO_rel {xs : List V} {ys : List Value} {A : List V} {B : List Value} (i : Nat) (q : Vals xs ys) (h : Vals A B) : Vals (consO xs[i]? A) (consO ys[i]? B) := by
  cases e : xs[i]? with
  | none => rw [q.none_of e]; exact h
  | some z =>
    obtain ⟨u, e2, r2⟩ := q.get e
    rw [e2]
    exact .cons r2 h
theorem plan_rel (pl : List Src) {vs zs ds ks : List V} {us ws its kv : List Value} (r : Vals vs us) (rz : Vals zs ws) (rd : Vals ds its) (rk : Vals ks kv) : Vals (plan vs zs ds ks pl) (plan us ws its kv pl) := by
  induction pl with
  | nil => exact .nil
  | cons c l ih =>
    cases c with
    | pos i => exact consO_rel i r ih
    | kw i => exact consO_rel i rz ih
    | dfl i => exact consO_rel i rd ih
    | kwd i => exact consO_rel i rk ih
/-- how a call with n places and keywords ks binds -/
def CallB (K : PySem.W.Frag) (fd : FuncData) (ps : List Str) (n : Nat) (ks : List Str) (pl : List Src) (dvs kvs : List V) : Prop :=
  ∀ (s : Shared) (us ws : List Value) (vs zs : List V), K.In s.heap → us.length = n → ws.length = ks.length → Vals vs us → Vals zs ws →
    ∃ args : List Value, Vals (plan vs zs dvs kvs pl) args ∧ BindsTo s fd ⟨us, ks.zip ws⟩ (ps.zip args)
section
variable {K : PySem.W.Frag} {x qual : Str} {params : Arguments} {body : List Stmt} {scope : Scope} {dvs : List V} {kws : List (Str × V)} {f : Addr} {fd : FuncData} {ps ks : List Str} {pl : List Src} {n : Nat}
/-- no default is asked -/
theorem callb_p (F : FunD K x qual params body scope [] kws f fd)
    (h : ∀ (kV doc pm : Value) (an : Option Addr) (cdv ct : Value) (us ws : List Value), us.length = n → ws.length = ks.length → bindArgs (PySem.W.fnOf x qual params body scope .none kV doc pm an cdv ct) ⟨us, ks.zip ws⟩ = pure (ps.zip (plan us ws [] [] pl))) : CallB K fd ps n ks pl [] [] := fun s us ws vs zs X hn hm r rz => by
  obtain ⟨oc, od, dV, kV, doc, pm, an, cdv, ct, osl, rfl, lk, hcd, hD, hK⟩ := F.ex
  rcases hD with ⟨_, rfl⟩ | ⟨e, _⟩
  · exact ⟨_, plan_rel pl r rz .nil .nil, .of_eq (h kV doc pm an cdv ct us ws hn hm)⟩
  · exact absurd rfl e
/-- defaults of the places -/
theorem callb_d (F : FunD K x qual params body scope dvs kws f fd) (hd : dvs ≠ [])
    (h : ∀ (T : Addr) (kV doc pm : Value) (an : Option Addr) (cdv ct : Value) (us ws its : List Value), us.length = n → ws.length = ks.length → its.length = dvs.length →
      ∃ k, bindArgs (PySem.W.fnOf x qual params body scope (.ref T) kV doc pm an cdv ct) ⟨us, ks.zip ws⟩ = seqItems? (.ref T) >>= k ∧ k (some its.toArray) = pure (ps.zip (plan us ws its [] pl))) : CallB K fd ps n ks pl dvs [] := fun s us ws vs zs X hn hm r rz => by
  obtain ⟨oc, od, dV, kV, doc, pm, an, cdv, ct, osl, rfl, lk, hcd, hD, hK⟩ := F.ex
  rcases hD with ⟨e, _⟩ | ⟨_, T, o, its, m, rfl, lT, oT, rT⟩
  · exact absurd e hd
  · obtain ⟨k, e1, e2⟩ := h T kV doc pm an cdv ct us ws its hn hm rT.length.symm
    refine ⟨_, plan_rel pl r rz rT .nil, L2.BindsTo.of_looks fun M => ?_⟩
    rw [e1]
    exact looks_items X lT oT (.of_pure e2)
end
section
variable {X : Cx} {CX : CXT} {k : Nat} {f C : Addr} {fd : FuncData} {ps ks : List Str} {pl : List Src} {dvs kvs : List V} {n : Nat} {sp : Sp} {x m : Str} {p pos apos : Pos} {e o : Expr} {es : List Expr} {kws : List Keyword} {ta : TE} {t tk : TA} {E : St → XK}
/-- the arguments of a call -/
structure PAr (X : Cx) (pos : Pos) (es : List Expr) (kws : List Keyword) (ks : List Str) (t tk : TA) : Prop where
  run : ∀ (pins : List (Addr × Obj)) (s : Shared) (σ : St) (H : Hp) (f : Value) (first : List Value) (R : List V → List V → Hp → Prop) (Q : Value → Shared → Prop), PySem.W.keepIn X.K f = true → Inv X pins σ H s → (t σ H fun vs H1 => tk σ H1 fun zs H2 => R vs zs H2) →
    (∀ us ws vs zs H2 s2, Inv X pins σ H2 s2 → Vals vs us → Vals zs ws → R vs zs H2 → wpAny (model X.prog X.w) X.A (call f (first ++ us) (ks.zip ws)) Q X.xe s2) →
    wpAny (model X.prog X.w) X.A (callWith pos f first (backTo pos (starEach es X.env)) (backToKw pos (keywordEach kws X.env))) Q X.xe s
theorem par_pos (ha : PA X (e :: es) t) (he : starEach (e :: es) X.env = (false, eval e X.env) :: starEach es X.env := by rfl) (hpl : (backTo pos (starEach es X.env)).any (·.1) = false := by rfl) : PAr X pos (e :: es) [] [] t tNil :=
  ⟨fun pins s σ H f first R Q hk I h run => PySem.W.callWith_K (h₀ := X.base) I.ok.mod.kin hk (thn (ha.run pos pins s σ H _ I h) fun us s1 ⟨vs, H1, I1, r, q⟩ => ⟨I1.kIn, run us [] vs [] H1 s1 I1 r .nil q⟩) he hpl⟩
theorem par_0 : PAr X pos [] [] [] tNil tNil :=
  ⟨fun pins s σ H f first R Q hk I h run => PySem.W.callWith_K0 I.kIn hk (run [] [] [] [] H s I .nil .nil h)⟩
theorem par_kw (hkw : PK X kws tk) (hall : (backToKw pos (keywordEach kws X.env)).all (·.1.isSome) = true := by rfl) (hks : (backToKw pos (keywordEach kws X.env)).filterMap (·.1) = ks := by rfl)
    (hpl : (backToKw pos (keywordEach kws X.env)).any (·.1.isNone) = false := by rfl) : PAr X pos [] kws ks tNil tk :=
  ⟨fun pins s σ H f first R Q hk I h run => PySem.W.callWith_KW0 (h₀ := X.base) I.ok.mod.kin hk hall (thn (hkw.run pos pins s σ H _ I h) fun ws s2 ⟨zs, H2, I2, rz, q⟩ => ⟨I2.kIn, by rw [hks]; exact run [] ws [] zs H2 s2 I2 .nil rz q⟩) hpl⟩
theorem par_both (ha : PA X (e :: es) t) (hkw : PK X kws tk) (hall : (backToKw pos (keywordEach kws X.env)).all (·.1.isSome) = true := by rfl) (hks : (backToKw pos (keywordEach kws X.env)).filterMap (·.1) = ks := by rfl)
    (he : starEach (e :: es) X.env = (false, eval e X.env) :: starEach es X.env := by rfl) (hpl : ((backTo pos (starEach (e :: es) X.env)).any (·.1) || (backToKw pos (keywordEach kws X.env)).any (·.1.isNone)) = false := by rfl) : PAr X pos (e :: es) kws ks t tk :=
  ⟨fun pins s σ H f first R Q hk I h run => PySem.W.callWith_KW (h₀ := X.base) I.ok.mod.kin hk hall (thn (ha.run pos pins s σ H _ I h) fun us s1 ⟨vs, H1, I1, r, q⟩ =>
    thn (hkw.run pos pins s1 σ H1 _ I1 q) fun ws s2 ⟨zs, H2, I2, rz, q2⟩ => ⟨I2.kIn, by rw [hks]; exact run us ws vs zs H2 s2 I2 r rz q2⟩) hpl he⟩
/-- the callee runs -/
theorem run_c {pins : List (Addr × Obj)} {σ : St} {H : Hp} {s : Shared} {Q : VK} {us ws : List Value} {vs zs : List V} {E : XK} (F : FnOk X.prog X.w X.K X.mg X.base CX k f fd ps sp) (hr : Room k X.A) (hb : CallB X.K fd ps n ks pl dvs kvs) (hx : PassesAt CX X σ E)
    (I : Inv X pins σ H s) (r : Vals vs us) (rz : Vals zs ws) (hn : vs.length = n) (hm : zs.length = ks.length) (h : sp (plan vs zs dvs kvs pl) H Q E) : wpAny (model X.prog X.w) X.A (call (.ref f) us (ks.zip ws)) (EP X pins σ Q) X.xe s := by
  obtain ⟨args, ra, b⟩ := hb s us ws vs zs I.kIn (r.length.symm.trans hn) (rz.length.symm.trans hm) r rz
  refine wpAny_call (codeAny_mono (F.run X.A X.stack s H ⟨us, ks.zip ws⟩ args _ Q E hr I.env0 b ra h) fun r s' hq => ?_)
  cases r with
  | error e => exact hx pins H s e s' I hq
  | ok fl =>
    cases fl with
    | ret u => exact I.after hq
    | next => exact False.elim hq
    | brk => exact False.elim hq
    | cont => exact False.elim hq
def tCl (sp : Sp) (pl : List Src) (dvs kvs : List V) (n m : Nat) (E : St → XK) (t tk : TA) : TE := fun σ H Q => t σ H fun vs H1 => tk σ H1 fun zs H2 => vs.length = n ∧ zs.length = m ∧ sp (plan vs zs dvs kvs pl) H2 Q (E σ)
theorem pe_cl (F : FnOk X.prog X.w X.K X.mg X.base CX k f fd ps sp) (hr : Room k X.A) (hg : Gl X x) (hm : X.mg x = some (.ref f)) (hk : PySem.W.keepIn X.K (.ref f) = true) (hb : CallB X.K fd ps n ks pl dvs kvs) (hx : ∀ σ, PassesAt CX X σ (E σ))
    (ha : PAr X pos es kws ks t tk) (hdb : (x == ("__debug__" : Str)) = false := by decide) : PE X (.Call (.Name x p) es kws pos) (tCl sp pl dvs kvs n ks.length E t tk) := by
  refine ⟨fun pins s σ H Q I h => ?_⟩
  refine wpAny_Call_Name_kw (ld_glob I hg hm ?_ hdb)
  exact ha.run pins s σ H _ [] _ _ hk I h fun us ws vs zs H2 s2 I2 r rz ⟨q1, q2, q3⟩ => run_c F hr hb (hx σ) I2 r rz q1 q2 q3
/-- o.m(..) -/
def tMe (C : Addr) (m : Str) (sp : Sp) (pl : List Src) (dvs kvs : List V) (n l : Nat) (E : St → XK) (ta : TE) (t tk : TA) : TE := fun σ H Q => ta σ H fun x H1 => ∃ a dx fs, x = .ref a ∧ H1 a = some (.ins C dx fs) ∧ fs.lookup m = none ∧
  t σ H1 fun vs H2 => tk σ H2 fun zs H3 => vs.length + 1 = n ∧ zs.length = l ∧ sp (plan (x :: vs) zs dvs kvs pl) H3 Q (E σ)
theorem pe_me {pl' : Sem Bool} (he : PE X o ta) (c : Cls X.K C) (hm : Meth X.K C m f) (F : FnOk X.prog X.w X.K X.mg X.base CX k f fd ps sp) (hr : Room k X.A) (hb : CallB X.K fd ps n ks pl dvs kvs) (hx : ∀ σ, PassesAt CX X σ (E σ))
    (ha : PAr X pos es kws ks t tk)
    (ht : eval (.Call (.Attribute o m apos) es kws pos) X.env = (do
      let ov ← eval o X.env
      standAt apos.atName
      let (f, first) ← holding [ov] (getMethod ov m pl')
      callWith pos f first (backTo pos (starEach es X.env)) (backToKw pos (keywordEach kws X.env))) := by rfl) :
    PE X (.Call (.Attribute o m apos) es kws pos) (tMe C m sp pl dvs kvs n ks.length E ta t tk) := by
  refine ⟨fun pins s σ H Q I h => ?_⟩
  refine PySem.W.methodCall_KW (pl := pl') (thn (he.run pins s σ H _ I h) fun u s1 ⟨x, H1, I1, rx, a, dx, fs, ex, ea, l, q⟩ => ?_) ht
  subst ex
  obtain rfl : u = Value.ref a := rx
  refine getmeth_ok I1 ea c hm l ?_
  exact ha.run pins s1 σ H1 _ [.ref a] _ _ hm.kp I1 q fun us ws vs zs H2 s2 I2 r rz ⟨q1, q2, q3⟩ => run_c F hr hb (hx σ) I2 (.cons (show RelV (.ref a) (.ref a) from rfl) r) rz q1 q2 q3
/-- C(..) -/
def tMk (C : Addr) (sp : Sp) (pl : List Src) (dvs kvs : List V) (n l : Nat) (E : St → XK) (t tk : TA) : TE := fun σ H Q => t σ H fun vs H1 => tk σ H1 fun zs H2 => vs.length + 1 = n ∧ zs.length = l ∧ ∀ x dx, H2 x = none → H2 dx = none → dx ≠ x →
  sp (plan (.ref x :: vs) zs dvs kvs pl) (upd (upd H2 dx (.own x)) x (.ins C dx [])) (fun v H3 => v = .non ∧ Q (.ref x) H3) (E σ)
theorem pe_mk (M : Mk X.K C f) (F : FnOk X.prog X.w X.K X.mg X.base CX k f fd ps sp) (hr : Room (k + 1) X.A) (hg : Gl X x) (hm : X.mg x = some (.ref C)) (hb : CallB X.K fd ps n ks pl dvs kvs) (hx : ∀ σ, PassesAt CX X σ (E σ))
    (ha : PAr X pos es kws ks t tk) (hdb : (x == ("__debug__" : Str)) = false := by decide) : PE X (.Call (.Name x p) es kws pos) (tMk C sp pl dvs kvs n ks.length E t tk) := by
  refine ⟨fun pins s σ H Q I h => ?_⟩
  refine wpAny_Call_Name_kw (ld_glob I hg hm ?_ hdb)
  refine ha.run pins s σ H _ [] _ _ M.kp I h fun us ws vs zs H2 s2 I2 r rz ⟨q1, q2, q3⟩ => ?_
  have hq := q3 (s2.heap.objs.size + 1) s2.heap.objs.size (I2.hok.fresh (Nat.le_succ _)) (I2.hok.fresh (Nat.le_refl _)) (Nat.ne_of_lt (Nat.lt_succ_self _))
  have I3 := Inv.made (C := C) I2
  have r3 : Vals (V.ref (s2.heap.objs.size + 1) :: vs) (Value.ref (s2.heap.objs.size + 1) :: us) := .cons rfl r
  obtain ⟨args, ra, b⟩ := hb _ _ ws _ zs I3.kIn (r3.length.symm.trans q1) (rz.length.symm.trans q2) r3 rz
  refine wpAny_call (make_map (f := f) I2.kIn M.makes M.init (beq_iff_eq.mp M.fn) (codeAny_mono (F.run _ X.stack _ _ ⟨Value.ref (s2.heap.objs.size + 1) :: us, ks.zip ws⟩ args _ _ (E σ) (hr.make C us (ks.zip ws))
    (I3.env0.make C us (ks.zip ws)) b ra hq) fun r s' hq' => ?_))
  cases r with
  | error e => exact hx σ pins _ _ e s' I3 hq'
  | ok fl =>
    cases fl with
    | ret u =>
      obtain ⟨v, H', I4, rv, ev, q5⟩ := I3.after hq'
      subst ev
      exact ⟨rv, ⟨V.ref (s2.heap.objs.size + 1), H', I4, rfl, q5⟩⟩
    | next => exact False.elim hq'
    | brk => exact False.elim hq'
    | cont => exact False.elim hq'
end
/-! ### bundles -/
/-- where the classes stand -/
structure Ad where
  Space : Addr
  Node : Addr
  Ring : Addr
  Seeker : Addr
  Found : Addr
  Desk : Addr
  NoSpace : Addr
  NoPoint : Addr
  NoRing : Addr
  NoMember : Addr
  Taken : Addr
  Fixed : Addr
  Alone : Addr
  LastOne : Addr
  TooFar : Addr
  NoText : Addr
  NoValue : Addr
  NoOrder : Addr
  NoRow : Addr
  RingError : Addr
  /-- the tables of code objects, whose names they bear -/
  tabs : List (Addr × Str)
abbrev FunS (K : PySem.W.Frag) (x qual : Str) (st : Stmt) (dvs : List V) (kws : List (Str × V)) (f : Addr) (fd : FuncData) : Prop := FunD K x qual (defArgs st) (defBody st) (defScope st) dvs kws f fd
/-- a def of the text (facts), a method, a class's __init__ -/
structure DF (K : PySem.W.Frag) (mg : Str → Option Value) (x : Str) (st : Stmt) (dvs : List V) (kws : List (Str × V)) : Prop where
  ex : ∃ f fd, mg x = some (.ref f) ∧ FunS K x x st dvs kws f fd
structure MF (K : PySem.W.Frag) (C : Addr) (m qual : Str) (st : Stmt) (dvs : List V) (kws : List (Str × V)) : Prop where
  ex : ∃ f fd, Meth K C m f ∧ FunS K m qual st dvs kws f fd
structure IF (K : PySem.W.Frag) (C : Addr) (qual : Str) (st : Stmt) (dvs : List V) (kws : List (Str × V)) : Prop where
  ex : ∃ f fd, Mk K C f ∧ FunS K "__init__" qual st dvs kws f fd
/-- .. that keeps its promise -/
structure DK (P : Program) (w : World) (K : PySem.W.Frag) (mg : Str → Option Value) (base : Heap) (CX : CXT) (k : Nat) (x : Str) (ps : List Str) (st : Stmt) (dvs : List V) (kws : List (Str × V)) (sp : Sp) : Prop where
  ex : ∃ f fd, mg x = some (.ref f) ∧ FunS K x x st dvs kws f fd ∧ FnOk P w K mg base CX k f fd ps sp
structure MK (P : Program) (w : World) (K : PySem.W.Frag) (mg : Str → Option Value) (base : Heap) (CX : CXT) (k : Nat) (C : Addr) (m qual : Str) (ps : List Str) (st : Stmt) (dvs : List V) (kws : List (Str × V)) (sp : Sp) : Prop where
  ex : ∃ f fd, Meth K C m f ∧ FunS K m qual st dvs kws f fd ∧ FnOk P w K mg base CX k f fd ps sp
structure IK (P : Program) (w : World) (K : PySem.W.Frag) (mg : Str → Option Value) (base : Heap) (CX : CXT) (k : Nat) (C : Addr) (qual : Str) (ps : List Str) (st : Stmt) (dvs : List V) (kws : List (Str × V)) (sp : Sp) : Prop where
  ex : ∃ f fd, Mk K C f ∧ FunS K "__init__" qual st dvs kws f fd ∧ FnOk P w K mg base CX k f fd ps sp
section
variable {P : Program} {w : World} {K : PySem.W.Frag} {mg : Str → Option Value} {base : Heap} {x qual : Str} {st : Stmt} {N ps : List Str} {k : Nat} {sp : Sp} {t : TS} {tx : XK → TS} {dvs : List V} {kws : List (Str × V)} {f : Addr} {fd : FuncData} {C : Addr} {m : Str}
/-- THE RULES: a body that lets nothing out, one that may raise -/
theorem fn0 (F : FunS K x qual st dvs kws f fd) (S : FnScope N ps (defScope st)) (len : ∀ vs H Q E, sp vs H Q E → vs.length = ps.length)
    (der : ∀ (f : Addr) (cdv : Value) (A : Around) (outer : List Env) (s : Shared) (H : Hp) (E : XK), Room k (A.deeper (PyProof.Rows.envOfC qual (defScope st) s.heap.objs.size f cdv)) → PSs (cxOf CX0 P w K mg base N qual (defScope st) f cdv A outer s H E).nox (defBody st) t)
    (rd : ∀ vs H Q E, sp vs H Q E → t { nx := fun _ H' => Q .non H', rt := Q } (start N vs) H) : FnOk P w K mg base CX0 (k + 1) f fd ps sp :=
  F.ok S len fun cdv A outer s H vs Q E hr h => ⟨t, (der f cdv A outer s H E hr).nox, rd vs H Q E h⟩
theorem fnx (F : FunS K x qual st dvs kws f fd) (S : FnScope N ps (defScope st)) (len : ∀ vs H Q E, sp vs H Q E → vs.length = ps.length)
    (der : ∀ (f : Addr) (cdv : Value) (A : Around) (outer : List Env) (s : Shared) (H : Hp) (E : XK), Room k (A.deeper (PyProof.Rows.envOfC qual (defScope st) s.heap.objs.size f cdv)) → PSs (cxOf (L2.CX P w) P w K mg base N qual (defScope st) f cdv A outer s H E) (defBody st) (tx E))
    (rd : ∀ vs H Q E, sp vs H Q E → tx E { nx := fun _ H' => Q .non H', rt := Q } (start N vs) H) : FnOk P w K mg base (L2.CX P w) (k + 1) f fd ps sp :=
  F.ok S len fun cdv A outer s H vs Q E hr h => ⟨tx E, der f cdv A outer s H E hr, rd vs H Q E h⟩
theorem DF.mk2 {CX : CXT} (F : DF K mg x st dvs kws) (h : ∀ f fd, FunS K x x st dvs kws f fd → FnOk P w K mg base CX k f fd ps sp) : DK P w K mg base CX k x ps st dvs kws sp :=
  let ⟨f, fd, hm, F⟩ := F.ex; ⟨f, fd, hm, F, h f fd F⟩
theorem MF.mk2 {CX : CXT} (F : MF K C m qual st dvs kws) (h : ∀ f fd, FunS K m qual st dvs kws f fd → FnOk P w K mg base CX k f fd ps sp) : MK P w K mg base CX k C m qual ps st dvs kws sp :=
  let ⟨f, fd, hm, F⟩ := F.ex; ⟨f, fd, hm, F, h f fd F⟩
theorem IF.mk2 {CX : CXT} (F : IF K C qual st dvs kws) (h : ∀ f fd, FunS K "__init__" qual st dvs kws f fd → FnOk P w K mg base CX k f fd ps sp) : IK P w K mg base CX k C qual ps st dvs kws sp :=
  let ⟨f, fd, hm, F⟩ := F.ex; ⟨f, fd, hm, F, h f fd F⟩
end
section
variable {X : Cx} {CX : CXT} {k j : Nat} {C : Addr} {ps ks : List Str} {pl : List Src} {dvs dv kv : List V} {kw' : List (Str × V)} {n : Nat} {sp : Sp} {x m qual : Str} {st : Stmt} {p pos apos : Pos} {o : Expr} {es : List Expr} {kws : List Keyword} {ta : TE} {t tk : TA} {E : St → XK}
theorem pe_dk (D : DK X.prog X.w X.K X.mg X.base CX k x ps st dvs kw' sp) (hr : Room j X.A) (hj : k ≤ j) (hg : Gl X x) (hb : ∀ {f fd}, FunS X.K x x st dvs kw' f fd → CallB X.K fd ps n ks pl dv kv) (hx : ∀ σ, PassesAt CX X σ (E σ))
    (ha : PAr X pos es kws ks t tk) (hdb : (x == ("__debug__" : Str)) = false := by decide) : PE X (.Call (.Name x p) es kws pos) (tCl sp pl dv kv n ks.length E t tk) := by
  obtain ⟨f, fd, hm, F, ok⟩ := D.ex
  exact pe_cl ok (hr.mono hj) hg hm F.kp (hb F) hx ha hdb
theorem pe_mkk (D : MK X.prog X.w X.K X.mg X.base CX k C m qual ps st dvs kw' sp) {pl' : Sem Bool} (he : PE X o ta) (c : Cls X.K C) (hr : Room j X.A) (hj : k ≤ j) (hb : ∀ {f fd}, FunS X.K m qual st dvs kw' f fd → CallB X.K fd ps n ks pl dv kv) (hx : ∀ σ, PassesAt CX X σ (E σ))
    (ha : PAr X pos es kws ks t tk)
    (ht : eval (.Call (.Attribute o m apos) es kws pos) X.env = (do
      let ov ← eval o X.env
      standAt apos.atName
      let (f, first) ← holding [ov] (getMethod ov m pl')
      callWith pos f first (backTo pos (starEach es X.env)) (backToKw pos (keywordEach kws X.env))) := by rfl) :
    PE X (.Call (.Attribute o m apos) es kws pos) (tMe C m sp pl dv kv n ks.length E ta t tk) := by
  obtain ⟨f, fd, hm, F, ok⟩ := D.ex
  exact pe_me he c hm ok (hr.mono hj) (hb F) hx ha ht
theorem pe_ik (D : IK X.prog X.w X.K X.mg X.base CX k C qual ps st dvs kw' sp) (hr : Room j X.A) (hj : k + 1 ≤ j) (hg : Gl X x) (hm : X.mg x = some (.ref C)) (hb : ∀ {f fd}, FunS X.K "__init__" qual st dvs kw' f fd → CallB X.K fd ps n ks pl dv kv) (hx : ∀ σ, PassesAt CX X σ (E σ))
    (ha : PAr X pos es kws ks t tk) (hdb : (x == ("__debug__" : Str)) = false := by decide) : PE X (.Call (.Name x p) es kws pos) (tMk C sp pl dv kv n ks.length E t tk) := by
  obtain ⟨f, fd, M, F, ok⟩ := D.ex
  exact pe_mk M ok (hr.mono hj) hg hm (hb F) hx ha hdb
/-- exceptions of a callee: none comes; they are the def's own; they are the try's -/
theorem xa0 (σ : St) : PassesAt CX0 X σ E0 := fun _ _ _ _ _ _ h => h.elim
theorem xaL (σ : St) : PassesAt (L2.CX X.prog X.w) X σ E0 := fun pins H s e s' I h => passL pins σ H s e s' I h
theorem xaC {E : XK} (tk : Takes X (fun cls d _ H => E cls d H)) (σ : St) : PassesAt (L2.CX X.prog X.w) X σ E := fun pins H s e s' I h => passes_call tk (fun _ _ _ _ q => q) pins σ H s e s' I h
end
/-! ### steps -/
section
variable {σ : St} {H : Hp} {Q : VK} {ta : TE} {t tk : TA} {E : St → XK} {sp : Sp} {pl : List Src} {dvs kvs : List V} {n l : Nat} {C : Addr} {m : Str}
instance p_cl : Stp (tCl sp pl dvs kvs n l E t tk σ H Q) (t σ H fun vs H1 => tk σ H1 fun zs H2 => vs.length = n ∧ zs.length = l ∧ sp (plan vs zs dvs kvs pl) H2 Q (E σ)) := ⟨fun q => q⟩
instance p_me : Stp (tMe C m sp pl dvs kvs n l E ta t tk σ H Q) (ta σ H fun x H1 => ∃ a dx fs, x = .ref a ∧ H1 a = some (.ins C dx fs) ∧ fs.lookup m = none ∧
  t σ H1 fun vs H2 => tk σ H2 fun zs H3 => vs.length + 1 = n ∧ zs.length = l ∧ sp (plan (x :: vs) zs dvs kvs pl) H3 Q (E σ)) := ⟨fun q => q⟩
instance p_mk : Stp (tMk C sp pl dvs kvs n l E t tk σ H Q) (t σ H fun vs H1 => tk σ H1 fun zs H2 => vs.length + 1 = n ∧ zs.length = l ∧ ∀ x dx, H2 x = none → H2 dx = none → dx ≠ x →
  sp (plan (.ref x :: vs) zs dvs kvs pl) (upd (upd H2 dx (.own x)) x (.ins C dx [])) (fun v H3 => v = .non ∧ Q (.ref x) H3) (E σ)) := ⟨fun q => q⟩
/-- an instance at hand -/
theorem g_ins {a dx : Addr} {fs : List (Str × V)} {P : Prop} (h : H a = some (.ins C dx fs)) (hl : fs.lookup m = none) (q : P) : ∃ a' dx fs, V.ref a = .ref a' ∧ H a' = some (.ins C dx fs) ∧ fs.lookup m = none ∧ P := ⟨a, dx, fs, rfl, h, hl, q⟩
theorem g_fld {K : PySem.W.Frag} {a dx : Addr} {fs : List (Str × V)} {f : Str} {v : V} {P : V → Prop} (h : H a = some (.ins C dx fs)) (hc : Cls K C) (hn : NoAttr K C f) (hl : fs.lookup f = some v) (q : P v) :
    ∃ a' C dx fs v, V.ref a = .ref a' ∧ H a' = some (.ins C dx fs) ∧ Cls K C ∧ NoAttr K C f ∧ fs.lookup f = some v ∧ P v := ⟨a, C, dx, fs, v, rfl, h, hc, hn, hl, q⟩
instance p_fld {K : PySem.W.Frag} {f : Str} : Stp (tFld K ta f σ H Q) (ta σ H fun x H1 => ∃ a C dx fs v, x = .ref a ∧ H1 a = some (.ins C dx fs) ∧ Cls K C ∧ NoAttr K C f ∧ fs.lookup f = some v ∧ Q v H1) := ⟨fun q => q⟩
end
end NN
/-! own: the end of a law whose text has classes -/
namespace NN
open PySem PyProof.Rows L2
theorem fund_p {K : PySem.W.Frag} {x qual : Str} {st : Stmt} {f : Addr} {od an : Option Addr} {sl : Array (Option Value)} {oc kV dc pm cd ct : Value}
    (l : K.lookup f = some ⟨oc, od, .func (PySem.W.fnOf x qual (defArgs st) (defBody st) (defScope st) .none kV dc pm an cd ct), sl⟩)
    (c : PySem.W.codeIn K cd qual = true) (k : PySem.W.keepIn K (.ref f) = true) : FunS K x qual st [] [] f (PySem.W.fnOf x qual (defArgs st) (defBody st) (defScope st) .none kV dc pm an cd ct) :=
  ⟨⟨oc, od, .none, kV, dc, pm, an, cd, ct, sl, rfl, l, c, .inl ⟨rfl, rfl⟩, .inl rfl⟩, k⟩
theorem fund_1 {K : PySem.W.Frag} {x qual : Str} {st : Stmt} {f T : Addr} {od an odT : Option Addr} {sl slT : Array (Option Value)} {oc kV dc pm cd ct ocT u : Value} {n : Nat} {v : V}
    (l : K.lookup f = some ⟨oc, od, .func (PySem.W.fnOf x qual (defArgs st) (defBody st) (defScope st) (.ref T) kV dc pm an cd ct), sl⟩)
    (c : PySem.W.codeIn K cd qual = true) (k : PySem.W.keepIn K (.ref f) = true) (lT : K.lookup T = some ⟨ocT, odT, .seq #[u] n, slT⟩) (r : RelV v u) : FunS K x qual st [v] [] f (PySem.W.fnOf x qual (defArgs st) (defBody st) (defScope st) (.ref T) kV dc pm an cd ct) :=
  ⟨⟨oc, od, .ref T, kV, dc, pm, an, cd, ct, sl, rfl, l, c, .inr ⟨by simp, T, _, [u], n, rfl, lT, rfl, .cons r .nil⟩, .inl rfl⟩, k⟩
/-- the law's own def, at the end -/
theorem law_fin2 {l : PySem.W.OpenLaw} {w : World} {K : PySem.W.Frag} {mg : Str → Option Value} {CX : CXT} {x p : Str} {st : Stmt} {k : Nat} {sp : Sp} {fa : Addr} (F : DF K mg x st [] []) (hfa : mg x = some (.ref fa)) (B : PlainB x [p] st)
    (ok : ∀ (base : Heap) (f : Addr) (fd : FuncData), FunS K x x st [] [] f fd → FnOk l.prog w K mg base CX k f fd [p] sp) :
    ∃ fd : FuncData, (∀ (s : Shared) (v : Value), BindsTo s fd ⟨[v], []⟩ [(p, v)]) ∧ ∀ base : Heap, K.In base → base.Ns mainGlobals mg → FnOk l.prog w K mg base CX k fa fd [p] sp := by
  obtain ⟨f, fd, hm, F⟩ := F.ex
  have e : f = fa := by
    have z := hm.symm.trans hfa
    injection z with z
    injection z
  subst e
  refine ⟨fd, fun s v => ?_, fun base _ _ => ok base f fd F⟩
  obtain ⟨oc, od, dV, kV, doc, pm, an, cdv, ct, osl, rfl, lk, hcd, hD, _⟩ := F.ex
  rcases hD with ⟨_, rfl⟩ | ⟨z, _⟩
  · exact .of_eq (B kV doc pm an cdv ct [v] rfl)
  · exact absurd rfl z
def Z0 : Ad := ⟨0, 0, 0, 0, 0, 0, 0, 0, 0, 0, 0, 0, 0, 0, 0, 0, 0, 0, 0, 0, []⟩
end NN
/-! own: zip(a, b, strict=True) of two lists of one length -/
namespace NZ
open PySem
open PySem.Sem (wp)
theorem typeCall_zipS (a b : Value) : checkTypeCall "zip" ⟨[a, b], [(Str.ofString "strict", .bool true)]⟩ = pure () := by kernel_rfl
theorem newCall_zipS (a b : Value) : checkBuiltinCall "zip.__new__" ⟨[.type "zip", a, b], [(Str.ofString "strict", .bool true)]⟩ = pure () := by kernel_rfl
theorem args_object_initS (obj a b : Value) : argsOk "object.__init__" ⟨[obj, a, b], [(Str.ofString "strict", .bool true)]⟩ := by unfold argsOk; kernel_rfl
/-- a strict zip -/
abbrev IsZipS (h : Heap) (z TI TO : Addr) (f0 : Value) : Prop :=
  h.get? z = some { cls := .type "zip", dict := none, data := .fields #[f0, .bool false, .bool true, .ref TI, .ref TO], slots := #[] }
section
variable {prog : Program} {w : World} {A : Around} {E : Value → Shared → Prop} {s : Shared}
theorem nextOrEnd_item {it l : Addr} {i : Nat} {items} {x : Value} {Q : Option Value → Shared → Prop} (hit : s.heap.IsListIter it l i) (hl : s.heap.IsList l items) (hx : items[i]? = some x)
    (hQ : ∀ h', h'.IsListIter it l (i + 1) → Heap.SameBut it s.heap h' → Q (some x) { s with heap := h' }) : wpAny (model prog w) A (Builtin.SmallTypes.nextOrEnd (.ref it)) Q E s := by
  unfold Builtin.SmallTypes.nextOrEnd
  exact wpAny_bind (wpAny_attempt (wpAny_nextOf_list_item hit hl hx fun h' a b => wpAny_pure (hQ h' a b)))
theorem nextOrEnd_end {it l : Addr} {i : Nat} {items} {Q : Option Value → Shared → Prop} (hh : A.handled = none) (hit : s.heap.IsListIter it l i) (hl : s.heap.IsList l items) (hx : items[i]? = none)
    (hQ : ∀ h', Heap.ExtBut it s.heap h' → Q none { s with heap := h' }) : wpAny (model prog w) A (Builtin.SmallTypes.nextOrEnd (.ref it)) Q E s := by
  unfold Builtin.SmallTypes.nextOrEnd
  refine wpAny_bind (wpAny_attempt (wpAny_nextOf_list_end hh hit hl hx fun h' e k he => ?_))
  obtain ⟨o, ho, hc⟩ := he
  exact wpAny_bind (wpAny_isInstance (T := "StopIteration") (b := true) ⟨o, ho, hc⟩ isSubtype_stop (wpAny_pure (hQ _ k)))
theorem zip_next_item {z TI TO i1 i2 l1 l2 : Addr} {k1 k2 : Nat} {xs ys : Array Value} {x y a b : Value} {Q : Value → Shared → Prop} (D : ZipApart z TI TO i1 i2 l1 l2)
    (hz : IsZipS s.heap z TI TO .none) (hTI : IsPair s.heap TI (.ref i1) (.ref i2)) (hTO : IsPair s.heap TO a b)
    (h1 : s.heap.IsListIter i1 l1 k1) (h2 : s.heap.IsListIter i2 l2 k2) (hl1 : s.heap.IsList l1 xs) (hl2 : s.heap.IsList l2 ys) (hx : xs[k1]? = some x) (hy : ys[k2]? = some y)
    (hQ : ∀ h', IsZipS h' z TI TO (rawInt s.heap.objs.size) → IsPair h' TO x y → h'.IsListIter i1 l1 (k1 + 1) → h'.IsListIter i2 l2 (k2 + 1) → IsPair h' s.heap.objs.size x y → h'.objs.size = s.heap.objs.size + 1 →
      (∀ c o, c ≠ z → c ≠ TO → c ≠ i1 → c ≠ i2 → s.heap.get? c = some o → h'.get? c = some o) → Q (.ref s.heap.objs.size) { s with heap := h' }) :
    wpAny (model prog w) A (Builtin.«zip.__next__» ⟨[.ref z], []⟩) (fun fin s' => ∃ v, fin = .done (.ret v) ∧ Q v s') E s := by
  show wpAny _ _ (field (.ref z) 2 >>= _) _ _ _
  refine wpAny_bind (wpAny_field hz rfl (x := .bool true) rfl ?_)
  show wpAny _ _ (field (.ref z) 3 >>= _) _ _ _
  refine wpAny_bind (wpAny_field hz rfl (x := .ref TI) rfl ?_)
  refine wpAny_bind (wpAny_seqItems hTI rfl ?_)
  show wpAny _ _ (Builtin.SmallTypes.ownedTupleIsFree (.ref z) >>= _) _ _ _
  refine wpAny_bind ?_
  unfold Builtin.SmallTypes.ownedTupleIsFree
  refine wpAny_bind (wpAny_field hz rfl (x := .none) rfl (wpAny_pure ?_))
  simp only [if_true]
  refine wpAny_bind (wpAny_rule ?_)
  refine wpAny_bind (wpAny_field hz rfl (x := .ref TO) rfl ?_)
  refine wpAny_bind (wpAny_setField_rec hz (by simp) fun h₁ hz₁ hs₁ => ?_)
  replace hz₁ : IsZipS h₁ z TI TO .ellipsis := hz₁
  refine wpAny_bind ?_
  simp only [List.zipIdx_cons, List.zipIdx_nil, List.forIn_cons, List.forIn_nil]
  refine wpAny_bind (wpAny_bind (wpAny_onRaise ?_))
  show wpAny _ _ (Builtin.SmallTypes.nextOrEnd (.ref i1)) _ _ _
  refine nextOrEnd_item (h1.extBut hs₁.extBut D.i1z) (hl1.extBut hs₁.extBut D.l1z) hx fun h₂ h1₂ hs₂ => ?_
  have hTO₂ : IsPair h₂ TO a b := hs₂.extBut _ _ D.TOi1 (hs₁.extBut _ _ D.TOz hTO)
  refine wpAny_bind (wpAny_seqItems hTO₂ rfl ?_)
  refine wpAny_bind (wpAny_updateSeq_pair hTO₂ fun h₃ hTO₃ hs₃ => ?_)
  replace hTO₃ : IsPair h₃ TO x b := hTO₃
  refine wpAny_bind (wpAny_letGo (wpAny_pure ?_))
  refine wpAny_bind (wpAny_bind (wpAny_onRaise ?_))
  show wpAny _ _ (Builtin.SmallTypes.nextOrEnd (.ref i2)) _ _ _
  refine nextOrEnd_item (((h2.extBut hs₁.extBut D.i2z).extBut hs₂.extBut D.i12.symm).extBut hs₃.extBut D.TOi2.symm)
    (((hl2.extBut hs₁.extBut D.l2z).extBut hs₂.extBut D.l2i1).extBut hs₃.extBut D.l2TO) hy fun h₄ h2₄ hs₄ => ?_
  have hTO₄ : IsPair h₄ TO x b := hs₄.extBut _ _ D.TOi2 hTO₃
  refine wpAny_bind (wpAny_seqItems hTO₄ rfl ?_)
  refine wpAny_bind (wpAny_updateSeq_pair hTO₄ fun h₅ hTO₅ hs₅ => ?_)
  replace hTO₅ : IsPair h₅ TO x y := hTO₅
  refine wpAny_bind (wpAny_letGo (wpAny_pure (wpAny_pure ?_)))
  refine wpAny_bind (wpAny_seqItems hTO₅ rfl ?_)
  refine wpAny_bind (wpAny_newTuple ?_)
  have hsz : h₅.objs.size = s.heap.objs.size := by rw [hs₅.1, hs₄.1, hs₃.1, hs₂.1, hs₁.1]
  have hz₅ : IsZipS h₅ z TI TO .ellipsis := hs₅.extBut _ _ D.TOz.symm (hs₄.extBut _ _ D.i2z.symm (hs₃.extBut _ _ D.TOz.symm (hs₂.extBut _ _ D.i1z.symm hz₁)))
  have hk₅ : ∀ c o, c ≠ z → c ≠ TO → c ≠ i1 → c ≠ i2 → s.heap.get? c = some o → h₅.get? c = some o := fun c o c1 c2 c3 c4 e =>
    hs₅.extBut _ _ c2 (hs₄.extBut _ _ c4 (hs₃.extBut _ _ c2 (hs₂.extBut _ _ c3 (hs₁.extBut _ _ c1 e))))
  have h1₅ : h₅.IsListIter i1 l1 (k1 + 1) := ((h1₂.extBut hs₃.extBut D.TOi1.symm).extBut hs₄.extBut D.i12).extBut hs₅.extBut D.TOi1.symm
  have h2₅ : h₅.IsListIter i2 l2 (k2 + 1) := h2₄.extBut hs₅.extBut D.TOi2.symm
  have hzlt : z < h₅.objs.size := Heap.lt_size hz₅
  have hTOlt : TO < h₅.objs.size := Heap.lt_size hTO₅
  show wpAny _ _ (Builtin.SmallTypes.ownedTupleHandOut (.ref z) (.ref h₅.objs.size) >>= _) _ _ _
  refine wpAny_bind ?_
  unfold Builtin.SmallTypes.ownedTupleHandOut
  have hz₆ : IsZipS (h₅.push { cls := .type "tuple", data := .seq #[x, y] }) z TI TO .ellipsis := Heap.get?_push_of_some _ hz₅
  refine wpAny_bind (wpAny_setField_rec hz₆ (by simp) fun h₇ hz₇ hs₇ => ?_)
  replace hz₇ : IsZipS h₇ z TI TO (rawInt h₅.objs.size) := hz₇
  refine wpAny_setField_rec hz₇ (by simp) fun h₈ hz₈ hs₈ => ?_
  replace hz₈ : IsZipS h₈ z TI TO (rawInt h₅.objs.size) := hz₈
  have up : ∀ c o, c ≠ z → h₅.get? c = some o → h₈.get? c = some o := fun c o c1 e => hs₈.extBut _ _ c1 (hs₇.extBut _ _ c1 (Heap.get?_push_of_some _ e))
  have hT₈ : IsPair h₈ h₅.objs.size x y := hs₈.extBut _ _ (Nat.ne_of_gt hzlt) (hs₇.extBut _ _ (Nat.ne_of_gt hzlt) (Heap.get?_push_size _ rfl))
  have hz8 : h₈.objs.size = h₅.objs.size + 1 := by rw [hs₈.1, hs₇.1, Heap.size_push]
  rw [hsz] at hz₈ hT₈ hz8
  refine wpAny_pure ⟨_, rfl, ?_⟩
  show Q (.ref h₅.objs.size) _
  rw [hsz]
  exact hQ h₈ hz₈ (up _ _ D.TOz hTO₅) (h1₅.at fun o e => up _ o D.i1z e) (h2₅.at fun o e => up _ o D.i2z e) hT₈ hz8 fun c o c1 c2 c3 c4 e => up c o c1 (hk₅ c o c1 c2 c3 c4 e)
theorem stopIt {α : Type} {Q : α → Shared → Prop} (hh : A.handled = none) (hE : ∀ h' e, (∀ c o, s.heap.get? c = some o → h'.get? c = some o) → (∃ o, h'.get? e = some o ∧ o.cls = .type "StopIteration") → E (.ref e) { s with heap := h' }) :
    wpAny (model prog w) A (Builtin.SmallTypes.stopIteration : Sem α) Q E s := by
  unfold Builtin.SmallTypes.stopIteration
  refine wpAny_bind ?_
  simp only [newExc, newTuple]
  refine wpAny_bind (wpAny_newObj_type ?_ (by size_fits))
  refine wpAny_bind (m := firstArgMember _ _) (wpAny_of_eq (a := Value.none) (by first | rfl | (simp only [firstArgMember]; rfl)) ?_)
  refine wpAny_newObj_type ?_ (by size_fits)
  simp only [raiseNew]
  refine wpAny_bind (wpAny_handled ?_)
  first | rw [show A.in1.handled = none from hh] | rw [hh]
  refine wpAny_bind (wpAny_pure (wpAny_throw ?_))
  exact hE _ _ (fun c o e => Heap.get?_push_of_some _ (Heap.get?_push_of_some _ e)) ⟨_, Heap.get?_push_size _ rfl, rfl⟩
theorem zip_next_end {z TI TO i1 i2 l1 l2 : Addr} {k1 k2 : Nat} {xs ys : Array Value} {a b : Value} {Q : Fin → Shared → Prop} (hh : A.handled = none) (D : ZipApart z TI TO i1 i2 l1 l2)
    (hz : IsZipS s.heap z TI TO .none) (hTI : IsPair s.heap TI (.ref i1) (.ref i2)) (hTO : IsPair s.heap TO a b)
    (h1 : s.heap.IsListIter i1 l1 k1) (h2 : s.heap.IsListIter i2 l2 k2) (hl1 : s.heap.IsList l1 xs) (hl2 : s.heap.IsList l2 ys) (hx : xs[k1]? = none) (hy : ys[k2]? = none)
    (hE : ∀ h' e, (∀ c o, c ≠ z → c ≠ TO → c ≠ i1 → c ≠ i2 → s.heap.get? c = some o → h'.get? c = some o) → (∃ o, h'.get? e = some o ∧ o.cls = .type "StopIteration") → E (.ref e) { s with heap := h' }) :
    wpAny (model prog w) A (Builtin.«zip.__next__» ⟨[.ref z], []⟩) Q E s := by
  show wpAny _ _ (field (.ref z) 2 >>= _) _ _ _
  refine wpAny_bind (wpAny_field hz rfl (x := .bool true) rfl ?_)
  show wpAny _ _ (field (.ref z) 3 >>= _) _ _ _
  refine wpAny_bind (wpAny_field hz rfl (x := .ref TI) rfl ?_)
  refine wpAny_bind (wpAny_seqItems hTI rfl ?_)
  show wpAny _ _ (Builtin.SmallTypes.ownedTupleIsFree (.ref z) >>= _) _ _ _
  refine wpAny_bind ?_
  unfold Builtin.SmallTypes.ownedTupleIsFree
  refine wpAny_bind (wpAny_field hz rfl (x := .none) rfl (wpAny_pure ?_))
  simp only [if_true]
  refine wpAny_bind (wpAny_rule ?_)
  refine wpAny_bind (wpAny_field hz rfl (x := .ref TO) rfl ?_)
  refine wpAny_bind (wpAny_setField_rec hz (by simp) fun h₁ hz₁ hs₁ => ?_)
  replace hz₁ : IsZipS h₁ z TI TO .ellipsis := hz₁
  refine wpAny_bind ?_
  simp only [List.zipIdx_cons, List.zipIdx_nil, List.forIn_cons, List.forIn_nil]
  refine wpAny_bind (wpAny_bind (wpAny_onRaise ?_))
  show wpAny _ _ (Builtin.SmallTypes.nextOrEnd (.ref i1)) _ _ _
  refine nextOrEnd_end hh (h1.extBut hs₁.extBut D.i1z) (hl1.extBut hs₁.extBut D.l1z) hx fun h₂ hs₂ => ?_
  have hz₂ : IsZipS h₂ z TI TO .ellipsis := hs₂ _ _ D.i1z.symm hz₁
  refine wpAny_bind (wpAny_setField_rec hz₂ (by simp) fun h₃ _ hs₃ => ?_)
  refine wpAny_bind ?_
  show wpAny _ _ (forIn (m := Sem) (List.zipIdx (List.drop 1 [Value.ref i1, Value.ref i2]) 1) PUnit.unit _ >>= _) _ _ _
  simp only [List.drop, List.zipIdx_cons, List.zipIdx_nil, List.forIn_cons, List.forIn_nil]
  refine wpAny_bind (wpAny_bind (wpAny_bind ?_))
  refine nextOrEnd_end hh (((h2.extBut hs₁.extBut D.i2z).extBut hs₂ D.i12.symm).extBut hs₃.extBut D.i2z) (((hl2.extBut hs₁.extBut D.l2z).extBut hs₂ D.l2i1).extBut hs₃.extBut D.l2z) hy fun h₄ hs₄ => ?_
  show wpAny _ _ (pure _) _ _ _
  refine wpAny_pure ?_
  show wpAny _ _ (pure _) _ _ _
  refine wpAny_pure ?_
  refine wpAny_bind (wpAny_rule ?_)
  exact stopIt hh fun h' e k he => hE h' e (fun c o c1 c2 c3 c4 x => k _ _ (hs₄ _ _ c4 (hs₃.extBut _ _ c1 (hs₂ _ _ c3 (hs₁.extBut _ _ c1 x))))) he
theorem pyNext_item {z TI TO i1 i2 l1 l2 : Addr} {k1 k2 : Nat} {xs ys : Array Value} {x y a b : Value} {Q : Option Value → Shared → Prop} (D : ZipApart z TI TO i1 i2 l1 l2)
    (hz : IsZipS s.heap z TI TO .none) (hTI : IsPair s.heap TI (.ref i1) (.ref i2)) (hTO : IsPair s.heap TO a b)
    (h1 : s.heap.IsListIter i1 l1 k1) (h2 : s.heap.IsListIter i2 l2 k2) (hl1 : s.heap.IsList l1 xs) (hl2 : s.heap.IsList l2 ys) (hx : xs[k1]? = some x) (hy : ys[k2]? = some y)
    (hQ : ∀ h', IsZipS h' z TI TO (rawInt s.heap.objs.size) → IsPair h' TO x y → h'.IsListIter i1 l1 (k1 + 1) → h'.IsListIter i2 l2 (k2 + 1) → IsPair h' s.heap.objs.size x y → h'.objs.size = s.heap.objs.size + 1 →
      (∀ c o, c ≠ z → c ≠ TO → c ≠ i1 → c ≠ i2 → s.heap.get? c = some o → h'.get? c = some o) → Q (some (.ref s.heap.objs.size)) { s with heap := h' }) :
    wpAny (model prog w) A (pyNext (.ref z)) Q E s := by
  have hT : s.TypeIs (.ref z) "zip" := ⟨_, hz, rfl⟩
  unfold pyNext
  exact wpAny_bind (wpAny_attempt (wpAny_callSpecial?_slot (name := Str.ofString "__next__") hT F.slot_zip_next
    (wpAny_call_entry F.slot_zip_next hT F.entry_zip_next
      (zip_next_item D hz hTI hTO h1 h2 hl1 hl2 hx hy fun h' a1 a2 a3 a4 a5 a6 a7 => wpAny_pure (hQ h' a1 a2 a3 a4 a5 a6 a7)) (F.args_zip_next_1 _))))
theorem pyNext_end {z TI TO i1 i2 l1 l2 : Addr} {k1 k2 : Nat} {xs ys : Array Value} {a b : Value} {Q : Option Value → Shared → Prop} (hh : A.handled = none) (D : ZipApart z TI TO i1 i2 l1 l2)
    (hz : IsZipS s.heap z TI TO .none) (hTI : IsPair s.heap TI (.ref i1) (.ref i2)) (hTO : IsPair s.heap TO a b)
    (h1 : s.heap.IsListIter i1 l1 k1) (h2 : s.heap.IsListIter i2 l2 k2) (hl1 : s.heap.IsList l1 xs) (hl2 : s.heap.IsList l2 ys) (hx : xs[k1]? = none) (hy : ys[k2]? = none)
    (hQ : ∀ h', (∀ c o, c ≠ z → c ≠ TO → c ≠ i1 → c ≠ i2 → s.heap.get? c = some o → h'.get? c = some o) → Q none { s with heap := h' }) : wpAny (model prog w) A (pyNext (.ref z)) Q E s := by
  have hT : s.TypeIs (.ref z) "zip" := ⟨_, hz, rfl⟩
  unfold pyNext
  refine wpAny_bind (wpAny_attempt (wpAny_callSpecial?_slot (name := Str.ofString "__next__") hT F.slot_zip_next
    (wpAny_call_entry F.slot_zip_next hT F.entry_zip_next (zip_next_end hh D hz hTI hTO h1 h2 hl1 hl2 hx hy fun h' e hk he => ?_) (F.args_zip_next_1 _))))
  obtain ⟨o, ho, hc⟩ := he
  refine wpAny_bind (wpAny_isInstance (T := "StopIteration") (b := true) ⟨o, ho, hc⟩ isSubtype_stop ?_)
  exact wpAny_pure (hQ _ hk)
theorem letGo_zip {elts : List Expr} {x1} {pos : Pos} {z TI TO T : Addr} {Q : Unit → Shared → Prop} (hz : IsZipS s.heap z TI TO (rawInt T))
    (hQ : ∀ h', IsZipS h' z TI TO .none → Heap.SameBut z s.heap h' → Q () { s with heap := h' }) :
    wpAny (model prog w) A (letOwnedTupleGo (.Tuple elts x1 pos) (.ref z) (.ref T)) Q E s := by
  unfold letOwnedTupleGo
  refine wpAny_bind (wpAny_load hz ?_)
  show wpAny _ _ (if (["enumerate", "zip", "dict_itemiterator", "dict_reverseitemiterator", "odict_iterator", "itertools.zip_longest", "itertools.pairwise"].contains "zip" &&
      (#[rawInt T, .bool false, .bool true, .ref TI, .ref TO] : Array Value)[0]? == some (rawInt T)) = true then _ else _) Q E s
  rw [if_pos (by simp)]
  refine wpAny_bind (wpAny_rule ?_)
  show wpAny _ _ (setField (.ref z) 0 .none) Q E s
  exact wpAny_setField_rec hz (by simp) fun h' hz' hs' => hQ h' hz' hs'
theorem pyIter_zip {z TI TO : Addr} {f0 : Value} {Q : Value → Shared → Prop} (hz : IsZipS s.heap z TI TO f0) (h : Q (.ref z) s) : wpAny (model prog w) A (pyIter (.ref z)) Q E s := by
  have hT : s.TypeIs (.ref z) "zip" := ⟨_, hz, rfl⟩
  refine wpAny_pyIter_slot hT F.slot_zip_iter (wpAny_call_entry F.slot_zip_iter hT F.entry_zip_iter ?_ (F.args_zip_iter_1 _))
  show wpAny _ _ (ret (.ref z)) _ _ s
  exact wpAny_pure ⟨_, rfl, "zip", _, hT, F.slot_zip_next.lookup, h⟩
end
abbrev zipHS (h : Heap) (l1 l2 : Addr) : Heap := (zipH4 h l1 l2).push { cls := .type "zip", data := .fields #[.none, .bool false, .bool true, .ref (zipH2 h l1 l2).objs.size, .ref (zipH3 h l1 l2).objs.size] }
theorem meets_zip_newS (l1 l2 : Addr) (xs ys : Array Value) :
    Meets (Builtin.«zip.__new__» ⟨[.type "zip", .ref l1, .ref l2], [(Str.ofString "strict", .bool true)]⟩) (fun _ R s => s.heap.IsList l1 xs ∧ s.heap.IsList l2 ys ∧
      R (.ok (.ret (.ref (zipH4 s.heap l1 l2).objs.size))) { s with heap := zipHS s.heap l1 l2 }) :=
  .of_wp fun prog w A R s h => by
    obtain ⟨hp, g, d, tk, os⟩ := s; obtain ⟨hl1, hl2, h⟩ := h
    have hsub := sub_zip
    have hL1 : Heap.IsList (Shared.heap ⟨hp, g, d, tk, os⟩) l1 xs := hl1
    have hL2 : Heap.IsList (Shared.heap ⟨hp.push { cls := .type "list_iterator", data := .fields #[.ref l1, .int 0 0] }, g, d, tk, os⟩) l2 ys := Heap.IsList.push hl2 _
    have e2 : (Str.ofString "strict" != ("strict" : Str)) = false := by decide +kernel
    have e1 : (Str.ofString "strict" == ("strict" : Str)) = true := by decide +kernel
    wp_walk using wpAny_pyIter_list hL1, wpAny_pyIter_list hL2
    exact ⟨_, rfl, h⟩
section
variable {prog : Program} {w : World} {A : Around} {E : Value → Shared → Prop} {s : Shared}
theorem call_zipS {l1 l2 : Addr} {xs ys : Array Value} {Q : Value → Shared → Prop} (hl1 : s.heap.IsList l1 xs) (hl2 : s.heap.IsList l2 ys)
    (h : ∀ h', IsZipS h' (s.heap.objs.size + 4) (s.heap.objs.size + 2) (s.heap.objs.size + 3) .none → IsPair h' (s.heap.objs.size + 2) (.ref s.heap.objs.size) (.ref (s.heap.objs.size + 1)) →
      IsPair h' (s.heap.objs.size + 3) .none .none → h'.IsListIter s.heap.objs.size l1 0 → h'.IsListIter (s.heap.objs.size + 1) l2 0 → h'.objs.size = s.heap.objs.size + 5 →
      (∀ c o, s.heap.get? c = some o → h'.get? c = some o) → Q (.ref (s.heap.objs.size + 4)) { s with heap := h' }) :
    wpAny (model prog w) A (call (.type "zip") [.ref l1, .ref l2] [(Str.ofString "strict", .bool true)]) Q E s := by
  refine callType_newKw F.called_zip (by decide) (typeCall_zipS _ _) (newCall_zipS _ _) (fun obj => args_object_initS obj _ _) F.entry_zip_new
    (meets_zip_newS l1 l2 xs ys) ⟨hl1, hl2, ?_⟩
  have z1 : (zipH1 s.heap l1).objs.size = s.heap.objs.size + 1 := Heap.size_push ..
  have z2 : (zipH2 s.heap l1 l2).objs.size = s.heap.objs.size + 2 := by rw [Heap.size_push, z1]
  have z3 : (zipH3 s.heap l1 l2).objs.size = s.heap.objs.size + 3 := by rw [Heap.size_push, z2]
  have z4 : (zipH4 s.heap l1 l2).objs.size = s.heap.objs.size + 4 := by rw [Heap.size_push, z3]
  have z5 : (zipHS s.heap l1 l2).objs.size = s.heap.objs.size + 5 := by rw [Heap.size_push, z4]
  have g5 : (zipHS s.heap l1 l2).get? (zipH4 s.heap l1 l2).objs.size = some _ := Heap.get?_push_size _ rfl
  have g4 : (zipHS s.heap l1 l2).get? (zipH3 s.heap l1 l2).objs.size = some _ := Heap.get?_push_of_some _ (Heap.get?_push_size _ rfl)
  have g3 : (zipHS s.heap l1 l2).get? (zipH2 s.heap l1 l2).objs.size = some _ := Heap.get?_push_of_some _ (Heap.get?_push_of_some _ (Heap.get?_push_size _ rfl))
  have g2 : (zipHS s.heap l1 l2).get? (zipH1 s.heap l1).objs.size = some _ := Heap.get?_push_of_some _ (Heap.get?_push_of_some _ (Heap.get?_push_of_some _ (Heap.get?_push_size _ rfl)))
  have g1 : (zipHS s.heap l1 l2).get? s.heap.objs.size = some _ := Heap.get?_push_of_some _ (Heap.get?_push_of_some _ (Heap.get?_push_of_some _ (Heap.get?_push_of_some _ (Heap.get?_push_size _ rfl))))
  show _ ∧ _
  rw [z2, z3, z4] at g5
  rw [z1, z2] at g3
  rw [z3] at g4
  rw [z1] at g2
  rw [z4]
  exact ⟨⟨_, g5, rfl⟩, h _ g5 g3 g4 ⟨_, g1, rfl, rfl⟩ ⟨_, g2, rfl, rfl⟩ z5 fun c o x =>
    Heap.get?_push_of_some _ (Heap.get?_push_of_some _ (Heap.get?_push_of_some _ (Heap.get?_push_of_some _ (Heap.get?_push_of_some _ x))))⟩
end
end NZ
namespace NZ
open PySem PySem.Spec PyProof.Rows L2
theorem callWith_typeKw {M : Model} {A : Around} {E : Value → Shared → Prop} {s : Shared} {env : Env} {pos : Pos} {T : String} {e : Expr} {rest : List Expr} {kws : List Keyword} {Q : Value → Shared → Prop}
    (h : wpAny M A (spliced (backTo pos (starEach (e :: rest) env))) (fun vs s₁ => wpAny M A (evalAll ((backToKw pos (keywordEach kws env)).map (·.2)))
      (fun kvs s₂ => wpAny M A (call (.type T) vs (((backToKw pos (keywordEach kws env)).filterMap (·.1)).zip kvs)) Q E s₂) E s₁) E s)
    (he : backTo pos (starEach (e :: rest) env) = (false, eval e env) :: backTo pos (starEach rest env) := by rfl)
    (hplain : (backTo pos (starEach (e :: rest) env)).any (·.1) = false := by rfl)
    (hall : (backToKw pos (keywordEach kws env)).all (·.1.isSome) = true := by rfl)
    (hkw : (backToKw pos (keywordEach kws env)).any (·.1.isNone) = false := by rfl) :
    wpAny M A (callWith pos (.type T) [] (backTo pos (starEach (e :: rest) env)) (backToKw pos (keywordEach kws env))) Q E s := by
  have h2 : wpAny M A (evalArgs (.type T) true (backTo pos (starEach (e :: rest) env)) (backToKw pos (keywordEach kws env))) (fun a s₁ => wpAny M A (call (.type T) ([] ++ a.pos) a.kw) Q E s₁) E s := by
    rw [he] at h ⊢
    exact evalArgs_kwB hall h
  unfold callWith
  refine wpAny_bind (wpAny_holding (wpAny_mono h2 (fun a s₁ h₁ => wpAny_bind (wpAny_standAt ?_)) fun _ _ x => x))
  simp only [hplain, hkw, Bool.or_false]
  refine wpAny_bind (wpAny_pure ?_)
  exact wpAny_bind (wpAny_mono h₁ (fun r s₂ hr => wpAny_bind (wpAny_holding (wpAny_point (wpAny_pure hr)))) fun _ _ x => x)
/-- the lists at a and b as they stand at each turn, of one length, the items in new pairs -/
def ItzS (K : PySem.W.Frag) (a b : Addr) : It :=
  ⟨fun i H => ∃ (xs ys : List V) (x y : V), SqL K H a xs ∧ SqL K H b ys ∧ xs[i]? = some x ∧ ys[i]? = some y,
    fun i H v H' => ∃ T x y, v = .ref T ∧ H T = none ∧ H' = upd H T (.tup [x, y]) ∧ (∀ xs, SqL K H a xs → xs[i]? = some x) ∧ ∀ ys, SqL K H b ys → ys[i]? = some y,
    fun i H => ∃ xs ys : List V, SqL K H a xs ∧ SqL K H b ys ∧ xs.length ≤ i ∧ ys.length ≤ i⟩
theorem turn_zipS {P : Program} {w : World} {K : PySem.W.Frag} {elts : List Expr} {kk : Nat} {tpos : Pos} {a b z TI TO i1 i2 : Addr} (D : ZipApart z TI TO i1 i2 a b) :
    Turn P w K (.Tuple elts kk tpos) (ItzS K a b) [z, TI, TO, i1, i2] z (fun i h => IsZipS h z TI TO .none ∧ IsPair h TI (.ref i1) (.ref i2) ∧ (∃ x y, IsPair h TO x y) ∧ h.IsListIter i1 a i ∧ h.IsListIter i2 b i) where
  mem := by simp
  obj := fun i h st c hc => by
    obtain ⟨hz, hTI, ⟨x, y, hTO⟩, ⟨o1, e1, _, d1⟩, ⟨o2, e2, _, d2⟩⟩ := st
    have e' : c = z ∨ c = TI ∨ c = TO ∨ c = i1 ∨ c = i2 := by simpa using hc
    rcases e' with q | q | q | q | q
    · rw [q]; exact ⟨_, hz, fun v q => nomatch q⟩
    · rw [q]; exact ⟨_, hTI, fun v q => nomatch q⟩
    · rw [q]; exact ⟨_, hTO, fun v q => nomatch q⟩
    · rw [q]; exact ⟨o1, e1, fun v q => by rw [d1] at q; cases q⟩
    · rw [q]; exact ⟨o2, e2, fun v q => by rw [d2] at q; cases q⟩
  keep := fun i h h' st k => by
    obtain ⟨hz, hTI, ⟨x, y, hTO⟩, h1, h2⟩ := st
    exact ⟨k z (by simp) _ hz, k TI (by simp) _ hTI, ⟨x, y, k TO (by simp) _ hTO⟩, h1.at fun o q => k i1 (by simp) o q, h2.at fun o q => k i2 (by simp) o q⟩
  item := by
    intro X hP hw hK hc i pins s σ H E I hf st hg
    subst hP hw hK
    obtain ⟨hz, hTI, ⟨x0, y0, hTO⟩, h1, h2⟩ := st
    obtain ⟨xs, ys, x, y, hqx, hqy, hx, hy⟩ := hg
    obtain ⟨its, rv, p, _⟩ := I.list hqx
    obtain ⟨its2, rv2, p2, _⟩ := I.list hqy
    obtain ⟨u, hu, ru⟩ := rv.get hx
    obtain ⟨u2, hu2, ru2⟩ := rv2.get hy
    have hzl : z < s.heap.objs.size := Heap.lt_size hz
    refine pyNext_item D hz hTI hTO h1 h2 p.isList p2.isList (x := u) (y := u2) (by simpa using hu) (by simpa using hu2) fun h' z' TO' h1' h2' hT hsz hk => ?_
    refine ⟨_, rfl, letGo_zip (s := { s with heap := h' }) z' fun h'' z'' sb => ?_⟩
    have hT2 : h''.get? s.heap.objs.size = some { cls := .type "tuple", data := .seq #[u, u2] } := (sb.2 _ (Nat.ne_of_gt hzl)).trans hT
    have new : ObjOk X.prog X.w (upd H s.heap.objs.size (.tup [x, y])) h'' s.heap.objs.size (.tup [x, y]) :=
      ⟨by show 2 ≤ sizeLine; decide, [u, u2], .cons ru (.cons ru2 .nil), ⟨_, hT2, rfl, _, rfl⟩⟩
    have I1 : Inv X pins σ (upd H s.heap.objs.size (.tup [x, y])) { s with heap := h'' } :=
      I.turnedNew (t' := s.toks) (ch := [z, TI, TO, i1, i2]) (fun c o hb q => (sb.2 c (fun q' => hb (by simp [q']))).trans (hk c o (fun q' => hb (by simp [q'])) (fun q' => hb (by simp [q'])) (fun q' => hb (by simp [q'])) (fun q' => hb (by simp [q'])) q)) hf (Nat.le_refl _) new
    refine ⟨.ref s.heap.objs.size, _, I1, rfl, ⟨_, x, y, rfl, I.hok.fresh (Nat.le_refl _), rfl, fun l hl => by rw [I.list_inj hl hqx]; exact hx, fun l hl => by rw [I.list_inj hl hqy]; exact hy⟩, ⟨z'', ?_, ⟨u, u2, ?_⟩, ?_, ?_⟩, fun c hcm => ?_⟩
    · exact (sb.2 _ D.TIz).trans (hk _ _ D.TIz D.TITO D.TIi1 D.TIi2 hTI)
    · exact (sb.2 _ D.TOz).trans TO'
    · exact h1'.at fun o q => (sb.2 _ D.i1z).trans q
    · exact h2'.at fun o q => (sb.2 _ D.i2z).trans q
    · have hlt : c < s.heap.objs.size := by
        have e' : c = z ∨ c = TI ∨ c = TO ∨ c = i1 ∨ c = i2 := by simpa using hcm
        rcases e' with q | q | q | q | q
        · rw [q]; exact hzl
        · rw [q]; exact Heap.lt_size hTI
        · rw [q]; exact Heap.lt_size hTO
        · rw [q]; obtain ⟨_, e1, _⟩ := h1; exact Heap.lt_size e1
        · rw [q]; obtain ⟨_, e2, _⟩ := h2; exact Heap.lt_size e2
      rw [upd_ne (Nat.ne_of_lt hlt)]
      exact (hf c hcm).1
  done := by
    intro X hP hw hK hc i pins s σ H E I hf st hg
    subst hP hw hK
    obtain ⟨hz, hTI, ⟨x0, y0, hTO⟩, h1, h2⟩ := st
    obtain ⟨xs, ys, hqx, hqy, e1, e2⟩ := hg
    obtain ⟨its, rv, p, _⟩ := I.list hqx
    obtain ⟨its2, rv2, p2, _⟩ := I.list hqy
    have l1 := rv.length
    have l2 := rv2.length
    exact pyNext_end (I.ok.hd hc) D hz hTI hTO h1 h2 p.isList p2.isList (by simp; omega) (by simp; omega) fun h' hk => ⟨rfl, I.turnedL (t' := s.toks) (ch := [z, TI, TO, i1, i2]) (fun c o hb q =>
      hk c o (fun q' => hb (by simp [q'])) (fun q' => hb (by simp [q'])) (fun q' => hb (by simp [q'])) (fun q' => hb (by simp [q'])) q) hf⟩
  self := fun A i s Q E st h => pyIter_zip st.1 h
def iZipS (K : PySem.W.Frag) (ta tk : TA) : TI := fun σ H R => ta σ H fun vs H1 => tk σ H1 fun zs H2 => ∃ a b xs ys, vs = [.ref a, .ref b] ∧ zs = [.bl true] ∧ SqL K H2 a xs ∧ SqL K H2 b ys ∧ R (ItzS K a b) H2
theorem pi_zipS {X : Cx} {e e2 : Expr} {ta tk : TA} {p pos tpos : Pos} {elts : List Expr} {kk : Nat} {kws : List Keyword} (hg : Gl X "zip") (hm : X.mg "zip" = none) (ha : PA X [e, e2] ta) (hk : PK X kws tk)
    (he : backTo pos (starEach [e, e2] X.env) = (false, eval e X.env) :: backTo pos (starEach [e2] X.env) := by rfl) (hpl : (backTo pos (starEach [e, e2] X.env)).any (·.1) = false := by rfl)
    (hall : (backToKw pos (keywordEach kws X.env)).all (·.1.isSome) = true := by rfl) (hnone : (backToKw pos (keywordEach kws X.env)).any (·.1.isNone) = false := by rfl) (hks : (backToKw pos (keywordEach kws X.env)).filterMap (·.1) = [("strict" : Str)] := by rfl) :
    PI X (.Tuple elts kk tpos) (.Call (.Name "zip" p) [e, e2] kws pos) (iZipS X.K ta tk) := by
  refine ⟨fun pins s σ H R I h => ?_⟩
  refine wpAny_Call_Name_kw (ld_blt I hg hm PyProof.Rows.boot_zip ?_)
  refine callWith_typeKw (thn (ha.run pos pins s σ H _ I h) fun us s0 ⟨vs, H0, I0, r0, q0⟩ => thn (hk.run pos pins s0 σ H0 _ I0 q0) fun ws s1 ⟨zs, H1, I1, rz, q1⟩ => ?_) he hpl hall hnone
  rw [hks]
  obtain ⟨a, b, xs, ys, ex, ez, hqx, hqy, q⟩ := q1
  subst ex
  subst ez
  cases rz with
  | cons rk rkn =>
    cases rkn
    cases rk
    cases r0 with
    | cons r rr =>
      cases rr with
      | cons r' rr =>
        cases rr
        cases r
        cases r'
        obtain ⟨its, rv, p1, _⟩ := I1.list hqx
        obtain ⟨its2, rv2, p2, _⟩ := I1.list hqy
        have la : a < s1.heap.objs.size := p1.lt
        have lb : b < s1.heap.objs.size := p2.lt
        show wpAny _ _ (call (.type "zip") [.ref a, .ref b] [(Str.ofString "strict", .bool true)]) _ _ _
        refine call_zipS p1.isList p2.isList fun h' hz hTI hTO h1 h2 hsz hk => pyIter_zip hz ?_
        have I2 : Inv X pins σ H1 { s1 with heap := h' } := I1.kept (t' := s1.toks) hk
        refine ⟨s1.heap.objs.size + 4, [s1.heap.objs.size + 4, s1.heap.objs.size + 2, s1.heap.objs.size + 3, s1.heap.objs.size, s1.heap.objs.size + 1], _, _, H1, rfl, I2, turn_zipS (PySem.W.ktu_apart s1.heap.objs.size a b la lb), ⟨hz, hTI, ⟨_, _, hTO⟩, h1, h2⟩, fun c hcm => ?_, q⟩
        have e' : c = s1.heap.objs.size + 4 ∨ c = s1.heap.objs.size + 2 ∨ c = s1.heap.objs.size + 3 ∨ c = s1.heap.objs.size ∨ c = s1.heap.objs.size + 1 := by simpa using hcm
        have hle : s1.heap.objs.size ≤ c := by
          rcases e' with z | z | z | z | z
          · rw [z]; exact Nat.le_add_right _ _
          · rw [z]; exact Nat.le_add_right _ _
          · rw [z]; exact Nat.le_add_right _ _
          · rw [z]; exact Nat.le_refl _
          · rw [z]; exact Nat.le_add_right _ _
        exact I1.fpOk hle (I1.hok.fresh hle)
end NZ
/-! own: try .. except X as n; isinstance of what was caught -/
namespace NN
open PySem L2
def sTryAs (K : PySem.W.Frag) (c : Value) (i : Nat) (ts : Addr → Value → Option Addr → TS) (Wout : WX) (tb : WX → TS) : TS := fun D σ H => tb (wAs K c i ts Wout D) D σ H
section
variable {X : Cx} {x n : Str} {c : Value} {i : Nat} {body suite : List Stmt} {b₀ : Stmt} {np pos pos' : Pos} {tb : WX → TS} {ts : Addr → Value → Option Addr → TS} {Wout : WX}
theorem ps_tryA (hs : X.stack = X.env :: X.outer) (hf : X.env.frame = some X.env.locals) (hN : X.N.Nodup) (hi : X.N[i]? = some n) (hln : X.env.kindOf n = some .local) (hc : Names X x c) (tk : Takes X Wout)
    (hb : ∀ (W : WX) (pn : List (Addr × Obj)) (xe : Value → Shared → Prop), Takes (X.tr pn xe) W → PassesOwn (model X.prog X.w) X.A X.env xe → PSs (X.tr pn xe) body (tb W))
    (hsu : ∀ (a : Addr) (oe : Obj) (cls : Value) (d : Option Addr) (pn : List (Addr × Obj)), Zc cls d oe → (∃ vs, oe.data = .fields vs) → PSs (X.suite a ((a, oe) :: pn)) (b₀ :: suite) (ts a cls d)) :
    PS X (.Try body [.ExceptHandler (some (.Name x np)) (some n) (b₀ :: suite) pos'] [] [] pos) (sTryAs X.K c i ts Wout tb) := ps_try_as hs hf hN hi hln hc tk hb hsu
/-- isinstance of the caught one, whose class the reading tells -/
theorem call_isE2 {a : Addr} {oe : Obj} {cls : Value} {d : Option Addr} {pn : List (Addr × Obj)} (hz : Zc cls d oe) (hf : ∃ vs, oe.data = .fields vs) :
    CallR (X.suite a ((a, oe) :: pn)) (.builtin "isinstance") (fun xs H Q => ∃ D : Addr, cls = .ref D ∧ d = none ∧ ExcC X.K D ∧ rIsE X.K D a xs H Q) := fun pins s σ H vs us Q I r h => by
  obtain ⟨D, rfl, rfl, C, h⟩ := h
  exact call_isE C hz hf pins s σ H vs us Q I r h
end
section
variable {K : PySem.W.Frag} {σ : St} {H : Hp} {D : Ends} {c : Value} {i : Nat} {ts : Addr → Value → Option Addr → TS} {Wout : WX} {tb : WX → TS}
instance p_tryA : Stp (sTryAs K c i ts Wout tb D σ H) (tb (wAs K c i ts Wout D) D σ H) := ⟨fun q => q⟩
end
/-- isinstance of the caught one -/
abbrev rIsE2 (K : PySem.W.Frag) (a : Addr) (cls : Value) (d : Option Addr) : RCl := fun xs H Q => ∃ D : Addr, cls = .ref D ∧ d = none ∧ ExcC K D ∧ rIsE K D a xs H Q
/-- is not, of a bool or an int and a bool -/
def rNotX : R2 := fun x y H Q => ∃ b : Bool, y = .bl b ∧ ((∃ a : Bool, x = .bl a ∧ Q (.bl (!decide (a = b))) H) ∨ (∃ i : Int, x = .int i ∧ Q (.bl true) H))
theorem op_notX {X : Cx} : OpR X (compareOp .IsNot) rNotX := by
  intro pins s σ H x y v u Q I rx ry h
  obtain ⟨b, rfl, ⟨a, rfl, q⟩ | ⟨i, rfl, q⟩⟩ := h
  · cases (show v = Value.bool a from rx)
    cases (show u = Value.bool b from ry)
    by_cases e : a = b
    · subst e
      exact wpAny_isNot_self rfl ⟨.bl false, H, I, rfl, by simpa using q⟩
    · exact wpAny_isNot_other rfl (fun z => e (Value.bool.inj z)) ⟨.bl true, H, I, rfl, by simpa [e] using q⟩
  · obtain ⟨t, rfl⟩ := rx
    cases (show u = Value.bool b from ry)
    exact wpAny_isNot_other rfl (fun z => by cases z) ⟨.bl true, H, I, rfl, q⟩
end NN
/-! own: what is known of the heap, thing by thing -/
namespace NN
open PySem L2
/-! ### parts of a heap -/
def Sub (h H : Hp) : Prop := ∀ a o, h a = some o → H a = some o
theorem Sub.refl {h : Hp} : Sub h h := fun _ _ e => e
theorem Sub.trans {a b c : Hp} (x : Sub a b) (y : Sub b c) : Sub a c := fun _ _ e => y _ _ (x _ _ e)
/-- what never changes -/
def Imm (S : Addr) : HO → Prop
  | .tup _ => True
  | .ext _ => True
  | .ins C _ (_ :: _) => C = S
  | _ => False
def Cmp (S : Addr) (h1 h2 : Hp) : Prop := ∀ a o1 o2, h1 a = some o1 → h2 a = some o2 → o1 = o2 ∧ Imm S o1
theorem Cmp.symm {S : Addr} {h1 h2 : Hp} (c : Cmp S h1 h2) : Cmp S h2 h1 := fun a o1 o2 e1 e2 => by
  obtain ⟨rfl, i⟩ := c a o2 o1 e2 e1
  exact ⟨rfl, i⟩
theorem Cmp.sub {S : Addr} {h1 h2 g1 g2 : Hp} (c : Cmp S h1 h2) (s1 : Sub g1 h1) (s2 : Sub g2 h2) : Cmp S g1 g2 := fun a o1 o2 e1 e2 => c a o1 o2 (s1 _ _ e1) (s2 _ _ e2)
def jn (h1 h2 : Hp) : Hp := fun a => match h1 a with | some o => some o | none => h2 a
theorem jn_l {h1 h2 : Hp} : Sub h1 (jn h1 h2) := fun a o e => by unfold jn; rw [e]
theorem jn_r {S : Addr} {h1 h2 : Hp} (c : Cmp S h1 h2) : Sub h2 (jn h1 h2) := fun a o e => by
  unfold jn
  cases e1 : h1 a with
  | none => exact e
  | some u => rw [(c a u o e1 e).1]
theorem jn_sub {h1 h2 H : Hp} (s1 : Sub h1 H) (s2 : Sub h2 H) : Sub (jn h1 h2) H := fun a o e => by
  unfold jn at e
  cases e1 : h1 a with
  | none => rw [e1] at e; exact s2 _ _ e
  | some u => rw [e1] at e; exact s1 _ _ (e1.trans e)
theorem jn_cases {h1 h2 : Hp} {a : Addr} {o : HO} (e : jn h1 h2 a = some o) : h1 a = some o ∨ h2 a = some o := by
  unfold jn at e
  cases e1 : h1 a with
  | none => rw [e1] at e; exact .inr e
  | some u => rw [e1] at e; exact .inl e
theorem Cmp.jn {S : Addr} {h1 h2 h3 : Hp} (a : Cmp S h1 h3) (b : Cmp S h2 h3) : Cmp S (jn h1 h2) h3 := fun c o1 o2 e1 e2 =>
  (jn_cases e1).elim (fun z => a c o1 o2 z e2) (fun z => b c o1 o2 z e2)
/-- a thing: where it stands, what it is -/
structure Atom where
  p : Addr
  X : Addr → Hp → Prop
def Star (S : Addr) : List Atom → Hp → Prop
  | [], _ => True
  | a :: l, H => ∃ h1 h2, Sub h1 H ∧ Sub h2 H ∧ Cmp S h1 h2 ∧ a.X a.p h1 ∧ Star S l h2
theorem Star.mono {S : Addr} {l : List Atom} {h H : Hp} (s : Star S l h) (k : Sub h H) : Star S l H := by
  cases l with
  | nil => trivial
  | cons a l =>
    obtain ⟨h1, h2, s1, s2, c, x, r⟩ := s
    exact ⟨h1, h2, s1.trans k, s2.trans k, c, x, r⟩
theorem Star.swap {S : Addr} {a b : Atom} {l : List Atom} {H : Hp} (s : Star S (a :: b :: l) H) : Star S (b :: a :: l) H := by
  obtain ⟨h1, h2, s1, s2, c, x, h3, h4, s3, s4, c2, y, r⟩ := s
  have c14 : Cmp S h1 h4 := c.sub .refl s4
  refine ⟨h3, jn h1 h4, s3.trans s2, jn_sub s1 (s4.trans s2), ?_, y, h1, h4, jn_l, jn_r c14, c14, x, r⟩
  exact (Cmp.jn (c.sub .refl s3) c2.symm).symm
theorem Star.tail {S : Addr} {a : Atom} {l : List Atom} {H : Hp} (s : Star S (a :: l) H) : Star S l H := by
  obtain ⟨h1, h2, s1, s2, c, x, r⟩ := s
  exact r.mono s2
theorem Star.imp {S : Addr} {a b : Atom} {l l' : List Atom} {H : Hp} (s : Star S (a :: l) H) (k : ∀ h, a.X a.p h → b.X b.p h) (k2 : ∀ h, Star S l h → Star S l' h) : Star S (b :: l') H := by
  obtain ⟨h1, h2, s1, s2, c, x, r⟩ := s
  exact ⟨h1, h2, s1, s2, c, k _ x, k2 _ r⟩
/-- the thing at p and the rest -/
class Fnd (L : List Atom) (p : Addr) (X : outParam (Addr → Hp → Prop)) (R : outParam (List Atom)) : Prop where
  fwd : ∀ {S H}, Star S L H → Star S (⟨p, X⟩ :: R) H
instance (priority := high) fnd0 {p : Addr} {X : Addr → Hp → Prop} {R : List Atom} : Fnd (⟨p, X⟩ :: R) p X R := ⟨fun s => s⟩
instance fnd1 {a : Atom} {p : Addr} {X : Addr → Hp → Prop} {R R' : List Atom} [F : Fnd R p X R'] : Fnd (a :: R) p X (a :: R') :=
  ⟨fun s => (s.imp (b := a) (fun _ x => x) fun _ r => F.fwd r).swap⟩
/-- one list of things tells another -/
class Ent (L M : List Atom) : Prop where
  fwd : ∀ {S H}, Star S L H → Star S M H
instance (priority := 2000) ent0 {L : List Atom} : Ent L L := ⟨fun s => s⟩
instance (priority := 1900) entN {L : List Atom} : Ent L [] := ⟨fun _ => trivial⟩
instance (priority := 1500) ent1 {L R M : List Atom} {p : Addr} {X : Addr → Hp → Prop} [F : Fnd L p X R] [E : Ent R M] : Ent L (⟨p, X⟩ :: M) := ⟨fun s => (F.fwd s).imp (b := ⟨p, X⟩) (fun _ x => x) fun _ r => E.fwd r⟩
instance (priority := 100) entD {a : Atom} {L M : List Atom} [E : Ent L M] : Ent (a :: L) M := ⟨fun s => E.fwd s.tail⟩
/-! ### things -/
/-- one object -/
def Pt (o : HO) : Addr → Hp → Prop := fun p h => h p = some o
abbrev LV (xs : List V) : Addr → Hp → Prop := Pt (.lst xs)
abbrev LI (ns : List Int) : Addr → Hp → Prop := Pt (.lst (ns.map V.int))
abbrev TV (xs : List V) : Addr → Hp → Prop := Pt (.tup xs)
/-- a list that is read alone (the script) -/
def RL (K : PySem.W.Frag) (xs : List V) : Addr → Hp → Prop := fun p h => SqL K h p xs
/-- all but the tables of code objects -/
def noT (H : Hp) : Hp := fun a => match H a with | some (.tbl _) => none | o => o
theorem noT_some {H : Hp} {a : Addr} {o : HO} (h : noT H a = some o) : H a = some o := by
  unfold noT at h
  split at h
  · cases h
  · exact h
def plainO : HO → Bool
  | .tbl _ => false
  | .ext _ => false
  | _ => true
theorem noT_of {H : Hp} {a : Addr} {o : HO} (h : H a = some o) (n : plainO o = true) : noT H a = some o := by
  unfold noT
  rw [h]
  cases o <;> first | rfl | cases n
theorem noT_ext {H : Hp} {a : Addr} {f : Heap → Prop} (h : H a = some (.ext f)) : noT H a = some (.ext f) := by
  unfold noT
  rw [h]
theorem noT_none {H : Hp} {a : Addr} (h : H a = none) : noT H a = none := by
  unfold noT
  rw [h]
theorem noT_upd {H : Hp} {p : Addr} {o : HO} (n : ∀ ps, o ≠ .tbl ps) : noT (upd H p o) = upd (noT H) p o := by
  funext a
  by_cases e : a = p
  · subst e
    rw [upd_same]
    unfold noT
    rw [upd_same]
    cases o <;> first | rfl | exact absurd rfl (n _)
  · rw [upd_ne e]
    unfold noT
    rw [upd_ne e]
/-- what is known of the heap -/
structure SatI (T : List (Addr × Str)) (S : Addr) (L : List Atom) (H : Hp) : Prop where
  tabs : LamX.Tabs T H
  star : Star S L (noT H)
abbrev Sat (Z : Ad) (L : List Atom) (H : Hp) : Prop := SatI Z.tabs Z.Space L H
section
variable {T : List (Addr × Str)} {S : Addr} {L L' R : List Atom} {H H' : Hp} {p : Addr} {o o' : HO} {X Y : Addr → Hp → Prop} {K : PySem.W.Frag} {xs : List V}
theorem SatI.ent [E : Ent L L'] (s : SatI T S L H) : SatI T S L' H := ⟨s.tabs, E.fwd s.star⟩
theorem SatI.fnd (s : SatI T S L H) [F : Fnd L p X R] : SatI T S (⟨p, X⟩ :: R) H := ⟨s.tabs, F.fwd s.star⟩
theorem SatI.imp1 {a b : Atom} (s : SatI T S (a :: L) H) (k : ∀ h, a.X a.p h → b.X b.p h) : SatI T S (b :: L) H := ⟨s.tabs, s.star.imp k fun _ r => r⟩
theorem SatI.tail {a : Atom} (s : SatI T S (a :: L) H) : SatI T S L H := ⟨s.tabs, s.star.tail⟩
/-- the thing at the head, on a part of the heap -/
theorem SatI.head (s : SatI T S (⟨p, X⟩ :: L) H) : ∃ h, Sub h H ∧ X p h := by
  obtain ⟨_, h1, h2, s1, s2, c, x, r⟩ := s
  exact ⟨h1, fun a o e => noT_some (s1 a o e), x⟩
theorem SatI.split (s : SatI T S (⟨p, X⟩ :: L) H) : ∃ h, X p h ∧ ∀ Y : Addr → Hp → Prop, Y p h → SatI T S (⟨p, Y⟩ :: L) H := by
  obtain ⟨t, h1, h2, s1, s2, c, x, r⟩ := s
  exact ⟨h1, x, fun Y y => ⟨t, h1, h2, s1, s2, c, y, r⟩⟩
theorem SatI.at0 (s : SatI T S (⟨p, Pt o⟩ :: L) H) : H p = some o := by
  obtain ⟨h, k, x⟩ := s.head
  exact k _ _ x
theorem SatI.at (s : SatI T S L H) [F : Fnd L p (Pt o) R] : H p = some o := (s.fnd (p := p)).at0
/-- all is kept -/
theorem SatI.kp (s : SatI T S L H) (k : ∀ b o, H b = some o → H' b = some o) : SatI T S L H' :=
  ⟨fun q hq => (s.tabs q hq).ext k, s.star.mono fun a o e => by
    have e1 := noT_some e
    have z := k _ _ e1
    unfold noT at e ⊢
    rw [e1] at e
    rw [z]
    exact e⟩
theorem SatI.new (s : SatI T S L H) (hp : H p = none) (n : ∀ ps, o ≠ .tbl ps) : SatI T S (⟨p, Pt o⟩ :: L) (upd H p o) := by
  refine ⟨fun q hq => (s.tabs q hq).ext fun b u e => by rw [upd_ne (ne_of_none e hp)]; exact e, ?_⟩
  rw [noT_upd n]
  refine ⟨fun a => if a = p then some o else none, noT H, fun a u e => ?_, fun a u e => ?_, fun a u v e1 e2 => ?_, ?_, s.star⟩
  · by_cases z : a = p
    · subst z; rw [upd_same]; simpa using e
    · simp [z] at e
  · rw [upd_ne (ne_of_none e (noT_none hp))]; exact e
  · by_cases z : a = p
    · subst z; rw [noT_none hp] at e2; cases e2
    · simp [z] at e1
  · show (if p = p then some o else none) = some o
    rw [if_pos rfl]
/-- what may be written -/
def mutO (S : Addr) (o : HO) : Prop := plainO o = true ∧ ¬ Imm S o
theorem SatI.put (s : SatI T S (⟨p, Pt o⟩ :: L) H) (m : mutO S o) (n : plainO o' = true) : SatI T S (⟨p, Pt o'⟩ :: L) (upd H p o') := by
  have e0 := s.at0
  obtain ⟨t, h1, h2, s1, s2, c, x, r⟩ := s
  have nx : h2 p = none := by
    cases e : h2 p with
    | none => rfl
    | some u => exact absurd (c p o u x e).2 m.2
  refine ⟨fun q hq => ?_, ?_⟩
  · obtain ⟨ps, a1, a2, a3⟩ := t q hq
    have n1 : q.1 ≠ p := fun z => by
      rw [z, e0] at a1
      cases a1
      exact absurd m.1 (by intro z; cases z)
    refine ⟨ps, by rw [upd_ne n1]; exact a1, a2, fun pos cv hc => ?_⟩
    obtain ⟨c', f1, f2⟩ := a3 pos cv hc
    refine ⟨c', f1, ?_⟩
    have n2 : c' ≠ p := fun z => by
      rw [z, e0] at f2
      cases f2
      exact absurd m.1 (by intro z; cases z)
    rw [upd_ne n2]
    exact f2
  · rw [noT_upd (fun ps z => by subst z; cases n)]
    refine ⟨fun a => if a = p then some o' else none, h2, fun a u e => ?_, fun a u e => ?_, fun a u v e1 e2 => ?_, ?_, r⟩
    · by_cases z : a = p
      · subst z; rw [upd_same]; simpa using e
      · simp [z] at e
    · rw [upd_ne (ne_of_none e nx)]; exact s2 _ _ e
    · by_cases z : a = p
      · subst z; rw [nx] at e2; cases e2
      · simp [z] at e1
    · show (if p = p then some o' else none) = some o'
      rw [if_pos rfl]
/-- what never changes may be told twice -/
theorem SatI.dup (s : SatI T S (⟨p, Pt o⟩ :: L) H) (i : Imm S o) : SatI T S (⟨p, Pt o⟩ :: ⟨p, Pt o⟩ :: L) H := by
  obtain ⟨t, h1, h2, s1, s2, c, x, r⟩ := s
  have x : h1 p = some o := x
  have k : Sub (fun a => if a = p then some o else none) h1 := fun a u e => by
    by_cases z : a = p
    · subst z; rw [x]; simpa using e
    · simp [z] at e
  have xx : (fun a => if a = p then some o else none) p = some o := by
    show (if p = p then some o else none) = some o
    rw [if_pos rfl]
  have c' := c.sub k .refl
  refine ⟨t, fun a => if a = p then some o else none, jn (fun a => if a = p then some o else none) h2, k.trans s1, jn_sub (k.trans s1) s2, ?_, xx, _, h2, jn_l, jn_r c', c', xx, r⟩
  intro a u v e1 e2
  by_cases z : a = p
  · subst z
    have : u = o := by simpa using e1.symm
    subst this
    rcases jn_cases e2 with e | e
    · exact ⟨by simpa using e, i⟩
    · exact c' _ _ _ e1 e
  · simp [z] at e1
/-- what never changes may be told besides -/
theorem SatI.add (s : SatI T S L H) (e : H p = some o) (i : Imm S o) : SatI T S (⟨p, Pt o⟩ :: L) H := by
  have hn : noT H p = some o := by
    unfold noT
    rw [e]
    cases o <;> first | rfl | cases i
  refine ⟨s.tabs, fun a => if a = p then some o else none, noT H, fun a u q => ?_, .refl, fun a u v e1 e2 => ?_, ?_, s.star⟩
  · by_cases z : a = p
    · subst z; rw [hn]; simpa using q
    · simp [z] at q
  · by_cases z : a = p
    · subst z
      have : u = o := by simpa using e1.symm
      subst this
      rw [hn] at e2
      exact ⟨Option.some.inj e2, i⟩
    · simp [z] at e1
  · show (if p = p then some o else none) = some o
    rw [if_pos rfl]
/-- tables grew -/
theorem SatI.extN (s : SatI T S L H) (e : LamX.ExtN H H') (t : LamX.Tabs T H') : SatI T S L H' := by
  refine ⟨t, s.star.mono fun a o q => ?_⟩
  have q1 := noT_some q
  have n : ∀ ps, o ≠ .tbl ps := fun ps z => by
    unfold noT at q
    rw [q1, z] at q
    cases q
  have q2 := e a o q1 n
  unfold noT
  rw [q2]
  cases o <;> first | rfl | exact absurd rfl (n _)
theorem SatI.rl (s : SatI T S L H) [F : Fnd L p (RL K xs) R] : SqL K H p xs := by
  obtain ⟨h, k, x⟩ := (s.fnd (p := p)).head
  rcases x with (e | ⟨u, e⟩) | e
  · exact .inl (.inl (k _ _ e))
  · exact .inl (.inr ⟨u, k _ _ e⟩)
  · exact .inr e
end
/-- the items of a list that may be read -/
class RdL (K : PySem.W.Frag) (X : Addr → Hp → Prop) (xs : outParam (List V)) : Prop where
  rd : ∀ {p h H}, Sub h H → X p h → SqL K H p xs
instance rdl_pt {K : PySem.W.Frag} {xs : List V} : RdL K (Pt (.lst xs)) xs := ⟨fun k x => SqL.of (k _ _ x)⟩
instance rdl_rl {K : PySem.W.Frag} {xs : List V} : RdL K (RL K xs) xs := ⟨fun k x => by
  rcases x with (e | ⟨u, e⟩) | e
  · exact .inl (.inl (k _ _ e))
  · exact .inl (.inr ⟨u, k _ _ e⟩)
  · exact .inr e⟩
section
variable {T : List (Addr × Str)} {S : Addr} {L R : List Atom} {H : Hp} {p : Addr} {X : Addr → Hp → Prop} {K : PySem.W.Frag} {xs : List V}
theorem SatI.sq (s : SatI T S L H) [F : Fnd L p X R] [D : RdL K X xs] : SqL K H p xs := by
  obtain ⟨h, k, x⟩ := (s.fnd (p := p)).head
  exact D.rd k x
theorem SatI.st (s : SatI T S L H) [F : Fnd L p (Pt (.tup xs)) R] : SqT K H p xs := SqT.of s.at
end
end NN
/-! own: steps over what is known of the heap -/
namespace NN
open PySem L2
/-- a list of whole numbers, however it is written -/
class IsI (xs : List V) (ns : outParam (List Int)) : Prop where
  eq : xs = ns.map V.int
instance isi_map {ns : List Int} : IsI (ns.map V.int) ns := ⟨rfl⟩
instance isi_nil : IsI [] [] := ⟨rfl⟩
instance isi_cons {n : Int} {xs : List V} {ns : List Int} [I : IsI xs ns] : IsI (.int n :: xs) (n :: ns) := ⟨by rw [I.eq]; rfl⟩
instance isi_app {xs ys : List V} {ns ms : List Int} [I : IsI xs ns] [J : IsI ys ms] : IsI (xs ++ ys) (ns ++ ms) := ⟨by rw [I.eq, J.eq, List.map_append]⟩
section
variable {K : PySem.W.Frag} {Z : Ad} {L L' R R' : List Atom} {H H' : Hp} {Q : VK} {p p' : Addr} {X Y : Addr → Hp → Prop} {xs ys : List V} {ns ms : List Int} {v x y : V} {D : Ends} {g g1 g2 : TG} {tb : TS} {te : TE} {tt : TT} {σ : St} {vs : List Nat}
theorem mutO_lst {S : Addr} {xs : List V} : mutO S (.lst xs) := ⟨rfl, fun h => h⟩
theorem mutO_dK {S : Addr} {xs : List (Key × V)} : mutO S (.dK xs) := ⟨rfl, fun h => h⟩
theorem mutO_set {S : Addr} {f : Int → Bool} {n : Nat} : mutO S (.set f n) := ⟨rfl, fun h => h⟩
theorem mutO_ins {S C dx : Addr} {fs : List (Str × V)} (n : C ≠ S) : mutO S (.ins C dx fs) := ⟨rfl, fun h => by
  cases fs with
  | nil => exact h
  | cons _ _ => exact n h⟩
instance p_iTup {R : It → Hp → Prop} : Stp (iTup K te σ H R) (te σ H fun x H1 => ∃ a, x = .ref a ∧ (∃ xs, SqT K H1 a xs) ∧ R (Itt K a) H1) := ⟨fun q => q⟩
theorem g_T {A B pr : Prop} [Decidable pr] (h : pr) (q : A) : if decide pr = true then A else B := by rw [decide_eq_true h, if_pos rfl]; exact q
theorem g_F {A B pr : Prop} [Decidable pr] (h : ¬ pr) (q : B) : if decide pr = true then A else B := by rw [decide_eq_false h, if_neg Bool.false_ne_true]; exact q
theorem g_NT {A B pr : Prop} [Decidable pr] (h : pr) (q : B) : if (!decide pr) = true then A else B := by rw [decide_eq_true h]; exact q
theorem g_NF {A B pr : Prop} [Decidable pr] (h : ¬ pr) (q : A) : if (!decide pr) = true then A else B := by rw [decide_eq_false h]; exact q
/-! new things -/
theorem s_newL (s : Sat Z L H) (hl : xs.length ≤ sizeLine) (q : ∀ p H', Sat Z (⟨p, Pt (.lst xs)⟩ :: L) H' → Q (.ref p) H') : xs.length ≤ sizeLine ∧ ∀ p, H p = none → Q (.ref p) (upd H p (.lst xs)) :=
  ⟨hl, fun p hp => q p _ (s.new hp (fun _ z => by cases z))⟩
theorem s_newLI (s : Sat Z L H) (I : IsI (x :: xs) ns) (hl : (x :: xs).length ≤ sizeLine) (q : ∀ p H', Sat Z (⟨p, Pt (.lst (ns.map V.int))⟩ :: L) H' → Q (.ref p) H') : (x :: xs).length ≤ sizeLine ∧ ∀ p, H p = none → Q (.ref p) (upd H p (.lst (x :: xs))) :=
  ⟨hl, fun p hp => q p _ (I.eq ▸ s.new hp (fun _ z => by cases z))⟩
theorem s_newT (s : Sat Z L H) (hl : xs.length ≤ sizeLine) (q : ∀ p H', Sat Z (⟨p, Pt (.tup xs)⟩ :: L) H' → Q (.ref p) H') : xs.length ≤ sizeLine ∧ ∀ p, H p = none → Q (.ref p) (upd H p (.tup xs)) :=
  ⟨hl, fun p hp => q p _ (s.new hp (fun _ z => by cases z))⟩
theorem s_new {o : HO} (s : Sat Z L H) (n : ∀ ps, o ≠ .tbl ps) (q : ∀ p H', Sat Z (⟨p, Pt o⟩ :: L) H' → Q (.ref p) H') : ∀ p, H p = none → Q (.ref p) (upd H p o) := fun p hp => q p _ (s.new hp n)
theorem sat_newLI (e : upd H p (.lst (x :: xs)) = H') (hp : H p = none) (s : Sat Z L H) (I : IsI (x :: xs) ns) : Sat Z (⟨p, Pt (.lst (ns.map V.int))⟩ :: L) H' := e ▸ I.eq ▸ s.new hp (fun _ z => by cases z)
theorem sat_newL (e : upd H p (.lst xs) = H') (hp : H p = none) (s : Sat Z L H) : Sat Z (⟨p, Pt (.lst xs)⟩ :: L) H' := e ▸ s.new hp (fun _ z => by cases z)
theorem sat_newT (e : upd H p (.tup xs) = H') (hp : H p = none) (s : Sat Z L H) : Sat Z (⟨p, Pt (.tup xs)⟩ :: L) H' := e ▸ s.new hp (fun _ z => by cases z)
/-! reading -/
theorem s_lenL (s : Sat Z L H) (f : Fnd L p X R) (d : RdL K X xs) (q : Q (.int xs.length) H) : rLenS K [.ref p] H Q := ⟨p, xs, rfl, .inl s.sq, q⟩
theorem s_lenI (s : Sat Z L H) (f : Fnd L p X R) (d : RdL K X xs) (I : IsI xs ns) (q : Q (.int ns.length) H) : rLenS K [.ref p] H Q := by
  obtain rfl := I.eq
  exact s_lenL s f d (by rw [List.length_map]; exact q)
theorem s_lenT (s : Sat Z L H) (f : Fnd L p (Pt (.tup xs)) R) (q : Q (.int xs.length) H) : rLenS K [.ref p] H Q := ⟨p, xs, rfl, .inr s.st, q⟩
theorem s_listL (s : Sat Z L H) (f : Fnd L p X R) (d : RdL K X xs) (q : ∀ l H', Sat Z (⟨l, Pt (.lst xs)⟩ :: L) H' → Q (.ref l) H') : rListS K [.ref p] H Q := ⟨p, xs, rfl, .inl s.sq, s_new s (fun _ z => by cases z) q⟩
theorem s_listT (s : Sat Z L H) (f : Fnd L p (Pt (.tup xs)) R) (q : ∀ l H', Sat Z (⟨l, Pt (.lst xs)⟩ :: L) H' → Q (.ref l) H') : rListS K [.ref p] H Q := ⟨p, xs, rfl, .inr s.st, s_new s (fun _ z => by cases z) q⟩
theorem s_ixL {j : Int} (s : Sat Z L H) (f : Fnd L p X R) (d : RdL K X xs) (e : atI xs j = some v) (q : Q v H) : rIxL K (.ref p) (.int j) H Q := ⟨p, xs, j, v, rfl, rfl, s.sq, e, q⟩
theorem s_ixIn {j : Int} (s : Sat Z L H) (f : Fnd L p X R) (d : RdL K X xs) (I : IsI xs ns) (h0 : 0 ≤ j) (h1 : j < ns.length) (q : ∀ n, n ∈ ns → Q (.int n) H) : rIxL K (.ref p) (.int j) H Q := by
  obtain rfl := I.eq
  obtain ⟨n, e1, e2⟩ := ints_ix h0 h1
  exact ⟨p, _, j, .int n, rfl, rfl, s.sq, e2, q n (List.mem_of_getElem? e1)⟩
theorem s_ixT {j : Int} (s : Sat Z L H) (f : Fnd L p (Pt (.tup xs)) R) (e : atI xs j = some v) (q : Q v H) : rIxT K (.ref p) (.int j) H Q := ⟨p, xs, j, v, rfl, rfl, s.st, e, q⟩
theorem s_slL {lo hi : Option Int} (s : Sat Z L H) (f : Fnd L p X R) (d : RdL K X xs) (q : ∀ l H', Sat Z (⟨l, Pt (.lst (cutV xs lo hi))⟩ :: L) H' → Q (.ref l) H') : rSlL K (.ref p) lo hi H Q := ⟨p, xs, rfl, s.sq, s_new s (fun _ z => by cases z) q⟩
theorem s_slTo {j : Int} (s : Sat Z L H) (f : Fnd L p X R) (d : RdL K X xs) (I : IsI xs ns) (h0 : 0 ≤ j) (q : ∀ l H', Sat Z (⟨l, Pt (.lst ((ns.take j.toNat).map V.int))⟩ :: L) H' → Q (.ref l) H') : rSlL K (.ref p) none (some j) H Q :=
  s_slL s f d (by rw [I.eq, cut_toI h0]; exact q)
theorem s_slFrom {j : Int} (s : Sat Z L H) (f : Fnd L p X R) (d : RdL K X xs) (I : IsI xs ns) (h0 : 0 ≤ j) (q : ∀ l H', Sat Z (⟨l, Pt (.lst ((ns.drop j.toNat).map V.int))⟩ :: L) H' → Q (.ref l) H') : rSlL K (.ref p) (some j) none H Q :=
  s_slL s f d (by rw [I.eq, cut_fromI h0]; exact q)
theorem s_in {neg : Bool} (s : Sat Z L H) (f : Fnd L p X R) (d : RdL K X xs) (hx : flatV x = true) (hs : xs.all flatV = true) (q : Q (.bl (if neg then !inV x xs else inV x xs)) H) : rIn K neg x (.ref p) H Q := ⟨p, xs, rfl, .inl s.sq, hx, hs, q⟩
theorem inV_ints {n : Int} {ns : List Int} : inV (.int n) (ns.map V.int) = decide (n ∈ ns) := by
  unfold inV
  induction ns with
  | nil => simp
  | cons m r ih =>
    rw [List.map_cons, List.any_cons, ih]
    by_cases e : n = m
    · subst e
      simp [eqV]
    · have z : eqV (.int m) (.int n) = false := by
        show (m == n) = false
        exact beq_false_of_ne fun q => e q.symm
      rw [z, Bool.false_or]
      simp [e]
theorem s_inI {n : Int} (s : Sat Z L H) (f : Fnd L p X R) (d : RdL K X xs) (I : IsI xs ns) (q : Q (.bl (decide (n ∈ ns))) H) : rIn K false (.int n) (.ref p) H Q := by
  obtain rfl := I.eq
  refine s_in s f d rfl (ints_flat ns) ?_
  rw [if_neg Bool.false_ne_true, inV_ints]
  exact q
theorem s_ninI {n : Int} (s : Sat Z L H) (f : Fnd L p X R) (d : RdL K X xs) (I : IsI xs ns) (q : Q (.bl (!decide (n ∈ ns))) H) : rIn K true (.int n) (.ref p) H Q := by
  obtain rfl := I.eq
  refine s_in s f d rfl (ints_flat ns) ?_
  rw [if_pos rfl, inV_ints]
  exact q
theorem s_idx {n : Int} (s : Sat Z L H) (f : Fnd L p X R) (d : RdL K X xs) (I : IsI xs ns) (hx : n ∈ ns) (q : Q (.int ((ns.idxOf n : Nat) : Int)) H) : rIndex K (.ref p) [.int n] H Q := by
  obtain rfl := I.eq
  exact h_idx s.sq hx q
theorem s_cat (s : Sat Z L H) (f : Fnd L p (Pt (.lst xs)) R) (f' : Fnd L p' (Pt (.lst ys)) R') (hl : xs.length + ys.length ≤ sizeLine) (q : ∀ l H', Sat Z (⟨l, Pt (.lst (xs ++ ys))⟩ :: L) H' → Q (.ref l) H') : rCat (.ref p) (.ref p') H Q :=
  ⟨p, p', xs, ys, rfl, rfl, s.at, s.at, hl, s_new s (fun _ z => by cases z) q⟩
theorem s_catI (s : Sat Z L H) (f : Fnd L p (Pt (.lst xs)) R) (f' : Fnd L p' (Pt (.lst ys)) R') (I : IsI xs ns) (J : IsI ys ms) (hl : ns.length + ms.length ≤ sizeLine) (q : ∀ l H', Sat Z (⟨l, Pt (.lst ((ns ++ ms).map V.int))⟩ :: L) H' → Q (.ref l) H') : rCat (.ref p) (.ref p') H Q := by
  obtain rfl := I.eq
  obtain rfl := J.eq
  refine s_cat s f f' (by rw [List.length_map, List.length_map]; exact hl) ?_
  rw [← List.map_append]
  exact q
theorem s_all {bs : List Bool} (s : Sat Z L H) (f : Fnd L p (Pt (.lst (bs.map V.bl))) R) (q : Q (.bl (bs.all id)) H) : rAll K [.ref p] H Q := ⟨p, bs, rfl, s.sq, q⟩
theorem s_any {bs : List Bool} (s : Sat Z L H) (f : Fnd L p (Pt (.lst (bs.map V.bl))) R) (q : Q (.bl (bs.any id)) H) : rAny K [.ref p] H Q := ⟨p, bs, rfl, s.sq, q⟩
theorem s_tyL {A : Prop} (s : Sat Z L H) (f : Fnd L p X R) (d : RdL K X xs) (q : A) : tyV K "list" (.ref p) H ∧ A := ⟨.inl ⟨rfl, xs, s.sq⟩, q⟩
/-- sorted -/
def srt (ns : List Int) : List Int := ns.mergeSort fun a b => decide (a ≤ b)
theorem srt_perm (ns : List Int) : (srt ns).Perm ns := List.mergeSort_perm _ _
theorem srt_pw (ns : List Int) : (srt ns).Pairwise (· ≤ ·) := by
  have := List.pairwise_mergeSort (le := fun a b : Int => decide (a ≤ b)) (fun a b c h1 h2 => by simp at *; omega) (fun a b => by simp; omega) ns
  exact this.imp fun h => by simpa using h
theorem srt_eq {ns ms : List Int} (p : ms.Perm ns) (h : ms.Pairwise (· ≤ ·)) : ms = srt ns := List.Perm.eq_of_pairwise (fun _ _ _ _ a b => Int.le_antisymm a b) h (srt_pw ns) (p.trans (srt_perm ns).symm)
theorem s_sorted (s : Sat Z L H) (f : Fnd L p X R) (d : RdL K X xs) (I : IsI xs ns) (q : ∀ l H', Sat Z (⟨l, Pt (.lst ((srt ns).map V.int))⟩ :: L) H' → Q (.ref l) H') : rSortedI K [.ref p] H Q := by
  obtain rfl := I.eq
  refine ⟨p, ns, rfl, s.sq, fun ns' l hp hs hl => ?_⟩
  rw [srt_eq hp hs]
  exact q l _ (s.new hl (fun _ z => by cases z))
theorem s_eqL {Y : Addr → Hp → Prop} (s : Sat Z L H) (f : Fnd L p X R) (d : RdL K X xs) (I : IsI xs ns) (f' : Fnd L p' Y R') (d' : RdL K Y ys) (J : IsI ys ms) (q : Q (.bl (decide (ns = ms))) H) : rEqD K (.ref p) (.ref p') H Q := by
  obtain rfl := I.eq
  obtain rfl := J.eq
  exact d_eqI s.sq s.sq q
theorem s_neL {Y : Addr → Hp → Prop} (s : Sat Z L H) (f : Fnd L p X R) (d : RdL K X xs) (I : IsI xs ns) (f' : Fnd L p' Y R') (d' : RdL K Y ys) (J : IsI ys ms) (q : Q (.bl (!decide (ns = ms))) H) : rNeD K (.ref p) (.ref p') H Q := by
  obtain rfl := I.eq
  obtain rfl := J.eq
  exact d_neI s.sq s.sq q
instance p_isII {i : Int} : Stp (rIsi K [.int i, .ty "int"] H Q) (Q (.bl true) H) := ⟨fun q => isi (b := true) (.base (.int _)) (by decide +kernel) q⟩
instance p_isIB {i : Int} : Stp (rIsi K [.int i, .ty "bool"] H Q) (Q (.bl false) H) := ⟨fun q => isi (b := false) (.base (.int _)) (by decide +kernel) q⟩
instance p_isBI {i : Bool} : Stp (rIsi K [.bl i, .ty "int"] H Q) (Q (.bl true) H) := ⟨fun q => isi (b := true) (.base (.bl _)) (by decide +kernel) q⟩
instance p_isBB {i : Bool} : Stp (rIsi K [.bl i, .ty "bool"] H Q) (Q (.bl true) H) := ⟨fun q => isi (b := true) (.base (.bl _)) (by decide +kernel) q⟩
instance p_isSS {i : Str} : Stp (rIsi K [.str i, .ty "str"] H Q) (Q (.bl true) H) := ⟨fun q => isi (b := true) (.base (.str _)) (by decide +kernel) q⟩
instance p_isIS {i : Int} : Stp (rIsi K [.int i, .ty "str"] H Q) (Q (.bl false) H) := ⟨fun q => isi (b := false) (.base (.int _)) (by decide +kernel) q⟩
theorem s_isLL (s : Sat Z L H) (f : Fnd L p (Pt (.lst xs)) R) (q : Q (.bl true) H) : rIsi K [.ref p, .ty "list"] H Q := isi (b := true) (.base (.lst s.at)) (by decide +kernel) q
/-- xs[::-1] -/
def rRevL (K : PySem.W.Frag) (x : V) (H1 : Hp) (Q : VK) : Prop := ∃ a xs, x = .ref a ∧ SqL K H1 a xs ∧ ∀ p, H1 p = none → Q (.ref p) (upd H1 p (.lst xs.reverse))
instance p_revL : Stp (tRevL K te σ H Q) (te σ H fun x H1 => rRevL K x H1 Q) := ⟨fun q => q⟩
theorem s_revL (s : Sat Z L H) (f : Fnd L p X R) (d : RdL K X xs) (q : ∀ l H', Sat Z (⟨l, Pt (.lst xs.reverse)⟩ :: L) H' → Q (.ref l) H') : rRevL K (.ref p) H Q := ⟨p, xs, rfl, s.sq, s_new s (fun _ z => by cases z) q⟩
theorem s_revI (s : Sat Z L H) (f : Fnd L p X R) (d : RdL K X xs) (I : IsI xs ns) (q : ∀ l H', Sat Z (⟨l, Pt (.lst (ns.reverse.map V.int))⟩ :: L) H' → Q (.ref l) H') : rRevL K (.ref p) H Q := by
  obtain rfl := I.eq
  refine s_revL s f d ?_
  rw [← List.map_reverse]
  exact q
/-! writing -/
theorem s_append (s : Sat Z L H) (f : Fnd L p (Pt (.lst xs)) R) (hl : xs.length < sizeLine) (q : ∀ H', Sat Z (⟨p, Pt (.lst (xs ++ [y]))⟩ :: R) H' → Q .non H') : rAppend (.ref p) [y] H Q :=
  ⟨p, xs, y, rfl, rfl, s.at, hl, q _ (s.fnd.put mutO_lst rfl)⟩
theorem s_appendI {n : Int} (s : Sat Z L H) (f : Fnd L p (Pt (.lst xs)) R) (I : IsI xs ns) (hl : ns.length < sizeLine) (q : ∀ H', Sat Z (⟨p, Pt (.lst ((ns ++ [n]).map V.int))⟩ :: R) H' → Q .non H') : rAppend (.ref p) [.int n] H Q := by
  obtain rfl := I.eq
  refine s_append s f (by rw [List.length_map]; exact hl) ?_
  rw [List.map_append] at q
  exact q
theorem s_setL {QH : Hp → Prop} {k : Int} {j : Nat} (s : Sat Z L H) (f : Fnd L p (Pt (.lst xs)) R) (e : ixN xs.length k = some j) (q : ∀ H', Sat Z (⟨p, Pt (.lst (xs.set j v))⟩ :: R) H' → QH H') : rSetL (.ref p) (.int k) v H QH :=
  ⟨p, xs, k, j, rfl, rfl, s.at, e, q _ (s.fnd.put mutO_lst rfl)⟩
theorem s_setLI {QH : Hp → Prop} {k n : Int} {j : Nat} (s : Sat Z L H) (f : Fnd L p (Pt (.lst xs)) R) (I : IsI xs ns) (e : ixN ns.length k = some j) (q : ∀ H', Sat Z (⟨p, Pt (.lst ((ns.set j n).map V.int))⟩ :: R) H' → QH H') : rSetL (.ref p) (.int k) (.int n) H QH := by
  obtain rfl := I.eq
  refine s_setL s f (by rw [List.length_map]; exact e) ?_
  rw [List.map_set] at q
  exact q
theorem s_insert {i : Int} (s : Sat Z L H) (f : Fnd L p (Pt (.lst xs)) R) (hl : xs.length < sizeLine) (h0 : 0 ≤ i) (h1 : i < 2 ^ 63) (q : ∀ H', Sat Z (⟨p, Pt (.lst (xs.take i.toNat ++ [y] ++ xs.drop i.toNat))⟩ :: R) H' → Q .non H') : rInsert (.ref p) [.int i, y] H Q :=
  ⟨p, xs, i, y, rfl, rfl, s.at, hl, h0, h1, q _ (s.fnd.put mutO_lst rfl)⟩
theorem s_insertI {i n : Int} (s : Sat Z L H) (f : Fnd L p (Pt (.lst xs)) R) (I : IsI xs ns) (hl : ns.length < sizeLine) (h0 : 0 ≤ i) (h1 : i < 2 ^ 63) (q : ∀ H', Sat Z (⟨p, Pt (.lst ((ns.take i.toNat ++ [n] ++ ns.drop i.toNat).map V.int))⟩ :: R) H' → Q .non H') : rInsert (.ref p) [.int i, .int n] H Q := by
  obtain rfl := I.eq
  refine s_insert s f (by rw [List.length_map]; exact hl) h0 h1 ?_
  rw [List.map_append, List.map_append, List.map_take, List.map_drop] at q
  exact q
/-! walks -/
/-- over a list that no turn touches -/
theorem sf_list {nxt : St → Hp → Prop} {rt : VK} (s : Sat Z L H) (f : Fnd L p X R) (d : RdL K X xs) (I : Nat → St → List Atom → Prop) (h0 : I 0 σ R)
    (hs : ∀ i x σ L H, xs[i]? = some x → I i σ L → Sat Z (⟨p, X⟩ :: L) H → g x σ H fun σ2 H2 => tb { nx := fun σ' H' => ∃ L', I (i + 1) σ' L' ∧ Sat Z (⟨p, X⟩ :: L') H', rt := rt, bk := nxt, ct := fun σ' H' => ∃ L', I (i + 1) σ' L' ∧ Sat Z (⟨p, X⟩ :: L') H' } σ2 H2)
    (hd : ∀ σ L H, I xs.length σ L → Sat Z (⟨p, X⟩ :: L) H → nxt σ H) :
    ∃ a, V.ref p = .ref a ∧ (∃ xs, SqL K H a xs) ∧ ∃ W : Nat → Nat → St → Hp → Prop, (∃ m, W 0 m σ H) ∧ ∀ i m σ H, W i m σ H →
      ((Itl K a).stop i H ∧ nxt σ H) ∨ ((Itl K a).go i H ∧ ∃ N : St → Hp → Prop, (∀ σ' H', N σ' H' → ∃ m', m' < m ∧ W (i + 1) m' σ' H') ∧ ∀ x H', (Itl K a).yld i H x H' → g x σ H' fun σ2 H2 => tb { nx := N, rt := rt, bk := nxt, ct := N } σ2 H2) :=
  f_list s.sq (fun i σ' H' => ∃ L', I i σ' L' ∧ Sat Z (⟨p, X⟩ :: L') H') ⟨R, h0, s.fnd⟩ (fun i σ H _ ⟨L', _, s'⟩ => s'.sq) (fun i x σ H hx ⟨L', h, s'⟩ => hs i x σ L' H hx h s') fun σ H ⟨L', h, s'⟩ => hd σ L' H h s'
/-- over range(a) -/
theorem sf_rng {a : Int} {nxt : St → Hp → Prop} {rt : VK} (s : Sat Z L H) (hb : 0 ≤ a ∧ a ≤ 1000000) (I : Nat → St → List Atom → Prop) (h0 : I 0 σ L)
    (hs : ∀ i σ L H, ((i : Nat) : Int) < a → I i σ L → Sat Z L H → g (.int ((i : Nat) : Int)) σ H fun σ2 H2 => tb { nx := fun σ' H' => ∃ L', I (i + 1) σ' L' ∧ Sat Z L' H', rt := rt, bk := nxt, ct := fun σ' H' => ∃ L', I (i + 1) σ' L' ∧ Sat Z L' H' } σ2 H2)
    (hd : ∀ σ L H, I a.toNat σ L → Sat Z L H → nxt σ H) :
    ∃ j : Int, [V.int a] = [.int j] ∧ -(2 ^ 62) ≤ j ∧ j < 2 ^ 62 ∧ ∃ W : Nat → Nat → St → Hp → Prop, (∃ m, W 0 m σ H) ∧ ∀ i m σ H, W i m σ H →
      ((Itr 0 j.toNat).stop i H ∧ nxt σ H) ∨ ((Itr 0 j.toNat).go i H ∧ ∃ N : St → Hp → Prop, (∀ σ' H', N σ' H' → ∃ m', m' < m ∧ W (i + 1) m' σ' H') ∧ ∀ x H', (Itr 0 j.toNat).yld i H x H' → g x σ H' fun σ2 H2 => tb { nx := N, rt := rt, bk := nxt, ct := N } σ2 H2) :=
  f_rng hb (fun i σ' H' => ∃ L', I i σ' L' ∧ Sat Z L' H') ⟨L, h0, s⟩ (fun i σ H hi ⟨L', h, s'⟩ => hs i σ L' H hi h s') fun σ H ⟨L', h, s'⟩ => hd σ L' H h s'
/-- over range(a, b) -/
theorem sf_rng2 {a b : Int} {nxt : St → Hp → Prop} {rt : VK} (s : Sat Z L H) (ha : -1000000 ≤ a ∧ a ≤ 1000000) (hb : -1000000 ≤ b ∧ b ≤ 1000000) (I : Nat → St → List Atom → Prop) (h0 : I 0 σ L)
    (hs : ∀ i σ L H, a + ((i : Nat) : Int) < b → I i σ L → Sat Z L H → g (.int (a + ((i : Nat) : Int))) σ H fun σ2 H2 => tb { nx := fun σ' H' => ∃ L', I (i + 1) σ' L' ∧ Sat Z L' H', rt := rt, bk := nxt, ct := fun σ' H' => ∃ L', I (i + 1) σ' L' ∧ Sat Z L' H' } σ2 H2)
    (hd : ∀ σ L H, I (b - a).toNat σ L → Sat Z L H → nxt σ H) :
    ∃ i j : Int, [V.int a, V.int b] = [.int i, .int j] ∧ (-(2 ^ 62) ≤ i ∧ i < 2 ^ 62 ∧ -(2 ^ 62) ≤ j ∧ j < 2 ^ 62) ∧ ∃ W : Nat → Nat → St → Hp → Prop, (∃ m, W 0 m σ H) ∧ ∀ k m σ H, W k m σ H →
      ((Itr i (j - i).toNat).stop k H ∧ nxt σ H) ∨ ((Itr i (j - i).toNat).go k H ∧ ∃ N : St → Hp → Prop, (∀ σ' H', N σ' H' → ∃ m', m' < m ∧ W (k + 1) m' σ' H') ∧ ∀ x H', (Itr i (j - i).toNat).yld k H x H' → g x σ H' fun σ2 H2 => tb { nx := N, rt := rt, bk := nxt, ct := N } σ2 H2) :=
  ⟨a, b, rfl, by omega, for_range (lo := a) (n := (b - a).toNat) (D := { nx := nxt, rt := rt, bk := nxt, ct := nxt }) (fun i σ' H' => ∃ L', I i σ' L' ∧ Sat Z L' H') ⟨L, h0, s⟩ (fun i σ H hi ⟨L', h, s'⟩ => hs i σ L' H (by omega) h s') fun σ H ⟨L', h, s'⟩ => hd σ L' H h s'⟩
/-! comprehensions -/
/-- what stands behind i turns: what is made, the rest -/
structure Cv (Z : Ad) (I : Nat → List V → List Atom → Prop) (D : Addr) (i : Nat) (H' : Hp) : Prop where
  ex : ∃ acc L, I i acc L ∧ acc.length ≤ i ∧ Sat Z (⟨D, Pt (.lst acc)⟩ :: L) H'
theorem cv_yes {I : Nat → List V → List Atom → Prop} {D : Addr} {i : Nat} {acc : List V} (s : Sat Z L H) (e : Ent L (⟨D, Pt (.lst acc)⟩ :: L')) (hl : acc.length ≤ i) (hi : i < 100000) (h : I (i + 1) (acc ++ [y]) L') :
    ∃ acc, H D = some (.lst acc) ∧ acc.length < sizeLine ∧ Cv Z I D (i + 1) (upd H D (.lst (acc ++ [y]))) := by
  have s := s.ent (L' := ⟨D, Pt (.lst acc)⟩ :: L')
  exact ⟨acc, s.at0, sz_less (by omega), ⟨acc ++ [y], L', h, by rw [List.length_append, List.length_singleton]; omega, s.put mutO_lst rfl⟩⟩
theorem cv_no {I : Nat → List V → List Atom → Prop} {D : Addr} {i : Nat} {acc : List V} (s : Sat Z L H) (e : Ent L (⟨D, Pt (.lst acc)⟩ :: L')) (hl : acc.length ≤ i) (h : I (i + 1) acc L') : Cv Z I D (i + 1) H :=
  ⟨acc, L', h, by omega, s.ent⟩
theorem sc_list {Qd : Addr → Hp → Prop} (s : Sat Z L H) (f : Fnd L p X R) (d : RdL K X xs) (I : Nat → List V → List Atom → Prop) (h0 : I 0 [] R)
    (hs : ∀ D i x acc L H', xs[i]? = some x → I i acc L → acc.length ≤ i → Sat Z (⟨D, Pt (.lst acc)⟩ :: ⟨p, X⟩ :: L) H' → g x (wipe σ vs) H' fun σ2 H2 => wipe σ2 vs = wipe σ vs ∧ tt σ2 H2 fun b H3 =>
      if b = true then te σ2 H3 fun y H4 => ∃ acc, H4 D = some (.lst acc) ∧ acc.length < sizeLine ∧ Cv Z (fun i acc L => ∃ L', L = ⟨p, X⟩ :: L' ∧ I i acc L') D (i + 1) (upd H4 D (.lst (acc ++ [y]))) else Cv Z (fun i acc L => ∃ L', L = ⟨p, X⟩ :: L' ∧ I i acc L') D (i + 1) H3)
    (hd : ∀ D acc L H', I xs.length acc L → acc.length ≤ xs.length → Sat Z (⟨D, Pt (.lst acc)⟩ :: ⟨p, X⟩ :: L) H' → Qd D H') :
    ∃ a, V.ref p = .ref a ∧ (∃ xs, SqL K H a xs) ∧ ∀ D, H D = none → ∃ W : Nat → Nat → Hp → Prop, (∃ m, W 0 m (upd H D (.lst []))) ∧ ∀ i m H, W i m H →
  ((Itl K a).stop i H ∧ Qd D H) ∨ ((Itl K a).go i H ∧ ∃ Nx : Hp → Prop, (∀ H', Nx H' → ∃ m', m' < m ∧ W (i + 1) m' H') ∧ ∀ x H', (Itl K a).yld i H x H' → g x (wipe σ vs) H' fun σ2 H2 => wipe σ2 vs = wipe σ vs ∧ tt σ2 H2 fun b H3 =>
    if b = true then te σ2 H3 fun y H4 => ∃ acc, H4 D = some (.lst acc) ∧ acc.length < sizeLine ∧ Nx (upd H4 D (.lst (acc ++ [y]))) else Nx H3) := by
  refine c_list s.sq (fun D i H' => Cv Z (fun i acc L => ∃ L', L = ⟨p, X⟩ :: L' ∧ I i acc L') D i H') ?_ ?_ ?_ ?_
  · intro D hD
    exact ⟨[], _, ⟨R, rfl, h0⟩, Nat.le_refl _, s.fnd.new hD (fun _ z => by cases z)⟩
  · rintro D i H' hD hi ⟨acc, L, ⟨L', rfl, _⟩, _, s'⟩
    exact s'.sq
  · rintro D i x H' hD hx ⟨acc, L, ⟨L', rfl, h⟩, hl, s'⟩
    exact hs D i x acc L' H' hx h hl s'
  · rintro D H' hD ⟨acc, L, ⟨L', rfl, h⟩, hl, s'⟩
    exact hd D acc L' H' h hl s'
theorem sc_rng {a : Int} {Qd : Addr → Hp → Prop} (s : Sat Z L H) (hb : 0 ≤ a ∧ a ≤ 100000) (I : Nat → List V → List Atom → Prop) (h0 : I 0 [] L)
    (hs : ∀ D i acc L H', ((i : Nat) : Int) < a → I i acc L → acc.length ≤ i → Sat Z (⟨D, Pt (.lst acc)⟩ :: L) H' → g (.int ((i : Nat) : Int)) (wipe σ vs) H' fun σ2 H2 => wipe σ2 vs = wipe σ vs ∧ tt σ2 H2 fun b H3 =>
      if b = true then te σ2 H3 fun y H4 => ∃ acc, H4 D = some (.lst acc) ∧ acc.length < sizeLine ∧ Cv Z I D (i + 1) (upd H4 D (.lst (acc ++ [y]))) else Cv Z I D (i + 1) H3)
    (hd : ∀ D acc L H', I a.toNat acc L → acc.length ≤ a.toNat → Sat Z (⟨D, Pt (.lst acc)⟩ :: L) H' → Qd D H') :
    ∃ j : Int, [V.int a] = [.int j] ∧ -(2 ^ 62) ≤ j ∧ j < 2 ^ 62 ∧ ∀ D, H D = none → ∃ W : Nat → Nat → Hp → Prop, (∃ m, W 0 m (upd H D (.lst []))) ∧ ∀ i m H, W i m H →
  ((Itr 0 j.toNat).stop i H ∧ Qd D H) ∨ ((Itr 0 j.toNat).go i H ∧ ∃ Nx : Hp → Prop, (∀ H', Nx H' → ∃ m', m' < m ∧ W (i + 1) m' H') ∧ ∀ x H', (Itr 0 j.toNat).yld i H x H' → g x (wipe σ vs) H' fun σ2 H2 => wipe σ2 vs = wipe σ vs ∧ tt σ2 H2 fun b H3 =>
    if b = true then te σ2 H3 fun y H4 => ∃ acc, H4 D = some (.lst acc) ∧ acc.length < sizeLine ∧ Nx (upd H4 D (.lst (acc ++ [y]))) else Nx H3) := by
  refine c_rng (by omega) (fun D i H' => Cv Z I D i H') ?_ ?_ ?_
  · intro D hD
    exact ⟨[], _, h0, Nat.le_refl _, s.new hD (fun _ z => by cases z)⟩
  · rintro D i H' hD hi ⟨acc, L, h, hl, s'⟩
    exact hs D i acc L H' hi h hl s'
  · rintro D H' hD ⟨acc, L, h, hl, s'⟩
    exact hd D acc L H' h hl s'
/-- over a tuple -/
theorem sc_tup {Qd : Addr → Hp → Prop} (s : Sat Z L H) (f : Fnd L p (Pt (.tup xs)) R) (I : Nat → List V → List Atom → Prop) (h0 : I 0 [] R)
    (hs : ∀ D i x acc L H', xs[i]? = some x → I i acc L → acc.length ≤ i → Sat Z (⟨D, Pt (.lst acc)⟩ :: ⟨p, Pt (.tup xs)⟩ :: L) H' → g x (wipe σ vs) H' fun σ2 H2 => wipe σ2 vs = wipe σ vs ∧ tt σ2 H2 fun b H3 =>
      if b = true then te σ2 H3 fun y H4 => ∃ acc, H4 D = some (.lst acc) ∧ acc.length < sizeLine ∧ Cv Z (fun i acc L => ∃ L', L = ⟨p, Pt (.tup xs)⟩ :: L' ∧ I i acc L') D (i + 1) (upd H4 D (.lst (acc ++ [y]))) else Cv Z (fun i acc L => ∃ L', L = ⟨p, Pt (.tup xs)⟩ :: L' ∧ I i acc L') D (i + 1) H3)
    (hd : ∀ D acc L H', I xs.length acc L → acc.length ≤ xs.length → Sat Z (⟨D, Pt (.lst acc)⟩ :: ⟨p, Pt (.tup xs)⟩ :: L) H' → Qd D H') :
    ∃ a, V.ref p = .ref a ∧ (∃ xs, SqT K H a xs) ∧ ∀ D, H D = none → ∃ W : Nat → Nat → Hp → Prop, (∃ m, W 0 m (upd H D (.lst []))) ∧ ∀ i m H, W i m H →
  ((Itt K a).stop i H ∧ Qd D H) ∨ ((Itt K a).go i H ∧ ∃ Nx : Hp → Prop, (∀ H', Nx H' → ∃ m', m' < m ∧ W (i + 1) m' H') ∧ ∀ x H', (Itt K a).yld i H x H' → g x (wipe σ vs) H' fun σ2 H2 => wipe σ2 vs = wipe σ vs ∧ tt σ2 H2 fun b H3 =>
    if b = true then te σ2 H3 fun y H4 => ∃ acc, H4 D = some (.lst acc) ∧ acc.length < sizeLine ∧ Nx (upd H4 D (.lst (acc ++ [y]))) else Nx H3) := by
  refine ⟨p, rfl, ⟨xs, s.st⟩, fun D hD => lc_tup (xs := xs) (Qd := Qd D) (fun i H' => Cv Z (fun i acc L => ∃ L', L = ⟨p, Pt (.tup xs)⟩ :: L' ∧ I i acc L') D i H') ?_ ?_ ?_ ?_⟩
  · exact ⟨[], _, ⟨R, rfl, h0⟩, Nat.le_refl _, s.fnd.new hD (fun _ z => by cases z)⟩
  · rintro i H' hi ⟨acc, L, ⟨L', rfl, _⟩, _, s'⟩
    exact s'.st
  · rintro i x H' hx ⟨acc, L, ⟨L', rfl, h⟩, hl, s'⟩
    exact hs D i x acc L' H' hx h hl s'
  · rintro H' ⟨acc, L, ⟨L', rfl, h⟩, hl, s'⟩
    exact hd D acc L' H' h hl s'
/-! #### what each item gives alone -/
theorem get_map {α : Type} {as : List α} {e : α → V} {i : Nat} {x : V} (h : (as.map e)[i]? = some x) : ∃ a, as[i]? = some a ∧ x = e a := by
  rw [List.getElem?_map] at h
  cases q : as[i]? with
  | none => rw [q] at h; cases h
  | some a => rw [q] at h; exact ⟨a, rfl, (Option.some.inj h).symm⟩
theorem fm_step {α : Type} {as : List α} {P : α → Bool} {F : α → V} {i : Nat} {a : α} (h : as[i]? = some a) : ((as.take (i + 1)).filter P).map F = ((as.take i).filter P).map F ++ (if P a = true then [F a] else []) := by
  rw [List.take_add_one, h, List.filter_append, List.map_append]
  congr 1
  show (([a] : List α).filter P).map F = _
  rw [List.filter_cons]
  by_cases q : P a = true
  · rw [if_pos q, if_pos q]; rfl
  · rw [if_neg q, if_neg q]; rfl
/-- behind i turns: D holds what the first i items gave -/
structure Fm {α : Type} (Z : Ad) (S : List Atom) (as : List α) (P : α → Bool) (F : α → V) (D : Addr) (i : Nat) (H' : Hp) : Prop where
  s : Sat Z (⟨D, Pt (.lst (((as.take i).filter P).map F))⟩ :: S) H'
section
variable {α : Type} {as : List α} {e : α → V} {P : α → Bool} {F : α → V} {S : List Atom} {D : Addr} {i : Nat} {a : α} {G : α → Int}
theorem fm_len : (((as.take i).filter P).map F).length ≤ i := by
  rw [List.length_map]
  exact Nat.le_trans (List.length_filter_le _ _) (by rw [List.length_take]; omega)
theorem fm_yes (ha : as[i]? = some a) (hP : P a = true) (hy : y = F a) (s : Sat Z L H) (E : Ent L (⟨D, Pt (.lst (((as.take i).filter P).map F))⟩ :: S)) (hn : as.length ≤ 100000) :
    ∃ acc, H D = some (.lst acc) ∧ acc.length < sizeLine ∧ Fm Z S as P F D (i + 1) (upd H D (.lst (acc ++ [y]))) := by
  have s := s.ent (L' := ⟨D, Pt (.lst (((as.take i).filter P).map F))⟩ :: S)
  have hi := (List.getElem?_eq_some_iff.mp ha).1
  refine ⟨_, s.at0, sz_less (Nat.lt_of_le_of_lt fm_len (by omega)), ⟨?_⟩⟩
  rw [fm_step ha, if_pos hP, ← hy]
  exact s.put mutO_lst rfl
theorem fm_no (ha : as[i]? = some a) (hP : P a = false) (s : Sat Z L H) (E : Ent L (⟨D, Pt (.lst (((as.take i).filter P).map F))⟩ :: S)) : Fm Z S as P F D (i + 1) H := by
  refine ⟨?_⟩
  rw [fm_step ha, if_neg (by rw [hP]; exact Bool.false_ne_true), List.append_nil]
  exact s.ent
theorem fin_fm {Qd : Addr → Hp → Prop} (q : ∀ D H', Sat Z (⟨D, Pt (.lst ((as.filter P).map F))⟩ :: S) H' → Qd D H') : ∀ D H', Fm Z S as P F D as.length H' → Qd D H' := fun D H' h => q D H' (by have := h.s; rwa [List.take_length] at this)
theorem fin_fmI {Qd : Addr → Hp → Prop} (q : ∀ D H', Sat Z (⟨D, Pt (.lst (((as.filter P).map G).map V.int))⟩ :: S) H' → Qd D H') : ∀ D H', Fm Z S as P (fun a => .int (G a)) D as.length H' → Qd D H' := fin_fm fun D H' h => q D H' (by rw [List.map_map]; exact h)
theorem fin_mp {Qd : Addr → Hp → Prop} (q : ∀ D H', Sat Z (⟨D, Pt (.lst (as.map F))⟩ :: S) H' → Qd D H') : ∀ D H', Fm Z S as (fun _ => true) F D as.length H' → Qd D H' := fin_fm fun D H' h => q D H' (by rwa [List.filter_eq_self.mpr (fun _ _ => rfl)] at h)
theorem fin_mpI {Qd : Addr → Hp → Prop} (q : ∀ D H', Sat Z (⟨D, Pt (.lst ((as.map G).map V.int))⟩ :: S) H' → Qd D H') : ∀ D H', Fm Z S as (fun _ => true) (fun a => .int (G a)) D as.length H' → Qd D H' := fin_mp fun D H' h => q D H' (by rw [List.map_map]; exact h)
/-- over a list -/
theorem fm_list {Qd : Addr → Hp → Prop} (s : Sat Z L H) (f : Fnd L p X R) (d : RdL K X xs) (as : List α) (e : α → V) (hx : xs = as.map e) (P : α → Bool) (F : α → V)
    (hs : ∀ D i a H', as[i]? = some a → Sat Z (⟨D, Pt (.lst (((as.take i).filter P).map F))⟩ :: ⟨p, X⟩ :: R) H' → g (e a) (wipe σ vs) H' fun σ2 H2 => wipe σ2 vs = wipe σ vs ∧ tt σ2 H2 fun b H3 =>
      if b = true then te σ2 H3 fun y H4 => ∃ acc, H4 D = some (.lst acc) ∧ acc.length < sizeLine ∧ Fm Z (⟨p, X⟩ :: R) as P F D (i + 1) (upd H4 D (.lst (acc ++ [y]))) else Fm Z (⟨p, X⟩ :: R) as P F D (i + 1) H3)
    (hd : ∀ D H', Fm Z (⟨p, X⟩ :: R) as P F D as.length H' → Qd D H') :
    ∃ a, V.ref p = .ref a ∧ (∃ xs, SqL K H a xs) ∧ ∀ D, H D = none → ∃ W : Nat → Nat → Hp → Prop, (∃ m, W 0 m (upd H D (.lst []))) ∧ ∀ i m H, W i m H →
  ((Itl K a).stop i H ∧ Qd D H) ∨ ((Itl K a).go i H ∧ ∃ Nx : Hp → Prop, (∀ H', Nx H' → ∃ m', m' < m ∧ W (i + 1) m' H') ∧ ∀ x H', (Itl K a).yld i H x H' → g x (wipe σ vs) H' fun σ2 H2 => wipe σ2 vs = wipe σ vs ∧ tt σ2 H2 fun b H3 =>
    if b = true then te σ2 H3 fun y H4 => ∃ acc, H4 D = some (.lst acc) ∧ acc.length < sizeLine ∧ Nx (upd H4 D (.lst (acc ++ [y]))) else Nx H3) := by
  subst hx
  refine c_list s.sq (fun D i H' => Fm Z (⟨p, X⟩ :: R) as P F D i H') ?_ ?_ ?_ ?_
  · intro D hD
    exact ⟨s.fnd.new hD (fun _ z => by cases z)⟩
  · rintro D i H' hD hi ⟨s'⟩
    exact s'.sq
  · rintro D i x H' hD hx ⟨s'⟩
    obtain ⟨a, ha, rfl⟩ := get_map hx
    exact hs D i a H' ha s'
  · intro D H' hD h
    rw [List.length_map] at h
    exact hd D H' h
/-- over a tuple -/
theorem fm_tup {Qd : Addr → Hp → Prop} (s : Sat Z L H) (f : Fnd L p (Pt (.tup xs)) R) (as : List α) (e : α → V) (hx : xs = as.map e) (P : α → Bool) (F : α → V)
    (hs : ∀ D i a H', as[i]? = some a → Sat Z (⟨D, Pt (.lst (((as.take i).filter P).map F))⟩ :: ⟨p, Pt (.tup xs)⟩ :: R) H' → g (e a) (wipe σ vs) H' fun σ2 H2 => wipe σ2 vs = wipe σ vs ∧ tt σ2 H2 fun b H3 =>
      if b = true then te σ2 H3 fun y H4 => ∃ acc, H4 D = some (.lst acc) ∧ acc.length < sizeLine ∧ Fm Z (⟨p, Pt (.tup xs)⟩ :: R) as P F D (i + 1) (upd H4 D (.lst (acc ++ [y]))) else Fm Z (⟨p, Pt (.tup xs)⟩ :: R) as P F D (i + 1) H3)
    (hd : ∀ D H', Fm Z (⟨p, Pt (.tup xs)⟩ :: R) as P F D as.length H' → Qd D H') :
    ∃ a, V.ref p = .ref a ∧ (∃ xs, SqT K H a xs) ∧ ∀ D, H D = none → ∃ W : Nat → Nat → Hp → Prop, (∃ m, W 0 m (upd H D (.lst []))) ∧ ∀ i m H, W i m H →
  ((Itt K a).stop i H ∧ Qd D H) ∨ ((Itt K a).go i H ∧ ∃ Nx : Hp → Prop, (∀ H', Nx H' → ∃ m', m' < m ∧ W (i + 1) m' H') ∧ ∀ x H', (Itt K a).yld i H x H' → g x (wipe σ vs) H' fun σ2 H2 => wipe σ2 vs = wipe σ vs ∧ tt σ2 H2 fun b H3 =>
    if b = true then te σ2 H3 fun y H4 => ∃ acc, H4 D = some (.lst acc) ∧ acc.length < sizeLine ∧ Nx (upd H4 D (.lst (acc ++ [y]))) else Nx H3) := by
  subst hx
  refine ⟨p, rfl, ⟨_, s.st⟩, fun D hD => lc_tup (xs := as.map e) (Qd := Qd D) (fun i H' => Fm Z (⟨p, Pt (.tup (as.map e))⟩ :: R) as P F D i H') ?_ ?_ ?_ ?_⟩
  · exact ⟨s.fnd.new hD (fun _ z => by cases z)⟩
  · rintro i H' hi ⟨s'⟩
    exact s'.st
  · rintro i x H' hx ⟨s'⟩
    obtain ⟨a, ha, rfl⟩ := get_map hx
    exact hs D i a H' ha s'
  · intro H' h
    rw [List.length_map] at h
    exact hd D H' h
/-- over range(a) -/
theorem fm_rng {a : Int} {Qd : Addr → Hp → Prop} (s : Sat Z L H) (n : Nat) (hb : a = n) (hn : n ≤ 100000) (P : Nat → Bool) (F : Nat → V)
    (hs : ∀ D i H', i < n → (List.range n)[i]? = some i → Sat Z (⟨D, Pt (.lst ((((List.range n).take i).filter P).map F))⟩ :: L) H' → g (.int ((i : Nat) : Int)) (wipe σ vs) H' fun σ2 H2 => wipe σ2 vs = wipe σ vs ∧ tt σ2 H2 fun b H3 =>
      if b = true then te σ2 H3 fun y H4 => ∃ acc, H4 D = some (.lst acc) ∧ acc.length < sizeLine ∧ Fm Z L (List.range n) P F D (i + 1) (upd H4 D (.lst (acc ++ [y]))) else Fm Z L (List.range n) P F D (i + 1) H3)
    (hd : ∀ D H', Fm Z L (List.range n) P F D (List.range n).length H' → Qd D H') :
    ∃ j : Int, [V.int a] = [.int j] ∧ -(2 ^ 62) ≤ j ∧ j < 2 ^ 62 ∧ ∀ D, H D = none → ∃ W : Nat → Nat → Hp → Prop, (∃ m, W 0 m (upd H D (.lst []))) ∧ ∀ i m H, W i m H →
  ((Itr 0 j.toNat).stop i H ∧ Qd D H) ∨ ((Itr 0 j.toNat).go i H ∧ ∃ Nx : Hp → Prop, (∀ H', Nx H' → ∃ m', m' < m ∧ W (i + 1) m' H') ∧ ∀ x H', (Itr 0 j.toNat).yld i H x H' → g x (wipe σ vs) H' fun σ2 H2 => wipe σ2 vs = wipe σ vs ∧ tt σ2 H2 fun b H3 =>
    if b = true then te σ2 H3 fun y H4 => ∃ acc, H4 D = some (.lst acc) ∧ acc.length < sizeLine ∧ Nx (upd H4 D (.lst (acc ++ [y]))) else Nx H3) := by
  subst hb
  refine c_rng (by omega) (fun D i H' => Fm Z L (List.range n) P F D i H') ?_ ?_ ?_
  · intro D hD
    exact ⟨s.new hD (fun _ z => by cases z)⟩
  · rintro D i H' hD hi ⟨s'⟩
    exact hs D i H' (by omega) (by rw [List.getElem?_range (by omega)]) s'
  · intro D H' hD h
    rw [Int.toNat_natCast] at h
    exact hd D H' (by rw [List.length_range]; exact h)
end
end
end NN
/-! own: a lambda of one parameter as key= of min, max, sorted -/
namespace NL
open PySem PySem.Spec PyProof.Rows L2 LamX
/-- a lambda's names: its one parameter a, captured ones, globals -/
structure Lam1 (sc scope : Scope) (a : Str) : Prop where
  kind : scope.kind = .function
  co : scope.isCoroutine = false
  gen : scope.isGenerator = false
  par : scope.names.lookup a = some .local
  own : ∀ y ∈ scope.names, y.2 ≠ .cell ∧ (y.2 = .local → y.1 = a)
  free : ∀ y ∈ scope.names, y.2 = .free → sc.names.lookup y.1 = some .cell ∨ sc.names.lookup y.1 = some .free
def lam1B (sc scope : Scope) (a : Str) : Bool :=
  decide (scope.kind = .function) && !scope.isCoroutine && !scope.isGenerator && decide (scope.names.lookup a = some .local) && scope.names.all fun y => !decide (y.2 = .cell) && (!decide (y.2 = .local) || decide (y.1 = a)) && (!decide (y.2 = .free) || decide (sc.names.lookup y.1 = some .cell) || decide (sc.names.lookup y.1 = some .free))
theorem lam1_by {sc scope : Scope} {a : Str} (h : lam1B sc scope a = true) : Lam1 sc scope a := by
  unfold lam1B at h
  simp only [Bool.and_eq_true, Bool.or_eq_true, Bool.not_eq_true', decide_eq_true_eq, decide_eq_false_iff_not, List.all_eq_true] at h
  obtain ⟨⟨⟨⟨h1, h2⟩, h3⟩, h5⟩, h4⟩ := h
  refine ⟨h1, h2, h3, h5, fun y hy => ⟨(h4 y hy).1.1, fun e => ?_⟩, fun y hy e => ?_⟩
  · rcases (h4 y hy).1.2 with z | z
    · exact absurd e z
    · exact z
  · rcases (h4 y hy).2 with (z | z) | z
    · exact absurd e z
    · exact .inl z
    · exact .inr z
theorem Lam1.has {X : Cx} {scope : Scope} {a : Str} (L : Lam1 X.env.scope scope a) (ok : X.Ok) : ∀ y ∈ scope.names, y.2 = .free → ∃ c, X.env.cells.lookup y.1 = some c := fun y hy e => by
  rcases L.free y hy e with k | k
  · exact ok.has _ (.inl k)
  · exact ok.has _ (.inr k)
/-- the body's context: as lamCx, nothing is let out -/
abbrev bodyCx (X : Cx) (A : Around) (s : Shared) (H : Hp) (scope : Scope) (f c' : Addr) : Cx := (lamCx X A X.stack s H (fun _ _ _ => False) scope f c').nox
section
variable {X : Cx} {pins : List (Addr × Obj)} {σ : L2.St} {H : Hp} {s : Shared} {A : Around} {scope : Scope} {f c' : Addr} {a : Str} {j : Nat} {x : V} {u : Value} {h₁ : Heap} {tk : Nat}
theorem lam1_start (I : Inv X pins σ H s) (L : Lam1 X.env.scope scope a) (e0 : Env0 X.prog X.w X.K X.mg X.base A X.stack s H) (hd : A.handled = none) (nd : X.N.Nodup) (hj : X.N[j]? = some a) (rx : RelV x u)
    (hns : h₁.Ns s.heap.objs.size fun y => ([(a, u)] : List (Str × Value)).reverse.lookup y) (kp : ∀ b o, s.heap.get? b = some o → h₁.get? b = some o) :
    Inv (bodyCx X A s H scope f c') [] (σ.set j (some x)) H { s with heap := h₁, toks := tk } := by
  have hfree := L.has I.ok
  have jl : j < X.N.length := (List.getElem?_eq_some_iff.mp hj).1
  have ne0 : ∀ (b : Addr) (o : Obj), s.heap.get? b = some o → h₁.get? b = some o := kp
  have cm : ∀ {y c}, (cloFrom X.env.cells scope.names []).lookup y = some c → X.env.cells.lookup y = some c := fun {y c} e => by
    rcases cloFrom_mem (PySem.mem_of_lookup e) with hm | ⟨h1, h2⟩
    · cases hm
    · obtain ⟨c1, hc⟩ := hfree _ h1 rfl
      have hc : X.env.cells.lookup y = some c1 := hc
      rw [show c = c1 by rw [h2, hc]; rfl]
      exact hc
  have look : ∀ {y}, scope.names.lookup y = some .free → ∃ c, (cloFrom X.env.cells scope.names []).lookup y = some c := fun {y} hl =>
    mem_lookup (cloFrom_has (cells := X.env.cells) (acc := []) (PySem.mem_of_lookup hl))
  have noA : ∀ b : Addr, b ∉ (bodyCx X A s H scope f c').ex := fun b z => absurd (show b ∈ ([] : List Addr) from z) (by simp)
  have noC : ∀ {y}, scope.names.lookup y ≠ some .cell := fun {y} e => (L.own _ (PySem.mem_of_lookup e)).1 rfl
  refine ⟨⟨e0.mod, L.kind, rfl, rfl, Nat.le_refl _, fun y z c e1 e2 => I.ok.inj y z c (cm e1) (cm e2), fun y hy => ?_, fun y c z _ => ?_, fun _ => hd, Around.frames_deeper e0.frames, .inr ⟨rfl, rfl⟩, fun b z => absurd z (noA b), e0.bs, e0.bsz, fun b _ _ => noA b,
      fun b z => absurd z (noA b), e0.funs, e0.frf⟩,
    rfl, e0.bare, Un.kept kp, ⟨_, hns, fun i y v e1 e2 e3 => ?_⟩, fun y c e => ?_, e0.hok.fresh (Nat.le_refl _), fun y c e => I.freeC y c (cm e), fun q hq => absurd (show q ∈ ([] : List (Addr × Obj)) ++ [] from hq) (by simp), e0.hok.kept kp, ?_⟩
  · have hy : scope.names.lookup y = some .cell ∨ scope.names.lookup y = some .free := hy
    rcases hy with hy | hy
    · exact absurd hy noC
    · exact look hy
  · have z : false = true := z
    cases z
  · have e3 : Vis scope y := e3
    have e1 : X.N[i]? = some y := e1
    by_cases hy : y = a
    · subst hy
      have ij : i = j := nodup_ix nd e1 hj
      subst ij
      rw [List.getElem?_set_self (by rw [I.len]; exact jl)] at e2
      cases e2
      refine ⟨u, rx, .inl ⟨L.par, ?_⟩⟩
      show ([(y, u)] : List (Str × Value)).reverse.lookup y = some u
      simp [List.lookup]
    · have hij : i ≠ j := fun z => hy (by rw [z, hj] at e1; exact (Option.some.inj e1).symm)
      rw [List.getElem?_set_ne (fun z => hij z.symm)] at e2
      rcases e3 with k | k | k
      · exact absurd ((L.own _ (PySem.mem_of_lookup k)).2 rfl) hy
      · exact absurd k noC
      · obtain ⟨m, hn, hl⟩ := I.loc
        have hvis : Vis X.env.scope y := (L.free _ (PySem.mem_of_lookup k) rfl).elim (fun k => .inr (.inl k)) (fun k => .inr (.inr k))
        obtain ⟨w', r, q⟩ := hl i y v e1 e2 hvis
        obtain ⟨c2, h2⟩ := look k
        refine ⟨w', r, .inr ⟨.inr k, c2, h2, ?_⟩⟩
        have c1 := cm h2
        rcases q with ⟨k', _⟩ | ⟨_, c3, e', o, z1, z2⟩
        · have k' : X.env.scope.names.lookup y = some .local := k'
          rcases L.free _ (PySem.mem_of_lookup k) rfl with k2 | k2 <;> rw [show X.env.scope.names.lookup y = _ from k2] at k' <;> cases k'
        · rw [c1] at e'
          cases e'
          exact ⟨o, kp _ _ z1, z2⟩
  · obtain ⟨v, o, ho, hd⟩ := I.cell y c (cm e)
    exact ⟨v, o, kp _ _ ho, hd⟩
  · rw [List.length_set]
    exact I.len
/-- the lambda is called, from within a built-in too (A: where) -/
theorem lam1_call {params : Arguments} {body : Expr} {pm ctv : Value} {k : Nat} {tb : TE} {Q : VK} (I : Inv X pins σ H s) (e0 : Env0 X.prog X.w X.K X.mg X.base A X.stack s H) (L : Lam1 X.env.scope scope a) (nd : X.N.Nodup) (hj : X.N[j]? = some a)
    (hf : s.heap.get? f = some (PySem.W.kla_obj "<lambda>" (X.env.qual ++ "<lambda>") params body scope (cloFrom X.env.cells scope.names []) pm c' ctv)) (hc : s.heap.CodeRec (.ref c') (X.env.qual ++ "<lambda>"))
    (hbind : bindArgs (PySem.W.kla_fn "<lambda>" (X.env.qual ++ "<lambda>") params body scope (cloFrom X.env.cells scope.names []) pm (.ref c') ctv) ⟨[u], []⟩ = pure [(a, u)]) (hr : Room (k + 1) A)
    (hbody : Room k (A.deeper (lamEnv X scope s.heap.objs.size f c')) → PE (bodyCx X A s H scope f c') body tb) (rx : RelV x u) (h : tb (σ.set j (some x)) H Q) :
    wpAny (model X.prog X.w) A (call (.ref f) [u]) (EP X pins σ Q) (fun _ _ => False) s := by
  have rc : codeAny (model X.prog X.w) A (.call (.ref f) ⟨[u], []⟩) (CR C8.CX0 X.stack X.prog X.w H s Q C8.E0) s := by
    refine PySem.W.kla_callFunE hr.depth hf rfl L.co L.gen rfl hc ?_
    rw [hbind]
    refine wpAny_pure (wpAny_newFunctionEnv (fun y hy => (L.own y hy).1) (fun y hy => ?_) (fun h₁ hns hsb => ⟨I.nolimit.fresh _ hsb, ?_⟩) L.kind)
    · rw [List.mem_singleton.mp hy]; exact L.par
    show codeAny _ _ (.expr body (lamEnv X scope s.heap.objs.size f c')) _ _
    have kp : ∀ b o, s.heap.get? b = some o → h₁.get? b = some o := fun b o e => hsb.extBut b o (Nat.ne_of_lt (Heap.lt_size e)) (Heap.get?_push_of_some _ e)
    have J := lam1_start (f := f) (c' := c') (tk := s.toks + ([(a, u)] : List (Str × Value)).length) I L e0 hr.hd nd hj rx hns kp
    refine PySem.W.kla_codeExpr (wpAny_mono ((hbody (hr.deeper _)).run [] _ _ H Q J h) (fun v s' hq => ?_) fun e s' hq => hq.elim)
    obtain ⟨w', H', J', rv, q⟩ := hq
    exact ⟨w', H', J'.os, J'.bare, J'.base, J'.hok, rv, q⟩
  refine wpAny_call (codeAny_mono rc fun r s' hq => ?_)
  cases r with
  | error e => exact (show False from hq).elim
  | ok fl =>
    cases fl with
    | ret u => exact I.after hq
    | next => exact False.elim hq
    | brk => exact False.elim hq
    | cont => exact False.elim hq
end
end NL
/-! own: min, max with such a key -/
namespace NL
open PySem PySem.Spec PyProof.Rows L2 LamX
section
variable {X : Cx} {pins : List (Addr × Obj)} {σ : L2.St} {H : Hp} {s s' : Shared} {A : Around} {scope : Scope} {f c' : Addr} {a : Str} {j : Nat} {x : V} {u : Value} {h₁ : Heap} {tk : Nat}
/-- all but the things at ws stands as it stood -/
structure Mv (ws : List Addr) (s s' : Shared) : Prop where
  heap : ∀ b o, b ∉ ws → s.heap.get? b = some o → s'.heap.get? b = some o
  gens : s'.gens = s.gens
  os : s'.os = s.os
theorem Mv.of {ws : List Addr} {s s' : Shared} (m : Moved ws (fun p q => q = p) s s') : Mv ws s s' := ⟨m.heap, m.gens, m.os⟩
/-- an address that the def did not know -/
structure Nw (X : Cx) (pins : List (Addr × Obj)) (b : Addr) : Prop where
  ge : X.s_0.heap.objs.size ≤ b
  loc : b ≠ X.env.locals
  cell : ∀ x c, X.env.cells.lookup x = some c → c ≠ b
  pin : ∀ p ∈ X.pn ++ pins, p.1 ≠ b
  frs : b ∉ frs X.stack
theorem Nw.of (I : Inv X pins σ H s) {b : Addr} (hb : s.heap.objs.size ≤ b) : Nw X pins b where
  ge := Nat.le_trans I.sz hb
  loc := Nat.ne_of_gt (Nat.lt_of_lt_of_le I.lt hb)
  cell := fun x c e => by
    obtain ⟨v, o, ho, _⟩ := I.cell x c e
    exact Nat.ne_of_lt (Nat.lt_of_lt_of_le (Heap.lt_size ho) hb)
  pin := fun p hp => Nat.ne_of_lt (Nat.lt_of_lt_of_le (Heap.lt_size (I.pin p hp).1) hb)
  frs := fun z => by
    rcases List.mem_cons.mp (I.stkSub _ z) with e | e
    · exact absurd e (Nat.ne_of_gt (Nat.lt_of_lt_of_le I.lt hb))
    · exact I.nofs hb e
/-- a built-in moved things that the def does not know -/
theorem inv_moved {ws : List Addr} (I : Inv X pins σ H s) (m : Mv ws s s') (hw : ∀ b ∈ ws, Nw X pins b ∧ H b = none) : Inv X pins σ H s' := by
  obtain ⟨h', g', d', t', o'⟩ := s'
  have ho : o' = s.os := m.os
  have hg : g' = s.gens := m.gens
  subst ho
  subst hg
  have nH : ∀ b o, H b = some o → b ∉ ws := fun b o e z => by
    rw [(hw b z).2] at e
    cases e
  have kk : ∀ b o, b ∉ ws → s.heap.get? b = some o → h'.get? b = some o := m.heap
  refine I.step (ch := ws) (fun b hb => ⟨.inr (hw b hb).1.ge, (hw b hb).1.loc, (hw b hb).1.cell, (hw b hb).1.pin⟩) (fun b o _ _ n e _ => kk b o n e) (fun b o _ _ n e _ => ⟨o.slots, kk b o n e⟩) (fun _ _ _ _ e => e) (fun b o n e => ⟨o, kk b o n e⟩)
    (fun _ _ e => e) (fun _ _ _ e => e) (fun b ps e => ⟨#[], by simpa using e⟩) (fun mm hm => ?_) (fun b o e => ?_) I.bare
  · obtain ⟨ob, es, ep, h1, r⟩ := hm
    exact ⟨ob, es, ep, kk _ _ (fun z => (hw _ z).1.loc rfl) h1, r⟩
  · refine (I.hok b o e).stay (fun c v hc q => kk c v ?_ q) (fun _ q => q) fun _ _ q => q
    rcases hc with rfl | hc
    · exact nH _ _ e
    · exact nH _ _ hc
/-- the lambda's call, by what stands behind it -/
theorem lam1_run {params : Arguments} {body : Expr} {pm ctv : Value} {k : Nat} {tb : TE} {Q : VK} (I : Inv X pins σ H s) (e0 : Env0 X.prog X.w X.K X.mg X.base A X.stack s H) (L : Lam1 X.env.scope scope a) (nd : X.N.Nodup) (hj : X.N[j]? = some a)
    (hf : s.heap.get? f = some (PySem.W.kla_obj "<lambda>" (X.env.qual ++ "<lambda>") params body scope (cloFrom X.env.cells scope.names []) pm c' ctv)) (hc : s.heap.CodeRec (.ref c') (X.env.qual ++ "<lambda>"))
    (hbind : bindArgs (PySem.W.kla_fn "<lambda>" (X.env.qual ++ "<lambda>") params body scope (cloFrom X.env.cells scope.names []) pm (.ref c') ctv) ⟨[u], []⟩ = pure [(a, u)]) (hr : Room (k + 1) A)
    (hbody : Room k (A.deeper (lamEnv X scope s.heap.objs.size f c')) → PE (bodyCx X A s H scope f c') body tb) (rx : RelV x u) (h : tb (σ.set j (some x)) H Q) :
    wpAny (model X.prog X.w) A (call (.ref f) [u]) (fun v s' => CE X.stack X.prog X.w H s Q v s') (fun _ _ => False) s := by
  have rc : codeAny (model X.prog X.w) A (.call (.ref f) ⟨[u], []⟩) (CR C8.CX0 X.stack X.prog X.w H s Q C8.E0) s := by
    refine PySem.W.kla_callFunE hr.depth hf rfl L.co L.gen rfl hc ?_
    rw [hbind]
    refine wpAny_pure (wpAny_newFunctionEnv (fun y hy => (L.own y hy).1) (fun y hy => ?_) (fun h₁ hns hsb => ⟨I.nolimit.fresh _ hsb, ?_⟩) L.kind)
    · rw [List.mem_singleton.mp hy]; exact L.par
    show codeAny _ _ (.expr body (lamEnv X scope s.heap.objs.size f c')) _ _
    have kp : ∀ b o, s.heap.get? b = some o → h₁.get? b = some o := fun b o e => hsb.extBut b o (Nat.ne_of_lt (Heap.lt_size e)) (Heap.get?_push_of_some _ e)
    have J := lam1_start (f := f) (c' := c') (tk := s.toks + ([(a, u)] : List (Str × Value)).length) I L e0 hr.hd nd hj rx hns kp
    refine PySem.W.kla_codeExpr (wpAny_mono ((hbody (hr.deeper _)).run [] _ _ H Q J h) (fun v s' hq => ?_) fun e s' hq => hq.elim)
    obtain ⟨w', H', J', rv, q⟩ := hq
    exact ⟨w', H', J'.os, J'.bare, J'.base, J'.hok, rv, q⟩
  refine wpAny_call (codeAny_mono rc fun r s' hq => ?_)
  cases r with
  | error e => exact (show False from hq).elim
  | ok fl =>
    cases fl with
    | ret u => exact hq
    | next => exact False.elim hq
    | brk => exact False.elim hq
    | cont => exact False.elim hq
/-- what holds between the turns: the def's state, the lambda's object, what is kept aside -/
structure Jt (X : Cx) (pins : List (Addr × Obj)) (σ : L2.St) (f c' : Addr) (fo : Obj) (l : Addr) (od : Obj) (lo : HO) (ws : List Addr) (J : Hp → Prop) (s : Shared) : Prop where
  ex : ∃ H, Inv X pins σ H s ∧ J H ∧ s.heap.get? f = some fo ∧ H f = none ∧ H c' = some (CodeO c' (X.env.qual ++ "<lambda>")) ∧ H l = some (.frz od lo) ∧ ∀ b ∈ ws, H b = none
theorem codeO_rec {H : Hp} {h : Heap} {P : Program} {w : World} {c : Addr} {q : Str} (hok : HOk P w H h) (e : H c = some (CodeO c q)) : h.CodeRec (.ref c) q := by
  obtain ⟨⟨oc, vs, t, h1, h2, h3⟩, _, _⟩ := hok c _ e
  exact ⟨c, oc, vs, t, rfl, h1, h2, h3⟩
theorem Jt.moved {fo : Obj} {l : Addr} {od : Obj} {lo : HO} {ws : List Addr} {J : Hp → Prop} (hw : ∀ b ∈ ws, Nw X pins b) (hf : f ∉ ws) (h : Jt X pins σ f c' fo l od lo ws J s) (m : Mv ws s s') : Jt X pins σ f c' fo l od lo ws J s' := by
  obtain ⟨H, I, j, hfo, hfn, hc, hl, hn⟩ := h.ex
  exact ⟨H, inv_moved I m fun b hb => ⟨hw b hb, hn b hb⟩, j, m.heap _ _ hf hfo, hfn, hc, hl, hn⟩
end
/-- the first of the best, by its place -/
def FirstBest (lt : Int → Int → Prop) (key : Int → Int) (ns : List Int) (i : Nat) (n : Int) : Prop := ns[i]? = some n ∧ (∀ m ∈ ns, ¬ lt (key m) (key n)) ∧ ∀ i' m, i' < i → ns[i']? = some m → lt (key n) (key m)
theorem best_min {key : Int → Int} {ns : List Int} : ∀ k, k < ns.length → ∃ n, argBest (fun i j => decide (key (ns.getD i 0) < key (ns.getD j 0))) k ≤ k ∧ ns[argBest (fun i j => decide (key (ns.getD i 0) < key (ns.getD j 0))) k]? = some n ∧ (∀ i m, i ≤ k → ns[i]? = some m → key n ≤ key m) ∧ ∀ i m, i < argBest (fun i j => decide (key (ns.getD i 0) < key (ns.getD j 0))) k → ns[i]? = some m → key n < key m := by
  intro k
  induction k with
  | zero =>
    intro h
    refine ⟨ns[0], Nat.le_refl _, List.getElem?_eq_getElem h, fun i m hi e => ?_, fun i m hi => absurd hi (Nat.not_lt_zero _)⟩
    obtain rfl : i = 0 := by omega
    rw [List.getElem?_eq_getElem h] at e
    cases e
    exact Int.le_refl _
  | succ k ih =>
    intro h
    obtain ⟨n, h1, h2, h3, h4⟩ := ih (by omega)
    have e1 : ns[k + 1]? = some ns[k + 1] := List.getElem?_eq_getElem h
    have d1 : ns.getD (k + 1) 0 = ns[k + 1] := by rw [List.getD_eq_getElem?_getD, e1]; rfl
    generalize hb : argBest (fun i j => decide (key (ns.getD i 0) < key (ns.getD j 0))) k = b at *
    have d2 : ns.getD b 0 = n := by rw [List.getD_eq_getElem?_getD, h2]; rfl
    by_cases c : key ns[k + 1] < key n
    · have ea : argBest (fun i j => decide (key (ns.getD i 0) < key (ns.getD j 0))) (k + 1) = k + 1 := by simp only [argBest, hb, d1, d2, c, decide_true, if_true]
      rw [ea]
      refine ⟨_, Nat.le_refl _, e1, fun i m hi e => ?_, fun i m hi e => ?_⟩
      · rcases Nat.lt_or_ge i (k + 1) with z | z
        · have := h3 i m (by omega) e; omega
        · obtain rfl : i = k + 1 := by omega
          rw [e1] at e
          cases e
          exact Int.le_refl _
      · have := h3 i m (by omega) e; omega
    · have ea : argBest (fun i j => decide (key (ns.getD i 0) < key (ns.getD j 0))) (k + 1) = b := by simp only [argBest, hb, d1, d2, c, decide_false, Bool.false_eq_true, if_false]
      rw [ea]
      refine ⟨n, by omega, h2, fun i m hi e => ?_, h4⟩
      rcases Nat.lt_or_ge i (k + 1) with z | z
      · exact h3 i m (by omega) e
      · obtain rfl : i = k + 1 := by omega
        rw [e1] at e
        cases e
        omega
theorem best_max {key : Int → Int} {ns : List Int} : ∀ k, k < ns.length → ∃ n, argBest (fun i j => decide (key (ns.getD i 0) > key (ns.getD j 0))) k ≤ k ∧ ns[argBest (fun i j => decide (key (ns.getD i 0) > key (ns.getD j 0))) k]? = some n ∧ (∀ i m, i ≤ k → ns[i]? = some m → key m ≤ key n) ∧ ∀ i m, i < argBest (fun i j => decide (key (ns.getD i 0) > key (ns.getD j 0))) k → ns[i]? = some m → key m < key n := by
  intro k h
  obtain ⟨n, h1, h2, h3, h4⟩ := best_min (key := fun z => - key z) (ns := ns) k h
  have e : (fun i j => decide (-key (ns.getD i 0) < -key (ns.getD j 0))) = fun i j => decide (key (ns.getD i 0) > key (ns.getD j 0)) := by
    funext i j
    congr 1
    apply propext
    constructor <;> intro z <;> omega
  rw [e] at h1 h2 h4
  exact ⟨n, h1, h2, fun i m hi q => by have := h3 i m hi q; omega, fun i m hi q => by have := h4 i m hi q; omega⟩
end NL
/-! own: min, max with such a key: the rules -/
namespace NL
open PySem PySem.Spec PyProof.Rows L2 LamX
/-- what the key's reading asks: J holds between the turns (c: the lambda's code) -/
def KeyRd (T : List (Addr × Str)) (q : Str) (l : Addr) (od : Obj) (ns : List Int) (H1 : Hp) (body : Int → Hp → VK → Prop) (key : Int → Int) (J : Addr → Hp → Prop) : Prop :=
  (∀ c H2, ExtN H1 H2 → Tabs T H2 → H2 c = some (CodeO c q) → J c H2) ∧ (∀ c H2, J c H2 → H2 c = some (CodeO c q) ∧ H2 l = some (.frz od (.lst (ns.map V.int)))) ∧
  ∀ c H2 n, n ∈ ns → J c H2 → body n H2 fun k H3 => k = .int (key n) ∧ J c H3
def tKeyed (T : List (Addr × Str)) (q : Str) (j : Nat) (tb : TE) (te : TA) (R : List Int → (Int → Int) → (Hp → Prop) → VK → Prop) : TE := fun σ H Q => te σ H fun vs H1 => ∃ (l : Addr) (ns : List Int), vs = [.ref l] ∧ H1 l = some (.lst (ns.map V.int)) ∧ Tabs T H1 ∧ ∀ od : Obj,
  ∃ (key : Int → Int) (J : Addr → Hp → Prop), KeyRd T q l od ns (upd H1 l (.frz od (.lst (ns.map V.int)))) (fun n => tb (σ.set j (some (.int n)))) key J ∧ R ns key (fun H2 => ∃ c, J c H2) fun v H' => H' l = some (.frz od (.lst (ns.map V.int))) ∧ Q v (upd H' l (.lst (ns.map V.int)))
def rMinK : List Int → (Int → Int) → (Hp → Prop) → VK → Prop := fun ns key J Q => 0 < ns.length ∧ ∀ H2 i n, J H2 → FirstBest (· < ·) key ns i n → Q (.int n) H2
def rMaxK : List Int → (Int → Int) → (Hp → Prop) → VK → Prop := fun ns key J Q => 0 < ns.length ∧ ∀ H2 i n, J H2 → FirstBest (· > ·) key ns i n → Q (.int n) H2
section
variable {X : Cx} {pins : List (Addr × Obj)} {σ : L2.St} {H : Hp} {s : Shared}
/-- a call of the lambda on the item n: what the built-ins need -/
theorem key_turn {scope : Scope} {f c' : Addr} {a : Str} {j : Nat} {params : Arguments} {body : Expr} {pm ctv : Value} {k : Nat} {tb : TE} {l : Addr} {od : Obj} {ns : List Int} {T : List (Addr × Str)} {H1 : Hp} {key : Int → Int} {J : Addr → Hp → Prop} {ws : List Addr} {A : Around}
    (KR : KeyRd T (X.env.qual ++ "<lambda>") l od ns H1 (fun n => tb (σ.set j (some (.int n)))) key J) (L : Lam1 X.env.scope scope a) (nd : X.N.Nodup) (hj : X.N[j]? = some a) (hfr : f ∉ frs X.stack) (hwf : ∀ b ∈ ws, b ∉ frs X.stack)
    (hA : ∀ (H : Hp) (s : Shared), Inv X pins σ H s → Env0 X.prog X.w X.K X.mg X.base A X.stack s H)
    (hbind : ∀ u : Value, bindArgs (PySem.W.kla_fn "<lambda>" (X.env.qual ++ "<lambda>") params body scope (cloFrom X.env.cells scope.names []) pm (.ref c') ctv) ⟨[u], []⟩ = pure [(a, u)]) (hr : Room (k + 1) A)
    (hbody : ∀ (s : Shared) (H : Hp), Room k (A.deeper (lamEnv X scope s.heap.objs.size f c')) → PE (bodyCx X A s H scope f c') body tb)
    {n : Int} {t : Tok} {E : Value → Shared → Prop} {Q : Value → Shared → Prop} (hn : n ∈ ns)
    (h : Jt X pins σ f c' (PySem.W.kla_obj "<lambda>" (X.env.qual ++ "<lambda>") params body scope (cloFrom X.env.cells scope.names []) pm c' ctv) l od (.lst (ns.map V.int)) ws (J c') s) (hws : ∀ b ∈ ws, ∃ o, s.heap.get? b = some o)
    (hQ : ∀ t' s', Jt X pins σ f c' (PySem.W.kla_obj "<lambda>" (X.env.qual ++ "<lambda>") params body scope (cloFrom X.env.cells scope.names []) pm c' ctv) l od (.lst (ns.map V.int)) ws (J c') s' → (∀ b ∈ ws, ∀ o, s.heap.get? b = some o → s'.heap.get? b = some o) → Q (.int (key n) t') s') :
    wpAny (model X.prog X.w) A (call (.ref f) [.int n t]) Q E s := by
  obtain ⟨H, I, jh, hf, hfn, hc, hl, hw⟩ := h.ex
  refine wpAny_mono (lam1_run (tb := tb) (Q := fun k H3 => k = .int (key n) ∧ J c' H3) I (hA H s I) L nd hj hf (codeO_rec I.hok hc) (hbind _) hr (hbody s H) (x := .int n) ⟨t, rfl⟩ (KR.2.2 c' H n hn jh)) (fun v s' hce => ?_) fun _ _ z => z.elim
  obtain ⟨v', H', os, bare, un, hok, r, e, jh'⟩ := hce
  subst e
  obtain ⟨t', rfl⟩ : ∃ t', v = .int (key n) t' := r
  obtain ⟨hh, g, d, tt, os'⟩ := s'
  obtain rfl : os' = s.os := os
  have I' : Inv X pins σ H' _ := I.call (h' := hh) (g' := g) (d' := d) (t' := tt) (ch := []) un hok bare (fun b z => absurd z (by simp))
  obtain ⟨e1, e2⟩ := KR.2.1 c' H' jh'
  refine hQ t' _ ⟨H', I', jh', un.keep f _ hf hfn hfr (by simp), un.free f _ hf hfn (by simp), e1, e2, fun b hb => ?_⟩ fun b hb o e => un.keep b o e (hw b hb) (hwf b hb) (by simp)
  obtain ⟨o, e⟩ := hws b hb
  exact un.free b o e (hw b hb) (by simp)
/-- min, max: what the library's rule wants -/
theorem key_run {scope : Scope} {f c' : Addr} {a : Str} {j : Nat} {params : Arguments} {body : Expr} {pm ctv : Value} {k : Nat} {tb : TE} {l : Addr} {od : Obj} {ns : List Int} {T : List (Addr × Str)} {H0 H1 : Hp} {key : Int → Int} {J : Addr → Hp → Prop} {op : CmpOp} {bt : Nat → Nat → Bool} {E : Value → Shared → Prop} {Q : Value → Shared → Prop}
    (KR : KeyRd T (X.env.qual ++ "<lambda>") l od ns H0 (fun n => tb (σ.set j (some (.int n)))) key J) (L : Lam1 X.env.scope scope a) (nd : X.N.Nodup) (hj : X.N[j]? = some a) (hne : 0 < ns.length)
    (hcmp : ∀ (i j : Nat) (ki kj : Value) (s : Shared) (Q : Value → Shared → Prop) (E : Value → Shared → Prop), (∃ t, ki = .int (key (ns.getD i 0)) t) → (∃ t, kj = .int (key (ns.getD j 0)) t) → Q (.bool (bt i j)) s → wpAny (model X.prog X.w) X.A.in1 (richCompare op ki kj) Q E s)
    (hbind : ∀ u : Value, bindArgs (PySem.W.kla_fn "<lambda>" (X.env.qual ++ "<lambda>") params body scope (cloFrom X.env.cells scope.names []) pm (.ref c') ctv) ⟨[u], []⟩ = pure [(a, u)]) (hr : Room (k + 2) X.A)
    (hbody : ∀ (A : Around) (s : Shared) (H : Hp), Room k (A.deeper (lamEnv X scope s.heap.objs.size f c')) → PE (bodyCx X A s H scope f c') body tb)
    (I : Inv X pins σ H1 s) (hf : s.heap.get? f = some (PySem.W.kla_obj "<lambda>" (X.env.qual ++ "<lambda>") params body scope (cloFrom X.env.cells scope.names []) pm c' ctv)) (hfn : H1 f = none) (hfr : f ∉ frs X.stack) (hj0 : J c' H1)
    (hQ : ∀ v s', (∃ t, v = .int (ns.getD (argBest bt (ns.length - 1)) 0) t) → (∃ H', Inv X pins σ H' s' ∧ J c' H') → Q v s') :
    wpAny (model X.prog X.w) X.A.in1 (pyIter (.ref l)) (fun it s₂ => ∃ I fp wr G n P St J V bt, it = .ref I ∧ WalksS X.prog X.w X.A.in1 I fp wr G n P St ∧ St 0 s₂ ∧ (∀ b ∈ fp, b < s₂.heap.objs.size) ∧ 0 < n ∧
      KeyRun X.prog X.w X.A.in1 (.ref f) op s₂.heap.objs.size wr G n P St J V bt ∧ J s₂ ∧ ∀ v s', P (argBest bt (n - 1)) v → J s' → Q v s') E s := by
  obtain ⟨hc, hl⟩ := KR.2.1 c' H1 hj0
  obtain ⟨its, rv, hil, _⟩ := I.list (.inl (.inr ⟨od, hl⟩))
  have hlen : its.length = ns.length := by rw [← rv.length, List.length_map]
  obtain ⟨hod, _⟩ := I.hok l _ hl
  have hlist : ∀ (H : Hp) (s' : Shared), Inv X pins σ H s' → H l = some (.frz od (.lst (ns.map V.int))) → s'.heap.IsList l its.toArray := fun H s' I' hl' => by
    obtain ⟨e, _⟩ := I'.hok l _ hl'
    exact hil.isList.at fun o q => by rw [hod] at q; rw [← q]; exact e
  have hat : ∀ {i : Nat} {v : Value}, its.toArray[i]? = some v → ∃ n t, ns[i]? = some n ∧ v = .int n t := fun {i v} e => by
    have e : its[i]? = some v := by simpa using e
    have hi : i < its.length := (List.getElem?_eq_some_iff.mp e).1
    obtain ⟨u, hu, r⟩ := rv.get (NN.ints_get (List.getElem?_eq_getElem (show i < ns.length by omega)))
    rw [e] at hu
    cases hu
    obtain ⟨t, rfl⟩ : ∃ t, v = Value.int ns[i] t := r
    exact ⟨_, t, List.getElem?_eq_getElem _, rfl⟩
  have hlt : l < s.heap.objs.size := Heap.lt_size hod
  have hnI : Nw X pins s.heap.objs.size := Nw.of I (Nat.le_refl _)
  have I2 : Inv X pins σ H1 { s with heap := s.heap.push { cls := .type "list_iterator", data := .fields #[.ref l, .int 0 0] } } := I.kept (t' := s.toks) fun b o e => Heap.get?_push_of_some _ e
  have hsz : (s.heap.push { cls := .type "list_iterator", data := .fields #[.ref l, .int 0 0] }).objs.size = s.heap.objs.size + 1 := Heap.size_push ..
  have hnS : Nw X pins (s.heap.push { cls := .type "list_iterator", data := .fields #[.ref l, .int 0 0] }).objs.size := Nw.of I2 (Nat.le_refl _)
  have hws : ∀ b ∈ [(s.heap.push { cls := .type "list_iterator", data := .fields #[.ref l, .int 0 0] }).objs.size, s.heap.objs.size], Nw X pins b := fun b hb => by
    rcases List.mem_cons.mp hb with rfl | hb
    · exact hnS
    · rw [List.mem_singleton.mp hb]; exact hnI
  have hfl : f < s.heap.objs.size := Heap.lt_size hf
  have hfw : f ∉ [(s.heap.push { cls := .type "list_iterator", data := .fields #[.ref l, .int 0 0] }).objs.size, s.heap.objs.size] := fun hb => by
    rcases List.mem_cons.mp hb with e | hb
    · rw [hsz] at e; exact absurd hfl (by rw [e]; exact Nat.not_lt.mpr (Nat.le_succ _))
    · exact absurd hfl (by rw [List.mem_singleton.mp hb]; exact Nat.lt_irrefl _)
  refine wpAny_pyIter_list hil.isList ⟨s.heap.objs.size, [s.heap.objs.size, l], [s.heap.objs.size], fun p q => q = p, its.toArray.size, fun i v => its.toArray[i]? = some v, _,
    Jt X pins σ f c' (PySem.W.kla_obj "<lambda>" (X.env.qual ++ "<lambda>") params body scope (cloFrom X.env.cells scope.names []) pm c' ctv) l od (.lst (ns.map V.int)) [(s.heap.push { cls := .type "list_iterator", data := .fields #[.ref l, .int 0 0] }).objs.size, s.heap.objs.size] (J c'),
    fun i k _ => ∃ t, k = .int (key (ns.getD i 0)) t, bt, rfl, (Walks.list (A := X.A.in1) hr.hd _ l (Nat.ne_of_lt hlt) its.toArray).toS, ⟨⟨_, Heap.get?_push_size _ rfl, rfl, rfl⟩, hil.isList.push _⟩, fun b hb => ?_, by simpa [hlen] using hne, ⟨fun s s' h m => ?_, fun _ _ _ _ h _ => h, ?_, ?_⟩, ?_, fun v s' hv h => ?_⟩
  · rw [hsz]
    rcases List.mem_cons.mp hb with rfl | hb
    · exact Nat.lt_succ_self _
    · rw [List.mem_singleton.mp hb]; exact Nat.lt_succ_of_lt hlt
  · exact h.moved hws hfw (.of m)
  · intro i v s' o Q E hi hv h hst hS hq
    obtain ⟨n, t, hn, rfl⟩ := hat hv
    obtain ⟨oI, hoI, hI1, hI2⟩ := id hst.1
    refine key_turn KR L nd hj hfr (fun b hb => (hws b hb).frs) (fun H s I => I.env0.in1) hbind hr.in1 (fun s H hr2 => hbody _ s H hr2) (List.mem_of_getElem? hn) h (fun b hb => ?_) fun t' s'' h'' kp => ?_
    · rcases List.mem_cons.mp hb with rfl | hb
      · exact ⟨o, hS⟩
      · rw [List.mem_singleton.mp hb]; exact ⟨oI, hoI⟩
    · obtain ⟨H3, I3, _, _, _, _, hl3, _⟩ := h''.ex
      refine hq _ _ h'' ⟨⟨oI, kp _ (by simp) _ hoI, hI1, hI2⟩, hlist _ _ I3 hl3⟩ (kp _ (by simp) _ hS) ⟨t', ?_⟩ fun _ _ z => z
      rw [List.getD_eq_getElem?_getD, hn]; rfl
  · intro i j ki kj s' Q E _ h1 h2 hq
    exact hcmp i j ki kj s' Q E h1 h2 hq
  · refine ⟨H1, I2, hj0, Heap.get?_push_of_some _ hf, hfn, hc, hl, fun b hb => ?_⟩
    rcases List.mem_cons.mp hb with rfl | hb
    · exact I2.hok.fresh (Nat.le_refl _)
    · rw [List.mem_singleton.mp hb]; exact I.hok.fresh (Nat.le_refl _)
  · obtain ⟨n, t, hn, rfl⟩ := hat hv
    have hsz2 : its.toArray.size = ns.length := by simpa using hlen
    rw [hsz2] at hn
    obtain ⟨H', I', jh, _⟩ := h.ex
    refine hQ _ _ ⟨t, ?_⟩ ⟨H', I', jh⟩
    rw [List.getD_eq_getElem?_getD, hn]; rfl
/-- the lambda is made and handed on; what the call makes of it -/
theorem pe_keyed {id : String} {R : List Int → (Int → Int) → (Hp → Prop) → VK → Prop} {T : List (Addr × Str)} {c P : Addr} {k j : Nat} {x a : Str} {params : Arguments} {body : Expr} {scope : Scope} {tb : TE} {te : TA} {e : Expr} {p lpos kpos pos : Pos} (hg : Gl X x) (hm : X.mg x = none) (hv : bootBuiltins x = some (.builtin id))
    (ha : PA X [e] te) (TB : TabB X.base X.mg c P) (hcode : X.env.code = .ref c) (hmT : (P, X.env.qual ++ "<lambda>") ∈ T) (hu : ∀ p ∈ T, p.1 = P → p.2 = X.env.qual ++ "<lambda>") (L : Lam1 X.env.scope scope a) (nd : X.N.Nodup) (hj : X.N[j]? = some a) (hdef : defaultsOf params X.env = ([], []))
    (hbind : ∀ (q : Str) (cl : List (Str × Addr)) (pm cv ctv u : Value), bindArgs (PySem.W.kla_fn "<lambda>" q params body scope cl pm cv ctv) ⟨[u], []⟩ = pure [(a, u)])
    (hbody : ∀ (A : Around) (s : Shared) (H : Hp) (f c' : Addr), Room k (A.deeper (lamEnv X scope s.heap.objs.size f c')) → PE (bodyCx X A s H scope f c') body tb)
    (hcall : ∀ (pins : List (Addr × Obj)) (σ : L2.St) (H0 H1 : Hp) (s : Shared) (f c' l : Addr) (pm ctv : Value) (od : Obj) (ns : List Int) (key : Int → Int) (J : Addr → Hp → Prop) (Q : VK), KeyRd T (X.env.qual ++ "<lambda>") l od ns H0 (fun n => tb (σ.set j (some (.int n)))) key J →
      Inv X pins σ H1 s → s.heap.get? f = some (PySem.W.kla_obj "<lambda>" (X.env.qual ++ "<lambda>") params body scope (cloFrom X.env.cells scope.names []) pm c' ctv) → H1 f = none → f ∉ frs X.stack → J c' H1 → R ns key (fun H2 => ∃ c, J c H2) Q →
      wpAny (model X.prog X.w) X.A (call (.builtin id) [.ref l] [(Str.ofString "key", .ref f)]) (EP X pins σ Q) X.xe s)
    (hn : x ≠ "__name__" := by decide) (hdb : (x == ("__debug__" : Str)) = false := by decide)
    (he : backTo pos (starEach [e] X.env) = (false, eval e X.env) :: backTo pos (starEach [] X.env) := by rfl) (hpl : (backTo pos (starEach [e] X.env)).any (·.1) = false := by rfl) :
    PE X (.Call (.Name x p) [e] [⟨some "key", .Lambda params body scope lpos, kpos⟩] pos) (tKeyed T (X.env.qual ++ "<lambda>") j tb te R) := by
  refine ⟨fun pins s σ H Q I h => ?_⟩
  refine wpAny_Call_Name_kw (ld_blt I hg hm hv ?_ hn hdb)
  refine PyProof.Rows.callWith_kw (thn (ha.run pos pins s σ H _ I h) fun us s1 ⟨vs, H1, I1, r1, l, ns, ev, hl, hT, hk⟩ => ?_) he hpl rfl rfl
  subst ev
  obtain ⟨u, rfl, hu1⟩ : ∃ u, us = [u] ∧ RelV (.ref l) u := by
    cases r1 with
    | cons r r' => cases r'; exact ⟨_, rfl, r⟩
  obtain rfl : u = Value.ref l := hu1
  obtain ⟨od, I1'⟩ := I1.lock hl trivial
  obtain ⟨key, J, KR, hR⟩ := hk od
  have hT' : Tabs T (upd H1 l (.frz od (.lst (ns.map V.int)))) := fun q hq => by
    obtain ⟨ps, a1, a2, a3⟩ := hT q hq
    have n1 : q.1 ≠ l := fun z => by rw [z, hl] at a1; cases a1
    refine ⟨ps, by rw [upd_ne n1]; exact a1, a2, fun pos cv hc => ?_⟩
    obtain ⟨c0, f1, f2⟩ := a3 pos cv hc
    have n2 : c0 ≠ l := fun z => by rw [z, hl] at f2; cases f2
    exact ⟨c0, f1, by rw [upd_ne n2]; exact f2⟩
  show wpAny _ _ (evalAll [do let v ← eval (.Lambda params body scope lpos) X.env; standAt pos; pure v]) _ _ s1
  refine wpAny_evalAll_cons (wpAny_bind ?_)
  refine lam_make2 I1' TB hcode hmT hu hT' hdef (L.has I1.ok) fun f c' pm ctv H2 s2 I2 eN T2 hf hfn hfr hc => ?_
  refine wpAny_bind (wpAny_standAt (wpAny_pure ?_))
  refine wpAny_evalAll_nil ?_
  refine thn (hcall pins σ _ H2 s2 f c' l pm ctv od ns key J _ KR I2 hf hfn hfr (KR.1 c' H2 eN T2 hc) hR) fun v s3 hq => ?_
  obtain ⟨v', H', I3, r3, e3, q3⟩ := hq
  exact ⟨v', _, I3.unlock e3 (I1.nofrz hl trivial), r3, q3⟩
end
end NL
/-! own: min, max with such a key: the calls -/
namespace NL
open PySem PySem.Spec PyProof.Rows L2 LamX
section
variable {X : Cx} {T : List (Addr × Str)} {c P : Addr} {k j : Nat} {x a : Str} {params : Arguments} {body : Expr} {scope : Scope} {tb : TE} {te : TA} {e : Expr} {p lpos kpos pos : Pos}
theorem min_case (L : Lam1 X.env.scope scope a) (nd : X.N.Nodup) (hj : X.N[j]? = some a) (hr : Room (k + 2) X.A)
    (hbind : ∀ (q : Str) (cl : List (Str × Addr)) (pm cv ctv u : Value), bindArgs (PySem.W.kla_fn "<lambda>" q params body scope cl pm cv ctv) ⟨[u], []⟩ = pure [(a, u)])
    (hbody : ∀ (A : Around) (s : Shared) (H : Hp) (f c' : Addr), Room k (A.deeper (lamEnv X scope s.heap.objs.size f c')) → PE (bodyCx X A s H scope f c') body tb)
    (pins : List (Addr × Obj)) (σ : L2.St) (H0 H1 : Hp) (s : Shared) (f c' l : Addr) (pm ctv : Value) (od : Obj) (ns : List Int) (key : Int → Int) (J : Addr → Hp → Prop) (Q : VK) (KR : KeyRd T (X.env.qual ++ "<lambda>") l od ns H0 (fun n => tb (σ.set j (some (.int n)))) key J)
    (I : Inv X pins σ H1 s) (hf : s.heap.get? f = some (PySem.W.kla_obj "<lambda>" (X.env.qual ++ "<lambda>") params body scope (cloFrom X.env.cells scope.names []) pm c' ctv)) (hfn : H1 f = none) (hfr : f ∉ frs X.stack) (hj0 : J c' H1) (hR : rMinK ns key (fun H2 => ∃ c, J c H2) Q) :
    wpAny (model X.prog X.w) X.A (call (.builtin "min") [.ref l] [(Str.ofString "key", .ref f)]) (EP X pins σ Q) X.xe s := by
  refine call_min_walkK (key_run (k := k) (bt := fun i j => decide (key (ns.getD i 0) < key (ns.getD j 0))) KR L nd hj hR.1 (fun i j ki kj s Q E h1 h2 hq => ?_) (fun u => hbind _ _ _ _ _ u) hr (fun A s H hr2 => hbody A s H f c' hr2) I hf hfn hfr hj0 fun v s' hv hJ => ?_)
  · exact CmpOf.ints_lt (P := fun i v => ∃ t, v = .int (key (ns.getD i 0)) t) (fun i => key (ns.getD i 0)) (fun i v h => h) i j ki kj s Q E h1 h2 hq
  · obtain ⟨t, rfl⟩ := hv
    obtain ⟨H', I', jh⟩ := hJ
    obtain ⟨n, h1, h2, h3, h4⟩ := best_min (key := key) (ns := ns) (ns.length - 1) (by have := hR.1; omega)
    have d : ns.getD (argBest (fun i j => decide (key (ns.getD i 0) < key (ns.getD j 0))) (ns.length - 1)) 0 = n := by rw [List.getD_eq_getElem?_getD, h2]; rfl
    refine ⟨.int n, H', I', ⟨t, by rw [d]⟩, hR.2 H' _ n ⟨c', jh⟩ ⟨h2, fun m hm => ?_, h4⟩⟩
    obtain ⟨i, hi⟩ := List.getElem?_of_mem hm
    have := h3 i m (by have := (List.getElem?_eq_some_iff.mp hi).1; omega) hi
    omega
theorem max_case (L : Lam1 X.env.scope scope a) (nd : X.N.Nodup) (hj : X.N[j]? = some a) (hr : Room (k + 2) X.A)
    (hbind : ∀ (q : Str) (cl : List (Str × Addr)) (pm cv ctv u : Value), bindArgs (PySem.W.kla_fn "<lambda>" q params body scope cl pm cv ctv) ⟨[u], []⟩ = pure [(a, u)])
    (hbody : ∀ (A : Around) (s : Shared) (H : Hp) (f c' : Addr), Room k (A.deeper (lamEnv X scope s.heap.objs.size f c')) → PE (bodyCx X A s H scope f c') body tb)
    (pins : List (Addr × Obj)) (σ : L2.St) (H0 H1 : Hp) (s : Shared) (f c' l : Addr) (pm ctv : Value) (od : Obj) (ns : List Int) (key : Int → Int) (J : Addr → Hp → Prop) (Q : VK) (KR : KeyRd T (X.env.qual ++ "<lambda>") l od ns H0 (fun n => tb (σ.set j (some (.int n)))) key J)
    (I : Inv X pins σ H1 s) (hf : s.heap.get? f = some (PySem.W.kla_obj "<lambda>" (X.env.qual ++ "<lambda>") params body scope (cloFrom X.env.cells scope.names []) pm c' ctv)) (hfn : H1 f = none) (hfr : f ∉ frs X.stack) (hj0 : J c' H1) (hR : rMaxK ns key (fun H2 => ∃ c, J c H2) Q) :
    wpAny (model X.prog X.w) X.A (call (.builtin "max") [.ref l] [(Str.ofString "key", .ref f)]) (EP X pins σ Q) X.xe s := by
  refine call_max_walkK (key_run (k := k) (bt := fun i j => decide (key (ns.getD i 0) > key (ns.getD j 0))) KR L nd hj hR.1 (fun i j ki kj s Q E h1 h2 hq => ?_) (fun u => hbind _ _ _ _ _ u) hr (fun A s H hr2 => hbody A s H f c' hr2) I hf hfn hfr hj0 fun v s' hv hJ => ?_)
  · exact CmpOf.ints_gt (P := fun i v => ∃ t, v = .int (key (ns.getD i 0)) t) (fun i => key (ns.getD i 0)) (fun i v h => h) i j ki kj s Q E h1 h2 hq
  · obtain ⟨t, rfl⟩ := hv
    obtain ⟨H', I', jh⟩ := hJ
    obtain ⟨n, h1, h2, h3, h4⟩ := best_max (key := key) (ns := ns) (ns.length - 1) (by have := hR.1; omega)
    have d : ns.getD (argBest (fun i j => decide (key (ns.getD i 0) > key (ns.getD j 0))) (ns.length - 1)) 0 = n := by rw [List.getD_eq_getElem?_getD, h2]; rfl
    refine ⟨.int n, H', I', ⟨t, by rw [d]⟩, hR.2 H' _ n ⟨c', jh⟩ ⟨h2, fun m hm => ?_, h4⟩⟩
    obtain ⟨i, hi⟩ := List.getElem?_of_mem hm
    have := h3 i m (by have := (List.getElem?_eq_some_iff.mp hi).1; omega) hi
    show ¬ key m > key n
    omega
/-- min(e, key=lambda a: body) -/
theorem pe_minK (hr : Room (k + 2) X.A) (hg : Gl X "min") (hm : X.mg "min" = none) (ha : PA X [e] te) (TB : TabB X.base X.mg c P) (hcode : X.env.code = .ref c) (hmT : (P, X.env.qual ++ "<lambda>") ∈ T) (hu : ∀ p ∈ T, p.1 = P → p.2 = X.env.qual ++ "<lambda>") (L : Lam1 X.env.scope scope a) (nd : X.N.Nodup) (hj : X.N[j]? = some a)
    (hbody : ∀ (A : Around) (s : Shared) (H : Hp) (f c' : Addr), Room k (A.deeper (lamEnv X scope s.heap.objs.size f c')) → PE (bodyCx X A s H scope f c') body tb)
    (hdef : defaultsOf params X.env = ([], []) := by rfl) (hbind : ∀ (q : Str) (cl : List (Str × Addr)) (pm cv ctv u : Value), bindArgs (PySem.W.kla_fn "<lambda>" q params body scope cl pm cv ctv) ⟨[u], []⟩ = pure [(a, u)] := by intros; rfl)
    (he : backTo pos (starEach [e] X.env) = (false, eval e X.env) :: backTo pos (starEach [] X.env) := by rfl) (hpl : (backTo pos (starEach [e] X.env)).any (·.1) = false := by rfl) :
    PE X (.Call (.Name "min" p) [e] [⟨some "key", .Lambda params body scope lpos, kpos⟩] pos) (tKeyed T (X.env.qual ++ "<lambda>") j tb te rMinK) :=
  pe_keyed hg hm (by decide +kernel) ha TB hcode hmT hu L nd hj hdef hbind hbody (min_case L nd hj hr hbind hbody) (by decide) (by decide) he hpl
/-- max(e, key=lambda a: body) -/
theorem pe_maxK (hr : Room (k + 2) X.A) (hg : Gl X "max") (hm : X.mg "max" = none) (ha : PA X [e] te) (TB : TabB X.base X.mg c P) (hcode : X.env.code = .ref c) (hmT : (P, X.env.qual ++ "<lambda>") ∈ T) (hu : ∀ p ∈ T, p.1 = P → p.2 = X.env.qual ++ "<lambda>") (L : Lam1 X.env.scope scope a) (nd : X.N.Nodup) (hj : X.N[j]? = some a)
    (hbody : ∀ (A : Around) (s : Shared) (H : Hp) (f c' : Addr), Room k (A.deeper (lamEnv X scope s.heap.objs.size f c')) → PE (bodyCx X A s H scope f c') body tb)
    (hdef : defaultsOf params X.env = ([], []) := by rfl) (hbind : ∀ (q : Str) (cl : List (Str × Addr)) (pm cv ctv u : Value), bindArgs (PySem.W.kla_fn "<lambda>" q params body scope cl pm cv ctv) ⟨[u], []⟩ = pure [(a, u)] := by intros; rfl)
    (he : backTo pos (starEach [e] X.env) = (false, eval e X.env) :: backTo pos (starEach [] X.env) := by rfl) (hpl : (backTo pos (starEach [e] X.env)).any (·.1) = false := by rfl) :
    PE X (.Call (.Name "max" p) [e] [⟨some "key", .Lambda params body scope lpos, kpos⟩] pos) (tKeyed T (X.env.qual ++ "<lambda>") j tb te rMaxK) :=
  pe_keyed hg hm (by decide +kernel) ha TB hcode hmT hu L nd hj hdef hbind hbody (max_case L nd hj hr hbind hbody) (by decide) (by decide) he hpl
end
end NL
/-! own: sorted with such a key -/
namespace NL
open PySem PySem.Spec PySem.Calls PyProof.Rows PySem.W
section
variable {prog : Program} {w : World} {A : Around} {E : Value → Shared → Prop} {s : Shared} {a kS : Addr} {b : Bool} {vs : List Value} {e1 : Nat} {F : PySem.Fin → Shared → Prop} {kz : List Int} {f : Value} {J : Shared → Prop}
theorem alike_ints (kz : List Int) : AllAlike (kz.map PyData.int) := fun d hd d' hd' => by
  obtain ⟨n, _, rfl⟩ := List.mem_map.mp hd
  obtain ⟨m, _, rfl⟩ := List.mem_map.mp hd'
  rfl
theorem sortable_ints (kz : List Int) : Sortable (kz.map PyData.int) := .inr fun d hd => by
  obtain ⟨n, _, rfl⟩ := List.mem_map.mp hd
  exact ⟨(by intro z; cases z), (by intro xs z; cases z)⟩
/-- the keys are asked one by one, then it is sorted -/
theorem keyed_rest (nk : s.heap.get? kS = some (seqObj "list" #[] 0)) (na : s.heap.get? a = some (seqObj "list" #[] e1)) (hka : kS ≠ a) (hlen : kz.length = vs.length) (hZ : vs.length ≤ sizeLine) (hu : A.units < cLine) (hJ : J s) (hmv : ∀ s s', J s → Mv [kS, a] s s' → J s')
    (turn : ∀ (i : Nat) (v : Value) (n : Int) (s : Shared) (oK oA : Obj) (Q E : Value → Shared → Prop), vs[i]? = some v → kz[i]? = some n → J s → s.heap.get? kS = some oK → s.heap.get? a = some oA →
      (∀ t s', J s' → s'.heap.get? kS = some oK → s'.heap.get? a = some oA → Q (.int n t) s') → wpAny (model prog w) A (call f [v]) Q E s)
    (h : ∀ s' out c, J s' → s'.heap.get? a = some (seqObj "list" (List.toArray out) c) → KeyedOut b (kz.map PyData.int) vs out → F (.done (.ret .none)) s') :
    wpAny (model prog w) A (ksk_rest a f b vs.toArray e1 (.ref kS)) F E s := by
  unfold ksk_rest
  refine wpAny_bind (wpAny_rule ?_)
  first
    | rw [List.forIn_toArray]
    | (rw [← Array.forIn_toList]; simp only [List.toList_toArray])
    | rw [← Array.forIn_toList]
  refine wpAny_bind (ksk_fold (fun i s' => J s' ∧ ∃ (kA : Array Value) (ep : Nat), s'.heap.get? kS = some (seqObj "list" kA ep) ∧ s'.heap.get? a = some (seqObj "list" #[] e1) ∧ IntsAre kA.toList (kz.take i)) vs 0 s
    ⟨hJ, #[], 0, nk, na, by rw [List.take_zero]; exact .nil⟩ ?one ?all)
  case one =>
    rintro j x s' hx ⟨j1, kA, ep, k1, k2, k3⟩
    simp only [Nat.zero_add] at k3 ⊢
    have hj : j < vs.length := (List.getElem?_eq_some_iff.mp hx).1
    have hn : kz[j]? = some kz[j] := List.getElem?_eq_getElem (by omega)
    have hz : kA.size ≤ vs.length := by
      have := k3.length
      rw [Array.length_toList, List.length_take] at this
      omega
    refine wpAny_bind (wpAny_attempt (turn j x _ s' _ _ _ _ hx hn j1 k1 k2 fun t s2 j2 m1 m2 => ?_))
    dsimp only
    obtain ⟨c2, hc2⟩ : ∃ c2, (s2.heap.update kS (Obj.mapSeq (·.push (Value.int kz[j] t)))).get? kS = some (seqObj "list" (kA.push (.int kz[j] t)) c2) := ⟨_, get?_update_seq m1 (·.push (Value.int kz[j] t))⟩
    have oth : ∀ p o, p ≠ kS → s2.heap.get? p = some o → (s2.heap.update kS (Obj.mapSeq (·.push (Value.int kz[j] t)))).get? p = some o := fun p o hp q => (Heap.get?_update_other _ _ (fun z => hp z.symm)).trans q
    refine wpAny_bind (listUpdate_at m1 rfl ?_ (Nat.le_trans hz hZ) (Nat.le_trans (Nat.le_of_eq (Array.size_push ..)) (Nat.succ_le_succ (Nat.le_trans hz hZ))))
    refine wpAny_pure ⟨rfl, hmv _ _ j2 ⟨fun p o hp q => oth p o (fun z => hp (by rw [z]; exact List.mem_cons_self)) q, rfl, rfl⟩, _, c2, hc2, oth _ _ hka.symm m2, ?_⟩
    rw [List.take_add_one, hn]
    show IntsAre (kA.push (.int kz[j] t)).toList (kz.take j ++ [kz[j]])
    rw [Array.toList_push]
    exact ksk_snoc k3
  case all =>
    rintro s' ⟨j1, kA, ep, k1, k2, k3⟩
    have e3 : kz.take (0 + vs.length) = kz := List.take_of_length_le (by omega)
    rw [e3] at k3
    have hk : EachIs (fun v d => ∃ as, Reads s'.heap v d as) kA.toList (kz.map PyData.int) := by
      clear k1 h turn hlen hZ e3
      generalize kA.toList = l at k3
      induction k3 with
      | nil => exact .nil
      | cons _ _ _ ih => exact .cons ⟨[], .int _ _⟩ ih
    have hsz : kA.size = vs.length := by
      have := k3.length
      rw [Array.length_toList] at this
      omega
    obtain ⟨G, g1, g2⟩ := L2.restrict s'.heap fun p => decide (p ≠ kS)
    have gk : ∀ p o, p ≠ kS → s'.heap.get? p = some o → G.get? p = some o := fun p o hp q => by rw [g1 p (decide_eq_true hp)]; exact q
    have gl : ∀ p o, G.get? p = some o → s'.heap.get? p = some o := fun p o q => by
      by_cases hp : p = kS
      · rw [g2 p (by rw [hp]; simp)] at q; cases q
      · rw [g1 p (decide_eq_true hp)] at q; exact q
    refine wpAny_bind (listItems_at k1 rfl ?_)
    refine keyH_end (κ := dataKind s'.heap (kz.map PyData.int)) (h₁ := G) (fun p o _ q => gl p o q) (g2 kS (by simp)) k1 k2 hka (SortsAt.data hk (alike_ints kz) (sortable_ints kz) fun d hd => ?_) hsz hZ fun h3 tk3 c kp n3 => ?_
    · obtain ⟨n, _, rfl⟩ := List.mem_map.mp hd
      exact hu
    · refine h _ _ c (hmv _ _ j1 ⟨fun p o hp q => ?_, rfl, rfl⟩) n3 ⟨s'.heap, kA.toList, alike_ints kz, rfl, hk⟩
      exact kp p o (fun z => hp (by rw [z]; simp)) (gk p o (fun z => hp (by rw [z]; simp)) q)
/-- sorted(xs, key=f), f's calls keep J -/
theorem sorted_keyed {l q : Addr} {Q : Value → Shared → Prop} (hl : s.heap.IsList l vs.toArray) (hlen : kz.length = vs.length) (hZ : vs.length ≤ sizeLine) (hu : A.units + 2 < cLine)
    (hJ : ∀ h' : Heap, (∀ p o, s.heap.get? p = some o → h'.get? p = some o) → J { s with heap := h' }) (hmv : ∀ s1 s2, J s1 → Mv [s.heap.objs.size + 3, s.heap.objs.size + 1] s1 s2 → J s2)
    (turn : ∀ (i : Nat) (v : Value) (n : Int) (s' : Shared) (oK oA : Obj) (Q E : Value → Shared → Prop), vs[i]? = some v → kz[i]? = some n → J s' → s'.heap.get? (s.heap.objs.size + 3) = some oK → s'.heap.get? (s.heap.objs.size + 1) = some oA →
      (∀ t s2, J s2 → s2.heap.get? (s.heap.objs.size + 3) = some oK → s2.heap.get? (s.heap.objs.size + 1) = some oA → Q (.int n t) s2) → wpAny (model prog w) A.in1.in1 (call (.ref q) [v]) Q E s')
    (h : ∀ s' out c, J s' → s'.heap.get? (s.heap.objs.size + 1) = some (seqObj "list" (List.toArray out) c) → KeyedOut false (kz.map PyData.int) vs out → Q (.ref (s.heap.objs.size + 1)) s') :
    wpAny (model prog w) A (call (.builtin "sorted") [.ref l] [(Str.ofString "key", .ref q)]) Q E s := by
  refine sorted_of_sort hl hZ (ksk_s1 _ _) (fun _ => ksk_l1 _ _) fun E' => ?_
  rw [ksk_t1]
  have at1 := copyHeap_at s.heap vs
  obtain ⟨ep, at2⟩ : ∃ ep, ((copyHeap s.heap vs).update (s.heap.objs.size + 1) (Obj.mapSeq fun _ => (#[] : Array Value))).get? (s.heap.objs.size + 1) = some (seqObj "list" #[] ep) := ⟨_, get?_update_seq at1 fun _ => #[]⟩
  have sz0 : (copyHeap s.heap vs).objs.size = s.heap.objs.size + 2 := by
    unfold copyHeap
    rw [size_push', Heap.size_update, size_push']
  have sz : (((copyHeap s.heap vs).update (s.heap.objs.size + 1) (Obj.mapSeq fun _ => (#[] : Array Value))).push (seqObj "tuple" vs.toArray 0)).objs.size = s.heap.objs.size + 3 := by rw [size_push', Heap.size_update, sz0]
  have up : ∀ p o, s.heap.get? p = some o → ((((copyHeap s.heap vs).update (s.heap.objs.size + 1) (Obj.mapSeq fun _ => (#[] : Array Value))).push (seqObj "tuple" vs.toArray 0)).push (seqObj "list" #[] 0)).get? p = some o := fun p o e =>
    Heap.get?_push_of_some _ (Heap.get?_push_of_some _ ((Heap.get?_update_other _ _ (Nat.ne_of_gt (Nat.lt_succ_of_lt (Heap.lt_size e)))).trans (copyHeap_old e)))
  unfold ksk_tree
  refine wpAny_bind (listItems_at at1 rfl ?_)
  refine wpAny_bind (listUpdate_at at1 rfl ?_ (by rw [List.size_toArray]; exact hZ) (Nat.zero_le _))
  refine wpAny_bind (seqEpoch_at at2 rfl ?_)
  refine wpAny_bind (wpAny_newTuple ?_ (by show vs.length ≤ _; exact hZ))
  refine wpAny_bind (wpAny_newList ?_ (Nat.zero_le _))
  refine wpAny_holding ?_
  rw [sz]
  refine keyed_rest (kz := kz) (J := J) (by rw [← sz]; exact Heap.get?_push_size _ rfl) (Heap.get?_push_of_some _ (Heap.get?_push_of_some _ at2)) (by show (s.heap.objs.size + 3 : Nat) ≠ s.heap.objs.size + 1; omega) hlen hZ (by show A.units + 1 + 1 < cLine; omega) (hJ _ up) hmv turn fun s' out c j hD ko => ⟨rfl, h s' out c j hD ko⟩
end
end NL
/-! own: sorted with such a key: the rule -/
namespace NL
open PySem PySem.Spec PyProof.Rows L2 LamX
/-- in the order of their keys, equal ones as they stood -/
def sortK (key : Int → Int) (ns : List Int) : List Int := ns.mergeSort fun a b => decide (key a ≤ key b)
def rSortK : List Int → (Int → Int) → (Hp → Prop) → VK → Prop := fun ns key J Q => ∀ H2 p, J H2 → H2 p = none → Q (.ref p) (upd H2 p (.lst ((sortK key ns).map V.int)))
section
variable {X : Cx} {T : List (Addr × Str)} {c P : Addr} {k j : Nat} {x a : Str} {params : Arguments} {body : Expr} {scope : Scope} {tb : TE} {te : TA} {e : Expr} {p lpos kpos pos : Pos}
theorem sort_case (L : Lam1 X.env.scope scope a) (nd : X.N.Nodup) (hj : X.N[j]? = some a) (hr : Room (k + 3) X.A)
    (hbind : ∀ (q : Str) (cl : List (Str × Addr)) (pm cv ctv u : Value), bindArgs (PySem.W.kla_fn "<lambda>" q params body scope cl pm cv ctv) ⟨[u], []⟩ = pure [(a, u)])
    (hbody : ∀ (A : Around) (s : Shared) (H : Hp) (f c' : Addr), Room k (A.deeper (lamEnv X scope s.heap.objs.size f c')) → PE (bodyCx X A s H scope f c') body tb)
    (pins : List (Addr × Obj)) (σ : L2.St) (H0 H1 : Hp) (s : Shared) (f c' l : Addr) (pm ctv : Value) (od : Obj) (ns : List Int) (key : Int → Int) (J : Addr → Hp → Prop) (Q : VK) (KR : KeyRd T (X.env.qual ++ "<lambda>") l od ns H0 (fun n => tb (σ.set j (some (.int n)))) key J)
    (I : Inv X pins σ H1 s) (hf : s.heap.get? f = some (PySem.W.kla_obj "<lambda>" (X.env.qual ++ "<lambda>") params body scope (cloFrom X.env.cells scope.names []) pm c' ctv)) (hfn : H1 f = none) (hfr : f ∉ frs X.stack) (hj0 : J c' H1) (hR : rSortK ns key (fun H2 => ∃ c, J c H2) Q) :
    wpAny (model X.prog X.w) X.A (call (.builtin "sorted") [.ref l] [(Str.ofString "key", .ref f)]) (EP X pins σ Q) X.xe s := by
  obtain ⟨hc, hl⟩ := KR.2.1 c' H1 hj0
  obtain ⟨its, rv, hil, hz⟩ := I.list (.inl (.inr ⟨od, hl⟩))
  rw [List.length_map] at hz
  have hlen : its.length = ns.length := by rw [← rv.length, List.length_map]
  have hat : ∀ {i : Nat} {v : Value}, its[i]? = some v → ∃ n t, ns[i]? = some n ∧ v = .int n t := fun {i v} e => by
    have hi : i < its.length := (List.getElem?_eq_some_iff.mp e).1
    obtain ⟨u, hu, r⟩ := rv.get (NN.ints_get (List.getElem?_eq_getElem (show i < ns.length by omega)))
    rw [e] at hu
    cases hu
    obtain ⟨t, rfl⟩ : ∃ t, v = Value.int ns[i] t := r
    exact ⟨_, t, List.getElem?_eq_getElem _, rfl⟩
  have hw3 : Nw X pins (s.heap.objs.size + 3) := Nw.of I (Nat.le_add_right _ _)
  have hw1 : Nw X pins (s.heap.objs.size + 1) := Nw.of I (Nat.le_add_right _ _)
  have hws : ∀ b ∈ [s.heap.objs.size + 3, s.heap.objs.size + 1], Nw X pins b := fun b hb => by
    rcases List.mem_cons.mp hb with rfl | hb
    · exact hw3
    · rw [List.mem_singleton.mp hb]; exact hw1
  have hfl : f < s.heap.objs.size := Heap.lt_size hf
  have hfw : f ∉ [s.heap.objs.size + 3, s.heap.objs.size + 1] := fun hb => by
    rcases List.mem_cons.mp hb with e | hb
    · exact absurd hfl (by rw [e]; exact Nat.not_lt.mpr (Nat.le_add_right _ _))
    · exact absurd hfl (by rw [List.mem_singleton.mp hb]; exact Nat.not_lt.mpr (Nat.le_add_right _ _))
  refine sorted_keyed (kz := ns.map key) (J := Jt X pins σ f c' (PySem.W.kla_obj "<lambda>" (X.env.qual ++ "<lambda>") params body scope (cloFrom X.env.cells scope.names []) pm c' ctv) l od (.lst (ns.map V.int)) [s.heap.objs.size + 3, s.heap.objs.size + 1] (J c'))
    hil.isList (by rw [List.length_map, hlen]) (by rw [hlen]; exact hz) (by have := hr.un; omega) (fun h' kp => ?_) (fun s1 s2 h m => h.moved hws hfw m) ?_ ?_
  · refine ⟨H1, I.kept (t' := s.toks) kp, hj0, kp _ _ hf, hfn, hc, hl, fun b hb => ?_⟩
    rcases List.mem_cons.mp hb with rfl | hb
    · exact I.hok.fresh (Nat.le_add_right _ _)
    · rw [List.mem_singleton.mp hb]; exact I.hok.fresh (Nat.le_add_right _ _)
  · intro i v n s' oK oA Q E hv hn h hK hA hq
    obtain ⟨m, t, hm, rfl⟩ := hat hv
    rw [List.getElem?_map, hm] at hn
    obtain rfl : key m = n := Option.some.inj hn
    refine key_turn KR L nd hj hfr (fun b hb => (hws b hb).frs) (fun H s I => I.env0.in1.in1) (fun u => hbind _ _ _ _ _ u) hr.in1.in1 (fun s H hr2 => hbody _ s H f c' hr2) (List.mem_of_getElem? hm) h (fun b hb => ?_) fun t' s'' h'' kp => ?_
    · rcases List.mem_cons.mp hb with rfl | hb
      · exact ⟨oK, hK⟩
      · rw [List.mem_singleton.mp hb]; exact ⟨oA, hA⟩
    · exact hq _ _ h'' (kp _ List.mem_cons_self _ hK) (kp _ (List.mem_cons_of_mem _ List.mem_cons_self) _ hA)
  · intro s' out cc h hD ko
    obtain ⟨H', I', jh, _, _, _, _, hn⟩ := h.ex
    have hn1 : H' (s.heap.objs.size + 1) = none := hn _ (List.mem_cons_of_mem _ List.mem_cons_self)
    obtain ⟨G, g1, g2⟩ := L2.restrict s'.heap fun p => decide (p ≠ s.heap.objs.size + 1)
    have IG : Inv X pins σ H' { s' with heap := G } := inv_moved (ws := [s.heap.objs.size + 1]) I' ⟨fun b o hb q => by
      rw [g1 b (decide_eq_true (fun z => hb (by rw [z]; exact List.mem_cons_self)))]; exact q, rfl, rfl⟩ fun b hb => by
        rw [List.mem_singleton.mp hb]
        exact ⟨hw1, hn1⟩
    have gk : ∀ b o, G.get? b = some o → s'.heap.get? b = some o := fun b o q => by
      by_cases hb : b = s.heap.objs.size + 1
      · rw [g2 b (by rw [hb]; simp)] at q; cases q
      · rw [g1 b (decide_eq_true hb)] at q; exact q
    have ke : (ns.map key).map PyData.int = ns.map fun n => PyData.int (key n) := by rw [List.map_map]; rfl
    rw [ke] at ko
    have eR : PySem.W.EachIs (fun (v : Value) (n : Int) => ∃ t, v = .int n t) its ns := by
      refine PySem.W.EachIs.of_zip hlen fun q hq => ?_
      obtain ⟨i, hi⟩ := List.getElem?_of_mem hq
      obtain ⟨h1, h2⟩ := List.getElem?_zip_eq_some.mp hi
      obtain ⟨n, t, hn, e⟩ := hat h1
      rw [hn] at h2
      cases h2
      exact ⟨t, e⟩
    have eO := PySem.W.keyedOut_each (fun n => PyData.int (key n)) ko eR
    rw [PySem.W.dataLe_int] at eO
    have rO : Vals ((sortK key ns).map V.int) out := by
      clear ko hD
      show Vals ((ns.mergeSort fun a b => decide (key a ≤ key b)).map V.int) out
      generalize (ns.mergeSort fun a b => decide (key a ≤ key b)) = l2 at eO
      induction eO with
      | nil => exact .nil
      | cons r _ ih => obtain ⟨t, rfl⟩ := r; exact .cons ⟨t, rfl⟩ ih
    refine ⟨.ref (s.heap.objs.size + 1), upd H' (s.heap.objs.size + 1) (.lst ((sortK key ns).map V.int)), ?_, rfl, hR _ _ ⟨c', jh⟩ hn1⟩
    have := IG.laidN (h' := s'.heap) (t' := s'.toks) (o := .lst ((sortK key ns).map V.int)) gk (g2 _ (by simp)) hn1 ⟨by rw [List.length_map]; unfold sortK; rw [List.length_mergeSort]; exact hz, out, cc, rO, hD⟩
    exact this
/-- sorted(e, key=lambda a: body) -/
theorem pe_sortK (hr : Room (k + 3) X.A) (hg : Gl X "sorted") (hm : X.mg "sorted" = none) (ha : PA X [e] te) (TB : TabB X.base X.mg c P) (hcode : X.env.code = .ref c) (hmT : (P, X.env.qual ++ "<lambda>") ∈ T) (hu : ∀ p ∈ T, p.1 = P → p.2 = X.env.qual ++ "<lambda>") (L : Lam1 X.env.scope scope a) (nd : X.N.Nodup) (hj : X.N[j]? = some a)
    (hbody : ∀ (A : Around) (s : Shared) (H : Hp) (f c' : Addr), Room k (A.deeper (lamEnv X scope s.heap.objs.size f c')) → PE (bodyCx X A s H scope f c') body tb)
    (hdef : defaultsOf params X.env = ([], []) := by rfl) (hbind : ∀ (q : Str) (cl : List (Str × Addr)) (pm cv ctv u : Value), bindArgs (PySem.W.kla_fn "<lambda>" q params body scope cl pm cv ctv) ⟨[u], []⟩ = pure [(a, u)] := by intros; rfl)
    (he : backTo pos (starEach [e] X.env) = (false, eval e X.env) :: backTo pos (starEach [] X.env) := by rfl) (hpl : (backTo pos (starEach [e] X.env)).any (·.1) = false := by rfl) :
    PE X (.Call (.Name "sorted" p) [e] [⟨some "key", .Lambda params body scope lpos, kpos⟩] pos) (tKeyed T (X.env.qual ++ "<lambda>") j tb te rSortK) :=
  pe_keyed hg hm (by decide +kernel) ha TB hcode hmT hu L nd hj hdef hbind hbody (sort_case L nd hj hr hbind hbody) (by decide) (by decide) he hpl
end
end NL
/-! own: such keys over what is known of the heap; defs that make lambdas -/
namespace NN
open PySem L2 NL
/-- the code's table stands in the list of tables -/
structure LmF (base : Heap) (mg : Str → Option Value) (T : List (Addr × Str)) (c : Addr) (q : Str) : Prop where
  ex : ∃ P, LamX.TabB base mg c P ∧ (P, q) ∈ T ∧ ∀ p ∈ T, p.1 = P → p.2 = q
/-- a def, a method that makes lambdas: its code stands at c -/
structure DFL (K : PySem.W.Frag) (mg : Str → Option Value) (x : Str) (st : Stmt) (dvs : List V) (kws : List (Str × V)) (c : Addr) : Prop where
  ex : ∃ f fd, mg x = some (.ref f) ∧ FunS K x x st dvs kws f fd ∧ fd.code = .ref c
structure MFL (K : PySem.W.Frag) (C : Addr) (m qual : Str) (st : Stmt) (dvs : List V) (kws : List (Str × V)) (c : Addr) : Prop where
  ex : ∃ f fd, Meth K C m f ∧ FunS K m qual st dvs kws f fd ∧ fd.code = .ref c
section
variable {P : Program} {w : World} {K : PySem.W.Frag} {mg : Str → Option Value} {base : Heap} {x qual : Str} {st : Stmt} {N ps : List Str} {k : Nat} {sp : Sp} {t : TS} {tx : XK → TS} {dvs : List V} {kws : List (Str × V)} {f c : Addr} {fd : FuncData} {C : Addr} {m : Str}
theorem DFL.mk2 {CX : CXT} (F : DFL K mg x st dvs kws c) (h : ∀ f fd, FunS K x x st dvs kws f fd → fd.code = .ref c → FnOk P w K mg base CX k f fd ps sp) : DK P w K mg base CX k x ps st dvs kws sp :=
  let ⟨f, fd, hm, F, hc⟩ := F.ex; ⟨f, fd, hm, F, h f fd F hc⟩
theorem MFL.mk2 {CX : CXT} (F : MFL K C m qual st dvs kws c) (h : ∀ f fd, FunS K m qual st dvs kws f fd → fd.code = .ref c → FnOk P w K mg base CX k f fd ps sp) : MK P w K mg base CX k C m qual ps st dvs kws sp :=
  let ⟨f, fd, hm, F, hc⟩ := F.ex; ⟨f, fd, hm, F, h f fd F hc⟩
/-- the rules: such a body that lets nothing out, one that may raise -/
theorem fn0L (F : FunS K x qual st dvs kws f fd) (hc : fd.code = .ref c) (S : FnScope N ps (defScope st)) (len : ∀ vs H Q E, sp vs H Q E → vs.length = ps.length)
    (der : ∀ (f : Addr) (A : Around) (outer : List Env) (s : Shared) (H : Hp) (E : XK), Room k (A.deeper (PyProof.Rows.envOfC qual (defScope st) s.heap.objs.size f (.ref c))) → PSs (cxOf CX0 P w K mg base N qual (defScope st) f (.ref c) A outer s H E).nox (defBody st) t)
    (rd : ∀ vs H Q E, sp vs H Q E → t { nx := fun _ H' => Q .non H', rt := Q } (start N vs) H) : FnOk P w K mg base CX0 (k + 1) f fd ps sp := by
  obtain ⟨oc, od, dV, kV, doc, pm, an, cdv, ct, osl, rfl, lk, hcd, _, _⟩ := F.ex
  obtain rfl : cdv = .ref c := hc
  exact fn_of lk hcd S len fun A outer s H vs Q E hr hsp => ⟨t, (der f A outer s H E hr).nox, rd vs H Q E hsp⟩
theorem fnxL (F : FunS K x qual st dvs kws f fd) (hc : fd.code = .ref c) (S : FnScope N ps (defScope st)) (len : ∀ vs H Q E, sp vs H Q E → vs.length = ps.length)
    (der : ∀ (f : Addr) (A : Around) (outer : List Env) (s : Shared) (H : Hp) (E : XK), Room k (A.deeper (PyProof.Rows.envOfC qual (defScope st) s.heap.objs.size f (.ref c))) → PSs (cxOf (L2.CX P w) P w K mg base N qual (defScope st) f (.ref c) A outer s H E) (defBody st) (tx E))
    (rd : ∀ vs H Q E, sp vs H Q E → tx E { nx := fun _ H' => Q .non H', rt := Q } (start N vs) H) : FnOk P w K mg base (L2.CX P w) (k + 1) f fd ps sp := by
  obtain ⟨oc, od, dV, kV, doc, pm, an, cdv, ct, osl, rfl, lk, hcd, _, _⟩ := F.ex
  obtain rfl : cdv = .ref c := hc
  exact fn_of lk hcd S len fun A outer s H vs Q E hr hsp => ⟨tx E, der f A outer s H E hr, rd vs H Q E hsp⟩
end
/-! ### the terms -/
section
variable {X : Cx} {T : List (Addr × Str)} {c : Addr} {k k' j : Nat} {a : Str} {params : Arguments} {body : Expr} {scope : Scope} {tb : TE} {te : TA} {e : Expr} {p lpos kpos pos : Pos} {q : Str}
theorem pe_minL (hr : Room k' X.A) (hk : k + 3 ≤ k') (hg : Gl X "min") (hm : X.mg "min" = none) (ha : PA X [e] te) (F : LmF X.base X.mg T c q) (hcode : X.env.code = .ref c) (hq : X.env.qual ++ "<lambda>" = q) {sc : Scope} (hsc : X.env.scope = sc) (L : lam1B sc scope a = true) (nd : X.N.Nodup) (hj : X.N[j]? = some a)
    (hbody : ∀ (A : Around) (s : Shared) (H : Hp) (f c' : Addr), Room k (A.deeper (LamX.lamEnv X scope s.heap.objs.size f c')) → PE (bodyCx X A s H scope f c') body tb)
    (hdef : defaultsOf params X.env = ([], []) := by rfl) (hbind : ∀ (q : Str) (cl : List (Str × Addr)) (pm cv ctv u : Value), bindArgs (PySem.W.kla_fn "<lambda>" q params body scope cl pm cv ctv) ⟨[u], []⟩ = pure [(a, u)] := by intros; rfl)
    (he : backTo pos (starEach [e] X.env) = (false, eval e X.env) :: backTo pos (starEach [] X.env) := by rfl) (hpl : (backTo pos (starEach [e] X.env)).any (·.1) = false := by rfl) :
    PE X (.Call (.Name "min" p) [e] [⟨some "key", .Lambda params body scope lpos, kpos⟩] pos) (tKeyed T q j tb te rMinK) := by
  obtain ⟨P, h1, h2, h3⟩ := F.ex
  subst hq hsc
  exact pe_minK (hr.mono (Nat.le_trans (Nat.le_succ _) hk)) hg hm ha h1 hcode h2 h3 (lam1_by L) nd hj hbody hdef hbind he hpl
theorem pe_maxL (hr : Room k' X.A) (hk : k + 3 ≤ k') (hg : Gl X "max") (hm : X.mg "max" = none) (ha : PA X [e] te) (F : LmF X.base X.mg T c q) (hcode : X.env.code = .ref c) (hq : X.env.qual ++ "<lambda>" = q) {sc : Scope} (hsc : X.env.scope = sc) (L : lam1B sc scope a = true) (nd : X.N.Nodup) (hj : X.N[j]? = some a)
    (hbody : ∀ (A : Around) (s : Shared) (H : Hp) (f c' : Addr), Room k (A.deeper (LamX.lamEnv X scope s.heap.objs.size f c')) → PE (bodyCx X A s H scope f c') body tb)
    (hdef : defaultsOf params X.env = ([], []) := by rfl) (hbind : ∀ (q : Str) (cl : List (Str × Addr)) (pm cv ctv u : Value), bindArgs (PySem.W.kla_fn "<lambda>" q params body scope cl pm cv ctv) ⟨[u], []⟩ = pure [(a, u)] := by intros; rfl)
    (he : backTo pos (starEach [e] X.env) = (false, eval e X.env) :: backTo pos (starEach [] X.env) := by rfl) (hpl : (backTo pos (starEach [e] X.env)).any (·.1) = false := by rfl) :
    PE X (.Call (.Name "max" p) [e] [⟨some "key", .Lambda params body scope lpos, kpos⟩] pos) (tKeyed T q j tb te rMaxK) := by
  obtain ⟨P, h1, h2, h3⟩ := F.ex
  subst hq hsc
  exact pe_maxK (hr.mono (Nat.le_trans (Nat.le_succ _) hk)) hg hm ha h1 hcode h2 h3 (lam1_by L) nd hj hbody hdef hbind he hpl
theorem pe_sortL (hr : Room k' X.A) (hk : k + 3 ≤ k') (hg : Gl X "sorted") (hm : X.mg "sorted" = none) (ha : PA X [e] te) (F : LmF X.base X.mg T c q) (hcode : X.env.code = .ref c) (hq : X.env.qual ++ "<lambda>" = q) {sc : Scope} (hsc : X.env.scope = sc) (L : lam1B sc scope a = true) (nd : X.N.Nodup) (hj : X.N[j]? = some a)
    (hbody : ∀ (A : Around) (s : Shared) (H : Hp) (f c' : Addr), Room k (A.deeper (LamX.lamEnv X scope s.heap.objs.size f c')) → PE (bodyCx X A s H scope f c') body tb)
    (hdef : defaultsOf params X.env = ([], []) := by rfl) (hbind : ∀ (q : Str) (cl : List (Str × Addr)) (pm cv ctv u : Value), bindArgs (PySem.W.kla_fn "<lambda>" q params body scope cl pm cv ctv) ⟨[u], []⟩ = pure [(a, u)] := by intros; rfl)
    (he : backTo pos (starEach [e] X.env) = (false, eval e X.env) :: backTo pos (starEach [] X.env) := by rfl) (hpl : (backTo pos (starEach [e] X.env)).any (·.1) = false := by rfl) :
    PE X (.Call (.Name "sorted" p) [e] [⟨some "key", .Lambda params body scope lpos, kpos⟩] pos) (tKeyed T q j tb te rSortK) := by
  obtain ⟨P, h1, h2, h3⟩ := F.ex
  subst hq hsc
  exact pe_sortK (hr.mono hk) hg hm ha h1 hcode h2 h3 (lam1_by L) nd hj hbody hdef hbind he hpl
end
/-! ### steps -/
section
variable {Z : Ad} {L R : List Atom} {H : Hp} {Q : VK} {l : Addr} {xs : List V} {ns : List Int} {σ : St} {j : Nat} {tb : TE} {te : TA} {q : Str} {Rk : List Int → (Int → Int) → (Hp → Prop) → VK → Prop}
abbrev CdO (q : Str) (c : Addr) : HO := LamX.CodeO c q
instance p_keyed : Stp (tKeyed Z.tabs q j tb te Rk σ H Q) (te σ H fun vs H1 => ∃ (l : Addr) (ns : List Int), vs = [.ref l] ∧ H1 l = some (.lst (ns.map V.int)) ∧ LamX.Tabs Z.tabs H1 ∧ ∀ od : Obj,
  ∃ (key : Int → Int) (J : Addr → Hp → Prop), KeyRd Z.tabs q l od ns (upd H1 l (.frz od (.lst (ns.map V.int)))) (fun n => tb (σ.set j (some (.int n)))) key J ∧ Rk ns key (fun H2 => ∃ c, J c H2) fun v H' => H' l = some (.frz od (.lst (ns.map V.int))) ∧ Q v (upd H' l (.lst (ns.map V.int)))) := ⟨fun q => q⟩
/-- the state within the key's calls -/
abbrev InKey (Z : Ad) (q : Str) (l : Addr) (ns : List Int) (R : List Atom) (c : Addr) (od : Obj) : Hp → Prop := Sat Z (⟨c, Pt (CdO q c)⟩ :: ⟨l, Pt (.frz od (.lst (ns.map V.int)))⟩ :: R)
theorem keyed_core (s : Sat Z L H) (f : Fnd L l (Pt (.lst xs)) R) (I : IsI xs ns) (key : Int → Int)
    (hb : ∀ c od H2 n, n ∈ ns → InKey Z q l ns R c od H2 → tb (σ.set j (some (.int n))) H2 fun k H3 => k = .int (key n) ∧ InKey Z q l ns R c od H3)
    (hR : ∀ od, Rk ns key (fun H2 => ∃ c, InKey Z q l ns R c od H2) fun v H' => H' l = some (.frz od (.lst (ns.map V.int))) ∧ Q v (upd H' l (.lst (ns.map V.int)))) :
    ∃ (l' : Addr) (ns : List Int), [V.ref l] = [.ref l'] ∧ H l' = some (.lst (ns.map V.int)) ∧ LamX.Tabs Z.tabs H ∧ ∀ od : Obj,
      ∃ (key : Int → Int) (J : Addr → Hp → Prop), KeyRd Z.tabs q l' od ns (upd H l' (.frz od (.lst (ns.map V.int)))) (fun n => tb (σ.set j (some (.int n)))) key J ∧ Rk ns key (fun H2 => ∃ c, J c H2) fun v H' => H' l' = some (.frz od (.lst (ns.map V.int))) ∧ Q v (upd H' l' (.lst (ns.map V.int))) := by
  obtain rfl := I.eq
  refine ⟨l, ns, rfl, s.at, s.tabs, fun od => ⟨key, fun c => InKey Z q l ns R c od, ⟨fun c H2 e t hc => ?_, fun c H2 h => ⟨h.at0, ?_⟩, fun c H2 n hn h => hb c od H2 n hn h⟩, hR od⟩⟩
  · have s1 : Sat Z (⟨l, Pt (.frz od (.lst (ns.map V.int)))⟩ :: R) _ := s.fnd.put (o' := .frz od (.lst (ns.map V.int))) mutO_lst rfl
    exact (s1.extN e t).add hc trivial
  · exact h.tail.at0
theorem s_minK (s : Sat Z L H) (f : Fnd L l (Pt (.lst xs)) R) (I : IsI xs ns) (hn : 0 < ns.length) (key : Int → Int)
    (hb : ∀ c od H2 n, n ∈ ns → InKey Z q l ns R c od H2 → tb (σ.set j (some (.int n))) H2 fun k H3 => k = .int (key n) ∧ InKey Z q l ns R c od H3)
    (hQ : ∀ i n H', FirstBest (· < ·) key ns i n → Sat Z (⟨l, Pt (.lst (ns.map V.int))⟩ :: R) H' → Q (.int n) H') :
    ∃ (l' : Addr) (ns : List Int), [V.ref l] = [.ref l'] ∧ H l' = some (.lst (ns.map V.int)) ∧ LamX.Tabs Z.tabs H ∧ ∀ od : Obj,
      ∃ (key : Int → Int) (J : Addr → Hp → Prop), KeyRd Z.tabs q l' od ns (upd H l' (.frz od (.lst (ns.map V.int)))) (fun n => tb (σ.set j (some (.int n)))) key J ∧ rMinK ns key (fun H2 => ∃ c, J c H2) fun v H' => H' l' = some (.frz od (.lst (ns.map V.int))) ∧ Q v (upd H' l' (.lst (ns.map V.int))) :=
  keyed_core s f I key hb fun od => ⟨hn, fun H2 i n ⟨c, h⟩ fb => ⟨h.tail.at0, hQ i n _ fb (h.tail.put ⟨rfl, fun z => z⟩ rfl)⟩⟩
theorem s_maxK (s : Sat Z L H) (f : Fnd L l (Pt (.lst xs)) R) (I : IsI xs ns) (hn : 0 < ns.length) (key : Int → Int)
    (hb : ∀ c od H2 n, n ∈ ns → InKey Z q l ns R c od H2 → tb (σ.set j (some (.int n))) H2 fun k H3 => k = .int (key n) ∧ InKey Z q l ns R c od H3)
    (hQ : ∀ i n H', FirstBest (· > ·) key ns i n → Sat Z (⟨l, Pt (.lst (ns.map V.int))⟩ :: R) H' → Q (.int n) H') :
    ∃ (l' : Addr) (ns : List Int), [V.ref l] = [.ref l'] ∧ H l' = some (.lst (ns.map V.int)) ∧ LamX.Tabs Z.tabs H ∧ ∀ od : Obj,
      ∃ (key : Int → Int) (J : Addr → Hp → Prop), KeyRd Z.tabs q l' od ns (upd H l' (.frz od (.lst (ns.map V.int)))) (fun n => tb (σ.set j (some (.int n)))) key J ∧ rMaxK ns key (fun H2 => ∃ c, J c H2) fun v H' => H' l' = some (.frz od (.lst (ns.map V.int))) ∧ Q v (upd H' l' (.lst (ns.map V.int))) :=
  keyed_core s f I key hb fun od => ⟨hn, fun H2 i n ⟨c, h⟩ fb => ⟨h.tail.at0, hQ i n _ fb (h.tail.put ⟨rfl, fun z => z⟩ rfl)⟩⟩
theorem s_sortK (s : Sat Z L H) (f : Fnd L l (Pt (.lst xs)) R) (I : IsI xs ns) (key : Int → Int)
    (hb : ∀ c od H2 n, n ∈ ns → InKey Z q l ns R c od H2 → tb (σ.set j (some (.int n))) H2 fun k H3 => k = .int (key n) ∧ InKey Z q l ns R c od H3)
    (hQ : ∀ p H', Sat Z (⟨p, Pt (.lst ((sortK key ns).map V.int))⟩ :: ⟨l, Pt (.lst (ns.map V.int))⟩ :: R) H' → Q (.ref p) H') :
    ∃ (l' : Addr) (ns : List Int), [V.ref l] = [.ref l'] ∧ H l' = some (.lst (ns.map V.int)) ∧ LamX.Tabs Z.tabs H ∧ ∀ od : Obj,
      ∃ (key : Int → Int) (J : Addr → Hp → Prop), KeyRd Z.tabs q l' od ns (upd H l' (.frz od (.lst (ns.map V.int)))) (fun n => tb (σ.set j (some (.int n)))) key J ∧ rSortK ns key (fun H2 => ∃ c, J c H2) fun v H' => H' l' = some (.frz od (.lst (ns.map V.int))) ∧ Q v (upd H' l' (.lst (ns.map V.int))) := by
  refine keyed_core s f I key hb fun od => fun H2 p ⟨c, h⟩ hp => ?_
  have n1 : l ≠ p := ne_of_none h.tail.at0 hp
  refine ⟨by rw [upd_ne n1]; exact h.tail.at0, ?_⟩
  have s1 := h.tail.new (p := p) (o := .lst ((sortK key ns).map V.int)) hp (fun _ z => by cases z)
  exact hQ p _ ((s1.ent (L' := ⟨l, Pt (.frz od (.lst (ns.map V.int)))⟩ :: ⟨p, Pt (.lst ((sortK key ns).map V.int))⟩ :: R)).put (o' := .lst (ns.map V.int)) ⟨rfl, fun z => z⟩ rfl).ent
end
end NN
/-! own: the end of a law over SL, with tables of code objects -/
namespace NN
open PySem PyProof.Rows L2
/-- the law's start: the script, the empty tables -/
theorem sat_start {S : Addr} {cs : List (Addr × Addr)} {T : List (Addr × Str)} {H : Hp} {K : PySem.W.Frag} {a : Addr} {xs : List V} (h : ∀ p ∈ T, ∃ q ∈ cs, q.2 = p.1) (hT : ∀ p ∈ cs, H p.2 = some (.tbl #[])) (hS : SqL K H a xs) : SatI T S [⟨a, RL K xs⟩] H := by
  refine ⟨fun p hp => ?_, noT H, fun _ => none, .refl, (fun _ _ z => nomatch z), (fun _ _ _ _ z => nomatch z), ?_, trivial⟩
  · obtain ⟨q, hq, e⟩ := h p hp
    exact LamX.TabS.nil (by rw [← e]; exact hT q hq)
  · rcases hS with (e | ⟨u, e⟩) | e
    · exact .inl (.inl (noT_of e rfl))
    · exact .inl (.inr ⟨u, noT_of e rfl⟩)
    · exact .inr e
/-- the law's own def, at the end -/
theorem law_fin3 {l : PySem.W.OpenLaw} {w : World} {K : PySem.W.Frag} {mg : Str → Option Value} {CX : CXT} {x p : Str} {st : Stmt} {k : Nat} {sp : Sp} {fa : Addr} {h : Heap} {Tb : List (Addr × Addr)} (f : Addr) (fd : FuncData) (hm : mg x = some (.ref f)) (hfa : mg x = some (.ref fa)) (F : FunS K x x st [] [] f fd) (B : PlainB x [p] st)
    (ok : ∀ (base : Heap), (∀ p ∈ Tb, LamX.TabB base mg p.1 p.2) → ∀ (f : Addr) (fd : FuncData), FunS K x x st [] [] f fd → FnOk l.prog w K mg base CX k f fd [p] sp)
    (h1 : ∀ p ∈ Tb, h.get? p.2 = some { cls := .none, data := .fields #[] }) (h2 : ∀ p ∈ Tb, K.lookup p.2 = none) (h3 : ∀ p ∈ Tb, PySem.W.CodeHd h p.1 p.2)
    (hsp : ∀ (H : Hp) (a : Addr) (ns : List Int), ns.length ≤ 63 → (∀ z ∈ ns, Builtin.Int.intBits z ≤ 1048576) → (∀ p ∈ Tb, H p.2 = some (.tbl #[])) → SqL K H a (ns.map V.int) → sp [.ref a] H (fun v _ => v = .bl true) fun _ _ _ => False) :
    LamX.LawAtS l w K CX k 63 p mg fa h := by
  have e : f = fa := by
    have z := hm.symm.trans hfa
    injection z with z
    injection z
  subst e
  refine ⟨fd, Tb, sp, h1, h2, h3, fun s v => ?_, hsp, fun base _ _ TB => ok base TB f fd F⟩
  obtain ⟨oc, od, dV, kV, doc, pm, an, cdv, ct, osl, rfl, lk, hcd, hD, _⟩ := F.ex
  rcases hD with ⟨_, rfl⟩ | ⟨z, _⟩
  · exact .of_eq (B kV doc pm an cdv ct [v] rfl)
  · exact absurd rfl z
end NN
/-! own: exceptions whose __init__ calls the base's __init__ by the base's name; isinstance of such a caught one, its fields -/
namespace NN
open PySem L2
/-- the class R hands on ValueError's __init__ -/
structure ReI (K : PySem.W.Frag) (R : Addr) : Prop where
  ga : PySem.W.specialIn K (.ref R) "__getattribute__" = some (some (.builtin "type.__getattribute__"))
  rd : PySem.W.readsIn K R (.type "type") = true
  fi : PySem.W.findCls K (.ref R) (.type "type") "__init__" = some (.val (.builtin "ValueError.__init__"))
section
variable {X : Cx} {x : Str} {o e : Expr} {es : List Expr} {ta : TA} {p p1 p2 pos : Pos} {R C : Addr}
theorem pe_reinit {pl : Sem Bool} (T : ReI X.K R) (hn : PE X (.Name x p1) (tC (.ref R))) (ha : PA X (e :: es) ta)
    (hc : eval (.Call (.Attribute (.Name x p1) "__init__" p2) (e :: es) [] pos) X.env = (do
      let ov ← eval (.Name x p1) X.env
      standAt p2.atName
      let (f, first) ← holding [ov] (getMethod ov "__init__" pl)
      callWith pos f first (backTo pos (starEach (e :: es) X.env)) (backToKw pos (keywordEach [] X.env))) := by rfl)
    (he : starEach (e :: es) X.env = (false, eval e X.env) :: starEach es X.env := by rfl) (hpl : (backTo pos (starEach es X.env)).any (·.1) = false := by rfl) :
    PE X (.Call (.Attribute (.Name x p1) "__init__" p2) (e :: es) [] pos) (tVeI X.K ta) := by
  refine ⟨fun pins s σ H Q I h => ?_⟩
  refine PySem.W.methodCall_KW (thn (hn.run pins s σ H (fun v H1 => v = .ref R ∧ H1 = H) I ⟨rfl, rfl⟩) fun u s1 ⟨v, H1, I1, rv, ev, eH⟩ => ?_) hc
  subst ev eH
  obtain rfl : u = Value.ref R := rv
  refine PySem.W.method_cls I1.kIn T.ga ?_
  refine PySem.W.cls_value I1.kIn T.rd T.fi rfl ?_
  have I2 := I1.tok (s1.toks + 1)
  show wpAny _ _ (callWith pos (Value.builtin "ValueError.__init__") [] (backTo pos (starEach (e :: es) X.env)) []) _ _ _
  refine PyProof.Rows.callWith_method1 (thn (ha.run pos pins _ σ H1 _ I2 h) fun us s2 ⟨vs, H2, I3, r1, a, C, ws, ev, hl, T, ea, q⟩ => ?_) he hpl
  subst ev
  cases r1 with
  | @cons _ u0 _ ur ra rw' =>
    obtain rfl : u0 = Value.ref a := ra
    have hlen : ur.length ≤ sizeLine := by
      rw [← Paired.length rw', sizeLine_eq]
      omega
    exact oinit_ok T I3 ea hlen fun s' J => ⟨.non, H2, J, rfl, q⟩
end
/-- the __init__ of an own exception class -/
structure EF (K : PySem.W.Frag) (C : Addr) (qual : Str) (st : Stmt) : Prop where
  ex : ∃ f fd, PySem.W.findIn K (.ref C) "__init__" = some (some (.ref f)) ∧ PySem.W.typeIn K (.ref f) = some (.type "function") ∧ FunS K "__init__" qual st [] [] f fd
structure EK (P : Program) (w : World) (K : PySem.W.Frag) (mg : Str → Option Value) (base : Heap) (CX : CXT) (k : Nat) (C : Addr) (qual : Str) (ps : List Str) (st : Stmt) (sp : Sp) : Prop where
  ex : ∃ f fd, PySem.W.findIn K (.ref C) "__init__" = some (some (.ref f)) ∧ PySem.W.typeIn K (.ref f) = some (.type "function") ∧ FunS K "__init__" qual st [] [] f fd ∧ FnOk P w K mg base CX k f fd ps sp
theorem EF.mk2 {P : Program} {w : World} {K : PySem.W.Frag} {mg : Str → Option Value} {base : Heap} {qual : Str} {st : Stmt} {ps : List Str} {k : Nat} {sp : Sp} {C : Addr} {CX : CXT} (F : EF K C qual st) (h : ∀ f fd, FunS K "__init__" qual st [] [] f fd → FnOk P w K mg base CX k f fd ps sp) : EK P w K mg base CX k C qual ps st sp :=
  let ⟨f, fd, hm, ht, F⟩ := F.ex; ⟨f, fd, hm, ht, F, h f fd F⟩
theorem FunD.binds2 {K : PySem.W.Frag} {x qual : Str} {params : Arguments} {body : List Stmt} {scope : Scope} {f : Addr} {fd : FuncData} {p q : Str} (F : FunD K x qual params body scope [] [] f fd)
    (h : ∀ (kV doc pm : Value) (an : Option Addr) (cdv ct : Value) (u v : Value), bindArgs (PySem.W.fnOf x qual params body scope .none kV doc pm an cdv ct) ⟨[u, v], []⟩ = pure ([p, q].zip [u, v])) : Binds K fd [p, q] [] := fun s us X hl => by
  obtain ⟨oc, od, dV, kV, doc, pm, an, cdv, ct, osl, rfl, lk, hcd, hD, hK⟩ := F.ex
  rcases hD with ⟨_, rfl⟩ | ⟨e, _⟩
  · match us, hl with
    | [u, v], _ => exact .of_eq (h kV doc pm an cdv ct u v)
  · exact absurd rfl e
section
variable {X : Cx} {x : Str} {o e : Expr} {es : List Expr} {ta : TA} {p p1 p2 pos : Pos} {R C : Addr} {k j : Nat} {qual : Str} {ps : List Str} {st : Stmt} {sp : Sp}
theorem pmk_ek (T : OexC X.K C) (D : EK X.prog X.w X.K X.mg X.base CX0 k C qual ps st sp) (hr : Room j X.A) (hj : k + 1 ≤ j) (hb : ∀ {f fd}, FunS X.K "__init__" qual st [] [] f fd → Binds X.K fd ps []) (hg : Gl X x) (hm : X.mg x = some (.ref C)) (ha : PA X (e :: es) ta)
    (hdb : (x == ("__debug__" : Str)) = false := by decide) (he : starEach (e :: es) X.env = (false, eval e X.env) :: starEach es X.env := by rfl) (hpl : (backTo pos (starEach es X.env)).any (·.1) = false := by rfl) :
    PMk X (.Call (.Name x p) (e :: es) [] pos) (tMkO C sp [] ta) := by
  obtain ⟨f, fd, h1, h2, F, ok⟩ := D.ex
  exact pmk_oex T h1 h2 ok (hr.mono hj) (hb F) .nil (fun _ _ _ _ _ _ _ h => h.elim) hg hm ha hdb he hpl
end
/-- try .. except X: .., without a name -/
def sTryN (K : PySem.W.Frag) (c : Value) (ts : Addr → Value → Option Addr → TS) (tb : WX → TS) : TS := fun D σ H => tb (wMany K (fun _ _ _ _ => False) D [(c, ts)]) D σ H
/-- raise C(..) -/
def tRsO (E : XK) (t : St → Hp → XK → Prop) : TS := fun _ σ H => t σ H fun cls d H' => E cls d H'
section
variable {X : Cx} {x : Str} {C : Addr}
/-- isinstance of the caught one, with or without a dict; one class, a tuple of classes -/
abbrev rIsE3 (K : PySem.W.Frag) (a : Addr) (cls : Value) (d : Option Addr) : RCl := fun xs H Q => ∃ D : Addr, cls = .ref D ∧ ExcC K D ∧ (∀ dd, d = some dd → ∃ fs, H dd = some (.xd fs)) ∧
  ((∃ (c : V) (cv : Value) (b : Bool), xs = [.ref a, c] ∧ ClsV c cv ∧ PySem.W.kitOne K (.ref D) cv = some b ∧ Q (.bl b) H) ∨
   (∃ (tp : Addr) (cs : List V) (us : List Value) (b : Bool), xs = [.ref a, .ref tp] ∧ H tp = some (.tup cs) ∧ Paired ClsV cs us ∧ PySem.W.kitAny K (.ref D) us = some b ∧ Q (.bl b) H))
theorem call_isE3 {a : Addr} {oe : Obj} {cls : Value} {d : Option Addr} {pn : List (Addr × Obj)} (hz : Zc cls d oe) (hf : ∃ vs, oe.data = .fields vs) :
    CallR (X.suite a ((a, oe) :: pn)) (.builtin "isinstance") (rIsE3 X.K a cls d) := by
  intro pins s σ H xs us Q I r h
  obtain ⟨D, rfl, C, hd, h⟩ := h
  obtain ⟨hget, _⟩ := I.pin (a, oe) (List.mem_append.mpr (.inl List.mem_cons_self))
  obtain ⟨vs, hv⟩ := hf
  obtain ⟨od, J⟩ : ∃ od, PySem.W.InstAt s.heap a oe D od := by
    cases d with
    | none => exact ⟨none, hget, hz.1, by unfold PySem.W.notCls; rw [hv] <;> rfl, by rw [hz.2]; exact trivial⟩
    | some dd =>
      obtain ⟨fs, ed⟩ := hd dd rfl
      have hx : ObjOk X.prog X.w H s.heap dd (.xd fs) := I.hok dd _ ed
      obtain ⟨mA, hns, hr⟩ := hx
      obtain ⟨od, ho, hl⟩ := lookIn_ns hns
      exact ⟨some od, hget, hz.1, by unfold PySem.W.notCls; rw [hv] <;> rfl, by rw [hz.2]; exact ho⟩
  have hcl : (PySem.W.clsIn X.K D).isSome = true := by obtain ⟨cd, hc, _⟩ := PySem.W.any_some C.hd; rw [hc]; rfl
  have Z : PySem.W.KitX X.K (.ref a) (.ref D) (fun h => PySem.W.InstAt h a oe D od) := PySem.W.kitx_exc hcl C.hg C.hk C.hs C.ha C.hn C.ht C.hm
  rcases h with ⟨c, cv, b, rfl, k, e, q⟩ | ⟨tp, cs, ws, b, rfl, hT, k, e, q⟩
  · obtain ⟨u1, u2, rfl, r1, r2⟩ := vals2 r
    cases (show u1 = Value.ref a from r1)
    have e2 := k.eq r2
    subst e2
    exact PySem.W.kia_one Z I.kIn J e (fun z => nomatch z) fun tk => ⟨.bl b, H, I.tok tk, rfl, q⟩
  · obtain ⟨u1, u2, rfl, r1, r2⟩ := vals2 r
    cases (show u1 = Value.ref a from r1)
    cases (show u2 = Value.ref tp from r2)
    obtain ⟨_, its, rv, o, h1, h2, n, h3⟩ := (show ObjOk X.prog X.w H s.heap tp (.tup cs) from I.hok tp _ hT)
    have e3 := ClsV.all k rv
    subst e3
    obtain ⟨oc, od', dt, sl⟩ := o
    simp only at h2 h3
    subst h2 h3
    exact PySem.W.kia_tup Z I.kIn J h1 e (fun z => nomatch z) fun tk => ⟨.bl b, H, I.tok tk, rfl, q⟩
end
section
variable {σ : St} {H : Hp} {ta : TA} {E : XK} {t : St → Hp → XK → Prop} {D : Ends} {C a : Addr} {sp : Sp} {Q : VK} {K : PySem.W.Frag} {cls : Value} {d : Option Addr} {f : Str} {te : TE}
instance p_rsO : Stp (tRsO E t D σ H) (t σ H E) := ⟨fun q => q⟩
instance p_xf : Stp (tXf a cls d C f te σ H Q) (te σ H fun x H1 => x = .ref a ∧ cls = .ref C ∧ ∃ (dd : Addr) (fs : List (Str × V)) (v : V), d = some dd ∧ H1 dd = some (.xd fs) ∧ fs.lookup f = some v ∧ Q v H1) := ⟨fun q => q⟩
instance p_veI : Stp (tVeI K ta σ H Q) (ta σ H fun vs H1 => ∃ (a C : Addr) (ws : List V), vs = .ref a :: ws ∧ ws.length ≤ 1000 ∧ OexC K C ∧ H1 a = some (exo a C none) ∧ Q .non H1) := ⟨fun q => q⟩
instance p_ost {to : TE} : Stp (tOst K f to te D σ H) (te σ H fun y H1 => to σ H1 fun x H2 => ∃ a C : Addr, x = .ref a ∧ OexC K C ∧ PySem.W.findIn K (.ref C) f = some none ∧
  ((H2 a = some (exo a C none) ∧ ∀ dx, H2 dx = none → dx ≠ a → D.nx σ (upd (upd H2 dx (exd dx [(f, y)])) a (exo a C (some dx)))) ∨
    ∃ (dx : Addr) (fs : List (Str × V)), H2 a = some (exo a C (some dx)) ∧ H2 dx = some (exd dx fs) ∧ fs.length ≤ 900 ∧ D.nx σ (upd H2 dx (exd dx ((f, y) :: fs))))) := ⟨fun q => q⟩
/-- the promise of an exception's __init__ that keeps one thing -/
def spX1 (C : Addr) (f : Str) : Sp := fun vs H Q _ => ∃ (a : Addr) (v : V), vs = [.ref a, v] ∧ H a = some (exo a C none) ∧ ∀ d, H d = none → d ≠ a → Q .non (upd (upd H d (exd d [(f, v)])) a (exo a C (some d)))
instance p_mkO : Stp (tMkO C sp [] ta σ H E) (ta σ H fun vs H1 => vs.length ≤ 1000 ∧ ∀ a, H1 a = none → sp (.ref a :: (vs ++ [])) (upd H1 a (exo a C none))
  (fun v H2 => v = .non ∧ ∃ (d : Addr) (fs : List (Str × V)), H2 a = some (exo a C (some d)) ∧ H2 d = some (exd d fs) ∧ H1 d = none ∧ E (.ref C) (some d) (upd (del H2 a) d (.xd fs))) (fun _ _ _ => False)) := ⟨fun q => q⟩
theorem mkO_1 {v : V} (q : ∀ d, H d = none → E (.ref C) (some d) (upd H d (.xd [(f, v)]))) : [v].length ≤ 1000 ∧ ∀ a, H a = none → spX1 C f (.ref a :: ([v] ++ [])) (upd H a (exo a C none))
  (fun v H2 => v = .non ∧ ∃ (d : Addr) (fs : List (Str × V)), H2 a = some (exo a C (some d)) ∧ H2 d = some (exd d fs) ∧ H d = none ∧ E (.ref C) (some d) (upd (del H2 a) d (.xd fs))) (fun _ _ _ => False) := by
  refine ⟨(by show 1 ≤ 1000; decide), fun a ha => ⟨a, v, rfl, upd_same, fun d hd hne => ⟨rfl, d, [(f, v)], upd_same, by rw [upd_ne hne, upd_same], by rwa [upd_ne hne] at hd, ?_⟩⟩⟩
  have hd0 : H d = none := by rwa [upd_ne hne] at hd
  have e : upd (del (upd (upd (upd H a (exo a C none)) d (exd d [(f, v)])) a (exo a C (some d))) a) d (.xd [(f, v)]) = upd H d (.xd [(f, v)]) := by
    funext b
    by_cases h1 : b = d
    · rw [h1, upd_same, upd_same]
    · rw [upd_ne h1, upd_ne h1]
      by_cases h2 : b = a
      · rw [h2, del_same, ha]
      · rw [del_ne h2, upd_ne h2, upd_ne h1, upd_ne h2]
  rw [e]
  exact q d hd0
end
end NN
/-! own: what the run of the program's top leaves, by facts; tables of code objects, the interpreter's statics -/
namespace NN
open PySem PySem.Spec PyProof.Rows L2 He
def asN (g : Addr → Option Obj) (n : Nat) : List Addr := asD g n ++ [cStatics]
structure SaysN (fa : List Fa) (fn : List DefD) (tf : List Defn) (ex : PySem.W.Frag → Bool) (h : Heap) (K : PySem.W.Frag) : Prop where
  d : SaysD fa fn K
  more : ex K = true
  hd : ∀ p ∈ tf, PySem.W.codeHdIn K (cT K p).1 (cT K p).2 = true
  out : ∀ p ∈ tf, K.lookup (cT K p).2 = none
  empty : ∀ p ∈ tf, h.get? (cT K p).2 = some { cls := .none, data := .fields #[] }
abbrev AlN : Type := AlD × Bool
def obsN (n : Nat) (fa : List Fa) (fn : List DefD) (tf : List Defn) (ex : PySem.W.Frag → Bool) (g : Addr → Option Obj) : AlN := (obsD fa fn (frT g (asN g n)), ex (frT g (asN g n)) && tabsB g tf (frT g (asN g n)))
def valN (fn : List DefD) : AlN := (valD fn, true)
theorem saysN_of {n : Nat} {fa : List Fa} {fn : List DefD} {tf : List Defn} {ex : PySem.W.Frag → Bool} {h : Heap} (e : obsN n fa fn tf ex h.get? = valN fn) : SaysN fa fn tf ex h (frT h.get? (asN h.get? n)) := by
  have e1 : obsD fa fn (frT h.get? (asN h.get? n)) = valD fn := congrArg (fun z : AlN => z.1) e
  have e2 : (ex (frT h.get? (asN h.get? n)) && tabsB h.get? tf (frT h.get? (asN h.get? n))) = true := congrArg (fun z : AlN => z.2) e
  obtain ⟨h1, h2⟩ := ba e2
  have key : ∀ p ∈ tf, PySem.W.codeHdIn (frT h.get? (asN h.get? n)) (cT (frT h.get? (asN h.get? n)) p).1 (cT (frT h.get? (asN h.get? n)) p).2 = true ∧ ∃ o, h.get? (cT (frT h.get? (asN h.get? n)) p).2 = some o ∧ emptyTab o = true := fun p hp => by
    obtain ⟨h3, h4⟩ := ba (List.all_eq_true.mp h2 p hp)
    refine ⟨h3, ?_⟩
    cases q : h.get? (cT (frT h.get? (asN h.get? n)) p).2 with
    | none =>
      rw [q] at h4
      cases h4
    | some o =>
      rw [q] at h4
      exact ⟨o, rfl, h4⟩
  exact ⟨e1, h1, fun p hp => (key p hp).1, fun p hp => by
    obtain ⟨_, o, q, z⟩ := key p hp
    exact frT_none q z, fun p hp => by
    obtain ⟨_, o, q, z⟩ := key p hp
    rw [q, emptyTab_eq z]⟩
def hookN (n : Nat) (fa : List Fa) (fn : List DefD) (tf : List Defn) (ex : PySem.W.Frag → Bool) : PySem.W.Hook where
  α := AlN
  obs := fun s => obsN n fa fn tf ex s.heap.get?
  val := fun _ => valN fn
  says := fun _ h => ∃ K : PySem.W.Frag, K.In h ∧ SaysN fa fn tf ex h K
  of := fun _ _ e => ⟨_, frT_in, saysN_of e⟩
  keeps := fun _ _ _ ⟨K, hK, c⟩ k => ⟨K, PySem.W.Frag.In.keeps hK k, ⟨c.d, c.more, c.hd, c.out, fun p hp => k _ _ (c.empty p hp)⟩⟩
theorem obsN_eq {n : Nat} {fa : List Fa} {fn : List DefD} {tf : List Defn} {ex : PySem.W.Frag → Bool} {g : Addr → Option Obj} {s : Shared} (h : ∀ a, g a = s.heap.get? a) : obsN n fa fn tf ex g = (hookN n fa fn tf ex).obs s := by
  have e : g = s.heap.get? := funext h
  rw [e] <;> rfl
theorem code_eq {K : PySem.W.Frag} {p : Str × Option Str} {x qual : Str} {params : Arguments} {body : List Stmt} {scope : Scope} {dvs : List V} {kws : List (Str × V)} {fd : FuncData} (F : L2.FunD K x qual params body scope dvs kws (fAd K p) fd) : fd.code = .ref (codeOf K p) := by
  obtain ⟨oc, od, dV, kV, doc, pm, an, cdv, ct, osl, rfl, lk, hcd, hD, hK⟩ := F.ex
  obtain ⟨c, rfl⟩ := codeIn_ref hcd
  rw [codeOf_eq lk (c := c) rfl]
/-! own facts as truths -/
def oexB (K : PySem.W.Frag) (C : Addr) : Bool := (match K.lookup C with
  | some ⟨.type "type", _, .cls cd, sl⟩ => (match cd.mro, sl.toList with
    | .ref C' :: bm, [_, _, _, _, some (.builtin n), _] => C' == C && n == "ValueError.__new__" && !cd.hasDel && cd.hasDict && PySem.HandSPX.refsVE bm
    | _, _ => false)
  | _ => false) && (decide (PySem.W.findIn K (.ref C) "__setattr__" = some (some (.builtin "object.__setattr__"))) && (decide (PySem.W.subIn K (.ref C) (.type "BaseException") = some true) && (decide (PySem.W.typeIn K (.ref C) = some (.type "type")) && PySem.W.keepIn K (.ref C))))
theorem oexB_ok {K : PySem.W.Frag} {C : Addr} (q : oexB K C = true) : OexC K C := by
  obtain ⟨q, q1⟩ := ba q
  obtain ⟨q1, q2⟩ := ba q1
  obtain ⟨q2, q3⟩ := ba q2
  obtain ⟨q3, q4⟩ := ba q3
  refine ⟨?_, of_decide_eq_true q1, of_decide_eq_true q2, of_decide_eq_true q3, q4⟩
  split at q
  · rename_i dd cd sl ho
    split at q
    · rename_i C' bm k0 k1 k2 k3 n k5 hm hs
      simp only [Bool.and_eq_true, beq_iff_eq, Bool.not_eq_true'] at q
      obtain ⟨⟨⟨⟨rfl, rfl⟩, hdel⟩, hdc⟩, ht⟩ := q
      obtain ⟨nm, bs, mro, ns, qn, hd, sn, sub, ab, col, del⟩ := cd
      dsimp only at hm hdel hdc
      subst hm hdel hdc
      have hsl : sl = #[k0, k1, k2, k3, some (.builtin "ValueError.__new__"), k5] := by
        obtain ⟨l⟩ := sl
        simp only at hs
        rw [hs]
      subst hsl
      exact ⟨nm, qn, ns, bs, bm, sn, sub, ab, col, dd, k0, k1, k2, k3, k5, ho, ht⟩
    · cases q
  · cases q
def reiB (K : PySem.W.Frag) (R : Addr) : Bool := decide (PySem.W.specialIn K (.ref R) "__getattribute__" = some (some (.builtin "type.__getattribute__"))) && (PySem.W.readsIn K R (.type "type") && (match PySem.W.findCls K (.ref R) (.type "type") "__init__" with
  | some (.val v) => decide (v = .builtin "ValueError.__init__")
  | _ => false))
theorem reiB_ok {K : PySem.W.Frag} {R : Addr} (q : reiB K R = true) : ReI K R := by
  obtain ⟨q1, q⟩ := ba q
  obtain ⟨q2, q3⟩ := ba q
  refine ⟨of_decide_eq_true q1, q2, ?_⟩
  split at q3
  · rename_i v e
    rw [e, of_decide_eq_true q3]
  · cases q3
end NN
namespace NN
open PySem L2
def topS (i : Nat) : Stmt := PySem.Challenge.pw_nearestname_k44_within_hops.main.body.getD i (.Pass ⟨0, 0, 0, 0⟩)
abbrev s_is_whole : Stmt := topS 30
abbrev s_Space___init__ : Stmt := inClass (topS 31) 0
abbrev s_Space_bits : Stmt := inClass (topS 31) 1
abbrev s_Space_size : Stmt := inClass (topS 31) 2
abbrev s_Space_has : Stmt := inClass (topS 31) 3
abbrev s_Space_distance : Stmt := inClass (topS 31) 4
abbrev s_Space_is_between : Stmt := inClass (topS 31) 5
abbrev s_Space_nearest : Stmt := inClass (topS 31) 6
abbrev s_Space_preceding : Stmt := inClass (topS 31) 7
abbrev s_Node___init__ : Stmt := inClass (topS 36) 0
abbrev s_upwards : Stmt := topS 37
abbrev s_others_upwards : Stmt := topS 38
abbrev s_far_point : Stmt := topS 39
abbrev s_right_chain : Stmt := topS 40
abbrev s_right_far : Stmt := topS 41
abbrev s_right_node : Stmt := topS 42
abbrev s_is_length : Stmt := topS 43
abbrev s_are_base : Stmt := topS 44
abbrev s_space_of : Stmt := topS 45
abbrev s_Ring___init__ : Stmt := inClass (topS 46) 0
abbrev s_Ring_space : Stmt := inClass (topS 46) 1
abbrev s_Ring_base : Stmt := inClass (topS 46) 3
abbrev s_Ring_members : Stmt := inClass (topS 46) 4
abbrev s_Ring_is_member : Stmt := inClass (topS 46) 5
abbrev s_Ring_node : Stmt := inClass (topS 46) 7
abbrev s_Ring_links : Stmt := inClass (topS 46) 8
abbrev s_Ring_next_of : Stmt := inClass (topS 46) 9
abbrev s_Ring_fingers : Stmt := inClass (topS 46) 11
abbrev s_first_of : Stmt := topS 23
abbrev s_Ring_want_point : Stmt := inClass (topS 46) 6
abbrev s_farthest : Stmt := topS 17
abbrev s_known_by : Stmt := topS 18
abbrev s_Seeker___init__ : Stmt := inClass (topS 19) 0
abbrev s_Seeker_step : Stmt := inClass (topS 19) 1
abbrev s_Seeker_go_on : Stmt := inClass (topS 19) 2
abbrev s_Seeker_go_back : Stmt := inClass (topS 19) 3
abbrev s_Seeker_go_upwards : Stmt := inClass (topS 19) 4
abbrev s_Seeker_at : Stmt := inClass (topS 19) 5
abbrev s_Seeker_way : Stmt := inClass (topS 19) 6
abbrev s_Seeker_answer : Stmt := inClass (topS 19) 8
abbrev s_Found___init__ : Stmt := inClass (topS 20) 0
abbrev s_Found_path : Stmt := inClass (topS 20) 1
abbrev s_Found_answer : Stmt := inClass (topS 20) 2
abbrev s_Found_ways : Stmt := inClass (topS 20) 3
abbrev s_lookX : Stmt := topS 21
abbrev s_TooFar___init__ : Stmt := inClass (topS 11) 0
abbrev s__law_pot : Stmt := topS 48
abbrev s__law_take : Stmt := topS 49
abbrev s__law_bits : Stmt := topS 50
abbrev s__law_point : Stmt := topS 51
abbrev s__law_points : Stmt := topS 52
abbrev s__law_size : Stmt := topS 53
abbrev s__law_base : Stmt := topS 54
abbrev s__law_asked : Stmt := topS 56
abbrev s__law_told : Stmt := topS 57
abbrev s__law_right : Stmt := topS 58
abbrev s_law : Stmt := topS 59
abbrev dd0 : He.DefD := ⟨("is_whole", none), "is_whole", "is_whole", defArgs s_is_whole, defBody s_is_whole, defScope s_is_whole, [], []⟩
abbrev dd1 : He.DefD := ⟨("Space", some "__init__"), "__init__", "Space.__init__", defArgs s_Space___init__, defBody s_Space___init__, defScope s_Space___init__, [.int 8], []⟩
abbrev dd2 : He.DefD := ⟨("Space", some "bits"), "bits", "Space.bits", defArgs s_Space_bits, defBody s_Space_bits, defScope s_Space_bits, [], []⟩
abbrev dd3 : He.DefD := ⟨("Space", some "size"), "size", "Space.size", defArgs s_Space_size, defBody s_Space_size, defScope s_Space_size, [], []⟩
abbrev dd4 : He.DefD := ⟨("Space", some "has"), "has", "Space.has", defArgs s_Space_has, defBody s_Space_has, defScope s_Space_has, [], []⟩
abbrev dd5 : He.DefD := ⟨("Space", some "distance"), "distance", "Space.distance", defArgs s_Space_distance, defBody s_Space_distance, defScope s_Space_distance, [], []⟩
abbrev dd6 : He.DefD := ⟨("Space", some "is_between"), "is_between", "Space.is_between", defArgs s_Space_is_between, defBody s_Space_is_between, defScope s_Space_is_between, [], []⟩
abbrev dd7 : He.DefD := ⟨("Space", some "nearest"), "nearest", "Space.nearest", defArgs s_Space_nearest, defBody s_Space_nearest, defScope s_Space_nearest, [], []⟩
abbrev dd8 : He.DefD := ⟨("Space", some "preceding"), "preceding", "Space.preceding", defArgs s_Space_preceding, defBody s_Space_preceding, defScope s_Space_preceding, [], []⟩
abbrev dd9 : He.DefD := ⟨("Node", some "__init__"), "__init__", "Node.__init__", defArgs s_Node___init__, defBody s_Node___init__, defScope s_Node___init__, [], []⟩
abbrev dd10 : He.DefD := ⟨("upwards", none), "upwards", "upwards", defArgs s_upwards, defBody s_upwards, defScope s_upwards, [], []⟩
abbrev dd11 : He.DefD := ⟨("others_upwards", none), "others_upwards", "others_upwards", defArgs s_others_upwards, defBody s_others_upwards, defScope s_others_upwards, [], []⟩
abbrev dd12 : He.DefD := ⟨("far_point", none), "far_point", "far_point", defArgs s_far_point, defBody s_far_point, defScope s_far_point, [], []⟩
abbrev dd13 : He.DefD := ⟨("right_chain", none), "right_chain", "right_chain", defArgs s_right_chain, defBody s_right_chain, defScope s_right_chain, [], []⟩
abbrev dd14 : He.DefD := ⟨("right_far", none), "right_far", "right_far", defArgs s_right_far, defBody s_right_far, defScope s_right_far, [], []⟩
abbrev dd15 : He.DefD := ⟨("right_node", none), "right_node", "right_node", defArgs s_right_node, defBody s_right_node, defScope s_right_node, [], []⟩
abbrev dd16 : He.DefD := ⟨("is_length", none), "is_length", "is_length", defArgs s_is_length, defBody s_is_length, defScope s_is_length, [], []⟩
abbrev dd17 : He.DefD := ⟨("are_base", none), "are_base", "are_base", defArgs s_are_base, defBody s_are_base, defScope s_are_base, [], []⟩
abbrev dd18 : He.DefD := ⟨("space_of", none), "space_of", "space_of", defArgs s_space_of, defBody s_space_of, defScope s_space_of, [], []⟩
abbrev dd19 : He.DefD := ⟨("Ring", some "__init__"), "__init__", "Ring.__init__", defArgs s_Ring___init__, defBody s_Ring___init__, defScope s_Ring___init__, [], []⟩
abbrev dd20 : He.DefD := ⟨("Ring", some "space"), "space", "Ring.space", defArgs s_Ring_space, defBody s_Ring_space, defScope s_Ring_space, [], []⟩
abbrev dd21 : He.DefD := ⟨("Ring", some "base"), "base", "Ring.base", defArgs s_Ring_base, defBody s_Ring_base, defScope s_Ring_base, [], []⟩
abbrev dd22 : He.DefD := ⟨("Ring", some "members"), "members", "Ring.members", defArgs s_Ring_members, defBody s_Ring_members, defScope s_Ring_members, [], []⟩
abbrev dd23 : He.DefD := ⟨("Ring", some "is_member"), "is_member", "Ring.is_member", defArgs s_Ring_is_member, defBody s_Ring_is_member, defScope s_Ring_is_member, [], []⟩
abbrev dd24 : He.DefD := ⟨("Ring", some "node"), "node", "Ring.node", defArgs s_Ring_node, defBody s_Ring_node, defScope s_Ring_node, [], []⟩
abbrev dd25 : He.DefD := ⟨("Ring", some "links"), "links", "Ring.links", defArgs s_Ring_links, defBody s_Ring_links, defScope s_Ring_links, [], []⟩
abbrev dd26 : He.DefD := ⟨("Ring", some "next_of"), "next_of", "Ring.next_of", defArgs s_Ring_next_of, defBody s_Ring_next_of, defScope s_Ring_next_of, [], []⟩
abbrev dd27 : He.DefD := ⟨("Ring", some "fingers"), "fingers", "Ring.fingers", defArgs s_Ring_fingers, defBody s_Ring_fingers, defScope s_Ring_fingers, [], []⟩
abbrev dd28 : He.DefD := ⟨("first_of", none), "first_of", "first_of", defArgs s_first_of, defBody s_first_of, defScope s_first_of, [], []⟩
abbrev dd29 : He.DefD := ⟨("Ring", some "want_point"), "want_point", "Ring.want_point", defArgs s_Ring_want_point, defBody s_Ring_want_point, defScope s_Ring_want_point, [], []⟩
abbrev dd30 : He.DefD := ⟨("farthest", none), "farthest", "farthest", defArgs s_farthest, defBody s_farthest, defScope s_farthest, [], []⟩
abbrev dd31 : He.DefD := ⟨("known_by", none), "known_by", "known_by", defArgs s_known_by, defBody s_known_by, defScope s_known_by, [], []⟩
abbrev dd32 : He.DefD := ⟨("Seeker", some "__init__"), "__init__", "Seeker.__init__", defArgs s_Seeker___init__, defBody s_Seeker___init__, defScope s_Seeker___init__, [], []⟩
abbrev dd33 : He.DefD := ⟨("Seeker", some "step"), "step", "Seeker.step", defArgs s_Seeker_step, defBody s_Seeker_step, defScope s_Seeker_step, [], []⟩
abbrev dd34 : He.DefD := ⟨("Seeker", some "go_on"), "go_on", "Seeker.go_on", defArgs s_Seeker_go_on, defBody s_Seeker_go_on, defScope s_Seeker_go_on, [], []⟩
abbrev dd35 : He.DefD := ⟨("Seeker", some "go_back"), "go_back", "Seeker.go_back", defArgs s_Seeker_go_back, defBody s_Seeker_go_back, defScope s_Seeker_go_back, [], []⟩
abbrev dd36 : He.DefD := ⟨("Seeker", some "go_upwards"), "go_upwards", "Seeker.go_upwards", defArgs s_Seeker_go_upwards, defBody s_Seeker_go_upwards, defScope s_Seeker_go_upwards, [], []⟩
abbrev dd37 : He.DefD := ⟨("Seeker", some "at"), "at", "Seeker.at", defArgs s_Seeker_at, defBody s_Seeker_at, defScope s_Seeker_at, [], []⟩
abbrev dd38 : He.DefD := ⟨("Seeker", some "way"), "way", "Seeker.way", defArgs s_Seeker_way, defBody s_Seeker_way, defScope s_Seeker_way, [], []⟩
abbrev dd39 : He.DefD := ⟨("Seeker", some "answer"), "answer", "Seeker.answer", defArgs s_Seeker_answer, defBody s_Seeker_answer, defScope s_Seeker_answer, [], []⟩
abbrev dd40 : He.DefD := ⟨("Found", some "__init__"), "__init__", "Found.__init__", defArgs s_Found___init__, defBody s_Found___init__, defScope s_Found___init__, [], []⟩
abbrev dd41 : He.DefD := ⟨("Found", some "path"), "path", "Found.path", defArgs s_Found_path, defBody s_Found_path, defScope s_Found_path, [], []⟩
abbrev dd42 : He.DefD := ⟨("Found", some "answer"), "answer", "Found.answer", defArgs s_Found_answer, defBody s_Found_answer, defScope s_Found_answer, [], []⟩
abbrev dd43 : He.DefD := ⟨("Found", some "ways"), "ways", "Found.ways", defArgs s_Found_ways, defBody s_Found_ways, defScope s_Found_ways, [], []⟩
abbrev dd44 : He.DefD := ⟨("look", none), "look", "look", defArgs s_lookX, defBody s_lookX, defScope s_lookX, [], [("within", .non)]⟩
abbrev dd45 : He.DefD := ⟨("TooFar", some "__init__"), "__init__", "TooFar.__init__", defArgs s_TooFar___init__, defBody s_TooFar___init__, defScope s_TooFar___init__, [], []⟩
abbrev dd46 : He.DefD := ⟨("_law_pot", none), "_law_pot", "_law_pot", defArgs s__law_pot, defBody s__law_pot, defScope s__law_pot, [], []⟩
abbrev dd47 : He.DefD := ⟨("_law_take", none), "_law_take", "_law_take", defArgs s__law_take, defBody s__law_take, defScope s__law_take, [], []⟩
abbrev dd48 : He.DefD := ⟨("_law_bits", none), "_law_bits", "_law_bits", defArgs s__law_bits, defBody s__law_bits, defScope s__law_bits, [], []⟩
abbrev dd49 : He.DefD := ⟨("_law_point", none), "_law_point", "_law_point", defArgs s__law_point, defBody s__law_point, defScope s__law_point, [], []⟩
abbrev dd50 : He.DefD := ⟨("_law_points", none), "_law_points", "_law_points", defArgs s__law_points, defBody s__law_points, defScope s__law_points, [], []⟩
abbrev dd51 : He.DefD := ⟨("_law_size", none), "_law_size", "_law_size", defArgs s__law_size, defBody s__law_size, defScope s__law_size, [], []⟩
abbrev dd52 : He.DefD := ⟨("_law_base", none), "_law_base", "_law_base", defArgs s__law_base, defBody s__law_base, defScope s__law_base, [], []⟩
abbrev dd53 : He.DefD := ⟨("_law_asked", none), "_law_asked", "_law_asked", defArgs s__law_asked, defBody s__law_asked, defScope s__law_asked, [], []⟩
abbrev dd54 : He.DefD := ⟨("_law_told", none), "_law_told", "_law_told", defArgs s__law_told, defBody s__law_told, defScope s__law_told, [], []⟩
abbrev dd55 : He.DefD := ⟨("_law_right", none), "_law_right", "_law_right", defArgs s__law_right, defBody s__law_right, defScope s__law_right, [], []⟩
abbrev dd56 : He.DefD := ⟨("law", none), "law", "law", defArgs s_law, defBody s_law, defScope s_law, [], []⟩
def fnl : List He.DefD := [dd0, dd1, dd2, dd3, dd4, dd5, dd6, dd7, dd8, dd9, dd10, dd11, dd12, dd13, dd14, dd15, dd16, dd17, dd18, dd19, dd20, dd21, dd22, dd23, dd24, dd25, dd26, dd27, dd28, dd29, dd30, dd31, dd32, dd33, dd34, dd35, dd36, dd37, dd38, dd39, dd40, dd41, dd42, dd43, dd44, dd45, dd46, dd47, dd48, dd49, dd50, dd51, dd52, dd53, dd54, dd55, dd56]
def fal : List He.Fa := [.glo "Alone",
  .glo "Fixed",
  .glo "Found",
  .glo "LastOne",
  .glo "NoMember",
  .glo "NoOrder",
  .glo "NoPoint",
  .glo "NoRing",
  .glo "NoRow",
  .glo "NoSpace",
  .glo "NoText",
  .glo "NoValue",
  .glo "Node",
  .glo "Ring",
  .glo "RingError",
  .glo "Seeker",
  .glo "Space",
  .glo "Taken",
  .glo "TooFar",
  .cls "Found",
  .noat "Found" "trail",
  .noat "Found" "goal",
  .noat "Found" "reasons",
  .cls "Node",
  .noat "Node" "chain",
  .noat "Node" "prior",
  .noat "Node" "far",
  .noat "Node" "things",
  .cls "Ring",
  .noat "Ring" "circle",
  .noat "Ring" "many",
  .noat "Ring" "fixed",
  .noat "Ring" "nodes",
  .noat "Ring" "stamps",
  .noat "Ring" "done",
  .cls "Seeker",
  .noat "Seeker" "around",
  .noat "Seeker" "sought",
  .noat "Seeker" "trail",
  .noat "Seeker" "returns",
  .noat "Seeker" "goal",
  .cls "Space",
  .noat "Space" "own_bits",
  .exc "NoSpace",
  .noat "TooFar" "stood",
  .glo "is_whole",
  .mkr "Space",
  .meth "Space" "bits",
  .meth "Space" "size",
  .meth "Space" "has",
  .meth "Space" "distance",
  .meth "Space" "is_between",
  .meth "Space" "nearest",
  .meth "Space" "preceding",
  .mkr "Node",
  .glo "upwards",
  .glo "others_upwards",
  .glo "far_point",
  .glo "right_chain",
  .glo "right_far",
  .glo "right_node",
  .glo "is_length",
  .glo "are_base",
  .glo "space_of",
  .mkr "Ring",
  .meth "Ring" "space",
  .meth "Ring" "base",
  .meth "Ring" "members",
  .meth "Ring" "is_member",
  .meth "Ring" "node",
  .meth "Ring" "links",
  .meth "Ring" "next_of",
  .meth "Ring" "fingers",
  .glo "first_of",
  .meth "Ring" "want_point",
  .glo "farthest",
  .glo "known_by",
  .mkr "Seeker",
  .meth "Seeker" "step",
  .meth "Seeker" "go_on",
  .meth "Seeker" "go_back",
  .meth "Seeker" "go_upwards",
  .meth "Seeker" "at",
  .meth "Seeker" "way",
  .meth "Seeker" "answer",
  .mkr "Found",
  .meth "Found" "path",
  .meth "Found" "answer",
  .meth "Found" "ways",
  .glo "look",
  .glo "_law_pot",
  .glo "_law_take",
  .glo "_law_bits",
  .glo "_law_point",
  .glo "_law_points",
  .glo "_law_size",
  .glo "_law_base",
  .glo "_law_asked",
  .glo "_law_told",
  .glo "_law_right",
  .glo "law",
  .free "ValueError",
  .free "all",
  .free "bool",
  .free "int",
  .free "isinstance",
  .free "len",
  .free "list",
  .free "max",
  .free "min",
  .free "range",
  .free "set",
  .free "sorted",
  .free "zip",
  .int "LEAST_BITS" 3,
  .int "MOST_BASE" 8,
  .int "MOST_BITS" 32,
  .int "MOST_LENGTH" 4]
abbrev tfl : List He.Defn := [("Space", some "nearest"), ("Space", some "preceding"), ("upwards", none), ("farthest", none)]
def exL (K : PySem.W.Frag) : List Bool := [oexB K (He.ga K "TooFar"),
  reiB K (He.ga K "RingError"),
  xfB K (He.ga K "TooFar"),
  decide (PySem.W.findIn K (.ref (He.ga K "TooFar")) "__init__" = some (some (.ref (He.ma K (He.ga K "TooFar") "__init__")))),
  decide (PySem.W.typeIn K (.ref (He.ma K (He.ga K "TooFar") "__init__")) = some (.type "function")),
  decide ((He.ga K "Ring") ≠ (He.ga K "Space")),
  decide ((He.ga K "Node") ≠ (He.ga K "Space")),
  decide ((He.ga K "Seeker") ≠ (He.ga K "Space")),
  decide ((He.ga K "Found") ≠ (He.ga K "Space")),
  decide (PySem.W.specialIn K (.builtin "object.__class__") "__get__" = some (some (.builtin "getset_descriptor.__get__"))),
  decide (PySem.W.takesIn K (.builtin "object.__class__") = some true),
  decide (PySem.W.findIn K (.ref (He.ga K "TooFar")) "__getattribute__" = some (some (.builtin "BaseException.__getattribute__"))),
  decide (PySem.W.findIn K (.ref (He.ga K "TooFar")) "__getattr__" = some none),
  decide (PySem.W.hasDictIn K (He.ga K "TooFar") = true),
  decide (PySem.W.findIn K (.ref (He.ga K "TooFar")) "__class__" = some (some (.builtin "object.__class__"))),
  decide (PySem.W.mroIn K (He.ga K "TooFar") (.type "object") = some true),
  decide (PySem.W.exmOne K (.ref (He.ga K "TooFar")) (.ref (He.ga K "TooFar")) = some true),
  decide (PySem.W.kitAny K (.ref (He.ga K "TooFar")) [.ref (He.ga K "Alone"), .ref (He.ga K "Fixed"), .ref (He.ga K "LastOne"), .ref (He.ga K "NoMember"), .ref (He.ga K "NoOrder"), .ref (He.ga K "NoPoint"), .ref (He.ga K "NoRing"), .ref (He.ga K "NoRow"), .ref (He.ga K "NoSpace")] = some false),
  decide (PySem.W.kitAny K (.ref (He.ga K "TooFar")) [.ref (He.ga K "NoText"), .ref (He.ga K "NoValue"), .ref (He.ga K "Taken")] = some false),
  decide (PySem.W.kitOne K (.ref (He.ga K "TooFar")) (.ref (He.ga K "RingError")) = some true),
  decide (PySem.W.kitOne K (.ref (He.ga K "TooFar")) (.type "ValueError") = some true),
  decide ((He.cT K ("Space", some "nearest")).2 ≠ (He.cT K ("Space", some "preceding")).2),
  decide ((He.cT K ("Space", some "nearest")).2 ≠ (He.cT K ("upwards", none)).2),
  decide ((He.cT K ("Space", some "nearest")).2 ≠ (He.cT K ("farthest", none)).2),
  decide ((He.cT K ("Space", some "preceding")).2 ≠ (He.cT K ("upwards", none)).2),
  decide ((He.cT K ("Space", some "preceding")).2 ≠ (He.cT K ("farthest", none)).2),
  decide ((He.cT K ("upwards", none)).2 ≠ (He.cT K ("farthest", none)).2)]
def exB (K : PySem.W.Frag) : Bool := (exL K).all id
abbrev Rr : PySem.W.OpenRow := PySem.W.OpenLaw.row PySem.Challenge.rw_nearestname_k44_within_hops
abbrev hk : PySem.W.Hook := hookN 4 fal fnl tfl exB
def ob (s : PySem.W.SharedT) : AlN := obsN 4 fal fnl tfl exB (HandSHeadRun.getT s)
theorem ob_eq (s : PySem.W.SharedT) : ob s = hk.obs s.abs := obsN_eq (HandSHeadRun.getT_eq s)
def looseN : List PySem.Str := (["_wall", "__name__", "RingError", "NoSpace", "NoPoint", "NoRing", "NoMember", "Taken", "Fixed", "Alone", "LastOne", "TooFar", "NoText", "NoValue", "NoOrder", "NoRow", "farthest", "known_by", "Seeker", "Found", "look", "first_of", "BITS", "LEAST_BITS", "MOST_BITS", "FIGURES", "BITS_OF_A_FIGURE", "is_whole", "Space", "LENGTH"] : List PySem.Str) ++ (["MOST_LENGTH", "MOST_BASE", "Node", "upwards", "others_upwards", "far_point", "right_chain", "right_far", "right_node", "is_length", "are_base", "space_of", "Ring", "_law_pot", "_law_take", "_law_bits", "_law_point", "_law_points", "_law_size", "_law_base", "_law_up", "_law_asked", "_law_told", "_law_right"] : List PySem.Str)
set_option maxHeartbeats 0 in
theorem runN (w : World) : HandSHeadRun.RunEq Rr (PySem.W.view Rr.prog [59]) hk ob 12000 looseN w := by
  intro os
  kernel_rfl
end NN
namespace NN
open PySem L2
/-- all points of a list lie in the space -/
def InSp (size : Int) (ns : List Int) : Prop := ∀ n ∈ ns, 0 ≤ n ∧ n < size
/-- between, as the program tells it -/
def betw (m p x y : Int) : Bool := decide (0 < (p - x) % m) && (decide (x = y) || decide ((p - x) % m < (y - x) % m))
theorem g_iteV {b : Bool} {σ : St} {H : Hp} {ta tb : TE} {Q : VK} {v : V} (h1 : b = true → ∀ Q' : VK, Q' v H → ta σ H Q') (h2 : b = false → ∀ Q' : VK, Q' v H → tb σ H Q') (q : Q v H) : if b = true then ta σ H Q else tb σ H Q := by
  cases b with
  | true => exact h1 rfl Q q
  | false => exact h2 rfl Q q
theorem g_iteA {b : Bool} {σ : St} {H : Hp} {ta : TE} {Q : VK} {v w : V} (h1 : b = true → ∀ Q' : VK, Q' v H → ta σ H Q') (h2 : b = false → v = w) (q : Q v H) : if b = true then ta σ H Q else Q w H := by
  cases b with
  | true => exact h1 rfl Q q
  | false => rw [← h2 rfl]; exact q
/-! ### remainders by cases -/
theorem mod_a {z m : Int} (h1 : 0 ≤ z) (h2 : z < m) : z % m = z := Int.emod_eq_of_lt h1 h2
theorem mod_b {z m : Int} (h1 : m ≤ z) (h2 : z < 2 * m) : z % m = z - m := by
  have e := Int.add_mul_emod_self_left (z - m) m 1
  rw [Int.mul_one, Int.sub_add_cancel] at e
  rw [e, Int.emod_eq_of_lt (by omega) (by omega)]
theorem mod_c {z m : Int} (h1 : -m ≤ z) (h2 : z < 0) : z % m = z + m := by
  have e := Int.add_mul_emod_self_left z m 1
  rw [Int.mul_one] at e
  rw [← e, Int.emod_eq_of_lt (by omega) (by omega)]
theorem mod_s {z m : Int} (h1 : -m ≤ z) (h2 : z < m) : (0 ≤ z ∧ z % m = z) ∨ (z < 0 ∧ z % m = z + m) := by
  by_cases h : 0 ≤ z
  · exact .inl ⟨h, mod_a h h2⟩
  · exact .inr ⟨by omega, mod_c h1 (by omega)⟩
theorem mod_t {z m : Int} (h1 : 0 ≤ z) (h2 : z < 2 * m) : (z < m ∧ z % m = z) ∨ (m ≤ z ∧ z % m = z - m) := by
  by_cases h : z < m
  · exact .inl ⟨h, mod_a h1 h⟩
  · exact .inr ⟨by omega, mod_b (by omega) h2⟩
/-- how many points lie on the way -/
def wln (m x y : Int) : Nat := ((y - x - 1) % m).toNat
def wl (m x y : Int) (n : Nat) : List Int := (List.range n).map fun (j : Nat) => (x + 1 + (j : Int)) % m
theorem wl_len (m x y : Int) (n : Nat) : (wl m x y n).length = n := by unfold wl; rw [List.length_map, List.length_range]
theorem wl_succ (m x y : Int) (n : Nat) : wl m x y (n + 1) = wl m x y n ++ [(x + 1 + (n : Int)) % m] := by unfold wl; rw [List.range_succ, List.map_append]; rfl
theorem wln_lt {m x y : Int} (hm : 8 ≤ m) : ((wln m x y : Nat) : Int) < m ∧ ((wln m x y : Nat) : Int) = (y - x - 1) % m := by
  unfold wln
  have h1 := Int.emod_nonneg (y - x - 1) (show m ≠ 0 by omega)
  have h2 := Int.emod_lt_of_pos (y - x - 1) (show 0 < m by omega)
  omega
theorem wl_hit {m x y : Int} {n : Nat} (hm : 8 ≤ m) (hx : 0 ≤ x ∧ x < m) (hy : 0 ≤ y ∧ y < m) (hn : (n : Int) < m) : (x + 1 + (n : Int)) % m = y ↔ n = wln m x y := by
  have h1 := wln_lt (x := x) (y := y) hm
  rcases mod_s (z := y - x - 1) (m := m) (by omega) (by omega) with a | a <;> rcases mod_t (z := x + 1 + (n : Int)) (m := m) (by omega) (by omega) with b | b <;> constructor <;> intro h <;> omega
theorem betw_wl {m p x y : Int} (hm : 8 ≤ m) (hp : 0 ≤ p ∧ p < m) (hx : 0 ≤ x ∧ x < m) (hy : 0 ≤ y ∧ y < m) : betw m p x y = decide (p ∈ wl m x y (wln m x y)) := by
  have e : p ∈ wl m x y (wln m x y) ↔ wln m x p < wln m x y := by
    unfold wl
    rw [List.mem_map]
    constructor
    · rintro ⟨j, hj, e⟩
      rw [List.mem_range] at hj
      have z := wln_lt (x := x) (y := y) hm
      rw [wl_hit hm hx hp (by omega)] at e
      omega
    · intro h
      refine ⟨wln m x p, List.mem_range.mpr h, ?_⟩
      have z := wln_lt (x := x) (y := p) hm
      rw [wl_hit hm hx hp (by omega)]
  have h1 := wln_lt (x := x) (y := y) hm
  have h2 := wln_lt (x := x) (y := p) hm
  rw [Bool.eq_iff_iff]
  unfold betw
  simp only [Bool.and_eq_true, Bool.or_eq_true, decide_eq_true_eq]
  rw [e]
  rcases mod_s (z := y - x - 1) (m := m) (by omega) (by omega) with a | a <;> rcases mod_s (z := p - x - 1) (m := m) (by omega) (by omega) with b | b <;> rcases mod_s (z := p - x) (m := m) (by omega) (by omega) with c | c <;> rcases mod_s (z := y - x) (m := m) (by omega) (by omega) with d | d <;> constructor <;> intro h <;> omega
theorem betw_no {m p x y : Int} (h : p = x) : betw m p x y = false := by
  unfold betw
  rw [h, Int.sub_self, Int.zero_emod]
  rfl
theorem betw_pos {m p x : Int} (hm : 8 ≤ m) (hp : 0 ≤ p ∧ p < m) (hx : 0 ≤ x ∧ x < m) (h : p ≠ x) : 0 < (p - x) % m := by
  rcases mod_s (z := p - x) (m := m) (by omega) (by omega) with a | a <;> omega
theorem betw_T {m p x y : Int} (hm : 8 ≤ m) (hp : 0 ≤ p ∧ p < m) (hx : 0 ≤ x ∧ x < m) (h : p ≠ x) (h2 : x = y) : betw m p x y = true := by
  unfold betw
  rw [decide_eq_true (betw_pos hm hp hx h), decide_eq_true h2]
  rfl
theorem betw_L {m p x y : Int} (hm : 8 ≤ m) (hp : 0 ≤ p ∧ p < m) (hx : 0 ≤ x ∧ x < m) (h : p ≠ x) (h2 : ¬ x = y) : betw m p x y = decide ((p - x) % m < (y - x) % m) := by
  unfold betw
  rw [decide_eq_true (betw_pos hm hp hx h), decide_eq_false h2, Bool.true_and, Bool.false_or]
end NN
namespace NN
open PySem L2
local macro_rules | `(tactic| walk_at "nl") => `(tactic| first | with_reducible assumption | omega | (simp only [List.length_map, List.length_cons, List.length_nil, List.length_append, List.length_reverse, List.length_take, List.length_drop] <;> omega) | decide)
local macro_rules | `(tactic| walk_at "ar") => `(tactic| first | omega | (simp only [List.length_cons, List.length_nil] <;> omega) | (simp only [List.length_cons, List.length_nil, List.length_append, List.length_map, List.length_set, List.length_take, List.length_drop, List.length_reverse] <;> omega) | decide)
local macro_rules | `(tactic| walk_at "cond") => `(tactic| first | assumption | exact c_mulB | (exact c_mulL (by walk_at "nl") (by walk_at "nl")) | (exact c_mulR (by walk_at "nl") (by walk_at "nl")) | (exact c_divW (by walk_at "nl") (by walk_at "nl")) | (exact c_pow (by walk_at "nl") (by walk_at "nl") (by walk_at "nl")) | walk_at "nl")
local macro_rules | `(tactic| walk_at "sz") => `(tactic| first | exact sz_small (by simp only [List.length_cons, List.length_nil]; decide) | exact sz_small (by decide) | exact sz_small (by walk_at "ar"))
local macro_rules | `(tactic| walk_at "sl") => `(tactic| first | exact sz_less (by walk_at "ar"))
local macro_rules | `(tactic| walk_at "at") => `(tactic| first | assumption | exact at_0 | exact at_1 | exact at_2 | exact at_3 | exact at_4 | exact at_5 | exact at_6 | exact at_7 | exact at_8 | exact at_9 | exact at_10 | exact at_11 | exact at_12 | exact at_13 | exact at_14 | exact at_15 | exact atI_nat (by assumption))
local macro_rules | `(tactic| walk_at "flat") => `(tactic| first | exact ints_flat _ | rfl | assumption | decide)
local macro_rules | `(tactic| walk_at "ixn") => `(tactic| first | with_unfolding_all rfl | exact ixN_lit (j := 0) rfl (by walk_at "ar") | exact ixN_nat (by walk_at "ar"))
local macro_rules | `(tactic| walk_at "sat") => `(tactic| first | assumption | exact SatI.ent (by assumption))
local macro_rules | `(tactic| walk_at "hat") => `(tactic| first | with_reducible assumption | exact SatI.at (by assumption))
local macro_rules | `(tactic| walk_at "lt") => `(tactic| first | decide | (simp only [List.length_cons, List.length_nil]; decide))
local macro_rules | `(tactic| walk_at "putf") => `(tactic| (simp (decide := true) only [putF, if_true, if_false]) <;> rfl)
local macro_rules | `(tactic| walk_at "lkr") => `(tactic| exact fun _ _ _ _ => rfl)
local macro_rules | `(tactic| walk_at "ok") => `(tactic| first | assumption | decide +kernel)
local macro_rules | `(tactic| walk_at "lkk") => `(tactic| exact fun _ => rfl)
local macro_rules | `(tactic| walk_at "lkf") => `(tactic| exact fun _ _ => rfl)
local macro_rules | `(tactic| walk_at "dval") => `(tactic| first | assumption | rfl)
local macro_rules | `(tactic| walk_at "fm") => `(tactic| first | exact fm_yes (by assumption) (by first | rfl | assumption) rfl (by assumption) inferInstance (by walk_at "ar") | exact fm_no (by assumption) (by first | rfl | assumption) (by assumption) inferInstance)
local macro_rules | `(tactic| walk_at "call") => `(tactic| fail)
local macro_rules | `(tactic| walk_at "call2") => `(tactic| fail)
local macro_rules | `(tactic| walk_at "go1") => `(tactic| first | ((with_reducible refine Stp.imp ?_)) | (((with_reducible refine' g_eqc ?h0 ?_); (case h0 => rfl))) | (((with_reducible refine' g_I ?h0 ?_); (case h0 => walk_at "cond"))) | (((with_reducible refine' g_eq ?h0 ?_); (case h0 => with_unfolding_all rfl))) | (((with_reducible refine' g_ne ?h0 ?_); (case h0 => with_unfolding_all rfl))) | (((with_reducible refine' g_sz ?h0 ?_); (case h0 => walk_at "sz"); intro p hp; generalize hg : upd _ p _ = H2; (first | have hs := sat_newLI hg hp (by with_reducible assumption) inferInstance | have hs := sat_newL hg hp (by with_reducible assumption) | have hs := sat_newT hg hp (by with_reducible assumption)); clear hg hp)) | (((with_reducible refine' s_lenI ?h0 ?h1 ?h2 ?h3 ?_); (case h0 => with_reducible assumption); (case h1 => infer_instance); (case h2 => infer_instance); (case h3 => infer_instance))) | (((with_reducible refine' s_lenL ?h0 ?h1 ?h2 ?_); (case h0 => with_reducible assumption); (case h1 => infer_instance); (case h2 => infer_instance))) | (((with_reducible refine' s_lenT ?h0 ?h1 ?_); (case h0 => with_reducible assumption); (case h1 => infer_instance))) | (((with_reducible refine' s_listL ?h0 ?h1 ?h2 ?_); (case h0 => with_reducible assumption); (case h1 => infer_instance); (case h2 => infer_instance); intro _ _ _)) | (((with_reducible refine' s_listT ?h0 ?h1 ?_); (case h0 => with_reducible assumption); (case h1 => infer_instance); intro _ _ _)) | (((with_reducible refine' s_slTo ?h0 ?h1 ?h2 ?h3 ?h4 ?_); (case h0 => with_reducible assumption); (case h1 => infer_instance); (case h2 => infer_instance); (case h3 => infer_instance); (case h4 => walk_at "nl"); intro _ _ _)) | (((with_reducible refine' s_slFrom ?h0 ?h1 ?h2 ?h3 ?h4 ?_); (case h0 => with_reducible assumption); (case h1 => infer_instance); (case h2 => infer_instance); (case h3 => infer_instance); (case h4 => walk_at "nl"); intro _ _ _)) | (((with_reducible refine' s_slLast ?h0 ?h1 ?h2 ?h3 ?_); (case h0 => with_reducible assumption); (case h1 => infer_instance); (case h2 => infer_instance); (case h3 => infer_instance); intro _ _ _)) | (((with_reducible refine' s_slMid ?h0 ?h1 ?h2 ?h3 ?h4 ?h5 ?_); (case h0 => with_reducible assumption); (case h1 => infer_instance); (case h2 => infer_instance); (case h3 => infer_instance); (case h4 => walk_at "nl"); (case h5 => walk_at "nl"); intro _ _ _)) | (((with_reducible refine' s_sum ?h0 ?h1 ?h2 ?h3 ?_); (case h0 => with_reducible assumption); (case h1 => infer_instance); (case h2 => infer_instance); (case h3 => infer_instance))) | (((with_reducible refine' s_slL ?h0 ?h1 ?h2 ?_); (case h0 => with_reducible assumption); (case h1 => infer_instance); (case h2 => infer_instance); intro _ _ _)) | (((with_reducible refine' s_ixL ?h0 ?h1 ?h2 ?h3 ?_); (case h0 => with_reducible assumption); (case h1 => infer_instance); (case h2 => infer_instance); (case h3 => walk_at "at"))) | (((with_reducible refine' s_ixLast ?h0 ?h1 ?h2 ?h3 ?h4 ?_); (case h0 => with_reducible assumption); (case h1 => infer_instance); (case h2 => infer_instance); (case h3 => infer_instance); (case h4 => assumption))) | (((with_reducible refine' s_ixIn ?h0 ?h1 ?h2 ?h3 ?h4 ?h5 ?_); (case h0 => with_reducible assumption); (case h1 => infer_instance); (case h2 => infer_instance); (case h3 => infer_instance); (case h4 => walk_at "nl"); (case h5 => walk_at "nl"); intro n hn; (try simp only [List.mem_cons, List.not_mem_nil, or_false] at hn))) | (((with_reducible refine' s_ixT ?h0 ?h1 ?h2 ?_); (case h0 => with_reducible assumption); (case h1 => infer_instance); (case h2 => walk_at "at"))) | (((with_reducible refine' s_inI ?h0 ?h1 ?h2 ?h3 ?_); (case h0 => with_reducible assumption); (case h1 => infer_instance); (case h2 => infer_instance); (case h3 => infer_instance))) | (((with_reducible refine' s_ninI ?h0 ?h1 ?h2 ?h3 ?_); (case h0 => with_reducible assumption); (case h1 => infer_instance); (case h2 => infer_instance); (case h3 => infer_instance))) | (((with_reducible refine' s_in ?h0 ?h1 ?h2 ?h3 ?h4 ?_); (case h0 => with_reducible assumption); (case h1 => infer_instance); (case h2 => infer_instance); (case h3 => with_unfolding_all rfl); (case h4 => walk_at "flat"))) | (((with_reducible refine' s_setLI ?h0 ?h1 ?h2 ?h3 ?_); (case h0 => with_reducible assumption); (case h1 => infer_instance); (case h2 => infer_instance); (case h3 => walk_at "ixn"); intro _ _)) | (((with_reducible refine' s_setL ?h0 ?h1 ?h2 ?_); (case h0 => with_reducible assumption); (case h1 => infer_instance); (case h2 => with_unfolding_all rfl); intro _ _)) | (((with_reducible refine' s_appendI ?h0 ?h1 ?h2 ?h3 ?_); (case h0 => with_reducible assumption); (case h1 => infer_instance); (case h2 => infer_instance); (case h3 => walk_at "sl"); intro _ _)) | (((with_reducible refine' s_append ?h0 ?h1 ?h2 ?_); (case h0 => with_reducible assumption); (case h1 => infer_instance); (case h2 => walk_at "sl"); intro _ _)) | (((with_reducible refine' s_tyL ?h0 ?h1 ?h2 ?_); (case h0 => with_reducible assumption); (case h1 => infer_instance); (case h2 => infer_instance))) | (((with_reducible refine' s_catI ?h0 ?h1 ?h2 ?h3 ?h4 ?h5 ?_); (case h0 => with_reducible assumption); (case h1 => infer_instance); (case h2 => infer_instance); (case h3 => infer_instance); (case h4 => infer_instance); (case h5 => walk_at "sz"); intro _ _ _)) | (((with_reducible refine' s_cat ?h0 ?h1 ?h2 ?h3 ?_); (case h0 => with_reducible assumption); (case h1 => infer_instance); (case h2 => infer_instance); (case h3 => walk_at "sz"); intro _ _ _)) | (((with_reducible refine' s_sorted ?h0 ?h1 ?h2 ?h3 ?_); (case h0 => with_reducible assumption); (case h1 => infer_instance); (case h2 => infer_instance); (case h3 => infer_instance); intro _ _ _)) | (((with_reducible refine' s_eqL ?h0 ?h1 ?h2 ?h3 ?h4 ?h5 ?h6 ?_); (case h0 => with_reducible assumption); (case h1 => infer_instance); (case h2 => infer_instance); (case h3 => infer_instance); (case h4 => infer_instance); (case h5 => infer_instance); (case h6 => infer_instance))) | (((with_reducible refine' s_neL ?h0 ?h1 ?h2 ?h3 ?h4 ?h5 ?h6 ?_); (case h0 => with_reducible assumption); (case h1 => infer_instance); (case h2 => infer_instance); (case h3 => infer_instance); (case h4 => infer_instance); (case h5 => infer_instance); (case h6 => infer_instance))) | (((with_reducible refine' s_isLL ?h0 ?h1 ?_); (case h0 => with_reducible assumption); (case h1 => infer_instance))) | (((with_reducible refine' s_revI ?h0 ?h1 ?h2 ?h3 ?_); (case h0 => with_reducible assumption); (case h1 => infer_instance); (case h2 => infer_instance); (case h3 => infer_instance); intro _ _ _)) | (((with_reducible refine' s_revL ?h0 ?h1 ?h2 ?_); (case h0 => with_reducible assumption); (case h1 => infer_instance); (case h2 => infer_instance); intro _ _ _)) | (((with_reducible refine' s_insertI ?h0 ?h1 ?h2 ?h3 ?h4 ?h5 ?_); (case h0 => with_reducible assumption); (case h1 => infer_instance); (case h2 => infer_instance); (case h3 => walk_at "sl"); (case h4 => walk_at "nl"); (case h5 => walk_at "nl"); intro _ _)) | (((with_reducible refine' s_all ?h0 ?h1 ?_); (case h0 => with_reducible assumption); (case h1 => infer_instance))) | (((with_reducible refine' s_any ?h0 ?h1 ?_); (case h0 => with_reducible assumption); (case h1 => infer_instance))) | (((with_reducible refine' s_idx ?h0 ?h1 ?h2 ?h3 ?h4 ?_); (case h0 => with_reducible assumption); (case h1 => infer_instance); (case h2 => infer_instance); (case h3 => infer_instance); (case h4 => assumption))) | (((with_reducible refine' g_fld ?h0 ?h1 ?h2 ?h3 ?_); (case h0 => walk_at "hat"); (case h1 => with_reducible assumption); (case h2 => with_reducible assumption); (case h3 => with_unfolding_all rfl))) | (((with_reducible refine' s_sfld ?h0 ?h1 ?h2 ?h3 ?h4 ?h5 ?h6 ?_); (case h0 => with_reducible assumption); (case h1 => infer_instance); (case h2 => with_reducible assumption); (case h3 => with_reducible assumption); (case h4 => with_reducible assumption); (case h5 => walk_at "lt"); (case h6 => walk_at "putf"); intro _ _)) | (((with_reducible refine' s_ins ?h0 ?h1 ?h2 ?_); (case h0 => with_reducible assumption); (case h1 => infer_instance); (case h2 => with_unfolding_all rfl))) | (((with_reducible refine' s_dget ?h0 ?h1 ?h2 ?h3 ?_); (case h0 => with_reducible assumption); (case h1 => infer_instance); (case h2 => infer_instance); (case h3 => walk_at "dval"))) | (((with_reducible refine' s_din ?h0 ?h1 ?h2 ?_); (case h0 => with_reducible assumption); (case h1 => infer_instance); (case h2 => infer_instance))) | (((with_reducible refine' s_dnotin ?h0 ?h1 ?h2 ?_); (case h0 => with_reducible assumption); (case h1 => infer_instance); (case h2 => infer_instance))) | (((with_reducible refine' s_dput ?h0 ?h1 ?h2 ?h3 ?_); (case h0 => with_reducible assumption); (case h1 => infer_instance); (case h2 => infer_instance); (case h3 => walk_at "sl"); intro _ _)) | ((intro p hp; generalize hg : upd _ p (HO.dK []) = H2; have hs := sat_newD hg hp (by with_reducible assumption); clear hg hp)) | (((with_reducible refine' s_divmod ?h0 ?h1 ?h2 ?_); (case h0 => with_reducible assumption); (case h1 => walk_at "nl"); (case h2 => walk_at "nl"); intro _ _ _)) | (((with_reducible refine' s_gtup ?h0 ?h1 ?h2 ?_); (case h0 => with_reducible assumption); (case h1 => infer_instance); (case h2 => with_unfolding_all rfl))) | walk_at "call" | walk_at "call2")
local macro_rules | `(tactic| walk_at "go") => `(tactic| (repeat walk_at "go1"); (try dsimp only))
local macro_rules | `(tactic| walk_at "on") => `(tactic| (with_reducible refine g_seq ?_); walk_at "go")
local macro_rules | `(tactic| walk_at "ifs") => `(tactic| ((try simp only [List.length_map]) <;> (repeat' split) <;> omega))
/-! ### things at hand -/
/-- a pot of draws: two numbers -/
def PotA : Addr → Hp → Prop := fun p h => ∃ x y : Int, h p = some (.lst [.int x, .int y]) ∧ 0 ≤ y ∧ y < 2147483648
/-- a space of b bits -/
def SpA (Z : Ad) (b : Nat) : Addr → Hp → Prop := fun s h => ∃ dx : Addr, h s = some (.ins Z.Space dx [("own_bits", .int (b : Int))]) ∧ 3 ≤ b ∧ b ≤ 32
/-- .. in the heap -/
def SpH (Z : Ad) (H : Hp) (s : Addr) (b : Nat) : Prop := SpA Z b s H
theorem SpH.lo {Z : Ad} {H : Hp} {s : Addr} {b : Nat} (h : SpH Z H s b) : 3 ≤ b := by obtain ⟨_, _, r, _⟩ := h; exact r
theorem SpH.hi {Z : Ad} {H : Hp} {s : Addr} {b : Nat} (h : SpH Z H s b) : b ≤ 32 := by obtain ⟨_, _, _, r⟩ := h; exact r
theorem pw_lo {b : Nat} (h : 3 ≤ b) : (8 : Int) ≤ 2 ^ b := pow2_le (n := 3) h
theorem pw_hi {b : Nat} (h : b ≤ 32) : (2 : Int) ^ b ≤ 4294967296 := pow2_le (m := 32) h
theorem SpH.pw {Z : Ad} {H : Hp} {s : Addr} {b : Nat} (h : SpH Z H s b) : (8 : Int) ≤ 2 ^ b ∧ (2 : Int) ^ b ≤ 4294967296 := ⟨pw_lo h.lo, pw_hi h.hi⟩
section
variable {Z : Ad} {L R : List Atom} {H : Hp} {s p : Addr} {b : Nat}
theorem sat_spH (s' : Sat Z L H) (f : Fnd L s (SpA Z b) R) : SpH Z H s b := by
  obtain ⟨h, k, dx, e, r⟩ := (s'.fnd (p := s)).head
  exact ⟨dx, k _ _ e, r⟩
theorem sat_addS (s' : Sat Z L H) (h : SpH Z H s b) : Sat Z (⟨s, SpA Z b⟩ :: L) H := by
  obtain ⟨dx, e, r⟩ := h
  exact (s'.add e rfl).imp1 fun h e => ⟨dx, e, r⟩
theorem pot_open (s : Sat Z (⟨p, PotA⟩ :: R) H) : ∃ x y : Int, 0 ≤ y ∧ y < 2147483648 ∧ Sat Z (⟨p, Pt (.lst ([x, y].map V.int))⟩ :: R) H := by
  obtain ⟨h, ⟨x, y, e, h0, h1⟩, k⟩ := s.split
  exact ⟨x, y, h0, h1, k _ e⟩
theorem pot_close {x y : Int} (s : Sat Z (⟨p, Pt (.lst ([x, y].map V.int))⟩ :: R) H) (h0 : 0 ≤ y) (h1 : y < 2147483648) : Sat Z (⟨p, PotA⟩ :: R) H := s.imp1 fun h e => ⟨x, y, e, h0, h1⟩
end
/-- a thing of which isinstance can be told -/
def Th (H : Hp) (v : V) : Prop := (∃ i, v = .int i) ∨ (∃ b, v = .bl b) ∨ v = .non ∨ (∃ s, v = .str s) ∨ ∃ a, v = .ref a ∧ ((∃ xs, H a = some (.lst xs)) ∨ (∃ xs, H a = some (.tup xs)) ∨ ∃ kv, H a = some (.dK kv))
theorem Th.int {H : Hp} {i : Int} : Th H (.int i) := .inl ⟨i, rfl⟩
theorem Th.bl {H : Hp} {b : Bool} : Th H (.bl b) := .inr (.inl ⟨b, rfl⟩)
theorem Th.non {H : Hp} : Th H .non := .inr (.inr (.inl rfl))
theorem Th.str {H : Hp} {s : Str} : Th H (.str s) := .inr (.inr (.inr (.inl ⟨s, rfl⟩)))
theorem Th.lst {H : Hp} {a : Addr} {xs : List V} (h : H a = some (.lst xs)) : Th H (.ref a) := .inr (.inr (.inr (.inr ⟨a, rfl, .inl ⟨xs, h⟩⟩)))
theorem Th.tup {H : Hp} {a : Addr} {xs : List V} (h : H a = some (.tup xs)) : Th H (.ref a) := .inr (.inr (.inr (.inr ⟨a, rfl, .inr (.inl ⟨xs, h⟩)⟩)))
theorem Th.dK {H : Hp} {a : Addr} {xs : List (Key × V)} (h : H a = some (.dK xs)) : Th H (.ref a) := .inr (.inr (.inr (.inr ⟨a, rfl, .inr (.inr ⟨xs, h⟩)⟩)))
/-- is it a whole number, within bounds -/
def wv : V → Bool | .int _ => true | _ => false
class BVal (b : Bool) (v : outParam Bool) : Prop where
  eq : b = v
instance bv_i {i : Int} : BVal (wv (.int i)) true := ⟨rfl⟩
instance bv_b {b : Bool} : BVal (wv (.bl b)) false := ⟨rfl⟩
instance bv_n : BVal (wv .non) false := ⟨rfl⟩
instance bv_s {s : Str} : BVal (wv (.str s)) false := ⟨rfl⟩
instance bv_r {a : Addr} : BVal (wv (.ref a)) false := ⟨rfl⟩
instance p_bvT {b : Bool} {A B : Prop} [V : BVal b true] : Stp (if b = true then A else B) A := ⟨fun q => by rw [V.eq]; exact q⟩
instance p_bvF {b : Bool} {A B : Prop} [V : BVal b false] : Stp (if b = true then A else B) B := ⟨fun q => by rw [V.eq]; exact q⟩
instance p_bvNT {b : Bool} {A B : Prop} [V : BVal b true] : Stp (if (!b) = true then A else B) B := ⟨fun q => by rw [V.eq]; exact q⟩
instance p_bvNF {b : Bool} {A B : Prop} [V : BVal b false] : Stp (if (!b) = true then A else B) A := ⟨fun q => by rw [V.eq]; exact q⟩
def inB (l h : Int) : V → Bool | .int i => decide (l ≤ i) && decide (i < h) | _ => false
theorem isi_int {K : PySem.W.Frag} {H : Hp} {Q : VK} {v : V} (h : Th H v) (q : Q (.bl (match v with | .int _ => true | .bl _ => true | _ => false)) H) : rIsi K [v, .ty "int"] H Q := by
  rcases h with ⟨i, rfl⟩ | ⟨b, rfl⟩ | h | ⟨s, rfl⟩ | ⟨a, rfl, ⟨xs, h⟩ | ⟨xs, h⟩ | ⟨kv, h⟩⟩
  · exact isi (b := true) (.base (.int _)) (by decide +kernel) q
  · exact isi (b := true) (.base (.bl _)) (by decide +kernel) q
  · subst h; exact isi (b := false) (.base .non) (by decide +kernel) q
  · exact isi (b := false) (.base (.str _)) (by decide +kernel) q
  · exact isi (b := false) (.base (.lst h)) (by decide +kernel) q
  · exact isi (b := false) (.base (.tup h)) (by decide +kernel) q
  · exact isi (b := false) (.base (.dK h)) (by decide +kernel) q
section
variable {σ : St} {H : Hp} {Q : VK} {ta tb tc tv : TE} {r r' : R2} {K : PySem.W.Frag} {Z : Ad} {f : Str} {D : Ends} {E : XK} {cls : Value}
instance p_chain : Stp (tChain r r' ta tb tc σ H Q) (ta σ H fun x H1 => tb σ H1 fun y H2 => r x y H2 fun z H3 => ∃ k, z = .bl k ∧ (if k = true then tc σ H3 fun w' H4 => r' y w' H4 Q else Q (.bl false) H3)) := ⟨fun q => q⟩
instance p_sfld : Stp (sFld K ta tv f D σ H) (tv σ H fun y H1 => ta σ H1 fun x H2 => ∃ a C dx fs, x = .ref a ∧ H2 a = some (.ins C dx fs) ∧ Cls K C ∧ NoAttr K C f ∧ fs.length < 1000 ∧ D.nx σ (upd H2 a (.ins C dx (putF f y fs)))) := ⟨fun q => q⟩
instance p_raise : Stp (tRaise E cls D σ H) (E cls none H) := ⟨fun q => q⟩
end
theorem s_insS {Z : Ad} {L R : List Atom} {H : Hp} {a : Addr} {b : Nat} {n : Str} {P : Prop} (s : Sat Z L H) (f : Fnd L a (SpA Z b) R) (hl : ((n == ("own_bits" : Str)) = false)) (q : P) : ∃ a' dx fs, V.ref a = .ref a' ∧ H a' = some (.ins Z.Space dx fs) ∧ fs.lookup n = none ∧ P := by
  obtain ⟨dx, e, _⟩ := sat_spH s f
  exact ⟨a, dx, _, rfl, e, by simp only [List.lookup, hl], q⟩
theorem h_insS {Z : Ad} {H : Hp} {a : Addr} {b : Nat} {n : Str} {P : Prop} (h : SpH Z H a b) (hl : ((n == ("own_bits" : Str)) = false)) (q : P) : ∃ a' dx fs, V.ref a = .ref a' ∧ H a' = some (.ins Z.Space dx fs) ∧ fs.lookup n = none ∧ P := by
  obtain ⟨dx, e, _⟩ := h
  exact ⟨a, dx, _, rfl, e, by simp only [List.lookup, hl], q⟩
/-- what is known of the class -/
structure CSp (K : PySem.W.Frag) (Z : Ad) : Prop where
  cl : Cls K Z.Space
  na : NoAttr K Z.Space "own_bits"
/-! ### the promises -/
section
variable {K : PySem.W.Frag} {Z : Ad} {L R : List Atom} {H : Hp} {Q : VK} {E : XK} {vs : List V} {X : Addr → Hp → Prop} {xs : List V} {ns : List Int}
def sp_is_whole (_ : PySem.W.Frag) (_ : Ad) : Sp := fun vs H Q _ => ∃ v : V, vs = [v] ∧ Th H v ∧ Q (.bl (wv v)) H
theorem use_whole {v : V} (e : vs = [v]) (h : Th H v) (q : Q (.bl (wv v)) H) : sp_is_whole K Z vs H Q E := ⟨v, e, h, q⟩
def sp_Space___init__ (_ : PySem.W.Frag) (Z : Ad) : Sp := fun vs H Q E => ∃ (x dx : Addr) (v : V), vs = [.ref x, v] ∧ Th H v ∧ H x = some (.ins Z.Space dx []) ∧ (inB 3 33 v = true → Q .non (upd H x (.ins Z.Space dx [("own_bits", v)]))) ∧ (inB 3 33 v = false → E (.ref Z.NoSpace) none H)
/-- Space(b) of a right number -/
theorem use_make {b : Int} {vv : Addr → List V} {R : Addr → Hp → Prop} (e : ∀ x, vv x = [.ref x, .int b]) (s : Sat Z L H) (h1 : 3 ≤ b) (h2 : b ≤ 32) (q : ∀ x H', Sat Z (⟨x, SpA Z b.toNat⟩ :: L) H' → R x H') :
    ∀ x dx, H x = none → H dx = none → dx ≠ x → sp_Space___init__ K Z (vv x) (upd (upd H dx (.own x)) x (.ins Z.Space dx [])) (fun v H3 => v = .non ∧ R x H3) E := by
  intro x dx hx hd ne
  refine ⟨x, dx, .int b, e x, .int, upd_same, fun _ => ⟨rfl, q x _ ?_⟩, fun z => ?_⟩
  · have s1 : Sat Z (⟨dx, Pt (.own x)⟩ :: L) _ := s.new hd (fun _ z => by cases z)
    have s2 : Sat Z (⟨x, Pt (.ins Z.Space dx [])⟩ :: ⟨dx, Pt (.own x)⟩ :: L) _ := s1.new (p := x) (by rw [upd_ne (fun z => ne z.symm)]; exact hx) (fun _ z => by cases z)
    have s3 := s2.put (o' := .ins Z.Space dx [("own_bits", .int b)]) ⟨rfl, fun z => z⟩ rfl
    refine (s3.ent (L' := ⟨x, Pt (.ins Z.Space dx [("own_bits", .int b)])⟩ :: L)).imp1 fun h e => ⟨dx, ?_, by omega, by omega⟩
    have z : ((b.toNat : Nat) : Int) = b := Int.toNat_of_nonneg (by omega)
    rw [z]
    exact e
  · exfalso
    unfold inB at z
    simp only [Bool.and_eq_false_iff, decide_eq_false_iff_not] at z
    omega
def sp_Space_bits (_ : PySem.W.Frag) (Z : Ad) : Sp := fun vs H Q _ => ∃ (a : Addr) (b : Nat), vs = [.ref a] ∧ SpH Z H a b ∧ Q (.int b) H
theorem use_bits {a : Addr} {b : Nat} (e : vs = [.ref a]) (h : SpH Z H a b) (q : Q (.int b) H) : sp_Space_bits K Z vs H Q E := ⟨a, b, e, h, q⟩
def sp_Space_size (_ : PySem.W.Frag) (Z : Ad) : Sp := fun vs H Q _ => ∃ (a : Addr) (b : Nat), vs = [.ref a] ∧ SpH Z H a b ∧ Q (.int (2 ^ b)) H
theorem use_size {a : Addr} {b : Nat} (e : vs = [.ref a]) (h : SpH Z H a b) (q : Q (.int (2 ^ b)) H) : sp_Space_size K Z vs H Q E := ⟨a, b, e, h, q⟩
def sp_Space_has (_ : PySem.W.Frag) (Z : Ad) : Sp := fun vs H Q _ => ∃ (a : Addr) (b : Nat) (v : V), vs = [.ref a, v] ∧ SpH Z H a b ∧ Th H v ∧ Q (.bl (inB 0 (2 ^ b) v)) H
theorem use_has {a : Addr} {b : Nat} {v : V} (e : vs = [.ref a, v]) (h : SpH Z H a b) (h2 : Th H v) (q : Q (.bl (inB 0 (2 ^ b) v)) H) : sp_Space_has K Z vs H Q E := ⟨a, b, v, e, h, h2, q⟩
def sp_Space_distance (_ : PySem.W.Frag) (Z : Ad) : Sp := fun vs H Q _ => ∃ (a : Addr) (b : Nat) (x y : Int), vs = [.ref a, .int x, .int y] ∧ SpH Z H a b ∧ Q (.int ((y - x) % 2 ^ b)) H
theorem use_distance {a : Addr} {b : Nat} {x y : Int} (e : vs = [.ref a, .int x, .int y]) (h : SpH Z H a b) (q : Q (.int ((y - x) % 2 ^ b)) H) : sp_Space_distance K Z vs H Q E := ⟨a, b, x, y, e, h, q⟩
def sp_Space_is_between (_ : PySem.W.Frag) (Z : Ad) : Sp := fun vs H Q _ => ∃ (a : Addr) (b : Nat) (p x y : Int), vs = [.ref a, .int p, .int x, .int y] ∧ SpH Z H a b ∧ Q (.bl (betw (2 ^ b) p x y)) H
theorem use_between {a : Addr} {b : Nat} {p x y : Int} (e : vs = [.ref a, .int p, .int x, .int y]) (h : SpH Z H a b) (q : Q (.bl (betw (2 ^ b) p x y)) H) : sp_Space_is_between K Z vs H Q E := ⟨a, b, p, x, y, e, h, q⟩
/-- the nearest: first of those with the least distance -/
def nearP (m pt : Int) (ns : List Int) (n : Int) : Prop := ∃ i, NL.FirstBest (· < ·) (fun x => (x - pt) % m) ns i n
def precP (m pt : Int) (ns : List Int) (n : Int) : Prop := ∃ i, NL.FirstBest (· < ·) (fun x => (pt - 1 - x) % m) ns i n
def sp_Space_nearest (_ : PySem.W.Frag) (Z : Ad) : Sp := fun vs H Q _ => ∃ (s l : Addr) (b : Nat) (pt : Int) (ns : List Int) (R : List Atom), vs = [.ref s, .ref l, .int pt] ∧ SpH Z H s b ∧ Sat Z (⟨l, LI ns⟩ :: R) H ∧ 0 < ns.length ∧ ∀ n H', nearP (2 ^ b) pt ns n → Sat Z (⟨l, LI ns⟩ :: R) H' → Q (.int n) H'
theorem use_nearest {s l : Addr} {b : Nat} {pt : Int} (e : vs = [.ref s, .ref l, .int pt]) (h : SpH Z H s b) (s' : Sat Z L H) (f : Fnd L l (Pt (.lst xs)) R) (I : IsI xs ns) (hn : 0 < ns.length) (q : ∀ n H', nearP (2 ^ b) pt ns n → Sat Z (⟨l, LI ns⟩ :: R) H' → Q (.int n) H') : sp_Space_nearest K Z vs H Q E := by
  obtain rfl := I.eq
  exact ⟨s, l, b, pt, ns, R, e, h, s'.fnd, hn, q⟩
def sp_Space_preceding (_ : PySem.W.Frag) (Z : Ad) : Sp := fun vs H Q _ => ∃ (s l : Addr) (b : Nat) (pt : Int) (ns : List Int) (R : List Atom), vs = [.ref s, .ref l, .int pt] ∧ SpH Z H s b ∧ Sat Z (⟨l, LI ns⟩ :: R) H ∧ 0 < ns.length ∧ ∀ n H', precP (2 ^ b) pt ns n → Sat Z (⟨l, LI ns⟩ :: R) H' → Q (.int n) H'
theorem use_preceding {s l : Addr} {b : Nat} {pt : Int} (e : vs = [.ref s, .ref l, .int pt]) (h : SpH Z H s b) (s' : Sat Z L H) (f : Fnd L l (Pt (.lst xs)) R) (I : IsI xs ns) (hn : 0 < ns.length) (q : ∀ n H', precP (2 ^ b) pt ns n → Sat Z (⟨l, LI ns⟩ :: R) H' → Q (.int n) H') : sp_Space_preceding K Z vs H Q E := by
  obtain rfl := I.eq
  exact ⟨s, l, b, pt, ns, R, e, h, s'.fnd, hn, q⟩
end
local macro_rules | `(tactic| walk_at "spa") => `(tactic| first | assumption | exact sat_spH (by assumption) inferInstance)
local macro_rules | `(tactic| walk_at "th") => `(tactic| first | exact Th.int | exact Th.bl | exact Th.non | exact Th.str | assumption | exact Th.lst (SatI.at (by assumption)) | exact Th.tup (SatI.at (by assumption)) | exact Th.dK (SatI.at (by assumption)))
local macro_rules | `(tactic| walk_at "call2") => `(tactic| first
  | ((with_reducible refine' use_whole ?e ?h0 ?_); (case e => rfl); (case h0 => walk_at "th"))
  | ((with_reducible refine' use_make ?e ?h0 ?h1 ?h2 ?_); (case e => exact fun _ => rfl); (case h0 => assumption); (case h1 => walk_at "nl"); (case h2 => walk_at "nl"); intro _ _ _)
  | ((with_reducible refine' use_bits ?e ?h0 ?_); (case e => rfl); (case h0 => walk_at "spa"))
  | ((with_reducible refine' use_size ?e ?h0 ?_); (case e => rfl); (case h0 => walk_at "spa"))
  | ((with_reducible refine' use_has ?e ?h0 ?h1 ?_); (case e => rfl); (case h0 => walk_at "spa"); (case h1 => walk_at "th"))
  | ((with_reducible refine' use_distance ?e ?h0 ?_); (case e => rfl); (case h0 => walk_at "spa"))
  | ((with_reducible refine' use_between ?e ?h0 ?_); (case e => rfl); (case h0 => walk_at "spa"))
  | ((with_reducible refine' use_nearest ?e ?h0 ?h1 ?h2 ?h3 ?h4 ?_); (case e => rfl); (case h0 => walk_at "spa"); (case h1 => assumption); (case h2 => infer_instance); (case h3 => infer_instance); (case h4 => walk_at "nl"); intro _ _ _ _)
  | ((with_reducible refine' use_preceding ?e ?h0 ?h1 ?h2 ?h3 ?h4 ?_); (case e => rfl); (case h0 => walk_at "spa"); (case h1 => assumption); (case h2 => infer_instance); (case h3 => infer_instance); (case h4 => walk_at "nl"); intro _ _ _ _)
  | ((with_reducible refine' s_insS ?h0 ?h1 ?h2 ?_); (case h0 => assumption); (case h1 => infer_instance); (case h2 => rfl))
  | ((with_reducible refine' h_insS ?h0 ?h2 ?_); (case h0 => assumption); (case h2 => rfl)))
/-! ### the readings are met -/
def t_is_whole (K : PySem.W.Frag) (Z : Ad) : TS :=
  (tRet (tAndV (tCB (rIsi K) (tCons (tVar 0) (tCons (tC (.ty "int")) tNil))) (tNotV (tCB (rIsi K) (tCons (tVar 0) (tCons (tC (.ty "bool")) tNil))))))
theorem rd_is_whole (K : PySem.W.Frag) (Z : Ad) : ∀ vs H Q E, sp_is_whole K Z vs H Q E → t_is_whole K Z { nx := fun _ H' => Q .non H', rt := Q } (start (["thing"]) vs) H := by
  rintro _ H Q E ⟨v, rfl, h, q⟩
  show t_is_whole K Z _ [some (v)] H
  unfold t_is_whole
  walk_at "go"
  refine isi_int h ?_
  rcases h with ⟨i, rfl⟩ | ⟨b, rfl⟩ | h | ⟨s, rfl⟩ | ⟨a, rfl, hh⟩
  · walk_at "go"
    exact q
  · walk_at "go"
    exact q
  · subst h
    walk_at "go"
    exact q
  · walk_at "go"
    exact q
  · walk_at "go"
    exact q
def t_Space___init__ (K : PySem.W.Frag) (Z : Ad) (E : XK) : TS :=
  (tSeq (tIfS (tOr (tNot (tB (tCl (sp_is_whole K Z) [.pos 0] [] [] 1 0 (fun _ => E0) (tCons (tVar 1) tNil) tNil))) (tNot (tTest (tChain rLe rLe (tC (.int 3)) (tVar 1) (tC (.int 32)))))) (tRaise E (.ref Z.NoSpace)) tNext)
  (sFld K (tVar 0) (tVar 1) "own_bits"))
theorem rd_Space___init__ (K : PySem.W.Frag) (Z : Ad) (C : CSp K Z) : ∀ vs H Q E, sp_Space___init__ K Z vs H Q E → t_Space___init__ K Z E { nx := fun _ H' => Q .non H', rt := Q } (start (["self", "bits"]) vs) H := by
  rintro _ H Q E ⟨x, dx, v, rfl, hv, hx, h1, h2⟩
  show t_Space___init__ K Z E _ [some (.ref x), some (v)] H
  unfold t_Space___init__
  walk_at "on"
  rcases hv with ⟨i, rfl⟩ | ⟨b, rfl⟩ | h | ⟨s, rfl⟩ | ⟨a, rfl, hh⟩
  · walk_at "go"
    have z : ∀ c1 c2 : Bool, c1 = decide (3 ≤ i) → c2 = decide (i ≤ 32) → inB 3 33 (.int i) = (c1 && c2) := by
      rintro _ _ rfl rfl
      show (decide (3 ≤ i) && decide (i < 33)) = _
      congr 1
      apply Bool.eq_iff_iff.mpr
      simp only [decide_eq_true_eq]
      omega
    refine g_ite (fun c1 => ?_) fun c1 => ?_
    · walk_at "go"
      refine g_iteN (fun c2 => ?_) fun c2 => ?_
      · walk_at "go"
        exact h2 (by rw [z _ _ (decide_eq_true c1).symm (decide_eq_false c2).symm]; rfl)
      · walk_at "go"
        exact ⟨x, Z.Space, dx, [], rfl, hx, C.cl, C.na, by show 0 < 1000; decide, h1 (by rw [z _ _ (decide_eq_true c1).symm (decide_eq_true c2).symm]; rfl)⟩
    · walk_at "go"
      exact h2 (by rw [z _ _ (decide_eq_false c1).symm rfl]; rfl)
  · walk_at "go"
    exact h2 rfl
  · subst h
    walk_at "go"
    exact h2 rfl
  · walk_at "go"
    exact h2 rfl
  · walk_at "go"
    exact h2 rfl
def t_Space_bits (K : PySem.W.Frag) (Z : Ad) : TS :=
  (tRet (tFld K (tVar 0) "own_bits"))
theorem rd_Space_bits (K : PySem.W.Frag) (Z : Ad) (C : CSp K Z) : ∀ vs H Q E, sp_Space_bits K Z vs H Q E → t_Space_bits K Z { nx := fun _ H' => Q .non H', rt := Q } (start (["self"]) vs) H := by
  rintro _ H Q E ⟨a, b, rfl, ⟨dx, e, h1, h2⟩, q⟩
  show t_Space_bits K Z _ [some (.ref a)] H
  unfold t_Space_bits
  walk_at "go"
  exact g_fld e C.cl C.na rfl q
def t_Space_size (K : PySem.W.Frag) (Z : Ad) : TS :=
  (tRet (tOp rShl0 (tC (.int 1)) (tFld K (tVar 0) "own_bits")))
theorem rd_Space_size (K : PySem.W.Frag) (Z : Ad) (C : CSp K Z) : ∀ vs H Q E, sp_Space_size K Z vs H Q E → t_Space_size K Z { nx := fun _ H' => Q .non H', rt := Q } (start (["self"]) vs) H := by
  rintro _ H Q E ⟨a, b, rfl, ⟨dx, e, h1, h2⟩, q⟩
  show t_Space_size K Z _ [some (.ref a)] H
  unfold t_Space_size
  walk_at "go"
  refine g_fld e C.cl C.na rfl ?_
  refine g_I (c_pow (by omega) (by omega) (by decide)) ?_
  rw [Int.one_mul, Int.toNat_natCast]
  exact q
def t_Space_has (K : PySem.W.Frag) (Z : Ad) : TS :=
  (tRet (tAndV (tCl (sp_is_whole K Z) [.pos 0] [] [] 1 0 (fun _ => E0) (tCons (tVar 1) tNil) tNil) (tChain rLe rLt (tC (.int 0)) (tVar 1) (tMe Z.Space "size" (sp_Space_size K Z) [.pos 0] [] [] 1 0 (fun _ => E0) (tVar 0) tNil tNil))))
theorem rd_Space_has (K : PySem.W.Frag) (Z : Ad) : ∀ vs H Q E, sp_Space_has K Z vs H Q E → t_Space_has K Z { nx := fun _ H' => Q .non H', rt := Q } (start (["self", "thing"]) vs) H := by
  rintro _ H Q E ⟨a, b, v, rfl, hs, hv, q⟩
  show t_Space_has K Z _ [some (.ref a), some (v)] H
  unfold t_Space_has
  walk_at "go"
  rcases hv with ⟨i, rfl⟩ | ⟨c, rfl⟩ | h | ⟨s, rfl⟩ | ⟨p, rfl, hh⟩
  · have q : Q (.bl (decide (0 ≤ i) && decide (i < 2 ^ b))) H := q
    walk_at "go"
    refine g_ite (fun c1 => ?_) fun c1 => ?_
    · rw [decide_eq_true c1] at q
      walk_at "go"
      exact q
    · rw [decide_eq_false c1] at q
      exact q
  · walk_at "go"
    exact q
  · subst h
    walk_at "go"
    exact q
  · walk_at "go"
    exact q
  · walk_at "go"
    exact q
def t_Space_distance (K : PySem.W.Frag) (Z : Ad) : TS :=
  (tRet (tOp rMod0 (tOp rSub0 (tVar 2) (tVar 1)) (tMe Z.Space "size" (sp_Space_size K Z) [.pos 0] [] [] 1 0 (fun _ => E0) (tVar 0) tNil tNil)))
theorem rd_Space_distance (K : PySem.W.Frag) (Z : Ad) : ∀ vs H Q E, sp_Space_distance K Z vs H Q E → t_Space_distance K Z { nx := fun _ H' => Q .non H', rt := Q } (start (["self", "one", "other"]) vs) H := by
  rintro _ H Q E ⟨a, b, x, y, rfl, hs, q⟩
  have hp := hs.pw
  show t_Space_distance K Z _ [some (.ref a), some (.int x), some (.int y)] H
  unfold t_Space_distance
  walk_at "go"
  exact q
def t_Space_is_between (K : PySem.W.Frag) (Z : Ad) : TS :=
  (tSeq (tAsg (tMe Z.Space "distance" (sp_Space_distance K Z) [.pos 0, .pos 1, .pos 2] [] [] 3 0 (fun _ => E0) (tVar 0) (tCons (tVar 2) (tCons (tVar 1) tNil)) tNil) (gName 4))
  (tRet (tAndV (tOp rGt (tVar 4) (tC (.int 0))) (tOrV (tOp rEq (tVar 2) (tVar 3)) (tOp rLt (tVar 4) (tMe Z.Space "distance" (sp_Space_distance K Z) [.pos 0, .pos 1, .pos 2] [] [] 3 0 (fun _ => E0) (tVar 0) (tCons (tVar 2) (tCons (tVar 3) tNil)) tNil))))))
theorem rd_Space_is_between (K : PySem.W.Frag) (Z : Ad) : ∀ vs H Q E, sp_Space_is_between K Z vs H Q E → t_Space_is_between K Z { nx := fun _ H' => Q .non H', rt := Q } (start (["self", "point", "one", "other", "far"]) vs) H := by
  rintro _ H Q E ⟨a, b, p, x, y, rfl, hs, q⟩
  show t_Space_is_between K Z _ [some (.ref a), some (.int p), some (.int x), some (.int y), none] H
  unfold t_Space_is_between
  walk_at "go"
  unfold betw at q
  refine g_ite (fun h => ?_) fun h => ?_
  · walk_at "go"
    rw [decide_eq_true h, Bool.true_and] at q
    refine g_ite (fun h2 => ?_) fun h2 => ?_
    · rw [decide_eq_true h2] at q; exact q
    · rw [decide_eq_false h2, Bool.false_or] at q
      walk_at "go"
      exact q
  · rw [decide_eq_false h] at q; exact q
def t_Space_nearest (K : PySem.W.Frag) (Z : Ad) : TS :=
  (tRet (NL.tKeyed Z.tabs "Space.nearest.<locals>.<lambda>" 3 (tMe Z.Space "distance" (sp_Space_distance K Z) [.pos 0, .pos 1, .pos 2] [] [] 3 0 (fun _ => E0) (tVar 0) (tCons (tVar 2) (tCons (tVar 3) tNil)) tNil) (tCons (tVar 1) tNil) NL.rMinK))
theorem rd_Space_nearest (K : PySem.W.Frag) (Z : Ad) : ∀ vs H Q E, sp_Space_nearest K Z vs H Q E → t_Space_nearest K Z { nx := fun _ H' => Q .non H', rt := Q } (start (["self", "points", "point", "one"]) vs) H := by
  rintro _ H Q E ⟨s, l, b, pt, ns, R, rfl, hs, s', hn, q⟩
  show t_Space_nearest K Z _ [some (.ref s), some (.ref l), some (.int pt), none] H
  unfold t_Space_nearest
  walk_at "go"
  refine s_minK (sat_addS s' hs) inferInstance inferInstance hn (fun x => (x - pt) % 2 ^ b) (fun c od H2 n hn' h2 => ?_) fun i n H' fb h' => q n H' ⟨i, fb⟩ h'.ent
  dsimp only [List.set]
  walk_at "go"
  exact h2
def t_Space_preceding (K : PySem.W.Frag) (Z : Ad) : TS :=
  (tRet (NL.tKeyed Z.tabs "Space.preceding.<locals>.<lambda>" 3 (tMe Z.Space "distance" (sp_Space_distance K Z) [.pos 0, .pos 1, .pos 2] [] [] 3 0 (fun _ => E0) (tVar 0) (tCons (tVar 3) (tCons (tOp rSub0 (tVar 2) (tC (.int 1))) tNil)) tNil) (tCons (tVar 1) tNil) NL.rMinK))
theorem rd_Space_preceding (K : PySem.W.Frag) (Z : Ad) : ∀ vs H Q E, sp_Space_preceding K Z vs H Q E → t_Space_preceding K Z { nx := fun _ H' => Q .non H', rt := Q } (start (["self", "points", "point", "one"]) vs) H := by
  rintro _ H Q E ⟨s, l, b, pt, ns, R, rfl, hs, s', hn, q⟩
  show t_Space_preceding K Z _ [some (.ref s), some (.ref l), some (.int pt), none] H
  unfold t_Space_preceding
  walk_at "go"
  refine s_minK (sat_addS s' hs) inferInstance inferInstance hn (fun x => (pt - 1 - x) % 2 ^ b) (fun c od H2 n hn' h2 => ?_) fun i n H' fb h' => q n H' ⟨i, fb⟩ h'.ent
  dsimp only [List.set]
  walk_at "go"
  exact h2
end NN
/-! own: clusters of things; dicts, divmod, sets over what is known of the heap; what is never reached -/
namespace NN
open PySem L2
/-! ### clusters -/
theorem Star.perm {S : Addr} {L M : List Atom} (p : L.Perm M) : ∀ {H : Hp}, Star S L H → Star S M H := by
  induction p with
  | nil => exact fun s => s
  | cons a _ ih => exact fun s => s.imp (fun _ x => x) fun _ r => ih r
  | swap a b l => exact fun s => s.swap
  | trans _ _ i1 i2 => exact fun s => i2 (i1 s)
theorem star_app {S : Addr} : ∀ {M L : List Atom} {h1 h2 H : Hp}, Sub h1 H → Sub h2 H → Cmp S h1 h2 → Star S M h1 → Star S L h2 → Star S (M ++ L) H
  | [], L, h1, h2, H, s1, s2, c, _, l => l.mono s2
  | a :: M, L, h1, h2, H, s1, s2, c, m, l => by
    obtain ⟨h3, h4, s3, s4, c2, x, r⟩ := m
    have c42 : Cmp S h4 h2 := c.sub s4 .refl
    refine ⟨h3, jn h4 h2, s3.trans s1, jn_sub (s4.trans s1) s2, ?_, x, star_app (M := M) jn_l (jn_r c42) c42 r l⟩
    exact (Cmp.jn c2.symm (c.sub s3 .refl).symm).symm
theorem star_split {S : Addr} : ∀ {M L : List Atom} {H : Hp}, Star S (M ++ L) H → ∃ h1 h2, Sub h1 H ∧ Sub h2 H ∧ Cmp S h1 h2 ∧ Star S M h1 ∧ Star S L h2
  | [], L, H, s => ⟨(fun _ => none : Hp), H, (fun _ _ e => nomatch e), Sub.refl, (fun _ _ _ e _ => nomatch e), trivial, s⟩
  | a :: M, L, H, s => by
    obtain ⟨h1, h2, s1, s2, c, x, r⟩ := s
    obtain ⟨h3, h4, s3, s4, c2, m, l⟩ := star_split (M := M) r
    have c13 : Cmp S h1 h3 := c.sub .refl s3
    refine ⟨jn h1 h3, h4, jn_sub s1 (s3.trans s2), s4.trans s2, Cmp.jn (c.sub .refl s4) c2, ⟨h1, h3, jn_l, jn_r c13, c13, x, m⟩, l⟩
instance (priority := 90) entApp {M L N : List Atom} [E : Ent L N] : Ent (M ++ L) N := ⟨fun s => by
  obtain ⟨h1, h2, s1, s2, c, m, l⟩ := star_split s
  exact E.fwd (l.mono s2)⟩
instance (priority := 90) fndApp {M L R : List Atom} {p : Addr} {X : Addr → Hp → Prop} [F : Fnd L p X R] : Fnd (M ++ L) p X (M ++ R) := ⟨fun s => by
  obtain ⟨h1, h2, s1, s2, c, m, l⟩ := star_split s
  have := star_app (L := ⟨p, X⟩ :: R) s1 s2 c m (F.fwd l)
  exact this.perm List.perm_middle⟩
section
variable {T : List (Addr × Str)} {S : Addr} {L L' M R : List Atom} {H H' : Hp} {p : Addr} {X Y : Addr → Hp → Prop}
theorem SatI.perm (s : SatI T S L H) (p : L.Perm L') : SatI T S L' H := ⟨s.tabs, s.star.perm p⟩
theorem SatI.flat (s : SatI T S (⟨p, X⟩ :: L) H) (k : ∀ h, X p h → Star S M h) : SatI T S (M ++ L) H := by
  obtain ⟨t, h1, h2, s1, s2, c, x, r⟩ := s
  exact ⟨t, star_app s1 s2 c (k _ x) r⟩
theorem SatI.close (s : SatI T S (M ++ L) H) (k : ∀ h, Star S M h → X p h) : SatI T S (⟨p, X⟩ :: L) H := by
  obtain ⟨h1, h2, s1, s2, c, m, l⟩ := star_split s.star
  exact ⟨s.tabs, h1, h2, s1, s2, c, k _ m, l⟩
/-- a thing that is a cluster: told in the open -/
theorem SatI.opn {α : Type} {P : α → Addr → Hp → Prop} (s : SatI T S (⟨p, X⟩ :: L) H) (k : ∀ h, X p h → ∃ a : α, P a p h) : ∃ a : α, SatI T S (⟨p, P a⟩ :: L) H := by
  obtain ⟨t, h1, h2, s1, s2, c, x, r⟩ := s
  obtain ⟨a, x⟩ := k _ x
  exact ⟨a, t, h1, h2, s1, s2, c, x, r⟩
theorem SatI.pure {P : Prop} (s : SatI T S (⟨p, X⟩ :: L) H) (k : ∀ h, X p h → P) : P := by
  obtain ⟨t, h1, h2, s1, s2, c, x, r⟩ := s
  exact k _ x
end
/-! ### never reached -/
def tNever : TS := fun _ _ _ => False
theorem ps_never {X : Cx} {st : Stmt} : PS X st tNever := ⟨fun _ _ _ _ _ _ h => h.elim⟩
/-! ### divmod of any size -/
def rDivMod : List V → Hp → VK → Prop := fun xs H Q => ∃ i j : Int, xs = [.int i, .int j] ∧ (0 < j ∧ j < 2 ^ 200) ∧ ∀ p, H p = none → Q (.ref p) (upd H p (.tup [.int (i / j), .int (i % j)]))
theorem log2_small {j : Int} (h0 : 0 < j) (h : j < 2 ^ 200) : j.natAbs.log2 < 9000 := by
  have h1 : j.natAbs < 2 ^ 200 := by
    have : (j.natAbs : Int) < 2 ^ 200 := by omega
    exact_mod_cast this
  have h2 : j.natAbs ≠ 0 := by omega
  have := (Nat.log2_lt h2).mpr h1
  omega
theorem call_dm {X : Cx} : CallR X (.builtin "divmod") rDivMod := fun pins s σ H xs us Q I r h => by
  obtain ⟨i, j, e, ⟨h1, h2⟩, q⟩ := h
  exact call_divmodW pins s σ H xs us Q I r ⟨i, j, e, ⟨h1, PyProof.noPylong_of_log2 (log2_small h1 h2)⟩, q⟩
/-! ### sorted(d) -/
def rSortedDI : List V → Hp → VK → Prop := fun xs H Q => ∃ (a : Addr) (kvs : List (Key × V)) (ks : List Int), xs = [.ref a] ∧ Rd H a (.dK kvs) ∧ kvs.map (·.1) = ks.map Sum.inl ∧ ks.length < 64 ∧
    ∀ (ys : List Int) (p : Addr), ys.Perm ks → ys.Pairwise (· ≤ ·) → H p = none → Q (.ref p) (upd H p (.lst (ys.map V.int)))
theorem cr_sortedDI {X : Cx} (hc : X.calm = true) : CallR X (.builtin "sorted") rSortedDI := call_sortedDI hc
theorem _root_.L2.Room.u1 {k : Nat} {A : Around} (r : L2.Room k A) : A.units + 1 < cLine := by have := r.un; omega
section
variable {K : PySem.W.Frag} {Z : Ad} {L R R' : List Atom} {H : Hp} {Q : VK} {p p' : Addr} {X Y : Addr → Hp → Prop} {xs ys : List V} {ns ms : List Int} {v x y : V} {σ : St} {D : Ends} {ta tb td ty tv : TE} {kvs : List (Key × V)} {C dx : Addr} {fs : List (Str × V)} {f : Str}
instance p_never : Stp (tNever D σ H) False := ⟨fun q => q⟩
theorem s_divmod {i j : Int} (s : Sat Z L H) (h0 : 0 < j) (h1 : j < 2 ^ 200) (q : ∀ p H', Sat Z (⟨p, Pt (.tup [.int (i / j), .int (i % j)])⟩ :: L) H' → Q (.ref p) H') : rDivMod [.int i, .int j] H Q :=
  ⟨i, j, rfl, ⟨h0, h1⟩, s_new s (fun _ z => by cases z) q⟩
instance p_lenSetI {ta : TE} : Stp (RZ.tLenSetI K ta σ H Q) (ta σ H fun x H1 => ∃ (l : Addr) (ns : List Int), x = .ref l ∧ SqL K H1 l (ns.map V.int) ∧ ns.Nodup ∧ ns.length ≤ 4000 ∧ Q (.int (ns.length : Nat)) H1) := ⟨fun q => q⟩
theorem s_lenSet (s : Sat Z L H) (f : Fnd L p X R) (d : RdL K X xs) (I : IsI xs ns) (nd : ns.Nodup) (hl : ns.length ≤ 4000) (q : Q (.int (ns.length : Nat)) H) : ∃ (l : Addr) (ns : List Int), V.ref p = .ref l ∧ SqL K H l (ns.map V.int) ∧ ns.Nodup ∧ ns.length ≤ 4000 ∧ Q (.int (ns.length : Nat)) H := by
  obtain rfl := I.eq
  exact ⟨p, ns, rfl, s.sq, nd, hl, q⟩
theorem s_gtup {n : Nat} {t : TGs} {QS : St → Hp → Prop} (s : Sat Z L H) (f : Fnd L p (Pt (.tup xs)) R) (hl : xs.length = n) (q : t xs σ H QS) : gTup K n t (.ref p) σ H QS := ⟨p, xs, rfl, s.st, hl, q⟩
/-! fields -/
theorem s_fld {K : PySem.W.Frag} (s : Sat Z L H) (F : Fnd L p (Pt (.ins C dx fs)) R) (cl : Cls K C) (na : NoAttr K C f) (l : fs.lookup f = some v) (q : Q v H) :
    ∃ a C dx fs v', V.ref p = .ref a ∧ H a = some (.ins C dx fs) ∧ Cls K C ∧ NoAttr K C f ∧ fs.lookup f = some v' ∧ Q v' H := ⟨p, C, dx, fs, v, rfl, s.at, cl, na, l, q⟩
theorem s_ins {m : Str} {P : Prop} (s : Sat Z L H) (F : Fnd L p (Pt (.ins C dx fs)) R) (l : fs.lookup m = none) (q : P) : ∃ a dx fs, V.ref p = .ref a ∧ H a = some (.ins C dx fs) ∧ fs.lookup m = none ∧ P := ⟨p, dx, fs, rfl, s.at, l, q⟩
theorem s_sfld {K : PySem.W.Frag} {N : Hp → Prop} {fs' : List (Str × V)} (s : Sat Z L H) (F : Fnd L p (Pt (.ins C dx fs)) R) (cl : Cls K C) (na : NoAttr K C f) (n : C ≠ Z.Space) (hl : fs.length < 1000) (e : putF f y fs = fs') (q : ∀ H', Sat Z (⟨p, Pt (.ins C dx fs')⟩ :: R) H' → N H') :
    ∃ a C dx fs, V.ref p = .ref a ∧ H a = some (.ins C dx fs) ∧ Cls K C ∧ NoAttr K C f ∧ fs.length < 1000 ∧ N (upd H a (.ins C dx (putF f y fs))) := by
  subst e
  exact ⟨p, C, dx, fs, rfl, s.at, cl, na, hl, q _ (s.fnd.put (mutO_ins n) rfl)⟩
/-! dicts -/
instance p_dget : Stp (tDGet td ty σ H Q) (td σ H fun x H1 => ty σ H1 fun y H2 => ∃ a v, x = .ref a ∧ DGet H2 a y (some v) ∧ Q v H2) := ⟨fun q => q⟩
instance p_din : Stp (tDIn ty td σ H Q) (ty σ H fun y H1 => td σ H1 fun x H2 => ∃ a o, x = .ref a ∧ DGet H2 a y o ∧ Q (.bl o.isSome) H2) := ⟨fun q => q⟩
instance p_dnotin : Stp (tDNotIn ty td σ H Q) (ty σ H fun y H1 => td σ H1 fun x H2 => ∃ a o, x = .ref a ∧ DGet H2 a y o ∧ Q (.bl (!o.isSome)) H2) := ⟨fun q => q⟩
instance p_dput : Stp (sDPut td ty tv D σ H) (tv σ H fun v H1 => td σ H1 fun x H2 => ty σ H2 fun y H3 => ∃ a H4, x = .ref a ∧ DPut H3 a y v H4 ∧ D.nx σ H4) := ⟨fun q => q⟩
instance p_dnewK : Stp (tDNewK σ H Q) (∀ p, H p = none → Q (.ref p) (upd H p (.dK []))) := ⟨fun q => q⟩
instance p_listItems {te : TE} : Stp (LiI.tListItems te σ H Q) (te σ H fun x H1 => LiI.rItemsL x H1 Q) := ⟨fun q => q⟩
/-- a whole number as a key -/
class IsK (y : V) (k : outParam Key) : Prop where
  eq : y = kV k
instance isk_i {n : Int} : IsK (.int n) (.inl n) := ⟨rfl⟩
instance isk_s {z : Str} : IsK (.str z) (.inr z) := ⟨rfl⟩
theorem s_dget {k : Key} (s : Sat Z L H) (f : Fnd L p (Pt (.dK kvs)) R) (I : IsK y k) (e : valV kvs k = some v) (q : Q v H) : ∃ a v', V.ref p = .ref a ∧ DGet H a y (some v') ∧ Q v' H := by
  obtain rfl := I.eq
  exact ⟨p, v, rfl, e ▸ DGet.k s.at, q⟩
theorem s_din {k : Key} (s : Sat Z L H) (f : Fnd L p (Pt (.dK kvs)) R) (I : IsK y k) (q : Q (.bl (valV kvs k).isSome) H) : ∃ a o, V.ref p = .ref a ∧ DGet H a y o ∧ Q (.bl o.isSome) H := by
  obtain rfl := I.eq
  exact ⟨p, _, rfl, DGet.k s.at, q⟩
theorem s_dnotin {k : Key} (s : Sat Z L H) (f : Fnd L p (Pt (.dK kvs)) R) (I : IsK y k) (q : Q (.bl (!(valV kvs k).isSome)) H) : ∃ a o, V.ref p = .ref a ∧ DGet H a y o ∧ Q (.bl (!o.isSome)) H := by
  obtain rfl := I.eq
  exact ⟨p, _, rfl, DGet.k s.at, q⟩
theorem s_dput {N : Hp → Prop} {k : Key} (s : Sat Z L H) (f : Fnd L p (Pt (.dK kvs)) R) (I : IsK y k) (hl : kvs.length < sizeLine) (q : ∀ H', Sat Z (⟨p, Pt (.dK (putK kvs k v))⟩ :: R) H' → N H') : ∃ a H4, V.ref p = .ref a ∧ DPut H a y v H4 ∧ N H4 := by
  obtain rfl := I.eq
  exact ⟨p, _, rfl, DPut.k s.at hl, q _ (s.fnd.put mutO_dK rfl)⟩
theorem s_dnew (s : Sat Z L H) (q : ∀ p H', Sat Z (⟨p, Pt (.dK [])⟩ :: L) H' → Q (.ref p) H') : ∀ p, H p = none → Q (.ref p) (upd H p (.dK [])) := s_new s (fun _ z => by cases z) q
theorem s_list0 (hs : SqL K H p xs) (s : Sat Z L H) (q : ∀ l H', Sat Z (⟨l, Pt (.lst xs)⟩ :: L) H' → Q (.ref l) H') : rListS K [.ref p] H Q := ⟨p, xs, rfl, .inl hs, s_new s (fun _ z => by cases z) q⟩
theorem sat_newD {H' : Hp} (e : upd H p (.dK []) = H') (hp : H p = none) (s : Sat Z L H) : Sat Z (⟨p, Pt (.dK [])⟩ :: L) H' := e ▸ s.new hp (fun _ z => by cases z)
theorem s_sortedD {ks : List Int} (s : Sat Z L H) (f : Fnd L p (Pt (.dK kvs)) R) (e : kvs.map (·.1) = ks.map Sum.inl) (hl : ks.length < 64) (q : ∀ l H', Sat Z (⟨l, Pt (.lst ((srt ks).map V.int))⟩ :: L) H' → Q (.ref l) H') : rSortedDI [.ref p] H Q :=
  ⟨p, kvs, ks, rfl, .inl s.at, e, hl, fun ys l hp hs hl => by rw [srt_eq hp hs]; exact q l _ (s.new hl (fun _ z => by cases z))⟩
/-- list(d.items()) of an empty dict -/
theorem s_items0 (s : Sat Z L H) (e0 : H p = some (.dK [])) (q : ∀ l H', Sat Z (⟨l, Pt (.lst [])⟩ :: L) H' → Q (.ref l) H') : LiI.rItemsL (.ref p) H Q := by
  refine ⟨p, [], rfl, e0, fun H' l ts kp hl _ _ e pr => ?_⟩
  cases pr
  have s1 : Sat Z (⟨l, Pt (.lst [])⟩ :: L) (upd H l (.lst [])) := s.new hl (fun _ z => by cases z)
  refine q l H' (s1.kp fun b o z => ?_)
  by_cases zb : b = l
  · subst zb
    rw [upd_same] at z
    rw [← z]
    exact e
  · rw [upd_ne zb] at z
    exact kp b o z
end
/-! ### dict comprehensions -/
section
variable {K : PySem.W.Frag} {Z : Ad} {L R : List Atom} {H : Hp} {p : Addr} {X : Addr → Hp → Prop} {xs : List V} {σ : St} {g : TG} {tt : TT} {tk tv : TE} {vs : List Nat} {wi : TI} {Q : VK}
instance p_dc : Stp (tDc wi g tt tk tv vs σ H Q) (wi σ H fun J H1 => ∀ D, H1 D = none → ∃ W : Nat → Nat → Hp → Prop, (∃ m, W 0 m (upd H1 D (.dK []))) ∧ ∀ i m H, W i m H →
  (J.stop i H ∧ Q (.ref D) H) ∨ (J.go i H ∧ ∃ Nx : Hp → Prop, (∀ H', Nx H' → ∃ m', m' < m ∧ W (i + 1) m' H') ∧ ∀ x H', J.yld i H x H' → g x (wipe σ vs) H' fun σ2 H2 => wipe σ2 vs = wipe σ vs ∧ tt σ2 H2 fun b H3 =>
    if b = true then tk σ2 H3 fun y H4 => tv σ2 H4 fun z H5 => ∃ kvs k, y = kV k ∧ H5 D = some (.dK kvs) ∧ kvs.length < sizeLine ∧ Nx (upd H5 D (.dK (putK kvs k z))) else Nx H3)) := ⟨fun q => q⟩
/-- over a list that stays -/
theorem dc_list {a : Addr} {H1 : Hp} {D : Addr} {Qd : Hp → Prop} (Pv : Nat → Hp → Prop) (h0 : Pv 0 (upd H1 D (.dK []))) (hl : ∀ i H, i ≤ xs.length → Pv i H → SqL K H a xs)
    (hs : ∀ i x H, xs[i]? = some x → Pv i H → g x (wipe σ vs) H fun σ2 H2 => wipe σ2 vs = wipe σ vs ∧ tt σ2 H2 fun b H3 =>
      if b = true then tk σ2 H3 fun y H4 => tv σ2 H4 fun z H5 => ∃ kvs k, y = kV k ∧ H5 D = some (.dK kvs) ∧ kvs.length < sizeLine ∧ Pv (i + 1) (upd H5 D (.dK (putK kvs k z))) else Pv (i + 1) H3) (hd : ∀ H, Pv xs.length H → Qd H) :
    ∃ W : Nat → Nat → Hp → Prop, (∃ m, W 0 m (upd H1 D (.dK []))) ∧ ∀ i m H, W i m H →
      ((Itl K a).stop i H ∧ Qd H) ∨ ((Itl K a).go i H ∧ ∃ Nx : Hp → Prop, (∀ H', Nx H' → ∃ m', m' < m ∧ W (i + 1) m' H') ∧ ∀ x H', (Itl K a).yld i H x H' → g x (wipe σ vs) H' fun σ2 H2 => wipe σ2 vs = wipe σ vs ∧ tt σ2 H2 fun b H3 =>
        if b = true then tk σ2 H3 fun y H4 => tv σ2 H4 fun z H5 => ∃ kvs k, y = kV k ∧ H5 D = some (.dK kvs) ∧ kvs.length < sizeLine ∧ Nx (upd H5 D (.dK (putK kvs k z))) else Nx H3) := by
  refine ⟨fun i m H => m = xs.length - i ∧ i ≤ xs.length ∧ Pv i H, ⟨xs.length, by simp, Nat.zero_le _, h0⟩, ?_⟩
  rintro i m H ⟨rfl, hi, p⟩
  have q := hl i H hi p
  by_cases hlt : i < xs.length
  · refine .inr ⟨⟨xs, xs[i], q, by simp [hlt]⟩, Pv (i + 1), fun H' p' => ⟨xs.length - (i + 1), by omega, rfl, hlt, p'⟩, fun x H' y => ?_⟩
    obtain ⟨e, y⟩ := y
    subst e
    exact hs i x _ (y xs q) p
  · have e : i = xs.length := by omega
    subst e
    exact .inl ⟨⟨xs, q, Nat.le_refl _⟩, hd H p⟩
/-- .. by an invariant of what is made -/
theorem sdc_list {Qd : Addr → Hp → Prop} (s : Sat Z L H) (f : Fnd L p X R) (d : RdL K X xs) (I : Nat → List (Key × V) → List Atom → Prop) (h0 : I 0 [] R)
    (hs : ∀ D i x kvs L H', xs[i]? = some x → I i kvs L → Sat Z (⟨D, Pt (.dK kvs)⟩ :: ⟨p, X⟩ :: L) H' → g x (wipe σ vs) H' fun σ2 H2 => wipe σ2 vs = wipe σ vs ∧ tt σ2 H2 fun b H3 =>
      if b = true then tk σ2 H3 fun y H4 => tv σ2 H4 fun z H5 => ∃ kvs k, y = kV k ∧ H5 D = some (.dK kvs) ∧ kvs.length < sizeLine ∧ (∃ kvs' L', I (i + 1) kvs' L' ∧ Sat Z (⟨D, Pt (.dK kvs')⟩ :: ⟨p, X⟩ :: L') (upd H5 D (.dK (putK kvs k z)))) else ∃ kvs' L', I (i + 1) kvs' L' ∧ Sat Z (⟨D, Pt (.dK kvs')⟩ :: ⟨p, X⟩ :: L') H3)
    (hd : ∀ D kvs L H', I xs.length kvs L → Sat Z (⟨D, Pt (.dK kvs)⟩ :: ⟨p, X⟩ :: L) H' → Qd D H') :
    ∃ a, V.ref p = .ref a ∧ (∃ xs, SqL K H a xs) ∧ ∀ D, H D = none → ∃ W : Nat → Nat → Hp → Prop, (∃ m, W 0 m (upd H D (.dK []))) ∧ ∀ i m H, W i m H →
      ((Itl K a).stop i H ∧ Qd D H) ∨ ((Itl K a).go i H ∧ ∃ Nx : Hp → Prop, (∀ H', Nx H' → ∃ m', m' < m ∧ W (i + 1) m' H') ∧ ∀ x H', (Itl K a).yld i H x H' → g x (wipe σ vs) H' fun σ2 H2 => wipe σ2 vs = wipe σ vs ∧ tt σ2 H2 fun b H3 =>
        if b = true then tk σ2 H3 fun y H4 => tv σ2 H4 fun z H5 => ∃ kvs k, y = kV k ∧ H5 D = some (.dK kvs) ∧ kvs.length < sizeLine ∧ Nx (upd H5 D (.dK (putK kvs k z))) else Nx H3) := by
  refine ⟨p, rfl, ⟨xs, s.sq⟩, fun D hD => dc_list (xs := xs) (Qd := Qd D) (fun i H' => ∃ kvs L', I i kvs L' ∧ Sat Z (⟨D, Pt (.dK kvs)⟩ :: ⟨p, X⟩ :: L') H') ?_ ?_ ?_ ?_⟩
  · exact ⟨[], R, h0, s.fnd.new hD (fun _ z => by cases z)⟩
  · rintro i H' hi ⟨kvs, L', _, s'⟩
    exact s'.sq
  · rintro i x H' hx ⟨kvs, L', h, s'⟩
    exact hs D i x kvs L' H' hx h s'
  · rintro H' ⟨kvs, L', h, s'⟩
    exact hd D kvs L' H' h s'
/-- a turn that puts -/
theorem sdc_put {D p : Addr} {L L' : List Atom} {X : Addr → Hp → Prop} {kvs : List (Key × V)} {k : Key} {y z : V} {I : Nat → List (Key × V) → List Atom → Prop} {i : Nat} (s : Sat Z L H) (e : Ent L (⟨D, Pt (.dK kvs)⟩ :: ⟨p, X⟩ :: L')) (hk : IsK y k) (hl : kvs.length < sizeLine) (h : I (i + 1) (putK kvs k z) L') :
    ∃ kvs k, y = kV k ∧ H D = some (.dK kvs) ∧ kvs.length < sizeLine ∧ (∃ kvs' L', I (i + 1) kvs' L' ∧ Sat Z (⟨D, Pt (.dK kvs')⟩ :: ⟨p, X⟩ :: L') (upd H D (.dK (putK kvs k z)))) := by
  have s := s.ent (L' := ⟨D, Pt (.dK kvs)⟩ :: ⟨p, X⟩ :: L')
  exact ⟨kvs, k, hk.eq, s.at0, hl, _, _, h, s.put mutO_dK rfl⟩
end
end NN
/-! own: zips, sums, slices over what is known of the heap -/
namespace NN
open PySem L2
theorem cut_last {α : Type} (xs : List α) : cutG xs none (some (-1)) = xs.dropLast := by
  unfold cutG
  rw [HT.sIx_none, List.drop_zero, Nat.sub_zero, List.dropLast_eq_take]
  congr 1
  simp only [HT.sIx]
  rw [if_pos (by decide)]
  omega
theorem cut_lastV (ns : List Int) : cutV (ns.map V.int) none (some (-1)) = (ns.dropLast).map V.int := by rw [cut_map, cut_last]
theorem cut_mid {α : Type} (xs : List α) {i j : Int} (h0 : 0 ≤ i) (h1 : 0 ≤ j) : cutG xs (some i) (some j) = (xs.drop i.toNat).take (j.toNat - i.toNat) := by
  unfold cutG
  simp only [HT.sIx]
  rw [if_neg (by omega), if_neg (by omega)]
  by_cases h2 : i.toNat ≤ xs.length
  · rw [Nat.min_eq_left h2]
    by_cases h3 : j.toNat ≤ xs.length
    · rw [Nat.min_eq_left h3]
    · rw [Nat.min_eq_right (by omega)]
      rw [List.take_of_length_le (l := xs.drop i.toNat) (by rw [List.length_drop]; omega), List.take_of_length_le (l := xs.drop i.toNat) (by rw [List.length_drop]; omega)]
  · rw [Nat.min_eq_right (a := i.toNat) (by omega), List.drop_eq_nil_of_le (by omega), List.drop_eq_nil_of_le (i := i.toNat) (by omega), List.take_nil, List.take_nil]
section
variable {K : PySem.W.Frag} {Z : Ad} {L R R1 R2 : List Atom} {H : Hp} {Q : VK} {p a b : Addr} {X Y : Addr → Hp → Prop} {xs ys : List V} {ns ms : List Int} {v x y : V} {σ : St} {g : TG} {tt : TT} {te : TE} {tl : TA} {vs : List Nat} {D : Ends} {tb : TS}
theorem s_sum (s : Sat Z L H) (f : Fnd L p X R) (d : RdL K X xs) (I : IsI xs ns) (q : Q (.int ns.sum) H) : rSum K [.ref p] H Q := by
  obtain rfl := I.eq
  exact ⟨p, ns, rfl, s.sq, q⟩
/-- xs[:-1] -/
theorem s_slLast (s : Sat Z L H) (f : Fnd L p X R) (d : RdL K X xs) (I : IsI xs ns) (q : ∀ l H', Sat Z (⟨l, Pt (.lst (ns.dropLast.map V.int))⟩ :: L) H' → Q (.ref l) H') : rSlL K (.ref p) none (some (-1)) H Q :=
  s_slL s f d (by rw [I.eq, cut_lastV]; exact q)
theorem s_slMid {i j : Int} (s : Sat Z L H) (f : Fnd L p X R) (d : RdL K X xs) (I : IsI xs ns) (h0 : 0 ≤ i) (h1 : 0 ≤ j) (q : ∀ l H', Sat Z (⟨l, Pt (.lst (((ns.drop i.toNat).take (j.toNat - i.toNat)).map V.int))⟩ :: L) H' → Q (.ref l) H') : rSlL K (.ref p) (some i) (some j) H Q :=
  s_slL s f d (by rw [I.eq, cut_map, cut_mid _ h0 h1]; exact q)
theorem s_ixLast {z : Int} (s : Sat Z L H) (f : Fnd L p X R) (d : RdL K X xs) (I : IsI xs ns) (h : ns.getLast? = some z) (q : Q (.int z) H) : rIxL K (.ref p) (.int (-1)) H Q := by
  obtain rfl := I.eq
  obtain ⟨l, rfl⟩ := List.getLast?_eq_some_iff.mp h
  refine s_ixL s f d ?_ q
  rw [List.map_append]
  exact atI_last _ _
instance p_zip {R : It → Hp → Prop} : Stp (iZip K tl σ H R) (tl σ H fun vs H1 => ∃ a b xs ys, vs = [.ref a, .ref b] ∧ SqL K H1 a xs ∧ SqL K H1 b ys ∧ R (Itz K a b) H1) := ⟨fun q => q⟩
theorem zip_get {i : Nat} {z : Int × Int} : (ns.zip ms)[i]? = some z ↔ ns[i]? = some z.1 ∧ ms[i]? = some z.2 := by
  rw [List.getElem?_zip_eq_some]
/-- over a zip of two lists of whole numbers -/
theorem fm_zip {Qd : Addr → Hp → Prop} (s : Sat Z L H) (f : Fnd L a X R1) (d : RdL K X xs) (I : IsI xs ns) (f2 : Fnd R1 b Y R2) (d2 : RdL K Y ys) (J : IsI ys ms) (P : Int × Int → Bool) (F : Int × Int → V)
    (hs : ∀ D i z T H', (ns.zip ms)[i]? = some z → Sat Z (⟨T, Pt (.tup [.int z.1, .int z.2])⟩ :: ⟨D, Pt (.lst ((((ns.zip ms).take i).filter P).map F))⟩ :: ⟨a, X⟩ :: ⟨b, Y⟩ :: R2) H' → g (.ref T) (wipe σ vs) H' fun σ2 H2 => wipe σ2 vs = wipe σ vs ∧ tt σ2 H2 fun b' H3 =>
      if b' = true then te σ2 H3 fun y H4 => ∃ acc, H4 D = some (.lst acc) ∧ acc.length < sizeLine ∧ Fm Z (⟨a, X⟩ :: ⟨b, Y⟩ :: R2) (ns.zip ms) P F D (i + 1) (upd H4 D (.lst (acc ++ [y]))) else Fm Z (⟨a, X⟩ :: ⟨b, Y⟩ :: R2) (ns.zip ms) P F D (i + 1) H3)
    (hd : ∀ D H', Fm Z (⟨a, X⟩ :: ⟨b, Y⟩ :: R2) (ns.zip ms) P F D (ns.zip ms).length H' → Qd D H') :
    ∃ a' b' xs ys, [V.ref a, V.ref b] = [.ref a', .ref b'] ∧ SqL K H a' xs ∧ SqL K H b' ys ∧ ∀ D, H D = none → ∃ W : Nat → Nat → Hp → Prop, (∃ m, W 0 m (upd H D (.lst []))) ∧ ∀ i m H, W i m H →
  ((Itz K a' b').stop i H ∧ Qd D H) ∨ ((Itz K a' b').go i H ∧ ∃ Nx : Hp → Prop, (∀ H', Nx H' → ∃ m', m' < m ∧ W (i + 1) m' H') ∧ ∀ x H', (Itz K a' b').yld i H x H' → g x (wipe σ vs) H' fun σ2 H2 => wipe σ2 vs = wipe σ vs ∧ tt σ2 H2 fun b H3 =>
    if b = true then te σ2 H3 fun y H4 => ∃ acc, H4 D = some (.lst acc) ∧ acc.length < sizeLine ∧ Nx (upd H4 D (.lst (acc ++ [y]))) else Nx H3) := by
  obtain rfl := I.eq
  obtain rfl := J.eq
  have sw : ∀ {L : List Atom} {H : Hp}, Sat Z (⟨b, Y⟩ :: ⟨a, X⟩ :: L) H → Sat Z (⟨a, X⟩ :: ⟨b, Y⟩ :: L) H := fun s => ⟨s.tabs, s.star.swap⟩
  have s0 : Sat Z (⟨a, X⟩ :: ⟨b, Y⟩ :: R2) H := sw (SatI.fnd (p := b) (L := ⟨a, X⟩ :: R1) (R := ⟨a, X⟩ :: R2) (s.fnd (p := a)))
  have rd : ∀ {D : Addr} {u : HO} {H' : Hp}, Sat Z (⟨D, Pt u⟩ :: ⟨a, X⟩ :: ⟨b, Y⟩ :: R2) H' → SqL K H' a (ns.map V.int) ∧ SqL K H' b (ms.map V.int) := fun s => by
    obtain ⟨h, k, x⟩ := s.tail.head
    obtain ⟨h2, k2, x2⟩ := s.tail.tail.head
    exact ⟨d.rd k x, d2.rd k2 x2⟩
  obtain ⟨h, k, x⟩ := s0.head
  obtain ⟨h2, k2, x2⟩ := s0.tail.head
  refine ⟨a, b, _, _, rfl, d.rd k x, d2.rd k2 x2, fun D hD => ?_⟩
  refine ⟨fun i m H' => m = (ns.zip ms).length - i ∧ i ≤ (ns.zip ms).length ∧ Fm Z (⟨a, X⟩ :: ⟨b, Y⟩ :: R2) (ns.zip ms) P F D i H', ⟨_, rfl, Nat.zero_le _, ⟨s0.new hD (fun _ z => by cases z)⟩⟩, ?_⟩
  rintro i m H' ⟨rfl, hi, ⟨s'⟩⟩
  obtain ⟨qx, qy⟩ := rd s'
  by_cases hlt : i < (ns.zip ms).length
  · obtain ⟨e1, e2⟩ := zip_get.mp (List.getElem?_eq_getElem hlt)
    have f1 : (ns.map V.int)[i]? = some (V.int (ns.zip ms)[i].1) := by rw [List.getElem?_map, e1]; rfl
    have f2 : (ms.map V.int)[i]? = some (V.int (ns.zip ms)[i].2) := by rw [List.getElem?_map, e2]; rfl
    refine .inr ⟨⟨_, _, _, _, qx, qy, f1, f2⟩, Fm Z (⟨a, X⟩ :: ⟨b, Y⟩ :: R2) (ns.zip ms) P F D (i + 1), fun H2 p' => ⟨_, by omega, rfl, hlt, p'⟩, fun v H2 y => ?_⟩
    obtain ⟨T, x', y', rfl, hT, rfl, g1, g2⟩ := y
    have h1 := g1 _ qx
    have h2 := g2 _ qy
    rw [f1] at h1
    rw [f2] at h2
    cases h1
    cases h2
    exact hs D i _ T _ (List.getElem?_eq_getElem hlt) (s'.new hT (fun _ z => by cases z))
  · have e : i = (ns.zip ms).length := by omega
    subst e
    refine .inl ⟨⟨_, _, qx, qy, ?_⟩, hd D H' ⟨s'⟩⟩
    rw [List.length_map, List.length_map]
    have e := List.length_zip (l₁ := ns) (l₂ := ms)
    omega
/-- .. by an invariant of what is made -/
theorem sc_zip {Qd : Addr → Hp → Prop} (s : Sat Z L H) (f : Fnd L a X R1) (d : RdL K X xs) (I : IsI xs ns) (f2 : Fnd R1 b Y R2) (d2 : RdL K Y ys) (J : IsI ys ms) (N : Nat → List V → List Atom → Prop) (h0 : N 0 [] R2)
    (hs : ∀ D i z acc T L H', (ns.zip ms)[i]? = some z → N i acc L → acc.length ≤ i → Sat Z (⟨T, Pt (.tup [.int z.1, .int z.2])⟩ :: ⟨D, Pt (.lst acc)⟩ :: ⟨a, X⟩ :: ⟨b, Y⟩ :: L) H' → g (.ref T) (wipe σ vs) H' fun σ2 H2 => wipe σ2 vs = wipe σ vs ∧ tt σ2 H2 fun b' H3 =>
      if b' = true then te σ2 H3 fun y H4 => ∃ acc, H4 D = some (.lst acc) ∧ acc.length < sizeLine ∧ Cv Z (fun i acc L => ∃ L', L = ⟨a, X⟩ :: ⟨b, Y⟩ :: L' ∧ N i acc L') D (i + 1) (upd H4 D (.lst (acc ++ [y]))) else Cv Z (fun i acc L => ∃ L', L = ⟨a, X⟩ :: ⟨b, Y⟩ :: L' ∧ N i acc L') D (i + 1) H3)
    (hd : ∀ D acc L H', N (ns.zip ms).length acc L → Sat Z (⟨D, Pt (.lst acc)⟩ :: ⟨a, X⟩ :: ⟨b, Y⟩ :: L) H' → Qd D H') :
    ∃ a' b' xs ys, [V.ref a, V.ref b] = [.ref a', .ref b'] ∧ SqL K H a' xs ∧ SqL K H b' ys ∧ ∀ D, H D = none → ∃ W : Nat → Nat → Hp → Prop, (∃ m, W 0 m (upd H D (.lst []))) ∧ ∀ i m H, W i m H →
  ((Itz K a' b').stop i H ∧ Qd D H) ∨ ((Itz K a' b').go i H ∧ ∃ Nx : Hp → Prop, (∀ H', Nx H' → ∃ m', m' < m ∧ W (i + 1) m' H') ∧ ∀ x H', (Itz K a' b').yld i H x H' → g x (wipe σ vs) H' fun σ2 H2 => wipe σ2 vs = wipe σ vs ∧ tt σ2 H2 fun b H3 =>
    if b = true then te σ2 H3 fun y H4 => ∃ acc, H4 D = some (.lst acc) ∧ acc.length < sizeLine ∧ Nx (upd H4 D (.lst (acc ++ [y]))) else Nx H3) := by
  obtain rfl := I.eq
  obtain rfl := J.eq
  have sw : ∀ {L : List Atom} {H : Hp}, Sat Z (⟨b, Y⟩ :: ⟨a, X⟩ :: L) H → Sat Z (⟨a, X⟩ :: ⟨b, Y⟩ :: L) H := fun s => ⟨s.tabs, s.star.swap⟩
  have s0 : Sat Z (⟨a, X⟩ :: ⟨b, Y⟩ :: R2) H := sw (SatI.fnd (p := b) (L := ⟨a, X⟩ :: R1) (R := ⟨a, X⟩ :: R2) (s.fnd (p := a)))
  have rd : ∀ {D : Addr} {u : HO} {L : List Atom} {H' : Hp}, Sat Z (⟨D, Pt u⟩ :: ⟨a, X⟩ :: ⟨b, Y⟩ :: L) H' → SqL K H' a (ns.map V.int) ∧ SqL K H' b (ms.map V.int) := fun s => by
    obtain ⟨h, k, x⟩ := s.tail.head
    obtain ⟨h2, k2, x2⟩ := s.tail.tail.head
    exact ⟨d.rd k x, d2.rd k2 x2⟩
  obtain ⟨h, k, x⟩ := s0.head
  obtain ⟨h2, k2, x2⟩ := s0.tail.head
  refine ⟨a, b, _, _, rfl, d.rd k x, d2.rd k2 x2, fun D hD => ?_⟩
  refine ⟨fun i m H' => m = (ns.zip ms).length - i ∧ i ≤ (ns.zip ms).length ∧ Cv Z (fun i acc L => ∃ L', L = ⟨a, X⟩ :: ⟨b, Y⟩ :: L' ∧ N i acc L') D i H', ⟨_, rfl, Nat.zero_le _, ⟨[], _, ⟨R2, rfl, h0⟩, Nat.le_refl _, s0.new hD (fun _ z => by cases z)⟩⟩, ?_⟩
  rintro i m H' ⟨rfl, hi, ⟨acc, _, ⟨L', rfl, hN⟩, hacc, s'⟩⟩
  obtain ⟨qx, qy⟩ := rd s'
  by_cases hlt : i < (ns.zip ms).length
  · obtain ⟨e1, e2⟩ := zip_get.mp (List.getElem?_eq_getElem hlt)
    have f1 : (ns.map V.int)[i]? = some (V.int (ns.zip ms)[i].1) := by rw [List.getElem?_map, e1]; rfl
    have f2 : (ms.map V.int)[i]? = some (V.int (ns.zip ms)[i].2) := by rw [List.getElem?_map, e2]; rfl
    refine .inr ⟨⟨_, _, _, _, qx, qy, f1, f2⟩, Cv Z (fun i acc L => ∃ L', L = ⟨a, X⟩ :: ⟨b, Y⟩ :: L' ∧ N i acc L') D (i + 1), fun H2 p' => ⟨_, by omega, rfl, hlt, p'⟩, fun v H2 y => ?_⟩
    obtain ⟨T, x', y', rfl, hT, rfl, g1, g2⟩ := y
    have h1 := g1 _ qx
    have h2 := g2 _ qy
    rw [f1] at h1
    rw [f2] at h2
    cases h1
    cases h2
    exact hs D i _ acc T L' _ (List.getElem?_eq_getElem hlt) hN hacc (s'.new hT (fun _ z => by cases z))
  · have e : i = (ns.zip ms).length := by omega
    subst e
    refine .inl ⟨⟨_, _, qx, qy, ?_⟩, hd D acc L' H' hN s'⟩
    rw [List.length_map, List.length_map]
    have e := List.length_zip (l₁ := ns) (l₂ := ms)
    omega
theorem g_bT {A B : Prop} {b : Bool} (h : b = true) (q : A) : if b = true then A else B := by subst h; rw [if_pos rfl]; exact q
theorem g_bF {A B : Prop} {b : Bool} (h : b = false) (q : B) : if b = true then A else B := by subst h; rw [if_neg (by decide)]; exact q
/-- a while loop by an invariant with a measure -/
theorem sw_while {tc : TT} {D : Ends} (I : Nat → St → List Atom → Prop) {m0 : Nat} (s : Sat Z L H) (h0 : I m0 σ L)
    (hs : ∀ m σ L H, I m σ L → Sat Z L H → tc σ H fun b H1 => if b = true then ∃ N : St → Hp → Prop, (∀ σ' H', N σ' H' → ∃ m', m' < m ∧ ∃ L', I m' σ' L' ∧ Sat Z L' H') ∧ tb { D with nx := N, ct := N, bk := D.nx } σ H1 else D.nx σ H1) : tWhile tc tb D σ H :=
  ⟨fun m σ H => ∃ L', I m σ L' ∧ Sat Z L' H, ⟨m0, L, h0, s⟩, fun m σ H ⟨L', h, s'⟩ => hs m σ L' H h s'⟩
theorem g_wN {D : Ends} {W : St → Hp → Prop} (q : tb { D with nx := W, ct := W, bk := D.nx } σ H) : ∃ N : St → Hp → Prop, (∀ σ' H', N σ' H' → W σ' H') ∧ tb { D with nx := N, ct := N, bk := D.nx } σ H := ⟨W, fun _ _ h => h, q⟩
end
end NN
namespace NN
open PySem L2
/-! ### the ring: what it is -/
structure NodeM where
  chain : List Int
  prior : Option Int
  far : List (Option Int)
  things : List (Int × Int × Option Str)
def ov : Option Int → V
  | some i => .int i
  | none => .non
def sv : Option Str → V
  | some i => .str i
  | none => .non
structure RingM where
  bits : Nat
  many : Int
  fixed : List Int
  nodes : List (Int × NodeM)
  stamps : Int
  deeds : List V
def RingM.names (R : RingM) : List Int := R.nodes.map (·.1)
def lk : List (Int × NodeM) → Int → Option NodeM
  | [], _ => none
  | x :: r, i => if x.1 = i then some x.2 else lk r i
theorem lk_mem {ns : List (Int × NodeM)} {i : Int} {nd : NodeM} (h : lk ns i = some nd) : (i, nd) ∈ ns := by
  induction ns with
  | nil => cases h
  | cons x r ih =>
    unfold lk at h
    by_cases e : x.1 = i
    · rw [if_pos e] at h
      cases h
      subst e
      exact List.mem_cons_self
    · rw [if_neg e] at h
      exact List.mem_cons_of_mem _ (ih h)
theorem lk_some {ns : List (Int × NodeM)} {i : Int} (h : i ∈ ns.map (·.1)) : ∃ nd, lk ns i = some nd := by
  induction ns with
  | nil => cases h
  | cons x r ih =>
    unfold lk
    by_cases e : x.1 = i
    · exact ⟨_, if_pos e⟩
    · rw [if_neg e]
      rw [List.map_cons, List.mem_cons] at h
      exact ih (h.resolve_left fun z => e z.symm)
theorem lk_names {ns : List (Int × NodeM)} {i : Int} {nd : NodeM} (h : lk ns i = some nd) : i ∈ ns.map (·.1) := List.mem_map.mpr ⟨_, lk_mem h, rfl⟩
/-- the tables' dict: the nodes stand at ad -/
def nDict (ad : Int → Addr) (ns : List (Int × NodeM)) : List (Key × V) := ns.map fun x => (Sum.inl x.1, V.ref (ad x.1))
theorem nDict_val {ad : Int → Addr} {ns : List (Int × NodeM)} {i : Int} : valV (nDict ad ns) (Sum.inl i : Key) = if i ∈ ns.map (·.1) then some (.ref (ad i)) else none := by
  induction ns with
  | nil => rfl
  | cons x r ih =>
    by_cases e : x.1 = i
    · rw [show nDict ad (x :: r) = (Sum.inl x.1, V.ref (ad x.1)) :: nDict ad r from rfl, valV_pos (by rw [e])]
      subst e
      rw [if_pos (by rw [List.map_cons]; exact List.mem_cons_self)]
    · rw [show nDict ad (x :: r) = (Sum.inl x.1, V.ref (ad x.1)) :: nDict ad r from rfl, valV_neg (fun z => e (Sum.inl.inj z)), ih]
      have e2 : ¬ i = x.1 := fun z => e z.symm
      simp only [List.map_cons, List.mem_cons, e2, false_or]
theorem nDict_keys {ad : Int → Addr} {ns : List (Int × NodeM)} : (nDict ad ns).map (·.1) = (ns.map (·.1)).map Sum.inl := by
  unfold nDict
  rw [List.map_map, List.map_map]
  rfl
/-! ### .. as it stands in the heap -/
def ThX (Z : Ad) (t : List (Int × Int × Option Str)) : Addr → Hp → Prop := fun p h => ∃ ad : Int → Addr, Star Z.Space (⟨p, Pt (.dK (t.map fun x => ((Sum.inl x.1 : Key), V.ref (ad x.1))))⟩ :: t.map fun x => ⟨ad x.1, Pt (.tup [.int x.2.1, sv x.2.2])⟩) h
abbrev nF (c : Addr) (pr : V) (f t : Addr) : List (Str × V) := [("chain", .ref c), ("prior", pr), ("far", .ref f), ("things", .ref t)]
def NodeX (Z : Ad) (nd : NodeM) : Addr → Hp → Prop := fun n h => ∃ dx c f t : Addr, Star Z.Space [⟨n, Pt (.ins Z.Node dx (nF c (ov nd.prior) f t))⟩, ⟨c, LI nd.chain⟩, ⟨f, LV (nd.far.map ov)⟩, ⟨t, ThX Z nd.things⟩] h
structure WfR (R : RingM) : Prop where
  lo : 3 ≤ R.bits
  hi : R.bits ≤ 32
  nd : R.names.Nodup
  rg : ∀ i ∈ R.names, 0 ≤ i ∧ i < 2 ^ R.bits
  ln : R.names.length < 64
  ch : ∀ i nd, lk R.nodes i = some nd → nd.chain.length ≤ 8 ∧ nd.far.length ≤ 32
  fx : R.fixed.length ≤ 8
  my : 1 ≤ R.many ∧ R.many ≤ 4
abbrev rF (R : RingM) (c fx d dn : Addr) : List (Str × V) := [("circle", .ref c), ("many", .int R.many), ("fixed", .ref fx), ("nodes", .ref d), ("stamps", .int R.stamps), ("done", .ref dn)]
def nAtoms (Z : Ad) (ad : Int → Addr) (ns : List (Int × NodeM)) : List Atom := ns.map fun x => ⟨ad x.1, NodeX Z x.2⟩
def rAtoms (Z : Ad) (ad : Int → Addr) (R : RingM) (r dx c fx d dn : Addr) : List Atom :=
  ⟨r, Pt (.ins Z.Ring dx (rF R c fx d dn))⟩ :: ⟨c, SpA Z R.bits⟩ :: ⟨fx, LI R.fixed⟩ :: ⟨dn, LV R.deeds⟩ :: ⟨d, Pt (.dK (nDict ad R.nodes))⟩ :: nAtoms Z ad R.nodes
def RingX (Z : Ad) (ad : Int → Addr) (R : RingM) : Addr → Hp → Prop := fun r h => WfR R ∧ ∃ dx c fx d dn : Addr, Star Z.Space (rAtoms Z ad R r dx c fx d dn) h
theorem star_mem {S : Addr} {a : Atom} : ∀ {L : List Atom} {H : Hp}, a ∈ L → Star S L H → ∃ h, Sub h H ∧ a.X a.p h
  | b :: L, H, m, ⟨h1, h2, s1, s2, c, x, r⟩ => by
    rcases List.mem_cons.mp m with rfl | m
    · exact ⟨h1, s1, x⟩
    · obtain ⟨h, k, y⟩ := star_mem m r
      exact ⟨h, k.trans s2, y⟩
/-- a node as it is seen -/
structure NdV (Z : Ad) (H : Hp) (n dx c f t : Addr) (nd : NodeM) : Prop where
  n : H n = some (.ins Z.Node dx (nF c (ov nd.prior) f t))
  c : H c = some (.lst (nd.chain.map V.int))
  f : H f = some (.lst (nd.far.map ov))
  t : ∃ ad : Int → Addr, H t = some (.dK (nd.things.map fun x => (Sum.inl x.1, V.ref (ad x.1)))) ∧ ∀ x ∈ nd.things, H (ad x.1) = some (.tup [.int x.2.1, sv x.2.2])
theorem nodeX_view {Z : Ad} {nd : NodeM} {n : Addr} {h H : Hp} (k : Sub h H) (x : NodeX Z nd n h) : ∃ dx c f t, NdV Z H n dx c f t nd := by
  obtain ⟨dx, c, f, t, s⟩ := x
  have at0 : ∀ {p o}, (⟨p, Pt o⟩ : Atom) ∈ [⟨n, Pt (.ins Z.Node dx (nF c (ov nd.prior) f t))⟩, ⟨c, LI nd.chain⟩, ⟨f, LV (nd.far.map ov)⟩, ⟨t, ThX Z nd.things⟩] → H p = some o := fun m => by
    obtain ⟨h', k', y⟩ := star_mem m s
    exact k _ _ (k' _ _ y)
  obtain ⟨h', k', ad, y⟩ := star_mem (a := ⟨t, ThX Z nd.things⟩) (by simp) s
  have k'' := k'.trans k
  refine ⟨dx, c, f, t, at0 (by simp), at0 (by simp), at0 (by simp), ad, ?_, fun x hx => ?_⟩
  · obtain ⟨h2, k2, z⟩ := star_mem List.mem_cons_self y
    exact k'' _ _ (k2 _ _ z)
  · obtain ⟨h2, k2, z⟩ := star_mem (List.mem_cons_of_mem _ (List.mem_map.mpr ⟨x, hx, rfl⟩)) y
    exact k'' _ _ (k2 _ _ z)
/-- the ring as it is seen -/
structure RgV (Z : Ad) (H : Hp) (ad : Int → Addr) (R : RingM) (r dx c fx d dn : Addr) : Prop where
  r : H r = some (.ins Z.Ring dx (rF R c fx d dn))
  c : SpH Z H c R.bits
  fx : H fx = some (.lst (R.fixed.map V.int))
  dn : H dn = some (.lst R.deeds)
  d : H d = some (.dK (nDict ad R.nodes))
  nd : ∀ i n, lk R.nodes i = some n → ∃ dx c f t, NdV Z H (ad i) dx c f t n
  wf : WfR R
section
variable {K : PySem.W.Frag} {Z : Ad} {L L' R' : List Atom} {H : Hp} {r n p l : Addr} {ad : Int → Addr} {R : RingM} {nd : NodeM}
theorem ring_view (s : Sat Z L H) (f : Fnd L r (RingX Z ad R) R') : ∃ dx c fx d dn, RgV Z H ad R r dx c fx d dn := by
  obtain ⟨h, k, w, dx, c, fx, d, dn, x⟩ := (s.fnd (p := r)).head
  have at0 : ∀ {p o}, (⟨p, Pt o⟩ : Atom) ∈ rAtoms Z ad R r dx c fx d dn → H p = some o := fun m => by
    obtain ⟨h', k', y⟩ := star_mem m x
    exact k _ _ (k' _ _ y)
  refine ⟨dx, c, fx, d, dn, at0 (by simp [rAtoms]), ?_, at0 (by simp [rAtoms]), at0 (by simp [rAtoms]), at0 (by simp [rAtoms]), fun i n e => ?_, w⟩
  · obtain ⟨h', k', dx2, y, z⟩ := star_mem (a := ⟨c, SpA Z R.bits⟩) (by simp [rAtoms]) x
    exact ⟨dx2, k _ _ (k' _ _ y), z⟩
  · obtain ⟨h', k', y⟩ := star_mem (a := ⟨ad i, NodeX Z n⟩) (by
      unfold rAtoms nAtoms
      iterate 5 refine List.mem_cons_of_mem _ ?_
      exact List.mem_map.mpr ⟨(i, n), lk_mem e, rfl⟩) x
    exact nodeX_view (k'.trans k) y
theorem ring_wf (s : Sat Z L H) (f : Fnd L r (RingX Z ad R) R') : WfR R := by
  obtain ⟨h, k, w, _⟩ := (s.fnd (p := r)).head
  exact w
theorem node_open (s : Sat Z (⟨n, NodeX Z nd⟩ :: L) H) : ∃ dx c f t : Addr, Sat Z (⟨n, Pt (.ins Z.Node dx (nF c (ov nd.prior) f t))⟩ :: ⟨c, LI nd.chain⟩ :: ⟨f, LV (nd.far.map ov)⟩ :: ⟨t, ThX Z nd.things⟩ :: L) H := by
  obtain ⟨t0, h1, h2, s1, s2, c, ⟨dx, c', f, t, x⟩, r⟩ := s
  exact ⟨dx, c', f, t, t0, star_app s1 s2 c x r⟩
theorem node_close {dx c f t : Addr} (s : Sat Z (⟨n, Pt (.ins Z.Node dx (nF c (ov nd.prior) f t))⟩ :: ⟨c, LI nd.chain⟩ :: ⟨f, LV (nd.far.map ov)⟩ :: ⟨t, ThX Z nd.things⟩ :: L) H) : Sat Z (⟨n, NodeX Z nd⟩ :: L) H :=
  SatI.close (M := [⟨n, Pt (.ins Z.Node dx (nF c (ov nd.prior) f t))⟩, ⟨c, LI nd.chain⟩, ⟨f, LV (nd.far.map ov)⟩, ⟨t, ThX Z nd.things⟩]) s fun h m => ⟨dx, c, f, t, m⟩
theorem ring_close {dx c fx d dn : Addr} (w : WfR R) (s : Sat Z (rAtoms Z ad R r dx c fx d dn ++ L) H) : Sat Z (⟨r, RingX Z ad R⟩ :: L) H := SatI.close s fun h m => ⟨w, dx, c, fx, d, dn, m⟩
theorem things0 {t : Addr} (s : Sat Z (⟨t, Pt (.dK [])⟩ :: L) H) : Sat Z (⟨t, ThX Z []⟩ :: L) H :=
  s.imp1 fun h e => ⟨fun _ => 0, h, (fun _ => none : Hp), .refl, (fun _ _ z => nomatch z), (fun _ _ _ _ z => nomatch z), e, trivial⟩
end
def addA (ad : Int → Addr) (n : Int) (a : Addr) : Int → Addr := fun z => if z = n then a else ad z
theorem addA_off {ad : Int → Addr} {ns : List (Int × NodeM)} {n : Int} {a : Addr} (h : n ∉ ns.map (·.1)) : ∀ x ∈ ns, addA ad n a x.1 = ad x.1 := fun x hx => if_neg fun e => h (List.mem_map.mpr ⟨x, hx, e⟩)
theorem nDict_add {ad : Int → Addr} {ns : List (Int × NodeM)} {n : Int} {nd : NodeM} {a : Addr} (h : n ∉ ns.map (·.1)) : putK (nDict ad ns) (Sum.inl n : Key) (.ref a) = nDict (addA ad n a) (ns ++ [(n, nd)]) := by
  rw [putK_new _ (by rw [nDict_val, if_neg h])]
  unfold nDict
  rw [List.map_append]
  congr 1
  · exact List.map_congr_left fun x hx => by rw [addA_off h x hx]
  · show _ = [(Sum.inl n, V.ref (addA ad n a n))]
    unfold addA
    rw [if_pos rfl]
theorem nAtoms_add {Z : Ad} {ad : Int → Addr} {ns : List (Int × NodeM)} {n : Int} {nd : NodeM} {a : Addr} (h : n ∉ ns.map (·.1)) : nAtoms Z (addA ad n a) (ns ++ [(n, nd)]) = nAtoms Z ad ns ++ [⟨a, NodeX Z nd⟩] := by
  unfold nAtoms
  rw [List.map_append]
  congr 1
  · exact List.map_congr_left fun x hx => by rw [addA_off h x hx]
  · show [(⟨addA ad n a n, NodeX Z nd⟩ : Atom)] = _
    unfold addA
    rw [if_pos rfl]
/-! ### what the functions tell -/
theorem best_uniq {f : Int → Int} {ns : List Int} {i j : Nat} {n m : Int} (a : NL.FirstBest (· < ·) f ns i n) (b : NL.FirstBest (· < ·) f ns j m) : n = m := by
  rcases Nat.lt_trichotomy i j with h | h | h
  · exact absurd (b.2.2 i n h a.1) (a.2.1 m (List.mem_of_getElem? b.1))
  · subst h
    exact Option.some.inj (a.1.symm.trans b.1)
  · exact absurd (a.2.2 j m h b.1) (b.2.1 n (List.mem_of_getElem? a.1))
noncomputable def bst (f : Int → Int) (ns : List Int) : Int := open Classical in if h : ∃ n i, NL.FirstBest (· < ·) f ns i n then Classical.choose h else 0
theorem bst_eq {f : Int → Int} {ns : List Int} {i : Nat} {n : Int} (a : NL.FirstBest (· < ·) f ns i n) : n = bst f ns := by
  have h : ∃ n i, NL.FirstBest (· < ·) f ns i n := ⟨n, i, a⟩
  unfold bst
  rw [dif_pos h]
  obtain ⟨j, b⟩ := Classical.choose_spec h
  exact best_uniq a b
noncomputable def nearF (m pt : Int) (ns : List Int) : Int := bst (fun x => (x - pt) % m) ns
noncomputable def precF (m pt : Int) (ns : List Int) : Int := bst (fun x => (pt - 1 - x) % m) ns
theorem nearP_eq {m pt n : Int} {ns : List Int} : nearP m pt ns n → n = nearF m pt ns := fun ⟨_, h⟩ => bst_eq h
theorem precP_eq {m pt n : Int} {ns : List Int} : precP m pt ns n → n = precF m pt ns := fun ⟨_, h⟩ => bst_eq h
theorem nearP_is {m pt : Int} {ns : List Int} (h : 0 < ns.length) : nearP m pt ns (nearF m pt ns) := by
  obtain ⟨n, h1, h2, h3, h4⟩ := NL.best_min (key := fun x => (x - pt) % m) (ns := ns) (ns.length - 1) (by omega)
  have fb : NL.FirstBest (· < ·) (fun x => (x - pt) % m) ns _ n := ⟨h2, fun x hx => by
    obtain ⟨j, hj⟩ := List.mem_iff_getElem?.mp hx
    have := h3 j x (by have := (List.getElem?_eq_some_iff.mp hj).1; omega) hj
    exact Int.not_lt.mpr this, h4⟩
  rw [show nearF m pt ns = n from (bst_eq fb).symm]
  exact ⟨_, fb⟩
theorem precP_is {m pt : Int} {ns : List Int} (h : 0 < ns.length) : precP m pt ns (precF m pt ns) := by
  obtain ⟨n, h1, h2, h3, h4⟩ := NL.best_min (key := fun x => (pt - 1 - x) % m) (ns := ns) (ns.length - 1) (by omega)
  have fb : NL.FirstBest (· < ·) (fun x => (pt - 1 - x) % m) ns _ n := ⟨h2, fun x hx => by
    obtain ⟨j, hj⟩ := List.mem_iff_getElem?.mp hx
    have := h3 j x (by have := (List.getElem?_eq_some_iff.mp hj).1; omega) hj
    exact Int.not_lt.mpr this, h4⟩
  rw [show precF m pt ns = n from (bst_eq fb).symm]
  exact ⟨_, fb⟩
def upwP (m pt : Int) (ns : List Int) : List Int := NL.sortK (fun n => (n - pt) % m) ns
def othP (m nm : Int) (ns : List Int) : List Int := (upwP m nm ns).filter fun n => !decide (n = nm)
def farP (m nm : Int) (k : Nat) : Int := (nm + 2 ^ k) % m
noncomputable def farN (b : Nat) (nm : Int) (ns : List Int) : List Int := (List.range b).map fun k => nearF (2 ^ b) (farP (2 ^ b) nm k) ns
noncomputable def rightN (b : Nat) (ns : List Int) (nm many : Int) : NodeM := ⟨(othP (2 ^ b) nm ns).take many.toNat, some (precF (2 ^ b) nm ns), (farN b nm ns).map some, []⟩
noncomputable def newR (b : Nat) (many : Int) (ns : List Int) : RingM := ⟨b, many, srt ns, (srt ns).map fun n => (n, rightN b (srt ns) n many), 0, []⟩
theorem newR_names {b : Nat} {many : Int} {ns : List Int} : (newR b many ns).names = srt ns := by
  show ((srt ns).map fun n => (n, rightN b (srt ns) n many)).map (·.1) = srt ns
  rw [List.map_map]
  exact List.map_id' _
theorem othP_len {m nm : Int} {ns : List Int} : (othP m nm ns).length ≤ ns.length := Nat.le_trans (List.length_filter_le _ _) (Nat.le_of_eq (List.length_mergeSort _))
theorem lk_map {F : Int → NodeM} {ns : List Int} {i : Int} {nd : NodeM} (h : lk (ns.map fun n => (n, F n)) i = some nd) : i ∈ ns ∧ nd = F i := by
  induction ns with
  | nil => cases h
  | cons n r ih =>
    rw [List.map_cons] at h
    unfold lk at h
    by_cases e : n = i
    · subst e
      rw [if_pos rfl] at h
      exact ⟨List.mem_cons_self, (Option.some.inj h).symm⟩
    · rw [if_neg e] at h
      exact ⟨List.mem_cons_of_mem _ (ih h).1, (ih h).2⟩
theorem lk_mapI {F : Int → NodeM} {ns : List Int} {i : Int} (h : i ∈ ns) : lk (ns.map fun n => (n, F n)) i = some (F i) := by
  obtain ⟨nd, e⟩ := lk_some (ns := ns.map fun n => (n, F n)) (i := i) (by rw [List.map_map]; exact List.mem_map.mpr ⟨i, h, rfl⟩)
  rw [e, (lk_map e).2]
theorem newR_wf {b : Nat} {many : Int} {ns : List Int} (hb : 3 ≤ b ∧ b ≤ 32) (hk : 1 ≤ many ∧ many ≤ 4) (hn : ns.length ≤ 8) (h1 : InSp (2 ^ b) ns) (h2 : ns.Nodup) : WfR (newR b many ns) := by
  have hp := srt_perm ns
  have hl := hp.length_eq
  refine ⟨hb.1, hb.2, ?_, fun i hi => ?_, ?_, fun i nd h => ?_, ?_, hk⟩
  · rw [newR_names]; exact hp.nodup_iff.mpr h2
  · rw [newR_names] at hi
    exact h1 i (hp.mem_iff.mp hi)
  · rw [newR_names, hl]; omega
  · obtain ⟨_, rfl⟩ := lk_map h
    refine ⟨?_, ?_⟩
    · show ((othP (2 ^ b) i (srt ns)).take many.toNat).length ≤ 8
      rw [List.length_take]
      have := othP_len (m := 2 ^ b) (nm := i) (ns := srt ns)
      omega
    · show ((farN b i (srt ns)).map some).length ≤ 32
      unfold farN
      rw [List.length_map, List.length_map, List.length_range]
      exact hb.2
  · show (srt ns).length ≤ 8
    omega
def firstOf : List Int → List Int → Option Int
  | [], _ => none
  | n :: r, ms => if n ∈ ms then some n else firstOf r ms
end NN
namespace NN
open PySem L2
local macro_rules | `(tactic| walk_at "nl") => `(tactic| first | with_reducible assumption | omega | (simp only [List.length_map, List.length_cons, List.length_nil, List.length_append, List.length_reverse, List.length_take, List.length_drop] <;> omega) | decide)
local macro_rules | `(tactic| walk_at "ar") => `(tactic| first | omega | (simp only [List.length_cons, List.length_nil] <;> omega) | (simp only [List.length_cons, List.length_nil, List.length_append, List.length_map, List.length_set, List.length_take, List.length_drop, List.length_reverse] <;> omega) | decide)
local macro_rules | `(tactic| walk_at "cond") => `(tactic| first | assumption | exact c_mulB | (exact c_mulL (by walk_at "nl") (by walk_at "nl")) | (exact c_mulR (by walk_at "nl") (by walk_at "nl")) | (exact c_divW (by walk_at "nl") (by walk_at "nl")) | (exact c_pow (by walk_at "nl") (by walk_at "nl") (by walk_at "nl")) | walk_at "nl")
local macro_rules | `(tactic| walk_at "sz") => `(tactic| first | exact sz_small (by simp only [List.length_cons, List.length_nil]; decide) | exact sz_small (by decide) | exact sz_small (by walk_at "ar"))
local macro_rules | `(tactic| walk_at "sl") => `(tactic| first | exact sz_less (by walk_at "ar"))
local macro_rules | `(tactic| walk_at "at") => `(tactic| first | assumption | exact at_0 | exact at_1 | exact at_2 | exact at_3 | exact at_4 | exact at_5 | exact at_6 | exact at_7 | exact at_8 | exact at_9 | exact at_10 | exact at_11 | exact at_12 | exact at_13 | exact at_14 | exact at_15 | exact atI_nat (by assumption))
local macro_rules | `(tactic| walk_at "flat") => `(tactic| first | exact ints_flat _ | rfl | assumption | decide)
local macro_rules | `(tactic| walk_at "ixn") => `(tactic| first | with_unfolding_all rfl | exact ixN_lit (j := 0) rfl (by walk_at "ar") | exact ixN_nat (by walk_at "ar"))
local macro_rules | `(tactic| walk_at "sat") => `(tactic| first | assumption | exact SatI.ent (by assumption))
local macro_rules | `(tactic| walk_at "hat") => `(tactic| first | with_reducible assumption | exact SatI.at (by assumption))
local macro_rules | `(tactic| walk_at "lt") => `(tactic| first | decide | (simp only [List.length_cons, List.length_nil]; decide))
local macro_rules | `(tactic| walk_at "putf") => `(tactic| (simp (decide := true) only [putF, if_true, if_false]) <;> rfl)
local macro_rules | `(tactic| walk_at "lkr") => `(tactic| exact fun _ _ _ _ => rfl)
local macro_rules | `(tactic| walk_at "ok") => `(tactic| first | assumption | decide +kernel)
local macro_rules | `(tactic| walk_at "lkk") => `(tactic| exact fun _ => rfl)
local macro_rules | `(tactic| walk_at "lkf") => `(tactic| exact fun _ _ => rfl)
local macro_rules | `(tactic| walk_at "dval") => `(tactic| first | assumption | rfl)
local macro_rules | `(tactic| walk_at "fm") => `(tactic| first | exact fm_yes (by assumption) (by first | rfl | assumption) rfl (by assumption) inferInstance (by walk_at "ar") | exact fm_no (by assumption) (by first | rfl | assumption) (by assumption) inferInstance)
local macro_rules | `(tactic| walk_at "call") => `(tactic| fail)
local macro_rules | `(tactic| walk_at "call2") => `(tactic| fail)
local macro_rules | `(tactic| walk_at "go1") => `(tactic| first | ((with_reducible refine Stp.imp ?_)) | (((with_reducible refine' g_eqc ?h0 ?_); (case h0 => rfl))) | (((with_reducible refine' g_I ?h0 ?_); (case h0 => walk_at "cond"))) | (((with_reducible refine' g_eq ?h0 ?_); (case h0 => with_unfolding_all rfl))) | (((with_reducible refine' g_ne ?h0 ?_); (case h0 => with_unfolding_all rfl))) | (((with_reducible refine' g_sz ?h0 ?_); (case h0 => walk_at "sz"); intro p hp; generalize hg : upd _ p _ = H2; (first | have hs := sat_newLI hg hp (by with_reducible assumption) inferInstance | have hs := sat_newL hg hp (by with_reducible assumption) | have hs := sat_newT hg hp (by with_reducible assumption)); clear hg hp)) | (((with_reducible refine' s_lenI ?h0 ?h1 ?h2 ?h3 ?_); (case h0 => with_reducible assumption); (case h1 => infer_instance); (case h2 => infer_instance); (case h3 => infer_instance))) | (((with_reducible refine' s_lenL ?h0 ?h1 ?h2 ?_); (case h0 => with_reducible assumption); (case h1 => infer_instance); (case h2 => infer_instance))) | (((with_reducible refine' s_lenT ?h0 ?h1 ?_); (case h0 => with_reducible assumption); (case h1 => infer_instance))) | (((with_reducible refine' s_listL ?h0 ?h1 ?h2 ?_); (case h0 => with_reducible assumption); (case h1 => infer_instance); (case h2 => infer_instance); intro _ _ _)) | (((with_reducible refine' s_listT ?h0 ?h1 ?_); (case h0 => with_reducible assumption); (case h1 => infer_instance); intro _ _ _)) | (((with_reducible refine' s_slTo ?h0 ?h1 ?h2 ?h3 ?h4 ?_); (case h0 => with_reducible assumption); (case h1 => infer_instance); (case h2 => infer_instance); (case h3 => infer_instance); (case h4 => walk_at "nl"); intro _ _ _)) | (((with_reducible refine' s_slFrom ?h0 ?h1 ?h2 ?h3 ?h4 ?_); (case h0 => with_reducible assumption); (case h1 => infer_instance); (case h2 => infer_instance); (case h3 => infer_instance); (case h4 => walk_at "nl"); intro _ _ _)) | (((with_reducible refine' s_slLast ?h0 ?h1 ?h2 ?h3 ?_); (case h0 => with_reducible assumption); (case h1 => infer_instance); (case h2 => infer_instance); (case h3 => infer_instance); intro _ _ _)) | (((with_reducible refine' s_slMid ?h0 ?h1 ?h2 ?h3 ?h4 ?h5 ?_); (case h0 => with_reducible assumption); (case h1 => infer_instance); (case h2 => infer_instance); (case h3 => infer_instance); (case h4 => walk_at "nl"); (case h5 => walk_at "nl"); intro _ _ _)) | (((with_reducible refine' s_sum ?h0 ?h1 ?h2 ?h3 ?_); (case h0 => with_reducible assumption); (case h1 => infer_instance); (case h2 => infer_instance); (case h3 => infer_instance))) | (((with_reducible refine' s_slL ?h0 ?h1 ?h2 ?_); (case h0 => with_reducible assumption); (case h1 => infer_instance); (case h2 => infer_instance); intro _ _ _)) | (((with_reducible refine' s_ixL ?h0 ?h1 ?h2 ?h3 ?_); (case h0 => with_reducible assumption); (case h1 => infer_instance); (case h2 => infer_instance); (case h3 => walk_at "at"))) | (((with_reducible refine' s_ixLast ?h0 ?h1 ?h2 ?h3 ?h4 ?_); (case h0 => with_reducible assumption); (case h1 => infer_instance); (case h2 => infer_instance); (case h3 => infer_instance); (case h4 => assumption))) | (((with_reducible refine' s_ixIn ?h0 ?h1 ?h2 ?h3 ?h4 ?h5 ?_); (case h0 => with_reducible assumption); (case h1 => infer_instance); (case h2 => infer_instance); (case h3 => infer_instance); (case h4 => walk_at "nl"); (case h5 => walk_at "nl"); intro n hn; (try simp only [List.mem_cons, List.not_mem_nil, or_false] at hn))) | (((with_reducible refine' s_ixT ?h0 ?h1 ?h2 ?_); (case h0 => with_reducible assumption); (case h1 => infer_instance); (case h2 => walk_at "at"))) | (((with_reducible refine' s_inI ?h0 ?h1 ?h2 ?h3 ?_); (case h0 => with_reducible assumption); (case h1 => infer_instance); (case h2 => infer_instance); (case h3 => infer_instance))) | (((with_reducible refine' s_ninI ?h0 ?h1 ?h2 ?h3 ?_); (case h0 => with_reducible assumption); (case h1 => infer_instance); (case h2 => infer_instance); (case h3 => infer_instance))) | (((with_reducible refine' s_in ?h0 ?h1 ?h2 ?h3 ?h4 ?_); (case h0 => with_reducible assumption); (case h1 => infer_instance); (case h2 => infer_instance); (case h3 => with_unfolding_all rfl); (case h4 => walk_at "flat"))) | (((with_reducible refine' s_setLI ?h0 ?h1 ?h2 ?h3 ?_); (case h0 => with_reducible assumption); (case h1 => infer_instance); (case h2 => infer_instance); (case h3 => walk_at "ixn"); intro _ _)) | (((with_reducible refine' s_setL ?h0 ?h1 ?h2 ?_); (case h0 => with_reducible assumption); (case h1 => infer_instance); (case h2 => with_unfolding_all rfl); intro _ _)) | (((with_reducible refine' s_appendI ?h0 ?h1 ?h2 ?h3 ?_); (case h0 => with_reducible assumption); (case h1 => infer_instance); (case h2 => infer_instance); (case h3 => walk_at "sl"); intro _ _)) | (((with_reducible refine' s_append ?h0 ?h1 ?h2 ?_); (case h0 => with_reducible assumption); (case h1 => infer_instance); (case h2 => walk_at "sl"); intro _ _)) | (((with_reducible refine' s_tyL ?h0 ?h1 ?h2 ?_); (case h0 => with_reducible assumption); (case h1 => infer_instance); (case h2 => infer_instance))) | (((with_reducible refine' s_catI ?h0 ?h1 ?h2 ?h3 ?h4 ?h5 ?_); (case h0 => with_reducible assumption); (case h1 => infer_instance); (case h2 => infer_instance); (case h3 => infer_instance); (case h4 => infer_instance); (case h5 => walk_at "sz"); intro _ _ _)) | (((with_reducible refine' s_cat ?h0 ?h1 ?h2 ?h3 ?_); (case h0 => with_reducible assumption); (case h1 => infer_instance); (case h2 => infer_instance); (case h3 => walk_at "sz"); intro _ _ _)) | (((with_reducible refine' s_sorted ?h0 ?h1 ?h2 ?h3 ?_); (case h0 => with_reducible assumption); (case h1 => infer_instance); (case h2 => infer_instance); (case h3 => infer_instance); intro _ _ _)) | (((with_reducible refine' s_eqL ?h0 ?h1 ?h2 ?h3 ?h4 ?h5 ?h6 ?_); (case h0 => with_reducible assumption); (case h1 => infer_instance); (case h2 => infer_instance); (case h3 => infer_instance); (case h4 => infer_instance); (case h5 => infer_instance); (case h6 => infer_instance))) | (((with_reducible refine' s_neL ?h0 ?h1 ?h2 ?h3 ?h4 ?h5 ?h6 ?_); (case h0 => with_reducible assumption); (case h1 => infer_instance); (case h2 => infer_instance); (case h3 => infer_instance); (case h4 => infer_instance); (case h5 => infer_instance); (case h6 => infer_instance))) | (((with_reducible refine' s_isLL ?h0 ?h1 ?_); (case h0 => with_reducible assumption); (case h1 => infer_instance))) | (((with_reducible refine' s_revI ?h0 ?h1 ?h2 ?h3 ?_); (case h0 => with_reducible assumption); (case h1 => infer_instance); (case h2 => infer_instance); (case h3 => infer_instance); intro _ _ _)) | (((with_reducible refine' s_revL ?h0 ?h1 ?h2 ?_); (case h0 => with_reducible assumption); (case h1 => infer_instance); (case h2 => infer_instance); intro _ _ _)) | (((with_reducible refine' s_insertI ?h0 ?h1 ?h2 ?h3 ?h4 ?h5 ?_); (case h0 => with_reducible assumption); (case h1 => infer_instance); (case h2 => infer_instance); (case h3 => walk_at "sl"); (case h4 => walk_at "nl"); (case h5 => walk_at "nl"); intro _ _)) | (((with_reducible refine' s_all ?h0 ?h1 ?_); (case h0 => with_reducible assumption); (case h1 => infer_instance))) | (((with_reducible refine' s_any ?h0 ?h1 ?_); (case h0 => with_reducible assumption); (case h1 => infer_instance))) | (((with_reducible refine' s_idx ?h0 ?h1 ?h2 ?h3 ?h4 ?_); (case h0 => with_reducible assumption); (case h1 => infer_instance); (case h2 => infer_instance); (case h3 => infer_instance); (case h4 => assumption))) | (((with_reducible refine' g_fld ?h0 ?h1 ?h2 ?h3 ?_); (case h0 => walk_at "hat"); (case h1 => with_reducible assumption); (case h2 => with_reducible assumption); (case h3 => with_unfolding_all rfl))) | (((with_reducible refine' s_sfld ?h0 ?h1 ?h2 ?h3 ?h4 ?h5 ?h6 ?_); (case h0 => with_reducible assumption); (case h1 => infer_instance); (case h2 => with_reducible assumption); (case h3 => with_reducible assumption); (case h4 => with_reducible assumption); (case h5 => walk_at "lt"); (case h6 => walk_at "putf"); intro _ _)) | (((with_reducible refine' s_ins ?h0 ?h1 ?h2 ?_); (case h0 => with_reducible assumption); (case h1 => infer_instance); (case h2 => with_unfolding_all rfl))) | (((with_reducible refine' s_dget ?h0 ?h1 ?h2 ?h3 ?_); (case h0 => with_reducible assumption); (case h1 => infer_instance); (case h2 => infer_instance); (case h3 => walk_at "dval"))) | (((with_reducible refine' s_din ?h0 ?h1 ?h2 ?_); (case h0 => with_reducible assumption); (case h1 => infer_instance); (case h2 => infer_instance))) | (((with_reducible refine' s_dnotin ?h0 ?h1 ?h2 ?_); (case h0 => with_reducible assumption); (case h1 => infer_instance); (case h2 => infer_instance))) | (((with_reducible refine' s_dput ?h0 ?h1 ?h2 ?h3 ?_); (case h0 => with_reducible assumption); (case h1 => infer_instance); (case h2 => infer_instance); (case h3 => walk_at "sl"); intro _ _)) | ((intro p hp; generalize hg : upd _ p (HO.dK []) = H2; have hs := sat_newD hg hp (by with_reducible assumption); clear hg hp)) | (((with_reducible refine' s_divmod ?h0 ?h1 ?h2 ?_); (case h0 => with_reducible assumption); (case h1 => walk_at "nl"); (case h2 => walk_at "nl"); intro _ _ _)) | (((with_reducible refine' s_gtup ?h0 ?h1 ?h2 ?_); (case h0 => with_reducible assumption); (case h1 => infer_instance); (case h2 => with_unfolding_all rfl))) | walk_at "call" | walk_at "call2")
local macro_rules | `(tactic| walk_at "go") => `(tactic| (repeat walk_at "go1"); (try dsimp only))
local macro_rules | `(tactic| walk_at "on") => `(tactic| (with_reducible refine g_seq ?_); walk_at "go")
local macro_rules | `(tactic| walk_at "ifs") => `(tactic| ((try simp only [List.length_map]) <;> (repeat' split) <;> omega))
local macro_rules | `(tactic| walk_at "spa") => `(tactic| first | assumption | exact sat_spH (by assumption) inferInstance)
local macro_rules | `(tactic| walk_at "th") => `(tactic| first | exact Th.int | exact Th.bl | exact Th.non | exact Th.str | assumption | exact Th.lst (SatI.at (by assumption)) | exact Th.tup (SatI.at (by assumption)) | exact Th.dK (SatI.at (by assumption)))
local macro_rules | `(tactic| walk_at "call2") => `(tactic| first
  | ((with_reducible refine' use_whole ?e ?h0 ?_); (case e => rfl); (case h0 => walk_at "th"))
  | ((with_reducible refine' use_make ?e ?h0 ?h1 ?h2 ?_); (case e => exact fun _ => rfl); (case h0 => assumption); (case h1 => walk_at "nl"); (case h2 => walk_at "nl"); intro _ _ _)
  | ((with_reducible refine' use_bits ?e ?h0 ?_); (case e => rfl); (case h0 => walk_at "spa"))
  | ((with_reducible refine' use_size ?e ?h0 ?_); (case e => rfl); (case h0 => walk_at "spa"))
  | ((with_reducible refine' use_has ?e ?h0 ?h1 ?_); (case e => rfl); (case h0 => walk_at "spa"); (case h1 => walk_at "th"))
  | ((with_reducible refine' use_distance ?e ?h0 ?_); (case e => rfl); (case h0 => walk_at "spa"))
  | ((with_reducible refine' use_between ?e ?h0 ?_); (case e => rfl); (case h0 => walk_at "spa"))
  | ((with_reducible refine' use_nearest ?e ?h0 ?h1 ?h2 ?h3 ?h4 ?_); (case e => rfl); (case h0 => walk_at "spa"); (case h1 => assumption); (case h2 => infer_instance); (case h3 => infer_instance); (case h4 => walk_at "nl"); intro _ _ _ _)
  | ((with_reducible refine' use_preceding ?e ?h0 ?h1 ?h2 ?h3 ?h4 ?_); (case e => rfl); (case h0 => walk_at "spa"); (case h1 => assumption); (case h2 => infer_instance); (case h3 => infer_instance); (case h4 => walk_at "nl"); intro _ _ _ _)
  | ((with_reducible refine' s_insS ?h0 ?h1 ?h2 ?_); (case h0 => assumption); (case h1 => infer_instance); (case h2 => rfl))
  | ((with_reducible refine' h_insS ?h0 ?h2 ?_); (case h0 => assumption); (case h2 => rfl)))
/-- what is known of the classes -/
structure CRg (K : PySem.W.Frag) (Z : Ad) : Prop where
  cl : Cls K Z.Ring
  na1 : NoAttr K Z.Ring "circle"
  na2 : NoAttr K Z.Ring "many"
  na3 : NoAttr K Z.Ring "fixed"
  na4 : NoAttr K Z.Ring "nodes"
  na5 : NoAttr K Z.Ring "stamps"
  na6 : NoAttr K Z.Ring "done"
  cn : Cls K Z.Node
  nn1 : NoAttr K Z.Node "chain"
  nn2 : NoAttr K Z.Node "prior"
  nn3 : NoAttr K Z.Node "far"
  nn4 : NoAttr K Z.Node "things"
  neR : Z.Ring ≠ Z.Space
  neN : Z.Node ≠ Z.Space
theorem ov_some {n : Int} : ov (some n) = .int n := rfl
theorem ov_none : ov none = .non := rfl
class IsO (xs : List V) (os : outParam (List (Option Int))) : Prop where
  eq : xs = os.map ov
instance iso_o {os : List (Option Int)} : IsO (os.map ov) os := ⟨rfl⟩
instance iso_i {ns : List Int} : IsO (ns.map V.int) (ns.map some) := ⟨by rw [List.map_map]; rfl⟩
class IsOv (x : V) (o : outParam (Option Int)) : Prop where
  eq : x = ov o
instance isov_i {n : Int} : IsOv (.int n) (some n) := ⟨rfl⟩
instance isov_n : IsOv .non none := ⟨rfl⟩
instance isov_o {o : Option Int} : IsOv (ov o) o := ⟨rfl⟩
instance isi_ov {ns : List Int} : IsI ((ns.map some).map ov) ns := ⟨by rw [List.map_map]; rfl⟩
instance isi_consO {n : Int} {xs : List V} {ns : List Int} [I : IsI xs ns] : IsI (ov (some n) :: xs) (n :: ns) := ⟨by rw [I.eq]; rfl⟩
def memV (R : RingM) : V → Bool
  | .int i => decide (i ∈ R.names)
  | _ => false
section
variable {K : PySem.W.Frag} {Z : Ad} {L R R1 R2 : List Atom} {H : Hp} {Q : VK} {E : XK} {vs : List V} {X Y : Addr → Hp → Prop} {xs ys : List V} {ns ms : List Int} {ad : Int → Addr} {G : RingM} {nd : NodeM}
def sp_Node___init__ (_ : PySem.W.Frag) (Z : Ad) : Sp := fun vs H Q _ => ∃ (x dx c f : Addr) (pr : V) (L : List Atom), vs = [.ref x, .ref c, pr, .ref f] ∧ Sat Z (⟨x, Pt (.ins Z.Node dx [])⟩ :: L) H ∧ ∀ t H', Sat Z (⟨x, Pt (.ins Z.Node dx (nF c pr f t))⟩ :: ⟨t, Pt (.dK [])⟩ :: L) H' → Q .non H'
/-- Node(chain, prior, far) -/
theorem use_Node {c f : Addr} {pr : V} {o : Option Int} {os : List (Option Int)} {vv : Addr → List V} {P : Addr → Hp → Prop} (e : ∀ x, vv x = [.ref x, .ref c, pr, .ref f]) (s : Sat Z L H) (fc : Fnd L c (Pt (.lst xs)) R1) (I : IsI xs ns) (ff : Fnd R1 f (Pt (.lst ys)) R2) (J : IsO ys os) (hp : IsOv pr o)
    (q : ∀ x H', Sat Z (⟨x, NodeX Z ⟨ns, o, os, []⟩⟩ :: R2) H' → P x H') :
    ∀ x dx, H x = none → H dx = none → dx ≠ x → sp_Node___init__ K Z (vv x) (upd (upd H dx (.own x)) x (.ins Z.Node dx [])) (fun v H3 => v = .non ∧ P x H3) E := by
  intro x dx hx hd ne
  obtain rfl := I.eq
  obtain rfl := J.eq
  obtain rfl := hp.eq
  have s1 : Sat Z (⟨dx, Pt (.own x)⟩ :: L) _ := s.new hd (fun _ z => by cases z)
  have s2 : Sat Z (⟨x, Pt (.ins Z.Node dx [])⟩ :: ⟨dx, Pt (.own x)⟩ :: L) _ := s1.new (p := x) (by rw [upd_ne (fun z => ne z.symm)]; exact hx) (fun _ z => by cases z)
  refine ⟨x, dx, c, f, _, _, e x, s2, fun t H' s3 => ⟨rfl, q x H' (node_close (dx := dx) (c := c) (f := f) (t := t) ?_)⟩⟩
  have s4 : Sat Z (⟨t, Pt (.dK [])⟩ :: ⟨x, Pt (.ins Z.Node dx (nF c (ov o) f t))⟩ :: L) H' := s3.ent
  have s5 := things0 s4
  have s6 : Sat Z (⟨c, LI ns⟩ :: ⟨t, ThX Z []⟩ :: ⟨x, Pt (.ins Z.Node dx (nF c (ov o) f t))⟩ :: R1) H' := s5.fnd (p := c)
  have s7 : Sat Z (⟨f, LV (os.map ov)⟩ :: ⟨c, LI ns⟩ :: ⟨t, ThX Z []⟩ :: ⟨x, Pt (.ins Z.Node dx (nF c (ov o) f t))⟩ :: R2) H' := s6.fnd (p := f)
  exact s7.ent
def sp_upwards (_ : PySem.W.Frag) (Z : Ad) : Sp := fun vs H Q _ => ∃ (s l : Addr) (b : Nat) (pt : Int) (ns : List Int) (R : List Atom), vs = [.ref s, .ref l, .int pt] ∧ SpH Z H s b ∧ Sat Z (⟨l, LI ns⟩ :: R) H ∧ ∀ p H', Sat Z (⟨p, LI (upwP (2 ^ b) pt ns)⟩ :: ⟨l, LI ns⟩ :: R) H' → Q (.ref p) H'
theorem use_upwards {s l : Addr} {b : Nat} {pt : Int} (e : vs = [.ref s, .ref l, .int pt]) (h : SpH Z H s b) (s' : Sat Z L H) (f : Fnd L l (Pt (.lst xs)) R) (I : IsI xs ns) (q : ∀ p H', Sat Z (⟨p, LI (upwP (2 ^ b) pt ns)⟩ :: ⟨l, LI ns⟩ :: R) H' → Q (.ref p) H') : sp_upwards K Z vs H Q E := by
  obtain rfl := I.eq
  exact ⟨s, l, b, pt, ns, R, e, h, s'.fnd, q⟩
def sp_others_upwards (_ : PySem.W.Frag) (Z : Ad) : Sp := fun vs H Q _ => ∃ (s l : Addr) (b : Nat) (pt : Int) (ns : List Int) (R : List Atom), vs = [.ref s, .ref l, .int pt] ∧ SpH Z H s b ∧ Sat Z (⟨l, LI ns⟩ :: R) H ∧ ns.length ≤ 1000 ∧ ∀ p H', Sat Z (⟨p, LI (othP (2 ^ b) pt ns)⟩ :: ⟨l, LI ns⟩ :: R) H' → Q (.ref p) H'
theorem use_others {s l : Addr} {b : Nat} {pt : Int} (e : vs = [.ref s, .ref l, .int pt]) (h : SpH Z H s b) (s' : Sat Z L H) (f : Fnd L l (Pt (.lst xs)) R) (I : IsI xs ns) (hn : ns.length ≤ 1000) (q : ∀ p H', Sat Z (⟨p, LI (othP (2 ^ b) pt ns)⟩ :: ⟨l, LI ns⟩ :: R) H' → Q (.ref p) H') : sp_others_upwards K Z vs H Q E := by
  obtain rfl := I.eq
  exact ⟨s, l, b, pt, ns, R, e, h, s'.fnd, hn, q⟩
def sp_far_point (_ : PySem.W.Frag) (Z : Ad) : Sp := fun vs H Q _ => ∃ (s : Addr) (b : Nat) (nm k : Int), vs = [.ref s, .int nm, .int k] ∧ SpH Z H s b ∧ 0 ≤ k ∧ k ≤ 1000 ∧ Q (.int (farP (2 ^ b) nm k.toNat)) H
theorem use_farpt {s : Addr} {b : Nat} {nm k : Int} (e : vs = [.ref s, .int nm, .int k]) (h : SpH Z H s b) (h0 : 0 ≤ k) (h1 : k ≤ 1000) (q : Q (.int (farP (2 ^ b) nm k.toNat)) H) : sp_far_point K Z vs H Q E := ⟨s, b, nm, k, e, h, h0, h1, q⟩
def sp_right_chain (_ : PySem.W.Frag) (Z : Ad) : Sp := fun vs H Q _ => ∃ (s l : Addr) (b : Nat) (pt k : Int) (ns : List Int) (R : List Atom), vs = [.ref s, .ref l, .int pt, .int k] ∧ SpH Z H s b ∧ Sat Z (⟨l, LI ns⟩ :: R) H ∧ ns.length ≤ 1000 ∧ 0 ≤ k ∧ ∀ p H', Sat Z (⟨p, LI ((othP (2 ^ b) pt ns).take k.toNat)⟩ :: ⟨l, LI ns⟩ :: R) H' → Q (.ref p) H'
theorem use_rchain {s l : Addr} {b : Nat} {pt k : Int} (e : vs = [.ref s, .ref l, .int pt, .int k]) (h : SpH Z H s b) (s' : Sat Z L H) (f : Fnd L l (Pt (.lst xs)) R) (I : IsI xs ns) (hn : ns.length ≤ 1000) (h0 : 0 ≤ k) (q : ∀ p H', Sat Z (⟨p, LI ((othP (2 ^ b) pt ns).take k.toNat)⟩ :: ⟨l, LI ns⟩ :: R) H' → Q (.ref p) H') : sp_right_chain K Z vs H Q E := by
  obtain rfl := I.eq
  exact ⟨s, l, b, pt, k, ns, R, e, h, s'.fnd, hn, h0, q⟩
def sp_right_far (_ : PySem.W.Frag) (Z : Ad) : Sp := fun vs H Q _ => ∃ (s l : Addr) (b : Nat) (pt : Int) (ns : List Int) (R : List Atom), vs = [.ref s, .ref l, .int pt] ∧ Sat Z (⟨l, LI ns⟩ :: ⟨s, SpA Z b⟩ :: R) H ∧ 0 < ns.length ∧ ∀ p H', Sat Z (⟨p, LI (farN b pt ns)⟩ :: ⟨l, LI ns⟩ :: R) H' → Q (.ref p) H'
theorem use_rfar {s l : Addr} {b : Nat} {pt : Int} (e : vs = [.ref s, .ref l, .int pt]) (h : SpH Z H s b) (s' : Sat Z L H) (f : Fnd L l (Pt (.lst xs)) R) (I : IsI xs ns) (hn : 0 < ns.length) (q : ∀ p H', Sat Z (⟨p, LI (farN b pt ns)⟩ :: ⟨l, LI ns⟩ :: R) H' → Q (.ref p) H') : sp_right_far K Z vs H Q E := by
  obtain rfl := I.eq
  refine ⟨s, l, b, pt, ns, R, e, ?_, hn, q⟩
  exact (sat_addS (s'.fnd (p := l)) h).ent
def sp_right_node (_ : PySem.W.Frag) (Z : Ad) : Sp := fun vs H Q _ => ∃ (s l : Addr) (b : Nat) (pt k : Int) (ns : List Int) (R : List Atom), vs = [.ref s, .ref l, .int pt, .int k] ∧ Sat Z (⟨l, LI ns⟩ :: ⟨s, SpA Z b⟩ :: R) H ∧ 0 < ns.length ∧ ns.length ≤ 1000 ∧ 0 ≤ k ∧ ∀ p H', Sat Z (⟨p, NodeX Z (rightN b ns pt k)⟩ :: ⟨l, LI ns⟩ :: R) H' → Q (.ref p) H'
theorem use_rnode {s l : Addr} {b : Nat} {pt k : Int} (e : vs = [.ref s, .ref l, .int pt, .int k]) (h : SpH Z H s b) (s' : Sat Z L H) (f : Fnd L l (Pt (.lst xs)) R) (I : IsI xs ns) (h0 : 0 < ns.length) (hn : ns.length ≤ 1000) (hk : 0 ≤ k) (q : ∀ p H', Sat Z (⟨p, NodeX Z (rightN b ns pt k)⟩ :: ⟨l, LI ns⟩ :: R) H' → Q (.ref p) H') : sp_right_node K Z vs H Q E := by
  obtain rfl := I.eq
  exact ⟨s, l, b, pt, k, ns, R, e, (sat_addS (s'.fnd (p := l)) h).ent, h0, hn, hk, q⟩
def sp_is_length (_ : PySem.W.Frag) (_ : Ad) : Sp := fun vs H Q _ => ∃ v : V, vs = [v] ∧ Th H v ∧ Q (.bl (inB 1 5 v)) H
theorem use_islen {v : V} (e : vs = [v]) (h : Th H v) (q : Q (.bl (inB 1 5 v)) H) : sp_is_length K Z vs H Q E := ⟨v, e, h, q⟩
def sp_are_base (_ : PySem.W.Frag) (Z : Ad) : Sp := fun vs H Q _ => ∃ (s l : Addr) (b : Nat) (k : Int) (ns : List Int) (R : List Atom), vs = [.ref s, .ref l, .int k] ∧ Sat Z (⟨l, LI ns⟩ :: ⟨s, SpA Z b⟩ :: R) H ∧ (k < ns.length ∧ ns.length ≤ 8) ∧ InSp (2 ^ b) ns ∧ ns.Nodup ∧ ∀ H', Sat Z (⟨l, LI ns⟩ :: R) H' → Q (.bl true) H'
theorem use_arebase {s l : Addr} {b : Nat} {k : Int} (e : vs = [.ref s, .ref l, .int k]) (h : SpH Z H s b) (s' : Sat Z L H) (f : Fnd L l (Pt (.lst xs)) R) (I : IsI xs ns) (h0 : k < ns.length ∧ ns.length ≤ 8) (h1 : InSp (2 ^ b) ns) (h2 : ns.Nodup) (q : ∀ H', Sat Z (⟨l, LI ns⟩ :: R) H' → Q (.bl true) H') : sp_are_base K Z vs H Q E := by
  obtain rfl := I.eq
  exact ⟨s, l, b, k, ns, R, e, (sat_addS (s'.fnd (p := l)) h).ent, h0, h1, h2, q⟩
def sp_space_of (_ : PySem.W.Frag) (Z : Ad) : Sp := fun vs H Q _ => ∃ (b : Int) (L : List Atom), vs = [.int b] ∧ Sat Z L H ∧ 3 ≤ b ∧ b ≤ 32 ∧ ∀ s H', Sat Z (⟨s, SpA Z b.toNat⟩ :: L) H' → Q (.ref s) H'
theorem use_spaceof {b : Int} (e : vs = [.int b]) (s : Sat Z L H) (h0 : 3 ≤ b) (h1 : b ≤ 32) (q : ∀ s H', Sat Z (⟨s, SpA Z b.toNat⟩ :: L) H' → Q (.ref s) H') : sp_space_of K Z vs H Q E := ⟨b, L, e, s, h0, h1, q⟩
def sp_first_of (K : PySem.W.Frag) (_ : Ad) : Sp := fun vs H Q _ => ∃ (a b : Addr) (ns ms : List Int), vs = [.ref a, .ref b] ∧ SqL K H a (ns.map V.int) ∧ SqL K H b (ms.map V.int) ∧ Q (ov (firstOf ns ms)) H
theorem use_firstof {a b : Addr} (e : vs = [.ref a, .ref b]) (h0 : SqL K H a (ns.map V.int)) (h1 : SqL K H b (ms.map V.int)) (q : Q (ov (firstOf ns ms)) H) : sp_first_of K Z vs H Q E := ⟨a, b, ns, ms, e, h0, h1, q⟩
def sp_Ring___init__ (_ : PySem.W.Frag) (Z : Ad) : Sp := fun vs H Q _ => ∃ (x dx l : Addr) (b k : Int) (ns : List Int) (L : List Atom), vs = [.ref x, .ref l, .int b, .int k] ∧ Sat Z (⟨x, Pt (.ins Z.Ring dx [])⟩ :: ⟨l, LI ns⟩ :: L) H ∧ (3 ≤ b ∧ b ≤ 32) ∧ (1 ≤ k ∧ k ≤ 4) ∧ (k < ns.length ∧ ns.length ≤ 8) ∧ InSp (2 ^ b.toNat) ns ∧ ns.Nodup ∧
  ∀ ad H', Sat Z (⟨x, RingX Z ad (newR b.toNat k ns)⟩ :: ⟨l, LI ns⟩ :: L) H' → Q .non H'
/-- Ring(base, bits, length) of right things -/
theorem use_Ring {l : Addr} {b k : Int} {vv : Addr → List V} {P : Addr → Hp → Prop} (e : ∀ x, vv x = [.ref x, .ref l, .int b, .int k]) (s : Sat Z L H) (f : Fnd L l (Pt (.lst xs)) R) (I : IsI xs ns) (h0 : 3 ≤ b) (h1 : b ≤ 32) (h2 : 1 ≤ k) (h3 : k ≤ 4) (h4 : k < ns.length) (h5 : ns.length ≤ 8) (h6 : InSp (2 ^ b.toNat) ns) (h7 : ns.Nodup)
    (q : ∀ x ad H', Sat Z (⟨x, RingX Z ad (newR b.toNat k ns)⟩ :: ⟨l, LI ns⟩ :: R) H' → P x H') :
    ∀ x dx, H x = none → H dx = none → dx ≠ x → sp_Ring___init__ K Z (vv x) (upd (upd H dx (.own x)) x (.ins Z.Ring dx [])) (fun v H3 => v = .non ∧ P x H3) E := by
  intro x dx hx hd ne
  obtain rfl := I.eq
  have s1 : Sat Z (⟨dx, Pt (.own x)⟩ :: L) _ := s.new hd (fun _ z => by cases z)
  have s2 : Sat Z (⟨x, Pt (.ins Z.Ring dx [])⟩ :: ⟨dx, Pt (.own x)⟩ :: L) _ := s1.new (p := x) (by rw [upd_ne (fun z => ne z.symm)]; exact hx) (fun _ z => by cases z)
  exact ⟨x, dx, l, b, k, ns, R, e x, s2.ent, ⟨h0, h1⟩, ⟨h2, h3⟩, ⟨h4, h5⟩, h6, h7, fun ad H' s' => ⟨rfl, q x ad H' s'⟩⟩
theorem s_insR {r : Addr} {n : Str} {P : Prop} (s : Sat Z L H) (f : Fnd L r (RingX Z ad G) R) (l : ∀ c fx d dn, (rF G c fx d dn).lookup n = none) (q : P) : ∃ a' dx fs, V.ref r = .ref a' ∧ H a' = some (.ins Z.Ring dx fs) ∧ fs.lookup n = none ∧ P := by
  obtain ⟨dx, c, fx, d, dn, v⟩ := ring_view s f
  exact ⟨r, dx, _, rfl, v.r, l _ _ _ _, q⟩
def sp_Ring_space (_ : PySem.W.Frag) (Z : Ad) : Sp := fun vs H Q _ => ∃ (r : Addr) (ad : Int → Addr) (G : RingM) (L : List Atom), vs = [.ref r] ∧ Sat Z (⟨r, RingX Z ad G⟩ :: L) H ∧ ∀ s, SpH Z H s G.bits → Q (.ref s) H
theorem use_rspace {r : Addr} (e : vs = [.ref r]) (s : Sat Z L H) (f : Fnd L r (RingX Z ad G) R) (q : ∀ c, Sat Z (⟨c, SpA Z G.bits⟩ :: L) H → Q (.ref c) H) : sp_Ring_space K Z vs H Q E := ⟨r, ad, G, R, e, s.fnd, fun c h => q c (sat_addS s h)⟩
def sp_Ring_length (_ : PySem.W.Frag) (Z : Ad) : Sp := fun vs H Q _ => ∃ (r : Addr) (ad : Int → Addr) (G : RingM) (L : List Atom), vs = [.ref r] ∧ Sat Z (⟨r, RingX Z ad G⟩ :: L) H ∧ Q (.int G.many) H
theorem use_rlength {r : Addr} (e : vs = [.ref r]) (s : Sat Z L H) (f : Fnd L r (RingX Z ad G) R) (q : Q (.int G.many) H) : sp_Ring_length K Z vs H Q E := ⟨r, ad, G, R, e, s.fnd, q⟩
def sp_Ring_base (_ : PySem.W.Frag) (Z : Ad) : Sp := fun vs H Q _ => ∃ (r : Addr) (ad : Int → Addr) (G : RingM) (L : List Atom), vs = [.ref r] ∧ Sat Z (⟨r, RingX Z ad G⟩ :: L) H ∧ ∀ l H', Sat Z (⟨l, LI G.fixed⟩ :: ⟨r, RingX Z ad G⟩ :: L) H' → Q (.ref l) H'
theorem use_rbase {r : Addr} (e : vs = [.ref r]) (s : Sat Z L H) (f : Fnd L r (RingX Z ad G) R) (q : ∀ l H', Sat Z (⟨l, LI G.fixed⟩ :: ⟨r, RingX Z ad G⟩ :: R) H' → Q (.ref l) H') : sp_Ring_base K Z vs H Q E := ⟨r, ad, G, R, e, s.fnd, q⟩
def sp_Ring_deeds (_ : PySem.W.Frag) (Z : Ad) : Sp := fun vs H Q _ => ∃ (r : Addr) (ad : Int → Addr) (G : RingM) (L : List Atom), vs = [.ref r] ∧ Sat Z (⟨r, RingX Z ad G⟩ :: L) H ∧ ∀ l H', Sat Z (⟨l, LV G.deeds⟩ :: ⟨r, RingX Z ad G⟩ :: L) H' → Q (.ref l) H'
theorem use_rdeeds {r : Addr} (e : vs = [.ref r]) (s : Sat Z L H) (f : Fnd L r (RingX Z ad G) R) (q : ∀ l H', Sat Z (⟨l, LV G.deeds⟩ :: ⟨r, RingX Z ad G⟩ :: R) H' → Q (.ref l) H') : sp_Ring_deeds K Z vs H Q E := ⟨r, ad, G, R, e, s.fnd, q⟩
def sp_Ring_members (_ : PySem.W.Frag) (Z : Ad) : Sp := fun vs H Q _ => ∃ (r : Addr) (ad : Int → Addr) (G : RingM) (L : List Atom), vs = [.ref r] ∧ Sat Z (⟨r, RingX Z ad G⟩ :: L) H ∧ ∀ l H', (∀ b o, H b = some o → H' b = some o) → Sat Z (⟨l, LI (srt G.names)⟩ :: ⟨r, RingX Z ad G⟩ :: L) H' → Q (.ref l) H'
theorem use_rmembers {r : Addr} (e : vs = [.ref r]) (s : Sat Z L H) (f : Fnd L r (RingX Z ad G) R) (q : ∀ l H', (∀ b o, H b = some o → H' b = some o) → Sat Z (⟨l, LI (srt G.names)⟩ :: ⟨r, RingX Z ad G⟩ :: R) H' → Q (.ref l) H') : sp_Ring_members K Z vs H Q E := ⟨r, ad, G, R, e, s.fnd, q⟩
def sp_Ring_is_member (_ : PySem.W.Frag) (Z : Ad) : Sp := fun vs H Q _ => ∃ (r : Addr) (v : V) (ad : Int → Addr) (G : RingM) (L : List Atom), vs = [.ref r, v] ∧ Sat Z (⟨r, RingX Z ad G⟩ :: L) H ∧ Th H v ∧ Q (.bl (memV G v)) H
theorem use_rmem {r : Addr} {v : V} (e : vs = [.ref r, v]) (s : Sat Z L H) (f : Fnd L r (RingX Z ad G) R) (h : Th H v) (q : Q (.bl (memV G v)) H) : sp_Ring_is_member K Z vs H Q E := ⟨r, v, ad, G, R, e, s.fnd, h, q⟩
def sp_Ring_node (_ : PySem.W.Frag) (Z : Ad) : Sp := fun vs H Q _ => ∃ (r : Addr) (i : Int) (ad : Int → Addr) (G : RingM) (L : List Atom), vs = [.ref r, .int i] ∧ Sat Z (⟨r, RingX Z ad G⟩ :: L) H ∧ i ∈ G.names ∧ Q (.ref (ad i)) H
theorem use_rnod {r : Addr} {i : Int} (e : vs = [.ref r, .int i]) (s : Sat Z L H) (f : Fnd L r (RingX Z ad G) R) (h : i ∈ G.names) (q : Q (.ref (ad i)) H) : sp_Ring_node K Z vs H Q E := ⟨r, i, ad, G, R, e, s.fnd, h, q⟩
def sp_Ring_links (_ : PySem.W.Frag) (Z : Ad) : Sp := fun vs H Q _ => ∃ (r : Addr) (i : Int) (ad : Int → Addr) (G : RingM) (nd : NodeM) (L : List Atom), vs = [.ref r, .int i] ∧ Sat Z (⟨r, RingX Z ad G⟩ :: L) H ∧ lk G.nodes i = some nd ∧ ∀ l H', Sat Z (⟨l, LI nd.chain⟩ :: ⟨r, RingX Z ad G⟩ :: L) H' → Q (.ref l) H'
theorem use_rlinks {r : Addr} {i : Int} (e : vs = [.ref r, .int i]) (s : Sat Z L H) (f : Fnd L r (RingX Z ad G) R) (h : lk G.nodes i = some nd) (q : ∀ l H', Sat Z (⟨l, LI nd.chain⟩ :: ⟨r, RingX Z ad G⟩ :: R) H' → Q (.ref l) H') : sp_Ring_links K Z vs H Q E := ⟨r, i, ad, G, nd, R, e, s.fnd, h, q⟩
def sp_Ring_fingers (_ : PySem.W.Frag) (Z : Ad) : Sp := fun vs H Q _ => ∃ (r : Addr) (i : Int) (ad : Int → Addr) (G : RingM) (nd : NodeM) (L : List Atom), vs = [.ref r, .int i] ∧ Sat Z (⟨r, RingX Z ad G⟩ :: L) H ∧ lk G.nodes i = some nd ∧ ∀ l H', Sat Z (⟨l, LV (nd.far.map ov)⟩ :: ⟨r, RingX Z ad G⟩ :: L) H' → Q (.ref l) H'
theorem use_rfingers {r : Addr} {i : Int} (e : vs = [.ref r, .int i]) (s : Sat Z L H) (f : Fnd L r (RingX Z ad G) R) (h : lk G.nodes i = some nd) (q : ∀ l H', Sat Z (⟨l, LV (nd.far.map ov)⟩ :: ⟨r, RingX Z ad G⟩ :: R) H' → Q (.ref l) H') : sp_Ring_fingers K Z vs H Q E := ⟨r, i, ad, G, nd, R, e, s.fnd, h, q⟩
def sp_Ring_before (_ : PySem.W.Frag) (Z : Ad) : Sp := fun vs H Q _ => ∃ (r : Addr) (i : Int) (ad : Int → Addr) (G : RingM) (nd : NodeM) (L : List Atom), vs = [.ref r, .int i] ∧ Sat Z (⟨r, RingX Z ad G⟩ :: L) H ∧ lk G.nodes i = some nd ∧ Q (ov nd.prior) H
theorem use_rbefore {r : Addr} {i : Int} (e : vs = [.ref r, .int i]) (s : Sat Z L H) (f : Fnd L r (RingX Z ad G) R) (h : lk G.nodes i = some nd) (q : Q (ov nd.prior) H) : sp_Ring_before K Z vs H Q E := ⟨r, i, ad, G, nd, R, e, s.fnd, h, q⟩
def sp_Ring_next_of (_ : PySem.W.Frag) (Z : Ad) : Sp := fun vs H Q _ => ∃ (r : Addr) (i : Int) (ad : Int → Addr) (G : RingM) (nd : NodeM) (L : List Atom), vs = [.ref r, .int i] ∧ Sat Z (⟨r, RingX Z ad G⟩ :: L) H ∧ lk G.nodes i = some nd ∧ ∀ H', Sat Z (⟨r, RingX Z ad G⟩ :: L) H' → Q (ov (firstOf nd.chain (srt G.names))) H'
theorem use_rnext {r : Addr} {i : Int} (e : vs = [.ref r, .int i]) (s : Sat Z L H) (f : Fnd L r (RingX Z ad G) R) (h : lk G.nodes i = some nd) (q : ∀ H', Sat Z (⟨r, RingX Z ad G⟩ :: R) H' → Q (ov (firstOf nd.chain (srt G.names))) H') : sp_Ring_next_of K Z vs H Q E := ⟨r, i, ad, G, nd, R, e, s.fnd, h, q⟩
def sp_Ring_kept (_ : PySem.W.Frag) (Z : Ad) : Sp := fun vs H Q _ => ∃ (r : Addr) (i : Int) (ad : Int → Addr) (G : RingM) (nd : NodeM) (L : List Atom), vs = [.ref r, .int i] ∧ Sat Z (⟨r, RingX Z ad G⟩ :: L) H ∧ lk G.nodes i = some nd ∧ nd.things = [] ∧ ∀ l H', Sat Z (⟨l, Pt (.lst [])⟩ :: ⟨r, RingX Z ad G⟩ :: L) H' → Q (.ref l) H'
theorem use_rkept0 {r : Addr} {i : Int} (e : vs = [.ref r, .int i]) (s : Sat Z L H) (f : Fnd L r (RingX Z ad G) R) (h : lk G.nodes i = some nd) (h0 : nd.things = []) (q : ∀ l H', Sat Z (⟨l, Pt (.lst [])⟩ :: ⟨r, RingX Z ad G⟩ :: R) H' → Q (.ref l) H') : sp_Ring_kept K Z vs H Q E := ⟨r, i, ad, G, nd, R, e, s.fnd, h, h0, q⟩
end
local macro_rules | `(tactic| walk_at "spa") => `(tactic| first | assumption | exact sat_spH (by assumption) inferInstance)
local macro_rules | `(tactic| walk_at "lkr") => `(tactic| exact fun _ _ _ _ => rfl)
local macro_rules | `(tactic| walk_at "call2") => `(tactic| first
  | ((with_reducible refine' use_Node ?e ?h0 ?h1 ?h2 ?h3 ?h4 ?h5 ?_); (case e => exact fun _ => rfl); (case h0 => assumption); (case h1 => infer_instance); (case h2 => infer_instance); (case h3 => infer_instance); (case h4 => infer_instance); (case h5 => infer_instance); intro _ _ _)
  | ((with_reducible refine' use_upwards ?e ?h0 ?h1 ?h2 ?h3 ?_); (case e => rfl); (case h0 => walk_at "spa"); (case h1 => assumption); (case h2 => infer_instance); (case h3 => infer_instance); intro _ _ _)
  | ((with_reducible refine' use_others ?e ?h0 ?h1 ?h2 ?h3 ?h4 ?_); (case e => rfl); (case h0 => walk_at "spa"); (case h1 => assumption); (case h2 => infer_instance); (case h3 => infer_instance); (case h4 => walk_at "nl"); intro _ _ _)
  | ((with_reducible refine' use_farpt ?e ?h0 ?h1 ?h2 ?_); (case e => rfl); (case h0 => walk_at "spa"); (case h1 => walk_at "nl"); (case h2 => walk_at "nl"))
  | ((with_reducible refine' use_rchain ?e ?h0 ?h1 ?h2 ?h3 ?h4 ?h5 ?_); (case e => rfl); (case h0 => walk_at "spa"); (case h1 => assumption); (case h2 => infer_instance); (case h3 => infer_instance); (case h4 => walk_at "nl"); (case h5 => walk_at "nl"); intro _ _ _)
  | ((with_reducible refine' use_rfar ?e ?h0 ?h1 ?h2 ?h3 ?h4 ?_); (case e => rfl); (case h0 => walk_at "spa"); (case h1 => assumption); (case h2 => infer_instance); (case h3 => infer_instance); (case h4 => walk_at "nl"); intro _ _ _)
  | ((with_reducible refine' use_rnode ?e ?h0 ?h1 ?h2 ?h3 ?h4 ?h5 ?h6 ?_); (case e => rfl); (case h0 => walk_at "spa"); (case h1 => assumption); (case h2 => infer_instance); (case h3 => infer_instance); (case h4 => walk_at "nl"); (case h5 => walk_at "nl"); (case h6 => walk_at "nl"); intro _ _ _)
  | ((with_reducible refine' use_islen ?e ?h0 ?_); (case e => rfl); (case h0 => walk_at "th"))
  | ((with_reducible refine' use_arebase ?e ?h0 ?h1 ?h2 ?h3 ?h4 ?h5 ?h6 ?_); (case e => rfl); (case h0 => walk_at "spa"); (case h1 => assumption); (case h2 => infer_instance); (case h3 => infer_instance); (case h4 => assumption); (case h5 => assumption); (case h6 => assumption); intro _ _)
  | ((with_reducible refine' use_spaceof ?e ?h0 ?h1 ?h2 ?_); (case e => rfl); (case h0 => assumption); (case h1 => walk_at "nl"); (case h2 => walk_at "nl"); intro _ _ _)
  | ((with_reducible refine' use_Ring ?e ?h0 ?h1 ?h2 ?h3 ?h4 ?h5 ?h6 ?h7 ?h8 ?h9 ?h10 ?_); (case e => exact fun _ => rfl); (case h0 => assumption); (case h1 => infer_instance); (case h2 => infer_instance); (case h3 => walk_at "nl"); (case h4 => walk_at "nl"); (case h5 => walk_at "nl"); (case h6 => walk_at "nl"); (case h7 => walk_at "nl"); (case h8 => walk_at "nl"); (case h9 => assumption); (case h10 => assumption); intro _ _ _ _)
  | ((with_reducible refine' use_rspace ?e ?h0 ?h1 ?_); (case e => rfl); (case h0 => assumption); (case h1 => infer_instance); intro _ _)
  | ((with_reducible refine' use_rlength ?e ?h0 ?h1 ?_); (case e => rfl); (case h0 => assumption); (case h1 => infer_instance))
  | ((with_reducible refine' use_rbase ?e ?h0 ?h1 ?_); (case e => rfl); (case h0 => assumption); (case h1 => infer_instance); intro _ _ _)
  | ((with_reducible refine' use_rdeeds ?e ?h0 ?h1 ?_); (case e => rfl); (case h0 => assumption); (case h1 => infer_instance); intro _ _ _)
  | ((with_reducible refine' use_rmembers ?e ?h0 ?h1 ?_); (case e => rfl); (case h0 => assumption); (case h1 => infer_instance); intro _ _ _ _)
  | ((with_reducible refine' use_rmem ?e ?h0 ?h1 ?h2 ?_); (case e => rfl); (case h0 => assumption); (case h1 => infer_instance); (case h2 => walk_at "th"))
  | ((with_reducible refine' use_rnod ?e ?h0 ?h1 ?h2 ?_); (case e => rfl); (case h0 => assumption); (case h1 => infer_instance); (case h2 => assumption))
  | ((with_reducible refine' use_rlinks ?e ?h0 ?h1 ?h2 ?_); (case e => rfl); (case h0 => assumption); (case h1 => infer_instance); (case h2 => assumption); intro _ _ _)
  | ((with_reducible refine' use_rfingers ?e ?h0 ?h1 ?h2 ?_); (case e => rfl); (case h0 => assumption); (case h1 => infer_instance); (case h2 => assumption); intro _ _ _)
  | ((with_reducible refine' use_rbefore ?e ?h0 ?h1 ?h2 ?_); (case e => rfl); (case h0 => assumption); (case h1 => infer_instance); (case h2 => assumption))
  | ((with_reducible refine' use_rnext ?e ?h0 ?h1 ?h2 ?_); (case e => rfl); (case h0 => assumption); (case h1 => infer_instance); (case h2 => assumption); intro _ _)
  | ((with_reducible refine' use_rkept0 ?e ?h0 ?h1 ?h2 ?h3 ?_); (case e => rfl); (case h0 => assumption); (case h1 => infer_instance); (case h2 => assumption); (case h3 => assumption); intro _ _ _)
  | ((with_reducible refine' s_insR ?h0 ?h1 ?h2 ?_); (case h0 => assumption); (case h1 => infer_instance); (case h2 => walk_at "lkr"))
  | (first | rw [ov_some] | rw [ov_none]))
/-! ### the readings are met -/
def t_Node___init__ (K : PySem.W.Frag) (Z : Ad) : TS :=
  (tSeq (sFld K (tVar 0) (tVar 1) "chain")
  (tSeq (sFld K (tVar 0) (tVar 2) "prior")
  (tSeq (sFld K (tVar 0) (tVar 3) "far")
  (sFld K (tVar 0) tDNewK "things"))))
theorem rd_Node___init__ (K : PySem.W.Frag) (Z : Ad) (C : CRg K Z) : ∀ vs H Q E, sp_Node___init__ K Z vs H Q E → t_Node___init__ K Z { nx := fun _ H' => Q .non H', rt := Q } (start (["self", "chain", "prior", "far"]) vs) H := by
  rintro _ H Q E ⟨x, dx, c, f, pr, L, rfl, s, q⟩
  cases C
  show t_Node___init__ K Z _ [some (.ref x), some (.ref c), some (pr), some (.ref f)] H
  unfold t_Node___init__
  walk_at "go"
  exact q _ _ (by walk_at "sat")
def t_upwards (K : PySem.W.Frag) (Z : Ad) : TS :=
  (tRet (NL.tKeyed Z.tabs "upwards.<locals>.<lambda>" 3 (tMe Z.Space "distance" (sp_Space_distance K Z) [.pos 0, .pos 1, .pos 2] [] [] 3 0 (fun _ => E0) (tVar 0) (tCons (tVar 2) (tCons (tVar 3) tNil)) tNil) (tCons (tVar 1) tNil) NL.rSortK))
theorem rd_upwards (K : PySem.W.Frag) (Z : Ad) : ∀ vs H Q E, sp_upwards K Z vs H Q E → t_upwards K Z { nx := fun _ H' => Q .non H', rt := Q } (start (["space", "names", "point", "name"]) vs) H := by
  rintro _ H Q E ⟨s, l, b, pt, ns, R, rfl, hs, s', q⟩
  show t_upwards K Z _ [some (.ref s), some (.ref l), some (.int pt), none] H
  unfold t_upwards
  walk_at "go"
  refine s_sortK (sat_addS s' hs) inferInstance inferInstance (fun n => (n - pt) % 2 ^ b) (fun c od H2 n hn' h2 => ?_) fun p H' h' => q p H' (SatI.ent (L := ⟨p, LI (upwP (2 ^ b) pt ns)⟩ :: ⟨l, LI ns⟩ :: ⟨s, SpA Z b⟩ :: R) h')
  dsimp only [List.set]
  walk_at "go"
  exact h2
def t_others_upwards (K : PySem.W.Frag) (Z : Ad) : TS :=
  (tRet (tLc (iList K (tCl (sp_upwards K Z) [.pos 0, .pos 1, .pos 2] [] [] 3 0 (fun _ => E0) (tCons (tVar 0) (tCons (tVar 1) (tCons (tVar 2) tNil))) tNil)) (gName 3) (tTest (tOp rNe (tVar 3) (tVar 2))) (tVar 3) [3]))
theorem rd_others_upwards (K : PySem.W.Frag) (Z : Ad) : ∀ vs H Q E, sp_others_upwards K Z vs H Q E → t_others_upwards K Z { nx := fun _ H' => Q .non H', rt := Q } (start (["space", "names", "name", "one"]) vs) H := by
  rintro _ H Q E ⟨s, l, b, pt, ns, R, rfl, hs, s', hn, q⟩
  show t_others_upwards K Z _ [some (.ref s), some (.ref l), some (.int pt), none] H
  unfold t_others_upwards
  have hu : (upwP (2 ^ b) pt ns).length = ns.length := List.length_mergeSort _
  walk_at "go"
  rename_i p H1 s1
  refine fm_list s1 inferInstance inferInstance (upwP (2 ^ b) pt ns) V.int rfl (fun x => !decide (x = pt)) (fun z => .int z) (fun D i z H2 hz s2 => ?_) (fin_fmI (G := fun x => x) fun D H2 s2 => ?_)
  · dsimp only [wipe, List.set]
    walk_at "go"
    refine g_iteN (fun h => ?_) fun h => ?_
    · walk_at "go"
      exact fm_yes hz (by rw [decide_eq_false h]; rfl) rfl s2 inferInstance (by omega)
    · walk_at "go"
      exact fm_no hz (by rw [decide_eq_true h]; rfl) s2 inferInstance
  rw [List.map_id'] at s2
  exact q D H2 (SatI.ent (L := ⟨D, LI (othP (2 ^ b) pt ns)⟩ :: _) s2)
def t_far_point (K : PySem.W.Frag) (Z : Ad) : TS :=
  (tRet (tOp rMod0 (tOp rAdd0 (tVar 1) (tOp rShl0 (tC (.int 1)) (tVar 2))) (tMe Z.Space "size" (sp_Space_size K Z) [.pos 0] [] [] 1 0 (fun _ => E0) (tVar 0) tNil tNil)))
theorem rd_far_point (K : PySem.W.Frag) (Z : Ad) : ∀ vs H Q E, sp_far_point K Z vs H Q E → t_far_point K Z { nx := fun _ H' => Q .non H', rt := Q } (start (["space", "name", "k"]) vs) H := by
  rintro _ H Q E ⟨s, b, nm, k, rfl, hs, h0, h1, q⟩
  have hp := hs.pw
  show t_far_point K Z _ [some (.ref s), some (.int nm), some (.int k)] H
  unfold t_far_point
  walk_at "go"
  rw [Int.one_mul]
  walk_at "go"
  exact q
def t_right_chain (K : PySem.W.Frag) (Z : Ad) : TS :=
  (tRet (tSl (rSlL K) (tCl (sp_others_upwards K Z) [.pos 0, .pos 1, .pos 2] [] [] 3 0 (fun _ => E0) (tCons (tVar 0) (tCons (tVar 1) (tCons (tVar 2) tNil))) tNil) tNoPart (tPart (tVar 3))))
theorem rd_right_chain (K : PySem.W.Frag) (Z : Ad) : ∀ vs H Q E, sp_right_chain K Z vs H Q E → t_right_chain K Z { nx := fun _ H' => Q .non H', rt := Q } (start (["space", "names", "name", "many"]) vs) H := by
  rintro _ H Q E ⟨s, l, b, pt, k, ns, R, rfl, hs, s', hn, h0, q⟩
  show t_right_chain K Z _ [some (.ref s), some (.ref l), some (.int pt), some (.int k)] H
  unfold t_right_chain
  walk_at "go"
  exact q _ _ (by walk_at "sat")
def t_right_far (K : PySem.W.Frag) (Z : Ad) : TS :=
  (tRet (tLc (iRng1 (tCons (tMe Z.Space "bits" (sp_Space_bits K Z) [.pos 0] [] [] 1 0 (fun _ => E0) (tVar 0) tNil tNil) tNil)) (gName 3) tYes (tMe Z.Space "nearest" (sp_Space_nearest K Z) [.pos 0, .pos 1, .pos 2] [] [] 3 0 (fun _ => E0) (tVar 0) (tCons (tVar 1) (tCons (tCl (sp_far_point K Z) [.pos 0, .pos 1, .pos 2] [] [] 3 0 (fun _ => E0) (tCons (tVar 0) (tCons (tVar 2) (tCons (tVar 3) tNil))) tNil) tNil)) tNil) [3]))
theorem rd_right_far (K : PySem.W.Frag) (Z : Ad) : ∀ vs H Q E, sp_right_far K Z vs H Q E → t_right_far K Z { nx := fun _ H' => Q .non H', rt := Q } (start (["space", "names", "name", "k"]) vs) H := by
  rintro _ H Q E ⟨s, l, b, pt, ns, R, rfl, s', hn, q⟩
  show t_right_far K Z _ [some (.ref s), some (.ref l), some (.int pt), none] H
  unfold t_right_far
  have hs := sat_spH (s := s) s' inferInstance
  have hb := hs.hi
  walk_at "go"
  refine fm_rng s' b rfl (by omega) (fun _ => true) (fun k => .int (nearF (2 ^ b) (farP (2 ^ b) pt k) ns)) (fun D i H2 hi hg s2 => ?_) (fin_mpI fun D H2 s2 => ?_)
  · dsimp only [wipe, List.set]
    walk_at "go"
    rename_i n H3 hn3 s3
    obtain rfl := nearP_eq hn3
    rw [Int.toNat_natCast]
    exact fm_yes hg rfl rfl s3 inferInstance (by rw [List.length_range]; omega)
  exact q D H2 (SatI.ent (L := ⟨D, LI (farN b pt ns)⟩ :: _) s2)
def t_right_node (K : PySem.W.Frag) (Z : Ad) : TS :=
  (tSeq (tAsg (tCl (sp_right_chain K Z) [.pos 0, .pos 1, .pos 2, .pos 3] [] [] 4 0 (fun _ => E0) (tCons (tVar 0) (tCons (tVar 1) (tCons (tVar 2) (tCons (tVar 3) tNil)))) tNil) (gName 4))
  (tRet (tMk Z.Node (sp_Node___init__ K Z) [.pos 0, .pos 1, .pos 2, .pos 3] [] [] 4 0 (fun _ => E0) (tCons (tVar 4) (tCons (tMe Z.Space "preceding" (sp_Space_preceding K Z) [.pos 0, .pos 1, .pos 2] [] [] 3 0 (fun _ => E0) (tVar 0) (tCons (tVar 1) (tCons (tVar 2) tNil)) tNil) (tCons (tCl (sp_right_far K Z) [.pos 0, .pos 1, .pos 2] [] [] 3 0 (fun _ => E0) (tCons (tVar 0) (tCons (tVar 1) (tCons (tVar 2) tNil))) tNil) tNil))) tNil)))
theorem rd_right_node (K : PySem.W.Frag) (Z : Ad) : ∀ vs H Q E, sp_right_node K Z vs H Q E → t_right_node K Z { nx := fun _ H' => Q .non H', rt := Q } (start (["space", "names", "name", "many", "chain"]) vs) H := by
  rintro _ H Q E ⟨s, l, b, pt, k, ns, R, rfl, s', h0, hn, hk, q⟩
  show t_right_node K Z _ [some (.ref s), some (.ref l), some (.int pt), some (.int k), none] H
  unfold t_right_node
  walk_at "go"
  rename_i n hn1 _ _ _ _ x H2 s2
  obtain rfl := precP_eq hn1
  exact q _ _ (SatI.ent (L := ⟨x, NodeX Z (rightN b ns pt k)⟩ :: _) s2)
def t_is_length (K : PySem.W.Frag) (Z : Ad) : TS :=
  (tRet (tAndV (tCB (rIsi K) (tCons (tVar 0) (tCons (tC (.ty "int")) tNil))) (tAndV (tNotV (tCB (rIsi K) (tCons (tVar 0) (tCons (tC (.ty "bool")) tNil)))) (tChain rLe rLe (tC (.int 1)) (tVar 0) (tC (.int 4))))))
theorem rd_is_length (K : PySem.W.Frag) (Z : Ad) : ∀ vs H Q E, sp_is_length K Z vs H Q E → t_is_length K Z { nx := fun _ H' => Q .non H', rt := Q } (start (["thing"]) vs) H := by
  rintro _ H Q E ⟨v, rfl, h, q⟩
  show t_is_length K Z _ [some (v)] H
  unfold t_is_length
  walk_at "go"
  refine isi_int h ?_
  rcases h with ⟨i, rfl⟩ | ⟨b, rfl⟩ | h | ⟨s, rfl⟩ | ⟨a, rfl, hh⟩
  · have q : Q (.bl (decide (1 ≤ i) && decide (i < 5))) H := q
    walk_at "go"
    refine g_ite (fun c1 => ?_) fun c1 => ?_
    · rw [decide_eq_true c1] at q
      walk_at "go"
      rw [show decide (i ≤ 4) = decide (i < 5) from by rw [Bool.eq_iff_iff]; simp only [decide_eq_true_eq]; omega]
      exact q
    · rw [decide_eq_false c1] at q
      exact q
  · walk_at "go"
    exact q
  · subst h
    walk_at "go"
    exact q
  · walk_at "go"
    exact q
  · walk_at "go"
    exact q
def t_are_base (K : PySem.W.Frag) (Z : Ad) : TS :=
  (tSeq (tIfS (tOr (tNot (tB (tCB (rIsi K) (tCons (tVar 1) (tCons (tC (.ty "list")) tNil))))) (tNot (tTest (tChain rLt rLe (tVar 2) (tCB (rLenS K) (tCons (tVar 1) tNil)) (tC (.int 8)))))) (tRet (tC (.bl false))) tNext)
  (tRet (tAndV (tCB (rAll K) (tCons (tLc (iList K (tVar 1)) (gName 3) tYes (tMe Z.Space "has" (sp_Space_has K Z) [.pos 0, .pos 1] [] [] 2 0 (fun _ => E0) (tVar 0) (tCons (tVar 3) tNil) tNil) [3]) tNil)) (tOp rEq (RZ.tLenSetI K (tVar 1)) (tCB (rLenS K) (tCons (tVar 1) tNil))))))
theorem rd_are_base (K : PySem.W.Frag) (Z : Ad) : ∀ vs H Q E, sp_are_base K Z vs H Q E → t_are_base K Z { nx := fun _ H' => Q .non H', rt := Q } (start (["space", "thing", "many", "one"]) vs) H := by
  rintro _ H Q E ⟨s, l, b, k, ns, R, rfl, s', h0, h1, h2, q⟩
  show t_are_base K Z _ [some (.ref s), some (.ref l), some (.int k), none] H
  unfold t_are_base
  walk_at "on"
  refine g_T h0.1 ?_
  walk_at "go"
  refine g_NT (by omega) ?_
  walk_at "go"
  have hs := sat_spH (s := s) s' inferInstance
  refine fm_list s' inferInstance inferInstance ns V.int rfl (fun _ => true) (fun z => .bl true) (fun D i z H2 hz s2 => ?_) (fin_mp fun D H2 s2 => ?_)
  · dsimp only [wipe, List.set]
    walk_at "go"
    have hm := h1 z (List.mem_of_getElem? hz)
    have e : inB 0 (2 ^ b) (.int z) = true := by
      show (decide (0 ≤ z) && decide (z < 2 ^ b)) = true
      rw [decide_eq_true hm.1, decide_eq_true hm.2]
      rfl
    rw [e]
    exact fm_yes hz rfl rfl s2 inferInstance (by omega)
  rw [show (ns.map fun z => V.bl true) = (ns.map fun _ => true).map V.bl from by rw [List.map_map]; rfl] at s2
  walk_at "go"
  rw [show (ns.map fun _ => true).all id = true from by rw [List.all_map]; exact List.all_eq_true.mpr fun _ _ => rfl]
  walk_at "go"
  refine s_lenSet (K := K) (p := l) (Q := fun y H2 => tCB (rLenS K) (tCons (tVar 1) tNil) [some (V.ref s), some (V.ref l), some (V.int k), none] H2 fun y2 H2 => rEq y y2 H2 Q) s2 inferInstance inferInstance inferInstance h2 (by omega) ?_
  walk_at "go"
  rw [show decide ((ns.length : Int) = ns.length) = true from decide_eq_true rfl]
  exact q _ s2.tail.ent
def t_space_of (K : PySem.W.Frag) (Z : Ad) : TS :=
  (tSeq (sTryAs K (.ref Z.NoSpace) 2 (fun a cls d => tNever) (fun _ _ _ _ => False) (fun W => (tAsg (tMk Z.Space (sp_Space___init__ K Z) [.pos 0, .pos 1] [.int 8] [] 2 0 (WE W) (tCons (tVar 0) tNil) tNil) (gName 1))))
  (tRet (tVar 1)))
theorem rd_space_of (K : PySem.W.Frag) (Z : Ad) : ∀ vs H Q E, sp_space_of K Z vs H Q E → t_space_of K Z { nx := fun _ H' => Q .non H', rt := Q } (start (["bits", "space", "e"]) vs) H := by
  rintro _ H Q E ⟨b, L, rfl, s, h0, h1, q⟩
  show t_space_of K Z _ [some (.int b), none, none] H
  unfold t_space_of
  walk_at "on"
  exact q _ _ (by assumption)
def t_first_of (K : PySem.W.Frag) (Z : Ad) : TS :=
  (tSeq (tFor (iList K (tVar 0)) (gName 2) (tIfS (tTest (tOp (rIn K false) (tVar 2) (tVar 1))) (tRet (tVar 2)) tNext))
  (tRet (tC .non)))
theorem rd_first_of (K : PySem.W.Frag) (Z : Ad) : ∀ vs H Q E, sp_first_of K Z vs H Q E → t_first_of K Z { nx := fun _ H' => Q .non H', rt := Q } (start (["names", "some", "name"]) vs) H := by
  rintro _ H Q E ⟨a, b, ns, ms, rfl, h0, h1, q⟩
  show t_first_of K Z _ [some (.ref a), some (.ref b), none] H
  unfold t_first_of
  walk_at "go"
  refine f_list h0 (fun i σ' H' => H' = H ∧ (∃ y, σ' = [some (.ref a), some (.ref b), y]) ∧ firstOf ns ms = firstOf (ns.drop i) ms) ⟨rfl, ⟨_, rfl⟩, rfl⟩ (fun i σ' H' _ ⟨e, _⟩ => e ▸ h0) ?_ ?_
  · rintro i x σ' _ hx ⟨rfl, ⟨y, rfl⟩, h⟩
    obtain ⟨n, hn, rfl⟩ := get_map hx
    obtain ⟨hi, hn⟩ := List.getElem?_eq_some_iff.mp hn
    rw [List.drop_eq_getElem_cons hi, hn] at h
    walk_at "go"
    refine ⟨b, _, rfl, .inl h1, rfl, ints_flat ms, ?_⟩
    rw [if_neg Bool.false_ne_true, inV_ints]
    walk_at "go"
    rw [show firstOf (n :: ns.drop (i + 1)) ms = if n ∈ ms then some n else firstOf (ns.drop (i + 1)) ms from rfl] at h
    refine g_ite (fun c => ?_) fun c => ?_
    · rw [if_pos c] at h
      rw [h] at q
      walk_at "go"
      exact q
    · rw [if_neg c] at h
      exact ⟨rfl, ⟨_, rfl⟩, h⟩
  · rintro σ' _ ⟨rfl, ⟨y, rfl⟩, h⟩
    rw [List.length_map, List.drop_length] at h
    rw [h] at q
    walk_at "go"
    exact q
def t_Ring_space (K : PySem.W.Frag) (Z : Ad) : TS :=
  (tRet (tFld K (tVar 0) "circle"))
theorem rd_Ring_space (K : PySem.W.Frag) (Z : Ad) (C : CRg K Z) : ∀ vs H Q E, sp_Ring_space K Z vs H Q E → t_Ring_space K Z { nx := fun _ H' => Q .non H', rt := Q } (start (["self"]) vs) H := by
  rintro _ H Q E ⟨r, ad, G, L, rfl, s, q⟩
  cases C
  obtain ⟨dx, c, fx, d, dn, vr, vc, vfx, vdn, vd, vnd, vw⟩ := ring_view (r := r) s inferInstance
  show t_Ring_space K Z _ [some (.ref r)] H
  unfold t_Ring_space
  walk_at "go"
  exact q c vc
def t_Ring_length (K : PySem.W.Frag) (Z : Ad) : TS :=
  (tRet (tFld K (tVar 0) "many"))
theorem rd_Ring_length (K : PySem.W.Frag) (Z : Ad) (C : CRg K Z) : ∀ vs H Q E, sp_Ring_length K Z vs H Q E → t_Ring_length K Z { nx := fun _ H' => Q .non H', rt := Q } (start (["self"]) vs) H := by
  rintro _ H Q E ⟨r, ad, G, L, rfl, s, q⟩
  cases C
  obtain ⟨dx, c, fx, d, dn, vr, vc, vfx, vdn, vd, vnd, vw⟩ := ring_view (r := r) s inferInstance
  show t_Ring_length K Z _ [some (.ref r)] H
  unfold t_Ring_length
  walk_at "go"
  exact q
def t_Ring_base (K : PySem.W.Frag) (Z : Ad) : TS :=
  (tRet (tCB (rListS K) (tCons (tFld K (tVar 0) "fixed") tNil)))
theorem rd_Ring_base (K : PySem.W.Frag) (Z : Ad) (C : CRg K Z) : ∀ vs H Q E, sp_Ring_base K Z vs H Q E → t_Ring_base K Z { nx := fun _ H' => Q .non H', rt := Q } (start (["self"]) vs) H := by
  rintro _ H Q E ⟨r, ad, G, L, rfl, s, q⟩
  cases C
  obtain ⟨dx, c, fx, d, dn, vr, vc, vfx, vdn, vd, vnd, vw⟩ := ring_view (r := r) s inferInstance
  show t_Ring_base K Z _ [some (.ref r)] H
  unfold t_Ring_base
  walk_at "go"
  exact s_list0 (SqL.of vfx) s q
def t_Ring_deeds (K : PySem.W.Frag) (Z : Ad) : TS :=
  (tRet (tCB (rListS K) (tCons (tFld K (tVar 0) "done") tNil)))
theorem rd_Ring_deeds (K : PySem.W.Frag) (Z : Ad) (C : CRg K Z) : ∀ vs H Q E, sp_Ring_deeds K Z vs H Q E → t_Ring_deeds K Z { nx := fun _ H' => Q .non H', rt := Q } (start (["self"]) vs) H := by
  rintro _ H Q E ⟨r, ad, G, L, rfl, s, q⟩
  cases C
  obtain ⟨dx, c, fx, d, dn, vr, vc, vfx, vdn, vd, vnd, vw⟩ := ring_view (r := r) s inferInstance
  show t_Ring_deeds K Z _ [some (.ref r)] H
  unfold t_Ring_deeds
  walk_at "go"
  exact s_list0 (SqL.of vdn) s q
def t_Ring_members (K : PySem.W.Frag) (Z : Ad) : TS :=
  (tRet (tCB rSortedDI (tCons (tFld K (tVar 0) "nodes") tNil)))
theorem rd_Ring_members (K : PySem.W.Frag) (Z : Ad) (C : CRg K Z) : ∀ vs H Q E, sp_Ring_members K Z vs H Q E → t_Ring_members K Z { nx := fun _ H' => Q .non H', rt := Q } (start (["self"]) vs) H := by
  rintro _ H Q E ⟨r, ad, G, L, rfl, s, q⟩
  cases C
  obtain ⟨dx, c, fx, d, dn, vr, vc, vfx, vdn, vd, vnd, vw⟩ := ring_view (r := r) s inferInstance
  show t_Ring_members K Z _ [some (.ref r)] H
  unfold t_Ring_members
  walk_at "go"
  refine ⟨d, _, G.names, rfl, .inl vd, nDict_keys, vw.ln, fun ys l hp hs hl => ?_⟩
  rw [srt_eq hp hs]
  exact q l _ (fun b o e => by rw [upd_ne (ne_of_none e hl)]; exact e) (s.new hl (fun _ z => by cases z))
def t_Ring_is_member (K : PySem.W.Frag) (Z : Ad) : TS :=
  (tRet (tAndV (tMe Z.Space "has" (sp_Space_has K Z) [.pos 0, .pos 1] [] [] 2 0 (fun _ => E0) (tFld K (tVar 0) "circle") (tCons (tVar 1) tNil) tNil) (tDIn (tVar 1) (tFld K (tVar 0) "nodes"))))
theorem rd_Ring_is_member (K : PySem.W.Frag) (Z : Ad) (C : CRg K Z) : ∀ vs H Q E, sp_Ring_is_member K Z vs H Q E → t_Ring_is_member K Z { nx := fun _ H' => Q .non H', rt := Q } (start (["self", "thing"]) vs) H := by
  rintro _ H Q E ⟨r, v, ad, G, L, rfl, s, hv, q⟩
  cases C
  obtain ⟨dx, c, fx, d, dn, vr, vc, vfx, vdn, vd, vnd, vw⟩ := ring_view (r := r) s inferInstance
  show t_Ring_is_member K Z _ [some (.ref r), some (v)] H
  unfold t_Ring_is_member
  walk_at "go"
  rcases hv with ⟨i, rfl⟩ | ⟨b, rfl⟩ | h | ⟨z, rfl⟩ | ⟨a, rfl, hh⟩
  · have q : Q (.bl (decide (i ∈ G.names))) H := q
    by_cases c1 : 0 ≤ i ∧ i < 2 ^ G.bits
    · rw [show inB 0 (2 ^ G.bits) (.int i) = true from by show (decide (0 ≤ i) && decide (i < 2 ^ G.bits)) = true; rw [decide_eq_true c1.1, decide_eq_true c1.2]; rfl]
      walk_at "go"
      refine ⟨d, _, rfl, DGet.k (k := Sum.inl i) vd, ?_⟩
      rw [nDict_val]
      show Q (.bl (if i ∈ G.names then some (V.ref (ad i)) else none).isSome) H
      by_cases c2 : i ∈ G.names
      · rw [decide_eq_true c2] at q
        rw [if_pos c2]
        exact q
      · rw [decide_eq_false c2] at q
        rw [if_neg c2]
        exact q
    · rw [show inB 0 (2 ^ G.bits) (.int i) = false from by show (decide (0 ≤ i) && decide (i < 2 ^ G.bits)) = false; rw [Bool.and_eq_false_iff]; simp only [decide_eq_false_iff_not]; omega]
      rw [decide_eq_false (fun z => c1 (vw.rg i z))] at q
      exact q
  · walk_at "go"
    exact q
  · subst h
    walk_at "go"
    exact q
  · walk_at "go"
    exact q
  · walk_at "go"
    exact q
def t_Ring_node (K : PySem.W.Frag) (Z : Ad) : TS :=
  (tSeq (tIfS (tNot (tB (tMe Z.Ring "is_member" (sp_Ring_is_member K Z) [.pos 0, .pos 1] [] [] 2 0 (fun _ => E0) (tVar 0) (tCons (tVar 1) tNil) tNil))) tNever tNext)
  (tRet (tDGet (tFld K (tVar 0) "nodes") (tVar 1))))
theorem rd_Ring_node (K : PySem.W.Frag) (Z : Ad) (C : CRg K Z) : ∀ vs H Q E, sp_Ring_node K Z vs H Q E → t_Ring_node K Z { nx := fun _ H' => Q .non H', rt := Q } (start (["self", "name"]) vs) H := by
  rintro _ H Q E ⟨r, i, ad, G, L, rfl, s, h, q⟩
  cases C
  obtain ⟨dx, c, fx, d, dn, vr, vc, vfx, vdn, vd, vnd, vw⟩ := ring_view (r := r) s inferInstance
  show t_Ring_node K Z _ [some (.ref r), some (.int i)] H
  unfold t_Ring_node
  walk_at "on"
  rw [show memV G (.int i) = true from decide_eq_true h]
  walk_at "go"
  refine ⟨d, .ref (ad i), rfl, ?_, q⟩
  have e := DGet.k (k := Sum.inl i) vd
  rw [nDict_val] at e
  have e2 : (if i ∈ G.nodes.map (·.1) then some (V.ref (ad i)) else none) = some (V.ref (ad i)) := if_pos h
  rw [e2] at e
  exact e
def t_Ring_links (K : PySem.W.Frag) (Z : Ad) : TS :=
  (tRet (tCB (rListS K) (tCons (tFld K (tMe Z.Ring "node" (sp_Ring_node K Z) [.pos 0, .pos 1] [] [] 2 0 (fun _ => E0) (tVar 0) (tCons (tVar 1) tNil) tNil) "chain") tNil)))
theorem rd_Ring_links (K : PySem.W.Frag) (Z : Ad) (C : CRg K Z) : ∀ vs H Q E, sp_Ring_links K Z vs H Q E → t_Ring_links K Z { nx := fun _ H' => Q .non H', rt := Q } (start (["self", "name"]) vs) H := by
  rintro _ H Q E ⟨r, i, ad, G, nd, L, rfl, s, h, q⟩
  cases C
  obtain ⟨dx, c, fx, d, dn, vr, vc, vfx, vdn, vd, vnd, vw⟩ := ring_view (r := r) s inferInstance
  obtain ⟨ndx, nc, nf, nt, wn, wc, wf, wt⟩ := vnd i nd h
  have hi : i ∈ G.names := lk_names h
  show t_Ring_links K Z _ [some (.ref r), some (.int i)] H
  unfold t_Ring_links
  walk_at "go"
  exact s_list0 (SqL.of wc) s q
def t_Ring_fingers (K : PySem.W.Frag) (Z : Ad) : TS :=
  (tRet (tCB (rListS K) (tCons (tFld K (tMe Z.Ring "node" (sp_Ring_node K Z) [.pos 0, .pos 1] [] [] 2 0 (fun _ => E0) (tVar 0) (tCons (tVar 1) tNil) tNil) "far") tNil)))
theorem rd_Ring_fingers (K : PySem.W.Frag) (Z : Ad) (C : CRg K Z) : ∀ vs H Q E, sp_Ring_fingers K Z vs H Q E → t_Ring_fingers K Z { nx := fun _ H' => Q .non H', rt := Q } (start (["self", "name"]) vs) H := by
  rintro _ H Q E ⟨r, i, ad, G, nd, L, rfl, s, h, q⟩
  cases C
  obtain ⟨dx, c, fx, d, dn, vr, vc, vfx, vdn, vd, vnd, vw⟩ := ring_view (r := r) s inferInstance
  obtain ⟨ndx, nc, nf, nt, wn, wc, wf, wt⟩ := vnd i nd h
  have hi : i ∈ G.names := lk_names h
  show t_Ring_fingers K Z _ [some (.ref r), some (.int i)] H
  unfold t_Ring_fingers
  walk_at "go"
  exact s_list0 (SqL.of wf) s q
def t_Ring_before (K : PySem.W.Frag) (Z : Ad) : TS :=
  (tRet (tFld K (tMe Z.Ring "node" (sp_Ring_node K Z) [.pos 0, .pos 1] [] [] 2 0 (fun _ => E0) (tVar 0) (tCons (tVar 1) tNil) tNil) "prior"))
theorem rd_Ring_before (K : PySem.W.Frag) (Z : Ad) (C : CRg K Z) : ∀ vs H Q E, sp_Ring_before K Z vs H Q E → t_Ring_before K Z { nx := fun _ H' => Q .non H', rt := Q } (start (["self", "name"]) vs) H := by
  rintro _ H Q E ⟨r, i, ad, G, nd, L, rfl, s, h, q⟩
  cases C
  obtain ⟨dx, c, fx, d, dn, vr, vc, vfx, vdn, vd, vnd, vw⟩ := ring_view (r := r) s inferInstance
  obtain ⟨ndx, nc, nf, nt, wn, wc, wf, wt⟩ := vnd i nd h
  have hi : i ∈ G.names := lk_names h
  show t_Ring_before K Z _ [some (.ref r), some (.int i)] H
  unfold t_Ring_before
  walk_at "go"
  exact q
def t_Ring_next_of (K : PySem.W.Frag) (Z : Ad) : TS :=
  (tRet (tCl (sp_first_of K Z) [.pos 0, .pos 1] [] [] 2 0 (fun _ => E0) (tCons (tFld K (tMe Z.Ring "node" (sp_Ring_node K Z) [.pos 0, .pos 1] [] [] 2 0 (fun _ => E0) (tVar 0) (tCons (tVar 1) tNil) tNil) "chain") (tCons (tMe Z.Ring "members" (sp_Ring_members K Z) [.pos 0] [] [] 1 0 (fun _ => E0) (tVar 0) tNil tNil) tNil)) tNil))
theorem rd_Ring_next_of (K : PySem.W.Frag) (Z : Ad) (C : CRg K Z) : ∀ vs H Q E, sp_Ring_next_of K Z vs H Q E → t_Ring_next_of K Z { nx := fun _ H' => Q .non H', rt := Q } (start (["self", "name"]) vs) H := by
  rintro _ H Q E ⟨r, i, ad, G, nd, L, rfl, s, h, q⟩
  cases C
  obtain ⟨dx, c, fx, d, dn, vr, vc, vfx, vdn, vd, vnd, vw⟩ := ring_view (r := r) s inferInstance
  obtain ⟨ndx, nc, nf, nt, wn, wc, wf, wt⟩ := vnd i nd h
  have hi : i ∈ G.names := lk_names h
  show t_Ring_next_of K Z _ [some (.ref r), some (.int i)] H
  unfold t_Ring_next_of
  walk_at "go"
  rename_i l H1 k s1
  refine use_firstof rfl (SqL.of (k _ _ wc)) (SqL.of s1.at0) ?_
  exact q _ s1.tail
def t_Ring_kept (K : PySem.W.Frag) (Z : Ad) : TS :=
  (tRet (tLc (iList K (tCB (rSortedI K) (tCons (LiI.tListItems (tFld K (tMe Z.Ring "node" (sp_Ring_node K Z) [.pos 0, .pos 1] [] [] 2 0 (fun _ => E0) (tVar 0) (tCons (tVar 1) tNil) tNil) "things")) tNil))) (gTup K 2 (gCons (gName 2) (gCons (gTup K 2 (gCons (gName 3) (gCons (gName 4) gNil))) gNil))) tYes (tTup (tCons (tVar 2) (tCons (tVar 3) (tCons (tVar 4) tNil)))) [2, 3, 4]))
theorem rd_Ring_kept (K : PySem.W.Frag) (Z : Ad) (C : CRg K Z) : ∀ vs H Q E, sp_Ring_kept K Z vs H Q E → t_Ring_kept K Z { nx := fun _ H' => Q .non H', rt := Q } (start (["self", "name", "point", "stamp", "text"]) vs) H := by
  rintro _ H Q E ⟨r, i, ad, G, nd, L, rfl, s, h, h0, q⟩
  cases C
  obtain ⟨dx, c, fx, d, dn, vr, vc, vfx, vdn, vd, vnd, vw⟩ := ring_view (r := r) s inferInstance
  obtain ⟨ndx, nc, nf, nt, wn, wc, wf, tad, wt, wt2⟩ := vnd i nd h
  have hi : i ∈ G.names := lk_names h
  rw [h0] at wt
  show t_Ring_kept K Z _ [some (.ref r), some (.int i), none, none, none] H
  unfold t_Ring_kept
  walk_at "go"
  refine s_items0 s wt fun l H1 s1 => ?_
  walk_at "go"
  rename_i l2 H2 s2
  rw [show srt [] = [] from List.mergeSort_nil] at s2
  refine fm_list s2 inferInstance inferInstance [] V.int rfl (fun _ => true) (fun z => .int z) (fun D i z H2 hz s2 => ?_) (fin_mp fun D H2 s2 => ?_)
  · cases hz
  exact q D H2 (SatI.ent (L := ⟨D, Pt (.lst [])⟩ :: _) s2)
def t_Ring___init__ (K : PySem.W.Frag) (Z : Ad) : TS :=
  (tSeq (tAsg (tCl (sp_space_of K Z) [.pos 0] [] [] 1 0 (fun _ => E0) (tCons (tVar 2) tNil) tNil) (gName 4))
  (tSeq (tIfS (tNot (tB (tCl (sp_is_length K Z) [.pos 0] [] [] 1 0 (fun _ => E0) (tCons (tVar 3) tNil) tNil))) tNever tNext)
  (tSeq (tIfS (tNot (tB (tCl (sp_are_base K Z) [.pos 0, .pos 1, .pos 2] [] [] 3 0 (fun _ => E0) (tCons (tVar 4) (tCons (tVar 1) (tCons (tVar 3) tNil))) tNil))) tNever tNext)
  (tSeq (sFld K (tVar 0) (tVar 4) "circle")
  (tSeq (sFld K (tVar 0) (tVar 3) "many")
  (tSeq (sFld K (tVar 0) (tCB (rSortedI K) (tCons (tVar 1) tNil)) "fixed")
  (tSeq (sFld K (tVar 0) (tDc (iList K (tFld K (tVar 0) "fixed")) (gName 5) tYes (tVar 5) (tCl (sp_right_node K Z) [.pos 0, .pos 1, .pos 2, .pos 3] [] [] 4 0 (fun _ => E0) (tCons (tVar 4) (tCons (tFld K (tVar 0) "fixed") (tCons (tVar 5) (tCons (tVar 3) tNil)))) tNil) [5]) "nodes")
  (tSeq (sFld K (tVar 0) (tC (.int 0)) "stamps")
  (sFld K (tVar 0) (tLst tNil) "done")))))))))
theorem rd_Ring___init__ (K : PySem.W.Frag) (Z : Ad) (C : CRg K Z) : ∀ vs H Q E, sp_Ring___init__ K Z vs H Q E → t_Ring___init__ K Z { nx := fun _ H' => Q .non H', rt := Q } (start (["self", "base", "bits", "length", "circle", "name"]) vs) H := by
  rintro _ H Q E ⟨x, dx, l, b, k, ns, L, rfl, s, hb, hk, hn, h1, h2, q⟩
  cases C
  show t_Ring___init__ K Z _ [some (.ref x), some (.ref l), some (.int b), some (.int k), none, none] H
  unfold t_Ring___init__
  walk_at "on"
  rename_i c H1 s1
  have hk2 : inB 1 5 (.int k) = true := by
    show (decide (1 ≤ k) && decide (k < 5)) = true
    rw [decide_eq_true hk.1, decide_eq_true (show k < 5 by omega)]
    rfl
  walk_at "on"
  rw [hk2]
  walk_at "go"
  walk_at "on"
  rename_i fx H3 s3 H4 s4
  have hp := srt_perm ns
  have hl := hp.length_eq
  have hnd : (srt ns).Nodup := hp.nodup_iff.mpr h2
  have tl : ∀ i, ((srt ns).take i).length ≤ 8 := fun i => by rw [List.length_take]; omega
  refine sdc_list s4 inferInstance inferInstance (fun i kvs L' => ∃ ad, kvs = nDict ad (((srt ns).take i).map fun n => (n, rightN b.toNat (srt ns) n k)) ∧ L' = ⟨x, Pt (.ins Z.Ring dx [("circle", .ref c), ("many", .int k), ("fixed", .ref fx)])⟩ :: ⟨l, LI ns⟩ :: ⟨c, SpA Z b.toNat⟩ :: (nAtoms Z ad (((srt ns).take i).map fun n => (n, rightN b.toNat (srt ns) n k)) ++ L)) ?_ ?_ ?_
  · exact ⟨fun _ => 0, rfl, rfl⟩
  · rintro D i z kvs L' H' hz ⟨ad, rfl, rfl⟩ s5
    obtain ⟨n, hn, rfl⟩ := get_map hz
    dsimp only [wipe, List.set]
    walk_at "go"
    rename_i a H5 s6
    have nin : n ∉ ((((srt ns).take i).map fun n => (n, rightN b.toNat (srt ns) n k)).map (·.1)) := by
      rw [List.map_map]
      intro hm
      obtain ⟨y, hy, e⟩ := List.mem_map.mp hm
      have e : y = n := e
      subst e
      obtain ⟨j, hj⟩ := List.mem_iff_getElem?.mp hy
      rw [List.getElem?_take] at hj
      by_cases hji : j < i
      · rw [if_pos hji] at hj
        obtain ⟨a1, a2⟩ := List.getElem?_eq_some_iff.mp hj
        obtain ⟨b1, b2⟩ := List.getElem?_eq_some_iff.mp hn
        exact List.pairwise_iff_getElem.mp hnd j i a1 b1 hji (a2.trans b2.symm)
      · rw [if_neg hji] at hj
        cases hj
    have tk : ((srt ns).take (i + 1)).map (fun n => (n, rightN b.toNat (srt ns) n k)) = ((srt ns).take i).map (fun n => (n, rightN b.toNat (srt ns) n k)) ++ [(n, rightN b.toNat (srt ns) n k)] := by
      rw [List.take_add_one, hn, List.map_append]
      rfl
    have tl := tl i
    have tl2 : (nDict ad (((srt ns).take i).map fun n => (n, rightN b.toNat (srt ns) n k))).length ≤ 8 := by unfold nDict; rw [List.length_map, List.length_map]; exact tl
    rw [tk]
    generalize ((srt ns).take i).map (fun n => (n, rightN b.toNat (srt ns) n k)) = M at *
    have s7 := s6.ent (L' := ⟨D, Pt (.dK (nDict ad M))⟩ :: ⟨fx, LI (srt ns)⟩ :: ⟨x, Pt (.ins Z.Ring dx [("circle", .ref c), ("many", .int k), ("fixed", .ref fx)])⟩ :: ⟨l, LI ns⟩ :: ⟨c, SpA Z b.toNat⟩ :: ⟨a, NodeX Z (rightN b.toNat (srt ns) n k)⟩ :: (nAtoms Z ad M ++ L))
    have s8 := s7.perm (L' := ⟨D, Pt (.dK (nDict ad M))⟩ :: ⟨fx, LI (srt ns)⟩ :: ⟨x, Pt (.ins Z.Ring dx [("circle", .ref c), ("many", .int k), ("fixed", .ref fx)])⟩ :: ⟨l, LI ns⟩ :: ⟨c, SpA Z b.toNat⟩ :: (nAtoms Z (addA ad n a) (M ++ [(n, rightN b.toNat (srt ns) n k)]) ++ L)) (by
      rw [nAtoms_add nin, List.append_assoc]
      iterate 5 refine List.Perm.cons _ ?_
      exact List.perm_middle.symm)
    exact ⟨_, Sum.inl n, rfl, s8.at0, sz_less (by omega), _, _, ⟨addA ad n a, nDict_add nin, rfl⟩, s8.put mutO_dK rfl⟩
  · rintro D kvs L' H' ⟨ad, rfl, rfl⟩ s5
    rw [List.take_of_length_le (by rw [List.length_map]; exact Nat.le_refl _)] at s5
    walk_at "go"
    rename_i dn H6 s6 H7 s7
    refine q ad H7 ?_
    have s8 := s7.ent (L' := ⟨x, Pt (.ins Z.Ring dx [("circle", .ref c), ("many", .int k), ("fixed", .ref fx), ("nodes", .ref D), ("stamps", .int 0), ("done", .ref dn)])⟩ :: ⟨c, SpA Z b.toNat⟩ :: ⟨fx, LI (srt ns)⟩ :: ⟨dn, LV []⟩ :: ⟨D, Pt (.dK (nDict ad ((srt ns).map fun n => (n, rightN b.toNat (srt ns) n k))))⟩ :: ⟨l, LI ns⟩ :: (nAtoms Z ad ((srt ns).map fun n => (n, rightN b.toNat (srt ns) n k)) ++ L))
    refine ring_close (dx := dx) (c := c) (fx := fx) (d := D) (dn := dn) (newR_wf (by omega) hk hn.2 h1 h2) (s8.perm ?_)
    show List.Perm _ (_ :: _ :: _ :: _ :: _ :: (nAtoms Z ad ((srt ns).map fun n => (n, rightN b.toNat (srt ns) n k)) ++ (⟨l, LI ns⟩ :: L)))
    iterate 5 refine List.Perm.cons _ ?_
    exact List.perm_middle.symm
end NN
/-! own: plain facts of points on a ring -/
namespace NN
open PySem L2
theorem mem_of_filt {α : Type} {P : α → Bool} {l : List α} {x : α} (h : x ∈ l.filter P) : x ∈ l := (List.mem_filter.mp h).1
theorem dist_inj2 {m p x y : Int} (hx : 0 ≤ x ∧ x < m) (hy : 0 ≤ y ∧ y < m) (h : (x - p) % m = (y - p) % m) : x = y := by
  have e : (x - y) % m = 0 := by
    rw [show x - y = (x - p) - (y - p) from by omega, Int.sub_emod, h, Int.sub_self, Int.zero_emod]
  rcases mod_s (z := x - y) (m := m) (by omega) (by omega) with a | a <;> omega
theorem prec_key2 {m p x : Int} (hm : 0 < m) : (p - 1 - x) % m = m - 1 - (x - p) % m := by
  have h0 := Int.emod_nonneg (x - p) (show m ≠ 0 by omega)
  have h1 := Int.emod_lt_of_pos (x - p) hm
  have e : p - 1 - x = (m - 1 - (x - p) % m) + m * (-((x - p) / m) - 1) := by
    have := Int.mul_ediv_add_emod (x - p) m
    rw [Int.mul_sub, Int.mul_neg, Int.mul_one]
    omega
  rw [e, Int.add_mul_emod_self_left, Int.emod_eq_of_lt (by omega) (by omega)]
section
variable {key : Int → Int} {ns ms l : List Int} {m nm : Int}
theorem sortK_perm : (NL.sortK key ns).Perm ns := List.mergeSort_perm _ _
theorem sortK_pw : (NL.sortK key ns).Pairwise fun a b => key a ≤ key b := by
  have := List.pairwise_mergeSort (le := fun a b : Int => decide (key a ≤ key b)) (fun a b c h1 h2 => by simp at *; omega) (fun a b => by simp; omega) ns
  exact this.imp fun h => by simpa using h
theorem sortK_uniq (p : l.Perm ns) (h : l.Pairwise fun a b => key a ≤ key b) (inj : ∀ x ∈ ns, ∀ y ∈ ns, key x = key y → x = y) : l = NL.sortK key ns :=
  List.Perm.eq_of_pairwise (fun a b ha hb h1 h2 => inj a (p.mem_iff.mp ha) b (sortK_perm.mem_iff.mp hb) (Int.le_antisymm h1 h2)) h sortK_pw (p.trans sortK_perm.symm)
theorem sortK_eq (p : ms.Perm ns) (inj : ∀ x ∈ ns, ∀ y ∈ ns, key x = key y → x = y) : NL.sortK key ms = NL.sortK key ns := sortK_uniq (sortK_perm.trans p) sortK_pw inj
theorem sortK_lt (nd : ns.Nodup) (inj : ∀ x ∈ ns, ∀ y ∈ ns, key x = key y → x = y) : (NL.sortK key ns).Pairwise fun a b => key a < key b := by
  have h1 := (sortK_perm (key := key) (ns := ns)).nodup_iff.mpr nd
  have h2 := (sortK_pw (key := key) (ns := ns)).and h1
  exact h2.imp_of_mem fun {a b} ha hb h => by
    have : key a ≠ key b := fun e => h.2 (inj a (sortK_perm.mem_iff.mp ha) b (sortK_perm.mem_iff.mp hb) e)
    have := h.1
    omega
/-- the others upwards from a name -/
def othF (m nm : Int) (ns : List Int) : List Int := NL.sortK (fun n => (n - nm) % m) (ns.filter fun n => !decide (n = nm))
theorem othP_eq (hn : InSp m ns) (p : ms.Perm ns) : othP m nm ms = othF m nm ns := by
  unfold othP othF upwP
  refine sortK_uniq ((sortK_perm.filter _).trans (p.filter _)) (sortK_pw.filter _) fun x hx y hy e => dist_inj2 (hn x (mem_of_filt hx)) (hn y (mem_of_filt hy)) e
theorem othF_perm : (othF m nm ns).Perm (ns.filter fun n => !decide (n = nm)) := sortK_perm
theorem othF_mem {x : Int} : x ∈ othF m nm ns ↔ x ∈ ns ∧ x ≠ nm := by
  rw [othF_perm.mem_iff, List.mem_filter]
  simp
theorem othF_lt (hn : InSp m ns) (nd : ns.Nodup) : (othF m nm ns).Pairwise fun a b => (a - nm) % m < (b - nm) % m :=
  sortK_lt (nd.filter _) fun x hx y hy e => dist_inj2 (hn x (mem_of_filt hx)) (hn y (mem_of_filt hy)) e
theorem filter_ne_len (nd : ns.Nodup) (h : nm ∈ ns) : (ns.filter fun n => !decide (n = nm)).length + 1 = ns.length := by
  induction ns with
  | nil => cases h
  | cons a r ih =>
    have nd := List.nodup_cons.mp nd
    rw [List.filter_cons]
    by_cases e : a = nm
    · subst e
      rw [if_neg (by simp)]
      rw [List.filter_eq_self.mpr fun x hx => by
        have : x ≠ a := fun z => nd.1 (z ▸ hx)
        simp [this]]
      rfl
    · rw [if_pos (by simp [e]), List.length_cons, List.length_cons, ih nd.2 ((List.mem_cons.mp h).resolve_left fun z => e z.symm)]
theorem othF_len (nd : ns.Nodup) (h : nm ∈ ns) : (othF m nm ns).length + 1 = ns.length := by rw [othF_perm.length_eq, filter_ne_len nd h]
/-- the nearest is the first of all put in order -/
theorem near_head {t : Int} (hn : InSp m ns) (p : ms.Perm ns) (h0 : 0 < ns.length) : ∃ r, NL.sortK (fun n => (n - t) % m) ns = nearF m t ms :: r := by
  obtain ⟨i, fb⟩ := nearP_is (m := m) (pt := t) (ns := ms) (by rw [p.length_eq]; exact h0)
  have pm := sortK_perm (key := fun n => (n - t) % m) (ns := ns)
  have pw := sortK_pw (key := fun n => (n - t) % m) (ns := ns)
  cases hA : NL.sortK (fun n => (n - t) % m) ns with
  | nil => rw [hA] at pm; rw [← pm.length_eq] at h0; exact absurd h0 (Nat.lt_irrefl _)
  | cons a r =>
    rw [hA] at pm pw
    have ha := pm.mem_iff.mp List.mem_cons_self
    have hf := p.mem_iff.mp (List.mem_of_getElem? fb.1)
    have h1 : ¬ (a - t) % m < (nearF m t ms - t) % m := fb.2.1 a (p.mem_iff.mpr ha)
    have h2 : (a - t) % m ≤ (nearF m t ms - t) % m := by
      rcases List.mem_cons.mp (pm.mem_iff.mpr hf) with e | e
      · rw [e]; exact Int.le_refl _
      · exact (List.pairwise_cons.mp pw).1 _ e
    rw [dist_inj2 (hn a ha) (hn _ hf) (Int.le_antisymm h2 (Int.not_lt.mp h1))]
    exact ⟨r, rfl⟩
theorem nearF_mem {t : Int} (h0 : 0 < ns.length) : nearF m t ns ∈ ns := by
  obtain ⟨i, fb⟩ := nearP_is (m := m) (pt := t) (ns := ns) h0
  exact List.mem_of_getElem? fb.1
theorem nearF_min {t x : Int} (h0 : 0 < ns.length) (hx : x ∈ ns) : (nearF m t ns - t) % m ≤ (x - t) % m := by
  obtain ⟨i, fb⟩ := nearP_is (m := m) (pt := t) (ns := ns) h0
  exact Int.not_lt.mp (fb.2.1 x hx)
theorem nearF_is {t x : Int} (hn : InSp m ns) (hx : x ∈ ns) (h : ∀ y ∈ ns, (x - t) % m ≤ (y - t) % m) : nearF m t ns = x := by
  have h0 := List.length_pos_of_mem hx
  have hf := nearF_mem (m := m) (t := t) h0
  exact dist_inj2 (hn _ hf) (hn x hx) (Int.le_antisymm (nearF_min h0 hx) (h _ hf))
theorem nearF_perm {t : Int} (hn : InSp m ns) (p : ms.Perm ns) (h0 : 0 < ns.length) : nearF m t ms = nearF m t ns := by
  obtain ⟨r, e⟩ := near_head (t := t) hn p h0
  obtain ⟨r2, e2⟩ := near_head (t := t) hn (.refl _) h0
  rw [e] at e2
  exact (List.cons.inj e2).1
theorem precF_mem {t : Int} (h0 : 0 < ns.length) : precF m t ns ∈ ns := by
  obtain ⟨i, fb⟩ := precP_is (m := m) (pt := t) (ns := ns) h0
  exact List.mem_of_getElem? fb.1
theorem precF_max {t x : Int} (hm : 0 < m) (h0 : 0 < ns.length) (hx : x ∈ ns) : (x - t) % m ≤ (precF m t ns - t) % m := by
  obtain ⟨i, fb⟩ := precP_is (m := m) (pt := t) (ns := ns) h0
  have : ¬ (t - 1 - x) % m < (t - 1 - precF m t ns) % m := fb.2.1 x hx
  rw [prec_key2 hm, prec_key2 hm] at this
  omega
/-- the preceding one is the last of the others -/
theorem prec_last (hm : 0 < m) (hn : InSp m ns) (nd : ns.Nodup) (p : ms.Perm ns) (hnm : nm ∈ ns) (h2 : 2 ≤ ns.length) : (othF m nm ns).getLast? = some (precF m nm ms) := by
  have hl := othF_len (m := m) nd hnm
  have h0 : 0 < ms.length := by rw [p.length_eq]; omega
  have hf := p.mem_iff.mp (precF_mem (m := m) (t := nm) h0)
  have pos : ∀ x ∈ othF m nm ns, 0 < (x - nm) % m := fun x hx => by
    obtain ⟨a, b⟩ := othF_mem.mp hx
    have := Int.emod_nonneg (x - nm) (show m ≠ 0 by omega)
    have ne : (x - nm) % m ≠ (nm - nm) % m := fun e => b (dist_inj2 (hn x a) (hn nm hnm) e)
    rw [Int.sub_self, Int.zero_emod] at ne
    omega
  have lt := othF_lt (nm := nm) hn nd
  cases hA : (othF m nm ns).reverse with
  | nil => rw [List.reverse_eq_nil_iff] at hA; rw [hA] at hl; simp at hl; omega
  | cons z r =>
    have e : othF m nm ns = (z :: r).reverse := by rw [← hA, List.reverse_reverse]
    have hz : z ∈ othF m nm ns := by rw [e]; simp
    rw [e, List.getLast?_reverse, List.head?_cons]
    have zm := (othF_mem.mp hz).1
    have h1 := precF_max (t := nm) hm h0 (p.mem_iff.mpr zm)
    have h3 := pos z hz
    have fo : precF m nm ms ∈ othF m nm ns := othF_mem.mpr ⟨hf, fun e => by rw [e, Int.sub_self, Int.zero_emod] at h1; omega⟩
    have h4 : (precF m nm ms - nm) % m ≤ (z - nm) % m := by
      rw [e] at fo lt
      rw [List.pairwise_reverse] at lt
      rcases List.mem_cons.mp (List.mem_reverse.mp fo) with k | k
      · rw [k]; exact Int.le_refl _
      · exact Int.le_of_lt ((List.pairwise_cons.mp lt).1 _ k)
    rw [dist_inj2 (hn _ hf) (hn z zm) (Int.le_antisymm h4 h1)]
theorem at_last {ns : List Int} {z : Int} (h : ns.getLast? = some z) : atI (ns.map V.int) (-1) = some (.int z) := by
  obtain ⟨l, rfl⟩ := List.getLast?_eq_some_iff.mp h
  rw [List.map_append]
  exact atI_last _ _
theorem inB_T {m z : Int} (h : 0 ≤ z ∧ z < m) : inB 0 m (.int z) = true := by
  show (decide (0 ≤ z) && decide (z < m)) = true
  rw [decide_eq_true h.1, decide_eq_true h.2]
  rfl
theorem bl_true {α : Type} {as : List α} : (as.map fun _ => V.bl true) = (as.map fun _ => true).map V.bl := by rw [List.map_map]; rfl
theorem all_true {α : Type} {as : List α} : (as.map fun _ => true).all id = true := by rw [List.all_map]; exact List.all_eq_true.mpr fun _ _ => rfl
theorem firstOf_head {a : Int} {r : List Int} (h : a ∈ ms) : firstOf (a :: r) ms = some a := if_pos h
end
end NN
/-! own: once round the ring -/
namespace NN
open PySem L2
section
variable {m nm x : Int} {ns U L1 L2 : List Int}
theorem dist_via {a b c : Int} (hm : 0 < m) : (b - a) % m = ((b - c) % m - (a - c) % m) % m := by
  rw [← Int.sub_emod, show b - c - (a - c) = b - a from by omega]
theorem dist_up {a b c : Int} (hm : 0 < m) (h : (a - c) % m ≤ (b - c) % m) : (b - a) % m = (b - c) % m - (a - c) % m := by
  rw [dist_via (c := c) hm]
  have h1 := Int.emod_lt_of_pos (b - c) hm
  have h2 := Int.emod_nonneg (a - c) (show m ≠ 0 by omega)
  exact Int.emod_eq_of_lt (by omega) (by omega)
theorem dist_dn {a b c : Int} (hm : 0 < m) (h : (b - c) % m < (a - c) % m) : (b - a) % m = (b - c) % m - (a - c) % m + m := by
  rw [dist_via (c := c) hm]
  have h1 := Int.emod_lt_of_pos (a - c) hm
  have h2 := Int.emod_nonneg (b - c) (show m ≠ 0 by omega)
  exact mod_c (by omega) (by omega)
/-- those behind, then those ahead -/
theorem othF_rot (hm : 0 < m) (hn : InSp m ns) (nd : ns.Nodup) (e : U = L1 ++ x :: L2) (p : U.Perm ns) (h : U.Pairwise fun a b => (a - nm) % m < (b - nm) % m) : othF m x ns = L2 ++ L1 := by
  subst e
  have ndU := p.nodup_iff.mpr nd
  obtain ⟨p1, p2, p3⟩ := List.pairwise_append.mp h
  obtain ⟨q1, q2⟩ := List.pairwise_cons.mp p2
  have x1 : ∀ a ∈ L1, (a - nm) % m < (x - nm) % m := fun a ha => p3 a ha x List.mem_cons_self
  unfold othF
  refine (sortK_uniq ?_ ?_ fun a ha b hb e => dist_inj2 (hn a (mem_of_filt ha)) (hn b (mem_of_filt hb)) e).symm
  · have f := p.filter fun n => !decide (n = x)
    refine List.Perm.trans ?_ f
    have n1 : ∀ a ∈ L1, a ≠ x := fun a ha e => by have := x1 a ha; rw [e] at this; omega
    have n2 : ∀ a ∈ L2, a ≠ x := fun a ha e => by have := q1 a ha; rw [e] at this; omega
    rw [List.filter_append, List.filter_cons_of_neg (by simp), List.filter_eq_self.mpr (fun a ha => by simp [n1 a ha]), List.filter_eq_self.mpr (fun a ha => by simp [n2 a ha])]
    exact List.perm_append_comm
  · have k1 : ∀ a ∈ L2, (a - x) % m = (a - nm) % m - (x - nm) % m := fun a ha => dist_up hm (Int.le_of_lt (q1 a ha))
    have k2 : ∀ a ∈ L1, (a - x) % m = (a - nm) % m - (x - nm) % m + m := fun a ha => dist_dn hm (x1 a ha)
    refine List.pairwise_append.mpr ⟨q2.imp_of_mem fun {a b} ha hb h => ?_, p1.imp_of_mem fun {a b} ha hb h => ?_, fun a ha b hb => ?_⟩
    · rw [k1 a ha, k1 b hb]; omega
    · rw [k2 a ha, k2 b hb]; omega
    · rw [k1 a ha, k2 b hb]
      have h1 := Int.emod_lt_of_pos (a - nm) hm
      have h2 := Int.emod_nonneg (b - nm) (show m ≠ 0 by omega)
      omega
/-- the ring in order from a name -/
def rnd (m nm : Int) (ns : List Int) : List Int := nm :: othF m nm ns
theorem rnd_perm (nd : ns.Nodup) (h : nm ∈ ns) : (rnd m nm ns).Perm ns := by
  unfold rnd
  refine (List.Perm.cons nm othF_perm).trans ?_
  rw [List.perm_iff_count]
  intro a
  rw [List.count_cons]
  by_cases e : a = nm
  · subst e
    have c1 : ns.count a = 1 := by rw [nd.count, if_pos h]
    rw [c1, List.count_eq_zero.mpr (by simp [List.mem_filter])]
    simp
  · rw [List.count_filter (by simp [e])]
    have : (nm == a) = false := beq_false_of_ne fun z => e z.symm
    rw [this]
    simp
theorem rnd_lt (hm : 0 < m) (hn : InSp m ns) (nd : ns.Nodup) (h : nm ∈ ns) : (rnd m nm ns).Pairwise fun a b => (a - nm) % m < (b - nm) % m := by
  refine List.pairwise_cons.mpr ⟨fun a ha => ?_, othF_lt hn nd⟩
  obtain ⟨h1, h2⟩ := othF_mem.mp ha
  rw [Int.sub_self, Int.zero_emod]
  have := Int.emod_nonneg (a - nm) (show m ≠ 0 by omega)
  have ne : (a - nm) % m ≠ (nm - nm) % m := fun e => h2 (dist_inj2 (hn a h1) (hn nm h) e)
  rw [Int.sub_self, Int.zero_emod] at ne
  omega
theorem rnd_len (nd : ns.Nodup) (h : nm ∈ ns) : (rnd m nm ns).length = ns.length := (rnd_perm nd h).length_eq
/-- once round, back to the name -/
def cyc (m nm : Int) (ns : List Int) : List Int := rnd m nm ns ++ [nm]
theorem cyc_len (nd : ns.Nodup) (h : nm ∈ ns) : (cyc m nm ns).length = ns.length + 1 := by unfold cyc; rw [List.length_append, rnd_len nd h]; rfl
theorem cyc_next {j : Nat} {a : Int} (hm : 0 < m) (hn : InSp m ns) (nd : ns.Nodup) (h : nm ∈ ns) (h2 : 2 ≤ ns.length) (hj : (cyc m nm ns)[j]? = some a) (hl : j < ns.length) :
    ∃ b t, (cyc m nm ns)[j + 1]? = some b ∧ othF m a ns = b :: t ∧ a ∈ ns := by
  have pl := rnd_len (m := m) nd h
  have pp := rnd_perm (m := m) nd h
  unfold cyc at hj ⊢
  rw [List.getElem?_append_left (by omega)] at hj
  obtain ⟨hj1, hj2⟩ := List.getElem?_eq_some_iff.mp hj
  have e : rnd m nm ns = (rnd m nm ns).take j ++ a :: (rnd m nm ns).drop (j + 1) := by
    rw [← hj2, ← List.drop_eq_getElem_cons hj1, List.take_append_drop]
  have o := othF_rot hm hn nd e pp (rnd_lt hm hn nd h)
  have ha : a ∈ ns := pp.mem_iff.mp (List.mem_of_getElem? hj)
  by_cases q : j + 1 < ns.length
  · have q' : j + 1 < (rnd m nm ns).length := by omega
    refine ⟨(rnd m nm ns)[j + 1], (rnd m nm ns).drop (j + 2) ++ (rnd m nm ns).take j, by rw [List.getElem?_append_left q', List.getElem?_eq_getElem q'], ?_, ha⟩
    rw [o, List.drop_eq_getElem_cons q']
    rfl
  · have q1 : j + 1 = (rnd m nm ns).length := by omega
    obtain ⟨i, hi⟩ : ∃ i, j = i + 1 := ⟨j - 1, by omega⟩
    refine ⟨nm, (othF m nm ns).take i, by rw [q1, List.getElem?_append_right (Nat.le_refl _), Nat.sub_self]; rfl, ?_, ha⟩
    rw [o, q1, List.drop_length, hi]
    rfl
theorem cyc_prev {j : Nat} {a : Int} (hm : 0 < m) (hn : InSp m ns) (nd : ns.Nodup) (h : nm ∈ ns) (h2 : 2 ≤ ns.length) (hj : (cyc m nm ns)[j + 1]? = some a) : ∃ b, (cyc m nm ns)[j]? = some b ∧ (othF m a ns).getLast? = some b ∧ a ∈ ns := by
  have pl := rnd_len (m := m) nd h
  have pp := rnd_perm (m := m) nd h
  have hjl := (List.getElem?_eq_some_iff.mp hj).1
  rw [cyc_len nd h] at hjl
  unfold cyc at hj ⊢
  have hj0 : j < (rnd m nm ns).length := by omega
  rw [List.getElem?_append_left hj0, List.getElem?_eq_getElem hj0]
  by_cases q : j + 1 < (rnd m nm ns).length
  · rw [List.getElem?_append_left q] at hj
    obtain ⟨_, hj2⟩ := List.getElem?_eq_some_iff.mp hj
    have e : rnd m nm ns = (rnd m nm ns).take (j + 1) ++ a :: (rnd m nm ns).drop (j + 2) := by
      rw [← hj2, ← List.drop_eq_getElem_cons q, List.take_append_drop]
    have o := othF_rot hm hn nd e pp (rnd_lt hm hn nd h)
    refine ⟨_, rfl, ?_, pp.mem_iff.mp (List.mem_of_getElem? hj)⟩
    rw [o, List.take_add_one, List.getElem?_eq_getElem hj0, Option.toList_some, ← List.append_assoc, List.getLast?_append]
    rfl
  · have q1 : j + 1 = (rnd m nm ns).length := by omega
    rw [q1, List.getElem?_append_right (Nat.le_refl _), Nat.sub_self] at hj
    have hj : nm = a := Option.some.inj hj
    subst hj
    refine ⟨_, rfl, ?_, h⟩
    have : (rnd m nm ns).getLast? = some (rnd m nm ns)[j] := by
      rw [List.getLast?_eq_getElem?, ← q1, Nat.add_sub_cancel, List.getElem?_eq_getElem hj0]
    rw [← this]
    unfold rnd
    cases hO : othF m nm ns with
    | nil => unfold rnd at pl; rw [hO] at pl; simp at pl; omega
    | cons b t => rw [List.getLast?_cons_cons]
theorem cyc_back {ms : List Int} (hm : 0 < m) (hn : InSp m ns) (nd : ns.Nodup) (h : nm ∈ ns) (h2 : 2 ≤ ns.length) (pm : ms.Perm ns) : ((cyc m nm ns).drop 1).map (fun z => precF m z ms) = (cyc m nm ns).dropLast := by
  refine List.ext_getElem? fun j => ?_
  rw [List.getElem?_map, List.getElem?_drop, List.getElem?_dropLast, cyc_len nd h]
  by_cases q : j < ns.length + 1 - 1
  · rw [if_pos q]
    have hj : 1 + j < (cyc m nm ns).length := by rw [cyc_len nd h]; omega
    obtain ⟨b, e1, e2, e3⟩ := cyc_prev (j := j) hm hn nd h h2 (a := (cyc m nm ns)[1 + j]) (by rw [Nat.add_comm j 1]; exact List.getElem?_eq_getElem hj)
    rw [List.getElem?_eq_getElem hj, e1, ← e2, prec_last hm hn nd pm e3 h2]
    rfl
  · rw [if_neg q, List.getElem?_eq_none (by rw [cyc_len nd h]; omega)]
    rfl
/-- the steps of a way -/
def stp (m : Int) : List Int → List Int
  | a :: b :: r => (b - a) % m :: stp m (b :: r)
  | _ => []
theorem stp_zip : ∀ W : List Int, (W.zip (W.drop 1)).map (fun z => (z.2 - z.1) % m) = stp m W
  | [] => rfl
  | [_] => rfl
  | a :: b :: r => by
    have ih := stp_zip (b :: r)
    show (b - a) % m :: ((b :: r).zip r).map (fun z => (z.2 - z.1) % m) = (b - a) % m :: stp m (b :: r)
    rw [← ih]
    rfl
theorem stp_round (hm : 0 < m) : ∀ (r : List Int) (a : Int), (a :: r).Pairwise (fun a b => (a - nm) % m < (b - nm) % m) → (r ≠ [] ∨ 0 < (a - nm) % m) → (stp m (a :: r ++ [nm])).sum = m - (a - nm) % m ∧ 0 ∉ stp m (a :: r ++ [nm])
  | [], a, h, k => by
    have k : 0 < (a - nm) % m := k.resolve_left fun z => z rfl
    have e : (nm - a) % m = m - (a - nm) % m := by
      have z : (nm - nm) % m < (a - nm) % m := by rw [Int.sub_self, Int.zero_emod]; exact k
      rw [dist_dn hm z, Int.sub_self, Int.zero_emod]
      omega
    have h1 := Int.emod_lt_of_pos (a - nm) hm
    show ([(nm - a) % m] : List Int).sum = _ ∧ (0 : Int) ∉ [(nm - a) % m]
    rw [e]
    refine ⟨by simp, ?_⟩
    simp
    omega
  | b :: r, a, h, k => by
    have hc := List.pairwise_cons.mp h
    have hab := hc.1 b List.mem_cons_self
    have h0 := Int.emod_nonneg (a - nm) (show m ≠ 0 by omega)
    obtain ⟨i1, i2⟩ := stp_round hm r b hc.2 (.inr (by omega))
    show ((b - a) % m :: stp m (b :: r ++ [nm])).sum = _ ∧ (0 : Int) ∉ (b - a) % m :: stp m (b :: r ++ [nm])
    rw [dist_up hm (Int.le_of_lt hab), List.sum_cons, i1]
    refine ⟨by omega, fun z => ?_⟩
    rcases List.mem_cons.mp z with z | z
    · omega
    · exact i2 z
theorem cyc_steps (hm : 0 < m) (hn : InSp m ns) (nd : ns.Nodup) (h : nm ∈ ns) (h2 : 2 ≤ ns.length) : (stp m (cyc m nm ns)).sum = m ∧ 0 ∉ stp m (cyc m nm ns) := by
  have hl := othF_len (m := m) nd h
  have := stp_round (nm := nm) hm (othF m nm ns) nm (rnd_lt hm hn nd h) (.inl fun e => by rw [e] at hl; simp at hl; omega)
  rw [Int.sub_self, Int.zero_emod, Int.sub_zero] at this
  exact this
end
end NN
namespace NN
open PySem L2
theorem nodup_le3 : ∀ {a b : List Int}, a.Nodup → (∀ x ∈ a, x ∈ b) → a.length ≤ b.length
  | [], _, _, _ => Nat.zero_le _
  | x :: a, b, h, k => by
    have h2 := List.nodup_cons.mp h
    have hx := k x List.mem_cons_self
    have ih := nodup_le3 (a := a) (b := b.erase x) h2.2 fun y hy => (List.mem_erase_of_ne (fun e => h2.1 (by rw [← e]; exact hy))).mpr (k y (List.mem_cons_of_mem _ hy))
    rw [List.length_erase_of_mem hx] at ih
    have := List.length_pos_of_mem hx
    rw [List.length_cons]
    omega
/-! ### lookups: what they come to -/
def isM (G : RingM) : Option Int → Bool
  | some i => decide (i ∈ G.names)
  | none => false
/-- the members that a node knows, its list first -/
def kn (G : RingM) (nd : NodeM) : List Int := (nd.chain.map some ++ nd.far).filterMap fun o => if isM G o = true then o else none
theorem kn_mem {G : RingM} {nd : NodeM} {x : Int} : x ∈ kn G nd ↔ x ∈ G.names ∧ (x ∈ nd.chain ∨ some x ∈ nd.far) := by
  unfold kn
  rw [List.mem_filterMap]
  constructor
  · rintro ⟨o, ho, h⟩
    cases o with
    | none => simp at h
    | some i =>
      by_cases hm : isM G (some i) = true
      · rw [if_pos hm] at h
        cases h
        refine ⟨of_decide_eq_true hm, ?_⟩
        rcases List.mem_append.mp ho with h | h
        · obtain ⟨y, hy, e⟩ := List.mem_map.mp h
          cases e
          exact .inl hy
        · exact .inr h
      · rw [if_neg hm] at h; cases h
  · rintro ⟨h1, h2⟩
    refine ⟨some x, List.mem_append.mpr (h2.imp (fun h => List.mem_map.mpr ⟨x, h, rfl⟩) fun h => h), ?_⟩
    exact if_pos (decide_eq_true h1)
theorem kn_vals {G : RingM} {nd : NodeM} : ((nd.chain.map some ++ nd.far).filter (isM G)).map ov = (kn G nd).map V.int := by
  unfold kn
  induction (nd.chain.map some ++ nd.far) with
  | nil => rfl
  | cons o r ih =>
    rw [List.filter_cons, List.filterMap_cons]
    cases o with
    | none => exact ih
    | some i =>
      by_cases hm : isM G (some i) = true
      · rw [if_pos hm, if_pos hm, List.map_cons, ih]; rfl
      · rw [if_neg hm, if_neg hm, ih]
/-- .. between it and a point -/
def bw (G : RingM) (nd : NodeM) (here pt : Int) : List Int := (kn G nd).filter fun x => betw (2 ^ G.bits) x here pt
noncomputable def farM (G : RingM) (nd : NodeM) (here pt : Int) : Int := bst (fun x => -((x - here) % 2 ^ G.bits)) (bw G nd here pt)
theorem best_neg {f : Int → Int} {ns : List Int} {i : Nat} {n : Int} (h : NL.FirstBest (· > ·) f ns i n) : NL.FirstBest (· < ·) (fun x => -f x) ns i n :=
  ⟨h.1, fun m hm => by have := h.2.1 m hm; show ¬ (-f m < -f n); omega, fun j m hj e => by have := h.2.2 j m hj e; show -f n < -f m; omega⟩
theorem bst_is {f : Int → Int} {ns : List Int} (h : 0 < ns.length) : ∃ i, NL.FirstBest (· < ·) f ns i (bst f ns) := by
  obtain ⟨n, h1, h2, h3, h4⟩ := NL.best_min (key := f) (ns := ns) (ns.length - 1) (by omega)
  have fb : NL.FirstBest (· < ·) f ns _ n := ⟨h2, fun x hx => by
    obtain ⟨j, hj⟩ := List.mem_iff_getElem?.mp hx
    have := h3 j x (by have := (List.getElem?_eq_some_iff.mp hj).1; omega) hj
    exact Int.not_lt.mpr this, h4⟩
  rw [← bst_eq fb]
  exact ⟨_, fb⟩
theorem farM_mem {G : RingM} {nd : NodeM} {here pt : Int} (h : 0 < (bw G nd here pt).length) : farM G nd here pt ∈ bw G nd here pt := by
  obtain ⟨i, fb⟩ := bst_is (f := fun x => -((x - here) % 2 ^ G.bits)) h
  exact List.mem_of_getElem? fb.1
theorem farM_max {G : RingM} {nd : NodeM} {here pt x : Int} (hx : x ∈ bw G nd here pt) : (x - here) % 2 ^ G.bits ≤ (farM G nd here pt - here) % 2 ^ G.bits := by
  obtain ⟨i, fb⟩ := bst_is (f := fun x => -((x - here) % 2 ^ G.bits)) (List.length_pos_of_mem hx)
  have : ¬ (-((x - here) % 2 ^ G.bits) < -((farM G nd here pt - here) % 2 ^ G.bits)) := fb.2.1 x hx
  omega
def nxt (G : RingM) (here : Int) : Option Int := match lk G.nodes here with | some nd => firstOf nd.chain (srt G.names) | none => none
noncomputable def farO (G : RingM) (here pt : Int) : Int := match lk G.nodes here with | some nd => farM G nd here pt | none => 0
theorem firstOf_some {a : Int} : ∀ {ns ms : List Int}, firstOf ns ms = some a → a ∈ ns ∧ a ∈ ms
  | [], _, h => by cases h
  | n :: r, ms, h => by
    unfold firstOf at h
    by_cases e : n ∈ ms
    · rw [if_pos e] at h
      cases h
      exact ⟨List.mem_cons_self, e⟩
    · rw [if_neg e] at h
      have := firstOf_some h
      exact ⟨List.mem_cons_of_mem _ this.1, this.2⟩
theorem nxt_some {G : RingM} {here a : Int} (h : nxt G here = some a) : ∃ nd, lk G.nodes here = some nd ∧ firstOf nd.chain (srt G.names) = some a ∧ a ∈ nd.chain ∧ a ∈ G.names := by
  unfold nxt at h
  cases e : lk G.nodes here with
  | none => rw [e] at h; cases h
  | some nd =>
    rw [e] at h
    have := firstOf_some h
    exact ⟨nd, rfl, h, this.1, (srt_perm _).mem_iff.mp this.2⟩
/-- where a lookup ends at a member -/
def endO (G : RingM) (here pt : Int) : Option Int :=
  if here = pt then some here else match nxt G here with
    | some a => if pt = a ∨ betw (2 ^ G.bits) pt here a = true then some a else none
    | none => none
/-- where it goes on, the next is between -/
theorem next_betw {G : RingM} {here pt a : Int} (w : WfR G) (hh : here ∈ G.names) (hp : 0 ≤ pt ∧ pt < 2 ^ G.bits) (h : nxt G here = some a) (he : endO G here pt = none) : ∃ nd, lk G.nodes here = some nd ∧ a ∈ bw G nd here pt := by
  obtain ⟨nd, h1, h2, h3, h4⟩ := nxt_some h
  refine ⟨nd, h1, List.mem_filter.mpr ⟨kn_mem.mpr ⟨h4, .inl h3⟩, ?_⟩⟩
  unfold endO at he
  by_cases e1 : here = pt
  · rw [if_pos e1] at he; cases he
  · rw [if_neg e1, h] at he
    simp only at he
    by_cases e2 : pt = a ∨ betw (2 ^ G.bits) pt here a = true
    · rw [if_pos e2] at he; cases he
    · have n1 : pt ≠ a := fun z => e2 (.inl z)
      have n2 : betw (2 ^ G.bits) pt here a = false := by
        cases z : betw (2 ^ G.bits) pt here a with
        | false => rfl
        | true => exact absurd (.inr z) e2
      have r1 := w.rg here hh
      have r2 := w.rg a h4
      have hm := pw_lo w.lo
      have ppos := betw_pos hm hp r1 (fun z => e1 z.symm)
      unfold betw at n2 ⊢
      rw [decide_eq_true ppos, Bool.true_and, Bool.or_eq_false_iff, decide_eq_false_iff_not, decide_eq_false_iff_not] at n2
      have apos := betw_pos hm r2 r1 (fun z => n2.1 z.symm)
      have ne : (pt - here) % 2 ^ G.bits ≠ (a - here) % 2 ^ G.bits := fun z => n1 (dist_inj2 hp r2 z)
      rw [decide_eq_true apos, Bool.true_and, Bool.or_eq_true, decide_eq_true_eq, decide_eq_true_eq]
      exact .inr (by omega)
/-- the hop goes to a member, strictly nearer -/
theorem hop_near {G : RingM} {here pt a : Int} (w : WfR G) (hh : here ∈ G.names) (hp : 0 ≤ pt ∧ pt < 2 ^ G.bits) (h : nxt G here = some a) (he : endO G here pt = none) :
    farO G here pt ∈ G.names ∧ (pt - farO G here pt) % 2 ^ G.bits < (pt - here) % 2 ^ G.bits ∧ 0 < (farO G here pt - here) % 2 ^ G.bits ∧ (farO G here pt - here) % 2 ^ G.bits < (pt - here) % 2 ^ G.bits := by
  obtain ⟨nd, h1, h2⟩ := next_betw w hh hp h he
  have e : farO G here pt = farM G nd here pt := by unfold farO; rw [h1]
  have hf := List.mem_filter.mp (farM_mem (List.length_pos_of_mem h2))
  rw [← e] at hf
  obtain ⟨f1, f2⟩ := hf
  have fm := (kn_mem.mp f1).1
  have ne : here ≠ pt := fun z => by unfold endO at he; rw [if_pos z] at he; cases he
  unfold betw at f2
  rw [Bool.and_eq_true, Bool.or_eq_true, decide_eq_true_eq, decide_eq_true_eq, decide_eq_true_eq] at f2
  have f3 := f2.2.resolve_left ne
  refine ⟨fm, ?_, f2.1, f3⟩
  have hm := pw_lo w.lo
  rw [dist_up (a := farO G here pt) (b := pt) (c := here) (by omega) (Int.le_of_lt f3)]
  omega
/-- a seeker -/
structure SeekM where
  sought : Int
  trail : List Int
  returns : Int
  goal : Option Int
noncomputable def goOn (G : RingM) (S : SeekM) (here : Int) : SeekM := match endO G here S.sought with
  | some g => { S with goal := some g }
  | none => { S with trail := S.trail ++ [farO G here S.sought] }
/-- each member has a living next -/
def Live (G : RingM) : Prop := ∀ i ∈ G.names, ∃ a, nxt G i = some a
/-- a path, the goal -/
structure LookP (G : RingM) (via pt : Int) (T : List Int) (g : Int) : Prop where
  first : T[0]? = some via
  hops : ∀ (i : Nat) x y, T[i]? = some x → T[i + 1]? = some y → endO G x pt = none ∧ y = farO G x pt
  last : ∃ z, T.getLast? = some z ∧ endO G z pt = some g
  mem : ∀ x ∈ T, x ∈ G.names
/-- a way so far -/
structure PathI (G : RingM) (via pt : Int) (T : List Int) (here : Int) : Prop where
  first : T[0]? = some via
  hops : ∀ (i : Nat) x y, T[i]? = some x → T[i + 1]? = some y → endO G x pt = none ∧ y = farO G x pt
  last : T.getLast? = some here
  mem : ∀ x ∈ T, x ∈ G.names
  dec : T.Pairwise fun x y => (pt - y) % 2 ^ G.bits < (pt - x) % 2 ^ G.bits
theorem path0 {G : RingM} {via pt : Int} (h : via ∈ G.names) : PathI G via pt [via] via :=
  ⟨rfl, fun i x y _ h2 => by simp at h2, rfl, fun x hx => by rw [List.mem_singleton.mp hx]; exact h, List.pairwise_singleton _ _⟩
theorem PathI.len {G : RingM} {via pt here : Int} {T : List Int} (p : PathI G via pt T here) (w : WfR G) : T.length ≤ 63 := by
  have nd : T.Nodup := p.dec.imp fun {a b} h e => by rw [e] at h; exact absurd h (Int.lt_irrefl _)
  have := nodup_le3 nd p.mem
  have := w.ln
  omega
theorem PathI.go {G : RingM} {via pt here a : Int} {T : List Int} (p : PathI G via pt T here) (w : WfR G) (hp : 0 ≤ pt ∧ pt < 2 ^ G.bits) (h : nxt G here = some a) (he : endO G here pt = none) : PathI G via pt (T ++ [farO G here pt]) (farO G here pt) := by
  obtain ⟨T', rfl⟩ := List.getLast?_eq_some_iff.mp p.last
  have hm : here ∈ G.names := p.mem here (by simp)
  obtain ⟨n1, n2, _⟩ := hop_near w hm hp h he
  refine ⟨?_, fun i x y h1 h2 => ?_, by simp, fun x hx => ?_, ?_⟩
  · rw [List.getElem?_append_left (by rw [List.length_append, List.length_singleton]; omega)]; exact p.first
  · by_cases q : i + 1 < (T' ++ [here]).length
    · rw [List.getElem?_append_left q] at h2
      rw [List.getElem?_append_left (by omega)] at h1
      exact p.hops i x y h1 h2
    · have hi : i + 1 = (T' ++ [here]).length := by
        have := (List.getElem?_eq_some_iff.mp h2).1
        rw [List.length_append (as := T' ++ [here]), List.length_singleton] at this
        omega
      rw [hi, List.getElem?_append_right (Nat.le_refl _), Nat.sub_self] at h2
      have hy : farO G here pt = y := Option.some.inj h2
      have hi2 : i = T'.length := by rw [List.length_append, List.length_singleton] at hi; omega
      rw [List.getElem?_append_left (by omega), hi2, List.getElem?_append_right (Nat.le_refl _), Nat.sub_self] at h1
      have hx : here = x := Option.some.inj h1
      subst hx
      exact ⟨he, hy.symm⟩
  · rcases List.mem_append.mp hx with hx | hx
    · exact p.mem x hx
    · rw [List.mem_singleton.mp hx]; exact n1
  · refine List.pairwise_append.mpr ⟨p.dec, List.pairwise_singleton _ _, fun x hx y hy => ?_⟩
    rw [List.mem_singleton.mp hy]
    rcases List.mem_append.mp hx with hx | hx
    · have := (List.pairwise_append.mp p.dec).2.2 x hx here (by simp)
      omega
    · rw [List.mem_singleton.mp hx]; exact n2
theorem PathI.done {G : RingM} {via pt here g : Int} {T : List Int} (p : PathI G via pt T here) (he : endO G here pt = some g) : LookP G via pt T g := ⟨p.first, p.hops, ⟨here, p.last, he⟩, p.mem⟩
/-- how a name is known -/
def knownB (G : RingM) (here nm : Int) : Str × Int := match lk G.nodes here with
  | some nd => if nm ∈ nd.chain then ("list", (nd.chain.idxOf nm : Nat)) else ("finger", (nd.far.idxOf (some nm) : Nat))
  | none => ("", 0)
end NN
/-! own: lists of pairs of whole numbers over what is known of the heap -/
namespace NN
open PySem L2
instance p_lstRg {σ : St} {H : Hp} {Q : VK} {t : St → Hp → (Int → Int → Hp → Prop) → Prop} : Stp (tLstRg t σ H Q) (t σ H fun a b H1 => RgOk a b ∧ ∀ q, H1 q = none → Q (.ref q) (upd H1 q (.lst (rgV a b)))) := ⟨fun q => q⟩
instance p_rg1 {σ : St} {H : Hp} {ta : TE} {R : Int → Int → Hp → Prop} : Stp (tRg1 ta σ H R) (ta σ H fun x H1 => ∃ n, x = .int n ∧ R 0 n H1) := ⟨fun q => q⟩
def rgI (b : Int) : List Int := (List.range b.toNat).map fun i => ((i : Nat) : Int)
theorem rgV_I {b : Int} : rgV 0 b = (rgI b).map V.int := by
  unfold rgV rgI
  rw [List.map_map, Int.sub_zero]
  exact List.map_congr_left fun i _ => by show V.int (0 + (i : Nat)) = V.int i; rw [Int.zero_add]
theorem rgI_mem {b x : Int} : x ∈ rgI b ↔ 0 ≤ x ∧ x < b := by
  unfold rgI
  rw [List.mem_map]
  constructor
  · rintro ⟨i, h, rfl⟩
    have := List.mem_range.mp h
    omega
  · rintro ⟨h1, h2⟩
    exact ⟨x.toNat, List.mem_range.mpr (by omega), by omega⟩
theorem rgI_len {b : Int} : (rgI b).length = b.toNat := by unfold rgI; rw [List.length_map, List.length_range]
theorem rgI_nd {b : Int} : (rgI b).Nodup := by
  unfold rgI
  exact List.pairwise_map.mpr (List.pairwise_lt_range.imp fun h e => by omega)
theorem s_lstRg {Z : Ad} {L : List Atom} {H : Hp} {Q : VK} {b : Int} (s : Sat Z L H) (h0 : 0 ≤ b) (h1 : b ≤ 1000000) (q : ∀ l H', Sat Z (⟨l, LI (rgI b)⟩ :: L) H' → Q (.ref l) H') : ∃ n, V.int b = .int n ∧ RgOk 0 n ∧ ∀ q, H q = none → Q (.ref q) (upd H q (.lst (rgV 0 n))) :=
  ⟨b, rfl, RgOk.of_le (by omega) (by omega) (by omega) h0, fun l hl => by rw [rgV_I]; exact q l _ (s.new hl (fun _ z => by cases z))⟩
def kT (H : Hp) : V → Int × Int
  | .ref t => match H t with
    | some (.tup [.int i, .int j]) => (i, j)
    | _ => (0, 0)
  | _ => (0, 0)
def aT : V → Addr
  | .ref t => t
  | _ => 0
def pAt (ts : List Addr) (ps : List (Int × Int)) : List Atom := (ts.zip ps).map fun x => ⟨x.1, Pt (.tup [.int x.2.1, .int x.2.2])⟩
theorem pAt_add {ts : List Addr} {ps : List (Int × Int)} {t : Addr} {p : Int × Int} (h : ts.length = ps.length) : pAt (ts ++ [t]) (ps ++ [p]) = pAt ts ps ++ [⟨t, Pt (.tup [.int p.1, .int p.2])⟩] := by
  unfold pAt
  rw [List.zip_append h, List.map_append]
  rfl
section
variable {K : PySem.W.Frag} {Z : Ad} {L R : List Atom} {H : Hp} {Q : VK} {D p : Addr} {o : HO} {ts : List Addr} {ps : List (Int × Int)}
theorem sat_mem (s : Sat Z L H) (h : (⟨p, Pt o⟩ : Atom) ∈ L) : H p = some o := by
  obtain ⟨h', k, x⟩ := star_mem h s.star
  exact noT_some (k _ _ x)
theorem pAt_at (s : Sat Z (pAt ts ps ++ L) H) : ∀ z ∈ ts.zip ps, H z.1 = some (.tup [.int z.2.1, .int z.2.2]) := fun z hz =>
  sat_mem s (List.mem_append_left _ (List.mem_map.mpr ⟨z, hz, rfl⟩))
theorem s_sortP (s : Sat Z L H) (f : Fnd L D (Pt (.lst (ts.map V.ref))) R) (hl : ts.length = ps.length) (ht : ∀ z ∈ ts.zip ps, H z.1 = some (.tup [.int z.2.1, .int z.2.2]))
    (q : ∀ (zs : List (Addr × Int × Int)) l H', zs.Perm (ts.zip ps) → (zs.Pairwise fun a b => a.2.1 ≤ b.2.1) → Sat Z (⟨l, Pt (.lst (zs.map fun z => V.ref z.1))⟩ :: L) H' → Q (.ref l) H') : rSortedPO K [.ref D] H Q := by
  have hz : ts.map V.ref = (ts.zip ps).map fun z => V.ref z.1 := by
    rw [show (fun z : Addr × Int × Int => V.ref z.1) = V.ref ∘ Prod.fst from rfl, ← List.map_map, List.map_fst_zip (by omega)]
  have kz : ∀ z ∈ ts.zip ps, kT H (.ref z.1) = z.2 := fun z h => by
    show (match H z.1 with | some (.tup [.int i, .int j]) => (i, j) | _ => (0, 0)) = z.2
    rw [ht z h]
  refine ⟨D, ts.map V.ref, kT H, rfl, SqL.of s.at, fun x hx => ?_, fun ys l h1 h2 hp => ?_⟩
  · rw [hz] at hx
    obtain ⟨z, hzm, rfl⟩ := List.mem_map.mp hx
    refine ⟨z.1, rfl, ?_⟩
    rw [kz z hzm, ht z hzm]
  · have pm : ys.Perm ((ts.zip ps).map fun z => V.ref z.1) := hz ▸ h2.perm
    have e1 : ((ts.zip ps).map fun z => V.ref z.1).map (fun x => (aT x, kT H x)) = ts.zip ps := by
      rw [List.map_map]
      refine (List.map_congr_left fun z hzm => ?_).trans (List.map_id _)
      show (z.1, kT H (.ref z.1)) = z
      rw [kz z hzm]
    have e2 : (ys.map fun x => (aT x, kT H x)).Perm (ts.zip ps) := by
      have := pm.map fun x => (aT x, kT H x)
      rwa [e1] at this
    have e3 : (ys.map fun x => (aT x, kT H x)).map (fun z => V.ref z.1) = ys := by
      rw [List.map_map]
      refine (List.map_congr_left fun x hx => ?_).trans (List.map_id _)
      obtain ⟨z, _, rfl⟩ := List.mem_map.mp (pm.mem_iff.mp hx)
      rfl
    have := q (ys.map fun x => (aT x, kT H x)) l _ e2 (List.pairwise_map.mpr ?_) (s.new hp (o := .lst ((ys.map fun x => (aT x, kT H x)).map fun z => V.ref z.1)) (fun _ z => by cases z))
    · rw [e3] at this
      exact this
    · exact h1.imp fun {a b} h => by
        have := SrtO.lexB_no.mp h
        show (kT H a).1 ≤ (kT H b).1
        omega
end
/-! ### keyword-only defaults -/
theorem callb_k {K : PySem.W.Frag} {x qual : Str} {params : Arguments} {body : List Stmt} {scope : Scope} {kws ms : List (Str × V)} {f : Addr} {fd : FuncData} {ps ks : List Str} {pl : List Src} {n : Nat}
    (F : FunD K x qual params body scope [] kws f fd) (hk : kws ≠ []) (hms : ∀ q ∈ ms, q ∈ kws)
    (h : ∀ (D : Addr) (doc pm : Value) (an : Option Addr) (cdv ct : Value) (us mv ws : List Value), us.length = n → mv.length = ms.length → ws.length = ks.length →
      KwChain D ((ms.map (·.1)).zip mv) (bindArgs (PySem.W.fnOf x qual params body scope .none (.ref D) doc pm an cdv ct) ⟨us, ks.zip ws⟩) (ps.zip (plan us ws [] mv pl))) : CallB K fd ps n ks pl [] (ms.map (·.2)) := fun s us ws vs zs X hn hm r rz => by
  obtain ⟨oc, od, dV, kV, doc, pm, an, cdv, ct, osl, rfl, lk, hcd, hD, hK⟩ := F.ex
  rcases hD with ⟨_, rfl⟩ | ⟨e, _⟩
  · rcases hK with e | ⟨D, rfl, hq⟩
    · exact absurd e hk
    · obtain ⟨mv, hl, rk, hks⟩ := kwd_vals (ms := ms) fun q hm => hq q (hms q hm)
      exact ⟨_, plan_rel pl r rz .nil rk, L2.BindsTo.of_looks fun M => KwChain.looks X hks (h D doc pm an cdv ct us mv ws hn hl hm)⟩
  · exact absurd rfl e
theorem fund_k {K : PySem.W.Frag} {x qual : Str} {st : Stmt} {f D : Addr} {od an : Option Addr} {sl : Array (Option Value)} {oc dc pm cd ct : Value} {kws : List (Str × V)}
    (l : K.lookup f = some ⟨oc, od, .func (PySem.W.fnOf x qual (defArgs st) (defBody st) (defScope st) .none (.ref D) dc pm an cd ct), sl⟩)
    (c : PySem.W.codeIn K cd qual = true) (k : PySem.W.keepIn K (.ref f) = true) (h : ∀ q ∈ kws, ∃ u, PySem.W.nsIn K D q.1 = some (some u) ∧ RelV q.2 u) : FunS K x qual st [] kws f (PySem.W.fnOf x qual (defArgs st) (defBody st) (defScope st) .none (.ref D) dc pm an cd ct) :=
  ⟨⟨oc, od, .none, .ref D, dc, pm, an, cd, ct, sl, rfl, l, c, .inl ⟨rfl, rfl⟩, .inr ⟨D, rfl, h⟩⟩, k⟩
end NN
namespace NN
open PySem L2
local macro_rules | `(tactic| walk_at "nl") => `(tactic| first | with_reducible assumption | omega | (simp only [List.length_map, List.length_cons, List.length_nil, List.length_append, List.length_reverse, List.length_take, List.length_drop] <;> omega) | decide)
local macro_rules | `(tactic| walk_at "ar") => `(tactic| first | omega | (simp only [List.length_cons, List.length_nil] <;> omega) | (simp only [List.length_cons, List.length_nil, List.length_append, List.length_map, List.length_set, List.length_take, List.length_drop, List.length_reverse] <;> omega) | decide)
local macro_rules | `(tactic| walk_at "cond") => `(tactic| first | assumption | exact c_mulB | (exact c_mulL (by walk_at "nl") (by walk_at "nl")) | (exact c_mulR (by walk_at "nl") (by walk_at "nl")) | (exact c_divW (by walk_at "nl") (by walk_at "nl")) | (exact c_pow (by walk_at "nl") (by walk_at "nl") (by walk_at "nl")) | walk_at "nl")
local macro_rules | `(tactic| walk_at "sz") => `(tactic| first | exact sz_small (by simp only [List.length_cons, List.length_nil]; decide) | exact sz_small (by decide) | exact sz_small (by walk_at "ar"))
local macro_rules | `(tactic| walk_at "sl") => `(tactic| first | exact sz_less (by walk_at "ar"))
local macro_rules | `(tactic| walk_at "at") => `(tactic| first | assumption | exact at_0 | exact at_1 | exact at_2 | exact at_3 | exact at_4 | exact at_5 | exact at_6 | exact at_7 | exact at_8 | exact at_9 | exact at_10 | exact at_11 | exact at_12 | exact at_13 | exact at_14 | exact at_15 | exact atI_nat (by assumption))
local macro_rules | `(tactic| walk_at "flat") => `(tactic| first | exact ints_flat _ | rfl | assumption | decide)
local macro_rules | `(tactic| walk_at "ixn") => `(tactic| first | with_unfolding_all rfl | exact ixN_lit (j := 0) rfl (by walk_at "ar") | exact ixN_nat (by walk_at "ar"))
local macro_rules | `(tactic| walk_at "sat") => `(tactic| first | assumption | exact SatI.ent (by assumption))
local macro_rules | `(tactic| walk_at "hat") => `(tactic| first | with_reducible assumption | exact SatI.at (by assumption))
local macro_rules | `(tactic| walk_at "lt") => `(tactic| first | decide | (simp only [List.length_cons, List.length_nil]; decide))
local macro_rules | `(tactic| walk_at "putf") => `(tactic| (simp (decide := true) only [putF, if_true, if_false]) <;> rfl)
local macro_rules | `(tactic| walk_at "lkr") => `(tactic| exact fun _ _ _ _ => rfl)
local macro_rules | `(tactic| walk_at "ok") => `(tactic| first | assumption | decide +kernel)
local macro_rules | `(tactic| walk_at "lkk") => `(tactic| exact fun _ => rfl)
local macro_rules | `(tactic| walk_at "lkf") => `(tactic| exact fun _ _ => rfl)
local macro_rules | `(tactic| walk_at "dval") => `(tactic| first | assumption | rfl)
local macro_rules | `(tactic| walk_at "fm") => `(tactic| first | exact fm_yes (by assumption) (by first | rfl | assumption) rfl (by assumption) inferInstance (by walk_at "ar") | exact fm_no (by assumption) (by first | rfl | assumption) (by assumption) inferInstance)
local macro_rules | `(tactic| walk_at "call") => `(tactic| fail)
local macro_rules | `(tactic| walk_at "call2") => `(tactic| fail)
local macro_rules | `(tactic| walk_at "go1") => `(tactic| first | ((with_reducible refine Stp.imp ?_)) | (((with_reducible refine' g_eqc ?h0 ?_); (case h0 => rfl))) | (((with_reducible refine' g_I ?h0 ?_); (case h0 => walk_at "cond"))) | (((with_reducible refine' g_eq ?h0 ?_); (case h0 => with_unfolding_all rfl))) | (((with_reducible refine' g_ne ?h0 ?_); (case h0 => with_unfolding_all rfl))) | (((with_reducible refine' g_sz ?h0 ?_); (case h0 => walk_at "sz"); intro p hp; generalize hg : upd _ p _ = H2; (first | have hs := sat_newLI hg hp (by with_reducible assumption) inferInstance | have hs := sat_newL hg hp (by with_reducible assumption) | have hs := sat_newT hg hp (by with_reducible assumption)); clear hg hp)) | (((with_reducible refine' s_lenI ?h0 ?h1 ?h2 ?h3 ?_); (case h0 => with_reducible assumption); (case h1 => infer_instance); (case h2 => infer_instance); (case h3 => infer_instance))) | (((with_reducible refine' s_lenL ?h0 ?h1 ?h2 ?_); (case h0 => with_reducible assumption); (case h1 => infer_instance); (case h2 => infer_instance))) | (((with_reducible refine' s_lenT ?h0 ?h1 ?_); (case h0 => with_reducible assumption); (case h1 => infer_instance))) | (((with_reducible refine' s_listL ?h0 ?h1 ?h2 ?_); (case h0 => with_reducible assumption); (case h1 => infer_instance); (case h2 => infer_instance); intro _ _ _)) | (((with_reducible refine' s_listT ?h0 ?h1 ?_); (case h0 => with_reducible assumption); (case h1 => infer_instance); intro _ _ _)) | (((with_reducible refine' s_slTo ?h0 ?h1 ?h2 ?h3 ?h4 ?_); (case h0 => with_reducible assumption); (case h1 => infer_instance); (case h2 => infer_instance); (case h3 => infer_instance); (case h4 => walk_at "nl"); intro _ _ _)) | (((with_reducible refine' s_slFrom ?h0 ?h1 ?h2 ?h3 ?h4 ?_); (case h0 => with_reducible assumption); (case h1 => infer_instance); (case h2 => infer_instance); (case h3 => infer_instance); (case h4 => walk_at "nl"); intro _ _ _)) | (((with_reducible refine' s_slLast ?h0 ?h1 ?h2 ?h3 ?_); (case h0 => with_reducible assumption); (case h1 => infer_instance); (case h2 => infer_instance); (case h3 => infer_instance); intro _ _ _)) | (((with_reducible refine' s_slMid ?h0 ?h1 ?h2 ?h3 ?h4 ?h5 ?_); (case h0 => with_reducible assumption); (case h1 => infer_instance); (case h2 => infer_instance); (case h3 => infer_instance); (case h4 => walk_at "nl"); (case h5 => walk_at "nl"); intro _ _ _)) | (((with_reducible refine' s_sum ?h0 ?h1 ?h2 ?h3 ?_); (case h0 => with_reducible assumption); (case h1 => infer_instance); (case h2 => infer_instance); (case h3 => infer_instance))) | (((with_reducible refine' s_slL ?h0 ?h1 ?h2 ?_); (case h0 => with_reducible assumption); (case h1 => infer_instance); (case h2 => infer_instance); intro _ _ _)) | (((with_reducible refine' s_ixL ?h0 ?h1 ?h2 ?h3 ?_); (case h0 => with_reducible assumption); (case h1 => infer_instance); (case h2 => infer_instance); (case h3 => walk_at "at"))) | (((with_reducible refine' s_ixLast ?h0 ?h1 ?h2 ?h3 ?h4 ?_); (case h0 => with_reducible assumption); (case h1 => infer_instance); (case h2 => infer_instance); (case h3 => infer_instance); (case h4 => assumption))) | (((with_reducible refine' s_ixIn ?h0 ?h1 ?h2 ?h3 ?h4 ?h5 ?_); (case h0 => with_reducible assumption); (case h1 => infer_instance); (case h2 => infer_instance); (case h3 => infer_instance); (case h4 => walk_at "nl"); (case h5 => walk_at "nl"); intro n hn; (try simp only [List.mem_cons, List.not_mem_nil, or_false] at hn))) | (((with_reducible refine' s_ixT ?h0 ?h1 ?h2 ?_); (case h0 => with_reducible assumption); (case h1 => infer_instance); (case h2 => walk_at "at"))) | (((with_reducible refine' s_inI ?h0 ?h1 ?h2 ?h3 ?_); (case h0 => with_reducible assumption); (case h1 => infer_instance); (case h2 => infer_instance); (case h3 => infer_instance))) | (((with_reducible refine' s_ninI ?h0 ?h1 ?h2 ?h3 ?_); (case h0 => with_reducible assumption); (case h1 => infer_instance); (case h2 => infer_instance); (case h3 => infer_instance))) | (((with_reducible refine' s_in ?h0 ?h1 ?h2 ?h3 ?h4 ?_); (case h0 => with_reducible assumption); (case h1 => infer_instance); (case h2 => infer_instance); (case h3 => with_unfolding_all rfl); (case h4 => walk_at "flat"))) | (((with_reducible refine' s_setLI ?h0 ?h1 ?h2 ?h3 ?_); (case h0 => with_reducible assumption); (case h1 => infer_instance); (case h2 => infer_instance); (case h3 => walk_at "ixn"); intro _ _)) | (((with_reducible refine' s_setL ?h0 ?h1 ?h2 ?_); (case h0 => with_reducible assumption); (case h1 => infer_instance); (case h2 => with_unfolding_all rfl); intro _ _)) | (((with_reducible refine' s_appendI ?h0 ?h1 ?h2 ?h3 ?_); (case h0 => with_reducible assumption); (case h1 => infer_instance); (case h2 => infer_instance); (case h3 => walk_at "sl"); intro _ _)) | (((with_reducible refine' s_append ?h0 ?h1 ?h2 ?_); (case h0 => with_reducible assumption); (case h1 => infer_instance); (case h2 => walk_at "sl"); intro _ _)) | (((with_reducible refine' s_tyL ?h0 ?h1 ?h2 ?_); (case h0 => with_reducible assumption); (case h1 => infer_instance); (case h2 => infer_instance))) | (((with_reducible refine' s_catI ?h0 ?h1 ?h2 ?h3 ?h4 ?h5 ?_); (case h0 => with_reducible assumption); (case h1 => infer_instance); (case h2 => infer_instance); (case h3 => infer_instance); (case h4 => infer_instance); (case h5 => walk_at "sz"); intro _ _ _)) | (((with_reducible refine' s_cat ?h0 ?h1 ?h2 ?h3 ?_); (case h0 => with_reducible assumption); (case h1 => infer_instance); (case h2 => infer_instance); (case h3 => walk_at "sz"); intro _ _ _)) | (((with_reducible refine' s_sorted ?h0 ?h1 ?h2 ?h3 ?_); (case h0 => with_reducible assumption); (case h1 => infer_instance); (case h2 => infer_instance); (case h3 => infer_instance); intro _ _ _)) | (((with_reducible refine' s_eqL ?h0 ?h1 ?h2 ?h3 ?h4 ?h5 ?h6 ?_); (case h0 => with_reducible assumption); (case h1 => infer_instance); (case h2 => infer_instance); (case h3 => infer_instance); (case h4 => infer_instance); (case h5 => infer_instance); (case h6 => infer_instance))) | (((with_reducible refine' s_neL ?h0 ?h1 ?h2 ?h3 ?h4 ?h5 ?h6 ?_); (case h0 => with_reducible assumption); (case h1 => infer_instance); (case h2 => infer_instance); (case h3 => infer_instance); (case h4 => infer_instance); (case h5 => infer_instance); (case h6 => infer_instance))) | (((with_reducible refine' s_isLL ?h0 ?h1 ?_); (case h0 => with_reducible assumption); (case h1 => infer_instance))) | (((with_reducible refine' s_revI ?h0 ?h1 ?h2 ?h3 ?_); (case h0 => with_reducible assumption); (case h1 => infer_instance); (case h2 => infer_instance); (case h3 => infer_instance); intro _ _ _)) | (((with_reducible refine' s_revL ?h0 ?h1 ?h2 ?_); (case h0 => with_reducible assumption); (case h1 => infer_instance); (case h2 => infer_instance); intro _ _ _)) | (((with_reducible refine' s_insertI ?h0 ?h1 ?h2 ?h3 ?h4 ?h5 ?_); (case h0 => with_reducible assumption); (case h1 => infer_instance); (case h2 => infer_instance); (case h3 => walk_at "sl"); (case h4 => walk_at "nl"); (case h5 => walk_at "nl"); intro _ _)) | (((with_reducible refine' s_all ?h0 ?h1 ?_); (case h0 => with_reducible assumption); (case h1 => infer_instance))) | (((with_reducible refine' s_any ?h0 ?h1 ?_); (case h0 => with_reducible assumption); (case h1 => infer_instance))) | (((with_reducible refine' s_idx ?h0 ?h1 ?h2 ?h3 ?h4 ?_); (case h0 => with_reducible assumption); (case h1 => infer_instance); (case h2 => infer_instance); (case h3 => infer_instance); (case h4 => assumption))) | (((with_reducible refine' g_fld ?h0 ?h1 ?h2 ?h3 ?_); (case h0 => walk_at "hat"); (case h1 => with_reducible assumption); (case h2 => with_reducible assumption); (case h3 => with_unfolding_all rfl))) | (((with_reducible refine' s_sfld ?h0 ?h1 ?h2 ?h3 ?h4 ?h5 ?h6 ?_); (case h0 => with_reducible assumption); (case h1 => infer_instance); (case h2 => with_reducible assumption); (case h3 => with_reducible assumption); (case h4 => with_reducible assumption); (case h5 => walk_at "lt"); (case h6 => walk_at "putf"); intro _ _)) | (((with_reducible refine' s_ins ?h0 ?h1 ?h2 ?_); (case h0 => with_reducible assumption); (case h1 => infer_instance); (case h2 => with_unfolding_all rfl))) | (((with_reducible refine' s_dget ?h0 ?h1 ?h2 ?h3 ?_); (case h0 => with_reducible assumption); (case h1 => infer_instance); (case h2 => infer_instance); (case h3 => walk_at "dval"))) | (((with_reducible refine' s_din ?h0 ?h1 ?h2 ?_); (case h0 => with_reducible assumption); (case h1 => infer_instance); (case h2 => infer_instance))) | (((with_reducible refine' s_dnotin ?h0 ?h1 ?h2 ?_); (case h0 => with_reducible assumption); (case h1 => infer_instance); (case h2 => infer_instance))) | (((with_reducible refine' s_dput ?h0 ?h1 ?h2 ?h3 ?_); (case h0 => with_reducible assumption); (case h1 => infer_instance); (case h2 => infer_instance); (case h3 => walk_at "sl"); intro _ _)) | ((intro p hp; generalize hg : upd _ p (HO.dK []) = H2; have hs := sat_newD hg hp (by with_reducible assumption); clear hg hp)) | (((with_reducible refine' s_divmod ?h0 ?h1 ?h2 ?_); (case h0 => with_reducible assumption); (case h1 => walk_at "nl"); (case h2 => walk_at "nl"); intro _ _ _)) | (((with_reducible refine' s_gtup ?h0 ?h1 ?h2 ?_); (case h0 => with_reducible assumption); (case h1 => infer_instance); (case h2 => with_unfolding_all rfl))) | walk_at "call" | walk_at "call2")
local macro_rules | `(tactic| walk_at "go") => `(tactic| (repeat walk_at "go1"); (try dsimp only))
local macro_rules | `(tactic| walk_at "on") => `(tactic| (with_reducible refine g_seq ?_); walk_at "go")
local macro_rules | `(tactic| walk_at "ifs") => `(tactic| ((try simp only [List.length_map]) <;> (repeat' split) <;> omega))
local macro_rules | `(tactic| walk_at "spa") => `(tactic| first | assumption | exact sat_spH (by assumption) inferInstance)
local macro_rules | `(tactic| walk_at "th") => `(tactic| first | exact Th.int | exact Th.bl | exact Th.non | exact Th.str | assumption | exact Th.lst (SatI.at (by assumption)) | exact Th.tup (SatI.at (by assumption)) | exact Th.dK (SatI.at (by assumption)))
local macro_rules | `(tactic| walk_at "call2") => `(tactic| first
  | ((with_reducible refine' use_whole ?e ?h0 ?_); (case e => rfl); (case h0 => walk_at "th"))
  | ((with_reducible refine' use_make ?e ?h0 ?h1 ?h2 ?_); (case e => exact fun _ => rfl); (case h0 => assumption); (case h1 => walk_at "nl"); (case h2 => walk_at "nl"); intro _ _ _)
  | ((with_reducible refine' use_bits ?e ?h0 ?_); (case e => rfl); (case h0 => walk_at "spa"))
  | ((with_reducible refine' use_size ?e ?h0 ?_); (case e => rfl); (case h0 => walk_at "spa"))
  | ((with_reducible refine' use_has ?e ?h0 ?h1 ?_); (case e => rfl); (case h0 => walk_at "spa"); (case h1 => walk_at "th"))
  | ((with_reducible refine' use_distance ?e ?h0 ?_); (case e => rfl); (case h0 => walk_at "spa"))
  | ((with_reducible refine' use_between ?e ?h0 ?_); (case e => rfl); (case h0 => walk_at "spa"))
  | ((with_reducible refine' use_nearest ?e ?h0 ?h1 ?h2 ?h3 ?h4 ?_); (case e => rfl); (case h0 => walk_at "spa"); (case h1 => assumption); (case h2 => infer_instance); (case h3 => infer_instance); (case h4 => walk_at "nl"); intro _ _ _ _)
  | ((with_reducible refine' use_preceding ?e ?h0 ?h1 ?h2 ?h3 ?h4 ?_); (case e => rfl); (case h0 => walk_at "spa"); (case h1 => assumption); (case h2 => infer_instance); (case h3 => infer_instance); (case h4 => walk_at "nl"); intro _ _ _ _)
  | ((with_reducible refine' s_insS ?h0 ?h1 ?h2 ?_); (case h0 => assumption); (case h1 => infer_instance); (case h2 => rfl))
  | ((with_reducible refine' h_insS ?h0 ?h2 ?_); (case h0 => assumption); (case h2 => rfl)))
local macro_rules | `(tactic| walk_at "call2") => `(tactic| first
  | ((with_reducible refine' use_Node ?e ?h0 ?h1 ?h2 ?h3 ?h4 ?h5 ?_); (case e => exact fun _ => rfl); (case h0 => assumption); (case h1 => infer_instance); (case h2 => infer_instance); (case h3 => infer_instance); (case h4 => infer_instance); (case h5 => infer_instance); intro _ _ _)
  | ((with_reducible refine' use_upwards ?e ?h0 ?h1 ?h2 ?h3 ?_); (case e => rfl); (case h0 => walk_at "spa"); (case h1 => assumption); (case h2 => infer_instance); (case h3 => infer_instance); intro _ _ _)
  | ((with_reducible refine' use_others ?e ?h0 ?h1 ?h2 ?h3 ?h4 ?_); (case e => rfl); (case h0 => walk_at "spa"); (case h1 => assumption); (case h2 => infer_instance); (case h3 => infer_instance); (case h4 => walk_at "nl"); intro _ _ _)
  | ((with_reducible refine' use_farpt ?e ?h0 ?h1 ?h2 ?_); (case e => rfl); (case h0 => walk_at "spa"); (case h1 => walk_at "nl"); (case h2 => walk_at "nl"))
  | ((with_reducible refine' use_rchain ?e ?h0 ?h1 ?h2 ?h3 ?h4 ?h5 ?_); (case e => rfl); (case h0 => walk_at "spa"); (case h1 => assumption); (case h2 => infer_instance); (case h3 => infer_instance); (case h4 => walk_at "nl"); (case h5 => walk_at "nl"); intro _ _ _)
  | ((with_reducible refine' use_rfar ?e ?h0 ?h1 ?h2 ?h3 ?h4 ?_); (case e => rfl); (case h0 => walk_at "spa"); (case h1 => assumption); (case h2 => infer_instance); (case h3 => infer_instance); (case h4 => walk_at "nl"); intro _ _ _)
  | ((with_reducible refine' use_rnode ?e ?h0 ?h1 ?h2 ?h3 ?h4 ?h5 ?h6 ?_); (case e => rfl); (case h0 => walk_at "spa"); (case h1 => assumption); (case h2 => infer_instance); (case h3 => infer_instance); (case h4 => walk_at "nl"); (case h5 => walk_at "nl"); (case h6 => walk_at "nl"); intro _ _ _)
  | ((with_reducible refine' use_islen ?e ?h0 ?_); (case e => rfl); (case h0 => walk_at "th"))
  | ((with_reducible refine' use_arebase ?e ?h0 ?h1 ?h2 ?h3 ?h4 ?h5 ?h6 ?_); (case e => rfl); (case h0 => walk_at "spa"); (case h1 => assumption); (case h2 => infer_instance); (case h3 => infer_instance); (case h4 => assumption); (case h5 => assumption); (case h6 => assumption); intro _ _)
  | ((with_reducible refine' use_spaceof ?e ?h0 ?h1 ?h2 ?_); (case e => rfl); (case h0 => assumption); (case h1 => walk_at "nl"); (case h2 => walk_at "nl"); intro _ _ _)
  | ((with_reducible refine' use_Ring ?e ?h0 ?h1 ?h2 ?h3 ?h4 ?h5 ?h6 ?h7 ?h8 ?h9 ?h10 ?_); (case e => exact fun _ => rfl); (case h0 => assumption); (case h1 => infer_instance); (case h2 => infer_instance); (case h3 => walk_at "nl"); (case h4 => walk_at "nl"); (case h5 => walk_at "nl"); (case h6 => walk_at "nl"); (case h7 => walk_at "nl"); (case h8 => walk_at "nl"); (case h9 => assumption); (case h10 => assumption); intro _ _ _ _)
  | ((with_reducible refine' use_rspace ?e ?h0 ?h1 ?_); (case e => rfl); (case h0 => assumption); (case h1 => infer_instance); intro _ _)
  | ((with_reducible refine' use_rlength ?e ?h0 ?h1 ?_); (case e => rfl); (case h0 => assumption); (case h1 => infer_instance))
  | ((with_reducible refine' use_rbase ?e ?h0 ?h1 ?_); (case e => rfl); (case h0 => assumption); (case h1 => infer_instance); intro _ _ _)
  | ((with_reducible refine' use_rdeeds ?e ?h0 ?h1 ?_); (case e => rfl); (case h0 => assumption); (case h1 => infer_instance); intro _ _ _)
  | ((with_reducible refine' use_rmembers ?e ?h0 ?h1 ?_); (case e => rfl); (case h0 => assumption); (case h1 => infer_instance); intro _ _ _ _)
  | ((with_reducible refine' use_rmem ?e ?h0 ?h1 ?h2 ?_); (case e => rfl); (case h0 => assumption); (case h1 => infer_instance); (case h2 => walk_at "th"))
  | ((with_reducible refine' use_rnod ?e ?h0 ?h1 ?h2 ?_); (case e => rfl); (case h0 => assumption); (case h1 => infer_instance); (case h2 => assumption))
  | ((with_reducible refine' use_rlinks ?e ?h0 ?h1 ?h2 ?_); (case e => rfl); (case h0 => assumption); (case h1 => infer_instance); (case h2 => assumption); intro _ _ _)
  | ((with_reducible refine' use_rfingers ?e ?h0 ?h1 ?h2 ?_); (case e => rfl); (case h0 => assumption); (case h1 => infer_instance); (case h2 => assumption); intro _ _ _)
  | ((with_reducible refine' use_rbefore ?e ?h0 ?h1 ?h2 ?_); (case e => rfl); (case h0 => assumption); (case h1 => infer_instance); (case h2 => assumption))
  | ((with_reducible refine' use_rnext ?e ?h0 ?h1 ?h2 ?_); (case e => rfl); (case h0 => assumption); (case h1 => infer_instance); (case h2 => assumption); intro _ _)
  | ((with_reducible refine' use_rkept0 ?e ?h0 ?h1 ?h2 ?h3 ?_); (case e => rfl); (case h0 => assumption); (case h1 => infer_instance); (case h2 => assumption); (case h3 => assumption); intro _ _ _)
  | ((with_reducible refine' s_insR ?h0 ?h1 ?h2 ?_); (case h0 => assumption); (case h1 => infer_instance); (case h2 => walk_at "lkr"))
  | (first | rw [ov_some] | rw [ov_none]))
structure CSk (K : PySem.W.Frag) (Z : Ad) : Prop where
  cl : Cls K Z.Seeker
  n1 : NoAttr K Z.Seeker "around"
  n2 : NoAttr K Z.Seeker "sought"
  n3 : NoAttr K Z.Seeker "trail"
  n4 : NoAttr K Z.Seeker "returns"
  n5 : NoAttr K Z.Seeker "goal"
  ne : Z.Seeker ≠ Z.Space
structure CFd (K : PySem.W.Frag) (Z : Ad) : Prop where
  cl : Cls K Z.Found
  n1 : NoAttr K Z.Found "trail"
  n2 : NoAttr K Z.Found "goal"
  n3 : NoAttr K Z.Found "reasons"
  ne : Z.Found ≠ Z.Space
def SeekX (Z : Ad) (r : Addr) (S : SeekM) : Addr → Hp → Prop := fun k h => ∃ dx t : Addr, Star Z.Space [⟨k, Pt (.ins Z.Seeker dx [("around", .ref r), ("sought", .int S.sought), ("trail", .ref t), ("returns", .int S.returns), ("goal", ov S.goal)])⟩, ⟨t, LI S.trail⟩] h
def FoundX (Z : Ad) (T : List Int) (g : Int) (rs : List (Str × Int)) : Addr → Hp → Prop := fun k h => ∃ (dx t l : Addr) (as : List Addr), as.length = rs.length ∧ Star Z.Space (⟨k, Pt (.ins Z.Found dx [("trail", .ref t), ("goal", .int g), ("reasons", .ref l)])⟩ :: ⟨t, LI T⟩ :: ⟨l, LV (as.map V.ref)⟩ :: (as.zip rs).map fun x => ⟨x.1, Pt (.tup [.str x.2.1, .int x.2.2])⟩) h
section
variable {K : PySem.W.Frag} {Z : Ad} {L R R1 R2 : List Atom} {H : Hp} {Q : VK} {E : XK} {vs : List V} {X Y : Addr → Hp → Prop} {xs ys : List V} {ns ms : List Int} {ad : Int → Addr} {G : RingM} {nd : NodeM} {S : SeekM} {r k : Addr}
theorem seek_open (s : Sat Z (⟨k, SeekX Z r S⟩ :: L) H) : ∃ dx t : Addr, Sat Z (⟨k, Pt (.ins Z.Seeker dx [("around", .ref r), ("sought", .int S.sought), ("trail", .ref t), ("returns", .int S.returns), ("goal", ov S.goal)])⟩ :: ⟨t, LI S.trail⟩ :: L) H := by
  obtain ⟨t0, h1, h2, s1, s2, c, ⟨dx, t, x⟩, rr⟩ := s
  exact ⟨dx, t, t0, star_app s1 s2 c x rr⟩
theorem seek_close {dx t : Addr} (s : Sat Z (⟨k, Pt (.ins Z.Seeker dx [("around", .ref r), ("sought", .int S.sought), ("trail", .ref t), ("returns", .int S.returns), ("goal", ov S.goal)])⟩ :: ⟨t, LI S.trail⟩ :: L) H) : Sat Z (⟨k, SeekX Z r S⟩ :: L) H :=
  SatI.close (M := [⟨k, Pt (.ins Z.Seeker dx [("around", .ref r), ("sought", .int S.sought), ("trail", .ref t), ("returns", .int S.returns), ("goal", ov S.goal)])⟩, ⟨t, LI S.trail⟩]) s fun h m => ⟨dx, t, m⟩
structure SkV (Z : Ad) (H : Hp) (k dx t r : Addr) (S : SeekM) : Prop where
  k : H k = some (.ins Z.Seeker dx [("around", .ref r), ("sought", .int S.sought), ("trail", .ref t), ("returns", .int S.returns), ("goal", ov S.goal)])
  t : H t = some (.lst (S.trail.map V.int))
theorem seek_view (s : Sat Z L H) (f : Fnd L k (SeekX Z r S) R) : ∃ dx t, SkV Z H k dx t r S := by
  obtain ⟨dx, t, s1⟩ := seek_open (s.fnd (p := k))
  exact ⟨dx, t, s1.at0, s1.tail.at0⟩
theorem s_insK {n : Str} {P : Prop} (s : Sat Z L H) (f : Fnd L k (SeekX Z r S) R) (l : ∀ t : Addr, ([("around", .ref r), ("sought", .int S.sought), ("trail", .ref t), ("returns", .int S.returns), ("goal", ov S.goal)] : List (Str × V)).lookup n = none) (q : P) : ∃ a' dx fs, V.ref k = .ref a' ∧ H a' = some (.ins Z.Seeker dx fs) ∧ fs.lookup n = none ∧ P := by
  obtain ⟨dx, t, v⟩ := seek_view s f
  exact ⟨k, dx, _, rfl, v.k, l _, q⟩
def sp_Ring_want_point (_ : PySem.W.Frag) (Z : Ad) : Sp := fun vs H Q _ => ∃ (r : Addr) (i : Int) (ad : Int → Addr) (G : RingM) (L : List Atom), vs = [.ref r, .int i] ∧ Sat Z (⟨r, RingX Z ad G⟩ :: L) H ∧ (0 ≤ i ∧ i < 2 ^ G.bits) ∧ Q .non H
theorem use_want {i : Int} (e : vs = [.ref r, .int i]) (s : Sat Z L H) (f : Fnd L r (RingX Z ad G) R) (h : 0 ≤ i ∧ i < 2 ^ G.bits) (q : Q .non H) : sp_Ring_want_point K Z vs H Q E := ⟨r, i, ad, G, R, e, s.fnd, h, q⟩
def sp_farthest (_ : PySem.W.Frag) (Z : Ad) : Sp := fun vs H Q _ => ∃ (r : Addr) (here pt : Int) (ad : Int → Addr) (G : RingM) (nd : NodeM) (L : List Atom), vs = [.ref r, .int here, .int pt] ∧ Sat Z (⟨r, RingX Z ad G⟩ :: L) H ∧ lk G.nodes here = some nd ∧ 0 < (bw G nd here pt).length ∧ ∀ H', Sat Z (⟨r, RingX Z ad G⟩ :: L) H' → Q (.int (farM G nd here pt)) H'
theorem use_farthest {here pt : Int} (e : vs = [.ref r, .int here, .int pt]) (s : Sat Z L H) (f : Fnd L r (RingX Z ad G) R) (h : lk G.nodes here = some nd) (h0 : 0 < (bw G nd here pt).length) (q : ∀ H', Sat Z (⟨r, RingX Z ad G⟩ :: R) H' → Q (.int (farM G nd here pt)) H') : sp_farthest K Z vs H Q E := ⟨r, here, pt, ad, G, nd, R, e, s.fnd, h, h0, q⟩
def sp_known_by (_ : PySem.W.Frag) (Z : Ad) : Sp := fun vs H Q _ => ∃ (r : Addr) (here nm : Int) (ad : Int → Addr) (G : RingM) (nd : NodeM) (L : List Atom), vs = [.ref r, .int here, .int nm] ∧ Sat Z (⟨r, RingX Z ad G⟩ :: L) H ∧ lk G.nodes here = some nd ∧ (nm ∈ nd.chain ∨ some nm ∈ nd.far) ∧ ∀ p H', Sat Z (⟨p, TV [.str (knownB G here nm).1, .int (knownB G here nm).2]⟩ :: ⟨r, RingX Z ad G⟩ :: L) H' → Q (.ref p) H'
theorem use_knownby {here nm : Int} (e : vs = [.ref r, .int here, .int nm]) (s : Sat Z L H) (f : Fnd L r (RingX Z ad G) R) (h : lk G.nodes here = some nd) (h0 : nm ∈ nd.chain ∨ some nm ∈ nd.far) (q : ∀ p H', Sat Z (⟨p, TV [.str (knownB G here nm).1, .int (knownB G here nm).2]⟩ :: ⟨r, RingX Z ad G⟩ :: R) H' → Q (.ref p) H') : sp_known_by K Z vs H Q E := ⟨r, here, nm, ad, G, nd, R, e, s.fnd, h, h0, q⟩
def sp_Seeker___init__ (_ : PySem.W.Frag) (Z : Ad) : Sp := fun vs H Q _ => ∃ (k dx r : Addr) (pt via : Int) (ad : Int → Addr) (G : RingM) (L : List Atom), vs = [.ref k, .ref r, .int pt, .int via] ∧ Sat Z (⟨k, Pt (.ins Z.Seeker dx [])⟩ :: ⟨r, RingX Z ad G⟩ :: L) H ∧ (0 ≤ pt ∧ pt < 2 ^ G.bits) ∧ via ∈ G.names ∧ ∀ H', Sat Z (⟨k, SeekX Z r ⟨pt, [via], 0, none⟩⟩ :: ⟨r, RingX Z ad G⟩ :: L) H' → Q .non H'
theorem use_Seeker {pt via : Int} {vv : Addr → List V} {P : Addr → Hp → Prop} (e : ∀ x, vv x = [.ref x, .ref r, .int pt, .int via]) (s : Sat Z L H) (f : Fnd L r (RingX Z ad G) R) (h0 : 0 ≤ pt ∧ pt < 2 ^ G.bits) (h1 : via ∈ G.names) (q : ∀ x H', Sat Z (⟨x, SeekX Z r ⟨pt, [via], 0, none⟩⟩ :: ⟨r, RingX Z ad G⟩ :: R) H' → P x H') :
    ∀ x dx, H x = none → H dx = none → dx ≠ x → sp_Seeker___init__ K Z (vv x) (upd (upd H dx (.own x)) x (.ins Z.Seeker dx [])) (fun v H3 => v = .non ∧ P x H3) E := by
  intro x dx hx hd ne
  have s1 : Sat Z (⟨dx, Pt (.own x)⟩ :: L) _ := s.new hd (fun _ z => by cases z)
  have s2 : Sat Z (⟨x, Pt (.ins Z.Seeker dx [])⟩ :: ⟨dx, Pt (.own x)⟩ :: L) _ := s1.new (p := x) (by rw [upd_ne (fun z => ne z.symm)]; exact hx) (fun _ z => by cases z)
  exact ⟨x, dx, r, pt, via, ad, G, R, e x, s2.ent, h0, h1, fun H' s' => ⟨rfl, q x H' s'⟩⟩
def sp_Seeker_at (_ : PySem.W.Frag) (Z : Ad) : Sp := fun vs H Q _ => ∃ (k r : Addr) (S : SeekM) (z : Int) (L : List Atom), vs = [.ref k] ∧ Sat Z (⟨k, SeekX Z r S⟩ :: L) H ∧ S.trail.getLast? = some z ∧ Q (.int z) H
theorem use_skat {z : Int} (e : vs = [.ref k]) (s : Sat Z L H) (f : Fnd L k (SeekX Z r S) R) (h : S.trail.getLast? = some z) (q : Q (.int z) H) : sp_Seeker_at K Z vs H Q E := ⟨k, r, S, z, R, e, s.fnd, h, q⟩
def sp_Seeker_way (_ : PySem.W.Frag) (Z : Ad) : Sp := fun vs H Q _ => ∃ (k r : Addr) (S : SeekM) (L : List Atom), vs = [.ref k] ∧ Sat Z (⟨k, SeekX Z r S⟩ :: L) H ∧ ∀ l H', Sat Z (⟨l, LI S.trail⟩ :: ⟨k, SeekX Z r S⟩ :: L) H' → Q (.ref l) H'
theorem use_skway (e : vs = [.ref k]) (s : Sat Z L H) (f : Fnd L k (SeekX Z r S) R) (q : ∀ l H', Sat Z (⟨l, LI S.trail⟩ :: ⟨k, SeekX Z r S⟩ :: R) H' → Q (.ref l) H') : sp_Seeker_way K Z vs H Q E := ⟨k, r, S, R, e, s.fnd, q⟩
def sp_Seeker_backs (_ : PySem.W.Frag) (Z : Ad) : Sp := fun vs H Q _ => ∃ (k r : Addr) (S : SeekM) (L : List Atom), vs = [.ref k] ∧ Sat Z (⟨k, SeekX Z r S⟩ :: L) H ∧ Q (.int S.returns) H
theorem use_skbacks (e : vs = [.ref k]) (s : Sat Z L H) (f : Fnd L k (SeekX Z r S) R) (q : Q (.int S.returns) H) : sp_Seeker_backs K Z vs H Q E := ⟨k, r, S, R, e, s.fnd, q⟩
def sp_Seeker_answer (_ : PySem.W.Frag) (Z : Ad) : Sp := fun vs H Q _ => ∃ (k r : Addr) (S : SeekM) (L : List Atom), vs = [.ref k] ∧ Sat Z (⟨k, SeekX Z r S⟩ :: L) H ∧ Q (ov S.goal) H
theorem use_skanswer (e : vs = [.ref k]) (s : Sat Z L H) (f : Fnd L k (SeekX Z r S) R) (q : Q (ov S.goal) H) : sp_Seeker_answer K Z vs H Q E := ⟨k, r, S, R, e, s.fnd, q⟩
def sp_Seeker_go_back (_ : PySem.W.Frag) (_ : Ad) : Sp := fun vs H Q _ => ∃ k : Addr, vs = [.ref k] ∧ False
theorem goOn_end {here g : Int} (h : endO G here S.sought = some g) : goOn G S here = ⟨S.sought, S.trail, S.returns, some g⟩ := by unfold goOn; rw [h]
theorem goOn_hop {here : Int} (h : endO G here S.sought = none) : goOn G S here = ⟨S.sought, S.trail ++ [farO G here S.sought], S.returns, S.goal⟩ := by unfold goOn; rw [h]
theorem ov_isSome {o : Option Int} : (!decide (ov o = V.non)) = o.isSome := by
  cases o with
  | none => rw [ov_none, decide_eq_true rfl]; rfl
  | some i => rw [ov_some, decide_eq_false (fun z => by cases z)]; rfl
/-- where a seeker stands -/
structure StandsA (G : RingM) (S : SeekM) (here a : Int) : Prop where
  last : S.trail.getLast? = some here
  mem : here ∈ G.names
  nx : nxt G here = some a
  pt : 0 ≤ S.sought ∧ S.sought < 2 ^ G.bits
  ln : S.trail.length ≤ 1000
def sp_Seeker_go_upwards (_ : PySem.W.Frag) (Z : Ad) : Sp := fun vs H Q _ => ∃ (k r : Addr) (S : SeekM) (here a : Int) (ad : Int → Addr) (G : RingM) (L : List Atom), vs = [.ref k, .int here, .int a] ∧ Sat Z (⟨k, SeekX Z r S⟩ :: ⟨r, RingX Z ad G⟩ :: L) H ∧ StandsA G S here a ∧ here ≠ S.sought ∧ ∀ H', Sat Z (⟨k, SeekX Z r (goOn G S here)⟩ :: ⟨r, RingX Z ad G⟩ :: L) H' → Q .non H'
theorem use_skup {here a : Int} (e : vs = [.ref k, .int here, .int a]) (s : Sat Z L H) (f : Fnd L k (SeekX Z r S) R) (f2 : Fnd R r (RingX Z ad G) R1) (h : StandsA G S here a) (h2 : here ≠ S.sought) (q : ∀ H', Sat Z (⟨k, SeekX Z r (goOn G S here)⟩ :: ⟨r, RingX Z ad G⟩ :: R1) H' → Q .non H') : sp_Seeker_go_upwards K Z vs H Q E := by
  have s1 := s.fnd (p := k)
  have s2 : Sat Z (⟨r, RingX Z ad G⟩ :: ⟨k, SeekX Z r S⟩ :: R1) H := s1.fnd (p := r)
  exact ⟨k, r, S, here, a, ad, G, R1, e, ⟨s2.tabs, s2.star.swap⟩, h, h2, q⟩
def sp_Seeker_go_on (_ : PySem.W.Frag) (Z : Ad) : Sp := fun vs H Q _ => ∃ (k r : Addr) (S : SeekM) (here a : Int) (ad : Int → Addr) (G : RingM) (L : List Atom), vs = [.ref k] ∧ Sat Z (⟨k, SeekX Z r S⟩ :: ⟨r, RingX Z ad G⟩ :: L) H ∧ StandsA G S here a ∧ ∀ H', Sat Z (⟨k, SeekX Z r (goOn G S here)⟩ :: ⟨r, RingX Z ad G⟩ :: L) H' → Q .non H'
theorem use_skgo {here a : Int} (e : vs = [.ref k]) (s : Sat Z L H) (f : Fnd L k (SeekX Z r S) R) (f2 : Fnd R r (RingX Z ad G) R1) (h : StandsA G S here a) (q : ∀ H', Sat Z (⟨k, SeekX Z r (goOn G S here)⟩ :: ⟨r, RingX Z ad G⟩ :: R1) H' → Q .non H') : sp_Seeker_go_on K Z vs H Q E := by
  have s1 := s.fnd (p := k)
  have s2 : Sat Z (⟨r, RingX Z ad G⟩ :: ⟨k, SeekX Z r S⟩ :: R1) H := s1.fnd (p := r)
  exact ⟨k, r, S, here, a, ad, G, R1, e, ⟨s2.tabs, s2.star.swap⟩, h, q⟩
/-- a step: on, unless it has ended -/
noncomputable def stepM (G : RingM) (S : SeekM) (here : Int) : SeekM := if S.goal = none then goOn G S here else S
def sp_Seeker_step (_ : PySem.W.Frag) (Z : Ad) : Sp := fun vs H Q _ => ∃ (k r : Addr) (S : SeekM) (here a : Int) (ad : Int → Addr) (G : RingM) (L : List Atom), vs = [.ref k] ∧ Sat Z (⟨k, SeekX Z r S⟩ :: ⟨r, RingX Z ad G⟩ :: L) H ∧ StandsA G S here a ∧ ∀ H', Sat Z (⟨k, SeekX Z r (stepM G S here)⟩ :: ⟨r, RingX Z ad G⟩ :: L) H' → Q (.bl (stepM G S here).goal.isSome) H'
theorem use_skstep {here a : Int} (e : vs = [.ref k]) (s : Sat Z L H) (f : Fnd L k (SeekX Z r S) R) (f2 : Fnd R r (RingX Z ad G) R1) (h : StandsA G S here a) (q : ∀ H', Sat Z (⟨k, SeekX Z r (stepM G S here)⟩ :: ⟨r, RingX Z ad G⟩ :: R1) H' → Q (.bl (stepM G S here).goal.isSome) H') : sp_Seeker_step K Z vs H Q E := by
  have s1 := s.fnd (p := k)
  have s2 : Sat Z (⟨r, RingX Z ad G⟩ :: ⟨k, SeekX Z r S⟩ :: R1) H := s1.fnd (p := r)
  exact ⟨k, r, S, here, a, ad, G, R1, e, ⟨s2.tabs, s2.star.swap⟩, h, q⟩
end
local macro_rules | `(tactic| walk_at "lkk") => `(tactic| exact fun _ => rfl)
local macro_rules | `(tactic| walk_at "call2") => `(tactic| first
  | ((with_reducible refine' use_want ?e ?h0 ?h1 ?h2 ?_); (case e => rfl); (case h0 => assumption); (case h1 => infer_instance); (case h2 => assumption))
  | ((with_reducible refine' use_farthest ?e ?h0 ?h1 ?h2 ?h3 ?_); (case e => rfl); (case h0 => assumption); (case h1 => infer_instance); (case h2 => assumption); (case h3 => assumption); intro _ _)
  | ((with_reducible refine' use_knownby ?e ?h0 ?h1 ?h2 ?h3 ?_); (case e => rfl); (case h0 => assumption); (case h1 => infer_instance); (case h2 => assumption); (case h3 => assumption); intro _ _ _)
  | ((with_reducible refine' use_Seeker ?e ?h0 ?h1 ?h2 ?h3 ?_); (case e => exact fun _ => rfl); (case h0 => assumption); (case h1 => infer_instance); (case h2 => assumption); (case h3 => assumption); intro _ _ _)
  | ((with_reducible refine' use_skat ?e ?h0 ?h1 ?h2 ?_); (case e => rfl); (case h0 => assumption); (case h1 => infer_instance); (case h2 => assumption))
  | ((with_reducible refine' use_skway ?e ?h0 ?h1 ?_); (case e => rfl); (case h0 => assumption); (case h1 => infer_instance); intro _ _ _)
  | ((with_reducible refine' use_skbacks ?e ?h0 ?h1 ?_); (case e => rfl); (case h0 => assumption); (case h1 => infer_instance))
  | ((with_reducible refine' use_skanswer ?e ?h0 ?h1 ?_); (case e => rfl); (case h0 => assumption); (case h1 => infer_instance))
  | ((with_reducible refine' use_skup ?e ?h0 ?h1 ?h2 ?h3 ?h4 ?_); (case e => rfl); (case h0 => assumption); (case h1 => infer_instance); (case h2 => infer_instance); (case h3 => assumption); (case h4 => assumption); intro _ _)
  | ((with_reducible refine' use_skgo ?e ?h0 ?h1 ?h2 ?h3 ?_); (case e => rfl); (case h0 => assumption); (case h1 => infer_instance); (case h2 => infer_instance); (case h3 => assumption); intro _ _)
  | ((with_reducible refine' use_skstep ?e ?h0 ?h1 ?h2 ?h3 ?_); (case e => rfl); (case h0 => assumption); (case h1 => infer_instance); (case h2 => infer_instance); (case h3 => assumption); intro _ _)
  | ((with_reducible refine' s_insK ?h0 ?h1 ?h2 ?_); (case h0 => assumption); (case h1 => infer_instance); (case h2 => walk_at "lkk")))
def t_Ring_want_point (K : PySem.W.Frag) (Z : Ad) : TS :=
  (tIfS (tNot (tB (tMe Z.Space "has" (sp_Space_has K Z) [.pos 0, .pos 1] [] [] 2 0 (fun _ => E0) (tFld K (tVar 0) "circle") (tCons (tVar 1) tNil) tNil))) tNever tNext)
theorem rd_Ring_want_point (K : PySem.W.Frag) (Z : Ad) (C : CRg K Z) : ∀ vs H Q E, sp_Ring_want_point K Z vs H Q E → t_Ring_want_point K Z { nx := fun _ H' => Q .non H', rt := Q } (start (["self", "thing"]) vs) H := by
  rintro _ H Q E ⟨r, i, ad, G, L, rfl, s, h, q⟩
  cases C
  obtain ⟨dx, c, fx, d, dn, vr, vc, vfx, vdn, vd, vnd, vw⟩ := ring_view (r := r) s inferInstance
  show t_Ring_want_point K Z _ [some (.ref r), some (.int i)] H
  unfold t_Ring_want_point
  walk_at "go"
  rw [inB_T h]
  walk_at "go"
  exact q
def t_farthest (K : PySem.W.Frag) (Z : Ad) : TS :=
  (tSeq (tAsg (tMe Z.Ring "space" (sp_Ring_space K Z) [.pos 0] [] [] 1 0 (fun _ => E0) (tVar 0) tNil tNil) (gName 5))
  (tSeq (tAsg (tLc (iList K (tOp rCat (tMe Z.Ring "links" (sp_Ring_links K Z) [.pos 0, .pos 1] [] [] 2 0 (fun _ => E0) (tVar 0) (tCons (tVar 1) tNil) tNil) (tMe Z.Ring "fingers" (sp_Ring_fingers K Z) [.pos 0, .pos 1] [] [] 2 0 (fun _ => E0) (tVar 0) (tCons (tVar 1) tNil) tNil))) (gName 6) (tB (tMe Z.Ring "is_member" (sp_Ring_is_member K Z) [.pos 0, .pos 1] [] [] 2 0 (fun _ => E0) (tVar 0) (tCons (tVar 6) tNil) tNil)) (tVar 6) [6]) (gName 3))
  (tSeq (tAsg (tLc (iList K (tVar 3)) (gName 6) (tB (tMe Z.Space "is_between" (sp_Space_is_between K Z) [.pos 0, .pos 1, .pos 2, .pos 3] [] [] 4 0 (fun _ => E0) (tVar 5) (tCons (tVar 6) (tCons (tVar 1) (tCons (tVar 2) tNil))) tNil)) (tVar 6) [6]) (gName 4))
  (tRet (NL.tKeyed Z.tabs "farthest.<locals>.<lambda>" 6 (tMe Z.Space "distance" (sp_Space_distance K Z) [.pos 0, .pos 1, .pos 2] [] [] 3 0 (fun _ => E0) (tVar 5) (tCons (tVar 1) (tCons (tVar 6) tNil)) tNil) (tCons (tVar 4) tNil) NL.rMaxK)))))
theorem rd_farthest (K : PySem.W.Frag) (Z : Ad) : ∀ vs H Q E, sp_farthest K Z vs H Q E → t_farthest K Z { nx := fun _ H' => Q .non H', rt := Q } (start (["ring", "here", "point", "known", "between", "space", "name"]) vs) H := by
  rintro _ H Q E ⟨r, here, pt, ad, G, nd, L, rfl, s, h, h0, q⟩
  have w := ring_wf (r := r) s inferInstance
  have hl := w.ch here nd h
  show t_farthest K Z _ [some (.ref r), some (.int here), some (.int pt), none, none, none, none] H
  unfold t_farthest
  walk_at "go"
  rename_i c s1 lc H2 s2 lf H3 s3 l H4 s4
  refine fm_list s4 inferInstance inferInstance (nd.chain.map some ++ nd.far) ov (by rw [List.map_append, List.map_map]; rfl) (isM G) ov (fun D i z H5 hz s5 => ?_) (fin_fm fun D H5 s5 => ?_)
  · have hth : Th H5 (ov z) := by cases z with | none => exact Th.non | some i => exact Th.int
    have hme : memV G (ov z) = isM G z := by cases z <;> rfl
    dsimp only [wipe, List.set]
    walk_at "go"
    rw [hme]
    cases hb : isM G z with
    | true =>
      walk_at "go"
      exact fm_yes hz hb rfl s5 inferInstance (by rw [List.length_append, List.length_map]; omega)
    | false =>
      walk_at "go"
      exact fm_no hz hb s5 inferInstance
  have hkl : (kn G nd).length ≤ 40 := by
    have := List.length_filterMap_le (fun o => if isM G o = true then o else none) (nd.chain.map some ++ nd.far)
    rw [List.length_append, List.length_map] at this
    unfold kn
    omega
  rw [kn_vals] at s5
  have s6 := s5.ent (L' := ⟨D, LI (kn G nd)⟩ :: ⟨c, SpA Z G.bits⟩ :: ⟨r, RingX Z ad G⟩ :: L)
  clear s5 s4 s3 s2 s1
  walk_at "go"
  refine fm_list s6 inferInstance inferInstance (kn G nd) V.int rfl (fun x => betw (2 ^ G.bits) x here pt) (fun z => .int z) (fun D2 i z H6 hz s7 => ?_) (fin_fmI (G := fun x => x) fun D2 H6 s7 => ?_)
  · dsimp only [wipe, List.set]
    walk_at "go"
    cases hb : betw (2 ^ G.bits) z here pt with
    | true =>
      walk_at "go"
      exact fm_yes hz hb rfl s7 inferInstance (by omega)
    | false =>
      walk_at "go"
      exact fm_no hz hb s7 inferInstance
  rw [List.map_id'] at s7
  walk_at "go"
  refine s_maxK (SatI.ent (L := ⟨D2, LI (bw G nd here pt)⟩ :: _) (L' := ⟨D2, LI (bw G nd here pt)⟩ :: ⟨c, SpA Z G.bits⟩ :: ⟨r, RingX Z ad G⟩ :: L) s7) inferInstance inferInstance h0 (fun x => (x - here) % 2 ^ G.bits) (fun cc od H7 n hn' h7 => ?_) fun i n H7 fb h7 => ?_
  · dsimp only [List.set]
    walk_at "go"
    exact h7
  · rw [show n = farM G nd here pt from bst_eq (best_neg fb)]
    exact q _ h7.ent
def t_Seeker___init__ (K : PySem.W.Frag) (Z : Ad) : TS :=
  (tSeq (tDrop (tMe Z.Ring "want_point" (sp_Ring_want_point K Z) [.pos 0, .pos 1] [] [] 2 0 (fun _ => E0) (tVar 1) (tCons (tVar 2) tNil) tNil))
  (tSeq (tDrop (tMe Z.Ring "node" (sp_Ring_node K Z) [.pos 0, .pos 1] [] [] 2 0 (fun _ => E0) (tVar 1) (tCons (tVar 3) tNil) tNil))
  (tSeq (sFld K (tVar 0) (tVar 1) "around")
  (tSeq (sFld K (tVar 0) (tVar 2) "sought")
  (tSeq (sFld K (tVar 0) (tLst (tCons (tVar 3) tNil)) "trail")
  (tSeq (sFld K (tVar 0) (tC (.int 0)) "returns")
  (sFld K (tVar 0) (tC .non) "goal")))))))
theorem rd_Seeker___init__ (K : PySem.W.Frag) (Z : Ad) (C : CSk K Z) : ∀ vs H Q E, sp_Seeker___init__ K Z vs H Q E → t_Seeker___init__ K Z { nx := fun _ H' => Q .non H', rt := Q } (start (["self", "ring", "point", "via"]) vs) H := by
  rintro _ H Q E ⟨k, dx, r, pt, via, ad, G, L, rfl, s, h0, h1, q⟩
  cases C
  show t_Seeker___init__ K Z _ [some (.ref k), some (.ref r), some (.int pt), some (.int via)] H
  unfold t_Seeker___init__
  walk_at "go"
  exact q _ (seek_close (S := ⟨pt, [via], 0, none⟩) (by assumption))
def t_Seeker_at (K : PySem.W.Frag) (Z : Ad) : TS :=
  (tRet (tOp (rIxL K) (tFld K (tVar 0) "trail") (tUn (rU fun i => .int (-i)) (tC (.int 1)))))
theorem rd_Seeker_at (K : PySem.W.Frag) (Z : Ad) (C : CSk K Z) : ∀ vs H Q E, sp_Seeker_at K Z vs H Q E → t_Seeker_at K Z { nx := fun _ H' => Q .non H', rt := Q } (start (["self"]) vs) H := by
  rintro _ H Q E ⟨k, r, S, z, L, rfl, s, h, q⟩
  cases C
  obtain ⟨dx, t, vk, vt⟩ := seek_view (k := k) s inferInstance
  show t_Seeker_at K Z _ [some (.ref k)] H
  unfold t_Seeker_at
  walk_at "go"
  refine ⟨t, _, -1, .int z, rfl, rfl, SqL.of vt, ?_, q⟩
  exact at_last h
def t_Seeker_way (K : PySem.W.Frag) (Z : Ad) : TS :=
  (tRet (tCB (rListS K) (tCons (tFld K (tVar 0) "trail") tNil)))
theorem rd_Seeker_way (K : PySem.W.Frag) (Z : Ad) (C : CSk K Z) : ∀ vs H Q E, sp_Seeker_way K Z vs H Q E → t_Seeker_way K Z { nx := fun _ H' => Q .non H', rt := Q } (start (["self"]) vs) H := by
  rintro _ H Q E ⟨k, r, S, L, rfl, s, q⟩
  cases C
  obtain ⟨dx, t, vk, vt⟩ := seek_view (k := k) s inferInstance
  show t_Seeker_way K Z _ [some (.ref k)] H
  unfold t_Seeker_way
  walk_at "go"
  exact s_list0 (SqL.of vt) s q
def t_Seeker_backs (K : PySem.W.Frag) (Z : Ad) : TS :=
  (tRet (tFld K (tVar 0) "returns"))
theorem rd_Seeker_backs (K : PySem.W.Frag) (Z : Ad) (C : CSk K Z) : ∀ vs H Q E, sp_Seeker_backs K Z vs H Q E → t_Seeker_backs K Z { nx := fun _ H' => Q .non H', rt := Q } (start (["self"]) vs) H := by
  rintro _ H Q E ⟨k, r, S, L, rfl, s, q⟩
  cases C
  obtain ⟨dx, t, vk, vt⟩ := seek_view (k := k) s inferInstance
  show t_Seeker_backs K Z _ [some (.ref k)] H
  unfold t_Seeker_backs
  walk_at "go"
  exact q
def t_Seeker_answer (K : PySem.W.Frag) (Z : Ad) : TS :=
  (tRet (tFld K (tVar 0) "goal"))
theorem rd_Seeker_answer (K : PySem.W.Frag) (Z : Ad) (C : CSk K Z) : ∀ vs H Q E, sp_Seeker_answer K Z vs H Q E → t_Seeker_answer K Z { nx := fun _ H' => Q .non H', rt := Q } (start (["self"]) vs) H := by
  rintro _ H Q E ⟨k, r, S, L, rfl, s, q⟩
  cases C
  obtain ⟨dx, t, vk, vt⟩ := seek_view (k := k) s inferInstance
  show t_Seeker_answer K Z _ [some (.ref k)] H
  unfold t_Seeker_answer
  walk_at "go"
  exact q
def t_Seeker_go_back (K : PySem.W.Frag) (Z : Ad) : TS :=
  (tSeq (tAsg (tLc (iList K (tFld K (tVar 0) "trail")) (gName 2) (tB (tMe Z.Ring "is_member" (sp_Ring_is_member K Z) [.pos 0, .pos 1] [] [] 2 0 (fun _ => E0) (tFld K (tVar 0) "around") (tCons (tVar 2) tNil) tNil)) (tVar 2) [2]) (gName 1))
  (tSeq (tIfS (tTest (tOp (rEqD K) (tVar 1) (tLst tNil))) (tAsg (tLst (tCons (tMe Z.Space "preceding" (sp_Space_preceding K Z) [.pos 0, .pos 1, .pos 2] [] [] 3 0 (fun _ => E0) (tMe Z.Ring "space" (sp_Ring_space K Z) [.pos 0] [] [] 1 0 (fun _ => E0) (tFld K (tVar 0) "around") tNil tNil) (tCons (tMe Z.Ring "base" (sp_Ring_base K Z) [.pos 0] [] [] 1 0 (fun _ => E0) (tFld K (tVar 0) "around") tNil tNil) (tCons (tFld K (tVar 0) "sought") tNil)) tNil) tNil)) (gName 1)) tNext)
  (tSeq (tDrop (tBM K "list" rAppend (tFld K (tVar 0) "trail") (tCons (tOp (rIxL K) (tVar 1) (tUn (rU fun i => .int (-i)) (tC (.int 1)))) tNil)))
  (sFldAug K (tVar 0) (tC (.int 1)) (ipI fun i j => i + j) "returns"))))
theorem rd_Seeker_go_back (K : PySem.W.Frag) (Z : Ad) (C : CSk K Z) : ∀ vs H Q E, sp_Seeker_go_back K Z vs H Q E → t_Seeker_go_back K Z { nx := fun _ H' => Q .non H', rt := Q } (start (["self", "left", "name"]) vs) H := by
  rintro _ H Q E ⟨k, rfl, h⟩
  exact h.elim
def t_Seeker_go_upwards (K : PySem.W.Frag) (Z : Ad) : TS :=
  (tIfS (tOr (tTest (tOp rEq (tFld K (tVar 0) "sought") (tVar 2))) (tB (tMe Z.Space "is_between" (sp_Space_is_between K Z) [.pos 0, .pos 1, .pos 2, .pos 3] [] [] 4 0 (fun _ => E0) (tMe Z.Ring "space" (sp_Ring_space K Z) [.pos 0] [] [] 1 0 (fun _ => E0) (tFld K (tVar 0) "around") tNil tNil) (tCons (tFld K (tVar 0) "sought") (tCons (tVar 1) (tCons (tVar 2) tNil))) tNil))) (sFld K (tVar 0) (tVar 2) "goal") (tDrop (tBM K "list" rAppend (tFld K (tVar 0) "trail") (tCons (tCl (sp_farthest K Z) [.pos 0, .pos 1, .pos 2] [] [] 3 0 (fun _ => E0) (tCons (tFld K (tVar 0) "around") (tCons (tVar 1) (tCons (tFld K (tVar 0) "sought") tNil))) tNil) tNil))))
theorem rd_Seeker_go_upwards (K : PySem.W.Frag) (Z : Ad) (C : CSk K Z) : ∀ vs H Q E, sp_Seeker_go_upwards K Z vs H Q E → t_Seeker_go_upwards K Z { nx := fun _ H' => Q .non H', rt := Q } (start (["self", "here", "after"]) vs) H := by
  rintro _ H Q E ⟨k, r, S, here, a, ad, G, L, rfl, s, h, hne, q⟩
  cases C
  have w := ring_wf (r := r) s inferInstance
  obtain ⟨hl, hm, hnx, hpt, hln⟩ := h
  obtain ⟨dx, t, s1⟩ := seek_open s
  have he : endO G here S.sought = if S.sought = a ∨ betw (2 ^ G.bits) S.sought here a = true then some a else none := by
    unfold endO
    rw [if_neg hne, hnx]
  show t_Seeker_go_upwards K Z _ [some (.ref k), some (.int here), some (.int a)] H
  unfold t_Seeker_go_upwards
  walk_at "go"
  refine g_ite (fun c1 => ?_) fun c1 => ?_
  · rw [if_pos (.inl c1)] at he
    rw [goOn_end he] at q
    walk_at "go"
    exact q _ (seek_close (S := ⟨S.sought, S.trail, S.returns, some a⟩) (by assumption))
  · walk_at "go"
    cases hb : betw (2 ^ G.bits) S.sought here a with
    | true =>
      rw [if_pos (.inr hb)] at he
      rw [goOn_end he] at q
      walk_at "go"
      rename_i H2 s2
      exact q _ (seek_close (S := ⟨S.sought, S.trail, S.returns, some a⟩) (s2.ent (L' := ⟨k, Pt (.ins Z.Seeker dx [("around", .ref r), ("sought", .int S.sought), ("trail", .ref t), ("returns", .int S.returns), ("goal", .int a)])⟩ :: ⟨t, LI S.trail⟩ :: ⟨r, RingX Z ad G⟩ :: L)))
    | false =>
      rw [if_neg (fun z => z.elim c1 fun z => by rw [hb] at z; cases z)] at he
      rw [goOn_hop he] at q
      obtain ⟨nd, h1, h2⟩ := next_betw w hm hpt hnx he
      have h3 := List.length_pos_of_mem h2
      have e : farO G here S.sought = farM G nd here S.sought := by unfold farO; rw [h1]
      rw [e] at q
      walk_at "go"
      rename_i H2 s2
      exact q _ (seek_close (S := ⟨S.sought, S.trail ++ [farM G nd here S.sought], S.returns, S.goal⟩) (s2.ent (L' := ⟨k, Pt (.ins Z.Seeker dx [("around", .ref r), ("sought", .int S.sought), ("trail", .ref t), ("returns", .int S.returns), ("goal", ov S.goal)])⟩ :: ⟨t, LI (S.trail ++ [farM G nd here S.sought])⟩ :: ⟨r, RingX Z ad G⟩ :: L)))
def t_Seeker_go_on (K : PySem.W.Frag) (Z : Ad) : TS :=
  (tSeq (tAsg (tMe Z.Seeker "at" (sp_Seeker_at K Z) [.pos 0] [] [] 1 0 (fun _ => E0) (tVar 0) tNil tNil) (gName 1))
  (tIfS (tNot (tB (tMe Z.Ring "is_member" (sp_Ring_is_member K Z) [.pos 0, .pos 1] [] [] 2 0 (fun _ => E0) (tFld K (tVar 0) "around") (tCons (tVar 1) tNil) tNil))) (tDrop (tMe Z.Seeker "go_back" (sp_Seeker_go_back K Z) [.pos 0] [] [] 1 0 (fun _ => E0) (tVar 0) tNil tNil)) (tIfS (tTest (tOp rEq (tVar 1) (tFld K (tVar 0) "sought"))) (sFld K (tVar 0) (tVar 1) "goal") (tDrop (tMe Z.Seeker "go_upwards" (sp_Seeker_go_upwards K Z) [.pos 0, .pos 1, .pos 2] [] [] 3 0 (fun _ => E0) (tVar 0) (tCons (tVar 1) (tCons (tMe Z.Ring "next_of" (sp_Ring_next_of K Z) [.pos 0, .pos 1] [] [] 2 0 (fun _ => E0) (tFld K (tVar 0) "around") (tCons (tVar 1) tNil) tNil) tNil)) tNil)))))
theorem rd_Seeker_go_on (K : PySem.W.Frag) (Z : Ad) (C : CSk K Z) : ∀ vs H Q E, sp_Seeker_go_on K Z vs H Q E → t_Seeker_go_on K Z { nx := fun _ H' => Q .non H', rt := Q } (start (["self", "here"]) vs) H := by
  rintro _ H Q E ⟨k, r, S, here, a, ad, G, L, rfl, s, h, q⟩
  cases C
  have w := ring_wf (r := r) s inferInstance
  obtain ⟨hl, hm, hnx, hpt, hln⟩ := h
  obtain ⟨dx, t, vk, vt⟩ := seek_view (k := k) s inferInstance
  show t_Seeker_go_on K Z _ [some (.ref k), none] H
  unfold t_Seeker_go_on
  walk_at "go"
  rw [show memV G (.int here) = true from decide_eq_true hm]
  walk_at "go"
  refine g_ite (fun c1 => ?_) fun c1 => ?_
  · obtain ⟨dx2, t2, s1⟩ := seek_open s
    have he : endO G here S.sought = some here := if_pos c1
    rw [goOn_end he] at q
    walk_at "go"
    exact q _ (seek_close (S := ⟨S.sought, S.trail, S.returns, some here⟩) (by assumption))
  · obtain ⟨nd, h1, h2, _⟩ := nxt_some hnx
    have hst : StandsA G S here a := ⟨hl, hm, hnx, hpt, hln⟩
    walk_at "go"
    rw [h2, ov_some]
    walk_at "go"
    exact q _ (by assumption)
def t_Seeker_step (K : PySem.W.Frag) (Z : Ad) : TS :=
  (tSeq (tIfS (tTest (tOp rIsN (tFld K (tVar 0) "goal") (tC .non))) (tDrop (tMe Z.Seeker "go_on" (sp_Seeker_go_on K Z) [.pos 0] [] [] 1 0 (fun _ => E0) (tVar 0) tNil tNil)) tNext)
  (tRet (tOp rNotN (tFld K (tVar 0) "goal") (tC .non))))
theorem rd_Seeker_step (K : PySem.W.Frag) (Z : Ad) (C : CSk K Z) : ∀ vs H Q E, sp_Seeker_step K Z vs H Q E → t_Seeker_step K Z { nx := fun _ H' => Q .non H', rt := Q } (start (["self"]) vs) H := by
  rintro _ H Q E ⟨k, r, S, here, a, ad, G, L, rfl, s, h, q⟩
  cases C
  obtain ⟨dx, t, vk, vt⟩ := seek_view (k := k) s inferInstance
  show t_Seeker_step K Z _ [some (.ref k)] H
  unfold t_Seeker_step
  walk_at "on"
  refine g_ite (fun c1 => ?_) fun c1 => ?_
  · have hg : S.goal = none := by
      cases e : S.goal with
      | none => rfl
      | some g => rw [e] at c1; cases c1
    have e : stepM G S here = goOn G S here := if_pos hg
    rw [e] at q
    walk_at "go"
    rename_i H2 s2
    obtain ⟨dx2, t2, vk2, vt2⟩ := seek_view (k := k) s2 inferInstance
    walk_at "go"
    rw [ov_isSome]
    exact q _ s2
  · have e : stepM G S here = S := if_neg (fun z => c1 (by rw [z]; rfl))
    rw [e] at q
    walk_at "go"
    rw [ov_isSome]
    exact q _ s
end NN
namespace NN
open PySem L2
local macro_rules | `(tactic| walk_at "nl") => `(tactic| first | with_reducible assumption | omega | (simp only [List.length_map, List.length_cons, List.length_nil, List.length_append, List.length_reverse, List.length_take, List.length_drop] <;> omega) | decide)
local macro_rules | `(tactic| walk_at "ar") => `(tactic| first | omega | (simp only [List.length_cons, List.length_nil] <;> omega) | (simp only [List.length_cons, List.length_nil, List.length_append, List.length_map, List.length_set, List.length_take, List.length_drop, List.length_reverse] <;> omega) | decide)
local macro_rules | `(tactic| walk_at "cond") => `(tactic| first | assumption | exact c_mulB | (exact c_mulL (by walk_at "nl") (by walk_at "nl")) | (exact c_mulR (by walk_at "nl") (by walk_at "nl")) | (exact c_divW (by walk_at "nl") (by walk_at "nl")) | (exact c_pow (by walk_at "nl") (by walk_at "nl") (by walk_at "nl")) | walk_at "nl")
local macro_rules | `(tactic| walk_at "sz") => `(tactic| first | exact sz_small (by simp only [List.length_cons, List.length_nil]; decide) | exact sz_small (by decide) | exact sz_small (by walk_at "ar"))
local macro_rules | `(tactic| walk_at "sl") => `(tactic| first | exact sz_less (by walk_at "ar"))
local macro_rules | `(tactic| walk_at "at") => `(tactic| first | assumption | exact at_0 | exact at_1 | exact at_2 | exact at_3 | exact at_4 | exact at_5 | exact at_6 | exact at_7 | exact at_8 | exact at_9 | exact at_10 | exact at_11 | exact at_12 | exact at_13 | exact at_14 | exact at_15 | exact atI_nat (by assumption))
local macro_rules | `(tactic| walk_at "flat") => `(tactic| first | exact ints_flat _ | rfl | assumption | decide)
local macro_rules | `(tactic| walk_at "ixn") => `(tactic| first | with_unfolding_all rfl | exact ixN_lit (j := 0) rfl (by walk_at "ar") | exact ixN_nat (by walk_at "ar"))
local macro_rules | `(tactic| walk_at "sat") => `(tactic| first | assumption | exact SatI.ent (by assumption))
local macro_rules | `(tactic| walk_at "hat") => `(tactic| first | with_reducible assumption | exact SatI.at (by assumption))
local macro_rules | `(tactic| walk_at "lt") => `(tactic| first | decide | (simp only [List.length_cons, List.length_nil]; decide))
local macro_rules | `(tactic| walk_at "putf") => `(tactic| (simp (decide := true) only [putF, if_true, if_false]) <;> rfl)
local macro_rules | `(tactic| walk_at "lkr") => `(tactic| exact fun _ _ _ _ => rfl)
local macro_rules | `(tactic| walk_at "ok") => `(tactic| first | assumption | decide +kernel)
local macro_rules | `(tactic| walk_at "lkk") => `(tactic| exact fun _ => rfl)
local macro_rules | `(tactic| walk_at "lkf") => `(tactic| exact fun _ _ => rfl)
local macro_rules | `(tactic| walk_at "dval") => `(tactic| first | assumption | rfl)
local macro_rules | `(tactic| walk_at "fm") => `(tactic| first | exact fm_yes (by assumption) (by first | rfl | assumption) rfl (by assumption) inferInstance (by walk_at "ar") | exact fm_no (by assumption) (by first | rfl | assumption) (by assumption) inferInstance)
local macro_rules | `(tactic| walk_at "call") => `(tactic| fail)
local macro_rules | `(tactic| walk_at "call2") => `(tactic| fail)
local macro_rules | `(tactic| walk_at "go1") => `(tactic| first | ((with_reducible refine Stp.imp ?_)) | (((with_reducible refine' g_eqc ?h0 ?_); (case h0 => rfl))) | (((with_reducible refine' g_I ?h0 ?_); (case h0 => walk_at "cond"))) | (((with_reducible refine' g_eq ?h0 ?_); (case h0 => with_unfolding_all rfl))) | (((with_reducible refine' g_ne ?h0 ?_); (case h0 => with_unfolding_all rfl))) | (((with_reducible refine' g_sz ?h0 ?_); (case h0 => walk_at "sz"); intro p hp; generalize hg : upd _ p _ = H2; (first | have hs := sat_newLI hg hp (by with_reducible assumption) inferInstance | have hs := sat_newL hg hp (by with_reducible assumption) | have hs := sat_newT hg hp (by with_reducible assumption)); clear hg hp)) | (((with_reducible refine' s_lenI ?h0 ?h1 ?h2 ?h3 ?_); (case h0 => with_reducible assumption); (case h1 => infer_instance); (case h2 => infer_instance); (case h3 => infer_instance))) | (((with_reducible refine' s_lenL ?h0 ?h1 ?h2 ?_); (case h0 => with_reducible assumption); (case h1 => infer_instance); (case h2 => infer_instance))) | (((with_reducible refine' s_lenT ?h0 ?h1 ?_); (case h0 => with_reducible assumption); (case h1 => infer_instance))) | (((with_reducible refine' s_listL ?h0 ?h1 ?h2 ?_); (case h0 => with_reducible assumption); (case h1 => infer_instance); (case h2 => infer_instance); intro _ _ _)) | (((with_reducible refine' s_listT ?h0 ?h1 ?_); (case h0 => with_reducible assumption); (case h1 => infer_instance); intro _ _ _)) | (((with_reducible refine' s_slTo ?h0 ?h1 ?h2 ?h3 ?h4 ?_); (case h0 => with_reducible assumption); (case h1 => infer_instance); (case h2 => infer_instance); (case h3 => infer_instance); (case h4 => walk_at "nl"); intro _ _ _)) | (((with_reducible refine' s_slFrom ?h0 ?h1 ?h2 ?h3 ?h4 ?_); (case h0 => with_reducible assumption); (case h1 => infer_instance); (case h2 => infer_instance); (case h3 => infer_instance); (case h4 => walk_at "nl"); intro _ _ _)) | (((with_reducible refine' s_slLast ?h0 ?h1 ?h2 ?h3 ?_); (case h0 => with_reducible assumption); (case h1 => infer_instance); (case h2 => infer_instance); (case h3 => infer_instance); intro _ _ _)) | (((with_reducible refine' s_slMid ?h0 ?h1 ?h2 ?h3 ?h4 ?h5 ?_); (case h0 => with_reducible assumption); (case h1 => infer_instance); (case h2 => infer_instance); (case h3 => infer_instance); (case h4 => walk_at "nl"); (case h5 => walk_at "nl"); intro _ _ _)) | (((with_reducible refine' s_sum ?h0 ?h1 ?h2 ?h3 ?_); (case h0 => with_reducible assumption); (case h1 => infer_instance); (case h2 => infer_instance); (case h3 => infer_instance))) | (((with_reducible refine' s_slL ?h0 ?h1 ?h2 ?_); (case h0 => with_reducible assumption); (case h1 => infer_instance); (case h2 => infer_instance); intro _ _ _)) | (((with_reducible refine' s_ixL ?h0 ?h1 ?h2 ?h3 ?_); (case h0 => with_reducible assumption); (case h1 => infer_instance); (case h2 => infer_instance); (case h3 => walk_at "at"))) | (((with_reducible refine' s_ixLast ?h0 ?h1 ?h2 ?h3 ?h4 ?_); (case h0 => with_reducible assumption); (case h1 => infer_instance); (case h2 => infer_instance); (case h3 => infer_instance); (case h4 => assumption))) | (((with_reducible refine' s_ixIn ?h0 ?h1 ?h2 ?h3 ?h4 ?h5 ?_); (case h0 => with_reducible assumption); (case h1 => infer_instance); (case h2 => infer_instance); (case h3 => infer_instance); (case h4 => walk_at "nl"); (case h5 => walk_at "nl"); intro n hn; (try simp only [List.mem_cons, List.not_mem_nil, or_false] at hn))) | (((with_reducible refine' s_ixT ?h0 ?h1 ?h2 ?_); (case h0 => with_reducible assumption); (case h1 => infer_instance); (case h2 => walk_at "at"))) | (((with_reducible refine' s_inI ?h0 ?h1 ?h2 ?h3 ?_); (case h0 => with_reducible assumption); (case h1 => infer_instance); (case h2 => infer_instance); (case h3 => infer_instance))) | (((with_reducible refine' s_ninI ?h0 ?h1 ?h2 ?h3 ?_); (case h0 => with_reducible assumption); (case h1 => infer_instance); (case h2 => infer_instance); (case h3 => infer_instance))) | (((with_reducible refine' s_in ?h0 ?h1 ?h2 ?h3 ?h4 ?_); (case h0 => with_reducible assumption); (case h1 => infer_instance); (case h2 => infer_instance); (case h3 => with_unfolding_all rfl); (case h4 => walk_at "flat"))) | (((with_reducible refine' s_setLI ?h0 ?h1 ?h2 ?h3 ?_); (case h0 => with_reducible assumption); (case h1 => infer_instance); (case h2 => infer_instance); (case h3 => walk_at "ixn"); intro _ _)) | (((with_reducible refine' s_setL ?h0 ?h1 ?h2 ?_); (case h0 => with_reducible assumption); (case h1 => infer_instance); (case h2 => with_unfolding_all rfl); intro _ _)) | (((with_reducible refine' s_appendI ?h0 ?h1 ?h2 ?h3 ?_); (case h0 => with_reducible assumption); (case h1 => infer_instance); (case h2 => infer_instance); (case h3 => walk_at "sl"); intro _ _)) | (((with_reducible refine' s_append ?h0 ?h1 ?h2 ?_); (case h0 => with_reducible assumption); (case h1 => infer_instance); (case h2 => walk_at "sl"); intro _ _)) | (((with_reducible refine' s_tyL ?h0 ?h1 ?h2 ?_); (case h0 => with_reducible assumption); (case h1 => infer_instance); (case h2 => infer_instance))) | (((with_reducible refine' s_catI ?h0 ?h1 ?h2 ?h3 ?h4 ?h5 ?_); (case h0 => with_reducible assumption); (case h1 => infer_instance); (case h2 => infer_instance); (case h3 => infer_instance); (case h4 => infer_instance); (case h5 => walk_at "sz"); intro _ _ _)) | (((with_reducible refine' s_cat ?h0 ?h1 ?h2 ?h3 ?_); (case h0 => with_reducible assumption); (case h1 => infer_instance); (case h2 => infer_instance); (case h3 => walk_at "sz"); intro _ _ _)) | (((with_reducible refine' s_sorted ?h0 ?h1 ?h2 ?h3 ?_); (case h0 => with_reducible assumption); (case h1 => infer_instance); (case h2 => infer_instance); (case h3 => infer_instance); intro _ _ _)) | (((with_reducible refine' s_eqL ?h0 ?h1 ?h2 ?h3 ?h4 ?h5 ?h6 ?_); (case h0 => with_reducible assumption); (case h1 => infer_instance); (case h2 => infer_instance); (case h3 => infer_instance); (case h4 => infer_instance); (case h5 => infer_instance); (case h6 => infer_instance))) | (((with_reducible refine' s_neL ?h0 ?h1 ?h2 ?h3 ?h4 ?h5 ?h6 ?_); (case h0 => with_reducible assumption); (case h1 => infer_instance); (case h2 => infer_instance); (case h3 => infer_instance); (case h4 => infer_instance); (case h5 => infer_instance); (case h6 => infer_instance))) | (((with_reducible refine' s_isLL ?h0 ?h1 ?_); (case h0 => with_reducible assumption); (case h1 => infer_instance))) | (((with_reducible refine' s_revI ?h0 ?h1 ?h2 ?h3 ?_); (case h0 => with_reducible assumption); (case h1 => infer_instance); (case h2 => infer_instance); (case h3 => infer_instance); intro _ _ _)) | (((with_reducible refine' s_revL ?h0 ?h1 ?h2 ?_); (case h0 => with_reducible assumption); (case h1 => infer_instance); (case h2 => infer_instance); intro _ _ _)) | (((with_reducible refine' s_insertI ?h0 ?h1 ?h2 ?h3 ?h4 ?h5 ?_); (case h0 => with_reducible assumption); (case h1 => infer_instance); (case h2 => infer_instance); (case h3 => walk_at "sl"); (case h4 => walk_at "nl"); (case h5 => walk_at "nl"); intro _ _)) | (((with_reducible refine' s_all ?h0 ?h1 ?_); (case h0 => with_reducible assumption); (case h1 => infer_instance))) | (((with_reducible refine' s_any ?h0 ?h1 ?_); (case h0 => with_reducible assumption); (case h1 => infer_instance))) | (((with_reducible refine' s_idx ?h0 ?h1 ?h2 ?h3 ?h4 ?_); (case h0 => with_reducible assumption); (case h1 => infer_instance); (case h2 => infer_instance); (case h3 => infer_instance); (case h4 => assumption))) | (((with_reducible refine' g_fld ?h0 ?h1 ?h2 ?h3 ?_); (case h0 => walk_at "hat"); (case h1 => with_reducible assumption); (case h2 => with_reducible assumption); (case h3 => with_unfolding_all rfl))) | (((with_reducible refine' s_sfld ?h0 ?h1 ?h2 ?h3 ?h4 ?h5 ?h6 ?_); (case h0 => with_reducible assumption); (case h1 => infer_instance); (case h2 => with_reducible assumption); (case h3 => with_reducible assumption); (case h4 => with_reducible assumption); (case h5 => walk_at "lt"); (case h6 => walk_at "putf"); intro _ _)) | (((with_reducible refine' s_ins ?h0 ?h1 ?h2 ?_); (case h0 => with_reducible assumption); (case h1 => infer_instance); (case h2 => with_unfolding_all rfl))) | (((with_reducible refine' s_dget ?h0 ?h1 ?h2 ?h3 ?_); (case h0 => with_reducible assumption); (case h1 => infer_instance); (case h2 => infer_instance); (case h3 => walk_at "dval"))) | (((with_reducible refine' s_din ?h0 ?h1 ?h2 ?_); (case h0 => with_reducible assumption); (case h1 => infer_instance); (case h2 => infer_instance))) | (((with_reducible refine' s_dnotin ?h0 ?h1 ?h2 ?_); (case h0 => with_reducible assumption); (case h1 => infer_instance); (case h2 => infer_instance))) | (((with_reducible refine' s_dput ?h0 ?h1 ?h2 ?h3 ?_); (case h0 => with_reducible assumption); (case h1 => infer_instance); (case h2 => infer_instance); (case h3 => walk_at "sl"); intro _ _)) | ((intro p hp; generalize hg : upd _ p (HO.dK []) = H2; have hs := sat_newD hg hp (by with_reducible assumption); clear hg hp)) | (((with_reducible refine' s_divmod ?h0 ?h1 ?h2 ?_); (case h0 => with_reducible assumption); (case h1 => walk_at "nl"); (case h2 => walk_at "nl"); intro _ _ _)) | (((with_reducible refine' s_gtup ?h0 ?h1 ?h2 ?_); (case h0 => with_reducible assumption); (case h1 => infer_instance); (case h2 => with_unfolding_all rfl))) | walk_at "call" | walk_at "call2")
local macro_rules | `(tactic| walk_at "go") => `(tactic| (repeat walk_at "go1"); (try dsimp only))
local macro_rules | `(tactic| walk_at "on") => `(tactic| (with_reducible refine g_seq ?_); walk_at "go")
local macro_rules | `(tactic| walk_at "ifs") => `(tactic| ((try simp only [List.length_map]) <;> (repeat' split) <;> omega))
local macro_rules | `(tactic| walk_at "spa") => `(tactic| first | assumption | exact sat_spH (by assumption) inferInstance)
local macro_rules | `(tactic| walk_at "th") => `(tactic| first | exact Th.int | exact Th.bl | exact Th.non | exact Th.str | assumption | exact Th.lst (SatI.at (by assumption)) | exact Th.tup (SatI.at (by assumption)) | exact Th.dK (SatI.at (by assumption)))
local macro_rules | `(tactic| walk_at "call2") => `(tactic| first
  | ((with_reducible refine' use_whole ?e ?h0 ?_); (case e => rfl); (case h0 => walk_at "th"))
  | ((with_reducible refine' use_make ?e ?h0 ?h1 ?h2 ?_); (case e => exact fun _ => rfl); (case h0 => assumption); (case h1 => walk_at "nl"); (case h2 => walk_at "nl"); intro _ _ _)
  | ((with_reducible refine' use_bits ?e ?h0 ?_); (case e => rfl); (case h0 => walk_at "spa"))
  | ((with_reducible refine' use_size ?e ?h0 ?_); (case e => rfl); (case h0 => walk_at "spa"))
  | ((with_reducible refine' use_has ?e ?h0 ?h1 ?_); (case e => rfl); (case h0 => walk_at "spa"); (case h1 => walk_at "th"))
  | ((with_reducible refine' use_distance ?e ?h0 ?_); (case e => rfl); (case h0 => walk_at "spa"))
  | ((with_reducible refine' use_between ?e ?h0 ?_); (case e => rfl); (case h0 => walk_at "spa"))
  | ((with_reducible refine' use_nearest ?e ?h0 ?h1 ?h2 ?h3 ?h4 ?_); (case e => rfl); (case h0 => walk_at "spa"); (case h1 => assumption); (case h2 => infer_instance); (case h3 => infer_instance); (case h4 => walk_at "nl"); intro _ _ _ _)
  | ((with_reducible refine' use_preceding ?e ?h0 ?h1 ?h2 ?h3 ?h4 ?_); (case e => rfl); (case h0 => walk_at "spa"); (case h1 => assumption); (case h2 => infer_instance); (case h3 => infer_instance); (case h4 => walk_at "nl"); intro _ _ _ _)
  | ((with_reducible refine' s_insS ?h0 ?h1 ?h2 ?_); (case h0 => assumption); (case h1 => infer_instance); (case h2 => rfl))
  | ((with_reducible refine' h_insS ?h0 ?h2 ?_); (case h0 => assumption); (case h2 => rfl)))
local macro_rules | `(tactic| walk_at "call2") => `(tactic| first
  | ((with_reducible refine' use_Node ?e ?h0 ?h1 ?h2 ?h3 ?h4 ?h5 ?_); (case e => exact fun _ => rfl); (case h0 => assumption); (case h1 => infer_instance); (case h2 => infer_instance); (case h3 => infer_instance); (case h4 => infer_instance); (case h5 => infer_instance); intro _ _ _)
  | ((with_reducible refine' use_upwards ?e ?h0 ?h1 ?h2 ?h3 ?_); (case e => rfl); (case h0 => walk_at "spa"); (case h1 => assumption); (case h2 => infer_instance); (case h3 => infer_instance); intro _ _ _)
  | ((with_reducible refine' use_others ?e ?h0 ?h1 ?h2 ?h3 ?h4 ?_); (case e => rfl); (case h0 => walk_at "spa"); (case h1 => assumption); (case h2 => infer_instance); (case h3 => infer_instance); (case h4 => walk_at "nl"); intro _ _ _)
  | ((with_reducible refine' use_farpt ?e ?h0 ?h1 ?h2 ?_); (case e => rfl); (case h0 => walk_at "spa"); (case h1 => walk_at "nl"); (case h2 => walk_at "nl"))
  | ((with_reducible refine' use_rchain ?e ?h0 ?h1 ?h2 ?h3 ?h4 ?h5 ?_); (case e => rfl); (case h0 => walk_at "spa"); (case h1 => assumption); (case h2 => infer_instance); (case h3 => infer_instance); (case h4 => walk_at "nl"); (case h5 => walk_at "nl"); intro _ _ _)
  | ((with_reducible refine' use_rfar ?e ?h0 ?h1 ?h2 ?h3 ?h4 ?_); (case e => rfl); (case h0 => walk_at "spa"); (case h1 => assumption); (case h2 => infer_instance); (case h3 => infer_instance); (case h4 => walk_at "nl"); intro _ _ _)
  | ((with_reducible refine' use_rnode ?e ?h0 ?h1 ?h2 ?h3 ?h4 ?h5 ?h6 ?_); (case e => rfl); (case h0 => walk_at "spa"); (case h1 => assumption); (case h2 => infer_instance); (case h3 => infer_instance); (case h4 => walk_at "nl"); (case h5 => walk_at "nl"); (case h6 => walk_at "nl"); intro _ _ _)
  | ((with_reducible refine' use_islen ?e ?h0 ?_); (case e => rfl); (case h0 => walk_at "th"))
  | ((with_reducible refine' use_arebase ?e ?h0 ?h1 ?h2 ?h3 ?h4 ?h5 ?h6 ?_); (case e => rfl); (case h0 => walk_at "spa"); (case h1 => assumption); (case h2 => infer_instance); (case h3 => infer_instance); (case h4 => assumption); (case h5 => assumption); (case h6 => assumption); intro _ _)
  | ((with_reducible refine' use_spaceof ?e ?h0 ?h1 ?h2 ?_); (case e => rfl); (case h0 => assumption); (case h1 => walk_at "nl"); (case h2 => walk_at "nl"); intro _ _ _)
  | ((with_reducible refine' use_Ring ?e ?h0 ?h1 ?h2 ?h3 ?h4 ?h5 ?h6 ?h7 ?h8 ?h9 ?h10 ?_); (case e => exact fun _ => rfl); (case h0 => assumption); (case h1 => infer_instance); (case h2 => infer_instance); (case h3 => walk_at "nl"); (case h4 => walk_at "nl"); (case h5 => walk_at "nl"); (case h6 => walk_at "nl"); (case h7 => walk_at "nl"); (case h8 => walk_at "nl"); (case h9 => assumption); (case h10 => assumption); intro _ _ _ _)
  | ((with_reducible refine' use_rspace ?e ?h0 ?h1 ?_); (case e => rfl); (case h0 => assumption); (case h1 => infer_instance); intro _ _)
  | ((with_reducible refine' use_rlength ?e ?h0 ?h1 ?_); (case e => rfl); (case h0 => assumption); (case h1 => infer_instance))
  | ((with_reducible refine' use_rbase ?e ?h0 ?h1 ?_); (case e => rfl); (case h0 => assumption); (case h1 => infer_instance); intro _ _ _)
  | ((with_reducible refine' use_rdeeds ?e ?h0 ?h1 ?_); (case e => rfl); (case h0 => assumption); (case h1 => infer_instance); intro _ _ _)
  | ((with_reducible refine' use_rmembers ?e ?h0 ?h1 ?_); (case e => rfl); (case h0 => assumption); (case h1 => infer_instance); intro _ _ _ _)
  | ((with_reducible refine' use_rmem ?e ?h0 ?h1 ?h2 ?_); (case e => rfl); (case h0 => assumption); (case h1 => infer_instance); (case h2 => walk_at "th"))
  | ((with_reducible refine' use_rnod ?e ?h0 ?h1 ?h2 ?_); (case e => rfl); (case h0 => assumption); (case h1 => infer_instance); (case h2 => assumption))
  | ((with_reducible refine' use_rlinks ?e ?h0 ?h1 ?h2 ?_); (case e => rfl); (case h0 => assumption); (case h1 => infer_instance); (case h2 => assumption); intro _ _ _)
  | ((with_reducible refine' use_rfingers ?e ?h0 ?h1 ?h2 ?_); (case e => rfl); (case h0 => assumption); (case h1 => infer_instance); (case h2 => assumption); intro _ _ _)
  | ((with_reducible refine' use_rbefore ?e ?h0 ?h1 ?h2 ?_); (case e => rfl); (case h0 => assumption); (case h1 => infer_instance); (case h2 => assumption))
  | ((with_reducible refine' use_rnext ?e ?h0 ?h1 ?h2 ?_); (case e => rfl); (case h0 => assumption); (case h1 => infer_instance); (case h2 => assumption); intro _ _)
  | ((with_reducible refine' use_rkept0 ?e ?h0 ?h1 ?h2 ?h3 ?_); (case e => rfl); (case h0 => assumption); (case h1 => infer_instance); (case h2 => assumption); (case h3 => assumption); intro _ _ _)
  | ((with_reducible refine' s_insR ?h0 ?h1 ?h2 ?_); (case h0 => assumption); (case h1 => infer_instance); (case h2 => walk_at "lkr"))
  | (first | rw [ov_some] | rw [ov_none]))
local macro_rules | `(tactic| walk_at "call2") => `(tactic| first
  | ((with_reducible refine' use_want ?e ?h0 ?h1 ?h2 ?_); (case e => rfl); (case h0 => assumption); (case h1 => infer_instance); (case h2 => assumption))
  | ((with_reducible refine' use_farthest ?e ?h0 ?h1 ?h2 ?h3 ?_); (case e => rfl); (case h0 => assumption); (case h1 => infer_instance); (case h2 => assumption); (case h3 => assumption); intro _ _)
  | ((with_reducible refine' use_knownby ?e ?h0 ?h1 ?h2 ?h3 ?_); (case e => rfl); (case h0 => assumption); (case h1 => infer_instance); (case h2 => assumption); (case h3 => assumption); intro _ _ _)
  | ((with_reducible refine' use_Seeker ?e ?h0 ?h1 ?h2 ?h3 ?_); (case e => exact fun _ => rfl); (case h0 => assumption); (case h1 => infer_instance); (case h2 => assumption); (case h3 => assumption); intro _ _ _)
  | ((with_reducible refine' use_skat ?e ?h0 ?h1 ?h2 ?_); (case e => rfl); (case h0 => assumption); (case h1 => infer_instance); (case h2 => assumption))
  | ((with_reducible refine' use_skway ?e ?h0 ?h1 ?_); (case e => rfl); (case h0 => assumption); (case h1 => infer_instance); intro _ _ _)
  | ((with_reducible refine' use_skbacks ?e ?h0 ?h1 ?_); (case e => rfl); (case h0 => assumption); (case h1 => infer_instance))
  | ((with_reducible refine' use_skanswer ?e ?h0 ?h1 ?_); (case e => rfl); (case h0 => assumption); (case h1 => infer_instance))
  | ((with_reducible refine' use_skup ?e ?h0 ?h1 ?h2 ?h3 ?h4 ?_); (case e => rfl); (case h0 => assumption); (case h1 => infer_instance); (case h2 => infer_instance); (case h3 => assumption); (case h4 => assumption); intro _ _)
  | ((with_reducible refine' use_skgo ?e ?h0 ?h1 ?h2 ?h3 ?_); (case e => rfl); (case h0 => assumption); (case h1 => infer_instance); (case h2 => infer_instance); (case h3 => assumption); intro _ _)
  | ((with_reducible refine' use_skstep ?e ?h0 ?h1 ?h2 ?h3 ?_); (case e => rfl); (case h0 => assumption); (case h1 => infer_instance); (case h2 => infer_instance); (case h3 => assumption); intro _ _)
  | ((with_reducible refine' s_insK ?h0 ?h1 ?h2 ?_); (case h0 => assumption); (case h1 => infer_instance); (case h2 => walk_at "lkk")))
/-- how each hop is known -/
def rsn (G : RingM) (T : List Int) : List (Str × Int) := (T.zip (T.drop 1)).map fun z => knownB G z.1 z.2
section
variable {K : PySem.W.Frag} {Z : Ad} {L R R1 R2 R3 : List Atom} {H : Hp} {Q : VK} {E : XK} {vs : List V} {X Y : Addr → Hp → Prop} {xs ys : List V} {ns ms : List Int} {ad : Int → Addr} {G : RingM} {nd : NodeM} {r k t l f : Addr} {T : List Int} {g : Int} {rs : List (Str × Int)} {as : List Addr}
def tAtoms (as : List Addr) (rs : List (Str × Int)) : List Atom := (as.zip rs).map fun x => ⟨x.1, Pt (.tup [.str x.2.1, .int x.2.2])⟩
theorem tAtoms_add {p : Addr} {z : Str × Int} (h : as.length = rs.length) : tAtoms (as ++ [p]) (rs ++ [z]) = tAtoms as rs ++ [⟨p, Pt (.tup [.str z.1, .int z.2])⟩] := by
  unfold tAtoms
  rw [List.zip_append h, List.map_append]
  rfl
theorem found_open (s : Sat Z (⟨f, FoundX Z T g rs⟩ :: L) H) : ∃ (dx t l : Addr) (as : List Addr), as.length = rs.length ∧ Sat Z (⟨f, Pt (.ins Z.Found dx [("trail", .ref t), ("goal", .int g), ("reasons", .ref l)])⟩ :: ⟨t, LI T⟩ :: ⟨l, LV (as.map V.ref)⟩ :: (tAtoms as rs ++ L)) H := by
  obtain ⟨t0, h1, h2, s1, s2, c, ⟨dx, t, l, as, e, x⟩, rr⟩ := s
  exact ⟨dx, t, l, as, e, t0, star_app s1 s2 c x rr⟩
theorem found_close {dx : Addr} (e : as.length = rs.length) (s : Sat Z (⟨f, Pt (.ins Z.Found dx [("trail", .ref t), ("goal", .int g), ("reasons", .ref l)])⟩ :: ⟨t, LI T⟩ :: ⟨l, LV (as.map V.ref)⟩ :: (tAtoms as rs ++ L)) H) : Sat Z (⟨f, FoundX Z T g rs⟩ :: L) H :=
  SatI.close (M := ⟨f, Pt (.ins Z.Found dx [("trail", .ref t), ("goal", .int g), ("reasons", .ref l)])⟩ :: ⟨t, LI T⟩ :: ⟨l, LV (as.map V.ref)⟩ :: tAtoms as rs) s fun h m => ⟨dx, t, l, as, e, m⟩
structure FdV (Z : Ad) (H : Hp) (f dx t l : Addr) (as : List Addr) (T : List Int) (g : Int) (rs : List (Str × Int)) : Prop where
  f : H f = some (.ins Z.Found dx [("trail", .ref t), ("goal", .int g), ("reasons", .ref l)])
  t : H t = some (.lst (T.map V.int))
  l : H l = some (.lst (as.map V.ref))
theorem found_view (s : Sat Z L H) (F : Fnd L f (FoundX Z T g rs) R) : ∃ dx t l as, FdV Z H f dx t l as T g rs := by
  obtain ⟨dx, t, l, as, _, s1⟩ := found_open (s.fnd (p := f))
  exact ⟨dx, t, l, as, s1.at0, s1.tail.at0, s1.tail.tail.at0⟩
theorem s_insF {n : Str} {P : Prop} (s : Sat Z L H) (F : Fnd L f (FoundX Z T g rs) R) (q0 : ∀ t l : Addr, ([("trail", .ref t), ("goal", .int g), ("reasons", .ref l)] : List (Str × V)).lookup n = none) (q : P) : ∃ a' dx fs, V.ref f = .ref a' ∧ H a' = some (.ins Z.Found dx fs) ∧ fs.lookup n = none ∧ P := by
  obtain ⟨dx, t, l, as, v⟩ := found_view s F
  exact ⟨f, dx, _, rfl, v.f, q0 _ _, q⟩
theorem idx_leO {x : Option Int} : ∀ {os : List (Option Int)} {m : Nat}, os[m]? = some x → os.idxOf x ≤ m
  | [], m, h => by cases h
  | o :: os, 0, h => by
    have h : o = x := Option.some.inj h
    subst h
    rw [List.idxOf_cons, beq_self_eq_true]
    exact Nat.le_refl _
  | o :: os, m + 1, h => by
    have ih := idx_leO (os := os) (m := m) h
    rw [List.idxOf_cons]
    cases (o == x)
    · exact Nat.succ_le_succ ih
    · exact Nat.zero_le _
theorem s_idxO {n : Int} {os : List (Option Int)} (s : Sat Z L H) (F : Fnd L k X R) (d : RdL K X xs) (I : IsO xs os) (hx : some n ∈ os) (q : Q (.int ((os.idxOf (some n) : Nat) : Int)) H) : rIndex K (.ref k) [.int n] H Q := by
  obtain rfl := I.eq
  have hl : os.idxOf (some n) < os.length := List.idxOf_lt_length_of_mem hx
  refine ⟨k, os.map ov, .int n, os.idxOf (some n), .int n, rfl, rfl, s.sq, rfl, ?_, ?_, ?_, ?_, q⟩
  · rw [List.all_map]
    exact List.all_eq_true.mpr fun o _ => by cases o <;> rfl
  · rw [List.getElem?_map, List.getElem?_eq_getElem hl, List.getElem_idxOf hl]; rfl
  · show (n == n) = true
    exact beq_self_eq_true n
  · intro m z hm hz
    rw [List.getElem?_map] at hz
    cases ho : os[m]? with
    | none => rw [ho] at hz; cases hz
    | some o =>
      rw [ho] at hz
      have hz : ov o = z := Option.some.inj hz
      subst hz
      cases o with
      | none => rfl
      | some i =>
        show (i == n) = false
        refine beq_false_of_ne fun e => ?_
        subst e
        exact absurd hm (Nat.not_lt_of_le (idx_leO ho))
def sp_Found___init__ (_ : PySem.W.Frag) (Z : Ad) : Sp := fun vs H Q _ => ∃ (x dx t l : Addr) (g : Int) (L : List Atom), vs = [.ref x, .ref t, .int g, .ref l] ∧ Sat Z (⟨x, Pt (.ins Z.Found dx [])⟩ :: L) H ∧ ∀ H', Sat Z (⟨x, Pt (.ins Z.Found dx [("trail", .ref t), ("goal", .int g), ("reasons", .ref l)])⟩ :: L) H' → Q .non H'
theorem use_Found {vv : Addr → List V} {P : Addr → Hp → Prop} (e : ∀ x, vv x = [.ref x, .ref t, .int g, .ref l]) (s : Sat Z L H) (ft : Fnd L t (LI T) R1) (fl : Fnd R1 l (LV (as.map V.ref)) R2) (el : as.length = rs.length) (Et : Ent R2 (tAtoms as rs ++ R3)) (q : ∀ x H', Sat Z (⟨x, FoundX Z T g rs⟩ :: R3) H' → P x H') :
    ∀ x dx, H x = none → H dx = none → dx ≠ x → sp_Found___init__ K Z (vv x) (upd (upd H dx (.own x)) x (.ins Z.Found dx [])) (fun v H3 => v = .non ∧ P x H3) E := by
  intro x dx hx hd ne
  have s1 : Sat Z (⟨dx, Pt (.own x)⟩ :: L) _ := s.new hd (fun _ z => by cases z)
  have s2 : Sat Z (⟨x, Pt (.ins Z.Found dx [])⟩ :: ⟨dx, Pt (.own x)⟩ :: L) _ := s1.new (p := x) (by rw [upd_ne (fun z => ne z.symm)]; exact hx) (fun _ z => by cases z)
  refine ⟨x, dx, t, l, g, _, e x, s2, fun H' s3 => ⟨rfl, q x H' (found_close (dx := dx) (t := t) (l := l) el ?_)⟩⟩
  have s4 : Sat Z (⟨x, Pt (.ins Z.Found dx [("trail", .ref t), ("goal", .int g), ("reasons", .ref l)])⟩ :: L) H' := s3.ent
  have s5 : Sat Z (⟨t, LI T⟩ :: ⟨x, Pt (.ins Z.Found dx [("trail", .ref t), ("goal", .int g), ("reasons", .ref l)])⟩ :: R1) H' := s4.fnd (p := t)
  have s6 : Sat Z (⟨l, LV (as.map V.ref)⟩ :: ⟨t, LI T⟩ :: ⟨x, Pt (.ins Z.Found dx [("trail", .ref t), ("goal", .int g), ("reasons", .ref l)])⟩ :: R2) H' := s5.fnd (p := l)
  have s7 : Sat Z (⟨x, Pt (.ins Z.Found dx [("trail", .ref t), ("goal", .int g), ("reasons", .ref l)])⟩ :: ⟨t, LI T⟩ :: ⟨l, LV (as.map V.ref)⟩ :: R2) H' := s6.ent
  exact ⟨s7.tabs, s7.star.imp (fun _ x => x) fun _ s => s.imp (fun _ x => x) fun _ s => s.imp (fun _ x => x) fun _ s => Et.fwd s⟩
def sp_Found_path (_ : PySem.W.Frag) (Z : Ad) : Sp := fun vs H Q _ => ∃ (f : Addr) (T : List Int) (g : Int) (rs : List (Str × Int)) (L : List Atom), vs = [.ref f] ∧ Sat Z (⟨f, FoundX Z T g rs⟩ :: L) H ∧ ∀ l H', Sat Z (⟨l, LI T⟩ :: ⟨f, FoundX Z T g rs⟩ :: L) H' → Q (.ref l) H'
theorem use_fpath (e : vs = [.ref f]) (s : Sat Z L H) (F : Fnd L f (FoundX Z T g rs) R) (q : ∀ l H', Sat Z (⟨l, LI T⟩ :: ⟨f, FoundX Z T g rs⟩ :: R) H' → Q (.ref l) H') : sp_Found_path K Z vs H Q E := ⟨f, T, g, rs, R, e, s.fnd, q⟩
def sp_Found_answer (_ : PySem.W.Frag) (Z : Ad) : Sp := fun vs H Q _ => ∃ (f : Addr) (T : List Int) (g : Int) (rs : List (Str × Int)) (L : List Atom), vs = [.ref f] ∧ Sat Z (⟨f, FoundX Z T g rs⟩ :: L) H ∧ Q (.int g) H
theorem use_fanswer (e : vs = [.ref f]) (s : Sat Z L H) (F : Fnd L f (FoundX Z T g rs) R) (q : Q (.int g) H) : sp_Found_answer K Z vs H Q E := ⟨f, T, g, rs, R, e, s.fnd, q⟩
def sp_look (_ : PySem.W.Frag) (Z : Ad) : Sp := fun vs H Q _ => ∃ (r : Addr) (pt via : Int) (ad : Int → Addr) (G : RingM) (L : List Atom), vs = [.ref r, .int pt, .int via, .non] ∧ Sat Z (⟨r, RingX Z ad G⟩ :: L) H ∧ (0 ≤ pt ∧ pt < 2 ^ G.bits) ∧ via ∈ G.names ∧ Live G ∧ ∀ f T g H', LookP G via pt T g → T.length ≤ 64 → Sat Z (⟨f, FoundX Z T g (rsn G T)⟩ :: ⟨r, RingX Z ad G⟩ :: L) H' → Q (.ref f) H'
theorem use_look {pt via : Int} (e : vs = [.ref r, .int pt, .int via, .non]) (s : Sat Z L H) (F : Fnd L r (RingX Z ad G) R) (h0 : 0 ≤ pt ∧ pt < 2 ^ G.bits) (h1 : via ∈ G.names) (h2 : Live G) (q : ∀ f T g H', LookP G via pt T g → T.length ≤ 64 → Sat Z (⟨f, FoundX Z T g (rsn G T)⟩ :: ⟨r, RingX Z ad G⟩ :: R) H' → Q (.ref f) H') : sp_look K Z vs H Q E := ⟨r, pt, via, ad, G, R, e, s.fnd, h0, h1, h2, q⟩
end
local macro_rules | `(tactic| walk_at "lkf") => `(tactic| exact fun _ _ => rfl)
local macro_rules | `(tactic| walk_at "call2") => `(tactic| first
  | ((with_reducible refine' use_fpath ?e ?h0 ?h1 ?_); (case e => rfl); (case h0 => assumption); (case h1 => infer_instance); intro _ _ _)
  | ((with_reducible refine' use_fanswer ?e ?h0 ?h1 ?_); (case e => rfl); (case h0 => assumption); (case h1 => infer_instance))
  | ((with_reducible refine' use_look ?e ?h0 ?h1 ?h2 ?h3 ?h4 ?_); (case e => rfl); (case h0 => assumption); (case h1 => infer_instance); (case h2 => assumption); (case h3 => assumption); (case h4 => assumption); intro _ _ _ _ _ _ _)
  | ((with_reducible refine' s_insF ?h0 ?h1 ?h2 ?_); (case h0 => assumption); (case h1 => infer_instance); (case h2 => walk_at "lkf")))
def t_known_by (K : PySem.W.Frag) (Z : Ad) : TS :=
  (tSeq (tAsg (tMe Z.Ring "links" (sp_Ring_links K Z) [.pos 0, .pos 1] [] [] 2 0 (fun _ => E0) (tVar 0) (tCons (tVar 1) tNil) tNil) (gName 3))
  (tSeq (tIfS (tTest (tOp (rIn K false) (tVar 2) (tVar 3))) (tRet (tTup (tCons (tC (.str "list")) (tCons (tBM K "list" (rIndex K) (tVar 3) (tCons (tVar 2) tNil)) tNil)))) tNext)
  (tRet (tTup (tCons (tC (.str "finger")) (tCons (tBM K "list" (rIndex K) (tMe Z.Ring "fingers" (sp_Ring_fingers K Z) [.pos 0, .pos 1] [] [] 2 0 (fun _ => E0) (tVar 0) (tCons (tVar 1) tNil) tNil) (tCons (tVar 2) tNil)) tNil))))))
theorem rd_known_by (K : PySem.W.Frag) (Z : Ad) : ∀ vs H Q E, sp_known_by K Z vs H Q E → t_known_by K Z { nx := fun _ H' => Q .non H', rt := Q } (start (["ring", "here", "name", "links"]) vs) H := by
  rintro _ H Q E ⟨r, here, nm, ad, G, nd, L, rfl, s, h, h0, q⟩
  have e : knownB G here nm = if nm ∈ nd.chain then (("list" : Str), ((nd.chain.idxOf nm : Nat) : Int)) else (("finger" : Str), ((nd.far.idxOf (some nm) : Nat) : Int)) := by unfold knownB; rw [h]
  show t_known_by K Z _ [some (.ref r), some (.int here), some (.int nm), none] H
  unfold t_known_by
  walk_at "go"
  walk_at "on"
  refine g_ite (fun c => ?_) fun c => ?_
  · rw [if_pos c] at e
    rw [e] at q
    walk_at "go"
    rename_i l1 H1 s1 p H2 s2
    exact q p H2 s2.ent
  · rw [if_neg c] at e
    have hf := h0.resolve_left c
    rw [e] at q
    walk_at "go"
    rename_i l1 H1 s1 l2 H2 s2
    refine s_idxO s2 inferInstance inferInstance inferInstance hf ?_
    walk_at "go"
    rename_i p H3 s3
    exact q p H3 s3.ent
def t_Found___init__ (K : PySem.W.Frag) (Z : Ad) : TS :=
  (tSeq (sFld K (tVar 0) (tVar 1) "trail")
  (tSeq (sFld K (tVar 0) (tVar 2) "goal")
  (sFld K (tVar 0) (tVar 3) "reasons")))
theorem rd_Found___init__ (K : PySem.W.Frag) (Z : Ad) (C : CFd K Z) : ∀ vs H Q E, sp_Found___init__ K Z vs H Q E → t_Found___init__ K Z { nx := fun _ H' => Q .non H', rt := Q } (start (["self", "trail", "goal", "reasons"]) vs) H := by
  rintro _ H Q E ⟨x, dx, t, l, g, L, rfl, s, q⟩
  cases C
  show t_Found___init__ K Z _ [some (.ref x), some (.ref t), some (.int g), some (.ref l)] H
  unfold t_Found___init__
  walk_at "go"
  exact q _ (by assumption)
def t_Found_path (K : PySem.W.Frag) (Z : Ad) : TS :=
  (tRet (tCB (rListS K) (tCons (tFld K (tVar 0) "trail") tNil)))
theorem rd_Found_path (K : PySem.W.Frag) (Z : Ad) (C : CFd K Z) : ∀ vs H Q E, sp_Found_path K Z vs H Q E → t_Found_path K Z { nx := fun _ H' => Q .non H', rt := Q } (start (["self"]) vs) H := by
  rintro _ H Q E ⟨f, T, g, rs, L, rfl, s, q⟩
  cases C
  obtain ⟨dx, t, l, as, vf, vt, vl⟩ := found_view (f := f) s inferInstance
  show t_Found_path K Z _ [some (.ref f)] H
  unfold t_Found_path
  walk_at "go"
  exact s_list0 (SqL.of vt) s q
def t_Found_answer (K : PySem.W.Frag) (Z : Ad) : TS :=
  (tRet (tFld K (tVar 0) "goal"))
theorem rd_Found_answer (K : PySem.W.Frag) (Z : Ad) (C : CFd K Z) : ∀ vs H Q E, sp_Found_answer K Z vs H Q E → t_Found_answer K Z { nx := fun _ H' => Q .non H', rt := Q } (start (["self"]) vs) H := by
  rintro _ H Q E ⟨f, T, g, rs, L, rfl, s, q⟩
  cases C
  obtain ⟨dx, t, l, as, vf, vt, vl⟩ := found_view (f := f) s inferInstance
  show t_Found_answer K Z _ [some (.ref f)] H
  unfold t_Found_answer
  walk_at "go"
  exact q
def t_look (K : PySem.W.Frag) (Z : Ad) : TS :=
  (tSeq (tAsg (tMk Z.Seeker (sp_Seeker___init__ K Z) [.pos 0, .pos 1, .pos 2, .kw 0] [] [] 3 1 (fun _ => E0) (tCons (tVar 0) (tCons (tVar 1) tNil)) (tCons (tVar 2) tNil)) (gName 4))
  (tSeq (tWhile (tNot (tB (tMe Z.Seeker "step" (sp_Seeker_step K Z) [.pos 0] [] [] 1 0 (fun _ => E0) (tVar 4) tNil tNil))) (tSeq (tAsg (tMe Z.Seeker "way" (sp_Seeker_way K Z) [.pos 0] [] [] 1 0 (fun _ => E0) (tVar 4) tNil tNil) (gName 5))
  (tIfS (tAnd (tTest (tOp rNotN (tVar 3) (tC .non))) (tTest (tOp rGt (tOp rSub0 (tCB (rLenS K) (tCons (tVar 5) tNil)) (tC (.int 1))) (tVar 3)))) tNever tNext)))
  (tSeq (tAsg (tMe Z.Seeker "way" (sp_Seeker_way K Z) [.pos 0] [] [] 1 0 (fun _ => E0) (tVar 4) tNil tNil) (gName 5))
  (tSeq (tAsg (tLc (iZip K (tCons (tVar 5) (tCons (tSl (rSlL K) (tVar 5) (tPart (tC (.int 1))) tNoPart) tNil))) (gTup K 2 (gCons (gName 7) (gCons (gName 8) gNil))) tYes (tCl (sp_known_by K Z) [.pos 0, .pos 1, .pos 2] [] [] 3 0 (fun _ => E0) (tCons (tVar 0) (tCons (tVar 7) (tCons (tVar 8) tNil))) tNil) [7, 8]) (gName 6))
  (tRet (tMk Z.Found (sp_Found___init__ K Z) [.pos 0, .pos 1, .pos 2, .pos 3] [] [] 4 0 (fun _ => E0) (tCons (tVar 5) (tCons (tMe Z.Seeker "answer" (sp_Seeker_answer K Z) [.pos 0] [] [] 1 0 (fun _ => E0) (tVar 4) tNil tNil) (tCons (tVar 6) tNil))) tNil))))))
theorem rd_look (K : PySem.W.Frag) (Z : Ad) : ∀ vs H Q E, sp_look K Z vs H Q E → t_look K Z { nx := fun _ H' => Q .non H', rt := Q } (start (["ring", "point", "via", "within", "seeker", "trail", "reasons", "one", "other"]) vs) H := by
  rintro _ H Q E ⟨r, pt, via, ad, G, L, rfl, s, hpt, hvia, hlive, q⟩
  have w := ring_wf (r := r) s inferInstance
  show t_look K Z _ [some (.ref r), some (.int pt), some (.int via), some (.non), none, none, none, none, none] H
  unfold t_look
  walk_at "go"
  rename_i k H1 s1
  refine sw_while (m0 := ((pt - via) % 2 ^ G.bits).toNat) (fun m σ' L' => ∃ (T : List Int) (y : Option V) (here : Int), σ' = [some (.ref r), some (.int pt), some (.int via), some .non, some (.ref k), y, none, none, none] ∧ L' = ⟨k, SeekX Z r ⟨pt, T, 0, none⟩⟩ :: ⟨r, RingX Z ad G⟩ :: L ∧ PathI G via pt T here ∧ m = ((pt - here) % 2 ^ G.bits).toNat) s1 ⟨_, _, _, rfl, rfl, path0 hvia, rfl⟩ ?_
  rintro m σ' L' H2 ⟨T, y, here, rfl, rfl, p, rfl⟩ s2
  have hmem : here ∈ G.names := p.mem here (List.mem_of_getLast? p.last)
  obtain ⟨a, hnx⟩ := hlive here hmem
  have hlen := p.len w
  have hst : StandsA G ⟨pt, T, 0, none⟩ here a := ⟨p.last, hmem, hnx, hpt, by show T.length ≤ 1000; omega⟩
  walk_at "go"
  rename_i H3 s3
  have hM : stepM G ⟨pt, T, 0, none⟩ here = goOn G ⟨pt, T, 0, none⟩ here := if_pos rfl
  rw [hM] at s3 ⊢
  cases he : endO G here pt with
  | none =>
    have e1 : goOn G ⟨pt, T, 0, none⟩ here = ⟨pt, T ++ [farO G here pt], 0, none⟩ := goOn_hop he
    rw [e1] at s3 ⊢
    obtain ⟨f1, f2, f3, f4⟩ := hop_near w hmem hpt hnx he
    refine g_bT rfl ?_
    refine ⟨_, fun _ _ h => h, ?_⟩
    walk_at "go"
    rename_i l4 H4 s4
    have f0 := Int.emod_nonneg (pt - farO G here pt) (show (2 : Int) ^ G.bits ≠ 0 by have := pw_lo w.lo; omega)
    exact ⟨_, by omega, _, ⟨_, _, _, rfl, rfl, p.go w hpt hnx he, rfl⟩, s4.ent⟩
  | some g =>
    have e1 : goOn G ⟨pt, T, 0, none⟩ here = ⟨pt, T, 0, some g⟩ := goOn_end he
    rw [e1] at s3 ⊢
    have hlk := p.done he
    refine g_bF rfl ?_
    walk_at "go"
    rename_i lt H4 s4 ld H5 s5
    have hrl : (rsn G T).length = (T.zip (T.drop 1)).length := List.length_map _
    have hzl : (T.zip (T.drop 1)).length ≤ 63 := by rw [List.length_zip]; omega
    refine sc_zip s5 inferInstance inferInstance inferInstance inferInstance inferInstance inferInstance (fun i acc L' => ∃ as : List Addr, acc = as.map V.ref ∧ as.length = i ∧ L' = ⟨k, SeekX Z r ⟨pt, T, 0, some g⟩⟩ :: ⟨r, RingX Z ad G⟩ :: (tAtoms as ((rsn G T).take i) ++ L)) ⟨[], rfl, rfl, rfl⟩ ?_ ?_
    · rintro D i z acc t L' H6 hz ⟨as, rfl, has, rfl⟩ hacc s6
      obtain ⟨z1, z2⟩ := zip_get.mp hz
      have z2 : T[i + 1]? = some z.2 := by rw [List.getElem?_drop] at z2; rw [Nat.add_comm]; exact z2
      have zr : (rsn G T)[i]? = some (knownB G z.1 z.2) := by
        unfold rsn
        rw [List.getElem?_map]
        have hz : (T.zip (T.drop 1))[i]? = some z := hz
        rw [hz]
        rfl
      obtain ⟨o1, o2⟩ := p.hops i _ _ z1 z2
      have zm : z.1 ∈ G.names := p.mem _ (List.mem_of_getElem? z1)
      obtain ⟨a', hn'⟩ := hlive _ zm
      obtain ⟨nd, n1, n2⟩ := next_betw w zm hpt hn' o1
      have n3 : z.2 = farM G nd z.1 pt := by rw [o2]; unfold farO; rw [n1]
      have n4 : z.2 ∈ nd.chain ∨ some z.2 ∈ nd.far := by
        rw [n3]
        exact (kn_mem.mp (List.mem_filter.mp (farM_mem (List.length_pos_of_mem n2))).1).2
      dsimp only [wipe, List.set]
      walk_at "go"
      rename_i q1 H7 s7
      have til : ((rsn G T).take i).length = i := by
        have := (List.getElem?_eq_some_iff.mp zr).1
        rw [List.length_take]
        omega
      have s8 := s7.ent (L' := ⟨D, Pt (.lst (as.map V.ref))⟩ :: ⟨lt, LI T⟩ :: ⟨ld, Pt (.lst ((T.drop (Int.toNat 1)).map V.int))⟩ :: ⟨k, SeekX Z r ⟨pt, T, 0, some g⟩⟩ :: ⟨r, RingX Z ad G⟩ :: ⟨q1, TV [.str (knownB G z.1 z.2).1, .int (knownB G z.1 z.2).2]⟩ :: (tAtoms as ((rsn G T).take i) ++ L))
      have s9 := s8.perm (L' := ⟨D, Pt (.lst (as.map V.ref))⟩ :: ⟨lt, LI T⟩ :: ⟨ld, Pt (.lst ((T.drop (Int.toNat 1)).map V.int))⟩ :: ⟨k, SeekX Z r ⟨pt, T, 0, some g⟩⟩ :: ⟨r, RingX Z ad G⟩ :: (tAtoms (as ++ [q1]) ((rsn G T).take (i + 1)) ++ L)) (by
        rw [List.take_add_one, zr, Option.toList_some, tAtoms_add (by rw [has, til]), List.append_assoc]
        iterate 5 refine List.Perm.cons _ ?_
        exact List.perm_middle.symm)
      have hil := (List.getElem?_eq_some_iff.mp hz).1
      have hil : i < (T.zip (T.drop 1)).length := hil
      refine ⟨_, s9.at0, sz_less (by rw [List.length_map, has]; omega), ⟨as.map V.ref ++ [.ref q1], _, ⟨_, rfl, as ++ [q1], by rw [List.map_append]; rfl, by rw [List.length_append, List.length_singleton, has], rfl⟩, by rw [List.length_append, List.length_map, List.length_singleton, has]; exact Nat.le_refl _, s9.put mutO_lst rfl⟩⟩
    · rintro D acc L' H6 ⟨as, rfl, has, rfl⟩ s6
      have has : as.length = (T.zip (T.drop 1)).length := has
      have s6 : Sat Z (⟨D, Pt (.lst (as.map V.ref))⟩ :: ⟨lt, LI T⟩ :: ⟨ld, Pt (.lst ((T.drop (Int.toNat 1)).map V.int))⟩ :: ⟨k, SeekX Z r ⟨pt, T, 0, some g⟩⟩ :: ⟨r, RingX Z ad G⟩ :: (tAtoms as ((rsn G T).take (T.zip (T.drop 1)).length) ++ L)) H6 := s6
      rw [List.take_of_length_le (by rw [hrl]; exact Nat.le_refl _)] at s6
      walk_at "go"
      have s7 := s6.ent (L' := ⟨lt, LI T⟩ :: ⟨D, LV (as.map V.ref)⟩ :: ⟨r, RingX Z ad G⟩ :: (tAtoms as (rsn G T) ++ L))
      have s8 := s7.perm (L' := ⟨lt, LI T⟩ :: ⟨D, LV (as.map V.ref)⟩ :: (tAtoms as (rsn G T) ++ (⟨r, RingX Z ad G⟩ :: L))) (by
        iterate 2 refine List.Perm.cons _ ?_
        exact List.perm_middle.symm)
      exact use_Found (fun _ => rfl) s8 fnd0 fnd0 (by rw [has, hrl]) ent0 fun x H7 s9 => q x T g H7 hlk (by omega) s9
end NN
/-! own: lookups in a ring whose tables are right -/
namespace NN
open PySem L2
section
variable {b : Nat} {k m nm here pt via g : Int} {ns T : List Int}
theorem node_new {b : Nat} {k nm : Int} {ns : List Int} (h1 : InSp (2 ^ b) ns) (hnm : nm ∈ ns) : lk (newR b k ns).nodes nm = some ⟨(othF (2 ^ b) nm ns).take k.toNat, some (precF (2 ^ b) nm (srt ns)), (farN b nm (srt ns)).map some, []⟩ := by
  have hnode : lk (newR b k ns).nodes nm = some (rightN b (srt ns) nm k) := lk_mapI (F := fun n => rightN b (srt ns) n k) ((srt_perm ns).mem_iff.mpr hnm)
  unfold rightN at hnode
  rwa [othP_eq h1 (srt_perm ns)] at hnode
theorem next_new {b : Nat} {k nm c : Int} {ns t : List Int} (hk : 1 ≤ k) (hnm : nm ∈ ns) (h : othF (2 ^ b) nm ns = c :: t) : firstOf ((othF (2 ^ b) nm ns).take k.toNat) (srt (newR b k ns).names) = some c := by
  obtain ⟨j, hj⟩ : ∃ j, k.toNat = j + 1 := ⟨k.toNat - 1, by omega⟩
  rw [h, hj, newR_names]
  refine firstOf_head ?_
  rw [(srt_perm _).mem_iff, (srt_perm _).mem_iff]
  exact (othF_mem.mp (h ▸ List.mem_cons_self)).1
theorem mem_new {x : Int} : x ∈ (newR b k ns).names ↔ x ∈ ns := by rw [newR_names]; exact (srt_perm ns).mem_iff
theorem oth_cons (nd : ns.Nodup) (h : nm ∈ ns) (h2 : 2 ≤ ns.length) : ∃ c t, othF m nm ns = c :: t := by
  have hl := othF_len (m := m) nd h
  cases e : othF m nm ns with
  | nil => rw [e] at hl; simp at hl; omega
  | cons c t => exact ⟨c, t, rfl⟩
theorem nxt_new (hk : 1 ≤ k) (h1 : InSp (2 ^ b) ns) (nd : ns.Nodup) (h2 : 2 ≤ ns.length) (hh : here ∈ ns) : ∃ a t, othF (2 ^ b) here ns = a :: t ∧ nxt (newR b k ns) here = some a := by
  obtain ⟨a, t, e⟩ := oth_cons (m := 2 ^ b) nd hh h2
  refine ⟨a, t, e, ?_⟩
  unfold nxt
  rw [node_new h1 hh]
  exact next_new hk hh e
theorem live_new (hk : 1 ≤ k) (h1 : InSp (2 ^ b) ns) (nd : ns.Nodup) (h2 : 2 ≤ ns.length) : Live (newR b k ns) := fun i hi => by
  obtain ⟨a, _, _, h⟩ := nxt_new hk h1 nd h2 (mem_new.mp hi)
  exact ⟨a, h⟩
/-- distances back and forth -/
theorem dist_neg {x y : Int} (hm : 0 < m) (hx : 0 ≤ x ∧ x < m) (hy : 0 ≤ y ∧ y < m) (h : x ≠ y) : (x - y) % m = m - (y - x) % m := by
  have h1 := Int.emod_nonneg (y - x) (show m ≠ 0 by omega)
  have h2 := Int.emod_lt_of_pos (y - x) hm
  rcases mod_s (z := x - y) (m := m) (by omega) (by omega) with a | a <;> rcases mod_s (z := y - x) (m := m) (by omega) (by omega) with c | c <;> omega
theorem dist_pos {x y : Int} (hm : 0 < m) (hx : 0 ≤ x ∧ x < m) (hy : 0 ≤ y ∧ y < m) (h : x ≠ y) : 0 < (x - y) % m := by
  rcases mod_s (z := x - y) (m := m) (by omega) (by omega) with a | a <;> omega
/-- the end is the nearest -/
theorem end_near (hb : 3 ≤ b) (hk : 1 ≤ k) (h1 : InSp (2 ^ b) ns) (nd : ns.Nodup) (h2 : 2 ≤ ns.length) (hh : here ∈ ns) (hp : 0 ≤ pt ∧ pt < 2 ^ b) (h : endO (newR b k ns) here pt = some g) : g = nearF (2 ^ b) pt ns := by
  have hm := pw_lo hb
  unfold endO at h
  by_cases e : here = pt
  · rw [if_pos e] at h
    cases h
    subst e
    refine (nearF_is h1 hh fun y hy => ?_).symm
    rw [Int.sub_self, Int.zero_emod]
    exact Int.emod_nonneg _ (by omega)
  · rw [if_neg e] at h
    obtain ⟨a, t, e1, e2⟩ := nxt_new hk h1 nd h2 hh
    rw [e2] at h
    simp only at h
    have ha := othF_mem.mp (e1 ▸ List.mem_cons_self : a ∈ othF (2 ^ b) here ns)
    have hlt := othF_lt (nm := here) h1 nd
    rw [e1] at hlt
    have hmin : ∀ x ∈ ns, x ≠ here → (a - here) % 2 ^ b ≤ (x - here) % 2 ^ b := fun x hx hn => by
      rcases List.mem_cons.mp (e1 ▸ othF_mem.mpr ⟨hx, hn⟩ : x ∈ a :: t) with z | z
      · rw [z]; exact Int.le_refl _
      · exact Int.le_of_lt ((List.pairwise_cons.mp hlt).1 x z)
    have hin : (pt - here) % 2 ^ b ≤ (a - here) % 2 ^ b ∧ g = a := by
      by_cases c : pt = a ∨ betw (2 ^ (newR b k ns).bits) pt here a = true
      · rw [if_pos c] at h
        refine ⟨?_, (Option.some.inj h).symm⟩
        rcases c with c | c
        · rw [c]; exact Int.le_refl _
        · have c : betw (2 ^ b) pt here a = true := c
          unfold betw at c
          rw [Bool.and_eq_true, Bool.or_eq_true, decide_eq_true_eq, decide_eq_true_eq, decide_eq_true_eq] at c
          exact Int.le_of_lt (c.2.resolve_left fun z => ha.2 z.symm)
      · rw [if_neg c] at h; cases h
    rw [hin.2]
    have r0 := h1 here hh
    refine (nearF_is h1 ha.1 fun x hx => ?_).symm
    have d1 : (a - pt) % 2 ^ b = (a - here) % 2 ^ b - (pt - here) % 2 ^ b := dist_up (by omega) hin.1
    by_cases q : x = here
    · subst q
      have d2 := dist_neg (m := 2 ^ b) (by omega) r0 hp e
      have d3 := Int.emod_lt_of_pos (a - x) (show (0 : Int) < 2 ^ b by omega)
      omega
    · have d2 := hmin x hx q
      have d3 : (x - pt) % 2 ^ b = (x - here) % 2 ^ b - (pt - here) % 2 ^ b := dist_up (by omega) (by omega)
      omega
/-- the member ahead of a point, seen from a member -/
theorem prec_on (hb : 3 ≤ b) (h1 : InSp (2 ^ b) ns) (h2 : 2 ≤ ns.length) (nd : ns.Nodup) {x : Int} (hx : x ∈ ns) (hp : 0 ≤ pt ∧ pt < 2 ^ b) (hne : x ≠ pt) :
    precF (2 ^ b) pt ns ∈ ns ∧ precF (2 ^ b) pt ns ≠ pt ∧ (precF (2 ^ b) pt ns - x) % 2 ^ b + (pt - precF (2 ^ b) pt ns) % 2 ^ b = (pt - x) % 2 ^ b := by
  have hm := pw_lo hb
  have h0 : 0 < ns.length := by omega
  have pm := precF_mem (m := 2 ^ b) (t := pt) h0
  have r1 := h1 _ pm
  have r2 := h1 x hx
  have mx := precF_max (t := pt) (show (0 : Int) < 2 ^ b by omega) h0 hx
  have px := dist_pos (m := 2 ^ b) (by omega) r2 hp hne
  have pne : precF (2 ^ b) pt ns ≠ pt := fun e => by rw [e, Int.sub_self, Int.zero_emod] at mx; omega
  refine ⟨pm, pne, ?_⟩
  have d1 := dist_neg (m := 2 ^ b) (by omega) hp r2 (fun z => hne z.symm)
  have d2 := dist_neg (m := 2 ^ b) (by omega) hp r1 (fun z => pne z.symm)
  have d3 : (precF (2 ^ b) pt ns - x) % 2 ^ b = (precF (2 ^ b) pt ns - pt) % 2 ^ b - (x - pt) % 2 ^ b := dist_up (by omega) mx
  omega
/-- a hop halves -/
theorem hop_half (hb : 3 ≤ b) (hk : 1 ≤ k) (w : WfR (newR b k ns)) (h1 : InSp (2 ^ b) ns) (nd : ns.Nodup) (h2 : 2 ≤ ns.length) (hh : here ∈ ns) (hp : 0 ≤ pt ∧ pt < 2 ^ b) (he : endO (newR b k ns) here pt = none) {e : Nat} (hd : (precF (2 ^ b) pt ns - here) % 2 ^ b < 2 ^ e) :
    0 < (precF (2 ^ b) pt ns - here) % 2 ^ b ∧ ∀ e' : Nat, e = e' + 1 → (precF (2 ^ b) pt ns - farO (newR b k ns) here pt) % 2 ^ b < 2 ^ e' := by
  have hm := pw_lo hb
  have hne : here ≠ pt := fun z => by unfold endO at he; rw [if_pos z] at he; cases he
  obtain ⟨pm, pne, psum⟩ := prec_on hb h1 h2 nd hh hp hne
  obtain ⟨a, t, e1, e2⟩ := nxt_new hk h1 nd h2 hh
  have hpp := dist_pos (m := 2 ^ b) (by omega) hp (h1 _ pm) (fun z => pne z.symm)
  have hpos : 0 < (precF (2 ^ b) pt ns - here) % 2 ^ b := by
    have h0 := Int.emod_nonneg (precF (2 ^ b) pt ns - here) (show (2 : Int) ^ b ≠ 0 by omega)
    refine Decidable.byContradiction fun zz => ?_
    have z : (precF (2 ^ b) pt ns - here) % 2 ^ b = 0 := by omega
    -- the preceding one is here: then here is the end
    obtain ⟨ndd, q1, q2⟩ := next_betw w (mem_new.mpr hh) hp e2 he
    obtain ⟨q3, q4⟩ := List.mem_filter.mp q2
    have q4 : betw (2 ^ b) a here pt = true := q4
    unfold betw at q4
    rw [Bool.and_eq_true, Bool.or_eq_true, decide_eq_true_eq, decide_eq_true_eq, decide_eq_true_eq] at q4
    have q5 := q4.2.resolve_left hne
    have am := mem_new.mp (kn_mem.mp q3).1
    have ane : a ≠ pt := fun z => by rw [z] at q5; exact absurd q5 (Int.lt_irrefl _)
    obtain ⟨_, _, s2⟩ := prec_on hb h1 h2 nd am hp ane
    have s3 : (pt - a) % 2 ^ b = (pt - here) % 2 ^ b - (a - here) % 2 ^ b := dist_up (by omega) (Int.le_of_lt q5)
    have := Int.emod_nonneg (precF (2 ^ b) pt ns - a) (show (2 : Int) ^ b ≠ 0 by omega)
    omega
  refine ⟨hpos, fun e' he' => ?_⟩
  subst he'
  generalize hD : (precF (2 ^ b) pt ns - here) % 2 ^ b = d at *
  obtain ⟨n1, n2, n3, n4⟩ := hop_near w (mem_new.mpr hh) hp e2 he
  have n1 := mem_new.mp n1
  have n4 : (farO (newR b k ns) here pt - here) % 2 ^ b < (pt - here) % 2 ^ b := n4
  have fne : farO (newR b k ns) here pt ≠ pt := fun z => by rw [z] at n4; exact absurd n4 (Int.lt_irrefl _)
  obtain ⟨_, _, s2⟩ := prec_on hb h1 h2 nd n1 hp fne
  have s3 : (pt - farO (newR b k ns) here pt) % 2 ^ b = (pt - here) % 2 ^ b - (farO (newR b k ns) here pt - here) % 2 ^ b := dist_up (by omega) (Int.le_of_lt n4)
  -- if d < 2 ^ e' we are done
  have n3 : 0 < (farO (newR b k ns) here pt - here) % 2 ^ b := n3
  by_cases c : d < 2 ^ e'
  · omega
  · have c : 2 ^ e' ≤ d := Int.not_lt.mp c
    have p2 : (2 : Int) ^ (e' + 1) = 2 * 2 ^ e' := by rw [Int.pow_succ]; omega
    have hd2 : d < 2 ^ b := by rw [← hD]; exact Int.emod_lt_of_pos _ (by omega)
    have eb : e' < b := by
      refine Nat.lt_of_not_le fun z => ?_
      have := pow2_le z
      omega
    -- the finger
    have hnode := node_new (k := k) h1 hh
    have hf : some (nearF (2 ^ b) (farP (2 ^ b) here e') (srt ns)) ∈ (farN b here (srt ns)).map some := List.mem_map.mpr ⟨_, List.mem_map.mpr ⟨e', List.mem_range.mpr eb, rfl⟩, rfl⟩
    have hfe : nearF (2 ^ b) (farP (2 ^ b) here e') (srt ns) = nearF (2 ^ b) (farP (2 ^ b) here e') ns := nearF_perm h1 (srt_perm ns) (by omega)
    rw [hfe] at hf
    generalize hF : nearF (2 ^ b) (farP (2 ^ b) here e') ns = f at hf
    have fm : f ∈ ns := by rw [← hF]; exact nearF_mem (by omega)
    have fmin := nearF_min (m := 2 ^ b) (t := farP (2 ^ b) here e') (show 0 < ns.length by omega) pm
    rw [hF] at fmin
    have sh : ∀ x : Int, (x - farP (2 ^ b) here e') % 2 ^ b = ((x - here) % 2 ^ b - 2 ^ e') % 2 ^ b := fun x => by
      unfold farP
      rw [Int.sub_emod_emod, show x - (here + 2 ^ e') = (x - here) - 2 ^ e' from by omega, Int.emod_sub_emod]
    rw [sh, sh, hD] at fmin
    have pe0 : (0 : Int) < 2 ^ e' := Int.pow_pos (by decide)
    rw [Int.emod_eq_of_lt (a := d - 2 ^ e') (by omega) (by omega)] at fmin
    have f0 := Int.emod_nonneg (f - here) (show (2 : Int) ^ b ≠ 0 by omega)
    have f1 := Int.emod_lt_of_pos (f - here) (show (0 : Int) < 2 ^ b by omega)
    have fge : 2 ^ e' ≤ (f - here) % 2 ^ b ∧ (f - here) % 2 ^ b ≤ d := by
      rcases mod_s (z := (f - here) % 2 ^ b - 2 ^ e') (m := 2 ^ b) (by omega) (by omega) with z | z <;> omega
    have fb : f ∈ bw (newR b k ns) ⟨(othF (2 ^ b) here ns).take k.toNat, some (precF (2 ^ b) here (srt ns)), (farN b here (srt ns)).map some, []⟩ here pt := by
      refine List.mem_filter.mpr ⟨kn_mem.mpr ⟨mem_new.mpr fm, .inr hf⟩, ?_⟩
      show betw (2 ^ b) f here pt = true
      unfold betw
      rw [decide_eq_true (show 0 < (f - here) % 2 ^ b by omega), decide_eq_true (show (f - here) % 2 ^ b < (pt - here) % 2 ^ b by omega)]
      simp
    have mx := farM_max fb
    have ef : farO (newR b k ns) here pt = farM (newR b k ns) ⟨(othF (2 ^ b) here ns).take k.toNat, some (precF (2 ^ b) here (srt ns)), (farN b here (srt ns)).map some, []⟩ here pt := by unfold farO; rw [hnode]
    rw [← ef] at mx
    have mx : (f - here) % 2 ^ b ≤ (farO (newR b k ns) here pt - here) % 2 ^ b := mx
    omega
/-- what a lookup there comes to -/
structure GoodL (m : Int) (ns : List Int) (via pt : Int) (T : List Int) (g : Int) : Prop where
  head : T[0]? = some via
  ans : g = nearF m pt ns
  one : via = pt → T = [via]
  mem : ∀ x ∈ T, x ∈ ns
  dec : ∀ (i : Nat) x y, T[i]? = some x → T[i + 1]? = some y → (pt - y) % m < (pt - x) % m
  last : via ≠ pt → ∀ z, T.getLast? = some z → 0 < (pt - z) % m
  hops : via ≠ pt → ∀ j : Nat, (precF m pt ns - via) % m < 2 ^ j → T.length ≤ j + 1
theorem good_new (hb : 3 ≤ b) (hk : 1 ≤ k) (w : WfR (newR b k ns)) (h1 : InSp (2 ^ b) ns) (nd : ns.Nodup) (h2 : 2 ≤ ns.length) (hp : 0 ≤ pt ∧ pt < 2 ^ b) (l : LookP (newR b k ns) via pt T g) : GoodL (2 ^ b) ns via pt T g := by
  have hm := pw_lo hb
  have mem : ∀ x ∈ T, x ∈ ns := fun x hx => mem_new.mp (l.mem x hx)
  obtain ⟨z, lz1, lz2⟩ := l.last
  have hl : 0 < T.length := by have := l.first; exact (List.getElem?_eq_some_iff.mp this).1
  have near : ∀ (i : Nat) x y, T[i]? = some x → T[i + 1]? = some y → (pt - y) % 2 ^ b < (pt - x) % 2 ^ b ∧ y ≠ pt := fun i x y hx hy => by
    obtain ⟨o1, o2⟩ := l.hops i x y hx hy
    obtain ⟨a, _, _, e2⟩ := nxt_new hk h1 nd h2 (mem x (List.mem_of_getElem? hx))
    obtain ⟨n1, n2, n3, n4⟩ := hop_near w (l.mem x (List.mem_of_getElem? hx)) hp e2 o1
    rw [← o2] at n2 n4
    exact ⟨n2, fun e => by rw [e] at n4; exact absurd n4 (Int.lt_irrefl _)⟩
  refine ⟨l.first, end_near hb hk h1 nd h2 (mem z (List.mem_of_getLast? lz1)) hp lz2, fun e => ?_, mem, fun i x y hx hy => (near i x y hx hy).1, fun hne z' hz' => ?_, fun hne j hj => ?_⟩
  · have f := l.first
    match T, f, l with
    | [_], f, _ => rw [List.getElem?_cons_zero] at f; rw [Option.some.inj f]
    | x :: y :: r, f, l =>
      have f := Option.some.inj f
      obtain ⟨o1, _⟩ := l.hops 0 x y rfl rfl
      unfold endO at o1
      rw [if_pos (by rw [← e]; exact f)] at o1
      cases o1
  · have zne : z' ≠ pt := by
      rw [List.getLast?_eq_getElem?] at hz'
      by_cases q : T.length = 1
      · rw [q, l.first] at hz'
        rw [← Option.some.inj hz']; exact hne
      · have hx : T.length - 1 - 1 < T.length := by omega
        exact (near (T.length - 1 - 1) T[T.length - 1 - 1] z' (List.getElem?_eq_getElem hx) (by rw [show T.length - 1 - 1 + 1 = T.length - 1 from by omega]; exact hz')).2
    exact dist_pos (by omega) hp (h1 _ (mem _ (List.mem_of_getLast? hz'))) (fun e => zne e.symm)
  · have claim : ∀ i : Nat, (hi : i < T.length) → i ≤ j ∧ (precF (2 ^ b) pt ns - T[i]) % 2 ^ b < 2 ^ (j - i) := by
      intro i
      induction i with
      | zero =>
        intro hi
        have f := l.first
        rw [List.getElem?_eq_getElem hi] at f
        rw [Option.some.inj f]
        exact ⟨Nat.zero_le _, hj⟩
      | succ i ih =>
        intro hi
        obtain ⟨i1, i2⟩ := ih (by omega)
        obtain ⟨o1, o2⟩ := l.hops i _ _ (List.getElem?_eq_getElem (by omega : i < T.length)) (List.getElem?_eq_getElem hi)
        obtain ⟨p1, p2⟩ := hop_half hb hk w h1 nd h2 (mem _ (List.getElem_mem (by omega : i < T.length))) hp o1 i2
        have hji : i < j := by
          refine Nat.lt_of_le_of_ne i1 fun e => ?_
          subst e
          rw [Nat.sub_self] at i2
          have : (2 : Int) ^ 0 = 1 := rfl
          omega
        refine ⟨hji, ?_⟩
        rw [o2]
        exact p2 (j - (i + 1)) (by omega)
    have := (claim (T.length - 1) (by omega)).1
    omega
end
end NN
namespace NN
open PySem L2
local macro_rules | `(tactic| walk_at "nl") => `(tactic| first | with_reducible assumption | omega | (simp only [List.length_map, List.length_cons, List.length_nil, List.length_append, List.length_reverse, List.length_take, List.length_drop] <;> omega) | decide)
local macro_rules | `(tactic| walk_at "ar") => `(tactic| first | omega | (simp only [List.length_cons, List.length_nil] <;> omega) | (simp only [List.length_cons, List.length_nil, List.length_append, List.length_map, List.length_set, List.length_take, List.length_drop, List.length_reverse] <;> omega) | decide)
local macro_rules | `(tactic| walk_at "cond") => `(tactic| first | assumption | exact c_mulB | (exact c_mulL (by walk_at "nl") (by walk_at "nl")) | (exact c_mulR (by walk_at "nl") (by walk_at "nl")) | (exact c_divW (by walk_at "nl") (by walk_at "nl")) | (exact c_pow (by walk_at "nl") (by walk_at "nl") (by walk_at "nl")) | walk_at "nl")
local macro_rules | `(tactic| walk_at "sz") => `(tactic| first | exact sz_small (by simp only [List.length_cons, List.length_nil]; decide) | exact sz_small (by decide) | exact sz_small (by walk_at "ar"))
local macro_rules | `(tactic| walk_at "sl") => `(tactic| first | exact sz_less (by walk_at "ar"))
local macro_rules | `(tactic| walk_at "at") => `(tactic| first | assumption | exact at_0 | exact at_1 | exact at_2 | exact at_3 | exact at_4 | exact at_5 | exact at_6 | exact at_7 | exact at_8 | exact at_9 | exact at_10 | exact at_11 | exact at_12 | exact at_13 | exact at_14 | exact at_15 | exact atI_nat (by assumption))
local macro_rules | `(tactic| walk_at "flat") => `(tactic| first | exact ints_flat _ | rfl | assumption | decide)
local macro_rules | `(tactic| walk_at "ixn") => `(tactic| first | with_unfolding_all rfl | exact ixN_lit (j := 0) rfl (by walk_at "ar") | exact ixN_nat (by walk_at "ar"))
local macro_rules | `(tactic| walk_at "sat") => `(tactic| first | assumption | exact SatI.ent (by assumption))
local macro_rules | `(tactic| walk_at "hat") => `(tactic| first | with_reducible assumption | exact SatI.at (by assumption))
local macro_rules | `(tactic| walk_at "lt") => `(tactic| first | decide | (simp only [List.length_cons, List.length_nil]; decide))
local macro_rules | `(tactic| walk_at "putf") => `(tactic| (simp (decide := true) only [putF, if_true, if_false]) <;> rfl)
local macro_rules | `(tactic| walk_at "lkr") => `(tactic| exact fun _ _ _ _ => rfl)
local macro_rules | `(tactic| walk_at "ok") => `(tactic| first | assumption | decide +kernel)
local macro_rules | `(tactic| walk_at "lkk") => `(tactic| exact fun _ => rfl)
local macro_rules | `(tactic| walk_at "lkf") => `(tactic| exact fun _ _ => rfl)
local macro_rules | `(tactic| walk_at "dval") => `(tactic| first | assumption | rfl)
local macro_rules | `(tactic| walk_at "fm") => `(tactic| first | exact fm_yes (by assumption) (by first | rfl | assumption) rfl (by assumption) inferInstance (by walk_at "ar") | exact fm_no (by assumption) (by first | rfl | assumption) (by assumption) inferInstance)
local macro_rules | `(tactic| walk_at "call") => `(tactic| fail)
local macro_rules | `(tactic| walk_at "call2") => `(tactic| fail)
local macro_rules | `(tactic| walk_at "go1") => `(tactic| first | ((with_reducible refine Stp.imp ?_)) | (((with_reducible refine' g_eqc ?h0 ?_); (case h0 => rfl))) | (((with_reducible refine' g_I ?h0 ?_); (case h0 => walk_at "cond"))) | (((with_reducible refine' g_eq ?h0 ?_); (case h0 => with_unfolding_all rfl))) | (((with_reducible refine' g_ne ?h0 ?_); (case h0 => with_unfolding_all rfl))) | (((with_reducible refine' g_sz ?h0 ?_); (case h0 => walk_at "sz"); intro p hp; generalize hg : upd _ p _ = H2; (first | have hs := sat_newLI hg hp (by with_reducible assumption) inferInstance | have hs := sat_newL hg hp (by with_reducible assumption) | have hs := sat_newT hg hp (by with_reducible assumption)); clear hg hp)) | (((with_reducible refine' s_lenI ?h0 ?h1 ?h2 ?h3 ?_); (case h0 => with_reducible assumption); (case h1 => infer_instance); (case h2 => infer_instance); (case h3 => infer_instance))) | (((with_reducible refine' s_lenL ?h0 ?h1 ?h2 ?_); (case h0 => with_reducible assumption); (case h1 => infer_instance); (case h2 => infer_instance))) | (((with_reducible refine' s_lenT ?h0 ?h1 ?_); (case h0 => with_reducible assumption); (case h1 => infer_instance))) | (((with_reducible refine' s_listL ?h0 ?h1 ?h2 ?_); (case h0 => with_reducible assumption); (case h1 => infer_instance); (case h2 => infer_instance); intro _ _ _)) | (((with_reducible refine' s_listT ?h0 ?h1 ?_); (case h0 => with_reducible assumption); (case h1 => infer_instance); intro _ _ _)) | (((with_reducible refine' s_slTo ?h0 ?h1 ?h2 ?h3 ?h4 ?_); (case h0 => with_reducible assumption); (case h1 => infer_instance); (case h2 => infer_instance); (case h3 => infer_instance); (case h4 => walk_at "nl"); intro _ _ _)) | (((with_reducible refine' s_slFrom ?h0 ?h1 ?h2 ?h3 ?h4 ?_); (case h0 => with_reducible assumption); (case h1 => infer_instance); (case h2 => infer_instance); (case h3 => infer_instance); (case h4 => walk_at "nl"); intro _ _ _)) | (((with_reducible refine' s_slLast ?h0 ?h1 ?h2 ?h3 ?_); (case h0 => with_reducible assumption); (case h1 => infer_instance); (case h2 => infer_instance); (case h3 => infer_instance); intro _ _ _)) | (((with_reducible refine' s_slMid ?h0 ?h1 ?h2 ?h3 ?h4 ?h5 ?_); (case h0 => with_reducible assumption); (case h1 => infer_instance); (case h2 => infer_instance); (case h3 => infer_instance); (case h4 => walk_at "nl"); (case h5 => walk_at "nl"); intro _ _ _)) | (((with_reducible refine' s_sum ?h0 ?h1 ?h2 ?h3 ?_); (case h0 => with_reducible assumption); (case h1 => infer_instance); (case h2 => infer_instance); (case h3 => infer_instance))) | (((with_reducible refine' s_slL ?h0 ?h1 ?h2 ?_); (case h0 => with_reducible assumption); (case h1 => infer_instance); (case h2 => infer_instance); intro _ _ _)) | (((with_reducible refine' s_ixL ?h0 ?h1 ?h2 ?h3 ?_); (case h0 => with_reducible assumption); (case h1 => infer_instance); (case h2 => infer_instance); (case h3 => walk_at "at"))) | (((with_reducible refine' s_ixLast ?h0 ?h1 ?h2 ?h3 ?h4 ?_); (case h0 => with_reducible assumption); (case h1 => infer_instance); (case h2 => infer_instance); (case h3 => infer_instance); (case h4 => assumption))) | (((with_reducible refine' s_ixIn ?h0 ?h1 ?h2 ?h3 ?h4 ?h5 ?_); (case h0 => with_reducible assumption); (case h1 => infer_instance); (case h2 => infer_instance); (case h3 => infer_instance); (case h4 => walk_at "nl"); (case h5 => walk_at "nl"); intro n hn; (try simp only [List.mem_cons, List.not_mem_nil, or_false] at hn))) | (((with_reducible refine' s_ixT ?h0 ?h1 ?h2 ?_); (case h0 => with_reducible assumption); (case h1 => infer_instance); (case h2 => walk_at "at"))) | (((with_reducible refine' s_inI ?h0 ?h1 ?h2 ?h3 ?_); (case h0 => with_reducible assumption); (case h1 => infer_instance); (case h2 => infer_instance); (case h3 => infer_instance))) | (((with_reducible refine' s_ninI ?h0 ?h1 ?h2 ?h3 ?_); (case h0 => with_reducible assumption); (case h1 => infer_instance); (case h2 => infer_instance); (case h3 => infer_instance))) | (((with_reducible refine' s_in ?h0 ?h1 ?h2 ?h3 ?h4 ?_); (case h0 => with_reducible assumption); (case h1 => infer_instance); (case h2 => infer_instance); (case h3 => with_unfolding_all rfl); (case h4 => walk_at "flat"))) | (((with_reducible refine' s_setLI ?h0 ?h1 ?h2 ?h3 ?_); (case h0 => with_reducible assumption); (case h1 => infer_instance); (case h2 => infer_instance); (case h3 => walk_at "ixn"); intro _ _)) | (((with_reducible refine' s_setL ?h0 ?h1 ?h2 ?_); (case h0 => with_reducible assumption); (case h1 => infer_instance); (case h2 => with_unfolding_all rfl); intro _ _)) | (((with_reducible refine' s_appendI ?h0 ?h1 ?h2 ?h3 ?_); (case h0 => with_reducible assumption); (case h1 => infer_instance); (case h2 => infer_instance); (case h3 => walk_at "sl"); intro _ _)) | (((with_reducible refine' s_append ?h0 ?h1 ?h2 ?_); (case h0 => with_reducible assumption); (case h1 => infer_instance); (case h2 => walk_at "sl"); intro _ _)) | (((with_reducible refine' s_tyL ?h0 ?h1 ?h2 ?_); (case h0 => with_reducible assumption); (case h1 => infer_instance); (case h2 => infer_instance))) | (((with_reducible refine' s_catI ?h0 ?h1 ?h2 ?h3 ?h4 ?h5 ?_); (case h0 => with_reducible assumption); (case h1 => infer_instance); (case h2 => infer_instance); (case h3 => infer_instance); (case h4 => infer_instance); (case h5 => walk_at "sz"); intro _ _ _)) | (((with_reducible refine' s_cat ?h0 ?h1 ?h2 ?h3 ?_); (case h0 => with_reducible assumption); (case h1 => infer_instance); (case h2 => infer_instance); (case h3 => walk_at "sz"); intro _ _ _)) | (((with_reducible refine' s_sorted ?h0 ?h1 ?h2 ?h3 ?_); (case h0 => with_reducible assumption); (case h1 => infer_instance); (case h2 => infer_instance); (case h3 => infer_instance); intro _ _ _)) | (((with_reducible refine' s_eqL ?h0 ?h1 ?h2 ?h3 ?h4 ?h5 ?h6 ?_); (case h0 => with_reducible assumption); (case h1 => infer_instance); (case h2 => infer_instance); (case h3 => infer_instance); (case h4 => infer_instance); (case h5 => infer_instance); (case h6 => infer_instance))) | (((with_reducible refine' s_neL ?h0 ?h1 ?h2 ?h3 ?h4 ?h5 ?h6 ?_); (case h0 => with_reducible assumption); (case h1 => infer_instance); (case h2 => infer_instance); (case h3 => infer_instance); (case h4 => infer_instance); (case h5 => infer_instance); (case h6 => infer_instance))) | (((with_reducible refine' s_isLL ?h0 ?h1 ?_); (case h0 => with_reducible assumption); (case h1 => infer_instance))) | (((with_reducible refine' s_revI ?h0 ?h1 ?h2 ?h3 ?_); (case h0 => with_reducible assumption); (case h1 => infer_instance); (case h2 => infer_instance); (case h3 => infer_instance); intro _ _ _)) | (((with_reducible refine' s_revL ?h0 ?h1 ?h2 ?_); (case h0 => with_reducible assumption); (case h1 => infer_instance); (case h2 => infer_instance); intro _ _ _)) | (((with_reducible refine' s_insertI ?h0 ?h1 ?h2 ?h3 ?h4 ?h5 ?_); (case h0 => with_reducible assumption); (case h1 => infer_instance); (case h2 => infer_instance); (case h3 => walk_at "sl"); (case h4 => walk_at "nl"); (case h5 => walk_at "nl"); intro _ _)) | (((with_reducible refine' s_all ?h0 ?h1 ?_); (case h0 => with_reducible assumption); (case h1 => infer_instance))) | (((with_reducible refine' s_any ?h0 ?h1 ?_); (case h0 => with_reducible assumption); (case h1 => infer_instance))) | (((with_reducible refine' s_idx ?h0 ?h1 ?h2 ?h3 ?h4 ?_); (case h0 => with_reducible assumption); (case h1 => infer_instance); (case h2 => infer_instance); (case h3 => infer_instance); (case h4 => assumption))) | (((with_reducible refine' g_fld ?h0 ?h1 ?h2 ?h3 ?_); (case h0 => walk_at "hat"); (case h1 => with_reducible assumption); (case h2 => with_reducible assumption); (case h3 => with_unfolding_all rfl))) | (((with_reducible refine' s_sfld ?h0 ?h1 ?h2 ?h3 ?h4 ?h5 ?h6 ?_); (case h0 => with_reducible assumption); (case h1 => infer_instance); (case h2 => with_reducible assumption); (case h3 => with_reducible assumption); (case h4 => with_reducible assumption); (case h5 => walk_at "lt"); (case h6 => walk_at "putf"); intro _ _)) | (((with_reducible refine' s_ins ?h0 ?h1 ?h2 ?_); (case h0 => with_reducible assumption); (case h1 => infer_instance); (case h2 => with_unfolding_all rfl))) | (((with_reducible refine' s_dget ?h0 ?h1 ?h2 ?h3 ?_); (case h0 => with_reducible assumption); (case h1 => infer_instance); (case h2 => infer_instance); (case h3 => walk_at "dval"))) | (((with_reducible refine' s_din ?h0 ?h1 ?h2 ?_); (case h0 => with_reducible assumption); (case h1 => infer_instance); (case h2 => infer_instance))) | (((with_reducible refine' s_dnotin ?h0 ?h1 ?h2 ?_); (case h0 => with_reducible assumption); (case h1 => infer_instance); (case h2 => infer_instance))) | (((with_reducible refine' s_dput ?h0 ?h1 ?h2 ?h3 ?_); (case h0 => with_reducible assumption); (case h1 => infer_instance); (case h2 => infer_instance); (case h3 => walk_at "sl"); intro _ _)) | ((intro p hp; generalize hg : upd _ p (HO.dK []) = H2; have hs := sat_newD hg hp (by with_reducible assumption); clear hg hp)) | (((with_reducible refine' s_divmod ?h0 ?h1 ?h2 ?_); (case h0 => with_reducible assumption); (case h1 => walk_at "nl"); (case h2 => walk_at "nl"); intro _ _ _)) | (((with_reducible refine' s_gtup ?h0 ?h1 ?h2 ?_); (case h0 => with_reducible assumption); (case h1 => infer_instance); (case h2 => with_unfolding_all rfl))) | walk_at "call" | walk_at "call2")
local macro_rules | `(tactic| walk_at "go") => `(tactic| (repeat walk_at "go1"); (try dsimp only))
local macro_rules | `(tactic| walk_at "on") => `(tactic| (with_reducible refine g_seq ?_); walk_at "go")
local macro_rules | `(tactic| walk_at "ifs") => `(tactic| ((try simp only [List.length_map]) <;> (repeat' split) <;> omega))
local macro_rules | `(tactic| walk_at "spa") => `(tactic| first | assumption | exact sat_spH (by assumption) inferInstance)
local macro_rules | `(tactic| walk_at "th") => `(tactic| first | exact Th.int | exact Th.bl | exact Th.non | exact Th.str | assumption | exact Th.lst (SatI.at (by assumption)) | exact Th.tup (SatI.at (by assumption)) | exact Th.dK (SatI.at (by assumption)))
local macro_rules | `(tactic| walk_at "call2") => `(tactic| first
  | ((with_reducible refine' use_whole ?e ?h0 ?_); (case e => rfl); (case h0 => walk_at "th"))
  | ((with_reducible refine' use_make ?e ?h0 ?h1 ?h2 ?_); (case e => exact fun _ => rfl); (case h0 => assumption); (case h1 => walk_at "nl"); (case h2 => walk_at "nl"); intro _ _ _)
  | ((with_reducible refine' use_bits ?e ?h0 ?_); (case e => rfl); (case h0 => walk_at "spa"))
  | ((with_reducible refine' use_size ?e ?h0 ?_); (case e => rfl); (case h0 => walk_at "spa"))
  | ((with_reducible refine' use_has ?e ?h0 ?h1 ?_); (case e => rfl); (case h0 => walk_at "spa"); (case h1 => walk_at "th"))
  | ((with_reducible refine' use_distance ?e ?h0 ?_); (case e => rfl); (case h0 => walk_at "spa"))
  | ((with_reducible refine' use_between ?e ?h0 ?_); (case e => rfl); (case h0 => walk_at "spa"))
  | ((with_reducible refine' use_nearest ?e ?h0 ?h1 ?h2 ?h3 ?h4 ?_); (case e => rfl); (case h0 => walk_at "spa"); (case h1 => assumption); (case h2 => infer_instance); (case h3 => infer_instance); (case h4 => walk_at "nl"); intro _ _ _ _)
  | ((with_reducible refine' use_preceding ?e ?h0 ?h1 ?h2 ?h3 ?h4 ?_); (case e => rfl); (case h0 => walk_at "spa"); (case h1 => assumption); (case h2 => infer_instance); (case h3 => infer_instance); (case h4 => walk_at "nl"); intro _ _ _ _)
  | ((with_reducible refine' s_insS ?h0 ?h1 ?h2 ?_); (case h0 => assumption); (case h1 => infer_instance); (case h2 => rfl))
  | ((with_reducible refine' h_insS ?h0 ?h2 ?_); (case h0 => assumption); (case h2 => rfl)))
local macro_rules | `(tactic| walk_at "call2") => `(tactic| first
  | ((with_reducible refine' use_Node ?e ?h0 ?h1 ?h2 ?h3 ?h4 ?h5 ?_); (case e => exact fun _ => rfl); (case h0 => assumption); (case h1 => infer_instance); (case h2 => infer_instance); (case h3 => infer_instance); (case h4 => infer_instance); (case h5 => infer_instance); intro _ _ _)
  | ((with_reducible refine' use_upwards ?e ?h0 ?h1 ?h2 ?h3 ?_); (case e => rfl); (case h0 => walk_at "spa"); (case h1 => assumption); (case h2 => infer_instance); (case h3 => infer_instance); intro _ _ _)
  | ((with_reducible refine' use_others ?e ?h0 ?h1 ?h2 ?h3 ?h4 ?_); (case e => rfl); (case h0 => walk_at "spa"); (case h1 => assumption); (case h2 => infer_instance); (case h3 => infer_instance); (case h4 => walk_at "nl"); intro _ _ _)
  | ((with_reducible refine' use_farpt ?e ?h0 ?h1 ?h2 ?_); (case e => rfl); (case h0 => walk_at "spa"); (case h1 => walk_at "nl"); (case h2 => walk_at "nl"))
  | ((with_reducible refine' use_rchain ?e ?h0 ?h1 ?h2 ?h3 ?h4 ?h5 ?_); (case e => rfl); (case h0 => walk_at "spa"); (case h1 => assumption); (case h2 => infer_instance); (case h3 => infer_instance); (case h4 => walk_at "nl"); (case h5 => walk_at "nl"); intro _ _ _)
  | ((with_reducible refine' use_rfar ?e ?h0 ?h1 ?h2 ?h3 ?h4 ?_); (case e => rfl); (case h0 => walk_at "spa"); (case h1 => assumption); (case h2 => infer_instance); (case h3 => infer_instance); (case h4 => walk_at "nl"); intro _ _ _)
  | ((with_reducible refine' use_rnode ?e ?h0 ?h1 ?h2 ?h3 ?h4 ?h5 ?h6 ?_); (case e => rfl); (case h0 => walk_at "spa"); (case h1 => assumption); (case h2 => infer_instance); (case h3 => infer_instance); (case h4 => walk_at "nl"); (case h5 => walk_at "nl"); (case h6 => walk_at "nl"); intro _ _ _)
  | ((with_reducible refine' use_islen ?e ?h0 ?_); (case e => rfl); (case h0 => walk_at "th"))
  | ((with_reducible refine' use_arebase ?e ?h0 ?h1 ?h2 ?h3 ?h4 ?h5 ?h6 ?_); (case e => rfl); (case h0 => walk_at "spa"); (case h1 => assumption); (case h2 => infer_instance); (case h3 => infer_instance); (case h4 => assumption); (case h5 => assumption); (case h6 => assumption); intro _ _)
  | ((with_reducible refine' use_spaceof ?e ?h0 ?h1 ?h2 ?_); (case e => rfl); (case h0 => assumption); (case h1 => walk_at "nl"); (case h2 => walk_at "nl"); intro _ _ _)
  | ((with_reducible refine' use_Ring ?e ?h0 ?h1 ?h2 ?h3 ?h4 ?h5 ?h6 ?h7 ?h8 ?h9 ?h10 ?_); (case e => exact fun _ => rfl); (case h0 => assumption); (case h1 => infer_instance); (case h2 => infer_instance); (case h3 => walk_at "nl"); (case h4 => walk_at "nl"); (case h5 => walk_at "nl"); (case h6 => walk_at "nl"); (case h7 => walk_at "nl"); (case h8 => walk_at "nl"); (case h9 => assumption); (case h10 => assumption); intro _ _ _ _)
  | ((with_reducible refine' use_rspace ?e ?h0 ?h1 ?_); (case e => rfl); (case h0 => assumption); (case h1 => infer_instance); intro _ _)
  | ((with_reducible refine' use_rlength ?e ?h0 ?h1 ?_); (case e => rfl); (case h0 => assumption); (case h1 => infer_instance))
  | ((with_reducible refine' use_rbase ?e ?h0 ?h1 ?_); (case e => rfl); (case h0 => assumption); (case h1 => infer_instance); intro _ _ _)
  | ((with_reducible refine' use_rdeeds ?e ?h0 ?h1 ?_); (case e => rfl); (case h0 => assumption); (case h1 => infer_instance); intro _ _ _)
  | ((with_reducible refine' use_rmembers ?e ?h0 ?h1 ?_); (case e => rfl); (case h0 => assumption); (case h1 => infer_instance); intro _ _ _ _)
  | ((with_reducible refine' use_rmem ?e ?h0 ?h1 ?h2 ?_); (case e => rfl); (case h0 => assumption); (case h1 => infer_instance); (case h2 => walk_at "th"))
  | ((with_reducible refine' use_rnod ?e ?h0 ?h1 ?h2 ?_); (case e => rfl); (case h0 => assumption); (case h1 => infer_instance); (case h2 => assumption))
  | ((with_reducible refine' use_rlinks ?e ?h0 ?h1 ?h2 ?_); (case e => rfl); (case h0 => assumption); (case h1 => infer_instance); (case h2 => assumption); intro _ _ _)
  | ((with_reducible refine' use_rfingers ?e ?h0 ?h1 ?h2 ?_); (case e => rfl); (case h0 => assumption); (case h1 => infer_instance); (case h2 => assumption); intro _ _ _)
  | ((with_reducible refine' use_rbefore ?e ?h0 ?h1 ?h2 ?_); (case e => rfl); (case h0 => assumption); (case h1 => infer_instance); (case h2 => assumption))
  | ((with_reducible refine' use_rnext ?e ?h0 ?h1 ?h2 ?_); (case e => rfl); (case h0 => assumption); (case h1 => infer_instance); (case h2 => assumption); intro _ _)
  | ((with_reducible refine' use_rkept0 ?e ?h0 ?h1 ?h2 ?h3 ?_); (case e => rfl); (case h0 => assumption); (case h1 => infer_instance); (case h2 => assumption); (case h3 => assumption); intro _ _ _)
  | ((with_reducible refine' s_insR ?h0 ?h1 ?h2 ?_); (case h0 => assumption); (case h1 => infer_instance); (case h2 => walk_at "lkr"))
  | (first | rw [ov_some] | rw [ov_none]))
section
variable {K : PySem.W.Frag} {Z : Ad} {L R R1 R2 : List Atom} {H : Hp} {Q : VK} {E : XK} {vs : List V} {X : Addr → Hp → Prop} {xs : List V} {ns : List Int}
def sp__law_take (_ : PySem.W.Frag) (Z : Ad) : Sp := fun vs H Q _ => ∃ (p : Addr) (n : Int) (R : List Atom), vs = [.ref p, .int n] ∧ Sat Z (⟨p, PotA⟩ :: R) H ∧ 0 < n ∧ n < 2 ^ 200 ∧ ∀ (r : Int) (H' : Hp), 0 ≤ r → r < n → Sat Z (⟨p, PotA⟩ :: R) H' → Q (.int r) H'
theorem use_take {p : Addr} {n : Int} (e : vs = [.ref p, .int n]) (s : Sat Z L H) (f : Fnd L p PotA R) (h0 : 0 < n) (h1 : n < 2 ^ 200) (q : ∀ (r : Int) (H' : Hp), 0 ≤ r → r < n → Sat Z (⟨p, PotA⟩ :: R) H' → Q (.int r) H') : sp__law_take K Z vs H Q E :=
  ⟨p, n, R, e, s.fnd, h0, h1, q⟩
def sp__law_pot (K : PySem.W.Frag) (Z : Ad) : Sp := fun vs H Q _ => ∃ (a : Addr) (ns : List Int) (k : Int) (R : List Atom), vs = [.ref a, .int k] ∧ Sat Z (⟨a, RL K (ns.map V.int)⟩ :: R) H ∧ 0 ≤ k ∧ k ≤ 100 ∧ ∀ (p : Addr) (H' : Hp), Sat Z (⟨p, PotA⟩ :: ⟨a, RL K (ns.map V.int)⟩ :: R) H' → Q (.ref p) H'
theorem use_pot {a : Addr} {k : Int} (e : vs = [.ref a, .int k]) (s : Sat Z L H) (f : Fnd L a (RL K (ns.map V.int)) R) (h0 : 0 ≤ k) (h1 : k ≤ 100) (q : ∀ (p : Addr) (H' : Hp), Sat Z (⟨p, PotA⟩ :: ⟨a, RL K (ns.map V.int)⟩ :: R) H' → Q (.ref p) H') : sp__law_pot K Z vs H Q E := ⟨a, ns, k, R, e, s.fnd, h0, h1, q⟩
def sp__law_bits (_ : PySem.W.Frag) (Z : Ad) : Sp := fun vs H Q _ => ∃ (p : Addr) (R : List Atom), vs = [.ref p] ∧ Sat Z (⟨p, PotA⟩ :: R) H ∧ ∀ (r : Int) (H' : Hp), 3 ≤ r → r ≤ 32 → Sat Z (⟨p, PotA⟩ :: R) H' → Q (.int r) H'
theorem use_lbits {p : Addr} (e : vs = [.ref p]) (s : Sat Z L H) (f : Fnd L p PotA R) (q : ∀ (r : Int) (H' : Hp), 3 ≤ r → r ≤ 32 → Sat Z (⟨p, PotA⟩ :: R) H' → Q (.int r) H') : sp__law_bits K Z vs H Q E := ⟨p, R, e, s.fnd, q⟩
def sp__law_point (_ : PySem.W.Frag) (Z : Ad) : Sp := fun vs H Q _ => ∃ (p : Addr) (m n : Int) (R : List Atom), vs = [.ref p, .int m, .int n] ∧ Sat Z (⟨p, PotA⟩ :: R) H ∧ 8 ≤ m ∧ m ≤ 4294967296 ∧ ∀ (r : Int) (H' : Hp), 0 ≤ r → r < m → Sat Z (⟨p, PotA⟩ :: R) H' → Q (.int r) H'
theorem use_point {p : Addr} {m n : Int} (e : vs = [.ref p, .int m, .int n]) (s : Sat Z L H) (f : Fnd L p PotA R) (h0 : 8 ≤ m) (h1 : m ≤ 4294967296) (q : ∀ (r : Int) (H' : Hp), 0 ≤ r → r < m → Sat Z (⟨p, PotA⟩ :: R) H' → Q (.int r) H') : sp__law_point K Z vs H Q E := ⟨p, m, n, R, e, s.fnd, h0, h1, q⟩
def sp__law_points (_ : PySem.W.Frag) (Z : Ad) : Sp := fun vs H Q _ => ∃ (p : Addr) (m n k : Int) (R : List Atom), vs = [.ref p, .int m, .int n, .int k] ∧ Sat Z (⟨p, PotA⟩ :: R) H ∧ 8 ≤ m ∧ m ≤ 4294967296 ∧ 0 < k ∧ k ≤ 100 ∧ ∀ (l : Addr) (ns : List Int) (H' : Hp), 0 < ns.length → (ns.length : Int) ≤ k → InSp m ns → Sat Z (⟨l, LI ns⟩ :: ⟨p, PotA⟩ :: R) H' → Q (.ref l) H'
theorem use_points {p : Addr} {m n k : Int} (e : vs = [.ref p, .int m, .int n, .int k]) (s : Sat Z L H) (f : Fnd L p PotA R) (h0 : 8 ≤ m) (h1 : m ≤ 4294967296) (h2 : 0 < k) (h3 : k ≤ 100) (q : ∀ (l : Addr) (ns : List Int) (H' : Hp), 0 < ns.length → (ns.length : Int) ≤ k → InSp m ns → Sat Z (⟨l, LI ns⟩ :: ⟨p, PotA⟩ :: R) H' → Q (.ref l) H') : sp__law_points K Z vs H Q E := ⟨p, m, n, k, R, e, s.fnd, h0, h1, h2, h3, q⟩
def sp__law_size (_ : PySem.W.Frag) (Z : Ad) : Sp := fun vs H Q _ => ∃ (b : Int) (L : List Atom), vs = [.int b] ∧ Sat Z L H ∧ 0 ≤ b ∧ b ≤ 64 ∧ ∀ H', Sat Z L H' → Q (.int (2 ^ b.toNat)) H'
theorem use_lsize {b : Int} (e : vs = [.int b]) (s : Sat Z L H) (h0 : 0 ≤ b) (h1 : b ≤ 64) (q : ∀ H', Sat Z L H' → Q (.int (2 ^ b.toNat)) H') : sp__law_size K Z vs H Q E := ⟨b, L, e, s, h0, h1, q⟩
def sp__law_base (_ : PySem.W.Frag) (Z : Ad) : Sp := fun vs H Q _ => ∃ (p : Addr) (m k : Int) (R : List Atom), vs = [.ref p, .int m, .int k] ∧ Sat Z (⟨p, PotA⟩ :: R) H ∧ 8 ≤ m ∧ m ≤ 4294967296 ∧ 1 ≤ k ∧ k ≤ 4 ∧ ∀ (l : Addr) (ns : List Int) (H' : Hp), k < ns.length → ns.length ≤ 8 → InSp m ns → ns.Nodup → Sat Z (⟨l, LI ns⟩ :: ⟨p, PotA⟩ :: R) H' → Q (.ref l) H'
theorem use_base {p : Addr} {m k : Int} (e : vs = [.ref p, .int m, .int k]) (s : Sat Z L H) (f : Fnd L p PotA R) (h0 : 8 ≤ m) (h1 : m ≤ 4294967296) (h2 : 1 ≤ k) (h3 : k ≤ 4) (q : ∀ (l : Addr) (ns : List Int) (H' : Hp), k < ns.length → ns.length ≤ 8 → InSp m ns → ns.Nodup → Sat Z (⟨l, LI ns⟩ :: ⟨p, PotA⟩ :: R) H' → Q (.ref l) H') : sp__law_base K Z vs H Q E := ⟨p, m, k, R, e, s.fnd, h0, h1, h2, h3, q⟩
def sp__law_up (_ : PySem.W.Frag) (Z : Ad) : Sp := fun vs H Q _ => ∃ (l : Addr) (m here : Int) (ns : List Int) (R : List Atom), vs = [.int m, .ref l, .int here] ∧ Sat Z (⟨l, LI ns⟩ :: R) H ∧ 0 < m ∧ m < 2 ^ 200 ∧ InSp m ns ∧ ns.length ≤ 1000 ∧ ∀ p H', Sat Z (⟨p, LI (upwP m here ns)⟩ :: ⟨l, LI ns⟩ :: R) H' → Q (.ref p) H'
theorem use_lup {l : Addr} {m here : Int} (e : vs = [.int m, .ref l, .int here]) (s : Sat Z L H) (f : Fnd L l (Pt (.lst xs)) R) (I : IsI xs ns) (h0 : 0 < m) (h1 : m < 2 ^ 200) (h2 : InSp m ns) (h3 : ns.length ≤ 1000) (q : ∀ p H', Sat Z (⟨p, LI (upwP m here ns)⟩ :: ⟨l, LI ns⟩ :: R) H' → Q (.ref p) H') : sp__law_up K Z vs H Q E := by
  obtain rfl := I.eq
  exact ⟨l, m, here, ns, R, e, s.fnd, h0, h1, h2, h3, q⟩
def sp__law_asked (_ : PySem.W.Frag) (Z : Ad) : Sp := fun vs H Q _ => ∃ (p l : Addr) (m : Int) (ns : List Int) (R : List Atom), vs = [.ref p, .int m, .ref l] ∧ Sat Z (⟨p, PotA⟩ :: ⟨l, LI ns⟩ :: R) H ∧ 8 ≤ m ∧ m ≤ 4294967296 ∧ ns.length ≤ 8 ∧ InSp m ns ∧ ∀ (k : Addr) (as : List Int) (H' : Hp), InSp m as → 0 < as.length → as.length ≤ 20 → Sat Z (⟨k, LI as⟩ :: ⟨p, PotA⟩ :: ⟨l, LI ns⟩ :: R) H' → Q (.ref k) H'
theorem use_asked {p l : Addr} {m : Int} (e : vs = [.ref p, .int m, .ref l]) (s : Sat Z L H) (f : Fnd L p PotA R1) (f2 : Fnd R1 l (Pt (.lst xs)) R2) (I : IsI xs ns) (h0 : 8 ≤ m) (h1 : m ≤ 4294967296) (h2 : ns.length ≤ 8) (h3 : InSp m ns) (q : ∀ (k : Addr) (as : List Int) (H' : Hp), InSp m as → 0 < as.length → as.length ≤ 20 → Sat Z (⟨k, LI as⟩ :: ⟨p, PotA⟩ :: ⟨l, LI ns⟩ :: R2) H' → Q (.ref k) H') : sp__law_asked K Z vs H Q E := by
  obtain rfl := I.eq
  have s1 := s.fnd (p := p)
  have s2 : Sat Z (⟨l, LI ns⟩ :: ⟨p, PotA⟩ :: R2) H := s1.fnd (p := l)
  exact ⟨p, l, m, ns, R2, e, ⟨s2.tabs, s2.star.swap⟩, h0, h1, h2, h3, q⟩
end
local macro_rules | `(tactic| walk_at "call") => `(tactic| first
  | ((with_reducible refine' use_take ?e ?h0 ?h1 ?h2 ?h3 ?_); (case e => rfl); (case h0 => assumption); (case h1 => infer_instance); (case h2 => walk_at "nl"); (case h3 => walk_at "nl"); intro _ _ _ _ _)
  | ((with_reducible refine' use_pot ?e ?h0 ?h1 ?h2 ?h3 ?_); (case e => rfl); (case h0 => assumption); (case h1 => infer_instance); (case h2 => walk_at "nl"); (case h3 => walk_at "nl"); intro _ _ _)
  | ((with_reducible refine' use_lbits ?e ?h0 ?h1 ?_); (case e => rfl); (case h0 => assumption); (case h1 => infer_instance); intro _ _ _ _ _)
  | ((with_reducible refine' use_point ?e ?h0 ?h1 ?h2 ?h3 ?_); (case e => rfl); (case h0 => assumption); (case h1 => infer_instance); (case h2 => walk_at "nl"); (case h3 => walk_at "nl"); intro _ _ _ _ _)
  | ((with_reducible refine' use_points ?e ?h0 ?h1 ?h2 ?h3 ?h4 ?h5 ?_); (case e => rfl); (case h0 => assumption); (case h1 => infer_instance); (case h2 => walk_at "nl"); (case h3 => walk_at "nl"); (case h4 => walk_at "nl"); (case h5 => walk_at "nl"); intro _ _ _ _ _ _ _)
  | ((with_reducible refine' use_lsize ?e ?h0 ?h1 ?h2 ?_); (case e => rfl); (case h0 => assumption); (case h1 => walk_at "nl"); (case h2 => walk_at "nl"); intro _ _)
  | ((with_reducible refine' use_base ?e ?h0 ?h1 ?h2 ?h3 ?h4 ?h5 ?_); (case e => rfl); (case h0 => assumption); (case h1 => infer_instance); (case h2 => walk_at "nl"); (case h3 => walk_at "nl"); (case h4 => walk_at "nl"); (case h5 => walk_at "nl"); intro _ _ _ _ _ _ _ _)
  | ((with_reducible refine' use_lup ?e ?h0 ?h1 ?h2 ?h3 ?h4 ?h5 ?h6 ?_); (case e => rfl); (case h0 => assumption); (case h1 => infer_instance); (case h2 => infer_instance); (case h3 => walk_at "nl"); (case h4 => walk_at "nl"); (case h5 => assumption); (case h6 => walk_at "nl"); intro _ _ _)
  | ((with_reducible refine' use_asked ?e ?h0 ?h1 ?h2 ?h3 ?h4 ?h5 ?h6 ?h7 ?_); (case e => rfl); (case h0 => assumption); (case h1 => infer_instance); (case h2 => infer_instance); (case h3 => infer_instance); (case h4 => walk_at "nl"); (case h5 => walk_at "nl"); (case h6 => walk_at "nl"); (case h7 => assumption); intro _ _ _ _ _ _ _))
def t__law_take (K : PySem.W.Frag) (Z : Ad) : TS :=
  (tSeq (tIfS (tTest (tOp rGt (tOp (rIxL K) (tVar 0) (tC (.int 0))) (tC (.int 0)))) (tSeq (tAsg (tOp rMod0 (tOp (rIxL K) (tVar 0) (tC (.int 0))) (tVar 1)) (gName 2))
  (tSeq (tAsg (tOp rDivW (tOp (rIxL K) (tVar 0) (tC (.int 0))) (tVar 1)) (gSub (tVar 0) (tC (.int 0)) rSetL))
  (tRet (tVar 2)))) tNext)
  (tSeq (tAsg (tOp rMod0 (tOp rAdd0 (tOp rMul0 (tOp (rIxL K) (tVar 0) (tC (.int 1))) (tC (.int 39373))) (tC (.int 2311))) (tC (.int 2147483629))) (gSub (tVar 0) (tC (.int 1)) rSetL))
  (tRet (tOp rMod0 (tOp rDivW (tOp rMod0 (tOp rMul0 (tOp (rIxL K) (tVar 0) (tC (.int 1))) (tOp (rIxL K) (tVar 0) (tC (.int 1)))) (tC (.int 2147483587))) (tC (.int 17))) (tVar 1)))))
theorem rd__law_take (K : PySem.W.Frag) (Z : Ad) : ∀ vs H Q E, sp__law_take K Z vs H Q E → t__law_take K Z { nx := fun _ H' => Q .non H', rt := Q } (start (["_law_pot_here", "_law_room", "_law_digit"]) vs) H := by
  rintro _ H Q E ⟨p, n, R, rfl, s, h0, h1, q⟩
  obtain ⟨x, y, hy0, hy1, s⟩ := pot_open s
  show t__law_take K Z _ [some (.ref p), some (.int n), none] H
  unfold t__law_take
  walk_at "go"
  walk_at "on"
  refine g_ite (fun hx => ?_) fun hx => ?_
  · walk_at "go"
    exact q _ _ (Int.emod_nonneg _ (by omega)) (Int.emod_lt_of_pos _ h0) (pot_close (x := x / n) (y := y) (by assumption) hy0 hy1)
  · walk_at "go"
    have e0 := Int.emod_nonneg (y * 39373 + 2311) (show (2147483629 : Int) ≠ 0 by decide)
    have e1 := Int.emod_lt_of_pos (y * 39373 + 2311) (show (0 : Int) < 2147483629 by decide)
    exact q _ _ (Int.emod_nonneg _ (by omega)) (Int.emod_lt_of_pos _ h0) (pot_close (x := x) (y := (y * 39373 + 2311) % 2147483629) (by assumption) e0 (by omega))
def t__law_pot (K : PySem.W.Frag) (Z : Ad) : TS :=
  (tSeq (tAsg (tC (.int 0)) (gName 2))
  (tSeq (tIfS (tTest (tOp rLt (tVar 1) (tCB (rLenS K) (tCons (tVar 0) tNil)))) (tAsg (tOp (rIxL K) (tVar 0) (tVar 1)) (gName 2)) tNext)
  (tSeq (tAsg (tOp rAdd0 (tC (.int 1000003)) (tOp rMul0 (tC (.int 7919)) (tVar 1))) (gName 3))
  (tSeq (tFor (iList K (tSl (rSlL K) (tVar 0) tNoPart (tPart (tC (.int 63))))) (gName 4) (tAsg (tOp rMod0 (tOp rAdd0 (tOp rMul0 (tVar 3) (tC (.int 39373))) (tVar 4)) (tC (.int 2147483629))) (gName 3)))
  (tRet (tLst (tCons (tOp rMul0 (tVar 2) (tCB rInt1 (tCons (tOp rGe (tVar 2) (tOp rPow0 (tC (.int 10)) (tC (.int 18)))) tNil))) (tCons (tVar 3) tNil))))))))
theorem rd__law_pot (K : PySem.W.Frag) (Z : Ad) : ∀ vs H Q E, sp__law_pot K Z vs H Q E → t__law_pot K Z { nx := fun _ H' => Q .non H', rt := Q } (start (["_law_script", "_law_k", "_law_cell", "_law_mixed", "_law_one"]) vs) H := by
  rintro _ H Q E ⟨a, ns, k, R, rfl, s, hk0, hk1, q⟩
  show t__law_pot K Z _ [some (.ref a), some (.int k), none, none, none] H
  unfold t__law_pot
  walk_at "on"
  refine g_seqJ (M := fun σ' H' => H' = H ∧ ∃ c : Int, σ' = [some (.ref a), some (.int k), some (.int c), none, none]) ?_ fun N hN => ?_
  · rintro σ' _ ⟨rfl, c, rfl⟩
    walk_at "on"
    rename_i l H1 s1
    refine sf_list s1 inferInstance inferInstance (fun i σ' L' => ∃ (y : Option V) (z : Int), σ' = [some (.ref a), some (.int k), some (.int c), some (.int z), y] ∧ L' = ⟨a, RL K (ns.map V.int)⟩ :: R ∧ 0 ≤ z ∧ z < 2147483648) ?_ ?_ ?_
    · exact ⟨_, _, rfl, rfl, by omega, by omega⟩
    · rintro i x σ' L' H' hx ⟨y, z, rfl, rfl, hz⟩ s2
      obtain ⟨w, _, rfl⟩ := get_map hx
      walk_at "go"
      have e0 := Int.emod_nonneg (z * 39373 + w) (show (2147483629 : Int) ≠ 0 by decide)
      have e1 := Int.emod_lt_of_pos (z * 39373 + w) (show (0 : Int) < 2147483629 by decide)
      exact ⟨_, ⟨_, _, rfl, rfl, e0, by omega⟩, s2⟩
    · rintro σ' L' H' ⟨y, z, rfl, rfl, hz⟩ s2
      walk_at "go"
      rename_i p H3 s3
      exact q p H3 (SatI.ent (L := ⟨p, PotA⟩ :: _) (pot_close s3 hz.1 hz.2))
  · walk_at "go"
    refine g_ite (fun hx => ?_) fun _ => ?_
    · obtain ⟨n, e1, e2⟩ := ints_ix hk0 hx
      walk_at "go"
      exact hN _ _ ⟨rfl, _, rfl⟩
    · walk_at "go"
      exact hN _ _ ⟨rfl, _, rfl⟩
def t__law_bits (K : PySem.W.Frag) (Z : Ad) : TS :=
  (tRet (tOp (rIxL K) (tLst (tCons (tC (.int 3)) (tCons (tC (.int 4)) (tCons (tOp rAdd0 (tC (.int 3)) (tCl (sp__law_take K Z) [.pos 0, .pos 1] [] [] 2 0 (fun _ => E0) (tCons (tVar 0) (tCons (tC (.int 6)) tNil)) tNil)) (tCons (tOp rAdd0 (tC (.int 3)) (tCl (sp__law_take K Z) [.pos 0, .pos 1] [] [] 2 0 (fun _ => E0) (tCons (tVar 0) (tCons (tC (.int 30)) tNil)) tNil)) tNil))))) (tCl (sp__law_take K Z) [.pos 0, .pos 1] [] [] 2 0 (fun _ => E0) (tCons (tVar 0) (tCons (tC (.int 4)) tNil)) tNil)))
theorem rd__law_bits (K : PySem.W.Frag) (Z : Ad) : ∀ vs H Q E, sp__law_bits K Z vs H Q E → t__law_bits K Z { nx := fun _ H' => Q .non H', rt := Q } (start (["_law_pot_here"]) vs) H := by
  rintro _ H Q E ⟨p, R, rfl, s, q⟩
  show t__law_bits K Z _ [some (.ref p)] H
  unfold t__law_bits
  walk_at "go"
  rename_i n hn
  exact q _ _ (by omega) (by omega) (by walk_at "sat")
def t__law_point (K : PySem.W.Frag) (Z : Ad) : TS :=
  (tSeq (tAsg (tCl (sp__law_take K Z) [.pos 0, .pos 1] [] [] 2 0 (fun _ => E0) (tCons (tVar 0) (tCons (tC (.int 4)) tNil)) tNil) (gName 3))
  (tSeq (tAsg (tCl (sp__law_take K Z) [.pos 0, .pos 1] [] [] 2 0 (fun _ => E0) (tCons (tVar 0) (tCons (tVar 1) tNil)) tNil) (gName 4))
  (tRet (tOp (rIxL K) (tLst (tCons (tVar 4) (tCons (tOp rMod0 (tOp rSub0 (tOp rAdd0 (tVar 2) (tOp rMod0 (tVar 4) (tC (.int 9)))) (tC (.int 4))) (tVar 1)) (tCons (tOp rMod0 (tOp rAdd0 (tVar 2) (tOp rMod0 (tVar 4) (tC (.int 3)))) (tVar 1)) (tCons (tVar 4) tNil))))) (tVar 3)))))
theorem rd__law_point (K : PySem.W.Frag) (Z : Ad) : ∀ vs H Q E, sp__law_point K Z vs H Q E → t__law_point K Z { nx := fun _ H' => Q .non H', rt := Q } (start (["_law_pot_here", "_law_size_here", "_law_near", "_law_way", "_law_far"]) vs) H := by
  rintro _ H Q E ⟨p, m, n, R, rfl, s, h0, h1, q⟩
  show t__law_point K Z _ [some (.ref p), some (.int m), some (.int n), none, none] H
  unfold t__law_point
  walk_at "go"
  rename_i w H1 w0 w1 s1 r H2 r0 r1 s2 l H3 s3 x hx
  have a1 := Int.emod_nonneg (n + r % 9 - 4) (show m ≠ 0 by omega)
  have a2 := Int.emod_lt_of_pos (n + r % 9 - 4) (show 0 < m by omega)
  have a3 := Int.emod_nonneg (n + r % 3) (show m ≠ 0 by omega)
  have a4 := Int.emod_lt_of_pos (n + r % 3) (show 0 < m by omega)
  exact q _ _ (by omega) (by omega) s3.ent
def t__law_points (K : PySem.W.Frag) (Z : Ad) : TS :=
  (tRet (tLc (iRng1 (tCons (tOp rAdd0 (tC (.int 1)) (tCl (sp__law_take K Z) [.pos 0, .pos 1] [] [] 2 0 (fun _ => E0) (tCons (tVar 0) (tCons (tVar 3) tNil)) tNil)) tNil)) (gName 4) tYes (tCl (sp__law_point K Z) [.pos 0, .pos 1, .pos 2] [] [] 3 0 (fun _ => E0) (tCons (tVar 0) (tCons (tVar 1) (tCons (tVar 2) tNil))) tNil) [4]))
theorem rd__law_points (K : PySem.W.Frag) (Z : Ad) : ∀ vs H Q E, sp__law_points K Z vs H Q E → t__law_points K Z { nx := fun _ H' => Q .non H', rt := Q } (start (["_law_pot_here", "_law_size_here", "_law_near", "_law_room", "_law_k"]) vs) H := by
  rintro _ H Q E ⟨p, m, n, k, R, rfl, s, h0, h1, h2, h3, q⟩
  show t__law_points K Z _ [some (.ref p), some (.int m), some (.int n), some (.int k), none] H
  unfold t__law_points
  walk_at "go"
  rename_i r H1 r0 r1 s1
  refine sc_rng s1 (by omega) (fun i acc L' => ∃ ns : List Int, acc = ns.map V.int ∧ ns.length = i ∧ InSp m ns ∧ L' = ⟨p, PotA⟩ :: R) ⟨[], rfl, rfl, (fun _ z => nomatch z), rfl⟩ ?_ ?_
  · rintro D i acc L' H2 hi ⟨ns, rfl, hl, hn, rfl⟩ _ s2
    dsimp only [wipe, List.set]
    walk_at "go"
    rename_i x H3 x0 x1 s3
    have s4 := s3.ent (L' := ⟨D, Pt (.lst (ns.map V.int))⟩ :: ⟨p, PotA⟩ :: R)
    refine ⟨_, s4.at0, sz_less (by rw [List.length_map]; omega), ⟨ns.map V.int ++ [.int x], _, ⟨ns ++ [x], by rw [List.map_append]; rfl, by rw [List.length_append, List.length_singleton]; omega, fun y hy => ?_, rfl⟩, by rw [List.length_append, List.length_map, List.length_singleton]; omega, s4.put mutO_lst rfl⟩⟩
    rcases List.mem_append.mp hy with hy | hy
    · exact hn y hy
    · rw [List.mem_singleton.mp hy]; exact ⟨x0, x1⟩
  · rintro D acc L' H2 ⟨ns, rfl, hl, hn, rfl⟩ _ s2
    exact q D ns H2 (by omega) (by omega) hn s2
def t__law_size (K : PySem.W.Frag) (Z : Ad) : TS :=
  (tSeq (tAsg (tC (.int 1)) (gName 1))
  (tSeq (tFor (iRng1 (tCons (tVar 0) tNil)) (gName 2) (tAsg (tOp rMul0 (tVar 1) (tC (.int 2))) (gName 1)))
  (tRet (tVar 1))))
theorem rd__law_size (K : PySem.W.Frag) (Z : Ad) : ∀ vs H Q E, sp__law_size K Z vs H Q E → t__law_size K Z { nx := fun _ H' => Q .non H', rt := Q } (start (["_law_wide", "_law_size_here", "_law_turn"]) vs) H := by
  rintro _ H Q E ⟨b, L, rfl, s, h0, h1, q⟩
  show t__law_size K Z _ [some (.int b), none, none] H
  unfold t__law_size
  walk_at "go"
  refine sf_rng s (by omega) (fun i σ' L' => ∃ y : Option V, σ' = [some (.int b), some (.int (2 ^ i)), y] ∧ L' = L) ⟨_, rfl, rfl⟩ ?_ ?_
  · rintro i σ' L' H1 hi ⟨y, rfl, rfl⟩ s1
    have hp : (2 : Int) ^ i ≤ 2 ^ 64 := pow2_le (by omega)
    have hp0 : (0 : Int) < 2 ^ i := Int.pow_pos (by decide)
    walk_at "go"
    exact ⟨_, ⟨_, rfl, rfl⟩, s1⟩
  · rintro σ' L' H1 ⟨y, rfl, rfl⟩ s1
    walk_at "go"
    exact q _ s1
def t__law_base (K : PySem.W.Frag) (Z : Ad) : TS :=
  (tSeq (tAsg (tCl (sp__law_take K Z) [.pos 0, .pos 1] [] [] 2 0 (fun _ => E0) (tCons (tVar 0) (tCons (tVar 1) tNil)) tNil) (gName 3))
  (tSeq (tAsg (tLst tNil) (gName 4))
  (tSeq (tFor (iList K (tOp rCat (tCl (sp__law_points K Z) [.pos 0, .pos 1, .pos 2, .pos 3] [] [] 4 0 (fun _ => E0) (tCons (tVar 0) (tCons (tVar 1) (tCons (tVar 3) (tCons (tC (.int 12)) tNil)))) tNil) (tLstRg (tRg1 (tC (.int 8)))))) (gName 5) (tIfS (tAnd (tTest (tOp (rIn K true) (tVar 5) (tVar 4))) (tOr (tTest (tOp rLe (tCB (rLenS K) (tCons (tVar 4) tNil)) (tVar 2))) (tAnd (tTest (tOp rLt (tCB (rLenS K) (tCons (tVar 4) tNil)) (tC (.int 8)))) (tTest (tOp rGt (tCl (sp__law_take K Z) [.pos 0, .pos 1] [] [] 2 0 (fun _ => E0) (tCons (tVar 0) (tCons (tC (.int 4)) tNil)) tNil) (tC (.int 0))))))) (tDrop (tBM K "list" rAppend (tVar 4) (tCons (tVar 5) tNil))) tNext))
  (tRet (tVar 4)))))
theorem rd__law_base (K : PySem.W.Frag) (Z : Ad) : ∀ vs H Q E, sp__law_base K Z vs H Q E → t__law_base K Z { nx := fun _ H' => Q .non H', rt := Q } (start (["_law_pot_here", "_law_size_here", "_law_room", "_law_near", "_law_found", "_law_point_here"]) vs) H := by
  rintro _ H Q E ⟨p, m, k, R, rfl, s, h0, h1, h2, h3, q⟩
  show t__law_base K Z _ [some (.ref p), some (.int m), some (.int k), none, none, none] H
  unfold t__law_base
  walk_at "go"
  rename_i nr H1 n0 n1 s1 fl H2 s2 pl ps H3 p0 p1 p2 s3
  refine ⟨RgOk.of_le (by decide) (by decide) (by decide) (by decide), fun rl hrl => ?_⟩
  have s4 : Sat Z (⟨rl, LI (rgI 8)⟩ :: _) (upd H3 rl (.lst (rgV 0 8))) := rgV_I (b := 8) ▸ s3.new (o := .lst (rgV 0 8)) hrl (fun _ z => by cases z)
  generalize upd H3 rl (HO.lst (rgV 0 8)) = H4 at *
  have hlen8 : (rgI 8).length = 8 := rgI_len
  walk_at "go"
  rename_i cl H5 s5
  have s6 := s5.ent (L' := ⟨cl, LI (ps ++ rgI 8)⟩ :: ⟨p, PotA⟩ :: ⟨fl, Pt (.lst [])⟩ :: R)
  refine sf_list s6 inferInstance inferInstance (fun i σ' L' => ∃ (y : Option V) (fs : List Int), σ' = [some (.ref p), some (.int m), some (.int k), some (.int nr), some (.ref fl), y] ∧ L' = ⟨p, PotA⟩ :: ⟨fl, LI fs⟩ :: R ∧ InSp m fs ∧ fs.Nodup ∧ fs.length ≤ 8 ∧ (k < fs.length ∨ ∀ x ∈ (ps ++ rgI 8).take i, x ∈ fs)) ?_ ?_ ?_
  · exact ⟨_, [], rfl, rfl, (fun _ z => nomatch z), .nil, Nat.zero_le _, .inr fun _ z => nomatch z⟩
  · rintro i x σ' L' H6 hx ⟨y, fs, rfl, rfl, g1, g2, g3, g4⟩ s7
    obtain ⟨z, hz, rfl⟩ := get_map hx
    have hzin : 0 ≤ z ∧ z < m := by
      rcases List.mem_append.mp (List.mem_of_getElem? hz) with h | h
      · exact p2 z h
      · have := rgI_mem.mp h
        omega
    have tk : ∀ fs' : List Int, (∀ x ∈ fs, x ∈ fs') → z ∈ fs' → (∀ x ∈ (ps ++ rgI 8).take i, x ∈ fs) → ∀ x ∈ (ps ++ rgI 8).take (i + 1), x ∈ fs' := fun fs' h5 h6 h7 x hx => by
      rw [List.take_add_one, hz, Option.toList_some] at hx
      rcases List.mem_append.mp hx with h | h
      · exact h5 x (h7 x h)
      · rw [List.mem_singleton.mp h]; exact h6
    have app : ∀ (H' : Hp) (y : Option V), z ∉ fs → fs.length < 8 → Sat Z (⟨fl, LI (fs ++ [z])⟩ :: ⟨cl, LI (ps ++ rgI 8)⟩ :: ⟨p, PotA⟩ :: R) H' → ∃ L', (∃ (y : Option V) (fs : List Int), [some (.ref p), some (.int m), some (.int k), some (.int nr), some (.ref fl), some (.int z)] = [some (.ref p), some (.int m), some (.int k), some (.int nr), some (.ref fl), y] ∧ L' = ⟨p, PotA⟩ :: ⟨fl, LI fs⟩ :: R ∧ InSp m fs ∧ fs.Nodup ∧ fs.length ≤ 8 ∧ (k < fs.length ∨ ∀ x ∈ (ps ++ rgI 8).take (i + 1), x ∈ fs)) ∧ Sat Z (⟨cl, LI (ps ++ rgI 8)⟩ :: L') H' := fun H' y hn hl s8 => by
      refine ⟨_, ⟨_, fs ++ [z], rfl, rfl, fun x hx => ?_, List.nodup_append.mpr ⟨g2, by simp, fun x hx y hy => by rw [List.mem_singleton.mp hy]; exact fun e => hn (e ▸ hx)⟩, by rw [List.length_append, List.length_singleton]; omega, ?_⟩, s8.ent⟩
      · rcases List.mem_append.mp hx with h | h
        · exact g1 x h
        · rw [List.mem_singleton.mp h]; exact hzin
      · rcases g4 with g4 | g4
        · exact .inl (by rw [List.length_append, List.length_singleton]; omega)
        · exact .inr (tk _ (fun x hx => List.mem_append_left _ hx) (by simp) g4)
    have keep : ∀ (H' : Hp), (k < fs.length ∨ z ∈ fs) → Sat Z (⟨cl, LI (ps ++ rgI 8)⟩ :: ⟨p, PotA⟩ :: ⟨fl, LI fs⟩ :: R) H' → ∃ L', (∃ (y : Option V) (fs : List Int), [some (.ref p), some (.int m), some (.int k), some (.int nr), some (.ref fl), some (.int z)] = [some (.ref p), some (.int m), some (.int k), some (.int nr), some (.ref fl), y] ∧ L' = ⟨p, PotA⟩ :: ⟨fl, LI fs⟩ :: R ∧ InSp m fs ∧ fs.Nodup ∧ fs.length ≤ 8 ∧ (k < fs.length ∨ ∀ x ∈ (ps ++ rgI 8).take (i + 1), x ∈ fs)) ∧ Sat Z (⟨cl, LI (ps ++ rgI 8)⟩ :: L') H' := fun H' hk s8 => by
      refine ⟨_, ⟨_, fs, rfl, rfl, g1, g2, g3, ?_⟩, s8⟩
      rcases hk with hk | hk
      · exact .inl hk
      · exact g4.imp (fun h => h) fun h => tk fs (fun _ h => h) hk h
    walk_at "go"
    refine g_iteN (fun c => ?_) fun c => ?_
    · walk_at "go"
      refine g_ite (fun c2 => ?_) fun c2 => ?_
      · walk_at "go"
        exact app _ none c (by omega) (by assumption)
      · walk_at "go"
        refine g_ite (fun c3 => ?_) fun c3 => ?_
        · walk_at "go"
          rename_i t H7 t0 t1 s8
          refine g_ite (fun c4 => ?_) fun c4 => ?_
          · walk_at "go"
            rename_i H8 s9
            exact app _ none c (by omega) s9.ent
          · walk_at "go"
            exact keep _ (.inl (by omega)) s8.ent
        · walk_at "go"
          exact keep _ (.inl (by omega)) s7
    · walk_at "go"
      exact keep _ (.inr c) s7
  · rintro σ' L' H6 ⟨y, fs, rfl, rfl, g1, g2, g3, g4⟩ s7
    have hk : k < fs.length := by
      rcases g4 with g4 | g4
      · exact g4
      · rw [List.take_of_length_le (by rw [List.length_map]; exact Nat.le_refl _)] at g4
        have := nodup_le3 (rgI_nd (b := 8)) fun x hx => g4 x (List.mem_append_right _ hx)
        omega
    walk_at "go"
    exact q fl fs H6 hk g3 g1 g2 s7.ent
def t__law_up (K : PySem.W.Frag) (Z : Ad) : TS :=
  (tRet (tLc (iList K (tCB (rSortedPO K) (tCons (tLc (iList K (tVar 1)) (gName 4) tYes (tTup (tCons (tOp rMod0 (tOp rSub0 (tVar 4) (tVar 2)) (tVar 0)) (tCons (tVar 4) tNil))) [4]) tNil))) (gName 3) tYes (tOp (rIxT K) (tVar 3) (tC (.int 1))) [3]))
theorem rd__law_up (K : PySem.W.Frag) (Z : Ad) : ∀ vs H Q E, sp__law_up K Z vs H Q E → t__law_up K Z { nx := fun _ H' => Q .non H', rt := Q } (start (["_law_size_here", "_law_names", "_law_here", "_law_pair", "_law_name"]) vs) H := by
  rintro _ H Q E ⟨l, m, here, ns, R, rfl, s, h0, h1, h2, h3, q⟩
  show t__law_up K Z _ [some (.int m), some (.ref l), some (.int here), none, none] H
  unfold t__law_up
  walk_at "go"
  refine sc_list s inferInstance inferInstance (fun i acc L' => ∃ ts : List Addr, acc = ts.map V.ref ∧ ts.length = i ∧ L' = pAt ts ((ns.take i).map fun n => ((n - here) % m, n)) ++ R) ⟨[], rfl, rfl, rfl⟩ ?_ ?_
  · rintro D i x acc L' H1 hx ⟨ts, rfl, hl, rfl⟩ _ s1
    obtain ⟨z, hz, rfl⟩ := get_map hx
    have hi := (List.getElem?_eq_some_iff.mp hz).1
    dsimp only [wipe, List.set]
    walk_at "go"
    rename_i t H2 s2
    have s3 := s2.ent (L' := ⟨D, Pt (.lst (ts.map V.ref))⟩ :: ⟨l, LI ns⟩ :: ⟨t, Pt (.tup [.int ((z - here) % m), .int z])⟩ :: (pAt ts ((ns.take i).map fun n => ((n - here) % m, n)) ++ R))
    have s4 := s3.perm (L' := ⟨D, Pt (.lst (ts.map V.ref))⟩ :: ⟨l, LI ns⟩ :: (pAt (ts ++ [t]) ((ns.take (i + 1)).map fun n => ((n - here) % m, n)) ++ R)) (by
      rw [List.take_add_one, hz, Option.toList_some, List.map_append, List.map_singleton, pAt_add (by rw [List.length_map, List.length_take]; omega), List.append_assoc]
      iterate 2 refine List.Perm.cons _ ?_
      exact List.perm_middle.symm)
    exact ⟨_, s4.at0, sz_less (by rw [List.length_map]; omega), ⟨ts.map V.ref ++ [.ref t], _, ⟨_, rfl, ts ++ [t], by rw [List.map_append]; rfl, by rw [List.length_append, List.length_singleton]; omega, rfl⟩, by rw [List.length_append, List.length_map, List.length_singleton]; omega, s4.put mutO_lst rfl⟩⟩
  · rintro D acc L' H1 ⟨ts, rfl, hl, rfl⟩ _ s1
    rw [List.length_map] at hl s1
    rw [List.take_of_length_le (Nat.le_refl _)] at s1
    walk_at "go"
    refine s_sortP s1 inferInstance (by rw [List.length_map, hl]) (pAt_at s1.tail.tail) fun zs l2 H2 pz hz s2 => ?_
    have hz2 : ∀ z ∈ zs, z.2.1 = (z.2.2 - here) % m := fun z h => by
      have := List.of_mem_zip (pz.mem_iff.mp h)
      obtain ⟨n, _, e⟩ := List.mem_map.mp this.2
      rw [← e]
    have e1 : zs.map (fun z => z.2.2) = upwP m here ns := by
      refine sortK_uniq ?_ ?_ fun x hx y hy e => dist_inj2 (h2 x hx) (h2 y hy) e
      · have := pz.map fun z => z.2.2
        have e2 : (ts.zip (ns.map fun n => ((n - here) % m, n))).map (fun z => z.2.2) = ns := by
          rw [show (fun z : Addr × Int × Int => z.2.2) = (fun p : Int × Int => p.2) ∘ Prod.snd from rfl, ← List.map_map, List.map_snd_zip (by rw [List.length_map]; omega), List.map_map]
          exact List.map_id' _
        rwa [e2] at this
      · refine List.pairwise_map.mpr (hz.imp_of_mem fun {a b} ha hb h => ?_)
        rw [← hz2 a ha, ← hz2 b hb]
        exact h
    have hzl : zs.length ≤ 1000 := by rw [pz.length_eq, List.length_zip]; omega
    walk_at "go"
    refine fm_list s2 inferInstance inferInstance zs (fun z => V.ref z.1) rfl (fun _ => true) (fun z => .int z.2.2) (fun D2 i z H3 hzi s3 => ?_) (fin_mpI fun D2 H3 s3 => ?_)
    · dsimp only [wipe, List.set]
      walk_at "go"
      have ht := pAt_at s3.tail.tail.tail.tail z (pz.mem_iff.mp (List.mem_of_getElem? hzi))
      refine ⟨z.1, _, 1, .int z.2.2, rfl, rfl, SqT.of ht, at_1, ?_⟩
      walk_at "go"
      exact fm_yes hzi rfl rfl s3 inferInstance (by omega)
    · rw [e1] at s3
      exact q D2 H3 (SatI.ent (L := ⟨D2, LI (upwP m here ns)⟩ :: _) s3)
def t__law_asked (K : PySem.W.Frag) (Z : Ad) : TS :=
  (tSeq (tAsg (tLst tNil) (gName 3))
  (tSeq (tFor (iList K (tVar 2)) (gName 4) (tAsg (tOp rCat (tVar 3) (tLst (tCons (tVar 4) (tCons (tOp rMod0 (tOp rSub0 (tOp rAdd0 (tVar 4) (tCl (sp__law_take K Z) [.pos 0, .pos 1] [] [] 2 0 (fun _ => E0) (tCons (tVar 0) (tCons (tC (.int 3)) tNil)) tNil)) (tC (.int 1))) (tVar 1)) tNil)))) (gName 3)))
  (tRet (tOp rCat (tVar 3) (tLc (iRng1 (tCons (tC (.int 4)) tNil)) (gName 5) tYes (tCl (sp__law_take K Z) [.pos 0, .pos 1] [] [] 2 0 (fun _ => E0) (tCons (tVar 0) (tCons (tVar 1) tNil)) tNil) [5])))))
theorem rd__law_asked (K : PySem.W.Frag) (Z : Ad) : ∀ vs H Q E, sp__law_asked K Z vs H Q E → t__law_asked K Z { nx := fun _ H' => Q .non H', rt := Q } (start (["_law_pot_here", "_law_size_here", "_law_names", "_law_found", "_law_name", "_law_k"]) vs) H := by
  rintro _ H Q E ⟨p, l, m, ns, R, rfl, s, h0, h1, h2, h3, q⟩
  show t__law_asked K Z _ [some (.ref p), some (.int m), some (.ref l), none, none, none] H
  unfold t__law_asked
  walk_at "go"
  rename_i fl H1 s1
  refine sf_list (p := l) s1 inferInstance inferInstance (fun i σ' L' => ∃ (y : Option V) (f : Addr) (fs : List Int) (G : List Atom), σ' = [some (.ref p), some (.int m), some (.ref l), some (.ref f), y, none] ∧ L' = ⟨f, LI fs⟩ :: ⟨p, PotA⟩ :: R ∧ InSp m fs ∧ fs.length = 2 * i) ?_ ?_ ?_
  · exact ⟨_, fl, [], [], rfl, rfl, (fun _ z => nomatch z), rfl⟩
  · rintro i x σ' L' H2 hx ⟨y, f, fs, G, rfl, rfl, hf, hl⟩ s2
    obtain ⟨z, hz, rfl⟩ := get_map hx
    have hi := (List.getElem?_eq_some_iff.mp hz).1
    have hzm := h3 z (List.mem_of_getElem? hz)
    walk_at "go"
    rename_i r H3 r0 r1 s3 l3 H4 s4 l4 H5 s5
    have a1 := Int.emod_nonneg (z + r - 1) (show m ≠ 0 by omega)
    have a2 := Int.emod_lt_of_pos (z + r - 1) (show 0 < m by omega)
    refine ⟨_, ⟨_, l4, fs ++ [z, (z + r - 1) % m], [], rfl, rfl, fun x hx => ?_, by rw [List.length_append, hl]; show 2 * i + 2 = 2 * (i + 1); omega⟩, s5.ent⟩
    rcases List.mem_append.mp hx with h | h
    · exact hf x h
    · rcases List.mem_cons.mp h with rfl | h
      · exact hzm
      · rw [List.mem_singleton.mp h]; exact ⟨a1, a2⟩
  · rintro σ' L' H2 ⟨y, f, fs, G, rfl, rfl, hf, hl⟩ s2
    rw [List.length_map] at hl
    walk_at "go"
    refine sc_rng s2 (by omega) (fun i acc L' => ∃ ms : List Int, acc = ms.map V.int ∧ ms.length = i ∧ InSp m ms ∧ L' = ⟨l, LI ns⟩ :: ⟨f, LI fs⟩ :: ⟨p, PotA⟩ :: R) ?_ ?_ ?_
    · exact ⟨[], rfl, rfl, (fun _ z => nomatch z), rfl⟩
    · rintro D i acc L' H3 hi ⟨ms, rfl, hl2, hn, rfl⟩ _ s3
      dsimp only [wipe, List.set]
      walk_at "go"
      rename_i x H4 x0 x1 s4
      have s5 := s4.ent (L' := ⟨D, Pt (.lst (ms.map V.int))⟩ :: ⟨l, LI ns⟩ :: ⟨f, LI fs⟩ :: ⟨p, PotA⟩ :: R)
      refine ⟨_, s5.at0, sz_less (by rw [List.length_map]; omega), ⟨ms.map V.int ++ [.int x], _, ⟨ms ++ [x], by rw [List.map_append]; rfl, by rw [List.length_append, List.length_singleton]; omega, fun y hy => ?_, rfl⟩, by rw [List.length_append, List.length_map, List.length_singleton]; omega, s5.put mutO_lst rfl⟩⟩
      rcases List.mem_append.mp hy with hy | hy
      · exact hn y hy
      · rw [List.mem_singleton.mp hy]; exact ⟨x0, x1⟩
    · rintro D acc L' H3 ⟨ms, rfl, hl2, hn, rfl⟩ _ s3
      have hl2 : ms.length = 4 := hl2
      walk_at "go"
      rename_i l5 H4 s4
      refine q l5 (fs ++ ms) H4 (fun x hx => ?_) (by rw [List.length_append]; omega) (by rw [List.length_append]; omega) s4.ent
      rcases List.mem_append.mp hx with h | h
      · exact hf x h
      · exact hn x h
end NN
namespace NN
open PySem L2
local macro_rules | `(tactic| walk_at "nl") => `(tactic| first | with_reducible assumption | omega | (simp only [List.length_map, List.length_cons, List.length_nil, List.length_append, List.length_reverse, List.length_take, List.length_drop] <;> omega) | decide)
local macro_rules | `(tactic| walk_at "ar") => `(tactic| first | omega | (simp only [List.length_cons, List.length_nil] <;> omega) | (simp only [List.length_cons, List.length_nil, List.length_append, List.length_map, List.length_set, List.length_take, List.length_drop, List.length_reverse] <;> omega) | decide)
local macro_rules | `(tactic| walk_at "cond") => `(tactic| first | assumption | exact c_mulB | (exact c_mulL (by walk_at "nl") (by walk_at "nl")) | (exact c_mulR (by walk_at "nl") (by walk_at "nl")) | (exact c_divW (by walk_at "nl") (by walk_at "nl")) | (exact c_pow (by walk_at "nl") (by walk_at "nl") (by walk_at "nl")) | walk_at "nl")
local macro_rules | `(tactic| walk_at "sz") => `(tactic| first | exact sz_small (by simp only [List.length_cons, List.length_nil]; decide) | exact sz_small (by decide) | exact sz_small (by walk_at "ar"))
local macro_rules | `(tactic| walk_at "sl") => `(tactic| first | exact sz_less (by walk_at "ar"))
local macro_rules | `(tactic| walk_at "at") => `(tactic| first | assumption | exact at_0 | exact at_1 | exact at_2 | exact at_3 | exact at_4 | exact at_5 | exact at_6 | exact at_7 | exact at_8 | exact at_9 | exact at_10 | exact at_11 | exact at_12 | exact at_13 | exact at_14 | exact at_15 | exact atI_nat (by assumption))
local macro_rules | `(tactic| walk_at "flat") => `(tactic| first | exact ints_flat _ | rfl | assumption | decide)
local macro_rules | `(tactic| walk_at "ixn") => `(tactic| first | with_unfolding_all rfl | exact ixN_lit (j := 0) rfl (by walk_at "ar") | exact ixN_nat (by walk_at "ar"))
local macro_rules | `(tactic| walk_at "sat") => `(tactic| first | assumption | exact SatI.ent (by assumption))
local macro_rules | `(tactic| walk_at "hat") => `(tactic| first | with_reducible assumption | exact SatI.at (by assumption))
local macro_rules | `(tactic| walk_at "lt") => `(tactic| first | decide | (simp only [List.length_cons, List.length_nil]; decide))
local macro_rules | `(tactic| walk_at "putf") => `(tactic| (simp (decide := true) only [putF, if_true, if_false]) <;> rfl)
local macro_rules | `(tactic| walk_at "lkr") => `(tactic| exact fun _ _ _ _ => rfl)
local macro_rules | `(tactic| walk_at "ok") => `(tactic| first | assumption | decide +kernel)
local macro_rules | `(tactic| walk_at "lkk") => `(tactic| exact fun _ => rfl)
local macro_rules | `(tactic| walk_at "lkf") => `(tactic| exact fun _ _ => rfl)
local macro_rules | `(tactic| walk_at "dval") => `(tactic| first | assumption | rfl)
local macro_rules | `(tactic| walk_at "fm") => `(tactic| first | exact fm_yes (by assumption) (by first | rfl | assumption) rfl (by assumption) inferInstance (by walk_at "ar") | exact fm_no (by assumption) (by first | rfl | assumption) (by assumption) inferInstance)
local macro_rules | `(tactic| walk_at "call") => `(tactic| fail)
local macro_rules | `(tactic| walk_at "call2") => `(tactic| fail)
local macro_rules | `(tactic| walk_at "go1") => `(tactic| first | ((with_reducible refine Stp.imp ?_)) | (((with_reducible refine' g_eqc ?h0 ?_); (case h0 => rfl))) | (((with_reducible refine' g_I ?h0 ?_); (case h0 => walk_at "cond"))) | (((with_reducible refine' g_eq ?h0 ?_); (case h0 => with_unfolding_all rfl))) | (((with_reducible refine' g_ne ?h0 ?_); (case h0 => with_unfolding_all rfl))) | (((with_reducible refine' g_sz ?h0 ?_); (case h0 => walk_at "sz"); intro p hp; generalize hg : upd _ p _ = H2; (first | have hs := sat_newLI hg hp (by with_reducible assumption) inferInstance | have hs := sat_newL hg hp (by with_reducible assumption) | have hs := sat_newT hg hp (by with_reducible assumption)); clear hg hp)) | (((with_reducible refine' s_lenI ?h0 ?h1 ?h2 ?h3 ?_); (case h0 => with_reducible assumption); (case h1 => infer_instance); (case h2 => infer_instance); (case h3 => infer_instance))) | (((with_reducible refine' s_lenL ?h0 ?h1 ?h2 ?_); (case h0 => with_reducible assumption); (case h1 => infer_instance); (case h2 => infer_instance))) | (((with_reducible refine' s_lenT ?h0 ?h1 ?_); (case h0 => with_reducible assumption); (case h1 => infer_instance))) | (((with_reducible refine' s_listL ?h0 ?h1 ?h2 ?_); (case h0 => with_reducible assumption); (case h1 => infer_instance); (case h2 => infer_instance); intro _ _ _)) | (((with_reducible refine' s_listT ?h0 ?h1 ?_); (case h0 => with_reducible assumption); (case h1 => infer_instance); intro _ _ _)) | (((with_reducible refine' s_slTo ?h0 ?h1 ?h2 ?h3 ?h4 ?_); (case h0 => with_reducible assumption); (case h1 => infer_instance); (case h2 => infer_instance); (case h3 => infer_instance); (case h4 => walk_at "nl"); intro _ _ _)) | (((with_reducible refine' s_slFrom ?h0 ?h1 ?h2 ?h3 ?h4 ?_); (case h0 => with_reducible assumption); (case h1 => infer_instance); (case h2 => infer_instance); (case h3 => infer_instance); (case h4 => walk_at "nl"); intro _ _ _)) | (((with_reducible refine' s_slLast ?h0 ?h1 ?h2 ?h3 ?_); (case h0 => with_reducible assumption); (case h1 => infer_instance); (case h2 => infer_instance); (case h3 => infer_instance); intro _ _ _)) | (((with_reducible refine' s_slMid ?h0 ?h1 ?h2 ?h3 ?h4 ?h5 ?_); (case h0 => with_reducible assumption); (case h1 => infer_instance); (case h2 => infer_instance); (case h3 => infer_instance); (case h4 => walk_at "nl"); (case h5 => walk_at "nl"); intro _ _ _)) | (((with_reducible refine' s_sum ?h0 ?h1 ?h2 ?h3 ?_); (case h0 => with_reducible assumption); (case h1 => infer_instance); (case h2 => infer_instance); (case h3 => infer_instance))) | (((with_reducible refine' s_slL ?h0 ?h1 ?h2 ?_); (case h0 => with_reducible assumption); (case h1 => infer_instance); (case h2 => infer_instance); intro _ _ _)) | (((with_reducible refine' s_ixL ?h0 ?h1 ?h2 ?h3 ?_); (case h0 => with_reducible assumption); (case h1 => infer_instance); (case h2 => infer_instance); (case h3 => walk_at "at"))) | (((with_reducible refine' s_ixLast ?h0 ?h1 ?h2 ?h3 ?h4 ?_); (case h0 => with_reducible assumption); (case h1 => infer_instance); (case h2 => infer_instance); (case h3 => infer_instance); (case h4 => assumption))) | (((with_reducible refine' s_ixIn ?h0 ?h1 ?h2 ?h3 ?h4 ?h5 ?_); (case h0 => with_reducible assumption); (case h1 => infer_instance); (case h2 => infer_instance); (case h3 => infer_instance); (case h4 => walk_at "nl"); (case h5 => walk_at "nl"); intro n hn; (try simp only [List.mem_cons, List.not_mem_nil, or_false] at hn))) | (((with_reducible refine' s_ixT ?h0 ?h1 ?h2 ?_); (case h0 => with_reducible assumption); (case h1 => infer_instance); (case h2 => walk_at "at"))) | (((with_reducible refine' s_inI ?h0 ?h1 ?h2 ?h3 ?_); (case h0 => with_reducible assumption); (case h1 => infer_instance); (case h2 => infer_instance); (case h3 => infer_instance))) | (((with_reducible refine' s_ninI ?h0 ?h1 ?h2 ?h3 ?_); (case h0 => with_reducible assumption); (case h1 => infer_instance); (case h2 => infer_instance); (case h3 => infer_instance))) | (((with_reducible refine' s_in ?h0 ?h1 ?h2 ?h3 ?h4 ?_); (case h0 => with_reducible assumption); (case h1 => infer_instance); (case h2 => infer_instance); (case h3 => with_unfolding_all rfl); (case h4 => walk_at "flat"))) | (((with_reducible refine' s_setLI ?h0 ?h1 ?h2 ?h3 ?_); (case h0 => with_reducible assumption); (case h1 => infer_instance); (case h2 => infer_instance); (case h3 => walk_at "ixn"); intro _ _)) | (((with_reducible refine' s_setL ?h0 ?h1 ?h2 ?_); (case h0 => with_reducible assumption); (case h1 => infer_instance); (case h2 => with_unfolding_all rfl); intro _ _)) | (((with_reducible refine' s_appendI ?h0 ?h1 ?h2 ?h3 ?_); (case h0 => with_reducible assumption); (case h1 => infer_instance); (case h2 => infer_instance); (case h3 => walk_at "sl"); intro _ _)) | (((with_reducible refine' s_append ?h0 ?h1 ?h2 ?_); (case h0 => with_reducible assumption); (case h1 => infer_instance); (case h2 => walk_at "sl"); intro _ _)) | (((with_reducible refine' s_tyL ?h0 ?h1 ?h2 ?_); (case h0 => with_reducible assumption); (case h1 => infer_instance); (case h2 => infer_instance))) | (((with_reducible refine' s_catI ?h0 ?h1 ?h2 ?h3 ?h4 ?h5 ?_); (case h0 => with_reducible assumption); (case h1 => infer_instance); (case h2 => infer_instance); (case h3 => infer_instance); (case h4 => infer_instance); (case h5 => walk_at "sz"); intro _ _ _)) | (((with_reducible refine' s_cat ?h0 ?h1 ?h2 ?h3 ?_); (case h0 => with_reducible assumption); (case h1 => infer_instance); (case h2 => infer_instance); (case h3 => walk_at "sz"); intro _ _ _)) | (((with_reducible refine' s_sorted ?h0 ?h1 ?h2 ?h3 ?_); (case h0 => with_reducible assumption); (case h1 => infer_instance); (case h2 => infer_instance); (case h3 => infer_instance); intro _ _ _)) | (((with_reducible refine' s_eqL ?h0 ?h1 ?h2 ?h3 ?h4 ?h5 ?h6 ?_); (case h0 => with_reducible assumption); (case h1 => infer_instance); (case h2 => infer_instance); (case h3 => infer_instance); (case h4 => infer_instance); (case h5 => infer_instance); (case h6 => infer_instance))) | (((with_reducible refine' s_neL ?h0 ?h1 ?h2 ?h3 ?h4 ?h5 ?h6 ?_); (case h0 => with_reducible assumption); (case h1 => infer_instance); (case h2 => infer_instance); (case h3 => infer_instance); (case h4 => infer_instance); (case h5 => infer_instance); (case h6 => infer_instance))) | (((with_reducible refine' s_isLL ?h0 ?h1 ?_); (case h0 => with_reducible assumption); (case h1 => infer_instance))) | (((with_reducible refine' s_revI ?h0 ?h1 ?h2 ?h3 ?_); (case h0 => with_reducible assumption); (case h1 => infer_instance); (case h2 => infer_instance); (case h3 => infer_instance); intro _ _ _)) | (((with_reducible refine' s_revL ?h0 ?h1 ?h2 ?_); (case h0 => with_reducible assumption); (case h1 => infer_instance); (case h2 => infer_instance); intro _ _ _)) | (((with_reducible refine' s_insertI ?h0 ?h1 ?h2 ?h3 ?h4 ?h5 ?_); (case h0 => with_reducible assumption); (case h1 => infer_instance); (case h2 => infer_instance); (case h3 => walk_at "sl"); (case h4 => walk_at "nl"); (case h5 => walk_at "nl"); intro _ _)) | (((with_reducible refine' s_all ?h0 ?h1 ?_); (case h0 => with_reducible assumption); (case h1 => infer_instance))) | (((with_reducible refine' s_any ?h0 ?h1 ?_); (case h0 => with_reducible assumption); (case h1 => infer_instance))) | (((with_reducible refine' s_idx ?h0 ?h1 ?h2 ?h3 ?h4 ?_); (case h0 => with_reducible assumption); (case h1 => infer_instance); (case h2 => infer_instance); (case h3 => infer_instance); (case h4 => assumption))) | (((with_reducible refine' g_fld ?h0 ?h1 ?h2 ?h3 ?_); (case h0 => walk_at "hat"); (case h1 => with_reducible assumption); (case h2 => with_reducible assumption); (case h3 => with_unfolding_all rfl))) | (((with_reducible refine' s_sfld ?h0 ?h1 ?h2 ?h3 ?h4 ?h5 ?h6 ?_); (case h0 => with_reducible assumption); (case h1 => infer_instance); (case h2 => with_reducible assumption); (case h3 => with_reducible assumption); (case h4 => with_reducible assumption); (case h5 => walk_at "lt"); (case h6 => walk_at "putf"); intro _ _)) | (((with_reducible refine' s_ins ?h0 ?h1 ?h2 ?_); (case h0 => with_reducible assumption); (case h1 => infer_instance); (case h2 => with_unfolding_all rfl))) | (((with_reducible refine' s_dget ?h0 ?h1 ?h2 ?h3 ?_); (case h0 => with_reducible assumption); (case h1 => infer_instance); (case h2 => infer_instance); (case h3 => walk_at "dval"))) | (((with_reducible refine' s_din ?h0 ?h1 ?h2 ?_); (case h0 => with_reducible assumption); (case h1 => infer_instance); (case h2 => infer_instance))) | (((with_reducible refine' s_dnotin ?h0 ?h1 ?h2 ?_); (case h0 => with_reducible assumption); (case h1 => infer_instance); (case h2 => infer_instance))) | (((with_reducible refine' s_dput ?h0 ?h1 ?h2 ?h3 ?_); (case h0 => with_reducible assumption); (case h1 => infer_instance); (case h2 => infer_instance); (case h3 => walk_at "sl"); intro _ _)) | ((intro p hp; generalize hg : upd _ p (HO.dK []) = H2; have hs := sat_newD hg hp (by with_reducible assumption); clear hg hp)) | (((with_reducible refine' s_divmod ?h0 ?h1 ?h2 ?_); (case h0 => with_reducible assumption); (case h1 => walk_at "nl"); (case h2 => walk_at "nl"); intro _ _ _)) | (((with_reducible refine' s_gtup ?h0 ?h1 ?h2 ?_); (case h0 => with_reducible assumption); (case h1 => infer_instance); (case h2 => with_unfolding_all rfl))) | walk_at "call" | walk_at "call2")
local macro_rules | `(tactic| walk_at "go") => `(tactic| (repeat walk_at "go1"); (try dsimp only))
local macro_rules | `(tactic| walk_at "on") => `(tactic| (with_reducible refine g_seq ?_); walk_at "go")
local macro_rules | `(tactic| walk_at "ifs") => `(tactic| ((try simp only [List.length_map]) <;> (repeat' split) <;> omega))
local macro_rules | `(tactic| walk_at "spa") => `(tactic| first | assumption | exact sat_spH (by assumption) inferInstance)
local macro_rules | `(tactic| walk_at "th") => `(tactic| first | exact Th.int | exact Th.bl | exact Th.non | exact Th.str | assumption | exact Th.lst (SatI.at (by assumption)) | exact Th.tup (SatI.at (by assumption)) | exact Th.dK (SatI.at (by assumption)))
local macro_rules | `(tactic| walk_at "call2") => `(tactic| first
  | ((with_reducible refine' use_whole ?e ?h0 ?_); (case e => rfl); (case h0 => walk_at "th"))
  | ((with_reducible refine' use_make ?e ?h0 ?h1 ?h2 ?_); (case e => exact fun _ => rfl); (case h0 => assumption); (case h1 => walk_at "nl"); (case h2 => walk_at "nl"); intro _ _ _)
  | ((with_reducible refine' use_bits ?e ?h0 ?_); (case e => rfl); (case h0 => walk_at "spa"))
  | ((with_reducible refine' use_size ?e ?h0 ?_); (case e => rfl); (case h0 => walk_at "spa"))
  | ((with_reducible refine' use_has ?e ?h0 ?h1 ?_); (case e => rfl); (case h0 => walk_at "spa"); (case h1 => walk_at "th"))
  | ((with_reducible refine' use_distance ?e ?h0 ?_); (case e => rfl); (case h0 => walk_at "spa"))
  | ((with_reducible refine' use_between ?e ?h0 ?_); (case e => rfl); (case h0 => walk_at "spa"))
  | ((with_reducible refine' use_nearest ?e ?h0 ?h1 ?h2 ?h3 ?h4 ?_); (case e => rfl); (case h0 => walk_at "spa"); (case h1 => assumption); (case h2 => infer_instance); (case h3 => infer_instance); (case h4 => walk_at "nl"); intro _ _ _ _)
  | ((with_reducible refine' use_preceding ?e ?h0 ?h1 ?h2 ?h3 ?h4 ?_); (case e => rfl); (case h0 => walk_at "spa"); (case h1 => assumption); (case h2 => infer_instance); (case h3 => infer_instance); (case h4 => walk_at "nl"); intro _ _ _ _)
  | ((with_reducible refine' s_insS ?h0 ?h1 ?h2 ?_); (case h0 => assumption); (case h1 => infer_instance); (case h2 => rfl))
  | ((with_reducible refine' h_insS ?h0 ?h2 ?_); (case h0 => assumption); (case h2 => rfl)))
local macro_rules | `(tactic| walk_at "call2") => `(tactic| first
  | ((with_reducible refine' use_Node ?e ?h0 ?h1 ?h2 ?h3 ?h4 ?h5 ?_); (case e => exact fun _ => rfl); (case h0 => assumption); (case h1 => infer_instance); (case h2 => infer_instance); (case h3 => infer_instance); (case h4 => infer_instance); (case h5 => infer_instance); intro _ _ _)
  | ((with_reducible refine' use_upwards ?e ?h0 ?h1 ?h2 ?h3 ?_); (case e => rfl); (case h0 => walk_at "spa"); (case h1 => assumption); (case h2 => infer_instance); (case h3 => infer_instance); intro _ _ _)
  | ((with_reducible refine' use_others ?e ?h0 ?h1 ?h2 ?h3 ?h4 ?_); (case e => rfl); (case h0 => walk_at "spa"); (case h1 => assumption); (case h2 => infer_instance); (case h3 => infer_instance); (case h4 => walk_at "nl"); intro _ _ _)
  | ((with_reducible refine' use_farpt ?e ?h0 ?h1 ?h2 ?_); (case e => rfl); (case h0 => walk_at "spa"); (case h1 => walk_at "nl"); (case h2 => walk_at "nl"))
  | ((with_reducible refine' use_rchain ?e ?h0 ?h1 ?h2 ?h3 ?h4 ?h5 ?_); (case e => rfl); (case h0 => walk_at "spa"); (case h1 => assumption); (case h2 => infer_instance); (case h3 => infer_instance); (case h4 => walk_at "nl"); (case h5 => walk_at "nl"); intro _ _ _)
  | ((with_reducible refine' use_rfar ?e ?h0 ?h1 ?h2 ?h3 ?h4 ?_); (case e => rfl); (case h0 => walk_at "spa"); (case h1 => assumption); (case h2 => infer_instance); (case h3 => infer_instance); (case h4 => walk_at "nl"); intro _ _ _)
  | ((with_reducible refine' use_rnode ?e ?h0 ?h1 ?h2 ?h3 ?h4 ?h5 ?h6 ?_); (case e => rfl); (case h0 => walk_at "spa"); (case h1 => assumption); (case h2 => infer_instance); (case h3 => infer_instance); (case h4 => walk_at "nl"); (case h5 => walk_at "nl"); (case h6 => walk_at "nl"); intro _ _ _)
  | ((with_reducible refine' use_islen ?e ?h0 ?_); (case e => rfl); (case h0 => walk_at "th"))
  | ((with_reducible refine' use_arebase ?e ?h0 ?h1 ?h2 ?h3 ?h4 ?h5 ?h6 ?_); (case e => rfl); (case h0 => walk_at "spa"); (case h1 => assumption); (case h2 => infer_instance); (case h3 => infer_instance); (case h4 => assumption); (case h5 => assumption); (case h6 => assumption); intro _ _)
  | ((with_reducible refine' use_spaceof ?e ?h0 ?h1 ?h2 ?_); (case e => rfl); (case h0 => assumption); (case h1 => walk_at "nl"); (case h2 => walk_at "nl"); intro _ _ _)
  | ((with_reducible refine' use_Ring ?e ?h0 ?h1 ?h2 ?h3 ?h4 ?h5 ?h6 ?h7 ?h8 ?h9 ?h10 ?_); (case e => exact fun _ => rfl); (case h0 => assumption); (case h1 => infer_instance); (case h2 => infer_instance); (case h3 => walk_at "nl"); (case h4 => walk_at "nl"); (case h5 => walk_at "nl"); (case h6 => walk_at "nl"); (case h7 => walk_at "nl"); (case h8 => walk_at "nl"); (case h9 => assumption); (case h10 => assumption); intro _ _ _ _)
  | ((with_reducible refine' use_rspace ?e ?h0 ?h1 ?_); (case e => rfl); (case h0 => assumption); (case h1 => infer_instance); intro _ _)
  | ((with_reducible refine' use_rlength ?e ?h0 ?h1 ?_); (case e => rfl); (case h0 => assumption); (case h1 => infer_instance))
  | ((with_reducible refine' use_rbase ?e ?h0 ?h1 ?_); (case e => rfl); (case h0 => assumption); (case h1 => infer_instance); intro _ _ _)
  | ((with_reducible refine' use_rdeeds ?e ?h0 ?h1 ?_); (case e => rfl); (case h0 => assumption); (case h1 => infer_instance); intro _ _ _)
  | ((with_reducible refine' use_rmembers ?e ?h0 ?h1 ?_); (case e => rfl); (case h0 => assumption); (case h1 => infer_instance); intro _ _ _ _)
  | ((with_reducible refine' use_rmem ?e ?h0 ?h1 ?h2 ?_); (case e => rfl); (case h0 => assumption); (case h1 => infer_instance); (case h2 => walk_at "th"))
  | ((with_reducible refine' use_rnod ?e ?h0 ?h1 ?h2 ?_); (case e => rfl); (case h0 => assumption); (case h1 => infer_instance); (case h2 => assumption))
  | ((with_reducible refine' use_rlinks ?e ?h0 ?h1 ?h2 ?_); (case e => rfl); (case h0 => assumption); (case h1 => infer_instance); (case h2 => assumption); intro _ _ _)
  | ((with_reducible refine' use_rfingers ?e ?h0 ?h1 ?h2 ?_); (case e => rfl); (case h0 => assumption); (case h1 => infer_instance); (case h2 => assumption); intro _ _ _)
  | ((with_reducible refine' use_rbefore ?e ?h0 ?h1 ?h2 ?_); (case e => rfl); (case h0 => assumption); (case h1 => infer_instance); (case h2 => assumption))
  | ((with_reducible refine' use_rnext ?e ?h0 ?h1 ?h2 ?_); (case e => rfl); (case h0 => assumption); (case h1 => infer_instance); (case h2 => assumption); intro _ _)
  | ((with_reducible refine' use_rkept0 ?e ?h0 ?h1 ?h2 ?h3 ?_); (case e => rfl); (case h0 => assumption); (case h1 => infer_instance); (case h2 => assumption); (case h3 => assumption); intro _ _ _)
  | ((with_reducible refine' s_insR ?h0 ?h1 ?h2 ?_); (case h0 => assumption); (case h1 => infer_instance); (case h2 => walk_at "lkr"))
  | (first | rw [ov_some] | rw [ov_none]))
local macro_rules | `(tactic| walk_at "call2") => `(tactic| first
  | ((with_reducible refine' use_want ?e ?h0 ?h1 ?h2 ?_); (case e => rfl); (case h0 => assumption); (case h1 => infer_instance); (case h2 => assumption))
  | ((with_reducible refine' use_farthest ?e ?h0 ?h1 ?h2 ?h3 ?_); (case e => rfl); (case h0 => assumption); (case h1 => infer_instance); (case h2 => assumption); (case h3 => assumption); intro _ _)
  | ((with_reducible refine' use_knownby ?e ?h0 ?h1 ?h2 ?h3 ?_); (case e => rfl); (case h0 => assumption); (case h1 => infer_instance); (case h2 => assumption); (case h3 => assumption); intro _ _ _)
  | ((with_reducible refine' use_Seeker ?e ?h0 ?h1 ?h2 ?h3 ?_); (case e => exact fun _ => rfl); (case h0 => assumption); (case h1 => infer_instance); (case h2 => assumption); (case h3 => assumption); intro _ _ _)
  | ((with_reducible refine' use_skat ?e ?h0 ?h1 ?h2 ?_); (case e => rfl); (case h0 => assumption); (case h1 => infer_instance); (case h2 => assumption))
  | ((with_reducible refine' use_skway ?e ?h0 ?h1 ?_); (case e => rfl); (case h0 => assumption); (case h1 => infer_instance); intro _ _ _)
  | ((with_reducible refine' use_skbacks ?e ?h0 ?h1 ?_); (case e => rfl); (case h0 => assumption); (case h1 => infer_instance))
  | ((with_reducible refine' use_skanswer ?e ?h0 ?h1 ?_); (case e => rfl); (case h0 => assumption); (case h1 => infer_instance))
  | ((with_reducible refine' use_skup ?e ?h0 ?h1 ?h2 ?h3 ?h4 ?_); (case e => rfl); (case h0 => assumption); (case h1 => infer_instance); (case h2 => infer_instance); (case h3 => assumption); (case h4 => assumption); intro _ _)
  | ((with_reducible refine' use_skgo ?e ?h0 ?h1 ?h2 ?h3 ?_); (case e => rfl); (case h0 => assumption); (case h1 => infer_instance); (case h2 => infer_instance); (case h3 => assumption); intro _ _)
  | ((with_reducible refine' use_skstep ?e ?h0 ?h1 ?h2 ?h3 ?_); (case e => rfl); (case h0 => assumption); (case h1 => infer_instance); (case h2 => infer_instance); (case h3 => assumption); intro _ _)
  | ((with_reducible refine' s_insK ?h0 ?h1 ?h2 ?_); (case h0 => assumption); (case h1 => infer_instance); (case h2 => walk_at "lkk")))
local macro_rules | `(tactic| walk_at "call2") => `(tactic| first
  | ((with_reducible refine' use_fpath ?e ?h0 ?h1 ?_); (case e => rfl); (case h0 => assumption); (case h1 => infer_instance); intro _ _ _)
  | ((with_reducible refine' use_fanswer ?e ?h0 ?h1 ?_); (case e => rfl); (case h0 => assumption); (case h1 => infer_instance))
  | ((with_reducible refine' use_look ?e ?h0 ?h1 ?h2 ?h3 ?h4 ?_); (case e => rfl); (case h0 => assumption); (case h1 => infer_instance); (case h2 => assumption); (case h3 => assumption); (case h4 => assumption); intro _ _ _ _ _ _ _)
  | ((with_reducible refine' s_insF ?h0 ?h1 ?h2 ?_); (case h0 => assumption); (case h1 => infer_instance); (case h2 => walk_at "lkf")))
/-- a list of tuples (text, number) -/
def WaysX (Z : Ad) (rs : List (Str × Int)) : Addr → Hp → Prop := fun l h => ∃ as : List Addr, as.length = rs.length ∧ Star Z.Space (⟨l, LV (as.map V.ref)⟩ :: tAtoms as rs) h
def tD (z : Str × Int) : PyData := .tuple [.str z.1, .int z.2]
section
variable {K : PySem.W.Frag} {Z : Ad} {L R R1 R2 R3 M : List Atom} {H : Hp} {Q : VK} {E : XK} {vs : List V} {X Y : Addr → Hp → Prop} {xs ys : List V} {r k t l f p p' : Addr} {T : List Int} {g : Int} {rs : List (Str × Int)} {as : List Addr}
theorem sat_addAll : ∀ {M : List Atom}, Sat Z L H → (∀ a ∈ M, ∃ o, a.X = Pt o ∧ H a.p = some o ∧ Imm Z.Space o) → Sat Z (M ++ L) H
  | [], s, _ => s
  | a :: M, s, h => by
    obtain ⟨o, e1, e2, e3⟩ := h a List.mem_cons_self
    have s1 := sat_addAll (M := M) s fun b hb => h b (List.mem_cons_of_mem _ hb)
    have s2 := s1.add e2 e3
    rw [← e1] at s2
    exact s2
theorem tAtoms_facts (s : Sat Z (tAtoms as rs ++ L) H) : ∀ a ∈ tAtoms as rs, ∃ o, a.X = Pt o ∧ H a.p = some o ∧ Imm Z.Space o := fun a ha => by
  obtain ⟨z, hz, rfl⟩ := List.mem_map.mp ha
  refine ⟨_, rfl, ?_, trivial⟩
  obtain ⟨h, k, x⟩ := star_mem (List.mem_append_left L ha) s.star
  exact noT_some (k _ _ x)
theorem ways_open (s : Sat Z (⟨l, WaysX Z rs⟩ :: L) H) : ∃ as : List Addr, as.length = rs.length ∧ Sat Z (⟨l, LV (as.map V.ref)⟩ :: (tAtoms as rs ++ L)) H := by
  obtain ⟨t0, h1, h2, s1, s2, c, ⟨as, e, x⟩, rr⟩ := s
  exact ⟨as, e, t0, star_app s1 s2 c x rr⟩
theorem ways_close (e : as.length = rs.length) (s : Sat Z (⟨l, LV (as.map V.ref)⟩ :: (tAtoms as rs ++ L)) H) : Sat Z (⟨l, WaysX Z rs⟩ :: L) H :=
  SatI.close (M := ⟨l, LV (as.map V.ref)⟩ :: tAtoms as rs) s fun h m => ⟨as, e, m⟩
theorem dpa_tups (hl : as.length = rs.length) (h : ∀ z ∈ as.zip rs, H z.1 = some (.tup [.str z.2.1, .int z.2.2])) : DpAll K H (as.map V.ref) (rs.map tD) := by
  induction as generalizing rs with
  | nil =>
    cases rs with
    | nil => exact .nil
    | cons _ _ => cases hl
  | cons a as ih =>
    cases rs with
    | nil => cases hl
    | cons z rs =>
      exact .cons (.tup (SqT.of (h (a, z) List.mem_cons_self)) (.cons (.str _) (.cons (.int _) .nil))) (ih (Nat.succ.inj hl) fun y hy => h y (List.mem_cons_of_mem _ hy))
theorem tAtoms_at (s : Sat Z (tAtoms as rs ++ L) H) : ∀ z ∈ as.zip rs, H z.1 = some (.tup [.str z.2.1, .int z.2.2]) := fun z hz => by
  obtain ⟨h, k, x⟩ := star_mem (a := ⟨z.1, Pt (.tup [.str z.2.1, .int z.2.2])⟩) (List.mem_append_left L (List.mem_map.mpr ⟨z, hz, rfl⟩)) s.star
  exact noT_some (k _ _ x)
theorem ways_dp (s : Sat Z L H) (F : Fnd L l (WaysX Z rs) R) : Dp K H (.ref l) (.list (rs.map tD)) := by
  obtain ⟨as, e, s1⟩ := ways_open (s.fnd (p := l))
  exact .lst (SqL.of s1.at0) (dpa_tups e (tAtoms_at s1.tail))
theorem sh_str {n : Nat} {a : Str} (h : PyData.strOk a = true) : Sh n (.str a) := ⟨by simp only [PyData.canLay0]; exact h, Nat.zero_le _⟩
def RsOk (rs : List (Str × Int)) : Prop := ∀ z ∈ rs, PyData.strOk z.1 = true
theorem rsn_ok {G : RingM} : RsOk (rsn G T) := fun z hz => by
  obtain ⟨w, _, rfl⟩ := List.mem_map.mp hz
  unfold knownB
  split
  · split
    · show PyData.strOk "list" = true; decide +kernel
    · show PyData.strOk "finger" = true; decide +kernel
  · show PyData.strOk "" = true; decide +kernel
theorem ways_sh (h : RsOk rs) : Sh 2 (.list (rs.map tD)) := .list (.all fun z hz => .tuple (.cons (sh_str (h z hz)) (.cons .int .nil)))
theorem s_lenW (s : Sat Z L H) (F : Fnd L l (WaysX Z rs) R) (q : Q (.int rs.length) H) : rLenS K [.ref l] H Q := by
  obtain ⟨as, e, s1⟩ := ways_open (s.fnd (p := l))
  refine ⟨l, as.map V.ref, rfl, .inl (SqL.of s1.at0), ?_⟩
  rw [List.length_map, e]
  exact q
theorem s_isW (s : Sat Z L H) (F : Fnd L l (WaysX Z rs) R) (q : Q (.bl true) H) : rIsi K [.ref l, .ty "list"] H Q := by
  obtain ⟨as, e, s1⟩ := ways_open (s.fnd (p := l))
  exact isi (b := true) (.base (.lst s1.at0)) (by decide +kernel) q
theorem s_isTT (s : Sat Z L H) (F : Fnd L p (Pt (.tup xs)) R) (q : Q (.bl true) H) : rIsi K [.ref p, .ty "tuple"] H Q := isi (b := true) (.base (.tup s.at)) (by decide +kernel) q
theorem s_ixW {j : Nat} {z : Str × Int} (s : Sat Z L H) (F : Fnd L l (WaysX Z rs) R) (hz : rs[j]? = some z) (q : ∀ a, Sat Z (⟨a, TV [.str z.1, .int z.2]⟩ :: L) H → Q (.ref a) H) : rIxL K (.ref l) (.int (j : Nat)) H Q := by
  obtain ⟨as, e, s1⟩ := ways_open (s.fnd (p := l))
  have hj := (List.getElem?_eq_some_iff.mp hz).1
  have hj2 : j < as.length := by omega
  refine ⟨l, as.map V.ref, (j : Nat), .ref as[j], rfl, rfl, SqL.of s1.at0, atI_nat (by rw [List.getElem?_map, List.getElem?_eq_getElem hj2]; rfl), q _ (s.add (tAtoms_at s1.tail (as[j], z) ?_) trivial)⟩
  exact List.mem_iff_getElem?.mpr ⟨j, by rw [List.getElem?_zip_eq_some]; exact ⟨List.getElem?_eq_getElem hj2, hz⟩⟩
theorem s_eqTT {a : Str} {i : Int} (s : Sat Z L H) (F : Fnd L p (Pt (.tup [.str a, .int i])) R) (F2 : Fnd L p' (Pt (.tup [.str a, .int i])) R1) (h : PyData.strOk a = true) (q : Q (.bl true) H) : rEqD K (.ref p) (.ref p') H Q :=
  d_eqT (n := 1) (d := .tuple [.str a, .int i]) (.tup s.st (.cons (.str _) (.cons (.int _) .nil))) (.tup s.st (.cons (.str _) (.cons (.int _) .nil))) (.tuple (.cons (sh_str h) (.cons .int .nil))) (by decide) q
theorem s_eqWW (s : Sat Z L H) (F : Fnd L p (WaysX Z rs) R) (F2 : Fnd L p' (WaysX Z rs) R1) (h : RsOk rs) (q : Q (.bl true) H) : rEqD K (.ref p) (.ref p') H Q :=
  d_eqT (n := 2) (ways_dp s F) (ways_dp s F2) (ways_sh h) (by decide) q
def sp_Found_ways (_ : PySem.W.Frag) (Z : Ad) : Sp := fun vs H Q _ => ∃ (f : Addr) (T : List Int) (g : Int) (rs : List (Str × Int)) (L : List Atom), vs = [.ref f] ∧ Sat Z (⟨f, FoundX Z T g rs⟩ :: L) H ∧ ∀ l H', Sat Z (⟨l, WaysX Z rs⟩ :: ⟨f, FoundX Z T g rs⟩ :: L) H' → Q (.ref l) H'
theorem use_fways (e : vs = [.ref f]) (s : Sat Z L H) (F : Fnd L f (FoundX Z T g rs) R) (q : ∀ l H', Sat Z (⟨l, WaysX Z rs⟩ :: ⟨f, FoundX Z T g rs⟩ :: R) H' → Q (.ref l) H') : sp_Found_ways K Z vs H Q E := ⟨f, T, g, rs, R, e, s.fnd, q⟩
end
local macro_rules | `(tactic| walk_at "ok") => `(tactic| first | assumption | decide +kernel)
local macro_rules | `(tactic| walk_at "call2") => `(tactic| first
  | ((with_reducible refine' use_fways ?e ?h0 ?h1 ?_); (case e => rfl); (case h0 => assumption); (case h1 => infer_instance); intro _ _ _)
  | ((with_reducible refine' s_lenW ?h0 ?h1 ?_); (case h0 => assumption); (case h1 => infer_instance))
  | ((with_reducible refine' s_isW ?h0 ?h1 ?_); (case h0 => assumption); (case h1 => infer_instance))
  | ((with_reducible refine' s_isTT ?h0 ?h1 ?_); (case h0 => assumption); (case h1 => infer_instance))
  | ((with_reducible refine' s_eqTT ?h0 ?h1 ?h2 ?h3 ?_); (case h0 => assumption); (case h1 => infer_instance); (case h2 => infer_instance); (case h3 => walk_at "ok"))
  | ((with_reducible refine' s_eqWW ?h0 ?h1 ?h2 ?h3 ?_); (case h0 => assumption); (case h1 => infer_instance); (case h2 => infer_instance); (case h3 => assumption)))
def t_Found_ways (K : PySem.W.Frag) (Z : Ad) : TS :=
  (tRet (tCB (rListS K) (tCons (tFld K (tVar 0) "reasons") tNil)))
theorem rd_Found_ways (K : PySem.W.Frag) (Z : Ad) (C : CFd K Z) : ∀ vs H Q E, sp_Found_ways K Z vs H Q E → t_Found_ways K Z { nx := fun _ H' => Q .non H', rt := Q } (start (["self"]) vs) H := by
  rintro _ H Q E ⟨f, T, g, rs, L, rfl, s, q⟩
  cases C
  obtain ⟨dx, t, l, as, e, s1⟩ := found_open s
  have vf := s1.at0
  have vl := s1.tail.tail.at0
  show t_Found_ways K Z _ [some (.ref f)] H
  unfold t_Found_ways
  walk_at "go"
  rename_i l2 H2 s2
  have s3 := sat_addAll s2 (tAtoms_facts s2.tail.tail.tail.tail)
  have s4 := s3.perm (List.perm_middle (a := ⟨l2, Pt (.lst (as.map V.ref))⟩) (l₁ := tAtoms as rs))
  have s5 := ways_close e s4
  have s6 := s5.perm (L' := ⟨f, Pt (.ins Z.Found dx [("trail", .ref t), ("goal", .int g), ("reasons", .ref l)])⟩ :: ⟨t, LI T⟩ :: ⟨l, LV (as.map V.ref)⟩ :: (tAtoms as rs ++ (⟨l2, WaysX Z rs⟩ :: L))) (by
    refine List.Perm.symm ?_
    refine List.Perm.trans (List.Perm.cons _ (List.Perm.cons _ (List.Perm.cons _ List.perm_middle))) ?_
    exact List.perm_middle (α := Atom) (l₁ := [⟨f, Pt (.ins Z.Found dx [("trail", .ref t), ("goal", .int g), ("reasons", .ref l)])⟩, ⟨t, LI T⟩, ⟨l, LV (as.map V.ref)⟩]))
  have s7 := found_close e s6
  exact q l2 H2 ⟨s7.tabs, s7.star.swap⟩
end NN
namespace NN
open PySem L2
/-- a seeker behind so many steps -/
def seekAt (T : List Int) (g pt : Int) (i : Nat) : SeekM := if i < T.length then ⟨pt, T.take (i + 1), 0, none⟩ else ⟨pt, T, 0, some g⟩
theorem seekAt_lt {T : List Int} {g pt : Int} {i : Nat} (h : i < T.length) : seekAt T g pt i = ⟨pt, T.take (i + 1), 0, none⟩ := if_pos h
theorem seekAt_ge {T : List Int} {g pt : Int} {i : Nat} (h : T.length ≤ i) : seekAt T g pt i = ⟨pt, T, 0, some g⟩ := if_neg (Nat.not_lt.mpr h)
/-- where it stands then -/
def hereAt (T : List Int) (i : Nat) : Int := T.getD (min i (T.length - 1)) 0
theorem seek_go {G : RingM} {via pt g : Int} {T : List Int} (l : LookP G via pt T g) (hv : Live G) (hp : 0 ≤ pt ∧ pt < 2 ^ G.bits) (ht : T.length ≤ 64) (i : Nat) :
    (∃ a, StandsA G (seekAt T g pt i) (hereAt T i) a) ∧ stepM G (seekAt T g pt i) (hereAt T i) = seekAt T g pt (i + 1) := by
  have h0 : 0 < T.length := (List.getElem?_eq_some_iff.mp l.first).1
  obtain ⟨z, z1, z2⟩ := l.last
  by_cases q : i < T.length
  · have e0 : hereAt T i = T[i] := by
      unfold hereAt
      rw [Nat.min_eq_left (by omega), List.getD_eq_getElem?_getD, List.getElem?_eq_getElem q]
      rfl
    have zm := l.mem _ (List.getElem_mem q)
    obtain ⟨a, ha⟩ := hv _ zm
    have hlast : (T.take (i + 1)).getLast? = some T[i] := by
      rw [List.take_add_one, List.getElem?_eq_getElem q, Option.toList_some, List.getLast?_append]
      rfl
    rw [e0, seekAt_lt q]
    refine ⟨⟨a, hlast, zm, ha, hp, by show (T.take (i + 1)).length ≤ 1000; rw [List.length_take]; omega⟩, ?_⟩
    rw [show stepM G ⟨pt, T.take (i + 1), 0, none⟩ T[i] = goOn G ⟨pt, T.take (i + 1), 0, none⟩ T[i] from if_pos rfl]
    by_cases q1 : i + 1 < T.length
    · obtain ⟨o1, o2⟩ := l.hops i _ _ (List.getElem?_eq_getElem q) (List.getElem?_eq_getElem q1)
      rw [seekAt_lt q1, goOn_hop (S := ⟨pt, T.take (i + 1), 0, none⟩) o1]
      show SeekM.mk pt (T.take (i + 1) ++ [farO G T[i] pt]) 0 none = _
      rw [← o2, List.take_add_one (i := i + 1), List.getElem?_eq_getElem q1]
      rfl
    · have e1 : i + 1 = T.length := by omega
      have e2 : T[i] = z := by
        rw [List.getLast?_eq_getElem?, ← e1, Nat.add_sub_cancel, List.getElem?_eq_getElem q] at z1
        exact Option.some.inj z1
      rw [← e2] at z2
      rw [seekAt_ge (by omega), goOn_end (S := ⟨pt, T.take (i + 1), 0, none⟩) z2]
      show SeekM.mk pt (T.take (i + 1)) 0 (some g) = _
      rw [List.take_of_length_le (by omega)]
  · have e0 : hereAt T i = z := by
      unfold hereAt
      rw [Nat.min_eq_right (by omega), List.getD_eq_getElem?_getD, ← List.getLast?_eq_getElem?, z1]
      rfl
    have zm := l.mem _ (List.mem_of_getLast? z1)
    obtain ⟨a, ha⟩ := hv _ zm
    rw [e0, seekAt_ge (by omega), seekAt_ge (by omega)]
    exact ⟨⟨a, z1, zm, ha, hp, by show T.length ≤ 1000; omega⟩, if_neg (fun e => by cases e)⟩
/-- every lookup has a path -/
theorem look_ex {G : RingM} {via pt : Int} (w : WfR G) (hv : Live G) (hp : 0 ≤ pt ∧ pt < 2 ^ G.bits) (hvia : via ∈ G.names) : ∃ T g, LookP G via pt T g ∧ T.length ≤ 64 := by
  suffices ∀ (m : Nat) (T : List Int) (here : Int), PathI G via pt T here → ((pt - here) % 2 ^ G.bits).toNat ≤ m → ∃ T g, LookP G via pt T g ∧ T.length ≤ 64 from this _ [via] via (path0 hvia) (Nat.le_refl _)
  intro m
  induction m with
  | zero =>
    intro T here p hm
    have hmem : here ∈ G.names := p.mem here (List.mem_of_getLast? p.last)
    obtain ⟨a, hnx⟩ := hv here hmem
    cases he : endO G here pt with
    | none =>
      obtain ⟨f1, f2, f3, f4⟩ := hop_near w hmem hp hnx he
      have f0 := Int.emod_nonneg (pt - farO G here pt) (show (2 : Int) ^ G.bits ≠ 0 by have := pw_lo w.lo; omega)
      omega
    | some g => exact ⟨T, g, p.done he, by have := p.len w; omega⟩
  | succ m ih =>
    intro T here p hm
    have hmem : here ∈ G.names := p.mem here (List.mem_of_getLast? p.last)
    obtain ⟨a, hnx⟩ := hv here hmem
    cases he : endO G here pt with
    | none =>
      obtain ⟨f1, f2, f3, f4⟩ := hop_near w hmem hp hnx he
      have f0 := Int.emod_nonneg (pt - farO G here pt) (show (2 : Int) ^ G.bits ≠ 0 by have := pw_lo w.lo; omega)
      exact ih _ _ (p.go w hp hnx he) (by omega)
    | some g => exact ⟨T, g, p.done he, by have := p.len w; omega⟩
end NN
namespace NN
open PySem L2
section
variable {K : PySem.W.Frag} {Z : Ad} {L R R2 : List Atom} {H : Hp} {Q : VK} {E : XK} {a tp dd D : Addr} {fs : List (Str × V)} {c v : V} {cs : List V} {cv : Value} {us : List Value} {b : Bool} {f : Str}
/-- isinstance of the caught one: one class -/
theorem s_isE (C : ExcC K D) (s : Sat Z L H) (F : Fnd L dd (Pt (.xd fs)) R) (k : ClsV c cv) (e : PySem.W.kitOne K (.ref D) cv = some b) (q : Q (.bl b) H) : rIsE3 K a (.ref D) (some dd) [.ref a, c] H Q :=
  ⟨D, rfl, C, fun d' h => by cases h; exact ⟨fs, (s.fnd (p := dd)).at0⟩, .inl ⟨c, cv, b, rfl, k, e, q⟩⟩
/-- a tuple of classes -/
theorem s_isET (C : ExcC K D) (s : Sat Z L H) (F : Fnd L dd (Pt (.xd fs)) R) (F2 : Fnd L tp (Pt (.tup cs)) R2) (k : Paired ClsV cs us) (e : PySem.W.kitAny K (.ref D) us = some b) (q : Q (.bl b) H) : rIsE3 K a (.ref D) (some dd) [.ref a, .ref tp] H Q :=
  ⟨D, rfl, C, fun d' h => by cases h; exact ⟨fs, (s.fnd (p := dd)).at0⟩, .inr ⟨tp, cs, us, b, rfl, (s.fnd (p := tp)).at0, k, e, q⟩⟩
/-- its field -/
theorem s_xf {P : V → Prop} (s : Sat Z L H) (F : Fnd L dd (Pt (.xd fs)) R) (hl : fs.lookup f = some v) (q : P v) : ∃ (d' : Addr) (fs : List (Str × V)) (v : V), some dd = some d' ∧ H d' = some (.xd fs) ∧ fs.lookup f = some v ∧ P v :=
  ⟨dd, fs, v, rfl, (s.fnd (p := dd)).at0, hl, q⟩
end
end NN
namespace NN
open PySem L2
local macro_rules | `(tactic| walk_at "nl") => `(tactic| first | with_reducible assumption | omega | (simp only [List.length_map, List.length_cons, List.length_nil, List.length_append, List.length_reverse, List.length_take, List.length_drop] <;> omega) | decide)
local macro_rules | `(tactic| walk_at "ar") => `(tactic| first | omega | (simp only [List.length_cons, List.length_nil] <;> omega) | (simp only [List.length_cons, List.length_nil, List.length_append, List.length_map, List.length_set, List.length_take, List.length_drop, List.length_reverse] <;> omega) | decide)
local macro_rules | `(tactic| walk_at "cond") => `(tactic| first | assumption | exact c_mulB | (exact c_mulL (by walk_at "nl") (by walk_at "nl")) | (exact c_mulR (by walk_at "nl") (by walk_at "nl")) | (exact c_divW (by walk_at "nl") (by walk_at "nl")) | (exact c_pow (by walk_at "nl") (by walk_at "nl") (by walk_at "nl")) | walk_at "nl")
local macro_rules | `(tactic| walk_at "sz") => `(tactic| first | exact sz_small (by simp only [List.length_cons, List.length_nil]; decide) | exact sz_small (by decide) | exact sz_small (by walk_at "ar"))
local macro_rules | `(tactic| walk_at "sl") => `(tactic| first | exact sz_less (by walk_at "ar"))
local macro_rules | `(tactic| walk_at "at") => `(tactic| first | assumption | exact at_0 | exact at_1 | exact at_2 | exact at_3 | exact at_4 | exact at_5 | exact at_6 | exact at_7 | exact at_8 | exact at_9 | exact at_10 | exact at_11 | exact at_12 | exact at_13 | exact at_14 | exact at_15 | exact atI_nat (by assumption))
local macro_rules | `(tactic| walk_at "flat") => `(tactic| first | exact ints_flat _ | rfl | assumption | decide)
local macro_rules | `(tactic| walk_at "ixn") => `(tactic| first | with_unfolding_all rfl | exact ixN_lit (j := 0) rfl (by walk_at "ar") | exact ixN_nat (by walk_at "ar"))
local macro_rules | `(tactic| walk_at "sat") => `(tactic| first | assumption | exact SatI.ent (by assumption))
local macro_rules | `(tactic| walk_at "hat") => `(tactic| first | with_reducible assumption | exact SatI.at (by assumption))
local macro_rules | `(tactic| walk_at "lt") => `(tactic| first | decide | (simp only [List.length_cons, List.length_nil]; decide))
local macro_rules | `(tactic| walk_at "putf") => `(tactic| (simp (decide := true) only [putF, if_true, if_false]) <;> rfl)
local macro_rules | `(tactic| walk_at "lkr") => `(tactic| exact fun _ _ _ _ => rfl)
local macro_rules | `(tactic| walk_at "ok") => `(tactic| first | assumption | decide +kernel)
local macro_rules | `(tactic| walk_at "lkk") => `(tactic| exact fun _ => rfl)
local macro_rules | `(tactic| walk_at "lkf") => `(tactic| exact fun _ _ => rfl)
local macro_rules | `(tactic| walk_at "dval") => `(tactic| first | assumption | rfl)
local macro_rules | `(tactic| walk_at "fm") => `(tactic| first | exact fm_yes (by assumption) (by first | rfl | assumption) rfl (by assumption) inferInstance (by walk_at "ar") | exact fm_no (by assumption) (by first | rfl | assumption) (by assumption) inferInstance)
local macro_rules | `(tactic| walk_at "call") => `(tactic| fail)
local macro_rules | `(tactic| walk_at "call2") => `(tactic| fail)
local macro_rules | `(tactic| walk_at "go1") => `(tactic| first | ((with_reducible refine Stp.imp ?_)) | (((with_reducible refine' g_eqc ?h0 ?_); (case h0 => rfl))) | (((with_reducible refine' g_I ?h0 ?_); (case h0 => walk_at "cond"))) | (((with_reducible refine' g_eq ?h0 ?_); (case h0 => with_unfolding_all rfl))) | (((with_reducible refine' g_ne ?h0 ?_); (case h0 => with_unfolding_all rfl))) | (((with_reducible refine' g_sz ?h0 ?_); (case h0 => walk_at "sz"); intro p hp; generalize hg : upd _ p _ = H2; (first | have hs := sat_newLI hg hp (by with_reducible assumption) inferInstance | have hs := sat_newL hg hp (by with_reducible assumption) | have hs := sat_newT hg hp (by with_reducible assumption)); clear hg hp)) | (((with_reducible refine' s_lenI ?h0 ?h1 ?h2 ?h3 ?_); (case h0 => with_reducible assumption); (case h1 => infer_instance); (case h2 => infer_instance); (case h3 => infer_instance))) | (((with_reducible refine' s_lenL ?h0 ?h1 ?h2 ?_); (case h0 => with_reducible assumption); (case h1 => infer_instance); (case h2 => infer_instance))) | (((with_reducible refine' s_lenT ?h0 ?h1 ?_); (case h0 => with_reducible assumption); (case h1 => infer_instance))) | (((with_reducible refine' s_listL ?h0 ?h1 ?h2 ?_); (case h0 => with_reducible assumption); (case h1 => infer_instance); (case h2 => infer_instance); intro _ _ _)) | (((with_reducible refine' s_listT ?h0 ?h1 ?_); (case h0 => with_reducible assumption); (case h1 => infer_instance); intro _ _ _)) | (((with_reducible refine' s_slTo ?h0 ?h1 ?h2 ?h3 ?h4 ?_); (case h0 => with_reducible assumption); (case h1 => infer_instance); (case h2 => infer_instance); (case h3 => infer_instance); (case h4 => walk_at "nl"); intro _ _ _)) | (((with_reducible refine' s_slFrom ?h0 ?h1 ?h2 ?h3 ?h4 ?_); (case h0 => with_reducible assumption); (case h1 => infer_instance); (case h2 => infer_instance); (case h3 => infer_instance); (case h4 => walk_at "nl"); intro _ _ _)) | (((with_reducible refine' s_slLast ?h0 ?h1 ?h2 ?h3 ?_); (case h0 => with_reducible assumption); (case h1 => infer_instance); (case h2 => infer_instance); (case h3 => infer_instance); intro _ _ _)) | (((with_reducible refine' s_slMid ?h0 ?h1 ?h2 ?h3 ?h4 ?h5 ?_); (case h0 => with_reducible assumption); (case h1 => infer_instance); (case h2 => infer_instance); (case h3 => infer_instance); (case h4 => walk_at "nl"); (case h5 => walk_at "nl"); intro _ _ _)) | (((with_reducible refine' s_sum ?h0 ?h1 ?h2 ?h3 ?_); (case h0 => with_reducible assumption); (case h1 => infer_instance); (case h2 => infer_instance); (case h3 => infer_instance))) | (((with_reducible refine' s_slL ?h0 ?h1 ?h2 ?_); (case h0 => with_reducible assumption); (case h1 => infer_instance); (case h2 => infer_instance); intro _ _ _)) | (((with_reducible refine' s_ixL ?h0 ?h1 ?h2 ?h3 ?_); (case h0 => with_reducible assumption); (case h1 => infer_instance); (case h2 => infer_instance); (case h3 => walk_at "at"))) | (((with_reducible refine' s_ixLast ?h0 ?h1 ?h2 ?h3 ?h4 ?_); (case h0 => with_reducible assumption); (case h1 => infer_instance); (case h2 => infer_instance); (case h3 => infer_instance); (case h4 => assumption))) | (((with_reducible refine' s_ixIn ?h0 ?h1 ?h2 ?h3 ?h4 ?h5 ?_); (case h0 => with_reducible assumption); (case h1 => infer_instance); (case h2 => infer_instance); (case h3 => infer_instance); (case h4 => walk_at "nl"); (case h5 => walk_at "nl"); intro n hn; (try simp only [List.mem_cons, List.not_mem_nil, or_false] at hn))) | (((with_reducible refine' s_ixT ?h0 ?h1 ?h2 ?_); (case h0 => with_reducible assumption); (case h1 => infer_instance); (case h2 => walk_at "at"))) | (((with_reducible refine' s_inI ?h0 ?h1 ?h2 ?h3 ?_); (case h0 => with_reducible assumption); (case h1 => infer_instance); (case h2 => infer_instance); (case h3 => infer_instance))) | (((with_reducible refine' s_ninI ?h0 ?h1 ?h2 ?h3 ?_); (case h0 => with_reducible assumption); (case h1 => infer_instance); (case h2 => infer_instance); (case h3 => infer_instance))) | (((with_reducible refine' s_in ?h0 ?h1 ?h2 ?h3 ?h4 ?_); (case h0 => with_reducible assumption); (case h1 => infer_instance); (case h2 => infer_instance); (case h3 => with_unfolding_all rfl); (case h4 => walk_at "flat"))) | (((with_reducible refine' s_setLI ?h0 ?h1 ?h2 ?h3 ?_); (case h0 => with_reducible assumption); (case h1 => infer_instance); (case h2 => infer_instance); (case h3 => walk_at "ixn"); intro _ _)) | (((with_reducible refine' s_setL ?h0 ?h1 ?h2 ?_); (case h0 => with_reducible assumption); (case h1 => infer_instance); (case h2 => with_unfolding_all rfl); intro _ _)) | (((with_reducible refine' s_appendI ?h0 ?h1 ?h2 ?h3 ?_); (case h0 => with_reducible assumption); (case h1 => infer_instance); (case h2 => infer_instance); (case h3 => walk_at "sl"); intro _ _)) | (((with_reducible refine' s_append ?h0 ?h1 ?h2 ?_); (case h0 => with_reducible assumption); (case h1 => infer_instance); (case h2 => walk_at "sl"); intro _ _)) | (((with_reducible refine' s_tyL ?h0 ?h1 ?h2 ?_); (case h0 => with_reducible assumption); (case h1 => infer_instance); (case h2 => infer_instance))) | (((with_reducible refine' s_catI ?h0 ?h1 ?h2 ?h3 ?h4 ?h5 ?_); (case h0 => with_reducible assumption); (case h1 => infer_instance); (case h2 => infer_instance); (case h3 => infer_instance); (case h4 => infer_instance); (case h5 => walk_at "sz"); intro _ _ _)) | (((with_reducible refine' s_cat ?h0 ?h1 ?h2 ?h3 ?_); (case h0 => with_reducible assumption); (case h1 => infer_instance); (case h2 => infer_instance); (case h3 => walk_at "sz"); intro _ _ _)) | (((with_reducible refine' s_sorted ?h0 ?h1 ?h2 ?h3 ?_); (case h0 => with_reducible assumption); (case h1 => infer_instance); (case h2 => infer_instance); (case h3 => infer_instance); intro _ _ _)) | (((with_reducible refine' s_eqL ?h0 ?h1 ?h2 ?h3 ?h4 ?h5 ?h6 ?_); (case h0 => with_reducible assumption); (case h1 => infer_instance); (case h2 => infer_instance); (case h3 => infer_instance); (case h4 => infer_instance); (case h5 => infer_instance); (case h6 => infer_instance))) | (((with_reducible refine' s_neL ?h0 ?h1 ?h2 ?h3 ?h4 ?h5 ?h6 ?_); (case h0 => with_reducible assumption); (case h1 => infer_instance); (case h2 => infer_instance); (case h3 => infer_instance); (case h4 => infer_instance); (case h5 => infer_instance); (case h6 => infer_instance))) | (((with_reducible refine' s_isLL ?h0 ?h1 ?_); (case h0 => with_reducible assumption); (case h1 => infer_instance))) | (((with_reducible refine' s_revI ?h0 ?h1 ?h2 ?h3 ?_); (case h0 => with_reducible assumption); (case h1 => infer_instance); (case h2 => infer_instance); (case h3 => infer_instance); intro _ _ _)) | (((with_reducible refine' s_revL ?h0 ?h1 ?h2 ?_); (case h0 => with_reducible assumption); (case h1 => infer_instance); (case h2 => infer_instance); intro _ _ _)) | (((with_reducible refine' s_insertI ?h0 ?h1 ?h2 ?h3 ?h4 ?h5 ?_); (case h0 => with_reducible assumption); (case h1 => infer_instance); (case h2 => infer_instance); (case h3 => walk_at "sl"); (case h4 => walk_at "nl"); (case h5 => walk_at "nl"); intro _ _)) | (((with_reducible refine' s_all ?h0 ?h1 ?_); (case h0 => with_reducible assumption); (case h1 => infer_instance))) | (((with_reducible refine' s_any ?h0 ?h1 ?_); (case h0 => with_reducible assumption); (case h1 => infer_instance))) | (((with_reducible refine' s_idx ?h0 ?h1 ?h2 ?h3 ?h4 ?_); (case h0 => with_reducible assumption); (case h1 => infer_instance); (case h2 => infer_instance); (case h3 => infer_instance); (case h4 => assumption))) | (((with_reducible refine' g_fld ?h0 ?h1 ?h2 ?h3 ?_); (case h0 => walk_at "hat"); (case h1 => with_reducible assumption); (case h2 => with_reducible assumption); (case h3 => with_unfolding_all rfl))) | (((with_reducible refine' s_sfld ?h0 ?h1 ?h2 ?h3 ?h4 ?h5 ?h6 ?_); (case h0 => with_reducible assumption); (case h1 => infer_instance); (case h2 => with_reducible assumption); (case h3 => with_reducible assumption); (case h4 => with_reducible assumption); (case h5 => walk_at "lt"); (case h6 => walk_at "putf"); intro _ _)) | (((with_reducible refine' s_ins ?h0 ?h1 ?h2 ?_); (case h0 => with_reducible assumption); (case h1 => infer_instance); (case h2 => with_unfolding_all rfl))) | (((with_reducible refine' s_dget ?h0 ?h1 ?h2 ?h3 ?_); (case h0 => with_reducible assumption); (case h1 => infer_instance); (case h2 => infer_instance); (case h3 => walk_at "dval"))) | (((with_reducible refine' s_din ?h0 ?h1 ?h2 ?_); (case h0 => with_reducible assumption); (case h1 => infer_instance); (case h2 => infer_instance))) | (((with_reducible refine' s_dnotin ?h0 ?h1 ?h2 ?_); (case h0 => with_reducible assumption); (case h1 => infer_instance); (case h2 => infer_instance))) | (((with_reducible refine' s_dput ?h0 ?h1 ?h2 ?h3 ?_); (case h0 => with_reducible assumption); (case h1 => infer_instance); (case h2 => infer_instance); (case h3 => walk_at "sl"); intro _ _)) | ((intro p hp; generalize hg : upd _ p (HO.dK []) = H2; have hs := sat_newD hg hp (by with_reducible assumption); clear hg hp)) | (((with_reducible refine' s_divmod ?h0 ?h1 ?h2 ?_); (case h0 => with_reducible assumption); (case h1 => walk_at "nl"); (case h2 => walk_at "nl"); intro _ _ _)) | (((with_reducible refine' s_gtup ?h0 ?h1 ?h2 ?_); (case h0 => with_reducible assumption); (case h1 => infer_instance); (case h2 => with_unfolding_all rfl))) | walk_at "call" | walk_at "call2")
local macro_rules | `(tactic| walk_at "go") => `(tactic| (repeat walk_at "go1"); (try dsimp only))
local macro_rules | `(tactic| walk_at "on") => `(tactic| (with_reducible refine g_seq ?_); walk_at "go")
local macro_rules | `(tactic| walk_at "ifs") => `(tactic| ((try simp only [List.length_map]) <;> (repeat' split) <;> omega))
local macro_rules | `(tactic| walk_at "spa") => `(tactic| first | assumption | exact sat_spH (by assumption) inferInstance)
local macro_rules | `(tactic| walk_at "th") => `(tactic| first | exact Th.int | exact Th.bl | exact Th.non | exact Th.str | assumption | exact Th.lst (SatI.at (by assumption)) | exact Th.tup (SatI.at (by assumption)) | exact Th.dK (SatI.at (by assumption)))
local macro_rules | `(tactic| walk_at "call2") => `(tactic| first
  | ((with_reducible refine' use_whole ?e ?h0 ?_); (case e => rfl); (case h0 => walk_at "th"))
  | ((with_reducible refine' use_make ?e ?h0 ?h1 ?h2 ?_); (case e => exact fun _ => rfl); (case h0 => assumption); (case h1 => walk_at "nl"); (case h2 => walk_at "nl"); intro _ _ _)
  | ((with_reducible refine' use_bits ?e ?h0 ?_); (case e => rfl); (case h0 => walk_at "spa"))
  | ((with_reducible refine' use_size ?e ?h0 ?_); (case e => rfl); (case h0 => walk_at "spa"))
  | ((with_reducible refine' use_has ?e ?h0 ?h1 ?_); (case e => rfl); (case h0 => walk_at "spa"); (case h1 => walk_at "th"))
  | ((with_reducible refine' use_distance ?e ?h0 ?_); (case e => rfl); (case h0 => walk_at "spa"))
  | ((with_reducible refine' use_between ?e ?h0 ?_); (case e => rfl); (case h0 => walk_at "spa"))
  | ((with_reducible refine' use_nearest ?e ?h0 ?h1 ?h2 ?h3 ?h4 ?_); (case e => rfl); (case h0 => walk_at "spa"); (case h1 => assumption); (case h2 => infer_instance); (case h3 => infer_instance); (case h4 => walk_at "nl"); intro _ _ _ _)
  | ((with_reducible refine' use_preceding ?e ?h0 ?h1 ?h2 ?h3 ?h4 ?_); (case e => rfl); (case h0 => walk_at "spa"); (case h1 => assumption); (case h2 => infer_instance); (case h3 => infer_instance); (case h4 => walk_at "nl"); intro _ _ _ _)
  | ((with_reducible refine' s_insS ?h0 ?h1 ?h2 ?_); (case h0 => assumption); (case h1 => infer_instance); (case h2 => rfl))
  | ((with_reducible refine' h_insS ?h0 ?h2 ?_); (case h0 => assumption); (case h2 => rfl)))
local macro_rules | `(tactic| walk_at "call2") => `(tactic| first
  | ((with_reducible refine' use_Node ?e ?h0 ?h1 ?h2 ?h3 ?h4 ?h5 ?_); (case e => exact fun _ => rfl); (case h0 => assumption); (case h1 => infer_instance); (case h2 => infer_instance); (case h3 => infer_instance); (case h4 => infer_instance); (case h5 => infer_instance); intro _ _ _)
  | ((with_reducible refine' use_upwards ?e ?h0 ?h1 ?h2 ?h3 ?_); (case e => rfl); (case h0 => walk_at "spa"); (case h1 => assumption); (case h2 => infer_instance); (case h3 => infer_instance); intro _ _ _)
  | ((with_reducible refine' use_others ?e ?h0 ?h1 ?h2 ?h3 ?h4 ?_); (case e => rfl); (case h0 => walk_at "spa"); (case h1 => assumption); (case h2 => infer_instance); (case h3 => infer_instance); (case h4 => walk_at "nl"); intro _ _ _)
  | ((with_reducible refine' use_farpt ?e ?h0 ?h1 ?h2 ?_); (case e => rfl); (case h0 => walk_at "spa"); (case h1 => walk_at "nl"); (case h2 => walk_at "nl"))
  | ((with_reducible refine' use_rchain ?e ?h0 ?h1 ?h2 ?h3 ?h4 ?h5 ?_); (case e => rfl); (case h0 => walk_at "spa"); (case h1 => assumption); (case h2 => infer_instance); (case h3 => infer_instance); (case h4 => walk_at "nl"); (case h5 => walk_at "nl"); intro _ _ _)
  | ((with_reducible refine' use_rfar ?e ?h0 ?h1 ?h2 ?h3 ?h4 ?_); (case e => rfl); (case h0 => walk_at "spa"); (case h1 => assumption); (case h2 => infer_instance); (case h3 => infer_instance); (case h4 => walk_at "nl"); intro _ _ _)
  | ((with_reducible refine' use_rnode ?e ?h0 ?h1 ?h2 ?h3 ?h4 ?h5 ?h6 ?_); (case e => rfl); (case h0 => walk_at "spa"); (case h1 => assumption); (case h2 => infer_instance); (case h3 => infer_instance); (case h4 => walk_at "nl"); (case h5 => walk_at "nl"); (case h6 => walk_at "nl"); intro _ _ _)
  | ((with_reducible refine' use_islen ?e ?h0 ?_); (case e => rfl); (case h0 => walk_at "th"))
  | ((with_reducible refine' use_arebase ?e ?h0 ?h1 ?h2 ?h3 ?h4 ?h5 ?h6 ?_); (case e => rfl); (case h0 => walk_at "spa"); (case h1 => assumption); (case h2 => infer_instance); (case h3 => infer_instance); (case h4 => assumption); (case h5 => assumption); (case h6 => assumption); intro _ _)
  | ((with_reducible refine' use_spaceof ?e ?h0 ?h1 ?h2 ?_); (case e => rfl); (case h0 => assumption); (case h1 => walk_at "nl"); (case h2 => walk_at "nl"); intro _ _ _)
  | ((with_reducible refine' use_Ring ?e ?h0 ?h1 ?h2 ?h3 ?h4 ?h5 ?h6 ?h7 ?h8 ?h9 ?h10 ?_); (case e => exact fun _ => rfl); (case h0 => assumption); (case h1 => infer_instance); (case h2 => infer_instance); (case h3 => walk_at "nl"); (case h4 => walk_at "nl"); (case h5 => walk_at "nl"); (case h6 => walk_at "nl"); (case h7 => walk_at "nl"); (case h8 => walk_at "nl"); (case h9 => assumption); (case h10 => assumption); intro _ _ _ _)
  | ((with_reducible refine' use_rspace ?e ?h0 ?h1 ?_); (case e => rfl); (case h0 => assumption); (case h1 => infer_instance); intro _ _)
  | ((with_reducible refine' use_rlength ?e ?h0 ?h1 ?_); (case e => rfl); (case h0 => assumption); (case h1 => infer_instance))
  | ((with_reducible refine' use_rbase ?e ?h0 ?h1 ?_); (case e => rfl); (case h0 => assumption); (case h1 => infer_instance); intro _ _ _)
  | ((with_reducible refine' use_rdeeds ?e ?h0 ?h1 ?_); (case e => rfl); (case h0 => assumption); (case h1 => infer_instance); intro _ _ _)
  | ((with_reducible refine' use_rmembers ?e ?h0 ?h1 ?_); (case e => rfl); (case h0 => assumption); (case h1 => infer_instance); intro _ _ _ _)
  | ((with_reducible refine' use_rmem ?e ?h0 ?h1 ?h2 ?_); (case e => rfl); (case h0 => assumption); (case h1 => infer_instance); (case h2 => walk_at "th"))
  | ((with_reducible refine' use_rnod ?e ?h0 ?h1 ?h2 ?_); (case e => rfl); (case h0 => assumption); (case h1 => infer_instance); (case h2 => assumption))
  | ((with_reducible refine' use_rlinks ?e ?h0 ?h1 ?h2 ?_); (case e => rfl); (case h0 => assumption); (case h1 => infer_instance); (case h2 => assumption); intro _ _ _)
  | ((with_reducible refine' use_rfingers ?e ?h0 ?h1 ?h2 ?_); (case e => rfl); (case h0 => assumption); (case h1 => infer_instance); (case h2 => assumption); intro _ _ _)
  | ((with_reducible refine' use_rbefore ?e ?h0 ?h1 ?h2 ?_); (case e => rfl); (case h0 => assumption); (case h1 => infer_instance); (case h2 => assumption))
  | ((with_reducible refine' use_rnext ?e ?h0 ?h1 ?h2 ?_); (case e => rfl); (case h0 => assumption); (case h1 => infer_instance); (case h2 => assumption); intro _ _)
  | ((with_reducible refine' use_rkept0 ?e ?h0 ?h1 ?h2 ?h3 ?_); (case e => rfl); (case h0 => assumption); (case h1 => infer_instance); (case h2 => assumption); (case h3 => assumption); intro _ _ _)
  | ((with_reducible refine' s_insR ?h0 ?h1 ?h2 ?_); (case h0 => assumption); (case h1 => infer_instance); (case h2 => walk_at "lkr"))
  | (first | rw [ov_some] | rw [ov_none]))
local macro_rules | `(tactic| walk_at "call2") => `(tactic| first
  | ((with_reducible refine' use_want ?e ?h0 ?h1 ?h2 ?_); (case e => rfl); (case h0 => assumption); (case h1 => infer_instance); (case h2 => assumption))
  | ((with_reducible refine' use_farthest ?e ?h0 ?h1 ?h2 ?h3 ?_); (case e => rfl); (case h0 => assumption); (case h1 => infer_instance); (case h2 => assumption); (case h3 => assumption); intro _ _)
  | ((with_reducible refine' use_knownby ?e ?h0 ?h1 ?h2 ?h3 ?_); (case e => rfl); (case h0 => assumption); (case h1 => infer_instance); (case h2 => assumption); (case h3 => assumption); intro _ _ _)
  | ((with_reducible refine' use_Seeker ?e ?h0 ?h1 ?h2 ?h3 ?_); (case e => exact fun _ => rfl); (case h0 => assumption); (case h1 => infer_instance); (case h2 => assumption); (case h3 => assumption); intro _ _ _)
  | ((with_reducible refine' use_skat ?e ?h0 ?h1 ?h2 ?_); (case e => rfl); (case h0 => assumption); (case h1 => infer_instance); (case h2 => assumption))
  | ((with_reducible refine' use_skway ?e ?h0 ?h1 ?_); (case e => rfl); (case h0 => assumption); (case h1 => infer_instance); intro _ _ _)
  | ((with_reducible refine' use_skbacks ?e ?h0 ?h1 ?_); (case e => rfl); (case h0 => assumption); (case h1 => infer_instance))
  | ((with_reducible refine' use_skanswer ?e ?h0 ?h1 ?_); (case e => rfl); (case h0 => assumption); (case h1 => infer_instance))
  | ((with_reducible refine' use_skup ?e ?h0 ?h1 ?h2 ?h3 ?h4 ?_); (case e => rfl); (case h0 => assumption); (case h1 => infer_instance); (case h2 => infer_instance); (case h3 => assumption); (case h4 => assumption); intro _ _)
  | ((with_reducible refine' use_skgo ?e ?h0 ?h1 ?h2 ?h3 ?_); (case e => rfl); (case h0 => assumption); (case h1 => infer_instance); (case h2 => infer_instance); (case h3 => assumption); intro _ _)
  | ((with_reducible refine' use_skstep ?e ?h0 ?h1 ?h2 ?h3 ?_); (case e => rfl); (case h0 => assumption); (case h1 => infer_instance); (case h2 => infer_instance); (case h3 => assumption); intro _ _)
  | ((with_reducible refine' s_insK ?h0 ?h1 ?h2 ?_); (case h0 => assumption); (case h1 => infer_instance); (case h2 => walk_at "lkk")))
local macro_rules | `(tactic| walk_at "call2") => `(tactic| first
  | ((with_reducible refine' use_fpath ?e ?h0 ?h1 ?_); (case e => rfl); (case h0 => assumption); (case h1 => infer_instance); intro _ _ _)
  | ((with_reducible refine' use_fanswer ?e ?h0 ?h1 ?_); (case e => rfl); (case h0 => assumption); (case h1 => infer_instance))
  | ((with_reducible refine' use_look ?e ?h0 ?h1 ?h2 ?h3 ?h4 ?_); (case e => rfl); (case h0 => assumption); (case h1 => infer_instance); (case h2 => assumption); (case h3 => assumption); (case h4 => assumption); intro _ _ _ _ _ _ _)
  | ((with_reducible refine' s_insF ?h0 ?h1 ?h2 ?_); (case h0 => assumption); (case h1 => infer_instance); (case h2 => walk_at "lkf")))
local macro_rules | `(tactic| walk_at "call2") => `(tactic| first
  | ((with_reducible refine' use_fways ?e ?h0 ?h1 ?_); (case e => rfl); (case h0 => assumption); (case h1 => infer_instance); intro _ _ _)
  | ((with_reducible refine' s_lenW ?h0 ?h1 ?_); (case h0 => assumption); (case h1 => infer_instance))
  | ((with_reducible refine' s_isW ?h0 ?h1 ?_); (case h0 => assumption); (case h1 => infer_instance))
  | ((with_reducible refine' s_isTT ?h0 ?h1 ?_); (case h0 => assumption); (case h1 => infer_instance))
  | ((with_reducible refine' s_eqTT ?h0 ?h1 ?h2 ?h3 ?_); (case h0 => assumption); (case h1 => infer_instance); (case h2 => infer_instance); (case h3 => walk_at "ok"))
  | ((with_reducible refine' s_eqWW ?h0 ?h1 ?h2 ?h3 ?_); (case h0 => assumption); (case h1 => infer_instance); (case h2 => infer_instance); (case h3 => assumption)))
local macro_rules | `(tactic| walk_at "call") => `(tactic| first
  | ((with_reducible refine' use_take ?e ?h0 ?h1 ?h2 ?h3 ?_); (case e => rfl); (case h0 => assumption); (case h1 => infer_instance); (case h2 => walk_at "nl"); (case h3 => walk_at "nl"); intro _ _ _ _ _)
  | ((with_reducible refine' use_pot ?e ?h0 ?h1 ?h2 ?h3 ?_); (case e => rfl); (case h0 => assumption); (case h1 => infer_instance); (case h2 => walk_at "nl"); (case h3 => walk_at "nl"); intro _ _ _)
  | ((with_reducible refine' use_lbits ?e ?h0 ?h1 ?_); (case e => rfl); (case h0 => assumption); (case h1 => infer_instance); intro _ _ _ _ _)
  | ((with_reducible refine' use_point ?e ?h0 ?h1 ?h2 ?h3 ?_); (case e => rfl); (case h0 => assumption); (case h1 => infer_instance); (case h2 => walk_at "nl"); (case h3 => walk_at "nl"); intro _ _ _ _ _)
  | ((with_reducible refine' use_points ?e ?h0 ?h1 ?h2 ?h3 ?h4 ?h5 ?_); (case e => rfl); (case h0 => assumption); (case h1 => infer_instance); (case h2 => walk_at "nl"); (case h3 => walk_at "nl"); (case h4 => walk_at "nl"); (case h5 => walk_at "nl"); intro _ _ _ _ _ _ _)
  | ((with_reducible refine' use_lsize ?e ?h0 ?h1 ?h2 ?_); (case e => rfl); (case h0 => assumption); (case h1 => walk_at "nl"); (case h2 => walk_at "nl"); intro _ _)
  | ((with_reducible refine' use_base ?e ?h0 ?h1 ?h2 ?h3 ?h4 ?h5 ?_); (case e => rfl); (case h0 => assumption); (case h1 => infer_instance); (case h2 => walk_at "nl"); (case h3 => walk_at "nl"); (case h4 => walk_at "nl"); (case h5 => walk_at "nl"); intro _ _ _ _ _ _ _ _)
  | ((with_reducible refine' use_lup ?e ?h0 ?h1 ?h2 ?h3 ?h4 ?h5 ?h6 ?_); (case e => rfl); (case h0 => assumption); (case h1 => infer_instance); (case h2 => infer_instance); (case h3 => walk_at "nl"); (case h4 => walk_at "nl"); (case h5 => assumption); (case h6 => walk_at "nl"); intro _ _ _)
  | ((with_reducible refine' use_asked ?e ?h0 ?h1 ?h2 ?h3 ?h4 ?h5 ?h6 ?h7 ?_); (case e => rfl); (case h0 => assumption); (case h1 => infer_instance); (case h2 => infer_instance); (case h3 => infer_instance); (case h4 => walk_at "nl"); (case h5 => walk_at "nl"); (case h6 => walk_at "nl"); (case h7 => assumption); intro _ _ _ _ _ _ _))
def ow : Option Nat → V
  | none => .non
  | some j => .int j
def ToldX (Z : Ad) (T : List Int) (g : Int) (rs : List (Str × Int)) : Addr → Hp → Prop := fun t h => ∃ p l : Addr, Star Z.Space [⟨t, TV [.str "found", .ref p, .int g, .ref l]⟩, ⟨p, LI T⟩, ⟨l, WaysX Z rs⟩] h
theorem at_prev {ns ms : List Int} {z y : Int} (h : ns = ms ++ [z] ++ [y]) : atI (ns.map V.int) (-2) = some (.int z) := by
  subst h
  have hl : ((ms ++ [z] ++ [y]).map V.int).length = ms.length + 2 := by rw [List.length_map, List.length_append, List.length_append]; rfl
  unfold atI
  have e : ixN ((ms ++ [z] ++ [y]).map V.int).length (-2) = some ms.length := by
    unfold ixN
    rw [hl]
    split
    · omega
    · split
      · congr 1
        omega
      · omega
  rw [e, Option.bind_some, List.getElem?_map, List.getElem?_append_left (by rw [List.length_append]; exact Nat.lt_succ_self _), List.getElem?_append_right (Nat.le_refl _), Nat.sub_self]
  rfl
section
variable {K : PySem.W.Frag} {Z : Ad} {L R R1 R2 : List Atom} {H : Hp} {Q : VK} {E : XK} {vs : List V} {X : Addr → Hp → Prop} {xs : List V} {ns T : List Int} {ad : Int → Addr} {G : RingM} {r : Addr}
structure FarB (K : PySem.W.Frag) (Z : Ad) : Prop where
  ex : PySem.W.exmOne K (.ref Z.TooFar) (.ref Z.TooFar) = some true
  C : ExcC K Z.TooFar
  k1 : PySem.W.kitAny K (.ref Z.TooFar) [.ref Z.Alone, .ref Z.Fixed, .ref Z.LastOne, .ref Z.NoMember, .ref Z.NoOrder, .ref Z.NoPoint, .ref Z.NoRing, .ref Z.NoRow, .ref Z.NoSpace] = some false
  k2 : PySem.W.kitAny K (.ref Z.TooFar) [.ref Z.NoText, .ref Z.NoValue, .ref Z.Taken] = some false
  k3 : PySem.W.kitOne K (.ref Z.TooFar) (.ref Z.RingError) = some true
  k4 : PySem.W.kitOne K (.ref Z.TooFar) (.type "ValueError") = some true
def sp_TooFar___init__ (_ : PySem.W.Frag) (Z : Ad) : Sp := spX1 Z.TooFar "stood"
def sp_lookX (_ : PySem.W.Frag) (Z : Ad) : Sp := fun vs H Q E => ∃ (r : Addr) (pt via : Int) (w : Option Nat) (ad : Int → Addr) (G : RingM) (T : List Int) (g : Int) (L : List Atom), vs = [.ref r, .int pt, .int via, ow w] ∧ Sat Z (⟨r, RingX Z ad G⟩ :: L) H ∧ (0 ≤ pt ∧ pt < 2 ^ G.bits) ∧ via ∈ G.names ∧ Live G ∧ LookP G via pt T g ∧ T.length ≤ 64 ∧
  (∀ f H', (∀ j, w = some j → T.length ≤ j + 1) → Sat Z (⟨f, FoundX Z T g (rsn G T)⟩ :: ⟨r, RingX Z ad G⟩ :: L) H' → Q (.ref f) H') ∧
  (∀ j z d H', w = some j → j + 1 < T.length → T[j]? = some z → Sat Z (⟨d, Pt (.xd [("stood", .int z)])⟩ :: ⟨r, RingX Z ad G⟩ :: L) H' → E (.ref Z.TooFar) (some d) H')
def sp__law_told (_ : PySem.W.Frag) (Z : Ad) : Sp := fun vs H Q _ => ∃ (r : Addr) (pt via : Int) (w : Option Nat) (ad : Int → Addr) (G : RingM) (T : List Int) (g : Int) (L : List Atom), vs = [.ref r, .int pt, .int via, ow w] ∧ Sat Z (⟨r, RingX Z ad G⟩ :: L) H ∧ (0 ≤ pt ∧ pt < 2 ^ G.bits) ∧ via ∈ G.names ∧ Live G ∧ LookP G via pt T g ∧ T.length ≤ 64 ∧
  (∀ t H', (∀ j, w = some j → T.length ≤ j + 1) → Sat Z (⟨t, ToldX Z T g (rsn G T)⟩ :: ⟨r, RingX Z ad G⟩ :: L) H' → Q (.ref t) H') ∧
  (∀ j z t H', w = some j → j + 1 < T.length → T[j]? = some z → Sat Z (⟨t, TV [.str "far", .int z, .bl true]⟩ :: ⟨r, RingX Z ad G⟩ :: L) H' → Q (.ref t) H')
def sp__law_right (_ : PySem.W.Frag) (Z : Ad) : Sp := fun vs H Q _ => ∃ (r : Addr) (pt via : Int) (ad : Int → Addr) (G : RingM) (L : List Atom), vs = [.ref r, .int pt, .int via] ∧ Sat Z (⟨r, RingX Z ad G⟩ :: L) H ∧ (0 ≤ pt ∧ pt < 2 ^ G.bits) ∧ via ∈ G.names ∧ Live G ∧ ∀ H', Sat Z (⟨r, RingX Z ad G⟩ :: L) H' → Q (.bl true) H'
theorem use_right {pt via : Int} (e : vs = [.ref r, .int pt, .int via]) (s : Sat Z L H) (F : Fnd L r (RingX Z ad G) R) (h0 : 0 ≤ pt ∧ pt < 2 ^ G.bits) (h1 : via ∈ G.names) (h2 : Live G) (q : ∀ H', Sat Z (⟨r, RingX Z ad G⟩ :: R) H' → Q (.bl true) H') : sp__law_right K Z vs H Q E := ⟨r, pt, via, ad, G, R, e, s.fnd, h0, h1, h2, q⟩
def sp_law (K : PySem.W.Frag) (Z : Ad) : Sp := fun vs H Q _ => ∃ (a : Addr) (ns : List Int), vs = [.ref a] ∧ Sat Z [⟨a, RL K (ns.map V.int)⟩] H ∧ ns.length ≤ 63 ∧ ∀ H', Q (.bl true) H'
end
section
variable {K : PySem.W.Frag} {Z : Ad} {L R R1 R2 R3 R4 : List Atom} {H : Hp} {Q : VK} {p t t2 lp lw : Addr} {T : List Int} {g : Int} {rs : List (Str × Int)}
def toldD (T : List Int) (g : Int) (rs : List (Str × Int)) : PyData := .tuple [.str "found", .list (T.map PyData.int), .int g, .list (rs.map tD)]
theorem told_sh (h : RsOk rs) : Sh 3 (toldD T g rs) := .tuple (.cons (sh_str (by decide +kernel)) (.cons ((Sh.list (n := 0) .ints).mono (by decide)) (.cons .int (.cons (ways_sh h) .nil))))
theorem told_dp (s : Sat Z L H) (F1 : Fnd L t (TV [.str "found", .ref lp, .int g, .ref lw]) R1) (F2 : Fnd L lp (LI T) R2) (F3 : Fnd L lw (WaysX Z rs) R3) : Dp K H (.ref t) (toldD T g rs) :=
  .tup (SqT.of (s.fnd (p := t)).at0) (.cons (.str _) (.cons (dp_ints (SqL.of (s.fnd (p := lp)).at0)) (.cons (.int _) (.cons (ways_dp s F3) .nil))))
theorem told_dpX (s : Sat Z L H) (F1 : Fnd L t (ToldX Z T g rs) R1) : Dp K H (.ref t) (toldD T g rs) := by
  have s1 := s.fnd (p := t)
  obtain ⟨t0, h1, h2, s1, s2, c, ⟨p, l, x⟩, rr⟩ := s1
  have s3 : Sat Z (⟨t, TV [.str "found", .ref p, .int g, .ref l]⟩ :: ⟨p, LI T⟩ :: ⟨l, WaysX Z rs⟩ :: R1) H := ⟨t0, star_app s1 s2 c x rr⟩
  exact told_dp s3 inferInstance inferInstance inferInstance
theorem told_ne (s : Sat Z L H) (F : Fnd L t2 (ToldX Z T g rs) R) (F1 : Fnd L t (TV [.str "found", .ref lp, .int g, .ref lw]) R1) (F2 : Fnd L lp (LI T) R2) (F3 : Fnd L lw (WaysX Z rs) R3) (h : RsOk rs) (q : Q (.bl false) H) : rNeD K (.ref t2) (.ref t) H Q :=
  d_neF (n := 3) (told_dpX s F) (told_dp s F1 F2 F3) (told_sh h) (by decide) q
theorem told_eq (s : Sat Z L H) (F : Fnd L t2 (ToldX Z T g rs) R) (F1 : Fnd L t (TV [.str "found", .ref lp, .int g, .ref lw]) R1) (F2 : Fnd L lp (LI T) R2) (F3 : Fnd L lw (WaysX Z rs) R3) (h : RsOk rs) (q : Q (.bl true) H) : rEqD K (.ref t2) (.ref t) H Q :=
  d_eqT (n := 3) (told_dpX s F) (told_dp s F1 F2 F3) (told_sh h) (by decide) q
theorem far_ne {z : Int} (s : Sat Z L H) (F : Fnd L t2 (TV [.str "far", .int z, .bl true]) R) (F1 : Fnd L t (TV [.str "far", .int z, .bl true]) R1) (q : Q (.bl false) H) : rNeD K (.ref t2) (.ref t) H Q :=
  d_neF (n := 1) (d := .tuple [.str "far", .int z, .bool true]) (.tup (SqT.of (s.fnd (p := t2)).at0) (.cons (.str _) (.cons (.int _) (.cons (.bl _) .nil)))) (.tup (SqT.of (s.fnd (p := t)).at0) (.cons (.str _) (.cons (.int _) (.cons (.bl _) .nil)))) (.tuple (.cons (sh_str (by decide +kernel)) (.cons .int (.cons .bool .nil)))) (by decide) q
end
local macro_rules | `(tactic| walk_at "call") => `(tactic| first
  | ((with_reducible refine' use_right ?e ?h0 ?h1 ?h2 ?h3 ?h4 ?_); (case e => rfl); (case h0 => assumption); (case h1 => infer_instance); (case h2 => assumption); (case h3 => assumption); (case h4 => assumption); intro _ _))
def t_TooFar___init__ (K : PySem.W.Frag) (Z : Ad) : TS :=
  (tSeq (tDrop (tVeI K (tCons (tVar 0) (tCons (tC (.str "too far")) tNil))))
  (tOst K "stood" (tVar 0) (tVar 1)))
theorem rd_TooFar___init__ (K : PySem.W.Frag) (Z : Ad) (T : OexC K Z.TooFar) (N : PySem.W.findIn K (.ref Z.TooFar) "stood" = some none) : ∀ vs H Q E, sp_TooFar___init__ K Z vs H Q E → t_TooFar___init__ K Z { nx := fun _ H' => Q .non H', rt := Q } (start (["self", "stood"]) vs) H := by
  rintro _ H Q E ⟨a, v, rfl, h, q⟩
  show t_TooFar___init__ K Z _ [some (.ref a), some (v)] H
  unfold t_TooFar___init__
  walk_at "go"
  refine ⟨a, Z.TooFar, [_], rfl, (by show 1 ≤ 1000; decide), T, h, ?_⟩
  walk_at "go"
  exact ⟨a, Z.TooFar, rfl, T, N, .inl ⟨h, fun d hd hne => q d hd hne⟩⟩
def t_lookX (K : PySem.W.Frag) (Z : Ad) (E : XK) : TS :=
  (tSeq (tAsg (tMk Z.Seeker (sp_Seeker___init__ K Z) [.pos 0, .pos 1, .pos 2, .kw 0] [] [] 3 1 (fun _ => E0) (tCons (tVar 0) (tCons (tVar 1) tNil)) (tCons (tVar 2) tNil)) (gName 4))
  (tSeq (tWhile (tNot (tB (tMe Z.Seeker "step" (sp_Seeker_step K Z) [.pos 0] [] [] 1 0 (fun _ => E0) (tVar 4) tNil tNil))) (tSeq (tAsg (tMe Z.Seeker "way" (sp_Seeker_way K Z) [.pos 0] [] [] 1 0 (fun _ => E0) (tVar 4) tNil tNil) (gName 5))
  (tIfS (tAnd (tTest (tOp rNotN (tVar 3) (tC .non))) (tTest (tOp rGt (tOp rSub0 (tCB (rLenS K) (tCons (tVar 5) tNil)) (tC (.int 1))) (tVar 3)))) (tRsO E (tMkO Z.TooFar (sp_TooFar___init__ K Z) [] (tCons (tOp (rIxL K) (tVar 5) (tUn (rU fun i => .int (-i)) (tC (.int 2)))) tNil))) tNext)))
  (tSeq (tAsg (tMe Z.Seeker "way" (sp_Seeker_way K Z) [.pos 0] [] [] 1 0 (fun _ => E0) (tVar 4) tNil tNil) (gName 5))
  (tSeq (tAsg (tLc (iZip K (tCons (tVar 5) (tCons (tSl (rSlL K) (tVar 5) (tPart (tC (.int 1))) tNoPart) tNil))) (gTup K 2 (gCons (gName 7) (gCons (gName 8) gNil))) tYes (tCl (sp_known_by K Z) [.pos 0, .pos 1, .pos 2] [] [] 3 0 (fun _ => E0) (tCons (tVar 0) (tCons (tVar 7) (tCons (tVar 8) tNil))) tNil) [7, 8]) (gName 6))
  (tRet (tMk Z.Found (sp_Found___init__ K Z) [.pos 0, .pos 1, .pos 2, .pos 3] [] [] 4 0 (fun _ => E0) (tCons (tVar 5) (tCons (tMe Z.Seeker "answer" (sp_Seeker_answer K Z) [.pos 0] [] [] 1 0 (fun _ => E0) (tVar 4) tNil tNil) (tCons (tVar 6) tNil))) tNil))))))
theorem rd_lookX (K : PySem.W.Frag) (Z : Ad) : ∀ vs H Q E, sp_lookX K Z vs H Q E → t_lookX K Z E { nx := fun _ H' => Q .non H', rt := Q } (start (["ring", "point", "via", "within", "seeker", "trail", "reasons", "one", "other"]) vs) H := by
  rintro _ H Q E ⟨r, pt, via, w, ad, G, T, g, L, rfl, s, hpt, hvia, hlive, hlk, htl, q1, q2⟩
  have wf := ring_wf (r := r) s inferInstance
  have hT0 : 0 < T.length := (List.getElem?_eq_some_iff.mp hlk.first).1
  have fst : (⟨pt, [via], 0, none⟩ : SeekM) = seekAt T g pt 0 := by
    have h1 := hlk.first
    cases T with
    | nil => cases h1
    | cons z r =>
      obtain rfl : z = via := Option.some.inj h1
      rw [seekAt_lt (Nat.succ_pos _)]
      rfl
  show t_lookX K Z E _ [some (.ref r), some (.int pt), some (.int via), some (ow w), none, none, none, none, none] H
  unfold t_lookX
  walk_at "go"
  rename_i k H1 s1
  rw [fst] at s1
  refine sw_while (m0 := T.length) (fun m σ' L' => ∃ (i : Nat) (y : Option V), σ' = [some (.ref r), some (.int pt), some (.int via), some (ow w), some (.ref k), y, none, none, none] ∧ L' = ⟨k, SeekX Z r (seekAt T g pt i)⟩ :: ⟨r, RingX Z ad G⟩ :: L ∧ i < T.length ∧ m = T.length - i ∧ ∀ j, w = some j → i ≤ j) s1 ⟨0, _, rfl, rfl, hT0, rfl, fun _ _ => Nat.zero_le _⟩ ?_
  rintro m σ' L' H2 ⟨i, y, rfl, rfl, hi, rfl, hw⟩ s2
  obtain ⟨⟨a, ha⟩, hst⟩ := seek_go hlk hlive hpt htl i
  walk_at "go"
  rename_i H3 s3
  rw [hst] at s3 ⊢
  by_cases c : i + 1 < T.length
  · rw [seekAt_lt c] at s3 ⊢
    refine g_bT rfl ?_
    refine ⟨_, fun _ _ h => h, ?_⟩
    have hlen : (T.take (i + 1 + 1)).length = i + 2 := by rw [List.length_take]; omega
    walk_at "go"
    rename_i l4 H4 s4
    dsimp only at s4
    cases w with
    | none =>
      rw [if_neg (by rw [decide_eq_true (show ow none = V.non from rfl)]; decide)]
      walk_at "go"
      rw [← seekAt_lt (g := g) c] at s4
      exact ⟨_, by omega, _, ⟨i + 1, _, rfl, rfl, c, rfl, fun j e => by cases e⟩, s4.ent⟩
    | some j =>
      have hij := hw j rfl
      have e1 : decide (ow (some j) = V.non) = false := rfl
      rw [e1, if_pos (show (!false) = true from rfl), show ow (some j) = V.int (j : Int) from rfl]
      walk_at "go"
      refine g_ite (fun h => ?_) fun h => ?_
      · have hj : j = i := by rw [hlen] at h; omega
        subst hj
        have x2 : atI ((T.take (j + 1 + 1)).map V.int) (-2) = some (.int T[j]) := at_prev (by rw [List.take_add_one, List.take_add_one, List.getElem?_eq_getElem hi, List.getElem?_eq_getElem c]; rfl)
        walk_at "go"
        refine mkO_1 (C := Z.TooFar) (f := "stood") fun d hd => ?_
        exact q2 j T[j] d _ rfl c (List.getElem?_eq_getElem hi) ((s4.new hd (fun _ z => by cases z)).ent)
      · walk_at "go"
        rw [← seekAt_lt (g := g) c] at s4
        exact ⟨_, by omega, _, ⟨i + 1, _, rfl, rfl, c, rfl, fun j' e => by cases e; rw [hlen] at h; omega⟩, s4.ent⟩
  · rw [seekAt_ge (by omega)] at s3 ⊢
    refine g_bF rfl ?_
    walk_at "go"
    rename_i lt H4 s4 ld H5 s5
    have hrl : (rsn G T).length = (T.zip (T.drop 1)).length := List.length_map _
    have hzl : (T.zip (T.drop 1)).length ≤ 63 := by rw [List.length_zip, List.length_drop]; omega
    refine sc_zip s5 inferInstance inferInstance inferInstance inferInstance inferInstance inferInstance (fun i acc L' => ∃ as : List Addr, acc = as.map V.ref ∧ as.length = i ∧ L' = ⟨k, SeekX Z r ⟨pt, T, 0, some g⟩⟩ :: ⟨r, RingX Z ad G⟩ :: (tAtoms as ((rsn G T).take i) ++ L)) ⟨[], rfl, rfl, rfl⟩ ?_ ?_
    · rintro D i z acc t L' H6 hz ⟨as, rfl, has, rfl⟩ hacc s6
      obtain ⟨z1, z2⟩ := zip_get.mp hz
      have z2 : T[i + 1]? = some z.2 := by rw [List.getElem?_drop] at z2; rw [Nat.add_comm]; exact z2
      have zr : (rsn G T)[i]? = some (knownB G z.1 z.2) := by
        unfold rsn
        rw [List.getElem?_map]
        have hz : (T.zip (T.drop 1))[i]? = some z := hz
        rw [hz]
        rfl
      obtain ⟨o1, o2⟩ := hlk.hops i _ _ z1 z2
      have zm : z.1 ∈ G.names := hlk.mem _ (List.mem_of_getElem? z1)
      obtain ⟨a', hn'⟩ := hlive _ zm
      obtain ⟨nd, n1, n2⟩ := next_betw wf zm hpt hn' o1
      have n3 : z.2 = farM G nd z.1 pt := by rw [o2]; unfold farO; rw [n1]
      have n4 : z.2 ∈ nd.chain ∨ some z.2 ∈ nd.far := by
        rw [n3]
        exact (kn_mem.mp (List.mem_filter.mp (farM_mem (List.length_pos_of_mem n2))).1).2
      dsimp only [wipe, List.set]
      walk_at "go"
      rename_i q1 H7 s7
      have til : ((rsn G T).take i).length = i := by
        have := (List.getElem?_eq_some_iff.mp zr).1
        rw [List.length_take]
        omega
      have s8 := s7.ent (L' := ⟨D, Pt (.lst (as.map V.ref))⟩ :: ⟨lt, LI T⟩ :: ⟨ld, Pt (.lst ((T.drop (Int.toNat 1)).map V.int))⟩ :: ⟨k, SeekX Z r ⟨pt, T, 0, some g⟩⟩ :: ⟨r, RingX Z ad G⟩ :: ⟨q1, TV [.str (knownB G z.1 z.2).1, .int (knownB G z.1 z.2).2]⟩ :: (tAtoms as ((rsn G T).take i) ++ L))
      have s9 := s8.perm (L' := ⟨D, Pt (.lst (as.map V.ref))⟩ :: ⟨lt, LI T⟩ :: ⟨ld, Pt (.lst ((T.drop (Int.toNat 1)).map V.int))⟩ :: ⟨k, SeekX Z r ⟨pt, T, 0, some g⟩⟩ :: ⟨r, RingX Z ad G⟩ :: (tAtoms (as ++ [q1]) ((rsn G T).take (i + 1)) ++ L)) (by
        rw [List.take_add_one, zr, Option.toList_some, tAtoms_add (by rw [has, til]), List.append_assoc]
        iterate 5 refine List.Perm.cons _ ?_
        exact List.perm_middle.symm)
      have hil := (List.getElem?_eq_some_iff.mp hz).1
      have hil : i < (T.zip (T.drop 1)).length := hil
      refine ⟨_, s9.at0, sz_less (by rw [List.length_map, has]; omega), ⟨as.map V.ref ++ [.ref q1], _, ⟨_, rfl, as ++ [q1], by rw [List.map_append]; rfl, by rw [List.length_append, List.length_singleton, has], rfl⟩, by rw [List.length_append, List.length_map, List.length_singleton, has]; exact Nat.le_refl _, s9.put mutO_lst rfl⟩⟩
    · rintro D acc L' H6 ⟨as, rfl, has, rfl⟩ s6
      have has : as.length = (T.zip (T.drop 1)).length := has
      have s6 : Sat Z (⟨D, Pt (.lst (as.map V.ref))⟩ :: ⟨lt, LI T⟩ :: ⟨ld, Pt (.lst ((T.drop (Int.toNat 1)).map V.int))⟩ :: ⟨k, SeekX Z r ⟨pt, T, 0, some g⟩⟩ :: ⟨r, RingX Z ad G⟩ :: (tAtoms as ((rsn G T).take (T.zip (T.drop 1)).length) ++ L)) H6 := s6
      rw [List.take_of_length_le (by rw [hrl]; exact Nat.le_refl _)] at s6
      walk_at "go"
      have s7 := s6.ent (L' := ⟨lt, LI T⟩ :: ⟨D, LV (as.map V.ref)⟩ :: ⟨r, RingX Z ad G⟩ :: (tAtoms as (rsn G T) ++ L))
      have s8 := s7.perm (L' := ⟨lt, LI T⟩ :: ⟨D, LV (as.map V.ref)⟩ :: (tAtoms as (rsn G T) ++ (⟨r, RingX Z ad G⟩ :: L))) (by
        iterate 2 refine List.Perm.cons _ ?_
        exact List.perm_middle.symm)
      exact use_Found (fun _ => rfl) s8 fnd0 fnd0 (by rw [has, hrl]) ent0 fun x H7 s9 => q1 x H7 (fun j e => by have := hw j e; omega) s9
def t__law_told (K : PySem.W.Frag) (Z : Ad) : TS :=
  (tSeq (tAsg (tTup (tCons (tC (.str "other")) (tCons (tC .non) tNil))) (gName 4))
  (tSeq (sTryAs K (.ref Z.TooFar) 6 (fun a cls d => (tSeq (tAsg (tCB (rIsE3 K a cls d) (tCons (tVar 6) (tCons (tTup (tCons (tC (.ref Z.Alone)) (tCons (tC (.ref Z.Fixed)) (tCons (tC (.ref Z.LastOne)) (tCons (tC (.ref Z.NoMember)) (tCons (tC (.ref Z.NoOrder)) (tCons (tC (.ref Z.NoPoint)) (tCons (tC (.ref Z.NoRing)) (tCons (tC (.ref Z.NoRow)) (tCons (tC (.ref Z.NoSpace)) tNil)))))))))) tNil))) (gName 7))
  (tSeq (tAsg (tOrV (tVar 7) (tCB (rIsE3 K a cls d) (tCons (tVar 6) (tCons (tTup (tCons (tC (.ref Z.NoText)) (tCons (tC (.ref Z.NoValue)) (tCons (tC (.ref Z.Taken)) tNil)))) tNil)))) (gName 7))
  (tAsg (tTup (tCons (tC (.str "far")) (tCons (tXf a cls d Z.TooFar "stood" (tVar 6)) (tCons (tAndV (tCB (rIsE3 K a cls d) (tCons (tVar 6) (tCons (tC (.ref Z.RingError)) tNil))) (tAndV (tCB (rIsE3 K a cls d) (tCons (tVar 6) (tCons (tC (.ty "ValueError")) tNil))) (tNotV (tVar 7)))) tNil)))) (gName 4))))) (fun _ _ _ _ => False) (fun W => (tSeq (tAsg (tCl (sp_lookX K Z) [.pos 0, .pos 1, .kw 0, .kw 1] [] [] 2 2 (WE W) (tCons (tVar 0) (tCons (tVar 1) tNil)) (tCons (tVar 2) (tCons (tVar 3) tNil))) (gName 5))
  (tAsg (tTup (tCons (tC (.str "found")) (tCons (tMe Z.Found "path" (sp_Found_path K Z) [.pos 0] [] [] 1 0 (fun _ => E0) (tVar 5) tNil tNil) (tCons (tMe Z.Found "answer" (sp_Found_answer K Z) [.pos 0] [] [] 1 0 (fun _ => E0) (tVar 5) tNil tNil) (tCons (tMe Z.Found "ways" (sp_Found_ways K Z) [.pos 0] [] [] 1 0 (fun _ => E0) (tVar 5) tNil tNil) tNil))))) (gName 4)))))
  (tRet (tVar 4))))
theorem rd__law_told (K : PySem.W.Frag) (Z : Ad) (B : FarB K Z) : ∀ vs H Q E, sp__law_told K Z vs H Q E → t__law_told K Z { nx := fun _ H' => Q .non H', rt := Q } (start (["_law_ring", "_law_point_here", "_law_asker", "_law_limit", "_law_told_here", "_law_found", "e", "_law_others"]) vs) H := by
  rintro _ H Q E ⟨r, pt, via, w, ad, G, T, g, L, rfl, s, hpt, hvia, hlive, hlk, htl, q1, q2⟩
  show t__law_told K Z _ [some (.ref r), some (.int pt), some (.int via), some (ow w), none, none, none, none] H
  unfold t__law_told
  walk_at "go"
  rename_i t0 H1 s1
  walk_at "on"
  refine ⟨r, pt, via, w, ad, G, T, g, L, rfl, s1.ent, hpt, hvia, hlive, hlk, htl, fun f H2 hw s2 => ?_, fun j z d H2 hw hj hz s2 => ?_⟩
  · walk_at "go"
    rename_i p H3 s3 lw H4 s4 t H5 s5
    refine q1 t H5 hw ?_
    have s6 := s5.ent (L' := ⟨t, TV [.str "found", .ref p, .int g, .ref lw]⟩ :: ⟨p, LI T⟩ :: ⟨lw, WaysX Z (rsn G T)⟩ :: ⟨r, RingX Z ad G⟩ :: L)
    exact SatI.close (M := [⟨t, TV [.str "found", .ref p, .int g, .ref lw]⟩, ⟨p, LI T⟩, ⟨lw, WaysX Z (rsn G T)⟩]) s6 fun h m => ⟨p, lw, m⟩
  · refine ⟨true, B.ex, fun _ a ha => ?_, fun z => nomatch z⟩
    dsimp only [List.set]
    walk_at "go"
    rename_i tp H3 s3
    refine s_isET (us := [.ref Z.Alone, .ref Z.Fixed, .ref Z.LastOne, .ref Z.NoMember, .ref Z.NoOrder, .ref Z.NoPoint, .ref Z.NoRing, .ref Z.NoRow, .ref Z.NoSpace]) B.C s3 inferInstance inferInstance (by repeat (first | exact .nil | refine .cons (.own _) ?_)) B.k1 ?_
    walk_at "go"
    rename_i tp2 H4 s4
    refine s_isET (us := [.ref Z.NoText, .ref Z.NoValue, .ref Z.Taken]) B.C s4 inferInstance inferInstance (by repeat (first | exact .nil | refine .cons (.own _) ?_)) B.k2 ?_
    walk_at "go"
    refine s_xf (f := "stood") (dd := d) (fs := [("stood", .int z)]) (v := .int z) s4 inferInstance rfl ?_
    walk_at "go"
    refine s_isE B.C s4 inferInstance (.own _) B.k3 ?_
    walk_at "go"
    refine s_isE B.C s4 inferInstance (.ty _) B.k4 ?_
    walk_at "go"
    rename_i t2 H5 s5
    dsimp only [List.set]
    walk_at "go"
    have s6 : Sat Z (⟨t2, TV [.str "far", .int z, .bl true]⟩ :: ⟨tp2, Pt (.tup [.ref Z.NoText, .ref Z.NoValue, .ref Z.Taken])⟩ :: ⟨tp, Pt (.tup [.ref Z.Alone, .ref Z.Fixed, .ref Z.LastOne, .ref Z.NoMember, .ref Z.NoOrder, .ref Z.NoPoint, .ref Z.NoRing, .ref Z.NoRow, .ref Z.NoSpace])⟩ :: ⟨d, Pt (.xd [("stood", .int z)])⟩ :: ⟨r, RingX Z ad G⟩ :: L) H5 := s5
    exact q2 j z t2 H5 hw hj hz s6.ent
def t__law_right (K : PySem.W.Frag) (Z : Ad) : TS :=
  (tSeq (tAsg (tCl (sp_lookX K Z) [.pos 0, .pos 1, .kw 0, .kwd 0] [] [.non] 2 1 (fun _ => E0) (tCons (tVar 0) (tCons (tVar 1) tNil)) (tCons (tVar 2) tNil)) (gName 3))
  (tSeq (tAsg (tMe Z.Found "path" (sp_Found_path K Z) [.pos 0] [] [] 1 0 (fun _ => E0) (tVar 3) tNil tNil) (gName 4))
  (tSeq (tAsg (tTup (tCons (tC (.str "found")) (tCons (tVar 4) (tCons (tMe Z.Found "answer" (sp_Found_answer K Z) [.pos 0] [] [] 1 0 (fun _ => E0) (tVar 3) tNil tNil) (tCons (tMe Z.Found "ways" (sp_Found_ways K Z) [.pos 0] [] [] 1 0 (fun _ => E0) (tVar 3) tNil tNil) tNil))))) (gName 5))
  (tSeq (tIfS (tTest (tOp (rNeD K) (tCl (sp__law_told K Z) [.pos 0, .pos 1, .pos 2, .pos 3] [] [] 4 0 (fun _ => E0) (tCons (tVar 0) (tCons (tVar 1) (tCons (tVar 2) (tCons (tC .non) tNil)))) tNil) (tVar 5))) (tRet (tC (.bl false))) tNext)
  (tSeq (tFor (iRng1 (tCons (tOp rAdd0 (tCB (rLenS K) (tCons (tVar 4) tNil)) (tC (.int 1))) tNil)) (gName 6) (tSeq (tAsg (tVar 5) (gName 7))
  (tSeq (tIfS (tTest (tOp rLt (tVar 6) (tOp rSub0 (tCB (rLenS K) (tCons (tVar 4) tNil)) (tC (.int 1))))) (tAsg (tTup (tCons (tC (.str "far")) (tCons (tOp (rIxL K) (tVar 4) (tVar 6)) (tCons (tC (.bl true)) tNil)))) (gName 7)) tNext)
  (tIfS (tTest (tOp (rNeD K) (tCl (sp__law_told K Z) [.pos 0, .pos 1, .pos 2, .pos 3] [] [] 4 0 (fun _ => E0) (tCons (tVar 0) (tCons (tVar 1) (tCons (tVar 2) (tCons (tVar 6) tNil)))) tNil) (tVar 7))) (tRet (tC (.bl false))) tNext))))
  (tRet (tOp (rEqD K) (tCl (sp__law_told K Z) [.pos 0, .pos 1, .pos 2, .pos 3] [] [] 4 0 (fun _ => E0) (tCons (tVar 0) (tCons (tVar 1) (tCons (tVar 2) (tCons (tC .non) tNil)))) tNil) (tVar 5))))))))
theorem rd__law_right (K : PySem.W.Frag) (Z : Ad) : ∀ vs H Q E, sp__law_right K Z vs H Q E → t__law_right K Z { nx := fun _ H' => Q .non H', rt := Q } (start (["_law_ring", "_law_point_here", "_law_asker", "_law_free", "_law_path", "_law_whole", "_law_limit", "_law_due"]) vs) H := by
  rintro _ H Q E ⟨r, pt, via, ad, G, L, rfl, s, hpt, hvia, hlive, q⟩
  have wf := ring_wf (r := r) s inferInstance
  obtain ⟨T, g, hlk, htl⟩ := look_ex wf hlive hpt hvia
  have hT0 : 0 < T.length := (List.getElem?_eq_some_iff.mp hlk.first).1
  have hok : RsOk (rsn G T) := rsn_ok
  show t__law_right K Z _ [some (.ref r), some (.int pt), some (.int via), none, none, none, none, none] H
  unfold t__law_right
  walk_at "go"
  refine ⟨r, pt, via, none, ad, G, T, g, L, rfl, s, hpt, hvia, hlive, hlk, htl, fun f H1 _ s1 => ?_, fun j z d H' h => by cases h⟩
  walk_at "go"
  rename_i lp H2 s2 lw H3 s3 t H4 s4
  have s5 := s4.ent (L' := ⟨r, RingX Z ad G⟩ :: ⟨t, TV [.str "found", .ref lp, .int g, .ref lw]⟩ :: ⟨lp, LI T⟩ :: ⟨lw, WaysX Z (rsn G T)⟩ :: L)
  clear s1 s2 s3 s4
  walk_at "on"
  refine ⟨r, pt, via, none, ad, G, T, g, _, rfl, s5, hpt, hvia, hlive, hlk, htl, fun t2 H5 _ s6 => ?_, fun j z d H' h => by cases h⟩
  walk_at "go"
  refine told_ne (t2 := t2) (t := t) (T := T) (g := g) (rs := rsn G T) (lp := lp) (lw := lw) s6 inferInstance inferInstance inferInstance inferInstance hok ?_
  have s7 := s6.ent (L' := ⟨r, RingX Z ad G⟩ :: ⟨t, TV [.str "found", .ref lp, .int g, .ref lw]⟩ :: ⟨lp, LI T⟩ :: ⟨lw, WaysX Z (rsn G T)⟩ :: L)
  clear s6 s5
  walk_at "go"
  refine sf_rng s7 (by omega) (fun i σ' L' => ∃ y6 y7, σ' = [some (.ref r), some (.int pt), some (.int via), some (.ref f), some (.ref lp), some (.ref t), y6, y7] ∧ L' = ⟨r, RingX Z ad G⟩ :: ⟨t, TV [.str "found", .ref lp, .int g, .ref lw]⟩ :: ⟨lp, LI T⟩ :: ⟨lw, WaysX Z (rsn G T)⟩ :: L) ⟨_, _, rfl, rfl⟩ ?_ ?_
  · rintro i σ' L' H6 hi ⟨y6, y7, rfl, rfl⟩ s8
    walk_at "go"
    refine g_seqJ (M := fun σ' H' => ∃ y : V, σ' = [some (.ref r), some (.int pt), some (.int via), some (.ref f), some (.ref lp), some (.ref t), some (.int i), some y] ∧ ((T.length ≤ i + 1 ∧ y = .ref t ∧ Sat Z (⟨r, RingX Z ad G⟩ :: ⟨t, TV [.str "found", .ref lp, .int g, .ref lw]⟩ :: ⟨lp, LI T⟩ :: ⟨lw, WaysX Z (rsn G T)⟩ :: L) H') ∨
      ∃ (t3 : Addr) (z : Int), i + 1 < T.length ∧ T[i]? = some z ∧ y = .ref t3 ∧ Sat Z (⟨r, RingX Z ad G⟩ :: ⟨t3, TV [.str "far", .int z, .bl true]⟩ :: ⟨t, TV [.str "found", .ref lp, .int g, .ref lw]⟩ :: ⟨lp, LI T⟩ :: ⟨lw, WaysX Z (rsn G T)⟩ :: L) H')) ?_ fun N hN => ?_
    · rintro σ' H7 ⟨y, rfl, ⟨hl, rfl, s9⟩ | ⟨t3, z, hl, hz, rfl, s9⟩⟩
      · walk_at "go"
        refine ⟨r, pt, via, some i, ad, G, T, g, _, rfl, s9, hpt, hvia, hlive, hlk, htl, fun t2 H5 _ s6 => ?_, fun j z d H' h h2 => by cases h; omega⟩
        walk_at "go"
        refine told_ne (t2 := t2) (t := t) (T := T) (g := g) (rs := rsn G T) (lp := lp) (lw := lw) s6 inferInstance inferInstance inferInstance inferInstance hok ?_
        walk_at "go"
        exact ⟨_, ⟨_, _, rfl, rfl⟩, s6.ent⟩
      · walk_at "go"
        refine ⟨r, pt, via, some i, ad, G, T, g, _, rfl, s9, hpt, hvia, hlive, hlk, htl, fun t2 H5 h _ => by have := h i rfl; omega, fun j z' t2 H5 h h2 h3 s6 => ?_⟩
        cases h
        obtain rfl : z = z' := Option.some.inj (hz.symm.trans h3)
        walk_at "go"
        refine far_ne (t2 := t2) (t := t3) (z := z) s6 inferInstance inferInstance ?_
        walk_at "go"
        exact ⟨_, ⟨_, _, rfl, rfl⟩, s6.ent⟩
    · walk_at "go"
      refine g_ite (fun h => ?_) fun h => ?_
      · have i1 : i < T.length := by omega
        have x1 : atI (T.map V.int) (i : Int) = some (.int T[i]) := atI_nat (by rw [List.getElem?_map, List.getElem?_eq_getElem i1]; rfl)
        walk_at "go"
        rename_i t3 H7 s9
        exact hN _ _ ⟨_, rfl, .inr ⟨t3, T[i], by omega, List.getElem?_eq_getElem i1, rfl, s9.ent⟩⟩
      · walk_at "go"
        exact hN _ _ ⟨_, rfl, .inl ⟨by omega, rfl, s8⟩⟩
  · rintro σ' L' H6 ⟨y6, y7, rfl, rfl⟩ s8
    walk_at "go"
    refine ⟨r, pt, via, none, ad, G, T, g, _, rfl, s8, hpt, hvia, hlive, hlk, htl, fun t2 H5 _ s6 => ?_, fun j z d H' h => by cases h⟩
    walk_at "go"
    refine told_eq (t2 := t2) (t := t) (T := T) (g := g) (rs := rsn G T) (lp := lp) (lw := lw) s6 inferInstance inferInstance inferInstance inferInstance hok ?_
    exact q _ s6.ent
def t_law (K : PySem.W.Frag) (Z : Ad) : TS :=
  (tSeq (tFor (iRng1 (tCons (tCB rMax2 (tCons (tC (.int 2)) (tCons (tCB rMin2 (tCons (tC (.int 8)) (tCons (tCB (rLenS K) (tCons (tVar 0) tNil)) tNil))) tNil))) tNil)) (gName 1) (tSeq (tAsg (tCl (sp__law_pot K Z) [.pos 0, .pos 1] [] [] 2 0 (fun _ => E0) (tCons (tVar 0) (tCons (tVar 1) tNil)) tNil) (gName 2))
  (tSeq (tAsg (tCl (sp__law_bits K Z) [.pos 0] [] [] 1 0 (fun _ => E0) (tCons (tVar 2) tNil) tNil) (gName 3))
  (tSeq (tAsg (tCl (sp__law_size K Z) [.pos 0] [] [] 1 0 (fun _ => E0) (tCons (tVar 3) tNil) tNil) (gName 4))
  (tSeq (tAsg (tOp rAdd0 (tC (.int 1)) (tCl (sp__law_take K Z) [.pos 0, .pos 1] [] [] 2 0 (fun _ => E0) (tCons (tVar 2) (tCons (tC (.int 4)) tNil)) tNil)) (gName 5))
  (tSeq (tAsg (tCl (sp__law_base K Z) [.pos 0, .pos 1, .pos 2] [] [] 3 0 (fun _ => E0) (tCons (tVar 2) (tCons (tVar 4) (tCons (tVar 5) tNil))) tNil) (gName 6))
  (tSeq (tAsg (tMk Z.Ring (sp_Ring___init__ K Z) [.pos 0, .pos 1, .kw 0, .kw 1] [] [] 2 2 (fun _ => E0) (tCons (tVar 6) tNil) (tCons (tVar 3) (tCons (tVar 5) tNil))) (gName 7))
  (tFor (iList K (tCl (sp__law_asked K Z) [.pos 0, .pos 1, .pos 2] [] [] 3 0 (fun _ => E0) (tCons (tVar 2) (tCons (tVar 4) (tCons (tVar 6) tNil))) tNil)) (gName 8) (tIfS (tNot (tB (tCl (sp__law_right K Z) [.pos 0, .pos 1, .pos 2] [] [] 3 0 (fun _ => E0) (tCons (tVar 7) (tCons (tVar 8) (tCons (tOp (rIxL K) (tVar 6) (tCl (sp__law_take K Z) [.pos 0, .pos 1] [] [] 2 0 (fun _ => E0) (tCons (tVar 2) (tCons (tCB (rLenS K) (tCons (tVar 6) tNil)) tNil)) tNil)) tNil))) tNil))) (tRet (tC (.bl false))) tNext)))))))))
  (tRet (tC (.bl true))))
theorem rd_law (K : PySem.W.Frag) (Z : Ad) : ∀ vs H Q E, sp_law K Z vs H Q E → t_law K Z { nx := fun _ H' => Q .non H', rt := Q } (start (["_law_script", "_law_k", "_law_pot_here", "_law_wide", "_law_size_here", "_law_room", "_law_names", "_law_ring", "_law_point_here"]) vs) H := by
  rintro _ H Q E ⟨a, ns, rfl, s, hl, q⟩
  show t_law K Z _ [some (.ref a), none, none, none, none, none, none, none, none] H
  unfold t_law
  walk_at "go"
  refine sf_rng s (by constructor <;> walk_at "ifs") (fun i σ' L' => ∃ y1 y2 y3 y4 y5 y6 y7 y8, σ' = [some (.ref a), y1, y2, y3, y4, y5, y6, y7, y8] ∧ L' = [⟨a, RL K (ns.map V.int)⟩]) ?_ ?_ ?_
  · exact ⟨_, _, _, _, _, _, _, _, rfl, rfl⟩
  · rintro i _ _ H1 hi ⟨y1, y2, y3, y4, y5, y6, y7, y8, rfl, rfl⟩ s1
    have hi2 : (i : Int) < 8 := by
      refine Int.lt_of_lt_of_le hi ?_
      walk_at "ifs"
    clear hi s
    walk_at "go"
    rename_i pp H2 s2 n H3 n0 n1 s3 H4 s4 r H5 r0 r1 s5
    obtain ⟨b, rfl⟩ : ∃ b : Nat, n = b := ⟨n.toNat, by omega⟩
    rw [Int.toNat_natCast]
    have hb : 3 ≤ b ∧ b ≤ 32 := by omega
    clear s2 s3 s4 s1
    obtain ⟨k, hk⟩ : ∃ k, k = 1 + r := ⟨_, rfl⟩
    rw [← hk]
    have hm := pw_hi hb.2
    have hm2 := pw_lo hb.1
    walk_at "go"
    rename_i l ms H6 g1 g2 g3 g4 s6 x ad H7 s7 lk as H8 g5 g6 g7 s8
    have hk2 : 1 ≤ k := by omega
    rw [Int.toNat_natCast] at s8
    have s9 := s8.ent (L' := ⟨lk, LI as⟩ :: ⟨pp, PotA⟩ :: ⟨l, LI ms⟩ :: ⟨x, RingX Z ad (newR b k ms)⟩ :: [⟨a, RL K (ns.map V.int)⟩])
    have hms2 : 2 ≤ ms.length := by omega
    refine sf_list s9 inferInstance inferInstance (fun i' σ' L' => ∃ y8, σ' = [some (.ref a), some (.int i), some (.ref pp), some (.int b), some (.int (2 ^ b)), some (.int k), some (.ref l), some (.ref x), y8] ∧ L' = ⟨pp, PotA⟩ :: ⟨l, LI ms⟩ :: ⟨x, RingX Z ad (newR b k ms)⟩ :: [⟨a, RL K (ns.map V.int)⟩]) ⟨_, rfl, rfl⟩ ?_ ?_
    · rintro i1 v σ' L' H9 hv ⟨y8, rfl, rfl⟩ s10
      obtain ⟨pt, hpt, rfl⟩ := get_map hv
      have hpt2 := g5 pt (List.mem_of_getElem? hpt)
      walk_at "go"
      rename_i t H11 t0 t1 s12 via hvia
      have hvm : via ∈ (newR b k ms).names := mem_new.mpr hvia
      have hlv := live_new hk2 g3 g4 hms2
      refine use_right (G := newR b k ms) rfl s12 inferInstance hpt2 hvm hlv fun H12 s13 => ?_
      walk_at "go"
      exact ⟨_, ⟨_, rfl, rfl⟩, s13.ent⟩
    · rintro σ' L' H9 ⟨y8, rfl, rfl⟩ s10
      exact ⟨_, ⟨_, _, _, _, _, _, _, _, rfl, rfl⟩, s10.ent⟩
  · rintro _ _ H' ⟨y1, y2, y3, y4, y5, y6, y7, y8, rfl, rfl⟩ s'
    walk_at "go"
    exact q _
end NN
namespace NN
open PySem L2
theorem sc_is_whole : FnScope ["thing"] ["thing"] (defScope s_is_whole) := ⟨rfl, rfl, rfl, by decide +kernel, rfl, by decide +kernel, by decide +kernel⟩
theorem sc_Space___init__ : FnScope ["self", "bits"] ["self", "bits"] (defScope s_Space___init__) := ⟨rfl, rfl, rfl, by decide +kernel, rfl, by decide +kernel, by decide +kernel⟩
theorem sc_Space_bits : FnScope ["self"] ["self"] (defScope s_Space_bits) := ⟨rfl, rfl, rfl, by decide +kernel, rfl, by decide +kernel, by decide +kernel⟩
theorem sc_Space_size : FnScope ["self"] ["self"] (defScope s_Space_size) := ⟨rfl, rfl, rfl, by decide +kernel, rfl, by decide +kernel, by decide +kernel⟩
theorem sc_Space_has : FnScope ["self", "thing"] ["self", "thing"] (defScope s_Space_has) := ⟨rfl, rfl, rfl, by decide +kernel, rfl, by decide +kernel, by decide +kernel⟩
theorem sc_Space_distance : FnScope ["self", "one", "other"] ["self", "one", "other"] (defScope s_Space_distance) := ⟨rfl, rfl, rfl, by decide +kernel, rfl, by decide +kernel, by decide +kernel⟩
theorem sc_Space_is_between : FnScope ["self", "point", "one", "other", "far"] ["self", "point", "one", "other"] (defScope s_Space_is_between) := ⟨rfl, rfl, rfl, by decide +kernel, rfl, by decide +kernel, by decide +kernel⟩
theorem sc_Space_nearest : FnScope ["self", "points", "point", "one"] ["self", "points", "point"] (defScope s_Space_nearest) := ⟨rfl, rfl, rfl, by decide +kernel, rfl, by decide +kernel, by decide +kernel⟩
theorem sc_Space_preceding : FnScope ["self", "points", "point", "one"] ["self", "points", "point"] (defScope s_Space_preceding) := ⟨rfl, rfl, rfl, by decide +kernel, rfl, by decide +kernel, by decide +kernel⟩
theorem sc_Node___init__ : FnScope ["self", "chain", "prior", "far"] ["self", "chain", "prior", "far"] (defScope s_Node___init__) := ⟨rfl, rfl, rfl, by decide +kernel, rfl, by decide +kernel, by decide +kernel⟩
theorem sc_upwards : FnScope ["space", "names", "point", "name"] ["space", "names", "point"] (defScope s_upwards) := ⟨rfl, rfl, rfl, by decide +kernel, rfl, by decide +kernel, by decide +kernel⟩
theorem sc_others_upwards : FnScope ["space", "names", "name", "one"] ["space", "names", "name"] (defScope s_others_upwards) := ⟨rfl, rfl, rfl, by decide +kernel, rfl, by decide +kernel, by decide +kernel⟩
theorem sc_far_point : FnScope ["space", "name", "k"] ["space", "name", "k"] (defScope s_far_point) := ⟨rfl, rfl, rfl, by decide +kernel, rfl, by decide +kernel, by decide +kernel⟩
theorem sc_right_chain : FnScope ["space", "names", "name", "many"] ["space", "names", "name", "many"] (defScope s_right_chain) := ⟨rfl, rfl, rfl, by decide +kernel, rfl, by decide +kernel, by decide +kernel⟩
theorem sc_right_far : FnScope ["space", "names", "name", "k"] ["space", "names", "name"] (defScope s_right_far) := ⟨rfl, rfl, rfl, by decide +kernel, rfl, by decide +kernel, by decide +kernel⟩
theorem sc_right_node : FnScope ["space", "names", "name", "many", "chain"] ["space", "names", "name", "many"] (defScope s_right_node) := ⟨rfl, rfl, rfl, by decide +kernel, rfl, by decide +kernel, by decide +kernel⟩
theorem sc_is_length : FnScope ["thing"] ["thing"] (defScope s_is_length) := ⟨rfl, rfl, rfl, by decide +kernel, rfl, by decide +kernel, by decide +kernel⟩
theorem sc_are_base : FnScope ["space", "thing", "many", "one"] ["space", "thing", "many"] (defScope s_are_base) := ⟨rfl, rfl, rfl, by decide +kernel, rfl, by decide +kernel, by decide +kernel⟩
theorem sc_space_of : FnScope ["bits", "space", "e"] ["bits"] (defScope s_space_of) := ⟨rfl, rfl, rfl, by decide +kernel, rfl, by decide +kernel, by decide +kernel⟩
theorem sc_Ring___init__ : FnScope ["self", "base", "bits", "length", "circle", "name"] ["self", "base", "bits", "length"] (defScope s_Ring___init__) := ⟨rfl, rfl, rfl, by decide +kernel, rfl, by decide +kernel, by decide +kernel⟩
theorem sc_Ring_space : FnScope ["self"] ["self"] (defScope s_Ring_space) := ⟨rfl, rfl, rfl, by decide +kernel, rfl, by decide +kernel, by decide +kernel⟩
theorem sc_Ring_base : FnScope ["self"] ["self"] (defScope s_Ring_base) := ⟨rfl, rfl, rfl, by decide +kernel, rfl, by decide +kernel, by decide +kernel⟩
theorem sc_Ring_members : FnScope ["self"] ["self"] (defScope s_Ring_members) := ⟨rfl, rfl, rfl, by decide +kernel, rfl, by decide +kernel, by decide +kernel⟩
theorem sc_Ring_is_member : FnScope ["self", "thing"] ["self", "thing"] (defScope s_Ring_is_member) := ⟨rfl, rfl, rfl, by decide +kernel, rfl, by decide +kernel, by decide +kernel⟩
theorem sc_Ring_node : FnScope ["self", "name"] ["self", "name"] (defScope s_Ring_node) := ⟨rfl, rfl, rfl, by decide +kernel, rfl, by decide +kernel, by decide +kernel⟩
theorem sc_Ring_links : FnScope ["self", "name"] ["self", "name"] (defScope s_Ring_links) := ⟨rfl, rfl, rfl, by decide +kernel, rfl, by decide +kernel, by decide +kernel⟩
theorem sc_Ring_next_of : FnScope ["self", "name"] ["self", "name"] (defScope s_Ring_next_of) := ⟨rfl, rfl, rfl, by decide +kernel, rfl, by decide +kernel, by decide +kernel⟩
theorem sc_Ring_fingers : FnScope ["self", "name"] ["self", "name"] (defScope s_Ring_fingers) := ⟨rfl, rfl, rfl, by decide +kernel, rfl, by decide +kernel, by decide +kernel⟩
theorem sc_first_of : FnScope ["names", "some", "name"] ["names", "some"] (defScope s_first_of) := ⟨rfl, rfl, rfl, by decide +kernel, rfl, by decide +kernel, by decide +kernel⟩
theorem sc_Ring_want_point : FnScope ["self", "thing"] ["self", "thing"] (defScope s_Ring_want_point) := ⟨rfl, rfl, rfl, by decide +kernel, rfl, by decide +kernel, by decide +kernel⟩
theorem sc_farthest : FnScope ["ring", "here", "point", "known", "between", "space", "name"] ["ring", "here", "point"] (defScope s_farthest) := ⟨rfl, rfl, rfl, by decide +kernel, rfl, by decide +kernel, by decide +kernel⟩
theorem sc_known_by : FnScope ["ring", "here", "name", "links"] ["ring", "here", "name"] (defScope s_known_by) := ⟨rfl, rfl, rfl, by decide +kernel, rfl, by decide +kernel, by decide +kernel⟩
theorem sc_Seeker___init__ : FnScope ["self", "ring", "point", "via"] ["self", "ring", "point", "via"] (defScope s_Seeker___init__) := ⟨rfl, rfl, rfl, by decide +kernel, rfl, by decide +kernel, by decide +kernel⟩
theorem sc_Seeker_step : FnScope ["self"] ["self"] (defScope s_Seeker_step) := ⟨rfl, rfl, rfl, by decide +kernel, rfl, by decide +kernel, by decide +kernel⟩
theorem sc_Seeker_go_on : FnScope ["self", "here"] ["self"] (defScope s_Seeker_go_on) := ⟨rfl, rfl, rfl, by decide +kernel, rfl, by decide +kernel, by decide +kernel⟩
theorem sc_Seeker_go_back : FnScope ["self", "left", "name"] ["self"] (defScope s_Seeker_go_back) := ⟨rfl, rfl, rfl, by decide +kernel, rfl, by decide +kernel, by decide +kernel⟩
theorem sc_Seeker_go_upwards : FnScope ["self", "here", "after"] ["self", "here", "after"] (defScope s_Seeker_go_upwards) := ⟨rfl, rfl, rfl, by decide +kernel, rfl, by decide +kernel, by decide +kernel⟩
theorem sc_Seeker_at : FnScope ["self"] ["self"] (defScope s_Seeker_at) := ⟨rfl, rfl, rfl, by decide +kernel, rfl, by decide +kernel, by decide +kernel⟩
theorem sc_Seeker_way : FnScope ["self"] ["self"] (defScope s_Seeker_way) := ⟨rfl, rfl, rfl, by decide +kernel, rfl, by decide +kernel, by decide +kernel⟩
theorem sc_Seeker_answer : FnScope ["self"] ["self"] (defScope s_Seeker_answer) := ⟨rfl, rfl, rfl, by decide +kernel, rfl, by decide +kernel, by decide +kernel⟩
theorem sc_Found___init__ : FnScope ["self", "trail", "goal", "reasons"] ["self", "trail", "goal", "reasons"] (defScope s_Found___init__) := ⟨rfl, rfl, rfl, by decide +kernel, rfl, by decide +kernel, by decide +kernel⟩
theorem sc_Found_path : FnScope ["self"] ["self"] (defScope s_Found_path) := ⟨rfl, rfl, rfl, by decide +kernel, rfl, by decide +kernel, by decide +kernel⟩
theorem sc_Found_answer : FnScope ["self"] ["self"] (defScope s_Found_answer) := ⟨rfl, rfl, rfl, by decide +kernel, rfl, by decide +kernel, by decide +kernel⟩
theorem sc_Found_ways : FnScope ["self"] ["self"] (defScope s_Found_ways) := ⟨rfl, rfl, rfl, by decide +kernel, rfl, by decide +kernel, by decide +kernel⟩
theorem sc_lookX : FnScope ["ring", "point", "via", "within", "seeker", "trail", "reasons", "one", "other"] ["ring", "point", "via", "within"] (defScope s_lookX) := ⟨rfl, rfl, rfl, by decide +kernel, rfl, by decide +kernel, by decide +kernel⟩
theorem sc_TooFar___init__ : FnScope ["self", "stood"] ["self", "stood"] (defScope s_TooFar___init__) := ⟨rfl, rfl, rfl, by decide +kernel, rfl, by decide +kernel, by decide +kernel⟩
theorem sc__law_pot : FnScope ["_law_script", "_law_k", "_law_cell", "_law_mixed", "_law_one"] ["_law_script", "_law_k"] (defScope s__law_pot) := ⟨rfl, rfl, rfl, by decide +kernel, rfl, by decide +kernel, by decide +kernel⟩
theorem sc__law_take : FnScope ["_law_pot_here", "_law_room", "_law_digit"] ["_law_pot_here", "_law_room"] (defScope s__law_take) := ⟨rfl, rfl, rfl, by decide +kernel, rfl, by decide +kernel, by decide +kernel⟩
theorem sc__law_bits : FnScope ["_law_pot_here"] ["_law_pot_here"] (defScope s__law_bits) := ⟨rfl, rfl, rfl, by decide +kernel, rfl, by decide +kernel, by decide +kernel⟩
theorem sc__law_point : FnScope ["_law_pot_here", "_law_size_here", "_law_near", "_law_way", "_law_far"] ["_law_pot_here", "_law_size_here", "_law_near"] (defScope s__law_point) := ⟨rfl, rfl, rfl, by decide +kernel, rfl, by decide +kernel, by decide +kernel⟩
theorem sc__law_points : FnScope ["_law_pot_here", "_law_size_here", "_law_near", "_law_room", "_law_k"] ["_law_pot_here", "_law_size_here", "_law_near", "_law_room"] (defScope s__law_points) := ⟨rfl, rfl, rfl, by decide +kernel, rfl, by decide +kernel, by decide +kernel⟩
theorem sc__law_size : FnScope ["_law_wide", "_law_size_here", "_law_turn"] ["_law_wide"] (defScope s__law_size) := ⟨rfl, rfl, rfl, by decide +kernel, rfl, by decide +kernel, by decide +kernel⟩
theorem sc__law_base : FnScope ["_law_pot_here", "_law_size_here", "_law_room", "_law_near", "_law_found", "_law_point_here"] ["_law_pot_here", "_law_size_here", "_law_room"] (defScope s__law_base) := ⟨rfl, rfl, rfl, by decide +kernel, rfl, by decide +kernel, by decide +kernel⟩
theorem sc__law_asked : FnScope ["_law_pot_here", "_law_size_here", "_law_names", "_law_found", "_law_name", "_law_k"] ["_law_pot_here", "_law_size_here", "_law_names"] (defScope s__law_asked) := ⟨rfl, rfl, rfl, by decide +kernel, rfl, by decide +kernel, by decide +kernel⟩
theorem sc__law_told : FnScope ["_law_ring", "_law_point_here", "_law_asker", "_law_limit", "_law_told_here", "_law_found", "e", "_law_others"] ["_law_ring", "_law_point_here", "_law_asker", "_law_limit"] (defScope s__law_told) := ⟨rfl, rfl, rfl, by decide +kernel, rfl, by decide +kernel, by decide +kernel⟩
theorem sc__law_right : FnScope ["_law_ring", "_law_point_here", "_law_asker", "_law_free", "_law_path", "_law_whole", "_law_limit", "_law_due"] ["_law_ring", "_law_point_here", "_law_asker"] (defScope s__law_right) := ⟨rfl, rfl, rfl, by decide +kernel, rfl, by decide +kernel, by decide +kernel⟩
theorem sc_law : FnScope ["_law_script", "_law_k", "_law_pot_here", "_law_wide", "_law_size_here", "_law_room", "_law_names", "_law_ring", "_law_point_here"] ["_law_script"] (defScope s_law) := ⟨rfl, rfl, rfl, by decide +kernel, rfl, by decide +kernel, by decide +kernel⟩
theorem cb_is_whole_1 {K : PySem.W.Frag} {f : Addr} {fd : FuncData} (F : FunS K "is_whole" "is_whole" s_is_whole [] [] f fd) : CallB K fd ["thing"] 1 [] [.pos 0] [] [] :=
  callb_p F (fun _ _ _ _ _ _ us ws hn hm => match us, hn, ws, hm with | [_], _, [], _ => rfl)
theorem cb_Space_size_1 {K : PySem.W.Frag} {f : Addr} {fd : FuncData} (F : FunS K "size" "Space.size" s_Space_size [] [] f fd) : CallB K fd ["self"] 1 [] [.pos 0] [] [] :=
  callb_p F (fun _ _ _ _ _ _ us ws hn hm => match us, hn, ws, hm with | [_], _, [], _ => rfl)
theorem cb_Space_distance_3 {K : PySem.W.Frag} {f : Addr} {fd : FuncData} (F : FunS K "distance" "Space.distance" s_Space_distance [] [] f fd) : CallB K fd ["self", "one", "other"] 3 [] [.pos 0, .pos 1, .pos 2] [] [] :=
  callb_p F (fun _ _ _ _ _ _ us ws hn hm => match us, hn, ws, hm with | [_, _, _], _, [], _ => rfl)
theorem cb_upwards_3 {K : PySem.W.Frag} {f : Addr} {fd : FuncData} (F : FunS K "upwards" "upwards" s_upwards [] [] f fd) : CallB K fd ["space", "names", "point"] 3 [] [.pos 0, .pos 1, .pos 2] [] [] :=
  callb_p F (fun _ _ _ _ _ _ us ws hn hm => match us, hn, ws, hm with | [_, _, _], _, [], _ => rfl)
theorem cb_others_upwards_3 {K : PySem.W.Frag} {f : Addr} {fd : FuncData} (F : FunS K "others_upwards" "others_upwards" s_others_upwards [] [] f fd) : CallB K fd ["space", "names", "name"] 3 [] [.pos 0, .pos 1, .pos 2] [] [] :=
  callb_p F (fun _ _ _ _ _ _ us ws hn hm => match us, hn, ws, hm with | [_, _, _], _, [], _ => rfl)
theorem cb_Space_bits_1 {K : PySem.W.Frag} {f : Addr} {fd : FuncData} (F : FunS K "bits" "Space.bits" s_Space_bits [] [] f fd) : CallB K fd ["self"] 1 [] [.pos 0] [] [] :=
  callb_p F (fun _ _ _ _ _ _ us ws hn hm => match us, hn, ws, hm with | [_], _, [], _ => rfl)
theorem cb_far_point_3 {K : PySem.W.Frag} {f : Addr} {fd : FuncData} (F : FunS K "far_point" "far_point" s_far_point [] [] f fd) : CallB K fd ["space", "name", "k"] 3 [] [.pos 0, .pos 1, .pos 2] [] [] :=
  callb_p F (fun _ _ _ _ _ _ us ws hn hm => match us, hn, ws, hm with | [_, _, _], _, [], _ => rfl)
theorem cb_Space_nearest_3 {K : PySem.W.Frag} {f : Addr} {fd : FuncData} (F : FunS K "nearest" "Space.nearest" s_Space_nearest [] [] f fd) : CallB K fd ["self", "points", "point"] 3 [] [.pos 0, .pos 1, .pos 2] [] [] :=
  callb_p F (fun _ _ _ _ _ _ us ws hn hm => match us, hn, ws, hm with | [_, _, _], _, [], _ => rfl)
theorem cb_right_chain_4 {K : PySem.W.Frag} {f : Addr} {fd : FuncData} (F : FunS K "right_chain" "right_chain" s_right_chain [] [] f fd) : CallB K fd ["space", "names", "name", "many"] 4 [] [.pos 0, .pos 1, .pos 2, .pos 3] [] [] :=
  callb_p F (fun _ _ _ _ _ _ us ws hn hm => match us, hn, ws, hm with | [_, _, _, _], _, [], _ => rfl)
theorem cb_right_far_3 {K : PySem.W.Frag} {f : Addr} {fd : FuncData} (F : FunS K "right_far" "right_far" s_right_far [] [] f fd) : CallB K fd ["space", "names", "name"] 3 [] [.pos 0, .pos 1, .pos 2] [] [] :=
  callb_p F (fun _ _ _ _ _ _ us ws hn hm => match us, hn, ws, hm with | [_, _, _], _, [], _ => rfl)
theorem cb_Space_preceding_3 {K : PySem.W.Frag} {f : Addr} {fd : FuncData} (F : FunS K "preceding" "Space.preceding" s_Space_preceding [] [] f fd) : CallB K fd ["self", "points", "point"] 3 [] [.pos 0, .pos 1, .pos 2] [] [] :=
  callb_p F (fun _ _ _ _ _ _ us ws hn hm => match us, hn, ws, hm with | [_, _, _], _, [], _ => rfl)
theorem cb_Node___init___4 {K : PySem.W.Frag} {f : Addr} {fd : FuncData} (F : FunS K "__init__" "Node.__init__" s_Node___init__ [] [] f fd) : CallB K fd ["self", "chain", "prior", "far"] 4 [] [.pos 0, .pos 1, .pos 2, .pos 3] [] [] :=
  callb_p F (fun _ _ _ _ _ _ us ws hn hm => match us, hn, ws, hm with | [_, _, _, _], _, [], _ => rfl)
theorem cb_Space_has_2 {K : PySem.W.Frag} {f : Addr} {fd : FuncData} (F : FunS K "has" "Space.has" s_Space_has [] [] f fd) : CallB K fd ["self", "thing"] 2 [] [.pos 0, .pos 1] [] [] :=
  callb_p F (fun _ _ _ _ _ _ us ws hn hm => match us, hn, ws, hm with | [_, _], _, [], _ => rfl)
theorem cb_Space___init___2 {K : PySem.W.Frag} {f : Addr} {fd : FuncData} (F : FunS K "__init__" "Space.__init__" s_Space___init__ [.int 8] [] f fd) : CallB K fd ["self", "bits"] 2 [] [.pos 0, .pos 1] [.int 8] [] :=
  callb_d F (by simp) (fun _ _ _ _ _ _ _ us ws its hn hm hd => match us, hn, ws, hm, its, hd with | [_, _], _, [], _, [_], _ => ⟨_, rfl, rfl⟩)
theorem cb_space_of_1 {K : PySem.W.Frag} {f : Addr} {fd : FuncData} (F : FunS K "space_of" "space_of" s_space_of [] [] f fd) : CallB K fd ["bits"] 1 [] [.pos 0] [] [] :=
  callb_p F (fun _ _ _ _ _ _ us ws hn hm => match us, hn, ws, hm with | [_], _, [], _ => rfl)
theorem cb_is_length_1 {K : PySem.W.Frag} {f : Addr} {fd : FuncData} (F : FunS K "is_length" "is_length" s_is_length [] [] f fd) : CallB K fd ["thing"] 1 [] [.pos 0] [] [] :=
  callb_p F (fun _ _ _ _ _ _ us ws hn hm => match us, hn, ws, hm with | [_], _, [], _ => rfl)
theorem cb_are_base_3 {K : PySem.W.Frag} {f : Addr} {fd : FuncData} (F : FunS K "are_base" "are_base" s_are_base [] [] f fd) : CallB K fd ["space", "thing", "many"] 3 [] [.pos 0, .pos 1, .pos 2] [] [] :=
  callb_p F (fun _ _ _ _ _ _ us ws hn hm => match us, hn, ws, hm with | [_, _, _], _, [], _ => rfl)
theorem cb_right_node_4 {K : PySem.W.Frag} {f : Addr} {fd : FuncData} (F : FunS K "right_node" "right_node" s_right_node [] [] f fd) : CallB K fd ["space", "names", "name", "many"] 4 [] [.pos 0, .pos 1, .pos 2, .pos 3] [] [] :=
  callb_p F (fun _ _ _ _ _ _ us ws hn hm => match us, hn, ws, hm with | [_, _, _, _], _, [], _ => rfl)
theorem cb_Ring_is_member_2 {K : PySem.W.Frag} {f : Addr} {fd : FuncData} (F : FunS K "is_member" "Ring.is_member" s_Ring_is_member [] [] f fd) : CallB K fd ["self", "thing"] 2 [] [.pos 0, .pos 1] [] [] :=
  callb_p F (fun _ _ _ _ _ _ us ws hn hm => match us, hn, ws, hm with | [_, _], _, [], _ => rfl)
theorem cb_Ring_node_2 {K : PySem.W.Frag} {f : Addr} {fd : FuncData} (F : FunS K "node" "Ring.node" s_Ring_node [] [] f fd) : CallB K fd ["self", "name"] 2 [] [.pos 0, .pos 1] [] [] :=
  callb_p F (fun _ _ _ _ _ _ us ws hn hm => match us, hn, ws, hm with | [_, _], _, [], _ => rfl)
theorem cb_Ring_members_1 {K : PySem.W.Frag} {f : Addr} {fd : FuncData} (F : FunS K "members" "Ring.members" s_Ring_members [] [] f fd) : CallB K fd ["self"] 1 [] [.pos 0] [] [] :=
  callb_p F (fun _ _ _ _ _ _ us ws hn hm => match us, hn, ws, hm with | [_], _, [], _ => rfl)
theorem cb_first_of_2 {K : PySem.W.Frag} {f : Addr} {fd : FuncData} (F : FunS K "first_of" "first_of" s_first_of [] [] f fd) : CallB K fd ["names", "some"] 2 [] [.pos 0, .pos 1] [] [] :=
  callb_p F (fun _ _ _ _ _ _ us ws hn hm => match us, hn, ws, hm with | [_, _], _, [], _ => rfl)
theorem cb_Ring_space_1 {K : PySem.W.Frag} {f : Addr} {fd : FuncData} (F : FunS K "space" "Ring.space" s_Ring_space [] [] f fd) : CallB K fd ["self"] 1 [] [.pos 0] [] [] :=
  callb_p F (fun _ _ _ _ _ _ us ws hn hm => match us, hn, ws, hm with | [_], _, [], _ => rfl)
theorem cb_Ring_links_2 {K : PySem.W.Frag} {f : Addr} {fd : FuncData} (F : FunS K "links" "Ring.links" s_Ring_links [] [] f fd) : CallB K fd ["self", "name"] 2 [] [.pos 0, .pos 1] [] [] :=
  callb_p F (fun _ _ _ _ _ _ us ws hn hm => match us, hn, ws, hm with | [_, _], _, [], _ => rfl)
theorem cb_Ring_fingers_2 {K : PySem.W.Frag} {f : Addr} {fd : FuncData} (F : FunS K "fingers" "Ring.fingers" s_Ring_fingers [] [] f fd) : CallB K fd ["self", "name"] 2 [] [.pos 0, .pos 1] [] [] :=
  callb_p F (fun _ _ _ _ _ _ us ws hn hm => match us, hn, ws, hm with | [_, _], _, [], _ => rfl)
theorem cb_Space_is_between_4 {K : PySem.W.Frag} {f : Addr} {fd : FuncData} (F : FunS K "is_between" "Space.is_between" s_Space_is_between [] [] f fd) : CallB K fd ["self", "point", "one", "other"] 4 [] [.pos 0, .pos 1, .pos 2, .pos 3] [] [] :=
  callb_p F (fun _ _ _ _ _ _ us ws hn hm => match us, hn, ws, hm with | [_, _, _, _], _, [], _ => rfl)
theorem cb_Ring_want_point_2 {K : PySem.W.Frag} {f : Addr} {fd : FuncData} (F : FunS K "want_point" "Ring.want_point" s_Ring_want_point [] [] f fd) : CallB K fd ["self", "thing"] 2 [] [.pos 0, .pos 1] [] [] :=
  callb_p F (fun _ _ _ _ _ _ us ws hn hm => match us, hn, ws, hm with | [_, _], _, [], _ => rfl)
theorem cb_Seeker_go_on_1 {K : PySem.W.Frag} {f : Addr} {fd : FuncData} (F : FunS K "go_on" "Seeker.go_on" s_Seeker_go_on [] [] f fd) : CallB K fd ["self"] 1 [] [.pos 0] [] [] :=
  callb_p F (fun _ _ _ _ _ _ us ws hn hm => match us, hn, ws, hm with | [_], _, [], _ => rfl)
theorem cb_Seeker_at_1 {K : PySem.W.Frag} {f : Addr} {fd : FuncData} (F : FunS K "at" "Seeker.at" s_Seeker_at [] [] f fd) : CallB K fd ["self"] 1 [] [.pos 0] [] [] :=
  callb_p F (fun _ _ _ _ _ _ us ws hn hm => match us, hn, ws, hm with | [_], _, [], _ => rfl)
theorem cb_Seeker_go_back_1 {K : PySem.W.Frag} {f : Addr} {fd : FuncData} (F : FunS K "go_back" "Seeker.go_back" s_Seeker_go_back [] [] f fd) : CallB K fd ["self"] 1 [] [.pos 0] [] [] :=
  callb_p F (fun _ _ _ _ _ _ us ws hn hm => match us, hn, ws, hm with | [_], _, [], _ => rfl)
theorem cb_Ring_next_of_2 {K : PySem.W.Frag} {f : Addr} {fd : FuncData} (F : FunS K "next_of" "Ring.next_of" s_Ring_next_of [] [] f fd) : CallB K fd ["self", "name"] 2 [] [.pos 0, .pos 1] [] [] :=
  callb_p F (fun _ _ _ _ _ _ us ws hn hm => match us, hn, ws, hm with | [_, _], _, [], _ => rfl)
theorem cb_Seeker_go_upwards_3 {K : PySem.W.Frag} {f : Addr} {fd : FuncData} (F : FunS K "go_upwards" "Seeker.go_upwards" s_Seeker_go_upwards [] [] f fd) : CallB K fd ["self", "here", "after"] 3 [] [.pos 0, .pos 1, .pos 2] [] [] :=
  callb_p F (fun _ _ _ _ _ _ us ws hn hm => match us, hn, ws, hm with | [_, _, _], _, [], _ => rfl)
theorem cb_Ring_base_1 {K : PySem.W.Frag} {f : Addr} {fd : FuncData} (F : FunS K "base" "Ring.base" s_Ring_base [] [] f fd) : CallB K fd ["self"] 1 [] [.pos 0] [] [] :=
  callb_p F (fun _ _ _ _ _ _ us ws hn hm => match us, hn, ws, hm with | [_], _, [], _ => rfl)
theorem cb_farthest_3 {K : PySem.W.Frag} {f : Addr} {fd : FuncData} (F : FunS K "farthest" "farthest" s_farthest [] [] f fd) : CallB K fd ["ring", "here", "point"] 3 [] [.pos 0, .pos 1, .pos 2] [] [] :=
  callb_p F (fun _ _ _ _ _ _ us ws hn hm => match us, hn, ws, hm with | [_, _, _], _, [], _ => rfl)
theorem cb_Seeker___init___3_3 {K : PySem.W.Frag} {f : Addr} {fd : FuncData} (F : FunS K "__init__" "Seeker.__init__" s_Seeker___init__ [] [] f fd) : CallB K fd ["self", "ring", "point", "via"] 3 ["via"] [.pos 0, .pos 1, .pos 2, .kw 0] [] [] :=
  callb_p F (fun _ _ _ _ _ _ us ws hn hm => match us, hn, ws, hm with | [_, _, _], _, [_], _ => rfl)
theorem cb_Seeker_step_1 {K : PySem.W.Frag} {f : Addr} {fd : FuncData} (F : FunS K "step" "Seeker.step" s_Seeker_step [] [] f fd) : CallB K fd ["self"] 1 [] [.pos 0] [] [] :=
  callb_p F (fun _ _ _ _ _ _ us ws hn hm => match us, hn, ws, hm with | [_], _, [], _ => rfl)
theorem cb_Seeker_way_1 {K : PySem.W.Frag} {f : Addr} {fd : FuncData} (F : FunS K "way" "Seeker.way" s_Seeker_way [] [] f fd) : CallB K fd ["self"] 1 [] [.pos 0] [] [] :=
  callb_p F (fun _ _ _ _ _ _ us ws hn hm => match us, hn, ws, hm with | [_], _, [], _ => rfl)
theorem cb_known_by_3 {K : PySem.W.Frag} {f : Addr} {fd : FuncData} (F : FunS K "known_by" "known_by" s_known_by [] [] f fd) : CallB K fd ["ring", "here", "name"] 3 [] [.pos 0, .pos 1, .pos 2] [] [] :=
  callb_p F (fun _ _ _ _ _ _ us ws hn hm => match us, hn, ws, hm with | [_, _, _], _, [], _ => rfl)
theorem cb_Seeker_answer_1 {K : PySem.W.Frag} {f : Addr} {fd : FuncData} (F : FunS K "answer" "Seeker.answer" s_Seeker_answer [] [] f fd) : CallB K fd ["self"] 1 [] [.pos 0] [] [] :=
  callb_p F (fun _ _ _ _ _ _ us ws hn hm => match us, hn, ws, hm with | [_], _, [], _ => rfl)
theorem cb_Found___init___4 {K : PySem.W.Frag} {f : Addr} {fd : FuncData} (F : FunS K "__init__" "Found.__init__" s_Found___init__ [] [] f fd) : CallB K fd ["self", "trail", "goal", "reasons"] 4 [] [.pos 0, .pos 1, .pos 2, .pos 3] [] [] :=
  callb_p F (fun _ _ _ _ _ _ us ws hn hm => match us, hn, ws, hm with | [_, _, _, _], _, [], _ => rfl)
theorem cb__law_take_2 {K : PySem.W.Frag} {f : Addr} {fd : FuncData} (F : FunS K "_law_take" "_law_take" s__law_take [] [] f fd) : CallB K fd ["_law_pot_here", "_law_room"] 2 [] [.pos 0, .pos 1] [] [] :=
  callb_p F (fun _ _ _ _ _ _ us ws hn hm => match us, hn, ws, hm with | [_, _], _, [], _ => rfl)
theorem cb__law_point_3 {K : PySem.W.Frag} {f : Addr} {fd : FuncData} (F : FunS K "_law_point" "_law_point" s__law_point [] [] f fd) : CallB K fd ["_law_pot_here", "_law_size_here", "_law_near"] 3 [] [.pos 0, .pos 1, .pos 2] [] [] :=
  callb_p F (fun _ _ _ _ _ _ us ws hn hm => match us, hn, ws, hm with | [_, _, _], _, [], _ => rfl)
theorem cb__law_points_4 {K : PySem.W.Frag} {f : Addr} {fd : FuncData} (F : FunS K "_law_points" "_law_points" s__law_points [] [] f fd) : CallB K fd ["_law_pot_here", "_law_size_here", "_law_near", "_law_room"] 4 [] [.pos 0, .pos 1, .pos 2, .pos 3] [] [] :=
  callb_p F (fun _ _ _ _ _ _ us ws hn hm => match us, hn, ws, hm with | [_, _, _, _], _, [], _ => rfl)
theorem cb_lookX_2_2_3 {K : PySem.W.Frag} {f : Addr} {fd : FuncData} (F : FunS K "look" "look" s_lookX [] [("within", .non)] f fd) : CallB K fd ["ring", "point", "via", "within"] 2 ["via", "within"] [.pos 0, .pos 1, .kw 0, .kw 1] [] [] :=
  callb_p F (fun _ _ _ _ _ _ us ws hn hm => match us, hn, ws, hm with | [_, _], _, [_, _], _ => rfl)
theorem cb_Found_ways_1 {K : PySem.W.Frag} {f : Addr} {fd : FuncData} (F : FunS K "ways" "Found.ways" s_Found_ways [] [] f fd) : CallB K fd ["self"] 1 [] [.pos 0] [] [] :=
  callb_p F (fun _ _ _ _ _ _ us ws hn hm => match us, hn, ws, hm with | [_], _, [], _ => rfl)
theorem cb_Found_answer_1 {K : PySem.W.Frag} {f : Addr} {fd : FuncData} (F : FunS K "answer" "Found.answer" s_Found_answer [] [] f fd) : CallB K fd ["self"] 1 [] [.pos 0] [] [] :=
  callb_p F (fun _ _ _ _ _ _ us ws hn hm => match us, hn, ws, hm with | [_], _, [], _ => rfl)
theorem cb_Found_path_1 {K : PySem.W.Frag} {f : Addr} {fd : FuncData} (F : FunS K "path" "Found.path" s_Found_path [] [] f fd) : CallB K fd ["self"] 1 [] [.pos 0] [] [] :=
  callb_p F (fun _ _ _ _ _ _ us ws hn hm => match us, hn, ws, hm with | [_], _, [], _ => rfl)
theorem cb_lookX_2_2_d {K : PySem.W.Frag} {f : Addr} {fd : FuncData} (F : FunS K "look" "look" s_lookX [] [("within", .non)] f fd) : CallB K fd ["ring", "point", "via", "within"] 2 ["via"] [.pos 0, .pos 1, .kw 0, .kwd 0] [] [.non] :=
  callb_k F (ms := [("within", .non)]) (by simp) (by simp) (fun _ _ _ _ _ _ us mv ws hn hm hw => match us, hn, ws, hw, mv, hm with | [_, _], _, [_], _, [_], _ => ⟨_, _, _, _, _, _, rfl, rfl, rfl⟩)
theorem cb__law_told_4 {K : PySem.W.Frag} {f : Addr} {fd : FuncData} (F : FunS K "_law_told" "_law_told" s__law_told [] [] f fd) : CallB K fd ["_law_ring", "_law_point_here", "_law_asker", "_law_limit"] 4 [] [.pos 0, .pos 1, .pos 2, .pos 3] [] [] :=
  callb_p F (fun _ _ _ _ _ _ us ws hn hm => match us, hn, ws, hm with | [_, _, _, _], _, [], _ => rfl)
theorem cb__law_pot_2 {K : PySem.W.Frag} {f : Addr} {fd : FuncData} (F : FunS K "_law_pot" "_law_pot" s__law_pot [] [] f fd) : CallB K fd ["_law_script", "_law_k"] 2 [] [.pos 0, .pos 1] [] [] :=
  callb_p F (fun _ _ _ _ _ _ us ws hn hm => match us, hn, ws, hm with | [_, _], _, [], _ => rfl)
theorem cb__law_bits_1 {K : PySem.W.Frag} {f : Addr} {fd : FuncData} (F : FunS K "_law_bits" "_law_bits" s__law_bits [] [] f fd) : CallB K fd ["_law_pot_here"] 1 [] [.pos 0] [] [] :=
  callb_p F (fun _ _ _ _ _ _ us ws hn hm => match us, hn, ws, hm with | [_], _, [], _ => rfl)
theorem cb__law_size_1 {K : PySem.W.Frag} {f : Addr} {fd : FuncData} (F : FunS K "_law_size" "_law_size" s__law_size [] [] f fd) : CallB K fd ["_law_wide"] 1 [] [.pos 0] [] [] :=
  callb_p F (fun _ _ _ _ _ _ us ws hn hm => match us, hn, ws, hm with | [_], _, [], _ => rfl)
theorem cb__law_base_3 {K : PySem.W.Frag} {f : Addr} {fd : FuncData} (F : FunS K "_law_base" "_law_base" s__law_base [] [] f fd) : CallB K fd ["_law_pot_here", "_law_size_here", "_law_room"] 3 [] [.pos 0, .pos 1, .pos 2] [] [] :=
  callb_p F (fun _ _ _ _ _ _ us ws hn hm => match us, hn, ws, hm with | [_, _, _], _, [], _ => rfl)
theorem cb_Ring___init___2_2_3 {K : PySem.W.Frag} {f : Addr} {fd : FuncData} (F : FunS K "__init__" "Ring.__init__" s_Ring___init__ [] [] f fd) : CallB K fd ["self", "base", "bits", "length"] 2 ["bits", "length"] [.pos 0, .pos 1, .kw 0, .kw 1] [] [] :=
  callb_p F (fun _ _ _ _ _ _ us ws hn hm => match us, hn, ws, hm with | [_, _], _, [_, _], _ => rfl)
theorem cb__law_asked_3 {K : PySem.W.Frag} {f : Addr} {fd : FuncData} (F : FunS K "_law_asked" "_law_asked" s__law_asked [] [] f fd) : CallB K fd ["_law_pot_here", "_law_size_here", "_law_names"] 3 [] [.pos 0, .pos 1, .pos 2] [] [] :=
  callb_p F (fun _ _ _ _ _ _ us ws hn hm => match us, hn, ws, hm with | [_, _, _], _, [], _ => rfl)
theorem cb__law_right_3 {K : PySem.W.Frag} {f : Addr} {fd : FuncData} (F : FunS K "_law_right" "_law_right" s__law_right [] [] f fd) : CallB K fd ["_law_ring", "_law_point_here", "_law_asker"] 3 [] [.pos 0, .pos 1, .pos 2] [] [] :=
  callb_p F (fun _ _ _ _ _ _ us ws hn hm => match us, hn, ws, hm with | [_, _, _], _, [], _ => rfl)
structure Txt (K : PySem.W.Frag) (mg : Str → Option Value) (Z : Ad) (base : Heap) : Prop where
  c_Alone : mg "Alone" = some (.ref Z.Alone)
  c_Fixed : mg "Fixed" = some (.ref Z.Fixed)
  c_Found : mg "Found" = some (.ref Z.Found)
  c_LastOne : mg "LastOne" = some (.ref Z.LastOne)
  c_NoMember : mg "NoMember" = some (.ref Z.NoMember)
  c_NoOrder : mg "NoOrder" = some (.ref Z.NoOrder)
  c_NoPoint : mg "NoPoint" = some (.ref Z.NoPoint)
  c_NoRing : mg "NoRing" = some (.ref Z.NoRing)
  c_NoRow : mg "NoRow" = some (.ref Z.NoRow)
  c_NoSpace : mg "NoSpace" = some (.ref Z.NoSpace)
  c_NoText : mg "NoText" = some (.ref Z.NoText)
  c_NoValue : mg "NoValue" = some (.ref Z.NoValue)
  c_Node : mg "Node" = some (.ref Z.Node)
  c_Ring : mg "Ring" = some (.ref Z.Ring)
  c_RingError : mg "RingError" = some (.ref Z.RingError)
  c_Seeker : mg "Seeker" = some (.ref Z.Seeker)
  c_Space : mg "Space" = some (.ref Z.Space)
  c_Taken : mg "Taken" = some (.ref Z.Taken)
  c_TooFar : mg "TooFar" = some (.ref Z.TooFar)
  cl_Found : Cls K Z.Found
  na_Found_trail : NoAttr K Z.Found "trail"
  na_Found_goal : NoAttr K Z.Found "goal"
  na_Found_reasons : NoAttr K Z.Found "reasons"
  cl_Node : Cls K Z.Node
  na_Node_chain : NoAttr K Z.Node "chain"
  na_Node_prior : NoAttr K Z.Node "prior"
  na_Node_far : NoAttr K Z.Node "far"
  na_Node_things : NoAttr K Z.Node "things"
  cl_Ring : Cls K Z.Ring
  na_Ring_circle : NoAttr K Z.Ring "circle"
  na_Ring_many : NoAttr K Z.Ring "many"
  na_Ring_fixed : NoAttr K Z.Ring "fixed"
  na_Ring_nodes : NoAttr K Z.Ring "nodes"
  na_Ring_stamps : NoAttr K Z.Ring "stamps"
  na_Ring_done : NoAttr K Z.Ring "done"
  cl_Seeker : Cls K Z.Seeker
  na_Seeker_around : NoAttr K Z.Seeker "around"
  na_Seeker_sought : NoAttr K Z.Seeker "sought"
  na_Seeker_trail : NoAttr K Z.Seeker "trail"
  na_Seeker_returns : NoAttr K Z.Seeker "returns"
  na_Seeker_goal : NoAttr K Z.Seeker "goal"
  cl_Space : Cls K Z.Space
  na_Space_own_bits : NoAttr K Z.Space "own_bits"
  x_NoSpace : PySem.W.excIn K Z.NoSpace [.type "ValueError", .type "Exception", .type "BaseException", .type "object"] "ValueError.__new__" = true
  kp_NoSpace : PySem.W.keepIn K (.ref Z.NoSpace) = true
  b_NoSpace : PySem.W.subIn K (.ref Z.NoSpace) (.type "BaseException") = some true
  t_NoSpace : PySem.W.typeIn K (.ref Z.NoSpace) = some (.type "type")
  oe_TooFar : OexC K Z.TooFar
  re_RingError : ReI K Z.RingError
  xf_TooFar : XfC K Z.TooFar
  nf_TooFar_stood : PySem.W.findIn K (.ref Z.TooFar) "stood" = some none
  f_is_whole : DF K mg "is_whole" s_is_whole [] []
  f_Space___init__ : IF K Z.Space "Space.__init__" s_Space___init__ [.int 8] []
  f_Space_bits : MF K Z.Space "bits" "Space.bits" s_Space_bits [] []
  f_Space_size : MF K Z.Space "size" "Space.size" s_Space_size [] []
  f_Space_has : MF K Z.Space "has" "Space.has" s_Space_has [] []
  f_Space_distance : MF K Z.Space "distance" "Space.distance" s_Space_distance [] []
  f_Space_is_between : MF K Z.Space "is_between" "Space.is_between" s_Space_is_between [] []
  f_Space_nearest : ∃ c, MFL K Z.Space "nearest" "Space.nearest" s_Space_nearest [] [] c ∧ LmF base mg Z.tabs c "Space.nearest.<locals>.<lambda>"
  f_Space_preceding : ∃ c, MFL K Z.Space "preceding" "Space.preceding" s_Space_preceding [] [] c ∧ LmF base mg Z.tabs c "Space.preceding.<locals>.<lambda>"
  f_Node___init__ : IF K Z.Node "Node.__init__" s_Node___init__ [] []
  f_upwards : ∃ c, DFL K mg "upwards" s_upwards [] [] c ∧ LmF base mg Z.tabs c "upwards.<locals>.<lambda>"
  f_others_upwards : DF K mg "others_upwards" s_others_upwards [] []
  f_far_point : DF K mg "far_point" s_far_point [] []
  f_right_chain : DF K mg "right_chain" s_right_chain [] []
  f_right_far : DF K mg "right_far" s_right_far [] []
  f_right_node : DF K mg "right_node" s_right_node [] []
  f_is_length : DF K mg "is_length" s_is_length [] []
  f_are_base : DF K mg "are_base" s_are_base [] []
  f_space_of : DF K mg "space_of" s_space_of [] []
  f_Ring___init__ : IF K Z.Ring "Ring.__init__" s_Ring___init__ [] []
  f_Ring_space : MF K Z.Ring "space" "Ring.space" s_Ring_space [] []
  f_Ring_base : MF K Z.Ring "base" "Ring.base" s_Ring_base [] []
  f_Ring_members : MF K Z.Ring "members" "Ring.members" s_Ring_members [] []
  f_Ring_is_member : MF K Z.Ring "is_member" "Ring.is_member" s_Ring_is_member [] []
  f_Ring_node : MF K Z.Ring "node" "Ring.node" s_Ring_node [] []
  f_Ring_links : MF K Z.Ring "links" "Ring.links" s_Ring_links [] []
  f_Ring_next_of : MF K Z.Ring "next_of" "Ring.next_of" s_Ring_next_of [] []
  f_Ring_fingers : MF K Z.Ring "fingers" "Ring.fingers" s_Ring_fingers [] []
  f_first_of : DF K mg "first_of" s_first_of [] []
  f_Ring_want_point : MF K Z.Ring "want_point" "Ring.want_point" s_Ring_want_point [] []
  f_farthest : ∃ c, DFL K mg "farthest" s_farthest [] [] c ∧ LmF base mg Z.tabs c "farthest.<locals>.<lambda>"
  f_known_by : DF K mg "known_by" s_known_by [] []
  f_Seeker___init__ : IF K Z.Seeker "Seeker.__init__" s_Seeker___init__ [] []
  f_Seeker_step : MF K Z.Seeker "step" "Seeker.step" s_Seeker_step [] []
  f_Seeker_go_on : MF K Z.Seeker "go_on" "Seeker.go_on" s_Seeker_go_on [] []
  f_Seeker_go_back : MF K Z.Seeker "go_back" "Seeker.go_back" s_Seeker_go_back [] []
  f_Seeker_go_upwards : MF K Z.Seeker "go_upwards" "Seeker.go_upwards" s_Seeker_go_upwards [] []
  f_Seeker_at : MF K Z.Seeker "at" "Seeker.at" s_Seeker_at [] []
  f_Seeker_way : MF K Z.Seeker "way" "Seeker.way" s_Seeker_way [] []
  f_Seeker_answer : MF K Z.Seeker "answer" "Seeker.answer" s_Seeker_answer [] []
  f_Found___init__ : IF K Z.Found "Found.__init__" s_Found___init__ [] []
  f_Found_path : MF K Z.Found "path" "Found.path" s_Found_path [] []
  f_Found_answer : MF K Z.Found "answer" "Found.answer" s_Found_answer [] []
  f_Found_ways : MF K Z.Found "ways" "Found.ways" s_Found_ways [] []
  f_lookX : DF K mg "look" s_lookX [] [("within", .non)]
  f_TooFar___init__ : EF K Z.TooFar "TooFar.__init__" s_TooFar___init__
  f__law_pot : DF K mg "_law_pot" s__law_pot [] []
  f__law_take : DF K mg "_law_take" s__law_take [] []
  f__law_bits : DF K mg "_law_bits" s__law_bits [] []
  f__law_point : DF K mg "_law_point" s__law_point [] []
  f__law_points : DF K mg "_law_points" s__law_points [] []
  f__law_size : DF K mg "_law_size" s__law_size [] []
  f__law_base : DF K mg "_law_base" s__law_base [] []
  f__law_asked : DF K mg "_law_asked" s__law_asked [] []
  f__law_told : DF K mg "_law_told" s__law_told [] []
  f__law_right : DF K mg "_law_right" s__law_right [] []
  f_law : DF K mg "law" s_law [] []
  n_ValueError : mg "ValueError" = none
  n_all : mg "all" = none
  n_bool : mg "bool" = none
  n_int : mg "int" = none
  n_isinstance : mg "isinstance" = none
  n_len : mg "len" = none
  n_list : mg "list" = none
  n_max : mg "max" = none
  n_min : mg "min" = none
  n_range : mg "range" = none
  n_set : mg "set" = none
  n_sorted : mg "sorted" = none
  n_zip : mg "zip" = none
  c_LEAST_BITS : ∃ t, mg "LEAST_BITS" = some (.int 3 t)
  c_MOST_BASE : ∃ t, mg "MOST_BASE" = some (.int 8 t)
  c_MOST_BITS : ∃ t, mg "MOST_BITS" = some (.int 32 t)
  c_MOST_LENGTH : ∃ t, mg "MOST_LENGTH" = some (.int 4 t)
  ne_Ring : Z.Ring ≠ Z.Space
  ne_Node : Z.Node ≠ Z.Space
  ne_Seeker : Z.Seeker ≠ Z.Space
  ne_Found : Z.Found ≠ Z.Space
  gh5 : PySem.W.specialIn K (.builtin "object.__class__") "__get__" = some (some (.builtin "getset_descriptor.__get__"))
  gh6 : PySem.W.takesIn K (.builtin "object.__class__") = some true
  gh1TooFar : PySem.W.findIn K (.ref Z.TooFar) "__getattribute__" = some (some (.builtin "BaseException.__getattribute__"))
  gh2TooFar : PySem.W.findIn K (.ref Z.TooFar) "__getattr__" = some none
  gh3TooFar : PySem.W.hasDictIn K Z.TooFar = true
  gh4TooFar : PySem.W.findIn K (.ref Z.TooFar) "__class__" = some (some (.builtin "object.__class__"))
  gh7TooFar : PySem.W.mroIn K Z.TooFar (.type "object") = some true
  ex1 : PySem.W.exmOne K (.ref Z.TooFar) (.ref Z.TooFar) = some true
  ki1 : PySem.W.kitAny K (.ref Z.TooFar) [.ref Z.Alone, .ref Z.Fixed, .ref Z.LastOne, .ref Z.NoMember, .ref Z.NoOrder, .ref Z.NoPoint, .ref Z.NoRing, .ref Z.NoRow, .ref Z.NoSpace] = some false
  ki2 : PySem.W.kitAny K (.ref Z.TooFar) [.ref Z.NoText, .ref Z.NoValue, .ref Z.Taken] = some false
  ki3 : PySem.W.kitOne K (.ref Z.TooFar) (.ref Z.RingError) = some true
  ki4 : PySem.W.kitOne K (.ref Z.TooFar) (.type "ValueError") = some true
section
variable {P : Program} {w : World} {K : PySem.W.Frag} {mg : Str → Option Value} {base : Heap} {Z : Ad}
theorem ok_is_whole (T : Txt K mg Z base) : DK P w K mg base CX0 1 "is_whole" ["thing"] s_is_whole [] [] (sp_is_whole K Z) :=
  T.f_is_whole.mk2 fun f fd F => fn0 F sc_is_whole (by intro vs H Q E h; unfold sp_is_whole at h; (repeat (obtain ⟨_, h⟩ := h)); subst_vars; rfl) (fun f cdv A outer s H E hr => (pss_one (ps_ret (pe_and (pe_callB call_isi (by rfl) T.n_isinstance (by decide +kernel) (pa_cons (pv 0) (pa_cons (pe_bltn (v := .ty "int") (by rfl) T.n_int (by decide +kernel) rfl) pa_nil))) (pe_one (pe_not (pe_callB call_isi (by rfl) T.n_isinstance (by decide +kernel) (pa_cons (pv 0) (pa_cons (pe_bltn (v := .ty "bool") (by rfl) T.n_bool (by decide +kernel) rfl) pa_nil))))))))) (rd_is_whole K Z)
theorem ok_Space___init__ (T : Txt K mg Z base) : IK P w K mg base (L2.CX P w) 2 Z.Space "Space.__init__" ["self", "bits"] s_Space___init__ [.int 8] [] (sp_Space___init__ K Z) :=
  T.f_Space___init__.mk2 fun f fd F => fnx F sc_Space___init__ (by intro vs H Q E h; unfold sp_Space___init__ at h; (repeat (obtain ⟨_, h⟩ := h)); subst_vars; rfl) (fun f cdv A outer s H E hr => (pss_cons (ps_if (PW.pt (pw_or (pt_not (pt_val (pe_dk (ok_is_whole T) hr (by decide) (by rfl) cb_is_whole_1 xa0 (par_pos (pa_cons (pv 1) pa_nil))))) (pw_or1 (pt_not (pt_chain op_le op_le (pe_gI (by rfl) T.c_LEAST_BITS) (pv 1) (pe_gI (by rfl) T.c_MOST_BITS)))))) (pss_one (ps_raise rfl (takes_of rfl rfl rfl rfl) (pmk_own PySem.F.excBase_ValueError T.x_NoSpace T.c_NoSpace T.kp_NoSpace (raises_own T.b_NoSpace T.t_NoSpace) rfl))) pss_nil)
      (pss_one (ps_fld (pv 0) (pv 1) rfl)))) (rd_Space___init__ K Z ⟨T.cl_Space, T.na_Space_own_bits⟩)
theorem ok_Space_bits (T : Txt K mg Z base) : MK P w K mg base CX0 1 Z.Space "bits" "Space.bits" ["self"] s_Space_bits [] [] (sp_Space_bits K Z) :=
  T.f_Space_bits.mk2 fun f fd F => fn0 F sc_Space_bits (by intro vs H Q E h; unfold sp_Space_bits at h; (repeat (obtain ⟨_, h⟩ := h)); subst_vars; rfl) (fun f cdv A outer s H E hr => (pss_one (ps_ret (pe_fld (pv 0) rfl)))) (rd_Space_bits K Z ⟨T.cl_Space, T.na_Space_own_bits⟩)
theorem ok_Space_size (T : Txt K mg Z base) : MK P w K mg base CX0 1 Z.Space "size" "Space.size" ["self"] s_Space_size [] [] (sp_Space_size K Z) :=
  T.f_Space_size.mk2 fun f fd F => fn0 F sc_Space_size (by intro vs H Q E h; unfold sp_Space_size at h; (repeat (obtain ⟨_, h⟩ := h)); subst_vars; rfl) (fun f cdv A outer s H E hr => (pss_one (ps_ret (pe_op op_shl pe_int (pe_fld (pv 0) rfl))))) (rd_Space_size K Z ⟨T.cl_Space, T.na_Space_own_bits⟩)
theorem ok_Space_has (T : Txt K mg Z base) : MK P w K mg base CX0 2 Z.Space "has" "Space.has" ["self", "thing"] s_Space_has [] [] (sp_Space_has K Z) :=
  T.f_Space_has.mk2 fun f fd F => fn0 F sc_Space_has (by intro vs H Q E h; unfold sp_Space_has at h; (repeat (obtain ⟨_, h⟩ := h)); subst_vars; rfl) (fun f cdv A outer s H E hr => (pss_one (ps_ret (pe_and (pe_dk (ok_is_whole T) hr (by decide) (by rfl) cb_is_whole_1 xa0 (par_pos (pa_cons (pv 1) pa_nil))) (pe_one (pe_chain op_le op_lt pe_int (pv 1) (pe_mkk (ok_Space_size T) (pv 0) T.cl_Space hr (by decide) cb_Space_size_1 xa0 par_0))))))) (rd_Space_has K Z)
theorem ok_Space_distance (T : Txt K mg Z base) : MK P w K mg base CX0 2 Z.Space "distance" "Space.distance" ["self", "one", "other"] s_Space_distance [] [] (sp_Space_distance K Z) :=
  T.f_Space_distance.mk2 fun f fd F => fn0 F sc_Space_distance (by intro vs H Q E h; unfold sp_Space_distance at h; (repeat (obtain ⟨_, h⟩ := h)); subst_vars; rfl) (fun f cdv A outer s H E hr => (pss_one (ps_ret (pe_op op_mod (pe_op op_sub (pv 2) (pv 1)) (pe_mkk (ok_Space_size T) (pv 0) T.cl_Space hr (by decide) cb_Space_size_1 xa0 par_0))))) (rd_Space_distance K Z)
theorem ok_Space_is_between (T : Txt K mg Z base) : MK P w K mg base CX0 3 Z.Space "is_between" "Space.is_between" ["self", "point", "one", "other"] s_Space_is_between [] [] (sp_Space_is_between K Z) :=
  T.f_Space_is_between.mk2 fun f fd F => fn0 F sc_Space_is_between (by intro vs H Q E h; unfold sp_Space_is_between at h; (repeat (obtain ⟨_, h⟩ := h)); subst_vars; rfl) (fun f cdv A outer s H E hr => (pss_cons (ps_set (i := 4) sc_Space_is_between.nd rfl (.inl rfl) (pe_mkk (ok_Space_distance T) (pv 0) T.cl_Space hr (by decide) cb_Space_distance_3 xa0 (par_pos (pa_cons (pv 2) (pa_cons (pv 1) pa_nil)))))
      (pss_one (ps_ret (pe_and (pe_cmpR op_gt (pv 4) pe_int (nomark _)) (pe_one (pe_or (pe_cmpR op_eq (pv 2) (pv 3) (nomark _)) (pe_one (pe_cmpR op_lt (pv 4) (pe_mkk (ok_Space_distance T) (pv 0) T.cl_Space hr (by decide) cb_Space_distance_3 xa0 (par_pos (pa_cons (pv 2) (pa_cons (pv 3) pa_nil)))) (nomark _)))))))))) (rd_Space_is_between K Z)
theorem ok_Space_nearest (T : Txt K mg Z base) : MK P w K mg base CX0 6 Z.Space "nearest" "Space.nearest" ["self", "points", "point"] s_Space_nearest [] [] (sp_Space_nearest K Z) :=
  let ⟨c, F, Lm⟩ := T.f_Space_nearest; F.mk2 fun f fd F hc => fn0L F hc sc_Space_nearest (by intro vs H Q E h; unfold sp_Space_nearest at h; (repeat (obtain ⟨_, h⟩ := h)); subst_vars; rfl) (fun f A outer s H E hr => (pss_one (ps_ret (pe_minL (k := 2) (j := 3) (a := "one") hr (by decide) (by rfl) T.n_min (pa_cons (pv 1) pa_nil) Lm rfl rfl (sc := defScope s_Space_nearest) rfl (by decide +kernel) sc_Space_nearest.nd rfl (fun A s H f c' hr => (pe_mkk (ok_Space_distance T) (pv 0) T.cl_Space hr (by decide) cb_Space_distance_3 xa0 (par_pos (pa_cons (pv 2) (pa_cons (pv 3) pa_nil))))))))) (rd_Space_nearest K Z)
theorem ok_Space_preceding (T : Txt K mg Z base) : MK P w K mg base CX0 6 Z.Space "preceding" "Space.preceding" ["self", "points", "point"] s_Space_preceding [] [] (sp_Space_preceding K Z) :=
  let ⟨c, F, Lm⟩ := T.f_Space_preceding; F.mk2 fun f fd F hc => fn0L F hc sc_Space_preceding (by intro vs H Q E h; unfold sp_Space_preceding at h; (repeat (obtain ⟨_, h⟩ := h)); subst_vars; rfl) (fun f A outer s H E hr => (pss_one (ps_ret (pe_minL (k := 2) (j := 3) (a := "one") hr (by decide) (by rfl) T.n_min (pa_cons (pv 1) pa_nil) Lm rfl rfl (sc := defScope s_Space_preceding) rfl (by decide +kernel) sc_Space_preceding.nd rfl (fun A s H f c' hr => (pe_mkk (ok_Space_distance T) (pv 0) T.cl_Space hr (by decide) cb_Space_distance_3 xa0 (par_pos (pa_cons (pv 3) (pa_cons (pe_op op_sub (pv 2) pe_int) pa_nil))))))))) (rd_Space_preceding K Z)
theorem ok_Node___init__ (T : Txt K mg Z base) : IK P w K mg base CX0 1 Z.Node "Node.__init__" ["self", "chain", "prior", "far"] s_Node___init__ [] [] (sp_Node___init__ K Z) :=
  T.f_Node___init__.mk2 fun f fd F => fn0 F sc_Node___init__ (by intro vs H Q E h; unfold sp_Node___init__ at h; (repeat (obtain ⟨_, h⟩ := h)); subst_vars; rfl) (fun f cdv A outer s H E hr => (pss_cons (ps_fld (pv 0) (pv 1) rfl)
      (pss_cons (ps_fld (pv 0) (pv 2) rfl)
      (pss_cons (ps_fld (pv 0) (pv 3) rfl)
      (pss_one (ps_fld (pv 0) pe_dnewK rfl)))))) (rd_Node___init__ K Z ⟨T.cl_Ring, T.na_Ring_circle, T.na_Ring_many, T.na_Ring_fixed, T.na_Ring_nodes, T.na_Ring_stamps, T.na_Ring_done, T.cl_Node, T.na_Node_chain, T.na_Node_prior, T.na_Node_far, T.na_Node_things, T.ne_Ring, T.ne_Node⟩)
theorem ok_upwards (T : Txt K mg Z base) : DK P w K mg base CX0 6 "upwards" ["space", "names", "point"] s_upwards [] [] (sp_upwards K Z) :=
  let ⟨c, F, Lm⟩ := T.f_upwards; F.mk2 fun f fd F hc => fn0L F hc sc_upwards (by intro vs H Q E h; unfold sp_upwards at h; (repeat (obtain ⟨_, h⟩ := h)); subst_vars; rfl) (fun f A outer s H E hr => (pss_one (ps_ret (pe_sortL (k := 2) (j := 3) (a := "name") hr (by decide) (by rfl) T.n_sorted (pa_cons (pv 1) pa_nil) Lm rfl rfl (sc := defScope s_upwards) rfl (by decide +kernel) sc_upwards.nd rfl (fun A s H f c' hr => (pe_mkk (ok_Space_distance T) (pv 0) T.cl_Space hr (by decide) cb_Space_distance_3 xa0 (par_pos (pa_cons (pv 2) (pa_cons (pv 3) pa_nil))))))))) (rd_upwards K Z)
theorem ok_others_upwards (T : Txt K mg Z base) : DK P w K mg base CX0 7 "others_upwards" ["space", "names", "name"] s_others_upwards [] [] (sp_others_upwards K Z) :=
  T.f_others_upwards.mk2 fun f fd F => fn0 F sc_others_upwards (by intro vs H Q E h; unfold sp_others_upwards at h; (repeat (obtain ⟨_, h⟩ := h)); subst_vars; rfl) (fun f cdv A outer s H E hr => (pss_one (ps_ret (pe_lc (own := [("one", 3)]) rfl sc_others_upwards.nd (pi_list (pe_dk (ok_upwards T) hr (by decide) (by rfl) cb_upwards_3 xa0 (par_pos (pa_cons (pv 0) (pa_cons (pv 1) (pa_cons (pv 2) pa_nil)))))) (blkOk_by (N := ["space", "names", "name", "one"]) (sc := defScope s_others_upwards) (by decide +kernel)) (fun _ _ _ _ _ => (pg_name (i := 3) sc_others_upwards.nd rfl (Or.inl rfl))) (fun _ _ _ _ _ => (pts_one (pt_cmpR op_ne (pv 3) (pv 2) (nomark _)))) (fun _ _ _ _ _ => (pv 3)))))) (rd_others_upwards K Z)
theorem ok_far_point (T : Txt K mg Z base) : DK P w K mg base CX0 2 "far_point" ["space", "name", "k"] s_far_point [] [] (sp_far_point K Z) :=
  T.f_far_point.mk2 fun f fd F => fn0 F sc_far_point (by intro vs H Q E h; unfold sp_far_point at h; (repeat (obtain ⟨_, h⟩ := h)); subst_vars; rfl) (fun f cdv A outer s H E hr => (pss_one (ps_ret (pe_op op_mod (pe_op op_add (pv 1) (pe_op op_shl pe_int (pv 2))) (pe_mkk (ok_Space_size T) (pv 0) T.cl_Space hr (by decide) cb_Space_size_1 xa0 par_0))))) (rd_far_point K Z)
theorem ok_right_chain (T : Txt K mg Z base) : DK P w K mg base CX0 8 "right_chain" ["space", "names", "name", "many"] s_right_chain [] [] (sp_right_chain K Z) :=
  T.f_right_chain.mk2 fun f fd F => fn0 F sc_right_chain (by intro vs H Q E h; unfold sp_right_chain at h; (repeat (obtain ⟨_, h⟩ := h)); subst_vars; rfl) (fun f cdv A outer s H E hr => (pss_one (ps_ret (pe_slice sl_list (pe_dk (ok_others_upwards T) hr (by decide) (by rfl) cb_others_upwards_3 xa0 (par_pos (pa_cons (pv 0) (pa_cons (pv 1) (pa_cons (pv 2) pa_nil))))) po_none (po_some (pv 3)))))) (rd_right_chain K Z)
theorem ok_right_far (T : Txt K mg Z base) : DK P w K mg base CX0 7 "right_far" ["space", "names", "name"] s_right_far [] [] (sp_right_far K Z) :=
  T.f_right_far.mk2 fun f fd F => fn0 F sc_right_far (by intro vs H Q E h; unfold sp_right_far at h; (repeat (obtain ⟨_, h⟩ := h)); subst_vars; rfl) (fun f cdv A outer s H E hr => (pss_one (ps_ret (pe_lc (own := [("k", 3)]) rfl sc_right_far.nd (pi_range1 rfl T.n_range (pa_cons (pe_mkk (ok_Space_bits T) (pv 0) T.cl_Space hr (by decide) cb_Space_bits_1 xa0 par_0) pa_nil)) (blkOk_by (N := ["space", "names", "name", "k"]) (sc := defScope s_right_far) (by decide +kernel)) (fun _ _ _ _ _ => (pg_name (i := 3) sc_right_far.nd rfl (Or.inl rfl))) (fun _ _ _ _ _ => pts_nil) (fun _ _ _ _ _ => (pe_mkk (ok_Space_nearest T) (pv 0) T.cl_Space hr (by decide) cb_Space_nearest_3 xa0 (par_pos (pa_cons (pv 1) (pa_cons (pe_dk (ok_far_point T) hr (by decide) (by rfl) cb_far_point_3 xa0 (par_pos (pa_cons (pv 0) (pa_cons (pv 2) (pa_cons (pv 3) pa_nil))))) pa_nil))))))))) (rd_right_far K Z)
theorem ok_right_node (T : Txt K mg Z base) : DK P w K mg base CX0 9 "right_node" ["space", "names", "name", "many"] s_right_node [] [] (sp_right_node K Z) :=
  T.f_right_node.mk2 fun f fd F => fn0 F sc_right_node (by intro vs H Q E h; unfold sp_right_node at h; (repeat (obtain ⟨_, h⟩ := h)); subst_vars; rfl) (fun f cdv A outer s H E hr => (pss_cons (ps_set (i := 4) sc_right_node.nd rfl (.inl rfl) (pe_dk (ok_right_chain T) hr (by decide) (by rfl) cb_right_chain_4 xa0 (par_pos (pa_cons (pv 0) (pa_cons (pv 1) (pa_cons (pv 2) (pa_cons (pv 3) pa_nil)))))))
      (pss_one (ps_ret (pe_ik (ok_Node___init__ T) hr (by decide) (by rfl) T.c_Node cb_Node___init___4 xa0 (par_pos (pa_cons (pv 4) (pa_cons (pe_mkk (ok_Space_preceding T) (pv 0) T.cl_Space hr (by decide) cb_Space_preceding_3 xa0 (par_pos (pa_cons (pv 1) (pa_cons (pv 2) pa_nil)))) (pa_cons (pe_dk (ok_right_far T) hr (by decide) (by rfl) cb_right_far_3 xa0 (par_pos (pa_cons (pv 0) (pa_cons (pv 1) (pa_cons (pv 2) pa_nil))))) pa_nil))))))))) (rd_right_node K Z)
theorem ok_is_length (T : Txt K mg Z base) : DK P w K mg base CX0 1 "is_length" ["thing"] s_is_length [] [] (sp_is_length K Z) :=
  T.f_is_length.mk2 fun f fd F => fn0 F sc_is_length (by intro vs H Q E h; unfold sp_is_length at h; (repeat (obtain ⟨_, h⟩ := h)); subst_vars; rfl) (fun f cdv A outer s H E hr => (pss_one (ps_ret (pe_and (pe_callB call_isi (by rfl) T.n_isinstance (by decide +kernel) (pa_cons (pv 0) (pa_cons (pe_bltn (v := .ty "int") (by rfl) T.n_int (by decide +kernel) rfl) pa_nil))) (pe_and (pe_not (pe_callB call_isi (by rfl) T.n_isinstance (by decide +kernel) (pa_cons (pv 0) (pa_cons (pe_bltn (v := .ty "bool") (by rfl) T.n_bool (by decide +kernel) rfl) pa_nil)))) (pe_one (pe_chain op_le op_le pe_int (pv 0) (pe_gI (by rfl) T.c_MOST_LENGTH)))))))) (rd_is_length K Z)
theorem ok_are_base (T : Txt K mg Z base) : DK P w K mg base CX0 3 "are_base" ["space", "thing", "many"] s_are_base [] [] (sp_are_base K Z) :=
  T.f_are_base.mk2 fun f fd F => fn0 F sc_are_base (by intro vs H Q E h; unfold sp_are_base at h; (repeat (obtain ⟨_, h⟩ := h)); subst_vars; rfl) (fun f cdv A outer s H E hr => (pss_cons (ps_if (PW.pt (pw_or (pt_not (pt_val (pe_callB call_isi (by rfl) T.n_isinstance (by decide +kernel) (pa_cons (pv 1) (pa_cons (pe_bltn (v := .ty "list") (by rfl) T.n_list (by decide +kernel) rfl) pa_nil))))) (pw_or1 (pt_not (pt_chain op_lt op_le (pv 2) (pe_callB call_len_seq (by rfl) T.n_len (by decide +kernel) (pa_cons (pv 1) pa_nil)) (pe_gI (by rfl) T.c_MOST_BASE)))))) (pss_one (ps_ret pe_bl)) pss_nil)
      (pss_one (ps_ret (pe_and (pe_callB (cr_all rfl) (by rfl) T.n_all (by decide +kernel) (pa_cons (pe_lc (own := [("one", 3)]) rfl sc_are_base.nd (pi_list (pv 1)) (blkOk_by (N := ["space", "thing", "many", "one"]) (sc := defScope s_are_base) (by decide +kernel)) (fun _ _ _ _ _ => (pg_name (i := 3) sc_are_base.nd rfl (Or.inl rfl))) (fun _ _ _ _ _ => pts_nil) (fun _ _ _ _ _ => (pe_mkk (ok_Space_has T) (pv 0) T.cl_Space hr (by decide) cb_Space_has_2 xa0 (par_pos (pa_cons (pv 3) pa_nil))))) pa_nil)) (pe_one (pe_cmpR op_eq (RZ.pe_lenSetI (by rfl) T.n_len (by rfl) T.n_set (pv 1)) (pe_callB call_len_seq (by rfl) T.n_len (by decide +kernel) (pa_cons (pv 1) pa_nil)) (nomark _)))))))) (rd_are_base K Z)
theorem ok_space_of (T : Txt K mg Z base) : DK P w K mg base CX0 4 "space_of" ["bits"] s_space_of [] [] (sp_space_of K Z) :=
  T.f_space_of.mk2 fun f fd F => fn0 F sc_space_of (by intro vs H Q E h; unfold sp_space_of at h; (repeat (obtain ⟨_, h⟩ := h)); subst_vars; rfl) (fun f cdv A outer s H E hr => (pss_cons (ps_tryA (i := 2) rfl rfl sc_space_of.nd rfl rfl ⟨by rfl, by decide, .inl T.c_NoSpace⟩ takes0 (fun W pn xe tk _ => (pss_one (ps_set (i := 1) sc_space_of.nd rfl (.inl rfl) (pe_ik (ok_Space___init__ T) hr (by decide) (by rfl) T.c_Space cb_Space___init___2 (passAt tk) (par_pos (pa_cons (pv 0) pa_nil)))))) (fun a oe cls d pn hz hf => (pss_one ps_never)))
      (pss_one (ps_ret (pv 1))))) (rd_space_of K Z)
theorem ok_Ring___init__ (T : Txt K mg Z base) : IK P w K mg base CX0 10 Z.Ring "Ring.__init__" ["self", "base", "bits", "length"] s_Ring___init__ [] [] (sp_Ring___init__ K Z) :=
  T.f_Ring___init__.mk2 fun f fd F => fn0 F sc_Ring___init__ (by intro vs H Q E h; unfold sp_Ring___init__ at h; (repeat (obtain ⟨_, h⟩ := h)); subst_vars; rfl) (fun f cdv A outer s H E hr => (pss_cons (ps_set (i := 4) sc_Ring___init__.nd rfl (.inr rfl) (pe_dk (ok_space_of T) hr (by decide) (by rfl) cb_space_of_1 xa0 (par_pos (pa_cons (pv 2) pa_nil))))
      (pss_cons (ps_if (pt_not (pt_val (pe_dk (ok_is_length T) hr (by decide) (by rfl) cb_is_length_1 xa0 (par_pos (pa_cons (pv 3) pa_nil))))) (pss_one ps_never) pss_nil)
      (pss_cons (ps_if (pt_not (pt_val (pe_dk (ok_are_base T) hr (by decide) (by rfl) cb_are_base_3 xa0 (par_pos (pa_cons (pv 4) (pa_cons (pv 1) (pa_cons (pv 3) pa_nil))))))) (pss_one ps_never) pss_nil)
      (pss_cons (ps_fld (pv 0) (pv 4) rfl)
      (pss_cons (ps_fld (pv 0) (pv 3) rfl)
      (pss_cons (ps_fld (pv 0) (pe_callB cr_sortedI (by rfl) T.n_sorted (by decide +kernel) (pa_cons (pv 1) pa_nil)) rfl)
      (pss_cons (ps_fld (pv 0) (pe_dc (own := [("name", 5)]) rfl sc_Ring___init__.nd (pi_list (pe_fld (pv 0) rfl)) (blkOk_by (N := ["self", "base", "bits", "length", "circle", "name"]) (sc := defScope s_Ring___init__) (by decide +kernel)) (fun _ _ _ _ _ => (pg_name (i := 5) sc_Ring___init__.nd rfl (Or.inl rfl))) (fun _ _ _ _ _ => pts_nil) (fun _ _ _ _ _ => (pv 5)) (fun _ _ _ _ _ => (pe_dk (ok_right_node T) hr (by decide) (by rfl) cb_right_node_4 xa0 (par_pos (pa_cons (pv 4) (pa_cons (pe_fld (pv 0) rfl) (pa_cons (pv 5) (pa_cons (pv 3) pa_nil)))))))) rfl)
      (pss_cons (ps_fld (pv 0) pe_int rfl)
      (pss_one (ps_fld (pv 0) (pe_lst pa_nil) rfl))))))))))) (rd_Ring___init__ K Z ⟨T.cl_Ring, T.na_Ring_circle, T.na_Ring_many, T.na_Ring_fixed, T.na_Ring_nodes, T.na_Ring_stamps, T.na_Ring_done, T.cl_Node, T.na_Node_chain, T.na_Node_prior, T.na_Node_far, T.na_Node_things, T.ne_Ring, T.ne_Node⟩)
theorem ok_Ring_space (T : Txt K mg Z base) : MK P w K mg base CX0 1 Z.Ring "space" "Ring.space" ["self"] s_Ring_space [] [] (sp_Ring_space K Z) :=
  T.f_Ring_space.mk2 fun f fd F => fn0 F sc_Ring_space (by intro vs H Q E h; unfold sp_Ring_space at h; (repeat (obtain ⟨_, h⟩ := h)); subst_vars; rfl) (fun f cdv A outer s H E hr => (pss_one (ps_ret (pe_fld (pv 0) rfl)))) (rd_Ring_space K Z ⟨T.cl_Ring, T.na_Ring_circle, T.na_Ring_many, T.na_Ring_fixed, T.na_Ring_nodes, T.na_Ring_stamps, T.na_Ring_done, T.cl_Node, T.na_Node_chain, T.na_Node_prior, T.na_Node_far, T.na_Node_things, T.ne_Ring, T.ne_Node⟩)
theorem ok_Ring_base (T : Txt K mg Z base) : MK P w K mg base CX0 1 Z.Ring "base" "Ring.base" ["self"] s_Ring_base [] [] (sp_Ring_base K Z) :=
  T.f_Ring_base.mk2 fun f fd F => fn0 F sc_Ring_base (by intro vs H Q E h; unfold sp_Ring_base at h; (repeat (obtain ⟨_, h⟩ := h)); subst_vars; rfl) (fun f cdv A outer s H E hr => (pss_one (ps_ret (pe_callTy call_list_of (by rfl) T.n_list (by decide +kernel) (pa_cons (pe_fld (pv 0) rfl) pa_nil))))) (rd_Ring_base K Z ⟨T.cl_Ring, T.na_Ring_circle, T.na_Ring_many, T.na_Ring_fixed, T.na_Ring_nodes, T.na_Ring_stamps, T.na_Ring_done, T.cl_Node, T.na_Node_chain, T.na_Node_prior, T.na_Node_far, T.na_Node_things, T.ne_Ring, T.ne_Node⟩)
theorem ok_Ring_members (T : Txt K mg Z base) : MK P w K mg base CX0 1 Z.Ring "members" "Ring.members" ["self"] s_Ring_members [] [] (sp_Ring_members K Z) :=
  T.f_Ring_members.mk2 fun f fd F => fn0 F sc_Ring_members (by intro vs H Q E h; unfold sp_Ring_members at h; (repeat (obtain ⟨_, h⟩ := h)); subst_vars; rfl) (fun f cdv A outer s H E hr => (pss_one (ps_ret (pe_callB (cr_sortedDI rfl) (by rfl) T.n_sorted (by decide +kernel) (pa_cons (pe_fld (pv 0) rfl) pa_nil))))) (rd_Ring_members K Z ⟨T.cl_Ring, T.na_Ring_circle, T.na_Ring_many, T.na_Ring_fixed, T.na_Ring_nodes, T.na_Ring_stamps, T.na_Ring_done, T.cl_Node, T.na_Node_chain, T.na_Node_prior, T.na_Node_far, T.na_Node_things, T.ne_Ring, T.ne_Node⟩)
theorem ok_Ring_is_member (T : Txt K mg Z base) : MK P w K mg base CX0 3 Z.Ring "is_member" "Ring.is_member" ["self", "thing"] s_Ring_is_member [] [] (sp_Ring_is_member K Z) :=
  T.f_Ring_is_member.mk2 fun f fd F => fn0 F sc_Ring_is_member (by intro vs H Q E h; unfold sp_Ring_is_member at h; (repeat (obtain ⟨_, h⟩ := h)); subst_vars; rfl) (fun f cdv A outer s H E hr => (pss_one (ps_ret (pe_and (pe_mkk (ok_Space_has T) (pe_fld (pv 0) rfl) T.cl_Space hr (by decide) cb_Space_has_2 xa0 (par_pos (pa_cons (pv 1) pa_nil))) (pe_one (pe_cmp (pc_din hr.u1 (pv 1) (pe_fld (pv 0) rfl)))))))) (rd_Ring_is_member K Z ⟨T.cl_Ring, T.na_Ring_circle, T.na_Ring_many, T.na_Ring_fixed, T.na_Ring_nodes, T.na_Ring_stamps, T.na_Ring_done, T.cl_Node, T.na_Node_chain, T.na_Node_prior, T.na_Node_far, T.na_Node_things, T.ne_Ring, T.ne_Node⟩)
theorem ok_Ring_node (T : Txt K mg Z base) : MK P w K mg base CX0 4 Z.Ring "node" "Ring.node" ["self", "name"] s_Ring_node [] [] (sp_Ring_node K Z) :=
  T.f_Ring_node.mk2 fun f fd F => fn0 F sc_Ring_node (by intro vs H Q E h; unfold sp_Ring_node at h; (repeat (obtain ⟨_, h⟩ := h)); subst_vars; rfl) (fun f cdv A outer s H E hr => (pss_cons (ps_if (pt_not (pt_val (pe_mkk (ok_Ring_is_member T) (pv 0) T.cl_Ring hr (by decide) cb_Ring_is_member_2 xa0 (par_pos (pa_cons (pv 1) pa_nil))))) (pss_one ps_never) pss_nil)
      (pss_one (ps_ret (pe_dget hr.u1 (pe_fld (pv 0) rfl) (pv 1) (fun _ _ => rfl)))))) (rd_Ring_node K Z ⟨T.cl_Ring, T.na_Ring_circle, T.na_Ring_many, T.na_Ring_fixed, T.na_Ring_nodes, T.na_Ring_stamps, T.na_Ring_done, T.cl_Node, T.na_Node_chain, T.na_Node_prior, T.na_Node_far, T.na_Node_things, T.ne_Ring, T.ne_Node⟩)
theorem ok_Ring_links (T : Txt K mg Z base) : MK P w K mg base CX0 5 Z.Ring "links" "Ring.links" ["self", "name"] s_Ring_links [] [] (sp_Ring_links K Z) :=
  T.f_Ring_links.mk2 fun f fd F => fn0 F sc_Ring_links (by intro vs H Q E h; unfold sp_Ring_links at h; (repeat (obtain ⟨_, h⟩ := h)); subst_vars; rfl) (fun f cdv A outer s H E hr => (pss_one (ps_ret (pe_callTy call_list_of (by rfl) T.n_list (by decide +kernel) (pa_cons (pe_fld (pe_mkk (ok_Ring_node T) (pv 0) T.cl_Ring hr (by decide) cb_Ring_node_2 xa0 (par_pos (pa_cons (pv 1) pa_nil))) rfl) pa_nil))))) (rd_Ring_links K Z ⟨T.cl_Ring, T.na_Ring_circle, T.na_Ring_many, T.na_Ring_fixed, T.na_Ring_nodes, T.na_Ring_stamps, T.na_Ring_done, T.cl_Node, T.na_Node_chain, T.na_Node_prior, T.na_Node_far, T.na_Node_things, T.ne_Ring, T.ne_Node⟩)
theorem ok_first_of (T : Txt K mg Z base) : DK P w K mg base CX0 1 "first_of" ["names", "some"] s_first_of [] [] (sp_first_of K Z) :=
  T.f_first_of.mk2 fun f fd F => fn0 F sc_first_of (by intro vs H Q E h; unfold sp_first_of at h; (repeat (obtain ⟨_, h⟩ := h)); subst_vars; rfl) (fun f cdv A outer s H E hr => (pss_cons (ps_for PassesOwn.never rfl (pi_list (pv 0)) (pg_name (i := 2) sc_first_of.nd rfl (Or.inl rfl)) (pss_one (ps_if (pt_cmpR op_in_seq (pv 2) (pv 1) (by rfl)) (pss_one (ps_ret (pv 2))) pss_nil)))
      (pss_one (ps_ret pe_non)))) (rd_first_of K Z)
theorem ok_Ring_next_of (T : Txt K mg Z base) : MK P w K mg base CX0 5 Z.Ring "next_of" "Ring.next_of" ["self", "name"] s_Ring_next_of [] [] (sp_Ring_next_of K Z) :=
  T.f_Ring_next_of.mk2 fun f fd F => fn0 F sc_Ring_next_of (by intro vs H Q E h; unfold sp_Ring_next_of at h; (repeat (obtain ⟨_, h⟩ := h)); subst_vars; rfl) (fun f cdv A outer s H E hr => (pss_one (ps_ret (pe_dk (ok_first_of T) hr (by decide) (by rfl) cb_first_of_2 xa0 (par_pos (pa_cons (pe_fld (pe_mkk (ok_Ring_node T) (pv 0) T.cl_Ring hr (by decide) cb_Ring_node_2 xa0 (par_pos (pa_cons (pv 1) pa_nil))) rfl) (pa_cons (pe_mkk (ok_Ring_members T) (pv 0) T.cl_Ring hr (by decide) cb_Ring_members_1 xa0 par_0) pa_nil))))))) (rd_Ring_next_of K Z ⟨T.cl_Ring, T.na_Ring_circle, T.na_Ring_many, T.na_Ring_fixed, T.na_Ring_nodes, T.na_Ring_stamps, T.na_Ring_done, T.cl_Node, T.na_Node_chain, T.na_Node_prior, T.na_Node_far, T.na_Node_things, T.ne_Ring, T.ne_Node⟩)
theorem ok_Ring_fingers (T : Txt K mg Z base) : MK P w K mg base CX0 5 Z.Ring "fingers" "Ring.fingers" ["self", "name"] s_Ring_fingers [] [] (sp_Ring_fingers K Z) :=
  T.f_Ring_fingers.mk2 fun f fd F => fn0 F sc_Ring_fingers (by intro vs H Q E h; unfold sp_Ring_fingers at h; (repeat (obtain ⟨_, h⟩ := h)); subst_vars; rfl) (fun f cdv A outer s H E hr => (pss_one (ps_ret (pe_callTy call_list_of (by rfl) T.n_list (by decide +kernel) (pa_cons (pe_fld (pe_mkk (ok_Ring_node T) (pv 0) T.cl_Ring hr (by decide) cb_Ring_node_2 xa0 (par_pos (pa_cons (pv 1) pa_nil))) rfl) pa_nil))))) (rd_Ring_fingers K Z ⟨T.cl_Ring, T.na_Ring_circle, T.na_Ring_many, T.na_Ring_fixed, T.na_Ring_nodes, T.na_Ring_stamps, T.na_Ring_done, T.cl_Node, T.na_Node_chain, T.na_Node_prior, T.na_Node_far, T.na_Node_things, T.ne_Ring, T.ne_Node⟩)
theorem ok_Ring_want_point (T : Txt K mg Z base) : MK P w K mg base CX0 3 Z.Ring "want_point" "Ring.want_point" ["self", "thing"] s_Ring_want_point [] [] (sp_Ring_want_point K Z) :=
  T.f_Ring_want_point.mk2 fun f fd F => fn0 F sc_Ring_want_point (by intro vs H Q E h; unfold sp_Ring_want_point at h; (repeat (obtain ⟨_, h⟩ := h)); subst_vars; rfl) (fun f cdv A outer s H E hr => (pss_one (ps_if (pt_not (pt_val (pe_mkk (ok_Space_has T) (pe_fld (pv 0) rfl) T.cl_Space hr (by decide) cb_Space_has_2 xa0 (par_pos (pa_cons (pv 1) pa_nil))))) (pss_one ps_never) pss_nil))) (rd_Ring_want_point K Z ⟨T.cl_Ring, T.na_Ring_circle, T.na_Ring_many, T.na_Ring_fixed, T.na_Ring_nodes, T.na_Ring_stamps, T.na_Ring_done, T.cl_Node, T.na_Node_chain, T.na_Node_prior, T.na_Node_far, T.na_Node_things, T.ne_Ring, T.ne_Node⟩)
theorem ok_farthest (T : Txt K mg Z base) : DK P w K mg base CX0 6 "farthest" ["ring", "here", "point"] s_farthest [] [] (sp_farthest K Z) :=
  let ⟨c, F, Lm⟩ := T.f_farthest; F.mk2 fun f fd F hc => fn0L F hc sc_farthest (by intro vs H Q E h; unfold sp_farthest at h; (repeat (obtain ⟨_, h⟩ := h)); subst_vars; rfl) (fun f A outer s H E hr => (pss_cons (ps_set (i := 5) sc_farthest.nd rfl (.inr rfl) (pe_mkk (ok_Ring_space T) (pv 0) T.cl_Ring hr (by decide) cb_Ring_space_1 xa0 par_0))
      (pss_cons (ps_setLc (i := 3) (own := [("name", 6)]) rfl sc_farthest.nd rfl rfl (sw_true rfl rfl rfl (by decide +kernel)) (pi_list (pe_op op_cat (pe_mkk (ok_Ring_links T) (pv 0) T.cl_Ring hr (by decide) cb_Ring_links_2 xa0 (par_pos (pa_cons (pv 1) pa_nil))) (pe_mkk (ok_Ring_fingers T) (pv 0) T.cl_Ring hr (by decide) cb_Ring_fingers_2 xa0 (par_pos (pa_cons (pv 1) pa_nil))))) (blkOk_by (N := ["ring", "here", "point", "known", "between", "space", "name"]) (sc := defScope s_farthest) (by decide +kernel)) (fun _ _ _ _ _ => (pg_name (i := 6) sc_farthest.nd rfl (Or.inl rfl))) (fun _ _ _ _ _ => (pts_one (pt_val (pe_mkk (ok_Ring_is_member T) (pv 0) T.cl_Ring hr (by decide) cb_Ring_is_member_2 xa0 (par_pos (pa_cons (pv 6) pa_nil)))))) (fun _ _ _ _ _ => (pv 6)))
      (pss_cons (ps_setLc (i := 4) (own := [("name", 6)]) rfl sc_farthest.nd rfl rfl (sw_true rfl rfl rfl (by decide +kernel)) (pi_list (pv 3)) (blkOk_by (N := ["ring", "here", "point", "known", "between", "space", "name"]) (sc := defScope s_farthest) (by decide +kernel)) (fun _ _ _ _ _ => (pg_name (i := 6) sc_farthest.nd rfl (Or.inl rfl))) (fun _ _ _ _ _ => (pts_one (pt_val (pe_mkk (ok_Space_is_between T) (pv 5) T.cl_Space hr (by decide) cb_Space_is_between_4 xa0 (par_pos (pa_cons (pv 6) (pa_cons (pv 1) (pa_cons (pv 2) pa_nil)))))))) (fun _ _ _ _ _ => (pv 6)))
      (pss_one (ps_ret (pe_maxL (k := 2) (j := 6) (a := "name") hr (by decide) (by rfl) T.n_max (pa_cons (pv 4) pa_nil) Lm rfl rfl (sc := defScope s_farthest) rfl (by decide +kernel) sc_farthest.nd rfl (fun A s H f c' hr => (pe_mkk (ok_Space_distance T) (pv 5) T.cl_Space hr (by decide) cb_Space_distance_3 xa0 (par_pos (pa_cons (pv 1) (pa_cons (pv 6) pa_nil)))))))))))) (rd_farthest K Z)
theorem ok_known_by (T : Txt K mg Z base) : DK P w K mg base CX0 6 "known_by" ["ring", "here", "name"] s_known_by [] [] (sp_known_by K Z) :=
  T.f_known_by.mk2 fun f fd F => fn0 F sc_known_by (by intro vs H Q E h; unfold sp_known_by at h; (repeat (obtain ⟨_, h⟩ := h)); subst_vars; rfl) (fun f cdv A outer s H E hr => (pss_cons (ps_set (i := 3) sc_known_by.nd rfl (.inl rfl) (pe_mkk (ok_Ring_links T) (pv 0) T.cl_Ring hr (by decide) cb_Ring_links_2 xa0 (par_pos (pa_cons (pv 1) pa_nil))))
      (pss_cons (ps_if (pt_cmpR op_in_seq (pv 2) (pv 3) (by rfl)) (pss_one (ps_ret (pe_tup (pa_cons pe_str (pa_cons (pe_bm PySem.F.plainAttrs_list PySem.F.slot_list_index PySem.F.type_list_index mt_index (pv 3) (pa_cons (pv 2) pa_nil)) pa_nil))))) pss_nil)
      (pss_one (ps_ret (pe_tup (pa_cons pe_str (pa_cons (pe_bm PySem.F.plainAttrs_list PySem.F.slot_list_index PySem.F.type_list_index mt_index (pe_mkk (ok_Ring_fingers T) (pv 0) T.cl_Ring hr (by decide) cb_Ring_fingers_2 xa0 (par_pos (pa_cons (pv 1) pa_nil))) (pa_cons (pv 2) pa_nil)) pa_nil)))))))) (rd_known_by K Z)
theorem ok_Seeker___init__ (T : Txt K mg Z base) : IK P w K mg base CX0 5 Z.Seeker "Seeker.__init__" ["self", "ring", "point", "via"] s_Seeker___init__ [] [] (sp_Seeker___init__ K Z) :=
  T.f_Seeker___init__.mk2 fun f fd F => fn0 F sc_Seeker___init__ (by intro vs H Q E h; unfold sp_Seeker___init__ at h; (repeat (obtain ⟨_, h⟩ := h)); subst_vars; rfl) (fun f cdv A outer s H E hr => (pss_cons (ps_expr (pe_mkk (ok_Ring_want_point T) (pv 1) T.cl_Ring hr (by decide) cb_Ring_want_point_2 xa0 (par_pos (pa_cons (pv 2) pa_nil))))
      (pss_cons (ps_expr (pe_mkk (ok_Ring_node T) (pv 1) T.cl_Ring hr (by decide) cb_Ring_node_2 xa0 (par_pos (pa_cons (pv 3) pa_nil))))
      (pss_cons (ps_fld (pv 0) (pv 1) rfl)
      (pss_cons (ps_fld (pv 0) (pv 2) rfl)
      (pss_cons (ps_fld (pv 0) (pe_lst (pa_cons (pv 3) pa_nil)) rfl)
      (pss_cons (ps_fld (pv 0) pe_int rfl)
      (pss_one (ps_fld (pv 0) pe_non rfl))))))))) (rd_Seeker___init__ K Z ⟨T.cl_Seeker, T.na_Seeker_around, T.na_Seeker_sought, T.na_Seeker_trail, T.na_Seeker_returns, T.na_Seeker_goal, T.ne_Seeker⟩)
theorem ok_Seeker_at (T : Txt K mg Z base) : MK P w K mg base CX0 1 Z.Seeker "at" "Seeker.at" ["self"] s_Seeker_at [] [] (sp_Seeker_at K Z) :=
  T.f_Seeker_at.mk2 fun f fd F => fn0 F sc_Seeker_at (by intro vs H Q E h; unfold sp_Seeker_at at h; (repeat (obtain ⟨_, h⟩ := h)); subst_vars; rfl) (fun f cdv A outer s H E hr => (pss_one (ps_ret (pe_ix ix_list (pe_fld (pv 0) rfl) (pe_un un_neg pe_int) (fun _ _ => rfl))))) (rd_Seeker_at K Z ⟨T.cl_Seeker, T.na_Seeker_around, T.na_Seeker_sought, T.na_Seeker_trail, T.na_Seeker_returns, T.na_Seeker_goal, T.ne_Seeker⟩)
theorem ok_Seeker_go_back (T : Txt K mg Z base) : MK P w K mg base CX0 7 Z.Seeker "go_back" "Seeker.go_back" ["self"] s_Seeker_go_back [] [] (sp_Seeker_go_back K Z) :=
  T.f_Seeker_go_back.mk2 fun f fd F => fn0 F sc_Seeker_go_back (by rintro vs H Q E ⟨_, _, h⟩; exact h.elim) (fun f cdv A outer s H E hr => (pss_cons (ps_setLc (i := 1) (own := [("name", 2)]) rfl sc_Seeker_go_back.nd rfl rfl (sw_true rfl rfl rfl (by decide +kernel)) (pi_list (pe_fld (pv 0) rfl)) (blkOk_by (N := ["self", "left", "name"]) (sc := defScope s_Seeker_go_back) (by decide +kernel)) (fun _ _ _ _ _ => (pg_name (i := 2) sc_Seeker_go_back.nd rfl (Or.inl rfl))) (fun _ _ _ _ _ => (pts_one (pt_val (pe_mkk (ok_Ring_is_member T) (pe_fld (pv 0) rfl) T.cl_Ring hr (by decide) cb_Ring_is_member_2 xa0 (par_pos (pa_cons (pv 2) pa_nil)))))) (fun _ _ _ _ _ => (pv 2)))
      (pss_cons (ps_if (pt_cmpR (op_eqD hr.units) (pv 1) (pe_lst pa_nil) (nomark _)) (pss_one (ps_set (i := 1) sc_Seeker_go_back.nd rfl (.inl rfl) (pe_lst (pa_cons (pe_mkk (ok_Space_preceding T) (pe_mkk (ok_Ring_space T) (pe_fld (pv 0) rfl) T.cl_Ring hr (by decide) cb_Ring_space_1 xa0 par_0) T.cl_Space hr (by decide) cb_Space_preceding_3 xa0 (par_pos (pa_cons (pe_mkk (ok_Ring_base T) (pe_fld (pv 0) rfl) T.cl_Ring hr (by decide) cb_Ring_base_1 xa0 par_0) (pa_cons (pe_fld (pv 0) rfl) pa_nil)))) pa_nil)))) pss_nil)
      (pss_cons (ps_expr (pe_bm PySem.F.plainAttrs_list PySem.F.slot_list_append PySem.F.type_list_append mt_append (pe_fld (pv 0) rfl) (pa_cons (pe_ix ix_list (pv 1) (pe_un un_neg pe_int) (fun _ _ => rfl)) pa_nil)))
      (pss_one (ps_fldaug (pv 0) pe_int ip_add)))))) (rd_Seeker_go_back K Z ⟨T.cl_Seeker, T.na_Seeker_around, T.na_Seeker_sought, T.na_Seeker_trail, T.na_Seeker_returns, T.na_Seeker_goal, T.ne_Seeker⟩)
theorem ok_Seeker_go_upwards (T : Txt K mg Z base) : MK P w K mg base CX0 7 Z.Seeker "go_upwards" "Seeker.go_upwards" ["self", "here", "after"] s_Seeker_go_upwards [] [] (sp_Seeker_go_upwards K Z) :=
  T.f_Seeker_go_upwards.mk2 fun f fd F => fn0 F sc_Seeker_go_upwards (by intro vs H Q E h; unfold sp_Seeker_go_upwards at h; (repeat (obtain ⟨_, h⟩ := h)); subst_vars; rfl) (fun f cdv A outer s H E hr => (pss_one (ps_if (PW.pt (pw_or (pt_cmpR op_eq (pe_fld (pv 0) rfl) (pv 2) (nomark _)) (pw_or1 (pt_val (pe_mkk (ok_Space_is_between T) (pe_mkk (ok_Ring_space T) (pe_fld (pv 0) rfl) T.cl_Ring hr (by decide) cb_Ring_space_1 xa0 par_0) T.cl_Space hr (by decide) cb_Space_is_between_4 xa0 (par_pos (pa_cons (pe_fld (pv 0) rfl) (pa_cons (pv 1) (pa_cons (pv 2) pa_nil))))))))) (pss_one (ps_fld (pv 0) (pv 2) rfl)) (pss_one (ps_expr (pe_bm PySem.F.plainAttrs_list PySem.F.slot_list_append PySem.F.type_list_append mt_append (pe_fld (pv 0) rfl) (pa_cons (pe_dk (ok_farthest T) hr (by decide) (by rfl) cb_farthest_3 xa0 (par_pos (pa_cons (pe_fld (pv 0) rfl) (pa_cons (pv 1) (pa_cons (pe_fld (pv 0) rfl) pa_nil))))) pa_nil))))))) (rd_Seeker_go_upwards K Z ⟨T.cl_Seeker, T.na_Seeker_around, T.na_Seeker_sought, T.na_Seeker_trail, T.na_Seeker_returns, T.na_Seeker_goal, T.ne_Seeker⟩)
theorem ok_Seeker_go_on (T : Txt K mg Z base) : MK P w K mg base CX0 8 Z.Seeker "go_on" "Seeker.go_on" ["self"] s_Seeker_go_on [] [] (sp_Seeker_go_on K Z) :=
  T.f_Seeker_go_on.mk2 fun f fd F => fn0 F sc_Seeker_go_on (by intro vs H Q E h; unfold sp_Seeker_go_on at h; (repeat (obtain ⟨_, h⟩ := h)); subst_vars; rfl) (fun f cdv A outer s H E hr => (pss_cons (ps_set (i := 1) sc_Seeker_go_on.nd rfl (.inl rfl) (pe_mkk (ok_Seeker_at T) (pv 0) T.cl_Seeker hr (by decide) cb_Seeker_at_1 xa0 par_0))
      (pss_one (ps_if (pt_not (pt_val (pe_mkk (ok_Ring_is_member T) (pe_fld (pv 0) rfl) T.cl_Ring hr (by decide) cb_Ring_is_member_2 xa0 (par_pos (pa_cons (pv 1) pa_nil))))) (pss_one (ps_expr (pe_mkk (ok_Seeker_go_back T) (pv 0) T.cl_Seeker hr (by decide) cb_Seeker_go_back_1 xa0 par_0))) (pss_one (ps_if (pt_cmpR op_eq (pv 1) (pe_fld (pv 0) rfl) (nomark _)) (pss_one (ps_fld (pv 0) (pv 1) rfl)) (pss_one (ps_expr (pe_mkk (ok_Seeker_go_upwards T) (pv 0) T.cl_Seeker hr (by decide) cb_Seeker_go_upwards_3 xa0 (par_pos (pa_cons (pv 1) (pa_cons (pe_mkk (ok_Ring_next_of T) (pe_fld (pv 0) rfl) T.cl_Ring hr (by decide) cb_Ring_next_of_2 xa0 (par_pos (pa_cons (pv 1) pa_nil))) pa_nil)))))))))))) (rd_Seeker_go_on K Z ⟨T.cl_Seeker, T.na_Seeker_around, T.na_Seeker_sought, T.na_Seeker_trail, T.na_Seeker_returns, T.na_Seeker_goal, T.ne_Seeker⟩)
theorem ok_Seeker_step (T : Txt K mg Z base) : MK P w K mg base CX0 9 Z.Seeker "step" "Seeker.step" ["self"] s_Seeker_step [] [] (sp_Seeker_step K Z) :=
  T.f_Seeker_step.mk2 fun f fd F => fn0 F sc_Seeker_step (by intro vs H Q E h; unfold sp_Seeker_step at h; (repeat (obtain ⟨_, h⟩ := h)); subst_vars; rfl) (fun f cdv A outer s H E hr => (pss_cons (ps_if (pt_cmpR op_isN (pe_fld (pv 0) rfl) pe_non (nomark _)) (pss_one (ps_expr (pe_mkk (ok_Seeker_go_on T) (pv 0) T.cl_Seeker hr (by decide) cb_Seeker_go_on_1 xa0 par_0))) pss_nil)
      (pss_one (ps_ret (pe_cmpR op_notN (pe_fld (pv 0) rfl) pe_non (nomark _)))))) (rd_Seeker_step K Z ⟨T.cl_Seeker, T.na_Seeker_around, T.na_Seeker_sought, T.na_Seeker_trail, T.na_Seeker_returns, T.na_Seeker_goal, T.ne_Seeker⟩)
theorem ok_Seeker_way (T : Txt K mg Z base) : MK P w K mg base CX0 1 Z.Seeker "way" "Seeker.way" ["self"] s_Seeker_way [] [] (sp_Seeker_way K Z) :=
  T.f_Seeker_way.mk2 fun f fd F => fn0 F sc_Seeker_way (by intro vs H Q E h; unfold sp_Seeker_way at h; (repeat (obtain ⟨_, h⟩ := h)); subst_vars; rfl) (fun f cdv A outer s H E hr => (pss_one (ps_ret (pe_callTy call_list_of (by rfl) T.n_list (by decide +kernel) (pa_cons (pe_fld (pv 0) rfl) pa_nil))))) (rd_Seeker_way K Z ⟨T.cl_Seeker, T.na_Seeker_around, T.na_Seeker_sought, T.na_Seeker_trail, T.na_Seeker_returns, T.na_Seeker_goal, T.ne_Seeker⟩)
theorem ok_Seeker_answer (T : Txt K mg Z base) : MK P w K mg base CX0 1 Z.Seeker "answer" "Seeker.answer" ["self"] s_Seeker_answer [] [] (sp_Seeker_answer K Z) :=
  T.f_Seeker_answer.mk2 fun f fd F => fn0 F sc_Seeker_answer (by intro vs H Q E h; unfold sp_Seeker_answer at h; (repeat (obtain ⟨_, h⟩ := h)); subst_vars; rfl) (fun f cdv A outer s H E hr => (pss_one (ps_ret (pe_fld (pv 0) rfl)))) (rd_Seeker_answer K Z ⟨T.cl_Seeker, T.na_Seeker_around, T.na_Seeker_sought, T.na_Seeker_trail, T.na_Seeker_returns, T.na_Seeker_goal, T.ne_Seeker⟩)
theorem ok_Found___init__ (T : Txt K mg Z base) : IK P w K mg base CX0 1 Z.Found "Found.__init__" ["self", "trail", "goal", "reasons"] s_Found___init__ [] [] (sp_Found___init__ K Z) :=
  T.f_Found___init__.mk2 fun f fd F => fn0 F sc_Found___init__ (by intro vs H Q E h; unfold sp_Found___init__ at h; (repeat (obtain ⟨_, h⟩ := h)); subst_vars; rfl) (fun f cdv A outer s H E hr => (pss_cons (ps_fld (pv 0) (pv 1) rfl)
      (pss_cons (ps_fld (pv 0) (pv 2) rfl)
      (pss_one (ps_fld (pv 0) (pv 3) rfl))))) (rd_Found___init__ K Z ⟨T.cl_Found, T.na_Found_trail, T.na_Found_goal, T.na_Found_reasons, T.ne_Found⟩)
theorem ok_Found_path (T : Txt K mg Z base) : MK P w K mg base CX0 1 Z.Found "path" "Found.path" ["self"] s_Found_path [] [] (sp_Found_path K Z) :=
  T.f_Found_path.mk2 fun f fd F => fn0 F sc_Found_path (by intro vs H Q E h; unfold sp_Found_path at h; (repeat (obtain ⟨_, h⟩ := h)); subst_vars; rfl) (fun f cdv A outer s H E hr => (pss_one (ps_ret (pe_callTy call_list_of (by rfl) T.n_list (by decide +kernel) (pa_cons (pe_fld (pv 0) rfl) pa_nil))))) (rd_Found_path K Z ⟨T.cl_Found, T.na_Found_trail, T.na_Found_goal, T.na_Found_reasons, T.ne_Found⟩)
theorem ok_Found_answer (T : Txt K mg Z base) : MK P w K mg base CX0 1 Z.Found "answer" "Found.answer" ["self"] s_Found_answer [] [] (sp_Found_answer K Z) :=
  T.f_Found_answer.mk2 fun f fd F => fn0 F sc_Found_answer (by intro vs H Q E h; unfold sp_Found_answer at h; (repeat (obtain ⟨_, h⟩ := h)); subst_vars; rfl) (fun f cdv A outer s H E hr => (pss_one (ps_ret (pe_fld (pv 0) rfl)))) (rd_Found_answer K Z ⟨T.cl_Found, T.na_Found_trail, T.na_Found_goal, T.na_Found_reasons, T.ne_Found⟩)
theorem ok_Found_ways (T : Txt K mg Z base) : MK P w K mg base CX0 1 Z.Found "ways" "Found.ways" ["self"] s_Found_ways [] [] (sp_Found_ways K Z) :=
  T.f_Found_ways.mk2 fun f fd F => fn0 F sc_Found_ways (by intro vs H Q E h; unfold sp_Found_ways at h; (repeat (obtain ⟨_, h⟩ := h)); subst_vars; rfl) (fun f cdv A outer s H E hr => (pss_one (ps_ret (pe_callTy call_list_of (by rfl) T.n_list (by decide +kernel) (pa_cons (pe_fld (pv 0) rfl) pa_nil))))) (rd_Found_ways K Z ⟨T.cl_Found, T.na_Found_trail, T.na_Found_goal, T.na_Found_reasons, T.ne_Found⟩)
theorem ok_TooFar___init__ (T : Txt K mg Z base) : EK P w K mg base CX0 1 Z.TooFar "TooFar.__init__" ["self", "stood"] s_TooFar___init__ (sp_TooFar___init__ K Z) :=
  T.f_TooFar___init__.mk2 fun f fd F => fn0 F sc_TooFar___init__ (by intro vs H Q E h; unfold sp_TooFar___init__ at h; (repeat (obtain ⟨_, h⟩ := h)); subst_vars; rfl) (fun f cdv A outer s H E hr => (pss_cons (ps_expr (pe_reinit T.re_RingError (pe_gR (by rfl) T.c_RingError) (pa_cons (pv 0) (pa_cons pe_str pa_nil))))
      (pss_one (ps_ost (pv 0) (pv 1))))) (rd_TooFar___init__ K Z T.oe_TooFar T.nf_TooFar_stood)
theorem ok_lookX (T : Txt K mg Z base) : DK P w K mg base (L2.CX P w) 10 "look" ["ring", "point", "via", "within"] s_lookX [] [("within", .non)] (sp_lookX K Z) :=
  T.f_lookX.mk2 fun f fd F => fnx F sc_lookX (by intro vs H Q E h; unfold sp_lookX at h; (repeat (obtain ⟨_, h⟩ := h)); subst_vars; rfl) (fun f cdv A outer s H E hr => (pss_cons (ps_set (i := 4) sc_lookX.nd rfl (.inl rfl) (pe_ik (ok_Seeker___init__ T) hr (by decide) (by rfl) T.c_Seeker cb_Seeker___init___3_3 xa0 (par_both (pa_cons (pv 0) (pa_cons (pv 1) pa_nil)) (pk_cons (pv 2) pk_nil))))
      (pss_cons (ps_while (passes_of rfl) (pt_not (pt_val (pe_mkk (ok_Seeker_step T) (pv 4) T.cl_Seeker hr (by decide) cb_Seeker_step_1 xa0 par_0))) (pss_cons (ps_set (i := 5) sc_lookX.nd rfl (.inl rfl) (pe_mkk (ok_Seeker_way T) (pv 4) T.cl_Seeker hr (by decide) cb_Seeker_way_1 xa0 par_0))
      (pss_one (ps_if (PW.pt (pw_and (pt_cmpR op_notN (pv 3) pe_non (nomark _)) (pw_and1 (pt_cmpR op_gt (pe_op op_sub (pe_callB call_len_seq (by rfl) T.n_len (by decide +kernel) (pa_cons (pv 5) pa_nil)) pe_int) (pv 3) (nomark _))))) (pss_one (ps_raise rfl (takes_of rfl rfl rfl rfl) (pmk_ek T.oe_TooFar (ok_TooFar___init__ T) hr (by decide) (fun F => FunD.binds2 F (fun _ _ _ _ _ _ _ _ => rfl)) (by rfl) T.c_TooFar (pa_cons (pe_ix ix_list (pv 5) (pe_un un_neg pe_int) (fun _ _ => rfl)) pa_nil)))) pss_nil))))
      (pss_cons (ps_set (i := 5) sc_lookX.nd rfl (.inl rfl) (pe_mkk (ok_Seeker_way T) (pv 4) T.cl_Seeker hr (by decide) cb_Seeker_way_1 xa0 par_0))
      (pss_cons (ps_setLc (i := 6) (own := [("one", 7), ("other", 8)]) rfl sc_lookX.nd rfl rfl (sw_true rfl rfl rfl (by decide +kernel)) (pi_zip (by rfl) T.n_zip (pa_cons (pv 5) (pa_cons (pe_slice sl_list (pv 5) (po_some pe_int) po_none) pa_nil))) (blkOk_by (N := ["ring", "point", "via", "within", "seeker", "trail", "reasons", "one", "other"]) (sc := defScope s_lookX) (by decide +kernel)) (fun _ _ _ _ _ => (pg_tup rfl (pgs_cons (pg_name (i := 7) sc_lookX.nd rfl (Or.inl rfl)) (pgs_cons (pg_name (i := 8) sc_lookX.nd rfl (Or.inl rfl)) pgs_nil)))) (fun _ _ _ _ _ => pts_nil) (fun _ _ _ _ _ => (pe_dk (ok_known_by T) hr (by decide) (by rfl) cb_known_by_3 xa0 (par_pos (pa_cons (pv 0) (pa_cons (pv 7) (pa_cons (pv 8) pa_nil)))))))
      (pss_one (ps_ret (pe_ik (ok_Found___init__ T) hr (by decide) (by rfl) T.c_Found cb_Found___init___4 xa0 (par_pos (pa_cons (pv 5) (pa_cons (pe_mkk (ok_Seeker_answer T) (pv 4) T.cl_Seeker hr (by decide) cb_Seeker_answer_1 xa0 par_0) (pa_cons (pv 6) pa_nil)))))))))))) (rd_lookX K Z)
theorem ok__law_pot (T : Txt K mg Z base) : DK P w K mg base CX0 1 "_law_pot" ["_law_script", "_law_k"] s__law_pot [] [] (sp__law_pot K Z) :=
  T.f__law_pot.mk2 fun f fd F => fn0 F sc__law_pot (by intro vs H Q E h; unfold sp__law_pot at h; (repeat (obtain ⟨_, h⟩ := h)); subst_vars; rfl) (fun f cdv A outer s H E hr => (pss_cons (ps_set (i := 2) sc__law_pot.nd rfl (.inl rfl) pe_int)
      (pss_cons (ps_if (pt_cmpR op_lt (pv 1) (pe_callB call_len_seq (by rfl) T.n_len (by decide +kernel) (pa_cons (pv 0) pa_nil)) (nomark _)) (pss_one (ps_set (i := 2) sc__law_pot.nd rfl (.inl rfl) (pe_ix ix_list (pv 0) (pv 1) (fun _ _ => rfl)))) pss_nil)
      (pss_cons (ps_set (i := 3) sc__law_pot.nd rfl (.inl rfl) (pe_op op_add pe_int (pe_op op_mul pe_int (pv 1))))
      (pss_cons (ps_for PassesOwn.never rfl (pi_list (pe_slice sl_list (pv 0) po_none (po_some pe_int))) (pg_name (i := 4) sc__law_pot.nd rfl (Or.inl rfl)) (pss_one (ps_set (i := 3) sc__law_pot.nd rfl (.inl rfl) (pe_op op_mod (pe_op op_add (pe_op op_mul (pv 3) pe_int) (pv 4)) pe_int))))
      (pss_one (ps_ret (pe_lst (pa_cons (pe_op op_mul (pv 2) (pe_callTy call_int1 (by rfl) T.n_int (by decide +kernel) (pa_cons (pe_cmpR op_ge (pv 2) (pe_op op_pow pe_int pe_int) (nomark _)) pa_nil))) (pa_cons (pv 3) pa_nil)))))))))) (rd__law_pot K Z)
theorem ok__law_take (T : Txt K mg Z base) : DK P w K mg base CX0 1 "_law_take" ["_law_pot_here", "_law_room"] s__law_take [] [] (sp__law_take K Z) :=
  T.f__law_take.mk2 fun f fd F => fn0 F sc__law_take (by intro vs H Q E h; unfold sp__law_take at h; (repeat (obtain ⟨_, h⟩ := h)); subst_vars; rfl) (fun f cdv A outer s H E hr => (pss_cons (ps_if (pt_cmpR op_gt (pe_ix ix_list (pv 0) pe_int (fun _ _ => rfl)) pe_int (nomark _)) (pss_cons (ps_set (i := 2) sc__law_take.nd rfl (.inl rfl) (pe_op op_mod (pe_ix ix_list (pv 0) pe_int (fun _ _ => rfl)) (pv 1)))
      (pss_cons (ps_asg (pe_op op_fdivW (pe_ix ix_list (pv 0) pe_int (fun _ _ => rfl)) (pv 1)) (pg_sub (pv 0) pe_int set_list))
      (pss_one (ps_ret (pv 2))))) pss_nil)
      (pss_cons (ps_asg (pe_op op_mod (pe_op op_add (pe_op op_mul (pe_ix ix_list (pv 0) pe_int (fun _ _ => rfl)) pe_int) pe_int) pe_int) (pg_sub (pv 0) pe_int set_list))
      (pss_one (ps_ret (pe_op op_mod (pe_op op_fdivW (pe_op op_mod (pe_op op_mul (pe_ix ix_list (pv 0) pe_int (fun _ _ => rfl)) (pe_ix ix_list (pv 0) pe_int (fun _ _ => rfl))) pe_int) pe_int) (pv 1))))))) (rd__law_take K Z)
theorem ok__law_bits (T : Txt K mg Z base) : DK P w K mg base CX0 2 "_law_bits" ["_law_pot_here"] s__law_bits [] [] (sp__law_bits K Z) :=
  T.f__law_bits.mk2 fun f fd F => fn0 F sc__law_bits (by intro vs H Q E h; unfold sp__law_bits at h; (repeat (obtain ⟨_, h⟩ := h)); subst_vars; rfl) (fun f cdv A outer s H E hr => (pss_one (ps_ret (pe_ix ix_list (pe_lst (pa_cons pe_int (pa_cons pe_int (pa_cons (pe_op op_add pe_int (pe_dk (ok__law_take T) hr (by decide) (by rfl) cb__law_take_2 xa0 (par_pos (pa_cons (pv 0) (pa_cons pe_int pa_nil))))) (pa_cons (pe_op op_add pe_int (pe_dk (ok__law_take T) hr (by decide) (by rfl) cb__law_take_2 xa0 (par_pos (pa_cons (pv 0) (pa_cons pe_int pa_nil))))) pa_nil))))) (pe_dk (ok__law_take T) hr (by decide) (by rfl) cb__law_take_2 xa0 (par_pos (pa_cons (pv 0) (pa_cons pe_int pa_nil)))) (fun _ _ => rfl))))) (rd__law_bits K Z)
theorem ok__law_point (T : Txt K mg Z base) : DK P w K mg base CX0 2 "_law_point" ["_law_pot_here", "_law_size_here", "_law_near"] s__law_point [] [] (sp__law_point K Z) :=
  T.f__law_point.mk2 fun f fd F => fn0 F sc__law_point (by intro vs H Q E h; unfold sp__law_point at h; (repeat (obtain ⟨_, h⟩ := h)); subst_vars; rfl) (fun f cdv A outer s H E hr => (pss_cons (ps_set (i := 3) sc__law_point.nd rfl (.inl rfl) (pe_dk (ok__law_take T) hr (by decide) (by rfl) cb__law_take_2 xa0 (par_pos (pa_cons (pv 0) (pa_cons pe_int pa_nil)))))
      (pss_cons (ps_set (i := 4) sc__law_point.nd rfl (.inl rfl) (pe_dk (ok__law_take T) hr (by decide) (by rfl) cb__law_take_2 xa0 (par_pos (pa_cons (pv 0) (pa_cons (pv 1) pa_nil)))))
      (pss_one (ps_ret (pe_ix ix_list (pe_lst (pa_cons (pv 4) (pa_cons (pe_op op_mod (pe_op op_sub (pe_op op_add (pv 2) (pe_op op_mod (pv 4) pe_int)) pe_int) (pv 1)) (pa_cons (pe_op op_mod (pe_op op_add (pv 2) (pe_op op_mod (pv 4) pe_int)) (pv 1)) (pa_cons (pv 4) pa_nil))))) (pv 3) (fun _ _ => rfl))))))) (rd__law_point K Z)
theorem ok__law_points (T : Txt K mg Z base) : DK P w K mg base CX0 3 "_law_points" ["_law_pot_here", "_law_size_here", "_law_near", "_law_room"] s__law_points [] [] (sp__law_points K Z) :=
  T.f__law_points.mk2 fun f fd F => fn0 F sc__law_points (by intro vs H Q E h; unfold sp__law_points at h; (repeat (obtain ⟨_, h⟩ := h)); subst_vars; rfl) (fun f cdv A outer s H E hr => (pss_one (ps_ret (pe_lc (own := [("_law_k", 4)]) rfl sc__law_points.nd (pi_range1 rfl T.n_range (pa_cons (pe_op op_add pe_int (pe_dk (ok__law_take T) hr (by decide) (by rfl) cb__law_take_2 xa0 (par_pos (pa_cons (pv 0) (pa_cons (pv 3) pa_nil))))) pa_nil)) (blkOk_by (N := ["_law_pot_here", "_law_size_here", "_law_near", "_law_room", "_law_k"]) (sc := defScope s__law_points) (by decide +kernel)) (fun _ _ _ _ _ => (pg_name (i := 4) sc__law_points.nd rfl (Or.inl rfl))) (fun _ _ _ _ _ => pts_nil) (fun _ _ _ _ _ => (pe_dk (ok__law_point T) hr (by decide) (by rfl) cb__law_point_3 xa0 (par_pos (pa_cons (pv 0) (pa_cons (pv 1) (pa_cons (pv 2) pa_nil)))))))))) (rd__law_points K Z)
theorem ok__law_size (T : Txt K mg Z base) : DK P w K mg base CX0 1 "_law_size" ["_law_wide"] s__law_size [] [] (sp__law_size K Z) :=
  T.f__law_size.mk2 fun f fd F => fn0 F sc__law_size (by intro vs H Q E h; unfold sp__law_size at h; (repeat (obtain ⟨_, h⟩ := h)); subst_vars; rfl) (fun f cdv A outer s H E hr => (pss_cons (ps_set (i := 1) sc__law_size.nd rfl (.inl rfl) pe_int)
      (pss_cons (ps_for PassesOwn.never rfl (pi_range1 rfl T.n_range (pa_cons (pv 0) pa_nil)) (pg_name (i := 2) sc__law_size.nd rfl (Or.inl rfl)) (pss_one (ps_set (i := 1) sc__law_size.nd rfl (.inl rfl) (pe_op op_mul (pv 1) pe_int))))
      (pss_one (ps_ret (pv 1)))))) (rd__law_size K Z)
theorem ok__law_base (T : Txt K mg Z base) : DK P w K mg base CX0 4 "_law_base" ["_law_pot_here", "_law_size_here", "_law_room"] s__law_base [] [] (sp__law_base K Z) :=
  T.f__law_base.mk2 fun f fd F => fn0 F sc__law_base (by intro vs H Q E h; unfold sp__law_base at h; (repeat (obtain ⟨_, h⟩ := h)); subst_vars; rfl) (fun f cdv A outer s H E hr => (pss_cons (ps_set (i := 3) sc__law_base.nd rfl (.inl rfl) (pe_dk (ok__law_take T) hr (by decide) (by rfl) cb__law_take_2 xa0 (par_pos (pa_cons (pv 0) (pa_cons (pv 1) pa_nil)))))
      (pss_cons (ps_set (i := 4) sc__law_base.nd rfl (.inl rfl) (pe_lst pa_nil))
      (pss_cons (ps_for PassesOwn.never rfl (pi_list (pe_op op_cat (pe_dk (ok__law_points T) hr (by decide) (by rfl) cb__law_points_4 xa0 (par_pos (pa_cons (pv 0) (pa_cons (pv 1) (pa_cons (pv 3) (pa_cons pe_int pa_nil)))))) (pe_listRg rfl (by rfl) T.n_list (prg_1 (by rfl) T.n_range pe_int)))) (pg_name (i := 5) sc__law_base.nd rfl (Or.inl rfl)) (pss_one (ps_if (PW.pt (pw_and (pt_cmpR op_notIn_seq (pv 5) (pv 4) (by rfl)) (pw_and1 (PW.pt (pw_or (pt_cmpR op_le (pe_callB call_len_seq (by rfl) T.n_len (by decide +kernel) (pa_cons (pv 4) pa_nil)) (pv 2) (nomark _)) (pw_or1 (PW.pt (pw_and (pt_cmpR op_lt (pe_callB call_len_seq (by rfl) T.n_len (by decide +kernel) (pa_cons (pv 4) pa_nil)) pe_int (nomark _)) (pw_and1 (pt_cmpR op_gt (pe_dk (ok__law_take T) hr (by decide) (by rfl) cb__law_take_2 xa0 (par_pos (pa_cons (pv 0) (pa_cons pe_int pa_nil)))) pe_int (nomark _))))))))))) (pss_one (ps_expr (pe_bm PySem.F.plainAttrs_list PySem.F.slot_list_append PySem.F.type_list_append mt_append (pv 4) (pa_cons (pv 5) pa_nil)))) pss_nil)))
      (pss_one (ps_ret (pv 4))))))) (rd__law_base K Z)
theorem ok__law_asked (T : Txt K mg Z base) : DK P w K mg base CX0 2 "_law_asked" ["_law_pot_here", "_law_size_here", "_law_names"] s__law_asked [] [] (sp__law_asked K Z) :=
  T.f__law_asked.mk2 fun f fd F => fn0 F sc__law_asked (by intro vs H Q E h; unfold sp__law_asked at h; (repeat (obtain ⟨_, h⟩ := h)); subst_vars; rfl) (fun f cdv A outer s H E hr => (pss_cons (ps_set (i := 3) sc__law_asked.nd rfl (.inl rfl) (pe_lst pa_nil))
      (pss_cons (ps_for PassesOwn.never rfl (pi_list (pv 2)) (pg_name (i := 4) sc__law_asked.nd rfl (Or.inl rfl)) (pss_one (ps_set (i := 3) sc__law_asked.nd rfl (.inl rfl) (pe_op op_cat (pv 3) (pe_lst (pa_cons (pv 4) (pa_cons (pe_op op_mod (pe_op op_sub (pe_op op_add (pv 4) (pe_dk (ok__law_take T) hr (by decide) (by rfl) cb__law_take_2 xa0 (par_pos (pa_cons (pv 0) (pa_cons pe_int pa_nil))))) pe_int) (pv 1)) pa_nil)))))))
      (pss_one (ps_ret (pe_op op_cat (pv 3) (pe_lc (own := [("_law_k", 5)]) rfl sc__law_asked.nd (pi_range1 rfl T.n_range (pa_cons pe_int pa_nil)) (blkOk_by (N := ["_law_pot_here", "_law_size_here", "_law_names", "_law_found", "_law_name", "_law_k"]) (sc := defScope s__law_asked) (by decide +kernel)) (fun _ _ _ _ _ => (pg_name (i := 5) sc__law_asked.nd rfl (Or.inl rfl))) (fun _ _ _ _ _ => pts_nil) (fun _ _ _ _ _ => (pe_dk (ok__law_take T) hr (by decide) (by rfl) cb__law_take_2 xa0 (par_pos (pa_cons (pv 0) (pa_cons (pv 1) pa_nil)))))))))))) (rd__law_asked K Z)
theorem ok__law_told (T : Txt K mg Z base) : DK P w K mg base CX0 11 "_law_told" ["_law_ring", "_law_point_here", "_law_asker", "_law_limit"] s__law_told [] [] (sp__law_told K Z) :=
  T.f__law_told.mk2 fun f fd F => fn0 F sc__law_told (by intro vs H Q E h; unfold sp__law_told at h; (repeat (obtain ⟨_, h⟩ := h)); subst_vars; rfl) (fun f cdv A outer s H E hr => (pss_cons (ps_set (i := 4) sc__law_told.nd rfl (.inl rfl) (pe_tup (pa_cons pe_str (pa_cons pe_non pa_nil))))
      (pss_cons (ps_tryA (i := 6) rfl rfl sc__law_told.nd rfl rfl ⟨by rfl, by decide, .inl T.c_TooFar⟩ takes0 (fun W pn xe tk _ => (pss_cons (ps_set (i := 5) sc__law_told.nd rfl (.inl rfl) (pe_dk (ok_lookX T) hr (by decide) (by rfl) cb_lookX_2_2_3 (passAt tk) (par_both (pa_cons (pv 0) (pa_cons (pv 1) pa_nil)) (pk_cons (pv 2) (pk_cons (pv 3) pk_nil)))))
      (pss_one (ps_set (i := 4) sc__law_told.nd rfl (.inl rfl) (pe_tup (pa_cons pe_str (pa_cons (pe_mkk (ok_Found_path T) (pv 5) T.cl_Found hr (by decide) cb_Found_path_1 xa0 par_0) (pa_cons (pe_mkk (ok_Found_answer T) (pv 5) T.cl_Found hr (by decide) cb_Found_answer_1 xa0 par_0) (pa_cons (pe_mkk (ok_Found_ways T) (pv 5) T.cl_Found hr (by decide) cb_Found_ways_1 xa0 par_0) pa_nil))))))))) (fun a oe cls d pn hz hf => (pss_cons (ps_set (i := 7) sc__law_told.nd rfl (.inl rfl) (pe_callB (call_isE3 hz hf) (by rfl) T.n_isinstance (by decide +kernel) (pa_cons (pv 6) (pa_cons (pe_tup (pa_cons (pe_gR (by rfl) T.c_Alone) (pa_cons (pe_gR (by rfl) T.c_Fixed) (pa_cons (pe_gR (by rfl) T.c_LastOne) (pa_cons (pe_gR (by rfl) T.c_NoMember) (pa_cons (pe_gR (by rfl) T.c_NoOrder) (pa_cons (pe_gR (by rfl) T.c_NoPoint) (pa_cons (pe_gR (by rfl) T.c_NoRing) (pa_cons (pe_gR (by rfl) T.c_NoRow) (pa_cons (pe_gR (by rfl) T.c_NoSpace) pa_nil)))))))))) pa_nil))))
      (pss_cons (ps_set (i := 7) sc__law_told.nd rfl (.inl rfl) (pe_or (pv 7) (pe_one (pe_callB (call_isE3 hz hf) (by rfl) T.n_isinstance (by decide +kernel) (pa_cons (pv 6) (pa_cons (pe_tup (pa_cons (pe_gR (by rfl) T.c_NoText) (pa_cons (pe_gR (by rfl) T.c_NoValue) (pa_cons (pe_gR (by rfl) T.c_Taken) pa_nil)))) pa_nil))))))
      (pss_one (ps_set (i := 4) sc__law_told.nd rfl (.inl rfl) (pe_tup (pa_cons pe_str (pa_cons (pe_xf T.xf_TooFar T.nf_TooFar_stood hz hf (pv 6)) (pa_cons (pe_and (pe_callB (call_isE3 hz hf) (by rfl) T.n_isinstance (by decide +kernel) (pa_cons (pv 6) (pa_cons (pe_gR (by rfl) T.c_RingError) pa_nil))) (pe_and (pe_callB (call_isE3 hz hf) (by rfl) T.n_isinstance (by decide +kernel) (pa_cons (pv 6) (pa_cons (pe_bltn (v := .ty "ValueError") (by rfl) T.n_ValueError (by decide +kernel) rfl) pa_nil))) (pe_one (pe_not (pv 7))))) pa_nil))))))))))
      (pss_one (ps_ret (pv 4)))))) (rd__law_told K Z ⟨T.ex1, ⟨T.gh1TooFar, T.gh2TooFar, T.oe_TooFar.exC, T.gh3TooFar, T.gh4TooFar, T.gh5, T.gh6, T.gh7TooFar⟩, T.ki1, T.ki2, T.ki3, T.ki4⟩)
theorem ok__law_right (T : Txt K mg Z base) : DK P w K mg base CX0 12 "_law_right" ["_law_ring", "_law_point_here", "_law_asker"] s__law_right [] [] (sp__law_right K Z) :=
  T.f__law_right.mk2 fun f fd F => fn0 F sc__law_right (by intro vs H Q E h; unfold sp__law_right at h; (repeat (obtain ⟨_, h⟩ := h)); subst_vars; rfl) (fun f cdv A outer s H E hr => (pss_cons (ps_set (i := 3) sc__law_right.nd rfl (.inl rfl) (pe_dk (ok_lookX T) hr (by decide) (by rfl) cb_lookX_2_2_d xaL (par_both (pa_cons (pv 0) (pa_cons (pv 1) pa_nil)) (pk_cons (pv 2) pk_nil))))
      (pss_cons (ps_set (i := 4) sc__law_right.nd rfl (.inl rfl) (pe_mkk (ok_Found_path T) (pv 3) T.cl_Found hr (by decide) cb_Found_path_1 xa0 par_0))
      (pss_cons (ps_set (i := 5) sc__law_right.nd rfl (.inl rfl) (pe_tup (pa_cons pe_str (pa_cons (pv 4) (pa_cons (pe_mkk (ok_Found_answer T) (pv 3) T.cl_Found hr (by decide) cb_Found_answer_1 xa0 par_0) (pa_cons (pe_mkk (ok_Found_ways T) (pv 3) T.cl_Found hr (by decide) cb_Found_ways_1 xa0 par_0) pa_nil))))))
      (pss_cons (ps_if (pt_cmpR (op_neD hr.units) (pe_dk (ok__law_told T) hr (by decide) (by rfl) cb__law_told_4 xa0 (par_pos (pa_cons (pv 0) (pa_cons (pv 1) (pa_cons (pv 2) (pa_cons pe_non pa_nil)))))) (pv 5) (nomark _)) (pss_one (ps_ret pe_bl)) pss_nil)
      (pss_cons (ps_for PassesOwn.never rfl (pi_range1 rfl T.n_range (pa_cons (pe_op op_add (pe_callB call_len_seq (by rfl) T.n_len (by decide +kernel) (pa_cons (pv 4) pa_nil)) pe_int) pa_nil)) (pg_name (i := 6) sc__law_right.nd rfl (Or.inl rfl)) (pss_cons (ps_set (i := 7) sc__law_right.nd rfl (.inl rfl) (pv 5))
      (pss_cons (ps_if (pt_cmpR op_lt (pv 6) (pe_op op_sub (pe_callB call_len_seq (by rfl) T.n_len (by decide +kernel) (pa_cons (pv 4) pa_nil)) pe_int) (nomark _)) (pss_one (ps_set (i := 7) sc__law_right.nd rfl (.inl rfl) (pe_tup (pa_cons pe_str (pa_cons (pe_ix ix_list (pv 4) (pv 6) (fun _ _ => rfl)) (pa_cons pe_bl pa_nil)))))) pss_nil)
      (pss_one (ps_if (pt_cmpR (op_neD hr.units) (pe_dk (ok__law_told T) hr (by decide) (by rfl) cb__law_told_4 xa0 (par_pos (pa_cons (pv 0) (pa_cons (pv 1) (pa_cons (pv 2) (pa_cons (pv 6) pa_nil)))))) (pv 7) (nomark _)) (pss_one (ps_ret pe_bl)) pss_nil)))))
      (pss_one (ps_ret (pe_cmpR (op_eqD hr.units) (pe_dk (ok__law_told T) hr (by decide) (by rfl) cb__law_told_4 xa0 (par_pos (pa_cons (pv 0) (pa_cons (pv 1) (pa_cons (pv 2) (pa_cons pe_non pa_nil)))))) (pv 5) (nomark _)))))))))) (rd__law_right K Z)
theorem ok_law (T : Txt K mg Z base) (f : Addr) (fd : FuncData) (F : FunS K "law" "law" s_law [] [] f fd) : FnOk P w K mg base CX0 13 f fd ["_law_script"] (sp_law K Z) :=
  fn0 F sc_law (by intro vs H Q E h; unfold sp_law at h; (repeat (obtain ⟨_, h⟩ := h)); subst_vars; rfl) (fun f cdv A outer s H E hr => (pss_cons (ps_for PassesOwn.never rfl (pi_range1 rfl T.n_range (pa_cons (pe_callB (call_max2 rfl) (by rfl) T.n_max (by decide +kernel) (pa_cons pe_int (pa_cons (pe_callB (call_min2 rfl) (by rfl) T.n_min (by decide +kernel) (pa_cons pe_int (pa_cons (pe_callB call_len_seq (by rfl) T.n_len (by decide +kernel) (pa_cons (pv 0) pa_nil)) pa_nil))) pa_nil))) pa_nil)) (pg_name (i := 1) sc_law.nd rfl (Or.inl rfl)) (pss_cons (ps_set (i := 2) sc_law.nd rfl (.inl rfl) (pe_dk (ok__law_pot T) hr (by decide) (by rfl) cb__law_pot_2 xa0 (par_pos (pa_cons (pv 0) (pa_cons (pv 1) pa_nil)))))
      (pss_cons (ps_set (i := 3) sc_law.nd rfl (.inl rfl) (pe_dk (ok__law_bits T) hr (by decide) (by rfl) cb__law_bits_1 xa0 (par_pos (pa_cons (pv 2) pa_nil))))
      (pss_cons (ps_set (i := 4) sc_law.nd rfl (.inl rfl) (pe_dk (ok__law_size T) hr (by decide) (by rfl) cb__law_size_1 xa0 (par_pos (pa_cons (pv 3) pa_nil))))
      (pss_cons (ps_set (i := 5) sc_law.nd rfl (.inl rfl) (pe_op op_add pe_int (pe_dk (ok__law_take T) hr (by decide) (by rfl) cb__law_take_2 xa0 (par_pos (pa_cons (pv 2) (pa_cons pe_int pa_nil))))))
      (pss_cons (ps_set (i := 6) sc_law.nd rfl (.inl rfl) (pe_dk (ok__law_base T) hr (by decide) (by rfl) cb__law_base_3 xa0 (par_pos (pa_cons (pv 2) (pa_cons (pv 4) (pa_cons (pv 5) pa_nil))))))
      (pss_cons (ps_set (i := 7) sc_law.nd rfl (.inl rfl) (pe_ik (ok_Ring___init__ T) hr (by decide) (by rfl) T.c_Ring cb_Ring___init___2_2_3 xa0 (par_both (pa_cons (pv 6) pa_nil) (pk_cons (pv 3) (pk_cons (pv 5) pk_nil)))))
      (pss_one (ps_for PassesOwn.never rfl (pi_list (pe_dk (ok__law_asked T) hr (by decide) (by rfl) cb__law_asked_3 xa0 (par_pos (pa_cons (pv 2) (pa_cons (pv 4) (pa_cons (pv 6) pa_nil)))))) (pg_name (i := 8) sc_law.nd rfl (Or.inl rfl)) (pss_one (ps_if (pt_not (pt_val (pe_dk (ok__law_right T) hr (by decide) (by rfl) cb__law_right_3 xa0 (par_pos (pa_cons (pv 7) (pa_cons (pv 8) (pa_cons (pe_ix ix_list (pv 6) (pe_dk (ok__law_take T) hr (by decide) (by rfl) cb__law_take_2 xa0 (par_pos (pa_cons (pv 2) (pa_cons (pe_callB call_len_seq (by rfl) T.n_len (by decide +kernel) (pa_cons (pv 6) pa_nil)) pa_nil)))) (fun _ _ => rfl)) pa_nil))))))) (pss_one (ps_ret pe_bl)) pss_nil)))))))))))
      (pss_one (ps_ret pe_bl)))) (rd_law K Z)
end
abbrev tabsK (K : PySem.W.Frag) : List (Addr × Str) := [((He.cT K ("Space", some "nearest")).2, "Space.nearest.<locals>.<lambda>"), ((He.cT K ("Space", some "preceding")).2, "Space.preceding.<locals>.<lambda>"), ((He.cT K ("upwards", none)).2, "upwards.<locals>.<lambda>"), ((He.cT K ("farthest", none)).2, "farthest.<locals>.<lambda>")]
theorem exAt {K : PySem.W.Frag} {b : Bool} (h : exB K = true) (i : Nat) (e : (exL K)[i]? = some b) : b = true := List.all_eq_true.mp h b (List.mem_of_getElem? e)
theorem tab0 {K : PySem.W.Frag} (h : exB K = true) : ∀ p ∈ tabsK K, p.1 = (He.cT K ("Space", some "nearest")).2 → p.2 = "Space.nearest.<locals>.<lambda>" := fun p hp e => by
  simp only [tabsK, List.mem_cons, List.not_mem_nil, or_false] at hp
  rcases hp with rfl | rfl | rfl | rfl
  · rfl
  · exact absurd e.symm (of_decide_eq_true (exAt h 21 rfl))
  · exact absurd e.symm (of_decide_eq_true (exAt h 22 rfl))
  · exact absurd e.symm (of_decide_eq_true (exAt h 23 rfl))
theorem tab1 {K : PySem.W.Frag} (h : exB K = true) : ∀ p ∈ tabsK K, p.1 = (He.cT K ("Space", some "preceding")).2 → p.2 = "Space.preceding.<locals>.<lambda>" := fun p hp e => by
  simp only [tabsK, List.mem_cons, List.not_mem_nil, or_false] at hp
  rcases hp with rfl | rfl | rfl | rfl
  · exact absurd e (of_decide_eq_true (exAt h 21 rfl))
  · rfl
  · exact absurd e.symm (of_decide_eq_true (exAt h 24 rfl))
  · exact absurd e.symm (of_decide_eq_true (exAt h 25 rfl))
theorem tab2 {K : PySem.W.Frag} (h : exB K = true) : ∀ p ∈ tabsK K, p.1 = (He.cT K ("upwards", none)).2 → p.2 = "upwards.<locals>.<lambda>" := fun p hp e => by
  simp only [tabsK, List.mem_cons, List.not_mem_nil, or_false] at hp
  rcases hp with rfl | rfl | rfl | rfl
  · exact absurd e (of_decide_eq_true (exAt h 22 rfl))
  · exact absurd e (of_decide_eq_true (exAt h 24 rfl))
  · rfl
  · exact absurd e.symm (of_decide_eq_true (exAt h 26 rfl))
theorem tab3 {K : PySem.W.Frag} (h : exB K = true) : ∀ p ∈ tabsK K, p.1 = (He.cT K ("farthest", none)).2 → p.2 = "farthest.<locals>.<lambda>" := fun p hp e => by
  simp only [tabsK, List.mem_cons, List.not_mem_nil, or_false] at hp
  rcases hp with rfl | rfl | rfl | rfl
  · exact absurd e (of_decide_eq_true (exAt h 23 rfl))
  · exact absurd e (of_decide_eq_true (exAt h 25 rfl))
  · exact absurd e (of_decide_eq_true (exAt h 26 rfl))
  · rfl
abbrev zzK (K : PySem.W.Frag) : Ad := ⟨(He.ga K "Space"), (He.ga K "Node"), (He.ga K "Ring"), (He.ga K "Seeker"), (He.ga K "Found"), (He.ga K "Desk"), (He.ga K "NoSpace"), (He.ga K "NoPoint"), (He.ga K "NoRing"), (He.ga K "NoMember"), (He.ga K "Taken"), (He.ga K "Fixed"), (He.ga K "Alone"), (He.ga K "LastOne"), (He.ga K "TooFar"), (He.ga K "NoText"), (He.ga K "NoValue"), (He.ga K "NoOrder"), (He.ga K "NoRow"), (He.ga K "RingError"), tabsK K⟩
theorem all_mk {l : PySem.W.OpenLaw} {w : World} {K : PySem.W.Frag} {h : Heap} {mg : Str → Option Value} {fa : Addr} (X : K.In h) (G : h.Ns mainGlobals mg) (hfa : mg "law" = some (.ref fa)) (c : SaysN fal fnl tfl exB h K) : LamX.LawAtS l w K CX0 13 63 "_law_script" mg fa h := by
  have mk : ∀ base : Heap, (∀ p ∈ tfl.map (He.cT K), LamX.TabB base mg p.1 p.2) → Txt K mg (zzK K) base := fun base TB =>
    { c_Alone := He.glo_ok X G (c.d.fact 0 (f := .glo "Alone") rfl),
      c_Fixed := He.glo_ok X G (c.d.fact 1 (f := .glo "Fixed") rfl),
      c_Found := He.glo_ok X G (c.d.fact 2 (f := .glo "Found") rfl),
      c_LastOne := He.glo_ok X G (c.d.fact 3 (f := .glo "LastOne") rfl),
      c_NoMember := He.glo_ok X G (c.d.fact 4 (f := .glo "NoMember") rfl),
      c_NoOrder := He.glo_ok X G (c.d.fact 5 (f := .glo "NoOrder") rfl),
      c_NoPoint := He.glo_ok X G (c.d.fact 6 (f := .glo "NoPoint") rfl),
      c_NoRing := He.glo_ok X G (c.d.fact 7 (f := .glo "NoRing") rfl),
      c_NoRow := He.glo_ok X G (c.d.fact 8 (f := .glo "NoRow") rfl),
      c_NoSpace := He.glo_ok X G (c.d.fact 9 (f := .glo "NoSpace") rfl),
      c_NoText := He.glo_ok X G (c.d.fact 10 (f := .glo "NoText") rfl),
      c_NoValue := He.glo_ok X G (c.d.fact 11 (f := .glo "NoValue") rfl),
      c_Node := He.glo_ok X G (c.d.fact 12 (f := .glo "Node") rfl),
      c_Ring := He.glo_ok X G (c.d.fact 13 (f := .glo "Ring") rfl),
      c_RingError := He.glo_ok X G (c.d.fact 14 (f := .glo "RingError") rfl),
      c_Seeker := He.glo_ok X G (c.d.fact 15 (f := .glo "Seeker") rfl),
      c_Space := He.glo_ok X G (c.d.fact 16 (f := .glo "Space") rfl),
      c_Taken := He.glo_ok X G (c.d.fact 17 (f := .glo "Taken") rfl),
      c_TooFar := He.glo_ok X G (c.d.fact 18 (f := .glo "TooFar") rfl),
      cl_Found := He.cls_ok (c.d.fact 19 (f := .cls "Found") rfl),
      na_Found_trail := He.noat_ok (c.d.fact 20 (f := .noat "Found" "trail") rfl),
      na_Found_goal := He.noat_ok (c.d.fact 21 (f := .noat "Found" "goal") rfl),
      na_Found_reasons := He.noat_ok (c.d.fact 22 (f := .noat "Found" "reasons") rfl),
      cl_Node := He.cls_ok (c.d.fact 23 (f := .cls "Node") rfl),
      na_Node_chain := He.noat_ok (c.d.fact 24 (f := .noat "Node" "chain") rfl),
      na_Node_prior := He.noat_ok (c.d.fact 25 (f := .noat "Node" "prior") rfl),
      na_Node_far := He.noat_ok (c.d.fact 26 (f := .noat "Node" "far") rfl),
      na_Node_things := He.noat_ok (c.d.fact 27 (f := .noat "Node" "things") rfl),
      cl_Ring := He.cls_ok (c.d.fact 28 (f := .cls "Ring") rfl),
      na_Ring_circle := He.noat_ok (c.d.fact 29 (f := .noat "Ring" "circle") rfl),
      na_Ring_many := He.noat_ok (c.d.fact 30 (f := .noat "Ring" "many") rfl),
      na_Ring_fixed := He.noat_ok (c.d.fact 31 (f := .noat "Ring" "fixed") rfl),
      na_Ring_nodes := He.noat_ok (c.d.fact 32 (f := .noat "Ring" "nodes") rfl),
      na_Ring_stamps := He.noat_ok (c.d.fact 33 (f := .noat "Ring" "stamps") rfl),
      na_Ring_done := He.noat_ok (c.d.fact 34 (f := .noat "Ring" "done") rfl),
      cl_Seeker := He.cls_ok (c.d.fact 35 (f := .cls "Seeker") rfl),
      na_Seeker_around := He.noat_ok (c.d.fact 36 (f := .noat "Seeker" "around") rfl),
      na_Seeker_sought := He.noat_ok (c.d.fact 37 (f := .noat "Seeker" "sought") rfl),
      na_Seeker_trail := He.noat_ok (c.d.fact 38 (f := .noat "Seeker" "trail") rfl),
      na_Seeker_returns := He.noat_ok (c.d.fact 39 (f := .noat "Seeker" "returns") rfl),
      na_Seeker_goal := He.noat_ok (c.d.fact 40 (f := .noat "Seeker" "goal") rfl),
      cl_Space := He.cls_ok (c.d.fact 41 (f := .cls "Space") rfl),
      na_Space_own_bits := He.noat_ok (c.d.fact 42 (f := .noat "Space" "own_bits") rfl),
      x_NoSpace := (He.exc_ok (c.d.fact 43 (f := .exc "NoSpace") rfl)).1,
      kp_NoSpace := (He.exc_ok (c.d.fact 43 (f := .exc "NoSpace") rfl)).2.1,
      b_NoSpace := (He.exc_ok (c.d.fact 43 (f := .exc "NoSpace") rfl)).2.2.1,
      t_NoSpace := (He.exc_ok (c.d.fact 43 (f := .exc "NoSpace") rfl)).2.2.2,
      oe_TooFar := oexB_ok (exAt c.more 0 rfl),
      re_RingError := reiB_ok (exAt c.more 1 rfl),
      xf_TooFar := xfB_ok (exAt c.more 2 rfl),
      nf_TooFar_stood := He.noat_ok (c.d.fact 44 (f := .noat "TooFar" "stood") rfl),
      f_is_whole := let ⟨fd, F⟩ := (c.d.def_ 0 (d := dd0) rfl); ⟨⟨_, fd, He.glo_ok X G (c.d.fact 45 (f := .glo "is_whole") rfl), F⟩⟩,
      f_Space___init__ := let ⟨fd, F⟩ := (c.d.def_ 1 (d := dd1) rfl); ⟨⟨_, fd, He.mkr_ok (c.d.fact 46 (f := .mkr "Space") rfl), F⟩⟩,
      f_Space_bits := let ⟨fd, F⟩ := (c.d.def_ 2 (d := dd2) rfl); ⟨⟨_, fd, He.meth_ok (c.d.fact 47 (f := .meth "Space" "bits") rfl), F⟩⟩,
      f_Space_size := let ⟨fd, F⟩ := (c.d.def_ 3 (d := dd3) rfl); ⟨⟨_, fd, He.meth_ok (c.d.fact 48 (f := .meth "Space" "size") rfl), F⟩⟩,
      f_Space_has := let ⟨fd, F⟩ := (c.d.def_ 4 (d := dd4) rfl); ⟨⟨_, fd, He.meth_ok (c.d.fact 49 (f := .meth "Space" "has") rfl), F⟩⟩,
      f_Space_distance := let ⟨fd, F⟩ := (c.d.def_ 5 (d := dd5) rfl); ⟨⟨_, fd, He.meth_ok (c.d.fact 50 (f := .meth "Space" "distance") rfl), F⟩⟩,
      f_Space_is_between := let ⟨fd, F⟩ := (c.d.def_ 6 (d := dd6) rfl); ⟨⟨_, fd, He.meth_ok (c.d.fact 51 (f := .meth "Space" "is_between") rfl), F⟩⟩,
      f_Space_nearest := let ⟨fd, F⟩ := (c.d.def_ 7 (d := dd7) rfl); ⟨_, ⟨_, fd, He.meth_ok (c.d.fact 52 (f := .meth "Space" "nearest") rfl), F, code_eq (p := ("Space", some "nearest")) F⟩, ⟨⟨(He.cT K ("Space", some "nearest")).2, TB (He.cT K ("Space", some "nearest")) (List.mem_map.mpr ⟨("Space", some "nearest"), by simp [tfl], rfl⟩), by simp [zzK, tabsK], fun p hp e => tab0 c.more p hp e⟩⟩⟩,
      f_Space_preceding := let ⟨fd, F⟩ := (c.d.def_ 8 (d := dd8) rfl); ⟨_, ⟨_, fd, He.meth_ok (c.d.fact 53 (f := .meth "Space" "preceding") rfl), F, code_eq (p := ("Space", some "preceding")) F⟩, ⟨⟨(He.cT K ("Space", some "preceding")).2, TB (He.cT K ("Space", some "preceding")) (List.mem_map.mpr ⟨("Space", some "preceding"), by simp [tfl], rfl⟩), by simp [zzK, tabsK], fun p hp e => tab1 c.more p hp e⟩⟩⟩,
      f_Node___init__ := let ⟨fd, F⟩ := (c.d.def_ 9 (d := dd9) rfl); ⟨⟨_, fd, He.mkr_ok (c.d.fact 54 (f := .mkr "Node") rfl), F⟩⟩,
      f_upwards := let ⟨fd, F⟩ := (c.d.def_ 10 (d := dd10) rfl); ⟨_, ⟨_, fd, He.glo_ok X G (c.d.fact 55 (f := .glo "upwards") rfl), F, code_eq F⟩, ⟨⟨(He.cT K ("upwards", none)).2, TB (He.cT K ("upwards", none)) (List.mem_map.mpr ⟨("upwards", none), by simp [tfl], rfl⟩), by simp [zzK, tabsK], fun p hp e => tab2 c.more p hp e⟩⟩⟩,
      f_others_upwards := let ⟨fd, F⟩ := (c.d.def_ 11 (d := dd11) rfl); ⟨⟨_, fd, He.glo_ok X G (c.d.fact 56 (f := .glo "others_upwards") rfl), F⟩⟩,
      f_far_point := let ⟨fd, F⟩ := (c.d.def_ 12 (d := dd12) rfl); ⟨⟨_, fd, He.glo_ok X G (c.d.fact 57 (f := .glo "far_point") rfl), F⟩⟩,
      f_right_chain := let ⟨fd, F⟩ := (c.d.def_ 13 (d := dd13) rfl); ⟨⟨_, fd, He.glo_ok X G (c.d.fact 58 (f := .glo "right_chain") rfl), F⟩⟩,
      f_right_far := let ⟨fd, F⟩ := (c.d.def_ 14 (d := dd14) rfl); ⟨⟨_, fd, He.glo_ok X G (c.d.fact 59 (f := .glo "right_far") rfl), F⟩⟩,
      f_right_node := let ⟨fd, F⟩ := (c.d.def_ 15 (d := dd15) rfl); ⟨⟨_, fd, He.glo_ok X G (c.d.fact 60 (f := .glo "right_node") rfl), F⟩⟩,
      f_is_length := let ⟨fd, F⟩ := (c.d.def_ 16 (d := dd16) rfl); ⟨⟨_, fd, He.glo_ok X G (c.d.fact 61 (f := .glo "is_length") rfl), F⟩⟩,
      f_are_base := let ⟨fd, F⟩ := (c.d.def_ 17 (d := dd17) rfl); ⟨⟨_, fd, He.glo_ok X G (c.d.fact 62 (f := .glo "are_base") rfl), F⟩⟩,
      f_space_of := let ⟨fd, F⟩ := (c.d.def_ 18 (d := dd18) rfl); ⟨⟨_, fd, He.glo_ok X G (c.d.fact 63 (f := .glo "space_of") rfl), F⟩⟩,
      f_Ring___init__ := let ⟨fd, F⟩ := (c.d.def_ 19 (d := dd19) rfl); ⟨⟨_, fd, He.mkr_ok (c.d.fact 64 (f := .mkr "Ring") rfl), F⟩⟩,
      f_Ring_space := let ⟨fd, F⟩ := (c.d.def_ 20 (d := dd20) rfl); ⟨⟨_, fd, He.meth_ok (c.d.fact 65 (f := .meth "Ring" "space") rfl), F⟩⟩,
      f_Ring_base := let ⟨fd, F⟩ := (c.d.def_ 21 (d := dd21) rfl); ⟨⟨_, fd, He.meth_ok (c.d.fact 66 (f := .meth "Ring" "base") rfl), F⟩⟩,
      f_Ring_members := let ⟨fd, F⟩ := (c.d.def_ 22 (d := dd22) rfl); ⟨⟨_, fd, He.meth_ok (c.d.fact 67 (f := .meth "Ring" "members") rfl), F⟩⟩,
      f_Ring_is_member := let ⟨fd, F⟩ := (c.d.def_ 23 (d := dd23) rfl); ⟨⟨_, fd, He.meth_ok (c.d.fact 68 (f := .meth "Ring" "is_member") rfl), F⟩⟩,
      f_Ring_node := let ⟨fd, F⟩ := (c.d.def_ 24 (d := dd24) rfl); ⟨⟨_, fd, He.meth_ok (c.d.fact 69 (f := .meth "Ring" "node") rfl), F⟩⟩,
      f_Ring_links := let ⟨fd, F⟩ := (c.d.def_ 25 (d := dd25) rfl); ⟨⟨_, fd, He.meth_ok (c.d.fact 70 (f := .meth "Ring" "links") rfl), F⟩⟩,
      f_Ring_next_of := let ⟨fd, F⟩ := (c.d.def_ 26 (d := dd26) rfl); ⟨⟨_, fd, He.meth_ok (c.d.fact 71 (f := .meth "Ring" "next_of") rfl), F⟩⟩,
      f_Ring_fingers := let ⟨fd, F⟩ := (c.d.def_ 27 (d := dd27) rfl); ⟨⟨_, fd, He.meth_ok (c.d.fact 72 (f := .meth "Ring" "fingers") rfl), F⟩⟩,
      f_first_of := let ⟨fd, F⟩ := (c.d.def_ 28 (d := dd28) rfl); ⟨⟨_, fd, He.glo_ok X G (c.d.fact 73 (f := .glo "first_of") rfl), F⟩⟩,
      f_Ring_want_point := let ⟨fd, F⟩ := (c.d.def_ 29 (d := dd29) rfl); ⟨⟨_, fd, He.meth_ok (c.d.fact 74 (f := .meth "Ring" "want_point") rfl), F⟩⟩,
      f_farthest := let ⟨fd, F⟩ := (c.d.def_ 30 (d := dd30) rfl); ⟨_, ⟨_, fd, He.glo_ok X G (c.d.fact 75 (f := .glo "farthest") rfl), F, code_eq F⟩, ⟨⟨(He.cT K ("farthest", none)).2, TB (He.cT K ("farthest", none)) (List.mem_map.mpr ⟨("farthest", none), by simp [tfl], rfl⟩), by simp [zzK, tabsK], fun p hp e => tab3 c.more p hp e⟩⟩⟩,
      f_known_by := let ⟨fd, F⟩ := (c.d.def_ 31 (d := dd31) rfl); ⟨⟨_, fd, He.glo_ok X G (c.d.fact 76 (f := .glo "known_by") rfl), F⟩⟩,
      f_Seeker___init__ := let ⟨fd, F⟩ := (c.d.def_ 32 (d := dd32) rfl); ⟨⟨_, fd, He.mkr_ok (c.d.fact 77 (f := .mkr "Seeker") rfl), F⟩⟩,
      f_Seeker_step := let ⟨fd, F⟩ := (c.d.def_ 33 (d := dd33) rfl); ⟨⟨_, fd, He.meth_ok (c.d.fact 78 (f := .meth "Seeker" "step") rfl), F⟩⟩,
      f_Seeker_go_on := let ⟨fd, F⟩ := (c.d.def_ 34 (d := dd34) rfl); ⟨⟨_, fd, He.meth_ok (c.d.fact 79 (f := .meth "Seeker" "go_on") rfl), F⟩⟩,
      f_Seeker_go_back := let ⟨fd, F⟩ := (c.d.def_ 35 (d := dd35) rfl); ⟨⟨_, fd, He.meth_ok (c.d.fact 80 (f := .meth "Seeker" "go_back") rfl), F⟩⟩,
      f_Seeker_go_upwards := let ⟨fd, F⟩ := (c.d.def_ 36 (d := dd36) rfl); ⟨⟨_, fd, He.meth_ok (c.d.fact 81 (f := .meth "Seeker" "go_upwards") rfl), F⟩⟩,
      f_Seeker_at := let ⟨fd, F⟩ := (c.d.def_ 37 (d := dd37) rfl); ⟨⟨_, fd, He.meth_ok (c.d.fact 82 (f := .meth "Seeker" "at") rfl), F⟩⟩,
      f_Seeker_way := let ⟨fd, F⟩ := (c.d.def_ 38 (d := dd38) rfl); ⟨⟨_, fd, He.meth_ok (c.d.fact 83 (f := .meth "Seeker" "way") rfl), F⟩⟩,
      f_Seeker_answer := let ⟨fd, F⟩ := (c.d.def_ 39 (d := dd39) rfl); ⟨⟨_, fd, He.meth_ok (c.d.fact 84 (f := .meth "Seeker" "answer") rfl), F⟩⟩,
      f_Found___init__ := let ⟨fd, F⟩ := (c.d.def_ 40 (d := dd40) rfl); ⟨⟨_, fd, He.mkr_ok (c.d.fact 85 (f := .mkr "Found") rfl), F⟩⟩,
      f_Found_path := let ⟨fd, F⟩ := (c.d.def_ 41 (d := dd41) rfl); ⟨⟨_, fd, He.meth_ok (c.d.fact 86 (f := .meth "Found" "path") rfl), F⟩⟩,
      f_Found_answer := let ⟨fd, F⟩ := (c.d.def_ 42 (d := dd42) rfl); ⟨⟨_, fd, He.meth_ok (c.d.fact 87 (f := .meth "Found" "answer") rfl), F⟩⟩,
      f_Found_ways := let ⟨fd, F⟩ := (c.d.def_ 43 (d := dd43) rfl); ⟨⟨_, fd, He.meth_ok (c.d.fact 88 (f := .meth "Found" "ways") rfl), F⟩⟩,
      f_lookX := let ⟨fd, F⟩ := (c.d.def_ 44 (d := dd44) rfl); ⟨⟨_, fd, He.glo_ok X G (c.d.fact 89 (f := .glo "look") rfl), F⟩⟩,
      f_TooFar___init__ := let ⟨fd, F⟩ := (c.d.def_ 45 (d := dd45) rfl); ⟨⟨_, fd, of_decide_eq_true (exAt c.more 3 rfl), of_decide_eq_true (exAt c.more 4 rfl), F⟩⟩,
      f__law_pot := let ⟨fd, F⟩ := (c.d.def_ 46 (d := dd46) rfl); ⟨⟨_, fd, He.glo_ok X G (c.d.fact 90 (f := .glo "_law_pot") rfl), F⟩⟩,
      f__law_take := let ⟨fd, F⟩ := (c.d.def_ 47 (d := dd47) rfl); ⟨⟨_, fd, He.glo_ok X G (c.d.fact 91 (f := .glo "_law_take") rfl), F⟩⟩,
      f__law_bits := let ⟨fd, F⟩ := (c.d.def_ 48 (d := dd48) rfl); ⟨⟨_, fd, He.glo_ok X G (c.d.fact 92 (f := .glo "_law_bits") rfl), F⟩⟩,
      f__law_point := let ⟨fd, F⟩ := (c.d.def_ 49 (d := dd49) rfl); ⟨⟨_, fd, He.glo_ok X G (c.d.fact 93 (f := .glo "_law_point") rfl), F⟩⟩,
      f__law_points := let ⟨fd, F⟩ := (c.d.def_ 50 (d := dd50) rfl); ⟨⟨_, fd, He.glo_ok X G (c.d.fact 94 (f := .glo "_law_points") rfl), F⟩⟩,
      f__law_size := let ⟨fd, F⟩ := (c.d.def_ 51 (d := dd51) rfl); ⟨⟨_, fd, He.glo_ok X G (c.d.fact 95 (f := .glo "_law_size") rfl), F⟩⟩,
      f__law_base := let ⟨fd, F⟩ := (c.d.def_ 52 (d := dd52) rfl); ⟨⟨_, fd, He.glo_ok X G (c.d.fact 96 (f := .glo "_law_base") rfl), F⟩⟩,
      f__law_asked := let ⟨fd, F⟩ := (c.d.def_ 53 (d := dd53) rfl); ⟨⟨_, fd, He.glo_ok X G (c.d.fact 97 (f := .glo "_law_asked") rfl), F⟩⟩,
      f__law_told := let ⟨fd, F⟩ := (c.d.def_ 54 (d := dd54) rfl); ⟨⟨_, fd, He.glo_ok X G (c.d.fact 98 (f := .glo "_law_told") rfl), F⟩⟩,
      f__law_right := let ⟨fd, F⟩ := (c.d.def_ 55 (d := dd55) rfl); ⟨⟨_, fd, He.glo_ok X G (c.d.fact 99 (f := .glo "_law_right") rfl), F⟩⟩,
      f_law := let ⟨fd, F⟩ := (c.d.def_ 56 (d := dd56) rfl); ⟨⟨_, fd, He.glo_ok X G (c.d.fact 100 (f := .glo "law") rfl), F⟩⟩,
      n_ValueError := He.free_ok X G (c.d.fact 101 (f := .free "ValueError") rfl),
      n_all := He.free_ok X G (c.d.fact 102 (f := .free "all") rfl),
      n_bool := He.free_ok X G (c.d.fact 103 (f := .free "bool") rfl),
      n_int := He.free_ok X G (c.d.fact 104 (f := .free "int") rfl),
      n_isinstance := He.free_ok X G (c.d.fact 105 (f := .free "isinstance") rfl),
      n_len := He.free_ok X G (c.d.fact 106 (f := .free "len") rfl),
      n_list := He.free_ok X G (c.d.fact 107 (f := .free "list") rfl),
      n_max := He.free_ok X G (c.d.fact 108 (f := .free "max") rfl),
      n_min := He.free_ok X G (c.d.fact 109 (f := .free "min") rfl),
      n_range := He.free_ok X G (c.d.fact 110 (f := .free "range") rfl),
      n_set := He.free_ok X G (c.d.fact 111 (f := .free "set") rfl),
      n_sorted := He.free_ok X G (c.d.fact 112 (f := .free "sorted") rfl),
      n_zip := He.free_ok X G (c.d.fact 113 (f := .free "zip") rfl),
      c_LEAST_BITS := He.int_ok X G (c.d.fact 114 (f := .int "LEAST_BITS" 3) rfl),
      c_MOST_BASE := He.int_ok X G (c.d.fact 115 (f := .int "MOST_BASE" 8) rfl),
      c_MOST_BITS := He.int_ok X G (c.d.fact 116 (f := .int "MOST_BITS" 32) rfl),
      c_MOST_LENGTH := He.int_ok X G (c.d.fact 117 (f := .int "MOST_LENGTH" 4) rfl),
      ne_Ring := of_decide_eq_true (exAt c.more 5 rfl),
      ne_Node := of_decide_eq_true (exAt c.more 6 rfl),
      ne_Seeker := of_decide_eq_true (exAt c.more 7 rfl),
      ne_Found := of_decide_eq_true (exAt c.more 8 rfl),
      gh5 := of_decide_eq_true (exAt c.more 9 rfl),
      gh6 := of_decide_eq_true (exAt c.more 10 rfl),
      gh1TooFar := of_decide_eq_true (exAt c.more 11 rfl),
      gh2TooFar := of_decide_eq_true (exAt c.more 12 rfl),
      gh3TooFar := of_decide_eq_true (exAt c.more 13 rfl),
      gh4TooFar := of_decide_eq_true (exAt c.more 14 rfl),
      gh7TooFar := of_decide_eq_true (exAt c.more 15 rfl),
      ex1 := of_decide_eq_true (exAt c.more 16 rfl),
      ki1 := of_decide_eq_true (exAt c.more 17 rfl),
      ki2 := of_decide_eq_true (exAt c.more 18 rfl),
      ki3 := of_decide_eq_true (exAt c.more 19 rfl),
      ki4 := of_decide_eq_true (exAt c.more 20 rfl) }
  obtain ⟨fdL, FL⟩ := c.d.def_ 56 (d := dd56) rfl
  refine law_fin3 (Tb := tfl.map (He.cT K)) (sp := sp_law K (zzK K)) (st := s_law) (x := "law") _ fdL (He.glo_ok X G (c.d.fact 100 (f := .glo "law") rfl)) hfa FL (fun _ _ _ _ _ _ us hl => match us, hl with | [_], _ => rfl) (fun base T f fd F => ok_law (mk base T) f fd F) ?_ ?_ ?_ ?_
  · intro p hp
    obtain ⟨d, hd, rfl⟩ := List.mem_map.mp hp
    exact c.empty d hd
  · intro p hp
    obtain ⟨d, hd, rfl⟩ := List.mem_map.mp hp
    exact c.out d hd
  · intro p hp
    obtain ⟨d, hd, rfl⟩ := List.mem_map.mp hp
    exact PySem.W.codeHd_of_K X (c.hd d hd)
  · intro H a ns hl _ hT hS
    have hc : ∀ p ∈ tabsK K, ∃ q ∈ tfl.map (He.cT K), q.2 = p.1 := fun p hp => by
      simp only [tabsK, List.mem_cons, List.not_mem_nil, or_false] at hp
      rcases hp with rfl | rfl | rfl | rfl
      · exact ⟨He.cT K ("Space", some "nearest"), List.mem_map.mpr ⟨("Space", some "nearest"), by simp [tfl], rfl⟩, rfl⟩
      · exact ⟨He.cT K ("Space", some "preceding"), List.mem_map.mpr ⟨("Space", some "preceding"), by simp [tfl], rfl⟩, rfl⟩
      · exact ⟨He.cT K ("upwards", none), List.mem_map.mpr ⟨("upwards", none), by simp [tfl], rfl⟩, rfl⟩
      · exact ⟨He.cT K ("farthest", none), List.mem_map.mpr ⟨("farthest", none), by simp [tfl], rfl⟩, rfl⟩
    exact ⟨a, ns, rfl, sat_start hc hT hS, hl, fun _ => rfl⟩
end NN
open PySem PySem.W PySem.Calls PyProof.Rows
set_option maxHeartbeats 0 in
theorem PySem.Challenge.cw_nearestname_k44_within_hops_holds : PySem.Challenge.rw_nearestname_k44_within_hops.Holds := by
  w_on; o_law
  refine HandSHeadRun.head_any (r := OpenLaw.row PySem.Challenge.rw_nearestname_k44_within_hops) (q := view (OpenLaw.row PySem.Challenge.rw_nearestname_k44_within_hops).prog [59]) (H := NN.hk) (ob := NN.ob) (M := 12000) (loose := NN.looseN) (d := HandSHeadRun.topDef (OpenLaw.row PySem.Challenge.rw_nearestname_k44_within_hops).prog 59) (kwd := []) NN.ob_eq
    (by kernel_rfl) (fun s => by kernel_rfl) NN.runN (by kernel_rfl) (by kernel_rfl) (by kernel_rfl) (by rfl) (by first | assumption | decide +kernel) (by decide +kernel) ⟨rfl, rfl, rfl, rfl, rfl, by decide +kernel⟩ ?hw ?hc
  case hw => w_witness2
  case hc =>
    refine LamX.walk_ofTsE (l := PySem.Challenge.rw_nearestname_k44_within_hops) (n := 63) (k := 13) (x := "_law_script") (CX := fun _ => L2.CX0) rfl (by decide) (by kernel_rfl) ⟨rfl, by decide, by decide⟩ ?F (fun _ _ _ _ _ z => z)
    intro w mg fa h Y G hmg0
    obtain ⟨K, KX, c⟩ := Y
    have hmg : mg ("law" : PySem.Str) = some (.ref fa) := by
      have e : (HandSHeadRun.topDef (OpenLaw.row PySem.Challenge.rw_nearestname_k44_within_hops).prog 59).name = ("law" : PySem.Str) := by kernel_rfl
      rw [← e]
      exact hmg0
    exact ⟨K, KX, NN.all_mk KX G hmg c⟩
