import PyProof.Rows.All
import Wide.All
import OpenK.AllK
import Wide.FinOn
import HandS.ForMost
import HandS.Steps
import HandS.Wide
import HandS.IsInst
import HandS.More
import KE.KUnpackStar
import HandS.Defaults
import HandS.WordsExc
import HandS.Exc
import HandS.ExcOwn
import HandS.Iter
import HandS.Zip
import KE.GoesEnumKw
import OpenK.KMore
import HandS.Conv
import HandS.ExcIs
import HandS.Lambda
import HandS.SortInts
import HandS.Style
import KE.DataMinKey
import KE.SortKeyHeap
import HandS.SortKw
import HandS.ExcValue
import HandS.EndTab
import HandS.Dict
import HandS.DictComp
import HandS.ListItems
import HandS.WideBits
import HandS.ExcInit
import HandS.ExcField
import HandS.TryMany
import KE.KExcIs
import HandS.Replace
import PyProof.EnumMake
import PyProof.Draws
import KE.KNestM
import KE.KLam
import HandS.Head0
import HandS.Head1
import HandS.Head2
import HandS.HeadEnd
import HandS.HeadHook1
import HandS.HeadHook2
import HandS.HeadHook3
import HandS.HeadHook4
import HandS.HeadWalk
import PySem.Challenge.RW_nearestname_k16_texts_refused
set_option Elab.async false
set_option linter.all false
set_option maxRecDepth 100000
set_option maxHeartbeats 4000000
/-! own base: a def with its promise, names for readings, steps through readings -/
namespace NN
open PySem PySem.Spec PyProof.Rows L2

/-! ### names of readings -/
abbrev rAdd0 : R2 := rI0 fun i j => .int (i + j)
abbrev rSub0 : R2 := rI0 fun i j => .int (i - j)
abbrev rMul0 : R2 := rI CMul fun i j => .int (i * j)
abbrev rMulW : R2 := rI CMulW fun i j => .int (i * j)
abbrev rMod0 : R2 := rI (fun _ j => 0 < j) fun i j => .int (i % j)
abbrev rDivW : R2 := rI CDivW fun i j => .int (i / j)
abbrev rPow0 : R2 := rI CPow fun i j => .int (i ^ j.toNat)
abbrev rShl0 : R2 := rI CPow fun i j => .int (i * 2 ^ j.toNat)
abbrev rLt : R2 := rI0 fun i j => .bl (decide (i < j))
abbrev rLe : R2 := rI0 fun i j => .bl (decide (i ≤ j))
abbrev rGt : R2 := rI0 fun i j => .bl (decide (j < i))
abbrev rGe : R2 := rI0 fun i j => .bl (decide (j ≤ i))
abbrev rAddIb : R2 := fun x y H Q => ∃ i k, x = .int i ∧ y = .bl k ∧ Q (.int (i + b2i k)) H
abbrev rAddStr : R2 := fun x y H Q => ∃ i j, x = .str i ∧ y = .str j ∧ i.length + j.length ≤ sizeLine ∧ Q (.str (i ++ j)) H
abbrev RCl := List V → Hp → VK → Prop
abbrev rMax2 : RCl := fun xs H Q => ∃ i j, xs = [.int i, .int j] ∧ Q (.int (if j > i then j else i)) H
abbrev rMin2 : RCl := fun xs H Q => ∃ i j, xs = [.int i, .int j] ∧ Q (.int (if j < i then j else i)) H
abbrev rAbs : RCl := fun xs H Q => ∃ i, xs = [.int i] ∧ Q (.int (if i < 0 then -i else i)) H
abbrev rInt1 : RCl := fun xs H Q => (∃ i, xs = [.int i] ∧ Q (.int i) H) ∨ ∃ k, xs = [.bl k] ∧ Q (.int (if k then 1 else 0)) H
abbrev rStrI : RCl := fun xs H Q => ∃ i, xs = [.int i] ∧ i.natAbs.log2 < 1920 ∧ Q (.str (toString i)) H
abbrev rLenS (K : PySem.W.Frag) : RCl := fun xs H Q => ∃ p ys, xs = [.ref p] ∧ (SqL K H p ys ∨ SqT K H p ys) ∧ Q (.int ys.length) H
abbrev rListS (K : PySem.W.Frag) : RCl := fun xs H Q => ∃ p ys, xs = [.ref p] ∧ (SqL K H p ys ∨ SqT K H p ys) ∧ ∀ l, H l = none → Q (.ref l) (upd H l (.lst ys))
abbrev rInsert : V → List V → Hp → VK → Prop := fun x vs H Q => ∃ (l : Addr) (xs : List V) (i : Int) (y : V), x = .ref l ∧ vs = [.int i, y] ∧ H l = some (.lst xs) ∧ xs.length < sizeLine ∧ 0 ≤ i ∧ i < 2 ^ 63 ∧ Q .non (upd H l (.lst (xs.take i.toNat ++ [y] ++ xs.drop i.toNat)))
abbrev rLenStr : RCl := fun xs H Q => ∃ z, xs = [.str z] ∧ z.length ≤ sizeLine ∧ Q (.int z.length) H

/-! ### a def of the text, its promise -/
structure DefF (K : PySem.W.Frag) (mg : Str → Option Value) (x : Str) (st : Stmt) : Prop where
  ex : ∃ f fd, mg x = some (.ref f) ∧ Fun K x x st f fd
theorem def_mk {K : PySem.W.Frag} {h : Heap} {mg : Str → Option Value} {x : Str} {st : Stmt} (X : K.In h) (G : h.Ns mainGlobals mg) {f : Addr} {od an : Option Addr} {sl : Array (Option Value)} {oc kV dc pm cd ct : Value}
    (a : PySem.W.nsIn K mainGlobals x = some (some (.ref f))) (l : K.lookup f = some ⟨oc, od, .func (PySem.W.fnOf x x (defArgs st) (defBody st) (defScope st) .none kV dc pm an cd ct), sl⟩)
    (c : PySem.W.codeIn K cd x = true) (k : PySem.W.keepIn K (.ref f) = true) : DefF K mg x st := ⟨_, _, PySem.W.mg_of X G a, fun_mk l c k⟩
/-- the parameters take the arguments one by one -/
abbrev PlainB (x : Str) (ps : List Str) (st : Stmt) : Prop := ∀ (kV doc pm : Value) (an : Option Addr) (cdv ct : Value) (us : List Value), us.length = ps.length → bindArgs (PySem.W.fnOf x x (defArgs st) (defBody st) (defScope st) .none kV doc pm an cdv ct) ⟨us, []⟩ = pure (ps.zip us)
/-- a def that keeps its promise -/
structure DefK (P : Program) (w : World) (K : PySem.W.Frag) (mg : Str → Option Value) (base : Heap) (k : Nat) (x : Str) (ps : List Str) (st : Stmt) (sp : Sp) : Prop where
  ex : ∃ f fd, mg x = some (.ref f) ∧ PySem.W.keepIn K (.ref f) = true ∧ Binds K fd ps [] ∧ Fun K x x st f fd ∧ FnOk P w K mg base CX0 k f fd ps sp
section
variable {P : Program} {w : World} {K : PySem.W.Frag} {mg : Str → Option Value} {base : Heap}
/-- THE RULE: the body's derivation, the reading -/
theorem DefF.ok {x : Str} {st : Stmt} {N ps : List Str} {k : Nat} {sp : Sp} {t : TS} (F : DefF K mg x st) (S : FnScope N ps (defScope st)) (B : PlainB x ps st) (len : ∀ vs H Q E, sp vs H Q E → vs.length = ps.length)
    (der : ∀ (f : Addr) (cdv : Value) (A : Around) (outer : List Env) (s : Shared) (H : Hp) (E : XK), Room k (A.deeper (envOfC x (defScope st) s.heap.objs.size f cdv)) → PSs (cxOf CX0 P w K mg base N x (defScope st) f cdv A outer s H E).nox (defBody st) t)
    (rd : ∀ vs H Q E, sp vs H Q E → t { nx := fun _ H' => Q .non H', rt := Q } (start N vs) H) : DefK P w K mg base (k + 1) x ps st sp := by
  obtain ⟨f, fd, hm, F⟩ := F.ex
  exact ⟨f, fd, hm, F.kp, F.binds B, F, F.ok S len fun cdv A outer s H vs Q E hr h => ⟨t, der f cdv A outer s H E hr, rd vs H Q E h⟩⟩
/-- the law's own def, at the end -/
theorem law_fin {l : PySem.W.OpenLaw} {x p : Str} {st : Stmt} {k : Nat} {sp : Sp} {fa : Addr} (F : DefF K mg x st) (hfa : mg x = some (.ref fa)) (B : PlainB x [p] st)
    (ok : ∀ (base : Heap) (f : Addr) (fd : FuncData), Fun K x x st f fd → FnOk l.prog w K mg base CX0 k f fd [p] sp) :
    ∃ fd : FuncData, (∀ (s : Shared) (v : Value), BindsTo s fd ⟨[v], []⟩ [(p, v)]) ∧ ∀ base : Heap, K.In base → base.Ns mainGlobals mg → FnOk l.prog w K mg base CX0 k fa fd [p] sp := by
  obtain ⟨f, fd, hm, F⟩ := F.ex
  have e : f = fa := by
    have z := hm.symm.trans hfa
    injection z with z
    injection z
  subst e
  refine ⟨fd, fun s v => ?_, fun base _ _ => ok base f fd F⟩
  obtain ⟨oc, od, kV, doc, pm, an, cdv, ct, osl, rfl, lk, hcd⟩ := F.ex
  exact .of_eq (B kV doc pm an cdv ct [v] rfl)
/-- THE RULE for the law's def -/
theorem fun_ok {x : Str} {st : Stmt} {N ps : List Str} {k : Nat} {sp : Sp} {t : TS} {f : Addr} {fd : FuncData} (F : Fun K x x st f fd) (S : FnScope N ps (defScope st)) (len : ∀ vs H Q E, sp vs H Q E → vs.length = ps.length)
    (der : ∀ (f : Addr) (cdv : Value) (A : Around) (outer : List Env) (s : Shared) (H : Hp) (E : XK), Room k (A.deeper (envOfC x (defScope st) s.heap.objs.size f cdv)) → PSs (cxOf CX0 P w K mg base N x (defScope st) f cdv A outer s H E).nox (defBody st) t)
    (rd : ∀ vs H Q E, sp vs H Q E → t { nx := fun _ H' => Q .non H', rt := Q } (start N vs) H) : FnOk P w K mg base CX0 (k + 1) f fd ps sp :=
  F.ok S len fun cdv A outer s H vs Q E hr h => ⟨t, der f cdv A outer s H E hr, rd vs H Q E h⟩
end
section
variable {X : Cx} {k j : Nat} {ps : List Str} {sp : Sp} {x : Str} {st : Stmt} {p pos : Pos} {e : Expr} {es : List Expr} {t : TA}
theorem pe_def (D : DefK X.prog X.w X.K X.mg X.base k x ps st sp) (hr : Room j X.A) (hj : k ≤ j) (hg : Gl X x) (ha : PA X (e :: es) t) (hdb : (x == ("__debug__" : Str)) = false := by decide)
    (he : starEach (e :: es) X.env = (false, eval e X.env) :: starEach es X.env := by rfl) (hpl : (backTo pos (starEach es X.env)).any (·.1) = false := by rfl) : PE X (.Call (.Name x p) (e :: es) [] pos) (tCall sp [] E0 t) := by
  obtain ⟨f, fd, hm, hk, hb, _, F⟩ := D.ex
  exact pe_call F (hr.mono hj) hg hm hk hb .nil pass0 ha hdb he hpl
theorem pe_gI {i : Int} (hg : Gl X x) (h : ∃ t, X.mg x = some (.int i t)) (hd : (x == ("__debug__" : Str)) = false := by decide) : PE X (.Name x pos) (tC (.int i)) := by
  obtain ⟨t, h⟩ := h
  exact pe_glob hg h ⟨t, rfl⟩ hd
theorem pe_gS {i : Str} (hg : Gl X x) (h : ∃ t, X.mg x = some (.str i t)) (hd : (x == ("__debug__" : Str)) = false := by decide) : PE X (.Name x pos) (tC (.str i)) := by
  obtain ⟨t, h⟩ := h
  exact pe_glob hg h ⟨t, rfl⟩ hd
theorem pe_gR {C : Addr} (hg : Gl X x) (h : X.mg x = some (.ref C)) (hd : (x == ("__debug__" : Str)) = false := by decide) : PE X (.Name x pos) (tC (.ref C)) := pe_glob hg h rfl hd

/-! ### calls by keywords alone -/
/-- the parameters by keywords: pi tells for each parameter which keyword -/
structure KwB (x : Str) (ps ks : List Str) (st : Stmt) (pi : List Nat) : Prop where
  all : ∀ (kV doc pm : Value) (an : Option Addr) (cdv ct : Value) (ws : List Value), ws.length = ks.length → bindArgs (PySem.W.fnOf x x (defArgs st) (defBody st) (defScope st) .none kV doc pm an cdv ct) ⟨[], ks.zip ws⟩ = pure (ps.zip (pi.filterMap fun i => ws[i]?))
def perm {α : Type} (pi : List Nat) (ws : List α) : List α := pi.filterMap fun i => ws[i]?
theorem perm_rel (pi : List Nat) {zs : List V} {ws : List Value} (r : Vals zs ws) : Vals (perm pi zs) (perm pi ws) := by
  induction pi with
  | nil => exact .nil
  | cons i l ih =>
    unfold perm
    rw [List.filterMap_cons, List.filterMap_cons]
    cases e : zs[i]? with
    | none => rw [r.none_of e]; exact ih
    | some z =>
      obtain ⟨u, e2, r2⟩ := r.get e
      rw [e2]
      exact .cons r2 ih
def tCallP (n : Nat) (pi : List Nat) (sp : Sp) (E : XK) (tk : TA) : TE := fun σ H Q => tk σ H fun zs H2 => zs.length = n ∧ sp (perm pi zs) H2 Q E
theorem pe_defK {ks : List Str} {pi : List Nat} {kws : List Keyword} {tk : TA} (D : DefK X.prog X.w X.K X.mg X.base k x ps st sp) (B : KwB x ps ks st pi) (hr : Room j X.A) (hj : k ≤ j) (hg : Gl X x) (hkw : PK X kws tk)
    (hall : (backToKw pos (keywordEach kws X.env)).all (·.1.isSome) = true := by rfl) (hks : (backToKw pos (keywordEach kws X.env)).filterMap (·.1) = ks := by rfl)
    (hdb : (x == ("__debug__" : Str)) = false := by decide) (hpl : (backToKw pos (keywordEach kws X.env)).any (·.1.isNone) = false := by rfl) :
    PE X (.Call (.Name x p) [] kws pos) (tCallP ks.length pi sp E0 tk) := by
  obtain ⟨f, fd, hm, hk, hb, Fn, F⟩ := D.ex
  refine ⟨fun pins s σ H Q I h => ?_⟩
  refine wpAny_Call_Name_kw (ld_glob I hg hm ?_ hdb)
  refine PySem.W.callWith_KW0 (h₀ := X.base) I.ok.mod.kin hk hall (thn (hkw.run pos pins s σ H _ I h) fun ws s2 ⟨zs, H2, I2, rz, q1, q2⟩ => ⟨I2.kIn, ?_⟩) hpl
  rw [hks]
  have r2 : Vals (perm pi zs) (perm pi ws) := perm_rel pi rz
  obtain ⟨oc, od, kV, doc, pm, an, cdv, ct, osl, rfl, lk, hcd⟩ := Fn.ex
  have hw : ws.length = ks.length := rz.length.symm.trans q1
  refine wpAny_call (codeAny_mono ((F.mono hj).run X.A X.stack s2 H2 ⟨[], ks.zip ws⟩ (perm pi ws) (perm pi zs) Q E0 hr I2.env0 (.of_eq (B.all kV doc pm an cdv ct ws hw)) r2 q2) fun r s' hq => ?_)
  cases r with
  | error e => exact hq.elim
  | ok fl =>
    cases fl with
    | ret u => exact I2.after hq
    | next => exact False.elim hq
    | brk => exact False.elim hq
    | cont => exact False.elim hq
end
end NN
/-! own steps through readings -/
namespace NN
open PySem L2

/-! ### what is kept -/
def Kp (S : List Addr) (H H' : Hp) : Prop := ∀ b o, H b = some o → b ∉ S → H' b = some o
theorem Kp.refl {S : List Addr} {H : Hp} : Kp S H H := fun _ _ h _ => h
theorem Kp.trans {S : List Addr} {H H1 H2 : Hp} (a : Kp S H H1) (b : Kp S H1 H2) : Kp S H H2 := fun c o h n => b c o (a c o h n) n
theorem Kp.at {S : List Addr} {H H1 : Hp} {b : Addr} {o : HO} (a : Kp S H H1) (h : H b = some o) (n : b ∉ S) : H1 b = some o := a b o h n
theorem Kp.mono {S T : List Addr} {H H1 : Hp} (a : Kp S H H1) (h : ∀ x ∈ S, x ∈ T) : Kp T H H1 := fun c o e n => a c o e fun z => n (h _ z)
theorem Kp.wid {S : List Addr} {H H1 : Hp} (a : Kp [] H H1) : Kp S H H1 := a.mono fun _ z => nomatch z
theorem Kp.new {S : List Addr} {H H1 : Hp} {p : Addr} {o : HO} (a : Kp S H H1) (h : H1 p = none) : Kp S H (upd H1 p o) := fun c u e n => by
  have e1 := a c u e n
  rw [upd_ne (ne_of_none e1 h)]; exact e1
/-- an object that H does not know is written -/
theorem Kp.own {S : List Addr} {H H1 : Hp} {p : Addr} {o : HO} (a : Kp S H H1) (h : H p = none) : Kp S H (upd H1 p o) := fun c u e n => by
  rw [upd_ne (ne_of_none e h)]; exact a c u e n
theorem Kp.wr {S : List Addr} {H H1 : Hp} {p : Addr} {o : HO} (a : Kp S H H1) (h : p ∈ S) : Kp S H (upd H1 p o) := fun c u e n => by
  rw [upd_ne (fun z => n (by rw [z]; exact h))]; exact a c u e n
theorem Kp.seq {S : List Addr} {K : PySem.W.Frag} {H H1 : Hp} {p : Addr} {xs : List V} (a : Kp S H H1) (n : p ∉ S) (h : SqL K H p xs) : SqL K H1 p xs := by
  rcases h with (h | ⟨o, h⟩) | h
  · exact .inl (.inl (a _ _ h n))
  · exact .inl (.inr ⟨o, a _ _ h n⟩)
  · exact .inr h
theorem Kp.seq0 {K : PySem.W.Frag} {H H1 : Hp} {p : Addr} {xs : List V} (a : Kp [] H H1) (h : SqL K H p xs) : SqL K H1 p xs := a.seq (by intro z; cases z) h
theorem Kp.free {S : List Addr} {H H1 : Hp} {p : Addr} (a : Kp S H H1) (n : p ∉ S) (h : H1 p = Option.none) : H p = Option.none := by
  cases e : H p with
  | none => rfl
  | some o => rw [a p o e n] at h; cases h

/-! ### steps -/
section
variable {σ : St} {H : Hp} {Q : VK} {QB : Bool → Hp → Prop} {QA : List V → Hp → Prop} {v x y : V} {i : Nat} {a b : Int} {ta tb te tc : TE} {t u : TT} {D : Ends} {s1 s2 : TS} {tl tr : TA} {r r' : R2} {K : PySem.W.Frag} {p : Addr} {xs ys : List V} {rc : RCl} {c : Bool}
theorem g_var (h : σ[i]? = some (some v)) (q : Q v H) : tVar i σ H Q := ⟨v, h, q⟩
theorem g_c (q : Q v H) : tC v σ H Q := q
theorem g_op (q : ta σ H fun x H1 => tb σ H1 fun y H2 => r x y H2 Q) : tOp r ta tb σ H Q := q
theorem g_un {r : V → Hp → VK → Prop} (q : ta σ H fun x H1 => r x H1 Q) : tUn r ta σ H Q := q
theorem g_neg (q : Q (.int (-a)) H) : rU (fun i => .int (-i)) (.int a) H Q := ⟨a, rfl, q⟩
theorem g_I0 {g : Int → Int → V} (q : Q (g a b) H) : rI0 g (.int a) (.int b) H Q := ⟨a, b, rfl, rfl, q⟩
theorem g_I {C : Int → Int → Prop} {g : Int → Int → V} (h : C a b) (q : Q (g a b) H) : rI C g (.int a) (.int b) H Q := ⟨a, b, rfl, rfl, h, q⟩
theorem g_eqI (q : Q (.bl (decide (a = b))) H) : rEq (.int a) (.int b) H Q := ⟨rfl, by
  have e : decide (V.int a = V.int b) = decide (a = b) := by rw [dec_int, Bool.beq_eq_decide_eq]
  rw [e]; exact q⟩
theorem g_neI (q : Q (.bl (!decide (a = b))) H) : rNe (.int a) (.int b) H Q := ⟨rfl, by
  have e : decide (V.int a = V.int b) = decide (a = b) := by rw [dec_int, Bool.beq_eq_decide_eq]
  rw [e]; exact q⟩
theorem g_eq (h : scal x y = true) (q : Q (.bl (decide (x = y))) H) : rEq x y H Q := ⟨h, q⟩
theorem g_ne (h : scal x y = true) (q : Q (.bl (!decide (x = y))) H) : rNe x y H Q := ⟨h, q⟩
theorem g_test (q : te σ H fun x H1 => ∃ k, x = .bl k ∧ QB k H1) : tTest te σ H QB := q
theorem g_tb (q : te σ H fun x H1 => ∃ k, x = .bl k ∧ QB k H1) : tB te σ H QB := q
theorem g_bl {b : Bool} {P : Bool → Prop} (q : P b) : ∃ k, V.bl b = .bl k ∧ P k := ⟨b, rfl, q⟩
theorem g_and (q : t σ H fun c H1 => if c = true then u σ H1 QB else QB false H1) : tAnd t u σ H QB := q
theorem g_or (q : t σ H fun c H1 => if c = true then QB true H1 else u σ H1 QB) : tOr t u σ H QB := q
theorem g_not (q : t σ H fun c H1 => QB (!c) H1) : tNot t σ H QB := q
theorem g_andV (q : ta σ H fun x H1 => ∃ c, x = .bl c ∧ if c = true then tb σ H1 Q else Q (.bl false) H1) : tAndV ta tb σ H Q := q
theorem g_orV (q : ta σ H fun x H1 => ∃ c, x = .bl c ∧ if c = true then Q (.bl true) H1 else tb σ H1 Q) : tOrV ta tb σ H Q := q
theorem g_notV (q : ta σ H fun x H1 => ∃ c, x = .bl c ∧ Q (.bl (!c)) H1) : tNotV ta σ H Q := q
theorem g_if (q : t σ H fun c H1 => if c = true then ta σ H1 Q else tb σ H1 Q) : tIf t ta tb σ H Q := q
theorem g_nil (q : QA [] H) : tNil σ H QA := q
theorem g_cons (q : te σ H fun x H1 => tr σ H1 fun xs H2 => QA (x :: xs) H2) : tCons te tr σ H QA := q
theorem g_tup (q : tl σ H fun xs H1 => xs.length ≤ sizeLine ∧ ∀ p, H1 p = none → Q (.ref p) (upd H1 p (.tup xs))) : tTup tl σ H Q := q
theorem g_lst (q : tl σ H fun xs H1 => xs.length ≤ sizeLine ∧ ∀ p, H1 p = none → Q (.ref p) (upd H1 p (.lst xs))) : tLst tl σ H Q := q
theorem g_cb (q : tl σ H fun vs H1 => rc vs H1 Q) : tCB rc tl σ H Q := q
theorem g_max2 (q : Q (.int (if b > a then b else a)) H) : rMax2 [.int a, .int b] H Q := ⟨a, b, rfl, q⟩
theorem g_min2 (q : Q (.int (if b < a then b else a)) H) : rMin2 [.int a, .int b] H Q := ⟨a, b, rfl, q⟩
theorem g_abs (q : Q (.int (if a < 0 then -a else a)) H) : rAbs [.int a] H Q := ⟨a, rfl, q⟩
theorem g_int1b (q : Q (.int (if c then 1 else 0)) H) : rInt1 [.bl c] H Q := .inr ⟨c, rfl, q⟩
theorem g_int1i (q : Q (.int a) H) : rInt1 [.int a] H Q := .inl ⟨a, rfl, q⟩
theorem g_lenL (h : SqL K H p xs) (q : Q (.int xs.length) H) : rLenS K [.ref p] H Q := ⟨p, xs, rfl, .inl h, q⟩
theorem g_listL (h : SqL K H p xs) (q : ∀ l, H l = none → Q (.ref l) (upd H l (.lst xs))) : rListS K [.ref p] H Q := ⟨p, xs, rfl, .inl h, q⟩
theorem g_ixL {j : Int} (h : SqL K H p xs) (e : atI xs j = some v) (q : Q v H) : rIxL K (.ref p) (.int j) H Q := ⟨p, xs, j, v, rfl, rfl, h, e, q⟩
theorem g_ixT {j : Int} (h : SqT K H p xs) (e : atI xs j = some v) (q : Q v H) : rIxT K (.ref p) (.int j) H Q := ⟨p, xs, j, v, rfl, rfl, h, e, q⟩
theorem g_sl {r : V → Option Int → Option Int → Hp → VK → Prop} {lo hi : TO} (q : te σ H fun x H1 => lo σ H1 fun l H2 => hi σ H2 fun u H3 => r x l u H3 Q) : tSl r te lo hi σ H Q := q
theorem g_nopart {QO : Option Int → Hp → Prop} (q : QO none H) : tNoPart σ H QO := q
theorem g_part {QO : Option Int → Hp → Prop} (q : te σ H fun x H1 => ∃ i, x = .int i ∧ QO (some i) H1) : tPart te σ H QO := q
theorem g_int {P : Int → Prop} (q : P a) : ∃ i, V.int a = .int i ∧ P i := ⟨a, rfl, q⟩
theorem g_slL {lo hi : Option Int} (h : SqL K H p xs) (q : ∀ l, H l = none → Q (.ref l) (upd H l (.lst (cutV xs lo hi)))) : rSlL K (.ref p) lo hi H Q := ⟨p, xs, rfl, h, q⟩
theorem g_isN (q : Q (.bl (decide (x = .non))) H) : rIsN x .non H Q := ⟨rfl, q⟩
theorem g_notN (q : Q (.bl (!decide (x = .non))) H) : rNotN x .non H Q := ⟨rfl, q⟩
theorem g_in {neg : Bool} (h : SqL K H p xs) (hx : flatV x = true) (hs : xs.all flatV = true) (q : Q (.bl (if neg then !inV x xs else inV x xs)) H) : rIn K neg x (.ref p) H Q := ⟨p, xs, rfl, .inl h, hx, hs, q⟩
theorem g_cat {p' : Addr} (h : H p = some (.lst xs)) (h' : H p' = some (.lst ys)) (hl : xs.length + ys.length ≤ sizeLine) (q : ∀ l, H l = none → Q (.ref l) (upd H l (.lst (xs ++ ys)))) : rCat (.ref p) (.ref p') H Q := ⟨p, p', xs, ys, rfl, rfl, h, h', hl, q⟩
theorem g_call {sp : Sp} {dvs : List V} {E : XK} (q : tl σ H fun vs H1 => sp (vs ++ dvs) H1 Q E) : tCall sp dvs E tl σ H Q := q
/-! statements -/
theorem g_seq (q : s1 { D with nx := s2 D } σ H) : tSeq s1 s2 D σ H := q
theorem g_isIf {s3 : TS} (q : tSeq (tIfS t s1 s2) s3 D σ H) : tSeq (tIfS t s1 s2) s3 D σ H := q
/-- two statements with a word between them -/
theorem g_seqJ {M : St → Hp → Prop} (F : ∀ σ' H', M σ' H' → s2 D σ' H') (q : ∀ N : St → Hp → Prop, (∀ σ' H', M σ' H' → N σ' H') → s1 { D with nx := N } σ H) : tSeq s1 s2 D σ H := q (s2 D) F
theorem g_next (q : D.nx σ H) : tNext D σ H := q
theorem g_brk (q : D.bk σ H) : tBreak D σ H := q
theorem g_ct (q : D.ct σ H) : tCont D σ H := q
theorem g_drop (q : te σ H fun _ H1 => D.nx σ H1) : tDrop te D σ H := q
theorem g_ret (q : te σ H D.rt) : tRet te D σ H := q
theorem g_retN (q : D.rt .non H) : tRetN D σ H := q
theorem g_ifS (q : t σ H fun b H1 => if b = true then s1 D σ H1 else s2 D σ H1) : tIfS t s1 s2 D σ H := q
theorem g_asg {g : TG} (q : te σ H fun x H1 => g x σ H1 D.nx) : tAsg te g D σ H := q
theorem g_name {σ' : St} {QS : St → Hp → Prop} (e : σ.set i (some v) = σ') (q : QS σ' H) : gName i v σ H QS := by subst e; exact q
theorem g_sub {to ti : TE} {ts : TSet} {QS : St → Hp → Prop} (q : to σ H fun o H1 => ti σ H1 fun i H2 => ts o i v H2 fun H3 => QS σ H3) : gSub to ti ts v σ H QS := q
theorem g_setL {QH : Hp → Prop} {k : Int} {j : Nat} (h : H p = some (.lst xs)) (e : ixN xs.length k = some j) (q : QH (upd H p (.lst (xs.set j v)))) : rSetL (.ref p) (.int k) v H QH := ⟨p, xs, k, j, rfl, rfl, h, e, q⟩
theorem g_aug {ti : TIp} (h : σ[i]? = some (some x)) (q : te σ H fun y H1 => ti x y H1 fun z H2 => D.nx (σ.set i (some z)) H2) : tAug i te ti D σ H := ⟨x, h, q⟩
theorem g_ipI {f : Int → Int → Int} (q : Q (.int (f a b)) H) : ipI f (.int a) (.int b) H Q := ⟨a, b, rfl, rfl, q⟩
theorem g_par {j : Nat} (q : tl σ H fun vs H1 => ∃ v w, vs = [v, w] ∧ D.nx ((σ.set i (some v)).set j (some w)) H1) : tPar i j tl D σ H := q
theorem g_ex1 {A : Prop} (h : A) (q : Q v H) : A ∧ Q v H := ⟨h, q⟩
theorem g_ite {A B pr : Prop} [Decidable pr] (h1 : pr → A) (h2 : ¬ pr → B) : if decide pr = true then A else B := by
  by_cases h : pr
  · rw [decide_eq_true h, if_pos rfl]; exact h1 h
  · rw [decide_eq_false h, if_neg Bool.false_ne_true]; exact h2 h
theorem g_iteN {A B pr : Prop} [Decidable pr] (h1 : ¬ pr → A) (h2 : pr → B) : if (!decide pr) = true then A else B := by
  by_cases h : pr
  · rw [decide_eq_true h]; exact h2 h
  · rw [decide_eq_false h]; exact h1 h
theorem g_itb {A B : Prop} {b : Bool} (h1 : b = true → A) (h2 : b = false → B) : if b = true then A else B := by
  cases b with
  | true => exact h1 rfl
  | false => exact h2 rfl
theorem g_for {wi : TI} {g : TG} {tb : TS} (q : wi σ H fun J H1 => ∃ W : Nat → Nat → St → Hp → Prop, (∃ m, W 0 m σ H1) ∧ ∀ i m σ H, W i m σ H →
  (J.stop i H ∧ D.nx σ H) ∨ (J.go i H ∧ ∃ N : St → Hp → Prop, (∀ σ' H', N σ' H' → ∃ m', m' < m ∧ W (i + 1) m' σ' H') ∧ ∀ x H', J.yld i H x H' → g x σ H' fun σ2 H2 => tb { D with nx := N, ct := N, bk := D.nx } σ2 H2)) : tFor wi g tb D σ H := q
theorem g_iList {R : It → Hp → Prop} (q : te σ H fun x H1 => ∃ a, x = .ref a ∧ (∃ xs, SqL K H1 a xs) ∧ R (Itl K a) H1) : iList K te σ H R := q
theorem g_iRng1 {R : It → Hp → Prop} (q : tl σ H fun vs H1 => ∃ j : Int, vs = [.int j] ∧ -(2 ^ 62) ≤ j ∧ j < 2 ^ 62 ∧ R (Itr 0 j.toNat) H1) : iRng1 tl σ H R := q
theorem g_iRng2 {R : It → Hp → Prop} (q : tl σ H fun vs H1 => ∃ i j : Int, vs = [.int i, .int j] ∧ (-(2 ^ 62) ≤ i ∧ i < 2 ^ 62 ∧ -(2 ^ 62) ≤ j ∧ j < 2 ^ 62) ∧ R (Itr i (j - i).toNat) H1) : iRng2 tl σ H R := q
/-- a loop over a list that is at hand -/
theorem f_list {g : TG} {tb : TS} {nxt : St → Hp → Prop} {rt : VK} (h : SqL K H p xs) (Pv : Nat → St → Hp → Prop) (h0 : Pv 0 σ H) (hl : ∀ i σ H, i ≤ xs.length → Pv i σ H → SqL K H p xs)
    (hs : ∀ i x σ H, xs[i]? = some x → Pv i σ H → g x σ H fun σ2 H2 => tb { nx := Pv (i + 1), rt := rt, bk := nxt, ct := Pv (i + 1) } σ2 H2) (hd : ∀ σ H, Pv xs.length σ H → nxt σ H) :
    ∃ a, V.ref p = .ref a ∧ (∃ xs, SqL K H a xs) ∧ ∃ W : Nat → Nat → St → Hp → Prop, (∃ m, W 0 m σ H) ∧ ∀ i m σ H, W i m σ H →
      ((Itl K a).stop i H ∧ nxt σ H) ∨ ((Itl K a).go i H ∧ ∃ N : St → Hp → Prop, (∀ σ' H', N σ' H' → ∃ m', m' < m ∧ W (i + 1) m' σ' H') ∧ ∀ x H', (Itl K a).yld i H x H' → g x σ H' fun σ2 H2 => tb { nx := N, rt := rt, bk := nxt, ct := N } σ2 H2) :=
  ⟨p, rfl, ⟨xs, h⟩, for_list (D := { nx := nxt, rt := rt, bk := nxt, ct := nxt }) Pv h0 hl hs hd⟩
theorem f_rng1 {g : TG} {tb : TS} {nxt : St → Hp → Prop} {rt : VK} (n : Nat) (hn : a.toNat = n) (h1 : -(2 ^ 62) ≤ a) (h2 : a < 2 ^ 62) (Pv : Nat → St → Hp → Prop) (h0 : Pv 0 σ H)
    (hs : ∀ i σ H, i < n → Pv i σ H → g (.int ((i : Nat) : Int)) σ H fun σ2 H2 => tb { nx := Pv (i + 1), rt := rt, bk := nxt, ct := Pv (i + 1) } σ2 H2) (hd : ∀ σ H, Pv n σ H → nxt σ H) :
    ∃ j : Int, [V.int a] = [.int j] ∧ -(2 ^ 62) ≤ j ∧ j < 2 ^ 62 ∧ ∃ W : Nat → Nat → St → Hp → Prop, (∃ m, W 0 m σ H) ∧ ∀ i m σ H, W i m σ H →
      ((Itr 0 j.toNat).stop i H ∧ nxt σ H) ∨ ((Itr 0 j.toNat).go i H ∧ ∃ N : St → Hp → Prop, (∀ σ' H', N σ' H' → ∃ m', m' < m ∧ W (i + 1) m' σ' H') ∧ ∀ x H', (Itr 0 j.toNat).yld i H x H' → g x σ H' fun σ2 H2 => tb { nx := N, rt := rt, bk := nxt, ct := N } σ2 H2) := by
  subst hn
  exact ⟨a, rfl, h1, h2, for_range (lo := 0) (D := { nx := nxt, rt := rt, bk := nxt, ct := nxt }) Pv h0 (fun i σ H hi q => by rw [Int.zero_add]; exact hs i σ H hi q) hd⟩
theorem f_rng {g : TG} {tb : TS} {nxt : St → Hp → Prop} {rt : VK} (hb : 0 ≤ a ∧ a ≤ 1000000) (Pv : Nat → St → Hp → Prop) (h0 : Pv 0 σ H)
    (hs : ∀ i σ H, ((i : Nat) : Int) < a → Pv i σ H → g (.int ((i : Nat) : Int)) σ H fun σ2 H2 => tb { nx := Pv (i + 1), rt := rt, bk := nxt, ct := Pv (i + 1) } σ2 H2) (hd : ∀ σ H, Pv a.toNat σ H → nxt σ H) :
    ∃ j : Int, [V.int a] = [.int j] ∧ -(2 ^ 62) ≤ j ∧ j < 2 ^ 62 ∧ ∃ W : Nat → Nat → St → Hp → Prop, (∃ m, W 0 m σ H) ∧ ∀ i m σ H, W i m σ H →
      ((Itr 0 j.toNat).stop i H ∧ nxt σ H) ∨ ((Itr 0 j.toNat).go i H ∧ ∃ N : St → Hp → Prop, (∀ σ' H', N σ' H' → ∃ m', m' < m ∧ W (i + 1) m' σ' H') ∧ ∀ x H', (Itr 0 j.toNat).yld i H x H' → g x σ H' fun σ2 H2 => tb { nx := N, rt := rt, bk := nxt, ct := N } σ2 H2) :=
  f_rng1 a.toNat rfl (by omega) (by omega) Pv h0 (fun i σ H hi q => hs i σ H (by omega) q) hd
/-! comprehensions -/
theorem g_lc {wi : TI} {g : TG} {tt : TT} {vs : List Nat} (q : wi σ H fun J H1 => ∀ D, H1 D = none → ∃ W : Nat → Nat → Hp → Prop, (∃ m, W 0 m (upd H1 D (.lst []))) ∧ ∀ i m H, W i m H →
  (J.stop i H ∧ Q (.ref D) H) ∨ (J.go i H ∧ ∃ Nx : Hp → Prop, (∀ H', Nx H' → ∃ m', m' < m ∧ W (i + 1) m' H') ∧ ∀ x H', J.yld i H x H' → g x (wipe σ vs) H' fun σ2 H2 => wipe σ2 vs = wipe σ vs ∧ tt σ2 H2 fun b H3 =>
    if b = true then te σ2 H3 fun y H4 => ∃ acc, H4 D = some (.lst acc) ∧ acc.length < sizeLine ∧ Nx (upd H4 D (.lst (acc ++ [y]))) else Nx H3)) : tLc wi g tt te vs σ H Q := q
/-- over a list at hand -/
theorem c_list {g : TG} {tt : TT} {vs : List Nat} {Qd : Addr → Hp → Prop} (h : SqL K H p xs) (Pv : Addr → Nat → Hp → Prop) (h0 : ∀ D, H D = none → Pv D 0 (upd H D (.lst []))) (hl : ∀ D i H', H D = none → i ≤ xs.length → Pv D i H' → SqL K H' p xs)
    (hs : ∀ D i x H', H D = none → xs[i]? = some x → Pv D i H' → g x (wipe σ vs) H' fun σ2 H2 => wipe σ2 vs = wipe σ vs ∧ tt σ2 H2 fun b H3 =>
      if b = true then te σ2 H3 fun y H4 => ∃ acc, H4 D = some (.lst acc) ∧ acc.length < sizeLine ∧ Pv D (i + 1) (upd H4 D (.lst (acc ++ [y]))) else Pv D (i + 1) H3)
    (hd : ∀ D H', H D = none → Pv D xs.length H' → Qd D H') :
    ∃ a, V.ref p = .ref a ∧ (∃ xs, SqL K H a xs) ∧ ∀ D, H D = none → ∃ W : Nat → Nat → Hp → Prop, (∃ m, W 0 m (upd H D (.lst []))) ∧ ∀ i m H, W i m H →
  ((Itl K a).stop i H ∧ Qd D H) ∨ ((Itl K a).go i H ∧ ∃ Nx : Hp → Prop, (∀ H', Nx H' → ∃ m', m' < m ∧ W (i + 1) m' H') ∧ ∀ x H', (Itl K a).yld i H x H' → g x (wipe σ vs) H' fun σ2 H2 => wipe σ2 vs = wipe σ vs ∧ tt σ2 H2 fun b H3 =>
    if b = true then te σ2 H3 fun y H4 => ∃ acc, H4 D = some (.lst acc) ∧ acc.length < sizeLine ∧ Nx (upd H4 D (.lst (acc ++ [y]))) else Nx H3) :=
  ⟨p, rfl, ⟨xs, h⟩, fun D hD => lc_list (xs := xs) (Qd := Qd D) (Pv D) (h0 D hD) (fun i H' hi q => hl D i H' hD hi q) (fun i x H' hx q => hs D i x H' hD hx q) fun H' q => hd D H' hD q⟩
theorem c_rng1 {g : TG} {tt : TT} {vs : List Nat} {Qd : Addr → Hp → Prop} (n : Nat) (hn : a.toNat = n) (h1 : -(2 ^ 62) ≤ a) (h2 : a < 2 ^ 62) (Pv : Addr → Nat → Hp → Prop) (h0 : ∀ D, H D = none → Pv D 0 (upd H D (.lst [])))
    (hs : ∀ D i H', H D = none → i < n → Pv D i H' → g (.int ((i : Nat) : Int)) (wipe σ vs) H' fun σ2 H2 => wipe σ2 vs = wipe σ vs ∧ tt σ2 H2 fun b H3 =>
      if b = true then te σ2 H3 fun y H4 => ∃ acc, H4 D = some (.lst acc) ∧ acc.length < sizeLine ∧ Pv D (i + 1) (upd H4 D (.lst (acc ++ [y]))) else Pv D (i + 1) H3)
    (hd : ∀ D H', H D = none → Pv D n H' → Qd D H') :
    ∃ j : Int, [V.int a] = [.int j] ∧ -(2 ^ 62) ≤ j ∧ j < 2 ^ 62 ∧ ∀ D, H D = none → ∃ W : Nat → Nat → Hp → Prop, (∃ m, W 0 m (upd H D (.lst []))) ∧ ∀ i m H, W i m H →
  ((Itr 0 j.toNat).stop i H ∧ Qd D H) ∨ ((Itr 0 j.toNat).go i H ∧ ∃ Nx : Hp → Prop, (∀ H', Nx H' → ∃ m', m' < m ∧ W (i + 1) m' H') ∧ ∀ x H', (Itr 0 j.toNat).yld i H x H' → g x (wipe σ vs) H' fun σ2 H2 => wipe σ2 vs = wipe σ vs ∧ tt σ2 H2 fun b H3 =>
    if b = true then te σ2 H3 fun y H4 => ∃ acc, H4 D = some (.lst acc) ∧ acc.length < sizeLine ∧ Nx (upd H4 D (.lst (acc ++ [y]))) else Nx H3) := by
  subst hn
  exact ⟨a, rfl, h1, h2, fun D hD => lc_range (lo := 0) (Qd := Qd D) (Pv D) (h0 D hD) (fun i H' hi q => by rw [Int.zero_add]; exact hs D i H' hD hi q) fun H' q => hd D H' hD q⟩
theorem c_rng {g : TG} {tt : TT} {vs : List Nat} {Qd : Addr → Hp → Prop} (hb : 0 ≤ a ∧ a ≤ 1000000) (Pv : Addr → Nat → Hp → Prop) (h0 : ∀ D, H D = none → Pv D 0 (upd H D (.lst [])))
    (hs : ∀ D i H', H D = none → ((i : Nat) : Int) < a → Pv D i H' → g (.int ((i : Nat) : Int)) (wipe σ vs) H' fun σ2 H2 => wipe σ2 vs = wipe σ vs ∧ tt σ2 H2 fun b H3 =>
      if b = true then te σ2 H3 fun y H4 => ∃ acc, H4 D = some (.lst acc) ∧ acc.length < sizeLine ∧ Pv D (i + 1) (upd H4 D (.lst (acc ++ [y]))) else Pv D (i + 1) H3)
    (hd : ∀ D H', H D = none → Pv D a.toNat H' → Qd D H') :
    ∃ j : Int, [V.int a] = [.int j] ∧ -(2 ^ 62) ≤ j ∧ j < 2 ^ 62 ∧ ∀ D, H D = none → ∃ W : Nat → Nat → Hp → Prop, (∃ m, W 0 m (upd H D (.lst []))) ∧ ∀ i m H, W i m H →
  ((Itr 0 j.toNat).stop i H ∧ Qd D H) ∨ ((Itr 0 j.toNat).go i H ∧ ∃ Nx : Hp → Prop, (∀ H', Nx H' → ∃ m', m' < m ∧ W (i + 1) m' H') ∧ ∀ x H', (Itr 0 j.toNat).yld i H x H' → g x (wipe σ vs) H' fun σ2 H2 => wipe σ2 vs = wipe σ vs ∧ tt σ2 H2 fun b H3 =>
    if b = true then te σ2 H3 fun y H4 => ∃ acc, H4 D = some (.lst acc) ∧ acc.length < sizeLine ∧ Nx (upd H4 D (.lst (acc ++ [y]))) else Nx H3) :=
  c_rng1 a.toNat rfl (by omega) (by omega) Pv h0 (fun D i H' hD hi q => hs D i H' hD (by omega) q) hd
/-! ### the same, the heap behind by what is known of it -/
theorem h_tup (q : tl σ H fun xs H1 => xs.length ≤ sizeLine ∧ ∀ p H2, H1 p = none → Kp [] H1 H2 → H2 p = some (.tup xs) → Q (.ref p) H2) (mono : ∀ QA' : List V → Hp → Prop, (∀ xs H1, (xs.length ≤ sizeLine ∧ ∀ p H2, H1 p = none → Kp [] H1 H2 → H2 p = some (.tup xs) → Q (.ref p) H2) → QA' xs H1) → tl σ H QA') : tTup tl σ H Q :=
  mono _ fun xs H1 ⟨h1, h2⟩ => ⟨h1, fun p hp => h2 p _ hp (Kp.refl.new hp) upd_same⟩
theorem h_new {o : HO} (q : ∀ p H2, H p = none → Kp [] H H2 → H2 p = some o → Q (.ref p) H2) : ∀ p, H p = none → Q (.ref p) (upd H p o) := fun p hp => q p _ hp (Kp.refl.new hp) upd_same
theorem g_sz {n : Nat} {P : Prop} (h : n ≤ sizeLine) (q : P) : n ≤ sizeLine ∧ P := ⟨h, q⟩
theorem Kp.of_upd {H H2 : Hp} {p : Addr} {o : HO} (e : upd H p o = H2) (h : H p = none) : Kp [] H H2 := e ▸ Kp.refl.new h
theorem at_upd {H H2 : Hp} {p : Addr} {o : HO} (e : upd H p o = H2) : H2 p = some o := e ▸ upd_same
theorem g_eqc {α : Type} {x y : α} {P : Prop} (h : x = y) (q : P) : x = y ∧ P := ⟨h, q⟩
theorem h_listL (h : SqL K H p xs) (q : ∀ l H2, H l = none → Kp [] H H2 → H2 l = some (.lst xs) → Q (.ref l) H2) : rListS K [.ref p] H Q := g_listL h (h_new q)
theorem h_slL {lo hi : Option Int} (h : SqL K H p xs) (q : ∀ l H2, H l = none → Kp [] H H2 → H2 l = some (.lst (cutV xs lo hi)) → Q (.ref l) H2) : rSlL K (.ref p) lo hi H Q := g_slL h (h_new q)
theorem h_cat {p' : Addr} (h : H p = some (.lst xs)) (h' : H p' = some (.lst ys)) (hl : xs.length + ys.length ≤ sizeLine) (q : ∀ l H2, H l = none → Kp [] H H2 → H2 l = some (.lst (xs ++ ys)) → Q (.ref l) H2) : rCat (.ref p) (.ref p') H Q := g_cat h h' hl (h_new q)
theorem h_sized {o : HO} {n : Nat} (h : n ≤ sizeLine) (q : ∀ p H2, H p = none → Kp [] H H2 → H2 p = some o → Q (.ref p) H2) : n ≤ sizeLine ∧ ∀ p, H p = none → Q (.ref p) (upd H p o) := ⟨h, h_new q⟩
theorem h_setL {QH : Hp → Prop} {k : Int} {j : Nat} (h : H p = some (.lst xs)) (e : ixN xs.length k = some j) (q : ∀ H2, Kp [p] H H2 → H2 p = some (.lst (xs.set j v)) → QH H2) : rSetL (.ref p) (.int k) v H QH :=
  g_setL h e (q _ (Kp.refl.wr (List.mem_singleton.mpr rfl)) upd_same)
theorem h_append (h : H p = some (.lst xs)) (hl : xs.length < sizeLine) (q : ∀ H2, Kp [p] H H2 → H2 p = some (.lst (xs ++ [y])) → Q .non H2) : rAppend (.ref p) [y] H Q :=
  ⟨p, xs, y, rfl, rfl, h, hl, q _ (Kp.refl.wr (List.mem_singleton.mpr rfl)) upd_same⟩
theorem g_bm {T : String} {r : V → List V → Hp → VK → Prop} (q : te σ H fun x H1 => tyV K T x H1 ∧ tl σ H1 fun xs H2 => r x xs H2 Q) : tBM K T r te tl σ H Q := q
theorem g_tyL {A : Prop} (h : SqL K H p xs) (q : A) : tyV K "list" (.ref p) H ∧ A := ⟨.inl ⟨rfl, xs, h⟩, q⟩
end
/-! ### one step by the head of what is to be shown -/
class Stp (goal : Prop) (new : outParam Prop) : Prop where
  imp : new → goal
class Getx (σ : St) (i : Nat) (v : outParam V) : Prop where
  get : σ[i]? = some (some v)
class Setx (σ : St) (i : Nat) (v : V) (σ' : outParam St) : Prop where
  set : σ.set i (some v) = σ'
instance gx0 {v : V} {r : List (Option V)} : Getx (some v :: r) 0 v := ⟨rfl⟩
instance sx0 {b : Option V} {v : V} {r : List (Option V)} : Setx (b :: r) 0 v (some v :: r) := ⟨rfl⟩
instance gx1 {a0 : Option V} {v : V} {r : List (Option V)} : Getx (a0 :: some v :: r) 1 v := ⟨rfl⟩
instance sx1 {a0 : Option V} {b : Option V} {v : V} {r : List (Option V)} : Setx (a0 :: b :: r) 1 v (a0 :: some v :: r) := ⟨rfl⟩
instance gx2 {a0 a1 : Option V} {v : V} {r : List (Option V)} : Getx (a0 :: a1 :: some v :: r) 2 v := ⟨rfl⟩
instance sx2 {a0 a1 : Option V} {b : Option V} {v : V} {r : List (Option V)} : Setx (a0 :: a1 :: b :: r) 2 v (a0 :: a1 :: some v :: r) := ⟨rfl⟩
instance gx3 {a0 a1 a2 : Option V} {v : V} {r : List (Option V)} : Getx (a0 :: a1 :: a2 :: some v :: r) 3 v := ⟨rfl⟩
instance sx3 {a0 a1 a2 : Option V} {b : Option V} {v : V} {r : List (Option V)} : Setx (a0 :: a1 :: a2 :: b :: r) 3 v (a0 :: a1 :: a2 :: some v :: r) := ⟨rfl⟩
instance gx4 {a0 a1 a2 a3 : Option V} {v : V} {r : List (Option V)} : Getx (a0 :: a1 :: a2 :: a3 :: some v :: r) 4 v := ⟨rfl⟩
instance sx4 {a0 a1 a2 a3 : Option V} {b : Option V} {v : V} {r : List (Option V)} : Setx (a0 :: a1 :: a2 :: a3 :: b :: r) 4 v (a0 :: a1 :: a2 :: a3 :: some v :: r) := ⟨rfl⟩
instance gx5 {a0 a1 a2 a3 a4 : Option V} {v : V} {r : List (Option V)} : Getx (a0 :: a1 :: a2 :: a3 :: a4 :: some v :: r) 5 v := ⟨rfl⟩
instance sx5 {a0 a1 a2 a3 a4 : Option V} {b : Option V} {v : V} {r : List (Option V)} : Setx (a0 :: a1 :: a2 :: a3 :: a4 :: b :: r) 5 v (a0 :: a1 :: a2 :: a3 :: a4 :: some v :: r) := ⟨rfl⟩
instance gx6 {a0 a1 a2 a3 a4 a5 : Option V} {v : V} {r : List (Option V)} : Getx (a0 :: a1 :: a2 :: a3 :: a4 :: a5 :: some v :: r) 6 v := ⟨rfl⟩
instance sx6 {a0 a1 a2 a3 a4 a5 : Option V} {b : Option V} {v : V} {r : List (Option V)} : Setx (a0 :: a1 :: a2 :: a3 :: a4 :: a5 :: b :: r) 6 v (a0 :: a1 :: a2 :: a3 :: a4 :: a5 :: some v :: r) := ⟨rfl⟩
instance gx7 {a0 a1 a2 a3 a4 a5 a6 : Option V} {v : V} {r : List (Option V)} : Getx (a0 :: a1 :: a2 :: a3 :: a4 :: a5 :: a6 :: some v :: r) 7 v := ⟨rfl⟩
instance sx7 {a0 a1 a2 a3 a4 a5 a6 : Option V} {b : Option V} {v : V} {r : List (Option V)} : Setx (a0 :: a1 :: a2 :: a3 :: a4 :: a5 :: a6 :: b :: r) 7 v (a0 :: a1 :: a2 :: a3 :: a4 :: a5 :: a6 :: some v :: r) := ⟨rfl⟩
instance gx8 {a0 a1 a2 a3 a4 a5 a6 a7 : Option V} {v : V} {r : List (Option V)} : Getx (a0 :: a1 :: a2 :: a3 :: a4 :: a5 :: a6 :: a7 :: some v :: r) 8 v := ⟨rfl⟩
instance sx8 {a0 a1 a2 a3 a4 a5 a6 a7 : Option V} {b : Option V} {v : V} {r : List (Option V)} : Setx (a0 :: a1 :: a2 :: a3 :: a4 :: a5 :: a6 :: a7 :: b :: r) 8 v (a0 :: a1 :: a2 :: a3 :: a4 :: a5 :: a6 :: a7 :: some v :: r) := ⟨rfl⟩
instance gx9 {a0 a1 a2 a3 a4 a5 a6 a7 a8 : Option V} {v : V} {r : List (Option V)} : Getx (a0 :: a1 :: a2 :: a3 :: a4 :: a5 :: a6 :: a7 :: a8 :: some v :: r) 9 v := ⟨rfl⟩
instance sx9 {a0 a1 a2 a3 a4 a5 a6 a7 a8 : Option V} {b : Option V} {v : V} {r : List (Option V)} : Setx (a0 :: a1 :: a2 :: a3 :: a4 :: a5 :: a6 :: a7 :: a8 :: b :: r) 9 v (a0 :: a1 :: a2 :: a3 :: a4 :: a5 :: a6 :: a7 :: a8 :: some v :: r) := ⟨rfl⟩
instance gx10 {a0 a1 a2 a3 a4 a5 a6 a7 a8 a9 : Option V} {v : V} {r : List (Option V)} : Getx (a0 :: a1 :: a2 :: a3 :: a4 :: a5 :: a6 :: a7 :: a8 :: a9 :: some v :: r) 10 v := ⟨rfl⟩
instance sx10 {a0 a1 a2 a3 a4 a5 a6 a7 a8 a9 : Option V} {b : Option V} {v : V} {r : List (Option V)} : Setx (a0 :: a1 :: a2 :: a3 :: a4 :: a5 :: a6 :: a7 :: a8 :: a9 :: b :: r) 10 v (a0 :: a1 :: a2 :: a3 :: a4 :: a5 :: a6 :: a7 :: a8 :: a9 :: some v :: r) := ⟨rfl⟩
instance gx11 {a0 a1 a2 a3 a4 a5 a6 a7 a8 a9 a10 : Option V} {v : V} {r : List (Option V)} : Getx (a0 :: a1 :: a2 :: a3 :: a4 :: a5 :: a6 :: a7 :: a8 :: a9 :: a10 :: some v :: r) 11 v := ⟨rfl⟩
instance sx11 {a0 a1 a2 a3 a4 a5 a6 a7 a8 a9 a10 : Option V} {b : Option V} {v : V} {r : List (Option V)} : Setx (a0 :: a1 :: a2 :: a3 :: a4 :: a5 :: a6 :: a7 :: a8 :: a9 :: a10 :: b :: r) 11 v (a0 :: a1 :: a2 :: a3 :: a4 :: a5 :: a6 :: a7 :: a8 :: a9 :: a10 :: some v :: r) := ⟨rfl⟩
instance gx12 {a0 a1 a2 a3 a4 a5 a6 a7 a8 a9 a10 a11 : Option V} {v : V} {r : List (Option V)} : Getx (a0 :: a1 :: a2 :: a3 :: a4 :: a5 :: a6 :: a7 :: a8 :: a9 :: a10 :: a11 :: some v :: r) 12 v := ⟨rfl⟩
instance sx12 {a0 a1 a2 a3 a4 a5 a6 a7 a8 a9 a10 a11 : Option V} {b : Option V} {v : V} {r : List (Option V)} : Setx (a0 :: a1 :: a2 :: a3 :: a4 :: a5 :: a6 :: a7 :: a8 :: a9 :: a10 :: a11 :: b :: r) 12 v (a0 :: a1 :: a2 :: a3 :: a4 :: a5 :: a6 :: a7 :: a8 :: a9 :: a10 :: a11 :: some v :: r) := ⟨rfl⟩
instance gx13 {a0 a1 a2 a3 a4 a5 a6 a7 a8 a9 a10 a11 a12 : Option V} {v : V} {r : List (Option V)} : Getx (a0 :: a1 :: a2 :: a3 :: a4 :: a5 :: a6 :: a7 :: a8 :: a9 :: a10 :: a11 :: a12 :: some v :: r) 13 v := ⟨rfl⟩
instance sx13 {a0 a1 a2 a3 a4 a5 a6 a7 a8 a9 a10 a11 a12 : Option V} {b : Option V} {v : V} {r : List (Option V)} : Setx (a0 :: a1 :: a2 :: a3 :: a4 :: a5 :: a6 :: a7 :: a8 :: a9 :: a10 :: a11 :: a12 :: b :: r) 13 v (a0 :: a1 :: a2 :: a3 :: a4 :: a5 :: a6 :: a7 :: a8 :: a9 :: a10 :: a11 :: a12 :: some v :: r) := ⟨rfl⟩
instance gx14 {a0 a1 a2 a3 a4 a5 a6 a7 a8 a9 a10 a11 a12 a13 : Option V} {v : V} {r : List (Option V)} : Getx (a0 :: a1 :: a2 :: a3 :: a4 :: a5 :: a6 :: a7 :: a8 :: a9 :: a10 :: a11 :: a12 :: a13 :: some v :: r) 14 v := ⟨rfl⟩
instance sx14 {a0 a1 a2 a3 a4 a5 a6 a7 a8 a9 a10 a11 a12 a13 : Option V} {b : Option V} {v : V} {r : List (Option V)} : Setx (a0 :: a1 :: a2 :: a3 :: a4 :: a5 :: a6 :: a7 :: a8 :: a9 :: a10 :: a11 :: a12 :: a13 :: b :: r) 14 v (a0 :: a1 :: a2 :: a3 :: a4 :: a5 :: a6 :: a7 :: a8 :: a9 :: a10 :: a11 :: a12 :: a13 :: some v :: r) := ⟨rfl⟩
instance gx15 {a0 a1 a2 a3 a4 a5 a6 a7 a8 a9 a10 a11 a12 a13 a14 : Option V} {v : V} {r : List (Option V)} : Getx (a0 :: a1 :: a2 :: a3 :: a4 :: a5 :: a6 :: a7 :: a8 :: a9 :: a10 :: a11 :: a12 :: a13 :: a14 :: some v :: r) 15 v := ⟨rfl⟩
instance sx15 {a0 a1 a2 a3 a4 a5 a6 a7 a8 a9 a10 a11 a12 a13 a14 : Option V} {b : Option V} {v : V} {r : List (Option V)} : Setx (a0 :: a1 :: a2 :: a3 :: a4 :: a5 :: a6 :: a7 :: a8 :: a9 :: a10 :: a11 :: a12 :: a13 :: a14 :: b :: r) 15 v (a0 :: a1 :: a2 :: a3 :: a4 :: a5 :: a6 :: a7 :: a8 :: a9 :: a10 :: a11 :: a12 :: a13 :: a14 :: some v :: r) := ⟨rfl⟩
instance gx16 {a0 a1 a2 a3 a4 a5 a6 a7 a8 a9 a10 a11 a12 a13 a14 a15 : Option V} {v : V} {r : List (Option V)} : Getx (a0 :: a1 :: a2 :: a3 :: a4 :: a5 :: a6 :: a7 :: a8 :: a9 :: a10 :: a11 :: a12 :: a13 :: a14 :: a15 :: some v :: r) 16 v := ⟨rfl⟩
instance sx16 {a0 a1 a2 a3 a4 a5 a6 a7 a8 a9 a10 a11 a12 a13 a14 a15 : Option V} {b : Option V} {v : V} {r : List (Option V)} : Setx (a0 :: a1 :: a2 :: a3 :: a4 :: a5 :: a6 :: a7 :: a8 :: a9 :: a10 :: a11 :: a12 :: a13 :: a14 :: a15 :: b :: r) 16 v (a0 :: a1 :: a2 :: a3 :: a4 :: a5 :: a6 :: a7 :: a8 :: a9 :: a10 :: a11 :: a12 :: a13 :: a14 :: a15 :: some v :: r) := ⟨rfl⟩
instance gx17 {a0 a1 a2 a3 a4 a5 a6 a7 a8 a9 a10 a11 a12 a13 a14 a15 a16 : Option V} {v : V} {r : List (Option V)} : Getx (a0 :: a1 :: a2 :: a3 :: a4 :: a5 :: a6 :: a7 :: a8 :: a9 :: a10 :: a11 :: a12 :: a13 :: a14 :: a15 :: a16 :: some v :: r) 17 v := ⟨rfl⟩
instance sx17 {a0 a1 a2 a3 a4 a5 a6 a7 a8 a9 a10 a11 a12 a13 a14 a15 a16 : Option V} {b : Option V} {v : V} {r : List (Option V)} : Setx (a0 :: a1 :: a2 :: a3 :: a4 :: a5 :: a6 :: a7 :: a8 :: a9 :: a10 :: a11 :: a12 :: a13 :: a14 :: a15 :: a16 :: b :: r) 17 v (a0 :: a1 :: a2 :: a3 :: a4 :: a5 :: a6 :: a7 :: a8 :: a9 :: a10 :: a11 :: a12 :: a13 :: a14 :: a15 :: a16 :: some v :: r) := ⟨rfl⟩
instance gx18 {a0 a1 a2 a3 a4 a5 a6 a7 a8 a9 a10 a11 a12 a13 a14 a15 a16 a17 : Option V} {v : V} {r : List (Option V)} : Getx (a0 :: a1 :: a2 :: a3 :: a4 :: a5 :: a6 :: a7 :: a8 :: a9 :: a10 :: a11 :: a12 :: a13 :: a14 :: a15 :: a16 :: a17 :: some v :: r) 18 v := ⟨rfl⟩
instance sx18 {a0 a1 a2 a3 a4 a5 a6 a7 a8 a9 a10 a11 a12 a13 a14 a15 a16 a17 : Option V} {b : Option V} {v : V} {r : List (Option V)} : Setx (a0 :: a1 :: a2 :: a3 :: a4 :: a5 :: a6 :: a7 :: a8 :: a9 :: a10 :: a11 :: a12 :: a13 :: a14 :: a15 :: a16 :: a17 :: b :: r) 18 v (a0 :: a1 :: a2 :: a3 :: a4 :: a5 :: a6 :: a7 :: a8 :: a9 :: a10 :: a11 :: a12 :: a13 :: a14 :: a15 :: a16 :: a17 :: some v :: r) := ⟨rfl⟩
instance gx19 {a0 a1 a2 a3 a4 a5 a6 a7 a8 a9 a10 a11 a12 a13 a14 a15 a16 a17 a18 : Option V} {v : V} {r : List (Option V)} : Getx (a0 :: a1 :: a2 :: a3 :: a4 :: a5 :: a6 :: a7 :: a8 :: a9 :: a10 :: a11 :: a12 :: a13 :: a14 :: a15 :: a16 :: a17 :: a18 :: some v :: r) 19 v := ⟨rfl⟩
instance sx19 {a0 a1 a2 a3 a4 a5 a6 a7 a8 a9 a10 a11 a12 a13 a14 a15 a16 a17 a18 : Option V} {b : Option V} {v : V} {r : List (Option V)} : Setx (a0 :: a1 :: a2 :: a3 :: a4 :: a5 :: a6 :: a7 :: a8 :: a9 :: a10 :: a11 :: a12 :: a13 :: a14 :: a15 :: a16 :: a17 :: a18 :: b :: r) 19 v (a0 :: a1 :: a2 :: a3 :: a4 :: a5 :: a6 :: a7 :: a8 :: a9 :: a10 :: a11 :: a12 :: a13 :: a14 :: a15 :: a16 :: a17 :: a18 :: some v :: r) := ⟨rfl⟩
instance gx20 {a0 a1 a2 a3 a4 a5 a6 a7 a8 a9 a10 a11 a12 a13 a14 a15 a16 a17 a18 a19 : Option V} {v : V} {r : List (Option V)} : Getx (a0 :: a1 :: a2 :: a3 :: a4 :: a5 :: a6 :: a7 :: a8 :: a9 :: a10 :: a11 :: a12 :: a13 :: a14 :: a15 :: a16 :: a17 :: a18 :: a19 :: some v :: r) 20 v := ⟨rfl⟩
instance sx20 {a0 a1 a2 a3 a4 a5 a6 a7 a8 a9 a10 a11 a12 a13 a14 a15 a16 a17 a18 a19 : Option V} {b : Option V} {v : V} {r : List (Option V)} : Setx (a0 :: a1 :: a2 :: a3 :: a4 :: a5 :: a6 :: a7 :: a8 :: a9 :: a10 :: a11 :: a12 :: a13 :: a14 :: a15 :: a16 :: a17 :: a18 :: a19 :: b :: r) 20 v (a0 :: a1 :: a2 :: a3 :: a4 :: a5 :: a6 :: a7 :: a8 :: a9 :: a10 :: a11 :: a12 :: a13 :: a14 :: a15 :: a16 :: a17 :: a18 :: a19 :: some v :: r) := ⟨rfl⟩
instance gx21 {a0 a1 a2 a3 a4 a5 a6 a7 a8 a9 a10 a11 a12 a13 a14 a15 a16 a17 a18 a19 a20 : Option V} {v : V} {r : List (Option V)} : Getx (a0 :: a1 :: a2 :: a3 :: a4 :: a5 :: a6 :: a7 :: a8 :: a9 :: a10 :: a11 :: a12 :: a13 :: a14 :: a15 :: a16 :: a17 :: a18 :: a19 :: a20 :: some v :: r) 21 v := ⟨rfl⟩
instance sx21 {a0 a1 a2 a3 a4 a5 a6 a7 a8 a9 a10 a11 a12 a13 a14 a15 a16 a17 a18 a19 a20 : Option V} {b : Option V} {v : V} {r : List (Option V)} : Setx (a0 :: a1 :: a2 :: a3 :: a4 :: a5 :: a6 :: a7 :: a8 :: a9 :: a10 :: a11 :: a12 :: a13 :: a14 :: a15 :: a16 :: a17 :: a18 :: a19 :: a20 :: b :: r) 21 v (a0 :: a1 :: a2 :: a3 :: a4 :: a5 :: a6 :: a7 :: a8 :: a9 :: a10 :: a11 :: a12 :: a13 :: a14 :: a15 :: a16 :: a17 :: a18 :: a19 :: a20 :: some v :: r) := ⟨rfl⟩
instance gx22 {a0 a1 a2 a3 a4 a5 a6 a7 a8 a9 a10 a11 a12 a13 a14 a15 a16 a17 a18 a19 a20 a21 : Option V} {v : V} {r : List (Option V)} : Getx (a0 :: a1 :: a2 :: a3 :: a4 :: a5 :: a6 :: a7 :: a8 :: a9 :: a10 :: a11 :: a12 :: a13 :: a14 :: a15 :: a16 :: a17 :: a18 :: a19 :: a20 :: a21 :: some v :: r) 22 v := ⟨rfl⟩
instance sx22 {a0 a1 a2 a3 a4 a5 a6 a7 a8 a9 a10 a11 a12 a13 a14 a15 a16 a17 a18 a19 a20 a21 : Option V} {b : Option V} {v : V} {r : List (Option V)} : Setx (a0 :: a1 :: a2 :: a3 :: a4 :: a5 :: a6 :: a7 :: a8 :: a9 :: a10 :: a11 :: a12 :: a13 :: a14 :: a15 :: a16 :: a17 :: a18 :: a19 :: a20 :: a21 :: b :: r) 22 v (a0 :: a1 :: a2 :: a3 :: a4 :: a5 :: a6 :: a7 :: a8 :: a9 :: a10 :: a11 :: a12 :: a13 :: a14 :: a15 :: a16 :: a17 :: a18 :: a19 :: a20 :: a21 :: some v :: r) := ⟨rfl⟩
instance gx23 {a0 a1 a2 a3 a4 a5 a6 a7 a8 a9 a10 a11 a12 a13 a14 a15 a16 a17 a18 a19 a20 a21 a22 : Option V} {v : V} {r : List (Option V)} : Getx (a0 :: a1 :: a2 :: a3 :: a4 :: a5 :: a6 :: a7 :: a8 :: a9 :: a10 :: a11 :: a12 :: a13 :: a14 :: a15 :: a16 :: a17 :: a18 :: a19 :: a20 :: a21 :: a22 :: some v :: r) 23 v := ⟨rfl⟩
instance sx23 {a0 a1 a2 a3 a4 a5 a6 a7 a8 a9 a10 a11 a12 a13 a14 a15 a16 a17 a18 a19 a20 a21 a22 : Option V} {b : Option V} {v : V} {r : List (Option V)} : Setx (a0 :: a1 :: a2 :: a3 :: a4 :: a5 :: a6 :: a7 :: a8 :: a9 :: a10 :: a11 :: a12 :: a13 :: a14 :: a15 :: a16 :: a17 :: a18 :: a19 :: a20 :: a21 :: a22 :: b :: r) 23 v (a0 :: a1 :: a2 :: a3 :: a4 :: a5 :: a6 :: a7 :: a8 :: a9 :: a10 :: a11 :: a12 :: a13 :: a14 :: a15 :: a16 :: a17 :: a18 :: a19 :: a20 :: a21 :: a22 :: some v :: r) := ⟨rfl⟩
section
variable {σ σ' : St} {H : Hp} {Q : VK} {QB : Bool → Hp → Prop} {QA : List V → Hp → Prop} {v x y : V} {i j : Nat} {a b : Int} {ta tb te : TE} {t u : TT} {D : Ends} {s1 s2 s3 : TS} {tl tr : TA} {r : R2} {K : PySem.W.Frag} {p : Addr} {xs ys : List V} {rc : RCl} {c : Bool} {wi : TI} {g : TG}
class NotIf (s : TS) : Prop where
  ok : True
instance ni_asg : NotIf (tAsg te g) := ⟨trivial⟩
instance ni_drop : NotIf (tDrop te) := ⟨trivial⟩
instance ni_ret : NotIf (tRet te) := ⟨trivial⟩
instance ni_retN : NotIf (tRetN) := ⟨trivial⟩
instance ni_for : NotIf (tFor wi g s1) := ⟨trivial⟩
instance ni_while : NotIf (tWhile t s1) := ⟨trivial⟩
instance ni_next : NotIf (tNext) := ⟨trivial⟩
instance ni_aug {ti : TIp} : NotIf (tAug i te ti) := ⟨trivial⟩
instance ni_par : NotIf (tPar i j tl) := ⟨trivial⟩
instance ni_seq : NotIf (tSeq s1 s2) := ⟨trivial⟩
instance ni_never : NotIf (tNever) := ⟨trivial⟩
instance ni_fld {f : Str} : NotIf (sFld K ta te f) := ⟨trivial⟩
instance ni_brk : NotIf (tBreak) := ⟨trivial⟩
instance ni_ct : NotIf (tCont) := ⟨trivial⟩
instance p_seq [NotIf s1] : Stp (tSeq s1 s2 D σ H) (s1 { D with nx := s2 D } σ H) := ⟨fun q => q⟩
instance p_asg : Stp (tAsg te g D σ H) (te σ H fun x H1 => g x σ H1 D.nx) := ⟨fun q => q⟩
instance p_drop : Stp (tDrop te D σ H) (te σ H fun _ H1 => D.nx σ H1) := ⟨fun q => q⟩
instance p_ret : Stp (tRet te D σ H) (te σ H D.rt) := ⟨fun q => q⟩
instance p_retN : Stp (tRetN D σ H) (D.rt .non H) := ⟨fun q => q⟩
instance p_next : Stp (tNext D σ H) (D.nx σ H) := ⟨fun q => q⟩
instance p_brk : Stp (tBreak D σ H) (D.bk σ H) := ⟨fun q => q⟩
instance p_ct : Stp (tCont D σ H) (D.ct σ H) := ⟨fun q => q⟩
instance p_ifS : Stp (tIfS t s1 s2 D σ H) (t σ H fun b H1 => if b = true then s1 D σ H1 else s2 D σ H1) := ⟨fun q => q⟩
instance p_name {QS : St → Hp → Prop} [S : Setx σ i v σ'] : Stp (gName i v σ H QS) (QS σ' H) := ⟨fun q => by have e := S.set; subst e; exact q⟩
instance p_sub {to ti : TE} {ts : TSet} {QS : St → Hp → Prop} : Stp (gSub to ti ts v σ H QS) (to σ H fun o H1 => ti σ H1 fun i H2 => ts o i v H2 fun H3 => QS σ H3) := ⟨fun q => q⟩
instance p_aug {ti : TIp} [G : Getx σ i x] : Stp (tAug i te ti D σ H) (te σ H fun y H1 => ti x y H1 fun z H2 => D.nx (σ.set i (some z)) H2) := ⟨fun q => ⟨x, G.get, q⟩⟩
instance p_ipI {f : Int → Int → Int} : Stp (ipI f (.int a) (.int b) H Q) (Q (.int (f a b)) H) := ⟨fun q => ⟨a, b, rfl, rfl, q⟩⟩
instance p_par : Stp (tPar i j tl D σ H) (tl σ H fun vs H1 => ∃ v w, vs = [v, w] ∧ D.nx ((σ.set i (some v)).set j (some w)) H1) := ⟨fun q => q⟩
instance p_var [G : Getx σ i v] : Stp (tVar i σ H Q) (Q v H) := ⟨fun q => ⟨v, G.get, q⟩⟩
instance p_c : Stp (tC v σ H Q) (Q v H) := ⟨fun q => q⟩
instance p_op : Stp (tOp r ta tb σ H Q) (ta σ H fun x H1 => tb σ H1 fun y H2 => r x y H2 Q) := ⟨fun q => q⟩
instance p_un {r : V → Hp → VK → Prop} : Stp (tUn r ta σ H Q) (ta σ H fun x H1 => r x H1 Q) := ⟨fun q => q⟩
instance p_neg : Stp (rU (fun i => .int (-i)) (.int a) H Q) (Q (.int (-a)) H) := ⟨fun q => ⟨a, rfl, q⟩⟩
instance p_I0 {g : Int → Int → V} : Stp (rI0 g (.int a) (.int b) H Q) (Q (g a b) H) := ⟨fun q => ⟨a, b, rfl, rfl, q⟩⟩
instance p_eqI : Stp (rEq (.int a) (.int b) H Q) (Q (.bl (decide (a = b))) H) := ⟨g_eqI⟩
instance p_neI : Stp (rNe (.int a) (.int b) H Q) (Q (.bl (!decide (a = b))) H) := ⟨g_neI⟩
instance p_test : Stp (tTest te σ H QB) (te σ H fun x H1 => ∃ k, x = .bl k ∧ QB k H1) := ⟨fun q => q⟩
instance p_tb : Stp (tB te σ H QB) (te σ H fun x H1 => ∃ k, x = .bl k ∧ QB k H1) := ⟨fun q => q⟩
instance p_bl {b : Bool} {P : Bool → Prop} : Stp (∃ k, V.bl b = .bl k ∧ P k) (P b) := ⟨fun q => ⟨b, rfl, q⟩⟩
instance p_int {P : Int → Prop} : Stp (∃ k, V.int a = .int k ∧ P k) (P a) := ⟨fun q => ⟨a, rfl, q⟩⟩
instance p_vw {P : V → V → Prop} : Stp (∃ v w, [x, y] = [v, w] ∧ P v w) (P x y) := ⟨fun q => ⟨x, y, rfl, q⟩⟩
instance p_and : Stp (tAnd t u σ H QB) (t σ H fun c H1 => if c = true then u σ H1 QB else QB false H1) := ⟨fun q => q⟩
instance p_or : Stp (tOr t u σ H QB) (t σ H fun c H1 => if c = true then QB true H1 else u σ H1 QB) := ⟨fun q => q⟩
instance p_not : Stp (tNot t σ H QB) (t σ H fun c H1 => QB (!c) H1) := ⟨fun q => q⟩
instance p_andV : Stp (tAndV ta tb σ H Q) (ta σ H fun x H1 => ∃ c, x = .bl c ∧ if c = true then tb σ H1 Q else Q (.bl false) H1) := ⟨fun q => q⟩
instance p_orV : Stp (tOrV ta tb σ H Q) (ta σ H fun x H1 => ∃ c, x = .bl c ∧ if c = true then Q (.bl true) H1 else tb σ H1 Q) := ⟨fun q => q⟩
instance p_notV : Stp (tNotV ta σ H Q) (ta σ H fun x H1 => ∃ c, x = .bl c ∧ Q (.bl (!c)) H1) := ⟨fun q => q⟩
instance p_if : Stp (tIf t ta tb σ H Q) (t σ H fun c H1 => if c = true then ta σ H1 Q else tb σ H1 Q) := ⟨fun q => q⟩
instance p_nil : Stp (tNil σ H QA) (QA [] H) := ⟨fun q => q⟩
instance p_cons : Stp (tCons te tr σ H QA) (te σ H fun x H1 => tr σ H1 fun xs H2 => QA (x :: xs) H2) := ⟨fun q => q⟩
instance p_tup : Stp (tTup tl σ H Q) (tl σ H fun xs H1 => xs.length ≤ sizeLine ∧ ∀ p, H1 p = none → Q (.ref p) (upd H1 p (.tup xs))) := ⟨fun q => q⟩
instance p_lst : Stp (tLst tl σ H Q) (tl σ H fun xs H1 => xs.length ≤ sizeLine ∧ ∀ p, H1 p = none → Q (.ref p) (upd H1 p (.lst xs))) := ⟨fun q => q⟩
instance p_cb : Stp (tCB rc tl σ H Q) (tl σ H fun vs H1 => rc vs H1 Q) := ⟨fun q => q⟩
instance p_max2 : Stp (rMax2 [.int a, .int b] H Q) (Q (.int (if b > a then b else a)) H) := ⟨fun q => ⟨a, b, rfl, q⟩⟩
instance p_min2 : Stp (rMin2 [.int a, .int b] H Q) (Q (.int (if b < a then b else a)) H) := ⟨fun q => ⟨a, b, rfl, q⟩⟩
instance p_abs : Stp (rAbs [.int a] H Q) (Q (.int (if a < 0 then -a else a)) H) := ⟨fun q => ⟨a, rfl, q⟩⟩
instance p_int1b : Stp (rInt1 [.bl c] H Q) (Q (.int (if c then 1 else 0)) H) := ⟨fun q => .inr ⟨c, rfl, q⟩⟩
instance p_int1i : Stp (rInt1 [.int a] H Q) (Q (.int a) H) := ⟨fun q => .inl ⟨a, rfl, q⟩⟩
instance p_isN : Stp (rIsN x .non H Q) (Q (.bl (decide (x = .non))) H) := ⟨fun q => ⟨rfl, q⟩⟩
instance p_notN : Stp (rNotN x .non H Q) (Q (.bl (!decide (x = .non))) H) := ⟨fun q => ⟨rfl, q⟩⟩
instance p_sl {r : V → Option Int → Option Int → Hp → VK → Prop} {lo hi : TO} : Stp (tSl r te lo hi σ H Q) (te σ H fun x H1 => lo σ H1 fun l H2 => hi σ H2 fun u H3 => r x l u H3 Q) := ⟨fun q => q⟩
instance p_nopart {QO : Option Int → Hp → Prop} : Stp (tNoPart σ H QO) (QO none H) := ⟨fun q => q⟩
instance p_part {QO : Option Int → Hp → Prop} : Stp (tPart te σ H QO) (te σ H fun x H1 => ∃ i, x = .int i ∧ QO (some i) H1) := ⟨fun q => q⟩
instance p_call {sp : Sp} {dvs : List V} {E : XK} : Stp (tCall sp dvs E tl σ H Q) (tl σ H fun vs H1 => sp (vs ++ dvs) H1 Q E) := ⟨fun q => q⟩
instance p_callP {n : Nat} {pi : List Nat} {sp : Sp} {E : XK} : Stp (tCallP n pi sp E tl σ H Q) (tl σ H fun zs H2 => zs.length = n ∧ sp (perm pi zs) H2 Q E) := ⟨fun q => q⟩
instance p_for {tb : TS} : Stp (tFor wi g tb D σ H) (wi σ H fun J H1 => ∃ W : Nat → Nat → St → Hp → Prop, (∃ m, W 0 m σ H1) ∧ ∀ i m σ H, W i m σ H →
  (J.stop i H ∧ D.nx σ H) ∨ (J.go i H ∧ ∃ N : St → Hp → Prop, (∀ σ' H', N σ' H' → ∃ m', m' < m ∧ W (i + 1) m' σ' H') ∧ ∀ x H', J.yld i H x H' → g x σ H' fun σ2 H2 => tb { D with nx := N, ct := N, bk := D.nx } σ2 H2)) := ⟨fun q => q⟩
instance p_iList {R : It → Hp → Prop} : Stp (iList K te σ H R) (te σ H fun x H1 => ∃ a, x = .ref a ∧ (∃ xs, SqL K H1 a xs) ∧ R (Itl K a) H1) := ⟨fun q => q⟩
instance p_iRng1 {R : It → Hp → Prop} : Stp (iRng1 tl σ H R) (tl σ H fun vs H1 => ∃ j : Int, vs = [.int j] ∧ -(2 ^ 62) ≤ j ∧ j < 2 ^ 62 ∧ R (Itr 0 j.toNat) H1) := ⟨fun q => q⟩
instance p_iRng2 {R : It → Hp → Prop} : Stp (iRng2 tl σ H R) (tl σ H fun vs H1 => ∃ i j : Int, vs = [.int i, .int j] ∧ (-(2 ^ 62) ≤ i ∧ i < 2 ^ 62 ∧ -(2 ^ 62) ≤ j ∧ j < 2 ^ 62) ∧ R (Itr i (j - i).toNat) H1) := ⟨fun q => q⟩
instance p_lc {tt : TT} {vs : List Nat} : Stp (tLc wi g tt te vs σ H Q) (wi σ H fun J H1 => ∀ D, H1 D = none → ∃ W : Nat → Nat → Hp → Prop, (∃ m, W 0 m (upd H1 D (.lst []))) ∧ ∀ i m H, W i m H →
  (J.stop i H ∧ Q (.ref D) H) ∨ (J.go i H ∧ ∃ Nx : Hp → Prop, (∀ H', Nx H' → ∃ m', m' < m ∧ W (i + 1) m' H') ∧ ∀ x H', J.yld i H x H' → g x (wipe σ vs) H' fun σ2 H2 => wipe σ2 vs = wipe σ vs ∧ tt σ2 H2 fun b H3 =>
    if b = true then te σ2 H3 fun y H4 => ∃ acc, H4 D = some (.lst acc) ∧ acc.length < sizeLine ∧ Nx (upd H4 D (.lst (acc ++ [y]))) else Nx H3)) := ⟨fun q => q⟩
instance p_yes : Stp (tYes σ H QB) (QB true H) := ⟨fun q => q⟩
instance p_itT {A B : Prop} : Stp (if true = true then A else B) A := ⟨fun q => q⟩
instance p_itF {A B : Prop} : Stp (if false = true then A else B) B := ⟨fun q => q⟩
instance p_itNT {A B : Prop} : Stp (if (!true) = true then A else B) B := ⟨fun q => q⟩
instance p_itNF {A B : Prop} : Stp (if (!false) = true then A else B) A := ⟨fun q => q⟩
instance p_bm {T : String} {r : V → List V → Hp → VK → Prop} : Stp (tBM K T r te tl σ H Q) (te σ H fun x H1 => tyV K T x H1 ∧ tl σ H1 fun xs H2 => r x xs H2 Q) := ⟨fun q => q⟩
end
/-- behind S-steps a T-step: what T writes is S's or new -/
theorem Kp.step {S T : List Addr} {H H1 H2 : Hp} (a : Kp S H H1) (b : Kp T H1 H2) (h : ∀ x ∈ T, x ∈ S ∨ H x = none) : Kp S H H2 := fun c o e n => b c o (a c o e n) fun z => by
  rcases h c z with q | q
  · exact n q
  · rw [q] at e; cases e
theorem set_0 {α : Type} {a0 v : α} {r : List α} : (a0 :: r).set 0 v = v :: r := rfl
theorem set_1 {α : Type} {a0 a1 v : α} {r : List α} : (a0 :: a1 :: r).set 1 v = a0 :: v :: r := rfl
theorem set_2 {α : Type} {a0 a1 a2 v : α} {r : List α} : (a0 :: a1 :: a2 :: r).set 2 v = a0 :: a1 :: v :: r := rfl
theorem set_3 {α : Type} {a0 a1 a2 a3 v : α} {r : List α} : (a0 :: a1 :: a2 :: a3 :: r).set 3 v = a0 :: a1 :: a2 :: v :: r := rfl
theorem set_4 {α : Type} {a0 a1 a2 a3 a4 v : α} {r : List α} : (a0 :: a1 :: a2 :: a3 :: a4 :: r).set 4 v = a0 :: a1 :: a2 :: a3 :: v :: r := rfl
theorem set_5 {α : Type} {a0 a1 a2 a3 a4 a5 v : α} {r : List α} : (a0 :: a1 :: a2 :: a3 :: a4 :: a5 :: r).set 5 v = a0 :: a1 :: a2 :: a3 :: a4 :: v :: r := rfl
theorem set_6 {α : Type} {a0 a1 a2 a3 a4 a5 a6 v : α} {r : List α} : (a0 :: a1 :: a2 :: a3 :: a4 :: a5 :: a6 :: r).set 6 v = a0 :: a1 :: a2 :: a3 :: a4 :: a5 :: v :: r := rfl
theorem set_7 {α : Type} {a0 a1 a2 a3 a4 a5 a6 a7 v : α} {r : List α} : (a0 :: a1 :: a2 :: a3 :: a4 :: a5 :: a6 :: a7 :: r).set 7 v = a0 :: a1 :: a2 :: a3 :: a4 :: a5 :: a6 :: v :: r := rfl
theorem set_8 {α : Type} {a0 a1 a2 a3 a4 a5 a6 a7 a8 v : α} {r : List α} : (a0 :: a1 :: a2 :: a3 :: a4 :: a5 :: a6 :: a7 :: a8 :: r).set 8 v = a0 :: a1 :: a2 :: a3 :: a4 :: a5 :: a6 :: a7 :: v :: r := rfl
theorem set_9 {α : Type} {a0 a1 a2 a3 a4 a5 a6 a7 a8 a9 v : α} {r : List α} : (a0 :: a1 :: a2 :: a3 :: a4 :: a5 :: a6 :: a7 :: a8 :: a9 :: r).set 9 v = a0 :: a1 :: a2 :: a3 :: a4 :: a5 :: a6 :: a7 :: a8 :: v :: r := rfl
theorem set_10 {α : Type} {a0 a1 a2 a3 a4 a5 a6 a7 a8 a9 a10 v : α} {r : List α} : (a0 :: a1 :: a2 :: a3 :: a4 :: a5 :: a6 :: a7 :: a8 :: a9 :: a10 :: r).set 10 v = a0 :: a1 :: a2 :: a3 :: a4 :: a5 :: a6 :: a7 :: a8 :: a9 :: v :: r := rfl
theorem set_11 {α : Type} {a0 a1 a2 a3 a4 a5 a6 a7 a8 a9 a10 a11 v : α} {r : List α} : (a0 :: a1 :: a2 :: a3 :: a4 :: a5 :: a6 :: a7 :: a8 :: a9 :: a10 :: a11 :: r).set 11 v = a0 :: a1 :: a2 :: a3 :: a4 :: a5 :: a6 :: a7 :: a8 :: a9 :: a10 :: v :: r := rfl
theorem set_12 {α : Type} {a0 a1 a2 a3 a4 a5 a6 a7 a8 a9 a10 a11 a12 v : α} {r : List α} : (a0 :: a1 :: a2 :: a3 :: a4 :: a5 :: a6 :: a7 :: a8 :: a9 :: a10 :: a11 :: a12 :: r).set 12 v = a0 :: a1 :: a2 :: a3 :: a4 :: a5 :: a6 :: a7 :: a8 :: a9 :: a10 :: a11 :: v :: r := rfl
theorem set_13 {α : Type} {a0 a1 a2 a3 a4 a5 a6 a7 a8 a9 a10 a11 a12 a13 v : α} {r : List α} : (a0 :: a1 :: a2 :: a3 :: a4 :: a5 :: a6 :: a7 :: a8 :: a9 :: a10 :: a11 :: a12 :: a13 :: r).set 13 v = a0 :: a1 :: a2 :: a3 :: a4 :: a5 :: a6 :: a7 :: a8 :: a9 :: a10 :: a11 :: a12 :: v :: r := rfl
theorem set_14 {α : Type} {a0 a1 a2 a3 a4 a5 a6 a7 a8 a9 a10 a11 a12 a13 a14 v : α} {r : List α} : (a0 :: a1 :: a2 :: a3 :: a4 :: a5 :: a6 :: a7 :: a8 :: a9 :: a10 :: a11 :: a12 :: a13 :: a14 :: r).set 14 v = a0 :: a1 :: a2 :: a3 :: a4 :: a5 :: a6 :: a7 :: a8 :: a9 :: a10 :: a11 :: a12 :: a13 :: v :: r := rfl
theorem set_15 {α : Type} {a0 a1 a2 a3 a4 a5 a6 a7 a8 a9 a10 a11 a12 a13 a14 a15 v : α} {r : List α} : (a0 :: a1 :: a2 :: a3 :: a4 :: a5 :: a6 :: a7 :: a8 :: a9 :: a10 :: a11 :: a12 :: a13 :: a14 :: a15 :: r).set 15 v = a0 :: a1 :: a2 :: a3 :: a4 :: a5 :: a6 :: a7 :: a8 :: a9 :: a10 :: a11 :: a12 :: a13 :: a14 :: v :: r := rfl
theorem set_16 {α : Type} {a0 a1 a2 a3 a4 a5 a6 a7 a8 a9 a10 a11 a12 a13 a14 a15 a16 v : α} {r : List α} : (a0 :: a1 :: a2 :: a3 :: a4 :: a5 :: a6 :: a7 :: a8 :: a9 :: a10 :: a11 :: a12 :: a13 :: a14 :: a15 :: a16 :: r).set 16 v = a0 :: a1 :: a2 :: a3 :: a4 :: a5 :: a6 :: a7 :: a8 :: a9 :: a10 :: a11 :: a12 :: a13 :: a14 :: a15 :: v :: r := rfl
theorem set_17 {α : Type} {a0 a1 a2 a3 a4 a5 a6 a7 a8 a9 a10 a11 a12 a13 a14 a15 a16 a17 v : α} {r : List α} : (a0 :: a1 :: a2 :: a3 :: a4 :: a5 :: a6 :: a7 :: a8 :: a9 :: a10 :: a11 :: a12 :: a13 :: a14 :: a15 :: a16 :: a17 :: r).set 17 v = a0 :: a1 :: a2 :: a3 :: a4 :: a5 :: a6 :: a7 :: a8 :: a9 :: a10 :: a11 :: a12 :: a13 :: a14 :: a15 :: a16 :: v :: r := rfl
theorem set_18 {α : Type} {a0 a1 a2 a3 a4 a5 a6 a7 a8 a9 a10 a11 a12 a13 a14 a15 a16 a17 a18 v : α} {r : List α} : (a0 :: a1 :: a2 :: a3 :: a4 :: a5 :: a6 :: a7 :: a8 :: a9 :: a10 :: a11 :: a12 :: a13 :: a14 :: a15 :: a16 :: a17 :: a18 :: r).set 18 v = a0 :: a1 :: a2 :: a3 :: a4 :: a5 :: a6 :: a7 :: a8 :: a9 :: a10 :: a11 :: a12 :: a13 :: a14 :: a15 :: a16 :: a17 :: v :: r := rfl
theorem set_19 {α : Type} {a0 a1 a2 a3 a4 a5 a6 a7 a8 a9 a10 a11 a12 a13 a14 a15 a16 a17 a18 a19 v : α} {r : List α} : (a0 :: a1 :: a2 :: a3 :: a4 :: a5 :: a6 :: a7 :: a8 :: a9 :: a10 :: a11 :: a12 :: a13 :: a14 :: a15 :: a16 :: a17 :: a18 :: a19 :: r).set 19 v = a0 :: a1 :: a2 :: a3 :: a4 :: a5 :: a6 :: a7 :: a8 :: a9 :: a10 :: a11 :: a12 :: a13 :: a14 :: a15 :: a16 :: a17 :: a18 :: v :: r := rfl
theorem set_20 {α : Type} {a0 a1 a2 a3 a4 a5 a6 a7 a8 a9 a10 a11 a12 a13 a14 a15 a16 a17 a18 a19 a20 v : α} {r : List α} : (a0 :: a1 :: a2 :: a3 :: a4 :: a5 :: a6 :: a7 :: a8 :: a9 :: a10 :: a11 :: a12 :: a13 :: a14 :: a15 :: a16 :: a17 :: a18 :: a19 :: a20 :: r).set 20 v = a0 :: a1 :: a2 :: a3 :: a4 :: a5 :: a6 :: a7 :: a8 :: a9 :: a10 :: a11 :: a12 :: a13 :: a14 :: a15 :: a16 :: a17 :: a18 :: a19 :: v :: r := rfl
theorem set_21 {α : Type} {a0 a1 a2 a3 a4 a5 a6 a7 a8 a9 a10 a11 a12 a13 a14 a15 a16 a17 a18 a19 a20 a21 v : α} {r : List α} : (a0 :: a1 :: a2 :: a3 :: a4 :: a5 :: a6 :: a7 :: a8 :: a9 :: a10 :: a11 :: a12 :: a13 :: a14 :: a15 :: a16 :: a17 :: a18 :: a19 :: a20 :: a21 :: r).set 21 v = a0 :: a1 :: a2 :: a3 :: a4 :: a5 :: a6 :: a7 :: a8 :: a9 :: a10 :: a11 :: a12 :: a13 :: a14 :: a15 :: a16 :: a17 :: a18 :: a19 :: a20 :: v :: r := rfl
theorem set_22 {α : Type} {a0 a1 a2 a3 a4 a5 a6 a7 a8 a9 a10 a11 a12 a13 a14 a15 a16 a17 a18 a19 a20 a21 a22 v : α} {r : List α} : (a0 :: a1 :: a2 :: a3 :: a4 :: a5 :: a6 :: a7 :: a8 :: a9 :: a10 :: a11 :: a12 :: a13 :: a14 :: a15 :: a16 :: a17 :: a18 :: a19 :: a20 :: a21 :: a22 :: r).set 22 v = a0 :: a1 :: a2 :: a3 :: a4 :: a5 :: a6 :: a7 :: a8 :: a9 :: a10 :: a11 :: a12 :: a13 :: a14 :: a15 :: a16 :: a17 :: a18 :: a19 :: a20 :: a21 :: v :: r := rfl
theorem set_23 {α : Type} {a0 a1 a2 a3 a4 a5 a6 a7 a8 a9 a10 a11 a12 a13 a14 a15 a16 a17 a18 a19 a20 a21 a22 a23 v : α} {r : List α} : (a0 :: a1 :: a2 :: a3 :: a4 :: a5 :: a6 :: a7 :: a8 :: a9 :: a10 :: a11 :: a12 :: a13 :: a14 :: a15 :: a16 :: a17 :: a18 :: a19 :: a20 :: a21 :: a22 :: a23 :: r).set 23 v = a0 :: a1 :: a2 :: a3 :: a4 :: a5 :: a6 :: a7 :: a8 :: a9 :: a10 :: a11 :: a12 :: a13 :: a14 :: a15 :: a16 :: a17 :: a18 :: a19 :: a20 :: a21 :: a22 :: v :: r := rfl
theorem at_0 {x0 : V} {r : List V} : atI (x0 :: r) 0 = some x0 := atI_nat (j := 0) rfl
theorem at_1 {x0 x1 : V} {r : List V} : atI (x0 :: x1 :: r) 1 = some x1 := atI_nat (j := 1) rfl
theorem at_2 {x0 x1 x2 : V} {r : List V} : atI (x0 :: x1 :: x2 :: r) 2 = some x2 := atI_nat (j := 2) rfl
theorem at_3 {x0 x1 x2 x3 : V} {r : List V} : atI (x0 :: x1 :: x2 :: x3 :: r) 3 = some x3 := atI_nat (j := 3) rfl
theorem at_4 {x0 x1 x2 x3 x4 : V} {r : List V} : atI (x0 :: x1 :: x2 :: x3 :: x4 :: r) 4 = some x4 := atI_nat (j := 4) rfl
theorem at_5 {x0 x1 x2 x3 x4 x5 : V} {r : List V} : atI (x0 :: x1 :: x2 :: x3 :: x4 :: x5 :: r) 5 = some x5 := atI_nat (j := 5) rfl
theorem at_6 {x0 x1 x2 x3 x4 x5 x6 : V} {r : List V} : atI (x0 :: x1 :: x2 :: x3 :: x4 :: x5 :: x6 :: r) 6 = some x6 := atI_nat (j := 6) rfl
theorem at_7 {x0 x1 x2 x3 x4 x5 x6 x7 : V} {r : List V} : atI (x0 :: x1 :: x2 :: x3 :: x4 :: x5 :: x6 :: x7 :: r) 7 = some x7 := atI_nat (j := 7) rfl
theorem at_8 {x0 x1 x2 x3 x4 x5 x6 x7 x8 : V} {r : List V} : atI (x0 :: x1 :: x2 :: x3 :: x4 :: x5 :: x6 :: x7 :: x8 :: r) 8 = some x8 := atI_nat (j := 8) rfl
theorem at_9 {x0 x1 x2 x3 x4 x5 x6 x7 x8 x9 : V} {r : List V} : atI (x0 :: x1 :: x2 :: x3 :: x4 :: x5 :: x6 :: x7 :: x8 :: x9 :: r) 9 = some x9 := atI_nat (j := 9) rfl
theorem at_10 {x0 x1 x2 x3 x4 x5 x6 x7 x8 x9 x10 : V} {r : List V} : atI (x0 :: x1 :: x2 :: x3 :: x4 :: x5 :: x6 :: x7 :: x8 :: x9 :: x10 :: r) 10 = some x10 := atI_nat (j := 10) rfl
theorem at_11 {x0 x1 x2 x3 x4 x5 x6 x7 x8 x9 x10 x11 : V} {r : List V} : atI (x0 :: x1 :: x2 :: x3 :: x4 :: x5 :: x6 :: x7 :: x8 :: x9 :: x10 :: x11 :: r) 11 = some x11 := atI_nat (j := 11) rfl
theorem at_12 {x0 x1 x2 x3 x4 x5 x6 x7 x8 x9 x10 x11 x12 : V} {r : List V} : atI (x0 :: x1 :: x2 :: x3 :: x4 :: x5 :: x6 :: x7 :: x8 :: x9 :: x10 :: x11 :: x12 :: r) 12 = some x12 := atI_nat (j := 12) rfl
theorem at_13 {x0 x1 x2 x3 x4 x5 x6 x7 x8 x9 x10 x11 x12 x13 : V} {r : List V} : atI (x0 :: x1 :: x2 :: x3 :: x4 :: x5 :: x6 :: x7 :: x8 :: x9 :: x10 :: x11 :: x12 :: x13 :: r) 13 = some x13 := atI_nat (j := 13) rfl
theorem at_14 {x0 x1 x2 x3 x4 x5 x6 x7 x8 x9 x10 x11 x12 x13 x14 : V} {r : List V} : atI (x0 :: x1 :: x2 :: x3 :: x4 :: x5 :: x6 :: x7 :: x8 :: x9 :: x10 :: x11 :: x12 :: x13 :: x14 :: r) 14 = some x14 := atI_nat (j := 14) rfl
theorem at_15 {x0 x1 x2 x3 x4 x5 x6 x7 x8 x9 x10 x11 x12 x13 x14 x15 : V} {r : List V} : atI (x0 :: x1 :: x2 :: x3 :: x4 :: x5 :: x6 :: x7 :: x8 :: x9 :: x10 :: x11 :: x12 :: x13 :: x14 :: x15 :: r) 15 = some x15 := atI_nat (j := 15) rfl
theorem c_mulL {i j : Int} (h1 : -18446744073709551616 < i) (h2 : i < 18446744073709551616) : CMul i j := Or.inl ⟨h1, h2⟩
theorem c_mulR {i j : Int} (h1 : -18446744073709551616 < j) (h2 : j < 18446744073709551616) : CMul i j := Or.inr ⟨h1, h2⟩
theorem c_mulB {i : Int} {c : Bool} : CMul i (if c then 1 else 0) := by cases c <;> exact Or.inr ⟨by decide, by decide⟩
theorem pow2_le {n m : Nat} (h : n ≤ m) : (2 : Int) ^ n ≤ 2 ^ m := by exact_mod_cast Nat.pow_le_pow_right (by decide : 0 < 2) h
theorem c_divW {i j : Int} (h : 0 < j) (h2 : j < 2 ^ 200) : CDivW i j := wide_div h (b := 200) (by omega) (by decide) (by decide)
theorem c_pow {i j : Int} (h : 0 ≤ j) (h1 : j ≤ 1000000) (h2 : i.natAbs < 2 ^ 64) : CPow i j := ⟨h, h1, h2⟩
/-- tracked -/
structure Dom (H : Hp) (a : Addr) : Prop where
  ex : ∃ o, H a = some o
theorem Dom.of {H : Hp} {a : Addr} {o : HO} (h : H a = some o) : Dom H a := ⟨o, h⟩
theorem Dom.at {S : List Addr} {H H1 : Hp} {a : Addr} (k : Kp S H H1) (h : Dom H a) (n : a ∉ S) : Dom H1 a := let ⟨o, e⟩ := h.ex; ⟨o, k _ _ e n⟩
theorem ne_dom {H : Hp} {a b : Addr} (h : Dom H a) (h' : H b = none) : a ≠ b := let ⟨_, e⟩ := h.ex; ne_of_none e h'
/-- a way put by: found by kp alone -/
structure KpC (S : List Addr) (H H1 : Hp) : Prop where
  k : Kp S H H1
theorem nm0 {a : Addr} : a ∉ ([] : List Addr) := fun h => nomatch h
theorem nm1 {a b : Addr} (h : a ≠ b) : a ∉ [b] := fun z => h (List.mem_singleton.mp z)
theorem nm2 {a b : Addr} {S : List Addr} (h : a ≠ b) (h2 : a ∉ S) : a ∉ b :: S := fun z => (List.mem_cons.mp z).elim h h2
theorem al0 {P : Addr → Prop} : ∀ x ∈ ([] : List Addr), P x := fun _ h => nomatch h
theorem al1 {P : Addr → Prop} {b : Addr} {S : List Addr} (h : P b) (h2 : ∀ x ∈ S, P x) : ∀ x ∈ b :: S, P x := fun x z => (List.mem_cons.mp z).elim (fun e => e ▸ h) (h2 x)
/-- a list of ints at hand, item by item -/
theorem ints_at {ns : List Int} {i : Nat} {x : V} (h : (ns.map V.int)[i]? = some x) : ∃ n, ns[i]? = some n ∧ x = .int n := by
  rw [List.getElem?_map] at h
  cases e : ns[i]? with
  | none => rw [e] at h; cases h
  | some n => rw [e] at h; exact ⟨n, rfl, (Option.some.inj h).symm⟩
theorem ints_get {ns : List Int} {i : Nat} {n : Int} (h : ns[i]? = some n) : (ns.map V.int)[i]? = some (.int n) := by rw [List.getElem?_map, h]; rfl
theorem ints_ix {ns : List Int} {j : Int} (h0 : 0 ≤ j) (h1 : j < ns.length) : ∃ n, ns[j.toNat]? = some n ∧ atI (ns.map V.int) j = some (.int n) := by
  obtain ⟨m, rfl⟩ : ∃ m : Nat, j = (m : Int) := ⟨j.toNat, (Int.toNat_of_nonneg h0).symm⟩
  have hl : m < ns.length := by omega
  rw [Int.toNat_natCast]
  exact ⟨ns[m], List.getElem?_eq_getElem hl, atI_nat (ints_get (List.getElem?_eq_getElem hl))⟩
theorem ints_flat : ∀ ns : List Int, (ns.map V.int).all flatV = true
  | [] => rfl
  | _ :: r => by rw [List.map_cons, List.all_cons, ints_flat r]; rfl
/-- a slice's items -/
def cutG {α : Type} (xs : List α) (lo hi : Option Int) : List α := (xs.drop (HT.sIx xs.length 0 lo)).take (HT.sIx xs.length xs.length hi - HT.sIx xs.length 0 lo)
theorem cut_map {α : Type} (f : α → V) (xs : List α) (lo hi : Option Int) : cutV (xs.map f) lo hi = (cutG xs lo hi).map f := by
  unfold cutV cutG
  rw [List.length_map, ← List.map_drop, ← List.map_take]
theorem cut_to {α : Type} (xs : List α) (k : Nat) : cutG xs none (some (k : Int)) = xs.take k := by
  unfold cutG
  rw [HT.sIx_none, HT.sIx_nat, List.drop_zero, Nat.sub_zero]
  by_cases h : k ≤ xs.length
  · rw [Nat.min_eq_left h]
  · rw [Nat.min_eq_right (by omega), List.take_length, List.take_of_length_le (by omega)]
theorem cut_from {α : Type} (xs : List α) (k : Nat) : cutG xs (some (k : Int)) none = xs.drop k := by
  unfold cutG
  rw [HT.sIx_none, HT.sIx_nat]
  by_cases h : k ≤ xs.length
  · rw [Nat.min_eq_left h, List.take_of_length_le (by rw [List.length_drop]; omega)]
  · rw [Nat.min_eq_right (by omega), List.drop_length, List.drop_eq_nil_of_le (by omega)]; exact List.take_nil
theorem sz_small {n : Nat} (h : n ≤ 100000) : n ≤ sizeLine := Nat.le_trans h (by decide)
theorem sz_less {n : Nat} (h : n < 100000) : n < sizeLine := Nat.lt_of_lt_of_le h (by decide)
theorem idx_le {x : Int} : ∀ {ns : List Int} {m : Nat}, ns[m]? = some x → ns.idxOf x ≤ m
  | [], m, h => by simp at h
  | a :: r, 0, h => by
    have e : a = x := Option.some.inj h
    rw [List.idxOf_cons, e]; simp
  | a :: r, m + 1, h => by
    have z := idx_le (ns := r) (m := m) h
    rw [List.idxOf_cons]
    cases (a == x)
    · exact Nat.succ_le_succ z
    · exact Nat.zero_le _
theorem ixN_nat {n j : Nat} (h : j < n) : ixN n ((j : Nat) : Int) = some j := by
  unfold ixN
  simp [h]
section
variable {σ : St} {H : Hp} {Q : VK} {K : PySem.W.Frag} {p : Addr} {ns : List Int} {x : Int} {D : Ends} {t : TT} {tb : TS}
theorem h_idx (h : SqL K H p (ns.map V.int)) (hx : x ∈ ns) (q : Q (.int ((ns.idxOf x : Nat) : Int)) H) : rIndex K (.ref p) [.int x] H Q := by
  have hl : ns.idxOf x < ns.length := List.idxOf_lt_length_of_mem hx
  refine ⟨p, ns.map V.int, .int x, ns.idxOf x, .int x, rfl, rfl, h, rfl, ints_flat ns, ?_, ?_, ?_, q⟩
  · rw [List.getElem?_map, List.getElem?_eq_getElem hl, List.getElem_idxOf hl]; rfl
  · show (x == x) = true
    exact beq_self_eq_true x
  · intro m z hm hz
    obtain ⟨n, hn, rfl⟩ := ints_at hz
    show (n == x) = false
    by_cases e : n = x
    · subst e
      exact absurd hm (Nat.not_lt_of_le (idx_le hn))
    · exact beq_false_of_ne e
theorem h_insert {xs : List V} {i : Int} {y : V} (h : H p = some (.lst xs)) (hl : xs.length < sizeLine) (h0 : 0 ≤ i) (h1 : i < 2 ^ 63) (q : ∀ H2, Kp [p] H H2 → H2 p = some (.lst (xs.take i.toNat ++ [y] ++ xs.drop i.toNat)) → Q .non H2) : rInsert (.ref p) [.int i, y] H Q :=
  ⟨p, xs, i, y, rfl, rfl, h, hl, h0, h1, q _ (Kp.refl.wr (List.mem_singleton.mpr rfl)) upd_same⟩
end
section
variable {H : Hp} {Q : VK} {K : PySem.W.Frag} {p p' : Addr} {ns ms : List Int}
theorem cut_toI {j : Int} (h : 0 ≤ j) : cutV (ns.map V.int) none (some j) = (ns.take j.toNat).map V.int := by
  have e : j = ((j.toNat : Nat) : Int) := (Int.toNat_of_nonneg h).symm
  rw [cut_map]
  conv => lhs; rw [e]
  rw [cut_to]
theorem cut_fromI {j : Int} (h : 0 ≤ j) : cutV (ns.map V.int) (some j) none = (ns.drop j.toNat).map V.int := by
  have e : j = ((j.toNat : Nat) : Int) := (Int.toNat_of_nonneg h).symm
  rw [cut_map]
  conv => lhs; rw [e]
  rw [cut_from]
theorem h_slTo {j : Int} (h : SqL K H p (ns.map V.int)) (h0 : 0 ≤ j) (q : ∀ l H2, H l = none → Kp [] H H2 → H2 l = some (.lst ((ns.take j.toNat).map V.int)) → Q (.ref l) H2) : rSlL K (.ref p) none (some j) H Q :=
  h_slL h fun l H2 a b c => q l H2 a b (by rw [c, cut_toI h0])
theorem h_slFrom {j : Int} (h : SqL K H p (ns.map V.int)) (h0 : 0 ≤ j) (q : ∀ l H2, H l = none → Kp [] H H2 → H2 l = some (.lst ((ns.drop j.toNat).map V.int)) → Q (.ref l) H2) : rSlL K (.ref p) (some j) none H Q :=
  h_slL h fun l H2 a b c => q l H2 a b (by rw [c, cut_fromI h0])
theorem h_catI (h : H p = some (.lst (ns.map V.int))) (h' : H p' = some (.lst (ms.map V.int))) (hl : ns.length + ms.length ≤ sizeLine) (q : ∀ l H2, H l = none → Kp [] H H2 → H2 l = some (.lst ((ns ++ ms).map V.int)) → Q (.ref l) H2) : rCat (.ref p) (.ref p') H Q :=
  h_cat h h' (by rw [List.length_map, List.length_map]; exact hl) fun l H2 a b c => q l H2 a b (by rw [c, List.map_append])
theorem h_catI1 {n : Int} (h : H p = some (.lst (ns.map V.int))) (h' : H p' = some (.lst [.int n])) (hl : ns.length + 1 ≤ sizeLine) (q : ∀ l H2, H l = none → Kp [] H H2 → H2 l = some (.lst ((ns ++ [n]).map V.int)) → Q (.ref l) H2) : rCat (.ref p) (.ref p') H Q :=
  h_cat h h' (by rw [List.length_map]; exact hl) fun l H2 a b c => q l H2 a b (by rw [c, List.map_append]; rfl)
theorem h_catI2 {n : Int} (h : H p = some (.lst [.int n])) (h' : H p' = some (.lst (ns.map V.int))) (hl : 1 + ns.length ≤ sizeLine) (q : ∀ l H2, H l = none → Kp [] H H2 → H2 l = some (.lst ((n :: ns).map V.int)) → Q (.ref l) H2) : rCat (.ref p) (.ref p') H Q :=
  h_cat h h' (by rw [List.length_map]; exact hl) fun l H2 a b c => q l H2 a b (by rw [c]; rfl)
theorem h_appendI {n : Int} (h : H p = some (.lst (ns.map V.int))) (hl : ns.length < sizeLine) (q : ∀ H2, Kp [p] H H2 → H2 p = some (.lst ((ns ++ [n]).map V.int)) → Q .non H2) : rAppend (.ref p) [.int n] H Q :=
  h_append h (by rw [List.length_map]; exact hl) fun H2 a b => q H2 a (by rw [b, List.map_append]; rfl)
theorem h_insertI {i n : Int} (h : H p = some (.lst (ns.map V.int))) (hl : ns.length < sizeLine) (h0 : 0 ≤ i) (h1 : i < 2 ^ 63) (q : ∀ H2, Kp [p] H H2 → H2 p = some (.lst ((ns.take i.toNat ++ [n] ++ ns.drop i.toNat).map V.int)) → Q .non H2) : rInsert (.ref p) [.int i, .int n] H Q :=
  h_insert h (by rw [List.length_map]; exact hl) h0 h1 fun H2 a b => q H2 a (by rw [b, List.map_append, List.map_append, List.map_take, List.map_drop]; rfl)
theorem h_setLI {QH : Hp → Prop} {k n : Int} {j : Nat} (h : H p = some (.lst (ns.map V.int))) (e : ixN ns.length k = some j) (q : ∀ H2, Kp [p] H H2 → H2 p = some (.lst ((ns.set j n).map V.int)) → QH H2) : rSetL (.ref p) (.int k) (.int n) H QH :=
  h_setL h (by rw [List.length_map]; exact e) fun H2 a b => q H2 a (by rw [b, List.map_set])
theorem ixN_lit {n j : Nat} {k : Int} (e : k = (j : Nat)) (h : j < n) : ixN n k = some j := by subst e; exact ixN_nat h
theorem h_all {bs : List Bool} (h : SqL K H p (bs.map V.bl)) (q : Q (.bl (bs.all id)) H) : rAll K [.ref p] H Q := ⟨p, bs, rfl, h, q⟩
theorem h_any {bs : List Bool} (h : SqL K H p (bs.map V.bl)) (q : Q (.bl (bs.any id)) H) : rAny K [.ref p] H Q := ⟨p, bs, rfl, h, q⟩
end
end NN
/-! own rule: a star among targets -/
namespace NN
open PySem L2
def gStar (K : PySem.W.Frag) (n i : Nat) (t : TGs) : TG := fun v σ H Q => ∃ a xs, v = .ref a ∧ SqL K H a xs ∧ n ≤ xs.length + 1 ∧ xs.length ≤ 10000 ∧
  ∀ D, H D = none → t (xs.take i ++ [.ref D] ++ (xs.drop i).drop (xs.length + 1 - n)) σ (upd H D (.lst ((xs.drop i).take (xs.length + 1 - n)))) Q
theorem got {P : Program} {w : World} {H : Hp} {h : Heap} {a : Addr} : ∀ {o : HO}, ObjOk P w H h a o → ∃ ob, h.get? a = some ob
  | .lst _, ⟨_, _, _, _, e⟩ => ⟨_, e⟩
  | .tup _, ⟨_, _, _, ob, e, _⟩ => ⟨ob, e⟩
  | .dK _, ⟨_, _, _, _, ob, _, _, e, _⟩ => ⟨ob, e⟩
  | .dT _, ⟨_, _, _, _, ob, _, _, e, _⟩ => ⟨ob, e⟩
  | .set _ _, ⟨ob, _, _, _, e, _⟩ => ⟨ob, e⟩
  | .ins _ _ _, ⟨_, _, _, e, _⟩ => ⟨_, e⟩
  | .own _, ⟨ob, e⟩ => ⟨ob, e⟩
  | .xd _, ⟨_, ⟨ob, _, _, e, _⟩, _⟩ => ⟨ob, e⟩
  | .rng _ _, ⟨_, _, _, e⟩ => ⟨_, e⟩
  | .frz _ _, ⟨e, _⟩ => ⟨_, e⟩
  | .tbl _, e => ⟨_, e⟩
  | .met _ _, e => ⟨_, e⟩
  | .ext _, ⟨_, ⟨ob, e⟩, _⟩ => ⟨ob, e⟩
section
variable {X : Cx} {pos : Pos}
theorem pgs_star {e : Expr} {p : Pos} {es : List Expr} {t : TG} {u : TGs} (h1 : PG X e t) (h2 : PGs X es u)
    (hs : (assignEach (.Starred e p :: es) X.env).map (·.2) = assign e X.env :: (assignEach es X.env).map (·.2) := by rfl) : PGs X (.Starred e p :: es) (gCons t u) := by
  refine ⟨fun pins s σ H vs us Q I r h => ?_⟩
  obtain ⟨v, vr, e1, h⟩ := h
  subst e1
  cases r with
  | cons r rr =>
    rw [hs]
    refine PyProof.Rows.assignInOrder_cons (thn (h1.run pins s σ H _ _ _ I r h) fun _ s1 ⟨σ1, H1, I1, q1⟩ => ?_)
    exact h2.run pins s1 σ1 H1 _ _ Q I1 rr q1
theorem pg_star {es : List Expr} {k : Nat} {t : TGs} {n i : Nat} (hc : X.calm = true) (h : PGs X es t) (hi : i < n)
    (hn : (assignEach es X.env).length = n := by rfl) (hst : (assignEach es X.env).findIdx? (·.1) = some i := by rfl) : PG X (.Tuple es k pos) (gStar X.K n i t) := by
  refine ⟨fun pins s σ H v u Q I r hw => ?_⟩
  obtain ⟨a, xs, e1, hq, hl, hz, hw⟩ := hw
  subst e1
  cases r
  obtain ⟨its, rv, pl, _⟩ := I.list hq
  have hl' : s.heap.IsList a its.toArray := by
    obtain ⟨o, m, e, c, d, q⟩ := pl
    exact ⟨o, e, c, m, q⟩
  have elen : its.toArray.size = xs.length := by rw [rv.length]; simp
  obtain ⟨m, F⟩ := I.fr
  refine PySem.W.kun_assignL (n := n) (i := i) F (news_all (g := X.base) (L := X.env.locals)) hl' (I.ok.hd hc) hn hst hi (by rw [elen]; exact hl) (by rw [elen]; omega) rfl rfl rfl fun D h' tk F' N' hD => ?_
  have hDp := N' (D, _) List.mem_cons_self
  have kept : ∀ b o, b ≠ X.env.locals → s.heap.get? b = some o → h'.get? b = some o := fun b o hb e => by
    cases q : X.base.get? b with
    | some o2 =>
      have z := I.bk b o2 q
      rw [e] at z; cases z
      exact F'.keep b _ q
    | none => exact (N' (b, o) (List.mem_cons_of_mem _ (mem_allNews hb q e))).1
  have newD : s.heap.get? D = none := by
    cases q : s.heap.get? D with
    | none => rfl
    | some o => exact absurd (hD (D, o) (mem_allNews hDp.2.1 hDp.2.2 q)) (Nat.lt_irrefl _)
  have HD : H D = none := by
    cases q : H D with
    | none => rfl
    | some o =>
      obtain ⟨oo, eo⟩ := got (I.hok D o q)
      rw [newD] at eo; cases eo
  have nD : ∀ b o, s.heap.get? b = some o → b ≠ D := fun b o e z => by rw [z, newD] at e; cases e
  have nL : ∀ b o, H b = some o → b ≠ X.env.locals := fun b o e z => by rw [z, I.free] at e; cases e
  have tkd : ∀ b o, H b = some o → upd H D (.lst ((xs.drop i).take (xs.length + 1 - n))) b = some o := fun b o e => by rw [upd_ne (ne_of_none e HD)]; exact e
  have hok : HOk X.prog X.w (upd H D (.lst ((xs.drop i).take (xs.length + 1 - n)))) h' := fun b o e => by
    by_cases hb : b = D
    · subst hb
      rw [upd_same] at e; cases e
      refine ⟨?_, _, 0, ?_, hDp.1⟩
      · rw [List.length_take, List.length_drop]; exact sz_small (by omega)
      · rw [elen]
        exact (rv.drop i).take _
    · rw [upd_ne hb] at e
      refine (I.hok b o e).stay (fun c w hc' q => kept c w ?_ q) (fun c q => tkd c _ q) fun c ys q => tkd c _ q
      rcases hc' with z | z
      · rw [z]; exact nL b o e
      · exact nL c _ z
  have I1 : Inv X pins σ (upd H D (.lst ((xs.drop i).take (xs.length + 1 - n)))) { s with heap := h', toks := tk } := by
    refine I.step (g' := s.gens) (d' := s.drawn) (ch := []) (fun _ z => nomatch z) (fun b o hb _ _ e _ => kept b o hb e) (fun b o hb _ _ e _ => ⟨o.slots, kept b o hb e⟩)
      (fun b o _ e n => by rw [upd_ne (nD b o e)]; exact n) (fun b o _ e => ?_) (fun b ys e => tkd b _ e) (fun b o u e => tkd b _ e) (fun b ps e => ⟨#[], by rw [tkd b _ e]; simp⟩) (fun m' hm' => ?_) hok I.bare
    · by_cases hb : b = X.env.locals
      · obtain ⟨o', _, _, e', _⟩ := F'.ns
        exact ⟨o', by rw [hb]; exact e'⟩
      · exact ⟨o, kept b o hb e⟩
    · have em : m' = m := by
        obtain ⟨o1, es1, ep1, q1, d1, _, f1⟩ := hm'
        obtain ⟨o2, es2, ep2, q2, d2, _, f2⟩ := F.ns
        rw [q1] at q2; cases q2
        rw [d1] at d2
        injection d2 with d2 _
        subst d2
        funext x
        exact (f1 x).symm.trans (f2 x)
      rw [em]; exact F'.ns
  have rv2 : Vals (xs.take i ++ [.ref D] ++ (xs.drop i).drop (xs.length + 1 - n)) (its.toArray.toList.take i ++ [.ref D] ++ (its.toArray.toList.drop i).drop (its.toArray.size + 1 - n)) := by
    rw [elen]
    exact ((rv.take i).append (.cons (show RelV (.ref D) (.ref D) from rfl) .nil)).append ((rv.drop i).drop _)
  exact h.run pins _ σ _ _ _ Q I1 rv2 (hw D HD)
end
instance p_gNil {σ : St} {H : Hp} {QS : St → Hp → Prop} : Stp (gNil [] σ H QS) (QS σ H) := ⟨fun q => ⟨rfl, q⟩⟩
instance p_gCons {σ : St} {H : Hp} {QS : St → Hp → Prop} {v : V} {r : List V} {t : TG} {u : TGs} : Stp (gCons t u (v :: r) σ H QS) (t v σ H fun σ' H' => u r σ' H' QS) := ⟨fun q => ⟨v, r, rfl, q⟩⟩
section
variable {K : PySem.W.Frag} {σ : St} {H : Hp} {QS : St → Hp → Prop} {p : Addr} {ns : List Int} {t : TGs}
/-- *ahead, last = a list of ints -/
theorem h_starLast {f : Int} (h : SqL K H p ((ns ++ [f]).map V.int)) (hl : ns.length < 9999) (q : ∀ D H2, H D = none → Kp [] H H2 → H2 D = some (.lst (ns.map V.int)) → t [.ref D, .int f] σ H2 QS) : gStar K 2 0 t (.ref p) σ H QS := by
  refine ⟨p, _, rfl, h, by simp, by simp; omega, fun D hD => ?_⟩
  have e1 : (((ns ++ [f]).map V.int).drop 0).drop (((ns ++ [f]).map V.int).length + 1 - 2) = [.int f] := by simp
  have e2 : (((ns ++ [f]).map V.int).drop 0).take (((ns ++ [f]).map V.int).length + 1 - 2) = ns.map V.int := by simp
  rw [e1, e2]
  exact q D _ hD (Kp.refl.new hD) upd_same
end
end NN
/-! own: data at any depth, held against each other -/
namespace NN
open PySem L2
/-- data that may be compared, of at most that depth -/
def Sh (n : Nat) (d : PyData) : Prop := d.canLay0 = true ∧ d.depth ≤ n
def ShA (n : Nat) (ds : List PyData) : Prop := PyData.canLayAll0 ds = true ∧ PyData.depthAll ds ≤ n
theorem Sh.non {n : Nat} : Sh n .none := ⟨rfl, Nat.zero_le _⟩
theorem Sh.int {n : Nat} {i : Int} : Sh n (.int i) := ⟨rfl, Nat.zero_le _⟩
theorem Sh.bool {n : Nat} {b : Bool} : Sh n (.bool b) := ⟨rfl, Nat.zero_le _⟩
theorem Sh.list {n : Nat} {ds : List PyData} (h : ShA n ds) : Sh (n + 1) (.list ds) := ⟨h.1, Nat.succ_le_succ h.2⟩
theorem Sh.tuple {n : Nat} {ds : List PyData} (h : ShA n ds) : Sh (n + 1) (.tuple ds) := ⟨h.1, Nat.succ_le_succ h.2⟩
theorem ShA.nil {n : Nat} : ShA n [] := ⟨rfl, Nat.zero_le _⟩
theorem ShA.cons {n : Nat} {d : PyData} {ds : List PyData} (h : Sh n d) (h2 : ShA n ds) : ShA n (d :: ds) := by
  refine ⟨?_, Nat.max_le.mpr ⟨h.2, h2.2⟩⟩
  show (d.canLay0 && PyData.canLayAll0 ds) = true
  rw [h.1, h2.1]; rfl
theorem ShA.all {n : Nat} {α : Type} {f : α → PyData} : ∀ {xs : List α}, (∀ x ∈ xs, Sh n (f x)) → ShA n (xs.map f)
  | [], _ => .nil
  | x :: r, h => .cons (h x List.mem_cons_self) (ShA.all fun y hy => h y (List.mem_cons_of_mem _ hy))
theorem ShA.ints {n : Nat} {ns : List Int} : ShA n (ns.map PyData.int) := .all fun _ _ => .int
theorem Sh.shaped {n : Nat} {d : PyData} (h : Sh n d) (hn : n ≤ 64) : SeqAt.shaped d = true := by
  unfold SeqAt.shaped
  rw [h.1, decide_eq_true (Nat.le_trans h.2 hn)]; rfl
theorem Sh.mono {n m : Nat} {d : PyData} (h : Sh n d) (hn : n ≤ m) : Sh m d := ⟨h.1, Nat.le_trans h.2 hn⟩
/-! no bools, no dicts: equal where the data are the same -/
mutual
def noB : PyData → Bool
  | .none => true
  | .bool _ => false
  | .int _ => true
  | .str _ => true
  | .list xs => noBA xs
  | .tuple xs => noBA xs
  | .dict _ => false
def noBA : List PyData → Bool
  | [] => true
  | x :: xs => noB x && noBA xs
end
mutual
theorem eqv_eq : ∀ d e : PyData, noB d = true → noB e = true → PyData.eqv d e = true → d = e
  | .none, e, _, he, h => by cases e <;> simp_all [PyData.eqv, noB]
  | .bool _, _, h, _, _ => nomatch h
  | .int i, e, _, he, h => by cases e <;> simp_all [PyData.eqv, noB]
  | .str x, e, _, he, h => by cases e <;> simp_all [PyData.eqv, noB]
  | .list xs, e, hd, he, h => by
    cases e with
    | list ys =>
      rw [PyData.eqv] at h
      rw [eqvAll_eq' xs ys hd he h]
    | _ => simp_all [PyData.eqv, noB]
  | .tuple xs, e, hd, he, h => by
    cases e with
    | tuple ys =>
      rw [PyData.eqv] at h
      rw [eqvAll_eq' xs ys hd he h]
    | _ => simp_all [PyData.eqv, noB]
  | .dict _, _, h, _, _ => nomatch h
theorem eqvAll_eq' : ∀ ds es : List PyData, noBA ds = true → noBA es = true → PyData.eqvAll ds es = true → ds = es
  | [], [], _, _, _ => rfl
  | [], _ :: _, _, _, h => nomatch h
  | _ :: _, [], _, _, h => nomatch h
  | d :: ds, e :: es, hd, he, h => by
    have h1 : PyData.eqv d e = true ∧ PyData.eqvAll ds es = true := by simpa [PyData.eqvAll] using h
    have h2 : noB d = true ∧ noBA ds = true := by simpa [noBA] using hd
    have h3 : noB e = true ∧ noBA es = true := by simpa [noBA] using he
    rw [eqv_eq d e h2.1 h3.1 h1.1, eqvAll_eq' ds es h2.2 h3.2 h1.2]
end
theorem noBA.ints : ∀ ns : List Int, noBA (ns.map PyData.int) = true
  | [] => rfl
  | _ :: r => by
    show (true && noBA (r.map PyData.int)) = true
    rw [noBA.ints r]; rfl
open Classical in
/-- ==, != of data -/
theorem eqv_dec {n : Nat} {d e : PyData} (h : Sh n d) (hd : noB d = true) (he : noB e = true) : PyData.eqv d e = decide (d = e) := by
  by_cases q : d = e
  · subst q; rw [decide_eq_true rfl]; exact PySem.SeqAt.eqv_refl d h.1
  · rw [decide_eq_false q]
    cases z : PyData.eqv d e with
    | false => rfl
    | true => exact absurd (eqv_eq d e hd he z) q
section
variable {K : PySem.W.Frag} {H : Hp} {Q : VK} {x y : V} {d e : PyData} {n m : Nat} {p : Addr} {ns : List Int}
theorem dp_ints (h : SqL K H p (ns.map V.int)) : Dp K H (.ref p) (.list (ns.map PyData.int)) := .lst h (by
  clear h
  induction ns with
  | nil => exact .nil
  | cons i r ih => exact .cons (.int i) ih)
/-- equal ones -/
theorem d_eqT (hx : Dp K H x d) (hy : Dp K H y d) (s1 : Sh n d) (hn : n ≤ 64) (q : Q (.bl true) H) : rEqD K x y H Q :=
  ⟨d, d, hx, hy, s1.shaped hn, s1.shaped hn, by rw [PySem.SeqAt.eqv_refl d s1.1]; exact q⟩
theorem d_neF (hx : Dp K H x d) (hy : Dp K H y d) (s1 : Sh n d) (hn : n ≤ 64) (q : Q (.bl false) H) : rNeD K x y H Q :=
  ⟨d, d, hx, hy, s1.shaped hn, s1.shaped hn, by rw [PySem.SeqAt.eqv_refl d s1.1]; exact q⟩
open Classical in
theorem d_eq (hx : Dp K H x d) (hy : Dp K H y e) (s1 : Sh n d) (s2 : Sh m e) (hn : n ≤ 64) (hm : m ≤ 64) (hd : noB d = true) (he : noB e = true) (q : Q (.bl (decide (d = e))) H) : rEqD K x y H Q :=
  ⟨d, e, hx, hy, s1.shaped hn, s2.shaped hm, by rw [eqv_dec s1 hd he]; exact q⟩
open Classical in
theorem d_ne (hx : Dp K H x d) (hy : Dp K H y e) (s1 : Sh n d) (s2 : Sh m e) (hn : n ≤ 64) (hm : m ≤ 64) (hd : noB d = true) (he : noB e = true) (q : Q (.bl (!decide (d = e))) H) : rNeD K x y H Q :=
  ⟨d, e, hx, hy, s1.shaped hn, s2.shaped hm, by rw [eqv_dec s1 hd he]; exact q⟩
theorem ints_inj : ∀ {ns ms : List Int}, ns.map PyData.int = ms.map PyData.int → ns = ms
  | [], [], _ => rfl
  | [], _ :: _, h => nomatch h
  | _ :: _, [], h => nomatch h
  | a :: r, b :: t, h => by
    injection h with h1 h2
    injection h1 with h1
    rw [h1, ints_inj h2]
/-- two lists of ints -/
theorem d_eqI {ms : List Int} {p' : Addr} (hx : SqL K H p (ns.map V.int)) (hy : SqL K H p' (ms.map V.int)) (q : Q (.bl (decide (ns = ms))) H) : rEqD K (.ref p) (.ref p') H Q :=
  ⟨_, _, dp_ints hx, dp_ints hy, (Sh.list (n := 0) .ints).shaped (by decide), (Sh.list (n := 0) .ints).shaped (by decide), by
    have e : PyData.eqv (.list (ns.map PyData.int)) (.list (ms.map PyData.int)) = decide (ns = ms) := by
      by_cases h : ns = ms
      · subst h; rw [decide_eq_true rfl]; exact PySem.SeqAt.eqv_refl _ (Sh.list (n := 0) .ints).1
      · rw [decide_eq_false h]
        cases z : PyData.eqv (.list (ns.map PyData.int)) (.list (ms.map PyData.int)) with
        | false => rfl
        | true =>
          have z2 := eqv_eq (.list (ns.map PyData.int)) (.list (ms.map PyData.int)) (noBA.ints ns) (noBA.ints ms) z
          injection z2 with z2
          exact absurd (ints_inj z2) h
    rw [e]; exact q⟩
theorem d_neI {ms : List Int} {p' : Addr} (hx : SqL K H p (ns.map V.int)) (hy : SqL K H p' (ms.map V.int)) (q : Q (.bl (!decide (ns = ms))) H) : rNeD K (.ref p) (.ref p') H Q := by
  have z : rEqD K (.ref p) (.ref p') H (fun v H' => v = .bl (decide (ns = ms)) ∧ H' = H) := d_eqI hx hy ⟨rfl, rfl⟩
  obtain ⟨d, e, h1, h2, h3, h4, h5, _⟩ := z
  injection h5 with h5
  exact ⟨d, e, h1, h2, h3, h4, by rw [h5]; exact q⟩
theorem inV_int {i : Int} : ∀ {ms : List Int}, inV (.int i) (ms.map V.int) = decide (i ∈ ms)
  | [] => (decide_eq_false (fun z => nomatch z)).symm
  | m :: r => by
    show (eqV (.int m) (.int i) || inV (.int i) (r.map V.int)) = _
    rw [inV_int]
    show ((m == i) || decide (i ∈ r)) = _
    by_cases h : m = i
    · subst h; simp
    · by_cases h2 : i ∈ r
      · simp [h2]
      · have : i ≠ m := fun z => h z.symm
        simp [h, h2, this]
end
section
variable {K : PySem.W.Frag} {H : Hp} {Q : VK} {x : V}
/-- isinstance of a built-in class -/
theorem isi {t n : String} {b : Bool} (h : TyX K H x (.type t)) (e : kitB t n = some b) (q : Q (.bl b) H) : rIsi K [x, .ty n] H Q := ⟨x, .ty n, _, _, b, rfl, .ty n, h, kit_ty e, q⟩
end
end NN
/-! own: calls of any shape (places, keywords, defaults), of defs, methods, classes -/
namespace NN
open PySem L2
/-- where a parameter's value comes from -/
inductive Src where
  | pos (i : Nat) | kw (i : Nat) | dfl (i : Nat) | kwd (i : Nat)
def consO {α : Type} : Option α → List α → List α
  | none, l => l
  | some x, l => x :: l
def srcAt {α : Type} (us ws its kv : List α) : Src → Option α
  | .pos i => us[i]? | .kw i => ws[i]? | .dfl i => its[i]? | .kwd i => kv[i]?
def plan {α : Type} (us ws its kv : List α) : List Src → List α
  | [] => []
  | c :: l => consO (srcAt us ws its kv c) (plan us ws its kv l)
theorem consO_rel {xs : List V} {ys : List Value} {A : List V} {B : List Value} (i : Nat) (q : Vals xs ys) (h : Vals A B) : Vals (consO xs[i]? A) (consO ys[i]? B) := by
  cases e : xs[i]? with
  | none => rw [q.none_of e]; exact h
  | some z =>
    obtain ⟨u, e2, r2⟩ := q.get e
    rw [e2]
    exact .cons r2 h
theorem plan_rel (pl : List Src) {vs zs ds ks : List V} {us ws its kv : List Value} (r : Vals vs us) (rz : Vals zs ws) (rd : Vals ds its) (rk : Vals ks kv) : Vals (plan vs zs ds ks pl) (plan us ws its kv pl) := by
  induction pl with
  | nil => exact .nil
  | cons c l ih =>
    cases c with
    | pos i => exact consO_rel i r ih
    | kw i => exact consO_rel i rz ih
    | dfl i => exact consO_rel i rd ih
    | kwd i => exact consO_rel i rk ih
/-- how a call with n places and keywords ks binds -/
def CallB (K : PySem.W.Frag) (fd : FuncData) (ps : List Str) (n : Nat) (ks : List Str) (pl : List Src) (dvs kvs : List V) : Prop :=
  ∀ (s : Shared) (us ws : List Value) (vs zs : List V), K.In s.heap → us.length = n → ws.length = ks.length → Vals vs us → Vals zs ws →
    ∃ args : List Value, Vals (plan vs zs dvs kvs pl) args ∧ BindsTo s fd ⟨us, ks.zip ws⟩ (ps.zip args)
section
variable {K : PySem.W.Frag} {x qual : Str} {params : Arguments} {body : List Stmt} {scope : Scope} {dvs : List V} {kws : List (Str × V)} {f : Addr} {fd : FuncData} {ps ks : List Str} {pl : List Src} {n : Nat}
/-- no default is asked -/
theorem callb_p (F : FunD K x qual params body scope [] kws f fd)
    (h : ∀ (kV doc pm : Value) (an : Option Addr) (cdv ct : Value) (us ws : List Value), us.length = n → ws.length = ks.length → bindArgs (PySem.W.fnOf x qual params body scope .none kV doc pm an cdv ct) ⟨us, ks.zip ws⟩ = pure (ps.zip (plan us ws [] [] pl))) : CallB K fd ps n ks pl [] [] := fun s us ws vs zs X hn hm r rz => by
  obtain ⟨oc, od, dV, kV, doc, pm, an, cdv, ct, osl, rfl, lk, hcd, hD, hK⟩ := F.ex
  rcases hD with ⟨_, rfl⟩ | ⟨e, _⟩
  · exact ⟨_, plan_rel pl r rz .nil .nil, .of_eq (h kV doc pm an cdv ct us ws hn hm)⟩
  · exact absurd rfl e
/-- defaults of the places -/
theorem callb_d (F : FunD K x qual params body scope dvs kws f fd) (hd : dvs ≠ [])
    (h : ∀ (T : Addr) (kV doc pm : Value) (an : Option Addr) (cdv ct : Value) (us ws its : List Value), us.length = n → ws.length = ks.length → its.length = dvs.length →
      ∃ k, bindArgs (PySem.W.fnOf x qual params body scope (.ref T) kV doc pm an cdv ct) ⟨us, ks.zip ws⟩ = seqItems? (.ref T) >>= k ∧ k (some its.toArray) = pure (ps.zip (plan us ws its [] pl))) : CallB K fd ps n ks pl dvs [] := fun s us ws vs zs X hn hm r rz => by
  obtain ⟨oc, od, dV, kV, doc, pm, an, cdv, ct, osl, rfl, lk, hcd, hD, hK⟩ := F.ex
  rcases hD with ⟨e, _⟩ | ⟨_, T, o, its, m, rfl, lT, oT, rT⟩
  · exact absurd e hd
  · obtain ⟨k, e1, e2⟩ := h T kV doc pm an cdv ct us ws its hn hm rT.length.symm
    refine ⟨_, plan_rel pl r rz rT .nil, L2.BindsTo.of_looks fun M => ?_⟩
    rw [e1]
    exact looks_items X lT oT (.of_pure e2)
end
section
variable {X : Cx} {CX : CXT} {k : Nat} {f C : Addr} {fd : FuncData} {ps ks : List Str} {pl : List Src} {dvs kvs : List V} {n : Nat} {sp : Sp} {x m : Str} {p pos apos : Pos} {e o : Expr} {es : List Expr} {kws : List Keyword} {ta : TE} {t tk : TA} {E : St → XK}
/-- the arguments of a call -/
structure PAr (X : Cx) (pos : Pos) (es : List Expr) (kws : List Keyword) (ks : List Str) (t tk : TA) : Prop where
  run : ∀ (pins : List (Addr × Obj)) (s : Shared) (σ : St) (H : Hp) (f : Value) (first : List Value) (R : List V → List V → Hp → Prop) (Q : Value → Shared → Prop), PySem.W.keepIn X.K f = true → Inv X pins σ H s → (t σ H fun vs H1 => tk σ H1 fun zs H2 => R vs zs H2) →
    (∀ us ws vs zs H2 s2, Inv X pins σ H2 s2 → Vals vs us → Vals zs ws → R vs zs H2 → wpAny (model X.prog X.w) X.A (call f (first ++ us) (ks.zip ws)) Q X.xe s2) →
    wpAny (model X.prog X.w) X.A (callWith pos f first (backTo pos (starEach es X.env)) (backToKw pos (keywordEach kws X.env))) Q X.xe s
theorem par_pos (ha : PA X (e :: es) t) (he : starEach (e :: es) X.env = (false, eval e X.env) :: starEach es X.env := by rfl) (hpl : (backTo pos (starEach es X.env)).any (·.1) = false := by rfl) : PAr X pos (e :: es) [] [] t tNil :=
  ⟨fun pins s σ H f first R Q hk I h run => PySem.W.callWith_K (h₀ := X.base) I.ok.mod.kin hk (thn (ha.run pos pins s σ H _ I h) fun us s1 ⟨vs, H1, I1, r, q⟩ => ⟨I1.kIn, run us [] vs [] H1 s1 I1 r .nil q⟩) he hpl⟩
theorem par_0 : PAr X pos [] [] [] tNil tNil :=
  ⟨fun pins s σ H f first R Q hk I h run => PySem.W.callWith_K0 I.kIn hk (run [] [] [] [] H s I .nil .nil h)⟩
theorem par_kw (hkw : PK X kws tk) (hall : (backToKw pos (keywordEach kws X.env)).all (·.1.isSome) = true := by rfl) (hks : (backToKw pos (keywordEach kws X.env)).filterMap (·.1) = ks := by rfl)
    (hpl : (backToKw pos (keywordEach kws X.env)).any (·.1.isNone) = false := by rfl) : PAr X pos [] kws ks tNil tk :=
  ⟨fun pins s σ H f first R Q hk I h run => PySem.W.callWith_KW0 (h₀ := X.base) I.ok.mod.kin hk hall (thn (hkw.run pos pins s σ H _ I h) fun ws s2 ⟨zs, H2, I2, rz, q⟩ => ⟨I2.kIn, by rw [hks]; exact run [] ws [] zs H2 s2 I2 .nil rz q⟩) hpl⟩
theorem par_both (ha : PA X (e :: es) t) (hkw : PK X kws tk) (hall : (backToKw pos (keywordEach kws X.env)).all (·.1.isSome) = true := by rfl) (hks : (backToKw pos (keywordEach kws X.env)).filterMap (·.1) = ks := by rfl)
    (he : starEach (e :: es) X.env = (false, eval e X.env) :: starEach es X.env := by rfl) (hpl : ((backTo pos (starEach (e :: es) X.env)).any (·.1) || (backToKw pos (keywordEach kws X.env)).any (·.1.isNone)) = false := by rfl) : PAr X pos (e :: es) kws ks t tk :=
  ⟨fun pins s σ H f first R Q hk I h run => PySem.W.callWith_KW (h₀ := X.base) I.ok.mod.kin hk hall (thn (ha.run pos pins s σ H _ I h) fun us s1 ⟨vs, H1, I1, r, q⟩ =>
    thn (hkw.run pos pins s1 σ H1 _ I1 q) fun ws s2 ⟨zs, H2, I2, rz, q2⟩ => ⟨I2.kIn, by rw [hks]; exact run us ws vs zs H2 s2 I2 r rz q2⟩) hpl he⟩
/-- the callee runs -/
theorem run_c {pins : List (Addr × Obj)} {σ : St} {H : Hp} {s : Shared} {Q : VK} {us ws : List Value} {vs zs : List V} {E : XK} (F : FnOk X.prog X.w X.K X.mg X.base CX k f fd ps sp) (hr : Room k X.A) (hb : CallB X.K fd ps n ks pl dvs kvs) (hx : PassesAt CX X σ E)
    (I : Inv X pins σ H s) (r : Vals vs us) (rz : Vals zs ws) (hn : vs.length = n) (hm : zs.length = ks.length) (h : sp (plan vs zs dvs kvs pl) H Q E) : wpAny (model X.prog X.w) X.A (call (.ref f) us (ks.zip ws)) (EP X pins σ Q) X.xe s := by
  obtain ⟨args, ra, b⟩ := hb s us ws vs zs I.kIn (r.length.symm.trans hn) (rz.length.symm.trans hm) r rz
  refine wpAny_call (codeAny_mono (F.run X.A X.stack s H ⟨us, ks.zip ws⟩ args _ Q E hr I.env0 b ra h) fun r s' hq => ?_)
  cases r with
  | error e => exact hx pins H s e s' I hq
  | ok fl =>
    cases fl with
    | ret u => exact I.after hq
    | next => exact False.elim hq
    | brk => exact False.elim hq
    | cont => exact False.elim hq
def tCl (sp : Sp) (pl : List Src) (dvs kvs : List V) (n m : Nat) (E : St → XK) (t tk : TA) : TE := fun σ H Q => t σ H fun vs H1 => tk σ H1 fun zs H2 => vs.length = n ∧ zs.length = m ∧ sp (plan vs zs dvs kvs pl) H2 Q (E σ)
theorem pe_cl (F : FnOk X.prog X.w X.K X.mg X.base CX k f fd ps sp) (hr : Room k X.A) (hg : Gl X x) (hm : X.mg x = some (.ref f)) (hk : PySem.W.keepIn X.K (.ref f) = true) (hb : CallB X.K fd ps n ks pl dvs kvs) (hx : ∀ σ, PassesAt CX X σ (E σ))
    (ha : PAr X pos es kws ks t tk) (hdb : (x == ("__debug__" : Str)) = false := by decide) : PE X (.Call (.Name x p) es kws pos) (tCl sp pl dvs kvs n ks.length E t tk) := by
  refine ⟨fun pins s σ H Q I h => ?_⟩
  refine wpAny_Call_Name_kw (ld_glob I hg hm ?_ hdb)
  exact ha.run pins s σ H _ [] _ _ hk I h fun us ws vs zs H2 s2 I2 r rz ⟨q1, q2, q3⟩ => run_c F hr hb (hx σ) I2 r rz q1 q2 q3
/-- o.m(..) -/
def tMe (C : Addr) (m : Str) (sp : Sp) (pl : List Src) (dvs kvs : List V) (n l : Nat) (E : St → XK) (ta : TE) (t tk : TA) : TE := fun σ H Q => ta σ H fun x H1 => ∃ a dx fs, x = .ref a ∧ H1 a = some (.ins C dx fs) ∧ fs.lookup m = none ∧
  t σ H1 fun vs H2 => tk σ H2 fun zs H3 => vs.length + 1 = n ∧ zs.length = l ∧ sp (plan (x :: vs) zs dvs kvs pl) H3 Q (E σ)
theorem pe_me {pl' : Sem Bool} (he : PE X o ta) (c : Cls X.K C) (hm : Meth X.K C m f) (F : FnOk X.prog X.w X.K X.mg X.base CX k f fd ps sp) (hr : Room k X.A) (hb : CallB X.K fd ps n ks pl dvs kvs) (hx : ∀ σ, PassesAt CX X σ (E σ))
    (ha : PAr X pos es kws ks t tk)
    (ht : eval (.Call (.Attribute o m apos) es kws pos) X.env = (do
      let ov ← eval o X.env
      standAt apos.atName
      let (f, first) ← holding [ov] (getMethod ov m pl')
      callWith pos f first (backTo pos (starEach es X.env)) (backToKw pos (keywordEach kws X.env))) := by rfl) :
    PE X (.Call (.Attribute o m apos) es kws pos) (tMe C m sp pl dvs kvs n ks.length E ta t tk) := by
  refine ⟨fun pins s σ H Q I h => ?_⟩
  refine PySem.W.methodCall_KW (pl := pl') (thn (he.run pins s σ H _ I h) fun u s1 ⟨x, H1, I1, rx, a, dx, fs, ex, ea, l, q⟩ => ?_) ht
  subst ex
  obtain rfl : u = Value.ref a := rx
  refine getmeth_ok I1 ea c hm l ?_
  exact ha.run pins s1 σ H1 _ [.ref a] _ _ hm.kp I1 q fun us ws vs zs H2 s2 I2 r rz ⟨q1, q2, q3⟩ => run_c F hr hb (hx σ) I2 (.cons (show RelV (.ref a) (.ref a) from rfl) r) rz q1 q2 q3
/-- C(..) -/
def tMk (C : Addr) (sp : Sp) (pl : List Src) (dvs kvs : List V) (n l : Nat) (E : St → XK) (t tk : TA) : TE := fun σ H Q => t σ H fun vs H1 => tk σ H1 fun zs H2 => vs.length + 1 = n ∧ zs.length = l ∧ ∀ x dx, H2 x = none → H2 dx = none → dx ≠ x →
  sp (plan (.ref x :: vs) zs dvs kvs pl) (upd (upd H2 dx (.own x)) x (.ins C dx [])) (fun v H3 => v = .non ∧ Q (.ref x) H3) (E σ)
theorem pe_mk (M : Mk X.K C f) (F : FnOk X.prog X.w X.K X.mg X.base CX k f fd ps sp) (hr : Room (k + 1) X.A) (hg : Gl X x) (hm : X.mg x = some (.ref C)) (hb : CallB X.K fd ps n ks pl dvs kvs) (hx : ∀ σ, PassesAt CX X σ (E σ))
    (ha : PAr X pos es kws ks t tk) (hdb : (x == ("__debug__" : Str)) = false := by decide) : PE X (.Call (.Name x p) es kws pos) (tMk C sp pl dvs kvs n ks.length E t tk) := by
  refine ⟨fun pins s σ H Q I h => ?_⟩
  refine wpAny_Call_Name_kw (ld_glob I hg hm ?_ hdb)
  refine ha.run pins s σ H _ [] _ _ M.kp I h fun us ws vs zs H2 s2 I2 r rz ⟨q1, q2, q3⟩ => ?_
  have hq := q3 (s2.heap.objs.size + 1) s2.heap.objs.size (I2.hok.fresh (Nat.le_succ _)) (I2.hok.fresh (Nat.le_refl _)) (Nat.ne_of_lt (Nat.lt_succ_self _))
  have I3 := Inv.made (C := C) I2
  have r3 : Vals (V.ref (s2.heap.objs.size + 1) :: vs) (Value.ref (s2.heap.objs.size + 1) :: us) := .cons rfl r
  obtain ⟨args, ra, b⟩ := hb _ _ ws _ zs I3.kIn (r3.length.symm.trans q1) (rz.length.symm.trans q2) r3 rz
  refine wpAny_call (make_map (f := f) I2.kIn M.makes M.init (beq_iff_eq.mp M.fn) (codeAny_mono (F.run _ X.stack _ _ ⟨Value.ref (s2.heap.objs.size + 1) :: us, ks.zip ws⟩ args _ _ (E σ) (hr.make C us (ks.zip ws))
    (I3.env0.make C us (ks.zip ws)) b ra hq) fun r s' hq' => ?_))
  cases r with
  | error e => exact hx σ pins _ _ e s' I3 hq'
  | ok fl =>
    cases fl with
    | ret u =>
      obtain ⟨v, H', I4, rv, ev, q5⟩ := I3.after hq'
      subst ev
      exact ⟨rv, ⟨V.ref (s2.heap.objs.size + 1), H', I4, rfl, q5⟩⟩
    | next => exact False.elim hq'
    | brk => exact False.elim hq'
    | cont => exact False.elim hq'
end
/-! ### bundles -/
/-- where the classes stand -/
structure Ad where
  Space : Addr
  Node : Addr
  Ring : Addr
  Seeker : Addr
  Found : Addr
  Desk : Addr
  NoSpace : Addr
  NoPoint : Addr
  NoRing : Addr
  NoMember : Addr
  Taken : Addr
  Fixed : Addr
  Alone : Addr
  LastOne : Addr
  TooFar : Addr
  NoText : Addr
  NoValue : Addr
  NoOrder : Addr
  NoRow : Addr
  RingError : Addr
  /-- the tables of code objects, whose names they bear -/
  tabs : List (Addr × Str)
abbrev FunS (K : PySem.W.Frag) (x qual : Str) (st : Stmt) (dvs : List V) (kws : List (Str × V)) (f : Addr) (fd : FuncData) : Prop := FunD K x qual (defArgs st) (defBody st) (defScope st) dvs kws f fd
/-- a def of the text (facts), a method, a class's __init__ -/
structure DF (K : PySem.W.Frag) (mg : Str → Option Value) (x : Str) (st : Stmt) (dvs : List V) (kws : List (Str × V)) : Prop where
  ex : ∃ f fd, mg x = some (.ref f) ∧ FunS K x x st dvs kws f fd
structure MF (K : PySem.W.Frag) (C : Addr) (m qual : Str) (st : Stmt) (dvs : List V) (kws : List (Str × V)) : Prop where
  ex : ∃ f fd, Meth K C m f ∧ FunS K m qual st dvs kws f fd
structure IF (K : PySem.W.Frag) (C : Addr) (qual : Str) (st : Stmt) (dvs : List V) (kws : List (Str × V)) : Prop where
  ex : ∃ f fd, Mk K C f ∧ FunS K "__init__" qual st dvs kws f fd
/-- .. that keeps its promise -/
structure DK (P : Program) (w : World) (K : PySem.W.Frag) (mg : Str → Option Value) (base : Heap) (CX : CXT) (k : Nat) (x : Str) (ps : List Str) (st : Stmt) (dvs : List V) (kws : List (Str × V)) (sp : Sp) : Prop where
  ex : ∃ f fd, mg x = some (.ref f) ∧ FunS K x x st dvs kws f fd ∧ FnOk P w K mg base CX k f fd ps sp
structure MK (P : Program) (w : World) (K : PySem.W.Frag) (mg : Str → Option Value) (base : Heap) (CX : CXT) (k : Nat) (C : Addr) (m qual : Str) (ps : List Str) (st : Stmt) (dvs : List V) (kws : List (Str × V)) (sp : Sp) : Prop where
  ex : ∃ f fd, Meth K C m f ∧ FunS K m qual st dvs kws f fd ∧ FnOk P w K mg base CX k f fd ps sp
structure IK (P : Program) (w : World) (K : PySem.W.Frag) (mg : Str → Option Value) (base : Heap) (CX : CXT) (k : Nat) (C : Addr) (qual : Str) (ps : List Str) (st : Stmt) (dvs : List V) (kws : List (Str × V)) (sp : Sp) : Prop where
  ex : ∃ f fd, Mk K C f ∧ FunS K "__init__" qual st dvs kws f fd ∧ FnOk P w K mg base CX k f fd ps sp
section
variable {P : Program} {w : World} {K : PySem.W.Frag} {mg : Str → Option Value} {base : Heap} {x qual : Str} {st : Stmt} {N ps : List Str} {k : Nat} {sp : Sp} {t : TS} {tx : XK → TS} {dvs : List V} {kws : List (Str × V)} {f : Addr} {fd : FuncData} {C : Addr} {m : Str}
/-- THE RULES: a body that lets nothing out, one that may raise -/
theorem fn0 (F : FunS K x qual st dvs kws f fd) (S : FnScope N ps (defScope st)) (len : ∀ vs H Q E, sp vs H Q E → vs.length = ps.length)
    (der : ∀ (f : Addr) (cdv : Value) (A : Around) (outer : List Env) (s : Shared) (H : Hp) (E : XK), Room k (A.deeper (PyProof.Rows.envOfC qual (defScope st) s.heap.objs.size f cdv)) → PSs (cxOf CX0 P w K mg base N qual (defScope st) f cdv A outer s H E).nox (defBody st) t)
    (rd : ∀ vs H Q E, sp vs H Q E → t { nx := fun _ H' => Q .non H', rt := Q } (start N vs) H) : FnOk P w K mg base CX0 (k + 1) f fd ps sp :=
  F.ok S len fun cdv A outer s H vs Q E hr h => ⟨t, (der f cdv A outer s H E hr).nox, rd vs H Q E h⟩
theorem fnx (F : FunS K x qual st dvs kws f fd) (S : FnScope N ps (defScope st)) (len : ∀ vs H Q E, sp vs H Q E → vs.length = ps.length)
    (der : ∀ (f : Addr) (cdv : Value) (A : Around) (outer : List Env) (s : Shared) (H : Hp) (E : XK), Room k (A.deeper (PyProof.Rows.envOfC qual (defScope st) s.heap.objs.size f cdv)) → PSs (cxOf (L2.CX P w) P w K mg base N qual (defScope st) f cdv A outer s H E) (defBody st) (tx E))
    (rd : ∀ vs H Q E, sp vs H Q E → tx E { nx := fun _ H' => Q .non H', rt := Q } (start N vs) H) : FnOk P w K mg base (L2.CX P w) (k + 1) f fd ps sp :=
  F.ok S len fun cdv A outer s H vs Q E hr h => ⟨tx E, der f cdv A outer s H E hr, rd vs H Q E h⟩
theorem DF.mk2 {CX : CXT} (F : DF K mg x st dvs kws) (h : ∀ f fd, FunS K x x st dvs kws f fd → FnOk P w K mg base CX k f fd ps sp) : DK P w K mg base CX k x ps st dvs kws sp :=
  let ⟨f, fd, hm, F⟩ := F.ex; ⟨f, fd, hm, F, h f fd F⟩
theorem MF.mk2 {CX : CXT} (F : MF K C m qual st dvs kws) (h : ∀ f fd, FunS K m qual st dvs kws f fd → FnOk P w K mg base CX k f fd ps sp) : MK P w K mg base CX k C m qual ps st dvs kws sp :=
  let ⟨f, fd, hm, F⟩ := F.ex; ⟨f, fd, hm, F, h f fd F⟩
theorem IF.mk2 {CX : CXT} (F : IF K C qual st dvs kws) (h : ∀ f fd, FunS K "__init__" qual st dvs kws f fd → FnOk P w K mg base CX k f fd ps sp) : IK P w K mg base CX k C qual ps st dvs kws sp :=
  let ⟨f, fd, hm, F⟩ := F.ex; ⟨f, fd, hm, F, h f fd F⟩
end
section
variable {X : Cx} {CX : CXT} {k j : Nat} {C : Addr} {ps ks : List Str} {pl : List Src} {dvs dv kv : List V} {kw' : List (Str × V)} {n : Nat} {sp : Sp} {x m qual : Str} {st : Stmt} {p pos apos : Pos} {o : Expr} {es : List Expr} {kws : List Keyword} {ta : TE} {t tk : TA} {E : St → XK}
theorem pe_dk (D : DK X.prog X.w X.K X.mg X.base CX k x ps st dvs kw' sp) (hr : Room j X.A) (hj : k ≤ j) (hg : Gl X x) (hb : ∀ {f fd}, FunS X.K x x st dvs kw' f fd → CallB X.K fd ps n ks pl dv kv) (hx : ∀ σ, PassesAt CX X σ (E σ))
    (ha : PAr X pos es kws ks t tk) (hdb : (x == ("__debug__" : Str)) = false := by decide) : PE X (.Call (.Name x p) es kws pos) (tCl sp pl dv kv n ks.length E t tk) := by
  obtain ⟨f, fd, hm, F, ok⟩ := D.ex
  exact pe_cl ok (hr.mono hj) hg hm F.kp (hb F) hx ha hdb
theorem pe_mkk (D : MK X.prog X.w X.K X.mg X.base CX k C m qual ps st dvs kw' sp) {pl' : Sem Bool} (he : PE X o ta) (c : Cls X.K C) (hr : Room j X.A) (hj : k ≤ j) (hb : ∀ {f fd}, FunS X.K m qual st dvs kw' f fd → CallB X.K fd ps n ks pl dv kv) (hx : ∀ σ, PassesAt CX X σ (E σ))
    (ha : PAr X pos es kws ks t tk)
    (ht : eval (.Call (.Attribute o m apos) es kws pos) X.env = (do
      let ov ← eval o X.env
      standAt apos.atName
      let (f, first) ← holding [ov] (getMethod ov m pl')
      callWith pos f first (backTo pos (starEach es X.env)) (backToKw pos (keywordEach kws X.env))) := by rfl) :
    PE X (.Call (.Attribute o m apos) es kws pos) (tMe C m sp pl dv kv n ks.length E ta t tk) := by
  obtain ⟨f, fd, hm, F, ok⟩ := D.ex
  exact pe_me he c hm ok (hr.mono hj) (hb F) hx ha ht
theorem pe_ik (D : IK X.prog X.w X.K X.mg X.base CX k C qual ps st dvs kw' sp) (hr : Room j X.A) (hj : k + 1 ≤ j) (hg : Gl X x) (hm : X.mg x = some (.ref C)) (hb : ∀ {f fd}, FunS X.K "__init__" qual st dvs kw' f fd → CallB X.K fd ps n ks pl dv kv) (hx : ∀ σ, PassesAt CX X σ (E σ))
    (ha : PAr X pos es kws ks t tk) (hdb : (x == ("__debug__" : Str)) = false := by decide) : PE X (.Call (.Name x p) es kws pos) (tMk C sp pl dv kv n ks.length E t tk) := by
  obtain ⟨f, fd, M, F, ok⟩ := D.ex
  exact pe_mk M ok (hr.mono hj) hg hm (hb F) hx ha hdb
/-- exceptions of a callee: none comes; they are the def's own; they are the try's -/
theorem xa0 (σ : St) : PassesAt CX0 X σ E0 := fun _ _ _ _ _ _ h => h.elim
theorem xaL (σ : St) : PassesAt (L2.CX X.prog X.w) X σ E0 := fun pins H s e s' I h => passL pins σ H s e s' I h
theorem xaC {E : XK} (tk : Takes X (fun cls d _ H => E cls d H)) (σ : St) : PassesAt (L2.CX X.prog X.w) X σ E := fun pins H s e s' I h => passes_call tk (fun _ _ _ _ q => q) pins σ H s e s' I h
end
/-! ### steps -/
section
variable {σ : St} {H : Hp} {Q : VK} {ta : TE} {t tk : TA} {E : St → XK} {sp : Sp} {pl : List Src} {dvs kvs : List V} {n l : Nat} {C : Addr} {m : Str}
instance p_cl : Stp (tCl sp pl dvs kvs n l E t tk σ H Q) (t σ H fun vs H1 => tk σ H1 fun zs H2 => vs.length = n ∧ zs.length = l ∧ sp (plan vs zs dvs kvs pl) H2 Q (E σ)) := ⟨fun q => q⟩
instance p_me : Stp (tMe C m sp pl dvs kvs n l E ta t tk σ H Q) (ta σ H fun x H1 => ∃ a dx fs, x = .ref a ∧ H1 a = some (.ins C dx fs) ∧ fs.lookup m = none ∧
  t σ H1 fun vs H2 => tk σ H2 fun zs H3 => vs.length + 1 = n ∧ zs.length = l ∧ sp (plan (x :: vs) zs dvs kvs pl) H3 Q (E σ)) := ⟨fun q => q⟩
instance p_mk : Stp (tMk C sp pl dvs kvs n l E t tk σ H Q) (t σ H fun vs H1 => tk σ H1 fun zs H2 => vs.length + 1 = n ∧ zs.length = l ∧ ∀ x dx, H2 x = none → H2 dx = none → dx ≠ x →
  sp (plan (.ref x :: vs) zs dvs kvs pl) (upd (upd H2 dx (.own x)) x (.ins C dx [])) (fun v H3 => v = .non ∧ Q (.ref x) H3) (E σ)) := ⟨fun q => q⟩
/-- an instance at hand -/
theorem g_ins {a dx : Addr} {fs : List (Str × V)} {P : Prop} (h : H a = some (.ins C dx fs)) (hl : fs.lookup m = none) (q : P) : ∃ a' dx fs, V.ref a = .ref a' ∧ H a' = some (.ins C dx fs) ∧ fs.lookup m = none ∧ P := ⟨a, dx, fs, rfl, h, hl, q⟩
theorem g_fld {K : PySem.W.Frag} {a dx : Addr} {fs : List (Str × V)} {f : Str} {v : V} {P : V → Prop} (h : H a = some (.ins C dx fs)) (hc : Cls K C) (hn : NoAttr K C f) (hl : fs.lookup f = some v) (q : P v) :
    ∃ a' C dx fs v, V.ref a = .ref a' ∧ H a' = some (.ins C dx fs) ∧ Cls K C ∧ NoAttr K C f ∧ fs.lookup f = some v ∧ P v := ⟨a, C, dx, fs, v, rfl, h, hc, hn, hl, q⟩
instance p_fld {K : PySem.W.Frag} {f : Str} : Stp (tFld K ta f σ H Q) (ta σ H fun x H1 => ∃ a C dx fs v, x = .ref a ∧ H1 a = some (.ins C dx fs) ∧ Cls K C ∧ NoAttr K C f ∧ fs.lookup f = some v ∧ Q v H1) := ⟨fun q => q⟩
end
end NN
/-! own: the end of a law whose text has classes -/
namespace NN
open PySem PyProof.Rows L2
theorem fund_p {K : PySem.W.Frag} {x qual : Str} {st : Stmt} {f : Addr} {od an : Option Addr} {sl : Array (Option Value)} {oc kV dc pm cd ct : Value}
    (l : K.lookup f = some ⟨oc, od, .func (PySem.W.fnOf x qual (defArgs st) (defBody st) (defScope st) .none kV dc pm an cd ct), sl⟩)
    (c : PySem.W.codeIn K cd qual = true) (k : PySem.W.keepIn K (.ref f) = true) : FunS K x qual st [] [] f (PySem.W.fnOf x qual (defArgs st) (defBody st) (defScope st) .none kV dc pm an cd ct) :=
  ⟨⟨oc, od, .none, kV, dc, pm, an, cd, ct, sl, rfl, l, c, .inl ⟨rfl, rfl⟩, .inl rfl⟩, k⟩
theorem fund_1 {K : PySem.W.Frag} {x qual : Str} {st : Stmt} {f T : Addr} {od an odT : Option Addr} {sl slT : Array (Option Value)} {oc kV dc pm cd ct ocT u : Value} {n : Nat} {v : V}
    (l : K.lookup f = some ⟨oc, od, .func (PySem.W.fnOf x qual (defArgs st) (defBody st) (defScope st) (.ref T) kV dc pm an cd ct), sl⟩)
    (c : PySem.W.codeIn K cd qual = true) (k : PySem.W.keepIn K (.ref f) = true) (lT : K.lookup T = some ⟨ocT, odT, .seq #[u] n, slT⟩) (r : RelV v u) : FunS K x qual st [v] [] f (PySem.W.fnOf x qual (defArgs st) (defBody st) (defScope st) (.ref T) kV dc pm an cd ct) :=
  ⟨⟨oc, od, .ref T, kV, dc, pm, an, cd, ct, sl, rfl, l, c, .inr ⟨by simp, T, _, [u], n, rfl, lT, rfl, .cons r .nil⟩, .inl rfl⟩, k⟩
/-- the law's own def, at the end -/
theorem law_fin2 {l : PySem.W.OpenLaw} {w : World} {K : PySem.W.Frag} {mg : Str → Option Value} {CX : CXT} {x p : Str} {st : Stmt} {k : Nat} {sp : Sp} {fa : Addr} (F : DF K mg x st [] []) (hfa : mg x = some (.ref fa)) (B : PlainB x [p] st)
    (ok : ∀ (base : Heap) (f : Addr) (fd : FuncData), FunS K x x st [] [] f fd → FnOk l.prog w K mg base CX k f fd [p] sp) :
    ∃ fd : FuncData, (∀ (s : Shared) (v : Value), BindsTo s fd ⟨[v], []⟩ [(p, v)]) ∧ ∀ base : Heap, K.In base → base.Ns mainGlobals mg → FnOk l.prog w K mg base CX k fa fd [p] sp := by
  obtain ⟨f, fd, hm, F⟩ := F.ex
  have e : f = fa := by
    have z := hm.symm.trans hfa
    injection z with z
    injection z
  subst e
  refine ⟨fd, fun s v => ?_, fun base _ _ => ok base f fd F⟩
  obtain ⟨oc, od, dV, kV, doc, pm, an, cdv, ct, osl, rfl, lk, hcd, hD, _⟩ := F.ex
  rcases hD with ⟨_, rfl⟩ | ⟨z, _⟩
  · exact .of_eq (B kV doc pm an cdv ct [v] rfl)
  · exact absurd rfl z
def Z0 : Ad := ⟨0, 0, 0, 0, 0, 0, 0, 0, 0, 0, 0, 0, 0, 0, 0, 0, 0, 0, 0, 0, []⟩
end NN
/-! own: zip(a, b, strict=True) of two lists of one length -/
namespace NZ
open PySem
open PySem.Sem (wp)
theorem typeCall_zipS (a b : Value) : checkTypeCall "zip" ⟨[a, b], [(Str.ofString "strict", .bool true)]⟩ = pure () := by kernel_rfl
theorem newCall_zipS (a b : Value) : checkBuiltinCall "zip.__new__" ⟨[.type "zip", a, b], [(Str.ofString "strict", .bool true)]⟩ = pure () := by kernel_rfl
theorem args_object_initS (obj a b : Value) : argsOk "object.__init__" ⟨[obj, a, b], [(Str.ofString "strict", .bool true)]⟩ := by unfold argsOk; kernel_rfl
/-- a strict zip -/
abbrev IsZipS (h : Heap) (z TI TO : Addr) (f0 : Value) : Prop :=
  h.get? z = some { cls := .type "zip", dict := none, data := .fields #[f0, .bool false, .bool true, .ref TI, .ref TO], slots := #[] }
section
variable {prog : Program} {w : World} {A : Around} {E : Value → Shared → Prop} {s : Shared}
theorem nextOrEnd_item {it l : Addr} {i : Nat} {items} {x : Value} {Q : Option Value → Shared → Prop} (hit : s.heap.IsListIter it l i) (hl : s.heap.IsList l items) (hx : items[i]? = some x)
    (hQ : ∀ h', h'.IsListIter it l (i + 1) → Heap.SameBut it s.heap h' → Q (some x) { s with heap := h' }) : wpAny (model prog w) A (Builtin.SmallTypes.nextOrEnd (.ref it)) Q E s := by
  unfold Builtin.SmallTypes.nextOrEnd
  exact wpAny_bind (wpAny_attempt (wpAny_nextOf_list_item hit hl hx fun h' a b => wpAny_pure (hQ h' a b)))
theorem nextOrEnd_end {it l : Addr} {i : Nat} {items} {Q : Option Value → Shared → Prop} (hh : A.handled = none) (hit : s.heap.IsListIter it l i) (hl : s.heap.IsList l items) (hx : items[i]? = none)
    (hQ : ∀ h', Heap.ExtBut it s.heap h' → Q none { s with heap := h' }) : wpAny (model prog w) A (Builtin.SmallTypes.nextOrEnd (.ref it)) Q E s := by
  unfold Builtin.SmallTypes.nextOrEnd
  refine wpAny_bind (wpAny_attempt (wpAny_nextOf_list_end hh hit hl hx fun h' e k he => ?_))
  obtain ⟨o, ho, hc⟩ := he
  exact wpAny_bind (wpAny_isInstance (T := "StopIteration") (b := true) ⟨o, ho, hc⟩ isSubtype_stop (wpAny_pure (hQ _ k)))
theorem zip_next_item {z TI TO i1 i2 l1 l2 : Addr} {k1 k2 : Nat} {xs ys : Array Value} {x y a b : Value} {Q : Value → Shared → Prop} (D : ZipApart z TI TO i1 i2 l1 l2)
    (hz : IsZipS s.heap z TI TO .none) (hTI : IsPair s.heap TI (.ref i1) (.ref i2)) (hTO : IsPair s.heap TO a b)
    (h1 : s.heap.IsListIter i1 l1 k1) (h2 : s.heap.IsListIter i2 l2 k2) (hl1 : s.heap.IsList l1 xs) (hl2 : s.heap.IsList l2 ys) (hx : xs[k1]? = some x) (hy : ys[k2]? = some y)
    (hQ : ∀ h', IsZipS h' z TI TO (rawInt s.heap.objs.size) → IsPair h' TO x y → h'.IsListIter i1 l1 (k1 + 1) → h'.IsListIter i2 l2 (k2 + 1) → IsPair h' s.heap.objs.size x y → h'.objs.size = s.heap.objs.size + 1 →
      (∀ c o, c ≠ z → c ≠ TO → c ≠ i1 → c ≠ i2 → s.heap.get? c = some o → h'.get? c = some o) → Q (.ref s.heap.objs.size) { s with heap := h' }) :
    wpAny (model prog w) A (Builtin.«zip.__next__» ⟨[.ref z], []⟩) (fun fin s' => ∃ v, fin = .done (.ret v) ∧ Q v s') E s := by
  show wpAny _ _ (field (.ref z) 2 >>= _) _ _ _
  refine wpAny_bind (wpAny_field hz rfl (x := .bool true) rfl ?_)
  show wpAny _ _ (field (.ref z) 3 >>= _) _ _ _
  refine wpAny_bind (wpAny_field hz rfl (x := .ref TI) rfl ?_)
  refine wpAny_bind (wpAny_seqItems hTI rfl ?_)
  show wpAny _ _ (Builtin.SmallTypes.ownedTupleIsFree (.ref z) >>= _) _ _ _
  refine wpAny_bind ?_
  unfold Builtin.SmallTypes.ownedTupleIsFree
  refine wpAny_bind (wpAny_field hz rfl (x := .none) rfl (wpAny_pure ?_))
  simp only [if_true]
  refine wpAny_bind (wpAny_rule ?_)
  refine wpAny_bind (wpAny_field hz rfl (x := .ref TO) rfl ?_)
  refine wpAny_bind (wpAny_setField_rec hz (by simp) fun h₁ hz₁ hs₁ => ?_)
  replace hz₁ : IsZipS h₁ z TI TO .ellipsis := hz₁
  refine wpAny_bind ?_
  simp only [List.zipIdx_cons, List.zipIdx_nil, List.forIn_cons, List.forIn_nil]
  refine wpAny_bind (wpAny_bind (wpAny_onRaise ?_))
  show wpAny _ _ (Builtin.SmallTypes.nextOrEnd (.ref i1)) _ _ _
  refine nextOrEnd_item (h1.extBut hs₁.extBut D.i1z) (hl1.extBut hs₁.extBut D.l1z) hx fun h₂ h1₂ hs₂ => ?_
  have hTO₂ : IsPair h₂ TO a b := hs₂.extBut _ _ D.TOi1 (hs₁.extBut _ _ D.TOz hTO)
  refine wpAny_bind (wpAny_seqItems hTO₂ rfl ?_)
  refine wpAny_bind (wpAny_updateSeq_pair hTO₂ fun h₃ hTO₃ hs₃ => ?_)
  replace hTO₃ : IsPair h₃ TO x b := hTO₃
  refine wpAny_bind (wpAny_letGo (wpAny_pure ?_))
  refine wpAny_bind (wpAny_bind (wpAny_onRaise ?_))
  show wpAny _ _ (Builtin.SmallTypes.nextOrEnd (.ref i2)) _ _ _
  refine nextOrEnd_item (((h2.extBut hs₁.extBut D.i2z).extBut hs₂.extBut D.i12.symm).extBut hs₃.extBut D.TOi2.symm)
    (((hl2.extBut hs₁.extBut D.l2z).extBut hs₂.extBut D.l2i1).extBut hs₃.extBut D.l2TO) hy fun h₄ h2₄ hs₄ => ?_
  have hTO₄ : IsPair h₄ TO x b := hs₄.extBut _ _ D.TOi2 hTO₃
  refine wpAny_bind (wpAny_seqItems hTO₄ rfl ?_)
  refine wpAny_bind (wpAny_updateSeq_pair hTO₄ fun h₅ hTO₅ hs₅ => ?_)
  replace hTO₅ : IsPair h₅ TO x y := hTO₅
  refine wpAny_bind (wpAny_letGo (wpAny_pure (wpAny_pure ?_)))
  refine wpAny_bind (wpAny_seqItems hTO₅ rfl ?_)
  refine wpAny_bind (wpAny_newTuple ?_)
  have hsz : h₅.objs.size = s.heap.objs.size := by rw [hs₅.1, hs₄.1, hs₃.1, hs₂.1, hs₁.1]
  have hz₅ : IsZipS h₅ z TI TO .ellipsis := hs₅.extBut _ _ D.TOz.symm (hs₄.extBut _ _ D.i2z.symm (hs₃.extBut _ _ D.TOz.symm (hs₂.extBut _ _ D.i1z.symm hz₁)))
  have hk₅ : ∀ c o, c ≠ z → c ≠ TO → c ≠ i1 → c ≠ i2 → s.heap.get? c = some o → h₅.get? c = some o := fun c o c1 c2 c3 c4 e =>
    hs₅.extBut _ _ c2 (hs₄.extBut _ _ c4 (hs₃.extBut _ _ c2 (hs₂.extBut _ _ c3 (hs₁.extBut _ _ c1 e))))
  have h1₅ : h₅.IsListIter i1 l1 (k1 + 1) := ((h1₂.extBut hs₃.extBut D.TOi1.symm).extBut hs₄.extBut D.i12).extBut hs₅.extBut D.TOi1.symm
  have h2₅ : h₅.IsListIter i2 l2 (k2 + 1) := h2₄.extBut hs₅.extBut D.TOi2.symm
  have hzlt : z < h₅.objs.size := Heap.lt_size hz₅
  have hTOlt : TO < h₅.objs.size := Heap.lt_size hTO₅
  show wpAny _ _ (Builtin.SmallTypes.ownedTupleHandOut (.ref z) (.ref h₅.objs.size) >>= _) _ _ _
  refine wpAny_bind ?_
  unfold Builtin.SmallTypes.ownedTupleHandOut
  have hz₆ : IsZipS (h₅.push { cls := .type "tuple", data := .seq #[x, y] }) z TI TO .ellipsis := Heap.get?_push_of_some _ hz₅
  refine wpAny_bind (wpAny_setField_rec hz₆ (by simp) fun h₇ hz₇ hs₇ => ?_)
  replace hz₇ : IsZipS h₇ z TI TO (rawInt h₅.objs.size) := hz₇
  refine wpAny_setField_rec hz₇ (by simp) fun h₈ hz₈ hs₈ => ?_
  replace hz₈ : IsZipS h₈ z TI TO (rawInt h₅.objs.size) := hz₈
  have up : ∀ c o, c ≠ z → h₅.get? c = some o → h₈.get? c = some o := fun c o c1 e => hs₈.extBut _ _ c1 (hs₇.extBut _ _ c1 (Heap.get?_push_of_some _ e))
  have hT₈ : IsPair h₈ h₅.objs.size x y := hs₈.extBut _ _ (Nat.ne_of_gt hzlt) (hs₇.extBut _ _ (Nat.ne_of_gt hzlt) (Heap.get?_push_size _ rfl))
  have hz8 : h₈.objs.size = h₅.objs.size + 1 := by rw [hs₈.1, hs₇.1, Heap.size_push]
  rw [hsz] at hz₈ hT₈ hz8
  refine wpAny_pure ⟨_, rfl, ?_⟩
  show Q (.ref h₅.objs.size) _
  rw [hsz]
  exact hQ h₈ hz₈ (up _ _ D.TOz hTO₅) (h1₅.at fun o e => up _ o D.i1z e) (h2₅.at fun o e => up _ o D.i2z e) hT₈ hz8 fun c o c1 c2 c3 c4 e => up c o c1 (hk₅ c o c1 c2 c3 c4 e)
theorem stopIt {α : Type} {Q : α → Shared → Prop} (hh : A.handled = none) (hE : ∀ h' e, (∀ c o, s.heap.get? c = some o → h'.get? c = some o) → (∃ o, h'.get? e = some o ∧ o.cls = .type "StopIteration") → E (.ref e) { s with heap := h' }) :
    wpAny (model prog w) A (Builtin.SmallTypes.stopIteration : Sem α) Q E s := by
  unfold Builtin.SmallTypes.stopIteration
  refine wpAny_bind ?_
  simp only [newExc, newTuple]
  refine wpAny_bind (wpAny_newObj_type ?_ (by size_fits))
  refine wpAny_bind (m := firstArgMember _ _) (wpAny_of_eq (a := Value.none) (by first | rfl | (simp only [firstArgMember]; rfl)) ?_)
  refine wpAny_newObj_type ?_ (by size_fits)
  simp only [raiseNew]
  refine wpAny_bind (wpAny_handled ?_)
  first | rw [show A.in1.handled = none from hh] | rw [hh]
  refine wpAny_bind (wpAny_pure (wpAny_throw ?_))
  exact hE _ _ (fun c o e => Heap.get?_push_of_some _ (Heap.get?_push_of_some _ e)) ⟨_, Heap.get?_push_size _ rfl, rfl⟩
theorem zip_next_end {z TI TO i1 i2 l1 l2 : Addr} {k1 k2 : Nat} {xs ys : Array Value} {a b : Value} {Q : Fin → Shared → Prop} (hh : A.handled = none) (D : ZipApart z TI TO i1 i2 l1 l2)
    (hz : IsZipS s.heap z TI TO .none) (hTI : IsPair s.heap TI (.ref i1) (.ref i2)) (hTO : IsPair s.heap TO a b)
    (h1 : s.heap.IsListIter i1 l1 k1) (h2 : s.heap.IsListIter i2 l2 k2) (hl1 : s.heap.IsList l1 xs) (hl2 : s.heap.IsList l2 ys) (hx : xs[k1]? = none) (hy : ys[k2]? = none)
    (hE : ∀ h' e, (∀ c o, c ≠ z → c ≠ TO → c ≠ i1 → c ≠ i2 → s.heap.get? c = some o → h'.get? c = some o) → (∃ o, h'.get? e = some o ∧ o.cls = .type "StopIteration") → E (.ref e) { s with heap := h' }) :
    wpAny (model prog w) A (Builtin.«zip.__next__» ⟨[.ref z], []⟩) Q E s := by
  show wpAny _ _ (field (.ref z) 2 >>= _) _ _ _
  refine wpAny_bind (wpAny_field hz rfl (x := .bool true) rfl ?_)
  show wpAny _ _ (field (.ref z) 3 >>= _) _ _ _
  refine wpAny_bind (wpAny_field hz rfl (x := .ref TI) rfl ?_)
  refine wpAny_bind (wpAny_seqItems hTI rfl ?_)
  show wpAny _ _ (Builtin.SmallTypes.ownedTupleIsFree (.ref z) >>= _) _ _ _
  refine wpAny_bind ?_
  unfold Builtin.SmallTypes.ownedTupleIsFree
  refine wpAny_bind (wpAny_field hz rfl (x := .none) rfl (wpAny_pure ?_))
  simp only [if_true]
  refine wpAny_bind (wpAny_rule ?_)
  refine wpAny_bind (wpAny_field hz rfl (x := .ref TO) rfl ?_)
  refine wpAny_bind (wpAny_setField_rec hz (by simp) fun h₁ hz₁ hs₁ => ?_)
  replace hz₁ : IsZipS h₁ z TI TO .ellipsis := hz₁
  refine wpAny_bind ?_
  simp only [List.zipIdx_cons, List.zipIdx_nil, List.forIn_cons, List.forIn_nil]
  refine wpAny_bind (wpAny_bind (wpAny_onRaise ?_))
  show wpAny _ _ (Builtin.SmallTypes.nextOrEnd (.ref i1)) _ _ _
  refine nextOrEnd_end hh (h1.extBut hs₁.extBut D.i1z) (hl1.extBut hs₁.extBut D.l1z) hx fun h₂ hs₂ => ?_
  have hz₂ : IsZipS h₂ z TI TO .ellipsis := hs₂ _ _ D.i1z.symm hz₁
  refine wpAny_bind (wpAny_setField_rec hz₂ (by simp) fun h₃ _ hs₃ => ?_)
  refine wpAny_bind ?_
  show wpAny _ _ (forIn (m := Sem) (List.zipIdx (List.drop 1 [Value.ref i1, Value.ref i2]) 1) PUnit.unit _ >>= _) _ _ _
  simp only [List.drop, List.zipIdx_cons, List.zipIdx_nil, List.forIn_cons, List.forIn_nil]
  refine wpAny_bind (wpAny_bind (wpAny_bind ?_))
  refine nextOrEnd_end hh (((h2.extBut hs₁.extBut D.i2z).extBut hs₂ D.i12.symm).extBut hs₃.extBut D.i2z) (((hl2.extBut hs₁.extBut D.l2z).extBut hs₂ D.l2i1).extBut hs₃.extBut D.l2z) hy fun h₄ hs₄ => ?_
  show wpAny _ _ (pure _) _ _ _
  refine wpAny_pure ?_
  show wpAny _ _ (pure _) _ _ _
  refine wpAny_pure ?_
  refine wpAny_bind (wpAny_rule ?_)
  exact stopIt hh fun h' e k he => hE h' e (fun c o c1 c2 c3 c4 x => k _ _ (hs₄ _ _ c4 (hs₃.extBut _ _ c1 (hs₂ _ _ c3 (hs₁.extBut _ _ c1 x))))) he
theorem pyNext_item {z TI TO i1 i2 l1 l2 : Addr} {k1 k2 : Nat} {xs ys : Array Value} {x y a b : Value} {Q : Option Value → Shared → Prop} (D : ZipApart z TI TO i1 i2 l1 l2)
    (hz : IsZipS s.heap z TI TO .none) (hTI : IsPair s.heap TI (.ref i1) (.ref i2)) (hTO : IsPair s.heap TO a b)
    (h1 : s.heap.IsListIter i1 l1 k1) (h2 : s.heap.IsListIter i2 l2 k2) (hl1 : s.heap.IsList l1 xs) (hl2 : s.heap.IsList l2 ys) (hx : xs[k1]? = some x) (hy : ys[k2]? = some y)
    (hQ : ∀ h', IsZipS h' z TI TO (rawInt s.heap.objs.size) → IsPair h' TO x y → h'.IsListIter i1 l1 (k1 + 1) → h'.IsListIter i2 l2 (k2 + 1) → IsPair h' s.heap.objs.size x y → h'.objs.size = s.heap.objs.size + 1 →
      (∀ c o, c ≠ z → c ≠ TO → c ≠ i1 → c ≠ i2 → s.heap.get? c = some o → h'.get? c = some o) → Q (some (.ref s.heap.objs.size)) { s with heap := h' }) :
    wpAny (model prog w) A (pyNext (.ref z)) Q E s := by
  have hT : s.TypeIs (.ref z) "zip" := ⟨_, hz, rfl⟩
  unfold pyNext
  exact wpAny_bind (wpAny_attempt (wpAny_callSpecial?_slot (name := Str.ofString "__next__") hT F.slot_zip_next
    (wpAny_call_entry F.slot_zip_next hT F.entry_zip_next
      (zip_next_item D hz hTI hTO h1 h2 hl1 hl2 hx hy fun h' a1 a2 a3 a4 a5 a6 a7 => wpAny_pure (hQ h' a1 a2 a3 a4 a5 a6 a7)) (F.args_zip_next_1 _))))
theorem pyNext_end {z TI TO i1 i2 l1 l2 : Addr} {k1 k2 : Nat} {xs ys : Array Value} {a b : Value} {Q : Option Value → Shared → Prop} (hh : A.handled = none) (D : ZipApart z TI TO i1 i2 l1 l2)
    (hz : IsZipS s.heap z TI TO .none) (hTI : IsPair s.heap TI (.ref i1) (.ref i2)) (hTO : IsPair s.heap TO a b)
    (h1 : s.heap.IsListIter i1 l1 k1) (h2 : s.heap.IsListIter i2 l2 k2) (hl1 : s.heap.IsList l1 xs) (hl2 : s.heap.IsList l2 ys) (hx : xs[k1]? = none) (hy : ys[k2]? = none)
    (hQ : ∀ h', (∀ c o, c ≠ z → c ≠ TO → c ≠ i1 → c ≠ i2 → s.heap.get? c = some o → h'.get? c = some o) → Q none { s with heap := h' }) : wpAny (model prog w) A (pyNext (.ref z)) Q E s := by
  have hT : s.TypeIs (.ref z) "zip" := ⟨_, hz, rfl⟩
  unfold pyNext
  refine wpAny_bind (wpAny_attempt (wpAny_callSpecial?_slot (name := Str.ofString "__next__") hT F.slot_zip_next
    (wpAny_call_entry F.slot_zip_next hT F.entry_zip_next (zip_next_end hh D hz hTI hTO h1 h2 hl1 hl2 hx hy fun h' e hk he => ?_) (F.args_zip_next_1 _))))
  obtain ⟨o, ho, hc⟩ := he
  refine wpAny_bind (wpAny_isInstance (T := "StopIteration") (b := true) ⟨o, ho, hc⟩ isSubtype_stop ?_)
  exact wpAny_pure (hQ _ hk)
theorem letGo_zip {elts : List Expr} {x1} {pos : Pos} {z TI TO T : Addr} {Q : Unit → Shared → Prop} (hz : IsZipS s.heap z TI TO (rawInt T))
    (hQ : ∀ h', IsZipS h' z TI TO .none → Heap.SameBut z s.heap h' → Q () { s with heap := h' }) :
    wpAny (model prog w) A (letOwnedTupleGo (.Tuple elts x1 pos) (.ref z) (.ref T)) Q E s := by
  unfold letOwnedTupleGo
  refine wpAny_bind (wpAny_load hz ?_)
  show wpAny _ _ (if (["enumerate", "zip", "dict_itemiterator", "dict_reverseitemiterator", "odict_iterator", "itertools.zip_longest", "itertools.pairwise"].contains "zip" &&
      (#[rawInt T, .bool false, .bool true, .ref TI, .ref TO] : Array Value)[0]? == some (rawInt T)) = true then _ else _) Q E s
  rw [if_pos (by simp)]
  refine wpAny_bind (wpAny_rule ?_)
  show wpAny _ _ (setField (.ref z) 0 .none) Q E s
  exact wpAny_setField_rec hz (by simp) fun h' hz' hs' => hQ h' hz' hs'
theorem pyIter_zip {z TI TO : Addr} {f0 : Value} {Q : Value → Shared → Prop} (hz : IsZipS s.heap z TI TO f0) (h : Q (.ref z) s) : wpAny (model prog w) A (pyIter (.ref z)) Q E s := by
  have hT : s.TypeIs (.ref z) "zip" := ⟨_, hz, rfl⟩
  refine wpAny_pyIter_slot hT F.slot_zip_iter (wpAny_call_entry F.slot_zip_iter hT F.entry_zip_iter ?_ (F.args_zip_iter_1 _))
  show wpAny _ _ (ret (.ref z)) _ _ s
  exact wpAny_pure ⟨_, rfl, "zip", _, hT, F.slot_zip_next.lookup, h⟩
end
abbrev zipHS (h : Heap) (l1 l2 : Addr) : Heap := (zipH4 h l1 l2).push { cls := .type "zip", data := .fields #[.none, .bool false, .bool true, .ref (zipH2 h l1 l2).objs.size, .ref (zipH3 h l1 l2).objs.size] }
theorem meets_zip_newS (l1 l2 : Addr) (xs ys : Array Value) :
    Meets (Builtin.«zip.__new__» ⟨[.type "zip", .ref l1, .ref l2], [(Str.ofString "strict", .bool true)]⟩) (fun _ R s => s.heap.IsList l1 xs ∧ s.heap.IsList l2 ys ∧
      R (.ok (.ret (.ref (zipH4 s.heap l1 l2).objs.size))) { s with heap := zipHS s.heap l1 l2 }) :=
  .of_wp fun prog w A R s h => by
    obtain ⟨hp, g, d, tk, os⟩ := s; obtain ⟨hl1, hl2, h⟩ := h
    have hsub := sub_zip
    have hL1 : Heap.IsList (Shared.heap ⟨hp, g, d, tk, os⟩) l1 xs := hl1
    have hL2 : Heap.IsList (Shared.heap ⟨hp.push { cls := .type "list_iterator", data := .fields #[.ref l1, .int 0 0] }, g, d, tk, os⟩) l2 ys := Heap.IsList.push hl2 _
    have e2 : (Str.ofString "strict" != ("strict" : Str)) = false := by decide +kernel
    have e1 : (Str.ofString "strict" == ("strict" : Str)) = true := by decide +kernel
    wp_walk using wpAny_pyIter_list hL1, wpAny_pyIter_list hL2
    exact ⟨_, rfl, h⟩
section
variable {prog : Program} {w : World} {A : Around} {E : Value → Shared → Prop} {s : Shared}
theorem call_zipS {l1 l2 : Addr} {xs ys : Array Value} {Q : Value → Shared → Prop} (hl1 : s.heap.IsList l1 xs) (hl2 : s.heap.IsList l2 ys)
    (h : ∀ h', IsZipS h' (s.heap.objs.size + 4) (s.heap.objs.size + 2) (s.heap.objs.size + 3) .none → IsPair h' (s.heap.objs.size + 2) (.ref s.heap.objs.size) (.ref (s.heap.objs.size + 1)) →
      IsPair h' (s.heap.objs.size + 3) .none .none → h'.IsListIter s.heap.objs.size l1 0 → h'.IsListIter (s.heap.objs.size + 1) l2 0 → h'.objs.size = s.heap.objs.size + 5 →
      (∀ c o, s.heap.get? c = some o → h'.get? c = some o) → Q (.ref (s.heap.objs.size + 4)) { s with heap := h' }) :
    wpAny (model prog w) A (call (.type "zip") [.ref l1, .ref l2] [(Str.ofString "strict", .bool true)]) Q E s := by
  refine callType_newKw F.called_zip (by decide) (typeCall_zipS _ _) (newCall_zipS _ _) (fun obj => args_object_initS obj _ _) F.entry_zip_new
    (meets_zip_newS l1 l2 xs ys) ⟨hl1, hl2, ?_⟩
  have z1 : (zipH1 s.heap l1).objs.size = s.heap.objs.size + 1 := Heap.size_push ..
  have z2 : (zipH2 s.heap l1 l2).objs.size = s.heap.objs.size + 2 := by rw [Heap.size_push, z1]
  have z3 : (zipH3 s.heap l1 l2).objs.size = s.heap.objs.size + 3 := by rw [Heap.size_push, z2]
  have z4 : (zipH4 s.heap l1 l2).objs.size = s.heap.objs.size + 4 := by rw [Heap.size_push, z3]
  have z5 : (zipHS s.heap l1 l2).objs.size = s.heap.objs.size + 5 := by rw [Heap.size_push, z4]
  have g5 : (zipHS s.heap l1 l2).get? (zipH4 s.heap l1 l2).objs.size = some _ := Heap.get?_push_size _ rfl
  have g4 : (zipHS s.heap l1 l2).get? (zipH3 s.heap l1 l2).objs.size = some _ := Heap.get?_push_of_some _ (Heap.get?_push_size _ rfl)
  have g3 : (zipHS s.heap l1 l2).get? (zipH2 s.heap l1 l2).objs.size = some _ := Heap.get?_push_of_some _ (Heap.get?_push_of_some _ (Heap.get?_push_size _ rfl))
  have g2 : (zipHS s.heap l1 l2).get? (zipH1 s.heap l1).objs.size = some _ := Heap.get?_push_of_some _ (Heap.get?_push_of_some _ (Heap.get?_push_of_some _ (Heap.get?_push_size _ rfl)))
  have g1 : (zipHS s.heap l1 l2).get? s.heap.objs.size = some _ := Heap.get?_push_of_some _ (Heap.get?_push_of_some _ (Heap.get?_push_of_some _ (Heap.get?_push_of_some _ (Heap.get?_push_size _ rfl))))
  show _ ∧ _
  rw [z2, z3, z4] at g5
  rw [z1, z2] at g3
  rw [z3] at g4
  rw [z1] at g2
  rw [z4]
  exact ⟨⟨_, g5, rfl⟩, h _ g5 g3 g4 ⟨_, g1, rfl, rfl⟩ ⟨_, g2, rfl, rfl⟩ z5 fun c o x =>
    Heap.get?_push_of_some _ (Heap.get?_push_of_some _ (Heap.get?_push_of_some _ (Heap.get?_push_of_some _ (Heap.get?_push_of_some _ x))))⟩
end
end NZ
namespace NZ
open PySem PySem.Spec PyProof.Rows L2
theorem callWith_typeKw {M : Model} {A : Around} {E : Value → Shared → Prop} {s : Shared} {env : Env} {pos : Pos} {T : String} {e : Expr} {rest : List Expr} {kws : List Keyword} {Q : Value → Shared → Prop}
    (h : wpAny M A (spliced (backTo pos (starEach (e :: rest) env))) (fun vs s₁ => wpAny M A (evalAll ((backToKw pos (keywordEach kws env)).map (·.2)))
      (fun kvs s₂ => wpAny M A (call (.type T) vs (((backToKw pos (keywordEach kws env)).filterMap (·.1)).zip kvs)) Q E s₂) E s₁) E s)
    (he : backTo pos (starEach (e :: rest) env) = (false, eval e env) :: backTo pos (starEach rest env) := by rfl)
    (hplain : (backTo pos (starEach (e :: rest) env)).any (·.1) = false := by rfl)
    (hall : (backToKw pos (keywordEach kws env)).all (·.1.isSome) = true := by rfl)
    (hkw : (backToKw pos (keywordEach kws env)).any (·.1.isNone) = false := by rfl) :
    wpAny M A (callWith pos (.type T) [] (backTo pos (starEach (e :: rest) env)) (backToKw pos (keywordEach kws env))) Q E s := by
  have h2 : wpAny M A (evalArgs (.type T) true (backTo pos (starEach (e :: rest) env)) (backToKw pos (keywordEach kws env))) (fun a s₁ => wpAny M A (call (.type T) ([] ++ a.pos) a.kw) Q E s₁) E s := by
    rw [he] at h ⊢
    exact evalArgs_kwB hall h
  unfold callWith
  refine wpAny_bind (wpAny_holding (wpAny_mono h2 (fun a s₁ h₁ => wpAny_bind (wpAny_standAt ?_)) fun _ _ x => x))
  simp only [hplain, hkw, Bool.or_false]
  refine wpAny_bind (wpAny_pure ?_)
  exact wpAny_bind (wpAny_mono h₁ (fun r s₂ hr => wpAny_bind (wpAny_holding (wpAny_point (wpAny_pure hr)))) fun _ _ x => x)
/-- the lists at a and b as they stand at each turn, of one length, the items in new pairs -/
def ItzS (K : PySem.W.Frag) (a b : Addr) : It :=
  ⟨fun i H => ∃ (xs ys : List V) (x y : V), SqL K H a xs ∧ SqL K H b ys ∧ xs[i]? = some x ∧ ys[i]? = some y,
    fun i H v H' => ∃ T x y, v = .ref T ∧ H T = none ∧ H' = upd H T (.tup [x, y]) ∧ (∀ xs, SqL K H a xs → xs[i]? = some x) ∧ ∀ ys, SqL K H b ys → ys[i]? = some y,
    fun i H => ∃ xs ys : List V, SqL K H a xs ∧ SqL K H b ys ∧ xs.length ≤ i ∧ ys.length ≤ i⟩
theorem turn_zipS {P : Program} {w : World} {K : PySem.W.Frag} {elts : List Expr} {kk : Nat} {tpos : Pos} {a b z TI TO i1 i2 : Addr} (D : ZipApart z TI TO i1 i2 a b) :
    Turn P w K (.Tuple elts kk tpos) (ItzS K a b) [z, TI, TO, i1, i2] z (fun i h => IsZipS h z TI TO .none ∧ IsPair h TI (.ref i1) (.ref i2) ∧ (∃ x y, IsPair h TO x y) ∧ h.IsListIter i1 a i ∧ h.IsListIter i2 b i) where
  mem := by simp
  obj := fun i h st c hc => by
    obtain ⟨hz, hTI, ⟨x, y, hTO⟩, ⟨o1, e1, _, d1⟩, ⟨o2, e2, _, d2⟩⟩ := st
    have e' : c = z ∨ c = TI ∨ c = TO ∨ c = i1 ∨ c = i2 := by simpa using hc
    rcases e' with q | q | q | q | q
    · rw [q]; exact ⟨_, hz, fun v q => nomatch q⟩
    · rw [q]; exact ⟨_, hTI, fun v q => nomatch q⟩
    · rw [q]; exact ⟨_, hTO, fun v q => nomatch q⟩
    · rw [q]; exact ⟨o1, e1, fun v q => by rw [d1] at q; cases q⟩
    · rw [q]; exact ⟨o2, e2, fun v q => by rw [d2] at q; cases q⟩
  keep := fun i h h' st k => by
    obtain ⟨hz, hTI, ⟨x, y, hTO⟩, h1, h2⟩ := st
    exact ⟨k z (by simp) _ hz, k TI (by simp) _ hTI, ⟨x, y, k TO (by simp) _ hTO⟩, h1.at fun o q => k i1 (by simp) o q, h2.at fun o q => k i2 (by simp) o q⟩
  item := by
    intro X hP hw hK hc i pins s σ H E I hf st hg
    subst hP hw hK
    obtain ⟨hz, hTI, ⟨x0, y0, hTO⟩, h1, h2⟩ := st
    obtain ⟨xs, ys, x, y, hqx, hqy, hx, hy⟩ := hg
    obtain ⟨its, rv, p, _⟩ := I.list hqx
    obtain ⟨its2, rv2, p2, _⟩ := I.list hqy
    obtain ⟨u, hu, ru⟩ := rv.get hx
    obtain ⟨u2, hu2, ru2⟩ := rv2.get hy
    have hzl : z < s.heap.objs.size := Heap.lt_size hz
    refine pyNext_item D hz hTI hTO h1 h2 p.isList p2.isList (x := u) (y := u2) (by simpa using hu) (by simpa using hu2) fun h' z' TO' h1' h2' hT hsz hk => ?_
    refine ⟨_, rfl, letGo_zip (s := { s with heap := h' }) z' fun h'' z'' sb => ?_⟩
    have hT2 : h''.get? s.heap.objs.size = some { cls := .type "tuple", data := .seq #[u, u2] } := (sb.2 _ (Nat.ne_of_gt hzl)).trans hT
    have new : ObjOk X.prog X.w (upd H s.heap.objs.size (.tup [x, y])) h'' s.heap.objs.size (.tup [x, y]) :=
      ⟨by show 2 ≤ sizeLine; decide, [u, u2], .cons ru (.cons ru2 .nil), ⟨_, hT2, rfl, _, rfl⟩⟩
    have I1 : Inv X pins σ (upd H s.heap.objs.size (.tup [x, y])) { s with heap := h'' } :=
      I.turnedNew (t' := s.toks) (ch := [z, TI, TO, i1, i2]) (fun c o hb q => (sb.2 c (fun q' => hb (by simp [q']))).trans (hk c o (fun q' => hb (by simp [q'])) (fun q' => hb (by simp [q'])) (fun q' => hb (by simp [q'])) (fun q' => hb (by simp [q'])) q)) hf (Nat.le_refl _) new
    refine ⟨.ref s.heap.objs.size, _, I1, rfl, ⟨_, x, y, rfl, I.hok.fresh (Nat.le_refl _), rfl, fun l hl => by rw [I.list_inj hl hqx]; exact hx, fun l hl => by rw [I.list_inj hl hqy]; exact hy⟩, ⟨z'', ?_, ⟨u, u2, ?_⟩, ?_, ?_⟩, fun c hcm => ?_⟩
    · exact (sb.2 _ D.TIz).trans (hk _ _ D.TIz D.TITO D.TIi1 D.TIi2 hTI)
    · exact (sb.2 _ D.TOz).trans TO'
    · exact h1'.at fun o q => (sb.2 _ D.i1z).trans q
    · exact h2'.at fun o q => (sb.2 _ D.i2z).trans q
    · have hlt : c < s.heap.objs.size := by
        have e' : c = z ∨ c = TI ∨ c = TO ∨ c = i1 ∨ c = i2 := by simpa using hcm
        rcases e' with q | q | q | q | q
        · rw [q]; exact hzl
        · rw [q]; exact Heap.lt_size hTI
        · rw [q]; exact Heap.lt_size hTO
        · rw [q]; obtain ⟨_, e1, _⟩ := h1; exact Heap.lt_size e1
        · rw [q]; obtain ⟨_, e2, _⟩ := h2; exact Heap.lt_size e2
      rw [upd_ne (Nat.ne_of_lt hlt)]
      exact (hf c hcm).1
  done := by
    intro X hP hw hK hc i pins s σ H E I hf st hg
    subst hP hw hK
    obtain ⟨hz, hTI, ⟨x0, y0, hTO⟩, h1, h2⟩ := st
    obtain ⟨xs, ys, hqx, hqy, e1, e2⟩ := hg
    obtain ⟨its, rv, p, _⟩ := I.list hqx
    obtain ⟨its2, rv2, p2, _⟩ := I.list hqy
    have l1 := rv.length
    have l2 := rv2.length
    exact pyNext_end (I.ok.hd hc) D hz hTI hTO h1 h2 p.isList p2.isList (by simp; omega) (by simp; omega) fun h' hk => ⟨rfl, I.turnedL (t' := s.toks) (ch := [z, TI, TO, i1, i2]) (fun c o hb q =>
      hk c o (fun q' => hb (by simp [q'])) (fun q' => hb (by simp [q'])) (fun q' => hb (by simp [q'])) (fun q' => hb (by simp [q'])) q) hf⟩
  self := fun A i s Q E st h => pyIter_zip st.1 h
def iZipS (K : PySem.W.Frag) (ta tk : TA) : TI := fun σ H R => ta σ H fun vs H1 => tk σ H1 fun zs H2 => ∃ a b xs ys, vs = [.ref a, .ref b] ∧ zs = [.bl true] ∧ SqL K H2 a xs ∧ SqL K H2 b ys ∧ R (ItzS K a b) H2
theorem pi_zipS {X : Cx} {e e2 : Expr} {ta tk : TA} {p pos tpos : Pos} {elts : List Expr} {kk : Nat} {kws : List Keyword} (hg : Gl X "zip") (hm : X.mg "zip" = none) (ha : PA X [e, e2] ta) (hk : PK X kws tk)
    (he : backTo pos (starEach [e, e2] X.env) = (false, eval e X.env) :: backTo pos (starEach [e2] X.env) := by rfl) (hpl : (backTo pos (starEach [e, e2] X.env)).any (·.1) = false := by rfl)
    (hall : (backToKw pos (keywordEach kws X.env)).all (·.1.isSome) = true := by rfl) (hnone : (backToKw pos (keywordEach kws X.env)).any (·.1.isNone) = false := by rfl) (hks : (backToKw pos (keywordEach kws X.env)).filterMap (·.1) = [("strict" : Str)] := by rfl) :
    PI X (.Tuple elts kk tpos) (.Call (.Name "zip" p) [e, e2] kws pos) (iZipS X.K ta tk) := by
  refine ⟨fun pins s σ H R I h => ?_⟩
  refine wpAny_Call_Name_kw (ld_blt I hg hm PyProof.Rows.boot_zip ?_)
  refine callWith_typeKw (thn (ha.run pos pins s σ H _ I h) fun us s0 ⟨vs, H0, I0, r0, q0⟩ => thn (hk.run pos pins s0 σ H0 _ I0 q0) fun ws s1 ⟨zs, H1, I1, rz, q1⟩ => ?_) he hpl hall hnone
  rw [hks]
  obtain ⟨a, b, xs, ys, ex, ez, hqx, hqy, q⟩ := q1
  subst ex
  subst ez
  cases rz with
  | cons rk rkn =>
    cases rkn
    cases rk
    cases r0 with
    | cons r rr =>
      cases rr with
      | cons r' rr =>
        cases rr
        cases r
        cases r'
        obtain ⟨its, rv, p1, _⟩ := I1.list hqx
        obtain ⟨its2, rv2, p2, _⟩ := I1.list hqy
        have la : a < s1.heap.objs.size := p1.lt
        have lb : b < s1.heap.objs.size := p2.lt
        show wpAny _ _ (call (.type "zip") [.ref a, .ref b] [(Str.ofString "strict", .bool true)]) _ _ _
        refine call_zipS p1.isList p2.isList fun h' hz hTI hTO h1 h2 hsz hk => pyIter_zip hz ?_
        have I2 : Inv X pins σ H1 { s1 with heap := h' } := I1.kept (t' := s1.toks) hk
        refine ⟨s1.heap.objs.size + 4, [s1.heap.objs.size + 4, s1.heap.objs.size + 2, s1.heap.objs.size + 3, s1.heap.objs.size, s1.heap.objs.size + 1], _, _, H1, rfl, I2, turn_zipS (PySem.W.ktu_apart s1.heap.objs.size a b la lb), ⟨hz, hTI, ⟨_, _, hTO⟩, h1, h2⟩, fun c hcm => ?_, q⟩
        have e' : c = s1.heap.objs.size + 4 ∨ c = s1.heap.objs.size + 2 ∨ c = s1.heap.objs.size + 3 ∨ c = s1.heap.objs.size ∨ c = s1.heap.objs.size + 1 := by simpa using hcm
        have hle : s1.heap.objs.size ≤ c := by
          rcases e' with z | z | z | z | z
          · rw [z]; exact Nat.le_add_right _ _
          · rw [z]; exact Nat.le_add_right _ _
          · rw [z]; exact Nat.le_add_right _ _
          · rw [z]; exact Nat.le_refl _
          · rw [z]; exact Nat.le_add_right _ _
        exact I1.fpOk hle (I1.hok.fresh hle)
end NZ
/-! own: try .. except X as n; isinstance of what was caught -/
namespace NN
open PySem L2
def sTryAs (K : PySem.W.Frag) (c : Value) (i : Nat) (ts : Addr → Value → Option Addr → TS) (Wout : WX) (tb : WX → TS) : TS := fun D σ H => tb (wAs K c i ts Wout D) D σ H
section
variable {X : Cx} {x n : Str} {c : Value} {i : Nat} {body suite : List Stmt} {b₀ : Stmt} {np pos pos' : Pos} {tb : WX → TS} {ts : Addr → Value → Option Addr → TS} {Wout : WX}
theorem ps_tryA (hs : X.stack = X.env :: X.outer) (hf : X.env.frame = some X.env.locals) (hN : X.N.Nodup) (hi : X.N[i]? = some n) (hln : X.env.kindOf n = some .local) (hc : Names X x c) (tk : Takes X Wout)
    (hb : ∀ (W : WX) (pn : List (Addr × Obj)) (xe : Value → Shared → Prop), Takes (X.tr pn xe) W → PassesOwn (model X.prog X.w) X.A X.env xe → PSs (X.tr pn xe) body (tb W))
    (hsu : ∀ (a : Addr) (oe : Obj) (cls : Value) (d : Option Addr) (pn : List (Addr × Obj)), Zc cls d oe → (∃ vs, oe.data = .fields vs) → PSs (X.suite a ((a, oe) :: pn)) (b₀ :: suite) (ts a cls d)) :
    PS X (.Try body [.ExceptHandler (some (.Name x np)) (some n) (b₀ :: suite) pos'] [] [] pos) (sTryAs X.K c i ts Wout tb) := ps_try_as hs hf hN hi hln hc tk hb hsu
/-- isinstance of the caught one, whose class the reading tells -/
theorem call_isE2 {a : Addr} {oe : Obj} {cls : Value} {d : Option Addr} {pn : List (Addr × Obj)} (hz : Zc cls d oe) (hf : ∃ vs, oe.data = .fields vs) :
    CallR (X.suite a ((a, oe) :: pn)) (.builtin "isinstance") (fun xs H Q => ∃ D : Addr, cls = .ref D ∧ d = none ∧ ExcC X.K D ∧ rIsE X.K D a xs H Q) := fun pins s σ H vs us Q I r h => by
  obtain ⟨D, rfl, rfl, C, h⟩ := h
  exact call_isE C hz hf pins s σ H vs us Q I r h
end
section
variable {K : PySem.W.Frag} {σ : St} {H : Hp} {D : Ends} {c : Value} {i : Nat} {ts : Addr → Value → Option Addr → TS} {Wout : WX} {tb : WX → TS}
instance p_tryA : Stp (sTryAs K c i ts Wout tb D σ H) (tb (wAs K c i ts Wout D) D σ H) := ⟨fun q => q⟩
end
/-- isinstance of the caught one -/
abbrev rIsE2 (K : PySem.W.Frag) (a : Addr) (cls : Value) (d : Option Addr) : RCl := fun xs H Q => ∃ D : Addr, cls = .ref D ∧ d = none ∧ ExcC K D ∧ rIsE K D a xs H Q
/-- is not, of a bool or an int and a bool -/
def rNotX : R2 := fun x y H Q => ∃ b : Bool, y = .bl b ∧ ((∃ a : Bool, x = .bl a ∧ Q (.bl (!decide (a = b))) H) ∨ (∃ i : Int, x = .int i ∧ Q (.bl true) H))
theorem op_notX {X : Cx} : OpR X (compareOp .IsNot) rNotX := by
  intro pins s σ H x y v u Q I rx ry h
  obtain ⟨b, rfl, ⟨a, rfl, q⟩ | ⟨i, rfl, q⟩⟩ := h
  · cases (show v = Value.bool a from rx)
    cases (show u = Value.bool b from ry)
    by_cases e : a = b
    · subst e
      exact wpAny_isNot_self rfl ⟨.bl false, H, I, rfl, by simpa using q⟩
    · exact wpAny_isNot_other rfl (fun z => e (Value.bool.inj z)) ⟨.bl true, H, I, rfl, by simpa [e] using q⟩
  · obtain ⟨t, rfl⟩ := rx
    cases (show u = Value.bool b from ry)
    exact wpAny_isNot_other rfl (fun z => by cases z) ⟨.bl true, H, I, rfl, q⟩
end NN
/-! own: what is known of the heap, thing by thing -/
namespace NN
open PySem L2
/-! ### parts of a heap -/
def Sub (h H : Hp) : Prop := ∀ a o, h a = some o → H a = some o
theorem Sub.refl {h : Hp} : Sub h h := fun _ _ e => e
theorem Sub.trans {a b c : Hp} (x : Sub a b) (y : Sub b c) : Sub a c := fun _ _ e => y _ _ (x _ _ e)
/-- what never changes -/
def Imm (S : Addr) : HO → Prop
  | .tup _ => True
  | .ext _ => True
  | .ins C _ (_ :: _) => C = S
  | _ => False
def Cmp (S : Addr) (h1 h2 : Hp) : Prop := ∀ a o1 o2, h1 a = some o1 → h2 a = some o2 → o1 = o2 ∧ Imm S o1
theorem Cmp.symm {S : Addr} {h1 h2 : Hp} (c : Cmp S h1 h2) : Cmp S h2 h1 := fun a o1 o2 e1 e2 => by
  obtain ⟨rfl, i⟩ := c a o2 o1 e2 e1
  exact ⟨rfl, i⟩
theorem Cmp.sub {S : Addr} {h1 h2 g1 g2 : Hp} (c : Cmp S h1 h2) (s1 : Sub g1 h1) (s2 : Sub g2 h2) : Cmp S g1 g2 := fun a o1 o2 e1 e2 => c a o1 o2 (s1 _ _ e1) (s2 _ _ e2)
def jn (h1 h2 : Hp) : Hp := fun a => match h1 a with | some o => some o | none => h2 a
theorem jn_l {h1 h2 : Hp} : Sub h1 (jn h1 h2) := fun a o e => by unfold jn; rw [e]
theorem jn_r {S : Addr} {h1 h2 : Hp} (c : Cmp S h1 h2) : Sub h2 (jn h1 h2) := fun a o e => by
  unfold jn
  cases e1 : h1 a with
  | none => exact e
  | some u => rw [(c a u o e1 e).1]
theorem jn_sub {h1 h2 H : Hp} (s1 : Sub h1 H) (s2 : Sub h2 H) : Sub (jn h1 h2) H := fun a o e => by
  unfold jn at e
  cases e1 : h1 a with
  | none => rw [e1] at e; exact s2 _ _ e
  | some u => rw [e1] at e; exact s1 _ _ (e1.trans e)
theorem jn_cases {h1 h2 : Hp} {a : Addr} {o : HO} (e : jn h1 h2 a = some o) : h1 a = some o ∨ h2 a = some o := by
  unfold jn at e
  cases e1 : h1 a with
  | none => rw [e1] at e; exact .inr e
  | some u => rw [e1] at e; exact .inl e
theorem Cmp.jn {S : Addr} {h1 h2 h3 : Hp} (a : Cmp S h1 h3) (b : Cmp S h2 h3) : Cmp S (jn h1 h2) h3 := fun c o1 o2 e1 e2 =>
  (jn_cases e1).elim (fun z => a c o1 o2 z e2) (fun z => b c o1 o2 z e2)
/-- a thing: where it stands, what it is -/
structure Atom where
  p : Addr
  X : Addr → Hp → Prop
def Star (S : Addr) : List Atom → Hp → Prop
  | [], _ => True
  | a :: l, H => ∃ h1 h2, Sub h1 H ∧ Sub h2 H ∧ Cmp S h1 h2 ∧ a.X a.p h1 ∧ Star S l h2
theorem Star.mono {S : Addr} {l : List Atom} {h H : Hp} (s : Star S l h) (k : Sub h H) : Star S l H := by
  cases l with
  | nil => trivial
  | cons a l =>
    obtain ⟨h1, h2, s1, s2, c, x, r⟩ := s
    exact ⟨h1, h2, s1.trans k, s2.trans k, c, x, r⟩
theorem Star.swap {S : Addr} {a b : Atom} {l : List Atom} {H : Hp} (s : Star S (a :: b :: l) H) : Star S (b :: a :: l) H := by
  obtain ⟨h1, h2, s1, s2, c, x, h3, h4, s3, s4, c2, y, r⟩ := s
  have c14 : Cmp S h1 h4 := c.sub .refl s4
  refine ⟨h3, jn h1 h4, s3.trans s2, jn_sub s1 (s4.trans s2), ?_, y, h1, h4, jn_l, jn_r c14, c14, x, r⟩
  exact (Cmp.jn (c.sub .refl s3) c2.symm).symm
theorem Star.tail {S : Addr} {a : Atom} {l : List Atom} {H : Hp} (s : Star S (a :: l) H) : Star S l H := by
  obtain ⟨h1, h2, s1, s2, c, x, r⟩ := s
  exact r.mono s2
theorem Star.imp {S : Addr} {a b : Atom} {l l' : List Atom} {H : Hp} (s : Star S (a :: l) H) (k : ∀ h, a.X a.p h → b.X b.p h) (k2 : ∀ h, Star S l h → Star S l' h) : Star S (b :: l') H := by
  obtain ⟨h1, h2, s1, s2, c, x, r⟩ := s
  exact ⟨h1, h2, s1, s2, c, k _ x, k2 _ r⟩
/-- the thing at p and the rest -/
class Fnd (L : List Atom) (p : Addr) (X : outParam (Addr → Hp → Prop)) (R : outParam (List Atom)) : Prop where
  fwd : ∀ {S H}, Star S L H → Star S (⟨p, X⟩ :: R) H
instance (priority := high) fnd0 {p : Addr} {X : Addr → Hp → Prop} {R : List Atom} : Fnd (⟨p, X⟩ :: R) p X R := ⟨fun s => s⟩
instance fnd1 {a : Atom} {p : Addr} {X : Addr → Hp → Prop} {R R' : List Atom} [F : Fnd R p X R'] : Fnd (a :: R) p X (a :: R') :=
  ⟨fun s => (s.imp (b := a) (fun _ x => x) fun _ r => F.fwd r).swap⟩
/-- one list of things tells another -/
class Ent (L M : List Atom) : Prop where
  fwd : ∀ {S H}, Star S L H → Star S M H
instance (priority := 2000) ent0 {L : List Atom} : Ent L L := ⟨fun s => s⟩
instance (priority := 1900) entN {L : List Atom} : Ent L [] := ⟨fun _ => trivial⟩
instance (priority := 1500) ent1 {L R M : List Atom} {p : Addr} {X : Addr → Hp → Prop} [F : Fnd L p X R] [E : Ent R M] : Ent L (⟨p, X⟩ :: M) := ⟨fun s => (F.fwd s).imp (b := ⟨p, X⟩) (fun _ x => x) fun _ r => E.fwd r⟩
instance (priority := 100) entD {a : Atom} {L M : List Atom} [E : Ent L M] : Ent (a :: L) M := ⟨fun s => E.fwd s.tail⟩
/-! ### things -/
/-- one object -/
def Pt (o : HO) : Addr → Hp → Prop := fun p h => h p = some o
abbrev LV (xs : List V) : Addr → Hp → Prop := Pt (.lst xs)
abbrev LI (ns : List Int) : Addr → Hp → Prop := Pt (.lst (ns.map V.int))
abbrev TV (xs : List V) : Addr → Hp → Prop := Pt (.tup xs)
/-- a list that is read alone (the script) -/
def RL (K : PySem.W.Frag) (xs : List V) : Addr → Hp → Prop := fun p h => SqL K h p xs
/-- all but the tables of code objects -/
def noT (H : Hp) : Hp := fun a => match H a with | some (.tbl _) => none | o => o
theorem noT_some {H : Hp} {a : Addr} {o : HO} (h : noT H a = some o) : H a = some o := by
  unfold noT at h
  split at h
  · cases h
  · exact h
def plainO : HO → Bool
  | .tbl _ => false
  | .ext _ => false
  | _ => true
theorem noT_of {H : Hp} {a : Addr} {o : HO} (h : H a = some o) (n : plainO o = true) : noT H a = some o := by
  unfold noT
  rw [h]
  cases o <;> first | rfl | cases n
theorem noT_ext {H : Hp} {a : Addr} {f : Heap → Prop} (h : H a = some (.ext f)) : noT H a = some (.ext f) := by
  unfold noT
  rw [h]
theorem noT_none {H : Hp} {a : Addr} (h : H a = none) : noT H a = none := by
  unfold noT
  rw [h]
theorem noT_upd {H : Hp} {p : Addr} {o : HO} (n : ∀ ps, o ≠ .tbl ps) : noT (upd H p o) = upd (noT H) p o := by
  funext a
  by_cases e : a = p
  · subst e
    rw [upd_same]
    unfold noT
    rw [upd_same]
    cases o <;> first | rfl | exact absurd rfl (n _)
  · rw [upd_ne e]
    unfold noT
    rw [upd_ne e]
/-- what is known of the heap -/
structure SatI (T : List (Addr × Str)) (S : Addr) (L : List Atom) (H : Hp) : Prop where
  tabs : LamX.Tabs T H
  star : Star S L (noT H)
abbrev Sat (Z : Ad) (L : List Atom) (H : Hp) : Prop := SatI Z.tabs Z.Space L H
section
variable {T : List (Addr × Str)} {S : Addr} {L L' R : List Atom} {H H' : Hp} {p : Addr} {o o' : HO} {X Y : Addr → Hp → Prop} {K : PySem.W.Frag} {xs : List V}
theorem SatI.ent [E : Ent L L'] (s : SatI T S L H) : SatI T S L' H := ⟨s.tabs, E.fwd s.star⟩
theorem SatI.fnd (s : SatI T S L H) [F : Fnd L p X R] : SatI T S (⟨p, X⟩ :: R) H := ⟨s.tabs, F.fwd s.star⟩
theorem SatI.imp1 {a b : Atom} (s : SatI T S (a :: L) H) (k : ∀ h, a.X a.p h → b.X b.p h) : SatI T S (b :: L) H := ⟨s.tabs, s.star.imp k fun _ r => r⟩
theorem SatI.tail {a : Atom} (s : SatI T S (a :: L) H) : SatI T S L H := ⟨s.tabs, s.star.tail⟩
/-- the thing at the head, on a part of the heap -/
theorem SatI.head (s : SatI T S (⟨p, X⟩ :: L) H) : ∃ h, Sub h H ∧ X p h := by
  obtain ⟨_, h1, h2, s1, s2, c, x, r⟩ := s
  exact ⟨h1, fun a o e => noT_some (s1 a o e), x⟩
theorem SatI.split (s : SatI T S (⟨p, X⟩ :: L) H) : ∃ h, X p h ∧ ∀ Y : Addr → Hp → Prop, Y p h → SatI T S (⟨p, Y⟩ :: L) H := by
  obtain ⟨t, h1, h2, s1, s2, c, x, r⟩ := s
  exact ⟨h1, x, fun Y y => ⟨t, h1, h2, s1, s2, c, y, r⟩⟩
theorem SatI.at0 (s : SatI T S (⟨p, Pt o⟩ :: L) H) : H p = some o := by
  obtain ⟨h, k, x⟩ := s.head
  exact k _ _ x
theorem SatI.at (s : SatI T S L H) [F : Fnd L p (Pt o) R] : H p = some o := (s.fnd (p := p)).at0
/-- all is kept -/
theorem SatI.kp (s : SatI T S L H) (k : ∀ b o, H b = some o → H' b = some o) : SatI T S L H' :=
  ⟨fun q hq => (s.tabs q hq).ext k, s.star.mono fun a o e => by
    have e1 := noT_some e
    have z := k _ _ e1
    unfold noT at e ⊢
    rw [e1] at e
    rw [z]
    exact e⟩
theorem SatI.new (s : SatI T S L H) (hp : H p = none) (n : ∀ ps, o ≠ .tbl ps) : SatI T S (⟨p, Pt o⟩ :: L) (upd H p o) := by
  refine ⟨fun q hq => (s.tabs q hq).ext fun b u e => by rw [upd_ne (ne_of_none e hp)]; exact e, ?_⟩
  rw [noT_upd n]
  refine ⟨fun a => if a = p then some o else none, noT H, fun a u e => ?_, fun a u e => ?_, fun a u v e1 e2 => ?_, ?_, s.star⟩
  · by_cases z : a = p
    · subst z; rw [upd_same]; simpa using e
    · simp [z] at e
  · rw [upd_ne (ne_of_none e (noT_none hp))]; exact e
  · by_cases z : a = p
    · subst z; rw [noT_none hp] at e2; cases e2
    · simp [z] at e1
  · show (if p = p then some o else none) = some o
    rw [if_pos rfl]
/-- what may be written -/
def mutO (S : Addr) (o : HO) : Prop := plainO o = true ∧ ¬ Imm S o
theorem SatI.put (s : SatI T S (⟨p, Pt o⟩ :: L) H) (m : mutO S o) (n : plainO o' = true) : SatI T S (⟨p, Pt o'⟩ :: L) (upd H p o') := by
  have e0 := s.at0
  obtain ⟨t, h1, h2, s1, s2, c, x, r⟩ := s
  have nx : h2 p = none := by
    cases e : h2 p with
    | none => rfl
    | some u => exact absurd (c p o u x e).2 m.2
  refine ⟨fun q hq => ?_, ?_⟩
  · obtain ⟨ps, a1, a2, a3⟩ := t q hq
    have n1 : q.1 ≠ p := fun z => by
      rw [z, e0] at a1
      cases a1
      exact absurd m.1 (by intro z; cases z)
    refine ⟨ps, by rw [upd_ne n1]; exact a1, a2, fun pos cv hc => ?_⟩
    obtain ⟨c', f1, f2⟩ := a3 pos cv hc
    refine ⟨c', f1, ?_⟩
    have n2 : c' ≠ p := fun z => by
      rw [z, e0] at f2
      cases f2
      exact absurd m.1 (by intro z; cases z)
    rw [upd_ne n2]
    exact f2
  · rw [noT_upd (fun ps z => by subst z; cases n)]
    refine ⟨fun a => if a = p then some o' else none, h2, fun a u e => ?_, fun a u e => ?_, fun a u v e1 e2 => ?_, ?_, r⟩
    · by_cases z : a = p
      · subst z; rw [upd_same]; simpa using e
      · simp [z] at e
    · rw [upd_ne (ne_of_none e nx)]; exact s2 _ _ e
    · by_cases z : a = p
      · subst z; rw [nx] at e2; cases e2
      · simp [z] at e1
    · show (if p = p then some o' else none) = some o'
      rw [if_pos rfl]
/-- what never changes may be told twice -/
theorem SatI.dup (s : SatI T S (⟨p, Pt o⟩ :: L) H) (i : Imm S o) : SatI T S (⟨p, Pt o⟩ :: ⟨p, Pt o⟩ :: L) H := by
  obtain ⟨t, h1, h2, s1, s2, c, x, r⟩ := s
  have x : h1 p = some o := x
  have k : Sub (fun a => if a = p then some o else none) h1 := fun a u e => by
    by_cases z : a = p
    · subst z; rw [x]; simpa using e
    · simp [z] at e
  have xx : (fun a => if a = p then some o else none) p = some o := by
    show (if p = p then some o else none) = some o
    rw [if_pos rfl]
  have c' := c.sub k .refl
  refine ⟨t, fun a => if a = p then some o else none, jn (fun a => if a = p then some o else none) h2, k.trans s1, jn_sub (k.trans s1) s2, ?_, xx, _, h2, jn_l, jn_r c', c', xx, r⟩
  intro a u v e1 e2
  by_cases z : a = p
  · subst z
    have : u = o := by simpa using e1.symm
    subst this
    rcases jn_cases e2 with e | e
    · exact ⟨by simpa using e, i⟩
    · exact c' _ _ _ e1 e
  · simp [z] at e1
/-- what never changes may be told besides -/
theorem SatI.add (s : SatI T S L H) (e : H p = some o) (i : Imm S o) : SatI T S (⟨p, Pt o⟩ :: L) H := by
  have hn : noT H p = some o := by
    unfold noT
    rw [e]
    cases o <;> first | rfl | cases i
  refine ⟨s.tabs, fun a => if a = p then some o else none, noT H, fun a u q => ?_, .refl, fun a u v e1 e2 => ?_, ?_, s.star⟩
  · by_cases z : a = p
    · subst z; rw [hn]; simpa using q
    · simp [z] at q
  · by_cases z : a = p
    · subst z
      have : u = o := by simpa using e1.symm
      subst this
      rw [hn] at e2
      exact ⟨Option.some.inj e2, i⟩
    · simp [z] at e1
  · show (if p = p then some o else none) = some o
    rw [if_pos rfl]
/-- tables grew -/
theorem SatI.extN (s : SatI T S L H) (e : LamX.ExtN H H') (t : LamX.Tabs T H') : SatI T S L H' := by
  refine ⟨t, s.star.mono fun a o q => ?_⟩
  have q1 := noT_some q
  have n : ∀ ps, o ≠ .tbl ps := fun ps z => by
    unfold noT at q
    rw [q1, z] at q
    cases q
  have q2 := e a o q1 n
  unfold noT
  rw [q2]
  cases o <;> first | rfl | exact absurd rfl (n _)
theorem SatI.rl (s : SatI T S L H) [F : Fnd L p (RL K xs) R] : SqL K H p xs := by
  obtain ⟨h, k, x⟩ := (s.fnd (p := p)).head
  rcases x with (e | ⟨u, e⟩) | e
  · exact .inl (.inl (k _ _ e))
  · exact .inl (.inr ⟨u, k _ _ e⟩)
  · exact .inr e
end
/-- the items of a list that may be read -/
class RdL (K : PySem.W.Frag) (X : Addr → Hp → Prop) (xs : outParam (List V)) : Prop where
  rd : ∀ {p h H}, Sub h H → X p h → SqL K H p xs
instance rdl_pt {K : PySem.W.Frag} {xs : List V} : RdL K (Pt (.lst xs)) xs := ⟨fun k x => SqL.of (k _ _ x)⟩
instance rdl_rl {K : PySem.W.Frag} {xs : List V} : RdL K (RL K xs) xs := ⟨fun k x => by
  rcases x with (e | ⟨u, e⟩) | e
  · exact .inl (.inl (k _ _ e))
  · exact .inl (.inr ⟨u, k _ _ e⟩)
  · exact .inr e⟩
section
variable {T : List (Addr × Str)} {S : Addr} {L R : List Atom} {H : Hp} {p : Addr} {X : Addr → Hp → Prop} {K : PySem.W.Frag} {xs : List V}
theorem SatI.sq (s : SatI T S L H) [F : Fnd L p X R] [D : RdL K X xs] : SqL K H p xs := by
  obtain ⟨h, k, x⟩ := (s.fnd (p := p)).head
  exact D.rd k x
theorem SatI.st (s : SatI T S L H) [F : Fnd L p (Pt (.tup xs)) R] : SqT K H p xs := SqT.of s.at
end
end NN
/-! own: steps over what is known of the heap -/
namespace NN
open PySem L2
/-- a list of whole numbers, however it is written -/
class IsI (xs : List V) (ns : outParam (List Int)) : Prop where
  eq : xs = ns.map V.int
instance isi_map {ns : List Int} : IsI (ns.map V.int) ns := ⟨rfl⟩
instance isi_nil : IsI [] [] := ⟨rfl⟩
instance isi_cons {n : Int} {xs : List V} {ns : List Int} [I : IsI xs ns] : IsI (.int n :: xs) (n :: ns) := ⟨by rw [I.eq]; rfl⟩
instance isi_app {xs ys : List V} {ns ms : List Int} [I : IsI xs ns] [J : IsI ys ms] : IsI (xs ++ ys) (ns ++ ms) := ⟨by rw [I.eq, J.eq, List.map_append]⟩
section
variable {K : PySem.W.Frag} {Z : Ad} {L L' R R' : List Atom} {H H' : Hp} {Q : VK} {p p' : Addr} {X Y : Addr → Hp → Prop} {xs ys : List V} {ns ms : List Int} {v x y : V} {D : Ends} {g g1 g2 : TG} {tb : TS} {te : TE} {tt : TT} {σ : St} {vs : List Nat}
theorem mutO_lst {S : Addr} {xs : List V} : mutO S (.lst xs) := ⟨rfl, fun h => h⟩
theorem mutO_dK {S : Addr} {xs : List (Key × V)} : mutO S (.dK xs) := ⟨rfl, fun h => h⟩
theorem mutO_set {S : Addr} {f : Int → Bool} {n : Nat} : mutO S (.set f n) := ⟨rfl, fun h => h⟩
theorem mutO_ins {S C dx : Addr} {fs : List (Str × V)} (n : C ≠ S) : mutO S (.ins C dx fs) := ⟨rfl, fun h => by
  cases fs with
  | nil => exact h
  | cons _ _ => exact n h⟩
instance p_iTup {R : It → Hp → Prop} : Stp (iTup K te σ H R) (te σ H fun x H1 => ∃ a, x = .ref a ∧ (∃ xs, SqT K H1 a xs) ∧ R (Itt K a) H1) := ⟨fun q => q⟩
theorem g_T {A B pr : Prop} [Decidable pr] (h : pr) (q : A) : if decide pr = true then A else B := by rw [decide_eq_true h, if_pos rfl]; exact q
theorem g_F {A B pr : Prop} [Decidable pr] (h : ¬ pr) (q : B) : if decide pr = true then A else B := by rw [decide_eq_false h, if_neg Bool.false_ne_true]; exact q
theorem g_NT {A B pr : Prop} [Decidable pr] (h : pr) (q : B) : if (!decide pr) = true then A else B := by rw [decide_eq_true h]; exact q
theorem g_NF {A B pr : Prop} [Decidable pr] (h : ¬ pr) (q : A) : if (!decide pr) = true then A else B := by rw [decide_eq_false h]; exact q
/-! new things -/
theorem s_newL (s : Sat Z L H) (hl : xs.length ≤ sizeLine) (q : ∀ p H', Sat Z (⟨p, Pt (.lst xs)⟩ :: L) H' → Q (.ref p) H') : xs.length ≤ sizeLine ∧ ∀ p, H p = none → Q (.ref p) (upd H p (.lst xs)) :=
  ⟨hl, fun p hp => q p _ (s.new hp (fun _ z => by cases z))⟩
theorem s_newLI (s : Sat Z L H) (I : IsI (x :: xs) ns) (hl : (x :: xs).length ≤ sizeLine) (q : ∀ p H', Sat Z (⟨p, Pt (.lst (ns.map V.int))⟩ :: L) H' → Q (.ref p) H') : (x :: xs).length ≤ sizeLine ∧ ∀ p, H p = none → Q (.ref p) (upd H p (.lst (x :: xs))) :=
  ⟨hl, fun p hp => q p _ (I.eq ▸ s.new hp (fun _ z => by cases z))⟩
theorem s_newT (s : Sat Z L H) (hl : xs.length ≤ sizeLine) (q : ∀ p H', Sat Z (⟨p, Pt (.tup xs)⟩ :: L) H' → Q (.ref p) H') : xs.length ≤ sizeLine ∧ ∀ p, H p = none → Q (.ref p) (upd H p (.tup xs)) :=
  ⟨hl, fun p hp => q p _ (s.new hp (fun _ z => by cases z))⟩
theorem s_new {o : HO} (s : Sat Z L H) (n : ∀ ps, o ≠ .tbl ps) (q : ∀ p H', Sat Z (⟨p, Pt o⟩ :: L) H' → Q (.ref p) H') : ∀ p, H p = none → Q (.ref p) (upd H p o) := fun p hp => q p _ (s.new hp n)
theorem sat_newLI (e : upd H p (.lst (x :: xs)) = H') (hp : H p = none) (s : Sat Z L H) (I : IsI (x :: xs) ns) : Sat Z (⟨p, Pt (.lst (ns.map V.int))⟩ :: L) H' := e ▸ I.eq ▸ s.new hp (fun _ z => by cases z)
theorem sat_newL (e : upd H p (.lst xs) = H') (hp : H p = none) (s : Sat Z L H) : Sat Z (⟨p, Pt (.lst xs)⟩ :: L) H' := e ▸ s.new hp (fun _ z => by cases z)
theorem sat_newT (e : upd H p (.tup xs) = H') (hp : H p = none) (s : Sat Z L H) : Sat Z (⟨p, Pt (.tup xs)⟩ :: L) H' := e ▸ s.new hp (fun _ z => by cases z)
/-! reading -/
theorem s_lenL (s : Sat Z L H) (f : Fnd L p X R) (d : RdL K X xs) (q : Q (.int xs.length) H) : rLenS K [.ref p] H Q := ⟨p, xs, rfl, .inl s.sq, q⟩
theorem s_lenI (s : Sat Z L H) (f : Fnd L p X R) (d : RdL K X xs) (I : IsI xs ns) (q : Q (.int ns.length) H) : rLenS K [.ref p] H Q := by
  obtain rfl := I.eq
  exact s_lenL s f d (by rw [List.length_map]; exact q)
theorem s_lenT (s : Sat Z L H) (f : Fnd L p (Pt (.tup xs)) R) (q : Q (.int xs.length) H) : rLenS K [.ref p] H Q := ⟨p, xs, rfl, .inr s.st, q⟩
theorem s_listL (s : Sat Z L H) (f : Fnd L p X R) (d : RdL K X xs) (q : ∀ l H', Sat Z (⟨l, Pt (.lst xs)⟩ :: L) H' → Q (.ref l) H') : rListS K [.ref p] H Q := ⟨p, xs, rfl, .inl s.sq, s_new s (fun _ z => by cases z) q⟩
theorem s_listT (s : Sat Z L H) (f : Fnd L p (Pt (.tup xs)) R) (q : ∀ l H', Sat Z (⟨l, Pt (.lst xs)⟩ :: L) H' → Q (.ref l) H') : rListS K [.ref p] H Q := ⟨p, xs, rfl, .inr s.st, s_new s (fun _ z => by cases z) q⟩
theorem s_ixL {j : Int} (s : Sat Z L H) (f : Fnd L p X R) (d : RdL K X xs) (e : atI xs j = some v) (q : Q v H) : rIxL K (.ref p) (.int j) H Q := ⟨p, xs, j, v, rfl, rfl, s.sq, e, q⟩
theorem s_ixIn {j : Int} (s : Sat Z L H) (f : Fnd L p X R) (d : RdL K X xs) (I : IsI xs ns) (h0 : 0 ≤ j) (h1 : j < ns.length) (q : ∀ n, n ∈ ns → Q (.int n) H) : rIxL K (.ref p) (.int j) H Q := by
  obtain rfl := I.eq
  obtain ⟨n, e1, e2⟩ := ints_ix h0 h1
  exact ⟨p, _, j, .int n, rfl, rfl, s.sq, e2, q n (List.mem_of_getElem? e1)⟩
theorem s_ixT {j : Int} (s : Sat Z L H) (f : Fnd L p (Pt (.tup xs)) R) (e : atI xs j = some v) (q : Q v H) : rIxT K (.ref p) (.int j) H Q := ⟨p, xs, j, v, rfl, rfl, s.st, e, q⟩
theorem s_slL {lo hi : Option Int} (s : Sat Z L H) (f : Fnd L p X R) (d : RdL K X xs) (q : ∀ l H', Sat Z (⟨l, Pt (.lst (cutV xs lo hi))⟩ :: L) H' → Q (.ref l) H') : rSlL K (.ref p) lo hi H Q := ⟨p, xs, rfl, s.sq, s_new s (fun _ z => by cases z) q⟩
theorem s_slTo {j : Int} (s : Sat Z L H) (f : Fnd L p X R) (d : RdL K X xs) (I : IsI xs ns) (h0 : 0 ≤ j) (q : ∀ l H', Sat Z (⟨l, Pt (.lst ((ns.take j.toNat).map V.int))⟩ :: L) H' → Q (.ref l) H') : rSlL K (.ref p) none (some j) H Q :=
  s_slL s f d (by rw [I.eq, cut_toI h0]; exact q)
theorem s_slFrom {j : Int} (s : Sat Z L H) (f : Fnd L p X R) (d : RdL K X xs) (I : IsI xs ns) (h0 : 0 ≤ j) (q : ∀ l H', Sat Z (⟨l, Pt (.lst ((ns.drop j.toNat).map V.int))⟩ :: L) H' → Q (.ref l) H') : rSlL K (.ref p) (some j) none H Q :=
  s_slL s f d (by rw [I.eq, cut_fromI h0]; exact q)
theorem s_in {neg : Bool} (s : Sat Z L H) (f : Fnd L p X R) (d : RdL K X xs) (hx : flatV x = true) (hs : xs.all flatV = true) (q : Q (.bl (if neg then !inV x xs else inV x xs)) H) : rIn K neg x (.ref p) H Q := ⟨p, xs, rfl, .inl s.sq, hx, hs, q⟩
theorem inV_ints {n : Int} {ns : List Int} : inV (.int n) (ns.map V.int) = decide (n ∈ ns) := by
  unfold inV
  induction ns with
  | nil => simp
  | cons m r ih =>
    rw [List.map_cons, List.any_cons, ih]
    by_cases e : n = m
    · subst e
      simp [eqV]
    · have z : eqV (.int m) (.int n) = false := by
        show (m == n) = false
        exact beq_false_of_ne fun q => e q.symm
      rw [z, Bool.false_or]
      simp [e]
theorem s_inI {n : Int} (s : Sat Z L H) (f : Fnd L p X R) (d : RdL K X xs) (I : IsI xs ns) (q : Q (.bl (decide (n ∈ ns))) H) : rIn K false (.int n) (.ref p) H Q := by
  obtain rfl := I.eq
  refine s_in s f d rfl (ints_flat ns) ?_
  rw [if_neg Bool.false_ne_true, inV_ints]
  exact q
theorem s_ninI {n : Int} (s : Sat Z L H) (f : Fnd L p X R) (d : RdL K X xs) (I : IsI xs ns) (q : Q (.bl (!decide (n ∈ ns))) H) : rIn K true (.int n) (.ref p) H Q := by
  obtain rfl := I.eq
  refine s_in s f d rfl (ints_flat ns) ?_
  rw [if_pos rfl, inV_ints]
  exact q
theorem s_idx {n : Int} (s : Sat Z L H) (f : Fnd L p X R) (d : RdL K X xs) (I : IsI xs ns) (hx : n ∈ ns) (q : Q (.int ((ns.idxOf n : Nat) : Int)) H) : rIndex K (.ref p) [.int n] H Q := by
  obtain rfl := I.eq
  exact h_idx s.sq hx q
theorem s_cat (s : Sat Z L H) (f : Fnd L p (Pt (.lst xs)) R) (f' : Fnd L p' (Pt (.lst ys)) R') (hl : xs.length + ys.length ≤ sizeLine) (q : ∀ l H', Sat Z (⟨l, Pt (.lst (xs ++ ys))⟩ :: L) H' → Q (.ref l) H') : rCat (.ref p) (.ref p') H Q :=
  ⟨p, p', xs, ys, rfl, rfl, s.at, s.at, hl, s_new s (fun _ z => by cases z) q⟩
theorem s_catI (s : Sat Z L H) (f : Fnd L p (Pt (.lst xs)) R) (f' : Fnd L p' (Pt (.lst ys)) R') (I : IsI xs ns) (J : IsI ys ms) (hl : ns.length + ms.length ≤ sizeLine) (q : ∀ l H', Sat Z (⟨l, Pt (.lst ((ns ++ ms).map V.int))⟩ :: L) H' → Q (.ref l) H') : rCat (.ref p) (.ref p') H Q := by
  obtain rfl := I.eq
  obtain rfl := J.eq
  refine s_cat s f f' (by rw [List.length_map, List.length_map]; exact hl) ?_
  rw [← List.map_append]
  exact q
theorem s_all {bs : List Bool} (s : Sat Z L H) (f : Fnd L p (Pt (.lst (bs.map V.bl))) R) (q : Q (.bl (bs.all id)) H) : rAll K [.ref p] H Q := ⟨p, bs, rfl, s.sq, q⟩
theorem s_any {bs : List Bool} (s : Sat Z L H) (f : Fnd L p (Pt (.lst (bs.map V.bl))) R) (q : Q (.bl (bs.any id)) H) : rAny K [.ref p] H Q := ⟨p, bs, rfl, s.sq, q⟩
theorem s_tyL {A : Prop} (s : Sat Z L H) (f : Fnd L p X R) (d : RdL K X xs) (q : A) : tyV K "list" (.ref p) H ∧ A := ⟨.inl ⟨rfl, xs, s.sq⟩, q⟩
/-- sorted -/
def srt (ns : List Int) : List Int := ns.mergeSort fun a b => decide (a ≤ b)
theorem srt_perm (ns : List Int) : (srt ns).Perm ns := List.mergeSort_perm _ _
theorem srt_pw (ns : List Int) : (srt ns).Pairwise (· ≤ ·) := by
  have := List.pairwise_mergeSort (le := fun a b : Int => decide (a ≤ b)) (fun a b c h1 h2 => by simp at *; omega) (fun a b => by simp; omega) ns
  exact this.imp fun h => by simpa using h
theorem srt_eq {ns ms : List Int} (p : ms.Perm ns) (h : ms.Pairwise (· ≤ ·)) : ms = srt ns := List.Perm.eq_of_pairwise (fun _ _ _ _ a b => Int.le_antisymm a b) h (srt_pw ns) (p.trans (srt_perm ns).symm)
theorem s_sorted (s : Sat Z L H) (f : Fnd L p X R) (d : RdL K X xs) (I : IsI xs ns) (q : ∀ l H', Sat Z (⟨l, Pt (.lst ((srt ns).map V.int))⟩ :: L) H' → Q (.ref l) H') : rSortedI K [.ref p] H Q := by
  obtain rfl := I.eq
  refine ⟨p, ns, rfl, s.sq, fun ns' l hp hs hl => ?_⟩
  rw [srt_eq hp hs]
  exact q l _ (s.new hl (fun _ z => by cases z))
theorem s_eqL {Y : Addr → Hp → Prop} (s : Sat Z L H) (f : Fnd L p X R) (d : RdL K X xs) (I : IsI xs ns) (f' : Fnd L p' Y R') (d' : RdL K Y ys) (J : IsI ys ms) (q : Q (.bl (decide (ns = ms))) H) : rEqD K (.ref p) (.ref p') H Q := by
  obtain rfl := I.eq
  obtain rfl := J.eq
  exact d_eqI s.sq s.sq q
theorem s_neL {Y : Addr → Hp → Prop} (s : Sat Z L H) (f : Fnd L p X R) (d : RdL K X xs) (I : IsI xs ns) (f' : Fnd L p' Y R') (d' : RdL K Y ys) (J : IsI ys ms) (q : Q (.bl (!decide (ns = ms))) H) : rNeD K (.ref p) (.ref p') H Q := by
  obtain rfl := I.eq
  obtain rfl := J.eq
  exact d_neI s.sq s.sq q
instance p_isII {i : Int} : Stp (rIsi K [.int i, .ty "int"] H Q) (Q (.bl true) H) := ⟨fun q => isi (b := true) (.base (.int _)) (by decide +kernel) q⟩
instance p_isIB {i : Int} : Stp (rIsi K [.int i, .ty "bool"] H Q) (Q (.bl false) H) := ⟨fun q => isi (b := false) (.base (.int _)) (by decide +kernel) q⟩
instance p_isBI {i : Bool} : Stp (rIsi K [.bl i, .ty "int"] H Q) (Q (.bl true) H) := ⟨fun q => isi (b := true) (.base (.bl _)) (by decide +kernel) q⟩
instance p_isBB {i : Bool} : Stp (rIsi K [.bl i, .ty "bool"] H Q) (Q (.bl true) H) := ⟨fun q => isi (b := true) (.base (.bl _)) (by decide +kernel) q⟩
instance p_isSS {i : Str} : Stp (rIsi K [.str i, .ty "str"] H Q) (Q (.bl true) H) := ⟨fun q => isi (b := true) (.base (.str _)) (by decide +kernel) q⟩
instance p_isIS {i : Int} : Stp (rIsi K [.int i, .ty "str"] H Q) (Q (.bl false) H) := ⟨fun q => isi (b := false) (.base (.int _)) (by decide +kernel) q⟩
theorem s_isLL (s : Sat Z L H) (f : Fnd L p (Pt (.lst xs)) R) (q : Q (.bl true) H) : rIsi K [.ref p, .ty "list"] H Q := isi (b := true) (.base (.lst s.at)) (by decide +kernel) q
/-- xs[::-1] -/
def rRevL (K : PySem.W.Frag) (x : V) (H1 : Hp) (Q : VK) : Prop := ∃ a xs, x = .ref a ∧ SqL K H1 a xs ∧ ∀ p, H1 p = none → Q (.ref p) (upd H1 p (.lst xs.reverse))
instance p_revL : Stp (tRevL K te σ H Q) (te σ H fun x H1 => rRevL K x H1 Q) := ⟨fun q => q⟩
theorem s_revL (s : Sat Z L H) (f : Fnd L p X R) (d : RdL K X xs) (q : ∀ l H', Sat Z (⟨l, Pt (.lst xs.reverse)⟩ :: L) H' → Q (.ref l) H') : rRevL K (.ref p) H Q := ⟨p, xs, rfl, s.sq, s_new s (fun _ z => by cases z) q⟩
theorem s_revI (s : Sat Z L H) (f : Fnd L p X R) (d : RdL K X xs) (I : IsI xs ns) (q : ∀ l H', Sat Z (⟨l, Pt (.lst (ns.reverse.map V.int))⟩ :: L) H' → Q (.ref l) H') : rRevL K (.ref p) H Q := by
  obtain rfl := I.eq
  refine s_revL s f d ?_
  rw [← List.map_reverse]
  exact q
/-! writing -/
theorem s_append (s : Sat Z L H) (f : Fnd L p (Pt (.lst xs)) R) (hl : xs.length < sizeLine) (q : ∀ H', Sat Z (⟨p, Pt (.lst (xs ++ [y]))⟩ :: R) H' → Q .non H') : rAppend (.ref p) [y] H Q :=
  ⟨p, xs, y, rfl, rfl, s.at, hl, q _ (s.fnd.put mutO_lst rfl)⟩
theorem s_appendI {n : Int} (s : Sat Z L H) (f : Fnd L p (Pt (.lst xs)) R) (I : IsI xs ns) (hl : ns.length < sizeLine) (q : ∀ H', Sat Z (⟨p, Pt (.lst ((ns ++ [n]).map V.int))⟩ :: R) H' → Q .non H') : rAppend (.ref p) [.int n] H Q := by
  obtain rfl := I.eq
  refine s_append s f (by rw [List.length_map]; exact hl) ?_
  rw [List.map_append] at q
  exact q
theorem s_setL {QH : Hp → Prop} {k : Int} {j : Nat} (s : Sat Z L H) (f : Fnd L p (Pt (.lst xs)) R) (e : ixN xs.length k = some j) (q : ∀ H', Sat Z (⟨p, Pt (.lst (xs.set j v))⟩ :: R) H' → QH H') : rSetL (.ref p) (.int k) v H QH :=
  ⟨p, xs, k, j, rfl, rfl, s.at, e, q _ (s.fnd.put mutO_lst rfl)⟩
theorem s_setLI {QH : Hp → Prop} {k n : Int} {j : Nat} (s : Sat Z L H) (f : Fnd L p (Pt (.lst xs)) R) (I : IsI xs ns) (e : ixN ns.length k = some j) (q : ∀ H', Sat Z (⟨p, Pt (.lst ((ns.set j n).map V.int))⟩ :: R) H' → QH H') : rSetL (.ref p) (.int k) (.int n) H QH := by
  obtain rfl := I.eq
  refine s_setL s f (by rw [List.length_map]; exact e) ?_
  rw [List.map_set] at q
  exact q
theorem s_insert {i : Int} (s : Sat Z L H) (f : Fnd L p (Pt (.lst xs)) R) (hl : xs.length < sizeLine) (h0 : 0 ≤ i) (h1 : i < 2 ^ 63) (q : ∀ H', Sat Z (⟨p, Pt (.lst (xs.take i.toNat ++ [y] ++ xs.drop i.toNat))⟩ :: R) H' → Q .non H') : rInsert (.ref p) [.int i, y] H Q :=
  ⟨p, xs, i, y, rfl, rfl, s.at, hl, h0, h1, q _ (s.fnd.put mutO_lst rfl)⟩
theorem s_insertI {i n : Int} (s : Sat Z L H) (f : Fnd L p (Pt (.lst xs)) R) (I : IsI xs ns) (hl : ns.length < sizeLine) (h0 : 0 ≤ i) (h1 : i < 2 ^ 63) (q : ∀ H', Sat Z (⟨p, Pt (.lst ((ns.take i.toNat ++ [n] ++ ns.drop i.toNat).map V.int))⟩ :: R) H' → Q .non H') : rInsert (.ref p) [.int i, .int n] H Q := by
  obtain rfl := I.eq
  refine s_insert s f (by rw [List.length_map]; exact hl) h0 h1 ?_
  rw [List.map_append, List.map_append, List.map_take, List.map_drop] at q
  exact q
/-! walks -/
/-- over a list that no turn touches -/
theorem sf_list {nxt : St → Hp → Prop} {rt : VK} (s : Sat Z L H) (f : Fnd L p X R) (d : RdL K X xs) (I : Nat → St → List Atom → Prop) (h0 : I 0 σ R)
    (hs : ∀ i x σ L H, xs[i]? = some x → I i σ L → Sat Z (⟨p, X⟩ :: L) H → g x σ H fun σ2 H2 => tb { nx := fun σ' H' => ∃ L', I (i + 1) σ' L' ∧ Sat Z (⟨p, X⟩ :: L') H', rt := rt, bk := nxt, ct := fun σ' H' => ∃ L', I (i + 1) σ' L' ∧ Sat Z (⟨p, X⟩ :: L') H' } σ2 H2)
    (hd : ∀ σ L H, I xs.length σ L → Sat Z (⟨p, X⟩ :: L) H → nxt σ H) :
    ∃ a, V.ref p = .ref a ∧ (∃ xs, SqL K H a xs) ∧ ∃ W : Nat → Nat → St → Hp → Prop, (∃ m, W 0 m σ H) ∧ ∀ i m σ H, W i m σ H →
      ((Itl K a).stop i H ∧ nxt σ H) ∨ ((Itl K a).go i H ∧ ∃ N : St → Hp → Prop, (∀ σ' H', N σ' H' → ∃ m', m' < m ∧ W (i + 1) m' σ' H') ∧ ∀ x H', (Itl K a).yld i H x H' → g x σ H' fun σ2 H2 => tb { nx := N, rt := rt, bk := nxt, ct := N } σ2 H2) :=
  f_list s.sq (fun i σ' H' => ∃ L', I i σ' L' ∧ Sat Z (⟨p, X⟩ :: L') H') ⟨R, h0, s.fnd⟩ (fun i σ H _ ⟨L', _, s'⟩ => s'.sq) (fun i x σ H hx ⟨L', h, s'⟩ => hs i x σ L' H hx h s') fun σ H ⟨L', h, s'⟩ => hd σ L' H h s'
/-- over range(a) -/
theorem sf_rng {a : Int} {nxt : St → Hp → Prop} {rt : VK} (s : Sat Z L H) (hb : 0 ≤ a ∧ a ≤ 1000000) (I : Nat → St → List Atom → Prop) (h0 : I 0 σ L)
    (hs : ∀ i σ L H, ((i : Nat) : Int) < a → I i σ L → Sat Z L H → g (.int ((i : Nat) : Int)) σ H fun σ2 H2 => tb { nx := fun σ' H' => ∃ L', I (i + 1) σ' L' ∧ Sat Z L' H', rt := rt, bk := nxt, ct := fun σ' H' => ∃ L', I (i + 1) σ' L' ∧ Sat Z L' H' } σ2 H2)
    (hd : ∀ σ L H, I a.toNat σ L → Sat Z L H → nxt σ H) :
    ∃ j : Int, [V.int a] = [.int j] ∧ -(2 ^ 62) ≤ j ∧ j < 2 ^ 62 ∧ ∃ W : Nat → Nat → St → Hp → Prop, (∃ m, W 0 m σ H) ∧ ∀ i m σ H, W i m σ H →
      ((Itr 0 j.toNat).stop i H ∧ nxt σ H) ∨ ((Itr 0 j.toNat).go i H ∧ ∃ N : St → Hp → Prop, (∀ σ' H', N σ' H' → ∃ m', m' < m ∧ W (i + 1) m' σ' H') ∧ ∀ x H', (Itr 0 j.toNat).yld i H x H' → g x σ H' fun σ2 H2 => tb { nx := N, rt := rt, bk := nxt, ct := N } σ2 H2) :=
  f_rng hb (fun i σ' H' => ∃ L', I i σ' L' ∧ Sat Z L' H') ⟨L, h0, s⟩ (fun i σ H hi ⟨L', h, s'⟩ => hs i σ L' H hi h s') fun σ H ⟨L', h, s'⟩ => hd σ L' H h s'
/-- over range(a, b) -/
theorem sf_rng2 {a b : Int} {nxt : St → Hp → Prop} {rt : VK} (s : Sat Z L H) (ha : -1000000 ≤ a ∧ a ≤ 1000000) (hb : -1000000 ≤ b ∧ b ≤ 1000000) (I : Nat → St → List Atom → Prop) (h0 : I 0 σ L)
    (hs : ∀ i σ L H, a + ((i : Nat) : Int) < b → I i σ L → Sat Z L H → g (.int (a + ((i : Nat) : Int))) σ H fun σ2 H2 => tb { nx := fun σ' H' => ∃ L', I (i + 1) σ' L' ∧ Sat Z L' H', rt := rt, bk := nxt, ct := fun σ' H' => ∃ L', I (i + 1) σ' L' ∧ Sat Z L' H' } σ2 H2)
    (hd : ∀ σ L H, I (b - a).toNat σ L → Sat Z L H → nxt σ H) :
    ∃ i j : Int, [V.int a, V.int b] = [.int i, .int j] ∧ (-(2 ^ 62) ≤ i ∧ i < 2 ^ 62 ∧ -(2 ^ 62) ≤ j ∧ j < 2 ^ 62) ∧ ∃ W : Nat → Nat → St → Hp → Prop, (∃ m, W 0 m σ H) ∧ ∀ k m σ H, W k m σ H →
      ((Itr i (j - i).toNat).stop k H ∧ nxt σ H) ∨ ((Itr i (j - i).toNat).go k H ∧ ∃ N : St → Hp → Prop, (∀ σ' H', N σ' H' → ∃ m', m' < m ∧ W (k + 1) m' σ' H') ∧ ∀ x H', (Itr i (j - i).toNat).yld k H x H' → g x σ H' fun σ2 H2 => tb { nx := N, rt := rt, bk := nxt, ct := N } σ2 H2) :=
  ⟨a, b, rfl, by omega, for_range (lo := a) (n := (b - a).toNat) (D := { nx := nxt, rt := rt, bk := nxt, ct := nxt }) (fun i σ' H' => ∃ L', I i σ' L' ∧ Sat Z L' H') ⟨L, h0, s⟩ (fun i σ H hi ⟨L', h, s'⟩ => hs i σ L' H (by omega) h s') fun σ H ⟨L', h, s'⟩ => hd σ L' H h s'⟩
/-! comprehensions -/
/-- what stands behind i turns: what is made, the rest -/
structure Cv (Z : Ad) (I : Nat → List V → List Atom → Prop) (D : Addr) (i : Nat) (H' : Hp) : Prop where
  ex : ∃ acc L, I i acc L ∧ acc.length ≤ i ∧ Sat Z (⟨D, Pt (.lst acc)⟩ :: L) H'
theorem cv_yes {I : Nat → List V → List Atom → Prop} {D : Addr} {i : Nat} {acc : List V} (s : Sat Z L H) (e : Ent L (⟨D, Pt (.lst acc)⟩ :: L')) (hl : acc.length ≤ i) (hi : i < 100000) (h : I (i + 1) (acc ++ [y]) L') :
    ∃ acc, H D = some (.lst acc) ∧ acc.length < sizeLine ∧ Cv Z I D (i + 1) (upd H D (.lst (acc ++ [y]))) := by
  have s := s.ent (L' := ⟨D, Pt (.lst acc)⟩ :: L')
  exact ⟨acc, s.at0, sz_less (by omega), ⟨acc ++ [y], L', h, by rw [List.length_append, List.length_singleton]; omega, s.put mutO_lst rfl⟩⟩
theorem cv_no {I : Nat → List V → List Atom → Prop} {D : Addr} {i : Nat} {acc : List V} (s : Sat Z L H) (e : Ent L (⟨D, Pt (.lst acc)⟩ :: L')) (hl : acc.length ≤ i) (h : I (i + 1) acc L') : Cv Z I D (i + 1) H :=
  ⟨acc, L', h, by omega, s.ent⟩
theorem sc_list {Qd : Addr → Hp → Prop} (s : Sat Z L H) (f : Fnd L p X R) (d : RdL K X xs) (I : Nat → List V → List Atom → Prop) (h0 : I 0 [] R)
    (hs : ∀ D i x acc L H', xs[i]? = some x → I i acc L → acc.length ≤ i → Sat Z (⟨D, Pt (.lst acc)⟩ :: ⟨p, X⟩ :: L) H' → g x (wipe σ vs) H' fun σ2 H2 => wipe σ2 vs = wipe σ vs ∧ tt σ2 H2 fun b H3 =>
      if b = true then te σ2 H3 fun y H4 => ∃ acc, H4 D = some (.lst acc) ∧ acc.length < sizeLine ∧ Cv Z (fun i acc L => ∃ L', L = ⟨p, X⟩ :: L' ∧ I i acc L') D (i + 1) (upd H4 D (.lst (acc ++ [y]))) else Cv Z (fun i acc L => ∃ L', L = ⟨p, X⟩ :: L' ∧ I i acc L') D (i + 1) H3)
    (hd : ∀ D acc L H', I xs.length acc L → acc.length ≤ xs.length → Sat Z (⟨D, Pt (.lst acc)⟩ :: ⟨p, X⟩ :: L) H' → Qd D H') :
    ∃ a, V.ref p = .ref a ∧ (∃ xs, SqL K H a xs) ∧ ∀ D, H D = none → ∃ W : Nat → Nat → Hp → Prop, (∃ m, W 0 m (upd H D (.lst []))) ∧ ∀ i m H, W i m H →
  ((Itl K a).stop i H ∧ Qd D H) ∨ ((Itl K a).go i H ∧ ∃ Nx : Hp → Prop, (∀ H', Nx H' → ∃ m', m' < m ∧ W (i + 1) m' H') ∧ ∀ x H', (Itl K a).yld i H x H' → g x (wipe σ vs) H' fun σ2 H2 => wipe σ2 vs = wipe σ vs ∧ tt σ2 H2 fun b H3 =>
    if b = true then te σ2 H3 fun y H4 => ∃ acc, H4 D = some (.lst acc) ∧ acc.length < sizeLine ∧ Nx (upd H4 D (.lst (acc ++ [y]))) else Nx H3) := by
  refine c_list s.sq (fun D i H' => Cv Z (fun i acc L => ∃ L', L = ⟨p, X⟩ :: L' ∧ I i acc L') D i H') ?_ ?_ ?_ ?_
  · intro D hD
    exact ⟨[], _, ⟨R, rfl, h0⟩, Nat.le_refl _, s.fnd.new hD (fun _ z => by cases z)⟩
  · rintro D i H' hD hi ⟨acc, L, ⟨L', rfl, _⟩, _, s'⟩
    exact s'.sq
  · rintro D i x H' hD hx ⟨acc, L, ⟨L', rfl, h⟩, hl, s'⟩
    exact hs D i x acc L' H' hx h hl s'
  · rintro D H' hD ⟨acc, L, ⟨L', rfl, h⟩, hl, s'⟩
    exact hd D acc L' H' h hl s'
theorem sc_rng {a : Int} {Qd : Addr → Hp → Prop} (s : Sat Z L H) (hb : 0 ≤ a ∧ a ≤ 100000) (I : Nat → List V → List Atom → Prop) (h0 : I 0 [] L)
    (hs : ∀ D i acc L H', ((i : Nat) : Int) < a → I i acc L → acc.length ≤ i → Sat Z (⟨D, Pt (.lst acc)⟩ :: L) H' → g (.int ((i : Nat) : Int)) (wipe σ vs) H' fun σ2 H2 => wipe σ2 vs = wipe σ vs ∧ tt σ2 H2 fun b H3 =>
      if b = true then te σ2 H3 fun y H4 => ∃ acc, H4 D = some (.lst acc) ∧ acc.length < sizeLine ∧ Cv Z I D (i + 1) (upd H4 D (.lst (acc ++ [y]))) else Cv Z I D (i + 1) H3)
    (hd : ∀ D acc L H', I a.toNat acc L → acc.length ≤ a.toNat → Sat Z (⟨D, Pt (.lst acc)⟩ :: L) H' → Qd D H') :
    ∃ j : Int, [V.int a] = [.int j] ∧ -(2 ^ 62) ≤ j ∧ j < 2 ^ 62 ∧ ∀ D, H D = none → ∃ W : Nat → Nat → Hp → Prop, (∃ m, W 0 m (upd H D (.lst []))) ∧ ∀ i m H, W i m H →
  ((Itr 0 j.toNat).stop i H ∧ Qd D H) ∨ ((Itr 0 j.toNat).go i H ∧ ∃ Nx : Hp → Prop, (∀ H', Nx H' → ∃ m', m' < m ∧ W (i + 1) m' H') ∧ ∀ x H', (Itr 0 j.toNat).yld i H x H' → g x (wipe σ vs) H' fun σ2 H2 => wipe σ2 vs = wipe σ vs ∧ tt σ2 H2 fun b H3 =>
    if b = true then te σ2 H3 fun y H4 => ∃ acc, H4 D = some (.lst acc) ∧ acc.length < sizeLine ∧ Nx (upd H4 D (.lst (acc ++ [y]))) else Nx H3) := by
  refine c_rng (by omega) (fun D i H' => Cv Z I D i H') ?_ ?_ ?_
  · intro D hD
    exact ⟨[], _, h0, Nat.le_refl _, s.new hD (fun _ z => by cases z)⟩
  · rintro D i H' hD hi ⟨acc, L, h, hl, s'⟩
    exact hs D i acc L H' hi h hl s'
  · rintro D H' hD ⟨acc, L, h, hl, s'⟩
    exact hd D acc L H' h hl s'
/-- over a tuple -/
theorem sc_tup {Qd : Addr → Hp → Prop} (s : Sat Z L H) (f : Fnd L p (Pt (.tup xs)) R) (I : Nat → List V → List Atom → Prop) (h0 : I 0 [] R)
    (hs : ∀ D i x acc L H', xs[i]? = some x → I i acc L → acc.length ≤ i → Sat Z (⟨D, Pt (.lst acc)⟩ :: ⟨p, Pt (.tup xs)⟩ :: L) H' → g x (wipe σ vs) H' fun σ2 H2 => wipe σ2 vs = wipe σ vs ∧ tt σ2 H2 fun b H3 =>
      if b = true then te σ2 H3 fun y H4 => ∃ acc, H4 D = some (.lst acc) ∧ acc.length < sizeLine ∧ Cv Z (fun i acc L => ∃ L', L = ⟨p, Pt (.tup xs)⟩ :: L' ∧ I i acc L') D (i + 1) (upd H4 D (.lst (acc ++ [y]))) else Cv Z (fun i acc L => ∃ L', L = ⟨p, Pt (.tup xs)⟩ :: L' ∧ I i acc L') D (i + 1) H3)
    (hd : ∀ D acc L H', I xs.length acc L → acc.length ≤ xs.length → Sat Z (⟨D, Pt (.lst acc)⟩ :: ⟨p, Pt (.tup xs)⟩ :: L) H' → Qd D H') :
    ∃ a, V.ref p = .ref a ∧ (∃ xs, SqT K H a xs) ∧ ∀ D, H D = none → ∃ W : Nat → Nat → Hp → Prop, (∃ m, W 0 m (upd H D (.lst []))) ∧ ∀ i m H, W i m H →
  ((Itt K a).stop i H ∧ Qd D H) ∨ ((Itt K a).go i H ∧ ∃ Nx : Hp → Prop, (∀ H', Nx H' → ∃ m', m' < m ∧ W (i + 1) m' H') ∧ ∀ x H', (Itt K a).yld i H x H' → g x (wipe σ vs) H' fun σ2 H2 => wipe σ2 vs = wipe σ vs ∧ tt σ2 H2 fun b H3 =>
    if b = true then te σ2 H3 fun y H4 => ∃ acc, H4 D = some (.lst acc) ∧ acc.length < sizeLine ∧ Nx (upd H4 D (.lst (acc ++ [y]))) else Nx H3) := by
  refine ⟨p, rfl, ⟨xs, s.st⟩, fun D hD => lc_tup (xs := xs) (Qd := Qd D) (fun i H' => Cv Z (fun i acc L => ∃ L', L = ⟨p, Pt (.tup xs)⟩ :: L' ∧ I i acc L') D i H') ?_ ?_ ?_ ?_⟩
  · exact ⟨[], _, ⟨R, rfl, h0⟩, Nat.le_refl _, s.fnd.new hD (fun _ z => by cases z)⟩
  · rintro i H' hi ⟨acc, L, ⟨L', rfl, _⟩, _, s'⟩
    exact s'.st
  · rintro i x H' hx ⟨acc, L, ⟨L', rfl, h⟩, hl, s'⟩
    exact hs D i x acc L' H' hx h hl s'
  · rintro H' ⟨acc, L, ⟨L', rfl, h⟩, hl, s'⟩
    exact hd D acc L' H' h hl s'
/-! #### what each item gives alone -/
theorem get_map {α : Type} {as : List α} {e : α → V} {i : Nat} {x : V} (h : (as.map e)[i]? = some x) : ∃ a, as[i]? = some a ∧ x = e a := by
  rw [List.getElem?_map] at h
  cases q : as[i]? with
  | none => rw [q] at h; cases h
  | some a => rw [q] at h; exact ⟨a, rfl, (Option.some.inj h).symm⟩
theorem fm_step {α : Type} {as : List α} {P : α → Bool} {F : α → V} {i : Nat} {a : α} (h : as[i]? = some a) : ((as.take (i + 1)).filter P).map F = ((as.take i).filter P).map F ++ (if P a = true then [F a] else []) := by
  rw [List.take_add_one, h, List.filter_append, List.map_append]
  congr 1
  show (([a] : List α).filter P).map F = _
  rw [List.filter_cons]
  by_cases q : P a = true
  · rw [if_pos q, if_pos q]; rfl
  · rw [if_neg q, if_neg q]; rfl
/-- behind i turns: D holds what the first i items gave -/
structure Fm {α : Type} (Z : Ad) (S : List Atom) (as : List α) (P : α → Bool) (F : α → V) (D : Addr) (i : Nat) (H' : Hp) : Prop where
  s : Sat Z (⟨D, Pt (.lst (((as.take i).filter P).map F))⟩ :: S) H'
section
variable {α : Type} {as : List α} {e : α → V} {P : α → Bool} {F : α → V} {S : List Atom} {D : Addr} {i : Nat} {a : α} {G : α → Int}
theorem fm_len : (((as.take i).filter P).map F).length ≤ i := by
  rw [List.length_map]
  exact Nat.le_trans (List.length_filter_le _ _) (by rw [List.length_take]; omega)
theorem fm_yes (ha : as[i]? = some a) (hP : P a = true) (hy : y = F a) (s : Sat Z L H) (E : Ent L (⟨D, Pt (.lst (((as.take i).filter P).map F))⟩ :: S)) (hn : as.length ≤ 100000) :
    ∃ acc, H D = some (.lst acc) ∧ acc.length < sizeLine ∧ Fm Z S as P F D (i + 1) (upd H D (.lst (acc ++ [y]))) := by
  have s := s.ent (L' := ⟨D, Pt (.lst (((as.take i).filter P).map F))⟩ :: S)
  have hi := (List.getElem?_eq_some_iff.mp ha).1
  refine ⟨_, s.at0, sz_less (Nat.lt_of_le_of_lt fm_len (by omega)), ⟨?_⟩⟩
  rw [fm_step ha, if_pos hP, ← hy]
  exact s.put mutO_lst rfl
theorem fm_no (ha : as[i]? = some a) (hP : P a = false) (s : Sat Z L H) (E : Ent L (⟨D, Pt (.lst (((as.take i).filter P).map F))⟩ :: S)) : Fm Z S as P F D (i + 1) H := by
  refine ⟨?_⟩
  rw [fm_step ha, if_neg (by rw [hP]; exact Bool.false_ne_true), List.append_nil]
  exact s.ent
theorem fin_fm {Qd : Addr → Hp → Prop} (q : ∀ D H', Sat Z (⟨D, Pt (.lst ((as.filter P).map F))⟩ :: S) H' → Qd D H') : ∀ D H', Fm Z S as P F D as.length H' → Qd D H' := fun D H' h => q D H' (by have := h.s; rwa [List.take_length] at this)
theorem fin_fmI {Qd : Addr → Hp → Prop} (q : ∀ D H', Sat Z (⟨D, Pt (.lst (((as.filter P).map G).map V.int))⟩ :: S) H' → Qd D H') : ∀ D H', Fm Z S as P (fun a => .int (G a)) D as.length H' → Qd D H' := fin_fm fun D H' h => q D H' (by rw [List.map_map]; exact h)
theorem fin_mp {Qd : Addr → Hp → Prop} (q : ∀ D H', Sat Z (⟨D, Pt (.lst (as.map F))⟩ :: S) H' → Qd D H') : ∀ D H', Fm Z S as (fun _ => true) F D as.length H' → Qd D H' := fin_fm fun D H' h => q D H' (by rwa [List.filter_eq_self.mpr (fun _ _ => rfl)] at h)
theorem fin_mpI {Qd : Addr → Hp → Prop} (q : ∀ D H', Sat Z (⟨D, Pt (.lst ((as.map G).map V.int))⟩ :: S) H' → Qd D H') : ∀ D H', Fm Z S as (fun _ => true) (fun a => .int (G a)) D as.length H' → Qd D H' := fin_mp fun D H' h => q D H' (by rw [List.map_map]; exact h)
/-- over a list -/
theorem fm_list {Qd : Addr → Hp → Prop} (s : Sat Z L H) (f : Fnd L p X R) (d : RdL K X xs) (as : List α) (e : α → V) (hx : xs = as.map e) (P : α → Bool) (F : α → V)
    (hs : ∀ D i a H', as[i]? = some a → Sat Z (⟨D, Pt (.lst (((as.take i).filter P).map F))⟩ :: ⟨p, X⟩ :: R) H' → g (e a) (wipe σ vs) H' fun σ2 H2 => wipe σ2 vs = wipe σ vs ∧ tt σ2 H2 fun b H3 =>
      if b = true then te σ2 H3 fun y H4 => ∃ acc, H4 D = some (.lst acc) ∧ acc.length < sizeLine ∧ Fm Z (⟨p, X⟩ :: R) as P F D (i + 1) (upd H4 D (.lst (acc ++ [y]))) else Fm Z (⟨p, X⟩ :: R) as P F D (i + 1) H3)
    (hd : ∀ D H', Fm Z (⟨p, X⟩ :: R) as P F D as.length H' → Qd D H') :
    ∃ a, V.ref p = .ref a ∧ (∃ xs, SqL K H a xs) ∧ ∀ D, H D = none → ∃ W : Nat → Nat → Hp → Prop, (∃ m, W 0 m (upd H D (.lst []))) ∧ ∀ i m H, W i m H →
  ((Itl K a).stop i H ∧ Qd D H) ∨ ((Itl K a).go i H ∧ ∃ Nx : Hp → Prop, (∀ H', Nx H' → ∃ m', m' < m ∧ W (i + 1) m' H') ∧ ∀ x H', (Itl K a).yld i H x H' → g x (wipe σ vs) H' fun σ2 H2 => wipe σ2 vs = wipe σ vs ∧ tt σ2 H2 fun b H3 =>
    if b = true then te σ2 H3 fun y H4 => ∃ acc, H4 D = some (.lst acc) ∧ acc.length < sizeLine ∧ Nx (upd H4 D (.lst (acc ++ [y]))) else Nx H3) := by
  subst hx
  refine c_list s.sq (fun D i H' => Fm Z (⟨p, X⟩ :: R) as P F D i H') ?_ ?_ ?_ ?_
  · intro D hD
    exact ⟨s.fnd.new hD (fun _ z => by cases z)⟩
  · rintro D i H' hD hi ⟨s'⟩
    exact s'.sq
  · rintro D i x H' hD hx ⟨s'⟩
    obtain ⟨a, ha, rfl⟩ := get_map hx
    exact hs D i a H' ha s'
  · intro D H' hD h
    rw [List.length_map] at h
    exact hd D H' h
/-- over a tuple -/
theorem fm_tup {Qd : Addr → Hp → Prop} (s : Sat Z L H) (f : Fnd L p (Pt (.tup xs)) R) (as : List α) (e : α → V) (hx : xs = as.map e) (P : α → Bool) (F : α → V)
    (hs : ∀ D i a H', as[i]? = some a → Sat Z (⟨D, Pt (.lst (((as.take i).filter P).map F))⟩ :: ⟨p, Pt (.tup xs)⟩ :: R) H' → g (e a) (wipe σ vs) H' fun σ2 H2 => wipe σ2 vs = wipe σ vs ∧ tt σ2 H2 fun b H3 =>
      if b = true then te σ2 H3 fun y H4 => ∃ acc, H4 D = some (.lst acc) ∧ acc.length < sizeLine ∧ Fm Z (⟨p, Pt (.tup xs)⟩ :: R) as P F D (i + 1) (upd H4 D (.lst (acc ++ [y]))) else Fm Z (⟨p, Pt (.tup xs)⟩ :: R) as P F D (i + 1) H3)
    (hd : ∀ D H', Fm Z (⟨p, Pt (.tup xs)⟩ :: R) as P F D as.length H' → Qd D H') :
    ∃ a, V.ref p = .ref a ∧ (∃ xs, SqT K H a xs) ∧ ∀ D, H D = none → ∃ W : Nat → Nat → Hp → Prop, (∃ m, W 0 m (upd H D (.lst []))) ∧ ∀ i m H, W i m H →
  ((Itt K a).stop i H ∧ Qd D H) ∨ ((Itt K a).go i H ∧ ∃ Nx : Hp → Prop, (∀ H', Nx H' → ∃ m', m' < m ∧ W (i + 1) m' H') ∧ ∀ x H', (Itt K a).yld i H x H' → g x (wipe σ vs) H' fun σ2 H2 => wipe σ2 vs = wipe σ vs ∧ tt σ2 H2 fun b H3 =>
    if b = true then te σ2 H3 fun y H4 => ∃ acc, H4 D = some (.lst acc) ∧ acc.length < sizeLine ∧ Nx (upd H4 D (.lst (acc ++ [y]))) else Nx H3) := by
  subst hx
  refine ⟨p, rfl, ⟨_, s.st⟩, fun D hD => lc_tup (xs := as.map e) (Qd := Qd D) (fun i H' => Fm Z (⟨p, Pt (.tup (as.map e))⟩ :: R) as P F D i H') ?_ ?_ ?_ ?_⟩
  · exact ⟨s.fnd.new hD (fun _ z => by cases z)⟩
  · rintro i H' hi ⟨s'⟩
    exact s'.st
  · rintro i x H' hx ⟨s'⟩
    obtain ⟨a, ha, rfl⟩ := get_map hx
    exact hs D i a H' ha s'
  · intro H' h
    rw [List.length_map] at h
    exact hd D H' h
/-- over range(a) -/
theorem fm_rng {a : Int} {Qd : Addr → Hp → Prop} (s : Sat Z L H) (n : Nat) (hb : a = n) (hn : n ≤ 100000) (P : Nat → Bool) (F : Nat → V)
    (hs : ∀ D i H', i < n → (List.range n)[i]? = some i → Sat Z (⟨D, Pt (.lst ((((List.range n).take i).filter P).map F))⟩ :: L) H' → g (.int ((i : Nat) : Int)) (wipe σ vs) H' fun σ2 H2 => wipe σ2 vs = wipe σ vs ∧ tt σ2 H2 fun b H3 =>
      if b = true then te σ2 H3 fun y H4 => ∃ acc, H4 D = some (.lst acc) ∧ acc.length < sizeLine ∧ Fm Z L (List.range n) P F D (i + 1) (upd H4 D (.lst (acc ++ [y]))) else Fm Z L (List.range n) P F D (i + 1) H3)
    (hd : ∀ D H', Fm Z L (List.range n) P F D (List.range n).length H' → Qd D H') :
    ∃ j : Int, [V.int a] = [.int j] ∧ -(2 ^ 62) ≤ j ∧ j < 2 ^ 62 ∧ ∀ D, H D = none → ∃ W : Nat → Nat → Hp → Prop, (∃ m, W 0 m (upd H D (.lst []))) ∧ ∀ i m H, W i m H →
  ((Itr 0 j.toNat).stop i H ∧ Qd D H) ∨ ((Itr 0 j.toNat).go i H ∧ ∃ Nx : Hp → Prop, (∀ H', Nx H' → ∃ m', m' < m ∧ W (i + 1) m' H') ∧ ∀ x H', (Itr 0 j.toNat).yld i H x H' → g x (wipe σ vs) H' fun σ2 H2 => wipe σ2 vs = wipe σ vs ∧ tt σ2 H2 fun b H3 =>
    if b = true then te σ2 H3 fun y H4 => ∃ acc, H4 D = some (.lst acc) ∧ acc.length < sizeLine ∧ Nx (upd H4 D (.lst (acc ++ [y]))) else Nx H3) := by
  subst hb
  refine c_rng (by omega) (fun D i H' => Fm Z L (List.range n) P F D i H') ?_ ?_ ?_
  · intro D hD
    exact ⟨s.new hD (fun _ z => by cases z)⟩
  · rintro D i H' hD hi ⟨s'⟩
    exact hs D i H' (by omega) (by rw [List.getElem?_range (by omega)]) s'
  · intro D H' hD h
    rw [Int.toNat_natCast] at h
    exact hd D H' (by rw [List.length_range]; exact h)
end
end
end NN
/-! own: a lambda of one parameter as key= of min, max, sorted -/
namespace NL
open PySem PySem.Spec PyProof.Rows L2 LamX
/-- a lambda's names: its one parameter a, captured ones, globals -/
structure Lam1 (sc scope : Scope) (a : Str) : Prop where
  kind : scope.kind = .function
  co : scope.isCoroutine = false
  gen : scope.isGenerator = false
  par : scope.names.lookup a = some .local
  own : ∀ y ∈ scope.names, y.2 ≠ .cell ∧ (y.2 = .local → y.1 = a)
  free : ∀ y ∈ scope.names, y.2 = .free → sc.names.lookup y.1 = some .cell ∨ sc.names.lookup y.1 = some .free
def lam1B (sc scope : Scope) (a : Str) : Bool :=
  decide (scope.kind = .function) && !scope.isCoroutine && !scope.isGenerator && decide (scope.names.lookup a = some .local) && scope.names.all fun y => !decide (y.2 = .cell) && (!decide (y.2 = .local) || decide (y.1 = a)) && (!decide (y.2 = .free) || decide (sc.names.lookup y.1 = some .cell) || decide (sc.names.lookup y.1 = some .free))
theorem lam1_by {sc scope : Scope} {a : Str} (h : lam1B sc scope a = true) : Lam1 sc scope a := by
  unfold lam1B at h
  simp only [Bool.and_eq_true, Bool.or_eq_true, Bool.not_eq_true', decide_eq_true_eq, decide_eq_false_iff_not, List.all_eq_true] at h
  obtain ⟨⟨⟨⟨h1, h2⟩, h3⟩, h5⟩, h4⟩ := h
  refine ⟨h1, h2, h3, h5, fun y hy => ⟨(h4 y hy).1.1, fun e => ?_⟩, fun y hy e => ?_⟩
  · rcases (h4 y hy).1.2 with z | z
    · exact absurd e z
    · exact z
  · rcases (h4 y hy).2 with (z | z) | z
    · exact absurd e z
    · exact .inl z
    · exact .inr z
theorem Lam1.has {X : Cx} {scope : Scope} {a : Str} (L : Lam1 X.env.scope scope a) (ok : X.Ok) : ∀ y ∈ scope.names, y.2 = .free → ∃ c, X.env.cells.lookup y.1 = some c := fun y hy e => by
  rcases L.free y hy e with k | k
  · exact ok.has _ (.inl k)
  · exact ok.has _ (.inr k)
/-- the body's context: as lamCx, nothing is let out -/
abbrev bodyCx (X : Cx) (A : Around) (s : Shared) (H : Hp) (scope : Scope) (f c' : Addr) : Cx := (lamCx X A X.stack s H (fun _ _ _ => False) scope f c').nox
section
variable {X : Cx} {pins : List (Addr × Obj)} {σ : L2.St} {H : Hp} {s : Shared} {A : Around} {scope : Scope} {f c' : Addr} {a : Str} {j : Nat} {x : V} {u : Value} {h₁ : Heap} {tk : Nat}
theorem lam1_start (I : Inv X pins σ H s) (L : Lam1 X.env.scope scope a) (e0 : Env0 X.prog X.w X.K X.mg X.base A X.stack s H) (hd : A.handled = none) (nd : X.N.Nodup) (hj : X.N[j]? = some a) (rx : RelV x u)
    (hns : h₁.Ns s.heap.objs.size fun y => ([(a, u)] : List (Str × Value)).reverse.lookup y) (kp : ∀ b o, s.heap.get? b = some o → h₁.get? b = some o) :
    Inv (bodyCx X A s H scope f c') [] (σ.set j (some x)) H { s with heap := h₁, toks := tk } := by
  have hfree := L.has I.ok
  have jl : j < X.N.length := (List.getElem?_eq_some_iff.mp hj).1
  have ne0 : ∀ (b : Addr) (o : Obj), s.heap.get? b = some o → h₁.get? b = some o := kp
  have cm : ∀ {y c}, (cloFrom X.env.cells scope.names []).lookup y = some c → X.env.cells.lookup y = some c := fun {y c} e => by
    rcases cloFrom_mem (PySem.mem_of_lookup e) with hm | ⟨h1, h2⟩
    · cases hm
    · obtain ⟨c1, hc⟩ := hfree _ h1 rfl
      have hc : X.env.cells.lookup y = some c1 := hc
      rw [show c = c1 by rw [h2, hc]; rfl]
      exact hc
  have look : ∀ {y}, scope.names.lookup y = some .free → ∃ c, (cloFrom X.env.cells scope.names []).lookup y = some c := fun {y} hl =>
    mem_lookup (cloFrom_has (cells := X.env.cells) (acc := []) (PySem.mem_of_lookup hl))
  have noA : ∀ b : Addr, b ∉ (bodyCx X A s H scope f c').ex := fun b z => absurd (show b ∈ ([] : List Addr) from z) (by simp)
  have noC : ∀ {y}, scope.names.lookup y ≠ some .cell := fun {y} e => (L.own _ (PySem.mem_of_lookup e)).1 rfl
  refine ⟨⟨e0.mod, L.kind, rfl, rfl, Nat.le_refl _, fun y z c e1 e2 => I.ok.inj y z c (cm e1) (cm e2), fun y hy => ?_, fun y c z _ => ?_, fun _ => hd, Around.frames_deeper e0.frames, .inr ⟨rfl, rfl⟩, fun b z => absurd z (noA b), e0.bs, e0.bsz, fun b _ _ => noA b,
      fun b z => absurd z (noA b), e0.funs, e0.frf⟩,
    rfl, e0.bare, Un.kept kp, ⟨_, hns, fun i y v e1 e2 e3 => ?_⟩, fun y c e => ?_, e0.hok.fresh (Nat.le_refl _), fun y c e => I.freeC y c (cm e), fun q hq => absurd (show q ∈ ([] : List (Addr × Obj)) ++ [] from hq) (by simp), e0.hok.kept kp, ?_⟩
  · have hy : scope.names.lookup y = some .cell ∨ scope.names.lookup y = some .free := hy
    rcases hy with hy | hy
    · exact absurd hy noC
    · exact look hy
  · have z : false = true := z
    cases z
  · have e3 : Vis scope y := e3
    have e1 : X.N[i]? = some y := e1
    by_cases hy : y = a
    · subst hy
      have ij : i = j := nodup_ix nd e1 hj
      subst ij
      rw [List.getElem?_set_self (by rw [I.len]; exact jl)] at e2
      cases e2
      refine ⟨u, rx, .inl ⟨L.par, ?_⟩⟩
      show ([(y, u)] : List (Str × Value)).reverse.lookup y = some u
      simp [List.lookup]
    · have hij : i ≠ j := fun z => hy (by rw [z, hj] at e1; exact (Option.some.inj e1).symm)
      rw [List.getElem?_set_ne (fun z => hij z.symm)] at e2
      rcases e3 with k | k | k
      · exact absurd ((L.own _ (PySem.mem_of_lookup k)).2 rfl) hy
      · exact absurd k noC
      · obtain ⟨m, hn, hl⟩ := I.loc
        have hvis : Vis X.env.scope y := (L.free _ (PySem.mem_of_lookup k) rfl).elim (fun k => .inr (.inl k)) (fun k => .inr (.inr k))
        obtain ⟨w', r, q⟩ := hl i y v e1 e2 hvis
        obtain ⟨c2, h2⟩ := look k
        refine ⟨w', r, .inr ⟨.inr k, c2, h2, ?_⟩⟩
        have c1 := cm h2
        rcases q with ⟨k', _⟩ | ⟨_, c3, e', o, z1, z2⟩
        · have k' : X.env.scope.names.lookup y = some .local := k'
          rcases L.free _ (PySem.mem_of_lookup k) rfl with k2 | k2 <;> rw [show X.env.scope.names.lookup y = _ from k2] at k' <;> cases k'
        · rw [c1] at e'
          cases e'
          exact ⟨o, kp _ _ z1, z2⟩
  · obtain ⟨v, o, ho, hd⟩ := I.cell y c (cm e)
    exact ⟨v, o, kp _ _ ho, hd⟩
  · rw [List.length_set]
    exact I.len
/-- the lambda is called, from within a built-in too (A: where) -/
theorem lam1_call {params : Arguments} {body : Expr} {pm ctv : Value} {k : Nat} {tb : TE} {Q : VK} (I : Inv X pins σ H s) (e0 : Env0 X.prog X.w X.K X.mg X.base A X.stack s H) (L : Lam1 X.env.scope scope a) (nd : X.N.Nodup) (hj : X.N[j]? = some a)
    (hf : s.heap.get? f = some (PySem.W.kla_obj "<lambda>" (X.env.qual ++ "<lambda>") params body scope (cloFrom X.env.cells scope.names []) pm c' ctv)) (hc : s.heap.CodeRec (.ref c') (X.env.qual ++ "<lambda>"))
    (hbind : bindArgs (PySem.W.kla_fn "<lambda>" (X.env.qual ++ "<lambda>") params body scope (cloFrom X.env.cells scope.names []) pm (.ref c') ctv) ⟨[u], []⟩ = pure [(a, u)]) (hr : Room (k + 1) A)
    (hbody : Room k (A.deeper (lamEnv X scope s.heap.objs.size f c')) → PE (bodyCx X A s H scope f c') body tb) (rx : RelV x u) (h : tb (σ.set j (some x)) H Q) :
    wpAny (model X.prog X.w) A (call (.ref f) [u]) (EP X pins σ Q) (fun _ _ => False) s := by
  have rc : codeAny (model X.prog X.w) A (.call (.ref f) ⟨[u], []⟩) (CR C8.CX0 X.stack X.prog X.w H s Q C8.E0) s := by
    refine PySem.W.kla_callFunE hr.depth hf rfl L.co L.gen rfl hc ?_
    rw [hbind]
    refine wpAny_pure (wpAny_newFunctionEnv (fun y hy => (L.own y hy).1) (fun y hy => ?_) (fun h₁ hns hsb => ⟨I.nolimit.fresh _ hsb, ?_⟩) L.kind)
    · rw [List.mem_singleton.mp hy]; exact L.par
    show codeAny _ _ (.expr body (lamEnv X scope s.heap.objs.size f c')) _ _
    have kp : ∀ b o, s.heap.get? b = some o → h₁.get? b = some o := fun b o e => hsb.extBut b o (Nat.ne_of_lt (Heap.lt_size e)) (Heap.get?_push_of_some _ e)
    have J := lam1_start (f := f) (c' := c') (tk := s.toks + ([(a, u)] : List (Str × Value)).length) I L e0 hr.hd nd hj rx hns kp
    refine PySem.W.kla_codeExpr (wpAny_mono ((hbody (hr.deeper _)).run [] _ _ H Q J h) (fun v s' hq => ?_) fun e s' hq => hq.elim)
    obtain ⟨w', H', J', rv, q⟩ := hq
    exact ⟨w', H', J'.os, J'.bare, J'.base, J'.hok, rv, q⟩
  refine wpAny_call (codeAny_mono rc fun r s' hq => ?_)
  cases r with
  | error e => exact (show False from hq).elim
  | ok fl =>
    cases fl with
    | ret u => exact I.after hq
    | next => exact False.elim hq
    | brk => exact False.elim hq
    | cont => exact False.elim hq
end
end NL
/-! own: min, max with such a key -/
namespace NL
open PySem PySem.Spec PyProof.Rows L2 LamX
section
variable {X : Cx} {pins : List (Addr × Obj)} {σ : L2.St} {H : Hp} {s s' : Shared} {A : Around} {scope : Scope} {f c' : Addr} {a : Str} {j : Nat} {x : V} {u : Value} {h₁ : Heap} {tk : Nat}
/-- all but the things at ws stands as it stood -/
structure Mv (ws : List Addr) (s s' : Shared) : Prop where
  heap : ∀ b o, b ∉ ws → s.heap.get? b = some o → s'.heap.get? b = some o
  gens : s'.gens = s.gens
  os : s'.os = s.os
theorem Mv.of {ws : List Addr} {s s' : Shared} (m : Moved ws (fun p q => q = p) s s') : Mv ws s s' := ⟨m.heap, m.gens, m.os⟩
/-- an address that the def did not know -/
structure Nw (X : Cx) (pins : List (Addr × Obj)) (b : Addr) : Prop where
  ge : X.s_0.heap.objs.size ≤ b
  loc : b ≠ X.env.locals
  cell : ∀ x c, X.env.cells.lookup x = some c → c ≠ b
  pin : ∀ p ∈ X.pn ++ pins, p.1 ≠ b
  frs : b ∉ frs X.stack
theorem Nw.of (I : Inv X pins σ H s) {b : Addr} (hb : s.heap.objs.size ≤ b) : Nw X pins b where
  ge := Nat.le_trans I.sz hb
  loc := Nat.ne_of_gt (Nat.lt_of_lt_of_le I.lt hb)
  cell := fun x c e => by
    obtain ⟨v, o, ho, _⟩ := I.cell x c e
    exact Nat.ne_of_lt (Nat.lt_of_lt_of_le (Heap.lt_size ho) hb)
  pin := fun p hp => Nat.ne_of_lt (Nat.lt_of_lt_of_le (Heap.lt_size (I.pin p hp).1) hb)
  frs := fun z => by
    rcases List.mem_cons.mp (I.stkSub _ z) with e | e
    · exact absurd e (Nat.ne_of_gt (Nat.lt_of_lt_of_le I.lt hb))
    · exact I.nofs hb e
/-- a built-in moved things that the def does not know -/
theorem inv_moved {ws : List Addr} (I : Inv X pins σ H s) (m : Mv ws s s') (hw : ∀ b ∈ ws, Nw X pins b ∧ H b = none) : Inv X pins σ H s' := by
  obtain ⟨h', g', d', t', o'⟩ := s'
  have ho : o' = s.os := m.os
  have hg : g' = s.gens := m.gens
  subst ho
  subst hg
  have nH : ∀ b o, H b = some o → b ∉ ws := fun b o e z => by
    rw [(hw b z).2] at e
    cases e
  have kk : ∀ b o, b ∉ ws → s.heap.get? b = some o → h'.get? b = some o := m.heap
  refine I.step (ch := ws) (fun b hb => ⟨.inr (hw b hb).1.ge, (hw b hb).1.loc, (hw b hb).1.cell, (hw b hb).1.pin⟩) (fun b o _ _ n e _ => kk b o n e) (fun b o _ _ n e _ => ⟨o.slots, kk b o n e⟩) (fun _ _ _ _ e => e) (fun b o n e => ⟨o, kk b o n e⟩)
    (fun _ _ e => e) (fun _ _ _ e => e) (fun b ps e => ⟨#[], by simpa using e⟩) (fun mm hm => ?_) (fun b o e => ?_) I.bare
  · obtain ⟨ob, es, ep, h1, r⟩ := hm
    exact ⟨ob, es, ep, kk _ _ (fun z => (hw _ z).1.loc rfl) h1, r⟩
  · refine (I.hok b o e).stay (fun c v hc q => kk c v ?_ q) (fun _ q => q) fun _ _ q => q
    rcases hc with rfl | hc
    · exact nH _ _ e
    · exact nH _ _ hc
/-- the lambda's call, by what stands behind it -/
theorem lam1_run {params : Arguments} {body : Expr} {pm ctv : Value} {k : Nat} {tb : TE} {Q : VK} (I : Inv X pins σ H s) (e0 : Env0 X.prog X.w X.K X.mg X.base A X.stack s H) (L : Lam1 X.env.scope scope a) (nd : X.N.Nodup) (hj : X.N[j]? = some a)
    (hf : s.heap.get? f = some (PySem.W.kla_obj "<lambda>" (X.env.qual ++ "<lambda>") params body scope (cloFrom X.env.cells scope.names []) pm c' ctv)) (hc : s.heap.CodeRec (.ref c') (X.env.qual ++ "<lambda>"))
    (hbind : bindArgs (PySem.W.kla_fn "<lambda>" (X.env.qual ++ "<lambda>") params body scope (cloFrom X.env.cells scope.names []) pm (.ref c') ctv) ⟨[u], []⟩ = pure [(a, u)]) (hr : Room (k + 1) A)
    (hbody : Room k (A.deeper (lamEnv X scope s.heap.objs.size f c')) → PE (bodyCx X A s H scope f c') body tb) (rx : RelV x u) (h : tb (σ.set j (some x)) H Q) :
    wpAny (model X.prog X.w) A (call (.ref f) [u]) (fun v s' => CE X.stack X.prog X.w H s Q v s') (fun _ _ => False) s := by
  have rc : codeAny (model X.prog X.w) A (.call (.ref f) ⟨[u], []⟩) (CR C8.CX0 X.stack X.prog X.w H s Q C8.E0) s := by
    refine PySem.W.kla_callFunE hr.depth hf rfl L.co L.gen rfl hc ?_
    rw [hbind]
    refine wpAny_pure (wpAny_newFunctionEnv (fun y hy => (L.own y hy).1) (fun y hy => ?_) (fun h₁ hns hsb => ⟨I.nolimit.fresh _ hsb, ?_⟩) L.kind)
    · rw [List.mem_singleton.mp hy]; exact L.par
    show codeAny _ _ (.expr body (lamEnv X scope s.heap.objs.size f c')) _ _
    have kp : ∀ b o, s.heap.get? b = some o → h₁.get? b = some o := fun b o e => hsb.extBut b o (Nat.ne_of_lt (Heap.lt_size e)) (Heap.get?_push_of_some _ e)
    have J := lam1_start (f := f) (c' := c') (tk := s.toks + ([(a, u)] : List (Str × Value)).length) I L e0 hr.hd nd hj rx hns kp
    refine PySem.W.kla_codeExpr (wpAny_mono ((hbody (hr.deeper _)).run [] _ _ H Q J h) (fun v s' hq => ?_) fun e s' hq => hq.elim)
    obtain ⟨w', H', J', rv, q⟩ := hq
    exact ⟨w', H', J'.os, J'.bare, J'.base, J'.hok, rv, q⟩
  refine wpAny_call (codeAny_mono rc fun r s' hq => ?_)
  cases r with
  | error e => exact (show False from hq).elim
  | ok fl =>
    cases fl with
    | ret u => exact hq
    | next => exact False.elim hq
    | brk => exact False.elim hq
    | cont => exact False.elim hq
/-- what holds between the turns: the def's state, the lambda's object, what is kept aside -/
structure Jt (X : Cx) (pins : List (Addr × Obj)) (σ : L2.St) (f c' : Addr) (fo : Obj) (l : Addr) (od : Obj) (lo : HO) (ws : List Addr) (J : Hp → Prop) (s : Shared) : Prop where
  ex : ∃ H, Inv X pins σ H s ∧ J H ∧ s.heap.get? f = some fo ∧ H f = none ∧ H c' = some (CodeO c' (X.env.qual ++ "<lambda>")) ∧ H l = some (.frz od lo) ∧ ∀ b ∈ ws, H b = none
theorem codeO_rec {H : Hp} {h : Heap} {P : Program} {w : World} {c : Addr} {q : Str} (hok : HOk P w H h) (e : H c = some (CodeO c q)) : h.CodeRec (.ref c) q := by
  obtain ⟨⟨oc, vs, t, h1, h2, h3⟩, _, _⟩ := hok c _ e
  exact ⟨c, oc, vs, t, rfl, h1, h2, h3⟩
theorem Jt.moved {fo : Obj} {l : Addr} {od : Obj} {lo : HO} {ws : List Addr} {J : Hp → Prop} (hw : ∀ b ∈ ws, Nw X pins b) (hf : f ∉ ws) (h : Jt X pins σ f c' fo l od lo ws J s) (m : Mv ws s s') : Jt X pins σ f c' fo l od lo ws J s' := by
  obtain ⟨H, I, j, hfo, hfn, hc, hl, hn⟩ := h.ex
  exact ⟨H, inv_moved I m fun b hb => ⟨hw b hb, hn b hb⟩, j, m.heap _ _ hf hfo, hfn, hc, hl, hn⟩
end
/-- the first of the best, by its place -/
def FirstBest (lt : Int → Int → Prop) (key : Int → Int) (ns : List Int) (i : Nat) (n : Int) : Prop := ns[i]? = some n ∧ (∀ m ∈ ns, ¬ lt (key m) (key n)) ∧ ∀ i' m, i' < i → ns[i']? = some m → lt (key n) (key m)
theorem best_min {key : Int → Int} {ns : List Int} : ∀ k, k < ns.length → ∃ n, argBest (fun i j => decide (key (ns.getD i 0) < key (ns.getD j 0))) k ≤ k ∧ ns[argBest (fun i j => decide (key (ns.getD i 0) < key (ns.getD j 0))) k]? = some n ∧ (∀ i m, i ≤ k → ns[i]? = some m → key n ≤ key m) ∧ ∀ i m, i < argBest (fun i j => decide (key (ns.getD i 0) < key (ns.getD j 0))) k → ns[i]? = some m → key n < key m := by
  intro k
  induction k with
  | zero =>
    intro h
    refine ⟨ns[0], Nat.le_refl _, List.getElem?_eq_getElem h, fun i m hi e => ?_, fun i m hi => absurd hi (Nat.not_lt_zero _)⟩
    obtain rfl : i = 0 := by omega
    rw [List.getElem?_eq_getElem h] at e
    cases e
    exact Int.le_refl _
  | succ k ih =>
    intro h
    obtain ⟨n, h1, h2, h3, h4⟩ := ih (by omega)
    have e1 : ns[k + 1]? = some ns[k + 1] := List.getElem?_eq_getElem h
    have d1 : ns.getD (k + 1) 0 = ns[k + 1] := by rw [List.getD_eq_getElem?_getD, e1]; rfl
    generalize hb : argBest (fun i j => decide (key (ns.getD i 0) < key (ns.getD j 0))) k = b at *
    have d2 : ns.getD b 0 = n := by rw [List.getD_eq_getElem?_getD, h2]; rfl
    by_cases c : key ns[k + 1] < key n
    · have ea : argBest (fun i j => decide (key (ns.getD i 0) < key (ns.getD j 0))) (k + 1) = k + 1 := by simp only [argBest, hb, d1, d2, c, decide_true, if_true]
      rw [ea]
      refine ⟨_, Nat.le_refl _, e1, fun i m hi e => ?_, fun i m hi e => ?_⟩
      · rcases Nat.lt_or_ge i (k + 1) with z | z
        · have := h3 i m (by omega) e; omega
        · obtain rfl : i = k + 1 := by omega
          rw [e1] at e
          cases e
          exact Int.le_refl _
      · have := h3 i m (by omega) e; omega
    · have ea : argBest (fun i j => decide (key (ns.getD i 0) < key (ns.getD j 0))) (k + 1) = b := by simp only [argBest, hb, d1, d2, c, decide_false, Bool.false_eq_true, if_false]
      rw [ea]
      refine ⟨n, by omega, h2, fun i m hi e => ?_, h4⟩
      rcases Nat.lt_or_ge i (k + 1) with z | z
      · exact h3 i m (by omega) e
      · obtain rfl : i = k + 1 := by omega
        rw [e1] at e
        cases e
        omega
theorem best_max {key : Int → Int} {ns : List Int} : ∀ k, k < ns.length → ∃ n, argBest (fun i j => decide (key (ns.getD i 0) > key (ns.getD j 0))) k ≤ k ∧ ns[argBest (fun i j => decide (key (ns.getD i 0) > key (ns.getD j 0))) k]? = some n ∧ (∀ i m, i ≤ k → ns[i]? = some m → key m ≤ key n) ∧ ∀ i m, i < argBest (fun i j => decide (key (ns.getD i 0) > key (ns.getD j 0))) k → ns[i]? = some m → key m < key n := by
  intro k h
  obtain ⟨n, h1, h2, h3, h4⟩ := best_min (key := fun z => - key z) (ns := ns) k h
  have e : (fun i j => decide (-key (ns.getD i 0) < -key (ns.getD j 0))) = fun i j => decide (key (ns.getD i 0) > key (ns.getD j 0)) := by
    funext i j
    congr 1
    apply propext
    constructor <;> intro z <;> omega
  rw [e] at h1 h2 h4
  exact ⟨n, h1, h2, fun i m hi q => by have := h3 i m hi q; omega, fun i m hi q => by have := h4 i m hi q; omega⟩
end NL
/-! own: min, max with such a key: the rules -/
namespace NL
open PySem PySem.Spec PyProof.Rows L2 LamX
/-- what the key's reading asks: J holds between the turns (c: the lambda's code) -/
def KeyRd (T : List (Addr × Str)) (q : Str) (l : Addr) (od : Obj) (ns : List Int) (H1 : Hp) (body : Int → Hp → VK → Prop) (key : Int → Int) (J : Addr → Hp → Prop) : Prop :=
  (∀ c H2, ExtN H1 H2 → Tabs T H2 → H2 c = some (CodeO c q) → J c H2) ∧ (∀ c H2, J c H2 → H2 c = some (CodeO c q) ∧ H2 l = some (.frz od (.lst (ns.map V.int)))) ∧
  ∀ c H2 n, n ∈ ns → J c H2 → body n H2 fun k H3 => k = .int (key n) ∧ J c H3
def tKeyed (T : List (Addr × Str)) (q : Str) (j : Nat) (tb : TE) (te : TA) (R : List Int → (Int → Int) → (Hp → Prop) → VK → Prop) : TE := fun σ H Q => te σ H fun vs H1 => ∃ (l : Addr) (ns : List Int), vs = [.ref l] ∧ H1 l = some (.lst (ns.map V.int)) ∧ Tabs T H1 ∧ ∀ od : Obj,
  ∃ (key : Int → Int) (J : Addr → Hp → Prop), KeyRd T q l od ns (upd H1 l (.frz od (.lst (ns.map V.int)))) (fun n => tb (σ.set j (some (.int n)))) key J ∧ R ns key (fun H2 => ∃ c, J c H2) fun v H' => H' l = some (.frz od (.lst (ns.map V.int))) ∧ Q v (upd H' l (.lst (ns.map V.int)))
def rMinK : List Int → (Int → Int) → (Hp → Prop) → VK → Prop := fun ns key J Q => 0 < ns.length ∧ ∀ H2 i n, J H2 → FirstBest (· < ·) key ns i n → Q (.int n) H2
def rMaxK : List Int → (Int → Int) → (Hp → Prop) → VK → Prop := fun ns key J Q => 0 < ns.length ∧ ∀ H2 i n, J H2 → FirstBest (· > ·) key ns i n → Q (.int n) H2
section
variable {X : Cx} {pins : List (Addr × Obj)} {σ : L2.St} {H : Hp} {s : Shared}
/-- a call of the lambda on the item n: what the built-ins need -/
theorem key_turn {scope : Scope} {f c' : Addr} {a : Str} {j : Nat} {params : Arguments} {body : Expr} {pm ctv : Value} {k : Nat} {tb : TE} {l : Addr} {od : Obj} {ns : List Int} {T : List (Addr × Str)} {H1 : Hp} {key : Int → Int} {J : Addr → Hp → Prop} {ws : List Addr} {A : Around}
    (KR : KeyRd T (X.env.qual ++ "<lambda>") l od ns H1 (fun n => tb (σ.set j (some (.int n)))) key J) (L : Lam1 X.env.scope scope a) (nd : X.N.Nodup) (hj : X.N[j]? = some a) (hfr : f ∉ frs X.stack) (hwf : ∀ b ∈ ws, b ∉ frs X.stack)
    (hA : ∀ (H : Hp) (s : Shared), Inv X pins σ H s → Env0 X.prog X.w X.K X.mg X.base A X.stack s H)
    (hbind : ∀ u : Value, bindArgs (PySem.W.kla_fn "<lambda>" (X.env.qual ++ "<lambda>") params body scope (cloFrom X.env.cells scope.names []) pm (.ref c') ctv) ⟨[u], []⟩ = pure [(a, u)]) (hr : Room (k + 1) A)
    (hbody : ∀ (s : Shared) (H : Hp), Room k (A.deeper (lamEnv X scope s.heap.objs.size f c')) → PE (bodyCx X A s H scope f c') body tb)
    {n : Int} {t : Tok} {E : Value → Shared → Prop} {Q : Value → Shared → Prop} (hn : n ∈ ns)
    (h : Jt X pins σ f c' (PySem.W.kla_obj "<lambda>" (X.env.qual ++ "<lambda>") params body scope (cloFrom X.env.cells scope.names []) pm c' ctv) l od (.lst (ns.map V.int)) ws (J c') s) (hws : ∀ b ∈ ws, ∃ o, s.heap.get? b = some o)
    (hQ : ∀ t' s', Jt X pins σ f c' (PySem.W.kla_obj "<lambda>" (X.env.qual ++ "<lambda>") params body scope (cloFrom X.env.cells scope.names []) pm c' ctv) l od (.lst (ns.map V.int)) ws (J c') s' → (∀ b ∈ ws, ∀ o, s.heap.get? b = some o → s'.heap.get? b = some o) → Q (.int (key n) t') s') :
    wpAny (model X.prog X.w) A (call (.ref f) [.int n t]) Q E s := by
  obtain ⟨H, I, jh, hf, hfn, hc, hl, hw⟩ := h.ex
  refine wpAny_mono (lam1_run (tb := tb) (Q := fun k H3 => k = .int (key n) ∧ J c' H3) I (hA H s I) L nd hj hf (codeO_rec I.hok hc) (hbind _) hr (hbody s H) (x := .int n) ⟨t, rfl⟩ (KR.2.2 c' H n hn jh)) (fun v s' hce => ?_) fun _ _ z => z.elim
  obtain ⟨v', H', os, bare, un, hok, r, e, jh'⟩ := hce
  subst e
  obtain ⟨t', rfl⟩ : ∃ t', v = .int (key n) t' := r
  obtain ⟨hh, g, d, tt, os'⟩ := s'
  obtain rfl : os' = s.os := os
  have I' : Inv X pins σ H' _ := I.call (h' := hh) (g' := g) (d' := d) (t' := tt) (ch := []) un hok bare (fun b z => absurd z (by simp))
  obtain ⟨e1, e2⟩ := KR.2.1 c' H' jh'
  refine hQ t' _ ⟨H', I', jh', un.keep f _ hf hfn hfr (by simp), un.free f _ hf hfn (by simp), e1, e2, fun b hb => ?_⟩ fun b hb o e => un.keep b o e (hw b hb) (hwf b hb) (by simp)
  obtain ⟨o, e⟩ := hws b hb
  exact un.free b o e (hw b hb) (by simp)
/-- min, max: what the library's rule wants -/
theorem key_run {scope : Scope} {f c' : Addr} {a : Str} {j : Nat} {params : Arguments} {body : Expr} {pm ctv : Value} {k : Nat} {tb : TE} {l : Addr} {od : Obj} {ns : List Int} {T : List (Addr × Str)} {H0 H1 : Hp} {key : Int → Int} {J : Addr → Hp → Prop} {op : CmpOp} {bt : Nat → Nat → Bool} {E : Value → Shared → Prop} {Q : Value → Shared → Prop}
    (KR : KeyRd T (X.env.qual ++ "<lambda>") l od ns H0 (fun n => tb (σ.set j (some (.int n)))) key J) (L : Lam1 X.env.scope scope a) (nd : X.N.Nodup) (hj : X.N[j]? = some a) (hne : 0 < ns.length)
    (hcmp : ∀ (i j : Nat) (ki kj : Value) (s : Shared) (Q : Value → Shared → Prop) (E : Value → Shared → Prop), (∃ t, ki = .int (key (ns.getD i 0)) t) → (∃ t, kj = .int (key (ns.getD j 0)) t) → Q (.bool (bt i j)) s → wpAny (model X.prog X.w) X.A.in1 (richCompare op ki kj) Q E s)
    (hbind : ∀ u : Value, bindArgs (PySem.W.kla_fn "<lambda>" (X.env.qual ++ "<lambda>") params body scope (cloFrom X.env.cells scope.names []) pm (.ref c') ctv) ⟨[u], []⟩ = pure [(a, u)]) (hr : Room (k + 2) X.A)
    (hbody : ∀ (A : Around) (s : Shared) (H : Hp), Room k (A.deeper (lamEnv X scope s.heap.objs.size f c')) → PE (bodyCx X A s H scope f c') body tb)
    (I : Inv X pins σ H1 s) (hf : s.heap.get? f = some (PySem.W.kla_obj "<lambda>" (X.env.qual ++ "<lambda>") params body scope (cloFrom X.env.cells scope.names []) pm c' ctv)) (hfn : H1 f = none) (hfr : f ∉ frs X.stack) (hj0 : J c' H1)
    (hQ : ∀ v s', (∃ t, v = .int (ns.getD (argBest bt (ns.length - 1)) 0) t) → (∃ H', Inv X pins σ H' s' ∧ J c' H') → Q v s') :
    wpAny (model X.prog X.w) X.A.in1 (pyIter (.ref l)) (fun it s₂ => ∃ I fp wr G n P St J V bt, it = .ref I ∧ WalksS X.prog X.w X.A.in1 I fp wr G n P St ∧ St 0 s₂ ∧ (∀ b ∈ fp, b < s₂.heap.objs.size) ∧ 0 < n ∧
      KeyRun X.prog X.w X.A.in1 (.ref f) op s₂.heap.objs.size wr G n P St J V bt ∧ J s₂ ∧ ∀ v s', P (argBest bt (n - 1)) v → J s' → Q v s') E s := by
  obtain ⟨hc, hl⟩ := KR.2.1 c' H1 hj0
  obtain ⟨its, rv, hil, _⟩ := I.list (.inl (.inr ⟨od, hl⟩))
  have hlen : its.length = ns.length := by rw [← rv.length, List.length_map]
  obtain ⟨hod, _⟩ := I.hok l _ hl
  have hlist : ∀ (H : Hp) (s' : Shared), Inv X pins σ H s' → H l = some (.frz od (.lst (ns.map V.int))) → s'.heap.IsList l its.toArray := fun H s' I' hl' => by
    obtain ⟨e, _⟩ := I'.hok l _ hl'
    exact hil.isList.at fun o q => by rw [hod] at q; rw [← q]; exact e
  have hat : ∀ {i : Nat} {v : Value}, its.toArray[i]? = some v → ∃ n t, ns[i]? = some n ∧ v = .int n t := fun {i v} e => by
    have e : its[i]? = some v := by simpa using e
    have hi : i < its.length := (List.getElem?_eq_some_iff.mp e).1
    obtain ⟨u, hu, r⟩ := rv.get (NN.ints_get (List.getElem?_eq_getElem (show i < ns.length by omega)))
    rw [e] at hu
    cases hu
    obtain ⟨t, rfl⟩ : ∃ t, v = Value.int ns[i] t := r
    exact ⟨_, t, List.getElem?_eq_getElem _, rfl⟩
  have hlt : l < s.heap.objs.size := Heap.lt_size hod
  have hnI : Nw X pins s.heap.objs.size := Nw.of I (Nat.le_refl _)
  have I2 : Inv X pins σ H1 { s with heap := s.heap.push { cls := .type "list_iterator", data := .fields #[.ref l, .int 0 0] } } := I.kept (t' := s.toks) fun b o e => Heap.get?_push_of_some _ e
  have hsz : (s.heap.push { cls := .type "list_iterator", data := .fields #[.ref l, .int 0 0] }).objs.size = s.heap.objs.size + 1 := Heap.size_push ..
  have hnS : Nw X pins (s.heap.push { cls := .type "list_iterator", data := .fields #[.ref l, .int 0 0] }).objs.size := Nw.of I2 (Nat.le_refl _)
  have hws : ∀ b ∈ [(s.heap.push { cls := .type "list_iterator", data := .fields #[.ref l, .int 0 0] }).objs.size, s.heap.objs.size], Nw X pins b := fun b hb => by
    rcases List.mem_cons.mp hb with rfl | hb
    · exact hnS
    · rw [List.mem_singleton.mp hb]; exact hnI
  have hfl : f < s.heap.objs.size := Heap.lt_size hf
  have hfw : f ∉ [(s.heap.push { cls := .type "list_iterator", data := .fields #[.ref l, .int 0 0] }).objs.size, s.heap.objs.size] := fun hb => by
    rcases List.mem_cons.mp hb with e | hb
    · rw [hsz] at e; exact absurd hfl (by rw [e]; exact Nat.not_lt.mpr (Nat.le_succ _))
    · exact absurd hfl (by rw [List.mem_singleton.mp hb]; exact Nat.lt_irrefl _)
  refine wpAny_pyIter_list hil.isList ⟨s.heap.objs.size, [s.heap.objs.size, l], [s.heap.objs.size], fun p q => q = p, its.toArray.size, fun i v => its.toArray[i]? = some v, _,
    Jt X pins σ f c' (PySem.W.kla_obj "<lambda>" (X.env.qual ++ "<lambda>") params body scope (cloFrom X.env.cells scope.names []) pm c' ctv) l od (.lst (ns.map V.int)) [(s.heap.push { cls := .type "list_iterator", data := .fields #[.ref l, .int 0 0] }).objs.size, s.heap.objs.size] (J c'),
    fun i k _ => ∃ t, k = .int (key (ns.getD i 0)) t, bt, rfl, (Walks.list (A := X.A.in1) hr.hd _ l (Nat.ne_of_lt hlt) its.toArray).toS, ⟨⟨_, Heap.get?_push_size _ rfl, rfl, rfl⟩, hil.isList.push _⟩, fun b hb => ?_, by simpa [hlen] using hne, ⟨fun s s' h m => ?_, fun _ _ _ _ h _ => h, ?_, ?_⟩, ?_, fun v s' hv h => ?_⟩
  · rw [hsz]
    rcases List.mem_cons.mp hb with rfl | hb
    · exact Nat.lt_succ_self _
    · rw [List.mem_singleton.mp hb]; exact Nat.lt_succ_of_lt hlt
  · exact h.moved hws hfw (.of m)
  · intro i v s' o Q E hi hv h hst hS hq
    obtain ⟨n, t, hn, rfl⟩ := hat hv
    obtain ⟨oI, hoI, hI1, hI2⟩ := id hst.1
    refine key_turn KR L nd hj hfr (fun b hb => (hws b hb).frs) (fun H s I => I.env0.in1) hbind hr.in1 (fun s H hr2 => hbody _ s H hr2) (List.mem_of_getElem? hn) h (fun b hb => ?_) fun t' s'' h'' kp => ?_
    · rcases List.mem_cons.mp hb with rfl | hb
      · exact ⟨o, hS⟩
      · rw [List.mem_singleton.mp hb]; exact ⟨oI, hoI⟩
    · obtain ⟨H3, I3, _, _, _, _, hl3, _⟩ := h''.ex
      refine hq _ _ h'' ⟨⟨oI, kp _ (by simp) _ hoI, hI1, hI2⟩, hlist _ _ I3 hl3⟩ (kp _ (by simp) _ hS) ⟨t', ?_⟩ fun _ _ z => z
      rw [List.getD_eq_getElem?_getD, hn]; rfl
  · intro i j ki kj s' Q E _ h1 h2 hq
    exact hcmp i j ki kj s' Q E h1 h2 hq
  · refine ⟨H1, I2, hj0, Heap.get?_push_of_some _ hf, hfn, hc, hl, fun b hb => ?_⟩
    rcases List.mem_cons.mp hb with rfl | hb
    · exact I2.hok.fresh (Nat.le_refl _)
    · rw [List.mem_singleton.mp hb]; exact I.hok.fresh (Nat.le_refl _)
  · obtain ⟨n, t, hn, rfl⟩ := hat hv
    have hsz2 : its.toArray.size = ns.length := by simpa using hlen
    rw [hsz2] at hn
    obtain ⟨H', I', jh, _⟩ := h.ex
    refine hQ _ _ ⟨t, ?_⟩ ⟨H', I', jh⟩
    rw [List.getD_eq_getElem?_getD, hn]; rfl
/-- the lambda is made and handed on; what the call makes of it -/
theorem pe_keyed {id : String} {R : List Int → (Int → Int) → (Hp → Prop) → VK → Prop} {T : List (Addr × Str)} {c P : Addr} {k j : Nat} {x a : Str} {params : Arguments} {body : Expr} {scope : Scope} {tb : TE} {te : TA} {e : Expr} {p lpos kpos pos : Pos} (hg : Gl X x) (hm : X.mg x = none) (hv : bootBuiltins x = some (.builtin id))
    (ha : PA X [e] te) (TB : TabB X.base X.mg c P) (hcode : X.env.code = .ref c) (hmT : (P, X.env.qual ++ "<lambda>") ∈ T) (hu : ∀ p ∈ T, p.1 = P → p.2 = X.env.qual ++ "<lambda>") (L : Lam1 X.env.scope scope a) (nd : X.N.Nodup) (hj : X.N[j]? = some a) (hdef : defaultsOf params X.env = ([], []))
    (hbind : ∀ (q : Str) (cl : List (Str × Addr)) (pm cv ctv u : Value), bindArgs (PySem.W.kla_fn "<lambda>" q params body scope cl pm cv ctv) ⟨[u], []⟩ = pure [(a, u)])
    (hbody : ∀ (A : Around) (s : Shared) (H : Hp) (f c' : Addr), Room k (A.deeper (lamEnv X scope s.heap.objs.size f c')) → PE (bodyCx X A s H scope f c') body tb)
    (hcall : ∀ (pins : List (Addr × Obj)) (σ : L2.St) (H0 H1 : Hp) (s : Shared) (f c' l : Addr) (pm ctv : Value) (od : Obj) (ns : List Int) (key : Int → Int) (J : Addr → Hp → Prop) (Q : VK), KeyRd T (X.env.qual ++ "<lambda>") l od ns H0 (fun n => tb (σ.set j (some (.int n)))) key J →
      Inv X pins σ H1 s → s.heap.get? f = some (PySem.W.kla_obj "<lambda>" (X.env.qual ++ "<lambda>") params body scope (cloFrom X.env.cells scope.names []) pm c' ctv) → H1 f = none → f ∉ frs X.stack → J c' H1 → R ns key (fun H2 => ∃ c, J c H2) Q →
      wpAny (model X.prog X.w) X.A (call (.builtin id) [.ref l] [(Str.ofString "key", .ref f)]) (EP X pins σ Q) X.xe s)
    (hn : x ≠ "__name__" := by decide) (hdb : (x == ("__debug__" : Str)) = false := by decide)
    (he : backTo pos (starEach [e] X.env) = (false, eval e X.env) :: backTo pos (starEach [] X.env) := by rfl) (hpl : (backTo pos (starEach [e] X.env)).any (·.1) = false := by rfl) :
    PE X (.Call (.Name x p) [e] [⟨some "key", .Lambda params body scope lpos, kpos⟩] pos) (tKeyed T (X.env.qual ++ "<lambda>") j tb te R) := by
  refine ⟨fun pins s σ H Q I h => ?_⟩
  refine wpAny_Call_Name_kw (ld_blt I hg hm hv ?_ hn hdb)
  refine PyProof.Rows.callWith_kw (thn (ha.run pos pins s σ H _ I h) fun us s1 ⟨vs, H1, I1, r1, l, ns, ev, hl, hT, hk⟩ => ?_) he hpl rfl rfl
  subst ev
  obtain ⟨u, rfl, hu1⟩ : ∃ u, us = [u] ∧ RelV (.ref l) u := by
    cases r1 with
    | cons r r' => cases r'; exact ⟨_, rfl, r⟩
  obtain rfl : u = Value.ref l := hu1
  obtain ⟨od, I1'⟩ := I1.lock hl trivial
  obtain ⟨key, J, KR, hR⟩ := hk od
  have hT' : Tabs T (upd H1 l (.frz od (.lst (ns.map V.int)))) := fun q hq => by
    obtain ⟨ps, a1, a2, a3⟩ := hT q hq
    have n1 : q.1 ≠ l := fun z => by rw [z, hl] at a1; cases a1
    refine ⟨ps, by rw [upd_ne n1]; exact a1, a2, fun pos cv hc => ?_⟩
    obtain ⟨c0, f1, f2⟩ := a3 pos cv hc
    have n2 : c0 ≠ l := fun z => by rw [z, hl] at f2; cases f2
    exact ⟨c0, f1, by rw [upd_ne n2]; exact f2⟩
  show wpAny _ _ (evalAll [do let v ← eval (.Lambda params body scope lpos) X.env; standAt pos; pure v]) _ _ s1
  refine wpAny_evalAll_cons (wpAny_bind ?_)
  refine lam_make2 I1' TB hcode hmT hu hT' hdef (L.has I1.ok) fun f c' pm ctv H2 s2 I2 eN T2 hf hfn hfr hc => ?_
  refine wpAny_bind (wpAny_standAt (wpAny_pure ?_))
  refine wpAny_evalAll_nil ?_
  refine thn (hcall pins σ _ H2 s2 f c' l pm ctv od ns key J _ KR I2 hf hfn hfr (KR.1 c' H2 eN T2 hc) hR) fun v s3 hq => ?_
  obtain ⟨v', H', I3, r3, e3, q3⟩ := hq
  exact ⟨v', _, I3.unlock e3 (I1.nofrz hl trivial), r3, q3⟩
end
end NL
/-! own: min, max with such a key: the calls -/
namespace NL
open PySem PySem.Spec PyProof.Rows L2 LamX
section
variable {X : Cx} {T : List (Addr × Str)} {c P : Addr} {k j : Nat} {x a : Str} {params : Arguments} {body : Expr} {scope : Scope} {tb : TE} {te : TA} {e : Expr} {p lpos kpos pos : Pos}
theorem min_case (L : Lam1 X.env.scope scope a) (nd : X.N.Nodup) (hj : X.N[j]? = some a) (hr : Room (k + 2) X.A)
    (hbind : ∀ (q : Str) (cl : List (Str × Addr)) (pm cv ctv u : Value), bindArgs (PySem.W.kla_fn "<lambda>" q params body scope cl pm cv ctv) ⟨[u], []⟩ = pure [(a, u)])
    (hbody : ∀ (A : Around) (s : Shared) (H : Hp) (f c' : Addr), Room k (A.deeper (lamEnv X scope s.heap.objs.size f c')) → PE (bodyCx X A s H scope f c') body tb)
    (pins : List (Addr × Obj)) (σ : L2.St) (H0 H1 : Hp) (s : Shared) (f c' l : Addr) (pm ctv : Value) (od : Obj) (ns : List Int) (key : Int → Int) (J : Addr → Hp → Prop) (Q : VK) (KR : KeyRd T (X.env.qual ++ "<lambda>") l od ns H0 (fun n => tb (σ.set j (some (.int n)))) key J)
    (I : Inv X pins σ H1 s) (hf : s.heap.get? f = some (PySem.W.kla_obj "<lambda>" (X.env.qual ++ "<lambda>") params body scope (cloFrom X.env.cells scope.names []) pm c' ctv)) (hfn : H1 f = none) (hfr : f ∉ frs X.stack) (hj0 : J c' H1) (hR : rMinK ns key (fun H2 => ∃ c, J c H2) Q) :
    wpAny (model X.prog X.w) X.A (call (.builtin "min") [.ref l] [(Str.ofString "key", .ref f)]) (EP X pins σ Q) X.xe s := by
  refine call_min_walkK (key_run (k := k) (bt := fun i j => decide (key (ns.getD i 0) < key (ns.getD j 0))) KR L nd hj hR.1 (fun i j ki kj s Q E h1 h2 hq => ?_) (fun u => hbind _ _ _ _ _ u) hr (fun A s H hr2 => hbody A s H f c' hr2) I hf hfn hfr hj0 fun v s' hv hJ => ?_)
  · exact CmpOf.ints_lt (P := fun i v => ∃ t, v = .int (key (ns.getD i 0)) t) (fun i => key (ns.getD i 0)) (fun i v h => h) i j ki kj s Q E h1 h2 hq
  · obtain ⟨t, rfl⟩ := hv
    obtain ⟨H', I', jh⟩ := hJ
    obtain ⟨n, h1, h2, h3, h4⟩ := best_min (key := key) (ns := ns) (ns.length - 1) (by have := hR.1; omega)
    have d : ns.getD (argBest (fun i j => decide (key (ns.getD i 0) < key (ns.getD j 0))) (ns.length - 1)) 0 = n := by rw [List.getD_eq_getElem?_getD, h2]; rfl
    refine ⟨.int n, H', I', ⟨t, by rw [d]⟩, hR.2 H' _ n ⟨c', jh⟩ ⟨h2, fun m hm => ?_, h4⟩⟩
    obtain ⟨i, hi⟩ := List.getElem?_of_mem hm
    have := h3 i m (by have := (List.getElem?_eq_some_iff.mp hi).1; omega) hi
    omega
theorem max_case (L : Lam1 X.env.scope scope a) (nd : X.N.Nodup) (hj : X.N[j]? = some a) (hr : Room (k + 2) X.A)
    (hbind : ∀ (q : Str) (cl : List (Str × Addr)) (pm cv ctv u : Value), bindArgs (PySem.W.kla_fn "<lambda>" q params body scope cl pm cv ctv) ⟨[u], []⟩ = pure [(a, u)])
    (hbody : ∀ (A : Around) (s : Shared) (H : Hp) (f c' : Addr), Room k (A.deeper (lamEnv X scope s.heap.objs.size f c')) → PE (bodyCx X A s H scope f c') body tb)
    (pins : List (Addr × Obj)) (σ : L2.St) (H0 H1 : Hp) (s : Shared) (f c' l : Addr) (pm ctv : Value) (od : Obj) (ns : List Int) (key : Int → Int) (J : Addr → Hp → Prop) (Q : VK) (KR : KeyRd T (X.env.qual ++ "<lambda>") l od ns H0 (fun n => tb (σ.set j (some (.int n)))) key J)
    (I : Inv X pins σ H1 s) (hf : s.heap.get? f = some (PySem.W.kla_obj "<lambda>" (X.env.qual ++ "<lambda>") params body scope (cloFrom X.env.cells scope.names []) pm c' ctv)) (hfn : H1 f = none) (hfr : f ∉ frs X.stack) (hj0 : J c' H1) (hR : rMaxK ns key (fun H2 => ∃ c, J c H2) Q) :
    wpAny (model X.prog X.w) X.A (call (.builtin "max") [.ref l] [(Str.ofString "key", .ref f)]) (EP X pins σ Q) X.xe s := by
  refine call_max_walkK (key_run (k := k) (bt := fun i j => decide (key (ns.getD i 0) > key (ns.getD j 0))) KR L nd hj hR.1 (fun i j ki kj s Q E h1 h2 hq => ?_) (fun u => hbind _ _ _ _ _ u) hr (fun A s H hr2 => hbody A s H f c' hr2) I hf hfn hfr hj0 fun v s' hv hJ => ?_)
  · exact CmpOf.ints_gt (P := fun i v => ∃ t, v = .int (key (ns.getD i 0)) t) (fun i => key (ns.getD i 0)) (fun i v h => h) i j ki kj s Q E h1 h2 hq
  · obtain ⟨t, rfl⟩ := hv
    obtain ⟨H', I', jh⟩ := hJ
    obtain ⟨n, h1, h2, h3, h4⟩ := best_max (key := key) (ns := ns) (ns.length - 1) (by have := hR.1; omega)
    have d : ns.getD (argBest (fun i j => decide (key (ns.getD i 0) > key (ns.getD j 0))) (ns.length - 1)) 0 = n := by rw [List.getD_eq_getElem?_getD, h2]; rfl
    refine ⟨.int n, H', I', ⟨t, by rw [d]⟩, hR.2 H' _ n ⟨c', jh⟩ ⟨h2, fun m hm => ?_, h4⟩⟩
    obtain ⟨i, hi⟩ := List.getElem?_of_mem hm
    have := h3 i m (by have := (List.getElem?_eq_some_iff.mp hi).1; omega) hi
    show ¬ key m > key n
    omega
/-- min(e, key=lambda a: body) -/
theorem pe_minK (hr : Room (k + 2) X.A) (hg : Gl X "min") (hm : X.mg "min" = none) (ha : PA X [e] te) (TB : TabB X.base X.mg c P) (hcode : X.env.code = .ref c) (hmT : (P, X.env.qual ++ "<lambda>") ∈ T) (hu : ∀ p ∈ T, p.1 = P → p.2 = X.env.qual ++ "<lambda>") (L : Lam1 X.env.scope scope a) (nd : X.N.Nodup) (hj : X.N[j]? = some a)
    (hbody : ∀ (A : Around) (s : Shared) (H : Hp) (f c' : Addr), Room k (A.deeper (lamEnv X scope s.heap.objs.size f c')) → PE (bodyCx X A s H scope f c') body tb)
    (hdef : defaultsOf params X.env = ([], []) := by rfl) (hbind : ∀ (q : Str) (cl : List (Str × Addr)) (pm cv ctv u : Value), bindArgs (PySem.W.kla_fn "<lambda>" q params body scope cl pm cv ctv) ⟨[u], []⟩ = pure [(a, u)] := by intros; rfl)
    (he : backTo pos (starEach [e] X.env) = (false, eval e X.env) :: backTo pos (starEach [] X.env) := by rfl) (hpl : (backTo pos (starEach [e] X.env)).any (·.1) = false := by rfl) :
    PE X (.Call (.Name "min" p) [e] [⟨some "key", .Lambda params body scope lpos, kpos⟩] pos) (tKeyed T (X.env.qual ++ "<lambda>") j tb te rMinK) :=
  pe_keyed hg hm (by decide +kernel) ha TB hcode hmT hu L nd hj hdef hbind hbody (min_case L nd hj hr hbind hbody) (by decide) (by decide) he hpl
/-- max(e, key=lambda a: body) -/
theorem pe_maxK (hr : Room (k + 2) X.A) (hg : Gl X "max") (hm : X.mg "max" = none) (ha : PA X [e] te) (TB : TabB X.base X.mg c P) (hcode : X.env.code = .ref c) (hmT : (P, X.env.qual ++ "<lambda>") ∈ T) (hu : ∀ p ∈ T, p.1 = P → p.2 = X.env.qual ++ "<lambda>") (L : Lam1 X.env.scope scope a) (nd : X.N.Nodup) (hj : X.N[j]? = some a)
    (hbody : ∀ (A : Around) (s : Shared) (H : Hp) (f c' : Addr), Room k (A.deeper (lamEnv X scope s.heap.objs.size f c')) → PE (bodyCx X A s H scope f c') body tb)
    (hdef : defaultsOf params X.env = ([], []) := by rfl) (hbind : ∀ (q : Str) (cl : List (Str × Addr)) (pm cv ctv u : Value), bindArgs (PySem.W.kla_fn "<lambda>" q params body scope cl pm cv ctv) ⟨[u], []⟩ = pure [(a, u)] := by intros; rfl)
    (he : backTo pos (starEach [e] X.env) = (false, eval e X.env) :: backTo pos (starEach [] X.env) := by rfl) (hpl : (backTo pos (starEach [e] X.env)).any (·.1) = false := by rfl) :
    PE X (.Call (.Name "max" p) [e] [⟨some "key", .Lambda params body scope lpos, kpos⟩] pos) (tKeyed T (X.env.qual ++ "<lambda>") j tb te rMaxK) :=
  pe_keyed hg hm (by decide +kernel) ha TB hcode hmT hu L nd hj hdef hbind hbody (max_case L nd hj hr hbind hbody) (by decide) (by decide) he hpl
end
end NL
/-! own: sorted with such a key -/
namespace NL
open PySem PySem.Spec PySem.Calls PyProof.Rows PySem.W
section
variable {prog : Program} {w : World} {A : Around} {E : Value → Shared → Prop} {s : Shared} {a kS : Addr} {b : Bool} {vs : List Value} {e1 : Nat} {F : PySem.Fin → Shared → Prop} {kz : List Int} {f : Value} {J : Shared → Prop}
theorem alike_ints (kz : List Int) : AllAlike (kz.map PyData.int) := fun d hd d' hd' => by
  obtain ⟨n, _, rfl⟩ := List.mem_map.mp hd
  obtain ⟨m, _, rfl⟩ := List.mem_map.mp hd'
  rfl
theorem sortable_ints (kz : List Int) : Sortable (kz.map PyData.int) := .inr fun d hd => by
  obtain ⟨n, _, rfl⟩ := List.mem_map.mp hd
  exact ⟨(by intro z; cases z), (by intro xs z; cases z)⟩
/-- the keys are asked one by one, then it is sorted -/
theorem keyed_rest (nk : s.heap.get? kS = some (seqObj "list" #[] 0)) (na : s.heap.get? a = some (seqObj "list" #[] e1)) (hka : kS ≠ a) (hlen : kz.length = vs.length) (hZ : vs.length ≤ sizeLine) (hu : A.units < cLine) (hJ : J s) (hmv : ∀ s s', J s → Mv [kS, a] s s' → J s')
    (turn : ∀ (i : Nat) (v : Value) (n : Int) (s : Shared) (oK oA : Obj) (Q E : Value → Shared → Prop), vs[i]? = some v → kz[i]? = some n → J s → s.heap.get? kS = some oK → s.heap.get? a = some oA →
      (∀ t s', J s' → s'.heap.get? kS = some oK → s'.heap.get? a = some oA → Q (.int n t) s') → wpAny (model prog w) A (call f [v]) Q E s)
    (h : ∀ s' out c, J s' → s'.heap.get? a = some (seqObj "list" (List.toArray out) c) → KeyedOut b (kz.map PyData.int) vs out → F (.done (.ret .none)) s') :
    wpAny (model prog w) A (ksk_rest a f b vs.toArray e1 (.ref kS)) F E s := by
  unfold ksk_rest
  refine wpAny_bind (wpAny_rule ?_)
  first
    | rw [List.forIn_toArray]
    | (rw [← Array.forIn_toList]; simp only [List.toList_toArray])
    | rw [← Array.forIn_toList]
  refine wpAny_bind (ksk_fold (fun i s' => J s' ∧ ∃ (kA : Array Value) (ep : Nat), s'.heap.get? kS = some (seqObj "list" kA ep) ∧ s'.heap.get? a = some (seqObj "list" #[] e1) ∧ IntsAre kA.toList (kz.take i)) vs 0 s
    ⟨hJ, #[], 0, nk, na, by rw [List.take_zero]; exact .nil⟩ ?one ?all)
  case one =>
    rintro j x s' hx ⟨j1, kA, ep, k1, k2, k3⟩
    simp only [Nat.zero_add] at k3 ⊢
    have hj : j < vs.length := (List.getElem?_eq_some_iff.mp hx).1
    have hn : kz[j]? = some kz[j] := List.getElem?_eq_getElem (by omega)
    have hz : kA.size ≤ vs.length := by
      have := k3.length
      rw [Array.length_toList, List.length_take] at this
      omega
    refine wpAny_bind (wpAny_attempt (turn j x _ s' _ _ _ _ hx hn j1 k1 k2 fun t s2 j2 m1 m2 => ?_))
    dsimp only
    obtain ⟨c2, hc2⟩ : ∃ c2, (s2.heap.update kS (Obj.mapSeq (·.push (Value.int kz[j] t)))).get? kS = some (seqObj "list" (kA.push (.int kz[j] t)) c2) := ⟨_, get?_update_seq m1 (·.push (Value.int kz[j] t))⟩
    have oth : ∀ p o, p ≠ kS → s2.heap.get? p = some o → (s2.heap.update kS (Obj.mapSeq (·.push (Value.int kz[j] t)))).get? p = some o := fun p o hp q => (Heap.get?_update_other _ _ (fun z => hp z.symm)).trans q
    refine wpAny_bind (listUpdate_at m1 rfl ?_ (Nat.le_trans hz hZ) (Nat.le_trans (Nat.le_of_eq (Array.size_push ..)) (Nat.succ_le_succ (Nat.le_trans hz hZ))))
    refine wpAny_pure ⟨rfl, hmv _ _ j2 ⟨fun p o hp q => oth p o (fun z => hp (by rw [z]; exact List.mem_cons_self)) q, rfl, rfl⟩, _, c2, hc2, oth _ _ hka.symm m2, ?_⟩
    rw [List.take_add_one, hn]
    show IntsAre (kA.push (.int kz[j] t)).toList (kz.take j ++ [kz[j]])
    rw [Array.toList_push]
    exact ksk_snoc k3
  case all =>
    rintro s' ⟨j1, kA, ep, k1, k2, k3⟩
    have e3 : kz.take (0 + vs.length) = kz := List.take_of_length_le (by omega)
    rw [e3] at k3
    have hk : EachIs (fun v d => ∃ as, Reads s'.heap v d as) kA.toList (kz.map PyData.int) := by
      clear k1 h turn hlen hZ e3
      generalize kA.toList = l at k3
      induction k3 with
      | nil => exact .nil
      | cons _ _ _ ih => exact .cons ⟨[], .int _ _⟩ ih
    have hsz : kA.size = vs.length := by
      have := k3.length
      rw [Array.length_toList] at this
      omega
    obtain ⟨G, g1, g2⟩ := L2.restrict s'.heap fun p => decide (p ≠ kS)
    have gk : ∀ p o, p ≠ kS → s'.heap.get? p = some o → G.get? p = some o := fun p o hp q => by rw [g1 p (decide_eq_true hp)]; exact q
    have gl : ∀ p o, G.get? p = some o → s'.heap.get? p = some o := fun p o q => by
      by_cases hp : p = kS
      · rw [g2 p (by rw [hp]; simp)] at q; cases q
      · rw [g1 p (decide_eq_true hp)] at q; exact q
    refine wpAny_bind (listItems_at k1 rfl ?_)
    refine keyH_end (κ := dataKind s'.heap (kz.map PyData.int)) (h₁ := G) (fun p o _ q => gl p o q) (g2 kS (by simp)) k1 k2 hka (SortsAt.data hk (alike_ints kz) (sortable_ints kz) fun d hd => ?_) hsz hZ fun h3 tk3 c kp n3 => ?_
    · obtain ⟨n, _, rfl⟩ := List.mem_map.mp hd
      exact hu
    · refine h _ _ c (hmv _ _ j1 ⟨fun p o hp q => ?_, rfl, rfl⟩) n3 ⟨s'.heap, kA.toList, alike_ints kz, rfl, hk⟩
      exact kp p o (fun z => hp (by rw [z]; simp)) (gk p o (fun z => hp (by rw [z]; simp)) q)
/-- sorted(xs, key=f), f's calls keep J -/
theorem sorted_keyed {l q : Addr} {Q : Value → Shared → Prop} (hl : s.heap.IsList l vs.toArray) (hlen : kz.length = vs.length) (hZ : vs.length ≤ sizeLine) (hu : A.units + 2 < cLine)
    (hJ : ∀ h' : Heap, (∀ p o, s.heap.get? p = some o → h'.get? p = some o) → J { s with heap := h' }) (hmv : ∀ s1 s2, J s1 → Mv [s.heap.objs.size + 3, s.heap.objs.size + 1] s1 s2 → J s2)
    (turn : ∀ (i : Nat) (v : Value) (n : Int) (s' : Shared) (oK oA : Obj) (Q E : Value → Shared → Prop), vs[i]? = some v → kz[i]? = some n → J s' → s'.heap.get? (s.heap.objs.size + 3) = some oK → s'.heap.get? (s.heap.objs.size + 1) = some oA →
      (∀ t s2, J s2 → s2.heap.get? (s.heap.objs.size + 3) = some oK → s2.heap.get? (s.heap.objs.size + 1) = some oA → Q (.int n t) s2) → wpAny (model prog w) A.in1.in1 (call (.ref q) [v]) Q E s')
    (h : ∀ s' out c, J s' → s'.heap.get? (s.heap.objs.size + 1) = some (seqObj "list" (List.toArray out) c) → KeyedOut false (kz.map PyData.int) vs out → Q (.ref (s.heap.objs.size + 1)) s') :
    wpAny (model prog w) A (call (.builtin "sorted") [.ref l] [(Str.ofString "key", .ref q)]) Q E s := by
  refine sorted_of_sort hl hZ (ksk_s1 _ _) (fun _ => ksk_l1 _ _) fun E' => ?_
  rw [ksk_t1]
  have at1 := copyHeap_at s.heap vs
  obtain ⟨ep, at2⟩ : ∃ ep, ((copyHeap s.heap vs).update (s.heap.objs.size + 1) (Obj.mapSeq fun _ => (#[] : Array Value))).get? (s.heap.objs.size + 1) = some (seqObj "list" #[] ep) := ⟨_, get?_update_seq at1 fun _ => #[]⟩
  have sz0 : (copyHeap s.heap vs).objs.size = s.heap.objs.size + 2 := by
    unfold copyHeap
    rw [size_push', Heap.size_update, size_push']
  have sz : (((copyHeap s.heap vs).update (s.heap.objs.size + 1) (Obj.mapSeq fun _ => (#[] : Array Value))).push (seqObj "tuple" vs.toArray 0)).objs.size = s.heap.objs.size + 3 := by rw [size_push', Heap.size_update, sz0]
  have up : ∀ p o, s.heap.get? p = some o → ((((copyHeap s.heap vs).update (s.heap.objs.size + 1) (Obj.mapSeq fun _ => (#[] : Array Value))).push (seqObj "tuple" vs.toArray 0)).push (seqObj "list" #[] 0)).get? p = some o := fun p o e =>
    Heap.get?_push_of_some _ (Heap.get?_push_of_some _ ((Heap.get?_update_other _ _ (Nat.ne_of_gt (Nat.lt_succ_of_lt (Heap.lt_size e)))).trans (copyHeap_old e)))
  unfold ksk_tree
  refine wpAny_bind (listItems_at at1 rfl ?_)
  refine wpAny_bind (listUpdate_at at1 rfl ?_ (by rw [List.size_toArray]; exact hZ) (Nat.zero_le _))
  refine wpAny_bind (seqEpoch_at at2 rfl ?_)
  refine wpAny_bind (wpAny_newTuple ?_ (by show vs.length ≤ _; exact hZ))
  refine wpAny_bind (wpAny_newList ?_ (Nat.zero_le _))
  refine wpAny_holding ?_
  rw [sz]
  refine keyed_rest (kz := kz) (J := J) (by rw [← sz]; exact Heap.get?_push_size _ rfl) (Heap.get?_push_of_some _ (Heap.get?_push_of_some _ at2)) (by show (s.heap.objs.size + 3 : Nat) ≠ s.heap.objs.size + 1; omega) hlen hZ (by show A.units + 1 + 1 < cLine; omega) (hJ _ up) hmv turn fun s' out c j hD ko => ⟨rfl, h s' out c j hD ko⟩
end
end NL
/-! own: sorted with such a key: the rule -/
namespace NL
open PySem PySem.Spec PyProof.Rows L2 LamX
/-- in the order of their keys, equal ones as they stood -/
def sortK (key : Int → Int) (ns : List Int) : List Int := ns.mergeSort fun a b => decide (key a ≤ key b)
def rSortK : List Int → (Int → Int) → (Hp → Prop) → VK → Prop := fun ns key J Q => ∀ H2 p, J H2 → H2 p = none → Q (.ref p) (upd H2 p (.lst ((sortK key ns).map V.int)))
section
variable {X : Cx} {T : List (Addr × Str)} {c P : Addr} {k j : Nat} {x a : Str} {params : Arguments} {body : Expr} {scope : Scope} {tb : TE} {te : TA} {e : Expr} {p lpos kpos pos : Pos}
theorem sort_case (L : Lam1 X.env.scope scope a) (nd : X.N.Nodup) (hj : X.N[j]? = some a) (hr : Room (k + 3) X.A)
    (hbind : ∀ (q : Str) (cl : List (Str × Addr)) (pm cv ctv u : Value), bindArgs (PySem.W.kla_fn "<lambda>" q params body scope cl pm cv ctv) ⟨[u], []⟩ = pure [(a, u)])
    (hbody : ∀ (A : Around) (s : Shared) (H : Hp) (f c' : Addr), Room k (A.deeper (lamEnv X scope s.heap.objs.size f c')) → PE (bodyCx X A s H scope f c') body tb)
    (pins : List (Addr × Obj)) (σ : L2.St) (H0 H1 : Hp) (s : Shared) (f c' l : Addr) (pm ctv : Value) (od : Obj) (ns : List Int) (key : Int → Int) (J : Addr → Hp → Prop) (Q : VK) (KR : KeyRd T (X.env.qual ++ "<lambda>") l od ns H0 (fun n => tb (σ.set j (some (.int n)))) key J)
    (I : Inv X pins σ H1 s) (hf : s.heap.get? f = some (PySem.W.kla_obj "<lambda>" (X.env.qual ++ "<lambda>") params body scope (cloFrom X.env.cells scope.names []) pm c' ctv)) (hfn : H1 f = none) (hfr : f ∉ frs X.stack) (hj0 : J c' H1) (hR : rSortK ns key (fun H2 => ∃ c, J c H2) Q) :
    wpAny (model X.prog X.w) X.A (call (.builtin "sorted") [.ref l] [(Str.ofString "key", .ref f)]) (EP X pins σ Q) X.xe s := by
  obtain ⟨hc, hl⟩ := KR.2.1 c' H1 hj0
  obtain ⟨its, rv, hil, hz⟩ := I.list (.inl (.inr ⟨od, hl⟩))
  rw [List.length_map] at hz
  have hlen : its.length = ns.length := by rw [← rv.length, List.length_map]
  have hat : ∀ {i : Nat} {v : Value}, its[i]? = some v → ∃ n t, ns[i]? = some n ∧ v = .int n t := fun {i v} e => by
    have hi : i < its.length := (List.getElem?_eq_some_iff.mp e).1
    obtain ⟨u, hu, r⟩ := rv.get (NN.ints_get (List.getElem?_eq_getElem (show i < ns.length by omega)))
    rw [e] at hu
    cases hu
    obtain ⟨t, rfl⟩ : ∃ t, v = Value.int ns[i] t := r
    exact ⟨_, t, List.getElem?_eq_getElem _, rfl⟩
  have hw3 : Nw X pins (s.heap.objs.size + 3) := Nw.of I (Nat.le_add_right _ _)
  have hw1 : Nw X pins (s.heap.objs.size + 1) := Nw.of I (Nat.le_add_right _ _)
  have hws : ∀ b ∈ [s.heap.objs.size + 3, s.heap.objs.size + 1], Nw X pins b := fun b hb => by
    rcases List.mem_cons.mp hb with rfl | hb
    · exact hw3
    · rw [List.mem_singleton.mp hb]; exact hw1
  have hfl : f < s.heap.objs.size := Heap.lt_size hf
  have hfw : f ∉ [s.heap.objs.size + 3, s.heap.objs.size + 1] := fun hb => by
    rcases List.mem_cons.mp hb with e | hb
    · exact absurd hfl (by rw [e]; exact Nat.not_lt.mpr (Nat.le_add_right _ _))
    · exact absurd hfl (by rw [List.mem_singleton.mp hb]; exact Nat.not_lt.mpr (Nat.le_add_right _ _))
  refine sorted_keyed (kz := ns.map key) (J := Jt X pins σ f c' (PySem.W.kla_obj "<lambda>" (X.env.qual ++ "<lambda>") params body scope (cloFrom X.env.cells scope.names []) pm c' ctv) l od (.lst (ns.map V.int)) [s.heap.objs.size + 3, s.heap.objs.size + 1] (J c'))
    hil.isList (by rw [List.length_map, hlen]) (by rw [hlen]; exact hz) (by have := hr.un; omega) (fun h' kp => ?_) (fun s1 s2 h m => h.moved hws hfw m) ?_ ?_
  · refine ⟨H1, I.kept (t' := s.toks) kp, hj0, kp _ _ hf, hfn, hc, hl, fun b hb => ?_⟩
    rcases List.mem_cons.mp hb with rfl | hb
    · exact I.hok.fresh (Nat.le_add_right _ _)
    · rw [List.mem_singleton.mp hb]; exact I.hok.fresh (Nat.le_add_right _ _)
  · intro i v n s' oK oA Q E hv hn h hK hA hq
    obtain ⟨m, t, hm, rfl⟩ := hat hv
    rw [List.getElem?_map, hm] at hn
    obtain rfl : key m = n := Option.some.inj hn
    refine key_turn KR L nd hj hfr (fun b hb => (hws b hb).frs) (fun H s I => I.env0.in1.in1) (fun u => hbind _ _ _ _ _ u) hr.in1.in1 (fun s H hr2 => hbody _ s H f c' hr2) (List.mem_of_getElem? hm) h (fun b hb => ?_) fun t' s'' h'' kp => ?_
    · rcases List.mem_cons.mp hb with rfl | hb
      · exact ⟨oK, hK⟩
      · rw [List.mem_singleton.mp hb]; exact ⟨oA, hA⟩
    · exact hq _ _ h'' (kp _ List.mem_cons_self _ hK) (kp _ (List.mem_cons_of_mem _ List.mem_cons_self) _ hA)
  · intro s' out cc h hD ko
    obtain ⟨H', I', jh, _, _, _, _, hn⟩ := h.ex
    have hn1 : H' (s.heap.objs.size + 1) = none := hn _ (List.mem_cons_of_mem _ List.mem_cons_self)
    obtain ⟨G, g1, g2⟩ := L2.restrict s'.heap fun p => decide (p ≠ s.heap.objs.size + 1)
    have IG : Inv X pins σ H' { s' with heap := G } := inv_moved (ws := [s.heap.objs.size + 1]) I' ⟨fun b o hb q => by
      rw [g1 b (decide_eq_true (fun z => hb (by rw [z]; exact List.mem_cons_self)))]; exact q, rfl, rfl⟩ fun b hb => by
        rw [List.mem_singleton.mp hb]
        exact ⟨hw1, hn1⟩
    have gk : ∀ b o, G.get? b = some o → s'.heap.get? b = some o := fun b o q => by
      by_cases hb : b = s.heap.objs.size + 1
      · rw [g2 b (by rw [hb]; simp)] at q; cases q
      · rw [g1 b (decide_eq_true hb)] at q; exact q
    have ke : (ns.map key).map PyData.int = ns.map fun n => PyData.int (key n) := by rw [List.map_map]; rfl
    rw [ke] at ko
    have eR : PySem.W.EachIs (fun (v : Value) (n : Int) => ∃ t, v = .int n t) its ns := by
      refine PySem.W.EachIs.of_zip hlen fun q hq => ?_
      obtain ⟨i, hi⟩ := List.getElem?_of_mem hq
      obtain ⟨h1, h2⟩ := List.getElem?_zip_eq_some.mp hi
      obtain ⟨n, t, hn, e⟩ := hat h1
      rw [hn] at h2
      cases h2
      exact ⟨t, e⟩
    have eO := PySem.W.keyedOut_each (fun n => PyData.int (key n)) ko eR
    rw [PySem.W.dataLe_int] at eO
    have rO : Vals ((sortK key ns).map V.int) out := by
      clear ko hD
      show Vals ((ns.mergeSort fun a b => decide (key a ≤ key b)).map V.int) out
      generalize (ns.mergeSort fun a b => decide (key a ≤ key b)) = l2 at eO
      induction eO with
      | nil => exact .nil
      | cons r _ ih => obtain ⟨t, rfl⟩ := r; exact .cons ⟨t, rfl⟩ ih
    refine ⟨.ref (s.heap.objs.size + 1), upd H' (s.heap.objs.size + 1) (.lst ((sortK key ns).map V.int)), ?_, rfl, hR _ _ ⟨c', jh⟩ hn1⟩
    have := IG.laidN (h' := s'.heap) (t' := s'.toks) (o := .lst ((sortK key ns).map V.int)) gk (g2 _ (by simp)) hn1 ⟨by rw [List.length_map]; unfold sortK; rw [List.length_mergeSort]; exact hz, out, cc, rO, hD⟩
    exact this
/-- sorted(e, key=lambda a: body) -/
theorem pe_sortK (hr : Room (k + 3) X.A) (hg : Gl X "sorted") (hm : X.mg "sorted" = none) (ha : PA X [e] te) (TB : TabB X.base X.mg c P) (hcode : X.env.code = .ref c) (hmT : (P, X.env.qual ++ "<lambda>") ∈ T) (hu : ∀ p ∈ T, p.1 = P → p.2 = X.env.qual ++ "<lambda>") (L : Lam1 X.env.scope scope a) (nd : X.N.Nodup) (hj : X.N[j]? = some a)
    (hbody : ∀ (A : Around) (s : Shared) (H : Hp) (f c' : Addr), Room k (A.deeper (lamEnv X scope s.heap.objs.size f c')) → PE (bodyCx X A s H scope f c') body tb)
    (hdef : defaultsOf params X.env = ([], []) := by rfl) (hbind : ∀ (q : Str) (cl : List (Str × Addr)) (pm cv ctv u : Value), bindArgs (PySem.W.kla_fn "<lambda>" q params body scope cl pm cv ctv) ⟨[u], []⟩ = pure [(a, u)] := by intros; rfl)
    (he : backTo pos (starEach [e] X.env) = (false, eval e X.env) :: backTo pos (starEach [] X.env) := by rfl) (hpl : (backTo pos (starEach [e] X.env)).any (·.1) = false := by rfl) :
    PE X (.Call (.Name "sorted" p) [e] [⟨some "key", .Lambda params body scope lpos, kpos⟩] pos) (tKeyed T (X.env.qual ++ "<lambda>") j tb te rSortK) :=
  pe_keyed hg hm (by decide +kernel) ha TB hcode hmT hu L nd hj hdef hbind hbody (sort_case L nd hj hr hbind hbody) (by decide) (by decide) he hpl
end
end NL
/-! own: such keys over what is known of the heap; defs that make lambdas -/
namespace NN
open PySem L2 NL
/-- the code's table stands in the list of tables -/
structure LmF (base : Heap) (mg : Str → Option Value) (T : List (Addr × Str)) (c : Addr) (q : Str) : Prop where
  ex : ∃ P, LamX.TabB base mg c P ∧ (P, q) ∈ T ∧ ∀ p ∈ T, p.1 = P → p.2 = q
/-- a def, a method that makes lambdas: its code stands at c -/
structure DFL (K : PySem.W.Frag) (mg : Str → Option Value) (x : Str) (st : Stmt) (dvs : List V) (kws : List (Str × V)) (c : Addr) : Prop where
  ex : ∃ f fd, mg x = some (.ref f) ∧ FunS K x x st dvs kws f fd ∧ fd.code = .ref c
structure MFL (K : PySem.W.Frag) (C : Addr) (m qual : Str) (st : Stmt) (dvs : List V) (kws : List (Str × V)) (c : Addr) : Prop where
  ex : ∃ f fd, Meth K C m f ∧ FunS K m qual st dvs kws f fd ∧ fd.code = .ref c
section
variable {P : Program} {w : World} {K : PySem.W.Frag} {mg : Str → Option Value} {base : Heap} {x qual : Str} {st : Stmt} {N ps : List Str} {k : Nat} {sp : Sp} {t : TS} {tx : XK → TS} {dvs : List V} {kws : List (Str × V)} {f c : Addr} {fd : FuncData} {C : Addr} {m : Str}
theorem DFL.mk2 {CX : CXT} (F : DFL K mg x st dvs kws c) (h : ∀ f fd, FunS K x x st dvs kws f fd → fd.code = .ref c → FnOk P w K mg base CX k f fd ps sp) : DK P w K mg base CX k x ps st dvs kws sp :=
  let ⟨f, fd, hm, F, hc⟩ := F.ex; ⟨f, fd, hm, F, h f fd F hc⟩
theorem MFL.mk2 {CX : CXT} (F : MFL K C m qual st dvs kws c) (h : ∀ f fd, FunS K m qual st dvs kws f fd → fd.code = .ref c → FnOk P w K mg base CX k f fd ps sp) : MK P w K mg base CX k C m qual ps st dvs kws sp :=
  let ⟨f, fd, hm, F, hc⟩ := F.ex; ⟨f, fd, hm, F, h f fd F hc⟩
/-- the rules: such a body that lets nothing out, one that may raise -/
theorem fn0L (F : FunS K x qual st dvs kws f fd) (hc : fd.code = .ref c) (S : FnScope N ps (defScope st)) (len : ∀ vs H Q E, sp vs H Q E → vs.length = ps.length)
    (der : ∀ (f : Addr) (A : Around) (outer : List Env) (s : Shared) (H : Hp) (E : XK), Room k (A.deeper (PyProof.Rows.envOfC qual (defScope st) s.heap.objs.size f (.ref c))) → PSs (cxOf CX0 P w K mg base N qual (defScope st) f (.ref c) A outer s H E).nox (defBody st) t)
    (rd : ∀ vs H Q E, sp vs H Q E → t { nx := fun _ H' => Q .non H', rt := Q } (start N vs) H) : FnOk P w K mg base CX0 (k + 1) f fd ps sp := by
  obtain ⟨oc, od, dV, kV, doc, pm, an, cdv, ct, osl, rfl, lk, hcd, _, _⟩ := F.ex
  obtain rfl : cdv = .ref c := hc
  exact fn_of lk hcd S len fun A outer s H vs Q E hr hsp => ⟨t, (der f A outer s H E hr).nox, rd vs H Q E hsp⟩
theorem fnxL (F : FunS K x qual st dvs kws f fd) (hc : fd.code = .ref c) (S : FnScope N ps (defScope st)) (len : ∀ vs H Q E, sp vs H Q E → vs.length = ps.length)
    (der : ∀ (f : Addr) (A : Around) (outer : List Env) (s : Shared) (H : Hp) (E : XK), Room k (A.deeper (PyProof.Rows.envOfC qual (defScope st) s.heap.objs.size f (.ref c))) → PSs (cxOf (L2.CX P w) P w K mg base N qual (defScope st) f (.ref c) A outer s H E) (defBody st) (tx E))
    (rd : ∀ vs H Q E, sp vs H Q E → tx E { nx := fun _ H' => Q .non H', rt := Q } (start N vs) H) : FnOk P w K mg base (L2.CX P w) (k + 1) f fd ps sp := by
  obtain ⟨oc, od, dV, kV, doc, pm, an, cdv, ct, osl, rfl, lk, hcd, _, _⟩ := F.ex
  obtain rfl : cdv = .ref c := hc
  exact fn_of lk hcd S len fun A outer s H vs Q E hr hsp => ⟨tx E, der f A outer s H E hr, rd vs H Q E hsp⟩
end
/-! ### the terms -/
section
variable {X : Cx} {T : List (Addr × Str)} {c : Addr} {k k' j : Nat} {a : Str} {params : Arguments} {body : Expr} {scope : Scope} {tb : TE} {te : TA} {e : Expr} {p lpos kpos pos : Pos} {q : Str}
theorem pe_minL (hr : Room k' X.A) (hk : k + 3 ≤ k') (hg : Gl X "min") (hm : X.mg "min" = none) (ha : PA X [e] te) (F : LmF X.base X.mg T c q) (hcode : X.env.code = .ref c) (hq : X.env.qual ++ "<lambda>" = q) {sc : Scope} (hsc : X.env.scope = sc) (L : lam1B sc scope a = true) (nd : X.N.Nodup) (hj : X.N[j]? = some a)
    (hbody : ∀ (A : Around) (s : Shared) (H : Hp) (f c' : Addr), Room k (A.deeper (LamX.lamEnv X scope s.heap.objs.size f c')) → PE (bodyCx X A s H scope f c') body tb)
    (hdef : defaultsOf params X.env = ([], []) := by rfl) (hbind : ∀ (q : Str) (cl : List (Str × Addr)) (pm cv ctv u : Value), bindArgs (PySem.W.kla_fn "<lambda>" q params body scope cl pm cv ctv) ⟨[u], []⟩ = pure [(a, u)] := by intros; rfl)
    (he : backTo pos (starEach [e] X.env) = (false, eval e X.env) :: backTo pos (starEach [] X.env) := by rfl) (hpl : (backTo pos (starEach [e] X.env)).any (·.1) = false := by rfl) :
    PE X (.Call (.Name "min" p) [e] [⟨some "key", .Lambda params body scope lpos, kpos⟩] pos) (tKeyed T q j tb te rMinK) := by
  obtain ⟨P, h1, h2, h3⟩ := F.ex
  subst hq hsc
  exact pe_minK (hr.mono (Nat.le_trans (Nat.le_succ _) hk)) hg hm ha h1 hcode h2 h3 (lam1_by L) nd hj hbody hdef hbind he hpl
theorem pe_maxL (hr : Room k' X.A) (hk : k + 3 ≤ k') (hg : Gl X "max") (hm : X.mg "max" = none) (ha : PA X [e] te) (F : LmF X.base X.mg T c q) (hcode : X.env.code = .ref c) (hq : X.env.qual ++ "<lambda>" = q) {sc : Scope} (hsc : X.env.scope = sc) (L : lam1B sc scope a = true) (nd : X.N.Nodup) (hj : X.N[j]? = some a)
    (hbody : ∀ (A : Around) (s : Shared) (H : Hp) (f c' : Addr), Room k (A.deeper (LamX.lamEnv X scope s.heap.objs.size f c')) → PE (bodyCx X A s H scope f c') body tb)
    (hdef : defaultsOf params X.env = ([], []) := by rfl) (hbind : ∀ (q : Str) (cl : List (Str × Addr)) (pm cv ctv u : Value), bindArgs (PySem.W.kla_fn "<lambda>" q params body scope cl pm cv ctv) ⟨[u], []⟩ = pure [(a, u)] := by intros; rfl)
    (he : backTo pos (starEach [e] X.env) = (false, eval e X.env) :: backTo pos (starEach [] X.env) := by rfl) (hpl : (backTo pos (starEach [e] X.env)).any (·.1) = false := by rfl) :
    PE X (.Call (.Name "max" p) [e] [⟨some "key", .Lambda params body scope lpos, kpos⟩] pos) (tKeyed T q j tb te rMaxK) := by
  obtain ⟨P, h1, h2, h3⟩ := F.ex
  subst hq hsc
  exact pe_maxK (hr.mono (Nat.le_trans (Nat.le_succ _) hk)) hg hm ha h1 hcode h2 h3 (lam1_by L) nd hj hbody hdef hbind he hpl
theorem pe_sortL (hr : Room k' X.A) (hk : k + 3 ≤ k') (hg : Gl X "sorted") (hm : X.mg "sorted" = none) (ha : PA X [e] te) (F : LmF X.base X.mg T c q) (hcode : X.env.code = .ref c) (hq : X.env.qual ++ "<lambda>" = q) {sc : Scope} (hsc : X.env.scope = sc) (L : lam1B sc scope a = true) (nd : X.N.Nodup) (hj : X.N[j]? = some a)
    (hbody : ∀ (A : Around) (s : Shared) (H : Hp) (f c' : Addr), Room k (A.deeper (LamX.lamEnv X scope s.heap.objs.size f c')) → PE (bodyCx X A s H scope f c') body tb)
    (hdef : defaultsOf params X.env = ([], []) := by rfl) (hbind : ∀ (q : Str) (cl : List (Str × Addr)) (pm cv ctv u : Value), bindArgs (PySem.W.kla_fn "<lambda>" q params body scope cl pm cv ctv) ⟨[u], []⟩ = pure [(a, u)] := by intros; rfl)
    (he : backTo pos (starEach [e] X.env) = (false, eval e X.env) :: backTo pos (starEach [] X.env) := by rfl) (hpl : (backTo pos (starEach [e] X.env)).any (·.1) = false := by rfl) :
    PE X (.Call (.Name "sorted" p) [e] [⟨some "key", .Lambda params body scope lpos, kpos⟩] pos) (tKeyed T q j tb te rSortK) := by
  obtain ⟨P, h1, h2, h3⟩ := F.ex
  subst hq hsc
  exact pe_sortK (hr.mono hk) hg hm ha h1 hcode h2 h3 (lam1_by L) nd hj hbody hdef hbind he hpl
end
/-! ### steps -/
section
variable {Z : Ad} {L R : List Atom} {H : Hp} {Q : VK} {l : Addr} {xs : List V} {ns : List Int} {σ : St} {j : Nat} {tb : TE} {te : TA} {q : Str} {Rk : List Int → (Int → Int) → (Hp → Prop) → VK → Prop}
abbrev CdO (q : Str) (c : Addr) : HO := LamX.CodeO c q
instance p_keyed : Stp (tKeyed Z.tabs q j tb te Rk σ H Q) (te σ H fun vs H1 => ∃ (l : Addr) (ns : List Int), vs = [.ref l] ∧ H1 l = some (.lst (ns.map V.int)) ∧ LamX.Tabs Z.tabs H1 ∧ ∀ od : Obj,
  ∃ (key : Int → Int) (J : Addr → Hp → Prop), KeyRd Z.tabs q l od ns (upd H1 l (.frz od (.lst (ns.map V.int)))) (fun n => tb (σ.set j (some (.int n)))) key J ∧ Rk ns key (fun H2 => ∃ c, J c H2) fun v H' => H' l = some (.frz od (.lst (ns.map V.int))) ∧ Q v (upd H' l (.lst (ns.map V.int)))) := ⟨fun q => q⟩
/-- the state within the key's calls -/
abbrev InKey (Z : Ad) (q : Str) (l : Addr) (ns : List Int) (R : List Atom) (c : Addr) (od : Obj) : Hp → Prop := Sat Z (⟨c, Pt (CdO q c)⟩ :: ⟨l, Pt (.frz od (.lst (ns.map V.int)))⟩ :: R)
theorem keyed_core (s : Sat Z L H) (f : Fnd L l (Pt (.lst xs)) R) (I : IsI xs ns) (key : Int → Int)
    (hb : ∀ c od H2 n, n ∈ ns → InKey Z q l ns R c od H2 → tb (σ.set j (some (.int n))) H2 fun k H3 => k = .int (key n) ∧ InKey Z q l ns R c od H3)
    (hR : ∀ od, Rk ns key (fun H2 => ∃ c, InKey Z q l ns R c od H2) fun v H' => H' l = some (.frz od (.lst (ns.map V.int))) ∧ Q v (upd H' l (.lst (ns.map V.int)))) :
    ∃ (l' : Addr) (ns : List Int), [V.ref l] = [.ref l'] ∧ H l' = some (.lst (ns.map V.int)) ∧ LamX.Tabs Z.tabs H ∧ ∀ od : Obj,
      ∃ (key : Int → Int) (J : Addr → Hp → Prop), KeyRd Z.tabs q l' od ns (upd H l' (.frz od (.lst (ns.map V.int)))) (fun n => tb (σ.set j (some (.int n)))) key J ∧ Rk ns key (fun H2 => ∃ c, J c H2) fun v H' => H' l' = some (.frz od (.lst (ns.map V.int))) ∧ Q v (upd H' l' (.lst (ns.map V.int))) := by
  obtain rfl := I.eq
  refine ⟨l, ns, rfl, s.at, s.tabs, fun od => ⟨key, fun c => InKey Z q l ns R c od, ⟨fun c H2 e t hc => ?_, fun c H2 h => ⟨h.at0, ?_⟩, fun c H2 n hn h => hb c od H2 n hn h⟩, hR od⟩⟩
  · have s1 : Sat Z (⟨l, Pt (.frz od (.lst (ns.map V.int)))⟩ :: R) _ := s.fnd.put (o' := .frz od (.lst (ns.map V.int))) mutO_lst rfl
    exact (s1.extN e t).add hc trivial
  · exact h.tail.at0
theorem s_minK (s : Sat Z L H) (f : Fnd L l (Pt (.lst xs)) R) (I : IsI xs ns) (hn : 0 < ns.length) (key : Int → Int)
    (hb : ∀ c od H2 n, n ∈ ns → InKey Z q l ns R c od H2 → tb (σ.set j (some (.int n))) H2 fun k H3 => k = .int (key n) ∧ InKey Z q l ns R c od H3)
    (hQ : ∀ i n H', FirstBest (· < ·) key ns i n → Sat Z (⟨l, Pt (.lst (ns.map V.int))⟩ :: R) H' → Q (.int n) H') :
    ∃ (l' : Addr) (ns : List Int), [V.ref l] = [.ref l'] ∧ H l' = some (.lst (ns.map V.int)) ∧ LamX.Tabs Z.tabs H ∧ ∀ od : Obj,
      ∃ (key : Int → Int) (J : Addr → Hp → Prop), KeyRd Z.tabs q l' od ns (upd H l' (.frz od (.lst (ns.map V.int)))) (fun n => tb (σ.set j (some (.int n)))) key J ∧ rMinK ns key (fun H2 => ∃ c, J c H2) fun v H' => H' l' = some (.frz od (.lst (ns.map V.int))) ∧ Q v (upd H' l' (.lst (ns.map V.int))) :=
  keyed_core s f I key hb fun od => ⟨hn, fun H2 i n ⟨c, h⟩ fb => ⟨h.tail.at0, hQ i n _ fb (h.tail.put ⟨rfl, fun z => z⟩ rfl)⟩⟩
theorem s_maxK (s : Sat Z L H) (f : Fnd L l (Pt (.lst xs)) R) (I : IsI xs ns) (hn : 0 < ns.length) (key : Int → Int)
    (hb : ∀ c od H2 n, n ∈ ns → InKey Z q l ns R c od H2 → tb (σ.set j (some (.int n))) H2 fun k H3 => k = .int (key n) ∧ InKey Z q l ns R c od H3)
    (hQ : ∀ i n H', FirstBest (· > ·) key ns i n → Sat Z (⟨l, Pt (.lst (ns.map V.int))⟩ :: R) H' → Q (.int n) H') :
    ∃ (l' : Addr) (ns : List Int), [V.ref l] = [.ref l'] ∧ H l' = some (.lst (ns.map V.int)) ∧ LamX.Tabs Z.tabs H ∧ ∀ od : Obj,
      ∃ (key : Int → Int) (J : Addr → Hp → Prop), KeyRd Z.tabs q l' od ns (upd H l' (.frz od (.lst (ns.map V.int)))) (fun n => tb (σ.set j (some (.int n)))) key J ∧ rMaxK ns key (fun H2 => ∃ c, J c H2) fun v H' => H' l' = some (.frz od (.lst (ns.map V.int))) ∧ Q v (upd H' l' (.lst (ns.map V.int))) :=
  keyed_core s f I key hb fun od => ⟨hn, fun H2 i n ⟨c, h⟩ fb => ⟨h.tail.at0, hQ i n _ fb (h.tail.put ⟨rfl, fun z => z⟩ rfl)⟩⟩
theorem s_sortK (s : Sat Z L H) (f : Fnd L l (Pt (.lst xs)) R) (I : IsI xs ns) (key : Int → Int)
    (hb : ∀ c od H2 n, n ∈ ns → InKey Z q l ns R c od H2 → tb (σ.set j (some (.int n))) H2 fun k H3 => k = .int (key n) ∧ InKey Z q l ns R c od H3)
    (hQ : ∀ p H', Sat Z (⟨p, Pt (.lst ((sortK key ns).map V.int))⟩ :: ⟨l, Pt (.lst (ns.map V.int))⟩ :: R) H' → Q (.ref p) H') :
    ∃ (l' : Addr) (ns : List Int), [V.ref l] = [.ref l'] ∧ H l' = some (.lst (ns.map V.int)) ∧ LamX.Tabs Z.tabs H ∧ ∀ od : Obj,
      ∃ (key : Int → Int) (J : Addr → Hp → Prop), KeyRd Z.tabs q l' od ns (upd H l' (.frz od (.lst (ns.map V.int)))) (fun n => tb (σ.set j (some (.int n)))) key J ∧ rSortK ns key (fun H2 => ∃ c, J c H2) fun v H' => H' l' = some (.frz od (.lst (ns.map V.int))) ∧ Q v (upd H' l' (.lst (ns.map V.int))) := by
  refine keyed_core s f I key hb fun od => fun H2 p ⟨c, h⟩ hp => ?_
  have n1 : l ≠ p := ne_of_none h.tail.at0 hp
  refine ⟨by rw [upd_ne n1]; exact h.tail.at0, ?_⟩
  have s1 := h.tail.new (p := p) (o := .lst ((sortK key ns).map V.int)) hp (fun _ z => by cases z)
  exact hQ p _ ((s1.ent (L' := ⟨l, Pt (.frz od (.lst (ns.map V.int)))⟩ :: ⟨p, Pt (.lst ((sortK key ns).map V.int))⟩ :: R)).put (o' := .lst (ns.map V.int)) ⟨rfl, fun z => z⟩ rfl).ent
end
end NN
/-! own: the end of a law over SL, with tables of code objects -/
namespace NN
open PySem PyProof.Rows L2
/-- the law's start: the script, the empty tables -/
theorem sat_start {S : Addr} {cs : List (Addr × Addr)} {T : List (Addr × Str)} {H : Hp} {K : PySem.W.Frag} {a : Addr} {xs : List V} (h : ∀ p ∈ T, ∃ q ∈ cs, q.2 = p.1) (hT : ∀ p ∈ cs, H p.2 = some (.tbl #[])) (hS : SqL K H a xs) : SatI T S [⟨a, RL K xs⟩] H := by
  refine ⟨fun p hp => ?_, noT H, fun _ => none, .refl, (fun _ _ z => nomatch z), (fun _ _ _ _ z => nomatch z), ?_, trivial⟩
  · obtain ⟨q, hq, e⟩ := h p hp
    exact LamX.TabS.nil (by rw [← e]; exact hT q hq)
  · rcases hS with (e | ⟨u, e⟩) | e
    · exact .inl (.inl (noT_of e rfl))
    · exact .inl (.inr ⟨u, noT_of e rfl⟩)
    · exact .inr e
/-- the law's own def, at the end -/
theorem law_fin3 {l : PySem.W.OpenLaw} {w : World} {K : PySem.W.Frag} {mg : Str → Option Value} {CX : CXT} {x p : Str} {st : Stmt} {k : Nat} {sp : Sp} {fa : Addr} {h : Heap} {Tb : List (Addr × Addr)} (f : Addr) (fd : FuncData) (hm : mg x = some (.ref f)) (hfa : mg x = some (.ref fa)) (F : FunS K x x st [] [] f fd) (B : PlainB x [p] st)
    (ok : ∀ (base : Heap), (∀ p ∈ Tb, LamX.TabB base mg p.1 p.2) → ∀ (f : Addr) (fd : FuncData), FunS K x x st [] [] f fd → FnOk l.prog w K mg base CX k f fd [p] sp)
    (h1 : ∀ p ∈ Tb, h.get? p.2 = some { cls := .none, data := .fields #[] }) (h2 : ∀ p ∈ Tb, K.lookup p.2 = none) (h3 : ∀ p ∈ Tb, PySem.W.CodeHd h p.1 p.2)
    (hsp : ∀ (H : Hp) (a : Addr) (ns : List Int), ns.length ≤ 63 → (∀ z ∈ ns, Builtin.Int.intBits z ≤ 1048576) → (∀ p ∈ Tb, H p.2 = some (.tbl #[])) → SqL K H a (ns.map V.int) → sp [.ref a] H (fun v _ => v = .bl true) fun _ _ _ => False) :
    LamX.LawAtS l w K CX k 63 p mg fa h := by
  have e : f = fa := by
    have z := hm.symm.trans hfa
    injection z with z
    injection z
  subst e
  refine ⟨fd, Tb, sp, h1, h2, h3, fun s v => ?_, hsp, fun base _ _ TB => ok base TB f fd F⟩
  obtain ⟨oc, od, dV, kV, doc, pm, an, cdv, ct, osl, rfl, lk, hcd, hD, _⟩ := F.ex
  rcases hD with ⟨_, rfl⟩ | ⟨z, _⟩
  · exact .of_eq (B kV doc pm an cdv ct [v] rfl)
  · exact absurd rfl z
end NN
namespace NN
open PySem L2
/-- all points of a list lie in the space -/
def InSp (size : Int) (ns : List Int) : Prop := ∀ n ∈ ns, 0 ≤ n ∧ n < size
/-- between, as the program tells it -/
def betw (m p x y : Int) : Bool := decide (0 < (p - x) % m) && (decide (x = y) || decide ((p - x) % m < (y - x) % m))
theorem g_iteV {b : Bool} {σ : St} {H : Hp} {ta tb : TE} {Q : VK} {v : V} (h1 : b = true → ∀ Q' : VK, Q' v H → ta σ H Q') (h2 : b = false → ∀ Q' : VK, Q' v H → tb σ H Q') (q : Q v H) : if b = true then ta σ H Q else tb σ H Q := by
  cases b with
  | true => exact h1 rfl Q q
  | false => exact h2 rfl Q q
theorem g_iteA {b : Bool} {σ : St} {H : Hp} {ta : TE} {Q : VK} {v w : V} (h1 : b = true → ∀ Q' : VK, Q' v H → ta σ H Q') (h2 : b = false → v = w) (q : Q v H) : if b = true then ta σ H Q else Q w H := by
  cases b with
  | true => exact h1 rfl Q q
  | false => rw [← h2 rfl]; exact q
/-! ### remainders by cases -/
theorem mod_a {z m : Int} (h1 : 0 ≤ z) (h2 : z < m) : z % m = z := Int.emod_eq_of_lt h1 h2
theorem mod_b {z m : Int} (h1 : m ≤ z) (h2 : z < 2 * m) : z % m = z - m := by
  have e := Int.add_mul_emod_self_left (z - m) m 1
  rw [Int.mul_one, Int.sub_add_cancel] at e
  rw [e, Int.emod_eq_of_lt (by omega) (by omega)]
theorem mod_c {z m : Int} (h1 : -m ≤ z) (h2 : z < 0) : z % m = z + m := by
  have e := Int.add_mul_emod_self_left z m 1
  rw [Int.mul_one] at e
  rw [← e, Int.emod_eq_of_lt (by omega) (by omega)]
theorem mod_s {z m : Int} (h1 : -m ≤ z) (h2 : z < m) : (0 ≤ z ∧ z % m = z) ∨ (z < 0 ∧ z % m = z + m) := by
  by_cases h : 0 ≤ z
  · exact .inl ⟨h, mod_a h h2⟩
  · exact .inr ⟨by omega, mod_c h1 (by omega)⟩
theorem mod_t {z m : Int} (h1 : 0 ≤ z) (h2 : z < 2 * m) : (z < m ∧ z % m = z) ∨ (m ≤ z ∧ z % m = z - m) := by
  by_cases h : z < m
  · exact .inl ⟨h, mod_a h1 h⟩
  · exact .inr ⟨by omega, mod_b (by omega) h2⟩
/-- how many points lie on the way -/
def wln (m x y : Int) : Nat := ((y - x - 1) % m).toNat
def wl (m x y : Int) (n : Nat) : List Int := (List.range n).map fun (j : Nat) => (x + 1 + (j : Int)) % m
theorem wl_len (m x y : Int) (n : Nat) : (wl m x y n).length = n := by unfold wl; rw [List.length_map, List.length_range]
theorem wl_succ (m x y : Int) (n : Nat) : wl m x y (n + 1) = wl m x y n ++ [(x + 1 + (n : Int)) % m] := by unfold wl; rw [List.range_succ, List.map_append]; rfl
theorem wln_lt {m x y : Int} (hm : 8 ≤ m) : ((wln m x y : Nat) : Int) < m ∧ ((wln m x y : Nat) : Int) = (y - x - 1) % m := by
  unfold wln
  have h1 := Int.emod_nonneg (y - x - 1) (show m ≠ 0 by omega)
  have h2 := Int.emod_lt_of_pos (y - x - 1) (show 0 < m by omega)
  omega
theorem wl_hit {m x y : Int} {n : Nat} (hm : 8 ≤ m) (hx : 0 ≤ x ∧ x < m) (hy : 0 ≤ y ∧ y < m) (hn : (n : Int) < m) : (x + 1 + (n : Int)) % m = y ↔ n = wln m x y := by
  have h1 := wln_lt (x := x) (y := y) hm
  rcases mod_s (z := y - x - 1) (m := m) (by omega) (by omega) with a | a <;> rcases mod_t (z := x + 1 + (n : Int)) (m := m) (by omega) (by omega) with b | b <;> constructor <;> intro h <;> omega
theorem betw_wl {m p x y : Int} (hm : 8 ≤ m) (hp : 0 ≤ p ∧ p < m) (hx : 0 ≤ x ∧ x < m) (hy : 0 ≤ y ∧ y < m) : betw m p x y = decide (p ∈ wl m x y (wln m x y)) := by
  have e : p ∈ wl m x y (wln m x y) ↔ wln m x p < wln m x y := by
    unfold wl
    rw [List.mem_map]
    constructor
    · rintro ⟨j, hj, e⟩
      rw [List.mem_range] at hj
      have z := wln_lt (x := x) (y := y) hm
      rw [wl_hit hm hx hp (by omega)] at e
      omega
    · intro h
      refine ⟨wln m x p, List.mem_range.mpr h, ?_⟩
      have z := wln_lt (x := x) (y := p) hm
      rw [wl_hit hm hx hp (by omega)]
  have h1 := wln_lt (x := x) (y := y) hm
  have h2 := wln_lt (x := x) (y := p) hm
  rw [Bool.eq_iff_iff]
  unfold betw
  simp only [Bool.and_eq_true, Bool.or_eq_true, decide_eq_true_eq]
  rw [e]
  rcases mod_s (z := y - x - 1) (m := m) (by omega) (by omega) with a | a <;> rcases mod_s (z := p - x - 1) (m := m) (by omega) (by omega) with b | b <;> rcases mod_s (z := p - x) (m := m) (by omega) (by omega) with c | c <;> rcases mod_s (z := y - x) (m := m) (by omega) (by omega) with d | d <;> constructor <;> intro h <;> omega
theorem betw_no {m p x y : Int} (h : p = x) : betw m p x y = false := by
  unfold betw
  rw [h, Int.sub_self, Int.zero_emod]
  rfl
theorem betw_pos {m p x : Int} (hm : 8 ≤ m) (hp : 0 ≤ p ∧ p < m) (hx : 0 ≤ x ∧ x < m) (h : p ≠ x) : 0 < (p - x) % m := by
  rcases mod_s (z := p - x) (m := m) (by omega) (by omega) with a | a <;> omega
theorem betw_T {m p x y : Int} (hm : 8 ≤ m) (hp : 0 ≤ p ∧ p < m) (hx : 0 ≤ x ∧ x < m) (h : p ≠ x) (h2 : x = y) : betw m p x y = true := by
  unfold betw
  rw [decide_eq_true (betw_pos hm hp hx h), decide_eq_true h2]
  rfl
theorem betw_L {m p x y : Int} (hm : 8 ≤ m) (hp : 0 ≤ p ∧ p < m) (hx : 0 ≤ x ∧ x < m) (h : p ≠ x) (h2 : ¬ x = y) : betw m p x y = decide ((p - x) % m < (y - x) % m) := by
  unfold betw
  rw [decide_eq_true (betw_pos hm hp hx h), decide_eq_false h2, Bool.true_and, Bool.false_or]
end NN
namespace NN
open PySem L2
local macro_rules | `(tactic| walk_at "nl") => `(tactic| first | with_reducible assumption | omega | (simp only [List.length_map, List.length_cons, List.length_nil, List.length_append, List.length_reverse, List.length_take, List.length_drop] <;> omega) | decide)
local macro_rules | `(tactic| walk_at "ar") => `(tactic| first | omega | (simp only [List.length_cons, List.length_nil] <;> omega) | (simp only [List.length_cons, List.length_nil, List.length_append, List.length_map, List.length_set, List.length_take, List.length_drop, List.length_reverse] <;> omega) | decide)
local macro_rules | `(tactic| walk_at "cond") => `(tactic| first | assumption | exact c_mulB | (exact c_mulL (by walk_at "nl") (by walk_at "nl")) | (exact c_mulR (by walk_at "nl") (by walk_at "nl")) | (exact c_divW (by walk_at "nl") (by walk_at "nl")) | (exact c_pow (by walk_at "nl") (by walk_at "nl") (by walk_at "nl")) | walk_at "nl")
local macro_rules | `(tactic| walk_at "sz") => `(tactic| first | exact sz_small (by simp only [List.length_cons, List.length_nil]; decide) | exact sz_small (by decide) | exact sz_small (by walk_at "ar"))
local macro_rules | `(tactic| walk_at "sl") => `(tactic| first | exact sz_less (by walk_at "ar"))
local macro_rules | `(tactic| walk_at "at") => `(tactic| first | assumption | exact at_0 | exact at_1 | exact at_2 | exact at_3 | exact at_4 | exact at_5 | exact at_6 | exact at_7 | exact at_8 | exact at_9 | exact at_10 | exact at_11 | exact at_12 | exact at_13 | exact at_14 | exact at_15 | exact atI_nat (by assumption))
local macro_rules | `(tactic| walk_at "flat") => `(tactic| first | exact ints_flat _ | rfl | assumption | decide)
local macro_rules | `(tactic| walk_at "ixn") => `(tactic| first | with_unfolding_all rfl | exact ixN_lit (j := 0) rfl (by walk_at "ar") | exact ixN_nat (by walk_at "ar"))
local macro_rules | `(tactic| walk_at "sat") => `(tactic| first | assumption | exact SatI.ent (by assumption))
local macro_rules | `(tactic| walk_at "hat") => `(tactic| first | with_reducible assumption | exact SatI.at (by assumption))
local macro_rules | `(tactic| walk_at "lt") => `(tactic| first | decide | (simp only [List.length_cons, List.length_nil]; decide))
local macro_rules | `(tactic| walk_at "putf") => `(tactic| (simp (decide := true) only [putF, if_true, if_false]) <;> rfl)
local macro_rules | `(tactic| walk_at "lkr") => `(tactic| exact fun _ _ _ _ => rfl)
local macro_rules | `(tactic| walk_at "ok") => `(tactic| first | assumption | decide +kernel)
local macro_rules | `(tactic| walk_at "lkk") => `(tactic| exact fun _ => rfl)
local macro_rules | `(tactic| walk_at "lkf") => `(tactic| exact fun _ _ => rfl)
local macro_rules | `(tactic| walk_at "dval") => `(tactic| first | assumption | rfl)
local macro_rules | `(tactic| walk_at "fm") => `(tactic| first | exact fm_yes (by assumption) (by first | rfl | assumption) rfl (by assumption) inferInstance (by walk_at "ar") | exact fm_no (by assumption) (by first | rfl | assumption) (by assumption) inferInstance)
local macro_rules | `(tactic| walk_at "call") => `(tactic| fail)
local macro_rules | `(tactic| walk_at "call2") => `(tactic| fail)
local macro_rules | `(tactic| walk_at "go1") => `(tactic| first | ((with_reducible refine Stp.imp ?_)) | (((with_reducible refine' g_eqc ?h0 ?_); (case h0 => rfl))) | (((with_reducible refine' g_I ?h0 ?_); (case h0 => walk_at "cond"))) | (((with_reducible refine' g_eq ?h0 ?_); (case h0 => with_unfolding_all rfl))) | (((with_reducible refine' g_ne ?h0 ?_); (case h0 => with_unfolding_all rfl))) | (((with_reducible refine' g_sz ?h0 ?_); (case h0 => walk_at "sz"); intro p hp; generalize hg : upd _ p _ = H2; (first | have hs := sat_newLI hg hp (by with_reducible assumption) inferInstance | have hs := sat_newL hg hp (by with_reducible assumption) | have hs := sat_newT hg hp (by with_reducible assumption)); clear hg hp)) | (((with_reducible refine' s_lenI ?h0 ?h1 ?h2 ?h3 ?_); (case h0 => with_reducible assumption); (case h1 => infer_instance); (case h2 => infer_instance); (case h3 => infer_instance))) | (((with_reducible refine' s_lenL ?h0 ?h1 ?h2 ?_); (case h0 => with_reducible assumption); (case h1 => infer_instance); (case h2 => infer_instance))) | (((with_reducible refine' s_lenT ?h0 ?h1 ?_); (case h0 => with_reducible assumption); (case h1 => infer_instance))) | (((with_reducible refine' s_listL ?h0 ?h1 ?h2 ?_); (case h0 => with_reducible assumption); (case h1 => infer_instance); (case h2 => infer_instance); intro _ _ _)) | (((with_reducible refine' s_listT ?h0 ?h1 ?_); (case h0 => with_reducible assumption); (case h1 => infer_instance); intro _ _ _)) | (((with_reducible refine' s_slTo ?h0 ?h1 ?h2 ?h3 ?h4 ?_); (case h0 => with_reducible assumption); (case h1 => infer_instance); (case h2 => infer_instance); (case h3 => infer_instance); (case h4 => walk_at "nl"); intro _ _ _)) | (((with_reducible refine' s_slFrom ?h0 ?h1 ?h2 ?h3 ?h4 ?_); (case h0 => with_reducible assumption); (case h1 => infer_instance); (case h2 => infer_instance); (case h3 => infer_instance); (case h4 => walk_at "nl"); intro _ _ _)) | (((with_reducible refine' s_slLast ?h0 ?h1 ?h2 ?h3 ?_); (case h0 => with_reducible assumption); (case h1 => infer_instance); (case h2 => infer_instance); (case h3 => infer_instance); intro _ _ _)) | (((with_reducible refine' s_slMid ?h0 ?h1 ?h2 ?h3 ?h4 ?h5 ?_); (case h0 => with_reducible assumption); (case h1 => infer_instance); (case h2 => infer_instance); (case h3 => infer_instance); (case h4 => walk_at "nl"); (case h5 => walk_at "nl"); intro _ _ _)) | (((with_reducible refine' s_sum ?h0 ?h1 ?h2 ?h3 ?_); (case h0 => with_reducible assumption); (case h1 => infer_instance); (case h2 => infer_instance); (case h3 => infer_instance))) | (((with_reducible refine' s_slL ?h0 ?h1 ?h2 ?_); (case h0 => with_reducible assumption); (case h1 => infer_instance); (case h2 => infer_instance); intro _ _ _)) | (((with_reducible refine' s_ixL ?h0 ?h1 ?h2 ?h3 ?_); (case h0 => with_reducible assumption); (case h1 => infer_instance); (case h2 => infer_instance); (case h3 => walk_at "at"))) | (((with_reducible refine' s_ixLast ?h0 ?h1 ?h2 ?h3 ?h4 ?_); (case h0 => with_reducible assumption); (case h1 => infer_instance); (case h2 => infer_instance); (case h3 => infer_instance); (case h4 => assumption))) | (((with_reducible refine' s_ixIn ?h0 ?h1 ?h2 ?h3 ?h4 ?h5 ?_); (case h0 => with_reducible assumption); (case h1 => infer_instance); (case h2 => infer_instance); (case h3 => infer_instance); (case h4 => walk_at "nl"); (case h5 => walk_at "nl"); intro n hn; (try simp only [List.mem_cons, List.not_mem_nil, or_false] at hn))) | (((with_reducible refine' s_ixT ?h0 ?h1 ?h2 ?_); (case h0 => with_reducible assumption); (case h1 => infer_instance); (case h2 => walk_at "at"))) | (((with_reducible refine' s_inI ?h0 ?h1 ?h2 ?h3 ?_); (case h0 => with_reducible assumption); (case h1 => infer_instance); (case h2 => infer_instance); (case h3 => infer_instance))) | (((with_reducible refine' s_ninI ?h0 ?h1 ?h2 ?h3 ?_); (case h0 => with_reducible assumption); (case h1 => infer_instance); (case h2 => infer_instance); (case h3 => infer_instance))) | (((with_reducible refine' s_in ?h0 ?h1 ?h2 ?h3 ?h4 ?_); (case h0 => with_reducible assumption); (case h1 => infer_instance); (case h2 => infer_instance); (case h3 => with_unfolding_all rfl); (case h4 => walk_at "flat"))) | (((with_reducible refine' s_setLI ?h0 ?h1 ?h2 ?h3 ?_); (case h0 => with_reducible assumption); (case h1 => infer_instance); (case h2 => infer_instance); (case h3 => walk_at "ixn"); intro _ _)) | (((with_reducible refine' s_setL ?h0 ?h1 ?h2 ?_); (case h0 => with_reducible assumption); (case h1 => infer_instance); (case h2 => with_unfolding_all rfl); intro _ _)) | (((with_reducible refine' s_appendI ?h0 ?h1 ?h2 ?h3 ?_); (case h0 => with_reducible assumption); (case h1 => infer_instance); (case h2 => infer_instance); (case h3 => walk_at "sl"); intro _ _)) | (((with_reducible refine' s_append ?h0 ?h1 ?h2 ?_); (case h0 => with_reducible assumption); (case h1 => infer_instance); (case h2 => walk_at "sl"); intro _ _)) | (((with_reducible refine' s_tyL ?h0 ?h1 ?h2 ?_); (case h0 => with_reducible assumption); (case h1 => infer_instance); (case h2 => infer_instance))) | (((with_reducible refine' s_catI ?h0 ?h1 ?h2 ?h3 ?h4 ?h5 ?_); (case h0 => with_reducible assumption); (case h1 => infer_instance); (case h2 => infer_instance); (case h3 => infer_instance); (case h4 => infer_instance); (case h5 => walk_at "sz"); intro _ _ _)) | (((with_reducible refine' s_cat ?h0 ?h1 ?h2 ?h3 ?_); (case h0 => with_reducible assumption); (case h1 => infer_instance); (case h2 => infer_instance); (case h3 => walk_at "sz"); intro _ _ _)) | (((with_reducible refine' s_sorted ?h0 ?h1 ?h2 ?h3 ?_); (case h0 => with_reducible assumption); (case h1 => infer_instance); (case h2 => infer_instance); (case h3 => infer_instance); intro _ _ _)) | (((with_reducible refine' s_eqL ?h0 ?h1 ?h2 ?h3 ?h4 ?h5 ?h6 ?_); (case h0 => with_reducible assumption); (case h1 => infer_instance); (case h2 => infer_instance); (case h3 => infer_instance); (case h4 => infer_instance); (case h5 => infer_instance); (case h6 => infer_instance))) | (((with_reducible refine' s_neL ?h0 ?h1 ?h2 ?h3 ?h4 ?h5 ?h6 ?_); (case h0 => with_reducible assumption); (case h1 => infer_instance); (case h2 => infer_instance); (case h3 => infer_instance); (case h4 => infer_instance); (case h5 => infer_instance); (case h6 => infer_instance))) | (((with_reducible refine' s_isLL ?h0 ?h1 ?_); (case h0 => with_reducible assumption); (case h1 => infer_instance))) | (((with_reducible refine' s_revI ?h0 ?h1 ?h2 ?h3 ?_); (case h0 => with_reducible assumption); (case h1 => infer_instance); (case h2 => infer_instance); (case h3 => infer_instance); intro _ _ _)) | (((with_reducible refine' s_revL ?h0 ?h1 ?h2 ?_); (case h0 => with_reducible assumption); (case h1 => infer_instance); (case h2 => infer_instance); intro _ _ _)) | (((with_reducible refine' s_insertI ?h0 ?h1 ?h2 ?h3 ?h4 ?h5 ?_); (case h0 => with_reducible assumption); (case h1 => infer_instance); (case h2 => infer_instance); (case h3 => walk_at "sl"); (case h4 => walk_at "nl"); (case h5 => walk_at "nl"); intro _ _)) | (((with_reducible refine' s_all ?h0 ?h1 ?_); (case h0 => with_reducible assumption); (case h1 => infer_instance))) | (((with_reducible refine' s_any ?h0 ?h1 ?_); (case h0 => with_reducible assumption); (case h1 => infer_instance))) | (((with_reducible refine' s_idx ?h0 ?h1 ?h2 ?h3 ?h4 ?_); (case h0 => with_reducible assumption); (case h1 => infer_instance); (case h2 => infer_instance); (case h3 => infer_instance); (case h4 => assumption))) | (((with_reducible refine' g_fld ?h0 ?h1 ?h2 ?h3 ?_); (case h0 => walk_at "hat"); (case h1 => with_reducible assumption); (case h2 => with_reducible assumption); (case h3 => with_unfolding_all rfl))) | (((with_reducible refine' s_sfld ?h0 ?h1 ?h2 ?h3 ?h4 ?h5 ?h6 ?_); (case h0 => with_reducible assumption); (case h1 => infer_instance); (case h2 => with_reducible assumption); (case h3 => with_reducible assumption); (case h4 => with_reducible assumption); (case h5 => walk_at "lt"); (case h6 => walk_at "putf"); intro _ _)) | (((with_reducible refine' s_ins ?h0 ?h1 ?h2 ?_); (case h0 => with_reducible assumption); (case h1 => infer_instance); (case h2 => with_unfolding_all rfl))) | (((with_reducible refine' s_dget ?h0 ?h1 ?h2 ?h3 ?_); (case h0 => with_reducible assumption); (case h1 => infer_instance); (case h2 => infer_instance); (case h3 => walk_at "dval"))) | (((with_reducible refine' s_din ?h0 ?h1 ?h2 ?_); (case h0 => with_reducible assumption); (case h1 => infer_instance); (case h2 => infer_instance))) | (((with_reducible refine' s_dnotin ?h0 ?h1 ?h2 ?_); (case h0 => with_reducible assumption); (case h1 => infer_instance); (case h2 => infer_instance))) | (((with_reducible refine' s_dput ?h0 ?h1 ?h2 ?h3 ?_); (case h0 => with_reducible assumption); (case h1 => infer_instance); (case h2 => infer_instance); (case h3 => walk_at "sl"); intro _ _)) | ((intro p hp; generalize hg : upd _ p (HO.dK []) = H2; have hs := sat_newD hg hp (by with_reducible assumption); clear hg hp)) | (((with_reducible refine' s_divmod ?h0 ?h1 ?h2 ?_); (case h0 => with_reducible assumption); (case h1 => walk_at "nl"); (case h2 => walk_at "nl"); intro _ _ _)) | (((with_reducible refine' s_gtup ?h0 ?h1 ?h2 ?_); (case h0 => with_reducible assumption); (case h1 => infer_instance); (case h2 => with_unfolding_all rfl))) | walk_at "call" | walk_at "call2")
local macro_rules | `(tactic| walk_at "go") => `(tactic| (repeat walk_at "go1"); (try dsimp only))
local macro_rules | `(tactic| walk_at "on") => `(tactic| (with_reducible refine g_seq ?_); walk_at "go")
local macro_rules | `(tactic| walk_at "ifs") => `(tactic| ((try simp only [List.length_map]) <;> (repeat' split) <;> omega))
/-! ### things at hand -/
/-- a pot of draws: two numbers -/
def PotA : Addr → Hp → Prop := fun p h => ∃ x y : Int, h p = some (.lst [.int x, .int y]) ∧ 0 ≤ y ∧ y < 2147483648
/-- a space of b bits -/
def SpA (Z : Ad) (b : Nat) : Addr → Hp → Prop := fun s h => ∃ dx : Addr, h s = some (.ins Z.Space dx [("own_bits", .int (b : Int))]) ∧ 3 ≤ b ∧ b ≤ 32
/-- .. in the heap -/
def SpH (Z : Ad) (H : Hp) (s : Addr) (b : Nat) : Prop := SpA Z b s H
theorem SpH.lo {Z : Ad} {H : Hp} {s : Addr} {b : Nat} (h : SpH Z H s b) : 3 ≤ b := by obtain ⟨_, _, r, _⟩ := h; exact r
theorem SpH.hi {Z : Ad} {H : Hp} {s : Addr} {b : Nat} (h : SpH Z H s b) : b ≤ 32 := by obtain ⟨_, _, _, r⟩ := h; exact r
theorem pw_lo {b : Nat} (h : 3 ≤ b) : (8 : Int) ≤ 2 ^ b := pow2_le (n := 3) h
theorem pw_hi {b : Nat} (h : b ≤ 32) : (2 : Int) ^ b ≤ 4294967296 := pow2_le (m := 32) h
theorem SpH.pw {Z : Ad} {H : Hp} {s : Addr} {b : Nat} (h : SpH Z H s b) : (8 : Int) ≤ 2 ^ b ∧ (2 : Int) ^ b ≤ 4294967296 := ⟨pw_lo h.lo, pw_hi h.hi⟩
section
variable {Z : Ad} {L R : List Atom} {H : Hp} {s p : Addr} {b : Nat}
theorem sat_spH (s' : Sat Z L H) (f : Fnd L s (SpA Z b) R) : SpH Z H s b := by
  obtain ⟨h, k, dx, e, r⟩ := (s'.fnd (p := s)).head
  exact ⟨dx, k _ _ e, r⟩
theorem sat_addS (s' : Sat Z L H) (h : SpH Z H s b) : Sat Z (⟨s, SpA Z b⟩ :: L) H := by
  obtain ⟨dx, e, r⟩ := h
  exact (s'.add e rfl).imp1 fun h e => ⟨dx, e, r⟩
theorem pot_open (s : Sat Z (⟨p, PotA⟩ :: R) H) : ∃ x y : Int, 0 ≤ y ∧ y < 2147483648 ∧ Sat Z (⟨p, Pt (.lst ([x, y].map V.int))⟩ :: R) H := by
  obtain ⟨h, ⟨x, y, e, h0, h1⟩, k⟩ := s.split
  exact ⟨x, y, h0, h1, k _ e⟩
theorem pot_close {x y : Int} (s : Sat Z (⟨p, Pt (.lst ([x, y].map V.int))⟩ :: R) H) (h0 : 0 ≤ y) (h1 : y < 2147483648) : Sat Z (⟨p, PotA⟩ :: R) H := s.imp1 fun h e => ⟨x, y, e, h0, h1⟩
end
/-- a thing of which isinstance can be told -/
def Th (H : Hp) (v : V) : Prop := (∃ i, v = .int i) ∨ (∃ b, v = .bl b) ∨ v = .non ∨ (∃ s, v = .str s) ∨ ∃ a, v = .ref a ∧ ((∃ xs, H a = some (.lst xs)) ∨ (∃ xs, H a = some (.tup xs)) ∨ ∃ kv, H a = some (.dK kv))
theorem Th.int {H : Hp} {i : Int} : Th H (.int i) := .inl ⟨i, rfl⟩
theorem Th.bl {H : Hp} {b : Bool} : Th H (.bl b) := .inr (.inl ⟨b, rfl⟩)
theorem Th.non {H : Hp} : Th H .non := .inr (.inr (.inl rfl))
theorem Th.str {H : Hp} {s : Str} : Th H (.str s) := .inr (.inr (.inr (.inl ⟨s, rfl⟩)))
theorem Th.lst {H : Hp} {a : Addr} {xs : List V} (h : H a = some (.lst xs)) : Th H (.ref a) := .inr (.inr (.inr (.inr ⟨a, rfl, .inl ⟨xs, h⟩⟩)))
theorem Th.tup {H : Hp} {a : Addr} {xs : List V} (h : H a = some (.tup xs)) : Th H (.ref a) := .inr (.inr (.inr (.inr ⟨a, rfl, .inr (.inl ⟨xs, h⟩)⟩)))
theorem Th.dK {H : Hp} {a : Addr} {xs : List (Key × V)} (h : H a = some (.dK xs)) : Th H (.ref a) := .inr (.inr (.inr (.inr ⟨a, rfl, .inr (.inr ⟨xs, h⟩)⟩)))
/-- is it a whole number, within bounds -/
def wv : V → Bool | .int _ => true | _ => false
class BVal (b : Bool) (v : outParam Bool) : Prop where
  eq : b = v
instance bv_i {i : Int} : BVal (wv (.int i)) true := ⟨rfl⟩
instance bv_b {b : Bool} : BVal (wv (.bl b)) false := ⟨rfl⟩
instance bv_n : BVal (wv .non) false := ⟨rfl⟩
instance bv_s {s : Str} : BVal (wv (.str s)) false := ⟨rfl⟩
instance bv_r {a : Addr} : BVal (wv (.ref a)) false := ⟨rfl⟩
instance p_bvT {b : Bool} {A B : Prop} [V : BVal b true] : Stp (if b = true then A else B) A := ⟨fun q => by rw [V.eq]; exact q⟩
instance p_bvF {b : Bool} {A B : Prop} [V : BVal b false] : Stp (if b = true then A else B) B := ⟨fun q => by rw [V.eq]; exact q⟩
instance p_bvNT {b : Bool} {A B : Prop} [V : BVal b true] : Stp (if (!b) = true then A else B) B := ⟨fun q => by rw [V.eq]; exact q⟩
instance p_bvNF {b : Bool} {A B : Prop} [V : BVal b false] : Stp (if (!b) = true then A else B) A := ⟨fun q => by rw [V.eq]; exact q⟩
def inB (l h : Int) : V → Bool | .int i => decide (l ≤ i) && decide (i < h) | _ => false
theorem isi_int {K : PySem.W.Frag} {H : Hp} {Q : VK} {v : V} (h : Th H v) (q : Q (.bl (match v with | .int _ => true | .bl _ => true | _ => false)) H) : rIsi K [v, .ty "int"] H Q := by
  rcases h with ⟨i, rfl⟩ | ⟨b, rfl⟩ | h | ⟨s, rfl⟩ | ⟨a, rfl, ⟨xs, h⟩ | ⟨xs, h⟩ | ⟨kv, h⟩⟩
  · exact isi (b := true) (.base (.int _)) (by decide +kernel) q
  · exact isi (b := true) (.base (.bl _)) (by decide +kernel) q
  · subst h; exact isi (b := false) (.base .non) (by decide +kernel) q
  · exact isi (b := false) (.base (.str _)) (by decide +kernel) q
  · exact isi (b := false) (.base (.lst h)) (by decide +kernel) q
  · exact isi (b := false) (.base (.tup h)) (by decide +kernel) q
  · exact isi (b := false) (.base (.dK h)) (by decide +kernel) q
section
variable {σ : St} {H : Hp} {Q : VK} {ta tb tc tv : TE} {r r' : R2} {K : PySem.W.Frag} {Z : Ad} {f : Str} {D : Ends} {E : XK} {cls : Value}
instance p_chain : Stp (tChain r r' ta tb tc σ H Q) (ta σ H fun x H1 => tb σ H1 fun y H2 => r x y H2 fun z H3 => ∃ k, z = .bl k ∧ (if k = true then tc σ H3 fun w' H4 => r' y w' H4 Q else Q (.bl false) H3)) := ⟨fun q => q⟩
instance p_sfld : Stp (sFld K ta tv f D σ H) (tv σ H fun y H1 => ta σ H1 fun x H2 => ∃ a C dx fs, x = .ref a ∧ H2 a = some (.ins C dx fs) ∧ Cls K C ∧ NoAttr K C f ∧ fs.length < 1000 ∧ D.nx σ (upd H2 a (.ins C dx (putF f y fs)))) := ⟨fun q => q⟩
instance p_raise : Stp (tRaise E cls D σ H) (E cls none H) := ⟨fun q => q⟩
end
theorem s_insS {Z : Ad} {L R : List Atom} {H : Hp} {a : Addr} {b : Nat} {n : Str} {P : Prop} (s : Sat Z L H) (f : Fnd L a (SpA Z b) R) (hl : ((n == ("own_bits" : Str)) = false)) (q : P) : ∃ a' dx fs, V.ref a = .ref a' ∧ H a' = some (.ins Z.Space dx fs) ∧ fs.lookup n = none ∧ P := by
  obtain ⟨dx, e, _⟩ := sat_spH s f
  exact ⟨a, dx, _, rfl, e, by simp only [List.lookup, hl], q⟩
theorem h_insS {Z : Ad} {H : Hp} {a : Addr} {b : Nat} {n : Str} {P : Prop} (h : SpH Z H a b) (hl : ((n == ("own_bits" : Str)) = false)) (q : P) : ∃ a' dx fs, V.ref a = .ref a' ∧ H a' = some (.ins Z.Space dx fs) ∧ fs.lookup n = none ∧ P := by
  obtain ⟨dx, e, _⟩ := h
  exact ⟨a, dx, _, rfl, e, by simp only [List.lookup, hl], q⟩
/-- what is known of the class -/
structure CSp (K : PySem.W.Frag) (Z : Ad) : Prop where
  cl : Cls K Z.Space
  na : NoAttr K Z.Space "own_bits"
/-! ### the promises -/
section
variable {K : PySem.W.Frag} {Z : Ad} {L R : List Atom} {H : Hp} {Q : VK} {E : XK} {vs : List V} {X : Addr → Hp → Prop} {xs : List V} {ns : List Int}
def sp_is_whole (_ : PySem.W.Frag) (_ : Ad) : Sp := fun vs H Q _ => ∃ v : V, vs = [v] ∧ Th H v ∧ Q (.bl (wv v)) H
theorem use_whole {v : V} (e : vs = [v]) (h : Th H v) (q : Q (.bl (wv v)) H) : sp_is_whole K Z vs H Q E := ⟨v, e, h, q⟩
def sp_Space___init__ (_ : PySem.W.Frag) (Z : Ad) : Sp := fun vs H Q E => ∃ (x dx : Addr) (v : V), vs = [.ref x, v] ∧ Th H v ∧ H x = some (.ins Z.Space dx []) ∧ (inB 3 33 v = true → Q .non (upd H x (.ins Z.Space dx [("own_bits", v)]))) ∧ (inB 3 33 v = false → E (.ref Z.NoSpace) none H)
/-- Space(b) of a right number -/
theorem use_make {b : Int} {vv : Addr → List V} {R : Addr → Hp → Prop} (e : ∀ x, vv x = [.ref x, .int b]) (s : Sat Z L H) (h1 : 3 ≤ b) (h2 : b ≤ 32) (q : ∀ x H', Sat Z (⟨x, SpA Z b.toNat⟩ :: L) H' → R x H') :
    ∀ x dx, H x = none → H dx = none → dx ≠ x → sp_Space___init__ K Z (vv x) (upd (upd H dx (.own x)) x (.ins Z.Space dx [])) (fun v H3 => v = .non ∧ R x H3) E := by
  intro x dx hx hd ne
  refine ⟨x, dx, .int b, e x, .int, upd_same, fun _ => ⟨rfl, q x _ ?_⟩, fun z => ?_⟩
  · have s1 : Sat Z (⟨dx, Pt (.own x)⟩ :: L) _ := s.new hd (fun _ z => by cases z)
    have s2 : Sat Z (⟨x, Pt (.ins Z.Space dx [])⟩ :: ⟨dx, Pt (.own x)⟩ :: L) _ := s1.new (p := x) (by rw [upd_ne (fun z => ne z.symm)]; exact hx) (fun _ z => by cases z)
    have s3 := s2.put (o' := .ins Z.Space dx [("own_bits", .int b)]) ⟨rfl, fun z => z⟩ rfl
    refine (s3.ent (L' := ⟨x, Pt (.ins Z.Space dx [("own_bits", .int b)])⟩ :: L)).imp1 fun h e => ⟨dx, ?_, by omega, by omega⟩
    have z : ((b.toNat : Nat) : Int) = b := Int.toNat_of_nonneg (by omega)
    rw [z]
    exact e
  · exfalso
    unfold inB at z
    simp only [Bool.and_eq_false_iff, decide_eq_false_iff_not] at z
    omega
def sp_Space_bits (_ : PySem.W.Frag) (Z : Ad) : Sp := fun vs H Q _ => ∃ (a : Addr) (b : Nat), vs = [.ref a] ∧ SpH Z H a b ∧ Q (.int b) H
theorem use_bits {a : Addr} {b : Nat} (e : vs = [.ref a]) (h : SpH Z H a b) (q : Q (.int b) H) : sp_Space_bits K Z vs H Q E := ⟨a, b, e, h, q⟩
def sp_Space_size (_ : PySem.W.Frag) (Z : Ad) : Sp := fun vs H Q _ => ∃ (a : Addr) (b : Nat), vs = [.ref a] ∧ SpH Z H a b ∧ Q (.int (2 ^ b)) H
theorem use_size {a : Addr} {b : Nat} (e : vs = [.ref a]) (h : SpH Z H a b) (q : Q (.int (2 ^ b)) H) : sp_Space_size K Z vs H Q E := ⟨a, b, e, h, q⟩
def sp_Space_has (_ : PySem.W.Frag) (Z : Ad) : Sp := fun vs H Q _ => ∃ (a : Addr) (b : Nat) (v : V), vs = [.ref a, v] ∧ SpH Z H a b ∧ Th H v ∧ Q (.bl (inB 0 (2 ^ b) v)) H
theorem use_has {a : Addr} {b : Nat} {v : V} (e : vs = [.ref a, v]) (h : SpH Z H a b) (h2 : Th H v) (q : Q (.bl (inB 0 (2 ^ b) v)) H) : sp_Space_has K Z vs H Q E := ⟨a, b, v, e, h, h2, q⟩
def sp_Space_distance (_ : PySem.W.Frag) (Z : Ad) : Sp := fun vs H Q _ => ∃ (a : Addr) (b : Nat) (x y : Int), vs = [.ref a, .int x, .int y] ∧ SpH Z H a b ∧ Q (.int ((y - x) % 2 ^ b)) H
theorem use_distance {a : Addr} {b : Nat} {x y : Int} (e : vs = [.ref a, .int x, .int y]) (h : SpH Z H a b) (q : Q (.int ((y - x) % 2 ^ b)) H) : sp_Space_distance K Z vs H Q E := ⟨a, b, x, y, e, h, q⟩
def sp_Space_is_between (_ : PySem.W.Frag) (Z : Ad) : Sp := fun vs H Q _ => ∃ (a : Addr) (b : Nat) (p x y : Int), vs = [.ref a, .int p, .int x, .int y] ∧ SpH Z H a b ∧ Q (.bl (betw (2 ^ b) p x y)) H
theorem use_between {a : Addr} {b : Nat} {p x y : Int} (e : vs = [.ref a, .int p, .int x, .int y]) (h : SpH Z H a b) (q : Q (.bl (betw (2 ^ b) p x y)) H) : sp_Space_is_between K Z vs H Q E := ⟨a, b, p, x, y, e, h, q⟩
/-- the nearest: first of those with the least distance -/
def nearP (m pt : Int) (ns : List Int) (n : Int) : Prop := ∃ i, NL.FirstBest (· < ·) (fun x => (x - pt) % m) ns i n
def precP (m pt : Int) (ns : List Int) (n : Int) : Prop := ∃ i, NL.FirstBest (· < ·) (fun x => (pt - 1 - x) % m) ns i n
def sp_Space_nearest (_ : PySem.W.Frag) (Z : Ad) : Sp := fun vs H Q _ => ∃ (s l : Addr) (b : Nat) (pt : Int) (ns : List Int) (R : List Atom), vs = [.ref s, .ref l, .int pt] ∧ SpH Z H s b ∧ Sat Z (⟨l, LI ns⟩ :: R) H ∧ 0 < ns.length ∧ ∀ n H', nearP (2 ^ b) pt ns n → Sat Z (⟨l, LI ns⟩ :: R) H' → Q (.int n) H'
theorem use_nearest {s l : Addr} {b : Nat} {pt : Int} (e : vs = [.ref s, .ref l, .int pt]) (h : SpH Z H s b) (s' : Sat Z L H) (f : Fnd L l (Pt (.lst xs)) R) (I : IsI xs ns) (hn : 0 < ns.length) (q : ∀ n H', nearP (2 ^ b) pt ns n → Sat Z (⟨l, LI ns⟩ :: R) H' → Q (.int n) H') : sp_Space_nearest K Z vs H Q E := by
  obtain rfl := I.eq
  exact ⟨s, l, b, pt, ns, R, e, h, s'.fnd, hn, q⟩
def sp_Space_preceding (_ : PySem.W.Frag) (Z : Ad) : Sp := fun vs H Q _ => ∃ (s l : Addr) (b : Nat) (pt : Int) (ns : List Int) (R : List Atom), vs = [.ref s, .ref l, .int pt] ∧ SpH Z H s b ∧ Sat Z (⟨l, LI ns⟩ :: R) H ∧ 0 < ns.length ∧ ∀ n H', precP (2 ^ b) pt ns n → Sat Z (⟨l, LI ns⟩ :: R) H' → Q (.int n) H'
theorem use_preceding {s l : Addr} {b : Nat} {pt : Int} (e : vs = [.ref s, .ref l, .int pt]) (h : SpH Z H s b) (s' : Sat Z L H) (f : Fnd L l (Pt (.lst xs)) R) (I : IsI xs ns) (hn : 0 < ns.length) (q : ∀ n H', precP (2 ^ b) pt ns n → Sat Z (⟨l, LI ns⟩ :: R) H' → Q (.int n) H') : sp_Space_preceding K Z vs H Q E := by
  obtain rfl := I.eq
  exact ⟨s, l, b, pt, ns, R, e, h, s'.fnd, hn, q⟩
end
local macro_rules | `(tactic| walk_at "spa") => `(tactic| first | assumption | exact sat_spH (by assumption) inferInstance)
local macro_rules | `(tactic| walk_at "th") => `(tactic| first | exact Th.int | exact Th.bl | exact Th.non | exact Th.str | assumption | exact Th.lst (SatI.at (by assumption)) | exact Th.tup (SatI.at (by assumption)) | exact Th.dK (SatI.at (by assumption)))
local macro_rules | `(tactic| walk_at "call2") => `(tactic| first
  | ((with_reducible refine' use_whole ?e ?h0 ?_); (case e => rfl); (case h0 => walk_at "th"))
  | ((with_reducible refine' use_make ?e ?h0 ?h1 ?h2 ?_); (case e => exact fun _ => rfl); (case h0 => assumption); (case h1 => walk_at "nl"); (case h2 => walk_at "nl"); intro _ _ _)
  | ((with_reducible refine' use_bits ?e ?h0 ?_); (case e => rfl); (case h0 => walk_at "spa"))
  | ((with_reducible refine' use_size ?e ?h0 ?_); (case e => rfl); (case h0 => walk_at "spa"))
  | ((with_reducible refine' use_has ?e ?h0 ?h1 ?_); (case e => rfl); (case h0 => walk_at "spa"); (case h1 => walk_at "th"))
  | ((with_reducible refine' use_distance ?e ?h0 ?_); (case e => rfl); (case h0 => walk_at "spa"))
  | ((with_reducible refine' use_between ?e ?h0 ?_); (case e => rfl); (case h0 => walk_at "spa"))
  | ((with_reducible refine' use_nearest ?e ?h0 ?h1 ?h2 ?h3 ?h4 ?_); (case e => rfl); (case h0 => walk_at "spa"); (case h1 => assumption); (case h2 => infer_instance); (case h3 => infer_instance); (case h4 => walk_at "nl"); intro _ _ _ _)
  | ((with_reducible refine' use_preceding ?e ?h0 ?h1 ?h2 ?h3 ?h4 ?_); (case e => rfl); (case h0 => walk_at "spa"); (case h1 => assumption); (case h2 => infer_instance); (case h3 => infer_instance); (case h4 => walk_at "nl"); intro _ _ _ _)
  | ((with_reducible refine' s_insS ?h0 ?h1 ?h2 ?_); (case h0 => assumption); (case h1 => infer_instance); (case h2 => rfl))
  | ((with_reducible refine' h_insS ?h0 ?h2 ?_); (case h0 => assumption); (case h2 => rfl)))
/-! ### the readings are met -/
def t_is_whole (K : PySem.W.Frag) (Z : Ad) : TS :=
  (tRet (tAndV (tCB (rIsi K) (tCons (tVar 0) (tCons (tC (.ty "int")) tNil))) (tNotV (tCB (rIsi K) (tCons (tVar 0) (tCons (tC (.ty "bool")) tNil))))))
theorem rd_is_whole (K : PySem.W.Frag) (Z : Ad) : ∀ vs H Q E, sp_is_whole K Z vs H Q E → t_is_whole K Z { nx := fun _ H' => Q .non H', rt := Q } (start (["thing"]) vs) H := by
  rintro _ H Q E ⟨v, rfl, h, q⟩
  show t_is_whole K Z _ [some (v)] H
  unfold t_is_whole
  walk_at "go"
  refine isi_int h ?_
  rcases h with ⟨i, rfl⟩ | ⟨b, rfl⟩ | h | ⟨s, rfl⟩ | ⟨a, rfl, hh⟩
  · walk_at "go"
    exact q
  · walk_at "go"
    exact q
  · subst h
    walk_at "go"
    exact q
  · walk_at "go"
    exact q
  · walk_at "go"
    exact q
def t_Space___init__ (K : PySem.W.Frag) (Z : Ad) (E : XK) : TS :=
  (tSeq (tIfS (tOr (tNot (tB (tCl (sp_is_whole K Z) [.pos 0] [] [] 1 0 (fun _ => E0) (tCons (tVar 1) tNil) tNil))) (tNot (tTest (tChain rLe rLe (tC (.int 3)) (tVar 1) (tC (.int 32)))))) (tRaise E (.ref Z.NoSpace)) tNext)
  (sFld K (tVar 0) (tVar 1) "own_bits"))
theorem rd_Space___init__ (K : PySem.W.Frag) (Z : Ad) (C : CSp K Z) : ∀ vs H Q E, sp_Space___init__ K Z vs H Q E → t_Space___init__ K Z E { nx := fun _ H' => Q .non H', rt := Q } (start (["self", "bits"]) vs) H := by
  rintro _ H Q E ⟨x, dx, v, rfl, hv, hx, h1, h2⟩
  show t_Space___init__ K Z E _ [some (.ref x), some (v)] H
  unfold t_Space___init__
  walk_at "on"
  rcases hv with ⟨i, rfl⟩ | ⟨b, rfl⟩ | h | ⟨s, rfl⟩ | ⟨a, rfl, hh⟩
  · walk_at "go"
    have z : ∀ c1 c2 : Bool, c1 = decide (3 ≤ i) → c2 = decide (i ≤ 32) → inB 3 33 (.int i) = (c1 && c2) := by
      rintro _ _ rfl rfl
      show (decide (3 ≤ i) && decide (i < 33)) = _
      congr 1
      apply Bool.eq_iff_iff.mpr
      simp only [decide_eq_true_eq]
      omega
    refine g_ite (fun c1 => ?_) fun c1 => ?_
    · walk_at "go"
      refine g_iteN (fun c2 => ?_) fun c2 => ?_
      · walk_at "go"
        exact h2 (by rw [z _ _ (decide_eq_true c1).symm (decide_eq_false c2).symm]; rfl)
      · walk_at "go"
        exact ⟨x, Z.Space, dx, [], rfl, hx, C.cl, C.na, by show 0 < 1000; decide, h1 (by rw [z _ _ (decide_eq_true c1).symm (decide_eq_true c2).symm]; rfl)⟩
    · walk_at "go"
      exact h2 (by rw [z _ _ (decide_eq_false c1).symm rfl]; rfl)
  · walk_at "go"
    exact h2 rfl
  · subst h
    walk_at "go"
    exact h2 rfl
  · walk_at "go"
    exact h2 rfl
  · walk_at "go"
    exact h2 rfl
def t_Space_bits (K : PySem.W.Frag) (Z : Ad) : TS :=
  (tRet (tFld K (tVar 0) "own_bits"))
theorem rd_Space_bits (K : PySem.W.Frag) (Z : Ad) (C : CSp K Z) : ∀ vs H Q E, sp_Space_bits K Z vs H Q E → t_Space_bits K Z { nx := fun _ H' => Q .non H', rt := Q } (start (["self"]) vs) H := by
  rintro _ H Q E ⟨a, b, rfl, ⟨dx, e, h1, h2⟩, q⟩
  show t_Space_bits K Z _ [some (.ref a)] H
  unfold t_Space_bits
  walk_at "go"
  exact g_fld e C.cl C.na rfl q
def t_Space_size (K : PySem.W.Frag) (Z : Ad) : TS :=
  (tRet (tOp rShl0 (tC (.int 1)) (tFld K (tVar 0) "own_bits")))
theorem rd_Space_size (K : PySem.W.Frag) (Z : Ad) (C : CSp K Z) : ∀ vs H Q E, sp_Space_size K Z vs H Q E → t_Space_size K Z { nx := fun _ H' => Q .non H', rt := Q } (start (["self"]) vs) H := by
  rintro _ H Q E ⟨a, b, rfl, ⟨dx, e, h1, h2⟩, q⟩
  show t_Space_size K Z _ [some (.ref a)] H
  unfold t_Space_size
  walk_at "go"
  refine g_fld e C.cl C.na rfl ?_
  refine g_I (c_pow (by omega) (by omega) (by decide)) ?_
  rw [Int.one_mul, Int.toNat_natCast]
  exact q
def t_Space_has (K : PySem.W.Frag) (Z : Ad) : TS :=
  (tRet (tAndV (tCl (sp_is_whole K Z) [.pos 0] [] [] 1 0 (fun _ => E0) (tCons (tVar 1) tNil) tNil) (tChain rLe rLt (tC (.int 0)) (tVar 1) (tMe Z.Space "size" (sp_Space_size K Z) [.pos 0] [] [] 1 0 (fun _ => E0) (tVar 0) tNil tNil))))
theorem rd_Space_has (K : PySem.W.Frag) (Z : Ad) : ∀ vs H Q E, sp_Space_has K Z vs H Q E → t_Space_has K Z { nx := fun _ H' => Q .non H', rt := Q } (start (["self", "thing"]) vs) H := by
  rintro _ H Q E ⟨a, b, v, rfl, hs, hv, q⟩
  show t_Space_has K Z _ [some (.ref a), some (v)] H
  unfold t_Space_has
  walk_at "go"
  rcases hv with ⟨i, rfl⟩ | ⟨c, rfl⟩ | h | ⟨s, rfl⟩ | ⟨p, rfl, hh⟩
  · have q : Q (.bl (decide (0 ≤ i) && decide (i < 2 ^ b))) H := q
    walk_at "go"
    refine g_ite (fun c1 => ?_) fun c1 => ?_
    · rw [decide_eq_true c1] at q
      walk_at "go"
      exact q
    · rw [decide_eq_false c1] at q
      exact q
  · walk_at "go"
    exact q
  · subst h
    walk_at "go"
    exact q
  · walk_at "go"
    exact q
  · walk_at "go"
    exact q
def t_Space_distance (K : PySem.W.Frag) (Z : Ad) : TS :=
  (tRet (tOp rMod0 (tOp rSub0 (tVar 2) (tVar 1)) (tMe Z.Space "size" (sp_Space_size K Z) [.pos 0] [] [] 1 0 (fun _ => E0) (tVar 0) tNil tNil)))
theorem rd_Space_distance (K : PySem.W.Frag) (Z : Ad) : ∀ vs H Q E, sp_Space_distance K Z vs H Q E → t_Space_distance K Z { nx := fun _ H' => Q .non H', rt := Q } (start (["self", "one", "other"]) vs) H := by
  rintro _ H Q E ⟨a, b, x, y, rfl, hs, q⟩
  have hp := hs.pw
  show t_Space_distance K Z _ [some (.ref a), some (.int x), some (.int y)] H
  unfold t_Space_distance
  walk_at "go"
  exact q
def t_Space_is_between (K : PySem.W.Frag) (Z : Ad) : TS :=
  (tSeq (tAsg (tMe Z.Space "distance" (sp_Space_distance K Z) [.pos 0, .pos 1, .pos 2] [] [] 3 0 (fun _ => E0) (tVar 0) (tCons (tVar 2) (tCons (tVar 1) tNil)) tNil) (gName 4))
  (tRet (tAndV (tOp rGt (tVar 4) (tC (.int 0))) (tOrV (tOp rEq (tVar 2) (tVar 3)) (tOp rLt (tVar 4) (tMe Z.Space "distance" (sp_Space_distance K Z) [.pos 0, .pos 1, .pos 2] [] [] 3 0 (fun _ => E0) (tVar 0) (tCons (tVar 2) (tCons (tVar 3) tNil)) tNil))))))
theorem rd_Space_is_between (K : PySem.W.Frag) (Z : Ad) : ∀ vs H Q E, sp_Space_is_between K Z vs H Q E → t_Space_is_between K Z { nx := fun _ H' => Q .non H', rt := Q } (start (["self", "point", "one", "other", "far"]) vs) H := by
  rintro _ H Q E ⟨a, b, p, x, y, rfl, hs, q⟩
  show t_Space_is_between K Z _ [some (.ref a), some (.int p), some (.int x), some (.int y), none] H
  unfold t_Space_is_between
  walk_at "go"
  unfold betw at q
  refine g_ite (fun h => ?_) fun h => ?_
  · walk_at "go"
    rw [decide_eq_true h, Bool.true_and] at q
    refine g_ite (fun h2 => ?_) fun h2 => ?_
    · rw [decide_eq_true h2] at q; exact q
    · rw [decide_eq_false h2, Bool.false_or] at q
      walk_at "go"
      exact q
  · rw [decide_eq_false h] at q; exact q
def t_Space_nearest (K : PySem.W.Frag) (Z : Ad) : TS :=
  (tRet (NL.tKeyed Z.tabs "Space.nearest.<locals>.<lambda>" 3 (tMe Z.Space "distance" (sp_Space_distance K Z) [.pos 0, .pos 1, .pos 2] [] [] 3 0 (fun _ => E0) (tVar 0) (tCons (tVar 2) (tCons (tVar 3) tNil)) tNil) (tCons (tVar 1) tNil) NL.rMinK))
theorem rd_Space_nearest (K : PySem.W.Frag) (Z : Ad) : ∀ vs H Q E, sp_Space_nearest K Z vs H Q E → t_Space_nearest K Z { nx := fun _ H' => Q .non H', rt := Q } (start (["self", "points", "point", "one"]) vs) H := by
  rintro _ H Q E ⟨s, l, b, pt, ns, R, rfl, hs, s', hn, q⟩
  show t_Space_nearest K Z _ [some (.ref s), some (.ref l), some (.int pt), none] H
  unfold t_Space_nearest
  walk_at "go"
  refine s_minK (sat_addS s' hs) inferInstance inferInstance hn (fun x => (x - pt) % 2 ^ b) (fun c od H2 n hn' h2 => ?_) fun i n H' fb h' => q n H' ⟨i, fb⟩ h'.ent
  dsimp only [List.set]
  walk_at "go"
  exact h2
def t_Space_preceding (K : PySem.W.Frag) (Z : Ad) : TS :=
  (tRet (NL.tKeyed Z.tabs "Space.preceding.<locals>.<lambda>" 3 (tMe Z.Space "distance" (sp_Space_distance K Z) [.pos 0, .pos 1, .pos 2] [] [] 3 0 (fun _ => E0) (tVar 0) (tCons (tVar 3) (tCons (tOp rSub0 (tVar 2) (tC (.int 1))) tNil)) tNil) (tCons (tVar 1) tNil) NL.rMinK))
theorem rd_Space_preceding (K : PySem.W.Frag) (Z : Ad) : ∀ vs H Q E, sp_Space_preceding K Z vs H Q E → t_Space_preceding K Z { nx := fun _ H' => Q .non H', rt := Q } (start (["self", "points", "point", "one"]) vs) H := by
  rintro _ H Q E ⟨s, l, b, pt, ns, R, rfl, hs, s', hn, q⟩
  show t_Space_preceding K Z _ [some (.ref s), some (.ref l), some (.int pt), none] H
  unfold t_Space_preceding
  walk_at "go"
  refine s_minK (sat_addS s' hs) inferInstance inferInstance hn (fun x => (pt - 1 - x) % 2 ^ b) (fun c od H2 n hn' h2 => ?_) fun i n H' fb h' => q n H' ⟨i, fb⟩ h'.ent
  dsimp only [List.set]
  walk_at "go"
  exact h2
end NN
/-! own: clusters of things; dicts, divmod, sets over what is known of the heap; what is never reached -/
namespace NN
open PySem L2
/-! ### clusters -/
theorem Star.perm {S : Addr} {L M : List Atom} (p : L.Perm M) : ∀ {H : Hp}, Star S L H → Star S M H := by
  induction p with
  | nil => exact fun s => s
  | cons a _ ih => exact fun s => s.imp (fun _ x => x) fun _ r => ih r
  | swap a b l => exact fun s => s.swap
  | trans _ _ i1 i2 => exact fun s => i2 (i1 s)
theorem star_app {S : Addr} : ∀ {M L : List Atom} {h1 h2 H : Hp}, Sub h1 H → Sub h2 H → Cmp S h1 h2 → Star S M h1 → Star S L h2 → Star S (M ++ L) H
  | [], L, h1, h2, H, s1, s2, c, _, l => l.mono s2
  | a :: M, L, h1, h2, H, s1, s2, c, m, l => by
    obtain ⟨h3, h4, s3, s4, c2, x, r⟩ := m
    have c42 : Cmp S h4 h2 := c.sub s4 .refl
    refine ⟨h3, jn h4 h2, s3.trans s1, jn_sub (s4.trans s1) s2, ?_, x, star_app (M := M) jn_l (jn_r c42) c42 r l⟩
    exact (Cmp.jn c2.symm (c.sub s3 .refl).symm).symm
theorem star_split {S : Addr} : ∀ {M L : List Atom} {H : Hp}, Star S (M ++ L) H → ∃ h1 h2, Sub h1 H ∧ Sub h2 H ∧ Cmp S h1 h2 ∧ Star S M h1 ∧ Star S L h2
  | [], L, H, s => ⟨(fun _ => none : Hp), H, (fun _ _ e => nomatch e), Sub.refl, (fun _ _ _ e _ => nomatch e), trivial, s⟩
  | a :: M, L, H, s => by
    obtain ⟨h1, h2, s1, s2, c, x, r⟩ := s
    obtain ⟨h3, h4, s3, s4, c2, m, l⟩ := star_split (M := M) r
    have c13 : Cmp S h1 h3 := c.sub .refl s3
    refine ⟨jn h1 h3, h4, jn_sub s1 (s3.trans s2), s4.trans s2, Cmp.jn (c.sub .refl s4) c2, ⟨h1, h3, jn_l, jn_r c13, c13, x, m⟩, l⟩
instance (priority := 90) entApp {M L N : List Atom} [E : Ent L N] : Ent (M ++ L) N := ⟨fun s => by
  obtain ⟨h1, h2, s1, s2, c, m, l⟩ := star_split s
  exact E.fwd (l.mono s2)⟩
instance (priority := 90) fndApp {M L R : List Atom} {p : Addr} {X : Addr → Hp → Prop} [F : Fnd L p X R] : Fnd (M ++ L) p X (M ++ R) := ⟨fun s => by
  obtain ⟨h1, h2, s1, s2, c, m, l⟩ := star_split s
  have := star_app (L := ⟨p, X⟩ :: R) s1 s2 c m (F.fwd l)
  exact this.perm List.perm_middle⟩
section
variable {T : List (Addr × Str)} {S : Addr} {L L' M R : List Atom} {H H' : Hp} {p : Addr} {X Y : Addr → Hp → Prop}
theorem SatI.perm (s : SatI T S L H) (p : L.Perm L') : SatI T S L' H := ⟨s.tabs, s.star.perm p⟩
theorem SatI.flat (s : SatI T S (⟨p, X⟩ :: L) H) (k : ∀ h, X p h → Star S M h) : SatI T S (M ++ L) H := by
  obtain ⟨t, h1, h2, s1, s2, c, x, r⟩ := s
  exact ⟨t, star_app s1 s2 c (k _ x) r⟩
theorem SatI.close (s : SatI T S (M ++ L) H) (k : ∀ h, Star S M h → X p h) : SatI T S (⟨p, X⟩ :: L) H := by
  obtain ⟨h1, h2, s1, s2, c, m, l⟩ := star_split s.star
  exact ⟨s.tabs, h1, h2, s1, s2, c, k _ m, l⟩
/-- a thing that is a cluster: told in the open -/
theorem SatI.opn {α : Type} {P : α → Addr → Hp → Prop} (s : SatI T S (⟨p, X⟩ :: L) H) (k : ∀ h, X p h → ∃ a : α, P a p h) : ∃ a : α, SatI T S (⟨p, P a⟩ :: L) H := by
  obtain ⟨t, h1, h2, s1, s2, c, x, r⟩ := s
  obtain ⟨a, x⟩ := k _ x
  exact ⟨a, t, h1, h2, s1, s2, c, x, r⟩
theorem SatI.pure {P : Prop} (s : SatI T S (⟨p, X⟩ :: L) H) (k : ∀ h, X p h → P) : P := by
  obtain ⟨t, h1, h2, s1, s2, c, x, r⟩ := s
  exact k _ x
end
/-! ### never reached -/
def tNever : TS := fun _ _ _ => False
theorem ps_never {X : Cx} {st : Stmt} : PS X st tNever := ⟨fun _ _ _ _ _ _ h => h.elim⟩
/-! ### divmod of any size -/
def rDivMod : List V → Hp → VK → Prop := fun xs H Q => ∃ i j : Int, xs = [.int i, .int j] ∧ (0 < j ∧ j < 2 ^ 200) ∧ ∀ p, H p = none → Q (.ref p) (upd H p (.tup [.int (i / j), .int (i % j)]))
theorem log2_small {j : Int} (h0 : 0 < j) (h : j < 2 ^ 200) : j.natAbs.log2 < 9000 := by
  have h1 : j.natAbs < 2 ^ 200 := by
    have : (j.natAbs : Int) < 2 ^ 200 := by omega
    exact_mod_cast this
  have h2 : j.natAbs ≠ 0 := by omega
  have := (Nat.log2_lt h2).mpr h1
  omega
theorem call_dm {X : Cx} : CallR X (.builtin "divmod") rDivMod := fun pins s σ H xs us Q I r h => by
  obtain ⟨i, j, e, ⟨h1, h2⟩, q⟩ := h
  exact call_divmodW pins s σ H xs us Q I r ⟨i, j, e, ⟨h1, PyProof.noPylong_of_log2 (log2_small h1 h2)⟩, q⟩
/-! ### sorted(d) -/
def rSortedDI : List V → Hp → VK → Prop := fun xs H Q => ∃ (a : Addr) (kvs : List (Key × V)) (ks : List Int), xs = [.ref a] ∧ Rd H a (.dK kvs) ∧ kvs.map (·.1) = ks.map Sum.inl ∧ ks.length < 64 ∧
    ∀ (ys : List Int) (p : Addr), ys.Perm ks → ys.Pairwise (· ≤ ·) → H p = none → Q (.ref p) (upd H p (.lst (ys.map V.int)))
theorem cr_sortedDI {X : Cx} (hc : X.calm = true) : CallR X (.builtin "sorted") rSortedDI := call_sortedDI hc
theorem _root_.L2.Room.u1 {k : Nat} {A : Around} (r : L2.Room k A) : A.units + 1 < cLine := by have := r.un; omega
section
variable {K : PySem.W.Frag} {Z : Ad} {L R R' : List Atom} {H : Hp} {Q : VK} {p p' : Addr} {X Y : Addr → Hp → Prop} {xs ys : List V} {ns ms : List Int} {v x y : V} {σ : St} {D : Ends} {ta tb td ty tv : TE} {kvs : List (Key × V)} {C dx : Addr} {fs : List (Str × V)} {f : Str}
instance p_never : Stp (tNever D σ H) False := ⟨fun q => q⟩
theorem s_divmod {i j : Int} (s : Sat Z L H) (h0 : 0 < j) (h1 : j < 2 ^ 200) (q : ∀ p H', Sat Z (⟨p, Pt (.tup [.int (i / j), .int (i % j)])⟩ :: L) H' → Q (.ref p) H') : rDivMod [.int i, .int j] H Q :=
  ⟨i, j, rfl, ⟨h0, h1⟩, s_new s (fun _ z => by cases z) q⟩
instance p_lenSetI {ta : TE} : Stp (RZ.tLenSetI K ta σ H Q) (ta σ H fun x H1 => ∃ (l : Addr) (ns : List Int), x = .ref l ∧ SqL K H1 l (ns.map V.int) ∧ ns.Nodup ∧ ns.length ≤ 4000 ∧ Q (.int (ns.length : Nat)) H1) := ⟨fun q => q⟩
theorem s_lenSet (s : Sat Z L H) (f : Fnd L p X R) (d : RdL K X xs) (I : IsI xs ns) (nd : ns.Nodup) (hl : ns.length ≤ 4000) (q : Q (.int (ns.length : Nat)) H) : ∃ (l : Addr) (ns : List Int), V.ref p = .ref l ∧ SqL K H l (ns.map V.int) ∧ ns.Nodup ∧ ns.length ≤ 4000 ∧ Q (.int (ns.length : Nat)) H := by
  obtain rfl := I.eq
  exact ⟨p, ns, rfl, s.sq, nd, hl, q⟩
theorem s_gtup {n : Nat} {t : TGs} {QS : St → Hp → Prop} (s : Sat Z L H) (f : Fnd L p (Pt (.tup xs)) R) (hl : xs.length = n) (q : t xs σ H QS) : gTup K n t (.ref p) σ H QS := ⟨p, xs, rfl, s.st, hl, q⟩
/-! fields -/
theorem s_fld {K : PySem.W.Frag} (s : Sat Z L H) (F : Fnd L p (Pt (.ins C dx fs)) R) (cl : Cls K C) (na : NoAttr K C f) (l : fs.lookup f = some v) (q : Q v H) :
    ∃ a C dx fs v', V.ref p = .ref a ∧ H a = some (.ins C dx fs) ∧ Cls K C ∧ NoAttr K C f ∧ fs.lookup f = some v' ∧ Q v' H := ⟨p, C, dx, fs, v, rfl, s.at, cl, na, l, q⟩
theorem s_ins {m : Str} {P : Prop} (s : Sat Z L H) (F : Fnd L p (Pt (.ins C dx fs)) R) (l : fs.lookup m = none) (q : P) : ∃ a dx fs, V.ref p = .ref a ∧ H a = some (.ins C dx fs) ∧ fs.lookup m = none ∧ P := ⟨p, dx, fs, rfl, s.at, l, q⟩
theorem s_sfld {K : PySem.W.Frag} {N : Hp → Prop} {fs' : List (Str × V)} (s : Sat Z L H) (F : Fnd L p (Pt (.ins C dx fs)) R) (cl : Cls K C) (na : NoAttr K C f) (n : C ≠ Z.Space) (hl : fs.length < 1000) (e : putF f y fs = fs') (q : ∀ H', Sat Z (⟨p, Pt (.ins C dx fs')⟩ :: R) H' → N H') :
    ∃ a C dx fs, V.ref p = .ref a ∧ H a = some (.ins C dx fs) ∧ Cls K C ∧ NoAttr K C f ∧ fs.length < 1000 ∧ N (upd H a (.ins C dx (putF f y fs))) := by
  subst e
  exact ⟨p, C, dx, fs, rfl, s.at, cl, na, hl, q _ (s.fnd.put (mutO_ins n) rfl)⟩
/-! dicts -/
instance p_dget : Stp (tDGet td ty σ H Q) (td σ H fun x H1 => ty σ H1 fun y H2 => ∃ a v, x = .ref a ∧ DGet H2 a y (some v) ∧ Q v H2) := ⟨fun q => q⟩
instance p_din : Stp (tDIn ty td σ H Q) (ty σ H fun y H1 => td σ H1 fun x H2 => ∃ a o, x = .ref a ∧ DGet H2 a y o ∧ Q (.bl o.isSome) H2) := ⟨fun q => q⟩
instance p_dnotin : Stp (tDNotIn ty td σ H Q) (ty σ H fun y H1 => td σ H1 fun x H2 => ∃ a o, x = .ref a ∧ DGet H2 a y o ∧ Q (.bl (!o.isSome)) H2) := ⟨fun q => q⟩
instance p_dput : Stp (sDPut td ty tv D σ H) (tv σ H fun v H1 => td σ H1 fun x H2 => ty σ H2 fun y H3 => ∃ a H4, x = .ref a ∧ DPut H3 a y v H4 ∧ D.nx σ H4) := ⟨fun q => q⟩
instance p_dnewK : Stp (tDNewK σ H Q) (∀ p, H p = none → Q (.ref p) (upd H p (.dK []))) := ⟨fun q => q⟩
instance p_listItems {te : TE} : Stp (LiI.tListItems te σ H Q) (te σ H fun x H1 => LiI.rItemsL x H1 Q) := ⟨fun q => q⟩
/-- a whole number as a key -/
class IsK (y : V) (k : outParam Key) : Prop where
  eq : y = kV k
instance isk_i {n : Int} : IsK (.int n) (.inl n) := ⟨rfl⟩
instance isk_s {z : Str} : IsK (.str z) (.inr z) := ⟨rfl⟩
theorem s_dget {k : Key} (s : Sat Z L H) (f : Fnd L p (Pt (.dK kvs)) R) (I : IsK y k) (e : valV kvs k = some v) (q : Q v H) : ∃ a v', V.ref p = .ref a ∧ DGet H a y (some v') ∧ Q v' H := by
  obtain rfl := I.eq
  exact ⟨p, v, rfl, e ▸ DGet.k s.at, q⟩
theorem s_din {k : Key} (s : Sat Z L H) (f : Fnd L p (Pt (.dK kvs)) R) (I : IsK y k) (q : Q (.bl (valV kvs k).isSome) H) : ∃ a o, V.ref p = .ref a ∧ DGet H a y o ∧ Q (.bl o.isSome) H := by
  obtain rfl := I.eq
  exact ⟨p, _, rfl, DGet.k s.at, q⟩
theorem s_dnotin {k : Key} (s : Sat Z L H) (f : Fnd L p (Pt (.dK kvs)) R) (I : IsK y k) (q : Q (.bl (!(valV kvs k).isSome)) H) : ∃ a o, V.ref p = .ref a ∧ DGet H a y o ∧ Q (.bl (!o.isSome)) H := by
  obtain rfl := I.eq
  exact ⟨p, _, rfl, DGet.k s.at, q⟩
theorem s_dput {N : Hp → Prop} {k : Key} (s : Sat Z L H) (f : Fnd L p (Pt (.dK kvs)) R) (I : IsK y k) (hl : kvs.length < sizeLine) (q : ∀ H', Sat Z (⟨p, Pt (.dK (putK kvs k v))⟩ :: R) H' → N H') : ∃ a H4, V.ref p = .ref a ∧ DPut H a y v H4 ∧ N H4 := by
  obtain rfl := I.eq
  exact ⟨p, _, rfl, DPut.k s.at hl, q _ (s.fnd.put mutO_dK rfl)⟩
theorem s_dnew (s : Sat Z L H) (q : ∀ p H', Sat Z (⟨p, Pt (.dK [])⟩ :: L) H' → Q (.ref p) H') : ∀ p, H p = none → Q (.ref p) (upd H p (.dK [])) := s_new s (fun _ z => by cases z) q
theorem s_list0 (hs : SqL K H p xs) (s : Sat Z L H) (q : ∀ l H', Sat Z (⟨l, Pt (.lst xs)⟩ :: L) H' → Q (.ref l) H') : rListS K [.ref p] H Q := ⟨p, xs, rfl, .inl hs, s_new s (fun _ z => by cases z) q⟩
theorem sat_newD {H' : Hp} (e : upd H p (.dK []) = H') (hp : H p = none) (s : Sat Z L H) : Sat Z (⟨p, Pt (.dK [])⟩ :: L) H' := e ▸ s.new hp (fun _ z => by cases z)
theorem s_sortedD {ks : List Int} (s : Sat Z L H) (f : Fnd L p (Pt (.dK kvs)) R) (e : kvs.map (·.1) = ks.map Sum.inl) (hl : ks.length < 64) (q : ∀ l H', Sat Z (⟨l, Pt (.lst ((srt ks).map V.int))⟩ :: L) H' → Q (.ref l) H') : rSortedDI [.ref p] H Q :=
  ⟨p, kvs, ks, rfl, .inl s.at, e, hl, fun ys l hp hs hl => by rw [srt_eq hp hs]; exact q l _ (s.new hl (fun _ z => by cases z))⟩
/-- list(d.items()) of an empty dict -/
theorem s_items0 (s : Sat Z L H) (e0 : H p = some (.dK [])) (q : ∀ l H', Sat Z (⟨l, Pt (.lst [])⟩ :: L) H' → Q (.ref l) H') : LiI.rItemsL (.ref p) H Q := by
  refine ⟨p, [], rfl, e0, fun H' l ts kp hl _ _ e pr => ?_⟩
  cases pr
  have s1 : Sat Z (⟨l, Pt (.lst [])⟩ :: L) (upd H l (.lst [])) := s.new hl (fun _ z => by cases z)
  refine q l H' (s1.kp fun b o z => ?_)
  by_cases zb : b = l
  · subst zb
    rw [upd_same] at z
    rw [← z]
    exact e
  · rw [upd_ne zb] at z
    exact kp b o z
end
/-! ### dict comprehensions -/
section
variable {K : PySem.W.Frag} {Z : Ad} {L R : List Atom} {H : Hp} {p : Addr} {X : Addr → Hp → Prop} {xs : List V} {σ : St} {g : TG} {tt : TT} {tk tv : TE} {vs : List Nat} {wi : TI} {Q : VK}
instance p_dc : Stp (tDc wi g tt tk tv vs σ H Q) (wi σ H fun J H1 => ∀ D, H1 D = none → ∃ W : Nat → Nat → Hp → Prop, (∃ m, W 0 m (upd H1 D (.dK []))) ∧ ∀ i m H, W i m H →
  (J.stop i H ∧ Q (.ref D) H) ∨ (J.go i H ∧ ∃ Nx : Hp → Prop, (∀ H', Nx H' → ∃ m', m' < m ∧ W (i + 1) m' H') ∧ ∀ x H', J.yld i H x H' → g x (wipe σ vs) H' fun σ2 H2 => wipe σ2 vs = wipe σ vs ∧ tt σ2 H2 fun b H3 =>
    if b = true then tk σ2 H3 fun y H4 => tv σ2 H4 fun z H5 => ∃ kvs k, y = kV k ∧ H5 D = some (.dK kvs) ∧ kvs.length < sizeLine ∧ Nx (upd H5 D (.dK (putK kvs k z))) else Nx H3)) := ⟨fun q => q⟩
/-- over a list that stays -/
theorem dc_list {a : Addr} {H1 : Hp} {D : Addr} {Qd : Hp → Prop} (Pv : Nat → Hp → Prop) (h0 : Pv 0 (upd H1 D (.dK []))) (hl : ∀ i H, i ≤ xs.length → Pv i H → SqL K H a xs)
    (hs : ∀ i x H, xs[i]? = some x → Pv i H → g x (wipe σ vs) H fun σ2 H2 => wipe σ2 vs = wipe σ vs ∧ tt σ2 H2 fun b H3 =>
      if b = true then tk σ2 H3 fun y H4 => tv σ2 H4 fun z H5 => ∃ kvs k, y = kV k ∧ H5 D = some (.dK kvs) ∧ kvs.length < sizeLine ∧ Pv (i + 1) (upd H5 D (.dK (putK kvs k z))) else Pv (i + 1) H3) (hd : ∀ H, Pv xs.length H → Qd H) :
    ∃ W : Nat → Nat → Hp → Prop, (∃ m, W 0 m (upd H1 D (.dK []))) ∧ ∀ i m H, W i m H →
      ((Itl K a).stop i H ∧ Qd H) ∨ ((Itl K a).go i H ∧ ∃ Nx : Hp → Prop, (∀ H', Nx H' → ∃ m', m' < m ∧ W (i + 1) m' H') ∧ ∀ x H', (Itl K a).yld i H x H' → g x (wipe σ vs) H' fun σ2 H2 => wipe σ2 vs = wipe σ vs ∧ tt σ2 H2 fun b H3 =>
        if b = true then tk σ2 H3 fun y H4 => tv σ2 H4 fun z H5 => ∃ kvs k, y = kV k ∧ H5 D = some (.dK kvs) ∧ kvs.length < sizeLine ∧ Nx (upd H5 D (.dK (putK kvs k z))) else Nx H3) := by
  refine ⟨fun i m H => m = xs.length - i ∧ i ≤ xs.length ∧ Pv i H, ⟨xs.length, by simp, Nat.zero_le _, h0⟩, ?_⟩
  rintro i m H ⟨rfl, hi, p⟩
  have q := hl i H hi p
  by_cases hlt : i < xs.length
  · refine .inr ⟨⟨xs, xs[i], q, by simp [hlt]⟩, Pv (i + 1), fun H' p' => ⟨xs.length - (i + 1), by omega, rfl, hlt, p'⟩, fun x H' y => ?_⟩
    obtain ⟨e, y⟩ := y
    subst e
    exact hs i x _ (y xs q) p
  · have e : i = xs.length := by omega
    subst e
    exact .inl ⟨⟨xs, q, Nat.le_refl _⟩, hd H p⟩
/-- .. by an invariant of what is made -/
theorem sdc_list {Qd : Addr → Hp → Prop} (s : Sat Z L H) (f : Fnd L p X R) (d : RdL K X xs) (I : Nat → List (Key × V) → List Atom → Prop) (h0 : I 0 [] R)
    (hs : ∀ D i x kvs L H', xs[i]? = some x → I i kvs L → Sat Z (⟨D, Pt (.dK kvs)⟩ :: ⟨p, X⟩ :: L) H' → g x (wipe σ vs) H' fun σ2 H2 => wipe σ2 vs = wipe σ vs ∧ tt σ2 H2 fun b H3 =>
      if b = true then tk σ2 H3 fun y H4 => tv σ2 H4 fun z H5 => ∃ kvs k, y = kV k ∧ H5 D = some (.dK kvs) ∧ kvs.length < sizeLine ∧ (∃ kvs' L', I (i + 1) kvs' L' ∧ Sat Z (⟨D, Pt (.dK kvs')⟩ :: ⟨p, X⟩ :: L') (upd H5 D (.dK (putK kvs k z)))) else ∃ kvs' L', I (i + 1) kvs' L' ∧ Sat Z (⟨D, Pt (.dK kvs')⟩ :: ⟨p, X⟩ :: L') H3)
    (hd : ∀ D kvs L H', I xs.length kvs L → Sat Z (⟨D, Pt (.dK kvs)⟩ :: ⟨p, X⟩ :: L) H' → Qd D H') :
    ∃ a, V.ref p = .ref a ∧ (∃ xs, SqL K H a xs) ∧ ∀ D, H D = none → ∃ W : Nat → Nat → Hp → Prop, (∃ m, W 0 m (upd H D (.dK []))) ∧ ∀ i m H, W i m H →
      ((Itl K a).stop i H ∧ Qd D H) ∨ ((Itl K a).go i H ∧ ∃ Nx : Hp → Prop, (∀ H', Nx H' → ∃ m', m' < m ∧ W (i + 1) m' H') ∧ ∀ x H', (Itl K a).yld i H x H' → g x (wipe σ vs) H' fun σ2 H2 => wipe σ2 vs = wipe σ vs ∧ tt σ2 H2 fun b H3 =>
        if b = true then tk σ2 H3 fun y H4 => tv σ2 H4 fun z H5 => ∃ kvs k, y = kV k ∧ H5 D = some (.dK kvs) ∧ kvs.length < sizeLine ∧ Nx (upd H5 D (.dK (putK kvs k z))) else Nx H3) := by
  refine ⟨p, rfl, ⟨xs, s.sq⟩, fun D hD => dc_list (xs := xs) (Qd := Qd D) (fun i H' => ∃ kvs L', I i kvs L' ∧ Sat Z (⟨D, Pt (.dK kvs)⟩ :: ⟨p, X⟩ :: L') H') ?_ ?_ ?_ ?_⟩
  · exact ⟨[], R, h0, s.fnd.new hD (fun _ z => by cases z)⟩
  · rintro i H' hi ⟨kvs, L', _, s'⟩
    exact s'.sq
  · rintro i x H' hx ⟨kvs, L', h, s'⟩
    exact hs D i x kvs L' H' hx h s'
  · rintro H' ⟨kvs, L', h, s'⟩
    exact hd D kvs L' H' h s'
/-- a turn that puts -/
theorem sdc_put {D p : Addr} {L L' : List Atom} {X : Addr → Hp → Prop} {kvs : List (Key × V)} {k : Key} {y z : V} {I : Nat → List (Key × V) → List Atom → Prop} {i : Nat} (s : Sat Z L H) (e : Ent L (⟨D, Pt (.dK kvs)⟩ :: ⟨p, X⟩ :: L')) (hk : IsK y k) (hl : kvs.length < sizeLine) (h : I (i + 1) (putK kvs k z) L') :
    ∃ kvs k, y = kV k ∧ H D = some (.dK kvs) ∧ kvs.length < sizeLine ∧ (∃ kvs' L', I (i + 1) kvs' L' ∧ Sat Z (⟨D, Pt (.dK kvs')⟩ :: ⟨p, X⟩ :: L') (upd H D (.dK (putK kvs k z)))) := by
  have s := s.ent (L' := ⟨D, Pt (.dK kvs)⟩ :: ⟨p, X⟩ :: L')
  exact ⟨kvs, k, hk.eq, s.at0, hl, _, _, h, s.put mutO_dK rfl⟩
end
end NN
namespace NN
open PySem L2
/-! ### the ring: what it is -/
structure NodeM where
  chain : List Int
  prior : Option Int
  far : List (Option Int)
  things : List (Int × Int × Option Str)
def ov : Option Int → V
  | some i => .int i
  | none => .non
def sv : Option Str → V
  | some i => .str i
  | none => .non
structure RingM where
  bits : Nat
  many : Int
  fixed : List Int
  nodes : List (Int × NodeM)
  stamps : Int
  deeds : List V
def RingM.names (R : RingM) : List Int := R.nodes.map (·.1)
def lk : List (Int × NodeM) → Int → Option NodeM
  | [], _ => none
  | x :: r, i => if x.1 = i then some x.2 else lk r i
theorem lk_mem {ns : List (Int × NodeM)} {i : Int} {nd : NodeM} (h : lk ns i = some nd) : (i, nd) ∈ ns := by
  induction ns with
  | nil => cases h
  | cons x r ih =>
    unfold lk at h
    by_cases e : x.1 = i
    · rw [if_pos e] at h
      cases h
      subst e
      exact List.mem_cons_self
    · rw [if_neg e] at h
      exact List.mem_cons_of_mem _ (ih h)
theorem lk_some {ns : List (Int × NodeM)} {i : Int} (h : i ∈ ns.map (·.1)) : ∃ nd, lk ns i = some nd := by
  induction ns with
  | nil => cases h
  | cons x r ih =>
    unfold lk
    by_cases e : x.1 = i
    · exact ⟨_, if_pos e⟩
    · rw [if_neg e]
      rw [List.map_cons, List.mem_cons] at h
      exact ih (h.resolve_left fun z => e z.symm)
theorem lk_names {ns : List (Int × NodeM)} {i : Int} {nd : NodeM} (h : lk ns i = some nd) : i ∈ ns.map (·.1) := List.mem_map.mpr ⟨_, lk_mem h, rfl⟩
/-- the tables' dict: the nodes stand at ad -/
def nDict (ad : Int → Addr) (ns : List (Int × NodeM)) : List (Key × V) := ns.map fun x => (Sum.inl x.1, V.ref (ad x.1))
theorem nDict_val {ad : Int → Addr} {ns : List (Int × NodeM)} {i : Int} : valV (nDict ad ns) (Sum.inl i : Key) = if i ∈ ns.map (·.1) then some (.ref (ad i)) else none := by
  induction ns with
  | nil => rfl
  | cons x r ih =>
    by_cases e : x.1 = i
    · rw [show nDict ad (x :: r) = (Sum.inl x.1, V.ref (ad x.1)) :: nDict ad r from rfl, valV_pos (by rw [e])]
      subst e
      rw [if_pos (by rw [List.map_cons]; exact List.mem_cons_self)]
    · rw [show nDict ad (x :: r) = (Sum.inl x.1, V.ref (ad x.1)) :: nDict ad r from rfl, valV_neg (fun z => e (Sum.inl.inj z)), ih]
      have e2 : ¬ i = x.1 := fun z => e z.symm
      simp only [List.map_cons, List.mem_cons, e2, false_or]
theorem nDict_keys {ad : Int → Addr} {ns : List (Int × NodeM)} : (nDict ad ns).map (·.1) = (ns.map (·.1)).map Sum.inl := by
  unfold nDict
  rw [List.map_map, List.map_map]
  rfl
/-! ### .. as it stands in the heap -/
def ThX (Z : Ad) (t : List (Int × Int × Option Str)) : Addr → Hp → Prop := fun p h => ∃ ad : Int → Addr, Star Z.Space (⟨p, Pt (.dK (t.map fun x => ((Sum.inl x.1 : Key), V.ref (ad x.1))))⟩ :: t.map fun x => ⟨ad x.1, Pt (.tup [.int x.2.1, sv x.2.2])⟩) h
abbrev nF (c : Addr) (pr : V) (f t : Addr) : List (Str × V) := [("chain", .ref c), ("prior", pr), ("far", .ref f), ("things", .ref t)]
def NodeX (Z : Ad) (nd : NodeM) : Addr → Hp → Prop := fun n h => ∃ dx c f t : Addr, Star Z.Space [⟨n, Pt (.ins Z.Node dx (nF c (ov nd.prior) f t))⟩, ⟨c, LI nd.chain⟩, ⟨f, LV (nd.far.map ov)⟩, ⟨t, ThX Z nd.things⟩] h
structure WfR (R : RingM) : Prop where
  lo : 3 ≤ R.bits
  hi : R.bits ≤ 32
  nd : R.names.Nodup
  rg : ∀ i ∈ R.names, 0 ≤ i ∧ i < 2 ^ R.bits
  ln : R.names.length < 64
  ch : ∀ i nd, lk R.nodes i = some nd → nd.chain.length ≤ 8 ∧ nd.far.length ≤ 32
  fx : R.fixed.length ≤ 8
  my : 1 ≤ R.many ∧ R.many ≤ 4
abbrev rF (R : RingM) (c fx d dn : Addr) : List (Str × V) := [("circle", .ref c), ("many", .int R.many), ("fixed", .ref fx), ("nodes", .ref d), ("stamps", .int R.stamps), ("done", .ref dn)]
def nAtoms (Z : Ad) (ad : Int → Addr) (ns : List (Int × NodeM)) : List Atom := ns.map fun x => ⟨ad x.1, NodeX Z x.2⟩
def rAtoms (Z : Ad) (ad : Int → Addr) (R : RingM) (r dx c fx d dn : Addr) : List Atom :=
  ⟨r, Pt (.ins Z.Ring dx (rF R c fx d dn))⟩ :: ⟨c, SpA Z R.bits⟩ :: ⟨fx, LI R.fixed⟩ :: ⟨dn, LV R.deeds⟩ :: ⟨d, Pt (.dK (nDict ad R.nodes))⟩ :: nAtoms Z ad R.nodes
def RingX (Z : Ad) (ad : Int → Addr) (R : RingM) : Addr → Hp → Prop := fun r h => WfR R ∧ ∃ dx c fx d dn : Addr, Star Z.Space (rAtoms Z ad R r dx c fx d dn) h
theorem star_mem {S : Addr} {a : Atom} : ∀ {L : List Atom} {H : Hp}, a ∈ L → Star S L H → ∃ h, Sub h H ∧ a.X a.p h
  | b :: L, H, m, ⟨h1, h2, s1, s2, c, x, r⟩ => by
    rcases List.mem_cons.mp m with rfl | m
    · exact ⟨h1, s1, x⟩
    · obtain ⟨h, k, y⟩ := star_mem m r
      exact ⟨h, k.trans s2, y⟩
/-- a node as it is seen -/
structure NdV (Z : Ad) (H : Hp) (n dx c f t : Addr) (nd : NodeM) : Prop where
  n : H n = some (.ins Z.Node dx (nF c (ov nd.prior) f t))
  c : H c = some (.lst (nd.chain.map V.int))
  f : H f = some (.lst (nd.far.map ov))
  t : ∃ ad : Int → Addr, H t = some (.dK (nd.things.map fun x => (Sum.inl x.1, V.ref (ad x.1)))) ∧ ∀ x ∈ nd.things, H (ad x.1) = some (.tup [.int x.2.1, sv x.2.2])
theorem nodeX_view {Z : Ad} {nd : NodeM} {n : Addr} {h H : Hp} (k : Sub h H) (x : NodeX Z nd n h) : ∃ dx c f t, NdV Z H n dx c f t nd := by
  obtain ⟨dx, c, f, t, s⟩ := x
  have at0 : ∀ {p o}, (⟨p, Pt o⟩ : Atom) ∈ [⟨n, Pt (.ins Z.Node dx (nF c (ov nd.prior) f t))⟩, ⟨c, LI nd.chain⟩, ⟨f, LV (nd.far.map ov)⟩, ⟨t, ThX Z nd.things⟩] → H p = some o := fun m => by
    obtain ⟨h', k', y⟩ := star_mem m s
    exact k _ _ (k' _ _ y)
  obtain ⟨h', k', ad, y⟩ := star_mem (a := ⟨t, ThX Z nd.things⟩) (by simp) s
  have k'' := k'.trans k
  refine ⟨dx, c, f, t, at0 (by simp), at0 (by simp), at0 (by simp), ad, ?_, fun x hx => ?_⟩
  · obtain ⟨h2, k2, z⟩ := star_mem List.mem_cons_self y
    exact k'' _ _ (k2 _ _ z)
  · obtain ⟨h2, k2, z⟩ := star_mem (List.mem_cons_of_mem _ (List.mem_map.mpr ⟨x, hx, rfl⟩)) y
    exact k'' _ _ (k2 _ _ z)
/-- the ring as it is seen -/
structure RgV (Z : Ad) (H : Hp) (ad : Int → Addr) (R : RingM) (r dx c fx d dn : Addr) : Prop where
  r : H r = some (.ins Z.Ring dx (rF R c fx d dn))
  c : SpH Z H c R.bits
  fx : H fx = some (.lst (R.fixed.map V.int))
  dn : H dn = some (.lst R.deeds)
  d : H d = some (.dK (nDict ad R.nodes))
  nd : ∀ i n, lk R.nodes i = some n → ∃ dx c f t, NdV Z H (ad i) dx c f t n
  wf : WfR R
section
variable {K : PySem.W.Frag} {Z : Ad} {L L' R' : List Atom} {H : Hp} {r n p l : Addr} {ad : Int → Addr} {R : RingM} {nd : NodeM}
theorem ring_view (s : Sat Z L H) (f : Fnd L r (RingX Z ad R) R') : ∃ dx c fx d dn, RgV Z H ad R r dx c fx d dn := by
  obtain ⟨h, k, w, dx, c, fx, d, dn, x⟩ := (s.fnd (p := r)).head
  have at0 : ∀ {p o}, (⟨p, Pt o⟩ : Atom) ∈ rAtoms Z ad R r dx c fx d dn → H p = some o := fun m => by
    obtain ⟨h', k', y⟩ := star_mem m x
    exact k _ _ (k' _ _ y)
  refine ⟨dx, c, fx, d, dn, at0 (by simp [rAtoms]), ?_, at0 (by simp [rAtoms]), at0 (by simp [rAtoms]), at0 (by simp [rAtoms]), fun i n e => ?_, w⟩
  · obtain ⟨h', k', dx2, y, z⟩ := star_mem (a := ⟨c, SpA Z R.bits⟩) (by simp [rAtoms]) x
    exact ⟨dx2, k _ _ (k' _ _ y), z⟩
  · obtain ⟨h', k', y⟩ := star_mem (a := ⟨ad i, NodeX Z n⟩) (by
      unfold rAtoms nAtoms
      iterate 5 refine List.mem_cons_of_mem _ ?_
      exact List.mem_map.mpr ⟨(i, n), lk_mem e, rfl⟩) x
    exact nodeX_view (k'.trans k) y
theorem ring_wf (s : Sat Z L H) (f : Fnd L r (RingX Z ad R) R') : WfR R := by
  obtain ⟨h, k, w, _⟩ := (s.fnd (p := r)).head
  exact w
theorem node_open (s : Sat Z (⟨n, NodeX Z nd⟩ :: L) H) : ∃ dx c f t : Addr, Sat Z (⟨n, Pt (.ins Z.Node dx (nF c (ov nd.prior) f t))⟩ :: ⟨c, LI nd.chain⟩ :: ⟨f, LV (nd.far.map ov)⟩ :: ⟨t, ThX Z nd.things⟩ :: L) H := by
  obtain ⟨t0, h1, h2, s1, s2, c, ⟨dx, c', f, t, x⟩, r⟩ := s
  exact ⟨dx, c', f, t, t0, star_app s1 s2 c x r⟩
theorem node_close {dx c f t : Addr} (s : Sat Z (⟨n, Pt (.ins Z.Node dx (nF c (ov nd.prior) f t))⟩ :: ⟨c, LI nd.chain⟩ :: ⟨f, LV (nd.far.map ov)⟩ :: ⟨t, ThX Z nd.things⟩ :: L) H) : Sat Z (⟨n, NodeX Z nd⟩ :: L) H :=
  SatI.close (M := [⟨n, Pt (.ins Z.Node dx (nF c (ov nd.prior) f t))⟩, ⟨c, LI nd.chain⟩, ⟨f, LV (nd.far.map ov)⟩, ⟨t, ThX Z nd.things⟩]) s fun h m => ⟨dx, c, f, t, m⟩
theorem ring_close {dx c fx d dn : Addr} (w : WfR R) (s : Sat Z (rAtoms Z ad R r dx c fx d dn ++ L) H) : Sat Z (⟨r, RingX Z ad R⟩ :: L) H := SatI.close s fun h m => ⟨w, dx, c, fx, d, dn, m⟩
theorem things0 {t : Addr} (s : Sat Z (⟨t, Pt (.dK [])⟩ :: L) H) : Sat Z (⟨t, ThX Z []⟩ :: L) H :=
  s.imp1 fun h e => ⟨fun _ => 0, h, (fun _ => none : Hp), .refl, (fun _ _ z => nomatch z), (fun _ _ _ _ z => nomatch z), e, trivial⟩
end
def addA (ad : Int → Addr) (n : Int) (a : Addr) : Int → Addr := fun z => if z = n then a else ad z
theorem addA_off {ad : Int → Addr} {ns : List (Int × NodeM)} {n : Int} {a : Addr} (h : n ∉ ns.map (·.1)) : ∀ x ∈ ns, addA ad n a x.1 = ad x.1 := fun x hx => if_neg fun e => h (List.mem_map.mpr ⟨x, hx, e⟩)
theorem nDict_add {ad : Int → Addr} {ns : List (Int × NodeM)} {n : Int} {nd : NodeM} {a : Addr} (h : n ∉ ns.map (·.1)) : putK (nDict ad ns) (Sum.inl n : Key) (.ref a) = nDict (addA ad n a) (ns ++ [(n, nd)]) := by
  rw [putK_new _ (by rw [nDict_val, if_neg h])]
  unfold nDict
  rw [List.map_append]
  congr 1
  · exact List.map_congr_left fun x hx => by rw [addA_off h x hx]
  · show _ = [(Sum.inl n, V.ref (addA ad n a n))]
    unfold addA
    rw [if_pos rfl]
theorem nAtoms_add {Z : Ad} {ad : Int → Addr} {ns : List (Int × NodeM)} {n : Int} {nd : NodeM} {a : Addr} (h : n ∉ ns.map (·.1)) : nAtoms Z (addA ad n a) (ns ++ [(n, nd)]) = nAtoms Z ad ns ++ [⟨a, NodeX Z nd⟩] := by
  unfold nAtoms
  rw [List.map_append]
  congr 1
  · exact List.map_congr_left fun x hx => by rw [addA_off h x hx]
  · show [(⟨addA ad n a n, NodeX Z nd⟩ : Atom)] = _
    unfold addA
    rw [if_pos rfl]
/-! ### what the functions tell -/
theorem best_uniq {f : Int → Int} {ns : List Int} {i j : Nat} {n m : Int} (a : NL.FirstBest (· < ·) f ns i n) (b : NL.FirstBest (· < ·) f ns j m) : n = m := by
  rcases Nat.lt_trichotomy i j with h | h | h
  · exact absurd (b.2.2 i n h a.1) (a.2.1 m (List.mem_of_getElem? b.1))
  · subst h
    exact Option.some.inj (a.1.symm.trans b.1)
  · exact absurd (a.2.2 j m h b.1) (b.2.1 n (List.mem_of_getElem? a.1))
noncomputable def bst (f : Int → Int) (ns : List Int) : Int := open Classical in if h : ∃ n i, NL.FirstBest (· < ·) f ns i n then Classical.choose h else 0
theorem bst_eq {f : Int → Int} {ns : List Int} {i : Nat} {n : Int} (a : NL.FirstBest (· < ·) f ns i n) : n = bst f ns := by
  have h : ∃ n i, NL.FirstBest (· < ·) f ns i n := ⟨n, i, a⟩
  unfold bst
  rw [dif_pos h]
  obtain ⟨j, b⟩ := Classical.choose_spec h
  exact best_uniq a b
noncomputable def nearF (m pt : Int) (ns : List Int) : Int := bst (fun x => (x - pt) % m) ns
noncomputable def precF (m pt : Int) (ns : List Int) : Int := bst (fun x => (pt - 1 - x) % m) ns
theorem nearP_eq {m pt n : Int} {ns : List Int} : nearP m pt ns n → n = nearF m pt ns := fun ⟨_, h⟩ => bst_eq h
theorem precP_eq {m pt n : Int} {ns : List Int} : precP m pt ns n → n = precF m pt ns := fun ⟨_, h⟩ => bst_eq h
theorem nearP_is {m pt : Int} {ns : List Int} (h : 0 < ns.length) : nearP m pt ns (nearF m pt ns) := by
  obtain ⟨n, h1, h2, h3, h4⟩ := NL.best_min (key := fun x => (x - pt) % m) (ns := ns) (ns.length - 1) (by omega)
  have fb : NL.FirstBest (· < ·) (fun x => (x - pt) % m) ns _ n := ⟨h2, fun x hx => by
    obtain ⟨j, hj⟩ := List.mem_iff_getElem?.mp hx
    have := h3 j x (by have := (List.getElem?_eq_some_iff.mp hj).1; omega) hj
    exact Int.not_lt.mpr this, h4⟩
  rw [show nearF m pt ns = n from (bst_eq fb).symm]
  exact ⟨_, fb⟩
theorem precP_is {m pt : Int} {ns : List Int} (h : 0 < ns.length) : precP m pt ns (precF m pt ns) := by
  obtain ⟨n, h1, h2, h3, h4⟩ := NL.best_min (key := fun x => (pt - 1 - x) % m) (ns := ns) (ns.length - 1) (by omega)
  have fb : NL.FirstBest (· < ·) (fun x => (pt - 1 - x) % m) ns _ n := ⟨h2, fun x hx => by
    obtain ⟨j, hj⟩ := List.mem_iff_getElem?.mp hx
    have := h3 j x (by have := (List.getElem?_eq_some_iff.mp hj).1; omega) hj
    exact Int.not_lt.mpr this, h4⟩
  rw [show precF m pt ns = n from (bst_eq fb).symm]
  exact ⟨_, fb⟩
def upwP (m pt : Int) (ns : List Int) : List Int := NL.sortK (fun n => (n - pt) % m) ns
def othP (m nm : Int) (ns : List Int) : List Int := (upwP m nm ns).filter fun n => !decide (n = nm)
def farP (m nm : Int) (k : Nat) : Int := (nm + 2 ^ k) % m
noncomputable def farN (b : Nat) (nm : Int) (ns : List Int) : List Int := (List.range b).map fun k => nearF (2 ^ b) (farP (2 ^ b) nm k) ns
noncomputable def rightN (b : Nat) (ns : List Int) (nm many : Int) : NodeM := ⟨(othP (2 ^ b) nm ns).take many.toNat, some (precF (2 ^ b) nm ns), (farN b nm ns).map some, []⟩
noncomputable def newR (b : Nat) (many : Int) (ns : List Int) : RingM := ⟨b, many, srt ns, (srt ns).map fun n => (n, rightN b (srt ns) n many), 0, []⟩
theorem newR_names {b : Nat} {many : Int} {ns : List Int} : (newR b many ns).names = srt ns := by
  show ((srt ns).map fun n => (n, rightN b (srt ns) n many)).map (·.1) = srt ns
  rw [List.map_map]
  exact List.map_id' _
theorem othP_len {m nm : Int} {ns : List Int} : (othP m nm ns).length ≤ ns.length := Nat.le_trans (List.length_filter_le _ _) (Nat.le_of_eq (List.length_mergeSort _))
theorem lk_map {F : Int → NodeM} {ns : List Int} {i : Int} {nd : NodeM} (h : lk (ns.map fun n => (n, F n)) i = some nd) : i ∈ ns ∧ nd = F i := by
  induction ns with
  | nil => cases h
  | cons n r ih =>
    rw [List.map_cons] at h
    unfold lk at h
    by_cases e : n = i
    · subst e
      rw [if_pos rfl] at h
      exact ⟨List.mem_cons_self, (Option.some.inj h).symm⟩
    · rw [if_neg e] at h
      exact ⟨List.mem_cons_of_mem _ (ih h).1, (ih h).2⟩
theorem lk_mapI {F : Int → NodeM} {ns : List Int} {i : Int} (h : i ∈ ns) : lk (ns.map fun n => (n, F n)) i = some (F i) := by
  obtain ⟨nd, e⟩ := lk_some (ns := ns.map fun n => (n, F n)) (i := i) (by rw [List.map_map]; exact List.mem_map.mpr ⟨i, h, rfl⟩)
  rw [e, (lk_map e).2]
theorem newR_wf {b : Nat} {many : Int} {ns : List Int} (hb : 3 ≤ b ∧ b ≤ 32) (hk : 1 ≤ many ∧ many ≤ 4) (hn : ns.length ≤ 8) (h1 : InSp (2 ^ b) ns) (h2 : ns.Nodup) : WfR (newR b many ns) := by
  have hp := srt_perm ns
  have hl := hp.length_eq
  refine ⟨hb.1, hb.2, ?_, fun i hi => ?_, ?_, fun i nd h => ?_, ?_, hk⟩
  · rw [newR_names]; exact hp.nodup_iff.mpr h2
  · rw [newR_names] at hi
    exact h1 i (hp.mem_iff.mp hi)
  · rw [newR_names, hl]; omega
  · obtain ⟨_, rfl⟩ := lk_map h
    refine ⟨?_, ?_⟩
    · show ((othP (2 ^ b) i (srt ns)).take many.toNat).length ≤ 8
      rw [List.length_take]
      have := othP_len (m := 2 ^ b) (nm := i) (ns := srt ns)
      omega
    · show ((farN b i (srt ns)).map some).length ≤ 32
      unfold farN
      rw [List.length_map, List.length_map, List.length_range]
      exact hb.2
  · show (srt ns).length ≤ 8
    omega
def firstOf : List Int → List Int → Option Int
  | [], _ => none
  | n :: r, ms => if n ∈ ms then some n else firstOf r ms
end NN
/-! own: plain facts of points on a ring -/
namespace NN
open PySem L2
theorem mem_of_filt {α : Type} {P : α → Bool} {l : List α} {x : α} (h : x ∈ l.filter P) : x ∈ l := (List.mem_filter.mp h).1
theorem dist_inj2 {m p x y : Int} (hx : 0 ≤ x ∧ x < m) (hy : 0 ≤ y ∧ y < m) (h : (x - p) % m = (y - p) % m) : x = y := by
  have e : (x - y) % m = 0 := by
    rw [show x - y = (x - p) - (y - p) from by omega, Int.sub_emod, h, Int.sub_self, Int.zero_emod]
  rcases mod_s (z := x - y) (m := m) (by omega) (by omega) with a | a <;> omega
theorem prec_key2 {m p x : Int} (hm : 0 < m) : (p - 1 - x) % m = m - 1 - (x - p) % m := by
  have h0 := Int.emod_nonneg (x - p) (show m ≠ 0 by omega)
  have h1 := Int.emod_lt_of_pos (x - p) hm
  have e : p - 1 - x = (m - 1 - (x - p) % m) + m * (-((x - p) / m) - 1) := by
    have := Int.mul_ediv_add_emod (x - p) m
    rw [Int.mul_sub, Int.mul_neg, Int.mul_one]
    omega
  rw [e, Int.add_mul_emod_self_left, Int.emod_eq_of_lt (by omega) (by omega)]
section
variable {key : Int → Int} {ns ms l : List Int} {m nm : Int}
theorem sortK_perm : (NL.sortK key ns).Perm ns := List.mergeSort_perm _ _
theorem sortK_pw : (NL.sortK key ns).Pairwise fun a b => key a ≤ key b := by
  have := List.pairwise_mergeSort (le := fun a b : Int => decide (key a ≤ key b)) (fun a b c h1 h2 => by simp at *; omega) (fun a b => by simp; omega) ns
  exact this.imp fun h => by simpa using h
theorem sortK_uniq (p : l.Perm ns) (h : l.Pairwise fun a b => key a ≤ key b) (inj : ∀ x ∈ ns, ∀ y ∈ ns, key x = key y → x = y) : l = NL.sortK key ns :=
  List.Perm.eq_of_pairwise (fun a b ha hb h1 h2 => inj a (p.mem_iff.mp ha) b (sortK_perm.mem_iff.mp hb) (Int.le_antisymm h1 h2)) h sortK_pw (p.trans sortK_perm.symm)
theorem sortK_eq (p : ms.Perm ns) (inj : ∀ x ∈ ns, ∀ y ∈ ns, key x = key y → x = y) : NL.sortK key ms = NL.sortK key ns := sortK_uniq (sortK_perm.trans p) sortK_pw inj
theorem sortK_lt (nd : ns.Nodup) (inj : ∀ x ∈ ns, ∀ y ∈ ns, key x = key y → x = y) : (NL.sortK key ns).Pairwise fun a b => key a < key b := by
  have h1 := (sortK_perm (key := key) (ns := ns)).nodup_iff.mpr nd
  have h2 := (sortK_pw (key := key) (ns := ns)).and h1
  exact h2.imp_of_mem fun {a b} ha hb h => by
    have : key a ≠ key b := fun e => h.2 (inj a (sortK_perm.mem_iff.mp ha) b (sortK_perm.mem_iff.mp hb) e)
    have := h.1
    omega
/-- the others upwards from a name -/
def othF (m nm : Int) (ns : List Int) : List Int := NL.sortK (fun n => (n - nm) % m) (ns.filter fun n => !decide (n = nm))
theorem othP_eq (hn : InSp m ns) (p : ms.Perm ns) : othP m nm ms = othF m nm ns := by
  unfold othP othF upwP
  refine sortK_uniq ((sortK_perm.filter _).trans (p.filter _)) (sortK_pw.filter _) fun x hx y hy e => dist_inj2 (hn x (mem_of_filt hx)) (hn y (mem_of_filt hy)) e
theorem othF_perm : (othF m nm ns).Perm (ns.filter fun n => !decide (n = nm)) := sortK_perm
theorem othF_mem {x : Int} : x ∈ othF m nm ns ↔ x ∈ ns ∧ x ≠ nm := by
  rw [othF_perm.mem_iff, List.mem_filter]
  simp
theorem othF_lt (hn : InSp m ns) (nd : ns.Nodup) : (othF m nm ns).Pairwise fun a b => (a - nm) % m < (b - nm) % m :=
  sortK_lt (nd.filter _) fun x hx y hy e => dist_inj2 (hn x (mem_of_filt hx)) (hn y (mem_of_filt hy)) e
theorem filter_ne_len (nd : ns.Nodup) (h : nm ∈ ns) : (ns.filter fun n => !decide (n = nm)).length + 1 = ns.length := by
  induction ns with
  | nil => cases h
  | cons a r ih =>
    have nd := List.nodup_cons.mp nd
    rw [List.filter_cons]
    by_cases e : a = nm
    · subst e
      rw [if_neg (by simp)]
      rw [List.filter_eq_self.mpr fun x hx => by
        have : x ≠ a := fun z => nd.1 (z ▸ hx)
        simp [this]]
      rfl
    · rw [if_pos (by simp [e]), List.length_cons, List.length_cons, ih nd.2 ((List.mem_cons.mp h).resolve_left fun z => e z.symm)]
theorem othF_len (nd : ns.Nodup) (h : nm ∈ ns) : (othF m nm ns).length + 1 = ns.length := by rw [othF_perm.length_eq, filter_ne_len nd h]
/-- the nearest is the first of all put in order -/
theorem near_head {t : Int} (hn : InSp m ns) (p : ms.Perm ns) (h0 : 0 < ns.length) : ∃ r, NL.sortK (fun n => (n - t) % m) ns = nearF m t ms :: r := by
  obtain ⟨i, fb⟩ := nearP_is (m := m) (pt := t) (ns := ms) (by rw [p.length_eq]; exact h0)
  have pm := sortK_perm (key := fun n => (n - t) % m) (ns := ns)
  have pw := sortK_pw (key := fun n => (n - t) % m) (ns := ns)
  cases hA : NL.sortK (fun n => (n - t) % m) ns with
  | nil => rw [hA] at pm; rw [← pm.length_eq] at h0; exact absurd h0 (Nat.lt_irrefl _)
  | cons a r =>
    rw [hA] at pm pw
    have ha := pm.mem_iff.mp List.mem_cons_self
    have hf := p.mem_iff.mp (List.mem_of_getElem? fb.1)
    have h1 : ¬ (a - t) % m < (nearF m t ms - t) % m := fb.2.1 a (p.mem_iff.mpr ha)
    have h2 : (a - t) % m ≤ (nearF m t ms - t) % m := by
      rcases List.mem_cons.mp (pm.mem_iff.mpr hf) with e | e
      · rw [e]; exact Int.le_refl _
      · exact (List.pairwise_cons.mp pw).1 _ e
    rw [dist_inj2 (hn a ha) (hn _ hf) (Int.le_antisymm h2 (Int.not_lt.mp h1))]
    exact ⟨r, rfl⟩
theorem nearF_mem {t : Int} (h0 : 0 < ns.length) : nearF m t ns ∈ ns := by
  obtain ⟨i, fb⟩ := nearP_is (m := m) (pt := t) (ns := ns) h0
  exact List.mem_of_getElem? fb.1
theorem nearF_min {t x : Int} (h0 : 0 < ns.length) (hx : x ∈ ns) : (nearF m t ns - t) % m ≤ (x - t) % m := by
  obtain ⟨i, fb⟩ := nearP_is (m := m) (pt := t) (ns := ns) h0
  exact Int.not_lt.mp (fb.2.1 x hx)
theorem nearF_is {t x : Int} (hn : InSp m ns) (hx : x ∈ ns) (h : ∀ y ∈ ns, (x - t) % m ≤ (y - t) % m) : nearF m t ns = x := by
  have h0 := List.length_pos_of_mem hx
  have hf := nearF_mem (m := m) (t := t) h0
  exact dist_inj2 (hn _ hf) (hn x hx) (Int.le_antisymm (nearF_min h0 hx) (h _ hf))
theorem nearF_perm {t : Int} (hn : InSp m ns) (p : ms.Perm ns) (h0 : 0 < ns.length) : nearF m t ms = nearF m t ns := by
  obtain ⟨r, e⟩ := near_head (t := t) hn p h0
  obtain ⟨r2, e2⟩ := near_head (t := t) hn (.refl _) h0
  rw [e] at e2
  exact (List.cons.inj e2).1
theorem precF_mem {t : Int} (h0 : 0 < ns.length) : precF m t ns ∈ ns := by
  obtain ⟨i, fb⟩ := precP_is (m := m) (pt := t) (ns := ns) h0
  exact List.mem_of_getElem? fb.1
theorem precF_max {t x : Int} (hm : 0 < m) (h0 : 0 < ns.length) (hx : x ∈ ns) : (x - t) % m ≤ (precF m t ns - t) % m := by
  obtain ⟨i, fb⟩ := precP_is (m := m) (pt := t) (ns := ns) h0
  have : ¬ (t - 1 - x) % m < (t - 1 - precF m t ns) % m := fb.2.1 x hx
  rw [prec_key2 hm, prec_key2 hm] at this
  omega
/-- the preceding one is the last of the others -/
theorem prec_last (hm : 0 < m) (hn : InSp m ns) (nd : ns.Nodup) (p : ms.Perm ns) (hnm : nm ∈ ns) (h2 : 2 ≤ ns.length) : (othF m nm ns).getLast? = some (precF m nm ms) := by
  have hl := othF_len (m := m) nd hnm
  have h0 : 0 < ms.length := by rw [p.length_eq]; omega
  have hf := p.mem_iff.mp (precF_mem (m := m) (t := nm) h0)
  have pos : ∀ x ∈ othF m nm ns, 0 < (x - nm) % m := fun x hx => by
    obtain ⟨a, b⟩ := othF_mem.mp hx
    have := Int.emod_nonneg (x - nm) (show m ≠ 0 by omega)
    have ne : (x - nm) % m ≠ (nm - nm) % m := fun e => b (dist_inj2 (hn x a) (hn nm hnm) e)
    rw [Int.sub_self, Int.zero_emod] at ne
    omega
  have lt := othF_lt (nm := nm) hn nd
  cases hA : (othF m nm ns).reverse with
  | nil => rw [List.reverse_eq_nil_iff] at hA; rw [hA] at hl; simp at hl; omega
  | cons z r =>
    have e : othF m nm ns = (z :: r).reverse := by rw [← hA, List.reverse_reverse]
    have hz : z ∈ othF m nm ns := by rw [e]; simp
    rw [e, List.getLast?_reverse, List.head?_cons]
    have zm := (othF_mem.mp hz).1
    have h1 := precF_max (t := nm) hm h0 (p.mem_iff.mpr zm)
    have h3 := pos z hz
    have fo : precF m nm ms ∈ othF m nm ns := othF_mem.mpr ⟨hf, fun e => by rw [e, Int.sub_self, Int.zero_emod] at h1; omega⟩
    have h4 : (precF m nm ms - nm) % m ≤ (z - nm) % m := by
      rw [e] at fo lt
      rw [List.pairwise_reverse] at lt
      rcases List.mem_cons.mp (List.mem_reverse.mp fo) with k | k
      · rw [k]; exact Int.le_refl _
      · exact Int.le_of_lt ((List.pairwise_cons.mp lt).1 _ k)
    rw [dist_inj2 (hn _ hf) (hn z zm) (Int.le_antisymm h4 h1)]
theorem at_last {ns : List Int} {z : Int} (h : ns.getLast? = some z) : atI (ns.map V.int) (-1) = some (.int z) := by
  obtain ⟨l, rfl⟩ := List.getLast?_eq_some_iff.mp h
  rw [List.map_append]
  exact atI_last _ _
theorem inB_T {m z : Int} (h : 0 ≤ z ∧ z < m) : inB 0 m (.int z) = true := by
  show (decide (0 ≤ z) && decide (z < m)) = true
  rw [decide_eq_true h.1, decide_eq_true h.2]
  rfl
theorem bl_true {α : Type} {as : List α} : (as.map fun _ => V.bl true) = (as.map fun _ => true).map V.bl := by rw [List.map_map]; rfl
theorem all_true {α : Type} {as : List α} : (as.map fun _ => true).all id = true := by rw [List.all_map]; exact List.all_eq_true.mpr fun _ _ => rfl
theorem firstOf_head {a : Int} {r : List Int} (h : a ∈ ms) : firstOf (a :: r) ms = some a := if_pos h
end
end NN
/-! own: zips, sums, slices over what is known of the heap -/
namespace NN
open PySem L2
theorem cut_last {α : Type} (xs : List α) : cutG xs none (some (-1)) = xs.dropLast := by
  unfold cutG
  rw [HT.sIx_none, List.drop_zero, Nat.sub_zero, List.dropLast_eq_take]
  congr 1
  simp only [HT.sIx]
  rw [if_pos (by decide)]
  omega
theorem cut_lastV (ns : List Int) : cutV (ns.map V.int) none (some (-1)) = (ns.dropLast).map V.int := by rw [cut_map, cut_last]
theorem cut_mid {α : Type} (xs : List α) {i j : Int} (h0 : 0 ≤ i) (h1 : 0 ≤ j) : cutG xs (some i) (some j) = (xs.drop i.toNat).take (j.toNat - i.toNat) := by
  unfold cutG
  simp only [HT.sIx]
  rw [if_neg (by omega), if_neg (by omega)]
  by_cases h2 : i.toNat ≤ xs.length
  · rw [Nat.min_eq_left h2]
    by_cases h3 : j.toNat ≤ xs.length
    · rw [Nat.min_eq_left h3]
    · rw [Nat.min_eq_right (by omega)]
      rw [List.take_of_length_le (l := xs.drop i.toNat) (by rw [List.length_drop]; omega), List.take_of_length_le (l := xs.drop i.toNat) (by rw [List.length_drop]; omega)]
  · rw [Nat.min_eq_right (a := i.toNat) (by omega), List.drop_eq_nil_of_le (by omega), List.drop_eq_nil_of_le (i := i.toNat) (by omega), List.take_nil, List.take_nil]
section
variable {K : PySem.W.Frag} {Z : Ad} {L R R1 R2 : List Atom} {H : Hp} {Q : VK} {p a b : Addr} {X Y : Addr → Hp → Prop} {xs ys : List V} {ns ms : List Int} {v x y : V} {σ : St} {g : TG} {tt : TT} {te : TE} {tl : TA} {vs : List Nat} {D : Ends} {tb : TS}
theorem s_sum (s : Sat Z L H) (f : Fnd L p X R) (d : RdL K X xs) (I : IsI xs ns) (q : Q (.int ns.sum) H) : rSum K [.ref p] H Q := by
  obtain rfl := I.eq
  exact ⟨p, ns, rfl, s.sq, q⟩
/-- xs[:-1] -/
theorem s_slLast (s : Sat Z L H) (f : Fnd L p X R) (d : RdL K X xs) (I : IsI xs ns) (q : ∀ l H', Sat Z (⟨l, Pt (.lst (ns.dropLast.map V.int))⟩ :: L) H' → Q (.ref l) H') : rSlL K (.ref p) none (some (-1)) H Q :=
  s_slL s f d (by rw [I.eq, cut_lastV]; exact q)
theorem s_slMid {i j : Int} (s : Sat Z L H) (f : Fnd L p X R) (d : RdL K X xs) (I : IsI xs ns) (h0 : 0 ≤ i) (h1 : 0 ≤ j) (q : ∀ l H', Sat Z (⟨l, Pt (.lst (((ns.drop i.toNat).take (j.toNat - i.toNat)).map V.int))⟩ :: L) H' → Q (.ref l) H') : rSlL K (.ref p) (some i) (some j) H Q :=
  s_slL s f d (by rw [I.eq, cut_map, cut_mid _ h0 h1]; exact q)
theorem s_ixLast {z : Int} (s : Sat Z L H) (f : Fnd L p X R) (d : RdL K X xs) (I : IsI xs ns) (h : ns.getLast? = some z) (q : Q (.int z) H) : rIxL K (.ref p) (.int (-1)) H Q := by
  obtain rfl := I.eq
  obtain ⟨l, rfl⟩ := List.getLast?_eq_some_iff.mp h
  refine s_ixL s f d ?_ q
  rw [List.map_append]
  exact atI_last _ _
instance p_zip {R : It → Hp → Prop} : Stp (iZip K tl σ H R) (tl σ H fun vs H1 => ∃ a b xs ys, vs = [.ref a, .ref b] ∧ SqL K H1 a xs ∧ SqL K H1 b ys ∧ R (Itz K a b) H1) := ⟨fun q => q⟩
theorem zip_get {i : Nat} {z : Int × Int} : (ns.zip ms)[i]? = some z ↔ ns[i]? = some z.1 ∧ ms[i]? = some z.2 := by
  rw [List.getElem?_zip_eq_some]
/-- over a zip of two lists of whole numbers -/
theorem fm_zip {Qd : Addr → Hp → Prop} (s : Sat Z L H) (f : Fnd L a X R1) (d : RdL K X xs) (I : IsI xs ns) (f2 : Fnd R1 b Y R2) (d2 : RdL K Y ys) (J : IsI ys ms) (P : Int × Int → Bool) (F : Int × Int → V)
    (hs : ∀ D i z T H', (ns.zip ms)[i]? = some z → Sat Z (⟨T, Pt (.tup [.int z.1, .int z.2])⟩ :: ⟨D, Pt (.lst ((((ns.zip ms).take i).filter P).map F))⟩ :: ⟨a, X⟩ :: ⟨b, Y⟩ :: R2) H' → g (.ref T) (wipe σ vs) H' fun σ2 H2 => wipe σ2 vs = wipe σ vs ∧ tt σ2 H2 fun b' H3 =>
      if b' = true then te σ2 H3 fun y H4 => ∃ acc, H4 D = some (.lst acc) ∧ acc.length < sizeLine ∧ Fm Z (⟨a, X⟩ :: ⟨b, Y⟩ :: R2) (ns.zip ms) P F D (i + 1) (upd H4 D (.lst (acc ++ [y]))) else Fm Z (⟨a, X⟩ :: ⟨b, Y⟩ :: R2) (ns.zip ms) P F D (i + 1) H3)
    (hd : ∀ D H', Fm Z (⟨a, X⟩ :: ⟨b, Y⟩ :: R2) (ns.zip ms) P F D (ns.zip ms).length H' → Qd D H') :
    ∃ a' b' xs ys, [V.ref a, V.ref b] = [.ref a', .ref b'] ∧ SqL K H a' xs ∧ SqL K H b' ys ∧ ∀ D, H D = none → ∃ W : Nat → Nat → Hp → Prop, (∃ m, W 0 m (upd H D (.lst []))) ∧ ∀ i m H, W i m H →
  ((Itz K a' b').stop i H ∧ Qd D H) ∨ ((Itz K a' b').go i H ∧ ∃ Nx : Hp → Prop, (∀ H', Nx H' → ∃ m', m' < m ∧ W (i + 1) m' H') ∧ ∀ x H', (Itz K a' b').yld i H x H' → g x (wipe σ vs) H' fun σ2 H2 => wipe σ2 vs = wipe σ vs ∧ tt σ2 H2 fun b H3 =>
    if b = true then te σ2 H3 fun y H4 => ∃ acc, H4 D = some (.lst acc) ∧ acc.length < sizeLine ∧ Nx (upd H4 D (.lst (acc ++ [y]))) else Nx H3) := by
  obtain rfl := I.eq
  obtain rfl := J.eq
  have sw : ∀ {L : List Atom} {H : Hp}, Sat Z (⟨b, Y⟩ :: ⟨a, X⟩ :: L) H → Sat Z (⟨a, X⟩ :: ⟨b, Y⟩ :: L) H := fun s => ⟨s.tabs, s.star.swap⟩
  have s0 : Sat Z (⟨a, X⟩ :: ⟨b, Y⟩ :: R2) H := sw (SatI.fnd (p := b) (L := ⟨a, X⟩ :: R1) (R := ⟨a, X⟩ :: R2) (s.fnd (p := a)))
  have rd : ∀ {D : Addr} {u : HO} {H' : Hp}, Sat Z (⟨D, Pt u⟩ :: ⟨a, X⟩ :: ⟨b, Y⟩ :: R2) H' → SqL K H' a (ns.map V.int) ∧ SqL K H' b (ms.map V.int) := fun s => by
    obtain ⟨h, k, x⟩ := s.tail.head
    obtain ⟨h2, k2, x2⟩ := s.tail.tail.head
    exact ⟨d.rd k x, d2.rd k2 x2⟩
  obtain ⟨h, k, x⟩ := s0.head
  obtain ⟨h2, k2, x2⟩ := s0.tail.head
  refine ⟨a, b, _, _, rfl, d.rd k x, d2.rd k2 x2, fun D hD => ?_⟩
  refine ⟨fun i m H' => m = (ns.zip ms).length - i ∧ i ≤ (ns.zip ms).length ∧ Fm Z (⟨a, X⟩ :: ⟨b, Y⟩ :: R2) (ns.zip ms) P F D i H', ⟨_, rfl, Nat.zero_le _, ⟨s0.new hD (fun _ z => by cases z)⟩⟩, ?_⟩
  rintro i m H' ⟨rfl, hi, ⟨s'⟩⟩
  obtain ⟨qx, qy⟩ := rd s'
  by_cases hlt : i < (ns.zip ms).length
  · obtain ⟨e1, e2⟩ := zip_get.mp (List.getElem?_eq_getElem hlt)
    have f1 : (ns.map V.int)[i]? = some (V.int (ns.zip ms)[i].1) := by rw [List.getElem?_map, e1]; rfl
    have f2 : (ms.map V.int)[i]? = some (V.int (ns.zip ms)[i].2) := by rw [List.getElem?_map, e2]; rfl
    refine .inr ⟨⟨_, _, _, _, qx, qy, f1, f2⟩, Fm Z (⟨a, X⟩ :: ⟨b, Y⟩ :: R2) (ns.zip ms) P F D (i + 1), fun H2 p' => ⟨_, by omega, rfl, hlt, p'⟩, fun v H2 y => ?_⟩
    obtain ⟨T, x', y', rfl, hT, rfl, g1, g2⟩ := y
    have h1 := g1 _ qx
    have h2 := g2 _ qy
    rw [f1] at h1
    rw [f2] at h2
    cases h1
    cases h2
    exact hs D i _ T _ (List.getElem?_eq_getElem hlt) (s'.new hT (fun _ z => by cases z))
  · have e : i = (ns.zip ms).length := by omega
    subst e
    refine .inl ⟨⟨_, _, qx, qy, ?_⟩, hd D H' ⟨s'⟩⟩
    rw [List.length_map, List.length_map]
    have e := List.length_zip (l₁ := ns) (l₂ := ms)
    omega
/-- .. by an invariant of what is made -/
theorem sc_zip {Qd : Addr → Hp → Prop} (s : Sat Z L H) (f : Fnd L a X R1) (d : RdL K X xs) (I : IsI xs ns) (f2 : Fnd R1 b Y R2) (d2 : RdL K Y ys) (J : IsI ys ms) (N : Nat → List V → List Atom → Prop) (h0 : N 0 [] R2)
    (hs : ∀ D i z acc T L H', (ns.zip ms)[i]? = some z → N i acc L → acc.length ≤ i → Sat Z (⟨T, Pt (.tup [.int z.1, .int z.2])⟩ :: ⟨D, Pt (.lst acc)⟩ :: ⟨a, X⟩ :: ⟨b, Y⟩ :: L) H' → g (.ref T) (wipe σ vs) H' fun σ2 H2 => wipe σ2 vs = wipe σ vs ∧ tt σ2 H2 fun b' H3 =>
      if b' = true then te σ2 H3 fun y H4 => ∃ acc, H4 D = some (.lst acc) ∧ acc.length < sizeLine ∧ Cv Z (fun i acc L => ∃ L', L = ⟨a, X⟩ :: ⟨b, Y⟩ :: L' ∧ N i acc L') D (i + 1) (upd H4 D (.lst (acc ++ [y]))) else Cv Z (fun i acc L => ∃ L', L = ⟨a, X⟩ :: ⟨b, Y⟩ :: L' ∧ N i acc L') D (i + 1) H3)
    (hd : ∀ D acc L H', N (ns.zip ms).length acc L → Sat Z (⟨D, Pt (.lst acc)⟩ :: ⟨a, X⟩ :: ⟨b, Y⟩ :: L) H' → Qd D H') :
    ∃ a' b' xs ys, [V.ref a, V.ref b] = [.ref a', .ref b'] ∧ SqL K H a' xs ∧ SqL K H b' ys ∧ ∀ D, H D = none → ∃ W : Nat → Nat → Hp → Prop, (∃ m, W 0 m (upd H D (.lst []))) ∧ ∀ i m H, W i m H →
  ((Itz K a' b').stop i H ∧ Qd D H) ∨ ((Itz K a' b').go i H ∧ ∃ Nx : Hp → Prop, (∀ H', Nx H' → ∃ m', m' < m ∧ W (i + 1) m' H') ∧ ∀ x H', (Itz K a' b').yld i H x H' → g x (wipe σ vs) H' fun σ2 H2 => wipe σ2 vs = wipe σ vs ∧ tt σ2 H2 fun b H3 =>
    if b = true then te σ2 H3 fun y H4 => ∃ acc, H4 D = some (.lst acc) ∧ acc.length < sizeLine ∧ Nx (upd H4 D (.lst (acc ++ [y]))) else Nx H3) := by
  obtain rfl := I.eq
  obtain rfl := J.eq
  have sw : ∀ {L : List Atom} {H : Hp}, Sat Z (⟨b, Y⟩ :: ⟨a, X⟩ :: L) H → Sat Z (⟨a, X⟩ :: ⟨b, Y⟩ :: L) H := fun s => ⟨s.tabs, s.star.swap⟩
  have s0 : Sat Z (⟨a, X⟩ :: ⟨b, Y⟩ :: R2) H := sw (SatI.fnd (p := b) (L := ⟨a, X⟩ :: R1) (R := ⟨a, X⟩ :: R2) (s.fnd (p := a)))
  have rd : ∀ {D : Addr} {u : HO} {L : List Atom} {H' : Hp}, Sat Z (⟨D, Pt u⟩ :: ⟨a, X⟩ :: ⟨b, Y⟩ :: L) H' → SqL K H' a (ns.map V.int) ∧ SqL K H' b (ms.map V.int) := fun s => by
    obtain ⟨h, k, x⟩ := s.tail.head
    obtain ⟨h2, k2, x2⟩ := s.tail.tail.head
    exact ⟨d.rd k x, d2.rd k2 x2⟩
  obtain ⟨h, k, x⟩ := s0.head
  obtain ⟨h2, k2, x2⟩ := s0.tail.head
  refine ⟨a, b, _, _, rfl, d.rd k x, d2.rd k2 x2, fun D hD => ?_⟩
  refine ⟨fun i m H' => m = (ns.zip ms).length - i ∧ i ≤ (ns.zip ms).length ∧ Cv Z (fun i acc L => ∃ L', L = ⟨a, X⟩ :: ⟨b, Y⟩ :: L' ∧ N i acc L') D i H', ⟨_, rfl, Nat.zero_le _, ⟨[], _, ⟨R2, rfl, h0⟩, Nat.le_refl _, s0.new hD (fun _ z => by cases z)⟩⟩, ?_⟩
  rintro i m H' ⟨rfl, hi, ⟨acc, _, ⟨L', rfl, hN⟩, hacc, s'⟩⟩
  obtain ⟨qx, qy⟩ := rd s'
  by_cases hlt : i < (ns.zip ms).length
  · obtain ⟨e1, e2⟩ := zip_get.mp (List.getElem?_eq_getElem hlt)
    have f1 : (ns.map V.int)[i]? = some (V.int (ns.zip ms)[i].1) := by rw [List.getElem?_map, e1]; rfl
    have f2 : (ms.map V.int)[i]? = some (V.int (ns.zip ms)[i].2) := by rw [List.getElem?_map, e2]; rfl
    refine .inr ⟨⟨_, _, _, _, qx, qy, f1, f2⟩, Cv Z (fun i acc L => ∃ L', L = ⟨a, X⟩ :: ⟨b, Y⟩ :: L' ∧ N i acc L') D (i + 1), fun H2 p' => ⟨_, by omega, rfl, hlt, p'⟩, fun v H2 y => ?_⟩
    obtain ⟨T, x', y', rfl, hT, rfl, g1, g2⟩ := y
    have h1 := g1 _ qx
    have h2 := g2 _ qy
    rw [f1] at h1
    rw [f2] at h2
    cases h1
    cases h2
    exact hs D i _ acc T L' _ (List.getElem?_eq_getElem hlt) hN hacc (s'.new hT (fun _ z => by cases z))
  · have e : i = (ns.zip ms).length := by omega
    subst e
    refine .inl ⟨⟨_, _, qx, qy, ?_⟩, hd D acc L' H' hN s'⟩
    rw [List.length_map, List.length_map]
    have e := List.length_zip (l₁ := ns) (l₂ := ms)
    omega
theorem g_bT {A B : Prop} {b : Bool} (h : b = true) (q : A) : if b = true then A else B := by subst h; rw [if_pos rfl]; exact q
theorem g_bF {A B : Prop} {b : Bool} (h : b = false) (q : B) : if b = true then A else B := by subst h; rw [if_neg (by decide)]; exact q
/-- a while loop by an invariant with a measure -/
theorem sw_while {tc : TT} {D : Ends} (I : Nat → St → List Atom → Prop) {m0 : Nat} (s : Sat Z L H) (h0 : I m0 σ L)
    (hs : ∀ m σ L H, I m σ L → Sat Z L H → tc σ H fun b H1 => if b = true then ∃ N : St → Hp → Prop, (∀ σ' H', N σ' H' → ∃ m', m' < m ∧ ∃ L', I m' σ' L' ∧ Sat Z L' H') ∧ tb { D with nx := N, ct := N, bk := D.nx } σ H1 else D.nx σ H1) : tWhile tc tb D σ H :=
  ⟨fun m σ H => ∃ L', I m σ L' ∧ Sat Z L' H, ⟨m0, L, h0, s⟩, fun m σ H ⟨L', h, s'⟩ => hs m σ L' H h s'⟩
theorem g_wN {D : Ends} {W : St → Hp → Prop} (q : tb { D with nx := W, ct := W, bk := D.nx } σ H) : ∃ N : St → Hp → Prop, (∀ σ' H', N σ' H' → W σ' H') ∧ tb { D with nx := N, ct := N, bk := D.nx } σ H := ⟨W, fun _ _ h => h, q⟩
end
end NN
/-! own: exceptions whose __init__ calls the base's __init__ by the base's name; isinstance of such a caught one, its fields -/
namespace NN
open PySem L2
/-- the class R hands on ValueError's __init__ -/
structure ReI (K : PySem.W.Frag) (R : Addr) : Prop where
  ga : PySem.W.specialIn K (.ref R) "__getattribute__" = some (some (.builtin "type.__getattribute__"))
  rd : PySem.W.readsIn K R (.type "type") = true
  fi : PySem.W.findCls K (.ref R) (.type "type") "__init__" = some (.val (.builtin "ValueError.__init__"))
section
variable {X : Cx} {x : Str} {o e : Expr} {es : List Expr} {ta : TA} {p p1 p2 pos : Pos} {R C : Addr}
theorem pe_reinit {pl : Sem Bool} (T : ReI X.K R) (hn : PE X (.Name x p1) (tC (.ref R))) (ha : PA X (e :: es) ta)
    (hc : eval (.Call (.Attribute (.Name x p1) "__init__" p2) (e :: es) [] pos) X.env = (do
      let ov ← eval (.Name x p1) X.env
      standAt p2.atName
      let (f, first) ← holding [ov] (getMethod ov "__init__" pl)
      callWith pos f first (backTo pos (starEach (e :: es) X.env)) (backToKw pos (keywordEach [] X.env))) := by rfl)
    (he : starEach (e :: es) X.env = (false, eval e X.env) :: starEach es X.env := by rfl) (hpl : (backTo pos (starEach es X.env)).any (·.1) = false := by rfl) :
    PE X (.Call (.Attribute (.Name x p1) "__init__" p2) (e :: es) [] pos) (tVeI X.K ta) := by
  refine ⟨fun pins s σ H Q I h => ?_⟩
  refine PySem.W.methodCall_KW (thn (hn.run pins s σ H (fun v H1 => v = .ref R ∧ H1 = H) I ⟨rfl, rfl⟩) fun u s1 ⟨v, H1, I1, rv, ev, eH⟩ => ?_) hc
  subst ev eH
  obtain rfl : u = Value.ref R := rv
  refine PySem.W.method_cls I1.kIn T.ga ?_
  refine PySem.W.cls_value I1.kIn T.rd T.fi rfl ?_
  have I2 := I1.tok (s1.toks + 1)
  show wpAny _ _ (callWith pos (Value.builtin "ValueError.__init__") [] (backTo pos (starEach (e :: es) X.env)) []) _ _ _
  refine PyProof.Rows.callWith_method1 (thn (ha.run pos pins _ σ H1 _ I2 h) fun us s2 ⟨vs, H2, I3, r1, a, C, ws, ev, hl, T, ea, q⟩ => ?_) he hpl
  subst ev
  cases r1 with
  | @cons _ u0 _ ur ra rw' =>
    obtain rfl : u0 = Value.ref a := ra
    have hlen : ur.length ≤ sizeLine := by
      rw [← Paired.length rw', sizeLine_eq]
      omega
    exact oinit_ok T I3 ea hlen fun s' J => ⟨.non, H2, J, rfl, q⟩
end
/-- the __init__ of an own exception class -/
structure EF (K : PySem.W.Frag) (C : Addr) (qual : Str) (st : Stmt) : Prop where
  ex : ∃ f fd, PySem.W.findIn K (.ref C) "__init__" = some (some (.ref f)) ∧ PySem.W.typeIn K (.ref f) = some (.type "function") ∧ FunS K "__init__" qual st [] [] f fd
structure EK (P : Program) (w : World) (K : PySem.W.Frag) (mg : Str → Option Value) (base : Heap) (CX : CXT) (k : Nat) (C : Addr) (qual : Str) (ps : List Str) (st : Stmt) (sp : Sp) : Prop where
  ex : ∃ f fd, PySem.W.findIn K (.ref C) "__init__" = some (some (.ref f)) ∧ PySem.W.typeIn K (.ref f) = some (.type "function") ∧ FunS K "__init__" qual st [] [] f fd ∧ FnOk P w K mg base CX k f fd ps sp
theorem EF.mk2 {P : Program} {w : World} {K : PySem.W.Frag} {mg : Str → Option Value} {base : Heap} {qual : Str} {st : Stmt} {ps : List Str} {k : Nat} {sp : Sp} {C : Addr} {CX : CXT} (F : EF K C qual st) (h : ∀ f fd, FunS K "__init__" qual st [] [] f fd → FnOk P w K mg base CX k f fd ps sp) : EK P w K mg base CX k C qual ps st sp :=
  let ⟨f, fd, hm, ht, F⟩ := F.ex; ⟨f, fd, hm, ht, F, h f fd F⟩
theorem FunD.binds2 {K : PySem.W.Frag} {x qual : Str} {params : Arguments} {body : List Stmt} {scope : Scope} {f : Addr} {fd : FuncData} {p q : Str} (F : FunD K x qual params body scope [] [] f fd)
    (h : ∀ (kV doc pm : Value) (an : Option Addr) (cdv ct : Value) (u v : Value), bindArgs (PySem.W.fnOf x qual params body scope .none kV doc pm an cdv ct) ⟨[u, v], []⟩ = pure ([p, q].zip [u, v])) : Binds K fd [p, q] [] := fun s us X hl => by
  obtain ⟨oc, od, dV, kV, doc, pm, an, cdv, ct, osl, rfl, lk, hcd, hD, hK⟩ := F.ex
  rcases hD with ⟨_, rfl⟩ | ⟨e, _⟩
  · match us, hl with
    | [u, v], _ => exact .of_eq (h kV doc pm an cdv ct u v)
  · exact absurd rfl e
section
variable {X : Cx} {x : Str} {o e : Expr} {es : List Expr} {ta : TA} {p p1 p2 pos : Pos} {R C : Addr} {k j : Nat} {qual : Str} {ps : List Str} {st : Stmt} {sp : Sp}
theorem pmk_ek (T : OexC X.K C) (D : EK X.prog X.w X.K X.mg X.base CX0 k C qual ps st sp) (hr : Room j X.A) (hj : k + 1 ≤ j) (hb : ∀ {f fd}, FunS X.K "__init__" qual st [] [] f fd → Binds X.K fd ps []) (hg : Gl X x) (hm : X.mg x = some (.ref C)) (ha : PA X (e :: es) ta)
    (hdb : (x == ("__debug__" : Str)) = false := by decide) (he : starEach (e :: es) X.env = (false, eval e X.env) :: starEach es X.env := by rfl) (hpl : (backTo pos (starEach es X.env)).any (·.1) = false := by rfl) :
    PMk X (.Call (.Name x p) (e :: es) [] pos) (tMkO C sp [] ta) := by
  obtain ⟨f, fd, h1, h2, F, ok⟩ := D.ex
  exact pmk_oex T h1 h2 ok (hr.mono hj) (hb F) .nil (fun _ _ _ _ _ _ _ h => h.elim) hg hm ha hdb he hpl
end
/-- try .. except X: .., without a name -/
def sTryN (K : PySem.W.Frag) (c : Value) (ts : Addr → Value → Option Addr → TS) (tb : WX → TS) : TS := fun D σ H => tb (wMany K (fun _ _ _ _ => False) D [(c, ts)]) D σ H
/-- raise C(..) -/
def tRsO (E : XK) (t : St → Hp → XK → Prop) : TS := fun _ σ H => t σ H fun cls d H' => E cls d H'
section
variable {X : Cx} {x : Str} {C : Addr}
/-- isinstance of the caught one, with or without a dict; one class, a tuple of classes -/
abbrev rIsE3 (K : PySem.W.Frag) (a : Addr) (cls : Value) (d : Option Addr) : RCl := fun xs H Q => ∃ D : Addr, cls = .ref D ∧ ExcC K D ∧ (∀ dd, d = some dd → ∃ fs, H dd = some (.xd fs)) ∧
  ((∃ (c : V) (cv : Value) (b : Bool), xs = [.ref a, c] ∧ ClsV c cv ∧ PySem.W.kitOne K (.ref D) cv = some b ∧ Q (.bl b) H) ∨
   (∃ (tp : Addr) (cs : List V) (us : List Value) (b : Bool), xs = [.ref a, .ref tp] ∧ H tp = some (.tup cs) ∧ Paired ClsV cs us ∧ PySem.W.kitAny K (.ref D) us = some b ∧ Q (.bl b) H))
theorem call_isE3 {a : Addr} {oe : Obj} {cls : Value} {d : Option Addr} {pn : List (Addr × Obj)} (hz : Zc cls d oe) (hf : ∃ vs, oe.data = .fields vs) :
    CallR (X.suite a ((a, oe) :: pn)) (.builtin "isinstance") (rIsE3 X.K a cls d) := by
  intro pins s σ H xs us Q I r h
  obtain ⟨D, rfl, C, hd, h⟩ := h
  obtain ⟨hget, _⟩ := I.pin (a, oe) (List.mem_append.mpr (.inl List.mem_cons_self))
  obtain ⟨vs, hv⟩ := hf
  obtain ⟨od, J⟩ : ∃ od, PySem.W.InstAt s.heap a oe D od := by
    cases d with
    | none => exact ⟨none, hget, hz.1, by unfold PySem.W.notCls; rw [hv] <;> rfl, by rw [hz.2]; exact trivial⟩
    | some dd =>
      obtain ⟨fs, ed⟩ := hd dd rfl
      have hx : ObjOk X.prog X.w H s.heap dd (.xd fs) := I.hok dd _ ed
      obtain ⟨mA, hns, hr⟩ := hx
      obtain ⟨od, ho, hl⟩ := lookIn_ns hns
      exact ⟨some od, hget, hz.1, by unfold PySem.W.notCls; rw [hv] <;> rfl, by rw [hz.2]; exact ho⟩
  have hcl : (PySem.W.clsIn X.K D).isSome = true := by obtain ⟨cd, hc, _⟩ := PySem.W.any_some C.hd; rw [hc]; rfl
  have Z : PySem.W.KitX X.K (.ref a) (.ref D) (fun h => PySem.W.InstAt h a oe D od) := PySem.W.kitx_exc hcl C.hg C.hk C.hs C.ha C.hn C.ht C.hm
  rcases h with ⟨c, cv, b, rfl, k, e, q⟩ | ⟨tp, cs, ws, b, rfl, hT, k, e, q⟩
  · obtain ⟨u1, u2, rfl, r1, r2⟩ := vals2 r
    cases (show u1 = Value.ref a from r1)
    have e2 := k.eq r2
    subst e2
    exact PySem.W.kia_one Z I.kIn J e (fun z => nomatch z) fun tk => ⟨.bl b, H, I.tok tk, rfl, q⟩
  · obtain ⟨u1, u2, rfl, r1, r2⟩ := vals2 r
    cases (show u1 = Value.ref a from r1)
    cases (show u2 = Value.ref tp from r2)
    obtain ⟨_, its, rv, o, h1, h2, n, h3⟩ := (show ObjOk X.prog X.w H s.heap tp (.tup cs) from I.hok tp _ hT)
    have e3 := ClsV.all k rv
    subst e3
    obtain ⟨oc, od', dt, sl⟩ := o
    simp only at h2 h3
    subst h2 h3
    exact PySem.W.kia_tup Z I.kIn J h1 e (fun z => nomatch z) fun tk => ⟨.bl b, H, I.tok tk, rfl, q⟩
end
section
variable {σ : St} {H : Hp} {ta : TA} {E : XK} {t : St → Hp → XK → Prop} {D : Ends} {C a : Addr} {sp : Sp} {Q : VK} {K : PySem.W.Frag} {cls : Value} {d : Option Addr} {f : Str} {te : TE}
instance p_rsO : Stp (tRsO E t D σ H) (t σ H E) := ⟨fun q => q⟩
instance p_xf : Stp (tXf a cls d C f te σ H Q) (te σ H fun x H1 => x = .ref a ∧ cls = .ref C ∧ ∃ (dd : Addr) (fs : List (Str × V)) (v : V), d = some dd ∧ H1 dd = some (.xd fs) ∧ fs.lookup f = some v ∧ Q v H1) := ⟨fun q => q⟩
instance p_veI : Stp (tVeI K ta σ H Q) (ta σ H fun vs H1 => ∃ (a C : Addr) (ws : List V), vs = .ref a :: ws ∧ ws.length ≤ 1000 ∧ OexC K C ∧ H1 a = some (exo a C none) ∧ Q .non H1) := ⟨fun q => q⟩
instance p_ost {to : TE} : Stp (tOst K f to te D σ H) (te σ H fun y H1 => to σ H1 fun x H2 => ∃ a C : Addr, x = .ref a ∧ OexC K C ∧ PySem.W.findIn K (.ref C) f = some none ∧
  ((H2 a = some (exo a C none) ∧ ∀ dx, H2 dx = none → dx ≠ a → D.nx σ (upd (upd H2 dx (exd dx [(f, y)])) a (exo a C (some dx)))) ∨
    ∃ (dx : Addr) (fs : List (Str × V)), H2 a = some (exo a C (some dx)) ∧ H2 dx = some (exd dx fs) ∧ fs.length ≤ 900 ∧ D.nx σ (upd H2 dx (exd dx ((f, y) :: fs))))) := ⟨fun q => q⟩
/-- the promise of an exception's __init__ that keeps one thing -/
def spX1 (C : Addr) (f : Str) : Sp := fun vs H Q _ => ∃ (a : Addr) (v : V), vs = [.ref a, v] ∧ H a = some (exo a C none) ∧ ∀ d, H d = none → d ≠ a → Q .non (upd (upd H d (exd d [(f, v)])) a (exo a C (some d)))
instance p_mkO : Stp (tMkO C sp [] ta σ H E) (ta σ H fun vs H1 => vs.length ≤ 1000 ∧ ∀ a, H1 a = none → sp (.ref a :: (vs ++ [])) (upd H1 a (exo a C none))
  (fun v H2 => v = .non ∧ ∃ (d : Addr) (fs : List (Str × V)), H2 a = some (exo a C (some d)) ∧ H2 d = some (exd d fs) ∧ H1 d = none ∧ E (.ref C) (some d) (upd (del H2 a) d (.xd fs))) (fun _ _ _ => False)) := ⟨fun q => q⟩
theorem mkO_1 {v : V} (q : ∀ d, H d = none → E (.ref C) (some d) (upd H d (.xd [(f, v)]))) : [v].length ≤ 1000 ∧ ∀ a, H a = none → spX1 C f (.ref a :: ([v] ++ [])) (upd H a (exo a C none))
  (fun v H2 => v = .non ∧ ∃ (d : Addr) (fs : List (Str × V)), H2 a = some (exo a C (some d)) ∧ H2 d = some (exd d fs) ∧ H d = none ∧ E (.ref C) (some d) (upd (del H2 a) d (.xd fs))) (fun _ _ _ => False) := by
  refine ⟨(by show 1 ≤ 1000; decide), fun a ha => ⟨a, v, rfl, upd_same, fun d hd hne => ⟨rfl, d, [(f, v)], upd_same, by rw [upd_ne hne, upd_same], by rwa [upd_ne hne] at hd, ?_⟩⟩⟩
  have hd0 : H d = none := by rwa [upd_ne hne] at hd
  have e : upd (del (upd (upd (upd H a (exo a C none)) d (exd d [(f, v)])) a (exo a C (some d))) a) d (.xd [(f, v)]) = upd H d (.xd [(f, v)]) := by
    funext b
    by_cases h1 : b = d
    · rw [h1, upd_same, upd_same]
    · rw [upd_ne h1, upd_ne h1]
      by_cases h2 : b = a
      · rw [h2, del_same, ha]
      · rw [del_ne h2, upd_ne h2, upd_ne h1, upd_ne h2]
  rw [e]
  exact q d hd0
end
end NN
namespace NN
open PySem L2
section
variable {K : PySem.W.Frag} {Z : Ad} {L R R2 : List Atom} {H : Hp} {Q : VK} {E : XK} {a tp dd D : Addr} {fs : List (Str × V)} {c v : V} {cs : List V} {cv : Value} {us : List Value} {b : Bool} {f : Str}
/-- isinstance of the caught one: one class -/
theorem s_isE (C : ExcC K D) (s : Sat Z L H) (F : Fnd L dd (Pt (.xd fs)) R) (k : ClsV c cv) (e : PySem.W.kitOne K (.ref D) cv = some b) (q : Q (.bl b) H) : rIsE3 K a (.ref D) (some dd) [.ref a, c] H Q :=
  ⟨D, rfl, C, fun d' h => by cases h; exact ⟨fs, (s.fnd (p := dd)).at0⟩, .inl ⟨c, cv, b, rfl, k, e, q⟩⟩
/-- a tuple of classes -/
theorem s_isET (C : ExcC K D) (s : Sat Z L H) (F : Fnd L dd (Pt (.xd fs)) R) (F2 : Fnd L tp (Pt (.tup cs)) R2) (k : Paired ClsV cs us) (e : PySem.W.kitAny K (.ref D) us = some b) (q : Q (.bl b) H) : rIsE3 K a (.ref D) (some dd) [.ref a, .ref tp] H Q :=
  ⟨D, rfl, C, fun d' h => by cases h; exact ⟨fs, (s.fnd (p := dd)).at0⟩, .inr ⟨tp, cs, us, b, rfl, (s.fnd (p := tp)).at0, k, e, q⟩⟩
/-- its field -/
theorem s_xf {P : V → Prop} (s : Sat Z L H) (F : Fnd L dd (Pt (.xd fs)) R) (hl : fs.lookup f = some v) (q : P v) : ∃ (d' : Addr) (fs : List (Str × V)) (v : V), some dd = some d' ∧ H d' = some (.xd fs) ∧ fs.lookup f = some v ∧ P v :=
  ⟨dd, fs, v, rfl, (s.fnd (p := dd)).at0, hl, q⟩
end
end NN
/-! own: walks over a text, its signs; figures of base 16 -/
namespace NN
open PySem L2
/-- text.index(sign) -/
abbrev rSIndex : V → List V → Hp → VK → Prop := fun x xs H Q => ∃ a b i rest, x = .str a ∧ xs = [.str b] ∧ Builtin.Str.occurrences a b 0 a.length 1 = i :: rest ∧ Q (.int (i : Nat)) H
section
variable {K : PySem.W.Frag} {Z : Ad} {L R : List Atom} {σ : St} {H : Hp} {Q : VK} {te to : TE} {t : TA} {g : TG} {tb : TS} {tt : TT} {vs : List Nat} {z : Str} {T : String} {r : V → List V → Hp → VK → Prop}
instance p_par3 {i j l : Nat} {D : Ends} : Stp (tPar3 i j l t D σ H) (t σ H fun vs H1 => ∃ u v w, vs = [u, v, w] ∧ D.nx (((σ.set i (some u)).set j (some v)).set l (some w)) H1) := ⟨fun q => q⟩
instance p_iStr {R : It → Hp → Prop} : Stp (iStr te σ H R) (te σ H fun v H1 => ∃ x, v = .str x ∧ R (Its x) H1) := ⟨fun q => q⟩
theorem for_str {D : Ends} (Pv : Nat → St → Hp → Prop) (h0 : Pv 0 σ H)
    (hs : ∀ i c σ H, z.cps[i]? = some c → Pv i σ H → g (.str ⟨#[c]⟩) σ H fun σ2 H2 => tb { D with nx := Pv (i + 1), ct := Pv (i + 1), bk := D.nx } σ2 H2) (hd : ∀ σ H, Pv z.cps.size σ H → D.nx σ H) :
    ∃ W : Nat → Nat → St → Hp → Prop, (∃ m, W 0 m σ H) ∧ ∀ i m σ H, W i m σ H →
      ((Its z).stop i H ∧ D.nx σ H) ∨ ((Its z).go i H ∧ ∃ N : St → Hp → Prop, (∀ σ' H', N σ' H' → ∃ m', m' < m ∧ W (i + 1) m' σ' H') ∧ ∀ x H', (Its z).yld i H x H' → g x σ H' fun σ2 H2 => tb { D with nx := N, ct := N, bk := D.nx } σ2 H2) := by
  refine ⟨fun i m σ H => m = z.cps.size - i ∧ i ≤ z.cps.size ∧ Pv i σ H, ⟨z.cps.size, by simp, Nat.zero_le _, h0⟩, ?_⟩
  rintro i m σ H ⟨rfl, hi, p⟩
  by_cases hlt : i < z.cps.size
  · refine .inr ⟨hlt, Pv (i + 1), fun σ' H' p' => ⟨z.cps.size - (i + 1), by omega, rfl, hlt, p'⟩, fun x H' y => ?_⟩
    obtain ⟨e, c, hc, y⟩ := y
    subst e y
    exact hs i c σ _ hc p
  · have e : i = z.cps.size := by omega
    subst e
    exact .inl ⟨Nat.le_refl _, hd σ H p⟩
theorem lc_str {H1 : Hp} {D : Addr} {Qd : Hp → Prop} (Pv : Nat → Hp → Prop) (h0 : Pv 0 (upd H1 D (.lst [])))
    (hs : ∀ i c H, z.cps[i]? = some c → Pv i H → g (.str ⟨#[c]⟩) (wipe σ vs) H fun σ2 H2 => wipe σ2 vs = wipe σ vs ∧ tt σ2 H2 fun b H3 =>
      if b = true then te σ2 H3 fun y H4 => ∃ acc, H4 D = some (.lst acc) ∧ acc.length < sizeLine ∧ Pv (i + 1) (upd H4 D (.lst (acc ++ [y]))) else Pv (i + 1) H3) (hd : ∀ H, Pv z.cps.size H → Qd H) :
    ∃ W : Nat → Nat → Hp → Prop, (∃ m, W 0 m (upd H1 D (.lst []))) ∧ ∀ i m H, W i m H →
      ((Its z).stop i H ∧ Qd H) ∨ ((Its z).go i H ∧ ∃ Nx : Hp → Prop, (∀ H', Nx H' → ∃ m', m' < m ∧ W (i + 1) m' H') ∧ ∀ x H', (Its z).yld i H x H' → g x (wipe σ vs) H' fun σ2 H2 => wipe σ2 vs = wipe σ vs ∧ tt σ2 H2 fun b H3 =>
        if b = true then te σ2 H3 fun y H4 => ∃ acc, H4 D = some (.lst acc) ∧ acc.length < sizeLine ∧ Nx (upd H4 D (.lst (acc ++ [y]))) else Nx H3) := by
  refine ⟨fun i m H => m = z.cps.size - i ∧ i ≤ z.cps.size ∧ Pv i H, ⟨z.cps.size, by simp, Nat.zero_le _, h0⟩, ?_⟩
  rintro i m H ⟨rfl, hi, p⟩
  by_cases hlt : i < z.cps.size
  · refine .inr ⟨hlt, Pv (i + 1), fun H' p' => ⟨z.cps.size - (i + 1), by omega, rfl, hlt, p'⟩, fun x H' y => ?_⟩
    obtain ⟨e, c, hc, y⟩ := y
    subst e y
    exact hs i c _ hc p
  · have e : i = z.cps.size := by omega
    subst e
    exact .inl ⟨Nat.le_refl _, hd H p⟩
/-- for sign in text -/
theorem sf_str {nxt : St → Hp → Prop} {rt : VK} (s : Sat Z L H) (I : Nat → St → List Atom → Prop) (h0 : I 0 σ L)
    (hs : ∀ i c σ L H, z.cps[i]? = some c → I i σ L → Sat Z L H → g (.str ⟨#[c]⟩) σ H fun σ2 H2 => tb { nx := fun σ' H' => ∃ L', I (i + 1) σ' L' ∧ Sat Z L' H', rt := rt, bk := nxt, ct := fun σ' H' => ∃ L', I (i + 1) σ' L' ∧ Sat Z L' H' } σ2 H2)
    (hd : ∀ σ L H, I z.cps.size σ L → Sat Z L H → nxt σ H) :
    ∃ x, V.str z = .str x ∧ ∃ W : Nat → Nat → St → Hp → Prop, (∃ m, W 0 m σ H) ∧ ∀ i m σ H, W i m σ H →
      ((Its x).stop i H ∧ nxt σ H) ∨ ((Its x).go i H ∧ ∃ N : St → Hp → Prop, (∀ σ' H', N σ' H' → ∃ m', m' < m ∧ W (i + 1) m' σ' H') ∧ ∀ y H', (Its x).yld i H y H' → g y σ H' fun σ2 H2 => tb { nx := N, rt := rt, bk := nxt, ct := N } σ2 H2) :=
  ⟨z, rfl, for_str (D := { nx := nxt, rt := rt, bk := nxt, ct := nxt }) (fun i σ' H' => ∃ L', I i σ' L' ∧ Sat Z L' H') ⟨L, h0, s⟩ (fun i c σ H hi ⟨L', h, s'⟩ => hs i c σ L' H hi h s') fun σ H ⟨L', h, s'⟩ => hd σ L' H h s'⟩
/-- [.. for sign in text] -/
theorem fm_str {Qd : Addr → Hp → Prop} {P : Nat → Bool} {F : Nat → V} (s : Sat Z L H)
    (hs : ∀ D i c H', z.cps.toList[i]? = some c → Sat Z (⟨D, Pt (.lst (((z.cps.toList.take i).filter P).map F))⟩ :: L) H' → g (.str ⟨#[c]⟩) (wipe σ vs) H' fun σ2 H2 => wipe σ2 vs = wipe σ vs ∧ tt σ2 H2 fun b H3 =>
      if b = true then te σ2 H3 fun y H4 => ∃ acc, H4 D = some (.lst acc) ∧ acc.length < sizeLine ∧ Fm Z L z.cps.toList P F D (i + 1) (upd H4 D (.lst (acc ++ [y]))) else Fm Z L z.cps.toList P F D (i + 1) H3)
    (hd : ∀ D H', Fm Z L z.cps.toList P F D z.cps.toList.length H' → Qd D H') :
    ∃ x, V.str z = .str x ∧ ∀ D, H D = none → ∃ W : Nat → Nat → Hp → Prop, (∃ m, W 0 m (upd H D (.lst []))) ∧ ∀ i m H, W i m H →
  ((Its x).stop i H ∧ Qd D H) ∨ ((Its x).go i H ∧ ∃ Nx : Hp → Prop, (∀ H', Nx H' → ∃ m', m' < m ∧ W (i + 1) m' H') ∧ ∀ y H', (Its x).yld i H y H' → g y (wipe σ vs) H' fun σ2 H2 => wipe σ2 vs = wipe σ vs ∧ tt σ2 H2 fun b H3 =>
    if b = true then te σ2 H3 fun y H4 => ∃ acc, H4 D = some (.lst acc) ∧ acc.length < sizeLine ∧ Nx (upd H4 D (.lst (acc ++ [y]))) else Nx H3) := by
  refine ⟨z, rfl, fun D hD => lc_str (Qd := Qd D) (fun i H' => Fm Z L z.cps.toList P F D i H') ⟨s.new hD (fun _ z => by cases z)⟩ ?_ ?_⟩
  · rintro i c H' hc ⟨s'⟩
    exact hs D i c H' (by rw [← hc]; simp) s'
  · intro H' h
    exact hd D H' (by rw [Array.length_toList]; exact h)
theorem s_inS {c : Nat} (q : Q (.bl (decide (c ∈ z.cps.toList))) H) : rInS (.str ⟨#[c]⟩) (.str z) H Q := ⟨c, z, rfl, rfl, q⟩
theorem s_notInS {c : Nat} (q : Q (.bl (!decide (c ∈ z.cps.toList))) H) : rNotInS (.str ⟨#[c]⟩) (.str z) H Q := ⟨c, z, rfl, rfl, q⟩
end
/-! figures -/
def figL : List Nat := [48, 49, 50, 51, 52, 53, 54, 55, 56, 57, 97, 98, 99, 100, 101, 102]
theorem fig_str : (Str.ofString "0123456789abcdef") = ⟨figL.toArray⟩ := by decide +kernel
theorem fig_len : (Str.ofString "0123456789abcdef").length = 16 := by decide +kernel
theorem fig_list : (Str.ofString "0123456789abcdef").cps.toList = figL := by decide +kernel
def dig (d : Int) : Nat := figL.getD d.toNat 0
def und (c : Nat) : Int := (figL.idxOf c : Nat)
theorem dig_mem {d : Int} (h : 0 ≤ d ∧ d < 16) : dig d ∈ figL := by
  unfold dig
  rw [List.getD_eq_getElem?_getD, List.getElem?_eq_getElem (show d.toNat < figL.length by show d.toNat < 16; omega)]
  exact List.getElem_mem _
theorem und_dig {d : Int} (h : 0 ≤ d ∧ d < 16) : und (dig d) = d := by
  have key : ∀ n : Fin 16, und (dig ((n : Nat) : Int)) = ((n : Nat) : Int) := by decide +kernel
  have := key ⟨d.toNat, by omega⟩
  rwa [show ((d.toNat : Nat) : Int) = d by omega] at this
theorem und_lt {c : Nat} (h : c ∈ figL) : 0 ≤ und c ∧ und c < 16 := by
  refine ⟨Int.natCast_nonneg _, ?_⟩
  have := List.idxOf_lt_length_iff.mpr h
  have e : figL.length = 16 := rfl
  unfold und
  omega
theorem occ_fig {c : Nat} (h : c ∈ figL) : Builtin.Str.occurrences (Str.ofString "0123456789abcdef") ⟨#[c]⟩ 0 (Str.ofString "0123456789abcdef").length 1 = [figL.idxOf c] := by
  have key : ∀ c ∈ figL, Builtin.Str.occurrences (Str.ofString "0123456789abcdef") ⟨#[c]⟩ 0 (Str.ofString "0123456789abcdef").length 1 = [figL.idxOf c] := by decide +kernel
  exact key c h
/-- a number's last k figures -/
def hx (p : Int) : Nat → List Nat
  | 0 => []
  | k + 1 => dig (p / 16 ^ k % 16) :: hx p k
/-- what figures come to -/
def val (l : List Nat) : Int := l.foldl (fun a c => a * 16 + und c) 0
theorem hx_len {p : Int} : ∀ k, (hx p k).length = k
  | 0 => rfl
  | k + 1 => by show (hx p k).length + 1 = _; rw [hx_len k]
theorem hx_mem {p : Int} : ∀ {k c}, c ∈ hx p k → c ∈ figL
  | 0, _, h => by cases h
  | k + 1, c, h => by
    rcases List.mem_cons.mp h with rfl | h
    · exact dig_mem ⟨Int.emod_nonneg _ (by decide), Int.emod_lt_of_pos _ (by decide)⟩
    · exact hx_mem h
theorem val_from (a : Int) : ∀ l : List Nat, l.foldl (fun a c => a * 16 + und c) a = a * 16 ^ l.length + val l
  | [] => by show a = a * 1 + 0; omega
  | c :: l => by
    show l.foldl _ (a * 16 + und c) = _
    rw [val_from (a * 16 + und c) l]
    show _ = a * 16 ^ (l.length + 1) + l.foldl _ (0 * 16 + und c)
    rw [val_from (0 * 16 + und c) l, Int.pow_succ, Int.zero_mul, Int.zero_add, Int.add_mul, Int.mul_assoc, Int.mul_comm 16 (16 ^ l.length)]
    omega
theorem val_hx {p : Int} (hp : 0 ≤ p) : ∀ k, val (hx p k) = p % 16 ^ k
  | 0 => by show (0 : Int) = p % 1; omega
  | k + 1 => by
    show (hx p k).foldl _ (0 * 16 + und (dig (p / 16 ^ k % 16))) = _
    rw [val_from, und_dig ⟨Int.emod_nonneg _ (by decide), Int.emod_lt_of_pos _ (by decide)⟩, hx_len, val_hx hp k, Int.zero_mul, Int.zero_add]
    have hk : (0 : Int) < 16 ^ k := Int.pow_pos (by decide)
    rw [Int.pow_succ]
    generalize (16 : Int) ^ k = m at hk
    have e1 := Int.emod_add_mul_ediv p m
    have e2 := Int.emod_add_mul_ediv (p / m) 16
    have r0 := Int.emod_nonneg p (show m ≠ 0 by omega)
    have r1 := Int.emod_lt_of_pos p hk
    have q0 := Int.emod_nonneg (p / m) (show (16 : Int) ≠ 0 by decide)
    have q1 := Int.emod_lt_of_pos (p / m) (show (0 : Int) < 16 by decide)
    have g1 : 0 ≤ p / m % 16 * m := Int.mul_nonneg q0 (by omega)
    have g2 : p / m % 16 * m ≤ 15 * m := Int.mul_le_mul_of_nonneg_right (by omega) (by omega)
    have e3 : p = (p / m % 16 * m + p % m) + m * 16 * (p / m / 16) := by
      have e4 : m * (p / m) = p / m % 16 * m + m * 16 * (p / m / 16) := by
        rw [Int.mul_assoc, ← Int.mul_comm m, ← Int.mul_add, e2]
      omega
    have e5 : p % (m * 16) = (p / m % 16 * m + p % m) % (m * 16) := by
      conv => lhs; rw [e3]
      exact Int.add_mul_emod_self_left _ _ _
    rw [e5]
    exact (Int.emod_eq_of_lt (by omega) (by omega)).symm
theorem val_snoc {l : List Nat} {c : Nat} : val (l ++ [c]) = val l * 16 + und c := by
  unfold val
  rw [List.foldl_append]
  rfl
theorem val_lt : ∀ {l : List Nat}, (∀ c ∈ l, c ∈ figL) → 0 ≤ val l ∧ val l < 16 ^ l.length
  | [], _ => by show (0 : Int) ≤ 0 ∧ (0 : Int) < 1; decide
  | c :: l, h => by
    have ih := val_lt fun d hd => h d (List.mem_cons_of_mem _ hd)
    have hu := und_lt (h c List.mem_cons_self)
    have e : val (c :: l) = und c * 16 ^ l.length + val l := by
      show l.foldl _ (0 * 16 + und c) = _
      rw [val_from, Int.zero_mul, Int.zero_add]
    have hp : (0 : Int) < 16 ^ l.length := Int.pow_pos (by decide)
    have g1 : 0 ≤ und c * 16 ^ l.length := Int.mul_nonneg hu.1 (Int.le_of_lt hp)
    have g2 : und c * 16 ^ l.length ≤ 15 * 16 ^ l.length := Int.mul_le_mul_of_nonneg_right (by omega) (Int.le_of_lt hp)
    rw [e, List.length_cons, Int.pow_succ]
    omega
end NN
/-! own: enumerate(text) -/
namespace NTE
open PySem PySem.Spec PyProof.Rows L2
/-- each sign in a new pair with its place -/
def Ites (x : Str) : It :=
  ⟨fun i _ => i < x.cps.size, fun i H v H' => ∃ T c, v = .ref T ∧ H T = none ∧ H' = upd H T (.tup [.int (i : Nat), .str ⟨#[c]⟩]) ∧ x.cps[i]? = some c, fun i _ => x.cps.size ≤ i⟩
theorem turn_enumS {P : Program} {w : World} {K : PySem.W.Frag} {elts : List Expr} {kk : Nat} {tpos : Pos} (x : Str) (t : Tok) (ty : String) (hty : ty = "str_ascii_iterator" ∨ ty = "str_iterator") (e it : Addr) :
    Turn P w K (.Tuple elts kk tpos) (Ites x) [e, it] e (fun i h => (∃ old, IsEnum h e it ((i : Nat) : Int) old) ∧ h.IsStrIter it ty x t i ∧ e ≠ it ∧ i ≤ x.cps.size) where
  mem := by simp
  obj := fun i h st b hb => by
    obtain ⟨⟨old, he⟩, ⟨o, ho, hc, hd⟩, _⟩ := st
    have e' : b = e ∨ b = it := by simpa using hb
    rcases e' with z | z
    · rw [z]; exact ⟨_, he, fun v q => nomatch q⟩
    · rw [z]; exact ⟨o, ho, fun v q => by rw [hd] at q; cases q⟩
  keep := fun i h h' st k => let ⟨⟨old, he⟩, ⟨o, ho, r⟩, hne, hle⟩ := st; ⟨⟨old, k e (by simp) _ he⟩, ⟨o, k it (by simp) o ho, r⟩, hne, hle⟩
  item := by
    intro X hP hw hK hc i pins s σ H E I hf st hg
    subst hP hw hK
    obtain ⟨⟨old, he⟩, hit, hne, hle⟩ := st
    have hel : e < s.heap.objs.size := Heap.lt_size he
    have hil : it < s.heap.objs.size := by obtain ⟨_, q, _⟩ := hit; exact Heap.lt_size q
    have hd : X.A.in1.handled = none := I.ok.hd hc
    have D : Draws X.prog X.w X.A.in1 it [it] x.cps.size (fun i v => ∃ c u, x.cps[i]? = some c ∧ v = .str ⟨#[c]⟩ u) (fun i h => h.IsStrIter it ty x t i) := by
      rcases hty with e | e
      · rw [e]; exact Draws.strAscii hd it x t
      · rw [e]; exact Draws.strWide hd it x t
    refine wpAny_pyNext_enum_itemD D he hit hg hne (by simpa using hne) fun y h' tk hy ho hit' hT hsz hk => ?_
    obtain ⟨c, u, hcx, rfl⟩ := hy
    refine ⟨_, rfl, wpAny_letOwnedTupleGo_enum (s := { s with heap := h', toks := tk + 1 }) ho fun h'' he' sb => ?_⟩
    have hT2 : h''.get? s.heap.objs.size = some { cls := .type "tuple", data := .seq #[.int i tk, .str ⟨#[c]⟩ u] } := (sb.2 _ (Nat.ne_of_gt hel)).trans hT
    have new : ObjOk X.prog X.w (upd H s.heap.objs.size (.tup [.int (i : Nat), .str ⟨#[c]⟩])) h'' s.heap.objs.size (.tup [.int (i : Nat), .str ⟨#[c]⟩]) :=
      ⟨by show 2 ≤ sizeLine; decide, [.int i tk, .str ⟨#[c]⟩ u], .cons ⟨_, rfl⟩ (.cons ⟨_, rfl⟩ .nil), ⟨_, hT2, rfl, _, rfl⟩⟩
    have I1 : Inv X pins σ (upd H s.heap.objs.size (.tup [.int (i : Nat), .str ⟨#[c]⟩])) { s with heap := h'', toks := tk + 1 } :=
      I.turnedNew (ch := [e, it]) (fun b ob hb q => (sb.2 b (fun z => hb (by simp [z]))).trans (hk b ob (fun z => hb (by simp [z])) (fun z => hb (by simp [z])) q)) hf (Nat.le_refl _) new
    refine ⟨.ref s.heap.objs.size, _, I1, rfl, ⟨_, c, rfl, I.hok.fresh (Nat.le_refl _), rfl, hcx⟩, ⟨⟨.str ⟨#[c]⟩ u, ?_⟩, ?_, hne, hg⟩, fun b hb => ?_⟩
    · have e1 : ((i + 1 : Nat) : Int) = (i : Int) + 1 := by omega
      rw [e1]; exact he'
    · obtain ⟨o, ho', r⟩ := hit'
      exact ⟨o, (sb.2 it (Ne.symm hne)).trans ho', r⟩
    · have hb' : b < s.heap.objs.size := by
        have e' : b = e ∨ b = it := by simpa using hb
        rcases e' with z | z
        · rw [z]; exact hel
        · rw [z]; exact hil
      rw [upd_ne (Nat.ne_of_lt hb')]
      exact (hf b hb).1
  done := by
    intro X hP hw hK hc i pins s σ H E I hf st hg
    subst hP hw hK
    obtain ⟨⟨old, he⟩, hit, hne, hle⟩ := st
    have hd : X.A.in1.handled = none := I.ok.hd hc
    have D : Draws X.prog X.w X.A.in1 it [it] x.cps.size (fun i v => ∃ c u, x.cps[i]? = some c ∧ v = .str ⟨#[c]⟩ u) (fun i h => h.IsStrIter it ty x t i) := by
      rcases hty with e | e
      · rw [e]; exact Draws.strAscii hd it x t
      · rw [e]; exact Draws.strWide hd it x t
    obtain rfl : i = x.cps.size := Nat.le_antisymm hle hg
    obtain ⟨f0, f1, f2, f3, f4, f5⟩ := hf it (by simp)
    exact wpAny_pyNext_enum_endD D he hit fun h' eb => ⟨rfl, I.turned (t' := s.toks) (fun b o hb q => eb b o hb q) f0 f1 f3 f4 f5⟩
  self := fun A i s Q E st h => let ⟨⟨_, he⟩, _⟩ := st; wpAny_pyIter_enum he h
def iEnumS (ta : TA) : TI := fun σ H R => ta σ H fun vs H1 => ∃ x, vs = [.str x] ∧ R (Ites x) H1
theorem pi_enumS {X : Cx} {e : Expr} {ta : TA} {p pos tpos : Pos} {elts : List Expr} {kk : Nat} (hg : Gl X "enumerate") (hm : X.mg "enumerate" = none) (ha : PA X [e] ta) (hs : starEach [e] X.env = [(false, eval e X.env)] := by rfl) :
    PI X (.Tuple elts kk tpos) (.Call (.Name "enumerate" p) [e] [] pos) (iEnumS ta) := by
  refine ⟨fun pins s σ H R I h => ?_⟩
  refine Call_ (ld_blt I hg hm boot_enumerate (PyProof.Rows.callWith_type1 (thn (ha.run pos pins s σ H _ I h) fun us s1 ⟨vs, H1, I1, r1, q1⟩ => ?_) hs rfl))
  obtain ⟨x, ex, q⟩ := q1
  subst ex
  cases r1 with
  | cons r rr =>
    cases rr
    obtain ⟨t, rfl⟩ := r
    refine call_enumerate_str fun h' he hit hsz hk => wpAny_pyIter_enum he ?_
    have I2 : Inv X pins σ H1 { s1 with heap := h' } := I1.kept (t' := s1.toks) hk
    have hty : strIterType x = "str_ascii_iterator" ∨ strIterType x = "str_iterator" := by unfold strIterType; split <;> simp
    refine ⟨s1.heap.objs.size + 1, [s1.heap.objs.size + 1, s1.heap.objs.size], _, _, H1, rfl, I2, turn_enumS x t _ hty (s1.heap.objs.size + 1) s1.heap.objs.size, ⟨⟨.none, he⟩, hit, Nat.succ_ne_self _, Nat.zero_le _⟩, fun b hb => ?_, q⟩
    have e' : b = s1.heap.objs.size + 1 ∨ b = s1.heap.objs.size := by simpa using hb
    have hle : s1.heap.objs.size ≤ b := by
      rcases e' with z | z
      · rw [z]; exact Nat.le_add_right _ _
      · rw [z]; exact Nat.le_refl _
    exact I1.fpOk hle (I1.hok.fresh hle)
end NTE
namespace NN
open PySem L2
section
variable {K : PySem.W.Frag} {Z : Ad} {L R : List Atom} {σ : St} {H : Hp} {Q : VK} {te : TE} {ta : TA} {g : TG} {tt : TT} {vs : List Nat} {z : Str}
instance p_iEnumS {R : It → Hp → Prop} : Stp (NTE.iEnumS ta σ H R) (ta σ H fun vs H1 => ∃ x, vs = [.str x] ∧ R (NTE.Ites x) H1) := ⟨fun q => q⟩
theorem lc_enumS {H1 : Hp} {D : Addr} {Qd : Hp → Prop} (Pv : Nat → Hp → Prop) (h0 : Pv 0 (upd H1 D (.lst [])))
    (hs : ∀ i c T H, z.cps[i]? = some c → Pv i H → H T = none → g (.ref T) (wipe σ vs) (upd H T (.tup [.int (i : Nat), .str ⟨#[c]⟩])) fun σ2 H2 => wipe σ2 vs = wipe σ vs ∧ tt σ2 H2 fun b H3 =>
      if b = true then te σ2 H3 fun y H4 => ∃ acc, H4 D = some (.lst acc) ∧ acc.length < sizeLine ∧ Pv (i + 1) (upd H4 D (.lst (acc ++ [y]))) else Pv (i + 1) H3) (hd : ∀ H, Pv z.cps.size H → Qd H) :
    ∃ W : Nat → Nat → Hp → Prop, (∃ m, W 0 m (upd H1 D (.lst []))) ∧ ∀ i m H, W i m H →
      ((NTE.Ites z).stop i H ∧ Qd H) ∨ ((NTE.Ites z).go i H ∧ ∃ Nx : Hp → Prop, (∀ H', Nx H' → ∃ m', m' < m ∧ W (i + 1) m' H') ∧ ∀ x H', (NTE.Ites z).yld i H x H' → g x (wipe σ vs) H' fun σ2 H2 => wipe σ2 vs = wipe σ vs ∧ tt σ2 H2 fun b H3 =>
        if b = true then te σ2 H3 fun y H4 => ∃ acc, H4 D = some (.lst acc) ∧ acc.length < sizeLine ∧ Nx (upd H4 D (.lst (acc ++ [y]))) else Nx H3) := by
  refine ⟨fun i m H => m = z.cps.size - i ∧ i ≤ z.cps.size ∧ Pv i H, ⟨z.cps.size, by simp, Nat.zero_le _, h0⟩, ?_⟩
  rintro i m H ⟨rfl, hi, p⟩
  by_cases hlt : i < z.cps.size
  · refine .inr ⟨hlt, Pv (i + 1), fun H' p' => ⟨z.cps.size - (i + 1), by omega, rfl, hlt, p'⟩, fun x H' y => ?_⟩
    obtain ⟨T, c, rfl, hT, rfl, hc⟩ := y
    exact hs i c T _ hc p hT
  · have e : i = z.cps.size := by omega
    subst e
    exact .inl ⟨Nat.le_refl _, hd H p⟩
/-- [.. for i, sign in enumerate(text) if ..] -/
theorem fm_enumS {Qd : Addr → Hp → Prop} {P : Nat × Nat → Bool} {F : Nat × Nat → V} {as : List (Nat × Nat)} (s : Sat Z L H) (has : as.length = z.cps.size) (hz : ∀ (i c : Nat), z.cps[i]? = some c → as[i]? = some (i, c))
    (hs : ∀ (D : Addr) (i c : Nat) (T : Addr) (H' : Hp), as[i]? = some (i, c) → Sat Z (⟨T, Pt (.tup [.int (i : Nat), .str ⟨#[c]⟩])⟩ :: ⟨D, Pt (.lst (((as.take i).filter P).map F))⟩ :: L) H' → g (.ref T) (wipe σ vs) H' fun σ2 H2 => wipe σ2 vs = wipe σ vs ∧ tt σ2 H2 fun b H3 =>
      if b = true then te σ2 H3 fun y H4 => ∃ acc, H4 D = some (.lst acc) ∧ acc.length < sizeLine ∧ Fm Z L as P F D (i + 1) (upd H4 D (.lst (acc ++ [y]))) else Fm Z L as P F D (i + 1) H3)
    (hd : ∀ D H', Fm Z L as P F D as.length H' → Qd D H') :
    ∃ x, [V.str z] = [.str x] ∧ ∀ D, H D = none → ∃ W : Nat → Nat → Hp → Prop, (∃ m, W 0 m (upd H D (.lst []))) ∧ ∀ i m H, W i m H →
  ((NTE.Ites x).stop i H ∧ Qd D H) ∨ ((NTE.Ites x).go i H ∧ ∃ Nx : Hp → Prop, (∀ H', Nx H' → ∃ m', m' < m ∧ W (i + 1) m' H') ∧ ∀ y H', (NTE.Ites x).yld i H y H' → g y (wipe σ vs) H' fun σ2 H2 => wipe σ2 vs = wipe σ vs ∧ tt σ2 H2 fun b H3 =>
    if b = true then te σ2 H3 fun y H4 => ∃ acc, H4 D = some (.lst acc) ∧ acc.length < sizeLine ∧ Nx (upd H4 D (.lst (acc ++ [y]))) else Nx H3) := by
  refine ⟨z, rfl, fun D hD => lc_enumS (Qd := Qd D) (fun i H' => Fm Z L as P F D i H') ⟨s.new hD (fun _ z => by cases z)⟩ ?_ ?_⟩
  · rintro i c T H' hc ⟨s'⟩ hT
    exact hs D i c T _ (hz i c hc) (s'.new hT (fun _ z => by cases z))
  · intro H' h
    exact hd D H' (by rw [has]; exact h)
end
end NN
namespace NN
open PySem L2
local macro_rules | `(tactic| walk_at "nl") => `(tactic| first | with_reducible assumption | omega | (simp only [List.length_map, List.length_cons, List.length_nil, List.length_append, List.length_reverse, List.length_take, List.length_drop] <;> omega) | decide)
local macro_rules | `(tactic| walk_at "ar") => `(tactic| first | omega | (simp only [List.length_cons, List.length_nil] <;> omega) | (simp only [List.length_cons, List.length_nil, List.length_append, List.length_map, List.length_set, List.length_take, List.length_drop, List.length_reverse] <;> omega) | decide)
local macro_rules | `(tactic| walk_at "cond") => `(tactic| first | assumption | exact c_mulB | (exact c_mulL (by walk_at "nl") (by walk_at "nl")) | (exact c_mulR (by walk_at "nl") (by walk_at "nl")) | (exact c_divW (by walk_at "nl") (by walk_at "nl")) | (exact c_pow (by walk_at "nl") (by walk_at "nl") (by walk_at "nl")) | walk_at "nl")
local macro_rules | `(tactic| walk_at "sz") => `(tactic| first | exact sz_small (by simp only [List.length_cons, List.length_nil]; decide) | exact sz_small (by decide) | exact sz_small (by walk_at "ar"))
local macro_rules | `(tactic| walk_at "sl") => `(tactic| first | exact sz_less (by walk_at "ar"))
local macro_rules | `(tactic| walk_at "at") => `(tactic| first | assumption | exact at_0 | exact at_1 | exact at_2 | exact at_3 | exact at_4 | exact at_5 | exact at_6 | exact at_7 | exact at_8 | exact at_9 | exact at_10 | exact at_11 | exact at_12 | exact at_13 | exact at_14 | exact at_15 | exact atI_nat (by assumption))
local macro_rules | `(tactic| walk_at "flat") => `(tactic| first | exact ints_flat _ | rfl | assumption | decide)
local macro_rules | `(tactic| walk_at "ixn") => `(tactic| first | with_unfolding_all rfl | exact ixN_lit (j := 0) rfl (by walk_at "ar") | exact ixN_nat (by walk_at "ar"))
local macro_rules | `(tactic| walk_at "sat") => `(tactic| first | assumption | exact SatI.ent (by assumption))
local macro_rules | `(tactic| walk_at "hat") => `(tactic| first | with_reducible assumption | exact SatI.at (by assumption))
local macro_rules | `(tactic| walk_at "lt") => `(tactic| first | decide | (simp only [List.length_cons, List.length_nil]; decide))
local macro_rules | `(tactic| walk_at "putf") => `(tactic| (simp (decide := true) only [putF, if_true, if_false]) <;> rfl)
local macro_rules | `(tactic| walk_at "lkr") => `(tactic| exact fun _ _ _ _ => rfl)
local macro_rules | `(tactic| walk_at "ok") => `(tactic| first | assumption | decide +kernel)
local macro_rules | `(tactic| walk_at "lkk") => `(tactic| exact fun _ => rfl)
local macro_rules | `(tactic| walk_at "lkf") => `(tactic| exact fun _ _ => rfl)
local macro_rules | `(tactic| walk_at "dval") => `(tactic| first | assumption | rfl)
local macro_rules | `(tactic| walk_at "fm") => `(tactic| first | exact fm_yes (by assumption) (by first | rfl | assumption) rfl (by assumption) inferInstance (by walk_at "ar") | exact fm_no (by assumption) (by first | rfl | assumption) (by assumption) inferInstance)
local macro_rules | `(tactic| walk_at "call") => `(tactic| fail)
local macro_rules | `(tactic| walk_at "call2") => `(tactic| fail)
local macro_rules | `(tactic| walk_at "go1") => `(tactic| first | ((with_reducible refine Stp.imp ?_)) | (((with_reducible refine' g_eqc ?h0 ?_); (case h0 => rfl))) | (((with_reducible refine' g_I ?h0 ?_); (case h0 => walk_at "cond"))) | (((with_reducible refine' g_eq ?h0 ?_); (case h0 => with_unfolding_all rfl))) | (((with_reducible refine' g_ne ?h0 ?_); (case h0 => with_unfolding_all rfl))) | (((with_reducible refine' g_sz ?h0 ?_); (case h0 => walk_at "sz"); intro p hp; generalize hg : upd _ p _ = H2; (first | have hs := sat_newLI hg hp (by with_reducible assumption) inferInstance | have hs := sat_newL hg hp (by with_reducible assumption) | have hs := sat_newT hg hp (by with_reducible assumption)); clear hg hp)) | (((with_reducible refine' s_lenI ?h0 ?h1 ?h2 ?h3 ?_); (case h0 => with_reducible assumption); (case h1 => infer_instance); (case h2 => infer_instance); (case h3 => infer_instance))) | (((with_reducible refine' s_lenL ?h0 ?h1 ?h2 ?_); (case h0 => with_reducible assumption); (case h1 => infer_instance); (case h2 => infer_instance))) | (((with_reducible refine' s_lenT ?h0 ?h1 ?_); (case h0 => with_reducible assumption); (case h1 => infer_instance))) | (((with_reducible refine' s_listL ?h0 ?h1 ?h2 ?_); (case h0 => with_reducible assumption); (case h1 => infer_instance); (case h2 => infer_instance); intro _ _ _)) | (((with_reducible refine' s_listT ?h0 ?h1 ?_); (case h0 => with_reducible assumption); (case h1 => infer_instance); intro _ _ _)) | (((with_reducible refine' s_slTo ?h0 ?h1 ?h2 ?h3 ?h4 ?_); (case h0 => with_reducible assumption); (case h1 => infer_instance); (case h2 => infer_instance); (case h3 => infer_instance); (case h4 => walk_at "nl"); intro _ _ _)) | (((with_reducible refine' s_slFrom ?h0 ?h1 ?h2 ?h3 ?h4 ?_); (case h0 => with_reducible assumption); (case h1 => infer_instance); (case h2 => infer_instance); (case h3 => infer_instance); (case h4 => walk_at "nl"); intro _ _ _)) | (((with_reducible refine' s_slLast ?h0 ?h1 ?h2 ?h3 ?_); (case h0 => with_reducible assumption); (case h1 => infer_instance); (case h2 => infer_instance); (case h3 => infer_instance); intro _ _ _)) | (((with_reducible refine' s_slMid ?h0 ?h1 ?h2 ?h3 ?h4 ?h5 ?_); (case h0 => with_reducible assumption); (case h1 => infer_instance); (case h2 => infer_instance); (case h3 => infer_instance); (case h4 => walk_at "nl"); (case h5 => walk_at "nl"); intro _ _ _)) | (((with_reducible refine' s_sum ?h0 ?h1 ?h2 ?h3 ?_); (case h0 => with_reducible assumption); (case h1 => infer_instance); (case h2 => infer_instance); (case h3 => infer_instance))) | (((with_reducible refine' s_slL ?h0 ?h1 ?h2 ?_); (case h0 => with_reducible assumption); (case h1 => infer_instance); (case h2 => infer_instance); intro _ _ _)) | (((with_reducible refine' s_ixL ?h0 ?h1 ?h2 ?h3 ?_); (case h0 => with_reducible assumption); (case h1 => infer_instance); (case h2 => infer_instance); (case h3 => walk_at "at"))) | (((with_reducible refine' s_ixLast ?h0 ?h1 ?h2 ?h3 ?h4 ?_); (case h0 => with_reducible assumption); (case h1 => infer_instance); (case h2 => infer_instance); (case h3 => infer_instance); (case h4 => assumption))) | (((with_reducible refine' s_ixIn ?h0 ?h1 ?h2 ?h3 ?h4 ?h5 ?_); (case h0 => with_reducible assumption); (case h1 => infer_instance); (case h2 => infer_instance); (case h3 => infer_instance); (case h4 => walk_at "nl"); (case h5 => walk_at "nl"); intro n hn; (try simp only [List.mem_cons, List.not_mem_nil, or_false] at hn))) | (((with_reducible refine' s_ixT ?h0 ?h1 ?h2 ?_); (case h0 => with_reducible assumption); (case h1 => infer_instance); (case h2 => walk_at "at"))) | (((with_reducible refine' s_inI ?h0 ?h1 ?h2 ?h3 ?_); (case h0 => with_reducible assumption); (case h1 => infer_instance); (case h2 => infer_instance); (case h3 => infer_instance))) | (((with_reducible refine' s_ninI ?h0 ?h1 ?h2 ?h3 ?_); (case h0 => with_reducible assumption); (case h1 => infer_instance); (case h2 => infer_instance); (case h3 => infer_instance))) | (((with_reducible refine' s_in ?h0 ?h1 ?h2 ?h3 ?h4 ?_); (case h0 => with_reducible assumption); (case h1 => infer_instance); (case h2 => infer_instance); (case h3 => with_unfolding_all rfl); (case h4 => walk_at "flat"))) | (((with_reducible refine' s_setLI ?h0 ?h1 ?h2 ?h3 ?_); (case h0 => with_reducible assumption); (case h1 => infer_instance); (case h2 => infer_instance); (case h3 => walk_at "ixn"); intro _ _)) | (((with_reducible refine' s_setL ?h0 ?h1 ?h2 ?_); (case h0 => with_reducible assumption); (case h1 => infer_instance); (case h2 => with_unfolding_all rfl); intro _ _)) | (((with_reducible refine' s_appendI ?h0 ?h1 ?h2 ?h3 ?_); (case h0 => with_reducible assumption); (case h1 => infer_instance); (case h2 => infer_instance); (case h3 => walk_at "sl"); intro _ _)) | (((with_reducible refine' s_append ?h0 ?h1 ?h2 ?_); (case h0 => with_reducible assumption); (case h1 => infer_instance); (case h2 => walk_at "sl"); intro _ _)) | (((with_reducible refine' s_tyL ?h0 ?h1 ?h2 ?_); (case h0 => with_reducible assumption); (case h1 => infer_instance); (case h2 => infer_instance))) | (((with_reducible refine' s_catI ?h0 ?h1 ?h2 ?h3 ?h4 ?h5 ?_); (case h0 => with_reducible assumption); (case h1 => infer_instance); (case h2 => infer_instance); (case h3 => infer_instance); (case h4 => infer_instance); (case h5 => walk_at "sz"); intro _ _ _)) | (((with_reducible refine' s_cat ?h0 ?h1 ?h2 ?h3 ?_); (case h0 => with_reducible assumption); (case h1 => infer_instance); (case h2 => infer_instance); (case h3 => walk_at "sz"); intro _ _ _)) | (((with_reducible refine' s_sorted ?h0 ?h1 ?h2 ?h3 ?_); (case h0 => with_reducible assumption); (case h1 => infer_instance); (case h2 => infer_instance); (case h3 => infer_instance); intro _ _ _)) | (((with_reducible refine' s_eqL ?h0 ?h1 ?h2 ?h3 ?h4 ?h5 ?h6 ?_); (case h0 => with_reducible assumption); (case h1 => infer_instance); (case h2 => infer_instance); (case h3 => infer_instance); (case h4 => infer_instance); (case h5 => infer_instance); (case h6 => infer_instance))) | (((with_reducible refine' s_neL ?h0 ?h1 ?h2 ?h3 ?h4 ?h5 ?h6 ?_); (case h0 => with_reducible assumption); (case h1 => infer_instance); (case h2 => infer_instance); (case h3 => infer_instance); (case h4 => infer_instance); (case h5 => infer_instance); (case h6 => infer_instance))) | (((with_reducible refine' s_isLL ?h0 ?h1 ?_); (case h0 => with_reducible assumption); (case h1 => infer_instance))) | (((with_reducible refine' s_revI ?h0 ?h1 ?h2 ?h3 ?_); (case h0 => with_reducible assumption); (case h1 => infer_instance); (case h2 => infer_instance); (case h3 => infer_instance); intro _ _ _)) | (((with_reducible refine' s_revL ?h0 ?h1 ?h2 ?_); (case h0 => with_reducible assumption); (case h1 => infer_instance); (case h2 => infer_instance); intro _ _ _)) | (((with_reducible refine' s_insertI ?h0 ?h1 ?h2 ?h3 ?h4 ?h5 ?_); (case h0 => with_reducible assumption); (case h1 => infer_instance); (case h2 => infer_instance); (case h3 => walk_at "sl"); (case h4 => walk_at "nl"); (case h5 => walk_at "nl"); intro _ _)) | (((with_reducible refine' s_all ?h0 ?h1 ?_); (case h0 => with_reducible assumption); (case h1 => infer_instance))) | (((with_reducible refine' s_any ?h0 ?h1 ?_); (case h0 => with_reducible assumption); (case h1 => infer_instance))) | (((with_reducible refine' s_idx ?h0 ?h1 ?h2 ?h3 ?h4 ?_); (case h0 => with_reducible assumption); (case h1 => infer_instance); (case h2 => infer_instance); (case h3 => infer_instance); (case h4 => assumption))) | (((with_reducible refine' g_fld ?h0 ?h1 ?h2 ?h3 ?_); (case h0 => walk_at "hat"); (case h1 => with_reducible assumption); (case h2 => with_reducible assumption); (case h3 => with_unfolding_all rfl))) | (((with_reducible refine' s_sfld ?h0 ?h1 ?h2 ?h3 ?h4 ?h5 ?h6 ?_); (case h0 => with_reducible assumption); (case h1 => infer_instance); (case h2 => with_reducible assumption); (case h3 => with_reducible assumption); (case h4 => with_reducible assumption); (case h5 => walk_at "lt"); (case h6 => walk_at "putf"); intro _ _)) | (((with_reducible refine' s_ins ?h0 ?h1 ?h2 ?_); (case h0 => with_reducible assumption); (case h1 => infer_instance); (case h2 => with_unfolding_all rfl))) | (((with_reducible refine' s_dget ?h0 ?h1 ?h2 ?h3 ?_); (case h0 => with_reducible assumption); (case h1 => infer_instance); (case h2 => infer_instance); (case h3 => walk_at "dval"))) | (((with_reducible refine' s_din ?h0 ?h1 ?h2 ?_); (case h0 => with_reducible assumption); (case h1 => infer_instance); (case h2 => infer_instance))) | (((with_reducible refine' s_dnotin ?h0 ?h1 ?h2 ?_); (case h0 => with_reducible assumption); (case h1 => infer_instance); (case h2 => infer_instance))) | (((with_reducible refine' s_dput ?h0 ?h1 ?h2 ?h3 ?_); (case h0 => with_reducible assumption); (case h1 => infer_instance); (case h2 => infer_instance); (case h3 => walk_at "sl"); intro _ _)) | ((intro p hp; generalize hg : upd _ p (HO.dK []) = H2; have hs := sat_newD hg hp (by with_reducible assumption); clear hg hp)) | (((with_reducible refine' s_divmod ?h0 ?h1 ?h2 ?_); (case h0 => with_reducible assumption); (case h1 => walk_at "nl"); (case h2 => walk_at "nl"); intro _ _ _)) | (((with_reducible refine' s_gtup ?h0 ?h1 ?h2 ?_); (case h0 => with_reducible assumption); (case h1 => infer_instance); (case h2 => with_unfolding_all rfl))) | walk_at "call" | walk_at "call2")
local macro_rules | `(tactic| walk_at "go") => `(tactic| (repeat walk_at "go1"); (try dsimp only))
local macro_rules | `(tactic| walk_at "on") => `(tactic| (with_reducible refine g_seq ?_); walk_at "go")
local macro_rules | `(tactic| walk_at "ifs") => `(tactic| ((try simp only [List.length_map]) <;> (repeat' split) <;> omega))
local macro_rules | `(tactic| walk_at "spa") => `(tactic| first | assumption | exact sat_spH (by assumption) inferInstance)
local macro_rules | `(tactic| walk_at "th") => `(tactic| first | exact Th.int | exact Th.bl | exact Th.non | exact Th.str | assumption | exact Th.lst (SatI.at (by assumption)) | exact Th.tup (SatI.at (by assumption)) | exact Th.dK (SatI.at (by assumption)))
local macro_rules | `(tactic| walk_at "call2") => `(tactic| first
  | ((with_reducible refine' use_whole ?e ?h0 ?_); (case e => rfl); (case h0 => walk_at "th"))
  | ((with_reducible refine' use_make ?e ?h0 ?h1 ?h2 ?_); (case e => exact fun _ => rfl); (case h0 => assumption); (case h1 => walk_at "nl"); (case h2 => walk_at "nl"); intro _ _ _)
  | ((with_reducible refine' use_bits ?e ?h0 ?_); (case e => rfl); (case h0 => walk_at "spa"))
  | ((with_reducible refine' use_size ?e ?h0 ?_); (case e => rfl); (case h0 => walk_at "spa"))
  | ((with_reducible refine' use_has ?e ?h0 ?h1 ?_); (case e => rfl); (case h0 => walk_at "spa"); (case h1 => walk_at "th"))
  | ((with_reducible refine' use_distance ?e ?h0 ?_); (case e => rfl); (case h0 => walk_at "spa"))
  | ((with_reducible refine' use_between ?e ?h0 ?_); (case e => rfl); (case h0 => walk_at "spa"))
  | ((with_reducible refine' use_nearest ?e ?h0 ?h1 ?h2 ?h3 ?h4 ?_); (case e => rfl); (case h0 => walk_at "spa"); (case h1 => assumption); (case h2 => infer_instance); (case h3 => infer_instance); (case h4 => walk_at "nl"); intro _ _ _ _)
  | ((with_reducible refine' use_preceding ?e ?h0 ?h1 ?h2 ?h3 ?h4 ?_); (case e => rfl); (case h0 => walk_at "spa"); (case h1 => assumption); (case h2 => infer_instance); (case h3 => infer_instance); (case h4 => walk_at "nl"); intro _ _ _ _)
  | ((with_reducible refine' s_insS ?h0 ?h1 ?h2 ?_); (case h0 => assumption); (case h1 => infer_instance); (case h2 => rfl))
  | ((with_reducible refine' h_insS ?h0 ?h2 ?_); (case h0 => assumption); (case h2 => rfl)))
def wd (b : Nat) : Nat := (b + 3) / 4
def goodT (b : Nat) (l : List Nat) : Prop := l.length = wd b ∧ (∀ c ∈ l, c ∈ figL) ∧ val l < 2 ^ b
theorem str_cons {c : Nat} {l : List Nat} : ((⟨#[c]⟩ : Str) ++ (⟨l.toArray⟩ : Str)) = ⟨(c :: l).toArray⟩ := by
  show Str.mk (#[c] ++ l.toArray) = _
  congr 1
  simp
theorem atI_dig {d : Int} (h : 0 ≤ d ∧ d < 16) : atI figL d = some (dig d) := by
  have e : d = ((d.toNat : Nat) : Int) := by omega
  rw [e]
  refine atI_nat ?_
  unfold dig
  have hl : d.toNat < figL.length := by show d.toNat < 16; omega
  rw [Int.toNat_natCast, List.getD_eq_getElem?_getD, List.getElem?_eq_getElem hl]
  rfl
section
variable {K : PySem.W.Frag} {Z : Ad} {L R R1 R2 : List Atom} {H : Hp} {Q : VK} {E : XK} {vs : List V} {a : Addr} {b : Nat} {v : V}
def sp_Space_width (_ : PySem.W.Frag) (Z : Ad) : Sp := fun vs H Q _ => ∃ (a : Addr) (b : Nat), vs = [.ref a] ∧ SpH Z H a b ∧ Q (.int (wd b : Nat)) H
theorem use_width (e : vs = [.ref a]) (s : Sat Z L H) (f : Fnd L a (SpA Z b) R) (q : Q (.int (wd b : Nat)) H) : sp_Space_width K Z vs H Q E := ⟨a, b, e, sat_spH s f, q⟩
def sp_Space_text (_ : PySem.W.Frag) (Z : Ad) : Sp := fun vs H Q _ => ∃ (a : Addr) (b : Nat) (p : Int) (R : List Atom), vs = [.ref a, .int p] ∧ Sat Z (⟨a, SpA Z b⟩ :: R) H ∧ 0 ≤ p ∧ ∀ H', Sat Z (⟨a, SpA Z b⟩ :: R) H' → Q (.str ⟨(hx p (wd b)).toArray⟩) H'
theorem use_text {p : Int} (e : vs = [.ref a, .int p]) (s : Sat Z L H) (f : Fnd L a (SpA Z b) R) (h0 : 0 ≤ p) (q : ∀ H', Sat Z (⟨a, SpA Z b⟩ :: R) H' → Q (.str ⟨(hx p (wd b)).toArray⟩) H') : sp_Space_text K Z vs H Q E := ⟨a, b, p, R, e, s.fnd, h0, q⟩
def sp_Space_read (_ : PySem.W.Frag) (Z : Ad) : Sp := fun vs H Q E => ∃ (a : Addr) (b : Nat) (v : V) (R : List Atom), vs = [.ref a, v] ∧ Sat Z (⟨a, SpA Z b⟩ :: R) H ∧ Th H v ∧ (∀ z, v = .str z → z.length ≤ 1000) ∧
  (∀ l H', v = .str ⟨l.toArray⟩ → goodT b l → Sat Z (⟨a, SpA Z b⟩ :: R) H' → Q (.int (val l)) H') ∧ (∀ H', (¬ ∃ l : List Nat, v = .str ⟨l.toArray⟩ ∧ goodT b l) → Sat Z (⟨a, SpA Z b⟩ :: R) H' → E (.ref Z.NoPoint) none H')
theorem use_read {l : List Nat} (e : vs = [.ref a, .str ⟨l.toArray⟩]) (s : Sat Z L H) (f : Fnd L a (SpA Z b) R) (g : goodT b l) (q : ∀ H', Sat Z (⟨a, SpA Z b⟩ :: R) H' → Q (.int (val l)) H') : sp_Space_read K Z vs H Q E := by
  have hb := (sat_spH s f).hi
  have hl : l.length ≤ 1000 := by rw [g.1]; unfold wd; omega
  refine ⟨a, b, _, R, e, s.fnd, .str, fun z h => ?_, fun l' H' h g' s' => ?_, fun H' h => absurd ⟨l, rfl, g⟩ h⟩
  · cases h
    show l.toArray.size ≤ 1000
    rw [List.size_toArray]; exact hl
  · cases h
    exact q H' s'
theorem hx_good {p : Int} (h : 0 ≤ p ∧ p < 2 ^ b) : goodT b (hx p (wd b)) ∧ val (hx p (wd b)) = p := by
  have e : val (hx p (wd b)) = p := by
    rw [val_hx h.1]
    refine Int.emod_eq_of_lt h.1 (Int.lt_of_lt_of_le h.2 ?_)
    rw [show (16 : Int) = 2 ^ 4 from rfl, ← Int.pow_mul]
    have hp : b ≤ 4 * wd b := by unfold wd; omega
    exact_mod_cast Nat.pow_le_pow_right (show 0 < 2 by decide) hp
  exact ⟨⟨hx_len _, fun c hc => hx_mem hc, by rw [e]; exact h.2⟩, e⟩
end
local macro_rules | `(tactic| walk_at "call2") => `(tactic| first
  | ((with_reducible refine' use_width ?e ?h0 ?h1 ?_); (case e => rfl); (case h0 => assumption); (case h1 => infer_instance))
  | ((with_reducible refine' use_text ?e ?h0 ?h1 ?h2 ?_); (case e => rfl); (case h0 => assumption); (case h1 => infer_instance); (case h2 => walk_at "nl"); intro _ _))
def t_Space_width (K : PySem.W.Frag) (Z : Ad) : TS :=
  (tRet (tOp rDivW (tOp rSub0 (tOp rAdd0 (tFld K (tVar 0) "own_bits") (tC (.int 4))) (tC (.int 1))) (tC (.int 4))))
theorem rd_Space_width (K : PySem.W.Frag) (Z : Ad) (C : CSp K Z) : ∀ vs H Q E, sp_Space_width K Z vs H Q E → t_Space_width K Z { nx := fun _ H' => Q .non H', rt := Q } (start (["self"]) vs) H := by
  rintro _ H Q E ⟨a, b, rfl, ⟨dx, e, h1, h2⟩, q⟩
  show t_Space_width K Z _ [some (.ref a)] H
  unfold t_Space_width
  walk_at "go"
  refine g_fld e C.cl C.na rfl ?_
  walk_at "go"
  have e1 : ((b : Int) + 4 - 1) / 4 = ((wd b : Nat) : Int) := by unfold wd; omega
  rw [e1]
  exact q
def t_Space_text (K : PySem.W.Frag) (Z : Ad) : TS :=
  (tSeq (tAsg (tC (.str "")) (gName 2))
  (tSeq (tAsg (tVar 1) (gName 3))
  (tSeq (tFor (iRng1 (tCons (tMe Z.Space "width" (sp_Space_width K Z) [.pos 0] [] [] 1 0 (fun _ => E0) (tVar 0) tNil tNil) tNil)) (gName 4) (tSeq (tAsg (tCB rDivMod (tCons (tVar 3) (tCons (tCB rLenStr (tCons (tC (.str "0123456789abcdef")) tNil)) tNil))) (gTup K 2 (gCons (gName 3) (gCons (gName 5) gNil))))
  (tAsg (tOp rAddStr (tOp rIxS (tC (.str "0123456789abcdef")) (tVar 5)) (tVar 2)) (gName 2))))
  (tRet (tVar 2)))))
theorem rd_Space_text (K : PySem.W.Frag) (Z : Ad) : ∀ vs H Q E, sp_Space_text K Z vs H Q E → t_Space_text K Z { nx := fun _ H' => Q .non H', rt := Q } (start (["self", "point", "found", "left", "k", "figure"]) vs) H := by
  rintro _ H Q E ⟨a, b, p, R, rfl, s, h0, q⟩
  have hb := (sat_spH (s := a) s inferInstance).hi
  have hw : wd b ≤ 8 := by unfold wd; omega
  show t_Space_text K Z _ [some (.ref a), some (.int p), none, none, none, none] H
  unfold t_Space_text
  walk_at "go"
  refine sf_rng s (by omega) (fun i σ' L' => ∃ y4 y5, σ' = [some (.ref a), some (.int p), some (.str ⟨(hx p i).toArray⟩), some (.int (p / 16 ^ i)), y4, y5] ∧ L' = ⟨a, SpA Z b⟩ :: R) ?_ ?_ ?_
  · refine ⟨none, none, ?_, rfl⟩
    rw [show p / 16 ^ 0 = p from Int.ediv_one p]
    rfl
  · rintro i σ' L' H1 hi ⟨y4, y5, rfl, rfl⟩ s1
    have hs16 : (Str.ofString "0123456789abcdef").length ≤ sizeLine := by rw [fig_len, sizeLine_eq]; decide
    walk_at "go"
    refine ⟨_, rfl, hs16, ?_⟩
    rw [fig_len]
    walk_at "go"
    have d0 := Int.emod_nonneg (p / 16 ^ i) (show (16 : Int) ≠ 0 by decide)
    have d1 := Int.emod_lt_of_pos (p / 16 ^ i) (show (0 : Int) < 16 by decide)
    refine ⟨_, _, dig (p / 16 ^ i % 16), rfl, rfl, hs16, ?_, ?_⟩
    · rw [fig_list]
      exact atI_dig ⟨d0, d1⟩
    walk_at "go"
    refine ⟨_, _, rfl, rfl, ?_, ?_⟩
    · show 1 + (hx p i).toArray.size ≤ _
      rw [List.size_toArray, hx_len, sizeLine_eq]
      omega
    walk_at "go"
    rename_i t2 H2 s2
    have e1 : ((⟨#[dig (p / 16 ^ i % 16)]⟩ : Str) ++ (⟨(hx p i).toArray⟩ : Str)) = ⟨(hx p (i + 1)).toArray⟩ := str_cons
    have e2 : p / 16 ^ i / ((16 : Nat) : Int) = p / 16 ^ (i + 1) := by
      rw [Int.pow_succ]
      exact Int.ediv_ediv_of_nonneg (Int.le_of_lt (Int.pow_pos (by decide)))
    rw [e1, e2]
    exact ⟨_, ⟨_, _, rfl, rfl⟩, s2.ent⟩
  · rintro σ' L' H1 ⟨y4, y5, rfl, rfl⟩ s1
    walk_at "go"
    rw [Int.toNat_natCast]
    exact q _ s1
def t_Space_read (K : PySem.W.Frag) (Z : Ad) (E : XK) : TS :=
  (tSeq (tIfS (tOr (tNot (tB (tCB (rIsi K) (tCons (tVar 1) (tCons (tC (.ty "str")) tNil))))) (tOr (tTest (tOp rNe (tCB rLenStr (tCons (tVar 1) tNil)) (tMe Z.Space "width" (sp_Space_width K Z) [.pos 0] [] [] 1 0 (fun _ => E0) (tVar 0) tNil tNil))) (tNot (tB (tCB (rAll K) (tCons (tLc (iStr (tVar 1)) (gName 2) tYes (tOp rInS (tVar 2) (tC (.str "0123456789abcdef"))) [2]) tNil)))))) (tRaise E (.ref Z.NoPoint)) tNext)
  (tSeq (tAsg (tC (.int 0)) (gName 3))
  (tSeq (tFor (iStr (tVar 1)) (gName 2) (tAsg (tOp rAdd0 (tOp rMul0 (tVar 3) (tCB rLenStr (tCons (tC (.str "0123456789abcdef")) tNil))) (tBM K "str" rSIndex (tC (.str "0123456789abcdef")) (tCons (tVar 2) tNil))) (gName 3)))
  (tSeq (tIfS (tNot (tB (tMe Z.Space "has" (sp_Space_has K Z) [.pos 0, .pos 1] [] [] 2 0 (fun _ => E0) (tVar 0) (tCons (tVar 3) tNil) tNil))) (tRaise E (.ref Z.NoPoint)) tNext)
  (tRet (tVar 3))))))
theorem rd_Space_read (K : PySem.W.Frag) (Z : Ad) : ∀ vs H Q E, sp_Space_read K Z vs H Q E → t_Space_read K Z E { nx := fun _ H' => Q .non H', rt := Q } (start (["self", "text", "sign", "found"]) vs) H := by
  rintro _ H Q E ⟨a, b, v, R, rfl, s, hv, hz, q1, q2⟩
  show t_Space_read K Z E _ [some (.ref a), some (v), none, none] H
  unfold t_Space_read
  walk_at "on"
  by_cases hstr : ∃ z, v = .str z
  · obtain ⟨⟨⟨l⟩⟩, rfl⟩ := hstr
    have hl : l.length ≤ 1000 := hz _ rfl
    have hs16 : (Str.ofString "0123456789abcdef").length ≤ sizeLine := by rw [fig_len, sizeLine_eq]; decide
    have hw8 : wd b ≤ 8 := by have := (sat_spH (s := a) s inferInstance).hi; unfold wd; omega
    have hls : (⟨l.toArray⟩ : Str).length ≤ sizeLine := by
      show l.toArray.size ≤ _
      rw [List.size_toArray, sizeLine_eq]; omega
    walk_at "go"
    refine ⟨_, rfl, hls, ?_⟩
    have hl2 : (((⟨l.toArray⟩ : Str).length : Nat) : Int) = (l.length : Nat) := by
      show ((l.toArray.size : Nat) : Int) = _
      rw [List.size_toArray]
    rw [hl2]
    walk_at "go"
    refine g_iteN (pr := ((l.length : Nat) : Int) = ((wd b : Nat) : Int)) (fun hc => ?_) fun hc => ?_
    · walk_at "go"
      refine q2 _ (fun ⟨l', h, g⟩ => ?_) s
      cases h
      exact hc (by rw [g.1])
    · walk_at "go"
      refine fm_str s (P := fun _ => true) (F := fun c => .bl (decide (c ∈ figL))) (fun D i c H1 hc1 s1 => ?_) (fin_mp fun D H1 s1 => ?_)
      · dsimp only [wipe, List.set]
        walk_at "go"
        refine s_inS ?_
        rw [fig_list]
        exact fm_yes hc1 rfl rfl s1 inferInstance (by show l.length ≤ 100000; omega)
      · walk_at "go"
        have e : (l.map fun c => V.bl (decide (c ∈ figL))) = (l.map fun c => decide (c ∈ figL)).map V.bl := by rw [List.map_map]; rfl
        have s2 : Sat Z (⟨D, Pt (.lst ((l.map fun c => decide (c ∈ figL)).map V.bl))⟩ :: ⟨a, SpA Z b⟩ :: R) H1 := by rw [← e]; exact s1
        refine s_all s2 inferInstance ?_
        by_cases hall : ∀ c ∈ l, c ∈ figL
        · have ea : (l.map fun c => decide (c ∈ figL)).all id = true := by
            rw [List.all_map]
            exact List.all_eq_true.mpr fun c h => decide_eq_true (hall c h)
          rw [ea]
          have s3 := s2.ent (L' := ⟨a, SpA Z b⟩ :: R)
          walk_at "go"
          walk_at "go"
          refine sf_str s3 (fun i σ' L' => ∃ y2 : Option V, σ' = [some (.ref a), some (.str ⟨l.toArray⟩), y2, some (.int (val (l.take i)))] ∧ L' = ⟨a, SpA Z b⟩ :: R) ⟨_, rfl, rfl⟩ ?_ ?_
          · rintro i c σ' L' H2 hc2 ⟨y2, rfl, rfl⟩ s4
            have hc3 : l[i]? = some c := by rw [← hc2]; simp
            have hm : c ∈ figL := hall c (List.mem_of_getElem? hc3)
            have hi8 := (List.getElem?_eq_some_iff.mp hc3).1
            have hv := val_lt (l := l.take i) fun d hd => hall d (List.mem_of_mem_take hd)
            have hle : (16 : Int) ^ (l.take i).length ≤ 16 ^ 8 := by
              have hk : (l.take i).length ≤ 8 := by rw [List.length_take]; omega
              exact_mod_cast Nat.pow_le_pow_right (show 0 < 16 by decide) hk
            have h168 : (16 : Int) ^ 8 = 4294967296 := rfl
            have hu := und_lt hm
            walk_at "go"
            refine ⟨_, rfl, hs16, ?_⟩
            rw [fig_len]
            walk_at "go"
            refine ⟨rfl, ?_⟩
            walk_at "go"
            refine ⟨_, _, _, [], rfl, rfl, occ_fig hm, ?_⟩
            walk_at "go"
            refine ⟨_, ⟨some (.str ⟨#[c]⟩), ?_, rfl⟩, s4⟩
            rw [List.take_add_one, hc3, Option.toList_some, val_snoc]
            rfl
          · rintro σ' L' H2 ⟨y2, rfl, rfl⟩ s4
            rw [show l.take (⟨l⟩ : Array Nat).size = l from List.take_of_length_le (Nat.le_refl _)]
            walk_at "on"
            have hv0 := (val_lt hall).1
            by_cases hlt : val l < 2 ^ b
            · have ei : inB 0 (2 ^ b) (.int (val l)) = true := inB_T ⟨hv0, hlt⟩
              rw [ei]
              walk_at "go"
              exact q1 l _ rfl ⟨by omega, hall, hlt⟩ s4
            · have ei : inB 0 (2 ^ b) (.int (val l)) = false := by
                show (decide (0 ≤ val l) && decide (val l < 2 ^ b)) = false
                rw [decide_eq_false hlt, Bool.and_false]
              rw [ei]
              walk_at "go"
              refine q2 _ (fun ⟨l', h, g⟩ => ?_) s4
              cases h
              exact hlt g.2.2
        · have ea : (l.map fun c => decide (c ∈ figL)).all id = false := by
            rw [Bool.eq_false_iff]
            intro h
            rw [List.all_map] at h
            exact hall fun c hc => of_decide_eq_true (List.all_eq_true.mp h c hc)
          rw [ea]
          walk_at "go"
          refine q2 _ (fun ⟨l', h, g⟩ => ?_) s2.ent
          cases h
          exact hall g.2.1
  · have hn : ∀ z, v ≠ .str z := fun z h => hstr ⟨z, h⟩
    rcases hv with ⟨i, rfl⟩ | ⟨c, rfl⟩ | h | ⟨s, rfl⟩ | ⟨a, rfl, ⟨xs, h⟩ | ⟨xs, h⟩ | ⟨kv, h⟩⟩
    · refine isi (b := false) (.base (.int _)) (by decide +kernel) ?_
      walk_at "go"
      exact q2 _ (fun ⟨l, h, _⟩ => hn _ h) s
    · refine isi (b := false) (.base (.bl _)) (by decide +kernel) ?_
      walk_at "go"
      exact q2 _ (fun ⟨l, h, _⟩ => hn _ h) s
    · subst h
      refine isi (b := false) (.base .non) (by decide +kernel) ?_
      walk_at "go"
      exact q2 _ (fun ⟨l, h, _⟩ => hn _ h) s
    · exact absurd rfl (hn _)
    · refine isi (b := false) (.base (.lst h)) (by decide +kernel) ?_
      walk_at "go"
      exact q2 _ (fun ⟨l, h, _⟩ => hn _ h) s
    · refine isi (b := false) (.base (.tup h)) (by decide +kernel) ?_
      walk_at "go"
      exact q2 _ (fun ⟨l, h, _⟩ => hn _ h) s
    · refine isi (b := false) (.base (.dK h)) (by decide +kernel) ?_
      walk_at "go"
      exact q2 _ (fun ⟨l, h, _⟩ => hn _ h) s
end NN
namespace NN
open PySem L2
local macro_rules | `(tactic| walk_at "nl") => `(tactic| first | with_reducible assumption | omega | (simp only [List.length_map, List.length_cons, List.length_nil, List.length_append, List.length_reverse, List.length_take, List.length_drop] <;> omega) | decide)
local macro_rules | `(tactic| walk_at "ar") => `(tactic| first | omega | (simp only [List.length_cons, List.length_nil] <;> omega) | (simp only [List.length_cons, List.length_nil, List.length_append, List.length_map, List.length_set, List.length_take, List.length_drop, List.length_reverse] <;> omega) | decide)
local macro_rules | `(tactic| walk_at "cond") => `(tactic| first | assumption | exact c_mulB | (exact c_mulL (by walk_at "nl") (by walk_at "nl")) | (exact c_mulR (by walk_at "nl") (by walk_at "nl")) | (exact c_divW (by walk_at "nl") (by walk_at "nl")) | (exact c_pow (by walk_at "nl") (by walk_at "nl") (by walk_at "nl")) | walk_at "nl")
local macro_rules | `(tactic| walk_at "sz") => `(tactic| first | exact sz_small (by simp only [List.length_cons, List.length_nil]; decide) | exact sz_small (by decide) | exact sz_small (by walk_at "ar"))
local macro_rules | `(tactic| walk_at "sl") => `(tactic| first | exact sz_less (by walk_at "ar"))
local macro_rules | `(tactic| walk_at "at") => `(tactic| first | assumption | exact at_0 | exact at_1 | exact at_2 | exact at_3 | exact at_4 | exact at_5 | exact at_6 | exact at_7 | exact at_8 | exact at_9 | exact at_10 | exact at_11 | exact at_12 | exact at_13 | exact at_14 | exact at_15 | exact atI_nat (by assumption))
local macro_rules | `(tactic| walk_at "flat") => `(tactic| first | exact ints_flat _ | rfl | assumption | decide)
local macro_rules | `(tactic| walk_at "ixn") => `(tactic| first | with_unfolding_all rfl | exact ixN_lit (j := 0) rfl (by walk_at "ar") | exact ixN_nat (by walk_at "ar"))
local macro_rules | `(tactic| walk_at "sat") => `(tactic| first | assumption | exact SatI.ent (by assumption))
local macro_rules | `(tactic| walk_at "hat") => `(tactic| first | with_reducible assumption | exact SatI.at (by assumption))
local macro_rules | `(tactic| walk_at "lt") => `(tactic| first | decide | (simp only [List.length_cons, List.length_nil]; decide))
local macro_rules | `(tactic| walk_at "putf") => `(tactic| (simp (decide := true) only [putF, if_true, if_false]) <;> rfl)
local macro_rules | `(tactic| walk_at "lkr") => `(tactic| exact fun _ _ _ _ => rfl)
local macro_rules | `(tactic| walk_at "ok") => `(tactic| first | assumption | decide +kernel)
local macro_rules | `(tactic| walk_at "lkk") => `(tactic| exact fun _ => rfl)
local macro_rules | `(tactic| walk_at "lkf") => `(tactic| exact fun _ _ => rfl)
local macro_rules | `(tactic| walk_at "dval") => `(tactic| first | assumption | rfl)
local macro_rules | `(tactic| walk_at "fm") => `(tactic| first | exact fm_yes (by assumption) (by first | rfl | assumption) rfl (by assumption) inferInstance (by walk_at "ar") | exact fm_no (by assumption) (by first | rfl | assumption) (by assumption) inferInstance)
local macro_rules | `(tactic| walk_at "call") => `(tactic| fail)
local macro_rules | `(tactic| walk_at "call2") => `(tactic| fail)
local macro_rules | `(tactic| walk_at "go1") => `(tactic| first | ((with_reducible refine Stp.imp ?_)) | (((with_reducible refine' g_eqc ?h0 ?_); (case h0 => rfl))) | (((with_reducible refine' g_I ?h0 ?_); (case h0 => walk_at "cond"))) | (((with_reducible refine' g_eq ?h0 ?_); (case h0 => with_unfolding_all rfl))) | (((with_reducible refine' g_ne ?h0 ?_); (case h0 => with_unfolding_all rfl))) | (((with_reducible refine' g_sz ?h0 ?_); (case h0 => walk_at "sz"); intro p hp; generalize hg : upd _ p _ = H2; (first | have hs := sat_newLI hg hp (by with_reducible assumption) inferInstance | have hs := sat_newL hg hp (by with_reducible assumption) | have hs := sat_newT hg hp (by with_reducible assumption)); clear hg hp)) | (((with_reducible refine' s_lenI ?h0 ?h1 ?h2 ?h3 ?_); (case h0 => with_reducible assumption); (case h1 => infer_instance); (case h2 => infer_instance); (case h3 => infer_instance))) | (((with_reducible refine' s_lenL ?h0 ?h1 ?h2 ?_); (case h0 => with_reducible assumption); (case h1 => infer_instance); (case h2 => infer_instance))) | (((with_reducible refine' s_lenT ?h0 ?h1 ?_); (case h0 => with_reducible assumption); (case h1 => infer_instance))) | (((with_reducible refine' s_listL ?h0 ?h1 ?h2 ?_); (case h0 => with_reducible assumption); (case h1 => infer_instance); (case h2 => infer_instance); intro _ _ _)) | (((with_reducible refine' s_listT ?h0 ?h1 ?_); (case h0 => with_reducible assumption); (case h1 => infer_instance); intro _ _ _)) | (((with_reducible refine' s_slTo ?h0 ?h1 ?h2 ?h3 ?h4 ?_); (case h0 => with_reducible assumption); (case h1 => infer_instance); (case h2 => infer_instance); (case h3 => infer_instance); (case h4 => walk_at "nl"); intro _ _ _)) | (((with_reducible refine' s_slFrom ?h0 ?h1 ?h2 ?h3 ?h4 ?_); (case h0 => with_reducible assumption); (case h1 => infer_instance); (case h2 => infer_instance); (case h3 => infer_instance); (case h4 => walk_at "nl"); intro _ _ _)) | (((with_reducible refine' s_slLast ?h0 ?h1 ?h2 ?h3 ?_); (case h0 => with_reducible assumption); (case h1 => infer_instance); (case h2 => infer_instance); (case h3 => infer_instance); intro _ _ _)) | (((with_reducible refine' s_slMid ?h0 ?h1 ?h2 ?h3 ?h4 ?h5 ?_); (case h0 => with_reducible assumption); (case h1 => infer_instance); (case h2 => infer_instance); (case h3 => infer_instance); (case h4 => walk_at "nl"); (case h5 => walk_at "nl"); intro _ _ _)) | (((with_reducible refine' s_sum ?h0 ?h1 ?h2 ?h3 ?_); (case h0 => with_reducible assumption); (case h1 => infer_instance); (case h2 => infer_instance); (case h3 => infer_instance))) | (((with_reducible refine' s_slL ?h0 ?h1 ?h2 ?_); (case h0 => with_reducible assumption); (case h1 => infer_instance); (case h2 => infer_instance); intro _ _ _)) | (((with_reducible refine' s_ixL ?h0 ?h1 ?h2 ?h3 ?_); (case h0 => with_reducible assumption); (case h1 => infer_instance); (case h2 => infer_instance); (case h3 => walk_at "at"))) | (((with_reducible refine' s_ixLast ?h0 ?h1 ?h2 ?h3 ?h4 ?_); (case h0 => with_reducible assumption); (case h1 => infer_instance); (case h2 => infer_instance); (case h3 => infer_instance); (case h4 => assumption))) | (((with_reducible refine' s_ixIn ?h0 ?h1 ?h2 ?h3 ?h4 ?h5 ?_); (case h0 => with_reducible assumption); (case h1 => infer_instance); (case h2 => infer_instance); (case h3 => infer_instance); (case h4 => walk_at "nl"); (case h5 => walk_at "nl"); intro n hn; (try simp only [List.mem_cons, List.not_mem_nil, or_false] at hn))) | (((with_reducible refine' s_ixT ?h0 ?h1 ?h2 ?_); (case h0 => with_reducible assumption); (case h1 => infer_instance); (case h2 => walk_at "at"))) | (((with_reducible refine' s_inI ?h0 ?h1 ?h2 ?h3 ?_); (case h0 => with_reducible assumption); (case h1 => infer_instance); (case h2 => infer_instance); (case h3 => infer_instance))) | (((with_reducible refine' s_ninI ?h0 ?h1 ?h2 ?h3 ?_); (case h0 => with_reducible assumption); (case h1 => infer_instance); (case h2 => infer_instance); (case h3 => infer_instance))) | (((with_reducible refine' s_in ?h0 ?h1 ?h2 ?h3 ?h4 ?_); (case h0 => with_reducible assumption); (case h1 => infer_instance); (case h2 => infer_instance); (case h3 => with_unfolding_all rfl); (case h4 => walk_at "flat"))) | (((with_reducible refine' s_setLI ?h0 ?h1 ?h2 ?h3 ?_); (case h0 => with_reducible assumption); (case h1 => infer_instance); (case h2 => infer_instance); (case h3 => walk_at "ixn"); intro _ _)) | (((with_reducible refine' s_setL ?h0 ?h1 ?h2 ?_); (case h0 => with_reducible assumption); (case h1 => infer_instance); (case h2 => with_unfolding_all rfl); intro _ _)) | (((with_reducible refine' s_appendI ?h0 ?h1 ?h2 ?h3 ?_); (case h0 => with_reducible assumption); (case h1 => infer_instance); (case h2 => infer_instance); (case h3 => walk_at "sl"); intro _ _)) | (((with_reducible refine' s_append ?h0 ?h1 ?h2 ?_); (case h0 => with_reducible assumption); (case h1 => infer_instance); (case h2 => walk_at "sl"); intro _ _)) | (((with_reducible refine' s_tyL ?h0 ?h1 ?h2 ?_); (case h0 => with_reducible assumption); (case h1 => infer_instance); (case h2 => infer_instance))) | (((with_reducible refine' s_catI ?h0 ?h1 ?h2 ?h3 ?h4 ?h5 ?_); (case h0 => with_reducible assumption); (case h1 => infer_instance); (case h2 => infer_instance); (case h3 => infer_instance); (case h4 => infer_instance); (case h5 => walk_at "sz"); intro _ _ _)) | (((with_reducible refine' s_cat ?h0 ?h1 ?h2 ?h3 ?_); (case h0 => with_reducible assumption); (case h1 => infer_instance); (case h2 => infer_instance); (case h3 => walk_at "sz"); intro _ _ _)) | (((with_reducible refine' s_sorted ?h0 ?h1 ?h2 ?h3 ?_); (case h0 => with_reducible assumption); (case h1 => infer_instance); (case h2 => infer_instance); (case h3 => infer_instance); intro _ _ _)) | (((with_reducible refine' s_eqL ?h0 ?h1 ?h2 ?h3 ?h4 ?h5 ?h6 ?_); (case h0 => with_reducible assumption); (case h1 => infer_instance); (case h2 => infer_instance); (case h3 => infer_instance); (case h4 => infer_instance); (case h5 => infer_instance); (case h6 => infer_instance))) | (((with_reducible refine' s_neL ?h0 ?h1 ?h2 ?h3 ?h4 ?h5 ?h6 ?_); (case h0 => with_reducible assumption); (case h1 => infer_instance); (case h2 => infer_instance); (case h3 => infer_instance); (case h4 => infer_instance); (case h5 => infer_instance); (case h6 => infer_instance))) | (((with_reducible refine' s_isLL ?h0 ?h1 ?_); (case h0 => with_reducible assumption); (case h1 => infer_instance))) | (((with_reducible refine' s_revI ?h0 ?h1 ?h2 ?h3 ?_); (case h0 => with_reducible assumption); (case h1 => infer_instance); (case h2 => infer_instance); (case h3 => infer_instance); intro _ _ _)) | (((with_reducible refine' s_revL ?h0 ?h1 ?h2 ?_); (case h0 => with_reducible assumption); (case h1 => infer_instance); (case h2 => infer_instance); intro _ _ _)) | (((with_reducible refine' s_insertI ?h0 ?h1 ?h2 ?h3 ?h4 ?h5 ?_); (case h0 => with_reducible assumption); (case h1 => infer_instance); (case h2 => infer_instance); (case h3 => walk_at "sl"); (case h4 => walk_at "nl"); (case h5 => walk_at "nl"); intro _ _)) | (((with_reducible refine' s_all ?h0 ?h1 ?_); (case h0 => with_reducible assumption); (case h1 => infer_instance))) | (((with_reducible refine' s_any ?h0 ?h1 ?_); (case h0 => with_reducible assumption); (case h1 => infer_instance))) | (((with_reducible refine' s_idx ?h0 ?h1 ?h2 ?h3 ?h4 ?_); (case h0 => with_reducible assumption); (case h1 => infer_instance); (case h2 => infer_instance); (case h3 => infer_instance); (case h4 => assumption))) | (((with_reducible refine' g_fld ?h0 ?h1 ?h2 ?h3 ?_); (case h0 => walk_at "hat"); (case h1 => with_reducible assumption); (case h2 => with_reducible assumption); (case h3 => with_unfolding_all rfl))) | (((with_reducible refine' s_sfld ?h0 ?h1 ?h2 ?h3 ?h4 ?h5 ?h6 ?_); (case h0 => with_reducible assumption); (case h1 => infer_instance); (case h2 => with_reducible assumption); (case h3 => with_reducible assumption); (case h4 => with_reducible assumption); (case h5 => walk_at "lt"); (case h6 => walk_at "putf"); intro _ _)) | (((with_reducible refine' s_ins ?h0 ?h1 ?h2 ?_); (case h0 => with_reducible assumption); (case h1 => infer_instance); (case h2 => with_unfolding_all rfl))) | (((with_reducible refine' s_dget ?h0 ?h1 ?h2 ?h3 ?_); (case h0 => with_reducible assumption); (case h1 => infer_instance); (case h2 => infer_instance); (case h3 => walk_at "dval"))) | (((with_reducible refine' s_din ?h0 ?h1 ?h2 ?_); (case h0 => with_reducible assumption); (case h1 => infer_instance); (case h2 => infer_instance))) | (((with_reducible refine' s_dnotin ?h0 ?h1 ?h2 ?_); (case h0 => with_reducible assumption); (case h1 => infer_instance); (case h2 => infer_instance))) | (((with_reducible refine' s_dput ?h0 ?h1 ?h2 ?h3 ?_); (case h0 => with_reducible assumption); (case h1 => infer_instance); (case h2 => infer_instance); (case h3 => walk_at "sl"); intro _ _)) | ((intro p hp; generalize hg : upd _ p (HO.dK []) = H2; have hs := sat_newD hg hp (by with_reducible assumption); clear hg hp)) | (((with_reducible refine' s_divmod ?h0 ?h1 ?h2 ?_); (case h0 => with_reducible assumption); (case h1 => walk_at "nl"); (case h2 => walk_at "nl"); intro _ _ _)) | (((with_reducible refine' s_gtup ?h0 ?h1 ?h2 ?_); (case h0 => with_reducible assumption); (case h1 => infer_instance); (case h2 => with_unfolding_all rfl))) | walk_at "call" | walk_at "call2")
local macro_rules | `(tactic| walk_at "go") => `(tactic| (repeat walk_at "go1"); (try dsimp only))
local macro_rules | `(tactic| walk_at "on") => `(tactic| (with_reducible refine g_seq ?_); walk_at "go")
local macro_rules | `(tactic| walk_at "ifs") => `(tactic| ((try simp only [List.length_map]) <;> (repeat' split) <;> omega))
local macro_rules | `(tactic| walk_at "spa") => `(tactic| first | assumption | exact sat_spH (by assumption) inferInstance)
local macro_rules | `(tactic| walk_at "th") => `(tactic| first | exact Th.int | exact Th.bl | exact Th.non | exact Th.str | assumption | exact Th.lst (SatI.at (by assumption)) | exact Th.tup (SatI.at (by assumption)) | exact Th.dK (SatI.at (by assumption)))
local macro_rules | `(tactic| walk_at "call2") => `(tactic| first
  | ((with_reducible refine' use_whole ?e ?h0 ?_); (case e => rfl); (case h0 => walk_at "th"))
  | ((with_reducible refine' use_make ?e ?h0 ?h1 ?h2 ?_); (case e => exact fun _ => rfl); (case h0 => assumption); (case h1 => walk_at "nl"); (case h2 => walk_at "nl"); intro _ _ _)
  | ((with_reducible refine' use_bits ?e ?h0 ?_); (case e => rfl); (case h0 => walk_at "spa"))
  | ((with_reducible refine' use_size ?e ?h0 ?_); (case e => rfl); (case h0 => walk_at "spa"))
  | ((with_reducible refine' use_has ?e ?h0 ?h1 ?_); (case e => rfl); (case h0 => walk_at "spa"); (case h1 => walk_at "th"))
  | ((with_reducible refine' use_distance ?e ?h0 ?_); (case e => rfl); (case h0 => walk_at "spa"))
  | ((with_reducible refine' use_between ?e ?h0 ?_); (case e => rfl); (case h0 => walk_at "spa"))
  | ((with_reducible refine' use_nearest ?e ?h0 ?h1 ?h2 ?h3 ?h4 ?_); (case e => rfl); (case h0 => walk_at "spa"); (case h1 => assumption); (case h2 => infer_instance); (case h3 => infer_instance); (case h4 => walk_at "nl"); intro _ _ _ _)
  | ((with_reducible refine' use_preceding ?e ?h0 ?h1 ?h2 ?h3 ?h4 ?_); (case e => rfl); (case h0 => walk_at "spa"); (case h1 => assumption); (case h2 => infer_instance); (case h3 => infer_instance); (case h4 => walk_at "nl"); intro _ _ _ _)
  | ((with_reducible refine' s_insS ?h0 ?h1 ?h2 ?_); (case h0 => assumption); (case h1 => infer_instance); (case h2 => rfl))
  | ((with_reducible refine' h_insS ?h0 ?h2 ?_); (case h0 => assumption); (case h2 => rfl)))
section
variable {K : PySem.W.Frag} {Z : Ad} {L R : List Atom} {H : Hp} {Q : VK} {E : XK} {vs : List V} {X : Addr → Hp → Prop} {xs : List V} {ns : List Int}
def sp__law_take (_ : PySem.W.Frag) (Z : Ad) : Sp := fun vs H Q _ => ∃ (p : Addr) (n : Int) (R : List Atom), vs = [.ref p, .int n] ∧ Sat Z (⟨p, PotA⟩ :: R) H ∧ 0 < n ∧ n < 2 ^ 200 ∧ ∀ (r : Int) (H' : Hp), 0 ≤ r → r < n → Sat Z (⟨p, PotA⟩ :: R) H' → Q (.int r) H'
theorem use_take {p : Addr} {n : Int} (e : vs = [.ref p, .int n]) (s : Sat Z L H) (f : Fnd L p PotA R) (h0 : 0 < n) (h1 : n < 2 ^ 200) (q : ∀ (r : Int) (H' : Hp), 0 ≤ r → r < n → Sat Z (⟨p, PotA⟩ :: R) H' → Q (.int r) H') : sp__law_take K Z vs H Q E :=
  ⟨p, n, R, e, s.fnd, h0, h1, q⟩
def sp__law_cell (K : PySem.W.Frag) (_ : Ad) : Sp := fun vs H Q _ => ∃ (a : Addr) (ns : List Int) (k : Int), vs = [.ref a, .int k] ∧ SqL K H a (ns.map V.int) ∧ 0 ≤ k ∧ ∀ c : Int, Q (.int c) H
theorem use_cell {a : Addr} {k : Int} (e : vs = [.ref a, .int k]) (s : Sat Z L H) (f : Fnd L a X R) (d : RdL K X xs) (I : IsI xs ns) (h0 : 0 ≤ k) (q : ∀ c : Int, Q (.int c) H) : sp__law_cell K Z vs H Q E := by
  obtain rfl := I.eq
  exact ⟨a, ns, k, e, s.sq, h0, q⟩
def sp__law_pot (K : PySem.W.Frag) (Z : Ad) : Sp := fun vs H Q _ => ∃ (a : Addr) (ns : List Int) (k : Int) (R : List Atom), vs = [.ref a, .int k] ∧ Sat Z (⟨a, RL K (ns.map V.int)⟩ :: R) H ∧ 0 ≤ k ∧ k ≤ 100 ∧ ∀ (p : Addr) (H' : Hp), Sat Z (⟨p, PotA⟩ :: ⟨a, RL K (ns.map V.int)⟩ :: R) H' → Q (.ref p) H'
theorem use_pot {a : Addr} {k : Int} (e : vs = [.ref a, .int k]) (s : Sat Z L H) (f : Fnd L a (RL K (ns.map V.int)) R) (h0 : 0 ≤ k) (h1 : k ≤ 100) (q : ∀ (p : Addr) (H' : Hp), Sat Z (⟨p, PotA⟩ :: ⟨a, RL K (ns.map V.int)⟩ :: R) H' → Q (.ref p) H') : sp__law_pot K Z vs H Q E := ⟨a, ns, k, R, e, s.fnd, h0, h1, q⟩
def sp__law_wide (_ : PySem.W.Frag) (Z : Ad) : Sp := fun vs H Q _ => ∃ (p : Addr) (R : List Atom), vs = [.ref p] ∧ Sat Z (⟨p, PotA⟩ :: R) H ∧ ∀ (r : Int) (H' : Hp), 3 ≤ r → r ≤ 32 → Sat Z (⟨p, PotA⟩ :: R) H' → Q (.int r) H'
theorem use_wide {p : Addr} (e : vs = [.ref p]) (s : Sat Z L H) (f : Fnd L p PotA R) (q : ∀ (r : Int) (H' : Hp), 3 ≤ r → r ≤ 32 → Sat Z (⟨p, PotA⟩ :: R) H' → Q (.int r) H') : sp__law_wide K Z vs H Q E := ⟨p, R, e, s.fnd, q⟩
def sp__law_point (_ : PySem.W.Frag) (Z : Ad) : Sp := fun vs H Q _ => ∃ (p : Addr) (m : Int) (R : List Atom), vs = [.ref p, .int m] ∧ Sat Z (⟨p, PotA⟩ :: R) H ∧ 4 ≤ m ∧ m ≤ 4294967296 ∧ ∀ (r : Int) (H' : Hp), 0 ≤ r → r < m → Sat Z (⟨p, PotA⟩ :: R) H' → Q (.int r) H'
theorem use_point {p : Addr} {m : Int} (e : vs = [.ref p, .int m]) (s : Sat Z L H) (f : Fnd L p PotA R) (h0 : 4 ≤ m) (h1 : m ≤ 4294967296) (q : ∀ (r : Int) (H' : Hp), 0 ≤ r → r < m → Sat Z (⟨p, PotA⟩ :: R) H' → Q (.int r) H') : sp__law_point K Z vs H Q E := ⟨p, m, R, e, s.fnd, h0, h1, q⟩
end
local macro_rules | `(tactic| walk_at "call") => `(tactic| first
  | ((with_reducible refine' use_take ?e ?h0 ?h1 ?h2 ?h3 ?_); (case e => rfl); (case h0 => assumption); (case h1 => infer_instance); (case h2 => walk_at "nl"); (case h3 => walk_at "nl"); intro _ _ _ _ _)
  | ((with_reducible refine' use_cell ?e ?h0 ?h1 ?h2 ?h3 ?h4 ?_); (case e => rfl); (case h0 => assumption); (case h1 => infer_instance); (case h2 => infer_instance); (case h3 => infer_instance); (case h4 => walk_at "nl"); intro _)
  | ((with_reducible refine' use_pot ?e ?h0 ?h1 ?h2 ?h3 ?_); (case e => rfl); (case h0 => assumption); (case h1 => infer_instance); (case h2 => walk_at "nl"); (case h3 => walk_at "nl"); intro _ _ _)
  | ((with_reducible refine' use_wide ?e ?h0 ?h1 ?_); (case e => rfl); (case h0 => assumption); (case h1 => infer_instance); intro _ _ _ _ _)
  | ((with_reducible refine' use_point ?e ?h0 ?h1 ?h2 ?h3 ?_); (case e => rfl); (case h0 => assumption); (case h1 => infer_instance); (case h2 => walk_at "nl"); (case h3 => walk_at "nl"); intro _ _ _ _ _))
def t__law_take (K : PySem.W.Frag) (Z : Ad) : TS :=
  (tSeq (tIfS (tTest (tOp rGt (tOp (rIxL K) (tVar 0) (tC (.int 0))) (tC (.int 0)))) (tSeq (tAsg (tOp rMod0 (tOp (rIxL K) (tVar 0) (tC (.int 0))) (tVar 1)) (gName 2))
  (tSeq (tAsg (tOp rDivW (tOp (rIxL K) (tVar 0) (tC (.int 0))) (tVar 1)) (gSub (tVar 0) (tC (.int 0)) rSetL))
  (tRet (tVar 2)))) tNext)
  (tSeq (tAsg (tOp rMod0 (tOp rAdd0 (tOp rMul0 (tOp (rIxL K) (tVar 0) (tC (.int 1))) (tC (.int 39373))) (tC (.int 8191))) (tC (.int 2147483587))) (gSub (tVar 0) (tC (.int 1)) rSetL))
  (tRet (tOp rMod0 (tOp rDivW (tOp rMod0 (tOp rMul0 (tOp (rIxL K) (tVar 0) (tC (.int 1))) (tOp (rIxL K) (tVar 0) (tC (.int 1)))) (tC (.int 2147483543))) (tC (.int 13))) (tVar 1)))))
theorem rd__law_take (K : PySem.W.Frag) (Z : Ad) : ∀ vs H Q E, sp__law_take K Z vs H Q E → t__law_take K Z { nx := fun _ H' => Q .non H', rt := Q } (start (["_law_pot_here", "_law_room", "_law_digit"]) vs) H := by
  rintro _ H Q E ⟨p, n, R, rfl, s, h0, h1, q⟩
  obtain ⟨x, y, hy0, hy1, s⟩ := pot_open s
  show t__law_take K Z _ [some (.ref p), some (.int n), none] H
  unfold t__law_take
  walk_at "go"
  walk_at "on"
  refine g_ite (fun hx => ?_) fun hx => ?_
  · walk_at "go"
    exact q _ _ (Int.emod_nonneg _ (by omega)) (Int.emod_lt_of_pos _ h0) (pot_close (by assumption) hy0 hy1)
  · walk_at "go"
    exact q _ _ (Int.emod_nonneg _ (by omega)) (Int.emod_lt_of_pos _ h0) (pot_close (x := x) (by assumption) (by omega) (by omega))
def t__law_cell (K : PySem.W.Frag) (Z : Ad) : TS :=
  (tRet (tIf (tTest (tOp rLt (tVar 1) (tCB (rLenS K) (tCons (tVar 0) tNil)))) (tOp (rIxL K) (tVar 0) (tVar 1)) (tC (.int 0))))
theorem rd__law_cell (K : PySem.W.Frag) (Z : Ad) : ∀ vs H Q E, sp__law_cell K Z vs H Q E → t__law_cell K Z { nx := fun _ H' => Q .non H', rt := Q } (start (["_law_script", "_law_k"]) vs) H := by
  rintro _ H Q E ⟨a, ns, k, rfl, hs, hk0, q⟩
  show t__law_cell K Z _ [some (.ref a), some (.int k)] H
  unfold t__law_cell
  walk_at "go"
  refine g_lenL hs ?_
  walk_at "go"
  refine g_ite (fun hx => ?_) fun _ => ?_
  · obtain ⟨n, e1, e2⟩ := ints_ix hk0 (by rw [List.length_map] at hx; exact hx)
    walk_at "go"
    refine g_ixL hs e2 ?_
    exact q _
  · walk_at "go"
    exact q _
def t__law_pot (K : PySem.W.Frag) (Z : Ad) : TS :=
  (tSeq (tAsg (tCl (sp__law_cell K Z) [.pos 0, .pos 1] [] [] 2 0 (fun _ => E0) (tCons (tVar 0) (tCons (tVar 1) tNil)) tNil) (gName 2))
  (tRet (tLst (tCons (tCB rMax2 (tCons (tC (.int 0)) (tCons (tOp rSub0 (tVar 2) (tOp rPow0 (tC (.int 10)) (tC (.int 18)))) tNil))) (tCons (tOp rMod0 (tOp rAdd0 (tOp rAdd0 (tOp rAdd0 (tOp rMul0 (tOp rMod0 (tCB rAbs (tCons (tVar 2) tNil)) (tC (.int 2147483629))) (tC (.int 48271))) (tOp rMul0 (tOp rMul0 (tC (.int 7919)) (tVar 1)) (tVar 1))) (tOp rMul0 (tC (.int 613)) (tVar 1))) (tC (.int 29))) (tC (.int 2147483629))) tNil)))))
theorem rd__law_pot (K : PySem.W.Frag) (Z : Ad) : ∀ vs H Q E, sp__law_pot K Z vs H Q E → t__law_pot K Z { nx := fun _ H' => Q .non H', rt := Q } (start (["_law_script", "_law_k", "_law_cell_here"]) vs) H := by
  rintro _ H Q E ⟨a, ns, k, R, rfl, s, hk0, hk1, q⟩
  show t__law_pot K Z _ [some (.ref a), some (.int k), none] H
  unfold t__law_pot
  walk_at "go"
  exact q _ _ (pot_close (by assumption) (by omega) (by omega))
def t__law_wide (K : PySem.W.Frag) (Z : Ad) : TS :=
  (tRet (tOp (rIxL K) (tLst (tCons (tC (.int 3)) (tCons (tC (.int 4)) (tCons (tC (.int 5)) (tCons (tC (.int 8)) (tCons (tC (.int 31)) (tCons (tC (.int 32)) (tCons (tOp rAdd0 (tC (.int 3)) (tCl (sp__law_take K Z) [.pos 0, .pos 1] [] [] 2 0 (fun _ => E0) (tCons (tVar 0) (tCons (tC (.int 30)) tNil)) tNil)) (tCons (tOp rAdd0 (tC (.int 3)) (tCl (sp__law_take K Z) [.pos 0, .pos 1] [] [] 2 0 (fun _ => E0) (tCons (tVar 0) (tCons (tC (.int 6)) tNil)) tNil)) tNil))))))))) (tCl (sp__law_take K Z) [.pos 0, .pos 1] [] [] 2 0 (fun _ => E0) (tCons (tVar 0) (tCons (tC (.int 8)) tNil)) tNil)))
theorem rd__law_wide (K : PySem.W.Frag) (Z : Ad) : ∀ vs H Q E, sp__law_wide K Z vs H Q E → t__law_wide K Z { nx := fun _ H' => Q .non H', rt := Q } (start (["_law_pot_here"]) vs) H := by
  rintro _ H Q E ⟨p, R, rfl, s, q⟩
  show t__law_wide K Z _ [some (.ref p)] H
  unfold t__law_wide
  walk_at "go"
  rename_i n hn
  skip
  exact q _ _ (by omega) (by omega) (by walk_at "sat")
def t__law_point (K : PySem.W.Frag) (Z : Ad) : TS :=
  (tSeq (tAsg (tCl (sp__law_take K Z) [.pos 0, .pos 1] [] [] 2 0 (fun _ => E0) (tCons (tVar 0) (tCons (tC (.int 5)) tNil)) tNil) (gName 2))
  (tSeq (tIfS (tTest (tOp rEq (tVar 2) (tC (.int 0)))) (tRet (tCl (sp__law_take K Z) [.pos 0, .pos 1] [] [] 2 0 (fun _ => E0) (tCons (tVar 0) (tCons (tCB rMin2 (tCons (tVar 1) (tCons (tC (.int 4)) tNil))) tNil)) tNil)) tNext)
  (tSeq (tIfS (tTest (tOp rEq (tVar 2) (tC (.int 1)))) (tRet (tOp rSub0 (tOp rSub0 (tVar 1) (tC (.int 1))) (tCl (sp__law_take K Z) [.pos 0, .pos 1] [] [] 2 0 (fun _ => E0) (tCons (tVar 0) (tCons (tCB rMin2 (tCons (tVar 1) (tCons (tC (.int 4)) tNil))) tNil)) tNil))) tNext)
  (tSeq (tIfS (tTest (tOp rEq (tVar 2) (tC (.int 2)))) (tRet (tOp rMod0 (tOp rAdd0 (tOp rSub0 (tOp rDivW (tVar 1) (tC (.int 2))) (tC (.int 2))) (tCl (sp__law_take K Z) [.pos 0, .pos 1] [] [] 2 0 (fun _ => E0) (tCons (tVar 0) (tCons (tC (.int 4)) tNil)) tNil)) (tVar 1))) tNext)
  (tRet (tCl (sp__law_take K Z) [.pos 0, .pos 1] [] [] 2 0 (fun _ => E0) (tCons (tVar 0) (tCons (tVar 1) tNil)) tNil))))))
theorem rd__law_point (K : PySem.W.Frag) (Z : Ad) : ∀ vs H Q E, sp__law_point K Z vs H Q E → t__law_point K Z { nx := fun _ H' => Q .non H', rt := Q } (start (["_law_pot_here", "_law_size", "_law_way"]) vs) H := by
  rintro _ H Q E ⟨p, m, R, rfl, s, h0, h1, q⟩
  have e4 : (if 4 < m then (4 : Int) else m) = 4 := by split <;> omega
  show t__law_point K Z _ [some (.ref p), some (.int m), none] H
  unfold t__law_point
  walk_at "go"
  walk_at "on"
  refine g_ite (fun _ => ?_) fun _ => ?_
  · walk_at "go"
    exact q _ _ (by omega) (by omega) (by walk_at "sat")
  · walk_at "go"
    walk_at "on"
    refine g_ite (fun _ => ?_) fun _ => ?_
    · walk_at "go"
      exact q _ _ (by omega) (by omega) (by walk_at "sat")
    · walk_at "go"
      walk_at "on"
      refine g_ite (fun _ => ?_) fun _ => ?_
      · walk_at "go"
        exact q _ _ (Int.emod_nonneg _ (by omega)) (Int.emod_lt_of_pos _ (by omega)) (by walk_at "sat")
      · walk_at "go"
        exact q _ _ (by omega) (by omega) (by walk_at "sat")
end NN
namespace NN
open PySem L2
local macro_rules | `(tactic| walk_at "nl") => `(tactic| first | with_reducible assumption | omega | (simp only [List.length_map, List.length_cons, List.length_nil, List.length_append, List.length_reverse, List.length_take, List.length_drop] <;> omega) | decide)
local macro_rules | `(tactic| walk_at "ar") => `(tactic| first | omega | (simp only [List.length_cons, List.length_nil] <;> omega) | (simp only [List.length_cons, List.length_nil, List.length_append, List.length_map, List.length_set, List.length_take, List.length_drop, List.length_reverse] <;> omega) | decide)
local macro_rules | `(tactic| walk_at "cond") => `(tactic| first | assumption | exact c_mulB | (exact c_mulL (by walk_at "nl") (by walk_at "nl")) | (exact c_mulR (by walk_at "nl") (by walk_at "nl")) | (exact c_divW (by walk_at "nl") (by walk_at "nl")) | (exact c_pow (by walk_at "nl") (by walk_at "nl") (by walk_at "nl")) | walk_at "nl")
local macro_rules | `(tactic| walk_at "sz") => `(tactic| first | exact sz_small (by simp only [List.length_cons, List.length_nil]; decide) | exact sz_small (by decide) | exact sz_small (by walk_at "ar"))
local macro_rules | `(tactic| walk_at "sl") => `(tactic| first | exact sz_less (by walk_at "ar"))
local macro_rules | `(tactic| walk_at "at") => `(tactic| first | assumption | exact at_0 | exact at_1 | exact at_2 | exact at_3 | exact at_4 | exact at_5 | exact at_6 | exact at_7 | exact at_8 | exact at_9 | exact at_10 | exact at_11 | exact at_12 | exact at_13 | exact at_14 | exact at_15 | exact atI_nat (by assumption))
local macro_rules | `(tactic| walk_at "flat") => `(tactic| first | exact ints_flat _ | rfl | assumption | decide)
local macro_rules | `(tactic| walk_at "ixn") => `(tactic| first | with_unfolding_all rfl | exact ixN_lit (j := 0) rfl (by walk_at "ar") | exact ixN_nat (by walk_at "ar"))
local macro_rules | `(tactic| walk_at "sat") => `(tactic| first | assumption | exact SatI.ent (by assumption))
local macro_rules | `(tactic| walk_at "hat") => `(tactic| first | with_reducible assumption | exact SatI.at (by assumption))
local macro_rules | `(tactic| walk_at "lt") => `(tactic| first | decide | (simp only [List.length_cons, List.length_nil]; decide))
local macro_rules | `(tactic| walk_at "putf") => `(tactic| (simp (decide := true) only [putF, if_true, if_false]) <;> rfl)
local macro_rules | `(tactic| walk_at "lkr") => `(tactic| exact fun _ _ _ _ => rfl)
local macro_rules | `(tactic| walk_at "ok") => `(tactic| first | assumption | decide +kernel)
local macro_rules | `(tactic| walk_at "lkk") => `(tactic| exact fun _ => rfl)
local macro_rules | `(tactic| walk_at "lkf") => `(tactic| exact fun _ _ => rfl)
local macro_rules | `(tactic| walk_at "dval") => `(tactic| first | assumption | rfl)
local macro_rules | `(tactic| walk_at "fm") => `(tactic| first | exact fm_yes (by assumption) (by first | rfl | assumption) rfl (by assumption) inferInstance (by walk_at "ar") | exact fm_no (by assumption) (by first | rfl | assumption) (by assumption) inferInstance)
local macro_rules | `(tactic| walk_at "call") => `(tactic| fail)
local macro_rules | `(tactic| walk_at "call2") => `(tactic| fail)
local macro_rules | `(tactic| walk_at "go1") => `(tactic| first | ((with_reducible refine Stp.imp ?_)) | (((with_reducible refine' g_eqc ?h0 ?_); (case h0 => rfl))) | (((with_reducible refine' g_I ?h0 ?_); (case h0 => walk_at "cond"))) | (((with_reducible refine' g_eq ?h0 ?_); (case h0 => with_unfolding_all rfl))) | (((with_reducible refine' g_ne ?h0 ?_); (case h0 => with_unfolding_all rfl))) | (((with_reducible refine' g_sz ?h0 ?_); (case h0 => walk_at "sz"); intro p hp; generalize hg : upd _ p _ = H2; (first | have hs := sat_newLI hg hp (by with_reducible assumption) inferInstance | have hs := sat_newL hg hp (by with_reducible assumption) | have hs := sat_newT hg hp (by with_reducible assumption)); clear hg hp)) | (((with_reducible refine' s_lenI ?h0 ?h1 ?h2 ?h3 ?_); (case h0 => with_reducible assumption); (case h1 => infer_instance); (case h2 => infer_instance); (case h3 => infer_instance))) | (((with_reducible refine' s_lenL ?h0 ?h1 ?h2 ?_); (case h0 => with_reducible assumption); (case h1 => infer_instance); (case h2 => infer_instance))) | (((with_reducible refine' s_lenT ?h0 ?h1 ?_); (case h0 => with_reducible assumption); (case h1 => infer_instance))) | (((with_reducible refine' s_listL ?h0 ?h1 ?h2 ?_); (case h0 => with_reducible assumption); (case h1 => infer_instance); (case h2 => infer_instance); intro _ _ _)) | (((with_reducible refine' s_listT ?h0 ?h1 ?_); (case h0 => with_reducible assumption); (case h1 => infer_instance); intro _ _ _)) | (((with_reducible refine' s_slTo ?h0 ?h1 ?h2 ?h3 ?h4 ?_); (case h0 => with_reducible assumption); (case h1 => infer_instance); (case h2 => infer_instance); (case h3 => infer_instance); (case h4 => walk_at "nl"); intro _ _ _)) | (((with_reducible refine' s_slFrom ?h0 ?h1 ?h2 ?h3 ?h4 ?_); (case h0 => with_reducible assumption); (case h1 => infer_instance); (case h2 => infer_instance); (case h3 => infer_instance); (case h4 => walk_at "nl"); intro _ _ _)) | (((with_reducible refine' s_slLast ?h0 ?h1 ?h2 ?h3 ?_); (case h0 => with_reducible assumption); (case h1 => infer_instance); (case h2 => infer_instance); (case h3 => infer_instance); intro _ _ _)) | (((with_reducible refine' s_slMid ?h0 ?h1 ?h2 ?h3 ?h4 ?h5 ?_); (case h0 => with_reducible assumption); (case h1 => infer_instance); (case h2 => infer_instance); (case h3 => infer_instance); (case h4 => walk_at "nl"); (case h5 => walk_at "nl"); intro _ _ _)) | (((with_reducible refine' s_sum ?h0 ?h1 ?h2 ?h3 ?_); (case h0 => with_reducible assumption); (case h1 => infer_instance); (case h2 => infer_instance); (case h3 => infer_instance))) | (((with_reducible refine' s_slL ?h0 ?h1 ?h2 ?_); (case h0 => with_reducible assumption); (case h1 => infer_instance); (case h2 => infer_instance); intro _ _ _)) | (((with_reducible refine' s_ixL ?h0 ?h1 ?h2 ?h3 ?_); (case h0 => with_reducible assumption); (case h1 => infer_instance); (case h2 => infer_instance); (case h3 => walk_at "at"))) | (((with_reducible refine' s_ixLast ?h0 ?h1 ?h2 ?h3 ?h4 ?_); (case h0 => with_reducible assumption); (case h1 => infer_instance); (case h2 => infer_instance); (case h3 => infer_instance); (case h4 => assumption))) | (((with_reducible refine' s_ixIn ?h0 ?h1 ?h2 ?h3 ?h4 ?h5 ?_); (case h0 => with_reducible assumption); (case h1 => infer_instance); (case h2 => infer_instance); (case h3 => infer_instance); (case h4 => walk_at "nl"); (case h5 => walk_at "nl"); intro n hn; (try simp only [List.mem_cons, List.not_mem_nil, or_false] at hn))) | (((with_reducible refine' s_ixT ?h0 ?h1 ?h2 ?_); (case h0 => with_reducible assumption); (case h1 => infer_instance); (case h2 => walk_at "at"))) | (((with_reducible refine' s_inI ?h0 ?h1 ?h2 ?h3 ?_); (case h0 => with_reducible assumption); (case h1 => infer_instance); (case h2 => infer_instance); (case h3 => infer_instance))) | (((with_reducible refine' s_ninI ?h0 ?h1 ?h2 ?h3 ?_); (case h0 => with_reducible assumption); (case h1 => infer_instance); (case h2 => infer_instance); (case h3 => infer_instance))) | (((with_reducible refine' s_in ?h0 ?h1 ?h2 ?h3 ?h4 ?_); (case h0 => with_reducible assumption); (case h1 => infer_instance); (case h2 => infer_instance); (case h3 => with_unfolding_all rfl); (case h4 => walk_at "flat"))) | (((with_reducible refine' s_setLI ?h0 ?h1 ?h2 ?h3 ?_); (case h0 => with_reducible assumption); (case h1 => infer_instance); (case h2 => infer_instance); (case h3 => walk_at "ixn"); intro _ _)) | (((with_reducible refine' s_setL ?h0 ?h1 ?h2 ?_); (case h0 => with_reducible assumption); (case h1 => infer_instance); (case h2 => with_unfolding_all rfl); intro _ _)) | (((with_reducible refine' s_appendI ?h0 ?h1 ?h2 ?h3 ?_); (case h0 => with_reducible assumption); (case h1 => infer_instance); (case h2 => infer_instance); (case h3 => walk_at "sl"); intro _ _)) | (((with_reducible refine' s_append ?h0 ?h1 ?h2 ?_); (case h0 => with_reducible assumption); (case h1 => infer_instance); (case h2 => walk_at "sl"); intro _ _)) | (((with_reducible refine' s_tyL ?h0 ?h1 ?h2 ?_); (case h0 => with_reducible assumption); (case h1 => infer_instance); (case h2 => infer_instance))) | (((with_reducible refine' s_catI ?h0 ?h1 ?h2 ?h3 ?h4 ?h5 ?_); (case h0 => with_reducible assumption); (case h1 => infer_instance); (case h2 => infer_instance); (case h3 => infer_instance); (case h4 => infer_instance); (case h5 => walk_at "sz"); intro _ _ _)) | (((with_reducible refine' s_cat ?h0 ?h1 ?h2 ?h3 ?_); (case h0 => with_reducible assumption); (case h1 => infer_instance); (case h2 => infer_instance); (case h3 => walk_at "sz"); intro _ _ _)) | (((with_reducible refine' s_sorted ?h0 ?h1 ?h2 ?h3 ?_); (case h0 => with_reducible assumption); (case h1 => infer_instance); (case h2 => infer_instance); (case h3 => infer_instance); intro _ _ _)) | (((with_reducible refine' s_eqL ?h0 ?h1 ?h2 ?h3 ?h4 ?h5 ?h6 ?_); (case h0 => with_reducible assumption); (case h1 => infer_instance); (case h2 => infer_instance); (case h3 => infer_instance); (case h4 => infer_instance); (case h5 => infer_instance); (case h6 => infer_instance))) | (((with_reducible refine' s_neL ?h0 ?h1 ?h2 ?h3 ?h4 ?h5 ?h6 ?_); (case h0 => with_reducible assumption); (case h1 => infer_instance); (case h2 => infer_instance); (case h3 => infer_instance); (case h4 => infer_instance); (case h5 => infer_instance); (case h6 => infer_instance))) | (((with_reducible refine' s_isLL ?h0 ?h1 ?_); (case h0 => with_reducible assumption); (case h1 => infer_instance))) | (((with_reducible refine' s_revI ?h0 ?h1 ?h2 ?h3 ?_); (case h0 => with_reducible assumption); (case h1 => infer_instance); (case h2 => infer_instance); (case h3 => infer_instance); intro _ _ _)) | (((with_reducible refine' s_revL ?h0 ?h1 ?h2 ?_); (case h0 => with_reducible assumption); (case h1 => infer_instance); (case h2 => infer_instance); intro _ _ _)) | (((with_reducible refine' s_insertI ?h0 ?h1 ?h2 ?h3 ?h4 ?h5 ?_); (case h0 => with_reducible assumption); (case h1 => infer_instance); (case h2 => infer_instance); (case h3 => walk_at "sl"); (case h4 => walk_at "nl"); (case h5 => walk_at "nl"); intro _ _)) | (((with_reducible refine' s_all ?h0 ?h1 ?_); (case h0 => with_reducible assumption); (case h1 => infer_instance))) | (((with_reducible refine' s_any ?h0 ?h1 ?_); (case h0 => with_reducible assumption); (case h1 => infer_instance))) | (((with_reducible refine' s_idx ?h0 ?h1 ?h2 ?h3 ?h4 ?_); (case h0 => with_reducible assumption); (case h1 => infer_instance); (case h2 => infer_instance); (case h3 => infer_instance); (case h4 => assumption))) | (((with_reducible refine' g_fld ?h0 ?h1 ?h2 ?h3 ?_); (case h0 => walk_at "hat"); (case h1 => with_reducible assumption); (case h2 => with_reducible assumption); (case h3 => with_unfolding_all rfl))) | (((with_reducible refine' s_sfld ?h0 ?h1 ?h2 ?h3 ?h4 ?h5 ?h6 ?_); (case h0 => with_reducible assumption); (case h1 => infer_instance); (case h2 => with_reducible assumption); (case h3 => with_reducible assumption); (case h4 => with_reducible assumption); (case h5 => walk_at "lt"); (case h6 => walk_at "putf"); intro _ _)) | (((with_reducible refine' s_ins ?h0 ?h1 ?h2 ?_); (case h0 => with_reducible assumption); (case h1 => infer_instance); (case h2 => with_unfolding_all rfl))) | (((with_reducible refine' s_dget ?h0 ?h1 ?h2 ?h3 ?_); (case h0 => with_reducible assumption); (case h1 => infer_instance); (case h2 => infer_instance); (case h3 => walk_at "dval"))) | (((with_reducible refine' s_din ?h0 ?h1 ?h2 ?_); (case h0 => with_reducible assumption); (case h1 => infer_instance); (case h2 => infer_instance))) | (((with_reducible refine' s_dnotin ?h0 ?h1 ?h2 ?_); (case h0 => with_reducible assumption); (case h1 => infer_instance); (case h2 => infer_instance))) | (((with_reducible refine' s_dput ?h0 ?h1 ?h2 ?h3 ?_); (case h0 => with_reducible assumption); (case h1 => infer_instance); (case h2 => infer_instance); (case h3 => walk_at "sl"); intro _ _)) | ((intro p hp; generalize hg : upd _ p (HO.dK []) = H2; have hs := sat_newD hg hp (by with_reducible assumption); clear hg hp)) | (((with_reducible refine' s_divmod ?h0 ?h1 ?h2 ?_); (case h0 => with_reducible assumption); (case h1 => walk_at "nl"); (case h2 => walk_at "nl"); intro _ _ _)) | (((with_reducible refine' s_gtup ?h0 ?h1 ?h2 ?_); (case h0 => with_reducible assumption); (case h1 => infer_instance); (case h2 => with_unfolding_all rfl))) | walk_at "call" | walk_at "call2")
local macro_rules | `(tactic| walk_at "go") => `(tactic| (repeat walk_at "go1"); (try dsimp only))
local macro_rules | `(tactic| walk_at "on") => `(tactic| (with_reducible refine g_seq ?_); walk_at "go")
local macro_rules | `(tactic| walk_at "ifs") => `(tactic| ((try simp only [List.length_map]) <;> (repeat' split) <;> omega))
local macro_rules | `(tactic| walk_at "spa") => `(tactic| first | assumption | exact sat_spH (by assumption) inferInstance)
local macro_rules | `(tactic| walk_at "th") => `(tactic| first | exact Th.int | exact Th.bl | exact Th.non | exact Th.str | assumption | exact Th.lst (SatI.at (by assumption)) | exact Th.tup (SatI.at (by assumption)) | exact Th.dK (SatI.at (by assumption)))
local macro_rules | `(tactic| walk_at "call2") => `(tactic| first
  | ((with_reducible refine' use_whole ?e ?h0 ?_); (case e => rfl); (case h0 => walk_at "th"))
  | ((with_reducible refine' use_make ?e ?h0 ?h1 ?h2 ?_); (case e => exact fun _ => rfl); (case h0 => assumption); (case h1 => walk_at "nl"); (case h2 => walk_at "nl"); intro _ _ _)
  | ((with_reducible refine' use_bits ?e ?h0 ?_); (case e => rfl); (case h0 => walk_at "spa"))
  | ((with_reducible refine' use_size ?e ?h0 ?_); (case e => rfl); (case h0 => walk_at "spa"))
  | ((with_reducible refine' use_has ?e ?h0 ?h1 ?_); (case e => rfl); (case h0 => walk_at "spa"); (case h1 => walk_at "th"))
  | ((with_reducible refine' use_distance ?e ?h0 ?_); (case e => rfl); (case h0 => walk_at "spa"))
  | ((with_reducible refine' use_between ?e ?h0 ?_); (case e => rfl); (case h0 => walk_at "spa"))
  | ((with_reducible refine' use_nearest ?e ?h0 ?h1 ?h2 ?h3 ?h4 ?_); (case e => rfl); (case h0 => walk_at "spa"); (case h1 => assumption); (case h2 => infer_instance); (case h3 => infer_instance); (case h4 => walk_at "nl"); intro _ _ _ _)
  | ((with_reducible refine' use_preceding ?e ?h0 ?h1 ?h2 ?h3 ?h4 ?_); (case e => rfl); (case h0 => walk_at "spa"); (case h1 => assumption); (case h2 => infer_instance); (case h3 => infer_instance); (case h4 => walk_at "nl"); intro _ _ _ _)
  | ((with_reducible refine' s_insS ?h0 ?h1 ?h2 ?_); (case h0 => assumption); (case h1 => infer_instance); (case h2 => rfl))
  | ((with_reducible refine' h_insS ?h0 ?h2 ?_); (case h0 => assumption); (case h2 => rfl)))
local macro_rules | `(tactic| walk_at "call") => `(tactic| first
  | ((with_reducible refine' use_take ?e ?h0 ?h1 ?h2 ?h3 ?_); (case e => rfl); (case h0 => assumption); (case h1 => infer_instance); (case h2 => walk_at "nl"); (case h3 => walk_at "nl"); intro _ _ _ _ _)
  | ((with_reducible refine' use_cell ?e ?h0 ?h1 ?h2 ?h3 ?h4 ?_); (case e => rfl); (case h0 => assumption); (case h1 => infer_instance); (case h2 => infer_instance); (case h3 => infer_instance); (case h4 => walk_at "nl"); intro _)
  | ((with_reducible refine' use_pot ?e ?h0 ?h1 ?h2 ?h3 ?_); (case e => rfl); (case h0 => assumption); (case h1 => infer_instance); (case h2 => walk_at "nl"); (case h3 => walk_at "nl"); intro _ _ _)
  | ((with_reducible refine' use_wide ?e ?h0 ?h1 ?_); (case e => rfl); (case h0 => assumption); (case h1 => infer_instance); intro _ _ _ _ _)
  | ((with_reducible refine' use_point ?e ?h0 ?h1 ?h2 ?h3 ?_); (case e => rfl); (case h0 => assumption); (case h1 => infer_instance); (case h2 => walk_at "nl"); (case h3 => walk_at "nl"); intro _ _ _ _ _))
local macro_rules | `(tactic| walk_at "call2") => `(tactic| first
  | ((with_reducible refine' use_width ?e ?h0 ?h1 ?_); (case e => rfl); (case h0 => assumption); (case h1 => infer_instance))
  | ((with_reducible refine' use_text ?e ?h0 ?h1 ?h2 ?_); (case e => rfl); (case h0 => assumption); (case h1 => infer_instance); (case h2 => walk_at "nl"); intro _ _))
instance goodT_dec {b : Nat} {l : List Nat} : Decidable (goodT b l) := inferInstanceAs (Decidable (_ ∧ _ ∧ _))
def dueL (b : Nat) (l : List Nat) : Int := if goodT b l then val l else -1
theorem dueL_no {b : Nat} {l : List Nat} (h : ¬ goodT b l) : dueL b l = -1 := if_neg h
theorem dueL_yes {b : Nat} {l : List Nat} (h : goodT b l) : dueL b l = val l := if_pos h
def figE : List (Nat × Nat) := (List.range 16).zip figL
theorem figE_at (i c : Nat) (h : (Str.ofString "0123456789abcdef").cps[i]? = some c) : figE[i]? = some (i, c) := by
  rw [fig_str] at h
  have h1 : figL[i]? = some c := by rw [← h]; simp
  have h2 := (List.getElem?_eq_some_iff.mp h1).1
  have h2 : i < 16 := h2
  unfold figE
  rw [List.getElem?_zip_eq_some]
  exact ⟨List.getElem?_range h2, h1⟩
theorem figE_one {c : Nat} (h : c ∈ figL) : ((figE.filter fun z => decide (z.2 = c)).map fun z => ((z.1 : Nat) : Int)) = [und c] := by
  have key : ∀ c ∈ figL, ((figE.filter fun z => decide (z.2 = c)).map fun z => ((z.1 : Nat) : Int)) = [und c] := by decide +kernel
  exact key c h
structure PtB (K : PySem.W.Frag) (Z : Ad) : Prop where
  ex : PySem.W.exmOne K (.ref Z.NoPoint) (.ref Z.RingError) = some true
  C : ExcC K Z.NoPoint
  k1 : PySem.W.kitOne K (.ref Z.NoPoint) (.ref Z.NoPoint) = some true
  k2 : PySem.W.kitOne K (.ref Z.NoPoint) (.type "ValueError") = some true
  k3 : PySem.W.kitOne K (.ref Z.NoPoint) (.ref Z.NoSpace) = some false
section
variable {K : PySem.W.Frag} {Z : Ad} {L R R1 R2 : List Atom} {H : Hp} {Q : VK} {E : XK} {vs : List V} {a b p : Addr} {X Y : Addr → Hp → Prop} {xs ys : List V} {σ : St} {g : TG} {tb : TS} {D : Addr} {c : V} {cv : Value} {t : Bool}
theorem s_isE0 (C : ExcC K D) (k : ClsV c cv) (e : PySem.W.kitOne K (.ref D) cv = some t) (q : Q (.bl t) H) : rIsE3 K a (.ref D) none [.ref a, c] H Q :=
  ⟨D, rfl, C, fun _ h => (by cases h), .inl ⟨c, cv, t, rfl, k, e, q⟩⟩
def sp__law_due (_ : PySem.W.Frag) (Z : Ad) : Sp := fun vs H Q _ => ∃ (l : List Nat) (b : Nat) (L : List Atom), vs = [.str ⟨l.toArray⟩, .int b, .int (2 ^ b)] ∧ Sat Z L H ∧ b ≤ 32 ∧ l.length ≤ 1000 ∧ ∀ H', Sat Z L H' → Q (.int (dueL b l)) H'
theorem use_due {l : List Nat} {b : Nat} (e : vs = [.str ⟨l.toArray⟩, .int b, .int (2 ^ b)]) (s : Sat Z L H) (h0 : b ≤ 32) (h1 : l.length ≤ 1000) (q : ∀ H', Sat Z L H' → Q (.int (dueL b l)) H') : sp__law_due K Z vs H Q E := ⟨l, b, L, e, s, h0, h1, q⟩
def sp__law_spoilt (_ : PySem.W.Frag) (Z : Ad) : Sp := fun vs H Q _ => ∃ (p : Addr) (z : Str) (R : List Atom), vs = [.ref p, .str z] ∧ Sat Z (⟨p, PotA⟩ :: R) H ∧ z.length ≤ 8 ∧ ∀ z' H', z'.length ≤ 100 → Sat Z (⟨p, PotA⟩ :: R) H' → Q (.str z') H'
theorem use_spoilt {z : Str} (e : vs = [.ref p, .str z]) (s : Sat Z L H) (f : Fnd L p PotA R) (h0 : z.length ≤ 8) (q : ∀ z' H', z'.length ≤ 100 → Sat Z (⟨p, PotA⟩ :: R) H' → Q (.str z') H') : sp__law_spoilt K Z vs H Q E := ⟨p, z, R, e, s.fnd, h0, q⟩
def sp__law_read (_ : PySem.W.Frag) (Z : Ad) : Sp := fun vs H Q _ => ∃ (a : Addr) (b : Nat) (v : V) (R : List Atom), vs = [.ref a, v] ∧ Sat Z (⟨a, SpA Z b⟩ :: R) H ∧ Th H v ∧ (∀ z, v = .str z → z.length ≤ 1000) ∧
  (∀ l H', v = .str ⟨l.toArray⟩ → Sat Z (⟨a, SpA Z b⟩ :: R) H' → Q (.int (dueL b l)) H') ∧ (∀ H', (∀ z, v ≠ .str z) → Sat Z (⟨a, SpA Z b⟩ :: R) H' → Q (.int (-1)) H')
def sp_law (K : PySem.W.Frag) (Z : Ad) : Sp := fun vs H Q _ => ∃ (a : Addr) (ns : List Int), vs = [.ref a] ∧ Sat Z [⟨a, RL K (ns.map V.int)⟩] H ∧ ns.length ≤ 63 ∧ ∀ H', Q (.bl true) H'
end
theorem cut_le {z : Str} {n : Nat} {lo hi : Option Int} (h : z.length ≤ n) : (cutS z lo hi).length ≤ n := Nat.le_trans (cutS_length z lo hi) h
theorem app_len {x y : Str} : (x ++ y).length = x.length + y.length := by
  show (x.cps ++ y.cps).size = _
  rw [Array.size_append]
  rfl
theorem app_le {x y : Str} {n m : Nat} (h1 : x.length ≤ n) (h2 : y.length ≤ m) : (x ++ y).length ≤ n + m := by rw [app_len]; omega
theorem s_slS {z : Str} {lo hi : Option Int} {H : Hp} {Q : VK} (h : z.length ≤ 100) (q : Q (.str (cutS z lo hi)) H) : rSlS (.str z) lo hi H Q := ⟨z, rfl, by rw [sizeLine_eq]; omega, q⟩
theorem s_addS {x y : Str} {H : Hp} {Q : VK} (h1 : x.length ≤ 100) (h2 : y.length ≤ 100) (q : Q (.str (x ++ y)) H) : rAddStr (.str x) (.str y) H Q := ⟨x, y, rfl, rfl, by rw [sizeLine_eq]; omega, q⟩
theorem s_lenS {x : Str} {H : Hp} {Q : VK} (h1 : x.length ≤ 100) (q : Q (.int x.length) H) : rLenStr [.str x] H Q := ⟨x, rfl, by rw [sizeLine_eq]; omega, q⟩
theorem s_ixS {x : Str} {i : Int} {H : Hp} {Q : VK} (h1 : x.length ≤ 100) (h2 : 0 ≤ i ∧ i < x.length) (q : ∀ c, Q (.str ⟨#[c]⟩) H) : rIxS (.str x) (.int i) H Q := by
  have e : i = ((i.toNat : Nat) : Int) := by omega
  have hl : i.toNat < x.cps.toList.length := by
    rw [Array.length_toList]
    show i.toNat < x.length
    omega
  refine ⟨x, i, x.cps.toList[i.toNat], rfl, rfl, by rw [sizeLine_eq]; omega, ?_, q _⟩
  have := atI_nat (xs := x.cps.toList) (j := i.toNat) (List.getElem?_eq_getElem hl)
  rwa [← e] at this
local macro_rules | `(tactic| walk_at "le") => `(tactic| first | assumption | (refine Nat.le_trans ?_ (show 100 ≤ 100 from Nat.le_refl _); omega) | exact Nat.le_trans (cut_le (by assumption)) (by decide) | exact Nat.le_trans (app_le (cut_le (by assumption)) (Nat.le_refl 1)) (by decide) | (show 1 ≤ 100; decide))
local macro_rules | `(tactic| walk_at "call") => `(tactic| first
  | ((with_reducible refine' use_spoilt ?e ?h0 ?h1 ?h2 ?_); (case e => rfl); (case h0 => assumption); (case h1 => infer_instance); (case h2 => walk_at "nl"); intro _ _ _ _))
local macro_rules | `(tactic| walk_at "call2") => `(tactic| first
  | ((with_reducible refine' s_slS ?h0 ?_); (case h0 => walk_at "le"))
  | ((with_reducible refine' s_addS ?h0 ?h1 ?_); (case h0 => walk_at "le"); (case h1 => walk_at "le")))
def t__law_read (K : PySem.W.Frag) (Z : Ad) : TS :=
  (tSeq (tAsg (tUn (rU fun i => .int (-i)) (tC (.int 1))) (gName 2))
  (tSeq (tAsg (tC (.bl true)) (gName 3))
  (tSeq (sTryAs K (.ref Z.RingError) 4 (fun a cls d => (tAsg (tAndV (tCB (rIsE3 K a cls d) (tCons (tVar 4) (tCons (tC (.ref Z.NoPoint)) tNil))) (tAndV (tCB (rIsE3 K a cls d) (tCons (tVar 4) (tCons (tC (.ty "ValueError")) tNil))) (tNotV (tCB (rIsE3 K a cls d) (tCons (tVar 4) (tCons (tC (.ref Z.NoSpace)) tNil)))))) (gName 3))) (fun _ _ _ _ => False) (fun W => (tAsg (tMe Z.Space "read" (sp_Space_read K Z) [.pos 0, .pos 1] [] [] 2 0 (WE W) (tVar 0) (tCons (tVar 1) tNil) tNil) (gName 2))))
  (tRet (tIf (tB (tVar 3)) (tVar 2) (tUn (rU fun i => .int (-i)) (tC (.int 2))))))))
theorem rd__law_read (K : PySem.W.Frag) (Z : Ad) (B : PtB K Z) : ∀ vs H Q E, sp__law_read K Z vs H Q E → t__law_read K Z { nx := fun _ H' => Q .non H', rt := Q } (start (["_law_space", "_law_thing", "_law_found", "_law_told", "e"]) vs) H := by
  rintro _ H Q E ⟨a, b, v, R, rfl, s, hv, hz, q1, q2⟩
  show t__law_read K Z _ [some (.ref a), some (v), none, none, none] H
  unfold t__law_read
  walk_at "go"
  walk_at "on"
  refine ⟨a, b, v, R, rfl, s, hv, hz, fun l H1 h g s1 => ?_, fun H1 h s1 => ?_⟩
  · walk_at "go"
    have := q1 l H1 h s1
    rw [dueL_yes g] at this
    exact this
  · refine ⟨true, B.ex, fun _ e he => ?_, fun z => nomatch z⟩
    dsimp only [List.set]
    walk_at "go"
    refine s_isE0 B.C (.own _) B.k1 ?_
    walk_at "go"
    refine s_isE0 B.C (.ty _) B.k2 ?_
    walk_at "go"
    refine s_isE0 B.C (.own _) B.k3 ?_
    walk_at "go"
    dsimp only [List.set]
    walk_at "go"
    by_cases hs : ∃ z, v = .str z
    · obtain ⟨⟨⟨l⟩⟩, rfl⟩ := hs
      have := q1 l H1 rfl s1
      rw [dueL_no fun g => h ⟨l, rfl, g⟩] at this
      exact this
    · exact q2 _ (fun z hz => hs ⟨z, hz⟩) s1
def t__law_due (K : PySem.W.Frag) (Z : Ad) : TS :=
  (tSeq (tIfS (tOr (tNot (tB (tCB (rIsi K) (tCons (tVar 0) (tCons (tC (.ty "str")) tNil))))) (tTest (tOp rNe (tCB rLenStr (tCons (tVar 0) tNil)) (tOp rDivW (tOp rAdd0 (tVar 1) (tC (.int 3))) (tC (.int 4)))))) (tRet (tUn (rU fun i => .int (-i)) (tC (.int 1)))) tNext)
  (tSeq (tAsg (tC (.int 0)) (gName 3))
  (tSeq (tFor (iStr (tVar 0)) (gName 4) (tSeq (tIfS (tTest (tOp rNotInS (tVar 4) (tC (.str "0123456789abcdef")))) (tRet (tUn (rU fun i => .int (-i)) (tC (.int 1)))) tNext)
  (tAsg (tOp rAdd0 (tOp rMul0 (tVar 3) (tC (.int 16))) (tOp (rIxL K) (tLc (NTE.iEnumS (tCons (tC (.str "0123456789abcdef")) tNil)) (gTup K 2 (gCons (gName 5) (gCons (gName 6) gNil))) (tTest (tOp rEq (tVar 6) (tVar 4))) (tVar 5) [5, 6]) (tC (.int 0)))) (gName 3))))
  (tRet (tIf (tTest (tOp rLt (tVar 3) (tVar 2))) (tVar 3) (tUn (rU fun i => .int (-i)) (tC (.int 1))))))))
theorem rd__law_due (K : PySem.W.Frag) (Z : Ad) : ∀ vs H Q E, sp__law_due K Z vs H Q E → t__law_due K Z { nx := fun _ H' => Q .non H', rt := Q } (start (["_law_text", "_law_wide_here", "_law_size", "_law_found", "_law_sign", "_law_k", "_law_one"]) vs) H := by
  rintro _ H Q E ⟨l, b, L, rfl, s, hb, hl, q⟩
  have hls : (⟨l.toArray⟩ : Str).length ≤ sizeLine := by
    show l.toArray.size ≤ _
    rw [List.size_toArray, sizeLine_eq]; omega
  have hl2 : (((⟨l.toArray⟩ : Str).length : Nat) : Int) = (l.length : Nat) := by
    show ((l.toArray.size : Nat) : Int) = _
    rw [List.size_toArray]
  show t__law_due K Z _ [some (.str ⟨l.toArray⟩), some (.int b), some (.int (2 ^ b)), none, none, none, none] H
  unfold t__law_due
  walk_at "on"
  walk_at "go"
  refine ⟨_, rfl, hls, ?_⟩
  rw [hl2]
  walk_at "go"
  have ew : ((b : Int) + 3) / 4 = ((wd b : Nat) : Int) := by unfold wd; omega
  rw [ew]
  refine g_iteN (pr := ((l.length : Nat) : Int) = ((wd b : Nat) : Int)) (fun hc => ?_) fun hc => ?_
  · walk_at "go"
    have := q H s
    rw [dueL_no fun g => hc (by rw [g.1])] at this
    exact this
  · have hw8 : wd b ≤ 8 := by unfold wd; omega
    walk_at "go"
    walk_at "go"
    refine sf_str s (fun i σ' L' => ∃ y4 y5 y6, σ' = [some (.str ⟨l.toArray⟩), some (.int b), some (.int (2 ^ b)), some (.int (val (l.take i))), y4, y5, y6] ∧ L' = L ∧ ∀ c ∈ l.take i, c ∈ figL) ⟨_, _, _, rfl, rfl, fun _ h => (by cases h)⟩ ?_ ?_
    · rintro i c σ' L' H1 hc2 ⟨y4, y5, y6, rfl, rfl, hall⟩ s1
      have hc3 : l[i]? = some c := by rw [← hc2]; simp
      have hi8 := (List.getElem?_eq_some_iff.mp hc3).1
      walk_at "go"
      walk_at "on"
      refine s_notInS ?_
      rw [fig_list]
      walk_at "go"
      refine g_iteN (pr := c ∈ figL) (fun hm => ?_) fun hm => ?_
      · walk_at "go"
        have := q H1 s1
        rw [dueL_no fun g => hm (g.2.1 c (List.mem_of_getElem? hc3))] at this
        exact this
      · have hv := val_lt (l := l.take i) hall
        have hle : (16 : Int) ^ (l.take i).length ≤ 16 ^ 8 := by
          have hk : (l.take i).length ≤ 8 := by rw [List.length_take]; omega
          exact_mod_cast Nat.pow_le_pow_right (show 0 < 16 by decide) hk
        have h168 : (16 : Int) ^ 8 = 4294967296 := rfl
        have hu := und_lt hm
        walk_at "go"
        walk_at "go"
        refine fm_enumS s1 (as := figE) (P := fun z => decide (z.2 = c)) (F := fun z => .int (z.1 : Nat)) (by rw [fig_str]; rfl) figE_at (fun D j d T H2 hj s2 => ?_) (fin_fm fun D H2 s2 => ?_)
        · dsimp only [wipe, List.set]
          walk_at "go"
          refine g_ite (fun h => ?_) fun h => ?_
          · have hdc : d = c := by
              injection h with h
              injection h with h
              have h2 : #[d][0]? = #[c][0]? := by rw [h]
              exact Option.some.inj h2
            walk_at "go"
            exact fm_yes hj (decide_eq_true hdc) rfl s2 inferInstance (by show 16 ≤ 100000; decide)
          · exact fm_no hj (decide_eq_false fun e => h (by rw [show d = c from e])) s2 inferInstance
        · have e : ((figE.filter fun z => decide (z.2 = c)).map fun z => V.int (z.1 : Nat)) = [und c].map V.int := by
            rw [← figE_one hm]
            simp only [List.map_map]
            rfl
          rw [e] at s2
          walk_at "go"
          refine ⟨_, ⟨some (.str ⟨#[c]⟩), y5, y6, ?_, rfl, fun d hd => ?_⟩, s2.ent⟩
          · rw [List.take_add_one, hc3, Option.toList_some, val_snoc]
          · rw [List.take_add_one, hc3, Option.toList_some] at hd
            rcases List.mem_append.mp hd with h | h
            · exact hall d h
            · rw [List.mem_singleton.mp h]; exact hm
    · rintro σ' L' H1 ⟨y4, y5, y6, rfl, rfl, hall⟩ s1
      rw [show l.take (⟨l⟩ : Array Nat).size = l from List.take_of_length_le (Nat.le_refl _)] at hall ⊢
      have hv0 := (val_lt hall).1
      walk_at "go"
      refine g_ite (fun h => ?_) fun h => ?_
      · walk_at "go"
        have := q H1 s1
        rw [dueL_yes ⟨by omega, hall, h⟩] at this
        exact this
      · walk_at "go"
        have := q H1 s1
        rw [dueL_no fun g => h g.2.2] at this
        exact this
def t__law_spoilt (K : PySem.W.Frag) (Z : Ad) : TS :=
  (tSeq (tFor (iRng1 (tCons (tCl (sp__law_take K Z) [.pos 0, .pos 1] [] [] 2 0 (fun _ => E0) (tCons (tVar 0) (tCons (tC (.int 4)) tNil)) tNil) tNil)) (gName 2) (tSeq (tAsg (tCl (sp__law_take K Z) [.pos 0, .pos 1] [] [] 2 0 (fun _ => E0) (tCons (tVar 0) (tCons (tOp rAdd0 (tCB rLenStr (tCons (tVar 1) tNil)) (tC (.int 1))) tNil)) tNil) (gName 3))
  (tSeq (tAsg (tOp rIxS (tC (.str "0123456789abcdefABFgx +-_.'")) (tCl (sp__law_take K Z) [.pos 0, .pos 1] [] [] 2 0 (fun _ => E0) (tCons (tVar 0) (tCons (tC (.int 27)) tNil)) tNil)) (gName 4))
  (tSeq (tAsg (tCl (sp__law_take K Z) [.pos 0, .pos 1] [] [] 2 0 (fun _ => E0) (tCons (tVar 0) (tCons (tC (.int 4)) tNil)) tNil) (gName 5))
  (tSeq (tAsg (tLst (tCons (tOp rAddStr (tOp rAddStr (tSl rSlS (tVar 1) tNoPart (tPart (tVar 3))) (tVar 4)) (tSl rSlS (tVar 1) (tPart (tVar 3)) tNoPart)) (tCons (tOp rAddStr (tSl rSlS (tVar 1) tNoPart (tPart (tVar 3))) (tSl rSlS (tVar 1) (tPart (tOp rAdd0 (tVar 3) (tC (.int 1)))) tNoPart)) (tCons (tOp rAddStr (tOp rAddStr (tSl rSlS (tVar 1) tNoPart (tPart (tVar 3))) (tVar 4)) (tSl rSlS (tVar 1) (tPart (tOp rAdd0 (tVar 3) (tC (.int 1)))) tNoPart)) tNil)))) (gName 6))
  (tAsg (tOp (rIxL K) (tOp rCat (tVar 6) (tLst (tCons (tOp rAddStr (tC (.str "f")) (tSl rSlS (tVar 1) (tPart (tC (.int 1))) tNoPart)) tNil))) (tVar 5)) (gName 1)))))))
  (tRet (tVar 1)))
theorem rd__law_spoilt (K : PySem.W.Frag) (Z : Ad) : ∀ vs H Q E, sp__law_spoilt K Z vs H Q E → t__law_spoilt K Z { nx := fun _ H' => Q .non H', rt := Q } (start (["_law_pot_here", "_law_text", "_law_turn", "_law_at", "_law_sign", "_law_way", "_law_some"]) vs) H := by
  rintro _ H Q E ⟨p, z, R, rfl, s, hz, q⟩
  have hsl : sizeLine = 16777216 := sizeLine_eq
  show t__law_spoilt K Z _ [some (.ref p), some (.str z), none, none, none, none, none] H
  unfold t__law_spoilt
  walk_at "go"
  rename_i r H1 r0 r1 s1
  refine sf_rng s1 (by omega) (fun i σ' L' => ∃ (z' : Str) (y2 y3 y4 y5 y6 : Option V), σ' = [some (.ref p), some (.str z'), y2, y3, y4, y5, y6] ∧ L' = ⟨p, PotA⟩ :: R ∧ z'.length + 1 ≤ 9 * 2 ^ i) ⟨z, _, _, _, _, _, rfl, rfl, by show z.length + 1 ≤ 9 * 1; omega⟩ ?_ ?_
  · rintro i σ' L' H2 hi ⟨z', y2, y3, y4, y5, y6, rfl, rfl, hz'⟩ s2
    have hp : 2 ^ i ≤ 2 ^ 2 := Nat.pow_le_pow_right (by decide) (by omega)
    have hz20 : z'.length ≤ 40 := by omega
    walk_at "go"
    refine s_lenS (by omega) ?_
    walk_at "go"
    rename_i a1 H3 a10 a11 s3
    refine s_ixS (by decide +kernel) ⟨by assumption, Int.lt_of_lt_of_le (by assumption) (by decide +kernel)⟩ fun c => ?_
    walk_at "go"
    rename_i q0 H4 _ _ _ w H5 w0 w1 s5 l1 H6 s6 l2 H7 s7 l3 H8 s8
    have hf : (Str.ofString "f").length = 1 := by decide +kernel
    have hc1 : (⟨#[c]⟩ : Str).length = 1 := rfl
    have b1 := cut_le (lo := none) (hi := some q0) (Nat.le_refl z'.length)
    have b2 := cut_le (lo := some q0) (hi := none) (Nat.le_refl z'.length)
    have b3 := cut_le (lo := some (q0 + 1)) (hi := none) (Nat.le_refl z'.length)
    have b4 := cut_le (lo := some 1) (hi := none) (Nat.le_refl z'.length)
    have pick : ∃ z2 : Str, atI ([V.str (cutS z' none (some q0) ++ ⟨#[c]⟩ ++ cutS z' (some q0) none), V.str (cutS z' none (some q0) ++ cutS z' (some (q0 + 1)) none), V.str (cutS z' none (some q0) ++ ⟨#[c]⟩ ++ cutS z' (some (q0 + 1)) none)] ++ [V.str (Str.ofString "f" ++ cutS z' (some 1) none)]) w = some (.str z2) ∧ z2.length ≤ 2 * z'.length + 1 := by
      have hw : w = 0 ∨ w = 1 ∨ w = 2 ∨ w = 3 := by omega
      rcases hw with rfl | rfl | rfl | rfl
      · exact ⟨_, at_0, by rw [app_len, app_len]; omega⟩
      · exact ⟨_, at_1, by rw [app_len]; omega⟩
      · exact ⟨_, at_2, by rw [app_len, app_len]; omega⟩
      · exact ⟨_, at_3, by rw [app_len]; omega⟩
    obtain ⟨z2, hz2, hl2⟩ := pick
    walk_at "go"
    refine ⟨_, ⟨z2, _, _, _, _, _, rfl, rfl, by rw [Nat.pow_succ]; omega⟩, s8.ent⟩
  · rintro σ' L' H2 ⟨z', y2, y3, y4, y5, y6, rfl, rfl, hz'⟩ s2
    walk_at "go"
    have hp : 2 ^ r.toNat ≤ 2 ^ 3 := Nat.pow_le_pow_right (by decide) (by omega)
    exact q z' H2 (by omega) s2
def t_law (K : PySem.W.Frag) (Z : Ad) : TS :=
  (tSeq (tFor (iRng1 (tCons (tCB rMax2 (tCons (tC (.int 1)) (tCons (tCB rMin2 (tCons (tCB (rLenS K) (tCons (tVar 0) tNil)) (tCons (tC (.int 30)) tNil))) tNil))) tNil)) (gName 1) (tSeq (tAsg (tCl (sp__law_pot K Z) [.pos 0, .pos 1] [] [] 2 0 (fun _ => E0) (tCons (tVar 0) (tCons (tVar 1) tNil)) tNil) (gName 2))
  (tSeq (tAsg (tCl (sp__law_wide K Z) [.pos 0] [] [] 1 0 (fun _ => E0) (tCons (tVar 2) tNil) tNil) (gName 3))
  (tSeq (tAsg (tMk Z.Space (sp_Space___init__ K Z) [.pos 0, .pos 1] [.int 8] [] 2 0 (fun _ => E0) (tCons (tVar 3) tNil) tNil) (gName 4))
  (tSeq (tAsg (tMe Z.Space "size" (sp_Space_size K Z) [.pos 0] [] [] 1 0 (fun _ => E0) (tVar 4) tNil tNil) (gName 5))
  (tSeq (tFor (iRng1 (tCons (tC (.int 3)) tNil)) (gName 6) (tSeq (tAsg (tCl (sp__law_spoilt K Z) [.pos 0, .pos 1] [] [] 2 0 (fun _ => E0) (tCons (tVar 2) (tCons (tMe Z.Space "text" (sp_Space_text K Z) [.pos 0, .pos 1] [] [] 2 0 (fun _ => E0) (tVar 4) (tCons (tCl (sp__law_point K Z) [.pos 0, .pos 1] [] [] 2 0 (fun _ => E0) (tCons (tVar 2) (tCons (tVar 5) tNil)) tNil) tNil) tNil) tNil)) tNil) (gName 7))
  (tSeq (tAsg (tCl (sp__law_due K Z) [.pos 0, .pos 1, .pos 2] [] [] 3 0 (fun _ => E0) (tCons (tVar 7) (tCons (tVar 3) (tCons (tVar 5) tNil))) tNil) (gName 8))
  (tSeq (tAsg (tCl (sp__law_read K Z) [.pos 0, .pos 1] [] [] 2 0 (fun _ => E0) (tCons (tVar 4) (tCons (tVar 7) tNil)) tNil) (gName 9))
  (tIfS (tOr (tTest (tOp rNe (tVar 9) (tVar 8))) (tB (tCB (rIsi K) (tCons (tVar 9) (tCons (tC (.ty "bool")) tNil))))) (tRet (tC (.bl false))) tNext)))))
  (tSeq (tAsg (tOp (rIxL K) (tLst (tCons (tC .non) (tCons (tC (.int 7)) (tCons (tC (.int 0)) (tCons (tC (.bl true)) (tCons (tLst tNil) (tCons (tLst (tCons (tC (.str "0")) tNil)) (tCons (tTup (tCons (tC (.str "0")) (tCons (tC (.str "0")) tNil))) (tCons tDNewK (tCons (tLst (tCons (tMe Z.Space "text" (sp_Space_text K Z) [.pos 0, .pos 1] [] [] 2 0 (fun _ => E0) (tVar 4) (tCons (tC (.int 0)) tNil) tNil) tNil)) tNil)))))))))) (tCl (sp__law_take K Z) [.pos 0, .pos 1] [] [] 2 0 (fun _ => E0) (tCons (tVar 2) (tCons (tC (.int 9)) tNil)) tNil)) (gName 10))
  (tIfS (tTest (tOp rNe (tCl (sp__law_read K Z) [.pos 0, .pos 1] [] [] 2 0 (fun _ => E0) (tCons (tVar 4) (tCons (tVar 10) tNil)) tNil) (tUn (rU fun i => .int (-i)) (tC (.int 1))))) (tRet (tC (.bl false))) tNext))))))))
  (tRet (tC (.bl true))))
theorem rd_law (K : PySem.W.Frag) (Z : Ad) : ∀ vs H Q E, sp_law K Z vs H Q E → t_law K Z { nx := fun _ H' => Q .non H', rt := Q } (start (["_law_script", "_law_k", "_law_pot_here", "_law_wide_here", "_law_space", "_law_size", "_law_turn", "_law_text", "_law_due_here", "_law_told", "_law_thing"]) vs) H := by
  rintro _ H Q E ⟨a, ns, rfl, s, hl, q⟩
  show t_law K Z _ [some (.ref a), none, none, none, none, none, none, none, none, none, none] H
  unfold t_law
  walk_at "go"
  refine sf_rng s (by constructor <;> walk_at "ifs") (fun i σ' L' => ∃ y1 y2 y3 y4 y5 y6 y7 y8 y9 y10, σ' = [some (.ref a), y1, y2, y3, y4, y5, y6, y7, y8, y9, y10] ∧ L' = [⟨a, RL K (ns.map V.int)⟩]) ?_ ?_ ?_
  · exact ⟨_, _, _, _, _, _, _, _, _, _, rfl, rfl⟩
  · rintro i _ _ H1 hi ⟨y1, y2, y3, y4, y5, y6, y7, y8, y9, y10, rfl, rfl⟩ s1
    have hi2 : (i : Int) < 30 := by
      refine Int.lt_of_lt_of_le hi ?_
      walk_at "ifs"
    clear hi s
    walk_at "go"
    rename_i pt H2 s2 r H3 hr0 hr1 s3 sp H4 s4
    obtain ⟨b, rfl⟩ : ∃ b : Nat, r = b := ⟨r.toNat, by omega⟩
    rw [Int.toNat_natCast] at s4
    have hm : (8 : Int) ≤ 2 ^ b ∧ (2 : Int) ^ b ≤ 4294967296 := ⟨pw_lo (by omega), pw_hi (by omega)⟩
    have s5 := s4.ent (L' := ⟨sp, SpA Z b⟩ :: ⟨pt, PotA⟩ :: [⟨a, RL K (ns.map V.int)⟩])
    clear s1 s2 s3 s4
    walk_at "go"
    simp only [Int.toNat_natCast]
    refine sf_rng s5 (by decide) (fun j σ' L' => ∃ y6 y7 y8 y9 y10, σ' = [some (.ref a), some (.int i), some (.ref pt), some (.int b), some (.ref sp), some (.int (2 ^ b)), y6, y7, y8, y9, y10] ∧ L' = ⟨sp, SpA Z b⟩ :: ⟨pt, PotA⟩ :: [⟨a, RL K (ns.map V.int)⟩]) ⟨_, _, _, _, _, rfl, rfl⟩ ?_ ?_
    · rintro j σ' L' H5 hj ⟨y6, y7, y8, y9, y10, rfl, rfl⟩ s6
      walk_at "go"
      rename_i r H' r0 r1 s' H6 s7
      refine use_spoilt rfl s7 inferInstance (by show (hx r (wd b)).toArray.size ≤ 8; rw [List.size_toArray, hx_len]; unfold wd; omega) fun z' H7 hz7 s8 => ?_
      obtain ⟨⟨l⟩⟩ := z'
      have hl100 : l.length ≤ 100 := hz7
      walk_at "go"
      refine use_due rfl s8 (by omega) (by omega) fun H8 s9 => ?_
      walk_at "go"
      have s10 := s9.ent (L' := ⟨sp, SpA Z b⟩ :: ⟨pt, PotA⟩ :: [⟨a, RL K (ns.map V.int)⟩])
      refine ⟨sp, b, .str ⟨l.toArray⟩, _, rfl, s10, .inr (.inr (.inr (.inl ⟨_, rfl⟩))), fun z hz => ?_, fun l' H' h s => ?_, fun H' h => absurd rfl (h _)⟩
      · cases hz
        show l.toArray.size ≤ 1000
        rw [List.size_toArray]; omega
      have h2 : l = l' := by
        injection h with h
        injection h with h
        injection h
      subst h2
      walk_at "go"
      refine g_NT rfl ?_
      walk_at "go"
      refine ⟨_, ⟨_, _, _, _, _, rfl, rfl⟩, s.ent⟩
    · rintro σ' L' H5 ⟨y6, y7, y8, y9, y10, rfl, rfl⟩ s6
      walk_at "go"
      rename_i p1 G1 u1 p2 G2 u2 p3 G3 u3 p4 G4 u4 G5 u5 p6 G6 u6 p7 G7 u7 w G8 w0 w1 u8
      have key : ∃ v, atI [.non, .int 7, .int 0, .bl true, .ref p1, .ref p2, .ref p3, .ref p4, .ref p6] w = some v ∧ Th G8 v ∧ ∀ z, v ≠ .str z := by
        have hw : w = 0 ∨ w = 1 ∨ w = 2 ∨ w = 3 ∨ w = 4 ∨ w = 5 ∨ w = 6 ∨ w = 7 ∨ w = 8 := by omega
        rcases hw with rfl | rfl | rfl | rfl | rfl | rfl | rfl | rfl | rfl
        · exact ⟨_, at_0, .inr (.inr (.inl rfl)), fun z => nofun⟩
        · exact ⟨_, at_1, .inl ⟨_, rfl⟩, fun z => nofun⟩
        · exact ⟨_, at_2, .inl ⟨_, rfl⟩, fun z => nofun⟩
        · exact ⟨_, at_3, .inr (.inl ⟨_, rfl⟩), fun z => nofun⟩
        · exact ⟨_, at_4, .inr (.inr (.inr (.inr ⟨_, rfl, .inl ⟨_, u8.at⟩⟩))), fun z => nofun⟩
        · exact ⟨_, at_5, .inr (.inr (.inr (.inr ⟨_, rfl, .inl ⟨_, u8.at⟩⟩))), fun z => nofun⟩
        · exact ⟨_, at_6, .inr (.inr (.inr (.inr ⟨_, rfl, .inr (.inl ⟨_, u8.at⟩)⟩))), fun z => nofun⟩
        · exact ⟨_, at_7, .inr (.inr (.inr (.inr ⟨_, rfl, .inr (.inr ⟨_, u8.at⟩)⟩))), fun z => nofun⟩
        · exact ⟨_, at_8, .inr (.inr (.inr (.inr ⟨_, rfl, .inl ⟨_, u8.at⟩⟩))), fun z => nofun⟩
      obtain ⟨v, hv, ht, hn⟩ := key
      refine s_ixL u8 inferInstance inferInstance hv ?_
      walk_at "go"
      have u9 := u8.ent (L' := ⟨sp, SpA Z b⟩ :: [⟨a, RL K (ns.map V.int)⟩])
      refine ⟨sp, b, v, _, rfl, u9, ht, fun z hz => absurd hz (hn z), fun l' H' h s => absurd h (hn _), fun H' h s => ?_⟩
      walk_at "go"
      refine g_NT rfl ?_
      walk_at "go"
      exact ⟨_, ⟨_, _, _, _, _, _, _, _, _, _, rfl, rfl⟩, s.ent⟩
  · rintro _ _ H1 ⟨y1, y2, y3, y4, y5, y6, y7, y8, y9, y10, rfl, rfl⟩ s1
    walk_at "go"
    exact q _
end NN
/-! own: what the run of the program's top leaves, by facts; tables of code objects, the interpreter's statics -/
namespace NN
open PySem PySem.Spec PyProof.Rows L2 He
def asN (g : Addr → Option Obj) (n : Nat) : List Addr := asD g n ++ [cStatics]
structure SaysN (fa : List Fa) (fn : List DefD) (tf : List Defn) (ex : PySem.W.Frag → Bool) (h : Heap) (K : PySem.W.Frag) : Prop where
  d : SaysD fa fn K
  more : ex K = true
  hd : ∀ p ∈ tf, PySem.W.codeHdIn K (cT K p).1 (cT K p).2 = true
  out : ∀ p ∈ tf, K.lookup (cT K p).2 = none
  empty : ∀ p ∈ tf, h.get? (cT K p).2 = some { cls := .none, data := .fields #[] }
abbrev AlN : Type := AlD × Bool
def obsN (n : Nat) (fa : List Fa) (fn : List DefD) (tf : List Defn) (ex : PySem.W.Frag → Bool) (g : Addr → Option Obj) : AlN := (obsD fa fn (frT g (asN g n)), ex (frT g (asN g n)) && tabsB g tf (frT g (asN g n)))
def valN (fn : List DefD) : AlN := (valD fn, true)
theorem saysN_of {n : Nat} {fa : List Fa} {fn : List DefD} {tf : List Defn} {ex : PySem.W.Frag → Bool} {h : Heap} (e : obsN n fa fn tf ex h.get? = valN fn) : SaysN fa fn tf ex h (frT h.get? (asN h.get? n)) := by
  have e1 : obsD fa fn (frT h.get? (asN h.get? n)) = valD fn := congrArg (fun z : AlN => z.1) e
  have e2 : (ex (frT h.get? (asN h.get? n)) && tabsB h.get? tf (frT h.get? (asN h.get? n))) = true := congrArg (fun z : AlN => z.2) e
  obtain ⟨h1, h2⟩ := ba e2
  have key : ∀ p ∈ tf, PySem.W.codeHdIn (frT h.get? (asN h.get? n)) (cT (frT h.get? (asN h.get? n)) p).1 (cT (frT h.get? (asN h.get? n)) p).2 = true ∧ ∃ o, h.get? (cT (frT h.get? (asN h.get? n)) p).2 = some o ∧ emptyTab o = true := fun p hp => by
    obtain ⟨h3, h4⟩ := ba (List.all_eq_true.mp h2 p hp)
    refine ⟨h3, ?_⟩
    cases q : h.get? (cT (frT h.get? (asN h.get? n)) p).2 with
    | none =>
      rw [q] at h4
      cases h4
    | some o =>
      rw [q] at h4
      exact ⟨o, rfl, h4⟩
  exact ⟨e1, h1, fun p hp => (key p hp).1, fun p hp => by
    obtain ⟨_, o, q, z⟩ := key p hp
    exact frT_none q z, fun p hp => by
    obtain ⟨_, o, q, z⟩ := key p hp
    rw [q, emptyTab_eq z]⟩
def hookN (n : Nat) (fa : List Fa) (fn : List DefD) (tf : List Defn) (ex : PySem.W.Frag → Bool) : PySem.W.Hook where
  α := AlN
  obs := fun s => obsN n fa fn tf ex s.heap.get?
  val := fun _ => valN fn
  says := fun _ h => ∃ K : PySem.W.Frag, K.In h ∧ SaysN fa fn tf ex h K
  of := fun _ _ e => ⟨_, frT_in, saysN_of e⟩
  keeps := fun _ _ _ ⟨K, hK, c⟩ k => ⟨K, PySem.W.Frag.In.keeps hK k, ⟨c.d, c.more, c.hd, c.out, fun p hp => k _ _ (c.empty p hp)⟩⟩
theorem obsN_eq {n : Nat} {fa : List Fa} {fn : List DefD} {tf : List Defn} {ex : PySem.W.Frag → Bool} {g : Addr → Option Obj} {s : Shared} (h : ∀ a, g a = s.heap.get? a) : obsN n fa fn tf ex g = (hookN n fa fn tf ex).obs s := by
  have e : g = s.heap.get? := funext h
  rw [e] <;> rfl
theorem code_eq {K : PySem.W.Frag} {p : Str × Option Str} {x qual : Str} {params : Arguments} {body : List Stmt} {scope : Scope} {dvs : List V} {kws : List (Str × V)} {fd : FuncData} (F : L2.FunD K x qual params body scope dvs kws (fAd K p) fd) : fd.code = .ref (codeOf K p) := by
  obtain ⟨oc, od, dV, kV, doc, pm, an, cdv, ct, osl, rfl, lk, hcd, hD, hK⟩ := F.ex
  obtain ⟨c, rfl⟩ := codeIn_ref hcd
  rw [codeOf_eq lk (c := c) rfl]
/-! own facts as truths -/
def oexB (K : PySem.W.Frag) (C : Addr) : Bool := (match K.lookup C with
  | some ⟨.type "type", _, .cls cd, sl⟩ => (match cd.mro, sl.toList with
    | .ref C' :: bm, [_, _, _, _, some (.builtin n), _] => C' == C && n == "ValueError.__new__" && !cd.hasDel && cd.hasDict && PySem.HandSPX.refsVE bm
    | _, _ => false)
  | _ => false) && (decide (PySem.W.findIn K (.ref C) "__setattr__" = some (some (.builtin "object.__setattr__"))) && (decide (PySem.W.subIn K (.ref C) (.type "BaseException") = some true) && (decide (PySem.W.typeIn K (.ref C) = some (.type "type")) && PySem.W.keepIn K (.ref C))))
theorem oexB_ok {K : PySem.W.Frag} {C : Addr} (q : oexB K C = true) : OexC K C := by
  obtain ⟨q, q1⟩ := ba q
  obtain ⟨q1, q2⟩ := ba q1
  obtain ⟨q2, q3⟩ := ba q2
  obtain ⟨q3, q4⟩ := ba q3
  refine ⟨?_, of_decide_eq_true q1, of_decide_eq_true q2, of_decide_eq_true q3, q4⟩
  split at q
  · rename_i dd cd sl ho
    split at q
    · rename_i C' bm k0 k1 k2 k3 n k5 hm hs
      simp only [Bool.and_eq_true, beq_iff_eq, Bool.not_eq_true'] at q
      obtain ⟨⟨⟨⟨rfl, rfl⟩, hdel⟩, hdc⟩, ht⟩ := q
      obtain ⟨nm, bs, mro, ns, qn, hd, sn, sub, ab, col, del⟩ := cd
      dsimp only at hm hdel hdc
      subst hm hdel hdc
      have hsl : sl = #[k0, k1, k2, k3, some (.builtin "ValueError.__new__"), k5] := by
        obtain ⟨l⟩ := sl
        simp only at hs
        rw [hs]
      subst hsl
      exact ⟨nm, qn, ns, bs, bm, sn, sub, ab, col, dd, k0, k1, k2, k3, k5, ho, ht⟩
    · cases q
  · cases q
def reiB (K : PySem.W.Frag) (R : Addr) : Bool := decide (PySem.W.specialIn K (.ref R) "__getattribute__" = some (some (.builtin "type.__getattribute__"))) && (PySem.W.readsIn K R (.type "type") && (match PySem.W.findCls K (.ref R) (.type "type") "__init__" with
  | some (.val v) => decide (v = .builtin "ValueError.__init__")
  | _ => false))
theorem reiB_ok {K : PySem.W.Frag} {R : Addr} (q : reiB K R = true) : ReI K R := by
  obtain ⟨q1, q⟩ := ba q
  obtain ⟨q2, q3⟩ := ba q
  refine ⟨of_decide_eq_true q1, q2, ?_⟩
  split at q3
  · rename_i v e
    rw [e, of_decide_eq_true q3]
  · cases q3
end NN
namespace NN
open PySem L2
def topS (i : Nat) : Stmt := PySem.Challenge.pw_nearestname_k16_texts_refused.main.body.getD i (.Pass ⟨0, 0, 0, 0⟩)
abbrev s_is_whole : Stmt := topS 11
abbrev s_Space___init__ : Stmt := inClass (topS 12) 0
abbrev s_Space_bits : Stmt := inClass (topS 12) 1
abbrev s_Space_size : Stmt := inClass (topS 12) 2
abbrev s_Space_has : Stmt := inClass (topS 12) 3
abbrev s_Space_width : Stmt := inClass (topS 12) 8
abbrev s_Space_text : Stmt := inClass (topS 12) 9
abbrev s_Space_read : Stmt := inClass (topS 12) 10
abbrev s__law_cell : Stmt := topS 14
abbrev s__law_pot : Stmt := topS 15
abbrev s__law_take : Stmt := topS 16
abbrev s__law_wide : Stmt := topS 17
abbrev s__law_point : Stmt := topS 18
abbrev s__law_due : Stmt := topS 19
abbrev s__law_spoilt : Stmt := topS 20
abbrev s__law_read : Stmt := topS 21
abbrev s_law : Stmt := topS 22
theorem sc_is_whole : FnScope ["thing"] ["thing"] (defScope s_is_whole) := ⟨rfl, rfl, rfl, by decide +kernel, rfl, by decide +kernel, by decide +kernel⟩
theorem sc_Space___init__ : FnScope ["self", "bits"] ["self", "bits"] (defScope s_Space___init__) := ⟨rfl, rfl, rfl, by decide +kernel, rfl, by decide +kernel, by decide +kernel⟩
theorem sc_Space_bits : FnScope ["self"] ["self"] (defScope s_Space_bits) := ⟨rfl, rfl, rfl, by decide +kernel, rfl, by decide +kernel, by decide +kernel⟩
theorem sc_Space_size : FnScope ["self"] ["self"] (defScope s_Space_size) := ⟨rfl, rfl, rfl, by decide +kernel, rfl, by decide +kernel, by decide +kernel⟩
theorem sc_Space_has : FnScope ["self", "thing"] ["self", "thing"] (defScope s_Space_has) := ⟨rfl, rfl, rfl, by decide +kernel, rfl, by decide +kernel, by decide +kernel⟩
theorem sc_Space_width : FnScope ["self"] ["self"] (defScope s_Space_width) := ⟨rfl, rfl, rfl, by decide +kernel, rfl, by decide +kernel, by decide +kernel⟩
theorem sc_Space_text : FnScope ["self", "point", "found", "left", "k", "figure"] ["self", "point"] (defScope s_Space_text) := ⟨rfl, rfl, rfl, by decide +kernel, rfl, by decide +kernel, by decide +kernel⟩
theorem sc_Space_read : FnScope ["self", "text", "sign", "found"] ["self", "text"] (defScope s_Space_read) := ⟨rfl, rfl, rfl, by decide +kernel, rfl, by decide +kernel, by decide +kernel⟩
theorem sc__law_cell : FnScope ["_law_script", "_law_k"] ["_law_script", "_law_k"] (defScope s__law_cell) := ⟨rfl, rfl, rfl, by decide +kernel, rfl, by decide +kernel, by decide +kernel⟩
theorem sc__law_pot : FnScope ["_law_script", "_law_k", "_law_cell_here"] ["_law_script", "_law_k"] (defScope s__law_pot) := ⟨rfl, rfl, rfl, by decide +kernel, rfl, by decide +kernel, by decide +kernel⟩
theorem sc__law_take : FnScope ["_law_pot_here", "_law_room", "_law_digit"] ["_law_pot_here", "_law_room"] (defScope s__law_take) := ⟨rfl, rfl, rfl, by decide +kernel, rfl, by decide +kernel, by decide +kernel⟩
theorem sc__law_wide : FnScope ["_law_pot_here"] ["_law_pot_here"] (defScope s__law_wide) := ⟨rfl, rfl, rfl, by decide +kernel, rfl, by decide +kernel, by decide +kernel⟩
theorem sc__law_point : FnScope ["_law_pot_here", "_law_size", "_law_way"] ["_law_pot_here", "_law_size"] (defScope s__law_point) := ⟨rfl, rfl, rfl, by decide +kernel, rfl, by decide +kernel, by decide +kernel⟩
theorem sc__law_due : FnScope ["_law_text", "_law_wide_here", "_law_size", "_law_found", "_law_sign", "_law_k", "_law_one"] ["_law_text", "_law_wide_here", "_law_size"] (defScope s__law_due) := ⟨rfl, rfl, rfl, by decide +kernel, rfl, by decide +kernel, by decide +kernel⟩
theorem sc__law_spoilt : FnScope ["_law_pot_here", "_law_text", "_law_turn", "_law_at", "_law_sign", "_law_way", "_law_some"] ["_law_pot_here", "_law_text"] (defScope s__law_spoilt) := ⟨rfl, rfl, rfl, by decide +kernel, rfl, by decide +kernel, by decide +kernel⟩
theorem sc__law_read : FnScope ["_law_space", "_law_thing", "_law_found", "_law_told", "e"] ["_law_space", "_law_thing"] (defScope s__law_read) := ⟨rfl, rfl, rfl, by decide +kernel, rfl, by decide +kernel, by decide +kernel⟩
theorem sc_law : FnScope ["_law_script", "_law_k", "_law_pot_here", "_law_wide_here", "_law_space", "_law_size", "_law_turn", "_law_text", "_law_due_here", "_law_told", "_law_thing"] ["_law_script"] (defScope s_law) := ⟨rfl, rfl, rfl, by decide +kernel, rfl, by decide +kernel, by decide +kernel⟩
theorem cb_is_whole_1 {K : PySem.W.Frag} {f : Addr} {fd : FuncData} (F : FunS K "is_whole" "is_whole" s_is_whole [] [] f fd) : CallB K fd ["thing"] 1 [] [.pos 0] [] [] :=
  callb_p F (fun _ _ _ _ _ _ us ws hn hm => match us, hn, ws, hm with | [_], _, [], _ => rfl)
theorem cb_Space_size_1 {K : PySem.W.Frag} {f : Addr} {fd : FuncData} (F : FunS K "size" "Space.size" s_Space_size [] [] f fd) : CallB K fd ["self"] 1 [] [.pos 0] [] [] :=
  callb_p F (fun _ _ _ _ _ _ us ws hn hm => match us, hn, ws, hm with | [_], _, [], _ => rfl)
theorem cb_Space_width_1 {K : PySem.W.Frag} {f : Addr} {fd : FuncData} (F : FunS K "width" "Space.width" s_Space_width [] [] f fd) : CallB K fd ["self"] 1 [] [.pos 0] [] [] :=
  callb_p F (fun _ _ _ _ _ _ us ws hn hm => match us, hn, ws, hm with | [_], _, [], _ => rfl)
theorem cb_Space_has_2 {K : PySem.W.Frag} {f : Addr} {fd : FuncData} (F : FunS K "has" "Space.has" s_Space_has [] [] f fd) : CallB K fd ["self", "thing"] 2 [] [.pos 0, .pos 1] [] [] :=
  callb_p F (fun _ _ _ _ _ _ us ws hn hm => match us, hn, ws, hm with | [_, _], _, [], _ => rfl)
theorem cb__law_cell_2 {K : PySem.W.Frag} {f : Addr} {fd : FuncData} (F : FunS K "_law_cell" "_law_cell" s__law_cell [] [] f fd) : CallB K fd ["_law_script", "_law_k"] 2 [] [.pos 0, .pos 1] [] [] :=
  callb_p F (fun _ _ _ _ _ _ us ws hn hm => match us, hn, ws, hm with | [_, _], _, [], _ => rfl)
theorem cb__law_take_2 {K : PySem.W.Frag} {f : Addr} {fd : FuncData} (F : FunS K "_law_take" "_law_take" s__law_take [] [] f fd) : CallB K fd ["_law_pot_here", "_law_room"] 2 [] [.pos 0, .pos 1] [] [] :=
  callb_p F (fun _ _ _ _ _ _ us ws hn hm => match us, hn, ws, hm with | [_, _], _, [], _ => rfl)
theorem cb_Space_read_2 {K : PySem.W.Frag} {f : Addr} {fd : FuncData} (F : FunS K "read" "Space.read" s_Space_read [] [] f fd) : CallB K fd ["self", "text"] 2 [] [.pos 0, .pos 1] [] [] :=
  callb_p F (fun _ _ _ _ _ _ us ws hn hm => match us, hn, ws, hm with | [_, _], _, [], _ => rfl)
theorem cb__law_pot_2 {K : PySem.W.Frag} {f : Addr} {fd : FuncData} (F : FunS K "_law_pot" "_law_pot" s__law_pot [] [] f fd) : CallB K fd ["_law_script", "_law_k"] 2 [] [.pos 0, .pos 1] [] [] :=
  callb_p F (fun _ _ _ _ _ _ us ws hn hm => match us, hn, ws, hm with | [_, _], _, [], _ => rfl)
theorem cb__law_wide_1 {K : PySem.W.Frag} {f : Addr} {fd : FuncData} (F : FunS K "_law_wide" "_law_wide" s__law_wide [] [] f fd) : CallB K fd ["_law_pot_here"] 1 [] [.pos 0] [] [] :=
  callb_p F (fun _ _ _ _ _ _ us ws hn hm => match us, hn, ws, hm with | [_], _, [], _ => rfl)
theorem cb_Space___init___2 {K : PySem.W.Frag} {f : Addr} {fd : FuncData} (F : FunS K "__init__" "Space.__init__" s_Space___init__ [.int 8] [] f fd) : CallB K fd ["self", "bits"] 2 [] [.pos 0, .pos 1] [.int 8] [] :=
  callb_d F (by simp) (fun _ _ _ _ _ _ _ us ws its hn hm hd => match us, hn, ws, hm, its, hd with | [_, _], _, [], _, [_], _ => ⟨_, rfl, rfl⟩)
theorem cb__law_point_2 {K : PySem.W.Frag} {f : Addr} {fd : FuncData} (F : FunS K "_law_point" "_law_point" s__law_point [] [] f fd) : CallB K fd ["_law_pot_here", "_law_size"] 2 [] [.pos 0, .pos 1] [] [] :=
  callb_p F (fun _ _ _ _ _ _ us ws hn hm => match us, hn, ws, hm with | [_, _], _, [], _ => rfl)
theorem cb_Space_text_2 {K : PySem.W.Frag} {f : Addr} {fd : FuncData} (F : FunS K "text" "Space.text" s_Space_text [] [] f fd) : CallB K fd ["self", "point"] 2 [] [.pos 0, .pos 1] [] [] :=
  callb_p F (fun _ _ _ _ _ _ us ws hn hm => match us, hn, ws, hm with | [_, _], _, [], _ => rfl)
theorem cb__law_spoilt_2 {K : PySem.W.Frag} {f : Addr} {fd : FuncData} (F : FunS K "_law_spoilt" "_law_spoilt" s__law_spoilt [] [] f fd) : CallB K fd ["_law_pot_here", "_law_text"] 2 [] [.pos 0, .pos 1] [] [] :=
  callb_p F (fun _ _ _ _ _ _ us ws hn hm => match us, hn, ws, hm with | [_, _], _, [], _ => rfl)
theorem cb__law_due_3 {K : PySem.W.Frag} {f : Addr} {fd : FuncData} (F : FunS K "_law_due" "_law_due" s__law_due [] [] f fd) : CallB K fd ["_law_text", "_law_wide_here", "_law_size"] 3 [] [.pos 0, .pos 1, .pos 2] [] [] :=
  callb_p F (fun _ _ _ _ _ _ us ws hn hm => match us, hn, ws, hm with | [_, _, _], _, [], _ => rfl)
theorem cb__law_read_2 {K : PySem.W.Frag} {f : Addr} {fd : FuncData} (F : FunS K "_law_read" "_law_read" s__law_read [] [] f fd) : CallB K fd ["_law_space", "_law_thing"] 2 [] [.pos 0, .pos 1] [] [] :=
  callb_p F (fun _ _ _ _ _ _ us ws hn hm => match us, hn, ws, hm with | [_, _], _, [], _ => rfl)
structure Txt (K : PySem.W.Frag) (mg : Str → Option Value) (Z : Ad) (base : Heap) : Prop where
  c_NoPoint : mg "NoPoint" = some (.ref Z.NoPoint)
  c_NoSpace : mg "NoSpace" = some (.ref Z.NoSpace)
  c_RingError : mg "RingError" = some (.ref Z.RingError)
  c_Space : mg "Space" = some (.ref Z.Space)
  cl_Space : Cls K Z.Space
  na_Space_own_bits : NoAttr K Z.Space "own_bits"
  x_NoPoint : PySem.W.excIn K Z.NoPoint [.type "ValueError", .type "Exception", .type "BaseException", .type "object"] "ValueError.__new__" = true
  kp_NoPoint : PySem.W.keepIn K (.ref Z.NoPoint) = true
  b_NoPoint : PySem.W.subIn K (.ref Z.NoPoint) (.type "BaseException") = some true
  t_NoPoint : PySem.W.typeIn K (.ref Z.NoPoint) = some (.type "type")
  x_NoSpace : PySem.W.excIn K Z.NoSpace [.type "ValueError", .type "Exception", .type "BaseException", .type "object"] "ValueError.__new__" = true
  kp_NoSpace : PySem.W.keepIn K (.ref Z.NoSpace) = true
  b_NoSpace : PySem.W.subIn K (.ref Z.NoSpace) (.type "BaseException") = some true
  t_NoSpace : PySem.W.typeIn K (.ref Z.NoSpace) = some (.type "type")
  f_is_whole : DF K mg "is_whole" s_is_whole [] []
  f_Space___init__ : IF K Z.Space "Space.__init__" s_Space___init__ [.int 8] []
  f_Space_bits : MF K Z.Space "bits" "Space.bits" s_Space_bits [] []
  f_Space_size : MF K Z.Space "size" "Space.size" s_Space_size [] []
  f_Space_has : MF K Z.Space "has" "Space.has" s_Space_has [] []
  f_Space_width : MF K Z.Space "width" "Space.width" s_Space_width [] []
  f_Space_text : MF K Z.Space "text" "Space.text" s_Space_text [] []
  f_Space_read : MF K Z.Space "read" "Space.read" s_Space_read [] []
  f__law_cell : DF K mg "_law_cell" s__law_cell [] []
  f__law_pot : DF K mg "_law_pot" s__law_pot [] []
  f__law_take : DF K mg "_law_take" s__law_take [] []
  f__law_wide : DF K mg "_law_wide" s__law_wide [] []
  f__law_point : DF K mg "_law_point" s__law_point [] []
  f__law_due : DF K mg "_law_due" s__law_due [] []
  f__law_spoilt : DF K mg "_law_spoilt" s__law_spoilt [] []
  f__law_read : DF K mg "_law_read" s__law_read [] []
  f_law : DF K mg "law" s_law [] []
  n_ValueError : mg "ValueError" = none
  n_abs : mg "abs" = none
  n_all : mg "all" = none
  n_bool : mg "bool" = none
  n_divmod : mg "divmod" = none
  n_enumerate : mg "enumerate" = none
  n_int : mg "int" = none
  n_isinstance : mg "isinstance" = none
  n_len : mg "len" = none
  n_max : mg "max" = none
  n_min : mg "min" = none
  n_range : mg "range" = none
  n_str : mg "str" = none
  c_BITS_OF_A_FIGURE : ∃ t, mg "BITS_OF_A_FIGURE" = some (.int 4 t)
  c_FIGURES : ∃ t, mg "FIGURES" = some (.str "0123456789abcdef" t)
  c_LEAST_BITS : ∃ t, mg "LEAST_BITS" = some (.int 3 t)
  c_MOST_BITS : ∃ t, mg "MOST_BITS" = some (.int 32 t)
  gh5 : PySem.W.specialIn K (.builtin "object.__class__") "__get__" = some (some (.builtin "getset_descriptor.__get__"))
  gh6 : PySem.W.takesIn K (.builtin "object.__class__") = some true
  gh1NoPoint : PySem.W.findIn K (.ref Z.NoPoint) "__getattribute__" = some (some (.builtin "BaseException.__getattribute__"))
  gh2NoPoint : PySem.W.findIn K (.ref Z.NoPoint) "__getattr__" = some none
  gh3NoPoint : PySem.W.hasDictIn K Z.NoPoint = true
  gh4NoPoint : PySem.W.findIn K (.ref Z.NoPoint) "__class__" = some (some (.builtin "object.__class__"))
  gh7NoPoint : PySem.W.mroIn K Z.NoPoint (.type "object") = some true
  ex1 : PySem.W.exmOne K (.ref Z.NoPoint) (.ref Z.RingError) = some true
  ki1 : PySem.W.kitOne K (.ref Z.NoPoint) (.ref Z.NoPoint) = some true
  ki2 : PySem.W.kitOne K (.ref Z.NoPoint) (.type "ValueError") = some true
  ki3 : PySem.W.kitOne K (.ref Z.NoPoint) (.ref Z.NoSpace) = some false
section
variable {P : Program} {w : World} {K : PySem.W.Frag} {mg : Str → Option Value} {base : Heap} {Z : Ad}
theorem ok_is_whole (T : Txt K mg Z base) : DK P w K mg base CX0 1 "is_whole" ["thing"] s_is_whole [] [] (sp_is_whole K Z) :=
  T.f_is_whole.mk2 fun f fd F => fn0 F sc_is_whole (by intro vs H Q E h; unfold sp_is_whole at h; (repeat (obtain ⟨_, h⟩ := h)); subst_vars; rfl) (fun f cdv A outer s H E hr => (pss_one (ps_ret (pe_and (pe_callB call_isi (by rfl) T.n_isinstance (by decide +kernel) (pa_cons (pv 0) (pa_cons (pe_bltn (v := .ty "int") (by rfl) T.n_int (by decide +kernel) rfl) pa_nil))) (pe_one (pe_not (pe_callB call_isi (by rfl) T.n_isinstance (by decide +kernel) (pa_cons (pv 0) (pa_cons (pe_bltn (v := .ty "bool") (by rfl) T.n_bool (by decide +kernel) rfl) pa_nil))))))))) (rd_is_whole K Z)
theorem ok_Space___init__ (T : Txt K mg Z base) : IK P w K mg base (L2.CX P w) 2 Z.Space "Space.__init__" ["self", "bits"] s_Space___init__ [.int 8] [] (sp_Space___init__ K Z) :=
  T.f_Space___init__.mk2 fun f fd F => fnx F sc_Space___init__ (by intro vs H Q E h; unfold sp_Space___init__ at h; (repeat (obtain ⟨_, h⟩ := h)); subst_vars; rfl) (fun f cdv A outer s H E hr => (pss_cons (ps_if (PW.pt (pw_or (pt_not (pt_val (pe_dk (ok_is_whole T) hr (by decide) (by rfl) cb_is_whole_1 xa0 (par_pos (pa_cons (pv 1) pa_nil))))) (pw_or1 (pt_not (pt_chain op_le op_le (pe_gI (by rfl) T.c_LEAST_BITS) (pv 1) (pe_gI (by rfl) T.c_MOST_BITS)))))) (pss_one (ps_raise rfl (takes_of rfl rfl rfl rfl) (pmk_own PySem.F.excBase_ValueError T.x_NoSpace T.c_NoSpace T.kp_NoSpace (raises_own T.b_NoSpace T.t_NoSpace) rfl))) pss_nil)
      (pss_one (ps_fld (pv 0) (pv 1) rfl)))) (rd_Space___init__ K Z ⟨T.cl_Space, T.na_Space_own_bits⟩)
theorem ok_Space_bits (T : Txt K mg Z base) : MK P w K mg base CX0 1 Z.Space "bits" "Space.bits" ["self"] s_Space_bits [] [] (sp_Space_bits K Z) :=
  T.f_Space_bits.mk2 fun f fd F => fn0 F sc_Space_bits (by intro vs H Q E h; unfold sp_Space_bits at h; (repeat (obtain ⟨_, h⟩ := h)); subst_vars; rfl) (fun f cdv A outer s H E hr => (pss_one (ps_ret (pe_fld (pv 0) rfl)))) (rd_Space_bits K Z ⟨T.cl_Space, T.na_Space_own_bits⟩)
theorem ok_Space_size (T : Txt K mg Z base) : MK P w K mg base CX0 1 Z.Space "size" "Space.size" ["self"] s_Space_size [] [] (sp_Space_size K Z) :=
  T.f_Space_size.mk2 fun f fd F => fn0 F sc_Space_size (by intro vs H Q E h; unfold sp_Space_size at h; (repeat (obtain ⟨_, h⟩ := h)); subst_vars; rfl) (fun f cdv A outer s H E hr => (pss_one (ps_ret (pe_op op_shl pe_int (pe_fld (pv 0) rfl))))) (rd_Space_size K Z ⟨T.cl_Space, T.na_Space_own_bits⟩)
theorem ok_Space_has (T : Txt K mg Z base) : MK P w K mg base CX0 2 Z.Space "has" "Space.has" ["self", "thing"] s_Space_has [] [] (sp_Space_has K Z) :=
  T.f_Space_has.mk2 fun f fd F => fn0 F sc_Space_has (by intro vs H Q E h; unfold sp_Space_has at h; (repeat (obtain ⟨_, h⟩ := h)); subst_vars; rfl) (fun f cdv A outer s H E hr => (pss_one (ps_ret (pe_and (pe_dk (ok_is_whole T) hr (by decide) (by rfl) cb_is_whole_1 xa0 (par_pos (pa_cons (pv 1) pa_nil))) (pe_one (pe_chain op_le op_lt pe_int (pv 1) (pe_mkk (ok_Space_size T) (pv 0) T.cl_Space hr (by decide) cb_Space_size_1 xa0 par_0))))))) (rd_Space_has K Z)
theorem ok_Space_width (T : Txt K mg Z base) : MK P w K mg base CX0 1 Z.Space "width" "Space.width" ["self"] s_Space_width [] [] (sp_Space_width K Z) :=
  T.f_Space_width.mk2 fun f fd F => fn0 F sc_Space_width (by intro vs H Q E h; unfold sp_Space_width at h; (repeat (obtain ⟨_, h⟩ := h)); subst_vars; rfl) (fun f cdv A outer s H E hr => (pss_one (ps_ret (pe_op op_fdivW (pe_op op_sub (pe_op op_add (pe_fld (pv 0) rfl) (pe_gI (by rfl) T.c_BITS_OF_A_FIGURE)) pe_int) (pe_gI (by rfl) T.c_BITS_OF_A_FIGURE))))) (rd_Space_width K Z ⟨T.cl_Space, T.na_Space_own_bits⟩)
theorem ok_Space_text (T : Txt K mg Z base) : MK P w K mg base CX0 2 Z.Space "text" "Space.text" ["self", "point"] s_Space_text [] [] (sp_Space_text K Z) :=
  T.f_Space_text.mk2 fun f fd F => fn0 F sc_Space_text (by intro vs H Q E h; unfold sp_Space_text at h; (repeat (obtain ⟨_, h⟩ := h)); subst_vars; rfl) (fun f cdv A outer s H E hr => (pss_cons (ps_set (i := 2) sc_Space_text.nd rfl (.inl rfl) pe_str)
      (pss_cons (ps_set (i := 3) sc_Space_text.nd rfl (.inl rfl) (pv 1))
      (pss_cons (ps_for PassesOwn.never rfl (pi_range1 rfl T.n_range (pa_cons (pe_mkk (ok_Space_width T) (pv 0) T.cl_Space hr (by decide) cb_Space_width_1 xa0 par_0) pa_nil)) (pg_name (i := 4) sc_Space_text.nd rfl (Or.inl rfl)) (pss_cons (ps_asg (pe_callB call_dm (by rfl) T.n_divmod (by decide +kernel) (pa_cons (pv 3) (pa_cons (pe_callB call_len_str (by rfl) T.n_len (by decide +kernel) (pa_cons (pe_gS (by rfl) T.c_FIGURES) pa_nil)) pa_nil))) (pg_tup rfl (pgs_cons (pg_name (i := 3) sc_Space_text.nd rfl (Or.inl rfl)) (pgs_cons (pg_name (i := 5) sc_Space_text.nd rfl (Or.inl rfl)) pgs_nil))))
      (pss_one (ps_set (i := 2) sc_Space_text.nd rfl (.inl rfl) (pe_op op_add_str (pe_ix ix_str (pe_gS (by rfl) T.c_FIGURES) (pv 5) (fun _ _ => rfl)) (pv 2))))))
      (pss_one (ps_ret (pv 2))))))) (rd_Space_text K Z)
theorem ok_Space_read (T : Txt K mg Z base) : MK P w K mg base (L2.CX P w) 3 Z.Space "read" "Space.read" ["self", "text"] s_Space_read [] [] (sp_Space_read K Z) :=
  T.f_Space_read.mk2 fun f fd F => fnx F sc_Space_read (by intro vs H Q E h; unfold sp_Space_read at h; (repeat (obtain ⟨_, h⟩ := h)); subst_vars; rfl) (fun f cdv A outer s H E hr => (pss_cons (ps_if (PW.pt (pw_or (pt_not (pt_val (pe_callB call_isi (by rfl) T.n_isinstance (by decide +kernel) (pa_cons (pv 1) (pa_cons (pe_bltn (v := .ty "str") (by rfl) T.n_str (by decide +kernel) rfl) pa_nil))))) (pw_or (pt_cmpR op_ne (pe_callB call_len_str (by rfl) T.n_len (by decide +kernel) (pa_cons (pv 1) pa_nil)) (pe_mkk (ok_Space_width T) (pv 0) T.cl_Space hr (by decide) cb_Space_width_1 xa0 par_0) (nomark _)) (pw_or1 (pt_not (pt_val (pe_callB (cr_all rfl) (by rfl) T.n_all (by decide +kernel) (pa_cons (pe_lc (own := [("sign", 2)]) rfl sc_Space_read.nd (pi_str (pv 1)) (blkOk_by (N := ["self", "text", "sign", "found"]) (sc := defScope s_Space_read) (by decide +kernel)) (fun _ _ _ _ _ => (pg_name (i := 2) sc_Space_read.nd rfl (Or.inl rfl))) (fun _ _ _ _ _ => pts_nil) (fun _ _ _ _ _ => (pe_cmpR op_inS (pv 2) (pe_gS (by rfl) T.c_FIGURES) (by rfl)))) pa_nil)))))))) (pss_one (ps_raise rfl (takes_of rfl rfl rfl rfl) (pmk_own PySem.F.excBase_ValueError T.x_NoPoint T.c_NoPoint T.kp_NoPoint (raises_own T.b_NoPoint T.t_NoPoint) rfl))) pss_nil)
      (pss_cons (ps_set (i := 3) sc_Space_read.nd rfl (.inl rfl) pe_int)
      (pss_cons (ps_for (passes_of rfl) rfl (pi_str (pv 1)) (pg_name (i := 2) sc_Space_read.nd rfl (Or.inl rfl)) (pss_one (ps_set (i := 3) sc_Space_read.nd rfl (.inl rfl) (pe_op op_add (pe_op op_mul (pv 3) (pe_callB call_len_str (by rfl) T.n_len (by decide +kernel) (pa_cons (pe_gS (by rfl) T.c_FIGURES) pa_nil))) (pe_bm PySem.F.plainAttrs_str PySem.F.slot_str_index PySem.F.type_str_index mt_sindex (pe_gS (by rfl) T.c_FIGURES) (pa_cons (pv 2) pa_nil))))))
      (pss_cons (ps_if (pt_not (pt_val (pe_mkk (ok_Space_has T) (pv 0) T.cl_Space hr (by decide) cb_Space_has_2 xa0 (par_pos (pa_cons (pv 3) pa_nil))))) (pss_one (ps_raise rfl (takes_of rfl rfl rfl rfl) (pmk_own PySem.F.excBase_ValueError T.x_NoPoint T.c_NoPoint T.kp_NoPoint (raises_own T.b_NoPoint T.t_NoPoint) rfl))) pss_nil)
      (pss_one (ps_ret (pv 3)))))))) (rd_Space_read K Z)
theorem ok__law_cell (T : Txt K mg Z base) : DK P w K mg base CX0 1 "_law_cell" ["_law_script", "_law_k"] s__law_cell [] [] (sp__law_cell K Z) :=
  T.f__law_cell.mk2 fun f fd F => fn0 F sc__law_cell (by intro vs H Q E h; unfold sp__law_cell at h; (repeat (obtain ⟨_, h⟩ := h)); subst_vars; rfl) (fun f cdv A outer s H E hr => (pss_one (ps_ret (pe_ifExp (pt_cmpR op_lt (pv 1) (pe_callB call_len_seq (by rfl) T.n_len (by decide +kernel) (pa_cons (pv 0) pa_nil)) (nomark _)) (pe_ix ix_list (pv 0) (pv 1) (fun _ _ => rfl)) pe_int)))) (rd__law_cell K Z)
theorem ok__law_pot (T : Txt K mg Z base) : DK P w K mg base CX0 2 "_law_pot" ["_law_script", "_law_k"] s__law_pot [] [] (sp__law_pot K Z) :=
  T.f__law_pot.mk2 fun f fd F => fn0 F sc__law_pot (by intro vs H Q E h; unfold sp__law_pot at h; (repeat (obtain ⟨_, h⟩ := h)); subst_vars; rfl) (fun f cdv A outer s H E hr => (pss_cons (ps_set (i := 2) sc__law_pot.nd rfl (.inl rfl) (pe_dk (ok__law_cell T) hr (by decide) (by rfl) cb__law_cell_2 xa0 (par_pos (pa_cons (pv 0) (pa_cons (pv 1) pa_nil)))))
      (pss_one (ps_ret (pe_lst (pa_cons (pe_callB (call_max2 rfl) (by rfl) T.n_max (by decide +kernel) (pa_cons pe_int (pa_cons (pe_op op_sub (pv 2) (pe_op op_pow pe_int pe_int)) pa_nil))) (pa_cons (pe_op op_mod (pe_op op_add (pe_op op_add (pe_op op_add (pe_op op_mul (pe_op op_mod (pe_callB call_abs (by rfl) T.n_abs (by decide +kernel) (pa_cons (pv 2) pa_nil)) pe_int) pe_int) (pe_op op_mul (pe_op op_mul pe_int (pv 1)) (pv 1))) (pe_op op_mul pe_int (pv 1))) pe_int) pe_int) pa_nil))))))) (rd__law_pot K Z)
theorem ok__law_take (T : Txt K mg Z base) : DK P w K mg base CX0 1 "_law_take" ["_law_pot_here", "_law_room"] s__law_take [] [] (sp__law_take K Z) :=
  T.f__law_take.mk2 fun f fd F => fn0 F sc__law_take (by intro vs H Q E h; unfold sp__law_take at h; (repeat (obtain ⟨_, h⟩ := h)); subst_vars; rfl) (fun f cdv A outer s H E hr => (pss_cons (ps_if (pt_cmpR op_gt (pe_ix ix_list (pv 0) pe_int (fun _ _ => rfl)) pe_int (nomark _)) (pss_cons (ps_set (i := 2) sc__law_take.nd rfl (.inl rfl) (pe_op op_mod (pe_ix ix_list (pv 0) pe_int (fun _ _ => rfl)) (pv 1)))
      (pss_cons (ps_asg (pe_op op_fdivW (pe_ix ix_list (pv 0) pe_int (fun _ _ => rfl)) (pv 1)) (pg_sub (pv 0) pe_int set_list))
      (pss_one (ps_ret (pv 2))))) pss_nil)
      (pss_cons (ps_asg (pe_op op_mod (pe_op op_add (pe_op op_mul (pe_ix ix_list (pv 0) pe_int (fun _ _ => rfl)) pe_int) pe_int) pe_int) (pg_sub (pv 0) pe_int set_list))
      (pss_one (ps_ret (pe_op op_mod (pe_op op_fdivW (pe_op op_mod (pe_op op_mul (pe_ix ix_list (pv 0) pe_int (fun _ _ => rfl)) (pe_ix ix_list (pv 0) pe_int (fun _ _ => rfl))) pe_int) pe_int) (pv 1))))))) (rd__law_take K Z)
theorem ok__law_wide (T : Txt K mg Z base) : DK P w K mg base CX0 2 "_law_wide" ["_law_pot_here"] s__law_wide [] [] (sp__law_wide K Z) :=
  T.f__law_wide.mk2 fun f fd F => fn0 F sc__law_wide (by intro vs H Q E h; unfold sp__law_wide at h; (repeat (obtain ⟨_, h⟩ := h)); subst_vars; rfl) (fun f cdv A outer s H E hr => (pss_one (ps_ret (pe_ix ix_list (pe_lst (pa_cons pe_int (pa_cons pe_int (pa_cons pe_int (pa_cons pe_int (pa_cons pe_int (pa_cons pe_int (pa_cons (pe_op op_add pe_int (pe_dk (ok__law_take T) hr (by decide) (by rfl) cb__law_take_2 xa0 (par_pos (pa_cons (pv 0) (pa_cons pe_int pa_nil))))) (pa_cons (pe_op op_add pe_int (pe_dk (ok__law_take T) hr (by decide) (by rfl) cb__law_take_2 xa0 (par_pos (pa_cons (pv 0) (pa_cons pe_int pa_nil))))) pa_nil))))))))) (pe_dk (ok__law_take T) hr (by decide) (by rfl) cb__law_take_2 xa0 (par_pos (pa_cons (pv 0) (pa_cons pe_int pa_nil)))) (fun _ _ => rfl))))) (rd__law_wide K Z)
theorem ok__law_point (T : Txt K mg Z base) : DK P w K mg base CX0 2 "_law_point" ["_law_pot_here", "_law_size"] s__law_point [] [] (sp__law_point K Z) :=
  T.f__law_point.mk2 fun f fd F => fn0 F sc__law_point (by intro vs H Q E h; unfold sp__law_point at h; (repeat (obtain ⟨_, h⟩ := h)); subst_vars; rfl) (fun f cdv A outer s H E hr => (pss_cons (ps_set (i := 2) sc__law_point.nd rfl (.inl rfl) (pe_dk (ok__law_take T) hr (by decide) (by rfl) cb__law_take_2 xa0 (par_pos (pa_cons (pv 0) (pa_cons pe_int pa_nil)))))
      (pss_cons (ps_if (pt_cmpR op_eq (pv 2) pe_int (nomark _)) (pss_one (ps_ret (pe_dk (ok__law_take T) hr (by decide) (by rfl) cb__law_take_2 xa0 (par_pos (pa_cons (pv 0) (pa_cons (pe_callB (call_min2 rfl) (by rfl) T.n_min (by decide +kernel) (pa_cons (pv 1) (pa_cons pe_int pa_nil))) pa_nil)))))) pss_nil)
      (pss_cons (ps_if (pt_cmpR op_eq (pv 2) pe_int (nomark _)) (pss_one (ps_ret (pe_op op_sub (pe_op op_sub (pv 1) pe_int) (pe_dk (ok__law_take T) hr (by decide) (by rfl) cb__law_take_2 xa0 (par_pos (pa_cons (pv 0) (pa_cons (pe_callB (call_min2 rfl) (by rfl) T.n_min (by decide +kernel) (pa_cons (pv 1) (pa_cons pe_int pa_nil))) pa_nil))))))) pss_nil)
      (pss_cons (ps_if (pt_cmpR op_eq (pv 2) pe_int (nomark _)) (pss_one (ps_ret (pe_op op_mod (pe_op op_add (pe_op op_sub (pe_op op_fdivW (pv 1) pe_int) pe_int) (pe_dk (ok__law_take T) hr (by decide) (by rfl) cb__law_take_2 xa0 (par_pos (pa_cons (pv 0) (pa_cons pe_int pa_nil))))) (pv 1)))) pss_nil)
      (pss_one (ps_ret (pe_dk (ok__law_take T) hr (by decide) (by rfl) cb__law_take_2 xa0 (par_pos (pa_cons (pv 0) (pa_cons (pv 1) pa_nil))))))))))) (rd__law_point K Z)
theorem ok__law_due (T : Txt K mg Z base) : DK P w K mg base CX0 1 "_law_due" ["_law_text", "_law_wide_here", "_law_size"] s__law_due [] [] (sp__law_due K Z) :=
  T.f__law_due.mk2 fun f fd F => fn0 F sc__law_due (by intro vs H Q E h; unfold sp__law_due at h; (repeat (obtain ⟨_, h⟩ := h)); subst_vars; rfl) (fun f cdv A outer s H E hr => (pss_cons (ps_if (PW.pt (pw_or (pt_not (pt_val (pe_callB call_isi (by rfl) T.n_isinstance (by decide +kernel) (pa_cons (pv 0) (pa_cons (pe_bltn (v := .ty "str") (by rfl) T.n_str (by decide +kernel) rfl) pa_nil))))) (pw_or1 (pt_cmpR op_ne (pe_callB call_len_str (by rfl) T.n_len (by decide +kernel) (pa_cons (pv 0) pa_nil)) (pe_op op_fdivW (pe_op op_add (pv 1) pe_int) pe_int) (nomark _))))) (pss_one (ps_ret (pe_un un_neg pe_int))) pss_nil)
      (pss_cons (ps_set (i := 3) sc__law_due.nd rfl (.inl rfl) pe_int)
      (pss_cons (ps_for PassesOwn.never rfl (pi_str (pv 0)) (pg_name (i := 4) sc__law_due.nd rfl (Or.inr rfl)) (pss_cons (ps_if (pt_cmpR op_notInS (pv 4) pe_str (by rfl)) (pss_one (ps_ret (pe_un un_neg pe_int))) pss_nil)
      (pss_one (ps_set (i := 3) sc__law_due.nd rfl (.inl rfl) (pe_op op_add (pe_op op_mul (pv 3) pe_int) (pe_ix ix_list (pe_lc (own := [("_law_k", 5), ("_law_one", 6)]) rfl sc__law_due.nd (NTE.pi_enumS (by rfl) T.n_enumerate (pa_cons pe_str pa_nil)) (blkOk_by (N := ["_law_text", "_law_wide_here", "_law_size", "_law_found", "_law_sign", "_law_k", "_law_one"]) (sc := defScope s__law_due) (by decide +kernel)) (fun _ _ _ _ _ => (pg_tup rfl (pgs_cons (pg_name (i := 5) sc__law_due.nd rfl (Or.inl rfl)) (pgs_cons (pg_name (i := 6) sc__law_due.nd rfl (Or.inl rfl)) pgs_nil)))) (fun _ _ _ _ _ => (pts_one (pt_cmpR op_eq (pv 6) (pv 4) (nomark _)))) (fun _ _ _ _ _ => (pv 5))) pe_int (fun _ _ => rfl)))))))
      (pss_one (ps_ret (pe_ifExp (pt_cmpR op_lt (pv 3) (pv 2) (nomark _)) (pv 3) (pe_un un_neg pe_int)))))))) (rd__law_due K Z)
theorem ok__law_spoilt (T : Txt K mg Z base) : DK P w K mg base CX0 2 "_law_spoilt" ["_law_pot_here", "_law_text"] s__law_spoilt [] [] (sp__law_spoilt K Z) :=
  T.f__law_spoilt.mk2 fun f fd F => fn0 F sc__law_spoilt (by intro vs H Q E h; unfold sp__law_spoilt at h; (repeat (obtain ⟨_, h⟩ := h)); subst_vars; rfl) (fun f cdv A outer s H E hr => (pss_cons (ps_for PassesOwn.never rfl (pi_range1 rfl T.n_range (pa_cons (pe_dk (ok__law_take T) hr (by decide) (by rfl) cb__law_take_2 xa0 (par_pos (pa_cons (pv 0) (pa_cons pe_int pa_nil)))) pa_nil)) (pg_name (i := 2) sc__law_spoilt.nd rfl (Or.inl rfl)) (pss_cons (ps_set (i := 3) sc__law_spoilt.nd rfl (.inl rfl) (pe_dk (ok__law_take T) hr (by decide) (by rfl) cb__law_take_2 xa0 (par_pos (pa_cons (pv 0) (pa_cons (pe_op op_add (pe_callB call_len_str (by rfl) T.n_len (by decide +kernel) (pa_cons (pv 1) pa_nil)) pe_int) pa_nil)))))
      (pss_cons (ps_set (i := 4) sc__law_spoilt.nd rfl (.inl rfl) (pe_ix ix_str pe_str (pe_dk (ok__law_take T) hr (by decide) (by rfl) cb__law_take_2 xa0 (par_pos (pa_cons (pv 0) (pa_cons pe_int pa_nil)))) (fun _ _ => rfl)))
      (pss_cons (ps_set (i := 5) sc__law_spoilt.nd rfl (.inl rfl) (pe_dk (ok__law_take T) hr (by decide) (by rfl) cb__law_take_2 xa0 (par_pos (pa_cons (pv 0) (pa_cons pe_int pa_nil)))))
      (pss_cons (ps_set (i := 6) sc__law_spoilt.nd rfl (.inl rfl) (pe_lst (pa_cons (pe_op op_add_str (pe_op op_add_str (pe_slice sl_str (pv 1) po_none (po_some (pv 3))) (pv 4)) (pe_slice sl_str (pv 1) (po_some (pv 3)) po_none)) (pa_cons (pe_op op_add_str (pe_slice sl_str (pv 1) po_none (po_some (pv 3))) (pe_slice sl_str (pv 1) (po_some (pe_op op_add (pv 3) pe_int)) po_none)) (pa_cons (pe_op op_add_str (pe_op op_add_str (pe_slice sl_str (pv 1) po_none (po_some (pv 3))) (pv 4)) (pe_slice sl_str (pv 1) (po_some (pe_op op_add (pv 3) pe_int)) po_none)) pa_nil)))))
      (pss_one (ps_set (i := 1) sc__law_spoilt.nd rfl (.inl rfl) (pe_ix ix_list (pe_op op_cat (pv 6) (pe_lst (pa_cons (pe_op op_add_str pe_str (pe_slice sl_str (pv 1) (po_some pe_int) po_none)) pa_nil))) (pv 5) (fun _ _ => rfl)))))))))
      (pss_one (ps_ret (pv 1))))) (rd__law_spoilt K Z)
theorem ok__law_read (T : Txt K mg Z base) : DK P w K mg base CX0 4 "_law_read" ["_law_space", "_law_thing"] s__law_read [] [] (sp__law_read K Z) :=
  T.f__law_read.mk2 fun f fd F => fn0 F sc__law_read (by intro vs H Q E h; unfold sp__law_read at h; (repeat (obtain ⟨_, h⟩ := h)); subst_vars; rfl) (fun f cdv A outer s H E hr => (pss_cons (ps_set (i := 2) sc__law_read.nd rfl (.inl rfl) (pe_un un_neg pe_int))
      (pss_cons (ps_set (i := 3) sc__law_read.nd rfl (.inl rfl) pe_bl)
      (pss_cons (ps_tryA (i := 4) rfl rfl sc__law_read.nd rfl rfl ⟨by rfl, by decide, .inl T.c_RingError⟩ takes0 (fun W pn xe tk _ => (pss_one (ps_set (i := 2) sc__law_read.nd rfl (.inl rfl) (pe_mkk (ok_Space_read T) (pv 0) T.cl_Space hr (by decide) cb_Space_read_2 (passAt tk) (par_pos (pa_cons (pv 1) pa_nil)))))) (fun a oe cls d pn hz hf => (pss_one (ps_set (i := 3) sc__law_read.nd rfl (.inl rfl) (pe_and (pe_callB (call_isE3 hz hf) (by rfl) T.n_isinstance (by decide +kernel) (pa_cons (pv 4) (pa_cons (pe_gR (by rfl) T.c_NoPoint) pa_nil))) (pe_and (pe_callB (call_isE3 hz hf) (by rfl) T.n_isinstance (by decide +kernel) (pa_cons (pv 4) (pa_cons (pe_bltn (v := .ty "ValueError") (by rfl) T.n_ValueError (by decide +kernel) rfl) pa_nil))) (pe_one (pe_not (pe_callB (call_isE3 hz hf) (by rfl) T.n_isinstance (by decide +kernel) (pa_cons (pv 4) (pa_cons (pe_gR (by rfl) T.c_NoSpace) pa_nil)))))))))))
      (pss_one (ps_ret (pe_ifExp (pt_val (pv 3)) (pv 2) (pe_un un_neg pe_int)))))))) (rd__law_read K Z ⟨T.ex1, ⟨T.gh1NoPoint, T.gh2NoPoint, T.b_NoPoint, T.gh3NoPoint, T.gh4NoPoint, T.gh5, T.gh6, T.gh7NoPoint⟩, T.ki1, T.ki2, T.ki3⟩)
theorem ok_law (T : Txt K mg Z base) (f : Addr) (fd : FuncData) (F : FunS K "law" "law" s_law [] [] f fd) : FnOk P w K mg base CX0 5 f fd ["_law_script"] (sp_law K Z) :=
  fn0 F sc_law (by intro vs H Q E h; unfold sp_law at h; (repeat (obtain ⟨_, h⟩ := h)); subst_vars; rfl) (fun f cdv A outer s H E hr => (pss_cons (ps_for PassesOwn.never rfl (pi_range1 rfl T.n_range (pa_cons (pe_callB (call_max2 rfl) (by rfl) T.n_max (by decide +kernel) (pa_cons pe_int (pa_cons (pe_callB (call_min2 rfl) (by rfl) T.n_min (by decide +kernel) (pa_cons (pe_callB call_len_seq (by rfl) T.n_len (by decide +kernel) (pa_cons (pv 0) pa_nil)) (pa_cons pe_int pa_nil))) pa_nil))) pa_nil)) (pg_name (i := 1) sc_law.nd rfl (Or.inl rfl)) (pss_cons (ps_set (i := 2) sc_law.nd rfl (.inl rfl) (pe_dk (ok__law_pot T) hr (by decide) (by rfl) cb__law_pot_2 xa0 (par_pos (pa_cons (pv 0) (pa_cons (pv 1) pa_nil)))))
      (pss_cons (ps_set (i := 3) sc_law.nd rfl (.inl rfl) (pe_dk (ok__law_wide T) hr (by decide) (by rfl) cb__law_wide_1 xa0 (par_pos (pa_cons (pv 2) pa_nil))))
      (pss_cons (ps_set (i := 4) sc_law.nd rfl (.inl rfl) (pe_ik (ok_Space___init__ T) hr (by decide) (by rfl) T.c_Space cb_Space___init___2 xaL (par_pos (pa_cons (pv 3) pa_nil))))
      (pss_cons (ps_set (i := 5) sc_law.nd rfl (.inl rfl) (pe_mkk (ok_Space_size T) (pv 4) T.cl_Space hr (by decide) cb_Space_size_1 xa0 par_0))
      (pss_cons (ps_for PassesOwn.never rfl (pi_range1 rfl T.n_range (pa_cons pe_int pa_nil)) (pg_name (i := 6) sc_law.nd rfl (Or.inl rfl)) (pss_cons (ps_set (i := 7) sc_law.nd rfl (.inl rfl) (pe_dk (ok__law_spoilt T) hr (by decide) (by rfl) cb__law_spoilt_2 xa0 (par_pos (pa_cons (pv 2) (pa_cons (pe_mkk (ok_Space_text T) (pv 4) T.cl_Space hr (by decide) cb_Space_text_2 xa0 (par_pos (pa_cons (pe_dk (ok__law_point T) hr (by decide) (by rfl) cb__law_point_2 xa0 (par_pos (pa_cons (pv 2) (pa_cons (pv 5) pa_nil)))) pa_nil))) pa_nil)))))
      (pss_cons (ps_set (i := 8) sc_law.nd rfl (.inl rfl) (pe_dk (ok__law_due T) hr (by decide) (by rfl) cb__law_due_3 xa0 (par_pos (pa_cons (pv 7) (pa_cons (pv 3) (pa_cons (pv 5) pa_nil))))))
      (pss_cons (ps_set (i := 9) sc_law.nd rfl (.inl rfl) (pe_dk (ok__law_read T) hr (by decide) (by rfl) cb__law_read_2 xa0 (par_pos (pa_cons (pv 4) (pa_cons (pv 7) pa_nil)))))
      (pss_one (ps_if (PW.pt (pw_or (pt_cmpR op_ne (pv 9) (pv 8) (nomark _)) (pw_or1 (pt_val (pe_callB call_isi (by rfl) T.n_isinstance (by decide +kernel) (pa_cons (pv 9) (pa_cons (pe_bltn (v := .ty "bool") (by rfl) T.n_bool (by decide +kernel) rfl) pa_nil))))))) (pss_one (ps_ret pe_bl)) pss_nil))))))
      (pss_cons (ps_set (i := 10) sc_law.nd rfl (.inl rfl) (pe_ix ix_list (pe_lst (pa_cons pe_non (pa_cons pe_int (pa_cons pe_int (pa_cons pe_bl (pa_cons (pe_lst pa_nil) (pa_cons (pe_lst (pa_cons pe_str pa_nil)) (pa_cons (pe_tup (pa_cons pe_str (pa_cons pe_str pa_nil))) (pa_cons pe_dnewK (pa_cons (pe_lst (pa_cons (pe_mkk (ok_Space_text T) (pv 4) T.cl_Space hr (by decide) cb_Space_text_2 xa0 (par_pos (pa_cons pe_int pa_nil))) pa_nil)) pa_nil)))))))))) (pe_dk (ok__law_take T) hr (by decide) (by rfl) cb__law_take_2 xa0 (par_pos (pa_cons (pv 2) (pa_cons pe_int pa_nil)))) (fun _ _ => rfl)))
      (pss_one (ps_if (pt_cmpR op_ne (pe_dk (ok__law_read T) hr (by decide) (by rfl) cb__law_read_2 xa0 (par_pos (pa_cons (pv 4) (pa_cons (pv 10) pa_nil)))) (pe_un un_neg pe_int) (nomark _)) (pss_one (ps_ret pe_bl)) pss_nil)))))))))
      (pss_one (ps_ret pe_bl)))) (rd_law K Z)
end
abbrev dd0 : He.DefD := ⟨("is_whole", none), "is_whole", "is_whole", defArgs s_is_whole, defBody s_is_whole, defScope s_is_whole, [], []⟩
abbrev dd1 : He.DefD := ⟨("Space", some "__init__"), "__init__", "Space.__init__", defArgs s_Space___init__, defBody s_Space___init__, defScope s_Space___init__, [.int 8], []⟩
abbrev dd2 : He.DefD := ⟨("Space", some "bits"), "bits", "Space.bits", defArgs s_Space_bits, defBody s_Space_bits, defScope s_Space_bits, [], []⟩
abbrev dd3 : He.DefD := ⟨("Space", some "size"), "size", "Space.size", defArgs s_Space_size, defBody s_Space_size, defScope s_Space_size, [], []⟩
abbrev dd4 : He.DefD := ⟨("Space", some "has"), "has", "Space.has", defArgs s_Space_has, defBody s_Space_has, defScope s_Space_has, [], []⟩
abbrev dd5 : He.DefD := ⟨("Space", some "width"), "width", "Space.width", defArgs s_Space_width, defBody s_Space_width, defScope s_Space_width, [], []⟩
abbrev dd6 : He.DefD := ⟨("Space", some "text"), "text", "Space.text", defArgs s_Space_text, defBody s_Space_text, defScope s_Space_text, [], []⟩
abbrev dd7 : He.DefD := ⟨("Space", some "read"), "read", "Space.read", defArgs s_Space_read, defBody s_Space_read, defScope s_Space_read, [], []⟩
abbrev dd8 : He.DefD := ⟨("_law_cell", none), "_law_cell", "_law_cell", defArgs s__law_cell, defBody s__law_cell, defScope s__law_cell, [], []⟩
abbrev dd9 : He.DefD := ⟨("_law_pot", none), "_law_pot", "_law_pot", defArgs s__law_pot, defBody s__law_pot, defScope s__law_pot, [], []⟩
abbrev dd10 : He.DefD := ⟨("_law_take", none), "_law_take", "_law_take", defArgs s__law_take, defBody s__law_take, defScope s__law_take, [], []⟩
abbrev dd11 : He.DefD := ⟨("_law_wide", none), "_law_wide", "_law_wide", defArgs s__law_wide, defBody s__law_wide, defScope s__law_wide, [], []⟩
abbrev dd12 : He.DefD := ⟨("_law_point", none), "_law_point", "_law_point", defArgs s__law_point, defBody s__law_point, defScope s__law_point, [], []⟩
abbrev dd13 : He.DefD := ⟨("_law_due", none), "_law_due", "_law_due", defArgs s__law_due, defBody s__law_due, defScope s__law_due, [], []⟩
abbrev dd14 : He.DefD := ⟨("_law_spoilt", none), "_law_spoilt", "_law_spoilt", defArgs s__law_spoilt, defBody s__law_spoilt, defScope s__law_spoilt, [], []⟩
abbrev dd15 : He.DefD := ⟨("_law_read", none), "_law_read", "_law_read", defArgs s__law_read, defBody s__law_read, defScope s__law_read, [], []⟩
abbrev dd16 : He.DefD := ⟨("law", none), "law", "law", defArgs s_law, defBody s_law, defScope s_law, [], []⟩
def fnl : List He.DefD := [dd0, dd1, dd2, dd3, dd4, dd5, dd6, dd7, dd8, dd9, dd10, dd11, dd12, dd13, dd14, dd15, dd16]
def fal : List He.Fa := [.glo "NoPoint",
  .glo "NoSpace",
  .glo "RingError",
  .glo "Space",
  .cls "Space",
  .noat "Space" "own_bits",
  .exc "NoPoint",
  .exc "NoSpace",
  .glo "is_whole",
  .mkr "Space",
  .meth "Space" "bits",
  .meth "Space" "size",
  .meth "Space" "has",
  .meth "Space" "width",
  .meth "Space" "text",
  .meth "Space" "read",
  .glo "_law_cell",
  .glo "_law_pot",
  .glo "_law_take",
  .glo "_law_wide",
  .glo "_law_point",
  .glo "_law_due",
  .glo "_law_spoilt",
  .glo "_law_read",
  .glo "law",
  .free "ValueError",
  .free "abs",
  .free "all",
  .free "bool",
  .free "divmod",
  .free "enumerate",
  .free "int",
  .free "isinstance",
  .free "len",
  .free "max",
  .free "min",
  .free "range",
  .free "str",
  .int "BITS_OF_A_FIGURE" 4,
  .str "FIGURES" "0123456789abcdef",
  .int "LEAST_BITS" 3,
  .int "MOST_BITS" 32]
abbrev tfl : List He.Defn := []
abbrev tabsK (K : PySem.W.Frag) : List (Addr × Str) := []
def exL (K : PySem.W.Frag) : List Bool := [decide (PySem.W.specialIn K (.builtin "object.__class__") "__get__" = some (some (.builtin "getset_descriptor.__get__"))),
  decide (PySem.W.takesIn K (.builtin "object.__class__") = some true),
  decide (PySem.W.findIn K (.ref (He.ga K "NoPoint")) "__getattribute__" = some (some (.builtin "BaseException.__getattribute__"))),
  decide (PySem.W.findIn K (.ref (He.ga K "NoPoint")) "__getattr__" = some none),
  decide (PySem.W.hasDictIn K (He.ga K "NoPoint") = true),
  decide (PySem.W.findIn K (.ref (He.ga K "NoPoint")) "__class__" = some (some (.builtin "object.__class__"))),
  decide (PySem.W.mroIn K (He.ga K "NoPoint") (.type "object") = some true),
  decide (PySem.W.exmOne K (.ref (He.ga K "NoPoint")) (.ref (He.ga K "RingError")) = some true),
  decide (PySem.W.kitOne K (.ref (He.ga K "NoPoint")) (.ref (He.ga K "NoPoint")) = some true),
  decide (PySem.W.kitOne K (.ref (He.ga K "NoPoint")) (.type "ValueError") = some true),
  decide (PySem.W.kitOne K (.ref (He.ga K "NoPoint")) (.ref (He.ga K "NoSpace")) = some false)]
def exB (K : PySem.W.Frag) : Bool := (exL K).all id
theorem exAt {K : PySem.W.Frag} {b : Bool} (h : exB K = true) (i : Nat) (e : (exL K)[i]? = some b) : b = true := List.all_eq_true.mp h b (List.mem_of_getElem? e)
abbrev zzK (K : PySem.W.Frag) : Ad := ⟨(He.ga K "Space"), (He.ga K "Node"), (He.ga K "Ring"), (He.ga K "Seeker"), (He.ga K "Found"), (He.ga K "Desk"), (He.ga K "NoSpace"), (He.ga K "NoPoint"), (He.ga K "NoRing"), (He.ga K "NoMember"), (He.ga K "Taken"), (He.ga K "Fixed"), (He.ga K "Alone"), (He.ga K "LastOne"), (He.ga K "TooFar"), (He.ga K "NoText"), (He.ga K "NoValue"), (He.ga K "NoOrder"), (He.ga K "NoRow"), (He.ga K "RingError"), tabsK K⟩
theorem all_mk {l : PySem.W.OpenLaw} {w : World} {K : PySem.W.Frag} {h : Heap} {mg : Str → Option Value} {fa : Addr} (X : K.In h) (G : h.Ns mainGlobals mg) (hfa : mg "law" = some (.ref fa)) (c : SaysN fal fnl tfl exB h K) : LamX.LawAtS l w K CX0 5 63 "_law_script" mg fa h := by
  have mk : ∀ base : Heap, (∀ p ∈ tfl.map (He.cT K), LamX.TabB base mg p.1 p.2) → Txt K mg (zzK K) base := fun base TB =>
    { c_NoPoint := He.glo_ok X G (c.d.fact 0 (f := .glo "NoPoint") rfl),
      c_NoSpace := He.glo_ok X G (c.d.fact 1 (f := .glo "NoSpace") rfl),
      c_RingError := He.glo_ok X G (c.d.fact 2 (f := .glo "RingError") rfl),
      c_Space := He.glo_ok X G (c.d.fact 3 (f := .glo "Space") rfl),
      cl_Space := He.cls_ok (c.d.fact 4 (f := .cls "Space") rfl),
      na_Space_own_bits := He.noat_ok (c.d.fact 5 (f := .noat "Space" "own_bits") rfl),
      x_NoPoint := (He.exc_ok (c.d.fact 6 (f := .exc "NoPoint") rfl)).1,
      kp_NoPoint := (He.exc_ok (c.d.fact 6 (f := .exc "NoPoint") rfl)).2.1,
      b_NoPoint := (He.exc_ok (c.d.fact 6 (f := .exc "NoPoint") rfl)).2.2.1,
      t_NoPoint := (He.exc_ok (c.d.fact 6 (f := .exc "NoPoint") rfl)).2.2.2,
      x_NoSpace := (He.exc_ok (c.d.fact 7 (f := .exc "NoSpace") rfl)).1,
      kp_NoSpace := (He.exc_ok (c.d.fact 7 (f := .exc "NoSpace") rfl)).2.1,
      b_NoSpace := (He.exc_ok (c.d.fact 7 (f := .exc "NoSpace") rfl)).2.2.1,
      t_NoSpace := (He.exc_ok (c.d.fact 7 (f := .exc "NoSpace") rfl)).2.2.2,
      f_is_whole := let ⟨fd, F⟩ := (c.d.def_ 0 (d := dd0) rfl); ⟨⟨_, fd, He.glo_ok X G (c.d.fact 8 (f := .glo "is_whole") rfl), F⟩⟩,
      f_Space___init__ := let ⟨fd, F⟩ := (c.d.def_ 1 (d := dd1) rfl); ⟨⟨_, fd, He.mkr_ok (c.d.fact 9 (f := .mkr "Space") rfl), F⟩⟩,
      f_Space_bits := let ⟨fd, F⟩ := (c.d.def_ 2 (d := dd2) rfl); ⟨⟨_, fd, He.meth_ok (c.d.fact 10 (f := .meth "Space" "bits") rfl), F⟩⟩,
      f_Space_size := let ⟨fd, F⟩ := (c.d.def_ 3 (d := dd3) rfl); ⟨⟨_, fd, He.meth_ok (c.d.fact 11 (f := .meth "Space" "size") rfl), F⟩⟩,
      f_Space_has := let ⟨fd, F⟩ := (c.d.def_ 4 (d := dd4) rfl); ⟨⟨_, fd, He.meth_ok (c.d.fact 12 (f := .meth "Space" "has") rfl), F⟩⟩,
      f_Space_width := let ⟨fd, F⟩ := (c.d.def_ 5 (d := dd5) rfl); ⟨⟨_, fd, He.meth_ok (c.d.fact 13 (f := .meth "Space" "width") rfl), F⟩⟩,
      f_Space_text := let ⟨fd, F⟩ := (c.d.def_ 6 (d := dd6) rfl); ⟨⟨_, fd, He.meth_ok (c.d.fact 14 (f := .meth "Space" "text") rfl), F⟩⟩,
      f_Space_read := let ⟨fd, F⟩ := (c.d.def_ 7 (d := dd7) rfl); ⟨⟨_, fd, He.meth_ok (c.d.fact 15 (f := .meth "Space" "read") rfl), F⟩⟩,
      f__law_cell := let ⟨fd, F⟩ := (c.d.def_ 8 (d := dd8) rfl); ⟨⟨_, fd, He.glo_ok X G (c.d.fact 16 (f := .glo "_law_cell") rfl), F⟩⟩,
      f__law_pot := let ⟨fd, F⟩ := (c.d.def_ 9 (d := dd9) rfl); ⟨⟨_, fd, He.glo_ok X G (c.d.fact 17 (f := .glo "_law_pot") rfl), F⟩⟩,
      f__law_take := let ⟨fd, F⟩ := (c.d.def_ 10 (d := dd10) rfl); ⟨⟨_, fd, He.glo_ok X G (c.d.fact 18 (f := .glo "_law_take") rfl), F⟩⟩,
      f__law_wide := let ⟨fd, F⟩ := (c.d.def_ 11 (d := dd11) rfl); ⟨⟨_, fd, He.glo_ok X G (c.d.fact 19 (f := .glo "_law_wide") rfl), F⟩⟩,
      f__law_point := let ⟨fd, F⟩ := (c.d.def_ 12 (d := dd12) rfl); ⟨⟨_, fd, He.glo_ok X G (c.d.fact 20 (f := .glo "_law_point") rfl), F⟩⟩,
      f__law_due := let ⟨fd, F⟩ := (c.d.def_ 13 (d := dd13) rfl); ⟨⟨_, fd, He.glo_ok X G (c.d.fact 21 (f := .glo "_law_due") rfl), F⟩⟩,
      f__law_spoilt := let ⟨fd, F⟩ := (c.d.def_ 14 (d := dd14) rfl); ⟨⟨_, fd, He.glo_ok X G (c.d.fact 22 (f := .glo "_law_spoilt") rfl), F⟩⟩,
      f__law_read := let ⟨fd, F⟩ := (c.d.def_ 15 (d := dd15) rfl); ⟨⟨_, fd, He.glo_ok X G (c.d.fact 23 (f := .glo "_law_read") rfl), F⟩⟩,
      f_law := let ⟨fd, F⟩ := (c.d.def_ 16 (d := dd16) rfl); ⟨⟨_, fd, He.glo_ok X G (c.d.fact 24 (f := .glo "law") rfl), F⟩⟩,
      n_ValueError := He.free_ok X G (c.d.fact 25 (f := .free "ValueError") rfl),
      n_abs := He.free_ok X G (c.d.fact 26 (f := .free "abs") rfl),
      n_all := He.free_ok X G (c.d.fact 27 (f := .free "all") rfl),
      n_bool := He.free_ok X G (c.d.fact 28 (f := .free "bool") rfl),
      n_divmod := He.free_ok X G (c.d.fact 29 (f := .free "divmod") rfl),
      n_enumerate := He.free_ok X G (c.d.fact 30 (f := .free "enumerate") rfl),
      n_int := He.free_ok X G (c.d.fact 31 (f := .free "int") rfl),
      n_isinstance := He.free_ok X G (c.d.fact 32 (f := .free "isinstance") rfl),
      n_len := He.free_ok X G (c.d.fact 33 (f := .free "len") rfl),
      n_max := He.free_ok X G (c.d.fact 34 (f := .free "max") rfl),
      n_min := He.free_ok X G (c.d.fact 35 (f := .free "min") rfl),
      n_range := He.free_ok X G (c.d.fact 36 (f := .free "range") rfl),
      n_str := He.free_ok X G (c.d.fact 37 (f := .free "str") rfl),
      c_BITS_OF_A_FIGURE := He.int_ok X G (c.d.fact 38 (f := .int "BITS_OF_A_FIGURE" 4) rfl),
      c_FIGURES := He.str_ok X G (c.d.fact 39 (f := .str "FIGURES" "0123456789abcdef") rfl),
      c_LEAST_BITS := He.int_ok X G (c.d.fact 40 (f := .int "LEAST_BITS" 3) rfl),
      c_MOST_BITS := He.int_ok X G (c.d.fact 41 (f := .int "MOST_BITS" 32) rfl),
      gh5 := of_decide_eq_true (exAt c.more 0 rfl),
      gh6 := of_decide_eq_true (exAt c.more 1 rfl),
      gh1NoPoint := of_decide_eq_true (exAt c.more 2 rfl),
      gh2NoPoint := of_decide_eq_true (exAt c.more 3 rfl),
      gh3NoPoint := of_decide_eq_true (exAt c.more 4 rfl),
      gh4NoPoint := of_decide_eq_true (exAt c.more 5 rfl),
      gh7NoPoint := of_decide_eq_true (exAt c.more 6 rfl),
      ex1 := of_decide_eq_true (exAt c.more 7 rfl),
      ki1 := of_decide_eq_true (exAt c.more 8 rfl),
      ki2 := of_decide_eq_true (exAt c.more 9 rfl),
      ki3 := of_decide_eq_true (exAt c.more 10 rfl) }
  obtain ⟨fdL, FL⟩ := c.d.def_ 16 (d := dd16) rfl
  refine law_fin3 (Tb := tfl.map (He.cT K)) (sp := sp_law K (zzK K)) (st := s_law) (x := "law") _ fdL (He.glo_ok X G (c.d.fact 24 (f := .glo "law") rfl)) hfa FL (fun _ _ _ _ _ _ us hl => match us, hl with | [_], _ => rfl) (fun base T f fd F => ok_law (mk base T) f fd F) ?_ ?_ ?_ ?_
  · intro p hp
    obtain ⟨d, hd, rfl⟩ := List.mem_map.mp hp
    exact c.empty d hd
  · intro p hp
    obtain ⟨d, hd, rfl⟩ := List.mem_map.mp hp
    exact c.out d hd
  · intro p hp
    obtain ⟨d, hd, rfl⟩ := List.mem_map.mp hp
    exact PySem.W.codeHd_of_K X (c.hd d hd)
  · intro H a ns hl _ hT hS
    have hc : ∀ p ∈ tabsK K, ∃ q ∈ tfl.map (He.cT K), q.2 = p.1 := fun p hp => by
      simp only [tabsK, List.mem_cons, List.not_mem_nil, or_false] at hp
    exact ⟨a, ns, rfl, sat_start hc hT hS, hl, fun _ => rfl⟩
abbrev Rr : PySem.W.OpenRow := PySem.W.OpenLaw.row PySem.Challenge.rw_nearestname_k16_texts_refused
abbrev hk : PySem.W.Hook := hookN 4 fal fnl tfl exB
def ob (s : PySem.W.SharedT) : AlN := obsN 4 fal fnl tfl exB (HandSHeadRun.getT s)
theorem ob_eq (s : PySem.W.SharedT) : ob s = hk.obs s.abs := obsN_eq (HandSHeadRun.getT_eq s)
def looseN : List PySem.Str := (["_wall", "__name__", "RingError", "NoSpace", "NoPoint", "BITS", "LEAST_BITS", "MOST_BITS", "FIGURES", "BITS_OF_A_FIGURE", "is_whole", "Space", "_law_cell", "_law_pot", "_law_take", "_law_wide", "_law_point", "_law_due", "_law_spoilt", "_law_read"] : List PySem.Str)
set_option maxHeartbeats 0 in
theorem runN (w : World) : HandSHeadRun.RunEq Rr (PySem.W.view Rr.prog [22]) hk ob 12000 looseN w := by
  intro os
  kernel_rfl
end NN
open PySem PySem.W PySem.Calls PyProof.Rows
set_option maxHeartbeats 0 in
theorem PySem.Challenge.cw_nearestname_k16_texts_refused_holds : PySem.Challenge.rw_nearestname_k16_texts_refused.Holds := by
  w_on; o_law
  refine HandSHeadRun.head_any (r := OpenLaw.row PySem.Challenge.rw_nearestname_k16_texts_refused) (q := view (OpenLaw.row PySem.Challenge.rw_nearestname_k16_texts_refused).prog [22]) (H := NN.hk) (ob := NN.ob) (M := 12000) (loose := NN.looseN) (d := HandSHeadRun.topDef (OpenLaw.row PySem.Challenge.rw_nearestname_k16_texts_refused).prog 22) (kwd := []) NN.ob_eq
    (by kernel_rfl) (fun s => by kernel_rfl) NN.runN (by kernel_rfl) (by kernel_rfl) (by kernel_rfl) (by rfl) (by first | assumption | decide +kernel) (by decide +kernel) ⟨rfl, rfl, rfl, rfl, rfl, by decide +kernel⟩ ?hw ?hc
  case hw => w_witness2
  case hc =>
    refine LamX.walk_ofTsE (l := PySem.Challenge.rw_nearestname_k16_texts_refused) (n := 63) (k := 5) (x := "_law_script") (CX := fun _ => L2.CX0) rfl (by decide) (by kernel_rfl) ⟨rfl, by decide, by decide⟩ ?F (fun _ _ _ _ _ z => z)
    intro w mg fa h Y G hmg0
    obtain ⟨K, KX, c⟩ := Y
    have hmg : mg ("law" : PySem.Str) = some (.ref fa) := by
      have e : (HandSHeadRun.topDef (OpenLaw.row PySem.Challenge.rw_nearestname_k16_texts_refused).prog 22).name = ("law" : PySem.Str) := by kernel_rfl
      rw [← e]
      exact hmg0
    exact ⟨K, KX, NN.all_mk KX G hmg c⟩
