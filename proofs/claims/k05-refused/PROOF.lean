import PyProof.Rows.All
import Wide.All
import OpenK.AllK
import Wide.FinOn
import HandS.ForMost
import HandS.Exc
import HandS.TryOnly
import HandS.ExcOwn
import HandS.WordsExc
import HandS.ExcIs
import HandS.IsInst
import HandS.Style
import HandS.StrMore
import HandS.Conv
import HandS.Flow
import HandS.Evl
import HandS.Steps
import HandS.Walk
import HandS.SortInts
import HandS.Small
import KE.GoesEnum
import HandS.HotCalls
import HandS.CallLocal
import PySem.Challenge.RW_crosscount_k05_refused
set_option Elab.async false
set_option linter.all false
set_option maxRecDepth 100000
set_option maxHeartbeats 4000000
/-! Own base over the hand layer: short names of readings, a def by its name (Dfn), things of a plain type (Bt), what evaluates to what (EvG). -/
namespace Cc
open PySem PySem.Spec PyProof.Rows L2 Evl
/-- addresses of the classes and of the defs that are handed on as values -/
structure Ad where
  CrossError : Addr
  BadCounts : Addr
  BadTable : Addr
  BadPlace : Addr
  Answer : Addr
  Filled : Addr
  Barred : Addr
  Switched : Addr
  Unlike : Addr
  Free : Addr
  Fixed : Addr
  f_switched : Addr
  f_law_with_table : Addr
  f_law_with_counts : Addr
  f_law_with_place : Addr
  f_law_with_step : Addr
/-- the built-in names that no module stores -/
structure Bs (mg : Str → Option Value) : Prop where
  b_len : mg "len" = none
  b_range : mg "range" = none
  b_isinstance : mg "isinstance" = none
  b_list : mg "list" = none
  b_tuple : mg "tuple" = none
  b_str : mg "str" = none
  b_int : mg "int" = none
  b_bool : mg "bool" = none
  b_all : mg "all" = none
  b_any : mg "any" = none
  b_sum : mg "sum" = none
  b_sorted : mg "sorted" = none
  b_enumerate : mg "enumerate" = none
  b_zip : mg "zip" = none
  b_max : mg "max" = none
  b_min : mg "min" = none
  b_set : mg "set" = none
  b_ValueError : mg "ValueError" = none
/-- an own class of exceptions over ValueError -/
structure Xc (K : PySem.W.Frag) (C : Addr) : Prop where
  x : PySem.W.excIn K C [.type "ValueError", .type "Exception", .type "BaseException", .type "object"] "ValueError.__new__" = true
  k : PySem.W.keepIn K (.ref C) = true
  b : PySem.W.subIn K (.ref C) (.type "BaseException") = some true
  t : PySem.W.typeIn K (.ref C) = some (.type "type")
/-! ### readings by short names -/
abbrev rAddI : R2 := rI0 fun i j => .int (i + j)
abbrev rSubI : R2 := rI0 fun i j => .int (i - j)
abbrev rMulI : R2 := rI CMul fun i j => .int (i * j)
abbrev rModI : R2 := rI (fun _ j => 0 < j) fun i j => .int (i % j)
abbrev rDivI : R2 := rI CDiv fun i j => .int (i / j)
abbrev rPowI : R2 := rI CPow fun i j => .int (i ^ j.toNat)
abbrev rShrI : R2 := rI (fun _ j => 0 ≤ j) fun i j => .int (i / 2 ^ j.toNat)
abbrev rAndI : R2 := rI0 fun i j => .int (Builtin.bitAnd i j)
abbrev rNegI : V → Hp → VK → Prop := rU fun i => .int (-i)
abbrev rLtI : R2 := rI0 fun i j => .bl (decide (i < j))
abbrev rLeI : R2 := rI0 fun i j => .bl (decide (i ≤ j))
abbrev rGtI : R2 := rI0 fun i j => .bl (decide (j < i))
abbrev rGeI : R2 := rI0 fun i j => .bl (decide (j ≤ i))
def rAddSt : R2 := fun x y H Q => ∃ i j, x = .str i ∧ y = .str j ∧ i.length + j.length ≤ sizeLine ∧ Q (.str (i ++ j)) H
def rIsNone : R2 := fun x y H Q => y = .non ∧ Q (.bl (decide (x = .non))) H
def rNotNone : R2 := fun x y H Q => y = .non ∧ Q (.bl (!decide (x = .non))) H
def rLenV (K : PySem.W.Frag) : List V → Hp → VK → Prop := fun xs H Q => ∃ x n, xs = [x] ∧ LenV K x H n ∧ Q (.int (n : Nat)) H
def rListOf (K : PySem.W.Frag) : List V → Hp → VK → Prop := fun xs H Q => ∃ p ys, xs = [.ref p] ∧ (SqL K H p ys ∨ SqT K H p ys) ∧ ∀ l, H l = none → Q (.ref l) (upd H l (.lst ys))
def rIntOf : List V → Hp → VK → Prop := fun xs H Q => (∃ i, xs = [.int i] ∧ Q (.int i) H) ∨ ∃ k, xs = [.bl k] ∧ Q (.int (if k then 1 else 0)) H
def rMax2' : List V → Hp → VK → Prop := fun xs H Q => ∃ i j, xs = [.int i, .int j] ∧ Q (.int (if j > i then j else i)) H
def rStrip : V → List V → Hp → VK → Prop := fun x xs H Q => ∃ a b, x = .str a ∧ xs = [.str b] ∧ a.length ≤ sizeLine ∧ Q (.str (Txt.stripChars a b)) H
abbrev ipAdd : TIp := ipI fun i j => i + j
abbrev ipSub : TIp := ipI fun i j => i - j
/-- either reading -/
def tEither (t u : TE) : TE := fun σ H Q => t σ H Q ∨ u σ H Q
end Cc
namespace L2
open PySem PySem.Spec PyProof.Rows
theorem PE.or {X : Cx} {e : Expr} {t u : TE} (h : PE X e t) (h' : PE X e u) : PE X e (Cc.tEither t u) :=
  ⟨fun pins s σ H Q I q => q.elim (h.run pins s σ H Q I) (h'.run pins s σ H Q I)⟩
end L2
namespace Cc
open PySem PySem.Spec PyProof.Rows L2 Evl
theorem hu_D {A : Around} (hr : Room 0 A) : A.units + 64 < cLine := hr.units
theorem hu_0 {A : Around} (hr : Room 0 A) : A.units + 1 < cLine := by have := hr.units; omega
/-! ### a def by its name -/
structure Dfn (P : Program) (w : World) (K : PySem.W.Frag) (mg : Str → Option Value) (base : Heap) (CX : CXT) (k : Nat) (x : Str) (ps : List Str) (sp : Sp) : Prop where
  ex : ∃ f fd, FnOk P w K mg base CX k f fd ps sp ∧ mg x = some (.ref f) ∧ PySem.W.keepIn K (.ref f) = true ∧ Binds K fd ps []
structure Here (K : PySem.W.Frag) (mg : Str → Option Value) (x : Str) (st : Stmt) (ps : List Str) : Prop where
  ex : ∃ f fd, Fun K x x st f fd ∧ mg x = some (.ref f) ∧ Binds K fd ps []
structure Mdf (P : Program) (w : World) (K : PySem.W.Frag) (mg : Str → Option Value) (base : Heap) (CX : CXT) (k : Nat) (C : Addr) (m : Str) (ps : List Str) (sp : Sp) : Prop where
  ex : ∃ f fd, FnOk P w K mg base CX k f fd ps sp ∧ Meth K C m f ∧ Binds K fd ps []
structure HereM (K : PySem.W.Frag) (C : Addr) (m q : Str) (st : Stmt) (ps : List Str) : Prop where
  ex : ∃ f fd, Fun K m q st f fd ∧ Meth K C m f ∧ Binds K fd ps []
/-- a class by its name, with its __init__ -/
structure Cdf (P : Program) (w : World) (K : PySem.W.Frag) (mg : Str → Option Value) (base : Heap) (CX : CXT) (k : Nat) (x : Str) (C : Addr) (ps : List Str) (sp : Sp) : Prop where
  ex : ∃ f fd, FnOk P w K mg base CX k f fd ps sp ∧ Mk K C f ∧ mg x = some (.ref C) ∧ Binds K fd ps []
structure HereC (K : PySem.W.Frag) (mg : Str → Option Value) (x : Str) (C : Addr) (q : Str) (st : Stmt) (ps : List Str) : Prop where
  ex : ∃ f fd, Fun K "__init__" q st f fd ∧ Mk K C f ∧ mg x = some (.ref C) ∧ Binds K fd ps []
section
variable {P : Program} {w : World} {K : PySem.W.Frag} {mg : Str → Option Value} {base : Heap} {x m q : Str} {st : Stmt} {N ps : List Str} {k : Nat} {sp : Sp} {C : Addr}
theorem Here.ok (h : Here K mg x st ps) (S : FnScope N ps (defScope st)) (len : ∀ vs H Q E, sp vs H Q E → vs.length = ps.length)
    (hbody : ∀ (f : Addr) (cdv : Value) (A : Around) (outer : List Env) (s : Shared) (H : Hp) (vs : List V) (Q : VK) (E : XK), Room k (A.deeper (envOfC x (defScope st) s.heap.objs.size f cdv)) → sp vs H Q E →
      ∃ t, PSs (cxOf CX0 P w K mg base N x (defScope st) f cdv A outer s H E).nox (defBody st) t ∧ t { nx := fun _ H' => Q .non H', rt := Q } (start N vs) H) : Dfn P w K mg base CX0 (k + 1) x ps sp := by
  obtain ⟨f, fd, F, hm, hb⟩ := h.ex
  exact ⟨f, fd, F.ok S len (hbody f), hm, F.kp, hb⟩
theorem Here.okX (h : Here K mg x st ps) (S : FnScope N ps (defScope st)) (len : ∀ vs H Q E, sp vs H Q E → vs.length = ps.length)
    (hbody : ∀ (f : Addr) (cdv : Value) (A : Around) (outer : List Env) (s : Shared) (H : Hp) (vs : List V) (Q : VK) (E : XK), Room k (A.deeper (envOfC x (defScope st) s.heap.objs.size f cdv)) → sp vs H Q E →
      ∃ t, PSs (cxOf (L2.CX P w) P w K mg base N x (defScope st) f cdv A outer s H E) (defBody st) t ∧ t { nx := fun _ H' => Q .non H', rt := Q } (start N vs) H) : Dfn P w K mg base (L2.CX P w) (k + 1) x ps sp := by
  obtain ⟨f, fd, F, hm, hb⟩ := h.ex
  exact ⟨f, fd, F.okX S len (hbody f), hm, F.kp, hb⟩
theorem HereM.ok (h : HereM K C m q st ps) (S : FnScope N ps (defScope st)) (len : ∀ vs H Q E, sp vs H Q E → vs.length = ps.length)
    (hbody : ∀ (f : Addr) (cdv : Value) (A : Around) (outer : List Env) (s : Shared) (H : Hp) (vs : List V) (Q : VK) (E : XK), Room k (A.deeper (envOfC q (defScope st) s.heap.objs.size f cdv)) → sp vs H Q E →
      ∃ t, PSs (cxOf CX0 P w K mg base N q (defScope st) f cdv A outer s H E).nox (defBody st) t ∧ t { nx := fun _ H' => Q .non H', rt := Q } (start N vs) H) : Mdf P w K mg base CX0 (k + 1) C m ps sp := by
  obtain ⟨f, fd, F, hm, hb⟩ := h.ex
  exact ⟨f, fd, F.ok S len (hbody f), hm, hb⟩
theorem HereC.ok (h : HereC K mg x C q st ps) (S : FnScope N ps (defScope st)) (len : ∀ vs H Q E, sp vs H Q E → vs.length = ps.length)
    (hbody : ∀ (f : Addr) (cdv : Value) (A : Around) (outer : List Env) (s : Shared) (H : Hp) (vs : List V) (Q : VK) (E : XK), Room k (A.deeper (envOfC q (defScope st) s.heap.objs.size f cdv)) → sp vs H Q E →
      ∃ t, PSs (cxOf CX0 P w K mg base N q (defScope st) f cdv A outer s H E).nox (defBody st) t ∧ t { nx := fun _ H' => Q .non H', rt := Q } (start N vs) H) : Cdf P w K mg base CX0 (k + 1) x C ps sp := by
  obtain ⟨f, fd, F, hm, hb⟩ := h.ex
  exact ⟨f, fd, F.ok S len (hbody f), hm, hb⟩
theorem here_mk {h : Heap} {f : Addr} {oc : Value} {od an : Option Addr} {osl : Array (Option Value)} {kV doc pm cdv ct : Value} (X : K.In h) (G : h.Ns mainGlobals mg) (a : PySem.W.nsIn K mainGlobals x = some (some (.ref f)))
    (l : K.lookup f = some ⟨oc, od, .func (PySem.W.fnOf x x (defArgs st) (defBody st) (defScope st) .none kV doc pm an cdv ct), osl⟩) (c : PySem.W.codeIn K cdv x = true) (k : PySem.W.keepIn K (.ref f) = true)
    (hb : ∀ (kV doc pm : Value) (an : Option Addr) (cdv ct : Value) (us : List Value), us.length = ps.length → bindArgs (PySem.W.fnOf x x (defArgs st) (defBody st) (defScope st) .none kV doc pm an cdv ct) ⟨us, []⟩ = pure (ps.zip us)) : Here K mg x st ps :=
  ⟨f, _, fun_mk l c k, PySem.W.mg_of X G a, (fun_mk (st := st) l c k).binds hb⟩
theorem hereM_mk {f : Addr} {oc : Value} {od an : Option Addr} {osl : Array (Option Value)} {kV doc pm cdv ct : Value} (a : PySem.W.findIn K (.ref C) m = some (some (.ref f))) (i : PySem.W.isFn K (.ref f) = true)
    (l : K.lookup f = some ⟨oc, od, .func (PySem.W.fnOf m q (defArgs st) (defBody st) (defScope st) .none kV doc pm an cdv ct), osl⟩) (c : PySem.W.codeIn K cdv q = true) (k : PySem.W.keepIn K (.ref f) = true)
    (hb : ∀ (kV doc pm : Value) (an : Option Addr) (cdv ct : Value) (us : List Value), us.length = ps.length → bindArgs (PySem.W.fnOf m q (defArgs st) (defBody st) (defScope st) .none kV doc pm an cdv ct) ⟨us, []⟩ = pure (ps.zip us)) : HereM K C m q st ps :=
  ⟨f, _, fun_mk l c k, ⟨a, i, k⟩, (fun_mk (st := st) l c k).binds hb⟩
theorem hereC_mk {f : Addr} {oc : Value} {od an : Option Addr} {osl : Array (Option Value)} {kV doc pm cdv ct : Value} (gC : mg x = some (.ref C)) (mk : PySem.W.makesIn K C = true) (kc : PySem.W.keepIn K (.ref C) = true)
    (a : PySem.W.findIn K (.ref C) "__init__" = some (some (.ref f))) (i : PySem.W.isFn K (.ref f) = true)
    (l : K.lookup f = some ⟨oc, od, .func (PySem.W.fnOf "__init__" q (defArgs st) (defBody st) (defScope st) .none kV doc pm an cdv ct), osl⟩) (c : PySem.W.codeIn K cdv q = true) (k : PySem.W.keepIn K (.ref f) = true)
    (hb : ∀ (kV doc pm : Value) (an : Option Addr) (cdv ct : Value) (us : List Value), us.length = ps.length → bindArgs (PySem.W.fnOf "__init__" q (defArgs st) (defBody st) (defScope st) .none kV doc pm an cdv ct) ⟨us, []⟩ = pure (ps.zip us)) : HereC K mg x C q st ps :=
  ⟨f, _, fun_mk l c k, ⟨mk, a, i, kc⟩, gC, (fun_mk (st := st) l c k).binds hb⟩
end
section
variable {X : Cx} {CX : CXT} {k : Nat} {C : Addr} {ps : List Str} {sp : Sp} {E : XK} {x m : Str} {p pos apos : Pos} {e o : Expr} {es : List Expr} {ta : TE} {t : TA}
theorem pe_d (D : Dfn X.prog X.w X.K X.mg X.base CX k x ps sp) (hr : Room k X.A) (hg : Gl X x) (hx : Passes CX X E)
    (ha : PA X (e :: es) t) (hdb : (x == ("__debug__" : Str)) = false := by decide) (he : starEach (e :: es) X.env = (false, eval e X.env) :: starEach es X.env := by rfl) (hpl : (backTo pos (starEach es X.env)).any (·.1) = false := by rfl) :
    PE X (.Call (.Name x p) (e :: es) [] pos) (tCall sp [] E t) := by
  obtain ⟨f, fd, F, hm, hk, hb⟩ := D.ex
  exact pe_call F hr hg hm hk hb .nil hx ha hdb he hpl
theorem pe_d0 (D : Dfn X.prog X.w X.K X.mg X.base CX k x ps sp) (hr : Room k X.A) (hg : Gl X x) (hx : Passes CX X E) (hdb : (x == ("__debug__" : Str)) = false := by decide) : PE X (.Call (.Name x p) [] [] pos) (tCall sp [] E tNil) := by
  obtain ⟨f, fd, F, hm, hk, hb⟩ := D.ex
  exact pe_call0 F hr hg hm hk hb .nil hx hdb
theorem pe_dm {pl : Sem Bool} (D : Mdf X.prog X.w X.K X.mg X.base CX k C m ps sp) (hr : Room k X.A) (c : Cls X.K C) (hx : Passes CX X E) (he : PE X o ta) (ha : PA X (e :: es) t)
    (hst : starEach (e :: es) X.env = (false, eval e X.env) :: starEach es X.env := by rfl) (hpl : (backTo pos (starEach es X.env)).any (·.1) = false := by rfl)
    (ht : eval (.Call (.Attribute o m apos) (e :: es) [] pos) X.env = (do
      let ov ← eval o X.env
      standAt apos.atName
      let (f, first) ← holding [ov] (getMethod ov m pl)
      callWith pos f first (backTo pos (starEach (e :: es) X.env)) (backToKw pos (keywordEach [] X.env))) := by rfl) :
    PE X (.Call (.Attribute o m apos) (e :: es) [] pos) (tMeth C m sp [] E ta t) := by
  obtain ⟨f, fd, F, hm, hb⟩ := D.ex
  exact pe_meth he c hm F hr hb .nil hx ha hst hpl ht
theorem pe_dc (D : Cdf X.prog X.w X.K X.mg X.base CX k x C ps sp) (hr : Room (k + 1) X.A) (hg : Gl X x) (hx : Passes CX X E)
    (ha : PA X (e :: es) t) (hdb : (x == ("__debug__" : Str)) = false := by decide) (he : starEach (e :: es) X.env = (false, eval e X.env) :: starEach es X.env := by rfl) (hpl : (backTo pos (starEach es X.env)).any (·.1) = false := by rfl) :
    PE X (.Call (.Name x p) (e :: es) [] pos) (tMake C sp [] E t) := by
  obtain ⟨f, fd, F, M, hm, hb⟩ := D.ex
  exact pe_make M F hr hg hm hb .nil hx ha hdb he hpl
end
/-! ### xs[i] by values, 0 ≤ i -/
def rIxP (K : PySem.W.Frag) : V → V → Hp → VK → Prop := fun o i H Q => ∃ p xs j v, o = .ref p ∧ i = .int ((j : Nat) : Int) ∧ SqL K H p xs ∧ xs[j]? = some v ∧ Q v H
section
variable {X : Cx}
theorem get_list : PGet X (rIxP X.K) := by
  intro pins s σ H o i ov iv Q I ro ri q
  obtain ⟨p, xs, j, v, rfl, rfl, hs, ha, q⟩ := q
  obtain ⟨its, rv, pl, hz⟩ := I.list hs
  obtain ⟨u, hu, ru⟩ := rv.get ha
  obtain rfl : ov = Value.ref p := ro
  obtain ⟨t, rfl⟩ := ri
  have hl := rv.length
  have hn := line63
  have hj : j < xs.length := (List.getElem?_eq_some_iff.mp ha).1
  exact wpAny_getItem_list pl.isList (Int.natCast_nonneg j) (by omega) (by rw [Int.toNat_natCast]; simpa using hu) ⟨v, H, I, ru, q⟩
end
/-! ### enumerate(text) -/
def IteS (z : Str) : It :=
  ⟨fun i _ => i < z.cps.size, fun i H v H' => ∃ T c, v = .ref T ∧ H T = none ∧ H' = upd H T (.tup [.int (i : Nat), .str ⟨#[c]⟩]) ∧ z.cps[i]? = some c, fun i _ => z.cps.size ≤ i⟩
theorem turn_enumS {P : Program} {w : World} {K : PySem.W.Frag} {elts : List Expr} {kk : Nat} {tpos : Pos} (z : Str) (tk : Tok) (e it : Addr) :
    Turn P w K (.Tuple elts kk tpos) (IteS z) [e, it] e (fun i h => (∃ old, IsEnum h e it ((i : Nat) : Int) old) ∧ h.IsStrIter it (strIterType z) z tk i ∧ e ≠ it ∧ i ≤ z.cps.size) where
  mem := by simp
  obj := fun i h st b hb => by
    obtain ⟨⟨old, he⟩, ⟨o, ho, hc, hd⟩, _⟩ := st
    have e' : b = e ∨ b = it := by simpa using hb
    rcases e' with q | q
    · rw [q]; exact ⟨_, he, fun v q => nomatch q⟩
    · rw [q]; exact ⟨o, ho, fun v q => by rw [hd] at q; cases q⟩
  keep := fun i h h' st k => let ⟨⟨old, he⟩, ⟨o, ho, r⟩, hne, hi⟩ := st; ⟨⟨old, k e (by simp) _ he⟩, ⟨o, k it (by simp) o ho, r⟩, hne, hi⟩
  item := by
    intro X hP hw hK hc i pins s σ H E I hf st hg
    subst hP hw hK
    obtain ⟨⟨old, he⟩, hit, hne, hle⟩ := st
    have hel : e < s.heap.objs.size := Heap.lt_size he
    have hil : it < s.heap.objs.size := by obtain ⟨_, q, _⟩ := hit; exact Heap.lt_size q
    have DD : Draws X.prog X.w X.A.in1 it [it] z.cps.size _ _ := Draws.text (show X.A.in1.handled = none from I.ok.hd hc) it z tk
    refine wpAny_pyNext_enum_itemD DD he hit hg hne (by simpa using hne) fun x h' tk' hP ho hit' hT hsz hk => ?_
    obtain ⟨c, u, hcx, rfl⟩ := hP
    refine ⟨_, rfl, wpAny_letOwnedTupleGo_enum (s := { s with heap := h', toks := tk' + 1 }) ho fun h'' he' sb => ?_⟩
    have hT2 : h''.get? s.heap.objs.size = some { cls := .type "tuple", data := .seq #[.int i tk', .str ⟨#[c]⟩ u] } := (sb.2 _ (Nat.ne_of_gt hel)).trans hT
    have new : ObjOk X.prog X.w (upd H s.heap.objs.size (.tup [.int (i : Nat), .str ⟨#[c]⟩])) h'' s.heap.objs.size (.tup [.int (i : Nat), .str ⟨#[c]⟩]) :=
      ⟨by show 2 ≤ sizeLine; decide, [.int i tk', .str ⟨#[c]⟩ u], .cons ⟨_, rfl⟩ (.cons ⟨_, rfl⟩ .nil), ⟨_, hT2, rfl, _, rfl⟩⟩
    have I1 : Inv X pins σ (upd H s.heap.objs.size (.tup [.int (i : Nat), .str ⟨#[c]⟩])) { s with heap := h'', toks := tk' + 1 } :=
      I.turnedNew (ch := [e, it]) (fun b ob hb q => (sb.2 b (fun q => hb (by simp [q]))).trans (hk b ob (fun q => hb (by simp [q])) (fun q => hb (by simp [q])) q)) hf (Nat.le_refl _) new
    refine ⟨.ref s.heap.objs.size, _, I1, rfl, ⟨_, c, rfl, I.hok.fresh (Nat.le_refl _), rfl, hcx⟩, ⟨⟨.str ⟨#[c]⟩ u, ?_⟩, ?_, hne, hg⟩, fun b hb => ?_⟩
    · have e1 : ((i + 1 : Nat) : Int) = (i : Int) + 1 := by omega
      rw [e1]; exact he'
    · obtain ⟨o, ho2, r⟩ := hit'
      exact ⟨o, (sb.2 it (Ne.symm hne)).trans ho2, r⟩
    · have hb' : b < s.heap.objs.size := by
        have e' : b = e ∨ b = it := by simpa using hb
        rcases e' with q | q
        · rw [q]; exact hel
        · rw [q]; exact hil
      rw [upd_ne (Nat.ne_of_lt hb')]
      exact (hf b hb).1
  done := by
    intro X hP hw hK hc i pins s σ H E I hf st hg
    subst hP hw hK
    obtain ⟨⟨old, he⟩, hit, hne, hle⟩ := st
    obtain ⟨f0, f1, f2, f3, f4, f5⟩ := hf it (by simp)
    have DD : Draws X.prog X.w X.A.in1 it [it] z.cps.size _ _ := Draws.text (show X.A.in1.handled = none from I.ok.hd hc) it z tk
    have hi : i = z.cps.size := Nat.le_antisymm hle hg
    subst hi
    exact wpAny_pyNext_enum_endD DD he hit fun h' eb => ⟨rfl, I.turned (t' := s.toks) (fun b o hb q => eb b o hb q) f0 f1 f3 f4 f5⟩
  self := fun A i s Q E st h => let ⟨⟨_, he⟩, _⟩ := st; wpAny_pyIter_enum he h
def iEnumS (ta : TA) : TI := fun σ H R => ta σ H fun vs H1 => ∃ z, vs = [.str z] ∧ R (IteS z) H1
theorem pi_enumS {X : Cx} {e : Expr} {ta : TA} {p pos tpos : Pos} {elts : List Expr} {kk : Nat} (hg : Gl X "enumerate") (hm : X.mg "enumerate" = none) (ha : PA X [e] ta) (hs : starEach [e] X.env = [(false, eval e X.env)] := by rfl) :
    PI X (.Tuple elts kk tpos) (.Call (.Name "enumerate" p) [e] [] pos) (iEnumS ta) := by
  refine ⟨fun pins s σ H R I h => ?_⟩
  refine Call_ (ld_blt I hg hm boot_enumerate (PyProof.Rows.callWith_type1 (thn (ha.run pos pins s σ H _ I h) fun us s1 ⟨vs, H1, I1, r1, q1⟩ => ?_) hs rfl))
  obtain ⟨z, ex, q⟩ := q1
  subst ex
  cases r1 with
  | cons r rr =>
    cases rr
    obtain ⟨tk, rfl⟩ := r
    refine call_enumerate_str fun h' he hit hsz hk => wpAny_pyIter_enum he ?_
    have I2 : Inv X pins σ H1 { s1 with heap := h' } := I1.kept (t' := s1.toks) hk
    refine ⟨s1.heap.objs.size + 1, [s1.heap.objs.size + 1, s1.heap.objs.size], _, _, H1, rfl, I2, turn_enumS z tk (s1.heap.objs.size + 1) s1.heap.objs.size, ⟨⟨.none, he⟩, hit, Nat.succ_ne_self _, Nat.zero_le _⟩, fun b hb => ?_, q⟩
    have e' : b = s1.heap.objs.size + 1 ∨ b = s1.heap.objs.size := by simpa using hb
    have hle : s1.heap.objs.size ≤ b := by
      rcases e' with q | q
      · rw [q]; exact Nat.le_add_right _ _
      · rw [q]; exact Nat.le_refl _
    exact I1.fpOk hle (I1.hok.fresh hle)
theorem walk_enumS {z : Str} : Walk (IteS z) z.cps.size (fun _ => True) (YPair (fun i => some (.int (i : Nat))) (fun i => z.cps[i]?.map fun c => .str ⟨#[c]⟩)) where
  goes := fun i H h _ => h
  stops := fun H _ => Nat.le_refl _
  yields := fun i H x H' hi _ h => by
    obtain ⟨T, c, rfl, hT, rfl, hc⟩ := h
    exact ⟨T, _, _, rfl, hT, rfl, rfl, by show Option.map _ z.cps[i]? = _; rw [hc]; rfl⟩
/-! ### things of a plain type -/
inductive Bt (K : PySem.W.Frag) (H : Hp) : V → String → Prop
  | non : Bt K H .non "NoneType"
  | bl (b : Bool) : Bt K H (.bl b) "bool"
  | int (i : Int) : Bt K H (.int i) "int"
  | str (x : Str) : Bt K H (.str x) "str"
  | lst {a : Addr} {xs : List V} (h : SqL K H a xs) : Bt K H (.ref a) "list"
  | tup {a : Addr} {xs : List V} (h : SqT K H a xs) : Bt K H (.ref a) "tuple"
  | dic {a : Addr} {kvs : List (Key × V)} (h : H a = some (.dK kvs)) : Bt K H (.ref a) "dict"
theorem Bt.mono {K : PySem.W.Frag} {H H' : Hp} {x : V} {n : String} (e : Ex H H') (h : Bt K H x n) : Bt K H' x n := by
  cases h with
  | non => exact .non
  | bl b => exact .bl b
  | int i => exact .int i
  | str x => exact .str x
  | lst h => exact .lst (ex_l e h)
  | tup h => exact .tup (ex_t e h)
  | dic h => exact .dic (e _ _ h)
theorem Bt.ty {K : PySem.W.Frag} {H : Hp} {x : V} {n : String} (h : Bt K H x n) : TyX K H x (.type n) := by
  cases h with
  | non => exact .base .non
  | bl b => exact .base (.bl b)
  | int i => exact .base (.int i)
  | str x => exact .base (.str x)
  | lst h =>
    rcases h with h | ⟨o, its, n, h1, h2, _⟩
    · rcases h with h | ⟨o, h⟩
      · exact .base (.lst h)
      · exact .base (.frz h)
    · exact .kList h1 h2
  | tup h =>
    rcases h with h | ⟨o, its, n, h1, h2, _⟩
    · rcases h with h | ⟨o, h⟩
      · exact .base (.tup h)
      · exact .fTuple h
    · exact .kTuple h1 h2
  | dic h => exact .base (.dK h)
/-- isinstance's answer, by the type's name -/
def isB (n c : String) : Bool := n == c || (n == "bool" && c == "int")
theorem Bt.kit {K : PySem.W.Frag} {H : Hp} {x : V} {n : String} (h : Bt K H x n) :
    kitB n "int" = some (isB n "int") ∧ kitB n "bool" = some (isB n "bool") ∧ kitB n "list" = some (isB n "list") ∧ kitB n "tuple" = some (isB n "tuple") ∧ kitB n "str" = some (isB n "str") := by
  cases h <;> decide +kernel
theorem rc_isi {K : PySem.W.Frag} {H : Hp} {x : V} {n c : String} (h : Bt K H x n) (hk : kitB n c = some (isB n c)) : RC (rIsi K) [x, .ty c] H (.bl (isB n c)) := fun H1 e Q q =>
  ⟨x, .ty c, .type n, .type c, isB n c, rfl, .ty c, (h.mono e).ty, kit_ty hk, q H1 (Ex.refl H1)⟩
/-! ### what evaluates to what, told of the heap ahead, the value, the heap behind -/
def EvG (te : TE) (σ : L2.St) (H : Hp) (R : Hp → V → Hp → Prop) : Prop := ∀ H1, Ex H H1 → ∀ Q : VK, (∀ v H2, Ex H1 H2 → R H1 v H2 → Q v H2) → te σ H1 Q
section
variable {K : PySem.W.Frag} {σ : L2.St} {H H' : Hp} {ta tb te tx : TE} {t u : TT} {x y z v : V} {r : R2} {D : Ends} {tz : TS}
theorem Ev.g (h : Ev te σ H v) : EvG te σ H (fun _ w _ => w = v) := fun H1 e Q q => h H1 e Q fun H2 e2 => q v H2 e2 rfl
theorem EvL.g {xs : List V} (h : EvL te σ H xs) : EvG te σ H (fun H1 w H2 => ∃ p, w = .ref p ∧ H1 p = none ∧ H2 p = some (.lst xs)) := fun H1 e Q q => h H1 e Q fun p H2 hp e2 h2 => q _ H2 e2 ⟨p, rfl, hp, h2⟩
theorem EvU.g {xs : List V} (h : EvU te σ H xs) : EvG te σ H (fun H1 w H2 => ∃ p, w = .ref p ∧ H1 p = none ∧ H2 p = some (.tup xs)) := fun H1 e Q q => h H1 e Q fun p H2 hp e2 h2 => q _ H2 e2 ⟨p, rfl, hp, h2⟩
theorem EvG.mono {R : Hp → V → Hp → Prop} (e : Ex H H') (h : EvG te σ H R) : EvG te σ H' R := fun H1 e1 => h H1 (e.trans e1)
theorem EvG.go {R : Hp → V → Hp → Prop} {Q : VK} (h : EvG te σ H R) (k : ∀ v H2, Ex H H2 → R H v H2 → Q v H2) : te σ H Q := h H (Ex.refl H) Q k
theorem Ev.go {Q : VK} (h : Ev te σ H v) (k : ∀ H2, Ex H H2 → Q v H2) : te σ H Q := h H (Ex.refl H) Q k
theorem q_asgG {i : Nat} {R : Hp → V → Hp → Prop} (h : EvG te σ H R) (k : ∀ v H1, Ex H H1 → R H v H1 → tz D (σ.set i (some v)) H1) : tSeq (tAsg te (gName i)) tz D σ H := h.go k
theorem s_asgG {i : Nat} {R : Hp → V → Hp → Prop} (h : EvG te σ H R) (k : ∀ v H1, Ex H H1 → R H v H1 → D.nx (σ.set i (some v)) H1) : tAsg te (gName i) D σ H := h.go k
theorem s_retG {R : Hp → V → Hp → Prop} (h : EvG te σ H R) (k : ∀ v H1, Ex H H1 → R H v H1 → D.rt v H1) : tRet te D σ H := h.go k
/-- a call's promise as an evaluation -/
theorem eg_call {sp : Sp} {dvs vs : List V} {E : XK} {ta : TA} {R : Hp → V → Hp → Prop} (h : EvA ta σ H vs) (hs : ∀ H0 H1, Ex H H0 → Ex H0 H1 → ∀ Q : VK, (∀ v H2, Ex H1 H2 → R H0 v H2 → Q v H2) → sp (vs ++ dvs) H1 Q E) : EvG (tCall sp dvs E ta) σ H R := fun H1 e Q q =>
  h H1 e _ fun H2 e2 => hs H1 H2 e e2 Q fun v H3 e3 r => q v H3 (e2.trans e3) r
end
end Cc
/-! More evaluations (Ev, EvL, EvT) for the readings that gen.py prints; texts of the two signs. -/
namespace Cc
open PySem PySem.Spec PyProof.Rows L2 Evl
section
variable {K : PySem.W.Frag} {σ : L2.St} {H H' : Hp} {ta tb tc te tl tx : TE} {t u : TT} {x y z v : V} {r : R2} {p : Addr} {xs : List V}
theorem ev_lenL (h : Ev te σ H (.ref p)) (hx : SqL K H p xs) : Ev (tCB (rLenV K) (tCons te tNil)) σ H (.int ((xs.length : Nat) : Int)) := fun H1 e Q q =>
  h H1 e _ fun H2 e2 => ⟨_, xs.length, rfl, .inl ⟨xs, ex_l (e.trans e2) hx, rfl⟩, q H2 e2⟩
theorem ev_lenT (h : Ev te σ H (.ref p)) (hx : SqT K H p xs) : Ev (tCB (rLenV K) (tCons te tNil)) σ H (.int ((xs.length : Nat) : Int)) := fun H1 e Q q =>
  h H1 e _ fun H2 e2 => ⟨_, xs.length, rfl, .inr ⟨xs, ex_t (e.trans e2) hx, rfl⟩, q H2 e2⟩
theorem ev_lenS {z : Str} (h : Ev te σ H (.str z)) (hz : z.length ≤ 100000) : Ev (tCB (rLenV K) (tCons te tNil)) σ H (.int ((z.length : Nat) : Int)) := fun H1 e Q q =>
  h H1 e _ fun H2 e2 => ⟨_, z.length, rfl, ⟨sz_of hz, rfl⟩, q H2 e2⟩
theorem ev_lenNL (h : EvL te σ H xs) : Ev (tCB (rLenV K) (tCons te tNil)) σ H (.int ((xs.length : Nat) : Int)) := fun H1 e Q q =>
  h H1 e _ fun p H2 _ e2 hp => ⟨_, xs.length, rfl, .inl ⟨xs, SqL.of hp, rfl⟩, q H2 e2⟩
theorem ev_isi {n c : String} (h : Ev te σ H x) (b : Bt K H x n) (hk : kitB n c = some (isB n c)) : Ev (tCB (rIsi K) (tCons te (tCons (tC (.ty c)) tNil))) σ H (.bl (isB n c)) :=
  ev_cb (ea_cons h (ea_cons ev_c ea_nil)) (rc_isi b hk)
theorem ev_all {bs : List Bool} (h : EvL te σ H (bs.map V.bl)) : Ev (tCB (rAll K) (tCons te tNil)) σ H (.bl (bs.all id)) := fun H1 e Q q =>
  h H1 e _ fun p H2 _ e2 hp => ⟨p, bs, rfl, SqL.of hp, q H2 e2⟩
theorem ev_any {bs : List Bool} (h : EvL te σ H (bs.map V.bl)) : Ev (tCB (rAny K) (tCons te tNil)) σ H (.bl (bs.any id)) := fun H1 e Q q =>
  h H1 e _ fun p H2 _ e2 hp => ⟨p, bs, rfl, SqL.of hp, q H2 e2⟩
theorem ev_sumN {ns : List Int} (h : EvL te σ H (ns.map V.int)) : Ev (tCB (rSum K) (tCons te tNil)) σ H (.int ns.sum) := fun H1 e Q q =>
  h H1 e _ fun p H2 _ e2 hp => ⟨p, ns, rfl, SqL.of hp, q H2 e2⟩
theorem ev_sum {ns : List Int} (h : Ev te σ H (.ref p)) (hx : SqL K H p (ns.map V.int)) : Ev (tCB (rSum K) (tCons te tNil)) σ H (.int ns.sum) := fun H1 e Q q =>
  h H1 e _ fun H2 e2 => ⟨p, ns, rfl, ex_l (e.trans e2) hx, q H2 e2⟩
theorem ev_intB {b : Bool} (h : Ev te σ H (.bl b)) : Ev (tCB rIntOf (tCons te tNil)) σ H (.int (if b then 1 else 0)) := fun H1 e Q q =>
  h H1 e _ fun H2 e2 => .inr ⟨b, rfl, q H2 e2⟩
theorem ev_mx {i j : Int} (ha : Ev ta σ H (.int i)) (hb : Ev tb σ H (.int j)) : Ev (tCB rMax2' (tCons ta (tCons tb tNil))) σ H (.int (if j > i then j else i)) := fun H1 e Q q =>
  ha H1 e _ fun H2 e2 => hb H2 (e.trans e2) _ fun H3 e3 => ⟨i, j, rfl, q H3 (e2.trans e3)⟩
theorem el_listL (h : Ev te σ H (.ref p)) (hx : SqL K H p xs) : EvL (tCB (rListOf K) (tCons te tNil)) σ H xs := fun H1 e Q q =>
  h H1 e _ fun H2 e2 => ⟨p, xs, rfl, .inl (ex_l (e.trans e2) hx), fun l hl => q l _ (fresh_back e2 hl) (e2.trans (Ex.new hl)) upd_same⟩
theorem ev_eq (ha : Ev ta σ H x) (hb : Ev tb σ H y) (h : scal x y = true) : Ev (tOp rEq ta tb) σ H (.bl (decide (x = y))) := ev_op ha hb (rv_eq h)
theorem ev_ne (ha : Ev ta σ H x) (hb : Ev tb σ H y) (h : scal x y = true) : Ev (tOp rNe ta tb) σ H (.bl (!decide (x = y))) := ev_op ha hb (rv_ne h)
theorem ev_eqI {i j : Int} (ha : Ev ta σ H (.int i)) (hb : Ev tb σ H (.int j)) : Ev (tOp rEq ta tb) σ H (.bl (decide (i = j))) := ev_is (ev_eq ha hb rfl) (by simp)
theorem ev_neI {i j : Int} (ha : Ev ta σ H (.int i)) (hb : Ev tb σ H (.int j)) : Ev (tOp rNe ta tb) σ H (.bl (!decide (i = j))) := ev_is (ev_ne ha hb rfl) (by simp)
theorem ev_eqS {i j : Str} (ha : Ev ta σ H (.str i)) (hb : Ev tb σ H (.str j)) : Ev (tOp rEq ta tb) σ H (.bl (decide (i = j))) := ev_is (ev_eq ha hb rfl) (by simp)
theorem ev_neS {i j : Str} (ha : Ev ta σ H (.str i)) (hb : Ev tb σ H (.str j)) : Ev (tOp rNe ta tb) σ H (.bl (!decide (i = j))) := ev_is (ev_ne ha hb rfl) (by simp)
theorem ev_eqB {i j : Bool} (ha : Ev ta σ H (.bl i)) (hb : Ev tb σ H (.bl j)) : Ev (tOp rEq ta tb) σ H (.bl (decide (i = j))) := ev_is (ev_eq ha hb rfl) (by simp)
theorem ev_int2 {g : Int → Int → V} {i j : Int} (ha : Ev ta σ H (.int i)) (hb : Ev tb σ H (.int j)) : Ev (tOp (rI0 g) ta tb) σ H (g i j) := ev_op ha hb rv_I0
theorem ev_int2C {C : Int → Int → Prop} {g : Int → Int → V} {i j : Int} (ha : Ev ta σ H (.int i)) (hb : Ev tb σ H (.int j)) (h : C i j) : Ev (tOp (rI C g) ta tb) σ H (g i j) := ev_op ha hb (rv_I h)
theorem ev_neg {i : Int} (h : Ev te σ H (.int i)) : Ev (tUn rNegI te) σ H (.int (-i)) := fun H1 e Q q => h H1 e _ fun H2 e2 => ⟨i, rfl, q H2 e2⟩
theorem ev_cat {i j : Str} (ha : Ev ta σ H (.str i)) (hb : Ev tb σ H (.str j)) (h : i.length + j.length ≤ 100000) : Ev (tOp rAddSt ta tb) σ H (.str (i ++ j)) := fun H1 e Q q =>
  ha H1 e _ fun H2 e2 => hb H2 (e.trans e2) _ fun H3 e3 => ⟨i, j, rfl, rfl, sz_of h, q H3 (e2.trans e3)⟩
theorem ev_chain {i j k : Int} (ha : Ev ta σ H (.int i)) (hb : Ev tb σ H (.int j)) (hc : i ≤ j → Ev tc σ H (.int k)) : Ev (tChain rLeI rLtI ta tb tc) σ H (.bl (decide (i ≤ j) && decide (j < k))) := fun H1 e Q q =>
  ha H1 e _ fun H2 e2 => hb H2 (e.trans e2) _ fun H3 e3 => ⟨i, j, rfl, rfl, _, rfl, by
    by_cases c : i ≤ j
    · rw [if_pos (decide_eq_true c)]
      rw [decide_eq_true c, Bool.true_and] at q
      exact hc c H3 ((e.trans e2).trans e3) _ fun H4 e4 => ⟨j, k, rfl, rfl, q H4 ((e2.trans e3).trans e4)⟩
    · rw [if_neg (by simp [c])]
      rw [decide_eq_false c, Bool.false_and] at q
      exact q H3 (e2.trans e3)⟩
theorem ev_chainLL {i j k : Int} (ha : Ev ta σ H (.int i)) (hb : Ev tb σ H (.int j)) (hc : i < j → Ev tc σ H (.int k)) : Ev (tChain rLtI rLtI ta tb tc) σ H (.bl (decide (i < j) && decide (j < k))) := fun H1 e Q q =>
  ha H1 e _ fun H2 e2 => hb H2 (e.trans e2) _ fun H3 e3 => ⟨i, j, rfl, rfl, _, rfl, by
    by_cases c : i < j
    · rw [if_pos (decide_eq_true c)]
      rw [decide_eq_true c, Bool.true_and] at q
      exact hc c H3 ((e.trans e2).trans e3) _ fun H4 e4 => ⟨j, k, rfl, rfl, q H4 ((e2.trans e3).trans e4)⟩
    · rw [if_neg (by simp [c])]
      rw [decide_eq_false c, Bool.false_and] at q
      exact q H3 (e2.trans e3)⟩
theorem ev_ixL {j : Nat} (ha : Ev ta σ H (.ref p)) (hb : Ev tb σ H (.int (j : Nat))) (hx : SqL K H p xs) (hj : xs[j]? = some v) : Ev (tOp (rIxL K) ta tb) σ H v := ev_op ha hb (rv_ixL hx (atI_nat hj))
theorem ev_ixLi {i : Int} (ha : Ev ta σ H (.ref p)) (hb : Ev tb σ H (.int i)) (hx : SqL K H p xs) (hj : atI xs i = some v) : Ev (tOp (rIxL K) ta tb) σ H v := ev_op ha hb (rv_ixL hx hj)
theorem ev_ixTi {i : Int} (ha : Ev ta σ H (.ref p)) (hb : Ev tb σ H (.int i)) (hx : SqT K H p xs) (hj : atI xs i = some v) : Ev (tOp (rIxT K) ta tb) σ H v := ev_op ha hb (rv_ixT hx hj)
theorem ev_ixS {z : Str} {i : Int} {c : Nat} (ha : Ev ta σ H (.str z)) (hb : Ev tb σ H (.int i)) (hz : z.length ≤ 100000) (hc : atI z.cps.toList i = some c) : Ev (tOp rIxS ta tb) σ H (.str ⟨#[c]⟩) := ev_op ha hb (rv_ixS hz hc)
theorem ev_strip {a b : Str} (ha : Ev ta σ H (.str a)) (hb : Ev tb σ H (.str b)) (hz : a.length ≤ 100000) : Ev (tBM K "str" rStrip ta (tCons tb tNil)) σ H (.str (Txt.stripChars a b)) := fun H1 e Q q =>
  ha H1 e _ fun H2 e2 => ⟨rfl, hb H2 (e.trans e2) _ fun H3 e3 => ⟨a, b, rfl, rfl, sz_of hz, q H3 (e2.trans e3)⟩⟩
/-- s.count(t) -/
def rCountS : V → List V → Hp → VK → Prop := fun x xs H Q => ∃ a b, x = .str a ∧ xs = [.str b] ∧ Q (.int (Txt.count a b)) H
theorem ev_countS {a b : Str} (ha : Ev ta σ H (.str a)) (hb : Ev tb σ H (.str b)) : Ev (tBM K "str" rCountS ta (tCons tb tNil)) σ H (.int (Txt.count a b)) := fun H1 e Q q =>
  ha H1 e _ fun H2 e2 => ⟨rfl, hb H2 (e.trans e2) _ fun H3 e3 => ⟨a, b, rfl, rfl, q H3 (e2.trans e3)⟩⟩
/-- s.join(texts) -/
def rJoin (K : PySem.W.Frag) : V → List V → Hp → VK → Prop := fun x xs H Q => ∃ a p, ∃ ys : List Str, x = .str a ∧ xs = [.ref p] ∧ (SqL K H p (ys.map V.str) ∨ SqT K H p (ys.map V.str)) ∧
    (ys.map (·.length)).sum + ys.length * a.length ≤ 16777216 ∧ Q (.str (Txt.join a ys)) H
theorem ev_joinN {a : Str} {ys : List Str} (ha : Ev ta σ H (.str a)) (hb : EvL tb σ H (ys.map V.str)) (hz : (ys.map (·.length)).sum + ys.length * a.length ≤ 16777216) : Ev (tBM K "str" (rJoin K) ta (tCons tb tNil)) σ H (.str (Txt.join a ys)) := fun H1 e Q q =>
  ha H1 e _ fun H2 e2 => ⟨rfl, hb H2 (e.trans e2) _ fun p H3 _ e3 hp => ⟨a, p, ys, rfl, rfl, .inl (SqL.of hp), hz, q H3 (e2.trans e3)⟩⟩
theorem ev_joinL {a : Str} {ys : List Str} (ha : Ev ta σ H (.str a)) (hb : Ev tb σ H (.ref p)) (hx : SqL K H p (ys.map V.str)) (hz : (ys.map (·.length)).sum + ys.length * a.length ≤ 16777216) : Ev (tBM K "str" (rJoin K) ta (tCons tb tNil)) σ H (.str (Txt.join a ys)) := fun H1 e Q q =>
  ha H1 e _ fun H2 e2 => ⟨rfl, hb H2 (e.trans e2) _ fun H3 e3 => ⟨a, p, ys, rfl, rfl, .inl (ex_l ((e.trans e2).trans e3) hx), hz, q H3 (e2.trans e3)⟩⟩
theorem ev_slS {tlo thi : TO} {z : Str} {lo hi : Option Int} (h : Ev te σ H (.str z)) (h1 : EvO tlo σ H lo) (h2 : EvO thi σ H hi) (hz : z.length ≤ 100000) : Ev (tSl rSlS te tlo thi) σ H (.str (cutS z lo hi)) := fun H1 e Q q =>
  h H1 e _ fun H2 e2 => h1 H2 (e.trans e2) _ fun H3 e3 => h2 H3 ((e.trans e2).trans e3) _ fun H4 e4 => ⟨z, rfl, sz_of hz, q H4 ((e2.trans e3).trans e4)⟩
theorem el_rev (h : Ev te σ H (.ref p)) (hx : SqL K H p xs) : EvL (tRevL K te) σ H xs.reverse := fun H1 e Q q =>
  h H1 e _ fun H2 e2 => ⟨p, xs, rfl, ex_l (e.trans e2) hx, fun l hl => q l _ (fresh_back e2 hl) (e2.trans (Ex.new hl)) upd_same⟩
theorem el_rep {k : Int} (ha : EvL ta σ H xs) (hb : Ev tb σ H (.int k)) (h0 : k ≤ 100000) (h1 : xs.length ≤ 100) (h2 : -100000 ≤ k) : EvL (tOp rRep ta tb) σ H (List.replicate k.toNat xs).flatten := fun H1 e Q q =>
  ha H1 e _ fun l H2 hl e2 h2' => hb H2 (e.trans e2) _ fun H3 e3 => ⟨l, k, xs, rfl, rfl, e3 _ _ h2', by omega, by omega, by
    have z : xs.length * k.toNat ≤ 100 * 100000 := Nat.mul_le_mul h1 (by omega)
    rw [sizeLine_eq]; omega, fun p hp => q p _ (fresh_back (e2.trans e3) hp) ((e2.trans e3).trans (Ex.new hp)) upd_same⟩
/-- either of two readings -/
theorem Ev.left {t1 t2 : TE} (h : Ev t1 σ H v) : Ev (tEither t1 t2) σ H v := fun H1 e Q q => .inl (h H1 e Q q)
theorem Ev.right {t1 t2 : TE} (h : Ev t2 σ H v) : Ev (tEither t1 t2) σ H v := fun H1 e Q q => .inr (h H1 e Q q)
/-! ### comprehensions -/
theorem el_lcW {α : Type} {l : List α} {r : α → V} {f : α → Bool} {wi : TI} {g : TG} {tt : TT} {vs : List Nat} (P : Nat → V → Hp → Prop) (hz : l.length ≤ 40000)
    (hwi : ∀ H1, Ex H H1 → ∀ R : It → Hp → Prop, (∀ J H2, Ex H1 H2 → Walk J l.length (fun H' => Ex H2 H') (fun i H3 x H4 => Ex H3 H4 ∧ (Ex H2 H3 → P i x H4)) → R J H2) → wi σ H1 R)
    (hs : ∀ i a, l[i]? = some a → ∀ x H1, Ex H H1 → P i x H1 → ∀ Q : L2.St → Hp → Prop, (∀ σ2, wipe σ2 vs = wipe σ vs → EvT tt σ2 H1 (f a) → (f a = true → Ev te σ2 H1 (r a)) → Q σ2 H1) → g x (wipe σ vs) H1 Q) :
    EvL (tLc wi g tt te vs) σ H ((l.filter f).map r) := by
  intro H1 e Q q
  refine hwi H1 e _ fun J H2 e2 W D hD => ?_
  refine lc_it W (fun i H' => Ex H2 H' ∧ H' D = some (.lst (((l.take i).filter f).map r))) ⟨Ex.new hD, by rw [List.take_zero]; exact upd_same⟩ (fun i H' _ h => h.1) ?_ ?_
  · intro i x H3 H4 hi ⟨e3, hd⟩ ⟨e4, hP⟩
    obtain ⟨a, ha⟩ : ∃ a, l[i]? = some a := ⟨l[i], List.getElem?_eq_getElem hi⟩
    have eT : l.take (i + 1) = l.take i ++ [a] := by rw [List.take_add_one, ha]; rfl
    refine hs i a ha x H4 (((e.trans e2).trans e3).trans e4) (hP e3) _ fun σ2 hw ht he => ⟨hw, ht H4 (Ex.refl H4) _ fun H5 e5 => ?_⟩
    cases hf : f a with
    | false =>
      rw [if_neg (by decide)]
      refine ⟨(e3.trans e4).trans e5, ?_⟩
      rw [eT, List.filter_append]
      have : [a].filter f = [] := by simp [hf]
      rw [this, List.append_nil]
      exact e5 _ _ (e4 _ _ hd)
    | true =>
      rw [if_pos rfl]
      refine he hf H5 e5 _ fun H6 e6 => ⟨_, e6 _ _ (e5 _ _ (e4 _ _ hd)), ?_, ?_, ?_⟩
      · have l1 : (((l.take i).filter f).map r).length ≤ i := by
          rw [List.length_map]
          exact Nat.le_trans (List.length_filter_le _ _) (by rw [List.length_take]; exact Nat.min_le_left _ _)
        exact sz_lt (by omega)
      · exact (((e3.trans e4).trans e5).trans e6).mut hD
      · rw [upd_same, eT, List.filter_append]
        have : [a].filter f = [a] := by simp [hf]
        rw [this, List.map_append]
        rfl
  · intro H3 ⟨e3, hd⟩
    rw [List.take_length] at hd
    exact q D H3 (fresh_back e2 hD) (e2.trans e3) hd
theorem filter_yes {α : Type} (l : List α) : l.filter (fun _ => true) = l := List.filter_eq_self.mpr fun _ _ => rfl
theorem et_yes : EvT tYes σ H true := fun H1 e Q q => q H1 (Ex.refl H1)
section
variable {α : Type} {l : List α} {c r : α → V} {f : α → Bool} {tt : TT} {vs : List Nat} {j i : Nat}
theorem wi_list {a : Addr} (h : Ev tl σ H (.ref a)) (hx : SqL K H a (l.map c)) : ∀ H1, Ex H H1 → ∀ R : It → Hp → Prop, (∀ J H2, Ex H1 H2 → Walk J l.length (fun H' => Ex H2 H') (fun i H3 x H4 => Ex H3 H4 ∧ (Ex H2 H3 → H4 = H3 ∧ (l.map c)[i]? = some x)) → R J H2) → iList K tl σ H1 R := fun H1 e R hR =>
  h H1 e _ fun H2 e2 => ⟨a, rfl, ⟨_, ex_l (e.trans e2) hx⟩, hR _ H2 e2 (by
    have w := (walk_list (K := K) (a := a) (xs := l.map c)).mono (G' := fun H' => Ex H2 H') (Y' := fun i H3 x H4 => Ex H3 H4 ∧ (Ex H2 H3 → H4 = H3 ∧ (l.map c)[i]? = some x)) (fun H' e3 => ex_l ((e.trans e2).trans e3) hx)
      (fun i H3 x H4 _ _ hy => ⟨by rw [hy.1]; exact Ex.refl _, fun _ => hy⟩)
    rw [List.length_map] at w
    exact w)⟩
theorem wi_tup {a : Addr} (h : Ev tl σ H (.ref a)) (hx : SqT K H a (l.map c)) : ∀ H1, Ex H H1 → ∀ R : It → Hp → Prop, (∀ J H2, Ex H1 H2 → Walk J l.length (fun H' => Ex H2 H') (fun i H3 x H4 => Ex H3 H4 ∧ (Ex H2 H3 → H4 = H3 ∧ (l.map c)[i]? = some x)) → R J H2) → iTup K tl σ H1 R := fun H1 e R hR =>
  h H1 e _ fun H2 e2 => ⟨a, rfl, ⟨_, ex_t (e.trans e2) hx⟩, hR _ H2 e2 (by
    have w := (walk_tup (K := K) (a := a) (xs := l.map c)).mono (G' := fun H' => Ex H2 H') (Y' := fun i H3 x H4 => Ex H3 H4 ∧ (Ex H2 H3 → H4 = H3 ∧ (l.map c)[i]? = some x)) (fun H' e3 => ex_t ((e.trans e2).trans e3) hx)
      (fun i H3 x H4 _ _ hy => ⟨by rw [hy.1]; exact Ex.refl _, fun _ => hy⟩)
    rw [List.length_map] at w
    exact w)⟩
theorem wi_rng {n : Nat} (h : Ev tl σ H (.int (n : Nat))) (hn : n ≤ 40000) : ∀ H1, Ex H H1 → ∀ R : It → Hp → Prop, (∀ J H2, Ex H1 H2 → Walk J (List.range n).length (fun H' => Ex H2 H') (fun i H3 x H4 => Ex H3 H4 ∧ (Ex H2 H3 → H4 = H3 ∧ ((List.range n).map fun k => V.int (k : Nat))[i]? = some x)) → R J H2) → iRng1 (tCons tl tNil) σ H1 R := fun H1 e R hR =>
  h H1 e _ fun H2 e2 => ⟨n, rfl, by omega, by omega, hR _ H2 e2 (by
    have w := (walk_range (lo := 0) (n := n)).mono (G' := fun H' => Ex H2 H') (Y' := fun i H3 x H4 => Ex H3 H4 ∧ (Ex H2 H3 → H4 = H3 ∧ ((List.range n).map fun k => V.int (k : Nat))[i]? = some x)) (fun _ _ => trivial)
      (fun i H3 x H4 hi _ hy => ⟨by rw [hy.1]; exact Ex.refl _, fun _ => ⟨hy.1, by rw [hy.2, List.getElem?_map, List.getElem?_range hi]; simp⟩⟩)
    rw [List.length_range, Int.toNat_natCast]
    exact w)⟩
theorem g_name {x : V} {Q : L2.St → Hp → Prop} (hw : ∀ x, wipe ((wipe σ vs).set j (some x)) vs = wipe σ vs) (k : wipe ((wipe σ vs).set j (some x)) vs = wipe σ vs → Q ((wipe σ vs).set j (some x)) H) : gName j x (wipe σ vs) H Q := k (hw x)
/-- [e for x in xs if ..] -/
theorem el_filtL {a : Addr} (h : Ev tl σ H (.ref a)) (hx : SqL K H a (l.map c)) (hz : l.length ≤ 40000) (hw : ∀ x, wipe ((wipe σ vs).set j (some x)) vs = wipe σ vs)
    (ht : ∀ a ∈ l, EvT tt ((wipe σ vs).set j (some (c a))) H (f a)) (he : ∀ a ∈ l, f a = true → Ev te ((wipe σ vs).set j (some (c a))) H (r a)) : EvL (tLc (iList K tl) (gName j) tt te vs) σ H ((l.filter f).map r) :=
  el_lcW (P := fun i x H4 => (l.map c)[i]? = some x) hz (fun H1 e R hR => wi_list h hx H1 e R fun J H2 e2 w => hR J H2 e2 (w.mono (fun _ z => z) fun i H3 x H4 _ e3 hy => ⟨hy.1, fun z => (hy.2 z).2⟩))
    fun i a ha x H1 e hP Q k => by
      have hc : x = c a := by rw [List.getElem?_map, ha] at hP; exact (Option.some.inj hP).symm
      subst hc
      have hm := List.mem_of_getElem? ha
      exact k _ (hw _) ((ht a hm).mono e) fun z => (he a hm z).mono e
theorem el_mapL {a : Addr} (h : Ev tl σ H (.ref a)) (hx : SqL K H a (l.map c)) (hz : l.length ≤ 40000) (hw : ∀ x, wipe ((wipe σ vs).set j (some x)) vs = wipe σ vs)
    (he : ∀ a ∈ l, Ev te ((wipe σ vs).set j (some (c a))) H (r a)) : EvL (tLc (iList K tl) (gName j) tYes te vs) σ H (l.map r) := by
  have q := el_filtL (f := fun _ => true) h hx hz hw (fun a _ => et_yes) (fun a ha _ => he a ha)
  rwa [filter_yes] at q
theorem el_filtT {a : Addr} (h : Ev tl σ H (.ref a)) (hx : SqT K H a (l.map c)) (hz : l.length ≤ 40000) (hw : ∀ x, wipe ((wipe σ vs).set j (some x)) vs = wipe σ vs)
    (ht : ∀ a ∈ l, EvT tt ((wipe σ vs).set j (some (c a))) H (f a)) (he : ∀ a ∈ l, f a = true → Ev te ((wipe σ vs).set j (some (c a))) H (r a)) : EvL (tLc (iTup K tl) (gName j) tt te vs) σ H ((l.filter f).map r) :=
  el_lcW (P := fun i x H4 => (l.map c)[i]? = some x) hz (fun H1 e R hR => wi_tup h hx H1 e R fun J H2 e2 w => hR J H2 e2 (w.mono (fun _ z => z) fun i H3 x H4 _ e3 hy => ⟨hy.1, fun z => (hy.2 z).2⟩))
    fun i a ha x H1 e hP Q k => by
      have hc : x = c a := by rw [List.getElem?_map, ha] at hP; exact (Option.some.inj hP).symm
      subst hc
      have hm := List.mem_of_getElem? ha
      exact k _ (hw _) ((ht a hm).mono e) fun z => (he a hm z).mono e
theorem el_mapT {a : Addr} (h : Ev tl σ H (.ref a)) (hx : SqT K H a (l.map c)) (hz : l.length ≤ 40000) (hw : ∀ x, wipe ((wipe σ vs).set j (some x)) vs = wipe σ vs)
    (he : ∀ a ∈ l, Ev te ((wipe σ vs).set j (some (c a))) H (r a)) : EvL (tLc (iTup K tl) (gName j) tYes te vs) σ H (l.map r) := by
  have q := el_filtT (f := fun _ => true) h hx hz hw (fun a _ => et_yes) (fun a ha _ => he a ha)
  rwa [filter_yes] at q
/-- [e for k in range(n) if ..] -/
theorem el_filtR {n : Nat} {r : Nat → V} {f : Nat → Bool} (h : Ev tl σ H (.int (n : Nat))) (hn : n ≤ 40000) (hw : ∀ x, wipe ((wipe σ vs).set j (some x)) vs = wipe σ vs)
    (ht : ∀ k, k < n → EvT tt ((wipe σ vs).set j (some (.int (k : Nat)))) H (f k)) (he : ∀ k, k < n → f k = true → Ev te ((wipe σ vs).set j (some (.int (k : Nat)))) H (r k)) : EvL (tLc (iRng1 (tCons tl tNil)) (gName j) tt te vs) σ H (((List.range n).filter f).map r) :=
  el_lcW (P := fun i x H4 => ((List.range n).map fun k => V.int (k : Nat))[i]? = some x) (by simpa using hn) (fun H1 e R hR => wi_rng h hn H1 e R fun J H2 e2 w => hR J H2 e2 (w.mono (fun _ z => z) fun i H3 x H4 _ e3 hy => ⟨hy.1, fun z => (hy.2 z).2⟩))
    fun i a ha x H1 e hP Q k => by
      have hc : x = V.int (a : Nat) := by rw [List.getElem?_map, ha] at hP; exact (Option.some.inj hP).symm
      subst hc
      have hm : a < n := List.mem_range.mp (List.mem_of_getElem? ha)
      exact k _ (hw _) ((ht a hm).mono e) fun z => (he a hm z).mono e
theorem el_mapR {n : Nat} {r : Nat → V} (h : Ev tl σ H (.int (n : Nat))) (hn : n ≤ 40000) (hw : ∀ x, wipe ((wipe σ vs).set j (some x)) vs = wipe σ vs)
    (he : ∀ k, k < n → Ev te ((wipe σ vs).set j (some (.int (k : Nat)))) H (r k)) : EvL (tLc (iRng1 (tCons tl tNil)) (gName j) tYes te vs) σ H ((List.range n).map r) := by
  have q := el_filtR (f := fun _ => true) h hn hw (fun a _ => et_yes) (fun a ha _ => he a ha)
  rwa [filter_yes] at q
end
end
/-! ### texts of the two signs -/
theorem str_x : (Str.ofString "x") = ⟨#[120]⟩ := by decide +kernel
theorem str_d : (Str.ofString "-") = ⟨#[45]⟩ := by decide +kernel
theorem str_e : (Str.ofString "") = ⟨#[]⟩ := by decide +kernel
theorem str_xd : (Str.ofString "x-") = ⟨#[120, 45]⟩ := by decide +kernel
/-- a text of crosses and dashes -/
def okS (z : Str) : Bool := z.cps.toList.all fun c => c == 120 || c == 45
end Cc
/-! Tables as lists of texts: the plain functions, and the promises and readings of crosscount/tables.py. -/
namespace Cc
open PySem PySem.Spec PyProof.Rows L2 Evl
/-! ### plain -/
abbrev cs (z : Str) : List Nat := z.cps.toList
theorem cs_len (z : Str) : z.length = (cs z).length := by show z.cps.size = _; simp
theorem cs_inj {y z : Str} (h : cs y = cs z) : y = z := by
  obtain ⟨a⟩ := y; obtain ⟨b⟩ := z
  have : a = b := Array.toList_inj.mp h
  rw [this]
theorem cs_app (y z : Str) : cs (y ++ z) = cs y ++ cs z := TL.tl_append y z
/-- crosses in a row -/
def nx (z : Str) : Nat := (cs z).count 120
theorem cnt_nx (z : Str) : Txt.count z (Str.ofString "x") = ((nx z : Nat) : Int) := by
  rw [str_x, count_cnt]
  unfold nx
  show cnt 120 (cs z) = _
  generalize cs z = l
  induction l with
  | nil => rfl
  | cons a l ih =>
    rw [cnt_cons, ih, List.count_cons]
    by_cases h : a = 120
    · simp [h]; omega
    · simp [h]
def wid (t : List Str) : Nat := match t with | [] => 0 | z :: _ => z.length
def isTab (t : List Str) : Bool := t.all fun z => decide (z.length = wid t) && okS z
/-- strip leaves nothing of a row of the two signs, and of no other -/
theorem takeWhile_len {α : Type} (p : α → Bool) : ∀ l : List α, (l.takeWhile p).length = l.length ↔ l.all p = true
  | [] => by simp
  | a :: l => by
    by_cases h : p a = true
    · simp [List.takeWhile_cons, h, takeWhile_len p l]
    · simp [List.takeWhile_cons, h]
theorem dropWhile_eq {α : Type} (p : α → Bool) : ∀ l : List α, l.dropWhile p = l.drop (l.takeWhile p).length
  | [] => rfl
  | a :: l => by
    by_cases h : p a = true
    · simp [List.dropWhile_cons, List.takeWhile_cons, h, dropWhile_eq p l]
    · simp [List.dropWhile_cons, List.takeWhile_cons, h]
theorem all_takeWhile {α : Type} (p : α → Bool) : ∀ l : List α, (l.takeWhile p).all p = true
  | [] => rfl
  | a :: l => by
    by_cases h : p a = true
    · rw [List.takeWhile_cons, if_pos h, List.all_cons, h, all_takeWhile p l]; rfl
    · rw [List.takeWhile_cons, if_neg h]; rfl
theorem strip_e (z : Str) : decide (Txt.stripChars z (Str.ofString "x-") = Str.ofString "") = okS z := by
  rw [str_xd, str_e]
  have hg : ∀ c : Nat, (#[120, 45] : Array Nat).contains c = (c == 120 || c == 45) := fun c => by
    first | (simp; done) | (simp; rfl)
  have e0 : okS z = (cs z).all (fun c => (#[120, 45] : Array Nat).contains c) := by
    unfold okS
    simp only [hg]
  rw [e0]
  show decide (Txt.stripBy (fun c => (#[120, 45] : Array Nat).contains c) true true z = _) = _
  rw [stripBy_eq]
  generalize (fun c => (#[120, 45] : Array Nat).contains c) = p
  have hl := cs_len z
  have hlo : stripLo p true z = ((cs z).takeWhile p).length := rfl
  have hhi : ∀ n, stripHi p true z n = z.length - (((cs z).drop n).reverse.takeWhile p).length := fun n => rfl
  have hs : ∀ i j, (Builtin.Str.strSub z i j = (⟨#[]⟩ : Str)) ↔ ((cs z).drop i).take (j - i) = [] := fun i j => by
    have := TL.tl_strSub z i j
    constructor
    · intro h
      rw [h] at this
      exact this.symm
    · intro h
      apply cs_inj
      show TL.tl (Builtin.Str.strSub z i j) = []
      rw [this]; exact h
  by_cases h : (cs z).all p = true
  · rw [h, decide_eq_true_eq, hs]
    have : stripLo p true z = (cs z).length := by rw [hlo]; exact (takeWhile_len p _).mpr h
    rw [this]; simp
  · rw [Bool.eq_false_iff.mpr h, decide_eq_false_iff_not, hs]
    have h1 : ((cs z).takeWhile p).length ≠ (cs z).length := fun q => h ((takeWhile_len p _).mp q)
    have h2 : ((cs z).takeWhile p).length ≤ (cs z).length := (List.takeWhile_sublist p).length_le
    rw [hhi, hlo]
    generalize hn : ((cs z).takeWhile p).length = n at *
    have h3 : (((cs z).drop n).reverse.takeWhile p).length < ((cs z).drop n).length := by
      have a : (((cs z).drop n).reverse.takeWhile p).length ≤ ((cs z).drop n).length := by
        have := (List.takeWhile_sublist p (l := ((cs z).drop n).reverse)).length_le
        simpa using this
      rcases Nat.lt_or_eq_of_le a with a | a
      · exact a
      · exfalso
        have b : (((cs z).drop n).reverse).all p = true := (takeWhile_len p _).mp (by simpa using a)
        have c : ((cs z).drop n).all p = true := by simpa using b
        have d : (cs z) = (cs z).takeWhile p ++ (cs z).drop n := by
          rw [← hn]
          rw [← dropWhile_eq, List.takeWhile_append_dropWhile]
        apply h
        rw [d, List.all_append, c, Bool.and_true]
        exact all_takeWhile p _
    intro q
    have := congrArg List.length q
    rw [List.length_take, List.length_drop, List.length_nil] at this
    rw [List.length_drop] at h3
    omega
/-! ### any thing, whether it is a table, counts, a quadruple -/
def strOf : V → Str
  | .str z => z
  | _ => ⟨#[]⟩
def isStrV : V → Bool
  | .str _ => true
  | _ => false
def tabV (xs : List V) : Bool := xs.all isStrV && isTab (xs.map strOf)
theorem tabV_strs (t : List Str) : tabV (t.map V.str) = isTab t := by
  have h1 : (t.map V.str).all isStrV = true := by simp [isStrV]
  have h2 : (t.map V.str).map strOf = t := by rw [List.map_map]; exact List.map_id t
  unfold tabV
  rw [h1, h2, Bool.true_and]
def isW : V → Bool
  | .int _ => true
  | _ => false
def cntV (xs : List V) : Bool := xs.all fun y => match y with | .int i => decide (0 ≤ i) | _ => false
def quad : List V → Option (Int × Int × Int × Int)
  | [.int a, .int b, .int c, .int d] => some (a, b, c, d)
  | _ => none
/-- a thing; b tells whether it is a table -/
def Th (K : PySem.W.Frag) (H : Hp) (x : V) (b : Bool) : Prop :=
  (∃ n, Bt K H x n ∧ n ≠ "list" ∧ b = false) ∨ ∃ a xs, x = .ref a ∧ SqL K H a xs ∧ xs.length ≤ 40000 ∧ (∀ y ∈ xs, (∃ n, Bt K H y n) ∧ ∀ z, y = .str z → z.length ≤ 100000) ∧ b = tabV xs
/-- .. whether it is counts -/
def Nm (K : PySem.W.Frag) (H : Hp) (x : V) (b : Bool) : Prop :=
  (∃ n, Bt K H x n ∧ n ≠ "list" ∧ b = false) ∨ ∃ a xs, x = .ref a ∧ SqL K H a xs ∧ xs.length ≤ 40000 ∧ (∀ y ∈ xs, ∃ n, Bt K H y n) ∧ b = cntV xs
/-- .. which quadruple of whole numbers it is -/
def Qd (K : PySem.W.Frag) (H : Hp) (x : V) (s : Option (Int × Int × Int × Int)) : Prop :=
  (∃ n, Bt K H x n ∧ n ≠ "tuple" ∧ s = none) ∨ ∃ a xs, x = .ref a ∧ SqT K H a xs ∧ xs.length ≤ 40000 ∧ (∀ y ∈ xs, ∃ n, Bt K H y n) ∧ s = quad xs
theorem Th.mono {K : PySem.W.Frag} {H H' : Hp} {x : V} {b : Bool} (e : Ex H H') (h : Th K H x b) : Th K H' x b := by
  rcases h with ⟨n, h1, h2⟩ | ⟨a, xs, h1, h2, h3, h4, h5⟩
  · exact .inl ⟨n, h1.mono e, h2⟩
  · exact .inr ⟨a, xs, h1, ex_l e h2, h3, fun y hy => ⟨let ⟨n, q⟩ := (h4 y hy).1; ⟨n, q.mono e⟩, (h4 y hy).2⟩, h5⟩
theorem Nm.mono {K : PySem.W.Frag} {H H' : Hp} {x : V} {b : Bool} (e : Ex H H') (h : Nm K H x b) : Nm K H' x b := by
  rcases h with ⟨n, h1, h2⟩ | ⟨a, xs, h1, h2, h3, h4, h5⟩
  · exact .inl ⟨n, h1.mono e, h2⟩
  · exact .inr ⟨a, xs, h1, ex_l e h2, h3, fun y hy => let ⟨n, q⟩ := h4 y hy; ⟨n, q.mono e⟩, h5⟩
theorem Qd.mono {K : PySem.W.Frag} {H H' : Hp} {x : V} {s : Option (Int × Int × Int × Int)} (e : Ex H H') (h : Qd K H x s) : Qd K H' x s := by
  rcases h with ⟨n, h1, h2⟩ | ⟨a, xs, h1, h2, h3, h4, h5⟩
  · exact .inl ⟨n, h1.mono e, h2⟩
  · exact .inr ⟨a, xs, h1, ex_t e h2, h3, fun y hy => let ⟨n, q⟩ := h4 y hy; ⟨n, q.mono e⟩, h5⟩
/-- a table of the two signs at a, not too great -/
structure Tb (K : PySem.W.Frag) (H : Hp) (a : Addr) (t : List Str) : Prop where
  sq : SqL K H a (t.map V.str)
  ok : isTab t = true
  hi : t.length ≤ 1000
  wi : wid t ≤ 1000
theorem Tb.mono {K : PySem.W.Frag} {H H' : Hp} {a : Addr} {t : List Str} (e : Ex H H') (h : Tb K H a t) : Tb K H' a t := ⟨ex_l e h.sq, h.ok, h.hi, h.wi⟩
theorem isTab_mem {t : List Str} (h : isTab t = true) {z : Str} (hz : z ∈ t) : z.length = wid t ∧ okS z = true := by
  have := (List.all_eq_true.mp h) z hz
  rw [Bool.and_eq_true, decide_eq_true_eq] at this
  exact this
theorem Tb.th {K : PySem.W.Frag} {H : Hp} {a : Addr} {t : List Str} (h : Tb K H a t) : Th K H (.ref a) true :=
  .inr ⟨a, _, rfl, h.sq, by rw [List.length_map]; have := h.hi; omega, fun y hy => by
    obtain ⟨z, hz, rfl⟩ := List.mem_map.mp hy
    refine ⟨⟨_, .str z⟩, fun w e => ?_⟩
    cases e
    have := (isTab_mem h.ok hz).1
    have := h.wi
    omega, by rw [tabV_strs, h.ok]⟩
/-! ### is_whole -/
def sp_is_whole (K : PySem.W.Frag) (A : Ad) : Sp := fun vs H Q _ => ∃ x n, vs = [x] ∧ Bt K H x n ∧ ∀ H', Ex H H' → Q (.bl (isW x)) H'
theorem isW_of {K : PySem.W.Frag} {H : Hp} {x : V} {n : String} (h : Bt K H x n) : (isB n "int" && !isB n "bool") = isW x := by
  cases h <;> simp [isB, isW]
theorem spv_whole {K : PySem.W.Frag} {A : Ad} {H : Hp} {x : V} {n : String} (h : Bt K H x n) : SpV (sp_is_whole K A) [x] H (.bl (isW x)) := fun H1 e Q q E => ⟨x, n, rfl, h.mono e, q⟩
def t_is_whole (K : PySem.W.Frag) (A : Ad) : TS :=
  (tRet (tAndV (tCB (rIsi K) (tCons (tVar 0) (tCons (tC (.ty "int")) tNil))) (tNotV (tCB (rIsi K) (tCons (tVar 0) (tCons (tC (.ty "bool")) tNil))))))
theorem len_is_whole {K : PySem.W.Frag} {A : Ad} : ∀ vs H Q E, sp_is_whole K A vs H Q E → vs.length = 1 := by
  rintro _ H Q E ⟨x, n, rfl, _⟩; rfl
theorem rd_is_whole {K : PySem.W.Frag} {A : Ad} (vs : List V) (H : Hp) (Q : VK) (E : XK) (h : sp_is_whole K A vs H Q E) : t_is_whole K A { nx := fun _ H' => Q .non H', rt := Q } (start ["thing"] vs) H := by
  obtain ⟨x, n, rfl, hb, k⟩ := h
  obtain ⟨k1, k2, _⟩ := hb.kit
  refine s_ret (v := .bl (isW x)) (ev_is (ev_andV (ev_isi (ev_var rfl) hb k1) fun _ => ev_notV (ev_isi (ev_var rfl) hb k2)) ?_) k
  rw [isW_of hb]
/-! ### is_table -/
def sp_is_table (K : PySem.W.Frag) (A : Ad) : Sp := fun vs H Q _ => ∃ x b, vs = [x] ∧ Th K H x b ∧ ∀ H', Ex H H' → Q (.bl b) H'
theorem spv_table {K : PySem.W.Frag} {A : Ad} {H : Hp} {x : V} {b : Bool} (h : Th K H x b) : SpV (sp_is_table K A) [x] H (.bl b) := fun H1 e Q q E => ⟨x, b, rfl, h.mono e, q⟩
def t_is_table (K : PySem.W.Frag) (A : Ad) : TS :=
  (tSeq (tIfS (tOr (tNot (tB (tCB (rIsi K) (tCons (tVar 0) (tCons (tC (.ty "list")) tNil))))) (tNot (tB (tCB (rAll K) (tCons (tLc (iList K (tVar 0)) (gName 1) tYes (tCB (rIsi K) (tCons (tVar 1) (tCons (tC (.ty "str")) tNil))) [1]) tNil))))) (tRet (tC (.bl false))) tNext)
  (tRet (tCB (rAll K) (tCons (tLc (iList K (tVar 0)) (gName 1) tYes (tAndV (tOp rEq (tCB (rLenV K) (tCons (tVar 1) tNil)) (tCB (rLenV K) (tCons (tOp (rIxL K) (tVar 0) (tC (.int 0))) tNil))) (tOp rEq (tBM K "str" rStrip (tVar 1) (tCons (tC (.str "x-")) tNil)) (tC (.str "")))) [1]) tNil))))
theorem len_is_table {K : PySem.W.Frag} {A : Ad} : ∀ vs H Q E, sp_is_table K A vs H Q E → vs.length = 1 := by
  rintro _ H Q E ⟨x, n, rfl, _⟩; rfl
theorem isB_str {K : PySem.W.Frag} {H : Hp} {x : V} {n : String} (h : Bt K H x n) : isB n "str" = isStrV x := by cases h <;> simp [isB, isStrV]
theorem strs_of : ∀ {xs : List V}, xs.all isStrV = true → xs = (xs.map strOf).map V.str
  | [], _ => rfl
  | x :: xs, h => by
    rw [List.all_cons, Bool.and_eq_true] at h
    rw [List.map_cons, List.map_cons, ← strs_of h.2]
    cases x <;> first | rfl | (exact absurd h.1 (by simp [isStrV]))
theorem rd_is_table {K : PySem.W.Frag} {A : Ad} (vs : List V) (H : Hp) (Q : VK) (E : XK) (h : sp_is_table K A vs H Q E) : t_is_table K A { nx := fun _ H' => Q .non H', rt := Q } (start ["thing", "row"] vs) H := by
  obtain ⟨x, b, rfl, hb, k⟩ := h
  rcases hb with ⟨n, hb, hn, rfl⟩ | ⟨a, xs, rfl, hs, hz, hi, rfl⟩
  · obtain ⟨_, _, k3, _⟩ := hb.kit
    have e0 : isB n "list" = false := by
      cases hb <;> first | decide | exact absurd rfl hn
    refine q_when (b := true) (et_is (et_or (a := true) (b := true) (et_is (et_not (et_B (ev_isi (ev_var rfl) hb k3))) (by rw [e0]; rfl)) (fun q => by cases q)) rfl) (fun _ H1 e1 => ?_) (fun q => by cases q)
    exact s_ret ev_c fun H2 e2 => k H2 (e1.trans e2)
  · have hl := Bt.lst hs
    have k3 := hl.kit.2.2.1
    have m1 : EvL (tLc (iList K (tVar 0)) (gName 1) tYes (tCB (rIsi K) (tCons (tVar 1) (tCons (tC (.ty "str")) tNil))) [1]) (start ["thing", "row"] [.ref a]) H ((xs.map isStrV).map V.bl) := by
      rw [List.map_map]
      refine el_mapL (c := fun v => v) (l := xs) (ev_var rfl) (by rw [List.map_id']; exact hs) hz (fun _ => rfl) fun y hy => ?_
      obtain ⟨n, hn⟩ := (hi y hy).1
      exact ev_is (ev_isi (ev_var rfl) hn hn.kit.2.2.2.2) (by rw [isB_str hn]; rfl)
    refine q_when (b := !(xs.all isStrV)) (et_is (et_or (a := false) (b := !(xs.all isStrV)) (et_is (et_not (et_B (ev_isi (ev_var rfl) hl k3))) (by decide)) (fun _ => et_is (et_not (et_B (ev_all m1))) (by simp [Function.comp]))) (by simp)) (fun q H1 e1 => ?_) (fun q H1 e1 => ?_)
    · refine s_ret ev_c fun H2 e2 => ?_
      have q1 : xs.all isStrV = false := by simpa using q
      have := k H2 (e1.trans e2)
      unfold tabV at this
      rw [q1, Bool.false_and] at this
      exact this
    · have q1 : xs.all isStrV = true := by simpa using q
      have ex := strs_of q1
      generalize ht : xs.map strOf = t at ex
      subst ex
      rw [tabV_strs] at k
      have hw : ∀ z ∈ t, z.length ≤ 100000 := fun z hz' => (hi (.str z) (List.mem_map.mpr ⟨z, hz', rfl⟩)).2 z rfl
      have hs1 := ex_l e1 hs
      have m2 : EvL (tLc (iList K (tVar 0)) (gName 1) tYes (tAndV (tOp rEq (tCB (rLenV K) (tCons (tVar 1) tNil)) (tCB (rLenV K) (tCons (tOp (rIxL K) (tVar 0) (tC (.int 0))) tNil))) (tOp rEq (tBM K "str" rStrip (tVar 1) (tCons (tC (.str "x-")) tNil)) (tC (.str "")))) [1]) (start ["thing", "row"] [.ref a]) H1 ((t.map fun z => decide (z.length = wid t) && okS z).map V.bl) := by
        rw [List.map_map]
        refine el_mapL (c := V.str) (l := t) (ev_var rfl) hs1 (by simpa using hz) (fun _ => rfl) fun z hz' => ?_
        obtain ⟨z0, t', rfl⟩ : ∃ z0 t', t = z0 :: t' := by
          cases t with
          | nil => cases hz'
          | cons z0 t' => exact ⟨z0, t', rfl⟩
        refine ev_is (ev_andV (ev_eqI (ev_lenS (ev_var rfl) (hw z hz')) (ev_lenS (ev_ixL (j := 0) (v := .str z0) (ev_var rfl) ev_c hs1 rfl) (hw z0 List.mem_cons_self))) fun _ => ev_eqS (ev_strip (ev_var rfl) ev_c (hw z hz')) ev_c) ?_
        rw [strip_e]
        show V.bl _ = V.bl (_ && _)
        congr 2
        show decide ((z.length : Int) = (z0.length : Int)) = decide (z.length = wid (z0 :: t'))
        exact decide_eq_decide.mpr (by show _ ↔ z.length = z0.length; omega)
      refine s_ret (ev_is (ev_all m2) ?_) fun H2 e2 => k H2 (e1.trans e2)
      unfold isTab
      rw [List.all_map]
      rfl
/-! ### check_table, check_counts -/
def sp_check_table (K : PySem.W.Frag) (A : Ad) : Sp := fun vs H Q E => ∃ x b, vs = [x] ∧ Th K H x b ∧ (b = true → ∀ H', Ex H H' → Q .non H') ∧ (b = false → ∀ H', Ex H H' → E (.ref A.BadTable) none H')
def t_check_table (K : PySem.W.Frag) (A : Ad) (E : XK) : TS :=
  (tIfS (tNot (tB (tCall (sp_is_table K A) [] E0 (tCons (tVar 0) tNil)))) (tRaise E (.ref A.BadTable)) tNext)
theorem len_check_table {K : PySem.W.Frag} {A : Ad} : ∀ vs H Q E, sp_check_table K A vs H Q E → vs.length = 1 := by
  rintro _ H Q E ⟨x, n, rfl, _⟩; rfl
theorem rd_check_table {K : PySem.W.Frag} {A : Ad} (vs : List V) (H : Hp) (Q : VK) (E : XK) (h : sp_check_table K A vs H Q E) : t_check_table K A E { nx := fun _ H' => Q .non H', rt := Q } (start ["table"] vs) H := by
  obtain ⟨x, b, rfl, hb, k1, k2⟩ := h
  refine s_when (b := !b) (et_not (et_B (ev_call (ea_cons (ev_var rfl) ea_nil) (spv_table hb)))) (fun q H1 e => ?_) (fun q H1 e => ?_)
  · exact k2 (by simpa using q) H1 e
  · exact k1 (by simpa using q) H1 e
def sp_check_counts (K : PySem.W.Frag) (A : Ad) : Sp := fun vs H Q E => ∃ x b, vs = [x] ∧ Nm K H x b ∧ (b = true → ∀ H', Ex H H' → Q .non H') ∧ (b = false → ∀ H', Ex H H' → E (.ref A.BadCounts) none H')
def t_check_counts (K : PySem.W.Frag) (A : Ad) (E : XK) : TS :=
  (tIfS (tOr (tNot (tB (tCB (rIsi K) (tCons (tVar 0) (tCons (tC (.ty "list")) tNil))))) (tNot (tB (tCB (rAll K) (tCons (tLc (iList K (tVar 0)) (gName 1) tYes (tAndV (tCall (sp_is_whole K A) [] E0 (tCons (tVar 1) tNil)) (tOp rGeI (tVar 1) (tC (.int 0)))) [1]) tNil))))) (tRaise E (.ref A.BadCounts)) tNext)
theorem len_check_counts {K : PySem.W.Frag} {A : Ad} : ∀ vs H Q E, sp_check_counts K A vs H Q E → vs.length = 1 := by
  rintro _ H Q E ⟨x, n, rfl, _⟩; rfl
theorem rd_check_counts {K : PySem.W.Frag} {A : Ad} (vs : List V) (H : Hp) (Q : VK) (E : XK) (h : sp_check_counts K A vs H Q E) : t_check_counts K A E { nx := fun _ H' => Q .non H', rt := Q } (start ["numbers", "number"] vs) H := by
  obtain ⟨x, b, rfl, hb, k1, k2⟩ := h
  rcases hb with ⟨n, hb, hn, rfl⟩ | ⟨a, xs, rfl, hs, hz, hi, rfl⟩
  · have k3 := hb.kit.2.2.1
    have e0 : isB n "list" = false := by
      cases hb <;> first | decide | exact absurd rfl hn
    refine s_when (b := true) (et_is (et_or (a := true) (b := true) (et_is (et_not (et_B (ev_isi (ev_var rfl) hb k3))) (by rw [e0]; rfl)) (fun q => by cases q)) rfl) (fun _ H1 e1 => k2 rfl H1 e1) (fun q => by cases q)
  · have hl := Bt.lst hs
    have k3 := hl.kit.2.2.1
    have m1 : EvL (tLc (iList K (tVar 0)) (gName 1) tYes (tAndV (tCall (sp_is_whole K A) [] E0 (tCons (tVar 1) tNil)) (tOp rGeI (tVar 1) (tC (.int 0)))) [1]) (start ["numbers", "number"] [.ref a]) H ((xs.map fun y => match y with | .int i => decide (0 ≤ i) | _ => false).map V.bl) := by
      rw [List.map_map]
      refine el_mapL (c := fun v => v) (l := xs) (ev_var rfl) (by rw [List.map_id']; exact hs) hz (fun _ => rfl) fun y hy => ?_
      obtain ⟨n, hn⟩ := hi y hy
      have w := ev_call (E := E0) (σ := (wipe (start ["numbers", "number"] [.ref a]) [1]).set 1 (some y)) (ea_cons (ev_var (i := 1) rfl) ea_nil) (spv_whole (A := A) hn)
      cases y with
      | int i => exact ev_is (ev_andV w fun _ => ev_int2 (ev_var rfl) ev_c) rfl
      | _ => exact ev_is (ev_andV (b := true) w fun q => by cases q) rfl
    refine s_when (b := !(cntV xs)) (et_is (et_or (a := false) (b := !(cntV xs)) (et_is (et_not (et_B (ev_isi (ev_var rfl) hl k3))) (by decide)) (fun _ => et_is (et_not (et_B (ev_all m1))) ?_)) (by simp)) (fun q H1 e => k2 (by simpa using q) H1 e) (fun q H1 e => k1 (by simpa using q) H1 e)
    unfold cntV
    rw [List.all_map]
    rfl
/-! ### width -/
def sp_width (K : PySem.W.Frag) (A : Ad) : Sp := fun vs H Q _ => ∃ a t, vs = [.ref a] ∧ SqL K H a (t.map V.str) ∧ wid t ≤ 100000 ∧ ∀ H', Ex H H' → Q (.int (wid t : Nat)) H'
theorem spv_width {K : PySem.W.Frag} {A : Ad} {H : Hp} {a : Addr} {t : List Str} (h : SqL K H a (t.map V.str)) (hw : wid t ≤ 100000) : SpV (sp_width K A) [.ref a] H (.int (wid t : Nat)) := fun H1 e Q q E => ⟨a, t, rfl, ex_l e h, hw, q⟩
def t_width (K : PySem.W.Frag) (A : Ad) : TS :=
  (tRet (tIf (tTest (tOp rGtI (tCB (rLenV K) (tCons (tVar 0) tNil)) (tC (.int 0)))) (tCB (rLenV K) (tCons (tOp (rIxL K) (tVar 0) (tC (.int 0))) tNil)) (tC (.int 0))))
theorem len_width {K : PySem.W.Frag} {A : Ad} : ∀ vs H Q E, sp_width K A vs H Q E → vs.length = 1 := by
  rintro _ H Q E ⟨x, n, rfl, _⟩; rfl
theorem rd_width {K : PySem.W.Frag} {A : Ad} (vs : List V) (H : Hp) (Q : VK) (E : XK) (h : sp_width K A vs H Q E) : t_width K A { nx := fun _ H' => Q .non H', rt := Q } (start ["table"] vs) H := by
  obtain ⟨a, t, rfl, hs, hw, k⟩ := h
  refine s_ret (v := .int (wid t : Nat)) (ev_if (et_test (ev_int2 (ev_lenL (ev_var rfl) hs) ev_c)) (fun q => ?_) (fun q => ?_)) k
  · cases t with
    | nil => cases q
    | cons z t => exact ev_lenS (ev_ixL (j := 0) (ev_var rfl) ev_c hs rfl) hw
  · cases t with
    | nil => exact ev_c
    | cons z t => simp at q
end Cc
/-! crosscount/tables.py, further: counts_of, counts, is_switch, put, switched_by, switch. -/
namespace Cc
open PySem PySem.Spec PyProof.Rows L2 Evl
/-! ### plain -/
def rowsOf (t : List Str) : List Int := t.map fun z => ((nx z : Nat) : Int)
def colC (t : List Str) (j : Nat) : Nat := (t.filter fun z => (cs z)[j]? == some 120).length
def colsW (w : Nat) (t : List Str) : List Int := (List.range w).map fun j => ((colC t j : Nat) : Int)
def colsOf (t : List Str) : List Int := colsW (wid t) t
theorem rowsOf_len (t : List Str) : (rowsOf t).length = t.length := by simp [rowsOf]
theorem colsOf_len (t : List Str) : (colsOf t).length = wid t := by simp [colsOf, colsW]
/-- behind k signs of the row z -/
def colsK (w : Nat) (t : List Str) (z : Str) (k : Nat) : List Int := (List.range w).map fun j => ((colC t j : Nat) : Int) + if j < k ∧ (cs z)[j]? = some 120 then 1 else 0
theorem colsK_zero (w : Nat) (t : List Str) (z : Str) : colsK w t z 0 = colsW w t := by
  unfold colsK colsW
  apply List.map_congr_left
  intro j _
  rw [if_neg (by omega)]
  omega
theorem colC_snoc (t : List Str) (z : Str) (j : Nat) : colC (t ++ [z]) j = colC t j + if (cs z)[j]? = some 120 then 1 else 0 := by
  unfold colC
  rw [List.filter_append, List.length_append]
  by_cases h : (cs z)[j]? = some 120
  · rw [if_pos h, List.filter_cons_of_pos (by simp [h])]; rfl
  · rw [if_neg h, List.filter_cons_of_neg (by simpa using h)]; rfl
theorem colsK_end (w : Nat) (t : List Str) (z : Str) {k : Nat} (hk : w ≤ k) : colsK w t z k = colsW w (t ++ [z]) := by
  unfold colsK colsW
  apply List.map_congr_left
  intro j hj
  have hj := List.mem_range.mp hj
  rw [colC_snoc]
  by_cases h : (cs z)[j]? = some 120
  · rw [if_pos ⟨by omega, h⟩, if_pos h]; rfl
  · rw [if_neg (fun q => h q.2), if_neg h]; rfl
theorem colsK_no (w : Nat) (t : List Str) (z : Str) {k c : Nat} (h : (cs z)[k]? = some c) (hc : c ≠ 120) : colsK w t z (k + 1) = colsK w t z k := by
  unfold colsK
  apply List.map_congr_left
  intro j hj
  by_cases e : j = k
  · subst e
    rw [if_neg (by rw [h]; intro q; exact hc (Option.some.inj q.2)), if_neg (by omega)]
  · congr 1
    have : (j < k + 1 ∧ (cs z)[j]? = some 120) ↔ (j < k ∧ (cs z)[j]? = some 120) := by constructor <;> (rintro ⟨a, b⟩; exact ⟨by omega, b⟩)
    simp only [this]
theorem colsK_get (w : Nat) (t : List Str) (z : Str) {k : Nat} (hk : k < w) : (colsK w t z k)[k]? = some ((colC t k : Nat) : Int) := by
  unfold colsK
  rw [List.getElem?_map, List.getElem?_range hk, Option.map_some, if_neg (by omega)]
  simp
theorem colsK_yes (w : Nat) (t : List Str) (z : Str) {k : Nat} (hk : k < w) (h : (cs z)[k]? = some 120) : (colsK w t z k).set k (((colC t k : Nat) : Int) + 1) = colsK w t z (k + 1) := by
  apply List.ext_getElem?
  intro j
  rw [List.getElem?_set]
  unfold colsK
  by_cases e : k = j
  · subst e
    rw [if_pos rfl, if_pos (by simpa using hk), List.getElem?_map, List.getElem?_range hk, Option.map_some, if_pos ⟨by omega, h⟩]
  · rw [if_neg e, List.getElem?_map, List.getElem?_map]
    cases hr : (List.range w)[j]? with
    | none => rfl
    | some j' =>
      have : j' = j := by
        have := List.getElem?_eq_some_iff.mp hr
        obtain ⟨a, b⟩ := this
        simpa using b.symm
      subst this
      show some _ = some _
      congr 2
      have : (j' < k + 1 ∧ (cs z)[j']? = some 120) ↔ (j' < k ∧ (cs z)[j']? = some 120) := by constructor <;> (rintro ⟨a, b⟩; exact ⟨by omega, b⟩)
      simp only [this]
/-! ### loops over enumerate(text), xs[i] += d -/
section
variable {K : PySem.W.Frag} {σ : L2.St} {H : Hp} {D : Ends} {tu tz : TS}
theorem s_forES {ta : TA} {z : Str} {i j : Nat} (h : EvA ta σ H [.str z]) (Pv : Nat → L2.St → Hp → Prop) (h0 : ∀ H1, Ex H H1 → Pv 0 σ H1)
    (hs : ∀ (k c : Nat) (T : Addr) σ' H', (cs z)[k]? = some c → Pv k σ' H' → H' T = none → tu { D with nx := Pv (k + 1), ct := Pv (k + 1), bk := D.nx } ((σ'.set i (some (.int (k : Nat)))).set j (some (.str ⟨#[c]⟩))) (upd H' T (.tup [.int (k : Nat), .str ⟨#[c]⟩])))
    (hd : ∀ σ' H', Pv z.length σ' H' → D.nx σ' H') : tFor (iEnumS ta) (gTup K 2 (gCons (gName i) (gCons (gName j) gNil))) tu D σ H :=
  h H (Ex.refl H) _ fun H1 e => ⟨z, rfl, for_it walk_enumS Pv (h0 H1 e) (fun _ _ _ _ _ => trivial) (fun k x σ' H' H'' hk hP hY => by
    obtain ⟨T, x1, y1, rfl, hT, rfl, hx, hy⟩ := hY
    obtain rfl := Option.some.inj hx
    change (z.cps[k]?.map fun c => V.str ⟨#[c]⟩) = some y1 at hy
    cases hc : z.cps[k]? with
    | none => rw [hc] at hy; cases hy
    | some c =>
      rw [hc] at hy
      obtain rfl := Option.some.inj hy
      refine ⟨T, _, rfl, SqT.of upd_same, rfl, _, _, rfl, _, _, rfl, rfl, ?_⟩
      exact hs k c T σ' H' (by simpa using hc) hP hT) hd⟩
theorem s_augS {o i k d : Nat} {l : Addr} {xs : List V} {m : Int} (ho : σ[o]? = some (some (.ref l))) (hi : σ[i]? = some (some (.int (k : Nat)))) (hl : H l = some (.lst xs)) (hx : xs[k]? = some (.int m))
    (q : D.nx σ (upd H l (.lst (xs.set k (.int (m + (d : Nat))))))) : tAugS (tVar o) (tVar i) (tC (.int (d : Nat))) (rIxP K) ipAdd rSetL D σ H :=
  ⟨_, ho, _, hi, l, xs, k, _, rfl, rfl, SqL.of hl, hx, m, d, rfl, rfl, l, xs, (k : Int), k, rfl, rfl, hl, ixN_nat (List.getElem?_eq_some_iff.mp hx).1, q⟩
end
section
variable {σ : L2.St} {H : Hp} {te : TE} {tr ta : TA} {D : Ends} {xs : List V} {v : V}
theorem go_consL {Q : List V → Hp → Prop} (h : EvL te σ H xs) (k : ∀ r H1, H r = none → Ex H H1 → H1 r = some (.lst xs) → tr σ H1 fun ys H2 => Q (.ref r :: ys) H2) : tCons te tr σ H Q := h H (Ex.refl H) _ k
theorem go_consG {Q : List V → Hp → Prop} {R : Hp → V → Hp → Prop} (h : EvG te σ H R) (k : ∀ v H1, Ex H H1 → R H v H1 → tr σ H1 fun ys H2 => Q (v :: ys) H2) : tCons te tr σ H Q := h H (Ex.refl H) _ k
theorem go_cons {Q : List V → Hp → Prop} (h : Ev te σ H v) (k : ∀ H1, Ex H H1 → tr σ H1 fun ys H2 => Q (v :: ys) H2) : tCons te tr σ H Q := h H (Ex.refl H) _ k
theorem s_retT (h : ta σ H fun xs H1 => xs.length ≤ sizeLine ∧ ∀ p, H1 p = none → D.rt (.ref p) (upd H1 p (.tup xs))) : tRet (tTup ta) D σ H := h
end
/-! ### counts_of -/
def sp_counts_of (K : PySem.W.Frag) (A : Ad) : Sp := fun vs H Q _ => ∃ a t, vs = [.ref a] ∧ Tb K H a t ∧ ∀ p r c H', H p = none → H r = none → H c = none → r ≠ c → Ex H H' → H' p = some (.tup [.ref r, .ref c]) → H' r = some (.lst ((rowsOf t).map V.int)) → H' c = some (.lst ((colsOf t).map V.int)) → Q (.ref p) H'
def t_counts_of (K : PySem.W.Frag) (A : Ad) : TS :=
  (tSeq (tAsg (tOp rRep (tLst (tCons (tC (.int 0)) tNil)) (tCall (sp_width K A) [] E0 (tCons (tVar 0) tNil))) (gName 1))
  (tSeq (tFor (iList K (tVar 0)) (gName 2) (tFor (iEnumS (tCons (tVar 2) tNil)) (gTup K 2 (gCons (gName 3) (gCons (gName 4) gNil))) (tIfS (tTest (tOp rEq (tVar 4) (tC (.str "x")))) (tAugS (tVar 1) (tVar 3) (tC (.int 1)) (rIxP K) ipAdd rSetL) tNext)))
  (tRet (tTup (tCons (tLc (iList K (tVar 0)) (gName 2) tYes (tBM K "str" rCountS (tVar 2) (tCons (tC (.str "x")) tNil)) [2]) (tCons (tVar 1) tNil))))))
theorem len_counts_of {K : PySem.W.Frag} {A : Ad} : ∀ vs H Q E, sp_counts_of K A vs H Q E → vs.length = 1 := by
  rintro _ H Q E ⟨x, n, rfl, _⟩; rfl
theorem flat_rep (n : Nat) (v : V) : (List.replicate n [v]).flatten = List.replicate n v := by
  induction n with
  | zero => rfl
  | succ n ih => rw [List.replicate_succ, List.flatten_cons, ih]; rfl
theorem colsW_nil (w : Nat) : (colsW w []).map V.int = List.replicate w (.int 0) := by
  unfold colsW
  rw [List.map_map]
  apply List.ext_getElem
  · simp
  · intro i h1 h2
    simp [colC]
theorem take_succ' {α : Type} {l : List α} {i : Nat} {x : α} (h : l[i]? = some x) : l.take (i + 1) = l.take i ++ [x] := by rw [List.take_add_one, h]; rfl
theorem rd_counts_of {K : PySem.W.Frag} {A : Ad} (vs : List V) (H : Hp) (Q : VK) (E : XK) (h : sp_counts_of K A vs H Q E) : t_counts_of K A { nx := fun _ H' => Q .non H', rt := Q } (start ["table", "columns", "row", "place", "sign"] vs) H := by
  obtain ⟨a, t, rfl, hT, k⟩ := h
  have hs := hT.sq
  have hw := hT.wi
  have m0 : EvL (tOp rRep (tLst (tCons (tC (.int 0)) tNil)) (tCall (sp_width K A) [] E0 (tCons (tVar 0) tNil))) (start ["table", "columns", "row", "place", "sign"] [.ref a]) H ((colsW (wid t) []).map V.int) := by
    have := el_rep (el_lst (ea_cons (ev_c (σ := (start ["table", "columns", "row", "place", "sign"] [.ref a])) (H := H) (v := .int 0)) ea_nil) (by decide)) (ev_call (E := E0) (ea_cons (ev_var (i := 0) rfl) ea_nil) (spv_width (A := A) hs (by omega))) (by omega) (by decide) (by omega)
    rw [Int.toNat_natCast, flat_rep, ← colsW_nil] at this
    exact this
  refine q_asgL m0 fun p H1 hp e1 h1 => ?_
  refine q_forL (a := a) (xs := t.map V.str) (ev_var rfl) (ex_l e1 hs) (fun i σ' H' => (∃ x2 x3 x4, σ' = [some (.ref a), some (.ref p), x2, x3, x4]) ∧ Ex H H' ∧ H' p = some (.lst ((colsW (wid t) (t.take i)).map V.int)))
    (fun H2 e2 => ⟨⟨_, _, _, rfl⟩, e1.trans e2, e2 _ _ h1⟩) (fun i σ' H' _ hP => ex_l hP.2.1 hs) ?_ ?_
  · rintro i x σ' H' hx ⟨⟨x2, x3, x4, rfl⟩, e2, hc⟩
    obtain ⟨z, hz, rfl⟩ : ∃ z, t[i]? = some z ∧ x = .str z := by
      rw [List.getElem?_map] at hx
      cases e : t[i]? with
      | none => rw [e] at hx; cases hx
      | some z => rw [e] at hx; exact ⟨z, rfl, (Option.some.inj hx).symm⟩
    have hzl := (isTab_mem hT.ok (List.mem_of_getElem? hz)).1
    refine s_forES (z := z) (ea_cons (ev_var rfl) ea_nil) (fun k σ' H' => (∃ x3 x4, σ' = [some (.ref a), some (.ref p), some (.str z), x3, x4]) ∧ Ex H H' ∧ H' p = some (.lst ((colsK (wid t) (t.take i) z k).map V.int)))
      (fun H3 e3 => ⟨⟨_, _, rfl⟩, e2.trans e3, by rw [colsK_zero]; exact e3 _ _ hc⟩) ?_ ?_
    · rintro k c T σ' H3 hk ⟨⟨y3, y4, rfl⟩, e3, h3⟩ hT'
      have hkw : k < wid t := by
        rw [← hzl, cs_len]
        exact (List.getElem?_eq_some_iff.mp hk).1
      have npT : p ≠ T := ne_of_none h3 hT'
      have e4 : Ex H (upd H3 T (.tup [.int (k : Nat), .str ⟨#[c]⟩])) := e3.trans (Ex.new hT')
      have hTn : H T = none := by
        cases q : H T with
        | none => rfl
        | some o => rw [e3 _ _ q] at hT'; cases hT'
      refine s_when (b := decide ((⟨#[c]⟩ : Str) = Str.ofString "x")) (et_test (ev_eqS (ev_var rfl) ev_c)) (fun q H5 e5 => ?_) (fun q H5 e5 => ?_)
      · have hc' : c = 120 := by
          have := of_decide_eq_true q
          rw [str_x] at this
          injection this with this
          have := congrArg Array.toList this
          simpa using this
        subst hc'
        refine s_augS (m := ((colC (t.take i) k : Nat) : Int)) (xs := (colsK (wid t) (t.take i) z k).map V.int) rfl rfl (e5 _ _ ((upd_ne npT).trans h3)) ?_ ?_
        · rw [List.getElem?_map, colsK_get _ _ _ hkw]; rfl
        · refine ⟨⟨_, _, rfl⟩, (e4.trans e5).mut hp, ?_⟩
          rw [upd_same, ← List.map_set]
          show some (HO.lst (List.map V.int (List.set _ _ (((colC (t.take i) k : Nat) : Int) + 1)))) = _
          rw [colsK_yes _ _ _ hkw hk]
      · have hc' : c ≠ 120 := fun z => by
          subst z
          rw [str_x] at q
          exact absurd q (by decide)
        exact ⟨⟨_, _, rfl⟩, e4.trans e5, by rw [colsK_no _ _ _ hk hc']; exact e5 _ _ ((upd_ne npT).trans h3)⟩
    · rintro σ' H3 ⟨⟨y3, y4, rfl⟩, e3, h3⟩
      refine ⟨⟨_, _, _, rfl⟩, e3, ?_⟩
      rw [take_succ' hz, ← colsK_end (wid t) (t.take i) z (Nat.le_refl _), ← hzl]
      rw [← hzl] at h3
      exact h3
  · rintro σ' H2 ⟨⟨x2, x3, x4, rfl⟩, e2, hc⟩
    rw [List.length_map, List.take_length] at hc
    have m : EvL (tLc (iList K (tVar 0)) (gName 2) tYes (tBM K "str" rCountS (tVar 2) (tCons (tC (.str "x")) tNil)) [2]) [some (.ref a), some (.ref p), x2, x3, x4] H2 ((rowsOf t).map V.int) := by
      unfold rowsOf
      rw [List.map_map]
      refine el_mapL (c := V.str) (l := t) (ev_var rfl) (ex_l e2 hs) (by have := hT.hi; omega) (fun _ => rfl) fun z hz => ?_
      exact ev_is (ev_countS (ev_var rfl) ev_c) (by rw [cnt_nx]; rfl)
    refine s_retT (go_consL m fun r H3 hr e3 h3 => ?_)
    refine ⟨_, rfl, by show 2 ≤ sizeLine; decide, fun q hq => ?_⟩
    have nrq : r ≠ q := ne_of_none h3 hq
    have npq : p ≠ q := ne_of_none (e3 _ _ hc) hq
    have nrp : r ≠ p := fun z => by rw [z, hc] at hr; cases hr
    refine k q r p _ (fresh_back (e2.trans e3) hq) (fresh_back e2 hr) hp nrp ((e2.trans e3).trans (Ex.new hq)) upd_same ((upd_ne nrq).trans h3) ((upd_ne npq).trans (e3 _ _ hc))
/-! ### counts -/
def sp_counts (K : PySem.W.Frag) (A : Ad) : Sp := fun vs H Q E => ∃ x b, vs = [x] ∧ Th K H x b ∧ (b = false → ∀ H', Ex H H' → E (.ref A.BadTable) none H') ∧
  (b = true → ∃ a t, x = .ref a ∧ Tb K H a t ∧ ∀ p r c H', H p = none → H r = none → H c = none → r ≠ c → Ex H H' → H' p = some (.tup [.ref r, .ref c]) → H' r = some (.lst ((rowsOf t).map V.int)) → H' c = some (.lst ((colsOf t).map V.int)) → Q (.ref p) H')
def t_counts (K : PySem.W.Frag) (A : Ad) (E : XK) : TS :=
  (tSeq (tDrop (tCall (sp_check_table K A) [] E (tCons (tVar 0) tNil)))
  (tRet (tCall (sp_counts_of K A) [] E0 (tCons (tVar 0) tNil))))
theorem len_counts {K : PySem.W.Frag} {A : Ad} : ∀ vs H Q E, sp_counts K A vs H Q E → vs.length = 1 := by
  rintro _ H Q E ⟨x, n, rfl, _⟩; rfl
theorem rd_counts {K : PySem.W.Frag} {A : Ad} (vs : List V) (H : Hp) (Q : VK) (E : XK) (h : sp_counts K A vs H Q E) : t_counts K A E { nx := fun _ H' => Q .non H', rt := Q } (start ["table"] vs) H := by
  obtain ⟨x, b, rfl, hb, k1, k2⟩ := h
  refine ⟨_, rfl, x, b, rfl, hb, fun q H1 e1 => ?_, fun q => k1 q⟩
  obtain ⟨a, t, rfl, hT, k⟩ := k2 q
  exact ⟨_, rfl, a, t, rfl, hT.mono e1, fun p r c H' hp hr hc n e => k p r c H' (fresh_back e1 hp) (fresh_back e1 hr) (fresh_back e1 hc) n (e1.trans e)⟩
/-! ### is_switch -/
def cellAt (t : List Str) (a c : Nat) : Nat := (cs (t.getD a ⟨#[]⟩)).getD c 0
def isSw (t : List Str) : Option (Int × Int × Int × Int) → Bool
  | none => false
  | some (a, b, c, d) => (decide (0 ≤ a) && decide (a < t.length)) && (decide (0 ≤ b) && decide (b < t.length)) && ((decide (0 ≤ c) && decide (c < wid t)) && (decide (0 ≤ d) && decide (d < wid t))) &&
      (cellAt t a.toNat c.toNat == 120 && cellAt t a.toNat d.toNat == 45 && (cellAt t b.toNat c.toNat == 45 && cellAt t b.toNat d.toNat == 120))
theorem four_eq (a b c d : Nat) : decide ((((⟨#[a]⟩ : Str) ++ ⟨#[b]⟩) ++ ⟨#[c]⟩) ++ ⟨#[d]⟩ = Str.ofString "x--x") = (a == 120 && b == 45 && (c == 45 && d == 120)) := by
  have e : (Str.ofString "x--x") = ⟨#[120, 45, 45, 120]⟩ := by decide +kernel
  have f : (((⟨#[a]⟩ : Str) ++ ⟨#[b]⟩) ++ ⟨#[c]⟩) ++ ⟨#[d]⟩ = ⟨#[a, b, c, d]⟩ := rfl
  rw [e, f]
  by_cases h : a = 120 ∧ b = 45 ∧ c = 45 ∧ d = 120
  · obtain ⟨rfl, rfl, rfl, rfl⟩ := h; decide
  · rw [decide_eq_false]
    · symm
      rw [Bool.and_eq_false_iff, Bool.and_eq_false_iff, Bool.and_eq_false_iff]
      by_cases h1 : a = 120
      · by_cases h2 : b = 45
        · by_cases h3 : c = 45
          · have h4 : d ≠ 120 := fun q => h ⟨h1, h2, h3, q⟩
            simp [h4]
          · simp [h3]
        · simp [h2]
      · simp [h1]
    · intro q
      injection q with q
      have := congrArg Array.toList q
      simp at this
      exact h this
theorem quad_some : ∀ {xs : List V}, xs.length = 4 → xs.all isW = true → ∃ a b c d, xs = [.int a, .int b, .int c, .int d]
  | [x, y, z, w], _, h => by
    simp only [List.all_cons, List.all_nil, Bool.and_true, Bool.and_eq_true] at h
    obtain ⟨h1, h2, h3, h4⟩ := h
    cases x <;> simp [isW] at h1
    cases y <;> simp [isW] at h2
    cases z <;> simp [isW] at h3
    cases w <;> simp [isW] at h4
    exact ⟨_, _, _, _, rfl⟩
theorem quad_none {xs : List V} (h : ¬ (xs.length = 4 ∧ xs.all isW = true)) : quad xs = none := by
  unfold quad
  split
  · exact absurd ⟨rfl, rfl⟩ h
  · rfl
def sp_is_switch (K : PySem.W.Frag) (A : Ad) : Sp := fun vs H Q _ => ∃ a t x s, vs = [.ref a, x] ∧ Tb K H a t ∧ Qd K H x s ∧ ∀ H', Ex H H' → Q (.bl (isSw t s)) H'
theorem spv_switch {K : PySem.W.Frag} {A : Ad} {H : Hp} {a : Addr} {t : List Str} {x : V} {s : Option (Int × Int × Int × Int)} (h : Tb K H a t) (h' : Qd K H x s) : SpV (sp_is_switch K A) [.ref a, x] H (.bl (isSw t s)) := fun H1 e Q q E => ⟨a, t, x, s, rfl, h.mono e, h'.mono e, q⟩
def t_is_switch (K : PySem.W.Frag) (A : Ad) : TS :=
  (tSeq (tIfS (tOr (tNot (tB (tCB (rIsi K) (tCons (tVar 1) (tCons (tC (.ty "tuple")) tNil))))) (tOr (tTest (tOp rNe (tCB (rLenV K) (tCons (tVar 1) tNil)) (tC (.int 4)))) (tNot (tB (tCB (rAll K) (tCons (tLc (iTup K (tVar 1)) (gName 2) tYes (tCall (sp_is_whole K A) [] E0 (tCons (tVar 2) tNil)) [2]) tNil)))))) (tRet (tC (.bl false))) tNext)
  (tSeq (tAsg (tVar 1) (gTup K 4 (gCons (gName 3) (gCons (gName 4) (gCons (gName 5) (gCons (gName 6) gNil))))))
  (tSeq (tIfS (tOr (tNot (tTest (tChain rLeI rLtI (tC (.int 0)) (tVar 3) (tCB (rLenV K) (tCons (tVar 0) tNil))))) (tNot (tTest (tChain rLeI rLtI (tC (.int 0)) (tVar 4) (tCB (rLenV K) (tCons (tVar 0) tNil)))))) (tRet (tC (.bl false))) tNext)
  (tSeq (tIfS (tOr (tNot (tTest (tChain rLeI rLtI (tC (.int 0)) (tVar 5) (tCall (sp_width K A) [] E0 (tCons (tVar 0) tNil))))) (tNot (tTest (tChain rLeI rLtI (tC (.int 0)) (tVar 6) (tCall (sp_width K A) [] E0 (tCons (tVar 0) tNil)))))) (tRet (tC (.bl false))) tNext)
  (tRet (tOp rEq (tOp rAddSt (tOp rAddSt (tOp rAddSt (tOp rIxS (tOp (rIxL K) (tVar 0) (tVar 3)) (tVar 5)) (tOp rIxS (tOp (rIxL K) (tVar 0) (tVar 3)) (tVar 6))) (tOp rIxS (tOp (rIxL K) (tVar 0) (tVar 4)) (tVar 5))) (tOp rIxS (tOp (rIxL K) (tVar 0) (tVar 4)) (tVar 6))) (tC (.str "x--x"))))))))
theorem len_is_switch {K : PySem.W.Frag} {A : Ad} : ∀ vs H Q E, sp_is_switch K A vs H Q E → vs.length = 2 := by
  rintro _ H Q E ⟨a, t, x, s, rfl, _⟩; rfl
theorem atI_toNat {α : Type} {l : List α} {i : Int} {v : α} (h0 : 0 ≤ i) (h : l[i.toNat]? = some v) : atI l i = some v := by
  have := atI_nat h
  rwa [Int.toNat_of_nonneg h0] at this
theorem getD_some {α : Type} {l : List α} {i : Nat} {d : α} (h : i < l.length) : l[i]? = some (l.getD i d) := by
  rw [List.getD_eq_getElem?_getD, List.getElem?_eq_getElem h]; rfl
/-- table[a][c] -/
theorem ev_cell {K : PySem.W.Frag} {σ : L2.St} {H : Hp} {ta tb tc : TE} {p : Addr} {t : List Str} {a c : Int} (hT : Tb K H p t) (h1 : Ev ta σ H (.ref p)) (h2 : Ev tb σ H (.int a)) (h3 : Ev tc σ H (.int c)) (ha : 0 ≤ a) (ha' : a < t.length) (hc : 0 ≤ c) (hc' : c < wid t) :
    Ev (tOp rIxS (tOp (rIxL K) ta tb) tc) σ H (.str ⟨#[cellAt t a.toNat c.toNat]⟩) := by
  have ga : t[a.toNat]? = some (t.getD a.toNat ⟨#[]⟩) := getD_some (by omega)
  have hm := isTab_mem hT.ok (List.mem_of_getElem? ga)
  have hw := hT.wi
  refine ev_ixS (z := t.getD a.toNat ⟨#[]⟩) (ev_ixLi h1 h2 hT.sq (atI_toNat ha (by rw [List.getElem?_map, ga]; rfl))) h3 (by omega) (atI_toNat hc ?_)
  exact getD_some (by rw [← cs_len]; omega)
theorem rd_is_switch {K : PySem.W.Frag} {A : Ad} (vs : List V) (H : Hp) (Q : VK) (E : XK) (h : sp_is_switch K A vs H Q E) : t_is_switch K A { nx := fun _ H' => Q .non H', rt := Q } (start ["table", "step", "place", "one", "other", "first", "second"] vs) H := by
  obtain ⟨a, t, x, s, rfl, hT, hq, k⟩ := h
  have hw := hT.wi
  rcases hq with ⟨n, hb, hn, rfl⟩ | ⟨p, xs, rfl, hs, hz, hi, rfl⟩
  · have k3 := hb.kit.2.2.2.1
    have e0 : isB n "tuple" = false := by
      cases hb <;> first | decide | exact absurd rfl hn
    refine q_when (b := true) (et_is (et_or (a := true) (b := true) (et_is (et_not (et_B (ev_isi (ev_var rfl) hb k3))) (by rw [e0]; rfl)) (fun q => by cases q)) rfl) (fun _ H1 e1 => ?_) (fun q => by cases q)
    exact s_ret ev_c fun H2 e2 => k H2 (e1.trans e2)
  · have hl := Bt.tup hs
    have k3 := hl.kit.2.2.2.1
    have m1 : EvL (tLc (iTup K (tVar 1)) (gName 2) tYes (tCall (sp_is_whole K A) [] E0 (tCons (tVar 2) tNil)) [2]) (start ["table", "step", "place", "one", "other", "first", "second"] [.ref a, .ref p]) H ((xs.map isW).map V.bl) := by
      rw [List.map_map]
      refine el_mapT (c := fun v => v) (l := xs) (ev_var rfl) (by rw [List.map_id']; exact hs) hz (fun _ => rfl) fun y hy => ?_
      obtain ⟨n, hn⟩ := hi y hy
      exact ev_call (ea_cons (ev_var rfl) ea_nil) (spv_whole hn)
    by_cases hg : xs.length = 4 ∧ xs.all isW = true
    · obtain ⟨i, j, c, d, rfl⟩ := quad_some hg.1 hg.2
      refine q_when (b := false) (et_is (et_or (a := false) (b := false) (et_is (et_not (et_B (ev_isi (ev_var rfl) hl k3))) (by decide)) (fun _ => et_is (et_or (a := false) (b := false) (et_is (et_test (ev_neI (ev_lenT (ev_var rfl) hs) ev_c)) (by simp)) (fun _ => et_is (et_not (et_B (ev_all m1))) (by simp [isW]))) rfl)) rfl) (fun q => by cases q) (fun _ H1 e1 => ?_)
      refine ⟨_, rfl, p, _, rfl, ex_t e1 hs, rfl, _, _, rfl, _, _, rfl, _, _, rfl, _, _, rfl, rfl, ?_⟩
      have hT1 := hT.mono e1
      have hT1' := hT1.sq
      show tSeq _ _ _ [some (.ref a), some (.ref p), none, some (.int i), some (.int j), some (.int c), some (.int d)] H1
      refine q_when (b := !(decide (0 ≤ i) && decide (i < t.length)) || !(decide (0 ≤ j) && decide (j < t.length)))
        (et_or (et_not (et_test (ev_is (ev_chain ev_c (ev_var rfl) fun _ => ev_lenL (ev_var rfl) hT1') (by rw [List.length_map])))) fun _ => et_not (et_test (ev_is (ev_chain ev_c (ev_var rfl) fun _ => ev_lenL (ev_var rfl) hT1') (by rw [List.length_map])))) (fun q H2 e2 => ?_) (fun q H2 e2 => ?_)
      · refine s_ret ev_c fun H3 e3 => ?_
        have := k H3 ((e1.trans e2).trans e3)
        have z : isSw t (quad [.int i, .int j, .int c, .int d]) = false := by
          show ((decide (0 ≤ i) && decide (i < t.length)) && (decide (0 ≤ j) && decide (j < t.length)) && _ && _) = false
          cases h1 : (decide (0 ≤ i) && decide (i < t.length)) <;> cases h2 : (decide (0 ≤ j) && decide (j < t.length)) <;> first | rfl | (rw [h1, h2] at q; cases q)
        rwa [z] at this
      · have hT2 := hT1.mono e2
        rw [Bool.or_eq_false_iff] at q
        obtain ⟨q1, q2⟩ := q
        have q1 : (decide (0 ≤ i) && decide (i < t.length)) = true := by simpa using q1
        have q2 : (decide (0 ≤ j) && decide (j < t.length)) = true := by simpa using q2
        have spw : SpV (sp_width K A) [.ref a] H2 (.int (wid t : Nat)) := spv_width hT2.sq (by omega)
        refine q_when (b := !(decide (0 ≤ c) && decide (c < wid t)) || !(decide (0 ≤ d) && decide (d < wid t)))
          (et_or (et_not (et_test (ev_chain ev_c (ev_var rfl) fun _ => ev_call (ea_cons (ev_var rfl) ea_nil) spw))) fun _ => et_not (et_test (ev_chain ev_c (ev_var rfl) fun _ => ev_call (ea_cons (ev_var rfl) ea_nil) spw))) (fun q H3 e3 => ?_) (fun q H3 e3 => ?_)
        · refine s_ret ev_c fun H4 e4 => ?_
          have := k H4 (((e1.trans e2).trans e3).trans e4)
          have z : isSw t (quad [.int i, .int j, .int c, .int d]) = false := by
            show ((decide (0 ≤ i) && decide (i < t.length)) && (decide (0 ≤ j) && decide (j < t.length)) && ((decide (0 ≤ c) && decide (c < wid t)) && (decide (0 ≤ d) && decide (d < wid t))) && _) = false
            rw [q1, q2]
            cases h1 : (decide (0 ≤ c) && decide (c < wid t)) <;> cases h2 : (decide (0 ≤ d) && decide (d < wid t)) <;> first | rfl | (rw [h1, h2] at q; cases q)
          rwa [z] at this
        · have hT3 := hT2.mono e3
          rw [Bool.or_eq_false_iff] at q
          have q3 : (decide (0 ≤ c) && decide (c < wid t)) = true := by simpa using q.1
          have q4 : (decide (0 ≤ d) && decide (d < wid t)) = true := by simpa using q.2
          simp only [Bool.and_eq_true, decide_eq_true_eq] at q1 q2 q3 q4
          have L1 : ∀ x y : Nat, ((⟨#[x]⟩ : Str) ++ ⟨#[y]⟩).length = 2 := fun _ _ => rfl
          refine s_ret (ev_is (ev_eqS (ev_cat (ev_cat (ev_cat (ev_cell hT3 (ev_var rfl) (ev_var rfl) (ev_var rfl) q1.1 q1.2 q3.1 q3.2) (ev_cell hT3 (ev_var rfl) (ev_var rfl) (ev_var rfl) q1.1 q1.2 q4.1 q4.2) (by show 1 + 1 ≤ 100000; decide))
            (ev_cell hT3 (ev_var rfl) (ev_var rfl) (ev_var rfl) q2.1 q2.2 q3.1 q3.2) (by show 2 + 1 ≤ 100000; decide)) (ev_cell hT3 (ev_var rfl) (ev_var rfl) (ev_var rfl) q2.1 q2.2 q4.1 q4.2) (by show 3 + 1 ≤ 100000; decide)) ev_c) ?_) fun H4 e4 => k H4 (((e1.trans e2).trans e3).trans e4)
          rw [four_eq]
          show _ = V.bl (isSw t (some (i, j, c, d)))
          unfold isSw
          simp only [q1.1, q1.2, q2.1, q2.2, q3.1, q3.2, q4.1, q4.2, decide_true, Bool.and_true, Bool.true_and]
    · rw [quad_none hg] at k
      refine q_when (b := true) (et_is (et_or (a := false) (b := true) (et_is (et_not (et_B (ev_isi (ev_var rfl) hl k3))) (by decide)) (fun _ => et_is (et_or (et_test (ev_neI (ev_lenT (ev_var rfl) hs) ev_c)) (fun _ => et_not (et_B (ev_all m1)))) ?_)) rfl) (fun _ H1 e1 => s_ret ev_c fun H2 e2 => k H2 (e1.trans e2)) (fun q => by cases q)
      by_cases h4 : xs.length = 4
      · have : xs.all isW = false := by
          cases q : xs.all isW with
          | false => rfl
          | true => exact absurd ⟨h4, q⟩ hg
        rw [List.all_map]
        show (_ || !(xs.all isW)) = true
        rw [this]; simp
      · have : ¬ ((xs.length : Int) = 4) := by omega
        rw [decide_eq_false this]; rfl
/-! ### put -/
def putS (z : Str) (f s c1 c2 : Nat) : Str := ⟨(((cs z).set f c1).set s c2).toArray⟩
theorem putS_cs (z : Str) (f s c1 c2 : Nat) : cs (putS z f s c1 c2) = ((cs z).set f c1).set s c2 := by simp [putS]
def set1 (z : Str) (f c : Nat) : Str := ⟨((cs z).set f c).toArray⟩
theorem set1_cs (z : Str) (f c : Nat) : cs (set1 z f c) = (cs z).set f c := by simp [set1]
theorem set1_len (z : Str) (f c : Nat) : (set1 z f c).length = z.length := by rw [cs_len, cs_len, set1_cs, List.length_set]
theorem set1_set1 (z : Str) (f s c1 c2 : Nat) : set1 (set1 z f c1) s c2 = putS z f s c1 c2 := cs_inj (by rw [set1_cs, set1_cs, putS_cs])
theorem cut_cs (z : Str) (lo hi : Option Int) : cs (cutS z lo hi) = ((cs z).drop (HT.sIx z.length 0 lo)).take (HT.sIx z.length z.length hi - HT.sIx z.length 0 lo) := by simp [cutS]
theorem cut_to (z : Str) (f : Nat) (hf : f ≤ z.length) : cs (cutS z none (some (f : Int))) = (cs z).take f := by
  rw [cut_cs, HT.sIx_none, HT.sIx_nat]; simp [Nat.min_eq_left hf]
theorem cut_from (z : Str) (f : Nat) (hf : f ≤ z.length) : cs (cutS z (some (f : Int)) none) = (cs z).drop f := by
  rw [cut_cs, HT.sIx_none, HT.sIx_nat, Nat.min_eq_left hf]
  apply List.take_of_length_le
  rw [List.length_drop, cs_len]; omega
theorem put1 (z : Str) (f c : Nat) (hf : f < z.length) : cutS z none (some (f : Int)) ++ (⟨#[c]⟩ : Str) ++ cutS z (some ((f : Int) + 1)) none = set1 z f c := by
  apply cs_inj
  have e : ((f : Int) + 1) = ((f + 1 : Nat) : Int) := by omega
  rw [cs_app, cs_app, cut_to z f (by omega), e, cut_from z (f + 1) (by omega), set1_cs]
  show (cs z).take f ++ [c] ++ (cs z).drop (f + 1) = _
  rw [List.set_eq_take_append_cons_drop, if_pos (by rw [← cs_len]; exact hf), List.append_assoc]; rfl
def sp_put (K : PySem.W.Frag) (A : Ad) : Sp := fun vs H Q _ => ∃ (z : Str) (f s c1 c2 : Nat), vs = [.str z, .int (f : Nat), .int (s : Nat), .str ⟨#[c1, c2]⟩] ∧ f < z.length ∧ s < z.length ∧ z.length ≤ 40000 ∧ ∀ H', Ex H H' → Q (.str (putS z f s c1 c2)) H'
theorem spv_put {K : PySem.W.Frag} {A : Ad} {H : Hp} {z : Str} {f s c1 c2 : Nat} (h1 : f < z.length) (h2 : s < z.length) (h3 : z.length ≤ 40000) : SpV (sp_put K A) [.str z, .int (f : Nat), .int (s : Nat), .str ⟨#[c1, c2]⟩] H (.str (putS z f s c1 c2)) :=
  fun H1 e Q q E => ⟨z, f, s, c1, c2, rfl, h1, h2, h3, q⟩
def t_put (K : PySem.W.Frag) (A : Ad) : TS :=
  (tSeq (tAsg (tOp rAddSt (tOp rAddSt (tSl rSlS (tVar 0) tNoPart (tPart (tVar 1))) (tOp rIxS (tVar 3) (tC (.int 0)))) (tSl rSlS (tVar 0) (tPart (tOp rAddI (tVar 1) (tC (.int 1)))) tNoPart)) (gName 4))
  (tRet (tOp rAddSt (tOp rAddSt (tSl rSlS (tVar 4) tNoPart (tPart (tVar 2))) (tOp rIxS (tVar 3) (tC (.int 1)))) (tSl rSlS (tVar 4) (tPart (tOp rAddI (tVar 2) (tC (.int 1)))) tNoPart))))
theorem len_put {K : PySem.W.Frag} {A : Ad} : ∀ vs H Q E, sp_put K A vs H Q E → vs.length = 4 := by
  rintro _ H Q E ⟨z, f, s, c1, c2, rfl, _⟩; rfl
theorem ev_put1 {K : PySem.W.Frag} {σ : L2.St} {H : Hp} {tz tf td : TE} {z : Str} {f c : Nat} (h1 : Ev tz σ H (.str z)) (h2 : Ev tf σ H (.int (f : Nat))) (h3 : Ev td σ H (.str ⟨#[c]⟩)) (hf : f < z.length) (hz : z.length ≤ 40000) :
    Ev (tOp rAddSt (tOp rAddSt (tSl rSlS tz tNoPart (tPart tf)) td) (tSl rSlS tz (tPart (tOp rAddI tf (tC (.int 1)))) tNoPart)) σ H (.str (set1 z f c)) := by
  have l1 : (cutS z none (some (f : Int))).length ≤ f := by rw [cs_len, cut_to z f (by omega), List.length_take]; omega
  have l2 : (cutS z (some ((f : Int) + 1)) none).length ≤ z.length := by
    have e : ((f : Int) + 1) = ((f + 1 : Nat) : Int) := by omega
    rw [cs_len, e, cut_from z (f + 1) (by omega), List.length_drop, ← cs_len]; omega
  have l3 : (cutS z none (some (f : Int)) ++ (⟨#[c]⟩ : Str)).length ≤ f + 1 := by rw [cs_len, cs_app, List.length_append, ← cs_len]; show _ + 1 ≤ _; omega
  have l4 : (⟨#[c]⟩ : Str).length = 1 := rfl
  refine ev_is (ev_cat (ev_cat (ev_slS h1 eo_none (eo_some h2) (by omega)) h3 (by omega)) (ev_slS h1 (eo_some (ev_int2 h2 ev_c)) eo_none (by omega)) (by omega)) ?_
  rw [put1 z f c hf]
theorem rd_put {K : PySem.W.Frag} {A : Ad} (vs : List V) (H : Hp) (Q : VK) (E : XK) (h : sp_put K A vs H Q E) : t_put K A { nx := fun _ H' => Q .non H', rt := Q } (start ["row", "first", "second", "signs", "found"] vs) H := by
  obtain ⟨z, f, s, c1, c2, rfl, h1, h2, h3, k⟩ := h
  refine q_asg (ev_put1 (K := K) (ev_var rfl) (ev_var rfl) (ev_ixS (z := ⟨#[c1, c2]⟩) (c := c1) (ev_var rfl) ev_c (by show 2 ≤ 100000; decide) (atI_nat (j := 0) rfl)) h1 h3) fun H1 e1 => ?_
  refine s_ret (ev_is (ev_put1 (K := K) (z := set1 z f c1) (f := s) (c := c2) (ev_var rfl) (ev_var rfl) (ev_ixS (z := ⟨#[c1, c2]⟩) (c := c2) (ev_var rfl) ev_c (by show 2 ≤ 100000; decide) (atI_nat (j := 1) rfl)) (by rw [set1_len]; exact h2) (by rw [set1_len]; exact h3)) ?_) fun H2 e2 => k H2 (e1.trans e2)
  rw [set1_set1]
/-! ### switched_by -/
def swBy (t : List Str) (a b c d : Nat) : List Str := (t.set a (putS (t.getD a ⟨#[]⟩) c d 45 120)).set b (putS (t.getD b ⟨#[]⟩) c d 120 45)
def sp_switched_by (K : PySem.W.Frag) (A : Ad) : Sp := fun vs H Q _ => ∃ (p q : Addr) (t : List Str) (a b c d : Nat), vs = [.ref p, .ref q] ∧ Tb K H p t ∧ SqT K H q [.int (a : Nat), .int (b : Nat), .int (c : Nat), .int (d : Nat)] ∧ a < t.length ∧ b < t.length ∧ c < wid t ∧ d < wid t ∧
  ∀ r H', H r = none → Ex H H' → H' r = some (.lst ((swBy t a b c d).map V.str)) → Q (.ref r) H'
def t_switched_by (K : PySem.W.Frag) (A : Ad) : TS :=
  (tSeq (tAsg (tVar 1) (gTup K 4 (gCons (gName 2) (gCons (gName 3) (gCons (gName 4) (gCons (gName 5) gNil))))))
  (tSeq (tAsg (tCB (rListOf K) (tCons (tVar 0) tNil)) (gName 6))
  (tSeq (tAsg (tCall (sp_put K A) [] E0 (tCons (tOp (rIxL K) (tVar 0) (tVar 2)) (tCons (tVar 4) (tCons (tVar 5) (tCons (tC (.str "-x")) tNil))))) (gSub (tVar 6) (tVar 2) rSetL))
  (tSeq (tAsg (tCall (sp_put K A) [] E0 (tCons (tOp (rIxL K) (tVar 0) (tVar 3)) (tCons (tVar 4) (tCons (tVar 5) (tCons (tC (.str "x-")) tNil))))) (gSub (tVar 6) (tVar 3) rSetL))
  (tRet (tVar 6))))))
theorem len_switched_by {K : PySem.W.Frag} {A : Ad} : ∀ vs H Q E, sp_switched_by K A vs H Q E → vs.length = 2 := by
  rintro _ H Q E ⟨p, q, t, a, b, c, d, rfl, _⟩; rfl
theorem rd_switched_by {K : PySem.W.Frag} {A : Ad} (vs : List V) (H : Hp) (Q : VK) (E : XK) (h : sp_switched_by K A vs H Q E) : t_switched_by K A { nx := fun _ H' => Q .non H', rt := Q } (start ["table", "step", "one", "other", "first", "second", "found"] vs) H := by
  obtain ⟨p, q, t, a, b, c, d, rfl, hT, hq, ha, hb, hc, hd, k⟩ := h
  have hw := hT.wi
  refine ⟨_, rfl, q, _, rfl, hq, rfl, _, _, rfl, _, _, rfl, _, _, rfl, _, _, rfl, rfl, ?_⟩
  show tSeq _ _ _ [some (.ref p), some (.ref q), some (.int (a : Nat)), some (.int (b : Nat)), some (.int (c : Nat)), some (.int (d : Nat)), none] H
  refine q_asgL (el_listL (ev_var rfl) hT.sq) fun r H1 hr e1 h1 => ?_
  have hT1 := hT.mono e1
  have ga : ∀ {i : Nat}, i < t.length → t[i]? = some (t.getD i ⟨#[]⟩) ∧ (t.getD i ⟨#[]⟩).length = wid t := fun hi => ⟨getD_some hi, (isTab_mem hT.ok (List.mem_of_getElem? (getD_some hi))).1⟩
  have e5 : (Str.ofString "-x") = ⟨#[45, 120]⟩ := by decide +kernel
  have e6 : (Str.ofString "x-") = ⟨#[120, 45]⟩ := by decide +kernel
  have ev1 : ∀ {σ : L2.St} {Hx : Hp} {i j : Nat} (m : Str) (x y : Nat), m = ⟨#[x, y]⟩ → Ex H1 Hx → σ[0]? = some (some (.ref p)) → σ[j]? = some (some (.int (i : Nat))) → σ[4]? = some (some (.int (c : Nat))) → σ[5]? = some (some (.int (d : Nat))) → i < t.length →
      Ev (tCall (sp_put K A) [] E0 (tCons (tOp (rIxL K) (tVar 0) (tVar j)) (tCons (tVar 4) (tCons (tVar 5) (tCons (tC (.str m)) tNil))))) σ Hx (.str (putS (t.getD i ⟨#[]⟩) c d x y)) := by
    intro σ Hx i j m x y hm ex s0 sj s4 s5 hi
    subst hm
    obtain ⟨g1, g2⟩ := ga hi
    exact ev_call (ea_cons (ev_ixL (v := .str (t.getD i ⟨#[]⟩)) (ev_var s0) (ev_var sj) (ex_l ex hT1.sq) (by rw [List.getElem?_map, g1]; rfl)) (ea_cons (ev_var s4) (ea_cons (ev_var s5) (ea_cons ev_c ea_nil)))) (spv_put (by omega) (by omega) (by omega))
  refine q_setL (l := r) (j := a) h1 (ev1 _ 45 120 e5 (Ex.refl _) rfl rfl rfl rfl ha) (ev_var rfl) (ev_var rfl) (by rw [List.length_map]; exact ha) fun H2 e2 => ?_
  have hr2 : ∀ o, H1 r = some o → True := fun _ _ => trivial
  have hp1 : ∀ a' xs, SqL K H a' xs → SqL K (upd H2 r (.lst ((t.map V.str).set a (.str (putS (t.getD a ⟨#[]⟩) c d 45 120))))) a' xs := fun a' xs hx => ex_l ((e1.trans e2).mut hr) hx
  have ev2 : Ev (tCall (sp_put K A) [] E0 (tCons (tOp (rIxL K) (tVar 0) (tVar 3)) (tCons (tVar 4) (tCons (tVar 5) (tCons (tC (.str "x-")) tNil))))) [some (.ref p), some (.ref q), some (.int (a : Nat)), some (.int (b : Nat)), some (.int (c : Nat)), some (.int (d : Nat)), some (.ref r)]
      (upd H2 r (.lst ((t.map V.str).set a (.str (putS (t.getD a ⟨#[]⟩) c d 45 120))))) (.str (putS (t.getD b ⟨#[]⟩) c d 120 45)) := by
    rw [e6]
    obtain ⟨g1, g2⟩ := ga hb
    exact ev_call (ea_cons (ev_ixL (v := .str (t.getD b ⟨#[]⟩)) (ev_var rfl) (ev_var rfl) (hp1 _ _ hT.sq) (by rw [List.getElem?_map, g1]; rfl)) (ea_cons (ev_var rfl) (ea_cons (ev_var rfl) (ea_cons ev_c ea_nil)))) (spv_put (by omega) (by omega) (by omega))
  refine q_setL (l := r) (j := b) (xs := (t.map V.str).set a (.str (putS (t.getD a ⟨#[]⟩) c d 45 120))) upd_same ev2 (ev_var rfl) (ev_var rfl) (by rw [List.length_set, List.length_map]; exact hb) fun H3 e3 => ?_
  refine s_ret (ev_var rfl) fun H4 e4 => k r H4 hr (((((e1.trans e2).mut hr).trans e3).mut hr).trans e4) (e4 _ _ ?_)
  rw [upd_same]
  unfold swBy
  rw [List.map_set, List.map_set]
/-! ### switch -/
def sp_switch (K : PySem.W.Frag) (A : Ad) : Sp := fun vs H Q E => ∃ x y b, vs = [x, y] ∧ Th K H x b ∧ (b = false → ∀ H', Ex H H' → E (.ref A.BadTable) none H') ∧
  (b = true → ∃ p t s, x = .ref p ∧ Tb K H p t ∧ Qd K H y s ∧ (isSw t s = false → ∀ H', Ex H H' → E (.ref A.BadPlace) none H') ∧
    (isSw t s = true → ∃ (q : Addr) (a b c d : Nat), y = .ref q ∧ SqT K H q [.int (a : Nat), .int (b : Nat), .int (c : Nat), .int (d : Nat)] ∧ a < t.length ∧ b < t.length ∧ c < wid t ∧ d < wid t ∧
      ∀ r H', H r = none → Ex H H' → H' r = some (.lst ((swBy t a b c d).map V.str)) → Q (.ref r) H'))
def t_switch (K : PySem.W.Frag) (A : Ad) (E : XK) : TS :=
  (tSeq (tDrop (tCall (sp_check_table K A) [] E (tCons (tVar 0) tNil)))
  (tSeq (tIfS (tNot (tB (tCall (sp_is_switch K A) [] E0 (tCons (tVar 0) (tCons (tVar 1) tNil))))) (tRaise E (.ref A.BadPlace)) tNext)
  (tRet (tCall (sp_switched_by K A) [] E0 (tCons (tVar 0) (tCons (tVar 1) tNil))))))
theorem len_switch {K : PySem.W.Frag} {A : Ad} : ∀ vs H Q E, sp_switch K A vs H Q E → vs.length = 2 := by
  rintro _ H Q E ⟨x, y, b, rfl, _⟩; rfl
theorem rd_switch {K : PySem.W.Frag} {A : Ad} (vs : List V) (H : Hp) (Q : VK) (E : XK) (h : sp_switch K A vs H Q E) : t_switch K A E { nx := fun _ H' => Q .non H', rt := Q } (start ["table", "step"] vs) H := by
  obtain ⟨x, y, b, rfl, hb, k1, k2⟩ := h
  refine ⟨_, rfl, x, b, rfl, hb, fun q H1 e1 => ?_, fun q => k1 q⟩
  obtain ⟨p, t, s, rfl, hT, hq, k3, k4⟩ := k2 q
  refine q_when (b := !(isSw t s)) (et_not (et_B (ev_call (ea_cons (ev_var rfl) (ea_cons (ev_var rfl) ea_nil)) (spv_switch (hT.mono e1) (hq.mono e1))))) (fun z H2 e2 => ?_) (fun z H2 e2 => ?_)
  · exact k3 (by simpa using z) H2 (e1.trans e2)
  · obtain ⟨q, a, b, c, d, rfl, hs, ha, hb, hc, hd, k5⟩ := k4 (by simpa using z)
    have e := e1.trans e2
    exact ⟨_, rfl, _, rfl, p, q, t, a, b, c, d, rfl, hT.mono e, ex_t e hs, ha, hb, hc, hd, fun r H' hr e' => k5 r H' (fresh_back e hr) (e.trans e')⟩
end Cc
/-! What all five laws have of their own: cell_at, draw, table. -/
namespace Cc
open PySem PySem.Spec PyProof.Rows L2 Evl
section
variable {K : PySem.W.Frag} {σ : L2.St} {H : Hp} {D : Ends} {tu tz : TS} {ta : TA}
theorem q_par {i j : Nat} {v w : V} (h : EvA ta σ H [v, w]) (k : ∀ H1, Ex H H1 → tz D ((σ.set i (some v)).set j (some w)) H1) : tSeq (tPar i j ta) tz D σ H := h H (Ex.refl H) _ fun H1 e => ⟨v, w, rfl, k H1 e⟩
end
/-! ### cell_at -/
def sp_law_cell_at (K : PySem.W.Frag) (A : Ad) : Sp := fun vs H Q _ => ∃ (a : Addr) (ns : List Int) (k : Nat), vs = [.ref a, .int ((k : Nat) : Int)] ∧ SqL K H a (ns.map V.int) ∧ ∀ H', Ex H H' → Q (.int (ns.getD k 0)) H'
theorem spv_cell {K : PySem.W.Frag} {A : Ad} {H : Hp} {a : Addr} {ns : List Int} {k : Nat} (h : SqL K H a (ns.map V.int)) : SpV (sp_law_cell_at K A) [.ref a, .int ((k : Nat) : Int)] H (.int (ns.getD k 0)) := fun H1 e Q q E => ⟨a, ns, k, rfl, ex_l e h, q⟩
def t_law_cell_at (K : PySem.W.Frag) (A : Ad) : TS :=
  (tSeq (tIfS (tTest (tOp rLtI (tVar 1) (tCB (rLenV K) (tCons (tVar 0) tNil)))) (tRet (tOp (rIxL K) (tVar 0) (tVar 1))) tNext)
  (tRet (tC (.int 0))))
theorem len_law_cell_at {K : PySem.W.Frag} {A : Ad} : ∀ vs H Q E, sp_law_cell_at K A vs H Q E → vs.length = 2 := by
  rintro _ H Q E ⟨x, n, k, rfl, _⟩; rfl
theorem rd_law_cell_at {K : PySem.W.Frag} {A : Ad} (vs : List V) (H : Hp) (Q : VK) (E : XK) (h : sp_law_cell_at K A vs H Q E) : t_law_cell_at K A { nx := fun _ H' => Q .non H', rt := Q } (start ["_law_script", "_law_k"] vs) H := by
  obtain ⟨a, ns, k, rfl, hs, q⟩ := h
  refine q_when (et_test (ev_int2 (ev_var rfl) (ev_lenL (ev_var rfl) hs))) (fun c H1 e1 => ?_) (fun c H1 e1 => ?_)
  · rw [List.length_map] at c
    have c : k < ns.length := by have := of_decide_eq_true c; omega
    refine s_ret (ev_ixL (j := k) (ev_var rfl) (ev_var rfl) (ex_l e1 hs) (v := .int (ns.getD k 0)) ?_) fun H2 e2 => q H2 (e1.trans e2)
    rw [List.getElem?_map, getD_some c]; rfl
  · rw [List.length_map] at c
    have c : ¬ k < ns.length := by have := of_decide_eq_false c; omega
    refine s_ret ev_c fun H2 e2 => ?_
    have := q H2 (e1.trans e2)
    rwa [List.getD_eq_getElem?_getD, List.getElem?_eq_none (by omega)] at this
/-! ### draw -/
def prm (k : Nat) : Int := [1000003, 1000033, 1000037, 1000039, 1000081, 1000099, 1000117, 1000121, 1000133, 1000151, 1000159, 1000171, 1000183, 1000187, 1000193, 1000199].getD k 1
def drw (c : Int) (k : Nat) (m : Int) : Int := (c * 48271 + (k : Int) * 69621) % prm (k % 16) % m
theorem drw_lt (c : Int) (k : Nat) {m : Int} (h : 0 < m) : 0 ≤ drw c k m ∧ drw c k m < m := ⟨Int.emod_nonneg _ (by omega), Int.emod_lt_of_pos _ h⟩
def sp_law_draw (K : PySem.W.Frag) (A : Ad) : Sp := fun vs H Q _ => ∃ c k m, vs = [.int c, .int ((k : Nat) : Int), .int m] ∧ 0 < m ∧ k ≤ 100000 ∧ ∀ H', Ex H H' → Q (.int (drw c k m)) H'
theorem spv_draw {K : PySem.W.Frag} {A : Ad} {H : Hp} {c m : Int} {k : Nat} (h : 0 < m) (hk : k ≤ 100000) : SpV (sp_law_draw K A) [.int c, .int ((k : Nat) : Int), .int m] H (.int (drw c k m)) := fun H1 e Q q E => ⟨c, k, m, rfl, h, hk, q⟩
def t_law_draw (K : PySem.W.Frag) (A : Ad) : TS :=
  (tSeq (tAsg (tTup (tCons (tC (.int 1000003)) (tCons (tC (.int 1000033)) (tCons (tC (.int 1000037)) (tCons (tC (.int 1000039)) (tCons (tC (.int 1000081)) (tCons (tC (.int 1000099)) (tCons (tC (.int 1000117)) (tCons (tC (.int 1000121)) (tCons (tC (.int 1000133)) (tCons (tC (.int 1000151)) (tCons (tC (.int 1000159)) (tCons (tC (.int 1000171)) (tCons (tC (.int 1000183)) (tCons (tC (.int 1000187)) (tCons (tC (.int 1000193)) (tCons (tC (.int 1000199)) tNil))))))))))))))))) (gName 3))
  (tRet (tOp rModI (tOp rModI (tOp rAddI (tOp rMulI (tVar 0) (tC (.int 48271))) (tOp rMulI (tVar 1) (tC (.int 69621)))) (tOp (rIxT K) (tVar 3) (tOp rModI (tVar 1) (tC (.int 16))))) (tVar 2))))
theorem len_law_draw {K : PySem.W.Frag} {A : Ad} : ∀ vs H Q E, sp_law_draw K A vs H Q E → vs.length = 3 := by
  rintro _ H Q E ⟨x, n, k, rfl, _⟩; rfl
theorem rd_law_draw {K : PySem.W.Frag} {A : Ad} (vs : List V) (H : Hp) (Q : VK) (E : XK) (h : sp_law_draw K A vs H Q E) : t_law_draw K A { nx := fun _ H' => Q .non H', rt := Q } (start ["_law_cell", "_law_k", "_law_many", "_law_primes"] vs) H := by
  obtain ⟨c, k, m, rfl, hm, hk, q⟩ := h
  refine q_asgU (eu_tup (ea_cons ev_c (ea_cons ev_c (ea_cons ev_c (ea_cons ev_c (ea_cons ev_c (ea_cons ev_c (ea_cons ev_c (ea_cons ev_c (ea_cons ev_c (ea_cons ev_c (ea_cons ev_c (ea_cons ev_c (ea_cons ev_c (ea_cons ev_c (ea_cons ev_c (ea_cons ev_c ea_nil)))))))))))))))) (by decide)) fun p H1 hp e1 h1 => ?_
  have hmul : ∀ i : Int, CMul i 48271 ∧ CMul i 69621 := fun i => ⟨.inr ⟨by decide, by decide⟩, .inr ⟨by decide, by decide⟩⟩
  have hlt : k % 16 < 16 := Nat.mod_lt _ (by decide)
  have hpos : ∀ i, i < 16 → 0 < prm i ∧ ([.int 1000003, .int 1000033, .int 1000037, .int 1000039, .int 1000081, .int 1000099, .int 1000117, .int 1000121, .int 1000133, .int 1000151, .int 1000159, .int 1000171, .int 1000183, .int 1000187, .int 1000193, .int 1000199] : List V)[i]? = some (.int (prm i)) := by decide
  have e16 : ((k : Int) % 16) = ((k % 16 : Nat) : Int) := by omega
  have ex : Ev (tOp (rIxT K) (tVar 3) (tOp rModI (tVar 1) (tC (.int 16)))) [some (.int c), some (.int ((k : Nat) : Int)), some (.int m), some (.ref p)] H1 (.int (prm (k % 16))) := by
    refine ev_ixTi (i := (k : Int) % 16) (ev_var rfl) (ev_int2C (ev_var rfl) ev_c (by decide)) (SqT.of h1) ?_
    rw [e16]
    exact atI_nat (hpos _ hlt).2
  exact s_ret (ev_int2C (ev_int2C (ev_int2 (ev_int2C (ev_var rfl) ev_c (hmul _).1) (ev_int2C (ev_var rfl) ev_c (hmul _).2)) ex (hpos _ hlt).1) (ev_var rfl) hm) fun H2 e2 => q H2 (e1.trans e2)
/-! ### table: some table -/
def sp_law_table (K : PySem.W.Frag) (A : Ad) : Sp := fun vs H Q _ => ∃ (a : Addr) (ns : List Int), vs = [.ref a] ∧ SqL K H a (ns.map V.int) ∧
  ∀ (p : Addr) (t : List Str) (H' : Hp), H p = none → Ex H H' → H' p = some (.lst (t.map V.str)) → isTab t = true → t.length ≤ 63 → wid t ≤ 63 → Q (.ref p) H'
abbrev t_law_table_rest (K : PySem.W.Frag) (A : Ad) : TS :=
  (tSeq (tAsg (tLst tNil) (gName 4))
  (tSeq (tFor (iList K (tVar 0)) (gName 5) (tSeq (tPar 6 7 (tCons (tVar 5) (tCons (tC (.str "")) tNil)))
  (tSeq (tFor (iRng1 (tCons (tVar 2) tNil)) (gName 8) (tSeq (tAsg (tIf (tB (tVar 3)) (tOp rModI (tVar 6) (tC (.int 8))) (tCall (sp_law_draw K A) [] E0 (tCons (tOp rAddI (tOp rMulI (tVar 5) (tOp rAddI (tVar 8) (tC (.int 3)))) (tOp rMulI (tC (.int 977)) (tVar 8))) (tCons (tOp rAddI (tOp rModI (tVar 8) (tC (.int 9))) (tC (.int 1))) (tCons (tC (.int 8)) tNil))))) (gName 9))
  (tSeq (tAsg (tOp rEq (tOp rModI (tVar 9) (tC (.int 2))) (tC (.int 1))) (gName 10))
  (tSeq (tIfS (tOr (tTest (tOp rEq (tVar 1) (tC (.int 2)))) (tTest (tOp rEq (tVar 1) (tC (.int 3))))) (tAsg (tOp rEq (tOp rGtI (tVar 9) (tC (.int 0))) (tOp rEq (tVar 1) (tC (.int 2)))) (gName 10)) tNext)
  (tSeq (tIfS (tTest (tOp rEq (tVar 1) (tC (.int 4)))) (tAsg (tOp rLeI (tVar 8) (tOp rModI (tVar 5) (tOp rAddI (tVar 2) (tC (.int 1))))) (gName 10)) tNext)
  (tSeq (tAsg (tOp rAddSt (tVar 7) (tIf (tB (tVar 10)) (tC (.str "x")) (tC (.str "-")))) (gName 7))
  (tAsg (tOp rDivI (tVar 6) (tC (.int 2))) (gName 6))))))))
  (tDrop (tBM K "list" rAppend (tVar 4) (tCons (tVar 7) tNil))))))
  (tSeq (tIfS (tTest (tOp rEq (tCall (sp_law_draw K A) [] E0 (tCons (tCall (sp_law_cell_at K A) [] E0 (tCons (tVar 0) (tCons (tC (.int 0)) tNil))) (tCons (tC (.int 9)) (tCons (tC (.int 3)) tNil)))) (tC (.int 0)))) (tAsg (tLc (iRng1 (tCons (tVar 2) tNil)) (gName 8) tYes (tBM K "str" (rJoin K) (tC (.str "")) (tCons (tLc (iList K (tVar 4)) (gName 7) tYes (tOp rIxS (tVar 7) (tVar 8)) [7]) tNil)) [8]) (gName 4)) tNext)
  (tRet (tVar 4)))))
def t_law_table (K : PySem.W.Frag) (A : Ad) : TS :=
  (tSeq (tAsg (tSl (rSlL K) (tVar 0) tNoPart (tPart (tC (.int 63)))) (gName 0))
  (tSeq (tPar 1 2 (tCons (tCall (sp_law_draw K A) [] E0 (tCons (tCall (sp_law_cell_at K A) [] E0 (tCons (tVar 0) (tCons (tC (.int 0)) tNil))) (tCons (tC (.int 6)) (tCons (tC (.int 6)) tNil)))) (tCons (tCall (sp_law_draw K A) [] E0 (tCons (tCall (sp_law_cell_at K A) [] E0 (tCons (tVar 0) (tCons (tC (.int 1)) tNil))) (tCons (tC (.int 7)) (tCons (tC (.int 9)) tNil)))) tNil)))
  (tSeq (tAsg (tOp rEq (tCall (sp_law_draw K A) [] E0 (tCons (tCall (sp_law_cell_at K A) [] E0 (tCons (tVar 0) (tCons (tC (.int 2)) tNil))) (tCons (tC (.int 8)) (tCons (tC (.int 2)) tNil)))) (tC (.int 0))) (gName 3))
  (tSeq (tIfS (tTest (tOp rEq (tVar 1) (tC (.int 1)))) (tAsg (tOp rAddI (tVar 2) (tC (.int 12))) (gName 2)) tNext)
  (t_law_table_rest K A)))))
theorem len_law_table {K : PySem.W.Frag} {A : Ad} : ∀ vs H Q E, sp_law_table K A vs H Q E → vs.length = 1 := by
  rintro _ H Q E ⟨x, n, rfl, _⟩; rfl
theorem cutV_to (xs : List V) (n : Nat) : cutV xs none (some (n : Int)) = xs.take n := by
  unfold cutV
  rw [HT.sIx_none, HT.sIx_nat, List.drop_zero, Nat.sub_zero]
  apply List.ext_getElem?
  intro i
  rw [List.getElem?_take, List.getElem?_take]
  by_cases h : i < n
  · by_cases h2 : i < xs.length
    · rw [if_pos (by omega), if_pos h]
    · rw [if_neg (by omega), if_pos h, List.getElem?_eq_none (by omega)]
  · rw [if_neg (by omega), if_neg h]
theorem joinL_nil : ∀ l : List (List Nat), TL.joinL [] l = l.flatten
  | [] => rfl
  | [p] => by simp [TL.joinL]
  | p :: q :: r => by
    show p ++ ([] ++ TL.joinL [] (q :: r)) = _
    rw [joinL_nil (q :: r)]; rfl
theorem cs_join (l : List Str) : cs (Txt.join (Str.ofString "") l) = (l.map cs).flatten := by
  rw [TL.join_eq]
  show TL.tl _ = _
  rw [TL.tl_join, str_e]
  exact joinL_nil _
theorem flat_one {α : Type} (f : α → Nat) (l : List α) : (l.map fun a => [f a]).flatten = l.map f := by
  induction l with
  | nil => rfl
  | cons a l ih => rw [List.map_cons, List.flatten_cons, ih]; rfl
/-- column j of the rows t, as a text -/
def colS (t : List Str) (j : Nat) : Str := Txt.join (Str.ofString "") (t.map fun z => (⟨#[(cs z).getD j 0]⟩ : Str))
theorem colS_cs (t : List Str) (j : Nat) : cs (colS t j) = t.map fun z => (cs z).getD j 0 := by
  unfold colS
  rw [cs_join, List.map_map]
  exact flat_one _ _
theorem okS_iff (z : Str) : okS z = true ↔ ∀ c ∈ cs z, c = 120 ∨ c = 45 := by
  unfold okS
  simp only [List.all_eq_true, Bool.or_eq_true, beq_iff_eq]
theorem tab_tr {t : List Str} {w : Nat} (h : ∀ z ∈ t, z.length = w ∧ okS z = true) : isTab ((List.range w).map (colS t)) = true ∧ wid ((List.range w).map (colS t)) ≤ t.length := by
  have hl : ∀ j, (colS t j).length = t.length := fun j => by rw [cs_len, colS_cs, List.length_map]
  have hw : wid ((List.range w).map (colS t)) = t.length ∨ w = 0 := by
    cases w with
    | zero => exact .inr rfl
    | succ w => left; rw [List.range_succ_eq_map]; exact hl 0
  refine ⟨List.all_eq_true.mpr fun z hz => ?_, ?_⟩
  · obtain ⟨j, hj, rfl⟩ := List.mem_map.mp hz
    have hj := List.mem_range.mp hj
    rw [Bool.and_eq_true, decide_eq_true_eq]
    refine ⟨by rcases hw with q | q; · rw [q, hl]
               · omega, ?_⟩
    rw [okS_iff, colS_cs]
    intro c hc
    obtain ⟨z, hz, rfl⟩ := List.mem_map.mp hc
    obtain ⟨h1, h2⟩ := h z hz
    refine (okS_iff z).mp h2 _ ?_
    exact List.mem_of_getElem? (getD_some (d := 0) (by rw [← cs_len]; omega))
  · rcases hw with q | q
    · omega
    · subst q; show wid [] ≤ _; exact Nat.zero_le _
theorem tab_rows {t : List Str} {w : Nat} (h : ∀ z ∈ t, z.length = w ∧ okS z = true) : isTab t = true ∧ wid t ≤ w := by
  cases t with
  | nil => exact ⟨rfl, Nat.zero_le _⟩
  | cons z t =>
    have hz := (h z List.mem_cons_self).1
    refine ⟨List.all_eq_true.mpr fun y hy => ?_, Nat.le_of_eq hz⟩
    obtain ⟨h1, h2⟩ := h y hy
    rw [h2, Bool.and_true, decide_eq_true_eq, h1]
    exact hz.symm
theorem okS_add {z : Str} {b : Bool} (h : okS z = true) : okS (z ++ if b then Str.ofString "x" else Str.ofString "-") = true := by
  rw [okS_iff] at h ⊢
  intro c hc
  rw [cs_app, List.mem_append] at hc
  rcases hc with hc | hc
  · exact h c hc
  · cases b
    · right
      have : c ∈ cs (Str.ofString "-") := hc
      rw [str_d] at this
      simpa using this
    · left
      have : c ∈ cs (Str.ofString "x") := hc
      rw [str_x] at this
      simpa using this
theorem len_add (z : Str) (b : Bool) : (z ++ if b then Str.ofString "x" else Str.ofString "-").length = z.length + 1 := by
  rw [cs_len, cs_app, List.length_append, ← cs_len]
  cases b
  · show _ + (cs (Str.ofString "-")).length = _; rw [str_d]; rfl
  · show _ + (cs (Str.ofString "x")).length = _; rw [str_x]; rfl
theorem ev_drw {K : PySem.W.Frag} {A : Ad} {σ : L2.St} {H : Hp} {te : TE} {c : Int} {k m : Nat} (h : Ev te σ H (.int c)) (hm : 0 < m) (hk : k ≤ 100000) : Ev (tCall (sp_law_draw K A) [] E0 (tCons te (tCons (tC (.int (k : Nat))) (tCons (tC (.int (m : Nat))) tNil)))) σ H (.int (drw c k m)) :=
  ev_call (ea_cons h (ea_cons ev_c (ea_cons ev_c ea_nil))) (spv_draw (by omega) hk)
theorem ev_cellA {K : PySem.W.Frag} {A : Ad} {σ : L2.St} {H : Hp} {te : TE} {a : Addr} {ns : List Int} {k : Nat} (h : Ev te σ H (.ref a)) (hs : SqL K H a (ns.map V.int)) : Ev (tCall (sp_law_cell_at K A) [] E0 (tCons te (tCons (tC (.int (k : Nat))) tNil))) σ H (.int (ns.getD k 0)) :=
  ev_call (ea_cons h (ea_cons ev_c ea_nil)) (spv_cell hs)
theorem rd_law_table {K : PySem.W.Frag} {A : Ad} (vs : List V) (H : Hp) (Q : VK) (E : XK) (h : sp_law_table K A vs H Q E) : t_law_table K A { nx := fun _ H' => Q .non H', rt := Q } (start ["_law_script", "_law_kind", "_law_wide", "_law_own", "_law_table_here", "_law_cell", "_law_left", "_law_row", "_law_place", "_law_digit", "_law_sign"] vs) H := by
  obtain ⟨a0, ns0, rfl, hs0, q⟩ := h
  have m0 := el_sl (K := K) (σ := start ["_law_script", "_law_kind", "_law_wide", "_law_own", "_law_table_here", "_law_cell", "_law_left", "_law_row", "_law_place", "_law_digit", "_law_sign"] [.ref a0]) (te := tVar 0) (tl := tNoPart) (th := tPart (tC (.int 63))) (H := H) (lo := none) (hi := some 63) (ev_var rfl) eo_none (eo_some ev_c) hs0
  rw [show ((63 : Int)) = ((63 : Nat) : Int) from rfl, cutV_to, ← List.map_take] at m0
  generalize hns : ns0.take 63 = ns at m0
  have hl : ns.length ≤ 63 := by rw [← hns, List.length_take]; omega
  refine q_asgL m0 fun a H1 ha e1 h1 => ?_
  refine q_par (ea_cons (ev_drw (k := 6) (m := 6) (ev_cellA (k := 0) (ev_var rfl) (SqL.of h1)) (by decide) (by decide)) (ea_cons (ev_drw (k := 7) (m := 9) (ev_cellA (k := 1) (ev_var rfl) (SqL.of h1)) (by decide) (by decide)) ea_nil)) fun H2 e2 => ?_
  have h2 := e2 _ _ h1
  have b1 := drw_lt (ns.getD 1 0) 7 (m := ((9 : Nat) : Int)) (by decide)
  generalize drw (ns.getD 0 0) 6 ((6 : Nat) : Int) = kind
  generalize drw (ns.getD 1 0) 7 ((9 : Nat) : Int) = wide at b1 ⊢
  obtain ⟨w, rfl⟩ : ∃ w : Nat, wide = (w : Int) := ⟨wide.toNat, by omega⟩
  have hw : w ≤ 20 := by omega
  clear b1
  refine q_asg (ev_eqI (ev_drw (k := 8) (m := 2) (ev_cellA (k := 2) (ev_var rfl) (SqL.of h2)) (by decide) (by decide)) ev_c) fun H3 e3 => ?_
  have h3 := e3 _ _ h2
  generalize decide (drw (ns.getD 2 0) 8 ((2 : Nat) : Int) = 0) = own
  have e13 := (e1.trans e2).trans e3
  -- the rest, for any width
  have rest : ∀ (w : Nat), w ≤ 32 → ∀ H4, Ex H3 H4 → t_law_table_rest K A { nx := fun _ H' => Q .non H', rt := Q } [some (.ref a), some (.int kind), some (.int (w : Nat)), some (.bl own), none, none, none, none, none, none, none] H4 := by
    intro w hw H4 e4
    have h4 := e4 _ _ h3
    have e14 := e13.trans e4
    refine q_asgL (el_lst ea_nil (by decide)) fun p H5 hp5 e5 h5 => ?_
    have e15 := e14.trans e5
    have hp : H p = none := fresh_back e14 hp5
    have npa : p ≠ a := fun z => by rw [z, h4] at hp5; cases hp5
    refine q_forL (a := a) (xs := ns.map V.int) (ev_var rfl) (SqL.of (e5 _ _ h4)) (fun i σ' H' => (∃ x5 x6 x7 x8 x9 x10, σ' = [some (.ref a), some (.int kind), some (.int (w : Nat)), some (.bl own), some (.ref p), x5, x6, x7, x8, x9, x10]) ∧ Ex H4 H' ∧
      ∃ t : List Str, H' p = some (.lst (t.map V.str)) ∧ t.length = i ∧ ∀ z ∈ t, z.length = w ∧ okS z = true) (fun H6 e6 => ⟨⟨_, _, _, _, _, _, rfl⟩, e5.trans e6, [], e6 _ _ h5, rfl, fun z hz => by cases hz⟩) (fun i σ' H' _ hP => SqL.of (hP.2.1 _ _ h4)) ?_ ?_
    · rintro i x σ' H6 hx ⟨⟨x5, x6, x7, x8, x9, x10, rfl⟩, e6, t, h6, ht, hz⟩
      obtain ⟨c, hc, rfl⟩ : ∃ c, ns[i]? = some c ∧ x = .int c := by
        rw [List.getElem?_map] at hx
        cases e : ns[i]? with
        | none => rw [e] at hx; cases hx
        | some c => rw [e] at hx; exact ⟨c, rfl, (Option.some.inj hx).symm⟩
      have hi : i < ns.length := (List.getElem?_eq_some_iff.mp hc).1
      refine q_par (ea_cons (ev_var rfl) (ea_cons ev_c ea_nil)) fun H7 e7 => ?_
      refine q_forR1 (n := (w : Int)) (ea_cons (ev_var rfl) ea_nil) ⟨by omega, by omega⟩ (fun k σ' H' => (∃ (l : Int) (z : Str) (x8 x9 x10 : Option V), σ' = [some (.ref a), some (.int kind), some (.int (w : Nat)), some (.bl own), some (.ref p), some (.int c), some (.int l), some (.str z), x8, x9, x10] ∧ z.length = k ∧ okS z = true) ∧ Ex H4 H' ∧ H' p = some (.lst (t.map V.str)))
        (fun H8 e8 => ⟨⟨_, _, _, _, _, rfl, by rw [str_e]; rfl, by rw [str_e]; rfl⟩, (e6.trans e7).trans e8, e8 _ _ (e7 _ _ h6)⟩) ?_ ?_
      · rintro k σ' H8 hk ⟨⟨l, z, x8, x9, x10, rfl, hzl, hzo⟩, e8, h8⟩
        -- digit
        refine q_asg (v := .int (if own then l % 8 else drw (c * ((k : Int) + 3) + 977 * (k : Int)) (k % 9 + 1) 8)) ?_ fun H9 e9 => ?_
        · refine ev_if (et_B (ev_var rfl)) (fun q => ?_) (fun q => ?_)
          · subst q; exact ev_int2C (ev_var rfl) ev_c (by decide)
          · subst q
            refine ev_call (vs := [.int (c * ((k : Int) + 3) + 977 * (k : Int)), .int ((k % 9 + 1 : Nat) : Int), .int 8]) (ea_cons (ev_int2 (ev_int2C (ev_var rfl) (ev_int2 (ev_var rfl) ev_c) (.inr ⟨?_, ?_⟩)) (ev_int2C ev_c (ev_var rfl) (.inl ⟨by decide, by decide⟩))) (ea_cons (ev_is (ev_int2 (ev_int2C (ev_var rfl) ev_c (by decide)) ev_c) ?_) (ea_cons ev_c ea_nil))) (spv_draw (by decide) (by omega))
            · have : (0 : Int) ≤ 2 ^ 64 := by decide
              omega
            · have : (1000 : Int) ≤ 2 ^ 64 := by decide
              omega
            · show V.int ((k : Int) % 9 + 1) = V.int ((k % 9 + 1 : Nat) : Int)
              congr 1
        generalize (if own then l % 8 else drw (c * ((k : Int) + 3) + 977 * (k : Int)) (k % 9 + 1) 8) = dg
        refine q_asg (ev_eqI (ev_int2C (ev_var rfl) ev_c (by decide)) ev_c) fun H10 e10 => ?_
        generalize decide (dg % 2 = 1) = b0
        -- the end of the turn, for any sign
        have fin : ∀ (b : Bool) H11, Ex H8 H11 → tSeq (tAsg (tOp rAddSt (tVar 7) (tIf (tB (tVar 10)) (tC (.str "x")) (tC (.str "-")))) (gName 7)) (tAsg (tOp rDivI (tVar 6) (tC (.int 2))) (gName 6))
            { nx := fun σ' H' => (∃ (l : Int) (z : Str) (x8 x9 x10 : Option V), σ' = [some (.ref a), some (.int kind), some (.int (w : Nat)), some (.bl own), some (.ref p), some (.int c), some (.int l), some (.str z), x8, x9, x10] ∧ z.length = k + 1 ∧ okS z = true) ∧ Ex H4 H' ∧ H' p = some (.lst (t.map V.str)), rt := Q }
            [some (.ref a), some (.int kind), some (.int (w : Nat)), some (.bl own), some (.ref p), some (.int c), some (.int l), some (.str z), some (.int ((k : Nat) : Int)), some (.int dg), some (.bl b)] H11 := by
          intro b H11 e11
          refine q_asg (v := .str (z ++ if b then Str.ofString "x" else Str.ofString "-")) (ev_cat (ev_var rfl) (ev_if (et_B (ev_var rfl)) (fun q => by subst q; exact ev_c) (fun q => by subst q; exact ev_c)) ?_) fun H12 e12 => ?_
          · cases b
            · have : (Str.ofString "-").length = 1 := by rw [str_d]; rfl
              show _ + (Str.ofString "-").length ≤ _; omega
            · have : (Str.ofString "x").length = 1 := by rw [str_x]; rfl
              show _ + (Str.ofString "x").length ≤ _; omega
          · refine s_asg (ev_int2C (ev_var rfl) ev_c ⟨by decide, by decide⟩) fun H13 e13' => ⟨⟨_, _, _, _, _, rfl, ?_, okS_add hzo⟩, ((e8.trans e11).trans e12).trans e13', e13' _ _ (e12 _ _ (e11 _ _ h8))⟩
            rw [len_add, hzl]
        have fin4 : ∀ (b : Bool) H11, Ex H8 H11 → tSeq (tIfS (tTest (tOp rEq (tVar 1) (tC (.int 4)))) (tAsg (tOp rLeI (tVar 8) (tOp rModI (tVar 5) (tOp rAddI (tVar 2) (tC (.int 1))))) (gName 10)) tNext) (tSeq (tAsg (tOp rAddSt (tVar 7) (tIf (tB (tVar 10)) (tC (.str "x")) (tC (.str "-")))) (gName 7)) (tAsg (tOp rDivI (tVar 6) (tC (.int 2))) (gName 6)))
            { nx := fun σ' H' => (∃ (l : Int) (z : Str) (x8 x9 x10 : Option V), σ' = [some (.ref a), some (.int kind), some (.int (w : Nat)), some (.bl own), some (.ref p), some (.int c), some (.int l), some (.str z), x8, x9, x10] ∧ z.length = k + 1 ∧ okS z = true) ∧ Ex H4 H' ∧ H' p = some (.lst (t.map V.str)), rt := Q }
            [some (.ref a), some (.int kind), some (.int (w : Nat)), some (.bl own), some (.ref p), some (.int c), some (.int l), some (.str z), some (.int ((k : Nat) : Int)), some (.int dg), some (.bl b)] H11 := by
          intro b H11 e11
          refine q_if (et_test (ev_eqI (ev_var rfl) ev_c)) (fun _ H12 e12 => s_asg (ev_int2 (ev_var rfl) (ev_int2C (ev_var rfl) (ev_int2 (ev_var rfl) ev_c) (by omega))) fun H13 e13' => fin _ _ ((e11.trans e12).trans e13')) (fun _ H12 e12 => fin _ _ (e11.trans e12))
        refine q_if (et_or (et_test (ev_eqI (ev_var rfl) ev_c)) fun _ => et_test (ev_eqI (ev_var rfl) ev_c)) (fun _ H11 e11 => s_asg (ev_eqB (ev_int2 (ev_var rfl) ev_c) (ev_eqI (ev_var rfl) ev_c)) fun H12 e12 => fin4 _ _ (((e9.trans e10).trans e11).trans e12)) (fun _ H11 e11 => fin4 _ _ ((e9.trans e10).trans e11))
      · rintro σ' H8 ⟨⟨l, z, x8, x9, x10, rfl, hzl, hzo⟩, e8, h8⟩
        refine s_app (l := p) (xs := t.map V.str) h8 (ev_var rfl) (ev_var rfl) (by rw [List.length_map]; omega) fun H9 e9 => ?_
        refine ⟨⟨_, _, _, _, _, _, rfl⟩, (e8.trans e9).mut hp5, t ++ [z], ?_, ?_, ?_⟩
        · rw [upd_same, List.map_append]; rfl
        · rw [List.length_append, ht]; rfl
        · intro y hy
          rw [List.mem_append, List.mem_singleton] at hy
          rcases hy with hy | rfl
          · exact hz y hy
          · exact ⟨by rw [hzl]; simp, hzo⟩
    · rintro σ' H6 ⟨⟨x5, x6, x7, x8, x9, x10, rfl⟩, e6, t, h6, ht, hz⟩
      rw [List.length_map] at ht
      refine q_if (et_test (ev_eqI (ev_drw (k := 9) (m := 3) (ev_cellA (k := 0) (ev_var rfl) (SqL.of (e6 _ _ h4))) (by decide) (by decide)) ev_c)) (fun _ H7 e7 => ?_) (fun _ H7 e7 => ?_)
      · have hz7 := e7 _ _ h6
        have m : EvL (tLc (iRng1 (tCons (tVar 2) tNil)) (gName 8) tYes (tBM K "str" (rJoin K) (tC (.str "")) (tCons (tLc (iList K (tVar 4)) (gName 7) tYes (tOp rIxS (tVar 7) (tVar 8)) [7]) tNil)) [8]) [some (.ref a), some (.int kind), some (.int (w : Nat)), some (.bl own), some (.ref p), x5, x6, x7, x8, x9, x10] H7 (((List.range w).map (colS t)).map V.str) := by
          rw [List.map_map]
          refine el_mapR (r := fun j => .str (colS t j)) (ev_var rfl) (by omega) (fun _ => rfl) fun j hj => ?_
          refine ev_joinN ev_c (ys := t.map fun z => (⟨#[(cs z).getD j 0]⟩ : Str)) ?_ ?_
          · rw [List.map_map]
            refine el_mapL (c := V.str) (l := t) (ev_var rfl) (SqL.of hz7) (by omega) (fun _ => rfl) fun z hz' => ?_
            refine ev_ixS (ev_var rfl) (ev_var rfl) (by have := (hz z hz').1; omega) (atI_nat (getD_some ?_))
            rw [← cs_len, (hz z hz').1]; exact hj
          · have e0 : (Str.ofString "").length = 0 := by rw [str_e]; rfl
            rw [List.map_map, e0, Nat.mul_zero]
            have : (t.map ((fun x : Str => x.length) ∘ fun z => (⟨#[(cs z).getD j 0]⟩ : Str))).sum = t.length := by
              clear h6 ht hz hz7
              induction t with
              | nil => rfl
              | cons y t ih => rw [List.map_cons, List.sum_cons, ih, List.length_cons]; show 1 + _ = _; omega
            rw [this]; omega
        refine s_asgL m fun r H8 hr e8 h8 => ?_
        refine s_ret (ev_var rfl) fun H9 e9 => ?_
        have e := ((e14.trans e6).trans e7)
        obtain ⟨g1, g2⟩ := tab_tr hz
        exact q r _ H9 (fresh_back e hr) ((e.trans e8).trans e9) (e9 _ _ h8) g1 (by rw [List.length_map, List.length_range]; omega) (by omega)
      · refine s_ret (ev_var rfl) fun H9 e9 => ?_
        obtain ⟨g1, g2⟩ := tab_rows hz
        exact q p t H9 hp (((e14.trans e6).trans e7).trans e9) (e9 _ _ (e7 _ _ h6)) g1 (by omega) (by omega)
  refine q_if (et_test (ev_eqI (ev_var rfl) ev_c)) (fun _ H4 e4 => s_asg (ev_int2 (ev_var rfl) ev_c) fun H5 e5 => ?_) (fun _ H4 e4 => ?_)
  · exact rest (w + 12) (by omega) H5 (e4.trans e5)
  · exact rest w (by omega) H4 e4
end Cc
/-! == of data; evaluation to a thing of which something is known (EvP), lists of such. -/
namespace Cc
open PySem PySem.Spec PyProof.Rows L2 Evl
/-! ### data -/
def dS (t : List Str) : PyData := .list (t.map PyData.str)
def dI (ns : List Int) : PyData := .list (ns.map PyData.int)
def dB (bs : List Bool) : PyData := .list (bs.map PyData.bool)
section
variable {K : PySem.W.Frag} {H : Hp} {a : Addr}
theorem dpAll_map {α : Type} {f : α → V} {g : α → PyData} (h : ∀ x, Dp K H (f x) (g x)) : ∀ l : List α, DpAll K H (l.map f) (l.map g)
  | [] => .nil
  | x :: l => .cons (h x) (dpAll_map h l)
theorem dp_strs {t : List Str} (h : SqL K H a (t.map V.str)) : Dp K H (.ref a) (dS t) := .lst h (dpAll_map (fun x => .str x) t)
theorem dp_ints {ns : List Int} (h : SqL K H a (ns.map V.int)) : Dp K H (.ref a) (dI ns) := .lst h (dpAll_map (fun x => .int x) ns)
theorem dp_bools {bs : List Bool} (h : SqL K H a (bs.map V.bl)) : Dp K H (.ref a) (dB bs) := .lst h (dpAll_map (fun x => .bl x) bs)
end
theorem canAll {α : Type} {g : α → PyData} : ∀ {l : List α}, (∀ x ∈ l, PyData.canLay0 (g x) = true) → PyData.canLayAll0 (l.map g) = true
  | [], _ => rfl
  | x :: l, h => by
    rw [List.map_cons, PyData.canLayAll0, h x List.mem_cons_self, canAll fun y hy => h y (List.mem_cons_of_mem _ hy)]; rfl
theorem depAll {α : Type} {g : α → PyData} {n : Nat} : ∀ {l : List α}, (∀ x ∈ l, PyData.depth (g x) ≤ n) → PyData.depthAll (l.map g) ≤ n
  | [], _ => Nat.zero_le _
  | x :: l, h => by
    rw [List.map_cons, PyData.depthAll]
    exact Nat.max_le.mpr ⟨h x List.mem_cons_self, depAll fun y hy => h y (List.mem_cons_of_mem _ hy)⟩
theorem shaped_list {α : Type} {g : α → PyData} {l : List α} (h1 : ∀ x ∈ l, PyData.canLay0 (g x) = true) (h2 : ∀ x ∈ l, PyData.depth (g x) ≤ 5) : SeqAt.shaped (.list (l.map g)) = true := by
  unfold SeqAt.shaped
  rw [Bool.and_eq_true, decide_eq_true_eq]
  exact ⟨by rw [PyData.canLay0]; exact canAll h1, by rw [PyData.depth]; have := depAll h2; omega⟩
def okText (z : Str) : Bool := PyData.canLay0 (.str z)
theorem shaped_S {t : List Str} (h : ∀ z ∈ t, okText z = true) : SeqAt.shaped (dS t) = true := shaped_list h fun _ _ => by rw [PyData.depth]; omega
theorem shaped_I (ns : List Int) : SeqAt.shaped (dI ns) = true := shaped_list (fun _ _ => by rw [PyData.canLay0]) fun _ _ => by rw [PyData.depth]; omega
theorem shaped_B (bs : List Bool) : SeqAt.shaped (dB bs) = true := shaped_list (fun _ _ => by rw [PyData.canLay0]) fun _ _ => by rw [PyData.depth]; omega
theorem eqvAll_map {α : Type} [DecidableEq α] {g : α → PyData} (h : ∀ x y, PyData.eqv (g x) (g y) = decide (x = y)) : ∀ l m : List α, PyData.eqvAll (l.map g) (m.map g) = decide (l = m)
  | [], [] => by rw [List.map_nil, PyData.eqvAll]; simp
  | [], y :: m => by rw [List.map_nil, List.map_cons, PyData.eqvAll]; simp
  | x :: l, [] => by rw [List.map_nil, List.map_cons, PyData.eqvAll]; simp
  | x :: l, y :: m => by
    rw [List.map_cons, List.map_cons, PyData.eqvAll, h, eqvAll_map h l m]
    by_cases e : x = y
    · by_cases e' : l = m <;> simp [e, e']
    · simp [e]
theorem eqv_S (t u : List Str) : PyData.eqv (dS t) (dS u) = decide (t = u) := by
  unfold dS
  rw [PyData.eqv]
  exact eqvAll_map (fun x y => by rw [PyData.eqv]; by_cases h : x = y <;> simp [h]) t u
theorem eqv_I (t u : List Int) : PyData.eqv (dI t) (dI u) = decide (t = u) := by
  unfold dI
  rw [PyData.eqv]
  exact eqvAll_map (fun x y => by rw [PyData.eqv]; by_cases h : x = y <;> simp [h]) t u
theorem eqv_B (t u : List Bool) : PyData.eqv (dB t) (dB u) = decide (t = u) := by
  unfold dB
  rw [PyData.eqv]
  exact eqvAll_map (fun x y => by rw [PyData.eqv]; by_cases h : x = y <;> simp [h]) t u
theorem okText_of {z : Str} (h : okS z = true) : okText z = true := by
  have q := (okS_iff z).mp h
  unfold okText
  rw [PyData.canLay0]
  have : (cs z).all (fun c => decide (c < 0x110000)) = true := List.all_eq_true.mpr fun c hc => by
    rcases q c hc with e | e <;> (subst e; decide)
  have e : z.cps.all (fun c => decide (c < 0x110000)) = (cs z).all (fun c => decide (c < 0x110000)) := by simp
  show z.cps.all (fun c => decide (c < 0x110000)) = true
  rw [e, this]
section
variable {K : PySem.W.Frag} {σ : L2.St} {H H' : Hp} {ta tb te : TE} {x y : V} {d e : PyData}
theorem rv_eqD (hx : ∀ H', Ex H H' → Dp K H' x d) (hy : ∀ H', Ex H H' → Dp K H' y e) (h1 : SeqAt.shaped d = true) (h2 : SeqAt.shaped e = true) : RV (rEqD K) x y H (.bl (PyData.eqv d e)) := fun H1 e1 Q q =>
  ⟨d, e, hx H1 e1, hy H1 e1, h1, h2, q H1 (Ex.refl H1)⟩
theorem rv_neD (hx : ∀ H', Ex H H' → Dp K H' x d) (hy : ∀ H', Ex H H' → Dp K H' y e) (h1 : SeqAt.shaped d = true) (h2 : SeqAt.shaped e = true) : RV (rNeD K) x y H (.bl (!PyData.eqv d e)) := fun H1 e1 Q q =>
  ⟨d, e, hx H1 e1, hy H1 e1, h1, h2, q H1 (Ex.refl H1)⟩
end
/-- a heap without p -/
def del (H : Hp) (p : Addr) : Hp := fun a => if a = p then none else H a
theorem del_ex {H : Hp} {p : Addr} : Ex (del H p) H := fun a o h => by
  unfold del at h
  by_cases e : a = p
  · rw [if_pos e] at h; cases h
  · rwa [if_neg e] at h
theorem del_exu {H : Hp} {p : Addr} {o : HO} : Ex (del H p) (upd H p o) := fun a x h => by
  unfold del at h
  by_cases e : a = p
  · rw [if_pos e] at h; cases h
  · rw [if_neg e] at h
    rw [upd_ne e]; exact h
theorem del_mono {H H' : Hp} {p : Addr} (e : Ex H H') : Ex (del H p) (del H' p) := fun a o h => by
  unfold del at h ⊢
  by_cases q : a = p
  · rw [if_pos q] at h; cases h
  · rw [if_neg q] at h ⊢; exact e a o h
theorem del_upd {H : Hp} {p : Addr} {o : HO} : del (upd H p o) p = del H p := by
  funext a
  unfold del
  by_cases q : a = p
  · rw [if_pos q, if_pos q]
  · rw [if_neg q, if_neg q, upd_ne q]
theorem del_new {H : Hp} {p : Addr} (h : H p = none) : del H p = H := by
  funext a
  unfold del
  by_cases q : a = p
  · rw [if_pos q, q, h]
  · rw [if_neg q]
theorem del_at {H : Hp} {p q : Addr} (h : q ≠ p) : del H p q = H q := by
  unfold del
  rw [if_neg h]
/-! ### EvP -/
def EvP (te : TE) (σ : L2.St) (H : Hp) (P : V → Hp → Prop) : Prop := ∀ H1, Ex H H1 → ∀ Q : VK, (∀ v H2, Ex H1 H2 → P v H2 → Q v H2) → te σ H1 Q
def EvPs (ta : TA) (σ : L2.St) (H : Hp) (n : Nat) (P : V → Hp → Prop) : Prop := ∀ H1, Ex H H1 → ∀ Q : List V → Hp → Prop, (∀ vs H2, Ex H1 H2 → vs.length = n → (∀ v ∈ vs, P v H2) → Q vs H2) → ta σ H1 Q
def Mono (P : V → Hp → Prop) : Prop := ∀ v H H', Ex H H' → P v H → P v H'
section
variable {K : PySem.W.Frag} {σ : L2.St} {H H' : Hp} {ta tb te : TE} {tr : TA} {P R : V → Hp → Prop} {n : Nat} {vs : List V} {v : V} {D : Ends} {tz : TS}
theorem EvP.mono (e : Ex H H') (h : EvP te σ H P) : EvP te σ H' P := fun H1 e1 => h H1 (e.trans e1)
theorem EvP.imp (h : EvP te σ H P) (k : ∀ v H1, Ex H H1 → P v H1 → R v H1) : EvP te σ H R := fun H1 e Q q => h H1 e Q fun v H2 e2 hP => q v H2 e2 (k v H2 (e.trans e2) hP)
theorem ep_of (h : Ev te σ H v) (hP : ∀ H1, Ex H H1 → P v H1) : EvP te σ H P := fun H1 e Q q => h H1 e Q fun H2 e2 => q v H2 e2 (hP H2 (e.trans e2))
theorem ep_g {G : Hp → V → Hp → Prop} (h : EvG te σ H G) (hP : ∀ v H1 H2, Ex H H1 → Ex H1 H2 → G H1 v H2 → P v H2) : EvP te σ H P := fun H1 e Q q => h H1 e Q fun v H2 e2 g => q v H2 e2 (hP v H1 H2 e e2 g)
theorem ep_lst (h : EvA tr σ H vs) (hl : vs.length ≤ 100000) (hP : ∀ p H1, Ex H H1 → H1 p = some (.lst vs) → P (.ref p) H1) : EvP (tLst tr) σ H P := fun H1 e Q q =>
  h H1 e _ fun H2 e2 => ⟨sz_of hl, fun p hp => q _ _ (e2.trans (Ex.new hp)) (hP p _ ((e.trans e2).trans (Ex.new hp)) upd_same)⟩
theorem ep_tup (h : EvA tr σ H vs) (hl : vs.length ≤ 100000) (hP : ∀ p H1, Ex H H1 → H1 p = some (.tup vs) → P (.ref p) H1) : EvP (tTup tr) σ H P := fun H1 e Q q =>
  h H1 e _ fun H2 e2 => ⟨sz_of hl, fun p hp => q _ _ (e2.trans (Ex.new hp)) (hP p _ ((e.trans e2).trans (Ex.new hp)) upd_same)⟩
theorem ep_L {xs : List V} (h : EvL te σ H xs) (hP : ∀ p H1, Ex H H1 → H1 p = some (.lst xs) → P (.ref p) H1) : EvP te σ H P := fun H1 e Q q =>
  h H1 e _ fun p H2 _ e2 h2 => q _ H2 e2 (hP p H2 (e.trans e2) h2)
theorem eps_nil : EvPs tNil σ H 0 P := fun H1 e Q q => q [] H1 (Ex.refl H1) rfl fun v hv => by cases hv
theorem eps_cons (m : Mono P) (h : EvP te σ H P) (hr : EvPs tr σ H n P) : EvPs (tCons te tr) σ H (n + 1) P := fun H1 e Q q =>
  h H1 e _ fun v H2 e2 hv => hr H2 (e.trans e2) _ fun vs H3 e3 hl hvs => q (v :: vs) H3 (e2.trans e3) (by rw [List.length_cons, hl]) fun w hw => by
    rcases List.mem_cons.mp hw with rfl | hw
    · exact m _ _ _ e3 hv
    · exact hvs w hw
/-- a display of things: a new list (tuple) of such -/
theorem ep_lstP (h : EvPs tr σ H n P) (hn : n ≤ 100000) (hP : ∀ p vs H1, Ex H H1 → H1 p = some (.lst vs) → vs.length = n → (∀ v ∈ vs, P v H1) → R (.ref p) H1) (m : Mono P) : EvP (tLst tr) σ H R := fun H1 e Q q =>
  h H1 e _ fun vs H2 e2 hl hvs => ⟨sz_of (by omega), fun p hp => q _ _ (e2.trans (Ex.new hp)) (hP p vs _ ((e.trans e2).trans (Ex.new hp)) upd_same hl fun v hv => m _ _ _ (Ex.new hp) (hvs v hv))⟩
theorem ep_tupP (h : EvPs tr σ H n P) (hn : n ≤ 100000) (hP : ∀ p vs H1, Ex H H1 → H1 p = some (.tup vs) → vs.length = n → (∀ v ∈ vs, P v H1) → R (.ref p) H1) (m : Mono P) : EvP (tTup tr) σ H R := fun H1 e Q q =>
  h H1 e _ fun vs H2 e2 hl hvs => ⟨sz_of (by omega), fun p hp => q _ _ (e2.trans (Ex.new hp)) (hP p vs _ ((e.trans e2).trans (Ex.new hp)) upd_same hl fun v hv => m _ _ _ (Ex.new hp) (hvs v hv))⟩
/-- a display of things: told, too, that the list is new -/
theorem el_lstP (h : EvPs tr σ H n P) (hn : n ≤ 100000) (m : Mono P) : EvG (tLst tr) σ H (fun H1 w H2 => ∃ p vs, w = .ref p ∧ H1 p = none ∧ H2 p = some (.lst vs) ∧ vs.length = n ∧ ∀ v ∈ vs, P v (del H2 p)) := fun H1 e Q q =>
  h H1 e _ fun vs H2 e2 hl hvs => ⟨sz_of (by omega), fun p hp => q _ _ (e2.trans (Ex.new hp)) ⟨p, vs, rfl, fresh_back e2 hp, upd_same, hl, fun v hv => by rw [del_upd, del_new hp]; exact hvs v hv⟩⟩
theorem q_asgP {i : Nat} (h : EvP te σ H P) (k : ∀ v H1, Ex H H1 → P v H1 → tz D (σ.set i (some v)) H1) : tSeq (tAsg te (gName i)) tz D σ H := h H (Ex.refl H) _ k
/-- xs + ys of two new lists of things -/
theorem el_catP {n1 n2 : Nat} (h1 : ∀ H1, Ex H H1 → ∀ Q : VK, (∀ l xs H2, Ex H1 H2 → H2 l = some (.lst xs) → xs.length ≤ n1 → (∀ v ∈ xs, P v H2) → Q (.ref l) H2) → ta σ H1 Q) (h2 : EvG tb σ H (fun H1 w H2 => ∃ p vs, w = .ref p ∧ H1 p = none ∧ H2 p = some (.lst vs) ∧ vs.length = n2 ∧ ∀ v ∈ vs, P v (del H2 p))) (m : Mono P) (hn : n1 + n2 ≤ 100000) :
    EvG (tOp rCat ta tb) σ H (fun H1 w H2 => ∃ p vs, w = .ref p ∧ H1 p = none ∧ H2 p = some (.lst vs) ∧ vs.length ≤ n1 + n2 ∧ ∀ v ∈ vs, P v (del H2 p)) := fun H1 e Q q =>
  h1 H1 e _ fun l xs H2 e2 hl hx hxs => h2 H2 (e.trans e2) _ fun w H3 e3 ⟨p, vs, hw, hp, hv, hvl, hvs⟩ => by
    subst hw
    refine ⟨l, p, xs, vs, rfl, rfl, e3 _ _ hl, hv, sz_of (by omega), fun r hr => q _ _ ((e2.trans e3).trans (Ex.new hr)) ⟨r, _, rfl, fresh_back (e2.trans e3) hr, upd_same, by rw [List.length_append]; omega, fun v hv' => ?_⟩⟩
    rw [del_upd, del_new hr]
    rcases List.mem_append.mp hv' with hv' | hv'
    · exact m _ _ _ e3 (hxs v hv')
    · exact m _ _ _ del_ex (hvs v hv')
end
end Cc
/-! Own rules for law 5: a def that is handed the caught error, a def held by a name that may raise. -/
namespace Cc
open PySem PySem.Spec PyProof.Rows L2 Evl L2H
/-! ### a def called within an except suite with the error as an argument -/
structure FnP (P : Program) (w : World) (K : PySem.W.Frag) (mg : Str → Option Value) (base : Heap) (k : Nat) (f : Addr) (fd : FuncData) (ps : List Str) (p : Addr × Obj) (sp : Sp) : Prop where
  len : ∀ vs H Q E, sp vs H Q E → vs.length = ps.length
  run : ∀ (A : Around) (outer : List Env) (s : Shared) (H : Hp) (args : Args) (us : List Value) (vs : List V) (Q : VK) (E : XK), RoomH k A → PinOk outer H s p → Env0 P w K mg base A outer s H → BindsTo s fd args (ps.zip us) → Vals vs us → sp vs H Q E →
    codeAny (model P w) A (.call (.ref f) args) (CR CX0 outer P w H s Q E) s
theorem fnP_of {P : Program} {w : World} {K : PySem.W.Frag} {mg : Str → Option Value} {base : Heap} {k : Nat} {f : Addr} {x q : Str} {st : Stmt} {fd : FuncData} {N ps : List Str} {p : Addr × Obj} {sp : Sp}
    (F : Fun K x q st f fd) (S : FnScope N ps (defScope st)) (len : ∀ vs H Q E, sp vs H Q E → vs.length = ps.length)
    (hbody : ∀ (cdv : Value) (A : Around) (outer : List Env) (s : Shared) (H : Hp) (vs : List V) (Q : VK) (E : XK), RoomH k (A.deeper (envOfC q (defScope st) s.heap.objs.size f cdv)) → sp vs H Q E →
      ∃ t, PSs (cxH CX0 P w K mg base N q (defScope st) f cdv A outer s H E p).nox (defBody st) t ∧ t { nx := fun _ H' => Q .non H', rt := Q } (L2.start N vs) H) : FnP P w K mg base (k + 1) f fd ps p sp := by
  obtain ⟨oc, od, kV, doc, pm, an, cdv, ct, osl, rfl, lk, hcd⟩ := F.ex
  constructor
  · exact len
  intro A outer s H args us vs Q E hr hpin e0 hb r hsp
  have KX := e0.mod.kin.keeps fun b o e => (e0.bs b o e).1
  have lim := e0.mod.nolimit.keeps fun b o e => (e0.bs b o e).1
  have hkind : ∀ y ∈ ps.zip us, (defScope st).names.lookup y.1 = some .local ∨ ((defScope st).names.lookup y.1 = some .cell ∧ ((cellsFrom (s.heap.objs.size + 1) (defScope st).names []).lookup y.1).isSome = true) := by
    rintro ⟨n, v⟩ hy
    exact (S.par n (List.of_mem_zip hy).1).elim .inl fun c => .inr ⟨c, PySem.W.cellsFrom_some _ _ _ (.inl c)⟩
  apply codeAny_call_function hr.depth (KX _ _ lk) rfl S.co S.gen rfl (PySem.W.codeRec_of KX hcd)
  apply hb
  apply wpAny_newFunctionEnv_cells S.kind hkind
  intro env he s1 ic
  subst he
  refine And.intro (lim.keeps ic.toInCall.keep) (codeAny_func ?_)
  obtain ⟨t, ht, hq⟩ := hbody cdv A outer s H vs Q E (hr.deeper _) hsp
  have I := inv_startH (E := E) (CX := CX0) S hpin e0 (len _ _ _ _ hsp) r ic
  have J := ht.nox.run [] s1 (L2.start N vs) H _ I hq
  apply wpAny_mono J
  · intro fl s' hs
    match fl, hs with
    | .ret u, ⟨v, _, H', J, rv, q⟩ => exact ⟨v, H', J.os, J.bare, J.base, J.hok, rv, q⟩
    | .next, ⟨_, H', J, q⟩ => exact ⟨.non, H', J.os, J.bare, J.base, J.hok, rfl, q⟩
    | .brk, ⟨_, _, _, q⟩ => exact q.elim
    | .cont, ⟨_, _, _, q⟩ => exact q.elim
  · exact fun e s' hs => hs
section
variable {X : Cx} {k : Nat} {f : Addr} {fd : FuncData} {ps : List Str} {sp : Sp} {x : Str} {q pos : Pos} {e : Expr} {es : List Expr} {t : TA} {a : Addr} {oe : Obj} {pn : List (Addr × Obj)}
/-- f(..) in the suite of the error at a -/
theorem pe_callP (hp : (a, oe) ∈ X.pn) (F : FnP X.prog X.w X.K X.mg X.base k f fd ps (a, oe) sp) (hr : RoomH k X.A) (hg : Gl X x) (hm : X.mg x = some (.ref f)) (hk : PySem.W.keepIn X.K (.ref f) = true) (hb : Binds X.K fd ps [])
    (ha : PA X (e :: es) t) (hdb : (x == ("__debug__" : Str)) = false := by decide) (he : starEach (e :: es) X.env = (false, eval e X.env) :: starEach es X.env := by rfl) (hpl : (backTo pos (starEach es X.env)).any (·.1) = false := by rfl) :
    PE X (.Call (.Name x q) (e :: es) [] pos) (tCall sp [] E0 t) := by
  constructor
  intro pins s σ H Q I h
  apply wpAny_Call_Name_kw (ld_glob I hg hm ?_ hdb)
  apply PySem.W.callWith_K (h₀ := X.base) I.ok.mod.kin hk ?_ he hpl
  apply thn (ha.run pos pins s σ H _ I h)
  rintro us s1 ⟨vs, H1, I1, r, q⟩
  refine ⟨I1.kIn, ?_⟩
  rw [List.append_nil] at q
  have b := hb s1 us I1.kIn (by rw [List.append_nil, ← r.length]; exact F.len _ _ _ _ q)
  rw [List.append_nil] at b
  obtain ⟨p1, p2, p3, p4, p5⟩ := I1.pin (a, oe) (List.mem_append_left _ hp)
  have nf : a ∉ frs X.stack := by
    intro hm
    rcases List.mem_cons.mp (I1.stkSub a hm) with z | z
    · exact p3 z
    · exact p4 z
  have hpin : PinOk X.stack H1 s1 (a, oe) := ⟨p1, p2, nf, p5⟩
  show wpAny _ _ (call (.ref f) us) _ _ _
  apply wpAny_call
  apply codeAny_mono (F.run X.A X.stack s1 H1 ⟨us, []⟩ us vs Q E0 hr hpin I1.env0 b r q)
  intro res s' hq
  match res, hq with
  | .error _, hq => exact hq.elim
  | .ok (.ret u), hq => exact I1.after hq
/-- isinstance(err, C), err the error that is pinned -/
theorem call_isP {D : Addr} (hp : (a, oe) ∈ X.pn) (C : ExcC X.K D) (hz : Zc (.ref D) none oe) (hf : ∃ vs, oe.data = .fields vs) : CallR X (.builtin "isinstance") (rIsE X.K D a) := by
  rintro pins s σ H xs us Q I r ⟨c, cv, b, rfl, hcv, e, q⟩
  match us, r with
  | [_, u2], .cons rx (.cons rt .nil) =>
    cases rx
    obtain rfl := hcv _ rt
    have hget := (I.pin (a, oe) (List.mem_append_left _ hp)).1
    have J : PySem.W.InstAt s.heap a oe D none := by
      obtain ⟨vs, hv⟩ := hf
      rcases oe with ⟨oc, od, oda, osl⟩
      obtain ⟨h1, h2⟩ := hz
      simp only at h1 h2 hv
      subst h1 h2 hv
      exact ⟨hget, rfl, rfl, trivial⟩
    exact PySem.W.kia_one (PySem.W.handS_kitx_exc C.hg C.hk C.hs C.hd C.ha C.hn C.ht C.hm) I.kIn J e (fun z => nomatch z) fun tk => ⟨.bl b, H, I.kept (t' := tk) fun _ _ z => z, rfl, q⟩
end
/-! ### a call of a local name that holds one of several defs, which may raise -/
structure HeldX (P : Program) (w : World) (K : PySem.W.Frag) (mg : Str → Option Value) (base : Heap) (k : Nat) (f : Addr) (sp : Sp) : Prop where
  ex : ∃ (fd : FuncData) (ps : List Str), FnOk P w K mg base (L2.CX P w) k f fd ps sp ∧ PySem.W.keepIn K (.ref f) = true ∧ Binds K fd ps []
def tCallAX (i : Nat) (S : Addr → Sp → Prop) (E : L2.St → XK) (t : TA) : TE := fun σ H Q => ∃ f sp, σ[i]? = some (some (.ref f)) ∧ S f sp ∧ t σ H fun vs H1 => sp vs H1 Q (E σ)
theorem pe_callAX {X : Cx} {k i : Nat} {S : Addr → Sp → Prop} {E : L2.St → XK} {x : Str} {p pos : Pos} {e : Expr} {es : List Expr} {t : TA}
    (A : ∀ f sp, S f sp → HeldX X.prog X.w X.K X.mg X.base k f sp) (hr : Room k X.A) (hN : X.N[i]? = some x) (hv : Vis X.env.scope x) (hx : ∀ σ, PassesAt (L2.CX X.prog X.w) X σ (E σ)) (ha : PA X (e :: es) t)
    (hdb : (x == ("__debug__" : Str)) = false := by decide) (hcd : (x == ("__classdict__" : Str)) = false := by decide)
    (he : starEach (e :: es) X.env = (false, eval e X.env) :: starEach es X.env := by rfl) (hpl : (backTo pos (starEach es X.env)).any (·.1) = false := by rfl) : PE X (.Call (.Name x p) (e :: es) [] pos) (tCallAX i S E t) := by
  constructor
  rintro pins s σ H Q I ⟨f, sp, hs, hS, h⟩
  obtain ⟨fd, ps, F, hk, hb⟩ := (A f sp hS).ex
  apply wpAny_Call_Name_kw
  apply thn ((pe_var (pos := p) hN hv hdb hcd).run pins s σ H (fun v H1 => v = .ref f ∧ H1 = H) I ⟨.ref f, hs, rfl, rfl⟩)
  rintro u s1 ⟨v, H1, I1, r1, rfl, rfl⟩
  cases r1
  apply PySem.W.callWith_K (h₀ := X.base) I.ok.mod.kin hk ?_ he hpl
  apply thn (ha.run pos pins s1 σ _ _ I1 h)
  rintro us s2 ⟨vs, H2, I2, r, q⟩
  exact ⟨I2.kIn, run_fnS F hr hb (hx σ) I2 r q⟩
/-! ### isinstance, except: by the classes' own facts -/
section
variable {K : PySem.W.Frag} {C D : Addr}
theorem kit_self : PySem.W.kitOne K (.ref C) (.ref C) = some true := by
  unfold PySem.W.kitOne
  rw [if_pos (by simp)]
theorem kit_no (hn : (Value.ref C == Value.ref D) = false) (hi : PySem.W.isClsIn K D = true) (ht : PySem.W.typeIn K (.ref D) = some (.type "type")) (hs : PySem.W.subIn K (.ref C) (.ref D) = some false) : PySem.W.kitOne K (.ref C) (.ref D) = some false := by
  unfold PySem.W.kitOne
  rw [if_neg (by rw [hn]; decide)]
  show (if ((PySem.W.clsIn K D).isSome && PySem.W.typeIn K (.ref D) == some (.type "type")) = true then PySem.W.subIn K (.ref C) (.ref D) else none) = some false
  have hi' : (PySem.W.clsIn K D).isSome = true := hi
  rw [if_pos (by rw [hi', ht]; rfl)]
  exact hs
theorem kit_val (hs : PySem.W.subIn K (.ref C) (.type "ValueError") = some true) : PySem.W.kitOne K (.ref C) (.type "ValueError") = some true := by
  unfold PySem.W.kitOne
  rw [if_neg (by rw [show (Value.ref C == Value.type "ValueError") = false from rfl]; decide)]
  show (if PySem.W.kitMeta "ValueError" = true then PySem.W.subIn K (.ref C) (.type "ValueError") else none) = some true
  rw [if_pos (by decide +kernel)]
  exact hs
theorem exm_yes (hb : PySem.W.subIn K (.ref D) (.type "BaseException") = some true) (hi : PySem.W.isClsIn K D = true) (ht : PySem.W.typeIn K (.ref D) = some (.type "type")) (hs : PySem.W.subIn K (.ref C) (.ref D) = some true) : PySem.W.exmOne K (.ref C) (.ref D) = some true := by
  unfold PySem.W.exmOne
  rw [if_pos (by rw [hb]; rfl)]
  show (if ((PySem.W.clsIn K D).isSome && PySem.W.typeIn K (.ref D) == some (.type "type")) = true then PySem.W.subIn K (.ref C) (.ref D) else none) = some true
  have hi' : (PySem.W.clsIn K D).isSome = true := hi
  rw [if_pos (by rw [hi', ht]; rfl)]
  exact hs
end
end Cc
/-! Law 5: what is refused. Promises and readings. -/
namespace Cc
open PySem PySem.Spec PyProof.Rows L2 Evl
/-! ### the doors, where they refuse -/
def sp_filled (K : PySem.W.Frag) (A : Ad) : Sp := fun vs H Q E => ∃ x y b, vs = [x, y] ∧ Nm K H x b ∧ (b = true → Nm K H y false) ∧ ∀ H', Ex H H' → E (.ref A.BadCounts) none H'
def t_filled (K : PySem.W.Frag) (A : Ad) (E : XK) : TS :=
  (tSeq (tDrop (tCall (sp_check_counts K A) [] E (tCons (tVar 0) tNil)))
  (tSeq (tDrop (tCall (sp_check_counts K A) [] E (tCons (tVar 1) tNil)))
  tNever))
theorem len_filled {K : PySem.W.Frag} {A : Ad} : ∀ vs H Q E, sp_filled K A vs H Q E → vs.length = 2 := by
  rintro _ H Q E ⟨x, y, b, rfl, _⟩; rfl
theorem rd_filled {K : PySem.W.Frag} {A : Ad} (vs : List V) (H : Hp) (Q : VK) (E : XK) (h : sp_filled K A vs H Q E) : t_filled K A E { nx := fun _ H' => Q .non H', rt := Q } (start ["rows", "columns", "bar", "left", "table", "row", "place", "order", "marks", "column"] vs) H := by
  obtain ⟨x, y, b, rfl, hx, hy, k⟩ := h
  refine ⟨_, rfl, x, b, rfl, hx, fun q H1 e1 => ?_, fun _ H1 e1 => k H1 e1⟩
  exact ⟨_, rfl, y, false, rfl, (hy q).mono e1, fun q => by (cases q), fun _ H2 e2 => k H2 (e1.trans e2)⟩
/-- whether r, c are a place of the table -/
def inPl (t : List Str) : V → V → Bool
  | .int i, .int j => (decide (0 ≤ i) && decide (i < t.length)) && (decide (0 ≤ j) && decide (j < wid t))
  | _, _ => false
def sp_fixed (K : PySem.W.Frag) (A : Ad) : Sp := fun vs H Q E => ∃ x r c b, vs = [x, r, c] ∧ Th K H x b ∧ (b = false → ∀ H', Ex H H' → E (.ref A.BadTable) none H') ∧
  (b = true → ∃ a t n m, x = .ref a ∧ Tb K H a t ∧ Bt K H r n ∧ Bt K H c m ∧ inPl t r c = false ∧ ∀ H', Ex H H' → E (.ref A.BadPlace) none H')
def t_fixed (K : PySem.W.Frag) (A : Ad) (E : XK) : TS :=
  (tSeq (tDrop (tCall (sp_check_table K A) [] E (tCons (tVar 0) tNil)))
  (tSeq (tIfS (tOr (tNot (tB (tCall (sp_is_whole K A) [] E0 (tCons (tVar 1) tNil)))) (tOr (tNot (tTest (tChain rLeI rLtI (tC (.int 0)) (tVar 1) (tCB (rLenV K) (tCons (tVar 0) tNil))))) (tOr (tNot (tB (tCall (sp_is_whole K A) [] E0 (tCons (tVar 2) tNil)))) (tNot (tTest (tChain rLeI rLtI (tC (.int 0)) (tVar 2) (tCall (sp_width K A) [] E0 (tCons (tVar 0) tNil)))))))) (tRaise E (.ref A.BadPlace)) tNext)
  tNever))
theorem len_fixed {K : PySem.W.Frag} {A : Ad} : ∀ vs H Q E, sp_fixed K A vs H Q E → vs.length = 3 := by
  rintro _ H Q E ⟨x, y, c, b, rfl, _⟩; rfl
/-- the test of a place -/
theorem et_place {K : PySem.W.Frag} {A : Ad} {σ : L2.St} {H : Hp} {a : Addr} {t : List Str} {r c : V} {n m : String} (hT : Tb K H a t) (hr : Bt K H r n) (hc : Bt K H c m) (s0 : σ[0]? = some (some (.ref a))) (s1 : σ[1]? = some (some r)) (s2 : σ[2]? = some (some c)) :
    EvT (tOr (tNot (tB (tCall (sp_is_whole K A) [] E0 (tCons (tVar 1) tNil)))) (tOr (tNot (tTest (tChain rLeI rLtI (tC (.int 0)) (tVar 1) (tCB (rLenV K) (tCons (tVar 0) tNil))))) (tOr (tNot (tB (tCall (sp_is_whole K A) [] E0 (tCons (tVar 2) tNil)))) (tNot (tTest (tChain rLeI rLtI (tC (.int 0)) (tVar 2) (tCall (sp_width K A) [] E0 (tCons (tVar 0) tNil)))))))) σ H (!inPl t r c) := by
  have hw := hT.wi
  have w1 := ev_call (E := E0) (ea_cons (ev_var s1) ea_nil) (spv_whole (A := A) hr)
  have w2 := ev_call (E := E0) (ea_cons (ev_var s2) ea_nil) (spv_whole (A := A) hc)
  cases hi : isW r with
  | false =>
    rw [hi] at w1
    have : inPl t r c = false := by cases r <;> first | rfl | (simp [isW] at hi)
    rw [this]
    exact et_is (et_or (b := true) (et_not (et_B w1)) fun q => by cases q) rfl
  | true =>
    rw [hi] at w1
    obtain ⟨i, rfl⟩ : ∃ i, r = .int i := by cases r <;> first | exact ⟨_, rfl⟩ | (simp [isW] at hi)
    have c1 := et_not (et_test (ev_is (ev_chain (i := 0) (tb := tVar 1) ev_c (ev_var s1) fun _ => ev_lenL (ev_var s0) hT.sq) (by rw [List.length_map])))
    cases hj : isW c with
    | false =>
      rw [hj] at w2
      have : inPl t (.int i) c = false := by cases c <;> first | rfl | (simp [isW] at hj)
      rw [this]
      exact et_is (et_or (et_not (et_B w1)) fun _ => et_or (b := true) c1 fun _ => et_or (b := true) (et_not (et_B w2)) fun q => by cases q) (by simp)
    | true =>
      rw [hj] at w2
      obtain ⟨j, rfl⟩ : ∃ j, c = .int j := by cases c <;> first | exact ⟨_, rfl⟩ | (simp [isW] at hj)
      refine et_is (et_or (et_not (et_B w1)) fun _ => et_or c1 fun _ => et_or (et_not (et_B w2)) fun _ => et_not (et_test (ev_chain (i := 0) ev_c (ev_var s2) fun _ => ev_call (ea_cons (ev_var s0) ea_nil) (spv_width (A := A) hT.sq (by omega))))) ?_
      show (!true || (!(decide (0 ≤ i) && decide (i < (t.length : Int))) || (!true || !(decide (0 ≤ j) && decide (j < (wid t : Int)))))) = !((decide (0 ≤ i) && decide (i < (t.length : Int))) && (decide (0 ≤ j) && decide (j < (wid t : Int))))
      cases (decide (0 ≤ i) && decide (i < (t.length : Int))) <;> cases (decide (0 ≤ j) && decide (j < (wid t : Int))) <;> rfl
theorem rd_fixed {K : PySem.W.Frag} {A : Ad} (vs : List V) (H : Hp) (Q : VK) (E : XK) (h : sp_fixed K A vs H Q E) : t_fixed K A E { nx := fun _ H' => Q .non H', rt := Q } (start ["table", "row", "column", "came", "end", "some", "place", "others", "marks", "line", "one", "other"] vs) H := by
  obtain ⟨x, r, c, b, rfl, hx, k1, k2⟩ := h
  refine ⟨_, rfl, x, b, rfl, hx, fun q H1 e1 => ?_, fun q H1 e1 => k1 q H1 e1⟩
  obtain ⟨a, t, n, m, rfl, hT, hr, hc, hp, k⟩ := k2 q
  refine q_when (b := !inPl t r c) (et_place (A := A) (hT.mono e1) (hr.mono e1) (hc.mono e1) rfl rfl rfl) (fun _ H2 e2 => k H2 (e1.trans e2)) (fun q => ?_)
  rw [hp] at q; cases q
def sp_switched (K : PySem.W.Frag) (A : Ad) : Sp := fun vs H Q E => ∃ x y b, vs = [x, y] ∧ Th K H x b ∧ (∀ H', Ex H H' → E (.ref A.BadTable) none H') ∧
  (b = true → ∃ b', Th K H y b' ∧ (b' = true → ∃ a c t u, x = .ref a ∧ y = .ref c ∧ Tb K H a t ∧ Tb K H c u ∧ (t.length ≠ u.length ∨ wid t ≠ wid u)))
def t_switched (K : PySem.W.Frag) (A : Ad) (E : XK) : TS :=
  (tSeq (tDrop (tCall (sp_check_table K A) [] E (tCons (tVar 0) tNil)))
  (tSeq (tDrop (tCall (sp_check_table K A) [] E (tCons (tVar 1) tNil)))
  (tSeq (tIfS (tOr (tTest (tOp rNe (tCB (rLenV K) (tCons (tVar 0) tNil)) (tCB (rLenV K) (tCons (tVar 1) tNil)))) (tTest (tOp rNe (tCall (sp_width K A) [] E0 (tCons (tVar 0) tNil)) (tCall (sp_width K A) [] E0 (tCons (tVar 1) tNil))))) (tRaise E (.ref A.BadTable)) tNext)
  tNever)))
theorem len_switched {K : PySem.W.Frag} {A : Ad} : ∀ vs H Q E, sp_switched K A vs H Q E → vs.length = 2 := by
  rintro _ H Q E ⟨x, y, b, rfl, _⟩; rfl
theorem rd_switched {K : PySem.W.Frag} {A : Ad} (vs : List V) (H : Hp) (Q : VK) (E : XK) (h : sp_switched K A vs H Q E) : t_switched K A E { nx := fun _ H' => Q .non H', rt := Q } (start ["one", "other", "mine", "theirs", "turned", "place", "many", "ahead", "behind", "which", "step"] vs) H := by
  obtain ⟨x, y, b, rfl, hx, k, k2⟩ := h
  refine ⟨_, rfl, x, b, rfl, hx, fun q H1 e1 => ?_, fun q H1 e1 => k H1 e1⟩
  obtain ⟨b', hy, k3⟩ := k2 q
  refine ⟨_, rfl, y, b', rfl, hy.mono e1, fun q H2 e2 => ?_, fun q H2 e2 => k H2 (e1.trans e2)⟩
  obtain ⟨a, c, t, u, rfl, rfl, hT, hU, hne⟩ := k3 q
  have hT := (hT.mono e1).mono e2
  have hU := (hU.mono e1).mono e2
  have h1 := hT.wi
  have h2 := hU.wi
  refine q_when (b := true) (et_is (et_or (et_test (ev_neI (ev_lenL (ev_var rfl) hT.sq) (ev_lenL (ev_var rfl) hU.sq))) fun _ => et_test (ev_neI (ev_call (ea_cons (ev_var rfl) ea_nil) (spv_width (A := A) hT.sq (by omega))) (ev_call (ea_cons (ev_var rfl) ea_nil) (spv_width (A := A) hU.sq (by omega))))) ?_) (fun _ H3 e3 => k H3 ((e1.trans e2).trans e3)) (fun q => by cases q)
  rw [List.length_map, List.length_map]
  rcases hne with q | q
  · rw [decide_eq_false (by omega : ¬ ((t.length : Int) = (u.length : Int)))]; rfl
  · rw [decide_eq_false (by omega : ¬ ((wid t : Int) = (wid u : Int)))]; simp
/-! ### the law's own doors -/
def sp_law_with_table (K : PySem.W.Frag) (A : Ad) : Sp := fun vs H Q E => ∃ (d : Int) (x : V), vs = [.int d, x] ∧ Th K H x false ∧ ∀ H', Ex H H' → E (.ref A.BadTable) none H'
def t_law_with_table (K : PySem.W.Frag) (A : Ad) (E : XK) : TS :=
  (tSeq (tIfS (tTest (tOp rLtI (tVar 0) (tC (.int 2)))) (tRet (tIf (tTest (tOp rEq (tVar 0) (tC (.int 0)))) (tCall (sp_counts K A) [] E (tCons (tVar 1) tNil)) (tCall (sp_switch K A) [] E (tCons (tVar 1) (tCons (tC .non) tNil))))) tNext)
  (tSeq (tIfS (tTest (tOp rLtI (tVar 0) (tC (.int 4)))) (tRet (tIf (tTest (tOp rEq (tVar 0) (tC (.int 2)))) (tCall (sp_switched K A) [] E (tCons (tVar 1) (tCons (tLst (tCons (tC (.str "x")) tNil)) tNil))) (tCall (sp_switched K A) [] E (tCons (tLst (tCons (tC (.str "x")) tNil)) (tCons (tVar 1) tNil))))) tNext)
  (tRet (tCall (sp_fixed K A) [] E (tCons (tVar 1) (tCons (tUn rNegI (tC (.int 1))) (tCons (tC .non) tNil)))))))
theorem len_law_with_table {K : PySem.W.Frag} {A : Ad} : ∀ vs H Q E, sp_law_with_table K A vs H Q E → vs.length = 2 := by
  rintro _ H Q E ⟨x, y, rfl, _⟩; rfl
/-- a test, then either value -/
theorem go_if {t : TT} {ta tb : TE} {σ : L2.St} {H : Hp} {Q : VK} {b : Bool} (h : EvT t σ H b) (h1 : b = true → ∀ H1, Ex H H1 → ta σ H1 Q) (h2 : b = false → ∀ H1, Ex H H1 → tb σ H1 Q) : tIf t ta tb σ H Q := h H (Ex.refl H) _ fun H1 e => by
  cases b with
  | true => rw [if_pos rfl]; exact h1 rfl H1 e
  | false => rw [if_neg (by decide)]; exact h2 rfl H1 e
theorem tb_x {K : PySem.W.Frag} {H : Hp} {p : Addr} (h : H p = some (.lst [.str (Str.ofString "x")])) : Tb K H p [Str.ofString "x"] :=
  ⟨SqL.of h, by decide +kernel, by decide, by show (Str.ofString "x").length ≤ 1000; rw [str_x]; decide⟩
theorem rd_law_with_table {K : PySem.W.Frag} {A : Ad} (vs : List V) (H : Hp) (Q : VK) (E : XK) (h : sp_law_with_table K A vs H Q E) : t_law_with_table K A E { nx := fun _ H' => Q .non H', rt := Q } (start ["_law_door", "_law_table_here"] vs) H := by
  obtain ⟨d, x, rfl, hx, k⟩ := h
  refine q_when (et_test (ev_int2 (ev_var rfl) ev_c)) (fun _ H1 e1 => ?_) (fun _ H1 e1 => ?_)
  · refine go_if (et_test (ev_eqI (ev_var rfl) ev_c)) (fun _ H2 e2 => ?_) (fun _ H2 e2 => ?_)
    · have e := e1.trans e2
      exact ⟨_, rfl, x, false, rfl, hx.mono e, fun _ H3 e3 => k H3 (e.trans e3), fun q => by (cases q)⟩
    · have e := e1.trans e2
      exact ⟨_, rfl, x, .non, false, rfl, hx.mono e, fun _ H3 e3 => k H3 (e.trans e3), fun q => by (cases q)⟩
  · refine q_when (et_test (ev_int2 (ev_var rfl) ev_c)) (fun _ H2 e2 => ?_) (fun _ H2 e2 => ?_)
    · refine go_if (et_test (ev_eqI (ev_var rfl) ev_c)) (fun _ H3 e3 => ?_) (fun _ H3 e3 => ?_)
      · have e := (e1.trans e2).trans e3
        refine ⟨_, rfl, by show 1 ≤ sizeLine; decide, fun p hp => ?_⟩
        have e' := e.trans (Ex.new (o := .lst [.str (Str.ofString "x")]) hp)
        exact ⟨x, .ref p, false, rfl, hx.mono e', fun H4 e4 => k H4 (e'.trans e4), fun q => by (cases q)⟩
      · have e := (e1.trans e2).trans e3
        refine ⟨by show 1 ≤ sizeLine; decide, fun p hp => ?_⟩
        have e' := e.trans (Ex.new (o := .lst [.str (Str.ofString "x")]) hp)
        exact ⟨_, rfl, .ref p, x, true, rfl, (tb_x upd_same).th, fun H4 e4 => k H4 (e'.trans e4), fun _ => ⟨false, hx.mono e', fun q => by (cases q)⟩⟩
    · have e := e1.trans e2
      exact ⟨_, rfl, 1, rfl, x, .int (-1), .non, false, rfl, hx.mono e, fun _ H3 e3 => k H3 (e.trans e3), fun q => by (cases q)⟩
def sp_law_with_counts (K : PySem.W.Frag) (A : Ad) : Sp := fun vs H Q E => ∃ (d : Int) (x : V), vs = [.int d, x] ∧ Nm K H x false ∧ ∀ H', Ex H H' → E (.ref A.BadCounts) none H'
def t_law_with_counts (K : PySem.W.Frag) (A : Ad) (E : XK) : TS :=
  (tRet (tIf (tTest (tOp rEq (tVar 0) (tC (.int 0)))) (tCall (sp_filled K A) [] E (tCons (tVar 1) (tCons (tLst (tCons (tC (.int 1)) tNil)) tNil))) (tIf (tTest (tOp rEq (tVar 0) (tC (.int 1)))) (tCall (sp_filled K A) [] E (tCons (tLst (tCons (tC (.int 1)) (tCons (tC (.int 0)) tNil))) (tCons (tVar 1) tNil))) (tCall (sp_filled K A) [] E (tCons (tVar 1) (tCons (tC .non) tNil))))))
theorem len_law_with_counts {K : PySem.W.Frag} {A : Ad} : ∀ vs H Q E, sp_law_with_counts K A vs H Q E → vs.length = 2 := by
  rintro _ H Q E ⟨x, y, rfl, _⟩; rfl
theorem rd_law_with_counts {K : PySem.W.Frag} {A : Ad} (vs : List V) (H : Hp) (Q : VK) (E : XK) (h : sp_law_with_counts K A vs H Q E) : t_law_with_counts K A E { nx := fun _ H' => Q .non H', rt := Q } (start ["_law_door", "_law_numbers"] vs) H := by
  obtain ⟨d, x, rfl, hx, k⟩ := h
  refine go_if (et_test (ev_eqI (ev_var rfl) ev_c)) (fun _ H1 e1 => ?_) (fun _ H1 e1 => go_if (et_test (ev_eqI (ev_var rfl) ev_c)) (fun _ H2 e2 => ?_) (fun _ H2 e2 => ?_))
  · refine ⟨_, rfl, by show 1 ≤ sizeLine; decide, fun p hp => ?_⟩
    have e' := e1.trans (Ex.new (o := .lst [.int 1]) hp)
    exact ⟨x, .ref p, false, rfl, hx.mono e', fun q => by (cases q), fun H4 e4 => k H4 (e'.trans e4)⟩
  · refine ⟨by show 2 ≤ sizeLine; decide, fun p hp => ?_⟩
    have e' := (e1.trans e2).trans (Ex.new (o := .lst [.int 1, .int 0]) hp)
    refine ⟨_, rfl, .ref p, x, true, rfl, .inr ⟨p, _, rfl, SqL.of upd_same, by decide, fun y hy => ?_, rfl⟩, fun _ => hx.mono e', fun H4 e4 => k H4 (e'.trans e4)⟩
    simp only [List.mem_cons, List.not_mem_nil, or_false] at hy
    rcases hy with rfl | rfl <;> exact ⟨_, .int _⟩
  · have e' := e1.trans e2
    exact ⟨_, rfl, x, .non, false, rfl, hx.mono e', fun q => by (cases q), fun H4 e4 => k H4 (e'.trans e4)⟩
/-- a pair that is no place of the table -/
def BadPl (K : PySem.W.Frag) (t : List Str) (x : V) (H : Hp) : Prop := ∃ q r c n m, x = .ref q ∧ SqT K H q [r, c] ∧ Bt K H r n ∧ Bt K H c m ∧ inPl t r c = false
theorem BadPl.mono {K : PySem.W.Frag} {t : List Str} : Mono (BadPl K t) := fun v H H' e ⟨q, r, c, n, m, h1, h2, h3, h4, h5⟩ => ⟨q, r, c, n, m, h1, ex_t e h2, h3.mono e, h4.mono e, h5⟩
def sp_law_with_place (K : PySem.W.Frag) (A : Ad) : Sp := fun vs H Q E => ∃ a t x, vs = [.ref a, x] ∧ Tb K H a t ∧ BadPl K t x H ∧ ∀ H', Ex H H' → E (.ref A.BadPlace) none H'
def t_law_with_place (K : PySem.W.Frag) (A : Ad) (E : XK) : TS :=
  (tRet (tCall (sp_fixed K A) [] E (tCons (tVar 0) (tCons (tOp (rIxT K) (tVar 1) (tC (.int 0))) (tCons (tOp (rIxT K) (tVar 1) (tC (.int 1))) tNil)))))
theorem len_law_with_place {K : PySem.W.Frag} {A : Ad} : ∀ vs H Q E, sp_law_with_place K A vs H Q E → vs.length = 2 := by
  rintro _ H Q E ⟨a, t, x, rfl, _⟩; rfl
theorem rd_law_with_place {K : PySem.W.Frag} {A : Ad} (vs : List V) (H : Hp) (Q : VK) (E : XK) (h : sp_law_with_place K A vs H Q E) : t_law_with_place K A E { nx := fun _ H' => Q .non H', rt := Q } (start ["_law_table_here", "_law_pair"] vs) H := by
  obtain ⟨a, t, x, rfl, hT, ⟨q, r, c, n, m, rfl, hq, hr, hc, hi⟩, k⟩ := h
  refine ⟨_, rfl, _, rfl, q, _, 0, r, rfl, rfl, hq, rfl, _, rfl, q, _, 1, c, rfl, rfl, hq, rfl, .ref a, r, c, true, rfl, hT.th, fun z => by (cases z), fun _ => ⟨a, t, n, m, rfl, hT, hr, hc, hi, k⟩⟩
/-- a thing that is no switch of the table -/
def BadSw (K : PySem.W.Frag) (t : List Str) (x : V) (H : Hp) : Prop := ∃ s, Qd K H x s ∧ isSw t s = false
theorem BadSw.mono {K : PySem.W.Frag} {t : List Str} : Mono (BadSw K t) := fun v H H' e ⟨s, h1, h2⟩ => ⟨s, h1.mono e, h2⟩
def sp_law_with_step (K : PySem.W.Frag) (A : Ad) : Sp := fun vs H Q E => ∃ a t x, vs = [.ref a, x] ∧ Tb K H a t ∧ BadSw K t x H ∧ ∀ H', Ex H H' → E (.ref A.BadPlace) none H'
def t_law_with_step (K : PySem.W.Frag) (A : Ad) (E : XK) : TS :=
  (tRet (tCall (sp_switch K A) [] E (tCons (tVar 0) (tCons (tVar 1) tNil))))
theorem len_law_with_step {K : PySem.W.Frag} {A : Ad} : ∀ vs H Q E, sp_law_with_step K A vs H Q E → vs.length = 2 := by
  rintro _ H Q E ⟨a, t, x, rfl, _⟩; rfl
theorem rd_law_with_step {K : PySem.W.Frag} {A : Ad} (vs : List V) (H : Hp) (Q : VK) (E : XK) (h : sp_law_with_step K A vs H Q E) : t_law_with_step K A E { nx := fun _ H' => Q .non H', rt := Q } (start ["_law_table_here", "_law_step"] vs) H := by
  obtain ⟨a, t, x, rfl, hT, ⟨s, hq, hi⟩, k⟩ := h
  exact ⟨_, rfl, _, rfl, .ref a, x, true, rfl, hT.th, fun z => by (cases z), fun _ => ⟨a, t, s, rfl, hT, hq, fun _ => k, fun z => by rw [hi] at z; cases z⟩⟩
/-! ### told -/
def clsAt (A : Ad) (j : Nat) : Addr := if j = 0 then A.BadCounts else if j = 1 then A.BadTable else A.BadPlace
/-- what the law's kinds are of the j-th class -/
def kl (j : Nat) : List Bool := [j == 0, j == 1, j == 2, true]
def sp_law_kinds (K : PySem.W.Frag) (A : Ad) (a : Addr) (j : Nat) : Sp := fun vs H Q _ => vs = [.ref a] ∧ ∀ p H', H p = none → Ex H H' → H' p = some (.lst ((kl j).map V.bl)) → Q (.ref p) H'
theorem len_law_kinds {K : PySem.W.Frag} {A : Ad} {a : Addr} {j : Nat} : ∀ vs H Q E, sp_law_kinds K A a j vs H Q E → vs.length = 1 := by
  rintro _ H Q E ⟨rfl, _⟩; rfl
def t_law_kinds (K : PySem.W.Frag) (A : Ad) (D a : Addr) : TS :=
  tSeq (tAsg (tLst (tCons (tCB (rIsE K D a) (tCons (tVar 0) (tCons (tC (.ref A.BadCounts)) tNil))) (tCons (tCB (rIsE K D a) (tCons (tVar 0) (tCons (tC (.ref A.BadTable)) tNil))) (tCons (tCB (rIsE K D a) (tCons (tVar 0) (tCons (tC (.ref A.BadPlace)) tNil))) tNil)))) (gName 1))
  (tRet (tOp rCat (tVar 1) (tLst (tCons (tCB (rIsE K D a) (tCons (tVar 0) (tCons (tC (.ty "ValueError")) tNil))) tNil))))
/-- what isinstance says of the three classes -/
structure Kd (K : PySem.W.Frag) (A : Ad) : Prop where
  c0 : ∀ j, j < 3 → PySem.W.kitOne K (.ref (clsAt A j)) (.ref A.BadCounts) = some (j == 0)
  c1 : ∀ j, j < 3 → PySem.W.kitOne K (.ref (clsAt A j)) (.ref A.BadTable) = some (j == 1)
  c2 : ∀ j, j < 3 → PySem.W.kitOne K (.ref (clsAt A j)) (.ref A.BadPlace) = some (j == 2)
  cv : ∀ j, j < 3 → PySem.W.kitOne K (.ref (clsAt A j)) (.type "ValueError") = some true
  ec : ∀ j, j < 3 → ExcC K (clsAt A j)
  ex : ∀ j, j < 3 → PySem.W.exmOne K (.ref (clsAt A j)) (.ref A.CrossError) = some true
theorem rd_law_kinds {K : PySem.W.Frag} {A : Ad} (kd : Kd K A) {a : Addr} {j : Nat} (hj : j < 3) (vs : List V) (H : Hp) (Q : VK) (E : XK) (h : sp_law_kinds K A a j vs H Q E) : t_law_kinds K A (clsAt A j) a { nx := fun _ H' => Q .non H', rt := Q } (start ["_law_error", "_law_found"] vs) H := by
  obtain ⟨rfl, k⟩ := h
  have r1 : ∀ {c : Addr} (u : Value), RelV (.ref c) u → u = .ref c := fun u r => r
  have r2 : ∀ {n : String} (u : Value), RelV (.ty n) u → u = .type n := fun u r => r
  refine ⟨_, rfl, _, _, _, rfl, r1, kd.c0 j hj, _, rfl, _, _, _, rfl, r1, kd.c1 j hj, _, rfl, _, _, _, rfl, r1, kd.c2 j hj, by show 3 ≤ sizeLine; decide, fun p hp => ?_⟩
  refine ⟨_, rfl, _, rfl, _, _, _, rfl, r2, kd.cv j hj, by show 1 ≤ sizeLine; decide, fun q hq => ?_⟩
  have npq : p ≠ q := ne_of_none upd_same hq
  refine ⟨p, q, _, _, rfl, rfl, (upd_ne npq).trans upd_same, upd_same, by show 3 + 1 ≤ sizeLine; decide, fun r hr => ?_⟩
  have e1 : Ex H (upd H p (.lst [.bl (j == 0), .bl (j == 1), .bl (j == 2)])) := Ex.new hp
  have e2 := e1.trans (Ex.new (o := .lst [.bl true]) hq)
  exact k r _ (fresh_back e2 hr) (e2.trans (Ex.new hr)) upd_same
/-- the defs that are handed to told, with their promises -/
def Sx (K : PySem.W.Frag) (A : Ad) (f : Addr) (sp : Sp) : Prop :=
  (f = A.f_switched ∧ sp = sp_switched K A) ∨ (f = A.f_law_with_table ∧ sp = sp_law_with_table K A) ∨ (f = A.f_law_with_counts ∧ sp = sp_law_with_counts K A) ∨ (f = A.f_law_with_place ∧ sp = sp_law_with_place K A) ∨ (f = A.f_law_with_step ∧ sp = sp_law_with_step K A)
/-- sp refuses by the j-th class -/
def Rz (A : Ad) (sp : Sp) (vs : List V) (H : Hp) (j : Nat) : Prop := ∀ H1, Ex H H1 → ∀ (Q : VK) (E : XK), (∀ H', Ex H1 H' → E (.ref (clsAt A j)) none H') → sp vs H1 Q E
def sp_law_told (K : PySem.W.Frag) (A : Ad) : Sp := fun vs H Q _ => ∃ f x y sp j, vs = [.ref f, x, y] ∧ Sx K A f sp ∧ j < 3 ∧ Rz A sp [x, y] H j ∧ ∀ p H', H p = none → Ex H H' → H' p = some (.lst ((kl j).map V.bl)) → Q (.ref p) H'
theorem len_law_told {K : PySem.W.Frag} {A : Ad} : ∀ vs H Q E, sp_law_told K A vs H Q E → vs.length = 3 := by
  rintro _ H Q E ⟨f, x, y, sp, j, rfl, _⟩; rfl
def tsTold (K : PySem.W.Frag) (A : Ad) : Addr → Value → Option Addr → TS := fun a cls d => tRet fun σ H Q => ∃ j, j < 3 ∧ cls = .ref (clsAt A j) ∧ d = none ∧ tCall (sp_law_kinds K A a j) [] E0 (tCons (tVar 3) tNil) σ H Q
def t_law_told (K : PySem.W.Frag) (A : Ad) : TS :=
  (tSeq (fun D σ H => (tDrop (tCallAX 0 (Sx K A) (WE (wAs K (.ref A.CrossError) 3 (tsTold K A) (fun _ _ _ _ => False) D)) (tCons (tVar 1) (tCons (tVar 2) tNil)))) D σ H)
  (tRet (tLst tNil)))
theorem rd_law_told {K : PySem.W.Frag} {A : Ad} (kd : Kd K A) (vs : List V) (H : Hp) (Q : VK) (E : XK) (h : sp_law_told K A vs H Q E) : t_law_told K A { nx := fun _ H' => Q .non H', rt := Q } (start ["_law_ask", "_law_one", "_law_other", "_law_error"] vs) H := by
  obtain ⟨f, x, y, sp, j, rfl, hS, hj, hz, k⟩ := h
  refine ⟨f, sp, rfl, hS, _, rfl, _, rfl, hz H (Ex.refl H) _ _ fun H1 e1 => ?_⟩
  refine ⟨true, kd.ex j hj, fun _ a ha => ?_, fun q => by cases q⟩
  exact ⟨j, hj, rfl, rfl, _, rfl, rfl, fun p H2 hp e2 h2 => k p H2 (fresh_back e1 hp) (e1.trans e2) h2⟩
theorem eg_told {K : PySem.W.Frag} {A : Ad} {σ : L2.St} {H : Hp} {ta : TA} {f : Addr} {x y : V} {sp : Sp} {j : Nat} (h : EvA ta σ H [.ref f, x, y]) (hS : Sx K A f sp) (hj : j < 3) (hz : Rz A sp [x, y] H j) : EvL (tCall (sp_law_told K A) [] E0 ta) σ H ((kl j).map V.bl) := fun H1 e Q q =>
  h H1 e _ fun H2 e2 => ⟨f, x, y, sp, j, rfl, hS, hj, fun H3 e3 => hz H3 ((e.trans e2).trans e3), fun p H' hp e' h' => q p H' (fresh_back e2 hp) (e2.trans e') h'⟩
/-- told(..) == due -/
theorem ev_toldEq {K : PySem.W.Frag} {A : Ad} {σ : L2.St} {H : Hp} {ta : TA} {te : TE} {d : Addr} {j : Nat} (h : EvL (tCall (sp_law_told K A) [] E0 ta) σ H ((kl j).map V.bl)) (hd : Ev te σ H (.ref d)) (hs : SqL K H d ((kl j).map V.bl)) : Ev (tOp (rEqD K) (tCall (sp_law_told K A) [] E0 ta) te) σ H (.bl true) := by
  refine ev_is (ev_opL1 h (fun H1 e => hd.mono e) fun p H1 hp e => rv_eqD (fun H2 e2 => dp_bools (SqL.of (e2 _ _ hp))) (fun H2 e2 => dp_bools (ex_l (e.trans e2) hs)) (shaped_B _) (shaped_B _)) ?_
  rw [eqv_B]; simp
theorem ev_toldNe {K : PySem.W.Frag} {A : Ad} {σ : L2.St} {H : Hp} {ta : TA} {te : TE} {d : Addr} {j : Nat} (h : EvL (tCall (sp_law_told K A) [] E0 ta) σ H ((kl j).map V.bl)) (hd : Ev te σ H (.ref d)) (hs : SqL K H d ((kl j).map V.bl)) : Ev (tOp (rNeD K) (tCall (sp_law_told K A) [] E0 ta) te) σ H (.bl false) := by
  refine ev_is (ev_opL1 h (fun H1 e => hd.mono e) fun p H1 hp e => rv_neD (fun H2 e2 => dp_bools (SqL.of (e2 _ _ hp))) (fun H2 e2 => dp_bools (ex_l (e.trans e2) hs)) (shaped_B _) (shaped_B _)) ?_
  rw [eqv_B]; simp
end Cc
/-! Law 5, further: tables_right, places_right, law. -/
namespace Cc
open PySem PySem.Spec PyProof.Rows L2 Evl
/-! ### a text times a number -/
def rMulS : R2 := fun x y H Q => ∃ z n, x = .str z ∧ y = .int n ∧ MulOk z n ∧ Q (.str (Txt.mul z n)) H
theorem op_mulS {X : Cx} : OpR X (binaryOp .Mult) rMulS := by
  rintro pins s σ H x y v u Q I rx ry ⟨z, n, rfl, rfl, hm, q⟩
  obtain ⟨t, rfl⟩ := rx
  obtain ⟨t', rfl⟩ := ry
  exact SB.mul hm fun t'' k => ⟨.str (Txt.mul z n), H, I.tok k, ⟨_, rfl⟩, q⟩
theorem foldl_one (c : Nat) : ∀ (n : Nat) (acc : Array Nat), ((List.replicate n #[c]).foldl (· ++ ·) acc).toList = acc.toList ++ List.replicate n c
  | 0, acc => by simp
  | n + 1, acc => by
    rw [List.replicate_succ, List.foldl_cons, foldl_one c n, List.replicate_succ]
    simp
theorem mul_dash (w : Nat) (hw : w ≤ 1000) : MulOk (Str.ofString "-") (w : Int) ∧ cs (Txt.mul (Str.ofString "-") (w : Int)) = List.replicate w 45 := by
  rw [str_d]
  constructor
  · refine ⟨by simp only [Bool.or_eq_false_iff, decide_eq_false_iff_not]; omega, fun h1 h2 => ?_, fun h1 h2 => ?_⟩
    · have : (1 : Int) ≤ (2 ^ 63 - 1) / (w : Int) := by
        rw [Int.le_ediv_iff_mul_le (by omega)]; omega
      show ¬ ((1 : Nat) : Int) > _
      omega
    · show Builtin.Str.tooLong _ = false
      unfold Builtin.Str.tooLong
      have : (⟨#[45]⟩ : Str).length = 1 := rfl
      rw [this]
      simp only [decide_eq_false_iff_not]
      rw [sizeLine_eq]
      omega
  · unfold Txt.mul
    by_cases h1 : (w : Int) < 1
    · have : w = 0 := by omega
      subst this; rfl
    · rw [if_neg h1]
      by_cases h2 : w = 1
      · subst h2; rfl
      · have hb : (((w : Int) == 1) || ((⟨#[45]⟩ : Str).length == 0)) = false := by
          rw [Bool.or_eq_false_iff]
          exact ⟨by rw [beq_eq_false_iff_ne]; omega, rfl⟩
        rw [if_neg (by rw [hb]; decide)]
        show ((List.replicate (w : Int).toNat #[45]).foldl (· ++ ·) #[]).toList = _
        rw [foldl_one, Int.toNat_natCast]
        rfl
/-! ### range by steps -/
theorem rgC_pos {lo hi c : Int} (h0 : 0 ≤ lo) (h1 : lo ≤ 100000) (h2 : 0 ≤ hi) (h3 : hi ≤ 100000) (h4 : 0 < c) (h5 : c ≤ 100000) :
    ∃ n : Nat, RgC lo hi c n ∧ (∀ i : Nat, i < n → lo + i * c < hi) ∧ n ≤ hi.toNat := by
  have hz : 0 ≤ Builtin.Range.rangeSize lo hi c ∧ (∀ i : Int, 0 ≤ i → i < Builtin.Range.rangeSize lo hi c → lo + i * c < hi) ∧ Builtin.Range.rangeSize lo hi c ≤ hi := by
    unfold Builtin.Range.rangeSize
    rw [if_pos h4]
    by_cases q : lo < hi
    · rw [if_pos q]
      have d0 : 0 ≤ (hi - lo - 1) / c := Int.ediv_nonneg (by omega) (by omega)
      have d1 : (hi - lo - 1) / c * c ≤ hi - lo - 1 := Int.ediv_mul_le _ (by omega)
      refine ⟨by omega, fun i hi0 hi1 => ?_, ?_⟩
      · have : i * c ≤ (hi - lo - 1) / c * c := Int.mul_le_mul_of_nonneg_right (by omega) (by omega)
        omega
      · have : (hi - lo - 1) / c ≤ hi - lo - 1 := by
          exact Int.ediv_le_self c (by omega)
        omega
    · rw [if_neg q]; exact ⟨by omega, fun i a b => by omega, by omega⟩
  refine ⟨(Builtin.Range.rangeSize lo hi c).toNat, ⟨by omega, by omega, ?_, by omega⟩, fun i hi' => hz.2.1 i (by omega) (by omega), by omega⟩
  unfold Builtin.Range.small
  simp only [Builtin.Range.rangeFitsLong, Bool.and_eq_true, Bool.or_eq_true, decide_eq_true_eq, beq_iff_eq]
  rw [if_pos h4]
  simp only [Bool.and_eq_true, decide_eq_true_eq]
  omega
section
variable {K : PySem.W.Frag} {σ : L2.St} {H H' : Hp} {ta tb te : TE} {tr : TA} {D : Ends} {tu tz : TS} {g : TG} {xs ys : List V} {v : V}
theorem q_forR3 {lo hi c : Int} {j : Nat} (h : EvA tr σ H [.int lo, .int hi, .int c]) (h0 : 0 ≤ lo) (h1 : lo ≤ 100000) (h2 : 0 ≤ hi) (h3 : hi ≤ 100000) (h4 : 0 < c) (h5 : c ≤ 100000) (Pv : Nat → L2.St → Hp → Prop) (p0 : ∀ H1, Ex H H1 → Pv 0 σ H1)
    (hs : ∀ (i k : Nat) σ' H', (k : Int) = lo + i * c → k < hi.toNat → i < hi.toNat → Pv i σ' H' → tu { D with nx := Pv (i + 1), ct := Pv (i + 1), bk := tz D } (σ'.set j (some (.int (k : Nat)))) H') (hd : ∀ i σ' H', i ≤ hi.toNat → Pv i σ' H' → tz D σ' H') : tSeq (tFor (iRng3 tr) (gName j) tu) tz D σ H := by
  obtain ⟨n, r, q1, q2⟩ := rgC_pos h0 h1 h2 h3 h4 h5
  refine h H (Ex.refl H) _ fun H1 e => ⟨lo, hi, c, n, rfl, r, for_rangeC Pv (p0 H1 e) (fun i σ' H' hi' hP => ?_) fun σ' H' hP => hd n σ' H' q2 hP⟩
  have a := q1 i hi'
  have b : 0 ≤ (i : Int) * c := Int.mul_nonneg (by omega) (by omega)
  obtain ⟨k, hk⟩ : ∃ k : Nat, (k : Int) = lo + i * c := ⟨(lo + i * c).toNat, by omega⟩
  have := hs i k σ' H' hk (by omega) (by omega) hP
  rw [hk] at this
  exact this
/-- the first operand a new tuple -/
theorem ev_opU1 {r : R2} {x z : V} (ha : EvU ta σ H xs) (hb : ∀ H1, Ex H H1 → Ev tb σ H1 x) (hr : ∀ p H1, H1 p = some (.tup xs) → Ex H H1 → RV r (.ref p) x H1 z) : Ev (tOp r ta tb) σ H z := fun H1 e Q q =>
  ha H1 e _ fun p H2 _ e2 hp => hb H2 (e.trans e2) H2 (Ex.refl H2) _ fun H3 e3 => hr p H3 (e3 _ _ hp) ((e.trans e2).trans e3) H3 (Ex.refl H3) Q fun H4 e4 => q H4 ((e2.trans e3).trans e4)
theorem el_cat (h1 : EvL ta σ H xs) (h2 : EvL tb σ H ys) (hn : xs.length + ys.length ≤ 100000) : EvL (tOp rCat ta tb) σ H (xs ++ ys) := fun H1 e Q q =>
  h1 H1 e _ fun a H2 _ e2 ha => h2 H2 (e.trans e2) _ fun b H3 _ e3 hb => ⟨a, b, xs, ys, rfl, rfl, e3 _ _ ha, hb, sz_of hn, fun p hp => q p _ (fresh_back (e2.trans e3) hp) ((e2.trans e3).trans (Ex.new hp)) upd_same⟩
/-- the first operand a list that is known -/
theorem el_cat1 {p : Addr} (h1 : Ev ta σ H (.ref p)) (hp : H p = some (.lst xs)) (h2 : EvL tb σ H ys) (hn : xs.length + ys.length ≤ 100000) : EvL (tOp rCat ta tb) σ H (xs ++ ys) := fun H1 e Q q =>
  h1 H1 e _ fun H2 e2 => h2 H2 (e.trans e2) _ fun b H3 _ e3 hb => ⟨p, b, xs, ys, rfl, rfl, ((e.trans e2).trans e3) _ _ hp, hb, sz_of hn, fun p hp => q p _ (fresh_back (e2.trans e3) hp) ((e2.trans e3).trans (Ex.new hp)) upd_same⟩
theorem el_if {t : TT} {b : Bool} (h : EvT t σ H b) (h1 : b = true → EvL ta σ H xs) (h2 : b = false → EvL tb σ H xs) : EvL (tIf t ta tb) σ H xs := fun H1 e Q q =>
  h H1 e _ fun H2 e2 => by
    cases b with
    | true => rw [if_pos rfl]; exact h1 rfl H2 (e.trans e2) Q fun p H3 hp e3 h3 => q p H3 (fresh_back e2 hp) (e2.trans e3) h3
    | false => rw [if_neg (by decide)]; exact h2 rfl H2 (e.trans e2) Q fun p H3 hp e3 h3 => q p H3 (fresh_back e2 hp) (e2.trans e3) h3
/-- what a for over a new tuple asks -/
def ForT (K : PySem.W.Frag) (g : TG) (tu : TS) (D : Ends) (σ : L2.St) (p : Addr) (H2 : Hp) : Prop := ∃ a, V.ref p = V.ref a ∧ (∃ ys, SqT K H2 a ys) ∧ ∃ W : Nat → Nat → L2.St → Hp → Prop, (∃ m, W 0 m σ H2) ∧ ∀ i m σ H, W i m σ H →
      ((Itt K a).stop i H ∧ D.nx σ H) ∨ ((Itt K a).go i H ∧ ∃ N : L2.St → Hp → Prop, (∀ σ' H', N σ' H' → ∃ m', m' < m ∧ W (i + 1) m' σ' H') ∧ ∀ x H', (Itt K a).yld i H x H' → g x σ H' fun σ2 H2 => tu { D with nx := N, ct := N, bk := D.nx } σ2 H2)
theorem q_forU (h : tr σ H fun xs H1 => xs.length ≤ sizeLine ∧ ∀ p, H1 p = none → ForT K g tu { D with nx := tz D } σ p (upd H1 p (.tup xs))) : tSeq (tFor (iTup K (tTup tr)) g tu) tz D σ H := h
theorem s_forU (h : tr σ H fun xs H1 => xs.length ≤ sizeLine ∧ ∀ p, H1 p = none → ForT K g tu D σ p (upd H1 p (.tup xs))) : tFor (iTup K (tTup tr)) g tu D σ H := h
theorem forTT {p : Addr} {H1 : Hp} (Pv : Nat → L2.St → Hp → Prop) (h0 : Pv 0 σ (upd H1 p (.tup xs))) (hl : ∀ i σ H, i ≤ xs.length → Pv i σ H → SqT K H p xs)
    (hs : ∀ i x σ H, xs[i]? = some x → Pv i σ H → g x σ H fun σ2 H2 => tu { D with nx := Pv (i + 1), ct := Pv (i + 1), bk := D.nx } σ2 H2) (hd : ∀ σ H, Pv xs.length σ H → D.nx σ H) :
    ForT K g tu D σ p (upd H1 p (.tup xs)) :=
  ⟨p, rfl, ⟨_, SqT.of upd_same⟩, for_tup Pv h0 hl hs hd⟩
/-- table != [] -/
theorem ev_tne {p : Addr} {t : List Str} (h : Ev te σ H (.ref p)) (hT : Tb K H p t) : Ev (tOp (rNeD K) te (tLst tNil)) σ H (.bl (!decide (t = []))) := by
  refine ev_is (ev_opL h (el_lst ea_nil (by decide)) fun q H1 hq e => rv_neD (d := dS t) (e := dS []) (fun H2 e2 => dp_strs (ex_l (e.trans e2) hT.sq)) (fun H2 e2 => dp_strs (SqL.of (e2 _ _ hq))) (shaped_S fun z hz => okText_of (isTab_mem hT.ok hz).2) (shaped_S fun z hz => by cases hz)) ?_
  rw [eqv_S]
/-- how wide, as the laws reckon it -/
theorem ev_wide {p : Addr} {t : List Str} (h : Ev te σ H (.ref p)) (hT : Tb K H p t) : Ev (tIf (tTest (tOp (rNeD K) te (tLst tNil))) (tCB (rLenV K) (tCons (tOp (rIxL K) te (tC (.int 0))) tNil)) (tC (.int 0))) σ H (.int ((wid t : Nat) : Int)) := by
  have hw := hT.wi
  refine ev_if (et_test (ev_tne h hT)) (fun q => ?_) (fun q => ?_)
  · cases t with
    | nil => simp at q
    | cons z t => exact ev_lenS (ev_ixL (j := 0) h ev_c hT.sq rfl) (by show wid (z :: t) ≤ _; omega)
  · cases t with
    | nil => exact ev_c
    | cons z t => simp at q
end
theorem cutV_from (xs : List V) (n : Nat) : cutV xs (some (n : Int)) none = xs.drop n := by
  unfold cutV
  rw [HT.sIx_none, HT.sIx_nat]
  apply List.ext_getElem?
  intro i
  rw [List.getElem?_take, List.getElem?_drop, List.getElem?_drop]
  by_cases h : i < xs.length - min n xs.length
  · rw [if_pos h]
    congr 1
    omega
  · rw [if_neg h, List.getElem?_eq_none (by omega)]
/-! ### what are no tables -/
def flatOk : V → Bool
  | .non => true
  | .bl _ => true
  | .int _ => true
  | .str z => decide (z.length ≤ 100000)
  | _ => false
theorem flat_ty {K : PySem.W.Frag} {H : Hp} {y : V} (h : flatOk y = true) : (∃ n, Bt K H y n) ∧ ∀ z, y = .str z → z.length ≤ 100000 := by
  cases y with
  | non => exact ⟨⟨_, .non⟩, fun _ e => by cases e⟩
  | bl b => exact ⟨⟨_, .bl b⟩, fun _ e => by cases e⟩
  | int i => exact ⟨⟨_, .int i⟩, fun _ e => by cases e⟩
  | str z => exact ⟨⟨_, .str z⟩, fun _ e => by cases e; exact of_decide_eq_true h⟩
  | _ => cases h
theorem th_lst {K : PySem.W.Frag} {H : Hp} {p : Addr} {vs : List V} (h : H p = some (.lst vs)) (h1 : vs.length ≤ 40000) (h2 : vs.all flatOk = true) (h3 : tabV vs = false) : Th K H (.ref p) false :=
  .inr ⟨p, vs, rfl, SqL.of h, h1, fun y hy => flat_ty (List.all_eq_true.mp h2 y hy), h3.symm⟩
theorem th_flat {K : PySem.W.Frag} {H : Hp} {v : V} (h : flatOk v = true) : Th K H v false := by
  cases v with
  | non => exact .inl ⟨_, .non, by decide, rfl⟩
  | bl b => exact .inl ⟨_, .bl b, by decide, rfl⟩
  | int i => exact .inl ⟨_, .int i, by decide, rfl⟩
  | str z => exact .inl ⟨_, .str z, by decide, rfl⟩
  | _ => cases h
theorem th_tup {K : PySem.W.Frag} {H : Hp} {p : Addr} {vs : List V} (h : H p = some (.tup vs)) : Th K H (.ref p) false := .inl ⟨_, .tup (SqT.of h), by decide, rfl⟩
/-- a row within t in whose place another thing stands -/
theorem tab_bad {t : List Str} {i : Nat} {v : V} (h : isStrV v = false ∨ okS (strOf v) = false) : tabV ((t.map V.str).take i ++ [v] ++ (t.map V.str).drop (i + 1)) = false := by
  unfold tabV
  rcases h with h | h
  · have : ((t.map V.str).take i ++ [v] ++ (t.map V.str).drop (i + 1)).all isStrV = false := by
      rw [List.all_append, List.all_append]
      simp [h]
    rw [this, Bool.false_and]
  · have : isTab (((t.map V.str).take i ++ [v] ++ (t.map V.str).drop (i + 1)).map strOf) = false := by
      unfold isTab
      rw [List.map_append, List.map_append, List.all_append, List.all_append]
      simp [h]
    rw [this, Bool.and_false]
theorem tab_long {t : List Str} (ht : isTab t = true) {i : Nat} {z : Str} (hi : 0 < i) (hz : t[i]? = some z) (m : Str) (hm : m.length ≠ wid t) : tabV ((t.map V.str).take i ++ [V.str m] ++ (t.map V.str).drop (i + 1)) = false := by
  unfold tabV
  have : isTab (((t.map V.str).take i ++ [V.str m] ++ (t.map V.str).drop (i + 1)).map strOf) = false := by
    obtain ⟨z0, t', rfl⟩ : ∃ z0 t', t = z0 :: t' := by
      cases t with
      | nil => cases hz
      | cons z0 t' => exact ⟨z0, t', rfl⟩
    obtain ⟨k, rfl⟩ : ∃ k, i = k + 1 := ⟨i - 1, by omega⟩
    have hm' : m.length ≠ z0.length := hm
    unfold isTab
    rw [List.all_eq_false]
    refine ⟨m, by simp [strOf], ?_⟩
    intro q
    rw [Bool.and_eq_true, decide_eq_true_eq] at q
    exact hm' q.1
  rw [this, Bool.and_false]
def sp_law_tables_right (K : PySem.W.Frag) (A : Ad) : Sp := fun vs H Q _ => ∃ a d t, vs = [.ref a, .ref d] ∧ H a = some (.lst (t.map V.str)) ∧ Tb K H a t ∧ t.length ≤ 63 ∧ wid t ≤ 63 ∧ SqL K H d ((kl 1).map V.bl) ∧ ∀ H', Ex H H' → Q (.bl true) H'
theorem len_law_tables_right {K : PySem.W.Frag} {A : Ad} : ∀ vs H Q E, sp_law_tables_right K A vs H Q E → vs.length = 2 := by
  rintro _ H Q E ⟨a, d, t, rfl, _⟩; rfl
abbrev t_tr_wider (K : PySem.W.Frag) (A : Ad) : TS :=
  (tSeq (tAsg (tIf (tTest (tOp (rNeD K) (tVar 0) (tLst tNil))) (tLc (iList K (tVar 0)) (gName 10) tYes (tOp rAddSt (tVar 10) (tC (.str "-"))) [10]) (tLst (tCons (tC (.str "x")) tNil))) (gName 9))
  (tSeq (tFor (iTup K (tTup (tCons (tOp rCat (tVar 0) (tLst (tCons (tOp rMulS (tC (.str "-")) (tVar 3)) tNil))) (tCons (tVar 9) tNil)))) (gName 11) (tIfS (tOr (tTest (tOp (rNeD K) (tCall (sp_law_told K A) [] E0 (tCons (tC (.ref A.f_switched)) (tCons (tVar 0) (tCons (tVar 11) tNil)))) (tVar 1))) (tTest (tOp (rNeD K) (tCall (sp_law_told K A) [] E0 (tCons (tC (.ref A.f_switched)) (tCons (tVar 11) (tCons (tVar 0) tNil)))) (tVar 1)))) (tRet (tC (.bl false))) tNext))
  (tRet (tC (.bl true)))))
abbrev t_tr_doors (K : PySem.W.Frag) (A : Ad) : TS :=
  (tSeq (tFor (iRng1 (tCons (tC (.int 5)) tNil)) (gName 7) (tIfS (tNot (tB (tCB (rAll K) (tCons (tLc (iList K (tVar 4)) (gName 8) tYes (tOp (rEqD K) (tCall (sp_law_told K A) [] E0 (tCons (tC (.ref A.f_law_with_table)) (tCons (tVar 7) (tCons (tVar 8) tNil)))) (tVar 1)) [8]) tNil)))) (tRet (tC (.bl false))) tNext))
  (t_tr_wider K A))
abbrev t_tr_loops (K : PySem.W.Frag) (A : Ad) : TS :=
  (tSeq (tFor (iRng3 (tCons (tC (.int 0)) (tCons (tVar 2) (tCons (tOp rAddI (tC (.int 1)) (tOp rDivI (tVar 2) (tC (.int 6)))) tNil)))) (gName 5) (tSeq (tAsg (tOp (rIxT K) (tTup (tCons (tC .non) (tCons (tOp rAddSt (tOp (rIxL K) (tVar 0) (tVar 5)) (tC (.str "o"))) (tCons (tC (.int 5)) (tCons (tOp rAddSt (tOp (rIxL K) (tVar 0) (tVar 5)) (tC (.str "\t"))) tNil))))) (tOp rModI (tVar 5) (tC (.int 4)))) (gName 6))
  (tDrop (tBM K "list" rAppend (tVar 4) (tCons (tOp rCat (tOp rCat (tSl (rSlL K) (tVar 0) tNoPart (tPart (tVar 5))) (tLst (tCons (tVar 6) tNil))) (tSl (rSlL K) (tVar 0) (tPart (tOp rAddI (tVar 5) (tC (.int 1)))) tNoPart)) tNil)))))
  (tSeq (tFor (iRng3 (tCons (tC (.int 1)) (tCons (tVar 2) (tCons (tOp rAddI (tC (.int 1)) (tOp rDivI (tVar 2) (tC (.int 6)))) tNil)))) (gName 5) (tDrop (tBM K "list" rAppend (tVar 4) (tCons (tOp rCat (tOp rCat (tSl (rSlL K) (tVar 0) tNoPart (tPart (tVar 5))) (tLst (tCons (tOp rAddSt (tOp (rIxL K) (tVar 0) (tVar 5)) (tC (.str "x"))) tNil))) (tSl (rSlL K) (tVar 0) (tPart (tOp rAddI (tVar 5) (tC (.int 1)))) tNoPart)) tNil))))
  (t_tr_doors K A)))
def t_law_tables_right (K : PySem.W.Frag) (A : Ad) : TS :=
  (tSeq (tPar 2 3 (tCons (tCB (rLenV K) (tCons (tVar 0) tNil)) (tCons (tIf (tTest (tOp (rNeD K) (tVar 0) (tLst tNil))) (tCB (rLenV K) (tCons (tOp (rIxL K) (tVar 0) (tC (.int 0))) tNil)) (tC (.int 0))) tNil)))
  (tSeq (tAsg (tLst (tCons (tC .non) (tCons (tTup tNil) (tCons (tTup (tCons (tC (.str "x")) tNil)) (tCons (tC (.str "x")) (tCons tDNewK (tCons (tC (.int 5)) (tCons (tLst (tCons (tC .non) tNil)) (tCons (tLst (tCons (tC (.int 5)) tNil)) (tCons (tLst (tCons (tC (.str "y")) tNil)) (tCons (tLst (tCons (tC (.str "X")) tNil)) (tCons (tLst (tCons (tC (.str "x ")) tNil)) (tCons (tLst (tCons (tC (.str "x")) (tCons (tC (.str "xx")) tNil))) (tCons (tLst (tCons (tC (.str "")) (tCons (tC (.str "x")) tNil))) (tCons (tLst (tCons (tLst (tCons (tC (.str "x")) tNil)) tNil)) tNil))))))))))))))) (gName 4))
  (tSeq (tAsg (tOp rCat (tVar 4) (tLst (tCons (tLst (tCons (tC (.str "x\n")) tNil)) (tCons (tLst (tCons (tC (.bl true)) tNil)) tNil)))) (gName 4))
  (t_tr_loops K A))))
theorem Th.monoP {K : PySem.W.Frag} {b : Bool} : Mono (fun v H => Th K H v b) := fun v H H' e h => h.mono e
section
variable {K : PySem.W.Frag} {A : Ad} {σ : L2.St} {H : Hp} {vs : List V} {tr : TA}
theorem ep_thl (h : EvA tr σ H vs) (h1 : vs.length ≤ 40000) (h2 : vs.all flatOk = true) (h3 : tabV vs = false) : EvP (tLst tr) σ H (fun v H => Th K H v false) := ep_lst h (by omega) fun p H1 e hp => th_lst hp h1 h2 h3
theorem ep_thc {v : V} (h : flatOk v = true) : EvP (tC v) σ H (fun v H => Th K H v false) := ep_of ev_c fun _ _ => th_flat h
theorem ep_tht (h : EvA tr σ H vs) (h1 : vs.length ≤ 40000) : EvP (tTup tr) σ H (fun v H => Th K H v false) := ep_tup h (by omega) fun p H1 e hp => th_tup hp
theorem ep_thd : EvP tDNewK σ H (fun v H => Th K H v false) := fun H1 e Q q p hp => q _ _ (Ex.new hp) (.inl ⟨_, .dic upd_same, by decide, rfl⟩)
end
theorem rd_tr_wider {K : PySem.W.Frag} {A : Ad} {a d : Addr} {t : List Str} {Q : VK} {H : Hp} {x4 x5 x6 x7 x8 x9 x10 x11 : Option V} (ha : H a = some (.lst (t.map V.str))) (hT : Tb K H a t) (h63 : t.length ≤ 63) (hw : wid t ≤ 63) (hd : SqL K H d ((kl 1).map V.bl)) (k : ∀ H', Ex H H' → Q (.bl true) H') :
    t_tr_wider K A { nx := fun _ H' => Q .non H', rt := Q } [some (.ref a), some (.ref d), some (.int ((t.length : Nat) : Int)), some (.int ((wid t : Nat) : Int)), x4, x5, x6, x7, x8, x9, x10, x11] H := by
  obtain ⟨u, hu1, hu2, hu3⟩ : ∃ u : List Str, u = (if t = [] then [Str.ofString "x"] else t.map fun z => z ++ Str.ofString "-") ∧ isTab u = true ∧ ((t.length ≠ u.length ∨ wid t ≠ wid u) ∧ u.length ≤ 64 ∧ wid u ≤ 64) := by
    by_cases h : t = []
    · subst h
      exact ⟨_, rfl, by decide +kernel, .inl (by decide), by decide, by rw [if_pos rfl]; show (Str.ofString "x").length ≤ 64; rw [str_x]; decide⟩
    · refine ⟨_, rfl, ?_⟩
      rw [if_neg h]
      have hl : ∀ z : Str, (z ++ Str.ofString "-").length = z.length + 1 := fun z => len_add z false
      have hwu : wid (t.map fun z => z ++ Str.ofString "-") = wid t + 1 := by
        cases t with
        | nil => exact absurd rfl h
        | cons z t => exact hl z
      refine ⟨List.all_eq_true.mpr fun y hy => ?_, .inr (by omega), by rw [List.length_map]; omega, by omega⟩
      obtain ⟨z, hz, rfl⟩ := List.mem_map.mp hy
      obtain ⟨g1, g2⟩ := isTab_mem hT.ok hz
      have g3 : okS (z ++ Str.ofString "-") = true := okS_add (b := false) g2
      rw [g3, Bool.and_true, decide_eq_true_eq, hwu, hl, g1]
  have m : EvL (tIf (tTest (tOp (rNeD K) (tVar 0) (tLst tNil))) (tLc (iList K (tVar 0)) (gName 10) tYes (tOp rAddSt (tVar 10) (tC (.str "-"))) [10]) (tLst (tCons (tC (.str "x")) tNil))) [some (.ref a), some (.ref d), some (.int ((t.length : Nat) : Int)), some (.int ((wid t : Nat) : Int)), x4, x5, x6, x7, x8, x9, x10, x11] H (u.map V.str) := by
    refine el_if (et_test (ev_tne (ev_var rfl) hT)) (fun q => ?_) (fun q => ?_)
    · have q : t ≠ [] := by simpa using q
      rw [hu1, if_neg q, List.map_map]
      refine el_mapL (c := V.str) (l := t) (ev_var rfl) hT.sq (by omega) (fun _ => rfl) fun z hz => ?_
      have g := (isTab_mem hT.ok hz).1
      have e1 : (Str.ofString "-").length = 1 := by rw [str_d]; rfl
      exact ev_cat (ev_var rfl) ev_c (by omega)
    · have q : t = [] := by simpa using q
      rw [hu1, if_pos q]
      exact el_lst (ea_cons ev_c ea_nil) (by decide)
  refine q_asgL m fun p H1 hp e1 h1 => ?_
  have ha1 := e1 _ _ ha
  obtain ⟨mk1, mk2⟩ := mul_dash (wid t) (by omega)
  have m2 : EvL (tOp rCat (tVar 0) (tLst (tCons (tOp rMulS (tC (.str "-")) (tVar 3)) tNil))) [some (.ref a), some (.ref d), some (.int ((t.length : Nat) : Int)), some (.int ((wid t : Nat) : Int)), x4, x5, x6, x7, x8, some (.ref p), x10, x11] H1 ((t ++ [Txt.mul (Str.ofString "-") ((wid t : Nat) : Int)]).map V.str) := by
    rw [List.map_append]
    refine el_cat1 (ev_var rfl) ha1 (el_lst (vs := [V.str (Txt.mul (Str.ofString "-") ((wid t : Nat) : Int))]) (ea_cons ?_ ea_nil) (Nat.le_of_ble_eq_true rfl)) (by rw [List.length_map]; show _ + 1 ≤ _; omega)
    exact fun H2 e2 Q q => ⟨_, rfl, _, _, rfl, rfl, mk1, q H2 (Ex.refl H2)⟩
  generalize hlo : t ++ [Txt.mul (Str.ofString "-") ((wid t : Nat) : Int)] = lo at m2
  have hlo1 : isTab lo = true ∧ lo.length = t.length + 1 ∧ wid lo ≤ 64 := by
    have hd1 : (Txt.mul (Str.ofString "-") ((wid t : Nat) : Int)).length = wid t := by rw [cs_len, mk2, List.length_replicate]
    have hd2 : okS (Txt.mul (Str.ofString "-") ((wid t : Nat) : Int)) = true := by
      rw [okS_iff, mk2]
      intro c hc
      exact .inr (List.eq_of_mem_replicate hc)
    have hall : ∀ z ∈ lo, z.length = wid t ∧ okS z = true := by
      intro z hz
      rw [← hlo, List.mem_append, List.mem_singleton] at hz
      rcases hz with hz | rfl
      · exact isTab_mem hT.ok hz
      · exact ⟨hd1, hd2⟩
    obtain ⟨g1, g2⟩ := tab_rows hall
    exact ⟨g1, by rw [← hlo, List.length_append]; rfl, by omega⟩
  refine q_forU (go_consL m2 fun r H2 hr e2 h2 => ?_)
  refine ⟨_, rfl, by show 2 ≤ sizeLine; decide, fun q hq => ?_⟩
  refine forTT (fun i σ' H' => (∃ y, σ' = [some (.ref a), some (.ref d), some (.int ((t.length : Nat) : Int)), some (.int ((wid t : Nat) : Int)), x4, x5, x6, x7, x8, some (.ref p), x10, y]) ∧ Ex (upd H2 q (.tup [.ref r, .ref p])) H') ⟨⟨_, rfl⟩, Ex.refl _⟩ (fun i σ' H' _ hP => SqT.of (hP.2 _ _ upd_same)) ?_ ?_
  · rintro i x σ' H' hx ⟨⟨y, rfl⟩, e'⟩
    have eq : Ex H2 H' := (Ex.new hq).trans e'
    have e3 : Ex H H' := (e1.trans e2).trans eq
    obtain ⟨l, s, rfl, hTl, hne⟩ : ∃ l s, x = .ref l ∧ Tb K H' l s ∧ (t.length ≠ s.length ∨ wid t ≠ wid s) := by
      match i, hx with
      | 0, hx =>
        obtain rfl := Option.some.inj hx
        exact ⟨r, lo, rfl, ⟨SqL.of (eq _ _ h2), hlo1.1, by have := hlo1.2.1; omega, by have := hlo1.2.2; omega⟩, .inl (by have := hlo1.2.1; omega)⟩
      | 1, hx =>
        obtain rfl := Option.some.inj hx
        exact ⟨p, u, rfl, ⟨SqL.of (eq _ _ (e2 _ _ h1)), hu2, by have := hu3.2.1; omega, by have := hu3.2.2; omega⟩, hu3.1⟩
      | i + 2, hx => simp at hx
    have hT' := hT.mono e3
    have hd' := ex_l e3 hd
    have z1 : Rz A (sp_switched K A) [.ref a, .ref l] H' 1 := fun H3 e4 Q' E' k' => ⟨.ref a, .ref l, true, rfl, (hT'.mono e4).th, k', fun _ => ⟨true, (hTl.mono e4).th, fun _ => ⟨a, l, t, s, rfl, rfl, hT'.mono e4, hTl.mono e4, hne⟩⟩⟩
    have z2 : Rz A (sp_switched K A) [.ref l, .ref a] H' 1 := fun H3 e4 Q' E' k' => ⟨.ref l, .ref a, true, rfl, (hTl.mono e4).th, k', fun _ => ⟨true, (hT'.mono e4).th, fun _ => ⟨l, a, s, t, rfl, rfl, hTl.mono e4, hT'.mono e4, hne.imp Ne.symm Ne.symm⟩⟩⟩
    have sx : Sx K A A.f_switched (sp_switched K A) := .inl ⟨rfl, rfl⟩
    refine s_when (b := false) (et_or (a := false) (et_test (ev_toldNe (eg_told (ea_cons ev_c (ea_cons (ev_var rfl) (ea_cons (ev_var rfl) ea_nil))) sx (by decide) z1) (ev_var rfl) hd')) fun _ => et_test (ev_toldNe (eg_told (ea_cons ev_c (ea_cons (ev_var rfl) (ea_cons (ev_var rfl) ea_nil))) sx (by decide) z2) (ev_var rfl) hd')) (fun q => by cases q) (fun _ H4 e4 => ⟨⟨_, rfl⟩, e'.trans e4⟩)
  · rintro σ' H' ⟨⟨y, rfl⟩, e'⟩
    show tRet (tC (.bl true)) { nx := fun _ H' => Q .non H', rt := Q } [some (.ref a), some (.ref d), some (.int ((t.length : Nat) : Int)), some (.int ((wid t : Nat) : Int)), x4, x5, x6, x7, x8, some (.ref p), x10, y] H'
    exact k H' ((e1.trans e2).trans ((Ex.new hq).trans e'))
theorem ev_thTold {K : PySem.W.Frag} {A : Ad} {σ : L2.St} {H : Hp} {i : Nat} {dr : Int} {v : V} {d : Addr} (s7 : σ[7]? = some (some (.int dr))) (s8 : σ[8]? = some (some v)) (s1 : σ[1]? = some (some (.ref d))) (h : Th K H v false) (hd : SqL K H d ((kl 1).map V.bl)) :
    Ev (tOp (rEqD K) (tCall (sp_law_told K A) [] E0 (tCons (tC (.ref A.f_law_with_table)) (tCons (tVar 7) (tCons (tVar 8) tNil)))) (tVar 1)) σ H (.bl true) :=
  ev_toldEq (j := 1) (eg_told (j := 1) (sp := sp_law_with_table K A) (ea_cons ev_c (ea_cons (ev_var s7) (ea_cons (ev_var s8) ea_nil))) (.inr (.inl ⟨rfl, rfl⟩)) (by decide) fun H1 e Q E k => ⟨dr, v, rfl, h.mono e, k⟩) (ev_var s1) hd
theorem all_true {α : Type} (l : List α) : ((l.map fun _ => true).all id) = true := by
  rw [List.all_map]
  exact List.all_eq_true.mpr fun _ _ => rfl
theorem rd_tr_doors {K : PySem.W.Frag} {A : Ad} {a d p : Addr} {t : List Str} {vs : List V} {Q : VK} {H : Hp} {x5 x6 x7 x8 x9 x10 x11 : Option V} (ha : H a = some (.lst (t.map V.str))) (hT : Tb K H a t) (h63 : t.length ≤ 63) (hw : wid t ≤ 63) (hd : SqL K H d ((kl 1).map V.bl))
    (hp : H p = some (.lst vs)) (hl : vs.length ≤ 400) (hv : ∀ v ∈ vs, Th K H v false) (k : ∀ H', Ex H H' → Q (.bl true) H') :
    t_tr_doors K A { nx := fun _ H' => Q .non H', rt := Q } [some (.ref a), some (.ref d), some (.int ((t.length : Nat) : Int)), some (.int ((wid t : Nat) : Int)), some (.ref p), x5, x6, x7, x8, x9, x10, x11] H := by
  refine q_forR1 (n := 5) (ea_cons ev_c ea_nil) (by decide) (fun i σ' H' => (∃ y7, σ' = [some (.ref a), some (.ref d), some (.int ((t.length : Nat) : Int)), some (.int ((wid t : Nat) : Int)), some (.ref p), x5, x6, y7, x8, x9, x10, x11]) ∧ Ex H H') (fun H1 e1 => ⟨⟨_, rfl⟩, e1⟩) ?_ ?_
  · rintro i σ' H1 hi ⟨⟨y7, rfl⟩, e1⟩
    have m : EvL (tLc (iList K (tVar 4)) (gName 8) tYes (tOp (rEqD K) (tCall (sp_law_told K A) [] E0 (tCons (tC (.ref A.f_law_with_table)) (tCons (tVar 7) (tCons (tVar 8) tNil)))) (tVar 1)) [8]) [some (.ref a), some (.ref d), some (.int ((t.length : Nat) : Int)), some (.int ((wid t : Nat) : Int)), some (.ref p), x5, x6, some (.int (i : Nat)), x8, x9, x10, x11] H1 ((vs.map fun _ => true).map V.bl) := by
      rw [List.map_map]
      refine el_mapL (c := fun v => v) (l := vs) (ev_var rfl) (by rw [List.map_id']; exact SqL.of (e1 _ _ hp)) (by omega) (fun _ => rfl) fun v hv' => ?_
      exact ev_thTold (i := 0) rfl rfl rfl ((hv v hv').mono e1) (ex_l e1 hd)
    refine s_when (b := false) (et_is (et_not (et_B (ev_all m))) (by rw [all_true]; rfl)) (fun q => by cases q) (fun _ H2 e2 => ⟨⟨_, rfl⟩, e1.trans e2⟩)
  · rintro σ' H1 ⟨⟨y7, rfl⟩, e1⟩
    exact rd_tr_wider (e1 _ _ ha) (hT.mono e1) h63 hw (ex_l e1 hd) fun H2 e2 => k H2 (e1.trans e2)
theorem th_row {K : PySem.W.Frag} {H : Hp} {q : Addr} {t : List Str} {j : Nat} {v : V} (hT : isTab t = true) (hw : wid t ≤ 1000) (h63 : t.length ≤ 63) (hf : flatOk v = true) (hq : H q = some (.lst ((t.map V.str).take j ++ [v] ++ (t.map V.str).drop (j + 1)))) (hb : tabV ((t.map V.str).take j ++ [v] ++ (t.map V.str).drop (j + 1)) = false) : Th K H (.ref q) false := by
  have hr : ∀ y ∈ t.map V.str, flatOk y = true := fun y hy => by
    obtain ⟨z, hz, rfl⟩ := List.mem_map.mp hy
    have := (isTab_mem hT hz).1
    exact decide_eq_true (by omega)
  refine th_lst hq ?_ ?_ hb
  · have h1 : ((t.map V.str).take j).length ≤ 63 := by rw [List.length_take, List.length_map]; omega
    have h2 : ((t.map V.str).drop (j + 1)).length ≤ 63 := by rw [List.length_drop, List.length_map]; omega
    rw [List.length_append, List.length_append]
    show _ + 1 + _ ≤ _
    omega
  · rw [List.all_append, List.all_append, Bool.and_eq_true, Bool.and_eq_true]
    exact ⟨⟨List.all_eq_true.mpr fun y hy => hr y (List.mem_of_mem_take hy), by simp [hf]⟩, List.all_eq_true.mpr fun y hy => hr y (List.mem_of_mem_drop hy)⟩
/-- t[:j] + [e] + t[j + 1:] -/
theorem el_row {K : PySem.W.Frag} {σ : L2.St} {H : Hp} {te : TE} {a : Addr} {t : List Str} {j : Nat} {v : V} (hT : Tb K H a t) (h63 : t.length ≤ 63) (s0 : σ[0]? = some (some (.ref a))) (s5 : σ[5]? = some (some (.int (j : Nat)))) (he : Ev te σ H v) :
    EvL (tOp rCat (tOp rCat (tSl (rSlL K) (tVar 0) tNoPart (tPart (tVar 5))) (tLst (tCons te tNil))) (tSl (rSlL K) (tVar 0) (tPart (tOp rAddI (tVar 5) (tC (.int 1)))) tNoPart)) σ H ((t.map V.str).take j ++ [v] ++ (t.map V.str).drop (j + 1)) := by
  have m1 := el_sl (K := K) (ev_var s0) eo_none (eo_some (ev_var s5)) hT.sq
  rw [cutV_to] at m1
  have m2 := el_sl (K := K) (ev_var s0) (eo_some (ev_int2 (g := fun i j => V.int (i + j)) (ev_var s5) (ev_c (v := .int 1)))) eo_none hT.sq
  rw [show ((j : Int) + 1) = ((j + 1 : Nat) : Int) by omega, cutV_from] at m2
  have h1 : ((t.map V.str).take j).length ≤ 63 := by rw [List.length_take, List.length_map]; omega
  have h2 : ((t.map V.str).drop (j + 1)).length ≤ 63 := by rw [List.length_drop, List.length_map]; omega
  refine el_cat (el_cat m1 (el_lst (vs := [v]) (ea_cons he ea_nil) (Nat.le_of_ble_eq_true rfl)) (by show _ + 1 ≤ _; omega)) m2 (by rw [List.length_append]; show _ + 1 + _ ≤ _; omega)
/-- what a loop keeps that lengthens the list of strange things -/
def Lp (K : PySem.W.Frag) (p : Addr) (H0 : Hp) (n : Nat) (H' : Hp) : Prop := Ex H0 H' ∧ ∃ vs, H' p = some (.lst vs) ∧ vs.length ≤ n ∧ ∀ v ∈ vs, Th K (del H' p) v false
theorem lp_app {K : PySem.W.Frag} {σ : L2.St} {H0 H : Hp} {p : Addr} {n : Nat} {te : TE} {ys : List V} {D : Ends} (p0 : H0 p = none) (h : Lp K p H0 n H) (hn : n ≤ 1000) (hp : Ev (tVar 4) σ H (.ref p)) (he : EvL te σ H ys) (hy : ∀ q (H1 : Hp), H1 q = some (.lst ys) → Th K H1 (.ref q) false)
    (k : ∀ H1, Lp K p H0 (n + 1) H1 → D.nx σ H1) : tDrop (tBM K "list" rAppend (tVar 4) (tCons te tNil)) D σ H := by
  obtain ⟨e0, vs, h1, h2, h3⟩ := h
  refine s_appL h1 hp he (by omega) fun q H1 hq e1 hy1 => k _ ⟨(e0.trans e1).mut p0, _, upd_same, by rw [List.length_append]; show _ + 1 ≤ _; omega, fun v hv => ?_⟩
  have npq : p ≠ q := ne_of_none h1 hq
  rw [del_upd]
  rcases List.mem_append.mp hv with hv | hv
  · exact (h3 v hv).mono (del_mono e1)
  · rw [List.mem_singleton] at hv
    subst hv
    exact hy q _ (by rw [del_at (Ne.symm npq)]; exact hy1)
theorem rd_tr_loops {K : PySem.W.Frag} {A : Ad} {a d p : Addr} {t : List Str} {Q : VK} {H H0 : Hp} {x5 x6 x7 x8 x9 x10 x11 : Option V} (p0 : H0 p = none) (ha : H0 a = some (.lst (t.map V.str))) (hT : Tb K H0 a t) (h63 : t.length ≤ 63) (hw : wid t ≤ 63) (hd : SqL K H0 d ((kl 1).map V.bl))
    (hL : Lp K p H0 20 H) (k : ∀ H', Ex H0 H' → Q (.bl true) H') :
    t_tr_loops K A { nx := fun _ H' => Q .non H', rt := Q } [some (.ref a), some (.ref d), some (.int ((t.length : Nat) : Int)), some (.int ((wid t : Nat) : Int)), some (.ref p), x5, x6, x7, x8, x9, x10, x11] H := by
  have hc : (0 : Int) < 1 + (t.length : Int) / 6 ∧ 1 + (t.length : Int) / 6 ≤ 100000 := by omega
  have ec : ∀ {x5 x6 : Option V} {H' : Hp}, Ev (tOp rAddI (tC (.int 1)) (tOp rDivI (tVar 2) (tC (.int 6)))) [some (.ref a), some (.ref d), some (.int ((t.length : Nat) : Int)), some (.int ((wid t : Nat) : Int)), some (.ref p), x5, x6, x7, x8, x9, x10, x11] H' (.int (1 + (t.length : Int) / 6)) := by
    intro x5 x6 H'
    exact ev_int2 (g := fun i j => V.int (i + j)) ev_c (ev_int2C (g := fun i j => V.int (i / j)) (ev_var rfl) ev_c (by show CDiv _ 6; unfold CDiv; decide))
  have hmem : ∀ j, j < t.length → ∃ z, t[j]? = some z ∧ z.length = wid t ∧ okS z = true := fun j hj => by
    obtain ⟨z, hz⟩ : ∃ z, t[j]? = some z := ⟨t[j], List.getElem?_eq_getElem hj⟩
    exact ⟨z, hz, isTab_mem hT.ok (List.mem_of_getElem? hz)⟩
  refine q_forR3 (lo := 0) (hi := (t.length : Int)) (c := 1 + (t.length : Int) / 6) (ea_cons ev_c (ea_cons (ev_var rfl) (ea_cons ec ea_nil))) (by omega) (by omega) (by omega) (by omega) hc.1 hc.2
    (fun i σ' H' => (∃ y5 y6, σ' = [some (.ref a), some (.ref d), some (.int ((t.length : Nat) : Int)), some (.int ((wid t : Nat) : Int)), some (.ref p), y5, y6, x7, x8, x9, x10, x11]) ∧ Lp K p H0 (20 + i) H')
    (fun H1 e1 => ⟨⟨_, _, rfl⟩, hL.1.trans e1, by
      obtain ⟨_, vs, h1, h2, h3⟩ := hL
      exact ⟨vs, e1 _ _ h1, by omega, fun v hv => (h3 v hv).mono (del_mono e1)⟩⟩) ?_ ?_
  · rintro i j σ' H1 - hj hi ⟨⟨y5, y6, rfl⟩, hL1⟩
    have hj : j < t.length := by omega
    obtain ⟨z, hz, hz1, hz2⟩ := hmem j hj
    have hz' : (t.map V.str)[j]? = some (.str z) := by rw [List.getElem?_map, hz]; rfl
    have hT1 := hT.mono hL1.1
    have lo : ∀ s : String, (Str.ofString s).length ≤ 5 → ∀ H2, Ex H1 H2 → Ev (tOp rAddSt (tOp (rIxL K) (tVar 0) (tVar 5)) (tC (.str (Str.ofString s)))) [some (.ref a), some (.ref d), some (.int ((t.length : Nat) : Int)), some (.int ((wid t : Nat) : Int)), some (.ref p), some (.int ((j : Nat) : Int)), y6, x7, x8, x9, x10, x11] H2 (.str (z ++ Str.ofString s)) := fun s hs H2 e2 =>
      ev_cat (ev_ixL (j := j) (ev_var rfl) (ev_var rfl) (hT1.mono e2).sq hz') ev_c (by omega)
    have lo1 : (Str.ofString "o").length ≤ 5 := by decide +kernel
    have lo2 : (Str.ofString "\t").length ≤ 5 := by decide +kernel
    obtain ⟨v, hv1, hv2, hv3⟩ : ∃ v, [V.non, .str (z ++ Str.ofString "o"), .int 5, .str (z ++ Str.ofString "\t")][j % 4]? = some v ∧ flatOk v = true ∧ (isStrV v = false ∨ okS (strOf v) = false) := by
      have cc : ∀ s : String, okS (Str.ofString s) = false → okS (z ++ Str.ofString s) = false := fun s hs => by
        unfold okS at hs ⊢
        have := cs_app z (Str.ofString s)
        unfold cs at this
        rw [this, List.all_append, hs, Bool.and_false]
      have ll : ∀ s : String, (z ++ Str.ofString s).length = z.length + (Str.ofString s).length := fun s => by
        rw [cs_len, cs_len, cs_len, cs_app, List.length_append]
      have hm : j % 4 < 4 := Nat.mod_lt _ (by decide)
      match h : j % 4, hm with
      | 0, _ => exact ⟨_, rfl, rfl, .inl rfl⟩
      | 1, _ => exact ⟨_, rfl, decide_eq_true (by have := ll "o"; omega), .inr (cc _ (by decide +kernel))⟩
      | 2, _ => exact ⟨_, rfl, rfl, .inl rfl⟩
      | 3, _ => exact ⟨_, rfl, decide_eq_true (by have := ll "\t"; omega), .inr (cc _ (by decide +kernel))⟩
    refine q_asg (ev_opU1 (x := .int ((j % 4 : Nat) : Int)) (eu_tup (ea_cons ev_c (ea_cons (lo "o" lo1 _ (Ex.refl _)) (ea_cons ev_c (ea_cons (lo "\t" lo2 _ (Ex.refl _)) ea_nil)))) (by show 4 ≤ 100000; decide)) (fun H2 e2 => ?_) fun q H2 hq e2 => rv_ixT (SqT.of hq) (atI_nat hv1)) fun H2 e2 => ?_
    · have := ev_int2C (H := H2) (C := fun _ j => 0 < j) (g := fun i j => V.int (i % j)) (ev_var (σ := [some (.ref a), some (.ref d), some (.int ((t.length : Nat) : Int)), some (.int ((wid t : Nat) : Int)), some (.ref p), some (.int ((j : Nat) : Int)), y6, x7, x8, x9, x10, x11]) (i := 5) rfl) (ev_c (v := .int 4)) (by decide)
      exact ev_is this (by simp)
    have hL2 : Lp K p H0 (20 + i) H2 := ⟨hL1.1.trans e2, by
      obtain ⟨_, vs, h1, h2, h3⟩ := hL1
      exact ⟨vs, e2 _ _ h1, h2, fun v hv => (h3 v hv).mono (del_mono e2)⟩⟩
    exact lp_app p0 hL2 (by omega) (ev_var rfl) (el_row (hT.mono hL2.1) h63 rfl rfl (ev_var rfl)) (fun q H3 hq => th_row hT.ok hT.wi h63 hv2 hq (tab_bad hv3)) fun H3 hL3 => ⟨⟨_, _, rfl⟩, hL3⟩
  · rintro i σ' H1 hi ⟨⟨y5, y6, rfl⟩, hL1⟩
    refine q_forR3 (lo := 1) (hi := (t.length : Int)) (c := 1 + (t.length : Int) / 6) (ea_cons ev_c (ea_cons (ev_var rfl) (ea_cons ec ea_nil))) (by omega) (by omega) (by omega) (by omega) hc.1 hc.2
      (fun j σ' H' => (∃ y5, σ' = [some (.ref a), some (.ref d), some (.int ((t.length : Nat) : Int)), some (.int ((wid t : Nat) : Int)), some (.ref p), y5, y6, x7, x8, x9, x10, x11]) ∧ Lp K p H0 (20 + i + j) H')
      (fun H2 e2 => ⟨⟨_, rfl⟩, hL1.1.trans e2, by
        obtain ⟨_, vs, h1, h2, h3⟩ := hL1
        exact ⟨vs, e2 _ _ h1, by omega, fun v hv => (h3 v hv).mono (del_mono e2)⟩⟩) ?_ ?_
    · rintro i2 j σ' H2 hji hj hi2 ⟨⟨y5, rfl⟩, hL2⟩
      have hj : j < t.length := by omega
      have hj0 : 0 < j := by
        have : 0 ≤ (i2 : Int) * (1 + (t.length : Int) / 6) := Int.mul_nonneg (by omega) (by omega)
        omega
      obtain ⟨z, hz, hz1, hz2⟩ := hmem j hj
      have hz' : (t.map V.str)[j]? = some (.str z) := by rw [List.getElem?_map, hz]; rfl
      have hT2 := hT.mono hL2.1
      have lx : (Str.ofString "x").length = 1 := by rw [str_x]; rfl
      have ll : (z ++ Str.ofString "x").length = z.length + 1 := by
        rw [cs_len, cs_len, cs_app, List.length_append, ← cs_len (Str.ofString "x"), lx]
      have hf : flatOk (V.str (z ++ Str.ofString "x")) = true := decide_eq_true (by omega)
      refine lp_app p0 hL2 (by omega) (ev_var rfl) (el_row hT2 h63 rfl rfl (ev_cat (ev_ixL (j := j) (ev_var rfl) (ev_var rfl) hT2.sq hz') ev_c (by omega))) (fun q H3 hq => th_row hT.ok hT.wi h63 hf hq (tab_long hT.ok hj0 hz _ (by omega))) fun H3 hL3 => ⟨⟨_, rfl⟩, hL3⟩
    · rintro j σ' H2 hj ⟨⟨y5, rfl⟩, hL2⟩
      obtain ⟨e2, vs, h1, h2, h3⟩ := hL2
      exact rd_tr_doors (e2 _ _ ha) (hT.mono e2) h63 hw (ex_l e2 hd) h1 (by omega) (fun v hv => (h3 v hv).mono del_ex) fun H3 e3 => k H3 (e2.trans e3)
end Cc
/-! Law 5, further: tables_right whole, places_right, law. -/
namespace Cc
open PySem PySem.Spec PyProof.Rows L2 Evl
theorem tab1 {s : String} (h : okS (Str.ofString s) = false) : tabV [.str (Str.ofString s)] = false := by
  unfold tabV isTab
  show ([true].all id && ([Str.ofString s].all fun z => decide (z.length = (Str.ofString s).length) && okS z)) = false
  simp [h]
theorem th_in {K : PySem.W.Frag} {H : Hp} {p q : Addr} {vs : List V} (h : H p = some (.lst [.ref q])) (h2 : H q = some (.lst vs)) : Th K H (.ref p) false :=
  .inr ⟨p, _, rfl, SqL.of h, by show 1 ≤ 40000; decide, fun y hy => by
    rw [List.mem_singleton] at hy
    subst hy
    exact ⟨⟨_, .lst (SqL.of h2)⟩, fun z e => by cases e⟩, rfl⟩
theorem rd_law_tables_right {K : PySem.W.Frag} {A : Ad} (vs : List V) (H : Hp) (Q : VK) (E : XK) (h : sp_law_tables_right K A vs H Q E) : t_law_tables_right K A { nx := fun _ H' => Q .non H', rt := Q } (start ["_law_table_here", "_law_due", "_law_high", "_law_wide", "_law_bad", "_law_at", "_law_strange", "_law_door", "_law_thing", "_law_wider", "_law_row", "_law_other"] vs) H := by
  obtain ⟨a, d, t, rfl, ha, hT, h63, hw, hd, k⟩ := h
  refine q_par (ea_cons (ev_lenL (ev_var rfl) hT.sq) (ea_cons (ev_wide (ev_var rfl) hT) ea_nil)) fun H1 e1 => ?_
  rw [List.length_map]
  have m := Th.monoP (K := K) (b := false)
  have thx : ∀ {H2 : Hp} {σ : L2.St} {c : String}, okS (Str.ofString c) = false → (Str.ofString c).length ≤ 10 → EvP (tLst (tCons (tC (.str (Str.ofString c))) tNil)) σ H2 (fun v H => Th K H v false) := fun hc hl =>
    ep_thl (ea_cons ev_c ea_nil) (by show 1 ≤ 40000; decide) (by show (decide _ && true) = true; rw [Bool.and_true]; exact decide_eq_true (by omega)) (tab1 hc)
  have thn : ∀ {H2 : Hp} {σ : L2.St} {v : V}, isStrV v = false → flatOk v = true → EvP (tLst (tCons (tC v) tNil)) σ H2 (fun v H => Th K H v false) := fun {H2 σ v} hc hl =>
    ep_thl (ea_cons ev_c ea_nil) (by show 1 ≤ 40000; decide) (by show (flatOk v && true) = true; rw [hl]; rfl) (by unfold tabV; show ((isStrV v && true) && _) = false; rw [hc]; rfl)
  have th2 : ∀ {H2 : Hp} {σ : L2.St} {c d : String}, (Str.ofString c).length ≤ 10 → (Str.ofString d).length ≤ 10 → (Str.ofString c).length ≠ (Str.ofString d).length → EvP (tLst (tCons (tC (.str (Str.ofString c))) (tCons (tC (.str (Str.ofString d))) tNil))) σ H2 (fun v H => Th K H v false) := fun {H2 σ c d} hc hl hn =>
    ep_thl (ea_cons ev_c (ea_cons ev_c ea_nil)) (by show 2 ≤ 40000; decide) (by show (decide _ && (decide _ && true)) = true; rw [decide_eq_true (by omega), decide_eq_true (by omega)]; rfl) (by
      unfold tabV isTab
      show ([true, true].all id && ([Str.ofString c, Str.ofString d].all fun z => decide (z.length = (Str.ofString c).length) && okS z)) = false
      simp [Ne.symm hn])
  refine q_asgG (el_lstP (n := 14) (P := fun v H => Th K H v false) (eps_cons m (ep_thc rfl) <| eps_cons m (ep_tht ea_nil (by decide)) <| eps_cons m (ep_tht (ea_cons ev_c ea_nil) (by show 1 ≤ 40000; decide)) <| eps_cons m (ep_thc (by decide +kernel)) <| eps_cons m ep_thd <| eps_cons m (ep_thc rfl) <|
    eps_cons m (thn rfl rfl) <| eps_cons m (thn rfl rfl) <| eps_cons m (thx (by decide +kernel) (by decide +kernel)) <| eps_cons m (thx (by decide +kernel) (by decide +kernel)) <| eps_cons m (thx (by decide +kernel) (by decide +kernel)) <|
    eps_cons m (th2 (by decide +kernel) (by decide +kernel) (by decide +kernel)) <| eps_cons m (th2 (by decide +kernel) (by decide +kernel) (by decide +kernel)) <| eps_cons m ?_ <| eps_nil) (by decide) m) ?_
  · refine ep_lstP (n := 1) (P := fun v H => ∃ q ws, v = .ref q ∧ H q = some (.lst ws)) (eps_cons (fun v H H' e ⟨q, ws, h1, h2⟩ => ⟨q, ws, h1, e _ _ h2⟩) (ep_lst (ea_cons ev_c ea_nil) (by show 1 ≤ 100000; decide) fun p H1 e hp => ⟨p, _, rfl, hp⟩) eps_nil) (by decide) ?_ (fun v H H' e ⟨q, ws, h1, h2⟩ => ⟨q, ws, h1, e _ _ h2⟩)
    intro p ws H2 e2 hp hl hall
    match ws, hl with
    | [w], _ =>
      obtain ⟨q, us, rfl, hq⟩ := hall w List.mem_cons_self
      exact th_in hp hq
  · rintro v H2 e2 ⟨p, vs, rfl, hp0, hp, hl, hall⟩
    refine q_asgG (el_catP (n1 := 14) (n2 := 2) (P := fun v H => Th K H v false) (fun H3 e3 Q q => ⟨.ref p, rfl, q p vs H3 (Ex.refl H3) (e3 _ _ hp) (by omega) fun v hv => (hall v hv).mono (del_ex.trans e3)⟩) (el_lstP (n := 2) (eps_cons m (thx (by decide +kernel) (by decide +kernel)) <| eps_cons m (thn rfl rfl) <| eps_nil) (by decide) m) m (by decide)) ?_
    rintro v H3 e3 ⟨p, vs, rfl, hp0, hp, hl, hall⟩
    have e := (e1.trans e2).trans e3
    exact rd_tr_loops (H0 := H) (fresh_back (e1.trans e2) hp0) ha hT h63 hw hd ⟨e, vs, hp, by omega, hall⟩ k
end Cc
/-! Law 5: places_right. -/
namespace Cc
open PySem PySem.Spec PyProof.Rows L2 Evl
def GL (P : V → Hp → Prop) (n : Nat) : Hp → V → Hp → Prop := fun H1 w H2 => ∃ p vs, w = .ref p ∧ H1 p = none ∧ H2 p = some (.lst vs) ∧ vs.length ≤ n ∧ ∀ v ∈ vs, P v (del H2 p)
section
variable {K : PySem.W.Frag} {σ : L2.St} {H H' : Hp} {ta tb te : TE} {tr : TA} {P R : V → Hp → Prop} {n : Nat} {vs : List V} {v r c : V} {D : Ends} {tz tu : TS} {g : TG} {t : List Str}
theorem q_forG (h : EvG te σ H (fun H1 w H2 => ∃ p vs, w = .ref p ∧ H1 p = none ∧ H2 p = some (.lst vs) ∧ vs.length ≤ n ∧ ∀ v ∈ vs, P v (del H2 p))) (m : Mono P) (k : ∀ p vs H1, Ex H H1 → H1 p = some (.lst vs) → (∀ v ∈ vs, P v H1) → tSeq (tFor (iList K (tC (.ref p))) g tu) tz D σ H1) :
    tSeq (tFor (iList K te) g tu) tz D σ H := h H (Ex.refl H) _ fun w H1 e ⟨p, vs, hw, hp, h1, hl, hv⟩ => by
  subst hw
  exact k p vs H1 e h1 fun v hv' => m _ _ _ del_ex (hv v hv')
theorem q_forUP (h : EvPs tr σ H n P) (m : Mono P) (hn : n ≤ 100000) (k : ∀ p vs H1, Ex H H1 → H1 p = some (.tup vs) → vs.length = n → (∀ v ∈ vs, P v H1) → ForT K g tu { D with nx := tz D } σ p H1) : tSeq (tFor (iTup K (tTup tr)) g tu) tz D σ H :=
  q_forU (h H (Ex.refl H) _ fun vs H1 e hl hv => ⟨sz_of (by omega), fun p hp => k p vs _ (e.trans (Ex.new hp)) upd_same hl fun v hv' => m _ _ _ (Ex.new hp) (hv v hv')⟩)
theorem forTH {p : Addr} {H1 : Hp} {xs : List V} (Pv : Nat → L2.St → Hp → Prop) (hp : H1 p = some (.tup xs)) (h0 : Pv 0 σ H1) (hl : ∀ i σ H, i ≤ xs.length → Pv i σ H → SqT K H p xs)
    (hs : ∀ i x σ H, xs[i]? = some x → Pv i σ H → g x σ H fun σ2 H2 => tu { D with nx := Pv (i + 1), ct := Pv (i + 1), bk := D.nx } σ2 H2) (hd : ∀ σ H, Pv xs.length σ H → D.nx σ H) :
    ForT K g tu D σ p H1 := ⟨p, rfl, ⟨_, SqT.of hp⟩, for_tup Pv h0 hl hs hd⟩
theorem ep_pl (hr : Ev ta σ H r) (hc : Ev tb σ H c) (h1 : flatOk r = true) (h2 : flatOk c = true) (hi : inPl t r c = false) : EvP (tTup (tCons ta (tCons tb tNil))) σ H (BadPl K t) :=
  ep_tup (ea_cons hr (ea_cons hc ea_nil)) (by show 2 ≤ 100000; decide) fun p H1 e hp => by
    obtain ⟨n, hn⟩ := (flat_ty (K := K) (H := H1) h1).1
    obtain ⟨m, hm⟩ := (flat_ty (K := K) (H := H1) h2).1
    exact ⟨p, r, c, n, m, rfl, SqT.of hp, hn, hm, hi⟩
theorem ep_plL (h1 : flatOk c = true) : EvP (tTup (tCons (tLst (tCons (tC v) tNil)) (tCons (tC c) tNil))) σ H (BadPl K t) := fun H1 e Q q =>
  ⟨by show 1 ≤ sizeLine; decide, fun p hp => ⟨by show 2 ≤ sizeLine; decide, fun r hr => by
    obtain ⟨m, hm⟩ := (flat_ty (K := K) (H := upd (upd H1 p (.lst [v])) r (.tup [.ref p, c])) h1).1
    exact q _ _ ((Ex.new hp).trans (Ex.new hr)) ⟨r, .ref p, c, _, m, rfl, SqT.of upd_same, .lst (SqL.of ((Ex.new hr) _ _ upd_same)), hm, by cases c <;> rfl⟩⟩⟩
theorem ep_sw (h : EvA tr σ H vs) (hl : vs.length ≤ 40000) (hf : vs.all flatOk = true) (hi : isSw t (quad vs) = false) : EvP (tTup tr) σ H (BadSw K t) :=
  ep_tup h (by omega) fun p H1 e hp => ⟨_, .inr ⟨p, vs, rfl, SqT.of hp, hl, fun y hy => (flat_ty (List.all_eq_true.mp hf y hy)).1, rfl⟩, hi⟩
theorem ep_swc (h : flatOk v = true) : EvP (tC v) σ H (BadSw K t) := ep_of ev_c fun H1 _ => by
  refine ⟨none, .inl ?_, rfl⟩
  cases v with
  | non => exact ⟨_, .non, by decide, rfl⟩
  | bl b => exact ⟨_, .bl b, by decide, rfl⟩
  | int i => exact ⟨_, .int i, by decide, rfl⟩
  | str z => exact ⟨_, .str z, by decide, rfl⟩
  | _ => cases h
theorem ep_swl (h : EvA tr σ H vs) (hl : vs.length ≤ 40000) : EvP (tLst tr) σ H (BadSw K t) :=
  ep_lst h (by omega) fun p H1 e hp => ⟨none, .inl ⟨_, .lst (SqL.of hp), by decide, rfl⟩, rfl⟩
/-- told(f, [..], y): the second a new list -/
theorem eg_toldL {A : Ad} {f : Addr} {y : V} {sp : Sp} {j : Nat} (h : EvA tr σ H vs) (hn : vs.length ≤ 100000) (hy : Ev tb σ H y) (hS : Sx K A f sp) (hj : j < 3) (hz : ∀ p H1, H1 p = some (.lst vs) → Ex H H1 → Rz A sp [.ref p, y] H1 j) :
    EvL (tCall (sp_law_told K A) [] E0 (tCons (tC (.ref f)) (tCons (tLst tr) (tCons tb tNil)))) σ H ((kl j).map V.bl) := fun H1 e Q q =>
  h H1 e _ fun H2 e2 => ⟨sz_of hn, fun p hp => hy _ ((e.trans e2).trans (Ex.new hp)) _ fun H3 e3 => by
    have e4 := (e2.trans (Ex.new (o := .lst vs) hp)).trans e3
    exact ⟨f, .ref p, y, sp, j, rfl, hS, hj, fun H5 e5 => hz p H3 (e3 _ _ upd_same) (e.trans e4) H5 e5, fun r H' hr e' h' => q r H' (fresh_back e4 hr) (e4.trans e') h'⟩⟩
end
def sp_law_places_right (K : PySem.W.Frag) (A : Ad) : Sp := fun vs H Q _ => ∃ a d t far, vs = [.ref a, .ref d, .int far] ∧ H a = some (.lst (t.map V.str)) ∧ Tb K H a t ∧ t.length ≤ 63 ∧ wid t ≤ 63 ∧ SqL K H d ((kl 2).map V.bl) ∧ 0 ≤ far ∧ ∀ H', Ex H H' → Q (.bl true) H'
theorem len_law_places_right {K : PySem.W.Frag} {A : Ad} : ∀ vs H Q E, sp_law_places_right K A vs H Q E → vs.length = 3 := by
  rintro _ H Q E ⟨a, d, t, f, rfl, _⟩; rfl
abbrev t_pr_steps (K : PySem.W.Frag) (A : Ad) : TS :=
  (tSeq (tAsg (tLst (tCons (tC .non) (tCons (tC (.int 5)) (tCons (tTup tNil) (tCons (tTup (tCons (tC (.int 0)) (tCons (tC (.int 1)) (tCons (tC (.int 0)) tNil)))) (tCons (tTup (tCons (tC (.int 0)) (tCons (tC (.int 1)) (tCons (tC (.int 0)) (tCons (tC (.int 1)) (tCons (tC (.int 0)) tNil)))))) (tCons (tLst (tCons (tC (.int 0)) (tCons (tC (.int 1)) (tCons (tC (.int 0)) (tCons (tC (.int 1)) tNil))))) (tCons (tTup (tCons (tC (.int 0)) (tCons (tC (.int 0)) (tCons (tC (.int 0)) (tCons (tC (.int 0)) tNil))))) (tCons (tTup (tCons (tC (.int 0)) (tCons (tC (.int 1)) (tCons (tC (.int 0)) (tCons (tVar 4) tNil))))) (tCons (tTup (tCons (tC (.int 0)) (tCons (tVar 3) (tCons (tC (.int 0)) (tCons (tC (.int 1)) tNil))))) tNil)))))))))) (gName 7))
  (tSeq (tAsg (tOp rCat (tVar 7) (tLst (tCons (tTup (tCons (tUn rNegI (tC (.int 1))) (tCons (tC (.int 0)) (tCons (tC (.int 0)) (tCons (tC (.int 1)) tNil))))) (tCons (tTup (tCons (tC (.int 0)) (tCons (tC (.int 1)) (tCons (tUn rNegI (tC (.int 1))) (tCons (tC (.int 0)) tNil))))) (tCons (tTup (tCons (tC (.int 0)) (tCons (tC (.int 1)) (tCons (tC (.int 0)) (tCons (tUn rNegI (tC (.int 1))) tNil))))) (tCons (tTup (tCons (tC (.bl true)) (tCons (tC (.int 0)) (tCons (tC (.int 0)) (tCons (tC (.int 1)) tNil))))) (tCons (tTup (tCons (tC (.str "0")) (tCons (tC (.int 1)) (tCons (tC (.int 0)) (tCons (tC (.int 1)) tNil))))) tNil))))))) (gName 7))
  (tSeq (tDrop (tBM K "list" rAppend (tVar 7) (tCons (tTup (tCons (tC (.int 0)) (tCons (tC (.int 1)) (tCons (tC (.int 0)) (tCons (tOp rAddI (tVar 4) (tVar 2)) tNil))))) tNil)))
  (tSeq (tIfS (tNot (tB (tCB (rAll K) (tCons (tLc (iList K (tVar 7)) (gName 8) tYes (tOp (rEqD K) (tCall (sp_law_told K A) [] E0 (tCons (tC (.ref A.f_law_with_step)) (tCons (tVar 0) (tCons (tVar 8) tNil)))) (tVar 1)) [8]) tNil)))) (tRet (tC (.bl false))) tNext)
  (tSeq (tFor (iTup K (tTup (tCons (tTup (tCons (tC (.int 0)) (tCons (tC (.int 1)) (tCons (tC (.int 0)) (tCons (tC (.int 0)) tNil))))) (tCons (tTup (tCons (tC (.int 1)) (tCons (tC (.int 0)) (tCons (tC (.int 0)) (tCons (tC (.int 1)) tNil))))) (tCons (tTup (tCons (tC (.int 0)) (tCons (tC (.int 1)) (tCons (tC (.int 1)) (tCons (tC (.int 0)) tNil))))) (tCons (tTup (tCons (tC (.bl false)) (tCons (tC (.int 1)) (tCons (tC (.int 0)) (tCons (tC (.int 1)) tNil))))) (tCons (tTup (tCons (tC (.int 0)) (tCons (tUn rNegI (tC (.int 1))) (tCons (tC (.int 0)) (tCons (tC (.int 1)) tNil))))) (tCons (tTup (tCons (tC (.int 0)) (tCons (tC (.int 1)) (tCons (tC (.int 0)) (tCons (tUn rNegI (tC (.int 1))) tNil))))) tNil)))))))) (gName 8) (tIfS (tTest (tOp (rNeD K) (tCall (sp_law_told K A) [] E0 (tCons (tC (.ref A.f_law_with_step)) (tCons (tLst (tCons (tC (.str "x-")) (tCons (tC (.str "-x")) tNil))) (tCons (tVar 8) tNil)))) (tVar 1))) (tRet (tC (.bl false))) tNext))
  (tRet (tC (.bl true))))))))
def t_law_places_right (K : PySem.W.Frag) (A : Ad) : TS :=
  (tSeq (tPar 3 4 (tCons (tCB (rLenV K) (tCons (tVar 0) tNil)) (tCons (tIf (tTest (tOp (rNeD K) (tVar 0) (tLst tNil))) (tCB (rLenV K) (tCons (tOp (rIxL K) (tVar 0) (tC (.int 0))) tNil)) (tC (.int 0))) tNil)))
  (tSeq (tAsg (tLst (tCons (tTup (tCons (tC .non) (tCons (tC (.int 0)) tNil))) (tCons (tTup (tCons (tC (.int 0)) (tCons (tC .non) tNil))) (tCons (tTup (tCons (tUn rNegI (tC (.int 1))) (tCons (tC (.int 0)) tNil))) (tCons (tTup (tCons (tC (.int 0)) (tCons (tUn rNegI (tC (.int 1))) tNil))) (tCons (tTup (tCons (tVar 3) (tCons (tC (.int 0)) tNil))) (tCons (tTup (tCons (tC (.int 0)) (tCons (tVar 4) tNil))) (tCons (tTup (tCons (tOp rAddI (tVar 3) (tVar 2)) (tCons (tC (.int 0)) tNil))) (tCons (tTup (tCons (tC (.int 0)) (tCons (tOp rAddI (tVar 4) (tVar 2)) tNil))) tNil))))))))) (gName 5))
  (tSeq (tFor (iList K (tOp rCat (tVar 5) (tLst (tCons (tTup (tCons (tOp rSubI (tUn rNegI (tC (.int 1))) (tVar 2)) (tCons (tC (.int 0)) tNil))) (tCons (tTup (tCons (tC (.bl true)) (tCons (tC (.int 0)) tNil))) (tCons (tTup (tCons (tC (.int 0)) (tCons (tC (.bl true)) tNil))) (tCons (tTup (tCons (tC (.str "0")) (tCons (tC (.int 0)) tNil))) (tCons (tTup (tCons (tC (.int 0)) (tCons (tC (.str "0")) tNil))) (tCons (tTup (tCons (tLst (tCons (tC (.int 0)) tNil)) (tCons (tC (.int 0)) tNil))) tNil))))))))) (gName 6) (tIfS (tTest (tOp (rNeD K) (tCall (sp_law_told K A) [] E0 (tCons (tC (.ref A.f_law_with_place)) (tCons (tVar 0) (tCons (tVar 6) tNil)))) (tVar 1))) (tRet (tC (.bl false))) tNext))
  (t_pr_steps K A))))
theorem rd_pr_steps {K : PySem.W.Frag} {A : Ad} {a d : Addr} {t : List Str} {far : Int} {Q : VK} {H : Hp} {x5 x6 x7 x8 : Option V} (hT : Tb K H a t) (h63 : t.length ≤ 63) (hw : wid t ≤ 63) (hd : SqL K H d ((kl 2).map V.bl)) (hf : 0 ≤ far) (k : ∀ H', Ex H H' → Q (.bl true) H') :
    t_pr_steps K A { nx := fun _ H' => Q .non H', rt := Q } [some (.ref a), some (.ref d), some (.int far), some (.int ((t.length : Nat) : Int)), some (.int ((wid t : Nat) : Int)), x5, x6, x7, x8] H := by
  have m := BadSw.mono (K := K) (t := t)
  have neg : ∀ {H2 : Hp} {σ : L2.St}, Ev (tUn rNegI (tC (.int 1))) σ H2 (.int (-1)) := ev_neg ev_c
  refine q_asgG (el_lstP (n := 9) (P := BadSw K t) (eps_cons m (ep_swc rfl) <| eps_cons m (ep_swc rfl) <| eps_cons m (ep_sw ea_nil (by decide) rfl rfl) <| eps_cons m (ep_sw (vs := [.int 0, .int 1, .int 0]) (ea_cons ev_c (ea_cons ev_c (ea_cons ev_c ea_nil))) (by decide) rfl rfl) <|
    eps_cons m (ep_sw (vs := [.int 0, .int 1, .int 0, .int 1, .int 0]) (ea_cons ev_c (ea_cons ev_c (ea_cons ev_c (ea_cons ev_c (ea_cons ev_c ea_nil))))) (by decide) rfl rfl) <| eps_cons m (ep_swl (vs := [.int 0, .int 1, .int 0, .int 1]) (ea_cons ev_c (ea_cons ev_c (ea_cons ev_c (ea_cons ev_c ea_nil)))) (by decide)) <|
    eps_cons m (ep_sw (vs := [.int 0, .int 0, .int 0, .int 0]) (ea_cons ev_c (ea_cons ev_c (ea_cons ev_c (ea_cons ev_c ea_nil)))) (by decide) rfl ?_) <| eps_cons m (ep_sw (vs := [.int 0, .int 1, .int 0, .int (wid t : Nat)]) (ea_cons ev_c (ea_cons ev_c (ea_cons ev_c (ea_cons (ev_var rfl) ea_nil)))) (by show 4 ≤ 40000; decide) rfl ?_) <|
    eps_cons m (ep_sw (vs := [.int 0, .int (t.length : Nat), .int 0, .int 1]) (ea_cons ev_c (ea_cons (ev_var rfl) (ea_cons ev_c (ea_cons ev_c ea_nil)))) (by show 4 ≤ 40000; decide) rfl ?_) <| eps_nil) (by decide) m) ?_
  · show (_ && _ && _ && (cellAt t 0 0 == 120 && cellAt t 0 0 == 45 && _)) = false
    by_cases h : cellAt t 0 0 = 120
    · simp [h]
    · simp [h]
  · show (_ && _ && (_ && (_ && decide (((wid t : Nat) : Int) < (wid t : Nat)))) && _) = false
    simp
  · show (_ && (_ && decide (((t.length : Nat) : Int) < (t.length : Nat))) && _ && _) = false
    simp
  rintro v H1 e1 ⟨p, vs, rfl, hp0, hp, hl, hall⟩
  refine q_asgG (el_catP (n1 := 9) (n2 := 5) (P := BadSw K t) (fun H3 e3 Q q => ⟨.ref p, rfl, q p vs H3 (Ex.refl H3) (e3 _ _ hp) (by omega) fun v hv => m _ _ _ (del_ex.trans e3) (hall v hv)⟩) (el_lstP (n := 5) (
    eps_cons m (ep_sw (vs := [.int (-1), .int 0, .int 0, .int 1]) (ea_cons neg (ea_cons ev_c (ea_cons ev_c (ea_cons ev_c ea_nil)))) (by decide) rfl (by simp [isSw, quad])) <|
    eps_cons m (ep_sw (vs := [.int 0, .int 1, .int (-1), .int 0]) (ea_cons ev_c (ea_cons ev_c (ea_cons neg (ea_cons ev_c ea_nil)))) (by decide) rfl (by simp [isSw, quad])) <|
    eps_cons m (ep_sw (vs := [.int 0, .int 1, .int 0, .int (-1)]) (ea_cons ev_c (ea_cons ev_c (ea_cons ev_c (ea_cons neg ea_nil)))) (by decide) rfl (by simp [isSw, quad])) <|
    eps_cons m (ep_sw (ea_cons ev_c (ea_cons ev_c (ea_cons ev_c (ea_cons ev_c ea_nil)))) (by show 4 ≤ 40000; decide) rfl rfl) <|
    eps_cons m (ep_sw (ea_cons ev_c (ea_cons ev_c (ea_cons ev_c (ea_cons ev_c ea_nil)))) (by show 4 ≤ 40000; decide) (by decide +kernel) rfl) <| eps_nil) (by decide) m) m (by decide)) ?_
  rintro v H2 e2 ⟨p2, vs2, rfl, hp20, hp2, hl2, hall2⟩
  refine q_appU (ys := [.int 0, .int 1, .int 0, .int (((wid t : Nat) : Int) + far)]) hp2 (ev_var rfl) (eu_tup (ea_cons ev_c (ea_cons ev_c (ea_cons ev_c (ea_cons (ev_int2 (g := fun i j => V.int (i + j)) (ev_var rfl) (ev_var rfl)) ea_nil)))) (by show 4 ≤ 100000; decide)) (by omega) fun q H3 hq e3 h3 => ?_
  have npq : p2 ≠ q := ne_of_none hp2 hq
  have hall3 : ∀ v ∈ vs2 ++ [V.ref q], BadSw K t v (upd H3 p2 (.lst (vs2 ++ [.ref q]))) := fun v hv => by
    refine m _ _ _ (del_exu (p := p2)) ?_
    rcases List.mem_append.mp hv with hv | hv
    · exact m _ _ _ (del_mono e3) (hall2 v hv)
    · rw [List.mem_singleton] at hv
      subst hv
      refine ⟨_, .inr ⟨q, _, rfl, SqT.of (by rw [del_at (Ne.symm npq)]; exact h3), by show 4 ≤ 40000; decide, fun y hy => ?_, rfl⟩, ?_⟩
      · simp only [List.mem_cons, List.not_mem_nil, or_false] at hy
        rcases hy with rfl | rfl | rfl | rfl <;> exact ⟨_, .int _⟩
      · simp [isSw, quad]
        omega
  have e : Ex H (upd H3 p2 (.lst (vs2 ++ [.ref q]))) := ((e1.trans e2).trans e3).mut (fresh_back e1 hp20)
  generalize hH : upd H3 p2 (.lst (vs2 ++ [.ref q])) = H4 at e hall3
  have h4 : H4 p2 = some (.lst (vs2 ++ [.ref q])) := by rw [← hH]; exact upd_same
  have hlen : (vs2 ++ [V.ref q]).length ≤ 20 := by rw [List.length_append]; show _ + 1 ≤ _; omega
  generalize vs2 ++ [V.ref q] = ws at hall3 h4 hlen
  have m2 : EvL (tLc (iList K (tVar 7)) (gName 8) tYes (tOp (rEqD K) (tCall (sp_law_told K A) [] E0 (tCons (tC (.ref A.f_law_with_step)) (tCons (tVar 0) (tCons (tVar 8) tNil)))) (tVar 1)) [8]) [some (.ref a), some (.ref d), some (.int far), some (.int ((t.length : Nat) : Int)), some (.int ((wid t : Nat) : Int)), x5, x6, some (.ref p2), x8] H4 ((ws.map fun _ => true).map V.bl) := by
    rw [List.map_map]
    refine el_mapL (c := fun v => v) (l := ws) (ev_var rfl) (by rw [List.map_id']; exact SqL.of h4) (by omega) (fun _ => rfl) fun v hv' => ?_
    exact ev_toldEq (j := 2) (eg_told (j := 2) (sp := sp_law_with_step K A) (ea_cons ev_c (ea_cons (ev_var rfl) (ea_cons (ev_var rfl) ea_nil))) (.inr (.inr (.inr (.inr ⟨rfl, rfl⟩)))) (by decide) fun H5 e5 Q E k => ⟨a, t, v, rfl, hT.mono (e.trans e5), m _ _ _ e5 (hall3 v hv'), k⟩) (ev_var rfl) (ex_l e hd)
  refine q_when (b := false) (et_is (et_not (et_B (ev_all m2))) (by rw [all_true]; rfl)) (fun q => by cases q) fun _ H5 e5 => ?_
  have m3 := BadSw.mono (K := K) (t := [Str.ofString "x-", Str.ofString "-x"])
  refine q_forUP (n := 6) (P := BadSw K [Str.ofString "x-", Str.ofString "-x"]) (
    eps_cons m3 (ep_sw (vs := [.int 0, .int 1, .int 0, .int 0]) (ea_cons ev_c (ea_cons ev_c (ea_cons ev_c (ea_cons ev_c ea_nil)))) (by decide) rfl (by decide +kernel)) <|
    eps_cons m3 (ep_sw (vs := [.int 1, .int 0, .int 0, .int 1]) (ea_cons ev_c (ea_cons ev_c (ea_cons ev_c (ea_cons ev_c ea_nil)))) (by decide) rfl (by decide +kernel)) <|
    eps_cons m3 (ep_sw (vs := [.int 0, .int 1, .int 1, .int 0]) (ea_cons ev_c (ea_cons ev_c (ea_cons ev_c (ea_cons ev_c ea_nil)))) (by decide) rfl (by decide +kernel)) <|
    eps_cons m3 (ep_sw (vs := [.bl false, .int 1, .int 0, .int 1]) (ea_cons ev_c (ea_cons ev_c (ea_cons ev_c (ea_cons ev_c ea_nil)))) (by decide) rfl (by decide +kernel)) <|
    eps_cons m3 (ep_sw (vs := [.int 0, .int (-1), .int 0, .int 1]) (ea_cons ev_c (ea_cons neg (ea_cons ev_c (ea_cons ev_c ea_nil)))) (by decide) rfl (by decide +kernel)) <|
    eps_cons m3 (ep_sw (vs := [.int 0, .int 1, .int 0, .int (-1)]) (ea_cons ev_c (ea_cons ev_c (ea_cons ev_c (ea_cons neg ea_nil)))) (by decide) rfl (by decide +kernel)) <| eps_nil) m3 (by decide) fun p6 vs6 H6 e6 hp6 hl6 hall6 => ?_
  have e7 := (e.trans e5).trans e6
  refine forTH (fun i σ' H' => (∃ x8, σ' = [some (.ref a), some (.ref d), some (.int far), some (.int ((t.length : Nat) : Int)), some (.int ((wid t : Nat) : Int)), x5, x6, some (.ref p2), x8]) ∧ Ex H6 H') hp6 ⟨⟨_, rfl⟩, Ex.refl _⟩ (fun i σ' H' _ hP => SqT.of (hP.2 _ _ hp6)) ?_ ?_
  · rintro i x σ' H7 hx ⟨⟨x8, rfl⟩, e8⟩
    have hb := m3 _ _ _ e8 (hall6 x (List.mem_of_getElem? hx))
    refine s_when (b := false) (et_test (ev_toldNe (j := 2) (eg_toldL (j := 2) (sp := sp_law_with_step K A) (vs := [.str (Str.ofString "x-"), .str (Str.ofString "-x")]) (ea_cons ev_c (ea_cons ev_c ea_nil)) (by show 2 ≤ 100000; decide) (ev_var rfl) (.inr (.inr (.inr (.inr ⟨rfl, rfl⟩)))) (by decide) fun r H8 hr e9 H9 e10 Q E k => ⟨r, [Str.ofString "x-", Str.ofString "-x"], x, rfl, ⟨SqL.of (e10 _ _ hr), by decide +kernel, by decide, by decide +kernel⟩, m3 _ _ _ (e9.trans e10) hb, k⟩) (ev_var rfl) (ex_l (e7.trans e8) hd))) (fun q => by cases q) fun _ H8 e9 => ⟨⟨_, rfl⟩, e8.trans e9⟩
  · rintro σ' H7 ⟨⟨x8, rfl⟩, e8⟩
    exact k H7 (e7.trans e8)
theorem rd_law_places_right {K : PySem.W.Frag} {A : Ad} (vs : List V) (H : Hp) (Q : VK) (E : XK) (h : sp_law_places_right K A vs H Q E) : t_law_places_right K A { nx := fun _ H' => Q .non H', rt := Q } (start ["_law_table_here", "_law_due", "_law_far", "_law_high", "_law_wide", "_law_pairs", "_law_pair", "_law_steps", "_law_step"] vs) H := by
  obtain ⟨a, d, t, far, rfl, ha, hT, h63, hw, hd, hf, k⟩ := h
  refine q_par (ea_cons (ev_lenL (ev_var rfl) hT.sq) (ea_cons (ev_wide (ev_var rfl) hT) ea_nil)) fun H1 e1 => ?_
  rw [List.length_map]
  have m := BadPl.mono (K := K) (t := t)
  have neg : ∀ {H2 : Hp} {σ : L2.St}, Ev (tUn rNegI (tC (.int 1))) σ H2 (.int (-1)) := ev_neg ev_c
  refine q_asgG (el_lstP (n := 8) (P := BadPl K t) (eps_cons m (ep_pl ev_c ev_c rfl rfl rfl) <| eps_cons m (ep_pl ev_c ev_c rfl rfl rfl) <| eps_cons m (ep_pl neg ev_c rfl rfl ?_) <| eps_cons m (ep_pl ev_c neg rfl rfl ?_) <|
    eps_cons m (ep_pl (ev_var rfl) ev_c rfl rfl ?_) <| eps_cons m (ep_pl ev_c (ev_var rfl) rfl rfl ?_) <| eps_cons m (ep_pl (ev_int2 (g := fun i j => V.int (i + j)) (ev_var rfl) (ev_var rfl)) ev_c rfl rfl ?_) <| eps_cons m (ep_pl ev_c (ev_int2 (g := fun i j => V.int (i + j)) (ev_var rfl) (ev_var rfl)) rfl rfl ?_) <| eps_nil) (by decide) m) ?_
  · simp [inPl]
  · simp [inPl]
  · simp [inPl]
  · simp [inPl]
  · simp [inPl]; omega
  · simp [inPl]; omega
  rintro v H2 e2 ⟨p, vs, rfl, hp0, hp, hl, hall⟩
  refine q_forG (n := 8 + 6) (P := BadPl K t) (el_catP (n1 := 8) (n2 := 6) (fun H3 e3 Q q => ⟨.ref p, rfl, q p vs H3 (Ex.refl H3) (e3 _ _ hp) (by omega) fun v hv => m _ _ _ (del_ex.trans e3) (hall v hv)⟩) (el_lstP (n := 6) (eps_cons m (ep_pl (ev_int2 (g := fun i j => V.int (i - j)) neg (ev_var rfl)) ev_c rfl rfl ?_) <|
    eps_cons m (ep_pl ev_c ev_c rfl rfl rfl) <| eps_cons m (ep_pl ev_c ev_c rfl rfl rfl) <| eps_cons m (ep_pl ev_c ev_c (by decide +kernel) rfl rfl) <| eps_cons m (ep_pl ev_c ev_c rfl (by decide +kernel) rfl) <| eps_cons m (ep_plL rfl) <| eps_nil) (by decide) m) m (by decide)) m ?_
  · simp [inPl]; omega
  intro p3 vs3 H3 e3 hp3 hall3
  have e := (e1.trans e2).trans e3
  refine q_forLn ev_c (SqL.of hp3) (fun i σ' H' => (∃ x6, σ' = [some (.ref a), some (.ref d), some (.int far), some (.int ((t.length : Nat) : Int)), some (.int ((wid t : Nat) : Int)), some (.ref p), x6, none, none]) ∧ Ex H3 H') (fun H4 e4 => ⟨⟨_, rfl⟩, e4⟩) (fun i σ' H' _ hP => ex_l hP.2 (SqL.of hp3)) ?_ ?_
  · rintro i x σ' H4 hx ⟨⟨x6, rfl⟩, e4⟩
    have hb := m _ _ _ e4 (hall3 x (List.mem_of_getElem? hx))
    refine s_when (b := false) (et_test (ev_toldNe (j := 2) (eg_told (j := 2) (sp := sp_law_with_place K A) (ea_cons ev_c (ea_cons (ev_var rfl) (ea_cons (ev_var rfl) ea_nil))) (.inr (.inr (.inr (.inl ⟨rfl, rfl⟩)))) (by decide) fun H5 e5 Q E k => ⟨a, t, x, rfl, hT.mono ((e.trans e4).trans e5), m _ _ _ e5 hb, k⟩) (ev_var rfl) (ex_l (e.trans e4) hd))) (fun q => by cases q) fun _ H5 e5 => ⟨⟨_, rfl⟩, e4.trans e5⟩
  · rintro σ' H4 ⟨⟨x6, rfl⟩, e4⟩
    have e' := e.trans e4
    exact rd_pr_steps (hT.mono e') h63 hw (ex_l e' hd) hf fun H5 e5 => k H5 (e'.trans e5)
end Cc
/-! Law 5: law. -/
namespace Cc
open PySem PySem.Spec PyProof.Rows L2 Evl
theorem Nm.monoP {K : PySem.W.Frag} {b : Bool} : Mono (fun v H => Nm K H v b) := fun v H H' e h => h.mono e
theorem nm_lst {K : PySem.W.Frag} {H : Hp} {p : Addr} {vs : List V} (h : H p = some (.lst vs)) (h1 : vs.length ≤ 40000) (h2 : vs.all flatOk = true) (h3 : cntV vs = false) : Nm K H (.ref p) false :=
  .inr ⟨p, vs, rfl, SqL.of h, h1, fun y hy => (flat_ty (List.all_eq_true.mp h2 y hy)).1, h3.symm⟩
theorem nm_flat {K : PySem.W.Frag} {H : Hp} {v : V} (h : flatOk v = true) : Nm K H v false := by
  cases v with
  | non => exact .inl ⟨_, .non, by decide, rfl⟩
  | bl b => exact .inl ⟨_, .bl b, by decide, rfl⟩
  | int i => exact .inl ⟨_, .int i, by decide, rfl⟩
  | str z => exact .inl ⟨_, .str z, by decide, rfl⟩
  | _ => cases h
section
variable {K : PySem.W.Frag} {A : Ad} {σ : L2.St} {H : Hp} {vs : List V} {tr : TA}
theorem ep_nml (h : EvA tr σ H vs) (h1 : vs.length ≤ 40000) (h2 : vs.all flatOk = true) (h3 : cntV vs = false) : EvP (tLst tr) σ H (fun v H => Nm K H v false) := ep_lst h (by omega) fun p H1 e hp => nm_lst hp h1 h2 h3
theorem ep_nmc {v : V} (h : flatOk v = true) : EvP (tC v) σ H (fun v H => Nm K H v false) := ep_of ev_c fun _ _ => nm_flat h
theorem ep_nmt (h : EvA tr σ H vs) (h1 : vs.length ≤ 40000) : EvP (tTup tr) σ H (fun v H => Nm K H v false) := ep_tup h (by omega) fun p H1 e hp => .inl ⟨_, .tup (SqT.of hp), by decide, rfl⟩
theorem ep_nmd : EvP tDNewK σ H (fun v H => Nm K H v false) := fun H1 e Q q p hp => q _ _ (Ex.new hp) (.inl ⟨_, .dic upd_same, by decide, rfl⟩)
end
def sp_law (K : PySem.W.Frag) (A : Ad) : Sp := fun vs H Q _ => ∃ (a : Addr) (ns : List Int), vs = [.ref a] ∧ SqL K H a (ns.map V.int) ∧ ∀ H', Ex H H' → Q (.bl true) H'
theorem len_law {K : PySem.W.Frag} {A : Ad} : ∀ vs H Q E, sp_law K A vs H Q E → vs.length = 1 := by
  rintro _ H Q E ⟨a, ns, rfl, _⟩; rfl
abbrev t_law_end (K : PySem.W.Frag) (A : Ad) : TS :=
  (tSeq (tIfS (tTest (tOp (rNeD K) (tCall (sp_switch K A) [] E0 (tCons (tLst (tCons (tC (.str "x-")) (tCons (tC (.str "-x")) tNil))) (tCons (tTup (tCons (tC (.int 0)) (tCons (tC (.int 1)) (tCons (tC (.int 0)) (tCons (tC (.int 1)) tNil))))) tNil))) (tLst (tCons (tC (.str "-x")) (tCons (tC (.str "x-")) tNil))))) (tRet (tC (.bl false))) tNext)
  (tRet (tAndV (tOp (rEqD K) (tVar 4) (tVar 5)) (tOp (rEqD K) (tCall (sp_counts K A) [] E0 (tCons (tLst (tCons (tC (.str "")) tNil)) tNil)) (tTup (tCons (tLst (tCons (tC (.int 0)) tNil)) (tCons (tLst tNil) tNil)))))))
abbrev t_law_rest (K : PySem.W.Frag) (A : Ad) : TS :=
  (tSeq (tAsg (tCall (sp_law_table K A) [] E0 (tCons (tVar 0) tNil)) (gName 4))
  (tSeq (tAsg (tCB (rListOf K) (tCons (tVar 4) tNil)) (gName 5))
  (tSeq (tAsg (tLst (tCons (tC .non) (tCons (tTup tNil) (tCons (tTup (tCons (tC (.int 1)) tNil)) (tCons (tC (.str "1")) (tCons tDNewK (tCons (tC (.int 1)) (tCons (tLst (tCons (tC .non) tNil)) (tCons (tLst (tCons (tC (.str "1")) tNil)) (tCons (tLst (tCons (tC (.bl true)) tNil)) (tCons (tLst (tCons (tUn rNegI (tC (.int 1))) tNil)) (tCons (tLst (tCons (tOp rSubI (tUn rNegI (tC (.int 1))) (tVar 1)) tNil)) (tCons (tLst (tCons (tC (.int 1)) (tCons (tUn rNegI (tC (.int 1))) tNil))) (tCons (tLst (tCons (tLst (tCons (tC (.int 1)) tNil)) tNil)) (tCons (tLst (tCons (tC (.int 0)) (tCons (tC .non) (tCons (tC (.int 2)) tNil)))) tNil))))))))))))))) (gName 6))
  (tSeq (tFor (iRng1 (tCons (tC (.int 3)) tNil)) (gName 7) (tIfS (tNot (tB (tCB (rAll K) (tCons (tLc (iList K (tVar 6)) (gName 8) tYes (tOp (rEqD K) (tCall (sp_law_told K A) [] E0 (tCons (tC (.ref A.f_law_with_counts)) (tCons (tVar 7) (tCons (tVar 8) tNil)))) (tOp (rIxL K) (tVar 2) (tC (.int 0)))) [8]) tNil)))) (tRet (tC (.bl false))) tNext))
  (tSeq (tIfS (tOr (tNot (tB (tCall (sp_law_tables_right K A) [] E0 (tCons (tVar 4) (tCons (tOp (rIxL K) (tVar 2) (tC (.int 1))) tNil))))) (tNot (tB (tCall (sp_law_places_right K A) [] E0 (tCons (tVar 4) (tCons (tOp (rIxL K) (tVar 2) (tC (.int 2))) (tCons (tVar 1) tNil))))))) (tRet (tC (.bl false))) tNext)
  (t_law_end K A))))))
def t_law (K : PySem.W.Frag) (A : Ad) : TS :=
  (tSeq (tAsg (tOp rModI (tCall (sp_law_cell_at K A) [] E0 (tCons (tVar 0) (tCons (tC (.int 0)) tNil))) (tOp rPowI (tC (.int 10)) (tC (.int 6)))) (gName 1))
  (tSeq (tAsg (tLst tNil) (gName 2))
  (tSeq (tFor (iRng1 (tCons (tC (.int 3)) tNil)) (gName 3) (tDrop (tBM K "list" rAppend (tVar 2) (tCons (tLst (tCons (tOp rEq (tVar 3) (tC (.int 0))) (tCons (tOp rEq (tVar 3) (tC (.int 1))) (tCons (tOp rEq (tVar 3) (tC (.int 2))) (tCons (tC (.bl true)) tNil))))) tNil))))
  (t_law_rest K A))))
theorem rd_law_end {K : PySem.W.Frag} {A : Ad} {a b : Addr} {t : List Str} {Q : VK} {H : Hp} {x0 x1 x2 x3 x6 x7 x8 : Option V} (hT : Tb K H a t) (hb : SqL K H b (t.map V.str)) (k : ∀ H', Ex H H' → Q (.bl true) H') :
    t_law_end K A { nx := fun _ H' => Q .non H', rt := Q } [x0, x1, x2, x3, some (.ref a), some (.ref b), x6, x7, x8] H := by
  have ok2 : ∀ z ∈ [Str.ofString "-x", Str.ofString "x-"], okText z = true := by decide +kernel
  have sw : swBy [Str.ofString "x-", Str.ofString "-x"] 0 1 0 1 = [Str.ofString "-x", Str.ofString "x-"] := by decide +kernel
  have m1 : EvL (tCall (sp_switch K A) [] E0 (tCons (tLst (tCons (tC (.str "x-")) (tCons (tC (.str "-x")) tNil))) (tCons (tTup (tCons (tC (.int 0)) (tCons (tC (.int 1)) (tCons (tC (.int 0)) (tCons (tC (.int 1)) tNil))))) tNil))) [x0, x1, x2, x3, some (.ref a), some (.ref b), x6, x7, x8] H ([Str.ofString "-x", Str.ofString "x-"].map V.str) := fun H1 e Q q =>
    ⟨by show 2 ≤ sizeLine; decide, fun p hp => ⟨by show 4 ≤ sizeLine; decide, fun r hr => by
      have e1 : Ex H1 (upd H1 p (.lst [.str (Str.ofString "x-"), .str (Str.ofString "-x")])) := Ex.new hp
      have e2 : Ex H1 (upd (upd H1 p (.lst [.str (Str.ofString "x-"), .str (Str.ofString "-x")])) r (.tup [.int 0, .int 1, .int 0, .int 1])) := e1.trans (Ex.new hr)
      have hTb : Tb K (upd (upd H1 p (.lst [.str (Str.ofString "x-"), .str (Str.ofString "-x")])) r (.tup [.int 0, .int 1, .int 0, .int 1])) p [Str.ofString "x-", Str.ofString "-x"] := ⟨SqL.of ((Ex.new hr) _ _ upd_same), by decide +kernel, by decide, by decide +kernel⟩
      refine ⟨.ref p, .ref r, true, rfl, hTb.th, fun z => by (cases z), fun _ => ⟨p, _, some (0, 1, 0, 1), rfl, hTb, .inr ⟨r, _, rfl, SqT.of upd_same, by show 4 ≤ 40000; decide, fun y hy => ?_, rfl⟩, fun z => ?_, fun _ => ⟨r, 0, 1, 0, 1, rfl, SqT.of upd_same, by decide, by decide, by decide +kernel, by decide +kernel, fun u H' hu e3 h3 => ?_⟩⟩⟩
      · simp only [List.mem_cons, List.not_mem_nil, or_false] at hy
        rcases hy with rfl | rfl | rfl | rfl <;> exact ⟨_, .int _⟩
      · exact absurd z (by decide +kernel)
      · rw [sw] at h3
        exact q u H' (fresh_back e2 hu) (e2.trans e3) h3⟩⟩
  have g1 := ev_opLL (r := rNeD K) (z := .bl false) m1 (el_lst (ea_cons (ev_c (v := .str (Str.ofString "-x"))) (ea_cons (ev_c (v := .str (Str.ofString "x-"))) ea_nil)) (by show 2 ≤ 100000; decide)) fun p q H1 hp hq e => by
    have := rv_neD (K := K) (H := H1) (x := .ref p) (y := .ref q) (d := dS [Str.ofString "-x", Str.ofString "x-"]) (e := dS [Str.ofString "-x", Str.ofString "x-"]) (fun H2 e2 => dp_strs (SqL.of (e2 _ _ hp))) (fun H2 e2 => dp_strs (SqL.of (e2 _ _ hq))) (shaped_S ok2) (shaped_S ok2)
    rw [eqv_S] at this
    exact this
  refine q_when (b := false) (et_test g1) (fun q => by cases q) fun _ H1 e1 => ?_
  refine s_ret (ev_andV (a := true) (b := true) ?_ fun _ => ?_) fun H2 e2 => k H2 (e1.trans e2)
  · have hs : SeqAt.shaped (dS t) = true := shaped_S fun z hz => okText_of (isTab_mem hT.ok hz).2
    have := rv_eqD (K := K) (H := H1) (x := .ref a) (y := .ref b) (d := dS t) (e := dS t) (fun H2 e2 => dp_strs (ex_l (e1.trans e2) hT.sq)) (fun H2 e2 => dp_strs (ex_l (e1.trans e2) hb)) hs hs
    rw [eqv_S, decide_eq_true rfl] at this
    exact ev_op (ev_var rfl) (ev_var rfl) this
  · intro H2 e2 Q q
    refine ⟨by show 1 ≤ sizeLine; decide, fun p hp => ?_⟩
    have e3 : Ex H2 (upd H2 p (.lst [.str (Str.ofString "")])) := Ex.new hp
    have hTb : Tb K (upd H2 p (.lst [.str (Str.ofString "")])) p [Str.ofString ""] := ⟨SqL.of upd_same, by decide +kernel, by decide, by decide +kernel⟩
    refine ⟨.ref p, true, rfl, hTb.th, fun z => by (cases z), fun _ => ⟨p, _, rfl, hTb, fun r r1 r2 H3 hr _ _ _ e4 h3 h4 h5 => ?_⟩⟩
    refine ⟨by show 1 ≤ sizeLine; decide, fun s hs => ⟨by show 0 ≤ sizeLine; decide, fun u hu => ⟨by show 2 ≤ sizeLine; decide, fun w hw => ?_⟩⟩⟩
    have e5 : Ex H3 (upd H3 s (.lst [.int 0])) := Ex.new hs
    have e6 := e5.trans (Ex.new (o := .lst []) hu)
    have e7 := e6.trans (Ex.new (o := .tup [.ref s, .ref u]) hw)
    have c1 : rowsOf [Str.ofString ""] = [0] := by decide +kernel
    have c2 : colsOf [Str.ofString ""] = [] := by decide +kernel
    rw [c1] at h4
    rw [c2] at h5
    refine ⟨.tuple [dI [0], dI []], .tuple [dI [0], dI []], .tup (SqT.of (e7 _ _ h3)) (.cons (dp_ints (ns := [0]) (SqL.of (e7 _ _ h4))) (.cons (dp_ints (ns := []) (SqL.of (e7 _ _ h5))) .nil)),
      .tup (SqT.of upd_same) (.cons (dp_ints (ns := [0]) (SqL.of ((Ex.new hw) _ _ ((Ex.new hu) _ _ upd_same)))) (.cons (dp_ints (ns := []) (SqL.of ((Ex.new hw) _ _ upd_same))) .nil)), ?_, ?_, ?_⟩
    · decide +kernel
    · decide +kernel
    · have : PyData.eqv (.tuple [dI [0], dI []]) (.tuple [dI [0], dI []]) = true := by decide +kernel
      rw [this]
      exact q _ (((e3.trans e4).trans e7))
/-- the three lists of kinds -/
def Du (p : Addr) (n : Nat) (H : Hp) : Prop := ∃ ds : List Addr, H p = some (.lst (ds.map V.ref)) ∧ ds.length = n ∧ ∀ j d, ds[j]? = some d → H d = some (.lst ((kl j).map V.bl)) ∧ d ≠ p
theorem Du.mono {p : Addr} {n : Nat} {H H' : Hp} (e : Ex H H') (h : Du p n H) : Du p n H' := by
  obtain ⟨ds, h1, h2, h3⟩ := h
  exact ⟨ds, e _ _ h1, h2, fun j d hj => ⟨e _ _ (h3 j d hj).1, (h3 j d hj).2⟩⟩
theorem rd_law_rest {K : PySem.W.Frag} {A : Ad} {a p : Addr} {ns : List Int} {far : Int} {Q : VK} {H : Hp} {x3 x4 x5 x6 x7 x8 : Option V} (hs : SqL K H a (ns.map V.int)) (hf : 0 ≤ far) (hd : Du p 3 H) (k : ∀ H', Ex H H' → Q (.bl true) H') :
    t_law_rest K A { nx := fun _ H' => Q .non H', rt := Q } [some (.ref a), some (.int far), some (.ref p), x3, x4, x5, x6, x7, x8] H := by
  obtain ⟨ds, hp, hl, hds⟩ := hd
  refine ⟨_, rfl, a, ns, rfl, hs, fun b t H1 hb e1 hb1 ht h63 hw => ?_⟩
  have hT : Tb K H1 b t := ⟨SqL.of hb1, ht, by omega, by omega⟩
  refine q_asgL (el_listL (ev_var rfl) hT.sq) fun c H2 hc e2 hc2 => ?_
  have m := Nm.monoP (K := K) (b := false)
  have neg : ∀ {H2 : Hp} {σ : L2.St}, Ev (tUn rNegI (tC (.int 1))) σ H2 (.int (-1)) := ev_neg ev_c
  refine q_asgG (el_lstP (n := 14) (P := fun v H => Nm K H v false) (eps_cons m (ep_nmc rfl) <| eps_cons m (ep_nmt ea_nil (by decide)) <| eps_cons m (ep_nmt (ea_cons ev_c ea_nil) (by show 1 ≤ 40000; decide)) <| eps_cons m (ep_nmc (by decide +kernel)) <| eps_cons m ep_nmd <| eps_cons m (ep_nmc rfl) <|
    eps_cons m (ep_nml (ea_cons ev_c ea_nil) (by decide) rfl rfl) <| eps_cons m (ep_nml (ea_cons ev_c ea_nil) (by show 1 ≤ 40000; decide) (by decide +kernel) rfl) <| eps_cons m (ep_nml (ea_cons ev_c ea_nil) (by decide) rfl rfl) <|
    eps_cons m (ep_nml (vs := [.int (-1)]) (ea_cons neg ea_nil) (by decide) rfl rfl) <| eps_cons m (ep_nml (vs := [.int (-1 - far)]) (ea_cons (ev_int2 (g := fun i j => V.int (i - j)) neg (ev_var rfl)) ea_nil) (by show 1 ≤ 40000; decide) rfl ?_) <| eps_cons m (ep_nml (vs := [.int 1, .int (-1)]) (ea_cons ev_c (ea_cons neg ea_nil)) (by decide) rfl rfl) <|
    eps_cons m ?_ <| eps_cons m (ep_nml (vs := [.int 0, .non, .int 2]) (ea_cons ev_c (ea_cons ev_c (ea_cons ev_c ea_nil))) (by decide) rfl rfl) <| eps_nil) (by decide) m) ?_
  · show (decide (0 ≤ -1 - far) && true) = false
    rw [decide_eq_false (by omega)]; rfl
  · refine ep_lstP (n := 1) (P := fun v H => ∃ q ws, v = .ref q ∧ H q = some (.lst ws)) (eps_cons (fun v H H' e ⟨q, ws, h1, h2⟩ => ⟨q, ws, h1, e _ _ h2⟩) (ep_lst (ea_cons ev_c ea_nil) (by show 1 ≤ 100000; decide) fun p H1 e hp => ⟨p, _, rfl, hp⟩) eps_nil) (by decide) ?_ (fun v H H' e ⟨q, ws, h1, h2⟩ => ⟨q, ws, h1, e _ _ h2⟩)
    intro p ws H2 e2 hp hl hall
    match ws, hl with
    | [w], _ =>
      obtain ⟨q, us, rfl, hq⟩ := hall w List.mem_cons_self
      exact .inr ⟨p, _, rfl, SqL.of hp, by show 1 ≤ 40000; decide, fun y hy => by
        rw [List.mem_singleton] at hy
        subst hy
        exact ⟨_, .lst (SqL.of hq)⟩, rfl⟩
  rintro v H3 e3 ⟨w, ws, rfl, hw0, hw3, hwl, hall⟩
  have e12 := e1.trans e2
  have e13 := e12.trans e3
  obtain ⟨d0, d1, d2, rfl⟩ : ∃ d0 d1 d2, ds = [d0, d1, d2] := by
    match ds, hl with
    | [x, y, z], _ => exact ⟨x, y, z, rfl⟩
  have hk0 := e13 _ _ (hds 0 d0 rfl).1
  have hk1 := e13 _ _ (hds 1 d1 rfl).1
  have hk2 := e13 _ _ (hds 2 d2 rfl).1
  have hp3 := e13 _ _ hp
  refine q_forR1 (n := 3) (ea_cons ev_c ea_nil) (by decide) (fun i σ' H' => (∃ y7, σ' = [some (.ref a), some (.int far), some (.ref p), x3, some (.ref b), some (.ref c), some (.ref w), y7, x8]) ∧ Ex H3 H') (fun H1 e1 => ⟨⟨_, rfl⟩, e1⟩) ?_ ?_
  · rintro i σ' H4 hi ⟨⟨y7, rfl⟩, e4⟩
    have m2 : EvL (tLc (iList K (tVar 6)) (gName 8) tYes (tOp (rEqD K) (tCall (sp_law_told K A) [] E0 (tCons (tC (.ref A.f_law_with_counts)) (tCons (tVar 7) (tCons (tVar 8) tNil)))) (tOp (rIxL K) (tVar 2) (tC (.int 0)))) [8]) [some (.ref a), some (.int far), some (.ref p), x3, some (.ref b), some (.ref c), some (.ref w), some (.int (i : Nat)), x8] H4 ((ws.map fun _ => true).map V.bl) := by
      rw [List.map_map]
      refine el_mapL (c := fun v => v) (l := ws) (ev_var rfl) (by rw [List.map_id']; exact SqL.of (e4 _ _ hw3)) (by omega) (fun _ => rfl) fun v hv' => ?_
      have hv := m _ _ _ (del_ex.trans e4) (hall v hv')
      exact ev_toldEq (j := 0) (eg_told (j := 0) (sp := sp_law_with_counts K A) (ea_cons ev_c (ea_cons (ev_var rfl) (ea_cons (ev_var rfl) ea_nil))) (.inr (.inr (.inl ⟨rfl, rfl⟩))) (by decide) fun H5 e5 Q E k => ⟨(i : Nat), v, rfl, m _ _ _ e5 hv, k⟩)
        (ev_ixLi (i := 0) (ev_var rfl) ev_c (SqL.of (e4 _ _ hp3)) rfl) (SqL.of (e4 _ _ hk0))
    refine s_when (b := false) (et_is (et_not (et_B (ev_all m2))) (by rw [all_true]; rfl)) (fun q => by cases q) (fun _ H5 e5 => ⟨⟨_, rfl⟩, e4.trans e5⟩)
  · rintro σ' H4 ⟨⟨y7, rfl⟩, e4⟩
    have e24 := (e2.trans e3).trans e4
    have c1 : Ev (tCall (sp_law_tables_right K A) [] E0 (tCons (tVar 4) (tCons (tOp (rIxL K) (tVar 2) (tC (.int 1))) tNil))) [some (.ref a), some (.int far), some (.ref p), x3, some (.ref b), some (.ref c), some (.ref w), y7, x8] H4 (.bl true) :=
      ev_call (ea_cons (ev_var rfl) (ea_cons (ev_ixLi (i := 1) (ev_var rfl) ev_c (SqL.of (e4 _ _ hp3)) rfl) ea_nil)) fun H5 e5 Q q E => ⟨b, d1, t, rfl, e5 _ _ (e24 _ _ hb1), hT.mono (e24.trans e5), h63, hw, SqL.of (e5 _ _ (e4 _ _ hk1)), q⟩
    have c2 : Ev (tCall (sp_law_places_right K A) [] E0 (tCons (tVar 4) (tCons (tOp (rIxL K) (tVar 2) (tC (.int 2))) (tCons (tVar 1) tNil)))) [some (.ref a), some (.int far), some (.ref p), x3, some (.ref b), some (.ref c), some (.ref w), y7, x8] H4 (.bl true) :=
      ev_call (ea_cons (ev_var rfl) (ea_cons (ev_ixLi (i := 2) (ev_var rfl) ev_c (SqL.of (e4 _ _ hp3)) rfl) (ea_cons (ev_var rfl) ea_nil))) fun H5 e5 Q q E => ⟨b, d2, t, far, rfl, e5 _ _ (e24 _ _ hb1), hT.mono (e24.trans e5), h63, hw, SqL.of (e5 _ _ (e4 _ _ hk2)), hf, q⟩
    refine q_when (b := false) (et_or (et_not (et_B c1)) fun _ => et_not (et_B c2)) (fun q => by cases q) fun _ H5 e5 => ?_
    exact rd_law_end (hT.mono (e24.trans e5)) (ex_l ((e3.trans e4).trans e5) (SqL.of hc2)) fun H6 e6 => k H6 (((e13.trans e4).trans e5).trans e6)
theorem rd_law {K : PySem.W.Frag} {A : Ad} (vs : List V) (H : Hp) (Q : VK) (E : XK) (h : sp_law K A vs H Q E) : t_law K A { nx := fun _ H' => Q .non H', rt := Q } (start ["_law_script", "_law_far", "_law_due", "_law_k", "_law_table_here", "_law_kept", "_law_wrong", "_law_door", "_law_thing"] vs) H := by
  obtain ⟨a, ns, rfl, hs, k⟩ := h
  refine q_asg (v := .int (ns.getD 0 0 % (10 ^ (6 : Int).toNat))) (ev_int2C (C := fun _ j => 0 < j) (g := fun i j => V.int (i % j)) (ev_cellA (k := 0) (ev_var rfl) hs) (ev_int2C (C := CPow) (g := fun i j => V.int (i ^ j.toNat)) ev_c ev_c (by unfold CPow; decide)) (by decide)) fun H1 e1 => ?_
  have hf : 0 ≤ ns.getD 0 0 % (10 ^ (6 : Int).toNat) := Int.emod_nonneg _ (by decide)
  generalize ns.getD 0 0 % (10 ^ (6 : Int).toNat) = far at hf
  refine q_asgL (el_lst ea_nil (by decide)) fun p H2 hp e2 h2 => ?_
  refine q_forR1 (n := 3) (ea_cons ev_c ea_nil) (by decide) (fun i σ' H' => (∃ y3, σ' = [some (.ref a), some (.int far), some (.ref p), y3, none, none, none, none, none]) ∧ Ex H1 H' ∧ Du p i H') (fun H3 e3 => ⟨⟨_, rfl⟩, e2.trans e3, [], e3 _ _ h2, rfl, fun j d h => by simp at h⟩) ?_ ?_
  · rintro i σ' H3 hi ⟨⟨y3, rfl⟩, e3, ds, hp3, hl, hds⟩
    have hkl : [V.bl (decide ((i : Int) = 0)), V.bl (decide ((i : Int) = 1)), V.bl (decide ((i : Int) = 2)), V.bl true] = (kl i).map V.bl := by
      have hi : i < 3 := by omega
      match i, hi with
      | 0, _ => rfl
      | 1, _ => rfl
      | 2, _ => rfl
    have g := el_lst (σ := [some (.ref a), some (.int far), some (.ref p), some (.int (i : Nat)), none, none, none, none, none]) (H := H3) (ea_cons (ev_eqI (i := (i : Int)) (j := 0) (ev_var (i := 3) rfl) ev_c) (ea_cons (ev_eqI (i := (i : Int)) (j := 1) (ev_var (i := 3) rfl) ev_c) (ea_cons (ev_eqI (i := (i : Int)) (j := 2) (ev_var (i := 3) rfl) ev_c) (ea_cons (ev_c (v := .bl true)) ea_nil)))) (by show 4 ≤ 100000; decide)
    rw [hkl] at g
    refine s_appL hp3 (ev_var rfl) g (by rw [List.length_map]; omega) fun q H4 hq e4 h4 => ⟨⟨_, rfl⟩, (e3.trans e4).mut hp, ds ++ [q], by rw [List.map_append]; exact upd_same, by rw [List.length_append, hl]; rfl, fun j d hj => ?_⟩
    have npq : p ≠ q := ne_of_none hp3 hq
    by_cases hji : j < ds.length
    · rw [List.getElem?_append_left hji] at hj
      obtain ⟨z1, z2⟩ := hds j d hj
      exact ⟨(upd_ne z2).trans (e4 _ _ z1), z2⟩
    · have : j = i := by
        have := (List.getElem?_eq_some_iff.mp hj).1
        rw [List.length_append] at this
        have h1 : [q].length = 1 := rfl
        omega
      subst this
      rw [List.getElem?_append_right (by omega), hl, Nat.sub_self] at hj
      obtain rfl : q = d := by simpa using hj
      exact ⟨(upd_ne (Ne.symm npq)).trans h4, Ne.symm npq⟩
  · rintro σ' H3 ⟨⟨y3, rfl⟩, e3, hd⟩
    exact rd_law_rest (ex_l (e1.trans e3) hs) hf hd fun H4 e4 => k H4 ((e1.trans e3).trans e4)
end Cc
namespace Cw
open PySem PySem.Spec PyProof.Rows L2 Evl Cc
def topS (i : Nat) : Stmt := PySem.Challenge.pw_crosscount_k05_refused.main.body.getD i (.Pass ⟨0, 0, 0, 0⟩)
structure Gs (mg : Str → Option Value) (A : Ad) : Prop where
  CrossError : mg "CrossError" = some (.ref A.CrossError)
  BadCounts : mg "BadCounts" = some (.ref A.BadCounts)
  BadTable : mg "BadTable" = some (.ref A.BadTable)
  BadPlace : mg "BadPlace" = some (.ref A.BadPlace)
  f_switched : mg "switched" = some (.ref A.f_switched)
  f_law_with_table : mg "_law_with_table" = some (.ref A.f_law_with_table)
  f_law_with_counts : mg "_law_with_counts" = some (.ref A.f_law_with_counts)
  f_law_with_place : mg "_law_with_place" = some (.ref A.f_law_with_place)
  f_law_with_step : mg "_law_with_step" = some (.ref A.f_law_with_step)
structure Tx (K : PySem.W.Frag) (mg : Str → Option Value) (A : Ad) : Prop where
  b : Bs mg
  g : Gs mg A
  x_CrossError : Xc K A.CrossError
  x_BadCounts : Xc K A.BadCounts
  x_BadTable : Xc K A.BadTable
  x_BadPlace : Xc K A.BadPlace
section
variable {P : Program} {w : World} {K : PySem.W.Frag} {mg : Str → Option Value} {base : Heap} {A : Ad}
abbrev s_is_whole : Stmt := topS 7
abbrev N_is_whole : List Str := ["thing"]
theorem sc_is_whole : FnScope N_is_whole ["thing"] (defScope s_is_whole) := ⟨rfl, rfl, rfl, by decide +kernel, rfl, by decide +kernel, by decide +kernel⟩
theorem ok_is_whole (T : Tx K mg A) (F : Here K mg "is_whole" s_is_whole ["thing"]) : Dfn P w K mg base CX0 1 "is_whole" ["thing"] (sp_is_whole K A) := by
  refine F.ok sc_is_whole len_is_whole (fun f cdv Ar outer s H vs Q E hr h => ⟨t_is_whole K A, ?_, rd_is_whole vs H Q E h⟩)
  exact (pss_one (ps_ret (pe_and (pe_callB call_isi (by rfl) T.b.b_isinstance (by decide +kernel) (pa_cons (pv 0) (pa_cons (pe_bltn (v := .ty "int") (u := .type "int") (by rfl) T.b.b_int (by decide +kernel) (by exact rfl)) pa_nil))) (pe_one (pe_not (pe_callB call_isi (by rfl) T.b.b_isinstance (by decide +kernel) (pa_cons (pv 0) (pa_cons (pe_bltn (v := .ty "bool") (u := .type "bool") (by rfl) T.b.b_bool (by decide +kernel) (by exact rfl)) pa_nil))))))))
abbrev s_is_table : Stmt := topS 8
abbrev N_is_table : List Str := ["thing", "row"]
theorem sc_is_table : FnScope N_is_table ["thing"] (defScope s_is_table) := ⟨rfl, rfl, rfl, by decide +kernel, rfl, by decide +kernel, by decide +kernel⟩
theorem ok_is_table (T : Tx K mg A) (F : Here K mg "is_table" s_is_table ["thing"]) : Dfn P w K mg base CX0 1 "is_table" ["thing"] (sp_is_table K A) := by
  refine F.ok sc_is_table len_is_table (fun f cdv Ar outer s H vs Q E hr h => ⟨t_is_table K A, ?_, rd_is_table vs H Q E h⟩)
  exact (pss_cons (ps_if (PW.pt (pw_or (pt_not (pt_val (pe_callB call_isi (by rfl) T.b.b_isinstance (by decide +kernel) (pa_cons (pv 0) (pa_cons (pe_bltn (v := .ty "list") (u := .type "list") (by rfl) T.b.b_list (by decide +kernel) (by exact rfl)) pa_nil))))) (pw_or1 (pt_not (pt_val (pe_callB (cr_all rfl) (by rfl) T.b.b_all (by decide +kernel) (pa_cons (pe_lc (own := [("row", 1)]) (g := (gName 1)) (tt := tYes) (te := (tCB (rIsi K) (tCons (tVar 1) (tCons (tC (.ty "str")) tNil)))) rfl sc_is_table.nd (pi_list (pv 0)) (blkOk_by (N := N_is_table) (sc := defScope s_is_table) (by decide +kernel)) (fun _ _ _ _ _ => (pg_name (i := 1) sc_is_table.nd rfl (by first | exact Or.inl rfl | exact Or.inr rfl))) (fun _ _ _ _ _ => pts_nil) (fun _ _ _ _ _ => (pe_callB call_isi (by rfl) T.b.b_isinstance (by decide +kernel) (pa_cons (pv 1) (pa_cons (pe_bltn (v := .ty "str") (u := .type "str") (by rfl) T.b.b_str (by decide +kernel) (by exact rfl)) pa_nil))))) pa_nil))))))) (pss_one (ps_ret pe_bl)) pss_nil)
      (pss_one (ps_ret (pe_callB (cr_all rfl) (by rfl) T.b.b_all (by decide +kernel) (pa_cons (pe_lc (own := [("row", 1)]) (g := (gName 1)) (tt := tYes) (te := (tAndV (tOp rEq (tCB (rLenV K) (tCons (tVar 1) tNil)) (tCB (rLenV K) (tCons (tOp (rIxL K) (tVar 0) (tC (.int 0))) tNil))) (tOp rEq (tBM K "str" rStrip (tVar 1) (tCons (tC (.str "x-")) tNil)) (tC (.str ""))))) rfl sc_is_table.nd (pi_list (pv 0)) (blkOk_by (N := N_is_table) (sc := defScope s_is_table) (by decide +kernel)) (fun _ _ _ _ _ => (pg_name (i := 1) sc_is_table.nd rfl (by first | exact Or.inl rfl | exact Or.inr rfl))) (fun _ _ _ _ _ => pts_nil) (fun _ _ _ _ _ => (pe_and (pe_cmpR op_eq (pe_callB call_len (by rfl) T.b.b_len PySem.boot_len (pa_cons (pv 1) pa_nil)) (pe_callB call_len (by rfl) T.b.b_len PySem.boot_len (pa_cons (pe_ix ix_list (pv 0) pe_int (fun _ _ => rfl)) pa_nil)) (nomark _)) (pe_one (pe_cmpR op_eq (pe_bm PySem.F.plainAttrs_str PySem.F.slot_str_strip PySem.F.type_str_strip mt_stripChars (pv 1) (pa_cons pe_str pa_nil)) pe_str (nomark _)))))) pa_nil)))))
abbrev s_check_table : Stmt := topS 9
abbrev N_check_table : List Str := ["table"]
theorem sc_check_table : FnScope N_check_table ["table"] (defScope s_check_table) := ⟨rfl, rfl, rfl, by decide +kernel, rfl, by decide +kernel, by decide +kernel⟩
theorem ok_check_table (T : Tx K mg A) (F : Here K mg "check_table" s_check_table ["table"]) (D_is_table : Dfn P w K mg base CX0 1 "is_table" ["thing"] (sp_is_table K A)) : Dfn P w K mg base (L2.CX P w) 2 "check_table" ["table"] (sp_check_table K A) := by
  refine F.okX sc_check_table len_check_table (fun f cdv Ar outer s H vs Q E hr h => ⟨t_check_table K A E, ?_, rd_check_table vs H Q E h⟩)
  have hr_1 : Room 1 _ := hr.mono (by decide)
  exact (pss_one (ps_if (pt_not (pt_val (pe_d D_is_table hr_1 rfl pass0 (pa_cons (pv 0) pa_nil)))) (pss_one (ps_raise rfl (takes_of rfl rfl rfl rfl) (pmk_own PySem.F.excBase_ValueError T.x_BadTable.x T.g.BadTable T.x_BadTable.k (raises_own T.x_BadTable.b T.x_BadTable.t) (by exact rfl)))) pss_nil))
abbrev s_check_counts : Stmt := topS 10
abbrev N_check_counts : List Str := ["numbers", "number"]
theorem sc_check_counts : FnScope N_check_counts ["numbers"] (defScope s_check_counts) := ⟨rfl, rfl, rfl, by decide +kernel, rfl, by decide +kernel, by decide +kernel⟩
theorem ok_check_counts (T : Tx K mg A) (F : Here K mg "check_counts" s_check_counts ["numbers"]) (D_is_whole : Dfn P w K mg base CX0 1 "is_whole" ["thing"] (sp_is_whole K A)) : Dfn P w K mg base (L2.CX P w) 2 "check_counts" ["numbers"] (sp_check_counts K A) := by
  refine F.okX sc_check_counts len_check_counts (fun f cdv Ar outer s H vs Q E hr h => ⟨t_check_counts K A E, ?_, rd_check_counts vs H Q E h⟩)
  have hr_1 : Room 1 _ := hr.mono (by decide)
  exact (pss_one (ps_if (PW.pt (pw_or (pt_not (pt_val (pe_callB call_isi (by rfl) T.b.b_isinstance (by decide +kernel) (pa_cons (pv 0) (pa_cons (pe_bltn (v := .ty "list") (u := .type "list") (by rfl) T.b.b_list (by decide +kernel) (by exact rfl)) pa_nil))))) (pw_or1 (pt_not (pt_val (pe_callB (cr_all rfl) (by rfl) T.b.b_all (by decide +kernel) (pa_cons (pe_lc (own := [("number", 1)]) (g := (gName 1)) (tt := tYes) (te := (tAndV (tCall (sp_is_whole K A) [] E0 (tCons (tVar 1) tNil)) (tOp rGeI (tVar 1) (tC (.int 0))))) rfl sc_check_counts.nd (pi_list (pv 0)) (blkOk_by (N := N_check_counts) (sc := defScope s_check_counts) (by decide +kernel)) (fun _ _ _ _ _ => (pg_name (i := 1) sc_check_counts.nd rfl (by first | exact Or.inl rfl | exact Or.inr rfl))) (fun _ _ _ _ _ => pts_nil) (fun _ _ _ _ _ => (pe_and (pe_d D_is_whole hr_1 rfl pass0 (pa_cons (pv 1) pa_nil)) (pe_one (pe_cmpR op_ge (pv 1) pe_int (nomark _)))))) pa_nil))))))) (pss_one (ps_raise rfl (takes_of rfl rfl rfl rfl) (pmk_own PySem.F.excBase_ValueError T.x_BadCounts.x T.g.BadCounts T.x_BadCounts.k (raises_own T.x_BadCounts.b T.x_BadCounts.t) (by exact rfl)))) pss_nil))
abbrev s_width : Stmt := topS 11
abbrev N_width : List Str := ["table"]
theorem sc_width : FnScope N_width ["table"] (defScope s_width) := ⟨rfl, rfl, rfl, by decide +kernel, rfl, by decide +kernel, by decide +kernel⟩
theorem ok_width (T : Tx K mg A) (F : Here K mg "width" s_width ["table"]) : Dfn P w K mg base CX0 1 "width" ["table"] (sp_width K A) := by
  refine F.ok sc_width len_width (fun f cdv Ar outer s H vs Q E hr h => ⟨t_width K A, ?_, rd_width vs H Q E h⟩)
  exact (pss_one (ps_ret (pe_ifExp (pt_cmpR op_gt (pe_callB call_len (by rfl) T.b.b_len PySem.boot_len (pa_cons (pv 0) pa_nil)) pe_int (nomark _)) (pe_callB call_len (by rfl) T.b.b_len PySem.boot_len (pa_cons (pe_ix ix_list (pv 0) pe_int (fun _ _ => rfl)) pa_nil)) pe_int)))
abbrev s_counts_of : Stmt := topS 12
abbrev N_counts_of : List Str := ["table", "columns", "row", "place", "sign"]
theorem sc_counts_of : FnScope N_counts_of ["table"] (defScope s_counts_of) := ⟨rfl, rfl, rfl, by decide +kernel, rfl, by decide +kernel, by decide +kernel⟩
theorem ok_counts_of (T : Tx K mg A) (F : Here K mg "counts_of" s_counts_of ["table"]) (D_width : Dfn P w K mg base CX0 1 "width" ["table"] (sp_width K A)) : Dfn P w K mg base CX0 2 "counts_of" ["table"] (sp_counts_of K A) := by
  refine F.ok sc_counts_of len_counts_of (fun f cdv Ar outer s H vs Q E hr h => ⟨t_counts_of K A, ?_, rd_counts_of vs H Q E h⟩)
  have hr_1 : Room 1 _ := hr.mono (by decide)
  exact (pss_cons (ps_set (i := 1) sc_counts_of.nd rfl (by first | exact Or.inl rfl | exact Or.inr rfl) (pe_op op_rep (pe_lst (pa_cons pe_int pa_nil)) (pe_d D_width hr_1 rfl pass0 (pa_cons (pv 0) pa_nil))))
      (pss_cons (ps_for PassesOwn.never rfl (pi_list (pv 0)) (pg_name (i := 2) sc_counts_of.nd rfl (by first | exact Or.inl rfl | exact Or.inr rfl)) (pss_one (ps_for PassesOwn.never rfl (pi_enumS (by rfl) T.b.b_enumerate (pa_cons (pv 2) pa_nil)) (pg_tup rfl (pgs_cons (pg_name (i := 3) sc_counts_of.nd rfl (by first | exact Or.inl rfl | exact Or.inr rfl)) (pgs_cons (pg_name (i := 4) sc_counts_of.nd rfl (by first | exact Or.inl rfl | exact Or.inr rfl)) pgs_nil))) (pss_one (ps_if (pt_cmpR op_eq (pv 4) pe_str (nomark _)) (pss_one (ps_augS (pv 1) (pv 3) get_list pe_int ip_add set_list)) pss_nil)))))
      (pss_one (ps_ret (pe_tup (pa_cons (pe_lc (own := [("row", 2)]) (g := (gName 2)) (tt := tYes) (te := (tBM K "str" rCountS (tVar 2) (tCons (tC (.str "x")) tNil))) rfl sc_counts_of.nd (pi_list (pv 0)) (blkOk_by (N := N_counts_of) (sc := defScope s_counts_of) (by decide +kernel)) (fun _ _ _ _ _ => (pg_name (i := 2) sc_counts_of.nd rfl (by first | exact Or.inl rfl | exact Or.inr rfl))) (fun _ _ _ _ _ => pts_nil) (fun _ _ _ _ _ => (pe_bm PySem.F.plainAttrs_str PySem.F.slot_str_count PySem.F.type_str_count mt_count (pv 2) (pa_cons pe_str pa_nil)))) (pa_cons (pv 1) pa_nil)))))))
abbrev s_counts : Stmt := topS 13
abbrev N_counts : List Str := ["table"]
theorem sc_counts : FnScope N_counts ["table"] (defScope s_counts) := ⟨rfl, rfl, rfl, by decide +kernel, rfl, by decide +kernel, by decide +kernel⟩
theorem ok_counts (T : Tx K mg A) (F : Here K mg "counts" s_counts ["table"]) (D_check_table : Dfn P w K mg base (L2.CX P w) 2 "check_table" ["table"] (sp_check_table K A)) (D_counts_of : Dfn P w K mg base CX0 2 "counts_of" ["table"] (sp_counts_of K A)) : Dfn P w K mg base (L2.CX P w) 3 "counts" ["table"] (sp_counts K A) := by
  refine F.okX sc_counts len_counts (fun f cdv Ar outer s H vs Q E hr h => ⟨t_counts K A E, ?_, rd_counts vs H Q E h⟩)
  have hr_2 : Room 2 _ := hr.mono (by decide)
  exact (pss_cons (ps_expr (pe_d D_check_table hr_2 rfl (passes_call (takes_of rfl rfl rfl rfl) (fun _ _ _ _ h => h)) (pa_cons (pv 0) pa_nil)))
      (pss_one (ps_ret (pe_d D_counts_of hr_2 rfl pass0 (pa_cons (pv 0) pa_nil)))))
abbrev s_is_switch : Stmt := topS 14
abbrev N_is_switch : List Str := ["table", "step", "place", "one", "other", "first", "second"]
theorem sc_is_switch : FnScope N_is_switch ["table", "step"] (defScope s_is_switch) := ⟨rfl, rfl, rfl, by decide +kernel, rfl, by decide +kernel, by decide +kernel⟩
theorem ok_is_switch (T : Tx K mg A) (F : Here K mg "is_switch" s_is_switch ["table", "step"]) (D_is_whole : Dfn P w K mg base CX0 1 "is_whole" ["thing"] (sp_is_whole K A)) (D_width : Dfn P w K mg base CX0 1 "width" ["table"] (sp_width K A)) : Dfn P w K mg base CX0 2 "is_switch" ["table", "step"] (sp_is_switch K A) := by
  refine F.ok sc_is_switch len_is_switch (fun f cdv Ar outer s H vs Q E hr h => ⟨t_is_switch K A, ?_, rd_is_switch vs H Q E h⟩)
  have hr_1 : Room 1 _ := hr.mono (by decide)
  exact (pss_cons (ps_if (PW.pt (pw_or (pt_not (pt_val (pe_callB call_isi (by rfl) T.b.b_isinstance (by decide +kernel) (pa_cons (pv 1) (pa_cons (pe_bltn (v := .ty "tuple") (u := .type "tuple") (by rfl) T.b.b_tuple (by decide +kernel) (by exact rfl)) pa_nil))))) (pw_or (pt_cmpR op_ne (pe_callB call_len (by rfl) T.b.b_len PySem.boot_len (pa_cons (pv 1) pa_nil)) pe_int (nomark _)) (pw_or1 (pt_not (pt_val (pe_callB (cr_all rfl) (by rfl) T.b.b_all (by decide +kernel) (pa_cons (pe_lc (own := [("place", 2)]) (g := (gName 2)) (tt := tYes) (te := (tCall (sp_is_whole K A) [] E0 (tCons (tVar 2) tNil))) rfl sc_is_switch.nd (pi_tup (pv 1)) (blkOk_by (N := N_is_switch) (sc := defScope s_is_switch) (by decide +kernel)) (fun _ _ _ _ _ => (pg_name (i := 2) sc_is_switch.nd rfl (by first | exact Or.inl rfl | exact Or.inr rfl))) (fun _ _ _ _ _ => pts_nil) (fun _ _ _ _ _ => (pe_d D_is_whole hr_1 rfl pass0 (pa_cons (pv 2) pa_nil)))) pa_nil)))))))) (pss_one (ps_ret pe_bl)) pss_nil)
      (pss_cons (ps_asg (pv 1) (pg_tup rfl (pgs_cons (pg_name (i := 3) sc_is_switch.nd rfl (by first | exact Or.inl rfl | exact Or.inr rfl)) (pgs_cons (pg_name (i := 4) sc_is_switch.nd rfl (by first | exact Or.inl rfl | exact Or.inr rfl)) (pgs_cons (pg_name (i := 5) sc_is_switch.nd rfl (by first | exact Or.inl rfl | exact Or.inr rfl)) (pgs_cons (pg_name (i := 6) sc_is_switch.nd rfl (by first | exact Or.inl rfl | exact Or.inr rfl)) pgs_nil))))))
      (pss_cons (ps_if (PW.pt (pw_or (pt_not (pt_chain op_le op_lt pe_int (pv 3) (pe_callB call_len (by rfl) T.b.b_len PySem.boot_len (pa_cons (pv 0) pa_nil)))) (pw_or1 (pt_not (pt_chain op_le op_lt pe_int (pv 4) (pe_callB call_len (by rfl) T.b.b_len PySem.boot_len (pa_cons (pv 0) pa_nil))))))) (pss_one (ps_ret pe_bl)) pss_nil)
      (pss_cons (ps_if (PW.pt (pw_or (pt_not (pt_chain op_le op_lt pe_int (pv 5) (pe_d D_width hr_1 rfl pass0 (pa_cons (pv 0) pa_nil)))) (pw_or1 (pt_not (pt_chain op_le op_lt pe_int (pv 6) (pe_d D_width hr_1 rfl pass0 (pa_cons (pv 0) pa_nil))))))) (pss_one (ps_ret pe_bl)) pss_nil)
      (pss_one (ps_ret (pe_cmpR op_eq (pe_op op_add_str (pe_op op_add_str (pe_op op_add_str (pe_ix ix_str (pe_ix ix_list (pv 0) (pv 3) (fun _ _ => rfl)) (pv 5) (fun _ _ => rfl)) (pe_ix ix_str (pe_ix ix_list (pv 0) (pv 3) (fun _ _ => rfl)) (pv 6) (fun _ _ => rfl))) (pe_ix ix_str (pe_ix ix_list (pv 0) (pv 4) (fun _ _ => rfl)) (pv 5) (fun _ _ => rfl))) (pe_ix ix_str (pe_ix ix_list (pv 0) (pv 4) (fun _ _ => rfl)) (pv 6) (fun _ _ => rfl))) pe_str (nomark _))))))))
abbrev s_put : Stmt := topS 15
abbrev N_put : List Str := ["row", "first", "second", "signs", "found"]
theorem sc_put : FnScope N_put ["row", "first", "second", "signs"] (defScope s_put) := ⟨rfl, rfl, rfl, by decide +kernel, rfl, by decide +kernel, by decide +kernel⟩
theorem ok_put (T : Tx K mg A) (F : Here K mg "put" s_put ["row", "first", "second", "signs"]) : Dfn P w K mg base CX0 1 "put" ["row", "first", "second", "signs"] (sp_put K A) := by
  refine F.ok sc_put len_put (fun f cdv Ar outer s H vs Q E hr h => ⟨t_put K A, ?_, rd_put vs H Q E h⟩)
  exact (pss_cons (ps_set (i := 4) sc_put.nd rfl (by first | exact Or.inl rfl | exact Or.inr rfl) (pe_op op_add_str (pe_op op_add_str (pe_slice sl_str (pv 0) po_none (po_some (pv 1))) (pe_ix ix_str (pv 3) pe_int (fun _ _ => rfl))) (pe_slice sl_str (pv 0) (po_some (pe_op op_add (pv 1) pe_int)) po_none)))
      (pss_one (ps_ret (pe_op op_add_str (pe_op op_add_str (pe_slice sl_str (pv 4) po_none (po_some (pv 2))) (pe_ix ix_str (pv 3) pe_int (fun _ _ => rfl))) (pe_slice sl_str (pv 4) (po_some (pe_op op_add (pv 2) pe_int)) po_none)))))
abbrev s_switched_by : Stmt := topS 16
abbrev N_switched_by : List Str := ["table", "step", "one", "other", "first", "second", "found"]
theorem sc_switched_by : FnScope N_switched_by ["table", "step"] (defScope s_switched_by) := ⟨rfl, rfl, rfl, by decide +kernel, rfl, by decide +kernel, by decide +kernel⟩
theorem ok_switched_by (T : Tx K mg A) (F : Here K mg "switched_by" s_switched_by ["table", "step"]) (D_put : Dfn P w K mg base CX0 1 "put" ["row", "first", "second", "signs"] (sp_put K A)) : Dfn P w K mg base CX0 2 "switched_by" ["table", "step"] (sp_switched_by K A) := by
  refine F.ok sc_switched_by len_switched_by (fun f cdv Ar outer s H vs Q E hr h => ⟨t_switched_by K A, ?_, rd_switched_by vs H Q E h⟩)
  have hr_1 : Room 1 _ := hr.mono (by decide)
  exact (pss_cons (ps_asg (pv 1) (pg_tup rfl (pgs_cons (pg_name (i := 2) sc_switched_by.nd rfl (by first | exact Or.inl rfl | exact Or.inr rfl)) (pgs_cons (pg_name (i := 3) sc_switched_by.nd rfl (by first | exact Or.inl rfl | exact Or.inr rfl)) (pgs_cons (pg_name (i := 4) sc_switched_by.nd rfl (by first | exact Or.inl rfl | exact Or.inr rfl)) (pgs_cons (pg_name (i := 5) sc_switched_by.nd rfl (by first | exact Or.inl rfl | exact Or.inr rfl)) pgs_nil))))))
      (pss_cons (ps_set (i := 6) sc_switched_by.nd rfl (by first | exact Or.inl rfl | exact Or.inr rfl) (pe_callTy call_list_of (by rfl) T.b.b_list (by decide +kernel) (pa_cons (pv 0) pa_nil)))
      (pss_cons (ps_asg (pe_d D_put hr_1 rfl pass0 (pa_cons (pe_ix ix_list (pv 0) (pv 2) (fun _ _ => rfl)) (pa_cons (pv 4) (pa_cons (pv 5) (pa_cons pe_str pa_nil))))) (pg_sub (pv 6) (pv 2) set_list))
      (pss_cons (ps_asg (pe_d D_put hr_1 rfl pass0 (pa_cons (pe_ix ix_list (pv 0) (pv 3) (fun _ _ => rfl)) (pa_cons (pv 4) (pa_cons (pv 5) (pa_cons pe_str pa_nil))))) (pg_sub (pv 6) (pv 3) set_list))
      (pss_one (ps_ret (pv 6)))))))
abbrev s_switch : Stmt := topS 17
abbrev N_switch : List Str := ["table", "step"]
theorem sc_switch : FnScope N_switch ["table", "step"] (defScope s_switch) := ⟨rfl, rfl, rfl, by decide +kernel, rfl, by decide +kernel, by decide +kernel⟩
theorem ok_switch (T : Tx K mg A) (F : Here K mg "switch" s_switch ["table", "step"]) (D_check_table : Dfn P w K mg base (L2.CX P w) 2 "check_table" ["table"] (sp_check_table K A)) (D_is_switch : Dfn P w K mg base CX0 2 "is_switch" ["table", "step"] (sp_is_switch K A)) (D_switched_by : Dfn P w K mg base CX0 2 "switched_by" ["table", "step"] (sp_switched_by K A)) : Dfn P w K mg base (L2.CX P w) 3 "switch" ["table", "step"] (sp_switch K A) := by
  refine F.okX sc_switch len_switch (fun f cdv Ar outer s H vs Q E hr h => ⟨t_switch K A E, ?_, rd_switch vs H Q E h⟩)
  have hr_2 : Room 2 _ := hr.mono (by decide)
  exact (pss_cons (ps_expr (pe_d D_check_table hr_2 rfl (passes_call (takes_of rfl rfl rfl rfl) (fun _ _ _ _ h => h)) (pa_cons (pv 0) pa_nil)))
      (pss_cons (ps_if (pt_not (pt_val (pe_d D_is_switch hr_2 rfl pass0 (pa_cons (pv 0) (pa_cons (pv 1) pa_nil))))) (pss_one (ps_raise rfl (takes_of rfl rfl rfl rfl) (pmk_own PySem.F.excBase_ValueError T.x_BadPlace.x T.g.BadPlace T.x_BadPlace.k (raises_own T.x_BadPlace.b T.x_BadPlace.t) (by exact rfl)))) pss_nil)
      (pss_one (ps_ret (pe_d D_switched_by hr_2 rfl pass0 (pa_cons (pv 0) (pa_cons (pv 1) pa_nil)))))))
abbrev s_filled : Stmt := topS 29
abbrev N_filled : List Str := ["rows", "columns", "bar", "left", "table", "row", "place", "order", "marks", "column"]
theorem sc_filled : FnScope N_filled ["rows", "columns"] (defScope s_filled) := ⟨rfl, rfl, rfl, by decide +kernel, rfl, by decide +kernel, by decide +kernel⟩
theorem ok_filled (T : Tx K mg A) (F : Here K mg "filled" s_filled ["rows", "columns"]) (D_check_counts : Dfn P w K mg base (L2.CX P w) 2 "check_counts" ["numbers"] (sp_check_counts K A)) : Dfn P w K mg base (L2.CX P w) 3 "filled" ["rows", "columns"] (sp_filled K A) := by
  refine F.okX sc_filled len_filled (fun f cdv Ar outer s H vs Q E hr h => ⟨t_filled K A E, ?_, rd_filled vs H Q E h⟩)
  have hr_2 : Room 2 _ := hr.mono (by decide)
  exact (pss_cons (ps_expr (pe_d D_check_counts hr_2 rfl (passes_call (takes_of rfl rfl rfl rfl) (fun _ _ _ _ h => h)) (pa_cons (pv 0) pa_nil)))
      (pss_cons (ps_expr (pe_d D_check_counts hr_2 rfl (passes_call (takes_of rfl rfl rfl rfl) (fun _ _ _ _ h => h)) (pa_cons (pv 1) pa_nil)))
      pss_never))
abbrev s_fixed : Stmt := topS 32
abbrev N_fixed : List Str := ["table", "row", "column", "came", "end", "some", "place", "others", "marks", "line", "one", "other"]
theorem sc_fixed : FnScope N_fixed ["table", "row", "column"] (defScope s_fixed) := ⟨rfl, rfl, rfl, by decide +kernel, rfl, by decide +kernel, by decide +kernel⟩
theorem ok_fixed (T : Tx K mg A) (F : Here K mg "fixed" s_fixed ["table", "row", "column"]) (D_check_table : Dfn P w K mg base (L2.CX P w) 2 "check_table" ["table"] (sp_check_table K A)) (D_is_whole : Dfn P w K mg base CX0 1 "is_whole" ["thing"] (sp_is_whole K A)) (D_width : Dfn P w K mg base CX0 1 "width" ["table"] (sp_width K A)) : Dfn P w K mg base (L2.CX P w) 3 "fixed" ["table", "row", "column"] (sp_fixed K A) := by
  refine F.okX sc_fixed len_fixed (fun f cdv Ar outer s H vs Q E hr h => ⟨t_fixed K A E, ?_, rd_fixed vs H Q E h⟩)
  have hr_1 : Room 1 _ := hr.mono (by decide)
  have hr_2 : Room 2 _ := hr.mono (by decide)
  exact (pss_cons (ps_expr (pe_d D_check_table hr_2 rfl (passes_call (takes_of rfl rfl rfl rfl) (fun _ _ _ _ h => h)) (pa_cons (pv 0) pa_nil)))
      (pss_cons (ps_if (PW.pt (pw_or (pt_not (pt_val (pe_d D_is_whole hr_1 rfl pass0 (pa_cons (pv 1) pa_nil)))) (pw_or (pt_not (pt_chain op_le op_lt pe_int (pv 1) (pe_callB call_len (by rfl) T.b.b_len PySem.boot_len (pa_cons (pv 0) pa_nil)))) (pw_or (pt_not (pt_val (pe_d D_is_whole hr_1 rfl pass0 (pa_cons (pv 2) pa_nil)))) (pw_or1 (pt_not (pt_chain op_le op_lt pe_int (pv 2) (pe_d D_width hr_1 rfl pass0 (pa_cons (pv 0) pa_nil))))))))) (pss_one (ps_raise rfl (takes_of rfl rfl rfl rfl) (pmk_own PySem.F.excBase_ValueError T.x_BadPlace.x T.g.BadPlace T.x_BadPlace.k (raises_own T.x_BadPlace.b T.x_BadPlace.t) (by exact rfl)))) pss_nil)
      pss_never))
abbrev s_switched : Stmt := topS 36
abbrev N_switched : List Str := ["one", "other", "mine", "theirs", "turned", "place", "many", "ahead", "behind", "which", "step"]
theorem sc_switched : FnScope N_switched ["one", "other"] (defScope s_switched) := ⟨rfl, rfl, rfl, by decide +kernel, rfl, by decide +kernel, by decide +kernel⟩
theorem ok_switched (T : Tx K mg A) (F : Here K mg "switched" s_switched ["one", "other"]) (D_check_table : Dfn P w K mg base (L2.CX P w) 2 "check_table" ["table"] (sp_check_table K A)) (D_width : Dfn P w K mg base CX0 1 "width" ["table"] (sp_width K A)) : Dfn P w K mg base (L2.CX P w) 3 "switched" ["one", "other"] (sp_switched K A) := by
  refine F.okX sc_switched len_switched (fun f cdv Ar outer s H vs Q E hr h => ⟨t_switched K A E, ?_, rd_switched vs H Q E h⟩)
  have hr_1 : Room 1 _ := hr.mono (by decide)
  have hr_2 : Room 2 _ := hr.mono (by decide)
  exact (pss_cons (ps_expr (pe_d D_check_table hr_2 rfl (passes_call (takes_of rfl rfl rfl rfl) (fun _ _ _ _ h => h)) (pa_cons (pv 0) pa_nil)))
      (pss_cons (ps_expr (pe_d D_check_table hr_2 rfl (passes_call (takes_of rfl rfl rfl rfl) (fun _ _ _ _ h => h)) (pa_cons (pv 1) pa_nil)))
      (pss_cons (ps_if (PW.pt (pw_or (pt_cmpR op_ne (pe_callB call_len (by rfl) T.b.b_len PySem.boot_len (pa_cons (pv 0) pa_nil)) (pe_callB call_len (by rfl) T.b.b_len PySem.boot_len (pa_cons (pv 1) pa_nil)) (nomark _)) (pw_or1 (pt_cmpR op_ne (pe_d D_width hr_1 rfl pass0 (pa_cons (pv 0) pa_nil)) (pe_d D_width hr_1 rfl pass0 (pa_cons (pv 1) pa_nil)) (nomark _))))) (pss_one (ps_raise rfl (takes_of rfl rfl rfl rfl) (pmk_own PySem.F.excBase_ValueError T.x_BadTable.x T.g.BadTable T.x_BadTable.k (raises_own T.x_BadTable.b T.x_BadTable.t) (by exact rfl)))) pss_nil)
      pss_never)))
abbrev s_law_cell_at : Stmt := topS 38
abbrev N_law_cell_at : List Str := ["_law_script", "_law_k"]
theorem sc_law_cell_at : FnScope N_law_cell_at ["_law_script", "_law_k"] (defScope s_law_cell_at) := ⟨rfl, rfl, rfl, by decide +kernel, rfl, by decide +kernel, by decide +kernel⟩
theorem ok_law_cell_at (T : Tx K mg A) (F : Here K mg "_law_cell_at" s_law_cell_at ["_law_script", "_law_k"]) : Dfn P w K mg base CX0 1 "_law_cell_at" ["_law_script", "_law_k"] (sp_law_cell_at K A) := by
  refine F.ok sc_law_cell_at len_law_cell_at (fun f cdv Ar outer s H vs Q E hr h => ⟨t_law_cell_at K A, ?_, rd_law_cell_at vs H Q E h⟩)
  exact (pss_cons (ps_if (pt_cmpR op_lt (pv 1) (pe_callB call_len (by rfl) T.b.b_len PySem.boot_len (pa_cons (pv 0) pa_nil)) (nomark _)) (pss_one (ps_ret (pe_ix ix_list (pv 0) (pv 1) (fun _ _ => rfl)))) pss_nil)
      (pss_one (ps_ret pe_int)))
abbrev s_law_draw : Stmt := topS 39
abbrev N_law_draw : List Str := ["_law_cell", "_law_k", "_law_many", "_law_primes"]
theorem sc_law_draw : FnScope N_law_draw ["_law_cell", "_law_k", "_law_many"] (defScope s_law_draw) := ⟨rfl, rfl, rfl, by decide +kernel, rfl, by decide +kernel, by decide +kernel⟩
theorem ok_law_draw (T : Tx K mg A) (F : Here K mg "_law_draw" s_law_draw ["_law_cell", "_law_k", "_law_many"]) : Dfn P w K mg base CX0 1 "_law_draw" ["_law_cell", "_law_k", "_law_many"] (sp_law_draw K A) := by
  refine F.ok sc_law_draw len_law_draw (fun f cdv Ar outer s H vs Q E hr h => ⟨t_law_draw K A, ?_, rd_law_draw vs H Q E h⟩)
  exact (pss_cons (ps_set (i := 3) sc_law_draw.nd rfl (by first | exact Or.inl rfl | exact Or.inr rfl) (pe_tup (pa_cons pe_int (pa_cons pe_int (pa_cons pe_int (pa_cons pe_int (pa_cons pe_int (pa_cons pe_int (pa_cons pe_int (pa_cons pe_int (pa_cons pe_int (pa_cons pe_int (pa_cons pe_int (pa_cons pe_int (pa_cons pe_int (pa_cons pe_int (pa_cons pe_int (pa_cons pe_int pa_nil))))))))))))))))))
      (pss_one (ps_ret (pe_op op_mod (pe_op op_mod (pe_op op_add (pe_op op_mul (pv 0) pe_int) (pe_op op_mul (pv 1) pe_int)) (pe_ix ix_tup (pv 3) (pe_op op_mod (pv 1) pe_int) (fun _ _ => rfl))) (pv 2)))))
abbrev s_law_table : Stmt := topS 40
abbrev N_law_table : List Str := ["_law_script", "_law_kind", "_law_wide", "_law_own", "_law_table_here", "_law_cell", "_law_left", "_law_row", "_law_place", "_law_digit", "_law_sign"]
theorem sc_law_table : FnScope N_law_table ["_law_script"] (defScope s_law_table) := ⟨rfl, rfl, rfl, by decide +kernel, rfl, by decide +kernel, by decide +kernel⟩
theorem ok_law_table (T : Tx K mg A) (F : Here K mg "_law_table" s_law_table ["_law_script"]) (D_law_draw : Dfn P w K mg base CX0 1 "_law_draw" ["_law_cell", "_law_k", "_law_many"] (sp_law_draw K A)) (D_law_cell_at : Dfn P w K mg base CX0 1 "_law_cell_at" ["_law_script", "_law_k"] (sp_law_cell_at K A)) : Dfn P w K mg base CX0 2 "_law_table" ["_law_script"] (sp_law_table K A) := by
  refine F.ok sc_law_table len_law_table (fun f cdv Ar outer s H vs Q E hr h => ⟨t_law_table K A, ?_, rd_law_table vs H Q E h⟩)
  have hr_1 : Room 1 _ := hr.mono (by decide)
  exact (pss_cons (ps_set (i := 0) sc_law_table.nd rfl (by first | exact Or.inl rfl | exact Or.inr rfl) (pe_slice sl_list (pv 0) po_none (po_some pe_int)))
      (pss_cons (ps_par (i := 1) (j := 2) rfl sc_law_table.nd rfl rfl (by decide) rfl rfl (pa_cons (pe_d D_law_draw hr_1 rfl pass0 (pa_cons (pe_d D_law_cell_at hr_1 rfl pass0 (pa_cons (pv 0) (pa_cons pe_int pa_nil))) (pa_cons pe_int (pa_cons pe_int pa_nil)))) (pa_cons (pe_d D_law_draw hr_1 rfl pass0 (pa_cons (pe_d D_law_cell_at hr_1 rfl pass0 (pa_cons (pv 0) (pa_cons pe_int pa_nil))) (pa_cons pe_int (pa_cons pe_int pa_nil)))) pa_nil)) (by rfl))
      (pss_cons (ps_set (i := 3) sc_law_table.nd rfl (by first | exact Or.inl rfl | exact Or.inr rfl) (pe_cmpR op_eq (pe_d D_law_draw hr_1 rfl pass0 (pa_cons (pe_d D_law_cell_at hr_1 rfl pass0 (pa_cons (pv 0) (pa_cons pe_int pa_nil))) (pa_cons pe_int (pa_cons pe_int pa_nil)))) pe_int (nomark _)))
      (pss_cons (ps_if (pt_cmpR op_eq (pv 1) pe_int (nomark _)) (pss_one (ps_set (i := 2) sc_law_table.nd rfl (by first | exact Or.inl rfl | exact Or.inr rfl) (pe_op op_add (pv 2) pe_int))) pss_nil)
      (pss_cons (ps_set (i := 4) sc_law_table.nd rfl (by first | exact Or.inl rfl | exact Or.inr rfl) (pe_lst pa_nil))
      (pss_cons (ps_for PassesOwn.never rfl (pi_list (pv 0)) (pg_name (i := 5) sc_law_table.nd rfl (by first | exact Or.inl rfl | exact Or.inr rfl)) (pss_cons (ps_par (i := 6) (j := 7) rfl sc_law_table.nd rfl rfl (by decide) rfl rfl (pa_cons (pv 5) (pa_cons pe_str pa_nil)) (by rfl))
      (pss_cons (ps_for PassesOwn.never rfl (pi_range1 (by rfl) T.b.b_range (pa_cons (pv 2) pa_nil)) (pg_name (i := 8) sc_law_table.nd rfl (by first | exact Or.inl rfl | exact Or.inr rfl)) (pss_cons (ps_set (i := 9) sc_law_table.nd rfl (by first | exact Or.inl rfl | exact Or.inr rfl) (pe_ifExp (pt_val (pv 3)) (pe_op op_mod (pv 6) pe_int) (pe_d D_law_draw hr_1 rfl pass0 (pa_cons (pe_op op_add (pe_op op_mul (pv 5) (pe_op op_add (pv 8) pe_int)) (pe_op op_mul pe_int (pv 8))) (pa_cons (pe_op op_add (pe_op op_mod (pv 8) pe_int) pe_int) (pa_cons pe_int pa_nil))))))
      (pss_cons (ps_set (i := 10) sc_law_table.nd rfl (by first | exact Or.inl rfl | exact Or.inr rfl) (pe_cmpR op_eq (pe_op op_mod (pv 9) pe_int) pe_int (nomark _)))
      (pss_cons (ps_if (PW.pt (pw_or (pt_cmpR op_eq (pv 1) pe_int (nomark _)) (pw_or1 (pt_cmpR op_eq (pv 1) pe_int (nomark _))))) (pss_one (ps_set (i := 10) sc_law_table.nd rfl (by first | exact Or.inl rfl | exact Or.inr rfl) (pe_cmpR op_eq (pe_cmpR op_gt (pv 9) pe_int (nomark _)) (pe_cmpR op_eq (pv 1) pe_int (nomark _)) (nomark _)))) pss_nil)
      (pss_cons (ps_if (pt_cmpR op_eq (pv 1) pe_int (nomark _)) (pss_one (ps_set (i := 10) sc_law_table.nd rfl (by first | exact Or.inl rfl | exact Or.inr rfl) (pe_cmpR op_le (pv 8) (pe_op op_mod (pv 5) (pe_op op_add (pv 2) pe_int)) (nomark _)))) pss_nil)
      (pss_cons (ps_set (i := 7) sc_law_table.nd rfl (by first | exact Or.inl rfl | exact Or.inr rfl) (pe_op op_add_str (pv 7) (pe_ifExp (pt_val (pv 10)) pe_str pe_str)))
      (pss_one (ps_set (i := 6) sc_law_table.nd rfl (by first | exact Or.inl rfl | exact Or.inr rfl) (pe_op op_fdiv (pv 6) pe_int)))))))))
      (pss_one (ps_expr (pe_bm PySem.F.plainAttrs_list PySem.F.slot_list_append PySem.F.type_list_append mt_append (pv 4) (pa_cons (pv 7) pa_nil)))))))
      (pss_cons (ps_if (pt_cmpR op_eq (pe_d D_law_draw hr_1 rfl pass0 (pa_cons (pe_d D_law_cell_at hr_1 rfl pass0 (pa_cons (pv 0) (pa_cons pe_int pa_nil))) (pa_cons pe_int (pa_cons pe_int pa_nil)))) pe_int (nomark _)) (pss_one (ps_set (i := 4) sc_law_table.nd rfl (by first | exact Or.inl rfl | exact Or.inr rfl) (pe_lc (own := [("_law_place", 8)]) (g := (gName 8)) (tt := tYes) (te := (tBM K "str" (rJoin K) (tC (.str "")) (tCons (tLc (iList K (tVar 4)) (gName 7) tYes (tOp rIxS (tVar 7) (tVar 8)) [7]) tNil))) rfl sc_law_table.nd (pi_range1 (by rfl) T.b.b_range (pa_cons (pv 2) pa_nil)) (blkOk_by (N := N_law_table) (sc := defScope s_law_table) (by decide +kernel)) (fun _ _ _ _ _ => (pg_name (i := 8) sc_law_table.nd rfl (by first | exact Or.inl rfl | exact Or.inr rfl))) (fun _ _ _ _ _ => pts_nil) (fun _ _ _ _ _ => (pe_bm PySem.F.plainAttrs_str PySem.F.slot_str_join PySem.F.type_str_join mt_join pe_str (pa_cons (pe_lc (own := [("_law_row", 7)]) (g := (gName 7)) (tt := tYes) (te := (tOp rIxS (tVar 7) (tVar 8))) rfl sc_law_table.nd (pi_list (pv 4)) (blkOk_by (by with_unfolding_all rfl)) (fun _ _ _ _ _ => (pg_name (i := 7) sc_law_table.nd rfl (by first | exact Or.inl rfl | exact Or.inr rfl))) (fun _ _ _ _ _ => pts_nil) (fun _ _ _ _ _ => (pe_ix ix_str (pv 7) (pv 8) (fun _ _ => rfl)))) pa_nil)))))) pss_nil)
      (pss_one (ps_ret (pv 4))))))))))
abbrev s_law_with_table : Stmt := topS 47
abbrev N_law_with_table : List Str := ["_law_door", "_law_table_here"]
theorem sc_law_with_table : FnScope N_law_with_table ["_law_door", "_law_table_here"] (defScope s_law_with_table) := ⟨rfl, rfl, rfl, by decide +kernel, rfl, by decide +kernel, by decide +kernel⟩
theorem ok_law_with_table (T : Tx K mg A) (F : Here K mg "_law_with_table" s_law_with_table ["_law_door", "_law_table_here"]) (D_counts : Dfn P w K mg base (L2.CX P w) 3 "counts" ["table"] (sp_counts K A)) (D_switch : Dfn P w K mg base (L2.CX P w) 3 "switch" ["table", "step"] (sp_switch K A)) (D_switched : Dfn P w K mg base (L2.CX P w) 3 "switched" ["one", "other"] (sp_switched K A)) (D_fixed : Dfn P w K mg base (L2.CX P w) 3 "fixed" ["table", "row", "column"] (sp_fixed K A)) : Dfn P w K mg base (L2.CX P w) 4 "_law_with_table" ["_law_door", "_law_table_here"] (sp_law_with_table K A) := by
  refine F.okX sc_law_with_table len_law_with_table (fun f cdv Ar outer s H vs Q E hr h => ⟨t_law_with_table K A E, ?_, rd_law_with_table vs H Q E h⟩)
  have hr_3 : Room 3 _ := hr.mono (by decide)
  exact (pss_cons (ps_if (pt_cmpR op_lt (pv 0) pe_int (nomark _)) (pss_one (ps_ret (pe_ifExp (pt_cmpR op_eq (pv 0) pe_int (nomark _)) (pe_d D_counts hr_3 rfl (passes_call (takes_of rfl rfl rfl rfl) (fun _ _ _ _ h => h)) (pa_cons (pv 1) pa_nil)) (pe_d D_switch hr_3 rfl (passes_call (takes_of rfl rfl rfl rfl) (fun _ _ _ _ h => h)) (pa_cons (pv 1) (pa_cons pe_non pa_nil)))))) pss_nil)
      (pss_cons (ps_if (pt_cmpR op_lt (pv 0) pe_int (nomark _)) (pss_one (ps_ret (pe_ifExp (pt_cmpR op_eq (pv 0) pe_int (nomark _)) (pe_d D_switched hr_3 rfl (passes_call (takes_of rfl rfl rfl rfl) (fun _ _ _ _ h => h)) (pa_cons (pv 1) (pa_cons (pe_lst (pa_cons pe_str pa_nil)) pa_nil))) (pe_d D_switched hr_3 rfl (passes_call (takes_of rfl rfl rfl rfl) (fun _ _ _ _ h => h)) (pa_cons (pe_lst (pa_cons pe_str pa_nil)) (pa_cons (pv 1) pa_nil)))))) pss_nil)
      (pss_one (ps_ret (pe_d D_fixed hr_3 rfl (passes_call (takes_of rfl rfl rfl rfl) (fun _ _ _ _ h => h)) (pa_cons (pv 1) (pa_cons (pe_un un_neg pe_int) (pa_cons pe_non pa_nil))))))))
abbrev s_law_with_counts : Stmt := topS 48
abbrev N_law_with_counts : List Str := ["_law_door", "_law_numbers"]
theorem sc_law_with_counts : FnScope N_law_with_counts ["_law_door", "_law_numbers"] (defScope s_law_with_counts) := ⟨rfl, rfl, rfl, by decide +kernel, rfl, by decide +kernel, by decide +kernel⟩
theorem ok_law_with_counts (T : Tx K mg A) (F : Here K mg "_law_with_counts" s_law_with_counts ["_law_door", "_law_numbers"]) (D_filled : Dfn P w K mg base (L2.CX P w) 3 "filled" ["rows", "columns"] (sp_filled K A)) : Dfn P w K mg base (L2.CX P w) 4 "_law_with_counts" ["_law_door", "_law_numbers"] (sp_law_with_counts K A) := by
  refine F.okX sc_law_with_counts len_law_with_counts (fun f cdv Ar outer s H vs Q E hr h => ⟨t_law_with_counts K A E, ?_, rd_law_with_counts vs H Q E h⟩)
  have hr_3 : Room 3 _ := hr.mono (by decide)
  exact (pss_one (ps_ret (pe_ifExp (pt_cmpR op_eq (pv 0) pe_int (nomark _)) (pe_d D_filled hr_3 rfl (passes_call (takes_of rfl rfl rfl rfl) (fun _ _ _ _ h => h)) (pa_cons (pv 1) (pa_cons (pe_lst (pa_cons pe_int pa_nil)) pa_nil))) (pe_ifExp (pt_cmpR op_eq (pv 0) pe_int (nomark _)) (pe_d D_filled hr_3 rfl (passes_call (takes_of rfl rfl rfl rfl) (fun _ _ _ _ h => h)) (pa_cons (pe_lst (pa_cons pe_int (pa_cons pe_int pa_nil))) (pa_cons (pv 1) pa_nil))) (pe_d D_filled hr_3 rfl (passes_call (takes_of rfl rfl rfl rfl) (fun _ _ _ _ h => h)) (pa_cons (pv 1) (pa_cons pe_non pa_nil)))))))
abbrev s_law_with_place : Stmt := topS 49
abbrev N_law_with_place : List Str := ["_law_table_here", "_law_pair"]
theorem sc_law_with_place : FnScope N_law_with_place ["_law_table_here", "_law_pair"] (defScope s_law_with_place) := ⟨rfl, rfl, rfl, by decide +kernel, rfl, by decide +kernel, by decide +kernel⟩
theorem ok_law_with_place (T : Tx K mg A) (F : Here K mg "_law_with_place" s_law_with_place ["_law_table_here", "_law_pair"]) (D_fixed : Dfn P w K mg base (L2.CX P w) 3 "fixed" ["table", "row", "column"] (sp_fixed K A)) : Dfn P w K mg base (L2.CX P w) 4 "_law_with_place" ["_law_table_here", "_law_pair"] (sp_law_with_place K A) := by
  refine F.okX sc_law_with_place len_law_with_place (fun f cdv Ar outer s H vs Q E hr h => ⟨t_law_with_place K A E, ?_, rd_law_with_place vs H Q E h⟩)
  have hr_3 : Room 3 _ := hr.mono (by decide)
  exact (pss_one (ps_ret (pe_d D_fixed hr_3 rfl (passes_call (takes_of rfl rfl rfl rfl) (fun _ _ _ _ h => h)) (pa_cons (pv 0) (pa_cons (pe_ix ix_tup (pv 1) pe_int (fun _ _ => rfl)) (pa_cons (pe_ix ix_tup (pv 1) pe_int (fun _ _ => rfl)) pa_nil))))))
abbrev s_law_with_step : Stmt := topS 50
abbrev N_law_with_step : List Str := ["_law_table_here", "_law_step"]
theorem sc_law_with_step : FnScope N_law_with_step ["_law_table_here", "_law_step"] (defScope s_law_with_step) := ⟨rfl, rfl, rfl, by decide +kernel, rfl, by decide +kernel, by decide +kernel⟩
theorem ok_law_with_step (T : Tx K mg A) (F : Here K mg "_law_with_step" s_law_with_step ["_law_table_here", "_law_step"]) (D_switch : Dfn P w K mg base (L2.CX P w) 3 "switch" ["table", "step"] (sp_switch K A)) : Dfn P w K mg base (L2.CX P w) 4 "_law_with_step" ["_law_table_here", "_law_step"] (sp_law_with_step K A) := by
  refine F.okX sc_law_with_step len_law_with_step (fun f cdv Ar outer s H vs Q E hr h => ⟨t_law_with_step K A E, ?_, rd_law_with_step vs H Q E h⟩)
  have hr_3 : Room 3 _ := hr.mono (by decide)
  exact (pss_one (ps_ret (pe_d D_switch hr_3 rfl (passes_call (takes_of rfl rfl rfl rfl) (fun _ _ _ _ h => h)) (pa_cons (pv 0) (pa_cons (pv 1) pa_nil)))))
abbrev s_law_kinds : Stmt := topS 46
abbrev N_law_kinds : List Str := ["_law_error", "_law_found"]
theorem sc_law_kinds : FnScope N_law_kinds ["_law_error"] (defScope s_law_kinds) := ⟨rfl, rfl, rfl, by decide +kernel, rfl, by decide +kernel, by decide +kernel⟩
theorem fp_law_kinds (T : Tx K mg A) (kd : Kd K A) {f : Addr} {fd : FuncData} (F : Fun K "_law_kinds" "_law_kinds" s_law_kinds f fd) {j : Nat} (hj : j < 3) {a : Addr} {oe : Obj} (hz : Zc (.ref (clsAt A j)) none oe) (hf : ∃ vs, oe.data = .fields vs) : FnP P w K mg base 1 f fd ["_law_error"] (a, oe) (sp_law_kinds K A a j) := by
  refine fnP_of F sc_law_kinds len_law_kinds fun cdv Ar outer s H vs Q E hr h => ⟨t_law_kinds K A (clsAt A j) a, ?_, rd_law_kinds kd hj vs H Q E h⟩
  have hi : ∀ {X : Cx}, X.K = K → (a, oe) ∈ X.pn → CallR X (.builtin "isinstance") (rIsE K (clsAt A j) a) := fun {X} e m => by
    subst e
    exact call_isP m (kd.ec j hj) hz hf
  exact (pss_cons (ps_set (i := 1) sc_law_kinds.nd rfl (by first | exact Or.inl rfl | exact Or.inr rfl) (pe_lst
      (pa_cons (pe_callB (hi rfl List.mem_cons_self) (by rfl) T.b.b_isinstance (by decide +kernel) (pa_cons (pv 0) (pa_cons (pe_glob (v := .ref A.BadCounts) rfl T.g.BadCounts (by exact rfl)) pa_nil)))
      (pa_cons (pe_callB (hi rfl List.mem_cons_self) (by rfl) T.b.b_isinstance (by decide +kernel) (pa_cons (pv 0) (pa_cons (pe_glob (v := .ref A.BadTable) rfl T.g.BadTable (by exact rfl)) pa_nil)))
      (pa_cons (pe_callB (hi rfl List.mem_cons_self) (by rfl) T.b.b_isinstance (by decide +kernel) (pa_cons (pv 0) (pa_cons (pe_glob (v := .ref A.BadPlace) rfl T.g.BadPlace (by exact rfl)) pa_nil))) pa_nil)))))
    (pss_one (ps_ret (pe_op op_cat (pv 1) (pe_lst (pa_cons (pe_callB (hi rfl List.mem_cons_self) (by rfl) T.b.b_isinstance (by decide +kernel) (pa_cons (pv 0) (pa_cons (pe_bltn (v := .ty "ValueError") (u := .type "ValueError") (by rfl) T.b.b_ValueError (by decide +kernel) (by exact rfl)) pa_nil))) pa_nil))))))
abbrev s_law_told : Stmt := topS 51
abbrev N_law_told : List Str := ["_law_ask", "_law_one", "_law_other", "_law_error"]
theorem sc_law_told : FnScope N_law_told ["_law_ask", "_law_one", "_law_other"] (defScope s_law_told) := ⟨rfl, rfl, rfl, by decide +kernel, rfl, by decide +kernel, by decide +kernel⟩
theorem held_of {sp : Sp} {k : Nat} {x : Str} {ps : List Str} {f : Addr} (D : Dfn P w K mg base (L2.CX P w) k x ps sp) (h : mg x = some (.ref f)) (hk : k ≤ 5) : HeldX P w K mg base 5 f sp := by
  obtain ⟨g, fd, F, hm, kp, hb⟩ := D.ex
  rw [h] at hm
  obtain rfl := Value.ref.inj (Option.some.inj hm)
  exact ⟨fd, ps, F.mono hk, kp, hb⟩
theorem ok_law_told (T : Tx K mg A) (kd : Kd K A) (F : Here K mg "_law_told" s_law_told ["_law_ask", "_law_one", "_law_other"]) (G : Here K mg "_law_kinds" s_law_kinds ["_law_error"]) (hs : ∀ f sp, Sx K A f sp → HeldX P w K mg base 5 f sp) : Dfn P w K mg base CX0 6 "_law_told" ["_law_ask", "_law_one", "_law_other"] (sp_law_told K A) := by
  refine F.ok sc_law_told len_law_told (fun f cdv Ar outer s H vs Q E hr h => ⟨t_law_told K A, ?_, rd_law_told kd vs H Q E h⟩)
  have hr_5 : Room 5 _ := hr.mono (by decide)
  obtain ⟨g, gd, Fg, hg, hb⟩ := G.ex
  refine pss_cons (ps_try_as (i := 3) (tb := fun W => tDrop (tCallAX 0 (Sx K A) (WE W) (tCons (tVar 1) (tCons (tVar 2) tNil)))) (ts := tsTold K A) (Wout := fun _ _ _ _ => False) rfl rfl sc_law_told.nd rfl rfl (x := "CrossError") (c := .ref A.CrossError) ⟨by rfl, by decide, .inl T.g.CrossError⟩ takes_none5 (fun W pn xe tk pso => ?_) (fun a oe cls d pn hz hf => ?_)) (pss_one (ps_ret (pe_lst pa_nil)))
  · exact pss_one (ps_expr (pe_callAX (i := 0) (k := 5) hs hr_5 rfl (by first | exact Or.inl rfl | exact Or.inr rfl) (fun σ => passAt tk σ) (pa_cons (pv 1) (pa_cons (pv 2) pa_nil))))
  · refine pss_one (ps_ret ⟨fun pins s σ H Q I h => ?_⟩)
    obtain ⟨j, hj, rfl, rfl, q⟩ := h
    refine PE.run (t := tCall (sp_law_kinds K A a j) [] E0 (tCons (tVar 3) tNil)) ?_ pins s σ H Q I q
    exact pe_callP List.mem_cons_self (fp_law_kinds T kd Fg hj hz hf) (k := 1) ⟨(hr_5.mono (by decide : 1 ≤ 5)).dp, (hr_5.mono (by decide : 1 ≤ 5)).un⟩ (by rfl) hg Fg.kp hb (pa_cons (pv 3) pa_nil)
abbrev s_law_tables_right : Stmt := topS 52
abbrev N_law_tables_right : List Str := ["_law_table_here", "_law_due", "_law_high", "_law_wide", "_law_bad", "_law_at", "_law_strange", "_law_door", "_law_thing", "_law_wider", "_law_row", "_law_other"]
theorem sc_law_tables_right : FnScope N_law_tables_right ["_law_table_here", "_law_due"] (defScope s_law_tables_right) := ⟨rfl, rfl, rfl, by decide +kernel, rfl, by decide +kernel, by decide +kernel⟩
theorem ok_law_tables_right (T : Tx K mg A) (F : Here K mg "_law_tables_right" s_law_tables_right ["_law_table_here", "_law_due"]) (D_law_told : Dfn P w K mg base CX0 6 "_law_told" ["_law_ask", "_law_one", "_law_other"] (sp_law_told K A)) : Dfn P w K mg base CX0 7 "_law_tables_right" ["_law_table_here", "_law_due"] (sp_law_tables_right K A) := by
  refine F.ok sc_law_tables_right len_law_tables_right (fun f cdv Ar outer s H vs Q E hr h => ⟨t_law_tables_right K A, ?_, rd_law_tables_right vs H Q E h⟩)
  have hr_0 : Room 0 _ := hr.mono (by decide)
  have hr_6 : Room 6 _ := hr.mono (by decide)
  exact (pss_cons (ps_par (i := 2) (j := 3) rfl sc_law_tables_right.nd rfl rfl (by decide) rfl rfl (pa_cons (pe_callB call_len (by rfl) T.b.b_len PySem.boot_len (pa_cons (pv 0) pa_nil)) (pa_cons (pe_ifExp (pt_cmpR (op_neD (hu_D hr_0)) (pv 0) (pe_lst pa_nil) (nomark _)) (pe_callB call_len (by rfl) T.b.b_len PySem.boot_len (pa_cons (pe_ix ix_list (pv 0) pe_int (fun _ _ => rfl)) pa_nil)) pe_int) pa_nil)) (by rfl))
      (pss_cons (ps_set (i := 4) sc_law_tables_right.nd rfl (by first | exact Or.inl rfl | exact Or.inr rfl) (pe_lst (pa_cons pe_non (pa_cons (pe_tup pa_nil) (pa_cons (pe_tup (pa_cons pe_str pa_nil)) (pa_cons pe_str (pa_cons pe_dnewK (pa_cons pe_int (pa_cons (pe_lst (pa_cons pe_non pa_nil)) (pa_cons (pe_lst (pa_cons pe_int pa_nil)) (pa_cons (pe_lst (pa_cons pe_str pa_nil)) (pa_cons (pe_lst (pa_cons pe_str pa_nil)) (pa_cons (pe_lst (pa_cons pe_str pa_nil)) (pa_cons (pe_lst (pa_cons pe_str (pa_cons pe_str pa_nil))) (pa_cons (pe_lst (pa_cons pe_str (pa_cons pe_str pa_nil))) (pa_cons (pe_lst (pa_cons (pe_lst (pa_cons pe_str pa_nil)) pa_nil)) pa_nil))))))))))))))))
      (pss_cons (ps_set (i := 4) sc_law_tables_right.nd rfl (by first | exact Or.inl rfl | exact Or.inr rfl) (pe_op op_cat (pv 4) (pe_lst (pa_cons (pe_lst (pa_cons pe_str pa_nil)) (pa_cons (pe_lst (pa_cons pe_bl pa_nil)) pa_nil)))))
      (pss_cons (ps_for PassesOwn.never rfl (pi_range3 (by rfl) T.b.b_range (pa_cons pe_int (pa_cons (pv 2) (pa_cons (pe_op op_add pe_int (pe_op op_fdiv (pv 2) pe_int)) pa_nil)))) (pg_name (i := 5) sc_law_tables_right.nd rfl (by first | exact Or.inl rfl | exact Or.inr rfl)) (pss_cons (ps_set (i := 6) sc_law_tables_right.nd rfl (by first | exact Or.inl rfl | exact Or.inr rfl) (pe_ix ix_tup (pe_tup (pa_cons pe_non (pa_cons (pe_op op_add_str (pe_ix ix_list (pv 0) (pv 5) (fun _ _ => rfl)) pe_str) (pa_cons pe_int (pa_cons (pe_op op_add_str (pe_ix ix_list (pv 0) (pv 5) (fun _ _ => rfl)) pe_str) pa_nil))))) (pe_op op_mod (pv 5) pe_int) (fun _ _ => rfl)))
      (pss_one (ps_expr (pe_bm PySem.F.plainAttrs_list PySem.F.slot_list_append PySem.F.type_list_append mt_append (pv 4) (pa_cons (pe_op op_cat (pe_op op_cat (pe_slice sl_list (pv 0) po_none (po_some (pv 5))) (pe_lst (pa_cons (pv 6) pa_nil))) (pe_slice sl_list (pv 0) (po_some (pe_op op_add (pv 5) pe_int)) po_none)) pa_nil))))))
      (pss_cons (ps_for PassesOwn.never rfl (pi_range3 (by rfl) T.b.b_range (pa_cons pe_int (pa_cons (pv 2) (pa_cons (pe_op op_add pe_int (pe_op op_fdiv (pv 2) pe_int)) pa_nil)))) (pg_name (i := 5) sc_law_tables_right.nd rfl (by first | exact Or.inl rfl | exact Or.inr rfl)) (pss_one (ps_expr (pe_bm PySem.F.plainAttrs_list PySem.F.slot_list_append PySem.F.type_list_append mt_append (pv 4) (pa_cons (pe_op op_cat (pe_op op_cat (pe_slice sl_list (pv 0) po_none (po_some (pv 5))) (pe_lst (pa_cons (pe_op op_add_str (pe_ix ix_list (pv 0) (pv 5) (fun _ _ => rfl)) pe_str) pa_nil))) (pe_slice sl_list (pv 0) (po_some (pe_op op_add (pv 5) pe_int)) po_none)) pa_nil)))))
      (pss_cons (ps_for PassesOwn.never rfl (pi_range1 (by rfl) T.b.b_range (pa_cons pe_int pa_nil)) (pg_name (i := 7) sc_law_tables_right.nd rfl (by first | exact Or.inl rfl | exact Or.inr rfl)) (pss_one (ps_if (pt_not (pt_val (pe_callB (cr_all rfl) (by rfl) T.b.b_all (by decide +kernel) (pa_cons (pe_lc (own := [("_law_thing", 8)]) (g := (gName 8)) (tt := tYes) (te := (tOp (rEqD K) (tCall (sp_law_told K A) [] E0 (tCons (tC (.ref A.f_law_with_table)) (tCons (tVar 7) (tCons (tVar 8) tNil)))) (tVar 1))) rfl sc_law_tables_right.nd (pi_list (pv 4)) (blkOk_by (N := N_law_tables_right) (sc := defScope s_law_tables_right) (by decide +kernel)) (fun _ _ _ _ _ => (pg_name (i := 8) sc_law_tables_right.nd rfl (by first | exact Or.inl rfl | exact Or.inr rfl))) (fun _ _ _ _ _ => pts_nil) (fun _ _ _ _ _ => (pe_cmpR (op_eqD (hu_D hr_0)) (pe_d D_law_told hr_6 rfl pass0 (pa_cons (pe_glob (v := .ref A.f_law_with_table) rfl T.g.f_law_with_table (by exact rfl)) (pa_cons (pv 7) (pa_cons (pv 8) pa_nil)))) (pv 1) (nomark _)))) pa_nil)))) (pss_one (ps_ret pe_bl)) pss_nil)))
      (pss_cons (ps_set (i := 9) sc_law_tables_right.nd rfl (by first | exact Or.inl rfl | exact Or.inr rfl) (pe_ifExp (pt_cmpR (op_neD (hu_D hr_0)) (pv 0) (pe_lst pa_nil) (nomark _)) (pe_lc (own := [("_law_row", 10)]) (g := (gName 10)) (tt := tYes) (te := (tOp rAddSt (tVar 10) (tC (.str "-")))) rfl sc_law_tables_right.nd (pi_list (pv 0)) (blkOk_by (N := N_law_tables_right) (sc := defScope s_law_tables_right) (by decide +kernel)) (fun _ _ _ _ _ => (pg_name (i := 10) sc_law_tables_right.nd rfl (by first | exact Or.inl rfl | exact Or.inr rfl))) (fun _ _ _ _ _ => pts_nil) (fun _ _ _ _ _ => (pe_op op_add_str (pv 10) pe_str))) (pe_lst (pa_cons pe_str pa_nil))))
      (pss_cons (ps_for PassesOwn.never rfl (pi_tup (pe_tup (pa_cons (pe_op op_cat (pv 0) (pe_lst (pa_cons (pe_op op_mulS pe_str (pv 3)) pa_nil))) (pa_cons (pv 9) pa_nil)))) (pg_name (i := 11) sc_law_tables_right.nd rfl (by first | exact Or.inl rfl | exact Or.inr rfl)) (pss_one (ps_if (PW.pt (pw_or (pt_cmpR (op_neD (hu_D hr_0)) (pe_d D_law_told hr_6 rfl pass0 (pa_cons (pe_glob (v := .ref A.f_switched) rfl T.g.f_switched (by exact rfl)) (pa_cons (pv 0) (pa_cons (pv 11) pa_nil)))) (pv 1) (nomark _)) (pw_or1 (pt_cmpR (op_neD (hu_D hr_0)) (pe_d D_law_told hr_6 rfl pass0 (pa_cons (pe_glob (v := .ref A.f_switched) rfl T.g.f_switched (by exact rfl)) (pa_cons (pv 11) (pa_cons (pv 0) pa_nil)))) (pv 1) (nomark _))))) (pss_one (ps_ret pe_bl)) pss_nil)))
      (pss_one (ps_ret pe_bl))))))))))
abbrev s_law_places_right : Stmt := topS 53
abbrev N_law_places_right : List Str := ["_law_table_here", "_law_due", "_law_far", "_law_high", "_law_wide", "_law_pairs", "_law_pair", "_law_steps", "_law_step"]
theorem sc_law_places_right : FnScope N_law_places_right ["_law_table_here", "_law_due", "_law_far"] (defScope s_law_places_right) := ⟨rfl, rfl, rfl, by decide +kernel, rfl, by decide +kernel, by decide +kernel⟩
theorem ok_law_places_right (T : Tx K mg A) (F : Here K mg "_law_places_right" s_law_places_right ["_law_table_here", "_law_due", "_law_far"]) (D_law_told : Dfn P w K mg base CX0 6 "_law_told" ["_law_ask", "_law_one", "_law_other"] (sp_law_told K A)) : Dfn P w K mg base CX0 7 "_law_places_right" ["_law_table_here", "_law_due", "_law_far"] (sp_law_places_right K A) := by
  refine F.ok sc_law_places_right len_law_places_right (fun f cdv Ar outer s H vs Q E hr h => ⟨t_law_places_right K A, ?_, rd_law_places_right vs H Q E h⟩)
  have hr_0 : Room 0 _ := hr.mono (by decide)
  have hr_6 : Room 6 _ := hr.mono (by decide)
  exact (pss_cons (ps_par (i := 3) (j := 4) rfl sc_law_places_right.nd rfl rfl (by decide) rfl rfl (pa_cons (pe_callB call_len (by rfl) T.b.b_len PySem.boot_len (pa_cons (pv 0) pa_nil)) (pa_cons (pe_ifExp (pt_cmpR (op_neD (hu_D hr_0)) (pv 0) (pe_lst pa_nil) (nomark _)) (pe_callB call_len (by rfl) T.b.b_len PySem.boot_len (pa_cons (pe_ix ix_list (pv 0) pe_int (fun _ _ => rfl)) pa_nil)) pe_int) pa_nil)) (by rfl))
      (pss_cons (ps_set (i := 5) sc_law_places_right.nd rfl (by first | exact Or.inl rfl | exact Or.inr rfl) (pe_lst (pa_cons (pe_tup (pa_cons pe_non (pa_cons pe_int pa_nil))) (pa_cons (pe_tup (pa_cons pe_int (pa_cons pe_non pa_nil))) (pa_cons (pe_tup (pa_cons (pe_un un_neg pe_int) (pa_cons pe_int pa_nil))) (pa_cons (pe_tup (pa_cons pe_int (pa_cons (pe_un un_neg pe_int) pa_nil))) (pa_cons (pe_tup (pa_cons (pv 3) (pa_cons pe_int pa_nil))) (pa_cons (pe_tup (pa_cons pe_int (pa_cons (pv 4) pa_nil))) (pa_cons (pe_tup (pa_cons (pe_op op_add (pv 3) (pv 2)) (pa_cons pe_int pa_nil))) (pa_cons (pe_tup (pa_cons pe_int (pa_cons (pe_op op_add (pv 4) (pv 2)) pa_nil))) pa_nil))))))))))
      (pss_cons (ps_for PassesOwn.never rfl (pi_list (pe_op op_cat (pv 5) (pe_lst (pa_cons (pe_tup (pa_cons (pe_op op_sub (pe_un un_neg pe_int) (pv 2)) (pa_cons pe_int pa_nil))) (pa_cons (pe_tup (pa_cons pe_bl (pa_cons pe_int pa_nil))) (pa_cons (pe_tup (pa_cons pe_int (pa_cons pe_bl pa_nil))) (pa_cons (pe_tup (pa_cons pe_str (pa_cons pe_int pa_nil))) (pa_cons (pe_tup (pa_cons pe_int (pa_cons pe_str pa_nil))) (pa_cons (pe_tup (pa_cons (pe_lst (pa_cons pe_int pa_nil)) (pa_cons pe_int pa_nil))) pa_nil))))))))) (pg_name (i := 6) sc_law_places_right.nd rfl (by first | exact Or.inl rfl | exact Or.inr rfl)) (pss_one (ps_if (pt_cmpR (op_neD (hu_D hr_0)) (pe_d D_law_told hr_6 rfl pass0 (pa_cons (pe_glob (v := .ref A.f_law_with_place) rfl T.g.f_law_with_place (by exact rfl)) (pa_cons (pv 0) (pa_cons (pv 6) pa_nil)))) (pv 1) (nomark _)) (pss_one (ps_ret pe_bl)) pss_nil)))
      (pss_cons (ps_set (i := 7) sc_law_places_right.nd rfl (by first | exact Or.inl rfl | exact Or.inr rfl) (pe_lst (pa_cons pe_non (pa_cons pe_int (pa_cons (pe_tup pa_nil) (pa_cons (pe_tup (pa_cons pe_int (pa_cons pe_int (pa_cons pe_int pa_nil)))) (pa_cons (pe_tup (pa_cons pe_int (pa_cons pe_int (pa_cons pe_int (pa_cons pe_int (pa_cons pe_int pa_nil)))))) (pa_cons (pe_lst (pa_cons pe_int (pa_cons pe_int (pa_cons pe_int (pa_cons pe_int pa_nil))))) (pa_cons (pe_tup (pa_cons pe_int (pa_cons pe_int (pa_cons pe_int (pa_cons pe_int pa_nil))))) (pa_cons (pe_tup (pa_cons pe_int (pa_cons pe_int (pa_cons pe_int (pa_cons (pv 4) pa_nil))))) (pa_cons (pe_tup (pa_cons pe_int (pa_cons (pv 3) (pa_cons pe_int (pa_cons pe_int pa_nil))))) pa_nil)))))))))))
      (pss_cons (ps_set (i := 7) sc_law_places_right.nd rfl (by first | exact Or.inl rfl | exact Or.inr rfl) (pe_op op_cat (pv 7) (pe_lst (pa_cons (pe_tup (pa_cons (pe_un un_neg pe_int) (pa_cons pe_int (pa_cons pe_int (pa_cons pe_int pa_nil))))) (pa_cons (pe_tup (pa_cons pe_int (pa_cons pe_int (pa_cons (pe_un un_neg pe_int) (pa_cons pe_int pa_nil))))) (pa_cons (pe_tup (pa_cons pe_int (pa_cons pe_int (pa_cons pe_int (pa_cons (pe_un un_neg pe_int) pa_nil))))) (pa_cons (pe_tup (pa_cons pe_bl (pa_cons pe_int (pa_cons pe_int (pa_cons pe_int pa_nil))))) (pa_cons (pe_tup (pa_cons pe_str (pa_cons pe_int (pa_cons pe_int (pa_cons pe_int pa_nil))))) pa_nil))))))))
      (pss_cons (ps_expr (pe_bm PySem.F.plainAttrs_list PySem.F.slot_list_append PySem.F.type_list_append mt_append (pv 7) (pa_cons (pe_tup (pa_cons pe_int (pa_cons pe_int (pa_cons pe_int (pa_cons (pe_op op_add (pv 4) (pv 2)) pa_nil))))) pa_nil)))
      (pss_cons (ps_if (pt_not (pt_val (pe_callB (cr_all rfl) (by rfl) T.b.b_all (by decide +kernel) (pa_cons (pe_lc (own := [("_law_step", 8)]) (g := (gName 8)) (tt := tYes) (te := (tOp (rEqD K) (tCall (sp_law_told K A) [] E0 (tCons (tC (.ref A.f_law_with_step)) (tCons (tVar 0) (tCons (tVar 8) tNil)))) (tVar 1))) rfl sc_law_places_right.nd (pi_list (pv 7)) (blkOk_by (N := N_law_places_right) (sc := defScope s_law_places_right) (by decide +kernel)) (fun _ _ _ _ _ => (pg_name (i := 8) sc_law_places_right.nd rfl (by first | exact Or.inl rfl | exact Or.inr rfl))) (fun _ _ _ _ _ => pts_nil) (fun _ _ _ _ _ => (pe_cmpR (op_eqD (hu_D hr_0)) (pe_d D_law_told hr_6 rfl pass0 (pa_cons (pe_glob (v := .ref A.f_law_with_step) rfl T.g.f_law_with_step (by exact rfl)) (pa_cons (pv 0) (pa_cons (pv 8) pa_nil)))) (pv 1) (nomark _)))) pa_nil)))) (pss_one (ps_ret pe_bl)) pss_nil)
      (pss_cons (ps_for PassesOwn.never rfl (pi_tup (pe_tup (pa_cons (pe_tup (pa_cons pe_int (pa_cons pe_int (pa_cons pe_int (pa_cons pe_int pa_nil))))) (pa_cons (pe_tup (pa_cons pe_int (pa_cons pe_int (pa_cons pe_int (pa_cons pe_int pa_nil))))) (pa_cons (pe_tup (pa_cons pe_int (pa_cons pe_int (pa_cons pe_int (pa_cons pe_int pa_nil))))) (pa_cons (pe_tup (pa_cons pe_bl (pa_cons pe_int (pa_cons pe_int (pa_cons pe_int pa_nil))))) (pa_cons (pe_tup (pa_cons pe_int (pa_cons (pe_un un_neg pe_int) (pa_cons pe_int (pa_cons pe_int pa_nil))))) (pa_cons (pe_tup (pa_cons pe_int (pa_cons pe_int (pa_cons pe_int (pa_cons (pe_un un_neg pe_int) pa_nil))))) pa_nil)))))))) (pg_name (i := 8) sc_law_places_right.nd rfl (by first | exact Or.inl rfl | exact Or.inr rfl)) (pss_one (ps_if (pt_cmpR (op_neD (hu_D hr_0)) (pe_d D_law_told hr_6 rfl pass0 (pa_cons (pe_glob (v := .ref A.f_law_with_step) rfl T.g.f_law_with_step (by exact rfl)) (pa_cons (pe_lst (pa_cons pe_str (pa_cons pe_str pa_nil))) (pa_cons (pv 8) pa_nil)))) (pv 1) (nomark _)) (pss_one (ps_ret pe_bl)) pss_nil)))
      (pss_one (ps_ret pe_bl))))))))))
abbrev s_law : Stmt := topS 54
abbrev N_law : List Str := ["_law_script", "_law_far", "_law_due", "_law_k", "_law_table_here", "_law_kept", "_law_wrong", "_law_door", "_law_thing"]
theorem sc_law : FnScope N_law ["_law_script"] (defScope s_law) := ⟨rfl, rfl, rfl, by decide +kernel, rfl, by decide +kernel, by decide +kernel⟩
theorem ok_law (T : Tx K mg A) {f : Addr} {fd : FuncData} (F : Fun K "law" "law" s_law f fd) (D_law_cell_at : Dfn P w K mg base CX0 1 "_law_cell_at" ["_law_script", "_law_k"] (sp_law_cell_at K A)) (D_law_table : Dfn P w K mg base CX0 2 "_law_table" ["_law_script"] (sp_law_table K A)) (D_law_told : Dfn P w K mg base CX0 6 "_law_told" ["_law_ask", "_law_one", "_law_other"] (sp_law_told K A)) (D_law_tables_right : Dfn P w K mg base CX0 7 "_law_tables_right" ["_law_table_here", "_law_due"] (sp_law_tables_right K A)) (D_law_places_right : Dfn P w K mg base CX0 7 "_law_places_right" ["_law_table_here", "_law_due", "_law_far"] (sp_law_places_right K A)) (D_switch : Dfn P w K mg base (L2.CX P w) 3 "switch" ["table", "step"] (sp_switch K A)) (D_counts : Dfn P w K mg base (L2.CX P w) 3 "counts" ["table"] (sp_counts K A)) : FnOk P w K mg base CX0 8 f fd ["_law_script"] (sp_law K A) := by
  refine F.ok sc_law len_law (fun cdv Ar outer s H vs Q E hr h => ⟨t_law K A, ?_, rd_law vs H Q E h⟩)
  have hr_0 : Room 0 _ := hr.mono (by decide)
  have hr_1 : Room 1 _ := hr.mono (by decide)
  have hr_2 : Room 2 _ := hr.mono (by decide)
  have hr_3 : Room 3 _ := hr.mono (by decide)
  have hr_6 : Room 6 _ := hr.mono (by decide)
  have hr_7 : Room 7 _ := hr.mono (by decide)
  exact (pss_cons (ps_set (i := 1) sc_law.nd rfl (by first | exact Or.inl rfl | exact Or.inr rfl) (pe_op op_mod (pe_d D_law_cell_at hr_1 rfl pass0 (pa_cons (pv 0) (pa_cons pe_int pa_nil))) (pe_op op_pow pe_int pe_int)))
      (pss_cons (ps_set (i := 2) sc_law.nd rfl (by first | exact Or.inl rfl | exact Or.inr rfl) (pe_lst pa_nil))
      (pss_cons (ps_for PassesOwn.never rfl (pi_range1 (by rfl) T.b.b_range (pa_cons pe_int pa_nil)) (pg_name (i := 3) sc_law.nd rfl (by first | exact Or.inl rfl | exact Or.inr rfl)) (pss_one (ps_expr (pe_bm PySem.F.plainAttrs_list PySem.F.slot_list_append PySem.F.type_list_append mt_append (pv 2) (pa_cons (pe_lst (pa_cons (pe_cmpR op_eq (pv 3) pe_int (nomark _)) (pa_cons (pe_cmpR op_eq (pv 3) pe_int (nomark _)) (pa_cons (pe_cmpR op_eq (pv 3) pe_int (nomark _)) (pa_cons pe_bl pa_nil))))) pa_nil)))))
      (pss_cons (ps_set (i := 4) sc_law.nd rfl (by first | exact Or.inl rfl | exact Or.inr rfl) (pe_d D_law_table hr_2 rfl pass0 (pa_cons (pv 0) pa_nil)))
      (pss_cons (ps_set (i := 5) sc_law.nd rfl (by first | exact Or.inl rfl | exact Or.inr rfl) (pe_callTy call_list_of (by rfl) T.b.b_list (by decide +kernel) (pa_cons (pv 4) pa_nil)))
      (pss_cons (ps_set (i := 6) sc_law.nd rfl (by first | exact Or.inl rfl | exact Or.inr rfl) (pe_lst (pa_cons pe_non (pa_cons (pe_tup pa_nil) (pa_cons (pe_tup (pa_cons pe_int pa_nil)) (pa_cons pe_str (pa_cons pe_dnewK (pa_cons pe_int (pa_cons (pe_lst (pa_cons pe_non pa_nil)) (pa_cons (pe_lst (pa_cons pe_str pa_nil)) (pa_cons (pe_lst (pa_cons pe_bl pa_nil)) (pa_cons (pe_lst (pa_cons (pe_un un_neg pe_int) pa_nil)) (pa_cons (pe_lst (pa_cons (pe_op op_sub (pe_un un_neg pe_int) (pv 1)) pa_nil)) (pa_cons (pe_lst (pa_cons pe_int (pa_cons (pe_un un_neg pe_int) pa_nil))) (pa_cons (pe_lst (pa_cons (pe_lst (pa_cons pe_int pa_nil)) pa_nil)) (pa_cons (pe_lst (pa_cons pe_int (pa_cons pe_non (pa_cons pe_int pa_nil)))) pa_nil))))))))))))))))
      (pss_cons (ps_for PassesOwn.never rfl (pi_range1 (by rfl) T.b.b_range (pa_cons pe_int pa_nil)) (pg_name (i := 7) sc_law.nd rfl (by first | exact Or.inl rfl | exact Or.inr rfl)) (pss_one (ps_if (pt_not (pt_val (pe_callB (cr_all rfl) (by rfl) T.b.b_all (by decide +kernel) (pa_cons (pe_lc (own := [("_law_thing", 8)]) (g := (gName 8)) (tt := tYes) (te := (tOp (rEqD K) (tCall (sp_law_told K A) [] E0 (tCons (tC (.ref A.f_law_with_counts)) (tCons (tVar 7) (tCons (tVar 8) tNil)))) (tOp (rIxL K) (tVar 2) (tC (.int 0))))) rfl sc_law.nd (pi_list (pv 6)) (blkOk_by (N := N_law) (sc := defScope s_law) (by decide +kernel)) (fun _ _ _ _ _ => (pg_name (i := 8) sc_law.nd rfl (by first | exact Or.inl rfl | exact Or.inr rfl))) (fun _ _ _ _ _ => pts_nil) (fun _ _ _ _ _ => (pe_cmpR (op_eqD (hu_D hr_0)) (pe_d D_law_told hr_6 rfl pass0 (pa_cons (pe_glob (v := .ref A.f_law_with_counts) rfl T.g.f_law_with_counts (by exact rfl)) (pa_cons (pv 7) (pa_cons (pv 8) pa_nil)))) (pe_ix ix_list (pv 2) pe_int (fun _ _ => rfl)) (nomark _)))) pa_nil)))) (pss_one (ps_ret pe_bl)) pss_nil)))
      (pss_cons (ps_if (PW.pt (pw_or (pt_not (pt_val (pe_d D_law_tables_right hr_7 rfl pass0 (pa_cons (pv 4) (pa_cons (pe_ix ix_list (pv 2) pe_int (fun _ _ => rfl)) pa_nil))))) (pw_or1 (pt_not (pt_val (pe_d D_law_places_right hr_7 rfl pass0 (pa_cons (pv 4) (pa_cons (pe_ix ix_list (pv 2) pe_int (fun _ _ => rfl)) (pa_cons (pv 1) pa_nil))))))))) (pss_one (ps_ret pe_bl)) pss_nil)
      (pss_cons (ps_if (pt_cmpR (op_neD (hu_D hr_0)) (pe_d D_switch hr_3 rfl passL (pa_cons (pe_lst (pa_cons pe_str (pa_cons pe_str pa_nil))) (pa_cons (pe_tup (pa_cons pe_int (pa_cons pe_int (pa_cons pe_int (pa_cons pe_int pa_nil))))) pa_nil))) (pe_lst (pa_cons pe_str (pa_cons pe_str pa_nil))) (nomark _)) (pss_one (ps_ret pe_bl)) pss_nil)
      (pss_one (ps_ret (pe_and (pe_cmpR (op_eqD (hu_D hr_0)) (pv 4) (pv 5) (nomark _)) (pe_one (pe_cmpR (op_eqD (hu_D hr_0)) (pe_d D_counts hr_3 rfl passL (pa_cons (pe_lst (pa_cons pe_str pa_nil)) pa_nil)) (pe_tup (pa_cons (pe_lst (pa_cons pe_int pa_nil)) (pa_cons (pe_lst pa_nil) pa_nil))) (nomark _)))))))))))))))
end
def A0 : Ad := ⟨0, 0, 0, 0, 0, 0, 0, 0, 0, 0, 0, 0, 0, 0, 0, 0⟩
theorem all_mk {P : Program} {w : World} {K : PySem.W.Frag} {h : Heap} {mg : Str → Option Value} {fa : Addr} (X : K.In h) (G : h.Ns mainGlobals mg) (hfa : mg "law" = some (.ref fa))
    {C_CrossError C_BadCounts C_BadTable C_BadPlace : Addr}
    {f_is_whole : Addr} {oc_is_whole kV_is_whole dc_is_whole pm_is_whole cd_is_whole ct_is_whole : Value} {od_is_whole an_is_whole : Option Addr} {sl_is_whole : Array (Option Value)}
    {f_is_table : Addr} {oc_is_table kV_is_table dc_is_table pm_is_table cd_is_table ct_is_table : Value} {od_is_table an_is_table : Option Addr} {sl_is_table : Array (Option Value)}
    {f_check_table : Addr} {oc_check_table kV_check_table dc_check_table pm_check_table cd_check_table ct_check_table : Value} {od_check_table an_check_table : Option Addr} {sl_check_table : Array (Option Value)}
    {f_check_counts : Addr} {oc_check_counts kV_check_counts dc_check_counts pm_check_counts cd_check_counts ct_check_counts : Value} {od_check_counts an_check_counts : Option Addr} {sl_check_counts : Array (Option Value)}
    {f_width : Addr} {oc_width kV_width dc_width pm_width cd_width ct_width : Value} {od_width an_width : Option Addr} {sl_width : Array (Option Value)}
    {f_counts_of : Addr} {oc_counts_of kV_counts_of dc_counts_of pm_counts_of cd_counts_of ct_counts_of : Value} {od_counts_of an_counts_of : Option Addr} {sl_counts_of : Array (Option Value)}
    {f_counts : Addr} {oc_counts kV_counts dc_counts pm_counts cd_counts ct_counts : Value} {od_counts an_counts : Option Addr} {sl_counts : Array (Option Value)}
    {f_is_switch : Addr} {oc_is_switch kV_is_switch dc_is_switch pm_is_switch cd_is_switch ct_is_switch : Value} {od_is_switch an_is_switch : Option Addr} {sl_is_switch : Array (Option Value)}
    {f_put : Addr} {oc_put kV_put dc_put pm_put cd_put ct_put : Value} {od_put an_put : Option Addr} {sl_put : Array (Option Value)}
    {f_switched_by : Addr} {oc_switched_by kV_switched_by dc_switched_by pm_switched_by cd_switched_by ct_switched_by : Value} {od_switched_by an_switched_by : Option Addr} {sl_switched_by : Array (Option Value)}
    {f_switch : Addr} {oc_switch kV_switch dc_switch pm_switch cd_switch ct_switch : Value} {od_switch an_switch : Option Addr} {sl_switch : Array (Option Value)}
    {f_filled : Addr} {oc_filled kV_filled dc_filled pm_filled cd_filled ct_filled : Value} {od_filled an_filled : Option Addr} {sl_filled : Array (Option Value)}
    {f_fixed : Addr} {oc_fixed kV_fixed dc_fixed pm_fixed cd_fixed ct_fixed : Value} {od_fixed an_fixed : Option Addr} {sl_fixed : Array (Option Value)}
    {f_switched : Addr} {oc_switched kV_switched dc_switched pm_switched cd_switched ct_switched : Value} {od_switched an_switched : Option Addr} {sl_switched : Array (Option Value)}
    {f_law_cell_at : Addr} {oc_law_cell_at kV_law_cell_at dc_law_cell_at pm_law_cell_at cd_law_cell_at ct_law_cell_at : Value} {od_law_cell_at an_law_cell_at : Option Addr} {sl_law_cell_at : Array (Option Value)}
    {f_law_draw : Addr} {oc_law_draw kV_law_draw dc_law_draw pm_law_draw cd_law_draw ct_law_draw : Value} {od_law_draw an_law_draw : Option Addr} {sl_law_draw : Array (Option Value)}
    {f_law_table : Addr} {oc_law_table kV_law_table dc_law_table pm_law_table cd_law_table ct_law_table : Value} {od_law_table an_law_table : Option Addr} {sl_law_table : Array (Option Value)}
    {f_law_with_table : Addr} {oc_law_with_table kV_law_with_table dc_law_with_table pm_law_with_table cd_law_with_table ct_law_with_table : Value} {od_law_with_table an_law_with_table : Option Addr} {sl_law_with_table : Array (Option Value)}
    {f_law_with_counts : Addr} {oc_law_with_counts kV_law_with_counts dc_law_with_counts pm_law_with_counts cd_law_with_counts ct_law_with_counts : Value} {od_law_with_counts an_law_with_counts : Option Addr} {sl_law_with_counts : Array (Option Value)}
    {f_law_with_place : Addr} {oc_law_with_place kV_law_with_place dc_law_with_place pm_law_with_place cd_law_with_place ct_law_with_place : Value} {od_law_with_place an_law_with_place : Option Addr} {sl_law_with_place : Array (Option Value)}
    {f_law_with_step : Addr} {oc_law_with_step kV_law_with_step dc_law_with_step pm_law_with_step cd_law_with_step ct_law_with_step : Value} {od_law_with_step an_law_with_step : Option Addr} {sl_law_with_step : Array (Option Value)}
    {f_law_kinds : Addr} {oc_law_kinds kV_law_kinds dc_law_kinds pm_law_kinds cd_law_kinds ct_law_kinds : Value} {od_law_kinds an_law_kinds : Option Addr} {sl_law_kinds : Array (Option Value)}
    {f_law_told : Addr} {oc_law_told kV_law_told dc_law_told pm_law_told cd_law_told ct_law_told : Value} {od_law_told an_law_told : Option Addr} {sl_law_told : Array (Option Value)}
    {f_law_tables_right : Addr} {oc_law_tables_right kV_law_tables_right dc_law_tables_right pm_law_tables_right cd_law_tables_right ct_law_tables_right : Value} {od_law_tables_right an_law_tables_right : Option Addr} {sl_law_tables_right : Array (Option Value)}
    {f_law_places_right : Addr} {oc_law_places_right kV_law_places_right dc_law_places_right pm_law_places_right cd_law_places_right ct_law_places_right : Value} {od_law_places_right an_law_places_right : Option Addr} {sl_law_places_right : Array (Option Value)}
    {f_law : Addr} {oc_law kV_law dc_law pm_law cd_law ct_law : Value} {od_law an_law : Option Addr} {sl_law : Array (Option Value)}
    (a_CrossError : PySem.W.nsIn K mainGlobals "CrossError" = some (some (.ref C_CrossError)))
    (a_BadCounts : PySem.W.nsIn K mainGlobals "BadCounts" = some (some (.ref C_BadCounts)))
    (a_BadTable : PySem.W.nsIn K mainGlobals "BadTable" = some (some (.ref C_BadTable)))
    (a_BadPlace : PySem.W.nsIn K mainGlobals "BadPlace" = some (some (.ref C_BadPlace)))
    (xx_CrossError : PySem.W.excIn K C_CrossError [.type "ValueError", .type "Exception", .type "BaseException", .type "object"] "ValueError.__new__" = true)
    (xk_CrossError : PySem.W.keepIn K (.ref C_CrossError) = true)
    (xb_CrossError : PySem.W.subIn K (.ref C_CrossError) (.type "BaseException") = some true)
    (xt_CrossError : PySem.W.typeIn K (.ref C_CrossError) = some (.type "type"))
    (xx_BadCounts : PySem.W.excIn K C_BadCounts [.type "ValueError", .type "Exception", .type "BaseException", .type "object"] "ValueError.__new__" = true)
    (xk_BadCounts : PySem.W.keepIn K (.ref C_BadCounts) = true)
    (xb_BadCounts : PySem.W.subIn K (.ref C_BadCounts) (.type "BaseException") = some true)
    (xt_BadCounts : PySem.W.typeIn K (.ref C_BadCounts) = some (.type "type"))
    (xx_BadTable : PySem.W.excIn K C_BadTable [.type "ValueError", .type "Exception", .type "BaseException", .type "object"] "ValueError.__new__" = true)
    (xk_BadTable : PySem.W.keepIn K (.ref C_BadTable) = true)
    (xb_BadTable : PySem.W.subIn K (.ref C_BadTable) (.type "BaseException") = some true)
    (xt_BadTable : PySem.W.typeIn K (.ref C_BadTable) = some (.type "type"))
    (xx_BadPlace : PySem.W.excIn K C_BadPlace [.type "ValueError", .type "Exception", .type "BaseException", .type "object"] "ValueError.__new__" = true)
    (xk_BadPlace : PySem.W.keepIn K (.ref C_BadPlace) = true)
    (xb_BadPlace : PySem.W.subIn K (.ref C_BadPlace) (.type "BaseException") = some true)
    (xt_BadPlace : PySem.W.typeIn K (.ref C_BadPlace) = some (.type "type"))
    (a_is_whole : PySem.W.nsIn K mainGlobals "is_whole" = some (some (.ref f_is_whole)))
    (l_is_whole : K.lookup f_is_whole = some ⟨oc_is_whole, od_is_whole, .func (PySem.W.fnOf "is_whole" "is_whole" (defArgs s_is_whole) (defBody s_is_whole) (defScope s_is_whole) .none kV_is_whole dc_is_whole pm_is_whole an_is_whole cd_is_whole ct_is_whole), sl_is_whole⟩)
    (c_is_whole : PySem.W.codeIn K cd_is_whole "is_whole" = true)
    (k_is_whole : PySem.W.keepIn K (.ref f_is_whole) = true)
    (a_is_table : PySem.W.nsIn K mainGlobals "is_table" = some (some (.ref f_is_table)))
    (l_is_table : K.lookup f_is_table = some ⟨oc_is_table, od_is_table, .func (PySem.W.fnOf "is_table" "is_table" (defArgs s_is_table) (defBody s_is_table) (defScope s_is_table) .none kV_is_table dc_is_table pm_is_table an_is_table cd_is_table ct_is_table), sl_is_table⟩)
    (c_is_table : PySem.W.codeIn K cd_is_table "is_table" = true)
    (k_is_table : PySem.W.keepIn K (.ref f_is_table) = true)
    (a_check_table : PySem.W.nsIn K mainGlobals "check_table" = some (some (.ref f_check_table)))
    (l_check_table : K.lookup f_check_table = some ⟨oc_check_table, od_check_table, .func (PySem.W.fnOf "check_table" "check_table" (defArgs s_check_table) (defBody s_check_table) (defScope s_check_table) .none kV_check_table dc_check_table pm_check_table an_check_table cd_check_table ct_check_table), sl_check_table⟩)
    (c_check_table : PySem.W.codeIn K cd_check_table "check_table" = true)
    (k_check_table : PySem.W.keepIn K (.ref f_check_table) = true)
    (a_check_counts : PySem.W.nsIn K mainGlobals "check_counts" = some (some (.ref f_check_counts)))
    (l_check_counts : K.lookup f_check_counts = some ⟨oc_check_counts, od_check_counts, .func (PySem.W.fnOf "check_counts" "check_counts" (defArgs s_check_counts) (defBody s_check_counts) (defScope s_check_counts) .none kV_check_counts dc_check_counts pm_check_counts an_check_counts cd_check_counts ct_check_counts), sl_check_counts⟩)
    (c_check_counts : PySem.W.codeIn K cd_check_counts "check_counts" = true)
    (k_check_counts : PySem.W.keepIn K (.ref f_check_counts) = true)
    (a_width : PySem.W.nsIn K mainGlobals "width" = some (some (.ref f_width)))
    (l_width : K.lookup f_width = some ⟨oc_width, od_width, .func (PySem.W.fnOf "width" "width" (defArgs s_width) (defBody s_width) (defScope s_width) .none kV_width dc_width pm_width an_width cd_width ct_width), sl_width⟩)
    (c_width : PySem.W.codeIn K cd_width "width" = true)
    (k_width : PySem.W.keepIn K (.ref f_width) = true)
    (a_counts_of : PySem.W.nsIn K mainGlobals "counts_of" = some (some (.ref f_counts_of)))
    (l_counts_of : K.lookup f_counts_of = some ⟨oc_counts_of, od_counts_of, .func (PySem.W.fnOf "counts_of" "counts_of" (defArgs s_counts_of) (defBody s_counts_of) (defScope s_counts_of) .none kV_counts_of dc_counts_of pm_counts_of an_counts_of cd_counts_of ct_counts_of), sl_counts_of⟩)
    (c_counts_of : PySem.W.codeIn K cd_counts_of "counts_of" = true)
    (k_counts_of : PySem.W.keepIn K (.ref f_counts_of) = true)
    (a_counts : PySem.W.nsIn K mainGlobals "counts" = some (some (.ref f_counts)))
    (l_counts : K.lookup f_counts = some ⟨oc_counts, od_counts, .func (PySem.W.fnOf "counts" "counts" (defArgs s_counts) (defBody s_counts) (defScope s_counts) .none kV_counts dc_counts pm_counts an_counts cd_counts ct_counts), sl_counts⟩)
    (c_counts : PySem.W.codeIn K cd_counts "counts" = true)
    (k_counts : PySem.W.keepIn K (.ref f_counts) = true)
    (a_is_switch : PySem.W.nsIn K mainGlobals "is_switch" = some (some (.ref f_is_switch)))
    (l_is_switch : K.lookup f_is_switch = some ⟨oc_is_switch, od_is_switch, .func (PySem.W.fnOf "is_switch" "is_switch" (defArgs s_is_switch) (defBody s_is_switch) (defScope s_is_switch) .none kV_is_switch dc_is_switch pm_is_switch an_is_switch cd_is_switch ct_is_switch), sl_is_switch⟩)
    (c_is_switch : PySem.W.codeIn K cd_is_switch "is_switch" = true)
    (k_is_switch : PySem.W.keepIn K (.ref f_is_switch) = true)
    (a_put : PySem.W.nsIn K mainGlobals "put" = some (some (.ref f_put)))
    (l_put : K.lookup f_put = some ⟨oc_put, od_put, .func (PySem.W.fnOf "put" "put" (defArgs s_put) (defBody s_put) (defScope s_put) .none kV_put dc_put pm_put an_put cd_put ct_put), sl_put⟩)
    (c_put : PySem.W.codeIn K cd_put "put" = true)
    (k_put : PySem.W.keepIn K (.ref f_put) = true)
    (a_switched_by : PySem.W.nsIn K mainGlobals "switched_by" = some (some (.ref f_switched_by)))
    (l_switched_by : K.lookup f_switched_by = some ⟨oc_switched_by, od_switched_by, .func (PySem.W.fnOf "switched_by" "switched_by" (defArgs s_switched_by) (defBody s_switched_by) (defScope s_switched_by) .none kV_switched_by dc_switched_by pm_switched_by an_switched_by cd_switched_by ct_switched_by), sl_switched_by⟩)
    (c_switched_by : PySem.W.codeIn K cd_switched_by "switched_by" = true)
    (k_switched_by : PySem.W.keepIn K (.ref f_switched_by) = true)
    (a_switch : PySem.W.nsIn K mainGlobals "switch" = some (some (.ref f_switch)))
    (l_switch : K.lookup f_switch = some ⟨oc_switch, od_switch, .func (PySem.W.fnOf "switch" "switch" (defArgs s_switch) (defBody s_switch) (defScope s_switch) .none kV_switch dc_switch pm_switch an_switch cd_switch ct_switch), sl_switch⟩)
    (c_switch : PySem.W.codeIn K cd_switch "switch" = true)
    (k_switch : PySem.W.keepIn K (.ref f_switch) = true)
    (a_filled : PySem.W.nsIn K mainGlobals "filled" = some (some (.ref f_filled)))
    (l_filled : K.lookup f_filled = some ⟨oc_filled, od_filled, .func (PySem.W.fnOf "filled" "filled" (defArgs s_filled) (defBody s_filled) (defScope s_filled) .none kV_filled dc_filled pm_filled an_filled cd_filled ct_filled), sl_filled⟩)
    (c_filled : PySem.W.codeIn K cd_filled "filled" = true)
    (k_filled : PySem.W.keepIn K (.ref f_filled) = true)
    (a_fixed : PySem.W.nsIn K mainGlobals "fixed" = some (some (.ref f_fixed)))
    (l_fixed : K.lookup f_fixed = some ⟨oc_fixed, od_fixed, .func (PySem.W.fnOf "fixed" "fixed" (defArgs s_fixed) (defBody s_fixed) (defScope s_fixed) .none kV_fixed dc_fixed pm_fixed an_fixed cd_fixed ct_fixed), sl_fixed⟩)
    (c_fixed : PySem.W.codeIn K cd_fixed "fixed" = true)
    (k_fixed : PySem.W.keepIn K (.ref f_fixed) = true)
    (a_switched : PySem.W.nsIn K mainGlobals "switched" = some (some (.ref f_switched)))
    (l_switched : K.lookup f_switched = some ⟨oc_switched, od_switched, .func (PySem.W.fnOf "switched" "switched" (defArgs s_switched) (defBody s_switched) (defScope s_switched) .none kV_switched dc_switched pm_switched an_switched cd_switched ct_switched), sl_switched⟩)
    (c_switched : PySem.W.codeIn K cd_switched "switched" = true)
    (k_switched : PySem.W.keepIn K (.ref f_switched) = true)
    (a_law_cell_at : PySem.W.nsIn K mainGlobals "_law_cell_at" = some (some (.ref f_law_cell_at)))
    (l_law_cell_at : K.lookup f_law_cell_at = some ⟨oc_law_cell_at, od_law_cell_at, .func (PySem.W.fnOf "_law_cell_at" "_law_cell_at" (defArgs s_law_cell_at) (defBody s_law_cell_at) (defScope s_law_cell_at) .none kV_law_cell_at dc_law_cell_at pm_law_cell_at an_law_cell_at cd_law_cell_at ct_law_cell_at), sl_law_cell_at⟩)
    (c_law_cell_at : PySem.W.codeIn K cd_law_cell_at "_law_cell_at" = true)
    (k_law_cell_at : PySem.W.keepIn K (.ref f_law_cell_at) = true)
    (a_law_draw : PySem.W.nsIn K mainGlobals "_law_draw" = some (some (.ref f_law_draw)))
    (l_law_draw : K.lookup f_law_draw = some ⟨oc_law_draw, od_law_draw, .func (PySem.W.fnOf "_law_draw" "_law_draw" (defArgs s_law_draw) (defBody s_law_draw) (defScope s_law_draw) .none kV_law_draw dc_law_draw pm_law_draw an_law_draw cd_law_draw ct_law_draw), sl_law_draw⟩)
    (c_law_draw : PySem.W.codeIn K cd_law_draw "_law_draw" = true)
    (k_law_draw : PySem.W.keepIn K (.ref f_law_draw) = true)
    (a_law_table : PySem.W.nsIn K mainGlobals "_law_table" = some (some (.ref f_law_table)))
    (l_law_table : K.lookup f_law_table = some ⟨oc_law_table, od_law_table, .func (PySem.W.fnOf "_law_table" "_law_table" (defArgs s_law_table) (defBody s_law_table) (defScope s_law_table) .none kV_law_table dc_law_table pm_law_table an_law_table cd_law_table ct_law_table), sl_law_table⟩)
    (c_law_table : PySem.W.codeIn K cd_law_table "_law_table" = true)
    (k_law_table : PySem.W.keepIn K (.ref f_law_table) = true)
    (a_law_with_table : PySem.W.nsIn K mainGlobals "_law_with_table" = some (some (.ref f_law_with_table)))
    (l_law_with_table : K.lookup f_law_with_table = some ⟨oc_law_with_table, od_law_with_table, .func (PySem.W.fnOf "_law_with_table" "_law_with_table" (defArgs s_law_with_table) (defBody s_law_with_table) (defScope s_law_with_table) .none kV_law_with_table dc_law_with_table pm_law_with_table an_law_with_table cd_law_with_table ct_law_with_table), sl_law_with_table⟩)
    (c_law_with_table : PySem.W.codeIn K cd_law_with_table "_law_with_table" = true)
    (k_law_with_table : PySem.W.keepIn K (.ref f_law_with_table) = true)
    (a_law_with_counts : PySem.W.nsIn K mainGlobals "_law_with_counts" = some (some (.ref f_law_with_counts)))
    (l_law_with_counts : K.lookup f_law_with_counts = some ⟨oc_law_with_counts, od_law_with_counts, .func (PySem.W.fnOf "_law_with_counts" "_law_with_counts" (defArgs s_law_with_counts) (defBody s_law_with_counts) (defScope s_law_with_counts) .none kV_law_with_counts dc_law_with_counts pm_law_with_counts an_law_with_counts cd_law_with_counts ct_law_with_counts), sl_law_with_counts⟩)
    (c_law_with_counts : PySem.W.codeIn K cd_law_with_counts "_law_with_counts" = true)
    (k_law_with_counts : PySem.W.keepIn K (.ref f_law_with_counts) = true)
    (a_law_with_place : PySem.W.nsIn K mainGlobals "_law_with_place" = some (some (.ref f_law_with_place)))
    (l_law_with_place : K.lookup f_law_with_place = some ⟨oc_law_with_place, od_law_with_place, .func (PySem.W.fnOf "_law_with_place" "_law_with_place" (defArgs s_law_with_place) (defBody s_law_with_place) (defScope s_law_with_place) .none kV_law_with_place dc_law_with_place pm_law_with_place an_law_with_place cd_law_with_place ct_law_with_place), sl_law_with_place⟩)
    (c_law_with_place : PySem.W.codeIn K cd_law_with_place "_law_with_place" = true)
    (k_law_with_place : PySem.W.keepIn K (.ref f_law_with_place) = true)
    (a_law_with_step : PySem.W.nsIn K mainGlobals "_law_with_step" = some (some (.ref f_law_with_step)))
    (l_law_with_step : K.lookup f_law_with_step = some ⟨oc_law_with_step, od_law_with_step, .func (PySem.W.fnOf "_law_with_step" "_law_with_step" (defArgs s_law_with_step) (defBody s_law_with_step) (defScope s_law_with_step) .none kV_law_with_step dc_law_with_step pm_law_with_step an_law_with_step cd_law_with_step ct_law_with_step), sl_law_with_step⟩)
    (c_law_with_step : PySem.W.codeIn K cd_law_with_step "_law_with_step" = true)
    (k_law_with_step : PySem.W.keepIn K (.ref f_law_with_step) = true)
    (a_law_kinds : PySem.W.nsIn K mainGlobals "_law_kinds" = some (some (.ref f_law_kinds)))
    (l_law_kinds : K.lookup f_law_kinds = some ⟨oc_law_kinds, od_law_kinds, .func (PySem.W.fnOf "_law_kinds" "_law_kinds" (defArgs s_law_kinds) (defBody s_law_kinds) (defScope s_law_kinds) .none kV_law_kinds dc_law_kinds pm_law_kinds an_law_kinds cd_law_kinds ct_law_kinds), sl_law_kinds⟩)
    (c_law_kinds : PySem.W.codeIn K cd_law_kinds "_law_kinds" = true)
    (k_law_kinds : PySem.W.keepIn K (.ref f_law_kinds) = true)
    (a_law_told : PySem.W.nsIn K mainGlobals "_law_told" = some (some (.ref f_law_told)))
    (l_law_told : K.lookup f_law_told = some ⟨oc_law_told, od_law_told, .func (PySem.W.fnOf "_law_told" "_law_told" (defArgs s_law_told) (defBody s_law_told) (defScope s_law_told) .none kV_law_told dc_law_told pm_law_told an_law_told cd_law_told ct_law_told), sl_law_told⟩)
    (c_law_told : PySem.W.codeIn K cd_law_told "_law_told" = true)
    (k_law_told : PySem.W.keepIn K (.ref f_law_told) = true)
    (a_law_tables_right : PySem.W.nsIn K mainGlobals "_law_tables_right" = some (some (.ref f_law_tables_right)))
    (l_law_tables_right : K.lookup f_law_tables_right = some ⟨oc_law_tables_right, od_law_tables_right, .func (PySem.W.fnOf "_law_tables_right" "_law_tables_right" (defArgs s_law_tables_right) (defBody s_law_tables_right) (defScope s_law_tables_right) .none kV_law_tables_right dc_law_tables_right pm_law_tables_right an_law_tables_right cd_law_tables_right ct_law_tables_right), sl_law_tables_right⟩)
    (c_law_tables_right : PySem.W.codeIn K cd_law_tables_right "_law_tables_right" = true)
    (k_law_tables_right : PySem.W.keepIn K (.ref f_law_tables_right) = true)
    (a_law_places_right : PySem.W.nsIn K mainGlobals "_law_places_right" = some (some (.ref f_law_places_right)))
    (l_law_places_right : K.lookup f_law_places_right = some ⟨oc_law_places_right, od_law_places_right, .func (PySem.W.fnOf "_law_places_right" "_law_places_right" (defArgs s_law_places_right) (defBody s_law_places_right) (defScope s_law_places_right) .none kV_law_places_right dc_law_places_right pm_law_places_right an_law_places_right cd_law_places_right ct_law_places_right), sl_law_places_right⟩)
    (c_law_places_right : PySem.W.codeIn K cd_law_places_right "_law_places_right" = true)
    (k_law_places_right : PySem.W.keepIn K (.ref f_law_places_right) = true)
    (a_law : PySem.W.nsIn K mainGlobals "law" = some (some (.ref f_law)))
    (l_law : K.lookup f_law = some ⟨oc_law, od_law, .func (PySem.W.fnOf "law" "law" (defArgs s_law) (defBody s_law) (defScope s_law) .none kV_law dc_law pm_law an_law cd_law ct_law), sl_law⟩)
    (c_law : PySem.W.codeIn K cd_law "law" = true)
    (k_law : PySem.W.keepIn K (.ref f_law) = true)
    (z_len : PySem.W.nsIn K mainGlobals "len" = some none)
    (z_range : PySem.W.nsIn K mainGlobals "range" = some none)
    (z_isinstance : PySem.W.nsIn K mainGlobals "isinstance" = some none)
    (z_list : PySem.W.nsIn K mainGlobals "list" = some none)
    (z_tuple : PySem.W.nsIn K mainGlobals "tuple" = some none)
    (z_str : PySem.W.nsIn K mainGlobals "str" = some none)
    (z_int : PySem.W.nsIn K mainGlobals "int" = some none)
    (z_bool : PySem.W.nsIn K mainGlobals "bool" = some none)
    (z_all : PySem.W.nsIn K mainGlobals "all" = some none)
    (z_any : PySem.W.nsIn K mainGlobals "any" = some none)
    (z_sum : PySem.W.nsIn K mainGlobals "sum" = some none)
    (z_sorted : PySem.W.nsIn K mainGlobals "sorted" = some none)
    (z_enumerate : PySem.W.nsIn K mainGlobals "enumerate" = some none)
    (z_zip : PySem.W.nsIn K mainGlobals "zip" = some none)
    (z_max : PySem.W.nsIn K mainGlobals "max" = some none)
    (z_min : PySem.W.nsIn K mainGlobals "min" = some none)
    (z_set : PySem.W.nsIn K mainGlobals "set" = some none)
    (z_ValueError : PySem.W.nsIn K mainGlobals "ValueError" = some none)
    (xi_CrossError : PySem.W.isClsIn K C_CrossError = true)
    (xi_BadCounts : PySem.W.isClsIn K C_BadCounts = true)
    (xi_BadTable : PySem.W.isClsIn K C_BadTable = true)
    (xi_BadPlace : PySem.W.isClsIn K C_BadPlace = true)
    (xg_BadCounts : PySem.W.findIn K (.ref C_BadCounts) "__getattribute__" = some (some (.builtin "BaseException.__getattribute__")))
    (xq_BadCounts : PySem.W.findIn K (.ref C_BadCounts) "__getattr__" = some none)
    (xd_BadCounts : PySem.W.hasDictIn K C_BadCounts = true)
    (xa_BadCounts : PySem.W.findIn K (.ref C_BadCounts) "__class__" = some (some (.builtin "object.__class__")))
    (xm_BadCounts : PySem.W.mroIn K C_BadCounts (.type "object") = some true)
    (sv_BadCounts : PySem.W.subIn K (.ref C_BadCounts) (.type "ValueError") = some true)
    (sc_BadCounts : PySem.W.subIn K (.ref C_BadCounts) (.ref C_CrossError) = some true)
    (sn_BadCounts_BadTable : PySem.W.subIn K (.ref C_BadCounts) (.ref C_BadTable) = some false)
    (ne_BadCounts_BadTable : (Value.ref C_BadCounts == Value.ref C_BadTable) = false)
    (sn_BadCounts_BadPlace : PySem.W.subIn K (.ref C_BadCounts) (.ref C_BadPlace) = some false)
    (ne_BadCounts_BadPlace : (Value.ref C_BadCounts == Value.ref C_BadPlace) = false)
    (xg_BadTable : PySem.W.findIn K (.ref C_BadTable) "__getattribute__" = some (some (.builtin "BaseException.__getattribute__")))
    (xq_BadTable : PySem.W.findIn K (.ref C_BadTable) "__getattr__" = some none)
    (xd_BadTable : PySem.W.hasDictIn K C_BadTable = true)
    (xa_BadTable : PySem.W.findIn K (.ref C_BadTable) "__class__" = some (some (.builtin "object.__class__")))
    (xm_BadTable : PySem.W.mroIn K C_BadTable (.type "object") = some true)
    (sv_BadTable : PySem.W.subIn K (.ref C_BadTable) (.type "ValueError") = some true)
    (sc_BadTable : PySem.W.subIn K (.ref C_BadTable) (.ref C_CrossError) = some true)
    (sn_BadTable_BadCounts : PySem.W.subIn K (.ref C_BadTable) (.ref C_BadCounts) = some false)
    (ne_BadTable_BadCounts : (Value.ref C_BadTable == Value.ref C_BadCounts) = false)
    (sn_BadTable_BadPlace : PySem.W.subIn K (.ref C_BadTable) (.ref C_BadPlace) = some false)
    (ne_BadTable_BadPlace : (Value.ref C_BadTable == Value.ref C_BadPlace) = false)
    (xg_BadPlace : PySem.W.findIn K (.ref C_BadPlace) "__getattribute__" = some (some (.builtin "BaseException.__getattribute__")))
    (xq_BadPlace : PySem.W.findIn K (.ref C_BadPlace) "__getattr__" = some none)
    (xd_BadPlace : PySem.W.hasDictIn K C_BadPlace = true)
    (xa_BadPlace : PySem.W.findIn K (.ref C_BadPlace) "__class__" = some (some (.builtin "object.__class__")))
    (xm_BadPlace : PySem.W.mroIn K C_BadPlace (.type "object") = some true)
    (sv_BadPlace : PySem.W.subIn K (.ref C_BadPlace) (.type "ValueError") = some true)
    (sc_BadPlace : PySem.W.subIn K (.ref C_BadPlace) (.ref C_CrossError) = some true)
    (sn_BadPlace_BadCounts : PySem.W.subIn K (.ref C_BadPlace) (.ref C_BadCounts) = some false)
    (ne_BadPlace_BadCounts : (Value.ref C_BadPlace == Value.ref C_BadCounts) = false)
    (sn_BadPlace_BadTable : PySem.W.subIn K (.ref C_BadPlace) (.ref C_BadTable) = some false)
    (ne_BadPlace_BadTable : (Value.ref C_BadPlace == Value.ref C_BadTable) = false)
    (gs : PySem.W.specialIn K (.builtin "object.__class__") "__get__" = some (some (.builtin "getset_descriptor.__get__")))
    (gt : PySem.W.takesIn K (.builtin "object.__class__") = some true)
    : ∃ fd : FuncData, (∀ (s : Shared) (v : Value), BindsTo s fd ⟨[v], []⟩ [("_law_script", v)]) ∧ ∀ base : Heap, K.In base → base.Ns mainGlobals mg → FnOk P w K mg base CX0 8 fa fd ["_law_script"] (sp_law K A0) := by
  have e := hfa.symm.trans (PySem.W.mg_of X G a_law)
  cases e
  obtain ⟨A, hA⟩ : ∃ A : Ad, A = ({ CrossError := C_CrossError, BadCounts := C_BadCounts, BadTable := C_BadTable, BadPlace := C_BadPlace, Answer := 0, Filled := 0, Barred := 0, Switched := 0, Unlike := 0, Free := 0, Fixed := 0, f_switched := f_switched, f_law_with_table := f_law_with_table, f_law_with_counts := f_law_with_counts, f_law_with_place := f_law_with_place, f_law_with_step := f_law_with_step } : Ad) := ⟨_, rfl⟩
  obtain rfl : A.CrossError = C_CrossError := by rw [hA]
  obtain rfl : A.BadCounts = C_BadCounts := by rw [hA]
  obtain rfl : A.BadTable = C_BadTable := by rw [hA]
  obtain rfl : A.BadPlace = C_BadPlace := by rw [hA]
  obtain rfl : A.f_switched = f_switched := by rw [hA]
  obtain rfl : A.f_law_with_table = f_law_with_table := by rw [hA]
  obtain rfl : A.f_law_with_counts = f_law_with_counts := by rw [hA]
  obtain rfl : A.f_law_with_place = f_law_with_place := by rw [hA]
  obtain rfl : A.f_law_with_step = f_law_with_step := by rw [hA]
  clear hA
  have T : Tx K mg A := {
    b := { b_len := PySem.W.mg_none_of X G z_len, b_range := PySem.W.mg_none_of X G z_range, b_isinstance := PySem.W.mg_none_of X G z_isinstance, b_list := PySem.W.mg_none_of X G z_list, b_tuple := PySem.W.mg_none_of X G z_tuple, b_str := PySem.W.mg_none_of X G z_str, b_int := PySem.W.mg_none_of X G z_int, b_bool := PySem.W.mg_none_of X G z_bool, b_all := PySem.W.mg_none_of X G z_all, b_any := PySem.W.mg_none_of X G z_any, b_sum := PySem.W.mg_none_of X G z_sum, b_sorted := PySem.W.mg_none_of X G z_sorted, b_enumerate := PySem.W.mg_none_of X G z_enumerate, b_zip := PySem.W.mg_none_of X G z_zip, b_max := PySem.W.mg_none_of X G z_max, b_min := PySem.W.mg_none_of X G z_min, b_set := PySem.W.mg_none_of X G z_set, b_ValueError := PySem.W.mg_none_of X G z_ValueError }
    g := { CrossError := PySem.W.mg_of X G a_CrossError, BadCounts := PySem.W.mg_of X G a_BadCounts, BadTable := PySem.W.mg_of X G a_BadTable, BadPlace := PySem.W.mg_of X G a_BadPlace, f_switched := PySem.W.mg_of X G a_switched, f_law_with_table := PySem.W.mg_of X G a_law_with_table, f_law_with_counts := PySem.W.mg_of X G a_law_with_counts, f_law_with_place := PySem.W.mg_of X G a_law_with_place, f_law_with_step := PySem.W.mg_of X G a_law_with_step }
    x_CrossError := ⟨xx_CrossError, xk_CrossError, xb_CrossError, xt_CrossError⟩
    x_BadCounts := ⟨xx_BadCounts, xk_BadCounts, xb_BadCounts, xt_BadCounts⟩
    x_BadTable := ⟨xx_BadTable, xk_BadTable, xb_BadTable, xt_BadTable⟩
    x_BadPlace := ⟨xx_BadPlace, xk_BadPlace, xb_BadPlace, xt_BadPlace⟩ }
  have H_is_whole : Here K mg "is_whole" s_is_whole ["thing"] := here_mk X G a_is_whole l_is_whole c_is_whole k_is_whole (fun _ _ _ _ _ _ us hl => match us, hl with | [_], _ => rfl)
  have H_is_table : Here K mg "is_table" s_is_table ["thing"] := here_mk X G a_is_table l_is_table c_is_table k_is_table (fun _ _ _ _ _ _ us hl => match us, hl with | [_], _ => rfl)
  have H_check_table : Here K mg "check_table" s_check_table ["table"] := here_mk X G a_check_table l_check_table c_check_table k_check_table (fun _ _ _ _ _ _ us hl => match us, hl with | [_], _ => rfl)
  have H_check_counts : Here K mg "check_counts" s_check_counts ["numbers"] := here_mk X G a_check_counts l_check_counts c_check_counts k_check_counts (fun _ _ _ _ _ _ us hl => match us, hl with | [_], _ => rfl)
  have H_width : Here K mg "width" s_width ["table"] := here_mk X G a_width l_width c_width k_width (fun _ _ _ _ _ _ us hl => match us, hl with | [_], _ => rfl)
  have H_counts_of : Here K mg "counts_of" s_counts_of ["table"] := here_mk X G a_counts_of l_counts_of c_counts_of k_counts_of (fun _ _ _ _ _ _ us hl => match us, hl with | [_], _ => rfl)
  have H_counts : Here K mg "counts" s_counts ["table"] := here_mk X G a_counts l_counts c_counts k_counts (fun _ _ _ _ _ _ us hl => match us, hl with | [_], _ => rfl)
  have H_is_switch : Here K mg "is_switch" s_is_switch ["table", "step"] := here_mk X G a_is_switch l_is_switch c_is_switch k_is_switch (fun _ _ _ _ _ _ us hl => match us, hl with | [_, _], _ => rfl)
  have H_put : Here K mg "put" s_put ["row", "first", "second", "signs"] := here_mk X G a_put l_put c_put k_put (fun _ _ _ _ _ _ us hl => match us, hl with | [_, _, _, _], _ => rfl)
  have H_switched_by : Here K mg "switched_by" s_switched_by ["table", "step"] := here_mk X G a_switched_by l_switched_by c_switched_by k_switched_by (fun _ _ _ _ _ _ us hl => match us, hl with | [_, _], _ => rfl)
  have H_switch : Here K mg "switch" s_switch ["table", "step"] := here_mk X G a_switch l_switch c_switch k_switch (fun _ _ _ _ _ _ us hl => match us, hl with | [_, _], _ => rfl)
  have H_filled : Here K mg "filled" s_filled ["rows", "columns"] := here_mk X G a_filled l_filled c_filled k_filled (fun _ _ _ _ _ _ us hl => match us, hl with | [_, _], _ => rfl)
  have H_fixed : Here K mg "fixed" s_fixed ["table", "row", "column"] := here_mk X G a_fixed l_fixed c_fixed k_fixed (fun _ _ _ _ _ _ us hl => match us, hl with | [_, _, _], _ => rfl)
  have H_switched : Here K mg "switched" s_switched ["one", "other"] := here_mk X G a_switched l_switched c_switched k_switched (fun _ _ _ _ _ _ us hl => match us, hl with | [_, _], _ => rfl)
  have H_law_cell_at : Here K mg "_law_cell_at" s_law_cell_at ["_law_script", "_law_k"] := here_mk X G a_law_cell_at l_law_cell_at c_law_cell_at k_law_cell_at (fun _ _ _ _ _ _ us hl => match us, hl with | [_, _], _ => rfl)
  have H_law_draw : Here K mg "_law_draw" s_law_draw ["_law_cell", "_law_k", "_law_many"] := here_mk X G a_law_draw l_law_draw c_law_draw k_law_draw (fun _ _ _ _ _ _ us hl => match us, hl with | [_, _, _], _ => rfl)
  have H_law_table : Here K mg "_law_table" s_law_table ["_law_script"] := here_mk X G a_law_table l_law_table c_law_table k_law_table (fun _ _ _ _ _ _ us hl => match us, hl with | [_], _ => rfl)
  have H_law_with_table : Here K mg "_law_with_table" s_law_with_table ["_law_door", "_law_table_here"] := here_mk X G a_law_with_table l_law_with_table c_law_with_table k_law_with_table (fun _ _ _ _ _ _ us hl => match us, hl with | [_, _], _ => rfl)
  have H_law_with_counts : Here K mg "_law_with_counts" s_law_with_counts ["_law_door", "_law_numbers"] := here_mk X G a_law_with_counts l_law_with_counts c_law_with_counts k_law_with_counts (fun _ _ _ _ _ _ us hl => match us, hl with | [_, _], _ => rfl)
  have H_law_with_place : Here K mg "_law_with_place" s_law_with_place ["_law_table_here", "_law_pair"] := here_mk X G a_law_with_place l_law_with_place c_law_with_place k_law_with_place (fun _ _ _ _ _ _ us hl => match us, hl with | [_, _], _ => rfl)
  have H_law_with_step : Here K mg "_law_with_step" s_law_with_step ["_law_table_here", "_law_step"] := here_mk X G a_law_with_step l_law_with_step c_law_with_step k_law_with_step (fun _ _ _ _ _ _ us hl => match us, hl with | [_, _], _ => rfl)
  have H_law_kinds : Here K mg "_law_kinds" s_law_kinds ["_law_error"] := here_mk X G a_law_kinds l_law_kinds c_law_kinds k_law_kinds (fun _ _ _ _ _ _ us hl => match us, hl with | [_], _ => rfl)
  have H_law_told : Here K mg "_law_told" s_law_told ["_law_ask", "_law_one", "_law_other"] := here_mk X G a_law_told l_law_told c_law_told k_law_told (fun _ _ _ _ _ _ us hl => match us, hl with | [_, _, _], _ => rfl)
  have H_law_tables_right : Here K mg "_law_tables_right" s_law_tables_right ["_law_table_here", "_law_due"] := here_mk X G a_law_tables_right l_law_tables_right c_law_tables_right k_law_tables_right (fun _ _ _ _ _ _ us hl => match us, hl with | [_, _], _ => rfl)
  have H_law_places_right : Here K mg "_law_places_right" s_law_places_right ["_law_table_here", "_law_due", "_law_far"] := here_mk X G a_law_places_right l_law_places_right c_law_places_right k_law_places_right (fun _ _ _ _ _ _ us hl => match us, hl with | [_, _, _], _ => rfl)
  have kd : Kd K A := {
    c0 := fun j hj => match j, hj with | 0, _ => kit_self | 1, _ => kit_no ne_BadTable_BadCounts xi_BadCounts xt_BadCounts sn_BadTable_BadCounts | 2, _ => kit_no ne_BadPlace_BadCounts xi_BadCounts xt_BadCounts sn_BadPlace_BadCounts
    c1 := fun j hj => match j, hj with | 0, _ => kit_no ne_BadCounts_BadTable xi_BadTable xt_BadTable sn_BadCounts_BadTable | 1, _ => kit_self | 2, _ => kit_no ne_BadPlace_BadTable xi_BadTable xt_BadTable sn_BadPlace_BadTable
    c2 := fun j hj => match j, hj with | 0, _ => kit_no ne_BadCounts_BadPlace xi_BadPlace xt_BadPlace sn_BadCounts_BadPlace | 1, _ => kit_no ne_BadTable_BadPlace xi_BadPlace xt_BadPlace sn_BadTable_BadPlace | 2, _ => kit_self
    cv := fun j hj => match j, hj with | 0, _ => kit_val sv_BadCounts | 1, _ => kit_val sv_BadTable | 2, _ => kit_val sv_BadPlace
    ec := fun j hj => match j, hj with | 0, _ => ⟨xg_BadCounts, xq_BadCounts, xb_BadCounts, xd_BadCounts, xa_BadCounts, gs, gt, xm_BadCounts⟩ | 1, _ => ⟨xg_BadTable, xq_BadTable, xb_BadTable, xd_BadTable, xa_BadTable, gs, gt, xm_BadTable⟩ | 2, _ => ⟨xg_BadPlace, xq_BadPlace, xb_BadPlace, xd_BadPlace, xa_BadPlace, gs, gt, xm_BadPlace⟩
    ex := fun j hj => match j, hj with | 0, _ => exm_yes xb_CrossError xi_CrossError xt_CrossError sc_BadCounts | 1, _ => exm_yes xb_CrossError xi_CrossError xt_CrossError sc_BadTable | 2, _ => exm_yes xb_CrossError xi_CrossError xt_CrossError sc_BadPlace }
  have F_law := fun_mk (st := s_law) l_law c_law k_law
  refine ⟨PySem.W.fnOf "law" "law" (defArgs s_law) (defBody s_law) (defScope s_law) .none kV_law dc_law pm_law an_law cd_law ct_law, fun s v => ?_, fun base _ _ => ?_⟩
  rotate_left
  · have D_is_whole := ok_is_whole (P := P) (w := w) (base := base) T H_is_whole 
    have D_is_table := ok_is_table (P := P) (w := w) (base := base) T H_is_table 
    have D_check_table := ok_check_table (P := P) (w := w) (base := base) T H_check_table D_is_table
    have D_check_counts := ok_check_counts (P := P) (w := w) (base := base) T H_check_counts D_is_whole
    have D_width := ok_width (P := P) (w := w) (base := base) T H_width 
    have D_counts_of := ok_counts_of (P := P) (w := w) (base := base) T H_counts_of D_width
    have D_counts := ok_counts (P := P) (w := w) (base := base) T H_counts D_check_table D_counts_of
    have D_is_switch := ok_is_switch (P := P) (w := w) (base := base) T H_is_switch D_is_whole D_width
    have D_put := ok_put (P := P) (w := w) (base := base) T H_put 
    have D_switched_by := ok_switched_by (P := P) (w := w) (base := base) T H_switched_by D_put
    have D_switch := ok_switch (P := P) (w := w) (base := base) T H_switch D_check_table D_is_switch D_switched_by
    have D_filled := ok_filled (P := P) (w := w) (base := base) T H_filled D_check_counts
    have D_fixed := ok_fixed (P := P) (w := w) (base := base) T H_fixed D_check_table D_is_whole D_width
    have D_switched := ok_switched (P := P) (w := w) (base := base) T H_switched D_check_table D_width
    have D_law_cell_at := ok_law_cell_at (P := P) (w := w) (base := base) T H_law_cell_at 
    have D_law_draw := ok_law_draw (P := P) (w := w) (base := base) T H_law_draw 
    have D_law_table := ok_law_table (P := P) (w := w) (base := base) T H_law_table D_law_draw D_law_cell_at
    have D_law_with_table := ok_law_with_table (P := P) (w := w) (base := base) T H_law_with_table D_counts D_switch D_switched D_fixed
    have D_law_with_counts := ok_law_with_counts (P := P) (w := w) (base := base) T H_law_with_counts D_filled
    have D_law_with_place := ok_law_with_place (P := P) (w := w) (base := base) T H_law_with_place D_fixed
    have D_law_with_step := ok_law_with_step (P := P) (w := w) (base := base) T H_law_with_step D_switch
    have hs : ∀ f sp, Sx K A f sp → HeldX P w K mg base 5 f sp := by
      rintro f sp (⟨rfl, rfl⟩ | ⟨rfl, rfl⟩ | ⟨rfl, rfl⟩ | ⟨rfl, rfl⟩ | ⟨rfl, rfl⟩)
      · exact held_of D_switched T.g.f_switched (by decide)
      · exact held_of D_law_with_table T.g.f_law_with_table (by decide)
      · exact held_of D_law_with_counts T.g.f_law_with_counts (by decide)
      · exact held_of D_law_with_place T.g.f_law_with_place (by decide)
      · exact held_of D_law_with_step T.g.f_law_with_step (by decide)
    have D_law_told := ok_law_told (P := P) (w := w) (base := base) T kd H_law_told H_law_kinds hs
    have D_law_tables_right := ok_law_tables_right (P := P) (w := w) (base := base) T H_law_tables_right D_law_told
    have D_law_places_right := ok_law_places_right (P := P) (w := w) (base := base) T H_law_places_right D_law_told
    exact ok_law T F_law D_law_cell_at D_law_table D_law_told D_law_tables_right D_law_places_right D_switch D_counts
  · exact .of_eq rfl
theorem walk {l : PySem.W.OpenLaw} {q : Program} {loose : List Str} {XP : (Str → Option Value) → Heap → Prop} {YP : World → Heap → Prop} {d : DefRec} {K : Params → PySem.W.Frag} (hn : l.most = some 63) (hdf : d.params.defaults = []) (hY : ∀ (w : World) (h : Heap), YP w h → (K w.params).In h)
    (F : ∀ (w : World) (mg : Str → Option Value) (fa : Addr) (h : Heap), (K w.params).In h → h.Ns mainGlobals mg → mg d.name = some (.ref fa) → ∃ fd : FuncData, (∀ (s : Shared) (u : Value), BindsTo s fd ⟨[u], []⟩ [("_law_script", u)]) ∧ ∀ base : Heap, (K w.params).In base → base.Ns mainGlobals mg → FnOk l.prog w (K w.params) mg base CX0 8 fa fd ["_law_script"] (sp_law (K w.params) A0)) :
    PySem.W.WalkO q loose XP YP l.row.toRowW d [] (fun f vs => PySem.call f vs) :=
  L2.walk_of (n := 63) (k := 8) (x := "_law_script") (CX := fun _ => CX0) (sp := fun w => sp_law (K w.params) A0) hn (by decide) hdf ⟨rfl, by decide, by decide⟩ hY F (fun _ _ a ns hl _ hS => ⟨a, ns, rfl, hS, fun _ _ => rfl⟩) fun _ _ _ _ _ z => z
end Cw
open PySem PySem.W PyProof.Rows
set_option maxRecDepth 100000 in
set_option maxHeartbeats 0 in
theorem PySem.Challenge.cw_crosscount_k05_refused_holds : PySem.Challenge.rw_crosscount_k05_refused.Holds := by
  w_on; o_law; k_head; (case hw => w_witness2)
  k_fill
  refine Cw.walk (l := PySem.Challenge.rw_crosscount_k05_refused) rfl rfl (fun w h Y => PySem.W.km_in_of Y) ?F
  case F =>
    intro w mg fa h KX G hmg
    refine' Cw.all_mk KX G hmg ?a_CrossError ?a_BadCounts ?a_BadTable ?a_BadPlace ?xx_CrossError ?xk_CrossError ?xb_CrossError ?xt_CrossError ?xx_BadCounts ?xk_BadCounts ?xb_BadCounts ?xt_BadCounts ?xx_BadTable ?xk_BadTable ?xb_BadTable ?xt_BadTable ?xx_BadPlace ?xk_BadPlace ?xb_BadPlace ?xt_BadPlace ?a_is_whole ?l_is_whole ?c_is_whole ?k_is_whole ?a_is_table ?l_is_table ?c_is_table ?k_is_table ?a_check_table ?l_check_table ?c_check_table ?k_check_table ?a_check_counts ?l_check_counts ?c_check_counts ?k_check_counts ?a_width ?l_width ?c_width ?k_width ?a_counts_of ?l_counts_of ?c_counts_of ?k_counts_of ?a_counts ?l_counts ?c_counts ?k_counts ?a_is_switch ?l_is_switch ?c_is_switch ?k_is_switch ?a_put ?l_put ?c_put ?k_put ?a_switched_by ?l_switched_by ?c_switched_by ?k_switched_by ?a_switch ?l_switch ?c_switch ?k_switch ?a_filled ?l_filled ?c_filled ?k_filled ?a_fixed ?l_fixed ?c_fixed ?k_fixed ?a_switched ?l_switched ?c_switched ?k_switched ?a_law_cell_at ?l_law_cell_at ?c_law_cell_at ?k_law_cell_at ?a_law_draw ?l_law_draw ?c_law_draw ?k_law_draw ?a_law_table ?l_law_table ?c_law_table ?k_law_table ?a_law_with_table ?l_law_with_table ?c_law_with_table ?k_law_with_table ?a_law_with_counts ?l_law_with_counts ?c_law_with_counts ?k_law_with_counts ?a_law_with_place ?l_law_with_place ?c_law_with_place ?k_law_with_place ?a_law_with_step ?l_law_with_step ?c_law_with_step ?k_law_with_step ?a_law_kinds ?l_law_kinds ?c_law_kinds ?k_law_kinds ?a_law_told ?l_law_told ?c_law_told ?k_law_told ?a_law_tables_right ?l_law_tables_right ?c_law_tables_right ?k_law_tables_right ?a_law_places_right ?l_law_places_right ?c_law_places_right ?k_law_places_right ?a_law ?l_law ?c_law ?k_law ?z_len ?z_range ?z_isinstance ?z_list ?z_tuple ?z_str ?z_int ?z_bool ?z_all ?z_any ?z_sum ?z_sorted ?z_enumerate ?z_zip ?z_max ?z_min ?z_set ?z_ValueError ?xi_CrossError ?xi_BadCounts ?xi_BadTable ?xi_BadPlace ?xg_BadCounts ?xq_BadCounts ?xd_BadCounts ?xa_BadCounts ?xm_BadCounts ?sv_BadCounts ?sc_BadCounts ?sn_BadCounts_BadTable ?ne_BadCounts_BadTable ?sn_BadCounts_BadPlace ?ne_BadCounts_BadPlace ?xg_BadTable ?xq_BadTable ?xd_BadTable ?xa_BadTable ?xm_BadTable ?sv_BadTable ?sc_BadTable ?sn_BadTable_BadCounts ?ne_BadTable_BadCounts ?sn_BadTable_BadPlace ?ne_BadTable_BadPlace ?xg_BadPlace ?xq_BadPlace ?xd_BadPlace ?xa_BadPlace ?xm_BadPlace ?sv_BadPlace ?sc_BadPlace ?sn_BadPlace_BadCounts ?ne_BadPlace_BadCounts ?sn_BadPlace_BadTable ?ne_BadPlace_BadTable ?gs ?gt
    (case a_CrossError => k_is)
    (case a_BadCounts => k_is)
    (case a_BadTable => k_is)
    (case a_BadPlace => k_is)
    (case xx_CrossError => k_exc)
    (case xk_CrossError => k_is)
    (case xb_CrossError => k_is)
    (case xt_CrossError => k_is)
    (case xx_BadCounts => k_exc)
    (case xk_BadCounts => k_is)
    (case xb_BadCounts => k_is)
    (case xt_BadCounts => k_is)
    (case xx_BadTable => k_exc)
    (case xk_BadTable => k_is)
    (case xb_BadTable => k_is)
    (case xt_BadTable => k_is)
    (case xx_BadPlace => k_exc)
    (case xk_BadPlace => k_is)
    (case xb_BadPlace => k_is)
    (case xt_BadPlace => k_is)
    (case a_is_whole => k_is)
    (case l_is_whole => k_is)
    (case c_is_whole => k_is)
    (case k_is_whole => k_is)
    (case a_is_table => k_is)
    (case l_is_table => k_is)
    (case c_is_table => k_is)
    (case k_is_table => k_is)
    (case a_check_table => k_is)
    (case l_check_table => k_is)
    (case c_check_table => k_is)
    (case k_check_table => k_is)
    (case a_check_counts => k_is)
    (case l_check_counts => k_is)
    (case c_check_counts => k_is)
    (case k_check_counts => k_is)
    (case a_width => k_is)
    (case l_width => k_is)
    (case c_width => k_is)
    (case k_width => k_is)
    (case a_counts_of => k_is)
    (case l_counts_of => k_is)
    (case c_counts_of => k_is)
    (case k_counts_of => k_is)
    (case a_counts => k_is)
    (case l_counts => k_is)
    (case c_counts => k_is)
    (case k_counts => k_is)
    (case a_is_switch => k_is)
    (case l_is_switch => k_is)
    (case c_is_switch => k_is)
    (case k_is_switch => k_is)
    (case a_put => k_is)
    (case l_put => k_is)
    (case c_put => k_is)
    (case k_put => k_is)
    (case a_switched_by => k_is)
    (case l_switched_by => k_is)
    (case c_switched_by => k_is)
    (case k_switched_by => k_is)
    (case a_switch => k_is)
    (case l_switch => k_is)
    (case c_switch => k_is)
    (case k_switch => k_is)
    (case a_filled => k_is)
    (case l_filled => k_is)
    (case c_filled => k_is)
    (case k_filled => k_is)
    (case a_fixed => k_is)
    (case l_fixed => k_is)
    (case c_fixed => k_is)
    (case k_fixed => k_is)
    (case a_switched => k_is)
    (case l_switched => k_is)
    (case c_switched => k_is)
    (case k_switched => k_is)
    (case a_law_cell_at => k_is)
    (case l_law_cell_at => k_is)
    (case c_law_cell_at => k_is)
    (case k_law_cell_at => k_is)
    (case a_law_draw => k_is)
    (case l_law_draw => k_is)
    (case c_law_draw => k_is)
    (case k_law_draw => k_is)
    (case a_law_table => k_is)
    (case l_law_table => k_is)
    (case c_law_table => k_is)
    (case k_law_table => k_is)
    (case a_law_with_table => k_is)
    (case l_law_with_table => k_is)
    (case c_law_with_table => k_is)
    (case k_law_with_table => k_is)
    (case a_law_with_counts => k_is)
    (case l_law_with_counts => k_is)
    (case c_law_with_counts => k_is)
    (case k_law_with_counts => k_is)
    (case a_law_with_place => k_is)
    (case l_law_with_place => k_is)
    (case c_law_with_place => k_is)
    (case k_law_with_place => k_is)
    (case a_law_with_step => k_is)
    (case l_law_with_step => k_is)
    (case c_law_with_step => k_is)
    (case k_law_with_step => k_is)
    (case a_law_kinds => k_is)
    (case l_law_kinds => k_is)
    (case c_law_kinds => k_is)
    (case k_law_kinds => k_is)
    (case a_law_told => k_is)
    (case l_law_told => k_is)
    (case c_law_told => k_is)
    (case k_law_told => k_is)
    (case a_law_tables_right => k_is)
    (case l_law_tables_right => k_is)
    (case c_law_tables_right => k_is)
    (case k_law_tables_right => k_is)
    (case a_law_places_right => k_is)
    (case l_law_places_right => k_is)
    (case c_law_places_right => k_is)
    (case k_law_places_right => k_is)
    (case a_law => k_is)
    (case l_law => k_is)
    (case c_law => k_is)
    (case k_law => k_is)
    (case z_len => k_is)
    (case z_range => k_is)
    (case z_isinstance => k_is)
    (case z_list => k_is)
    (case z_tuple => k_is)
    (case z_str => k_is)
    (case z_int => k_is)
    (case z_bool => k_is)
    (case z_all => k_is)
    (case z_any => k_is)
    (case z_sum => k_is)
    (case z_sorted => k_is)
    (case z_enumerate => k_is)
    (case z_zip => k_is)
    (case z_max => k_is)
    (case z_min => k_is)
    (case z_set => k_is)
    (case z_ValueError => k_is)
    (case xi_CrossError => k_is)
    (case xi_BadCounts => k_is)
    (case xi_BadTable => k_is)
    (case xi_BadPlace => k_is)
    (case xg_BadCounts => k_is)
    (case xq_BadCounts => k_is)
    (case xd_BadCounts => k_is)
    (case xa_BadCounts => k_is)
    (case xm_BadCounts => k_is)
    (case sv_BadCounts => k_is)
    (case sc_BadCounts => k_is)
    (case sn_BadCounts_BadTable => k_is)
    (case ne_BadCounts_BadTable => decide)
    (case sn_BadCounts_BadPlace => k_is)
    (case ne_BadCounts_BadPlace => decide)
    (case xg_BadTable => k_is)
    (case xq_BadTable => k_is)
    (case xd_BadTable => k_is)
    (case xa_BadTable => k_is)
    (case xm_BadTable => k_is)
    (case sv_BadTable => k_is)
    (case sc_BadTable => k_is)
    (case sn_BadTable_BadCounts => k_is)
    (case ne_BadTable_BadCounts => decide)
    (case sn_BadTable_BadPlace => k_is)
    (case ne_BadTable_BadPlace => decide)
    (case xg_BadPlace => k_is)
    (case xq_BadPlace => k_is)
    (case xd_BadPlace => k_is)
    (case xa_BadPlace => k_is)
    (case xm_BadPlace => k_is)
    (case sv_BadPlace => k_is)
    (case sc_BadPlace => k_is)
    (case sn_BadPlace_BadCounts => k_is)
    (case ne_BadPlace_BadCounts => decide)
    (case sn_BadPlace_BadTable => k_is)
    (case ne_BadPlace_BadTable => decide)
    (case gs => k_is)
    (case gt => k_is)
