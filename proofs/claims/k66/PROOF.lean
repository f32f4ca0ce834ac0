import PyProof.Rows.All
import Wide.All
import OpenK.AllK
import Wide.FinOn
import HandS.ForMost
import HandS.Exc
import HandS.ExcOwn
import HandS.TryOnly
import HandS.WordsExc
import HandS.Wide
import HandS.IsInst
import HandS.TupLe
import HandS.TupAny
import HandS.TupMul
import HandS.Zip
import HandS.Walk
import HandS.Flow
import HandS.RaiseMore
import HandS.Conv
import HandS.Evl
import HandS.More
import HandS.SortInts
import PyProof.StrOps2
import KE.KRevSl
import PyProof.NeKinds
import PyProof.Rows.TupMore
import PySem.Challenge.RW_mayrows_k66_whole_promises_and_names
set_option Elab.async false
set_option linter.all false
set_option maxRecDepth 100000
set_option maxHeartbeats 4000000
namespace M
open PySem L2
def topS (i : Nat) : Stmt := PySem.Challenge.pw_mayrows_k66_whole_promises_and_names.main.body.getD i (.Pass ⟨0, 0, 0, 0⟩)
/-! ### short forms over the hand layer -/
structure FunD (K : PySem.W.Frag) (mg : Str → Option Value) (nm : Str) (st : Stmt) (ps : List Str) : Prop where
  ex : ∃ (f : Addr) (fd : FuncData), Fun K nm nm st f fd ∧ mg nm = some (.ref f) ∧ Binds K fd ps []
structure Def (P : Program) (w : World) (K : PySem.W.Frag) (mg : Str → Option Value) (base : Heap) (CX : CXT) (k : Nat) (nm : Str) (ps : List Str) (sp : Sp) : Prop where
  ex : ∃ (f : Addr) (fd : FuncData), FnOk P w K mg base CX k f fd ps sp ∧ mg nm = some (.ref f) ∧ PySem.W.keepIn K (.ref f) = true ∧ Binds K fd ps []
theorem funD_mk {K : PySem.W.Frag} {mg : Str → Option Value} {nm : Str} {st : Stmt} {ps : List Str} {f : Addr} {fd : FuncData} (h2 : mg nm = some (.ref f)) (h1 : Fun K nm nm st f fd) (h3 : Binds K fd ps []) : FunD K mg nm st ps := ⟨f, fd, h1, h2, h3⟩
section
variable {P : Program} {w : World} {K : PySem.W.Frag} {mg : Str → Option Value} {base : Heap}
theorem FunD.none {nm : Str} {st : Stmt} {ps : List Str} {CX : CXT} {k : Nat} (F : FunD K mg nm st ps) : Def P w K mg base CX k nm ps (fun _ _ _ _ => False) := by
  obtain ⟨f, fd, h1, h2, h3⟩ := F
  exact ⟨f, fd, ⟨fun _ _ _ _ z => z.elim, fun _ _ _ _ _ _ _ _ _ _ _ _ _ z => z.elim⟩, h2, h1.kp, h3⟩
theorem FunD.ok {nm : Str} {st : Stmt} {N ps : List Str} {k : Nat} {sp : Sp} (F : FunD K mg nm st ps) (S : FnScope N ps (defScope st)) (len : ∀ vs H Q E, sp vs H Q E → vs.length = ps.length)
    (hb : ∀ (f : Addr) (cdv : Value) (A : Around) (outer : List Env) (s : Shared) (H : Hp) (vs : List V) (Q : VK) (E : XK), Room k (A.deeper (PyProof.Rows.envOfC nm (defScope st) s.heap.objs.size f cdv)) → sp vs H Q E →
      ∃ t, PSs (cxOf CX0 P w K mg base N nm (defScope st) f cdv A outer s H E).nox (defBody st) t ∧ t { nx := fun _ H' => Q .non H', rt := Q } (start N vs) H) : Def P w K mg base CX0 (k + 1) nm ps sp := by
  obtain ⟨f, fd, h1, h2, h3⟩ := F
  exact ⟨f, fd, h1.ok S len (hb f), h2, h1.kp, h3⟩
theorem FunD.okX {nm : Str} {st : Stmt} {N ps : List Str} {k : Nat} {sp : Sp} (F : FunD K mg nm st ps) (S : FnScope N ps (defScope st)) (len : ∀ vs H Q E, sp vs H Q E → vs.length = ps.length)
    (hb : ∀ (f : Addr) (cdv : Value) (A : Around) (outer : List Env) (s : Shared) (H : Hp) (vs : List V) (Q : VK) (E : XK), Room k (A.deeper (PyProof.Rows.envOfC nm (defScope st) s.heap.objs.size f cdv)) → sp vs H Q E →
      ∃ t, PSs (cxOf (L2.CX P w) P w K mg base N nm (defScope st) f cdv A outer s H E) (defBody st) t ∧ t { nx := fun _ H' => Q .non H', rt := Q } (start N vs) H) : Def P w K mg base (L2.CX P w) (k + 1) nm ps sp := by
  obtain ⟨f, fd, h1, h2, h3⟩ := F
  exact ⟨f, fd, h1.okX S len (hb f), h2, h1.kp, h3⟩
end
section
variable {X : Cx}
/-- a call of a def of the text -/
def tCallD (sp : Sp) (t : TA) : TE := fun σ H Q => t σ H fun vs H1 => sp vs H1 Q E0
theorem pe_callD {k : Nat} {x : Str} {ps : List Str} {sp : Sp} {p pos : Pos} {e : Expr} {es : List Expr} {t : TA} (D : Def X.prog X.w X.K X.mg X.base CX0 k x ps sp) (hr : Room k X.A) (hg : Gl X x) (ha : PA X (e :: es) t)
    (hdb : (x == ("__debug__" : Str)) = false := by decide) (he : starEach (e :: es) X.env = (false, eval e X.env) :: starEach es X.env := by rfl) (hpl : (backTo pos (starEach es X.env)).any (·.1) = false := by rfl) :
    PE X (.Call (.Name x p) (e :: es) [] pos) (tCallD sp t) := by
  obtain ⟨f, fd, G, hm, hk, hb⟩ := D
  have q := pe_call (p := p) (pos := pos) G hr hg hm hk hb .nil pass0 ha hdb he hpl
  have e : tCall sp [] E0 t = tCallD sp t := by
    funext σ H Q
    show t σ H (fun vs H1 => sp (vs ++ []) H1 Q E0) = t σ H fun vs H1 => sp vs H1 Q E0
    congr 1
    funext vs H1
    rw [List.append_nil]
  rw [e] at q
  exact q
theorem pe_callD0 {k : Nat} {x : Str} {ps : List Str} {sp : Sp} {p pos : Pos} (D : Def X.prog X.w X.K X.mg X.base CX0 k x ps sp) (hr : Room k X.A) (hg : Gl X x)
    (hdb : (x == ("__debug__" : Str)) = false := by decide) : PE X (.Call (.Name x p) [] [] pos) (tCallD sp tNil) := by
  obtain ⟨f, fd, G, hm, hk, hb⟩ := D
  have q := pe_call0 (p := p) (pos := pos) G hr hg hm hk hb .nil pass0 hdb
  exact q
/-- a call of a def that may raise, where nothing is wished of it | where it is taken -/
theorem pe_callL {k : Nat} {x : Str} {ps : List Str} {sp : Sp} {p pos : Pos} {e : Expr} {es : List Expr} {t : TA} (D : Def X.prog X.w X.K X.mg X.base (L2.CX X.prog X.w) k x ps sp) (hr : Room k X.A) (hg : Gl X x) (ha : PA X (e :: es) t)
    (hdb : (x == ("__debug__" : Str)) = false := by decide) (he : starEach (e :: es) X.env = (false, eval e X.env) :: starEach es X.env := by rfl) (hpl : (backTo pos (starEach es X.env)).any (·.1) = false := by rfl) :
    PE X (.Call (.Name x p) (e :: es) [] pos) (tCallD sp t) := by
  obtain ⟨f, fd, G, hm, hk, hb⟩ := D
  have q := pe_call (p := p) (pos := pos) G hr hg hm hk hb .nil passL ha hdb he hpl
  have e : tCall sp [] E0 t = tCallD sp t := by
    funext σ H Q
    show t σ H (fun vs H1 => sp (vs ++ []) H1 Q E0) = t σ H fun vs H1 => sp vs H1 Q E0
    congr 1
    funext vs H1
    rw [List.append_nil]
  rw [e] at q
  exact q
def tCallX (sp : Sp) (W : WX) (t : TA) : TE := fun σ H Q => t σ H fun vs H1 => sp vs H1 Q (WE W σ)
theorem pe_callX {k : Nat} {x : Str} {ps : List Str} {sp : Sp} {W : WX} {p pos : Pos} {e : Expr} {es : List Expr} {t : TA} (D : Def X.prog X.w X.K X.mg X.base (L2.CX X.prog X.w) k x ps sp) (hr : Room k X.A) (hg : Gl X x) (tk : Takes X W) (ha : PA X (e :: es) t)
    (hdb : (x == ("__debug__" : Str)) = false := by decide) (he : starEach (e :: es) X.env = (false, eval e X.env) :: starEach es X.env := by rfl) (hpl : (backTo pos (starEach es X.env)).any (·.1) = false := by rfl) :
    PE X (.Call (.Name x p) (e :: es) [] pos) (tCallX sp W t) := by
  obtain ⟨f, fd, G, hm, hk, hb⟩ := D
  exact pe_callS (p := p) (pos := pos) G hr hg hm hk hb (fun σ => passAt tk σ) ha hdb he hpl
/-- an exception class of the text, without its own __init__ -/
structure ExcK (K : PySem.W.Frag) (mg : Str → Option Value) (nm : Str) (C : Addr) : Prop where
  g : mg nm = some (.ref C)
  x : ∃ (B newId initId : String) (bmB : List Value), ExcBaseFacts B newId initId bmB ∧ PySem.W.excIn K C bmB newId = true
  k : PySem.W.keepIn K (.ref C) = true
  b : PySem.W.subIn K (.ref C) (.type "BaseException") = some true
  t : PySem.W.typeIn K (.ref C) = some (.type "type")
  i : PySem.W.isClsIn K C = true
  s : PySem.W.subIn K (.ref C) (.ref C) = some true
theorem ExcK.uniq {K : PySem.W.Frag} {mg : Str → Option Value} {nm : Str} {C D : Addr} (h : ExcK K mg nm C) (q : ExcK K mg nm D) : C = D := by
  have e := h.g.symm.trans q.g
  injection e with e
  injection e
theorem ExcK.exm {K : PySem.W.Frag} {mg : Str → Option Value} {nm : Str} {S : Addr} (h : ExcK K mg nm S) : PySem.W.exmOne K (.ref S) (.ref S) = some true := by
  have e1 : (PySem.W.subIn K (.ref S) (.type "BaseException") == some true) = true := by rw [h.b] <;> rfl
  have e2 : ((PySem.W.clsIn K S).isSome && PySem.W.typeIn K (.ref S) == some (.type "type")) = true := by
    have h2 : (PySem.W.clsIn K S).isSome = true := h.i
    rw [h2, h.t] <;> rfl
  show (if (PySem.W.subIn K (.ref S) (.type "BaseException") == some true) = true then (if ((PySem.W.clsIn K S).isSome && PySem.W.typeIn K (.ref S) == some (.type "type")) = true then PySem.W.subIn K (.ref S) (.ref S) else none) else none) = some true
  rw [if_pos e1, if_pos e2]
  exact h.s
/-- raise X('..') -/
def tRaiseE (K : PySem.W.Frag) (mg : Str → Option Value) (nm : Str) (W : WX) : TS := fun _ σ H => ∀ C, ExcK K mg nm C → W (.ref C) none σ H
theorem ps_raiseE {W : WX} {nm m : Str} {j : Nat} {p p2 pos pos2 : Pos} (hc : X.calm = true) (tk : Takes X W) (h : ∃ C, ExcK X.K X.mg nm C) (hg : Gl X nm) (hdb : (nm == ("__debug__" : Str)) = false := by decide) :
    PS X (.Raise (some (.Call (.Name nm p) [.Constant (.str m) j p2] [] pos)) none pos2) (tRaiseE X.K X.mg nm W) := by
  obtain ⟨C, h⟩ := h
  obtain ⟨B, newId, initId, bmB, F, q⟩ := h.x
  have r := ps_raise (pos := pos2) hc tk (pmk_own (p := p) (p2 := p2) (m := m) (j := j) (pos := pos) F q h.g h.k (raises_own h.b h.t) hg hdb)
  exact ⟨fun pins s σ H D I hq => r.run pins s σ H D I (hq C h)⟩
/-- try: .. except X: .. -/
def tTryE (K : PySem.W.Frag) (mg : Str → Option Value) (nm : Str) (tb : WX → TS) (ts : Addr → Value → Option Addr → TS) (Wout : WX) : TS := fun D σ H => ∀ C, ExcK K mg nm C → tb (wOnly K (.ref C) ts Wout D) D σ H
theorem ps_tryE {nm : Str} {body suite : List Stmt} {b₀ : Stmt} {np pos pos' : Pos} {tb : WX → TS} {ts : Addr → Value → Option Addr → TS} {Wout : WX} (h : ∃ C, ExcK X.K X.mg nm C) (hg : Gl X nm) (hs : X.stack = X.env :: X.outer) (hf : X.env.frame = some X.env.locals) (tk : Takes X Wout)
    (hb : ∀ (W : WX) (pn : List (Addr × Obj)) (xe : Value → Shared → Prop), Takes (X.tr pn xe) W → PassesOwn (model X.prog X.w) X.A X.env xe → PSs (X.tr pn xe) body (tb W))
    (hsu : ∀ (a : Addr) (oe : Obj) (cls : Value) (d : Option Addr) (pn : List (Addr × Obj)), Zc cls d oe → (∃ vs, oe.data = .fields vs) → PSs (X.suite a ((a, oe) :: pn)) (b₀ :: suite) (ts a cls d)) (hdb : (nm == ("__debug__" : Str)) = false := by decide) :
    PS X (.Try body [.ExceptHandler (some (.Name nm np)) none (b₀ :: suite) pos'] [] [] pos) (tTryE X.K X.mg nm tb ts Wout) := by
  obtain ⟨C, h⟩ := h
  have r := ps_try_only (c := .ref C) (pos := pos) (np := np) (pos' := pos') hs hf ⟨hg, hdb, .inl h.g⟩ tk hb hsu
  exact ⟨fun pins s σ H D I hq => r.run pins s σ H D I (hq C h)⟩
theorem pe_glE {x : Str} {v : V} {pos : Pos} (hg : Gl X x) (h : ∃ u, X.mg x = some u ∧ RelV v u) (hd : (x == ("__debug__" : Str)) = false := by decide) : PE X (.Name x pos) (tC v) := by
  obtain ⟨u, h1, h2⟩ := h
  exact pe_glob hg h1 h2 hd
theorem walk_zipT {K : PySem.W.Frag} {a b : Addr} {xs ys : List V} {n : Nat} (hn : n = min xs.length ys.length) : Walk (RZ.ItzT K a b) n (fun H => SqT K H a xs ∧ SqT K H b ys) (YPair (fun i => xs[i]?) (fun i => ys[i]?)) := by
  have hx : n ≤ xs.length := hn ▸ Nat.min_le_left _ _
  have hy : n ≤ ys.length := hn ▸ Nat.min_le_right _ _
  constructor
  · intro i H hi q
    exact ⟨xs, ys, xs[i]'(by omega), ys[i]'(by omega), q.1, q.2, List.getElem?_eq_getElem _, List.getElem?_eq_getElem _⟩
  · intro H q
    exact ⟨xs, ys, q.1, q.2, by omega⟩
  · rintro i H v H' _ q ⟨T, x, z, r1, r2, r3, r4, r5⟩
    exact ⟨T, x, z, r1, r2, r3, r4 _ q.1, r5 _ q.2⟩
section
variable {r : V → Option Int → Option Int → Hp → VK → Prop} {te tl th : TE} {e a c : Expr} {pos p2 : Pos}
def tSlL (r : V → Option Int → Option Int → Hp → VK → Prop) (te tl : TE) : TE := fun σ H Q => te σ H fun x H1 => tl σ H1 fun i H2 => ∃ n, i = .int n ∧ r x (some n) none H2 Q
def tSlH (r : V → Option Int → Option Int → Hp → VK → Prop) (te th : TE) : TE := fun σ H Q => te σ H fun x H1 => th σ H1 fun i H2 => ∃ n, i = .int n ∧ r x none (some n) H2 Q
def tSlLH (r : V → Option Int → Option Int → Hp → VK → Prop) (te tl th : TE) : TE := fun σ H Q => te σ H fun x H1 => tl σ H1 fun i H2 => ∃ n, i = .int n ∧ th σ H2 fun j H3 => ∃ m, j = .int m ∧ r x (some n) (some m) H3 Q
theorem pe_slL (hr : SlR X r) (he : PE X e te) (hl : PE X a tl) : PE X (.Subscript e (.Slice (some a) none none p2) pos) (tSlL r te tl) := pe_slice hr he (po_some hl) po_none
theorem pe_slH (hr : SlR X r) (he : PE X e te) (hl : PE X a tl) : PE X (.Subscript e (.Slice none (some a) none p2) pos) (tSlH r te tl) := pe_slice hr he po_none (po_some hl)
theorem pe_slLH (hr : SlR X r) (he : PE X e te) (hl : PE X a tl) (hh : PE X c th) : PE X (.Subscript e (.Slice (some a) (some c) none p2) pos) (tSlLH r te tl th) := pe_slice hr he (po_some hl) (po_some hh)
end
def rLenU (K : PySem.W.Frag) : List V → Hp → VK → Prop := fun xs H Q => (∃ z, xs = [.str z] ∧ z.length ≤ sizeLine ∧ Q (.int z.length) H) ∨ (∃ p ys, xs = [.ref p] ∧ (SqL K H p ys ∨ SqT K H p ys) ∧ Q (.int ys.length) H)
theorem call_lenU : CallR X (.builtin "len") (rLenU X.K) := CallR.or call_len_str call_len_seq
def rListU (K : PySem.W.Frag) : List V → Hp → VK → Prop := fun xs H Q => ∃ p ys, xs = [.ref p] ∧ (SqL K H p ys ∨ SqT K H p ys) ∧ ∀ l, H l = none → Q (.ref l) (upd H l (.lst ys))
theorem call_listU : CallR X (.type "list") (rListU X.K) := call_list_of
def rTupleU (K : PySem.W.Frag) : List V → Hp → VK → Prop := fun xs H Q => ∃ p ys, xs = [.ref p] ∧ ((SqL K H p ys ∧ ∀ l, H l = none → Q (.ref l) (upd H l (.tup ys))) ∨ (SqT K H p ys ∧ Q (.ref p) H))
theorem call_tupleU : CallR X (.type "tuple") (rTupleU X.K) := call_tuple_of
/-- a power of a great base -/
def CPowW (i j : Int) : Prop := 0 ≤ j ∧ (PySem.Builtin.Int.intBits i : Int) * j ≤ 2 ^ 27
theorem op_powW : OpR X (binaryOp .Pow) (rI CPowW fun i j => .int (i ^ j.toNat)) := opI fun _ _ _ _ _ _ _ hc q => PyProof.Rows.pow_int hc.1 hc.2 q
theorem hu00 {A : Around} {k : Nat} (hr : Room k A) : A.units < cLine := by have := hr.un; omega
theorem hu64 {A : Around} {k : Nat} (hr : Room k A) : A.units + 64 < cLine := by have := hr.un; omega
end
theorem lenOk {xs : List V} (h : xs.length < 64) : xs.length ≤ sizeLine := Nat.le_trans (Nat.le_of_lt h) (by decide)
/-! ### the readings, step by step -/
local macro_rules
  | `(tactic| walk_at "hp") => `(tactic| first | assumption | exact upd_same)
local macro_rules
  | `(tactic| walk_at "cd") => `(tactic| (first | rfl | assumption | exact ⟨by decide, by decide +kernel⟩ | exact lenOk (by simp; done) | exact wide_div (by assumption) (by assumption) (by decide) (by decide) | ((try dsimp only); first | decide | omega) | exact .inl ⟨by decide, by decide⟩ | exact .inl ⟨by omega, by omega⟩ | exact .inr ⟨by omega, by omega⟩ | exact ⟨by decide, by decide⟩))
local macro_rules
  | `(tactic| walk_at "isi") => `(tactic| fail)
local macro_rules
  | `(tactic| walk_at "rd") => `(tactic| repeat first
    | refine ⟨_, rfl, ?_⟩
    | refine ⟨_, _, rfl, rfl, ?_⟩
    | refine iteT ?_
    | refine iteF ?_
    | walk_at "isi"
    | refine .inl ⟨_, rfl, And.intro (by walk_at "cd") ?_⟩
    | refine .inl ⟨_, rfl, ?_⟩
    | refine .inr ⟨_, rfl, ?_⟩
    | refine ⟨_, _, _, _, rfl, rfl, SqL.of (by walk_at "hp"), rfl, ?_⟩
    | refine ⟨_, _, _, _, rfl, rfl, (by walk_at "hp"), rfl, ?_⟩
    | refine ⟨_, _, _, _, rfl, rfl, SqT.of (by walk_at "hp"), at_of (j := 0) rfl rfl, ?_⟩
    | refine ⟨_, _, _, _, rfl, rfl, SqT.of (by walk_at "hp"), at_of (j := 1) rfl rfl, ?_⟩
    | refine ⟨_, _, _, _, rfl, rfl, SqT.of (by walk_at "hp"), at_of (j := 2) rfl rfl, ?_⟩
    | refine ⟨_, _, _, _, rfl, rfl, SqT.of (by walk_at "hp"), at_of (j := 3) rfl rfl, ?_⟩
    | refine And.intro (by walk_at "cd") ?_
    | refine ⟨_, _, rfl, ?_⟩)
/-! ### the law's bag of draws -/
def Bag (H : Hp) (b : Addr) : Prop := ∃ a m c : Int, H b = some (.lst [.int a, .int m, .int c]) ∧ 0 ≤ a ∧ a < 10 ^ 611 ∧ 0 ≤ m ∧ m < 2 ^ 62 ∧ 0 ≤ c
structure Ext (b : Addr) (H H' : Hp) : Prop where
  same : ∀ p o, p ≠ b → H p = some o → H' p = some o
  bag : Bag H' b
theorem ext_put {H : Hp} {b : Addr} {a m c : Int} (h1 : 0 ≤ a) (h2 : a < 10 ^ 611) (h3 : 0 ≤ m) (h4 : m < 2 ^ 62) (h5 : 0 ≤ c) : Ext b H (upd H b (.lst [.int a, .int m, .int c])) :=
  ⟨fun p o hp e => by rw [upd_ne hp]; exact e, a, m, c, upd_same, h1, h2, h3, h4, h5⟩
theorem Ext.trans {b : Addr} {H H1 H2 : Hp} (e : Ext b H H1) (f : Ext b H1 H2) : Ext b H H2 := ⟨fun p o hp q => f.same p o hp (e.same p o hp q), f.bag⟩
theorem Bag.ne {H : Hp} {b p : Addr} (h : Bag H b) (q : H p = none) : p ≠ b := fun e => by
  obtain ⟨a, m, c, h1, _⟩ := h
  rw [e, h1] at q; cases q
theorem Ext.new {b p : Addr} {H H1 : Hp} {o : HO} (e : Ext b H H1) (q : H1 p = none) : Ext b H (upd H1 p o) := by
  have hn := e.bag.ne q
  refine ⟨fun r u hr hu => ?_, ?_⟩
  · have h1 := e.same r u hr hu
    rw [upd_ne (ne_of_none h1 q)]
    exact h1
  · obtain ⟨a, m, c, h1, h2⟩ := e.bag
    exact ⟨a, m, c, by rw [upd_ne hn.symm]; exact h1, h2⟩
theorem Ext.refl {b : Addr} {H : Hp} (h : Bag H b) : Ext b H H := ⟨fun _ _ _ e => e, h⟩
theorem Ext.seqL {K : PySem.W.Frag} {b a : Addr} {H H' : Hp} {xs : List V} (e : Ext b H H') (hn : a ≠ b) (h : SqL K H a xs) : SqL K H' a xs := by
  rcases h with (h | ⟨o, h⟩) | h
  · exact .inl (.inl (e.same _ _ hn h))
  · exact .inl (.inr ⟨o, e.same _ _ hn h⟩)
  · exact .inr h

theorem Ext.seqT {K : PySem.W.Frag} {b a : Addr} {H H' : Hp} {xs : List V} (e : Ext b H H') (hn : a ≠ b) (h : SqT K H a xs) : SqT K H' a xs := by
  rcases h with (h | ⟨o, h⟩) | h
  · exact .inl (.inl (e.same _ _ hn h))
  · exact .inl (.inr ⟨o, e.same _ _ hn h⟩)
  · exact .inr h
theorem Ext.ofS {b : Addr} {H H' : Hp} (h : Bag H b) (e : Same H H') : Ext b H H' := ⟨fun p o _ q => e p o q, by
  obtain ⟨a, m, c, h1, h2⟩ := h
  exact ⟨a, m, c, e _ _ h1, h2⟩⟩
/-! ### rules that the layer lacks -/
section
variable {X : Cx}
/-- text * int -/
def rMulS : R2 := fun x y H Q => ∃ z n, x = .str z ∧ y = .int n ∧ 2 ≤ n ∧ n ≤ 1000 ∧ 0 < z.length ∧ z.length ≤ 1000 ∧ (⟨(List.replicate n.toNat z.cps).foldl (· ++ ·) #[]⟩ : Str).length ≤ sizeLine ∧ Q (.str ⟨(List.replicate n.toNat z.cps).foldl (· ++ ·) #[]⟩) H
theorem op_mulS : OpR X (binaryOp .Mult) rMulS := by
  intro pins s σ H x y v u Q I rx ry hw
  obtain ⟨z, n, rfl, rfl, h2, h3, h4, h5, h9, q⟩ := hw
  obtain ⟨t, rfl⟩ := rx
  obtain ⟨t', rfl⟩ := ry
  have e1 : (n == 1 || z.length == 0) = false := by
    rw [Bool.or_eq_false_iff]
    exact ⟨beq_eq_false_iff_ne.mpr (by omega), beq_eq_false_iff_ne.mpr (by omega)⟩
  have hm : z.length * n.toNat ≤ 1000 * 1000 := Nat.mul_le_mul h5 (by omega)
  refine PySem.P.mul_str (by rw [decide_eq_false (by omega), decide_eq_false (by omega)] <;> rfl) (fun _ _ => ?_) (fun _ _ => ?_) ?_
  · have : (2 ^ 63 - 1) / n ≥ (2 ^ 63 - 1) / 1000 := by
      have h0 : (2 ^ 63 - 1 : Int) / 1000 * n ≤ 2 ^ 63 - 1 := by
        have : (2 ^ 63 - 1 : Int) / 1000 * n ≤ (2 ^ 63 - 1) / 1000 * 1000 := Int.mul_le_mul_of_nonneg_left h3 (by decide)
        exact Int.le_trans this (by decide)
      exact Int.le_ediv_of_mul_le (by omega) h0
    have h6 : ((2 ^ 63 - 1 : Int) / 1000) ≥ 1000 := by decide
    omega
  · unfold Builtin.Str.tooLong
    rw [PySem.sizeLine_eq]
    exact decide_eq_false (by omega)
  · rw [if_neg (by omega), e1, if_neg Bool.false_ne_true]
    exact ⟨h9, .str _, H, I.tok _, ⟨_, rfl⟩, q⟩
/-- repr of a truth value -/
def rReprB : List V → Hp → VK → Prop := fun xs H Q => ∃ b : Bool, xs = [.bl b] ∧ Q (.str (if b then "True" else "False")) H
theorem call_reprB : CallR X (.builtin "repr") rReprB := by
  intro pins s σ H xs us Q I r hw
  obtain ⟨b, rfl, q⟩ := hw
  obtain ⟨u, rfl, rx⟩ := vals1 r
  cases rx
  exact PySem.P.repr_of_bool ⟨.str _, H, I.tok _, ⟨_, rfl⟩, q⟩
theorem tup_mul0 (l : Addr) (items : Array Value) (n : Nat) (dd : Option Addr) (sl : Array (Option Value)) (x : Int) (u : Tok) (c0 : (decide (x < -(2 ^ 63)) || decide (x ≥ 2 ^ 63)) = false) (c1 : (items.isEmpty || x == 1) = true) :
    Meets (Builtin.«tuple.__mul__» ⟨[.ref l, .int x u], []⟩) (fun _ R s => s.heap.get? l = some { cls := .type "tuple", dict := dd, data := .seq items n, slots := sl } ∧ R (.ok (.ret (Value.ref l))) s) :=
  .of_wp fun prog w A R s h => by
    obtain ⟨hp, g, d, tk, os⟩ := s
    obtain ⟨hl, h⟩ := h
    have f1 := AutoSeq1.idx_int
    wp_walk using wpAny_loadPart' hl
    repeat (first
      | (refine wpAny_ite_false (decide_eq_false (by rw [c0]; exact Bool.false_ne_true)) ?_; wp_walk using wpAny_loadPart' hl)
      | (refine wpAny_ite_true (decide_eq_true (by rw [c1])) ?_; wp_walk using wpAny_loadPart' hl))
    exact ⟨_, rfl, h⟩
/-- tuple * int, the empty one too -/
def rRepA (K : PySem.W.Frag) : R2 := fun x y H Q => ∃ l k xs, x = .ref l ∧ y = .int k ∧ SqT K H l xs ∧ 2 ≤ k ∧ k ≤ 1000 ∧ xs.length ≤ 1000 ∧ (xs = [] → Q (.ref l) H) ∧ (xs ≠ [] → ∀ p, H p = none → Q (.ref p) (upd H p (.tup (List.replicate k.toNat xs).flatten)))
theorem op_repA : OpR X (binaryOp .Mult) (rRepA X.K) := by
  intro pins s σ H x y v u Q I rx ry hw
  obtain ⟨l, k, xs, rfl, rfl, hT, h1, h2, hz, q0, q1⟩ := hw
  by_cases hx : xs = []
  · cases rx
    obtain ⟨t, rfl⟩ := ry
    obtain ⟨its, r, ⟨⟨cls, dd, data, sl⟩, ho, hc, n, hd⟩, _⟩ := I.tuple hT
    simp only at hc hd
    subst hc hd hx
    cases r
    refine wpAny_binaryOp_repeat_ref (T := "tuple") (U := "int") (by decide) ⟨_, ho, rfl⟩ (fun s' => typeIs_int s' k t) noFill_tuple_mul F.fills_int_mul F.slot_int_rmul repeat_tuple F.slot_int_index.lookup
      (call_meets F.slot_int_rmul (typeIs_int s k t) F.entry_int_rmul (F.args_int_rmul_2 _ _) (int_rmul_tuple k t l _ n dd sl)
        ⟨ho, rfl, ⟨_, ho, rfl⟩, call_meets F.slot_tuple_mul ⟨_, ho, rfl⟩ F.entry_tuple_mul (F.args_tuple_mul_2 _ _) (tup_mul0 l _ n dd sl k t (by rw [decide_eq_false (by omega), decide_eq_false (by omega)] <;> rfl) rfl) ⟨ho, ⟨.ref l, H, I, rfl, q0 rfl⟩⟩⟩)
  · exact op_repT pins s σ H _ _ v u Q I rx ry ⟨l, k, xs, rfl, rfl, hT, hx, h1, h2, hz, q1 hx⟩
end
/-! ### == and != of two tuples, two lists, by their flat items as far as both go -/
section
variable {X : Cx}
def eqS (xs ys : List V) : Bool := (List.range (min xs.length ys.length)).all (fun j => eqV (xs.getD j .non) (ys.getD j .non)) && xs.length == ys.length
def rEqS (K : PySem.W.Frag) (neg : Bool) : R2 := fun x y H Q => ∃ a b xs ys, x = .ref a ∧ y = .ref b ∧ ((SqT K H a xs ∧ SqT K H b ys) ∨ (SqL K H a xs ∧ SqL K H b ys)) ∧
  (∀ j, j < min xs.length ys.length → flatV (xs.getD j .non) = true ∧ flatV (ys.getD j .non) = true) ∧ Q (.bl (if neg then !eqS xs ys else eqS xs ys)) H
theorem items_at {A : Around} {s : Shared} {xs ys : List V} {us vs : List Value} (r : Vals xs us) (q : Vals ys vs) (hf : ∀ j, j < min xs.length ys.length → flatV (xs.getD j .non) = true ∧ flatV (ys.getD j .non) = true) :
    ∀ j (h1 : j < us.toArray.size) (h2 : j < vs.toArray.size), SeqAt.EqAt A s us.toArray[j] vs.toArray[j] ((fun j => eqV (xs.getD j .non) (ys.getD j .non)) j) := fun j h1 h2 => by
  have l1 := r.length
  have l2 := q.length
  have h1' : j < us.length := by simpa using h1
  have h2' : j < vs.length := by simpa using h2
  have e1 : xs[j]? = some (xs.getD j .non) := by rw [List.getD_eq_getElem?_getD, List.getElem?_eq_getElem (by omega)]; rfl
  have e2 : ys[j]? = some (ys.getD j .non) := by rw [List.getD_eq_getElem?_getD, List.getElem?_eq_getElem (by omega)]; rfl
  obtain ⟨u, hu, ru⟩ := r.get e1
  obtain ⟨v, hv, rv⟩ := q.get e2
  obtain ⟨f1, f2⟩ := hf j (by omega)
  have hu' : us.toArray[j] = u := by
    rw [List.getElem?_eq_getElem h1'] at hu
    simpa using hu
  have hv' : vs.toArray[j] = v := by
    rw [List.getElem?_eq_getElem h2'] at hv
    simpa using hv
  rw [hu', hv']
  exact eqAt_V ru rv f1 f2
theorem op_eqS (hu : X.A.units < cLine) : OpR X (compareOp .Eq) (rEqS X.K false) := by
  intro pins s σ H x y v u Q I rx ry hw
  obtain ⟨a, b, xs, ys, rfl, rfl, hq, hf, q⟩ := hw
  cases rx
  cases ry
  rcases hq with ⟨ha, hb⟩ | ⟨ha, hb⟩
  · obtain ⟨i1, r1, p1, _⟩ := I.tuple ha
    obtain ⟨i2, r2, p2, _⟩ := I.tuple hb
    refine SeqAt.eq_tupleAt p1 p2 hu (items_at r1 r2 hf) ⟨.bl _, H, I, ?_, q⟩
    show Value.bool _ = Value.bool (eqS xs ys)
    unfold eqS
    rw [r1.length, r2.length, List.size_toArray, List.size_toArray]
  · obtain ⟨i1, r1, p1, _⟩ := I.list ha
    obtain ⟨i2, r2, p2, _⟩ := I.list hb
    by_cases hz : i1.length = i2.length
    · refine SeqAt.eq_listAt p1.isList p2.isList (by simpa using hz) hu (items_at r1 r2 hf) ⟨.bl _, H, I, ?_, q⟩
      show Value.bool _ = Value.bool (eqS xs ys)
      unfold eqS
      rw [r1.length, r2.length, List.size_toArray, ← hz, Nat.min_self, beq_self_eq_true, Bool.and_true]
    · refine SeqAt.eq_list_lengthsAt p1.isList p2.isList (by simpa using hz) hu ⟨.bl _, H, I, ?_, q⟩
      show Value.bool false = Value.bool (eqS xs ys)
      unfold eqS
      rw [r1.length, r2.length, beq_eq_false_iff_ne.mpr hz, Bool.and_false]
theorem op_neS (hu : X.A.units < cLine) : OpR X (compareOp .NotEq) (rEqS X.K true) := by
  intro pins s σ H x y v u Q I rx ry hw
  obtain ⟨a, b, xs, ys, rfl, rfl, hq, hf, q⟩ := hw
  cases rx
  cases ry
  rcases hq with ⟨ha, hb⟩ | ⟨ha, hb⟩
  · obtain ⟨i1, r1, p1, _⟩ := I.tuple ha
    obtain ⟨i2, r2, p2, _⟩ := I.tuple hb
    refine SeqAt.RcNeAt.tuples p1 p2 hu (items_at r1 r2 hf) X.prog X.w X.xe _ ⟨.bl _, H, I, ?_, q⟩
    show Value.bool _ = Value.bool (!eqS xs ys)
    unfold eqS
    rw [r1.length, r2.length, List.size_toArray, List.size_toArray]
  · obtain ⟨i1, r1, p1, _⟩ := I.list ha
    obtain ⟨i2, r2, p2, _⟩ := I.list hb
    by_cases hz : i1.length = i2.length
    · refine SeqAt.RcNeAt.lists p1.isList p2.isList (by simpa using hz) hu (items_at r1 r2 hf) X.prog X.w X.xe _ ⟨.bl _, H, I, ?_, q⟩
      show Value.bool _ = Value.bool (!eqS xs ys)
      unfold eqS
      rw [r1.length, r2.length, List.size_toArray, ← hz, Nat.min_self, beq_self_eq_true, Bool.and_true]
    · refine SeqAt.RcNeAt.lists_lengths p1.isList p2.isList (by simpa using hz) hu X.prog X.w X.xe _ ⟨.bl _, H, I, ?_, q⟩
      show Value.bool true = Value.bool (!eqS xs ys)
      unfold eqS
      rw [r1.length, r2.length, beq_eq_false_iff_ne.mpr hz, Bool.and_false, Bool.not_false]
end
/-! ### list(text) -/
theorem paired_of {α β : Type} {F : α → β → Prop} : ∀ {ps : List α} {kvs : List β}, ps.length = kvs.length → (∀ (i : Nat) p kv, ps[i]? = some p → kvs[i]? = some kv → F p kv) → Paired F ps kvs
  | [], [], _, _ => .nil
  | p :: ps, kv :: kvs, hl, h => .cons (h 0 p kv rfl rfl) (paired_of (Nat.succ.inj hl) fun i q u h1 h2 => h (i + 1) q u h1 h2)
  | [], _ :: _, hl, _ => by cases hl
  | _ :: _, [], hl, _ => by cases hl
theorem call_listS {X : Cx} (hc : X.A.handled = none) : CallR X (.type "list") (fun xs H Q => ∃ z : Str, xs = [.str z] ∧ z.length ≤ 1000 ∧ ∀ p, H p = none → Q (.ref p) (upd H p (.lst (z.cps.toList.map fun c => .str (Str.mk #[c]))))) := by
  intro pins s σ H xs us Q I r hw
  obtain ⟨z, rfl, hz, q⟩ := hw
  obtain ⟨u, rfl, rx⟩ := vals1 r
  obtain ⟨t, rfl⟩ := rx
  have hz2 : z.cps.size ≤ sizeLine := Nat.le_trans hz (by decide)
  refine PySem.call_list_str hc z t (fun h' tk acc' c' hh hs hi => ?_) hz2
  refine ⟨.ref _, _, I.laid (t' := tk) (o := .lst (z.cps.toList.map fun c => .str (Str.mk #[c]))) hh (Nat.le_refl _) ?_, rfl, q _ (I.hok.fresh (Nat.le_refl _))⟩
  have hv : Vals (z.cps.toList.map fun c => V.str (Str.mk #[c])) acc'.toList := by
    refine paired_of (by rw [List.length_map, Array.length_toList, Array.length_toList, hi.1]) fun i x u h1 h2 => ?_
    rw [List.getElem?_map] at h1
    obtain ⟨c, hc1, rfl⟩ := Option.map_eq_some_iff.mp h1
    obtain ⟨c2, t2, e1, rfl⟩ := hi.2 i u (by simpa using h2)
    have e2 : z.cps[i]? = some c := by simpa using hc1
    rw [e2] at e1
    cases e1
    exact ⟨t2, rfl⟩
  exact ⟨by rw [List.length_map, Array.length_toList]; exact hz2, acc'.toList, c', hv, by rw [Array.toArray_toList]; exact hs⟩

/-! ### t[::-1] of a tuple -/
section
variable {prog : Program} {w : World} {A : Around} {E : Value → Shared → Prop} {s : Shared}
theorem pick_back (xs : Array Value) : ((List.range xs.size).filterMap fun (k : Nat) => xs[(((xs.size : Int) - 1) + (k : Int) * -1).toNat]?).toArray = xs.toList.reverse.toArray := by
  have h := PySem.W.krv_pick xs
  rw [← h]
  unfold slicePick
  rw [PySem.W.krv_bounds]
  show _ = ((sliceRange ((xs.size : Int) - 1) (-1) (-1)).filterMap (xs[·]?)).toArray
  rw [PySem.W.krv_sliceRange, List.filterMap_map]
  have e : (fun (k : Nat) => xs[(((xs.size : Int) - 1) + (k : Int) * -1).toNat]?) = (fun x => xs[x]?) ∘ fun k => xs.size - 1 - k := by
    funext k
    have e2 : (((xs.size : Int) - 1) + (k : Int) * -1).toNat = xs.size - 1 - k := by omega
    show xs[(((xs.size : Int) - 1) + (k : Int) * -1).toNat]? = xs[xs.size - 1 - k]?
    rw [e2]
  rw [e]
theorem tuple_back {t sl : Addr} {items : Array Value} {u : Tok} {Q : Value → Shared → Prop} (ht : PyProof.Rows.IsTup s.heap t items) (hs : s.heap.IsSliceOf sl .none .none (.int (-1) u))
    (h : Q (.ref s.heap.objs.size) { s with heap := s.heap.push { cls := .type "tuple", data := .seq items.toList.reverse.toArray } }) (hsz : items.size ≤ sizeLine) : wpAny (model prog w) A (getItem (.ref t) (.ref sl)) Q E s := by
  obtain ⟨os, hos, hcs, hds⟩ := id hs
  have tyS : s.TypeIs (.ref sl) "slice" := ⟨os, hos, hcs⟩
  unfold getItem
  try with_reducible refine wpAny_holding ?_
  first | refine wpAny_bind (wpAny_pure ?_) | skip
  refine wpAny_bind (wpAny_sequenceKey ht.typeIs (by decide) ?_)
  refine wpAny_bind (wpAny_callSpecial?_slot (name := Str.ofString "__getitem__") ht.typeIs PyProof.Rows.slot_tuple_getitem (wpAny_call_entry PyProof.Rows.slot_tuple_getitem ht.typeIs PyProof.Rows.entry_tuple_getitem ?_ (PyProof.Rows.args_tuple_getitem _ _)))
  show wpAny _ _ (Builtin.Tuple.tupleItemsOf (.ref t) >>= _) _ _ s
  refine wpAny_bind (PyProof.Rows.tupleItemsOf_ ht (wpAny_bind (wpAny_typeOf tyS ?_)))
  rw [if_pos (by decide)]
  refine wpAny_bind ?_
  unfold Builtin.Slice.sliceApplied Builtin.Slice.sliceFields
  refine wpAny_bind (wpAny_bind (wpAny_field hos hds (x := .none) rfl (wpAny_bind (wpAny_field hos hds (x := .none) rfl (wpAny_bind (wpAny_field hos hds (x := .int (-1) u) rfl (wpAny_pure ?_)))))))
  refine wpAny_bind (PyProof.Rows.slicePart_int ?_)
  show wpAny _ _ (if ((-1 : Int) == 0) = true then _ else _) _ _ s
  rw [if_neg (by decide)]
  refine wpAny_bind (PyProof.Rows.slicePart_none (wpAny_bind (PyProof.Rows.slicePart_none (wpAny_bind (wpAny_pure ?_)))))
  have ea : Builtin.Slice.sliceAdjust Option.none Option.none (-1) (items.size : Int) = ((items.size : Int) - 1, -1) := rfl
  have ep : Builtin.Slice.slicePlaces ((items.size : Int) - 1) (-1) (-1) = items.size := by
    unfold Builtin.Slice.slicePlaces
    have h1 : ¬ ((-1 : Int) > 0) := by omega
    have h2 : ((items.size : Int) - 1 - -1 - 1) / (- -1) = (items.size : Int) - 1 := by rw [show (- -1 : Int) = 1 by decide, Int.ediv_one]; omega
    simp only [h1, if_false, h2]
    split <;> omega
  show wpAny _ _ (match Builtin.Slice.sliceAdjust Option.none Option.none (-1) (items.size : Int) with | (lo, hi) => pure (lo, (-1 : Int), Builtin.Slice.slicePlaces lo hi (-1))) _ _ s
  rw [ea]
  show wpAny _ _ (pure ((items.size : Int) - 1, (-1 : Int), Builtin.Slice.slicePlaces ((items.size : Int) - 1) (-1) (-1))) _ _ s
  rw [ep]
  refine wpAny_pure ?_
  show wpAny _ _ (if ((items.size : Int) - 1 == 0 && (-1 : Int) == 1 && items.size == items.size) = true then _ else _) _ _ s
  rw [if_neg (by rw [show ((-1 : Int) == 1) = false from rfl, Bool.and_false, Bool.false_and]; exact Bool.false_ne_true), pick_back]
  have hz : PySem.sizeOk (.seq items.toList.reverse.toArray) := by
    show items.toList.reverse.toArray.size ≤ sizeLine
    rw [List.size_toArray, List.length_reverse, Array.length_toList]
    exact hsz
  first
    | exact wpAny_bind (m := Builtin.Tuple.tupleExact _) (wpAny_newObj_type (wpAny_pure ⟨_, rfl, wpAny_pure h⟩) hz)
    | exact wpAny_bind (m := Builtin.Tuple.tupleExact _) (wpAny_newObj_type (wpAny_bind (wpAny_pure (wpAny_pure ⟨_, rfl, wpAny_pure h⟩))) hz)
    | exact wpAny_bind (wpAny_bind (m := Builtin.Tuple.tupleExact _) (wpAny_newObj_type (wpAny_pure (wpAny_pure ⟨_, rfl, wpAny_pure h⟩)) hz))
    | exact wpAny_bind (wpAny_bind (m := Builtin.Tuple.tupleExact _) (wpAny_newObj_type (wpAny_pure ⟨_, rfl, wpAny_pure h⟩) hz))
end
section
variable {X : Cx}
def tRevT (K : PySem.W.Frag) (te : TE) : TE := fun σ H Q => te σ H fun x H1 => ∃ a xs, x = .ref a ∧ SqT K H1 a xs ∧ ∀ p, H1 p = none → Q (.ref p) (upd H1 p (.tup xs.reverse))
theorem pe_revT {e : Expr} {te : TE} {k : Nat} {p1 p2 p3 pos : Pos} (he : PE X e te) : PE X (.Subscript e (.Slice none none (some (.UnaryOp .USub (.Constant (.int 1) k p1) p2)) p3) pos) (tRevT X.K te) := by
  constructor
  intro pins s σ H Q I hw
  refine PyProof.Rows.Subscript_ (thn (he.run pins s σ H _ I hw) fun v s1 ⟨x, H1, I1, r1, a, xs, ex, hx, q⟩ => ?_)
  subst ex
  cases r1
  have st : PO X (some (.UnaryOp .USub (.Constant (.int 1) k p1) p2)) (tPart (tUn (rU fun i => .int (-i)) (tC (.int 1)))) := po_some (pe_un un_neg pe_int)
  refine wpAny_Slice (thn (po_none.run pins s1 σ H1 (fun o H2 => o = none ∧ H2 = H1) I1 ⟨rfl, rfl⟩) fun vl s2 ⟨o2, H2, I2, pl, eo2, eH2⟩ => ?_)
  subst eo2 eH2
  refine thn (po_none.run pins s2 σ H2 (fun o H3 => o = none ∧ H3 = H2) I2 ⟨rfl, rfl⟩) fun vu s3 ⟨o3, H3, I3, pu, eo3, eH3⟩ => ?_
  subst eo3 eH3
  refine thn (st.run pins s3 σ H3 (fun o H4 => o = some (-1) ∧ H4 = H3) I3 ⟨1, rfl, -1, rfl, rfl, rfl⟩) fun vs s4 ⟨o4, H4, I4, ps, eo4, eH4⟩ => ?_
  subst eo4 eH4
  cases pl
  cases pu
  cases ps with
  | int _ tk =>
    have I5 : Inv X pins σ H4 { s4 with heap := s4.heap.push { cls := .type "slice", data := .fields #[.none, .none, .int (-1) tk] } } := I4.kept (t' := s4.toks) fun b ob z => Heap.get?_push_of_some _ z
    obtain ⟨its, r, ht, hz⟩ := I5.tuple hx
    have hlen := r.length
    refine PyProof.Rows.tail_any (ops := [.ref a, .ref s4.heap.objs.size]) ht.typeIs PyProof.Rows.slot_tuple_getitem.lookup ?_ (by with_unfolding_all rfl)
    refine tuple_back ht (Heap.IsSliceOf.new _ Value.none Value.none (.int (-1) tk)) ?_ (by rw [List.size_toArray]; omega)
    refine ⟨.ref _, _, I5.laid (t' := s4.toks) (o := .tup xs.reverse) (fun b ob z => Heap.get?_push_of_some _ z) (Nat.le_refl _) ?_, rfl, q _ (I5.hok.fresh (Nat.le_refl _))⟩
    exact ⟨by rw [List.length_reverse]; exact hz, its.reverse, r.reverse, PyProof.Rows.IsTup.new _ _⟩
end

/-! ### data: what a value reads as, apart from the bag -/
mutual
inductive Da (b : Addr) (H : Hp) : V → PyData → Prop
  | non : Da b H .non .none
  | bl (x : Bool) : Da b H (.bl x) (.bool x)
  | int (i : Int) : Da b H (.int i) (.int i)
  | str (x : Str) : Da b H (.str x) (.str x)
  | lst {a : Addr} {xs : List V} {ds : List PyData} : a ≠ b → H a = some (.lst xs) → DaAll b H xs ds → Da b H (.ref a) (.list ds)
  | tup {a : Addr} {xs : List V} {ds : List PyData} : a ≠ b → H a = some (.tup xs) → DaAll b H xs ds → Da b H (.ref a) (.tuple ds)
  | dic {a : Addr} {kvs : List (Key × V)} : a ≠ b → H a = some (.dK kvs) → Da b H (.ref a) (.dict [])
inductive DaAll (b : Addr) (H : Hp) : List V → List PyData → Prop
  | nil : DaAll b H [] []
  | cons {v : V} {vs : List V} {d : PyData} {ds : List PyData} : Da b H v d → DaAll b H vs ds → DaAll b H (v :: vs) (d :: ds)
end
mutual
theorem Da.mono {b : Addr} {H H' : Hp} (e : ∀ p o, p ≠ b → H p = some o → H' p = some o) : ∀ (d : PyData) (v : V), Da b H v d → Da b H' v d
  | .none, _, h => by cases h; exact .non
  | .bool x, _, h => by cases h; exact .bl x
  | .int i, _, h => by cases h; exact .int i
  | .str x, _, h => by cases h; exact .str x
  | .list ds, _, h => by
    cases h with
    | lst n q r => exact .lst n (e _ _ n q) (DaAll.mono e ds _ r)
  | .tuple ds, _, h => by
    cases h with
    | tup n q r => exact .tup n (e _ _ n q) (DaAll.mono e ds _ r)
  | .dict _, _, h => by
    cases h with
    | dic n q => exact .dic n (e _ _ n q)
theorem DaAll.mono {b : Addr} {H H' : Hp} (e : ∀ p o, p ≠ b → H p = some o → H' p = some o) : ∀ (ds : List PyData) (vs : List V), DaAll b H vs ds → DaAll b H' vs ds
  | [], _, h => by cases h; exact .nil
  | d :: ds, _, h => by
    cases h with
    | cons h1 h2 => exact .cons (Da.mono e d _ h1) (DaAll.mono e ds _ h2)
end
theorem Da.ext {b : Addr} {H H' : Hp} {v : V} {d : PyData} (h : Da b H v d) (e : Ext b H H') : Da b H' v d := Da.mono e.same d v h
theorem Da.same {b : Addr} {H H' : Hp} {v : V} {d : PyData} (h : Da b H v d) (e : Same H H') : Da b H' v d := Da.mono (fun p o _ q => e p o q) d v h
theorem DaAll.ext {b : Addr} {H H' : Hp} {vs : List V} {ds : List PyData} (h : DaAll b H vs ds) (e : Ext b H H') : DaAll b H' vs ds := DaAll.mono e.same ds vs h
theorem DaAll.same {b : Addr} {H H' : Hp} {vs : List V} {ds : List PyData} (h : DaAll b H vs ds) (e : Same H H') : DaAll b H' vs ds := DaAll.mono (fun p o _ q => e p o q) ds vs h
theorem DaAll.len {b : Addr} {H : Hp} : ∀ {ds : List PyData} {vs : List V}, DaAll b H vs ds → vs.length = ds.length
  | [], _, h => by cases h; rfl
  | d :: ds, _, h => by
    cases h with
    | cons h1 h2 => rw [List.length_cons, List.length_cons, DaAll.len h2]
theorem DaAll.get {b : Addr} {H : Hp} : ∀ {ds : List PyData} {vs : List V} {i : Nat} {v : V}, DaAll b H vs ds → vs[i]? = some v → ∃ d, ds[i]? = some d ∧ Da b H v d
  | [], _, i, v, h, e => by cases h; simp at e
  | d :: ds, _, 0, v, h, e => by
    cases h with
    | cons h1 h2 =>
      have e' := Option.some.inj e
      subst e'
      exact ⟨d, rfl, h1⟩
  | d :: ds, _, i + 1, v, h, e => by
    cases h with
    | cons h1 h2 => exact DaAll.get (i := i) h2 e
theorem DaAll.at {b : Addr} {H : Hp} : ∀ {ds : List PyData} {vs : List V} {i : Nat} {d : PyData}, DaAll b H vs ds → ds[i]? = some d → ∃ v, vs[i]? = some v ∧ Da b H v d
  | [], _, i, v, h, e => by simp at e
  | d :: ds, _, 0, v, h, e => by
    cases h with
    | cons h1 h2 =>
      have e' := Option.some.inj e
      subst e'
      exact ⟨_, rfl, h1⟩
  | d :: ds, _, i + 1, v, h, e => by
    cases h with
    | cons h1 h2 => exact DaAll.at (i := i) h2 e
theorem DaAll.app {b : Addr} {H : Hp} : ∀ {ds es : List PyData} {vs us : List V}, DaAll b H vs ds → DaAll b H us es → DaAll b H (vs ++ us) (ds ++ es)
  | [], _, _, _, h, q => by cases h; exact q
  | d :: ds, _, _, _, h, q => by
    cases h with
    | cons h1 h2 => exact .cons h1 (DaAll.app h2 q)
theorem DaAll.take {b : Addr} {H : Hp} : ∀ {ds : List PyData} {vs : List V} (n : Nat), DaAll b H vs ds → DaAll b H (vs.take n) (ds.take n)
  | _, _, 0, _ => .nil
  | [], _, n + 1, h => by cases h; exact .nil
  | d :: ds, _, n + 1, h => by
    cases h with
    | cons h1 h2 => exact .cons h1 (DaAll.take n h2)
theorem DaAll.drop {b : Addr} {H : Hp} : ∀ {ds : List PyData} {vs : List V} (n : Nat), DaAll b H vs ds → DaAll b H (vs.drop n) (ds.drop n)
  | _, _, 0, h => h
  | [], _, n + 1, h => by cases h; exact .nil
  | d :: ds, _, n + 1, h => by
    cases h with
    | cons h1 h2 => exact DaAll.drop n h2
def tyN : PyData → String
  | .none => "NoneType" | .bool _ => "bool" | .int _ => "int" | .str _ => "str" | .list _ => "list" | .tuple _ => "tuple" | .dict _ => "dict"
theorem Da.ty {b : Addr} {H : Hp} {v : V} {d : PyData} {K : PySem.W.Frag} (h : Da b H v d) : TyX K H v (.type (tyN d)) := by
  cases h with
  | non => exact .base .non
  | bl x => exact .base (.bl x)
  | int i => exact .base (.int i)
  | str x => exact .base (.str x)
  | lst n q r => exact .base (.lst q)
  | tup n q r => exact .base (.tup q)
  | dic n q => exact .base (.dK q)
def isI : PyData → Bool | .int _ => true | .bool _ => true | _ => false
def isB : PyData → Bool | .bool _ => true | _ => false
def isS : PyData → Bool | .str _ => true | _ => false
def isT : PyData → Bool | .tuple _ => true | _ => false
theorem Da.isTup {b : Addr} {H : Hp} {v : V} {d : PyData} (h : Da b H v d) (e : (!isT d) = false) : ∃ a xs ds, v = .ref a ∧ d = .tuple ds ∧ a ≠ b ∧ H a = some (.tup xs) ∧ DaAll b H xs ds := by
  cases h with
  | tup n q r => exact ⟨_, _, _, rfl, rfl, n, q, r⟩
  | _ => cases e
theorem Da.isStr {b : Addr} {H : Hp} {v : V} {d : PyData} (h : Da b H v d) (e : (!isS d) = false) : ∃ z, v = .str z ∧ d = .str z := by
  cases h with
  | str z => exact ⟨z, rfl, rfl⟩
  | _ => cases e
theorem not_tup {d : PyData} (e : (!isT d) = true) : isT d = false := by
  cases h : isT d <;> simp_all
theorem not_str {d : PyData} (e : (!isS d) = true) : isS d = false := by
  cases h : isS d <;> simp_all
theorem kit_int {K : PySem.W.Frag} : ∀ d : PyData, PySem.W.kitOne K (.type (tyN d)) (.type "int") = some (isI d)
  | .none => kit_ty (show kitB "NoneType" "int" = some false by decide +kernel)
  | .bool _ => kit_ty (show kitB "bool" "int" = some true by decide +kernel)
  | .int _ => kit_ty (show kitB "int" "int" = some true by decide +kernel)
  | .str _ => kit_ty (show kitB "str" "int" = some false by decide +kernel)
  | .list _ => kit_ty (show kitB "list" "int" = some false by decide +kernel)
  | .tuple _ => kit_ty (show kitB "tuple" "int" = some false by decide +kernel)
  | .dict _ => kit_ty (show kitB "dict" "int" = some false by decide +kernel)
theorem kit_bool {K : PySem.W.Frag} : ∀ d : PyData, PySem.W.kitOne K (.type (tyN d)) (.type "bool") = some (isB d)
  | .none => kit_ty (show kitB "NoneType" "bool" = some false by decide +kernel)
  | .bool _ => kit_ty (show kitB "bool" "bool" = some true by decide +kernel)
  | .int _ => kit_ty (show kitB "int" "bool" = some false by decide +kernel)
  | .str _ => kit_ty (show kitB "str" "bool" = some false by decide +kernel)
  | .list _ => kit_ty (show kitB "list" "bool" = some false by decide +kernel)
  | .tuple _ => kit_ty (show kitB "tuple" "bool" = some false by decide +kernel)
  | .dict _ => kit_ty (show kitB "dict" "bool" = some false by decide +kernel)
theorem kit_str {K : PySem.W.Frag} : ∀ d : PyData, PySem.W.kitOne K (.type (tyN d)) (.type "str") = some (isS d)
  | .none => kit_ty (show kitB "NoneType" "str" = some false by decide +kernel)
  | .bool _ => kit_ty (show kitB "bool" "str" = some false by decide +kernel)
  | .int _ => kit_ty (show kitB "int" "str" = some false by decide +kernel)
  | .str _ => kit_ty (show kitB "str" "str" = some true by decide +kernel)
  | .list _ => kit_ty (show kitB "list" "str" = some false by decide +kernel)
  | .tuple _ => kit_ty (show kitB "tuple" "str" = some false by decide +kernel)
  | .dict _ => kit_ty (show kitB "dict" "str" = some false by decide +kernel)
theorem kit_tuple {K : PySem.W.Frag} : ∀ d : PyData, PySem.W.kitOne K (.type (tyN d)) (.type "tuple") = some (isT d)
  | .none => kit_ty (show kitB "NoneType" "tuple" = some false by decide +kernel)
  | .bool _ => kit_ty (show kitB "bool" "tuple" = some false by decide +kernel)
  | .int _ => kit_ty (show kitB "int" "tuple" = some false by decide +kernel)
  | .str _ => kit_ty (show kitB "str" "tuple" = some false by decide +kernel)
  | .list _ => kit_ty (show kitB "list" "tuple" = some false by decide +kernel)
  | .tuple _ => kit_ty (show kitB "tuple" "tuple" = some true by decide +kernel)
  | .dict _ => kit_ty (show kitB "dict" "tuple" = some false by decide +kernel)
local macro_rules
  | `(tactic| walk_at "isi") => `(tactic| first
    | refine ⟨_, _, _, _, _, rfl, .ty _, Da.ty (by assumption), kit_int _, ?_⟩
    | refine ⟨_, _, _, _, _, rfl, .ty _, Da.ty (by assumption), kit_bool _, ?_⟩
    | refine ⟨_, _, _, _, _, rfl, .ty _, Da.ty (by assumption), kit_str _, ?_⟩
    | refine ⟨_, _, _, _, _, rfl, .ty _, Da.ty (by assumption), kit_tuple _, ?_⟩)
/-! ### comprehensions -/
section
variable {J : It} {n : Nat} {G : Hp → Prop} {Y : Nat → Hp → V → Hp → Prop}
/-- what a comprehension over a walk hands out: for each turn some value or none -/
def outs (f : Nat → Option V) : Nat → List V
  | 0 => []
  | n + 1 => outs f n ++ (f n).toList
theorem outs_len (f : Nat → Option V) : ∀ n, (outs f n).length ≤ n
  | 0 => Nat.le_refl _
  | n + 1 => by
    have := outs_len f n
    unfold outs
    rw [List.length_append]
    cases f n <;> simp <;> omega
def fOf {α : Type} (xs : List α) (F : α → Option V) : Nat → Option V := fun i => xs[i]?.bind F
theorem fOf_at {α : Type} {xs : List α} {F : α → Option V} {i : Nat} {x : α} (h : xs[i]? = some x) : fOf xs F i = F x := by
  unfold fOf; rw [h]; rfl
theorem outs_of {α : Type} (xs : List α) (F : α → Option V) : ∀ n, n ≤ xs.length → outs (fOf xs F) n = (xs.take n).filterMap F
  | 0, _ => by rw [List.take_zero]; rfl
  | n + 1, h => by
    have hx : xs[n]? = some (xs[n]'h) := List.getElem?_eq_getElem h
    show outs (fOf xs F) n ++ (fOf xs F n).toList = _
    rw [outs_of xs F n (Nat.le_of_succ_le h), fOf_at hx, List.take_add_one, hx, List.filterMap_append]
    have e : (F (xs[n]'h)).toList = List.filterMap F [xs[n]'h] := by cases e : F (xs[n]'h) <;> simp [e]
    rw [e]
    rfl
theorem outs_all {α : Type} (xs : List α) (F : α → Option V) : outs (fOf xs F) xs.length = xs.filterMap F := by rw [outs_of xs F _ (Nat.le_refl _), List.take_length]
theorem fm_some {α : Type} (xs : List α) (F : α → V) : xs.filterMap (fun x => some (F x)) = xs.map F := by
  induction xs with
  | nil => rfl
  | cons x l ih => rw [List.filterMap_cons, List.map_cons, ih]
theorem Same.new {H H1 : Hp} {p : Addr} {o : HO} (e : Same H H1) (q : H1 p = none) : Same H (upd H1 p o) := fun b u h => by
  rw [upd_ne (ne_of_none (e b u h) q)]
  exact e b u h
theorem Same.put {H H1 : Hp} {p : Addr} {o : HO} (e : Same H H1) (q : H p = none) : Same H (upd H1 p o) := fun b u h => by
  rw [upd_ne (ne_of_none h q)]
  exact e b u h
theorem Same.seqT {K : PySem.W.Frag} {H H' : Hp} {a : Addr} {xs : List V} (e : Same H H') (h : SqT K H a xs) : SqT K H' a xs := by
  rcases h with (h | ⟨o, h⟩) | h
  · exact .inl (.inl (e _ _ h))
  · exact .inl (.inr ⟨o, e _ _ h⟩)
  · exact .inr h
theorem cutV_whole {xs : List V} {lo hi : Option Int} (h : HT.sIx xs.length 0 lo = 0 ∧ HT.sIx xs.length xs.length hi = xs.length) : cutV xs lo hi = xs := by
  unfold cutV
  rw [h.1, h.2, List.drop_zero, Nat.sub_zero, List.take_length]
/-- a slice of a tuple: the tuple itself or a new one -/
theorem sla_join {K : PySem.W.Frag} {H : Hp} {Q : VK} {a : Addr} {xs : List V} {lo hi : Option Int} (h : SqT K H a xs) (k : ∀ p H', Same H H' → SqT K H' p (cutV xs lo hi) → (p = a ∧ H' = H ∨ H p = none ∧ H' = upd H p (.tup (cutV xs lo hi))) → Q (.ref p) H') : rSlA K (.ref a) lo hi H Q :=
  ⟨a, xs, rfl, h, fun hw => k a H (Same.refl _) (by rw [cutV_whole hw]; exact h) (.inl ⟨rfl, rfl⟩), fun _ p hp => k p _ (Same.new (Same.refl _) hp) (SqT.of upd_same) (.inr ⟨hp, rfl⟩)⟩
theorem cut_from (xs : List V) (n : Nat) : cutV xs (some (n : Int)) none = xs.drop n := by
  unfold cutV
  rw [HT.sIx_nat, HT.sIx_none]
  by_cases h : n ≤ xs.length
  · rw [Nat.min_eq_left h, List.take_of_length_le (by rw [List.length_drop]; exact Nat.le_refl _)]
  · rw [Nat.min_eq_right (by omega), List.drop_length, List.drop_of_length_le (by omega)]
    simp
theorem cut_to (xs : List V) (n : Nat) : cutV xs none (some (n : Int)) = xs.take n := by
  unfold cutV
  rw [HT.sIx_nat, HT.sIx_none, List.drop_zero, Nat.sub_zero]
  by_cases h : n ≤ xs.length
  · rw [Nat.min_eq_left h]
  · rw [Nat.min_eq_right (by omega), List.take_length, List.take_of_length_le (by omega)]
/-- a comprehension whose element leaves all that stood -/
theorem lc_pure (w : Walk J n G Y) (hn : n < sizeLine) {g : TG} {tt : TT} {te : TE} {vs : List Nat} {σ : L2.St} {H1 : Hp} {D : Addr} {Qd : Hp → Prop} (hD : H1 D = none) (f : Nat → Option V)
    (hG : ∀ H, Same H1 H → G H)
    (hs : ∀ i x H H' (R : Option V → Hp → Prop), i < n → Same H1 H → Y i H x H' → (∀ H4, Same H H4 → R (f i) H4) → g x (wipe σ vs) H' fun σ2 H2 => wipe σ2 vs = wipe σ vs ∧ tt σ2 H2 fun b H3 => if b = true then te σ2 H3 fun y H4 => R (some y) H4 else R none H3)
    (hd : ∀ H, Same H1 H → H D = some (.lst (outs f n)) → Qd H) :
    ∃ W : Nat → Nat → Hp → Prop, (∃ m, W 0 m (upd H1 D (.lst []))) ∧ ∀ i m H, W i m H →
      (J.stop i H ∧ Qd H) ∨ (J.go i H ∧ ∃ Nx : Hp → Prop, (∀ H', Nx H' → ∃ m', m' < m ∧ W (i + 1) m' H') ∧ ∀ x H', J.yld i H x H' → g x (wipe σ vs) H' fun σ2 H2 => wipe σ2 vs = wipe σ vs ∧ tt σ2 H2 fun b H3 =>
        if b = true then te σ2 H3 fun y H4 => ∃ acc, H4 D = some (.lst acc) ∧ acc.length < sizeLine ∧ Nx (upd H4 D (.lst (acc ++ [y]))) else Nx H3) := by
  refine lc_it w (fun i H => Same H1 H ∧ H D = some (.lst (outs f i))) ⟨Same.new (Same.refl _) hD, upd_same⟩ (fun i H _ p => hG H p.1) (fun i x H H' hi p y => ?_) fun H p => hd H p.1 p.2
  refine hs i x H H' (fun o H4 => match o with | some y => ∃ acc, H4 D = some (.lst acc) ∧ acc.length < sizeLine ∧ (fun i H => Same H1 H ∧ H D = some (.lst (outs f i))) (i + 1) (upd H4 D (.lst (acc ++ [y]))) | none => (fun i H => Same H1 H ∧ H D = some (.lst (outs f i))) (i + 1) H4) hi p.1 y fun H4 e4 => ?_
  have hl := outs_len f i
  cases hf : f i with
  | none =>
    refine ⟨p.1.trans e4, ?_⟩
    have e : outs f (i + 1) = outs f i := by
      show outs f i ++ (f i).toList = _
      rw [hf]; simp
    rw [e]
    exact e4 _ _ p.2
  | some y =>
    refine ⟨outs f i, e4 _ _ p.2, by omega, Same.put (p.1.trans e4) hD, ?_⟩
    have e : outs f (i + 1) = outs f i ++ [y] := by
      show outs f i ++ (f i).toList = _
      rw [hf]; rfl
    rw [e]
    exact upd_same
theorem outs_empty (f : Nat → Option V) : ∀ n, (outs f n).isEmpty = true ↔ ∀ i, i < n → f i = none
  | 0 => ⟨fun _ i hi => absurd hi (Nat.not_lt_zero i), fun _ => rfl⟩
  | n + 1 => by
    unfold outs
    have e : ∀ xs ys : List V, (xs ++ ys).isEmpty = (xs.isEmpty && ys.isEmpty) := fun xs ys => by cases xs <;> rfl
    rw [e, Bool.and_eq_true, outs_empty f n]
    constructor
    · rintro ⟨h1, h2⟩ i hi
      rcases Nat.lt_succ_iff_lt_or_eq.mp hi with h | rfl
      · exact h1 i h
      · cases hf : f i with
        | none => rfl
        | some y => rw [hf] at h2; cases h2
    · intro h
      refine ⟨fun i hi => h i (by omega), ?_⟩
      rw [h n (Nat.lt_succ_self n)]; rfl
/-- a comprehension without a test, whose element makes a tuple of flat items -/
theorem lc_tups (w : Walk J n G Y) (hn : n < sizeLine) {g : TG} {te : TE} {vs : List Nat} {σ : L2.St} {H1 : Hp} {D : Addr} {Qd : Hp → Prop} (hD : H1 D = none) (t : Nat → List V)
    (hG : ∀ H, Same H1 H → G H)
    (hs : ∀ i x H H' (R : V → Hp → Prop), i < n → Same H1 H → Y i H x H' → (∀ p H4, Same H H4 → H4 p = some (.tup (t i)) → R (.ref p) H4) → g x (wipe σ vs) H' fun σ2 H2 => wipe σ2 vs = wipe σ vs ∧ te σ2 H2 R)
    (hd : ∀ H (ps : List Addr), Same H1 H → H D = some (.lst (ps.map V.ref)) → ps.length = n → (∀ (i : Nat) p, ps[i]? = some p → H p = some (.tup (t i))) → Qd H) :
    ∃ W : Nat → Nat → Hp → Prop, (∃ m, W 0 m (upd H1 D (.lst []))) ∧ ∀ i m H, W i m H →
      (J.stop i H ∧ Qd H) ∨ (J.go i H ∧ ∃ Nx : Hp → Prop, (∀ H', Nx H' → ∃ m', m' < m ∧ W (i + 1) m' H') ∧ ∀ x H', J.yld i H x H' → g x (wipe σ vs) H' fun σ2 H2 => wipe σ2 vs = wipe σ vs ∧ tYes σ2 H2 fun b H3 =>
        if b = true then te σ2 H3 fun y H4 => ∃ acc, H4 D = some (.lst acc) ∧ acc.length < sizeLine ∧ Nx (upd H4 D (.lst (acc ++ [y]))) else Nx H3) := by
  refine lc_it w (fun i H => Same H1 H ∧ ∃ ps : List Addr, H D = some (.lst (ps.map V.ref)) ∧ ps.length = i ∧ ∀ (j : Nat) p, ps[j]? = some p → H p = some (.tup (t j))) ⟨Same.new (Same.refl _) hD, [], upd_same, rfl, fun _ _ z => by simp at z⟩ (fun i H _ p => hG H p.1) (fun i x H H' hi p y => ?_)
    fun H p => by obtain ⟨p1, ps, p2, p3, p4⟩ := p; exact hd H ps p1 p2 p3 p4
  obtain ⟨p1, ps, p2, p3, p4⟩ := p
  refine hs i x H H' (fun y H4 => ∃ acc, H4 D = some (.lst acc) ∧ acc.length < sizeLine ∧ (fun i H => Same H1 H ∧ ∃ ps : List Addr, H D = some (.lst (ps.map V.ref)) ∧ ps.length = i ∧ ∀ (j : Nat) p, ps[j]? = some p → H p = some (.tup (t j))) (i + 1) (upd H4 D (.lst (acc ++ [y])))) hi p1 y fun p H4 e4 hp => ?_
  have q4 := e4 _ _ p2
  have hpD : p ≠ D := fun e => by rw [e, q4] at hp; cases hp
  refine ⟨ps.map V.ref, q4, by rw [List.length_map]; omega, Same.put (p1.trans e4) hD, ps ++ [p], by rw [List.map_append]; exact upd_same, by rw [List.length_append, List.length_singleton, p3], fun j r hr => ?_⟩
  by_cases hj : j < ps.length
  · rw [List.getElem?_append_left hj] at hr
    have h1 := e4 _ _ (p4 j r hr)
    have hne : r ≠ D := fun e => by rw [e, q4] at h1; cases h1
    rw [upd_ne hne]
    exact h1
  · rw [List.getElem?_append_right (by omega)] at hr
    have h0 : j - ps.length = 0 := by
      by_cases h0 : j - ps.length = 0
      · exact h0
      · rw [List.getElem?_eq_none (by simp; omega)] at hr; cases hr
    rw [h0] at hr
    have e := Option.some.inj hr
    subst e
    rw [upd_ne hpD, show j = i by omega]
    exact hp
/-- a comprehension whose element draws: all made values are as T tells -/
theorem lc_draw {b : Addr} (w : Walk J n G Y) (hn : n < sizeLine) {g : TG} {tt : TT} {te : TE} {vs : List Nat} {σ : L2.St} {H1 : Hp} {D : Addr} {Qd : Hp → Prop} (hB : Bag H1 b) (hD : H1 D = none) (T : V → Prop) (all : Bool)
    (hG : ∀ H, Ext b H1 H → G H)
    (hs : ∀ i x H H' (R : Option V → Hp → Prop), i < n → Ext b H1 H → Y i H x H' → (∀ y H4, Ext b H H4 → T y → R (some y) H4) → (all = false → ∀ H4, Ext b H H4 → R none H4) → g x (wipe σ vs) H' fun σ2 H2 => wipe σ2 vs = wipe σ vs ∧ tt σ2 H2 fun b H3 => if b = true then te σ2 H3 fun y H4 => R (some y) H4 else R none H3)
    (hd : ∀ H acc, Ext b H1 H → H D = some (.lst acc) → D ≠ b → (∀ y ∈ acc, T y) → acc.length ≤ n → (all = true → acc.length = n) → Qd H) :
    ∃ W : Nat → Nat → Hp → Prop, (∃ m, W 0 m (upd H1 D (.lst []))) ∧ ∀ i m H, W i m H →
      (J.stop i H ∧ Qd H) ∨ (J.go i H ∧ ∃ Nx : Hp → Prop, (∀ H', Nx H' → ∃ m', m' < m ∧ W (i + 1) m' H') ∧ ∀ x H', J.yld i H x H' → g x (wipe σ vs) H' fun σ2 H2 => wipe σ2 vs = wipe σ vs ∧ tt σ2 H2 fun b H3 =>
        if b = true then te σ2 H3 fun y H4 => ∃ acc, H4 D = some (.lst acc) ∧ acc.length < sizeLine ∧ Nx (upd H4 D (.lst (acc ++ [y]))) else Nx H3) := by
  have hDb : D ≠ b := hB.ne hD
  refine lc_it w (fun i H => Ext b H1 H ∧ ∃ acc, H D = some (.lst acc) ∧ (∀ y ∈ acc, T y) ∧ acc.length ≤ i ∧ (all = true → acc.length = i)) ⟨(Ext.refl hB).new hD, [], upd_same, fun _ z => by simp at z, Nat.le_refl _, fun _ => rfl⟩ (fun i H _ p => hG H p.1) (fun i x H H' hi p y => ?_)
    fun H p => by obtain ⟨p1, acc, p2, p3, p4, p5⟩ := p; exact hd H acc p1 p2 hDb p3 p4 p5
  obtain ⟨p1, acc, p2, p3, p4, p5⟩ := p
  refine hs i x H H' (fun o H4 => match o with | some y => ∃ acc, H4 D = some (.lst acc) ∧ acc.length < sizeLine ∧ (fun i H => Ext b H1 H ∧ ∃ acc, H D = some (.lst acc) ∧ (∀ y ∈ acc, T y) ∧ acc.length ≤ i ∧ (all = true → acc.length = i)) (i + 1) (upd H4 D (.lst (acc ++ [y]))) | none => (fun i H => Ext b H1 H ∧ ∃ acc, H D = some (.lst acc) ∧ (∀ y ∈ acc, T y) ∧ acc.length ≤ i ∧ (all = true → acc.length = i)) (i + 1) H4) hi p1 y (fun y H4 e4 t => ?_) fun ha H4 e4 => ?_
  · have q4 := e4.same D _ hDb p2
    refine ⟨acc, q4, by omega, ⟨fun p o hp q => ?_, ?_⟩, acc ++ [y], upd_same, fun z hz => ?_, ?_, fun ha => ?_⟩
    · have q1 := e4.same p o hp (p1.same p o hp q)
      rw [upd_ne (ne_of_none q hD)]
      exact q1
    · obtain ⟨a, m, c, h1, h2⟩ := e4.bag
      exact ⟨a, m, c, by rw [upd_ne hDb.symm]; exact h1, h2⟩
    · rcases List.mem_append.mp hz with hz | hz
      · exact p3 z hz
      · rw [List.mem_singleton.mp hz]; exact t
    · rw [List.length_append, List.length_singleton]; omega
    · rw [List.length_append, List.length_singleton, p5 ha]
  · exact ⟨p1.trans e4, acc, e4.same D _ hDb p2, p3, by omega, fun z => by rw [ha] at z; cases z⟩
end
/-! ### making tuples of data -/
section
variable {K : PySem.W.Frag} {b a c : Addr} {H : Hp} {Q : VK} {ds es : List PyData}
theorem Da.tupNew {xs : List V} {p : Addr} (hB : Bag H b) (h : DaAll b H xs ds) (hp : H p = none) : Da b (upd H p (.tup xs)) (.ref p) (.tuple ds) := .tup (hB.ne hp) upd_same (h.same (Same.new (Same.refl _) hp))
theorem Da.lstNew {xs : List V} {p : Addr} (hB : Bag H b) (h : DaAll b H xs ds) (hp : H p = none) : Da b (upd H p (.lst xs)) (.ref p) (.list ds) := .lst (hB.ne hp) upd_same (h.same (Same.new (Same.refl _) hp))
theorem cat_da (hB : Bag H b) (ha : Da b H (.ref a) (.tuple ds)) (hc : Da b H (.ref c) (.tuple es)) (hz : ds.length + es.length ≤ sizeLine) (k : ∀ p H', Same H H' → Da b H' (.ref p) (.tuple (ds ++ es)) → Q (.ref p) H') : rCatA K (.ref a) (.ref c) H Q := by
  cases ha with
  | tup n1 q1 r1 =>
    cases hc with
    | tup n2 q2 r2 =>
      refine ⟨a, c, _, _, rfl, rfl, SqT.of q1, SqT.of q2, by rw [r1.len, r2.len]; exact hz, fun e => ?_, fun _ e => ?_, fun _ _ p hp => k p _ (Same.new (Same.refl _) hp) (Da.tupNew hB (r1.app r2) hp)⟩
      · subst e
        cases r1
        exact k c H (Same.refl _) (.tup n2 q2 r2)
      · subst e
        cases r2
        rw [List.append_nil] at k
        exact k a H (Same.refl _) (.tup n1 q1 r1)
def cutD (ds : List PyData) (lo hi : Option Int) : List PyData := List.take (HT.sIx ds.length ds.length hi - HT.sIx ds.length 0 lo) (List.drop (HT.sIx ds.length 0 lo) ds)
theorem DaAll.cut {xs : List V} {lo hi : Option Int} (h : DaAll b H xs ds) : DaAll b H (cutV xs lo hi) (cutD ds lo hi) := by
  unfold cutV cutD
  rw [h.len]
  exact (h.drop _).take _
theorem sl_da {lo hi : Option Int} (hB : Bag H b) (ha : Da b H (.ref a) (.tuple ds)) (k : ∀ p H', Same H H' → Da b H' (.ref p) (.tuple (cutD ds lo hi)) → Q (.ref p) H') : rSlA K (.ref a) lo hi H Q := by
  cases ha with
  | tup n1 q1 r1 =>
    refine ⟨a, _, rfl, SqT.of q1, fun hw => k a H (Same.refl _) (.tup n1 q1 ?_), fun _ p hp => k p _ (Same.new (Same.refl _) hp) (Da.tupNew hB r1.cut hp)⟩
    have q := r1.cut (lo := lo) (hi := hi)
    rw [cutV_whole hw] at q
    exact q
theorem rep_da (hB : Bag H b) (ha : Da b H (.ref a) (.tuple ds)) (hz : ds.length ≤ 1000) (k : ∀ p H', Same H H' → Da b H' (.ref p) (.tuple (ds ++ ds)) → Q (.ref p) H') : rRepA K (.ref a) (.int 2) H Q := by
  cases ha with
  | tup n1 q1 r1 =>
    refine ⟨a, 2, _, rfl, rfl, SqT.of q1, by decide, by decide, by rw [r1.len]; exact hz, fun e => ?_, fun _ p hp => k p _ (Same.new (Same.refl _) hp) ?_⟩
    · subst e
      cases r1
      exact k a H (Same.refl _) (.tup n1 q1 .nil)
    · have e : ∀ xs : List V, (List.replicate (Int.toNat 2) xs).flatten = xs ++ xs := fun xs => by
        show (List.replicate 2 xs).flatten = _
        simp [List.replicate]
      rw [e]
      exact Da.tupNew hB (r1.app r1) hp
theorem eqS_nil (xs : List V) : eqS xs [] = xs.isEmpty := by
  unfold eqS
  rw [List.length_nil, Nat.min_zero]
  cases xs <;> rfl
theorem eqNilL {neg : Bool} {p q : Addr} {xs : List V} (h1 : H p = some (.lst xs)) (h2 : H q = some (.lst [])) (k : Q (.bl (if neg then !xs.isEmpty else xs.isEmpty)) H) : rEqS K neg (.ref p) (.ref q) H Q := by
  refine ⟨p, q, xs, [], rfl, rfl, .inr ⟨SqL.of h1, SqL.of h2⟩, fun j hj => absurd hj (by rw [List.length_nil, Nat.min_zero]; exact Nat.not_lt_zero _), ?_⟩
  rw [eqS_nil]
  exact k
theorem eqNil_da {q : Addr} {neg : Bool} (ha : Da b H (.ref a) (.tuple ds)) (hq : H q = none) (k : Same H (upd H q (.tup [])) → Q (.bl (if neg then !ds.isEmpty else ds.isEmpty)) (upd H q (.tup []))) : rEqS K neg (.ref a) (.ref q) (upd H q (.tup [])) Q := by
  cases ha with
  | @tup _ xs _ n1 q1 r1 =>
    have hs : Same H (upd H q (.tup [])) := Same.new (Same.refl _) hq
    refine ⟨a, q, xs, [], rfl, rfl, .inl ⟨Same.seqT hs (SqT.of q1), SqT.of upd_same⟩, fun j hj => absurd hj (by rw [List.length_nil, Nat.min_zero]; exact Nat.not_lt_zero _), ?_⟩
    rw [eqS_nil]
    have e : xs.isEmpty = ds.isEmpty := by cases r1 <;> rfl
    rw [e]
    exact k hs
end

structure Txt (K : PySem.W.Frag) (mg : Str → Option Value) : Prop where
  b_len : mg "len" = none
  b_sum : mg "sum" = none
  b_int : mg "int" = none
  b_abs : mg "abs" = none
  b_max : mg "max" = none
  b_isinstance : mg "isinstance" = none
  b_bool : mg "bool" = none
  b_str : mg "str" = none
  b_all : mg "all" = none
  b_tuple : mg "tuple" = none
  b_zip : mg "zip" = none
  b_list : mg "list" = none
  b_sorted : mg "sorted" = none
  b_dict : mg "dict" = none
  b_range : mg "range" = none
  b_repr : mg "repr" = none
  b_min : mg "min" = none
  c_INTEGER_BOUND : ∃ u, mg "INTEGER_BOUND" = some u ∧ RelV (.int (1000000000000000000000000000000000000000000000000000000000000)) u
  c_MAX_NAME : ∃ u, mg "MAX_NAME" = some u ∧ RelV (.int (8)) u
  c_NAME_LETTERS : ∃ u, mg "NAME_LETTERS" = some u ∧ RelV (.str "abcdefghijklmnopqrstuvwxyz") u
  c_MOST_LINE : ∃ u, mg "MOST_LINE" = some u ∧ RelV (.int (3)) u
  c_WITHIN : ∃ u, mg "WITHIN" = some u ∧ RelV (.str "within") u
  c_ALIKE : ∃ u, mg "ALIKE" = some u ∧ RelV (.str "alike") u
  c_ANSWERED : ∃ u, mg "ANSWERED" = some u ∧ RelV (.str "answered") u
  c_MOST : ∃ u, mg "MOST" = some u ∧ RelV (.str "most") u
  c_MOST_ANSWERS : ∃ u, mg "MOST_ANSWERS" = some u ∧ RelV (.int (99)) u
  c_AHEAD : ∃ u, mg "AHEAD" = some u ∧ RelV (.str "ahead") u
  c_MOST_AHEAD : ∃ u, mg "MOST_AHEAD" = some u ∧ RelV (.int (3)) u
  c_TOLD : ∃ u, mg "TOLD" = some u ∧ RelV (.str "told") u
  e_InvalidPromise : ∃ C, ExcK K mg "InvalidPromise" C
section
variable {P : Program} {w : World} {K : PySem.W.Frag} {mg : Str → Option Value} {base : Heap}
theorem max_bd {x D B : Int} (hD : 0 ≤ D) (h1 : x < B) (hB : 0 < B) : 0 ≤ (if x - D > 0 then x - D else 0) ∧ (if x - D > 0 then x - D else 0) < B := by
  split <;> omega
theorem cut_take1 (ns : List Int) : cutV (ns.map V.int) none (some 1) = (ns.take 1).map V.int := by
  cases ns with
  | nil => rfl
  | cons a l =>
    have e : cutV ((a :: l).map V.int) none (some 1) = ((a :: l).map V.int).take 1 := by
      unfold cutV
      show ((a :: l).map V.int).take (HT.sIx _ _ (some ((1 : Nat) : Int)) - 0) = _
      rw [HT.sIx_nat, Nat.sub_zero, Nat.min_eq_left (by simp)]
    rw [e]
    rfl
abbrev s_law_bag : Stmt := topS 26
abbrev N_law_bag : List Str := ["_law_script", "_law_at", "_law_cell", "_law_great", "_law_mixed"]
abbrev P_law_bag : List Str := ["_law_script", "_law_at"]
def sp_law_bag (K : PySem.W.Frag) (mg : Str → Option Value) : Sp := fun vs H Q E => ∃ (a : Addr) (ns : List Int) (i : Nat), vs = [.ref a, .int (i : Int)] ∧ SqL K H a (ns.map V.int) ∧ ns.length ≤ 63 ∧ ∀ b H', (∀ q o, H q = some o → H' q = some o) → H b = none → Bag H' b → Q (.ref b) H'
theorem sc_law_bag : FnScope N_law_bag P_law_bag (defScope s_law_bag) := ⟨rfl, rfl, rfl, by decide +kernel, rfl, by decide +kernel, by decide +kernel⟩
theorem ok_law_bag (F : FunD K mg "_law_bag" s_law_bag P_law_bag) (T : Txt K mg)  : Def P w K mg base CX0 1 "_law_bag" P_law_bag (sp_law_bag K mg) := by
  refine F.ok sc_law_bag (fun vs H Q E h => by obtain ⟨a, ns, i, rfl, h⟩ := h; rfl) (fun f cdv A outer s H vs Q E hr h => ?_)
  obtain ⟨a, ns, i, rfl, h⟩ := h
  refine ⟨_, (Evl.pss_cut (ps_set (i := 2) sc_law_bag.nd rfl (Or.inl rfl) (pe_ifExp (pt_cmpR op_lt (pv 1) (pe_callB (call_lenU : CallR _ _ (rLenU K)) (by rfl) T.b_len (by decide +kernel) (pa_cons (pv 0) pa_nil)) (nomark _)) (pe_ix (ix_list : IxR _ (rIxL K)) (pv 0) (pv 1) (fun _ _ => rfl)) (pe_op op_add (pe_op op_add (pe_callB ((cr_sum rfl) : CallR _ _ (rSum K)) (by rfl) T.b_sum (by decide +kernel) (pa_cons (pe_slH (sl_list : SlR _ (rSlL K)) (pv 0) pe_int) pa_nil)) (pe_op op_mul pe_int (pv 1))) pe_int)))
      (pss_cons (ps_set (i := 3) sc_law_bag.nd rfl (Or.inl rfl) (pe_op op_mod (pe_callTy call_int1 (by rfl) T.b_int (by decide +kernel) (pa_cons (pe_callB call_abs (by rfl) T.b_abs (by decide +kernel) (pa_cons (pv 2) pa_nil)) pa_nil)) (pe_op op_powW (pe_op op_pow pe_int pe_int) pe_int)))
      (pss_cons (ps_set (i := 4) sc_law_bag.nd rfl (Or.inl rfl) (pe_op op_add (pe_op op_add (pe_op op_add (pe_op op_mul (pe_op op_mod (pe_callTy call_int1 (by rfl) T.b_int (by decide +kernel) (pa_cons (pv 3) pa_nil)) pe_int) pe_int) (pe_op op_mul pe_int (pv 1))) (pe_op op_mul pe_int (pe_callTy call_int1 (by rfl) T.b_int (by decide +kernel) (pa_cons (pe_cmpR op_lt (pv 2) pe_int (nomark _)) pa_nil)))) pe_int))
      (pss_one (ps_ret (pe_lst (pa_cons (pe_callB (call_max2 rfl) (by rfl) T.b_max (by decide +kernel) (pa_cons pe_int (pa_cons (pe_op op_sub (pv 3) (pe_op op_pow pe_int pe_int)) pa_nil))) (pa_cons (pe_op op_mod (pe_callTy call_int1 (by rfl) T.b_int (by decide +kernel) (pa_cons (pv 4) pa_nil)) pe_int) (pa_cons pe_int pa_nil))))))))), ?_⟩
  obtain ⟨hS, hl, k⟩ := h
  refine ⟨fun σ' H' => ∃ c : Int, σ' = [some (.ref a), some (.int (i : Int)), some (.int c), none, none] ∧ Same H H', ?_, ?_⟩
  · walk_at "rd"
    refine .inr ⟨a, _, rfl, .inl hS, ?_⟩
    walk_at "rd"
    refine ite2 (fun h0 => ?_) (fun h0 => ?_)
    · have h1 : i < ns.length := by
        have := of_decide_eq_true h0
        rw [List.length_map] at this
        omega
      refine ⟨_, rfl, _, rfl, a, _, _, _, rfl, rfl, hS, atI_nat (by rw [List.getElem?_map, List.getElem?_eq_getElem h1]; rfl), ?_⟩
      exact ⟨_, rfl, Same.refl H⟩
    · walk_at "rd"
      refine ⟨a, _, rfl, hS, fun p hp => ?_⟩
      refine ⟨p, ns.take 1, rfl, SqL.of (by rw [upd_same, cut_take1]), ?_⟩
      walk_at "rd"
      exact fun b o e => by rw [upd_ne (ne_of_none e hp)]; exact e
  · rintro σ' H' ⟨c, rfl, hs⟩
    walk_at "rd"
    refine fun p hp => ?_
    refine k p _ (fun q o e => by rw [upd_ne (ne_of_none (hs q o e) hp)]; exact hs q o e) (hs.free hp) ⟨_, _, _, upd_same, ?_⟩
    have e1 : ((10 : Int) ^ Int.toNat 47) ^ Int.toNat 13 = 10 ^ 611 := by decide +kernel
    have g1 := Int.emod_lt_of_pos (if c < 0 then -c else c) (show (0 : Int) < (10 ^ Int.toNat 47) ^ Int.toNat 13 by rw [e1]; decide +kernel)
    rw [e1] at g1 ⊢
    obtain ⟨b1, b2⟩ := max_bd (D := 10 ^ Int.toNat 18) (by decide) g1 (by decide +kernel)
    exact ⟨b1, b2, Int.emod_nonneg _ (by decide), Int.lt_of_lt_of_le (Int.emod_lt_of_pos _ (by decide)) (by decide), Int.le_refl _⟩
abbrev s_law_draw : Stmt := topS 27
abbrev N_law_draw : List Str := ["_law_bag_here", "_law_total", "_law_found", "_law_one", "_law_two"]
abbrev P_law_draw : List Str := ["_law_bag_here", "_law_total"]
def sp_law_draw (K : PySem.W.Frag) (mg : Str → Option Value) : Sp := fun vs H Q E => ∃ (b : Addr) (n : Int), vs = [.ref b, .int n] ∧ Bag H b ∧ 0 < n ∧ n.natAbs < 2 ^ 2000 ∧ ∀ H' r, Ext b H H' → 0 ≤ r → r < n → Q (.int r) H'
theorem sc_law_draw : FnScope N_law_draw P_law_draw (defScope s_law_draw) := ⟨rfl, rfl, rfl, by decide +kernel, rfl, by decide +kernel, by decide +kernel⟩
theorem ok_law_draw (F : FunD K mg "_law_draw" s_law_draw P_law_draw) (T : Txt K mg)  : Def P w K mg base CX0 1 "_law_draw" P_law_draw (sp_law_draw K mg) := by
  refine F.ok sc_law_draw (fun vs H Q E h => by obtain ⟨b, n, rfl, h⟩ := h; rfl) (fun f cdv A outer s H vs Q E hr h => ?_)
  obtain ⟨b, n, rfl, h⟩ := h
  refine ⟨_, (pss_cons (ps_if (pt_cmpR op_gt (pe_ix (ix_list : IxR _ (rIxL K)) (pv 0) pe_int (fun _ _ => rfl)) pe_int (nomark _)) (pss_cons (ps_set (i := 2) sc_law_draw.nd rfl (Or.inl rfl) (pe_op op_mod (pe_callTy call_int1 (by rfl) T.b_int (by decide +kernel) (pa_cons (pe_ix (ix_list : IxR _ (rIxL K)) (pv 0) pe_int (fun _ _ => rfl)) pa_nil)) (pv 1)))
      (pss_cons (ps_asg (pe_op op_fdivW (pe_ix (ix_list : IxR _ (rIxL K)) (pv 0) pe_int (fun _ _ => rfl)) (pv 1)) (pg_sub (pv 0) pe_int set_list))
      (pss_one (ps_ret (pv 2))))) pss_nil)
      (pss_cons (ps_asg (pe_op op_add (pe_ix (ix_list : IxR _ (rIxL K)) (pv 0) pe_int (fun _ _ => rfl)) pe_int) (pg_sub (pv 0) pe_int set_list))
      (pss_cons (ps_set (i := 3) sc_law_draw.nd rfl (Or.inl rfl) (pe_op op_mod (pe_callTy call_int1 (by rfl) T.b_int (by decide +kernel) (pa_cons (pe_op op_add (pe_ix (ix_list : IxR _ (rIxL K)) (pv 0) pe_int (fun _ _ => rfl)) (pe_op op_mul pe_int (pe_ix (ix_list : IxR _ (rIxL K)) (pv 0) pe_int (fun _ _ => rfl)))) pa_nil)) pe_int))
      (pss_cons (ps_set (i := 4) sc_law_draw.nd rfl (Or.inl rfl) (pe_op op_add (pe_op op_mul (pe_op op_mod (pe_callTy call_int1 (by rfl) T.b_int (by decide +kernel) (pa_cons (pe_op op_mul (pv 3) (pv 3)) pa_nil)) pe_int) (pv 3)) (pe_op op_mul pe_int (pe_ix (ix_list : IxR _ (rIxL K)) (pv 0) pe_int (fun _ _ => rfl)))))
      (pss_one (ps_ret (pe_op op_mod (pe_callTy call_int1 (by rfl) T.b_int (by decide +kernel) (pa_cons (pe_op op_fdiv (pe_op op_mod (pe_callTy call_int1 (by rfl) T.b_int (by decide +kernel) (pa_cons (pv 4) pa_nil)) pe_int) pe_int) pa_nil)) (pv 1)))))))), ?_⟩
  obtain ⟨⟨a, m, c, hb, ha, ha2, hm, hm2, hc⟩, hn, hn2, k⟩ := h
  walk_at "rd"
  refine ite2 (fun h0 => ?_) (fun h0 => ?_)
  · walk_at "rd"
    exact k _ _ (ext_put (Int.ediv_nonneg ha (by omega)) (Int.lt_of_le_of_lt (Int.ediv_le_self _ ha) ha2) hm hm2 hc) (Int.emod_nonneg _ (by omega)) (Int.emod_lt_of_pos _ hn)
  · walk_at "rd"
    exact k _ _ (ext_put ha ha2 hm hm2 (by omega)) (Int.emod_nonneg _ (by omega)) (Int.emod_lt_of_pos _ hn)
end
section
variable {P : Program} {w : World} {K : PySem.W.Frag} {mg : Str → Option Value} {base : Heap}
/-! ### the program's defs -/
def isInt60 : PyData → Bool
  | .int i => decide (-1000000000000000000000000000000000000000000000000000000000000 < i) && decide (i < 1000000000000000000000000000000000000000000000000000000000000)
  | _ => false
def inD (lo hi : Int) : PyData → Bool
  | .int i => isInt60 (.int i) && (decide (lo ≤ i) && decide (i ≤ hi))
  | _ => false
theorem and_end {a c : Bool} {Q : V → Hp → Prop} {H : Hp} (k : Q (.bl (a && c)) H) : if a = true then Q (.bl c) H else Q (.bl false) H := by
  cases a with
  | true => exact iteT k
  | false => exact iteF k
theorem and_split {a : Bool} {A B : Prop} (h1 : a = true → A) (h2 : a = false → B) : if a = true then A else B := by
  cases a with
  | true => exact iteT (h1 rfl)
  | false => exact iteF (h2 rfl)
abbrev s_is_integer : Stmt := topS 5
abbrev N_is_integer : List Str := ["value"]
abbrev P_is_integer : List Str := ["value"]
def sp_is_integer (K : PySem.W.Frag) (mg : Str → Option Value) : Sp := fun vs H Q E => ∃ (b : Addr) (v : V) (d : PyData), vs = [v] ∧ Da b H v d ∧ Q (.bl (isInt60 d)) H
theorem sc_is_integer : FnScope N_is_integer P_is_integer (defScope s_is_integer) := ⟨rfl, rfl, rfl, by decide +kernel, rfl, by decide +kernel, by decide +kernel⟩
theorem ok_is_integer (F : FunD K mg "is_integer" s_is_integer P_is_integer) (T : Txt K mg)  : Def P w K mg base CX0 1 "is_integer" P_is_integer (sp_is_integer K mg) := by
  refine F.ok sc_is_integer (fun vs H Q E h => by obtain ⟨b, v, d, rfl, h⟩ := h; rfl) (fun f cdv A outer s H vs Q E hr h => ?_)
  obtain ⟨b, v, d, rfl, h⟩ := h
  refine ⟨_, (pss_one (ps_ret (pe_and (pe_callB (call_isi : CallR _ _ (rIsi K)) (by rfl) T.b_isinstance (by decide +kernel) (pa_cons (pv 0) (pa_cons (pe_bltn (v := .ty "int") (by rfl) T.b_int (by decide +kernel) rfl) pa_nil))) (pe_and (pe_not (pe_callB (call_isi : CallR _ _ (rIsi K)) (by rfl) T.b_isinstance (by decide +kernel) (pa_cons (pv 0) (pa_cons (pe_bltn (v := .ty "bool") (by rfl) T.b_bool (by decide +kernel) rfl) pa_nil)))) (pe_one (pe_chain op_lt op_lt (pe_un un_neg (pe_glE (by rfl) T.c_INTEGER_BOUND)) (pv 0) (pe_glE (by rfl) T.c_INTEGER_BOUND))))))), ?_⟩
  obtain ⟨hd, k⟩ := h
  have hd' := hd
  cases hd with
  | int i =>
    walk_at "rd"
    refine and_split (fun e => ?_) (fun e => ?_)
    · walk_at "rd"
      rw [isInt60, e] at k
      exact k
    · rw [isInt60, e] at k
      exact k
  | _ => walk_at "rd"; exact k
abbrev s_is_integer_within : Stmt := topS 6
abbrev N_is_integer_within : List Str := ["value", "low", "high"]
abbrev P_is_integer_within : List Str := ["value", "low", "high"]
def sp_is_integer_within (K : PySem.W.Frag) (mg : Str → Option Value) : Sp := fun vs H Q E => ∃ (b : Addr) (v : V) (d : PyData) (lo hi : Int), vs = [v, .int lo, .int hi] ∧ Da b H v d ∧ Q (.bl (inD lo hi d)) H
theorem sc_is_integer_within : FnScope N_is_integer_within P_is_integer_within (defScope s_is_integer_within) := ⟨rfl, rfl, rfl, by decide +kernel, rfl, by decide +kernel, by decide +kernel⟩
theorem ok_is_integer_within (F : FunD K mg "is_integer_within" s_is_integer_within P_is_integer_within) (T : Txt K mg) (D_is_integer : Def P w K mg base CX0 1 "is_integer" P_is_integer (sp_is_integer K mg)) : Def P w K mg base CX0 2 "is_integer_within" P_is_integer_within (sp_is_integer_within K mg) := by
  refine F.ok sc_is_integer_within (fun vs H Q E h => by obtain ⟨b, v, d, lo, hi, rfl, h⟩ := h; rfl) (fun f cdv A outer s H vs Q E hr h => ?_)
  obtain ⟨b, v, d, lo, hi, rfl, h⟩ := h
  refine ⟨_, (pss_one (ps_ret (pe_and (pe_callD D_is_integer (hr.mono (by decide)) (by rfl) (pa_cons (pv 0) pa_nil)) (pe_one (pe_chain op_le op_le (pv 1) (pv 0) (pv 2)))))), ?_⟩
  obtain ⟨hd, k⟩ := h
  refine ⟨_, rfl, b, v, d, rfl, hd, ?_⟩
  have hd' := hd
  cases hd with
  | int i =>
    refine ⟨_, rfl, and_split (fun e => ?_) (fun e => ?_)⟩
    · walk_at "rd"
      refine and_split (fun e2 => ?_) (fun e2 => ?_)
      · walk_at "rd"
        rw [inD, e, e2] at k
        exact k
      · rw [inD, e, e2] at k
        exact k
    · rw [inD, e] at k
      exact k
  | _ => walk_at "rd"; exact k
end
section
variable {P : Program} {w : World} {K : PySem.W.Frag} {mg : Str → Option Value} {base : Heap}
def lettersS : Str := "abcdefghijklmnopqrstuvwxyz"
def nameS (s : Str) : Bool := (decide ((1 : Int) ≤ (s.length : Nat)) && decide (((s.length : Nat) : Int) ≤ 8)) && s.cps.toList.all fun c => decide (c ∈ lettersS.cps.toList)
def nameD : PyData → Bool
  | .str s => nameS s
  | _ => false
/-- what a text's length is at most -/
def strOk : PyData → Prop
  | .str s => s.length ≤ 1000
  | _ => True
theorem map_all {α : Type} (p : α → Bool) (l : List α) : (l.map p).all id = l.all p := by
  rw [List.all_map]; rfl
abbrev s_is_name : Stmt := topS 19
abbrev N_is_name : List Str := ["value", "sign"]
abbrev P_is_name : List Str := ["value"]
def sp_is_name (K : PySem.W.Frag) (mg : Str → Option Value) : Sp := fun vs H Q E => ∃ (b : Addr) (v : V) (d : PyData), vs = [v] ∧ Da b H v d ∧ strOk d ∧ ∀ H', Same H H' → Q (.bl (nameD d)) H'
theorem sc_is_name : FnScope N_is_name P_is_name (defScope s_is_name) := ⟨rfl, rfl, rfl, by decide +kernel, rfl, by decide +kernel, by decide +kernel⟩
theorem ok_is_name (F : FunD K mg "is_name" s_is_name P_is_name) (T : Txt K mg)  : Def P w K mg base CX0 1 "is_name" P_is_name (sp_is_name K mg) := by
  refine F.ok sc_is_name (fun vs H Q E h => by obtain ⟨b, v, d, rfl, h⟩ := h; rfl) (fun f cdv A outer s H vs Q E hr h => ?_)
  obtain ⟨b, v, d, rfl, h⟩ := h
  refine ⟨_, (pss_cons (ps_if (PW.pt (pw_or (pt_not (pt_val (pe_callB (call_isi : CallR _ _ (rIsi K)) (by rfl) T.b_isinstance (by decide +kernel) (pa_cons (pv 0) (pa_cons (pe_bltn (v := .ty "str") (by rfl) T.b_str (by decide +kernel) rfl) pa_nil))))) (pw_or1 (pt_not (pt_chain op_le op_le pe_int (pe_callB (call_lenU : CallR _ _ (rLenU K)) (by rfl) T.b_len (by decide +kernel) (pa_cons (pv 0) pa_nil)) (pe_glE (by rfl) T.c_MAX_NAME)))))) (pss_one (ps_ret pe_bl)) pss_nil)
      (pss_one (ps_ret (pe_callB ((cr_all rfl) : CallR _ _ (rAll K)) (by rfl) T.b_all (by decide +kernel) (pa_cons (pe_lc (own := [("sign", 1)]) (g := gName 1) (tt := tYes) (by rfl) sc_is_name.nd (pi_str (pv 0)) (blkOk_by (N := N_is_name) (sc := defScope s_is_name) (by decide +kernel)) (fun _ _ _ _ _ => (pg_name (i := 1) sc_is_name.nd rfl (Or.inl rfl))) (fun _ _ _ _ _ => pts_nil) (fun _ _ _ _ _ => (pe_cmpR op_in_sign (pv 1) (pe_glE (by rfl) T.c_NAME_LETTERS) (by rfl)))) pa_nil))))), ?_⟩
  obtain ⟨hd, hs, k⟩ := h
  walk_at "rd"
  refine and_split (fun e => ?_) (fun e => ?_)
  · walk_at "rd"
    have q := k H (Same.refl _)
    rw [show nameD d = false by cases d <;> first | rfl | cases e] at q
    exact q
  obtain ⟨z, rfl, rfl⟩ := hd.isStr e
  have hz : z.length ≤ 1000 := hs
  have hz2 : z.length ≤ sizeLine := Nat.le_trans hz (by decide)
  have kf : nameS z = false → Q (.bl false) H := fun e => by
    have q := k H (Same.refl _)
    rw [nameD, e] at q
    exact q
  walk_at "rd"
  refine and_split (fun e1 => ?_) (fun e1 => ?_)
  · walk_at "rd"
    cases e2 : decide (((z.length : Nat) : Int) ≤ 8) with
    | false =>
      refine iteT ?_
      exact kf (by unfold nameS; rw [e2, Bool.and_false, Bool.false_and])
    | true =>
      refine iteF ?_
      walk_at "rd"
      have hz3 : z.length ≤ 8 := by have := of_decide_eq_true e2; omega
      refine fun D hD => lc_pure walk_str (show z.length < sizeLine from Nat.lt_of_le_of_lt hz3 (by decide)) hD (fOf z.cps.toList fun c => some (V.bl (decide (c ∈ lettersS.cps.toList)))) (fun _ _ => trivial) (fun i x H2 H' R hi hs2 hy hR => ?_) (fun H2 hs2 hD2 => ?_)
      · obtain ⟨rfl, c, hc, rfl⟩ := hy
        walk_at "rd"
        have q := hR H' (Same.refl _)
        rw [fOf_at (x := c) (by simpa using hc)] at q
        exact q
      · have e : outs (fOf z.cps.toList fun c => some (V.bl (decide (c ∈ lettersS.cps.toList)))) z.cps.size = (z.cps.toList.map fun c => decide (c ∈ lettersS.cps.toList)).map V.bl := by
          have := outs_all z.cps.toList fun c => some (V.bl (decide (c ∈ lettersS.cps.toList)))
          rw [fm_some, Array.length_toList] at this
          rw [this, List.map_map]
          rfl
        rw [e] at hD2
        refine ⟨D, _, rfl, SqL.of hD2, ?_⟩
        rw [map_all]
        have q := k H2 hs2
        rw [nameD, nameS, e1, e2] at q
        exact q
  · walk_at "rd"
    exact kf (by unfold nameS; rw [e1, Bool.false_and, Bool.false_and])
end
section
variable {P : Program} {w : World} {K : PySem.W.Frag} {mg : Str → Option Value} {base : Heap}
def asc : List PyData → Bool
  | .int i :: .int j :: r => decide (i < j) && asc (.int j :: r)
  | _ => true
def linesD : PyData → Bool
  | .tuple ds => ds.all (inD 0 3) && asc ds
  | _ => false
/-- of what lies in a value, the sizes -/
def sizeOk : PyData → Prop
  | .tuple ds => ds.length ≤ 1000
  | .list ds => ds.length ≤ 1000
  | .str s => s.length ≤ 1000
  | _ => True
theorem inD_int {lo hi : Int} {d : PyData} (h : inD lo hi d = true) : ∃ i, d = .int i := by
  cases d with
  | int i => exact ⟨i, rfl⟩
  | _ => exact absurd h Bool.false_ne_true
theorem asc_pairs : ∀ ds : List PyData, ds.all (inD 0 3) = true → asc ds = ((ds.zip (ds.drop 1)).all fun p => match p with | (.int i, .int j) => decide (i < j) | _ => false)
  | [], _ => rfl
  | [d], h => by
    obtain ⟨i, rfl⟩ := inD_int (by simpa using h)
    rfl
  | d :: e :: r, h => by
    rw [List.all_cons, Bool.and_eq_true] at h
    obtain ⟨i, rfl⟩ := inD_int h.1
    have h2 := h.2
    rw [List.all_cons, Bool.and_eq_true] at h2
    obtain ⟨j, rfl⟩ := inD_int h2.1
    show (decide (i < j) && asc (.int j :: r)) = _
    rw [asc_pairs (.int j :: r) h.2]
    rfl
abbrev s_are_lines : Stmt := topS 20
abbrev N_are_lines : List Str := ["value", "line", "one", "other"]
abbrev P_are_lines : List Str := ["value"]
def sp_are_lines (K : PySem.W.Frag) (mg : Str → Option Value) : Sp := fun vs H Q E => ∃ (b : Addr) (v : V) (d : PyData), vs = [v] ∧ Da b H v d ∧ sizeOk d ∧ ∀ H', Same H H' → Q (.bl (linesD d)) H'
theorem sc_are_lines : FnScope N_are_lines P_are_lines (defScope s_are_lines) := ⟨rfl, rfl, rfl, by decide +kernel, rfl, by decide +kernel, by decide +kernel⟩
theorem ok_are_lines (F : FunD K mg "are_lines" s_are_lines P_are_lines) (T : Txt K mg) (D_is_integer_within : Def P w K mg base CX0 2 "is_integer_within" P_is_integer_within (sp_is_integer_within K mg)) : Def P w K mg base CX0 3 "are_lines" P_are_lines (sp_are_lines K mg) := by
  refine F.ok sc_are_lines (fun vs H Q E h => by obtain ⟨b, v, d, rfl, h⟩ := h; rfl) (fun f cdv A outer s H vs Q E hr h => ?_)
  obtain ⟨b, v, d, rfl, h⟩ := h
  refine ⟨_, (pss_cons (ps_if (PW.pt (pw_or (pt_not (pt_val (pe_callB (call_isi : CallR _ _ (rIsi K)) (by rfl) T.b_isinstance (by decide +kernel) (pa_cons (pv 0) (pa_cons (pe_bltn (v := .ty "tuple") (by rfl) T.b_tuple (by decide +kernel) rfl) pa_nil))))) (pw_or1 (pt_not (pt_val (pe_callB ((cr_all rfl) : CallR _ _ (rAll K)) (by rfl) T.b_all (by decide +kernel) (pa_cons (pe_lc (own := [("line", 1)]) (g := gName 1) (tt := tYes) (by rfl) sc_are_lines.nd (pi_tup (pv 0)) (blkOk_by (N := N_are_lines) (sc := defScope s_are_lines) (by decide +kernel)) (fun _ _ _ _ _ => (pg_name (i := 1) sc_are_lines.nd rfl (Or.inl rfl))) (fun _ _ _ _ _ => pts_nil) (fun _ _ _ _ _ => (pe_callD D_is_integer_within (hr.mono (by decide)) (by rfl) (pa_cons (pv 1) (pa_cons pe_int (pa_cons (pe_glE (by rfl) T.c_MOST_LINE) pa_nil)))))) pa_nil))))))) (pss_one (ps_ret pe_bl)) pss_nil)
      (pss_one (ps_ret (pe_callB ((cr_all rfl) : CallR _ _ (rAll K)) (by rfl) T.b_all (by decide +kernel) (pa_cons (pe_lc (own := [("one", 2), ("other", 3)]) (g := gTup K 2 (gCons (gName 2) (gCons (gName 3) gNil))) (tt := tYes) (by rfl) sc_are_lines.nd (RZ.pi_zipA (by rfl) T.b_zip (pa_cons (pv 0) (pa_cons (pe_slL (sl_tupA : SlR _ (rSlA K)) (pv 0) pe_int) pa_nil))) (blkOk_by (N := N_are_lines) (sc := defScope s_are_lines) (by decide +kernel)) (fun _ _ _ _ _ => (by exact (pg_tup rfl (pgs_cons (pg_name (i := 2) sc_are_lines.nd rfl (Or.inl rfl)) (pgs_cons (pg_name (i := 3) sc_are_lines.nd rfl (Or.inl rfl)) pgs_nil))))) (fun _ _ _ _ _ => pts_nil) (fun _ _ _ _ _ => (pe_cmpR op_lt (pv 2) (pv 3) (nomark _)))) pa_nil))))), ?_⟩
  obtain ⟨hd, hs, k⟩ := h
  walk_at "rd"
  refine and_split (fun e => ?_) (fun e => ?_)
  · walk_at "rd"
    have q := k H (Same.refl _)
    rw [show linesD d = false by cases d <;> first | rfl | cases e] at q
    exact q
  obtain ⟨a, xs, ds, rfl, rfl, hn, ha, hall⟩ := hd.isTup e
  have hlen := hall.len
  have hz : xs.length < sizeLine := Nat.lt_of_le_of_lt (show xs.length ≤ 1000 by rw [hlen]; exact hs) (by decide)
  walk_at "rd"
  refine ⟨⟨xs, SqT.of ha⟩, fun D hD => lc_pure walk_tup hz hD (fOf ds fun d => some (V.bl (inD 0 3 d))) (fun H1 hs1 => SqT.of (hs1 _ _ ha)) (fun i x H2 H' R hi hs2 hy hR => ?_) (fun H2 hs2 hD2 => ?_)⟩
  · obtain ⟨rfl, hx⟩ := hy
    obtain ⟨d, hd1, hd2⟩ := hall.get hx
    walk_at "rd"
    refine ⟨b, _, d, _, _, rfl, hd2.same hs2, ?_⟩
    have q := hR H' (Same.refl _)
    rw [fOf_at hd1] at q
    exact q
  · have e : outs (fOf ds fun d => some (V.bl (inD 0 3 d))) xs.length = (ds.map (inD 0 3)).map V.bl := by
      rw [hlen, outs_all, fm_some, List.map_map]
      rfl
    rw [e] at hD2
    refine ⟨D, _, rfl, SqL.of hD2, ?_⟩
    rw [map_all]
    refine ⟨_, rfl, ?_⟩
    cases e1 : ds.all (inD 0 3) with
    | false =>
      refine iteT ?_
      have q := k H2 hs2
      rw [linesD, e1] at q
      exact q
    | true =>
      refine iteF ?_
      have ha2 := hs2 _ _ ha
      refine ⟨_, rfl, _, rfl, 1, rfl, ?_⟩
      refine sla_join (SqT.of ha2) fun p H3 hs3 hp _ => ?_
      rw [show ((1 : Int)) = ((1 : Nat) : Int) from rfl, cut_from] at hp
      refine ⟨a, p, xs, xs.drop 1, rfl, .inr ⟨Same.seqT hs3 (SqT.of ha2), hp, fun D2 hD3 => lc_pure (walk_zipT (n := ds.length - 1) (by rw [List.length_drop, hlen]; omega)) (show ds.length - 1 < sizeLine by rw [hlen] at hz; omega) hD3
        (fOf (ds.zip (ds.drop 1)) fun p => some (V.bl (match p with | (.int i, .int j) => decide (i < j) | _ => false))) (fun H1 hs1 => ⟨Same.seqT hs1 (Same.seqT hs3 (SqT.of ha2)), Same.seqT hs1 hp⟩) (fun i x H4 H' R hi hs4 hy hR => ?_) (fun H4 hs4 hD4 => ?_)⟩⟩
      · obtain ⟨T, x1, x2, rfl, hT, rfl, h1, h2⟩ := hy
        obtain ⟨d1, e2, e3⟩ := hall.get h1
        obtain ⟨d2, e4, e5⟩ := (hall.drop 1).get h2
        have all1 := List.all_eq_true.mp e1
        obtain ⟨i1, rfl⟩ := inD_int (all1 d1 (List.mem_of_getElem? e2))
        obtain ⟨i2, rfl⟩ := inD_int (all1 d2 (List.mem_of_mem_drop (List.mem_of_getElem? e4)))
        cases e3
        cases e5
        refine ⟨T, _, rfl, SqT.of upd_same, rfl, ?_⟩
        walk_at "rd"
        have q := hR (upd H4 T (.tup [.int i1, .int i2])) (Same.new (Same.refl _) hT)
        rw [fOf_at (x := (.int i1, .int i2)) (by rw [List.getElem?_zip_eq_some]; exact ⟨e2, e4⟩)] at q
        exact q
      · have e2 : outs (fOf (ds.zip (ds.drop 1)) fun p => some (V.bl (match p with | (.int i, .int j) => decide (i < j) | _ => false))) (ds.length - 1) = ((ds.zip (ds.drop 1)).map fun p => (match p with | (PyData.int i, PyData.int j) => decide (i < j) | _ => false)).map V.bl := by
          have hl : (ds.zip (ds.drop 1)).length = ds.length - 1 := by rw [List.length_zip, List.length_drop]; omega
          rw [← hl, outs_all, fm_some, List.map_map]
          rfl
        rw [e2] at hD4
        refine ⟨D2, _, rfl, SqL.of hD4, ?_⟩
        rw [map_all, ← asc_pairs ds e1]
        have q := k H4 (Same.trans hs2 (Same.trans hs3 hs4))
        rw [linesD, e1] at q
        exact q
end
section
variable {P : Program} {w : World} {K : PySem.W.Frag} {mg : Str → Option Value} {base : Heap}
theorem iteFd {c A B : Prop} [Decidable c] (hc : ¬ c) (h : B) : if decide c = true then A else B := by
  rw [decide_eq_false hc]
  exact iteF h
def one1 (f : PyData → Bool) : List PyData → Bool
  | [x] => f x
  | _ => false
def two2 (f g : PyData → Bool) : List PyData → Bool
  | [x, y] => f x && g y
  | _ => false
def restD (w : Str) (rest : List PyData) : Bool :=
  if (w == "within" || w == "alike") = true then one1 nameD rest
  else if w = "answered" then rest.isEmpty
  else if w = "most" then one1 (inD 0 99) rest
  else if w = "ahead" then one1 (inD 0 3) rest
  else (decide (w = "told") && two2 linesD (inD 0 3) rest)
def promD : PyData → Bool
  | .tuple (.str w :: n :: rest) => nameD n && restD w rest
  | _ => false
/-- what the readers of a promise ask: no text, list or tuple in it is large -/
def elOk : PyData → Prop
  | .tuple ds => ds.length ≤ 1000 ∧ ∀ d ∈ ds, sizeOk d
  | _ => True
theorem strOk_of {d : PyData} (h : sizeOk d) : strOk d := by
  cases d <;> first | exact h | trivial
theorem inV2 (w a b : Str) : inV (.str w) [.str a, .str b] = (w == a || w == b) := by
  show (eqV (.str a) (.str w) || (eqV (.str b) (.str w) || false)) = _
  show ((a == w) || ((b == w) || false)) = _
  rw [Bool.or_false, BEq.comm (a := a), BEq.comm (a := b)]
abbrev s_is_promise : Stmt := topS 21
abbrev N_is_promise : List Str := ["value", "word", "rest"]
abbrev P_is_promise : List Str := ["value"]
def sp_is_promise (K : PySem.W.Frag) (mg : Str → Option Value) : Sp := fun vs H Q E => ∃ (b : Addr) (v : V) (d : PyData), vs = [v] ∧ Da b H v d ∧ elOk d ∧ ∀ H', Same H H' → Q (.bl (promD d)) H'
theorem sc_is_promise : FnScope N_is_promise P_is_promise (defScope s_is_promise) := ⟨rfl, rfl, rfl, by decide +kernel, rfl, by decide +kernel, by decide +kernel⟩
theorem ok_is_promise (F : FunD K mg "is_promise" s_is_promise P_is_promise) (T : Txt K mg) (D_is_name : Def P w K mg base CX0 1 "is_name" P_is_name (sp_is_name K mg)) (D_is_integer_within : Def P w K mg base CX0 2 "is_integer_within" P_is_integer_within (sp_is_integer_within K mg)) (D_are_lines : Def P w K mg base CX0 3 "are_lines" P_are_lines (sp_are_lines K mg)) : Def P w K mg base CX0 4 "is_promise" P_is_promise (sp_is_promise K mg) := by
  refine F.ok sc_is_promise (fun vs H Q E h => by obtain ⟨b, v, d, rfl, h⟩ := h; rfl) (fun f cdv A outer s H vs Q E hr h => ?_)
  obtain ⟨b, v, d, rfl, h⟩ := h
  refine ⟨_, (pss_cons (ps_if (PW.pt (pw_or (pt_not (pt_val (pe_callB (call_isi : CallR _ _ (rIsi K)) (by rfl) T.b_isinstance (by decide +kernel) (pa_cons (pv 0) (pa_cons (pe_bltn (v := .ty "tuple") (by rfl) T.b_tuple (by decide +kernel) rfl) pa_nil))))) (pw_or (pt_cmpR op_lt (pe_callB (call_lenU : CallR _ _ (rLenU K)) (by rfl) T.b_len (by decide +kernel) (pa_cons (pv 0) pa_nil)) pe_int (nomark _)) (pw_or (pt_not (pt_val (pe_callB (call_isi : CallR _ _ (rIsi K)) (by rfl) T.b_isinstance (by decide +kernel) (pa_cons (pe_ix (ix_tup : IxR _ (rIxT K)) (pv 0) pe_int (fun _ _ => rfl)) (pa_cons (pe_bltn (v := .ty "str") (by rfl) T.b_str (by decide +kernel) rfl) pa_nil))))) (pw_or1 (pt_not (pt_val (pe_callD D_is_name (hr.mono (by decide)) (by rfl) (pa_cons (pe_ix (ix_tup : IxR _ (rIxT K)) (pv 0) pe_int (fun _ _ => rfl)) pa_nil))))))))) (pss_one (ps_ret pe_bl)) pss_nil)
      (pss_cons (ps_par (i := 1) (j := 2) (by rfl) sc_is_promise.nd rfl rfl (by decide) rfl rfl (pa_cons (pe_ix (ix_tup : IxR _ (rIxT K)) (pv 0) pe_int (fun _ _ => rfl)) (pa_cons (pe_slL (sl_tupA : SlR _ (rSlA K)) (pv 0) pe_int) pa_nil)) (by rfl))
      (pss_cons (ps_if (pt_cmpR (op_in_seq : OpR _ _ (rIn K false)) (pv 1) (pe_tup (pa_cons (pe_glE (by rfl) T.c_WITHIN) (pa_cons (pe_glE (by rfl) T.c_ALIKE) pa_nil))) (by rfl)) (pss_one (ps_ret (pe_and (pe_cmpR op_eq (pe_callB (call_lenU : CallR _ _ (rLenU K)) (by rfl) T.b_len (by decide +kernel) (pa_cons (pv 2) pa_nil)) pe_int (nomark _)) (pe_one (pe_callD D_is_name (hr.mono (by decide)) (by rfl) (pa_cons (pe_ix (ix_tup : IxR _ (rIxT K)) (pv 2) pe_int (fun _ _ => rfl)) pa_nil)))))) pss_nil)
      (pss_cons (ps_if (pt_cmpR op_eq (pv 1) (pe_glE (by rfl) T.c_ANSWERED) (nomark _)) (pss_one (ps_ret (pe_cmpR (op_eqS (hu00 hr) : OpR _ _ (rEqS K false)) (pv 2) (pe_tup pa_nil) (nomark _)))) pss_nil)
      (pss_cons (ps_if (pt_cmpR op_eq (pv 1) (pe_glE (by rfl) T.c_MOST) (nomark _)) (pss_one (ps_ret (pe_and (pe_cmpR op_eq (pe_callB (call_lenU : CallR _ _ (rLenU K)) (by rfl) T.b_len (by decide +kernel) (pa_cons (pv 2) pa_nil)) pe_int (nomark _)) (pe_one (pe_callD D_is_integer_within (hr.mono (by decide)) (by rfl) (pa_cons (pe_ix (ix_tup : IxR _ (rIxT K)) (pv 2) pe_int (fun _ _ => rfl)) (pa_cons pe_int (pa_cons (pe_glE (by rfl) T.c_MOST_ANSWERS) pa_nil)))))))) pss_nil)
      (pss_cons (ps_if (pt_cmpR op_eq (pv 1) (pe_glE (by rfl) T.c_AHEAD) (nomark _)) (pss_one (ps_ret (pe_and (pe_cmpR op_eq (pe_callB (call_lenU : CallR _ _ (rLenU K)) (by rfl) T.b_len (by decide +kernel) (pa_cons (pv 2) pa_nil)) pe_int (nomark _)) (pe_one (pe_callD D_is_integer_within (hr.mono (by decide)) (by rfl) (pa_cons (pe_ix (ix_tup : IxR _ (rIxT K)) (pv 2) pe_int (fun _ _ => rfl)) (pa_cons pe_int (pa_cons (pe_glE (by rfl) T.c_MOST_AHEAD) pa_nil)))))))) pss_nil)
      (pss_one (ps_ret (pe_and (pe_cmpR op_eq (pv 1) (pe_glE (by rfl) T.c_TOLD) (nomark _)) (pe_and (pe_cmpR op_eq (pe_callB (call_lenU : CallR _ _ (rLenU K)) (by rfl) T.b_len (by decide +kernel) (pa_cons (pv 2) pa_nil)) pe_int (nomark _)) (pe_and (pe_callD D_are_lines (hr.mono (by decide)) (by rfl) (pa_cons (pe_ix (ix_tup : IxR _ (rIxT K)) (pv 2) pe_int (fun _ _ => rfl)) pa_nil)) (pe_one (pe_callD D_is_integer_within (hr.mono (by decide)) (by rfl) (pa_cons (pe_ix (ix_tup : IxR _ (rIxT K)) (pv 2) pe_int (fun _ _ => rfl)) (pa_cons pe_int (pa_cons (pe_glE (by rfl) T.c_MOST_LINE) pa_nil)))))))))))))))), ?_⟩
  obtain ⟨hd, hs, k⟩ := h
  walk_at "rd"
  refine and_split (fun e => ?_) (fun e => ?_)
  · walk_at "rd"
    have q := k H (Same.refl _)
    rw [show promD d = false by cases d <;> first | rfl | cases e] at q
    exact q
  obtain ⟨a, xs, ds, rfl, rfl, hn, ha, hall⟩ := hd.isTup e
  have kf : promD (.tuple ds) = false → ∀ H', Same H H' → Q (.bl false) H' := fun e H' e2 => by
    have q := k H' e2
    rw [e] at q
    exact q
  have hl : xs.length = ds.length := hall.len
  walk_at "rd"
  refine .inr ⟨a, xs, rfl, .inr (SqT.of ha), ?_⟩
  walk_at "rd"
  cases hall with
  | nil =>
    refine iteT ?_
    exact kf rfl _ (Same.refl _)
  | @cons v0 vs0 d0 ds0 h0 hall1 =>
    cases hall1 with
    | nil =>
      refine iteT ?_
      exact kf (by cases d0 <;> rfl) _ (Same.refl _)
    | @cons v1 vs d1 rest h1 hall2 =>
      refine and_split (fun e => absurd (of_decide_eq_true e) (by simp only [List.length_cons]; omega)) (fun _ => ?_)
      walk_at "rd"
      refine and_split (fun e => ?_) (fun e => ?_)
      · walk_at "rd"
        exact kf (by cases d0 <;> first | rfl | cases e) _ (Same.refl _)
      obtain ⟨z, rfl, rfl⟩ := h0.isStr e
      walk_at "rd"
      refine ⟨b, v1, d1, rfl, h1, strOk_of (hs.2 d1 (by simp)), fun H1 hs1 => ?_⟩
      refine ⟨_, rfl, ?_⟩
      cases en : nameD d1 with
      | false =>
        refine iteT ?_
        exact kf (by rw [promD, en]; rfl) _ hs1
      | true =>
        refine iteF ?_
        have ha1 := hs1 _ _ ha
        walk_at "rd"
        refine sla_join (SqT.of ha1) fun p H2 hs2 hp _ => ?_
        rw [show ((2 : Int)) = ((2 : Nat) : Int) from rfl, cut_from] at hp
        have kq : ∀ r : Bool, restD z rest = r → ∀ H', Same H H' → Q (.bl r) H' := fun r er H' e2 => by
          have q := k H' e2
          rw [promD, en, er, Bool.true_and] at q
          exact q
        have kf' : restD z rest = false → ∀ H', Same H H' → Q (.bl false) H' := fun er => kq false er
        walk_at "rd"
        refine fun q hq => ?_
        refine ⟨q, _, rfl, .inr (SqT.of upd_same), rfl, rfl, ?_⟩
        have hs23 : Same H2 (upd H2 q (.tup [.str "within", .str "alike"])) := Same.new (Same.refl _) hq
        have hp3 : SqT K (upd H2 q (.tup [.str "within", .str "alike"])) p vs := Same.seqT hs23 hp
        have hs3 : Same H (upd H2 q (.tup [.str "within", .str "alike"])) := Same.trans hs1 (Same.trans hs2 hs23)
        have hs13 := hs3
        generalize upd H2 q (.tup [.str "within", .str "alike"]) = H3 at hs23 hp3 hs3 hs13 ⊢
        refine ⟨_, rfl, ?_⟩
        rw [if_neg Bool.false_ne_true, inV2]
        refine and_split (fun eW => ?_) (fun eW0 => ?_)
        · walk_at "rd"
          refine .inr ⟨p, vs, rfl, .inr hp3, rfl, ?_⟩
          cases hall2 with
          | nil =>
            refine ⟨_, rfl, iteF ?_⟩
            exact kf' (by unfold restD; rw [if_pos eW] <;> rfl) _ hs3
          | @cons v2 vs2 d2 rest2 h2 hall3 =>
            cases hall3 with
            | nil =>
              refine ⟨_, rfl, iteT ?_⟩
              refine ⟨_, rfl, _, _, _, _, rfl, rfl, hp3, at_of (j := 0) rfl rfl, ?_⟩
              refine ⟨b, v2, d2, rfl, (h2.same hs13), strOk_of (hs.2 d2 (by simp)), fun H4 hs4 => ?_⟩
              exact kq (nameD d2) (by unfold restD; rw [if_pos eW] <;> rfl) _ (Same.trans hs3 hs4)
            | @cons v3 vs3 d3 rest3 h3 hall4 =>
              refine ⟨_, rfl, iteFd (by intro q; injection q with q; simp only [List.length_cons] at q; omega) ?_⟩
              exact kf' (by unfold restD; rw [if_pos eW] <;> rfl) _ hs3
        have eW : ¬ (z == "within" || z == "alike") = true := by rw [eW0]; exact Bool.false_ne_true
        walk_at "rd"
        refine and_split (fun eA => ?_) (fun eA0 => ?_)
        · have eA : z = "answered" := by have := of_decide_eq_true eA; injection this
          walk_at "rd"
          refine fun q3 hq3 => ?_
          refine ⟨p, q3, vs, [], rfl, rfl, .inl ⟨Same.seqT (Same.new (Same.refl _) hq3) hp3, SqT.of upd_same⟩, fun j hj => absurd hj (by rw [List.length_nil, Nat.min_zero]; exact Nat.not_lt_zero _), ?_⟩
          rw [if_neg Bool.false_ne_true]
          refine kq _ ?_ _ (Same.trans hs3 (Same.new (Same.refl _) hq3))
          unfold restD
          rw [if_neg eW, if_pos eA]
          have hl2 := hall2.len
          cases hall2 with
          | nil => rfl
          | cons h2 hall3 => rfl
        have eA : ¬ z = "answered" := fun q3 => by rw [q3] at eA0; exact absurd eA0 (by decide +kernel)
        walk_at "rd"
        refine and_split (fun eM => ?_) (fun eM0 => ?_)
        · have eM : z = "most" := by have := of_decide_eq_true eM; injection this
          walk_at "rd"
          refine .inr ⟨p, vs, rfl, .inr hp3, rfl, ?_⟩
          cases hall2 with
          | nil =>
            refine ⟨_, rfl, iteF ?_⟩
            exact kf' (by unfold restD; rw [if_neg eW, if_neg eA, if_pos eM] <;> rfl) _ hs3
          | @cons v2 vs2 d2 rest2 h2 hall3 =>
            cases hall3 with
            | nil =>
              refine ⟨_, rfl, iteT ?_⟩
              refine ⟨_, rfl, _, _, _, _, rfl, rfl, hp3, at_of (j := 0) rfl rfl, ?_⟩
              walk_at "rd"
              refine ⟨b, v2, d2, _, _, rfl, (h2.same hs13), ?_⟩
              exact kq (inD 0 99 d2) (by unfold restD; rw [if_neg eW, if_neg eA, if_pos eM] <;> rfl) _ hs3
            | @cons v3 vs3 d3 rest3 h3 hall4 =>
              refine ⟨_, rfl, iteFd (by intro q; injection q with q; simp only [List.length_cons] at q; omega) ?_⟩
              exact kf' (by unfold restD; rw [if_neg eW, if_neg eA, if_pos eM] <;> rfl) _ hs3
        have eM : ¬ z = "most" := fun q3 => by rw [q3] at eM0; exact absurd eM0 (by decide +kernel)
        walk_at "rd"
        refine and_split (fun eH => ?_) (fun eH0 => ?_)
        · have eH : z = "ahead" := by have := of_decide_eq_true eH; injection this
          walk_at "rd"
          refine .inr ⟨p, vs, rfl, .inr hp3, rfl, ?_⟩
          cases hall2 with
          | nil =>
            refine ⟨_, rfl, iteF ?_⟩
            exact kf' (by unfold restD; rw [if_neg eW, if_neg eA, if_neg eM, if_pos eH] <;> rfl) _ hs3
          | @cons v2 vs2 d2 rest2 h2 hall3 =>
            cases hall3 with
            | nil =>
              refine ⟨_, rfl, iteT ?_⟩
              refine ⟨_, rfl, _, _, _, _, rfl, rfl, hp3, at_of (j := 0) rfl rfl, ?_⟩
              walk_at "rd"
              refine ⟨b, v2, d2, _, _, rfl, (h2.same hs13), ?_⟩
              exact kq (inD 0 3 d2) (by unfold restD; rw [if_neg eW, if_neg eA, if_neg eM, if_pos eH] <;> rfl) _ hs3
            | @cons v3 vs3 d3 rest3 h3 hall4 =>
              refine ⟨_, rfl, iteFd (by intro q; injection q with q; simp only [List.length_cons] at q; omega) ?_⟩
              exact kf' (by unfold restD; rw [if_neg eW, if_neg eA, if_neg eM, if_pos eH] <;> rfl) _ hs3
        have eH : ¬ z = "ahead" := fun q3 => by rw [q3] at eH0; exact absurd eH0 (by decide +kernel)
        have er : restD z rest = (decide (z = "told") && two2 linesD (inD 0 3) rest) := by
          unfold restD
          rw [if_neg eW, if_neg eA, if_neg eM, if_neg eH]
        walk_at "rd"
        refine and_split (fun eT => ?_) (fun eT0 => ?_)
        · have eT : z = "told" := by have := of_decide_eq_true eT; injection this
          rw [decide_eq_true eT, Bool.true_and] at er
          walk_at "rd"
          refine .inr ⟨p, vs, rfl, .inr hp3, rfl, ?_⟩
          have kz : ∀ ds' : List PyData, ds' = rest → two2 linesD (inD 0 3) ds' = false → ∀ H', Same H H' → Q (.bl false) H' := fun ds' e1 e2 => kf' (by rw [er, ← e1, e2])
          cases hall2 with
          | nil =>
            refine ⟨_, rfl, iteF ?_⟩
            exact kz _ rfl rfl _ hs3
          | @cons v2 vs2 d2 rest2 h2 hall3 =>
            cases hall3 with
            | nil =>
              refine ⟨_, rfl, iteF ?_⟩
              exact kz _ rfl rfl _ hs3
            | @cons v3 vs3 d3 rest3 h3 hall4 =>
              cases hall4 with
              | cons h4 hall5 =>
                refine ⟨_, rfl, iteFd (by intro q; injection q with q; simp only [List.length_cons] at q; omega) ?_⟩
                exact kz _ rfl rfl _ hs3
              | nil =>
                refine ⟨_, rfl, iteT ?_⟩
                refine ⟨_, rfl, _, _, _, _, rfl, rfl, hp3, at_of (j := 0) rfl rfl, ?_⟩
                refine ⟨b, v2, d2, rfl, (h2.same hs3), hs.2 d2 (by simp), fun H4 hs4 => ?_⟩
                refine ⟨_, rfl, and_split (fun e5 => ?_) (fun e5 => ?_)⟩
                · refine ⟨_, rfl, _, _, _, _, rfl, rfl, Same.seqT hs4 hp3, at_of (j := 1) rfl rfl, ?_⟩
                  refine ⟨b, v3, d3, _, _, rfl, (h3.same (Same.trans hs3 hs4)), ?_⟩
                  refine kq (inD 0 3 d3) ?_ _ (Same.trans hs3 hs4)
                  rw [er]
                  show (linesD d2 && inD 0 3 d3) = _
                  rw [e5, Bool.true_and]
                · refine kf' ?_ _ (Same.trans hs3 hs4)
                  rw [er]
                  show (linesD d2 && inD 0 3 d3) = _
                  rw [e5, Bool.false_and]
        · have eT : ¬ z = "told" := fun q3 => by rw [q3] at eT0; exact absurd eT0 (by decide +kernel)
          exact kf' (by rw [er, decide_eq_false eT, Bool.false_and]) _ hs3
end
section
variable {P : Program} {w : World} {K : PySem.W.Frag} {mg : Str → Option Value} {base : Heap}
/-- the names in a promise -/
def namesD : PyData → List PyData
  | .tuple (.str w :: n :: rest) => if (w == "within" || w == "alike") = true then (match rest with | x :: _ => (match n, x with | .str a, .str b => if a = b then [.str a] else [.str a, .str b] | _, _ => [n]) | [] => [n]) else [n]
  | _ => []
abbrev s_require_promise : Stmt := topS 22
abbrev N_require_promise : List Str := ["value"]
abbrev P_require_promise : List Str := ["value"]
def sp_require_promise (K : PySem.W.Frag) (mg : Str → Option Value) : Sp := fun vs H Q E => ∃ (b : Addr) (v : V) (d : PyData), vs = [v] ∧ Da b H v d ∧ elOk d ∧ (promD d = true → ∀ H', Same H H' → Q .non H') ∧ (promD d = false → ∀ C H', ExcK K mg "InvalidPromise" C → Same H H' → E (.ref C) none H')
theorem sc_require_promise : FnScope N_require_promise P_require_promise (defScope s_require_promise) := ⟨rfl, rfl, rfl, by decide +kernel, rfl, by decide +kernel, by decide +kernel⟩
theorem ok_require_promise (F : FunD K mg "require_promise" s_require_promise P_require_promise) (T : Txt K mg) (D_is_promise : Def P w K mg base CX0 4 "is_promise" P_is_promise (sp_is_promise K mg)) : Def P w K mg base (L2.CX P w) 5 "require_promise" P_require_promise (sp_require_promise K mg) := by
  refine F.okX sc_require_promise (fun vs H Q E h => by obtain ⟨b, v, d, rfl, h⟩ := h; rfl) (fun f cdv A outer s H vs Q E hr h => ?_)
  obtain ⟨b, v, d, rfl, h⟩ := h
  refine ⟨_, (pss_one (ps_if (pt_not (pt_val (pe_callD D_is_promise (hr.mono (by decide)) (by rfl) (pa_cons (pv 0) pa_nil)))) (pss_one (ps_raiseE (by rfl) (takes_of rfl rfl rfl rfl) T.e_InvalidPromise (by rfl))) pss_nil)), ?_⟩
  obtain ⟨hd, hs, k1, k2⟩ := h
  walk_at "rd"
  refine ⟨b, v, d, rfl, hd, hs, fun H1 hs1 => ⟨_, rfl, ?_⟩⟩
  cases e : promD d with
  | true => exact iteF (k1 e _ hs1)
  | false => exact iteT fun C hC => k2 e C _ hC hs1
theorem prom_inv {d : PyData} (h : promD d = true) : ∃ (w a : Str) (rest : List PyData), d = .tuple (.str w :: .str a :: rest) ∧ ((w == "within" || w == "alike") = true → ∃ c, rest = [.str c]) := by
  match d, h with
  | .tuple (.str w :: n :: rest), h =>
    unfold promD at h
    rw [Bool.and_eq_true] at h
    obtain ⟨h1, h2⟩ := h
    cases n with
    | str a =>
      refine ⟨w, a, rest, rfl, fun e => ?_⟩
      unfold restD at h2
      rw [if_pos e] at h2
      match rest, h2 with
      | [x], h2 =>
        cases x with
        | str c => exact ⟨c, rfl⟩
        | _ => cases h2
    | _ => cases h1
abbrev s_names_in : Stmt := topS 23
abbrev N_names_in : List Str := ["promise"]
abbrev P_names_in : List Str := ["promise"]
def sp_names_in (K : PySem.W.Frag) (mg : Str → Option Value) : Sp := fun vs H Q E => ∃ (b : Addr) (v : V) (d : PyData), vs = [v] ∧ Da b H v d ∧ promD d = true ∧ ∀ p H' vs, Same H H' → H' p = some (.tup vs) → DaAll b H' vs (namesD d) → Q (.ref p) H'
theorem sc_names_in : FnScope N_names_in P_names_in (defScope s_names_in) := ⟨rfl, rfl, rfl, by decide +kernel, rfl, by decide +kernel, by decide +kernel⟩
theorem ok_names_in (F : FunD K mg "names_in" s_names_in P_names_in) (T : Txt K mg)  : Def P w K mg base CX0 1 "names_in" P_names_in (sp_names_in K mg) := by
  refine F.ok sc_names_in (fun vs H Q E h => by obtain ⟨b, v, d, rfl, h⟩ := h; rfl) (fun f cdv A outer s H vs Q E hr h => ?_)
  obtain ⟨b, v, d, rfl, h⟩ := h
  refine ⟨_, (pss_cons (ps_if (PW.pt (pw_or (pt_cmpR (op_notIn_seq : OpR _ _ (rIn K true)) (pe_ix (ix_tup : IxR _ (rIxT K)) (pv 0) pe_int (fun _ _ => rfl)) (pe_tup (pa_cons (pe_glE (by rfl) T.c_WITHIN) (pa_cons (pe_glE (by rfl) T.c_ALIKE) pa_nil))) (by rfl)) (pw_or1 (pt_cmpR op_eq (pe_ix (ix_tup : IxR _ (rIxT K)) (pv 0) pe_int (fun _ _ => rfl)) (pe_ix (ix_tup : IxR _ (rIxT K)) (pv 0) pe_int (fun _ _ => rfl)) (nomark _))))) (pss_one (ps_ret (pe_tup (pa_cons (pe_ix (ix_tup : IxR _ (rIxT K)) (pv 0) pe_int (fun _ _ => rfl)) pa_nil)))) pss_nil)
      (pss_one (ps_ret (pe_tup (pa_cons (pe_ix (ix_tup : IxR _ (rIxT K)) (pv 0) pe_int (fun _ _ => rfl)) (pa_cons (pe_ix (ix_tup : IxR _ (rIxT K)) (pv 0) pe_int (fun _ _ => rfl)) pa_nil)))))), ?_⟩
  obtain ⟨hd, hp, k⟩ := h
  obtain ⟨z, a, rest, rfl, hr2⟩ := prom_inv hp
  cases hd with
  | @tup r xs _ hn ha hall =>
    cases hall with
    | @cons v0 vs0 _ _ h0 hall =>
      cases hall with
      | @cons v1 vs1 _ _ h1 hall =>
        cases h0
        cases h1
        refine ⟨_, rfl, _, _, _, _, rfl, rfl, SqT.of ha, at_of (j := 0) rfl rfl, ?_⟩
        walk_at "rd"
        refine fun q hq => ?_
        have ha1 : upd H q (.tup [.str "within", .str "alike"]) r = some (.tup (.str z :: .str a :: vs1)) := by rw [upd_ne (ne_of_none ha hq)]; exact ha
        have hs1 : Same H (upd H q (.tup [.str "within", .str "alike"])) := Same.new (Same.refl _) hq
        refine ⟨q, _, rfl, .inr (SqT.of upd_same), rfl, rfl, ?_⟩
        generalize upd H q (.tup [.str "within", .str "alike"]) = H1 at ha1 hs1 ⊢
        refine ⟨_, rfl, ?_⟩
        rw [if_pos rfl, inV2]
        refine and_split (fun e => ?_) (fun e => ?_)
        · have e2 : ¬ (z == "within" || z == "alike") = true := by rw [Bool.not_eq_true']at e; rw [e]; exact Bool.false_ne_true
          refine iteT ?_
          walk_at "rd"
          refine fun p hp2 => k p _ _ (Same.trans hs1 (Same.new (Same.refl _) hp2)) upd_same ?_
          show DaAll b _ _ (if (z == "within" || z == "alike") = true then _ else _)
          rw [if_neg e2]
          exact .cons (.str a) .nil
        · have e2 : (z == "within" || z == "alike") = true := by rw [Bool.not_eq_false'] at e; exact e
          obtain ⟨c, rfl⟩ := hr2 e2
          cases hall with
          | @cons v2 vs2 _ _ h2 hall =>
            cases h2
            cases hall
            have kk : namesD (.tuple [.str z, .str a, .str c]) = if a = c then [.str a] else [.str a, .str c] := by
              show (if (z == "within" || z == "alike") = true then _ else _) = _
              rw [if_pos e2]
            rw [kk] at k
            walk_at "rd"
            refine and_split (fun e3 => ?_) (fun e3 => ?_)
            · have e3 : a = c := by have := of_decide_eq_true e3; injection this
              walk_at "rd"
              refine fun p hp2 => k p _ _ (Same.trans hs1 (Same.new (Same.refl _) hp2)) upd_same ?_
              rw [if_pos e3]
              exact .cons (.str a) .nil
            · have e3 : ¬ a = c := fun q3 => by rw [q3] at e3; exact absurd (of_decide_eq_false e3) (by simp)
              walk_at "rd"
              refine fun p hp2 => k p _ _ (Same.trans hs1 (Same.new (Same.refl _) hp2)) upd_same ?_
              rw [if_neg e3]
              exact .cons (.str a) (.cons (.str c) .nil)
abbrev s_names_of : Stmt := topS 24
abbrev N_names_of : List Str := ["promise"]
abbrev P_names_of : List Str := ["promise"]
def sp_names_of (K : PySem.W.Frag) (mg : Str → Option Value) : Sp := fun vs H Q E => ∃ (b : Addr) (v : V) (d : PyData), vs = [v] ∧ Da b H v d ∧ elOk d ∧ (promD d = true → ∀ p H' vs, Same H H' → H' p = some (.tup vs) → DaAll b H' vs (namesD d) → Q (.ref p) H') ∧ (promD d = false → ∀ C H', ExcK K mg "InvalidPromise" C → Same H H' → E (.ref C) none H')
theorem sc_names_of : FnScope N_names_of P_names_of (defScope s_names_of) := ⟨rfl, rfl, rfl, by decide +kernel, rfl, by decide +kernel, by decide +kernel⟩
theorem ok_names_of (F : FunD K mg "names_of" s_names_of P_names_of) (T : Txt K mg) (D_require_promise : Def P w K mg base (L2.CX P w) 5 "require_promise" P_require_promise (sp_require_promise K mg)) (D_names_in : Def P w K mg base CX0 1 "names_in" P_names_in (sp_names_in K mg)) : Def P w K mg base (L2.CX P w) 6 "names_of" P_names_of (sp_names_of K mg) := by
  refine F.okX sc_names_of (fun vs H Q E h => by obtain ⟨b, v, d, rfl, h⟩ := h; rfl) (fun f cdv A outer s H vs Q E hr h => ?_)
  obtain ⟨b, v, d, rfl, h⟩ := h
  refine ⟨_, (pss_cons (ps_expr (pe_callX D_require_promise (hr.mono (by decide)) (by rfl) (takes_of rfl rfl rfl rfl) (pa_cons (pv 0) pa_nil)))
      (pss_one (ps_ret (pe_callD D_names_in (hr.mono (by decide)) (by rfl) (pa_cons (pv 0) pa_nil))))), ?_⟩
  obtain ⟨hd, hs, k1, k2⟩ := h
  walk_at "rd"
  refine ⟨b, v, d, rfl, hd, hs, fun e H1 hs1 => ?_, fun e C H1 hC hs1 => ?_⟩
  · exact ⟨_, rfl, b, v, d, rfl, hd.same hs1, e, fun p H2 vs hs2 hp hall => k1 e p H2 vs (Same.trans hs1 hs2) hp hall⟩
  · exact k2 e C H1 hC hs1
end
section
variable {P : Program} {w : World} {K : PySem.W.Frag} {mg : Str → Option Value} {base : Heap}
/-! ### the law's defs -/
mutual
/-- how great what lies in a value may be -/
def okD (m : Nat) : PyData → Prop
  | .int i => (i.natAbs : Int) < 10 ^ (100 + m)
  | .str s => s.length ≤ 300 + m
  | .list ds => ds.length ≤ 10 + m ∧ okAll m ds
  | .tuple ds => ds.length ≤ 10 + m ∧ okAll m ds
  | _ => True
def okAll (m : Nat) : List PyData → Prop
  | [] => True
  | d :: ds => okD m d ∧ okAll m ds
end
abbrev s_law_one_of : Stmt := topS 28
abbrev N_law_one_of : List Str := ["_law_bag_here", "_law_items"]
abbrev P_law_one_of : List Str := ["_law_bag_here", "_law_items"]
def sp_law_one_of (K : PySem.W.Frag) (mg : Str → Option Value) : Sp := fun vs H Q E => ∃ (b a : Addr) (xs : List V), vs = [.ref b, .ref a] ∧ Bag H b ∧ a ≠ b ∧ (SqL K H a xs ∨ SqT K H a xs) ∧ 0 < xs.length ∧ xs.length ≤ 1000 ∧ ∀ H' x, Ext b H H' → x ∈ xs → Q x H'
theorem sc_law_one_of : FnScope N_law_one_of P_law_one_of (defScope s_law_one_of) := ⟨rfl, rfl, rfl, by decide +kernel, rfl, by decide +kernel, by decide +kernel⟩
theorem ok_law_one_of (F : FunD K mg "_law_one_of" s_law_one_of P_law_one_of) (T : Txt K mg) (D__law_draw : Def P w K mg base CX0 1 "_law_draw" P_law_draw (sp_law_draw K mg)) : Def P w K mg base CX0 2 "_law_one_of" P_law_one_of (sp_law_one_of K mg) := by
  refine F.ok sc_law_one_of (fun vs H Q E h => by obtain ⟨b, a, xs, rfl, h⟩ := h; rfl) (fun f cdv A outer s H vs Q E hr h => ?_)
  obtain ⟨b, a, xs, rfl, h⟩ := h
  refine ⟨_, (pss_one (ps_ret (pe_ix (ix_seq : IxR _ (rIx K)) (pv 1) (pe_callD D__law_draw (hr.mono (by decide)) (by rfl) (pa_cons (pv 0) (pa_cons (pe_callB (call_lenU : CallR _ _ (rLenU K)) (by rfl) T.b_len (by decide +kernel) (pa_cons (pv 1) pa_nil)) pa_nil))) (fun _ _ => rfl)))), ?_⟩
  obtain ⟨hB, hab, hS, h0, hz, k⟩ := h
  walk_at "rd"
  refine .inr ⟨a, xs, rfl, hS, b, (xs.length : Int), rfl, hB, by omega, Nat.lt_of_le_of_lt (show (xs.length : Int).natAbs ≤ 1000 by omega) (show 1000 < 2 ^ 2000 by decide +kernel), fun H1 r he h1 h2 => ?_⟩
  obtain ⟨j, rfl⟩ := Int.eq_ofNat_of_zero_le h1
  have hj : j < xs.length := by omega
  have hx : xs[j]? = some (xs[j]'hj) := List.getElem?_eq_getElem hj
  rcases hS with hS | hS
  · exact .inl ⟨a, _, _, _, rfl, rfl, he.seqL hab hS, atI_nat hx, k _ _ he (List.getElem_mem hj)⟩
  · exact .inr (.inl ⟨a, _, _, _, rfl, rfl, he.seqT hab hS, atI_nat hx, k _ _ he (List.getElem_mem hj)⟩)
theorem one_of_da {b p : Addr} {H : Hp} {Q : VK} {xs : List V} {ds : List PyData} (hB : Bag H b) (hp : H p = none) (hall : DaAll b H xs ds) (h0 : 0 < ds.length) (hz : ds.length ≤ 1000) (k : ∀ H' x d, Ext b H H' → d ∈ ds → Da b H' x d → Q x H') :
    sp_law_one_of K mg [.ref b, .ref p] (upd H p (.lst xs)) Q E0 := by
  have hs : Same H (upd H p (.lst xs)) := Same.new (Same.refl _) hp
  refine ⟨b, p, xs, rfl, (Ext.ofS hB hs).bag, hB.ne hp, .inl (SqL.of upd_same), by rw [hall.len]; exact h0, by rw [hall.len]; exact hz, fun H' x he hx => ?_⟩
  obtain ⟨i, hi⟩ := List.getElem?_of_mem hx
  obtain ⟨d, hd1, hd2⟩ := hall.get hi
  exact k H' x d ((Ext.ofS hB hs).trans he) (List.mem_of_getElem? hd1) ((hd2.same hs).ext he)
abbrev s_law_odd : Stmt := topS 29
abbrev N_law_odd : List Str := ["_law_bag_here"]
abbrev P_law_odd : List Str := ["_law_bag_here"]
def sp_law_odd (K : PySem.W.Frag) (mg : Str → Option Value) : Sp := fun vs H Q E => ∃ (b : Addr), vs = [.ref b] ∧ Bag H b ∧ ∀ H' x d, Ext b H H' → Da b H' x d → okD 0 d → Q x H'
theorem sc_law_odd : FnScope N_law_odd P_law_odd (defScope s_law_odd) := ⟨rfl, rfl, rfl, by decide +kernel, rfl, by decide +kernel, by decide +kernel⟩
theorem ok_law_odd (F : FunD K mg "_law_odd" s_law_odd P_law_odd) (T : Txt K mg) (D__law_one_of : Def P w K mg base CX0 2 "_law_one_of" P_law_one_of (sp_law_one_of K mg)) : Def P w K mg base CX0 3 "_law_odd" P_law_odd (sp_law_odd K mg) := by
  refine F.ok sc_law_odd (fun vs H Q E h => by obtain ⟨b, rfl, h⟩ := h; rfl) (fun f cdv A outer s H vs Q E hr h => ?_)
  obtain ⟨b, rfl, h⟩ := h
  refine ⟨_, (pss_one (ps_ret (pe_callD D__law_one_of (hr.mono (by decide)) (by rfl) (pa_cons (pv 0) (pa_cons (pe_lst (pa_cons pe_non (pa_cons pe_bl (pa_cons (pe_un un_neg pe_int) (pa_cons (pe_op op_pow pe_int pe_int) (pa_cons (pe_op op_mulW (pe_op op_pow pe_int pe_int) (pe_op op_pow pe_int pe_int)) (pa_cons pe_str (pa_cons pe_str (pa_cons pe_str (pa_cons (pe_lst pa_nil) (pa_cons (pe_lst (pa_cons pe_int pa_nil)) (pa_cons pe_dnewK (pa_cons (pe_disp (pps_cons pe_int pe_int pps_nil) (by rfl) (by rfl) (fun z => by cases z) (by decide)) (pa_cons (pe_op op_mulS pe_str pe_int) pa_nil)))))))))))))) pa_nil))))), ?_⟩
  obtain ⟨hB, k⟩ := h
  walk_at "rd"
  refine ⟨wide_mul (a := 200) (b := 200) (by decide +kernel) (by decide +kernel) (by decide) (by decide) (by decide), ?_⟩
  walk_at "rd"
  refine fun p1 hp1 => ?_
  have hs1 : Same H (upd H p1 (.lst [])) := Same.new (Same.refl _) hp1
  have h1 : upd H p1 (.lst []) p1 = some (.lst []) := upd_same
  generalize upd H p1 (.lst []) = H1 at hs1 h1 ⊢
  walk_at "rd"
  refine fun p2 hp2 => ?_
  have hs2 : Same H1 (upd H1 p2 (.lst [.int 0])) := Same.new (Same.refl _) hp2
  have h2 : upd H1 p2 (.lst [.int 0]) p2 = some (.lst [.int 0]) := upd_same
  generalize upd H1 p2 (.lst [.int 0]) = H2 at hs2 h2 ⊢
  refine fun p3 hp3 => ?_
  have hs3 : Same H2 (upd H2 p3 (.dK [])) := Same.new (Same.refl _) hp3
  have h3 : upd H2 p3 (.dK []) p3 = some (.dK []) := upd_same
  generalize upd H2 p3 (.dK []) = H3 at hs3 h3 ⊢
  refine fun p4 hp4 => ?_
  refine ⟨upd_same, [(.inl 0, .int 0)], rfl, by decide, ?_⟩
  have hs4 : Same H3 (upd (upd H3 p4 (.dK [])) p4 (.dK (mergeK [] [(.inl 0, .int 0)]))) := Same.put (Same.new (Same.refl _) hp4) hp4
  have h4 : upd (upd H3 p4 (.dK [])) p4 (.dK (mergeK [] [(.inl 0, .int 0)])) p4 = some (.dK (mergeK [] [(.inl 0, .int 0)])) := upd_same
  generalize upd (upd H3 p4 (.dK [])) p4 (.dK (mergeK [] [(.inl 0, .int 0)])) = H4 at hs4 h4 ⊢
  have hz : (⟨(List.replicate (Int.toNat 201) ("0" : Str).cps).foldl (· ++ ·) #[]⟩ : Str).length ≤ 300 := by decide +kernel
  refine ⟨_, _, rfl, rfl, by decide, by decide, by decide +kernel, by decide +kernel, Nat.le_trans hz (by decide), ?_⟩
  generalize (⟨(List.replicate (Int.toNat 201) ("0" : Str).cps).foldl (· ++ ·) #[]⟩ : Str) = z at hz ⊢
  refine And.intro (lenOk (by simp)) fun p hp => ?_
  have e1 : (10 : Int) ^ Int.toNat 60 = 10 ^ 60 := rfl
  have e2 : (10 : Int) ^ Int.toNat 50 * 10 ^ Int.toNat 49 = 10 ^ 99 := by decide +kernel
  simp only [e1, e2]
  have hs5 : Same H4 (upd H4 p (.lst [.non, .bl true, .int (-1), .int (10 ^ 60), .int (10 ^ 99), .str "x", .str "4", .str "0 ", .ref p1, .ref p2, .ref p3, .ref p4, .str z])) := Same.new (Same.refl _) hp
  refine ⟨b, p, _, rfl, (Ext.ofS hB (Same.trans hs1 (Same.trans hs2 (Same.trans hs3 (Same.trans hs4 hs5))))).bag, ?_, .inl (SqL.of upd_same), by simp, by simp, fun H' x he hx => ?_⟩
  · exact (Ext.ofS hB (Same.trans hs1 (Same.trans hs2 (Same.trans hs3 hs4)))).bag.ne hp
  have hB1 := (Ext.ofS hB hs1).bag
  have hB2 := (Ext.ofS hB1 hs2).bag
  have hB3 := (Ext.ofS hB2 hs3).bag
  have hB4 := (Ext.ofS hB3 hs4).bag
  have x4 : Ext b H4 H' := (Ext.ofS hB4 hs5).trans he
  have x3 : Ext b H3 H' := (Ext.ofS hB3 hs4).trans x4
  have x2 : Ext b H2 H' := (Ext.ofS hB2 hs3).trans x3
  have x1 : Ext b H1 H' := (Ext.ofS hB1 hs2).trans x2
  have x0 : Ext b H H' := (Ext.ofS hB hs1).trans x1
  have n1 := hB.ne hp1
  have n2 := hB1.ne hp2
  have n3 := hB2.ne hp3
  have n4 := hB3.ne hp4
  simp only [List.mem_cons, List.not_mem_nil, or_false] at hx
  rcases hx with rfl | rfl | rfl | rfl | rfl | rfl | rfl | rfl | rfl | rfl | rfl | rfl | rfl
  · exact k _ _ _ x0 .non trivial
  · exact k _ _ _ x0 (.bl _) trivial
  · exact k _ _ _ x0 (.int _) (show ((Int.natAbs (-1) : Nat) : Int) < 10 ^ (100 + 0) by decide +kernel)
  · exact k _ _ _ x0 (.int _) (show ((Int.natAbs (10 ^ 60) : Nat) : Int) < 10 ^ (100 + 0) by decide +kernel)
  · exact k _ _ _ x0 (.int _) (show ((Int.natAbs (10 ^ 99) : Nat) : Int) < 10 ^ (100 + 0) by decide +kernel)
  · exact k _ _ _ x0 (.str _) (show _ ≤ 300 + 0 by decide +kernel)
  · exact k _ _ _ x0 (.str _) (show _ ≤ 300 + 0 by decide +kernel)
  · exact k _ _ _ x0 (.str _) (show _ ≤ 300 + 0 by decide +kernel)
  · exact k _ _ _ x0 (.lst n1 (x1.same _ _ n1 h1) .nil) ⟨by decide, trivial⟩
  · exact k _ _ _ x0 (.lst n2 (x2.same _ _ n2 h2) (.cons (.int 0) .nil)) ⟨by decide, (show ((Int.natAbs 0 : Nat) : Int) < 10 ^ (100 + 0) by decide +kernel), trivial⟩
  · exact k _ _ _ x0 (.dic n3 (x3.same _ _ n3 h3)) trivial
  · exact k _ _ _ x0 (.dic n4 (x4.same _ _ n4 h4)) trivial
  · exact k _ _ _ x0 (.str z) (show z.length ≤ 300 + 0 from hz)
end
section
variable {P : Program} {w : World} {K : PySem.W.Frag} {mg : Str → Option Value} {base : Heap}
theorem okAll_iff {m : Nat} : ∀ {ds : List PyData}, okAll m ds ↔ ∀ d ∈ ds, okD m d
  | [] => ⟨fun _ _ z => by simp at z, fun _ => trivial⟩
  | d :: ds => by
    rw [okAll, okAll_iff (ds := ds)]
    exact ⟨fun h e he => by rcases List.mem_cons.mp he with rfl | he; exact h.1; exact h.2 e he, fun h => ⟨h d (by simp), fun e he => h e (by simp [he])⟩⟩
theorem ten_le {m n : Nat} (h : m ≤ n) : (10 : Int) ^ (100 + m) ≤ 10 ^ (100 + n) := by
  have h2 : (10 : Nat) ^ (100 + m) ≤ 10 ^ (100 + n) := Nat.pow_le_pow_right (by decide) (by omega)
  have h3 : ((10 ^ (100 + m) : Nat) : Int) ≤ ((10 ^ (100 + n) : Nat) : Int) := Int.ofNat_le.mpr h2
  rw [Int.natCast_pow, Int.natCast_pow] at h3
  exact h3
mutual
theorem okD_mono {m n : Nat} (h : m ≤ n) : ∀ {d : PyData}, okD m d → okD n d
  | .none, _ => trivial
  | .bool _, _ => trivial
  | .int i, q => Int.lt_of_lt_of_le q (ten_le h)
  | .str s, q => Nat.le_trans (show s.length ≤ 300 + m from q) (show 300 + m ≤ 300 + n by omega)
  | .list ds, q => ⟨Nat.le_trans q.1 (by omega), okAll_mono h q.2⟩
  | .tuple ds, q => ⟨Nat.le_trans q.1 (by omega), okAll_mono h q.2⟩
  | .dict _, _ => trivial
theorem okAll_mono {m n : Nat} (h : m ≤ n) : ∀ {ds : List PyData}, okAll m ds → okAll n ds
  | [], _ => trivial
  | _ :: _, q => ⟨okD_mono h q.1, okAll_mono h q.2⟩
end
theorem ok_cut {m : Nat} {ds : List PyData} (lo hi : Option Int) (h : okAll m ds) : okAll m (cutD ds lo hi) := okAll_iff.mpr fun d hd => okAll_iff.mp h d (List.mem_of_mem_drop (List.mem_of_mem_take hd))
theorem len_cut (ds : List PyData) (lo hi : Option Int) : (cutD ds lo hi).length ≤ ds.length := by
  unfold cutD
  rw [List.length_take, List.length_drop]
  omega
theorem ok_app {m : Nat} {ds es : List PyData} (h : okAll m ds) (q : okAll m es) : okAll m (ds ++ es) := okAll_iff.mpr fun d hd => (List.mem_append.mp hd).elim (okAll_iff.mp h d) (okAll_iff.mp q d)
theorem if_join {c : Bool} {A B : VK → Prop} {C : VK} (S : V → Hp → Prop) (ha : c = true → ∀ R : VK, (∀ x H', S x H' → R x H') → A R) (hb : c = false → ∀ R : VK, (∀ x H', S x H' → R x H') → B R) (k : ∀ x H', S x H' → C x H') : if c = true then A C else B C :=
  and_split (fun e => ha e C k) (fun e => hb e C k)
theorem tC_at {v : V} {σ : L2.St} {H : Hp} {Q : VK} : tC v σ H Q = Q v H := rfl
theorem cutS_len (z : Str) (lo hi : Option Int) : (cutS z lo hi).length ≤ z.length := by
  show (List.toArray _).size ≤ z.cps.size
  rw [List.size_toArray, List.length_take, List.length_drop, Array.length_toList]
  omega
theorem nat10 {i : Int} {m : Nat} (h : (i.natAbs : Int) < 10 ^ (100 + m)) (hm : m ≤ 10) : i.natAbs < 10 ^ 110 := by
  have h2 := Int.lt_of_lt_of_le h (ten_le hm)
  rw [show (10 : Int) ^ (100 + 10) = ((10 ^ 110 : Nat) : Int) by rw [Int.natCast_pow]; rfl] at h2
  exact Int.ofNat_lt.mp h2
theorem log10 {n : Nat} (h : n < 10 ^ 110) : n.log2 < 1920 := by
  by_cases h0 : n = 0
  · subst h0; decide
  · rw [Nat.log2_lt h0]
    exact Nat.lt_of_lt_of_le h (by decide +kernel)
theorem strI_len {i : Int} (h : i.natAbs < 10 ^ 110) : (Str.ofString (toString i)).length ≤ 111 := by
  cases i with
  | ofNat n => exact Nat.le_trans (PyProof.Rows.toString_length_le (v := (n : Int)) (Int.natCast_nonneg n) (k := 110) (by decide) (by
      have h2 : ((n : Nat) : Int) < ((10 ^ 110 : Nat) : Int) := Int.ofNat_lt.mpr h
      rw [Int.natCast_pow] at h2
      exact h2)) (by decide)
  | negSucc n =>
    have q := PyProof.Rows.toString_length_le (v := ((n + 1 : Nat) : Int)) (Int.natCast_nonneg _) (k := 110) (by decide) (by
      have h2 : ((n + 1 : Nat) : Int) < ((10 ^ 110 : Nat) : Int) := Int.ofNat_lt.mpr h
      rw [Int.natCast_pow] at h2
      exact h2)
    rw [PySem.ofString_length] at q ⊢
    show ("-" ++ toString ((n + 1 : Nat) : Int)).length ≤ 111
    rw [String.length_append]
    exact Nat.add_le_add (show ("-" : String).length ≤ 1 by decide) q
theorem ten_step {m : Nat} {x : Int} {i : Int} (h : (i.natAbs : Int) < 10 ^ (100 + m)) (hx : (x.natAbs : Int) ≤ i.natAbs + 10 ^ 30) : (x.natAbs : Int) < 10 ^ (100 + (m + 2)) := by
  have e1 : (10 : Int) ^ (100 + (m + 2)) = 10 ^ (100 + m) * 100 := by
    rw [show 100 + (m + 2) = (100 + m) + 2 by omega, Int.pow_add]; rfl
  have e2 : (10 : Int) ^ 30 ≤ 10 ^ (100 + m) := Int.le_trans (show (10 : Int) ^ 30 ≤ 10 ^ (100 + 0) by decide +kernel) (ten_le (Nat.zero_le _))
  rw [e1]
  generalize (10 : Int) ^ (100 + m) = A at h e2 ⊢
  have : (10 : Int) ^ 30 > 0 := by decide
  generalize (10 : Int) ^ 30 = B at hx e2 this ⊢
  omega
abbrev s_law_spoiled : Stmt := topS 30
abbrev N_law_spoiled : List Str := ["_law_bag_here", "_law_value", "_law_deep", "_law_at"]
abbrev P_law_spoiled : List Str := ["_law_bag_here", "_law_value", "_law_deep"]
def sp_law_spoiled (K : PySem.W.Frag) (mg : Str → Option Value) : Nat → Sp
  | 0 => fun _ _ _ _ => False
  | nn + 1 => fun vs H Q E => ∃ (b : Addr) (v : V) (d : PyData) (m : Nat) (deep : Int), vs = [.ref b, v, .int deep] ∧ Bag H b ∧ deep ≤ (nn : Int) ∧ Da b H v d ∧ okD m d ∧ m ≤ 10 ∧ ∀ H' x d', Ext b H H' → Da b H' x d' → okD (m + 2) d' → Q x H'
theorem sc_law_spoiled : FnScope N_law_spoiled P_law_spoiled (defScope s_law_spoiled) := ⟨rfl, rfl, rfl, by decide +kernel, rfl, by decide +kernel, by decide +kernel⟩
theorem ok_law_spoiled {kk nn : Nat} (F : FunD K mg "_law_spoiled" s_law_spoiled P_law_spoiled) (T : Txt K mg) (D__law_draw : Def P w K mg base CX0 1 "_law_draw" P_law_draw (sp_law_draw K mg)) (D__law_one_of : Def P w K mg base CX0 2 "_law_one_of" P_law_one_of (sp_law_one_of K mg)) (hk : 2 ≤ kk) (D__law_spoiled : Def P w K mg base CX0 kk "_law_spoiled" P_law_spoiled (sp_law_spoiled K mg nn)) : Def P w K mg base CX0 (kk + 1) "_law_spoiled" P_law_spoiled (sp_law_spoiled K mg (nn + 1)) := by
  refine F.ok sc_law_spoiled (fun vs H Q E h => by obtain ⟨b, v, d, m, deep, rfl, h⟩ := h; rfl) (fun f cdv A outer s H vs Q E hr h => ?_)
  obtain ⟨b, v, d, m, deep, rfl, h⟩ := h
  refine ⟨_, (Evl.pss_cut (ps_if (PW.pt (pw_and (pt_val (pe_callB (call_isi : CallR _ _ (rIsi K)) (by rfl) T.b_isinstance (by decide +kernel) (pa_cons (pv 1) (pa_cons (pe_bltn (v := .ty "tuple") (by rfl) T.b_tuple (by decide +kernel) rfl) pa_nil)))) (pw_and (pt_cmpR (op_neS (hu00 hr) : OpR _ _ (rEqS K true)) (pv 1) (pe_tup pa_nil) (nomark _)) (pw_and (pt_cmpR op_gt (pv 2) pe_int (nomark _)) (pw_and1 (pt_cmpR op_gt (pe_callD D__law_draw (hr.mono (by omega)) (by rfl) (pa_cons (pv 0) (pa_cons pe_int pa_nil))) pe_int (nomark _))))))) (pss_cons (ps_set (i := 3) sc_law_spoiled.nd rfl (Or.inl rfl) (pe_callD D__law_draw (hr.mono (by omega)) (by rfl) (pa_cons (pv 0) (pa_cons (pe_callB (call_lenU : CallR _ _ (rLenU K)) (by rfl) T.b_len (by decide +kernel) (pa_cons (pv 1) pa_nil)) pa_nil))))
      (pss_one (ps_ret (pe_op (op_catA : OpR _ _ (rCatA K)) (pe_op (op_catA : OpR _ _ (rCatA K)) (pe_slH (sl_tupA : SlR _ (rSlA K)) (pv 1) (pv 3)) (pe_tup (pa_cons (pe_callD D__law_spoiled (hr.mono (by omega)) (by rfl) (pa_cons (pv 0) (pa_cons (pe_ix (ix_tup : IxR _ (rIxT K)) (pv 1) (pv 3) (fun _ _ => rfl)) (pa_cons (pe_op op_sub (pv 2) pe_int) pa_nil)))) pa_nil))) (pe_slL (sl_tupA : SlR _ (rSlA K)) (pv 1) (pe_op op_add (pv 3) pe_int)))))) pss_nil)
      (pss_cons (ps_if (pt_val (pe_callB (call_isi : CallR _ _ (rIsi K)) (by rfl) T.b_isinstance (by decide +kernel) (pa_cons (pv 1) (pa_cons (pe_bltn (v := .ty "tuple") (by rfl) T.b_tuple (by decide +kernel) rfl) pa_nil)))) (pss_one (ps_ret (pe_callD D__law_one_of (hr.mono (by omega)) (by rfl) (pa_cons (pv 0) (pa_cons (pe_lst (pa_cons (pe_op (op_catA : OpR _ _ (rCatA K)) (pv 1) (pe_tup (pa_cons (pe_tup pa_nil) pa_nil))) (pa_cons (pe_ifExp (pt_cmpR (op_neS (hu00 hr) : OpR _ _ (rEqS K true)) (pv 1) (pe_tup pa_nil) (nomark _)) (pe_slH (sl_tupA : SlR _ (rSlA K)) (pv 1) (pe_un un_neg pe_int)) (pe_tup (pa_cons pe_int pa_nil))) (pa_cons (pe_callTy (call_listU : CallR _ _ (rListU K)) (by rfl) T.b_list (by decide +kernel) (pa_cons (pv 1) pa_nil)) (pa_cons pe_non (pa_cons (pe_op (op_catA : OpR _ _ (rCatA K)) (pv 1) (pe_op (op_repA : OpR _ _ (rRepA K)) (pe_slL (sl_tupA : SlR _ (rSlA K)) (pv 1) (pe_un un_neg pe_int)) pe_int)) pa_nil)))))) pa_nil))))) pss_nil)
      (pss_cons (ps_if (pt_val (pe_callB (call_isi : CallR _ _ (rIsi K)) (by rfl) T.b_isinstance (by decide +kernel) (pa_cons (pv 1) (pa_cons (pe_bltn (v := .ty "str") (by rfl) T.b_str (by decide +kernel) rfl) pa_nil)))) (pss_one (ps_ret (pe_callD D__law_one_of (hr.mono (by omega)) (by rfl) (pa_cons (pv 0) (pa_cons (pe_lst (pa_cons (pe_op op_add_str (pv 1) pe_str) (pa_cons (pe_ifExp (pt_cmpR op_ne (pv 1) pe_str (nomark _)) (pe_slH sl_str (pv 1) (pe_un un_neg pe_int)) pe_str) (pa_cons (pe_op op_add_str (pv 1) pe_str) (pa_cons pe_non (pa_cons (pe_tup (pa_cons (pv 1) pa_nil)) pa_nil)))))) pa_nil))))) pss_nil)
      (pss_cons (ps_if (pt_val (pe_callB (call_isi : CallR _ _ (rIsi K)) (by rfl) T.b_isinstance (by decide +kernel) (pa_cons (pv 1) (pa_cons (pe_bltn (v := .ty "bool") (by rfl) T.b_bool (by decide +kernel) rfl) pa_nil)))) (pss_one (ps_ret (pe_callD D__law_one_of (hr.mono (by omega)) (by rfl) (pa_cons (pv 0) (pa_cons (pe_lst (pa_cons (pe_not (pv 1)) (pa_cons (pe_callTy call_int1 (by rfl) T.b_int (by decide +kernel) (pa_cons (pv 1) pa_nil)) (pa_cons pe_non pa_nil)))) pa_nil))))) pss_nil)
      (pss_cons (ps_if (pt_val (pe_callB (call_isi : CallR _ _ (rIsi K)) (by rfl) T.b_isinstance (by decide +kernel) (pa_cons (pv 1) (pa_cons (pe_bltn (v := .ty "int") (by rfl) T.b_int (by decide +kernel) rfl) pa_nil)))) (pss_one (ps_ret (pe_callD D__law_one_of (hr.mono (by omega)) (by rfl) (pa_cons (pv 0) (pa_cons (pe_lst (pa_cons (pe_op op_add (pv 1) pe_int) (pa_cons (pe_op op_sub (pv 1) pe_int) (pa_cons (pe_op op_sub (pe_un un_neg (pv 1)) pe_int) (pa_cons (pe_op op_add (pv 1) (pe_op op_pow pe_int pe_int)) (pa_cons pe_non (pa_cons (pe_callTy call_str_int (by rfl) T.b_str (by decide +kernel) (pa_cons (pv 1) pa_nil)) pa_nil))))))) pa_nil))))) pss_nil)
      (pss_one (ps_ret (pe_ifExp (pt_cmpR op_isN (pv 1) pe_non (nomark _)) pe_int pe_non)))))))), ?_⟩
  obtain ⟨hB, hdp, hd, hok, hm, k⟩ := h
  refine ⟨fun σ' H' => σ' = L2.start N_law_spoiled [.ref b, v, .int deep] ∧ Ext b H H', ?_, ?_⟩
  · walk_at "rd"
    refine and_split (fun e => ?_) (fun e => ⟨rfl, Ext.refl hB⟩)
    obtain ⟨a, xs, ds, rfl, rfl, hn, ha, hall⟩ := hd.isTup (by rw [e]; rfl)
    walk_at "rd"
    refine fun q hq => ?_
    refine eqNil_da hd hq fun hs1 => ?_
    refine ⟨_, rfl, and_split (fun e1 => ?_) (fun e1 => ⟨rfl, Ext.ofS hB hs1⟩)⟩
    have hB1 := (Ext.ofS hB hs1).bag
    have hd1 := hd.same hs1
    generalize upd H q (.tup []) = H1 at hs1 hB1 hd1 ⊢
    walk_at "rd"
    refine and_split (fun e2 => ?_) (fun e2 => ⟨rfl, Ext.ofS hB hs1⟩)
    walk_at "rd"
    refine fun H2 r he2 hr1 hr2 => ?_
    walk_at "rd"
    refine and_split (fun e3 => ?_) (fun e3 => ⟨rfl, (Ext.ofS hB hs1).trans he2⟩)
    have hB2 := he2.bag
    have hd2 := hd1.ext he2
    have he02 := (Ext.ofS hB hs1).trans he2
    have hlen := hall.len
    have hpos : 0 < ds.length := by cases ds with | nil => cases e1 | cons => exact Nat.succ_pos _
    have hle : ds.length ≤ 10 + m := hok.1
    have hx2 := he02.same _ _ hn ha
    refine ⟨_, rfl, _, rfl, .inr ⟨a, xs, rfl, .inr (SqT.of hx2), ?_⟩⟩
    refine ⟨b, (xs.length : Int), rfl, hB2, by omega, Nat.lt_of_le_of_lt (show (xs.length : Int).natAbs ≤ 1000 by omega) (by decide +kernel), fun H3 r3 he3 hr3 hr4 => ?_⟩
    obtain ⟨j, rfl⟩ := Int.eq_ofNat_of_zero_le hr3
    have hB3 := he3.bag
    have hd3 := hd2.ext he3
    have hx3 := he3.same _ _ hn hx2
    have hj : j < ds.length := by omega
    walk_at "rd"
    refine sl_da hB3 hd3 fun p4 H4 hs4 hd4 => ?_
    have hx4 := hs4 _ _ hx3
    have hB4 := (Ext.ofS hB3 hs4).bag
    have hda : ds[j]? = some (ds[j]'hj) := List.getElem?_eq_getElem hj
    obtain ⟨vj, hv1, hv2⟩ := hall.at hda
    have he04 := (he02.trans he3).trans (Ext.ofS hB3 hs4)
    refine ⟨_, rfl, _, rfl, _, rfl, _, _, _, _, rfl, rfl, SqT.of hx4, atI_nat hv1, _, rfl, ?_⟩
    walk_at "rd"
    have e2 := of_decide_eq_true e2
    cases nn with
    | zero => exact absurd hdp (by omega)
    | succ n2 =>
      refine ⟨b, vj, ds[j], m, deep - 1, rfl, hB4, by omega, hv2.ext he04, okAll_iff.mp hok.2 _ (List.getElem_mem hj), hm, fun H5 x5 d5 he5 hd5 hok5 => ?_⟩
      have hB5 := he5.bag
      refine And.intro (lenOk (by simp)) fun p6 hp6 => ?_
      have hs6 : Same H5 (upd H5 p6 (.tup [x5])) := Same.new (Same.refl _) hp6
      have hd6 : Da b (upd H5 p6 (.tup [x5])) (.ref p6) (.tuple [d5]) := Da.tupNew hB5 (.cons hd5 .nil) hp6
      have hB6 := (Ext.ofS hB5 hs6).bag
      generalize upd H5 p6 (.tup [x5]) = H6 at hs6 hd6 hB6 ⊢
      have hl4 : (cutD ds none (some (j : Int))).length = j := by
        unfold cutD
        rw [HT.sIx_nat, HT.sIx_none, List.length_take, List.length_drop]
        omega
      refine cat_da hB6 ((hd4.ext he5).same hs6) hd6 (by rw [hl4]; exact Nat.le_trans (show j + 1 ≤ 1000 by omega) (by decide)) fun p7 H7 hs7 hd7 => ?_
      have hB7 := (Ext.ofS hB6 hs7).bag
      have he47 := (he5.trans (Ext.ofS hB5 hs6)).trans (Ext.ofS hB6 hs7)
      walk_at "rd"
      refine sl_da hB7 ((hd3.same hs4).ext he47) fun p8 H8 hs8 hd8 => ?_
      have hl8 : (cutD ds (some ((j : Int) + 1)) none).length = ds.length - (j + 1) := by
        unfold cutD
        rw [show ((j : Int) + 1) = ((j + 1 : Nat) : Int) from rfl, HT.sIx_nat, HT.sIx_none, List.length_take, List.length_drop]
        omega
      have hB8 := (Ext.ofS hB7 hs8).bag
      refine cat_da hB8 (hd7.same hs8) hd8 (by rw [List.length_append, hl4, hl8, List.length_singleton]; exact Nat.le_trans (show j + 1 + (ds.length - (j + 1)) ≤ 1000 by omega) (by decide)) fun p9 H9 hs9 hd9 => ?_
      refine k H9 (.ref p9) _ (((he04.trans he47).trans (Ext.ofS hB7 hs8)).trans (Ext.ofS hB8 hs9)) hd9 ⟨?_, ?_⟩
      · rw [List.length_append, List.length_append, hl4, hl8, List.length_singleton]; omega
      · exact ok_app (ok_app (okAll_mono (by omega) (ok_cut _ _ hok.2)) ⟨hok5, trivial⟩) (okAll_mono (by omega) (ok_cut _ _ hok.2))
  · rintro σ' H' ⟨rfl, he0⟩
    have hB1 := he0.bag
    have hd1 := hd.ext he0
    walk_at "rd"
    refine and_split (fun e => ?_) (fun e => ?_)
    · obtain ⟨a, xs, ds, rfl, rfl, hn, ha, hall⟩ := hd1.isTup (by rw [e]; rfl)
      walk_at "rd"
      refine fun q1 hq1 => ?_
      have hs1 : Same H' (upd H' q1 (.tup [])) := Same.new (Same.refl _) hq1
      have hB2 := (Ext.ofS hB1 hs1).bag
      have hdq1 : Da b (upd H' q1 (.tup [])) (.ref q1) (.tuple []) := Da.tupNew hB1 .nil hq1
      generalize upd H' q1 (.tup []) = H2 at hs1 hB2 hdq1 ⊢
      refine And.intro (lenOk (by simp)) fun q2 hq2 => ?_
      have hs2 : Same H2 (upd H2 q2 (.tup [.ref q1])) := Same.new (Same.refl _) hq2
      have hB3 := (Ext.ofS hB2 hs2).bag
      have hdq2 : Da b (upd H2 q2 (.tup [.ref q1])) (.ref q2) (.tuple [.tuple []]) := Da.tupNew hB2 (.cons hdq1 .nil) hq2
      have hd3 := (hd1.same hs1).same hs2
      generalize upd H2 q2 (.tup [.ref q1]) = H3 at hs2 hB3 hdq2 hd3 ⊢
      have hle : ds.length ≤ 10 + m := hok.1
      have hoka : okAll (m + 2) ds := okAll_mono (by omega) hok.2
      refine cat_da hB3 hd3 hdq2 (Nat.le_trans (show ds.length + 1 ≤ 1000 by omega) (by decide)) fun p4 H4 hs4 hd4 => ?_
      have hB4 := (Ext.ofS hB3 hs4).bag
      have hv4 := hd3.same hs4
      walk_at "rd"
      refine fun q5 hq5 => ?_
      refine eqNil_da hv4 hq5 fun hs5 => ?_
      have hB5 := (Ext.ofS hB4 hs5).bag
      have hv5 := hv4.same hs5
      have hd5 := hd4.same hs5
      generalize upd H4 q5 (.tup []) = H5 at hs5 hB5 hv5 hd5 ⊢
      refine ⟨_, rfl, ?_⟩
      refine if_join (fun x H' => ∃ es, Same H5 H' ∧ Da b H' x (.tuple es) ∧ okD (m + 2) (.tuple es)) (fun e1 R hR => ?_) (fun e1 R hR => ?_) (fun x6 H6 hx6 => ?_)
      · walk_at "rd"
        exact sl_da hB5 hv5 fun p H6 hs6 hd6 => hR _ _ ⟨_, hs6, hd6, Nat.le_trans (len_cut _ _ _) (by omega), ok_cut _ _ hoka⟩
      · walk_at "rd"
        refine fun p hp => hR _ _ ⟨[.int 0], Same.new (Same.refl _) hp, Da.tupNew hB5 (.cons (.int 0) .nil) hp, Nat.le_trans (show 1 ≤ 10 by decide) (by omega), Int.lt_of_lt_of_le (show ((Int.natAbs 0 : Nat) : Int) < 10 ^ (100 + 0) by decide +kernel) (ten_le (Nat.zero_le _)), trivial⟩
      obtain ⟨e6, hs6, hd6, hok6⟩ := hx6
      have hB6 := (Ext.ofS hB5 hs6).bag
      have hv6 := hv5.same hs6
      obtain ⟨_, xs6, _, q6, r6, hn6, ha6, hall6⟩ := hv6.isTup rfl
      cases q6
      cases r6
      walk_at "rd"
      refine ⟨a, xs6, rfl, .inr (SqT.of ha6), fun p7 hp7 => ?_⟩
      have hs7 : Same H6 (upd H6 p7 (.lst xs6)) := Same.new (Same.refl _) hp7
      have hd7 : Da b (upd H6 p7 (.lst xs6)) (.ref p7) (.list ds) := Da.lstNew hB6 hall6 hp7
      have hB7 := (Ext.ofS hB6 hs7).bag
      have hv7 := hv6.same hs7
      generalize upd H6 p7 (.lst xs6) = H7 at hs7 hd7 hB7 hv7 ⊢
      walk_at "rd"
      refine sl_da hB7 hv7 fun p8 H8 hs8 hd8 => ?_
      have hB8 := (Ext.ofS hB7 hs8).bag
      have hl8 : (cutD ds (some (-1)) none).length ≤ 1 := by
        unfold cutD
        rw [HT.sIx_none, List.length_take, List.length_drop]
        show min (ds.length - (if (-1 : Int) < 0 then (-1 + (ds.length : Int)).toNat else min (Int.toNat (-1)) ds.length)) _ ≤ 1
        rw [if_pos (by decide)]
        omega
      rw [tC_at]
      refine rep_da hB8 hd8 (by omega) fun p9 H9 hs9 hd9 => ?_
      have hB9 := (Ext.ofS hB8 hs9).bag
      refine cat_da hB9 ((hv7.same hs8).same hs9) hd9 (by rw [List.length_append]; exact Nat.le_trans (show _ ≤ 1000 by omega) (by decide)) fun p10 H10 hs10 hd10 => ?_
      have hB10 := (Ext.ofS hB9 hs10).bag
      have hs710 := Same.trans hs8 (Same.trans hs9 hs10)
      have hs610 := Same.trans hs7 hs710
      have hs510 := Same.trans hs6 hs610
      refine And.intro (lenOk (by simp)) fun p hp => ?_
      have hok3 : okD (m + 2) (.tuple (ds ++ (cutD ds (some (-1)) none ++ cutD ds (some (-1)) none))) := ⟨by rw [List.length_append, List.length_append]; omega, ok_app hoka (ok_app (ok_cut _ _ hoka) (ok_cut _ _ hoka))⟩
      refine one_of_da (mg := mg) hB10 hp (.cons (hd5.same hs510) (.cons (hd6.same hs610) (.cons (hd7.same hs710) (.cons .non (.cons hd10 .nil))))) (by simp) (by simp) fun H11 x d he hx hdx => ?_
      refine k H11 x d ((he0.trans ?_).trans he) hdx ?_
      · exact Ext.ofS hB1 (Same.trans hs1 (Same.trans hs2 (Same.trans hs4 (Same.trans hs5 hs510))))
      simp only [List.mem_cons, List.not_mem_nil, or_false] at hx
      rcases hx with rfl | rfl | rfl | rfl | rfl
      · exact ⟨by rw [List.length_append, List.length_singleton]; omega, ok_app hoka ⟨⟨Nat.zero_le _, trivial⟩, trivial⟩⟩
      · exact hok6
      · exact ⟨by omega, hoka⟩
      · exact trivial
      · exact hok3
    · walk_at "rd"
      refine and_split (fun e1 => ?_) (fun e1 => ?_)
      · obtain ⟨z, rfl, rfl⟩ := hd1.isStr (by rw [e1]; rfl)
        have hz : z.length ≤ 300 + m := hok
        have hz0 : z.length + ("0" : Str).length ≤ sizeLine := Nat.le_trans (show z.length + 1 ≤ 1000 by omega) (by decide)
        have hz1 : z.length + ("x" : Str).length ≤ sizeLine := Nat.le_trans (show z.length + 1 ≤ 1000 by omega) (by decide)
        walk_at "rd"
        refine if_join (fun x H2 => ∃ y : Str, x = .str y ∧ y.length ≤ 300 + m ∧ H2 = H') (fun e1 R hR => ?_) (fun e1 R hR => ?_) (fun x6 H6 hx6 => ?_)
        · walk_at "rd"
          exact hR _ _ ⟨_, rfl, Nat.le_trans (cutS_len _ _ _) hz, rfl⟩
        · exact hR _ _ ⟨_, rfl, Nat.le_trans (show 1 ≤ 300 by decide) (by omega), rfl⟩
        obtain ⟨y, rfl, hy, rfl⟩ := hx6
        walk_at "rd"
        refine fun p6 hp6 => ?_
        have hs6 : Same H6 (upd H6 p6 (.tup [.str z])) := Same.new (Same.refl _) hp6
        have hd6 : Da b (upd H6 p6 (.tup [.str z])) (.ref p6) (.tuple [.str z]) := Da.tupNew hB1 (.cons hd1 .nil) hp6
        have hB6 := (Ext.ofS hB1 hs6).bag
        generalize upd H6 p6 (.tup [.str z]) = H7 at hs6 hd6 hB6 ⊢
        refine And.intro (lenOk (by simp)) fun p hp => ?_
        refine one_of_da (mg := mg) hB6 hp (.cons (.str _) (.cons (.str _) (.cons (.str _) (.cons .non (.cons hd6 .nil))))) (by simp) (by simp) fun H11 x d he hx hdx => k H11 x d ((he0.trans (Ext.ofS hB1 hs6)).trans he) hdx ?_
        simp only [List.mem_cons, List.not_mem_nil, or_false] at hx
        rcases hx with rfl | rfl | rfl | rfl | rfl
        · show (z ++ ("0" : Str)).length ≤ 300 + (m + 2)
          rw [Str.length_append]
          exact Nat.le_trans (Nat.add_le_add_right hz 1) (by omega)
        · exact Nat.le_trans hy (by omega)
        · show (z ++ ("x" : Str)).length ≤ 300 + (m + 2)
          rw [Str.length_append]
          exact Nat.le_trans (Nat.add_le_add_right hz 1) (by omega)
        · trivial
        · exact ⟨Nat.le_trans (show 1 ≤ 10 by decide) (by omega), Nat.le_trans hz (by omega), trivial⟩
      · walk_at "rd"
        refine and_split (fun e2 => ?_) (fun e2 => ?_)
        · cases hd1 with
          | bl x =>
            walk_at "rd"
            refine fun p hp => one_of_da (mg := mg) hB1 hp (.cons (.bl _) (.cons (.int _) (.cons .non .nil))) (by simp) (by simp) fun H11 y d he hx hdx => k H11 y d (he0.trans he) hdx ?_
            simp only [List.mem_cons, List.not_mem_nil, or_false] at hx
            rcases hx with rfl | rfl | rfl
            · trivial
            · exact Int.lt_of_lt_of_le (show ((Int.natAbs (if x = true then 1 else 0) : Nat) : Int) < 10 ^ (100 + 0) by cases x <;> decide +kernel) (ten_le (Nat.zero_le _))
            · trivial
          | _ => cases e2
        · walk_at "rd"
          refine and_split (fun e3 => ?_) (fun e3 => ?_)
          · cases hd1 with
            | int i =>
              have hi : (i.natAbs : Int) < 10 ^ (100 + m) := hok
              walk_at "rd"
              refine And.intro (log10 (nat10 hi hm)) ?_
              walk_at "rd"
              refine fun p hp => one_of_da (mg := mg) hB1 hp (.cons (.int _) (.cons (.int _) (.cons (.int _) (.cons (.int _) (.cons .non (.cons (.str _) .nil)))))) (by simp) (by simp) fun H11 y d he hx hdx => k H11 y d (he0.trans he) hdx ?_
              simp only [List.mem_cons, List.not_mem_nil, or_false] at hx
              have e30 : (10 : Int) ^ Int.toNat 30 = 10 ^ 30 := rfl
              rw [e30] at hx
              have g1 : (1 : Int) ≤ 10 ^ 30 := by decide
              rcases hx with rfl | rfl | rfl | rfl | rfl | rfl
              · exact ten_step hi (by omega)
              · exact ten_step hi (by omega)
              · exact ten_step hi (by omega)
              · exact ten_step hi (by omega)
              · trivial
              · exact Nat.le_trans (strI_len (nat10 hi hm)) (by omega)
            | bl x => cases e2
            | _ => cases e3
          · walk_at "rd"
            refine and_split (fun e4 => ?_) (fun e4 => ?_)
            · exact k _ _ _ he0 (.int 0) (Int.lt_of_lt_of_le (show ((Int.natAbs 0 : Nat) : Int) < 10 ^ (100 + 0) by decide +kernel) (ten_le (Nat.zero_le _)))
            · exact k _ _ _ he0 .non trivial
end
section
variable {P : Program} {w : World} {K : PySem.W.Frag} {mg : Str → Option Value} {base : Heap}
abbrev s_law_is_named : Stmt := topS 31
abbrev N_law_is_named : List Str := ["_law_value", "_law_sign"]
abbrev P_law_is_named : List Str := ["_law_value"]
def sp_law_is_named (K : PySem.W.Frag) (mg : Str → Option Value) : Sp := fun vs H Q E => ∃ (b : Addr) (v : V) (d : PyData), vs = [v] ∧ Da b H v d ∧ strOk d ∧ ∀ H', Same H H' → Q (.bl (nameD d)) H'
theorem sc_law_is_named : FnScope N_law_is_named P_law_is_named (defScope s_law_is_named) := ⟨rfl, rfl, rfl, by decide +kernel, rfl, by decide +kernel, by decide +kernel⟩
theorem ok_law_is_named (F : FunD K mg "_law_is_named" s_law_is_named P_law_is_named) (T : Txt K mg)  : Def P w K mg base CX0 1 "_law_is_named" P_law_is_named (sp_law_is_named K mg) := by
  refine F.ok sc_law_is_named (fun vs H Q E h => by obtain ⟨b, v, d, rfl, h⟩ := h; rfl) (fun f cdv A outer s H vs Q E hr h => ?_)
  obtain ⟨b, v, d, rfl, h⟩ := h
  refine ⟨_, (pss_cons (ps_if (PW.pt (pw_or (pt_not (pt_val (pe_callB (call_isi : CallR _ _ (rIsi K)) (by rfl) T.b_isinstance (by decide +kernel) (pa_cons (pv 0) (pa_cons (pe_bltn (v := .ty "str") (by rfl) T.b_str (by decide +kernel) rfl) pa_nil))))) (pw_or1 (pt_not (pt_chain op_le op_le pe_int (pe_callB (call_lenU : CallR _ _ (rLenU K)) (by rfl) T.b_len (by decide +kernel) (pa_cons (pv 0) pa_nil)) pe_int))))) (pss_one (ps_ret pe_bl)) pss_nil)
      (pss_one (ps_ret (pe_cmpR (op_eqS (hu00 hr) : OpR _ _ (rEqS K false)) (pe_lc (own := [("_law_sign", 1)]) (g := gName 1)  (by rfl) sc_law_is_named.nd (pi_str (pv 0)) (blkOk_by (N := N_law_is_named) (sc := defScope s_law_is_named) (by decide +kernel)) (fun _ _ _ _ _ => (pg_name (i := 1) sc_law_is_named.nd rfl (Or.inl rfl))) (fun _ _ _ _ _ => (pts_one (pt_cmpR op_notIn_sign (pv 1) pe_str (by rfl)))) (fun _ _ _ _ _ => (pv 1))) (pe_lst pa_nil) (nomark _))))), ?_⟩
  obtain ⟨hd, hs, k⟩ := h
  walk_at "rd"
  refine and_split (fun e => ?_) (fun e => ?_)
  · walk_at "rd"
    have q := k H (Same.refl _)
    rw [show nameD d = false by cases d <;> first | rfl | cases e] at q
    exact q
  obtain ⟨z, rfl, rfl⟩ := hd.isStr e
  have hz : z.length ≤ 1000 := hs
  have hz2 : z.length ≤ sizeLine := Nat.le_trans hz (by decide)
  have kf : nameS z = false → Q (.bl false) H := fun e => by
    have q := k H (Same.refl _)
    rw [nameD, e] at q
    exact q
  walk_at "rd"
  refine and_split (fun e1 => ?_) (fun e1 => ?_)
  · walk_at "rd"
    cases e2 : decide (((z.length : Nat) : Int) ≤ 8) with
    | false =>
      refine iteT ?_
      exact kf (by unfold nameS; rw [e2, Bool.and_false, Bool.false_and])
    | true =>
      refine iteF ?_
      walk_at "rd"
      have hz3 : z.length ≤ 8 := by have := of_decide_eq_true e2; omega
      refine fun D hD => lc_pure walk_str (show z.length < sizeLine from Nat.lt_of_le_of_lt hz3 (by decide)) hD (fOf z.cps.toList fun c => if c ∈ lettersS.cps.toList then none else some (V.str (Str.mk #[c]))) (fun _ _ => trivial) (fun i x H2 H' R hi hs2 hy hR => ?_) (fun H2 hs2 hD2 => ?_)
      · obtain ⟨rfl, c, hc, rfl⟩ := hy
        walk_at "rd"
        have q := hR H' (Same.refl _)
        rw [fOf_at (x := c) (by simpa using hc)] at q
        refine and_split (fun e3 => ?_) (fun e3 => ?_)
        · have h3 : ¬ c ∈ lettersS.cps.toList := of_decide_eq_false (by rw [Bool.not_eq_true'] at e3; exact e3)
          rw [if_neg h3] at q
          exact ⟨_, rfl, q⟩
        · have h3 : c ∈ lettersS.cps.toList := of_decide_eq_true (by rw [Bool.not_eq_false'] at e3; exact e3)
          rw [if_pos h3] at q
          exact q
      · walk_at "rd"
        refine fun p hp => ?_
        have hs3 : Same H2 (upd H2 p (.lst [])) := Same.new (Same.refl _) hp
        refine eqNilL (hs3 _ _ hD2) upd_same ?_
        rw [if_neg Bool.false_ne_true]
        have q := k _ (Same.trans hs2 hs3)
        rw [nameD, nameS, e1, e2] at q
        have e3 : (outs (fOf z.cps.toList fun c => if c ∈ lettersS.cps.toList then none else some (V.str (Str.mk #[c]))) z.cps.size).isEmpty = z.cps.toList.all fun c => decide (c ∈ lettersS.cps.toList) := by
          rw [Bool.eq_iff_iff, outs_empty, List.all_eq_true]
          constructor
          · intro h c hc
            obtain ⟨i, hi⟩ := List.getElem?_of_mem hc
            have hi2 : i < z.cps.size := by
              have := (List.getElem?_eq_some_iff.mp hi).1
              rwa [Array.length_toList] at this
            have h4 := h i hi2
            rw [fOf_at hi] at h4
            by_cases h5 : c ∈ lettersS.cps.toList
            · exact decide_eq_true h5
            · rw [if_neg h5] at h4; cases h4
          · intro h i hi
            have hx : z.cps.toList[i]? = some (z.cps.toList[i]'(by rw [Array.length_toList]; exact hi)) := List.getElem?_eq_getElem _
            rw [fOf_at hx, if_pos (of_decide_eq_true (h _ (List.mem_of_getElem? hx)))]
        rw [e3]
        exact q
  · walk_at "rd"
    exact kf (by unfold nameS; rw [e1, Bool.false_and, Bool.false_and])
theorem inD_num {hi i : Int} (h : hi ≤ 99) : inD 0 hi (.int i) = (decide (0 ≤ i) && decide (i ≤ hi)) := by
  rw [inD, isInt60]
  by_cases h1 : 0 ≤ i
  · by_cases h2 : i ≤ hi
    · rw [decide_eq_true h1, decide_eq_true h2, decide_eq_true (show (-1000000000000000000000000000000000000000000000000000000000000 : Int) < i by omega), decide_eq_true (show i < (1000000000000000000000000000000000000000000000000000000000000 : Int) by omega)] <;> rfl
    · rw [decide_eq_false h2, Bool.and_false, Bool.and_false]
  · rw [decide_eq_false h1, Bool.false_and, Bool.and_false]
abbrev s_law_is_number : Stmt := topS 32
abbrev N_law_is_number : List Str := ["_law_value", "_law_high"]
abbrev P_law_is_number : List Str := ["_law_value", "_law_high"]
def sp_law_is_number (K : PySem.W.Frag) (mg : Str → Option Value) : Sp := fun vs H Q E => ∃ (b : Addr) (v : V) (d : PyData) (hi : Int), vs = [v, .int hi] ∧ Da b H v d ∧ hi ≤ 99 ∧ Q (.bl (inD 0 hi d)) H
theorem sc_law_is_number : FnScope N_law_is_number P_law_is_number (defScope s_law_is_number) := ⟨rfl, rfl, rfl, by decide +kernel, rfl, by decide +kernel, by decide +kernel⟩
theorem ok_law_is_number (F : FunD K mg "_law_is_number" s_law_is_number P_law_is_number) (T : Txt K mg)  : Def P w K mg base CX0 1 "_law_is_number" P_law_is_number (sp_law_is_number K mg) := by
  refine F.ok sc_law_is_number (fun vs H Q E h => by obtain ⟨b, v, d, hi, rfl, h⟩ := h; rfl) (fun f cdv A outer s H vs Q E hr h => ?_)
  obtain ⟨b, v, d, hi, rfl, h⟩ := h
  refine ⟨_, (pss_one (ps_ret (pe_and (pe_callB (call_isi : CallR _ _ (rIsi K)) (by rfl) T.b_isinstance (by decide +kernel) (pa_cons (pv 0) (pa_cons (pe_bltn (v := .ty "int") (by rfl) T.b_int (by decide +kernel) rfl) pa_nil))) (pe_and (pe_not (pe_callB (call_isi : CallR _ _ (rIsi K)) (by rfl) T.b_isinstance (by decide +kernel) (pa_cons (pv 0) (pa_cons (pe_bltn (v := .ty "bool") (by rfl) T.b_bool (by decide +kernel) rfl) pa_nil)))) (pe_one (pe_chain op_le op_le pe_int (pv 0) (pv 1))))))), ?_⟩
  obtain ⟨hd, hh, k⟩ := h
  have hd' := hd
  cases hd with
  | int i =>
    rw [inD_num hh] at k
    walk_at "rd"
    refine and_split (fun e => ?_) (fun e => ?_)
    · walk_at "rd"
      rw [e, Bool.true_and] at k
      exact k
    · rw [e, Bool.false_and] at k
      exact k
  | _ => walk_at "rd"; exact k
end
section
variable {P : Program} {w : World} {K : PySem.W.Frag} {mg : Str → Option Value} {base : Heap}
/-! ### sorted(dict(..)) == list(..) of ints: strictly ascending -/
theorem merge_ints : ∀ (ns : List Int) (acc : List (Key × V)) (ks : List Int), acc.map (·.1) = ks.map Sum.inl → ks.Nodup →
    ∃ ks' : List Int, (mergeK acc (ns.map fun n => (Sum.inl n, V.bl true))).map (·.1) = ks'.map Sum.inl ∧ ks'.Nodup ∧ (∀ x, x ∈ ks' ↔ x ∈ ks ∨ x ∈ ns) ∧ ks'.length ≤ ks.length + ns.length
  | [], acc, ks, h, hn => ⟨ks, h, hn, fun x => by simp, Nat.le_refl _⟩
  | n :: ns, acc, ks, h, hn => by
    have step : ∃ ks2 : List Int, (putK acc (Sum.inl n : Key) (V.bl true)).map (·.1) = ks2.map Sum.inl ∧ ks2.Nodup ∧ (∀ x, x ∈ ks2 ↔ x ∈ ks ∨ x = n) ∧ ks2.length ≤ ks.length + 1 := by
      have hmem : (acc.any fun kv => decide (kv.1 = (Sum.inl n : Key))) = decide (n ∈ ks) := by
        rw [Bool.eq_iff_iff, List.any_eq_true, decide_eq_true_iff]
        constructor
        · rintro ⟨kv, h1, h2⟩
          have h3 : (Sum.inl n : Key) ∈ acc.map (·.1) := List.mem_map.mpr ⟨kv, h1, of_decide_eq_true h2⟩
          rw [h] at h3
          obtain ⟨x, hx, e⟩ := List.mem_map.mp h3
          injection e with e
          exact e ▸ hx
        · intro hx
          have h3 : (Sum.inl n : Key) ∈ ks.map Sum.inl := List.mem_map.mpr ⟨n, hx, rfl⟩
          rw [← h] at h3
          obtain ⟨kv, h4, h5⟩ := List.mem_map.mp h3
          exact ⟨kv, h4, decide_eq_true h5⟩
      unfold putK
      rw [hmem]
      by_cases hx : n ∈ ks
      · rw [if_pos (decide_eq_true hx)]
        refine ⟨ks, ?_, hn, fun x => ⟨.inl, fun q => q.elim id fun e => e ▸ hx⟩, by omega⟩
        rw [← h, List.map_map]
        refine List.map_congr_left fun kv _ => ?_
        show (if kv.1 = (Sum.inl n : Key) then (kv.1, V.bl true) else kv).1 = kv.1
        split <;> rfl
      · rw [if_neg (by simpa using hx)]
        refine ⟨ks ++ [n], by rw [List.map_append, List.map_append, h]; rfl, ?_, fun x => by simp, by simp⟩
        rw [List.nodup_append]
        exact ⟨hn, by simp, fun a ha c hc e => by rw [List.mem_singleton.mp hc] at e; exact hx (e ▸ ha)⟩
    obtain ⟨ks2, e1, e2, e3, e4⟩ := step
    obtain ⟨ks', f1, f2, f3, f4⟩ := merge_ints ns (putK acc (Sum.inl n : Key) (V.bl true)) ks2 e1 e2
    refine ⟨ks', f1, f2, fun x => ?_, by rw [List.length_cons]; omega⟩
    rw [f3, e3, List.mem_cons, or_assoc]
theorem eqS_ints (xs ys : List Int) : eqS (xs.map V.int) (ys.map V.int) = decide (xs = ys) := by
  rw [Bool.eq_iff_iff, decide_eq_true_iff]
  unfold eqS
  rw [Bool.and_eq_true, List.all_eq_true, beq_iff_eq, List.length_map, List.length_map]
  constructor
  · rintro ⟨h1, h2⟩
    refine List.ext_getElem h2 fun i hx hy => ?_
    have q := h1 i (List.mem_range.mpr (by omega))
    rw [List.getD_eq_getElem?_getD, List.getD_eq_getElem?_getD, List.getElem?_map, List.getElem?_map, List.getElem?_eq_getElem hx, List.getElem?_eq_getElem hy] at q
    exact eq_of_beq q
  · rintro rfl
    refine ⟨fun i hi => ?_, rfl⟩
    have hx : i < xs.length := by have := List.mem_range.mp hi; omega
    rw [List.getD_eq_getElem?_getD, List.getElem?_map, List.getElem?_eq_getElem hx]
    exact beq_self_eq_true _
theorem asc_iff : ∀ ns : List Int, asc (ns.map PyData.int) = true ↔ ns.Pairwise (· < ·)
  | [] => ⟨fun _ => .nil, fun _ => rfl⟩
  | [i] => ⟨fun _ => by simp, fun _ => rfl⟩
  | i :: j :: r => by
    show (decide (i < j) && asc ((j :: r).map PyData.int)) = true ↔ _
    rw [Bool.and_eq_true, asc_iff (j :: r), decide_eq_true_iff, List.pairwise_cons (a := i)]
    constructor
    · rintro ⟨h1, h2⟩
      refine ⟨fun x hx => ?_, h2⟩
      rcases List.mem_cons.mp hx with rfl | hx
      · exact h1
      · exact Int.lt_trans h1 ((List.pairwise_cons.mp h2).1 x hx)
    · rintro ⟨h1, h2⟩
      exact ⟨h1 j (by simp), h2⟩
theorem sort_asc {ns ks ys : List Int} (hk : ks.Nodup) (hm : ∀ x, x ∈ ks ↔ x ∈ ns) (hp : ys.Perm ks) (hs : ys.Pairwise (· ≤ ·)) : eqS (ys.map V.int) (ns.map V.int) = asc (ns.map PyData.int) := by
  rw [eqS_ints, Bool.eq_iff_iff, decide_eq_true_iff, asc_iff]
  constructor
  · rintro rfl
    have hn : ys.Nodup := hp.nodup_iff.mpr hk
    exact (hs.and hn).imp fun {a c} h => by have := h.1; have := h.2; omega
  · intro h
    have hn : ns.Nodup := h.imp fun {a c} h => by omega
    have p2 : ks.Perm ns := (List.perm_ext_iff_of_nodup hk hn).mpr hm
    exact List.Perm.eq_of_pairwise (le := (· ≤ ·)) (fun a c _ _ h1 h2 => Int.le_antisymm h1 h2) hs (h.imp fun {a c} h => Int.le_of_lt h) (hp.trans p2)
theorem all_ints : ∀ {ds : List PyData}, ds.all (inD 0 3) = true → ∃ ns : List Int, ds = ns.map PyData.int
  | [], _ => ⟨[], rfl⟩
  | d :: ds, h => by
    rw [List.all_cons, Bool.and_eq_true] at h
    obtain ⟨i, rfl⟩ := inD_int h.1
    obtain ⟨ns, rfl⟩ := all_ints h.2
    exact ⟨i :: ns, rfl⟩
theorem DaAll.ints {b : Addr} {H : Hp} : ∀ {ns : List Int} {vs : List V}, DaAll b H vs (ns.map PyData.int) → vs = ns.map V.int
  | [], _, h => by cases h; rfl
  | n :: ns, _, h => by
    cases h with
    | cons h1 h2 =>
      cases h1
      rw [DaAll.ints h2]
      rfl
def lnOk : PyData → Prop
  | .tuple ds => ds.length ≤ 60
  | _ => True
abbrev s_law_are_lines : Stmt := topS 33
abbrev N_law_are_lines : List Str := ["_law_value", "_law_line"]
abbrev P_law_are_lines : List Str := ["_law_value"]
def sp_law_are_lines (K : PySem.W.Frag) (mg : Str → Option Value) : Sp := fun vs H Q E => ∃ (b : Addr) (v : V) (d : PyData), vs = [v] ∧ Da b H v d ∧ lnOk d ∧ ∀ H', Same H H' → Q (.bl (linesD d)) H'
theorem sc_law_are_lines : FnScope N_law_are_lines P_law_are_lines (defScope s_law_are_lines) := ⟨rfl, rfl, rfl, by decide +kernel, rfl, by decide +kernel, by decide +kernel⟩
theorem ok_law_are_lines (F : FunD K mg "_law_are_lines" s_law_are_lines P_law_are_lines) (T : Txt K mg) (D__law_is_number : Def P w K mg base CX0 1 "_law_is_number" P_law_is_number (sp_law_is_number K mg)) : Def P w K mg base CX0 2 "_law_are_lines" P_law_are_lines (sp_law_are_lines K mg) := by
  refine F.ok sc_law_are_lines (fun vs H Q E h => by obtain ⟨b, v, d, rfl, h⟩ := h; rfl) (fun f cdv A outer s H vs Q E hr h => ?_)
  obtain ⟨b, v, d, rfl, h⟩ := h
  refine ⟨_, (pss_cons (ps_if (PW.pt (pw_or (pt_not (pt_val (pe_callB (call_isi : CallR _ _ (rIsi K)) (by rfl) T.b_isinstance (by decide +kernel) (pa_cons (pv 0) (pa_cons (pe_bltn (v := .ty "tuple") (by rfl) T.b_tuple (by decide +kernel) rfl) pa_nil))))) (pw_or1 (pt_cmpR (op_neS (hu00 hr) : OpR _ _ (rEqS K true)) (pe_lc (own := [("_law_line", 1)]) (g := gName 1)  (by rfl) sc_law_are_lines.nd (pi_tup (pv 0)) (blkOk_by (N := N_law_are_lines) (sc := defScope s_law_are_lines) (by decide +kernel)) (fun _ _ _ _ _ => (pg_name (i := 1) sc_law_are_lines.nd rfl (Or.inl rfl))) (fun _ _ _ _ _ => (pts_one (pt_not (pt_val (pe_callD D__law_is_number (hr.mono (by decide)) (by rfl) (pa_cons (pv 1) (pa_cons pe_int pa_nil))))))) (fun _ _ _ _ _ => (pv 1))) (pe_lst pa_nil) (nomark _))))) (pss_one (ps_ret pe_bl)) pss_nil)
      (pss_one (ps_ret (pe_cmpR (op_eqS (hu00 hr) : OpR _ _ (rEqS K false)) (pe_callB (call_sortedDI (by rfl)) (by rfl) T.b_sorted (by decide +kernel) (pa_cons (pe_callTy (call_dictP (by rfl)) (by rfl) T.b_dict (by decide +kernel) (pa_cons (pe_lc (own := [("_law_line", 1)]) (g := gName 1) (tt := tYes) (by rfl) sc_law_are_lines.nd (pi_tup (pv 0)) (blkOk_by (N := N_law_are_lines) (sc := defScope s_law_are_lines) (by decide +kernel)) (fun _ _ _ _ _ => (pg_name (i := 1) sc_law_are_lines.nd rfl (Or.inl rfl))) (fun _ _ _ _ _ => pts_nil) (fun _ _ _ _ _ => (pe_tup (pa_cons (pv 1) (pa_cons pe_bl pa_nil))))) pa_nil)) pa_nil)) (pe_callTy (call_listU : CallR _ _ (rListU K)) (by rfl) T.b_list (by decide +kernel) (pa_cons (pv 0) pa_nil)) (nomark _))))), ?_⟩
  obtain ⟨hd, hs, k⟩ := h
  walk_at "rd"
  refine and_split (fun e => ?_) (fun e => ?_)
  · walk_at "rd"
    have q := k H (Same.refl _)
    rw [show linesD d = false by cases d <;> first | rfl | cases e] at q
    exact q
  obtain ⟨a, xs, ds, rfl, rfl, hn, ha, hall⟩ := hd.isTup e
  have hlen := hall.len
  have hz : xs.length < sizeLine := Nat.lt_of_le_of_lt (show xs.length ≤ 60 by rw [hlen]; exact hs) (by decide)
  walk_at "rd"
  have hzl : (xs.zip ds).length = xs.length := by rw [List.length_zip, hlen, Nat.min_self]
  refine ⟨⟨xs, SqT.of ha⟩, fun D hD => lc_pure walk_tup hz hD (fOf (xs.zip ds) fun p => if inD 0 3 p.2 = true then none else some p.1) (fun H1 hs1 => SqT.of (hs1 _ _ ha)) (fun i x H2 H' R hi hs2 hy hR => ?_) (fun H2 hs2 hD2 => ?_)⟩
  · obtain ⟨rfl, hx⟩ := hy
    obtain ⟨d, hd1, hd2⟩ := hall.get hx
    have hq := hR H' (Same.refl _)
    rw [fOf_at (x := (x, d)) (by rw [List.getElem?_zip_eq_some]; exact ⟨hx, hd1⟩)] at hq
    walk_at "rd"
    refine ⟨b, x, d, 3, rfl, hd2.same hs2, by decide, ?_⟩
    refine ⟨_, rfl, and_split (fun e3 => ?_) (fun e3 => ?_)⟩
    · rw [Bool.not_eq_true'] at e3
      rw [if_neg (by rw [e3]; exact Bool.false_ne_true)] at hq
      exact ⟨_, rfl, hq⟩
    · rw [Bool.not_eq_false'] at e3
      rw [if_pos e3] at hq
      exact hq
  walk_at "rd"
  refine fun p hp => ?_
  have hs3 : Same H2 (upd H2 p (.lst [])) := Same.new (Same.refl _) hp
  refine eqNilL (hs3 _ _ hD2) upd_same ?_
  have ee : (outs (fOf (xs.zip ds) fun p => if inD 0 3 p.2 = true then none else some p.1) xs.length).isEmpty = ds.all (inD 0 3) := by
    rw [Bool.eq_iff_iff, outs_empty, List.all_eq_true]
    constructor
    · intro h d hd9
      obtain ⟨i, hi⟩ := List.getElem?_of_mem hd9
      obtain ⟨x, hx, _⟩ := hall.at hi
      have hi2 : i < xs.length := (List.getElem?_eq_some_iff.mp hx).1
      have h4 := h i hi2
      rw [fOf_at (x := (x, d)) (by rw [List.getElem?_zip_eq_some]; exact ⟨hx, hi⟩)] at h4
      by_cases h5 : inD 0 3 d = true
      · exact h5
      · rw [if_neg h5] at h4; cases h4
    · intro h i hi
      have hx : xs[i]? = some (xs[i]'hi) := List.getElem?_eq_getElem _
      obtain ⟨d, hd1, _⟩ := hall.get hx
      rw [fOf_at (x := (_, d)) (by rw [List.getElem?_zip_eq_some]; exact ⟨hx, hd1⟩), if_pos (h d (List.mem_of_getElem? hd1))]
  rw [ee, if_pos rfl]
  refine ⟨_, rfl, and_split (fun e1 => ?_) (fun e1 => ?_)⟩
  · rw [Bool.not_eq_true'] at e1
    have q := k _ (Same.trans hs2 hs3)
    rw [linesD, e1] at q
    exact q
  rw [Bool.not_eq_false'] at e1
  obtain ⟨ns, rfl⟩ := all_ints e1
  have ex := hall.ints
  subst ex
  rw [List.length_map] at hz hlen
  have hs13 := Same.trans hs2 hs3
  generalize upd H2 p (.lst []) = H3 at hs3 hs13 ⊢
  have ha3 := hs13 _ _ ha
  walk_at "rd"
  refine ⟨⟨_, SqT.of ha3⟩, fun D3 hD3 => lc_tups walk_tup (by rw [List.length_map]; exact hz) hD3 (fun i => [.int (ns.getD i 0), .bl true]) (fun H4 hs4 => SqT.of (hs4 _ _ ha3)) (fun i x H4 H5 R hi hs4 hy hR => ?_) (fun H4 ps hs4 hD4 hl4 hp4 => ?_)⟩
  · obtain ⟨rfl, hx⟩ := hy
    rw [List.getElem?_map] at hx
    obtain ⟨n, hn1, rfl⟩ := Option.map_eq_some_iff.mp hx
    walk_at "rd"
    refine fun p5 hp5 => hR p5 _ (Same.new (Same.refl _) hp5) ?_
    rw [List.getD_eq_getElem?_getD, hn1]
    exact upd_same
  rw [List.length_map] at hl4
  refine ⟨D3, ps, ns.map (fun n => ((Sum.inl n : Key), V.bl true)), rfl, SqL.of hD4, paired_of (by rw [hl4, List.length_map]) (fun i p kv h1 h2 => ?_), fun p6 hp6 => ?_⟩
  · rw [List.getElem?_map] at h2
    obtain ⟨n, hn1, rfl⟩ := Option.map_eq_some_iff.mp h2
    have h3 := hp4 i p h1
    rw [List.getD_eq_getElem?_getD, hn1] at h3
    exact SqT.of h3
  obtain ⟨ks, f1, f2, f3, f4⟩ := merge_ints ns [] [] rfl List.nodup_nil
  have hs' : ns.length ≤ 60 := by rw [hlen]; exact hs
  have hs6 : Same H4 (upd H4 p6 (.dK (mergeK [] (ns.map (fun n => ((Sum.inl n : Key), V.bl true)))))) := Same.new (Same.refl _) hp6
  refine ⟨p6, _, ks, rfl, .inl upd_same, f1, by rw [List.length_nil] at f4; omega, fun ys p7 hy1 hy2 hp7 => ?_⟩
  generalize upd H4 p6 (.dK (mergeK [] (ns.map (fun n => ((Sum.inl n : Key), V.bl true))))) = H6 at hs6 hp7 ⊢
  have hs7 : Same H6 (upd H6 p7 (.lst (ys.map V.int))) := Same.new (Same.refl _) hp7
  have h7 : upd H6 p7 (.lst (ys.map V.int)) p7 = some (.lst (ys.map V.int)) := upd_same
  generalize upd H6 p7 (.lst (ys.map V.int)) = H7 at hs7 h7 ⊢
  have hs37 := Same.trans hs4 (Same.trans hs6 hs7)
  have ha7 := hs37 _ _ ha3
  walk_at "rd"
  refine ⟨a, _, rfl, .inr (SqT.of ha7), fun p8 hp8 => ?_⟩
  have hs8 : Same H7 (upd H7 p8 (.lst (ns.map V.int))) := Same.new (Same.refl _) hp8
  refine ⟨p7, p8, ys.map V.int, ns.map V.int, rfl, rfl, .inr ⟨SqL.of (hs8 _ _ h7), SqL.of upd_same⟩, fun j hj => ?_, ?_⟩
  · have g : ∀ (l : List Int) (j : Nat), flatV ((l.map V.int).getD j .non) = true := fun l j => by
      rw [List.getD_eq_getElem?_getD, List.getElem?_map]
      cases l[j]? <;> rfl
    exact ⟨g ys j, g ns j⟩
  rw [if_neg Bool.false_ne_true, sort_asc f2 (fun x => by rw [f3]; simp) hy1 hy2]
  have q := k _ (Same.trans hs13 (Same.trans hs37 hs8))
  rw [linesD, e1] at q
  exact q
end
section
variable {P : Program} {w : World} {K : PySem.W.Frag} {mg : Str → Option Value} {base : Heap}
theorem restD_long {w : Str} {rest : List PyData} (h : 3 ≤ rest.length) : restD w rest = false := by
  match rest, h with
  | x :: y :: z :: r, _ =>
    unfold restD
    split
    · rfl
    · split
      · rfl
      · split
        · rfl
        · split
          · rfl
          · show (_ && false) = false
            rw [Bool.and_false]
theorem ok_str {m : Nat} {d : PyData} (h : okD m d) (hm : m ≤ 12) : strOk d := by
  cases d with
  | str s => exact Nat.le_trans (show s.length ≤ 300 + m from h) (by omega)
  | _ => trivial
theorem ok_size {m : Nat} {d : PyData} (h : okD m d) (hm : m ≤ 12) : sizeOk d := by
  cases d with
  | str s => exact Nat.le_trans (show s.length ≤ 300 + m from h) (by omega)
  | tuple ds => exact Nat.le_trans h.1 (by omega)
  | list ds => exact Nat.le_trans h.1 (by omega)
  | _ => trivial
theorem ok_ln {m : Nat} {d : PyData} (h : okD m d) (hm : m ≤ 12) : lnOk d := by
  cases d with
  | tuple ds => exact Nat.le_trans h.1 (by omega)
  | _ => trivial
theorem ok_el {m : Nat} {d : PyData} (h : okD m d) (hm : m ≤ 12) : elOk d := by
  cases d with
  | tuple ds => exact ⟨Nat.le_trans h.1 (by omega), fun d hd => ok_size (okAll_iff.mp h.2 d hd) hm⟩
  | _ => trivial
theorem not_f {a : Bool} (h : (!a) = false) : a = true := by cases a <;> first | rfl | cases h
theorem not_t {a : Bool} (h : (!a) = true) : a = false := by cases a <;> first | rfl | cases h
abbrev s_law_is_told : Stmt := topS 34
abbrev N_law_is_told : List Str := ["_law_value"]
abbrev P_law_is_told : List Str := ["_law_value"]
def sp_law_is_told (K : PySem.W.Frag) (mg : Str → Option Value) : Sp := fun vs H Q E => ∃ (b : Addr) (v : V) (d : PyData) (m : Nat), vs = [v] ∧ Da b H v d ∧ okD m d ∧ m ≤ 12 ∧ ∀ H', Same H H' → Q (.bl (promD d)) H'
theorem sc_law_is_told : FnScope N_law_is_told P_law_is_told (defScope s_law_is_told) := ⟨rfl, rfl, rfl, by decide +kernel, rfl, by decide +kernel, by decide +kernel⟩
theorem ok_law_is_told (F : FunD K mg "_law_is_told" s_law_is_told P_law_is_told) (T : Txt K mg) (D__law_is_named : Def P w K mg base CX0 1 "_law_is_named" P_law_is_named (sp_law_is_named K mg)) (D__law_is_number : Def P w K mg base CX0 1 "_law_is_number" P_law_is_number (sp_law_is_number K mg)) (D__law_are_lines : Def P w K mg base CX0 2 "_law_are_lines" P_law_are_lines (sp_law_are_lines K mg)) : Def P w K mg base CX0 3 "_law_is_told" P_law_is_told (sp_law_is_told K mg) := by
  refine F.ok sc_law_is_told (fun vs H Q E h => by obtain ⟨b, v, d, m, rfl, h⟩ := h; rfl) (fun f cdv A outer s H vs Q E hr h => ?_)
  obtain ⟨b, v, d, m, rfl, h⟩ := h
  refine ⟨_, (pss_cons (ps_if (PW.pt (pw_or (pt_not (pt_val (pe_callB (call_isi : CallR _ _ (rIsi K)) (by rfl) T.b_isinstance (by decide +kernel) (pa_cons (pv 0) (pa_cons (pe_bltn (v := .ty "tuple") (by rfl) T.b_tuple (by decide +kernel) rfl) pa_nil))))) (pw_or (pt_not (pt_chain op_le op_le pe_int (pe_callB (call_lenU : CallR _ _ (rLenU K)) (by rfl) T.b_len (by decide +kernel) (pa_cons (pv 0) pa_nil)) pe_int)) (pw_or (pt_not (pt_val (pe_callB (call_isi : CallR _ _ (rIsi K)) (by rfl) T.b_isinstance (by decide +kernel) (pa_cons (pe_ix (ix_tup : IxR _ (rIxT K)) (pv 0) pe_int (fun _ _ => rfl)) (pa_cons (pe_bltn (v := .ty "str") (by rfl) T.b_str (by decide +kernel) rfl) pa_nil))))) (pw_or1 (pt_not (pt_val (pe_callD D__law_is_named (hr.mono (by decide)) (by rfl) (pa_cons (pe_ix (ix_tup : IxR _ (rIxT K)) (pv 0) pe_int (fun _ _ => rfl)) pa_nil))))))))) (pss_one (ps_ret pe_bl)) pss_nil)
      (pss_cons (ps_if (pt_cmpR (op_in_seq : OpR _ _ (rIn K false)) (pe_ix (ix_tup : IxR _ (rIxT K)) (pv 0) pe_int (fun _ _ => rfl)) (pe_tup (pa_cons pe_str (pa_cons pe_str pa_nil))) (by rfl)) (pss_one (ps_ret (pe_and (pe_cmpR op_eq (pe_callB (call_lenU : CallR _ _ (rLenU K)) (by rfl) T.b_len (by decide +kernel) (pa_cons (pv 0) pa_nil)) pe_int (nomark _)) (pe_one (pe_callD D__law_is_named (hr.mono (by decide)) (by rfl) (pa_cons (pe_ix (ix_tup : IxR _ (rIxT K)) (pv 0) pe_int (fun _ _ => rfl)) pa_nil)))))) pss_nil)
      (pss_cons (ps_if (pt_cmpR (op_in_seq : OpR _ _ (rIn K false)) (pe_ix (ix_tup : IxR _ (rIxT K)) (pv 0) pe_int (fun _ _ => rfl)) (pe_tup (pa_cons pe_str (pa_cons pe_str pa_nil))) (by rfl)) (pss_one (ps_ret (pe_and (pe_cmpR op_eq (pe_callB (call_lenU : CallR _ _ (rLenU K)) (by rfl) T.b_len (by decide +kernel) (pa_cons (pv 0) pa_nil)) pe_int (nomark _)) (pe_one (pe_callD D__law_is_number (hr.mono (by decide)) (by rfl) (pa_cons (pe_ix (ix_tup : IxR _ (rIxT K)) (pv 0) pe_int (fun _ _ => rfl)) (pa_cons (pe_ifExp (pt_cmpR op_eq (pe_ix (ix_tup : IxR _ (rIxT K)) (pv 0) pe_int (fun _ _ => rfl)) pe_str (nomark _)) pe_int pe_int) pa_nil))))))) pss_nil)
      (pss_cons (ps_if (pt_cmpR op_eq (pe_ix (ix_tup : IxR _ (rIxT K)) (pv 0) pe_int (fun _ _ => rfl)) pe_str (nomark _)) (pss_one (ps_ret (pe_and (pe_cmpR op_eq (pe_callB (call_lenU : CallR _ _ (rLenU K)) (by rfl) T.b_len (by decide +kernel) (pa_cons (pv 0) pa_nil)) pe_int (nomark _)) (pe_and (pe_callD D__law_are_lines (hr.mono (by decide)) (by rfl) (pa_cons (pe_ix (ix_tup : IxR _ (rIxT K)) (pv 0) pe_int (fun _ _ => rfl)) pa_nil)) (pe_one (pe_callD D__law_is_number (hr.mono (by decide)) (by rfl) (pa_cons (pe_ix (ix_tup : IxR _ (rIxT K)) (pv 0) pe_int (fun _ _ => rfl)) (pa_cons pe_int pa_nil)))))))) pss_nil)
      (pss_one (ps_ret (pe_cmpR (op_eqS (hu00 hr) : OpR _ _ (rEqS K false)) (pv 0) (pe_tup (pa_cons pe_str (pa_cons (pe_ix (ix_tup : IxR _ (rIxT K)) (pv 0) pe_int (fun _ _ => rfl)) pa_nil))) (nomark _)))))))), ?_⟩
  obtain ⟨hd, hok, hm, k⟩ := h
  walk_at "rd"
  refine and_split (fun e => ?_) (fun e => ?_)
  · walk_at "rd"
    have q := k H (Same.refl _)
    rw [show promD d = false by cases d <;> first | rfl | cases e] at q
    exact q
  obtain ⟨a, xs, ds, rfl, rfl, hn, ha, hall⟩ := hd.isTup e
  have kf : promD (.tuple ds) = false → ∀ H', Same H H' → Q (.bl false) H' := fun e H' e2 => by
    have q := k H' e2
    rw [e] at q
    exact q
  have hl : xs.length = ds.length := hall.len
  walk_at "rd"
  refine .inr ⟨a, xs, rfl, .inr (SqT.of ha), ?_⟩
  walk_at "rd"
  have hsz : ∀ d ∈ ds, okD m d := okAll_iff.mp hok.2
  cases hall with
  | nil =>
    refine iteF ?_
    walk_at "rd"
    exact kf rfl _ (Same.refl _)
  | @cons v0 vs0 d0 ds0 h0 hall1 =>
    cases hall1 with
    | nil =>
      refine iteF ?_
      walk_at "rd"
      exact kf (by cases d0 <;> rfl) _ (Same.refl _)
    | @cons v1 vs d1 rest h1 hall2 =>
      have hl2 := hall2.len
      refine and_split (fun _ => ?_) (fun e => absurd (of_decide_eq_false e) (by simp only [List.length_cons]; omega))
      walk_at "rd"
      by_cases h4 : rest.length ≤ 2
      case neg =>
        refine and_split (fun _ => ?_) (fun e => absurd (of_decide_eq_true (not_f e)) (by simp only [List.length_cons]; omega))
        walk_at "rd"
        exact kf (by
          cases d0 with
          | str z => show (nameD d1 && restD z rest) = false; rw [restD_long (by omega), Bool.and_false]
          | _ => rfl) _ (Same.refl _)
      refine and_split (fun e => absurd (of_decide_eq_false (not_t e)) (by simp only [List.length_cons]; omega)) (fun _ => ?_)
      walk_at "rd"
      refine and_split (fun e => ?_) (fun e => ?_)
      · walk_at "rd"
        exact kf (by cases d0 <;> first | rfl | cases e) _ (Same.refl _)
      obtain ⟨z, rfl, rfl⟩ := h0.isStr e
      walk_at "rd"
      refine ⟨b, v1, d1, rfl, h1, ok_str (hsz d1 (by simp)) hm, fun H1 hs1 => ?_⟩
      refine ⟨_, rfl, ?_⟩
      cases en : nameD d1 with
      | false =>
        refine iteT ?_
        exact kf (by rw [promD, en]; rfl) _ hs1
      | true =>
        refine iteF ?_
        have ha1 := hs1 _ _ ha
        have kq : ∀ r : Bool, restD z rest = r → ∀ H', Same H H' → Q (.bl r) H' := fun r er H' e2 => by
          have q := k H' e2
          rw [promD, en, er, Bool.true_and] at q
          exact q
        have kf' : restD z rest = false → ∀ H', Same H H' → Q (.bl false) H' := fun er => kq false er
        walk_at "rd"
        refine fun q hq => ?_
        refine ⟨q, _, rfl, .inr (SqT.of upd_same), rfl, rfl, ?_⟩
        have hs3 : Same H (upd H1 q (.tup [.str "within", .str "alike"])) := Same.trans hs1 (Same.new (Same.refl _) hq)
        generalize upd H1 q (.tup [.str "within", .str "alike"]) = H3 at hs3 ⊢
        have ha3 := hs3 _ _ ha
        refine ⟨_, rfl, ?_⟩
        rw [if_neg Bool.false_ne_true, inV2]
        refine and_split (fun eW => ?_) (fun eW0 => ?_)
        · walk_at "rd"
          refine .inr ⟨a, _, rfl, .inr (SqT.of ha3), rfl, ?_⟩
          cases hall2 with
          | nil =>
            refine ⟨_, rfl, iteF ?_⟩
            exact kf' (by unfold restD; rw [if_pos eW] <;> rfl) _ hs3
          | @cons v2 vs2 d2 rest2 h2 hall3 =>
            cases hall3 with
            | nil =>
              refine ⟨_, rfl, iteT ?_⟩
              refine ⟨_, rfl, _, _, _, _, rfl, rfl, SqT.of ha3, at_of (j := 2) rfl rfl, ?_⟩
              refine ⟨b, v2, d2, rfl, (h2.same hs3), ok_str (hsz d2 (by simp)) hm, fun H4 hs4 => ?_⟩
              exact kq (nameD d2) (by unfold restD; rw [if_pos eW] <;> rfl) _ (Same.trans hs3 hs4)
            | @cons v3 vs3 d3 rest3 h3 hall4 =>
              refine ⟨_, rfl, iteFd (by intro q; injection q with q; simp only [List.length_cons] at q; omega) ?_⟩
              exact kf' (by unfold restD; rw [if_pos eW] <;> rfl) _ hs3
        have eW : ¬ (z == "within" || z == "alike") = true := by rw [eW0]; exact Bool.false_ne_true
        walk_at "rd"
        refine fun q2 hq2 => ?_
        refine ⟨q2, _, rfl, .inr (SqT.of upd_same), rfl, rfl, ?_⟩
        have hs4 : Same H (upd H3 q2 (.tup [.str "most", .str "ahead"])) := Same.trans hs3 (Same.new (Same.refl _) hq2)
        generalize upd H3 q2 (.tup [.str "most", .str "ahead"]) = H4 at hs4 ⊢
        have ha4 := hs4 _ _ ha
        refine ⟨_, rfl, ?_⟩
        rw [if_neg Bool.false_ne_true, inV2]
        refine and_split (fun eM => ?_) (fun eM0 => ?_)
        · walk_at "rd"
          refine .inr ⟨a, _, rfl, .inr (SqT.of ha4), rfl, ?_⟩
          have hz3 : z = "most" ∨ z = "ahead" := by
            rw [Bool.or_eq_true, beq_iff_eq, beq_iff_eq] at eM
            exact eM
          have eA : ¬ z = "answered" := by rcases hz3 with rfl | rfl <;> decide +kernel
          cases hall2 with
          | nil =>
            refine ⟨_, rfl, iteF ?_⟩
            exact kf' (by rcases hz3 with rfl | rfl <;> rfl) _ hs4
          | @cons v2 vs2 d2 rest2 h2 hall3 =>
            cases hall3 with
            | nil =>
              refine ⟨_, rfl, iteT ?_⟩
              refine ⟨_, rfl, _, _, _, _, rfl, rfl, SqT.of ha4, at_of (j := 2) rfl rfl, ?_⟩
              walk_at "rd"
              refine and_split (fun e5 => ?_) (fun e5 => ?_)
              · have e5 : z = "most" := by have := of_decide_eq_true e5; injection this
                subst e5
                refine ⟨b, v2, d2, 99, rfl, (h2.same hs4), by decide, ?_⟩
                exact kq (inD 0 99 d2) rfl _ hs4
              · have e5 : z = "ahead" := by
                  rcases hz3 with rfl | h5
                  · exact absurd e5 (by decide +kernel)
                  · exact h5
                subst e5
                refine ⟨b, v2, d2, 3, rfl, (h2.same hs4), by decide, ?_⟩
                exact kq (inD 0 3 d2) rfl _ hs4
            | @cons v3 vs3 d3 rest3 h3 hall4 =>
              refine ⟨_, rfl, iteFd (by intro q; injection q with q; simp only [List.length_cons] at q; omega) ?_⟩
              exact kf' (by rcases hz3 with rfl | rfl <;> rfl) _ hs4
        have eM : ¬ z = "most" := fun q3 => by rw [q3] at eM0; exact absurd eM0 (by decide +kernel)
        have eH : ¬ z = "ahead" := fun q3 => by rw [q3] at eM0; exact absurd eM0 (by decide +kernel)
        walk_at "rd"
        refine and_split (fun eT => ?_) (fun eT0 => ?_)
        · have eT : z = "told" := by have := of_decide_eq_true eT; injection this
          subst eT
          walk_at "rd"
          refine .inr ⟨a, _, rfl, .inr (SqT.of ha4), rfl, ?_⟩
          have kz : ∀ ds' : List PyData, ds' = rest → two2 linesD (inD 0 3) ds' = false → ∀ H', Same H H' → Q (.bl false) H' := fun ds' e1 e2 => kf' (by
            show (decide (("told" : Str) = "told") && two2 linesD (inD 0 3) rest) = false
            rw [← e1, e2, Bool.and_false])
          cases hall2 with
          | nil =>
            refine ⟨_, rfl, iteF ?_⟩
            exact kz _ rfl rfl _ hs4
          | @cons v2 vs2 d2 rest2 h2 hall3 =>
            cases hall3 with
            | nil =>
              refine ⟨_, rfl, iteF ?_⟩
              exact kz _ rfl rfl _ hs4
            | @cons v3 vs3 d3 rest3 h3 hall4 =>
              cases hall4 with
              | cons h4 hall5 => exact absurd h4 (by simp only [List.length_cons] at *; omega)
              | nil =>
                refine ⟨_, rfl, iteT ?_⟩
                refine ⟨_, rfl, _, _, _, _, rfl, rfl, SqT.of ha4, at_of (j := 2) rfl rfl, ?_⟩
                refine ⟨b, v2, d2, rfl, (h2.same hs4), ok_ln (hsz d2 (by simp)) hm, fun H5 hs5 => ?_⟩
                have er : restD "told" [d2, d3] = (linesD d2 && inD 0 3 d3) := rfl
                refine ⟨_, rfl, and_split (fun e5 => ?_) (fun e5 => ?_)⟩
                · refine ⟨_, rfl, _, _, _, _, rfl, rfl, SqT.of (hs5 _ _ ha4), at_of (j := 3) rfl rfl, ?_⟩
                  refine ⟨b, v3, d3, 3, rfl, (h3.same (Same.trans hs4 hs5)), by decide, ?_⟩
                  refine kq (inD 0 3 d3) ?_ _ (Same.trans hs4 hs5)
                  rw [er, e5, Bool.true_and]
                · refine kf' ?_ _ (Same.trans hs4 hs5)
                  rw [er, e5, Bool.false_and]
        · have eT : ¬ z = "told" := fun q3 => by rw [q3] at eT0; exact absurd eT0 (by decide +kernel)
          walk_at "rd"
          refine fun q5 hq5 => ?_
          have hn1 : ∃ y : Str, d1 = .str y := by
            cases d1 with
            | str y => exact ⟨y, rfl⟩
            | _ => cases en
          obtain ⟨y, rfl⟩ := hn1
          cases h1
          have hs5 : Same H4 (upd H4 q5 (.tup [.str "answered", .str y])) := Same.new (Same.refl _) hq5
          refine ⟨a, q5, _, _, rfl, rfl, .inl ⟨SqT.of (hs5 _ _ ha4), SqT.of upd_same⟩, fun j hj => ?_, ?_⟩
          · have hj2 : j < 2 := Nat.lt_of_lt_of_le hj (Nat.min_le_right _ _)
            match j, hj2 with
            | 0, _ => exact ⟨rfl, rfl⟩
            | 1, _ => exact ⟨rfl, rfl⟩
          rw [if_neg Bool.false_ne_true]
          refine kq _ ?_ _ (Same.trans hs4 hs5)
          have e1 : eqS (.str z :: .str y :: vs) [.str "answered", .str y] = ((z == ("answered" : Str)) && vs.isEmpty) := by
            unfold eqS
            rw [show min (V.str z :: V.str y :: vs).length [V.str "answered", V.str y].length = 2 from Nat.min_eq_right (by simp)]
            show (((z == ("answered" : Str)) && ((y == y) && true)) && ((vs.length + 1 + 1) == 2)) = _
            rw [beq_self_eq_true, Bool.and_true, Bool.and_true]
            cases vs <;> rfl
          have e2 : vs.isEmpty = rest.isEmpty := by cases hall2 <;> rfl
          rw [e1, e2]
          unfold restD
          rw [if_neg eW]
          by_cases eA : z = "answered"
          · rw [if_pos eA, eA, beq_self_eq_true, Bool.true_and]
          · rw [if_neg eA, if_neg eM, if_neg eH, decide_eq_false eT, Bool.false_and, beq_eq_false_iff_ne.mpr eA, Bool.false_and]
theorem DaAll.strs {b : Addr} {H : Hp} {α : Type} (f : α → Str) : ∀ l : List α, DaAll b H (l.map fun c => V.str (f c)) (l.map fun c => PyData.str (f c))
  | [] => .nil
  | c :: l => .cons (.str _) (DaAll.strs f l)
theorem strs_of : ∀ {acc : List V}, (∀ v ∈ acc, ∃ z : Str, v = .str z ∧ z.length ≤ 1) → ∃ ys : List Str, acc = ys.map V.str ∧ ∀ y ∈ ys, y.length ≤ 1
  | [], _ => ⟨[], rfl, fun _ z => by simp at z⟩
  | v :: acc, h => by
    obtain ⟨z, rfl, hz⟩ := h v (by simp)
    obtain ⟨ys, rfl, hy⟩ := strs_of (acc := acc) fun u hu => h u (by simp [hu])
    exact ⟨z :: ys, rfl, fun y q => by rcases List.mem_cons.mp q with rfl | q; exact hz; exact hy y q⟩
theorem sum_le1 : ∀ {ys : List Str}, (∀ y ∈ ys, y.length ≤ 1) → (ys.map fun x => x.length).sum ≤ ys.length
  | [], _ => Nat.le_refl _
  | y :: ys, h => by
    rw [List.map_cons, List.sum_cons, List.length_cons]
    have := h y (by simp)
    have := sum_le1 (ys := ys) fun u hu => h u (by simp [hu])
    omega
abbrev s_law_name : Stmt := topS 35
abbrev N_law_name : List Str := ["_law_bag_here", "_law_size", "_law_turn"]
abbrev P_law_name : List Str := ["_law_bag_here"]
def sp_law_name (K : PySem.W.Frag) (mg : Str → Option Value) : Sp := fun vs H Q E => ∃ (b : Addr), vs = [.ref b] ∧ Bag H b ∧ ∀ H' (z : Str), Ext b H H' → z.length ≤ 20 → Q (.str z) H'
theorem sc_law_name : FnScope N_law_name P_law_name (defScope s_law_name) := ⟨rfl, rfl, rfl, by decide +kernel, rfl, by decide +kernel, by decide +kernel⟩
theorem ok_law_name (F : FunD K mg "_law_name" s_law_name P_law_name) (T : Txt K mg) (D__law_one_of : Def P w K mg base CX0 2 "_law_one_of" P_law_one_of (sp_law_one_of K mg)) : Def P w K mg base CX0 3 "_law_name" P_law_name (sp_law_name K mg) := by
  refine F.ok sc_law_name (fun vs H Q E h => by obtain ⟨b, rfl, h⟩ := h; rfl) (fun f cdv A outer s H vs Q E hr h => ?_)
  obtain ⟨b, rfl, h⟩ := h
  refine ⟨_, (pss_cons (ps_set (i := 1) sc_law_name.nd rfl (Or.inl rfl) (pe_callD D__law_one_of (hr.mono (by decide)) (by rfl) (pa_cons (pv 0) (pa_cons (pe_lst (pa_cons pe_int (pa_cons pe_int (pa_cons pe_int (pa_cons pe_int (pa_cons pe_int (pa_cons pe_int (pa_cons pe_int pa_nil)))))))) pa_nil))))
      (pss_one (ps_ret (pe_op op_add_str (pe_join pe_str (pe_lc (own := [("_law_turn", 2)]) (g := gName 2) (tt := tYes) (by rfl) sc_law_name.nd (pi_range1 rfl T.b_range (pa_cons (pv 1) pa_nil)) (blkOk_by (N := N_law_name) (sc := defScope s_law_name) (by decide +kernel)) (fun _ _ _ _ _ => (pg_name (i := 2) sc_law_name.nd rfl (Or.inl rfl))) (fun _ _ _ _ _ => pts_nil) (fun _ _ _ _ _ => (pe_callD D__law_one_of (hr.mono (by decide)) (by rfl) (pa_cons (pv 0) (pa_cons (pe_callTy (call_listS hr.hd) (by rfl) T.b_list (by decide +kernel) (pa_cons pe_str pa_nil)) pa_nil)))))) (pe_callD D__law_one_of (hr.mono (by decide)) (by rfl) (pa_cons (pv 0) (pa_cons (pe_lst (pa_cons pe_str (pa_cons pe_str (pa_cons pe_str (pa_cons pe_str (pa_cons pe_str (pa_cons pe_str (pa_cons pe_str pa_nil)))))))) pa_nil))))))), ?_⟩
  obtain ⟨hB, k⟩ := h
  walk_at "rd"
  refine fun p hp => one_of_da (mg := mg) hB hp (.cons (.int 1) (.cons (.int 1) (.cons (.int 2) (.cons (.int 8) (.cons (.int 8) (.cons (.int 9) (.cons (.int 0) .nil))))))) (by simp) (by simp) fun H1 x d he1 hx hd => ?_
  have hn : ∃ n : Nat, n ≤ 9 ∧ d = .int n := by
    simp only [List.mem_cons, List.not_mem_nil, or_false] at hx
    rcases hx with rfl | rfl | rfl | rfl | rfl | rfl | rfl
    · exact ⟨1, by decide, rfl⟩
    · exact ⟨1, by decide, rfl⟩
    · exact ⟨2, by decide, rfl⟩
    · exact ⟨8, by decide, rfl⟩
    · exact ⟨8, by decide, rfl⟩
    · exact ⟨9, by decide, rfl⟩
    · exact ⟨0, by decide, rfl⟩
  obtain ⟨n, hn, rfl⟩ := hn
  cases hd
  have hB1 := he1.bag
  refine ⟨⟨_, rfl⟩, _, rfl, (n : Int), rfl, by omega, by omega, fun D hD => lc_draw (walk_range (lo := 0) (n := (n : Int).toNat)) (Nat.lt_of_le_of_lt (show (n : Int).toNat ≤ 9 by omega) (by decide)) hB1 hD (fun v => ∃ z : Str, v = .str z ∧ z.length ≤ 1) true (fun _ _ => trivial) (fun i x H2 H3 R hi he2 hy hR _ => ?_) (fun H2 acc he2 hD2 hDb hT hl _ => ?_)⟩
  · obtain ⟨rfl, rfl⟩ := hy
    have hB2 := he2.bag
    walk_at "rd"
    refine fun p2 hp2 => one_of_da (mg := mg) hB2 hp2 (DaAll.strs (fun c => Str.mk #[c]) _) (by decide +kernel) (by decide +kernel) fun H4 y d he4 hd4 hdy => ?_
    obtain ⟨c, _, rfl⟩ := List.mem_map.mp hd4
    cases hdy
    exact hR _ H4 ((Ext.ofS hB2 (Same.refl _)).trans he4) ⟨_, rfl, Nat.le_refl 1⟩
  obtain ⟨ys, rfl, hy1⟩ := strs_of hT
  rw [List.length_map] at hl
  have hlen : (ys.map fun x => x.length).sum + ys.length * ("" : Str).length ≤ 9 := by
    have h0 : ("" : Str).length = 0 := by decide +kernel
    have h1 := sum_le1 hy1
    rw [h0]
    omega
  refine ⟨_, D, ys, rfl, rfl, .inl (SqL.of hD2), Nat.le_trans hlen (by decide), ?_⟩
  have hj : (PySem.Txt.join ("" : Str) ys).length ≤ 9 := by
    show (Builtin.Str.glued ("" : Str) ys).length ≤ 9
    rw [PySem.StrLaws.glued_eq_join]
    exact Nat.le_trans (PySem.StrLaws.join_length_le _ _) hlen
  generalize PySem.Txt.join ("" : Str) ys = y at hj ⊢
  have hB2 := he2.bag
  walk_at "rd"
  refine fun p2 hp2 => one_of_da (mg := mg) hB2 hp2 (.cons (.str _) (.cons (.str _) (.cons (.str _) (.cons (.str _) (.cons (.str _) (.cons (.str _) (.cons (.str _) .nil))))))) (by simp) (by simp) fun H3 x d he3 hx3 hd3 => ?_
  have hz : ∃ z : Str, d = .str z ∧ z.length ≤ 1 := by
    simp only [List.mem_cons, List.not_mem_nil, or_false] at hx3
    rcases hx3 with rfl | rfl | rfl | rfl | rfl | rfl | rfl <;> exact ⟨_, rfl, by decide +kernel⟩
  obtain ⟨z, rfl, hz⟩ := hz
  cases hd3
  refine ⟨y, z, rfl, rfl, Nat.le_trans (show _ ≤ 20 by omega) (by decide), ?_⟩
  exact k H3 _ ((he1.trans he2).trans he3) (by rw [Str.length_append]; omega)
end
section
variable {P : Program} {w : World} {K : PySem.W.Frag} {mg : Str → Option Value} {base : Heap}
theorem DaAll.ofInts {b : Addr} {H : Hp} : ∀ ns : List Int, DaAll b H (ns.map V.int) (ns.map PyData.int)
  | [] => .nil
  | n :: ns => .cons (.int n) (DaAll.ofInts ns)
theorem ints_of : ∀ {acc : List V}, (∀ v ∈ acc, ∃ n : Nat, v = .int n ∧ n < 5) → ∃ ns : List Int, acc = ns.map V.int ∧ ∀ n ∈ ns, 0 ≤ n ∧ n < 5
  | [], _ => ⟨[], rfl, fun _ z => by simp at z⟩
  | v :: acc, h => by
    obtain ⟨n, rfl, hn⟩ := h v (by simp)
    obtain ⟨ns, rfl, hs⟩ := ints_of (acc := acc) fun u hu => h u (by simp [hu])
    exact ⟨(n : Int) :: ns, rfl, fun m q => by rcases List.mem_cons.mp q with rfl | q; exact ⟨Int.natCast_nonneg n, by omega⟩; exact hs m q⟩
abbrev s_law_any_promise : Stmt := topS 36
abbrev N_law_any_promise : List Str := ["_law_bag_here", "_law_word", "_law_one", "_law_lines", "_law_line"]
abbrev P_law_any_promise : List Str := ["_law_bag_here"]
def sp_law_any_promise (K : PySem.W.Frag) (mg : Str → Option Value) : Sp := fun vs H Q E => ∃ (b : Addr), vs = [.ref b] ∧ Bag H b ∧ ∀ H' p ds, Ext b H H' → Da b H' (.ref p) (.tuple ds) → okD 0 (.tuple ds) → Q (.ref p) H'
theorem sc_law_any_promise : FnScope N_law_any_promise P_law_any_promise (defScope s_law_any_promise) := ⟨rfl, rfl, rfl, by decide +kernel, rfl, by decide +kernel, by decide +kernel⟩
theorem ok_law_any_promise (F : FunD K mg "_law_any_promise" s_law_any_promise P_law_any_promise) (T : Txt K mg) (D__law_one_of : Def P w K mg base CX0 2 "_law_one_of" P_law_one_of (sp_law_one_of K mg)) (D__law_name : Def P w K mg base CX0 3 "_law_name" P_law_name (sp_law_name K mg)) (D__law_draw : Def P w K mg base CX0 1 "_law_draw" P_law_draw (sp_law_draw K mg)) : Def P w K mg base CX0 4 "_law_any_promise" P_law_any_promise (sp_law_any_promise K mg) := by
  refine F.ok sc_law_any_promise (fun vs H Q E h => by obtain ⟨b, rfl, h⟩ := h; rfl) (fun f cdv A outer s H vs Q E hr h => ?_)
  obtain ⟨b, rfl, h⟩ := h
  refine ⟨_, (pss_cons (ps_set (i := 1) sc_law_any_promise.nd rfl (Or.inl rfl) (pe_callD D__law_one_of (hr.mono (by decide)) (by rfl) (pa_cons (pv 0) (pa_cons (pe_lst (pa_cons pe_str (pa_cons pe_str (pa_cons pe_str (pa_cons pe_str (pa_cons pe_str (pa_cons pe_str (pa_cons pe_str (pa_cons pe_str pa_nil))))))))) pa_nil))))
      (pss_cons (ps_set (i := 2) sc_law_any_promise.nd rfl (Or.inl rfl) (pe_callD D__law_name (hr.mono (by decide)) (by rfl) (pa_cons (pv 0) pa_nil)))
      (pss_cons (ps_if (pt_cmpR (op_in_seq : OpR _ _ (rIn K false)) (pv 1) (pe_tup (pa_cons pe_str (pa_cons pe_str pa_nil))) (by rfl)) (pss_one (ps_ret (pe_tup (pa_cons (pv 1) (pa_cons (pv 2) (pa_cons (pe_callD D__law_one_of (hr.mono (by decide)) (by rfl) (pa_cons (pv 0) (pa_cons (pe_lst (pa_cons (pv 2) (pa_cons (pe_callD D__law_name (hr.mono (by decide)) (by rfl) (pa_cons (pv 0) pa_nil)) pa_nil))) pa_nil))) pa_nil)))))) pss_nil)
      (pss_cons (ps_if (pt_cmpR op_eq (pv 1) pe_str (nomark _)) (pss_cons (ps_set (i := 3) sc_law_any_promise.nd rfl (Or.inl rfl) (pe_callTy (call_tupleU : CallR _ _ (rTupleU K)) (by rfl) T.b_tuple (by decide +kernel) (pa_cons (pe_lc (own := [("_law_line", 4)]) (g := gName 4)  (by rfl) sc_law_any_promise.nd (pi_range1 rfl T.b_range (pa_cons pe_int pa_nil)) (blkOk_by (N := N_law_any_promise) (sc := defScope s_law_any_promise) (by decide +kernel)) (fun _ _ _ _ _ => (pg_name (i := 4) sc_law_any_promise.nd rfl (Or.inl rfl))) (fun _ _ _ _ _ => (pts_one (pt_cmpR op_eq (pe_callD D__law_draw (hr.mono (by decide)) (by rfl) (pa_cons (pv 0) (pa_cons pe_int pa_nil))) pe_int (nomark _)))) (fun _ _ _ _ _ => (pv 4))) pa_nil)))
      (pss_one (ps_ret (pe_tup (pa_cons (pv 1) (pa_cons (pv 2) (pa_cons (pe_callD D__law_one_of (hr.mono (by decide)) (by rfl) (pa_cons (pv 0) (pa_cons (pe_lst (pa_cons (pv 3) (pa_cons (pv 3) (pa_cons (pe_revT (pv 3)) (pa_cons (pe_callTy (call_listU : CallR _ _ (rListU K)) (by rfl) T.b_list (by decide +kernel) (pa_cons (pv 3) pa_nil)) pa_nil))))) pa_nil))) (pa_cons (pe_callD D__law_one_of (hr.mono (by decide)) (by rfl) (pa_cons (pv 0) (pa_cons (pe_lst (pa_cons pe_int (pa_cons pe_int (pa_cons pe_int (pa_cons (pe_un un_neg pe_int) (pa_cons pe_bl pa_nil)))))) pa_nil))) pa_nil)))))))) pss_nil)
      (pss_cons (ps_if (pt_cmpR op_eq (pv 1) pe_str (nomark _)) (pss_one (ps_ret (pe_tup (pa_cons (pv 1) (pa_cons (pv 2) pa_nil))))) pss_nil)
      (pss_one (ps_ret (pe_tup (pa_cons (pv 1) (pa_cons (pv 2) (pa_cons (pe_callD D__law_one_of (hr.mono (by decide)) (by rfl) (pa_cons (pv 0) (pa_cons (pe_lst (pa_cons pe_int (pa_cons pe_int (pa_cons pe_int (pa_cons pe_int (pa_cons pe_int (pa_cons pe_int (pa_cons (pe_un un_neg pe_int) (pa_cons pe_bl (pa_cons pe_non (pa_cons (pe_op op_pow pe_int pe_int) (pa_cons pe_str pa_nil)))))))))))) pa_nil))) pa_nil))))))))))), ?_⟩
  obtain ⟨hB, k⟩ := h
  walk_at "rd"
  refine fun p hp => one_of_da (mg := mg) hB hp (.cons (.str _) (.cons (.str _) (.cons (.str _) (.cons (.str _) (.cons (.str _) (.cons (.str _) (.cons (.str _) (.cons (.str _) .nil)))))))) (by simp) (by simp) fun H1 x d he1 hx hd => ?_
  have hn : ∃ n : Str, n.length ≤ 10 ∧ d = .str n := by
    simp only [List.mem_cons, List.not_mem_nil, or_false] at hx
    rcases hx with rfl | rfl | rfl | rfl | rfl | rfl | rfl | rfl <;> exact ⟨_, by decide +kernel, rfl⟩
  obtain ⟨word, hn, rfl⟩ := hn
  cases hd
  have hB1 := he1.bag
  clear hx
  refine ⟨_, rfl, b, rfl, hB1, fun H2 one he2 hone => ?_⟩
  have hB2 := he2.bag
  walk_at "rd"
  have okw : okD 0 (.str word) := Nat.le_trans hn (by decide)
  have oko : okD 0 (.str one) := Nat.le_trans hone (by decide)
  have he02 := he1.trans he2
  refine fun q hq => ?_
  refine ⟨q, _, rfl, .inr (SqT.of upd_same), rfl, rfl, ?_⟩
  have hs3 : Same H2 (upd H2 q (.tup [.str "within", .str "alike"])) := Same.new (Same.refl _) hq
  have hB3 := (Ext.ofS hB2 hs3).bag
  have he3 := he02.trans (Ext.ofS hB2 hs3)
  generalize upd H2 q (.tup [.str "within", .str "alike"]) = H3 at hs3 hB3 he3 ⊢
  refine ⟨_, rfl, ?_⟩
  rw [if_neg Bool.false_ne_true, inV2]
  refine and_split (fun eW => ?_) (fun _ => ?_)
  · refine ⟨_, rfl, _, rfl, _, rfl, _, rfl, _, rfl, b, rfl, hB3, fun H4 z he4 hz => ?_⟩
    have hB4 := he4.bag
    refine And.intro (lenOk (by simp)) fun p5 hp5 => one_of_da (mg := mg) hB4 hp5 (.cons (.str _) (.cons (.str _) .nil)) (by simp) (by simp) fun H6 x d he6 hx hd => ?_
    refine And.intro (lenOk (by simp)) fun p7 hp7 => ?_
    have hB6 := he6.bag
    refine k _ p7 [.str word, .str one, d] (((he3.trans he4).trans he6).trans (Ext.ofS hB6 (Same.new (Same.refl _) hp7))) (Da.tupNew hB6 (.cons (.str _) (.cons (.str _) (.cons hd .nil))) hp7) ⟨by simp, okw, oko, ?_, trivial⟩
    simp only [List.mem_cons, List.not_mem_nil, or_false] at hx
    rcases hx with rfl | rfl
    · exact oko
    · exact Nat.le_trans hz (by decide)
  walk_at "rd"
  refine and_split (fun eT => ?_) (fun _ => ?_)
  · refine ⟨5, rfl, by decide, by decide, fun D hD => lc_draw (walk_range (lo := 0) (n := Int.toNat 5)) (by decide) hB3 hD (fun v => ∃ n : Nat, v = .int n ∧ n < 5) false (fun _ _ => trivial) (fun i x H4 H5 R hi he4 hy hR hR2 => ?_) (fun H4 acc he4 hD4 hDb hT hl _ => ?_)⟩
    · obtain ⟨rfl, rfl⟩ := hy
      have hB4 := he4.bag
      walk_at "rd"
      refine fun H6 r he6 h1 h2 => ?_
      walk_at "rd"
      refine and_split (fun _ => ?_) (fun _ => ?_)
      · refine ⟨_, rfl, hR _ H6 he6 ⟨i, ?_, hi⟩⟩
        show V.int (0 + (i : Int)) = _
        rw [Int.zero_add]
      · exact hR2 rfl H6 he6
    obtain ⟨ns, rfl, hns⟩ := ints_of hT
    rw [List.length_map] at hl
    have hl : ns.length ≤ 5 := hl
    have hB4 := he4.bag
    refine ⟨D, _, rfl, .inl ⟨SqL.of hD4, fun p5 hp5 => ?_⟩⟩
    have hs5 : Same H4 (upd H4 p5 (.tup (ns.map V.int))) := Same.new (Same.refl _) hp5
    have hd5 : Da b (upd H4 p5 (.tup (ns.map V.int))) (.ref p5) (.tuple (ns.map PyData.int)) := Da.tupNew hB4 (DaAll.ofInts ns) hp5
    have hx5 : upd H4 p5 (.tup (ns.map V.int)) p5 = some (.tup (ns.map V.int)) := upd_same
    have hB5 := (Ext.ofS hB4 hs5).bag
    generalize upd H4 p5 (.tup (ns.map V.int)) = H5 at hs5 hd5 hx5 hB5 ⊢
    have okn : ∀ ms : List Int, (∀ n ∈ ms, 0 ≤ n ∧ n < 5) → okAll 0 (ms.map PyData.int) := fun ms h => okAll_iff.mpr fun d hd => by
      obtain ⟨n, h1, rfl⟩ := List.mem_map.mp hd
      obtain ⟨h2, h3⟩ := h n h1
      exact Int.lt_of_le_of_lt (show ((n.natAbs : Nat) : Int) ≤ 5 by omega) (show (5 : Int) < 10 ^ (100 + 0) by decide +kernel)
    refine ⟨_, rfl, _, rfl, _, rfl, _, rfl, _, rfl, _, rfl, p5, _, rfl, SqT.of hx5, fun p6 hp6 => ?_⟩
    have hs6 : Same H5 (upd H5 p6 (.tup (ns.map V.int).reverse)) := Same.new (Same.refl _) hp6
    have hd6 : Da b (upd H5 p6 (.tup (ns.map V.int).reverse)) (.ref p6) (.tuple (ns.reverse.map PyData.int)) := Da.tupNew hB5 (by rw [← List.map_reverse]; exact DaAll.ofInts _) hp6
    have hB6 := (Ext.ofS hB5 hs6).bag
    generalize upd H5 p6 (.tup (ns.map V.int).reverse) = H6 at hs6 hd6 hB6 ⊢
    refine ⟨_, rfl, p5, _, rfl, .inr (SqT.of (hs6 _ _ hx5)), fun p7 hp7 => ?_⟩
    have hs7 : Same H6 (upd H6 p7 (.lst (ns.map V.int))) := Same.new (Same.refl _) hp7
    have hd7 : Da b (upd H6 p7 (.lst (ns.map V.int))) (.ref p7) (.list (ns.map PyData.int)) := Da.lstNew hB6 (DaAll.ofInts _) hp7
    have hB7 := (Ext.ofS hB6 hs7).bag
    generalize upd H6 p7 (.lst (ns.map V.int)) = H7 at hs7 hd7 hB7 ⊢
    have hd57 := (hd5.same hs6).same hs7
    refine And.intro (lenOk (by simp)) fun p8 hp8 => one_of_da (mg := mg) hB7 hp8 (.cons hd57 (.cons hd57 (.cons (hd6.same hs7) (.cons hd7 .nil)))) (by simp) (by simp) fun H9 x9 d9 he9 hx9 hd9 => ?_
    have hB9 := he9.bag
    have ok9 : okD 0 d9 := by
      simp only [List.mem_cons, List.not_mem_nil, or_false] at hx9
      rcases hx9 with rfl | rfl | rfl | rfl
      · exact ⟨by rw [List.length_map]; omega, okn ns hns⟩
      · exact ⟨by rw [List.length_map]; omega, okn ns hns⟩
      · exact ⟨by rw [List.length_map, List.length_reverse]; omega, okn _ fun n h => hns n (List.mem_reverse.mp h)⟩
      · exact ⟨by rw [List.length_map]; omega, okn ns hns⟩
    walk_at "rd"
    refine fun p10 hp10 => one_of_da (mg := mg) hB9 hp10 (.cons (.int _) (.cons (.int _) (.cons (.int _) (.cons (.int _) (.cons (.bl _) .nil))))) (by simp) (by simp) fun H11 x11 d11 he11 hx11 hd11 => ?_
    have hB11 := he11.bag
    have ok11 : okD 0 d11 := by
      simp only [List.mem_cons, List.not_mem_nil, or_false] at hx11
      rcases hx11 with rfl | rfl | rfl | rfl | rfl
      · exact (show ((Int.natAbs 0 : Nat) : Int) < 10 ^ (100 + 0) by decide +kernel)
      · exact (show ((Int.natAbs 3 : Nat) : Int) < 10 ^ (100 + 0) by decide +kernel)
      · exact (show ((Int.natAbs 4 : Nat) : Int) < 10 ^ (100 + 0) by decide +kernel)
      · exact (show ((Int.natAbs (-1) : Nat) : Int) < 10 ^ (100 + 0) by decide +kernel)
      · trivial
    refine And.intro (lenOk (by simp)) fun p12 hp12 => ?_
    refine k _ p12 [.str word, .str one, d9, d11] ?_ (Da.tupNew hB11 (.cons (.str _) (.cons (.str _) (.cons (hd9.ext he11) (.cons hd11 .nil)))) hp12) ⟨by simp, okw, oko, ok9, ok11, trivial⟩
    exact (((((he3.trans he4).trans (Ext.ofS hB4 (Same.trans hs5 (Same.trans hs6 hs7)))).trans he9).trans he11).trans (Ext.ofS hB11 (Same.new (Same.refl _) hp12)))
  walk_at "rd"
  refine and_split (fun eA => ?_) (fun _ => ?_)
  · walk_at "rd"
    refine fun p7 hp7 => ?_
    exact k _ p7 [.str word, .str one] (he3.trans (Ext.ofS hB3 (Same.new (Same.refl _) hp7))) (Da.tupNew hB3 (.cons (.str _) (.cons (.str _) .nil)) hp7) ⟨by simp, okw, oko, trivial⟩
  walk_at "rd"
  refine fun p10 hp10 => one_of_da (mg := mg) hB3 hp10 (.cons (.int _) (.cons (.int _) (.cons (.int _) (.cons (.int _) (.cons (.int _) (.cons (.int _) (.cons (.int _) (.cons (.bl _) (.cons .non (.cons (.int _) (.cons (.str _) .nil))))))))))) (by simp) (by simp) fun H11 x11 d11 he11 hx11 hd11 => ?_
  have hB11 := he11.bag
  have ok11 : okD 0 d11 := by
    simp only [List.mem_cons, List.not_mem_nil, or_false] at hx11
    rcases hx11 with rfl | rfl | rfl | rfl | rfl | rfl | rfl | rfl | rfl | rfl | rfl
    · exact (show ((Int.natAbs 0 : Nat) : Int) < 10 ^ (100 + 0) by decide +kernel)
    · exact (show ((Int.natAbs 1 : Nat) : Int) < 10 ^ (100 + 0) by decide +kernel)
    · exact (show ((Int.natAbs 3 : Nat) : Int) < 10 ^ (100 + 0) by decide +kernel)
    · exact (show ((Int.natAbs 4 : Nat) : Int) < 10 ^ (100 + 0) by decide +kernel)
    · exact (show ((Int.natAbs 99 : Nat) : Int) < 10 ^ (100 + 0) by decide +kernel)
    · exact (show ((Int.natAbs 100 : Nat) : Int) < 10 ^ (100 + 0) by decide +kernel)
    · exact (show ((Int.natAbs (-1) : Nat) : Int) < 10 ^ (100 + 0) by decide +kernel)
    · trivial
    · trivial
    · exact (show ((Int.natAbs (10 ^ Int.toNat 60) : Nat) : Int) < 10 ^ (100 + 0) by decide +kernel)
    · exact (show ("1" : Str).length ≤ 300 + 0 by decide +kernel)
  refine And.intro (lenOk (by simp)) fun p12 hp12 => ?_
  exact k _ p12 [.str word, .str one, d11] ((he3.trans he11).trans (Ext.ofS hB11 (Same.new (Same.refl _) hp12))) (Da.tupNew hB11 (.cons (.str _) (.cons (.str _) (.cons hd11 .nil))) hp12) ⟨by simp, okw, oko, ok11, trivial⟩
end
section
variable {P : Program} {w : World} {K : PySem.W.Frag} {mg : Str → Option Value} {base : Heap}
theorem eqS_strs (l : List Str) : eqS (l.map V.str) (l.map V.str) = true := by
  unfold eqS
  rw [beq_self_eq_true, Bool.and_true, List.all_eq_true]
  intro j _
  rw [List.getD_eq_getElem?_getD, List.getElem?_map]
  cases l[j]? with
  | none => rfl
  | some y => exact beq_self_eq_true y
theorem DaAll.strs_inv {b : Addr} {H : Hp} : ∀ {l : List Str} {vs : List V}, DaAll b H vs (l.map PyData.str) → vs = l.map V.str
  | [], _, h => by cases h; rfl
  | y :: l, _, h => by
    cases h with
    | cons h1 h2 =>
      cases h1
      rw [DaAll.strs_inv h2]
      rfl
theorem eq_strs {b p q : Addr} {H : Hp} {Q : VK} {vs : List V} (l : List Str) (hp : H p = some (.tup vs)) (hall : DaAll b H vs (l.map PyData.str)) (hq : H q = some (.tup (l.map V.str))) (k : Q (.bl true) H) : rEqS K false (.ref p) (.ref q) H Q := by
  have e := hall.strs_inv
  subst e
  refine ⟨p, q, _, _, rfl, rfl, .inl ⟨SqT.of hp, SqT.of hq⟩, fun j _ => ?_, ?_⟩
  · have g : ∀ (l : List Str) (j : Nat), flatV ((l.map V.str).getD j .non) = true := fun l j => by
      rw [List.getD_eq_getElem?_getD, List.getElem?_map]
      cases l[j]? <;> rfl
    exact ⟨g l j, g l j⟩
  · rw [if_neg Bool.false_ne_true, eqS_strs]
    exact k
theorem fin_names {b p l : Addr} {H : Hp} {Q : VK} {vs : List V} (ns : List Str) (hl : H l = some (.lst (ns.map V.str))) (hp : H p = some (.tup vs)) (hall : DaAll b H vs (ns.map PyData.str)) (k : ∀ H', Same H H' → Q (.bl true) H') : rTupleU K [.ref l] H fun y H2 => rEqS K false (.ref p) y H2 Q :=
  ⟨l, _, rfl, .inl ⟨SqL.of hl, fun _ hq => eq_strs (b := b) ns ((Same.new (Same.refl _) hq) _ _ hp) (hall.same (Same.new (Same.refl _) hq)) upd_same (k _ (Same.new (Same.refl _) hq))⟩⟩
abbrev s_law_is_right : Stmt := topS 37
abbrev N_law_is_right : List Str := ["_law_value", "_law_due", "_law_names", "_law_wanted"]
abbrev P_law_is_right : List Str := ["_law_value"]
def sp_law_is_right (K : PySem.W.Frag) (mg : Str → Option Value) : Sp := fun vs H Q E => ∃ (b : Addr) (v : V) (d : PyData) (m : Nat), vs = [v] ∧ Da b H v d ∧ okD m d ∧ m ≤ 12 ∧ ∀ H', Same H H' → Q (.bl true) H'
theorem sc_law_is_right : FnScope N_law_is_right P_law_is_right (defScope s_law_is_right) := ⟨rfl, rfl, rfl, by decide +kernel, rfl, by decide +kernel, by decide +kernel⟩
theorem ok_law_is_right (F : FunD K mg "_law_is_right" s_law_is_right P_law_is_right) (T : Txt K mg) (D__law_is_told : Def P w K mg base CX0 3 "_law_is_told" P_law_is_told (sp_law_is_told K mg)) (D_is_promise : Def P w K mg base CX0 4 "is_promise" P_is_promise (sp_is_promise K mg)) (D_names_of : Def P w K mg base (L2.CX P w) 6 "names_of" P_names_of (sp_names_of K mg)) : Def P w K mg base CX0 7 "_law_is_right" P_law_is_right (sp_law_is_right K mg) := by
  refine F.ok sc_law_is_right (fun vs H Q E h => by obtain ⟨b, v, d, m, rfl, h⟩ := h; rfl) (fun f cdv A outer s H vs Q E hr h => ?_)
  obtain ⟨b, v, d, m, rfl, h⟩ := h
  refine ⟨_, (pss_cons (ps_set (i := 1) sc_law_is_right.nd rfl (Or.inl rfl) (pe_callD D__law_is_told (hr.mono (by decide)) (by rfl) (pa_cons (pv 0) pa_nil)))
      (pss_cons (ps_if (pt_cmpR op_ne (pe_callB call_reprB (by rfl) T.b_repr (by decide +kernel) (pa_cons (pe_callD D_is_promise (hr.mono (by decide)) (by rfl) (pa_cons (pv 0) pa_nil)) pa_nil)) (pe_callB call_reprB (by rfl) T.b_repr (by decide +kernel) (pa_cons (pv 1) pa_nil)) (nomark _)) (pss_one (ps_ret pe_bl)) pss_nil)
      (pss_cons (ps_tryE T.e_InvalidPromise (by rfl) rfl rfl takes0 (fun W pn xe tk _ => (pss_one (ps_set (i := 2) sc_law_is_right.nd rfl (Or.inl rfl) (pe_callX D_names_of (hr.mono (by decide)) (by rfl) tk (pa_cons (pv 0) pa_nil))))) (fun a oe cls d pn hz hf => (pss_one (ps_ret (pe_not (pv 1))))))
      (pss_cons (ps_set (i := 3) sc_law_is_right.nd rfl (Or.inl rfl) (pe_ifExp (pt_cmpR (op_in_seq : OpR _ _ (rIn K false)) (pe_ix (ix_tup : IxR _ (rIxT K)) (pv 0) pe_int (fun _ _ => rfl)) (pe_tup (pa_cons pe_str (pa_cons pe_str pa_nil))) (by rfl)) (pe_callTy (call_listU : CallR _ _ (rListU K)) (by rfl) T.b_list (by decide +kernel) (pa_cons (pe_slLH (sl_tupA : SlR _ (rSlA K)) (pv 0) pe_int pe_int) pa_nil)) (pe_lst (pa_cons (pe_ix (ix_tup : IxR _ (rIxT K)) (pv 0) pe_int (fun _ _ => rfl)) pa_nil))))
      (pss_one (ps_ret (pe_and (pv 1) (pe_one (pe_cmpR (op_eqS (hu00 hr) : OpR _ _ (rEqS K false)) (pv 2) (pe_callTy (call_tupleU : CallR _ _ (rTupleU K)) (by rfl) T.b_tuple (by decide +kernel) (pa_cons (pe_ifExp (pt_cmpR op_eq (pe_ix (ix_list : IxR _ (rIxL K)) (pv 3) pe_int (fun _ _ => rfl)) (pe_ix (ix_list : IxR _ (rIxL K)) (pv 3) (pe_un un_neg pe_int) (fun _ _ => rfl)) (nomark _)) (pe_slH (sl_list : SlR _ (rSlL K)) (pv 3) pe_int) (pv 3)) pa_nil)) (nomark _)))))))))), ?_⟩
  obtain ⟨hd, hok, hm, k⟩ := h
  refine ⟨_, rfl, b, v, d, m, rfl, hd, hok, hm, fun H1 hs1 => ?_⟩
  have hd1 := hd.same hs1
  walk_at "rd"
  refine ⟨b, v, d, rfl, hd1, ok_el hok hm, fun H2 hs2 => ?_⟩
  have hd2 := hd1.same hs2
  have hs02 := Same.trans hs1 hs2
  walk_at "rd"
  refine and_split (fun e => absurd rfl (of_decide_eq_false (not_t e))) (fun _ => ?_)
  refine fun C hC => ?_
  refine ⟨_, rfl, b, v, d, rfl, hd2, ok_el hok hm, fun ep p H3 vs hs3 hp hall => ?_, fun ep C2 H3 hC2 hs3 => ?_⟩
  · obtain ⟨z, a, rest, rfl, hr2⟩ := prom_inv ep
    obtain ⟨r, xs, _, rfl, q6, hn, ha, hall2⟩ := hd2.isTup rfl
    cases q6
    cases hall2 with
    | @cons v0 vs0 _ _ h0 hall2 =>
      cases hall2 with
      | @cons v1 vs1 _ _ h1 hall2 =>
        cases h0
        cases h1
        rw [ep]
        have ha3 := hs3 _ _ ha
        have hs03 := Same.trans hs02 hs3
        have hs23 := hs3
        walk_at "rd"
        refine fun q hq => ?_
        have hs4 : Same H3 (upd H3 q (.tup [.str "within", .str "alike"])) := Same.new (Same.refl _) hq
        refine ⟨q, _, rfl, .inr (SqT.of upd_same), rfl, rfl, ?_⟩
        generalize upd H3 q (.tup [.str "within", .str "alike"]) = H4 at hs4 ⊢
        have ha4 := hs4 _ _ ha3
        have hp4 := hs4 _ _ hp
        have hall4 := hall.same hs4
        have hs04 := Same.trans hs03 hs4
        refine ⟨_, rfl, ?_⟩
        rw [if_neg Bool.false_ne_true, inV2]
        refine and_split (fun eW => ?_) (fun eW => ?_)
        · obtain ⟨c, rfl⟩ := hr2 eW
          cases hall2 with
          | @cons v2 vs2 _ _ h2 hall2 =>
            cases h2
            cases hall2
            have kk : namesD (.tuple [.str z, .str a, .str c]) = if a = c then [.str a] else [.str a, .str c] := by
              show (if (z == "within" || z == "alike") = true then _ else _) = _
              rw [if_pos eW]
            rw [kk] at hall4
            walk_at "rd"
            refine sla_join (SqT.of ha4) fun p5 H5 hs5 hp5 _ => ?_
            have e5 : cutV [.str z, .str a, .str c] (some 1) (some 3) = [.str a, .str c] := rfl
            rw [e5] at hp5
            refine ⟨p5, _, rfl, .inr hp5, fun l6 hl6 => ?_⟩
            have hs6 : Same H5 (upd H5 l6 (.lst [.str a, .str c])) := Same.new (Same.refl _) hl6
            have hl6' : upd H5 l6 (.lst [.str a, .str c]) l6 = some (.lst [.str a, .str c]) := upd_same
            generalize upd H5 l6 (.lst [.str a, .str c]) = H6 at hs6 hl6' ⊢
            have hs46 := Same.trans hs5 hs6
            refine ⟨_, rfl, true, rfl, iteT ?_⟩
            refine ⟨_, rfl, _, rfl, _, _, _, _, rfl, rfl, SqL.of hl6', at_of (j := 0) rfl rfl, _, rfl, _, rfl, _, _, _, _, rfl, rfl, SqL.of hl6', show atI [V.str a, V.str c] (-1) = some (V.str c) from rfl, ?_⟩
            walk_at "rd"
            refine and_split (fun e7 => ?_) (fun e7 => ?_)
            · have e7 : a = c := by have := of_decide_eq_true e7; injection this
              rw [if_pos e7] at hall4
              walk_at "rd"
              refine ⟨l6, _, rfl, SqL.of hl6', fun p7 hp7 => ?_⟩
              have hs7 : Same H6 (upd H6 p7 (.lst (cutV [.str a, .str c] none (some 1)))) := Same.new (Same.refl _) hp7
              have hs47 := Same.trans hs46 hs7
              exact fin_names (b := b) [a] upd_same (hs47 _ _ hp4) (hall4.same hs47) fun H9 hs9 => k _ (Same.trans hs04 (Same.trans hs47 hs9))
            · have e7 : ¬ a = c := fun q3 => by rw [q3] at e7; exact absurd (of_decide_eq_false e7) (by simp)
              rw [if_neg e7] at hall4
              exact ⟨_, rfl, fin_names (b := b) [a, c] hl6' (hs46 _ _ hp4) (hall4.same hs46) fun H9 hs9 => k _ (Same.trans hs04 (Same.trans hs46 hs9))⟩
        · have kk : namesD (.tuple (.str z :: .str a :: rest)) = [.str a] := by
            show (if (z == "within" || z == "alike") = true then _ else _) = _
            rw [eW]
            rfl
          rw [kk] at hall4
          walk_at "rd"
          refine fun l6 hl6 => ?_
          have hs6 : Same H4 (upd H4 l6 (.lst [.str a])) := Same.new (Same.refl _) hl6
          have hl6' : upd H4 l6 (.lst [.str a]) l6 = some (.lst [.str a]) := upd_same
          generalize upd H4 l6 (.lst [.str a]) = H6 at hs6 hl6' ⊢
          refine ⟨_, rfl, true, rfl, iteT ?_⟩
          refine ⟨_, rfl, _, rfl, _, _, _, _, rfl, rfl, SqL.of hl6', at_of (j := 0) rfl rfl, _, rfl, _, rfl, _, _, _, _, rfl, rfl, SqL.of hl6', show atI [V.str a] (-1) = some (V.str a) from rfl, ?_⟩
          walk_at "rd"
          refine and_split (fun e7 => ?_) (fun e7 => absurd rfl (of_decide_eq_false e7))
          walk_at "rd"
          refine ⟨l6, _, rfl, SqL.of hl6', fun p7 hp7 => ?_⟩
          have hs7 : Same H6 (upd H6 p7 (.lst (cutV [.str a] none (some 1)))) := Same.new (Same.refl _) hp7
          have hs47 := Same.trans hs6 hs7
          exact fin_names (b := b) [a] upd_same (hs47 _ _ hp4) (hall4.same hs47) fun H9 hs9 => k _ (Same.trans hs04 (Same.trans hs47 hs9))
  · have eC := hC.uniq hC2
    subst eC
    refine ⟨true, hC.exm, fun _ a ha => ?_, fun z => by cases z⟩
    refine ⟨_, rfl, promD d, rfl, ?_⟩
    rw [ep]
    exact k _ (Same.trans hs02 hs3)
end
section
variable {P : Program} {w : World} {K : PySem.W.Frag} {mg : Str → Option Value} {base : Heap}
theorem Same.seqL {K : PySem.W.Frag} {H H' : Hp} {a : Addr} {xs : List V} (e : Same H H') (h : SqL K H a xs) : SqL K H' a xs := by
  rcases h with (h | ⟨o, h⟩) | h
  · exact .inl (.inl (e _ _ h))
  · exact .inl (.inr ⟨o, e _ _ h⟩)
  · exact .inr h
/-- what stood ahead of a bag stands behind all draws -/
theorem Ext.over {b : Addr} {H H1 H2 : Hp} (h : Same H H1) (hb : H b = none) (e : Ext b H1 H2) : Same H H2 := fun p o q => e.same p o (ne_of_none q hb) (h p o q)
theorem outs_none : ∀ n, outs (fun _ => none) n = []
  | 0 => rfl
  | n + 1 => by
    show outs (fun _ => none) n ++ [] = []
    rw [outs_none n]
    rfl
abbrev s_law : Stmt := topS 38
abbrev N_law : List Str := ["_law_script", "_law_at", "_law_bag_here", "_law_turn", "_law_made", "_law_name_here", "_law_values", "_law_value"]
abbrev P_law : List Str := ["_law_script"]
def sp_law (K : PySem.W.Frag) (mg : Str → Option Value) : Sp := fun vs H Q E => ∃ (a : Addr) (ns : List Int), vs = [.ref a] ∧ SqL K H a (ns.map V.int) ∧ ns.length ≤ 63 ∧ ∀ H', Q (.bl true) H'
theorem sc_law : FnScope N_law P_law (defScope s_law) := ⟨rfl, rfl, rfl, by decide +kernel, rfl, by decide +kernel, by decide +kernel⟩
theorem ok_law {f_ : Addr} {fd_ : FuncData} (F : Fun K "law" "law" s_law f_ fd_) (T : Txt K mg) (D__law_bag : Def P w K mg base CX0 1 "_law_bag" P_law_bag (sp_law_bag K mg)) (D__law_any_promise : Def P w K mg base CX0 4 "_law_any_promise" P_law_any_promise (sp_law_any_promise K mg)) (D__law_one_of : Def P w K mg base CX0 2 "_law_one_of" P_law_one_of (sp_law_one_of K mg)) (D__law_name : Def P w K mg base CX0 3 "_law_name" P_law_name (sp_law_name K mg)) (D__law_odd : Def P w K mg base CX0 3 "_law_odd" P_law_odd (sp_law_odd K mg)) (D__law_spoiled : Def P w K mg base CX0 5 "_law_spoiled" P_law_spoiled (sp_law_spoiled K mg 3)) (D__law_is_right : Def P w K mg base CX0 7 "_law_is_right" P_law_is_right (sp_law_is_right K mg)) (D_is_name : Def P w K mg base CX0 1 "is_name" P_is_name (sp_is_name K mg)) (D__law_is_named : Def P w K mg base CX0 1 "_law_is_named" P_law_is_named (sp_law_is_named K mg)) : FnOk P w K mg base CX0 8 f_ fd_ P_law (sp_law K (fun _ => none)) := by
  refine F.ok sc_law (fun vs H Q E h => by obtain ⟨a, ns, rfl, h⟩ := h; rfl) (fun cdv A outer s H vs Q E hr h => ?_)
  obtain ⟨a, ns, rfl, h⟩ := h
  refine ⟨_, (pss_cons (ps_for PassesOwn.never (by rfl) (pi_range1 rfl T.b_range (pa_cons (pe_callB (call_max2 rfl) (by rfl) T.b_max (by decide +kernel) (pa_cons pe_int (pa_cons (pe_callB (call_min2 rfl) (by rfl) T.b_min (by decide +kernel) (pa_cons pe_int (pa_cons (pe_callB (call_lenU : CallR _ _ (rLenU K)) (by rfl) T.b_len (by decide +kernel) (pa_cons (pv 0) pa_nil)) pa_nil))) pa_nil))) pa_nil)) (pg_name (i := 1) sc_law.nd rfl (Or.inl rfl)) (pss_cons (ps_set (i := 2) sc_law.nd rfl (Or.inl rfl) (pe_callD D__law_bag (hr.mono (by decide)) (by rfl) (pa_cons (pv 0) (pa_cons (pv 1) pa_nil))))
      (pss_one (ps_for PassesOwn.never (by rfl) (pi_range1 rfl T.b_range (pa_cons pe_int pa_nil)) (pg_name (i := 3) sc_law.nd rfl (Or.inl rfl)) (pss_cons (ps_par (i := 4) (j := 5) (by rfl) sc_law.nd rfl rfl (by decide) rfl rfl (pa_cons (pe_callD D__law_any_promise (hr.mono (by decide)) (by rfl) (pa_cons (pv 2) pa_nil)) (pa_cons (pe_callD D__law_one_of (hr.mono (by decide)) (by rfl) (pa_cons (pv 2) (pa_cons (pe_lst (pa_cons (pe_callD D__law_name (hr.mono (by decide)) (by rfl) (pa_cons (pv 2) pa_nil)) (pa_cons (pe_callD D__law_odd (hr.mono (by decide)) (by rfl) (pa_cons (pv 2) pa_nil)) pa_nil))) pa_nil))) pa_nil)) (by rfl))
      (pss_cons (ps_set (i := 6) sc_law.nd rfl (Or.inl rfl) (pe_lst (pa_cons (pv 4) (pa_cons (pe_callD D__law_spoiled (hr.mono (by decide)) (by rfl) (pa_cons (pv 2) (pa_cons (pv 4) (pa_cons pe_int pa_nil)))) (pa_cons (pe_callD D__law_spoiled (hr.mono (by decide)) (by rfl) (pa_cons (pv 2) (pa_cons (pv 4) (pa_cons pe_int pa_nil)))) (pa_cons (pe_op (op_catA : OpR _ _ (rCatA K)) (pv 4) (pe_slLH (sl_tupA : SlR _ (rSlA K)) (pv 4) pe_int pe_int)) (pa_cons (pe_slH (sl_tupA : SlR _ (rSlA K)) (pv 4) pe_int) (pa_cons (pe_callD D__law_odd (hr.mono (by decide)) (by rfl) (pa_cons (pv 2) pa_nil)) pa_nil))))))))
      (pss_one (ps_if (PW.pt (pw_or (pt_cmpR (op_neS (hu00 hr) : OpR _ _ (rEqS K true)) (pe_lc (own := [("_law_value", 7)]) (g := gName 7)  (by rfl) sc_law.nd (pi_list (pv 6)) (blkOk_by (N := N_law) (sc := defScope s_law) (by decide +kernel)) (fun _ _ _ _ _ => (pg_name (i := 7) sc_law.nd rfl (Or.inl rfl))) (fun _ _ _ _ _ => (pts_one (pt_not (pt_val (pe_callD D__law_is_right (hr.mono (by decide)) (by rfl) (pa_cons (pv 7) pa_nil)))))) (fun _ _ _ _ _ => (pv 7))) (pe_lst pa_nil) (nomark _)) (pw_or1 (pt_cmpR op_ne (pe_callB call_reprB (by rfl) T.b_repr (by decide +kernel) (pa_cons (pe_callD D_is_name (hr.mono (by decide)) (by rfl) (pa_cons (pv 5) pa_nil)) pa_nil)) (pe_callB call_reprB (by rfl) T.b_repr (by decide +kernel) (pa_cons (pe_callD D__law_is_named (hr.mono (by decide)) (by rfl) (pa_cons (pv 5) pa_nil)) pa_nil)) (nomark _))))) (pss_one (ps_ret pe_bl)) pss_nil))))))))
      (pss_one (ps_ret pe_bl))), ?_⟩
  obtain ⟨hS, hl, k⟩ := h
  walk_at "rd"
  refine .inr ⟨a, _, rfl, .inl hS, ?_⟩
  walk_at "rd"
  refine for_it walk_range (fun _ σ H' => (∃ o1 o2 o3 o4 o5 o6 o7, σ = [some (.ref a), o1, o2, o3, o4, o5, o6, o7]) ∧ Same H H') ⟨⟨_, _, _, _, _, _, _, rfl⟩, Same.refl _⟩ (fun _ _ _ _ _ => trivial) (fun i x σ H1 H2 hi hP hy => ?_) (fun σ H1 hP => ?_)
  case refine_2 =>
    exact k H1
  obtain ⟨⟨o1, o2, o3, o4, o5, o6, o7, rfl⟩, hs1⟩ := hP
  obtain ⟨rfl, rfl⟩ := hy
  have hS1 : SqL K H2 a (ns.map V.int) := Same.seqL hs1 hS
  have hs1' := hs1
  simp only [Int.zero_add]
  walk_at "rd"
  refine ⟨a, ns, i, rfl, hS1, hl, fun b H3 hs3 hb3 hB3 => ?_⟩
  have hb0 : H b = none := hs1.free hb3
  have hs03 : Same H H3 := Same.trans hs1 hs3
  refine ⟨6, rfl, by decide, by decide, for_it (walk_range (lo := 0)) (fun _ σ H' => (∃ o3 o4 o5 o6 o7, σ = [some (.ref a), some (.int (i : Int)), some (.ref b), o3, o4, o5, o6, o7]) ∧ Ext b H3 H') ⟨⟨_, _, _, _, _, rfl⟩, Ext.refl hB3⟩ (fun _ _ _ _ _ => trivial) (fun j x σ H4 H5 hj hP hy => ?_) (fun σ H4 hP => ?_)⟩
  case refine_2 =>
    obtain ⟨⟨o3, o4, o5, o6, o7, rfl⟩, he⟩ := hP
    exact ⟨⟨_, _, _, _, _, _, _, rfl⟩, Ext.over hs03 hb0 he⟩
  obtain ⟨⟨o3, o4, o5, o6, o7, rfl⟩, he4⟩ := hP
  obtain ⟨rfl, rfl⟩ := hy
  have hB5 := he4.bag
  walk_at "rd"
  refine fun H6 p ds he6 hd6 ok6 => ?_
  have hB6 := he6.bag
  walk_at "rd"
  refine fun H7 z he7 hz => ?_
  have hB7 := he7.bag
  walk_at "rd"
  refine fun H8 x8 d8 he8 hd8 ok8 => ?_
  have hB8 := he8.bag
  refine And.intro (lenOk (by simp)) fun p9 hp9 => one_of_da (mg := mg) hB8 hp9 (.cons (.str z) (.cons hd8 .nil)) (by simp) (by simp) fun H9 nm dn he9 hx9 hdn => ?_
  have hB9 := he9.bag
  have okn : okD 0 dn := by
    simp only [List.mem_cons, List.not_mem_nil, or_false] at hx9
    rcases hx9 with rfl | rfl
    · exact Nat.le_trans hz (by decide)
    · exact ok8
  have e69 := (he7.trans he8).trans he9
  have hd9 := hd6.ext e69
  walk_at "rd"
  refine ⟨b, _, _, 0, 2, rfl, hB9, by decide, hd9, ok6, by decide, fun H10 x10 d10 he10 hd10 ok10 => ?_⟩
  have hB10 := he10.bag
  have hdm10 := hd9.ext he10
  walk_at "rd"
  refine ⟨b, _, _, 0, 2, rfl, hB10, by decide, hdm10, ok6, by decide, fun H11 x11 d11 he11 hd11 ok11 => ?_⟩
  have hB11 := he11.bag
  have hdm11 := hdm10.ext he11
  walk_at "rd"
  refine sl_da hB11 hdm11 fun p12 H12 hs12 hd12 => ?_
  have hB12 := (Ext.ofS hB11 hs12).bag
  have hdm12 := hdm11.same hs12
  have hld : ds.length ≤ 10 := ok6.1
  have hlc := len_cut ds (some 1) (some 2)
  have hlc1 : (cutD ds (some 1) (some 2)).length ≤ 1 := by
    unfold cutD
    rw [show (1 : Int) = ((1 : Nat) : Int) from rfl, show (2 : Int) = ((2 : Nat) : Int) from rfl, HT.sIx_nat, HT.sIx_nat, List.length_take]
    omega
  refine cat_da hB12 hdm12 hd12 (Nat.le_trans (show _ ≤ 1000 by omega) (by decide)) fun p13 H13 hs13 hd13 => ?_
  have hB13 := (Ext.ofS hB12 hs13).bag
  have hdm13 := hdm12.same hs13
  walk_at "rd"
  refine sl_da hB13 hdm13 fun p14 H14 hs14 hd14 => ?_
  have hB14 := (Ext.ofS hB13 hs14).bag
  walk_at "rd"
  refine fun H15 x15 d15 he15 hd15 ok15 => ?_
  have hB15 := he15.bag
  refine And.intro (lenOk (by simp)) fun p16 hp16 => ?_
  have e1215 := ((Ext.ofS hB12 hs13).trans (Ext.ofS hB13 hs14)).trans he15
  have hall : DaAll b H15 [.ref p, x10, x11, .ref p13, .ref p14, x15] [.tuple ds, d10, d11, .tuple (ds ++ cutD ds (some 1) (some 2)), .tuple (cutD ds none (some 1)), d15] :=
    .cons (hdm12.ext e1215) (.cons ((hd10.ext he11).ext ((Ext.ofS hB11 hs12).trans e1215)) (.cons (hd11.ext ((Ext.ofS hB11 hs12).trans e1215)) (.cons (hd13.ext ((Ext.ofS hB13 hs14).trans he15)) (.cons (hd14.ext he15) (.cons hd15 .nil)))))
  have hoks : okAll 2 [.tuple ds, d10, d11, .tuple (ds ++ cutD ds (some 1) (some 2)), .tuple (cutD ds none (some 1)), d15] :=
    ⟨okD_mono (Nat.zero_le 2) ok6, ok10, ok11, ⟨by rw [List.length_append]; omega, ok_app (okAll_mono (Nat.zero_le 2) ok6.2) (okAll_mono (Nat.zero_le 2) (ok_cut _ _ ok6.2))⟩, ⟨Nat.le_trans (len_cut _ _ _) (by omega), okAll_mono (Nat.zero_le 2) (ok_cut _ _ ok6.2)⟩, okD_mono (Nat.zero_le 2) ok15, trivial⟩
  have hdn15 := hdn.ext (((he10.trans he11).trans (Ext.ofS hB11 hs12)).trans e1215)
  have e315 := (((((he4.trans he6).trans e69).trans he10).trans he11).trans (Ext.ofS hB11 hs12)).trans e1215
  clear hd13 hd14 hd15 hd12 hdm13 hdm12 hdm11 hdm10 hd10 hd11 hd9 hd6
  generalize [PyData.tuple ds, d10, d11, .tuple (ds ++ cutD ds (some 1) (some 2)), .tuple (cutD ds none (some 1)), d15] = dsx at hall hoks
  have hxl : [V.ref p, x10, x11, .ref p13, .ref p14, x15].length < sizeLine := by show 6 < sizeLine; decide
  generalize [V.ref p, x10, x11, .ref p13, .ref p14, x15] = xs at hall hxl ⊢
  have hs16 : Same H15 (upd H15 p16 (.lst xs)) := Same.new (Same.refl _) hp16
  have h16 : upd H15 p16 (.lst xs) p16 = some (.lst xs) := upd_same
  have hB16 := (Ext.ofS hB15 hs16).bag
  have e316 := e315.trans (Ext.ofS hB15 hs16)
  have hall16 := hall.same hs16
  have hdn16 := hdn15.same hs16
  generalize upd H15 p16 (.lst xs) = H16 at hs16 h16 hB16 e316 hall16 hdn16 ⊢
  walk_at "rd"
  refine ⟨⟨xs, SqL.of h16⟩, fun D hD => lc_pure walk_list hxl hD (fun _ => none) (fun H17 hs17 => SqL.of (hs17 _ _ h16)) (fun i2 x H17 H18 R hi2 hs17 hy hR => ?_) (fun H17 hs17 hD17 => ?_)⟩
  · obtain ⟨rfl, hx⟩ := hy
    obtain ⟨d, hd1, hd2⟩ := hall16.get hx
    walk_at "rd"
    refine ⟨b, x, d, 2, rfl, hd2.same hs17, okAll_iff.mp hoks d (List.mem_of_getElem? hd1), by decide, fun H19 hs19 => ?_⟩
    exact ⟨_, rfl, hR H19 hs19⟩
  rw [outs_none] at hD17
  walk_at "rd"
  refine fun p18 hp18 => ?_
  have hs18 : Same H17 (upd H17 p18 (.lst [])) := Same.new (Same.refl _) hp18
  refine eqNilL (hs18 _ _ hD17) upd_same ?_
  have hs1618 := Same.trans hs17 hs18
  have hdn18 := hdn16.same hs1618
  generalize upd H17 p18 (.lst []) = H18 at hs18 hs1618 hdn18 ⊢
  refine ⟨_, rfl, ?_⟩
  refine iteF ?_
  walk_at "rd"
  refine ⟨b, nm, dn, rfl, hdn18, ok_str okn (by decide), fun H19 hs19 => ?_⟩
  walk_at "rd"
  refine ⟨b, nm, dn, rfl, hdn18.same hs19, ok_str okn (by decide), fun H20 hs20 => ?_⟩
  walk_at "rd"
  refine and_split (fun e => absurd rfl (of_decide_eq_false (not_t e))) (fun _ => ?_)
  exact ⟨⟨_, _, _, _, _, rfl⟩, e316.trans (Ext.ofS hB16 (Same.trans hs1618 (Same.trans hs19 hs20)))⟩
end
theorem all_mk {l : PySem.W.OpenLaw} {w : World} {K : PySem.W.Frag} {h : Heap} {mg : Str → Option Value} {fa : Addr} (X : K.In h) (G : h.Ns mainGlobals mg) (hfa : mg "law" = some (.ref fa))
    {f_law_bag : Addr} {od_law_bag an_law_bag : Option Addr} {sl_law_bag : Array (Option Value)} {oc_law_bag kV_law_bag dc_law_bag pm_law_bag cd_law_bag ct_law_bag : Value}
    {f_law_draw : Addr} {od_law_draw an_law_draw : Option Addr} {sl_law_draw : Array (Option Value)} {oc_law_draw kV_law_draw dc_law_draw pm_law_draw cd_law_draw ct_law_draw : Value}
    {f_is_integer : Addr} {od_is_integer an_is_integer : Option Addr} {sl_is_integer : Array (Option Value)} {oc_is_integer kV_is_integer dc_is_integer pm_is_integer cd_is_integer ct_is_integer : Value}
    {f_is_integer_within : Addr} {od_is_integer_within an_is_integer_within : Option Addr} {sl_is_integer_within : Array (Option Value)} {oc_is_integer_within kV_is_integer_within dc_is_integer_within pm_is_integer_within cd_is_integer_within ct_is_integer_within : Value}
    {f_is_name : Addr} {od_is_name an_is_name : Option Addr} {sl_is_name : Array (Option Value)} {oc_is_name kV_is_name dc_is_name pm_is_name cd_is_name ct_is_name : Value}
    {f_are_lines : Addr} {od_are_lines an_are_lines : Option Addr} {sl_are_lines : Array (Option Value)} {oc_are_lines kV_are_lines dc_are_lines pm_are_lines cd_are_lines ct_are_lines : Value}
    {f_is_promise : Addr} {od_is_promise an_is_promise : Option Addr} {sl_is_promise : Array (Option Value)} {oc_is_promise kV_is_promise dc_is_promise pm_is_promise cd_is_promise ct_is_promise : Value}
    {f_require_promise : Addr} {od_require_promise an_require_promise : Option Addr} {sl_require_promise : Array (Option Value)} {oc_require_promise kV_require_promise dc_require_promise pm_require_promise cd_require_promise ct_require_promise : Value}
    {f_names_in : Addr} {od_names_in an_names_in : Option Addr} {sl_names_in : Array (Option Value)} {oc_names_in kV_names_in dc_names_in pm_names_in cd_names_in ct_names_in : Value}
    {f_names_of : Addr} {od_names_of an_names_of : Option Addr} {sl_names_of : Array (Option Value)} {oc_names_of kV_names_of dc_names_of pm_names_of cd_names_of ct_names_of : Value}
    {f_law_one_of : Addr} {od_law_one_of an_law_one_of : Option Addr} {sl_law_one_of : Array (Option Value)} {oc_law_one_of kV_law_one_of dc_law_one_of pm_law_one_of cd_law_one_of ct_law_one_of : Value}
    {f_law_odd : Addr} {od_law_odd an_law_odd : Option Addr} {sl_law_odd : Array (Option Value)} {oc_law_odd kV_law_odd dc_law_odd pm_law_odd cd_law_odd ct_law_odd : Value}
    {f_law_spoiled : Addr} {od_law_spoiled an_law_spoiled : Option Addr} {sl_law_spoiled : Array (Option Value)} {oc_law_spoiled kV_law_spoiled dc_law_spoiled pm_law_spoiled cd_law_spoiled ct_law_spoiled : Value}
    {f_law_is_named : Addr} {od_law_is_named an_law_is_named : Option Addr} {sl_law_is_named : Array (Option Value)} {oc_law_is_named kV_law_is_named dc_law_is_named pm_law_is_named cd_law_is_named ct_law_is_named : Value}
    {f_law_is_number : Addr} {od_law_is_number an_law_is_number : Option Addr} {sl_law_is_number : Array (Option Value)} {oc_law_is_number kV_law_is_number dc_law_is_number pm_law_is_number cd_law_is_number ct_law_is_number : Value}
    {f_law_are_lines : Addr} {od_law_are_lines an_law_are_lines : Option Addr} {sl_law_are_lines : Array (Option Value)} {oc_law_are_lines kV_law_are_lines dc_law_are_lines pm_law_are_lines cd_law_are_lines ct_law_are_lines : Value}
    {f_law_is_told : Addr} {od_law_is_told an_law_is_told : Option Addr} {sl_law_is_told : Array (Option Value)} {oc_law_is_told kV_law_is_told dc_law_is_told pm_law_is_told cd_law_is_told ct_law_is_told : Value}
    {f_law_name : Addr} {od_law_name an_law_name : Option Addr} {sl_law_name : Array (Option Value)} {oc_law_name kV_law_name dc_law_name pm_law_name cd_law_name ct_law_name : Value}
    {f_law_any_promise : Addr} {od_law_any_promise an_law_any_promise : Option Addr} {sl_law_any_promise : Array (Option Value)} {oc_law_any_promise kV_law_any_promise dc_law_any_promise pm_law_any_promise cd_law_any_promise ct_law_any_promise : Value}
    {f_law_is_right : Addr} {od_law_is_right an_law_is_right : Option Addr} {sl_law_is_right : Array (Option Value)} {oc_law_is_right kV_law_is_right dc_law_is_right pm_law_is_right cd_law_is_right ct_law_is_right : Value}
    {f_law : Addr} {od_law an_law : Option Addr} {sl_law : Array (Option Value)} {oc_law kV_law dc_law pm_law cd_law ct_law : Value}
    {tk_INTEGER_BOUND : Tok}
    {tk_MAX_NAME : Tok}
    {tk_NAME_LETTERS : Tok}
    {tk_MOST_LINE : Tok}
    {tk_WITHIN : Tok}
    {tk_ALIKE : Tok}
    {tk_ANSWERED : Tok}
    {tk_MOST : Tok}
    {tk_MOST_ANSWERS : Tok}
    {tk_AHEAD : Tok}
    {tk_MOST_AHEAD : Tok}
    {tk_TOLD : Tok}
    {C_InvalidPromise : Addr}
    (a_law_bag : PySem.W.nsIn K mainGlobals "_law_bag" = some (some (.ref f_law_bag))) (l_law_bag : K.lookup f_law_bag = some ⟨oc_law_bag, od_law_bag, .func (PySem.W.fnOf "_law_bag" "_law_bag" (defArgs s_law_bag) (defBody s_law_bag) (defScope s_law_bag) .none kV_law_bag dc_law_bag pm_law_bag an_law_bag cd_law_bag ct_law_bag), sl_law_bag⟩) (c_law_bag : PySem.W.codeIn K cd_law_bag "_law_bag" = true) (k_law_bag : PySem.W.keepIn K (.ref f_law_bag) = true)
    (a_law_draw : PySem.W.nsIn K mainGlobals "_law_draw" = some (some (.ref f_law_draw))) (l_law_draw : K.lookup f_law_draw = some ⟨oc_law_draw, od_law_draw, .func (PySem.W.fnOf "_law_draw" "_law_draw" (defArgs s_law_draw) (defBody s_law_draw) (defScope s_law_draw) .none kV_law_draw dc_law_draw pm_law_draw an_law_draw cd_law_draw ct_law_draw), sl_law_draw⟩) (c_law_draw : PySem.W.codeIn K cd_law_draw "_law_draw" = true) (k_law_draw : PySem.W.keepIn K (.ref f_law_draw) = true)
    (a_is_integer : PySem.W.nsIn K mainGlobals "is_integer" = some (some (.ref f_is_integer))) (l_is_integer : K.lookup f_is_integer = some ⟨oc_is_integer, od_is_integer, .func (PySem.W.fnOf "is_integer" "is_integer" (defArgs s_is_integer) (defBody s_is_integer) (defScope s_is_integer) .none kV_is_integer dc_is_integer pm_is_integer an_is_integer cd_is_integer ct_is_integer), sl_is_integer⟩) (c_is_integer : PySem.W.codeIn K cd_is_integer "is_integer" = true) (k_is_integer : PySem.W.keepIn K (.ref f_is_integer) = true)
    (a_is_integer_within : PySem.W.nsIn K mainGlobals "is_integer_within" = some (some (.ref f_is_integer_within))) (l_is_integer_within : K.lookup f_is_integer_within = some ⟨oc_is_integer_within, od_is_integer_within, .func (PySem.W.fnOf "is_integer_within" "is_integer_within" (defArgs s_is_integer_within) (defBody s_is_integer_within) (defScope s_is_integer_within) .none kV_is_integer_within dc_is_integer_within pm_is_integer_within an_is_integer_within cd_is_integer_within ct_is_integer_within), sl_is_integer_within⟩) (c_is_integer_within : PySem.W.codeIn K cd_is_integer_within "is_integer_within" = true) (k_is_integer_within : PySem.W.keepIn K (.ref f_is_integer_within) = true)
    (a_is_name : PySem.W.nsIn K mainGlobals "is_name" = some (some (.ref f_is_name))) (l_is_name : K.lookup f_is_name = some ⟨oc_is_name, od_is_name, .func (PySem.W.fnOf "is_name" "is_name" (defArgs s_is_name) (defBody s_is_name) (defScope s_is_name) .none kV_is_name dc_is_name pm_is_name an_is_name cd_is_name ct_is_name), sl_is_name⟩) (c_is_name : PySem.W.codeIn K cd_is_name "is_name" = true) (k_is_name : PySem.W.keepIn K (.ref f_is_name) = true)
    (a_are_lines : PySem.W.nsIn K mainGlobals "are_lines" = some (some (.ref f_are_lines))) (l_are_lines : K.lookup f_are_lines = some ⟨oc_are_lines, od_are_lines, .func (PySem.W.fnOf "are_lines" "are_lines" (defArgs s_are_lines) (defBody s_are_lines) (defScope s_are_lines) .none kV_are_lines dc_are_lines pm_are_lines an_are_lines cd_are_lines ct_are_lines), sl_are_lines⟩) (c_are_lines : PySem.W.codeIn K cd_are_lines "are_lines" = true) (k_are_lines : PySem.W.keepIn K (.ref f_are_lines) = true)
    (a_is_promise : PySem.W.nsIn K mainGlobals "is_promise" = some (some (.ref f_is_promise))) (l_is_promise : K.lookup f_is_promise = some ⟨oc_is_promise, od_is_promise, .func (PySem.W.fnOf "is_promise" "is_promise" (defArgs s_is_promise) (defBody s_is_promise) (defScope s_is_promise) .none kV_is_promise dc_is_promise pm_is_promise an_is_promise cd_is_promise ct_is_promise), sl_is_promise⟩) (c_is_promise : PySem.W.codeIn K cd_is_promise "is_promise" = true) (k_is_promise : PySem.W.keepIn K (.ref f_is_promise) = true)
    (a_require_promise : PySem.W.nsIn K mainGlobals "require_promise" = some (some (.ref f_require_promise))) (l_require_promise : K.lookup f_require_promise = some ⟨oc_require_promise, od_require_promise, .func (PySem.W.fnOf "require_promise" "require_promise" (defArgs s_require_promise) (defBody s_require_promise) (defScope s_require_promise) .none kV_require_promise dc_require_promise pm_require_promise an_require_promise cd_require_promise ct_require_promise), sl_require_promise⟩) (c_require_promise : PySem.W.codeIn K cd_require_promise "require_promise" = true) (k_require_promise : PySem.W.keepIn K (.ref f_require_promise) = true)
    (a_names_in : PySem.W.nsIn K mainGlobals "names_in" = some (some (.ref f_names_in))) (l_names_in : K.lookup f_names_in = some ⟨oc_names_in, od_names_in, .func (PySem.W.fnOf "names_in" "names_in" (defArgs s_names_in) (defBody s_names_in) (defScope s_names_in) .none kV_names_in dc_names_in pm_names_in an_names_in cd_names_in ct_names_in), sl_names_in⟩) (c_names_in : PySem.W.codeIn K cd_names_in "names_in" = true) (k_names_in : PySem.W.keepIn K (.ref f_names_in) = true)
    (a_names_of : PySem.W.nsIn K mainGlobals "names_of" = some (some (.ref f_names_of))) (l_names_of : K.lookup f_names_of = some ⟨oc_names_of, od_names_of, .func (PySem.W.fnOf "names_of" "names_of" (defArgs s_names_of) (defBody s_names_of) (defScope s_names_of) .none kV_names_of dc_names_of pm_names_of an_names_of cd_names_of ct_names_of), sl_names_of⟩) (c_names_of : PySem.W.codeIn K cd_names_of "names_of" = true) (k_names_of : PySem.W.keepIn K (.ref f_names_of) = true)
    (a_law_one_of : PySem.W.nsIn K mainGlobals "_law_one_of" = some (some (.ref f_law_one_of))) (l_law_one_of : K.lookup f_law_one_of = some ⟨oc_law_one_of, od_law_one_of, .func (PySem.W.fnOf "_law_one_of" "_law_one_of" (defArgs s_law_one_of) (defBody s_law_one_of) (defScope s_law_one_of) .none kV_law_one_of dc_law_one_of pm_law_one_of an_law_one_of cd_law_one_of ct_law_one_of), sl_law_one_of⟩) (c_law_one_of : PySem.W.codeIn K cd_law_one_of "_law_one_of" = true) (k_law_one_of : PySem.W.keepIn K (.ref f_law_one_of) = true)
    (a_law_odd : PySem.W.nsIn K mainGlobals "_law_odd" = some (some (.ref f_law_odd))) (l_law_odd : K.lookup f_law_odd = some ⟨oc_law_odd, od_law_odd, .func (PySem.W.fnOf "_law_odd" "_law_odd" (defArgs s_law_odd) (defBody s_law_odd) (defScope s_law_odd) .none kV_law_odd dc_law_odd pm_law_odd an_law_odd cd_law_odd ct_law_odd), sl_law_odd⟩) (c_law_odd : PySem.W.codeIn K cd_law_odd "_law_odd" = true) (k_law_odd : PySem.W.keepIn K (.ref f_law_odd) = true)
    (a_law_spoiled : PySem.W.nsIn K mainGlobals "_law_spoiled" = some (some (.ref f_law_spoiled))) (l_law_spoiled : K.lookup f_law_spoiled = some ⟨oc_law_spoiled, od_law_spoiled, .func (PySem.W.fnOf "_law_spoiled" "_law_spoiled" (defArgs s_law_spoiled) (defBody s_law_spoiled) (defScope s_law_spoiled) .none kV_law_spoiled dc_law_spoiled pm_law_spoiled an_law_spoiled cd_law_spoiled ct_law_spoiled), sl_law_spoiled⟩) (c_law_spoiled : PySem.W.codeIn K cd_law_spoiled "_law_spoiled" = true) (k_law_spoiled : PySem.W.keepIn K (.ref f_law_spoiled) = true)
    (a_law_is_named : PySem.W.nsIn K mainGlobals "_law_is_named" = some (some (.ref f_law_is_named))) (l_law_is_named : K.lookup f_law_is_named = some ⟨oc_law_is_named, od_law_is_named, .func (PySem.W.fnOf "_law_is_named" "_law_is_named" (defArgs s_law_is_named) (defBody s_law_is_named) (defScope s_law_is_named) .none kV_law_is_named dc_law_is_named pm_law_is_named an_law_is_named cd_law_is_named ct_law_is_named), sl_law_is_named⟩) (c_law_is_named : PySem.W.codeIn K cd_law_is_named "_law_is_named" = true) (k_law_is_named : PySem.W.keepIn K (.ref f_law_is_named) = true)
    (a_law_is_number : PySem.W.nsIn K mainGlobals "_law_is_number" = some (some (.ref f_law_is_number))) (l_law_is_number : K.lookup f_law_is_number = some ⟨oc_law_is_number, od_law_is_number, .func (PySem.W.fnOf "_law_is_number" "_law_is_number" (defArgs s_law_is_number) (defBody s_law_is_number) (defScope s_law_is_number) .none kV_law_is_number dc_law_is_number pm_law_is_number an_law_is_number cd_law_is_number ct_law_is_number), sl_law_is_number⟩) (c_law_is_number : PySem.W.codeIn K cd_law_is_number "_law_is_number" = true) (k_law_is_number : PySem.W.keepIn K (.ref f_law_is_number) = true)
    (a_law_are_lines : PySem.W.nsIn K mainGlobals "_law_are_lines" = some (some (.ref f_law_are_lines))) (l_law_are_lines : K.lookup f_law_are_lines = some ⟨oc_law_are_lines, od_law_are_lines, .func (PySem.W.fnOf "_law_are_lines" "_law_are_lines" (defArgs s_law_are_lines) (defBody s_law_are_lines) (defScope s_law_are_lines) .none kV_law_are_lines dc_law_are_lines pm_law_are_lines an_law_are_lines cd_law_are_lines ct_law_are_lines), sl_law_are_lines⟩) (c_law_are_lines : PySem.W.codeIn K cd_law_are_lines "_law_are_lines" = true) (k_law_are_lines : PySem.W.keepIn K (.ref f_law_are_lines) = true)
    (a_law_is_told : PySem.W.nsIn K mainGlobals "_law_is_told" = some (some (.ref f_law_is_told))) (l_law_is_told : K.lookup f_law_is_told = some ⟨oc_law_is_told, od_law_is_told, .func (PySem.W.fnOf "_law_is_told" "_law_is_told" (defArgs s_law_is_told) (defBody s_law_is_told) (defScope s_law_is_told) .none kV_law_is_told dc_law_is_told pm_law_is_told an_law_is_told cd_law_is_told ct_law_is_told), sl_law_is_told⟩) (c_law_is_told : PySem.W.codeIn K cd_law_is_told "_law_is_told" = true) (k_law_is_told : PySem.W.keepIn K (.ref f_law_is_told) = true)
    (a_law_name : PySem.W.nsIn K mainGlobals "_law_name" = some (some (.ref f_law_name))) (l_law_name : K.lookup f_law_name = some ⟨oc_law_name, od_law_name, .func (PySem.W.fnOf "_law_name" "_law_name" (defArgs s_law_name) (defBody s_law_name) (defScope s_law_name) .none kV_law_name dc_law_name pm_law_name an_law_name cd_law_name ct_law_name), sl_law_name⟩) (c_law_name : PySem.W.codeIn K cd_law_name "_law_name" = true) (k_law_name : PySem.W.keepIn K (.ref f_law_name) = true)
    (a_law_any_promise : PySem.W.nsIn K mainGlobals "_law_any_promise" = some (some (.ref f_law_any_promise))) (l_law_any_promise : K.lookup f_law_any_promise = some ⟨oc_law_any_promise, od_law_any_promise, .func (PySem.W.fnOf "_law_any_promise" "_law_any_promise" (defArgs s_law_any_promise) (defBody s_law_any_promise) (defScope s_law_any_promise) .none kV_law_any_promise dc_law_any_promise pm_law_any_promise an_law_any_promise cd_law_any_promise ct_law_any_promise), sl_law_any_promise⟩) (c_law_any_promise : PySem.W.codeIn K cd_law_any_promise "_law_any_promise" = true) (k_law_any_promise : PySem.W.keepIn K (.ref f_law_any_promise) = true)
    (a_law_is_right : PySem.W.nsIn K mainGlobals "_law_is_right" = some (some (.ref f_law_is_right))) (l_law_is_right : K.lookup f_law_is_right = some ⟨oc_law_is_right, od_law_is_right, .func (PySem.W.fnOf "_law_is_right" "_law_is_right" (defArgs s_law_is_right) (defBody s_law_is_right) (defScope s_law_is_right) .none kV_law_is_right dc_law_is_right pm_law_is_right an_law_is_right cd_law_is_right ct_law_is_right), sl_law_is_right⟩) (c_law_is_right : PySem.W.codeIn K cd_law_is_right "_law_is_right" = true) (k_law_is_right : PySem.W.keepIn K (.ref f_law_is_right) = true)
    (a_law : PySem.W.nsIn K mainGlobals "law" = some (some (.ref f_law))) (l_law : K.lookup f_law = some ⟨oc_law, od_law, .func (PySem.W.fnOf "law" "law" (defArgs s_law) (defBody s_law) (defScope s_law) .none kV_law dc_law pm_law an_law cd_law ct_law), sl_law⟩) (c_law : PySem.W.codeIn K cd_law "law" = true) (k_law : PySem.W.keepIn K (.ref f_law) = true)
    (zb_len : PySem.W.nsIn K mainGlobals "len" = some none)
    (zb_sum : PySem.W.nsIn K mainGlobals "sum" = some none)
    (zb_int : PySem.W.nsIn K mainGlobals "int" = some none)
    (zb_abs : PySem.W.nsIn K mainGlobals "abs" = some none)
    (zb_max : PySem.W.nsIn K mainGlobals "max" = some none)
    (zb_isinstance : PySem.W.nsIn K mainGlobals "isinstance" = some none)
    (zb_bool : PySem.W.nsIn K mainGlobals "bool" = some none)
    (zb_str : PySem.W.nsIn K mainGlobals "str" = some none)
    (zb_all : PySem.W.nsIn K mainGlobals "all" = some none)
    (zb_tuple : PySem.W.nsIn K mainGlobals "tuple" = some none)
    (zb_zip : PySem.W.nsIn K mainGlobals "zip" = some none)
    (zb_list : PySem.W.nsIn K mainGlobals "list" = some none)
    (zb_sorted : PySem.W.nsIn K mainGlobals "sorted" = some none)
    (zb_dict : PySem.W.nsIn K mainGlobals "dict" = some none)
    (zb_range : PySem.W.nsIn K mainGlobals "range" = some none)
    (zb_repr : PySem.W.nsIn K mainGlobals "repr" = some none)
    (zb_min : PySem.W.nsIn K mainGlobals "min" = some none)
    (zc_INTEGER_BOUND : PySem.W.nsIn K mainGlobals "INTEGER_BOUND" = some (some (.int (1000000000000000000000000000000000000000000000000000000000000) tk_INTEGER_BOUND)))
    (zc_MAX_NAME : PySem.W.nsIn K mainGlobals "MAX_NAME" = some (some (.int (8) tk_MAX_NAME)))
    (zc_NAME_LETTERS : PySem.W.nsIn K mainGlobals "NAME_LETTERS" = some (some (.str "abcdefghijklmnopqrstuvwxyz" tk_NAME_LETTERS)))
    (zc_MOST_LINE : PySem.W.nsIn K mainGlobals "MOST_LINE" = some (some (.int (3) tk_MOST_LINE)))
    (zc_WITHIN : PySem.W.nsIn K mainGlobals "WITHIN" = some (some (.str "within" tk_WITHIN)))
    (zc_ALIKE : PySem.W.nsIn K mainGlobals "ALIKE" = some (some (.str "alike" tk_ALIKE)))
    (zc_ANSWERED : PySem.W.nsIn K mainGlobals "ANSWERED" = some (some (.str "answered" tk_ANSWERED)))
    (zc_MOST : PySem.W.nsIn K mainGlobals "MOST" = some (some (.str "most" tk_MOST)))
    (zc_MOST_ANSWERS : PySem.W.nsIn K mainGlobals "MOST_ANSWERS" = some (some (.int (99) tk_MOST_ANSWERS)))
    (zc_AHEAD : PySem.W.nsIn K mainGlobals "AHEAD" = some (some (.str "ahead" tk_AHEAD)))
    (zc_MOST_AHEAD : PySem.W.nsIn K mainGlobals "MOST_AHEAD" = some (some (.int (3) tk_MOST_AHEAD)))
    (zc_TOLD : PySem.W.nsIn K mainGlobals "TOLD" = some (some (.str "told" tk_TOLD)))
    (xg_InvalidPromise : PySem.W.nsIn K mainGlobals "InvalidPromise" = some (some (.ref C_InvalidPromise)))
    (xx_InvalidPromise : PySem.W.excIn K C_InvalidPromise [.type "ValueError", .type "Exception", .type "BaseException", .type "object"] "ValueError.__new__" = true)
    (xk_InvalidPromise : PySem.W.keepIn K (.ref C_InvalidPromise) = true)
    (xb_InvalidPromise : PySem.W.subIn K (.ref C_InvalidPromise) (.type "BaseException") = some true)
    (xt_InvalidPromise : PySem.W.typeIn K (.ref C_InvalidPromise) = some (.type "type"))
    (xi_InvalidPromise : PySem.W.isClsIn K C_InvalidPromise = true)
    (xs_InvalidPromise : PySem.W.subIn K (.ref C_InvalidPromise) (.ref C_InvalidPromise) = some true)
    : ∃ fd : FuncData, (∀ (s : Shared) (v : Value), BindsTo s fd ⟨[v], []⟩ [("_law_script", v)]) ∧ ∀ base : Heap, K.In base → base.Ns mainGlobals mg → FnOk l.prog w K mg base CX0 8 fa fd P_law (sp_law K (fun _ => none)) := by
  have e := hfa.symm.trans (PySem.W.mg_of X G a_law)
  cases e
  have T : Txt K mg := ⟨PySem.W.mg_none_of X G zb_len, PySem.W.mg_none_of X G zb_sum, PySem.W.mg_none_of X G zb_int, PySem.W.mg_none_of X G zb_abs, PySem.W.mg_none_of X G zb_max, PySem.W.mg_none_of X G zb_isinstance, PySem.W.mg_none_of X G zb_bool, PySem.W.mg_none_of X G zb_str, PySem.W.mg_none_of X G zb_all, PySem.W.mg_none_of X G zb_tuple, PySem.W.mg_none_of X G zb_zip, PySem.W.mg_none_of X G zb_list, PySem.W.mg_none_of X G zb_sorted, PySem.W.mg_none_of X G zb_dict, PySem.W.mg_none_of X G zb_range, PySem.W.mg_none_of X G zb_repr, PySem.W.mg_none_of X G zb_min, ⟨_, PySem.W.mg_of X G zc_INTEGER_BOUND, ⟨_, rfl⟩⟩, ⟨_, PySem.W.mg_of X G zc_MAX_NAME, ⟨_, rfl⟩⟩, ⟨_, PySem.W.mg_of X G zc_NAME_LETTERS, ⟨_, rfl⟩⟩, ⟨_, PySem.W.mg_of X G zc_MOST_LINE, ⟨_, rfl⟩⟩, ⟨_, PySem.W.mg_of X G zc_WITHIN, ⟨_, rfl⟩⟩, ⟨_, PySem.W.mg_of X G zc_ALIKE, ⟨_, rfl⟩⟩, ⟨_, PySem.W.mg_of X G zc_ANSWERED, ⟨_, rfl⟩⟩, ⟨_, PySem.W.mg_of X G zc_MOST, ⟨_, rfl⟩⟩, ⟨_, PySem.W.mg_of X G zc_MOST_ANSWERS, ⟨_, rfl⟩⟩, ⟨_, PySem.W.mg_of X G zc_AHEAD, ⟨_, rfl⟩⟩, ⟨_, PySem.W.mg_of X G zc_MOST_AHEAD, ⟨_, rfl⟩⟩, ⟨_, PySem.W.mg_of X G zc_TOLD, ⟨_, rfl⟩⟩, ⟨_, ⟨PySem.W.mg_of X G xg_InvalidPromise, ⟨_, _, _, _, PySem.F.excBase_ValueError, xx_InvalidPromise⟩, xk_InvalidPromise, xb_InvalidPromise, xt_InvalidPromise, xi_InvalidPromise, xs_InvalidPromise⟩⟩⟩
  have F_law_bag : FunD K mg "_law_bag" s_law_bag P_law_bag := funD_mk (PySem.W.mg_of X G a_law_bag) (fun_mk (st := s_law_bag) l_law_bag c_law_bag k_law_bag) (Fun.binds (fun_mk (st := s_law_bag) l_law_bag c_law_bag k_law_bag) (ps := P_law_bag) fun _ _ _ _ _ _ us hl => match us, hl with | [_, _], _ => rfl)
  have F_law_draw : FunD K mg "_law_draw" s_law_draw P_law_draw := funD_mk (PySem.W.mg_of X G a_law_draw) (fun_mk (st := s_law_draw) l_law_draw c_law_draw k_law_draw) (Fun.binds (fun_mk (st := s_law_draw) l_law_draw c_law_draw k_law_draw) (ps := P_law_draw) fun _ _ _ _ _ _ us hl => match us, hl with | [_, _], _ => rfl)
  have F_is_integer : FunD K mg "is_integer" s_is_integer P_is_integer := funD_mk (PySem.W.mg_of X G a_is_integer) (fun_mk (st := s_is_integer) l_is_integer c_is_integer k_is_integer) (Fun.binds (fun_mk (st := s_is_integer) l_is_integer c_is_integer k_is_integer) (ps := P_is_integer) fun _ _ _ _ _ _ us hl => match us, hl with | [_], _ => rfl)
  have F_is_integer_within : FunD K mg "is_integer_within" s_is_integer_within P_is_integer_within := funD_mk (PySem.W.mg_of X G a_is_integer_within) (fun_mk (st := s_is_integer_within) l_is_integer_within c_is_integer_within k_is_integer_within) (Fun.binds (fun_mk (st := s_is_integer_within) l_is_integer_within c_is_integer_within k_is_integer_within) (ps := P_is_integer_within) fun _ _ _ _ _ _ us hl => match us, hl with | [_, _, _], _ => rfl)
  have F_is_name : FunD K mg "is_name" s_is_name P_is_name := funD_mk (PySem.W.mg_of X G a_is_name) (fun_mk (st := s_is_name) l_is_name c_is_name k_is_name) (Fun.binds (fun_mk (st := s_is_name) l_is_name c_is_name k_is_name) (ps := P_is_name) fun _ _ _ _ _ _ us hl => match us, hl with | [_], _ => rfl)
  have F_are_lines : FunD K mg "are_lines" s_are_lines P_are_lines := funD_mk (PySem.W.mg_of X G a_are_lines) (fun_mk (st := s_are_lines) l_are_lines c_are_lines k_are_lines) (Fun.binds (fun_mk (st := s_are_lines) l_are_lines c_are_lines k_are_lines) (ps := P_are_lines) fun _ _ _ _ _ _ us hl => match us, hl with | [_], _ => rfl)
  have F_is_promise : FunD K mg "is_promise" s_is_promise P_is_promise := funD_mk (PySem.W.mg_of X G a_is_promise) (fun_mk (st := s_is_promise) l_is_promise c_is_promise k_is_promise) (Fun.binds (fun_mk (st := s_is_promise) l_is_promise c_is_promise k_is_promise) (ps := P_is_promise) fun _ _ _ _ _ _ us hl => match us, hl with | [_], _ => rfl)
  have F_require_promise : FunD K mg "require_promise" s_require_promise P_require_promise := funD_mk (PySem.W.mg_of X G a_require_promise) (fun_mk (st := s_require_promise) l_require_promise c_require_promise k_require_promise) (Fun.binds (fun_mk (st := s_require_promise) l_require_promise c_require_promise k_require_promise) (ps := P_require_promise) fun _ _ _ _ _ _ us hl => match us, hl with | [_], _ => rfl)
  have F_names_in : FunD K mg "names_in" s_names_in P_names_in := funD_mk (PySem.W.mg_of X G a_names_in) (fun_mk (st := s_names_in) l_names_in c_names_in k_names_in) (Fun.binds (fun_mk (st := s_names_in) l_names_in c_names_in k_names_in) (ps := P_names_in) fun _ _ _ _ _ _ us hl => match us, hl with | [_], _ => rfl)
  have F_names_of : FunD K mg "names_of" s_names_of P_names_of := funD_mk (PySem.W.mg_of X G a_names_of) (fun_mk (st := s_names_of) l_names_of c_names_of k_names_of) (Fun.binds (fun_mk (st := s_names_of) l_names_of c_names_of k_names_of) (ps := P_names_of) fun _ _ _ _ _ _ us hl => match us, hl with | [_], _ => rfl)
  have F_law_one_of : FunD K mg "_law_one_of" s_law_one_of P_law_one_of := funD_mk (PySem.W.mg_of X G a_law_one_of) (fun_mk (st := s_law_one_of) l_law_one_of c_law_one_of k_law_one_of) (Fun.binds (fun_mk (st := s_law_one_of) l_law_one_of c_law_one_of k_law_one_of) (ps := P_law_one_of) fun _ _ _ _ _ _ us hl => match us, hl with | [_, _], _ => rfl)
  have F_law_odd : FunD K mg "_law_odd" s_law_odd P_law_odd := funD_mk (PySem.W.mg_of X G a_law_odd) (fun_mk (st := s_law_odd) l_law_odd c_law_odd k_law_odd) (Fun.binds (fun_mk (st := s_law_odd) l_law_odd c_law_odd k_law_odd) (ps := P_law_odd) fun _ _ _ _ _ _ us hl => match us, hl with | [_], _ => rfl)
  have F_law_spoiled : FunD K mg "_law_spoiled" s_law_spoiled P_law_spoiled := funD_mk (PySem.W.mg_of X G a_law_spoiled) (fun_mk (st := s_law_spoiled) l_law_spoiled c_law_spoiled k_law_spoiled) (Fun.binds (fun_mk (st := s_law_spoiled) l_law_spoiled c_law_spoiled k_law_spoiled) (ps := P_law_spoiled) fun _ _ _ _ _ _ us hl => match us, hl with | [_, _, _], _ => rfl)
  have F_law_is_named : FunD K mg "_law_is_named" s_law_is_named P_law_is_named := funD_mk (PySem.W.mg_of X G a_law_is_named) (fun_mk (st := s_law_is_named) l_law_is_named c_law_is_named k_law_is_named) (Fun.binds (fun_mk (st := s_law_is_named) l_law_is_named c_law_is_named k_law_is_named) (ps := P_law_is_named) fun _ _ _ _ _ _ us hl => match us, hl with | [_], _ => rfl)
  have F_law_is_number : FunD K mg "_law_is_number" s_law_is_number P_law_is_number := funD_mk (PySem.W.mg_of X G a_law_is_number) (fun_mk (st := s_law_is_number) l_law_is_number c_law_is_number k_law_is_number) (Fun.binds (fun_mk (st := s_law_is_number) l_law_is_number c_law_is_number k_law_is_number) (ps := P_law_is_number) fun _ _ _ _ _ _ us hl => match us, hl with | [_, _], _ => rfl)
  have F_law_are_lines : FunD K mg "_law_are_lines" s_law_are_lines P_law_are_lines := funD_mk (PySem.W.mg_of X G a_law_are_lines) (fun_mk (st := s_law_are_lines) l_law_are_lines c_law_are_lines k_law_are_lines) (Fun.binds (fun_mk (st := s_law_are_lines) l_law_are_lines c_law_are_lines k_law_are_lines) (ps := P_law_are_lines) fun _ _ _ _ _ _ us hl => match us, hl with | [_], _ => rfl)
  have F_law_is_told : FunD K mg "_law_is_told" s_law_is_told P_law_is_told := funD_mk (PySem.W.mg_of X G a_law_is_told) (fun_mk (st := s_law_is_told) l_law_is_told c_law_is_told k_law_is_told) (Fun.binds (fun_mk (st := s_law_is_told) l_law_is_told c_law_is_told k_law_is_told) (ps := P_law_is_told) fun _ _ _ _ _ _ us hl => match us, hl with | [_], _ => rfl)
  have F_law_name : FunD K mg "_law_name" s_law_name P_law_name := funD_mk (PySem.W.mg_of X G a_law_name) (fun_mk (st := s_law_name) l_law_name c_law_name k_law_name) (Fun.binds (fun_mk (st := s_law_name) l_law_name c_law_name k_law_name) (ps := P_law_name) fun _ _ _ _ _ _ us hl => match us, hl with | [_], _ => rfl)
  have F_law_any_promise : FunD K mg "_law_any_promise" s_law_any_promise P_law_any_promise := funD_mk (PySem.W.mg_of X G a_law_any_promise) (fun_mk (st := s_law_any_promise) l_law_any_promise c_law_any_promise k_law_any_promise) (Fun.binds (fun_mk (st := s_law_any_promise) l_law_any_promise c_law_any_promise k_law_any_promise) (ps := P_law_any_promise) fun _ _ _ _ _ _ us hl => match us, hl with | [_], _ => rfl)
  have F_law_is_right : FunD K mg "_law_is_right" s_law_is_right P_law_is_right := funD_mk (PySem.W.mg_of X G a_law_is_right) (fun_mk (st := s_law_is_right) l_law_is_right c_law_is_right k_law_is_right) (Fun.binds (fun_mk (st := s_law_is_right) l_law_is_right c_law_is_right k_law_is_right) (ps := P_law_is_right) fun _ _ _ _ _ _ us hl => match us, hl with | [_], _ => rfl)
  refine ⟨PySem.W.fnOf "law" "law" (defArgs s_law) (defBody s_law) (defScope s_law) .none kV_law dc_law pm_law an_law cd_law ct_law, fun s v => .of_eq rfl, fun base _ _ => ?_⟩
  have D__law_bag : Def l.prog w K mg base CX0 1 "_law_bag" P_law_bag (sp_law_bag K mg) := ok_law_bag F_law_bag T 
  have D__law_draw : Def l.prog w K mg base CX0 1 "_law_draw" P_law_draw (sp_law_draw K mg) := ok_law_draw F_law_draw T 
  have D_is_integer : Def l.prog w K mg base CX0 1 "is_integer" P_is_integer (sp_is_integer K mg) := ok_is_integer F_is_integer T 
  have D_is_integer_within : Def l.prog w K mg base CX0 2 "is_integer_within" P_is_integer_within (sp_is_integer_within K mg) := ok_is_integer_within F_is_integer_within T D_is_integer
  have D_is_name : Def l.prog w K mg base CX0 1 "is_name" P_is_name (sp_is_name K mg) := ok_is_name F_is_name T 
  have D_are_lines : Def l.prog w K mg base CX0 3 "are_lines" P_are_lines (sp_are_lines K mg) := ok_are_lines F_are_lines T D_is_integer_within
  have D_is_promise : Def l.prog w K mg base CX0 4 "is_promise" P_is_promise (sp_is_promise K mg) := ok_is_promise F_is_promise T D_is_name D_is_integer_within D_are_lines
  have D_require_promise : Def l.prog w K mg base (L2.CX l.prog w) 5 "require_promise" P_require_promise (sp_require_promise K mg) := ok_require_promise F_require_promise T D_is_promise
  have D_names_in : Def l.prog w K mg base CX0 1 "names_in" P_names_in (sp_names_in K mg) := ok_names_in F_names_in T 
  have D_names_of : Def l.prog w K mg base (L2.CX l.prog w) 6 "names_of" P_names_of (sp_names_of K mg) := ok_names_of F_names_of T D_require_promise D_names_in
  have D__law_one_of : Def l.prog w K mg base CX0 2 "_law_one_of" P_law_one_of (sp_law_one_of K mg) := ok_law_one_of F_law_one_of T D__law_draw
  have D__law_odd : Def l.prog w K mg base CX0 3 "_law_odd" P_law_odd (sp_law_odd K mg) := ok_law_odd F_law_odd T D__law_one_of
  have R_law_spoiled_0 : Def l.prog w K mg base CX0 2 "_law_spoiled" P_law_spoiled (sp_law_spoiled K mg 0) := F_law_spoiled.none
  have R_law_spoiled_1 : Def l.prog w K mg base CX0 3 "_law_spoiled" P_law_spoiled (sp_law_spoiled K mg 1) := ok_law_spoiled F_law_spoiled T D__law_draw D__law_one_of (by decide) R_law_spoiled_0
  have R_law_spoiled_2 : Def l.prog w K mg base CX0 4 "_law_spoiled" P_law_spoiled (sp_law_spoiled K mg 2) := ok_law_spoiled F_law_spoiled T D__law_draw D__law_one_of (by decide) R_law_spoiled_1
  have D__law_spoiled : Def l.prog w K mg base CX0 5 "_law_spoiled" P_law_spoiled (sp_law_spoiled K mg 3) := ok_law_spoiled F_law_spoiled T D__law_draw D__law_one_of (by decide) R_law_spoiled_2
  have D__law_is_named : Def l.prog w K mg base CX0 1 "_law_is_named" P_law_is_named (sp_law_is_named K mg) := ok_law_is_named F_law_is_named T 
  have D__law_is_number : Def l.prog w K mg base CX0 1 "_law_is_number" P_law_is_number (sp_law_is_number K mg) := ok_law_is_number F_law_is_number T 
  have D__law_are_lines : Def l.prog w K mg base CX0 2 "_law_are_lines" P_law_are_lines (sp_law_are_lines K mg) := ok_law_are_lines F_law_are_lines T D__law_is_number
  have D__law_is_told : Def l.prog w K mg base CX0 3 "_law_is_told" P_law_is_told (sp_law_is_told K mg) := ok_law_is_told F_law_is_told T D__law_is_named D__law_is_number D__law_are_lines
  have D__law_name : Def l.prog w K mg base CX0 3 "_law_name" P_law_name (sp_law_name K mg) := ok_law_name F_law_name T D__law_one_of
  have D__law_any_promise : Def l.prog w K mg base CX0 4 "_law_any_promise" P_law_any_promise (sp_law_any_promise K mg) := ok_law_any_promise F_law_any_promise T D__law_one_of D__law_name D__law_draw
  have D__law_is_right : Def l.prog w K mg base CX0 7 "_law_is_right" P_law_is_right (sp_law_is_right K mg) := ok_law_is_right F_law_is_right T D__law_is_told D_is_promise D_names_of
  exact ok_law (fun_mk (st := s_law) l_law c_law k_law) T D__law_bag D__law_any_promise D__law_one_of D__law_name D__law_odd D__law_spoiled D__law_is_right D_is_name D__law_is_named
theorem walk {l : PySem.W.OpenLaw} {q : Program} {loose : List Str} {XP : (Str → Option Value) → Heap → Prop} {YP : World → Heap → Prop} {d : DefRec} {K : Params → PySem.W.Frag} (hn : l.most = some 63) (hdf : d.params.defaults = [])
    (hY : ∀ (w : World) (h : Heap), YP w h → (K w.params).In h)
    (F : ∀ (w : World) (mg : Str → Option Value) (fa : Addr) (h : Heap), (K w.params).In h → h.Ns mainGlobals mg → mg d.name = some (.ref fa) →
      ∃ fd : FuncData, (∀ (s : Shared) (u : Value), BindsTo s fd ⟨[u], []⟩ [("_law_script", u)]) ∧ ∀ base : Heap, (K w.params).In base → base.Ns mainGlobals mg → FnOk l.prog w (K w.params) mg base CX0 8 fa fd P_law (sp_law (K w.params) (fun _ => none))) :
    PySem.W.WalkO q loose XP YP l.row.toRowW d [] (fun f vs => PySem.call f vs) :=
  L2.walk_of (n := 63) (k := 8) (x := "_law_script") (CX := fun _ => CX0) (sp := fun w => sp_law (K w.params) (fun _ => none)) hn (by decide) hdf ⟨rfl, by decide, by decide⟩ hY F (fun _ _ a ns hl _ hS => ⟨a, ns, rfl, hS, hl, fun _ => rfl⟩) fun _ _ _ _ _ z => z
end M
open PySem PySem.W PyProof.Rows in
set_option maxRecDepth 100000 in
set_option maxHeartbeats 0 in
theorem PySem.Challenge.cw_mayrows_k66_whole_promises_and_names_holds : PySem.Challenge.rw_mayrows_k66_whole_promises_and_names.Holds := by
  w_on; o_law; k_head; (case hw => w_witness2)
  k_fill
  refine M.walk (l := PySem.Challenge.rw_mayrows_k66_whole_promises_and_names) rfl rfl (fun w h Y => PySem.W.kIn_of Y) ?F
  case F =>
    intro w mg fa h KX G hmg
    refine' M.all_mk KX G hmg ?a_law_bag ?l_law_bag ?c_law_bag ?k_law_bag ?a_law_draw ?l_law_draw ?c_law_draw ?k_law_draw ?a_is_integer ?l_is_integer ?c_is_integer ?k_is_integer ?a_is_integer_within ?l_is_integer_within ?c_is_integer_within ?k_is_integer_within ?a_is_name ?l_is_name ?c_is_name ?k_is_name ?a_are_lines ?l_are_lines ?c_are_lines ?k_are_lines ?a_is_promise ?l_is_promise ?c_is_promise ?k_is_promise ?a_require_promise ?l_require_promise ?c_require_promise ?k_require_promise ?a_names_in ?l_names_in ?c_names_in ?k_names_in ?a_names_of ?l_names_of ?c_names_of ?k_names_of ?a_law_one_of ?l_law_one_of ?c_law_one_of ?k_law_one_of ?a_law_odd ?l_law_odd ?c_law_odd ?k_law_odd ?a_law_spoiled ?l_law_spoiled ?c_law_spoiled ?k_law_spoiled ?a_law_is_named ?l_law_is_named ?c_law_is_named ?k_law_is_named ?a_law_is_number ?l_law_is_number ?c_law_is_number ?k_law_is_number ?a_law_are_lines ?l_law_are_lines ?c_law_are_lines ?k_law_are_lines ?a_law_is_told ?l_law_is_told ?c_law_is_told ?k_law_is_told ?a_law_name ?l_law_name ?c_law_name ?k_law_name ?a_law_any_promise ?l_law_any_promise ?c_law_any_promise ?k_law_any_promise ?a_law_is_right ?l_law_is_right ?c_law_is_right ?k_law_is_right ?a_law ?l_law ?c_law ?k_law ?zb_len ?zb_sum ?zb_int ?zb_abs ?zb_max ?zb_isinstance ?zb_bool ?zb_str ?zb_all ?zb_tuple ?zb_zip ?zb_list ?zb_sorted ?zb_dict ?zb_range ?zb_repr ?zb_min ?zc_INTEGER_BOUND ?zc_MAX_NAME ?zc_NAME_LETTERS ?zc_MOST_LINE ?zc_WITHIN ?zc_ALIKE ?zc_ANSWERED ?zc_MOST ?zc_MOST_ANSWERS ?zc_AHEAD ?zc_MOST_AHEAD ?zc_TOLD ?xg_InvalidPromise ?xx_InvalidPromise ?xk_InvalidPromise ?xb_InvalidPromise ?xt_InvalidPromise ?xi_InvalidPromise ?xs_InvalidPromise
    (case a_law_bag => k_is)
    (case l_law_bag => k_is)
    (case c_law_bag => k_is)
    (case k_law_bag => k_is)
    (case a_law_draw => k_is)
    (case l_law_draw => k_is)
    (case c_law_draw => k_is)
    (case k_law_draw => k_is)
    (case a_is_integer => k_is)
    (case l_is_integer => k_is)
    (case c_is_integer => k_is)
    (case k_is_integer => k_is)
    (case a_is_integer_within => k_is)
    (case l_is_integer_within => k_is)
    (case c_is_integer_within => k_is)
    (case k_is_integer_within => k_is)
    (case a_is_name => k_is)
    (case l_is_name => k_is)
    (case c_is_name => k_is)
    (case k_is_name => k_is)
    (case a_are_lines => k_is)
    (case l_are_lines => k_is)
    (case c_are_lines => k_is)
    (case k_are_lines => k_is)
    (case a_is_promise => k_is)
    (case l_is_promise => k_is)
    (case c_is_promise => k_is)
    (case k_is_promise => k_is)
    (case a_require_promise => k_is)
    (case l_require_promise => k_is)
    (case c_require_promise => k_is)
    (case k_require_promise => k_is)
    (case a_names_in => k_is)
    (case l_names_in => k_is)
    (case c_names_in => k_is)
    (case k_names_in => k_is)
    (case a_names_of => k_is)
    (case l_names_of => k_is)
    (case c_names_of => k_is)
    (case k_names_of => k_is)
    (case a_law_one_of => k_is)
    (case l_law_one_of => k_is)
    (case c_law_one_of => k_is)
    (case k_law_one_of => k_is)
    (case a_law_odd => k_is)
    (case l_law_odd => k_is)
    (case c_law_odd => k_is)
    (case k_law_odd => k_is)
    (case a_law_spoiled => k_is)
    (case l_law_spoiled => k_is)
    (case c_law_spoiled => k_is)
    (case k_law_spoiled => k_is)
    (case a_law_is_named => k_is)
    (case l_law_is_named => k_is)
    (case c_law_is_named => k_is)
    (case k_law_is_named => k_is)
    (case a_law_is_number => k_is)
    (case l_law_is_number => k_is)
    (case c_law_is_number => k_is)
    (case k_law_is_number => k_is)
    (case a_law_are_lines => k_is)
    (case l_law_are_lines => k_is)
    (case c_law_are_lines => k_is)
    (case k_law_are_lines => k_is)
    (case a_law_is_told => k_is)
    (case l_law_is_told => k_is)
    (case c_law_is_told => k_is)
    (case k_law_is_told => k_is)
    (case a_law_name => k_is)
    (case l_law_name => k_is)
    (case c_law_name => k_is)
    (case k_law_name => k_is)
    (case a_law_any_promise => k_is)
    (case l_law_any_promise => k_is)
    (case c_law_any_promise => k_is)
    (case k_law_any_promise => k_is)
    (case a_law_is_right => k_is)
    (case l_law_is_right => k_is)
    (case c_law_is_right => k_is)
    (case k_law_is_right => k_is)
    (case a_law => k_is)
    (case l_law => k_is)
    (case c_law => k_is)
    (case k_law => k_is)
    (case zb_len => k_is)
    (case zb_sum => k_is)
    (case zb_int => k_is)
    (case zb_abs => k_is)
    (case zb_max => k_is)
    (case zb_isinstance => k_is)
    (case zb_bool => k_is)
    (case zb_str => k_is)
    (case zb_all => k_is)
    (case zb_tuple => k_is)
    (case zb_zip => k_is)
    (case zb_list => k_is)
    (case zb_sorted => k_is)
    (case zb_dict => k_is)
    (case zb_range => k_is)
    (case zb_repr => k_is)
    (case zb_min => k_is)
    (case zc_INTEGER_BOUND => k_is)
    (case zc_MAX_NAME => k_is)
    (case zc_NAME_LETTERS => k_is)
    (case zc_MOST_LINE => k_is)
    (case zc_WITHIN => k_is)
    (case zc_ALIKE => k_is)
    (case zc_ANSWERED => k_is)
    (case zc_MOST => k_is)
    (case zc_MOST_ANSWERS => k_is)
    (case zc_AHEAD => k_is)
    (case zc_MOST_AHEAD => k_is)
    (case zc_TOLD => k_is)
    (case xg_InvalidPromise => k_is)
    (case xx_InvalidPromise => k_exc)
    (case xk_InvalidPromise => k_is)
    (case xb_InvalidPromise => k_is)
    (case xt_InvalidPromise => k_is)
    (case xi_InvalidPromise => k_is)
    (case xs_InvalidPromise => k_is)

