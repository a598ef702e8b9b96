import PyProof.Rows.All
import Wide.All
import OpenK.AllK
import Wide.FinOn
import HandS.ForMost
import HandS.IsInst
import HandS.Zip
import HandS.TupAny
import HandS.Walk
import HandS.Conv
import HandS.Deep
import HandS.Codes
import KE.GoesEnum
import KE.OsArith
import PySem.Challenge.RW_lendbough_k29_worths_and_values
set_option Elab.async false
set_option linter.all false
set_option maxRecDepth 100000
set_option maxHeartbeats 4000000
/-! Our layer over HandS: callables by name, the persistent heap, the box. -/
namespace G48
open PySem PySem.Spec PyProof.Rows L2 SX

/-! ### callables by name -/
structure Dfn (K : PySem.W.Frag) (mg : Str → Option Value) (x : Str) (st : Stmt) : Prop where
  ex : ∃ f fd, Fun K x x st f fd ∧ mg x = some (.ref f)
structure Cal (P : Program) (w : World) (K : PySem.W.Frag) (mg : Str → Option Value) (base : Heap) (k : Nat) (x : Str) (sp : Sp) : Prop where
  ex : ∃ (f : Addr) (fd : FuncData) (ps : List Str), FnOk P w K mg base CX0 k f fd ps sp ∧ mg x = some (.ref f) ∧ PySem.W.keepIn K (.ref f) = true ∧ Binds K fd ps []
section
variable {P : Program} {w : World} {K : PySem.W.Frag} {mg : Str → Option Value} {base : Heap}
theorem cal_of {x : Str} {st : Stmt} {N ps : List Str} {k : Nat} {sp : Sp} (D : Dfn K mg x st) (S : FnScope N ps (defScope st))
    (hb : ∀ (kV doc pm : Value) (an : Option Addr) (cdv ct : Value) (us : List Value), us.length = ps.length → bindArgs (PySem.W.fnOf x x (defArgs st) (defBody st) (defScope st) .none kV doc pm an cdv ct) ⟨us, []⟩ = pure (ps.zip us))
    (len : ∀ vs H Q E, sp vs H Q E → vs.length = ps.length)
    (hbody : ∀ (f : Addr) (cdv : Value) (A : Around) (outer : List Env) (s : Shared) (H : Hp) (vs : List V) (Q : VK) (E : XK), Room k (A.deeper (envOfC x (defScope st) s.heap.objs.size f cdv)) → sp vs H Q E →
      ∃ t, PSs (cxOf CX0 P w K mg base N x (defScope st) f cdv A outer s H E).nox (defBody st) t ∧ t { nx := fun _ H' => Q .non H', rt := Q } (start N vs) H) : Cal P w K mg base (k + 1) x sp := by
  obtain ⟨f, fd, F, hm⟩ := D.ex
  exact ⟨f, fd, ps, F.ok S len (fun cdv A outer s H vs Q E hr h => hbody f cdv A outer s H vs Q E hr h), hm, F.kp, F.binds hb⟩
/-- the law itself -/
theorem okf_of {x : Str} {st : Stmt} {N ps : List Str} {k : Nat} {sp : Sp} {f : Addr} {fd : FuncData} (F : Fun K x x st f fd) (S : FnScope N ps (defScope st)) (len : ∀ vs H Q E, sp vs H Q E → vs.length = ps.length)
    (hbody : ∀ (cdv : Value) (A : Around) (outer : List Env) (s : Shared) (H : Hp) (vs : List V) (Q : VK) (E : XK), Room k (A.deeper (envOfC x (defScope st) s.heap.objs.size f cdv)) → sp vs H Q E →
      ∃ t, PSs (cxOf CX0 P w K mg base N x (defScope st) f cdv A outer s H E).nox (defBody st) t ∧ t { nx := fun _ H' => Q .non H', rt := Q } (start N vs) H) : FnOk P w K mg base CX0 (k + 1) f fd ps sp :=
  F.ok S len hbody
theorem dfn_mk {x : Str} {st : Stmt} {h : Heap} {f : Addr} {oc : Value} {od an : Option Addr} {osl : Array (Option Value)} {kV doc pm cdv ct : Value} (X : K.In h) (G : h.Ns mainGlobals mg) (a : PySem.W.nsIn K mainGlobals x = some (some (.ref f)))
    (l : K.lookup f = some ⟨oc, od, .func (PySem.W.fnOf x x (defArgs st) (defBody st) (defScope st) .none kV doc pm an cdv ct), osl⟩) (c : PySem.W.codeIn K cdv x = true) (k : PySem.W.keepIn K (.ref f) = true) : Dfn K mg x st :=
  ⟨f, _, fun_mk l c k, PySem.W.mg_of X G a⟩
/-- a def that calls itself: at level 0 nothing can be asked -/
theorem cal_zero {x : Str} {st : Stmt} {ps : List Str} {sp : Sp} (D : Dfn K mg x st)
    (hb : ∀ (kV doc pm : Value) (an : Option Addr) (cdv ct : Value) (us : List Value), us.length = ps.length → bindArgs (PySem.W.fnOf x x (defArgs st) (defBody st) (defScope st) .none kV doc pm an cdv ct) ⟨us, []⟩ = pure (ps.zip us))
    (no : ∀ vs H Q E, ¬ sp vs H Q E) : Cal P w K mg base 0 x sp := by
  obtain ⟨f, fd, F, hm⟩ := D.ex
  exact ⟨f, fd, ps, ⟨fun vs H Q E h => absurd h (no vs H Q E), fun A outer s H args us vs Q E _ _ _ _ h => absurd h (no vs H Q E)⟩, hm, F.kp, F.binds hb⟩
theorem Cal.mono {x : Str} {j k : Nat} {sp : Sp} (c : Cal P w K mg base j x sp) (h : j ≤ k) : Cal P w K mg base k x sp := by
  obtain ⟨f, fd, ps, F, r⟩ := c.ex
  exact ⟨f, fd, ps, F.mono h, r⟩
theorem Cal.imp {x : Str} {k : Nat} {sp sp' : Sp} (c : Cal P w K mg base k x sp) (h : ∀ vs H Q E, sp' vs H Q E → sp vs H Q E) : Cal P w K mg base k x sp' := by
  obtain ⟨f, fd, ps, F, r⟩ := c.ex
  exact ⟨f, fd, ps, F.imp h, r⟩
end
section
variable {X : Cx} {k j : Nat} {x : Str} {sp : Sp} {p pos : Pos} {e : Expr} {es : List Expr} {t : TA}
theorem pe_cc (c : Cal X.prog X.w X.K X.mg X.base k x sp) (hr : Room j X.A) (hk : k ≤ j) (hg : Gl X x) (ha : PA X (e :: es) t)
    (hdb : (x == ("__debug__" : Str)) = false := by decide) (he : starEach (e :: es) X.env = (false, eval e X.env) :: starEach es X.env := by rfl) (hpl : (backTo pos (starEach es X.env)).any (·.1) = false := by rfl) :
    PE X (.Call (.Name x p) (e :: es) [] pos) (tCall sp [] E0 t) := by
  obtain ⟨f, fd, ps, F, hm, kp, b⟩ := c.ex
  exact pe_call F (hr.mono hk) hg hm kp b .nil pass0 ha hdb he hpl
/-- a module's constant -/
def Gv (mg : Str → Option Value) (x : Str) (v : V) : Prop := ∃ u, mg x = some u ∧ RelV v u
theorem pe_gv {x : Str} {pos : Pos} {v : V} (hg : Gl X x) (h : Gv X.mg x v) (hdb : (x == ("__debug__" : Str)) = false := by decide) : PE X (.Name x pos) (tC v) := by
  obtain ⟨u, hm, r⟩ := h
  exact pe_glob hg hm r hdb
end
/-- the built-ins' names are free -/
structure Bt (mg : Str → Option Value) : Prop where
  len : mg "len" = none
  int : mg "int" = none
  str : mg "str" = none
  bool : mg "bool" = none
  tuple : mg "tuple" = none
  list : mg "list" = none
  all : mg "all" = none
  any : mg "any" = none
  isinstance : mg "isinstance" = none
  range : mg "range" = none
  zip : mg "zip" = none
  enumerate : mg "enumerate" = none
  sum : mg "sum" = none
  max : mg "max" = none
  min : mg "min" = none
  sorted : mg "sorted" = none

/-! ### rules that name the written part K itself (for the inside of comprehensions) -/
def rLenQ (K : PySem.W.Frag) : List V → Hp → VK → Prop := fun xs H Q => ∃ p ys, xs = [.ref p] ∧ (SqL K H p ys ∨ SqT K H p ys) ∧ Q (.int ys.length) H
def rLenA (K : PySem.W.Frag) : List V → Hp → VK → Prop := fun xs H Q => ∃ x n, xs = [x] ∧ LenV K x H n ∧ Q (.int n) H
def rListO (K : PySem.W.Frag) : List V → Hp → VK → Prop := fun xs H Q => ∃ p ys, xs = [.ref p] ∧ (SqL K H p ys ∨ SqT K H p ys) ∧ ∀ l, H l = none → Q (.ref l) (upd H l (.lst ys))
def rTupO (K : PySem.W.Frag) : List V → Hp → VK → Prop := fun xs H Q => ∃ p ys, xs = [.ref p] ∧ ((SqL K H p ys ∧ ∀ l, H l = none → Q (.ref l) (upd H l (.tup ys))) ∨ (SqT K H p ys ∧ Q (.ref p) H))
def rJoin (K : PySem.W.Frag) : V → List V → Hp → VK → Prop := fun x xs H Q => ∃ a p, ∃ ys : List Str, x = .str a ∧ xs = [.ref p] ∧ (SqL K H p (ys.map V.str) ∨ SqT K H p (ys.map V.str)) ∧ (ys.map (·.length)).sum + ys.length * a.length ≤ 16777216 ∧ Q (.str (Txt.join a ys)) H
section
variable {X : Cx} (K : PySem.W.Frag) (h : X.K = K)
include h
theorem k_ix_list : IxR X (rIxL K) := by subst h; exact ix_list
theorem k_ix_tup : IxR X (rIxT K) := by subst h; exact ix_tup
theorem k_ix_seq : IxR X (rIx K) := by subst h; exact ix_seq
theorem k_sl_list : SlR X (rSlL K) := by subst h; exact sl_list
theorem k_sl_tupA : SlR X (rSlA K) := by subst h; exact sl_tupA
theorem k_op_in_seq : OpR X (compareOp .In) (rIn K false) := by subst h; exact op_in_seq
theorem k_op_notIn_seq : OpR X (compareOp .NotIn) (rIn K true) := by subst h; exact op_notIn_seq
theorem k_op_catA : OpR X (binaryOp .Add) (rCatA K) := by subst h; exact op_catA
theorem k_op_eqD (hu : X.A.units + 64 < cLine) : OpR X (compareOp .Eq) (rEqD K) := by subst h; exact op_eqD hu
theorem k_op_neD (hu : X.A.units + 64 < cLine) : OpR X (compareOp .NotEq) (rNeD K) := by subst h; exact op_neD hu
theorem k_len_seq : CallR X (.builtin "len") (rLenQ K) := by subst h; exact call_len_seq
theorem k_len : CallR X (.builtin "len") (rLenA K) := by subst h; exact call_len
theorem k_list_of : CallR X (.type "list") (rListO K) := by subst h; exact call_list_of
theorem k_tuple_of : CallR X (.type "tuple") (rTupO K) := by subst h; exact call_tuple_of
theorem k_isi : CallR X (.builtin "isinstance") (rIsi K) := by subst h; exact call_isi
theorem k_all (hc : X.calm = true) : CallR X (.builtin "all") (rAll K) := by subst h; exact cr_all hc
theorem k_any (hc : X.calm = true) : CallR X (.builtin "any") (rAny K) := by subst h; exact cr_any hc
theorem k_sum (hc : X.calm = true) : CallR X (.builtin "sum") (rSum K) := by subst h; exact cr_sum hc
theorem k_max (hc : X.calm = true) : CallR X (.builtin "max") (rMax K) := by subst h; exact cr_max hc
end
section
variable {X : Cx} {o e : Expr} {es : List Expr} {to te : TE} {t : TA} {name : Str} {apos cpos : Pos} {T id : String} {r : V → List V → Hp → VK → Prop}
theorem k_bm0 (K : PySem.W.Frag) (h : X.K = K) (pa : PlainAttrs T) (slot : Slot T name id) (hty : typeOf (.builtin id) = pure (.type "method_descriptor")) (hm : MtR X id r) (ho : PE X o to)
    (hbase : attributeBase o name X.env (eval o X.env) = eval o X.env := by rfl) (hline : (apos.endLine == cpos.line) = true := by rfl) : PE X (.Call (.Attribute o name apos) [] [] cpos) (tBM0 K T r to) := by
  subst h
  exact pe_bm0 pa slot hty hm ho hbase hline
theorem k_join (K : PySem.W.Frag) (h : X.K = K) {pos : Pos} (ho : PE X o to) (he : PE X e te) (hs : starEach [e] X.env = [(false, eval e X.env)] := by rfl) (hbase : attributeBase o "join" X.env (eval o X.env) = eval o X.env := by rfl) (hline : (apos.endLine == pos.line) = true := by rfl) :
    PE X (.Call (.Attribute o "join" apos) [e] [] pos) (tM1 (rJoin K) to te) := by
  subst h
  exact pe_join ho he hs hbase hline
end
/-! ### heaps: a persistent part -/
theorem same_new {H : Hp} {p : Addr} {o : HO} (h : H p = none) : Same H (upd H p o) := fun b u q => by rw [upd_ne (ne_of_none q h)]; exact q
theorem same_t {K : PySem.W.Frag} {H H' : Hp} {a : Addr} {xs : List V} (e : Same H H') (h : SqT K H a xs) : SqT K H' a xs := by
  rcases h with (h | ⟨o, h⟩) | h
  · exact .inl (.inl (e _ _ h))
  · exact .inl (.inr ⟨o, e _ _ h⟩)
  · exact .inr h
theorem upd_mono {S H : Hp} {p : Addr} {o : HO} (h : Same S H) : Same (upd S p o) (upd H p o) := fun b u q => by
  by_cases e : b = p
  · subst e
    rw [upd_same] at q ⊢
    exact q
  · rw [upd_ne e] at q ⊢
    exact h _ _ q
structure Gr (M : List Addr) (S H S' H' : Hp) : Prop where
  ss : Same S S'
  kp : ∀ a o, a ∉ M → H a = some o → H' a = some o
  nw : ∀ a, H a ≠ none → S a = none → S' a = none
  tr : ∀ a, H a ≠ none → H' a ≠ none
theorem Gr.refl (M : List Addr) (S H : Hp) : Gr M S H S H := ⟨Same.refl _, fun _ _ _ h => h, fun _ _ h => h, fun _ h => h⟩
theorem Gr.trans {M : List Addr} {S H S1 H1 S2 H2 : Hp} (a : Gr M S H S1 H1) (b : Gr M S1 H1 S2 H2) : Gr M S H S2 H2 :=
  ⟨a.ss.trans b.ss, fun x o m h => b.kp x o m (a.kp x o m h), fun x h s => b.nw x (a.tr x h) (a.nw x h s), fun x h => b.tr x (a.tr x h)⟩
theorem some_ne {H : Hp} {a : Addr} {o : HO} (h : H a = some o) : H a ≠ none := by rw [h]; exact fun z => nomatch z
theorem ne_nn {H : Hp} {a p : Addr} (e : H a ≠ none) (h : H p = none) : a ≠ p := by
  intro z
  subst z
  exact e h
theorem Gr.of_same {M : List Addr} {S H H' : Hp} (h : Same H H') : Gr M S H S H' :=
  ⟨Same.refl _, fun a o _ e => h a o e, fun _ _ e => e, fun a e => by
    cases q : H a with
    | none => exact absurd q e
    | some o => exact some_ne (h a o q)⟩
theorem Gr.sub {M M' : List Addr} {S H S' H' : Hp} (g : Gr M S H S' H') (h : ∀ a ∈ M, a ∈ M') : Gr M' S H S' H' := ⟨g.ss, fun a o m e => g.kp a o (fun z => m (h a z)) e, g.nw, g.tr⟩
theorem Gr.same {S H S' H' : Hp} (g : Gr [] S H S' H') : Same H H' := fun a o e => g.kp a o (fun z => nomatch z) e
/-- a new object, known to last | not -/
theorem Gr.new {M : List Addr} {S0 H0 S H : Hp} {p : Addr} {o : HO} (g : Gr M S0 H0 S H) (sh : Same S H) (h : H p = none) : Gr M S0 H0 (upd S p o) (upd H p o) := by
  have hs : S p = none := sh.free h
  refine g.trans ⟨same_new hs, fun a u _ e => same_new h a u e, fun a e s => ?_, fun a e => ?_⟩
  · rw [upd_ne (ne_nn e h)]
    exact s
  · by_cases z : a = p
    · subst z
      rw [upd_same]
      exact fun z => nomatch z
    · rw [upd_ne z]
      exact e
theorem Gr.chg {M : List Addr} {S0 H0 S H : Hp} {p : Addr} {o : HO} (g : Gr M S0 H0 S H) (h : H0 p = none) : Gr M S0 H0 S (upd H p o) := by
  refine ⟨g.ss, fun a u m e => ?_, g.nw, fun a e => ?_⟩
  · rw [upd_ne (ne_of_none e h)]
    exact g.kp a u m e
  · rw [upd_ne (ne_nn e h)]
    exact g.tr a e
/-- a list of one's own is left as it is from now on -/
theorem Gr.keep {M : List Addr} {S0 H0 S H : Hp} {p : Addr} {o : HO} (g : Gr M S0 H0 S H) (h : H0 p = none) (hs : S p = none) : Gr M S0 H0 (upd S p o) H :=
  ⟨g.ss.trans (same_new hs), g.kp, fun a e s => by
    rw [upd_ne (ne_nn e h)]
    exact g.nw a e s, g.tr⟩
theorem Gr.fromNew {M : List Addr} {S H S' H' : Hp} {p : Addr} {o : HO} (h : H p = none) (g : Gr M S (upd H p o) S' H') : Gr M S H S' H' := ((Gr.refl M S H).chg h).trans g
theorem Gr.back {M : List Addr} {S H S' H' : Hp} {p : Addr} (g : Gr M S H S' H') (h : H' p = none) : H p = none := by
  cases q : H p with
  | none => rfl
  | some o => exact absurd h (g.tr p (some_ne q))

/-- a world: what is kept of the persistent part S and the heap H; M: what may be changed by whoever is called -/
structure Wld (M : List Addr) (Wr : Hp → Hp → Prop) : Prop where
  sh : ∀ {S H : Hp}, Wr S H → Same S H
  nm : ∀ {S H : Hp}, Wr S H → ∀ m ∈ M, S m = none ∧ H m ≠ none
  gr : ∀ {S H S' H' : Hp}, Wr S H → Gr [] S H S' H' → Same S' H' → Wr S' H'
  chg : ∀ {S H : Hp} {p : Addr} {o : HO}, Wr S H → S p = none → p ∉ M → Wr S (upd H p o)
  keep : ∀ {S H : Hp} {p : Addr} {o : HO}, Wr S H → S p = none → p ∉ M → H p = some o → Wr (upd S p o) H
section
variable {M : List Addr} {Wr : Hp → Hp → Prop} {S H S' H' S0 H0 : Hp} {p : Addr} {o : HO}
theorem Wld.same (A : Wld M Wr) (W : Wr S H) (h : Same H H') : Wr S H' := A.gr W (Gr.of_same h) ((A.sh W).trans h)
theorem Wld.new (A : Wld M Wr) (W : Wr S H) (h : H p = none) : Wr (upd S p o) (upd H p o) :=
  A.gr W ((Gr.refl [] S H).new (A.sh W) h) (upd_mono (A.sh W))
theorem Wld.fresh (A : Wld M Wr) (W : Wr S H) (h : H p = none) : p ∉ M := fun z => (A.nm W p z).2 h
theorem Wld.out (A : Wld M Wr) (W : Wr S H) (h : S p = some o) : p ∉ M := fun z => by rw [(A.nm W p z).1] at h; cases h
theorem keep_same (sh : Same S H) (e : H p = some o) : Same (upd S p o) H := fun a u z => by
  by_cases y : a = p
  · subst y
    rw [upd_same] at z
    rw [e]
    exact z
  · rw [upd_ne y] at z
    exact sh a u z
theorem mut_same (sh : Same S H) (h : S p = none) : Same S (upd H p o) := fun a u e => by
  rw [upd_ne (ne_of_none e h)]
  exact sh a u e
/-- nothing may be changed -/
theorem pureW : Wld [] Same where
  sh := fun h => h
  nm := fun _ m z => nomatch z
  gr := fun _ _ h => h
  chg := fun sh h _ => mut_same sh h
  keep := fun sh _ _ e => keep_same sh e
end
/-! ### the box of a law -/
structure Wd (b : Addr) (S H : Hp) : Prop where
  sh : Same S H
  nb : S b = none
  bx : ∃ (p : Addr) (ns : List Int) (i c m : Int), H b = some (.lst [.ref p, .int i, .int c, .int m]) ∧ S p = some (.lst (ns.map V.int)) ∧ ns.length ≤ 63 ∧ 0 ≤ i ∧ 0 ≤ c ∧ 0 ≤ m ∧ m < 2147483647
theorem Wd.bs {b : Addr} {S H : Hp} (W : Wd b S H) : H b ≠ none := by
  obtain ⟨p, ns, i, c, m, h, _⟩ := W.bx
  exact some_ne h
theorem boxW (b : Addr) : Wld [b] (Wd b) where
  sh := fun W => W.sh
  nm := fun W m z => by
    obtain rfl : m = b := by simpa using z
    exact ⟨W.nb, W.bs⟩
  gr := fun W g sh => by
    obtain ⟨q, ns, i, c, m, eb, hp, r⟩ := W.bx
    exact ⟨sh, g.nw b W.bs W.nb, q, ns, i, c, m, g.same _ _ eb, g.ss _ _ hp, r⟩
  chg := fun {S H p o} W h hb => by
    obtain ⟨q, ns, i, c, m, eb, hp, r⟩ := W.bx
    refine ⟨mut_same W.sh h, W.nb, q, ns, i, c, m, ?_, hp, r⟩
    rw [upd_ne (fun z => hb (by rw [z]; exact List.mem_singleton.mpr rfl))]
    exact eb
  keep := fun {S H p o} W h hb e => by
    obtain ⟨q, ns, i, c, m, eb, hp, r⟩ := W.bx
    refine ⟨keep_same W.sh e, ?_, q, ns, i, c, m, eb, same_new h _ _ hp, r⟩
    rw [upd_ne (fun z => hb (by rw [z]; exact List.mem_singleton.mpr rfl))]
    exact W.nb

theorem iteNN {c A B : Prop} [Decidable c] (hc : ¬ c) (h : B) : if (decide c) = true then A else B := by
  rw [decide_eq_false hc]
  exact iteF h
/-- a test whose answer is told by another Bool; a value told otherwise -/
theorem iteC {b c : Bool} {A B : Prop} (e : b = c) (h1 : c = true → A) (h2 : c = false → B) : if b = true then A else B := by
  subst e
  cases b with
  | true => exact iteT (h1 rfl)
  | false => exact iteF (h2 rfl)
theorem vq {Q : V → Hp → Prop} {H : Hp} {v u : V} (e : v = u) (h : Q u H) : Q v H := by rw [e]; exact h
theorem map_take_succ {α β : Type} {l : List α} {f : α → β} {i : Nat} {c : α} (h : l[i]? = some c) : (l.take (i + 1)).map f = (l.take i).map f ++ [f c] := by
  rw [List.take_add_one, h, List.map_append]
  rfl
theorem dT {p : Prop} [Decidable p] (h : decide p = true) : p := of_decide_eq_true h
theorem dF {p : Prop} [Decidable p] (h : ¬ decide p = true) : ¬ p := of_decide_eq_false (Bool.eq_false_iff.mpr h)
theorem Gr.sqL {K : PySem.W.Frag} {M : List Addr} {S H S' H' : Hp} {a : Addr} {xs : List V} (g : Gr M S H S' H') (n : a ∉ M) (h : SqL K H a xs) : SqL K H' a xs := by
  rcases h with (h | ⟨o, h⟩) | h
  · exact .inl (.inl (g.kp _ _ n h))
  · exact .inl (.inr ⟨o, g.kp _ _ n h⟩)
  · exact .inr h
theorem walk_r0 {n : Nat} : Walk (Itr 0 n) n (fun _ => True) (fun i H x H' => H' = H ∧ x = .int ((i : Nat) : Int)) :=
  walk_range.mono (fun _ h => h) (fun i H x H' _ _ h => ⟨h.1, by rw [h.2]; exact congrArg V.int (Int.zero_add _)⟩)
theorem walk_zipT {K : PySem.W.Frag} {a b : Addr} {xs ys : List V} {n : Nat} (hn : n = min xs.length ys.length) : Walk (RZ.ItzT K a b) n (fun H => SqT K H a xs ∧ SqT K H b ys) (YPair (fun i => xs[i]?) (fun i => ys[i]?)) := by
  subst hn
  refine ⟨fun i _ hi q => ?_, fun _ q => ⟨xs, ys, q.1, q.2, by omega⟩, fun i H v H' _ q y => ?_⟩
  · have h1 : i < xs.length := by omega
    have h2 : i < ys.length := by omega
    exact ⟨xs, ys, xs[i], ys[i], q.1, q.2, by simp [h1], by simp [h2]⟩
  · obtain ⟨T, x, z, h1, h2, h3, h4, h5⟩ := y
    exact ⟨T, x, z, h1, h2, h3, h4 xs q.1, h5 ys q.2⟩
theorem sz (n : Nat) (h : n ≤ 100000) : n ≤ sizeLine := Nat.le_trans h (by decide)
theorem szl (n : Nat) (h : n ≤ 100000) : n < sizeLine := Nat.lt_of_le_of_lt h (by decide)

/-! ### comprehensions in a world -/
def Lc (M : List Addr) (Wr : Hp → Hp → Prop) (S H : Hp) (D : Addr) (I : Nat → List V → Hp → Prop) (i : Nat) (H' : Hp) : Prop :=
  ∃ S' acc, Gr M S H S' H' ∧ Wr S' H' ∧ S' D = none ∧ H' D = some (.lst acc) ∧ acc.length ≤ i ∧ I i acc S'
section
variable {M : List Addr} {Wr : Hp → Hp → Prop} {S H S1 H1 S4 H4 : Hp} {D : Addr} {I : Nat → List V → Hp → Prop} {i : Nat} {acc : List V} {y : V}
theorem lc_start (A : Wld M Wr) (W : Wr S H) (hD : H D = none) (h0 : I 0 [] S) : Lc M Wr S H D I 0 (upd H D (.lst [])) :=
  ⟨S, [], (Gr.refl M S H).chg hD, A.chg W ((A.sh W).free hD) (A.fresh W hD), (A.sh W).free hD, upd_same, Nat.le_refl _, h0⟩
theorem lc_put (A : Wld M Wr) (W : Wr S H) (hD : H D = none) (g1 : Gr M S H S1 H1) (s1 : S1 D = none) (e1 : H1 D = some (.lst acc)) (l1 : acc.length ≤ i) (hi : i ≤ 100000) (g : Gr M S1 H1 S4 H4) (W4 : Wr S4 H4) (h : I (i + 1) (acc ++ [y]) S4) :
    ∃ a, H4 D = some (.lst a) ∧ a.length < sizeLine ∧ Lc M Wr S H D I (i + 1) (upd H4 D (.lst (a ++ [y]))) := by
  have nM := A.fresh W hD
  have s4 : S4 D = none := g.nw D (some_ne e1) s1
  refine ⟨acc, g.kp D _ nM e1, szl _ (by omega), S4, acc ++ [y], (g1.trans g).chg hD, A.chg W4 s4 nM, s4, upd_same, ?_, h⟩
  rw [List.length_append]
  show acc.length + 1 ≤ i + 1
  omega
theorem lc_skip (A : Wld M Wr) (W : Wr S H) (hD : H D = none) (g1 : Gr M S H S1 H1) (s1 : S1 D = none) (e1 : H1 D = some (.lst acc)) (l1 : acc.length ≤ i) (g : Gr M S1 H1 S4 H4) (W4 : Wr S4 H4) (h : I (i + 1) acc S4) : Lc M Wr S H D I (i + 1) H4 :=
  ⟨S4, acc, g1.trans g, W4, g.nw D (some_ne e1) s1, g.kp D _ (A.fresh W hD) e1, by omega, h⟩
end

/-- what a turn of a comprehension may end with -/
def Put (M : List Addr) (Wr : Hp → Hp → Prop) (S H : Hp) (D : Addr) (I : Nat → List V → Hp → Prop) (i : Nat) (y : V) (H4 : Hp) : Prop :=
  ∃ a, H4 D = some (.lst a) ∧ a.length < sizeLine ∧ Lc M Wr S H D I (i + 1) (upd H4 D (.lst (a ++ [y])))
theorem lcw {M : List Addr} {Wr : Hp → Hp → Prop} {S H : Hp} {D : Addr} {J : It} {n : Nat} {G : Hp → Prop} {Y : Nat → Hp → V → Hp → Prop} {g : TG} {tt : TT} {te : TE} {vs : List Nat} {σ : L2.St} {Qd : Hp → Prop}
    (A : Wld M Wr) (W : Wr S H) (hD : H D = none) (w : Walk J n G Y) (I : Nat → List V → Hp → Prop) (h0 : I 0 [] S) (hn : n ≤ 100000) (hG : ∀ S' H', Gr M S H S' H' → Wr S' H' → G H')
    (hs : ∀ (i : Nat) (x : V) (S1 H1 H1' : Hp) (acc : List V), i < n → Gr M S H S1 H1 → Wr S1 H1 → S1 D = none → H1 D = some (.lst acc) → I i acc S1 → Y i H1 x H1' →
      (∀ {S4 H4 : Hp} {y : V}, Gr M S1 H1 S4 H4 → Wr S4 H4 → I (i + 1) (acc ++ [y]) S4 → Put M Wr S H D I i y H4) →
      (∀ {S4 H4 : Hp}, Gr M S1 H1 S4 H4 → Wr S4 H4 → I (i + 1) acc S4 → Lc M Wr S H D I (i + 1) H4) →
      g x (wipe σ vs) H1' fun σ2 H2 => wipe σ2 vs = wipe σ vs ∧ tt σ2 H2 fun b H3 => if b = true then te σ2 H3 fun y H4 => Put M Wr S H D I i y H4 else Lc M Wr S H D I (i + 1) H3)
    (hd : ∀ (S' H' : Hp) (acc : List V), Gr M S H S' H' → Wr S' H' → S' D = none → H' D = some (.lst acc) → acc.length ≤ n → I n acc S' → Qd H') :
    ∃ W : Nat → Nat → Hp → Prop, (∃ m, W 0 m (upd H D (.lst []))) ∧ ∀ i m H, W i m H →
      (J.stop i H ∧ Qd H) ∨ (J.go i H ∧ ∃ Nx : Hp → Prop, (∀ H', Nx H' → ∃ m', m' < m ∧ W (i + 1) m' H') ∧ ∀ x H', J.yld i H x H' → g x (wipe σ vs) H' fun σ2 H2 => wipe σ2 vs = wipe σ vs ∧ tt σ2 H2 fun b H3 =>
        if b = true then te σ2 H3 fun y H4 => ∃ acc, H4 D = some (.lst acc) ∧ acc.length < sizeLine ∧ Nx (upd H4 D (.lst (acc ++ [y]))) else Nx H3) :=
  lc_it w (Lc M Wr S H D I) (lc_start A W hD h0) (fun i H' _ hp => by
      obtain ⟨S1, acc, g1, W1, _⟩ := hp
      exact hG S1 H' g1 W1)
    (fun i x H1 H1' hi hp hy => by
      obtain ⟨S1, acc, g1, W1, s1, e1, l1, h1⟩ := hp
      exact hs i x S1 H1 H1' acc hi g1 W1 s1 e1 h1 hy (fun g W4 h => lc_put A W hD g1 s1 e1 l1 (by omega) g W4 h) (fun g W4 h => lc_skip A W hD g1 s1 e1 l1 g W4 h))
    (fun H1 hp => by
      obtain ⟨S1, acc, g1, W1, s1, e1, l1, h1⟩ := hp
      exact hd S1 H1 acc g1 W1 s1 e1 l1 h1)

/-- a for loop in a world -/
def Fw (M : List Addr) (Wr : Hp → Hp → Prop) (S H : Hp) (I : Nat → L2.St → Hp → Hp → Prop) (i : Nat) (σ : L2.St) (H' : Hp) : Prop := ∃ S', Gr M S H S' H' ∧ Wr S' H' ∧ I i σ S' H'
theorem forw {M : List Addr} {Wr : Hp → Hp → Prop} {S H : Hp} {J : It} {n : Nat} {G : Hp → Prop} {Y : Nat → Hp → V → Hp → Prop} {g : TG} {tb : TS} {D : Ends} {σ : L2.St}
    (W : Wr S H) (w : Walk J n G Y) (I : Nat → L2.St → Hp → Hp → Prop) (h0 : I 0 σ S H) (hG : ∀ S' H' i σ', Gr M S H S' H' → Wr S' H' → I i σ' S' H' → G H')
    (hs : ∀ (i : Nat) (x : V) (σ' : L2.St) (S1 H1 H1' : Hp), i < n → Gr M S H S1 H1 → Wr S1 H1 → I i σ' S1 H1 → Y i H1 x H1' →
      g x σ' H1' fun σ2 H2 => tb { D with nx := Fw M Wr S H I (i + 1), ct := Fw M Wr S H I (i + 1), bk := D.nx } σ2 H2)
    (hd : ∀ (σ' : L2.St) (S' H' : Hp), Gr M S H S' H' → Wr S' H' → I n σ' S' H' → D.nx σ' H') :
    ∃ W : Nat → Nat → L2.St → Hp → Prop, (∃ m, W 0 m σ H) ∧ ∀ i m σ H, W i m σ H →
      (J.stop i H ∧ D.nx σ H) ∨ (J.go i H ∧ ∃ N : L2.St → Hp → Prop, (∀ σ' H', N σ' H' → ∃ m', m' < m ∧ W (i + 1) m' σ' H') ∧ ∀ x H', J.yld i H x H' → g x σ H' fun σ2 H2 => tb { D with nx := N, ct := N, bk := D.nx } σ2 H2) :=
  for_it w (Fw M Wr S H I) ⟨S, Gr.refl _ _ _, W, h0⟩ (fun i σ' H' _ hp => by
      obtain ⟨S1, g1, W1, h1⟩ := hp
      exact hG S1 H' i σ' g1 W1 h1)
    (fun i x σ' H1 H1' hi hp hy => by
      obtain ⟨S1, g1, W1, h1⟩ := hp
      exact hs i x σ' S1 H1 H1' hi g1 W1 h1 hy)
    (fun σ' H' hp => by
      obtain ⟨S1, g1, W1, h1⟩ := hp
      exact hd σ' S1 H' g1 W1 h1)

/-! ### data in the persistent part -/
mutual
inductive Rp (S : Hp) : V → PyData → Prop
  | non : Rp S .non .none
  | bl (b : Bool) : Rp S (.bl b) (.bool b)
  | int (i : Int) : Rp S (.int i) (.int i)
  | str (x : Str) : Rp S (.str x) (.str x)
  | lst {a : Addr} {xs : List V} {ds : List PyData} : S a = some (.lst xs) → RpL S xs ds → Rp S (.ref a) (.list ds)
  | tup {a : Addr} {xs : List V} {ds : List PyData} : S a = some (.tup xs) → RpL S xs ds → Rp S (.ref a) (.tuple ds)
inductive RpL (S : Hp) : List V → List PyData → Prop
  | nil : RpL S [] []
  | cons {v : V} {vs : List V} {d : PyData} {ds : List PyData} : Rp S v d → RpL S vs ds → RpL S (v :: vs) (d :: ds)
end
mutual
theorem Rp.mono {S S' : Hp} (e : Same S S') : ∀ (d : PyData) (v : V), Rp S v d → Rp S' v d
  | .none, _, h => by cases h; exact .non
  | .bool b, _, h => by cases h; exact .bl b
  | .int i, _, h => by cases h; exact .int i
  | .str x, _, h => by cases h; exact .str x
  | .list ds, _, h => by
    cases h with
    | lst h1 h2 => exact .lst (e _ _ h1) (RpL.mono e ds _ h2)
  | .tuple ds, _, h => by
    cases h with
    | tup h1 h2 => exact .tup (e _ _ h1) (RpL.mono e ds _ h2)
  | .dict _, _, h => by cases h
theorem RpL.mono {S S' : Hp} (e : Same S S') : ∀ (ds : List PyData) (vs : List V), RpL S vs ds → RpL S' vs ds
  | [], _, h => by cases h; exact .nil
  | d :: ds, _, h => by
    cases h with
    | cons h1 h2 => exact .cons (Rp.mono e d _ h1) (RpL.mono e ds _ h2)
end
mutual
theorem Rp.dp {K : PySem.W.Frag} {S : Hp} : ∀ (d : PyData) (v : V), Rp S v d → Dp K S v d
  | .none, _, h => by cases h; exact .non
  | .bool b, _, h => by cases h; exact .bl b
  | .int i, _, h => by cases h; exact .int i
  | .str x, _, h => by cases h; exact .str x
  | .list ds, _, h => by
    cases h with
    | lst h1 h2 => exact .lst (SqL.of h1) (RpL.dp ds _ h2)
  | .tuple ds, _, h => by
    cases h with
    | tup h1 h2 => exact .tup (SqT.of h1) (RpL.dp ds _ h2)
  | .dict _, _, h => by cases h
theorem RpL.dp {K : PySem.W.Frag} {S : Hp} : ∀ (ds : List PyData) (vs : List V), RpL S vs ds → DpAll K S vs ds
  | [], _, h => by cases h; exact .nil
  | d :: ds, _, h => by
    cases h with
    | cons h1 h2 => exact .cons (Rp.dp d _ h1) (RpL.dp ds _ h2)
end
theorem RpL.len {S : Hp} : ∀ {ds : List PyData} {vs : List V}, RpL S vs ds → vs.length = ds.length
  | [], _, h => by cases h; rfl
  | d :: ds, _, h => by
    cases h with
    | cons h1 h2 => exact congrArg (· + 1) (RpL.len h2)
theorem RpL.get {S : Hp} : ∀ {ds : List PyData} {vs : List V} {i : Nat} {v : V}, RpL S vs ds → vs[i]? = some v → ∃ d, ds[i]? = some d ∧ Rp S v d
  | [], _, i, v, h, e => by cases h; simp at e
  | d :: ds, _, 0, v, h, e => by
    cases h with
    | cons h1 h2 =>
      have e' := Option.some.inj e
      subst e'
      exact ⟨d, rfl, h1⟩
  | d :: ds, _, i + 1, v, h, e => by
    cases h with
    | cons h1 h2 => exact RpL.get (i := i) h2 e
theorem RpL.getD {S : Hp} : ∀ {ds : List PyData} {vs : List V} {i : Nat} {d : PyData}, RpL S vs ds → ds[i]? = some d → ∃ v, vs[i]? = some v ∧ Rp S v d
  | [], _, i, v, h, e => by simp at e
  | d :: ds, _, 0, v, h, e => by
    cases h with
    | cons h1 h2 =>
      have e' := Option.some.inj e
      subst e'
      exact ⟨_, rfl, h1⟩
  | d :: ds, _, i + 1, v, h, e => by
    cases h with
    | cons h1 h2 => exact RpL.getD (i := i) h2 e
theorem RpL.snoc {S : Hp} {v : V} {d : PyData} (h : Rp S v d) : ∀ {ds : List PyData} {vs : List V}, RpL S vs ds → RpL S (vs ++ [v]) (ds ++ [d])
  | [], _, q => by cases q; exact .cons h .nil
  | e :: ds, _, q => by
    cases q with
    | cons h1 h2 => exact .cons h1 (RpL.snoc h h2)
mutual
def dep : PyData → Nat
  | .list ds => depL ds + 1
  | .tuple ds => depL ds + 1
  | _ => 0
def depL : List PyData → Nat
  | [] => 0
  | d :: ds => max (dep d) (depL ds)
end
mutual
/-- data of depth at most n, its lists short -/
def fits : PyData → Nat → Bool
  | .list ds, n => decide (1 ≤ n) && decide (ds.length ≤ 10000) && fitsL ds (n - 1)
  | .tuple ds, n => decide (1 ≤ n) && decide (ds.length ≤ 10000) && fitsL ds (n - 1)
  | .dict _, _ => false
  | _, _ => true
def fitsL : List PyData → Nat → Bool
  | [], _ => true
  | d :: ds, n => fits d n && fitsL ds n
end
theorem fitsL_get : ∀ {ds : List PyData} {n i : Nat} {d : PyData}, fitsL ds n = true → ds[i]? = some d → fits d n = true
  | [], n, i, d, _, h => by simp at h
  | e :: ds, n, 0, d, f, h => by
    have := Option.some.inj h
    subst this
    unfold fitsL at f
    exact (Bool.and_eq_true_iff.mp f).1
  | e :: ds, n, i + 1, d, f, h => by
    unfold fitsL at f
    exact fitsL_get (i := i) (Bool.and_eq_true_iff.mp f).2 h
theorem depL_get : ∀ {ds : List PyData} {i : Nat} {d : PyData}, ds[i]? = some d → dep d ≤ depL ds
  | [], i, d, h => by simp at h
  | e :: ds, 0, d, h => by
    have := Option.some.inj h
    subst this
    unfold depL
    exact Nat.le_max_left _ _
  | e :: ds, i + 1, d, h => by
    unfold depL
    exact Nat.le_trans (depL_get (i := i) h) (Nat.le_max_right _ _)
def sp_law (K : PySem.W.Frag) : Sp := fun vs H Q _ => ∃ (a : Addr) (ns : List Int), vs = [.ref a] ∧ SqL K H a (ns.map V.int) ∧ ns.length ≤ 63 ∧ ∀ H', Q (.bl true) H'
end G48

namespace G48
open PySem PySem.Spec PyProof.Rows L2 SX
def topS (i : Nat) : Stmt := PySem.Challenge.pw_lendbough_k29_worths_and_values.main.body.getD i (.Pass ⟨0, 0, 0, 0⟩)
--USES
/-! enumerate of a tuple -/
theorem meets_enumerate_new1 {v : Value} {o : Obj} {Hh : Heap → Prop} (B : Begins v o Hh) :
    Meets (Builtin.«enumerate.__new__» ⟨[.type "enumerate", v], []⟩) (fun _ R s => Hh s.heap ∧
      R (.ok (.ret (.ref (s.heap.push o).objs.size))) { s with heap := (s.heap.push o).push { cls := .type "enumerate", data := .fields #[.none, .bool false, .ref s.heap.objs.size, rawInt 0, .none, .none] } }) :=
  .of_wp fun prog w A R s h => by
    obtain ⟨hp, g, d, tk, os⟩ := s; obtain ⟨h1, h⟩ := h
    have hsub := sub_enumerate
    have q1 : ∀ {A' : Around} {E : Value → Shared → Prop} {Q : Value → Shared → Prop}, Q (.ref hp.objs.size) ⟨hp.push o, g, d, tk, os⟩ → wpAny (model prog w) A' (pyIter v) Q E ⟨hp, g, d, tk, os⟩ :=
      fun q => B.iter prog w _ _ ⟨hp, g, d, tk, os⟩ _ h1 q
    wp_walk using q1
    refine wpAny_stack_any fun st => wpAny_pure ?_
    split
    · rename_i c _ _ _ _ _
      cases (c == Value.type "enumerate")
      · wp_walk using q1
        exact ⟨_, rfl, h⟩
      · wp_walk using q1
        exact ⟨_, rfl, h⟩
    · wp_walk using q1
      exact ⟨_, rfl, h⟩
theorem enum_begins1 {prog : Program} {w : World} {A : Around} {E : Value → Shared → Prop} {s : Shared} {v : Value} {o : Obj} {Hh : Heap → Prop} {Q : Value → Shared → Prop} (B : Begins v o Hh) (h1 : Hh s.heap)
    (h : ∀ h', IsEnum h' (s.heap.objs.size + 1) s.heap.objs.size 0 .none → h'.get? s.heap.objs.size = some o → h'.objs.size = s.heap.objs.size + 2 →
      (∀ b o, s.heap.get? b = some o → h'.get? b = some o) → Q (.ref (s.heap.objs.size + 1)) { s with heap := h' }) :
    wpAny (model prog w) A (call (.type "enumerate") [v]) Q E s := by
  refine callType_new F.called_enumerate (by decide) (F.typeCall_enumerate_1 _) (F.newCall_enumerate_1 _) (fun obj => F.args_object_init_2 obj _) F.entry_enumerate_new (meets_enumerate_new1 B) ⟨h1, ?_⟩
  have hz : (s.heap.push o).objs.size = s.heap.objs.size + 1 := Heap.size_push ..
  show _ ∧ _
  rw [hz]
  have he : IsEnum ((s.heap.push o).push { cls := .type "enumerate", data := .fields #[.none, .bool false, .ref s.heap.objs.size, rawInt 0, .none, .none] }) (s.heap.objs.size + 1) s.heap.objs.size 0 .none := by
    have := Heap.get?_push_size (s.heap.push o) (o := { cls := .type "enumerate", data := .fields #[.none, .bool false, .ref s.heap.objs.size, rawInt 0, .none, .none] }) rfl
    rw [hz] at this; exact this
  refine ⟨⟨_, he, rfl⟩, h _ he (Heap.get?_push_of_some _ (Heap.get?_push_size _ B.free)) (by rw [Heap.size_push, hz]) fun b o x => Heap.get?_push_of_some _ (Heap.get?_push_of_some _ x)⟩
/-- the tuple at a, each item in a new pair -/
def IteT (K : PySem.W.Frag) (a : Addr) : It :=
  ⟨fun i H => ∃ (xs : List V) (x : V), SqT K H a xs ∧ xs[i]? = some x, fun i H v H' => ∃ T x, v = .ref T ∧ H T = none ∧ H' = upd H T (.tup [.int (i : Nat), x]) ∧ ∀ xs, SqT K H a xs → xs[i]? = some x, fun i H => ∃ xs : List V, SqT K H a xs ∧ xs.length = i⟩
theorem turn_enumT {P : Program} {w : World} {K : PySem.W.Frag} {elts : List Expr} {kk : Nat} {tpos : Pos} (a e it : Addr) :
    Turn P w K (.Tuple elts kk tpos) (IteT K a) [e, it] e (fun i h => (∃ old, IsEnum h e it ((i : Nat) : Int) old) ∧ h.IsTupleIter it a i ∧ e ≠ it ∧ a ≠ it ∧ e ≠ a) where
  mem := by simp
  obj := fun i h st b hb => by
    obtain ⟨⟨old, he⟩, ⟨o, ho, hc, hd⟩, _⟩ := st
    have e' : b = e ∨ b = it := by simpa using hb
    rcases e' with z | z
    · rw [z]; exact ⟨_, he, fun v q => nomatch q⟩
    · rw [z]; exact ⟨o, ho, fun v q => by rw [hd] at q; cases q⟩
  keep := fun i h h' st k => let ⟨⟨old, he⟩, hi, hne⟩ := st; ⟨⟨old, k e (by simp) _ he⟩, hi.at fun o q => k it (by simp) o q, hne⟩
  item := by
    intro X hP hw hK hc i pins s σ H E I hf st hg
    subst hP hw hK
    obtain ⟨⟨old, he⟩, hit, hne, hai, hea⟩ := st
    obtain ⟨xs, x, hq, hx⟩ := hg
    obtain ⟨its, rv, p, hz⟩ := I.tuple hq
    obtain ⟨u, hu, ru⟩ := rv.get hx
    have hel : e < s.heap.objs.size := Heap.lt_size he
    have hil : it < s.heap.objs.size := by obtain ⟨_, q, _⟩ := hit; exact Heap.lt_size q
    have hlt : i < its.toArray.size := by
      have := (List.getElem?_eq_some_iff.mp hu).1
      simpa using this
    refine wpAny_pyNext_enum_itemD (Draws.tuple (show X.A.in1.handled = none from I.ok.hd hc) it a hai its.toArray) he ⟨hit, p⟩ hlt hne (by simp; exact ⟨hne, hea⟩) fun x' h' tk hx' ho st' hT hsz hk => ?_
    have ex : x' = u := by
      have q1 : its.toArray[i]? = some x' := hx'
      rw [List.getElem?_toArray, hu] at q1
      exact (Option.some.inj q1).symm
    subst ex
    refine ⟨_, rfl, wpAny_letOwnedTupleGo_enum (s := { s with heap := h', toks := tk + 1 }) ho fun h'' he' sb => ?_⟩
    have hT2 : h''.get? s.heap.objs.size = some { cls := .type "tuple", data := .seq #[.int i tk, x'] } := (sb.2 _ (Nat.ne_of_gt hel)).trans hT
    have new : ObjOk X.prog X.w (upd H s.heap.objs.size (.tup [.int (i : Nat), x])) h'' s.heap.objs.size (.tup [.int (i : Nat), x]) :=
      ⟨by show 2 ≤ sizeLine; decide, [.int i tk, x'], .cons ⟨_, rfl⟩ (.cons ru .nil), ⟨_, hT2, rfl, _, rfl⟩⟩
    have I1 : Inv X pins σ (upd H s.heap.objs.size (.tup [.int (i : Nat), x])) { s with heap := h'', toks := tk + 1 } :=
      I.turnedNew (ch := [e, it]) (fun b ob hb q => (sb.2 b (fun z => hb (by simp [z]))).trans (hk b ob (fun z => hb (by simp [z])) (fun z => hb (by simp [z])) q)) hf (Nat.le_refl _) new
    refine ⟨.ref s.heap.objs.size, _, I1, rfl, ⟨_, x, rfl, I.hok.fresh (Nat.le_refl _), rfl, fun ys hy => by rw [I.tuple_inj hy hq]; exact hx⟩, ⟨⟨x', ?_⟩, st'.1.at fun o q => (sb.2 it (Ne.symm hne)).trans q, hne, hai, hea⟩, fun b hb => ?_⟩
    · have e1 : ((i + 1 : Nat) : Int) = (i : Int) + 1 := by omega
      rw [e1]; exact he'
    · have hb' : b < s.heap.objs.size := by
        have e' : b = e ∨ b = it := by simpa using hb
        rcases e' with z | z
        · rw [z]; exact hel
        · rw [z]; exact hil
      rw [upd_ne (Nat.ne_of_lt hb')]
      exact (hf b hb).1
  done := by
    intro X hP hw hK hc i pins s σ H E I hf st hg
    subst hP hw hK
    obtain ⟨⟨old, he⟩, hit, hne, hai, hea⟩ := st
    obtain ⟨xs, hq, hx⟩ := hg
    obtain ⟨its, rv, p, hz⟩ := I.tuple hq
    obtain ⟨f0, f1, f2, f3, f4, f5⟩ := hf it (by simp)
    have hl := rv.length
    have en : its.toArray.size = i := by simp; omega
    have hD := Draws.tuple (prog := X.prog) (w := X.w) (show X.A.in1.handled = none from I.ok.hd hc) it a hai its.toArray
    rw [en] at hD
    exact wpAny_pyNext_enum_endD hD he ⟨hit, p⟩ fun h' eb => ⟨rfl, I.turned (t' := s.toks) (fun b o hb q => eb b o hb q) f0 f1 f3 f4 f5⟩
  self := fun A i s Q E st h => let ⟨⟨_, he⟩, _⟩ := st; wpAny_pyIter_enum he h
def iEnumT (K : PySem.W.Frag) (ta : TA) : TI := fun σ H R => ta σ H fun vs H1 => ∃ a xs, vs = [.ref a] ∧ SqT K H1 a xs ∧ R (IteT K a) H1
theorem pi_enumT {X : Cx} {e : Expr} {ta : TA} {p pos tpos : Pos} {elts : List Expr} {kk : Nat} (hg : Gl X "enumerate") (hm : X.mg "enumerate" = none) (ha : PA X [e] ta) (hs : starEach [e] X.env = [(false, eval e X.env)] := by rfl) :
    PI X (.Tuple elts kk tpos) (.Call (.Name "enumerate" p) [e] [] pos) (iEnumT X.K ta) := by
  refine ⟨fun pins s σ H R I h => ?_⟩
  refine Call_ (ld_blt I hg hm boot_enumerate (PyProof.Rows.callWith_type1 (thn (ha.run pos pins s σ H _ I h) fun us s1 ⟨vs, H1, I1, r1, q1⟩ => ?_) hs rfl))
  obtain ⟨a, xs, ex, hq, q⟩ := q1
  subst ex
  cases r1 with
  | cons r rr =>
    cases rr
    cases r
    obtain ⟨its, rv, p', hz⟩ := I1.tuple hq
    have hal : a < s1.heap.objs.size := by obtain ⟨o, ho, _⟩ := p'; exact Heap.lt_size ho
    refine enum_begins1 (begins_tuple a its.toArray) p' fun h' he hit hsz hk => wpAny_pyIter_enum he ?_
    have I2 : Inv X pins σ H1 { s1 with heap := h' } := I1.kept (t' := s1.toks) hk
    refine ⟨s1.heap.objs.size + 1, [s1.heap.objs.size + 1, s1.heap.objs.size], _, _, H1, rfl, I2, turn_enumT a (s1.heap.objs.size + 1) s1.heap.objs.size, ⟨⟨.none, he⟩, ⟨_, hit, rfl, rfl⟩, Nat.succ_ne_self _, Nat.ne_of_lt hal, Nat.ne_of_gt (Nat.lt_succ_of_lt hal)⟩, fun b hb => ?_, q⟩
    have e' : b = s1.heap.objs.size + 1 ∨ b = s1.heap.objs.size := by simpa using hb
    have hle : s1.heap.objs.size ≤ b := by
      rcases e' with z | z
      · rw [z]; exact Nat.le_add_right _ _
      · rw [z]; exact Nat.le_refl _
    exact I1.fpOk hle (I1.hok.fresh hle)
theorem walk_enumT {K : PySem.W.Frag} {a : Addr} {xs : List V} : Walk (IteT K a) xs.length (fun H => SqT K H a xs) (YPair (fun i => some (.int (i : Nat))) (fun i => xs[i]?)) := by
  refine ⟨fun i _ hi q => ⟨xs, xs[i], q, by simp [hi]⟩, fun _ q => ⟨xs, q, rfl⟩, fun i H v H' _ q y => ?_⟩
  obtain ⟨T, x, h1, h2, h3, h4⟩ := y
  exact ⟨T, .int (i : Nat), x, h1, h2, h3, rfl, h4 xs q⟩

--USES enumT
abbrev s_count_worths : Stmt := topS 2
abbrev N_count_worths : List Str := ["states"]
theorem sc_count_worths : FnScope N_count_worths ["states"] (defScope s_count_worths) := ⟨rfl, rfl, rfl, by decide +kernel, rfl, by decide +kernel, by decide +kernel⟩

abbrev s_states_of : Stmt := topS 3
abbrev N_states_of : List Str := ["worth", "state", "bit"]
theorem sc_states_of : FnScope N_states_of ["worth"] (defScope s_states_of) := ⟨rfl, rfl, rfl, by decide +kernel, rfl, by decide +kernel, by decide +kernel⟩

abbrev s_is_below : Stmt := topS 4
abbrev N_is_below : List Str := ["one", "other", "a", "b"]
theorem sc_is_below : FnScope N_is_below ["one", "other"] (defScope s_is_below) := ⟨rfl, rfl, rfl, by decide +kernel, rfl, by decide +kernel, by decide +kernel⟩

abbrev vn (n : Nat) : V := V.int ((n : Nat) : Int)
def statesL (n : Nat) : List Nat := [0, 1, 2].filter fun k => n.testBit k
def belowN (a b : Nat) : Bool := (a &&& b) == a
def belowL (xs ys : List Nat) : Bool := (xs.zip ys).all fun p => belowN p.1 p.2
def sp_count_worths : Sp := fun vs H Q _ => ∃ i : Nat, vs = [vn i] ∧ 1 ≤ i ∧ i ≤ 3 ∧ ∀ H', Same H H' → Q (vn (2 ^ i)) H'
def sp_states_of : Sp := fun vs H Q _ => ∃ n : Nat, vs = [vn n] ∧ n < 8 ∧ ∀ H' p, Same H H' → H p = none → H' p = some (.lst ((statesL n).map vn)) → Q (.ref p) H'
/-- two worths, or two tuples of worths of one length: below -/
def sp_below (k : Nat) : Sp := fun vs H Q _ => (∃ m n : Nat, vs = [vn m, vn n] ∧ m < 8 ∧ n < 8 ∧ 1 ≤ k ∧ ∀ H', Same H H' → Q (.bl (belowN m n)) H') ∨
  ∃ (a b : Addr) (xs ys : List Nat), vs = [.ref a, .ref b] ∧ H a = some (.tup (xs.map vn)) ∧ H b = some (.tup (ys.map vn)) ∧ xs.length = ys.length ∧ xs.length ≤ 64 ∧ (∀ x ∈ xs, x < 8) ∧ (∀ y ∈ ys, y < 8) ∧ 2 ≤ k ∧ ∀ H', Same H H' → Q (.bl (belowL xs ys)) H'
theorem bit8 : ∀ n, n < 8 → ∀ k, k < 3 → decide (n &&& 2 ^ k = 0) = !n.testBit k := by decide +kernel
theorem vn_inj {a b : Nat} : (vn a = vn b) ↔ a = b := ⟨fun h => by have := V.int.inj h; omega, fun h => by rw [h]⟩
theorem dec_vn {a b : Nat} : decide (vn a = vn b) = (a == b) := by
  by_cases h : a = b
  · subst h
    simp
  · rw [decide_eq_false (fun z => h (vn_inj.mp z)), beq_false_of_ne h]
theorem getm {α β : Type} {f : α → β} {l : List α} {i : Nat} {y : β} (h : (l.map f)[i]? = some y) : ∃ x, l[i]? = some x ∧ f x = y := by
  rw [List.getElem?_map] at h
  cases e : l[i]? with
  | none => rw [e] at h; cases h
  | some x => rw [e] at h; exact ⟨x, rfl, Option.some.inj h⟩
theorem zip_take {xs ys : List Nat} {i x y : Nat} (hx : xs[i]? = some x) (hy : ys[i]? = some y) : (xs.zip ys).take (i + 1) = (xs.zip ys).take i ++ [(x, y)] := by
  rw [List.take_add_one, show (xs.zip ys)[i]? = some (x, y) from List.getElem?_zip_eq_some.mpr ⟨hx, hy⟩]
  rfl
section
variable {P : Program} {w : World} {K : PySem.W.Frag} {mg : Str → Option Value} {base : Heap}
theorem cal_count_worths (F : Dfn K mg "count_worths" s_count_worths) : Cal P w K mg base 1 "count_worths" sp_count_worths := by
  refine cal_of F sc_count_worths (fun _ _ _ _ _ _ us hl => match us, hl with | [_], _ => rfl) (fun vs H Q E h => ?_) (fun f cdv A outer s H vs Q E hr h => ?_)
  · obtain ⟨i, rfl, _⟩ := h
    rfl
  obtain ⟨i, rfl, h1, h3, q⟩ := h
  refine ⟨_, (pss_one (ps_ret (pe_ix (k_ix_tup K rfl) (pe_tup (pa_cons pe_int (pa_cons pe_int (pa_cons pe_int pa_nil)))) (pe_op op_sub (pv 0) pe_int) (fun _ _ => rfl)))), ?_⟩
  refine ⟨(by show 3 ≤ sizeLine; decide), fun p hp => ?_⟩
  refine ⟨_, rfl, _, _, rfl, rfl, p, _, _, vn (2 ^ i), rfl, rfl, SqT.of upd_same, ?_, q _ (same_new hp)⟩
  obtain rfl | rfl | rfl : i = 1 ∨ i = 2 ∨ i = 3 := by omega
  · rfl
  · rfl
  · rfl
theorem cal_states_of (F : Dfn K mg "states_of" s_states_of) (B : Bt mg) {ab : Addr} (g_BITS : Gv mg "BITS" (.ref ab)) (hB : ∀ H, SqT K H ab [vn 1, vn 2, vn 4]) : Cal P w K mg base 1 "states_of" sp_states_of := by
  refine cal_of F sc_states_of (fun _ _ _ _ _ _ us hl => match us, hl with | [_], _ => rfl) (fun vs H Q E h => ?_) (fun f cdv A outer s H vs Q E hr h => ?_)
  · obtain ⟨i, rfl, _⟩ := h
    rfl
  obtain ⟨n, rfl, h8, q⟩ := h
  refine ⟨_, (pss_one (ps_ret (pe_lc (own := [("state", 1), ("bit", 2)]) (g := gTup _ 2 (gCons (gName 1) (gCons (gName 2) gNil))) rfl sc_states_of.nd (pi_enumT (by rfl) B.enumerate (pa_cons (pe_gv rfl g_BITS) pa_nil)) (blkOk_by (own := [("state", 1), ("bit", 2)]) (N := N_states_of) (sc := defScope s_states_of) (by decide +kernel)) (fun _ _ _ _ _ => (pg_tup rfl (pgs_cons (pg_name (i := 1) sc_states_of.nd rfl (by first | exact .inl rfl | exact .inr rfl)) (pgs_cons (pg_name (i := 2) sc_states_of.nd rfl (by first | exact .inl rfl | exact .inr rfl)) pgs_nil)))) (fun _ _ _ _ _ => (pts_one (pt_cmpR op_ne (pe_op op_and (pv 0) (pv 2)) pe_int (nomark _)))) (fun _ _ _ _ _ => (pv 1))))), ?_⟩
  refine ⟨ab, _, rfl, hB H, fun D hD => ?_⟩
  refine lcw pureW (Same.refl H) hD (walk_enumT (xs := [vn 1, vn 2, vn 4])) (fun i acc _ => acc = (([0, 1, 2].take i).filter fun k => n.testBit k).map vn) rfl (by decide) (fun _ H' _ _ => hB H')
    (fun i x S1 H1 H1' acc hi g1 W1 s1 e1 hI hy put skip => ?_) (fun S1 H1 acc g1 W1 s1 e1 l1 hI => ?_)
  · obtain ⟨T, x1, y1, rfl, hT, rfl, hx1, hy1⟩ := hy
    have hi3 : i < 3 := hi
    have ex1 : x1 = vn i := (Option.some.inj hx1).symm
    subst ex1
    have ey1 : y1 = vn (2 ^ i) := by
      obtain rfl | rfl | rfl : i = 0 ∨ i = 1 ∨ i = 2 := by omega
      · exact (Option.some.inj hy1).symm
      · exact (Option.some.inj hy1).symm
      · exact (Option.some.inj hy1).symm
    subst ey1
    have gT := same_new (o := .tup [vn i, vn (2 ^ i)]) hT
    have et : ([0, 1, 2] : List Nat)[i]? = some i := by
      obtain rfl | rfl | rfl : i = 0 ∨ i = 1 ∨ i = 2 := by omega
      · rfl
      · rfl
      · rfl
    refine ⟨T, _, rfl, SqT.of upd_same, rfl, _, _, rfl, _, _, rfl, rfl, rfl, ?_⟩
    refine ⟨_, rfl, _, rfl, _, _, rfl, rfl, rfl, _, rfl, ?_⟩
    refine iteC (c := n.testBit i) ?_ (fun c => ?_) (fun c => ?_)
    · show (!decide (V.int (Builtin.bitAnd (n : Int) ((2 ^ i : Nat) : Int)) = V.int 0)) = _
      rw [PySem.W.os_band, show decide (V.int ((n &&& 2 ^ i : Nat) : Int) = V.int 0) = decide (n &&& 2 ^ i = 0) from (by rw [show (V.int 0) = vn 0 from rfl, dec_vn]; rfl), bit8 n h8 i hi3, Bool.not_not]
    · refine ⟨_, rfl, put (Gr.of_same gT) (W1.trans gT) ?_⟩
      rw [hI, List.take_add_one, et, List.filter_append, List.map_append]
      simp [List.filter, c]
    · refine skip (Gr.of_same gT) (W1.trans gT) ?_
      rw [hI, List.take_add_one, et, List.filter_append, List.map_append]
      simp [List.filter, c]
  · refine q _ D g1.same hD ?_
    rw [e1, hI]
    rfl
theorem below_turn {k : Nat} (F : Dfn K mg "is_below" s_is_below) (B : Bt mg) (c_is_below : Cal P w K mg base k "is_below" (sp_below k)) : Cal P w K mg base (k + 1) "is_below" (sp_below (k + 1)) := by
  refine cal_of F sc_is_below (fun _ _ _ _ _ _ us hl => match us, hl with | [_, _], _ => rfl) (fun vs H Q E h => ?_) (fun f cdv A outer s H vs Q E hr h => ?_)
  · rcases h with ⟨m, n, rfl, _⟩ | ⟨a, b, xs, ys, rfl, _⟩ <;> rfl
  refine ⟨_, (pss_cons (ps_if (pt_val (pe_callB (k_isi K rfl) (by rfl) B.isinstance (by decide +kernel) (pa_cons (pv 0) (pa_cons (pe_bltn (v := .ty "int") (by rfl) B.int (by decide +kernel) rfl) pa_nil)))) (pss_one (ps_ret (pe_cmpR op_eq (pe_op op_and (pv 0) (pv 1)) (pv 0) (nomark _)))) pss_nil)
      (pss_one (ps_ret (pe_callB (k_all K rfl rfl) (by rfl) B.all (by decide +kernel) (pa_cons (pe_lc (own := [("a", 2), ("b", 3)]) (g := gTup _ 2 (gCons (gName 2) (gCons (gName 3) gNil))) (tt := tYes) rfl sc_is_below.nd (RZ.pi_zipA (by rfl) B.zip (pa_cons (pv 0) (pa_cons (pv 1) pa_nil))) (blkOk_by (own := [("a", 2), ("b", 3)]) (N := N_is_below) (sc := defScope s_is_below) (by decide +kernel)) (fun _ _ _ _ _ => (pg_tup rfl (pgs_cons (pg_name (i := 2) sc_is_below.nd rfl (by first | exact .inl rfl | exact .inr rfl)) (pgs_cons (pg_name (i := 3) sc_is_below.nd rfl (by first | exact .inl rfl | exact .inr rfl)) pgs_nil)))) (fun _ _ _ _ _ => pts_nil) (fun _ _ _ _ _ => (pe_cc c_is_below hr (by omega) (by rfl) (pa_cons (pv 2) (pa_cons (pv 3) pa_nil))))) pa_nil))))), ?_⟩
  rcases h with ⟨m, n, rfl, hm, hn, hk, q⟩ | ⟨a, b, xs, ys, rfl, ha, hb, hl, h64, hx, hy, hk, q⟩
  · refine ⟨_, rfl, _, _, _, _, true, rfl, .ty _, .base (.int _), kit_ty (by decide +kernel), _, rfl, ?_⟩
    refine ⟨_, rfl, _, rfl, _, _, rfl, rfl, _, rfl, rfl, ?_⟩
    refine vq (u := .bl (belowN m n)) ?_ (q _ (Same.refl _))
    show V.bl (decide (V.int (Builtin.bitAnd (m : Int) (n : Int)) = V.int (m : Int))) = _
    rw [PySem.W.os_band]
    exact congrArg V.bl dec_vn
  · refine ⟨_, rfl, _, _, _, _, false, rfl, .ty _, .base (.tup ha), kit_ty (by decide +kernel), _, rfl, ?_⟩
    refine ⟨_, rfl, _, rfl, a, b, _, _, rfl, .inr ⟨SqT.of ha, SqT.of hb, fun D hD => ?_⟩⟩
    refine lcw pureW (Same.refl H) hD (walk_zipT (n := xs.length) (by rw [List.length_map, List.length_map]; omega)) (fun i acc _ => acc = ((xs.zip ys).take i).map fun p => V.bl (belowN p.1 p.2)) rfl (by omega) (fun S' H' g _ => ⟨SqT.of (g.same _ _ ha), SqT.of (g.same _ _ hb)⟩)
      (fun i x S1 H1 H1' acc hi g1 W1 s1 e1 hI hy' put skip => ?_) (fun S1 H1 acc g1 W1 s1 e1 l1 hI => ?_)
    · obtain ⟨T, x1, y1, rfl, hT, rfl, hx1, hy1⟩ := hy'
      obtain ⟨m, hm, rfl⟩ := getm hx1
      obtain ⟨n, hn, rfl⟩ := getm hy1
      have gT := same_new (o := .tup [vn m, vn n]) hT
      refine ⟨T, _, rfl, SqT.of upd_same, rfl, _, _, rfl, _, _, rfl, rfl, rfl, ?_⟩
      refine ⟨_, rfl, _, rfl, .inl ⟨m, n, rfl, hx _ (List.mem_of_getElem? hm), hy _ (List.mem_of_getElem? hn), by omega, fun H4 g4 => ?_⟩⟩
      refine put (Gr.of_same (gT.trans g4)) (W1.trans (gT.trans g4)) ?_
      rw [hI, zip_take hm hn, List.map_append]
      rfl
    · refine ⟨D, (xs.zip ys).map fun p => belowN p.1 p.2, rfl, SqL.of ?_, ?_⟩
      · rw [e1, hI, List.take_of_length_le (by rw [List.length_zip]; omega), List.map_map]
        rfl
      · rw [List.all_map]
        exact q _ g1.same
theorem cal_is_below (F : Dfn K mg "is_below" s_is_below) (B : Bt mg) : ∀ n, Cal P w K mg base n "is_below" (sp_below n)
  | 0 => cal_zero F (ps := ["one", "other"]) (fun _ _ _ _ _ _ us hl => match us, hl with | [_, _], _ => rfl) (fun vs H Q E h => by
    rcases h with ⟨_, _, _, _, _, h, _⟩ | ⟨_, _, _, _, _, _, _, _, _, _, _, h, _⟩ <;> omega)
  | n + 1 => below_turn F B (cal_is_below F B n)
end

--USES
abbrev s_law_box : Stmt := topS 6
abbrev N_law_box : List Str := ["_law_script", "_law_mark", "_law_cell"]
theorem sc_law_box : FnScope N_law_box ["_law_script"] (defScope s_law_box) := ⟨rfl, rfl, rfl, by decide +kernel, rfl, by decide +kernel, by decide +kernel⟩

/-- the box of a new script -/
def sp_law_box (K : PySem.W.Frag) : Sp := fun vs H Q _ => ∃ (a : Addr) (ns : List Int), vs = [.ref a] ∧ SqL K H a (ns.map V.int) ∧ ns.length ≤ 63 ∧
  ∀ S' H' b, Same H H' → Wd b S' H' → Q (.ref b) H'
theorem cut63 {ns : List Int} (h : ns.length ≤ 63) : cutV (ns.map V.int) none (some 63) = ns.map V.int := by
  unfold cutV
  rw [show HT.sIx (ns.map V.int).length (ns.map V.int).length (some 63) = min 63 (ns.map V.int).length from HT.sIx_nat _ _ 63, HT.sIx_none, List.drop_zero, List.length_map]
  exact List.take_of_length_le (by rw [List.length_map]; omega)
section
variable {P : Program} {w : World} {K : PySem.W.Frag} {mg : Str → Option Value} {base : Heap}
theorem cal_law_box (F : Dfn K mg "_law_box" s_law_box) (B : Bt mg) : Cal P w K mg base 1 "_law_box" (sp_law_box K) := by
  refine cal_of F sc_law_box (fun _ _ _ _ _ _ us hl => match us, hl with | [_], _ => rfl) (fun vs H Q E h => ?_) (fun f cdv A outer s H vs Q E hr h => ?_)
  · obtain ⟨a, ns, rfl, _⟩ := h
    rfl
  obtain ⟨a, ns, rfl, hS, hl, q⟩ := h
  refine ⟨_, (pss_cons (ps_set (i := 1) sc_law_box.nd rfl (by first | exact .inl rfl | exact .inr rfl) pe_int)
      (pss_cons (ps_for PassesOwn.never rfl (pi_list (pe_slice (k_sl_list K rfl) (pv 0) po_none (po_some pe_int))) (pg_name (i := 2) sc_law_box.nd rfl (by first | exact .inl rfl | exact .inr rfl)) (pss_one (ps_set (i := 1) sc_law_box.nd rfl (by first | exact .inl rfl | exact .inr rfl) (pe_op op_mod (pe_callTy call_int1 (by rfl) B.int (by decide +kernel) (pa_cons (pe_op op_add (pe_op op_add (pe_op op_mul (pv 1) pe_int) (pe_op op_mod (pe_callTy call_int1 (by rfl) B.int (by decide +kernel) (pa_cons (pv 2) pa_nil)) pe_int)) pe_int) pa_nil)) pe_int))))
      (pss_one (ps_ret (pe_lst (pa_cons (pe_callTy (k_list_of K rfl) (by rfl) B.list (by decide +kernel) (pa_cons (pe_slice (k_sl_list K rfl) (pv 0) po_none (po_some pe_int)) pa_nil)) (pa_cons pe_int (pa_cons pe_int (pa_cons (pv 1) pa_nil))))))))), ?_⟩
  refine ⟨_, rfl, 63, rfl, a, _, rfl, hS, fun c hc => ?_⟩
  have g1 : Same H (upd H c (.lst (cutV (ns.map V.int) none (some 63)))) := same_new hc
  rw [cut63 hl] at g1 ⊢
  refine ⟨c, rfl, ⟨_, SqL.of upd_same⟩, ?_⟩
  refine for_list (xs := ns.map V.int) (fun i σ H' => H' = upd H c (.lst (ns.map V.int)) ∧ ∃ (m : Int) (y : Option V), σ = [some (.ref a), some (.int m), y] ∧ 0 ≤ m ∧ m < 2147483399) ⟨rfl, 3822, none, rfl, by decide, by decide⟩ (fun i σ H' _ h => by rw [h.1]; exact SqL.of upd_same) (fun i x σ H' hx h => ?_) (fun σ H' h => ?_)
  · obtain ⟨rfl, m, y, rfl, m0, m1⟩ := h
    obtain ⟨n, hn, rfl⟩ : ∃ n, ns[i]? = some n ∧ V.int n = x := by
      rw [List.getElem?_map] at hx
      cases e : ns[i]? with
      | none => rw [e] at hx; cases hx
      | some n => rw [e] at hx; exact ⟨n, rfl, Option.some.inj hx⟩
    refine ⟨_, rfl, _, _, rfl, rfl, .inl ⟨by omega, by omega⟩, _, rfl, .inl ⟨_, rfl, _, _, rfl, rfl, (by show (0 : Int) < 1000003; decide), _, _, rfl, rfl, _, _, rfl, rfl, .inl ⟨_, rfl, _, _, rfl, rfl, (by show (0 : Int) < 2147483399; decide), ?_⟩⟩⟩
    exact ⟨rfl, _, _, rfl, Int.emod_nonneg _ (by decide), Int.emod_lt_of_pos _ (by decide)⟩
  · obtain ⟨rfl, m, y, rfl, m0, m1⟩ := h
    refine ⟨_, rfl, 63, rfl, a, _, rfl, g1.seq hS, fun d hd => ?_⟩
    rw [cut63 hl]
    refine ⟨d, _, rfl, .inl (SqL.of upd_same), fun e he => ?_⟩
    refine ⟨_, rfl, (by show 4 ≤ sizeLine; decide), fun b hb => ?_⟩
    have g2 : Same H (upd (upd (upd H c (.lst (ns.map V.int))) d (.lst (ns.map V.int))) e (.lst (ns.map V.int))) := (g1.trans (same_new hd)).trans (same_new he)
    have ne : e ≠ b := ne_of_none upd_same hb
    refine q (fun x => if x = e then some (.lst (ns.map V.int)) else none) _ b (g2.trans (same_new hb)) ⟨fun x o h => ?_, ?_, e, ns, 0, 0, m, upd_same, ?_, hl, by decide, by decide, m0, by omega⟩
    · by_cases z : x = e
      · subst z
        rw [if_pos rfl] at h
        rw [upd_ne ne, upd_same]
        exact h
      · rw [if_neg z] at h
        cases h
    · rw [if_neg (Ne.symm ne)]
    · rw [if_pos rfl]
end

--USES
abbrev s_law_take : Stmt := topS 7
abbrev N_law_take : List Str := ["_law_box_here", "_law_many", "_law_cell", "_law_seed", "_law_found"]
theorem sc_law_take : FnScope N_law_take ["_law_box_here", "_law_many"] (defScope s_law_take) := ⟨rfl, rfl, rfl, by decide +kernel, rfl, by decide +kernel, by decide +kernel⟩

/-- a draw: some number below many -/
def sp_law_take : Sp := fun vs H Q _ => ∃ (b : Addr) (Sh : Hp) (n : Int), vs = [.ref b, .int n] ∧ Wd b Sh H ∧ 1 ≤ n ∧ n ≤ 1000000 ∧
  ∀ (H' : Hp) (r : Nat), Gr [b] Sh H Sh H' → Wd b Sh H' → (r : Int) < n → Q (.int (r : Int)) H'
/-- a change of the box alone -/
theorem box_upd {b : Addr} {Sh H : Hp} {p : Addr} {ns : List Int} {i c m : Int} (W : Wd b Sh H) (hp : Sh p = some (.lst (ns.map V.int))) (hl : ns.length ≤ 63) (h1 : 0 ≤ i) (h2 : 0 ≤ c) (h3 : 0 ≤ m) (h4 : m < 2147483647) :
    Gr [b] Sh H Sh (upd H b (.lst [.ref p, .int i, .int c, .int m])) ∧ Wd b Sh (upd H b (.lst [.ref p, .int i, .int c, .int m])) := by
  refine ⟨⟨Same.refl _, fun a o n e => ?_, fun a _ e => e, fun a e => ?_⟩, mut_same W.sh W.nb, W.nb, p, ns, i, c, m, upd_same, hp, hl, h1, h2, h3, h4⟩
  · rw [upd_ne (fun z => n (by rw [z]; exact List.mem_singleton.mpr rfl))]
    exact e
  · by_cases z : a = b
    · subst z
      rw [upd_same]
      exact fun z => nomatch z
    · rw [upd_ne z]
      exact e
theorem nat_of {x n : Int} (h0 : 0 ≤ x) (h1 : x < n) : ∃ r : Nat, x = (r : Int) ∧ (r : Int) < n := ⟨x.toNat, by omega, by omega⟩
section
variable {P : Program} {w : World} {K : PySem.W.Frag} {mg : Str → Option Value} {base : Heap}
theorem cal_law_take (F : Dfn K mg "_law_take" s_law_take) (B : Bt mg) : Cal P w K mg base 1 "_law_take" sp_law_take := by
  refine cal_of F sc_law_take (fun _ _ _ _ _ _ us hl => match us, hl with | [_, _], _ => rfl) (fun vs H Q E h => ?_) (fun f cdv A outer s H vs Q E hr h => ?_)
  · obtain ⟨b, Sh, n, rfl, _⟩ := h
    rfl
  obtain ⟨b, Sh, n, rfl, W, n1, n2, q⟩ := h
  refine ⟨_, (C8.pss_cut (ps_if (PW.pt (pw_and (pt_cmpR op_eq (pe_ix (k_ix_list K rfl) (pv 0) pe_int (fun _ _ => rfl)) pe_int (nomark _)) (pw_and1 (pt_cmpR op_lt (pe_ix (k_ix_list K rfl) (pv 0) pe_int (fun _ _ => rfl)) (pe_callB (k_len_seq K rfl) (by rfl) B.len PySem.boot_len (pa_cons (pe_ix (k_ix_list K rfl) (pv 0) pe_int (fun _ _ => rfl)) pa_nil)) (nomark _))))) (pss_cons (ps_set (i := 2) sc_law_take.nd rfl (by first | exact .inl rfl | exact .inr rfl) (pe_ix (k_ix_list K rfl) (pe_ix (k_ix_list K rfl) (pv 0) pe_int (fun _ _ => rfl)) (pe_ix (k_ix_list K rfl) (pv 0) pe_int (fun _ _ => rfl)) (fun _ _ => rfl)))
      (pss_cons (ps_asg (pe_op op_add (pe_ix (k_ix_list K rfl) (pv 0) pe_int (fun _ _ => rfl)) pe_int) (pg_sub (pv 0) pe_int set_list))
      (pss_one (ps_if (pt_cmpR op_ge (pv 2) (pe_op op_pow pe_int pe_int) (nomark _)) (pss_one (ps_asg (pv 2) (pg_sub (pv 0) pe_int set_list))) (pss_cons (ps_set (i := 3) sc_law_take.nd rfl (by first | exact .inl rfl | exact .inr rfl) (pe_op op_add (pe_op op_mul (pe_ix (k_ix_list K rfl) (pv 0) pe_int (fun _ _ => rfl)) pe_int) (pe_op op_mul (pe_ix (k_ix_list K rfl) (pv 0) pe_int (fun _ _ => rfl)) pe_int)))
      (pss_one (ps_asg (pe_op op_mod (pe_callTy call_int1 (by rfl) B.int (by decide +kernel) (pa_cons (pe_op op_add (pv 3) (pe_op op_mod (pe_callTy call_int1 (by rfl) B.int (by decide +kernel) (pa_cons (pv 2) pa_nil)) pe_int)) pa_nil)) pe_int) (pg_sub (pv 0) pe_int set_list)))))))) pss_nil)
      (pss_cons (ps_if (pt_cmpR op_gt (pe_ix (k_ix_list K rfl) (pv 0) pe_int (fun _ _ => rfl)) pe_int (nomark _)) (pss_cons (ps_set (i := 4) sc_law_take.nd rfl (by first | exact .inl rfl | exact .inr rfl) (pe_op op_mod (pe_callTy call_int1 (by rfl) B.int (by decide +kernel) (pa_cons (pe_ix (k_ix_list K rfl) (pv 0) pe_int (fun _ _ => rfl)) pa_nil)) (pv 1)))
      (pss_cons (ps_asg (pe_op op_fdiv (pe_ix (k_ix_list K rfl) (pv 0) pe_int (fun _ _ => rfl)) (pv 1)) (pg_sub (pv 0) pe_int set_list))
      (pss_one (ps_ret (pv 4))))) pss_nil)
      (pss_cons (ps_asg (pe_op op_mod (pe_callTy call_int1 (by rfl) B.int (by decide +kernel) (pa_cons (pe_op op_add (pe_op op_mul (pe_ix (k_ix_list K rfl) (pv 0) pe_int (fun _ _ => rfl)) pe_int) pe_int) pa_nil)) pe_int) (pg_sub (pv 0) pe_int set_list))
      (pss_one (ps_ret (pe_op op_mod (pe_callTy call_int1 (by rfl) B.int (by decide +kernel) (pa_cons (pe_op op_fdiv (pe_op op_mod (pe_callTy call_int1 (by rfl) B.int (by decide +kernel) (pa_cons (pe_op op_mul (pe_ix (k_ix_list K rfl) (pv 0) pe_int (fun _ _ => rfl)) (pe_ix (k_ix_list K rfl) (pv 0) pe_int (fun _ _ => rfl))) pa_nil)) pe_int) pe_int) pa_nil)) (pv 1))))))), ?_⟩
  refine ⟨fun σ' H' => ∃ y2 y3 y4, σ' = [some (.ref b), some (.int n), y2, y3, y4] ∧ Gr [b] Sh H Sh H' ∧ Wd b Sh H', ?_, fun σ' H' hM => ?_⟩
  · obtain ⟨p, ns, i, c, m, hb, hp, hl, i0, c0, m0, m1⟩ := W.bx
    refine ⟨_, rfl, b, _, 2, .int c, rfl, rfl, SqL.of hb, atI_nat (j := 2) rfl, rfl, _, rfl, ite2 (fun t1 => ?_) (fun t1 => ?_)⟩
    · refine ⟨_, rfl, b, _, 1, .int i, rfl, rfl, SqL.of hb, atI_nat (j := 1) rfl, _, rfl, b, _, 0, .ref p, rfl, rfl, SqL.of hb, atI_nat (j := 0) rfl, p, _, rfl, .inl (SqL.of (W.sh _ _ hp)), _, _, rfl, rfl, _, rfl, ite2 (fun t2 => ?_) (fun t2 => ?_)⟩
      · have t3 : i < ((ns.map V.int).length : Int) := dT t2
        rw [List.length_map] at t3
        obtain ⟨k, rfl⟩ : ∃ k : Nat, i = (k : Int) := ⟨i.toNat, by omega⟩
        have hk : k < ns.length := by omega
        refine ⟨_, rfl, b, _, 0, .ref p, rfl, rfl, SqL.of hb, atI_nat (j := 0) rfl, _, rfl, b, _, 1, .int k, rfl, rfl, SqL.of hb, atI_nat (j := 1) rfl, p, _, k, .int ns[k], rfl, rfl, SqL.of (W.sh _ _ hp), atI_nat (j := k) ?_, ?_⟩
        · rw [List.getElem?_map, List.getElem?_eq_getElem hk]
          rfl
        refine ⟨_, rfl, b, _, 1, .int k, rfl, rfl, SqL.of hb, atI_nat (j := 1) rfl, _, _, rfl, rfl, _, rfl, b, _, 1, 1, rfl, rfl, hb, rfl, ?_⟩
        have B1 := box_upd (i := (k : Int) + 1) (c := c) (m := m) W hp hl (by omega) c0 m0 m1
        refine ⟨_, rfl, _, _, rfl, rfl, ⟨by decide, by decide, by decide⟩, _, _, rfl, rfl, _, rfl, ite2 (fun t4 => ?_) (fun t4 => ?_)⟩
        · have t5 : (10 : Int) ^ 18 ≤ ns[k] := dT t4
          refine ⟨_, rfl, _, rfl, b, _, 2, 2, rfl, rfl, upd_same, rfl, ?_⟩
          rw [upd_upd]
          have B2 := box_upd (i := (k : Int) + 1) (c := ns[k]) (m := m) W hp hl (by omega) (by omega) m0 m1
          exact ⟨_, _, _, rfl, B2.1, B2.2⟩
        · refine ⟨_, rfl, b, _, 3, .int m, rfl, rfl, SqL.of upd_same, atI_nat (j := 3) rfl, _, _, rfl, rfl, .inl ⟨by omega, by omega⟩, _, rfl, b, _, 1, .int ((k : Int) + 1), rfl, rfl, SqL.of upd_same, atI_nat (j := 1) rfl, _, _, rfl, rfl, .inr ⟨by decide, by decide⟩, _, _, rfl, rfl, ?_⟩
          refine ⟨_, rfl, _, rfl, .inl ⟨_, rfl, _, _, rfl, rfl, (by show (0 : Int) < 2147483563; decide), _, _, rfl, rfl, .inl ⟨_, rfl, _, _, rfl, rfl, (by show (0 : Int) < 2147483647; decide), _, rfl, b, _, 3, 3, rfl, rfl, upd_same, rfl, ?_⟩⟩⟩
          rw [upd_upd]
          have B2 := box_upd (i := (k : Int) + 1) (c := c) (m := (m * 48271 + ((k : Int) + 1) * 2003 + ns[k] % 2147483563) % 2147483647) W hp hl (by omega) c0 (Int.emod_nonneg _ (by decide)) (Int.emod_lt_of_pos _ (by decide))
          exact ⟨_, _, _, rfl, B2.1, B2.2⟩
      · exact ⟨_, _, _, rfl, Gr.refl _ _ _, W⟩
    · exact ⟨_, _, _, rfl, Gr.refl _ _ _, W⟩
  · obtain ⟨y2, y3, y4, rfl, G1, W1⟩ := hM
    obtain ⟨p, ns, i, c, m, hb, hp, hl, i0, c0, m0, m1⟩ := W1.bx
    refine ⟨_, rfl, b, _, 2, .int c, rfl, rfl, SqL.of hb, atI_nat (j := 2) rfl, _, _, rfl, rfl, _, rfl, ite2 (fun t1 => ?_) (fun t1 => ?_)⟩
    · refine ⟨_, rfl, b, _, 2, .int c, rfl, rfl, SqL.of hb, atI_nat (j := 2) rfl, .inl ⟨_, rfl, _, rfl, _, _, rfl, rfl, (by show 0 < n; omega), ?_⟩⟩
      refine ⟨_, rfl, b, _, 2, .int c, rfl, rfl, SqL.of hb, atI_nat (j := 2) rfl, _, rfl, _, _, rfl, rfl, ⟨by omega, by omega⟩, _, rfl, b, _, 2, 2, rfl, rfl, hb, rfl, _, rfl, ?_⟩
      have B2 := box_upd (i := i) (c := c / n) (m := m) W1 hp hl i0 (Int.ediv_nonneg c0 (by omega)) m0 m1
      obtain ⟨r, er, hr1⟩ := nat_of (Int.emod_nonneg c (show n ≠ 0 by omega)) (Int.emod_lt_of_pos c (show 0 < n by omega))
      have z := q _ r (G1.trans B2.1) B2.2 hr1
      rw [← er] at z
      exact z
    · refine ⟨_, rfl, b, _, 3, .int m, rfl, rfl, SqL.of hb, atI_nat (j := 3) rfl, _, _, rfl, rfl, .inl ⟨by omega, by omega⟩, _, _, rfl, rfl, .inl ⟨_, rfl, _, _, rfl, rfl, (by show (0 : Int) < 2147483647; decide), _, rfl, b, _, 3, 3, rfl, rfl, hb, rfl, ?_⟩⟩
      have hm2 := Int.emod_lt_of_pos (m * 69621 + 13) (show (0 : Int) < 2147483647 by decide)
      have hm1 := Int.emod_nonneg (m * 69621 + 13) (show (2147483647 : Int) ≠ 0 by decide)
      have B2 := box_upd (i := i) (c := c) (m := (m * 69621 + 13) % 2147483647) W1 hp hl i0 c0 hm1 hm2
      refine ⟨_, rfl, b, _, 3, _, rfl, rfl, SqL.of upd_same, atI_nat (j := 3) rfl, _, rfl, b, _, 3, _, rfl, rfl, SqL.of upd_same, atI_nat (j := 3) rfl, _, _, rfl, rfl, .inl ⟨by omega, by omega⟩, .inl ⟨_, rfl, _, _, rfl, rfl, (by show (0 : Int) < 998244353; decide), _, _, rfl, rfl, ⟨by decide, by decide⟩, .inl ⟨_, rfl, _, rfl, _, _, rfl, rfl, (by show 0 < n; omega), ?_⟩⟩⟩
      generalize (m * 69621 + 13) % 2147483647 * ((m * 69621 + 13) % 2147483647) % 998244353 / 11 = z0
      obtain ⟨r, er, hr1⟩ := nat_of (Int.emod_nonneg z0 (show n ≠ 0 by omega)) (Int.emod_lt_of_pos z0 (show 0 < n by omega))
      have z := q _ r (G1.trans B2.1) B2.2 hr1
      rw [← er] at z
      exact z
end

--USES law_take
abbrev s_law_any : Stmt := topS 8
abbrev N_law_any : List Str := ["_law_box_here", "_law_things"]
theorem sc_law_any : FnScope N_law_any ["_law_box_here", "_law_things"] (defScope s_law_any) := ⟨rfl, rfl, rfl, by decide +kernel, rfl, by decide +kernel, by decide +kernel⟩

/-- one of some things, or one sign of a text -/
def sp_law_any (K : PySem.W.Frag) : Sp := fun vs H Q _ => ∃ (b : Addr) (Sh : Hp), Wd b Sh H ∧
  ((∃ (a : Addr) (xs : List V), vs = [.ref b, .ref a] ∧ a ≠ b ∧ SqL K H a xs ∧ 1 ≤ xs.length ∧ xs.length ≤ 1000 ∧ ∀ (H' : Hp) (r : Nat) (x : V), Gr [b] Sh H Sh H' → Wd b Sh H' → xs[r]? = some x → Q x H') ∨
   (∃ l : List Nat, vs = [.ref b, .str (S l)] ∧ 1 ≤ l.length ∧ l.length ≤ 1000 ∧ ∀ (H' : Hp) (c : Nat), Gr [b] Sh H Sh H' → Wd b Sh H' → c ∈ l → Q (.str (S [c])) H'))
section
variable {P : Program} {w : World} {K : PySem.W.Frag} {mg : Str → Option Value} {base : Heap}
theorem cal_law_any (F : Dfn K mg "_law_any" s_law_any) (B : Bt mg) (c__law_take : Cal P w K mg base 1 "_law_take" sp_law_take) : Cal P w K mg base 2 "_law_any" (sp_law_any K) := by
  refine cal_of F sc_law_any (fun _ _ _ _ _ _ us hl => match us, hl with | [_, _], _ => rfl) (fun vs H Q E h => ?_) (fun f cdv A outer s H vs Q E hr h => ?_)
  · rcases h with ⟨b, Sh, W, ⟨a, xs, rfl, _⟩ | ⟨l, rfl, _⟩⟩ <;> rfl
  obtain ⟨b, Sh, W, h⟩ := h
  refine ⟨_, (pss_one (ps_ret (pe_ix (k_ix_seq K rfl) (pv 1) (pe_cc c__law_take hr (by omega) (by rfl) (pa_cons (pv 0) (pa_cons (pe_callB (k_len K rfl) (by rfl) B.len PySem.boot_len (pa_cons (pv 1) pa_nil)) pa_nil))) (fun _ _ => rfl)))), ?_⟩
  rcases h with ⟨a, xs, rfl, nb, hS, h1, h2, q⟩ | ⟨l, rfl, h1, h2, q⟩
  · refine ⟨_, rfl, _, rfl, _, rfl, .ref a, xs.length, rfl, .inl ⟨xs, hS, rfl⟩, ?_⟩
    refine ⟨b, Sh, _, rfl, W, by omega, by omega, fun H' r G W' hr1 => ?_⟩
    have hk : r < xs.length := by omega
    refine .inl ⟨a, xs, _, xs[r], rfl, rfl, G.sqL (fun z => nb (List.mem_singleton.mp z)) hS, atI_nat (List.getElem?_eq_getElem hk), ?_⟩
    exact q H' r _ G W' (List.getElem?_eq_getElem hk)
  · have hl := S_len l
    refine ⟨_, rfl, _, rfl, _, rfl, .str (S l), (S l).length, rfl, ⟨sz _ (by omega), rfl⟩, ?_⟩
    refine ⟨b, Sh, _, rfl, W, by omega, by omega, fun H' r G W' hr1 => ?_⟩
    have hk : r < l.length := by omega
    refine .inr (.inr ⟨S l, _, l[r], rfl, rfl, sz _ (by omega), atI_nat (List.getElem?_eq_getElem hk), ?_⟩)
    exact q H' _ G W' (List.getElem_mem hk)
end

--USES
abbrev s_law_same : Stmt := topS 9
abbrev N_law_same : List Str := ["_law_found", "_law_due", "_law_one", "_law_other"]
theorem sc_law_same : FnScope N_law_same ["_law_found", "_law_due"] (defScope s_law_same) := ⟨rfl, rfl, rfl, by decide +kernel, rfl, by decide +kernel, by decide +kernel⟩

/-- equal data are the same -/
def sp_law_same (n : Nat) : Sp := fun vs H Q _ => ∃ (Sh : Hp) (d : PyData) (v u : V) (m : Nat), vs = [v, u] ∧ m + 1 ≤ n ∧ Same Sh H ∧ Rp Sh v d ∧ Rp Sh u d ∧ fits d m = true ∧ ∀ H', Same H H' → Q (.bl true) H'
section
variable {P : Program} {w : World} {K : PySem.W.Frag} {mg : Str → Option Value} {base : Heap}
theorem same_turn {k : Nat} (F : Dfn K mg "_law_same" s_law_same) (B : Bt mg) (c__law_same : Cal P w K mg base k "_law_same" (sp_law_same k)) : Cal P w K mg base (k + 1) "_law_same" (sp_law_same (k + 1)) := by
  refine cal_of F sc_law_same (fun _ _ _ _ _ _ us hl => match us, hl with | [_, _], _ => rfl) (fun vs H Q E h => ?_) (fun f cdv A outer s H vs Q E hr h => ?_)
  · obtain ⟨Sh, d, v, u, m, rfl, _⟩ := h
    rfl
  obtain ⟨Sh, d, v, u, m, rfl, hm, sh, r1, r2, hf, q⟩ := h
  refine ⟨_, (pss_cons (ps_if (pt_cmpR op_isN (pv 1) pe_non (nomark _)) (pss_one (ps_ret (pe_cmpR op_isN (pv 0) pe_non (nomark _)))) pss_nil)
      (pss_cons (ps_if (PW.pt (pw_or (pt_val (pe_callB (k_isi K rfl) (by rfl) B.isinstance (by decide +kernel) (pa_cons (pv 1) (pa_cons (pe_bltn (v := .ty "bool") (by rfl) B.bool (by decide +kernel) rfl) pa_nil)))) (pw_or1 (pt_val (pe_callB (k_isi K rfl) (by rfl) B.isinstance (by decide +kernel) (pa_cons (pv 0) (pa_cons (pe_bltn (v := .ty "bool") (by rfl) B.bool (by decide +kernel) rfl) pa_nil))))))) (pss_one (ps_ret (pe_and (pe_callB (k_isi K rfl) (by rfl) B.isinstance (by decide +kernel) (pa_cons (pv 1) (pa_cons (pe_bltn (v := .ty "bool") (by rfl) B.bool (by decide +kernel) rfl) pa_nil))) (pe_and (pe_callB (k_isi K rfl) (by rfl) B.isinstance (by decide +kernel) (pa_cons (pv 0) (pa_cons (pe_bltn (v := .ty "bool") (by rfl) B.bool (by decide +kernel) rfl) pa_nil))) (pe_one (pe_cmpR op_eq (pv 0) (pv 1) (nomark _))))))) pss_nil)
      (pss_cons (ps_if (pt_val (pe_callB (k_isi K rfl) (by rfl) B.isinstance (by decide +kernel) (pa_cons (pv 1) (pa_cons (pe_bltn (v := .ty "int") (by rfl) B.int (by decide +kernel) rfl) pa_nil)))) (pss_one (ps_ret (pe_and (pe_callB (k_isi K rfl) (by rfl) B.isinstance (by decide +kernel) (pa_cons (pv 0) (pa_cons (pe_bltn (v := .ty "int") (by rfl) B.int (by decide +kernel) rfl) pa_nil))) (pe_one (pe_cmpR op_eq (pv 0) (pv 1) (nomark _)))))) pss_nil)
      (pss_cons (ps_if (pt_val (pe_callB (k_isi K rfl) (by rfl) B.isinstance (by decide +kernel) (pa_cons (pv 1) (pa_cons (pe_bltn (v := .ty "str") (by rfl) B.str (by decide +kernel) rfl) pa_nil)))) (pss_one (ps_ret (pe_and (pe_callB (k_isi K rfl) (by rfl) B.isinstance (by decide +kernel) (pa_cons (pv 0) (pa_cons (pe_bltn (v := .ty "str") (by rfl) B.str (by decide +kernel) rfl) pa_nil))) (pe_one (pe_cmpR op_eq (pv 0) (pv 1) (nomark _)))))) pss_nil)
      (pss_cons (ps_if (PW.pt (pw_or (pt_cmpR op_ne (pe_callB (k_isi K rfl) (by rfl) B.isinstance (by decide +kernel) (pa_cons (pv 1) (pa_cons (pe_bltn (v := .ty "tuple") (by rfl) B.tuple (by decide +kernel) rfl) pa_nil))) (pe_callB (k_isi K rfl) (by rfl) B.isinstance (by decide +kernel) (pa_cons (pv 0) (pa_cons (pe_bltn (v := .ty "tuple") (by rfl) B.tuple (by decide +kernel) rfl) pa_nil))) (nomark _)) (pw_or1 (pt_cmpR op_ne (pe_callB (k_isi K rfl) (by rfl) B.isinstance (by decide +kernel) (pa_cons (pv 1) (pa_cons (pe_bltn (v := .ty "list") (by rfl) B.list (by decide +kernel) rfl) pa_nil))) (pe_callB (k_isi K rfl) (by rfl) B.isinstance (by decide +kernel) (pa_cons (pv 0) (pa_cons (pe_bltn (v := .ty "list") (by rfl) B.list (by decide +kernel) rfl) pa_nil))) (nomark _))))) (pss_one (ps_ret pe_bl)) pss_nil)
      (pss_one (ps_ret (pe_and (pe_cmpR op_eq (pe_callB (k_len K rfl) (by rfl) B.len PySem.boot_len (pa_cons (pv 0) pa_nil)) (pe_callB (k_len K rfl) (by rfl) B.len PySem.boot_len (pa_cons (pv 1) pa_nil)) (nomark _)) (pe_one (pe_callB (k_all K rfl rfl) (by rfl) B.all (by decide +kernel) (pa_cons (pe_lc (own := [("_law_one", 2), ("_law_other", 3)]) (g := gTup _ 2 (gCons (gName 2) (gCons (gName 3) gNil))) (tt := tYes) rfl sc_law_same.nd (RZ.pi_zipA (by rfl) B.zip (pa_cons (pv 0) (pa_cons (pv 1) pa_nil))) (blkOk_by (own := [("_law_one", 2), ("_law_other", 3)]) (N := N_law_same) (sc := defScope s_law_same) (by decide +kernel)) (fun _ _ _ _ _ => (pg_tup rfl (pgs_cons (pg_name (i := 2) sc_law_same.nd rfl (by first | exact .inl rfl | exact .inr rfl)) (pgs_cons (pg_name (i := 3) sc_law_same.nd rfl (by first | exact .inl rfl | exact .inr rfl)) pgs_nil)))) (fun _ _ _ _ _ => pts_nil) (fun _ _ _ _ _ => (pe_cc c__law_same hr (by omega) (by rfl) (pa_cons (pv 2) (pa_cons (pv 3) pa_nil))))) pa_nil))))))))))), ?_⟩
  cases d with
  | none =>
    cases r1
    cases r2
    exact ⟨_, rfl, rfl, _, rfl, _, rfl, rfl, q H (Same.refl H)⟩
  | bool x =>
    cases r1
    cases r2
    refine ⟨_, rfl, rfl, _, rfl, iteNN (fun z => by cases z) ?_⟩
    refine ⟨_, rfl, _, _, _, _, true, rfl, .ty _, .base (.bl _), kit_ty (by decide +kernel), _, rfl, ?_⟩
    refine ⟨_, rfl, _, _, _, _, true, rfl, .ty _, .base (.bl _), kit_ty (by decide +kernel), _, rfl, ?_⟩
    refine ⟨_, rfl, _, _, _, _, true, rfl, .ty _, .base (.bl _), kit_ty (by decide +kernel), _, rfl, ?_⟩
    refine ⟨_, rfl, _, rfl, rfl, ?_⟩
    rw [decide_eq_true rfl]
    exact q H (Same.refl H)
  | int x =>
    cases r1
    cases r2
    refine ⟨_, rfl, rfl, _, rfl, iteNN (fun z => by cases z) ?_⟩
    refine ⟨_, rfl, _, _, _, _, false, rfl, .ty _, .base (.int _), kit_ty (by decide +kernel), _, rfl, ?_⟩
    refine ⟨_, rfl, _, _, _, _, false, rfl, .ty _, .base (.int _), kit_ty (by decide +kernel), _, rfl, ?_⟩
    refine ⟨_, rfl, _, _, _, _, true, rfl, .ty _, .base (.int _), kit_ty (by decide +kernel), _, rfl, ?_⟩
    refine ⟨_, rfl, _, _, _, _, true, rfl, .ty _, .base (.int _), kit_ty (by decide +kernel), _, rfl, ?_⟩
    refine ⟨_, rfl, _, rfl, rfl, ?_⟩
    rw [decide_eq_true rfl]
    exact q H (Same.refl H)
  | str x =>
    cases r1
    cases r2
    refine ⟨_, rfl, rfl, _, rfl, iteNN (fun z => by cases z) ?_⟩
    refine ⟨_, rfl, _, _, _, _, false, rfl, .ty _, .base (.str _), kit_ty (by decide +kernel), _, rfl, ?_⟩
    refine ⟨_, rfl, _, _, _, _, false, rfl, .ty _, .base (.str _), kit_ty (by decide +kernel), _, rfl, ?_⟩
    refine ⟨_, rfl, _, _, _, _, false, rfl, .ty _, .base (.str _), kit_ty (by decide +kernel), _, rfl, ?_⟩
    refine ⟨_, rfl, _, _, _, _, true, rfl, .ty _, .base (.str _), kit_ty (by decide +kernel), _, rfl, ?_⟩
    refine ⟨_, rfl, _, _, _, _, true, rfl, .ty _, .base (.str _), kit_ty (by decide +kernel), _, rfl, ?_⟩
    refine ⟨_, rfl, _, rfl, rfl, ?_⟩
    rw [decide_eq_true rfl]
    exact q H (Same.refl H)
  | list ds =>
    cases r1 with
    | @lst a xs _ ha ra =>
    cases r2 with
    | @lst b ys _ hb rb =>
    unfold fits at hf
    simp only [Bool.and_eq_true, decide_eq_true_eq] at hf
    have hxl := ra.len
    have hyl := rb.len
    refine ⟨_, rfl, rfl, _, rfl, iteNN (fun z => by cases z) ?_⟩
    refine ⟨_, rfl, _, _, _, _, false, rfl, .ty _, .base (.lst (sh _ _ hb)), kit_ty (by decide +kernel), _, rfl, ?_⟩
    refine ⟨_, rfl, _, _, _, _, false, rfl, .ty _, .base (.lst (sh _ _ ha)), kit_ty (by decide +kernel), _, rfl, ?_⟩
    refine ⟨_, rfl, _, _, _, _, false, rfl, .ty _, .base (.lst (sh _ _ hb)), kit_ty (by decide +kernel), _, rfl, ?_⟩
    refine ⟨_, rfl, _, _, _, _, false, rfl, .ty _, .base (.lst (sh _ _ hb)), kit_ty (by decide +kernel), _, rfl, ?_⟩
    refine ⟨_, rfl, _, _, _, _, false, rfl, .ty _, .base (.lst (sh _ _ hb)), kit_ty (by decide +kernel), _, rfl, _, _, _, _, false, rfl, .ty _, .base (.lst (sh _ _ ha)), kit_ty (by decide +kernel), rfl, _, rfl, ?_⟩
    refine ⟨_, rfl, _, _, _, _, true, rfl, .ty _, .base (.lst (sh _ _ hb)), kit_ty (by decide +kernel), _, rfl, _, _, _, _, true, rfl, .ty _, .base (.lst (sh _ _ ha)), kit_ty (by decide +kernel), rfl, _, rfl, ?_⟩
    refine ⟨_, rfl, _, _, rfl, .inl ⟨xs, SqL.of (sh _ _ ha), rfl⟩, _, rfl, _, _, rfl, .inl ⟨ys, SqL.of (sh _ _ hb), rfl⟩, rfl, _, rfl, ?_⟩
    rw [show decide (V.int (xs.length : Int) = V.int (ys.length : Int)) = true by rw [hxl, hyl]; exact decide_eq_true rfl]
    refine ⟨_, rfl, _, rfl, a, b, xs, ys, rfl, .inl ⟨SqL.of (sh _ _ ha), SqL.of (sh _ _ hb), fun D hD => ?_⟩⟩
    refine lcw pureW (Same.refl H) hD (walk_zip (n := ds.length) (by omega)) (fun i acc _ => acc = List.replicate i (V.bl true)) rfl (by omega) (fun S' H' g _ => ⟨SqL.of (g.same _ _ (sh _ _ ha)), SqL.of (g.same _ _ (sh _ _ hb))⟩)
      (fun i x S1 H1 H1' acc hi g1 W1 s1 e1 hI hy put skip => ?_) (fun S1 H1 acc g1 W1 s1 e1 l1 hI => ?_)
    · obtain ⟨T, x1, y1, rfl, hT, rfl, hx1, hy1⟩ := hy
      obtain ⟨d1, hd1, rx⟩ := ra.get hx1
      obtain ⟨d2, hd2, ry⟩ := rb.get hy1
      have e12 := Option.some.inj (hd1.symm.trans hd2)
      subst e12
      have gT := same_new (o := .tup [x1, y1]) hT
      have sa := (sh.trans g1.same).trans gT
      refine ⟨T, [x1, y1], rfl, SqT.of upd_same, rfl, x1, [y1], rfl, y1, [], rfl, rfl, rfl, ?_⟩
      refine ⟨_, rfl, _, rfl, Sh, d1, x1, y1, m - 1, rfl, by omega, sa, rx, ry, fitsL_get hf.2 hd1, fun H4 g4 => ?_⟩
      refine put (Gr.of_same (gT.trans g4)) (W1.trans (gT.trans g4)) ?_
      rw [hI, List.replicate_succ']
    · refine ⟨D, List.replicate ds.length true, rfl, SqL.of ?_, ?_⟩
      · rw [e1, hI, List.map_replicate]
      · rw [show (List.replicate ds.length true).all id = true by simp]
        exact q _ g1.same
  | tuple ds =>
    cases r1 with
    | @tup a xs _ ha ra =>
    cases r2 with
    | @tup b ys _ hb rb =>
    unfold fits at hf
    simp only [Bool.and_eq_true, decide_eq_true_eq] at hf
    have hxl := ra.len
    have hyl := rb.len
    refine ⟨_, rfl, rfl, _, rfl, iteNN (fun z => by cases z) ?_⟩
    refine ⟨_, rfl, _, _, _, _, false, rfl, .ty _, .base (.tup (sh _ _ hb)), kit_ty (by decide +kernel), _, rfl, ?_⟩
    refine ⟨_, rfl, _, _, _, _, false, rfl, .ty _, .base (.tup (sh _ _ ha)), kit_ty (by decide +kernel), _, rfl, ?_⟩
    refine ⟨_, rfl, _, _, _, _, false, rfl, .ty _, .base (.tup (sh _ _ hb)), kit_ty (by decide +kernel), _, rfl, ?_⟩
    refine ⟨_, rfl, _, _, _, _, false, rfl, .ty _, .base (.tup (sh _ _ hb)), kit_ty (by decide +kernel), _, rfl, ?_⟩
    refine ⟨_, rfl, _, _, _, _, true, rfl, .ty _, .base (.tup (sh _ _ hb)), kit_ty (by decide +kernel), _, rfl, _, _, _, _, true, rfl, .ty _, .base (.tup (sh _ _ ha)), kit_ty (by decide +kernel), rfl, _, rfl, ?_⟩
    refine ⟨_, rfl, _, _, _, _, false, rfl, .ty _, .base (.tup (sh _ _ hb)), kit_ty (by decide +kernel), _, rfl, _, _, _, _, false, rfl, .ty _, .base (.tup (sh _ _ ha)), kit_ty (by decide +kernel), rfl, _, rfl, ?_⟩
    refine ⟨_, rfl, _, _, rfl, .inr ⟨xs, SqT.of (sh _ _ ha), rfl⟩, _, rfl, _, _, rfl, .inr ⟨ys, SqT.of (sh _ _ hb), rfl⟩, rfl, _, rfl, ?_⟩
    rw [show decide (V.int (xs.length : Int) = V.int (ys.length : Int)) = true by rw [hxl, hyl]; exact decide_eq_true rfl]
    refine ⟨_, rfl, _, rfl, a, b, xs, ys, rfl, .inr ⟨SqT.of (sh _ _ ha), SqT.of (sh _ _ hb), fun D hD => ?_⟩⟩
    refine lcw pureW (Same.refl H) hD (walk_zipT (n := ds.length) (by omega)) (fun i acc _ => acc = List.replicate i (V.bl true)) rfl (by omega) (fun S' H' g _ => ⟨SqT.of (g.same _ _ (sh _ _ ha)), SqT.of (g.same _ _ (sh _ _ hb))⟩)
      (fun i x S1 H1 H1' acc hi g1 W1 s1 e1 hI hy put skip => ?_) (fun S1 H1 acc g1 W1 s1 e1 l1 hI => ?_)
    · obtain ⟨T, x1, y1, rfl, hT, rfl, hx1, hy1⟩ := hy
      obtain ⟨d1, hd1, rx⟩ := ra.get hx1
      obtain ⟨d2, hd2, ry⟩ := rb.get hy1
      have e12 := Option.some.inj (hd1.symm.trans hd2)
      subst e12
      have gT := same_new (o := .tup [x1, y1]) hT
      have sa := (sh.trans g1.same).trans gT
      refine ⟨T, [x1, y1], rfl, SqT.of upd_same, rfl, x1, [y1], rfl, y1, [], rfl, rfl, rfl, ?_⟩
      refine ⟨_, rfl, _, rfl, Sh, d1, x1, y1, m - 1, rfl, by omega, sa, rx, ry, fitsL_get hf.2 hd1, fun H4 g4 => ?_⟩
      refine put (Gr.of_same (gT.trans g4)) (W1.trans (gT.trans g4)) ?_
      rw [hI, List.replicate_succ']
    · refine ⟨D, List.replicate ds.length true, rfl, SqL.of ?_, ?_⟩
      · rw [e1, hI, List.map_replicate]
      · rw [show (List.replicate ds.length true).all id = true by simp]
        exact q _ g1.same
  | dict kvs => cases r1
theorem cal_law_same (F : Dfn K mg "_law_same" s_law_same) (B : Bt mg) : ∀ n, Cal P w K mg base n "_law_same" (sp_law_same n)
  | 0 => cal_zero F (ps := ["_law_found", "_law_due"]) (fun _ _ _ _ _ _ us hl => match us, hl with | [_, _], _ => rfl) (fun vs H Q E h => by
    obtain ⟨Sh, d, v, u, m, rfl, hm, _⟩ := h
    omega)
  | n + 1 => same_turn F B (cal_law_same F B n)
end

--USES values29 law_box law_any law_same
abbrev s_law_states : Stmt := topS 10
abbrev N_law_states : List Str := ["_law_worth", "_law_mode"]
theorem sc_law_states : FnScope N_law_states ["_law_worth"] (defScope s_law_states) := ⟨rfl, rfl, rfl, by decide +kernel, rfl, by decide +kernel, by decide +kernel⟩

abbrev s_law_under : Stmt := topS 11
abbrev N_law_under : List Str := ["_law_one", "_law_other", "_law_mode", "_law_k"]
theorem sc_law_under : FnScope N_law_under ["_law_one", "_law_other"] (defScope s_law_under) := ⟨rfl, rfl, rfl, by decide +kernel, rfl, by decide +kernel, by decide +kernel⟩

def sp_law_states : Sp := sp_states_of
theorem div8 : ∀ n, n < 8 → ∀ k, k < 3 → decide (n / 2 ^ k % 2 = 1) = n.testBit k := by decide +kernel
theorem mem8 : ∀ m, m < 8 → ∀ n, n < 8 → ((statesL m).map fun k => (statesL n).contains k).all id = belowN m n := by decide +kernel
theorem inV_vn (k : Nat) : ∀ l : List Nat, inV (vn k) (l.map vn) = l.contains k
  | [] => rfl
  | a :: l => by
    show (eqV (vn a) (vn k) || inV (vn k) (l.map vn)) = _
    rw [inV_vn k l, List.contains_cons]
    congr 1
    show ((a : Int) == (k : Int)) = (k == a)
    by_cases h : a = k
    · subst h
      simp
    · rw [beq_false_of_ne (show (a : Int) ≠ (k : Int) by omega), beq_false_of_ne (Ne.symm h)]
theorem flat_vn : ∀ l : List Nat, (l.map vn).all flatV = true
  | [] => rfl
  | a :: l => by
    show (flatV (vn a) && (l.map vn).all flatV) = true
    rw [flat_vn l]
    rfl
section
variable {P : Program} {w : World} {K : PySem.W.Frag} {mg : Str → Option Value} {base : Heap}
theorem cal_law_states (F : Dfn K mg "_law_states" s_law_states) (B : Bt mg) : Cal P w K mg base 1 "_law_states" sp_states_of := by
  refine cal_of F sc_law_states (fun _ _ _ _ _ _ us hl => match us, hl with | [_], _ => rfl) (fun vs H Q E h => ?_) (fun f cdv A outer s H vs Q E hr h => ?_)
  · obtain ⟨i, rfl, _⟩ := h
    rfl
  obtain ⟨n, rfl, h8, q⟩ := h
  refine ⟨_, (pss_one (ps_ret (pe_lc (own := [("_law_mode", 1)]) (g := gName 1) rfl sc_law_states.nd (pi_range1 (by rfl) B.range (pa_cons pe_int pa_nil)) (blkOk_by (own := [("_law_mode", 1)]) (N := N_law_states) (sc := defScope s_law_states) (by decide +kernel)) (fun _ _ _ _ _ => (pg_name (i := 1) sc_law_states.nd rfl (by first | exact .inl rfl | exact .inr rfl))) (fun _ _ _ _ _ => (pts_one (pt_cmpR op_eq (pe_op op_mod (pe_callTy call_int1 (by rfl) B.int (by decide +kernel) (pa_cons (pe_op op_fdiv (pv 0) (pe_ix (k_ix_list K rfl) (pe_lst (pa_cons pe_int (pa_cons pe_int (pa_cons pe_int pa_nil)))) (pv 1) (fun _ _ => rfl))) pa_nil)) pe_int) pe_int (nomark _)))) (fun _ _ _ _ _ => (pv 1))))), ?_⟩
  refine ⟨3, rfl, by decide, by decide, fun D hD => ?_⟩
  refine lcw pureW (Same.refl H) hD walk_r0 (fun i acc _ => acc = (([0, 1, 2].take i).filter fun k => n.testBit k).map vn) rfl (by decide) (fun _ H' _ _ => trivial)
    (fun i x S1 H1 H1' acc hi g1 W1 s1 e1 hI hy put skip => ?_) (fun S1 H1 acc g1 W1 s1 e1 l1 hI => ?_)
  · obtain ⟨rfl, rfl⟩ := hy
    have hi3 : i < 3 := hi
    have et : ([0, 1, 2] : List Nat)[i]? = some i := by
      obtain rfl | rfl | rfl : i = 0 ∨ i = 1 ∨ i = 2 := by omega
      · rfl
      · rfl
      · rfl
    refine ⟨rfl, ?_⟩
    refine ⟨_, rfl, (by show 3 ≤ sizeLine; decide), fun p hp => ?_⟩
    have gT := same_new (o := .lst [vn 1, vn 2, vn 4]) hp
    refine ⟨_, rfl, p, _, i, vn (2 ^ i), rfl, rfl, SqL.of upd_same, atI_nat ?_, ?_⟩
    · obtain rfl | rfl | rfl : i = 0 ∨ i = 1 ∨ i = 2 := by omega
      · rfl
      · rfl
      · rfl
    have hpos : (0 : Int) < ((2 ^ i : Nat) : Int) ∧ ((2 ^ i : Nat) : Int) < 1073741824 := by
      obtain rfl | rfl | rfl : i = 0 ∨ i = 1 ∨ i = 2 := by omega
      · decide
      · decide
      · decide
    refine ⟨_, _, rfl, rfl, hpos, .inl ⟨_, rfl, _, _, rfl, rfl, (by show (0 : Int) < 2; decide), rfl, _, rfl, ?_⟩⟩
    have ed : ((n : Int) / ((2 ^ i : Nat) : Int)) % 2 = ((n / 2 ^ i % 2 : Nat) : Int) := by
      rw [Int.natCast_emod, Int.natCast_ediv]
      rfl
    refine iteC (c := n.testBit i) ?_ (fun c => ?_) (fun c => ?_)
    · show decide (V.int (((n : Int) / ((2 ^ i : Nat) : Int)) % 2) = V.int 1) = _
      rw [ed, show decide (V.int ((n / 2 ^ i % 2 : Nat) : Int) = V.int 1) = decide (n / 2 ^ i % 2 = 1) from (by rw [show (V.int 1) = vn 1 from rfl, dec_vn]; rfl), div8 n h8 i hi3]
    · refine ⟨_, rfl, put (Gr.of_same gT) (W1.trans gT) ?_⟩
      rw [hI, List.take_add_one, et, List.filter_append, List.map_append]
      simp [List.filter, c]
    · refine skip (Gr.of_same gT) (W1.trans gT) ?_
      rw [hI, List.take_add_one, et, List.filter_append, List.map_append]
      simp [List.filter, c]
  · refine q _ D g1.same hD ?_
    rw [e1, hI]
    rfl
theorem under_turn {k : Nat} (F : Dfn K mg "_law_under" s_law_under) (B : Bt mg) (c__law_states : Cal P w K mg base 1 "_law_states" sp_states_of) (c__law_under : Cal P w K mg base k "_law_under" (sp_below (k - 1))) (hk1 : 1 ≤ k) : Cal P w K mg base (k + 1) "_law_under" (sp_below k) := by
  refine cal_of F sc_law_under (fun _ _ _ _ _ _ us hl => match us, hl with | [_, _], _ => rfl) (fun vs H Q E h => ?_) (fun f cdv A outer s H vs Q E hr h => ?_)
  · rcases h with ⟨m, n, rfl, _⟩ | ⟨a, b, xs, ys, rfl, _⟩ <;> rfl
  refine ⟨_, (pss_cons (ps_if (pt_val (pe_callB (k_isi K rfl) (by rfl) B.isinstance (by decide +kernel) (pa_cons (pv 0) (pa_cons (pe_bltn (v := .ty "int") (by rfl) B.int (by decide +kernel) rfl) pa_nil)))) (pss_one (ps_ret (pe_callB (k_all K rfl rfl) (by rfl) B.all (by decide +kernel) (pa_cons (pe_lc (own := [("_law_mode", 2)]) (g := gName 2) (tt := tYes) rfl sc_law_under.nd (pi_list (pe_cc c__law_states hr (by omega) (by rfl) (pa_cons (pv 0) pa_nil))) (blkOk_by (own := [("_law_mode", 2)]) (N := N_law_under) (sc := defScope s_law_under) (by decide +kernel)) (fun _ _ _ _ _ => (pg_name (i := 2) sc_law_under.nd rfl (by first | exact .inl rfl | exact .inr rfl))) (fun _ _ _ _ _ => pts_nil) (fun _ _ _ _ _ => (pe_cmpR (k_op_in_seq K rfl) (pv 2) (pe_cc c__law_states hr (by omega) (by rfl) (pa_cons (pv 1) pa_nil)) (by rfl)))) pa_nil)))) pss_nil)
      (pss_one (ps_ret (pe_callB (k_all K rfl rfl) (by rfl) B.all (by decide +kernel) (pa_cons (pe_lc (own := [("_law_k", 3)]) (g := gName 3) (tt := tYes) rfl sc_law_under.nd (pi_range1 (by rfl) B.range (pa_cons (pe_callB (k_len_seq K rfl) (by rfl) B.len PySem.boot_len (pa_cons (pv 0) pa_nil)) pa_nil)) (blkOk_by (own := [("_law_k", 3)]) (N := N_law_under) (sc := defScope s_law_under) (by decide +kernel)) (fun _ _ _ _ _ => (pg_name (i := 3) sc_law_under.nd rfl (by first | exact .inl rfl | exact .inr rfl))) (fun _ _ _ _ _ => pts_nil) (fun _ _ _ _ _ => (pe_cc c__law_under hr (by omega) (by rfl) (pa_cons (pe_ix (k_ix_tup K rfl) (pv 0) (pv 3) (fun _ _ => rfl)) (pa_cons (pe_ix (k_ix_tup K rfl) (pv 1) (pv 3) (fun _ _ => rfl)) pa_nil))))) pa_nil))))), ?_⟩
  rcases h with ⟨m, n, rfl, hm, hn, hk, q⟩ | ⟨a, b, xs, ys, rfl, ha, hb, hl, h64, hx, hy, hk, q⟩
  · refine ⟨_, rfl, _, _, _, _, true, rfl, .ty _, .base (.int _), kit_ty (by decide +kernel), _, rfl, ?_⟩
    refine ⟨_, rfl, m, rfl, hm, fun H1 p1 g1 hp1 e1 => ?_⟩
    refine ⟨p1, rfl, ⟨_, SqL.of e1⟩, fun D hD => ?_⟩
    have hlen : (statesL m).length ≤ 3 := List.length_filter_le _ _
    refine lcw pureW (Same.refl H1) hD (walk_list (xs := (statesL m).map vn)) (fun i acc _ => acc = ((statesL m).take i).map fun k => V.bl ((statesL n).contains k)) rfl (by rw [List.length_map]; omega) (fun S' H' g _ => SqL.of (g.same _ _ e1))
      (fun i x S1 H2 H2' acc hi g2 W2 s2 e2 hI hy' put skip => ?_) (fun S1 H2 acc g2 W2 s2 e2 l2 hI => ?_)
    · obtain ⟨rfl, hx1⟩ := hy'
      obtain ⟨k1, hk1', rfl⟩ := getm hx1
      refine ⟨rfl, ?_⟩
      refine ⟨_, rfl, _, rfl, n, rfl, hn, fun H3 p3 g3 hp3 e3 => ?_⟩
      refine ⟨p3, _, rfl, .inl (SqL.of e3), rfl, flat_vn _, ?_⟩
      refine put (Gr.of_same g3) (W2.trans g3) ?_
      rw [hI, map_take_succ hk1']
      show _ ++ [V.bl (inV (vn k1) ((statesL n).map vn))] = _
      rw [inV_vn]
    · refine ⟨D, (statesL m).map fun k => (statesL n).contains k, rfl, SqL.of ?_, ?_⟩
      · rw [e2, hI, List.take_of_length_le (by rw [List.length_map]; exact Nat.le_refl _), List.map_map]
        rfl
      · rw [mem8 m hm n hn]
        exact q _ (g1.trans g2.same)
  · refine ⟨_, rfl, _, _, _, _, false, rfl, .ty _, .base (.tup ha), kit_ty (by decide +kernel), _, rfl, ?_⟩
    refine ⟨_, rfl, a, _, rfl, .inr (SqT.of ha), _, rfl, by rw [List.length_map]; omega, by rw [List.length_map]; omega, fun D hD => ?_⟩
    refine lcw pureW (Same.refl H) hD walk_r0 (fun i acc _ => acc = ((xs.zip ys).take i).map fun p => V.bl (belowN p.1 p.2)) rfl (by rw [List.length_map]; omega) (fun S' H' g _ => trivial)
      (fun i x S1 H1 H1' acc hi g1 W1 s1 e1 hI hy' put skip => ?_) (fun S1 H1 acc g1 W1 s1 e1 l1 hI => ?_)
    · obtain ⟨rfl, rfl⟩ := hy'
      rw [List.length_map] at hi
      have hi' : i < xs.length := by omega
      have hi2 : i < ys.length := by omega
      have hm : xs[i]? = some xs[i] := List.getElem?_eq_getElem hi'
      have hn : ys[i]? = some ys[i] := List.getElem?_eq_getElem hi2
      refine ⟨rfl, ?_⟩
      refine ⟨_, rfl, _, rfl, a, _, i, vn xs[i], rfl, rfl, SqT.of (g1.same _ _ ha), atI_nat (by rw [List.getElem?_map, hm]; rfl), ?_⟩
      refine ⟨_, rfl, _, rfl, b, _, i, vn ys[i], rfl, rfl, SqT.of (g1.same _ _ hb), atI_nat (by rw [List.getElem?_map, hn]; rfl), ?_⟩
      refine .inl ⟨xs[i], ys[i], rfl, hx _ (List.getElem_mem hi'), hy _ (List.getElem_mem hi2), by omega, fun H4 g4 => ?_⟩
      refine put (Gr.of_same g4) (W1.trans g4) ?_
      rw [hI, zip_take hm hn, List.map_append]
      rfl
    · refine ⟨D, (xs.zip ys).map fun p => belowN p.1 p.2, rfl, SqL.of ?_, ?_⟩
      · rw [e1, hI, List.take_of_length_le (by rw [List.length_zip, List.length_map]; omega), List.map_map]
        rfl
      · rw [List.all_map]
        exact q _ g1.same
theorem cal_law_under (F : Dfn K mg "_law_under" s_law_under) (B : Bt mg) (c : Cal P w K mg base 1 "_law_states" sp_states_of) : ∀ n, Cal P w K mg base (n + 1) "_law_under" (sp_below n)
  | 0 => (cal_zero F (ps := ["_law_one", "_law_other"]) (fun _ _ _ _ _ _ us hl => match us, hl with | [_, _], _ => rfl) (fun vs H Q E h => by
    rcases h with ⟨_, _, _, _, _, h, _⟩ | ⟨_, _, _, _, _, _, _, _, _, _, _, h, _⟩ <;> omega)).mono (Nat.zero_le _)
  | n + 1 => under_turn F B c (cal_law_under F B c n) (by omega)
end

--USES law29a
abbrev s_law : Stmt := topS 12
abbrev N_law : List Str := ["_law_script", "_law_box_here", "_law_turn", "_law_count", "_law_size", "_law_one", "_law_other", "_law_at", "_law_pair", "_law_due", "_law_told", "_law_k", "_law_worth", "_law_states_here"]
theorem sc_law : FnScope N_law ["_law_script"] (defScope s_law) := ⟨rfl, rfl, rfl, by decide +kernel, rfl, by decide +kernel, by decide +kernel⟩

/-- the two values of a turn -/
def PairOk (H : Hp) (u v : V) (xs ys : List Nat) : Prop := (∀ x ∈ xs, x < 8) ∧ (∀ y ∈ ys, y < 8) ∧
  ((∃ m n, xs = [m] ∧ ys = [n] ∧ u = vn m ∧ v = vn n) ∨ ∃ a b, u = .ref a ∧ v = .ref b ∧ H a = some (.tup (xs.map vn)) ∧ H b = some (.tup (ys.map vn)) ∧ xs.length = ys.length ∧ xs.length ≤ 64)
theorem PairOk.mono {H H' : Hp} {u v : V} {xs ys : List Nat} (h : PairOk H u v xs ys) (g : Same H H') : PairOk H' u v xs ys := by
  obtain ⟨h1, h2, h | ⟨a, b, e1, e2, ha, hb, r⟩⟩ := h
  · exact ⟨h1, h2, .inl h⟩
  · exact ⟨h1, h2, .inr ⟨a, b, e1, e2, g _ _ ha, g _ _ hb, r⟩⟩
theorem PairOk.self {H : Hp} {u v : V} {xs ys : List Nat} (h : PairOk H u v xs ys) : PairOk H u u xs xs := by
  obtain ⟨h1, h2, ⟨m, n, e1, e2, e3, e4⟩ | ⟨a, b, e1, e2, ha, hb, r, r2⟩⟩ := h
  · exact ⟨h1, h1, .inl ⟨m, m, e1, e1, e3, e3⟩⟩
  · exact ⟨h1, h1, .inr ⟨a, a, e1, e1, ha, ha, rfl, r2⟩⟩
theorem PairOk.sp {H : Hp} {u v : V} {xs ys : List Nat} {k : Nat} {Q : VK} {E : XK} (h : PairOk H u v xs ys) (hk : 2 ≤ k) (q : ∀ H', Same H H' → Q (.bl (belowL xs ys)) H') : sp_below k [u, v] H Q E := by
  obtain ⟨h1, h2, ⟨m, n, rfl, rfl, rfl, rfl⟩ | ⟨a, b, rfl, rfl, ha, hb, r, r2⟩⟩ := h
  · refine .inl ⟨m, n, rfl, h1 m (List.mem_singleton.mpr rfl), h2 n (List.mem_singleton.mpr rfl), by omega, fun H' g => ?_⟩
    have := q H' g
    have e : belowL [m] [n] = belowN m n := by
      show (belowN m n && true) = _
      rw [Bool.and_true]
    rw [e] at this
    exact this
  · exact .inr ⟨a, b, xs, ys, rfl, ha, hb, r, r2, h1, h2, hk, q⟩
theorem below_self : ∀ xs : List Nat, belowL xs xs = true
  | [] => rfl
  | x :: xs => by
    show (belowN x x && belowL xs xs) = true
    rw [below_self xs]
    show (((x &&& x) == x) && true) = true
    rw [Nat.and_self]
    simp
theorem one_elt {l : List Nat} (h : l.length = 1) (h0 : 0 < l.length) : l = [l[0]] := by
  match l, h with
  | [m], _ => rfl
theorem or8 {a b : Nat} (ha : a < 8) (hb : b < 8) : a ||| b < 8 := Nat.or_lt_two_pow (n := 3) ha hb
theorem rpl_vn {Sh : Hp} : ∀ l : List Nat, RpL Sh (l.map vn) (l.map fun n => PyData.int ((n : Nat) : Int))
  | [] => .nil
  | n :: l => .cons (.int _) (rpl_vn l)
theorem fits_ints (l : List Nat) (n : Nat) : fitsL (l.map fun n => PyData.int ((n : Nat) : Int)) n = true := by
  induction l with
  | nil => rfl
  | cons a l ih =>
    show (fits (PyData.int _) n && fitsL (l.map _) n) = true
    rw [ih]
    rfl
section
variable {P : Program} {w : World} {K : PySem.W.Frag} {mg : Str → Option Value} {base : Heap}
theorem ok_law {f : Addr} {fd : FuncData} (F : Fun K "law" "law" s_law f fd) (B : Bt mg) (c_count_worths : Cal P w K mg base 1 "count_worths" sp_count_worths) (c_states_of : Cal P w K mg base 1 "states_of" sp_states_of) (c_is_below : Cal P w K mg base 2 "is_below" (sp_below 2)) (c__law_box : Cal P w K mg base 1 "_law_box" (sp_law_box K))
    (c__law_take : Cal P w K mg base 1 "_law_take" sp_law_take) (c__law_any : Cal P w K mg base 2 "_law_any" (sp_law_any K)) (c__law_same : Cal P w K mg base 5 "_law_same" (sp_law_same 5)) (c__law_states : Cal P w K mg base 1 "_law_states" sp_states_of) (c__law_under : Cal P w K mg base 3 "_law_under" (sp_below 2)) : FnOk P w K mg base CX0 6 f fd ["_law_script"] (sp_law K) := by
  refine okf_of F sc_law (fun vs H Q E h => ?_) (fun cdv A outer s H vs Q E hr h => ?_)
  · obtain ⟨a, ns, rfl, _⟩ := h
    rfl
  obtain ⟨a, ns, rfl, hS, hl, q⟩ := h
  refine ⟨_, (pss_cons (ps_set (i := 1) sc_law.nd rfl (by first | exact .inl rfl | exact .inr rfl) (pe_cc c__law_box hr (by omega) (by rfl) (pa_cons (pv 0) pa_nil)))
      (pss_cons (ps_for PassesOwn.never rfl (pi_range1 (by rfl) B.range (pa_cons pe_int pa_nil)) (pg_name (i := 2) sc_law.nd rfl (by first | exact .inl rfl | exact .inr rfl)) (pss_cons (ps_set (i := 3) sc_law.nd rfl (by first | exact .inl rfl | exact .inr rfl) (pe_ix (k_ix_list K rfl) (pe_lst (pa_cons pe_int (pa_cons pe_int (pa_cons pe_int pa_nil)))) (pe_cc c__law_take hr (by omega) (by rfl) (pa_cons (pv 1) (pa_cons pe_int pa_nil))) (fun _ _ => rfl)))
      (pss_cons (ps_set (i := 4) sc_law.nd rfl (by first | exact .inl rfl | exact .inr rfl) (pe_cc c__law_any hr (by omega) (by rfl) (pa_cons (pv 1) (pa_cons (pe_lst (pa_cons pe_int (pa_cons (pv 3) (pa_cons (pe_op op_mul (pv 3) (pv 3)) pa_nil)))) pa_nil))))
      (pss_cons (ps_set (i := 5) sc_law.nd rfl (by first | exact .inl rfl | exact .inr rfl) (pe_lc (own := [("_law_k", 11)]) (g := gName 11) (tt := tYes) rfl sc_law.nd (pi_range1 (by rfl) B.range (pa_cons (pv 4) pa_nil)) (blkOk_by (own := [("_law_k", 11)]) (N := N_law) (sc := defScope s_law) (by decide +kernel)) (fun _ _ _ _ _ => (pg_name (i := 11) sc_law.nd rfl (by first | exact .inl rfl | exact .inr rfl))) (fun _ _ _ _ _ => pts_nil) (fun _ _ _ _ _ => (pe_cc c__law_take hr (by omega) (by rfl) (pa_cons (pv 1) (pa_cons (pv 3) pa_nil))))))
      (pss_cons (ps_set (i := 6) sc_law.nd rfl (by first | exact .inl rfl | exact .inr rfl) (pe_lc (own := [("_law_k", 11)]) (g := gName 11) (tt := tYes) rfl sc_law.nd (pi_range1 (by rfl) B.range (pa_cons (pv 4) pa_nil)) (blkOk_by (own := [("_law_k", 11)]) (N := N_law) (sc := defScope s_law) (by decide +kernel)) (fun _ _ _ _ _ => (pg_name (i := 11) sc_law.nd rfl (by first | exact .inl rfl | exact .inr rfl))) (fun _ _ _ _ _ => pts_nil) (fun _ _ _ _ _ => (pe_cc c__law_take hr (by omega) (by rfl) (pa_cons (pv 1) (pa_cons (pv 3) pa_nil))))))
      (C8.pss_cut (ps_if (pt_cmpR op_eq (pe_cc c__law_take hr (by omega) (by rfl) (pa_cons (pv 1) (pa_cons pe_int pa_nil))) pe_int (nomark _)) (pss_cons (ps_set (i := 6) sc_law.nd rfl (by first | exact .inl rfl | exact .inr rfl) (pe_lc (own := [("_law_k", 11)]) (g := gName 11) (tt := tYes) rfl sc_law.nd (pi_range1 (by rfl) B.range (pa_cons (pv 4) pa_nil)) (blkOk_by (own := [("_law_k", 11)]) (N := N_law) (sc := defScope s_law) (by decide +kernel)) (fun _ _ _ _ _ => (pg_name (i := 11) sc_law.nd rfl (by first | exact .inl rfl | exact .inr rfl))) (fun _ _ _ _ _ => pts_nil) (fun _ _ _ _ _ => (pe_op op_or (pe_ix (k_ix_list K rfl) (pv 5) (pv 11) (fun _ _ => rfl)) (pe_ix (k_ix_list K rfl) (pv 6) (pv 11) (fun _ _ => rfl))))))
      (pss_cons (ps_set (i := 7) sc_law.nd rfl (by first | exact .inl rfl | exact .inr rfl) (pe_cc c__law_take hr (by omega) (by rfl) (pa_cons (pv 1) (pa_cons (pv 4) pa_nil))))
      (pss_one (ps_asg (pe_cc c__law_any hr (by omega) (by rfl) (pa_cons (pv 1) (pa_cons (pe_lst (pa_cons (pe_ix (k_ix_list K rfl) (pv 6) (pv 7) (fun _ _ => rfl)) (pa_cons (pe_cc c__law_take hr (by omega) (by rfl) (pa_cons (pv 1) (pa_cons (pv 3) pa_nil))) pa_nil))) pa_nil))) (pg_sub (pv 6) (pv 7) set_list))))) pss_nil)
      (C8.pss_cut (ps_set (i := 8) sc_law.nd rfl (by first | exact .inl rfl | exact .inr rfl) (pe_ifExp (pt_cmpR op_eq (pv 4) pe_int (nomark _)) (pe_lst (pa_cons (pe_ix (k_ix_list K rfl) (pv 5) pe_int (fun _ _ => rfl)) (pa_cons (pe_ix (k_ix_list K rfl) (pv 6) pe_int (fun _ _ => rfl)) pa_nil))) (pe_lst (pa_cons (pe_callTy (k_tuple_of K rfl) (by rfl) B.tuple (by decide +kernel) (pa_cons (pv 5) pa_nil)) (pa_cons (pe_callTy (k_tuple_of K rfl) (by rfl) B.tuple (by decide +kernel) (pa_cons (pv 6) pa_nil)) pa_nil)))))
      (pss_cons (ps_set (i := 9) sc_law.nd rfl (by first | exact .inl rfl | exact .inr rfl) (pe_cc c__law_under hr (by omega) (by rfl) (pa_cons (pe_ix (k_ix_list K rfl) (pv 8) pe_int (fun _ _ => rfl)) (pa_cons (pe_ix (k_ix_list K rfl) (pv 8) pe_int (fun _ _ => rfl)) pa_nil))))
      (pss_cons (ps_if (pt_not (pt_val (pe_cc c__law_same hr (by omega) (by rfl) (pa_cons (pe_lst (pa_cons (pe_cc c_is_below hr (by omega) (by rfl) (pa_cons (pe_ix (k_ix_list K rfl) (pv 8) pe_int (fun _ _ => rfl)) (pa_cons (pe_ix (k_ix_list K rfl) (pv 8) pe_int (fun _ _ => rfl)) pa_nil))) (pa_cons (pe_cc c_is_below hr (by omega) (by rfl) (pa_cons (pe_ix (k_ix_list K rfl) (pv 8) pe_int (fun _ _ => rfl)) (pa_cons (pe_ix (k_ix_list K rfl) (pv 8) pe_int (fun _ _ => rfl)) pa_nil))) pa_nil))) (pa_cons (pe_lst (pa_cons (pv 9) (pa_cons pe_bl pa_nil))) pa_nil))))) (pss_one (ps_ret pe_bl)) pss_nil)
      (pss_cons (ps_set (i := 10) sc_law.nd rfl (by first | exact .inl rfl | exact .inr rfl) (pe_cc c_states_of hr (by omega) (by rfl) (pa_cons (pe_ix (k_ix_list K rfl) (pv 5) pe_int (fun _ _ => rfl)) pa_nil)))
      (pss_cons (ps_if (pt_not (pt_val (pe_cc c__law_same hr (by omega) (by rfl) (pa_cons (pv 10) (pa_cons (pe_cc c__law_states hr (by omega) (by rfl) (pa_cons (pe_ix (k_ix_list K rfl) (pv 5) pe_int (fun _ _ => rfl)) pa_nil)) pa_nil))))) (pss_one (ps_ret pe_bl)) pss_nil)
      (pss_one (ps_expr (pe_bm PySem.F.plainAttrs_list PySem.F.slot_list_append PySem.F.type_list_append mt_append (pv 10) (pa_cons pe_int pa_nil)))))))))))))))
      (pss_cons (ps_if (pt_not (pt_val (pe_cc c__law_same hr (by omega) (by rfl) (pa_cons (pe_lc (own := [("_law_worth", 12)]) (g := gName 12) (tt := tYes) rfl sc_law.nd (pi_range1 (by rfl) B.range (pa_cons pe_int pa_nil)) (blkOk_by (own := [("_law_worth", 12)]) (N := N_law) (sc := defScope s_law) (by decide +kernel)) (fun _ _ _ _ _ => (pg_name (i := 12) sc_law.nd rfl (by first | exact .inl rfl | exact .inr rfl))) (fun _ _ _ _ _ => pts_nil) (fun _ _ _ _ _ => (pe_cc c_states_of hr (by omega) (by rfl) (pa_cons (pv 12) pa_nil)))) (pa_cons (pe_lc (own := [("_law_worth", 12)]) (g := gName 12) (tt := tYes) rfl sc_law.nd (pi_range1 (by rfl) B.range (pa_cons pe_int pa_nil)) (blkOk_by (own := [("_law_worth", 12)]) (N := N_law) (sc := defScope s_law) (by decide +kernel)) (fun _ _ _ _ _ => (pg_name (i := 12) sc_law.nd rfl (by first | exact .inl rfl | exact .inr rfl))) (fun _ _ _ _ _ => pts_nil) (fun _ _ _ _ _ => (pe_cc c__law_states hr (by omega) (by rfl) (pa_cons (pv 12) pa_nil)))) pa_nil))))) (pss_one (ps_ret pe_bl)) pss_nil)
      (pss_one (ps_ret (pe_cc c__law_same hr (by omega) (by rfl) (pa_cons (pe_lc (own := [("_law_states_here", 13)]) (g := gName 13) (tt := tYes) rfl sc_law.nd (pi_tup (pe_tup (pa_cons pe_int (pa_cons pe_int (pa_cons pe_int pa_nil))))) (blkOk_by (own := [("_law_states_here", 13)]) (N := N_law) (sc := defScope s_law) (by decide +kernel)) (fun _ _ _ _ _ => (pg_name (i := 13) sc_law.nd rfl (by first | exact .inl rfl | exact .inr rfl))) (fun _ _ _ _ _ => pts_nil) (fun _ _ _ _ _ => (pe_cc c_count_worths hr (by omega) (by rfl) (pa_cons (pv 13) pa_nil)))) (pa_cons (pe_lst (pa_cons pe_int (pa_cons pe_int (pa_cons pe_int pa_nil)))) pa_nil)))))))), ?_⟩
  refine ⟨_, rfl, a, ns, rfl, hS, hl, fun S1 H1 b _ W1 => ?_⟩
  refine ⟨6, rfl, by decide, by decide, ?_⟩
  refine forw (M := [b]) W1 walk_r0 (fun i σ' _ _ => ∃ y2 y3 y4 y5 y6 y7 y8 y9 y10 y11 y12 y13, σ' = [some (.ref a), some (.ref b), y2, y3, y4, y5, y6, y7, y8, y9, y10, y11, y12, y13]) ⟨_, _, _, _, _, _, _, _, _, _, _, _, rfl⟩ (fun _ _ _ _ _ _ _ => trivial)
    (fun i x σ' S3 H3 H3' hi g3 W3 hI hy => ?_) (fun σ' S3 H3 g3 W3 hI => ?_)
  · obtain ⟨e3, rfl⟩ := hy
    subst e3
    obtain ⟨y2, y3, y4, y5, y6, y7, y8, y9, y10, y11, y12, y13, rfl⟩ := hI
    -- count
    refine ⟨(by show 3 ≤ sizeLine; decide), fun p4 hp4 => ?_⟩
    have W4 := (boxW b).same W3 (same_new (o := .lst [vn 2, vn 4, vn 8]) hp4)
    refine ⟨_, rfl, b, S3, 3, rfl, W4, by decide, by decide, fun H5 r5 g5 W5 h5 => ?_⟩
    have n4 : p4 ≠ b := Ne.symm (ne_nn W3.bs hp4)
    obtain ⟨cnt, ec, hc2, hc8⟩ : ∃ cnt : Nat, ([vn 2, vn 4, vn 8] : List V)[r5]? = some (vn cnt) ∧ 2 ≤ cnt ∧ cnt ≤ 8 := by
      obtain rfl | rfl | rfl : r5 = 0 ∨ r5 = 1 ∨ r5 = 2 := by omega
      · exact ⟨2, rfl, by decide, by decide⟩
      · exact ⟨4, rfl, by decide, by decide⟩
      · exact ⟨8, rfl, by decide, by decide⟩
    refine ⟨p4, _, r5, vn cnt, rfl, rfl, SqL.of (g5.kp _ _ (fun z => n4 (List.mem_singleton.mp z)) upd_same), atI_nat ec, ?_⟩
    have G5 : Gr [b] S3 H3' S3 H5 := Gr.fromNew hp4 g5
    -- size
    refine ⟨_, rfl, _, rfl, _, rfl, _, rfl, _, _, rfl, rfl, .inl ⟨by omega, by omega⟩, (by show 3 ≤ sizeLine; decide), fun p6 hp6 => ?_⟩
    have ecc : V.int ((cnt : Int) * (cnt : Int)) = vn (cnt * cnt) := congrArg V.int (by rw [Int.natCast_mul])
    have W6 := (boxW b).same W5 (same_new (o := .lst [vn 1, vn cnt, V.int ((cnt : Int) * (cnt : Int))]) hp6)
    refine ⟨b, S3, W6, .inl ⟨p6, _, rfl, Ne.symm (ne_nn W5.bs hp6), SqL.of upd_same, (by show 1 ≤ 3; decide), (by show 3 ≤ 1000; decide), fun H7 r7 x7 g7 W7 hx7 => ?_⟩⟩
    have hcc : cnt * cnt ≤ 64 := Nat.le_trans (Nat.mul_le_mul hc8 hc8) (by decide)
    have hcc1 : 1 * 1 ≤ cnt * cnt := Nat.mul_le_mul (by omega) (by omega)
    obtain ⟨sz7, rfl, hs1, hs64⟩ : ∃ sz7 : Nat, x7 = vn sz7 ∧ 1 ≤ sz7 ∧ sz7 ≤ 64 := by
      have hm := List.mem_of_getElem? hx7
      replace hm : x7 ∈ [vn 1, vn cnt, V.int ((cnt : Int) * (cnt : Int))] := hm
      rw [ecc] at hm
      simp only [List.mem_cons, List.not_mem_nil, or_false] at hm
      rcases hm with rfl | rfl | rfl
      · exact ⟨1, rfl, by decide, by decide⟩
      · exact ⟨cnt, rfl, by omega, by omega⟩
      · exact ⟨cnt * cnt, rfl, by omega, hcc⟩
    have G7 : Gr [b] S3 H3' S3 H7 := G5.trans (Gr.fromNew hp6 g7)
    -- one
    refine ⟨_, rfl, _, rfl, by omega, by omega, fun D hD => ?_⟩
    refine lcw (boxW b) W7 hD walk_r0 (fun i acc S' => S' = S3 ∧ ∃ xs : List Nat, acc = xs.map vn ∧ xs.length = i ∧ ∀ x ∈ xs, x < 8) ⟨rfl, [], rfl, rfl, fun _ h => nomatch h⟩ (by omega) (fun _ _ _ _ => trivial)
      (fun i x S8 H8 H8' acc hi g8 W8 s8 e8 hI hy put skip => ?_) (fun S8 H8 acc g8 W8 s8 e8 l8 hI => ?_)
    · obtain ⟨e8', rfl⟩ := hy
      subst e8'
      obtain ⟨rfl, xs, rfl, hxl, hx8⟩ := hI
      refine ⟨rfl, _, rfl, _, rfl, b, S8, _, rfl, W8, by omega, by omega, fun H9 r9 g9 W9 h9 => ?_⟩
      refine put g9 W9 ⟨rfl, xs ++ [r9], by rw [List.map_append]; rfl, by rw [List.length_append]; show _ + 1 = _; omega, fun x hx => ?_⟩
      rcases List.mem_append.mp hx with h | h
      · exact hx8 x h
      · rw [List.mem_singleton.mp h]
        omega
    obtain ⟨rfl, xs, rfl, hxl, hx8⟩ := hI
    have hxl : xs.length = sz7 := by rw [hxl]; exact Int.toNat_natCast sz7
    have G8 : Gr [b] S8 H3' S8 H8 := G7.trans g8
    have nD : D ≠ b := Ne.symm (ne_nn W7.bs hD)
    have mD : D ∉ [b] := fun z => nD (List.mem_singleton.mp z)
    -- other
    refine ⟨_, rfl, _, rfl, by omega, by omega, fun D2 hD2 => ?_⟩
    refine lcw (boxW b) W8 hD2 walk_r0 (fun i acc S' => S' = S8 ∧ ∃ xs : List Nat, acc = xs.map vn ∧ xs.length = i ∧ ∀ x ∈ xs, x < 8) ⟨rfl, [], rfl, rfl, fun _ h => nomatch h⟩ (by omega) (fun _ _ _ _ => trivial)
      (fun i x S9 H9 H9' acc hi g9 W9 s9 e9 hI hy put skip => ?_) (fun S9 H9 acc g9 W9 s9 e9 l9 hI => ?_)
    · obtain ⟨e9', rfl⟩ := hy
      subst e9'
      obtain ⟨rfl, ys, rfl, hyl, hy8⟩ := hI
      refine ⟨rfl, _, rfl, _, rfl, b, S9, _, rfl, W9, by omega, by omega, fun H10 r10 g10 W10 h10 => ?_⟩
      refine put g10 W10 ⟨rfl, ys ++ [r10], by rw [List.map_append]; rfl, by rw [List.length_append]; show _ + 1 = _; omega, fun x hx => ?_⟩
      rcases List.mem_append.mp hx with h | h
      · exact hy8 x h
      · rw [List.mem_singleton.mp h]
        omega
    obtain ⟨rfl, ys, rfl, hyl, hy8⟩ := hI
    have hyl : ys.length = sz7 := by rw [hyl]; exact Int.toNat_natCast sz7
    have G9 : Gr [b] S9 H3' S9 H9 := G8.trans g9
    have e8' : H9 D = some (.lst (xs.map vn)) := g9.kp _ _ mD e8
    have nD2 : D2 ≠ b := Ne.symm (ne_nn W8.bs hD2)
    have mD2 : D2 ∉ [b] := fun z => nD2 (List.mem_singleton.mp z)
    -- if take(box, 2) == 0
    refine ⟨fun σ' H' => ∃ (ys' : List Nat) (D3 : Addr) (y2 y7 y8 y9 y10 y11 y12 y13 : Option V), σ' = [some (.ref a), some (.ref b), y2, some (vn cnt), some (vn sz7), some (.ref D), some (.ref D3), y7, y8, y9, y10, y11, y12, y13] ∧ H' D = some (.lst (xs.map vn)) ∧ H' D3 = some (.lst (ys'.map vn)) ∧ ys'.length = sz7 ∧ (∀ y ∈ ys', y < 8) ∧ Gr [b] S9 H3' S9 H' ∧ Wd b S9 H', ?_, fun σ' H' hM => ?_⟩
    · refine ⟨_, rfl, b, S9, 2, rfl, W9, by decide, by decide, fun H10 r10 g10 W10 h10 => ?_⟩
      have e10 : H10 D = some (.lst (xs.map vn)) := g10.kp _ _ mD e8'
      have e10' : H10 D2 = some (.lst (ys.map vn)) := g10.kp _ _ mD2 e9
      refine ⟨rfl, _, rfl, ite2 (fun c1 => ?_) (fun c1 => ?_)⟩
      · -- other = [one | other]
        refine ⟨_, rfl, _, rfl, by omega, by omega, fun D3 hD3 => ?_⟩
        refine lcw (boxW b) W10 hD3 walk_r0 (fun i acc S' => S' = S9 ∧ ∃ zs : List Nat, acc = zs.map vn ∧ zs.length = i ∧ ∀ x ∈ zs, x < 8) ⟨rfl, [], rfl, rfl, fun _ h => nomatch h⟩ (by omega) (fun _ _ _ _ => trivial)
          (fun i x S11 H11 H11' acc hi g11 W11 s11 e11 hI hy put skip => ?_) (fun S11 H11 acc g11 W11 s11 e11 l11 hI => ?_)
        · obtain ⟨e11', rfl⟩ := hy
          subst e11'
          obtain ⟨rfl, zs, rfl, hzl, hz8⟩ := hI
          have hi' : i < sz7 := by
            have : i < Int.toNat (sz7 : Int) := hi
            rw [Int.toNat_natCast] at this
            exact this
          have h1 : i < xs.length := by omega
          have h2 : i < ys.length := by omega
          refine ⟨rfl, ?_⟩
          refine ⟨_, rfl, _, rfl, D, _, i, vn xs[i], rfl, rfl, SqL.of (g11.kp _ _ mD e10), atI_nat (by rw [List.getElem?_map, List.getElem?_eq_getElem h1]; rfl), ?_⟩
          refine ⟨_, rfl, _, rfl, D2, _, i, vn ys[i], rfl, rfl, SqL.of (g11.kp _ _ mD2 e10'), atI_nat (by rw [List.getElem?_map, List.getElem?_eq_getElem h2]; rfl), _, _, rfl, rfl, ?_⟩
          refine put (Gr.refl _ _ _) W11 ⟨rfl, zs ++ [xs[i] ||| ys[i]], ?_, by rw [List.length_append]; show _ + 1 = _; omega, fun x hx => ?_⟩
          · rw [List.map_append]
            show _ ++ [V.int (Builtin.bitOr (xs[i] : Int) (ys[i] : Int))] = _
            rw [Bits.bitOr_pp (Int.natCast_nonneg _) (Int.natCast_nonneg _), Int.toNat_natCast, Int.toNat_natCast]
            rfl
          · rcases List.mem_append.mp hx with h | h
            · exact hz8 x h
            · rw [List.mem_singleton.mp h]
              exact or8 (hx8 _ (List.getElem_mem h1)) (hy8 _ (List.getElem_mem h2))
        obtain ⟨rfl, zs, rfl, hzl, hz8⟩ := hI
        have hzl : zs.length = sz7 := by rw [hzl]; exact Int.toNat_natCast sz7
        have nD3 : D3 ≠ b := Ne.symm (ne_nn W10.bs hD3)
        have mD3 : D3 ∉ [b] := fun z => nD3 (List.mem_singleton.mp z)
        have nDD3 : D ≠ D3 := ne_of_none e10 hD3
        -- at = take(box, size)
        refine ⟨_, rfl, _, rfl, b, S11, _, rfl, W11, by omega, by omega, fun H12 at12 g12 W12 h12 => ?_⟩
        have hat : at12 < zs.length := by omega
        have e12 : H12 D3 = some (.lst (zs.map vn)) := g12.kp _ _ mD3 e11
        -- other[at] = any(box, [other[at], take(box, count)])
        refine ⟨_, rfl, _, rfl, _, rfl, D3, _, at12, vn zs[at12], rfl, rfl, SqL.of e12, atI_nat (by rw [List.getElem?_map, List.getElem?_eq_getElem hat]; rfl), ?_⟩
        refine ⟨_, rfl, _, rfl, b, S11, _, rfl, W12, by omega, by omega, fun H13 r13 g13 W13 h13 => ?_⟩
        refine ⟨(by show 2 ≤ sizeLine; decide), fun p14 hp14 => ?_⟩
        have W14 := (boxW b).same W13 (same_new (o := .lst [vn zs[at12], vn r13]) hp14)
        refine ⟨b, S11, W14, .inl ⟨p14, _, rfl, Ne.symm (ne_nn W13.bs hp14), SqL.of upd_same, (by show 1 ≤ 2; decide), (by show 2 ≤ 1000; decide), fun H15 r15 x15 g15 W15 hx15 => ?_⟩⟩
        obtain ⟨nv, rfl, hnv⟩ : ∃ nv : Nat, x15 = vn nv ∧ nv < 8 := by
          have hm := List.mem_of_getElem? hx15
          simp only [List.mem_cons, List.not_mem_nil, or_false] at hm
          rcases hm with rfl | rfl
          · exact ⟨_, rfl, hz8 _ (List.getElem_mem hat)⟩
          · exact ⟨r13, rfl, by omega⟩
        have G15 : Gr [b] S11 H12 S11 H15 := g13.trans (Gr.fromNew hp14 g15)
        have e15 : H15 D3 = some (.lst (zs.map vn)) := G15.kp _ _ mD3 e12
        have e15' : H15 D = some (.lst (xs.map vn)) := G15.kp _ _ mD (g12.kp _ _ mD (g11.kp _ _ mD e10))
        refine ⟨_, rfl, _, rfl, D3, _, at12, at12, rfl, rfl, e15, ?_, ?_⟩
        · show ixN (zs.map vn).length (at12 : Int) = some at12
          rw [List.length_map]
          unfold ixN
          rw [if_pos (by omega), if_pos (by omega), Int.toNat_natCast]
        · refine ⟨zs.set at12 nv, D3, _, _, _, _, _, _, _, _, rfl, ?_, ?_, by rw [List.length_set]; exact hzl, fun y hy => ?_, ?_, ?_⟩
          · rw [upd_ne nDD3]
            exact e15'
          · rw [upd_same, List.map_set]
          · rcases List.mem_or_eq_of_mem_set hy with h | h
            · exact hz8 y h
            · rw [h]
              exact hnv
          · exact (((G9.trans g10).trans g11).trans (g12.trans G15)).chg (G9.back (g10.back hD3))
          · exact (boxW b).chg W15 (G15.nw D3 (some_ne e12) (g12.nw D3 (some_ne e11) s11)) mD3
      · exact ⟨ys, D2, _, _, _, _, _, _, _, _, rfl, e10, e10', hyl, hy8, G9.trans g10, W10⟩
    obtain ⟨ys', D3, z2, z7, z8, z9, z10, z11, z12, z13, rfl, eD, eD3, hyl', hy8', G10, W10⟩ := hM
    have hx0 : xs[0]? = some xs[0] := List.getElem?_eq_getElem (by omega)
    have hy0 : ys'[0]? = some ys'[0] := List.getElem?_eq_getElem (by omega)
    have a0 : atI (xs.map vn) 0 = some (vn xs[0]) := atI_nat (j := 0) (by rw [List.getElem?_map, hx0]; rfl)
    have b0 : atI (ys'.map vn) 0 = some (vn ys'[0]) := atI_nat (j := 0) (by rw [List.getElem?_map, hy0]; rfl)
    -- pair
    refine ⟨fun σ' H'' => ∃ (pp : Addr) (u v : V), σ' = [some (.ref a), some (.ref b), z2, some (vn cnt), some (vn sz7), some (.ref D), some (.ref D3), z7, some (.ref pp), z9, z10, z11, z12, z13] ∧ H'' pp = some (.lst [u, v]) ∧ PairOk H'' u v xs ys' ∧ Same H' H'', ?_, fun σ' H'' hM => ?_⟩
    · refine ⟨_, rfl, rfl, _, rfl, ite2 (fun c1 => ?_) (fun c1 => ?_)⟩
      · have c1' : sz7 = 1 := vn_inj.mp (dT c1)
        refine ⟨_, rfl, D, _, 0, vn xs[0], rfl, rfl, SqL.of eD, a0, _, rfl, D3, _, 0, vn ys'[0], rfl, rfl, SqL.of eD3, b0, (by show 2 ≤ sizeLine; decide), fun pp hpp => ?_⟩
        refine ⟨pp, _, _, rfl, upd_same, ⟨hx8, hy8', .inl ⟨xs[0], ys'[0], ?_, ?_, rfl, rfl⟩⟩, same_new hpp⟩
        · exact one_elt (by omega) _
        · exact one_elt (by omega) _
      · refine ⟨_, rfl, D, _, rfl, .inl ⟨SqL.of eD, fun t1 ht1 => ?_⟩⟩
        have gt1 := same_new (o := .tup (xs.map vn)) ht1
        refine ⟨_, rfl, D3, _, rfl, .inl ⟨SqL.of (gt1 _ _ eD3), fun t2 ht2 => ?_⟩⟩
        have gt2 := same_new (o := .tup (ys'.map vn)) ht2
        refine ⟨(by show 2 ≤ sizeLine; decide), fun pp hpp => ?_⟩
        have gt3 := same_new (o := .lst [.ref t1, .ref t2]) hpp
        exact ⟨pp, _, _, rfl, upd_same, ⟨hx8, hy8', .inr ⟨t1, t2, rfl, rfl, gt3 _ _ (gt2 _ _ upd_same), gt3 _ _ upd_same, by omega, by omega⟩⟩, (gt1.trans gt2).trans gt3⟩
    obtain ⟨pp, u, v, rfl, epp, hP, gP⟩ := hM
    have ap0 : atI ([u, v] : List V) 0 = some u := atI_nat (j := 0) rfl
    have ap1 : atI ([u, v] : List V) 1 = some v := atI_nat (j := 1) rfl
    -- due
    refine ⟨_, rfl, pp, _, 0, u, rfl, rfl, SqL.of epp, ap0, _, rfl, pp, _, 1, v, rfl, rfl, SqL.of epp, ap1, ?_⟩
    dsimp only [tNil, List.cons_append, List.nil_append]
    refine hP.sp (by decide) fun H20 g20 => ?_
    have epp20 := g20 _ _ epp
    have hP20 := hP.mono g20
    refine ⟨_, rfl, pp, _, 0, u, rfl, rfl, SqL.of epp20, ap0, _, rfl, pp, _, 1, v, rfl, rfl, SqL.of epp20, ap1, ?_⟩
    dsimp only [tNil, List.cons_append, List.nil_append]
    refine hP20.sp (by decide) fun H21 g21 => ?_
    have epp21 := g21 _ _ epp20
    refine ⟨_, rfl, pp, _, 0, u, rfl, rfl, SqL.of epp21, ap0, _, rfl, pp, _, 0, u, rfl, rfl, SqL.of epp21, ap0, ?_⟩
    dsimp only [tNil, List.cons_append, List.nil_append]
    refine (hP20.mono g21).self.sp (by decide) fun H22 g22 => ?_
    rw [below_self]
    refine ⟨(by show 2 ≤ sizeLine; decide), fun p23 hp23 => ?_⟩
    have g23 := same_new (o := .lst [.bl (belowL xs ys'), .bl true]) hp23
    refine ⟨_, rfl, (by show 2 ≤ sizeLine; decide), fun p24 hp24 => ?_⟩
    have g24 := same_new (o := .lst [.bl (belowL xs ys'), .bl true]) hp24
    refine ⟨_, .list [.bool (belowL xs ys'), .bool true], _, _, 1, rfl, by decide, Same.refl _, .lst (g24 _ _ upd_same) (.cons (.bl _) (.cons (.bl _) .nil)), .lst upd_same (.cons (.bl _) (.cons (.bl _) .nil)), rfl, fun H25 g25 => ?_⟩
    refine ⟨_, rfl, ?_⟩
    have gs : Same H' H25 := (((((gP.trans g20).trans g21).trans g22).trans g23).trans g24).trans g25
    -- told = states_of(one[0])
    refine ⟨_, rfl, D, _, 0, vn xs[0], rfl, rfl, SqL.of (gs _ _ eD), a0, xs[0], rfl, hx8 _ (List.getElem_mem _), fun H26 p26 g26 hp26 e26 => ?_⟩
    refine ⟨_, rfl, _, rfl, D, _, 0, vn xs[0], rfl, rfl, SqL.of (g26 _ _ (gs _ _ eD)), a0, xs[0], rfl, hx8 _ (List.getElem_mem _), fun H27 p27 g27 hp27 e27 => ?_⟩
    refine ⟨H27, .list ((statesL xs[0]).map fun n => PyData.int ((n : Nat) : Int)), _, _, 1, rfl, by decide, Same.refl _, .lst (g27 _ _ e26) (rpl_vn _), .lst e27 (rpl_vn _), ?_, fun H28 g28 => ?_⟩
    · have hlen : (statesL xs[0]).length ≤ 3 := List.length_filter_le _ _
      unfold fits
      rw [fits_ints, List.length_map, decide_eq_true (show (statesL xs[0]).length ≤ 10000 by omega)]
      rfl
    refine ⟨_, rfl, ?_⟩
    have hlen : (statesL xs[0]).length ≤ 3 := List.length_filter_le _ _
    have e28 := g28 _ _ (g27 _ _ e26)
    refine ⟨_, rfl, .inl ⟨rfl, _, SqL.of e28⟩, p26, _, _, rfl, rfl, e28, szl _ (by rw [List.length_map]; omega), ?_⟩
    have Gend : Gr [b] S9 H3' S9 H28 := G10.trans (Gr.of_same (((gs.trans g26).trans g27).trans g28))
    have W28 := (boxW b).same W10 (((gs.trans g26).trans g27).trans g28)
    have n26 : H3' p26 = none := G10.back (by
      cases q1 : H' p26 with
      | none => rfl
      | some o => rw [gs _ _ q1] at hp26; cases hp26)
    have m26 : p26 ∉ [b] := fun z => ne_nn W3.bs n26 (List.mem_singleton.mp z).symm
    exact ⟨S9, g3.trans (Gend.chg n26), (boxW b).chg W28 (W3.sh.free n26) m26, _, _, _, _, _, _, _, _, _, _, _, _, rfl⟩
  · obtain ⟨y2, y3, y4, y5, y6, y7, y8, y9, y10, y11, y12, y13, rfl⟩ := hI
    refine ⟨8, rfl, by decide, by decide, fun D hD => ?_⟩
    refine lcw pureW (Same.refl H3) hD walk_r0 (fun i acc S' => RpL S' acc (((List.range 8).take i).map fun k => PyData.list ((statesL k).map fun n => PyData.int ((n : Nat) : Int)))) .nil (by decide) (fun _ _ _ _ => trivial)
      (fun i x S4 H4 H4' acc hi g4 W4 s4 e4 hI hy put skip => ?_) (fun S4 H4 acc g4 W4 s4 e4 l4 hI => ?_)
    · obtain ⟨e4', rfl⟩ := hy
      subst e4'
      have hi8 : i < 8 := hi
      refine ⟨rfl, _, rfl, i, rfl, hi8, fun H5 p5 g5 hp5 e5 => ?_⟩
      have s5 : S4 p5 = none := W4.free hp5
      refine put ((Gr.of_same g5).keep hp5 s5) (keep_same (W4.trans g5) e5) ?_
      rw [map_take_succ (show (List.range 8)[i]? = some i by rw [List.getElem?_range hi8])]
      exact (hI.mono (same_new s5)).snoc (.lst upd_same (rpl_vn _))
    refine ⟨8, rfl, by decide, by decide, fun D2 hD2 => ?_⟩
    refine lcw pureW W4 hD2 walk_r0 (fun i acc S' => RpL S' acc (((List.range 8).take i).map fun k => PyData.list ((statesL k).map fun n => PyData.int ((n : Nat) : Int)))) .nil (by decide) (fun _ _ _ _ => trivial)
      (fun i x S5 H5 H5' acc2 hi g5 W5 s5 e5 hI2 hy put skip => ?_) (fun S5 H5 acc2 g5 W5 s5 e5 l5 hI2 => ?_)
    · obtain ⟨e5', rfl⟩ := hy
      subst e5'
      have hi8 : i < 8 := hi
      refine ⟨rfl, _, rfl, i, rfl, hi8, fun H6 p6 g6 hp6 e6 => ?_⟩
      have s6 : S5 p6 = none := W5.free hp6
      refine put ((Gr.of_same g6).keep hp6 s6) (keep_same (W5.trans g6) e6) ?_
      rw [map_take_succ (show (List.range 8)[i]? = some i by rw [List.getElem?_range hi8])]
      exact (hI2.mono (same_new s6)).snoc (.lst upd_same (rpl_vn _))
    have eD5 := g5.same _ _ e4
    have W6 := keep_same W5 e5
    have W7 : Same (upd (upd S5 D2 (.lst acc2)) D (.lst acc)) H5 := keep_same W6 eD5
    have nDD : D ≠ D2 := ne_of_none e4 hD2
    have s7 : (upd S5 D2 (.lst acc2)) D = none := by
      rw [upd_ne nDD]
      exact g5.nw D (some_ne e4) s4
    refine ⟨_, .list (((List.range 8).take 8).map fun k => PyData.list ((statesL k).map fun n => PyData.int ((n : Nat) : Int))), _, _, 2, rfl, by decide, W7, .lst upd_same ((hI.mono g5.ss).mono ((same_new s5).trans (same_new s7))), .lst (same_new s7 _ _ upd_same) (hI2.mono ((same_new s5).trans (same_new s7))), by decide +kernel, fun H6 g6 => ?_⟩
    refine ⟨_, rfl, ?_⟩
    refine ⟨(by show 3 ≤ sizeLine; decide), fun t7 ht7 => ?_⟩
    refine ⟨t7, rfl, ⟨_, SqT.of upd_same⟩, fun D3 hD3 => ?_⟩
    refine lcw pureW (Same.refl _) hD3 (walk_tup (xs := [vn 1, vn 2, vn 3])) (fun i acc _ => acc = ([2, 4, 8].take i).map vn) rfl (by decide) (fun S' H' g _ => SqT.of (g.same _ _ upd_same))
      (fun i x S8 H8 H8' acc hi g8 W8 s8 e8 hI hy put skip => ?_) (fun S8 H8 acc g8 W8 s8 e8 l8 hI => ?_)
    · obtain ⟨e8', hx8⟩ := hy
      subst e8'
      have hi3 : i < 3 := hi
      have ex : x = vn (i + 1) := by
        obtain rfl | rfl | rfl : i = 0 ∨ i = 1 ∨ i = 2 := by omega
        · exact (Option.some.inj hx8).symm
        · exact (Option.some.inj hx8).symm
        · exact (Option.some.inj hx8).symm
      subst ex
      refine ⟨rfl, _, rfl, i + 1, rfl, by omega, by omega, fun H9 g9 => put (Gr.of_same g9) (W8.trans g9) ?_⟩
      rw [hI]
      obtain rfl | rfl | rfl : i = 0 ∨ i = 1 ∨ i = 2 := by omega
      · rfl
      · rfl
      · rfl
    refine ⟨(by show 3 ≤ sizeLine; decide), fun p9 hp9 => ?_⟩
    have g9 := same_new (o := .lst [vn 2, vn 4, vn 8]) hp9
    refine ⟨_, .list [.int 2, .int 4, .int 8], _, _, 1, rfl, by decide, Same.refl _, .lst (g9 _ _ e8) ?_, .lst upd_same (rpl_vn [2, 4, 8]), by decide +kernel, fun H10 _ => q H10⟩
    rw [hI]
    exact rpl_vn [2, 4, 8]
theorem all_law {f : Addr} {fd : FuncData} (F : Fun K "law" "law" s_law f fd) (B : Bt mg) (D_count_worths : Dfn K mg "count_worths" s_count_worths) (D_states_of : Dfn K mg "states_of" s_states_of) (D_is_below : Dfn K mg "is_below" s_is_below) (D__law_box : Dfn K mg "_law_box" s_law_box) (D__law_take : Dfn K mg "_law_take" s_law_take) (D__law_any : Dfn K mg "_law_any" s_law_any) (D__law_same : Dfn K mg "_law_same" s_law_same)
    (D__law_states : Dfn K mg "_law_states" s_law_states) (D__law_under : Dfn K mg "_law_under" s_law_under) {ab : Addr} (g_BITS : Gv mg "BITS" (.ref ab)) (hB : ∀ H, SqT K H ab [vn 1, vn 2, vn 4]) : FnOk P w K mg base CX0 6 f fd ["_law_script"] (sp_law K) := by
  have c3 := cal_law_take (P := P) (w := w) (base := base) D__law_take B
  have c4 := cal_law_states (P := P) (w := w) (base := base) D__law_states B
  exact ok_law F B (cal_count_worths D_count_worths) (cal_states_of D_states_of B g_BITS hB) (cal_is_below D_is_below B 2) (cal_law_box D__law_box B) c3 (cal_law_any D__law_any B c3) (cal_law_same D__law_same B 5) c4 (cal_law_under D__law_under B c4 2)
end
--END 6 count_worths states_of is_below _law_box _law_take _law_any _law_same _law_states _law_under | BITS=tup:1,2,4

theorem all_mk {l : PySem.W.OpenLaw} {w : World} {K : PySem.W.Frag} {h : Heap} {mg : Str → Option Value} {fa f0 f1 f2 f3 f4 f5 f6 f7 f8 f9 : Addr} (X : K.In h) (G : h.Ns mainGlobals mg) (hfa : mg "law" = some (.ref fa))
    {od0 an0 od1 an1 od2 an2 od3 an3 od4 an4 od5 an5 od6 an6 od7 an7 od8 an8 od9 an9 : Option Addr} {sl0 sl1 sl2 sl3 sl4 sl5 sl6 sl7 sl8 sl9 : Array (Option Value)} {oc0 kV0 dc0 pm0 cd0 ct0 oc1 kV1 dc1 pm1 cd1 ct1 oc2 kV2 dc2 pm2 cd2 ct2 oc3 kV3 dc3 pm3 cd3 ct3 oc4 kV4 dc4 pm4 cd4 ct4 oc5 kV5 dc5 pm5 cd5 ct5 oc6 kV6 dc6 pm6 cd6 ct6 oc7 kV7 dc7 pm7 cd7 ct7 oc8 kV8 dc8 pm8 cd8 ct8 oc9 kV9 dc9 pm9 cd9 ct9 : Value}
    (a0 : PySem.W.nsIn K mainGlobals "count_worths" = some (some (.ref f0))) (l0 : K.lookup f0 = some ⟨oc0, od0, .func (PySem.W.fnOf "count_worths" "count_worths" (defArgs s_count_worths) (defBody s_count_worths) (defScope s_count_worths) .none kV0 dc0 pm0 an0 cd0 ct0), sl0⟩) (c0 : PySem.W.codeIn K cd0 "count_worths" = true) (k0 : PySem.W.keepIn K (.ref f0) = true)
    (a1 : PySem.W.nsIn K mainGlobals "states_of" = some (some (.ref f1))) (l1 : K.lookup f1 = some ⟨oc1, od1, .func (PySem.W.fnOf "states_of" "states_of" (defArgs s_states_of) (defBody s_states_of) (defScope s_states_of) .none kV1 dc1 pm1 an1 cd1 ct1), sl1⟩) (c1 : PySem.W.codeIn K cd1 "states_of" = true) (k1 : PySem.W.keepIn K (.ref f1) = true)
    (a2 : PySem.W.nsIn K mainGlobals "is_below" = some (some (.ref f2))) (l2 : K.lookup f2 = some ⟨oc2, od2, .func (PySem.W.fnOf "is_below" "is_below" (defArgs s_is_below) (defBody s_is_below) (defScope s_is_below) .none kV2 dc2 pm2 an2 cd2 ct2), sl2⟩) (c2 : PySem.W.codeIn K cd2 "is_below" = true) (k2 : PySem.W.keepIn K (.ref f2) = true)
    (a3 : PySem.W.nsIn K mainGlobals "_law_box" = some (some (.ref f3))) (l3 : K.lookup f3 = some ⟨oc3, od3, .func (PySem.W.fnOf "_law_box" "_law_box" (defArgs s_law_box) (defBody s_law_box) (defScope s_law_box) .none kV3 dc3 pm3 an3 cd3 ct3), sl3⟩) (c3 : PySem.W.codeIn K cd3 "_law_box" = true) (k3 : PySem.W.keepIn K (.ref f3) = true)
    (a4 : PySem.W.nsIn K mainGlobals "_law_take" = some (some (.ref f4))) (l4 : K.lookup f4 = some ⟨oc4, od4, .func (PySem.W.fnOf "_law_take" "_law_take" (defArgs s_law_take) (defBody s_law_take) (defScope s_law_take) .none kV4 dc4 pm4 an4 cd4 ct4), sl4⟩) (c4 : PySem.W.codeIn K cd4 "_law_take" = true) (k4 : PySem.W.keepIn K (.ref f4) = true)
    (a5 : PySem.W.nsIn K mainGlobals "_law_any" = some (some (.ref f5))) (l5 : K.lookup f5 = some ⟨oc5, od5, .func (PySem.W.fnOf "_law_any" "_law_any" (defArgs s_law_any) (defBody s_law_any) (defScope s_law_any) .none kV5 dc5 pm5 an5 cd5 ct5), sl5⟩) (c5 : PySem.W.codeIn K cd5 "_law_any" = true) (k5 : PySem.W.keepIn K (.ref f5) = true)
    (a6 : PySem.W.nsIn K mainGlobals "_law_same" = some (some (.ref f6))) (l6 : K.lookup f6 = some ⟨oc6, od6, .func (PySem.W.fnOf "_law_same" "_law_same" (defArgs s_law_same) (defBody s_law_same) (defScope s_law_same) .none kV6 dc6 pm6 an6 cd6 ct6), sl6⟩) (c6 : PySem.W.codeIn K cd6 "_law_same" = true) (k6 : PySem.W.keepIn K (.ref f6) = true)
    (a7 : PySem.W.nsIn K mainGlobals "_law_states" = some (some (.ref f7))) (l7 : K.lookup f7 = some ⟨oc7, od7, .func (PySem.W.fnOf "_law_states" "_law_states" (defArgs s_law_states) (defBody s_law_states) (defScope s_law_states) .none kV7 dc7 pm7 an7 cd7 ct7), sl7⟩) (c7 : PySem.W.codeIn K cd7 "_law_states" = true) (k7 : PySem.W.keepIn K (.ref f7) = true)
    (a8 : PySem.W.nsIn K mainGlobals "_law_under" = some (some (.ref f8))) (l8 : K.lookup f8 = some ⟨oc8, od8, .func (PySem.W.fnOf "_law_under" "_law_under" (defArgs s_law_under) (defBody s_law_under) (defScope s_law_under) .none kV8 dc8 pm8 an8 cd8 ct8), sl8⟩) (c8 : PySem.W.codeIn K cd8 "_law_under" = true) (k8 : PySem.W.keepIn K (.ref f8) = true)
    (a9 : PySem.W.nsIn K mainGlobals "law" = some (some (.ref f9))) (l9 : K.lookup f9 = some ⟨oc9, od9, .func (PySem.W.fnOf "law" "law" (defArgs s_law) (defBody s_law) (defScope s_law) .none kV9 dc9 pm9 an9 cd9 ct9), sl9⟩) (c9 : PySem.W.codeIn K cd9 "law" = true) (k9 : PySem.W.keepIn K (.ref f9) = true)
    (z0 : PySem.W.nsIn K mainGlobals "len" = some none)    (z1 : PySem.W.nsIn K mainGlobals "int" = some none)    (z2 : PySem.W.nsIn K mainGlobals "str" = some none)    (z3 : PySem.W.nsIn K mainGlobals "bool" = some none)    (z4 : PySem.W.nsIn K mainGlobals "tuple" = some none)    (z5 : PySem.W.nsIn K mainGlobals "list" = some none)    (z6 : PySem.W.nsIn K mainGlobals "all" = some none)    (z7 : PySem.W.nsIn K mainGlobals "any" = some none)    (z8 : PySem.W.nsIn K mainGlobals "isinstance" = some none)    (z9 : PySem.W.nsIn K mainGlobals "range" = some none)    (z10 : PySem.W.nsIn K mainGlobals "zip" = some none)    (z11 : PySem.W.nsIn K mainGlobals "enumerate" = some none)    (z12 : PySem.W.nsIn K mainGlobals "sum" = some none)    (z13 : PySem.W.nsIn K mainGlobals "max" = some none)    (z14 : PySem.W.nsIn K mainGlobals "min" = some none)    (z15 : PySem.W.nsIn K mainGlobals "sorted" = some none)
    {ab0 : Addr} {dd0 : Option Addr} {nn0 : Nat} {ts0 : Array (Option Value)} {u0_0 u0_1 u0_2 : Tok} (q0 : PySem.W.nsIn K mainGlobals "BITS" = some (some (.ref ab0))) (r0 : K.lookup ab0 = some ⟨.type "tuple", dd0, .seq #[.int 1 u0_0, .int 2 u0_1, .int 4 u0_2] nn0, ts0⟩) :
    ∃ fd : FuncData, (∀ (s : Shared) (v : Value), BindsTo s fd ⟨[v], []⟩ [("_law_script", v)]) ∧ ∀ base : Heap, K.In base → base.Ns mainGlobals mg → FnOk l.prog w K mg base CX0 6 fa fd ["_law_script"] (sp_law K) := by
  have e := hfa.symm.trans (PySem.W.mg_of X G a9)
  cases e
  have B : Bt mg := ⟨PySem.W.mg_none_of X G z0, PySem.W.mg_none_of X G z1, PySem.W.mg_none_of X G z2, PySem.W.mg_none_of X G z3, PySem.W.mg_none_of X G z4, PySem.W.mg_none_of X G z5, PySem.W.mg_none_of X G z6, PySem.W.mg_none_of X G z7, PySem.W.mg_none_of X G z8, PySem.W.mg_none_of X G z9, PySem.W.mg_none_of X G z10, PySem.W.mg_none_of X G z11, PySem.W.mg_none_of X G z12, PySem.W.mg_none_of X G z13, PySem.W.mg_none_of X G z14, PySem.W.mg_none_of X G z15⟩
  exact ⟨_, fun s v => .of_eq rfl, fun base _ _ => all_law (fun_mk (st := s_law) l9 c9 k9) B (dfn_mk X G a0 l0 c0 k0) (dfn_mk X G a1 l1 c1 k1) (dfn_mk X G a2 l2 c2 k2) (dfn_mk X G a3 l3 c3 k3) (dfn_mk X G a4 l4 c4 k4) (dfn_mk X G a5 l5 c5 k5) (dfn_mk X G a6 l6 c6 k6) (dfn_mk X G a7 l7 c7 k7) (dfn_mk X G a8 l8 c8 k8) ⟨_, PySem.W.mg_of X G q0, rfl⟩ (fun _ => .inr ⟨_, _, _, r0, rfl, rfl, (show 3 ≤ sizeLine by decide), (.cons ⟨_, rfl⟩ (.cons ⟨_, rfl⟩ (.cons ⟨_, rfl⟩ .nil)))⟩)⟩
end G48
open PySem PySem.W PyProof.Rows
set_option maxRecDepth 100000 in
set_option maxHeartbeats 0 in
theorem PySem.Challenge.cw_lendbough_k29_worths_and_values_holds : PySem.Challenge.rw_lendbough_k29_worths_and_values.Holds := by
  w_on; o_law; k_head; (case hw => w_witness2)
  k_fill
  refine L2.walk_of (l := PySem.Challenge.rw_lendbough_k29_worths_and_values) (n := 63) (k := 6) (x := "_law_script") (CX := fun _ => L2.CX0) (sp := fun w => G48.sp_law _) rfl (by decide) rfl ⟨rfl, by decide, by decide⟩ (fun w h Y => PySem.W.kIn_of Y) ?F (fun _ _ a ns hl _ hS => ⟨a, ns, rfl, hS, hl, fun _ => rfl⟩) (fun _ _ _ _ _ h => h)
  case F =>
    intro w mg fa h KX G hmg
    refine' G48.all_mk KX G hmg ?a0 ?l0 ?c0 ?k0 ?a1 ?l1 ?c1 ?k1 ?a2 ?l2 ?c2 ?k2 ?a3 ?l3 ?c3 ?k3 ?a4 ?l4 ?c4 ?k4 ?a5 ?l5 ?c5 ?k5 ?a6 ?l6 ?c6 ?k6 ?a7 ?l7 ?c7 ?k7 ?a8 ?l8 ?c8 ?k8 ?a9 ?l9 ?c9 ?k9 ?z0 ?z1 ?z2 ?z3 ?z4 ?z5 ?z6 ?z7 ?z8 ?z9 ?z10 ?z11 ?z12 ?z13 ?z14 ?z15 ?q0 ?r0
    (case a0 => k_is)
    (case l0 => k_is)
    (case c0 => k_is)
    (case k0 => k_is)
    (case a1 => k_is)
    (case l1 => k_is)
    (case c1 => k_is)
    (case k1 => k_is)
    (case a2 => k_is)
    (case l2 => k_is)
    (case c2 => k_is)
    (case k2 => k_is)
    (case a3 => k_is)
    (case l3 => k_is)
    (case c3 => k_is)
    (case k3 => k_is)
    (case a4 => k_is)
    (case l4 => k_is)
    (case c4 => k_is)
    (case k4 => k_is)
    (case a5 => k_is)
    (case l5 => k_is)
    (case c5 => k_is)
    (case k5 => k_is)
    (case a6 => k_is)
    (case l6 => k_is)
    (case c6 => k_is)
    (case k6 => k_is)
    (case a7 => k_is)
    (case l7 => k_is)
    (case c7 => k_is)
    (case k7 => k_is)
    (case a8 => k_is)
    (case l8 => k_is)
    (case c8 => k_is)
    (case k8 => k_is)
    (case a9 => k_is)
    (case l9 => k_is)
    (case c9 => k_is)
    (case k9 => k_is)
    (case z0 => k_is)
    (case z1 => k_is)
    (case z2 => k_is)
    (case z3 => k_is)
    (case z4 => k_is)
    (case z5 => k_is)
    (case z6 => k_is)
    (case z7 => k_is)
    (case z8 => k_is)
    (case z9 => k_is)
    (case z10 => k_is)
    (case z11 => k_is)
    (case z12 => k_is)
    (case z13 => k_is)
    (case z14 => k_is)
    (case z15 => k_is)
    (case q0 => k_is)
    (case r0 => k_is)
