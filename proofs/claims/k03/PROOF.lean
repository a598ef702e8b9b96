import PyProof.Rows.All
import Wide.All
import OpenK.AllK
import Wide.FinOn
import HandS.ForMost
import HandS.IsInst
import HandS.Zip
import HandS.TupAny
import HandS.Walk
import HandS.Conv
import HandS.Deep
import HandS.Codes
import KE.GoesEnum
import KE.OsArith
import HandS.SortKw
import KE.DatumOrd
import PySem.Challenge.RW_lendbough_k03_sizes_of_terms
set_option Elab.async false
set_option linter.all false
set_option maxRecDepth 100000
set_option maxHeartbeats 4000000
/-! Our layer over HandS: callables by name, the persistent heap, the box. -/
namespace G48
open PySem PySem.Spec PyProof.Rows L2 SX

/-! ### callables by name -/
structure Dfn (K : PySem.W.Frag) (mg : Str → Option Value) (x : Str) (st : Stmt) : Prop where
  ex : ∃ f fd, Fun K x x st f fd ∧ mg x = some (.ref f)
structure Cal (P : Program) (w : World) (K : PySem.W.Frag) (mg : Str → Option Value) (base : Heap) (k : Nat) (x : Str) (sp : Sp) : Prop where
  ex : ∃ (f : Addr) (fd : FuncData) (ps : List Str), FnOk P w K mg base CX0 k f fd ps sp ∧ mg x = some (.ref f) ∧ PySem.W.keepIn K (.ref f) = true ∧ Binds K fd ps []
section
variable {P : Program} {w : World} {K : PySem.W.Frag} {mg : Str → Option Value} {base : Heap}
theorem cal_of {x : Str} {st : Stmt} {N ps : List Str} {k : Nat} {sp : Sp} (D : Dfn K mg x st) (S : FnScope N ps (defScope st))
    (hb : ∀ (kV doc pm : Value) (an : Option Addr) (cdv ct : Value) (us : List Value), us.length = ps.length → bindArgs (PySem.W.fnOf x x (defArgs st) (defBody st) (defScope st) .none kV doc pm an cdv ct) ⟨us, []⟩ = pure (ps.zip us))
    (len : ∀ vs H Q E, sp vs H Q E → vs.length = ps.length)
    (hbody : ∀ (f : Addr) (cdv : Value) (A : Around) (outer : List Env) (s : Shared) (H : Hp) (vs : List V) (Q : VK) (E : XK), Room k (A.deeper (envOfC x (defScope st) s.heap.objs.size f cdv)) → sp vs H Q E →
      ∃ t, PSs (cxOf CX0 P w K mg base N x (defScope st) f cdv A outer s H E).nox (defBody st) t ∧ t { nx := fun _ H' => Q .non H', rt := Q } (start N vs) H) : Cal P w K mg base (k + 1) x sp := by
  obtain ⟨f, fd, F, hm⟩ := D.ex
  exact ⟨f, fd, ps, F.ok S len (fun cdv A outer s H vs Q E hr h => hbody f cdv A outer s H vs Q E hr h), hm, F.kp, F.binds hb⟩
/-- the law itself -/
theorem okf_of {x : Str} {st : Stmt} {N ps : List Str} {k : Nat} {sp : Sp} {f : Addr} {fd : FuncData} (F : Fun K x x st f fd) (S : FnScope N ps (defScope st)) (len : ∀ vs H Q E, sp vs H Q E → vs.length = ps.length)
    (hbody : ∀ (cdv : Value) (A : Around) (outer : List Env) (s : Shared) (H : Hp) (vs : List V) (Q : VK) (E : XK), Room k (A.deeper (envOfC x (defScope st) s.heap.objs.size f cdv)) → sp vs H Q E →
      ∃ t, PSs (cxOf CX0 P w K mg base N x (defScope st) f cdv A outer s H E).nox (defBody st) t ∧ t { nx := fun _ H' => Q .non H', rt := Q } (start N vs) H) : FnOk P w K mg base CX0 (k + 1) f fd ps sp :=
  F.ok S len hbody
theorem dfn_mk {x : Str} {st : Stmt} {h : Heap} {f : Addr} {oc : Value} {od an : Option Addr} {osl : Array (Option Value)} {kV doc pm cdv ct : Value} (X : K.In h) (G : h.Ns mainGlobals mg) (a : PySem.W.nsIn K mainGlobals x = some (some (.ref f)))
    (l : K.lookup f = some ⟨oc, od, .func (PySem.W.fnOf x x (defArgs st) (defBody st) (defScope st) .none kV doc pm an cdv ct), osl⟩) (c : PySem.W.codeIn K cdv x = true) (k : PySem.W.keepIn K (.ref f) = true) : Dfn K mg x st :=
  ⟨f, _, fun_mk l c k, PySem.W.mg_of X G a⟩
/-- a def that calls itself: at level 0 nothing can be asked -/
theorem cal_zero {x : Str} {st : Stmt} {ps : List Str} {sp : Sp} (D : Dfn K mg x st)
    (hb : ∀ (kV doc pm : Value) (an : Option Addr) (cdv ct : Value) (us : List Value), us.length = ps.length → bindArgs (PySem.W.fnOf x x (defArgs st) (defBody st) (defScope st) .none kV doc pm an cdv ct) ⟨us, []⟩ = pure (ps.zip us))
    (no : ∀ vs H Q E, ¬ sp vs H Q E) : Cal P w K mg base 0 x sp := by
  obtain ⟨f, fd, F, hm⟩ := D.ex
  exact ⟨f, fd, ps, ⟨fun vs H Q E h => absurd h (no vs H Q E), fun A outer s H args us vs Q E _ _ _ _ h => absurd h (no vs H Q E)⟩, hm, F.kp, F.binds hb⟩
theorem Cal.mono {x : Str} {j k : Nat} {sp : Sp} (c : Cal P w K mg base j x sp) (h : j ≤ k) : Cal P w K mg base k x sp := by
  obtain ⟨f, fd, ps, F, r⟩ := c.ex
  exact ⟨f, fd, ps, F.mono h, r⟩
theorem Cal.imp {x : Str} {k : Nat} {sp sp' : Sp} (c : Cal P w K mg base k x sp) (h : ∀ vs H Q E, sp' vs H Q E → sp vs H Q E) : Cal P w K mg base k x sp' := by
  obtain ⟨f, fd, ps, F, r⟩ := c.ex
  exact ⟨f, fd, ps, F.imp h, r⟩
end
section
variable {X : Cx} {k j : Nat} {x : Str} {sp : Sp} {p pos : Pos} {e : Expr} {es : List Expr} {t : TA}
theorem pe_cc (c : Cal X.prog X.w X.K X.mg X.base k x sp) (hr : Room j X.A) (hk : k ≤ j) (hg : Gl X x) (ha : PA X (e :: es) t)
    (hdb : (x == ("__debug__" : Str)) = false := by decide) (he : starEach (e :: es) X.env = (false, eval e X.env) :: starEach es X.env := by rfl) (hpl : (backTo pos (starEach es X.env)).any (·.1) = false := by rfl) :
    PE X (.Call (.Name x p) (e :: es) [] pos) (tCall sp [] E0 t) := by
  obtain ⟨f, fd, ps, F, hm, kp, b⟩ := c.ex
  exact pe_call F (hr.mono hk) hg hm kp b .nil pass0 ha hdb he hpl
/-- a module's constant -/
def Gv (mg : Str → Option Value) (x : Str) (v : V) : Prop := ∃ u, mg x = some u ∧ RelV v u
theorem pe_gv {x : Str} {pos : Pos} {v : V} (hg : Gl X x) (h : Gv X.mg x v) (hdb : (x == ("__debug__" : Str)) = false := by decide) : PE X (.Name x pos) (tC v) := by
  obtain ⟨u, hm, r⟩ := h
  exact pe_glob hg hm r hdb
end
/-- the built-ins' names are free -/
structure Bt (mg : Str → Option Value) : Prop where
  len : mg "len" = none
  int : mg "int" = none
  str : mg "str" = none
  bool : mg "bool" = none
  tuple : mg "tuple" = none
  list : mg "list" = none
  all : mg "all" = none
  any : mg "any" = none
  isinstance : mg "isinstance" = none
  range : mg "range" = none
  zip : mg "zip" = none
  enumerate : mg "enumerate" = none
  sum : mg "sum" = none
  max : mg "max" = none
  min : mg "min" = none
  sorted : mg "sorted" = none

/-! ### rules that name the written part K itself (for the inside of comprehensions) -/
def rLenQ (K : PySem.W.Frag) : List V → Hp → VK → Prop := fun xs H Q => ∃ p ys, xs = [.ref p] ∧ (SqL K H p ys ∨ SqT K H p ys) ∧ Q (.int ys.length) H
def rLenA (K : PySem.W.Frag) : List V → Hp → VK → Prop := fun xs H Q => ∃ x n, xs = [x] ∧ LenV K x H n ∧ Q (.int n) H
def rListO (K : PySem.W.Frag) : List V → Hp → VK → Prop := fun xs H Q => ∃ p ys, xs = [.ref p] ∧ (SqL K H p ys ∨ SqT K H p ys) ∧ ∀ l, H l = none → Q (.ref l) (upd H l (.lst ys))
def rTupO (K : PySem.W.Frag) : List V → Hp → VK → Prop := fun xs H Q => ∃ p ys, xs = [.ref p] ∧ ((SqL K H p ys ∧ ∀ l, H l = none → Q (.ref l) (upd H l (.tup ys))) ∨ (SqT K H p ys ∧ Q (.ref p) H))
def rJoin (K : PySem.W.Frag) : V → List V → Hp → VK → Prop := fun x xs H Q => ∃ a p, ∃ ys : List Str, x = .str a ∧ xs = [.ref p] ∧ (SqL K H p (ys.map V.str) ∨ SqT K H p (ys.map V.str)) ∧ (ys.map (·.length)).sum + ys.length * a.length ≤ 16777216 ∧ Q (.str (Txt.join a ys)) H
section
variable {X : Cx} (K : PySem.W.Frag) (h : X.K = K)
include h
theorem k_ix_list : IxR X (rIxL K) := by subst h; exact ix_list
theorem k_ix_tup : IxR X (rIxT K) := by subst h; exact ix_tup
theorem k_ix_seq : IxR X (rIx K) := by subst h; exact ix_seq
theorem k_sl_list : SlR X (rSlL K) := by subst h; exact sl_list
theorem k_sl_tupA : SlR X (rSlA K) := by subst h; exact sl_tupA
theorem k_op_in_seq : OpR X (compareOp .In) (rIn K false) := by subst h; exact op_in_seq
theorem k_op_notIn_seq : OpR X (compareOp .NotIn) (rIn K true) := by subst h; exact op_notIn_seq
theorem k_op_catA : OpR X (binaryOp .Add) (rCatA K) := by subst h; exact op_catA
theorem k_op_eqD (hu : X.A.units + 64 < cLine) : OpR X (compareOp .Eq) (rEqD K) := by subst h; exact op_eqD hu
theorem k_op_neD (hu : X.A.units + 64 < cLine) : OpR X (compareOp .NotEq) (rNeD K) := by subst h; exact op_neD hu
theorem k_len_seq : CallR X (.builtin "len") (rLenQ K) := by subst h; exact call_len_seq
theorem k_len : CallR X (.builtin "len") (rLenA K) := by subst h; exact call_len
theorem k_list_of : CallR X (.type "list") (rListO K) := by subst h; exact call_list_of
theorem k_tuple_of : CallR X (.type "tuple") (rTupO K) := by subst h; exact call_tuple_of
theorem k_isi : CallR X (.builtin "isinstance") (rIsi K) := by subst h; exact call_isi
theorem k_all (hc : X.calm = true) : CallR X (.builtin "all") (rAll K) := by subst h; exact cr_all hc
theorem k_any (hc : X.calm = true) : CallR X (.builtin "any") (rAny K) := by subst h; exact cr_any hc
theorem k_sum (hc : X.calm = true) : CallR X (.builtin "sum") (rSum K) := by subst h; exact cr_sum hc
theorem k_max (hc : X.calm = true) : CallR X (.builtin "max") (rMax K) := by subst h; exact cr_max hc
end
section
variable {X : Cx} {o e : Expr} {es : List Expr} {to te : TE} {t : TA} {name : Str} {apos cpos : Pos} {T id : String} {r : V → List V → Hp → VK → Prop}
theorem k_bm0 (K : PySem.W.Frag) (h : X.K = K) (pa : PlainAttrs T) (slot : Slot T name id) (hty : typeOf (.builtin id) = pure (.type "method_descriptor")) (hm : MtR X id r) (ho : PE X o to)
    (hbase : attributeBase o name X.env (eval o X.env) = eval o X.env := by rfl) (hline : (apos.endLine == cpos.line) = true := by rfl) : PE X (.Call (.Attribute o name apos) [] [] cpos) (tBM0 K T r to) := by
  subst h
  exact pe_bm0 pa slot hty hm ho hbase hline
theorem k_join (K : PySem.W.Frag) (h : X.K = K) {pos : Pos} (ho : PE X o to) (he : PE X e te) (hs : starEach [e] X.env = [(false, eval e X.env)] := by rfl) (hbase : attributeBase o "join" X.env (eval o X.env) = eval o X.env := by rfl) (hline : (apos.endLine == pos.line) = true := by rfl) :
    PE X (.Call (.Attribute o "join" apos) [e] [] pos) (tM1 (rJoin K) to te) := by
  subst h
  exact pe_join ho he hs hbase hline
end
/-! ### heaps: a persistent part -/
theorem same_new {H : Hp} {p : Addr} {o : HO} (h : H p = none) : Same H (upd H p o) := fun b u q => by rw [upd_ne (ne_of_none q h)]; exact q
theorem same_t {K : PySem.W.Frag} {H H' : Hp} {a : Addr} {xs : List V} (e : Same H H') (h : SqT K H a xs) : SqT K H' a xs := by
  rcases h with (h | ⟨o, h⟩) | h
  · exact .inl (.inl (e _ _ h))
  · exact .inl (.inr ⟨o, e _ _ h⟩)
  · exact .inr h
theorem upd_mono {S H : Hp} {p : Addr} {o : HO} (h : Same S H) : Same (upd S p o) (upd H p o) := fun b u q => by
  by_cases e : b = p
  · subst e
    rw [upd_same] at q ⊢
    exact q
  · rw [upd_ne e] at q ⊢
    exact h _ _ q
structure Gr (M : List Addr) (S H S' H' : Hp) : Prop where
  ss : Same S S'
  kp : ∀ a o, a ∉ M → H a = some o → H' a = some o
  nw : ∀ a, H a ≠ none → S a = none → S' a = none
  tr : ∀ a, H a ≠ none → H' a ≠ none
theorem Gr.refl (M : List Addr) (S H : Hp) : Gr M S H S H := ⟨Same.refl _, fun _ _ _ h => h, fun _ _ h => h, fun _ h => h⟩
theorem Gr.trans {M : List Addr} {S H S1 H1 S2 H2 : Hp} (a : Gr M S H S1 H1) (b : Gr M S1 H1 S2 H2) : Gr M S H S2 H2 :=
  ⟨a.ss.trans b.ss, fun x o m h => b.kp x o m (a.kp x o m h), fun x h s => b.nw x (a.tr x h) (a.nw x h s), fun x h => b.tr x (a.tr x h)⟩
theorem some_ne {H : Hp} {a : Addr} {o : HO} (h : H a = some o) : H a ≠ none := by rw [h]; exact fun z => nomatch z
theorem ne_nn {H : Hp} {a p : Addr} (e : H a ≠ none) (h : H p = none) : a ≠ p := by
  intro z
  subst z
  exact e h
theorem Gr.of_same {M : List Addr} {S H H' : Hp} (h : Same H H') : Gr M S H S H' :=
  ⟨Same.refl _, fun a o _ e => h a o e, fun _ _ e => e, fun a e => by
    cases q : H a with
    | none => exact absurd q e
    | some o => exact some_ne (h a o q)⟩
theorem Gr.sub {M M' : List Addr} {S H S' H' : Hp} (g : Gr M S H S' H') (h : ∀ a ∈ M, a ∈ M') : Gr M' S H S' H' := ⟨g.ss, fun a o m e => g.kp a o (fun z => m (h a z)) e, g.nw, g.tr⟩
theorem Gr.same {S H S' H' : Hp} (g : Gr [] S H S' H') : Same H H' := fun a o e => g.kp a o (fun z => nomatch z) e
/-- a new object, known to last | not -/
theorem Gr.new {M : List Addr} {S0 H0 S H : Hp} {p : Addr} {o : HO} (g : Gr M S0 H0 S H) (sh : Same S H) (h : H p = none) : Gr M S0 H0 (upd S p o) (upd H p o) := by
  have hs : S p = none := sh.free h
  refine g.trans ⟨same_new hs, fun a u _ e => same_new h a u e, fun a e s => ?_, fun a e => ?_⟩
  · rw [upd_ne (ne_nn e h)]
    exact s
  · by_cases z : a = p
    · subst z
      rw [upd_same]
      exact fun z => nomatch z
    · rw [upd_ne z]
      exact e
theorem Gr.chg {M : List Addr} {S0 H0 S H : Hp} {p : Addr} {o : HO} (g : Gr M S0 H0 S H) (h : H0 p = none) : Gr M S0 H0 S (upd H p o) := by
  refine ⟨g.ss, fun a u m e => ?_, g.nw, fun a e => ?_⟩
  · rw [upd_ne (ne_of_none e h)]
    exact g.kp a u m e
  · rw [upd_ne (ne_nn e h)]
    exact g.tr a e
/-- a list of one's own is left as it is from now on -/
theorem Gr.keep {M : List Addr} {S0 H0 S H : Hp} {p : Addr} {o : HO} (g : Gr M S0 H0 S H) (h : H0 p = none) (hs : S p = none) : Gr M S0 H0 (upd S p o) H :=
  ⟨g.ss.trans (same_new hs), g.kp, fun a e s => by
    rw [upd_ne (ne_nn e h)]
    exact g.nw a e s, g.tr⟩
theorem Gr.fromNew {M : List Addr} {S H S' H' : Hp} {p : Addr} {o : HO} (h : H p = none) (g : Gr M S (upd H p o) S' H') : Gr M S H S' H' := ((Gr.refl M S H).chg h).trans g
theorem Gr.back {M : List Addr} {S H S' H' : Hp} {p : Addr} (g : Gr M S H S' H') (h : H' p = none) : H p = none := by
  cases q : H p with
  | none => rfl
  | some o => exact absurd h (g.tr p (some_ne q))

/-- a world: what is kept of the persistent part S and the heap H; M: what may be changed by whoever is called -/
structure Wld (M : List Addr) (Wr : Hp → Hp → Prop) : Prop where
  sh : ∀ {S H : Hp}, Wr S H → Same S H
  nm : ∀ {S H : Hp}, Wr S H → ∀ m ∈ M, S m = none ∧ H m ≠ none
  gr : ∀ {S H S' H' : Hp}, Wr S H → Gr [] S H S' H' → Same S' H' → Wr S' H'
  chg : ∀ {S H : Hp} {p : Addr} {o : HO}, Wr S H → S p = none → p ∉ M → Wr S (upd H p o)
  keep : ∀ {S H : Hp} {p : Addr} {o : HO}, Wr S H → S p = none → p ∉ M → H p = some o → Wr (upd S p o) H
section
variable {M : List Addr} {Wr : Hp → Hp → Prop} {S H S' H' S0 H0 : Hp} {p : Addr} {o : HO}
theorem Wld.same (A : Wld M Wr) (W : Wr S H) (h : Same H H') : Wr S H' := A.gr W (Gr.of_same h) ((A.sh W).trans h)
theorem Wld.new (A : Wld M Wr) (W : Wr S H) (h : H p = none) : Wr (upd S p o) (upd H p o) :=
  A.gr W ((Gr.refl [] S H).new (A.sh W) h) (upd_mono (A.sh W))
theorem Wld.fresh (A : Wld M Wr) (W : Wr S H) (h : H p = none) : p ∉ M := fun z => (A.nm W p z).2 h
theorem Wld.out (A : Wld M Wr) (W : Wr S H) (h : S p = some o) : p ∉ M := fun z => by rw [(A.nm W p z).1] at h; cases h
theorem keep_same (sh : Same S H) (e : H p = some o) : Same (upd S p o) H := fun a u z => by
  by_cases y : a = p
  · subst y
    rw [upd_same] at z
    rw [e]
    exact z
  · rw [upd_ne y] at z
    exact sh a u z
theorem mut_same (sh : Same S H) (h : S p = none) : Same S (upd H p o) := fun a u e => by
  rw [upd_ne (ne_of_none e h)]
  exact sh a u e
/-- nothing may be changed -/
theorem pureW : Wld [] Same where
  sh := fun h => h
  nm := fun _ m z => nomatch z
  gr := fun _ _ h => h
  chg := fun sh h _ => mut_same sh h
  keep := fun sh _ _ e => keep_same sh e
end
/-! ### the box of a law -/
structure Wd (b : Addr) (S H : Hp) : Prop where
  sh : Same S H
  nb : S b = none
  bx : ∃ (p : Addr) (ns : List Int) (i c m : Int), H b = some (.lst [.ref p, .int i, .int c, .int m]) ∧ S p = some (.lst (ns.map V.int)) ∧ ns.length ≤ 63 ∧ 0 ≤ i ∧ 0 ≤ c ∧ 0 ≤ m ∧ m < 2147483647
theorem Wd.bs {b : Addr} {S H : Hp} (W : Wd b S H) : H b ≠ none := by
  obtain ⟨p, ns, i, c, m, h, _⟩ := W.bx
  exact some_ne h
theorem boxW (b : Addr) : Wld [b] (Wd b) where
  sh := fun W => W.sh
  nm := fun W m z => by
    obtain rfl : m = b := by simpa using z
    exact ⟨W.nb, W.bs⟩
  gr := fun W g sh => by
    obtain ⟨q, ns, i, c, m, eb, hp, r⟩ := W.bx
    exact ⟨sh, g.nw b W.bs W.nb, q, ns, i, c, m, g.same _ _ eb, g.ss _ _ hp, r⟩
  chg := fun {S H p o} W h hb => by
    obtain ⟨q, ns, i, c, m, eb, hp, r⟩ := W.bx
    refine ⟨mut_same W.sh h, W.nb, q, ns, i, c, m, ?_, hp, r⟩
    rw [upd_ne (fun z => hb (by rw [z]; exact List.mem_singleton.mpr rfl))]
    exact eb
  keep := fun {S H p o} W h hb e => by
    obtain ⟨q, ns, i, c, m, eb, hp, r⟩ := W.bx
    refine ⟨keep_same W.sh e, ?_, q, ns, i, c, m, eb, same_new h _ _ hp, r⟩
    rw [upd_ne (fun z => hb (by rw [z]; exact List.mem_singleton.mpr rfl))]
    exact W.nb

theorem iteNN {c A B : Prop} [Decidable c] (hc : ¬ c) (h : B) : if (decide c) = true then A else B := by
  rw [decide_eq_false hc]
  exact iteF h
/-- a test whose answer is told by another Bool; a value told otherwise -/
theorem iteC {b c : Bool} {A B : Prop} (e : b = c) (h1 : c = true → A) (h2 : c = false → B) : if b = true then A else B := by
  subst e
  cases b with
  | true => exact iteT (h1 rfl)
  | false => exact iteF (h2 rfl)
theorem vq {Q : V → Hp → Prop} {H : Hp} {v u : V} (e : v = u) (h : Q u H) : Q v H := by rw [e]; exact h
theorem map_take_succ {α β : Type} {l : List α} {f : α → β} {i : Nat} {c : α} (h : l[i]? = some c) : (l.take (i + 1)).map f = (l.take i).map f ++ [f c] := by
  rw [List.take_add_one, h, List.map_append]
  rfl
theorem dT {p : Prop} [Decidable p] (h : decide p = true) : p := of_decide_eq_true h
theorem dF {p : Prop} [Decidable p] (h : ¬ decide p = true) : ¬ p := of_decide_eq_false (Bool.eq_false_iff.mpr h)
theorem Gr.sqL {K : PySem.W.Frag} {M : List Addr} {S H S' H' : Hp} {a : Addr} {xs : List V} (g : Gr M S H S' H') (n : a ∉ M) (h : SqL K H a xs) : SqL K H' a xs := by
  rcases h with (h | ⟨o, h⟩) | h
  · exact .inl (.inl (g.kp _ _ n h))
  · exact .inl (.inr ⟨o, g.kp _ _ n h⟩)
  · exact .inr h
theorem walk_r0 {n : Nat} : Walk (Itr 0 n) n (fun _ => True) (fun i H x H' => H' = H ∧ x = .int ((i : Nat) : Int)) :=
  walk_range.mono (fun _ h => h) (fun i H x H' _ _ h => ⟨h.1, by rw [h.2]; exact congrArg V.int (Int.zero_add _)⟩)
theorem walk_zipT {K : PySem.W.Frag} {a b : Addr} {xs ys : List V} {n : Nat} (hn : n = min xs.length ys.length) : Walk (RZ.ItzT K a b) n (fun H => SqT K H a xs ∧ SqT K H b ys) (YPair (fun i => xs[i]?) (fun i => ys[i]?)) := by
  subst hn
  refine ⟨fun i _ hi q => ?_, fun _ q => ⟨xs, ys, q.1, q.2, by omega⟩, fun i H v H' _ q y => ?_⟩
  · have h1 : i < xs.length := by omega
    have h2 : i < ys.length := by omega
    exact ⟨xs, ys, xs[i], ys[i], q.1, q.2, by simp [h1], by simp [h2]⟩
  · obtain ⟨T, x, z, h1, h2, h3, h4, h5⟩ := y
    exact ⟨T, x, z, h1, h2, h3, h4 xs q.1, h5 ys q.2⟩
theorem sz (n : Nat) (h : n ≤ 100000) : n ≤ sizeLine := Nat.le_trans h (by decide)
theorem szl (n : Nat) (h : n ≤ 100000) : n < sizeLine := Nat.lt_of_le_of_lt h (by decide)

/-! ### comprehensions in a world -/
def Lc (M : List Addr) (Wr : Hp → Hp → Prop) (S H : Hp) (D : Addr) (I : Nat → List V → Hp → Prop) (i : Nat) (H' : Hp) : Prop :=
  ∃ S' acc, Gr M S H S' H' ∧ Wr S' H' ∧ S' D = none ∧ H' D = some (.lst acc) ∧ acc.length ≤ i ∧ I i acc S'
section
variable {M : List Addr} {Wr : Hp → Hp → Prop} {S H S1 H1 S4 H4 : Hp} {D : Addr} {I : Nat → List V → Hp → Prop} {i : Nat} {acc : List V} {y : V}
theorem lc_start (A : Wld M Wr) (W : Wr S H) (hD : H D = none) (h0 : I 0 [] S) : Lc M Wr S H D I 0 (upd H D (.lst [])) :=
  ⟨S, [], (Gr.refl M S H).chg hD, A.chg W ((A.sh W).free hD) (A.fresh W hD), (A.sh W).free hD, upd_same, Nat.le_refl _, h0⟩
theorem lc_put (A : Wld M Wr) (W : Wr S H) (hD : H D = none) (g1 : Gr M S H S1 H1) (s1 : S1 D = none) (e1 : H1 D = some (.lst acc)) (l1 : acc.length ≤ i) (hi : i ≤ 100000) (g : Gr M S1 H1 S4 H4) (W4 : Wr S4 H4) (h : I (i + 1) (acc ++ [y]) S4) :
    ∃ a, H4 D = some (.lst a) ∧ a.length < sizeLine ∧ Lc M Wr S H D I (i + 1) (upd H4 D (.lst (a ++ [y]))) := by
  have nM := A.fresh W hD
  have s4 : S4 D = none := g.nw D (some_ne e1) s1
  refine ⟨acc, g.kp D _ nM e1, szl _ (by omega), S4, acc ++ [y], (g1.trans g).chg hD, A.chg W4 s4 nM, s4, upd_same, ?_, h⟩
  rw [List.length_append]
  show acc.length + 1 ≤ i + 1
  omega
theorem lc_skip (A : Wld M Wr) (W : Wr S H) (hD : H D = none) (g1 : Gr M S H S1 H1) (s1 : S1 D = none) (e1 : H1 D = some (.lst acc)) (l1 : acc.length ≤ i) (g : Gr M S1 H1 S4 H4) (W4 : Wr S4 H4) (h : I (i + 1) acc S4) : Lc M Wr S H D I (i + 1) H4 :=
  ⟨S4, acc, g1.trans g, W4, g.nw D (some_ne e1) s1, g.kp D _ (A.fresh W hD) e1, by omega, h⟩
end

/-- what a turn of a comprehension may end with -/
def Put (M : List Addr) (Wr : Hp → Hp → Prop) (S H : Hp) (D : Addr) (I : Nat → List V → Hp → Prop) (i : Nat) (y : V) (H4 : Hp) : Prop :=
  ∃ a, H4 D = some (.lst a) ∧ a.length < sizeLine ∧ Lc M Wr S H D I (i + 1) (upd H4 D (.lst (a ++ [y])))
theorem lcw {M : List Addr} {Wr : Hp → Hp → Prop} {S H : Hp} {D : Addr} {J : It} {n : Nat} {G : Hp → Prop} {Y : Nat → Hp → V → Hp → Prop} {g : TG} {tt : TT} {te : TE} {vs : List Nat} {σ : L2.St} {Qd : Hp → Prop}
    (A : Wld M Wr) (W : Wr S H) (hD : H D = none) (w : Walk J n G Y) (I : Nat → List V → Hp → Prop) (h0 : I 0 [] S) (hn : n ≤ 100000) (hG : ∀ S' H', Gr M S H S' H' → Wr S' H' → G H')
    (hs : ∀ (i : Nat) (x : V) (S1 H1 H1' : Hp) (acc : List V), i < n → Gr M S H S1 H1 → Wr S1 H1 → S1 D = none → H1 D = some (.lst acc) → I i acc S1 → Y i H1 x H1' →
      (∀ {S4 H4 : Hp} {y : V}, Gr M S1 H1 S4 H4 → Wr S4 H4 → I (i + 1) (acc ++ [y]) S4 → Put M Wr S H D I i y H4) →
      (∀ {S4 H4 : Hp}, Gr M S1 H1 S4 H4 → Wr S4 H4 → I (i + 1) acc S4 → Lc M Wr S H D I (i + 1) H4) →
      g x (wipe σ vs) H1' fun σ2 H2 => wipe σ2 vs = wipe σ vs ∧ tt σ2 H2 fun b H3 => if b = true then te σ2 H3 fun y H4 => Put M Wr S H D I i y H4 else Lc M Wr S H D I (i + 1) H3)
    (hd : ∀ (S' H' : Hp) (acc : List V), Gr M S H S' H' → Wr S' H' → S' D = none → H' D = some (.lst acc) → acc.length ≤ n → I n acc S' → Qd H') :
    ∃ W : Nat → Nat → Hp → Prop, (∃ m, W 0 m (upd H D (.lst []))) ∧ ∀ i m H, W i m H →
      (J.stop i H ∧ Qd H) ∨ (J.go i H ∧ ∃ Nx : Hp → Prop, (∀ H', Nx H' → ∃ m', m' < m ∧ W (i + 1) m' H') ∧ ∀ x H', J.yld i H x H' → g x (wipe σ vs) H' fun σ2 H2 => wipe σ2 vs = wipe σ vs ∧ tt σ2 H2 fun b H3 =>
        if b = true then te σ2 H3 fun y H4 => ∃ acc, H4 D = some (.lst acc) ∧ acc.length < sizeLine ∧ Nx (upd H4 D (.lst (acc ++ [y]))) else Nx H3) :=
  lc_it w (Lc M Wr S H D I) (lc_start A W hD h0) (fun i H' _ hp => by
      obtain ⟨S1, acc, g1, W1, _⟩ := hp
      exact hG S1 H' g1 W1)
    (fun i x H1 H1' hi hp hy => by
      obtain ⟨S1, acc, g1, W1, s1, e1, l1, h1⟩ := hp
      exact hs i x S1 H1 H1' acc hi g1 W1 s1 e1 h1 hy (fun g W4 h => lc_put A W hD g1 s1 e1 l1 (by omega) g W4 h) (fun g W4 h => lc_skip A W hD g1 s1 e1 l1 g W4 h))
    (fun H1 hp => by
      obtain ⟨S1, acc, g1, W1, s1, e1, l1, h1⟩ := hp
      exact hd S1 H1 acc g1 W1 s1 e1 l1 h1)

/-- a for loop in a world -/
def Fw (M : List Addr) (Wr : Hp → Hp → Prop) (S H : Hp) (I : Nat → L2.St → Hp → Hp → Prop) (i : Nat) (σ : L2.St) (H' : Hp) : Prop := ∃ S', Gr M S H S' H' ∧ Wr S' H' ∧ I i σ S' H'
theorem forw {M : List Addr} {Wr : Hp → Hp → Prop} {S H : Hp} {J : It} {n : Nat} {G : Hp → Prop} {Y : Nat → Hp → V → Hp → Prop} {g : TG} {tb : TS} {D : Ends} {σ : L2.St}
    (W : Wr S H) (w : Walk J n G Y) (I : Nat → L2.St → Hp → Hp → Prop) (h0 : I 0 σ S H) (hG : ∀ S' H' i σ', Gr M S H S' H' → Wr S' H' → I i σ' S' H' → G H')
    (hs : ∀ (i : Nat) (x : V) (σ' : L2.St) (S1 H1 H1' : Hp), i < n → Gr M S H S1 H1 → Wr S1 H1 → I i σ' S1 H1 → Y i H1 x H1' →
      g x σ' H1' fun σ2 H2 => tb { D with nx := Fw M Wr S H I (i + 1), ct := Fw M Wr S H I (i + 1), bk := D.nx } σ2 H2)
    (hd : ∀ (σ' : L2.St) (S' H' : Hp), Gr M S H S' H' → Wr S' H' → I n σ' S' H' → D.nx σ' H') :
    ∃ W : Nat → Nat → L2.St → Hp → Prop, (∃ m, W 0 m σ H) ∧ ∀ i m σ H, W i m σ H →
      (J.stop i H ∧ D.nx σ H) ∨ (J.go i H ∧ ∃ N : L2.St → Hp → Prop, (∀ σ' H', N σ' H' → ∃ m', m' < m ∧ W (i + 1) m' σ' H') ∧ ∀ x H', J.yld i H x H' → g x σ H' fun σ2 H2 => tb { D with nx := N, ct := N, bk := D.nx } σ2 H2) :=
  for_it w (Fw M Wr S H I) ⟨S, Gr.refl _ _ _, W, h0⟩ (fun i σ' H' _ hp => by
      obtain ⟨S1, g1, W1, h1⟩ := hp
      exact hG S1 H' i σ' g1 W1 h1)
    (fun i x σ' H1 H1' hi hp hy => by
      obtain ⟨S1, g1, W1, h1⟩ := hp
      exact hs i x σ' S1 H1 H1' hi g1 W1 h1 hy)
    (fun σ' H' hp => by
      obtain ⟨S1, g1, W1, h1⟩ := hp
      exact hd σ' S1 H' g1 W1 h1)

/-- a for loop that changes things of its own: all that is known stands in I -/
def Fi (I : Nat → L2.St → Hp → Hp → Prop) (i : Nat) (σ : L2.St) (H' : Hp) : Prop := ∃ S', I i σ S' H'
theorem fori {S H : Hp} {J : It} {n : Nat} {G : Hp → Prop} {Y : Nat → Hp → V → Hp → Prop} {g : TG} {tb : TS} {D : Ends} {σ : L2.St}
    (w : Walk J n G Y) (I : Nat → L2.St → Hp → Hp → Prop) (h0 : I 0 σ S H) (hG : ∀ S' H' i σ', I i σ' S' H' → G H')
    (hs : ∀ (i : Nat) (x : V) (σ' : L2.St) (S1 H1 H1' : Hp), i < n → I i σ' S1 H1 → Y i H1 x H1' →
      g x σ' H1' fun σ2 H2 => tb { D with nx := Fi I (i + 1), ct := Fi I (i + 1), bk := D.nx } σ2 H2)
    (hd : ∀ (σ' : L2.St) (S' H' : Hp), I n σ' S' H' → D.nx σ' H') :
    ∃ W : Nat → Nat → L2.St → Hp → Prop, (∃ m, W 0 m σ H) ∧ ∀ i m σ H, W i m σ H →
      (J.stop i H ∧ D.nx σ H) ∨ (J.go i H ∧ ∃ N : L2.St → Hp → Prop, (∀ σ' H', N σ' H' → ∃ m', m' < m ∧ W (i + 1) m' σ' H') ∧ ∀ x H', J.yld i H x H' → g x σ H' fun σ2 H2 => tb { D with nx := N, ct := N, bk := D.nx } σ2 H2) :=
  for_it w (Fi I) ⟨S, h0⟩ (fun i σ' H' _ hp => by
      obtain ⟨S1, h1⟩ := hp
      exact hG S1 H' i σ' h1)
    (fun i x σ' H1 H1' hi hp hy => by
      obtain ⟨S1, h1⟩ := hp
      exact hs i x σ' S1 H1 H1' hi h1 hy)
    (fun σ' H' hp => by
      obtain ⟨S1, h1⟩ := hp
      exact hd σ' S1 H' h1)

/-! ### data in the persistent part -/
mutual
inductive Rp (S : Hp) : V → PyData → Prop
  | non : Rp S .non .none
  | bl (b : Bool) : Rp S (.bl b) (.bool b)
  | int (i : Int) : Rp S (.int i) (.int i)
  | str (x : Str) : Rp S (.str x) (.str x)
  | lst {a : Addr} {xs : List V} {ds : List PyData} : S a = some (.lst xs) → RpL S xs ds → Rp S (.ref a) (.list ds)
  | tup {a : Addr} {xs : List V} {ds : List PyData} : S a = some (.tup xs) → RpL S xs ds → Rp S (.ref a) (.tuple ds)
inductive RpL (S : Hp) : List V → List PyData → Prop
  | nil : RpL S [] []
  | cons {v : V} {vs : List V} {d : PyData} {ds : List PyData} : Rp S v d → RpL S vs ds → RpL S (v :: vs) (d :: ds)
end
mutual
theorem Rp.mono {S S' : Hp} (e : Same S S') : ∀ (d : PyData) (v : V), Rp S v d → Rp S' v d
  | .none, _, h => by cases h; exact .non
  | .bool b, _, h => by cases h; exact .bl b
  | .int i, _, h => by cases h; exact .int i
  | .str x, _, h => by cases h; exact .str x
  | .list ds, _, h => by
    cases h with
    | lst h1 h2 => exact .lst (e _ _ h1) (RpL.mono e ds _ h2)
  | .tuple ds, _, h => by
    cases h with
    | tup h1 h2 => exact .tup (e _ _ h1) (RpL.mono e ds _ h2)
  | .dict _, _, h => by cases h
theorem RpL.mono {S S' : Hp} (e : Same S S') : ∀ (ds : List PyData) (vs : List V), RpL S vs ds → RpL S' vs ds
  | [], _, h => by cases h; exact .nil
  | d :: ds, _, h => by
    cases h with
    | cons h1 h2 => exact .cons (Rp.mono e d _ h1) (RpL.mono e ds _ h2)
end
mutual
theorem Rp.dp {K : PySem.W.Frag} {S : Hp} : ∀ (d : PyData) (v : V), Rp S v d → Dp K S v d
  | .none, _, h => by cases h; exact .non
  | .bool b, _, h => by cases h; exact .bl b
  | .int i, _, h => by cases h; exact .int i
  | .str x, _, h => by cases h; exact .str x
  | .list ds, _, h => by
    cases h with
    | lst h1 h2 => exact .lst (SqL.of h1) (RpL.dp ds _ h2)
  | .tuple ds, _, h => by
    cases h with
    | tup h1 h2 => exact .tup (SqT.of h1) (RpL.dp ds _ h2)
  | .dict _, _, h => by cases h
theorem RpL.dp {K : PySem.W.Frag} {S : Hp} : ∀ (ds : List PyData) (vs : List V), RpL S vs ds → DpAll K S vs ds
  | [], _, h => by cases h; exact .nil
  | d :: ds, _, h => by
    cases h with
    | cons h1 h2 => exact .cons (Rp.dp d _ h1) (RpL.dp ds _ h2)
end
theorem RpL.len {S : Hp} : ∀ {ds : List PyData} {vs : List V}, RpL S vs ds → vs.length = ds.length
  | [], _, h => by cases h; rfl
  | d :: ds, _, h => by
    cases h with
    | cons h1 h2 => exact congrArg (· + 1) (RpL.len h2)
theorem RpL.get {S : Hp} : ∀ {ds : List PyData} {vs : List V} {i : Nat} {v : V}, RpL S vs ds → vs[i]? = some v → ∃ d, ds[i]? = some d ∧ Rp S v d
  | [], _, i, v, h, e => by cases h; simp at e
  | d :: ds, _, 0, v, h, e => by
    cases h with
    | cons h1 h2 =>
      have e' := Option.some.inj e
      subst e'
      exact ⟨d, rfl, h1⟩
  | d :: ds, _, i + 1, v, h, e => by
    cases h with
    | cons h1 h2 => exact RpL.get (i := i) h2 e
theorem RpL.getD {S : Hp} : ∀ {ds : List PyData} {vs : List V} {i : Nat} {d : PyData}, RpL S vs ds → ds[i]? = some d → ∃ v, vs[i]? = some v ∧ Rp S v d
  | [], _, i, v, h, e => by simp at e
  | d :: ds, _, 0, v, h, e => by
    cases h with
    | cons h1 h2 =>
      have e' := Option.some.inj e
      subst e'
      exact ⟨_, rfl, h1⟩
  | d :: ds, _, i + 1, v, h, e => by
    cases h with
    | cons h1 h2 => exact RpL.getD (i := i) h2 e
theorem RpL.snoc {S : Hp} {v : V} {d : PyData} (h : Rp S v d) : ∀ {ds : List PyData} {vs : List V}, RpL S vs ds → RpL S (vs ++ [v]) (ds ++ [d])
  | [], _, q => by cases q; exact .cons h .nil
  | e :: ds, _, q => by
    cases q with
    | cons h1 h2 => exact .cons h1 (RpL.snoc h h2)
theorem RpL.append {Sh : Hp} : ∀ {ds es : List PyData} {vs us : List V}, RpL Sh vs ds → RpL Sh us es → RpL Sh (vs ++ us) (ds ++ es)
  | [], _, _, _, h, q => by cases h; exact q
  | d :: ds, _, _, _, h, q => by
    cases h with
    | cons h1 h2 => exact .cons h1 (RpL.append h2 q)
mutual
def dep : PyData → Nat
  | .list ds => depL ds + 1
  | .tuple ds => depL ds + 1
  | _ => 0
def depL : List PyData → Nat
  | [] => 0
  | d :: ds => max (dep d) (depL ds)
end
mutual
/-- data of depth at most n, its lists short -/
def fits : PyData → Nat → Bool
  | .list ds, n => decide (1 ≤ n) && decide (ds.length ≤ 10000) && fitsL ds (n - 1)
  | .tuple ds, n => decide (1 ≤ n) && decide (ds.length ≤ 10000) && fitsL ds (n - 1)
  | .dict _, _ => false
  | _, _ => true
def fitsL : List PyData → Nat → Bool
  | [], _ => true
  | d :: ds, n => fits d n && fitsL ds n
end
theorem fitsL_get : ∀ {ds : List PyData} {n i : Nat} {d : PyData}, fitsL ds n = true → ds[i]? = some d → fits d n = true
  | [], n, i, d, _, h => by simp at h
  | e :: ds, n, 0, d, f, h => by
    have := Option.some.inj h
    subst this
    unfold fitsL at f
    exact (Bool.and_eq_true_iff.mp f).1
  | e :: ds, n, i + 1, d, f, h => by
    unfold fitsL at f
    exact fitsL_get (i := i) (Bool.and_eq_true_iff.mp f).2 h
theorem depL_get : ∀ {ds : List PyData} {i : Nat} {d : PyData}, ds[i]? = some d → dep d ≤ depL ds
  | [], i, d, h => by simp at h
  | e :: ds, 0, d, h => by
    have := Option.some.inj h
    subst this
    unfold depL
    exact Nat.le_max_left _ _
  | e :: ds, i + 1, d, h => by
    unfold depL
    exact Nat.le_trans (depL_get (i := i) h) (Nat.le_max_right _ _)
def sp_law (K : PySem.W.Frag) : Sp := fun vs H Q _ => ∃ (a : Addr) (ns : List Int), vs = [.ref a] ∧ SqL K H a (ns.map V.int) ∧ ns.length ≤ 63 ∧ ∀ H', Q (.bl true) H'
end G48

namespace G48
open PySem PySem.Spec PyProof.Rows L2 SX
def topS (i : Nat) : Stmt := PySem.Challenge.pw_lendbough_k03_sizes_of_terms.main.body.getD i (.Pass ⟨0, 0, 0, 0⟩)
--USES
abbrev SMALL : Str := "abcdefghijklmnopqrstuvwxyz"
abbrev LARGE : Str := "ABCDEFGHIJKLMNOPQRSTUVWXYZ"
def lows : List Nat := SMALL.cps.toList
def caps : List Nat := LARGE.cps.toList
def isLow (c : Nat) : Bool := decide (c ∈ lows)
def isCap (c : Nat) : Bool := decide (c ∈ caps)
def isSign (z : List Nat) : Bool := decide (1 ≤ z.length ∧ z.length ≤ 6) && z.all isLow
theorem isSign_yes {l : List Nat} (h1 : 1 ≤ l.length) (h2 : l.length ≤ 6) : isSign l = l.all isLow := by
  unfold isSign
  rw [decide_eq_true (And.intro h1 h2)]
  rfl
theorem isSign_no {l : List Nat} (h : ¬ (1 ≤ l.length ∧ l.length ≤ 6)) : isSign l = false := by
  unfold isSign
  rw [decide_eq_false h]
  rfl
def sp_is_sign : Sp := fun vs H Q _ => ∃ l : List Nat, vs = [.str (S l)] ∧ l.length ≤ 1000 ∧ ∀ H', Same H H' → Q (.bl (isSign l)) H'

--USES is_sign
def isName : List Nat → Bool
  | [] => false
  | c :: r => isCap c && (decide (r.length ≤ 5) && r.all isLow)
theorem isName_cons {c : Nat} {r : List Nat} (h : isCap c = true) (hl : r ≠ []) : isName (c :: r) = (decide (r.length + 1 ≤ 6) && isSign r) := by
  show (isCap c && (decide (r.length ≤ 5) && r.all isLow)) = _
  rw [h, Bool.true_and]
  by_cases h6 : r.length ≤ 5
  · rw [decide_eq_true h6, decide_eq_true (show r.length + 1 ≤ 6 by omega), isSign_yes (by cases r with | nil => exact absurd rfl hl | cons a r => simp) (by omega)]
  · rw [decide_eq_false h6, decide_eq_false (show ¬ r.length + 1 ≤ 6 by omega)]
    rfl
def sp_is_name : Sp := fun vs H Q _ => ∃ l : List Nat, vs = [.str (S l)] ∧ l.length ≤ 1000 ∧ ∀ H', Same H H' → Q (.bl (isName l)) H'

--USES
abbrev s_law_take : Stmt := topS 6
abbrev N_law_take : List Str := ["_law_box_here", "_law_many", "_law_cell", "_law_seed", "_law_found"]
theorem sc_law_take : FnScope N_law_take ["_law_box_here", "_law_many"] (defScope s_law_take) := ⟨rfl, rfl, rfl, by decide +kernel, rfl, by decide +kernel, by decide +kernel⟩

/-- a draw: some number below many -/
def sp_law_take : Sp := fun vs H Q _ => ∃ (b : Addr) (Sh : Hp) (n : Int), vs = [.ref b, .int n] ∧ Wd b Sh H ∧ 1 ≤ n ∧ n ≤ 1000000 ∧
  ∀ (H' : Hp) (r : Nat), Gr [b] Sh H Sh H' → Wd b Sh H' → (r : Int) < n → Q (.int (r : Int)) H'
/-- a change of the box alone -/
theorem box_upd {b : Addr} {Sh H : Hp} {p : Addr} {ns : List Int} {i c m : Int} (W : Wd b Sh H) (hp : Sh p = some (.lst (ns.map V.int))) (hl : ns.length ≤ 63) (h1 : 0 ≤ i) (h2 : 0 ≤ c) (h3 : 0 ≤ m) (h4 : m < 2147483647) :
    Gr [b] Sh H Sh (upd H b (.lst [.ref p, .int i, .int c, .int m])) ∧ Wd b Sh (upd H b (.lst [.ref p, .int i, .int c, .int m])) := by
  refine ⟨⟨Same.refl _, fun a o n e => ?_, fun a _ e => e, fun a e => ?_⟩, mut_same W.sh W.nb, W.nb, p, ns, i, c, m, upd_same, hp, hl, h1, h2, h3, h4⟩
  · rw [upd_ne (fun z => n (by rw [z]; exact List.mem_singleton.mpr rfl))]
    exact e
  · by_cases z : a = b
    · subst z
      rw [upd_same]
      exact fun z => nomatch z
    · rw [upd_ne z]
      exact e
theorem nat_of {x n : Int} (h0 : 0 ≤ x) (h1 : x < n) : ∃ r : Nat, x = (r : Int) ∧ (r : Int) < n := ⟨x.toNat, by omega, by omega⟩
section
variable {P : Program} {w : World} {K : PySem.W.Frag} {mg : Str → Option Value} {base : Heap}
theorem cal_law_take (F : Dfn K mg "_law_take" s_law_take) (B : Bt mg) : Cal P w K mg base 1 "_law_take" sp_law_take := by
  refine cal_of F sc_law_take (fun _ _ _ _ _ _ us hl => match us, hl with | [_, _], _ => rfl) (fun vs H Q E h => ?_) (fun f cdv A outer s H vs Q E hr h => ?_)
  · obtain ⟨b, Sh, n, rfl, _⟩ := h
    rfl
  obtain ⟨b, Sh, n, rfl, W, n1, n2, q⟩ := h
  refine ⟨_, (C8.pss_cut (ps_if (PW.pt (pw_and (pt_cmpR op_eq (pe_ix (k_ix_list K rfl) (pv 0) pe_int (fun _ _ => rfl)) pe_int (nomark _)) (pw_and1 (pt_cmpR op_lt (pe_ix (k_ix_list K rfl) (pv 0) pe_int (fun _ _ => rfl)) (pe_callB (k_len_seq K rfl) (by rfl) B.len PySem.boot_len (pa_cons (pe_ix (k_ix_list K rfl) (pv 0) pe_int (fun _ _ => rfl)) pa_nil)) (nomark _))))) (pss_cons (ps_set (i := 2) sc_law_take.nd rfl (by first | exact .inl rfl | exact .inr rfl) (pe_ix (k_ix_list K rfl) (pe_ix (k_ix_list K rfl) (pv 0) pe_int (fun _ _ => rfl)) (pe_ix (k_ix_list K rfl) (pv 0) pe_int (fun _ _ => rfl)) (fun _ _ => rfl)))
      (pss_cons (ps_asg (pe_op op_add (pe_ix (k_ix_list K rfl) (pv 0) pe_int (fun _ _ => rfl)) pe_int) (pg_sub (pv 0) pe_int set_list))
      (pss_one (ps_if (pt_cmpR op_ge (pv 2) (pe_op op_pow pe_int pe_int) (nomark _)) (pss_one (ps_asg (pv 2) (pg_sub (pv 0) pe_int set_list))) (pss_cons (ps_set (i := 3) sc_law_take.nd rfl (by first | exact .inl rfl | exact .inr rfl) (pe_op op_add (pe_op op_mul (pe_ix (k_ix_list K rfl) (pv 0) pe_int (fun _ _ => rfl)) pe_int) (pe_op op_mul (pe_ix (k_ix_list K rfl) (pv 0) pe_int (fun _ _ => rfl)) pe_int)))
      (pss_one (ps_asg (pe_op op_mod (pe_callTy call_int1 (by rfl) B.int (by decide +kernel) (pa_cons (pe_op op_add (pv 3) (pe_op op_mod (pe_callTy call_int1 (by rfl) B.int (by decide +kernel) (pa_cons (pv 2) pa_nil)) pe_int)) pa_nil)) pe_int) (pg_sub (pv 0) pe_int set_list)))))))) pss_nil)
      (pss_cons (ps_if (pt_cmpR op_gt (pe_ix (k_ix_list K rfl) (pv 0) pe_int (fun _ _ => rfl)) pe_int (nomark _)) (pss_cons (ps_set (i := 4) sc_law_take.nd rfl (by first | exact .inl rfl | exact .inr rfl) (pe_op op_mod (pe_callTy call_int1 (by rfl) B.int (by decide +kernel) (pa_cons (pe_ix (k_ix_list K rfl) (pv 0) pe_int (fun _ _ => rfl)) pa_nil)) (pv 1)))
      (pss_cons (ps_asg (pe_op op_fdiv (pe_ix (k_ix_list K rfl) (pv 0) pe_int (fun _ _ => rfl)) (pv 1)) (pg_sub (pv 0) pe_int set_list))
      (pss_one (ps_ret (pv 4))))) pss_nil)
      (pss_cons (ps_asg (pe_op op_mod (pe_callTy call_int1 (by rfl) B.int (by decide +kernel) (pa_cons (pe_op op_add (pe_op op_mul (pe_ix (k_ix_list K rfl) (pv 0) pe_int (fun _ _ => rfl)) pe_int) pe_int) pa_nil)) pe_int) (pg_sub (pv 0) pe_int set_list))
      (pss_one (ps_ret (pe_op op_mod (pe_callTy call_int1 (by rfl) B.int (by decide +kernel) (pa_cons (pe_op op_fdiv (pe_op op_mod (pe_callTy call_int1 (by rfl) B.int (by decide +kernel) (pa_cons (pe_op op_mul (pe_ix (k_ix_list K rfl) (pv 0) pe_int (fun _ _ => rfl)) (pe_ix (k_ix_list K rfl) (pv 0) pe_int (fun _ _ => rfl))) pa_nil)) pe_int) pe_int) pa_nil)) (pv 1))))))), ?_⟩
  refine ⟨fun σ' H' => ∃ y2 y3 y4, σ' = [some (.ref b), some (.int n), y2, y3, y4] ∧ Gr [b] Sh H Sh H' ∧ Wd b Sh H', ?_, fun σ' H' hM => ?_⟩
  · obtain ⟨p, ns, i, c, m, hb, hp, hl, i0, c0, m0, m1⟩ := W.bx
    refine ⟨_, rfl, b, _, 2, .int c, rfl, rfl, SqL.of hb, atI_nat (j := 2) rfl, rfl, _, rfl, ite2 (fun t1 => ?_) (fun t1 => ?_)⟩
    · refine ⟨_, rfl, b, _, 1, .int i, rfl, rfl, SqL.of hb, atI_nat (j := 1) rfl, _, rfl, b, _, 0, .ref p, rfl, rfl, SqL.of hb, atI_nat (j := 0) rfl, p, _, rfl, .inl (SqL.of (W.sh _ _ hp)), _, _, rfl, rfl, _, rfl, ite2 (fun t2 => ?_) (fun t2 => ?_)⟩
      · have t3 : i < ((ns.map V.int).length : Int) := dT t2
        rw [List.length_map] at t3
        obtain ⟨k, rfl⟩ : ∃ k : Nat, i = (k : Int) := ⟨i.toNat, by omega⟩
        have hk : k < ns.length := by omega
        refine ⟨_, rfl, b, _, 0, .ref p, rfl, rfl, SqL.of hb, atI_nat (j := 0) rfl, _, rfl, b, _, 1, .int k, rfl, rfl, SqL.of hb, atI_nat (j := 1) rfl, p, _, k, .int ns[k], rfl, rfl, SqL.of (W.sh _ _ hp), atI_nat (j := k) ?_, ?_⟩
        · rw [List.getElem?_map, List.getElem?_eq_getElem hk]
          rfl
        refine ⟨_, rfl, b, _, 1, .int k, rfl, rfl, SqL.of hb, atI_nat (j := 1) rfl, _, _, rfl, rfl, _, rfl, b, _, 1, 1, rfl, rfl, hb, rfl, ?_⟩
        have B1 := box_upd (i := (k : Int) + 1) (c := c) (m := m) W hp hl (by omega) c0 m0 m1
        refine ⟨_, rfl, _, _, rfl, rfl, ⟨by decide, by decide, by decide⟩, _, _, rfl, rfl, _, rfl, ite2 (fun t4 => ?_) (fun t4 => ?_)⟩
        · have t5 : (10 : Int) ^ 18 ≤ ns[k] := dT t4
          refine ⟨_, rfl, _, rfl, b, _, 2, 2, rfl, rfl, upd_same, rfl, ?_⟩
          rw [upd_upd]
          have B2 := box_upd (i := (k : Int) + 1) (c := ns[k]) (m := m) W hp hl (by omega) (by omega) m0 m1
          exact ⟨_, _, _, rfl, B2.1, B2.2⟩
        · refine ⟨_, rfl, b, _, 3, .int m, rfl, rfl, SqL.of upd_same, atI_nat (j := 3) rfl, _, _, rfl, rfl, .inl ⟨by omega, by omega⟩, _, rfl, b, _, 1, .int ((k : Int) + 1), rfl, rfl, SqL.of upd_same, atI_nat (j := 1) rfl, _, _, rfl, rfl, .inr ⟨by decide, by decide⟩, _, _, rfl, rfl, ?_⟩
          refine ⟨_, rfl, _, rfl, .inl ⟨_, rfl, _, _, rfl, rfl, (by show (0 : Int) < 2147483563; decide), _, _, rfl, rfl, .inl ⟨_, rfl, _, _, rfl, rfl, (by show (0 : Int) < 2147483647; decide), _, rfl, b, _, 3, 3, rfl, rfl, upd_same, rfl, ?_⟩⟩⟩
          rw [upd_upd]
          have B2 := box_upd (i := (k : Int) + 1) (c := c) (m := (m * 48271 + ((k : Int) + 1) * 2003 + ns[k] % 2147483563) % 2147483647) W hp hl (by omega) c0 (Int.emod_nonneg _ (by decide)) (Int.emod_lt_of_pos _ (by decide))
          exact ⟨_, _, _, rfl, B2.1, B2.2⟩
      · exact ⟨_, _, _, rfl, Gr.refl _ _ _, W⟩
    · exact ⟨_, _, _, rfl, Gr.refl _ _ _, W⟩
  · obtain ⟨y2, y3, y4, rfl, G1, W1⟩ := hM
    obtain ⟨p, ns, i, c, m, hb, hp, hl, i0, c0, m0, m1⟩ := W1.bx
    refine ⟨_, rfl, b, _, 2, .int c, rfl, rfl, SqL.of hb, atI_nat (j := 2) rfl, _, _, rfl, rfl, _, rfl, ite2 (fun t1 => ?_) (fun t1 => ?_)⟩
    · refine ⟨_, rfl, b, _, 2, .int c, rfl, rfl, SqL.of hb, atI_nat (j := 2) rfl, .inl ⟨_, rfl, _, rfl, _, _, rfl, rfl, (by show 0 < n; omega), ?_⟩⟩
      refine ⟨_, rfl, b, _, 2, .int c, rfl, rfl, SqL.of hb, atI_nat (j := 2) rfl, _, rfl, _, _, rfl, rfl, ⟨by omega, by omega⟩, _, rfl, b, _, 2, 2, rfl, rfl, hb, rfl, _, rfl, ?_⟩
      have B2 := box_upd (i := i) (c := c / n) (m := m) W1 hp hl i0 (Int.ediv_nonneg c0 (by omega)) m0 m1
      obtain ⟨r, er, hr1⟩ := nat_of (Int.emod_nonneg c (show n ≠ 0 by omega)) (Int.emod_lt_of_pos c (show 0 < n by omega))
      have z := q _ r (G1.trans B2.1) B2.2 hr1
      rw [← er] at z
      exact z
    · refine ⟨_, rfl, b, _, 3, .int m, rfl, rfl, SqL.of hb, atI_nat (j := 3) rfl, _, _, rfl, rfl, .inl ⟨by omega, by omega⟩, _, _, rfl, rfl, .inl ⟨_, rfl, _, _, rfl, rfl, (by show (0 : Int) < 2147483647; decide), _, rfl, b, _, 3, 3, rfl, rfl, hb, rfl, ?_⟩⟩
      have hm2 := Int.emod_lt_of_pos (m * 69621 + 13) (show (0 : Int) < 2147483647 by decide)
      have hm1 := Int.emod_nonneg (m * 69621 + 13) (show (2147483647 : Int) ≠ 0 by decide)
      have B2 := box_upd (i := i) (c := c) (m := (m * 69621 + 13) % 2147483647) W1 hp hl i0 c0 hm1 hm2
      refine ⟨_, rfl, b, _, 3, _, rfl, rfl, SqL.of upd_same, atI_nat (j := 3) rfl, _, rfl, b, _, 3, _, rfl, rfl, SqL.of upd_same, atI_nat (j := 3) rfl, _, _, rfl, rfl, .inl ⟨by omega, by omega⟩, .inl ⟨_, rfl, _, _, rfl, rfl, (by show (0 : Int) < 998244353; decide), _, _, rfl, rfl, ⟨by decide, by decide⟩, .inl ⟨_, rfl, _, rfl, _, _, rfl, rfl, (by show 0 < n; omega), ?_⟩⟩⟩
      generalize (m * 69621 + 13) % 2147483647 * ((m * 69621 + 13) % 2147483647) % 998244353 / 11 = z0
      obtain ⟨r, er, hr1⟩ := nat_of (Int.emod_nonneg z0 (show n ≠ 0 by omega)) (Int.emod_lt_of_pos z0 (show 0 < n by omega))
      have z := q _ r (G1.trans B2.1) B2.2 hr1
      rw [← er] at z
      exact z
end

--USES law_take
abbrev s_law_any : Stmt := topS 7
abbrev N_law_any : List Str := ["_law_box_here", "_law_things"]
theorem sc_law_any : FnScope N_law_any ["_law_box_here", "_law_things"] (defScope s_law_any) := ⟨rfl, rfl, rfl, by decide +kernel, rfl, by decide +kernel, by decide +kernel⟩

/-- one of some things, or one sign of a text -/
def sp_law_any (K : PySem.W.Frag) : Sp := fun vs H Q _ => ∃ (b : Addr) (Sh : Hp), Wd b Sh H ∧
  ((∃ (a : Addr) (xs : List V), vs = [.ref b, .ref a] ∧ a ≠ b ∧ SqL K H a xs ∧ 1 ≤ xs.length ∧ xs.length ≤ 1000 ∧ ∀ (H' : Hp) (r : Nat) (x : V), Gr [b] Sh H Sh H' → Wd b Sh H' → xs[r]? = some x → Q x H') ∨
   (∃ l : List Nat, vs = [.ref b, .str (S l)] ∧ 1 ≤ l.length ∧ l.length ≤ 1000 ∧ ∀ (H' : Hp) (c : Nat), Gr [b] Sh H Sh H' → Wd b Sh H' → c ∈ l → Q (.str (S [c])) H'))
section
variable {P : Program} {w : World} {K : PySem.W.Frag} {mg : Str → Option Value} {base : Heap}
theorem cal_law_any (F : Dfn K mg "_law_any" s_law_any) (B : Bt mg) (c__law_take : Cal P w K mg base 1 "_law_take" sp_law_take) : Cal P w K mg base 2 "_law_any" (sp_law_any K) := by
  refine cal_of F sc_law_any (fun _ _ _ _ _ _ us hl => match us, hl with | [_, _], _ => rfl) (fun vs H Q E h => ?_) (fun f cdv A outer s H vs Q E hr h => ?_)
  · rcases h with ⟨b, Sh, W, ⟨a, xs, rfl, _⟩ | ⟨l, rfl, _⟩⟩ <;> rfl
  obtain ⟨b, Sh, W, h⟩ := h
  refine ⟨_, (pss_one (ps_ret (pe_ix (k_ix_seq K rfl) (pv 1) (pe_cc c__law_take hr (by omega) (by rfl) (pa_cons (pv 0) (pa_cons (pe_callB (k_len K rfl) (by rfl) B.len PySem.boot_len (pa_cons (pv 1) pa_nil)) pa_nil))) (fun _ _ => rfl)))), ?_⟩
  rcases h with ⟨a, xs, rfl, nb, hS, h1, h2, q⟩ | ⟨l, rfl, h1, h2, q⟩
  · refine ⟨_, rfl, _, rfl, _, rfl, .ref a, xs.length, rfl, .inl ⟨xs, hS, rfl⟩, ?_⟩
    refine ⟨b, Sh, _, rfl, W, by omega, by omega, fun H' r G W' hr1 => ?_⟩
    have hk : r < xs.length := by omega
    refine .inl ⟨a, xs, _, xs[r], rfl, rfl, G.sqL (fun z => nb (List.mem_singleton.mp z)) hS, atI_nat (List.getElem?_eq_getElem hk), ?_⟩
    exact q H' r _ G W' (List.getElem?_eq_getElem hk)
  · have hl := S_len l
    refine ⟨_, rfl, _, rfl, _, rfl, .str (S l), (S l).length, rfl, ⟨sz _ (by omega), rfl⟩, ?_⟩
    refine ⟨b, Sh, _, rfl, W, by omega, by omega, fun H' r G W' hr1 => ?_⟩
    have hk : r < l.length := by omega
    refine .inr (.inr ⟨S l, _, l[r], rfl, rfl, sz _ (by omega), atI_nat (List.getElem?_eq_getElem hk), ?_⟩)
    exact q H' _ G W' (List.getElem_mem hk)
end

--USES is_name law_any
abbrev s_law_letters : Stmt := topS 9
abbrev N_law_letters : List Str := ["_law_box_here", "_law_cap", "_law_k"]
theorem sc_law_letters : FnScope N_law_letters ["_law_box_here", "_law_cap"] (defScope s_law_letters) := ⟨rfl, rfl, rfl, by decide +kernel, rfl, by decide +kernel, by decide +kernel⟩

abbrev s_law_words : Stmt := topS 10
abbrev N_law_words : List Str := ["_law_box_here", "_law_many", "_law_stem", "_law_spot", "_law_first", "_law_small", "_law_k"]
theorem sc_law_words : FnScope N_law_words ["_law_box_here", "_law_many"] (defScope s_law_words) := ⟨rfl, rfl, rfl, by decide +kernel, rfl, by decide +kernel, by decide +kernel⟩

abbrev s_law_names : Stmt := topS 11
abbrev N_law_names : List Str := ["_law_box_here", "_law_many", "_law_large", "_law_small", "_law_stem", "_law_first", "_law_spot", "_law_front", "_law_k"]
theorem sc_law_names : FnScope N_law_names ["_law_box_here", "_law_many"] (defScope s_law_names) := ⟨rfl, rfl, rfl, by decide +kernel, rfl, by decide +kernel, by decide +kernel⟩

theorem join1 : ∀ cs : List Nat, TL.joinL [] (cs.map fun c => [c]) = cs
  | [] => rfl
  | [c] => rfl
  | c :: d :: r => by
    show [c] ++ ([] ++ TL.joinL [] ((d :: r).map fun c => [c])) = _
    rw [join1 (d :: r)]
    rfl
theorem sum1 : ∀ cs : List Nat, ((cs.map fun c => S [c]).map (·.length)).sum = cs.length
  | [] => rfl
  | c :: r => by
    show (S [c]).length + ((r.map fun c => S [c]).map (·.length)).sum = r.length + 1
    rw [sum1 r, S_len]
    show 1 + r.length = _
    omega
abbrev vs_ (l : List Nat) : V := V.str (S l)
/-- a drawn stem -/
def sp_law_letters : Sp := fun vs H Q _ => ∃ (b : Addr) (Sh : Hp) (n : Nat), vs = [.ref b, .int (n : Int)] ∧ Wd b Sh H ∧ n ≤ 100 ∧
  ∀ (H' : Hp) (l : List Nat), Gr [b] Sh H Sh H' → Wd b Sh H' → l.length ≤ n → l.all isLow = true → Q (vs_ l) H'
/-- drawn words, all different -/
def sp_law_words : Sp := fun vs H Q _ => ∃ (b : Addr) (Sh : Hp) (n : Nat), vs = [.ref b, .int (n : Int)] ∧ Wd b Sh H ∧ n ≤ 26 ∧
  ∀ (S' H' : Hp) (p : Addr) (ws : List (List Nat)), Gr [b] Sh H S' H' → Wd b S' H' → S' p = some (.lst (ws.map vs_)) → H p = none → ws.length = n → ws.Nodup → (∀ l ∈ ws, isSign l = true) → Q (.ref p) H'
def sp_law_names : Sp := fun vs H Q _ => ∃ (b : Addr) (Sh : Hp) (n : Nat), vs = [.ref b, .int (n : Int)] ∧ Wd b Sh H ∧ n ≤ 26 ∧
  ∀ (S' H' : Hp) (p : Addr) (ws : List (List Nat)), Gr [b] Sh H S' H' → Wd b S' H' → S' p = some (.lst (ws.map vs_)) → H p = none → ws.length = n → ws.Nodup → (∀ l ∈ ws, isName l = true) → Q (.ref p) H'
theorem lows_nd : lows.Nodup := by decide +kernel
theorem caps_nd : caps.Nodup := by decide +kernel
theorem lows_len : lows.length = 26 := by decide +kernel
theorem caps_len : caps.length = 26 := by decide +kernel
theorem isLow_mem {c : Nat} (h : c ∈ lows) : isLow c = true := decide_eq_true h
theorem isCap_mem {c : Nat} (h : c ∈ caps) : isCap c = true := decide_eq_true h
def lowAt (k : Nat) : Nat := lows.getD (k % 26) 0
def capAt (k : Nat) : Nat := caps.getD (k % 26) 0
theorem lowAt_get (k : Nat) : lows[k % 26]? = some (lowAt k) := by
  have h : k % 26 < lows.length := by rw [lows_len]; omega
  unfold lowAt
  rw [List.getD_eq_getElem?_getD, List.getElem?_eq_getElem h]
  rfl
theorem capAt_get (k : Nat) : caps[k % 26]? = some (capAt k) := by
  have h : k % 26 < caps.length := by rw [caps_len]; omega
  unfold capAt
  rw [List.getD_eq_getElem?_getD, List.getElem?_eq_getElem h]
  rfl
theorem lowAt_low (k : Nat) : isLow (lowAt k) = true := isLow_mem (List.mem_of_getElem? (lowAt_get k))
theorem capAt_cap (k : Nat) : isCap (capAt k) = true := isCap_mem (List.mem_of_getElem? (capAt_get k))
theorem lowAt_inj {i j : Nat} (h : lowAt i = lowAt j) : i % 26 = j % 26 := nd_ix lows_nd (lowAt_get i) (by rw [h]; exact lowAt_get j)
theorem capAt_inj {i j : Nat} (h : capAt i = capAt j) : i % 26 = j % 26 := nd_ix caps_nd (capAt_get i) (by rw [h]; exact capAt_get j)
/-- a word of a stem -/
def mkWord (stem : List Nat) (spot first m k : Nat) : List Nat := stem.take spot ++ [lowAt (first + m * k)] ++ stem.drop spot
theorem mkWord_len (stem : List Nat) (spot first m k : Nat) : (mkWord stem spot first m k).length = stem.length + 1 := by
  unfold mkWord
  rw [List.length_append, List.length_append, List.length_take, List.length_drop]
  show min spot stem.length + 1 + (stem.length - spot) = _
  omega
theorem mkWord_all {stem : List Nat} (h : stem.all isLow = true) (spot first m k : Nat) : (mkWord stem spot first m k).all isLow = true := by
  unfold mkWord
  rw [List.all_append, List.all_append]
  have h1 : (stem.take spot).all isLow = true := List.all_eq_true.mpr fun c hc => List.all_eq_true.mp h c (List.mem_of_mem_take hc)
  have h2 : (stem.drop spot).all isLow = true := List.all_eq_true.mpr fun c hc => List.all_eq_true.mp h c (List.mem_of_mem_drop hc)
  rw [h1, h2]
  show (true && (isLow (lowAt (first + m * k)) && true)) && true = true
  rw [lowAt_low]
  rfl
theorem mkWord_at {stem : List Nat} {spot : Nat} (hs : spot ≤ stem.length) (first m k : Nat) : (mkWord stem spot first m k)[spot]? = some (lowAt (first + m * k)) := by
  unfold mkWord
  rw [List.append_assoc, List.getElem?_append_right (by rw [List.length_take]; omega), List.length_take, Nat.min_eq_left hs, Nat.sub_self]
  rfl
theorem nodup_map_range {f : Nat → List Nat} {n : Nat} (h : ∀ i j, i < n → j < n → f i = f j → i = j) : ((List.range n).map f).Nodup := by
  refine List.pairwise_map.mpr ((List.nodup_range (n := n)).imp_of_mem fun {a b} ha hb hne e => hne (h a b (List.mem_range.mp ha) (List.mem_range.mp hb) e))
theorem words_nodup {stem : List Nat} {spot first m n : Nat} (hs : spot ≤ stem.length) (hn : n ≤ 26) (hm : m = 5 ∨ m = 7) : ((List.range n).map (mkWord stem spot first m)).Nodup := by
  refine nodup_map_range fun i j hi hj e => ?_
  have h1 := mkWord_at hs first m i
  rw [e, mkWord_at hs first m j] at h1
  have h2 := lowAt_inj (Option.some.inj h1)
  rcases hm with rfl | rfl <;> omega
theorem slice_toN (a : List Nat) (i : Nat) : Txt.slice (S a) none (some (i : Int)) = S (a.take i) := by
  rw [slice_to (by omega), Int.toNat_natCast]
theorem slice_fromN (a : List Nat) (i : Nat) : Txt.slice (S a) (some (i : Int)) none = S (a.drop i) := by
  rw [slice_from (by omega), Int.toNat_natCast]
theorem mod26 (f m k : Nat) : ((f : Int) + (m : Int) * (k : Int)) % 26 = (((f + m * k) % 26 : Nat) : Int) := by
  rw [Int.natCast_emod, Int.natCast_add, Int.natCast_mul]
  rfl
section
variable {P : Program} {w : World} {K : PySem.W.Frag} {mg : Str → Option Value} {base : Heap}
theorem cal_law_letters (F : Dfn K mg "_law_letters" s_law_letters) (B : Bt mg) (c__law_take : Cal P w K mg base 1 "_law_take" sp_law_take) (c__law_any : Cal P w K mg base 2 "_law_any" (sp_law_any K)) : Cal P w K mg base 3 "_law_letters" sp_law_letters := by
  refine cal_of F sc_law_letters (fun _ _ _ _ _ _ us hl => match us, hl with | [_, _], _ => rfl) (fun vs H Q E h => ?_) (fun f cdv A outer s H vs Q E hr h => ?_)
  · obtain ⟨b, Sh, n, rfl, _⟩ := h
    rfl
  obtain ⟨b, Sh, n, rfl, W, hn, q⟩ := h
  refine ⟨_, (pss_one (ps_ret (k_join K rfl pe_str (pe_lc (own := [("_law_k", 2)]) (g := gName 2) (tt := tYes) rfl sc_law_letters.nd (pi_range1 (by rfl) B.range (pa_cons (pe_cc c__law_take hr (by omega) (by rfl) (pa_cons (pv 0) (pa_cons (pe_op op_add (pv 1) pe_int) pa_nil))) pa_nil)) (blkOk_by (own := [("_law_k", 2)]) (N := N_law_letters) (sc := defScope s_law_letters) (by decide +kernel)) (fun _ _ _ _ _ => (pg_name (i := 2) sc_law_letters.nd rfl (by first | exact .inl rfl | exact .inr rfl))) (fun _ _ _ _ _ => pts_nil) (fun _ _ _ _ _ => (pe_cc c__law_any hr (by omega) (by rfl) (pa_cons (pv 0) (pa_cons pe_str pa_nil)))))))), ?_⟩
  refine ⟨⟨_, rfl⟩, _, rfl, _, rfl, _, _, rfl, rfl, b, Sh, _, rfl, W, by omega, by omega, fun H1 r1 g1 W1 h1 => ?_⟩
  refine ⟨_, rfl, by omega, by omega, fun D hD => ?_⟩
  refine lcw (boxW b) W1 hD walk_r0 (fun i acc S' => S' = Sh ∧ ∃ cs : List Nat, acc = cs.map (fun c => V.str (S [c])) ∧ cs.all isLow = true) ⟨rfl, [], rfl, rfl⟩ (by omega) (fun _ _ _ _ => trivial)
    (fun i x S2 H2 H2' acc hi g2 W2 s2 e2 hI hy put skip => ?_) (fun S2 H2 acc g2 W2 s2 e2 l2 hI => ?_)
  · obtain ⟨e2', rfl⟩ := hy
    subst e2'
    obtain ⟨rfl, cs, rfl, hcs⟩ := hI
    refine ⟨rfl, ?_⟩
    refine ⟨_, rfl, b, S2, W2, .inr ⟨lows, congrArg (fun z => [V.ref b, V.str z]) (S_tl SMALL).symm, by decide +kernel, by decide +kernel, fun H3 c g3 W3 hc => ?_⟩⟩
    refine put g3 W3 ⟨rfl, cs ++ [c], by rw [List.map_append]; rfl, ?_⟩
    rw [List.all_append, hcs]
    show (true && (isLow c && true)) = true
    rw [isLow_mem hc]
    rfl
  · obtain ⟨rfl, cs, rfl, hcs⟩ := hI
    rw [List.length_map] at l2
    refine ⟨_, D, cs.map (fun c => S [c]), rfl, rfl, .inl (SqL.of ?_), ?_, ?_⟩
    · rw [e2, List.map_map]
      rfl
    · rw [sum1, List.length_map]
      show cs.length + cs.length * 0 ≤ 16777216
      omega
    have ej : Txt.join "" (cs.map fun c => S [c]) = S cs := by
      have z := join_S [] (cs.map fun c => [c])
      rw [List.map_map, join1] at z
      exact z
    rw [ej]
    exact q H2 cs (g1.trans g2) W2 (by omega) hcs
theorem cal_law_words (F : Dfn K mg "_law_words" s_law_words) (B : Bt mg) (c__law_take : Cal P w K mg base 1 "_law_take" sp_law_take) (c__law_letters : Cal P w K mg base 3 "_law_letters" sp_law_letters) : Cal P w K mg base 4 "_law_words" sp_law_words := by
  refine cal_of F sc_law_words (fun _ _ _ _ _ _ us hl => match us, hl with | [_, _], _ => rfl) (fun vs H Q E h => ?_) (fun f cdv A outer s H vs Q E hr h => ?_)
  · obtain ⟨b, Sh, n, rfl, _⟩ := h
    rfl
  obtain ⟨b, Sh, n, rfl, W, hn, q⟩ := h
  refine ⟨_, (pss_cons (ps_set (i := 2) sc_law_words.nd rfl (by first | exact .inl rfl | exact .inr rfl) (pe_cc c__law_letters hr (by omega) (by rfl) (pa_cons (pv 0) (pa_cons pe_int pa_nil))))
      (pss_cons (ps_asg (pe_tup (pa_cons (pe_cc c__law_take hr (by omega) (by rfl) (pa_cons (pv 0) (pa_cons (pe_op op_add (pe_callB call_len_str (by rfl) B.len PySem.boot_len (pa_cons (pv 2) pa_nil)) pe_int) pa_nil))) (pa_cons (pe_cc c__law_take hr (by omega) (by rfl) (pa_cons (pv 0) (pa_cons pe_int pa_nil))) pa_nil))) (pg_tup rfl (pgs_cons (pg_name (i := 3) sc_law_words.nd rfl (by first | exact .inl rfl | exact .inr rfl)) (pgs_cons (pg_name (i := 4) sc_law_words.nd rfl (by first | exact .inl rfl | exact .inr rfl)) pgs_nil))))
      (pss_cons (ps_set (i := 5) sc_law_words.nd rfl (by first | exact .inl rfl | exact .inr rfl) pe_str)
      (pss_one (ps_ret (pe_lc (own := [("_law_k", 6)]) (g := gName 6) (tt := tYes) rfl sc_law_words.nd (pi_range1 (by rfl) B.range (pa_cons (pv 1) pa_nil)) (blkOk_by (own := [("_law_k", 6)]) (N := N_law_words) (sc := defScope s_law_words) (by decide +kernel)) (fun _ _ _ _ _ => (pg_name (i := 6) sc_law_words.nd rfl (by first | exact .inl rfl | exact .inr rfl))) (fun _ _ _ _ _ => pts_nil) (fun _ _ _ _ _ => (pe_op op_add_str (pe_op op_add_str (pe_slice C8.sl_txt (pv 2) po_none (po_some (pv 3))) (pe_ix ix_str (pv 5) (pe_op op_mod (pe_callTy call_int1 (by rfl) B.int (by decide +kernel) (pa_cons (pe_op op_add (pv 4) (pe_op op_mul pe_int (pv 6))) pa_nil)) pe_int) (fun _ _ => rfl))) (pe_slice C8.sl_txt (pv 2) (po_some (pv 3)) po_none))))))))), ?_⟩
  refine ⟨_, rfl, b, Sh, 5, rfl, W, by decide, fun H1 stem g1 W1 hst hsl => ?_⟩
  have hsl' := S_len stem
  refine ⟨_, rfl, _, rfl, S stem, rfl, sz _ (by omega), _, _, rfl, rfl, b, Sh, _, rfl, W1, by omega, by omega, fun H2 spot g2 W2 h2 => ?_⟩
  refine ⟨_, rfl, b, Sh, 26, rfl, W2, by decide, by decide, fun H3 first g3 W3 h3 => ?_⟩
  refine ⟨(by show 2 ≤ sizeLine; decide), fun p4 hp4 => ?_⟩
  have gp4 := same_new (o := .tup [.int (spot : Int), .int (first : Int)]) hp4
  have W4 := (boxW b).same W3 gp4
  refine ⟨p4, _, rfl, SqT.of upd_same, rfl, _, _, rfl, _, _, rfl, rfl, ?_⟩
  have G4 : Gr [b] Sh H Sh _ := ((g1.trans g2).trans g3).trans (Gr.of_same gp4)
  refine ⟨_, rfl, _, rfl, by omega, by omega, fun D hD => ?_⟩
  refine lcw (boxW b) W4 hD walk_r0 (fun i acc S' => S' = Sh ∧ acc = ((List.range n).take i).map fun k => vs_ (mkWord stem spot first 7 k)) ⟨rfl, rfl⟩ (by omega) (fun _ _ _ _ => trivial)
    (fun i x S5 H5 H5' acc hi g5 W5 s5 e5 hI hy put skip => ?_) (fun S5 H5 acc g5 W5 s5 e5 l5 hI => ?_)
  · obtain ⟨e5', rfl⟩ := hy
    subst e5'
    obtain ⟨rfl, rfl⟩ := hI
    have hin : i < n := by
      have : i < Int.toNat (n : Int) := hi
      omega
    refine ⟨rfl, ?_⟩
    refine ⟨_, rfl, _, rfl, spot, rfl, S stem, rfl, sz _ (by omega), ?_⟩
    refine ⟨_, rfl, _, rfl, _, rfl, _, _, rfl, rfl, .inl ⟨by decide, by decide⟩, _, _, rfl, rfl, .inl ⟨_, rfl, _, _, rfl, rfl, (by show (0 : Int) < 26; decide), SMALL, _, lowAt (first + 7 * i), rfl, rfl, (by decide +kernel), ?_, ?_⟩⟩
    · show atI lows (((first : Int) + 7 * (i : Int)) % 26) = _
      rw [show ((first : Int) + 7 * (i : Int)) % 26 = (((first + 7 * i) % 26 : Nat) : Int) from mod26 first 7 i]
      exact atI_nat (lowAt_get _)
    refine ⟨_, _, rfl, rfl, ?_, _, rfl, _, rfl, spot, rfl, S stem, rfl, sz _ (by omega), ?_⟩
    · rw [slice_toN, S_len]
      show _ + 1 ≤ _
      exact sz _ (by rw [List.length_take]; omega)
    rw [slice_toN, slice_fromN]
    refine ⟨_, _, rfl, rfl, ?_, ?_⟩
    · rw [show (S (stem.take spot) ++ ⟨#[lowAt (first + 7 * i)]⟩) = S (stem.take spot ++ [lowAt (first + 7 * i)]) from S_cat _ [_], S_len, S_len]
      exact sz _ (by rw [List.length_append, List.length_take, List.length_drop]; show min _ _ + 1 + _ ≤ _; omega)
    refine put (Gr.refl _ _ _) W5 ⟨rfl, ?_⟩
    rw [map_take_succ (show (List.range n)[i]? = some i by rw [List.getElem?_range hin]), show (S (stem.take spot) ++ ⟨#[lowAt (first + 7 * i)]⟩) = S (stem.take spot ++ [lowAt (first + 7 * i)]) from S_cat _ [_], S_cat]
    rfl
  · obtain ⟨rfl, rfl⟩ := hI
    have ew : ((List.range n).take (n : Int).toNat).map (fun k => vs_ (mkWord stem spot first 7 k)) = ((List.range n).map (mkWord stem spot first 7)).map vs_ := by
      rw [Int.toNat_natCast, List.take_of_length_le (by rw [List.length_range]; exact Nat.le_refl _), List.map_map]
      rfl
    rw [ew] at e5
    have hDH : H D = none := G4.back hD
    refine q _ H5 D ((List.range n).map (mkWord stem spot first 7)) ((G4.trans g5).keep hDH s5) ((boxW b).keep W5 s5 ((boxW b).fresh W hDH) e5) upd_same hDH (by rw [List.length_map, List.length_range]) (words_nodup (by omega) hn (.inr rfl)) (fun l hl => ?_)
    obtain ⟨k, _, rfl⟩ := List.mem_map.mp hl
    rw [isSign_yes (by rw [mkWord_len]; omega) (by rw [mkWord_len]; omega)]
    exact mkWord_all hsl _ _ _ _
theorem cal_law_names (F : Dfn K mg "_law_names" s_law_names) (B : Bt mg) (c__law_take : Cal P w K mg base 1 "_law_take" sp_law_take) (c__law_any : Cal P w K mg base 2 "_law_any" (sp_law_any K)) (c__law_letters : Cal P w K mg base 3 "_law_letters" sp_law_letters) : Cal P w K mg base 4 "_law_names" sp_law_names := by
  refine cal_of F sc_law_names (fun _ _ _ _ _ _ us hl => match us, hl with | [_, _], _ => rfl) (fun vs H Q E h => ?_) (fun f cdv A outer s H vs Q E hr h => ?_)
  · obtain ⟨b, Sh, n, rfl, _⟩ := h
    rfl
  obtain ⟨b, Sh, n, rfl, W, hn, q⟩ := h
  refine ⟨_, (pss_cons (ps_asg (pe_tup (pa_cons pe_str (pa_cons pe_str pa_nil))) (pg_tup rfl (pgs_cons (pg_name (i := 2) sc_law_names.nd rfl (by first | exact .inl rfl | exact .inr rfl)) (pgs_cons (pg_name (i := 3) sc_law_names.nd rfl (by first | exact .inl rfl | exact .inr rfl)) pgs_nil))))
      (pss_cons (ps_asg (pe_tup (pa_cons (pe_cc c__law_letters hr (by omega) (by rfl) (pa_cons (pv 0) (pa_cons pe_int pa_nil))) (pa_cons (pe_cc c__law_take hr (by omega) (by rfl) (pa_cons (pv 0) (pa_cons pe_int pa_nil))) pa_nil))) (pg_tup rfl (pgs_cons (pg_name (i := 4) sc_law_names.nd rfl (by first | exact .inl rfl | exact .inr rfl)) (pgs_cons (pg_name (i := 5) sc_law_names.nd rfl (by first | exact .inl rfl | exact .inr rfl)) pgs_nil))))
      (pss_cons (ps_if (pt_cmpR op_eq (pe_cc c__law_take hr (by omega) (by rfl) (pa_cons (pv 0) (pa_cons pe_int pa_nil))) pe_int (nomark _)) (pss_one (ps_ret (pe_lc (own := [("_law_k", 8)]) (g := gName 8) (tt := tYes) rfl sc_law_names.nd (pi_range1 (by rfl) B.range (pa_cons (pv 1) pa_nil)) (blkOk_by (own := [("_law_k", 8)]) (N := N_law_names) (sc := defScope s_law_names) (by decide +kernel)) (fun _ _ _ _ _ => (pg_name (i := 8) sc_law_names.nd rfl (by first | exact .inl rfl | exact .inr rfl))) (fun _ _ _ _ _ => pts_nil) (fun _ _ _ _ _ => (pe_op op_add_str (pe_ix ix_str (pv 2) (pe_op op_mod (pe_callTy call_int1 (by rfl) B.int (by decide +kernel) (pa_cons (pe_op op_add (pv 5) (pe_op op_mul pe_int (pv 8))) pa_nil)) pe_int) (fun _ _ => rfl)) (pv 4)))))) pss_nil)
      (pss_cons (ps_asg (pe_tup (pa_cons (pe_cc c__law_take hr (by omega) (by rfl) (pa_cons (pv 0) (pa_cons (pe_op op_add (pe_callB call_len_str (by rfl) B.len PySem.boot_len (pa_cons (pv 4) pa_nil)) pe_int) pa_nil))) (pa_cons (pe_cc c__law_any hr (by omega) (by rfl) (pa_cons (pv 0) (pa_cons (pv 2) pa_nil))) pa_nil))) (pg_tup rfl (pgs_cons (pg_name (i := 6) sc_law_names.nd rfl (by first | exact .inl rfl | exact .inr rfl)) (pgs_cons (pg_name (i := 7) sc_law_names.nd rfl (by first | exact .inl rfl | exact .inr rfl)) pgs_nil))))
      (pss_one (ps_ret (pe_lc (own := [("_law_k", 8)]) (g := gName 8) (tt := tYes) rfl sc_law_names.nd (pi_range1 (by rfl) B.range (pa_cons (pv 1) pa_nil)) (blkOk_by (own := [("_law_k", 8)]) (N := N_law_names) (sc := defScope s_law_names) (by decide +kernel)) (fun _ _ _ _ _ => (pg_name (i := 8) sc_law_names.nd rfl (by first | exact .inl rfl | exact .inr rfl))) (fun _ _ _ _ _ => pts_nil) (fun _ _ _ _ _ => (pe_op op_add_str (pe_op op_add_str (pe_op op_add_str (pv 7) (pe_slice C8.sl_txt (pv 4) po_none (po_some (pv 6)))) (pe_ix ix_str (pv 3) (pe_op op_mod (pe_callTy call_int1 (by rfl) B.int (by decide +kernel) (pa_cons (pe_op op_add (pv 5) (pe_op op_mul pe_int (pv 8))) pa_nil)) pe_int) (fun _ _ => rfl))) (pe_slice C8.sl_txt (pv 4) (po_some (pv 6)) po_none)))))))))), ?_⟩
  refine ⟨(by show 2 ≤ sizeLine; decide), fun p0 hp0 => ?_⟩
  have gp0 := same_new (o := .tup [.str LARGE, .str SMALL]) hp0
  have W0 := (boxW b).same W gp0
  refine ⟨p0, _, rfl, SqT.of upd_same, rfl, _, _, rfl, _, _, rfl, rfl, ?_⟩
  refine ⟨_, rfl, b, Sh, 4, rfl, W0, by decide, fun H1 stem g1 W1 hst hsl => ?_⟩
  have hsl' := S_len stem
  refine ⟨_, rfl, b, Sh, 26, rfl, W1, by decide, by decide, fun H2 first g2 W2 h2 => ?_⟩
  refine ⟨(by show 2 ≤ sizeLine; decide), fun p3 hp3 => ?_⟩
  have gp3 := same_new (o := .tup [vs_ stem, .int (first : Int)]) hp3
  have W3 := (boxW b).same W2 gp3
  refine ⟨p3, _, rfl, SqT.of upd_same, rfl, _, _, rfl, _, _, rfl, rfl, ?_⟩
  refine ⟨_, rfl, b, Sh, 2, rfl, W3, by decide, by decide, fun H4 r4 g4 W4 h4 => ?_⟩
  have G4 : Gr [b] Sh H Sh H4 := (((Gr.of_same gp0).trans g1).trans g2).trans ((Gr.of_same gp3).trans g4)
  refine ⟨rfl, _, rfl, ite2 (fun c1 => ?_) (fun c1 => ?_)⟩
  · refine ⟨_, rfl, _, rfl, by omega, by omega, fun D hD => ?_⟩
    refine lcw (boxW b) W4 hD walk_r0 (fun i acc S' => S' = Sh ∧ acc = ((List.range n).take i).map fun k => vs_ (capAt (first + 5 * k) :: stem)) ⟨rfl, rfl⟩ (by omega) (fun _ _ _ _ => trivial)
      (fun i x S5 H5 H5' acc hi g5 W5 s5 e5 hI hy put skip => ?_) (fun S5 H5 acc g5 W5 s5 e5 l5 hI => ?_)
    · obtain ⟨e5', rfl⟩ := hy
      subst e5'
      obtain ⟨rfl, rfl⟩ := hI
      have hin : i < n := by
        have : i < Int.toNat (n : Int) := hi
        omega
      refine ⟨rfl, ?_⟩
      refine ⟨_, rfl, _, rfl, _, rfl, _, _, rfl, rfl, .inl ⟨by decide, by decide⟩, _, _, rfl, rfl, .inl ⟨_, rfl, _, _, rfl, rfl, (by show (0 : Int) < 26; decide), LARGE, _, capAt (first + 5 * i), rfl, rfl, (by decide +kernel), ?_, ?_⟩⟩
      · show atI caps (((first : Int) + 5 * (i : Int)) % 26) = _
        rw [show ((first : Int) + 5 * (i : Int)) % 26 = (((first + 5 * i) % 26 : Nat) : Int) from mod26 first 5 i]
        exact atI_nat (capAt_get _)
      refine ⟨_, rfl, _, _, rfl, rfl, ?_, ?_⟩
      · rw [S_len]
        show 1 + _ ≤ _
        exact sz _ (by omega)
      refine put (Gr.refl _ _ _) W5 ⟨rfl, ?_⟩
      rw [map_take_succ (show (List.range n)[i]? = some i by rw [List.getElem?_range hin]), show (⟨#[capAt (first + 5 * i)]⟩ ++ S stem : Str) = S ([capAt (first + 5 * i)] ++ stem) from S_cat [_] _]
      rfl
    · obtain ⟨rfl, rfl⟩ := hI
      have ew : ((List.range n).take (n : Int).toNat).map (fun k => vs_ (capAt (first + 5 * k) :: stem)) = ((List.range n).map fun k => capAt (first + 5 * k) :: stem).map vs_ := by
        rw [Int.toNat_natCast, List.take_of_length_le (by rw [List.length_range]; exact Nat.le_refl _), List.map_map]
        rfl
      rw [ew] at e5
      have hDH : H D = none := G4.back hD
      refine q _ H5 D _ ((G4.trans g5).keep hDH s5) ((boxW b).keep W5 s5 ((boxW b).fresh W hDH) e5) upd_same hDH (by rw [List.length_map, List.length_range]) (nodup_map_range fun i j hi hj e => ?_) (fun l hl => ?_)
      · have := capAt_inj (List.cons.inj e).1
        omega
      · obtain ⟨k, _, rfl⟩ := List.mem_map.mp hl
        show (isCap _ && (decide (stem.length ≤ 5) && stem.all isLow)) = true
        rw [capAt_cap, decide_eq_true (show stem.length ≤ 5 by omega), hsl]
        rfl
  · refine ⟨_, rfl, _, rfl, S stem, rfl, sz _ (by omega), _, _, rfl, rfl, b, Sh, _, rfl, W4, by omega, by omega, fun H5 spot g5 W5 h5 => ?_⟩
    refine ⟨_, rfl, _, rfl, b, Sh, W5, .inr ⟨caps, congrArg (fun z => [V.ref b, V.str z]) (S_tl LARGE).symm, by decide +kernel, by decide +kernel, fun H6 front g6 W6 hfr => ?_⟩⟩
    refine ⟨(by show 2 ≤ sizeLine; decide), fun p7 hp7 => ?_⟩
    have gp7 := same_new (o := .tup [.int (spot : Int), vs_ [front]]) hp7
    have W7 := (boxW b).same W6 gp7
    refine ⟨p7, _, rfl, SqT.of upd_same, rfl, _, _, rfl, _, _, rfl, rfl, ?_⟩
    have G7 : Gr [b] Sh H Sh _ := ((G4.trans g5).trans g6).trans (Gr.of_same gp7)
    refine ⟨_, rfl, _, rfl, by omega, by omega, fun D hD => ?_⟩
    refine lcw (boxW b) W7 hD walk_r0 (fun i acc S' => S' = Sh ∧ acc = ((List.range n).take i).map fun k => vs_ (front :: mkWord stem spot first 5 k)) ⟨rfl, rfl⟩ (by omega) (fun _ _ _ _ => trivial)
      (fun i x S8 H8 H8' acc hi g8 W8 s8 e8 hI hy put skip => ?_) (fun S8 H8 acc g8 W8 s8 e8 l8 hI => ?_)
    · obtain ⟨e8', rfl⟩ := hy
      subst e8'
      obtain ⟨rfl, rfl⟩ := hI
      have hin : i < n := by
        have : i < Int.toNat (n : Int) := hi
        omega
      refine ⟨rfl, ?_⟩
      refine ⟨_, rfl, _, rfl, _, rfl, spot, rfl, S stem, rfl, sz _ (by omega), ?_⟩
      rw [slice_toN]
      refine ⟨_, _, rfl, rfl, ?_, ?_⟩
      · rw [S_len, S_len]
        exact sz _ (by rw [List.length_take]; show 1 + min _ _ ≤ _; omega)
      rw [S_cat]
      refine ⟨_, rfl, _, rfl, _, rfl, _, _, rfl, rfl, .inl ⟨by decide, by decide⟩, _, _, rfl, rfl, .inl ⟨_, rfl, _, _, rfl, rfl, (by show (0 : Int) < 26; decide), SMALL, _, lowAt (first + 5 * i), rfl, rfl, (by decide +kernel), ?_, ?_⟩⟩
      · show atI lows (((first : Int) + 5 * (i : Int)) % 26) = _
        rw [show ((first : Int) + 5 * (i : Int)) % 26 = (((first + 5 * i) % 26 : Nat) : Int) from mod26 first 5 i]
        exact atI_nat (lowAt_get _)
      refine ⟨_, _, rfl, rfl, ?_, _, rfl, _, rfl, spot, rfl, S stem, rfl, sz _ (by omega), ?_⟩
      · rw [S_len]
        show _ + 1 ≤ _
        exact sz _ (by rw [List.length_append, List.length_take]; show 1 + min _ _ + 1 ≤ _; omega)
      rw [slice_fromN]
      refine ⟨_, _, rfl, rfl, ?_, ?_⟩
      · rw [show (S ([front] ++ stem.take spot) ++ ⟨#[lowAt (first + 5 * i)]⟩) = S ([front] ++ stem.take spot ++ [lowAt (first + 5 * i)]) from S_cat _ [_], S_len, S_len]
        exact sz _ (by rw [List.length_append, List.length_append, List.length_take, List.length_drop]; show 1 + min _ _ + 1 + _ ≤ _; omega)
      refine put (Gr.refl _ _ _) W8 ⟨rfl, ?_⟩
      rw [map_take_succ (show (List.range n)[i]? = some i by rw [List.getElem?_range hin]), show (S ([front] ++ stem.take spot) ++ ⟨#[lowAt (first + 5 * i)]⟩) = S ([front] ++ stem.take spot ++ [lowAt (first + 5 * i)]) from S_cat _ [_], S_cat]
      rfl
    · obtain ⟨rfl, rfl⟩ := hI
      have ew : ((List.range n).take (n : Int).toNat).map (fun k => vs_ (front :: mkWord stem spot first 5 k)) = ((List.range n).map fun k => front :: mkWord stem spot first 5 k).map vs_ := by
        rw [Int.toNat_natCast, List.take_of_length_le (by rw [List.length_range]; exact Nat.le_refl _), List.map_map]
        rfl
      rw [ew] at e8
      have hDH : H D = none := G7.back hD
      refine q _ H8 D _ ((G7.trans g8).keep hDH s8) ((boxW b).keep W8 s8 ((boxW b).fresh W hDH) e8) upd_same hDH (by rw [List.length_map, List.length_range]) (nodup_map_range fun i j hi hj e => ?_) (fun l hl => ?_)
      · have h1 := mkWord_at (stem := stem) (spot := spot) (by omega) first 5 i
        rw [(List.cons.inj e).2, mkWord_at (by omega) first 5 j] at h1
        have := lowAt_inj (Option.some.inj h1)
        omega
      · obtain ⟨k, _, rfl⟩ := List.mem_map.mp hl
        show (isCap _ && (decide ((mkWord stem spot first 5 k).length ≤ 5) && (mkWord stem spot first 5 k).all isLow)) = true
        rw [isCap_mem hfr, mkWord_all hsl, decide_eq_true (show (mkWord stem spot first 5 k).length ≤ 5 by rw [mkWord_len]; omega)]
        rfl
end

--USES gen1
abbrev s_law_signature : Stmt := topS 12
abbrev N_law_signature : List Str := ["_law_box_here", "_law_words_here", "_law_rows", "_law_found", "_law_k"]
theorem sc_law_signature : FnScope N_law_signature ["_law_box_here", "_law_words_here"] (defScope s_law_signature) := ⟨rfl, rfl, rfl, by decide +kernel, rfl, by decide +kernel, by decide +kernel⟩

abbrev s_law_plan : Stmt := topS 13
abbrev N_law_plan : List Str := ["_law_box_here", "_law_many", "_law_wide", "_law_found", "_law_k", "_law_j"]
theorem sc_law_plan : FnScope N_law_plan ["_law_box_here", "_law_many", "_law_wide"] (defScope s_law_plan) := ⟨rfl, rfl, rfl, by decide +kernel, rfl, by decide +kernel, by decide +kernel⟩

abbrev vn (n : Nat) : V := V.int ((n : Nat) : Int)
theorem getm {α β : Type} {f : α → β} {l : List α} {i : Nat} {y : β} (h : (l.map f)[i]? = some y) : ∃ x, l[i]? = some x ∧ f x = y := by
  rw [List.getElem?_map] at h
  cases e : l[i]? with
  | none => rw [e] at h; cases h
  | some x => rw [e] at h; exact ⟨x, rfl, Option.some.inj h⟩
abbrev dS (l : List Nat) : PyData := .str (S l)
abbrev dN (n : Nat) : PyData := .int ((n : Nat) : Int)
/-- a pair of a word and a number -/
abbrev dPair (p : List Nat × Nat) : PyData := .tuple [dS p.1, dN p.2]
abbrev dPairs (ps : List (List Nat × Nat)) : PyData := .list (ps.map dPair)
abbrev dKinds (ks : List Nat) : PyData := .list (ks.map dN)
theorem Rp.pair {Sh : Hp} {v : V} {p : List Nat × Nat} (h : Rp Sh v (dPair p)) : ∃ a, v = .ref a ∧ Sh a = some (.tup [vs_ p.1, vn p.2]) := by
  cases h with
  | tup ha r =>
    cases r with
    | cons r1 r2 =>
      cases r2 with
      | cons r3 r4 =>
        cases r1
        cases r3
        cases r4
        exact ⟨_, rfl, ha⟩
theorem pair_rp {Sh : Hp} {a : Addr} {p : List Nat × Nat} (h : Sh a = some (.tup [vs_ p.1, vn p.2])) : Rp Sh (.ref a) (dPair p) := .tup h (.cons (.str _) (.cons (.int _) .nil))
theorem RpL.getm {α : Type} {f : α → PyData} {Sh : Hp} {xs : List V} {ps : List α} {i : Nat} {x : V} (h : RpL Sh xs (ps.map f)) (e : xs[i]? = some x) : ∃ p, ps[i]? = some p ∧ Rp Sh x (f p) := by
  obtain ⟨d, hd, r⟩ := h.get e
  obtain ⟨p, hp, rfl⟩ := G48.getm hd
  exact ⟨p, hp, r⟩
theorem RpL.ints {Sh : Hp} : ∀ (l : List Nat), RpL Sh (l.map vn) (l.map dN)
  | [] => .nil
  | n :: l => .cons (.int _) (RpL.ints l)
theorem RpL.strs {Sh : Hp} : ∀ (l : List (List Nat)), RpL Sh (l.map vs_) (l.map dS)
  | [] => .nil
  | n :: l => .cons (.str _) (RpL.strs l)
theorem RpL.of_ints {Sh : Hp} : ∀ {l : List Nat} {xs : List V}, RpL Sh xs (l.map dN) → xs = l.map vn
  | [], _, h => by cases h; rfl
  | n :: l, _, h => by
    cases h with
    | cons h1 h2 =>
      cases h1
      rw [RpL.of_ints h2]
      rfl
theorem RpL.of_strs {Sh : Hp} : ∀ {l : List (List Nat)} {xs : List V}, RpL Sh xs (l.map dS) → xs = l.map vs_
  | [], _, h => by cases h; rfl
  | n :: l, _, h => by
    cases h with
    | cons h1 h2 =>
      cases h1
      rw [RpL.of_strs h2]
      rfl
/-- a drawn signature of these words -/
structure SigOk (ws : List (List Nat)) (ps : List (List Nat × Nat)) : Prop where
  wds : ps.map (·.1) = ws
  ar : ∀ p ∈ ps, p.2 ≤ 3
  has : ∀ k, k ≤ 2 → ∃ p ∈ ps, p.2 = k
def sp_law_signature : Sp := fun vs H Q _ => ∃ (b : Addr) (Sh : Hp) (a : Addr) (ws : List (List Nat)), vs = [.ref b, .ref a] ∧ Wd b Sh H ∧ Sh a = some (.lst (ws.map vs_)) ∧ 3 ≤ ws.length ∧ ws.length ≤ 50 ∧
  ∀ (S' H' : Hp) (p : Addr) (ps : List (List Nat × Nat)), Gr [b] Sh H S' H' → Wd b S' H' → Rp S' (.ref p) (dPairs ps) → SigOk ws ps → Q (.ref p) H'
/-- drawn kinds: none for the first one -/
structure PlanOk (n wide : Nat) (pl : List (List Nat)) : Prop where
  len : pl.length = n
  first : pl[0]? = some []
  kd : ∀ ks ∈ pl, ks.length ≤ wide ∧ ∀ k ∈ ks, k ≤ 2
def sp_law_plan : Sp := fun vs H Q _ => ∃ (b : Addr) (Sh : Hp) (n wide : Nat), vs = [.ref b, vn n, vn wide] ∧ Wd b Sh H ∧ 1 ≤ n ∧ n ≤ 100 ∧ wide ≤ 20 ∧
  ∀ (S' H' : Hp) (p : Addr) (pl : List (List Nat)), Gr [b] Sh H S' H' → Wd b S' H' → Rp S' (.ref p) (.list (pl.map dKinds)) → PlanOk n wide pl → Q (.ref p) H'
theorem ixN_nat {n i : Nat} (h : i < n) : ixN n (i : Int) = some i := by
  unfold ixN
  rw [if_pos (by omega), if_pos (by omega), Int.toNat_natCast]
theorem seqIx_nat {n i : Nat} (h : i < n) : seqIndex? (i : Int) n = some i := (ixN_seq (ixN_nat h)).1
theorem map_eraseIdx {α β : Type} (f : α → β) : ∀ (l : List α) (i : Nat), (l.map f).eraseIdx i = (l.eraseIdx i).map f
  | [], _ => rfl
  | _ :: _, 0 => rfl
  | a :: l, i + 1 => by
    show f a :: (l.map f).eraseIdx i = f a :: (l.eraseIdx i).map f
    rw [map_eraseIdx f l i]
theorem cons_erase_perm : ∀ {l : List Nat} {i : Nat} (h : i < l.length), ([l[i]] ++ l.eraseIdx i).Perm l
  | a :: l, 0, _ => .refl _
  | a :: l, i + 1, h => by
    have h' : i < l.length := by
      rw [List.length_cons] at h
      omega
    show (l[i] :: a :: l.eraseIdx i).Perm (a :: l)
    exact (List.Perm.swap _ _ _).trans (.cons _ (cons_erase_perm h'))
section
variable {P : Program} {w : World} {K : PySem.W.Frag} {mg : Str → Option Value} {base : Heap}
theorem cal_law_signature (F : Dfn K mg "_law_signature" s_law_signature) (B : Bt mg) (c__law_take : Cal P w K mg base 1 "_law_take" sp_law_take) : Cal P w K mg base 2 "_law_signature" sp_law_signature := by
  refine cal_of F sc_law_signature (fun _ _ _ _ _ _ us hl => match us, hl with | [_, _], _ => rfl) (fun vs H Q E h => ?_) (fun f cdv A outer s H vs Q E hr h => ?_)
  · obtain ⟨b, Sh, a, ws, rfl, _⟩ := h
    rfl
  obtain ⟨b, Sh, a, ws, rfl, W, ha, hw3, hw50, q⟩ := h
  refine ⟨_, (pss_cons (ps_set (i := 2) sc_law_signature.nd rfl (by first | exact .inl rfl | exact .inr rfl) (pe_op op_cat (pe_lst (pa_cons pe_int (pa_cons pe_int (pa_cons pe_int pa_nil)))) (pe_lc (own := [("_law_k", 4)]) (g := gName 4) (tt := tYes) rfl sc_law_signature.nd (pi_range1 (by rfl) B.range (pa_cons (pe_op op_sub (pe_callB (k_len_seq K rfl) (by rfl) B.len PySem.boot_len (pa_cons (pv 1) pa_nil)) pe_int) pa_nil)) (blkOk_by (own := [("_law_k", 4)]) (N := N_law_signature) (sc := defScope s_law_signature) (by decide +kernel)) (fun _ _ _ _ _ => (pg_name (i := 4) sc_law_signature.nd rfl (by first | exact .inl rfl | exact .inr rfl))) (fun _ _ _ _ _ => pts_nil) (fun _ _ _ _ _ => (pe_cc c__law_take hr (by omega) (by rfl) (pa_cons (pv 0) (pa_cons pe_int pa_nil)))))))
      (pss_cons (ps_set (i := 3) sc_law_signature.nd rfl (by first | exact .inl rfl | exact .inr rfl) (pe_lst pa_nil))
      (pss_cons (ps_for PassesOwn.never rfl (pi_range1 (by rfl) B.range (pa_cons (pe_callB (k_len_seq K rfl) (by rfl) B.len PySem.boot_len (pa_cons (pv 1) pa_nil)) pa_nil)) (pg_name (i := 4) sc_law_signature.nd rfl (by first | exact .inl rfl | exact .inr rfl)) (pss_one (ps_expr (pe_bm PySem.F.plainAttrs_list PySem.F.slot_list_append PySem.F.type_list_append mt_append (pv 3) (pa_cons (pe_tup (pa_cons (pe_ix (k_ix_list K rfl) (pv 1) (pv 4) (fun _ _ => rfl)) (pa_cons (pe_bm PySem.F.plainAttrs_list PySem.F.slot_list_pop PySem.F.type_list_pop mt_popAt (pv 2) (pa_cons (pe_cc c__law_take hr (by omega) (by rfl) (pa_cons (pv 0) (pa_cons (pe_callB (k_len_seq K rfl) (by rfl) B.len PySem.boot_len (pa_cons (pv 2) pa_nil)) pa_nil))) pa_nil)) pa_nil))) pa_nil)))))
      (pss_one (ps_ret (pv 3)))))), ?_⟩
  have hA : H a = some (.lst (ws.map vs_)) := W.sh _ _ ha
  refine ⟨(by show 3 ≤ sizeLine; decide), fun p1 hp1 => ?_⟩
  have g1 := same_new (o := .lst [vn 0, vn 1, vn 2]) hp1
  have W1 := (boxW b).same W g1
  refine ⟨_, rfl, a, _, rfl, .inl (SqL.of (g1 _ _ hA)), _, _, rfl, rfl, _, rfl, by rw [List.length_map]; omega, by rw [List.length_map]; omega, fun D hD => ?_⟩
  refine lcw (boxW b) W1 hD walk_r0 (fun i acc S' => S' = Sh ∧ ∃ ks : List Nat, acc = ks.map vn ∧ ks.length = i ∧ ∀ k ∈ ks, k ≤ 3) ⟨rfl, [], rfl, rfl, fun _ h => nomatch h⟩ (by rw [List.length_map]; omega) (fun _ _ _ _ => trivial)
    (fun i x S2 H2 H2' acc hi g2 W2 s2 e2 hI hy put skip => ?_) (fun S2 H2 acc g2 W2 s2 e2 l2 hI => ?_)
  · obtain ⟨e2', rfl⟩ := hy
    subst e2'
    obtain ⟨rfl, ks, rfl, hkl, hk3⟩ := hI
    refine ⟨rfl, _, rfl, b, S2, 4, rfl, W2, by decide, by decide, fun H3 r3 g3 W3 h3 => ?_⟩
    refine put g3 W3 ⟨rfl, ks ++ [r3], by rw [List.map_append]; rfl, by rw [List.length_append]; show _ + 1 = _; omega, fun k hk => ?_⟩
    rcases List.mem_append.mp hk with h | h
    · exact hk3 k h
    · rw [List.mem_singleton.mp h]
      omega
  obtain ⟨rfl, ks, rfl, hkl, hk3⟩ := hI
  rw [List.length_map] at hkl
  have hkl' : ks.length + 3 = ws.length := by omega
  have n1 : p1 ∉ [b] := (boxW b).fresh W hp1
  refine ⟨p1, D, _, _, rfl, rfl, g2.kp _ _ n1 upd_same, e2, sz _ (by rw [List.length_map]; show 3 + _ ≤ _; omega), fun R hR => ?_⟩
  have gR := same_new (o := .lst ([vn 0, vn 1, vn 2] ++ ks.map vn)) hR
  have W3 := (boxW b).same W2 gR
  have G3 : Gr [b] S2 H S2 _ := ((Gr.of_same g1).trans g2).trans (Gr.of_same gR)
  -- found = []
  refine ⟨Nat.zero_le _, fun Fo hFo => ?_⟩
  have hFH : H Fo = none := G3.back hFo
  have hRH : H R = none := ((Gr.of_same g1).trans g2).back hR
  have nFR : R ≠ Fo := ne_of_none upd_same hFo
  have nFb : Fo ∉ [b] := (boxW b).fresh W hFH
  have nRb : R ∉ [b] := (boxW b).fresh W hRH
  have sF : S2 Fo = none := W.sh.free hFH
  have sR : S2 R = none := W.sh.free hRH
  have W4 : Wd b S2 (upd _ Fo (.lst [])) := (boxW b).chg W3 sF nFb
  have G4 : Gr [b] S2 H S2 (upd _ Fo (.lst [])) := G3.chg hFH
  have hrows : ([vn 0, vn 1, vn 2] ++ ks.map vn) = (([0, 1, 2] ++ ks : List Nat)).map vn := by rw [List.map_append]; rfl
  refine ⟨_, rfl, a, _, rfl, .inl (SqL.of (W4.sh _ _ ha)), _, rfl, by rw [List.length_map]; omega, by rw [List.length_map]; omega, ?_⟩
  refine fori (S := S2) walk_r0 (fun i σ' S' H' => Wd b S' H' ∧ ∃ (rs : List Nat) (fs : List V) (ps : List (List Nat × Nat)) (y4 : Option V), σ' = [some (.ref b), some (.ref a), some (.ref R), some (.ref Fo), y4] ∧ H' R = some (.lst (rs.map vn)) ∧ S' R = none ∧ H' Fo = some (.lst fs) ∧ S' Fo = none ∧
      Gr [b] S2 H S' H' ∧ RpL S' fs (ps.map dPair) ∧ ps.map (·.1) = ws.take i ∧ (ps.map (·.2) ++ rs).Perm ([0, 1, 2] ++ ks) ∧ ps.length = i) ?_ (fun _ _ _ _ _ => trivial)
    (fun i x σ' S5 H5 H5' hi hI hy => ?_) (fun σ' S5 H5 hI => ?_)
  · refine ⟨W4, [0, 1, 2] ++ ks, [], [], _, rfl, ?_, sR, upd_same, sF, G4, .nil, rfl, .refl _, rfl⟩
    rw [upd_ne nFR, upd_same]
    exact congrArg (fun z => some (HO.lst z)) hrows
  · obtain ⟨e5', rfl⟩ := hy
    subst e5'
    obtain ⟨W5, rs, fs, ps, y4, rfl, hR5, sR5, hF5, sF5, G5, rp5, hwd, hperm, hpl⟩ := hI
    rw [List.length_map] at hi
    have hi' : i < ws.length := by omega
    have hlen := hperm.length_eq
    rw [List.length_append, List.length_map, List.length_append] at hlen
    have hrs : 1 ≤ rs.length := by
      have : ([0, 1, 2] : List Nat).length = 3 := rfl
      omega
    have hrs2 : rs.length ≤ 60 := by
      have : ([0, 1, 2] : List Nat).length = 3 := rfl
      omega
    have hwi : ws[i]? = some ws[i] := List.getElem?_eq_getElem hi'
    refine ⟨_, rfl, .inl ⟨rfl, _, SqL.of hF5⟩, ?_⟩
    refine ⟨_, rfl, _, rfl, a, _, i, vs_ ws[i], rfl, rfl, SqL.of (W5.sh _ _ (G5.ss _ _ ha)), atI_nat (by rw [List.getElem?_map, hwi]; rfl), ?_⟩
    refine ⟨_, rfl, .inl ⟨rfl, _, SqL.of hR5⟩, ?_⟩
    refine ⟨_, rfl, _, rfl, R, _, rfl, .inl (SqL.of hR5), b, S5, _, rfl, W5, by rw [List.length_map]; omega, by rw [List.length_map]; omega, fun H6 r6 g6 W6 h6 => ?_⟩
    rw [List.length_map] at h6
    have hr6 : r6 < rs.length := by omega
    have hR6 : H6 R = some (.lst (rs.map vn)) := g6.kp _ _ nRb hR5
    have hF6 : H6 Fo = some (.lst fs) := g6.kp _ _ nFb hF5
    refine ⟨R, _, (r6 : Int), r6, vn rs[r6], rfl, rfl, hR6, by omega, by omega, by rw [List.length_map]; exact seqIx_nat hr6, by rw [List.getElem?_map, List.getElem?_eq_getElem hr6]; rfl, ?_⟩
    have W7 : Wd b S5 (upd H6 R (.lst ((rs.map vn).eraseIdx r6))) := (boxW b).chg W6 sR5 nRb
    refine ⟨(by show 2 ≤ sizeLine; decide), fun T hT => ?_⟩
    have sT : S5 T = none := W7.sh.free hT
    have W8 : Wd b (upd S5 T (.tup [vs_ ws[i], vn rs[r6]])) (upd _ T (.tup [vs_ ws[i], vn rs[r6]])) := (boxW b).new W7 hT
    have nTF : Fo ≠ T := by
      refine ne_of_none (o := .lst fs) ?_ hT
      rw [upd_ne (Ne.symm nFR)]
      exact hF6
    have nTR : R ≠ T := ne_of_none upd_same hT
    have G6 : Gr [b] S2 H S5 H6 := G5.trans g6
    have G7 : Gr [b] S2 H S5 (upd H6 R (.lst ((rs.map vn).eraseIdx r6))) := G6.chg hRH
    have G8 : Gr [b] S2 H (upd S5 T (.tup [vs_ ws[i], vn rs[r6]])) (upd _ T (.tup [vs_ ws[i], vn rs[r6]])) := G7.new W7.sh hT
    have hfl : fs.length = i := by
      have z := rp5.len
      rw [List.length_map] at z
      omega
    refine ⟨Fo, fs, _, rfl, rfl, ?_, szl _ (by omega), ?_⟩
    · rw [upd_ne nTF, upd_ne (Ne.symm nFR)]
      exact hF6
    have s8F : (upd S5 T (.tup [vs_ ws[i], vn rs[r6]])) Fo = none := by
      rw [upd_ne nTF]
      exact sF5
    have s8R : (upd S5 T (.tup [vs_ ws[i], vn rs[r6]])) R = none := by
      rw [upd_ne nTR]
      exact sR5
    refine ⟨_, (boxW b).chg W8 s8F nFb, rs.eraseIdx r6, fs ++ [.ref T], ps ++ [(ws[i], rs[r6])], _, rfl, ?_, s8R, upd_same, s8F, G8.chg hFH, ?_, ?_, ?_, ?_⟩
    · rw [upd_ne nFR, upd_ne nTR, upd_same, map_eraseIdx]
    · rw [List.map_append]
      exact (RpL.mono (same_new sT) _ _ rp5).snoc (pair_rp (p := (ws[i], rs[r6])) upd_same)
    · rw [List.map_append, hwd, List.take_add_one, hwi]
      rfl
    · rw [List.map_append]
      refine List.Perm.trans ?_ hperm
      rw [List.append_assoc]
      exact List.Perm.append_left _ (cons_erase_perm hr6)
    · rw [List.length_append]
      show _ + 1 = _
      omega
  · obtain ⟨W5, rs, fs, ps, y4, rfl, hR5, sR5, hF5, sF5, G5, rp5, hwd, hperm, hpl⟩ := hI
    rw [List.length_map, Int.toNat_natCast] at hwd hpl
    refine ⟨_, rfl, ?_⟩
    have sall : ps.map (·.1) = ws := by rw [hwd]; exact List.take_of_length_le (Nat.le_refl _)
    have hlen := hperm.length_eq
    rw [List.length_append, List.length_map, List.length_append] at hlen
    have ers : rs = [] := List.length_eq_zero_iff.mp (by
      have : ([0, 1, 2] : List Nat).length = 3 := rfl
      omega)
    subst ers
    rw [List.append_nil] at hperm
    refine q _ H5 Fo ps (G5.keep hFH sF5) ((boxW b).keep W5 sF5 nFb hF5) (.lst upd_same (RpL.mono (same_new sF5) _ _ rp5)) ⟨sall, fun p hp => ?_, fun k hk => ?_⟩
    · have h1 : p.2 ∈ [0, 1, 2] ++ ks := hperm.mem_iff.mp (List.mem_map_of_mem hp)
      rcases List.mem_append.mp h1 with h | h
      · simp only [List.mem_cons, List.not_mem_nil, or_false] at h
        omega
      · exact hk3 _ h
    · have h1 : k ∈ ps.map (·.2) := hperm.mem_iff.mpr (List.mem_append_left _ (by
        obtain rfl | rfl | rfl : k = 0 ∨ k = 1 ∨ k = 2 := by omega
        · simp
        · simp
        · simp))
      obtain ⟨p, hp, e⟩ := List.mem_map.mp h1
      exact ⟨p, hp, e⟩
theorem cal_law_plan (F : Dfn K mg "_law_plan" s_law_plan) (B : Bt mg) (c__law_take : Cal P w K mg base 1 "_law_take" sp_law_take) : Cal P w K mg base 2 "_law_plan" sp_law_plan := by
  refine cal_of F sc_law_plan (fun _ _ _ _ _ _ us hl => match us, hl with | [_, _, _], _ => rfl) (fun vs H Q E h => ?_) (fun f cdv A outer s H vs Q E hr h => ?_)
  · obtain ⟨b, Sh, n, wide, rfl, _⟩ := h
    rfl
  obtain ⟨b, Sh, n, wide, rfl, W, n1, n2, hwide, q⟩ := h
  refine ⟨_, (pss_cons (ps_set (i := 3) sc_law_plan.nd rfl (by first | exact .inl rfl | exact .inr rfl) (pe_lst (pa_cons (pe_lst pa_nil) pa_nil)))
      (pss_cons (ps_for PassesOwn.never rfl (pi_range1 (by rfl) B.range (pa_cons (pe_op op_sub (pv 1) pe_int) pa_nil)) (pg_name (i := 4) sc_law_plan.nd rfl (by first | exact .inl rfl | exact .inr rfl)) (pss_one (ps_expr (pe_bm PySem.F.plainAttrs_list PySem.F.slot_list_append PySem.F.type_list_append mt_append (pv 3) (pa_cons (pe_lc (own := [("_law_j", 5)]) (g := gName 5) (tt := tYes) rfl sc_law_plan.nd (pi_range1 (by rfl) B.range (pa_cons (pe_cc c__law_take hr (by omega) (by rfl) (pa_cons (pv 0) (pa_cons (pe_op op_add (pv 2) pe_int) pa_nil))) pa_nil)) (blkOk_by (own := [("_law_j", 5)]) (N := N_law_plan) (sc := defScope s_law_plan) (by decide +kernel)) (fun _ _ _ _ _ => (pg_name (i := 5) sc_law_plan.nd rfl (by first | exact .inl rfl | exact .inr rfl))) (fun _ _ _ _ _ => pts_nil) (fun _ _ _ _ _ => (pe_ix (k_ix_list K rfl) (pe_lst (pa_cons pe_int (pa_cons pe_int (pa_cons pe_int (pa_cons pe_int (pa_cons pe_int (pa_cons pe_int pa_nil))))))) (pe_cc c__law_take hr (by omega) (by rfl) (pa_cons (pv 0) (pa_cons pe_int pa_nil))) (fun _ _ => rfl)))) pa_nil)))))
      (pss_one (ps_ret (pv 3))))), ?_⟩
  -- found = [[]]
  refine ⟨Nat.zero_le _, fun p0 hp0 => ?_⟩
  have W0 : Wd b (upd Sh p0 (.lst [])) (upd H p0 (.lst [])) := (boxW b).new W hp0
  have G0 : Gr [b] Sh H (upd Sh p0 (.lst [])) (upd H p0 (.lst [])) := (Gr.refl [b] Sh H).new W.sh hp0
  refine ⟨(by show 1 ≤ sizeLine; decide), fun Fo hFo => ?_⟩
  have hFH : H Fo = none := G0.back hFo
  have nFb : Fo ∉ [b] := (boxW b).fresh W hFH
  have sF : (upd Sh p0 (.lst [])) Fo = none := W0.sh.free hFo
  have W1 : Wd b (upd Sh p0 (.lst [])) (upd _ Fo (.lst [.ref p0])) := (boxW b).chg W0 sF nFb
  have G1 : Gr [b] Sh H (upd Sh p0 (.lst [])) (upd _ Fo (.lst [.ref p0])) := G0.chg hFH
  refine ⟨_, rfl, _, _, rfl, rfl, _, rfl, by omega, by omega, ?_⟩
  refine fori (S := upd Sh p0 (.lst [])) walk_r0 (fun i σ' S' H' => Wd b S' H' ∧ Gr [b] Sh H S' H' ∧ ∃ (fs : List V) (pl : List (List Nat)) (y4 y5 : Option V), σ' = [some (.ref b), some (vn n), some (vn wide), some (.ref Fo), y4, y5] ∧ H' Fo = some (.lst fs) ∧ S' Fo = none ∧
      RpL S' fs (pl.map dKinds) ∧ PlanOk (i + 1) wide pl) ?_ (fun _ _ _ _ _ => trivial)
    (fun i x σ' S5 H5 H5' hi hI hy => ?_) (fun σ' S5 H5 hI => ?_)
  · refine ⟨W1, G1, [.ref p0], [[]], _, _, rfl, upd_same, sF, .cons (.lst upd_same .nil) .nil, rfl, rfl, fun ks hks => ?_⟩
    rw [List.mem_singleton.mp hks]
    exact ⟨Nat.zero_le _, fun k hk => nomatch hk⟩
  · obtain ⟨e5', rfl⟩ := hy
    subst e5'
    obtain ⟨W5, G5, fs, pl, y4, y5, rfl, hF5, sF5, rp5, hp5⟩ := hI
    have hin : i < n := by
      have : i < Int.toNat ((n : Int) - 1) := hi
      omega
    refine ⟨_, rfl, .inl ⟨rfl, _, SqL.of hF5⟩, ?_⟩
    refine ⟨_, rfl, _, rfl, _, _, rfl, rfl, b, S5, _, rfl, W5, by omega, by omega, fun H6 r6 g6 W6 h6 => ?_⟩
    have hF6 : H6 Fo = some (.lst fs) := g6.kp _ _ nFb hF5
    refine ⟨_, rfl, by omega, by omega, fun D hD => ?_⟩
    refine lcw (boxW b) W6 hD walk_r0 (fun i acc S' => S' = S5 ∧ ∃ ks : List Nat, acc = ks.map vn ∧ ∀ k ∈ ks, k ≤ 2) ⟨rfl, [], rfl, fun _ h => nomatch h⟩ (by omega) (fun _ _ _ _ => trivial)
      (fun j x S7 H7 H7' acc hj g7 W7 s7 e7 hI hy put skip => ?_) (fun S7 H7 acc g7 W7 s7 e7 l7 hI => ?_)
    · obtain ⟨e7', rfl⟩ := hy
      subst e7'
      obtain ⟨rfl, ks, rfl, hk2⟩ := hI
      refine ⟨rfl, ?_⟩
      refine ⟨(by show 6 ≤ sizeLine; decide), fun p8 hp8 => ?_⟩
      have W8 := (boxW b).same W7 (same_new (o := .lst [vn 0, vn 0, vn 1, vn 2, vn 0, vn 1]) hp8)
      refine ⟨_, rfl, b, S7, 6, rfl, W8, by decide, by decide, fun H9 r9 g9 W9 h9 => ?_⟩
      obtain ⟨kk, ek, hk⟩ : ∃ kk : Nat, ([vn 0, vn 0, vn 1, vn 2, vn 0, vn 1] : List V)[r9]? = some (vn kk) ∧ kk ≤ 2 := by
        have h9' : r9 < 6 := by omega
        match r9, h9' with
        | 0, _ => exact ⟨0, rfl, by decide⟩
        | 1, _ => exact ⟨0, rfl, by decide⟩
        | 2, _ => exact ⟨1, rfl, by decide⟩
        | 3, _ => exact ⟨2, rfl, by decide⟩
        | 4, _ => exact ⟨0, rfl, by decide⟩
        | 5, _ => exact ⟨1, rfl, by decide⟩
      have n8 : p8 ∉ [b] := (boxW b).fresh W7 hp8
      refine ⟨p8, _, (r9 : Int), vn kk, rfl, rfl, SqL.of (g9.kp _ _ n8 upd_same), atI_nat ek, ?_⟩
      refine put (Gr.fromNew hp8 g9) W9 ⟨rfl, ks ++ [kk], by rw [List.map_append]; rfl, fun k hk' => ?_⟩
      rcases List.mem_append.mp hk' with h | h
      · exact hk2 k h
      · rw [List.mem_singleton.mp h]
        exact hk
    obtain ⟨rfl, ks, rfl, hk2⟩ := hI
    rw [List.length_map] at l7
    have hF7 : H7 Fo = some (.lst fs) := g7.kp _ _ nFb hF6
    have nDF : Fo ≠ D := ne_of_none hF6 hD
    have hDH : H D = none := G5.back (g6.back hD)
    have nDb : D ∉ [b] := (boxW b).fresh W hDH
    have hfl : fs.length = pl.length := by
      have z := rp5.len
      rw [List.length_map] at z
      exact z
    have hpl := hp5.len
    refine ⟨Fo, fs, _, rfl, rfl, hF7, szl _ (by omega), ?_⟩
    have W9 := (boxW b).keep W7 s7 nDb e7
    have s9F : (upd S7 D (.lst (ks.map vn))) Fo = none := by
      rw [upd_ne nDF]
      exact sF5
    have G9 : Gr [b] Sh H (upd S7 D (.lst (ks.map vn))) H7 := ((G5.trans g6).trans g7).keep hDH s7
    refine ⟨_, (boxW b).chg W9 s9F nFb, G9.chg hFH, fs ++ [.ref D], pl ++ [ks], _, _, rfl, upd_same, s9F, ?_, ?_, ?_, ?_⟩
    · rw [List.map_append]
      exact (RpL.mono (same_new s7) _ _ rp5).snoc (.lst upd_same (RpL.ints ks))
    · rw [List.length_append, hpl]
      rfl
    · rw [List.getElem?_append_left (by omega)]
      exact hp5.first
    · intro ks' hks
      rcases List.mem_append.mp hks with h | h
      · exact hp5.kd ks' h
      · rw [List.mem_singleton.mp h]
        exact ⟨by omega, hk2⟩
  · obtain ⟨W5, G5, fs, pl, y4, y5, rfl, hF5, sF5, rp5, hp5⟩ := hI
    refine ⟨_, rfl, ?_⟩
    refine q _ H5 Fo pl (G5.keep hFH sF5) ((boxW b).keep W5 sF5 nFb hF5) (.lst upd_same (RpL.mono (same_new sF5) _ _ rp5)) ?_
    have e : ((n : Int) - 1).toNat + 1 = n := by omega
    rw [e] at hp5
    exact hp5
end

--USES gen2
inductive Tm where
  | mk (h : List Nat) (as : List Tm)
mutual
def tmD : Tm → PyData
  | .mk h as => .tuple (dS h :: tmsD as)
def tmsD : List Tm → List PyData
  | [] => []
  | t :: ts => tmD t :: tmsD ts
end
mutual
def dpt : Tm → Nat
  | .mk _ as => dptL as + 1
def dptL : List Tm → Nat
  | [] => 0
  | t :: ts => max (dpt t) (dptL ts)
end
mutual
def szT : Tm → Nat
  | .mk _ as => szL as + 1
def szL : List Tm → Nat
  | [] => 0
  | t :: ts => szT t + szL ts
end
structure Fr where
  signs : List (List Nat × Nat)
  names : List (List Nat)
  plan : List (List Nat)
  own : List (List Nat × Nat)
def dFrame (f : Fr) : PyData := .tuple [dPairs f.signs, .list (f.names.map dS), .list (f.plan.map dKinds), dPairs f.own]
structure FrOk (m : Nat) (f : Fr) : Prop where
  has : ∀ k, k ≤ 2 → ∃ p ∈ f.signs, p.2 = k
  ar : ∀ p ∈ f.signs, p.2 ≤ 3
  ow : ∀ p ∈ f.own, p.2 ≤ 2
  pl : ∀ ks ∈ f.plan, ks.length ≤ m ∧ ∀ k ∈ ks, k ≤ 2
  len : f.names.length = f.plan.length
  nd : f.names.Nodup
  sg : ∀ p ∈ f.signs, isSign p.1 = true
  og : ∀ p ∈ f.own, isSign p.1 = true
  nm : ∀ n ∈ f.names, isName n = true
  m3 : 3 ≤ m ∧ m ≤ 20
  ls : f.signs.length ≤ 50
  ln : f.names.length ≤ 100
  lo : f.own.length ≤ 50
def Takes (f : Fr) (h : List Nat) (ks : List Nat) : Prop :=
  (∃ p ∈ f.signs, p.1 = h ∧ ks = List.replicate p.2 0) ∨ (∃ p ∈ f.own, p.1 = h ∧ ks = List.replicate p.2 0) ∨ ∃ i : Nat, f.names[i]? = some h ∧ f.plan[i]? = some ks
/-- a term of a kind -/
inductive HasKind (f : Fr) : Tm → Nat → Prop
  | mk {h ks : List Nat} {as : List Tm} {k : Nat} (t : Takes f h ks) (len : as.length + k = ks.length) (lack : ∀ (j κ : Nat), as.length ≤ j → ks[j]? = some κ → κ = 0)
      (args : ∀ (i : Nat) (a : Tm) (κ : Nat), as[i]? = some a → ks[i]? = some κ → HasKind f a κ) : HasKind f (.mk h as) k
theorem sign_name {l : List Nat} (h1 : isSign l = true) (h2 : isName l = true) : False := by
  cases l with
  | nil => cases h2
  | cons c r =>
    have a1 : isLow c = true := by
      unfold isSign at h1
      have z := (Bool.and_eq_true_iff.mp h1).2
      exact (Bool.and_eq_true_iff.mp (show (isLow c && r.all isLow) = true from z)).1
    have a2 : isCap c = true := (Bool.and_eq_true_iff.mp (show (isCap c && (decide (r.length ≤ 5) && r.all isLow)) = true from h2)).1
    have m1 : c ∈ lows := of_decide_eq_true a1
    have m2 : c ∈ caps := of_decide_eq_true a2
    have z : lows.all (fun c => !caps.contains c) = true := by decide +kernel
    have z2 := List.all_eq_true.mp z c m1
    rw [List.contains_iff_mem.mpr m2] at z2
    cases z2
theorem Takes.sign {f : Fr} {p : List Nat × Nat} (h : p ∈ f.signs) : Takes f p.1 (List.replicate p.2 0) := .inl ⟨p, h, rfl, rfl⟩
theorem Takes.own {f : Fr} {p : List Nat × Nat} (h : p ∈ f.own) : Takes f p.1 (List.replicate p.2 0) := .inr (.inl ⟨p, h, rfl, rfl⟩)
theorem Takes.lenK {f : Fr} {m : Nat} {h ks : List Nat} (o : FrOk m f) (t : Takes f h ks) : ks.length ≤ m ∧ ∀ k ∈ ks, k ≤ 2 := by
  rcases t with ⟨p, hp, rfl, rfl⟩ | ⟨p, hp, rfl, rfl⟩ | ⟨i, hn, hpn⟩
  · have := o.ar p hp
    have := o.m3
    refine ⟨by rw [List.length_replicate]; omega, fun k hk => ?_⟩
    rw [List.eq_of_mem_replicate hk]
    omega
  · have := o.ow p hp
    have := o.m3
    refine ⟨by rw [List.length_replicate]; omega, fun k hk => ?_⟩
    rw [List.eq_of_mem_replicate hk]
    omega
  · exact o.pl ks (List.mem_of_getElem? hpn)
/-- the greatest size of a drawn term -/
def gB (m : Nat) : Nat → Nat
  | 0 => 1
  | 1 => 2
  | d + 2 => 1 + m * gB m (d + 1)
theorem tmsD_len : ∀ ts : List Tm, (tmsD ts).length = ts.length
  | [] => rfl
  | t :: ts => congrArg (· + 1) (tmsD_len ts)
theorem tmsD_append : ∀ (a b : List Tm), tmsD (a ++ b) = tmsD a ++ tmsD b
  | [], b => rfl
  | t :: a, b => by
    show tmD t :: tmsD (a ++ b) = tmD t :: (tmsD a ++ tmsD b)
    rw [tmsD_append a b]
theorem tmsD_get : ∀ {ts : List Tm} {i : Nat} {t : Tm}, ts[i]? = some t → (tmsD ts)[i]? = some (tmD t)
  | [], i, t, h => by simp at h
  | a :: ts, 0, t, h => by
    have := Option.some.inj h
    subst this
    rfl
  | a :: ts, i + 1, t, h => tmsD_get (ts := ts) (i := i) h
theorem dptL_le {n : Nat} : ∀ {ts : List Tm}, (∀ t ∈ ts, dpt t ≤ n) → dptL ts ≤ n
  | [], _ => Nat.zero_le _
  | t :: ts, h => by
    unfold dptL
    exact Nat.max_le.mpr ⟨h t (List.mem_cons_self ..), dptL_le fun x hx => h x (List.mem_cons_of_mem _ hx)⟩
theorem szL_le {n : Nat} : ∀ {ts : List Tm}, (∀ t ∈ ts, szT t ≤ n) → szL ts ≤ ts.length * n
  | [], _ => by simp [szL]
  | t :: ts, h => by
    unfold szL
    have h1 := h t (List.mem_cons_self ..)
    have h2 := szL_le (ts := ts) fun x hx => h x (List.mem_cons_of_mem _ hx)
    rw [List.length_cons, Nat.add_mul, Nat.one_mul]
    omega
/-- a choice of a head with the kinds of its arguments -/
abbrev chD (c : List Nat × List Nat) : PyData := .tuple [dS c.1, dKinds c.2]
theorem Rp.ch {Sh : Hp} {v : V} {c : List Nat × List Nat} (h : Rp Sh v (chD c)) : ∃ a l, v = .ref a ∧ Sh a = some (.tup [vs_ c.1, .ref l]) ∧ Sh l = some (.lst (c.2.map vn)) := by
  cases h with
  | tup ha r =>
    cases r with
    | cons r1 r2 =>
      cases r2 with
      | cons r3 r4 =>
        cases r1
        cases r4
        cases r3 with
        | lst hl rl => exact ⟨_, _, rfl, ha, by rw [RpL.of_ints rl] at hl; exact hl⟩
theorem ch_rp {Sh : Hp} {a l : Addr} {c : List Nat × List Nat} (h1 : Sh a = some (.tup [vs_ c.1, .ref l])) (h2 : Sh l = some (.lst (c.2.map vn))) : Rp Sh (.ref a) (chD c) := .tup h1 (.cons (.str _) (.cons (.lst h2 (RpL.ints _)) .nil))
theorem rep0 : ∀ n : Nat, (List.replicate n [vn 0]).flatten = (List.replicate n 0).map vn
  | 0 => rfl
  | n + 1 => by
    rw [List.replicate_succ, List.flatten_cons, rep0 n, List.replicate_succ]
    rfl
/-- the parts of a frame -/
theorem frame_parts {Sh : Hp} {fa : Addr} {f : Fr} (h : Rp Sh (.ref fa) (dFrame f)) : ∃ (sg nm pl ow : Addr) (xs ys zs : List V), Sh fa = some (.tup [.ref sg, .ref nm, .ref pl, .ref ow]) ∧ Sh sg = some (.lst xs) ∧ RpL Sh xs (f.signs.map dPair) ∧ Sh nm = some (.lst (f.names.map vs_)) ∧
    Sh pl = some (.lst ys) ∧ RpL Sh ys (f.plan.map dKinds) ∧ Sh ow = some (.lst zs) ∧ RpL Sh zs (f.own.map dPair) := by
  unfold dFrame at h
  cases h with
  | tup ha r =>
    cases r with
    | cons r1 r =>
      cases r with
      | cons r2 r =>
        cases r with
        | cons r3 r =>
          cases r with
          | cons r4 r =>
            cases r
            cases r1 with
            | lst h1 q1 =>
              cases r2 with
              | lst h2 q2 =>
                cases r3 with
                | lst h3 q3 =>
                  cases r4 with
                  | lst h4 q4 =>
                    rw [RpL.of_strs q2] at h2
                    exact ⟨_, _, _, _, _, _, _, ha, h1, q1, h2, h3, q3, h4, q4⟩
theorem Rp.kinds {Sh : Hp} {v : V} {ks : List Nat} (h : Rp Sh v (dKinds ks)) : ∃ l, v = .ref l ∧ Sh l = some (.lst (ks.map vn)) := by
  cases h with
  | lst hl rl => exact ⟨_, rfl, by rw [RpL.of_ints rl] at hl; exact hl⟩
theorem shaped_kinds (ks : List Nat) : SeqAt.shaped (dKinds ks) = true := by
  have h := PySem.W.ke_shaped_ints (ks.map fun n => ((n : Nat) : Int))
  rw [List.map_map] at h
  exact h
theorem eqv_nil (ks : List Nat) : PyData.eqv (dKinds ks) (.list []) = ks.isEmpty := by
  cases ks with
  | nil => rfl
  | cons k ks => rfl
def sp_law_tree (D : Nat) : Sp := fun vs H Q _ => ∃ (b : Addr) (Sh : Hp) (fa : Addr) (f : Fr) (m d : Nat), vs = [.ref b, .ref fa, vn d] ∧ d ≤ D ∧ Wd b Sh H ∧ Rp Sh (.ref fa) (dFrame f) ∧ FrOk m f ∧
  ∀ (S' H' : Hp) (v : V) (t : Tm), Gr [b] Sh H S' H' → Wd b S' H' → Rp S' v (tmD t) → HasKind f t 0 → dpt t ≤ d + 1 → szT t ≤ gB m d → Q v H'
def sp_law_fun (D : Nat) : Sp := fun vs H Q _ => ∃ (b : Addr) (Sh : Hp) (fa : Addr) (f : Fr) (m k d : Nat), vs = [.ref b, .ref fa, vn k, vn d] ∧ d ≤ D ∧ Wd b Sh H ∧ Rp Sh (.ref fa) (dFrame f) ∧ FrOk m f ∧ 1 ≤ k ∧ k ≤ 2 ∧ 1 ≤ d ∧
  ∀ (S' H' : Hp) (v : V) (t : Tm), Gr [b] Sh H S' H' → Wd b S' H' → Rp S' v (tmD t) → HasKind f t k → dpt t ≤ d + 1 → szT t ≤ gB m d → Q v H'
def sp_law_part (D : Nat) : Sp := fun vs H Q _ => ∃ (b : Addr) (Sh : Hp) (fa : Addr) (f : Fr) (m k d : Nat), vs = [.ref b, .ref fa, vn k, vn d] ∧ d ≤ D ∧ Wd b Sh H ∧ Rp Sh (.ref fa) (dFrame f) ∧ FrOk m f ∧ k ≤ 2 ∧ (k ≠ 0 → 1 ≤ d) ∧
  ∀ (S' H' : Hp) (v : V) (t : Tm), Gr [b] Sh H S' H' → Wd b S' H' → Rp S' v (tmD t) → HasKind f t k → dpt t ≤ d + 1 → szT t ≤ gB m d → Q v H'

--USES gen3m
abbrev s_law_tree : Stmt := topS 16
abbrev N_law_tree : List Str := ["_law_box_here", "_law_frame", "_law_deep", "_law_signs", "_law_names_here", "_law_plan_here", "_law_own", "_law_some", "_law_name", "_law_kinds", "_law_head", "_law_word", "_law_has", "_law_sign", "_law_arity", "_law_one", "_law_each"]
theorem sc_law_tree : FnScope N_law_tree ["_law_box_here", "_law_frame", "_law_deep"] (defScope s_law_tree) := ⟨rfl, rfl, rfl, by decide +kernel, rfl, by decide +kernel, by decide +kernel⟩

def Ch (f : Fr) (d : Nat) (cs : List (List Nat × List Nat)) : Prop := ∀ c ∈ cs, Takes f c.1 c.2 ∧ (d ≤ 1 → c.2 = [])
theorem Ch.nil {f : Fr} {d : Nat} : Ch f d [] := fun _ h => nomatch h
theorem Ch.app {f : Fr} {d : Nat} {a b : List (List Nat × List Nat)} (h1 : Ch f d a) (h2 : Ch f d b) : Ch f d (a ++ b) := fun c hc => (List.mem_append.mp hc).elim (h1 c) (h2 c)
theorem Ch.one {f : Fr} {d : Nat} {c : List Nat × List Nat} (h1 : Takes f c.1 c.2) (h2 : d ≤ 1 → c.2 = []) : Ch f d [c] := fun x hx => by rw [List.mem_singleton.mp hx]; exact ⟨h1, h2⟩
theorem rep_nil {d n : Nat} (h : 1 < d ∨ n = 0) : d ≤ 1 → List.replicate n 0 = ([] : List Nat) := fun hd => by
  rcases h with h | h
  · omega
  · rw [h]
    rfl
/-- (word, [0] * number) -/
theorem choice_elt {b : Addr} {S1 H1 : Hp} {i j : Nat} {σ : L2.St} {p : List Nat × Nat} {Q' : V → Hp → Prop} (hi : σ[i]? = some (some (vs_ p.1))) (hj : σ[j]? = some (some (vn p.2))) (hp2 : p.2 ≤ 1000) (W1 : Wd b S1 H1)
    (k : ∀ {S4 H4 : Hp} {y : V}, Gr [b] S1 H1 S4 H4 → Wd b S4 H4 → (∀ (cs : List (List Nat × List Nat)) (acc : List V), RpL S1 acc (cs.map chD) → RpL S4 (acc ++ [y]) ((cs ++ [(p.1, List.replicate p.2 0)]).map chD)) → Q' y H4) :
    tTup (tCons (tVar i) (tCons (tOp rRep (tLst (tCons (tC (V.int 0)) tNil)) (tVar j)) tNil)) σ H1 Q' := by
  refine ⟨_, hi, (by show 1 ≤ sizeLine; decide), fun l0 hl0 => ?_⟩
  refine ⟨_, hj, l0, _, _, rfl, rfl, upd_same, by omega, by omega, ?_, fun l1 hl1 => ?_⟩
  · rw [Int.toNat_natCast]
    exact sz _ (by show 1 * _ ≤ _; omega)
  rw [Int.toNat_natCast, show (List.replicate p.2 [V.int 0]).flatten = (List.replicate p.2 0).map vn from rep0 p.2]
  have W2 := (boxW b).same W1 (same_new (o := .lst [vn 0]) hl0)
  have G2 : Gr [b] S1 H1 S1 _ := Gr.of_same (same_new (o := .lst [vn 0]) hl0)
  have W3 : Wd b (upd S1 l1 (.lst ((List.replicate p.2 0).map vn))) _ := (boxW b).new W2 hl1
  have G3 := G2.new (o := .lst ((List.replicate p.2 0).map vn)) W2.sh hl1
  refine ⟨(by show 2 ≤ sizeLine; decide), fun T2 hT2 => ?_⟩
  have W4 : Wd b (upd _ T2 (.tup [vs_ p.1, .ref l1])) _ := (boxW b).new W3 hT2
  have G4 := G3.new (o := .tup [vs_ p.1, .ref l1]) W3.sh hT2
  have sT2 := W3.sh.free hT2
  refine k G4 W4 fun cs acc rc => ?_
  rw [List.map_append]
  exact (RpL.mono G4.ss _ _ rc).snoc (ch_rp (c := (p.1, List.replicate p.2 0)) upd_same (same_new sT2 _ _ upd_same))
section
variable {P : Program} {w : World} {K : PySem.W.Frag} {mg : Str → Option Value} {base : Heap}
/-- the last rows of a drawn term: the head with its arguments -/
theorem tree_turn {D n : Nat} {spp : Sp} (F : Dfn K mg "_law_tree" s_law_tree) (B : Bt mg) (hn : 1 ≤ n) (c__law_take : Cal P w K mg base 1 "_law_take" sp_law_take) (c__law_part : Cal P w K mg base n "_law_part" spp) (hsp : 2 ≤ D → ∀ vs H Q E, sp_law_part (D - 1) vs H Q E → spp vs H Q E) : Cal P w K mg base (n + 1) "_law_tree" (sp_law_tree D) := by
  refine cal_of F sc_law_tree (fun _ _ _ _ _ _ us hl => match us, hl with | [_, _, _], _ => rfl) (fun vs H Q E h => ?_) (fun f cdv A outer s H vs Q E hr h => ?_)
  · obtain ⟨b, Sh, fa, fr, m, d, rfl, _⟩ := h
    rfl
  obtain ⟨b, Sh, fa, fr, m, d, rfl, hdD, W, rf, fo, q⟩ := h
  refine ⟨_, (pss_cons (ps_asg (pv 1) (pg_tup rfl (pgs_cons (pg_name (i := 3) sc_law_tree.nd rfl (by first | exact .inl rfl | exact .inr rfl)) (pgs_cons (pg_name (i := 4) sc_law_tree.nd rfl (by first | exact .inl rfl | exact .inr rfl)) (pgs_cons (pg_name (i := 5) sc_law_tree.nd rfl (by first | exact .inl rfl | exact .inr rfl)) (pgs_cons (pg_name (i := 6) sc_law_tree.nd rfl (by first | exact .inl rfl | exact .inr rfl)) pgs_nil))))))
      (pss_cons (ps_setLc (i := 7) (own := [("_law_word", 11), ("_law_has", 12)]) (g := gTup _ 2 (gCons (gName 11) (gCons (gName 12) gNil))) rfl sc_law_tree.nd rfl rfl (sw_true rfl rfl rfl (by decide +kernel)) (pi_list (pv 6)) (blkOk_by (own := [("_law_word", 11), ("_law_has", 12)]) (N := N_law_tree) (sc := defScope s_law_tree) (by decide +kernel)) (fun _ _ _ _ _ => (pg_tup rfl (pgs_cons (pg_name (i := 11) sc_law_tree.nd rfl (by first | exact .inl rfl | exact .inr rfl)) (pgs_cons (pg_name (i := 12) sc_law_tree.nd rfl (by first | exact .inl rfl | exact .inr rfl)) pgs_nil)))) (fun _ _ _ _ _ => (pts_one (PW.pt (pw_or (pt_cmpR op_gt (pv 2) pe_int (nomark _)) (pw_or1 (pt_cmpR op_eq (pv 12) pe_int (nomark _))))))) (fun _ _ _ _ _ => (pe_tup (pa_cons (pv 11) (pa_cons (pe_op op_rep (pe_lst (pa_cons pe_int pa_nil)) (pv 12)) pa_nil)))))
      (pss_cons (ps_set (i := 7) sc_law_tree.nd rfl (by first | exact .inl rfl | exact .inr rfl) (pe_op op_cat (pv 7) (pv 7)))
      (C8.pss_cut (ps_for PassesOwn.never rfl (RZ.pi_zipA (by rfl) B.zip (pa_cons (pv 4) (pa_cons (pv 5) pa_nil))) (pg_tup rfl (pgs_cons (pg_name (i := 8) sc_law_tree.nd rfl (by first | exact .inl rfl | exact .inr rfl)) (pgs_cons (pg_name (i := 9) sc_law_tree.nd rfl (by first | exact .inl rfl | exact .inr rfl)) pgs_nil))) (pss_one (ps_if (PW.pt (pw_or (pt_cmpR op_gt (pv 2) pe_int (nomark _)) (pw_or1 (pt_cmpR (k_op_eqD K rfl hr.units) (pv 9) (pe_lst pa_nil) (nomark _))))) (pss_one (ps_expr (pe_bm PySem.F.plainAttrs_list PySem.F.slot_list_append PySem.F.type_list_append mt_append (pv 7) (pa_cons (pe_tup (pa_cons (pv 8) (pa_cons (pv 9) pa_nil))) pa_nil)))) pss_nil)))
      (pss_cons (ps_set (i := 7) sc_law_tree.nd rfl (by first | exact .inl rfl | exact .inr rfl) (pe_op op_cat (pv 7) (pe_lc (own := [("_law_sign", 13), ("_law_arity", 14)]) (g := gTup _ 2 (gCons (gName 13) (gCons (gName 14) gNil))) rfl sc_law_tree.nd (pi_list (pv 3)) (blkOk_by (own := [("_law_sign", 13), ("_law_arity", 14)]) (N := N_law_tree) (sc := defScope s_law_tree) (by decide +kernel)) (fun _ _ _ _ _ => (pg_tup rfl (pgs_cons (pg_name (i := 13) sc_law_tree.nd rfl (by first | exact .inl rfl | exact .inr rfl)) (pgs_cons (pg_name (i := 14) sc_law_tree.nd rfl (by first | exact .inl rfl | exact .inr rfl)) pgs_nil)))) (fun _ _ _ _ _ => (pts_one (PW.pt (pw_or (pt_cmpR op_gt (pv 2) pe_int (nomark _)) (pw_or1 (pt_cmpR op_eq (pv 14) pe_int (nomark _))))))) (fun _ _ _ _ _ => (pe_tup (pa_cons (pv 13) (pa_cons (pe_op op_rep (pe_lst (pa_cons pe_int pa_nil)) (pv 14)) pa_nil)))))))
      (C8.pss_cut (ps_if (pt_cmpR op_gt (pv 2) pe_int (nomark _)) (pss_one (ps_set (i := 7) sc_law_tree.nd rfl (by first | exact .inl rfl | exact .inr rfl) (pe_op op_cat (pe_lc (own := [("_law_one", 15)]) (g := gName 15) rfl sc_law_tree.nd (pi_list (pv 7)) (blkOk_by (own := [("_law_one", 15)]) (N := N_law_tree) (sc := defScope s_law_tree) (by decide +kernel)) (fun _ _ _ _ _ => (pg_name (i := 15) sc_law_tree.nd rfl (by first | exact .inl rfl | exact .inr rfl))) (fun _ _ _ _ _ => (pts_one (pt_cmpR (k_op_neD K rfl hr.units) (pe_ix (k_ix_tup K rfl) (pv 15) pe_int (fun _ _ => rfl)) (pe_lst pa_nil) (nomark _)))) (fun _ _ _ _ _ => (pv 15))) (pe_slice (k_sl_list K rfl) (pv 7) po_none (po_some pe_int))))) pss_nil)
      (pss_cons (ps_asg (pe_ix (k_ix_list K rfl) (pv 7) (pe_cc c__law_take hr (by omega) (by rfl) (pa_cons (pv 0) (pa_cons (pe_callB (k_len_seq K rfl) (by rfl) B.len PySem.boot_len (pa_cons (pv 7) pa_nil)) pa_nil))) (fun _ _ => rfl)) (pg_tup rfl (pgs_cons (pg_name (i := 10) sc_law_tree.nd rfl (by first | exact .inl rfl | exact .inr rfl)) (pgs_cons (pg_name (i := 9) sc_law_tree.nd rfl (by first | exact .inl rfl | exact .inr rfl)) pgs_nil))))
      (pss_one (ps_ret (pe_op (k_op_catA K rfl) (pe_tup (pa_cons (pv 10) pa_nil)) (pe_callTy (k_tuple_of K rfl) (by rfl) B.tuple (by decide +kernel) (pa_cons (pe_lc (own := [("_law_each", 16)]) (g := gName 16) (tt := tYes) rfl sc_law_tree.nd (pi_list (pv 9)) (blkOk_by (own := [("_law_each", 16)]) (N := N_law_tree) (sc := defScope s_law_tree) (by decide +kernel)) (fun _ _ _ _ _ => (pg_name (i := 16) sc_law_tree.nd rfl (by first | exact .inl rfl | exact .inr rfl))) (fun _ _ _ _ _ => pts_nil) (fun _ _ _ _ _ => (pe_cc c__law_part hr (by omega) (by rfl) (pa_cons (pv 0) (pa_cons (pv 1) (pa_cons (pv 16) (pa_cons (pe_op op_sub (pv 2) pe_int) pa_nil))))))) pa_nil)))))))))))), ?_⟩
  obtain ⟨sg, nm, pl, ow, xs, ys, zs, hfa, hsg, rsg, hnm, hpl, rpl, how, row⟩ := frame_parts rf
  refine ⟨_, rfl, fa, _, rfl, SqT.of (W.sh _ _ hfa), rfl, _, _, rfl, _, _, rfl, _, _, rfl, _, _, rfl, rfl, ?_⟩
  -- some = [.. own ..]
  refine ⟨_, rfl, ow, rfl, ⟨_, SqL.of (W.sh _ _ how)⟩, fun D hD => ?_⟩
  have hzl : zs.length = fr.own.length := by
    have z := row.len
    rw [List.length_map] at z
    exact z
  refine lcw (boxW b) W hD (walk_list (xs := zs)) (fun i acc S' => Same Sh S' ∧ ∃ cs : List (List Nat × List Nat), RpL S' acc (cs.map chD) ∧ Ch fr d cs) ⟨Same.refl _, [], .nil, Ch.nil⟩ (by have := fo.lo; omega) (fun S' H' g W' => SqL.of (W'.sh _ _ (g.ss _ _ how)))
    (fun i x S1 H1 H1' acc hi g1 W1 s1 e1 hI hy put skip => ?_) (fun S1 H1 acc g1 W1 s1 e1 l1 hI => ?_)
  · obtain ⟨e1', hx1⟩ := hy
    subst e1'
    obtain ⟨ss1, cs, rc, hc⟩ := hI
    obtain ⟨p, hp, rp⟩ := row.getm hx1
    obtain ⟨T, rfl, hT⟩ := rp.pair
    have hpo : p ∈ fr.own := List.mem_of_getElem? hp
    have hp2 := fo.ow p hpo
    refine ⟨T, _, rfl, SqT.of (W1.sh _ _ (ss1 _ _ hT)), rfl, _, _, rfl, _, _, rfl, rfl, rfl, ?_⟩
    have elt : (1 < d ∨ p.2 = 0) → ∀ {Q' : V → Hp → Prop}, (∀ {S4 H4 : Hp} {y : V}, Gr [b] S1 H1' S4 H4 → Wd b S4 H4 → Same Sh S4 → RpL S4 (acc ++ [y]) ((cs ++ [(p.1, List.replicate p.2 0)]).map chD) → Q' y H4) →
        tTup (tCons (tVar 11) (tCons (tOp rRep (tLst (tCons (tC (V.int 0)) tNil)) (tVar 12)) tNil)) ((((wipe (L2.start N_law_tree [V.ref b, V.ref fa, vn d]) [11, 12]).set 11 (some (vs_ p.1))).set 12 (some (vn p.2)))) H1' Q' := fun hd Q' k => by
      refine ⟨_, rfl, (by show 1 ≤ sizeLine; decide), fun l0 hl0 => ?_⟩
      refine ⟨_, rfl, l0, _, _, rfl, rfl, upd_same, by omega, by omega, ?_, fun l1 hl1 => ?_⟩
      · rw [Int.toNat_natCast]
        exact sz _ (by show 1 * _ ≤ _; omega)
      rw [Int.toNat_natCast, show (List.replicate p.2 [V.int 0]).flatten = (List.replicate p.2 0).map vn from rep0 p.2]
      have W2 := (boxW b).same W1 (same_new (o := .lst [vn 0]) hl0)
      have G2 : Gr [b] S1 H1' S1 _ := Gr.of_same (same_new (o := .lst [vn 0]) hl0)
      have W3 : Wd b (upd S1 l1 (.lst ((List.replicate p.2 0).map vn))) _ := (boxW b).new W2 hl1
      have G3 := G2.new (o := .lst ((List.replicate p.2 0).map vn)) W2.sh hl1
      refine ⟨(by show 2 ≤ sizeLine; decide), fun T2 hT2 => ?_⟩
      have W4 : Wd b (upd _ T2 (.tup [vs_ p.1, .ref l1])) _ := (boxW b).new W3 hT2
      have G4 := G3.new (o := .tup [vs_ p.1, .ref l1]) W3.sh hT2
      have sT2 := W3.sh.free hT2
      refine k G4 W4 (ss1.trans G4.ss) ?_
      rw [List.map_append]
      exact (RpL.mono G4.ss _ _ rc).snoc (ch_rp (c := (p.1, List.replicate p.2 0)) upd_same (same_new sT2 _ _ upd_same))
    refine ⟨_, rfl, _, _, rfl, rfl, _, rfl, ite2 (fun c1 => ?_) (fun c1 => ?_)⟩
    · have c2 : (1 : Int) < (d : Int) := dT c1
      exact elt (.inl (by omega)) fun g4 W4 ss4 r4 => put g4 W4 ⟨ss4, _, r4, hc.app (Ch.one (Takes.own hpo) (rep_nil (.inl (by omega))))⟩
    · refine ⟨_, rfl, rfl, _, rfl, ite2 (fun c3 => ?_) (fun c3 => ?_)⟩
      · have c4 : p.2 = 0 := by
          have := V.int.inj (dT c3)
          omega
        exact elt (.inr c4) fun g4 W4 ss4 r4 => put g4 W4 ⟨ss4, _, r4, hc.app (Ch.one (Takes.own hpo) (rep_nil (.inr c4)))⟩
      · exact skip (Gr.refl _ _ _) W1 ⟨ss1, cs, rc, hc⟩
  obtain ⟨ss1, cs, rc, hc⟩ := hI
  have hlo := fo.lo
  have hln := fo.ln
  have hls := fo.ls
  have hDH : H D = none := hD
  -- some + some
  refine ⟨_, rfl, _, rfl, D, D, _, _, rfl, rfl, e1, e1, sz _ (by omega), fun D2 hD2 => ?_⟩
  have g2 := same_new (o := .lst (acc ++ acc)) hD2
  have W2 := (boxW b).same W1 g2
  have G2 : Gr [b] Sh H S1 (upd H1 D2 (.lst (acc ++ acc))) := g1.trans (Gr.of_same g2)
  have hD2H : H D2 = none := g1.back hD2
  have nD2 : D2 ∉ [b] := (boxW b).fresh W hD2H
  have s2 : S1 D2 = none := W1.sh.free hD2
  have hyl : ys.length = fr.plan.length := by
    have z := rpl.len
    rw [List.length_map] at z
    exact z
  -- for name, kinds in zip(names, plan)
  refine ⟨fun σ' H' => ∃ (S' : Hp) (ac : List V) (cs : List (List Nat × List Nat)) (y8 y9 y10 y11 y12 y13 y14 y15 y16 : Option V), σ' = [some (.ref b), some (.ref fa), some (vn d), some (.ref sg), some (.ref nm), some (.ref pl), some (.ref ow), some (.ref D2), y8, y9, y10, y11, y12, y13, y14, y15, y16] ∧
      Gr [b] Sh H S' H' ∧ Wd b S' H' ∧ H' D2 = some (.lst ac) ∧ S' D2 = none ∧ RpL S' ac (cs.map chD) ∧ Ch fr d cs ∧ ac.length ≤ 200, ?_, fun σ' H' hM => ?_⟩
  · refine ⟨_, rfl, _, rfl, nm, pl, _, _, rfl, .inl ⟨SqL.of (W2.sh _ _ (ss1 _ _ hnm)), SqL.of (W2.sh _ _ (ss1 _ _ hpl)), ?_⟩⟩
    refine fori (S := S1) (walk_zip (n := fr.names.length) (by rw [List.length_map, hyl, fo.len, Nat.min_self])) (fun i σ' S' H' => Gr [b] Sh H S' H' ∧ Wd b S' H' ∧ ∃ (ac : List V) (cs : List (List Nat × List Nat)) (y8 y9 y10 y11 y12 y13 y14 y15 y16 : Option V), σ' = [some (.ref b), some (.ref fa), some (vn d), some (.ref sg), some (.ref nm), some (.ref pl), some (.ref ow), some (.ref D2), y8, y9, y10, y11, y12, y13, y14, y15, y16] ∧
        H' D2 = some (.lst ac) ∧ S' D2 = none ∧ RpL S' ac (cs.map chD) ∧ Ch fr d cs ∧ ac.length ≤ 100 + i) ?_ (fun S' H' i σ' h => ⟨SqL.of (h.2.1.sh _ _ (h.1.ss _ _ hnm)), SqL.of (h.2.1.sh _ _ (h.1.ss _ _ hpl))⟩)
      (fun i x σ' S3 H3 H3' hi hI hy => ?_) (fun σ' S3 H3 hI => ?_)
    · refine ⟨G2, W2, acc ++ acc, cs ++ cs, _, _, _, _, _, _, _, _, _, rfl, upd_same, s2, ?_, hc.app hc, by rw [List.length_append]; omega⟩
      rw [List.map_append]
      exact rc.append rc
    · obtain ⟨G3, W3, ac, cs3, y8, y9, y10, y11, y12, y13, y14, y15, y16, rfl, hF, sF, r3, hc3, hal⟩ := hI
      obtain ⟨T, x1, y1, rfl, hT, rfl, hx1, hy1⟩ := hy
      obtain ⟨nn, hnn, rfl⟩ := G48.getm hx1
      obtain ⟨ks, hks, rk⟩ := rpl.getm hy1
      obtain ⟨l, rfl, hl⟩ := rk.kinds
      have gT := same_new (o := .tup [vs_ nn, .ref l]) hT
      have W4 := (boxW b).same W3 gT
      have G4 : Gr [b] Sh H S3 (upd H3 T (.tup [vs_ nn, .ref l])) := G3.trans (Gr.of_same gT)
      have hl4 : S3 l = some (.lst (ks.map vn)) := G3.ss _ _ hl
      have tk : Takes fr nn ks := .inr (.inr ⟨i, hnn, hks⟩)
      have hF4 : (upd H3 T (.tup [vs_ nn, .ref l])) D2 = some (.lst ac) := gT _ _ hF
      -- append
      have app : ∀ {H5 : Hp} {D' : Ends}, Gr [b] Sh H S3 H5 → Wd b S3 H5 → H5 D2 = some (.lst ac) → (d ≤ 1 → ks = []) → (∀ σ'' H'', Fi (fun i σ' S' H' => Gr [b] Sh H S' H' ∧ Wd b S' H' ∧ ∃ (ac : List V) (cs : List (List Nat × List Nat)) (y8 y9 y10 y11 y12 y13 y14 y15 y16 : Option V), σ' = [some (.ref b), some (.ref fa), some (vn d), some (.ref sg), some (.ref nm), some (.ref pl), some (.ref ow), some (.ref D2), y8, y9, y10, y11, y12, y13, y14, y15, y16] ∧
        H' D2 = some (.lst ac) ∧ S' D2 = none ∧ RpL S' ac (cs.map chD) ∧ Ch fr d cs ∧ ac.length ≤ 100 + i) (i + 1) σ'' H'' → D'.nx σ'' H'') →
          tDrop (tBM (cxOf CX0 P w K mg base N_law_tree "_law_tree" (defScope s_law_tree) f cdv A outer s H E).nox.K "list" rAppend (tVar 7) (tCons (tTup (tCons (tVar 8) (tCons (tVar 9) tNil))) tNil)) D' [some (.ref b), some (.ref fa), some (vn d), some (.ref sg), some (.ref nm), some (.ref pl), some (.ref ow), some (.ref D2), some (vs_ nn), some (.ref l), y10, y11, y12, y13, y14, y15, y16] H5 := fun {H5 D'} G5 W5 hF5 hd k => by
        refine ⟨_, rfl, .inl ⟨rfl, _, SqL.of hF5⟩, ?_⟩
        refine ⟨_, rfl, _, rfl, (by show 2 ≤ sizeLine; decide), fun T2 hT2 => ?_⟩
        have sT2 := W5.sh.free hT2
        have W6 : Wd b (upd S3 T2 (.tup [vs_ nn, .ref l])) _ := (boxW b).new W5 hT2
        have G6 := G5.new (o := .tup [vs_ nn, .ref l]) W5.sh hT2
        have nT2 : D2 ≠ T2 := ne_of_none hF5 hT2
        have s6 : (upd S3 T2 (.tup [vs_ nn, .ref l])) D2 = none := by
          rw [upd_ne nT2]
          exact sF
        refine ⟨D2, ac, _, rfl, rfl, (by rw [upd_ne nT2]; exact hF5), szl _ (by omega), k _ _ ?_⟩
        refine ⟨_, G6.chg hD2H, (boxW b).chg W6 s6 nD2, ac ++ [.ref T2], cs3 ++ [(nn, ks)], _, _, _, _, _, _, _, _, _, rfl, upd_same, s6, ?_, hc3.app (Ch.one tk hd), ?_⟩
        · rw [List.map_append]
          exact (RpL.mono (same_new sT2) _ _ r3).snoc (ch_rp (c := (nn, ks)) upd_same (same_new sT2 _ _ hl4))
        · rw [List.length_append]
          show ac.length + 1 ≤ _
          omega
      refine ⟨T, _, rfl, SqT.of upd_same, rfl, _, _, rfl, _, _, rfl, rfl, ?_⟩
      refine ⟨_, rfl, _, _, rfl, rfl, _, rfl, ite2 (fun c1 => ?_) (fun c1 => ?_)⟩
      · have c2 : (1 : Int) < (d : Int) := dT c1
        exact app G4 W4 hF4 (fun _ => by omega) fun _ _ h => h
      · refine ⟨_, rfl, Nat.zero_le _, fun p5 hp5 => ?_⟩
        have g5 := same_new (o := .lst []) hp5
        refine ⟨dKinds ks, .list [], .lst (SqL.of (g5 _ _ (W4.sh _ _ hl4))) (RpL.dp _ _ (RpL.ints ks)), .lst (SqL.of upd_same) .nil, shaped_kinds ks, (by decide +kernel), _, rfl, ?_⟩
        refine iteC (eqv_nil ks) (fun c3 => ?_) (fun c3 => ?_)
        · exact app (G4.trans (Gr.of_same g5)) ((boxW b).same W4 g5) (g5 _ _ hF4) (fun _ => List.isEmpty_iff.mp c3) fun _ _ h => h
        · exact ⟨S3, G4.trans (Gr.of_same g5), (boxW b).same W4 g5, ac, cs3, _, _, _, _, _, _, _, _, _, rfl, g5 _ _ hF4, sF, r3, hc3, by omega⟩
    · obtain ⟨G3, W3, ac, cs3, y8, y9, y10, y11, y12, y13, y14, y15, y16, rfl, hF, sF, r3, hc3, hal⟩ := hI
      exact ⟨S3, ac, cs3, _, _, _, _, _, _, _, _, _, rfl, G3, W3, hF, sF, r3, hc3, by omega⟩
  obtain ⟨S3, ac, cs3, y8, y9, y10, y11, y12, y13, y14, y15, y16, rfl, G3, W3, hF, sF, r3, hc3, hal⟩ := hM
  have hxl : xs.length = fr.signs.length := by
    have z := rsg.len
    rw [List.length_map] at z
    exact z
  -- some = some + [.. signs ..]
  refine ⟨_, rfl, _, rfl, sg, rfl, ⟨_, SqL.of (W3.sh _ _ (G3.ss _ _ hsg))⟩, fun D3 hD3 => ?_⟩
  have hD3H : H D3 = none := G3.back hD3
  refine lcw (boxW b) W3 hD3 (walk_list (xs := xs)) (fun i acc S' => Same S3 S' ∧ ∃ cs : List (List Nat × List Nat), RpL S' acc (cs.map chD) ∧ Ch fr d cs ∧ ((∃ j p, j < i ∧ fr.signs[j]? = some p ∧ p.2 = 0) → cs ≠ [])) ⟨Same.refl _, [], .nil, Ch.nil, fun ⟨j, p, h, _⟩ => absurd h (Nat.not_lt_zero _)⟩ (by omega) (fun S' H' g W' => SqL.of (W'.sh _ _ (g.ss _ _ (G3.ss _ _ hsg))))
    (fun i x S4 H4 H4' acc hi g4 W4 s4 e4 hI hy put skip => ?_) (fun S4 H4 acc4 g4 W4 s4 e4 l4 hI => ?_)
  · obtain ⟨e4', hx1⟩ := hy
    subst e4'
    obtain ⟨ss4, cs, rc, hc, hne⟩ := hI
    obtain ⟨p, hp, rp⟩ := rsg.getm hx1
    obtain ⟨T, rfl, hT⟩ := rp.pair
    have hpo : p ∈ fr.signs := List.mem_of_getElem? hp
    have hp2 := fo.ar p hpo
    refine ⟨T, _, rfl, SqT.of (W4.sh _ _ (ss4 _ _ (G3.ss _ _ hT))), rfl, _, _, rfl, _, _, rfl, rfl, rfl, ?_⟩
    have nel : (∃ j p', j < i + 1 ∧ fr.signs[j]? = some p' ∧ p'.2 = 0) → cs ++ [(p.1, List.replicate p.2 0)] ≠ [] := fun _ z => by simp at z
    refine ⟨_, rfl, _, _, rfl, rfl, _, rfl, ite2 (fun c1 => ?_) (fun c1 => ?_)⟩
    · have c2 : (1 : Int) < (d : Int) := dT c1
      exact choice_elt rfl rfl (by omega) W4 fun g5 W5 r5 => put g5 W5 ⟨ss4.trans g5.ss, _, r5 _ _ rc, hc.app (Ch.one (Takes.sign hpo) (rep_nil (.inl (by omega)))), nel⟩
    · refine ⟨_, rfl, rfl, _, rfl, ite2 (fun c3 => ?_) (fun c3 => ?_)⟩
      · have c4 : p.2 = 0 := by
          have := V.int.inj (dT c3)
          omega
        exact choice_elt rfl rfl (by omega) W4 fun g5 W5 r5 => put g5 W5 ⟨ss4.trans g5.ss, _, r5 _ _ rc, hc.app (Ch.one (Takes.sign hpo) (rep_nil (.inr c4))), nel⟩
      · refine skip (Gr.refl _ _ _) W4 ⟨ss4, cs, rc, hc, fun ⟨j, p', hj, hp', h0⟩ => hne ⟨j, p', ?_, hp', h0⟩⟩
        rcases Nat.lt_or_eq_of_le (Nat.le_of_lt_succ hj) with h | h
        · exact h
        · subst h
          rw [hp] at hp'
          have := Option.some.inj hp'
          subst this
          exact absurd (by rw [h0]; rfl) (dF c3)
  obtain ⟨ss4, cs4, rc4, hc4, hne4⟩ := hI
  have hF4 : H4 D2 = some (.lst ac) := g4.kp _ _ nD2 hF
  refine ⟨D2, D3, _, _, rfl, rfl, hF4, e4, sz _ (by omega), fun D4 hD4 => ?_⟩
  have gD4 := same_new (o := .lst (ac ++ acc4)) hD4
  have W5 := (boxW b).same W4 gD4
  have G5 : Gr [b] Sh H S4 _ := (G3.trans g4).trans (Gr.of_same gD4)
  have ne5 : cs3 ++ cs4 ≠ [] := fun z => by
    obtain ⟨p, hp, h0⟩ := fo.has 0 (by decide)
    obtain ⟨j, hj⟩ := List.getElem?_of_mem hp
    refine hne4 ⟨j, p, ?_, hj, h0⟩ (List.append_eq_nil_iff.mp z).2
    have := (List.getElem?_eq_some_iff.mp hj).1
    omega
  have r5 : RpL S4 (ac ++ acc4) ((cs3 ++ cs4).map chD) := by
    rw [List.map_append]
    exact (RpL.mono ss4 _ _ r3).append rc4
  have hc5 : Ch fr d (cs3 ++ cs4) := hc3.app hc4
  generalize cs3 ++ cs4 = cs5 at ne5 r5 hc5
  -- if deep > 2
  refine ⟨fun σ' H' => ∃ (S' : Hp) (Ds : Addr) (ac : List V) (cs : List (List Nat × List Nat)) (y8 y9 y10 y11 y12 y13 y14 y15 y16 : Option V), σ' = [some (.ref b), some (.ref fa), some (vn d), some (.ref sg), some (.ref nm), some (.ref pl), some (.ref ow), some (.ref Ds), y8, y9, y10, y11, y12, y13, y14, y15, y16] ∧
      Gr [b] Sh H S' H' ∧ Wd b S' H' ∧ H' Ds = some (.lst ac) ∧ Ds ≠ b ∧ RpL S' ac (cs.map chD) ∧ Ch fr d cs ∧ cs ≠ [] ∧ ac.length ≤ 600, ?_, fun σ' H' hM => ?_⟩
  · have nD4b : D4 ≠ b := Ne.symm (ne_nn W4.bs hD4)
    refine ⟨_, rfl, _, _, rfl, rfl, _, rfl, ite2 (fun c1 => ?_) (fun c1 => ?_)⟩
    · refine ⟨_, rfl, D4, rfl, ⟨_, SqL.of upd_same⟩, fun D5 hD5 => ?_⟩
      refine lcw (boxW b) W5 hD5 (walk_list (xs := ac ++ acc4)) (fun i acc S' => S' = S4 ∧ ∃ cs : List (List Nat × List Nat), RpL S' acc (cs.map chD) ∧ Ch fr d cs) ⟨rfl, [], .nil, Ch.nil⟩ (by rw [List.length_append]; omega) (fun S' H' g W' => SqL.of (g.kp _ _ (fun z => nD4b (List.mem_singleton.mp z)) upd_same))
        (fun i x S6 H6 H6' acc hi g6 W6 s6 e6 hI hy put skip => ?_) (fun S6 H6 acc6 g6 W6 s6 e6 l6 hI => ?_)
      · obtain ⟨e6', hx1⟩ := hy
        subst e6'
        obtain ⟨rfl, cs6, rc6, hc6⟩ := hI
        obtain ⟨c, hcc, rch⟩ := r5.getm hx1
        obtain ⟨T, l, rfl, hT, hl⟩ := rch.ch
        refine ⟨rfl, ?_⟩
        refine ⟨_, rfl, T, _, 1, .ref l, rfl, rfl, SqT.of (W6.sh _ _ hT), atI_nat (j := 1) rfl, Nat.zero_le _, fun p7 hp7 => ?_⟩
        have g7 := same_new (o := .lst []) hp7
        refine ⟨dKinds c.2, .list [], .lst (SqL.of (g7 _ _ (W6.sh _ _ hl))) (RpL.dp _ _ (RpL.ints c.2)), .lst (SqL.of upd_same) .nil, shaped_kinds c.2, (by decide +kernel), _, rfl, ?_⟩
        refine ite2 (fun c3 => ?_) (fun c3 => ?_)
        · refine ⟨_, rfl, put (Gr.of_same g7) ((boxW b).same W6 g7) ⟨rfl, cs6 ++ [c], ?_, hc6.app fun x hx => by rw [List.mem_singleton.mp hx]; exact hc5 c (List.mem_of_getElem? hcc)⟩⟩
          rw [List.map_append]
          exact rc6.snoc rch
        · exact skip (Gr.of_same g7) ((boxW b).same W6 g7) ⟨rfl, cs6, rc6, hc6⟩
      obtain ⟨rfl, cs6, rc6, hc6⟩ := hI
      have hD46 : H6 D4 = some (.lst (ac ++ acc4)) := g6.kp _ _ (fun z => nD4b (List.mem_singleton.mp z)) upd_same
      refine ⟨_, rfl, 1, rfl, D4, _, rfl, SqL.of hD46, fun D7 hD7 => ?_⟩
      have g7 := same_new (o := .lst (cutV (ac ++ acc4) none (some 1))) hD7
      have ecut : cutV (ac ++ acc4) none (some 1) = (ac ++ acc4).take 1 := by
        unfold cutV
        rw [show HT.sIx (ac ++ acc4).length (ac ++ acc4).length (some 1) = min 1 (ac ++ acc4).length from HT.sIx_nat _ _ 1, HT.sIx_none, List.drop_zero]
        rcases Nat.lt_or_ge 0 (ac ++ acc4).length with h | h
        · rw [Nat.min_eq_left (by omega)] <;> rfl
        · rw [List.length_eq_zero_iff.mp (show (ac ++ acc4).length = 0 by omega)]
          rfl
      refine ⟨D5, D7, _, _, rfl, rfl, g7 _ _ e6, upd_same, sz _ (by rw [ecut, List.length_take]; rw [List.length_append] at l6; omega), fun D8 hD8 => ?_⟩
      have g8 := same_new (o := .lst (acc6 ++ cutV (ac ++ acc4) none (some 1))) hD8
      have r7 : RpL S6 ((ac ++ acc4).take 1) ((cs5.take 1).map chD) := by
        generalize ac ++ acc4 = zz at r5
        match cs5, zz, r5 with
        | [], _, h => cases h; exact .nil
        | c :: cs, _, h =>
          cases h with
          | cons h1 h2 => exact .cons h1 .nil
      refine ⟨S6, D8, _, cs6 ++ cs5.take 1, _, _, _, _, _, _, _, _, _, rfl, (G5.trans g6).trans (Gr.of_same (g7.trans g8)), (boxW b).same W6 (g7.trans g8), upd_same, ?_, ?_, hc6.app (fun c hcm => hc5 c (List.mem_of_mem_take hcm)), ?_, ?_⟩
      · refine Ne.symm (ne_nn ?_ hD8)
        exact ((boxW b).same W6 g7).bs
      · rw [List.map_append, ecut]
        exact rc6.append r7
      · intro z
        have := (List.append_eq_nil_iff.mp z).2
        cases cs5 with
        | nil => exact ne5 rfl
        | cons a b => cases this
      · rw [List.length_append, ecut, List.length_take]
        rw [List.length_append] at l6
        omega
    · exact ⟨S4, D4, _, cs5, _, _, _, _, _, _, _, _, _, rfl, G5, W5, upd_same, nD4b, r5, hc5, ne5, by rw [List.length_append]; omega⟩
  obtain ⟨S6, Ds, ac6, cs6, z8, z9, z10, z11, z12, z13, z14, z15, z16, rfl, G6, W6, hDs, nDs, r6, hc6, ne6, l6⟩ := hM
  have hl6 : ac6.length = cs6.length := by
    have z := r6.len
    rw [List.length_map] at z
    exact z
  have h1 : 1 ≤ cs6.length := by
    cases cs6 with
    | nil => exact absurd rfl ne6
    | cons _ _ => simp
  -- head, kinds = some[take(box, len(some))]
  refine ⟨_, rfl, _, rfl, _, rfl, Ds, _, rfl, .inl (SqL.of hDs), b, S6, _, rfl, W6, by omega, by omega, fun H7 r7 g7 W7 h7 => ?_⟩
  have hr7 : r7 < ac6.length := by omega
  obtain ⟨c, hcc, rch⟩ := r6.getm (List.getElem?_eq_getElem hr7)
  obtain ⟨T, l, eT, hT, hl⟩ := rch.ch
  obtain ⟨tk, hd1⟩ := hc6 c (List.mem_of_getElem? hcc)
  refine ⟨Ds, _, (r7 : Int), .ref T, rfl, rfl, SqL.of (g7.kp _ _ (fun z => nDs (List.mem_singleton.mp z)) hDs), atI_nat (by rw [List.getElem?_eq_getElem hr7, eT]), ?_⟩
  refine ⟨T, _, rfl, SqT.of (W7.sh _ _ hT), rfl, _, _, rfl, _, _, rfl, rfl, ?_⟩
  have G7 : Gr [b] Sh H S6 H7 := G6.trans g7
  obtain ⟨ksm, ks2⟩ := tk.lenK fo
  -- return (head,) + tuple([..])
  refine ⟨_, rfl, (by show 1 ≤ sizeLine; decide), fun T1 hT1 => ?_⟩
  have gT1 := same_new (o := .tup [vs_ c.1]) hT1
  have W8 := (boxW b).new (o := .tup [vs_ c.1]) W7 hT1
  have G8 := G7.new (o := .tup [vs_ c.1]) W7.sh hT1
  have sT1 : S6 T1 = none := W7.sh.free hT1
  have hl8 := same_new (o := .tup [vs_ c.1]) sT1 _ _ hl
  refine ⟨_, rfl, l, rfl, ⟨_, SqL.of (W8.sh _ _ hl8)⟩, fun D9 hD9 => ?_⟩
  have hm20 := fo.m3
  refine lcw (boxW b) W8 hD9 (walk_list (xs := c.2.map vn)) (fun i acc S' => Same (upd S6 T1 (.tup [vs_ c.1])) S' ∧ ∃ ts : List Tm, RpL S' acc (tmsD ts) ∧ ts.length = i ∧ (∀ (j : Nat) (t : Tm) (κ : Nat), ts[j]? = some t → c.2[j]? = some κ → HasKind fr t κ) ∧ ∀ t ∈ ts, dpt t ≤ d ∧ szT t ≤ gB m (d - 1)) ⟨Same.refl _, [], .nil, rfl, fun j t κ h => by simp at h, fun _ h => nomatch h⟩ (by rw [List.length_map]; omega) (fun S' H' g W' => SqL.of (W'.sh _ _ (g.ss _ _ hl8)))
    (fun i x S9 H9 H9' acc hi g9 W9 s9 e9 hI hy put skip => ?_) (fun S9 H9 acc9 g9 W9 s9 e9 l9 hI => ?_)
  · obtain ⟨e9', hx1⟩ := hy
    subst e9'
    obtain ⟨ss9, ts, rt, hts, hk, hb⟩ := hI
    obtain ⟨κ, hκ, rfl⟩ := G48.getm hx1
    have hd2 : 2 ≤ d := by
      rcases Nat.lt_or_ge 1 d with h | h
      · omega
      · rw [hd1 h] at hκ
        simp at hκ
    refine ⟨rfl, ?_⟩
    refine ⟨_, rfl, _, rfl, _, rfl, _, rfl, _, _, rfl, rfl, ?_⟩
    refine hsp (by omega) _ _ _ _ ⟨b, S9, fa, fr, m, κ, d - 1, congrArg (fun z => [V.ref b, V.ref fa, vn κ, V.int z]) (show (d : Int) - 1 = ((d - 1 : Nat) : Int) by omega), by omega, W9, Rp.mono ((G8.ss).trans ss9) _ _ rf, fo, ks2 κ (List.mem_of_getElem? hκ), fun _ => by omega, fun S10 H10 v t g10 W10 rv hkt hdt hst => ?_⟩
    refine put g10 W10 ⟨ss9.trans g10.ss, ts ++ [t], ?_, by rw [List.length_append]; show _ + 1 = _; omega, fun j t' κ' hj hκ' => ?_, fun t' ht' => ?_⟩
    · rw [tmsD_append]
      exact (RpL.mono g10.ss _ _ rt).snoc rv
    · rcases Nat.lt_or_ge j ts.length with h | h
      · rw [List.getElem?_append_left h] at hj
        exact hk j t' κ' hj hκ'
      · rw [List.getElem?_append_right h] at hj
        have ej : j = i := by
          have := (List.getElem?_eq_some_iff.mp hj).1
          have : j - ts.length < 1 := this
          omega
        subst ej
        rw [hts, Nat.sub_self] at hj
        have e1 := Option.some.inj hj
        have e2 := Option.some.inj (hκ.symm.trans hκ')
        rw [← e1, ← e2]
        exact hkt
    · rcases List.mem_append.mp ht' with h | h
      · exact hb t' h
      · rw [List.mem_singleton.mp h]
        exact ⟨by omega, hst⟩
  obtain ⟨ss9, ts, rt, hts, hk, hb⟩ := hI
  rw [List.length_map] at hts
  refine ⟨D9, _, rfl, .inl ⟨SqL.of e9, fun T2 hT2 => ?_⟩⟩
  have gT2 := same_new (o := .tup acc9) hT2
  have hT1' : H9 T1 = some (.tup [vs_ c.1]) := W9.sh _ _ (ss9 _ _ upd_same)
  have hal9 : acc9.length = ts.length := by rw [rt.len, tmsD_len]
  have hkind : HasKind fr (.mk c.1 ts) 0 := .mk tk (by omega) (fun j κ hj hκ => by
    have := (List.getElem?_eq_some_iff.mp hκ).1
    omega) hk
  have hdp : dpt (.mk c.1 ts) ≤ d + 1 := by
    show dptL ts + 1 ≤ d + 1
    exact Nat.succ_le_succ (dptL_le fun t ht => (hb t ht).1)
  have hsz : szT (.mk c.1 ts) ≤ gB m d := by
    show szL ts + 1 ≤ gB m d
    have h1 := szL_le (ts := ts) fun t ht => (hb t ht).2
    rcases Nat.lt_or_ge 1 d with h | h
    · obtain ⟨d', rfl⟩ : ∃ d', d = d' + 2 := ⟨d - 2, by omega⟩
      show szL ts + 1 ≤ 1 + m * gB m (d' + 1)
      have h2 : ts.length * gB m (d' + 1) ≤ m * gB m (d' + 1) := Nat.mul_le_mul_right _ (by omega)
      have h3 : szL ts ≤ ts.length * gB m (d' + 1) := h1
      omega
    · have : ts = [] := List.length_eq_zero_iff.mp (by rw [hts, hd1 h]; rfl)
      subst this
      show 0 + 1 ≤ _
      have : d = 0 ∨ d = 1 := by omega
      rcases this with rfl | rfl
      · exact Nat.le_refl _
      · exact (by decide : 1 ≤ 2)
  refine ⟨T1, T2, _, _, rfl, rfl, SqT.of (gT2 _ _ hT1'), SqT.of upd_same, sz _ (by show 1 + _ ≤ _; omega), fun z => (by cases z), fun _ z => ?_, fun _ z p10 hp10 => ?_⟩
  · -- no arguments
    have ets : ts = [] := List.length_eq_zero_iff.mp (by rw [← hal9, z]; rfl)
    refine q S9 _ (.ref T1) (.mk c.1 ts) ((G8.trans g9).trans (Gr.of_same gT2)) ((boxW b).same W9 gT2) ?_ hkind hdp hsz
    rw [ets]
    exact .tup (ss9 _ _ upd_same) (.cons (.str _) .nil)
  · have W10 := (boxW b).same W9 gT2
    have G10 := (G8.trans g9).trans (Gr.of_same gT2)
    have s10 := W10.sh.free hp10
    refine q _ _ (.ref p10) (.mk c.1 ts) (G10.new W10.sh hp10) ((boxW b).new W10 hp10) (.tup upd_same (.cons (.str _) (RpL.mono (same_new s10) _ _ rt))) hkind hdp hsz
end

--USES gen3m
abbrev s_law_part : Stmt := topS 15
abbrev N_law_part : List Str := ["_law_box_here", "_law_frame", "_law_kind", "_law_deep"]
theorem sc_law_part : FnScope N_law_part ["_law_box_here", "_law_frame", "_law_kind", "_law_deep"] (defScope s_law_part) := ⟨rfl, rfl, rfl, by decide +kernel, rfl, by decide +kernel, by decide +kernel⟩

section
variable {P : Program} {w : World} {K : PySem.W.Frag} {mg : Str → Option Value} {base : Heap}
theorem cal_law_part {D n : Nat} (F : Dfn K mg "_law_part" s_law_part) (c__law_tree : Cal P w K mg base n "_law_tree" (sp_law_tree D)) (c__law_fun : Cal P w K mg base n "_law_fun" (sp_law_fun D)) : Cal P w K mg base (n + 1) "_law_part" (sp_law_part D) := by
  refine cal_of F sc_law_part (fun _ _ _ _ _ _ us hl => match us, hl with | [_, _, _, _], _ => rfl) (fun vs H Q E h => ?_) (fun f cdv A outer s H vs Q E hr h => ?_)
  · obtain ⟨b, Sh, fa, fr, m, k, d, rfl, _⟩ := h
    rfl
  obtain ⟨b, Sh, fa, fr, m, k, d, rfl, hdD, W, rf, fo, k2, kd, q⟩ := h
  refine ⟨_, (pss_one (ps_ret (pe_ifExp (pt_cmpR op_eq (pv 2) pe_int (nomark _)) (pe_cc c__law_tree hr (by omega) (by rfl) (pa_cons (pv 0) (pa_cons (pv 1) (pa_cons (pv 3) pa_nil)))) (pe_cc c__law_fun hr (by omega) (by rfl) (pa_cons (pv 0) (pa_cons (pv 1) (pa_cons (pv 2) (pa_cons (pv 3) pa_nil)))))))), ?_⟩
  refine ⟨_, rfl, rfl, _, rfl, ite2 (fun c1 => ?_) (fun c1 => ?_)⟩
  · have c2 : k = 0 := by
      have := V.int.inj (dT c1)
      omega
    subst c2
    exact ⟨_, rfl, _, rfl, _, rfl, b, Sh, fa, fr, m, d, rfl, hdD, W, rf, fo, q⟩
  · have c2 : k ≠ 0 := fun z => dF c1 (by rw [z]; rfl)
    exact ⟨_, rfl, _, rfl, _, rfl, _, rfl, b, Sh, fa, fr, m, k, d, rfl, hdD, W, rf, fo, by omega, k2, kd c2, q⟩
end

--USES gen3t gen3p
abbrev s_law_fun : Stmt := topS 14
abbrev N_law_fun : List Str := ["_law_box_here", "_law_frame", "_law_kind", "_law_deep", "_law_signs", "_law_names_here", "_law_plan_here", "_law_own", "_law_some", "_law_name", "_law_kinds", "_law_head", "_law_given", "_law_word", "_law_has", "_law_sign", "_law_arity", "_law_each"]
theorem sc_law_fun : FnScope N_law_fun ["_law_box_here", "_law_frame", "_law_kind", "_law_deep"] (defScope s_law_fun) := ⟨rfl, rfl, rfl, by decide +kernel, rfl, by decide +kernel, by decide +kernel⟩

/-- a choice of a head with the number of its arguments -/
def GF (f : Fr) (k d : Nat) (c : List Nat × Nat) : Prop := ∃ ks : List Nat, Takes f c.1 ks ∧ c.2 + k = ks.length ∧ (∀ (j κ : Nat), c.2 ≤ j → ks[j]? = some κ → κ = 0) ∧ (d ≤ 1 → c.2 ≤ 1 ∧ ∀ κ ∈ ks, κ = 0)
def GFs (f : Fr) (k d : Nat) (cs : List (List Nat × Nat)) : Prop := ∀ c ∈ cs, GF f k d c
theorem GFs.nil {f : Fr} {k d : Nat} : GFs f k d [] := fun _ h => nomatch h
theorem GFs.app {f : Fr} {k d : Nat} {a b : List (List Nat × Nat)} (h1 : GFs f k d a) (h2 : GFs f k d b) : GFs f k d (a ++ b) := fun c hc => (List.mem_append.mp hc).elim (h1 c) (h2 c)
theorem GFs.one {f : Fr} {k d : Nat} {c : List Nat × Nat} (h : GF f k d c) : GFs f k d [c] := fun x hx => by rw [List.mem_singleton.mp hx]; exact h
theorem rep_get {n j κ : Nat} (h : (List.replicate n 0)[j]? = some κ) : κ = 0 := List.eq_of_mem_replicate (List.mem_of_getElem? h)
theorem rep_all {n κ : Nat} (h : κ ∈ List.replicate n 0) : κ = 0 := List.eq_of_mem_replicate h
theorem cutV_from (xs : List V) {i : Nat} (h : i ≤ xs.length) : cutV xs (some (i : Int)) none = xs.drop i := by
  unfold cutV
  rw [HT.sIx_nat, HT.sIx_none, Nat.min_eq_left h]
  exact List.take_of_length_le (by rw [List.length_drop]; exact Nat.le_refl _)
theorem cutV_to (xs : List V) (i : Nat) : cutV xs none (some (i : Int)) = xs.take i := by
  unfold cutV
  rw [HT.sIx_nat, HT.sIx_none, List.drop_zero, Nat.sub_zero]
  rcases Nat.le_total i xs.length with h | h
  · rw [Nat.min_eq_left h]
  · rw [Nat.min_eq_right h, List.take_of_length_le h, List.take_length]
theorem sum_nn : ∀ (l : List Nat), 0 ≤ (l.map fun n => ((n : Nat) : Int)).sum
  | [] => Int.le_refl 0
  | n :: l => by
    show 0 ≤ (((n : Nat) : Int) :: l.map fun n => ((n : Nat) : Int)).sum
    rw [List.sum_cons]
    have := sum_nn l
    omega
theorem sum_zero : ∀ {l : List Nat}, (l.map fun n => ((n : Nat) : Int)).sum = 0 → ∀ n ∈ l, n = 0
  | [], _, n, h => nomatch h
  | a :: l, e, n, h => by
    have e' : (((a : Nat) : Int) :: l.map fun n => ((n : Nat) : Int)).sum = 0 := e
    rw [List.sum_cons] at e'
    have := sum_nn l
    rcases List.mem_cons.mp h with rfl | h
    · omega
    · exact sum_zero (by omega) n h
theorem eqV_vs (a b : List Nat) : eqV (vs_ a) (vs_ b) = decide (a = b) := by
  show (S a == S b) = decide (a = b)
  exact S_beq_eq
theorem inV_vs (h : List Nat) : ∀ l : List (List Nat), inV (vs_ h) (l.map vs_) = decide (h ∈ l)
  | [] => by simp [inV]
  | a :: l => by
    show (eqV (vs_ a) (vs_ h) || inV (vs_ h) (l.map vs_)) = _
    rw [inV_vs h l, eqV_vs]
    by_cases e : a = h
    · subst e
      simp
    · rw [decide_eq_false e, Bool.false_or]
      simp [Ne.symm e]
theorem flat_vs : ∀ l : List (List Nat), (l.map vs_).all flatV = true
  | [] => rfl
  | a :: l => by
    show (flatV (vs_ a) && (l.map vs_).all flatV) = true
    rw [flat_vs l]
    rfl
section
variable {P : Program} {w : World} {K : PySem.W.Frag} {mg : Str → Option Value} {base : Heap}
/-- (word, number): a new pair -/
theorem pair_elt {b : Addr} {S1 H1 : Hp} {σ : L2.St} {p : List Nat × Nat} {v : V} {tn : TE} {i : Nat} {Q' : V → Hp → Prop} (hi : σ[i]? = some (some (vs_ p.1))) (hv : ∀ Q'' : V → Hp → Prop, Q'' (vn p.2) H1 → tn σ H1 Q'') (W1 : Wd b S1 H1)
    (k : ∀ {S4 H4 : Hp} {y : V}, Gr [b] S1 H1 S4 H4 → Wd b S4 H4 → (∀ (cs : List (List Nat × Nat)) (acc : List V), RpL S1 acc (cs.map dPair) → RpL S4 (acc ++ [y]) ((cs ++ [p]).map dPair)) → Q' y H4) :
    tTup (tCons (tVar i) (tCons tn tNil)) σ H1 Q' := by
  refine ⟨_, hi, hv _ ⟨(by show 2 ≤ sizeLine; decide), fun T2 hT2 => ?_⟩⟩
  have W4 : Wd b (upd S1 T2 (.tup [vs_ p.1, vn p.2])) _ := (boxW b).new W1 hT2
  have G4 := (Gr.refl [b] S1 H1).new (o := .tup [vs_ p.1, vn p.2]) W1.sh hT2
  refine k G4 W4 fun cs acc rc => ?_
  rw [List.map_append]
  exact (RpL.mono G4.ss _ _ rc).snoc (pair_rp upd_same)
theorem fun_turn {D n : Nat} (F : Dfn K mg "_law_fun" s_law_fun) (B : Bt mg) (hn : 1 ≤ n) (c__law_take : Cal P w K mg base 1 "_law_take" sp_law_take) (c__law_part : Cal P w K mg base n "_law_part" (sp_law_part (D - 1))) : Cal P w K mg base (n + 1) "_law_fun" (sp_law_fun D) := by
  refine cal_of F sc_law_fun (fun _ _ _ _ _ _ us hl => match us, hl with | [_, _, _, _], _ => rfl) (fun vs H Q E h => ?_) (fun f cdv A outer s H vs Q E hr h => ?_)
  · obtain ⟨b, Sh, fa, fr, m, k, d, rfl, _⟩ := h
    rfl
  obtain ⟨b, Sh, fa, fr, m, k, d, rfl, hdD, W, rf, fo, k1, k2, d1, q⟩ := h
  refine ⟨_, (pss_cons (ps_asg (pv 1) (pg_tup rfl (pgs_cons (pg_name (i := 4) sc_law_fun.nd rfl (by first | exact .inl rfl | exact .inr rfl)) (pgs_cons (pg_name (i := 5) sc_law_fun.nd rfl (by first | exact .inl rfl | exact .inr rfl)) (pgs_cons (pg_name (i := 6) sc_law_fun.nd rfl (by first | exact .inl rfl | exact .inr rfl)) (pgs_cons (pg_name (i := 7) sc_law_fun.nd rfl (by first | exact .inl rfl | exact .inr rfl)) pgs_nil))))))
      (pss_cons (ps_setLc (i := 8) (own := [("_law_word", 13), ("_law_has", 14)]) (g := gTup _ 2 (gCons (gName 13) (gCons (gName 14) gNil))) rfl sc_law_fun.nd rfl rfl (sw_true rfl rfl rfl (by decide +kernel)) (pi_list (pv 7)) (blkOk_by (own := [("_law_word", 13), ("_law_has", 14)]) (N := N_law_fun) (sc := defScope s_law_fun) (by decide +kernel)) (fun _ _ _ _ _ => (pg_tup rfl (pgs_cons (pg_name (i := 13) sc_law_fun.nd rfl (by first | exact .inl rfl | exact .inr rfl)) (pgs_cons (pg_name (i := 14) sc_law_fun.nd rfl (by first | exact .inl rfl | exact .inr rfl)) pgs_nil)))) (fun _ _ _ _ _ => (pts_one (pt_cmpR op_eq (pv 14) (pv 2) (nomark _)))) (fun _ _ _ _ _ => (pe_tup (pa_cons (pv 13) (pa_cons pe_int pa_nil)))))
      (C8.pss_cut (ps_if (pt_cmpR op_eq (pv 2) pe_int (nomark _)) (pss_one (ps_set (i := 8) sc_law_fun.nd rfl (by first | exact .inl rfl | exact .inr rfl) (pe_op op_cat (pv 8) (pe_lc (own := [("_law_word", 13), ("_law_has", 14)]) (g := gTup _ 2 (gCons (gName 13) (gCons (gName 14) gNil))) rfl sc_law_fun.nd (pi_list (pv 7)) (blkOk_by (own := [("_law_word", 13), ("_law_has", 14)]) (N := N_law_fun) (sc := defScope s_law_fun) (by decide +kernel)) (fun _ _ _ _ _ => (pg_tup rfl (pgs_cons (pg_name (i := 13) sc_law_fun.nd rfl (by first | exact .inl rfl | exact .inr rfl)) (pgs_cons (pg_name (i := 14) sc_law_fun.nd rfl (by first | exact .inl rfl | exact .inr rfl)) pgs_nil)))) (fun _ _ _ _ _ => (pts_one (pt_cmpR op_eq (pv 14) pe_int (nomark _)))) (fun _ _ _ _ _ => (pe_tup (pa_cons (pv 13) (pa_cons pe_int pa_nil)))))))) pss_nil)
      (C8.pss_cut (ps_for PassesOwn.never rfl (RZ.pi_zipA (by rfl) B.zip (pa_cons (pv 5) (pa_cons (pv 6) pa_nil))) (pg_tup rfl (pgs_cons (pg_name (i := 9) sc_law_fun.nd rfl (by first | exact .inl rfl | exact .inr rfl)) (pgs_cons (pg_name (i := 10) sc_law_fun.nd rfl (by first | exact .inl rfl | exact .inr rfl)) pgs_nil))) (pss_one (ps_if (PW.pt (pw_and (pt_cmpR op_ge (pe_callB (k_len_seq K rfl) (by rfl) B.len PySem.boot_len (pa_cons (pv 10) pa_nil)) (pv 2) (nomark _)) (pw_and (pt_cmpR op_eq (pe_callB (k_sum K rfl rfl) (by rfl) B.sum (by decide +kernel) (pa_cons (pe_slice (k_sl_list K rfl) (pv 10) (po_some (pe_op op_sub (pe_callB (k_len_seq K rfl) (by rfl) B.len PySem.boot_len (pa_cons (pv 10) pa_nil)) (pv 2))) po_none) pa_nil)) pe_int (nomark _)) (pw_and1 (pt_cmpR op_gt (pv 3) pe_int (nomark _)))))) (pss_one (ps_expr (pe_bm PySem.F.plainAttrs_list PySem.F.slot_list_append PySem.F.type_list_append mt_append (pv 8) (pa_cons (pe_tup (pa_cons (pv 9) (pa_cons (pe_op op_sub (pe_callB (k_len_seq K rfl) (by rfl) B.len PySem.boot_len (pa_cons (pv 10) pa_nil)) (pv 2)) pa_nil))) pa_nil)))) pss_nil)))
      (pss_cons (ps_set (i := 8) sc_law_fun.nd rfl (by first | exact .inl rfl | exact .inr rfl) (pe_op op_cat (pv 8) (pe_lc (own := [("_law_sign", 15), ("_law_arity", 16)]) (g := gTup _ 2 (gCons (gName 15) (gCons (gName 16) gNil))) rfl sc_law_fun.nd (pi_list (pv 4)) (blkOk_by (own := [("_law_sign", 15), ("_law_arity", 16)]) (N := N_law_fun) (sc := defScope s_law_fun) (by decide +kernel)) (fun _ _ _ _ _ => (pg_tup rfl (pgs_cons (pg_name (i := 15) sc_law_fun.nd rfl (by first | exact .inl rfl | exact .inr rfl)) (pgs_cons (pg_name (i := 16) sc_law_fun.nd rfl (by first | exact .inl rfl | exact .inr rfl)) pgs_nil)))) (fun _ _ _ _ _ => (pts_one (PW.pt (pw_and (pt_cmpR op_ge (pv 16) (pv 2) (nomark _)) (pw_and1 (PW.pt (pw_or (pt_cmpR op_gt (pv 3) pe_int (nomark _)) (pw_or1 (pt_cmpR op_eq (pv 16) (pv 2) (nomark _)))))))))) (fun _ _ _ _ _ => (pe_tup (pa_cons (pv 15) (pa_cons (pe_op op_sub (pv 16) (pv 2)) pa_nil)))))))
      (pss_cons (ps_asg (pe_ix (k_ix_list K rfl) (pv 8) (pe_cc c__law_take hr (by omega) (by rfl) (pa_cons (pv 0) (pa_cons (pe_callB (k_len_seq K rfl) (by rfl) B.len PySem.boot_len (pa_cons (pv 8) pa_nil)) pa_nil))) (fun _ _ => rfl)) (pg_tup rfl (pgs_cons (pg_name (i := 11) sc_law_fun.nd rfl (by first | exact .inl rfl | exact .inr rfl)) (pgs_cons (pg_name (i := 12) sc_law_fun.nd rfl (by first | exact .inl rfl | exact .inr rfl)) pgs_nil))))
      (pss_cons (ps_set (i := 10) sc_law_fun.nd rfl (by first | exact .inl rfl | exact .inr rfl) (pe_op op_rep (pe_lst (pa_cons pe_int pa_nil)) (pv 12)))
      (C8.pss_cut (ps_if (pt_cmpR (k_op_in_seq K rfl) (pv 11) (pv 5) (by rfl)) (pss_one (ps_set (i := 10) sc_law_fun.nd rfl (by first | exact .inl rfl | exact .inr rfl) (pe_slice (k_sl_list K rfl) (pe_ix (k_ix_list K rfl) (pv 6) (pe_bm PySem.F.plainAttrs_list PySem.F.slot_list_index PySem.F.type_list_index mt_index (pv 5) (pa_cons (pv 11) pa_nil)) (fun _ _ => rfl)) po_none (po_some (pv 12))))) pss_nil)
      (pss_one (ps_ret (pe_op (k_op_catA K rfl) (pe_tup (pa_cons (pv 11) pa_nil)) (pe_callTy (k_tuple_of K rfl) (by rfl) B.tuple (by decide +kernel) (pa_cons (pe_lc (own := [("_law_each", 17)]) (g := gName 17) (tt := tYes) rfl sc_law_fun.nd (pi_list (pv 10)) (blkOk_by (own := [("_law_each", 17)]) (N := N_law_fun) (sc := defScope s_law_fun) (by decide +kernel)) (fun _ _ _ _ _ => (pg_name (i := 17) sc_law_fun.nd rfl (by first | exact .inl rfl | exact .inr rfl))) (fun _ _ _ _ _ => pts_nil) (fun _ _ _ _ _ => (pe_cc c__law_part hr (by omega) (by rfl) (pa_cons (pv 0) (pa_cons (pv 1) (pa_cons (pv 17) (pa_cons (pe_op op_sub (pv 3) pe_int) pa_nil))))))) pa_nil))))))))))))), ?_⟩
  obtain ⟨sg, nm, pl, ow, xs, ys, zs, hfa, hsg, rsg, hnm, hpl, rpl, how, row⟩ := frame_parts rf
  refine ⟨_, rfl, fa, _, rfl, SqT.of (W.sh _ _ hfa), rfl, _, _, rfl, _, _, rfl, _, _, rfl, _, _, rfl, rfl, ?_⟩
  have hzl : zs.length = fr.own.length := by
    have z := row.len
    rw [List.length_map] at z
    exact z
  have hyl : ys.length = fr.plan.length := by
    have z := rpl.len
    rw [List.length_map] at z
    exact z
  have hxl : xs.length = fr.signs.length := by
    have z := rsg.len
    rw [List.length_map] at z
    exact z
  have hlo := fo.lo
  have hln := fo.ln
  have hls := fo.ls
  -- some = [(word, 0) ..]
  refine ⟨_, rfl, ow, rfl, ⟨_, SqL.of (W.sh _ _ how)⟩, fun D hD => ?_⟩
  refine lcw (boxW b) W hD (walk_list (xs := zs)) (fun i acc S' => Same Sh S' ∧ ∃ cs : List (List Nat × Nat), RpL S' acc (cs.map dPair) ∧ GFs fr k d cs) ⟨Same.refl _, [], .nil, GFs.nil⟩ (by omega) (fun S' H' g W' => SqL.of (W'.sh _ _ (g.ss _ _ how)))
    (fun i x S1 H1 H1' acc hi g1 W1 s1 e1 hI hy put skip => ?_) (fun S1 H1 acc g1 W1 s1 e1 l1 hI => ?_)
  · obtain ⟨e1', hx1⟩ := hy
    subst e1'
    obtain ⟨ss1, cs, rc, hc⟩ := hI
    obtain ⟨p, hp, rp⟩ := row.getm hx1
    obtain ⟨T, rfl, hT⟩ := rp.pair
    have hpo : p ∈ fr.own := List.mem_of_getElem? hp
    refine ⟨T, _, rfl, SqT.of (W1.sh _ _ (ss1 _ _ hT)), rfl, _, _, rfl, _, _, rfl, rfl, rfl, ?_⟩
    refine ⟨_, rfl, _, rfl, rfl, _, rfl, ite2 (fun c1 => ?_) (fun c1 => ?_)⟩
    · have c2 : p.2 = k := by
        have := V.int.inj (dT c1)
        omega
      refine pair_elt (p := (p.1, 0)) (v := vn 0) rfl (fun _ h => h) W1 fun g4 W4 r4 => put g4 W4 ⟨ss1.trans g4.ss, _, r4 _ _ rc, hc.app (GFs.one ⟨List.replicate p.2 0, Takes.own (p := p) hpo, ?_, fun j κ _ h => rep_get h, fun _ => ⟨Nat.zero_le _, fun κ h => rep_all h⟩⟩)⟩
      rw [List.length_replicate]
      show 0 + k = p.2
      omega
    · exact skip (Gr.refl _ _ _) W1 ⟨ss1, cs, rc, hc⟩
  obtain ⟨ss1, cs, rc, hc⟩ := hI
  -- if kind == 1
  refine ⟨fun σ' H' => ∃ (S' : Hp) (Ds : Addr) (ac : List V) (cs : List (List Nat × Nat)) (y9 y10 y11 y12 y13 y14 y15 y16 y17 : Option V), σ' = [some (.ref b), some (.ref fa), some (vn k), some (vn d), some (.ref sg), some (.ref nm), some (.ref pl), some (.ref ow), some (.ref Ds), y9, y10, y11, y12, y13, y14, y15, y16, y17] ∧
      Gr [b] Sh H S' H' ∧ Wd b S' H' ∧ H' Ds = some (.lst ac) ∧ S' Ds = none ∧ H Ds = none ∧ RpL S' ac (cs.map dPair) ∧ GFs fr k d cs ∧ ac.length ≤ 100, ?_, fun σ' H' hM => ?_⟩
  · refine ⟨_, rfl, rfl, _, rfl, ite2 (fun c1 => ?_) (fun c1 => ?_)⟩
    · have hk1 : k = 1 := by
        have := V.int.inj (dT c1)
        omega
      refine ⟨_, rfl, _, rfl, ow, rfl, ⟨_, SqL.of (W1.sh _ _ (g1.ss _ _ how))⟩, fun D2 hD2 => ?_⟩
      refine lcw (boxW b) W1 hD2 (walk_list (xs := zs)) (fun i acc S' => Same S1 S' ∧ ∃ cs : List (List Nat × Nat), RpL S' acc (cs.map dPair) ∧ GFs fr k d cs) ⟨Same.refl _, [], .nil, GFs.nil⟩ (by omega) (fun S' H' g W' => SqL.of (W'.sh _ _ (g.ss _ _ (ss1 _ _ how))))
        (fun i x S2 H2 H2' acc hi g2 W2 s2 e2 hI hy put skip => ?_) (fun S2 H2 acc2 g2 W2 s2 e2 l2 hI => ?_)
      · obtain ⟨e2', hx1⟩ := hy
        subst e2'
        obtain ⟨ss2, cs2, rc2, hc2⟩ := hI
        obtain ⟨p, hp, rp⟩ := row.getm hx1
        obtain ⟨T, rfl, hT⟩ := rp.pair
        have hpo : p ∈ fr.own := List.mem_of_getElem? hp
        refine ⟨T, _, rfl, SqT.of (W2.sh _ _ (ss2 _ _ (ss1 _ _ hT))), rfl, _, _, rfl, _, _, rfl, rfl, rfl, ?_⟩
        refine ⟨_, rfl, rfl, _, rfl, ite2 (fun c1 => ?_) (fun c1 => ?_)⟩
        · have c2 : p.2 = 2 := by
            have := V.int.inj (dT c1)
            omega
          refine pair_elt (p := (p.1, 1)) (v := vn 1) rfl (fun _ h => h) W2 fun g4 W4 r4 => put g4 W4 ⟨ss2.trans g4.ss, _, r4 _ _ rc2, hc2.app (GFs.one ⟨List.replicate p.2 0, Takes.own (p := p) hpo, ?_, fun j κ _ h => rep_get h, fun _ => ⟨Nat.le_refl _, fun κ h => rep_all h⟩⟩)⟩
          rw [List.length_replicate]
          show 1 + k = p.2
          omega
        · exact skip (Gr.refl _ _ _) W2 ⟨ss2, cs2, rc2, hc2⟩
      obtain ⟨ss2, cs2, rc2, hc2⟩ := hI
      have e1' : H2 D = some (.lst acc) := g2.kp _ _ ((boxW b).fresh W hD) e1
      refine ⟨D, D2, _, _, rfl, rfl, e1', e2, sz _ (by omega), fun D3 hD3 => ?_⟩
      have g3 := same_new (o := .lst (acc ++ acc2)) hD3
      refine ⟨S2, D3, acc ++ acc2, cs ++ cs2, _, _, _, _, _, _, _, _, _, rfl, (g1.trans g2).trans (Gr.of_same g3), (boxW b).same W2 g3, upd_same, W2.sh.free hD3, (g1.trans g2).back hD3, ?_, hc.app hc2, by rw [List.length_append]; omega⟩
      rw [List.map_append]
      exact (RpL.mono ss2 _ _ rc).append rc2
    · exact ⟨S1, D, acc, cs, _, _, _, _, _, _, _, _, _, rfl, g1, W1, e1, s1, hD, rc, hc, by omega⟩
  obtain ⟨S2, Ds, ac, cs2, y9, y10, y11, y12, y13, y14, y15, y16, y17, rfl, G2, W2, hDs, sDs, hDsH, r2, hc2, l2⟩ := hM
  have nDs : Ds ∉ [b] := (boxW b).fresh W hDsH
  -- for name, kinds in zip(names, plan)
  refine ⟨fun σ' H' => ∃ (S' : Hp) (ac : List V) (cs : List (List Nat × Nat)) (y9 y10 y11 y12 y13 y14 y15 y16 y17 : Option V), σ' = [some (.ref b), some (.ref fa), some (vn k), some (vn d), some (.ref sg), some (.ref nm), some (.ref pl), some (.ref ow), some (.ref Ds), y9, y10, y11, y12, y13, y14, y15, y16, y17] ∧
      Gr [b] Sh H S' H' ∧ Wd b S' H' ∧ H' Ds = some (.lst ac) ∧ S' Ds = none ∧ RpL S' ac (cs.map dPair) ∧ GFs fr k d cs ∧ ac.length ≤ 200, ?_, fun σ' H' hM => ?_⟩
  · refine ⟨_, rfl, _, rfl, nm, pl, _, _, rfl, .inl ⟨SqL.of (W2.sh _ _ (G2.ss _ _ hnm)), SqL.of (W2.sh _ _ (G2.ss _ _ hpl)), ?_⟩⟩
    refine fori (S := S2) (walk_zip (n := fr.names.length) (by rw [List.length_map, hyl, fo.len, Nat.min_self])) (fun i σ' S' H' => Gr [b] Sh H S' H' ∧ Wd b S' H' ∧ ∃ (ac : List V) (cs : List (List Nat × Nat)) (y9 y10 y11 y12 y13 y14 y15 y16 y17 : Option V), σ' = [some (.ref b), some (.ref fa), some (vn k), some (vn d), some (.ref sg), some (.ref nm), some (.ref pl), some (.ref ow), some (.ref Ds), y9, y10, y11, y12, y13, y14, y15, y16, y17] ∧
        H' Ds = some (.lst ac) ∧ S' Ds = none ∧ RpL S' ac (cs.map dPair) ∧ GFs fr k d cs ∧ ac.length ≤ 100 + i) ?_ (fun S' H' i σ' h => ⟨SqL.of (h.2.1.sh _ _ (h.1.ss _ _ hnm)), SqL.of (h.2.1.sh _ _ (h.1.ss _ _ hpl))⟩)
      (fun i x σ' S3 H3 H3' hi hI hy => ?_) (fun σ' S3 H3 hI => ?_)
    · exact ⟨G2, W2, ac, cs2, _, _, _, _, _, _, _, _, _, rfl, hDs, sDs, r2, hc2, by omega⟩
    · obtain ⟨G3, W3, ac, cs3, y9, y10, y11, y12, y13, y14, y15, y16, y17, rfl, hF, sF, r3, hc3, hal⟩ := hI
      obtain ⟨T, x1, y1, rfl, hT, rfl, hx1, hy1⟩ := hy
      obtain ⟨nn, hnn, rfl⟩ := G48.getm hx1
      obtain ⟨ks, hks, rk⟩ := rpl.getm hy1
      obtain ⟨l, rfl, hl⟩ := rk.kinds
      have gT := same_new (o := .tup [vs_ nn, .ref l]) hT
      have W4 := (boxW b).same W3 gT
      have G4 : Gr [b] Sh H S3 (upd H3 T (.tup [vs_ nn, .ref l])) := G3.trans (Gr.of_same gT)
      have hl4 : S3 l = some (.lst (ks.map vn)) := G3.ss _ _ hl
      have tk : Takes fr nn ks := .inr (.inr ⟨i, hnn, hks⟩)
      have hF4 : (upd H3 T (.tup [vs_ nn, .ref l])) Ds = some (.lst ac) := gT _ _ hF
      have hL := W4.sh _ _ hl4
      have stay : ∀ {H5 : Hp}, Same (upd H3 T (.tup [vs_ nn, .ref l])) H5 → Fi (fun i σ' S' H' => Gr [b] Sh H S' H' ∧ Wd b S' H' ∧ ∃ (ac : List V) (cs : List (List Nat × Nat)) (y9 y10 y11 y12 y13 y14 y15 y16 y17 : Option V), σ' = [some (.ref b), some (.ref fa), some (vn k), some (vn d), some (.ref sg), some (.ref nm), some (.ref pl), some (.ref ow), some (.ref Ds), y9, y10, y11, y12, y13, y14, y15, y16, y17] ∧
        H' Ds = some (.lst ac) ∧ S' Ds = none ∧ RpL S' ac (cs.map dPair) ∧ GFs fr k d cs ∧ ac.length ≤ 100 + i) (i + 1) [some (.ref b), some (.ref fa), some (vn k), some (vn d), some (.ref sg), some (.ref nm), some (.ref pl), some (.ref ow), some (.ref Ds), some (vs_ nn), some (.ref l), y11, y12, y13, y14, y15, y16, y17] H5 := fun {H5} g5 =>
          ⟨S3, G4.trans (Gr.of_same g5), (boxW b).same W4 g5, ac, cs3, _, _, _, _, _, _, _, _, _, rfl, g5 _ _ hF4, sF, r3, hc3, by omega⟩
      refine ⟨T, _, rfl, SqT.of upd_same, rfl, _, _, rfl, _, _, rfl, rfl, ?_⟩
      refine ⟨_, rfl, l, _, rfl, .inl (SqL.of hL), _, rfl, _, _, rfl, rfl, _, rfl, ite2 (fun c1 => ?_) (fun c1 => ?_)⟩
      · have c2 : (k : Int) ≤ ((ks.map vn).length : Int) := dT c1
        rw [List.length_map] at c2
        have hkl : k ≤ ks.length := by omega
        refine ⟨_, rfl, _, rfl, l, _, rfl, .inl (SqL.of hL), _, rfl, _, _, rfl, rfl, _, rfl, l, _, rfl, SqL.of hL, fun p5 hp5 => ?_⟩
        have ecut : cutV (ks.map vn) (some (((ks.map vn).length : Int) - (k : Int))) none = ((ks.drop (ks.length - k)).map fun n => ((n : Nat) : Int)).map V.int := by
          rw [List.length_map, show (ks.length : Int) - (k : Int) = ((ks.length - k : Nat) : Int) by omega, cutV_from _ (by rw [List.length_map]; omega), List.map_map, ← List.map_drop]
          rfl
        have g5 := same_new (o := .lst (cutV (ks.map vn) (some (((ks.map vn).length : Int) - (k : Int))) none)) hp5
        refine ⟨p5, (ks.drop (ks.length - k)).map fun n => ((n : Nat) : Int), rfl, SqL.of ?_, rfl, _, rfl, ite2 (fun c3 => ?_) (fun c3 => ?_)⟩
        · rw [upd_same]
          exact congrArg (fun z => some (HO.lst z)) ecut
        · have c4 := sum_zero (V.int.inj (dT c3))
          refine ⟨_, rfl, _, _, rfl, rfl, _, rfl, ite2 (fun c5 => ?_) (fun c5 => ?_)⟩
          · have c6 : (1 : Int) < (d : Int) := dT c5
            have W5 := (boxW b).same W4 g5
            have G5 := G4.trans (Gr.of_same g5)
            have hF5 := g5 _ _ hF4
            refine ⟨_, rfl, .inl ⟨rfl, _, SqL.of hF5⟩, ?_⟩
            refine pair_elt (b := b) (S1 := S3) (p := (nn, ks.length - k)) (v := vn 0) rfl (fun Q'' hQ => ?_) W5 fun {S6 H6 y} g6 W6 r6 => ?_
            · refine ⟨_, rfl, l, _, rfl, .inl (SqL.of (g5 _ _ hL)), _, rfl, _, _, rfl, rfl, ?_⟩
              refine vq (u := vn (ks.length - k)) ?_ hQ
              show V.int (((ks.map vn).length : Int) - (k : Int)) = _
              rw [List.length_map]
              exact congrArg V.int (by omega)
            · have hF6 : H6 Ds = some (.lst ac) := g6.kp _ _ nDs hF5
              have s6 : S6 Ds = none := g6.nw Ds (some_ne hF5) sF
              refine ⟨Ds, ac, _, rfl, rfl, hF6, szl _ (by omega), ?_⟩
              refine ⟨S6, (G5.trans g6).chg hDsH, (boxW b).chg W6 s6 nDs, ac ++ [y], cs3 ++ [(nn, ks.length - k)], _, _, _, _, _, _, _, _, _, rfl, upd_same, s6, r6 _ _ r3, hc3.app (GFs.one ⟨ks, tk, ?_, fun j κ hj hκ => ?_, fun _ => by omega⟩), ?_⟩
              · show ks.length - k + k = ks.length
                omega
              · refine c4 κ (List.mem_of_getElem? (i := j - (ks.length - k)) ?_)
                rw [List.getElem?_drop]
                have hj' : ks.length - k ≤ j := hj
                rw [show ks.length - k + (j - (ks.length - k)) = j by omega]
                exact hκ
              · rw [List.length_append]
                show ac.length + 1 ≤ _
                omega
          · exact stay g5
        · exact stay g5
      · exact stay (Same.refl _)
    · obtain ⟨G3, W3, ac, cs3, y9, y10, y11, y12, y13, y14, y15, y16, y17, rfl, hF, sF, r3, hc3, hal⟩ := hI
      exact ⟨S3, ac, cs3, _, _, _, _, _, _, _, _, _, rfl, G3, W3, hF, sF, r3, hc3, by omega⟩
  obtain ⟨S3, ac3, cs3, y9, y10, y11, y12, y13, y14, y15, y16, y17, rfl, G3, W3, hF, sF, r3, hc3, hal⟩ := hM
  -- some = some + [.. signs ..]
  refine ⟨_, rfl, _, rfl, sg, rfl, ⟨_, SqL.of (W3.sh _ _ (G3.ss _ _ hsg))⟩, fun D3 hD3 => ?_⟩
  refine lcw (boxW b) W3 hD3 (walk_list (xs := xs)) (fun i acc S' => Same S3 S' ∧ ∃ cs : List (List Nat × Nat), RpL S' acc (cs.map dPair) ∧ GFs fr k d cs ∧ ((∃ j p, j < i ∧ fr.signs[j]? = some p ∧ p.2 = k) → cs ≠ [])) ⟨Same.refl _, [], .nil, GFs.nil, fun ⟨j, p, h, _⟩ => absurd h (Nat.not_lt_zero _)⟩ (by omega) (fun S' H' g W' => SqL.of (W'.sh _ _ (g.ss _ _ (G3.ss _ _ hsg))))
    (fun i x S4 H4 H4' acc hi g4 W4 s4 e4 hI hy put skip => ?_) (fun S4 H4 acc4 g4 W4 s4 e4 l4 hI => ?_)
  · obtain ⟨e4', hx1⟩ := hy
    subst e4'
    obtain ⟨ss4, cs, rc, hc, hne⟩ := hI
    obtain ⟨p, hp, rp⟩ := rsg.getm hx1
    obtain ⟨T, rfl, hT⟩ := rp.pair
    have hpo : p ∈ fr.signs := List.mem_of_getElem? hp
    have hp2 := fo.ar p hpo
    refine ⟨T, _, rfl, SqT.of (W4.sh _ _ (ss4 _ _ (G3.ss _ _ hT))), rfl, _, _, rfl, _, _, rfl, rfl, rfl, ?_⟩
    have nel : (∃ j p', j < i + 1 ∧ fr.signs[j]? = some p' ∧ p'.2 = k) → cs ++ [(p.1, p.2 - k)] ≠ [] := fun _ z => by simp at z
    have no : ¬ (k ≤ p.2 ∧ (1 < d ∨ p.2 = k)) → (∃ j p', j < i + 1 ∧ fr.signs[j]? = some p' ∧ p'.2 = k) → cs ≠ [] := fun hno ⟨j, p', hj, hp', h0⟩ => by
      refine hne ⟨j, p', ?_, hp', h0⟩
      rcases Nat.lt_or_eq_of_le (Nat.le_of_lt_succ hj) with h | h
      · exact h
      · subst h
        rw [hp] at hp'
        have := Option.some.inj hp'
        subst this
        exact absurd ⟨by omega, .inr h0⟩ hno
    have yes : k ≤ p.2 → (1 < d ∨ p.2 = k) → ∀ {Q' : V → Hp → Prop}, (∀ {S5 H5 : Hp} {y : V}, Gr [b] S4 H4' S5 H5 → Wd b S5 H5 → (Same S3 S5 ∧ ∃ cs' : List (List Nat × Nat), RpL S5 (acc ++ [y]) (cs'.map dPair) ∧ GFs fr k d cs' ∧ ((∃ j p', j < i + 1 ∧ fr.signs[j]? = some p' ∧ p'.2 = k) → cs' ≠ [])) → Q' y H5) →
        tTup (tCons (tVar 15) (tCons (tOp (rI0 fun i j => V.int (i - j)) (tVar 16) (tVar 2)) tNil)) (((wipe [some (V.ref b), some (V.ref fa), some (vn k), some (vn d), some (V.ref sg), some (V.ref nm), some (V.ref pl), some (V.ref ow), some (V.ref Ds), y9, y10, y11, y12, y13, y14, y15, y16, y17] [15, 16]).set 15 (some (vs_ p.1))).set 16 (some (vn p.2))) H4' Q' := fun h1 h2 Q' kk => by
      refine pair_elt (b := b) (S1 := S4) (p := (p.1, p.2 - k)) (v := vn 0) rfl (fun Q'' hQ => ⟨_, rfl, _, rfl, _, _, rfl, rfl, vq (u := vn (p.2 - k)) (congrArg V.int (by omega)) hQ⟩) W4 fun g5 W5 r5 => kk g5 W5 ⟨ss4.trans g5.ss, _, r5 _ _ rc, hc.app (GFs.one ⟨List.replicate p.2 0, Takes.sign (p := p) hpo, ?_, fun j κ _ h => rep_get h, fun hd => ⟨?_, fun κ h => rep_all h⟩⟩), nel⟩
      · rw [List.length_replicate]
        show p.2 - k + k = p.2
        omega
      · show p.2 - k ≤ 1
        omega
    refine ⟨_, rfl, _, rfl, _, _, rfl, rfl, _, rfl, ite2 (fun c1 => ?_) (fun c1 => ?_)⟩
    · have c2 : (k : Int) ≤ (p.2 : Int) := dT c1
      refine ⟨_, rfl, _, _, rfl, rfl, _, rfl, ite2 (fun c3 => ?_) (fun c3 => ?_)⟩
      · have c4 : (1 : Int) < (d : Int) := dT c3
        exact yes (by omega) (.inl (by omega)) fun g5 W5 h5 => put g5 W5 h5
      · have c4 : ¬ (1 : Int) < (d : Int) := dF c3
        refine ⟨_, rfl, _, rfl, rfl, _, rfl, ite2 (fun c5 => ?_) (fun c5 => ?_)⟩
        · have c6 : p.2 = k := by
            have := V.int.inj (dT c5)
            omega
          exact yes (by omega) (.inr c6) fun g5 W5 h5 => put g5 W5 h5
        · refine skip (Gr.refl _ _ _) W4 ⟨ss4, cs, rc, hc, no fun ⟨_, h⟩ => ?_⟩
          rcases h with h | h
          · omega
          · exact dF c5 (by rw [h])
    · have c2 : ¬ (k : Int) ≤ (p.2 : Int) := dF c1
      exact skip (Gr.refl _ _ _) W4 ⟨ss4, cs, rc, hc, no fun ⟨h, _⟩ => by omega⟩
  obtain ⟨ss4, cs4, rc4, hc4, hne4⟩ := hI
  have hF4 : H4 Ds = some (.lst ac3) := g4.kp _ _ nDs hF
  refine ⟨Ds, D3, _, _, rfl, rfl, hF4, e4, sz _ (by omega), fun D4 hD4 => ?_⟩
  have gD4 := same_new (o := .lst (ac3 ++ acc4)) hD4
  have W5 := (boxW b).same W4 gD4
  have G5 : Gr [b] Sh H S4 _ := (G3.trans g4).trans (Gr.of_same gD4)
  have ne5 : cs3 ++ cs4 ≠ [] := fun z => by
    obtain ⟨p, hp, h0⟩ := fo.has k k2
    obtain ⟨j, hj⟩ := List.getElem?_of_mem hp
    refine hne4 ⟨j, p, ?_, hj, h0⟩ (List.append_eq_nil_iff.mp z).2
    have := (List.getElem?_eq_some_iff.mp hj).1
    omega
  have r5 : RpL S4 (ac3 ++ acc4) ((cs3 ++ cs4).map dPair) := by
    rw [List.map_append]
    exact (RpL.mono ss4 _ _ r3).append rc4
  have hc5 : GFs fr k d (cs3 ++ cs4) := hc3.app hc4
  generalize cs3 ++ cs4 = cs6 at ne5 r5 hc5
  have nD4b : D4 ≠ b := Ne.symm (ne_nn W4.bs hD4)
  have hl6 : (ac3 ++ acc4).length = cs6.length := by
    have z := r5.len
    rw [List.length_map] at z
    exact z
  have h1 : 1 ≤ cs6.length := by
    cases cs6 with
    | nil => exact absurd rfl ne5
    | cons _ _ => simp
  have h600 : (ac3 ++ acc4).length ≤ 300 := by
    rw [List.length_append]
    omega
  -- head, given = some[take(box, len(some))]
  refine ⟨_, rfl, _, rfl, _, rfl, D4, _, rfl, .inl (SqL.of upd_same), b, S4, _, rfl, W5, by omega, by omega, fun H7 r7 g7 W7 h7 => ?_⟩
  have hr7 : r7 < (ac3 ++ acc4).length := by omega
  obtain ⟨c, hcc, rch⟩ := r5.getm (List.getElem?_eq_getElem hr7)
  obtain ⟨T, eT, hT⟩ := rch.pair
  obtain ⟨ks, tk, hgk, hlack, hd1⟩ := hc5 c (List.mem_of_getElem? hcc)
  refine ⟨D4, _, (r7 : Int), .ref T, rfl, rfl, SqL.of (g7.kp _ _ (fun z => nD4b (List.mem_singleton.mp z)) upd_same), atI_nat (by rw [List.getElem?_eq_getElem hr7, eT]), ?_⟩
  refine ⟨T, _, rfl, SqT.of (W7.sh _ _ hT), rfl, _, _, rfl, _, _, rfl, rfl, ?_⟩
  have G7 : Gr [b] Sh H S4 H7 := G5.trans g7
  obtain ⟨ksm, ks2⟩ := tk.lenK fo
  have hm20 := fo.m3
  -- kinds = [0] * given
  refine ⟨(by show 1 ≤ sizeLine; decide), fun l0 hl0 => ?_⟩
  have gl0 := same_new (o := .lst [vn 0]) hl0
  refine ⟨_, rfl, l0, _, _, rfl, rfl, upd_same, by omega, by omega, ?_, fun l1 hl1 => ?_⟩
  · rw [Int.toNat_natCast]
    exact sz _ (by show 1 * _ ≤ _; omega)
  rw [Int.toNat_natCast, show (List.replicate c.2 [V.int 0]).flatten = (List.replicate c.2 0).map vn from rep0 c.2]
  have gl1 := same_new (o := .lst ((List.replicate c.2 0).map vn)) hl1
  have W8 := (boxW b).same W7 (gl0.trans gl1)
  have G8 : Gr [b] Sh H S4 _ := G7.trans (Gr.of_same (gl0.trans gl1))
  -- if head in names
  refine ⟨fun σ' H' => ∃ (L : Addr) (y9 y13 y14 y15 y16 y17 : Option V), σ' = [some (.ref b), some (.ref fa), some (vn k), some (vn d), some (.ref sg), some (.ref nm), some (.ref pl), some (.ref ow), some (.ref D4), y9, some (.ref L), some (vs_ c.1), some (vn c.2), y13, y14, y15, y16, y17] ∧
      Gr [b] Sh H S4 H' ∧ Wd b S4 H' ∧ H' L = some (.lst ((ks.take c.2).map vn)) ∧ L ≠ b, ?_, fun σ' H' hM => ?_⟩
  · refine ⟨_, rfl, _, rfl, nm, _, rfl, .inl (SqL.of (W8.sh _ _ (G8.ss _ _ hnm))), rfl, flat_vs _, _, rfl, ?_⟩
    refine iteC (inV_vs c.1 fr.names) (fun c1 => ?_) (fun c1 => ?_)
    · have hmem : c.1 ∈ fr.names := of_decide_eq_true c1
      obtain ⟨i, hi⟩ := List.getElem?_of_mem hmem
      have hpi : fr.plan[i]? = some ks := by
        rcases tk with ⟨p, hp, e, _⟩ | ⟨p, hp, e, _⟩ | ⟨j, hj, hpj⟩
        · exact (sign_name (fo.sg p hp) (by rw [e]; exact fo.nm _ hmem)).elim
        · exact (sign_name (fo.og p hp) (by rw [e]; exact fo.nm _ hmem)).elim
        · rw [nd_ix fo.nd hi hj]
          exact hpj
      obtain ⟨v, hv, rv⟩ := rpl.getD (i := i) (d := dKinds ks) (by rw [List.getElem?_map, hpi]; rfl)
      obtain ⟨lk, rfl, hlk⟩ := rv.kinds
      refine ⟨_, rfl, _, rfl, .inl ⟨rfl, _, SqL.of (W8.sh _ _ (G8.ss _ _ hnm))⟩, ?_⟩
      refine ⟨_, rfl, nm, _, vs_ c.1, i, vs_ c.1, rfl, rfl, SqL.of (W8.sh _ _ (G8.ss _ _ hnm)), rfl, flat_vs _, (by rw [List.getElem?_map, hi]; rfl), (by rw [eqV_vs]; exact decide_eq_true rfl), fun m' z' hm' hz' => ?_, ?_⟩
      · obtain ⟨n', hn', rfl⟩ := G48.getm hz'
        rw [eqV_vs]
        refine decide_eq_false fun e => ?_
        subst e
        have := nd_ix fo.nd hn' hi
        omega
      refine ⟨pl, _, (i : Int), .ref lk, rfl, rfl, SqL.of (W8.sh _ _ (G8.ss _ _ hpl)), atI_nat hv, ?_⟩
      refine ⟨_, rfl, (c.2 : Int), rfl, lk, _, rfl, SqL.of (W8.sh _ _ (G8.ss _ _ hlk)), fun L hL => ?_⟩
      have gL := same_new (o := .lst (cutV (ks.map vn) none (some (c.2 : Int)))) hL
      refine ⟨L, _, _, _, _, _, _, rfl, G8.trans (Gr.of_same gL), (boxW b).same W8 gL, ?_, Ne.symm (ne_nn W8.bs hL)⟩
      rw [upd_same, cutV_to, List.map_take]
    · have hmem : c.1 ∉ fr.names := of_decide_eq_false c1
      refine ⟨l1, _, _, _, _, _, _, rfl, G8, W8, ?_, Ne.symm (ne_nn ((boxW b).same W7 gl0).bs hl1)⟩
      rw [upd_same]
      have e : ks.take c.2 = List.replicate c.2 0 := by
        rcases tk with ⟨p, hp, e, ek⟩ | ⟨p, hp, e, ek⟩ | ⟨j, hj, hpj⟩
        · rw [ek, List.take_replicate, Nat.min_eq_left]
          rw [ek, List.length_replicate] at hgk
          omega
        · rw [ek, List.take_replicate, Nat.min_eq_left]
          rw [ek, List.length_replicate] at hgk
          omega
        · exact absurd (List.mem_of_getElem? hj) hmem
      rw [e]
  obtain ⟨L, z9, z13, z14, z15, z16, z17, rfl, G9, W9, hL, nL⟩ := hM
  -- return (head,) + tuple([..])
  refine ⟨_, rfl, (by show 1 ≤ sizeLine; decide), fun T1 hT1 => ?_⟩
  have gT1 := same_new (o := .tup [vs_ c.1]) hT1
  have W10 := (boxW b).new (o := .tup [vs_ c.1]) W9 hT1
  have G10 := G9.new (o := .tup [vs_ c.1]) W9.sh hT1
  have sT1 : S4 T1 = none := W9.sh.free hT1
  have hL10 : (upd H' T1 (.tup [vs_ c.1])) L = some (.lst ((ks.take c.2).map vn)) := gT1 _ _ hL
  refine ⟨_, rfl, L, rfl, ⟨_, SqL.of hL10⟩, fun D9 hD9 => ?_⟩
  have htl : (ks.take c.2).length = c.2 := by
    rw [List.length_take]
    omega
  refine lcw (boxW b) W10 hD9 (walk_list (xs := (ks.take c.2).map vn)) (fun i acc S' => Same (upd S4 T1 (.tup [vs_ c.1])) S' ∧ ∃ ts : List Tm, RpL S' acc (tmsD ts) ∧ ts.length = i ∧ (∀ (j : Nat) (t : Tm) (κ : Nat), ts[j]? = some t → ks[j]? = some κ → HasKind fr t κ) ∧ ∀ t ∈ ts, dpt t ≤ d ∧ szT t ≤ gB m (d - 1)) ⟨Same.refl _, [], .nil, rfl, fun j t κ h => by simp at h, fun _ h => nomatch h⟩ (by rw [List.length_map]; omega) (fun S' H' g W' => SqL.of (g.kp _ _ (fun z => nL (List.mem_singleton.mp z)) hL10))
    (fun i x S11 H11 H11' acc hi g11 W11 s11 e11 hI hy put skip => ?_) (fun S11 H11 acc11 g11 W11 s11 e11 l11 hI => ?_)
  · obtain ⟨e11', hx1⟩ := hy
    subst e11'
    obtain ⟨ss11, ts, rt, hts, hk, hb⟩ := hI
    obtain ⟨κ, hκ', rfl⟩ := G48.getm hx1
    have hκ : ks[i]? = some κ := by
      rw [List.getElem?_take] at hκ'
      split at hκ'
      · exact hκ'
      · cases hκ'
    refine ⟨rfl, ?_⟩
    refine ⟨_, rfl, _, rfl, _, rfl, _, rfl, _, _, rfl, rfl, ?_⟩
    refine ⟨b, S11, fa, fr, m, κ, d - 1, congrArg (fun z => [V.ref b, V.ref fa, vn κ, V.int z]) (show (d : Int) - 1 = ((d - 1 : Nat) : Int) by omega), by omega, W11, Rp.mono ((G10.ss).trans ss11) _ _ rf, fo, ks2 κ (List.mem_of_getElem? hκ), fun hκ0 => ?_, fun S12 H12 v t g12 W12 rv hkt hdt hst => ?_⟩
    · rcases Nat.lt_or_ge 1 d with h | h
      · omega
      · exact absurd ((hd1 h).2 κ (List.mem_of_getElem? hκ)) hκ0
    refine put g12 W12 ⟨ss11.trans g12.ss, ts ++ [t], ?_, by rw [List.length_append]; show _ + 1 = _; omega, fun j t' κ' hj hκ2 => ?_, fun t' ht' => ?_⟩
    · rw [tmsD_append]
      exact (RpL.mono g12.ss _ _ rt).snoc rv
    · rcases Nat.lt_or_ge j ts.length with h | h
      · rw [List.getElem?_append_left h] at hj
        exact hk j t' κ' hj hκ2
      · rw [List.getElem?_append_right h] at hj
        have ej : j = i := by
          have := (List.getElem?_eq_some_iff.mp hj).1
          have : j - ts.length < 1 := this
          omega
        subst ej
        rw [hts, Nat.sub_self] at hj
        have e1 := Option.some.inj hj
        have e2 := Option.some.inj (hκ.symm.trans hκ2)
        rw [← e1, ← e2]
        exact hkt
    · rcases List.mem_append.mp ht' with h | h
      · exact hb t' h
      · rw [List.mem_singleton.mp h]
        exact ⟨by omega, hst⟩
  obtain ⟨ss11, ts, rt, hts, hk, hb⟩ := hI
  rw [List.length_map, htl] at hts
  refine ⟨D9, _, rfl, .inl ⟨SqL.of e11, fun T2 hT2 => ?_⟩⟩
  have gT2 := same_new (o := .tup acc11) hT2
  have hT1' : H11 T1 = some (.tup [vs_ c.1]) := W11.sh _ _ (ss11 _ _ upd_same)
  have hal9 : acc11.length = ts.length := by rw [rt.len, tmsD_len]
  have hkind : HasKind fr (.mk c.1 ts) k := .mk tk (by omega) (fun j κ hj hκ => hlack j κ (by omega) hκ) hk
  have hdp : dpt (.mk c.1 ts) ≤ d + 1 := by
    show dptL ts + 1 ≤ d + 1
    exact Nat.succ_le_succ (dptL_le fun t ht => (hb t ht).1)
  have hsz : szT (.mk c.1 ts) ≤ gB m d := by
    show szL ts + 1 ≤ gB m d
    have h1 := szL_le (ts := ts) fun t ht => (hb t ht).2
    rcases Nat.lt_or_ge 1 d with h | h
    · obtain ⟨d', rfl⟩ : ∃ d', d = d' + 2 := ⟨d - 2, by omega⟩
      show szL ts + 1 ≤ 1 + m * gB m (d' + 1)
      have h2 : ts.length * gB m (d' + 1) ≤ m * gB m (d' + 1) := Nat.mul_le_mul_right _ (by omega)
      have h3 : szL ts ≤ ts.length * gB m (d' + 1) := h1
      omega
    · have hg1 := (hd1 h).1
      obtain rfl : d = 1 := by omega
      show szL ts + 1 ≤ 2
      have h3 : szL ts ≤ ts.length * 1 := h1
      omega
  refine ⟨T1, T2, _, _, rfl, rfl, SqT.of (gT2 _ _ hT1'), SqT.of upd_same, sz _ (by show 1 + _ ≤ _; omega), fun z => (by cases z), fun _ z => ?_, fun _ z p10 hp10 => ?_⟩
  · have ets : ts = [] := List.length_eq_zero_iff.mp (by rw [← hal9, z]; rfl)
    refine q S11 _ (.ref T1) (.mk c.1 ts) ((G10.trans g11).trans (Gr.of_same gT2)) ((boxW b).same W11 gT2) ?_ hkind hdp hsz
    rw [ets]
    exact .tup (ss11 _ _ upd_same) (.cons (.str _) .nil)
  · have W12 := (boxW b).same W11 gT2
    have G12 := (G10.trans g11).trans (Gr.of_same gT2)
    have s12 := W12.sh.free hp10
    refine q _ _ (.ref p10) (.mk c.1 ts) (G12.new W12.sh hp10) ((boxW b).new W12 hp10) (.tup upd_same (.cons (.str _) (RpL.mono (same_new s12) _ _ rt))) hkind hdp hsz
/-- drawn terms, to any depth -/
theorem cal_gen (FT : Dfn K mg "_law_tree" s_law_tree) (FF : Dfn K mg "_law_fun" s_law_fun) (FP : Dfn K mg "_law_part" s_law_part) (B : Bt mg) (c__law_take : Cal P w K mg base 1 "_law_take" sp_law_take) :
    ∀ D, Cal P w K mg base (2 * D + 2) "_law_tree" (sp_law_tree D) ∧ Cal P w K mg base (2 * D + 2) "_law_fun" (sp_law_fun D)
  | 0 => by
    have z : Cal P w K mg base 1 "_law_part" (fun _ _ _ _ => False) := (cal_zero FP (ps := ["_law_box_here", "_law_frame", "_law_kind", "_law_deep"]) (fun _ _ _ _ _ _ us hl => match us, hl with | [_, _, _, _], _ => rfl) (fun _ _ _ _ h => h)).mono (by omega)
    refine ⟨tree_turn FT B (by omega) c__law_take z (fun h => by omega), (cal_zero FF (ps := ["_law_box_here", "_law_frame", "_law_kind", "_law_deep"]) (fun _ _ _ _ _ _ us hl => match us, hl with | [_, _, _, _], _ => rfl) (fun vs H Q E h => ?_)).mono (by omega)⟩
    obtain ⟨b, Sh, fa, fr, m, k, d, rfl, hd, _, _, _, _, _, h1, _⟩ := h
    omega
  | D + 1 => by
    obtain ⟨t, f⟩ := cal_gen FT FF FP B c__law_take D
    have p := cal_law_part FP t f
    exact ⟨tree_turn FT B (by omega) c__law_take p (fun _ _ _ _ _ h => h), fun_turn FF B (by omega) c__law_take p⟩
end

--USES gen2
/-! max([..], default=0) of whole numbers -/
def mxN (l : List Nat) : Nat := l.foldr max 0
theorem mx_fold : ∀ (ys : List Nat) (y : Nat), PySem.W.maxOf (y : Int) (ys.map fun n => ((n : Nat) : Int)) = ((mxN (y :: ys) : Nat) : Int)
  | [], y => by
    show (y : Int) = ((max y 0 : Nat) : Int)
    rw [Nat.max_zero]
  | z :: ys, y => by
    show PySem.W.maxOf (if decide ((y : Int) < (z : Int)) = true then (z : Int) else (y : Int)) (ys.map fun n => ((n : Nat) : Int)) = ((max y (max z (mxN ys)) : Nat) : Int)
    by_cases h : y < z
    · rw [if_pos (decide_eq_true (by omega)), mx_fold ys z]
      show ((max z (mxN ys) : Nat) : Int) = _
      rw [Nat.max_eq_right (show y ≤ max z (mxN ys) by omega)]
    · rw [if_neg (fun c => h (by have := of_decide_eq_true c; omega)), mx_fold ys y]
      show ((max y (mxN ys) : Nat) : Int) = _
      congr 1
      omega
def rMaxN (K : PySem.W.Frag) : List V → List V → Hp → VK → Prop := fun vs zs H Q => ∃ (a : Addr) (ns : List Nat), vs = [V.ref a] ∧ zs = [V.int 0] ∧ SqL K H a (ns.map vn) ∧ Q (vn (mxN ns)) H
theorem cr_maxN {X : Cx} (hc : X.calm = true) (hu : X.A.units + 64 < cLine) : CallRK X (.builtin "max") [Str.ofString "default"] (rMaxN X.K) := by
  intro pins s σ H vs zs us ws Q I r rz h
  obtain ⟨a, ns, rfl, rfl, hs, q⟩ := h
  have hs' : SqL X.K H a ((ns.map fun n => ((n : Nat) : Int)).map V.int) := by
    rw [List.map_map]
    exact hs
  obtain ⟨its, rv, hl, _⟩ := I.list hs'
  rw [Vals.ref1 r]
  obtain ⟨w1, rfl, e1⟩ := vals1 rz
  obtain ⟨t, rfl⟩ := e1
  have hi := rv.ints
  refine PySem.W.max_list_datum_default (α := Int) (xs := ns.map fun n => ((n : Nat) : Int)) (I.ok.hd hc) hl.isList (PySem.W.HoldAll.of_ints hi) (show X.A.units + 1 + 0 < cLine by omega) (fun e h' tk hk => ?_) (fun y ys i v h' tk e hiv hv hk => ?_)
  · have : ns = [] := List.map_eq_nil_iff.mp e
    subst this
    exact ⟨.int 0, H, I.kept hk, ⟨_, rfl⟩, q⟩
  · obtain ⟨t2, rfl⟩ := PySem.W.int_of_holds hv
    cases ns with
    | nil => cases e
    | cons n ns =>
      have e' : ((n : Nat) : Int) :: ns.map (fun n => ((n : Nat) : Int)) = y :: ys := e
      injection e' with e1 e2
      subst e1
      subst e2
      rw [mx_fold]
      exact ⟨vn _, H, I.kept hk, ⟨_, rfl⟩, q⟩
theorem k_maxN {X : Cx} (K : PySem.W.Frag) (h : X.K = K) (hc : X.calm = true) (hu : X.A.units + 64 < cLine) : CallRK X (.builtin "max") [Str.ofString "default"] (rMaxN K) := by subst h; exact cr_maxN hc hu

--USES
/-! list.extend of a tuple; slices and sums of tuples in a world -/
theorem list_extend_tup (l : Addr) (items : Array Value) (n : Nat) (b : Addr) (items2 : Array Value) (n2 : Nat) (dct : Option Addr) (sl : Array (Option Value)) (hs0 : ¬(!items.isEmpty && Builtin.List.listTooLong (items.size + items2.size)) = true) (hs1 : items.size ≤ sizeLine) (hs2 : items.size + items2.size ≤ sizeLine + 1) :
    Meets (Builtin.«list.extend» ⟨[.ref l, .ref b], []⟩) (fun _ R s => s.heap.get? l = some { cls := .type "list", dict := none, data := .seq items n, slots := #[] } ∧ s.heap.get? b = some { cls := .type "tuple", dict := dct, data := .seq items2 n2, slots := sl } ∧ R (.ok (.ret Value.none)) { s with heap := s.heap.update l (Obj.mapSeq fun x => x ++ items2), toks := s.toks }) :=
  .of_wp fun prog w A R s h => by
    obtain ⟨hp, g, d, tk, os⟩ := s; obtain ⟨hl, hb, h⟩ := h; have f1 := AutoSeq1.idx_int; have f2 := AutoSeq1.sub_tuple_tuple; have f3 := AutoSeq1.sub_list_list; have f4 := AutoSeq1.sub_tuple_list; have f5 := AutoSeq1.sub_list_tuple
    have hz' : (items ++ items2).size ≤ sizeLine + 1 := by rw [Array.size_append]; exact hs2
    wp_walk using (wpAny_updateSeq hl rfl (hz := hs1) (_hz' := hz')), AutoSeq1.wpAny_loadPart' hl, AutoSeq1.wpAny_loadPart' hb; exact ⟨_, rfl, h⟩
def rExtendT : V → List V → Hp → VK → Prop := fun x vs H Q => ∃ l b xs zs, x = .ref l ∧ vs = [.ref b] ∧ H l = some (.lst xs) ∧ H b = some (.tup zs) ∧ xs.length + zs.length ≤ sizeLine ∧ Q .non (upd H l (.lst (xs ++ zs)))
theorem mt_extendT {X : Cx} : MtM X "list.extend" rExtendT := by
  intro pins s σ H x vs v us Q I rx rv h
  obtain ⟨l, b, xs, zs, rfl, rfl, hH, hB, hz, q⟩ := h
  cases rx
  obtain ⟨u, rfl, ru⟩ := rv.one
  cases ru
  obtain ⟨z, its, n, r, hl, e⟩ := I.lstM hH
  obtain ⟨its2, r2, ⟨⟨oc, od, dt, osl⟩, e2, hc2, n2, hd2⟩, z2⟩ := I.tuple (SqT.of hB)
  replace hc2 : oc = .type "tuple" := hc2
  replace hd2 : dt = .seq its2.toArray n2 := hd2
  subst hc2 hd2
  have hl2 := r2.length
  have hsz : its.toArray.size + its2.toArray.size ≤ sizeLine := by rw [List.size_toArray, List.size_toArray]; omega
  have hlong : ¬ (!its.toArray.isEmpty && Builtin.List.listTooLong (its.toArray.size + its2.toArray.size)) = true := by
    rw [notLongL hsz, Bool.and_false]
    exact Bool.false_ne_true
  refine call_meets F.slot_list_extend ⟨_, e, rfl⟩ F.entry_list_extend (F.args_list_extend_2 _ _)
    (list_extend_tup l its.toArray n b its2.toArray n2 od osl hlong (by rw [List.size_toArray]; omega) (by omega)) ⟨e, e2, ?_⟩
  refine ⟨.non, _, I.lset (its' := its ++ its2) hH e (by simp) (r.append r2) ?_, rfl, q⟩
  rw [List.length_append]
  omega
theorem cut_full {xs : List V} {lo hi : Option Int} (h : HT.sIx xs.length 0 lo = 0 ∧ HT.sIx xs.length xs.length hi = xs.length) : cutV xs lo hi = xs := by
  unfold cutV
  rw [h.1, h.2, List.drop_zero, Nat.sub_zero]
  exact List.take_length
section
variable {M : List Addr} {Wr : Hp → Hp → Prop} {K : PySem.W.Frag} {Sh H : Hp} {a c : Addr} {xs ys : List V} {Q : VK}
theorem rd_slT (A : Wld M Wr) (W : Wr Sh H) (h : Sh a = some (.tup xs)) (lo hi : Option Int) (k : ∀ {S' H' : Hp} {p : Addr}, Gr M Sh H S' H' → Wr S' H' → S' p = some (.tup (cutV xs lo hi)) → Q (.ref p) H') : rSlA K (.ref a) lo hi H Q := by
  refine ⟨a, xs, rfl, SqT.of (A.sh W _ _ h), fun e => k (Gr.refl _ _ _) W (by rw [cut_full e]; exact h), fun _ p hp => k ((Gr.refl M Sh H).new (A.sh W) hp) (A.new W hp) upd_same⟩
theorem rd_catT (A : Wld M Wr) (W : Wr Sh H) (h : Sh a = some (.tup xs)) (h' : Sh c = some (.tup ys)) (hz : xs.length + ys.length ≤ sizeLine) (k : ∀ {S' H' : Hp} {p : Addr}, Gr M Sh H S' H' → Wr S' H' → S' p = some (.tup (xs ++ ys)) → Q (.ref p) H') : rCatA K (.ref a) (.ref c) H Q := by
  refine ⟨a, c, xs, ys, rfl, rfl, SqT.of (A.sh W _ _ h), SqT.of (A.sh W _ _ h'), hz, fun e => k (Gr.refl _ _ _) W (by rw [e]; exact h'), fun _ e => k (Gr.refl _ _ _) W (by rw [e, List.append_nil]; exact h), fun _ _ p hp => k ((Gr.refl M Sh H).new (A.sh W) hp) (A.new W hp) upd_same⟩
end

--USES is_name extT
mutual
def isT : PyData → Bool
  | .tuple ds => isTH ds
  | _ => false
def isTH : List PyData → Bool
  | .str x :: ds => (isSign x.cps.toList || isName x.cps.toList) && isTL ds
  | _ => false
def isTL : List PyData → Bool
  | [] => true
  | d :: ds => isT d && isTL ds
end
mutual
/-- nodes -/
def ndD : PyData → Nat
  | .tuple ds => ndL ds + 1
  | _ => 1
def ndL : List PyData → Nat
  | [] => 0
  | d :: ds => ndD d + ndL ds
end
mutual
/-- tuples of short texts, numbers, None -/
def plain : PyData → Bool
  | .tuple ds => plainL ds
  | .str x => decide (x.length ≤ 1000) && x.cps.all (· < 0x110000)
  | .int _ => true
  | .none => true
  | _ => false
def plainL : List PyData → Bool
  | [] => true
  | d :: ds => plain d && plainL ds
end
mutual
theorem plain_lay : ∀ d : PyData, plain d = true → d.canLay0 = true
  | .tuple ds, h => plainL_lay ds h
  | .str x, h => (Bool.and_eq_true_iff.mp h).2
  | .int _, _ => rfl
  | .none, _ => rfl
  | .bool _, h => by cases h
  | .list _, h => by cases h
  | .dict _, h => by cases h
theorem plainL_lay : ∀ ds : List PyData, plainL ds = true → PyData.canLayAll0 ds = true
  | [], _ => rfl
  | d :: ds, h => by
    obtain ⟨h1, h2⟩ := Bool.and_eq_true_iff.mp (show (plain d && plainL ds) = true from h)
    show (d.canLay0 && PyData.canLayAll0 ds) = true
    rw [plain_lay d h1, plainL_lay ds h2]
    rfl
end
theorem plainL_app : ∀ {a b : List PyData}, plainL (a ++ b) = (plainL a && plainL b)
  | [], b => rfl
  | d :: a, b => by
    show (plain d && plainL (a ++ b)) = (plain d && plainL a && plainL b)
    rw [plainL_app, Bool.and_assoc]
theorem isTL_app : ∀ {a b : List PyData}, isTL (a ++ b) = (isTL a && isTL b)
  | [], b => rfl
  | d :: a, b => by
    show (isT d && isTL (a ++ b)) = (isT d && isTL a && isTL b)
    rw [isTL_app, Bool.and_assoc]
theorem ndL_app : ∀ {a b : List PyData}, ndL (a ++ b) = ndL a + ndL b
  | [], b => (Nat.zero_add _).symm
  | d :: a, b => by
    show ndD d + ndL (a ++ b) = ndD d + ndL a + ndL b
    rw [ndL_app, Nat.add_assoc]
theorem nd_pos : ∀ d : PyData, 1 ≤ ndD d := fun d => by
  cases d <;> simp [ndD]
theorem len_ndL : ∀ ds : List PyData, ds.length ≤ ndL ds
  | [] => Nat.le_refl _
  | d :: ds => by
    have := len_ndL ds
    have := nd_pos d
    show ds.length + 1 ≤ ndD d + ndL ds
    omega
theorem depthAll_app : ∀ {a b : List PyData}, PyData.depthAll (a ++ b) = max (PyData.depthAll a) (PyData.depthAll b)
  | [], b => by
    show PyData.depthAll b = max 0 _
    omega
  | d :: a, b => by
    show max (PyData.depth d) (PyData.depthAll (a ++ b)) = max (max (PyData.depth d) (PyData.depthAll a)) (PyData.depthAll b)
    rw [depthAll_app]
    omega
theorem RpL.split_last {Sh : Hp} {ds : List PyData} {vs : List V} (h : RpL Sh vs ds) (hne : ds ≠ []) : ∃ vs' v ds' d, vs = vs' ++ [v] ∧ ds = ds' ++ [d] ∧ RpL Sh vs' ds' ∧ Rp Sh v d := by
  induction ds generalizing vs with
  | nil => exact absurd rfl hne
  | cons d ds ih =>
    cases h with
    | cons h1 h2 =>
      cases ds with
      | nil =>
        cases h2
        exact ⟨[], _, [], d, rfl, rfl, .nil, h1⟩
      | cons e es =>
        obtain ⟨vs', v, ds', d', e1, e2, r1, r2⟩ := ih h2 (fun z => by cases z)
        exact ⟨_ :: vs', v, d :: ds', d', by rw [e1]; rfl, by rw [e2]; rfl, .cons h1 r1, r2⟩
structure DOk (d : PyData) : Prop where
  pl : plain d = true
  dp : d.depth ≤ 60
  nd : ndD d ≤ 10000
def sp_is_term : Sp := fun vs H Q _ => ∃ (Sh : Hp) (v : V) (d : PyData), vs = [v] ∧ Same Sh H ∧ Rp Sh v d ∧ DOk d ∧ ∀ H', Same H H' → Q (.bl (isT d)) H'
theorem Rp.tyX {K : PySem.W.Frag} {Sh H : Hp} (sh : Same Sh H) {v : V} {d : PyData} (h : Rp Sh v d) (hp : plain d = true) : ∃ t b, TyX K H v t ∧ PySem.W.kitOne K t (.type "tuple") = some b ∧ (b = true ↔ ∃ ds, d = .tuple ds) := by
  cases h with
  | non => exact ⟨_, false, .base .non, kit_ty (by decide +kernel), by simp⟩
  | bl b => cases hp
  | int i => exact ⟨_, false, .base (.int _), kit_ty (by decide +kernel), by simp⟩
  | str x => exact ⟨_, false, .base (.str _), kit_ty (by decide +kernel), by simp⟩
  | lst h1 h2 => cases hp
  | tup h1 h2 => exact ⟨_, true, .base (.tup (sh _ _ h1)), kit_ty (by decide +kernel), by simp⟩
theorem Rp.tyS {K : PySem.W.Frag} {Sh H : Hp} (sh : Same Sh H) {v : V} {d : PyData} (h : Rp Sh v d) (hp : plain d = true) : ∃ t b, TyX K H v t ∧ PySem.W.kitOne K t (.type "str") = some b ∧ (b = true ↔ ∃ x, d = .str x) := by
  cases h with
  | non => exact ⟨_, false, .base .non, kit_ty (by decide +kernel), by simp⟩
  | bl b => cases hp
  | int i => exact ⟨_, false, .base (.int _), kit_ty (by decide +kernel), by simp⟩
  | str x => exact ⟨_, true, .base (.str _), kit_ty (by decide +kernel), by simp⟩
  | lst h1 h2 => cases hp
  | tup h1 h2 => exact ⟨_, false, .base (.tup (sh _ _ h1)), kit_ty (by decide +kernel), by simp⟩
theorem sIx1 {n : Nat} (h : 1 ≤ n) : ¬ (HT.sIx n 0 (some 1) = 0 ∧ HT.sIx n n none = n) := fun z => by
  have := z.1
  rw [show HT.sIx n 0 (some 1) = min 1 n from HT.sIx_nat n 0 1] at this
  omega
theorem cutV1 (xs : List V) : cutV xs (some 1) none = xs.drop 1 := by
  unfold cutV
  rw [show HT.sIx xs.length 0 (some 1) = min 1 xs.length from HT.sIx_nat xs.length 0 1, HT.sIx_none]
  cases xs with
  | nil => rfl
  | cons x r =>
    rw [show min 1 (x :: r).length = 1 by
      rw [List.length_cons]
      omega]
    show (List.take ((x :: r).length - 1) r) = r
    rw [List.length_cons, Nat.add_sub_cancel]
    exact List.take_length

--USES gen3f maxD is_term
/-! depth, size and heads of a term -/
mutual
def hdsT : Tm → List (List Nat)
  | .mk h as => hdsL [h] as
def hdsL : List (List Nat) → List Tm → List (List Nat)
  | acc, [] => acc
  | acc, t :: ts => hdsL (acc ++ (hdsT t).filter (fun h => !decide (h ∈ acc))) ts
end
mutual
theorem hdsT_len : ∀ t : Tm, (hdsT t).length ≤ szT t
  | .mk h as => by
    have := hdsL_len as [h]
    show (hdsL [h] as).length ≤ szL as + 1
    have e : [h].length = 1 := rfl
    omega
theorem hdsL_len : ∀ (ts : List Tm) (acc : List (List Nat)), (hdsL acc ts).length ≤ acc.length + szL ts
  | [], acc => Nat.le_add_right _ _
  | t :: ts, acc => by
    have h1 := hdsT_len t
    have h2 := hdsL_len ts (acc ++ (hdsT t).filter (fun h => !decide (h ∈ acc)))
    rw [List.length_append] at h2
    have h3 := List.length_filter_le (fun h => !decide (h ∈ acc)) (hdsT t)
    show (hdsL (acc ++ (hdsT t).filter (fun h => !decide (h ∈ acc))) ts).length ≤ acc.length + (szT t + szL ts)
    omega
end
theorem hdsL_snoc : ∀ (ts : List Tm) (acc : List (List Nat)) (t : Tm), hdsL acc (ts ++ [t]) = hdsL acc ts ++ (hdsT t).filter (fun h => !decide (h ∈ hdsL acc ts))
  | [], acc, t => rfl
  | u :: ts, acc, t => hdsL_snoc ts (acc ++ (hdsT u).filter (fun h => !decide (h ∈ acc))) t
theorem tms_getm : ∀ {ts : List Tm} {i : Nat} {d : PyData}, (tmsD ts)[i]? = some d → ∃ t, ts[i]? = some t ∧ d = tmD t
  | [], i, d, h => by
    change ([] : List PyData)[i]? = some d at h
    simp at h
  | t :: ts, 0, d, h => ⟨t, rfl, (Option.some.inj h).symm⟩
  | t :: ts, i + 1, d, h => tms_getm (ts := ts) (i := i) h
theorem dptL_get : ∀ {ts : List Tm} {i : Nat} {t : Tm}, ts[i]? = some t → dpt t ≤ dptL ts
  | [], i, t, h => by simp at h
  | a :: ts, 0, t, h => by
    have := Option.some.inj h
    subst this
    show dpt a ≤ max (dpt a) (dptL ts)
    omega
  | a :: ts, i + 1, t, h => by
    have := dptL_get (ts := ts) (i := i) h
    show dpt t ≤ max (dpt a) (dptL ts)
    omega
theorem szL_get : ∀ {ts : List Tm} {i : Nat} {t : Tm}, ts[i]? = some t → szT t ≤ szL ts
  | [], i, t, h => by simp at h
  | a :: ts, 0, t, h => by
    have := Option.some.inj h
    subst this
    show szT a ≤ szT a + szL ts
    omega
  | a :: ts, i + 1, t, h => by
    have := szL_get (ts := ts) (i := i) h
    show szT t ≤ szT a + szL ts
    omega
theorem szL_take : ∀ (ts : List Tm) (i : Nat), szL (ts.take i) ≤ szL ts
  | [], i => by rw [List.take_nil]; exact Nat.le_refl _
  | t :: ts, 0 => Nat.zero_le _
  | t :: ts, i + 1 => by
    have := szL_take ts i
    show szT t + szL (ts.take i) ≤ szT t + szL ts
    omega
theorem len_szL : ∀ ts : List Tm, ts.length ≤ szL ts
  | [] => Nat.le_refl _
  | t :: ts => by
    have := len_szL ts
    have : 1 ≤ szT t := by
      cases t
      show 1 ≤ szL _ + 1
      omega
    show ts.length + 1 ≤ szT t + szL ts
    omega
theorem sum_szL : ∀ ts : List Tm, ((ts.map fun t => ((szT t : Nat) : Int)).sum) = ((szL ts : Nat) : Int)
  | [] => rfl
  | t :: ts => by
    show (((szT t : Nat) : Int) :: ts.map fun t => ((szT t : Nat) : Int)).sum = ((szT t + szL ts : Nat) : Int)
    rw [List.sum_cons, sum_szL ts]
    omega
theorem mx_dptL : ∀ ts : List Tm, mxN (ts.map dpt) = dptL ts
  | [] => rfl
  | t :: ts => by
    show max (dpt t) (mxN (ts.map dpt)) = max (dpt t) (dptL ts)
    rw [mx_dptL ts]
theorem Rp.term {Sh : Hp} {v : V} {h : List Nat} {as : List Tm} (r : Rp Sh v (tmD (.mk h as))) : ∃ a xs, v = .ref a ∧ Sh a = some (.tup (vs_ h :: xs)) ∧ RpL Sh xs (tmsD as) := by
  cases r with
  | tup ha ra =>
    cases ra with
    | cons r1 r2 =>
      cases r1
      exact ⟨_, _, rfl, ha, r2⟩
def sp_size (n : Nat) : Sp := fun vs H Q _ => ∃ (Sh : Hp) (v : V) (t : Tm), vs = [v] ∧ Same Sh H ∧ Rp Sh v (tmD t) ∧ dpt t ≤ n ∧ szT t ≤ 10000 ∧ ∀ H', Same H H' → Q (vn (szT t)) H'
def sp_depth (n : Nat) : Sp := fun vs H Q _ => ∃ (Sh : Hp) (v : V) (t : Tm), vs = [v] ∧ Same Sh H ∧ Rp Sh v (tmD t) ∧ dpt t ≤ n ∧ szT t ≤ 10000 ∧ ∀ H', Same H H' → Q (vn (dpt t)) H'
def sp_heads (n : Nat) : Sp := fun vs H Q _ => ∃ (Sh : Hp) (v : V) (t : Tm), vs = [v] ∧ Same Sh H ∧ Rp Sh v (tmD t) ∧ dpt t ≤ n ∧ szT t ≤ 10000 ∧ ∀ (H' : Hp) (p : Addr), Same H H' → H p = none → H' p = some (.lst ((hdsT t).map vs_)) → Q (.ref p) H'
abbrev s_term_size : Stmt := topS 2
abbrev N_term_size : List Str := ["term", "part"]
theorem sc_term_size : FnScope N_term_size ["term"] (defScope s_term_size) := ⟨rfl, rfl, rfl, by decide +kernel, rfl, by decide +kernel, by decide +kernel⟩

section
variable {P : Program} {w : World} {K : PySem.W.Frag} {mg : Str → Option Value} {base : Heap}
theorem turn_term_size {n : Nat} (F : Dfn K mg "term_size" s_term_size) (B : Bt mg) (c_term_size : Cal P w K mg base n "term_size" (sp_size n)) : Cal P w K mg base (n + 1) "term_size" (sp_size (n + 1)) := by
  refine cal_of F sc_term_size (fun _ _ _ _ _ _ us hl => match us, hl with | [_], _ => rfl) (fun vs H Q E h => ?_) (fun f cdv A outer s H vs Q E hr h => ?_)
  · obtain ⟨Sh, v, d, rfl, _⟩ := h
    rfl
  obtain ⟨Sh, v, t, rfl, sh, rp, hd, hsz, q⟩ := h
  refine ⟨_, (pss_one (ps_ret (pe_op op_add pe_int (pe_callB (k_sum K rfl rfl) (by rfl) B.sum (by decide +kernel) (pa_cons (pe_lc (own := [("part", 1)]) (g := gName 1) (tt := tYes) rfl sc_term_size.nd (pi_tup (pe_slice (k_sl_tupA K rfl) (pv 0) (po_some pe_int) po_none)) (blkOk_by (own := [("part", 1)]) (N := N_term_size) (sc := defScope s_term_size) (by decide +kernel)) (fun _ _ _ _ _ => (pg_name (i := 1) sc_term_size.nd rfl (by first | exact .inl rfl | exact .inr rfl))) (fun _ _ _ _ _ => pts_nil) (fun _ _ _ _ _ => (pe_cc c_term_size hr (by omega) (by rfl) (pa_cons (pv 1) pa_nil)))) pa_nil))))), ?_⟩
  cases t with
  | mk h as =>
  obtain ⟨a1, xs1, rfl, ha1, rxs⟩ := rp.term
  have hA1 := sh _ _ ha1
  have hd' : dptL as + 1 ≤ n + 1 := hd
  have hs' : szL as + 1 ≤ 10000 := hsz
  have hxs : xs1.length = as.length := by rw [rxs.len, tmsD_len]
  have hle := len_szL as
  refine ⟨_, rfl, 1, rfl, a1, _, rfl, SqT.of hA1, fun z => absurd z (sIx1 (by simp)), fun _ p6 hp6 => ?_⟩
  have g6 := same_new (o := .tup (cutV (vs_ h :: xs1) (some 1) none)) hp6
  have e6 : (upd H p6 (.tup (cutV (vs_ h :: xs1) (some 1) none))) p6 = some (.tup xs1) := by rw [upd_same, cutV1]; rfl
  refine ⟨p6, rfl, ⟨_, SqT.of e6⟩, fun D hD => ?_⟩
  refine lcw pureW (Same.refl _) hD (walk_tup (xs := xs1)) (fun i acc _ => acc = (as.take i).map fun t => vn (szT t)) rfl (by omega) (fun S' H'' g _ => SqT.of (g.same _ _ e6))
    (fun i x S7 H7 H7' acc hi g7 W7 s7 e7 hI hy put skip => ?_) (fun S7 H7 acc g7 W7 s7 e7 l7 hI => ?_)
  · obtain ⟨e7', hx⟩ := hy
    subst e7'
    obtain ⟨e, he, re⟩ := rxs.get hx
    obtain ⟨t, ht, rfl⟩ := tms_getm he
    have h2 := dptL_get ht
    have h3 := szL_get ht
    refine ⟨rfl, ?_⟩
    refine ⟨_, rfl, Sh, x, t, rfl, (sh.trans g6).trans g7.same, re, by omega, by omega, fun H8 g8 => ?_⟩
    refine put (Gr.of_same g8) (W7.trans g8) ?_
    rw [hI, map_take_succ ht]
  · refine ⟨D, as.map (fun t => ((szT t : Nat) : Int)), rfl, SqL.of ?_, ?_⟩
    · rw [e7, hI, List.take_of_length_le (by omega), List.map_map]
      rfl
    · refine ⟨_, _, rfl, rfl, ?_⟩
      rw [sum_szL]
      refine vq ?_ (q _ (g6.trans g7.same))
      show V.int (1 + ((szL as : Nat) : Int)) = V.int ((szL as + 1 : Nat) : Int)
      congr 1
      omega
theorem cal_term_size (F : Dfn K mg "term_size" s_term_size) (B : Bt mg) : ∀ n, Cal P w K mg base n "term_size" (sp_size n)
  | 0 => cal_zero F (ps := ["term"]) (fun _ _ _ _ _ _ us hl => match us, hl with | [_], _ => rfl) (fun vs H Q E h => by
    obtain ⟨Sh, v, t, rfl, _, _, h, _⟩ := h
    cases t
    exact absurd (show dptL _ + 1 ≤ 0 from h) (by omega))
  | n + 1 => turn_term_size F B (cal_term_size F B n)
end
abbrev s_law_size : Stmt := topS 18
abbrev N_law_size : List Str := ["_law_term", "_law_part_here"]
theorem sc_law_size : FnScope N_law_size ["_law_term"] (defScope s_law_size) := ⟨rfl, rfl, rfl, by decide +kernel, rfl, by decide +kernel, by decide +kernel⟩

section
variable {P : Program} {w : World} {K : PySem.W.Frag} {mg : Str → Option Value} {base : Heap}
theorem turn_law_size {n : Nat} (F : Dfn K mg "_law_size" s_law_size) (B : Bt mg) (c__law_size : Cal P w K mg base n "_law_size" (sp_size n)) : Cal P w K mg base (n + 1) "_law_size" (sp_size (n + 1)) := by
  refine cal_of F sc_law_size (fun _ _ _ _ _ _ us hl => match us, hl with | [_], _ => rfl) (fun vs H Q E h => ?_) (fun f cdv A outer s H vs Q E hr h => ?_)
  · obtain ⟨Sh, v, d, rfl, _⟩ := h
    rfl
  obtain ⟨Sh, v, t, rfl, sh, rp, hd, hsz, q⟩ := h
  refine ⟨_, (pss_one (ps_ret (pe_op op_add pe_int (pe_callB (k_sum K rfl rfl) (by rfl) B.sum (by decide +kernel) (pa_cons (pe_lc (own := [("_law_part_here", 1)]) (g := gName 1) (tt := tYes) rfl sc_law_size.nd (pi_tup (pe_slice (k_sl_tupA K rfl) (pv 0) (po_some pe_int) po_none)) (blkOk_by (own := [("_law_part_here", 1)]) (N := N_law_size) (sc := defScope s_law_size) (by decide +kernel)) (fun _ _ _ _ _ => (pg_name (i := 1) sc_law_size.nd rfl (by first | exact .inl rfl | exact .inr rfl))) (fun _ _ _ _ _ => pts_nil) (fun _ _ _ _ _ => (pe_cc c__law_size hr (by omega) (by rfl) (pa_cons (pv 1) pa_nil)))) pa_nil))))), ?_⟩
  cases t with
  | mk h as =>
  obtain ⟨a1, xs1, rfl, ha1, rxs⟩ := rp.term
  have hA1 := sh _ _ ha1
  have hd' : dptL as + 1 ≤ n + 1 := hd
  have hs' : szL as + 1 ≤ 10000 := hsz
  have hxs : xs1.length = as.length := by rw [rxs.len, tmsD_len]
  have hle := len_szL as
  refine ⟨_, rfl, 1, rfl, a1, _, rfl, SqT.of hA1, fun z => absurd z (sIx1 (by simp)), fun _ p6 hp6 => ?_⟩
  have g6 := same_new (o := .tup (cutV (vs_ h :: xs1) (some 1) none)) hp6
  have e6 : (upd H p6 (.tup (cutV (vs_ h :: xs1) (some 1) none))) p6 = some (.tup xs1) := by rw [upd_same, cutV1]; rfl
  refine ⟨p6, rfl, ⟨_, SqT.of e6⟩, fun D hD => ?_⟩
  refine lcw pureW (Same.refl _) hD (walk_tup (xs := xs1)) (fun i acc _ => acc = (as.take i).map fun t => vn (szT t)) rfl (by omega) (fun S' H'' g _ => SqT.of (g.same _ _ e6))
    (fun i x S7 H7 H7' acc hi g7 W7 s7 e7 hI hy put skip => ?_) (fun S7 H7 acc g7 W7 s7 e7 l7 hI => ?_)
  · obtain ⟨e7', hx⟩ := hy
    subst e7'
    obtain ⟨e, he, re⟩ := rxs.get hx
    obtain ⟨t, ht, rfl⟩ := tms_getm he
    have h2 := dptL_get ht
    have h3 := szL_get ht
    refine ⟨rfl, ?_⟩
    refine ⟨_, rfl, Sh, x, t, rfl, (sh.trans g6).trans g7.same, re, by omega, by omega, fun H8 g8 => ?_⟩
    refine put (Gr.of_same g8) (W7.trans g8) ?_
    rw [hI, map_take_succ ht]
  · refine ⟨D, as.map (fun t => ((szT t : Nat) : Int)), rfl, SqL.of ?_, ?_⟩
    · rw [e7, hI, List.take_of_length_le (by omega), List.map_map]
      rfl
    · refine ⟨_, _, rfl, rfl, ?_⟩
      rw [sum_szL]
      refine vq ?_ (q _ (g6.trans g7.same))
      show V.int (1 + ((szL as : Nat) : Int)) = V.int ((szL as + 1 : Nat) : Int)
      congr 1
      omega
theorem cal_law_size (F : Dfn K mg "_law_size" s_law_size) (B : Bt mg) : ∀ n, Cal P w K mg base n "_law_size" (sp_size n)
  | 0 => cal_zero F (ps := ["_law_term"]) (fun _ _ _ _ _ _ us hl => match us, hl with | [_], _ => rfl) (fun vs H Q E h => by
    obtain ⟨Sh, v, t, rfl, _, _, h, _⟩ := h
    cases t
    exact absurd (show dptL _ + 1 ≤ 0 from h) (by omega))
  | n + 1 => turn_law_size F B (cal_law_size F B n)
end

abbrev s_term_depth : Stmt := topS 1
abbrev N_term_depth : List Str := ["term", "part"]
theorem sc_term_depth : FnScope N_term_depth ["term"] (defScope s_term_depth) := ⟨rfl, rfl, rfl, by decide +kernel, rfl, by decide +kernel, by decide +kernel⟩

section
variable {P : Program} {w : World} {K : PySem.W.Frag} {mg : Str → Option Value} {base : Heap}
theorem turn_term_depth {n : Nat} (F : Dfn K mg "term_depth" s_term_depth) (B : Bt mg) (c_term_depth : Cal P w K mg base n "term_depth" (sp_depth n)) : Cal P w K mg base (n + 1) "term_depth" (sp_depth (n + 1)) := by
  refine cal_of F sc_term_depth (fun _ _ _ _ _ _ us hl => match us, hl with | [_], _ => rfl) (fun vs H Q E h => ?_) (fun f cdv A outer s H vs Q E hr h => ?_)
  · obtain ⟨Sh, v, d, rfl, _⟩ := h
    rfl
  obtain ⟨Sh, v, t, rfl, sh, rp, hd, hsz, q⟩ := h
  refine ⟨_, (pss_one (ps_ret (pe_op op_add pe_int (pe_callBK (k_maxN K rfl rfl hr.units) (by rfl) B.max (by decide +kernel) (pa_cons (pe_lc (own := [("part", 1)]) (g := gName 1) (tt := tYes) rfl sc_term_depth.nd (pi_tup (pe_slice (k_sl_tupA K rfl) (pv 0) (po_some pe_int) po_none)) (blkOk_by (own := [("part", 1)]) (N := N_term_depth) (sc := defScope s_term_depth) (by decide +kernel)) (fun _ _ _ _ _ => (pg_name (i := 1) sc_term_depth.nd rfl (by first | exact .inl rfl | exact .inr rfl))) (fun _ _ _ _ _ => pts_nil) (fun _ _ _ _ _ => (pe_cc c_term_depth hr (by omega) (by rfl) (pa_cons (pv 1) pa_nil)))) pa_nil) (pk_cons pe_int pk_nil))))), ?_⟩
  cases t with
  | mk h as =>
  obtain ⟨a1, xs1, rfl, ha1, rxs⟩ := rp.term
  have hA1 := sh _ _ ha1
  have hd' : dptL as + 1 ≤ n + 1 := hd
  have hs' : szL as + 1 ≤ 10000 := hsz
  have hxs : xs1.length = as.length := by rw [rxs.len, tmsD_len]
  have hle := len_szL as
  refine ⟨_, rfl, 1, rfl, a1, _, rfl, SqT.of hA1, fun z => absurd z (sIx1 (by simp)), fun _ p6 hp6 => ?_⟩
  have g6 := same_new (o := .tup (cutV (vs_ h :: xs1) (some 1) none)) hp6
  have e6 : (upd H p6 (.tup (cutV (vs_ h :: xs1) (some 1) none))) p6 = some (.tup xs1) := by rw [upd_same, cutV1]; rfl
  refine ⟨p6, rfl, ⟨_, SqT.of e6⟩, fun D hD => ?_⟩
  refine lcw pureW (Same.refl _) hD (walk_tup (xs := xs1)) (fun i acc _ => acc = (as.take i).map fun t => vn (dpt t)) rfl (by omega) (fun S' H'' g _ => SqT.of (g.same _ _ e6))
    (fun i x S7 H7 H7' acc hi g7 W7 s7 e7 hI hy put skip => ?_) (fun S7 H7 acc g7 W7 s7 e7 l7 hI => ?_)
  · obtain ⟨e7', hx⟩ := hy
    subst e7'
    obtain ⟨e, he, re⟩ := rxs.get hx
    obtain ⟨t, ht, rfl⟩ := tms_getm he
    have h2 := dptL_get ht
    have h3 := szL_get ht
    refine ⟨rfl, ?_⟩
    refine ⟨_, rfl, Sh, x, t, rfl, (sh.trans g6).trans g7.same, re, by omega, by omega, fun H8 g8 => ?_⟩
    refine put (Gr.of_same g8) (W7.trans g8) ?_
    rw [hI, map_take_succ ht]
  · refine ⟨D, as.map dpt, rfl, rfl, SqL.of ?_, ?_⟩
    · rw [e7, hI, List.take_of_length_le (by omega), List.map_map]
      rfl
    · refine ⟨_, _, rfl, rfl, ?_⟩
      rw [mx_dptL]
      refine vq ?_ (q _ (g6.trans g7.same))
      show V.int (1 + ((dptL as : Nat) : Int)) = V.int ((dptL as + 1 : Nat) : Int)
      congr 1
      omega
theorem cal_term_depth (F : Dfn K mg "term_depth" s_term_depth) (B : Bt mg) : ∀ n, Cal P w K mg base n "term_depth" (sp_depth n)
  | 0 => cal_zero F (ps := ["term"]) (fun _ _ _ _ _ _ us hl => match us, hl with | [_], _ => rfl) (fun vs H Q E h => by
    obtain ⟨Sh, v, t, rfl, _, _, h, _⟩ := h
    cases t
    exact absurd (show dptL _ + 1 ≤ 0 from h) (by omega))
  | n + 1 => turn_term_depth F B (cal_term_depth F B n)
end
abbrev s_law_depth : Stmt := topS 19
abbrev N_law_depth : List Str := ["_law_term", "_law_part_here"]
theorem sc_law_depth : FnScope N_law_depth ["_law_term"] (defScope s_law_depth) := ⟨rfl, rfl, rfl, by decide +kernel, rfl, by decide +kernel, by decide +kernel⟩

section
variable {P : Program} {w : World} {K : PySem.W.Frag} {mg : Str → Option Value} {base : Heap}
theorem turn_law_depth {n : Nat} (F : Dfn K mg "_law_depth" s_law_depth) (B : Bt mg) (c__law_depth : Cal P w K mg base n "_law_depth" (sp_depth n)) : Cal P w K mg base (n + 1) "_law_depth" (sp_depth (n + 1)) := by
  refine cal_of F sc_law_depth (fun _ _ _ _ _ _ us hl => match us, hl with | [_], _ => rfl) (fun vs H Q E h => ?_) (fun f cdv A outer s H vs Q E hr h => ?_)
  · obtain ⟨Sh, v, d, rfl, _⟩ := h
    rfl
  obtain ⟨Sh, v, t, rfl, sh, rp, hd, hsz, q⟩ := h
  refine ⟨_, (pss_one (ps_ret (pe_op op_add pe_int (pe_callBK (k_maxN K rfl rfl hr.units) (by rfl) B.max (by decide +kernel) (pa_cons (pe_lc (own := [("_law_part_here", 1)]) (g := gName 1) (tt := tYes) rfl sc_law_depth.nd (pi_tup (pe_slice (k_sl_tupA K rfl) (pv 0) (po_some pe_int) po_none)) (blkOk_by (own := [("_law_part_here", 1)]) (N := N_law_depth) (sc := defScope s_law_depth) (by decide +kernel)) (fun _ _ _ _ _ => (pg_name (i := 1) sc_law_depth.nd rfl (by first | exact .inl rfl | exact .inr rfl))) (fun _ _ _ _ _ => pts_nil) (fun _ _ _ _ _ => (pe_cc c__law_depth hr (by omega) (by rfl) (pa_cons (pv 1) pa_nil)))) pa_nil) (pk_cons pe_int pk_nil))))), ?_⟩
  cases t with
  | mk h as =>
  obtain ⟨a1, xs1, rfl, ha1, rxs⟩ := rp.term
  have hA1 := sh _ _ ha1
  have hd' : dptL as + 1 ≤ n + 1 := hd
  have hs' : szL as + 1 ≤ 10000 := hsz
  have hxs : xs1.length = as.length := by rw [rxs.len, tmsD_len]
  have hle := len_szL as
  refine ⟨_, rfl, 1, rfl, a1, _, rfl, SqT.of hA1, fun z => absurd z (sIx1 (by simp)), fun _ p6 hp6 => ?_⟩
  have g6 := same_new (o := .tup (cutV (vs_ h :: xs1) (some 1) none)) hp6
  have e6 : (upd H p6 (.tup (cutV (vs_ h :: xs1) (some 1) none))) p6 = some (.tup xs1) := by rw [upd_same, cutV1]; rfl
  refine ⟨p6, rfl, ⟨_, SqT.of e6⟩, fun D hD => ?_⟩
  refine lcw pureW (Same.refl _) hD (walk_tup (xs := xs1)) (fun i acc _ => acc = (as.take i).map fun t => vn (dpt t)) rfl (by omega) (fun S' H'' g _ => SqT.of (g.same _ _ e6))
    (fun i x S7 H7 H7' acc hi g7 W7 s7 e7 hI hy put skip => ?_) (fun S7 H7 acc g7 W7 s7 e7 l7 hI => ?_)
  · obtain ⟨e7', hx⟩ := hy
    subst e7'
    obtain ⟨e, he, re⟩ := rxs.get hx
    obtain ⟨t, ht, rfl⟩ := tms_getm he
    have h2 := dptL_get ht
    have h3 := szL_get ht
    refine ⟨rfl, ?_⟩
    refine ⟨_, rfl, Sh, x, t, rfl, (sh.trans g6).trans g7.same, re, by omega, by omega, fun H8 g8 => ?_⟩
    refine put (Gr.of_same g8) (W7.trans g8) ?_
    rw [hI, map_take_succ ht]
  · refine ⟨D, as.map dpt, rfl, rfl, SqL.of ?_, ?_⟩
    · rw [e7, hI, List.take_of_length_le (by omega), List.map_map]
      rfl
    · refine ⟨_, _, rfl, rfl, ?_⟩
      rw [mx_dptL]
      refine vq ?_ (q _ (g6.trans g7.same))
      show V.int (1 + ((dptL as : Nat) : Int)) = V.int ((dptL as + 1 : Nat) : Int)
      congr 1
      omega
theorem cal_law_depth (F : Dfn K mg "_law_depth" s_law_depth) (B : Bt mg) : ∀ n, Cal P w K mg base n "_law_depth" (sp_depth n)
  | 0 => cal_zero F (ps := ["_law_term"]) (fun _ _ _ _ _ _ us hl => match us, hl with | [_], _ => rfl) (fun vs H Q E h => by
    obtain ⟨Sh, v, t, rfl, _, _, h, _⟩ := h
    cases t
    exact absurd (show dptL _ + 1 ≤ 0 from h) (by omega))
  | n + 1 => turn_law_depth F B (cal_law_depth F B n)
end


--USES sizes03
/-- [head for head in heads if head not in found] -/
theorem filt_take {l acc : List (List Nat)} {i : Nat} {c : List Nat} (h : l[i]? = some c) : (l.take (i + 1)).filter (fun h => !decide (h ∈ acc)) = (l.take i).filter (fun h => !decide (h ∈ acc)) ++ (if decide (c ∈ acc) = true then [] else [c]) := by
  have hi := (List.getElem?_eq_some_iff.mp h).1
  rw [List.take_succ, h, List.filter_append]
  congr 1
  by_cases hc : c ∈ acc <;> simp [hc]
abbrev s_term_heads : Stmt := topS 3
abbrev N_term_heads : List Str := ["term", "found", "part", "head"]
theorem sc_term_heads : FnScope N_term_heads ["term"] (defScope s_term_heads) := ⟨rfl, rfl, rfl, by decide +kernel, rfl, by decide +kernel, by decide +kernel⟩

abbrev s_law_heads : Stmt := topS 20
abbrev N_law_heads : List Str := ["_law_term", "_law_found", "_law_part_here", "_law_head"]
theorem sc_law_heads : FnScope N_law_heads ["_law_term"] (defScope s_law_heads) := ⟨rfl, rfl, rfl, by decide +kernel, rfl, by decide +kernel, by decide +kernel⟩

section
variable {P : Program} {w : World} {K : PySem.W.Frag} {mg : Str → Option Value} {base : Heap}
theorem turn_term_heads {n : Nat} (F : Dfn K mg "term_heads" s_term_heads) (B : Bt mg) (c_term_heads : Cal P w K mg base n "term_heads" (sp_heads n)) : Cal P w K mg base (n + 1) "term_heads" (sp_heads (n + 1)) := by
  refine cal_of F sc_term_heads (fun _ _ _ _ _ _ us hl => match us, hl with | [_], _ => rfl) (fun vs H Q E h => ?_) (fun f cdv A outer s H vs Q E hr h => ?_)
  · obtain ⟨Sh, v, d, rfl, _⟩ := h
    rfl
  obtain ⟨Sh, v, t, rfl, sh, rp, hd, hsz, q⟩ := h
  refine ⟨_, (pss_cons (ps_set (i := 1) sc_term_heads.nd rfl (by first | exact .inl rfl | exact .inr rfl) (pe_lst (pa_cons (pe_ix (k_ix_tup K rfl) (pv 0) pe_int (fun _ _ => rfl)) pa_nil)))
      (pss_cons (ps_for PassesOwn.never rfl (pi_tup (pe_slice (k_sl_tupA K rfl) (pv 0) (po_some pe_int) po_none)) (pg_name (i := 2) sc_term_heads.nd rfl (by first | exact .inl rfl | exact .inr rfl)) (pss_one (ps_expr (pe_bm PySem.F.plainAttrs_list PySem.F.slot_list_extend PySem.F.type_list_extend mt_extend (pv 1) (pa_cons (pe_lc (own := [("head", 3)]) (g := gName 3) rfl sc_term_heads.nd (pi_list (pe_cc c_term_heads hr (by omega) (by rfl) (pa_cons (pv 2) pa_nil))) (blkOk_by (own := [("head", 3)]) (N := N_term_heads) (sc := defScope s_term_heads) (by decide +kernel)) (fun _ _ _ _ _ => (pg_name (i := 3) sc_term_heads.nd rfl (by first | exact .inl rfl | exact .inr rfl))) (fun _ _ _ _ _ => (pts_one (pt_cmpR (k_op_notIn_seq K rfl) (pv 3) (pv 1) (by rfl)))) (fun _ _ _ _ _ => (pv 3))) pa_nil)))))
      (pss_one (ps_ret (pv 1))))), ?_⟩
  cases t with
  | mk h as =>
  obtain ⟨a1, xs1, rfl, ha1, rxs⟩ := rp.term
  have hA1 := sh _ _ ha1
  have hd' : dptL as + 1 ≤ n + 1 := hd
  have hs' : szL as + 1 ≤ 10000 := hsz
  have hxs : xs1.length = as.length := by rw [rxs.len, tmsD_len]
  have hle := len_szL as
  refine ⟨_, rfl, a1, _, 0, vs_ h, rfl, rfl, SqT.of hA1, atI_nat (j := 0) rfl, (by show 1 ≤ sizeLine; decide), fun Fd hFd => ?_⟩
  have g1 := same_new (o := .lst [vs_ h]) hFd
  refine ⟨_, rfl, 1, rfl, a1, _, rfl, SqT.of (g1 _ _ hA1), fun z => absurd z (sIx1 (by simp)), fun _ p6 hp6 => ?_⟩
  have g6 := same_new (o := .tup (cutV (vs_ h :: xs1) (some 1) none)) hp6
  have e6 : (upd (upd H Fd (.lst [vs_ h])) p6 (.tup (cutV (vs_ h :: xs1) (some 1) none))) p6 = some (.tup xs1) := by rw [upd_same, cutV1]; rfl
  have hF6 := g6 _ _ (show upd H Fd (.lst [vs_ h]) Fd = some (.lst [vs_ h]) from upd_same)
  have nFp : p6 ≠ Fd := fun z => by
    rw [z] at hp6
    rw [upd_same] at hp6
    cases hp6
  refine ⟨p6, rfl, ⟨_, SqT.of e6⟩, ?_⟩
  refine fori (S := Sh) (walk_tup (xs := xs1)) (fun i σ' _ H' => ∃ y3 y4, σ' = [some (.ref a1), some (.ref Fd), y3, y4] ∧ Same H H' ∧ H' p6 = some (.tup xs1) ∧ H' Fd = some (.lst ((hdsL [h] (as.take i)).map vs_))) ⟨_, _, rfl, g1.trans g6, e6, hF6⟩ (fun _ _ _ _ hI => ?_)
    (fun i x σ' S2 H2 H2' hi hI hy => ?_) (fun σ' S2 H2 hI => ?_)
  · obtain ⟨_, _, _, _, z, _⟩ := hI
    exact SqT.of z
  · obtain ⟨y3, y4, rfl, gs, hp, hF⟩ := hI
    obtain ⟨e2, hx⟩ := hy
    subst e2
    obtain ⟨e, he, re⟩ := rxs.get hx
    obtain ⟨t, ht, rfl⟩ := tms_getm he
    have h2 := dptL_get ht
    have h3 := szL_get ht
    have h4 := hdsT_len t
    have h5 := hdsL_len (as.take i) [h]
    have h6 : szL (as.take i) ≤ szL as := szL_take as i
    have e1 : [h].length = 1 := rfl
    refine ⟨_, rfl, .inl ⟨rfl, _, SqL.of hF⟩, ?_⟩
    refine ⟨_, rfl, Sh, x, t, rfl, sh.trans gs, re, by omega, by omega, fun H3 p3 g3 n3 hp3 => ?_⟩
    have hF3 := g3 _ _ hF
    refine ⟨p3, rfl, ⟨_, SqL.of hp3⟩, fun D hD => ?_⟩
    refine lcw pureW (Same.refl H3) hD (walk_list (xs := (hdsT t).map vs_)) (fun i' acc _ => acc = (((hdsT t).take i').filter (fun z => !decide (z ∈ hdsL [h] (as.take i)))).map vs_) rfl (by rw [List.length_map]; omega) (fun S' H'' g _ => SqL.of (g.same _ _ hp3))
      (fun i' x' S7 H7 H7' acc hi' g7 W7 s7 e7 hI' hy' put skip => ?_) (fun S7 H7 acc g7 W7 s7 e7 l7 hI' => ?_)
    · obtain ⟨e7', hx'⟩ := hy'
      subst e7'
      rw [List.getElem?_map] at hx'
      obtain ⟨c, hc, rfl⟩ := Option.map_eq_some_iff.mp hx'
      refine ⟨rfl, ?_⟩
      refine ⟨_, rfl, _, rfl, Fd, _, rfl, .inl (SqL.of (g7.same _ _ hF3)), rfl, flat_vs _, _, rfl, ?_⟩
      refine iteC (c := !decide (c ∈ hdsL [h] (as.take i))) (congrArg (!·) (inV_vs c _)) (fun c1 => ?_) (fun c1 => ?_)
      · refine ⟨_, rfl, put (Gr.refl _ _ _) W7 ?_⟩
        rw [filt_take hc, hI', List.map_append, if_neg (by intro z; rw [z] at c1; cases c1)]
        rfl
      · refine skip (Gr.refl _ _ _) W7 ?_
        rw [filt_take hc, hI', if_pos (by cases z : decide (c ∈ hdsL [h] (as.take i)) with | true => rfl | false => rw [z] at c1; cases c1), List.append_nil]
    · rw [List.length_map, List.take_of_length_le (Nat.le_refl _)] at hI'
      have hl7 : acc.length ≤ (hdsT t).length := by
        rw [hI', List.length_map]
        exact List.length_filter_le _ _
      refine ⟨Fd, D, _, acc, rfl, rfl, g7.same _ _ hF3, e7, sz _ (by rw [List.length_map]; omega), ?_⟩
      have gA := gs.trans (g3.trans g7.same)
      refine ⟨Sh, _, _, rfl, ?_, ?_, ?_⟩
      · exact Gr.same ((Gr.of_same (M := []) (S := Sh) gA).chg hFd)
      · rw [upd_ne nFp]
        exact g7.same _ _ (g3 _ _ hp)
      · rw [upd_same, hI', ← List.map_append]
        have et : as.take (i + 1) = as.take i ++ [t] := by rw [List.take_succ, ht]; rfl
        rw [et, hdsL_snoc]
  · obtain ⟨y3, y4, rfl, gs, hp, hF⟩ := hI
    refine ⟨_, rfl, q _ Fd gs hFd ?_⟩
    rw [hF, List.take_of_length_le (by omega)]
    rfl
theorem cal_term_heads (F : Dfn K mg "term_heads" s_term_heads) (B : Bt mg) : ∀ n, Cal P w K mg base n "term_heads" (sp_heads n)
  | 0 => cal_zero F (ps := ["term"]) (fun _ _ _ _ _ _ us hl => match us, hl with | [_], _ => rfl) (fun vs H Q E h => by
    obtain ⟨Sh, v, t, rfl, _, _, h, _⟩ := h
    cases t
    exact absurd (show dptL _ + 1 ≤ 0 from h) (by omega))
  | n + 1 => turn_term_heads F B (cal_term_heads F B n)
theorem turn_law_heads {n : Nat} (F : Dfn K mg "_law_heads" s_law_heads) (B : Bt mg) (c__law_heads : Cal P w K mg base n "_law_heads" (sp_heads n)) : Cal P w K mg base (n + 1) "_law_heads" (sp_heads (n + 1)) := by
  refine cal_of F sc_law_heads (fun _ _ _ _ _ _ us hl => match us, hl with | [_], _ => rfl) (fun vs H Q E h => ?_) (fun f cdv A outer s H vs Q E hr h => ?_)
  · obtain ⟨Sh, v, d, rfl, _⟩ := h
    rfl
  obtain ⟨Sh, v, t, rfl, sh, rp, hd, hsz, q⟩ := h
  refine ⟨_, (pss_cons (ps_set (i := 1) sc_law_heads.nd rfl (by first | exact .inl rfl | exact .inr rfl) (pe_lst (pa_cons (pe_ix (k_ix_tup K rfl) (pv 0) pe_int (fun _ _ => rfl)) pa_nil)))
      (pss_cons (ps_for PassesOwn.never rfl (pi_tup (pe_slice (k_sl_tupA K rfl) (pv 0) (po_some pe_int) po_none)) (pg_name (i := 2) sc_law_heads.nd rfl (by first | exact .inl rfl | exact .inr rfl)) (pss_one (ps_set (i := 1) sc_law_heads.nd rfl (by first | exact .inl rfl | exact .inr rfl) (pe_op op_cat (pv 1) (pe_lc (own := [("_law_head", 3)]) (g := gName 3) rfl sc_law_heads.nd (pi_list (pe_cc c__law_heads hr (by omega) (by rfl) (pa_cons (pv 2) pa_nil))) (blkOk_by (own := [("_law_head", 3)]) (N := N_law_heads) (sc := defScope s_law_heads) (by decide +kernel)) (fun _ _ _ _ _ => (pg_name (i := 3) sc_law_heads.nd rfl (by first | exact .inl rfl | exact .inr rfl))) (fun _ _ _ _ _ => (pts_one (pt_cmpR (k_op_notIn_seq K rfl) (pv 3) (pv 1) (by rfl)))) (fun _ _ _ _ _ => (pv 3)))))))
      (pss_one (ps_ret (pv 1))))), ?_⟩
  cases t with
  | mk h as =>
  obtain ⟨a1, xs1, rfl, ha1, rxs⟩ := rp.term
  have hA1 := sh _ _ ha1
  have hd' : dptL as + 1 ≤ n + 1 := hd
  have hs' : szL as + 1 ≤ 10000 := hsz
  have hxs : xs1.length = as.length := by rw [rxs.len, tmsD_len]
  have hle := len_szL as
  refine ⟨_, rfl, a1, _, 0, vs_ h, rfl, rfl, SqT.of hA1, atI_nat (j := 0) rfl, (by show 1 ≤ sizeLine; decide), fun Fd hFd => ?_⟩
  have g1 := same_new (o := .lst [vs_ h]) hFd
  refine ⟨_, rfl, 1, rfl, a1, _, rfl, SqT.of (g1 _ _ hA1), fun z => absurd z (sIx1 (by simp)), fun _ p6 hp6 => ?_⟩
  have g6 := same_new (o := .tup (cutV (vs_ h :: xs1) (some 1) none)) hp6
  have e6 : (upd (upd H Fd (.lst [vs_ h])) p6 (.tup (cutV (vs_ h :: xs1) (some 1) none))) p6 = some (.tup xs1) := by rw [upd_same, cutV1]; rfl
  have hF6 := g6 _ _ (show upd H Fd (.lst [vs_ h]) Fd = some (.lst [vs_ h]) from upd_same)
  refine ⟨p6, rfl, ⟨_, SqT.of e6⟩, ?_⟩
  refine fori (S := Sh) (walk_tup (xs := xs1)) (fun i σ' _ H' => ∃ Fd y3 y4, σ' = [some (.ref a1), some (.ref Fd), y3, y4] ∧ Same H H' ∧ H Fd = none ∧ H' p6 = some (.tup xs1) ∧ H' Fd = some (.lst ((hdsL [h] (as.take i)).map vs_))) ⟨Fd, _, _, rfl, g1.trans g6, hFd, e6, hF6⟩ (fun _ _ _ _ hI => ?_)
    (fun i x σ' S2 H2 H2' hi hI hy => ?_) (fun σ' S2 H2 hI => ?_)
  · obtain ⟨_, _, _, _, _, _, z, _⟩ := hI
    exact SqT.of z
  · obtain ⟨Fd, y3, y4, rfl, gs, hFd, hp, hF⟩ := hI
    obtain ⟨e2, hx⟩ := hy
    subst e2
    obtain ⟨e, he, re⟩ := rxs.get hx
    obtain ⟨t, ht, rfl⟩ := tms_getm he
    have h2 := dptL_get ht
    have h3 := szL_get ht
    have h4 := hdsT_len t
    have h5 := hdsL_len (as.take i) [h]
    have h6 : szL (as.take i) ≤ szL as := szL_take as i
    have e1 : [h].length = 1 := rfl
    refine ⟨_, rfl, ?_⟩
    refine ⟨_, rfl, Sh, x, t, rfl, sh.trans gs, re, by omega, by omega, fun H3 p3 g3 n3 hp3 => ?_⟩
    have hF3 := g3 _ _ hF
    refine ⟨p3, rfl, ⟨_, SqL.of hp3⟩, fun D hD => ?_⟩
    refine lcw pureW (Same.refl H3) hD (walk_list (xs := (hdsT t).map vs_)) (fun i' acc _ => acc = (((hdsT t).take i').filter (fun z => !decide (z ∈ hdsL [h] (as.take i)))).map vs_) rfl (by rw [List.length_map]; omega) (fun S' H'' g _ => SqL.of (g.same _ _ hp3))
      (fun i' x' S7 H7 H7' acc hi' g7 W7 s7 e7 hI' hy' put skip => ?_) (fun S7 H7 acc g7 W7 s7 e7 l7 hI' => ?_)
    · obtain ⟨e7', hx'⟩ := hy'
      subst e7'
      rw [List.getElem?_map] at hx'
      obtain ⟨c, hc, rfl⟩ := Option.map_eq_some_iff.mp hx'
      refine ⟨rfl, ?_⟩
      refine ⟨_, rfl, _, rfl, Fd, _, rfl, .inl (SqL.of (g7.same _ _ hF3)), rfl, flat_vs _, _, rfl, ?_⟩
      refine iteC (c := !decide (c ∈ hdsL [h] (as.take i))) (congrArg (!·) (inV_vs c _)) (fun c1 => ?_) (fun c1 => ?_)
      · refine ⟨_, rfl, put (Gr.refl _ _ _) W7 ?_⟩
        rw [filt_take hc, hI', List.map_append, if_neg (by intro z; rw [z] at c1; cases c1)]
        rfl
      · refine skip (Gr.refl _ _ _) W7 ?_
        rw [filt_take hc, hI', if_pos (by cases z : decide (c ∈ hdsL [h] (as.take i)) with | true => rfl | false => rw [z] at c1; cases c1), List.append_nil]
    · rw [List.length_map, List.take_of_length_le (Nat.le_refl _)] at hI'
      have hl7 : acc.length ≤ (hdsT t).length := by
        rw [hI', List.length_map]
        exact List.length_filter_le _ _
      refine ⟨Fd, D, _, acc, rfl, rfl, g7.same _ _ hF3, e7, sz _ (by rw [List.length_map]; omega), fun F2 hF2 => ?_⟩
      have gA := gs.trans (g3.trans g7.same)
      have g8 := same_new (o := .lst ((hdsL [h] (as.take i)).map vs_ ++ acc)) hF2
      refine ⟨Sh, F2, _, _, rfl, gA.trans g8, gA.free hF2, g8 _ _ (g7.same _ _ (g3 _ _ hp)), ?_⟩
      rw [upd_same, hI', ← List.map_append]
      have et : as.take (i + 1) = as.take i ++ [t] := by rw [List.take_succ, ht]; rfl
      rw [et, hdsL_snoc]
  · obtain ⟨Fd, y3, y4, rfl, gs, hFd, hp, hF⟩ := hI
    refine ⟨_, rfl, q _ Fd gs hFd ?_⟩
    rw [hF, List.take_of_length_le (by omega)]
    rfl
theorem cal_law_heads (F : Dfn K mg "_law_heads" s_law_heads) (B : Bt mg) : ∀ n, Cal P w K mg base n "_law_heads" (sp_heads n)
  | 0 => cal_zero F (ps := ["_law_term"]) (fun _ _ _ _ _ _ us hl => match us, hl with | [_], _ => rfl) (fun vs H Q E h => by
    obtain ⟨Sh, v, t, rfl, _, _, h, _⟩ := h
    cases t
    exact absurd (show dptL _ + 1 ≤ 0 from h) (by omega))
  | n + 1 => turn_law_heads F B (cal_law_heads F B n)
end

--USES gen3f
abbrev s_law_program : Stmt := topS 17
abbrev N_law_program : List Str := ["_law_box_here", "_law_many", "_law_wide", "_law_size_here", "_law_words_here", "_law_signs", "_law_own", "_law_names_here", "_law_plan_here", "_law_found", "_law_name", "_law_kinds", "_law_used", "_law_body", "_law_k"]
theorem sc_law_program : FnScope N_law_program ["_law_box_here", "_law_many", "_law_wide"] (defScope s_law_program) := ⟨rfl, rfl, rfl, by decide +kernel, rfl, by decide +kernel, by decide +kernel⟩

/-- a drawn program: its signs, its parameters' words, its rows: names, kinds, bodies -/
structure Prg where
  signs : List (List Nat × Nat)
  own : List (List Nat)
  rows : List (List Nat × List Nat × Tm)
def Prg.fr (p : Prg) (ks : List Nat) : Fr := ⟨p.signs, p.rows.map (·.1), p.rows.map (·.2.1), p.own.zip ks⟩
def rowD (own : List (List Nat)) (r : List Nat × List Nat × Tm) : PyData := .tuple [dS r.1, .tuple ((own.take r.2.1.length).map dS), tmD r.2.2]
def prgD (p : Prg) : PyData := .tuple [dPairs p.signs, .list (p.rows.map (rowD p.own))]
structure PrgOk (many wide : Nat) (p : Prg) : Prop where
  sl : 3 ≤ p.signs.length ∧ p.signs.length ≤ 5
  has : ∀ k, k ≤ 2 → ∃ q ∈ p.signs, q.2 = k
  ar : ∀ q ∈ p.signs, q.2 ≤ 3
  wnd : (p.signs.map (·.1) ++ p.own).Nodup
  wok : ∀ l ∈ p.signs.map (·.1) ++ p.own, isSign l = true
  ol : p.own.length = wide
  rl : p.rows.length = many
  nnd : (p.rows.map (·.1)).Nodup
  nok : ∀ r ∈ p.rows, isName r.1 = true
  first : ∃ r, p.rows[0]? = some r ∧ r.2.1 = []
  kds : ∀ r ∈ p.rows, r.2.1.length ≤ wide ∧ ∀ k ∈ r.2.1, k ≤ 2
  bod : ∀ r ∈ p.rows, HasKind (p.fr r.2.1) r.2.2 0 ∧ dpt r.2.2 ≤ 4 ∧ szT r.2.2 ≤ gB (max 3 wide) 3
def sp_law_program : Sp := fun vs H Q _ => ∃ (b : Addr) (Sh : Hp) (many wide : Nat), vs = [.ref b, vn many, vn wide] ∧ Wd b Sh H ∧ 1 ≤ many ∧ many ≤ 26 ∧ wide ≤ 20 ∧
  ∀ (S' H' : Hp) (a : Addr) (p : Prg), Gr [b] Sh H S' H' → Wd b S' H' → Rp S' (.ref a) (prgD p) → PrgOk many wide p → Q (.ref a) H'
theorem gB_mono {m : Nat} (h : 3 ≤ m) : gB m 1 ≤ gB m 3 ∧ gB m 2 ≤ gB m 3 := by
  have e2 : gB m 2 = 1 + m * 2 := rfl
  have e3 : gB m 3 = 1 + m * gB m 2 := rfl
  have h1 : 1 * gB m 2 ≤ m * gB m 2 := Nat.mul_le_mul_right _ (by omega)
  have e1 : gB m 1 = 2 := rfl
  omega
theorem gB_le3 {m d : Nat} (h : 3 ≤ m) (h1 : 1 ≤ d) (h3 : d ≤ 3) : gB m d ≤ gB m 3 := by
  obtain rfl | rfl | rfl : d = 1 ∨ d = 2 ∨ d = 3 := by omega
  · exact (gB_mono h).1
  · exact (gB_mono h).2
  · exact Nat.le_refl _
theorem Rp.len1 {Sh : Hp} {v : V} {t : Tm} (h : Rp Sh v (tmD t)) : ∃ a xs, v = .ref a ∧ Sh a = some (.tup xs) ∧ 1 ≤ xs.length := by
  obtain ⟨hd, as⟩ := t
  unfold tmD at h
  cases h with
  | tup ha r =>
    cases r with
    | cons r1 r2 => exact ⟨_, _, rfl, ha, by simp⟩
/-- the rows so far -/
structure RowsOk (signs : List (List Nat × Nat)) (own : List (List Nat)) (names : List (List Nat)) (plan : List (List Nat)) (wide i : Nat) (rows : List (List Nat × List Nat × Tm)) : Prop where
  nm : rows.map (·.1) = names.take i
  pl : rows.map (·.2.1) = plan.take i
  bod : ∀ r ∈ rows, HasKind ⟨signs, names, plan, own.zip r.2.1⟩ r.2.2 0 ∧ dpt r.2.2 ≤ 4 ∧ szT r.2.2 ≤ gB (max 3 wide) 3
section
variable {P : Program} {w : World} {K : PySem.W.Frag} {mg : Str → Option Value} {base : Heap}
theorem cal_law_program (F : Dfn K mg "_law_program" s_law_program) (B : Bt mg) (c__law_take : Cal P w K mg base 1 "_law_take" sp_law_take) (c__law_words : Cal P w K mg base 4 "_law_words" sp_law_words) (c__law_names : Cal P w K mg base 4 "_law_names" sp_law_names)
    (c__law_signature : Cal P w K mg base 2 "_law_signature" sp_law_signature) (c__law_plan : Cal P w K mg base 2 "_law_plan" sp_law_plan) (c__law_tree : Cal P w K mg base 8 "_law_tree" (sp_law_tree 3)) : Cal P w K mg base 9 "_law_program" sp_law_program := by
  refine cal_of F sc_law_program (fun _ _ _ _ _ _ us hl => match us, hl with | [_, _, _], _ => rfl) (fun vs H Q E h => ?_) (fun f cdv A outer s H vs Q E hr h => ?_)
  · obtain ⟨b, Sh, many, wide, rfl, _⟩ := h
    rfl
  obtain ⟨b, Sh, many, wide, rfl, W, hm1, hm26, hw20, q⟩ := h
  refine ⟨_, (pss_cons (ps_set (i := 3) sc_law_program.nd rfl (by first | exact .inl rfl | exact .inr rfl) (pe_op op_add pe_int (pe_cc c__law_take hr (by omega) (by rfl) (pa_cons (pv 0) (pa_cons pe_int pa_nil)))))
      (pss_cons (ps_set (i := 4) sc_law_program.nd rfl (by first | exact .inl rfl | exact .inr rfl) (pe_cc c__law_words hr (by omega) (by rfl) (pa_cons (pv 0) (pa_cons (pe_op op_add (pv 3) (pv 2)) pa_nil))))
      (pss_cons (ps_asg (pe_tup (pa_cons (pe_cc c__law_signature hr (by omega) (by rfl) (pa_cons (pv 0) (pa_cons (pe_slice (k_sl_list K rfl) (pv 4) po_none (po_some (pv 3))) pa_nil))) (pa_cons (pe_slice (k_sl_list K rfl) (pv 4) (po_some (pv 3)) po_none) pa_nil))) (pg_tup rfl (pgs_cons (pg_name (i := 5) sc_law_program.nd rfl (by first | exact .inl rfl | exact .inr rfl)) (pgs_cons (pg_name (i := 6) sc_law_program.nd rfl (by first | exact .inl rfl | exact .inr rfl)) pgs_nil))))
      (pss_cons (ps_par (i := 7) (j := 8) rfl sc_law_program.nd rfl rfl (by decide) rfl rfl (pa_cons (pe_cc c__law_names hr (by omega) (by rfl) (pa_cons (pv 0) (pa_cons (pv 1) pa_nil))) (pa_cons (pe_cc c__law_plan hr (by omega) (by rfl) (pa_cons (pv 0) (pa_cons (pv 1) (pa_cons (pv 2) pa_nil)))) pa_nil)) (by rfl))
      (pss_cons (ps_set (i := 9) sc_law_program.nd rfl (by first | exact .inl rfl | exact .inr rfl) (pe_lst pa_nil))
      (pss_cons (ps_for PassesOwn.never rfl (RZ.pi_zipA (by rfl) B.zip (pa_cons (pv 7) (pa_cons (pv 8) pa_nil))) (pg_tup rfl (pgs_cons (pg_name (i := 10) sc_law_program.nd rfl (by first | exact .inl rfl | exact .inr rfl)) (pgs_cons (pg_name (i := 11) sc_law_program.nd rfl (by first | exact .inl rfl | exact .inr rfl)) pgs_nil))) (pss_cons (ps_setLc (i := 12) (own := [("_law_k", 14)]) (g := gName 14) (tt := tYes) rfl sc_law_program.nd rfl rfl (sw_true rfl rfl rfl (by decide +kernel)) (pi_range1 (by rfl) B.range (pa_cons (pe_callB (k_len_seq K rfl) (by rfl) B.len PySem.boot_len (pa_cons (pv 11) pa_nil)) pa_nil)) (blkOk_by (own := [("_law_k", 14)]) (N := N_law_program) (sc := defScope s_law_program) (by decide +kernel)) (fun _ _ _ _ _ => (pg_name (i := 14) sc_law_program.nd rfl (by first | exact .inl rfl | exact .inr rfl))) (fun _ _ _ _ _ => pts_nil) (fun _ _ _ _ _ => (pe_tup (pa_cons (pe_ix (k_ix_list K rfl) (pv 6) (pv 14) (fun _ _ => rfl)) (pa_cons (pe_ix (k_ix_list K rfl) (pv 11) (pv 14) (fun _ _ => rfl)) pa_nil)))))
      (pss_cons (ps_set (i := 13) sc_law_program.nd rfl (by first | exact .inl rfl | exact .inr rfl) (pe_cc c__law_tree hr (by omega) (by rfl) (pa_cons (pv 0) (pa_cons (pe_tup (pa_cons (pv 5) (pa_cons (pv 7) (pa_cons (pv 8) (pa_cons (pv 12) pa_nil))))) (pa_cons (pe_op op_add pe_int (pe_cc c__law_take hr (by omega) (by rfl) (pa_cons (pv 0) (pa_cons pe_int pa_nil)))) pa_nil)))))
      (C8.pss_cut (ps_if (PW.pt (pw_and (pt_cmpR op_eq (pv 10) (pe_ix (k_ix_list K rfl) (pv 7) pe_int (fun _ _ => rfl)) (nomark _)) (pw_and1 (pt_cmpR op_eq (pe_callB (k_len_seq K rfl) (by rfl) B.len PySem.boot_len (pa_cons (pv 13) pa_nil)) pe_int (nomark _))))) (pss_one (ps_set (i := 13) sc_law_program.nd rfl (by first | exact .inl rfl | exact .inr rfl) (pe_cc c__law_tree hr (by omega) (by rfl) (pa_cons (pv 0) (pa_cons (pe_tup (pa_cons (pv 5) (pa_cons (pv 7) (pa_cons (pv 8) (pa_cons (pv 12) pa_nil))))) (pa_cons pe_int pa_nil)))))) pss_nil)
      (pss_one (ps_expr (pe_bm PySem.F.plainAttrs_list PySem.F.slot_list_append PySem.F.type_list_append mt_append (pv 9) (pa_cons (pe_tup (pa_cons (pv 10) (pa_cons (pe_callTy (k_tuple_of K rfl) (by rfl) B.tuple (by decide +kernel) (pa_cons (pe_slice (k_sl_list K rfl) (pv 6) po_none (po_some (pe_callB (k_len_seq K rfl) (by rfl) B.len PySem.boot_len (pa_cons (pv 11) pa_nil)))) pa_nil)) (pa_cons (pv 13) pa_nil)))) pa_nil))))))))
      (pss_one (ps_ret (pe_tup (pa_cons (pv 5) (pa_cons (pv 9) pa_nil))))))))))), ?_⟩
  -- size, words
  refine ⟨_, rfl, b, Sh, 3, rfl, W, by decide, by decide, fun H1 r1 g1 W1 h1 => ?_⟩
  refine ⟨_, _, rfl, rfl, ?_⟩
  have esz : V.int (3 + (r1 : Int)) = vn (3 + r1) := congrArg V.int (by omega)
  have hsz5 : 3 + r1 ≤ 5 := by omega
  refine ⟨_, rfl, _, rfl, _, rfl, _, _, rfl, rfl, b, Sh, 3 + r1 + wide, congrArg (fun z => [V.ref b, V.int z]) (by show (3 : Int) + (r1 : Int) + (wide : Int) = _; omega), W1, by omega, fun S2 H2 pw ws g2 W2 hpw _ hwl hwnd hwok => ?_⟩
  generalize hS : 3 + r1 = size at esz hsz5 hwl
  have hsz3 : 3 ≤ size := by omega
  have G2 : Gr [b] Sh H S2 H2 := g1.trans g2
  have hpwH := W2.sh _ _ hpw
  -- signs, own
  refine ⟨_, rfl, _, rfl, _, rfl, (3 + (r1 : Int)), rfl, pw, _, rfl, SqL.of hpwH, fun p3 hp3 => ?_⟩
  have e3 : cutV (ws.map vs_) none (some (3 + (r1 : Int))) = (ws.take size).map vs_ := by
    rw [show (3 : Int) + (r1 : Int) = ((size : Nat) : Int) by omega, cutV_to, List.map_take]
  have W3 : Wd b (upd S2 p3 (.lst (cutV (ws.map vs_) none (some (3 + (r1 : Int)))))) _ := (boxW b).new W2 hp3
  have G3 := G2.new (o := .lst (cutV (ws.map vs_) none (some (3 + (r1 : Int))))) W2.sh hp3
  refine ⟨b, _, p3, ws.take size, rfl, W3, (by rw [upd_same, e3]), by rw [List.length_take]; omega, by rw [List.length_take]; omega, fun S4 H4 psg ps g4 W4 rsg hsig => ?_⟩
  have G4 := G3.trans g4
  have hpw4 : H4 pw = some (.lst (ws.map vs_)) := W4.sh _ _ (g4.ss _ _ (same_new (W2.sh.free hp3) _ _ hpw))
  refine ⟨_, rfl, _, rfl, (3 + (r1 : Int)), rfl, pw, _, rfl, SqL.of hpw4, fun p5 hp5 => ?_⟩
  have e5 : cutV (ws.map vs_) (some (3 + (r1 : Int))) none = (ws.drop size).map vs_ := by
    rw [show (3 : Int) + (r1 : Int) = ((size : Nat) : Int) by omega, cutV_from _ (by rw [List.length_map]; omega), List.map_drop]
  have W5 : Wd b (upd S4 p5 (.lst (cutV (ws.map vs_) (some (3 + (r1 : Int))) none))) _ := (boxW b).new W4 hp5
  have G5 := G4.new (o := .lst (cutV (ws.map vs_) (some (3 + (r1 : Int))) none)) W4.sh hp5
  have sp5 := W4.sh.free hp5
  generalize hS5 : upd S4 p5 (.lst (cutV (ws.map vs_) (some (3 + (r1 : Int))) none)) = S5 at W5 G5
  have hown5 : S5 p5 = some (.lst ((ws.drop size).map vs_)) := by rw [← hS5, upd_same, e5]
  have rsg5 : Rp S5 (.ref psg) (dPairs ps) := by rw [← hS5]; exact Rp.mono (same_new sp5) _ _ rsg
  refine ⟨(by show 2 ≤ sizeLine; decide), fun p6 hp6 => ?_⟩
  have g6 := same_new (o := .tup [.ref psg, .ref p5]) hp6
  have W6 := (boxW b).same W5 g6
  have G6 := G5.trans (Gr.of_same g6)
  refine ⟨p6, _, rfl, SqT.of upd_same, rfl, _, _, rfl, _, _, rfl, rfl, ?_⟩
  -- names, plan
  refine ⟨_, rfl, _, rfl, b, S5, many, rfl, W6, hm26, fun S7 H7 pnm nms g7 W7 hnm _ hnl hnnd hnok => ?_⟩
  refine ⟨_, rfl, _, rfl, _, rfl, b, S7, many, wide, rfl, W7, hm1, by omega, hw20, fun S8 H8 ppl pln g8 W8 rpl hpl => ?_⟩
  have G8 := (G6.trans g7).trans g8
  have hnm8 : S8 pnm = some (.lst (nms.map vs_)) := g8.ss _ _ hnm
  have hown8 : S8 p5 = some (.lst ((ws.drop size).map vs_)) := g8.ss _ _ (g7.ss _ _ hown5)
  have rsg8 : Rp S8 (.ref psg) (dPairs ps) := Rp.mono (g7.ss.trans g8.ss) _ _ rsg5
  have hol : (ws.drop size).length = wide := by rw [List.length_drop]; omega
  generalize hown : ws.drop size = own at hown8 hol
  obtain ⟨ys, hppl, rys⟩ : ∃ ys, S8 ppl = some (.lst ys) ∧ RpL S8 ys (pln.map dKinds) := by
    cases rpl with
    | lst h r => exact ⟨_, h, r⟩
  have hyl : ys.length = many := by
    have z := rys.len
    rw [List.length_map, hpl.len] at z
    exact z
  refine ⟨_, _, rfl, ?_⟩
  -- found = []
  refine ⟨Nat.zero_le _, fun Fo hFo => ?_⟩
  have hFH : H Fo = none := G8.back hFo
  have nFb : Fo ∉ [b] := (boxW b).fresh W hFH
  have sF : S8 Fo = none := W8.sh.free hFo
  have W9 : Wd b S8 (upd H8 Fo (.lst [])) := (boxW b).chg W8 sF nFb
  have G9 := G8.chg (o := .lst []) hFH
  -- facts for the frames
  have hwords : ps.map (·.1) ++ own = ws := by rw [hsig.wds, ← hown]; exact List.take_append_drop _ _
  have frok : ∀ ks : List Nat, ks ∈ pln → FrOk (max 3 wide) ⟨ps, nms, pln, own.zip ks⟩ := fun ks hks => by
    have hk := hpl.kd ks hks
    refine ⟨hsig.has, hsig.ar, fun p hp => hk.2 _ (List.of_mem_zip hp).2, fun ks' hks' => ?_, by show nms.length = pln.length; rw [hnl, hpl.len], hnnd, fun p hp => ?_, fun p hp => ?_, hnok, by omega, ?_, by show nms.length ≤ 100; omega, ?_⟩
    · have := hpl.kd ks' hks'
      exact ⟨by omega, this.2⟩
    · exact hwok _ (by rw [← hwords]; exact List.mem_append_left _ (List.mem_map_of_mem hp))
    · exact hwok _ (by rw [← hwords]; exact List.mem_append_right _ (List.of_mem_zip hp).1)
    · show ps.length ≤ 50
      have : (ps.map (·.1)).length = (ws.take size).length := by rw [hsig.wds]
      rw [List.length_map, List.length_take] at this
      omega
    · show (own.zip ks).length ≤ 50
      rw [List.length_zip]
      omega
  refine ⟨_, rfl, _, rfl, pnm, ppl, _, _, rfl, .inl ⟨SqL.of (W9.sh _ _ hnm8), SqL.of (W9.sh _ _ hppl), ?_⟩⟩
  refine fori (S := S8) (walk_zip (n := many) (by rw [List.length_map, hnl, hyl, Nat.min_self])) (fun i σ' S' H' => Gr [b] Sh H S' H' ∧ Wd b S' H' ∧ Same S8 S' ∧ ∃ (fs : List V) (rows : List (List Nat × List Nat × Tm)) (y10 y11 y12 y13 y14 : Option V),
      σ' = [some (.ref b), some (vn many), some (vn wide), some (V.int (3 + (r1 : Int))), some (.ref pw), some (.ref psg), some (.ref p5), some (.ref pnm), some (.ref ppl), some (.ref Fo), y10, y11, y12, y13, y14] ∧
      H' Fo = some (.lst fs) ∧ S' Fo = none ∧ RpL S' fs (rows.map (rowD own)) ∧ RowsOk ps own nms pln wide i rows) ?_ (fun S' H' i σ' h => ⟨SqL.of (h.2.1.sh _ _ (h.2.2.1 _ _ hnm8)), SqL.of (h.2.1.sh _ _ (h.2.2.1 _ _ hppl))⟩)
    (fun i x σ' S10 H10 H10' hi hI hy => ?_) (fun σ' S10 H10 hI => ?_)
  · exact ⟨G9, W9, Same.refl _, [], [], _, _, _, _, _, rfl, upd_same, sF, .nil, rfl, rfl, fun _ h => nomatch h⟩
  · obtain ⟨G10, W10, ss10, fs, rows, y10, y11, y12, y13, y14, rfl, hF10, sF10, rf10, ro10⟩ := hI
    obtain ⟨T, x1, y1, rfl, hT, rfl, hx1, hy1⟩ := hy
    obtain ⟨nn, hnn, rfl⟩ := G48.getm hx1
    obtain ⟨ks, hks, rk⟩ := rys.getm hy1
    obtain ⟨l, rfl, hl⟩ := rk.kinds
    have hkd := hpl.kd ks (List.mem_of_getElem? hks)
    have gT := same_new (o := .tup [vs_ nn, .ref l]) hT
    have W11 := (boxW b).same W10 gT
    have G11 := G10.trans (Gr.of_same gT)
    have hl11 := ss10 _ _ hl
    refine ⟨T, _, rfl, SqT.of upd_same, rfl, _, _, rfl, _, _, rfl, rfl, ?_⟩
    -- used
    refine ⟨_, rfl, l, _, rfl, .inl (SqL.of (W11.sh _ _ hl11)), _, rfl, by rw [List.length_map]; omega, by rw [List.length_map]; omega, fun D hD => ?_⟩
    refine lcw (boxW b) W11 hD walk_r0 (fun i acc S' => Same S10 S' ∧ RpL S' acc (((own.zip ks).take i).map dPair)) ⟨Same.refl _, .nil⟩ (by rw [List.length_map]; omega) (fun _ _ _ _ => trivial)
      (fun j x S12 H12 H12' acc hj g12 W12 s12 e12 hI hy put skip => ?_) (fun S12 H12 acc12 g12 W12 s12 e12 l12 hI => ?_)
    · obtain ⟨e12', rfl⟩ := hy
      subst e12'
      obtain ⟨ss12, r12⟩ := hI
      rw [List.length_map, Int.toNat_natCast] at hj
      have hjo : j < own.length := by omega
      have ho : own[j]? = some own[j] := List.getElem?_eq_getElem hjo
      have hkk : ks[j]? = some ks[j] := List.getElem?_eq_getElem hj
      refine ⟨rfl, ?_⟩
      refine ⟨_, rfl, _, rfl, p5, _, (j : Int), vs_ own[j], rfl, rfl, SqL.of (W12.sh _ _ (ss12 _ _ (ss10 _ _ hown8))), atI_nat (by rw [List.getElem?_map, ho]; rfl), ?_⟩
      refine ⟨_, rfl, _, rfl, l, _, (j : Int), vn ks[j], rfl, rfl, SqL.of (W12.sh _ _ (ss12 _ _ hl11)), atI_nat (by rw [List.getElem?_map, hkk]; rfl), (by show 2 ≤ sizeLine; decide), fun T2 hT2 => ?_⟩
      have W13 : Wd b (upd S12 T2 (.tup [vs_ own[j], vn ks[j]])) _ := (boxW b).new W12 hT2
      have G13 := (Gr.refl [b] S12 H12').new (o := .tup [vs_ own[j], vn ks[j]]) W12.sh hT2
      refine put G13 W13 ⟨ss12.trans G13.ss, ?_⟩
      rw [map_take_succ (show (own.zip ks)[j]? = some (own[j], ks[j]) from List.getElem?_zip_eq_some.mpr ⟨ho, hkk⟩)]
      exact (RpL.mono G13.ss _ _ r12).snoc (pair_rp (p := (own[j], ks[j])) upd_same)
    obtain ⟨ss12, r12⟩ := hI
    rw [List.length_map, Int.toNat_natCast, List.take_of_length_le (by rw [List.length_zip]; omega)] at r12
    have nDb : D ∉ [b] := (boxW b).fresh W11 hD
    have W13 := (boxW b).keep W12 s12 nDb e12
    have hDH : H D = none := G11.back hD
    have G13 := (G11.trans g12).keep (o := .lst acc12) hDH s12
    have hF13 : H12 Fo = some (.lst fs) := g12.kp _ _ nFb (gT _ _ hF10)
    have nFD : Fo ≠ D := ne_of_none (gT _ _ hF10) hD
    have sF13 : (upd S12 D (.lst acc12)) Fo = none := by
      rw [upd_ne nFD]
      exact g12.nw Fo (some_ne (gT _ _ hF10)) sF10
    have ss13 : Same S10 (upd S12 D (.lst acc12)) := ss12.trans (same_new s12)
    have rused : Rp (upd S12 D (.lst acc12)) (.ref D) (dPairs (own.zip ks)) := .lst upd_same (RpL.mono (same_new s12) _ _ r12)
    generalize hS13 : upd S12 D (.lst acc12) = S13 at W13 G13 sF13 ss13 rused
    -- a drawn body
    have frame : ∀ {S' : Hp} {fa : Addr}, Same S13 S' → S' fa = some (.tup [.ref psg, .ref pnm, .ref ppl, .ref D]) → Rp S' (.ref fa) (dFrame ⟨ps, nms, pln, own.zip ks⟩) := fun {S' fa} e h => by
      have e8 : Same S8 S' := (ss10.trans ss13).trans e
      exact .tup h (.cons (Rp.mono e8 _ _ rsg8) (.cons (.lst (e8 _ _ hnm8) (RpL.strs nms)) (.cons (.lst (e8 _ _ hppl) (RpL.mono e8 _ _ rys)) (.cons (Rp.mono e _ _ rused) .nil))))
    have fok := frok ks (List.mem_of_getElem? hks)
    -- body = tree(..)
    refine ⟨_, rfl, _, rfl, _, rfl, _, rfl, _, rfl, (by show 4 ≤ sizeLine; decide), fun fa hfa => ?_⟩
    have W14 := (boxW b).new (o := .tup [.ref psg, .ref pnm, .ref ppl, .ref D]) W13 hfa
    have G14 := G13.new (o := .tup [.ref psg, .ref pnm, .ref ppl, .ref D]) W13.sh hfa
    have sfa := W13.sh.free hfa
    refine ⟨_, rfl, b, _, 3, rfl, W14, by decide, by decide, fun H15 r15 g15 W15 h15 => ?_⟩
    refine ⟨_, _, rfl, rfl, b, _, fa, ⟨ps, nms, pln, own.zip ks⟩, max 3 wide, 1 + r15, congrArg (fun z => [V.ref b, V.ref fa, V.int z]) (by show (1 : Int) + (r15 : Int) = _; omega), by omega, W15, frame (same_new sfa) upd_same, fok, fun S16 H16 v16 t16 g16 W16 r16 k16 d16 z16 => ?_⟩
    have G16 := (G14.trans g15).trans g16
    have ss16 : Same S13 S16 := (same_new sfa).trans g16.ss
    have bB : ∀ {t : Tm} {d : Nat}, 1 ≤ d → d ≤ 3 → dpt t ≤ d + 1 → szT t ≤ gB (max 3 wide) d → dpt t ≤ 4 ∧ szT t ≤ gB (max 3 wide) 3 := fun h1 h3 hd hz => ⟨by omega, Nat.le_trans hz (gB_le3 (by omega) h1 h3)⟩
    -- if it is too small for the first
    refine ⟨fun σ' H' => ∃ (S' : Hp) (v : V) (t : Tm) (y14 : Option V), σ' = [some (.ref b), some (vn many), some (vn wide), some (V.int (3 + (r1 : Int))), some (.ref pw), some (.ref psg), some (.ref p5), some (.ref pnm), some (.ref ppl), some (.ref Fo), some (vs_ nn), some (.ref l), some (.ref D), some v, y14] ∧
        Gr [b] Sh H S' H' ∧ Wd b S' H' ∧ Same S13 S' ∧ S' Fo = none ∧ H' Fo = some (.lst fs) ∧ Rp S' v (tmD t) ∧ HasKind ⟨ps, nms, pln, own.zip ks⟩ t 0 ∧ dpt t ≤ 4 ∧ szT t ≤ gB (max 3 wide) 3, ?_, fun σ' H' hM => ?_⟩
    · have hF14 : (upd H12 fa (.tup [.ref psg, .ref pnm, .ref ppl, .ref D])) Fo = some (.lst fs) := same_new hfa _ _ hF13
      have hF16 : H16 Fo = some (.lst fs) := g16.kp _ _ nFb (g15.kp _ _ nFb hF14)
      have sF14 : (upd S13 fa (.tup [.ref psg, .ref pnm, .ref ppl, .ref D])) Fo = none := by
        rw [upd_ne (ne_of_none hF13 hfa)]
        exact sF13
      have sF16 : S16 Fo = none := g16.nw Fo (some_ne (g15.kp _ _ nFb hF14)) sF14
      obtain ⟨hb1, hb2⟩ := bB (by omega) (by omega) d16 z16
      have done : ∃ (S' : Hp) (v : V) (t : Tm) (y14' : Option V), ([some (.ref b), some (vn many), some (vn wide), some (V.int (3 + (r1 : Int))), some (.ref pw), some (.ref psg), some (.ref p5), some (.ref pnm), some (.ref ppl), some (.ref Fo), some (vs_ nn), some (.ref l), some (.ref D), some v16, y14] : L2.St) = [some (.ref b), some (vn many), some (vn wide), some (V.int (3 + (r1 : Int))), some (.ref pw), some (.ref psg), some (.ref p5), some (.ref pnm), some (.ref ppl), some (.ref Fo), some (vs_ nn), some (.ref l), some (.ref D), some v, y14'] ∧
          Gr [b] Sh H S' H16 ∧ Wd b S' H16 ∧ Same S13 S' ∧ S' Fo = none ∧ H16 Fo = some (.lst fs) ∧ Rp S' v (tmD t) ∧ HasKind ⟨ps, nms, pln, own.zip ks⟩ t 0 ∧ dpt t ≤ 4 ∧ szT t ≤ gB (max 3 wide) 3 :=
        ⟨S16, v16, t16, _, rfl, G16, W16, ss16, sF16, hF16, r16, k16, hb1, hb2⟩
      obtain ⟨n0, hn0⟩ : ∃ n0, nms[0]? = some n0 := ⟨_, List.getElem?_eq_getElem (by omega)⟩
      refine ⟨_, rfl, _, rfl, pnm, _, 0, vs_ n0, rfl, rfl, SqL.of (W16.sh _ _ (ss16 _ _ (ss13 _ _ (ss10 _ _ hnm8)))), atI_nat (j := 0) (by rw [List.getElem?_map, hn0]; rfl), rfl, _, rfl, ite2 (fun c1 => ?_) (fun c1 => ?_)⟩
      · obtain ⟨ab, xb, rfl, hab, hlb⟩ := r16.len1
        refine ⟨_, rfl, ab, _, rfl, .inr (SqT.of (W16.sh _ _ hab)), rfl, _, rfl, ite2 (fun c3 => ?_) (fun c3 => ?_)⟩
        · refine ⟨_, rfl, _, rfl, _, rfl, _, rfl, _, rfl, (by show 4 ≤ sizeLine; decide), fun fa2 hfa2 => ?_⟩
          have W17 := (boxW b).new (o := .tup [.ref psg, .ref pnm, .ref ppl, .ref D]) W16 hfa2
          have G17 := G16.new (o := .tup [.ref psg, .ref pnm, .ref ppl, .ref D]) W16.sh hfa2
          have sfa2 := W16.sh.free hfa2
          refine ⟨b, _, fa2, ⟨ps, nms, pln, own.zip ks⟩, max 3 wide, 3, rfl, by decide, W17, frame (ss16.trans (same_new sfa2)) upd_same, fok, fun S18 H18 v18 t18 g18 W18 r18 k18 d18 z18 => ?_⟩
          have hF17 : (upd H16 fa2 (.tup [.ref psg, .ref pnm, .ref ppl, .ref D])) Fo = some (.lst fs) := same_new hfa2 _ _ hF16
          have sF17 : (upd S16 fa2 (.tup [.ref psg, .ref pnm, .ref ppl, .ref D])) Fo = none := by
            rw [upd_ne (ne_of_none hF16 hfa2)]
            exact sF16
          exact ⟨S18, v18, t18, _, rfl, G17.trans g18, W18, (ss16.trans (same_new sfa2)).trans g18.ss, g18.nw Fo (some_ne hF17) sF17, g18.kp _ _ nFb hF17, r18, k18, d18, z18⟩
        · exact done
      · exact done
    obtain ⟨S19, v19, t19, z14, rfl, G19, W19, ss19, sF19, hF19, r19, k19, d19, z19⟩ := hM
    -- found.append((name, tuple(own[:len(kinds)]), body))
    have e8 : Same S8 S19 := (ss10.trans ss13).trans ss19
    refine ⟨_, rfl, .inl ⟨rfl, _, SqL.of hF19⟩, ?_⟩
    refine ⟨_, rfl, _, rfl, _, rfl, l, _, rfl, .inl (SqL.of (W19.sh _ _ (ss19 _ _ (ss13 _ _ hl11)))), _, rfl, p5, _, rfl, SqL.of (W19.sh _ _ (e8 _ _ hown8)), fun p20 hp20 => ?_⟩
    have g20 := same_new (o := .lst (cutV (own.map vs_) none (some (((ks.map vn).length : Int))))) hp20
    have e20 : cutV (own.map vs_) none (some (((ks.map vn).length : Int))) = (own.take ks.length).map vs_ := by
      rw [List.length_map, cutV_to, List.map_take]
    refine ⟨p20, _, rfl, .inl ⟨SqL.of upd_same, fun t21 ht21 => ?_⟩⟩
    have W20 := (boxW b).same W19 g20
    have G20 := G19.trans (Gr.of_same g20)
    have W21 := (boxW b).new (o := .tup (cutV (own.map vs_) none (some (((ks.map vn).length : Int))))) W20 ht21
    have G21 := G20.new (o := .tup (cutV (own.map vs_) none (some (((ks.map vn).length : Int))))) W20.sh ht21
    have s21 := W20.sh.free ht21
    refine ⟨_, rfl, (by show 3 ≤ sizeLine; decide), fun T22 hT22 => ?_⟩
    have W22 := (boxW b).new (o := .tup [vs_ nn, .ref t21, v19]) W21 hT22
    have G22 := G21.new (o := .tup [vs_ nn, .ref t21, v19]) W21.sh hT22
    have s22 := W21.sh.free hT22
    have hF22 : (upd (upd (upd H' p20 (.lst (cutV (own.map vs_) none (some (((ks.map vn).length : Int)))))) t21 (.tup (cutV (own.map vs_) none (some (((ks.map vn).length : Int)))))) T22 (.tup [vs_ nn, .ref t21, v19])) Fo = some (.lst fs) := same_new hT22 _ _ (same_new ht21 _ _ (g20 _ _ hF19))
    have sF22 : (upd (upd S19 t21 (.tup (cutV (own.map vs_) none (some (((ks.map vn).length : Int)))))) T22 (.tup [vs_ nn, .ref t21, v19])) Fo = none := by
      rw [upd_ne (ne_of_none (same_new ht21 _ _ (g20 _ _ hF19)) hT22), upd_ne (ne_of_none (g20 _ _ hF19) ht21)]
      exact sF19
    have hfl : fs.length ≤ 100 := by
      have z := rf10.len
      rw [List.length_map] at z
      have z2 : (rows.map (·.1)).length = (nms.take i).length := by rw [ro10.nm]
      rw [List.length_map, List.length_take] at z2
      omega
    refine ⟨Fo, fs, _, rfl, rfl, hF22, szl _ (by omega), ?_⟩
    have ss22 : Same S19 (upd (upd S19 t21 (.tup (cutV (own.map vs_) none (some (((ks.map vn).length : Int)))))) T22 (.tup [vs_ nn, .ref t21, v19])) := (same_new s21).trans (same_new s22)
    refine ⟨_, G22.chg hFH, (boxW b).chg W22 sF22 nFb, e8.trans ss22, fs ++ [.ref T22], rows ++ [(nn, ks, t19)], _, _, _, _, _, rfl, upd_same, sF22, ?_, ?_, ?_, ?_⟩
    · rw [List.map_append]
      refine (RpL.mono ((ss13.trans ss19).trans ss22) _ _ rf10).snoc ?_
      refine .tup upd_same (.cons (.str _) (.cons (.tup (same_new s22 _ _ upd_same) ?_) (.cons (Rp.mono ss22 _ _ r19) .nil)))
      rw [e20]
      exact RpL.strs _
    · rw [List.map_append, ro10.nm, List.take_add_one, hnn]
      rfl
    · rw [List.map_append, ro10.pl, List.take_add_one, hks]
      rfl
    · intro r hr
      rcases List.mem_append.mp hr with h | h
      · exact ro10.bod r h
      · rw [List.mem_singleton.mp h]
        exact ⟨k19, d19, z19⟩
  · obtain ⟨G10, W10, ss10, fs, rows, y10, y11, y12, y13, y14, rfl, hF10, sF10, rf10, ro10⟩ := hI
    have hnmA : rows.map (·.1) = nms := by rw [ro10.nm]; exact List.take_of_length_le (by omega)
    have hplA : rows.map (·.2.1) = pln := by rw [ro10.pl]; exact List.take_of_length_le (by rw [hpl.len]; exact Nat.le_refl _)
    have W11 := (boxW b).keep W10 sF10 nFb hF10
    have G11 := G10.keep (o := .lst fs) hFH sF10
    refine ⟨_, rfl, _, rfl, (by show 2 ≤ sizeLine; decide), fun T hT => ?_⟩
    have W12 := (boxW b).new (o := .tup [.ref psg, .ref Fo]) W11 hT
    have G12 := G11.new (o := .tup [.ref psg, .ref Fo]) W11.sh hT
    have sT := W11.sh.free hT
    have hrl : rows.length = many := by
      have : (rows.map (·.1)).length = nms.length := by rw [hnmA]
      rw [List.length_map] at this
      omega
    refine q _ _ T ⟨ps, own, rows⟩ G12 W12 (.tup upd_same (.cons (Rp.mono ((ss10.trans (same_new sF10)).trans (same_new sT)) _ _ rsg8) (.cons (.lst (same_new sT _ _ upd_same) (RpL.mono ((same_new sF10).trans (same_new sT)) _ _ rf10)) .nil))) ⟨?_, hsig.has, hsig.ar, ?_, ?_, hol, hrl, ?_, fun r hr => ?_, ?_, fun r hr => ?_, fun r hr => ?_⟩
    · show 3 ≤ ps.length ∧ ps.length ≤ 5
      have : (ps.map (·.1)).length = (ws.take size).length := by rw [hsig.wds]
      rw [List.length_map, List.length_take] at this
      omega
    · show (ps.map (·.1) ++ own).Nodup
      rw [hwords]
      exact hwnd
    · show ∀ l ∈ ps.map (·.1) ++ own, isSign l = true
      rw [hwords]
      exact hwok
    · show (rows.map (·.1)).Nodup
      rw [hnmA]
      exact hnnd
    · exact hnok _ (by rw [← hnmA]; exact List.mem_map_of_mem hr)
    · have h0 : 0 < rows.length := by omega
      refine ⟨rows[0], List.getElem?_eq_getElem h0, ?_⟩
      have z : (rows.map (·.2.1))[0]? = some [] := by rw [hplA]; exact hpl.first
      rw [List.getElem?_map, List.getElem?_eq_getElem h0] at z
      exact Option.some.inj z
    · exact hpl.kd _ (by rw [← hplA]; exact List.mem_map_of_mem (f := fun r : List Nat × List Nat × Tm => r.2.1) hr)
    · have z := ro10.bod r hr
      show HasKind ⟨ps, rows.map (·.1), rows.map (·.2.1), own.zip r.2.1⟩ r.2.2 0 ∧ _
      rw [hnmA, hplA]
      exact z
end

--USES gen4 is_term
mutual
theorem tmD_depth : ∀ t : Tm, (tmD t).depth = dpt t
  | .mk h as => by
    show max 0 (PyData.depthAll (tmsD as)) + 1 = dptL as + 1
    rw [tmsD_depth as]
    omega
theorem tmsD_depth : ∀ ts : List Tm, PyData.depthAll (tmsD ts) = dptL ts
  | [] => rfl
  | t :: ts => by
    show max (tmD t).depth (PyData.depthAll (tmsD ts)) = max (dpt t) (dptL ts)
    rw [tmD_depth t, tmsD_depth ts]
end
mutual
theorem tmD_nd : ∀ t : Tm, ndD (tmD t) = 2 * szT t
  | .mk h as => by
    show (1 + ndL (tmsD as)) + 1 = 2 * (szL as + 1)
    rw [tmsD_nd as]
    omega
theorem tmsD_nd : ∀ ts : List Tm, ndL (tmsD ts) = 2 * szL ts
  | [] => rfl
  | t :: ts => by
    show ndD (tmD t) + ndL (tmsD ts) = 2 * (szT t + szL ts)
    rw [tmD_nd t, tmsD_nd ts]
    omega
end
/-- heads that are words -/
def wordy (l : List Nat) : Bool := isSign l || isName l
theorem low_lt {c : Nat} (h : isLow c = true) : c < 0x110000 := by
  have : lows.all (· < 0x110000) = true := by decide +kernel
  exact of_decide_eq_true (List.all_eq_true.mp this c (of_decide_eq_true h))
theorem cap_lt {c : Nat} (h : isCap c = true) : c < 0x110000 := by
  have : caps.all (· < 0x110000) = true := by decide +kernel
  exact of_decide_eq_true (List.all_eq_true.mp this c (of_decide_eq_true h))
theorem wordy_plain {l : List Nat} (h : wordy l = true) : plain (dS l) = true := by
  have key : l.length ≤ 6 ∧ ∀ c ∈ l, c < 0x110000 := by
    unfold wordy at h
    cases h1 : isSign l with
    | true =>
      unfold isSign at h1
      obtain ⟨h2, h3⟩ := Bool.and_eq_true_iff.mp h1
      exact ⟨(of_decide_eq_true h2).2, fun c hc => low_lt (List.all_eq_true.mp h3 c hc)⟩
    | false =>
      rw [h1, Bool.false_or] at h
      cases l with
      | nil => cases h
      | cons c r =>
        obtain ⟨h2, h3⟩ := Bool.and_eq_true_iff.mp (show (isCap c && (decide (r.length ≤ 5) && r.all isLow)) = true from h)
        obtain ⟨h4, h5⟩ := Bool.and_eq_true_iff.mp h3
        have h6 := of_decide_eq_true h4
        refine ⟨by rw [List.length_cons]; omega, fun x hx => ?_⟩
        rcases List.mem_cons.mp hx with rfl | hx
        · exact cap_lt h2
        · exact low_lt (List.all_eq_true.mp h5 x hx)
  show (decide ((S l).length ≤ 1000) && (S l).cps.all (· < 0x110000)) = true
  have k1 := key.1
  rw [S_len, decide_eq_true (show l.length ≤ 1000 by omega), Bool.true_and]
  rw [← Array.all_toList]
  exact List.all_eq_true.mpr fun c hc => decide_eq_true (key.2 c hc)
theorem Takes.wordy {f : Fr} {m : Nat} {h ks : List Nat} (o : FrOk m f) (t : Takes f h ks) : wordy h = true := by
  unfold G48.wordy
  rcases t with ⟨p, hp, rfl, _⟩ | ⟨p, hp, rfl, _⟩ | ⟨i, hn, _⟩
  · rw [o.sg p hp]
    rfl
  · rw [o.og p hp]
    rfl
  · rw [o.nm _ (List.mem_of_getElem? hn), Bool.or_true]
theorem kind_plain {f : Fr} (hw : ∀ h ks, Takes f h ks → wordy h = true) : ∀ {t : Tm} {k : Nat}, HasKind f t k → plain (tmD t) = true ∧ isT (tmD t) = true := by
  intro t k h
  induction h with
  | @mk h ks as k tk len lack args ih =>
    have hwd := hw h ks tk
    have aux : ∀ {i : Nat} {a : Tm}, as[i]? = some a → plain (tmD a) = true ∧ isT (tmD a) = true := fun {i a} ha => by
      have hi := (List.getElem?_eq_some_iff.mp ha).1
      exact ih i a ks[i] ha (List.getElem?_eq_getElem (by omega))
    have both : ∀ (ts : List Tm), (∀ t ∈ ts, plain (tmD t) = true ∧ isT (tmD t) = true) → plainL (tmsD ts) = true ∧ isTL (tmsD ts) = true := by
      intro ts
      induction ts with
      | nil => exact fun _ => ⟨rfl, rfl⟩
      | cons t ts iht =>
        intro hts
        have h1 := hts t (List.mem_cons_self ..)
        have h2 := iht fun x hx => hts x (List.mem_cons_of_mem _ hx)
        refine ⟨?_, ?_⟩
        · show (plain (tmD t) && plainL (tmsD ts)) = true
          rw [h1.1, h2.1]
          rfl
        · show (isT (tmD t) && isTL (tmsD ts)) = true
          rw [h1.2, h2.2]
          rfl
    have hb := both as fun t ht => by
      obtain ⟨i, hi⟩ := List.getElem?_of_mem ht
      exact aux hi
    refine ⟨?_, ?_⟩
    · show (plain (dS h) && plainL (tmsD as)) = true
      rw [wordy_plain hwd, hb.1]
      rfl
    · show ((isSign h || isName h) && isTL (tmsD as)) = true
      rw [hb.2, Bool.and_true]
      exact hwd
theorem PrgOk.frok {many wide : Nat} {p : Prg} (o : PrgOk many wide p) (hm : many ≤ 100) (hw : wide ≤ 20) {r : List Nat × List Nat × Tm} (hr : r ∈ p.rows) : FrOk (max 3 wide) (p.fr r.2.1) where
  has := o.has
  ar := o.ar
  ow := fun q hq => (o.kds r hr).2 _ (List.of_mem_zip hq).2
  pl := fun ks hks => by
    obtain ⟨r', hr', rfl⟩ := List.mem_map.mp hks
    have := o.kds r' hr'
    exact ⟨by omega, this.2⟩
  len := by
    show (p.rows.map _).length = (p.rows.map _).length
    rw [List.length_map, List.length_map]
  nd := o.nnd
  sg := fun q hq => o.wok _ (List.mem_append_left _ (List.mem_map_of_mem hq))
  og := fun q hq => o.wok _ (List.mem_append_right _ (List.of_mem_zip hq).1)
  nm := fun n hn => by
    obtain ⟨r', hr', rfl⟩ := List.mem_map.mp hn
    exact o.nok r' hr'
  m3 := by omega
  ls := by
    have := o.sl
    show p.signs.length ≤ 50
    omega
  ln := by
    show (p.rows.map _).length ≤ 100
    rw [List.length_map, o.rl]
    exact hm
  lo := by
    show (p.own.zip r.2.1).length ≤ 50
    rw [List.length_zip, o.ol]
    omega
theorem PrgOk.body {many wide : Nat} {p : Prg} (o : PrgOk many wide p) (hm : many ≤ 100) (hw : wide ≤ 20) {r : List Nat × List Nat × Tm} (hr : r ∈ p.rows) : plain (tmD r.2.2) = true ∧ isT (tmD r.2.2) = true :=
  kind_plain (fun _ _ t => t.wordy (o.frok hm hw hr)) (o.bod r hr).1
/-- the rows of a drawn program -/
theorem prg_parts {Sh : Hp} {a : Addr} {p : Prg} (h : Rp Sh (.ref a) (prgD p)) : ∃ sg rw_ xs, Sh a = some (.tup [.ref sg, .ref rw_]) ∧ Rp Sh (.ref sg) (dPairs p.signs) ∧ Sh rw_ = some (.lst xs) ∧ RpL Sh xs (p.rows.map (rowD p.own)) := by
  unfold prgD at h
  cases h with
  | tup ha r =>
    cases r with
    | cons r1 r =>
      cases r with
      | cons r2 r =>
        cases r
        cases r1 with
        | lst h1 q1 =>
          cases r2 with
          | lst h2 q2 => exact ⟨_, _, _, ha, .lst h1 q1, h2, q2⟩
theorem Rp.row {Sh : Hp} {v : V} {own : List (List Nat)} {r : List Nat × List Nat × Tm} (h : Rp Sh v (rowD own r)) : ∃ a t u, v = .ref a ∧ Sh a = some (.tup [vs_ r.1, .ref t, u]) ∧ Sh t = some (.tup ((own.take r.2.1.length).map vs_)) ∧ Rp Sh u (tmD r.2.2) := by
  unfold rowD at h
  cases h with
  | tup ha q =>
    cases q with
    | cons q1 q =>
      cases q with
      | cons q2 q =>
        cases q with
        | cons q3 q =>
          cases q
          cases q1
          cases q2 with
          | tup ht qt =>
            rw [RpL.of_strs qt] at ht
            exact ⟨_, _, _, rfl, ha, ht, q3⟩

--USES
abbrev s_law_box : Stmt := topS 5
abbrev N_law_box : List Str := ["_law_script", "_law_mark", "_law_cell"]
theorem sc_law_box : FnScope N_law_box ["_law_script"] (defScope s_law_box) := ⟨rfl, rfl, rfl, by decide +kernel, rfl, by decide +kernel, by decide +kernel⟩

/-- the box of a new script -/
def sp_law_box (K : PySem.W.Frag) : Sp := fun vs H Q _ => ∃ (a : Addr) (ns : List Int), vs = [.ref a] ∧ SqL K H a (ns.map V.int) ∧ ns.length ≤ 63 ∧
  ∀ S' H' b, Same H H' → Wd b S' H' → Q (.ref b) H'
theorem cut63 {ns : List Int} (h : ns.length ≤ 63) : cutV (ns.map V.int) none (some 63) = ns.map V.int := by
  unfold cutV
  rw [show HT.sIx (ns.map V.int).length (ns.map V.int).length (some 63) = min 63 (ns.map V.int).length from HT.sIx_nat _ _ 63, HT.sIx_none, List.drop_zero, List.length_map]
  exact List.take_of_length_le (by rw [List.length_map]; omega)
section
variable {P : Program} {w : World} {K : PySem.W.Frag} {mg : Str → Option Value} {base : Heap}
theorem cal_law_box (F : Dfn K mg "_law_box" s_law_box) (B : Bt mg) : Cal P w K mg base 1 "_law_box" (sp_law_box K) := by
  refine cal_of F sc_law_box (fun _ _ _ _ _ _ us hl => match us, hl with | [_], _ => rfl) (fun vs H Q E h => ?_) (fun f cdv A outer s H vs Q E hr h => ?_)
  · obtain ⟨a, ns, rfl, _⟩ := h
    rfl
  obtain ⟨a, ns, rfl, hS, hl, q⟩ := h
  refine ⟨_, (pss_cons (ps_set (i := 1) sc_law_box.nd rfl (by first | exact .inl rfl | exact .inr rfl) pe_int)
      (pss_cons (ps_for PassesOwn.never rfl (pi_list (pe_slice (k_sl_list K rfl) (pv 0) po_none (po_some pe_int))) (pg_name (i := 2) sc_law_box.nd rfl (by first | exact .inl rfl | exact .inr rfl)) (pss_one (ps_set (i := 1) sc_law_box.nd rfl (by first | exact .inl rfl | exact .inr rfl) (pe_op op_mod (pe_callTy call_int1 (by rfl) B.int (by decide +kernel) (pa_cons (pe_op op_add (pe_op op_add (pe_op op_mul (pv 1) pe_int) (pe_op op_mod (pe_callTy call_int1 (by rfl) B.int (by decide +kernel) (pa_cons (pv 2) pa_nil)) pe_int)) pe_int) pa_nil)) pe_int))))
      (pss_one (ps_ret (pe_lst (pa_cons (pe_callTy (k_list_of K rfl) (by rfl) B.list (by decide +kernel) (pa_cons (pe_slice (k_sl_list K rfl) (pv 0) po_none (po_some pe_int)) pa_nil)) (pa_cons pe_int (pa_cons pe_int (pa_cons (pv 1) pa_nil))))))))), ?_⟩
  refine ⟨_, rfl, 63, rfl, a, _, rfl, hS, fun c hc => ?_⟩
  have g1 : Same H (upd H c (.lst (cutV (ns.map V.int) none (some 63)))) := same_new hc
  rw [cut63 hl] at g1 ⊢
  refine ⟨c, rfl, ⟨_, SqL.of upd_same⟩, ?_⟩
  refine for_list (xs := ns.map V.int) (fun i σ H' => H' = upd H c (.lst (ns.map V.int)) ∧ ∃ (m : Int) (y : Option V), σ = [some (.ref a), some (.int m), y] ∧ 0 ≤ m ∧ m < 2147483399) ⟨rfl, 3822, none, rfl, by decide, by decide⟩ (fun i σ H' _ h => by rw [h.1]; exact SqL.of upd_same) (fun i x σ H' hx h => ?_) (fun σ H' h => ?_)
  · obtain ⟨rfl, m, y, rfl, m0, m1⟩ := h
    obtain ⟨n, hn, rfl⟩ : ∃ n, ns[i]? = some n ∧ V.int n = x := by
      rw [List.getElem?_map] at hx
      cases e : ns[i]? with
      | none => rw [e] at hx; cases hx
      | some n => rw [e] at hx; exact ⟨n, rfl, Option.some.inj hx⟩
    refine ⟨_, rfl, _, _, rfl, rfl, .inl ⟨by omega, by omega⟩, _, rfl, .inl ⟨_, rfl, _, _, rfl, rfl, (by show (0 : Int) < 1000003; decide), _, _, rfl, rfl, _, _, rfl, rfl, .inl ⟨_, rfl, _, _, rfl, rfl, (by show (0 : Int) < 2147483399; decide), ?_⟩⟩⟩
    exact ⟨rfl, _, _, rfl, Int.emod_nonneg _ (by decide), Int.emod_lt_of_pos _ (by decide)⟩
  · obtain ⟨rfl, m, y, rfl, m0, m1⟩ := h
    refine ⟨_, rfl, 63, rfl, a, _, rfl, g1.seq hS, fun d hd => ?_⟩
    rw [cut63 hl]
    refine ⟨d, _, rfl, .inl (SqL.of upd_same), fun e he => ?_⟩
    refine ⟨_, rfl, (by show 4 ≤ sizeLine; decide), fun b hb => ?_⟩
    have g2 : Same H (upd (upd (upd H c (.lst (ns.map V.int))) d (.lst (ns.map V.int))) e (.lst (ns.map V.int))) := (g1.trans (same_new hd)).trans (same_new he)
    have ne : e ≠ b := ne_of_none upd_same hb
    refine q (fun x => if x = e then some (.lst (ns.map V.int)) else none) _ b (g2.trans (same_new hb)) ⟨fun x o h => ?_, ?_, e, ns, 0, 0, m, upd_same, ?_, hl, by decide, by decide, m0, by omega⟩
    · by_cases z : x = e
      · subst z
        rw [if_pos rfl] at h
        rw [upd_ne ne, upd_same]
        exact h
      · rw [if_neg z] at h
        cases h
    · rw [if_neg (Ne.symm ne)]
    · rw [if_pos rfl]
end

--USES
abbrev s_law_same : Stmt := topS 8
abbrev N_law_same : List Str := ["_law_found", "_law_due", "_law_one", "_law_other"]
theorem sc_law_same : FnScope N_law_same ["_law_found", "_law_due"] (defScope s_law_same) := ⟨rfl, rfl, rfl, by decide +kernel, rfl, by decide +kernel, by decide +kernel⟩

/-- equal data are the same -/
def sp_law_same (n : Nat) : Sp := fun vs H Q _ => ∃ (Sh : Hp) (d : PyData) (v u : V) (m : Nat), vs = [v, u] ∧ m + 1 ≤ n ∧ Same Sh H ∧ Rp Sh v d ∧ Rp Sh u d ∧ fits d m = true ∧ ∀ H', Same H H' → Q (.bl true) H'
section
variable {P : Program} {w : World} {K : PySem.W.Frag} {mg : Str → Option Value} {base : Heap}
theorem same_turn {k : Nat} (F : Dfn K mg "_law_same" s_law_same) (B : Bt mg) (c__law_same : Cal P w K mg base k "_law_same" (sp_law_same k)) : Cal P w K mg base (k + 1) "_law_same" (sp_law_same (k + 1)) := by
  refine cal_of F sc_law_same (fun _ _ _ _ _ _ us hl => match us, hl with | [_, _], _ => rfl) (fun vs H Q E h => ?_) (fun f cdv A outer s H vs Q E hr h => ?_)
  · obtain ⟨Sh, d, v, u, m, rfl, _⟩ := h
    rfl
  obtain ⟨Sh, d, v, u, m, rfl, hm, sh, r1, r2, hf, q⟩ := h
  refine ⟨_, (pss_cons (ps_if (pt_cmpR op_isN (pv 1) pe_non (nomark _)) (pss_one (ps_ret (pe_cmpR op_isN (pv 0) pe_non (nomark _)))) pss_nil)
      (pss_cons (ps_if (PW.pt (pw_or (pt_val (pe_callB (k_isi K rfl) (by rfl) B.isinstance (by decide +kernel) (pa_cons (pv 1) (pa_cons (pe_bltn (v := .ty "bool") (by rfl) B.bool (by decide +kernel) rfl) pa_nil)))) (pw_or1 (pt_val (pe_callB (k_isi K rfl) (by rfl) B.isinstance (by decide +kernel) (pa_cons (pv 0) (pa_cons (pe_bltn (v := .ty "bool") (by rfl) B.bool (by decide +kernel) rfl) pa_nil))))))) (pss_one (ps_ret (pe_and (pe_callB (k_isi K rfl) (by rfl) B.isinstance (by decide +kernel) (pa_cons (pv 1) (pa_cons (pe_bltn (v := .ty "bool") (by rfl) B.bool (by decide +kernel) rfl) pa_nil))) (pe_and (pe_callB (k_isi K rfl) (by rfl) B.isinstance (by decide +kernel) (pa_cons (pv 0) (pa_cons (pe_bltn (v := .ty "bool") (by rfl) B.bool (by decide +kernel) rfl) pa_nil))) (pe_one (pe_cmpR op_eq (pv 0) (pv 1) (nomark _))))))) pss_nil)
      (pss_cons (ps_if (pt_val (pe_callB (k_isi K rfl) (by rfl) B.isinstance (by decide +kernel) (pa_cons (pv 1) (pa_cons (pe_bltn (v := .ty "int") (by rfl) B.int (by decide +kernel) rfl) pa_nil)))) (pss_one (ps_ret (pe_and (pe_callB (k_isi K rfl) (by rfl) B.isinstance (by decide +kernel) (pa_cons (pv 0) (pa_cons (pe_bltn (v := .ty "int") (by rfl) B.int (by decide +kernel) rfl) pa_nil))) (pe_one (pe_cmpR op_eq (pv 0) (pv 1) (nomark _)))))) pss_nil)
      (pss_cons (ps_if (pt_val (pe_callB (k_isi K rfl) (by rfl) B.isinstance (by decide +kernel) (pa_cons (pv 1) (pa_cons (pe_bltn (v := .ty "str") (by rfl) B.str (by decide +kernel) rfl) pa_nil)))) (pss_one (ps_ret (pe_and (pe_callB (k_isi K rfl) (by rfl) B.isinstance (by decide +kernel) (pa_cons (pv 0) (pa_cons (pe_bltn (v := .ty "str") (by rfl) B.str (by decide +kernel) rfl) pa_nil))) (pe_one (pe_cmpR op_eq (pv 0) (pv 1) (nomark _)))))) pss_nil)
      (pss_cons (ps_if (PW.pt (pw_or (pt_cmpR op_ne (pe_callB (k_isi K rfl) (by rfl) B.isinstance (by decide +kernel) (pa_cons (pv 1) (pa_cons (pe_bltn (v := .ty "tuple") (by rfl) B.tuple (by decide +kernel) rfl) pa_nil))) (pe_callB (k_isi K rfl) (by rfl) B.isinstance (by decide +kernel) (pa_cons (pv 0) (pa_cons (pe_bltn (v := .ty "tuple") (by rfl) B.tuple (by decide +kernel) rfl) pa_nil))) (nomark _)) (pw_or1 (pt_cmpR op_ne (pe_callB (k_isi K rfl) (by rfl) B.isinstance (by decide +kernel) (pa_cons (pv 1) (pa_cons (pe_bltn (v := .ty "list") (by rfl) B.list (by decide +kernel) rfl) pa_nil))) (pe_callB (k_isi K rfl) (by rfl) B.isinstance (by decide +kernel) (pa_cons (pv 0) (pa_cons (pe_bltn (v := .ty "list") (by rfl) B.list (by decide +kernel) rfl) pa_nil))) (nomark _))))) (pss_one (ps_ret pe_bl)) pss_nil)
      (pss_one (ps_ret (pe_and (pe_cmpR op_eq (pe_callB (k_len K rfl) (by rfl) B.len PySem.boot_len (pa_cons (pv 0) pa_nil)) (pe_callB (k_len K rfl) (by rfl) B.len PySem.boot_len (pa_cons (pv 1) pa_nil)) (nomark _)) (pe_one (pe_callB (k_all K rfl rfl) (by rfl) B.all (by decide +kernel) (pa_cons (pe_lc (own := [("_law_one", 2), ("_law_other", 3)]) (g := gTup _ 2 (gCons (gName 2) (gCons (gName 3) gNil))) (tt := tYes) rfl sc_law_same.nd (RZ.pi_zipA (by rfl) B.zip (pa_cons (pv 0) (pa_cons (pv 1) pa_nil))) (blkOk_by (own := [("_law_one", 2), ("_law_other", 3)]) (N := N_law_same) (sc := defScope s_law_same) (by decide +kernel)) (fun _ _ _ _ _ => (pg_tup rfl (pgs_cons (pg_name (i := 2) sc_law_same.nd rfl (by first | exact .inl rfl | exact .inr rfl)) (pgs_cons (pg_name (i := 3) sc_law_same.nd rfl (by first | exact .inl rfl | exact .inr rfl)) pgs_nil)))) (fun _ _ _ _ _ => pts_nil) (fun _ _ _ _ _ => (pe_cc c__law_same hr (by omega) (by rfl) (pa_cons (pv 2) (pa_cons (pv 3) pa_nil))))) pa_nil))))))))))), ?_⟩
  cases d with
  | none =>
    cases r1
    cases r2
    exact ⟨_, rfl, rfl, _, rfl, _, rfl, rfl, q H (Same.refl H)⟩
  | bool x =>
    cases r1
    cases r2
    refine ⟨_, rfl, rfl, _, rfl, iteNN (fun z => by cases z) ?_⟩
    refine ⟨_, rfl, _, _, _, _, true, rfl, .ty _, .base (.bl _), kit_ty (by decide +kernel), _, rfl, ?_⟩
    refine ⟨_, rfl, _, _, _, _, true, rfl, .ty _, .base (.bl _), kit_ty (by decide +kernel), _, rfl, ?_⟩
    refine ⟨_, rfl, _, _, _, _, true, rfl, .ty _, .base (.bl _), kit_ty (by decide +kernel), _, rfl, ?_⟩
    refine ⟨_, rfl, _, rfl, rfl, ?_⟩
    rw [decide_eq_true rfl]
    exact q H (Same.refl H)
  | int x =>
    cases r1
    cases r2
    refine ⟨_, rfl, rfl, _, rfl, iteNN (fun z => by cases z) ?_⟩
    refine ⟨_, rfl, _, _, _, _, false, rfl, .ty _, .base (.int _), kit_ty (by decide +kernel), _, rfl, ?_⟩
    refine ⟨_, rfl, _, _, _, _, false, rfl, .ty _, .base (.int _), kit_ty (by decide +kernel), _, rfl, ?_⟩
    refine ⟨_, rfl, _, _, _, _, true, rfl, .ty _, .base (.int _), kit_ty (by decide +kernel), _, rfl, ?_⟩
    refine ⟨_, rfl, _, _, _, _, true, rfl, .ty _, .base (.int _), kit_ty (by decide +kernel), _, rfl, ?_⟩
    refine ⟨_, rfl, _, rfl, rfl, ?_⟩
    rw [decide_eq_true rfl]
    exact q H (Same.refl H)
  | str x =>
    cases r1
    cases r2
    refine ⟨_, rfl, rfl, _, rfl, iteNN (fun z => by cases z) ?_⟩
    refine ⟨_, rfl, _, _, _, _, false, rfl, .ty _, .base (.str _), kit_ty (by decide +kernel), _, rfl, ?_⟩
    refine ⟨_, rfl, _, _, _, _, false, rfl, .ty _, .base (.str _), kit_ty (by decide +kernel), _, rfl, ?_⟩
    refine ⟨_, rfl, _, _, _, _, false, rfl, .ty _, .base (.str _), kit_ty (by decide +kernel), _, rfl, ?_⟩
    refine ⟨_, rfl, _, _, _, _, true, rfl, .ty _, .base (.str _), kit_ty (by decide +kernel), _, rfl, ?_⟩
    refine ⟨_, rfl, _, _, _, _, true, rfl, .ty _, .base (.str _), kit_ty (by decide +kernel), _, rfl, ?_⟩
    refine ⟨_, rfl, _, rfl, rfl, ?_⟩
    rw [decide_eq_true rfl]
    exact q H (Same.refl H)
  | list ds =>
    cases r1 with
    | @lst a xs _ ha ra =>
    cases r2 with
    | @lst b ys _ hb rb =>
    unfold fits at hf
    simp only [Bool.and_eq_true, decide_eq_true_eq] at hf
    have hxl := ra.len
    have hyl := rb.len
    refine ⟨_, rfl, rfl, _, rfl, iteNN (fun z => by cases z) ?_⟩
    refine ⟨_, rfl, _, _, _, _, false, rfl, .ty _, .base (.lst (sh _ _ hb)), kit_ty (by decide +kernel), _, rfl, ?_⟩
    refine ⟨_, rfl, _, _, _, _, false, rfl, .ty _, .base (.lst (sh _ _ ha)), kit_ty (by decide +kernel), _, rfl, ?_⟩
    refine ⟨_, rfl, _, _, _, _, false, rfl, .ty _, .base (.lst (sh _ _ hb)), kit_ty (by decide +kernel), _, rfl, ?_⟩
    refine ⟨_, rfl, _, _, _, _, false, rfl, .ty _, .base (.lst (sh _ _ hb)), kit_ty (by decide +kernel), _, rfl, ?_⟩
    refine ⟨_, rfl, _, _, _, _, false, rfl, .ty _, .base (.lst (sh _ _ hb)), kit_ty (by decide +kernel), _, rfl, _, _, _, _, false, rfl, .ty _, .base (.lst (sh _ _ ha)), kit_ty (by decide +kernel), rfl, _, rfl, ?_⟩
    refine ⟨_, rfl, _, _, _, _, true, rfl, .ty _, .base (.lst (sh _ _ hb)), kit_ty (by decide +kernel), _, rfl, _, _, _, _, true, rfl, .ty _, .base (.lst (sh _ _ ha)), kit_ty (by decide +kernel), rfl, _, rfl, ?_⟩
    refine ⟨_, rfl, _, _, rfl, .inl ⟨xs, SqL.of (sh _ _ ha), rfl⟩, _, rfl, _, _, rfl, .inl ⟨ys, SqL.of (sh _ _ hb), rfl⟩, rfl, _, rfl, ?_⟩
    rw [show decide (V.int (xs.length : Int) = V.int (ys.length : Int)) = true by rw [hxl, hyl]; exact decide_eq_true rfl]
    refine ⟨_, rfl, _, rfl, a, b, xs, ys, rfl, .inl ⟨SqL.of (sh _ _ ha), SqL.of (sh _ _ hb), fun D hD => ?_⟩⟩
    refine lcw pureW (Same.refl H) hD (walk_zip (n := ds.length) (by omega)) (fun i acc _ => acc = List.replicate i (V.bl true)) rfl (by omega) (fun S' H' g _ => ⟨SqL.of (g.same _ _ (sh _ _ ha)), SqL.of (g.same _ _ (sh _ _ hb))⟩)
      (fun i x S1 H1 H1' acc hi g1 W1 s1 e1 hI hy put skip => ?_) (fun S1 H1 acc g1 W1 s1 e1 l1 hI => ?_)
    · obtain ⟨T, x1, y1, rfl, hT, rfl, hx1, hy1⟩ := hy
      obtain ⟨d1, hd1, rx⟩ := ra.get hx1
      obtain ⟨d2, hd2, ry⟩ := rb.get hy1
      have e12 := Option.some.inj (hd1.symm.trans hd2)
      subst e12
      have gT := same_new (o := .tup [x1, y1]) hT
      have sa := (sh.trans g1.same).trans gT
      refine ⟨T, [x1, y1], rfl, SqT.of upd_same, rfl, x1, [y1], rfl, y1, [], rfl, rfl, rfl, ?_⟩
      refine ⟨_, rfl, _, rfl, Sh, d1, x1, y1, m - 1, rfl, by omega, sa, rx, ry, fitsL_get hf.2 hd1, fun H4 g4 => ?_⟩
      refine put (Gr.of_same (gT.trans g4)) (W1.trans (gT.trans g4)) ?_
      rw [hI, List.replicate_succ']
    · refine ⟨D, List.replicate ds.length true, rfl, SqL.of ?_, ?_⟩
      · rw [e1, hI, List.map_replicate]
      · rw [show (List.replicate ds.length true).all id = true by simp]
        exact q _ g1.same
  | tuple ds =>
    cases r1 with
    | @tup a xs _ ha ra =>
    cases r2 with
    | @tup b ys _ hb rb =>
    unfold fits at hf
    simp only [Bool.and_eq_true, decide_eq_true_eq] at hf
    have hxl := ra.len
    have hyl := rb.len
    refine ⟨_, rfl, rfl, _, rfl, iteNN (fun z => by cases z) ?_⟩
    refine ⟨_, rfl, _, _, _, _, false, rfl, .ty _, .base (.tup (sh _ _ hb)), kit_ty (by decide +kernel), _, rfl, ?_⟩
    refine ⟨_, rfl, _, _, _, _, false, rfl, .ty _, .base (.tup (sh _ _ ha)), kit_ty (by decide +kernel), _, rfl, ?_⟩
    refine ⟨_, rfl, _, _, _, _, false, rfl, .ty _, .base (.tup (sh _ _ hb)), kit_ty (by decide +kernel), _, rfl, ?_⟩
    refine ⟨_, rfl, _, _, _, _, false, rfl, .ty _, .base (.tup (sh _ _ hb)), kit_ty (by decide +kernel), _, rfl, ?_⟩
    refine ⟨_, rfl, _, _, _, _, true, rfl, .ty _, .base (.tup (sh _ _ hb)), kit_ty (by decide +kernel), _, rfl, _, _, _, _, true, rfl, .ty _, .base (.tup (sh _ _ ha)), kit_ty (by decide +kernel), rfl, _, rfl, ?_⟩
    refine ⟨_, rfl, _, _, _, _, false, rfl, .ty _, .base (.tup (sh _ _ hb)), kit_ty (by decide +kernel), _, rfl, _, _, _, _, false, rfl, .ty _, .base (.tup (sh _ _ ha)), kit_ty (by decide +kernel), rfl, _, rfl, ?_⟩
    refine ⟨_, rfl, _, _, rfl, .inr ⟨xs, SqT.of (sh _ _ ha), rfl⟩, _, rfl, _, _, rfl, .inr ⟨ys, SqT.of (sh _ _ hb), rfl⟩, rfl, _, rfl, ?_⟩
    rw [show decide (V.int (xs.length : Int) = V.int (ys.length : Int)) = true by rw [hxl, hyl]; exact decide_eq_true rfl]
    refine ⟨_, rfl, _, rfl, a, b, xs, ys, rfl, .inr ⟨SqT.of (sh _ _ ha), SqT.of (sh _ _ hb), fun D hD => ?_⟩⟩
    refine lcw pureW (Same.refl H) hD (walk_zipT (n := ds.length) (by omega)) (fun i acc _ => acc = List.replicate i (V.bl true)) rfl (by omega) (fun S' H' g _ => ⟨SqT.of (g.same _ _ (sh _ _ ha)), SqT.of (g.same _ _ (sh _ _ hb))⟩)
      (fun i x S1 H1 H1' acc hi g1 W1 s1 e1 hI hy put skip => ?_) (fun S1 H1 acc g1 W1 s1 e1 l1 hI => ?_)
    · obtain ⟨T, x1, y1, rfl, hT, rfl, hx1, hy1⟩ := hy
      obtain ⟨d1, hd1, rx⟩ := ra.get hx1
      obtain ⟨d2, hd2, ry⟩ := rb.get hy1
      have e12 := Option.some.inj (hd1.symm.trans hd2)
      subst e12
      have gT := same_new (o := .tup [x1, y1]) hT
      have sa := (sh.trans g1.same).trans gT
      refine ⟨T, [x1, y1], rfl, SqT.of upd_same, rfl, x1, [y1], rfl, y1, [], rfl, rfl, rfl, ?_⟩
      refine ⟨_, rfl, _, rfl, Sh, d1, x1, y1, m - 1, rfl, by omega, sa, rx, ry, fitsL_get hf.2 hd1, fun H4 g4 => ?_⟩
      refine put (Gr.of_same (gT.trans g4)) (W1.trans (gT.trans g4)) ?_
      rw [hI, List.replicate_succ']
    · refine ⟨D, List.replicate ds.length true, rfl, SqL.of ?_, ?_⟩
      · rw [e1, hI, List.map_replicate]
      · rw [show (List.replicate ds.length true).all id = true by simp]
        exact q _ g1.same
  | dict kvs => cases r1
theorem cal_law_same (F : Dfn K mg "_law_same" s_law_same) (B : Bt mg) : ∀ n, Cal P w K mg base n "_law_same" (sp_law_same n)
  | 0 => cal_zero F (ps := ["_law_found", "_law_due"]) (fun _ _ _ _ _ _ us hl => match us, hl with | [_, _], _ => rfl) (fun vs H Q E h => by
    obtain ⟨Sh, d, v, u, m, rfl, hm, _⟩ := h
    omega)
  | n + 1 => same_turn F B (cal_law_same F B n)
end

--USES heads03 prgs law_box law_same law_any
abbrev s_law : Stmt := topS 21
abbrev N_law : List Str := ["_law_script", "_law_box_here", "_law_signs", "_law_rows", "_law_turn", "_law_one", "_law_other", "_law_k", "_law_told"]
theorem sc_law : FnScope N_law ["_law_script"] (defScope s_law) := ⟨rfl, rfl, rfl, by decide +kernel, rfl, by decide +kernel, by decide +kernel⟩

theorem fitsL_strs : ∀ (l : List (List Nat)) (n : Nat), fitsL (l.map dS) n = true
  | [], n => rfl
  | x :: l, n => by
    show (fits (dS x) n && fitsL (l.map dS) n) = true
    rw [fitsL_strs l n]
    rfl
theorem fits_strs {l : List (List Nat)} {n : Nat} (h : l.length ≤ 10000) : fits (.list (l.map dS)) (n + 1) = true := by
  show (decide (1 ≤ n + 1) && decide ((l.map dS).length ≤ 10000) && fitsL (l.map dS) (n + 1 - 1)) = true
  rw [fitsL_strs, List.length_map, decide_eq_true h, decide_eq_true (show 1 ≤ n + 1 by omega)]
  rfl
theorem fits_told {i j : Int} {l : List (List Nat)} {n : Nat} (h : l.length ≤ 10000) : fits (.list [.int i, .int j, .list (l.map dS)]) (n + 2) = true := by
  show (decide (1 ≤ n + 2) && decide (3 ≤ 10000) && (true && (true && (fits (.list (l.map dS)) (n + 1) && true)))) = true
  rw [fits_strs h, decide_eq_true (show 1 ≤ n + 2 by omega)]
  rfl
theorem Rp.tm {Sh : Hp} {a : Addr} {xs : List V} {h : List Nat} {as : List Tm} (ha : Sh a = some (.tup (vs_ h :: xs))) (r : RpL Sh xs (tmsD as)) : Rp Sh (.ref a) (tmD (.mk h as)) := .tup ha (.cons (.str _) r)
structure TOk (D N : Nat) (t : Tm) : Prop where
  dp : dpt t ≤ D
  sz : szT t ≤ N
theorem TOk.mono {D N D' N' : Nat} {t : Tm} (o : TOk D N t) (h1 : D ≤ D') (h2 : N ≤ N') : TOk D' N' t := ⟨Nat.le_trans o.dp h1, Nat.le_trans o.sz h2⟩
theorem TOk.one {D N : Nat} {t : Tm} {h : List Nat} (o : TOk D N t) : TOk (D + 1) (N + 30) (.mk h [t]) := by
  refine ⟨?_, ?_⟩
  · show max (dpt t) 0 + 1 ≤ _
    have := o.dp
    omega
  · show (szT t + 0) + 1 ≤ _
    have := o.sz
    omega
theorem TOk.two {D N : Nat} {t u : Tm} {h : List Nat} (o : TOk D N t) (p : TOk 4 22 u) (hD : 4 ≤ D) : TOk (D + 1) (N + 30) (.mk h [t, u]) ∧ TOk (D + 1) (N + 30) (.mk h [u, t]) := by
  have a := o.dp
  have b := o.sz
  have c := p.dp
  have d := p.sz
  refine ⟨⟨?_, ?_⟩, ?_, ?_⟩
  · show max (dpt t) (max (dpt u) 0) + 1 ≤ _
    omega
  · show (szT t + (szT u + 0)) + 1 ≤ _
    omega
  · show max (dpt u) (max (dpt t) 0) + 1 ≤ _
    omega
  · show (szT u + (szT t + 0)) + 1 ≤ _
    omega
section
variable {P : Program} {w : World} {K : PySem.W.Frag} {mg : Str → Option Value} {base : Heap}
theorem ok_law {f : Addr} {fd : FuncData} (F : Fun K "law" "law" s_law f fd) (B : Bt mg) (c__law_box : Cal P w K mg base 1 "_law_box" (sp_law_box K))
    (c__law_take : Cal P w K mg base 1 "_law_take" sp_law_take) (c__law_any : Cal P w K mg base 2 "_law_any" (sp_law_any K)) (c__law_same : Cal P w K mg base 5 "_law_same" (sp_law_same 5)) (c__law_program : Cal P w K mg base 9 "_law_program" sp_law_program)
    (c_term_size : Cal P w K mg base 30 "term_size" (sp_size 30)) (c_term_depth : Cal P w K mg base 30 "term_depth" (sp_depth 30)) (c_term_heads : Cal P w K mg base 30 "term_heads" (sp_heads 30))
    (c__law_size : Cal P w K mg base 30 "_law_size" (sp_size 30)) (c__law_depth : Cal P w K mg base 30 "_law_depth" (sp_depth 30)) (c__law_heads : Cal P w K mg base 30 "_law_heads" (sp_heads 30)) : FnOk P w K mg base CX0 31 f fd ["_law_script"] (sp_law K) := by
  refine okf_of F sc_law (fun vs H Q E h => ?_) (fun cdv A outer s H vs Q E hr h => ?_)
  · obtain ⟨a, ns, rfl, _⟩ := h
    rfl
  obtain ⟨a, ns, rfl, hS, hl, q⟩ := h
  refine ⟨_, (pss_cons (ps_set (i := 1) sc_law.nd rfl (by first | exact .inl rfl | exact .inr rfl) (pe_cc c__law_box hr (by omega) (by rfl) (pa_cons (pv 0) pa_nil)))
      (pss_cons (ps_asg (pe_cc c__law_program hr (by omega) (by rfl) (pa_cons (pv 1) (pa_cons pe_int (pa_cons pe_int pa_nil)))) (pg_tup rfl (pgs_cons (pg_name (i := 2) sc_law.nd rfl (by first | exact .inl rfl | exact .inr rfl)) (pgs_cons (pg_name (i := 3) sc_law.nd rfl (by first | exact .inl rfl | exact .inr rfl)) pgs_nil))))
      (pss_cons (ps_for PassesOwn.never rfl (pi_range1 (by rfl) B.range (pa_cons pe_int pa_nil)) (pg_name (i := 4) sc_law.nd rfl (by first | exact .inl rfl | exact .inr rfl)) (pss_cons (ps_par (i := 5) (j := 6) rfl sc_law.nd rfl rfl (by decide) rfl rfl (pa_cons (pe_ix (k_ix_tup K rfl) (pe_cc c__law_any hr (by omega) (by rfl) (pa_cons (pv 1) (pa_cons (pv 3) pa_nil))) pe_int (fun _ _ => rfl)) (pa_cons (pe_ix (k_ix_tup K rfl) (pe_cc c__law_any hr (by omega) (by rfl) (pa_cons (pv 1) (pa_cons (pv 3) pa_nil))) pe_int (fun _ _ => rfl)) pa_nil)) (by rfl))
      (C8.pss_cut (ps_for PassesOwn.never rfl (pi_range1 (by rfl) B.range (pa_cons (pe_cc c__law_take hr (by omega) (by rfl) (pa_cons (pv 1) (pa_cons pe_int pa_nil))) pa_nil)) (pg_name (i := 7) sc_law.nd rfl (by first | exact .inl rfl | exact .inr rfl)) (pss_one (ps_set (i := 5) sc_law.nd rfl (by first | exact .inl rfl | exact .inr rfl) (pe_ix (k_ix_list K rfl) (pe_lst (pa_cons (pe_tup (pa_cons (pe_ix (k_ix_tup K rfl) (pv 6) pe_int (fun _ _ => rfl)) (pa_cons (pv 5) pa_nil))) (pa_cons (pe_tup (pa_cons pe_str (pa_cons (pv 5) (pa_cons (pv 6) pa_nil)))) (pa_cons (pe_tup (pa_cons pe_str (pa_cons (pv 6) (pa_cons (pv 5) pa_nil)))) pa_nil)))) (pe_ifExp (pt_cmpR op_lt (pv 7) pe_int (nomark _)) (pe_cc c__law_take hr (by omega) (by rfl) (pa_cons (pv 1) (pa_cons pe_int pa_nil))) pe_int) (fun _ _ => rfl)))))
      (pss_cons (ps_set (i := 8) sc_law.nd rfl (by first | exact .inl rfl | exact .inr rfl) (pe_cc c_term_heads hr (by omega) (by rfl) (pa_cons (pv 5) pa_nil)))
      (pss_cons (ps_if (pt_not (pt_val (pe_cc c__law_same hr (by omega) (by rfl) (pa_cons (pe_lst (pa_cons (pe_cc c_term_depth hr (by omega) (by rfl) (pa_cons (pv 5) pa_nil)) (pa_cons (pe_cc c_term_size hr (by omega) (by rfl) (pa_cons (pv 5) pa_nil)) (pa_cons (pv 8) pa_nil)))) (pa_cons (pe_lst (pa_cons (pe_cc c__law_depth hr (by omega) (by rfl) (pa_cons (pv 5) pa_nil)) (pa_cons (pe_cc c__law_size hr (by omega) (by rfl) (pa_cons (pv 5) pa_nil)) (pa_cons (pe_cc c__law_heads hr (by omega) (by rfl) (pa_cons (pv 5) pa_nil)) pa_nil)))) pa_nil))))) (pss_one (ps_ret pe_bl)) pss_nil)
      (pss_cons (ps_expr (pe_bm PySem.F.plainAttrs_list PySem.F.slot_list_append PySem.F.type_list_append mt_append (pv 8) (pa_cons pe_str pa_nil)))
      (pss_one (ps_if (pt_not (pt_val (pe_cc c__law_same hr (by omega) (by rfl) (pa_cons (pe_cc c_term_heads hr (by omega) (by rfl) (pa_cons (pv 5) pa_nil)) (pa_cons (pe_cc c__law_heads hr (by omega) (by rfl) (pa_cons (pv 5) pa_nil)) pa_nil))))) (pss_one (ps_ret pe_bl)) pss_nil))))))))
      (pss_one (ps_ret (pe_cc c__law_same hr (by omega) (by rfl) (pa_cons (pe_lst (pa_cons (pe_cc c_term_depth hr (by omega) (by rfl) (pa_cons (pe_tup (pa_cons pe_str pa_nil)) pa_nil)) (pa_cons (pe_cc c_term_size hr (by omega) (by rfl) (pa_cons (pe_tup (pa_cons pe_str pa_nil)) pa_nil)) (pa_cons (pe_cc c_term_heads hr (by omega) (by rfl) (pa_cons (pe_tup (pa_cons pe_str (pa_cons (pe_tup (pa_cons pe_str pa_nil)) (pa_cons (pe_tup (pa_cons pe_str pa_nil)) pa_nil)))) pa_nil)) pa_nil)))) (pa_cons (pe_lst (pa_cons pe_int (pa_cons pe_int (pa_cons (pe_lst (pa_cons pe_str (pa_cons pe_str pa_nil))) pa_nil)))) pa_nil)))))))), ?_⟩
  refine ⟨_, rfl, a, ns, rfl, hS, hl, fun S1 H1 b _ W1 => ?_⟩
  refine ⟨_, rfl, b, S1, 5, 3, rfl, W1, by decide, by decide, by decide, fun S2 H2 pa p g2 W2 rp hp => ?_⟩
  obtain ⟨sg, rws, xs, hpa, _, hrws, rxs⟩ := prg_parts rp
  refine ⟨pa, _, rfl, SqT.of (W2.sh _ _ hpa), rfl, _, _, rfl, _, _, rfl, rfl, ?_⟩
  have hxl : xs.length = 5 := by
    have z := rxs.len
    rw [List.length_map, hp.rl] at z
    exact z
  have hgb : gB (max 3 3) 3 = 22 := by decide
  have nrb : rws ≠ b := fun z => (boxW b).out W2 hrws (by rw [z]; exact List.mem_singleton.mpr rfl)
  -- any(box, rows)[2]
  refine ⟨6, rfl, by decide, by decide, ?_⟩
  refine forw (M := [b]) W2 walk_r0 (fun i σ' S' _ => Same S2 S' ∧ ∃ y4 y5 y6 y7 y8, σ' = [some (.ref a), some (.ref b), some (.ref sg), some (.ref rws), y4, y5, y6, y7, y8]) ⟨Same.refl _, _, _, _, _, _, rfl⟩ (fun _ _ _ _ _ _ _ => trivial)
    (fun i x σ' S3 H3 H3' hi g3 W3 hI hy => ?_) (fun σ' S3 H3 g3 W3 hI => ?_)
  · obtain ⟨e3, rfl⟩ := hy
    subst e3
    obtain ⟨ss3, y4, y5, y6, y7, y8, rfl⟩ := hI
    have draw : ∀ {r4 : Nat} {x4 : V}, xs[r4]? = some x4 → ∃ ra rt u r, x4 = .ref ra ∧ S3 ra = some (.tup [vs_ r, .ref rt, u]) ∧ ∃ t, Rp S3 u (tmD t) ∧ TOk 4 22 t := fun {r4 x4} h4 => by
      obtain ⟨r, hrr, rrow⟩ := rxs.getm h4
      obtain ⟨ra, rt, u, eu, hra, _, ru⟩ := rrow.row
      have hmem : r ∈ p.rows := List.mem_of_getElem? hrr
      have hb2 := (hp.bod r hmem).2
      exact ⟨ra, rt, u, r.1, eu, ss3 _ _ hra, r.2.2, Rp.mono ss3 _ _ ru, hb2.1, by have := hb2.2; omega⟩
    refine ⟨_, rfl, _, rfl, b, S3, W3, .inl ⟨rws, xs, rfl, nrb, SqL.of (W3.sh _ _ (ss3 _ _ hrws)), by omega, by omega, fun H4 r4 x4 g4 W4 hx4 => ?_⟩⟩
    obtain ⟨ra, rt, u, rr, rfl, hra, t1, ru1, to1⟩ := draw hx4
    refine ⟨ra, _, 2, u, rfl, rfl, SqT.of (W4.sh _ _ hra), atI_nat (j := 2) rfl, ?_⟩
    refine ⟨_, rfl, _, rfl, b, S3, W4, .inl ⟨rws, xs, rfl, nrb, SqL.of (W4.sh _ _ (ss3 _ _ hrws)), by omega, by omega, fun H5 r5 x5 g5 W5 hx5 => ?_⟩⟩
    obtain ⟨ra2, rt2, u2, rr2, rfl, hra2, t2, ru2, to2⟩ := draw hx5
    refine ⟨ra2, _, 2, u2, rfl, rfl, SqT.of (W5.sh _ _ hra2), atI_nat (j := 2) rfl, ?_⟩
    obtain ⟨h2, as2⟩ := t2
    obtain ⟨ao, xo, rfl, hao, rxo⟩ := ru2.term
    -- the wraps
    refine ⟨_, _, rfl, ?_⟩
    refine ⟨fun σ' H' => ∃ (S' : Hp) (v : V) (t : Tm) (y4 y7 y8 : Option V), σ' = [some (.ref a), some (.ref b), some (.ref sg), some (.ref rws), y4, some v, some (.ref ao), y7, y8] ∧ Gr [b] S3 H3' S' H' ∧ Wd b S' H' ∧ Rp S' v (tmD t) ∧ TOk 24 622 t, ?_, fun σ' H' hM => ?_⟩
    · refine ⟨_, rfl, b, S3, 21, rfl, W5, by decide, by decide, fun H6 r6 g6 W6 h6 => ?_⟩
      refine ⟨_, rfl, by omega, by omega, ?_⟩
      refine forw (M := [b]) W6 walk_r0 (fun j σ' S' _ => ∃ (v : V) (t : Tm) (y4 y7 y8 : Option V), σ' = [some (.ref a), some (.ref b), some (.ref sg), some (.ref rws), y4, some v, some (.ref ao), y7, y8] ∧ Same S3 S' ∧ Rp S' v (tmD t) ∧ TOk (4 + j) (22 + 30 * j) t) ⟨u, t1, _, _, _, rfl, Same.refl _, ru1, to1⟩ (fun _ _ _ _ _ _ _ => trivial)
        (fun j x σ' S7 H7 H7' hj g7 W7 hI hy => ?_) (fun σ' S7 H7 g7 W7 hI => ?_)
      · obtain ⟨e7, rfl⟩ := hy
        subst e7
        obtain ⟨v, t, z4, z7, z8, rfl, ss7, rv, to⟩ := hI
        refine ⟨_, rfl, ao, _, 0, vs_ h2, rfl, rfl, SqT.of (W7.sh _ _ (ss7 _ _ hao)), atI_nat (j := 0) rfl, _, rfl, (by show 2 ≤ sizeLine; decide), fun T1 hT1 => ?_⟩
        have WA := (boxW b).new (o := .tup [vs_ h2, v]) W7 hT1
        have GA := (Gr.refl [b] S7 H7').new (o := .tup [vs_ h2, v]) W7.sh hT1
        refine ⟨_, rfl, _, rfl, (by show 3 ≤ sizeLine; decide), fun T2 hT2 => ?_⟩
        have WB := (boxW b).new (o := .tup [.str "wrap", v, .ref ao]) WA hT2
        have GB := GA.new (o := .tup [.str "wrap", v, .ref ao]) WA.sh hT2
        refine ⟨_, rfl, _, rfl, (by show 3 ≤ sizeLine; decide), fun T3 hT3 => ?_⟩
        have WC := (boxW b).new (o := .tup [.str "Two", .ref ao, v]) WB hT3
        have GC := GB.new (o := .tup [.str "Two", .ref ao, v]) WB.sh hT3
        refine ⟨(by show 3 ≤ sizeLine; decide), fun L hL => ?_⟩
        have gL := same_new (o := .lst [.ref T1, .ref T2, .ref T3]) hL
        have WL := (boxW b).same WC gL
        have GL := GC.trans (Gr.of_same (M := [b]) gL)
        have nLb : L ∉ [b] := (boxW b).fresh WC hL
        have some3 : ∀ {r8 : Nat}, r8 < 3 → ∃ (x8 : V) (t8 : Tm), [V.ref T1, V.ref T2, V.ref T3][r8]? = some x8 ∧ Rp (upd (upd (upd S7 T1 (.tup [vs_ h2, v])) T2 (.tup [.str "wrap", v, .ref ao])) T3 (.tup [.str "Two", .ref ao, v])) x8 (tmD t8) ∧ TOk (4 + (j + 1)) (22 + 30 * (j + 1)) t8 := fun {r8} h8 => by
          have rv' := Rp.mono GC.ss _ _ rv
          have ro' := Rp.mono (ss7.trans GC.ss) _ _ ru2
          have nT : ∀ {A : Addr} {o : HO}, upd S7 T1 (.tup [vs_ h2, v]) A = some o → upd (upd (upd S7 T1 (.tup [vs_ h2, v])) T2 (.tup [.str "wrap", v, .ref ao])) T3 (.tup [.str "Two", .ref ao, v]) A = some o := fun {A o} h =>
            same_new (WB.sh.free hT3) _ _ (same_new (WA.sh.free hT2) _ _ h)
          have ew : (Str.ofString "wrap") = S [119, 114, 97, 112] := by decide +kernel
          have et : (Str.ofString "Two") = S [84, 119, 111] := by decide +kernel
          obtain rfl | rfl | rfl : r8 = 0 ∨ r8 = 1 ∨ r8 = 2 := by omega
          · exact ⟨_, .mk h2 [t], rfl, Rp.tm (xs := [v]) (nT upd_same) (.cons rv' .nil), to.one.mono (by omega) (by omega)⟩
          · exact ⟨_, .mk [119, 114, 97, 112] [t, .mk h2 as2], rfl, Rp.tm (xs := [v, .ref ao]) (same_new (WB.sh.free hT3) _ _ (by rw [upd_same, ew])) (.cons rv' (.cons ro' .nil)), (to.two to2 (by omega)).1.mono (by omega) (by omega)⟩
          · exact ⟨_, .mk [84, 119, 111] [.mk h2 as2, t], rfl, Rp.tm (xs := [.ref ao, v]) (by rw [upd_same, et]) (.cons ro' (.cons rv' .nil)), (to.two to2 (by omega)).2.mono (by omega) (by omega)⟩
        refine ⟨_, rfl, _, _, rfl, rfl, _, rfl, ite2 (fun c1 => ?_) (fun c1 => ?_)⟩
        · refine ⟨_, rfl, b, _, 3, rfl, WL, by decide, by decide, fun H8 r8 g8 W8 h8 => ?_⟩
          obtain ⟨x8, t8, hx8, rx8, to8⟩ := some3 (r8 := r8) (by omega)
          refine ⟨L, _, (r8 : Int), x8, rfl, rfl, SqL.of (g8.kp _ _ nLb upd_same), atI_nat hx8, ?_⟩
          exact ⟨_, g7.trans (GL.trans g8), W8, x8, t8, _, _, _, rfl, ss7.trans GC.ss, rx8, to8⟩
        · obtain ⟨x8, t8, hx8, rx8, to8⟩ := some3 (show 0 < 3 by decide)
          refine ⟨L, _, 0, x8, rfl, rfl, SqL.of upd_same, atI_nat (j := 0) hx8, ?_⟩
          exact ⟨_, g7.trans GL, WL, x8, t8, _, _, _, rfl, ss7.trans GC.ss, rx8, to8⟩
      · obtain ⟨v, t, z4, z7, z8, rfl, ss7, rv, to⟩ := hI
        have h3 : Int.toNat (r6 : Int) = r6 := Int.toNat_natCast _
        rw [h3] at to
        exact ⟨S7, v, t, _, _, _, rfl, ((g4.trans g5).trans g6).trans g7, W7, rv, to.mono (by omega) (by omega)⟩
    obtain ⟨S8, v8, t8, z4, z7, z8, rfl, G8, W8, rv8, to8⟩ := hM
    have hdp := to8.dp
    have hsz := to8.sz
    have hhl := hdsT_len t8
    -- told = term_heads(one)
    refine ⟨_, rfl, S8, v8, t8, rfl, W8.sh, rv8, by omega, by omega, fun H9 tl g9 n9 htl => ?_⟩
    refine ⟨_, rfl, S8, v8, t8, rfl, W8.sh.trans g9, rv8, by omega, by omega, fun H10 g10 => ?_⟩
    refine ⟨_, rfl, S8, v8, t8, rfl, (W8.sh.trans g9).trans g10, rv8, by omega, by omega, fun H11 g11 => ?_⟩
    have q11 := (g9.trans g10).trans g11
    refine ⟨_, rfl, (by show 3 ≤ sizeLine; decide), fun L1 hL1 => ?_⟩
    have q12 := same_new (o := .lst [vn (dpt t8), vn (szT t8), .ref tl]) hL1
    refine ⟨_, rfl, S8, v8, t8, rfl, (W8.sh.trans q11).trans q12, rv8, by omega, by omega, fun H13 g13 => ?_⟩
    refine ⟨_, rfl, S8, v8, t8, rfl, ((W8.sh.trans q11).trans q12).trans g13, rv8, by omega, by omega, fun H14 g14 => ?_⟩
    have q14 := g13.trans g14
    refine ⟨_, rfl, S8, v8, t8, rfl, ((W8.sh.trans q11).trans q12).trans q14, rv8, by omega, by omega, fun H15 lh g15 n15 hlh => ?_⟩
    refine ⟨(by show 3 ≤ sizeLine; decide), fun L2 hL2 => ?_⟩
    have q16 := same_new (o := .lst [vn (dpt t8), vn (szT t8), .ref lh]) hL2
    have htl11 := g11 _ _ (g10 _ _ htl)
    have htl16 := q16 _ _ (g15 _ _ (q14 _ _ (q12 _ _ htl11)))
    refine ⟨_, .list [.int (dpt t8), .int (szT t8), .list ((hdsT t8).map dS)], _, _, 4, rfl, by decide, Same.refl _, .lst (q16 _ _ (g15 _ _ (q14 _ _ upd_same))) (.cons (.int _) (.cons (.int _) (.cons (.lst htl16 (RpL.strs _)) .nil))), .lst upd_same (.cons (.int _) (.cons (.int _) (.cons (.lst (q16 _ _ hlh) (RpL.strs _)) .nil))), fits_told (by omega), fun H17 g17 => ?_⟩
    have Q17 := (((q11.trans q12).trans q14).trans g15).trans (q16.trans g17)
    have htl17 := g17 _ _ htl16
    refine ⟨_, rfl, ?_⟩
    -- told.append('x')
    refine ⟨_, rfl, .inl ⟨rfl, _, SqL.of htl17⟩, tl, _, _, rfl, rfl, htl17, szl _ (by rw [List.length_map]; omega), ?_⟩
    have nt3 : H3' tl = none := G8.back n9
    have W17 := (boxW b).same W8 Q17
    have W18 := (boxW b).chg (o := .lst ((hdsT t8).map vs_ ++ [.str "x"])) W17 (W8.sh.free n9) ((boxW b).fresh W8 n9)
    have G18 := (G8.trans (Gr.of_same (M := [b]) Q17)).chg (o := .lst ((hdsT t8).map vs_ ++ [.str "x"])) nt3
    -- again
    refine ⟨_, rfl, S8, v8, t8, rfl, W18.sh, rv8, by omega, by omega, fun H19 p1 g19 n19 hp1 => ?_⟩
    refine ⟨_, rfl, S8, v8, t8, rfl, W18.sh.trans g19, rv8, by omega, by omega, fun H20 p2 g20 n20 hp2 => ?_⟩
    refine ⟨_, .list ((hdsT t8).map dS), _, _, 4, rfl, by decide, Same.refl _, .lst (g20 _ _ hp1) (RpL.strs _), .lst hp2 (RpL.strs _), fits_strs (by omega), fun H21 g21 => ?_⟩
    refine ⟨_, rfl, ?_⟩
    have Q21 := (g19.trans g20).trans g21
    exact ⟨S8, g3.trans (G18.trans (Gr.of_same Q21)), (boxW b).same W18 Q21, ss3.trans G8.ss, _, _, _, _, _, rfl⟩
  · obtain ⟨ss3, y4, y5, y6, y7, y8, rfl⟩ := hI
    have ea : (Str.ofString "a") = S [97] := by decide +kernel
    have eb : (Str.ofString "b") = S [98] := by decide +kernel
    refine ⟨(by show 1 ≤ sizeLine; decide), fun q1 hq1 => ?_⟩
    refine ⟨_, .ref q1, .mk [97] [], rfl, Same.refl _, Rp.tm (xs := []) (by rw [upd_same, ea]) .nil, by decide, by decide, fun H4 g4 => ?_⟩
    refine ⟨(by show 1 ≤ sizeLine; decide), fun q2 hq2 => ?_⟩
    refine ⟨_, .ref q2, .mk [97] [], rfl, Same.refl _, Rp.tm (xs := []) (by rw [upd_same, ea]) .nil, by decide, by decide, fun H5 g5 => ?_⟩
    refine ⟨(by show 1 ≤ sizeLine; decide), fun q3 hq3 => ?_⟩
    refine ⟨(by show 1 ≤ sizeLine; decide), fun q4 hq4 => ?_⟩
    refine ⟨(by show 3 ≤ sizeLine; decide), fun q5 hq5 => ?_⟩
    have k4 := same_new (o := .tup [.str "a"]) hq4
    have k5 := same_new (o := .tup [.str "a", .ref q3, .ref q4]) hq5
    refine ⟨_, .ref q5, .mk [97] [.mk [98] [], .mk [97] []], rfl, Same.refl _, Rp.tm (xs := [.ref q3, .ref q4]) (by rw [upd_same, ea]) (.cons (Rp.tm (xs := []) (k5 _ _ (k4 _ _ (by rw [upd_same, eb]))) .nil) (.cons (Rp.tm (xs := []) (k5 _ _ (by rw [upd_same, ea])) .nil) .nil)), by decide, by decide, fun H6 p6 g6 n6 hp6 => ?_⟩
    refine ⟨(by show 3 ≤ sizeLine; decide), fun L1 hL1 => ?_⟩
    refine ⟨(by show 2 ≤ sizeLine; decide), fun L2 hL2 => ?_⟩
    refine ⟨(by show 3 ≤ sizeLine; decide), fun L3 hL3 => ?_⟩
    have m1 := same_new (o := .lst [vn (dpt (.mk [97] [])), vn (szT (.mk [97] [])), .ref p6]) hL1
    have m2 := same_new (o := .lst [.str "a", .str "b"]) hL2
    have m3 := same_new (o := .lst [.int 1, .int 1, .ref L2]) hL3
    have hp6' : H6 p6 = some (.lst [.str "a", .str "b"]) := by
      rw [hp6, ea, eb]
      rfl
    refine ⟨_, .list [.int 1, .int 1, .list [.str "a", .str "b"]], _, _, 4, rfl, by decide, Same.refl _, .lst (m3 _ _ (m2 _ _ upd_same)) (.cons (.int _) (.cons (.int _) (.cons (.lst (m3 _ _ (m2 _ _ (m1 _ _ hp6'))) (.cons (.str _) (.cons (.str _) .nil))) .nil))), .lst upd_same (.cons (.int _) (.cons (.int _) (.cons (.lst (m3 _ _ upd_same) (.cons (.str _) (.cons (.str _) .nil))) .nil))), by decide, fun H8 _ => q _⟩
theorem all_law {f : Addr} {fd : FuncData} (F : Fun K "law" "law" s_law f fd) (B : Bt mg) (D_term_depth : Dfn K mg "term_depth" s_term_depth) (D_term_size : Dfn K mg "term_size" s_term_size) (D_term_heads : Dfn K mg "term_heads" s_term_heads) (D__law_box : Dfn K mg "_law_box" s_law_box) (D__law_take : Dfn K mg "_law_take" s_law_take) (D__law_any : Dfn K mg "_law_any" s_law_any) (D__law_same : Dfn K mg "_law_same" s_law_same)
    (D__law_letters : Dfn K mg "_law_letters" s_law_letters) (D__law_words : Dfn K mg "_law_words" s_law_words) (D__law_names : Dfn K mg "_law_names" s_law_names) (D__law_signature : Dfn K mg "_law_signature" s_law_signature) (D__law_plan : Dfn K mg "_law_plan" s_law_plan) (D__law_fun : Dfn K mg "_law_fun" s_law_fun) (D__law_part : Dfn K mg "_law_part" s_law_part) (D__law_tree : Dfn K mg "_law_tree" s_law_tree) (D__law_program : Dfn K mg "_law_program" s_law_program)
    (D__law_size : Dfn K mg "_law_size" s_law_size) (D__law_depth : Dfn K mg "_law_depth" s_law_depth) (D__law_heads : Dfn K mg "_law_heads" s_law_heads) : FnOk P w K mg base CX0 31 f fd ["_law_script"] (sp_law K) := by
  have c3 := cal_law_take (P := P) (w := w) (base := base) D__law_take B
  have c4 := cal_law_any D__law_any B c3
  have c5 := cal_law_letters D__law_letters B c3 c4
  have c6 := cal_gen D__law_tree D__law_fun D__law_part B c3 3
  have c7 := cal_law_program D__law_program B c3 (cal_law_words D__law_words B c3 c5) (cal_law_names D__law_names B c3 c4 c5) (cal_law_signature D__law_signature B c3) (cal_law_plan D__law_plan B c3) c6.1
  exact ok_law F B (cal_law_box D__law_box B) c3 c4 (cal_law_same D__law_same B 5) c7 (cal_term_size D_term_size B 30) (cal_term_depth D_term_depth B 30) (cal_term_heads D_term_heads B 30) (cal_law_size D__law_size B 30) (cal_law_depth D__law_depth B 30) (cal_law_heads D__law_heads B 30)
end
--END 31 term_depth term_size term_heads _law_box _law_take _law_any _law_same _law_letters _law_words _law_names _law_signature _law_plan _law_fun _law_part _law_tree _law_program _law_size _law_depth _law_heads |

theorem all_mk {l : PySem.W.OpenLaw} {w : World} {K : PySem.W.Frag} {h : Heap} {mg : Str → Option Value} {fa f0 f1 f2 f3 f4 f5 f6 f7 f8 f9 f10 f11 f12 f13 f14 f15 f16 f17 f18 f19 : Addr} (X : K.In h) (G : h.Ns mainGlobals mg) (hfa : mg "law" = some (.ref fa))
    {od0 an0 od1 an1 od2 an2 od3 an3 od4 an4 od5 an5 od6 an6 od7 an7 od8 an8 od9 an9 od10 an10 od11 an11 od12 an12 od13 an13 od14 an14 od15 an15 od16 an16 od17 an17 od18 an18 od19 an19 : Option Addr} {sl0 sl1 sl2 sl3 sl4 sl5 sl6 sl7 sl8 sl9 sl10 sl11 sl12 sl13 sl14 sl15 sl16 sl17 sl18 sl19 : Array (Option Value)} {oc0 kV0 dc0 pm0 cd0 ct0 oc1 kV1 dc1 pm1 cd1 ct1 oc2 kV2 dc2 pm2 cd2 ct2 oc3 kV3 dc3 pm3 cd3 ct3 oc4 kV4 dc4 pm4 cd4 ct4 oc5 kV5 dc5 pm5 cd5 ct5 oc6 kV6 dc6 pm6 cd6 ct6 oc7 kV7 dc7 pm7 cd7 ct7 oc8 kV8 dc8 pm8 cd8 ct8 oc9 kV9 dc9 pm9 cd9 ct9 oc10 kV10 dc10 pm10 cd10 ct10 oc11 kV11 dc11 pm11 cd11 ct11 oc12 kV12 dc12 pm12 cd12 ct12 oc13 kV13 dc13 pm13 cd13 ct13 oc14 kV14 dc14 pm14 cd14 ct14 oc15 kV15 dc15 pm15 cd15 ct15 oc16 kV16 dc16 pm16 cd16 ct16 oc17 kV17 dc17 pm17 cd17 ct17 oc18 kV18 dc18 pm18 cd18 ct18 oc19 kV19 dc19 pm19 cd19 ct19 : Value}
    (a0 : PySem.W.nsIn K mainGlobals "term_depth" = some (some (.ref f0))) (l0 : K.lookup f0 = some ⟨oc0, od0, .func (PySem.W.fnOf "term_depth" "term_depth" (defArgs s_term_depth) (defBody s_term_depth) (defScope s_term_depth) .none kV0 dc0 pm0 an0 cd0 ct0), sl0⟩) (c0 : PySem.W.codeIn K cd0 "term_depth" = true) (k0 : PySem.W.keepIn K (.ref f0) = true)
    (a1 : PySem.W.nsIn K mainGlobals "term_size" = some (some (.ref f1))) (l1 : K.lookup f1 = some ⟨oc1, od1, .func (PySem.W.fnOf "term_size" "term_size" (defArgs s_term_size) (defBody s_term_size) (defScope s_term_size) .none kV1 dc1 pm1 an1 cd1 ct1), sl1⟩) (c1 : PySem.W.codeIn K cd1 "term_size" = true) (k1 : PySem.W.keepIn K (.ref f1) = true)
    (a2 : PySem.W.nsIn K mainGlobals "term_heads" = some (some (.ref f2))) (l2 : K.lookup f2 = some ⟨oc2, od2, .func (PySem.W.fnOf "term_heads" "term_heads" (defArgs s_term_heads) (defBody s_term_heads) (defScope s_term_heads) .none kV2 dc2 pm2 an2 cd2 ct2), sl2⟩) (c2 : PySem.W.codeIn K cd2 "term_heads" = true) (k2 : PySem.W.keepIn K (.ref f2) = true)
    (a3 : PySem.W.nsIn K mainGlobals "_law_box" = some (some (.ref f3))) (l3 : K.lookup f3 = some ⟨oc3, od3, .func (PySem.W.fnOf "_law_box" "_law_box" (defArgs s_law_box) (defBody s_law_box) (defScope s_law_box) .none kV3 dc3 pm3 an3 cd3 ct3), sl3⟩) (c3 : PySem.W.codeIn K cd3 "_law_box" = true) (k3 : PySem.W.keepIn K (.ref f3) = true)
    (a4 : PySem.W.nsIn K mainGlobals "_law_take" = some (some (.ref f4))) (l4 : K.lookup f4 = some ⟨oc4, od4, .func (PySem.W.fnOf "_law_take" "_law_take" (defArgs s_law_take) (defBody s_law_take) (defScope s_law_take) .none kV4 dc4 pm4 an4 cd4 ct4), sl4⟩) (c4 : PySem.W.codeIn K cd4 "_law_take" = true) (k4 : PySem.W.keepIn K (.ref f4) = true)
    (a5 : PySem.W.nsIn K mainGlobals "_law_any" = some (some (.ref f5))) (l5 : K.lookup f5 = some ⟨oc5, od5, .func (PySem.W.fnOf "_law_any" "_law_any" (defArgs s_law_any) (defBody s_law_any) (defScope s_law_any) .none kV5 dc5 pm5 an5 cd5 ct5), sl5⟩) (c5 : PySem.W.codeIn K cd5 "_law_any" = true) (k5 : PySem.W.keepIn K (.ref f5) = true)
    (a6 : PySem.W.nsIn K mainGlobals "_law_same" = some (some (.ref f6))) (l6 : K.lookup f6 = some ⟨oc6, od6, .func (PySem.W.fnOf "_law_same" "_law_same" (defArgs s_law_same) (defBody s_law_same) (defScope s_law_same) .none kV6 dc6 pm6 an6 cd6 ct6), sl6⟩) (c6 : PySem.W.codeIn K cd6 "_law_same" = true) (k6 : PySem.W.keepIn K (.ref f6) = true)
    (a7 : PySem.W.nsIn K mainGlobals "_law_letters" = some (some (.ref f7))) (l7 : K.lookup f7 = some ⟨oc7, od7, .func (PySem.W.fnOf "_law_letters" "_law_letters" (defArgs s_law_letters) (defBody s_law_letters) (defScope s_law_letters) .none kV7 dc7 pm7 an7 cd7 ct7), sl7⟩) (c7 : PySem.W.codeIn K cd7 "_law_letters" = true) (k7 : PySem.W.keepIn K (.ref f7) = true)
    (a8 : PySem.W.nsIn K mainGlobals "_law_words" = some (some (.ref f8))) (l8 : K.lookup f8 = some ⟨oc8, od8, .func (PySem.W.fnOf "_law_words" "_law_words" (defArgs s_law_words) (defBody s_law_words) (defScope s_law_words) .none kV8 dc8 pm8 an8 cd8 ct8), sl8⟩) (c8 : PySem.W.codeIn K cd8 "_law_words" = true) (k8 : PySem.W.keepIn K (.ref f8) = true)
    (a9 : PySem.W.nsIn K mainGlobals "_law_names" = some (some (.ref f9))) (l9 : K.lookup f9 = some ⟨oc9, od9, .func (PySem.W.fnOf "_law_names" "_law_names" (defArgs s_law_names) (defBody s_law_names) (defScope s_law_names) .none kV9 dc9 pm9 an9 cd9 ct9), sl9⟩) (c9 : PySem.W.codeIn K cd9 "_law_names" = true) (k9 : PySem.W.keepIn K (.ref f9) = true)
    (a10 : PySem.W.nsIn K mainGlobals "_law_signature" = some (some (.ref f10))) (l10 : K.lookup f10 = some ⟨oc10, od10, .func (PySem.W.fnOf "_law_signature" "_law_signature" (defArgs s_law_signature) (defBody s_law_signature) (defScope s_law_signature) .none kV10 dc10 pm10 an10 cd10 ct10), sl10⟩) (c10 : PySem.W.codeIn K cd10 "_law_signature" = true) (k10 : PySem.W.keepIn K (.ref f10) = true)
    (a11 : PySem.W.nsIn K mainGlobals "_law_plan" = some (some (.ref f11))) (l11 : K.lookup f11 = some ⟨oc11, od11, .func (PySem.W.fnOf "_law_plan" "_law_plan" (defArgs s_law_plan) (defBody s_law_plan) (defScope s_law_plan) .none kV11 dc11 pm11 an11 cd11 ct11), sl11⟩) (c11 : PySem.W.codeIn K cd11 "_law_plan" = true) (k11 : PySem.W.keepIn K (.ref f11) = true)
    (a12 : PySem.W.nsIn K mainGlobals "_law_fun" = some (some (.ref f12))) (l12 : K.lookup f12 = some ⟨oc12, od12, .func (PySem.W.fnOf "_law_fun" "_law_fun" (defArgs s_law_fun) (defBody s_law_fun) (defScope s_law_fun) .none kV12 dc12 pm12 an12 cd12 ct12), sl12⟩) (c12 : PySem.W.codeIn K cd12 "_law_fun" = true) (k12 : PySem.W.keepIn K (.ref f12) = true)
    (a13 : PySem.W.nsIn K mainGlobals "_law_part" = some (some (.ref f13))) (l13 : K.lookup f13 = some ⟨oc13, od13, .func (PySem.W.fnOf "_law_part" "_law_part" (defArgs s_law_part) (defBody s_law_part) (defScope s_law_part) .none kV13 dc13 pm13 an13 cd13 ct13), sl13⟩) (c13 : PySem.W.codeIn K cd13 "_law_part" = true) (k13 : PySem.W.keepIn K (.ref f13) = true)
    (a14 : PySem.W.nsIn K mainGlobals "_law_tree" = some (some (.ref f14))) (l14 : K.lookup f14 = some ⟨oc14, od14, .func (PySem.W.fnOf "_law_tree" "_law_tree" (defArgs s_law_tree) (defBody s_law_tree) (defScope s_law_tree) .none kV14 dc14 pm14 an14 cd14 ct14), sl14⟩) (c14 : PySem.W.codeIn K cd14 "_law_tree" = true) (k14 : PySem.W.keepIn K (.ref f14) = true)
    (a15 : PySem.W.nsIn K mainGlobals "_law_program" = some (some (.ref f15))) (l15 : K.lookup f15 = some ⟨oc15, od15, .func (PySem.W.fnOf "_law_program" "_law_program" (defArgs s_law_program) (defBody s_law_program) (defScope s_law_program) .none kV15 dc15 pm15 an15 cd15 ct15), sl15⟩) (c15 : PySem.W.codeIn K cd15 "_law_program" = true) (k15 : PySem.W.keepIn K (.ref f15) = true)
    (a16 : PySem.W.nsIn K mainGlobals "_law_size" = some (some (.ref f16))) (l16 : K.lookup f16 = some ⟨oc16, od16, .func (PySem.W.fnOf "_law_size" "_law_size" (defArgs s_law_size) (defBody s_law_size) (defScope s_law_size) .none kV16 dc16 pm16 an16 cd16 ct16), sl16⟩) (c16 : PySem.W.codeIn K cd16 "_law_size" = true) (k16 : PySem.W.keepIn K (.ref f16) = true)
    (a17 : PySem.W.nsIn K mainGlobals "_law_depth" = some (some (.ref f17))) (l17 : K.lookup f17 = some ⟨oc17, od17, .func (PySem.W.fnOf "_law_depth" "_law_depth" (defArgs s_law_depth) (defBody s_law_depth) (defScope s_law_depth) .none kV17 dc17 pm17 an17 cd17 ct17), sl17⟩) (c17 : PySem.W.codeIn K cd17 "_law_depth" = true) (k17 : PySem.W.keepIn K (.ref f17) = true)
    (a18 : PySem.W.nsIn K mainGlobals "_law_heads" = some (some (.ref f18))) (l18 : K.lookup f18 = some ⟨oc18, od18, .func (PySem.W.fnOf "_law_heads" "_law_heads" (defArgs s_law_heads) (defBody s_law_heads) (defScope s_law_heads) .none kV18 dc18 pm18 an18 cd18 ct18), sl18⟩) (c18 : PySem.W.codeIn K cd18 "_law_heads" = true) (k18 : PySem.W.keepIn K (.ref f18) = true)
    (a19 : PySem.W.nsIn K mainGlobals "law" = some (some (.ref f19))) (l19 : K.lookup f19 = some ⟨oc19, od19, .func (PySem.W.fnOf "law" "law" (defArgs s_law) (defBody s_law) (defScope s_law) .none kV19 dc19 pm19 an19 cd19 ct19), sl19⟩) (c19 : PySem.W.codeIn K cd19 "law" = true) (k19 : PySem.W.keepIn K (.ref f19) = true)
    (z0 : PySem.W.nsIn K mainGlobals "len" = some none)    (z1 : PySem.W.nsIn K mainGlobals "int" = some none)    (z2 : PySem.W.nsIn K mainGlobals "str" = some none)    (z3 : PySem.W.nsIn K mainGlobals "bool" = some none)    (z4 : PySem.W.nsIn K mainGlobals "tuple" = some none)    (z5 : PySem.W.nsIn K mainGlobals "list" = some none)    (z6 : PySem.W.nsIn K mainGlobals "all" = some none)    (z7 : PySem.W.nsIn K mainGlobals "any" = some none)    (z8 : PySem.W.nsIn K mainGlobals "isinstance" = some none)    (z9 : PySem.W.nsIn K mainGlobals "range" = some none)    (z10 : PySem.W.nsIn K mainGlobals "zip" = some none)    (z11 : PySem.W.nsIn K mainGlobals "enumerate" = some none)    (z12 : PySem.W.nsIn K mainGlobals "sum" = some none)    (z13 : PySem.W.nsIn K mainGlobals "max" = some none)    (z14 : PySem.W.nsIn K mainGlobals "min" = some none)    (z15 : PySem.W.nsIn K mainGlobals "sorted" = some none)
 :
    ∃ fd : FuncData, (∀ (s : Shared) (v : Value), BindsTo s fd ⟨[v], []⟩ [("_law_script", v)]) ∧ ∀ base : Heap, K.In base → base.Ns mainGlobals mg → FnOk l.prog w K mg base CX0 31 fa fd ["_law_script"] (sp_law K) := by
  have e := hfa.symm.trans (PySem.W.mg_of X G a19)
  cases e
  have B : Bt mg := ⟨PySem.W.mg_none_of X G z0, PySem.W.mg_none_of X G z1, PySem.W.mg_none_of X G z2, PySem.W.mg_none_of X G z3, PySem.W.mg_none_of X G z4, PySem.W.mg_none_of X G z5, PySem.W.mg_none_of X G z6, PySem.W.mg_none_of X G z7, PySem.W.mg_none_of X G z8, PySem.W.mg_none_of X G z9, PySem.W.mg_none_of X G z10, PySem.W.mg_none_of X G z11, PySem.W.mg_none_of X G z12, PySem.W.mg_none_of X G z13, PySem.W.mg_none_of X G z14, PySem.W.mg_none_of X G z15⟩
  exact ⟨_, fun s v => .of_eq rfl, fun base _ _ => all_law (fun_mk (st := s_law) l19 c19 k19) B (dfn_mk X G a0 l0 c0 k0) (dfn_mk X G a1 l1 c1 k1) (dfn_mk X G a2 l2 c2 k2) (dfn_mk X G a3 l3 c3 k3) (dfn_mk X G a4 l4 c4 k4) (dfn_mk X G a5 l5 c5 k5) (dfn_mk X G a6 l6 c6 k6) (dfn_mk X G a7 l7 c7 k7) (dfn_mk X G a8 l8 c8 k8) (dfn_mk X G a9 l9 c9 k9) (dfn_mk X G a10 l10 c10 k10) (dfn_mk X G a11 l11 c11 k11) (dfn_mk X G a12 l12 c12 k12) (dfn_mk X G a13 l13 c13 k13) (dfn_mk X G a14 l14 c14 k14) (dfn_mk X G a15 l15 c15 k15) (dfn_mk X G a16 l16 c16 k16) (dfn_mk X G a17 l17 c17 k17) (dfn_mk X G a18 l18 c18 k18) ⟩
end G48
open PySem PySem.W PyProof.Rows
set_option maxRecDepth 100000 in
set_option maxHeartbeats 0 in
theorem PySem.Challenge.cw_lendbough_k03_sizes_of_terms_holds : PySem.Challenge.rw_lendbough_k03_sizes_of_terms.Holds := by
  w_on; o_law; k_head; (case hw => w_witness2)
  k_fill
  refine L2.walk_of (l := PySem.Challenge.rw_lendbough_k03_sizes_of_terms) (n := 63) (k := 31) (x := "_law_script") (CX := fun _ => L2.CX0) (sp := fun w => G48.sp_law _) rfl (by decide) rfl ⟨rfl, by decide, by decide⟩ (fun w h Y => PySem.W.kIn_of Y) ?F (fun _ _ a ns hl _ hS => ⟨a, ns, rfl, hS, hl, fun _ => rfl⟩) (fun _ _ _ _ _ h => h)
  case F =>
    intro w mg fa h KX G hmg
    refine' G48.all_mk KX G hmg ?a0 ?l0 ?c0 ?k0 ?a1 ?l1 ?c1 ?k1 ?a2 ?l2 ?c2 ?k2 ?a3 ?l3 ?c3 ?k3 ?a4 ?l4 ?c4 ?k4 ?a5 ?l5 ?c5 ?k5 ?a6 ?l6 ?c6 ?k6 ?a7 ?l7 ?c7 ?k7 ?a8 ?l8 ?c8 ?k8 ?a9 ?l9 ?c9 ?k9 ?a10 ?l10 ?c10 ?k10 ?a11 ?l11 ?c11 ?k11 ?a12 ?l12 ?c12 ?k12 ?a13 ?l13 ?c13 ?k13 ?a14 ?l14 ?c14 ?k14 ?a15 ?l15 ?c15 ?k15 ?a16 ?l16 ?c16 ?k16 ?a17 ?l17 ?c17 ?k17 ?a18 ?l18 ?c18 ?k18 ?a19 ?l19 ?c19 ?k19 ?z0 ?z1 ?z2 ?z3 ?z4 ?z5 ?z6 ?z7 ?z8 ?z9 ?z10 ?z11 ?z12 ?z13 ?z14 ?z15
    (case a0 => k_is)
    (case l0 => k_is)
    (case c0 => k_is)
    (case k0 => k_is)
    (case a1 => k_is)
    (case l1 => k_is)
    (case c1 => k_is)
    (case k1 => k_is)
    (case a2 => k_is)
    (case l2 => k_is)
    (case c2 => k_is)
    (case k2 => k_is)
    (case a3 => k_is)
    (case l3 => k_is)
    (case c3 => k_is)
    (case k3 => k_is)
    (case a4 => k_is)
    (case l4 => k_is)
    (case c4 => k_is)
    (case k4 => k_is)
    (case a5 => k_is)
    (case l5 => k_is)
    (case c5 => k_is)
    (case k5 => k_is)
    (case a6 => k_is)
    (case l6 => k_is)
    (case c6 => k_is)
    (case k6 => k_is)
    (case a7 => k_is)
    (case l7 => k_is)
    (case c7 => k_is)
    (case k7 => k_is)
    (case a8 => k_is)
    (case l8 => k_is)
    (case c8 => k_is)
    (case k8 => k_is)
    (case a9 => k_is)
    (case l9 => k_is)
    (case c9 => k_is)
    (case k9 => k_is)
    (case a10 => k_is)
    (case l10 => k_is)
    (case c10 => k_is)
    (case k10 => k_is)
    (case a11 => k_is)
    (case l11 => k_is)
    (case c11 => k_is)
    (case k11 => k_is)
    (case a12 => k_is)
    (case l12 => k_is)
    (case c12 => k_is)
    (case k12 => k_is)
    (case a13 => k_is)
    (case l13 => k_is)
    (case c13 => k_is)
    (case k13 => k_is)
    (case a14 => k_is)
    (case l14 => k_is)
    (case c14 => k_is)
    (case k14 => k_is)
    (case a15 => k_is)
    (case l15 => k_is)
    (case c15 => k_is)
    (case k15 => k_is)
    (case a16 => k_is)
    (case l16 => k_is)
    (case c16 => k_is)
    (case k16 => k_is)
    (case a17 => k_is)
    (case l17 => k_is)
    (case c17 => k_is)
    (case k17 => k_is)
    (case a18 => k_is)
    (case l18 => k_is)
    (case c18 => k_is)
    (case k18 => k_is)
    (case a19 => k_is)
    (case l19 => k_is)
    (case c19 => k_is)
    (case k19 => k_is)
    (case z0 => k_is)
    (case z1 => k_is)
    (case z2 => k_is)
    (case z3 => k_is)
    (case z4 => k_is)
    (case z5 => k_is)
    (case z6 => k_is)
    (case z7 => k_is)
    (case z8 => k_is)
    (case z9 => k_is)
    (case z10 => k_is)
    (case z11 => k_is)
    (case z12 => k_is)
    (case z13 => k_is)
    (case z14 => k_is)
    (case z15 => k_is)
