import PyProof.Rows.All
import Wide.All
import OpenK.AllK
import Wide.FinOn
import HandS.ForMost
import HandS.IsInst
import HandS.Zip
import HandS.TupAny
import HandS.Walk
import HandS.Conv
import HandS.Deep
import HandS.Codes
import KE.GoesEnum
import KE.OsArith
import HandS.SortKw
import KE.DatumOrd
import HandS.Exc
import HandS.WordsExc
import HandS.ExcOwn
import HandS.ExcInit
import HandS.ExcField
import HandS.TryMany
import HandS.Lambda
import HandS.EndTab
import HandS.HeadWalk
import HandS.HeadHook4
import HandS.Head2
import KE.KExcInit
import HandS.FStr
import HandS.Star
import HandS.ClsMeth
import HandS.Dict
import HandS.DictComp
import KE.GoesZip
import KE.GoesMore
import KE.KTupSum
import HandS.TupMul
import HandS.OwnEq
import HandS.Style
import KE.KDflt
import HandS.Iter
import PySem.Challenge.RW_lendbough_k07_signatures_refused
set_option Elab.async false
set_option linter.all false
set_option maxRecDepth 100000
set_option maxHeartbeats 4000000
/-! Our layer over HandS: callables by name, the persistent heap, the box. -/
namespace G48
open PySem PySem.Spec PyProof.Rows L2 SX

/-! ### callables by name -/
structure Dfn (K : PySem.W.Frag) (mg : Str → Option Value) (x : Str) (st : Stmt) : Prop where
  ex : ∃ f fd, Fun K x x st f fd ∧ mg x = some (.ref f)
structure Cal (P : Program) (w : World) (K : PySem.W.Frag) (mg : Str → Option Value) (base : Heap) (k : Nat) (x : Str) (sp : Sp) : Prop where
  ex : ∃ (f : Addr) (fd : FuncData) (ps : List Str), FnOk P w K mg base CX0 k f fd ps sp ∧ mg x = some (.ref f) ∧ PySem.W.keepIn K (.ref f) = true ∧ Binds K fd ps []
section
variable {P : Program} {w : World} {K : PySem.W.Frag} {mg : Str → Option Value} {base : Heap}
theorem cal_of {x : Str} {st : Stmt} {N ps : List Str} {k : Nat} {sp : Sp} (D : Dfn K mg x st) (S : FnScope N ps (defScope st))
    (hb : ∀ (kV doc pm : Value) (an : Option Addr) (cdv ct : Value) (us : List Value), us.length = ps.length → bindArgs (PySem.W.fnOf x x (defArgs st) (defBody st) (defScope st) .none kV doc pm an cdv ct) ⟨us, []⟩ = pure (ps.zip us))
    (len : ∀ vs H Q E, sp vs H Q E → vs.length = ps.length)
    (hbody : ∀ (f : Addr) (cdv : Value) (A : Around) (outer : List Env) (s : Shared) (H : Hp) (vs : List V) (Q : VK) (E : XK), Room k (A.deeper (envOfC x (defScope st) s.heap.objs.size f cdv)) → sp vs H Q E →
      ∃ t, PSs (cxOf CX0 P w K mg base N x (defScope st) f cdv A outer s H E).nox (defBody st) t ∧ t { nx := fun _ H' => Q .non H', rt := Q } (start N vs) H) : Cal P w K mg base (k + 1) x sp := by
  obtain ⟨f, fd, F, hm⟩ := D.ex
  exact ⟨f, fd, ps, F.ok S len (fun cdv A outer s H vs Q E hr h => hbody f cdv A outer s H vs Q E hr h), hm, F.kp, F.binds hb⟩
/-- the law itself -/
theorem okf_of {x : Str} {st : Stmt} {N ps : List Str} {k : Nat} {sp : Sp} {f : Addr} {fd : FuncData} (F : Fun K x x st f fd) (S : FnScope N ps (defScope st)) (len : ∀ vs H Q E, sp vs H Q E → vs.length = ps.length)
    (hbody : ∀ (cdv : Value) (A : Around) (outer : List Env) (s : Shared) (H : Hp) (vs : List V) (Q : VK) (E : XK), Room k (A.deeper (envOfC x (defScope st) s.heap.objs.size f cdv)) → sp vs H Q E →
      ∃ t, PSs (cxOf CX0 P w K mg base N x (defScope st) f cdv A outer s H E).nox (defBody st) t ∧ t { nx := fun _ H' => Q .non H', rt := Q } (start N vs) H) : FnOk P w K mg base CX0 (k + 1) f fd ps sp :=
  F.ok S len hbody
theorem dfn_mk {x : Str} {st : Stmt} {h : Heap} {f : Addr} {oc : Value} {od an : Option Addr} {osl : Array (Option Value)} {kV doc pm cdv ct : Value} (X : K.In h) (G : h.Ns mainGlobals mg) (a : PySem.W.nsIn K mainGlobals x = some (some (.ref f)))
    (l : K.lookup f = some ⟨oc, od, .func (PySem.W.fnOf x x (defArgs st) (defBody st) (defScope st) .none kV doc pm an cdv ct), osl⟩) (c : PySem.W.codeIn K cdv x = true) (k : PySem.W.keepIn K (.ref f) = true) : Dfn K mg x st :=
  ⟨f, _, fun_mk l c k, PySem.W.mg_of X G a⟩
/-- a def that calls itself: at level 0 nothing can be asked -/
theorem cal_zero {x : Str} {st : Stmt} {ps : List Str} {sp : Sp} (D : Dfn K mg x st)
    (hb : ∀ (kV doc pm : Value) (an : Option Addr) (cdv ct : Value) (us : List Value), us.length = ps.length → bindArgs (PySem.W.fnOf x x (defArgs st) (defBody st) (defScope st) .none kV doc pm an cdv ct) ⟨us, []⟩ = pure (ps.zip us))
    (no : ∀ vs H Q E, ¬ sp vs H Q E) : Cal P w K mg base 0 x sp := by
  obtain ⟨f, fd, F, hm⟩ := D.ex
  exact ⟨f, fd, ps, ⟨fun vs H Q E h => absurd h (no vs H Q E), fun A outer s H args us vs Q E _ _ _ _ h => absurd h (no vs H Q E)⟩, hm, F.kp, F.binds hb⟩
theorem Cal.mono {x : Str} {j k : Nat} {sp : Sp} (c : Cal P w K mg base j x sp) (h : j ≤ k) : Cal P w K mg base k x sp := by
  obtain ⟨f, fd, ps, F, r⟩ := c.ex
  exact ⟨f, fd, ps, F.mono h, r⟩
theorem Cal.imp {x : Str} {k : Nat} {sp sp' : Sp} (c : Cal P w K mg base k x sp) (h : ∀ vs H Q E, sp' vs H Q E → sp vs H Q E) : Cal P w K mg base k x sp' := by
  obtain ⟨f, fd, ps, F, r⟩ := c.ex
  exact ⟨f, fd, ps, F.imp h, r⟩
end
section
variable {X : Cx} {k j : Nat} {x : Str} {sp : Sp} {p pos : Pos} {e : Expr} {es : List Expr} {t : TA}
theorem pe_cc (c : Cal X.prog X.w X.K X.mg X.base k x sp) (hr : Room j X.A) (hk : k ≤ j) (hg : Gl X x) (ha : PA X (e :: es) t)
    (hdb : (x == ("__debug__" : Str)) = false := by decide) (he : starEach (e :: es) X.env = (false, eval e X.env) :: starEach es X.env := by rfl) (hpl : (backTo pos (starEach es X.env)).any (·.1) = false := by rfl) :
    PE X (.Call (.Name x p) (e :: es) [] pos) (tCall sp [] E0 t) := by
  obtain ⟨f, fd, ps, F, hm, kp, b⟩ := c.ex
  exact pe_call F (hr.mono hk) hg hm kp b .nil pass0 ha hdb he hpl
/-- a module's constant -/
def Gv (mg : Str → Option Value) (x : Str) (v : V) : Prop := ∃ u, mg x = some u ∧ RelV v u
theorem pe_gv {x : Str} {pos : Pos} {v : V} (hg : Gl X x) (h : Gv X.mg x v) (hdb : (x == ("__debug__" : Str)) = false := by decide) : PE X (.Name x pos) (tC v) := by
  obtain ⟨u, hm, r⟩ := h
  exact pe_glob hg hm r hdb
end
/-- the built-ins' names are free -/
structure Bt (mg : Str → Option Value) : Prop where
  len : mg "len" = none
  int : mg "int" = none
  str : mg "str" = none
  bool : mg "bool" = none
  tuple : mg "tuple" = none
  list : mg "list" = none
  all : mg "all" = none
  any : mg "any" = none
  isinstance : mg "isinstance" = none
  range : mg "range" = none
  zip : mg "zip" = none
  enumerate : mg "enumerate" = none
  sum : mg "sum" = none
  max : mg "max" = none
  min : mg "min" = none
  sorted : mg "sorted" = none
  dict : mg "dict" = none
  repr : mg "repr" = none
  divmod : mg "divmod" = none

/-! ### rules that name the written part K itself (for the inside of comprehensions) -/
def rLenQ (K : PySem.W.Frag) : List V → Hp → VK → Prop := fun xs H Q => ∃ p ys, xs = [.ref p] ∧ (SqL K H p ys ∨ SqT K H p ys) ∧ Q (.int ys.length) H
def rLenA (K : PySem.W.Frag) : List V → Hp → VK → Prop := fun xs H Q => ∃ x n, xs = [x] ∧ LenV K x H n ∧ Q (.int n) H
def rListO (K : PySem.W.Frag) : List V → Hp → VK → Prop := fun xs H Q => ∃ p ys, xs = [.ref p] ∧ (SqL K H p ys ∨ SqT K H p ys) ∧ ∀ l, H l = none → Q (.ref l) (upd H l (.lst ys))
def rTupO (K : PySem.W.Frag) : List V → Hp → VK → Prop := fun xs H Q => ∃ p ys, xs = [.ref p] ∧ ((SqL K H p ys ∧ ∀ l, H l = none → Q (.ref l) (upd H l (.tup ys))) ∨ (SqT K H p ys ∧ Q (.ref p) H))
def rJoin (K : PySem.W.Frag) : V → List V → Hp → VK → Prop := fun x xs H Q => ∃ a p, ∃ ys : List Str, x = .str a ∧ xs = [.ref p] ∧ (SqL K H p (ys.map V.str) ∨ SqT K H p (ys.map V.str)) ∧ (ys.map (·.length)).sum + ys.length * a.length ≤ 16777216 ∧ Q (.str (Txt.join a ys)) H
section
variable {X : Cx} (K : PySem.W.Frag) (h : X.K = K)
include h
theorem k_ix_list : IxR X (rIxL K) := by subst h; exact ix_list
theorem k_ix_tup : IxR X (rIxT K) := by subst h; exact ix_tup
theorem k_ix_seq : IxR X (rIx K) := by subst h; exact ix_seq
theorem k_sl_list : SlR X (rSlL K) := by subst h; exact sl_list
theorem k_sl_tupA : SlR X (rSlA K) := by subst h; exact sl_tupA
theorem k_op_in_seq : OpR X (compareOp .In) (rIn K false) := by subst h; exact op_in_seq
theorem k_op_notIn_seq : OpR X (compareOp .NotIn) (rIn K true) := by subst h; exact op_notIn_seq
theorem k_op_catA : OpR X (binaryOp .Add) (rCatA K) := by subst h; exact op_catA
theorem k_op_eqD (hu : X.A.units + 64 < cLine) : OpR X (compareOp .Eq) (rEqD K) := by subst h; exact op_eqD hu
theorem k_op_neD (hu : X.A.units + 64 < cLine) : OpR X (compareOp .NotEq) (rNeD K) := by subst h; exact op_neD hu
theorem k_len_seq : CallR X (.builtin "len") (rLenQ K) := by subst h; exact call_len_seq
theorem k_len : CallR X (.builtin "len") (rLenA K) := by subst h; exact call_len
theorem k_list_of : CallR X (.type "list") (rListO K) := by subst h; exact call_list_of
theorem k_tuple_of : CallR X (.type "tuple") (rTupO K) := by subst h; exact call_tuple_of
theorem k_isi : CallR X (.builtin "isinstance") (rIsi K) := by subst h; exact call_isi
theorem k_all (hc : X.calm = true) : CallR X (.builtin "all") (rAll K) := by subst h; exact cr_all hc
theorem k_any (hc : X.calm = true) : CallR X (.builtin "any") (rAny K) := by subst h; exact cr_any hc
theorem k_sum (hc : X.calm = true) : CallR X (.builtin "sum") (rSum K) := by subst h; exact cr_sum hc
theorem k_max (hc : X.calm = true) : CallR X (.builtin "max") (rMax K) := by subst h; exact cr_max hc
end
section
variable {X : Cx} {o e : Expr} {es : List Expr} {to te : TE} {t : TA} {name : Str} {apos cpos : Pos} {T id : String} {r : V → List V → Hp → VK → Prop}
theorem k_bm0 (K : PySem.W.Frag) (h : X.K = K) (pa : PlainAttrs T) (slot : Slot T name id) (hty : typeOf (.builtin id) = pure (.type "method_descriptor")) (hm : MtR X id r) (ho : PE X o to)
    (hbase : attributeBase o name X.env (eval o X.env) = eval o X.env := by rfl) (hline : (apos.endLine == cpos.line) = true := by rfl) : PE X (.Call (.Attribute o name apos) [] [] cpos) (tBM0 K T r to) := by
  subst h
  exact pe_bm0 pa slot hty hm ho hbase hline
theorem k_join (K : PySem.W.Frag) (h : X.K = K) {pos : Pos} (ho : PE X o to) (he : PE X e te) (hs : starEach [e] X.env = [(false, eval e X.env)] := by rfl) (hbase : attributeBase o "join" X.env (eval o X.env) = eval o X.env := by rfl) (hline : (apos.endLine == pos.line) = true := by rfl) :
    PE X (.Call (.Attribute o "join" apos) [e] [] pos) (tM1 (rJoin K) to te) := by
  subst h
  exact pe_join ho he hs hbase hline
end
/-! ### heaps: a persistent part -/
theorem same_new {H : Hp} {p : Addr} {o : HO} (h : H p = none) : Same H (upd H p o) := fun b u q => by rw [upd_ne (ne_of_none q h)]; exact q
theorem same_t {K : PySem.W.Frag} {H H' : Hp} {a : Addr} {xs : List V} (e : Same H H') (h : SqT K H a xs) : SqT K H' a xs := by
  rcases h with (h | ⟨o, h⟩) | h
  · exact .inl (.inl (e _ _ h))
  · exact .inl (.inr ⟨o, e _ _ h⟩)
  · exact .inr h
theorem upd_mono {S H : Hp} {p : Addr} {o : HO} (h : Same S H) : Same (upd S p o) (upd H p o) := fun b u q => by
  by_cases e : b = p
  · subst e
    rw [upd_same] at q ⊢
    exact q
  · rw [upd_ne e] at q ⊢
    exact h _ _ q
structure Gr (M : List Addr) (S H S' H' : Hp) : Prop where
  ss : Same S S'
  kp : ∀ a o, a ∉ M → H a = some o → H' a = some o
  nw : ∀ a, H a ≠ none → S a = none → S' a = none
  tr : ∀ a, H a ≠ none → H' a ≠ none
theorem Gr.refl (M : List Addr) (S H : Hp) : Gr M S H S H := ⟨Same.refl _, fun _ _ _ h => h, fun _ _ h => h, fun _ h => h⟩
theorem Gr.trans {M : List Addr} {S H S1 H1 S2 H2 : Hp} (a : Gr M S H S1 H1) (b : Gr M S1 H1 S2 H2) : Gr M S H S2 H2 :=
  ⟨a.ss.trans b.ss, fun x o m h => b.kp x o m (a.kp x o m h), fun x h s => b.nw x (a.tr x h) (a.nw x h s), fun x h => b.tr x (a.tr x h)⟩
theorem some_ne {H : Hp} {a : Addr} {o : HO} (h : H a = some o) : H a ≠ none := by rw [h]; exact fun z => nomatch z
theorem ne_nn {H : Hp} {a p : Addr} (e : H a ≠ none) (h : H p = none) : a ≠ p := by
  intro z
  subst z
  exact e h
theorem Gr.of_same {M : List Addr} {S H H' : Hp} (h : Same H H') : Gr M S H S H' :=
  ⟨Same.refl _, fun a o _ e => h a o e, fun _ _ e => e, fun a e => by
    cases q : H a with
    | none => exact absurd q e
    | some o => exact some_ne (h a o q)⟩
theorem Gr.sub {M M' : List Addr} {S H S' H' : Hp} (g : Gr M S H S' H') (h : ∀ a ∈ M, a ∈ M') : Gr M' S H S' H' := ⟨g.ss, fun a o m e => g.kp a o (fun z => m (h a z)) e, g.nw, g.tr⟩
theorem Gr.same {S H S' H' : Hp} (g : Gr [] S H S' H') : Same H H' := fun a o e => g.kp a o (fun z => nomatch z) e
/-- a new object, known to last | not -/
theorem Gr.new {M : List Addr} {S0 H0 S H : Hp} {p : Addr} {o : HO} (g : Gr M S0 H0 S H) (sh : Same S H) (h : H p = none) : Gr M S0 H0 (upd S p o) (upd H p o) := by
  have hs : S p = none := sh.free h
  refine g.trans ⟨same_new hs, fun a u _ e => same_new h a u e, fun a e s => ?_, fun a e => ?_⟩
  · rw [upd_ne (ne_nn e h)]
    exact s
  · by_cases z : a = p
    · subst z
      rw [upd_same]
      exact fun z => nomatch z
    · rw [upd_ne z]
      exact e
theorem Gr.chg {M : List Addr} {S0 H0 S H : Hp} {p : Addr} {o : HO} (g : Gr M S0 H0 S H) (h : H0 p = none) : Gr M S0 H0 S (upd H p o) := by
  refine ⟨g.ss, fun a u m e => ?_, g.nw, fun a e => ?_⟩
  · rw [upd_ne (ne_of_none e h)]
    exact g.kp a u m e
  · rw [upd_ne (ne_nn e h)]
    exact g.tr a e
/-- a list of one's own is left as it is from now on -/
theorem Gr.keep {M : List Addr} {S0 H0 S H : Hp} {p : Addr} {o : HO} (g : Gr M S0 H0 S H) (h : H0 p = none) (hs : S p = none) : Gr M S0 H0 (upd S p o) H :=
  ⟨g.ss.trans (same_new hs), g.kp, fun a e s => by
    rw [upd_ne (ne_nn e h)]
    exact g.nw a e s, g.tr⟩
theorem Gr.fromNew {M : List Addr} {S H S' H' : Hp} {p : Addr} {o : HO} (h : H p = none) (g : Gr M S (upd H p o) S' H') : Gr M S H S' H' := ((Gr.refl M S H).chg h).trans g
theorem Gr.back {M : List Addr} {S H S' H' : Hp} {p : Addr} (g : Gr M S H S' H') (h : H' p = none) : H p = none := by
  cases q : H p with
  | none => rfl
  | some o => exact absurd h (g.tr p (some_ne q))

/-- a world: what is kept of the persistent part S and the heap H; M: what may be changed by whoever is called -/
structure Wld (M : List Addr) (Wr : Hp → Hp → Prop) : Prop where
  sh : ∀ {S H : Hp}, Wr S H → Same S H
  nm : ∀ {S H : Hp}, Wr S H → ∀ m ∈ M, S m = none ∧ H m ≠ none
  gr : ∀ {S H S' H' : Hp}, Wr S H → Gr [] S H S' H' → Same S' H' → Wr S' H'
  chg : ∀ {S H : Hp} {p : Addr} {o : HO}, Wr S H → S p = none → p ∉ M → Wr S (upd H p o)
  keep : ∀ {S H : Hp} {p : Addr} {o : HO}, Wr S H → S p = none → p ∉ M → H p = some o → Wr (upd S p o) H
section
variable {M : List Addr} {Wr : Hp → Hp → Prop} {S H S' H' S0 H0 : Hp} {p : Addr} {o : HO}
theorem Wld.same (A : Wld M Wr) (W : Wr S H) (h : Same H H') : Wr S H' := A.gr W (Gr.of_same h) ((A.sh W).trans h)
theorem Wld.new (A : Wld M Wr) (W : Wr S H) (h : H p = none) : Wr (upd S p o) (upd H p o) :=
  A.gr W ((Gr.refl [] S H).new (A.sh W) h) (upd_mono (A.sh W))
theorem Wld.fresh (A : Wld M Wr) (W : Wr S H) (h : H p = none) : p ∉ M := fun z => (A.nm W p z).2 h
theorem Wld.out (A : Wld M Wr) (W : Wr S H) (h : S p = some o) : p ∉ M := fun z => by rw [(A.nm W p z).1] at h; cases h
theorem keep_same (sh : Same S H) (e : H p = some o) : Same (upd S p o) H := fun a u z => by
  by_cases y : a = p
  · subst y
    rw [upd_same] at z
    rw [e]
    exact z
  · rw [upd_ne y] at z
    exact sh a u z
theorem mut_same (sh : Same S H) (h : S p = none) : Same S (upd H p o) := fun a u e => by
  rw [upd_ne (ne_of_none e h)]
  exact sh a u e
/-- nothing may be changed -/
theorem pureW : Wld [] Same where
  sh := fun h => h
  nm := fun _ m z => nomatch z
  gr := fun _ _ h => h
  chg := fun sh h _ => mut_same sh h
  keep := fun sh _ _ e => keep_same sh e
end
/-! ### the box of a law -/
structure Wd (b : Addr) (S H : Hp) : Prop where
  sh : Same S H
  nb : S b = none
  bx : ∃ (p : Addr) (ns : List Int) (i c m : Int), H b = some (.lst [.ref p, .int i, .int c, .int m]) ∧ S p = some (.lst (ns.map V.int)) ∧ ns.length ≤ 63 ∧ 0 ≤ i ∧ 0 ≤ c ∧ 0 ≤ m ∧ m < 2147483647
theorem Wd.bs {b : Addr} {S H : Hp} (W : Wd b S H) : H b ≠ none := by
  obtain ⟨p, ns, i, c, m, h, _⟩ := W.bx
  exact some_ne h
theorem boxW (b : Addr) : Wld [b] (Wd b) where
  sh := fun W => W.sh
  nm := fun W m z => by
    obtain rfl : m = b := by simpa using z
    exact ⟨W.nb, W.bs⟩
  gr := fun W g sh => by
    obtain ⟨q, ns, i, c, m, eb, hp, r⟩ := W.bx
    exact ⟨sh, g.nw b W.bs W.nb, q, ns, i, c, m, g.same _ _ eb, g.ss _ _ hp, r⟩
  chg := fun {S H p o} W h hb => by
    obtain ⟨q, ns, i, c, m, eb, hp, r⟩ := W.bx
    refine ⟨mut_same W.sh h, W.nb, q, ns, i, c, m, ?_, hp, r⟩
    rw [upd_ne (fun z => hb (by rw [z]; exact List.mem_singleton.mpr rfl))]
    exact eb
  keep := fun {S H p o} W h hb e => by
    obtain ⟨q, ns, i, c, m, eb, hp, r⟩ := W.bx
    refine ⟨keep_same W.sh e, ?_, q, ns, i, c, m, eb, same_new h _ _ hp, r⟩
    rw [upd_ne (fun z => hb (by rw [z]; exact List.mem_singleton.mpr rfl))]
    exact W.nb

theorem iteNN {c A B : Prop} [Decidable c] (hc : ¬ c) (h : B) : if (decide c) = true then A else B := by
  rw [decide_eq_false hc]
  exact iteF h
/-- a test whose answer is told by another Bool; a value told otherwise -/
theorem iteC {b c : Bool} {A B : Prop} (e : b = c) (h1 : c = true → A) (h2 : c = false → B) : if b = true then A else B := by
  subst e
  cases b with
  | true => exact iteT (h1 rfl)
  | false => exact iteF (h2 rfl)
theorem vq {Q : V → Hp → Prop} {H : Hp} {v u : V} (e : v = u) (h : Q u H) : Q v H := by rw [e]; exact h
theorem map_take_succ {α β : Type} {l : List α} {f : α → β} {i : Nat} {c : α} (h : l[i]? = some c) : (l.take (i + 1)).map f = (l.take i).map f ++ [f c] := by
  rw [List.take_add_one, h, List.map_append]
  rfl
theorem dT {p : Prop} [Decidable p] (h : decide p = true) : p := of_decide_eq_true h
theorem dF {p : Prop} [Decidable p] (h : ¬ decide p = true) : ¬ p := of_decide_eq_false (Bool.eq_false_iff.mpr h)
theorem Gr.sqL {K : PySem.W.Frag} {M : List Addr} {S H S' H' : Hp} {a : Addr} {xs : List V} (g : Gr M S H S' H') (n : a ∉ M) (h : SqL K H a xs) : SqL K H' a xs := by
  rcases h with (h | ⟨o, h⟩) | h
  · exact .inl (.inl (g.kp _ _ n h))
  · exact .inl (.inr ⟨o, g.kp _ _ n h⟩)
  · exact .inr h
theorem walk_r0 {n : Nat} : Walk (Itr 0 n) n (fun _ => True) (fun i H x H' => H' = H ∧ x = .int ((i : Nat) : Int)) :=
  walk_range.mono (fun _ h => h) (fun i H x H' _ _ h => ⟨h.1, by rw [h.2]; exact congrArg V.int (Int.zero_add _)⟩)
theorem walk_zipT {K : PySem.W.Frag} {a b : Addr} {xs ys : List V} {n : Nat} (hn : n = min xs.length ys.length) : Walk (RZ.ItzT K a b) n (fun H => SqT K H a xs ∧ SqT K H b ys) (YPair (fun i => xs[i]?) (fun i => ys[i]?)) := by
  subst hn
  refine ⟨fun i _ hi q => ?_, fun _ q => ⟨xs, ys, q.1, q.2, by omega⟩, fun i H v H' _ q y => ?_⟩
  · have h1 : i < xs.length := by omega
    have h2 : i < ys.length := by omega
    exact ⟨xs, ys, xs[i], ys[i], q.1, q.2, by simp [h1], by simp [h2]⟩
  · obtain ⟨T, x, z, h1, h2, h3, h4, h5⟩ := y
    exact ⟨T, x, z, h1, h2, h3, h4 xs q.1, h5 ys q.2⟩
theorem sz (n : Nat) (h : n ≤ 100000) : n ≤ sizeLine := Nat.le_trans h (by decide)
theorem szl (n : Nat) (h : n ≤ 100000) : n < sizeLine := Nat.lt_of_le_of_lt h (by decide)

/-! ### comprehensions in a world -/
def Lc (M : List Addr) (Wr : Hp → Hp → Prop) (S H : Hp) (D : Addr) (I : Nat → List V → Hp → Prop) (i : Nat) (H' : Hp) : Prop :=
  ∃ S' acc, Gr M S H S' H' ∧ Wr S' H' ∧ S' D = none ∧ H' D = some (.lst acc) ∧ acc.length ≤ i ∧ I i acc S'
section
variable {M : List Addr} {Wr : Hp → Hp → Prop} {S H S1 H1 S4 H4 : Hp} {D : Addr} {I : Nat → List V → Hp → Prop} {i : Nat} {acc : List V} {y : V}
theorem lc_start (A : Wld M Wr) (W : Wr S H) (hD : H D = none) (h0 : I 0 [] S) : Lc M Wr S H D I 0 (upd H D (.lst [])) :=
  ⟨S, [], (Gr.refl M S H).chg hD, A.chg W ((A.sh W).free hD) (A.fresh W hD), (A.sh W).free hD, upd_same, Nat.le_refl _, h0⟩
theorem lc_put (A : Wld M Wr) (W : Wr S H) (hD : H D = none) (g1 : Gr M S H S1 H1) (s1 : S1 D = none) (e1 : H1 D = some (.lst acc)) (l1 : acc.length ≤ i) (hi : i ≤ 100000) (g : Gr M S1 H1 S4 H4) (W4 : Wr S4 H4) (h : I (i + 1) (acc ++ [y]) S4) :
    ∃ a, H4 D = some (.lst a) ∧ a.length < sizeLine ∧ Lc M Wr S H D I (i + 1) (upd H4 D (.lst (a ++ [y]))) := by
  have nM := A.fresh W hD
  have s4 : S4 D = none := g.nw D (some_ne e1) s1
  refine ⟨acc, g.kp D _ nM e1, szl _ (by omega), S4, acc ++ [y], (g1.trans g).chg hD, A.chg W4 s4 nM, s4, upd_same, ?_, h⟩
  rw [List.length_append]
  show acc.length + 1 ≤ i + 1
  omega
theorem lc_skip (A : Wld M Wr) (W : Wr S H) (hD : H D = none) (g1 : Gr M S H S1 H1) (s1 : S1 D = none) (e1 : H1 D = some (.lst acc)) (l1 : acc.length ≤ i) (g : Gr M S1 H1 S4 H4) (W4 : Wr S4 H4) (h : I (i + 1) acc S4) : Lc M Wr S H D I (i + 1) H4 :=
  ⟨S4, acc, g1.trans g, W4, g.nw D (some_ne e1) s1, g.kp D _ (A.fresh W hD) e1, by omega, h⟩
end

/-- what a turn of a comprehension may end with -/
def Put (M : List Addr) (Wr : Hp → Hp → Prop) (S H : Hp) (D : Addr) (I : Nat → List V → Hp → Prop) (i : Nat) (y : V) (H4 : Hp) : Prop :=
  ∃ a, H4 D = some (.lst a) ∧ a.length < sizeLine ∧ Lc M Wr S H D I (i + 1) (upd H4 D (.lst (a ++ [y])))
theorem lcw {M : List Addr} {Wr : Hp → Hp → Prop} {S H : Hp} {D : Addr} {J : It} {n : Nat} {G : Hp → Prop} {Y : Nat → Hp → V → Hp → Prop} {g : TG} {tt : TT} {te : TE} {vs : List Nat} {σ : L2.St} {Qd : Hp → Prop}
    (A : Wld M Wr) (W : Wr S H) (hD : H D = none) (w : Walk J n G Y) (I : Nat → List V → Hp → Prop) (h0 : I 0 [] S) (hn : n ≤ 100000) (hG : ∀ S' H', Gr M S H S' H' → Wr S' H' → G H')
    (hs : ∀ (i : Nat) (x : V) (S1 H1 H1' : Hp) (acc : List V), i < n → Gr M S H S1 H1 → Wr S1 H1 → S1 D = none → H1 D = some (.lst acc) → I i acc S1 → Y i H1 x H1' →
      (∀ {S4 H4 : Hp} {y : V}, Gr M S1 H1 S4 H4 → Wr S4 H4 → I (i + 1) (acc ++ [y]) S4 → Put M Wr S H D I i y H4) →
      (∀ {S4 H4 : Hp}, Gr M S1 H1 S4 H4 → Wr S4 H4 → I (i + 1) acc S4 → Lc M Wr S H D I (i + 1) H4) →
      g x (wipe σ vs) H1' fun σ2 H2 => wipe σ2 vs = wipe σ vs ∧ tt σ2 H2 fun b H3 => if b = true then te σ2 H3 fun y H4 => Put M Wr S H D I i y H4 else Lc M Wr S H D I (i + 1) H3)
    (hd : ∀ (S' H' : Hp) (acc : List V), Gr M S H S' H' → Wr S' H' → S' D = none → H' D = some (.lst acc) → acc.length ≤ n → I n acc S' → Qd H') :
    ∃ W : Nat → Nat → Hp → Prop, (∃ m, W 0 m (upd H D (.lst []))) ∧ ∀ i m H, W i m H →
      (J.stop i H ∧ Qd H) ∨ (J.go i H ∧ ∃ Nx : Hp → Prop, (∀ H', Nx H' → ∃ m', m' < m ∧ W (i + 1) m' H') ∧ ∀ x H', J.yld i H x H' → g x (wipe σ vs) H' fun σ2 H2 => wipe σ2 vs = wipe σ vs ∧ tt σ2 H2 fun b H3 =>
        if b = true then te σ2 H3 fun y H4 => ∃ acc, H4 D = some (.lst acc) ∧ acc.length < sizeLine ∧ Nx (upd H4 D (.lst (acc ++ [y]))) else Nx H3) :=
  lc_it w (Lc M Wr S H D I) (lc_start A W hD h0) (fun i H' _ hp => by
      obtain ⟨S1, acc, g1, W1, _⟩ := hp
      exact hG S1 H' g1 W1)
    (fun i x H1 H1' hi hp hy => by
      obtain ⟨S1, acc, g1, W1, s1, e1, l1, h1⟩ := hp
      exact hs i x S1 H1 H1' acc hi g1 W1 s1 e1 h1 hy (fun g W4 h => lc_put A W hD g1 s1 e1 l1 (by omega) g W4 h) (fun g W4 h => lc_skip A W hD g1 s1 e1 l1 g W4 h))
    (fun H1 hp => by
      obtain ⟨S1, acc, g1, W1, s1, e1, l1, h1⟩ := hp
      exact hd S1 H1 acc g1 W1 s1 e1 l1 h1)

/-- a for loop in a world -/
def Fw (M : List Addr) (Wr : Hp → Hp → Prop) (S H : Hp) (I : Nat → L2.St → Hp → Hp → Prop) (i : Nat) (σ : L2.St) (H' : Hp) : Prop := ∃ S', Gr M S H S' H' ∧ Wr S' H' ∧ I i σ S' H'
theorem forw {M : List Addr} {Wr : Hp → Hp → Prop} {S H : Hp} {J : It} {n : Nat} {G : Hp → Prop} {Y : Nat → Hp → V → Hp → Prop} {g : TG} {tb : TS} {D : Ends} {σ : L2.St}
    (W : Wr S H) (w : Walk J n G Y) (I : Nat → L2.St → Hp → Hp → Prop) (h0 : I 0 σ S H) (hG : ∀ S' H' i σ', Gr M S H S' H' → Wr S' H' → I i σ' S' H' → G H')
    (hs : ∀ (i : Nat) (x : V) (σ' : L2.St) (S1 H1 H1' : Hp), i < n → Gr M S H S1 H1 → Wr S1 H1 → I i σ' S1 H1 → Y i H1 x H1' →
      g x σ' H1' fun σ2 H2 => tb { D with nx := Fw M Wr S H I (i + 1), ct := Fw M Wr S H I (i + 1), bk := D.nx } σ2 H2)
    (hd : ∀ (σ' : L2.St) (S' H' : Hp), Gr M S H S' H' → Wr S' H' → I n σ' S' H' → D.nx σ' H') :
    ∃ W : Nat → Nat → L2.St → Hp → Prop, (∃ m, W 0 m σ H) ∧ ∀ i m σ H, W i m σ H →
      (J.stop i H ∧ D.nx σ H) ∨ (J.go i H ∧ ∃ N : L2.St → Hp → Prop, (∀ σ' H', N σ' H' → ∃ m', m' < m ∧ W (i + 1) m' σ' H') ∧ ∀ x H', J.yld i H x H' → g x σ H' fun σ2 H2 => tb { D with nx := N, ct := N, bk := D.nx } σ2 H2) :=
  for_it w (Fw M Wr S H I) ⟨S, Gr.refl _ _ _, W, h0⟩ (fun i σ' H' _ hp => by
      obtain ⟨S1, g1, W1, h1⟩ := hp
      exact hG S1 H' i σ' g1 W1 h1)
    (fun i x σ' H1 H1' hi hp hy => by
      obtain ⟨S1, g1, W1, h1⟩ := hp
      exact hs i x σ' S1 H1 H1' hi g1 W1 h1 hy)
    (fun σ' H' hp => by
      obtain ⟨S1, g1, W1, h1⟩ := hp
      exact hd σ' S1 H' g1 W1 h1)

/-- a for loop that changes things of its own: all that is known stands in I -/
def Fi (I : Nat → L2.St → Hp → Hp → Prop) (i : Nat) (σ : L2.St) (H' : Hp) : Prop := ∃ S', I i σ S' H'
theorem fori {S H : Hp} {J : It} {n : Nat} {G : Hp → Prop} {Y : Nat → Hp → V → Hp → Prop} {g : TG} {tb : TS} {D : Ends} {σ : L2.St}
    (w : Walk J n G Y) (I : Nat → L2.St → Hp → Hp → Prop) (h0 : I 0 σ S H) (hG : ∀ S' H' i σ', I i σ' S' H' → G H')
    (hs : ∀ (i : Nat) (x : V) (σ' : L2.St) (S1 H1 H1' : Hp), i < n → I i σ' S1 H1 → Y i H1 x H1' →
      g x σ' H1' fun σ2 H2 => tb { D with nx := Fi I (i + 1), ct := Fi I (i + 1), bk := D.nx } σ2 H2)
    (hd : ∀ (σ' : L2.St) (S' H' : Hp), I n σ' S' H' → D.nx σ' H') :
    ∃ W : Nat → Nat → L2.St → Hp → Prop, (∃ m, W 0 m σ H) ∧ ∀ i m σ H, W i m σ H →
      (J.stop i H ∧ D.nx σ H) ∨ (J.go i H ∧ ∃ N : L2.St → Hp → Prop, (∀ σ' H', N σ' H' → ∃ m', m' < m ∧ W (i + 1) m' σ' H') ∧ ∀ x H', J.yld i H x H' → g x σ H' fun σ2 H2 => tb { D with nx := N, ct := N, bk := D.nx } σ2 H2) :=
  for_it w (Fi I) ⟨S, h0⟩ (fun i σ' H' _ hp => by
      obtain ⟨S1, h1⟩ := hp
      exact hG S1 H' i σ' h1)
    (fun i x σ' H1 H1' hi hp hy => by
      obtain ⟨S1, h1⟩ := hp
      exact hs i x σ' S1 H1 H1' hi h1 hy)
    (fun σ' H' hp => by
      obtain ⟨S1, h1⟩ := hp
      exact hd σ' S1 H' h1)

/-! ### data in the persistent part -/
mutual
inductive Rp (S : Hp) : V → PyData → Prop
  | non : Rp S .non .none
  | bl (b : Bool) : Rp S (.bl b) (.bool b)
  | int (i : Int) : Rp S (.int i) (.int i)
  | str (x : Str) : Rp S (.str x) (.str x)
  | lst {a : Addr} {xs : List V} {ds : List PyData} : S a = some (.lst xs) → RpL S xs ds → Rp S (.ref a) (.list ds)
  | tup {a : Addr} {xs : List V} {ds : List PyData} : S a = some (.tup xs) → RpL S xs ds → Rp S (.ref a) (.tuple ds)
inductive RpL (S : Hp) : List V → List PyData → Prop
  | nil : RpL S [] []
  | cons {v : V} {vs : List V} {d : PyData} {ds : List PyData} : Rp S v d → RpL S vs ds → RpL S (v :: vs) (d :: ds)
end
mutual
theorem Rp.mono {S S' : Hp} (e : Same S S') : ∀ (d : PyData) (v : V), Rp S v d → Rp S' v d
  | .none, _, h => by cases h; exact .non
  | .bool b, _, h => by cases h; exact .bl b
  | .int i, _, h => by cases h; exact .int i
  | .str x, _, h => by cases h; exact .str x
  | .list ds, _, h => by
    cases h with
    | lst h1 h2 => exact .lst (e _ _ h1) (RpL.mono e ds _ h2)
  | .tuple ds, _, h => by
    cases h with
    | tup h1 h2 => exact .tup (e _ _ h1) (RpL.mono e ds _ h2)
  | .dict _, _, h => by cases h
theorem RpL.mono {S S' : Hp} (e : Same S S') : ∀ (ds : List PyData) (vs : List V), RpL S vs ds → RpL S' vs ds
  | [], _, h => by cases h; exact .nil
  | d :: ds, _, h => by
    cases h with
    | cons h1 h2 => exact .cons (Rp.mono e d _ h1) (RpL.mono e ds _ h2)
end
mutual
theorem Rp.dp {K : PySem.W.Frag} {S : Hp} : ∀ (d : PyData) (v : V), Rp S v d → Dp K S v d
  | .none, _, h => by cases h; exact .non
  | .bool b, _, h => by cases h; exact .bl b
  | .int i, _, h => by cases h; exact .int i
  | .str x, _, h => by cases h; exact .str x
  | .list ds, _, h => by
    cases h with
    | lst h1 h2 => exact .lst (SqL.of h1) (RpL.dp ds _ h2)
  | .tuple ds, _, h => by
    cases h with
    | tup h1 h2 => exact .tup (SqT.of h1) (RpL.dp ds _ h2)
  | .dict _, _, h => by cases h
theorem RpL.dp {K : PySem.W.Frag} {S : Hp} : ∀ (ds : List PyData) (vs : List V), RpL S vs ds → DpAll K S vs ds
  | [], _, h => by cases h; exact .nil
  | d :: ds, _, h => by
    cases h with
    | cons h1 h2 => exact .cons (Rp.dp d _ h1) (RpL.dp ds _ h2)
end
theorem RpL.len {S : Hp} : ∀ {ds : List PyData} {vs : List V}, RpL S vs ds → vs.length = ds.length
  | [], _, h => by cases h; rfl
  | d :: ds, _, h => by
    cases h with
    | cons h1 h2 => exact congrArg (· + 1) (RpL.len h2)
theorem RpL.get {S : Hp} : ∀ {ds : List PyData} {vs : List V} {i : Nat} {v : V}, RpL S vs ds → vs[i]? = some v → ∃ d, ds[i]? = some d ∧ Rp S v d
  | [], _, i, v, h, e => by cases h; simp at e
  | d :: ds, _, 0, v, h, e => by
    cases h with
    | cons h1 h2 =>
      have e' := Option.some.inj e
      subst e'
      exact ⟨d, rfl, h1⟩
  | d :: ds, _, i + 1, v, h, e => by
    cases h with
    | cons h1 h2 => exact RpL.get (i := i) h2 e
theorem RpL.getD {S : Hp} : ∀ {ds : List PyData} {vs : List V} {i : Nat} {d : PyData}, RpL S vs ds → ds[i]? = some d → ∃ v, vs[i]? = some v ∧ Rp S v d
  | [], _, i, v, h, e => by simp at e
  | d :: ds, _, 0, v, h, e => by
    cases h with
    | cons h1 h2 =>
      have e' := Option.some.inj e
      subst e'
      exact ⟨_, rfl, h1⟩
  | d :: ds, _, i + 1, v, h, e => by
    cases h with
    | cons h1 h2 => exact RpL.getD (i := i) h2 e
theorem RpL.snoc {S : Hp} {v : V} {d : PyData} (h : Rp S v d) : ∀ {ds : List PyData} {vs : List V}, RpL S vs ds → RpL S (vs ++ [v]) (ds ++ [d])
  | [], _, q => by cases q; exact .cons h .nil
  | e :: ds, _, q => by
    cases q with
    | cons h1 h2 => exact .cons h1 (RpL.snoc h h2)
theorem RpL.append {Sh : Hp} : ∀ {ds es : List PyData} {vs us : List V}, RpL Sh vs ds → RpL Sh us es → RpL Sh (vs ++ us) (ds ++ es)
  | [], _, _, _, h, q => by cases h; exact q
  | d :: ds, _, _, _, h, q => by
    cases h with
    | cons h1 h2 => exact .cons h1 (RpL.append h2 q)
mutual
def dep : PyData → Nat
  | .list ds => depL ds + 1
  | .tuple ds => depL ds + 1
  | _ => 0
def depL : List PyData → Nat
  | [] => 0
  | d :: ds => max (dep d) (depL ds)
end
mutual
/-- data of depth at most n, its lists short -/
def fits : PyData → Nat → Bool
  | .list ds, n => decide (1 ≤ n) && decide (ds.length ≤ 10000) && fitsL ds (n - 1)
  | .tuple ds, n => decide (1 ≤ n) && decide (ds.length ≤ 10000) && fitsL ds (n - 1)
  | .dict _, _ => false
  | _, _ => true
def fitsL : List PyData → Nat → Bool
  | [], _ => true
  | d :: ds, n => fits d n && fitsL ds n
end
theorem fitsL_get : ∀ {ds : List PyData} {n i : Nat} {d : PyData}, fitsL ds n = true → ds[i]? = some d → fits d n = true
  | [], n, i, d, _, h => by simp at h
  | e :: ds, n, 0, d, f, h => by
    have := Option.some.inj h
    subst this
    unfold fitsL at f
    exact (Bool.and_eq_true_iff.mp f).1
  | e :: ds, n, i + 1, d, f, h => by
    unfold fitsL at f
    exact fitsL_get (i := i) (Bool.and_eq_true_iff.mp f).2 h
theorem depL_get : ∀ {ds : List PyData} {i : Nat} {d : PyData}, ds[i]? = some d → dep d ≤ depL ds
  | [], i, d, h => by simp at h
  | e :: ds, 0, d, h => by
    have := Option.some.inj h
    subst this
    unfold depL
    exact Nat.le_max_left _ _
  | e :: ds, i + 1, d, h => by
    unfold depL
    exact Nat.le_trans (depL_get (i := i) h) (Nat.le_max_right _ _)
def sp_law (K : PySem.W.Frag) : Sp := fun vs H Q _ => ∃ (a : Addr) (ns : List Int), vs = [.ref a] ∧ SqL K H a (ns.map V.int) ∧ ns.length ≤ 63 ∧ ∀ H', Q (.bl true) H'
end G48

set_option Elab.async false
set_option linter.all false
set_option maxRecDepth 100000
set_option maxHeartbeats 4000000
namespace G48
open PySem PySem.Spec PyProof.Rows L2 SX
/-! ### an exception tested against a tuple of classes -/
theorem forIn_looks {M : Model} {h : Heap} {β : Type} {f : Value → β → Sem (ForInStep β)} {b0 : β} : ∀ {cs : List Value}, (∀ c ∈ cs, PySem.W.Looks M h (f c b0) (.yield b0)) → PySem.W.Looks M h (forIn cs b0 f) b0
  | [], _ => fun A Q E s k q => by
    rw [List.forIn_nil]
    exact wpAny_pure q
  | c :: cs, hf => fun A Q E s k q => by
    rw [List.forIn_cons]
    refine wpAny_bind (hf c (List.mem_cons_self ..) A _ E s k ?_)
    exact forIn_looks (fun c hc => hf c (List.mem_cons_of_mem _ hc)) A Q E s k q
theorem forIn_any {M : Model} {h : Heap} {β : Type} {f : Value → β → Sem (ForInStep β)} {b0 b1 : β} : ∀ {cs : List Value} {ds : List Bool}, cs.length = ds.length → (∀ (i : Nat) (c : Value) (d : Bool), cs[i]? = some c → ds[i]? = some d → PySem.W.Looks M h (f c b0) (if d = true then .done b1 else .yield b0)) →
    PySem.W.Looks M h (forIn cs b0 f) (if ds.any id = true then b1 else b0)
  | [], [], _, _ => fun A Q E s k q => by
    rw [List.forIn_nil]
    exact wpAny_pure q
  | [], _ :: _, h, _ => by cases h
  | _ :: _, [], h, _ => by cases h
  | c :: cs, d :: ds, hl, hf => fun A Q E s k q => by
    rw [List.forIn_cons]
    refine wpAny_bind (hf 0 c d rfl rfl A _ E s k ?_)
    cases d with
    | true => exact wpAny_pure q
    | false => exact forIn_any (Nat.succ.inj hl) (fun i c d hc hd => hf (i + 1) c d hc hd) A Q E s k q
theorem exmAny_list {K : PySem.W.Frag} {cls : Value} : ∀ {cs : List Value} {b : Bool}, PySem.W.exmAny K cls cs = some b → ∃ ds : List Bool, cs.length = ds.length ∧ b = ds.any id ∧ ∀ (i : Nat) (c : Value) (d : Bool), cs[i]? = some c → ds[i]? = some d → PySem.W.exmOne K cls c = some d
  | [], b, h => ⟨[], rfl, (Option.some.inj h).symm, fun i c d hc _ => by simp at hc⟩
  | c :: cs, b, h => by
    obtain ⟨b1, d1, h1, h2, h3⟩ := PySem.W.exmAny_cons h
    obtain ⟨ds, e1, e2, e3⟩ := exmAny_list h2
    refine ⟨b1 :: ds, by rw [List.length_cons, List.length_cons, e1], by rw [h3, e2]; rfl, fun i c' d hc hd => ?_⟩
    cases i with
    | zero =>
      cases Option.some.inj hc
      cases Option.some.inj hd
      exact h1
    | succ i => exact e3 i c' d hc hd
theorem exm_tupN {M : Model} {K : PySem.W.Frag} {cs : List Value} {cls : Value} {tp e : Addr} {b : Bool} {h : Heap} (X : K.In h) (LT : PySem.W.Looks M h (typeOf (.ref e)) cls) (hp : h.get? tp = some { cls := .type "tuple", data := .seq cs.toArray }) (hx : PySem.W.exmAny K cls cs = some b) :
    PySem.W.Looks M h (excMatches (.ref e) (.ref tp)) b := by
  intro A Q E s k₀ q
  obtain ⟨hh, g, d, tk, os⟩ := s
  have k : ∀ b o, h.get? b = some o → hh.get? b = some o := k₀
  have LT0 : PySem.W.Looks M h (isInstance (.ref tp) (.type "tuple")) true := ((PySem.W.Looks.ld hp).andThen .now).andThen (PySem.W.Looks.of_pure isSubtype_tuple_tuple)
  obtain ⟨ds, hl, rfl, hd⟩ := exmAny_list hx
  have hp' := k _ _ hp
  unfold excMatches
  have LT0 := LT0.keeps k
  have LT := LT.keeps k
  refine wpAny_bind (LT0.at ?_)
  dsimp only
  rw [if_pos rfl]
  first
    | refine wpAny_bind (wpAny_seqItems hp' rfl ?_)
    | refine wpAny_bind (wpAny_bind (wpAny_seqItems hp' rfl (wpAny_pure ?_)))
  dsimp only [Option.getD_some, Option.getD]
  refine wpAny_bind (wpAny_pure ?_)
  refine wpAny_bind ((forIn_looks (M := M) (h := hh) (fun c hc => ?_)).at ?_)
  · obtain ⟨i, hi⟩ := List.getElem?_of_mem hc
    have hi' : cs[i]? = some c := by simpa using hi
    have hlt := (List.getElem?_eq_some_iff.mp hi').1
    obtain ⟨e1, _⟩ := PySem.W.exm_cls (M := M) X (hd i c ds[i] hi' (List.getElem?_eq_getElem (by omega)))
    have e1 := e1.keeps k
    intro A Q E s k2 q
    obtain ⟨hh2, g2, d2, tk2, os2⟩ := s
    have e1 := e1.keeps k2
    refine wpAny_bind (e1.at ?_)
    simp only [Bool.not_true, Bool.false_eq_true, if_false]
    first
      | exact wpAny_pure q
      | exact wpAny_bind (wpAny_pure (wpAny_pure q))
  refine wpAny_bind (LT.at ?_)
  refine wpAny_bind ((forIn_any (M := M) (h := hh) (ds := ds) (b1 := (some true, ())) (by simpa using hl) (fun i c d hc hdd => ?_)).at ?_)
  · have hc' : cs[i]? = some c := by simpa using hc
    obtain ⟨_, S1⟩ := PySem.W.exm_cls (M := M) X (hd i c d hc' hdd)
    have S1 := S1.keeps k
    intro A Q E s k2 q
    obtain ⟨hh2, g2, d2, tk2, os2⟩ := s
    have S1 := S1.keeps k2
    refine wpAny_bind (S1.at ?_)
    cases d with
    | true => exact wpAny_pure q
    | false => exact wpAny_pure q
  · cases hb : ds.any id with
    | true =>
      rw [hb] at q
      exact wpAny_pure q
    | false =>
      rw [hb] at q
      exact wpAny_pure q

/-! ### try with several clauses, classes or tuples of classes, 'as n' -/
theorem flyZ_keeps {B h h' : Heap} {l : List Env} {e : Addr} {Z : Obj → Prop} (f : HandSPX.FlyingZ B l e Z h) (k : ∀ b o, h.get? b = some o → h'.get? b = some o) : HandSPX.FlyingZ B l e Z h' := by
  obtain ⟨f1, f2, f3, oe, vs, T, oT, ts, he, hz, hd, h1, h2, h3, h4, h5, h6⟩ := f
  exact ⟨fun b o q => k b o (f1 b o q), f2, f3.of_keeps fun b o q _ => ⟨o, k b o q, rfl⟩, oe, vs, T, oT, ts, k _ _ he, hz, hd, h1, h2, h3, k _ _ h4, h5, h6⟩
abbrev Clause : Type := List Value × Nat × (Addr → Value → Option Addr → TS)
/-- what the clauses wish of an exception of the body, one after the other -/
def wManyA (K : PySem.W.Frag) (Wout : WX) (D : Ends) : List Clause → WX
  | [] => Wout
  | (cs, i, ts) :: r => fun cls d σ H => ∃ b, PySem.W.exmAny K cls cs = some b ∧
      (b = true → ∀ a, H a = none → ts a cls d { nx := fun σ' H' => D.nx (σ'.set i none) H', rt := D.rt, bk := fun σ' H' => D.bk (σ'.set i none) H', ct := fun σ' H' => D.ct (σ'.set i none) H' } (σ.set i (some (.ref a))) H) ∧
      (b = false → wManyA K Wout D r cls d σ H)
/-- the classes that a clause names -/
inductive NamesL (X : Cx) : List Expr → List Value → Prop
  | nil : NamesL X [] []
  | cons {x : Str} {c : Value} {p : Pos} {es : List Expr} {cs : List Value} (hc : Names X x c) (r : NamesL X es cs) : NamesL X (.Name x p :: es) (c :: cs)
inductive TestOk (X : Cx) : Expr → List Value → Prop
  | one {x : Str} {c : Value} {p : Pos} (hc : Names X x c) : TestOk X (.Name x p) [c]
  | tup {es : List Expr} {cs : List Value} {k : Nat} {p : Pos} (h : NamesL X es cs) (hz : cs.length ≤ 1000) : TestOk X (.Tuple es k p) cs
inductive HdsA (X : Cx) : List ExceptHandler → List Clause → Prop
  | nil : HdsA X [] []
  | cons {te : Expr} {cs : List Value} {n : Str} {i : Nat} {ts : Addr → Value → Option Addr → TS} {b₀ : Stmt} {suite : List Stmt} {pos' : Pos} {hds : List ExceptHandler} {l : List Clause} (hN : X.N.Nodup) (hi : X.N[i]? = some n) (hln : X.env.kindOf n = some .local) (hc : TestOk X te cs)
      (hsu : ∀ (a : Addr) (oe : Obj) (cls : Value) (d : Option Addr) (pn : List (Addr × Obj)), Zc cls d oe → (∃ vs, oe.data = .fields vs) → PSs (X.suite a ((a, oe) :: pn)) (b₀ :: suite) (ts a cls d)) (r : HdsA X hds l) :
      HdsA X (.ExceptHandler (some te) (some n) (b₀ :: suite) pos' :: hds) ((cs, i, ts) :: l)
section
variable {X : Cx}
theorem NamesL.suite {a : Addr} {pn : List (Addr × Obj)} {es : List Expr} {cs : List Value} (h : NamesL X es cs) : NamesL (X.suite a pn) es cs := by
  induction h with
  | nil => exact .nil
  | cons hc r ih => exact .cons hc ih
theorem TestOk.suite {a : Addr} {pn : List (Addr × Obj)} {te : Expr} {cs : List Value} (h : TestOk X te cs) : TestOk (X.suite a pn) te cs := by
  cases h with
  | one hc => exact .one hc
  | tup h hz => exact .tup h.suite hz
theorem name_eval {pins : List (Addr × Obj)} {σ : L2.St} {H : Hp} {s : Shared} {x : Str} {c : Value} {p : Pos} {Q : Value → Shared → Prop} {E : Value → Shared → Prop} (S : Inv X pins σ H s) (hc : Names X x c) (q : Q c s) : wpAny (model X.prog X.w) X.A (eval (.Name x p) X.env) Q E s := by
  obtain ⟨hg, hdbg, hm | ⟨hm, hv, hnn⟩⟩ := hc
  · exact ld_glob S hg hm q hdbg
  · exact ld_blt S hg hm hv q hnn hdbg
theorem names_eval {pins : List (Addr × Obj)} {σ : L2.St} {H : Hp} {s : Shared} {pos : Pos} {E : Value → Shared → Prop} (S : Inv X pins σ H s) : ∀ {es : List Expr} {cs : List Value} {Q : List Value → Shared → Prop}, NamesL X es cs → Q cs s → wpAny (model X.prog X.w) X.A (spliced (backTo pos (starEach es X.env))) Q E s
  | _, _, Q, .nil, q => wpAny_items_nil q
  | _, _, Q, .cons hc r, q => wpAny_items_cons (name_eval S hc (names_eval S r q)) rfl
/-- the test of a clause -/
theorem test_eval {pins : List (Addr × Obj)} {σ : L2.St} {H : Hp} {s : Shared} {te : Expr} {cs : List Value} {e : Addr} {cls : Value} {b : Bool} {Q : Bool → Shared → Prop} {E : Value → Shared → Prop} (S : Inv X pins σ H s) (LT : PySem.W.Looks (model X.prog X.w) s.heap (typeOf (.ref e)) cls)
    (hc : TestOk X te cs) (hb : PySem.W.exmAny X.K cls cs = some b) (q : ∀ h', (∀ b o, s.heap.get? b = some o → h'.get? b = some o) → Q b { s with heap := h' }) :
    wpAny (model X.prog X.w) X.A (eval te X.env) (fun c s₁ => wpAny (model X.prog X.w) X.A (excMatches (.ref e) c) Q E s₁) E s := by
  cases hc with
  | one hc =>
    obtain ⟨b1, d1, h1, h2, h3⟩ := PySem.W.exmAny_cons hb
    have h4 : some false = some d1 := h2
    cases h4
    rw [Bool.or_false] at h3
    subst h3
    exact name_eval S hc ((PySem.W.exm_one (M := model X.prog X.w) S.kIn LT h1).here (q s.heap fun _ _ z => z))
  | tup h hz =>
    refine wpAny_Tuple (names_eval S h ⟨sz _ (by omega), ?_⟩)
    have kp : ∀ q o, s.heap.get? q = some o → (s.heap.push { cls := .type "tuple", data := .seq cs.toArray }).get? q = some o := fun _ _ z => Heap.get?_push_of_some _ z
    exact (exm_tupN (PySem.W.Frag.In.keeps S.kIn kp) (LT.keeps kp) (Heap.get?_push_size s.heap rfl) hb).here (q _ kp)
variable {body : List Stmt} {h₀ : ExceptHandler} {hds : List ExceptHandler} {l : List Clause} {pos : Pos} {tb : WX → TS} {Wout : WX}
theorem ps_try_manyA (hs : X.stack = X.env :: X.outer) (hf : X.env.frame = some X.env.locals) (tk : Takes X Wout)
    (hb : ∀ (W : WX) (pn : List (Addr × Obj)) (xe : Value → Shared → Prop), Takes (X.tr pn xe) W → PassesOwn (model X.prog X.w) X.A X.env xe → PSs (X.tr pn xe) body (tb W))
    (hh : HdsA X (h₀ :: hds) l) : PS X (.Try body (h₀ :: hds) [] [] pos) (fun D σ H => tb (wManyA X.K Wout D l) D σ H) := by
  refine ⟨fun pins s σ H D I h => ?_⟩
  have ok := I.ok
  have hfr : X.A.frames = some (X.env :: X.outer) := by rw [ok.frames, hs]
  refine wpAny_Try_except ?_
  refine wpAny_mono ((hb (wManyA X.K Wout D l) (X.pn ++ pins) (fun e s₁ => wpAny (model X.prog X.w) X.A (noteFrame e X.env) (fun _ s₂ => wpAny (model X.prog X.w) X.A (setFlight e none) (fun _ s₃ =>
    wpAny (model X.prog X.w) X.A (handleBy e X.env (h₀ :: hds)) (SP X pins D) X.xe s₃) X.xe s₂) X.xe s₁) (fun u s' xx => ?_) PassesOwn.looking).run [] s σ H D (I.toTry _) h) (fun f s1 hsp => ?_) (fun e s1 he => he)
  · -- the catch
    obtain ⟨a, B, sI, pins', σ', H', cls, d, rfl, J', nb, up, sky, na, os, ag, w⟩ := xx
    have J : Inv X pins σ' H' sI := J'.ofTry ok
    have sky' : Sky B (X.env :: X.outer) a (Zc cls d) X.env.locals s'.heap := by rw [← hs]; exact sky
    show wpAny (model X.prog X.w) X.A (noteFrame (.ref a) X.env) _ _ _
    refine Sky.land Zc.steady hfr hf sky' fun h3 fl3 up3 => ?_
    have go : ∀ {hds' : List ExceptHandler} {l' : List Clause}, HdsA X hds' l' → wManyA X.K Wout D l' cls d σ' H' → ∀ {h3 : Heap}, HandSPX.FlyingZ B (X.env :: X.outer) a (Zc cls d) h3 → sI.heap.UpToSlots h3 →
        wpAny (model X.prog X.w) X.A (handleBy (.ref a) X.env hds') (SP X pins D) X.xe { s' with heap := h3 } := by
      intro hds' l' hk
      induction hk with
      | nil =>
        intro w h3 fl3 up3
        refine wpAny_handleBy_nil ?_
        obtain ⟨k1, k2, k3, oe, vs, T, oT, ts', he, hz, hd, h1, hr⟩ := id fl3
        unfold PySem.passOn
        refine wpAny_bind (wpAny_field he hd h1 ?_)
        rw [if_neg (show ¬ ((Value.ref T == Value.none) = true) from by simp)]
        have fin : wpAny (model X.prog X.w) X.A (setFlight (.ref a) X.env.frame) (fun _ s4 => wpAny (model X.prog X.w) X.A (throw (.ref a) : Sem Flow) (SP X pins D) X.xe s4) X.xe { s' with heap := h3 } := by
          rw [hf]
          refine HandSPX.setFlight_upZ fl3 fun h4 hh4 up4 => wpAny_throw (tk _ _ ?_)
          exact ⟨a, B, sI, pins, σ', H', cls, d, rfl, J, nb, up3.trans up4, .inr (.inr (by rw [hs]; exact hh4)), na, os, ag, w⟩
        first
          | exact wpAny_bind (wpAny_pure (wpAny_bind fin))
          | exact wpAny_bind fin
      | @cons te cs n i ts b₀ suite pos' hds2 l2 hN hi hln hc hsu r ih =>
        intro w h3 fl3 up3
        have J3 : Inv X pins σ' H' { s' with heap := h3 } := J.landed nb fl3.1 up3 os ag
        obtain ⟨oe3, vs3, he3, hz3, hd3⟩ := fl3.there
        have notFr : ∀ {h : Heap} {o : Obj} {vs : Array Value}, h.FunFrames B (X.env :: X.outer) → h.get? a = some o → o.data = .fields vs → a ∉ frs (X.env :: X.outer) := fun {h o vs} ff e dd hm => by
          obtain ⟨_, o', e', hnf⟩ := ff.mem hm
          rw [e] at e'; cases e'
          exact hnf _ dd
        have nfr := notFr fl3.2.2.1 he3 hd3
        have nL : a ≠ X.env.locals := fun z => nfr (List.mem_filterMap.mpr ⟨X.env, List.mem_cons_self, by rw [hf, z]⟩)
        have nF : a ∉ X.fs := fun hm => by
          obtain ⟨e, he, q⟩ := List.mem_filterMap.mp hm
          exact nfr (List.mem_filterMap.mpr ⟨e, List.mem_cons_of_mem _ he, q⟩)
        have S3 := J3.suite he3 hd3 na nL nF
        obtain ⟨b, hb1, hyes, hno⟩ := w
        refine wpAny_handleBy_cons (codeAny_handlers_test ?_) (by intro q; cases q)
        have LT : PySem.W.Looks (model X.prog X.w) h3 (typeOf (.ref a)) cls := fun A Q E s k q => wpAny_typeOf_ref (k _ _ he3) (by rw [hz3.1]; exact q)
        have hc' : TestOk (X.suite a ((a, oe3) :: (X.pn ++ pins))) te cs := hc.suite
        refine test_eval (X := X.suite a ((a, oe3) :: (X.pn ++ pins))) (s := { s' with heap := h3 }) S3 LT hc' hb1 fun h5 k5 => ?_
        have fl5 := flyZ_keeps fl3 k5
        have up5 : sI.heap.UpToSlots h5 := up3.trans (Heap.UpToSlots.of_keeps k5)
        cases b with
        | true =>
          refine codeAny_handlers_suite_as ?_
          refine HandSPX.lands_againZ fl5 fun h4 fl4 up4 => ?_
          have J4 : Inv X pins σ' H' { s' with heap := h4 } := J.landed nb fl4.1 (up5.trans up4) os ag
          obtain ⟨oe4, vs4, he4, hz4, hd4⟩ := fl4.there
          have S4 := J4.suite he4 hd4 na nL nF
          refine store_ok (X := X.suite a ((a, oe4) :: (X.pn ++ pins))) (v := .ref a) S4 hN hi (.inl hln) rfl (fun s5 S5 => ?_) (.inr hln)
          refine wpAny_mono ((hsu a oe4 cls d (X.pn ++ pins) hz4 ⟨_, hd4⟩).run [] s5 _ H' _ S5 (hyes rfl a na)) (fun f s6 hsp => ?_) (fun _ _ z => False.elim z)
          have end_ : ∀ {σ6 : L2.St} {H6 : Hp} {Q : Shared → Prop}, Inv (X.suite a ((a, oe4) :: (X.pn ++ pins))) [] σ6 H6 s6 → (∀ s7, Inv X pins (σ6.set i none) H6 s7 → Q s7) →
              wpAny (model X.prog X.w) X.A (do bindName X.env n .none; unbindBehindTheSuite X.env n pos') (fun _ s7 => Q s7) X.xe s6 := fun {σ6 H6 Q} S6 hq => gone_ok (S6.unsuite ok) hN hi hln hq
          cases f with
          | next =>
            obtain ⟨σ6, H6, S6, q6⟩ := hsp
            exact end_ S6 fun s7 J7 => ⟨_, _, J7, q6⟩
          | brk =>
            obtain ⟨σ6, H6, S6, q6⟩ := hsp
            exact end_ S6 fun s7 J7 => ⟨_, _, J7, q6⟩
          | cont =>
            obtain ⟨σ6, H6, S6, q6⟩ := hsp
            exact end_ S6 fun s7 J7 => ⟨_, _, J7, q6⟩
          | ret u =>
            obtain ⟨v6, σ6, H6, S6, r6, q6⟩ := hsp
            exact end_ S6 fun s7 J7 => ⟨_, _, _, J7, r6, q6⟩
        | false =>
          show wpAny _ X.A (handleBy (.ref a) X.env hds2) _ _ _
          exact ih (hno rfl) fl5 up5
    exact go hh w fl3 (up.trans up3)
  · cases f with
    | next =>
      obtain ⟨σ', H', J', q⟩ := hsp
      exact wpAny_execs_nil ⟨σ', H', J'.ofTry ok, q⟩
    | brk =>
      obtain ⟨σ', H', J', q⟩ := hsp
      exact ⟨σ', H', J'.ofTry ok, q⟩
    | cont =>
      obtain ⟨σ', H', J', q⟩ := hsp
      exact ⟨σ', H', J'.ofTry ok, q⟩
    | ret u =>
      obtain ⟨v, σ', H', J', r, q⟩ := hsp
      exact ⟨v, σ', H', J'.ofTry ok, r, q⟩
end

/-! ### own exception classes over ValueError, LookupError, IndexError, whose __init__ is a def -/
structure ExB (B newId initId : String) (bmB : List Value) : Prop where
  fb : ExcBaseFacts B newId initId bmB
  st : StoreFacts B bmB "object.__setattr__" "object"
abbrev leTail : List Value := [.type "LookupError", .type "Exception", .type "BaseException", .type "object"]
abbrev ieTail : List Value := [.type "IndexError", .type "LookupError", .type "Exception", .type "BaseException", .type "object"]
theorem exB_V : ExB "ValueError" "ValueError.__new__" "ValueError.__init__" HandSPX.veTail := ⟨F.excBase_ValueError, F.store_ValueError⟩
theorem exB_L : ExB "LookupError" "LookupError.__new__" "LookupError.__init__" leTail := ⟨F.excBase_LookupError, F.store_LookupError⟩
theorem exB_I : ExB "IndexError" "IndexError.__new__" "IndexError.__init__" ieTail := ⟨F.excBase_IndexError, F.store_IndexError⟩
/-- what the written part says of such a class -/
structure OexG (K : PySem.W.Frag) (C : Addr) : Prop where
  cls : ∃ (B newId initId : String) (bmB : List Value), ExB B newId initId bmB ∧ PySem.W.excInitIn K C bmB newId = true ∧ PySem.W.excOver K C bmB = true
  hd : PySem.W.hasDictIn K C = true
  sa : PySem.W.findIn K (.ref C) "__setattr__" = some (some (.builtin "object.__setattr__"))
  exC : PySem.W.subIn K (.ref C) (.type "BaseException") = some true
  tyC : PySem.W.typeIn K (.ref C) = some (.type "type")
  kC : PySem.W.keepIn K (.ref C) = true
def oexgB (K : PySem.W.Frag) (C : Addr) : Bool :=
  ((PySem.W.excInitIn K C HandSPX.veTail "ValueError.__new__" && PySem.W.excOver K C HandSPX.veTail) || (PySem.W.excInitIn K C leTail "LookupError.__new__" && PySem.W.excOver K C leTail) || (PySem.W.excInitIn K C ieTail "IndexError.__new__" && PySem.W.excOver K C ieTail)) &&
  (PySem.W.hasDictIn K C && (decide (PySem.W.findIn K (.ref C) "__setattr__" = some (some (.builtin "object.__setattr__"))) && (decide (PySem.W.subIn K (.ref C) (.type "BaseException") = some true) && (decide (PySem.W.typeIn K (.ref C) = some (.type "type")) && PySem.W.keepIn K (.ref C)))))
theorem oexgB_ok {K : PySem.W.Frag} {C : Addr} (h : oexgB K C = true) : OexG K C := by
  obtain ⟨h1, h⟩ := Bool.and_eq_true_iff.mp h
  obtain ⟨h2, h⟩ := Bool.and_eq_true_iff.mp h
  obtain ⟨h3, h⟩ := Bool.and_eq_true_iff.mp h
  obtain ⟨h4, h⟩ := Bool.and_eq_true_iff.mp h
  obtain ⟨h5, h6⟩ := Bool.and_eq_true_iff.mp h
  refine ⟨?_, h2, of_decide_eq_true h3, of_decide_eq_true h4, of_decide_eq_true h5, h6⟩
  rcases Bool.or_eq_true_iff.mp h1 with h1 | h1
  · rcases Bool.or_eq_true_iff.mp h1 with h1 | h1
    · obtain ⟨a, b⟩ := Bool.and_eq_true_iff.mp h1
      exact ⟨_, _, _, _, exB_V, a, b⟩
    · obtain ⟨a, b⟩ := Bool.and_eq_true_iff.mp h1
      exact ⟨_, _, _, _, exB_L, a, b⟩
  · obtain ⟨a, b⟩ := Bool.and_eq_true_iff.mp h1
    exact ⟨_, _, _, _, exB_I, a, b⟩
section
open Builtin Builtin.ObjectAttr
variable {X : Cx} {pins : List (Addr × Obj)} {σ : L2.St} {H : Hp} {s : Shared} {a C dx : Addr} {f : Str} {y : V} {u : Value} {fs : List (Str × V)} {Q : Unit → Shared → Prop} {E : Value → Shared → Prop} {A : Around}
theorem any_some' {α : Type} {o : Option α} {p : α → Bool} (h : o.any p = true) : ∃ x, o = some x ∧ p x = true := by
  cases o with
  | none => cases h
  | some x => exact ⟨x, rfl, h⟩
theorem gst_new (T : OexG X.K C) (I : Inv X pins σ H s) (e : H a = some (exo a C none)) (hno : PySem.W.findIn X.K (.ref C) f = some none) (ry : RelV y u)
    (h : ∀ dx s', H dx = none → dx ≠ a → Inv X pins σ (upd (upd H dx (exd dx [(f, y)])) a (exo a C (some dx))) s' → Q () s') : wpAny (model X.prog X.w) A (setAttr (.ref a) f u) Q E s := by
  obtain ⟨B, newId, initId, bmB, eb, hi, hov⟩ := T.cls
  obtain ⟨t1, ho⟩ := exo_at I.hok e
  obtain ⟨hp, g, d, t, os⟩ := s
  refine PySem.W.set_plain I.kIn (ox := { cls := .ref C, dict := none, data := .fields #[.ref t1, .none, .none, .none, .bool false, .none] }) (od := none) ⟨ho, rfl, rfl, trivial⟩ T.sa ?_
  obtain ⟨cd, hc, hd'⟩ := any_some' (show (PySem.W.clsIn X.K C).any (·.hasDict) = true from T.hd)
  have hxs : a ≠ hp.objs.size := Nat.ne_of_lt (Heap.lt_size ho)
  refine PySem.W.osa_openX (r := none) (od := none) eb.st I.kIn ⟨ho, rfl, rfl, trivial⟩ hov (by unfold PySem.W.takerIn; rw [hno]; rfl) fun b => ?_
  have hcls : PySem.W.Looks (model X.prog X.w) hp (classData C) cd := PySem.W.looks_clsIn I.kIn hc
  obtain ⟨nm, bs, mro, ns, qn, hd, sn, sb, ab, col, del⟩ := cd
  dsimp only at hd'
  subst hd'
  have fin : ∀ {h' : Heap} {tk' : Nat} {dx : Addr}, (∀ b o, b ≠ a → hp.get? b = some o → h'.get? b = some o) → hp.objs.size ≤ dx → dx ≠ a → h'.get? a = some { cls := .ref C, dict := some dx, data := .fields #[.ref t1, .none, .none, .none, .bool false, .none] } →
      h'.Ns1 dx (fun y => if y = f then some u else none) → Q () ⟨h', g, d, tk', os⟩ := fun {h' tk' dx} k dn dne hx hn => by
    have hnd : H dx = none := I.hok.fresh dn
    have nd : ∀ {b : Addr} {o : Obj}, hp.get? b = some o → b ≠ dx := fun {b o} q => Nat.ne_of_lt (Nat.lt_of_lt_of_le (Heap.lt_size q) dn)
    have na : ∀ {b : Addr}, H b = none → b ≠ a := fun {b} n z => by
      rw [z, e] at n
      cases n
    have Un1 : Un X.fs [] H (upd (upd H dx (exd dx [(f, y)])) a (exo a C (some dx))) hp h' := {
      keep := fun b o q n _ _ => k b o (na n) q
      slot := fun b o q n _ _ => ⟨o.slots, k b o (na n) q⟩
      free := fun b o q n _ => by rw [upd_ne (na n), upd_ne (nd q)]; exact n
      there := fun b o q _ => by
        by_cases hb : b = a
        · exact ⟨_, by rw [hb]; exact hx⟩
        · exact ⟨o, k b o hb q⟩
      tups := fun b xs q => by rw [upd_ne (at_ne e q exo_tup), upd_ne (ne_of_none q hnd)]; exact q
      frzs := fun b o v q => by rw [upd_ne (at_ne e q exo_frz), upd_ne (ne_of_none q hnd)]; exact q
      tbls := fun b ps q => ⟨#[], by rw [upd_ne (at_ne e q exo_tbl), upd_ne (ne_of_none q hnd), q]; simp⟩ }
    refine h dx _ hnd dne (I.un (t' := tk') Un1 fun b o q => ?_)
    by_cases hb : b = a
    · subst hb
      rw [upd_same] at q
      cases q
      exact exo_ok hx
    · rw [upd_ne hb] at q
      by_cases hd : b = dx
      · subst hd
        rw [upd_same] at q
        cases q
        exact exd_ok hn (relO_put (fs := []) ry fun g => True.intro)
      · rw [upd_ne hd] at q
        exact (I.hok b o q).stay (fun c v hc z => k c v (by
            rcases hc with hc | hc
            · rw [hc]
              exact hb
            · exact at_ne e hc exo_own) z)
          (fun c hc => by rw [upd_ne (at_ne e hc exo_own), upd_ne (ne_of_none hc hnd)]; exact hc) (fun c xs hc => by rw [upd_ne (at_ne e hc exo_tup), upd_ne (ne_of_none hc hnd)]; exact hc)
  show wpAny _ _ (storeInOwnDict (.ref a) (.ref C) (.str f _) f u b) _ _ _
  unfold storeInOwnDict ownDictForStores
  repeat (first | with_reducible refine HandSPX.store_in_new ?_ ?_ | with_reducible refine wpAny_loadPart_at ho ?_ | with_reducible refine hcls.at ?_ | wp_step)
  · exact ⟨_, #[], _, (Heap.get?_update_ne _ _ _ _ hxs.symm).trans (Heap.get?_push_at rfl rfl), rfl, fun e he => absurd he (by simp), fun _ => rfl⟩
  · intro h' tk' hn' hs
    have hx₁ : (hp.push { cls := .type "dict", data := .dict #[] }).get? a = some { cls := .ref C, data := .fields #[.ref t1, .none, .none, .none, .bool false, .none] } := Heap.get?_push_of_some _ ho
    refine fin (dx := hp.objs.size) (fun b o hb ho => ?_) (Nat.le_refl _) hxs.symm ?_ hn'
    · exact (hs.2 b (Nat.ne_of_lt (Heap.lt_size ho))).trans ((Heap.get?_update_ne _ _ _ _ hb).trans (Heap.get?_push_of_some _ ho))
    · exact (hs.2 a hxs).trans (Heap.get?_update_self _ hx₁ rfl)
/-- self.f = y, a further one -/
theorem gst_old (T : OexG X.K C) (I : Inv X pins σ H s) (e : H a = some (exo a C (some dx))) (ed : H dx = some (exd dx fs)) (hl : fs.length ≤ 900) (hno : PySem.W.findIn X.K (.ref C) f = some none) (ry : RelV y u)
    (h : ∀ s', Inv X pins σ (upd H dx (exd dx ((f, y) :: fs))) s' → Q () s') : wpAny (model X.prog X.w) A (setAttr (.ref a) f u) Q E s := by
  obtain ⟨B, newId, initId, bmB, eb, hi, hov⟩ := T.cls
  obtain ⟨t1, ho⟩ := exo_at I.hok e
  obtain ⟨mA, hns, rel⟩ := exd_at I.hok ed
  have hw := within_of rel
  obtain ⟨hp, g, d, t, os⟩ := s
  obtain ⟨oD, _, _, hoD, _, _⟩ := hns.count hw
  refine PySem.W.set_plain I.kIn (ox := { cls := .ref C, dict := some dx, data := .fields #[.ref t1, .none, .none, .none, .bool false, .none] }) (od := some oD) ⟨ho, rfl, rfl, hoD⟩ T.sa ?_
  obtain ⟨cd, hc, hd'⟩ := any_some' (show (PySem.W.clsIn X.K C).any (·.hasDict) = true from T.hd)
  refine PySem.W.osa_openX (r := none) (od := some oD) eb.st I.kIn ⟨ho, rfl, rfl, hoD⟩ hov (by unfold PySem.W.takerIn; rw [hno]; rfl) fun b => ?_
  have hcls : PySem.W.Looks (model X.prog X.w) hp (classData C) cd := PySem.W.looks_clsIn I.kIn hc
  obtain ⟨nm, bs, mro, ns, qn, hd, sn, sb, ab, col, del⟩ := cd
  dsimp only at hd'
  subst hd'
  show wpAny _ _ (storeInOwnDict (.ref a) (.ref C) (.str f _) f u b) _ _ _
  unfold storeInOwnDict ownDictForStores
  repeat (first | with_reducible refine PySem.OEX.store_in_old hns hw (by rw [List.length_map]; omega) ?_ | with_reducible refine wpAny_loadPart_at ho ?_ | with_reducible refine hcls.at ?_ | wp_step)
  intro h' tk' hn hs
  have hd : ∃ o, h'.get? dx = some o := by
    obtain ⟨o, _, _, e', _⟩ := hn
    exact ⟨o, e'⟩
  exact h _ (I.write (t' := tk') (x := dx) (e := dx) (o := exd dx ((f, y) :: fs)) (by rw [ed]; exact True.intro) (.inl rfl) (fun b o hb ho => (hs.2 b hb).trans ho) hd (exd_ok hn (relO_put ry rel)))
end

/-- self.f = e -/
def tGst (K : PySem.W.Frag) (f : Str) (to te : TE) : TS := fun D σ H => te σ H fun y H1 => to σ H1 fun x H2 => ∃ a C : Addr, x = .ref a ∧ OexG K C ∧ PySem.W.findIn K (.ref C) f = some none ∧
  ((H2 a = some (exo a C none) ∧ ∀ dx, H2 dx = none → dx ≠ a → D.nx σ (upd (upd H2 dx (exd dx [(f, y)])) a (exo a C (some dx)))) ∨
    ∃ (dx : Addr) (fs : List (Str × V)), H2 a = some (exo a C (some dx)) ∧ H2 dx = some (exd dx fs) ∧ fs.length ≤ 900 ∧ D.nx σ (upd H2 dx (exd dx ((f, y) :: fs))))
section
variable {X : Cx} {o e : Expr} {es : List Expr} {to te : TE} {ta : TA} {f : Str} {p p' p1 p2 pos : Pos}
theorem ps_gst (ho : PE X o to) (he : PE X e te) (hs : swapsWith e (some (.Attribute o f p')) pos.line X.env = pure false := by rfl) : PS X (.Assign [.Attribute o f p'] e pos) (tGst X.K f to te) := by
  refine ⟨fun pins s σ H D I h => ?_⟩
  refine plainObj_wpAny_Assign_Attribute (thn (he.run pins s σ H _ I h) fun v s1 ⟨y, H1, I1, r1, q1⟩ => thn (ho.run pins s1 σ H1 _ I1 q1) fun u s2 ⟨x, H2, I2, r2, a, C, ex, T, hno, q⟩ => ?_) hs
  subst ex
  obtain rfl : u = Value.ref a := r2
  rcases q with ⟨ea, q⟩ | ⟨dx, fs, ea, ed, hl, q⟩
  · exact gst_new T I2 ea hno r1 fun dx s' n ne J => ⟨σ, _, J, q dx n ne⟩
  · exact gst_old T I2 ea ed hl hno r1 fun s' J => ⟨σ, _, J, q⟩
/-- C(..): from the arguments' values on -/
theorem gmk_run {pins : List (Addr × Obj)} {σ : L2.St} {H1 : Hp} {s1 : Shared} {us : List Value} {vs : List V} {Q : XK} {CX : CXT} {C fI : Addr} {k : Nat} {fd : FuncData} {ps : List Str} {sp : Sp} (T : OexG X.K C) (iC : PySem.W.findIn X.K (.ref C) "__init__" = some (some (.ref fI))) (tI : PySem.W.typeIn X.K (.ref fI) = some (.type "function"))
    (F1 : FnOk X.prog X.w X.K X.mg X.base CX k fI fd ps sp) (hr : Room (k + 1) X.A) (hb : Binds X.K fd ps []) (hx : Passes CX X (fun _ _ _ => False)) (I1 : Inv X pins σ H1 s1) (r1 : Vals vs us) (hz : vs.length ≤ 1000)
    (q1 : ∀ a, H1 a = none → sp (.ref a :: vs) (upd H1 a (exo a C none)) (fun v H2 => v = .non ∧ ∃ (d : Addr) (fs : List (Str × V)), H2 a = some (exo a C (some d)) ∧ H2 d = some (exd d fs) ∧ H1 d = none ∧ Q (.ref C) (some d) (upd (del H2 a) d (.xd fs))) (fun _ _ _ => False)) :
    wpAny (model X.prog X.w) X.A (call (.ref C) us) (MkP X pins σ Q) X.xe s1 := by
  obtain ⟨B, newId, initId, bmB, eb, hi, hov⟩ := T.cls
  obtain ⟨nm, N, q, bs, bm, hdct, sn, sub, ab, col, dd, k0, k1, k2, k3, k5, hC, hbm⟩ := PySem.W.excInit_of I1.kIn hi
  obtain ⟨hp, g, dr, tk, os⟩ := s1
  have hsz : hp.objs.size ≤ hp.objs.size + 1 := Nat.le_succ _
  have hn : H1 (hp.objs.size + 1) = none := I1.hok.fresh hsz
  have hq := q1 (hp.objs.size + 1) hn
  have kk : ∀ b o, hp.get? b = some o → ((hp.push (PySem.W.kdv_tup us)).push (PySem.HandSPX.excO C hp.objs.size)).get? b = some o := fun b o e => Heap.get?_push_of_some _ (Heap.get?_push_of_some _ e)
  have hget : ((hp.push (PySem.W.kdv_tup us)).push (PySem.HandSPX.excO C hp.objs.size)).get? (hp.objs.size + 1) = some (PySem.HandSPX.excO C hp.objs.size) := by heap_get
  have I2 : Inv X pins σ (upd H1 (hp.objs.size + 1) (exo (hp.objs.size + 1) C none)) ⟨(hp.push (PySem.W.kdv_tup us)).push (PySem.HandSPX.excO C hp.objs.size), g, dr, tk, os⟩ :=
    I1.laid (t' := tk) (a := hp.objs.size + 1) (o := exo (hp.objs.size + 1) C none) (h' := (hp.push (PySem.W.kdv_tup us)).push (PySem.HandSPX.excO C hp.objs.size)) kk hsz (exo_ok hget)
  have r2 : Vals (V.ref (hp.objs.size + 1) :: vs) (Value.ref (hp.objs.size + 1) :: us) := .cons rfl r1
  have hl : (Value.ref (hp.objs.size + 1) :: us ++ []).length = ps.length := by
    have e := r2.length
    rw [F1.len _ _ _ _ hq] at e
    rw [List.append_nil]
    exact e.symm
  have hus : us.length ≤ sizeLine := by
    rw [← Paired.length r1, sizeLine_eq]
    omega
  have hbb := hb ⟨(hp.push (PySem.W.kdv_tup us)).push (PySem.HandSPX.excO C hp.objs.size), g, dr, tk, os⟩ (Value.ref (hp.objs.size + 1) :: us) I2.kIn hl
  rw [List.append_nil] at hbb
  refine wpAny_call (PySem.HandSPX.call_own eb.fb hbm hC (PySem.W.looks_findIn I1.kIn iC) (fun self => PySem.W.bind_fn I1.kIn self tI) hus
    (codeAny_mono (F1.run _ X.stack _ _ ⟨Value.ref (hp.objs.size + 1) :: us, []⟩ (Value.ref (hp.objs.size + 1) :: us) _ _ (fun _ _ _ => False) (hr.make C us []) (I2.env0.make C us []) hbb r2 hq) fun r s' hq' => ?_))
  cases r with
  | error er => exact hx pins σ _ _ er s' I2 hq'
  | ok fl =>
    cases fl with
    | ret u =>
      obtain ⟨v, H2, os2, bare2, un2, hok2, rv, ev, d, fs, ea, ed, hd1, q2⟩ := hq'
      subst ev
      obtain ⟨h2, g2, d2, t2, os'⟩ := s'
      exact ⟨rv, mk_end (raises_own T.exC T.tyC) I1 hsz kk un2 hok2 os2 bare2 ea ed hd1 q2⟩
    | next => exact False.elim hq'
    | brk => exact False.elim hq'
    | cont => exact False.elim hq'
end
/-! ### a class of the program's errors: __init__ stores its arguments and the tag -/
/-- what __init__ does: the fields fs, then the tag -/
def sp_init (C : Addr) (fs : List Str) (tag : Str) : Sp := fun vs H Q _ => ∃ (a : Addr) (ws : List V), vs = .ref a :: ws ∧ ws.length = fs.length ∧ H a = some (exo a C none) ∧
  ∀ (H2 : Hp) (dx : Addr), H dx = none → dx ≠ a → (∀ b, b ≠ a → b ≠ dx → H2 b = H b) → H2 a = some (exo a C (some dx)) → H2 dx = some (exd dx (("tag", V.str tag) :: (fs.zip ws).reverse)) → Q .non H2
structure Xcl (K : PySem.W.Frag) (mg : Str → Option Value) (x : Str) (st : Stmt) (fs : List Str) : Prop where
  gC : mg x = some (.ref (He.ga K x))
  ox : OexG K (He.ga K x)
  xf : XfC K (He.ga K x)
  no : ∀ f ∈ ("tag" : Str) :: fs, PySem.W.findIn K (.ref (He.ga K x)) f = some none
  fI : ∃ fI fd, PySem.W.findIn K (.ref (He.ga K x)) "__init__" = some (some (.ref fI)) ∧ PySem.W.typeIn K (.ref fI) = some (.type "function") ∧ Fun K "__init__" (x ++ ".__init__") st fI fd
/-- a class that can be raised, its __init__ walked -/
structure XOk (P : Program) (w : World) (K : PySem.W.Frag) (mg : Str → Option Value) (base : Heap) (x : Str) (fs : List Str) : Prop where
  gC : mg x = some (.ref (He.ga K x))
  ox : OexG K (He.ga K x)
  fI : ∃ fI fd ps, PySem.W.findIn K (.ref (He.ga K x)) "__init__" = some (some (.ref fI)) ∧ PySem.W.typeIn K (.ref fI) = some (.type "function") ∧ FnOk P w K mg base CX0 1 fI fd ps (sp_init (He.ga K x) fs x) ∧ Binds K fd ps []
/-- raise x(..): a new dict d with the fields -/
def tRz (C : Addr) (fs : List Str) (x : Str) (ta : TA) : L2.St → Hp → XK → Prop := fun σ H Q => ta σ H fun vs H1 => vs.length = fs.length ∧ ∀ (d : Addr) (H2 : Hp), H1 d = none → (∀ b, b ≠ d → H2 b = H1 b) → H2 d = some (.xd (("tag", V.str x) :: (fs.zip vs).reverse)) → Q (.ref C) (some d) H2
section
variable {X : Cx} {x : Str} {fs : List Str} {e : Expr} {es : List Expr} {ta : TA} {p pos : Pos} {k : Nat}
theorem rz_sp {Q : XK} {H1 : Hp} {vs : List V} {C : Addr} (hl : vs.length = fs.length) (q : ∀ (d : Addr) (H2 : Hp), H1 d = none → (∀ b, b ≠ d → H2 b = H1 b) → H2 d = some (.xd (("tag", V.str x) :: (fs.zip vs).reverse)) → Q (.ref C) (some d) H2) (a : Addr) (ha : H1 a = none) :
    sp_init C fs x (.ref a :: vs) (upd H1 a (exo a C none)) (fun v H2 => v = .non ∧ ∃ (d : Addr) (fs : List (Str × V)), H2 a = some (exo a C (some d)) ∧ H2 d = some (exd d fs) ∧ H1 d = none ∧ Q (.ref C) (some d) (upd (del H2 a) d (.xd fs))) (fun _ _ _ => False) := by
  refine ⟨a, vs, rfl, hl, upd_same, fun H2 dx hd hne keep ea ed => ⟨rfl, dx, _, ea, ed, ?_, q dx _ ?_ (fun b hb => ?_) upd_same⟩⟩
  · rw [upd_ne hne] at hd
    exact hd
  · rw [upd_ne hne] at hd
    exact hd
  · rw [upd_ne hb]
    by_cases e : b = a
    · rw [e, del_same, ha]
    · rw [del_ne e, keep b e hb, upd_ne e]
theorem pmk_rz (Z : XOk X.prog X.w X.K X.mg X.base x fs) (hr : Room (k + 2) X.A) (hg : Gl X x) (ha : PA X (e :: es) ta)
    (hdb : (x == ("__debug__" : Str)) = false := by decide) (he : starEach (e :: es) X.env = (false, eval e X.env) :: starEach es X.env := by rfl) (hpl : (backTo pos (starEach es X.env)).any (·.1) = false := by rfl) (hfs : fs.length ≤ 1000 := by decide) :
    PMk X (.Call (.Name x p) (e :: es) [] pos) (tRz (He.ga X.K x) fs x ta) := by
  intro pins s σ H Q I h
  obtain ⟨fI, fd, ps, iC, tI, F1, hb⟩ := Z.fI
  refine wpAny_Call_Name_kw (ld_glob I hg Z.gC ?_ hdb)
  refine PySem.W.callWith_K (h₀ := X.base) I.ok.mod.kin Z.ox.kC (thn (ha.run pos pins s σ H _ I h) fun us s1 ⟨vs, H1, I1, r1, hl, q1⟩ => ⟨I1.kIn, ?_⟩) he hpl
  exact gmk_run Z.ox iC tI F1 (hr.mono (by omega)) hb pass0 I1 r1 (by omega) (rz_sp hl q1)
theorem pmk_rz0 (Z : XOk X.prog X.w X.K X.mg X.base x []) (hr : Room (k + 2) X.A) (hg : Gl X x) (hdb : (x == ("__debug__" : Str)) = false := by decide) :
    PMk X (.Call (.Name x p) [] [] pos) (tRz (He.ga X.K x) [] x tNil) := by
  intro pins s σ H Q I h
  obtain ⟨fI, fd, ps, iC, tI, F1, hb⟩ := Z.fI
  refine wpAny_Call_Name_kw (ld_glob I hg Z.gC ?_ hdb)
  obtain ⟨hl, q1⟩ := h
  exact PySem.W.callWith_K0 I.kIn Z.ox.kC (gmk_run Z.ox iC tI F1 (hr.mono (by omega)) hb pass0 I .nil (by decide) (rz_sp hl q1))
end

/-! ### callables that may raise -/
structure CalX (P : Program) (w : World) (K : PySem.W.Frag) (mg : Str → Option Value) (base : Heap) (k : Nat) (x : Str) (sp : Sp) : Prop where
  ex : ∃ (f : Addr) (fd : FuncData) (ps : List Str), FnOk P w K mg base (L2.CX P w) k f fd ps sp ∧ mg x = some (.ref f) ∧ PySem.W.keepIn K (.ref f) = true ∧ Binds K fd ps []
section
variable {P : Program} {w : World} {K : PySem.W.Frag} {mg : Str → Option Value} {base : Heap}
theorem calx_of {x : Str} {st : Stmt} {N ps : List Str} {k : Nat} {sp : Sp} (D : Dfn K mg x st) (S : FnScope N ps (defScope st))
    (hb : ∀ (kV doc pm : Value) (an : Option Addr) (cdv ct : Value) (us : List Value), us.length = ps.length → bindArgs (PySem.W.fnOf x x (defArgs st) (defBody st) (defScope st) .none kV doc pm an cdv ct) ⟨us, []⟩ = pure (ps.zip us))
    (len : ∀ vs H Q E, sp vs H Q E → vs.length = ps.length)
    (hbody : ∀ (f : Addr) (cdv : Value) (A : Around) (outer : List Env) (s : Shared) (H : Hp) (vs : List V) (Q : VK) (E : XK), Room k (A.deeper (envOfC x (defScope st) s.heap.objs.size f cdv)) → sp vs H Q E →
      ∃ t, PSs (cxOf (L2.CX P w) P w K mg base N x (defScope st) f cdv A outer s H E) (defBody st) t ∧ t { nx := fun _ H' => Q .non H', rt := Q } (start N vs) H) : CalX P w K mg base (k + 1) x sp := by
  obtain ⟨f, fd, F, hm⟩ := D.ex
  exact ⟨f, fd, ps, F.okX S len (fun cdv A outer s H vs Q E hr h => hbody f cdv A outer s H vs Q E hr h), hm, F.kp, F.binds hb⟩
theorem calx_zero {x : Str} {st : Stmt} {ps : List Str} {sp : Sp} (D : Dfn K mg x st)
    (hb : ∀ (kV doc pm : Value) (an : Option Addr) (cdv ct : Value) (us : List Value), us.length = ps.length → bindArgs (PySem.W.fnOf x x (defArgs st) (defBody st) (defScope st) .none kV doc pm an cdv ct) ⟨us, []⟩ = pure (ps.zip us))
    (no : ∀ vs H Q E, ¬ sp vs H Q E) : CalX P w K mg base 0 x sp := by
  obtain ⟨f, fd, F, hm⟩ := D.ex
  exact ⟨f, fd, ps, ⟨fun vs H Q E h => absurd h (no vs H Q E), fun A outer s H args us vs Q E _ _ _ _ h => absurd h (no vs H Q E)⟩, hm, F.kp, F.binds hb⟩
theorem CalX.mono {x : Str} {j k : Nat} {sp : Sp} (c : CalX P w K mg base j x sp) (h : j ≤ k) : CalX P w K mg base k x sp := by
  obtain ⟨f, fd, ps, F, r⟩ := c.ex
  exact ⟨f, fd, ps, F.mono h, r⟩
theorem CalX.imp {x : Str} {k : Nat} {sp sp' : Sp} (c : CalX P w K mg base k x sp) (h : ∀ vs H Q E, sp' vs H Q E → sp vs H Q E) : CalX P w K mg base k x sp' := by
  obtain ⟨f, fd, ps, F, r⟩ := c.ex
  exact ⟨f, fd, ps, F.imp h, r⟩
end
section
variable {X : Cx} {k j : Nat} {x : Str} {sp : Sp} {p pos : Pos} {e : Expr} {es : List Expr} {t : TA} {W : WX}
theorem pe_ccX (c : CalX X.prog X.w X.K X.mg X.base k x sp) (tk : Takes X W) (hr : Room j X.A) (hk : k ≤ j) (hg : Gl X x) (ha : PA X (e :: es) t)
    (hdb : (x == ("__debug__" : Str)) = false := by decide) (he : starEach (e :: es) X.env = (false, eval e X.env) :: starEach es X.env := by rfl) (hpl : (backTo pos (starEach es X.env)).any (·.1) = false := by rfl) :
    PE X (.Call (.Name x p) (e :: es) [] pos) (tCallS sp (WE W) t) := by
  obtain ⟨f, fd, ps, F, hm, hkp, hb⟩ := c.ex
  exact pe_callS F (hr.mono hk) hg hm hkp hb (fun σ => passAt tk σ) ha hdb he hpl
theorem takes_len (tk : Takes X W) : Takes X (fun cls d σ H => σ.length = X.N.length → W cls d σ H) := fun u s' ⟨a, B, sI, pins, σ, H, cls, d, e, I, nb, up, sky, na, os, ag, w⟩ =>
  tk u s' ⟨a, B, sI, pins, σ, H, cls, d, e, I, nb, up, sky, na, os, ag, w I.len⟩
end
/-! ### err.f in an except suite, the class told by the reading -/
def tXfA (K : PySem.W.Frag) (a : Addr) (cls : Value) (d : Option Addr) (f : Str) (te : TE) : TE := fun σ H Q => te σ H fun x H1 => x = .ref a ∧ ∃ C : Addr, cls = .ref C ∧ XfC K C ∧ PySem.W.findIn K (.ref C) f = some none ∧ ∃ (dd : Addr) (fs : List (Str × V)) (v : V), d = some dd ∧ H1 dd = some (.xd fs) ∧ fs.lookup f = some v ∧ Q v H1
theorem pe_xfA {X : Cx} {a : Addr} {oe : Obj} {cls : Value} {d : Option Addr} {pn : List (Addr × Obj)} {e : Expr} {te : TE} {pos : Pos} {n : Str} (hz : Zc cls d oe) (hf : ∃ vs, oe.data = .fields vs) (he : PE (X.suite a ((a, oe) :: pn)) e te) (hb : attributeBase e n X.env (eval e X.env) = eval e X.env := by rfl) :
    PE (X.suite a ((a, oe) :: pn)) (.Attribute e n pos) (tXfA X.K a cls d n te) := by
  refine ⟨fun pins s σ H Q I h => ?_⟩
  refine attr_of hb (thn (he.run pins s σ H _ I h) fun u s1 hh => ?_)
  obtain ⟨x, H1, I1, rx, ex, C, ec, T, hno, dd, fs, v, ed, ea, l, q⟩ := hh
  subst ex
  obtain rfl : u = Value.ref a := rx
  subst ec
  subst ed
  obtain ⟨ha, _⟩ := I1.pin (a, oe) (List.mem_append_left _ List.mem_cons_self)
  obtain ⟨vs, hd⟩ := hf
  have hx : ObjOk X.prog X.w H1 s1.heap dd (.xd fs) := I1.hok dd _ ea
  obtain ⟨mA, hns, hr⟩ := hx
  obtain ⟨od, ho, hl⟩ := lookIn_ns hns
  obtain ⟨u, hu, ru⟩ := RelO.some_of (v := v) (o := mA n) (by rw [← l]; exact hr n)
  have J : PySem.W.InstAt s1.heap a oe C (some od) := ⟨ha, hz.1, by unfold PySem.W.notCls; rw [hd] <;> rfl, by rw [hz.2]; exact ho⟩
  exact HandSPX.exc_get I1.kIn J T.ga T.gg T.exC (PySem.W.findObj_own T.hdC hno rfl (by rw [hl, hu])) (handed_of ru) ⟨v, H1, I1.tok _, ru, q⟩
/-! ### _law_why: try: return ('', ask()) / except .. as e: .. -/
def TTwhy (K : PySem.W.Frag) (n : Nat) (r : Str) (l : List Clause) : (XK → Hp → VK → Prop) → Hp → VK → Prop := fun tl H Q =>
  tl (fun cls d H' => ∀ σ : L2.St, σ.length = n → wManyA K (fun _ _ _ _ => False) { nx := fun _ H' => Q .non H', rt := Q } l cls d σ H') H (fun v H' => 2 ≤ sizeLine ∧ ∀ p, H' p = none → Q (.ref p) (upd H' p (.tup [.str r, v])))
theorem why_gives {X : Cx} {Ng : List Str} {x a q r : Str} {sg : Scope} {g : Addr} {cdg : Value} {j kk : Nat} {l : List Clause} {h₀ : ExceptHandler} {hds : List ExceptHandler} {p1 p2 p3 p4 p5 p6 : Pos} (h0 : ∀ f : Addr, (L2.start Ng [V.ref f])[0]? = some (some (V.ref f)))
    (hh : ∀ (s : Shared) (H : Hp), HdsA (cxOf C8.CX0 X.prog X.w X.K X.mg X.base Ng x sg g cdg X.A X.stack s H C8.E0).nox (h₀ :: hds) l) :
    LamX.GivesTo X Ng x sg g cdg [.Try [.Return (some (.Tuple [.Constant (.str r) j p1, .Call (.Name a p2) [] [] p3] kk p4)) p5] (h₀ :: hds) [] [] p6] a q (TTwhy X.K Ng.length r l) := by
  intro f c' s H Q tl act hc h
  refine ⟨_, pss_one (ps_try_manyA (X := (cxOf C8.CX0 X.prog X.w X.K X.mg X.base Ng x sg g cdg X.A X.stack s H C8.E0).nox)
      (tb := fun W D σ H => ∃ Ech : XK, (∀ cls d σ' H', Ech cls d H' → σ'.length = Ng.length → W cls d σ' H') ∧ σ[0]? = some (some (.ref f)) ∧ H c' = some (LamX.CodeO c' q) ∧ tl Ech H (fun v H' => 2 ≤ sizeLine ∧ ∀ p, H' p = none → D.rt (.ref p) (upd H' p (.tup [.str r, v]))))
      rfl rfl L2.takes0 (fun W pn xe tk _ => ?_) (hh s H)), ?_⟩
  · refine ⟨fun pins s' σ H' D I h' => ?_⟩
    obtain ⟨Ech, hW, h1, h2, h3⟩ := h'
    have hp := act (fun cls d σ H => σ.length = Ng.length → W cls d σ H) pn xe Ech p2 p3 (takes_len tk) (fun cls d σ' H' e hl => hW cls d σ' H' e hl)
    have hq := pss_one (ps_ret (pos := p5) (pe_tup (x1 := kk) (pos := p4) (pa_cons (e := .Constant (.str r) j p1) pe_str (pa_cons hp pa_nil))))
    exact hq.run pins s' σ H' D I ⟨h1, h2, h3⟩
  · exact ⟨_, fun cls d σ' H' hE hl => hE σ' hl, h0 f, hc, h⟩

/-! ### a lambda handed to a def: only the maker's table is changed -/
def ExtP (P : Addr) (H H' : Hp) : Prop := ∀ b o, b ≠ P → H b = some o → H' b = some o
theorem TabS_ext {H H' : Hp} {P : Addr} {q : Str} (t : LamX.TabS H P q) (e : ∀ b o, (b = P ∨ H b = some (LamX.CodeO b q)) → H b = some o → H' b = some o) : LamX.TabS H' P q := by
  obtain ⟨ps, h1, h2, h3⟩ := t
  refine ⟨ps, e _ _ (.inl rfl) h1, h2, fun pos cv hc => ?_⟩
  obtain ⟨c, e1, e2⟩ := h3 pos cv hc
  exact ⟨c, e1, e _ _ (.inr e2) e2⟩
section
variable {X : Cx} {pins : List (Addr × Obj)} {σ : L2.St} {H : Hp} {s : Shared}
theorem lam_makeP {c P : Addr} {params : Arguments} {body : Expr} {scope : Scope} {pos : Pos} {E : Value → Shared → Prop} {Q : Value → Shared → Prop} (I : Inv X pins σ H s) (TB : LamX.TabB X.base X.mg c P) (hcode : X.env.code = .ref c)
    (hT : LamX.TabS H P (X.env.qual ++ "<lambda>")) (hdef : defaultsOf params X.env = ([], [])) (hfree : ∀ y ∈ scope.names, y.2 = .free → ∃ c, X.env.cells.lookup y.1 = some c)
    (h : ∀ (f c' : Addr) (pm ctv : Value) (H1 : Hp) (s' : Shared), Inv X pins σ H1 s' → ExtP P H H1 → LamX.TabS H1 P (X.env.qual ++ "<lambda>") →
      s'.heap.get? f = some (PySem.W.kla_obj "<lambda>" (X.env.qual ++ "<lambda>") params body scope (cloFrom X.env.cells scope.names []) pm c' ctv) → H1 f = none → f ∉ frs X.stack → H1 c' = some (LamX.CodeO c' (X.env.qual ++ "<lambda>")) → Q (.ref f) s') :
    wpAny (model X.prog X.w) X.A (eval (.Lambda params body scope pos) X.env) Q E s := by
  obtain ⟨ps, hP, ht, ha⟩ := hT
  refine PySem.W.kla_eval hdef ?_
  have bP : s.heap.BuiltinsAt X.mg P := TB.bm.keeps I.bk
  have hP' : s.heap.get? P = some { cls := .none, data := .fields ps } := I.hok P _ hP
  have nofr : ∀ f, s.heap.objs.size ≤ f → f ∉ frs X.stack := fun f hf z => by
    rcases List.mem_cons.mp (I.stkSub _ z) with e | e
    · have h1 := I.lt
      rw [← e] at h1
      exact Nat.lt_irrefl _ (Nat.lt_of_lt_of_le h1 hf)
    · exact I.nofs hf e
  cases hc : codeAmong pos ps.toList with
  | none =>
    refine PySem.W.kla_makeFunction (mg := X.mg) (c := c) (P := P) (ps := ps) (closure_ok hfree) I.ok.glob (I.mod.glob.keeps I.bk) hcode (TB.code.keeps I.bk) hP' ht hc TB.gP bP fun c' ctv h' tk hx hge hlt hrec htb => ?_
    obtain ⟨c2, oc, vs, t, e2, hoc, hd, hv⟩ := hrec
    cases e2
    have hsz : s.heap.objs.size ≤ h'.objs.size := Nat.le_trans hge (Nat.le_of_lt hlt)
    have nC : H c' = none := I.hok.fresh hge
    have I1 := LamX.inv_table (t' := tk) (more := #[rawInt pos.line, rawInt pos.col, .ref c']) (h' := h'.push (PySem.W.kla_obj "<lambda>" (X.env.qual ++ "<lambda>") params body scope (cloFrom X.env.cells scope.names []) ((X.mg "__name__").getD .none) c' ctv)) I hP
      (fun b o hb e => Heap.get?_push_of_some _ (hx b o hb e)) (Heap.get?_push_of_some _ htb) hge ⟨oc, vs, t, Heap.get?_push_of_some _ hoc, hd, hv⟩
    have hE : ExtP P H (upd (upd H P (.tbl (ps ++ #[rawInt pos.line, rawInt pos.col, .ref c']))) c' (LamX.CodeO c' (X.env.qual ++ "<lambda>"))) := fun b o n e => by
      rw [upd_ne (ne_of_none e nC), upd_ne n]
      exact e
    have nP : ∀ {b : Addr}, H b = some (LamX.CodeO b (X.env.qual ++ "<lambda>")) → b ≠ P := fun {b} e z => by
      rw [z, hP] at e
      exact LamX.codeO_ne _ (Option.some.inj e).symm
    have eL : (ps ++ #[rawInt pos.line, rawInt pos.col, .ref c']).toList = ps.toList ++ [rawInt pos.line, rawInt pos.col, .ref c'] := by simp
    refine h h'.objs.size c' ((X.mg "__name__").getD .none) ctv _ _ I1 hE ⟨_, by rw [upd_ne (ne_of_none hP nC), upd_same], by rw [eL]; exact PySem.TriplesOk_snoc _ _ _ _ ht, fun p' cv hcv => ?_⟩ (Heap.get?_push_size _ rfl) ?_ (nofr _ hsz) upd_same
    · rw [eL] at hcv
      rcases LamX.among_app _ ht hcv with z | z
      · obtain ⟨c0, e1, e2⟩ := ha p' cv z
        exact ⟨c0, e1, hE _ _ (nP e2) e2⟩
      · exact ⟨c', z, upd_same⟩
    · have n1 : h'.objs.size ≠ c' := Nat.ne_of_gt hlt
      have n2 : h'.objs.size ≠ P := Nat.ne_of_gt (Nat.lt_of_lt_of_le (Heap.lt_size hP') hsz)
      rw [upd_ne n1, upd_ne n2]
      exact I.hok.fresh hsz
  | some cv =>
    obtain ⟨c', e, hco⟩ := ha pos cv hc
    subst e
    refine PySem.W.kla_makeFunctionHit (mg := X.mg) (c := c) (P := P) (ps := ps) (closure_ok hfree) I.ok.glob (I.mod.glob.keeps I.bk) hcode (TB.code.keeps I.bk) hP' ht hc bP fun ctv h' tk hx hsz => ?_
    have I1 : Inv X pins σ H { s with heap := h'.push (PySem.W.kla_obj "<lambda>" (X.env.qual ++ "<lambda>") params body scope (cloFrom X.env.cells scope.names []) ((X.mg "__name__").getD .none) c' ctv), toks := tk } := I.kept fun b o e => Heap.get?_push_of_some _ (hx b o e)
    exact h h'.objs.size c' ((X.mg "__name__").getD .none) ctv H _ I1 (fun _ _ _ e => e) ⟨ps, hP, ht, ha⟩ (Heap.get?_push_size _ rfl) (I.hok.fresh hsz) (nofr _ hsz) hco
end
def tLamP (P : Addr) (q : Str) (TT : (XK → Hp → VK → Prop) → Hp → VK → Prop) (t : XK → TE) : TE := fun σ H Q => LamX.TabS H P q ∧ ∀ H1, ExtP P H H1 → LamX.TabS H1 P q → TT (fun E H' Q' => t E σ H' Q') H1 Q
/-- x(lambda: body), x a def of one parameter a -/
theorem pe_lamP {X : Cx} {TT : (XK → Hp → VK → Prop) → Hp → VK → Prop} {x a : Str} {st : Stmt} {g c P : Addr} {k : Nat} {fd : FuncData} {Ng : List Str}
    {params : Arguments} {body : Expr} {scope : Scope} {t : XK → TE} {p lpos pos : Pos} (hg : Gl X x) (hm : X.mg x = some (.ref g)) (F : Fun X.K x x st g fd) (Sg : FnScope Ng [a] (defScope st))
    (hbb : ∀ (kV doc pm : Value) (an : Option Addr) (cdv ct : Value) (us : List Value), us.length = 1 → bindArgs (PySem.W.fnOf x x (defArgs st) (defBody st) (defScope st) .none kV doc pm an cdv ct) ⟨us, []⟩ = pure ([a].zip us)) (hNg : Ng[0]? = some a) (hva : Vis (defScope st) a)
    (hG : ∀ cdv, LamX.GivesTo X Ng x (defScope st) g cdv (defBody st) a (X.env.qual ++ "<lambda>") TT)
    (TB : LamX.TabB X.base X.mg c P) (hcode : X.env.code = .ref c) (hr : Room (k + 2) X.A) (L : LamX.LamS X.env.scope scope) (hdef : defaultsOf params X.env = ([], []))
    (hbind : ∀ (q : Str) (cl : List (Str × Addr)) (pm cv ctv : Value), bindArgs (PySem.W.kla_fn "<lambda>" q params body scope cl pm cv ctv) ⟨[], []⟩ = pure [])
    (hbody : ∀ (A : Around) (outer : List Env) (s : Shared) (H : Hp) (E : XK) (f c' : Addr), Room k (A.deeper (LamX.lamEnv X scope s.heap.objs.size f c')) → PE (LamX.lamCx X A outer s H E scope f c') body (t E))
    (hdb : (x == ("__debug__" : Str)) = false := by decide) (hd : (a == ("__debug__" : Str)) = false := by decide) (hcd : (a == ("__classdict__" : Str)) = false := by decide) :
    PE X (.Call (.Name x p) [.Lambda params body scope lpos] [] pos) (tLamP P (X.env.qual ++ "<lambda>") TT t) := by
  have hb : L2.Binds X.K fd [a] [] := F.binds hbb
  obtain ⟨oc, od, kV, doc, pm, an, cdv, ct, osl, rfl, lk, hcg⟩ := F.ex
  refine ⟨fun pins s σ H Q I h => ?_⟩
  obtain ⟨hT, h⟩ := h
  refine wpAny_Call_Name_kw (ld_glob I hg hm ?_ hdb)
  refine PySem.W.callWith_K (h₀ := X.base) I.ok.mod.kin F.kp ?_ (by rfl) (by rfl)
  show wpAny _ _ (spliced ((false, eval (.Lambda params body scope lpos) X.env) :: backTo pos (starEach [] X.env))) _ _ s
  refine Calls.spliced_cons (lam_makeP I TB hcode hT hdef (L.has I.ok) fun f c' pm' ctv H1 s' I1 eN T1 hf hfn hfr hco => ?_)
  refine Calls.spliced_nil ⟨I1.kIn, ?_⟩
  have rc : codeAny (model X.prog X.w) X.A (.call (.ref g) ⟨[.ref f], []⟩) (CR C8.CX0 X.stack X.prog X.w H1 s' Q C8.E0) s' := by
    refine LamX.run_ofS (N := Ng) (ps := [a]) (us := [.ref f]) (vs := [.ref f]) lk hcg Sg hr I1.env0 (hb s' [.ref f] I1.kIn rfl) (.cons rfl .nil) rfl fun hr' => ?_
    obtain ⟨t', ht', hq'⟩ := hG cdv f c' s' H1 Q (fun E H' Q' => t E σ H' Q') (fun W pn xe E p1 p2 tk hW => LamX.pe_act (i := 0) I1 L hf hfn hfr (hbind _ _ _ _ _) tk hW hr' (fun A outer s H hr2 => hbody A outer s H E f c' hr2) hNg hva hd hcd) hco (h H1 eN T1)
    exact ⟨t', ht'.nox, hq'⟩
  refine wpAny_call (codeAny_mono rc fun r s2 hq => ?_)
  cases r with
  | error e => exact (show False from hq).elim
  | ok fl =>
    cases fl with
    | ret u => exact I1.after hq
    | next => exact False.elim hq
    | brk => exact False.elim hq
    | cont => exact False.elim hq

/-! ### defs out of the head's facts -/
theorem fun_he {K : PySem.W.Frag} {x q : Str} {st : Stmt} {f : Addr} {fd : FuncData} (F : FunD K x q (defArgs st) (defBody st) (defScope st) [] [] f fd) : Fun K x q st f fd := by
  obtain ⟨oc, od, dV, kV, doc, pm, an, cdv, ct, osl, e, lk, hcd, dfl, _⟩ := F.ex
  rcases dfl with ⟨_, rfl⟩ | ⟨z, _⟩
  · exact ⟨⟨oc, od, kV, doc, pm, an, cdv, ct, osl, e, lk, hcd⟩, F.kp⟩
  · exact absurd rfl z
theorem dfn_he {K : PySem.W.Frag} {h : Heap} {mg : Str → Option Value} {x : Str} {st : Stmt} (X : K.In h) (G : h.Ns mainGlobals mg) (F : ∃ fd, FunD K x x (defArgs st) (defBody st) (defScope st) [] [] (He.ga K x) fd) (g : (He.Fa.glo x).ok K = true) : Dfn K mg x st := by
  obtain ⟨fd, F⟩ := F
  exact ⟨_, fd, fun_he F, He.glo_ok X G g⟩
/-- the law itself: its code object is told -/
theorem okl_of {P : Program} {w : World} {K : PySem.W.Frag} {mg : Str → Option Value} {base : Heap} {x : Str} {st : Stmt} {N ps : List Str} {k : Nat} {sp : Sp} {fd : FuncData} (F : Fun K x x st (He.ga K x) fd) (S : FnScope N ps (defScope st)) (len : ∀ vs H Q E, sp vs H Q E → vs.length = ps.length)
    (hbody : ∀ (cdv : Value) (A : Around) (outer : List Env) (s : Shared) (H : Hp) (vs : List V) (Q : VK) (E : XK), cdv = .ref (He.codeOf K (x, none)) → Room k (A.deeper (envOfC x (defScope st) s.heap.objs.size (He.ga K x) cdv)) → sp vs H Q E →
      ∃ t, PSs (cxOf CX0 P w K mg base N x (defScope st) (He.ga K x) cdv A outer s H E).nox (defBody st) t ∧ t { nx := fun _ H' => Q .non H', rt := Q } (start N vs) H) : FnOk P w K mg base CX0 (k + 1) (He.ga K x) fd ps sp := by
  obtain ⟨oc, od, kV, doc, pm, an, cdv, ct, osl, rfl, lk, hcd⟩ := F.ex
  obtain ⟨c, rfl⟩ := He.codeIn_ref hcd
  have ec : He.codeOf K (x, none) = c := He.codeOf_eq (p := (x, none)) lk rfl
  exact fn_of lk hcd S len fun A outer s H vs Q E hr hsp => by
    obtain ⟨t, ht, hq⟩ := hbody (.ref c) A outer s H vs Q E (by rw [ec]) hr hsp
    exact ⟨t, ht.nox, hq⟩
/-! ### worlds in which only new things and lists are changed -/
def NL (H : Hp) (p : Addr) : Prop := H p = none ∨ ∃ xs, H p = some (.lst xs)
structure Wld0 (M : List Addr) (Wr : Hp → Hp → Prop) : Prop where
  sh : ∀ {S H : Hp}, Wr S H → Same S H
  nm : ∀ {S H : Hp}, Wr S H → ∀ m ∈ M, S m = none ∧ H m ≠ none
  gr : ∀ {S H S' H' : Hp}, Wr S H → Gr [] S H S' H' → Same S' H' → Wr S' H'
  chg : ∀ {S H : Hp} {p : Addr} {o : HO}, Wr S H → S p = none → p ∉ M → NL H p → Wr S (upd H p o)
  keep : ∀ {S H : Hp} {p : Addr} {o : HO}, Wr S H → S p = none → p ∉ M → H p = some o → Wr (upd S p o) H
section
variable {M : List Addr} {Wr : Hp → Hp → Prop} {S H S' H' S0 H0 : Hp} {p : Addr} {o : HO}
theorem Wld0.same (A : Wld0 M Wr) (W : Wr S H) (h : Same H H') : Wr S H' := A.gr W (Gr.of_same h) ((A.sh W).trans h)
theorem Wld0.new (A : Wld0 M Wr) (W : Wr S H) (h : H p = none) : Wr (upd S p o) (upd H p o) :=
  A.gr W ((Gr.refl [] S H).new (A.sh W) h) (upd_mono (A.sh W))
theorem Wld0.fresh (A : Wld0 M Wr) (W : Wr S H) (h : H p = none) : p ∉ M := fun z => (A.nm W p z).2 h
theorem Wld0.out (A : Wld0 M Wr) (W : Wr S H) (h : S p = some o) : p ∉ M := fun z => by rw [(A.nm W p z).1] at h; cases h
theorem Wld.w0 (A : Wld M Wr) : Wld0 M Wr := ⟨A.sh, A.nm, A.gr, fun W h m _ => A.chg W h m, A.keep⟩
end
theorem lcw0 {M : List Addr} {Wr : Hp → Hp → Prop} {S H : Hp} {D : Addr} {J : It} {n : Nat} {G : Hp → Prop} {Y : Nat → Hp → V → Hp → Prop} {g : TG} {tt : TT} {te : TE} {vs : List Nat} {σ : L2.St} {Qd : Hp → Prop}
    (A : Wld0 M Wr) (W : Wr S H) (hD : H D = none) (w : Walk J n G Y) (I : Nat → List V → Hp → Prop) (h0 : I 0 [] S) (hn : n ≤ 100000) (hG : ∀ S' H', Gr M S H S' H' → Wr S' H' → G H')
    (hs : ∀ (i : Nat) (x : V) (S1 H1 H1' : Hp) (acc : List V), i < n → Gr M S H S1 H1 → Wr S1 H1 → S1 D = none → H1 D = some (.lst acc) → I i acc S1 → Y i H1 x H1' →
      (∀ {S4 H4 : Hp} {y : V}, Gr M S1 H1 S4 H4 → Wr S4 H4 → I (i + 1) (acc ++ [y]) S4 → Put M Wr S H D I i y H4) →
      (∀ {S4 H4 : Hp}, Gr M S1 H1 S4 H4 → Wr S4 H4 → I (i + 1) acc S4 → Lc M Wr S H D I (i + 1) H4) →
      g x (wipe σ vs) H1' fun σ2 H2 => wipe σ2 vs = wipe σ vs ∧ tt σ2 H2 fun b H3 => if b = true then te σ2 H3 fun y H4 => Put M Wr S H D I i y H4 else Lc M Wr S H D I (i + 1) H3)
    (hd : ∀ (S' H' : Hp) (acc : List V), Gr M S H S' H' → Wr S' H' → S' D = none → H' D = some (.lst acc) → acc.length ≤ n → I n acc S' → Qd H') :
    ∃ W : Nat → Nat → Hp → Prop, (∃ m, W 0 m (upd H D (.lst []))) ∧ ∀ i m H, W i m H →
      (J.stop i H ∧ Qd H) ∨ (J.go i H ∧ ∃ Nx : Hp → Prop, (∀ H', Nx H' → ∃ m', m' < m ∧ W (i + 1) m' H') ∧ ∀ x H', J.yld i H x H' → g x (wipe σ vs) H' fun σ2 H2 => wipe σ2 vs = wipe σ vs ∧ tt σ2 H2 fun b H3 =>
        if b = true then te σ2 H3 fun y H4 => ∃ acc, H4 D = some (.lst acc) ∧ acc.length < sizeLine ∧ Nx (upd H4 D (.lst (acc ++ [y]))) else Nx H3) := by
  have nM := A.fresh W hD
  refine lc_it w (Lc M Wr S H D I) ⟨S, [], (Gr.refl M S H).chg hD, A.chg W ((A.sh W).free hD) nM (.inl hD), (A.sh W).free hD, upd_same, Nat.le_refl _, h0⟩ (fun i H' _ hp => by
      obtain ⟨S1, acc, g1, W1, _⟩ := hp
      exact hG S1 H' g1 W1)
    (fun i x H1 H1' hi hp hy => by
      obtain ⟨S1, acc, g1, W1, s1, e1, l1, h1⟩ := hp
      refine hs i x S1 H1 H1' acc hi g1 W1 s1 e1 h1 hy (fun {S4 H4 y} g W4 h => ?_) (fun {S4 H4} g W4 h => ⟨S4, acc, g1.trans g, W4, g.nw D (some_ne e1) s1, g.kp D _ nM e1, by omega, h⟩)
      have s4 : S4 D = none := g.nw D (some_ne e1) s1
      have e4 := g.kp D _ nM e1
      refine ⟨acc, e4, szl _ (by omega), S4, acc ++ [y], (g1.trans g).chg hD, A.chg W4 s4 nM (.inr ⟨_, e4⟩), s4, upd_same, ?_, h⟩
      rw [List.length_append]
      show acc.length + 1 ≤ i + 1
      omega)
    (fun H1 hp => by
      obtain ⟨S1, acc, g1, W1, s1, e1, l1, h1⟩ := hp
      exact hd S1 H1 acc g1 W1 s1 e1 l1 h1)
/-! ### the law's world: its box, its table of code objects -/
structure WT (b P : Addr) (q : Str) (S H : Hp) : Prop where
  wd : Wd b S H
  tb : LamX.TabS H P q
  np : S P = none
theorem tab_ne {H : Hp} {P p : Addr} {q : Str} (t : LamX.TabS H P q) (h : NL H p) : P ≠ p ∧ ∀ c, H c = some (LamX.CodeO c q) → c ≠ p := by
  obtain ⟨ps, h1, _⟩ := t
  refine ⟨fun z => ?_, fun c hc z => ?_⟩
  · subst z
    rcases h with h | ⟨xs, h⟩
    · rw [h1] at h
      cases h
    · rw [h1] at h
      cases h
  · subst z
    unfold LamX.CodeO at hc
    rcases h with h | ⟨xs, h⟩
    · rw [hc] at h
      cases h
    · rw [hc] at h
      cases h
theorem WT.nlb {b P : Addr} {q : Str} {S H : Hp} (W : WT b P q S H) : NL H b := by
  obtain ⟨p, ns, i, c, m, h, _⟩ := W.wd.bx
  exact .inr ⟨_, h⟩
theorem WT.Pb {b P : Addr} {q : Str} {S H : Hp} (W : WT b P q S H) : P ≠ b := (tab_ne W.tb W.nlb).1
theorem boxT (b P : Addr) (q : Str) : Wld0 [b, P] (WT b P q) where
  sh := fun W => W.wd.sh
  nm := fun W m z => by
    rcases List.mem_cons.mp z with rfl | z
    · exact ⟨W.wd.nb, W.wd.bs⟩
    · obtain rfl : m = P := by simpa using z
      obtain ⟨ps, h1, _⟩ := W.tb
      exact ⟨W.np, some_ne h1⟩
  gr := fun W g sh => by
    obtain ⟨ps, h1, _⟩ := id W.tb
    exact ⟨(boxW b).gr W.wd g sh, W.tb.ext g.same, g.nw P (some_ne h1) W.np⟩
  chg := fun {S H p o} W h hb nl => by
    have hn := tab_ne W.tb nl
    refine ⟨(boxW b).chg W.wd h (fun z => hb (List.mem_cons.mpr (.inl (by simpa using z)))), TabS_ext W.tb (fun a o ha e => ?_), W.np⟩
    have hne : a ≠ p := by
      rcases ha with rfl | ha
      · exact hn.1
      · exact hn.2 a ha
    rw [upd_ne hne]
    exact e
  keep := fun {S H p o} W h hb e => by
    refine ⟨(boxW b).keep W.wd h (fun z => hb (List.mem_cons.mpr (.inl (by simpa using z)))) e, W.tb, ?_⟩
    rw [upd_ne (fun z => hb (by rw [← z]; simp))]
    exact W.np
/-- what a helper of the law leaves -/
theorem WT.box {b P : Addr} {q : Str} {S H S' H' : Hp} (W : WT b P q S H) (g : Gr [b] S H S' H') (W' : Wd b S' H') : WT b P q S' H' := by
  have hn := tab_ne W.tb W.nlb
  obtain ⟨ps, h1, _⟩ := id W.tb
  refine ⟨W', TabS_ext W.tb (fun a o ha e => g.kp a o (fun z => ?_) e), g.nw P (some_ne h1) W.np⟩
  obtain rfl : a = b := by simpa using z
  rcases ha with ha | ha
  · exact hn.1 ha.symm
  · exact hn.2 _ ha rfl
theorem Gr.bT {b P : Addr} {S H S' H' : Hp} (g : Gr [b] S H S' H') : Gr [b, P] S H S' H' := g.sub fun a z => by
  obtain rfl : a = b := by simpa using z
  simp
/-- what the making of a lambda leaves -/
theorem WT.lam {b P : Addr} {q : Str} {S H H1 : Hp} (W : WT b P q S H) (e : ExtP P H H1) (t : LamX.TabS H1 P q) : WT b P q S H1 ∧ Gr [b, P] S H S H1 := by
  have hb := W.Pb
  obtain ⟨p, ns, i, c, m, h, r⟩ := W.wd.bx
  have sh : Same S H1 := fun a o z => e a o (fun y => by rw [y, W.np] at z; cases z) (W.wd.sh _ _ z)
  refine ⟨⟨⟨sh, W.wd.nb, p, ns, i, c, m, e _ _ (Ne.symm hb) h, r⟩, t, W.np⟩, Same.refl _, fun a o ha z => e a o (fun y => ha (by rw [y]; simp)) z, fun _ _ z => z, fun a z => ?_⟩
  by_cases y : a = P
  · rw [y]
    obtain ⟨ps, h1, _⟩ := t
    exact some_ne h1
  · cases z2 : H a with
    | none => exact absurd z2 z
    | some o => exact some_ne (e a o y z2)
def sp_lawT (K : PySem.W.Frag) : Sp := fun vs H Q _ => ∃ (a : Addr) (ns : List Int), vs = [.ref a] ∧ SqL K H a (ns.map V.int) ∧ ns.length ≤ 63 ∧ H (He.tabOf K (He.codeOf K ("law", none))) = some (.tbl #[]) ∧ ∀ H', Q (.bl true) H'

/-! ### facts read by the head -/
def xclB (K : PySem.W.Frag) (x : Str) (fs : List Str) : Bool :=
  oexgB K (He.ga K x) && (xfB K (He.ga K x) && ((("tag" : Str) :: fs).all (fun f => decide (PySem.W.findIn K (.ref (He.ga K x)) f = some none)) &&
    (decide (PySem.W.findIn K (.ref (He.ga K x)) "__init__" = some (some (.ref (He.ma K (He.ga K x) "__init__")))) && decide (PySem.W.typeIn K (.ref (He.ma K (He.ga K x) "__init__")) = some (.type "function")))))
theorem xcl_ok {K : PySem.W.Frag} {h : Heap} {mg : Str → Option Value} {x : Str} {fs : List Str} {st : Stmt} (X : K.In h) (G : h.Ns mainGlobals mg) (g : (He.Fa.glo x).ok K = true) (b : xclB K x fs = true)
    (F : ∃ fd, FunD K "__init__" (x ++ ".__init__") (defArgs st) (defBody st) (defScope st) [] [] (He.ma K (He.ga K x) "__init__") fd) : Xcl K mg x st fs := by
  obtain ⟨h1, b⟩ := Bool.and_eq_true_iff.mp b
  obtain ⟨h2, b⟩ := Bool.and_eq_true_iff.mp b
  obtain ⟨h3, b⟩ := Bool.and_eq_true_iff.mp b
  obtain ⟨h4, h5⟩ := Bool.and_eq_true_iff.mp b
  obtain ⟨fd, F⟩ := F
  exact ⟨He.glo_ok X G g, oexgB_ok h1, xfB_ok h2, fun f hf => of_decide_eq_true (List.all_eq_true.mp h3 f hf), _, fd, of_decide_eq_true h4, of_decide_eq_true h5, fun_he F⟩
/-- what a clause of classes says of an exception of the class x -/
def exmB (K : PySem.W.Frag) (x : Str) (cs : List Str) (b : Bool) : Bool := decide (PySem.W.exmAny K (.ref (He.ga K x)) (cs.map fun c => Value.ref (He.ga K c)) = some b)
theorem exmB_ok {K : PySem.W.Frag} {x : Str} {cs : List Str} {b : Bool} (h : exmB K x cs b = true) : PySem.W.exmAny K (.ref (He.ga K x)) (cs.map fun c => Value.ref (He.ga K c)) = some b := of_decide_eq_true h
/-- Bools told of K -/
structure Exs (l : List (PySem.W.Frag → Bool)) (K : PySem.W.Frag) : Prop where
  all : ∀ f ∈ l, f K = true
def exAll (l : List (PySem.W.Frag → Bool)) (K : PySem.W.Frag) : Bool := l.all fun f => f K
theorem exAll_at {l : List (PySem.W.Frag → Bool)} {K : PySem.W.Frag} (h : exAll l K = true) (i : Nat) {f : PySem.W.Frag → Bool} (e : l[i]? = some f := by rfl) : f K = true := List.all_eq_true.mp h f (List.mem_of_getElem? e)
theorem len0 {ws : List V} (h : ws.length = 0) : ws = [] := List.length_eq_zero_iff.mp h
theorem len1 {ws : List V} (h : ws.length = 1) : ∃ a, ws = [a] := by
  match ws, h with
  | [a], _ => exact ⟨a, rfl⟩
theorem len2 {ws : List V} (h : ws.length = 2) : ∃ a b, ws = [a, b] := by
  match ws, h with
  | [a, b], _ => exact ⟨a, b, rfl⟩
theorem len3 {ws : List V} (h : ws.length = 3) : ∃ a b c, ws = [a, b, c] := by
  match ws, h with
  | [a, b, c], _ => exact ⟨a, b, c, rfl⟩
end G48

set_option Elab.async false
set_option linter.all false
set_option maxRecDepth 100000
set_option maxHeartbeats 4000000
/-! The ideal layer: data without addresses. D: what is never changed again; O: what a variable owns. -/
namespace G48
open PySem PySem.Spec PyProof.Rows L2 SX

inductive D where
  | non | bl (b : Bool) | int (i : Int) | str (l : List Nat) | tup (ds : List D) | lst (ds : List D) | dic (kvs : List (D × D)) | dit (kvs : List (List Key × D)) | ins (c : Str) (fs : List (Str × D)) | scr (ns : List Int)
instance : Inhabited D := ⟨.non⟩
def kD : Key → D
  | .inl i => .int i
  | .inr x => .str x.cps.toList
mutual
inductive Fz (K : PySem.W.Frag) (Sh : Hp) : V → D → Prop
  | non : Fz K Sh .non .non
  | bl (b : Bool) : Fz K Sh (.bl b) (.bl b)
  | int (i : Int) : Fz K Sh (.int i) (.int i)
  | str (l : List Nat) : Fz K Sh (.str (S l)) (.str l)
  | tup {a : Addr} {xs : List V} {ds : List D} : SqT K Sh a xs → FzL K Sh xs ds → Fz K Sh (.ref a) (.tup ds)
  | scr {a : Addr} {ns : List Int} : SqL K Sh a (ns.map V.int) → Fz K Sh (.ref a) (.scr ns)
  | lst {a : Addr} {xs : List V} {ds : List D} : Sh a = some (.lst xs) → FzL K Sh xs ds → Fz K Sh (.ref a) (.lst ds)
  | dic {a : Addr} {xs : List (Key × V)} {ds : List (D × D)} : Rd Sh a (.dK xs) → FzK K Sh xs ds → Fz K Sh (.ref a) (.dic ds)
  | dit {a : Addr} {xs : List (List Key × V)} {ds : List (List Key × D)} : Rd Sh a (.dT xs) → FzT K Sh xs ds → Fz K Sh (.ref a) (.dit ds)
  | ins {a dx : Addr} {c : Str} {xs : List (Str × V)} {ds : List (Str × D)} : Sh a = some (.ins (He.ga K c) dx xs) → FzF K Sh xs ds → Fz K Sh (.ref a) (.ins c ds)
inductive FzL (K : PySem.W.Frag) (Sh : Hp) : List V → List D → Prop
  | nil : FzL K Sh [] []
  | cons {v : V} {vs : List V} {d : D} {ds : List D} : Fz K Sh v d → FzL K Sh vs ds → FzL K Sh (v :: vs) (d :: ds)
inductive FzK (K : PySem.W.Frag) (Sh : Hp) : List (Key × V) → List (D × D) → Prop
  | nil : FzK K Sh [] []
  | cons {k : Key} {v : V} {vs : List (Key × V)} {d : D} {ds : List (D × D)} : Fz K Sh v d → FzK K Sh vs ds → FzK K Sh ((k, v) :: vs) ((kD k, d) :: ds)
inductive FzT (K : PySem.W.Frag) (Sh : Hp) : List (List Key × V) → List (List Key × D) → Prop
  | nil : FzT K Sh [] []
  | cons {k : List Key} {v : V} {vs : List (List Key × V)} {d : D} {ds : List (List Key × D)} : Fz K Sh v d → FzT K Sh vs ds → FzT K Sh ((k, v) :: vs) ((k, d) :: ds)
inductive FzF (K : PySem.W.Frag) (Sh : Hp) : List (Str × V) → List (Str × D) → Prop
  | nil : FzF K Sh [] []
  | cons {f : Str} {v : V} {vs : List (Str × V)} {d : D} {ds : List (Str × D)} : Fz K Sh v d → FzF K Sh vs ds → FzF K Sh ((f, v) :: vs) ((f, d) :: ds)
end
theorem rd_mono {Sh S' : Hp} {a : Addr} {u : HO} (e : Same Sh S') (h : Rd Sh a u) : Rd S' a u := h.imp (e _ _) (fun ⟨o, z⟩ => ⟨o, e _ _ z⟩)
section
variable {K : PySem.W.Frag} {Sh S' : Hp}
mutual
theorem Fz.mono (e : Same Sh S') : ∀ (d : D) (v : V), Fz K Sh v d → Fz K S' v d
  | .non, _, h => by cases h; exact .non
  | .bl b, _, h => by cases h; exact .bl b
  | .int i, _, h => by cases h; exact .int i
  | .str x, _, h => by cases h; exact .str x
  | .tup ds, _, h => by
    cases h with
    | tup h1 h2 => exact .tup (same_t e h1) (FzL.mono e ds _ h2)
  | .lst ds, _, h => by
    cases h with
    | lst h1 h2 => exact .lst (e _ _ h1) (FzL.mono e ds _ h2)
  | .dic ds, _, h => by
    cases h with
    | dic h1 h2 => exact .dic (rd_mono e h1) (FzK.mono e ds _ h2)
  | .dit ds, _, h => by
    cases h with
    | dit h1 h2 => exact .dit (rd_mono e h1) (FzT.mono e ds _ h2)
  | .ins c ds, _, h => by
    cases h with
    | ins h1 h2 => exact .ins (e _ _ h1) (FzF.mono e ds _ h2)
  | .scr ns, _, h => by
    cases h with
    | scr h1 => exact .scr (e.seq h1)
theorem FzL.mono (e : Same Sh S') : ∀ (ds : List D) (vs : List V), FzL K Sh vs ds → FzL K S' vs ds
  | [], _, h => by cases h; exact .nil
  | d :: ds, _, h => by
    cases h with
    | cons h1 h2 => exact .cons (Fz.mono e d _ h1) (FzL.mono e ds _ h2)
theorem FzK.mono (e : Same Sh S') : ∀ (ds : List (D × D)) (vs : List (Key × V)), FzK K Sh vs ds → FzK K S' vs ds
  | [], _, h => by cases h; exact .nil
  | (k, d) :: ds, _, h => by
    cases h with
    | cons h1 h2 => exact .cons (Fz.mono e d _ h1) (FzK.mono e ds _ h2)
theorem FzT.mono (e : Same Sh S') : ∀ (ds : List (List Key × D)) (vs : List (List Key × V)), FzT K Sh vs ds → FzT K S' vs ds
  | [], _, h => by cases h; exact .nil
  | (k, d) :: ds, _, h => by
    cases h with
    | cons h1 h2 => exact .cons (Fz.mono e d _ h1) (FzT.mono e ds _ h2)
theorem FzF.mono (e : Same Sh S') : ∀ (ds : List (Str × D)) (vs : List (Str × V)), FzF K Sh vs ds → FzF K S' vs ds
  | [], _, h => by cases h; exact .nil
  | (f, d) :: ds, _, h => by
    cases h with
    | cons h1 h2 => exact .cons (Fz.mono e d _ h1) (FzF.mono e ds _ h2)
end
theorem FzL.len : ∀ {ds : List D} {vs : List V}, FzL K Sh vs ds → vs.length = ds.length
  | [], _, h => by cases h; rfl
  | d :: ds, _, h => by
    cases h with
    | cons h1 h2 => exact congrArg (· + 1) (FzL.len h2)
theorem FzL.get : ∀ {ds : List D} {vs : List V} {i : Nat} {v : V}, FzL K Sh vs ds → vs[i]? = some v → ∃ d, ds[i]? = some d ∧ Fz K Sh v d
  | [], _, i, v, h, e => by cases h; simp at e
  | d :: ds, _, 0, v, h, e => by
    cases h with
    | cons h1 h2 =>
      have e' := Option.some.inj e
      subst e'
      exact ⟨d, rfl, h1⟩
  | d :: ds, _, i + 1, v, h, e => by
    cases h with
    | cons h1 h2 => exact FzL.get (i := i) h2 e
theorem FzL.getD : ∀ {ds : List D} {vs : List V} {i : Nat} {d : D}, FzL K Sh vs ds → ds[i]? = some d → ∃ v, vs[i]? = some v ∧ Fz K Sh v d
  | [], _, i, v, h, e => by simp at e
  | d :: ds, _, 0, v, h, e => by
    cases h with
    | cons h1 h2 =>
      have e' := Option.some.inj e
      subst e'
      exact ⟨_, rfl, h1⟩
  | d :: ds, _, i + 1, v, h, e => by
    cases h with
    | cons h1 h2 => exact FzL.getD (i := i) h2 e
theorem FzL.app : ∀ {ds es : List D} {vs us : List V}, FzL K Sh vs ds → FzL K Sh us es → FzL K Sh (vs ++ us) (ds ++ es)
  | [], _, _, _, h, q => by cases h; exact q
  | d :: ds, _, _, _, h, q => by
    cases h with
    | cons h1 h2 => exact .cons h1 (FzL.app h2 q)
theorem FzL.take : ∀ (n : Nat) {ds : List D} {vs : List V}, FzL K Sh vs ds → FzL K Sh (vs.take n) (ds.take n)
  | 0, _, _, _ => .nil
  | n + 1, _, _, .nil => .nil
  | n + 1, _, _, .cons h q => .cons h (FzL.take n q)
theorem FzL.drop : ∀ (n : Nat) {ds : List D} {vs : List V}, FzL K Sh vs ds → FzL K Sh (vs.drop n) (ds.drop n)
  | 0, _, _, h => h
  | n + 1, _, _, .nil => .nil
  | n + 1, _, _, .cons h q => FzL.drop n q
theorem FzL.set : ∀ (n : Nat) {ds : List D} {vs : List V} {v : V} {d : D}, FzL K Sh vs ds → Fz K Sh v d → FzL K Sh (vs.set n v) (ds.set n d)
  | _, _, _, _, _, .nil, _ => .nil
  | 0, _, _, _, _, .cons h q, z => .cons z q
  | n + 1, _, _, _, _, .cons h q, z => .cons h (FzL.set n q z)
theorem FzL.erase : ∀ (n : Nat) {ds : List D} {vs : List V}, FzL K Sh vs ds → FzL K Sh (vs.eraseIdx n) (ds.eraseIdx n)
  | _, _, _, .nil => .nil
  | 0, _, _, .cons h q => q
  | n + 1, _, _, .cons h q => .cons h (FzL.erase n q)
theorem FzL.rev : ∀ {ds : List D} {vs : List V}, FzL K Sh vs ds → FzL K Sh vs.reverse ds.reverse
  | _, _, .nil => .nil
  | _, _, .cons h q => by
    rw [List.reverse_cons, List.reverse_cons]
    exact FzL.app (FzL.rev q) (.cons h .nil)
end

/-! ### what a variable owns -/
inductive O where
  | fr (d : D) | lst (ds : List D) | nst (os : List O) | dic (kvs : List (D × D)) | dit (kvs : List (List Key × D)) | ins (c : Str) (fs : List (Str × O))
mutual
/-- as data -/
def er : O → D
  | .fr d => d
  | .lst ds => .lst ds
  | .nst os => .lst (erL os)
  | .dic kvs => .dic kvs
  | .dit kvs => .dit kvs
  | .ins c fs => .ins c (erF fs)
def erL : List O → List D
  | [] => []
  | o :: os => er o :: erL os
def erF : List (Str × O) → List (Str × D)
  | [] => []
  | (f, o) :: os => (f, er o) :: erF os
end
mutual
/-- the addresses that it owns -/
def Fp (H : Hp) : O → V → Addr → Prop
  | .fr _, _, _ => False
  | .lst _, v, b => v = .ref b
  | .dic _, v, b => v = .ref b
  | .dit _, v, b => v = .ref b
  | .nst os, v, b => v = .ref b ∨ ∃ a vs, v = .ref a ∧ H a = some (.lst vs) ∧ FpL H os vs b
  | .ins _ fs, v, b => v = .ref b ∨ ∃ a C dx vs, v = .ref a ∧ H a = some (.ins C dx vs) ∧ FpF H fs vs b
def FpL (H : Hp) : List O → List V → Addr → Prop
  | o :: os, v :: vs, b => Fp H o v b ∨ FpL H os vs b
  | [], _, _ => False
  | _, [], _ => False
def FpF (H : Hp) : List (Str × O) → List (Str × V) → Addr → Prop
  | (_, o) :: os, (_, v) :: vs, b => Fp H o v b ∨ FpF H os vs b
  | [], _, _ => False
  | _, [], _ => False
end
mutual
def At (K : PySem.W.Frag) (Sh H : Hp) : O → V → Prop
  | .fr d, v => Fz K Sh v d
  | .lst ds, v => ∃ a vs, v = .ref a ∧ H a = some (.lst vs) ∧ Sh a = none ∧ FzL K Sh vs ds
  | .dic ds, v => ∃ a vs, v = .ref a ∧ H a = some (.dK vs) ∧ Sh a = none ∧ FzK K Sh vs ds
  | .dit ds, v => ∃ a vs, v = .ref a ∧ H a = some (.dT vs) ∧ Sh a = none ∧ FzT K Sh vs ds
  | .nst os, v => ∃ a vs, v = .ref a ∧ H a = some (.lst vs) ∧ Sh a = none ∧ AtL K Sh H os vs ∧ ¬ FpL H os vs a
  | .ins c fs, v => ∃ a dx vs, v = .ref a ∧ H a = some (.ins (He.ga K c) dx vs) ∧ Sh a = none ∧ AtF K Sh H fs vs ∧ ¬ FpF H fs vs a
def AtL (K : PySem.W.Frag) (Sh H : Hp) : List O → List V → Prop
  | o :: os, v :: vs => At K Sh H o v ∧ AtL K Sh H os vs ∧ ∀ b, Fp H o v b → ¬ FpL H os vs b
  | [], [] => True
  | _, _ => False
def AtF (K : PySem.W.Frag) (Sh H : Hp) : List (Str × O) → List (Str × V) → Prop
  | (f, o) :: os, (g, v) :: vs => f = g ∧ At K Sh H o v ∧ AtF K Sh H os vs ∧ ∀ b, Fp H o v b → ¬ FpF H os vs b
  | [], [] => True
  | _, _ => False
end
section
variable {K : PySem.W.Frag} {Sh H S' H' : Hp}
mutual
theorem At.tr : ∀ (o : O) (v : V) (b : Addr), At K Sh H o v → Fp H o v b → Sh b = none ∧ H b ≠ none
  | .fr d, v, b, _, h => False.elim h
  | .lst ds, v, b, h, hb => by
    obtain ⟨a, vs, rfl, h1, h2, _⟩ := h
    cases (show V.ref a = V.ref b from hb)
    exact ⟨h2, some_ne h1⟩
  | .dic ds, v, b, h, hb => by
    obtain ⟨a, vs, rfl, h1, h2, _⟩ := h
    cases (show V.ref a = V.ref b from hb)
    exact ⟨h2, some_ne h1⟩
  | .dit ds, v, b, h, hb => by
    obtain ⟨a, vs, rfl, h1, h2, _⟩ := h
    cases (show V.ref a = V.ref b from hb)
    exact ⟨h2, some_ne h1⟩
  | .nst os, v, b, h, hb => by
    obtain ⟨a, vs, rfl, h1, h2, h3, _⟩ := h
    rcases hb with hb | ⟨a', vs', e, h4, hb⟩
    · cases hb
      exact ⟨h2, some_ne h1⟩
    · cases e
      rw [h1] at h4
      cases h4
      exact AtL.tr os vs b h3 hb
  | .ins c fs, v, b, h, hb => by
    obtain ⟨a, dx, vs, rfl, h1, h2, h3, _⟩ := h
    rcases hb with hb | ⟨a', C, dx', vs', e, h4, hb⟩
    · cases hb
      exact ⟨h2, some_ne h1⟩
    · cases e
      rw [h1] at h4
      cases h4
      exact AtF.tr fs vs b h3 hb
theorem AtL.tr : ∀ (os : List O) (vs : List V) (b : Addr), AtL K Sh H os vs → FpL H os vs b → Sh b = none ∧ H b ≠ none
  | o :: os, v :: vs, b, h, hb => by
    rcases hb with hb | hb
    · exact At.tr o v b h.1 hb
    · exact AtL.tr os vs b h.2.1 hb
  | [], vs, b, _, h => by cases vs <;> exact False.elim h
  | _ :: _, [], b, _, h => False.elim h
theorem AtF.tr : ∀ (os : List (Str × O)) (vs : List (Str × V)) (b : Addr), AtF K Sh H os vs → FpF H os vs b → Sh b = none ∧ H b ≠ none
  | (f, o) :: os, (g, v) :: vs, b, h, hb => by
    rcases hb with hb | hb
    · exact At.tr o v b h.2.1 hb
    · exact AtF.tr os vs b h.2.2.1 hb
  | [], vs, b, _, h => by cases vs <;> exact False.elim h
  | _ :: _, [], b, _, h => False.elim h
end
mutual
/-- the addresses are the same where the heap is -/
theorem Fp.eq : ∀ (o : O) (v : V), At K Sh H o v → (∀ b, Fp H o v b → H' b = H b) → ∀ b, Fp H' o v b ↔ Fp H o v b
  | .fr d, v, _, _, b => Iff.rfl
  | .lst ds, v, _, _, b => Iff.rfl
  | .dic ds, v, _, _, b => Iff.rfl
  | .dit ds, v, _, _, b => Iff.rfl
  | .nst os, v, h, k, b => by
    obtain ⟨a, vs, rfl, h1, h2, h3, _⟩ := h
    have ka : H' a = some (.lst vs) := (k a (.inl rfl)).trans h1
    have ih := FpL.eq os vs h3 (fun b hb => k b (.inr ⟨a, vs, rfl, h1, hb⟩)) b
    constructor
    · rintro (hb | ⟨a', vs', e, h4, hb⟩)
      · exact .inl hb
      · cases e
        rw [ka] at h4
        cases h4
        exact .inr ⟨a, vs, rfl, h1, ih.mp hb⟩
    · rintro (hb | ⟨a', vs', e, h4, hb⟩)
      · exact .inl hb
      · cases e
        rw [h1] at h4
        cases h4
        exact .inr ⟨a, vs, rfl, ka, ih.mpr hb⟩
  | .ins c fs, v, h, k, b => by
    obtain ⟨a, dx, vs, rfl, h1, h2, h3, _⟩ := h
    have ka : H' a = some (.ins (He.ga K c) dx vs) := (k a (.inl rfl)).trans h1
    have ih := FpF.eq fs vs h3 (fun b hb => k b (.inr ⟨a, _, dx, vs, rfl, h1, hb⟩)) b
    constructor
    · rintro (hb | ⟨a', C, dx', vs', e, h4, hb⟩)
      · exact .inl hb
      · cases e
        rw [ka] at h4
        cases h4
        exact .inr ⟨a, _, dx, vs, rfl, h1, ih.mp hb⟩
    · rintro (hb | ⟨a', C, dx', vs', e, h4, hb⟩)
      · exact .inl hb
      · cases e
        rw [h1] at h4
        cases h4
        exact .inr ⟨a, _, dx, vs, rfl, ka, ih.mpr hb⟩
theorem FpL.eq : ∀ (os : List O) (vs : List V), AtL K Sh H os vs → (∀ b, FpL H os vs b → H' b = H b) → ∀ b, FpL H' os vs b ↔ FpL H os vs b
  | o :: os, v :: vs, h, k, b => by
    have i1 := Fp.eq o v h.1 (fun b hb => k b (.inl hb)) b
    have i2 := FpL.eq os vs h.2.1 (fun b hb => k b (.inr hb)) b
    show (Fp H' o v b ∨ FpL H' os vs b) ↔ (Fp H o v b ∨ FpL H os vs b)
    rw [i1, i2]
  | [], [], _, _, b => Iff.rfl
  | [], _ :: _, _, _, b => Iff.rfl
  | _ :: _, [], _, _, b => Iff.rfl
theorem FpF.eq : ∀ (os : List (Str × O)) (vs : List (Str × V)), AtF K Sh H os vs → (∀ b, FpF H os vs b → H' b = H b) → ∀ b, FpF H' os vs b ↔ FpF H os vs b
  | (f, o) :: os, (g, v) :: vs, h, k, b => by
    have i1 := Fp.eq o v h.2.1 (fun b hb => k b (.inl hb)) b
    have i2 := FpF.eq os vs h.2.2.1 (fun b hb => k b (.inr hb)) b
    show (Fp H' o v b ∨ FpF H' os vs b) ↔ (Fp H o v b ∨ FpF H os vs b)
    rw [i1, i2]
  | [], [], _, _, b => Iff.rfl
  | [], _ :: _, _, _, b => Iff.rfl
  | _ :: _, [], _, _, b => Iff.rfl
end
mutual
theorem At.keep (e : Same Sh S') : ∀ (o : O) (v : V), At K Sh H o v → (∀ b, Fp H o v b → H' b = H b ∧ S' b = none) → At K S' H' o v
  | .fr d, v, h, _ => Fz.mono e d v h
  | .lst ds, v, h, k => by
    obtain ⟨a, vs, rfl, h1, h2, h3⟩ := h
    obtain ⟨k1, k2⟩ := k a rfl
    exact ⟨a, vs, rfl, k1.trans h1, k2, FzL.mono e _ _ h3⟩
  | .dic ds, v, h, k => by
    obtain ⟨a, vs, rfl, h1, h2, h3⟩ := h
    obtain ⟨k1, k2⟩ := k a rfl
    exact ⟨a, vs, rfl, k1.trans h1, k2, FzK.mono e _ _ h3⟩
  | .dit ds, v, h, k => by
    obtain ⟨a, vs, rfl, h1, h2, h3⟩ := h
    obtain ⟨k1, k2⟩ := k a rfl
    exact ⟨a, vs, rfl, k1.trans h1, k2, FzT.mono e _ _ h3⟩
  | .nst os, v, h, k => by
    obtain ⟨a, vs, rfl, h1, h2, h3, h4⟩ := h
    obtain ⟨k1, k2⟩ := k a (.inl rfl)
    have kk : ∀ b, FpL H os vs b → H' b = H b ∧ S' b = none := fun b hb => k b (.inr ⟨a, vs, rfl, h1, hb⟩)
    exact ⟨a, vs, rfl, k1.trans h1, k2, AtL.keep e os vs h3 kk, fun z => h4 ((FpL.eq os vs h3 (fun b hb => (kk b hb).1) a).mp z)⟩
  | .ins c fs, v, h, k => by
    obtain ⟨a, dx, vs, rfl, h1, h2, h3, h4⟩ := h
    obtain ⟨k1, k2⟩ := k a (.inl rfl)
    have kk : ∀ b, FpF H fs vs b → H' b = H b ∧ S' b = none := fun b hb => k b (.inr ⟨a, _, dx, vs, rfl, h1, hb⟩)
    exact ⟨a, dx, vs, rfl, k1.trans h1, k2, AtF.keep e fs vs h3 kk, fun z => h4 ((FpF.eq fs vs h3 (fun b hb => (kk b hb).1) a).mp z)⟩
theorem AtL.keep (e : Same Sh S') : ∀ (os : List O) (vs : List V), AtL K Sh H os vs → (∀ b, FpL H os vs b → H' b = H b ∧ S' b = none) → AtL K S' H' os vs
  | o :: os, v :: vs, h, k => by
    refine ⟨At.keep e o v h.1 (fun b hb => k b (.inl hb)), AtL.keep e os vs h.2.1 (fun b hb => k b (.inr hb)), fun b hb hc => ?_⟩
    have i1 := (Fp.eq (H' := H') o v h.1 (fun b hb => (k b (.inl hb)).1) b).mp hb
    have i2 := (FpL.eq (H' := H') os vs h.2.1 (fun b hb => (k b (.inr hb)).1) b).mp hc
    exact h.2.2 b i1 i2
  | [], [], _, _ => True.intro
  | [], _ :: _, h, _ => False.elim h
  | _ :: _, [], h, _ => False.elim h
theorem AtF.keep (e : Same Sh S') : ∀ (os : List (Str × O)) (vs : List (Str × V)), AtF K Sh H os vs → (∀ b, FpF H os vs b → H' b = H b ∧ S' b = none) → AtF K S' H' os vs
  | (f, o) :: os, (g, v) :: vs, h, k => by
    refine ⟨h.1, At.keep e o v h.2.1 (fun b hb => k b (.inl hb)), AtF.keep e os vs h.2.2.1 (fun b hb => k b (.inr hb)), fun b hb hc => ?_⟩
    have i1 := (Fp.eq (H' := H') o v h.2.1 (fun b hb => (k b (.inl hb)).1) b).mp hb
    have i2 := (FpF.eq (H' := H') os vs h.2.2.1 (fun b hb => (k b (.inr hb)).1) b).mp hc
    exact h.2.2.2 b i1 i2
  | [], [], _, _ => True.intro
  | [], _ :: _, h, _ => False.elim h
  | _ :: _, [], h, _ => False.elim h
end
mutual
/-- frozen, from now on -/
theorem At.frz (e : Same Sh S') : ∀ (o : O) (v : V), At K Sh H o v → (∀ b, Fp H o v b → S' b = H b) → Fz K S' v (er o)
  | .fr d, v, h, _ => Fz.mono e d v h
  | .lst ds, v, h, k => by
    obtain ⟨a, vs, rfl, h1, h2, h3⟩ := h
    exact .lst ((k a rfl).trans h1) (FzL.mono e _ _ h3)
  | .dic ds, v, h, k => by
    obtain ⟨a, vs, rfl, h1, h2, h3⟩ := h
    exact .dic (.inl ((k a rfl).trans h1)) (FzK.mono e _ _ h3)
  | .dit ds, v, h, k => by
    obtain ⟨a, vs, rfl, h1, h2, h3⟩ := h
    exact .dit (.inl ((k a rfl).trans h1)) (FzT.mono e _ _ h3)
  | .nst os, v, h, k => by
    obtain ⟨a, vs, rfl, h1, h2, h3, h4⟩ := h
    exact .lst ((k a (.inl rfl)).trans h1) (AtL.frz e os vs h3 (fun b hb => k b (.inr ⟨a, vs, rfl, h1, hb⟩)))
  | .ins c fs, v, h, k => by
    obtain ⟨a, dx, vs, rfl, h1, h2, h3, h4⟩ := h
    exact .ins ((k a (.inl rfl)).trans h1) (AtF.frz e fs vs h3 (fun b hb => k b (.inr ⟨a, _, dx, vs, rfl, h1, hb⟩)))
theorem AtL.frz (e : Same Sh S') : ∀ (os : List O) (vs : List V), AtL K Sh H os vs → (∀ b, FpL H os vs b → S' b = H b) → FzL K S' vs (erL os)
  | o :: os, v :: vs, h, k => .cons (At.frz e o v h.1 (fun b hb => k b (.inl hb))) (AtL.frz e os vs h.2.1 (fun b hb => k b (.inr hb)))
  | [], [], _, _ => .nil
  | [], _ :: _, h, _ => False.elim h
  | _ :: _, [], h, _ => False.elim h
theorem AtF.frz (e : Same Sh S') : ∀ (os : List (Str × O)) (vs : List (Str × V)), AtF K Sh H os vs → (∀ b, FpF H os vs b → S' b = H b) → FzF K S' vs (erF os)
  | (f, o) :: os, (g, v) :: vs, h, k => by
    obtain ⟨rfl, h1, h2, _⟩ := h
    exact .cons (At.frz e o v h1 (fun b hb => k b (.inl hb))) (AtF.frz e os vs h2 (fun b hb => k b (.inr hb)))
  | [], [], _, _ => .nil
  | [], _ :: _, h, _ => False.elim h
  | _ :: _, [], h, _ => False.elim h
end
end
end G48

set_option Elab.async false
set_option linter.all false
set_option maxRecDepth 100000
set_option maxHeartbeats 4000000
namespace G48
open PySem PySem.Spec PyProof.Rows L2 SX
/-! ### states -/
abbrev En := List (Option O)
inductive Sx where
  | fld (f : Str) | ix (k : Nat)
/-- the value of an expression: a thing, or a place of a variable -/
inductive U where
  | va (o : O) | at (i : Nat) (p : List Sx)
/-- an exception -/
structure Xc where
  cls : Str
  fs : List (Str × D)
abbrev Zt := Option (Addr × Str)
def Zin (Z : Zt) (a : Addr) : Prop := ∃ q, Z = some (a, q)
def Zok (Z : Zt) (Sh H : Hp) : Prop := ∀ P q, Z = some (P, q) → Sh P = none ∧ LamX.TabS H P q
def FpE (H : Hp) (σ : L2.St) (ρ : En) (b : Addr) : Prop := ∃ (i : Nat) (o : O) (v : V), ρ[i]? = some (some o) ∧ σ[i]? = some (some v) ∧ Fp H o v b
structure Rl (K : PySem.W.Frag) (Z : Zt) (Sh H : Hp) (σ : L2.St) (ρ : En) : Prop where
  sh : Same Sh H
  len : ρ.length = σ.length
  ats : ∀ (i : Nat) (o : O), ρ[i]? = some (some o) → ∃ v, σ[i]? = some (some v) ∧ At K Sh H o v
  dj : ∀ (i j : Nat) (o u : O) (v w : V) (b : Addr), i ≠ j → ρ[i]? = some (some o) → ρ[j]? = some (some u) → σ[i]? = some (some v) → σ[j]? = some (some w) → Fp H o v b → ¬ Fp H u w b
  zk : Zok Z Sh H
structure Gx (Z : Zt) (Sh H : Hp) (F : Addr → Prop) (S' H' : Hp) (F' : Addr → Prop) : Prop where
  ss : Same Sh S'
  kp : ∀ a u, H a = some u → ¬ F a → ¬ Zin Z a → H' a = some u
  nw : ∀ a, Sh a = none → H a ≠ none → ¬ F a → S' a = none
  ft : ∀ a, F' a → F a ∨ H a = none
  tr : ∀ a, H a ≠ none → H' a ≠ none
/-- what a pure step makes -/
structure Res (K : PySem.W.Frag) (Sh H : Hp) (o : O) (v : V) (S' H' : Hp) : Prop where
  hs : Same H H'
  ss : Same Sh S'
  sh : Same S' H'
  nw : ∀ a, H a ≠ none → Sh a = none → S' a = none
  at_ : At K S' H' o v
  fp : ∀ a, Fp H' o v a → H a = none
section
variable {K : PySem.W.Frag} {Z : Zt} {Sh H S' H' S1 H1 S2 H2 : Hp} {σ : L2.St} {ρ ρ' : En} {F F1 F2 F' : Addr → Prop} {o : O} {v : V} {d : D}
theorem Gx.refl (h : ∀ a, F' a → F a) : Gx Z Sh H F Sh H F' := ⟨Same.refl _, fun _ _ h _ _ => h, fun _ h _ _ => h, fun a q => .inl (h a q), fun _ h => h⟩
theorem Gx.trans (a : Gx Z Sh H F S1 H1 F1) (b : Gx Z S1 H1 F1 S2 H2 F2) : Gx Z Sh H F S2 H2 F2 where
  ss := a.ss.trans b.ss
  kp := fun x u h n z => b.kp x u (a.kp x u h n z) (fun q => (a.ft x q).elim n (fun e => by rw [h] at e; cases e)) z
  nw := fun x s h n => b.nw x (a.nw x s h n) (a.tr x h) (fun q => (a.ft x q).elim n h)
  ft := fun x q => by
    rcases b.ft x q with h | h
    · exact a.ft x h
    · refine .inr ?_
      cases e : H x with
      | none => rfl
      | some u => exact absurd h (a.tr x (some_ne e))
  tr := fun x h => b.tr x (a.tr x h)
theorem Gx.weak (a : Gx Z Sh H F S1 H1 F1) (h : ∀ x, F x → F2 x) (h' : ∀ x, F' x → F1 x) : Gx Z Sh H F2 S1 H1 F' :=
  ⟨a.ss, fun x u e n z => a.kp x u e (fun q => n (h x q)) z, fun x s e n => a.nw x s e (fun q => n (h x q)), fun x q => (a.ft x (h' x q)).imp (h x) id, a.tr⟩
/-- something aside is kept -/
theorem Gx.aside (a : Gx Z Sh H F S1 H1 F1) (G : Addr → Prop) : Gx Z Sh H (fun x => F x ∨ G x) S1 H1 (fun x => F1 x ∨ G x) :=
  ⟨a.ss, fun x u e n z => a.kp x u e (fun q => n (.inl q)) z, fun x s e n => a.nw x s e (fun q => n (.inl q)), fun x q => by
    rcases q with q | q
    · exact (a.ft x q).imp .inl id
    · exact .inl (.inr q), a.tr⟩
theorem Gx.none (a : Gx none Sh H F S1 H1 F1) : Gx Z Sh H F S1 H1 F1 := ⟨a.ss, fun x u e n _ => a.kp x u e n (fun ⟨_, q⟩ => nomatch q), a.nw, a.ft, a.tr⟩
theorem Zok.same (z : Zok Z Sh H) (h : Same H H') (nw : ∀ a, H a ≠ none → Sh a = none → S' a = none) : Zok Z S' H' := fun P q e => by
  obtain ⟨z1, z2⟩ := z P q e
  obtain ⟨ps, hp, _⟩ := id z2
  exact ⟨nw P (some_ne hp) z1, TabS_ext z2 (fun b o _ e => h b o e)⟩
/-- nothing that is owned is a table or a code object -/
theorem fp_code {b : Addr} : ∀ (o : O) (v : V), At K Sh H o v → Fp H o v b → ∃ u, H b = some u ∧ Mut (some u) ∧ (∀ φ, u ≠ .ext φ) ∧ ∀ o x, u ≠ .frz o x := by
  have go : ∀ n : Nat, (∀ (o : O) (v : V), sizeOf o ≤ n → At K Sh H o v → Fp H o v b → ∃ u, H b = some u ∧ Mut (some u) ∧ (∀ φ, u ≠ .ext φ) ∧ ∀ o x, u ≠ .frz o x) ∧
      (∀ (os : List O) (vs : List V), sizeOf os ≤ n → AtL K Sh H os vs → FpL H os vs b → ∃ u, H b = some u ∧ Mut (some u) ∧ (∀ φ, u ≠ .ext φ) ∧ ∀ o x, u ≠ .frz o x) ∧
      (∀ (os : List (Str × O)) (vs : List (Str × V)), sizeOf os ≤ n → AtF K Sh H os vs → FpF H os vs b → ∃ u, H b = some u ∧ Mut (some u) ∧ (∀ φ, u ≠ .ext φ) ∧ ∀ o x, u ≠ .frz o x) := by
    intro n
    induction n with
    | zero =>
      refine ⟨fun o v h => ?_, fun os vs h => ?_, fun os vs h => ?_⟩
      · cases o <;> simp at h
      · cases os <;> simp at h
      · cases os <;> simp at h
    | succ n ih =>
      obtain ⟨ih1, ih2, ih3⟩ := ih
      refine ⟨fun o v hn h hb => ?_, fun os vs hn h hb => ?_, fun os vs hn h hb => ?_⟩
      · cases o with
        | fr d => exact False.elim hb
        | lst ds =>
          obtain ⟨a, vs, rfl, h1, _⟩ := h
          cases (show V.ref a = V.ref b from hb)
          exact ⟨_, h1, True.intro, (fun _ z => nomatch z), (fun _ _ z => nomatch z)⟩
        | dic ds =>
          obtain ⟨a, vs, rfl, h1, _⟩ := h
          cases (show V.ref a = V.ref b from hb)
          exact ⟨_, h1, True.intro, (fun _ z => nomatch z), (fun _ _ z => nomatch z)⟩
        | dit ds =>
          obtain ⟨a, vs, rfl, h1, _⟩ := h
          cases (show V.ref a = V.ref b from hb)
          exact ⟨_, h1, True.intro, (fun _ z => nomatch z), (fun _ _ z => nomatch z)⟩
        | nst os =>
          obtain ⟨a, vs, rfl, h1, h2, h3, _⟩ := h
          rcases hb with hb | ⟨a', vs', e, h4, hb⟩
          · cases hb
            exact ⟨_, h1, True.intro, (fun _ z => nomatch z), (fun _ _ z => nomatch z)⟩
          · cases e
            rw [h1] at h4
            cases h4
            exact ih2 os vs (by simp at hn; omega) h3 hb
        | ins c fs =>
          obtain ⟨a, dx, vs, rfl, h1, h2, h3, _⟩ := h
          rcases hb with hb | ⟨a', C, dx', vs', e, h4, hb⟩
          · cases hb
            exact ⟨_, h1, True.intro, (fun _ z => nomatch z), (fun _ _ z => nomatch z)⟩
          · cases e
            rw [h1] at h4
            cases h4
            exact ih3 fs vs (by simp at hn; omega) h3 hb
      · match os, vs, h, hb with
        | o :: os, v :: vs, h, hb =>
          rcases hb with hb | hb
          · exact ih1 o v (by simp at hn; omega) h.1 hb
          · exact ih2 os vs (by simp at hn; omega) h.2.1 hb
      · match os, vs, h, hb with
        | (f, o) :: os, (g, v) :: vs, h, hb =>
          rcases hb with hb | hb
          · exact ih1 o v (by simp at hn; omega) h.2.1 hb
          · exact ih3 os vs (by simp at hn; omega) h.2.2.1 hb
  exact fun o v h hb => (go (sizeOf o)).1 o v (Nat.le_refl _) h hb
theorem Rl.tr (R : Rl K Z Sh H σ ρ) {b : Addr} (h : FpE H σ ρ b) : Sh b = none ∧ H b ≠ none := by
  obtain ⟨i, o, v, h1, h2, h3⟩ := h
  obtain ⟨v', h4, h5⟩ := R.ats i o h1
  rw [h2] at h4
  cases h4
  exact At.tr o v b h5 h3
theorem Rl.zne (R : Rl K Z Sh H σ ρ) {b : Addr} (h : FpE H σ ρ b) : ¬ Zin Z b ∧ ∀ q, H b ≠ some (LamX.CodeO b q) := by
  obtain ⟨i, o, v, h1, h2, h3⟩ := h
  obtain ⟨v', h4, h5⟩ := R.ats i o h1
  rw [h2] at h4
  cases h4
  obtain ⟨u, e, m, n1, _⟩ := fp_code o v h5 h3
  refine ⟨fun ⟨q, z⟩ => ?_, fun q z => ?_⟩
  · obtain ⟨_, ps, hp, _⟩ := R.zk b q z
    rw [hp] at e
    cases e
    exact m
  · rw [z] at e
    exact n1 _ (Option.some.inj e).symm
/-- the heap outside is kept: so is the table -/
theorem Rl.zok (R : Rl K Z Sh H σ ρ) (g : Gx none Sh H (FpE H σ ρ) S' H' F') : Zok Z S' H' := fun P q e => by
  obtain ⟨z1, z2⟩ := R.zk P q e
  obtain ⟨ps, hp, _⟩ := id z2
  have hP : ¬ FpE H σ ρ P := fun z => (R.zne z).1 ⟨q, e⟩
  refine ⟨g.nw P z1 (some_ne hp) hP, TabS_ext z2 (fun b o h1 h2 => g.kp b o h2 ?_ (fun ⟨_, z⟩ => nomatch z))⟩
  rcases h1 with h1 | h1
  · rw [h1]
    exact hP
  · exact fun z => (R.zne z).2 q h1
theorem Rl.keep (R : Rl K Z Sh H σ ρ) (ss : Same Sh S') (sh : Same S' H') (k : ∀ b, FpE H σ ρ b → H' b = H b ∧ S' b = none) (z : Zok Z S' H') : Rl K Z S' H' σ ρ := by
  refine ⟨sh, R.len, fun i o h => ?_, fun i j o u v w b n h1 h2 h3 h4 h5 h6 => ?_, z⟩
  · obtain ⟨v, h2, h3⟩ := R.ats i o h
    exact ⟨v, h2, At.keep ss o v h3 (fun b hb => k b ⟨i, o, v, h, h2, hb⟩)⟩
  · obtain ⟨v', h3', a1⟩ := R.ats i o h1
    obtain ⟨w', h4', a2⟩ := R.ats j u h2
    rw [h3] at h3'
    cases h3'
    rw [h4] at h4'
    cases h4'
    exact R.dj i j o u v w b n h1 h2 h3 h4 ((Fp.eq (H' := H') o v a1 (fun b hb => (k b ⟨i, o, v, h1, h3, hb⟩).1) b).mp h5) ((Fp.eq (H' := H') u w a2 (fun b hb => (k b ⟨j, u, w, h2, h4, hb⟩).1) b).mp h6)
theorem Rl.fpe (R : Rl K Z Sh H σ ρ) (k : ∀ b, FpE H σ ρ b → H' b = H b) (b : Addr) : FpE H' σ ρ b ↔ FpE H σ ρ b := by
  constructor
  · rintro ⟨i, o, v, h1, h2, h3⟩
    obtain ⟨v', h2', a⟩ := R.ats i o h1
    rw [h2] at h2'
    cases h2'
    exact ⟨i, o, v, h1, h2, (Fp.eq (H' := H') o v a (fun b hb => k b ⟨i, o, v, h1, h2, hb⟩) b).mp h3⟩
  · rintro ⟨i, o, v, h1, h2, h3⟩
    obtain ⟨v', h2', a⟩ := R.ats i o h1
    rw [h2] at h2'
    cases h2'
    exact ⟨i, o, v, h1, h2, (Fp.eq (H' := H') o v a (fun b hb => k b ⟨i, o, v, h1, h2, hb⟩) b).mpr h3⟩
theorem same_at (h : Same H H') {b : Addr} (n : H b ≠ none) : H' b = H b := by
  cases e : H b with
  | none => exact absurd e n
  | some u => exact h b u e
theorem Rl.res (R : Rl K Z Sh H σ ρ) (r : Res K Sh H o v S' H') : Rl K Z S' H' σ ρ ∧ (∀ b, FpE H' σ ρ b ↔ FpE H σ ρ b) ∧ Gx Z Sh H (FpE H σ ρ) S' H' (fun a => FpE H' σ ρ a ∨ Fp H' o v a) ∧ ∀ b, Fp H' o v b → ¬ FpE H' σ ρ b := by
  have e := R.fpe (H' := H') (fun b hb => same_at r.hs (R.tr hb).2)
  refine ⟨R.keep r.ss r.sh (fun b hb => ⟨same_at r.hs (R.tr hb).2, r.nw b (R.tr hb).2 (R.tr hb).1⟩) (R.zk.same r.hs r.nw), e, ⟨r.ss, fun a u h _ _ => r.hs a u h, fun a s h _ => r.nw a h s, fun a h => ?_, fun a h => ?_⟩, fun b h1 h2 => ?_⟩
  · rcases h with h | h
    · exact .inl ((e a).mp h)
    · exact .inr (r.fp a h)
  · rw [same_at r.hs h]
    exact h
  · exact (R.tr ((e b).mp h2)).2 (r.fp b h1)
/-- frozen data as a result -/
theorem Res.fr (sh : Same Sh H) (h : Fz K Sh v d) : Res K Sh H (.fr d) v Sh H := ⟨Same.refl _, Same.refl _, sh, fun _ _ h => h, h, fun _ h => False.elim h⟩
theorem res_tup {vs : List V} {ds : List D} {p : Addr} (sh : Same Sh H) (h : FzL K Sh vs ds) (hp : H p = none) : Res K Sh H (.fr (.tup ds)) (.ref p) (upd Sh p (.tup vs)) (upd H p (.tup vs)) := by
  have hs : Sh p = none := sh.free hp
  refine ⟨same_new hp, same_new hs, upd_mono sh, fun a h1 h2 => ?_, .tup (.inl (.inl upd_same)) (FzL.mono (same_new hs) _ _ h), fun _ h => False.elim h⟩
  rw [upd_ne (ne_nn h1 hp)]
  exact h2
theorem res_lst {vs : List V} {ds : List D} {p : Addr} (sh : Same Sh H) (h : FzL K Sh vs ds) (hp : H p = none) : Res K Sh H (.lst ds) (.ref p) Sh (upd H p (.lst vs)) := by
  have hs : Sh p = none := sh.free hp
  exact ⟨same_new hp, Same.refl _, mut_same sh hs, fun _ _ h => h, ⟨p, vs, rfl, upd_same, hs, h⟩, fun a e => by cases (show V.ref p = V.ref a from e); exact hp⟩
theorem Res.then {o1 : O} {v1 : V} (a : Res K Sh H (.fr d) v1 S1 H1) (b : Res K S1 H1 o v S2 H2) : Res K Sh H o v S2 H2 :=
  ⟨a.hs.trans b.hs, a.ss.trans b.ss, b.sh, fun x h1 h2 => b.nw x (by rw [same_at a.hs h1]; exact h1) (a.nw x h1 h2), b.at_, fun x h => a.hs.free (b.fp x h)⟩
end
/-! ### places -/
def getP : O → List Sx → Option O
  | o, [] => some o
  | .ins _ fs, .fld f :: p => (fs.lookup f).bind fun o => getP o p
  | .fr (.ins _ fs), .fld f :: p => (fs.lookup f).bind fun d => getP (.fr d) p
  | .nst os, .ix k :: p => os[k]?.bind fun o => getP o p
  | _, _ => none
def putO (f : Str) (o : O) : List (Str × O) → List (Str × O)
  | [] => [(f, o)]
  | (g, u) :: r => if f == g then (g, o) :: r else (g, u) :: putO f o r
def setP : O → List Sx → O → O
  | _, [], u => u
  | .ins c fs, .fld f :: p, u => match fs.lookup f with
    | some o => .ins c (putO f (setP o p u) fs)
    | none => .ins c fs
  | .nst os, .ix k :: p, u => match os[k]? with
    | some o => .nst (os.set k (setP o p u))
    | none => .nst os
  | o, _, _ => o
def VAt (H : Hp) : V → List Sx → V → Prop
  | w, [], v => v = w
  | w, .fld f :: p, v => ∃ a C dx fs u, w = .ref a ∧ H a = some (.ins C dx fs) ∧ fs.lookup f = some u ∧ VAt H u p v
  | w, .ix k :: p, v => ∃ a vs u, w = .ref a ∧ H a = some (.lst vs) ∧ vs[k]? = some u ∧ VAt H u p v
section
variable {K : PySem.W.Frag} {Z : Zt} {Sh H S' H' : Hp} {σ : L2.St} {ρ : En}
theorem AtF.get : ∀ {fs : List (Str × O)} {vs : List (Str × V)} {f : Str} {o : O}, AtF K Sh H fs vs → fs.lookup f = some o → ∃ v, vs.lookup f = some v ∧ At K Sh H o v ∧ ∀ b, Fp H o v b → FpF H fs vs b
  | (g, u) :: fs, (g', w) :: vs, f, o, h, e => by
    obtain ⟨rfl, h1, h2, h3⟩ := h
    rw [List.lookup_cons] at e ⊢
    cases q : f == g with
    | true =>
      rw [q] at e
      cases e
      exact ⟨w, rfl, h1, fun b hb => .inl hb⟩
    | false =>
      rw [q] at e
      obtain ⟨v, e1, e2, e3⟩ := AtF.get h2 e
      exact ⟨v, e1, e2, fun b hb => .inr (e3 b hb)⟩
  | [], [], f, o, _, e => by cases e
  | [], _ :: _, f, o, h, e => False.elim h
  | _ :: _, [], f, o, h, e => False.elim h
theorem FzF.get : ∀ {fs : List (Str × D)} {vs : List (Str × V)} {f : Str} {d : D}, FzF K Sh vs fs → fs.lookup f = some d → ∃ v, vs.lookup f = some v ∧ Fz K Sh v d
  | [], _, f, d, h, e => by cases e
  | (g, u) :: fs, _, f, d, h, e => by
    cases h with
    | @cons _ w vs _ _ h1 h2 =>
      rw [List.lookup_cons] at e ⊢
      cases q : f == g with
      | true =>
        rw [q] at e
        cases e
        exact ⟨w, rfl, h1⟩
      | false =>
        rw [q] at e
        exact FzF.get h2 e
theorem AtL.get : ∀ {os : List O} {vs : List V} {k : Nat} {o : O}, AtL K Sh H os vs → os[k]? = some o → ∃ v, vs[k]? = some v ∧ At K Sh H o v ∧ ∀ b, Fp H o v b → FpL H os vs b
  | u :: os, w :: vs, 0, o, h, e => by
    cases (show some u = some o from e)
    exact ⟨w, rfl, h.1, fun b hb => .inl hb⟩
  | u :: os, w :: vs, k + 1, o, h, e => by
    obtain ⟨v, e1, e2, e3⟩ := AtL.get (k := k) h.2.1 e
    exact ⟨v, e1, e2, fun b hb => .inr (e3 b hb)⟩
  | [], [], k, o, _, e => by simp at e
  | [], _ :: _, k, o, h, e => False.elim h
  | _ :: _, [], k, o, h, e => False.elim h
/-- what stands at a place -/
theorem VAt.at (sh : Same Sh H) : ∀ {p : List Sx} {o u : O} {w : V}, At K Sh H o w → getP o p = some u → ∃ v, VAt H w p v ∧ At K Sh H u v ∧ ∀ b, Fp H u v b → Fp H o w b
  | [], o, u, w, h, e => by
    have e' : some o = some u := by unfold getP at e; exact e
    cases e'
    exact ⟨w, rfl, h, fun _ hb => hb⟩
  | .fld f :: p, .ins c fs, u, w, h, e => by
    obtain ⟨a, dx, vs, rfl, h1, h2, h3, h4⟩ := h
    unfold getP at e
    cases q : fs.lookup f with
    | none =>
      rw [q] at e
      cases e
    | some o' =>
      rw [q] at e
      obtain ⟨v', l, a1, f1⟩ := AtF.get h3 q
      obtain ⟨v, e1, e2, e3⟩ := VAt.at sh (p := p) a1 e
      exact ⟨v, ⟨a, _, dx, vs, v', rfl, h1, l, e1⟩, e2, fun b hb => .inr ⟨a, _, dx, vs, rfl, h1, f1 b (e3 b hb)⟩⟩
  | .fld f :: p, .fr (.ins c fs), u, w, h, e => by
    cases (show Fz K Sh w (.ins c fs) from h) with
    | @ins a dx _ xs _ h1 h2 =>
      unfold getP at e
      cases q : fs.lookup f with
      | none =>
        rw [q] at e
        cases e
      | some d' =>
        rw [q] at e
        obtain ⟨v', l, a1⟩ := FzF.get h2 q
        obtain ⟨v, e1, e2, e3⟩ := VAt.at sh (p := p) (o := .fr d') (w := v') a1 e
        exact ⟨v, ⟨a, _, dx, xs, v', rfl, sh _ _ h1, l, e1⟩, e2, fun b hb => e3 b hb⟩
  | .ix k :: p, .nst os, u, w, h, e => by
    obtain ⟨a, vs, rfl, h1, h2, h3, h4⟩ := h
    unfold getP at e
    cases q : os[k]? with
    | none =>
      rw [q] at e
      cases e
    | some o' =>
      rw [q] at e
      obtain ⟨v', l, a1, f1⟩ := AtL.get h3 q
      obtain ⟨v, e1, e2, e3⟩ := VAt.at sh (p := p) a1 e
      exact ⟨v, ⟨a, vs, v', rfl, h1, l, e1⟩, e2, fun b hb => .inr ⟨a, vs, rfl, h1, f1 b (e3 b hb)⟩⟩
  | .fld f :: p, .lst _, u, w, h, e => by simp [getP] at e
  | .fld f :: p, .dic _, u, w, h, e => by simp [getP] at e
  | .fld f :: p, .dit _, u, w, h, e => by simp [getP] at e
  | .fld f :: p, .nst _, u, w, h, e => by simp [getP] at e
  | .fld f :: p, .fr .non, u, w, h, e => by simp [getP] at e
  | .fld f :: p, .fr (.bl _), u, w, h, e => by simp [getP] at e
  | .fld f :: p, .fr (.int _), u, w, h, e => by simp [getP] at e
  | .fld f :: p, .fr (.str _), u, w, h, e => by simp [getP] at e
  | .fld f :: p, .fr (.tup _), u, w, h, e => by simp [getP] at e
  | .fld f :: p, .fr (.lst _), u, w, h, e => by simp [getP] at e
  | .fld f :: p, .fr (.dic _), u, w, h, e => by simp [getP] at e
  | .fld f :: p, .fr (.dit _), u, w, h, e => by simp [getP] at e
  | .fld f :: p, .fr (.scr _), u, w, h, e => by simp [getP] at e
  | .ix k :: p, .lst _, u, w, h, e => by simp [getP] at e
  | .ix k :: p, .dic _, u, w, h, e => by simp [getP] at e
  | .ix k :: p, .dit _, u, w, h, e => by simp [getP] at e
  | .ix k :: p, .ins _ _, u, w, h, e => by simp [getP] at e
  | .ix k :: p, .fr _, u, w, h, e => by simp [getP] at e
theorem VAt.one : ∀ {p : List Sx} {w v u : V}, VAt H w p v → VAt H w p u → v = u
  | [], w, v, u, h, q => by
    have h' : v = w := h
    have q' : u = w := q
    rw [h', q']
  | .fld f :: p, w, v, u, h, q => by
    obtain ⟨a, C, dx, fs, x, rfl, h1, h2, h3⟩ := h
    obtain ⟨a', C', dx', fs', x', e, q1, q2, q3⟩ := q
    cases e
    rw [h1] at q1
    cases q1
    rw [h2] at q2
    cases q2
    exact VAt.one h3 q3
  | .ix k :: p, w, v, u, h, q => by
    obtain ⟨a, vs, x, rfl, h1, h2, h3⟩ := h
    obtain ⟨a', vs', x', e, q1, q2, q3⟩ := q
    cases e
    rw [h1] at q1
    cases q1
    rw [h2] at q2
    cases q2
    exact VAt.one h3 q3
theorem VAt.same (s : Same H H') : ∀ {p : List Sx} {w v : V}, VAt H w p v → VAt H' w p v
  | [], w, v, h => h
  | .fld f :: p, w, v, h => by
    obtain ⟨a, C, dx, fs, x, rfl, h1, h2, h3⟩ := h
    exact ⟨a, C, dx, fs, x, rfl, s _ _ h1, h2, VAt.same s h3⟩
  | .ix k :: p, w, v, h => by
    obtain ⟨a, vs, x, rfl, h1, h2, h3⟩ := h
    exact ⟨a, vs, x, rfl, s _ _ h1, h2, VAt.same s h3⟩
end
end G48

set_option Elab.async false
set_option linter.all false
set_option maxRecDepth 100000
set_option maxHeartbeats 4000000
namespace G48
open PySem PySem.Spec PyProof.Rows L2 SX
/-! ### a thing at a place is put anew -/
section
variable {K : PySem.W.Frag} {Z : Zt} {Sh H S' H' : Hp} {σ : L2.St} {ρ : En}
theorem AtF.put (ss : Same Sh S') {f : Str} {o1 o2 : O} {v1 : V} (a2 : At K S' H' o2 v1) : ∀ {fs : List (Str × O)} {vs : List (Str × V)}, AtF K Sh H fs vs → fs.lookup f = some o1 → vs.lookup f = some v1 →
    (∀ b, FpF H fs vs b → ¬ Fp H o1 v1 b → H' b = H b ∧ S' b = none) → (∀ b, Fp H' o2 v1 b → Fp H o1 v1 b ∨ ¬ FpF H fs vs b) →
    AtF K S' H' (putO f o2 fs) vs ∧ ∀ b, FpF H' (putO f o2 fs) vs b → (FpF H fs vs b ∧ ¬ Fp H o1 v1 b) ∨ Fp H' o2 v1 b
  | (g, u) :: fs, (g', w) :: vs, h, e, e', k, n => by
    obtain ⟨rfl, h1, h2, h3⟩ := h
    unfold putO
    rw [List.lookup_cons] at e e'
    cases q : f == g with
    | true =>
      rw [q] at e e'
      cases e
      cases e'
      have kt : ∀ b, FpF H fs vs b → H' b = H b ∧ S' b = none := fun b hb => k b (.inr hb) (fun z => h3 b z hb)
      have ft := FpF.eq (H' := H') fs vs h2 (fun b hb => (kt b hb).1)
      rw [if_pos rfl]
      refine ⟨⟨rfl, a2, AtF.keep ss fs vs h2 kt, fun b hb hc => ?_⟩, fun b hb => ?_⟩
      · have hc' := (ft b).mp hc
        rcases n b hb with z | z
        · exact h3 b z hc'
        · exact z (.inr hc')
      · rcases hb with hb | hb
        · exact .inr hb
        · have hb' := (ft b).mp hb
          exact .inl ⟨.inr hb', fun z => h3 b z hb'⟩
    | false =>
      rw [q] at e e'
      have e' : vs.lookup f = some v1 := e'
      rw [if_neg (by simp)]
      obtain ⟨v', l, a1, f1⟩ := AtF.get h2 e
      rw [e'] at l
      cases l
      have nh : ∀ b, Fp H u w b → ¬ Fp H o1 v1 b := fun b hb z => h3 b hb (f1 b z)
      have kh : ∀ b, Fp H u w b → H' b = H b ∧ S' b = none := fun b hb => k b (.inl hb) (nh b hb)
      have fh := Fp.eq (H' := H') u w h1 (fun b hb => (kh b hb).1)
      obtain ⟨i1, i2⟩ := AtF.put ss a2 h2 e e' (fun b hb z => k b (.inr hb) z) (fun b hb => (n b hb).imp id (fun z q => z (.inr q)))
      refine ⟨⟨rfl, At.keep ss u w h1 kh, i1, fun b hb hc => ?_⟩, fun b hb => ?_⟩
      · have hb' := (fh b).mp hb
        rcases i2 b hc with z | z
        · exact h3 b hb' z.1
        · rcases n b z with y | y
          · exact nh b hb' y
          · exact y (.inl hb')
      · rcases hb with hb | hb
        · have hb' := (fh b).mp hb
          exact .inl ⟨.inl hb', nh b hb'⟩
        · exact (i2 b hb).imp (fun z => ⟨.inr z.1, z.2⟩) id
  | [], vs, _, e, _, _, _ => by cases e
  | _ :: _, [], h, e, _, _, _ => False.elim h
theorem AtL.put (ss : Same Sh S') {o1 o2 : O} {v1 : V} (a2 : At K S' H' o2 v1) : ∀ {os : List O} {vs : List V} {j : Nat}, AtL K Sh H os vs → os[j]? = some o1 → vs[j]? = some v1 →
    (∀ b, FpL H os vs b → ¬ Fp H o1 v1 b → H' b = H b ∧ S' b = none) → (∀ b, Fp H' o2 v1 b → Fp H o1 v1 b ∨ ¬ FpL H os vs b) →
    AtL K S' H' (os.set j o2) vs ∧ ∀ b, FpL H' (os.set j o2) vs b → (FpL H os vs b ∧ ¬ Fp H o1 v1 b) ∨ Fp H' o2 v1 b
  | u :: fs, w :: vs, 0, h, e, e', k, n => by
    obtain ⟨h1, h2, h3⟩ := h
    cases (show some u = some o1 from e)
    cases (show some w = some v1 from e')
    have kt : ∀ b, FpL H fs vs b → H' b = H b ∧ S' b = none := fun b hb => k b (.inr hb) (fun z => h3 b z hb)
    have ft := FpL.eq (H' := H') fs vs h2 (fun b hb => (kt b hb).1)
    refine ⟨⟨a2, AtL.keep ss fs vs h2 kt, fun b hb hc => ?_⟩, fun b hb => ?_⟩
    · have hc' := (ft b).mp hc
      rcases n b hb with z | z
      · exact h3 b z hc'
      · exact z (.inr hc')
    · rcases hb with hb | hb
      · exact .inr hb
      · have hb' := (ft b).mp hb
        exact .inl ⟨.inr hb', fun z => h3 b z hb'⟩
  | u :: fs, w :: vs, j + 1, h, e, e', k, n => by
    obtain ⟨h1, h2, h3⟩ := h
    obtain ⟨v', l, a1, f1⟩ := AtL.get (k := j) h2 e
    rw [show vs[j]? = some v1 from e'] at l
    cases l
    have nh : ∀ b, Fp H u w b → ¬ Fp H o1 v1 b := fun b hb z => h3 b hb (f1 b z)
    have kh : ∀ b, Fp H u w b → H' b = H b ∧ S' b = none := fun b hb => k b (.inl hb) (nh b hb)
    have fh := Fp.eq (H' := H') u w h1 (fun b hb => (kh b hb).1)
    obtain ⟨i1, i2⟩ := AtL.put ss a2 (j := j) h2 e e' (fun b hb z => k b (.inr hb) z) (fun b hb => (n b hb).imp id (fun z q => z (.inr q)))
    refine ⟨⟨At.keep ss u w h1 kh, i1, fun b hb hc => ?_⟩, fun b hb => ?_⟩
    · have hb' := (fh b).mp hb
      rcases i2 b hc with z | z
      · exact h3 b hb' z.1
      · rcases n b z with y | y
        · exact nh b hb' y
        · exact y (.inl hb')
    · rcases hb with hb | hb
      · have hb' := (fh b).mp hb
        exact .inl ⟨.inl hb', nh b hb'⟩
      · exact (i2 b hb).imp (fun z => ⟨.inr z.1, z.2⟩) id
  | [], vs, j, _, e, _, _, _ => by simp at e
  | _ :: _, [], j, h, e, _, _, _ => False.elim h
def isFr : O → Bool
  | .fr _ => true
  | _ => false
theorem At.put (ss : Same Sh S') (sh : Same Sh H) {u u' : O} {v : V} (hu : isFr u = false) (a2 : At K S' H' u' v) : ∀ {p : List Sx} {o : O} {w : V}, At K Sh H o w → getP o p = some u → VAt H w p v →
    (∀ b, Fp H o w b → ¬ Fp H u v b → H' b = H b ∧ S' b = none) → (∀ b, Fp H' u' v b → Fp H u v b ∨ ¬ Fp H o w b) →
    At K S' H' (setP o p u') w ∧ ∀ b, Fp H' (setP o p u') w b → (Fp H o w b ∧ ¬ Fp H u v b) ∨ Fp H' u' v b
  | [], o, w, h, e, q, k, n => by
    have e' : some o = some u := by unfold getP at e; exact e
    cases e'
    have q' : v = w := q
    subst q'
    unfold setP
    exact ⟨a2, fun b hb => .inr hb⟩
  | .fld f :: p, .ins c fs, w, h, e, q, k, n => by
    obtain ⟨a, dx, vs, rfl, h1, h2, h3, h4⟩ := h
    unfold getP at e
    cases z : fs.lookup f with
    | none =>
      rw [z] at e
      cases e
    | some o' =>
      rw [z] at e
      obtain ⟨v', l, a1, f1⟩ := AtF.get h3 z
      obtain ⟨_, _, _, _, v2, e2, q1, q2, q3⟩ := q
      cases e2
      rw [h1] at q1
      cases q1
      rw [l] at q2
      cases q2
      have sub : ∀ b, Fp H u v b → Fp H o' v' b := fun b hb => by
        obtain ⟨v3, g1, g2, g3⟩ := VAt.at sh a1 e
        have : v3 = v := VAt.one g1 q3
        subst this
        exact g3 b hb
      obtain ⟨i1, i2⟩ := At.put ss sh hu a2 (p := p) a1 e q3 (fun b hb z => k b (.inr ⟨a, _, dx, vs, rfl, h1, f1 b hb⟩) z) (fun b hb => (n b hb).imp id (fun z q => z (.inr ⟨a, _, dx, vs, rfl, h1, f1 b q⟩)))
      have na : ¬ Fp H u v a := fun z => h4 (f1 a (sub a z))
      obtain ⟨ka, kb⟩ := k a (.inl rfl) na
      have ndiff : ∀ b, Fp H' (setP o' p u') v' b → Fp H o' v' b ∨ ¬ FpF H fs vs b := fun b hb => by
        rcases i2 b hb with y | y
        · exact .inl y.1
        · rcases n b y with x | x
          · exact .inl (sub b x)
          · exact .inr (fun t => x (.inr ⟨a, _, dx, vs, rfl, h1, t⟩))
      obtain ⟨j1, j2⟩ := AtF.put ss i1 h3 z l (fun b hb t => k b (.inr ⟨a, _, dx, vs, rfl, h1, hb⟩) (fun s => t (sub b s))) ndiff
      have ha' : H' a = some (.ins (He.ga K c) dx vs) := ka.trans h1
      unfold setP
      rw [z]
      have tot : ∀ b, FpF H' (putO f (setP o' p u') fs) vs b → (FpF H fs vs b ∧ ¬ Fp H u v b) ∨ Fp H' u' v b := fun b hb => by
        rcases j2 b hb with y | y
        · exact .inl ⟨y.1, fun s => y.2 (sub b s)⟩
        · rcases i2 b y with x | x
          · exact .inl ⟨f1 b x.1, x.2⟩
          · exact .inr x
      refine ⟨⟨a, dx, vs, rfl, ha', kb, j1, fun t => ?_⟩, fun b hb => ?_⟩
      · rcases tot a t with y | y
        · exact h4 y.1
        · rcases n a y with x | x
          · exact na x
          · exact x (.inl rfl)
      · rcases hb with hb | ⟨a', C, dx', vs', e5, e6, hb⟩
        · cases hb
          exact .inl ⟨.inl rfl, na⟩
        · cases e5
          rw [ha'] at e6
          cases e6
          exact (tot b hb).imp (fun y => ⟨.inr ⟨a, _, dx, vs, rfl, h1, y.1⟩, y.2⟩) id
  | .ix j :: p, .nst os, w, h, e, q, k, n => by
    obtain ⟨a, vs, rfl, h1, h2, h3, h4⟩ := h
    unfold getP at e
    cases z : os[j]? with
    | none =>
      rw [z] at e
      cases e
    | some o' =>
      rw [z] at e
      obtain ⟨v', l, a1, f1⟩ := AtL.get h3 z
      obtain ⟨_, _, v2, e2, q1, q2, q3⟩ := q
      cases e2
      rw [h1] at q1
      cases q1
      rw [l] at q2
      cases q2
      have sub : ∀ b, Fp H u v b → Fp H o' v' b := fun b hb => by
        obtain ⟨v3, g1, g2, g3⟩ := VAt.at sh a1 e
        have : v3 = v := VAt.one g1 q3
        subst this
        exact g3 b hb
      obtain ⟨i1, i2⟩ := At.put ss sh hu a2 (p := p) a1 e q3 (fun b hb z => k b (.inr ⟨a, vs, rfl, h1, f1 b hb⟩) z) (fun b hb => (n b hb).imp id (fun z q => z (.inr ⟨a, vs, rfl, h1, f1 b q⟩)))
      have na : ¬ Fp H u v a := fun z => h4 (f1 a (sub a z))
      obtain ⟨ka, kb⟩ := k a (.inl rfl) na
      have ndiff : ∀ b, Fp H' (setP o' p u') v' b → Fp H o' v' b ∨ ¬ FpL H os vs b := fun b hb => by
        rcases i2 b hb with y | y
        · exact .inl y.1
        · rcases n b y with x | x
          · exact .inl (sub b x)
          · exact .inr (fun t => x (.inr ⟨a, vs, rfl, h1, t⟩))
      obtain ⟨j1, j2⟩ := AtL.put ss i1 h3 z l (fun b hb t => k b (.inr ⟨a, vs, rfl, h1, hb⟩) (fun s => t (sub b s))) ndiff
      have ha' : H' a = some (.lst vs) := ka.trans h1
      unfold setP
      rw [z]
      have tot : ∀ b, FpL H' (os.set j (setP o' p u')) vs b → (FpL H os vs b ∧ ¬ Fp H u v b) ∨ Fp H' u' v b := fun b hb => by
        rcases j2 b hb with y | y
        · exact .inl ⟨y.1, fun s => y.2 (sub b s)⟩
        · rcases i2 b y with x | x
          · exact .inl ⟨f1 b x.1, x.2⟩
          · exact .inr x
      refine ⟨⟨a, vs, rfl, ha', kb, j1, fun t => ?_⟩, fun b hb => ?_⟩
      · rcases tot a t with y | y
        · exact h4 y.1
        · rcases n a y with x | x
          · exact na x
          · exact x (.inl rfl)
      · rcases hb with hb | ⟨a', vs', e5, e6, hb⟩
        · cases hb
          exact .inl ⟨.inl rfl, na⟩
        · cases e5
          rw [ha'] at e6
          cases e6
          exact (tot b hb).imp (fun y => ⟨.inr ⟨a, vs, rfl, h1, y.1⟩, y.2⟩) id
  | .fld f :: p, .fr (.ins c fs), w, h, e, q, k, n => by
    exfalso
    have go : ∀ (p : List Sx) (d : D), getP (.fr d) p = some u → isFr u = true := by
      intro p
      induction p with
      | nil =>
        intro d e
        unfold getP at e
        cases e
        rfl
      | cons x p ih =>
        intro d e
        cases x with
        | ix k => simp [getP] at e
        | fld f =>
          cases d with
          | ins c fs =>
            unfold getP at e
            cases z : fs.lookup f with
            | none =>
              rw [z] at e
              cases e
            | some d' =>
              rw [z] at e
              exact ih d' e
          | _ => simp [getP] at e
    rw [go _ _ e] at hu
    cases hu
  | .fld f :: p, .lst _, w, h, e, q, k, n => by simp [getP] at e
  | .fld f :: p, .dic _, w, h, e, q, k, n => by simp [getP] at e
  | .fld f :: p, .dit _, w, h, e, q, k, n => by simp [getP] at e
  | .fld f :: p, .nst _, w, h, e, q, k, n => by simp [getP] at e
  | .fld f :: p, .fr .non, w, h, e, q, k, n => by simp [getP] at e
  | .fld f :: p, .fr (.bl _), w, h, e, q, k, n => by simp [getP] at e
  | .fld f :: p, .fr (.int _), w, h, e, q, k, n => by simp [getP] at e
  | .fld f :: p, .fr (.str _), w, h, e, q, k, n => by simp [getP] at e
  | .fld f :: p, .fr (.tup _), w, h, e, q, k, n => by simp [getP] at e
  | .fld f :: p, .fr (.lst _), w, h, e, q, k, n => by simp [getP] at e
  | .fld f :: p, .fr (.dic _), w, h, e, q, k, n => by simp [getP] at e
  | .fld f :: p, .fr (.dit _), w, h, e, q, k, n => by simp [getP] at e
  | .fld f :: p, .fr (.scr _), w, h, e, q, k, n => by simp [getP] at e
  | .ix j :: p, .lst _, w, h, e, q, k, n => by simp [getP] at e
  | .ix j :: p, .dic _, w, h, e, q, k, n => by simp [getP] at e
  | .ix j :: p, .dit _, w, h, e, q, k, n => by simp [getP] at e
  | .ix j :: p, .ins _ _, w, h, e, q, k, n => by simp [getP] at e
  | .ix j :: p, .fr _, w, h, e, q, k, n => by simp [getP] at e
/-- the same in a state -/
theorem Rl.put (R : Rl K Z Sh H σ ρ) {i : Nat} {o u u' : O} {w v : V} {p : List Sx} (hi : ρ[i]? = some (some o)) (hw : σ[i]? = some (some w)) (hg : getP o p = some u) (hu : isFr u = false) (hv : VAt H w p v)
    (ss : Same Sh S') (sh : Same S' H') (k : ∀ b, FpE H σ ρ b → ¬ Fp H u v b → H' b = H b ∧ S' b = none) (a2 : At K S' H' u' v) (n : ∀ b, Fp H' u' v b → Fp H u v b ∨ ¬ FpE H σ ρ b) (z : Zok Z S' H') :
    Rl K Z S' H' σ (ρ.set i (some (setP o p u'))) ∧ ∀ b, FpE H' σ (ρ.set i (some (setP o p u'))) b → (FpE H σ ρ b ∧ ¬ Fp H u v b) ∨ Fp H' u' v b := by
  obtain ⟨w', hw', ao⟩ := R.ats i o hi
  rw [hw] at hw'
  cases hw'
  have inE : ∀ b, Fp H o w b → FpE H σ ρ b := fun b hb => ⟨i, o, w, hi, hw, hb⟩
  have sub : ∀ b, Fp H u v b → Fp H o w b := fun b hb => by
    obtain ⟨v3, g1, g2, g3⟩ := VAt.at R.sh ao hg
    have : v3 = v := VAt.one g1 hv
    subst this
    exact g3 b hb
  obtain ⟨p1, p2⟩ := At.put ss R.sh hu a2 ao hg hv (fun b hb t => k b (inE b hb) t) (fun b hb => (n b hb).imp id (fun t s => t (inE b s)))
  have il : i < ρ.length := (List.getElem?_eq_some_iff.mp hi).1
  have oth : ∀ {j : Nat} {o2 : O} {v2 : V}, j ≠ i → ρ[j]? = some (some o2) → σ[j]? = some (some v2) → ∀ b, Fp H o2 v2 b → H' b = H b ∧ S' b = none := fun {j o2 v2} nj h1 h2 b hb =>
    k b ⟨j, o2, v2, h1, h2, hb⟩ (fun t => R.dj j i o2 o v2 w b nj h1 hi h2 hw hb (sub b t))
  have otf : ∀ {j : Nat} {o2 : O} {v2 : V}, j ≠ i → ρ[j]? = some (some o2) → σ[j]? = some (some v2) → ∀ b, Fp H' o2 v2 b ↔ Fp H o2 v2 b := fun {j o2 v2} nj h1 h2 b => by
    obtain ⟨v', hv', aj⟩ := R.ats j o2 h1
    rw [h2] at hv'
    cases hv'
    exact Fp.eq o2 v2 aj (fun b hb => (oth nj h1 h2 b hb).1) b
  refine ⟨⟨sh, by rw [List.length_set]; exact R.len, fun j o2 h => ?_, fun j l o2 u2 v2 w2 b nj h1 h2 h3 h4 h5 h6 => ?_, z⟩, fun b hb => ?_⟩
  · by_cases e : j = i
    · subst e
      rw [List.getElem?_set_self il] at h
      cases h
      exact ⟨w, hw, p1⟩
    · rw [List.getElem?_set_ne (Ne.symm e)] at h
      obtain ⟨v', hv', aj⟩ := R.ats j o2 h
      exact ⟨v', hv', At.keep ss o2 v' aj (fun b hb => oth e h hv' b hb)⟩
  · have key : ∀ {j : Nat} {o2 : O} {v2 : V}, j ≠ i → ρ[j]? = some (some o2) → σ[j]? = some (some v2) → Fp H' o2 v2 b → Fp H' (setP o p u') w b → False := fun {j o2 v2} nj h1 h2 h3 h4 => by
      have h3' := (otf nj h1 h2 b).mp h3
      rcases p2 b h4 with y | y
      · exact R.dj j i o2 o v2 w b nj h1 hi h2 hw h3' y.1
      · rcases n b y with x | x
        · exact R.dj j i o2 o v2 w b nj h1 hi h2 hw h3' (sub b x)
        · exact x ⟨j, o2, v2, h1, h2, h3'⟩
    by_cases e1 : j = i
    · subst e1
      rw [List.getElem?_set_self il] at h1
      cases h1
      rw [hw] at h3
      cases h3
      rw [List.getElem?_set_ne nj] at h2
      exact key (Ne.symm nj) h2 h4 h6 h5
    · rw [List.getElem?_set_ne (Ne.symm e1)] at h1
      by_cases e2 : l = i
      · subst e2
        rw [List.getElem?_set_self il] at h2
        cases h2
        rw [hw] at h4
        cases h4
        exact key nj h1 h3 h5 h6
      · rw [List.getElem?_set_ne (Ne.symm e2)] at h2
        exact R.dj j l o2 u2 v2 w2 b nj h1 h2 h3 h4 ((otf e1 h1 h3 b).mp h5) ((otf e2 h2 h4 b).mp h6)
  · obtain ⟨j, o2, v2, h1, h2, h3⟩ := hb
    by_cases e : j = i
    · subst e
      rw [List.getElem?_set_self il] at h1
      cases h1
      rw [hw] at h2
      cases h2
      exact (p2 b h3).imp (fun y => ⟨inE b y.1, y.2⟩) id
    · rw [List.getElem?_set_ne (Ne.symm e)] at h1
      have h3' := (otf e h1 h2 b).mp h3
      exact .inl ⟨⟨j, o2, v2, h1, h2, h3'⟩, fun t => R.dj j i o2 o v2 w b e h1 hi h2 hw h3' (sub b t)⟩
open Classical in
noncomputable def addS (H Sh : Hp) (F : Addr → Prop) : Hp := fun a => if F a then H a else Sh a
theorem addS_in {F : Addr → Prop} {a : Addr} (h : F a) : addS H Sh F a = H a := by unfold addS; exact if_pos h
theorem addS_out {F : Addr → Prop} {a : Addr} (h : ¬ F a) : addS H Sh F a = Sh a := by unfold addS; exact if_neg h
theorem addS_ss {F : Addr → Prop} (h : ∀ a, F a → Sh a = none) : Same Sh (addS H Sh F) := fun a u e => by
  rw [addS_out (fun z => by rw [h a z] at e; cases e)]
  exact e
theorem addS_sh {F : Addr → Prop} (sh : Same Sh H) : Same (addS H Sh F) H := fun a u e => by
  by_cases h : F a
  · rw [addS_in h] at e
    exact e
  · rw [addS_out h] at e
    exact sh a u e
/-- a place is frozen -/
theorem Rl.frz (R : Rl K Z Sh H σ ρ) {i : Nat} {o u : O} {w v : V} {p : List Sx} (hi : ρ[i]? = some (some o)) (hw : σ[i]? = some (some w)) (hg : getP o p = some u) (hu : isFr u = false) (hv : VAt H w p v) :
    ∃ S', Rl K Z S' H σ (ρ.set i (some (setP o p (.fr (er u))))) ∧ Fz K S' v (er u) ∧ (∀ b, FpE H σ (ρ.set i (some (setP o p (.fr (er u))))) b → FpE H σ ρ b) ∧ Gx Z Sh H (FpE H σ ρ) S' H (FpE H σ (ρ.set i (some (setP o p (.fr (er u)))))) := by
  obtain ⟨w', hw', ao⟩ := R.ats i o hi
  rw [hw] at hw'
  cases hw'
  obtain ⟨v3, g1, au, g3⟩ := VAt.at R.sh ao hg
  have e3 : v3 = v := VAt.one g1 hv
  subst e3
  have sub : ∀ b, Fp H u v3 b → FpE H σ ρ b := fun b hb => ⟨i, o, w, hi, hw, g3 b hb⟩
  have ss : Same Sh (addS H Sh (Fp H u v3)) := addS_ss (fun a h => (At.tr u v3 a au h).1)
  have fz : Fz K (addS H Sh (Fp H u v3)) v3 (er u) := At.frz ss u v3 au (fun b hb => addS_in hb)
  have zk : Zok Z (addS H Sh (Fp H u v3)) H := fun P q e => by
    obtain ⟨z1, z2⟩ := R.zk P q e
    refine ⟨?_, z2⟩
    rw [addS_out (fun z => (R.zne (sub P z)).1 ⟨q, e⟩)]
    exact z1
  obtain ⟨r1, r2⟩ := R.put (S' := addS H Sh (Fp H u v3)) (H' := H) (u' := .fr (er u)) hi hw hg hu hv ss (addS_sh R.sh) (fun b hb t => ⟨rfl, by rw [addS_out t]; exact (R.tr hb).1⟩) fz (fun b h => False.elim h) zk
  have fe : ∀ b, FpE H σ (ρ.set i (some (setP o p (.fr (er u))))) b → FpE H σ ρ b := fun b hb => (r2 b hb).elim (fun y => y.1) (fun y => False.elim y)
  refine ⟨_, r1, fz, fe, ss, fun a u h _ _ => h, fun a s h n => ?_, fun a h => .inl (fe a h), fun _ h => h⟩
  rw [addS_out (fun z => n (sub a z))]
  exact s
end
end G48

set_option Elab.async false
set_option linter.all false
set_option maxRecDepth 100000
set_option maxHeartbeats 4000000
namespace G48
open PySem PySem.Spec PyProof.Rows L2 SX
/-! ### values of expressions -/
theorem ob_x : ∃ f : (α : Type) → Option α → (α → Prop) → Prop, ∀ (α : Type) (o : Option α) (k : α → Prop), f α o k = (match o with | some a => k a | none => False) := ⟨fun _ o k => match o with | some a => k a | none => False, fun _ _ _ => rfl⟩
/-- what o gives (made by choice, so that the kernel does not run on) -/
@[irreducible] noncomputable def ob {α : Type} (o : Option α) (k : α → Prop) : Prop := Classical.choose ob_x α o k
theorem ob_some {α : Type} {a : α} {k : α → Prop} : ob (some a) k = k a := by
  unfold ob
  exact Classical.choose_spec ob_x α (some a) k
theorem ob_none {α : Type} {k : α → Prop} : ob none k = False := by
  unfold ob
  exact Classical.choose_spec ob_x α none k
theorem ob_ex {α : Type} {o : Option α} {k : α → Prop} (h : ob o k) : ∃ a, o = some a ∧ k a := by
  cases o with
  | none => rw [ob_none] at h; exact False.elim h
  | some a => rw [ob_some] at h; exact ⟨a, rfl, h⟩
def vw : O → Option D
  | .fr d => some d
  | .lst ds => some (.lst ds)
  | .dic k => some (.dic k)
  | .dit k => some (.dit k)
  | _ => none
def plc (ρ : En) (i : Nat) (p : List Sx) : Option O := match ρ[i]? with
  | some (some o) => getP o p
  | _ => none
def rdU (ρ : En) : U → Option D
  | .va o => vw o
  | .at i p => (plc ρ i p).bind vw
/-- a value as it is read -/
def Sv (K : PySem.W.Frag) (Sh H : Hp) (v : V) : D → Prop
  | .lst ds => ∃ a xs, v = .ref a ∧ H a = some (.lst xs) ∧ FzL K Sh xs ds
  | .dic ds => ∃ a xs, v = .ref a ∧ Rd H a (.dK xs) ∧ FzK K Sh xs ds
  | .dit ds => ∃ a xs, v = .ref a ∧ Rd H a (.dT xs) ∧ FzT K Sh xs ds
  | d => Fz K Sh v d
def EAt (K : PySem.W.Frag) (Sh H : Hp) (σ : L2.St) (ρ : En) : U → V → Prop
  | .va o, v => At K Sh H o v ∧ ∀ b, Fp H o v b → ¬ FpE H σ ρ b
  | .at i p, v => ∃ w, σ[i]? = some (some w) ∧ VAt H w p v
def EFp (H : Hp) : U → V → Addr → Prop
  | .va o, v => Fp H o v
  | .at _ _, _ => fun _ => False
structure Mid (K : PySem.W.Frag) (Z : Zt) (q : Bool) (Sh H : Hp) (σ : L2.St) (ρ ρ' : En) (S' H' : Hp) : Prop where
  rl : Rl K Z S' H' σ ρ'
  gx : Gx Z Sh H (FpE H σ ρ) S' H' (FpE H' σ ρ')
  md : q = true → Same H H'
structure Ps (K : PySem.W.Frag) (Z : Zt) (q : Bool) (Sh H : Hp) (σ : L2.St) (ρ : En) (u : U) (ρ' : En) (S' H' : Hp) (v : V) : Prop where
  rl : Rl K Z S' H' σ ρ'
  gx : Gx Z Sh H (FpE H σ ρ) S' H' (fun a => FpE H' σ ρ' a ∨ EFp H' u v a)
  ev : EAt K S' H' σ ρ' u v
  md : q = true → Same H H'
def XAt (K : PySem.W.Frag) (Sh : Hp) (x : Xc) (cls : Value) (d : Option Addr) : Prop := cls = .ref (He.ga K x.cls) ∧ ∃ dd xs, d = some dd ∧ Sh dd = some (.xd xs) ∧ FzF K Sh xs x.fs
structure Px (K : PySem.W.Frag) (Z : Zt) (Sh H : Hp) (σ : L2.St) (ρ : En) (x : Xc) (ρ' : En) (S' H' : Hp) (cls : Value) (d : Option Addr) : Prop where
  rl : Rl K Z S' H' σ ρ'
  gx : Gx Z Sh H (FpE H σ ρ) S' H' (FpE H' σ ρ')
  xa : XAt K S' x cls d
abbrev IE := En → (U → En → Prop) → (Xc → En → Prop) → Prop
abbrev IT := En → (Bool → En → Prop) → (Xc → En → Prop) → Prop
abbrev IA := En → (List D → En → Prop) → (Xc → En → Prop) → Prop
def Ev (K : PySem.W.Frag) (Z : Zt) (W : WX) (q : Bool) (w : IE) : TE := fun σ H Q => ∃ Sh ρ Q0 E0, Rl K Z Sh H σ ρ ∧ w ρ Q0 E0 ∧
  (∀ u ρ' S' H' v, Q0 u ρ' → Ps K Z q Sh H σ ρ u ρ' S' H' v → Q v H') ∧ (∀ x ρ' S' H' cls d, E0 x ρ' → Px K Z Sh H σ ρ x ρ' S' H' cls d → W cls d σ H')
def EvT (K : PySem.W.Frag) (Z : Zt) (W : WX) (q : Bool) (w : IT) : TT := fun σ H Q => ∃ Sh ρ Q0 E0, Rl K Z Sh H σ ρ ∧ w ρ Q0 E0 ∧
  (∀ b ρ' S' H', Q0 b ρ' → Mid K Z q Sh H σ ρ ρ' S' H' → Q b H') ∧ (∀ x ρ' S' H' cls d, E0 x ρ' → Px K Z Sh H σ ρ x ρ' S' H' cls d → W cls d σ H')
/-- arguments that are frozen -/
def EvA (K : PySem.W.Frag) (Z : Zt) (W : WX) (q : Bool) (w : IA) : TA := fun σ H Q => ∃ Sh ρ Q0 E0, Rl K Z Sh H σ ρ ∧ w ρ Q0 E0 ∧
  (∀ ds ρ' S' H' vs, Q0 ds ρ' → Mid K Z q Sh H σ ρ ρ' S' H' → FzL K S' vs ds → Q vs H') ∧ (∀ x ρ' S' H' cls d, E0 x ρ' → Px K Z Sh H σ ρ x ρ' S' H' cls d → W cls d σ H')
theorem _root_.L2.PE.weak {X : Cx} {e : Expr} {t t' : TE} (h : PE X e t) (i : ∀ σ H Q, t' σ H Q → t σ H Q) : PE X e t' := ⟨fun pins s σ H Q I q => h.run pins s σ H Q I (i σ H Q q)⟩
theorem _root_.L2.PT.weak {X : Cx} {e : Expr} {t t' : TT} (h : PT X e t) (i : ∀ σ H Q, t' σ H Q → t σ H Q) : PT X e t' := ⟨fun pins s σ H Q I q => h.run pins s σ H Q I (i σ H Q q)⟩
theorem _root_.L2.PW.weak {X : Cx} {e : Expr} {t t' : TT} (h : PW X e t) (i : ∀ σ H Q, t' σ H Q → t σ H Q) : PW X e t' := ⟨fun wh pins s σ H Q I q => h.run wh pins s σ H Q I (i σ H Q q)⟩
theorem _root_.L2.PA.weak {X : Cx} {e : List Expr} {t t' : TA} (h : PA X e t) (i : ∀ σ H Q, t' σ H Q → t σ H Q) : PA X e t' := ⟨fun pos pins s σ H Q I q => h.run pos pins s σ H Q I (i σ H Q q)⟩
section
variable {K : PySem.W.Frag} {Z : Zt} {q q' : Bool} {Sh H S' H' S1 H1 S2 H2 S3 H3 : Hp} {σ : L2.St} {ρ ρ' ρ1 ρ2 ρ3 : En} {u a : U} {o : O} {v v1 v2 : V} {d : D} {x : Xc} {cls : Value} {dd : Option Addr}
theorem At.sv (sh : Same Sh H) : ∀ {o : O} {v : V} {d : D}, At K Sh H o v → vw o = some d → Sv K Sh H v d
  | .fr d, v, d', h, e => by
    cases e
    cases d with
    | lst ds =>
      cases (show Fz K Sh v (.lst ds) from h) with
      | lst h1 h2 => exact ⟨_, _, rfl, sh _ _ h1, h2⟩
    | dic ds =>
      cases (show Fz K Sh v (.dic ds) from h) with
      | dic h1 h2 => exact ⟨_, _, rfl, rd_mono sh h1, h2⟩
    | dit ds =>
      cases (show Fz K Sh v (.dit ds) from h) with
      | dit h1 h2 => exact ⟨_, _, rfl, rd_mono sh h1, h2⟩
    | _ => exact h
  | .lst ds, v, d', h, e => by
    cases e
    obtain ⟨a, vs, rfl, h1, h2, h3⟩ := h
    exact ⟨a, vs, rfl, h1, h3⟩
  | .dic ds, v, d', h, e => by
    cases e
    obtain ⟨a, vs, rfl, h1, h2, h3⟩ := h
    exact ⟨a, vs, rfl, .inl h1, h3⟩
  | .dit ds, v, d', h, e => by
    cases e
    obtain ⟨a, vs, rfl, h1, h2, h3⟩ := h
    exact ⟨a, vs, rfl, .inl h1, h3⟩
  | .nst _, v, d', h, e => by cases e
  | .ins _ _, v, d', h, e => by cases e
theorem Fz.sv (sh : Same Sh H) (h : Fz K Sh v d) : Sv K Sh H v d := At.sv sh (o := .fr d) h rfl
theorem EAt.sv (R : Rl K Z Sh H σ ρ) (h : EAt K Sh H σ ρ u v) (e : rdU ρ u = some d) : Sv K Sh H v d := by
  cases u with
  | va o => exact At.sv R.sh h.1 e
  | «at» i p =>
    obtain ⟨w, hw, hv⟩ := h
    unfold rdU plc at e
    dsimp only at e
    cases hi : ρ[i]? with
    | none =>
      rw [hi] at e
      cases e
    | some oo =>
      rw [hi] at e
      cases oo with
      | none => cases e
      | some o =>
        dsimp only at e
        cases hg : getP o p with
        | none =>
          rw [hg] at e
          cases e
        | some u =>
          rw [hg] at e
          obtain ⟨w', hw', ao⟩ := R.ats i o hi
          rw [hw] at hw'
          cases hw'
          obtain ⟨v3, g1, au, _⟩ := VAt.at R.sh ao hg
          rw [VAt.one hv g1]
          exact At.sv R.sh au e
theorem Mid.refl (R : Rl K Z Sh H σ ρ) : Mid K Z q Sh H σ ρ ρ Sh H := ⟨R, Gx.refl fun _ h => h, fun _ => Same.refl _⟩
theorem Ps.mid (p : Ps K Z q Sh H σ ρ u ρ' S' H' v) : Mid K Z q Sh H σ ρ ρ' S' H' := ⟨p.rl, p.gx.weak (fun _ h => h) (fun _ h => .inl h), p.md⟩
theorem Mid.trans (a : Mid K Z q Sh H σ ρ ρ1 S1 H1) (b : Mid K Z q' S1 H1 σ ρ1 ρ2 S2 H2) : Mid K Z (q && q') Sh H σ ρ ρ2 S2 H2 :=
  ⟨b.rl, a.gx.trans b.gx, fun e => (a.md (Bool.and_eq_true_iff.mp e).1).trans (b.md (Bool.and_eq_true_iff.mp e).2)⟩
theorem Mid.px (a : Mid K Z q Sh H σ ρ ρ1 S1 H1) (b : Px K Z S1 H1 σ ρ1 x ρ2 S2 H2 cls dd) : Px K Z Sh H σ ρ x ρ2 S2 H2 cls dd := ⟨b.rl, a.gx.trans b.gx, b.xa⟩
theorem Mid.ps (a : Mid K Z q Sh H σ ρ ρ1 S1 H1) (b : Ps K Z q' S1 H1 σ ρ1 u ρ2 S2 H2 v) : Ps K Z (q && q') Sh H σ ρ u ρ2 S2 H2 v :=
  ⟨b.rl, a.gx.trans b.gx, b.ev, fun e => (a.md (Bool.and_eq_true_iff.mp e).1).trans (b.md (Bool.and_eq_true_iff.mp e).2)⟩
theorem Mid.fin (a : Mid K Z q Sh H σ ρ ρ1 S1 H1) (r : Res K S1 H1 o v S2 H2) : Ps K Z q Sh H σ ρ (.va o) ρ1 S2 H2 v := by
  obtain ⟨r1, r2, r3, r4⟩ := a.rl.res r
  exact ⟨r1, a.gx.trans r3, ⟨r.at_, r4⟩, fun e => (a.md e).trans r.hs⟩
theorem Ps.imp (p : Ps K Z q Sh H σ ρ u ρ' S' H' v) (h : q' = true → q = true) : Ps K Z q' Sh H σ ρ u ρ' S' H' v := ⟨p.rl, p.gx, p.ev, fun e => p.md (h e)⟩
theorem Mid.imp (p : Mid K Z q Sh H σ ρ ρ' S' H') (h : q' = true → q = true) : Mid K Z q' Sh H σ ρ ρ' S' H' := ⟨p.rl, p.gx, fun e => p.md (h e)⟩
/-- a place waits while something else is reckoned -/
def okp (q : Bool) : U → Prop
  | .va _ => True
  | .at _ [] => True
  | .at _ _ => q = true
theorem EAt.step (ev : EAt K S1 H1 σ ρ1 a v1) (R1 : Rl K Z S1 H1 σ ρ1) (m : Mid K Z q S1 H1 σ ρ1 ρ2 S2 H2) (ok : okp q a) : EAt K S2 H2 σ ρ2 a v1 := by
  cases a with
  | va o =>
    obtain ⟨h1, h2⟩ := ev
    have nz : ∀ b, Fp H1 o v1 b → ¬ Zin Z b := fun b hb ⟨q, z⟩ => by
      obtain ⟨u, e, mu, _⟩ := fp_code o v1 h1 hb
      obtain ⟨_, ps, hp, _⟩ := R1.zk b q z
      rw [hp] at e
      cases e
      exact mu
    have kk : ∀ b, Fp H1 o v1 b → H2 b = H1 b ∧ S2 b = none := fun b hb => by
      obtain ⟨t1, t2⟩ := At.tr o v1 b h1 hb
      refine ⟨?_, m.gx.nw b t1 t2 (h2 b hb)⟩
      cases e : H1 b with
      | none => exact absurd e t2
      | some u => exact m.gx.kp b u e (h2 b hb) (nz b hb)
    refine ⟨At.keep m.gx.ss o v1 h1 kk, fun b hb hc => ?_⟩
    have hb' := (Fp.eq (H' := H2) o v1 h1 (fun b hb => (kk b hb).1) b).mp hb
    rcases m.gx.ft b hc with z | z
    · exact h2 b hb' z
    · exact (At.tr o v1 b h1 hb').2 z
  | «at» i p =>
    obtain ⟨w, hw, hv⟩ := ev
    cases p with
    | nil => exact ⟨w, hw, hv⟩
    | cons s p => exact ⟨w, hw, VAt.same (m.md ok) hv⟩
/-- an operation by ideal values -/
def rF (K : PySem.W.Frag) (f : D → D → Option O) : R2 := fun x y H Q => ∃ Sh d1 d2 o, Same Sh H ∧ Sv K Sh H x d1 ∧ Sv K Sh H y d2 ∧ f d1 d2 = some o ∧ ∀ S' H' v, Res K Sh H o v S' H' → Q v H'
def uF (K : PySem.W.Frag) (f : D → Option O) : V → Hp → VK → Prop := fun x H Q => ∃ Sh d o, Same Sh H ∧ Sv K Sh H x d ∧ f d = some o ∧ ∀ S' H' v, Res K Sh H o v S' H' → Q v H'
/-- of several values -/
inductive SvL (K : PySem.W.Frag) (Sh H : Hp) : List V → List D → Prop
  | nil : SvL K Sh H [] []
  | cons {v : V} {vs : List V} {d : D} {ds : List D} : Sv K Sh H v d → SvL K Sh H vs ds → SvL K Sh H (v :: vs) (d :: ds)
def cF (K : PySem.W.Frag) (f : List D → Option O) : List V → Hp → VK → Prop := fun xs H Q => ∃ Sh ds o, Same Sh H ∧ SvL K Sh H xs ds ∧ f ds = some o ∧ ∀ S' H' v, Res K Sh H o v S' H' → Q v H'
end
/-! ### the readings -/
def iVar (i : Nat) : IE := fun ρ Q _ => match ρ[i]? with
  | some (some (.fr d)) => Q (.va (.fr d)) ρ
  | some (some _) => Q (.at i []) ρ
  | _ => False
def iC (d : D) : IE := fun ρ Q _ => Q (.va (.fr d)) ρ
def iOp (qb : Bool) (f : D → D → Option O) (wa wb : IE) : IE := fun ρ Q E => wa ρ (fun a ρ1 => okp qb a ∧ wb ρ1 (fun b ρ2 => ob (rdU ρ2 a) fun d1 => ob (rdU ρ2 b) fun d2 => ob (f d1 d2) fun o => Q (.va o) ρ2) E) E
def iUn (f : D → Option O) (wa : IE) : IE := fun ρ Q E => wa ρ (fun a ρ1 => ob (rdU ρ1 a) fun d1 => ob (f d1) fun o => Q (.va o) ρ1) E
def bD : D → Option Bool
  | .bl b => some b
  | _ => none
def iTst (w : IE) : IT := fun ρ Q E => w ρ (fun a ρ1 => ob ((rdU ρ1 a).bind bD) fun b => Q b ρ1) E
def iAnd (a b : IE) : IE := fun ρ Q E => a ρ (fun u ρ1 => ob ((rdU ρ1 u).bind bD) fun c => if c = true then b ρ1 Q E else Q (.va (.fr (.bl false))) ρ1) E
def iOr (a b : IE) : IE := fun ρ Q E => a ρ (fun u ρ1 => ob ((rdU ρ1 u).bind bD) fun c => if c = true then Q (.va (.fr (.bl true))) ρ1 else b ρ1 Q E) E
def iNot (a : IE) : IE := fun ρ Q E => a ρ (fun u ρ1 => ob ((rdU ρ1 u).bind bD) fun c => Q (.va (.fr (.bl (!c)))) ρ1) E
def iIf (t : IT) (a b : IE) : IE := fun ρ Q E => t ρ (fun c ρ1 => if c = true then a ρ1 Q E else b ρ1 Q E) E
def jAnd (a b : IT) : IT := fun ρ Q E => a ρ (fun c ρ1 => if c = true then b ρ1 Q E else Q false ρ1) E
def jOr (a b : IT) : IT := fun ρ Q E => a ρ (fun c ρ1 => if c = true then Q true ρ1 else b ρ1 Q E) E
def jNot (a : IT) : IT := fun ρ Q E => a ρ (fun c ρ1 => Q (!c) ρ1) E
def iCh (qb qc : Bool) (f g : D → D → Option O) (wa wb wc : IE) : IE := fun ρ Q E => wa ρ (fun a ρ1 => okp qb a ∧ wb ρ1 (fun b ρ2 => ob (rdU ρ2 a) fun d1 => ob (rdU ρ2 b) fun d2 => ob ((f d1 d2).bind fun o => (vw o).bind bD) fun c =>
  if c = true then okp qc b ∧ wc ρ2 (fun e ρ3 => ob (rdU ρ3 b) fun d2 => ob (rdU ρ3 e) fun d3 => ob (g d2 d3) fun o => Q (.va o) ρ3) E else Q (.va (.fr (.bl false))) ρ2) E) E
/-- the value is kept somewhere: it is frozen -/
def fzU (ρ : En) (u : U) (Q : D → En → Prop) : Prop := match u with
  | .va o => Q (er o) ρ
  | .at i p => match ρ[i]? with
    | some (some o) => match getP o p with
      | some (.fr d) => Q d ρ
      | some u => Q (er u) (ρ.set i (some (setP o p (.fr (er u)))))
      | none => False
    | _ => False
def iNil : IA := fun ρ Q _ => Q [] ρ
def iCons (w : IE) (r : IA) : IA := fun ρ Q E => w ρ (fun u ρ1 => fzU ρ1 u fun d ρ2 => r ρ2 (fun ds ρ3 => Q (d :: ds) ρ3) E) E
def LIM : Nat := 100000
def iTup (r : IA) : IE := fun ρ Q E => r ρ (fun ds ρ1 => ds.length ≤ LIM ∧ Q (.va (.fr (.tup ds))) ρ1) E
def iLst (r : IA) : IE := fun ρ Q E => r ρ (fun ds ρ1 => ds.length ≤ LIM ∧ Q (.va (.lst ds)) ρ1) E
section
variable {X : Cx} {K : PySem.W.Frag} {Z : Zt} {W : WX} {q qa qb qc : Bool} {wa wb wc w : IE} {ra : IA} {t ta tb : IT} {a b c e : Expr} {es : List Expr} {pos : Pos}
theorem tC_ev {v : V} {d : D} (h : ∀ Sh, Fz K Sh v d) {σ : L2.St} {H : Hp} {Q : VK} : Ev K Z W true (iC d) σ H Q → tC v σ H Q := fun ⟨Sh, ρ, Q0, E0, R, h1, hq, _⟩ => hq _ _ _ _ _ h1 ((Mid.refl R).fin (Res.fr R.sh (h Sh)))
theorem var_ev {i : Nat} {σ : L2.St} {H : Hp} {Q : VK} (h : Ev K Z W true (iVar i) σ H Q) : tVar i σ H Q := by
  obtain ⟨Sh, ρ, Q0, E0, R, h, hq, _⟩ := h
  unfold iVar at h
  cases hi : ρ[i]? with
  | none =>
    rw [hi] at h
    exact False.elim h
  | some oo =>
    rw [hi] at h
    cases oo with
    | none => exact False.elim h
    | some o =>
      obtain ⟨w, hw, ao⟩ := R.ats i o hi
      refine ⟨w, hw, ?_⟩
      have own : isFr o = false → Q0 (.at i []) ρ → Q w H := fun _ h => hq _ _ _ _ _ h ⟨R, (Gx.refl fun _ h => h).weak (fun _ h => h) (fun _ h => h.elim id (fun z => False.elim z)), ⟨w, hw, rfl⟩, fun _ => Same.refl _⟩
      cases o with
      | fr d => exact hq _ _ _ _ _ h ((Mid.refl R).fin (Res.fr R.sh ao))
      | lst ds => exact own rfl h
      | nst ds => exact own rfl h
      | dic ds => exact own rfl h
      | dit ds => exact own rfl h
      | ins c ds => exact own rfl h
theorem ev_var {i : Nat} {x : Str} (hv : PE X (.Name x pos) (tVar i)) : PE X (.Name x pos) (Ev K Z W true (iVar i)) := hv.weak fun _ _ _ h => var_ev h
theorem ev_int {i : Int} {j : Nat} : PE X (.Constant (.int i) j pos) (Ev K Z W true (iC (.int i))) := pe_int.weak fun _ _ _ => tC_ev fun _ => .int i
theorem ev_bl {i : Bool} {j : Nat} : PE X (.Constant (.bool i) j pos) (Ev K Z W true (iC (.bl i))) := pe_bl.weak fun _ _ _ => tC_ev fun _ => .bl i
theorem ev_non {j : Nat} : PE X (.Constant .none j pos) (Ev K Z W true (iC .non)) := pe_non.weak fun _ _ _ => tC_ev fun _ => .non
theorem fz_str {Sh : Hp} {x : Str} : Fz K Sh (.str x) (.str x.cps.toList) := by
  have h : Fz K Sh (.str (S x.cps.toList)) (.str x.cps.toList) := .str _
  rw [S_tl] at h
  exact h
theorem ev_str {x : Str} {j : Nat} : PE X (.Constant (.str x) j pos) (Ev K Z W true (iC (.str x.cps.toList))) := pe_str.weak fun _ _ _ => tC_ev fun _ => fz_str
theorem ev_gv {x : Str} {v : V} {d : D} (hg : Gl X x) (h : Gv X.mg x v) (hd : ∀ Sh, Fz K Sh v d) (hdb : (x == ("__debug__" : Str)) = false := by decide) : PE X (.Name x pos) (Ev K Z W true (iC d)) := (pe_gv hg h hdb).weak fun _ _ _ => tC_ev hd
theorem op_ev {r : R2} {f : D → D → Option O} (hr : ∀ x y H Q, rF K f x y H Q → r x y H Q) {σ : L2.St} {H : Hp} {Q : VK} (h : Ev K Z W (qa && qb) (iOp qb f wa wb) σ H Q) : tOp r (Ev K Z W qa wa) (Ev K Z W qb wb) σ H Q := by
  obtain ⟨Sh, ρ, Q0, E0, R, h, hq, hx⟩ := h
  refine ⟨Sh, ρ, _, E0, R, h, fun a ρ1 S1 H1 v1 ⟨ok, h1⟩ p1 => ?_, hx⟩
  refine ⟨S1, ρ1, _, E0, p1.rl, h1, fun b ρ2 S2 H2 v2 h2 p2 => ?_, fun x ρ' S' H' cls d e p => hx x ρ' S' H' cls d e (p1.mid.px p)⟩
  obtain ⟨d1, e1, h2⟩ := ob_ex h2
  obtain ⟨d2, e2, h2⟩ := ob_ex h2
  obtain ⟨o, e3, h2⟩ := ob_ex h2
  exact hr _ _ _ _ ⟨S2, d1, d2, o, p2.rl.sh, (p1.ev.step p1.rl p2.mid ok).sv p2.rl e1, p2.ev.sv p2.rl e2, e3, fun S' H' v r => hq _ _ _ _ _ h2 ((p1.mid.trans p2.mid).fin r)⟩
theorem ev_op {op : Operator} {f : D → D → Option O} (hK : X.K = K) (ho : OpR X (binaryOp op) (rF X.K f)) (ha : PE X a (Ev K Z W qa wa)) (hb : PE X b (Ev K Z W qb wb)) : PE X (.BinOp a op b pos) (Ev K Z W (qa && qb) (iOp qb f wa wb)) := by
  subst hK
  exact (pe_op ho ha hb).weak fun σ H Q h => op_ev (fun _ _ _ _ h => h) h
theorem ev_cmp {op : CmpOp} {f : D → D → Option O} (hK : X.K = K) (ho : OpR X (compareOp op) (rF X.K f)) (ha : PE X a (Ev K Z W qa wa)) (hb : PE X b (Ev K Z W qb wb)) (hm : behindInMarks op b = false) : PE X (.Compare a [op] [b] pos) (Ev K Z W (qa && qb) (iOp qb f wa wb)) := by
  subst hK
  exact (pe_cmpR ho ha hb hm).weak fun σ H Q h => op_ev (fun _ _ _ _ h => h) h
theorem ev_ix {f : D → D → Option O} (hK : X.K = K) (ho : IxR X (rF X.K f)) (ha : PE X a (Ev K Z W qa wa)) (hb : PE X b (Ev K Z W qb wb)) (hs : PlainIx b) : PE X (.Subscript a b pos) (Ev K Z W (qa && qb) (iOp qb f wa wb)) := by
  subst hK
  exact (pe_ix ho ha hb hs).weak fun σ H Q h => op_ev (fun _ _ _ _ h => h) h
theorem un_ev {r : V → Hp → VK → Prop} {f : D → Option O} (hr : ∀ x H Q, uF K f x H Q → r x H Q) {σ : L2.St} {H : Hp} {Q : VK} (h : Ev K Z W qa (iUn f wa) σ H Q) : tUn r (Ev K Z W qa wa) σ H Q := by
  obtain ⟨Sh, ρ, Q0, E0, R, h, hq, hx⟩ := h
  refine ⟨Sh, ρ, _, E0, R, h, fun a ρ1 S1 H1 v1 h1 p1 => ?_, hx⟩
  obtain ⟨d1, e1, h1⟩ := ob_ex h1
  obtain ⟨o, e3, h1⟩ := ob_ex h1
  exact hr _ _ _ ⟨S1, d1, o, p1.rl.sh, p1.ev.sv p1.rl e1, e3, fun S' H' v r => hq _ _ _ _ _ h1 (p1.mid.fin r)⟩
theorem ev_un {op : UnaryOp} {f : D → Option O} (hK : X.K = K) (ho : UnR X (unaryOp op) (uF X.K f)) (ha : PE X a (Ev K Z W qa wa)) : PE X (.UnaryOp op a pos) (Ev K Z W qa (iUn f wa)) := by
  subst hK
  exact (pe_un ho ha).weak fun σ H Q h => un_ev (fun _ _ _ h => h) h
theorem sv_bl {Sh H : Hp} {v : V} {d : D} {k : Bool} (h : Sv K Sh H v d) (e : bD d = some k) : v = .bl k := by
  cases d with
  | bl b' =>
    cases e
    cases (show Fz K Sh v (.bl k) from h)
    rfl
  | _ => cases e
theorem rd_bl {Sh H : Hp} {σ : L2.St} {ρ : En} {u : U} {v : V} {k : Bool} (R : Rl K Z Sh H σ ρ) (h : EAt K Sh H σ ρ u v) (e : (rdU ρ u).bind bD = some k) : v = .bl k := by
  cases q : rdU ρ u with
  | none =>
    rw [q] at e
    cases e
  | some d =>
    rw [q] at e
    exact sv_bl (h.sv R q) e
theorem et_val (h : PE X e (Ev K Z W q w)) (he : ∀ whole, isTrue e X.env whole = (do let v ← whole; standAt e.pos; holding [v] (truthy v)) := by intro _; rfl) : PT X e (EvT K Z W q (iTst w)) := by
  refine (pt_val h he).weak fun σ H Q ⟨Sh, ρ, Q0, E0, R, h, hq, hx⟩ => ?_
  refine ⟨Sh, ρ, _, E0, R, h, fun a ρ1 S1 H1 v1 h1 p1 => ?_, hx⟩
  obtain ⟨k, e1, h1⟩ := ob_ex h1
  exact ⟨k, rd_bl p1.rl p1.ev e1, hq _ _ _ _ h1 p1.mid⟩
theorem et_cmp {op : CmpOp} {f : D → D → Option O} (hK : X.K = K) (ho : OpR X (compareOp op) (rF X.K f)) (ha : PE X a (Ev K Z W qa wa)) (hb : PE X b (Ev K Z W qb wb)) (hm : behindInMarks op b = false) : PT X (.Compare a [op] [b] pos) (EvT K Z W (qa && qb) (iTst (iOp qb f wa wb))) := by
  subst hK
  refine (pt_cmpR ho ha hb hm).weak fun σ H Q ⟨Sh, ρ, Q0, E0, R, h, hq, hx⟩ => ?_
  refine op_ev (K := X.K) (Q := fun x H' => ∃ k, x = .bl k ∧ Q k H') (fun _ _ _ _ h => h) ⟨Sh, ρ, _, E0, R, h, fun u ρ' S' H' v h1 p1 => ?_, hx⟩
  obtain ⟨k, e1, h1⟩ := ob_ex h1
  exact ⟨k, rd_bl p1.rl p1.ev e1, hq _ _ _ _ h1 p1.mid⟩
theorem ev_and {rest : List Expr} (ha : PE X a (Ev K Z W qa wa)) (hb : PE X (.BoolOp .And (b :: rest) pos) (Ev K Z W qb wb)) : PE X (.BoolOp .And (a :: b :: rest) pos) (Ev K Z W (qa && qb) (iAnd wa wb)) := by
  refine (pe_and ha hb).weak fun σ H Q ⟨Sh, ρ, Q0, E0, R, h, hq, hx⟩ => ?_
  refine ⟨Sh, ρ, _, E0, R, h, fun a ρ1 S1 H1 v1 h1 p1 => ?_, hx⟩
  obtain ⟨k, e1, h1⟩ := ob_ex h1
  refine ⟨k, rd_bl p1.rl p1.ev e1, ?_⟩
  cases k with
  | true =>
    rw [if_pos rfl] at h1 ⊢
    exact ⟨S1, ρ1, _, E0, p1.rl, h1, fun u ρ2 S2 H2 v2 h2 p2 => hq _ _ _ _ _ h2 (p1.mid.ps p2), fun x ρ' S' H' cls d e p => hx x ρ' S' H' cls d e (p1.mid.px p)⟩
  | false =>
    rw [if_neg (by simp)] at h1 ⊢
    exact hq _ _ _ _ _ h1 ((p1.mid.fin (Res.fr p1.rl.sh (.bl false))).imp fun e => (Bool.and_eq_true_iff.mp e).1)
theorem ev_or {rest : List Expr} (ha : PE X a (Ev K Z W qa wa)) (hb : PE X (.BoolOp .Or (b :: rest) pos) (Ev K Z W qb wb)) : PE X (.BoolOp .Or (a :: b :: rest) pos) (Ev K Z W (qa && qb) (iOr wa wb)) := by
  refine (pe_or ha hb).weak fun σ H Q ⟨Sh, ρ, Q0, E0, R, h, hq, hx⟩ => ?_
  refine ⟨Sh, ρ, _, E0, R, h, fun a ρ1 S1 H1 v1 h1 p1 => ?_, hx⟩
  obtain ⟨k, e1, h1⟩ := ob_ex h1
  refine ⟨k, rd_bl p1.rl p1.ev e1, ?_⟩
  cases k with
  | true =>
    rw [if_pos rfl] at h1 ⊢
    exact hq _ _ _ _ _ h1 ((p1.mid.fin (Res.fr p1.rl.sh (.bl true))).imp fun e => (Bool.and_eq_true_iff.mp e).1)
  | false =>
    rw [if_neg (by simp)] at h1 ⊢
    exact ⟨S1, ρ1, _, E0, p1.rl, h1, fun u ρ2 S2 H2 v2 h2 p2 => hq _ _ _ _ _ h2 (p1.mid.ps p2), fun x ρ' S' H' cls d e p => hx x ρ' S' H' cls d e (p1.mid.px p)⟩
theorem ev_not (ha : PE X a (Ev K Z W qa wa)) : PE X (.UnaryOp .Not a pos) (Ev K Z W qa (iNot wa)) := by
  refine (pe_not ha).weak fun σ H Q ⟨Sh, ρ, Q0, E0, R, h, hq, hx⟩ => ?_
  refine ⟨Sh, ρ, _, E0, R, h, fun a ρ1 S1 H1 v1 h1 p1 => ?_, hx⟩
  obtain ⟨k, e1, h1⟩ := ob_ex h1
  exact ⟨k, rd_bl p1.rl p1.ev e1, hq _ _ _ _ _ h1 (p1.mid.fin (Res.fr p1.rl.sh (.bl (!k))))⟩
theorem ev_if (ht : PT X c (EvT K Z W q t)) (ha : PE X a (Ev K Z W qa wa)) (hb : PE X b (Ev K Z W qb wb)) : PE X (.IfExp c a b pos) (Ev K Z W (q && (qa && qb)) (iIf t wa wb)) := by
  refine (pe_ifExp ht ha hb).weak fun σ H Q ⟨Sh, ρ, Q0, E0, R, h, hq, hx⟩ => ?_
  refine ⟨Sh, ρ, _, E0, R, h, fun k ρ1 S1 H1 h1 p1 => ?_, hx⟩
  cases k with
  | true =>
    rw [if_pos rfl] at h1 ⊢
    exact ⟨S1, ρ1, _, E0, p1.rl, h1, fun u ρ2 S2 H2 v2 h2 p2 => hq _ _ _ _ _ h2 ((p1.ps p2).imp fun e => by rw [Bool.and_eq_true_iff] at e ⊢; exact ⟨e.1, (Bool.and_eq_true_iff.mp e.2).1⟩), fun x ρ' S' H' cls d e p => hx x ρ' S' H' cls d e (p1.px p)⟩
  | false =>
    rw [if_neg (by simp)] at h1 ⊢
    exact ⟨S1, ρ1, _, E0, p1.rl, h1, fun u ρ2 S2 H2 v2 h2 p2 => hq _ _ _ _ _ h2 ((p1.ps p2).imp fun e => by rw [Bool.and_eq_true_iff] at e ⊢; exact ⟨e.1, (Bool.and_eq_true_iff.mp e.2).2⟩), fun x ρ' S' H' cls d e p => hx x ρ' S' H' cls d e (p1.px p)⟩
theorem ew_and {rest : List Expr} (ha : PT X a (EvT K Z W qa ta)) (hb : PW X (.BoolOp .And (b :: rest) pos) (EvT K Z W qb tb)) : PW X (.BoolOp .And (a :: b :: rest) pos) (EvT K Z W (qa && qb) (jAnd ta tb)) := by
  refine (pw_and ha hb).weak fun σ H Q ⟨Sh, ρ, Q0, E0, R, h, hq, hx⟩ => ?_
  refine ⟨Sh, ρ, _, E0, R, h, fun k ρ1 S1 H1 h1 p1 => ?_, hx⟩
  cases k with
  | true =>
    rw [if_pos rfl] at h1 ⊢
    exact ⟨S1, ρ1, _, E0, p1.rl, h1, fun u ρ2 S2 H2 h2 p2 => hq _ _ _ _ h2 (p1.trans p2), fun x ρ' S' H' cls d e p => hx x ρ' S' H' cls d e (p1.px p)⟩
  | false =>
    rw [if_neg (by simp)] at h1 ⊢
    exact hq _ _ _ _ h1 (p1.imp fun e => (Bool.and_eq_true_iff.mp e).1)
theorem ew_or {rest : List Expr} (ha : PT X a (EvT K Z W qa ta)) (hb : PW X (.BoolOp .Or (b :: rest) pos) (EvT K Z W qb tb)) : PW X (.BoolOp .Or (a :: b :: rest) pos) (EvT K Z W (qa && qb) (jOr ta tb)) := by
  refine (pw_or ha hb).weak fun σ H Q ⟨Sh, ρ, Q0, E0, R, h, hq, hx⟩ => ?_
  refine ⟨Sh, ρ, _, E0, R, h, fun k ρ1 S1 H1 h1 p1 => ?_, hx⟩
  cases k with
  | true =>
    rw [if_pos rfl] at h1 ⊢
    exact hq _ _ _ _ h1 (p1.imp fun e => (Bool.and_eq_true_iff.mp e).1)
  | false =>
    rw [if_neg (by simp)] at h1 ⊢
    exact ⟨S1, ρ1, _, E0, p1.rl, h1, fun u ρ2 S2 H2 h2 p2 => hq _ _ _ _ h2 (p1.trans p2), fun x ρ' S' H' cls d e p => hx x ρ' S' H' cls d e (p1.px p)⟩
theorem et_not (ha : PT X a (EvT K Z W qa ta)) : PT X (.UnaryOp .Not a pos) (EvT K Z W qa (jNot ta)) := by
  refine (pt_not ha).weak fun σ H Q ⟨Sh, ρ, Q0, E0, R, h, hq, hx⟩ => ?_
  exact ⟨Sh, ρ, _, E0, R, h, fun k ρ1 S1 H1 h1 p1 => hq _ _ _ _ h1 p1, hx⟩
theorem ch_ev {f g : D → D → Option O} {σ : L2.St} {H : Hp} {Q : VK} (h : Ev K Z W (qa && qb && qc) (iCh qb qc f g wa wb wc) σ H Q) : tChain (rF K f) (rF K g) (Ev K Z W qa wa) (Ev K Z W qb wb) (Ev K Z W qc wc) σ H Q := by
  obtain ⟨Sh, ρ, Q0, E0, R, h, hq, hx⟩ := h
  refine ⟨Sh, ρ, _, E0, R, h, fun a ρ1 S1 H1 v1 ⟨ok, h1⟩ p1 => ?_, hx⟩
  refine ⟨S1, ρ1, _, E0, p1.rl, h1, fun b ρ2 S2 H2 v2 h2 p2 => ?_, fun x ρ' S' H' cls d e p => hx x ρ' S' H' cls d e (p1.mid.px p)⟩
  obtain ⟨d1, e1, h2⟩ := ob_ex h2
  obtain ⟨d2, e2, h2⟩ := ob_ex h2
  obtain ⟨k, e3, h2⟩ := ob_ex h2
  have m2 := p1.mid.trans p2.mid
  cases eo : f d1 d2 with
  | none =>
    rw [eo] at e3
    cases e3
  | some o =>
    rw [eo] at e3
    refine ⟨S2, d1, d2, o, p2.rl.sh, (p1.ev.step p1.rl p2.mid ok).sv p2.rl e1, p2.ev.sv p2.rl e2, eo, fun S' H' v r => ?_⟩
    have m3 := p2.rl.res r
    have e3' : (vw o).bind bD = some k := e3
    cases ev : vw o with
    | none =>
      rw [ev] at e3'
      cases e3'
    | some dv =>
      rw [ev] at e3'
      refine ⟨k, sv_bl (At.sv r.sh r.at_ ev) e3', ?_⟩
      have mm : Mid K Z true S2 H2 σ ρ2 ρ2 S' H' := ⟨m3.1, m3.2.2.1.weak (fun _ h => h) (fun _ h => .inl h), fun _ => r.hs⟩
      cases k with
      | true =>
        rw [if_pos rfl] at h2 ⊢
        obtain ⟨okb, h2⟩ := h2
        have vb := p2.ev.step p2.rl mm (by cases b with | va _ => exact True.intro | «at» i p => cases p with | nil => exact True.intro | cons _ _ => exact rfl)
        refine ⟨S', ρ2, _, E0, m3.1, h2, fun c ρ3 S3 H3 v3 h3 p3 => ?_, fun x ρ' S' H' cls d e p => hx x ρ' S' H' cls d e ((m2.trans mm).px p)⟩
        obtain ⟨d2', e1', h3⟩ := ob_ex h3
        obtain ⟨d3, e2', h3⟩ := ob_ex h3
        obtain ⟨o', e3', h3⟩ := ob_ex h3
        refine ⟨S3, d2', d3, o', p3.rl.sh, (vb.step m3.1 p3.mid okb).sv p3.rl e1', p3.ev.sv p3.rl e2', e3', fun S4 H4 v4 r4 => hq _ _ _ _ _ h3 ((((m2.trans mm).trans p3.mid).fin r4).imp fun e => by simpa [Bool.and_assoc] using e)⟩
      | false =>
        rw [if_neg (by simp)] at h2 ⊢
        exact hq _ _ _ _ _ h2 (((m2.trans mm).fin (Res.fr m3.1.sh (.bl false))).imp fun e => by
          simp only [Bool.and_eq_true] at e ⊢
          exact ⟨e.1, trivial⟩)
theorem ev_chain {op op' : CmpOp} {f g : D → D → Option O} (hK : X.K = K) (ho : OpR X (compareOp op) (rF X.K f)) (ho' : OpR X (compareOp op') (rF X.K g)) (ha : PE X a (Ev K Z W qa wa)) (hb : PE X b (Ev K Z W qb wb)) (hc : PE X c (Ev K Z W qc wc)) (hm : lastMarks [op, op'] [b, c] = false := by with_unfolding_all rfl) :
    PE X (.Compare a [op, op'] [b, c] pos) (Ev K Z W (qa && qb && qc) (iCh qb qc f g wa wb wc)) := by
  subst hK
  exact (pe_chain ho ho' ha hb hc hm).weak fun σ H Q h => ch_ev h
theorem et_chain {op op' : CmpOp} {f g : D → D → Option O} (hK : X.K = K) (ho : OpR X (compareOp op) (rF X.K f)) (ho' : OpR X (compareOp op') (rF X.K g)) (ha : PE X a (Ev K Z W qa wa)) (hb : PE X b (Ev K Z W qb wb)) (hc : PE X c (Ev K Z W qc wc)) (hm : lastMarks [op, op'] [b, c] = false := by with_unfolding_all rfl) :
    PT X (.Compare a [op, op'] [b, c] pos) (EvT K Z W (qa && qb && qc) (iTst (iCh qb qc f g wa wb wc))) := by
  subst hK
  refine (pt_chain ho ho' ha hb hc hm).weak fun σ H Q ⟨Sh, ρ, Q0, E0, R, h, hq, hx⟩ => ?_
  refine ch_ev (K := X.K) (Q := fun x H' => ∃ k, x = .bl k ∧ Q k H') ⟨Sh, ρ, _, E0, R, h, fun u ρ' S' H' v h1 p1 => ?_, hx⟩
  obtain ⟨k, e1, h1⟩ := ob_ex h1
  exact ⟨k, rd_bl p1.rl p1.ev e1, hq _ _ _ _ h1 p1.mid⟩
/-! ### arguments -/
theorem fz_at {Sh H : Hp} {σ : L2.St} {ρ : En} {o : O} {v : V} (R : Rl K Z Sh H σ ρ) (h : At K Sh H o v) (n : ∀ b, Fp H o v b → ¬ FpE H σ ρ b) :
    ∃ S', Rl K Z S' H σ ρ ∧ Fz K S' v (er o) ∧ Gx Z Sh H (fun a => FpE H σ ρ a ∨ Fp H o v a) S' H (FpE H σ ρ) := by
  have ss : Same Sh (addS H Sh (Fp H o v)) := addS_ss (fun a z => (At.tr o v a h z).1)
  have fz : Fz K (addS H Sh (Fp H o v)) v (er o) := At.frz ss o v h (fun b hb => addS_in hb)
  have zk : Zok Z (addS H Sh (Fp H o v)) H := fun P q e => by
    obtain ⟨z1, z2⟩ := R.zk P q e
    refine ⟨?_, z2⟩
    rw [addS_out (fun z => ?_)]
    · exact z1
    · obtain ⟨u, e1, mu, _⟩ := fp_code o v h z
      obtain ⟨ps, hp, _⟩ := z2
      rw [hp] at e1
      cases e1
      exact mu
  refine ⟨_, R.keep ss (addS_sh R.sh) (fun b hb => ⟨rfl, ?_⟩) zk, fz, ss, fun a u h _ _ => h, fun a s h m => ?_, fun a h => .inl (.inl h), fun _ h => h⟩
  · rw [addS_out (fun z => n b z hb)]
    exact (R.tr hb).1
  · rw [addS_out (fun z => m (.inr z))]
    exact s
theorem Ps.fz {Sh H S' H' : Hp} {σ : L2.St} {ρ ρ' : En} {u : U} {v : V} {Q : D → En → Prop} (p : Ps K Z q Sh H σ ρ u ρ' S' H' v) (h : fzU ρ' u Q) : ∃ d ρ2 S2, Q d ρ2 ∧ Mid K Z q Sh H σ ρ ρ2 S2 H' ∧ Fz K S2 v d := by
  unfold fzU at h
  cases u with
  | va o =>
    obtain ⟨S2, r, f, g⟩ := fz_at p.rl p.ev.1 p.ev.2
    exact ⟨er o, ρ', S2, h, ⟨r, p.gx.trans g, p.md⟩, f⟩
  | «at» i pp =>
    obtain ⟨w, hw, hv⟩ := p.ev
    dsimp only at h
    cases hi : ρ'[i]? with
    | none =>
      rw [hi] at h
      exact False.elim h
    | some oo =>
      rw [hi] at h
      cases oo with
      | none => exact False.elim h
      | some o =>
        dsimp only at h
        cases hg : getP o pp with
        | none =>
          rw [hg] at h
          exact False.elim h
        | some u =>
          rw [hg] at h
          obtain ⟨w', hw', ao⟩ := p.rl.ats i o hi
          rw [hw] at hw'
          cases hw'
          obtain ⟨v3, g1, au, _⟩ := VAt.at p.rl.sh ao hg
          have e3 := VAt.one hv g1
          subst e3
          have own : isFr u = false → Q (er u) (ρ'.set i (some (setP o pp (.fr (er u))))) → ∃ d ρ2 S2, Q d ρ2 ∧ Mid K Z q Sh H σ ρ ρ2 S2 H' ∧ Fz K S2 v d := fun hu hh => by
            obtain ⟨S2, r, f, _, g⟩ := p.rl.frz hi hw hg hu hv
            exact ⟨er u, _, S2, hh, ⟨r, p.mid.gx.trans g, p.md⟩, f⟩
          cases u with
          | fr d => exact ⟨d, ρ', S', h, p.mid, au⟩
          | lst ds => exact own rfl h
          | nst ds => exact own rfl h
          | dic ds => exact own rfl h
          | dit ds => exact own rfl h
          | ins c ds => exact own rfl h
theorem ea_nil : PA X [] (EvA K Z W true iNil) := pa_nil.weak fun σ H Q ⟨Sh, ρ, Q0, E0, R, h, hq, hx⟩ => hq _ _ _ _ _ h (Mid.refl R) .nil
theorem ea_cons (ha : PE X e (Ev K Z W qa wa)) (hb : PA X es (EvA K Z W qb ra)) (hs : starEach (e :: es) X.env = (false, eval e X.env) :: starEach es X.env := by rfl) : PA X (e :: es) (EvA K Z W (qa && qb) (iCons wa ra)) := by
  refine (pa_cons ha hb hs).weak fun σ H Q ⟨Sh, ρ, Q0, E0, R, h, hq, hx⟩ => ?_
  refine ⟨Sh, ρ, _, E0, R, h, fun u ρ1 S1 H1 v1 h1 p1 => ?_, hx⟩
  obtain ⟨d, ρ2, S2, h2, m2, f2⟩ := p1.fz h1
  exact ⟨S2, ρ2, _, E0, m2.rl, h2, fun ds ρ3 S3 H3 vs h3 m3 f3 => hq _ _ _ _ _ h3 (m2.trans m3) (.cons (Fz.mono m3.gx.ss _ _ f2) f3), fun x ρ' S' H' cls d e p => hx x ρ' S' H' cls d e (m2.px p)⟩
theorem ev_tup {n : Nat} (ha : PA X es (EvA K Z W qa ra)) : PE X (.Tuple es n pos) (Ev K Z W qa (iTup ra)) := by
  refine (pe_tup ha).weak fun σ H Q ⟨Sh, ρ, Q0, E0, R, h, hq, hx⟩ => ?_
  refine ⟨Sh, ρ, _, E0, R, h, fun ds ρ1 S1 H1 vs h1 m1 f1 => ⟨by rw [f1.len]; exact sz _ h1.1, fun p hp => hq _ _ _ _ _ h1.2 (m1.fin (res_tup m1.rl.sh f1 hp))⟩, hx⟩
theorem ev_lst (ha : PA X es (EvA K Z W qa ra)) : PE X (.List es pos) (Ev K Z W qa (iLst ra)) := by
  refine (pe_lst ha).weak fun σ H Q ⟨Sh, ρ, Q0, E0, R, h, hq, hx⟩ => ?_
  refine ⟨Sh, ρ, _, E0, R, h, fun ds ρ1 S1 H1 vs h1 m1 f1 => ⟨by rw [f1.len]; exact sz _ h1.1, fun p hp => hq _ _ _ _ _ h1.2 (m1.fin (res_lst m1.rl.sh f1 hp))⟩, hx⟩
end
end G48

set_option Elab.async false
set_option linter.all false
set_option maxRecDepth 100000
set_option maxHeartbeats 4000000
namespace G48
open PySem PySem.Spec PyProof.Rows L2 SX
/-! ### statements -/
structure IEn where
  nx : En → Prop
  rt : U → En → Prop
  bk : En → Prop
  ct : En → Prop
  ex : Xc → En → Prop
abbrev IS := En → IEn → Prop
structure MidS (K : PySem.W.Frag) (Z : Zt) (L : List Nat) (Sh H : Hp) (σ : L2.St) (ρ : En) (σ' : L2.St) (ρ' : En) (S' H' : Hp) : Prop where
  rl : Rl K Z S' H' σ' ρ'
  gx : Gx Z Sh H (FpE H σ ρ) S' H' (FpE H' σ' ρ')
  pn : ∀ j, j ∈ L → σ'[j]? = σ[j]?
  ln : σ'.length = σ.length
structure PsS (K : PySem.W.Frag) (Z : Zt) (L : List Nat) (Sh H : Hp) (σ : L2.St) (ρ : En) (σ' : L2.St) (u : U) (ρ' : En) (S' H' : Hp) (v : V) : Prop where
  rl : Rl K Z S' H' σ' ρ'
  gx : Gx Z Sh H (FpE H σ ρ) S' H' (fun a => FpE H' σ' ρ' a ∨ EFp H' u v a)
  ev : EAt K S' H' σ' ρ' u v
  pn : ∀ j, j ∈ L → σ'[j]? = σ[j]?
  ln : σ'.length = σ.length
structure Lands (K : PySem.W.Frag) (Z : Zt) (W : WX) (L : List Nat) (Sh H : Hp) (σ : L2.St) (ρ : En) (N : IEn) (D : Ends) : Prop where
  nx : ∀ ρ' σ' S' H', N.nx ρ' → MidS K Z L Sh H σ ρ σ' ρ' S' H' → D.nx σ' H'
  bk : ∀ ρ' σ' S' H', N.bk ρ' → MidS K Z L Sh H σ ρ σ' ρ' S' H' → D.bk σ' H'
  ct : ∀ ρ' σ' S' H', N.ct ρ' → MidS K Z L Sh H σ ρ σ' ρ' S' H' → D.ct σ' H'
  rt : ∀ u ρ' σ' S' H' v, N.rt u ρ' → PsS K Z L Sh H σ ρ σ' u ρ' S' H' v → D.rt v H'
  ex : ∀ x ρ' σ' S' H' cls d, N.ex x ρ' → MidS K Z L Sh H σ ρ σ' ρ' S' H' → XAt K S' x cls d → W cls d σ' H'
def EvS (K : PySem.W.Frag) (Z : Zt) (W : WX) (L : List Nat) (w : IS) : TS := fun D σ H => ∃ Sh ρ N, Rl K Z Sh H σ ρ ∧ w ρ N ∧ Lands K Z W L Sh H σ ρ N D
theorem _root_.L2.PS.weak {X : Cx} {e : Stmt} {t t' : TS} (h : PS X e t) (i : ∀ D σ H, t' D σ H → t D σ H) : PS X e t' := ⟨fun pins s σ H D I q => h.run pins s σ H D I (i D σ H q)⟩
theorem _root_.L2.PSs.weak {X : Cx} {e : List Stmt} {t t' : TS} (h : PSs X e t) (i : ∀ D σ H, t' D σ H → t D σ H) : PSs X e t' := ⟨fun pins s σ H D I q => h.run pins s σ H D I (i D σ H q)⟩
section
variable {K : PySem.W.Frag} {Z : Zt} {W : WX} {L : List Nat} {q : Bool} {Sh H S' H' S1 H1 S2 H2 : Hp} {σ σ' σ1 σ2 : L2.St} {ρ ρ' ρ1 ρ2 : En} {u : U} {v : V} {N : IEn} {D : Ends} {x : Xc} {cls : Value} {dd : Option Addr}
theorem MidS.refl (R : Rl K Z Sh H σ ρ) : MidS K Z L Sh H σ ρ σ ρ Sh H := ⟨R, Gx.refl fun _ h => h, fun _ _ => rfl, rfl⟩
theorem MidS.trans (a : MidS K Z L Sh H σ ρ σ1 ρ1 S1 H1) (b : MidS K Z L S1 H1 σ1 ρ1 σ2 ρ2 S2 H2) : MidS K Z L Sh H σ ρ σ2 ρ2 S2 H2 := ⟨b.rl, a.gx.trans b.gx, fun j h => (b.pn j h).trans (a.pn j h), b.ln.trans a.ln⟩
theorem MidS.psS (a : MidS K Z L Sh H σ ρ σ1 ρ1 S1 H1) (b : PsS K Z L S1 H1 σ1 ρ1 σ2 u ρ2 S2 H2 v) : PsS K Z L Sh H σ ρ σ2 u ρ2 S2 H2 v := ⟨b.rl, a.gx.trans b.gx, b.ev, fun j h => (b.pn j h).trans (a.pn j h), b.ln.trans a.ln⟩
theorem Mid.s (a : Mid K Z q Sh H σ ρ ρ1 S1 H1) : MidS K Z L Sh H σ ρ σ ρ1 S1 H1 := ⟨a.rl, a.gx, fun _ _ => rfl, rfl⟩
theorem Ps.s (a : Ps K Z q Sh H σ ρ u ρ1 S1 H1 v) : PsS K Z L Sh H σ ρ σ u ρ1 S1 H1 v := ⟨a.rl, a.gx, a.ev, fun _ _ => rfl, rfl⟩
theorem Px.s (a : Px K Z Sh H σ ρ x ρ1 S1 H1 cls dd) : MidS K Z L Sh H σ ρ σ ρ1 S1 H1 := ⟨a.rl, a.gx, fun _ _ => rfl, rfl⟩
theorem Lands.after (l : Lands K Z W L Sh H σ ρ N D) (m : MidS K Z L Sh H σ ρ σ1 ρ1 S1 H1) : Lands K Z W L S1 H1 σ1 ρ1 N D :=
  ⟨fun ρ' σ' S' H' h b => l.nx ρ' σ' S' H' h (m.trans b), fun ρ' σ' S' H' h b => l.bk ρ' σ' S' H' h (m.trans b), fun ρ' σ' S' H' h b => l.ct ρ' σ' S' H' h (m.trans b),
   fun u ρ' σ' S' H' v h b => l.rt u ρ' σ' S' H' v h (m.psS b), fun x ρ' σ' S' H' cls d h b xa => l.ex x ρ' σ' S' H' cls d h (m.trans b) xa⟩
theorem Lands.px (l : Lands K Z W L Sh H σ ρ N D) : ∀ x ρ' S' H' cls d, N.ex x ρ' → Px K Z Sh H σ ρ x ρ' S' H' cls d → W cls d σ H' := fun x ρ' S' H' cls d h p => l.ex x ρ' σ S' H' cls d h p.s p.xa
/-- a slot gets a thing of its own -/
theorem Rl.setv (R : Rl K Z Sh H σ ρ) {i : Nat} {o : O} {v : V} (hi : i < ρ.length) (a : At K Sh H o v) (n : ∀ b, Fp H o v b → ¬ FpE H σ ρ b) :
    Rl K Z Sh H (σ.set i (some v)) (ρ.set i (some o)) ∧ ∀ b, FpE H (σ.set i (some v)) (ρ.set i (some o)) b → FpE H σ ρ b ∨ Fp H o v b := by
  have hs : i < σ.length := by rw [← R.len]; exact hi
  have key : ∀ {j : Nat} {o2 : O} {v2 : V}, (ρ.set i (some o))[j]? = some (some o2) → (σ.set i (some v))[j]? = some (some v2) → (j = i ∧ o2 = o ∧ v2 = v) ∨ (j ≠ i ∧ ρ[j]? = some (some o2) ∧ σ[j]? = some (some v2)) := fun {j o2 v2} h1 h2 => by
    by_cases e : j = i
    · subst e
      rw [List.getElem?_set_self hi] at h1
      rw [List.getElem?_set_self hs] at h2
      cases h1
      cases h2
      exact .inl ⟨rfl, rfl, rfl⟩
    · rw [List.getElem?_set_ne (Ne.symm e)] at h1 h2
      exact .inr ⟨e, h1, h2⟩
  refine ⟨⟨R.sh, by rw [List.length_set, List.length_set]; exact R.len, fun j o2 h => ?_, fun j l o2 u2 v2 w2 b nj h1 h2 h3 h4 h5 h6 => ?_, R.zk⟩, fun b ⟨j, o2, v2, h1, h2, h3⟩ => ?_⟩
  · by_cases e : j = i
    · subst e
      rw [List.getElem?_set_self hi] at h
      cases h
      exact ⟨v, List.getElem?_set_self hs, a⟩
    · rw [List.getElem?_set_ne (Ne.symm e)] at h
      obtain ⟨w, hw, aw⟩ := R.ats j o2 h
      exact ⟨w, by rw [List.getElem?_set_ne (Ne.symm e)]; exact hw, aw⟩
  · rcases key h1 h3 with ⟨rfl, rfl, rfl⟩ | ⟨n1, g1, g3⟩
    · rcases key h2 h4 with ⟨e, _⟩ | ⟨n2, g2, g4⟩
      · exact nj e.symm
      · exact n b h5 ⟨l, u2, w2, g2, g4, h6⟩
    · rcases key h2 h4 with ⟨rfl, rfl, rfl⟩ | ⟨n2, g2, g4⟩
      · exact n b h6 ⟨j, o2, v2, g1, g3, h5⟩
      · exact R.dj j l o2 u2 v2 w2 b nj g1 g2 g3 g4 h5 h6
  · rcases key h1 h2 with ⟨rfl, rfl, rfl⟩ | ⟨n1, g1, g2⟩
    · exact .inr h3
    · exact .inl ⟨j, o2, v2, g1, g2, h3⟩
/-- a slot is forgotten -/
theorem Rl.unset (R : Rl K Z Sh H σ ρ) (i : Nat) : Rl K Z Sh H σ (ρ.set i none) ∧ ∀ b, FpE H σ (ρ.set i none) b → FpE H σ ρ b := by
  have key : ∀ {j : Nat} {o2 : O}, (ρ.set i none)[j]? = some (some o2) → ρ[j]? = some (some o2) := fun {j o2} h => by
    by_cases e : i = j
    · subst e
      by_cases hl : i < ρ.length
      · rw [List.getElem?_set_self hl] at h
        cases h
      · rw [List.getElem?_eq_none (by simpa using hl)] at h
        cases h
    · rw [List.getElem?_set_ne e] at h
      exact h
  exact ⟨⟨R.sh, by rw [List.length_set]; exact R.len, fun j o2 h => R.ats j o2 (key h), fun j l o2 u2 v2 w2 b nj h1 h2 => R.dj j l o2 u2 v2 w2 b nj (key h1) (key h2), R.zk⟩, fun b ⟨j, o2, v2, h1, h2, h3⟩ => ⟨j, o2, v2, key h1, h2, h3⟩⟩
end
/-! ### assignments -/
def stU (ρ : En) (i : Nat) (u : U) (k : En → Prop) : Prop := i < ρ.length ∧ match u with
  | .va o => k (ρ.set i (some o))
  | u => fzU ρ u fun d ρ2 => k (ρ2.set i (some (.fr d)))
section
variable {K : PySem.W.Frag} {Z : Zt} {L : List Nat} {q : Bool} {Sh H S1 H1 : Hp} {σ : L2.St} {ρ ρ1 : En} {u : U} {v : V} {k : En → Prop} {i : Nat}
theorem Ps.st (p : Ps K Z q Sh H σ ρ u ρ1 S1 H1 v) (hi : i ∉ L) (h : stU ρ1 i u k) : ∃ ρ2 S2, k ρ2 ∧ MidS K Z L Sh H σ ρ (σ.set i (some v)) ρ2 S2 H1 := by
  obtain ⟨hl, h⟩ := h
  have pn : ∀ j, j ∈ L → (σ.set i (some v))[j]? = σ[j]? := fun j hj => List.getElem?_set_ne (fun (e : i = j) => hi (by rw [e]; exact hj))
  cases u with
  | va o =>
    obtain ⟨r1, r2⟩ := p.rl.setv hl p.ev.1 p.ev.2
    exact ⟨_, S1, h, r1, p.gx.weak (fun _ h => h) (fun b hb => r2 b hb), pn, by rw [List.length_set]⟩
  | «at» j pp =>
    obtain ⟨d, ρ2, S2, hk, m, f⟩ := p.fz h
    have e2 : ρ2.length = ρ1.length := by rw [m.rl.len, p.rl.len]
    obtain ⟨r1, r2⟩ := m.rl.setv (i := i) (o := .fr d) (v := v) (by rw [e2]; exact hl) f (fun b hb => False.elim hb)
    exact ⟨_, S2, hk, r1, m.gx.weak (fun _ h => h) (fun b hb => (r2 b hb).elim id (fun z => False.elim z)), pn, by rw [List.length_set]⟩
end
def iSet (i : Nat) (w : IE) : IS := fun ρ N => w ρ (fun u ρ1 => stU ρ1 i u N.nx) N.ex
def iSeq (a b : IS) : IS := fun ρ N => a ρ { N with nx := fun ρ1 => b ρ1 N }
def iNx : IS := fun ρ N => N.nx ρ
def iBk : IS := fun ρ N => N.bk ρ
def iCt : IS := fun ρ N => N.ct ρ
def iEx (w : IE) : IS := fun ρ N => w ρ (fun _ ρ1 => N.nx ρ1) N.ex
def iRt (w : IE) : IS := fun ρ N => w ρ N.rt N.ex
def iRtN : IS := fun ρ N => N.rt (.va (.fr .non)) ρ
def iIfS (c : IT) (a b : IS) : IS := fun ρ N => c ρ (fun k ρ1 => if k = true then a ρ1 N else b ρ1 N) N.ex
def whN (c : IT) (b : IS) (N : IEn) : Nat → En → Prop
  | 0, _ => False
  | n + 1, ρ => c ρ (fun k ρ1 => if k = true then b ρ1 { N with nx := whN c b N n, ct := whN c b N n, bk := N.nx } else N.nx ρ1) N.ex
def iWhile (c : IT) (b : IS) : IS := fun ρ N => ∃ n, whN c b N n ρ
section
variable {X : Cx} {K : PySem.W.Frag} {Z : Zt} {W : WX} {L : List Nat} {q qa qb qc : Bool} {w wa wb : IE} {ra : IA} {t : IT} {a b : IS} {e c e1 e2 : Expr} {st : Stmt} {rest : List Stmt} {pos : Pos}
theorem es_nil : PSs X [] (EvS K Z W L iNx) := pss_nil.weak fun D σ H ⟨Sh, ρ, N, R, h, l⟩ => l.nx _ _ _ _ h (MidS.refl R)
theorem es_one (h : PS X st (EvS K Z W L a)) : PSs X [st] (EvS K Z W L a) := pss_one h
theorem es_cons (h1 : PS X st (EvS K Z W L a)) (h2 : PSs X rest (EvS K Z W L b)) : PSs X (st :: rest) (EvS K Z W L (iSeq a b)) := by
  refine (pss_cons h1 h2).weak fun D σ H ⟨Sh, ρ, N, R, h, l⟩ => ?_
  exact ⟨Sh, ρ, _, R, h, ⟨fun ρ' σ' S' H' h m => ⟨S', ρ', N, m.rl, h, l.after m⟩, l.bk, l.ct, l.rt, l.ex⟩⟩
theorem es_pass : PS X (.Pass pos) (EvS K Z W L iNx) := ps_pass.weak fun D σ H ⟨Sh, ρ, N, R, h, l⟩ => l.nx _ _ _ _ h (MidS.refl R)
theorem es_break : PS X (.Break pos) (EvS K Z W L iBk) := ps_break.weak fun D σ H ⟨Sh, ρ, N, R, h, l⟩ => l.bk _ _ _ _ h (MidS.refl R)
theorem es_continue : PS X (.Continue pos) (EvS K Z W L iCt) := ps_continue.weak fun D σ H ⟨Sh, ρ, N, R, h, l⟩ => l.ct _ _ _ _ h (MidS.refl R)
theorem es_doc {x : Str} {j : Nat} {p p' : Pos} : PS X (.Expr (.Constant (.str x) j p) p') (EvS K Z W L iNx) := ps_doc.weak fun D σ H ⟨Sh, ρ, N, R, h, l⟩ => l.nx _ _ _ _ h (MidS.refl R)
theorem es_expr (he : PE X e (Ev K Z W q w)) (hs : swapsWith e none pos.line X.env = pure false := by rfl) : PS X (.Expr e pos) (EvS K Z W L (iEx w)) :=
  (ps_expr he hs).weak fun D σ H ⟨Sh, ρ, N, R, h, l⟩ => ⟨Sh, ρ, _, N.ex, R, h, fun u ρ' S' H' v h p => l.nx _ _ _ _ h p.mid.s, l.px⟩
theorem es_ret (he : PE X e (Ev K Z W q w)) : PS X (.Return (some e) pos) (EvS K Z W L (iRt w)) :=
  (ps_ret he).weak fun D σ H ⟨Sh, ρ, N, R, h, l⟩ => ⟨Sh, ρ, _, N.ex, R, h, fun u ρ' S' H' v h p => l.rt _ _ _ _ _ _ h p.s, l.px⟩
theorem es_retN : PS X (.Return none pos) (EvS K Z W L iRtN) :=
  ps_retN.weak fun D σ H ⟨Sh, ρ, N, R, h, l⟩ => l.rt _ _ _ _ _ _ h ((Mid.refl (q := true) R).fin (Res.fr R.sh .non)).s
theorem es_if {xs ys : List Stmt} (hc : PT X c (EvT K Z W q t)) (ha : PSs X xs (EvS K Z W L a)) (hb : PSs X ys (EvS K Z W L b)) : PS X (.If c xs ys pos) (EvS K Z W L (iIfS t a b)) := by
  refine (ps_if hc ha hb).weak fun D σ H ⟨Sh, ρ, N, R, h, l⟩ => ?_
  refine ⟨Sh, ρ, _, N.ex, R, h, fun k ρ1 S1 H1 h1 p1 => ?_, l.px⟩
  cases k with
  | true =>
    rw [if_pos rfl] at h1 ⊢
    exact ⟨S1, ρ1, N, p1.rl, h1, l.after p1.s⟩
  | false =>
    rw [if_neg (by simp)] at h1 ⊢
    exact ⟨S1, ρ1, N, p1.rl, h1, l.after p1.s⟩
theorem es_set {i : Nat} {x : Str} {pos' : Pos} (hN : X.N.Nodup) (hi : X.N[i]? = some x) (hx : Loc X.env.scope x) (hL : i ∉ L) (he : PE X e (Ev K Z W q w)) (hs : swapsWith e (some (.Name x pos')) pos.line X.env = pure false := by rfl) (hf : X.fn x = true ∨ X.env.scope.names.lookup x = some .local := by first | exact .inl rfl | exact .inr rfl | assumption) :
    PS X (.Assign [.Name x pos'] e pos) (EvS K Z W L (iSet i w)) := by
  refine (ps_set hN hi hx he hs hf).weak fun D σ H ⟨Sh, ρ, N, R, h, l⟩ => ?_
  refine ⟨Sh, ρ, _, N.ex, R, h, fun u ρ1 S1 H1 v h1 p1 => ?_, l.px⟩
  obtain ⟨ρ2, S2, k, m⟩ := p1.st hL h1
  exact l.nx _ _ _ _ k m
theorem es_while {body : List Stmt} (hp : PassesOwn (model X.prog X.w) X.A X.env X.xe) (hc : PT X c (EvT K Z W q t)) (hb : PSs X body (EvS K Z W L a)) : PS X (.While c body [] pos) (EvS K Z W L (iWhile t a)) := by
  refine (ps_while hp hc hb).weak fun D σ H ⟨Sh, ρ, N, R, ⟨n, h⟩, l⟩ => ?_
  refine ⟨fun m σ' H' => ∃ S' ρ', MidS K Z L Sh H σ ρ σ' ρ' S' H' ∧ whN t a N m ρ', ⟨n, Sh, ρ, MidS.refl R, h⟩, fun m σ1 H1 ⟨S1, ρ1, m1, h1⟩ => ?_⟩
  cases m with
  | zero => exact False.elim h1
  | succ m =>
    refine ⟨S1, ρ1, _, N.ex, m1.rl, h1, fun k ρ2 S2 H2 h2 p2 => ?_, (l.after m1).px⟩
    cases k with
    | false =>
      rw [if_neg (by simp)] at h2 ⊢
      exact (l.after m1).nx _ _ _ _ h2 p2.s
    | true =>
      rw [if_pos rfl] at h2 ⊢
      refine ⟨fun σ' H' => ∃ S' ρ', MidS K Z L Sh H σ ρ σ' ρ' S' H' ∧ whN t a N m ρ', fun σ' H' ⟨S', ρ', z⟩ => ⟨m, Nat.lt_succ_self _, S', ρ', z⟩, ?_⟩
      have m2 := m1.trans (L := L) p2.s
      have l2 := l.after m2
      exact ⟨S2, ρ2, _, p2.rl, h2, ⟨fun ρ' σ' S' H' h mm => ⟨S', ρ', m2.trans mm, h⟩, l2.nx, fun ρ' σ' S' H' h mm => ⟨S', ρ', m2.trans mm, h⟩, l2.rt, l2.ex⟩⟩
/-- a, b = x, y with plain names -/
def iPar (qb : Bool) (i j : Nat) (wa wb : IE) : IS := fun ρ N => wa ρ (fun a ρ1 => okp qb a ∧ wb ρ1 (fun b ρ2 => stU ρ2 i a fun ρ3 => stU ρ3 j b N.nx) N.ex) N.ex
end
end G48

set_option Elab.async false
set_option linter.all false
set_option maxRecDepth 100000
set_option maxHeartbeats 4000000
namespace G48
open PySem PySem.Spec PyProof.Rows L2 SX
/-! ### targets -/
abbrev ITg := D → En → (En → Prop) → Prop
abbrev ITs := List D → En → (En → Prop) → Prop
def EvG (K : PySem.W.Frag) (Z : Zt) (vs : List Nat) (g : ITg) : TG := fun v σ H Q => ∃ Sh ρ d Q0, Rl K Z Sh H σ ρ ∧ Fz K Sh v d ∧ g d ρ Q0 ∧
  ∀ ρ' σ', Q0 ρ' → Rl K Z Sh H σ' ρ' → (∀ b, FpE H σ' ρ' b → FpE H σ ρ b) → (∀ j, j ∉ vs → σ'[j]? = σ[j]?) → σ'.length = σ.length → Q σ' H
def EvGs (K : PySem.W.Frag) (Z : Zt) (vs : List Nat) (g : ITs) : TGs := fun xs σ H Q => ∃ Sh ρ ds Q0, Rl K Z Sh H σ ρ ∧ FzL K Sh xs ds ∧ g ds ρ Q0 ∧
  ∀ ρ' σ', Q0 ρ' → Rl K Z Sh H σ' ρ' → (∀ b, FpE H σ' ρ' b → FpE H σ ρ b) → (∀ j, j ∉ vs → σ'[j]? = σ[j]?) → σ'.length = σ.length → Q σ' H
theorem _root_.L2.PG.weak {X : Cx} {e : Expr} {t t' : TG} (h : PG X e t) (i : ∀ v σ H Q, t' v σ H Q → t v σ H Q) : PG X e t' := ⟨fun pins s σ H v u Q I r q => h.run pins s σ H v u Q I r (i v σ H Q q)⟩
theorem _root_.L2.PGs.weak {X : Cx} {e : List Expr} {t t' : TGs} (h : PGs X e t) (i : ∀ v σ H Q, t' v σ H Q → t v σ H Q) : PGs X e t' := ⟨fun pins s σ H v u Q I r q => h.run pins s σ H v u Q I r (i v σ H Q q)⟩
theorem _root_.L2.PI.weak {X : Cx} {tg e : Expr} {t t' : TI} (h : PI X tg e t) (i : ∀ σ H Q, t' σ H Q → t σ H Q) : PI X tg e t' := ⟨fun pins s σ H Q I q => h.run pins s σ H Q I (i σ H Q q)⟩
def gN (i : Nat) : ITg := fun d ρ Q => i < ρ.length ∧ Q (ρ.set i (some (.fr d)))
def tD : D → Option (List D)
  | .tup ds => some ds
  | _ => none
def gT (n : Nat) (g : ITs) : ITg := fun d ρ Q => ob (tD d) fun ds => ds.length = n ∧ g ds ρ Q
def gsN : ITs := fun ds ρ Q => ds = [] ∧ Q ρ
def gsC (g : ITg) (r : ITs) : ITs := fun ds ρ Q => match ds with
  | d :: ds => g d ρ fun ρ1 => r ds ρ1 Q
  | [] => False
section
variable {X : Cx} {K : PySem.W.Frag} {Z : Zt} {vs : List Nat} {g : ITg} {gs : ITs} {e : Expr} {es : List Expr} {pos : Pos}
theorem eg_name {i : Nat} {x : Str} (hN : X.N.Nodup) (hi : X.N[i]? = some x) (hx : Loc X.env.scope x) (hv : i ∈ vs) (hf : X.fn x = true ∨ X.env.scope.names.lookup x = some .local := by first | exact .inl rfl | exact .inr rfl | assumption) : PG X (.Name x pos) (EvG K Z vs (gN i)) := by
  refine (pg_name hN hi hx hf).weak fun v σ H Q ⟨Sh, ρ, d, Q0, R, f, ⟨hl, h⟩, hq⟩ => ?_
  obtain ⟨r1, r2⟩ := R.setv (i := i) (o := .fr d) (v := v) hl f (fun b hb => False.elim hb)
  exact hq _ _ h r1 (fun b hb => (r2 b hb).elim id (fun z => False.elim z)) (fun j hj => List.getElem?_set_ne (fun (e : i = j) => hj (by rw [← e]; exact hv))) (by rw [List.length_set])
theorem egs_nil : PGs X [] (EvGs K Z vs gsN) := pgs_nil.weak fun xs σ H Q ⟨Sh, ρ, ds, Q0, R, f, ⟨e, h⟩, hq⟩ => by
  subst e
  cases f
  exact ⟨rfl, hq _ _ h R (fun _ h => h) (fun _ _ => rfl) rfl⟩
theorem egs_cons (h1 : PG X e (EvG K Z vs g)) (h2 : PGs X es (EvGs K Z vs gs)) (hs : (assignEach (e :: es) X.env).map (·.2) = assign e X.env :: (assignEach es X.env).map (·.2) := by rfl) : PGs X (e :: es) (EvGs K Z vs (gsC g gs)) := by
  refine (pgs_cons h1 h2 hs).weak fun xs σ H Q ⟨Sh, ρ, ds, Q0, R, f, h, hq⟩ => ?_
  cases f with
  | nil => exact False.elim h
  | @cons v xs d ds f1 f2 =>
    refine ⟨v, xs, rfl, Sh, ρ, d, _, R, f1, h, fun ρ1 σ1 h1 R1 n1 p1 l1 => ?_⟩
    exact ⟨Sh, ρ1, ds, Q0, R1, f2, h1, fun ρ2 σ2 h2 R2 n2 p2 l2 => hq _ _ h2 R2 (fun b hb => n1 b (n2 b hb)) (fun j hj => (p2 j hj).trans (p1 j hj)) (l2.trans l1)⟩
theorem eg_tup {k n : Nat} (hK : X.K = K) (hc : X.calm = true) (h : PGs X es (EvGs K Z vs gs)) (hn : (assignEach es X.env).length = n := by rfl) (hst : (assignEach es X.env).findIdx? (·.1) = none := by rfl) : PG X (.Tuple es k pos) (EvG K Z vs (gT n gs)) := by
  subst hK
  refine (pg_tup hc h hn hst).weak fun v σ H Q ⟨Sh, ρ, d, Q0, R, f, hh, hq⟩ => ?_
  obtain ⟨ds, e, hl, h⟩ := ob_ex hh
  cases d with
  | tup ds' =>
    cases e
    cases f with
    | @tup a xs _ f1 f2 => exact ⟨a, xs, rfl, same_t R.sh f1, by rw [f2.len]; exact hl, Sh, ρ, ds, Q0, R, f2, h, hq⟩
  | _ => cases e
end
/-! ### what is walked -/
def Wk (K : PySem.W.Frag) (Sh : Hp) (J : It) (ds : List D) : Prop := ∃ G Y, Walk J ds.length G Y ∧ (∀ S1 H, Same Sh S1 → Same S1 H → G H) ∧
  ∀ (i : Nat) (S1 H : Hp) (x : V) (H' : Hp) (d : D), Same Sh S1 → Same S1 H → ds[i]? = some d → Y i H x H' → ∃ S', Res K S1 H (.fr d) x S' H'
def EvI (K : PySem.W.Frag) (Z : Zt) (W : WX) (q : Bool) (w : IA) : TI := fun σ H R => ∃ Sh ρ Q0 E0, Rl K Z Sh H σ ρ ∧ w ρ Q0 E0 ∧
  (∀ ds ρ' S' H' J, Q0 ds ρ' → Mid K Z q Sh H σ ρ ρ' S' H' → Wk K S' J ds → R J H') ∧ (∀ x ρ' S' H' cls d, E0 x ρ' → Px K Z Sh H σ ρ x ρ' S' H' cls d → W cls d σ H')
def itD : D → Option (List D)
  | .lst ds => some ds
  | .tup ds => some ds
  | .str l => some (l.map fun c => .str [c])
  | _ => none
/-- a sequence is walked: it is frozen -/
def iSq (w : IE) : IA := fun ρ Q E => w ρ (fun u ρ1 => fzU ρ1 u fun d ρ2 => ob (itD d) fun ds => Q ds ρ2) E
@[irreducible] def natD (n : Nat) : List D := (List.range n).map fun (i : Nat) => D.int (i : Int)
def iD : D → Option Int
  | .int i => some i
  | _ => none
def iRg1 (w : IE) : IA := fun ρ Q E => w ρ (fun u ρ1 => ob ((rdU ρ1 u).bind iD) fun j => -(2 ^ 62) ≤ j ∧ j < 2 ^ 62 ∧ Q (natD j.toNat) ρ1) E
def tSqI (K : PySem.W.Frag) (te : TE) : TI := fun σ H R => te σ H fun x H1 => (∃ a, x = .ref a ∧ (∃ xs, SqL K H1 a xs) ∧ R (Itl K a) H1) ∨ (∃ a, x = .ref a ∧ (∃ xs, SqT K H1 a xs) ∧ R (Itt K a) H1) ∨ ∃ z, x = .str z ∧ R (Its z) H1
theorem pi_sq {X : Cx} {tg l : Expr} {tl : TE} (hl : PE X l tl) : PI X tg l (tSqI X.K tl) := by
  refine ⟨fun pins s σ H R I h => ?_⟩
  refine thn (hl.run pins s σ H _ I h) fun v s1 ⟨x, H1, I1, r1, q1⟩ => ?_
  rcases q1 with ⟨a, e, ⟨xs, hq⟩, q⟩ | ⟨a, e, ⟨xs, hq⟩, q⟩ | ⟨z, ex, q⟩
  · subst e
    cases r1
    obtain ⟨its, rv, p, hz⟩ := I1.list hq
    refine wpAny_pyIter_list p.isList ?_
    refine ⟨s1.heap.objs.size, [s1.heap.objs.size], _, _, H1, rfl, I1.kept (t' := s1.toks) fun b o e => Heap.get?_push_of_some _ e, turn_list a _, ⟨_, Heap.get?_push_size _ rfl, rfl, rfl⟩, fun b hb => ?_, q⟩
    have e : b = s1.heap.objs.size := by simpa using hb
    subst e
    exact I1.fpOk (Nat.le_refl _) (I1.hok.fresh (Nat.le_refl _))
  · subst e
    cases r1
    obtain ⟨its, rv, p, hz⟩ := I1.tuple hq
    refine wpAny_pyIter_tuple (show s1.heap.IsTuple a its.toArray from p) ?_
    refine ⟨s1.heap.objs.size, [s1.heap.objs.size], _, _, H1, rfl, I1.kept (t' := s1.toks) fun b o e => Heap.get?_push_of_some _ e, turn_tuple a _, ⟨_, Heap.get?_push_size _ rfl, rfl, rfl⟩, fun b hb => ?_, q⟩
    have e : b = s1.heap.objs.size := by simpa using hb
    subst e
    exact I1.fpOk (Nat.le_refl _) (I1.hok.fresh (Nat.le_refl _))
  · subst ex
    obtain ⟨t, rfl⟩ := r1
    cases ha : z.cps.all (· < 128)
    · exact wpAny_pyIter_wide ha (pi_one (tk := s1.toks) I1 _ (turn_str _ z t "str_iterator" (.inr rfl)) ⟨_, Heap.get?_push_size _ rfl, rfl, rfl⟩ q)
    · exact wpAny_pyIter_ascii ha (pi_one (tk := s1.toks) I1 _ (turn_str _ z t "str_ascii_iterator" (.inl rfl)) ⟨_, Heap.get?_push_size _ rfl, rfl, rfl⟩ q)
section
variable {K : PySem.W.Frag} {Sh : Hp}
theorem wk_list {a : Addr} {xs : List V} {ds : List D} (h : Sh a = some (.lst xs)) (f : FzL K Sh xs ds) : Wk K Sh (Itl K a) ds := by
  have w := walk_list (K := K) (a := a) (xs := xs)
  rw [f.len] at w
  refine ⟨_, _, w, fun S1 H e1 e2 => SqL.of (e2 _ _ (e1 _ _ h)), fun i S1 H x H' d e1 e2 hd hy => ?_⟩
  obtain ⟨rfl, hx⟩ := hy
  obtain ⟨d', hd', f'⟩ := f.get hx
  rw [hd] at hd'
  cases hd'
  exact ⟨S1, Res.fr e2 (Fz.mono e1 _ _ f')⟩
theorem wk_tup {a : Addr} {xs : List V} {ds : List D} (h : SqT K Sh a xs) (f : FzL K Sh xs ds) : Wk K Sh (Itt K a) ds := by
  have w := walk_tup (K := K) (a := a) (xs := xs)
  rw [f.len] at w
  refine ⟨_, _, w, fun S1 H e1 e2 => same_t (e1.trans e2) h, fun i S1 H x H' d e1 e2 hd hy => ?_⟩
  obtain ⟨rfl, hx⟩ := hy
  obtain ⟨d', hd', f'⟩ := f.get hx
  rw [hd] at hd'
  cases hd'
  exact ⟨S1, Res.fr e2 (Fz.mono e1 _ _ f')⟩
theorem wk_str {l : List Nat} : Wk K Sh (Its (S l)) (l.map fun c => .str [c]) := by
  have w := walk_str (z := S l)
  have e0 : (S l).cps.size = (l.map fun c => D.str [c]).length := by simp
  rw [e0] at w
  refine ⟨_, _, w, fun _ _ _ _ => True.intro, fun i S1 H x H' d e1 e2 hd hy => ?_⟩
  obtain ⟨rfl, c, hc, rfl⟩ := hy
  rw [List.getElem?_map] at hd
  have hc' : l[i]? = some c := by simpa using hc
  rw [hc'] at hd
  cases hd
  exact ⟨S1, Res.fr e2 (.str [c])⟩
theorem natD_len (n : Nat) : (natD n).length = n := by simp [natD]
theorem natD_get {n i : Nat} {d : D} (h : (natD n)[i]? = some d) : i < n ∧ d = .int (i : Int) := by
  have hl := (List.getElem?_eq_some_iff.mp h).1
  rw [natD_len] at hl
  refine ⟨hl, ?_⟩
  unfold natD at h
  rw [List.getElem?_map, List.getElem?_range hl] at h
  cases h
  rfl
theorem wk_nat {n : Nat} : Wk K Sh (Itr 0 n) (natD n) := by
  have w := walk_r0 (n := n)
  rw [← natD_len n] at w
  rw [natD_len] at w
  refine ⟨_, _, by rw [natD_len]; exact w, fun _ _ _ _ => True.intro, fun i S1 H x H' d e1 e2 hd hy => ?_⟩
  obtain ⟨rfl, rfl⟩ := hy
  obtain ⟨_, rfl⟩ := natD_get hd
  exact ⟨S1, Res.fr e2 (.int _)⟩
end
section
variable {X : Cx} {K : PySem.W.Frag} {Z : Zt} {W : WX} {q : Bool} {w : IE} {e tg : Expr} {pos : Pos}
theorem ei_sq (hK : X.K = K) (he : PE X e (Ev K Z W q w)) : PI X tg e (EvI K Z W q (iSq w)) := by
  subst hK
  refine (pi_sq he).weak fun σ H R ⟨Sh, ρ, Q0, E0, Rr, h, hq, hx⟩ => ?_
  refine ⟨Sh, ρ, _, E0, Rr, h, fun u ρ1 S1 H1 v h1 p1 => ?_, hx⟩
  obtain ⟨d, ρ2, S2, h2, m, f⟩ := p1.fz h1
  obtain ⟨ds, ed, h3⟩ := ob_ex h2
  cases d with
  | lst ds' =>
    cases ed
    cases f with
    | @lst a xs _ f1 f2 => exact .inl ⟨a, rfl, ⟨xs, SqL.of (m.rl.sh _ _ f1)⟩, hq _ _ _ _ _ h3 m (wk_list f1 f2)⟩
  | tup ds' =>
    cases ed
    cases f with
    | @tup a xs _ f1 f2 => exact .inr (.inl ⟨a, rfl, ⟨xs, same_t m.rl.sh f1⟩, hq _ _ _ _ _ h3 m (wk_tup f1 f2)⟩)
  | str l =>
    cases ed
    cases f
    exact .inr (.inr ⟨_, rfl, hq _ _ _ _ _ h3 m wk_str⟩)
  | _ => cases ed
theorem ei_range1 {p : Pos} (hg : Gl X "range") (hm : X.mg "range" = none) (he : PE X e (Ev K Z W q w)) (hs : starEach [e] X.env = [(false, eval e X.env)] := by rfl) : PI X tg (.Call (.Name "range" p) [e] [] pos) (EvI K Z W q (iRg1 w)) := by
  refine (pi_range1 hg hm (pa_cons he pa_nil (by rw [hs]; rfl)) hs).weak fun σ H R ⟨Sh, ρ, Q0, E0, Rr, h, hq, hx⟩ => ?_
  refine ⟨Sh, ρ, _, E0, Rr, h, fun u ρ1 S1 H1 v h1 p1 => ?_, hx⟩
  obtain ⟨j, ej, h2, h3, h4⟩ := ob_ex h1
  cases hr : rdU ρ1 u with
  | none =>
    rw [hr] at ej
    cases ej
  | some d =>
    rw [hr] at ej
    cases d with
    | int j' =>
      cases ej
      have sv := p1.ev.sv p1.rl hr
      cases (show Fz K S1 v (.int j) from sv)
      exact ⟨j, rfl, h2, h3, hq _ _ _ _ _ h4 p1.mid wk_nat⟩
    | _ => cases ej
end
/-! ### for -/
def foGo (g : ITg) (b : IS) (N : IEn) : List D → En → Prop
  | [], ρ => N.nx ρ
  | d :: ds, ρ => g d ρ fun ρ1 => b ρ1 { N with nx := foGo g b N ds, ct := foGo g b N ds, bk := N.nx }
def iFor (src : IA) (g : ITg) (b : IS) : IS := fun ρ N => src ρ (fun ds ρ1 => foGo g b N ds ρ1) N.ex
section
variable {X : Cx} {K : PySem.W.Frag} {Z : Zt} {W : WX} {L vs : List Nat} {q : Bool} {src : IA} {g : ITg} {a : IS} {iter tg : Expr} {body : List Stmt} {pos : Pos}
theorem es_for (hp : PassesOwn (model X.prog X.w) X.A X.env X.xe) (hc : X.calm = true) (hL : ∀ j, j ∈ L → j ∉ vs) (hi : PI X tg iter (EvI K Z W q src)) (hg : PG X tg (EvG K Z vs g)) (hb : PSs X body (EvS K Z W L a)) (hs : ∀ x, foldedSetIterable iter X.env x = pure x := by intro _; rfl) :
    PS X (.For tg iter body [] pos) (EvS K Z W L (iFor src g a)) := by
  refine (ps_for hp hc hi hg hb hs).weak fun D σ H ⟨Sh, ρ, N, R, h, l⟩ => ?_
  refine ⟨Sh, ρ, _, N.ex, R, h, fun ds ρ1 S1 H1 J h1 m1 wk => ?_, l.px⟩
  obtain ⟨G, Y, wk, hG, hY⟩ := wk
  have m1s : MidS K Z L Sh H σ ρ σ ρ1 S1 H1 := m1.s
  refine for_it wk (fun i σ' H' => ∃ S' ρ', MidS K Z L S1 H1 σ ρ1 σ' ρ' S' H' ∧ foGo g a N (ds.drop i) ρ') ⟨S1, ρ1, MidS.refl m1.rl, h1⟩ (fun i σ' H' _ ⟨S', ρ', m, _⟩ => hG S' H' m.gx.ss m.rl.sh)
    (fun i x σ' H2 H2' hlt ⟨S2, ρ2, m2, h2⟩ hy => ?_) (fun σ' H' ⟨S', ρ', m, h2⟩ => ?_)
  · have hd : ds[i]? = some ds[i] := List.getElem?_eq_getElem hlt
    rw [List.drop_eq_getElem_cons hlt] at h2
    obtain ⟨S3, r⟩ := hY i S2 H2 x H2' ds[i] m2.gx.ss m2.rl.sh hd hy
    obtain ⟨r1, r2, r3, r4⟩ := m2.rl.res r
    have m3 : MidS K Z L S1 H1 σ ρ1 σ' ρ2 S3 H2' := m2.trans ⟨r1, r3.weak (fun _ h => h) (fun _ h => .inl h), fun _ _ => rfl, rfl⟩
    refine ⟨S3, ρ2, ds[i], _, r1, r.at_, h2, fun ρ4 σ4 h4 R4 n4 p4 l4 => ?_⟩
    have m4 : MidS K Z L S1 H1 σ ρ1 σ4 ρ4 S3 H2' := m3.trans ⟨R4, (Gx.refl fun _ h => h).weak (fun _ h => h) (fun b hb => n4 b hb), fun j hj => p4 j (hL j hj), l4⟩
    have l4 := l.after (m1s.trans m4)
    exact ⟨S3, ρ4, _, R4, h4, ⟨fun ρ' σ' S' H' h mm => ⟨S', ρ', m4.trans mm, h⟩, l4.nx, fun ρ' σ' S' H' h mm => ⟨S', ρ', m4.trans mm, h⟩, l4.rt, l4.ex⟩⟩
  · rw [List.drop_length] at h2
    exact (l.after m1s).nx _ _ _ _ h2 m
end
/-! ### comprehensions -/
def wipeI (ρ : En) : List Nat → En
  | [] => ρ
  | v :: vs => (wipeI ρ vs).set v none
def NoX : Xc → En → Prop := fun _ _ => False
def lcGo (vs : List Nat) (g : ITg) (tt : IT) (te : IE) (Q : U → En → Prop) : List D → List D → En → Prop
  | [], acc, ρ => Q (.va (.lst acc)) ρ
  | d :: ds, acc, ρ => g d ρ fun ρ1 => tt ρ1 (fun k ρ2 => if k = true then te ρ2 (fun u ρ3 => fzU ρ3 u fun y ρ4 => acc.length < LIM ∧ lcGo vs g tt te Q ds (acc ++ [y]) (wipeI ρ4 vs)) NoX else lcGo vs g tt te Q ds acc (wipeI ρ2 vs)) NoX
def iLc (vs : List Nat) (src : IA) (g : ITg) (tt : IT) (te : IE) : IE := fun ρ Q E => src ρ (fun ds ρ1 => lcGo vs g tt te Q ds [] (wipeI ρ1 vs)) E
def jYes : IT := fun ρ Q _ => Q true ρ
section
variable {K : PySem.W.Frag} {Z : Zt} {Sh H : Hp} {σ σ' : L2.St} {ρ : En} {vs : List Nat}
theorem wipeI_len (ρ : En) : ∀ vs : List Nat, (wipeI ρ vs).length = ρ.length
  | [] => rfl
  | v :: vs => by unfold wipeI; rw [List.length_set, wipeI_len ρ vs]
theorem wipeI_some {i : Nat} {o : O} : ∀ {vs : List Nat}, (wipeI ρ vs)[i]? = some (some o) → ρ[i]? = some (some o) ∧ i ∉ vs
  | [], h => ⟨h, by simp⟩
  | v :: vs, h => by
    unfold wipeI at h
    by_cases hi : v = i
    · subst hi
      by_cases hv : v < (wipeI ρ vs).length
      · rw [List.getElem?_set_self hv] at h; cases h
      · rw [List.getElem?_eq_none (by simpa using hv)] at h; cases h
    · rw [List.getElem?_set_ne hi] at h
      obtain ⟨h1, h2⟩ := wipeI_some h
      exact ⟨h1, by simp only [List.mem_cons, not_or]; exact ⟨fun e => hi e.symm, h2⟩⟩
/-- the slots of vs do not matter -/
theorem Rl.wipeI (R : Rl K Z Sh H σ ρ) (hl : σ'.length = σ.length) (h : ∀ j, j ∉ vs → σ'[j]? = σ[j]?) : Rl K Z Sh H σ' (wipeI ρ vs) ∧ ∀ b, FpE H σ' (G48.wipeI ρ vs) b → FpE H σ ρ b := by
  refine ⟨⟨R.sh, by rw [wipeI_len, R.len, hl], fun i o hi => ?_, fun i j o u v w b n h1 h2 h3 h4 h5 h6 => ?_, R.zk⟩, fun b ⟨i, o, v, h1, h2, h3⟩ => ?_⟩
  · obtain ⟨g1, g2⟩ := wipeI_some hi
    obtain ⟨v, hv, a⟩ := R.ats i o g1
    exact ⟨v, (h i g2).trans hv, a⟩
  · obtain ⟨g1, g2⟩ := wipeI_some h1
    obtain ⟨k1, k2⟩ := wipeI_some h2
    rw [h i g2] at h3
    rw [h j k2] at h4
    exact R.dj i j o u v w b n g1 k1 h3 h4 h5 h6
  · obtain ⟨g1, g2⟩ := wipeI_some h1
    rw [h i g2] at h2
    exact ⟨i, o, v, g1, h2, h3⟩
theorem wipe_out (σ : L2.St) : ∀ (vs : List Nat) (j : Nat), j ∉ vs → (wipe σ vs)[j]? = σ[j]?
  | [], j, _ => rfl
  | v :: vs, j, h => by
    have h1 : v ≠ j := fun e => h (by rw [e]; exact List.mem_cons_self)
    unfold wipe
    rw [List.getElem?_set_ne h1]
    exact wipe_out σ vs j (fun z => h (List.mem_cons_of_mem _ z))
theorem wipe_in (σ : L2.St) : ∀ (vs : List Nat) (j : Nat), j ∈ vs → j < σ.length → (wipe σ vs)[j]? = some none
  | [], j, h, _ => by cases h
  | v :: vs, j, h, hl => by
    unfold wipe
    by_cases e : v = j
    · subst e
      rw [List.getElem?_set_self (by rw [wipe_length]; exact hl)]
    · rw [List.getElem?_set_ne e]
      exact wipe_in σ vs j ((List.mem_cons.mp h).elim (fun z => absurd z.symm e) id) hl
theorem wipe_eq {σ σ' : L2.St} (hl : σ'.length = σ.length) (h : ∀ j, j ∉ vs → σ'[j]? = σ[j]?) : wipe σ' vs = wipe σ vs := by
  refine List.ext_getElem? fun j => ?_
  by_cases hj : j ∈ vs
  · by_cases hb : j < σ.length
    · rw [wipe_in σ vs j hj hb, wipe_in σ' vs j hj (by omega)]
    · rw [List.getElem?_eq_none (by rw [wipe_length]; omega), List.getElem?_eq_none (by rw [wipe_length]; omega)]
  · rw [wipe_out _ _ _ hj, wipe_out _ _ _ hj, h j hj]
end
def W0 : WX := fun _ _ _ _ => False
section
variable {X : Cx} {K : PySem.W.Frag} {Z : Zt} {W : WX} {q qt qe : Bool} {src : IA} {g : ITg} {tt : IT} {te : IE} {vs : List Nat}
theorem lc_coreI {Sh H S1 H1 : Hp} {σ : L2.St} {ρ ρ1 : En} {J : It} {ds : List D} {Q : VK} {Q0 : U → En → Prop} (m1 : Mid K Z q Sh H σ ρ ρ1 S1 H1) (wk : Wk K S1 J ds) (h1 : lcGo vs g tt te Q0 ds [] (wipeI ρ1 vs)) (hq : ∀ u ρ' S' H' v, Q0 u ρ' → Ps K Z (q && qt && qe) Sh H σ ρ u ρ' S' H' v → Q v H') :
    ∀ D, H1 D = none → ∃ W : Nat → Nat → Hp → Prop, (∃ m, W 0 m (upd H1 D (.lst []))) ∧ ∀ i m H, W i m H →
  (J.stop i H ∧ Q (.ref D) H) ∨ (J.go i H ∧ ∃ Nx : Hp → Prop, (∀ H', Nx H' → ∃ m', m' < m ∧ W (i + 1) m' H') ∧ ∀ x H', J.yld i H x H' → EvG K Z vs g x (wipe σ vs) H' fun σ2 H2 => wipe σ2 vs = wipe σ vs ∧ EvT K Z W0 qt tt σ2 H2 fun b H3 =>
    if b = true then Ev K Z W0 qe te σ2 H3 fun y H4 => ∃ acc, H4 D = some (.lst acc) ∧ acc.length < sizeLine ∧ Nx (upd H4 D (.lst (acc ++ [y]))) else Nx H3) := by
  intro Dd hD
  obtain ⟨G, Y, wk, hG, hY⟩ := wk
  have sD : S1 Dd = none := m1.rl.sh.free hD
  have wo : ∀ j, j ∉ vs → (wipe σ vs)[j]? = σ[j]? := fun j hj => wipe_out σ vs j hj
  have nD : ¬ FpE H1 σ ρ1 Dd := fun z => (m1.rl.tr z).2 hD
  obtain ⟨R1, n1⟩ := m1.rl.wipeI (σ' := σ) (vs := vs) rfl (fun _ _ => rfl)
  -- what is known between two turns
  refine lc_it wk (fun i H' => ∃ S' ρ' acc xs, Rl K Z S' H' σ (wipeI ρ' vs) ∧ Gx Z S1 H1 (FpE H1 σ ρ1) S' H' (fun a => FpE H' σ (wipeI ρ' vs) a ∨ a = Dd) ∧ ((qt && qe) = true → Same H1 H') ∧ H' Dd = some (.lst xs) ∧ S' Dd = none ∧ ¬ FpE H' σ (wipeI ρ' vs) Dd ∧ FzL K S' xs acc ∧ lcGo vs g tt te Q0 (ds.drop i) acc (wipeI ρ' vs))
    ?_ (fun i H' _ ⟨S', ρ', acc, xs, r, gx, _⟩ => hG S' H' gx.ss r.sh) (fun i x H2 H2' hlt ⟨S2, ρ2, acc, xs, R2, g2, s2, hD2, sD2, nD2, f2, h2⟩ hy => ?_) (fun H' ⟨S', ρ', acc, xs, R', g', s', hD', sD', nD', f', h'⟩ => ?_)
  · have ke : ∀ b, FpE H1 σ (wipeI ρ1 vs) b → upd H1 Dd (.lst []) b = H1 b := fun b hb => upd_ne (fun e => nD (by rw [← e]; exact n1 b hb))
    have fe := R1.fpe (H' := upd H1 Dd (.lst [])) ke
    refine ⟨S1, ρ1, [], [], R1.keep (Same.refl _) (mut_same m1.rl.sh sD) (fun b hb => ⟨ke b hb, (R1.tr hb).1⟩) (R1.zk.same (same_new hD) (fun _ _ h => h)), ⟨Same.refl _, fun a u e _ _ => same_new hD a u e, fun a s _ _ => s, fun a ha => ?_, fun a ha => ?_⟩, fun _ => same_new hD, upd_same, sD, fun z => nD (n1 _ ((fe _).mp z)), .nil, h1⟩
    · rcases ha with ha | ha
      · exact .inl (n1 a ((fe a).mp ha))
      · rw [ha]
        exact .inr hD
    · rw [upd_ne (ne_nn ha hD)]
      exact ha
  · have hd : ds[i]? = some ds[i] := List.getElem?_eq_getElem hlt
    rw [List.drop_eq_getElem_cons hlt] at h2
    obtain ⟨S3, r⟩ := hY i S2 H2 x H2' ds[i] g2.ss R2.sh hd hy
    obtain ⟨r1, r2, r3, r4⟩ := R2.res r
    -- over the wiped slots
    have ρe : wipeI (wipeI ρ2 vs) vs = wipeI ρ2 vs := by
      refine List.ext_getElem? fun j => ?_
      by_cases hj : j < ρ2.length
      · cases e : (wipeI (wipeI ρ2 vs) vs)[j]? with
        | none =>
          rw [List.getElem?_eq_none_iff] at e
          rw [wipeI_len, wipeI_len] at e
          omega
        | some oo =>
          cases oo with
          | some o => exact (wipeI_some e).1.symm
          | none =>
            cases e2 : (wipeI ρ2 vs)[j]? with
            | none =>
              rw [List.getElem?_eq_none_iff, wipeI_len] at e2
              omega
            | some oo =>
              cases oo with
              | none => rfl
              | some o =>
                have z := (wipeI_some e2).2
                have : ∀ (vs : List Nat) (ρ : En), j ∉ vs → (wipeI ρ vs)[j]? = ρ[j]? := by
                  intro vs
                  induction vs with
                  | nil => intro ρ _; rfl
                  | cons v vs ih =>
                    intro ρ hn
                    have h1 : v ≠ j := fun e => hn (by rw [e]; exact List.mem_cons_self)
                    unfold wipeI
                    rw [List.getElem?_set_ne h1]
                    exact ih ρ (fun z => hn (List.mem_cons_of_mem _ z))
                rw [this vs _ z, e2] at e
                cases e
      · rw [List.getElem?_eq_none (by rw [wipeI_len, wipeI_len]; omega), List.getElem?_eq_none (by rw [wipeI_len]; omega)]
    have rw1 : Rl K Z S3 H2' (wipe σ vs) (wipeI ρ2 vs) ∧ ∀ b, FpE H2' (wipe σ vs) (wipeI ρ2 vs) b → FpE H2' σ (wipeI ρ2 vs) b := by
      have z := r1.wipeI (σ' := wipe σ vs) (vs := vs) (wipe_length σ vs) wo
      rw [ρe] at z
      exact z
    have hD3 : H2' Dd = some (.lst xs) := r.hs _ _ hD2
    have sD3 : S3 Dd = none := r.nw _ (some_ne hD2) sD2
    have nD3 : ¬ FpE H2' σ (wipeI ρ2 vs) Dd := fun z => nD2 ((r2 Dd).mp z)
    have g3 : Gx Z S1 H1 (FpE H1 σ ρ1) S3 H2' (fun a => FpE H2' σ (wipeI ρ2 vs) a ∨ a = Dd) := g2.trans ((r3.weak (fun _ h => h) (fun _ h => .inl h)).aside (fun a => a = Dd))
    refine ⟨S3, wipeI ρ2 vs, ds[i], _, rw1.1, r.at_, h2, fun ρ4 σ4 h4 R4 n4 p4 l4 => ⟨?_, ?_⟩⟩
    · have e1 : wipe σ4 vs = wipe (wipe σ vs) vs := wipe_eq l4 p4
      have e2 : wipe (wipe σ vs) vs = wipe σ vs := wipe_eq (wipe_length σ vs) wo
      rw [e1, e2]
    · have l4' : σ.length = σ4.length := by rw [l4, wipe_length]
      have p4' : ∀ j, j ∉ vs → σ[j]? = σ4[j]? := fun j hj => ((p4 j hj).trans (wo j hj)).symm
      have g4 : Gx Z S1 H1 (FpE H1 σ ρ1) S3 H2' (fun a => FpE H2' σ4 ρ4 a ∨ a = Dd) := g3.weak (fun _ h => h) (fun a ha => ha.imp (fun z => rw1.2 a (n4 a z)) id)
      have nD4 : ¬ FpE H2' σ4 ρ4 Dd := fun z => nD3 (rw1.2 _ (n4 _ z))
      -- behind a piece of the turn: the list is as it was
      have stay : ∀ {q' : Bool} {S5 H5 : Hp} {ρ5 : En}, Mid K Z q' S3 H2' σ4 ρ4 ρ5 S5 H5 → H5 Dd = some (.lst xs) ∧ S5 Dd = none ∧ ¬ FpE H5 σ4 ρ5 Dd ∧ Gx Z S1 H1 (FpE H1 σ ρ1) S5 H5 (fun a => FpE H5 σ4 ρ5 a ∨ a = Dd) := fun {q' S5 H5 ρ5} m => by
        refine ⟨m.gx.kp _ _ hD3 nD4 (fun ⟨qq, z⟩ => ?_), m.gx.nw _ sD3 (some_ne hD3) nD4, fun z => ?_, g4.trans (m.gx.aside (fun a => a = Dd))⟩
        · obtain ⟨_, ps, hp, _⟩ := R4.zk Dd qq z
          rw [hD3] at hp
          cases hp
        · rcases m.gx.ft _ z with y | y
          · exact nD4 y
          · rw [hD3] at y
            cases y
      -- the turn's end
      have fin : ∀ {S5 H5 : Hp} {ρ5 : En} {acc5 : List D} {xs5 : List V}, Rl K Z S5 H5 σ4 ρ5 → Gx Z S1 H1 (FpE H1 σ ρ1) S5 H5 (fun a => FpE H5 σ4 ρ5 a ∨ a = Dd) → ((qt && qe) = true → Same H1 H5) → H5 Dd = some (.lst xs5) → S5 Dd = none → ¬ FpE H5 σ4 ρ5 Dd → FzL K S5 xs5 acc5 → lcGo vs g tt te Q0 (ds.drop (i + 1)) acc5 (wipeI ρ5 vs) →
          ∃ S' ρ' acc xs, Rl K Z S' H5 σ (wipeI ρ' vs) ∧ Gx Z S1 H1 (FpE H1 σ ρ1) S' H5 (fun a => FpE H5 σ (wipeI ρ' vs) a ∨ a = Dd) ∧ ((qt && qe) = true → Same H1 H5) ∧ H5 Dd = some (.lst xs) ∧ S' Dd = none ∧ ¬ FpE H5 σ (wipeI ρ' vs) Dd ∧ FzL K S' xs acc ∧ lcGo vs g tt te Q0 (ds.drop (i + 1)) acc (wipeI ρ' vs) := fun {S5 H5 ρ5 acc5 xs5} R5 g5 s5 hD5 sD5 nD5 f5 h5 => by
        obtain ⟨R6, n6⟩ := R5.wipeI (σ' := σ) (vs := vs) l4' p4'
        exact ⟨S5, ρ5, acc5, xs5, R6, g5.weak (fun _ h => h) (fun a ha => ha.imp (n6 a) id), s5, hD5, sD5, fun z => nD5 (n6 _ z), f5, h5⟩
      have s4 : (qt && qe) = true → Same H1 H2' := fun e => (s2 e).trans r.hs
      refine ⟨S3, ρ4, _, NoX, R4, h4, fun k ρ5 S5 H5 h5 m5 => ?_, fun x ρ' S' H' cls d e _ => False.elim e⟩
      obtain ⟨d5, t5, n5, g5⟩ := stay m5
      cases k with
      | false =>
        rw [if_neg (by simp)] at h5 ⊢
        exact fin m5.rl g5 (fun e => (s4 e).trans (m5.md (Bool.and_eq_true_iff.mp e).1)) d5 t5 n5 (FzL.mono (r.ss.trans m5.gx.ss) _ _ f2) h5
      | true =>
        rw [if_pos rfl] at h5 ⊢
        refine ⟨S5, ρ5, _, NoX, m5.rl, h5, fun u ρ6 S6 H6 v6 h6 p6 => ?_, fun x ρ' S' H' cls d e _ => False.elim e⟩
        obtain ⟨y, ρ7, S7, ⟨hlim, h7⟩, m7, f7⟩ := p6.fz h6
        have m57 := m5.trans m7
        obtain ⟨d7, t7, n7, g7⟩ := stay m57
        have hlen : xs.length = acc.length := f2.len
        refine ⟨xs, d7, by rw [hlen]; exact szl _ (Nat.le_of_lt hlim), ?_⟩
        have ke : ∀ b, FpE H6 σ4 ρ7 b → upd H6 Dd (.lst (xs ++ [v6])) b = H6 b := fun b hb => upd_ne (fun e => n7 (by rw [← e]; exact hb))
        have fe := m7.rl.fpe (H' := upd H6 Dd (.lst (xs ++ [v6]))) ke
        have zz : Zok Z S7 (upd H6 Dd (.lst (xs ++ [v6]))) := fun P qq e => by
          obtain ⟨z1, z2⟩ := m7.rl.zk P qq e
          refine ⟨z1, TabS_ext z2 (fun b o hb ho => ?_)⟩
          rw [upd_ne]
          · exact ho
          · intro eb
            rw [eb] at hb
            rcases hb with hb | hb
            · rw [hb] at d7
              obtain ⟨ps, hp, _⟩ := z2
              rw [d7] at hp
              cases hp
            · rw [d7] at hb
              cases hb
        refine fin (m7.rl.keep (Same.refl _) (mut_same m7.rl.sh t7) (fun b hb => ⟨ke b hb, (m7.rl.tr hb).1⟩) zz) ⟨g7.ss, fun a u e nf nz => ?_, g7.nw, fun a ha => ?_, fun a ha => ?_⟩ (fun e a u hu => ?_) upd_same t7 (fun z => n7 ((fe _).mp z)) ((FzL.mono ((r.ss.trans m5.gx.ss).trans m7.gx.ss) _ _ f2).app (.cons f7 .nil)) h7
        · rw [upd_ne (ne_of_none e hD)]
          exact g7.kp a u e nf nz
        · exact g7.ft a (ha.imp (fun z => (fe a).mp z) id)
        · rw [upd_ne (ne_nn ha hD)]
          exact g7.tr a ha
        · rw [upd_ne (ne_of_none hu hD)]
          exact (((s4 e).trans (m5.md (Bool.and_eq_true_iff.mp e).1)).trans (m7.md (Bool.and_eq_true_iff.mp e).2)) a u hu
  · rw [List.drop_length] at h'
    refine hq _ _ _ _ _ h' ⟨R', m1.gx.trans g' |>.weak (fun _ h => h) (fun a ha => ha.imp id (fun (z : V.ref Dd = V.ref a) => by cases z; rfl)), ⟨⟨Dd, xs, rfl, hD', sD', f'⟩, fun b (z : V.ref Dd = V.ref b) => by cases z; exact nD'⟩, fun e => ?_⟩
    simp only [Bool.and_eq_true] at e
    exact (m1.md e.1.1).trans (s' (by rw [e.1.2, e.2]; rfl))
theorem lc_ev {σ : L2.St} {H : Hp} {Q : VK} (h : Ev K Z W (q && qt && qe) (iLc vs src g tt te) σ H Q) : tLc (EvI K Z W q src) (EvG K Z vs g) (EvT K Z W0 qt tt) (Ev K Z W0 qe te) vs σ H Q := by
  obtain ⟨Sh, ρ, Q0, E0, R, h, hq, hx⟩ := h
  exact ⟨Sh, ρ, _, E0, R, h, fun ds ρ1 S1 H1 J h1 m1 wk => lc_coreI m1 wk h1 hq, hx⟩
theorem et_yes : PTs X [] (EvT K Z W0 true jYes) := ⟨fun pins s σ H Q I ⟨Sh, ρ, Q0, E0, R, h, hq, _⟩ => (pts_nil (X := X)).run pins s σ H Q I (hq _ _ _ _ h (Mid.refl R))⟩
theorem et_one {c : Expr} {t : IT} (h : PT X c (EvT K Z W0 q t)) : PTs X [c] (EvT K Z W0 q t) := pts_one h
theorem ev_lc {elt tg iter : Expr} {ifs : List Expr} {scope : Scope} {own : List (Str × Nat)} {pos : Pos} (hvs : own.map (·.2) = vs) (hc : X.calm = true) (hN : X.N.Nodup) (hi : PI X tg iter (EvI K Z W q src)) (ok : BlkOk X.N X.env.scope scope own)
    (hg : ∀ (s : Shared) (H : Hp) (C : Addr) (cl : List (Str × Addr)) (fp : List Addr), PG (X.blk s H scope (compEnvC scope cl C X.env) fp) tg (EvG K Z vs g)) (ht : ∀ (s : Shared) (H : Hp) (C : Addr) (cl : List (Str × Addr)) (fp : List Addr), PTs (X.blk s H scope (compEnvC scope cl C X.env) fp) ifs (EvT K Z W0 qt tt))
    (he : ∀ (s : Shared) (H : Hp) (C : Addr) (cl : List (Str × Addr)) (fp : List Addr), PE (X.blk s H scope (compEnvC scope cl C X.env) fp) elt (Ev K Z W0 qe te)) (hs : ∀ x, foldedSetIterable iter X.env x = pure x := by intro _; rfl) :
    PE X (.ListComp elt [⟨tg, iter, ifs, 0⟩] scope pos) (Ev K Z W (q && qt && qe) (iLc vs src g tt te)) := by
  subst hvs
  exact (pe_lc hc hN hi ok hg ht he hs).weak fun σ H Q h => lc_ev h
theorem es_setLc {L : List Nat} {i : Nat} {y : Str} {py : Pos} {elt tg iter : Expr} {ifs : List Expr} {scope : Scope} {own : List (Str × Nat)} {pos spos : Pos} (hvs : own.map (·.2) = vs) (hL : i ∉ L) (hc : X.calm = true) (hN : X.N.Nodup) (hy : X.N[i]? = some y) (hyl : X.env.scope.names.lookup y = some .local)
    (hsw : swapsWith (.ListComp elt [⟨tg, iter, ifs, 0⟩] scope pos) (some (.Name y py)) spos.line X.env = pure true) (hi : PI X tg iter (EvI K Z W q src)) (ok : BlkOk X.N X.env.scope scope own)
    (hg : ∀ (s : Shared) (H : Hp) (C : Addr) (cl : List (Str × Addr)) (fp : List Addr), PG (X.blk s H scope (compEnvC scope cl C X.env) fp) tg (EvG K Z vs g)) (ht : ∀ (s : Shared) (H : Hp) (C : Addr) (cl : List (Str × Addr)) (fp : List Addr), PTs (X.blk s H scope (compEnvC scope cl C X.env) fp) ifs (EvT K Z W0 qt tt))
    (he : ∀ (s : Shared) (H : Hp) (C : Addr) (cl : List (Str × Addr)) (fp : List Addr), PE (X.blk s H scope (compEnvC scope cl C X.env) fp) elt (Ev K Z W0 qe te)) (hs : ∀ x, foldedSetIterable iter X.env x = pure x := by intro _; rfl) :
    PS X (.Assign [.Name y py] (.ListComp elt [⟨tg, iter, ifs, 0⟩] scope pos) spos) (EvS K Z W L (iSet i (iLc vs src g tt te))) := by
  subst hvs
  refine (ps_setLc hc hN hy hyl hsw hi ok hg ht he hs).weak fun D σ H ⟨Sh, ρ, N, R, h, l⟩ => ?_
  refine lc_ev ⟨Sh, ρ, _, N.ex, R, h, fun u ρ1 S1 H1 v h1 p1 => ?_, l.px⟩
  obtain ⟨ρ2, S2, k, m⟩ := p1.st hL h1
  exact l.nx _ _ _ _ k m
end
end G48

set_option Elab.async false
set_option linter.all false
set_option maxRecDepth 100000
set_option maxHeartbeats 4000000
namespace G48
open PySem PySem.Spec PyProof.Rows L2 SX
/-! ### calls of defs: frozen arguments, variables that are lent -/
inductive Ag where
  | d (d : D) | sl (i : Nat)
abbrev IM := En → (List Ag → En → Prop) → (Xc → En → Prop) → Prop
abbrev ISp := List O → (O → List O → Prop) → (Xc → List O → Prop) → Prop
def AgAt (K : PySem.W.Frag) (Sh : Hp) (σ : L2.St) : Ag → V → Prop
  | .d d, v => Fz K Sh v d
  | .sl i, v => σ[i]? = some (some v)
inductive AgL (K : PySem.W.Frag) (Sh : Hp) (σ : L2.St) : List Ag → List V → Prop
  | nil : AgL K Sh σ [] []
  | cons {a : Ag} {v : V} {as : List Ag} {vs : List V} : AgAt K Sh σ a v → AgL K Sh σ as vs → AgL K Sh σ (a :: as) (v :: vs)
def EvM (K : PySem.W.Frag) (Z : Zt) (W : WX) (q : Bool) (w : IM) : TA := fun σ H Q => ∃ Sh ρ Q0 E0, Rl K Z Sh H σ ρ ∧ w ρ Q0 E0 ∧
  (∀ as ρ' S' H' vs, Q0 as ρ' → Mid K Z q Sh H σ ρ ρ' S' H' → AgL K S' σ as vs → Q vs H') ∧ (∀ x ρ' S' H' cls d, E0 x ρ' → Px K Z Sh H σ ρ x ρ' S' H' cls d → W cls d σ H')
def mNil : IM := fun ρ Q _ => Q [] ρ
def mD (w : IE) (r : IM) : IM := fun ρ Q E => w ρ (fun u ρ1 => fzU ρ1 u fun d ρ2 => r ρ2 (fun as ρ3 => Q (.d d :: as) ρ3) E) E
def mPs (i : Nat) (r : IM) : IM := fun ρ Q E => (ρ[i]?.join).isSome = true ∧ r ρ (fun as ρ3 => Q (.sl i :: as) ρ3) E
def agO (ρ : En) : List Ag → Option (List O)
  | [] => some []
  | .d d :: as => (agO ρ as).map fun os => .fr d :: os
  | .sl i :: as => (ρ[i]?.join).bind fun o => (agO ρ as).map fun os => o :: os
def agB (ρ : En) : List Ag → List O → En
  | .d _ :: as, _ :: os => agB ρ as os
  | .sl i :: as, o :: os => (agB ρ as os).set i (some o)
  | _, _ => ρ
def agS : List Ag → List Nat
  | [] => []
  | .d _ :: as => agS as
  | .sl i :: as => i :: agS as
def frOk (L : List Nat) : Nat → List O → Bool
  | _, [] => true
  | j, o :: os => (L.contains j || isFr o) && frOk L (j + 1) os
/-- what a def promises, by ideal values -/
def spI (K : PySem.W.Frag) (n : Nat) (L : List Nat) (isp : ISp) : Sp := fun vs H Q E => ∃ Sh os Q0 E0, Rl K none Sh H (vs.map some) (os.map some) ∧ os.length = n ∧ frOk L 0 os = true ∧ isp os Q0 E0 ∧
  (∀ o os' S' H' v, Q0 o os' → Rl K none S' H' ((v :: vs).map some) ((o :: os').map some) → Gx none Sh H (FpE H (vs.map some) (os.map some)) S' H' (FpE H' ((v :: vs).map some) ((o :: os').map some)) → Q v H') ∧
  (∀ x os' S' H' cls d, E0 x os' → Rl K none S' H' (vs.map some) (os'.map some) → Gx none Sh H (FpE H (vs.map some) (os.map some)) S' H' (FpE H' (vs.map some) (os'.map some)) → XAt K S' x cls d → E cls d H')
def iCall (n : Nat) (L : List Nat) (isp : ISp) (args : IM) : IE := fun ρ Q E => args ρ (fun as ρ1 => ob (agO ρ1 as) fun os => os.length = n ∧ frOk L 0 os = true ∧ (agS as).Nodup ∧ isp os (fun o os' => Q (.va o) (agB ρ1 as os')) (fun x os' => E x (agB ρ1 as os'))) E
section
variable {K : PySem.W.Frag} {Z : Zt} {Sh H S' H' : Hp} {σ : L2.St} {ρ : En} {as : List Ag} {vs : List V} {os os' : List O} {o : O} {v : V}
theorem AgL.mono (e : Same Sh S') (h : AgL K Sh σ as vs) : AgL K S' σ as vs := by
  induction h with
  | nil => exact .nil
  | @cons a v as vs h1 _ ih =>
    refine .cons ?_ ih
    cases a with
    | d d => exact Fz.mono e _ _ h1
    | sl i => exact h1
theorem AgL.len (h : AgL K Sh σ as vs) : vs.length = as.length := by
  induction h with
  | nil => rfl
  | cons _ _ ih => rw [List.length_cons, List.length_cons, ih]
theorem AgL.get {j : Nat} {a : Ag} (h : AgL K Sh σ as vs) (e : as[j]? = some a) : ∃ v, vs[j]? = some v ∧ AgAt K Sh σ a v := by
  induction h generalizing j with
  | nil => simp at e
  | @cons a' v' as vs h1 _ ih =>
    cases j with
    | zero =>
      cases (show some a' = some a from e)
      exact ⟨v', rfl, h1⟩
    | succ j => exact ih (j := j) e
theorem agO_get {ρ : En} : ∀ {as : List Ag} {os : List O} {j : Nat} {o : O}, agO ρ as = some os → os[j]? = some o → ∃ a, as[j]? = some a ∧ match a with
    | .d d => o = .fr d
    | .sl i => ρ[i]? = some (some o)
  | [], os, j, o, h, e => by
    cases h
    simp at e
  | .d d :: as, os, j, o, h, e => by
    unfold agO at h
    cases q : agO ρ as with
    | none =>
      rw [q] at h
      cases h
    | some os' =>
      rw [q] at h
      cases h
      cases j with
      | zero =>
        cases (show some (O.fr d) = some o from e)
        exact ⟨_, rfl, rfl⟩
      | succ j => exact agO_get (j := j) q e
  | .sl i :: as, os, j, o, h, e => by
    unfold agO at h
    cases qi : ρ[i]?.join with
    | none =>
      rw [qi] at h
      cases h
    | some o0 =>
      rw [qi] at h
      cases q : agO ρ as with
      | none =>
        rw [q] at h
        cases h
      | some os' =>
        rw [q] at h
        cases h
        cases j with
        | zero =>
          cases (show some o0 = some o from e)
          refine ⟨_, rfl, ?_⟩
          cases qq : ρ[i]? with
          | none =>
            rw [qq] at qi
            cases qi
          | some oo =>
            rw [qq] at qi
            cases oo with
            | none => cases qi
            | some o1 =>
              cases qi
              exact qq
        | succ j => exact agO_get (j := j) q e
theorem agO_len {ρ : En} : ∀ {as : List Ag} {os : List O}, agO ρ as = some os → os.length = as.length
  | [], os, h => by cases h; rfl
  | .d d :: as, os, h => by
    unfold agO at h
    cases q : agO ρ as with
    | none =>
      rw [q] at h
      cases h
    | some os' =>
      rw [q] at h
      cases h
      exact congrArg (· + 1) (agO_len q)
  | .sl i :: as, os, h => by
    unfold agO at h
    cases qi : ρ[i]?.join with
    | none =>
      rw [qi] at h
      cases h
    | some o0 =>
      rw [qi] at h
      cases q : agO ρ as with
      | none =>
        rw [q] at h
        cases h
      | some os' =>
        rw [q] at h
        cases h
        exact congrArg (· + 1) (agO_len q)
theorem agS_mem : ∀ {as : List Ag} {i : Nat}, i ∈ agS as ↔ ∃ j : Nat, as[j]? = some (Ag.sl i)
  | [], i => by simp [agS]
  | .d d :: as, i => by
    unfold agS
    rw [agS_mem]
    constructor
    · rintro ⟨j, h⟩
      exact ⟨j + 1, h⟩
    · rintro ⟨j, h⟩
      cases j with
      | zero => cases h
      | succ j => exact ⟨j, h⟩
  | .sl k :: as, i => by
    unfold agS
    rw [List.mem_cons, agS_mem]
    constructor
    · rintro (h | ⟨j, h⟩)
      · subst h
        exact ⟨0, rfl⟩
      · exact ⟨j + 1, h⟩
    · rintro ⟨j, h⟩
      cases j with
      | zero =>
        cases h
        exact .inl rfl
      | succ j => exact .inr ⟨j, h⟩
theorem agS_one : ∀ {as : List Ag} {i j k : Nat}, (agS as).Nodup → as[j]? = some (.sl i) → as[k]? = some (.sl i) → j = k
  | [], i, j, k, n, h, q => by simp at h
  | .d d :: as, i, j, k, n, h, q => by
    cases j with
    | zero => cases h
    | succ j =>
      cases k with
      | zero => cases q
      | succ k => exact congrArg (· + 1) (agS_one (as := as) n h q)
  | .sl m :: as, i, j, k, n, h, q => by
    unfold agS at n
    obtain ⟨n1, n2⟩ := List.nodup_cons.mp n
    cases j with
    | zero =>
      cases h
      cases k with
      | zero => rfl
      | succ k => exact absurd (agS_mem.mpr ⟨k, q⟩) n1
    | succ j =>
      cases k with
      | zero =>
        cases q
        exact absurd (agS_mem.mpr ⟨j, h⟩) n1
      | succ k => exact congrArg (· + 1) (agS_one (as := as) n2 h q)
theorem agB_len (ρ : En) : ∀ (as : List Ag) (os : List O), (agB ρ as os).length = ρ.length
  | [], os => by cases os <;> rfl
  | .d d :: as, [] => rfl
  | .d d :: as, o :: os => agB_len ρ as os
  | .sl i :: as, [] => rfl
  | .sl i :: as, o :: os => by
    show ((agB ρ as os).set i (some o)).length = _
    rw [List.length_set, agB_len ρ as os]
theorem agB_get (ρ : En) : ∀ {as : List Ag} {os : List O} {i : Nat} {o : O}, os.length = as.length → (agS as).Nodup → (agB ρ as os)[i]? = some (some o) → (∃ j : Nat, as[j]? = some (Ag.sl i) ∧ os[j]? = some o) ∨ (i ∉ agS as ∧ ρ[i]? = some (some o))
  | [], os, i, o, hl, n, h => by
    have : agB ρ [] os = ρ := by cases os <;> rfl
    rw [this] at h
    exact .inr ⟨by simp [agS], h⟩
  | .d d :: as, [], i, o, hl, n, h => by cases hl
  | .sl k :: as, [], i, o, hl, n, h => by cases hl
  | .d d :: as, o' :: os, i, o, hl, n, h => by
    rcases agB_get ρ (as := as) (os := os) (Nat.succ.inj hl) n h with ⟨j, h1, h2⟩ | h1
    · exact .inl ⟨j + 1, h1, h2⟩
    · exact .inr h1
  | .sl k :: as, o' :: os, i, o, hl, n, h => by
    obtain ⟨n1, n2⟩ := List.nodup_cons.mp n
    have h' : ((agB ρ as os).set k (some o'))[i]? = some (some o) := h
    by_cases e : k = i
    · subst e
      by_cases hk : k < (agB ρ as os).length
      · rw [List.getElem?_set_self hk] at h'
        cases h'
        exact .inl ⟨0, rfl, rfl⟩
      · rw [List.getElem?_eq_none (by simpa using hk)] at h'
        cases h'
    · rw [List.getElem?_set_ne e] at h'
      rcases agB_get ρ (as := as) (os := os) (Nat.succ.inj hl) n2 h' with ⟨j, h1, h2⟩ | ⟨h1, h2⟩
      · exact .inl ⟨j + 1, h1, h2⟩
      · refine .inr ⟨?_, h2⟩
        show i ∉ k :: agS as
        simp only [List.mem_cons, not_or]
        exact ⟨fun z => e z.symm, h1⟩
theorem map_get {α : Type} {l : List α} {i : Nat} {a : α} (h : (l.map some)[i]? = some (some a)) : l[i]? = some a := by
  rw [List.getElem?_map] at h
  cases q : l[i]? with
  | none =>
    rw [q] at h
    cases h
  | some b =>
    rw [q] at h
    cases h
    rfl
theorem get_map {α : Type} {l : List α} {i : Nat} {a : α} (h : l[i]? = some a) : (l.map some)[i]? = some (some a) := by
  rw [List.getElem?_map, h]
  rfl
/-- into the call -/
theorem call_in (R : Rl K Z Sh H σ ρ) (ha : AgL K Sh σ as vs) (ho : agO ρ as = some os) (n : (agS as).Nodup) : Rl K none Sh H (vs.map some) (os.map some) ∧ ∀ b, FpE H (vs.map some) (os.map some) b → ∃ i o v, i ∈ agS as ∧ ρ[i]? = some (some o) ∧ σ[i]? = some (some v) ∧ Fp H o v b := by
  have hlen : os.length = vs.length := by rw [agO_len ho, ha.len]
  have slot : ∀ {j : Nat} {o : O} {v : V} {b : Addr}, os[j]? = some o → vs[j]? = some v → Fp H o v b → ∃ i, as[j]? = some (.sl i) ∧ ρ[i]? = some (some o) ∧ σ[i]? = some (some v) := fun {j o v b} h1 h2 h3 => by
    obtain ⟨a, ea, m⟩ := agO_get ho h1
    obtain ⟨v', ev, m2⟩ := ha.get ea
    rw [h2] at ev
    cases ev
    cases a with
    | d d =>
      subst m
      exact False.elim h3
    | sl i => exact ⟨i, ea, m, m2⟩
  refine ⟨⟨R.sh, by rw [List.length_map, List.length_map, hlen], fun j o h => ?_, fun i j o u v w b nij h1 h2 h3 h4 h5 h6 => ?_, fun P q e => nomatch e⟩, fun b ⟨j, o, v, h1, h2, h3⟩ => ?_⟩
  · have h := map_get h
    obtain ⟨a, ea, m⟩ := agO_get ho h
    obtain ⟨v, ev, m2⟩ := ha.get ea
    refine ⟨v, get_map ev, ?_⟩
    cases a with
    | d d =>
      subst m
      exact m2
    | sl i =>
      obtain ⟨v', hv', at_⟩ := R.ats i o m
      rw [show σ[i]? = some (some v) from m2] at hv'
      cases hv'
      exact at_
  · obtain ⟨i1, e1, r1, s1⟩ := slot (map_get h1) (map_get h3) h5
    obtain ⟨i2, e2, r2, s2⟩ := slot (map_get h2) (map_get h4) h6
    have ne : i1 ≠ i2 := fun z => nij (agS_one n e1 (by rw [z]; exact e2))
    exact R.dj i1 i2 o u v w b ne r1 r2 s1 s2 h5 h6
  · obtain ⟨i, e1, r1, s1⟩ := slot (map_get h1) (map_get h2) h3
    exact ⟨i, o, v, agS_mem.mpr ⟨j, e1⟩, r1, s1, h3⟩
/-- out of the call -/
theorem call_out (R : Rl K Z Sh H σ ρ) (ha : AgL K Sh σ as vs) (ho : agO ρ as = some os) (n : (agS as).Nodup) {G : Addr → Prop} (hl : os'.length = vs.length) (sh : Same S' H')
    (A : ∀ (j : Nat) (o : O) (v : V), os'[j]? = some o → vs[j]? = some v → At K S' H' o v) (dj : ∀ (j k : Nat) (o u : O) (v w : V) (b : Addr), j ≠ k → os'[j]? = some o → os'[k]? = some u → vs[j]? = some v → vs[k]? = some w → Fp H' o v b → ¬ Fp H' u w b)
    (sub : ∀ (j : Nat) (o : O) (v : V) (b : Addr), os'[j]? = some o → vs[j]? = some v → Fp H' o v b → G b) (g : Gx none Sh H (FpE H (vs.map some) (os.map some)) S' H' G) :
    Rl K Z S' H' σ (agB ρ as os') ∧ Gx Z Sh H (FpE H σ ρ) S' H' (fun b => FpE H' σ (agB ρ as os') b ∨ G b) ∧ ∀ b, FpE H' σ (agB ρ as os') b → (FpE H σ ρ b ∧ ¬ FpE H (vs.map some) (os.map some) b) ∨ ∃ (j : Nat) (o : O) (v : V), os'[j]? = some o ∧ vs[j]? = some v ∧ Fp H' o v b := by
  obtain ⟨R1, n1⟩ := call_in R ha ho n
  have hla : os'.length = as.length := by rw [hl, ha.len]
  have sub1 : ∀ b, FpE H (vs.map some) (os.map some) b → FpE H σ ρ b := fun b hb => by
    obtain ⟨i, o, v, _, h1, h2, h3⟩ := n1 b hb
    exact ⟨i, o, v, h1, h2, h3⟩
  -- a slot that was not lent
  have oth : ∀ {i : Nat} {o : O} {v : V}, i ∉ agS as → ρ[i]? = some (some o) → σ[i]? = some (some v) → ∀ b, Fp H o v b → ¬ FpE H (vs.map some) (os.map some) b := fun {i o v} ni h1 h2 b hb z => by
    obtain ⟨k, u, w, hk, g1, g2, g3⟩ := n1 b z
    exact R.dj i k o u v w b (fun e => ni (by rw [e]; exact hk)) h1 g1 h2 g2 hb g3
  have kk : ∀ {i : Nat} {o : O} {v : V}, i ∉ agS as → ρ[i]? = some (some o) → σ[i]? = some (some v) → ∀ b, Fp H o v b → H' b = H b ∧ S' b = none := fun {i o v} ni h1 h2 b hb => by
    obtain ⟨t1, t2⟩ := R.tr (b := b) ⟨i, o, v, h1, h2, hb⟩
    refine ⟨?_, g.nw b t1 t2 (oth ni h1 h2 b hb)⟩
    cases e : H b with
    | none => exact absurd e t2
    | some u => exact g.kp b u e (oth ni h1 h2 b hb) (fun ⟨_, z⟩ => nomatch z)
  have lent : ∀ {i j : Nat} {o : O} {v : V}, as[j]? = some (.sl i) → os'[j]? = some o → σ[i]? = some (some v) → vs[j]? = some v := fun {i j o v} h1 h2 h3 => by
    obtain ⟨v', e, m⟩ := ha.get h1
    rw [show σ[i]? = some (some v') from m] at h3
    cases h3
    exact e
  have feq : ∀ {i : Nat} {o : O} {v : V}, i ∉ agS as → ρ[i]? = some (some o) → σ[i]? = some (some v) → ∀ b, Fp H' o v b ↔ Fp H o v b := fun {i o v} ni h1 h2 b => by
    obtain ⟨v', e, a⟩ := R.ats i o h1
    rw [h2] at e
    cases e
    exact Fp.eq o v a (fun b hb => (kk ni h1 h2 b hb).1) b
  have mix : ∀ {i j : Nat} {o u : O} {v w : V} {b : Addr}, i ∉ agS as → ρ[i]? = some (some o) → σ[i]? = some (some v) → os'[j]? = some u → vs[j]? = some w → Fp H' o v b → Fp H' u w b → False := fun {i j o u v w b} ni h1 h2 h3 h4 h5 h6 => by
    have h5' := (feq ni h1 h2 b).mp h5
    rcases g.ft b (sub j u w b h3 h4 h6) with z | z
    · exact oth ni h1 h2 b h5' z
    · exact (R.tr (b := b) ⟨i, o, v, h1, h2, h5'⟩).2 z
  have fin : ∀ b, FpE H' σ (agB ρ as os') b → (FpE H σ ρ b ∧ ¬ FpE H (vs.map some) (os.map some) b) ∨ ∃ (j : Nat) (o : O) (v : V), os'[j]? = some o ∧ vs[j]? = some v ∧ Fp H' o v b := fun b ⟨i, o, v, h1, h2, h3⟩ => by
    rcases agB_get ρ hla n h1 with ⟨j, e1, e2⟩ | ⟨ni, e1⟩
    · exact .inr ⟨j, o, v, e2, lent e1 e2 h2, h3⟩
    · have h3' := (feq ni e1 h2 b).mp h3
      exact .inl ⟨⟨i, o, v, e1, h2, h3'⟩, oth ni e1 h2 b h3'⟩
  refine ⟨⟨sh, by rw [agB_len]; exact R.len, fun i o h => ?_, fun i k o u v w b nik h1 h2 h3 h4 h5 h6 => ?_, ?_⟩, ⟨g.ss, fun a u e nf nz => g.kp a u e (fun z => nf (sub1 a z)) (fun ⟨_, z⟩ => nomatch z), fun a s e nf => g.nw a s e (fun z => nf (sub1 a z)), fun a ha => ?_, g.tr⟩, fin⟩
  · rcases agB_get ρ hla n h with ⟨j, e1, e2⟩ | ⟨ni, e1⟩
    · obtain ⟨v, ev, m⟩ := ha.get e1
      exact ⟨v, m, A j o v e2 ev⟩
    · obtain ⟨v, ev, a⟩ := R.ats i o e1
      exact ⟨v, ev, At.keep g.ss o v a (fun b hb => kk ni e1 ev b hb)⟩
  · rcases agB_get ρ hla n h1 with ⟨j1, e1, f1⟩ | ⟨ni1, e1⟩
    · rcases agB_get ρ hla n h2 with ⟨j2, e2, f2⟩ | ⟨ni2, e2⟩
      · have ne : j1 ≠ j2 := fun z => by
          rw [z, e2] at e1
          cases e1
          exact nik rfl
        exact dj j1 j2 o u v w b ne f1 f2 (lent e1 f1 h3) (lent e2 f2 h4) h5 h6
      · exact mix ni2 e2 h4 f1 (lent e1 f1 h3) h6 h5
    · rcases agB_get ρ hla n h2 with ⟨j2, e2, f2⟩ | ⟨ni2, e2⟩
      · exact mix ni1 e1 h3 f2 (lent e2 f2 h4) h5 h6
      · exact R.dj i k o u v w b nik e1 e2 h3 h4 ((feq ni1 e1 h3 b).mp h5) ((feq ni2 e2 h4 b).mp h6)
  · intro P q e
    obtain ⟨z1, z2⟩ := R.zk P q e
    obtain ⟨ps, hp, _⟩ := id z2
    have hP : ¬ FpE H (vs.map some) (os.map some) P := fun z => (R.zne (sub1 P z)).1 ⟨q, e⟩
    refine ⟨g.nw P z1 (some_ne hp) hP, TabS_ext z2 (fun b o h1 h2 => g.kp b o h2 ?_ (fun ⟨_, z⟩ => nomatch z))⟩
    rcases h1 with h1 | h1
    · rw [h1]
      exact hP
    · exact fun z => (R.zne (sub1 _ z)).2 q h1
  · rcases ha with ha | ha
    · rcases fin a ha with z | ⟨j, o, v, e1, e2, e3⟩
      · exact .inl z.1
      · exact (g.ft a (sub j o v a e1 e2 e3)).imp (sub1 a) id
    · exact (g.ft a ha).imp (sub1 a) id
end
section
variable {X : Cx} {K : PySem.W.Frag} {Z : Zt} {W : WX} {q qa qb : Bool} {w : IE} {r : IM} {e : Expr} {es : List Expr} {pos : Pos}
theorem em_nil : PA X [] (EvM K Z W true mNil) := pa_nil.weak fun σ H Q ⟨Sh, ρ, Q0, E0, R, h, hq, hx⟩ => hq _ _ _ _ _ h (Mid.refl R) .nil
theorem em_d (ha : PE X e (Ev K Z W qa w)) (hb : PA X es (EvM K Z W qb r)) (hs : starEach (e :: es) X.env = (false, eval e X.env) :: starEach es X.env := by rfl) : PA X (e :: es) (EvM K Z W (qa && qb) (mD w r)) := by
  refine (pa_cons ha hb hs).weak fun σ H Q ⟨Sh, ρ, Q0, E0, R, h, hq, hx⟩ => ?_
  refine ⟨Sh, ρ, _, E0, R, h, fun u ρ1 S1 H1 v1 h1 p1 => ?_, hx⟩
  obtain ⟨d, ρ2, S2, h2, m2, f2⟩ := p1.fz h1
  exact ⟨S2, ρ2, _, E0, m2.rl, h2, fun ds ρ3 S3 H3 vs h3 m3 f3 => hq _ _ _ _ _ h3 (m2.trans m3) (.cons (Fz.mono m3.gx.ss _ _ f2) f3), fun x ρ' S' H' cls d e p => hx x ρ' S' H' cls d e (m2.px p)⟩
theorem em_p {i : Nat} {x : Str} (ha : PE X (.Name x pos) (tVar i)) (hb : PA X es (EvM K Z W qb r)) (hs : starEach (.Name x pos :: es) X.env = (false, eval (.Name x pos) X.env) :: starEach es X.env := by rfl) : PA X (.Name x pos :: es) (EvM K Z W qb (mPs i r)) := by
  refine (pa_cons ha hb hs).weak fun σ H Q ⟨Sh, ρ, Q0, E0, R, ⟨hs, h⟩, hq, hx⟩ => ?_
  cases hi : ρ[i]? with
  | none =>
    rw [hi] at hs
    cases hs
  | some oo =>
    cases oo with
    | none =>
      rw [hi] at hs
      cases hs
    | some o =>
      obtain ⟨v, hv, _⟩ := R.ats i o hi
      exact ⟨v, hv, Sh, ρ, _, E0, R, h, fun as ρ' S' H' vs h m f => hq _ _ _ _ _ h m (.cons hv f), hx⟩
theorem takes_W0 : Takes X W0 := fun u s' ⟨a, B, sI, pins, σ, H, cls, d, e, I, nb, up, sky, na, os, ag, w⟩ => False.elim w
theorem call_ev {n : Nat} {L : List Nat} {isp : ISp} {σ : L2.St} {H : Hp} {Q : VK} (h : Ev K Z W false (iCall n L isp r) σ H Q) : tCallS (spI K n L isp) (WE W) (EvM K Z W q r) σ H Q := by
  obtain ⟨Sh, ρ, Q0, E0, R, h, hq, hx⟩ := h
  refine ⟨Sh, ρ, _, E0, R, h, fun as ρ1 S1 H1 vs h1 m1 ha => ?_, hx⟩
  obtain ⟨os, ho, hl, hf, nd, h1⟩ := ob_ex h1
  obtain ⟨R1, n1⟩ := call_in m1.rl ha ho nd
  refine ⟨S1, os, _, _, R1, hl, hf, h1, fun o os' S' H' v h2 R2 g2 => ?_, fun x os' S' H' cls d h2 R2 g2 xa => ?_⟩
  · have hl2 : os'.length = vs.length := by
      have z := R2.len
      simp only [List.length_map, List.length_cons] at z
      omega
    obtain ⟨r1, r2, r3⟩ := call_out m1.rl ha ho nd (os' := os') (G := FpE H' ((v :: vs).map some) ((o :: os').map some)) hl2 R2.sh
      (fun j o v e1 e2 => by
        obtain ⟨v', e3, a⟩ := R2.ats (j + 1) o (get_map (l := _ :: os') (i := j + 1) e1)
        have e4 := map_get (l := _ :: vs) (i := j + 1) e3
        rw [show (_ :: vs)[j + 1]? = vs[j]? from rfl, e2] at e4
        cases e4
        exact a)
      (fun j k o u v w b njk e1 e2 e3 e4 => R2.dj (j + 1) (k + 1) o u v w b (fun z => njk (Nat.succ.inj z)) (get_map (l := _ :: os') (i := j + 1) e1) (get_map (l := _ :: os') (i := k + 1) e2) (get_map (l := _ :: vs) (i := j + 1) e3) (get_map (l := _ :: vs) (i := k + 1) e4))
      (fun j o v b e1 e2 e3 => ⟨j + 1, o, v, get_map (l := _ :: os') (i := j + 1) e1, get_map (l := _ :: vs) (i := j + 1) e2, e3⟩) g2
    obtain ⟨v', e3, a0⟩ := R2.ats 0 o rfl
    cases (show some (some v) = some (some v') from e3)
    refine hq _ _ _ _ _ h2 ⟨r1, m1.gx.trans (r2.weak (fun _ h => h) (fun b hb => hb.imp id (fun (z : Fp H' o v b) => ⟨0, o, v, rfl, rfl, z⟩))), ⟨a0, fun b hb hc => ?_⟩, fun e => by cases e⟩
    rcases r3 b hc with z | ⟨j, o2, v2, e1, e2, e3⟩
    · rcases g2.ft b ⟨0, o, v, rfl, rfl, hb⟩ with y | y
      · exact z.2 y
      · exact (m1.rl.tr z.1).2 y
    · exact R2.dj 0 (j + 1) o o2 v v2 b (by omega) rfl (get_map (l := _ :: os') (i := j + 1) e1) rfl (get_map (l := _ :: vs) (i := j + 1) e2) hb e3
  · have hl2 : os'.length = vs.length := by
      have z := R2.len
      simp only [List.length_map] at z
      exact z
    obtain ⟨r1, r2, r3⟩ := call_out m1.rl ha ho nd (os' := os') (G := FpE H' (vs.map some) (os'.map some)) hl2 R2.sh
      (fun j o v e1 e2 => by
        obtain ⟨v', e3, a⟩ := R2.ats j o (get_map e1)
        rw [get_map e2] at e3
        cases e3
        exact a)
      (fun j k o u v w b njk e1 e2 e3 e4 => R2.dj j k o u v w b njk (get_map e1) (get_map e2) (get_map e3) (get_map e4))
      (fun j o v b e1 e2 e3 => ⟨j, o, v, get_map e1, get_map e2, e3⟩) g2
    exact hx _ _ _ _ _ _ h2 ⟨r1, m1.gx.trans (r2.weak (fun _ h => h) (fun b hb => .inl hb)), xa⟩
/-- f(..) -/
theorem ev_call {k j n : Nat} {x : Str} {L : List Nat} {isp : ISp} {p : Pos} (hK : X.K = K) (c : CalX X.prog X.w X.K X.mg X.base k x (spI X.K n L isp)) (tk : Takes X W) (hr : Room j X.A) (hk : k ≤ j) (hg : Gl X x) (ha : PA X (e :: es) (EvM K Z W q r))
    (hdb : (x == ("__debug__" : Str)) = false := by decide) (he : starEach (e :: es) X.env = (false, eval e X.env) :: starEach es X.env := by rfl) (hpl : (backTo pos (starEach es X.env)).any (·.1) = false := by rfl) :
    PE X (.Call (.Name x p) (e :: es) [] pos) (Ev K Z W false (iCall n L isp r)) := by
  subst hK
  exact (pe_ccX c tk hr hk hg ha hdb he hpl).weak fun σ H Q h => call_ev h
end
/-! ### a def by its body -/
def exO (L : List Nat) (ρ : En) : Nat → List O → Option (List O)
  | _, [] => some []
  | j, o :: os => (if L.contains j = true then ρ[j]?.join else some o).bind fun o' => (exO L ρ (j + 1) os).map fun os' => o' :: os'
def retU (n : Nat) (L : List Nat) (os : List O) (Q0 : O → List O → Prop) (u : U) (ρ : En) : Prop := match u with
  | .va o => ob (exO L ρ 0 os) fun os' => Q0 o os'
  | .at i [] => if n ≤ i then ob (ρ[i]?.join) fun o => ob (exO L ρ 0 os) fun os' => Q0 o os' else fzU ρ (.at i []) fun d ρ2 => ob (exO L ρ2 0 os) fun os' => Q0 (.fr d) os'
  | u => fzU ρ u fun d ρ2 => ob (exO L ρ2 0 os) fun os' => Q0 (.fr d) os'
def exits (n : Nat) (L : List Nat) (os : List O) (Q0 : O → List O → Prop) (E0 : Xc → List O → Prop) : IEn where
  nx := fun ρ => retU n L os Q0 (.va (.fr .non)) ρ
  rt := retU n L os Q0
  bk := fun _ => False
  ct := fun _ => False
  ex := fun x ρ => ob (exO L ρ 0 os) fun os' => E0 x os'
def st0 (N : Nat) (os : List O) : En := os.map some ++ List.replicate (N - os.length) none
section
variable {K : PySem.W.Frag} {Sh H S' H' : Hp} {σ' : L2.St} {ρ' : En} {L : List Nat}
theorem exO_get : ∀ {os os' : List O} {k j : Nat} {o : O}, exO L ρ' k os = some os' → os'[j]? = some o → (L.contains (k + j) = true ∧ ρ'[k + j]? = some (some o)) ∨ (L.contains (k + j) = false ∧ os[j]? = some o)
  | [], os', k, j, o, h, e => by
    cases h
    simp at e
  | o0 :: os, os', k, j, o, h, e => by
    unfold exO at h
    cases q0 : (if L.contains k = true then ρ'[k]?.join else some o0) with
    | none =>
      rw [q0] at h
      cases h
    | some o1 =>
      rw [q0] at h
      cases q : exO L ρ' (k + 1) os with
      | none =>
        rw [q] at h
        cases h
      | some os1 =>
        rw [q] at h
        cases h
        cases j with
        | zero =>
          cases (show some o1 = some o from e)
          cases hc : L.contains k with
          | true =>
            rw [hc, if_pos rfl] at q0
            refine .inl ⟨rfl, ?_⟩
            show ρ'[k]? = _
            cases qq : ρ'[k]? with
            | none =>
              rw [qq] at q0
              cases q0
            | some oo =>
              rw [qq] at q0
              cases oo with
              | none => cases q0
              | some o2 =>
                cases q0
                rfl
          | false =>
            rw [hc, if_neg (by simp)] at q0
            cases q0
            exact .inr ⟨rfl, rfl⟩
        | succ j =>
          have z := exO_get (k := k + 1) (j := j) q e
          rw [show k + 1 + j = k + (j + 1) from by omega] at z
          exact z
theorem exO_len : ∀ {os os' : List O} {k : Nat}, exO L ρ' k os = some os' → os'.length = os.length
  | [], os', k, h => by cases h; rfl
  | o0 :: os, os', k, h => by
    unfold exO at h
    cases q0 : (if L.contains k = true then ρ'[k]?.join else some o0) with
    | none =>
      rw [q0] at h
      cases h
    | some o1 =>
      rw [q0] at h
      cases q : exO L ρ' (k + 1) os with
      | none =>
        rw [q] at h
        cases h
      | some os1 =>
        rw [q] at h
        cases h
        exact congrArg (· + 1) (exO_len q)
theorem frOk_get : ∀ {os : List O} {k j : Nat} {o : O}, frOk L k os = true → os[j]? = some o → L.contains (k + j) = false → ∃ d, o = .fr d
  | [], k, j, o, h, e, n => by simp at e
  | o0 :: os, k, 0, o, h, e, n => by
    cases (show some o0 = some o from e)
    unfold frOk at h
    have h1 := (Bool.and_eq_true_iff.mp h).1
    rw [show L.contains k = false from n, Bool.false_or] at h1
    cases o0 with
    | fr d => exact ⟨d, rfl⟩
    | _ => cases h1
  | o0 :: os, k, j + 1, o, h, e, n => by
    unfold frOk at h
    exact frOk_get (k := k + 1) (j := j) (Bool.and_eq_true_iff.mp h).2 e (by rw [show k + 1 + j = k + (j + 1) from by omega]; exact n)
end
section
variable {P : Program} {w : World} {K : PySem.W.Frag} {mg : Str → Option Value} {base : Heap}
theorem st0_get {N : Nat} {os : List O} {i : Nat} {o : O} (h : (st0 N os)[i]? = some (some o)) : os[i]? = some o := by
  unfold st0 at h
  by_cases hi : i < os.length
  · rw [List.getElem?_append_left (by simpa using hi)] at h
    exact map_get h
  · rw [List.getElem?_append_right (by simpa using hi)] at h
    rw [List.getElem?_replicate] at h
    split at h <;> cases h
theorem start_get {N : List Str} {vs : List V} {i : Nat} {v : V} (h : vs[i]? = some v) : (L2.start N vs)[i]? = some (some v) := by
  unfold L2.start
  rw [List.getElem?_append_left (by simpa using (List.getElem?_eq_some_iff.mp h).1)]
  exact get_map h
/-- from the body's reading to the promise -/
theorem body_ev {n : Nat} {L : List Nat} {isp : ISp} {wb : IS} {N : List Str} {vs : List V} {H : Hp} {Q : VK} {E : XK} {W : WX} (hW : ∀ cls d σ H, E cls d H → W cls d σ H) (hL : ∀ j, j ∈ L → j < n) (hN : n ≤ N.length) (hs : spI K n L isp vs H Q E)
    (hw : ∀ os Q0 E0, os.length = n → isp os Q0 E0 → wb (st0 N.length os) (exits n L os Q0 E0)) : EvS K none W L wb { nx := fun _ H' => Q .non H', rt := Q } (L2.start N vs) H := by
  obtain ⟨Sh, os, Q0, E0, R, hl, hf, h, hq, he⟩ := hs
  have hlv : vs.length = n := by
    have z := R.len
    simp only [List.length_map] at z
    omega
  have R0 : Rl K none Sh H (L2.start N vs) (st0 N.length os) := by
    refine ⟨R.sh, ?_, fun i o hi => ?_, fun i j o u v w b nij h1 h2 h3 h4 h5 h6 => ?_, fun P q e => nomatch e⟩
    · unfold st0 L2.start
      simp only [List.length_append, List.length_map, List.length_replicate]
      omega
    · have hi := st0_get hi
      obtain ⟨v, hv, a⟩ := R.ats i o (get_map hi)
      exact ⟨v, start_get (map_get hv), a⟩
    · have h1 := st0_get h1
      have h2 := st0_get h2
      obtain ⟨v', hv, _⟩ := R.ats i o (get_map h1)
      obtain ⟨w', hw, _⟩ := R.ats j u (get_map h2)
      rw [start_get (map_get hv)] at h3
      rw [start_get (map_get hw)] at h4
      cases h3
      cases h4
      exact R.dj i j o u v w b nij (get_map h1) (get_map h2) hv hw h5 h6
  have fp0 : ∀ b, FpE H (L2.start N vs) (st0 N.length os) b → FpE H (vs.map some) (os.map some) b := fun b ⟨i, o, v, h1, h2, h3⟩ => by
    have h1 := st0_get h1
    obtain ⟨v', hv, _⟩ := R.ats i o (get_map h1)
    rw [start_get (map_get hv)] at h2
    cases h2
    exact ⟨i, o, v, get_map h1, hv, h3⟩
  -- the parameters at the end
  have prm : ∀ {σ' : L2.St} {ρ' : En} {S' H' : Hp} {os' : List O}, Rl K none S' H' σ' ρ' → (∀ j, j ∈ L → σ'[j]? = (L2.start N vs)[j]?) → Same Sh S' → exO L ρ' 0 os = some os' → ∀ {j : Nat} {o : O} {v : V}, os'[j]? = some o → vs[j]? = some v → At K S' H' o v ∧ ((j ∈ L ∧ ρ'[j]? = some (some o) ∧ σ'[j]? = some (some v)) ∨ ∀ b, ¬ Fp H' o v b) := fun {σ' ρ' S' H' os'} R' pn ss ex {j o v} h1 h2 => by
    rcases exO_get ex h1 with ⟨c, e⟩ | ⟨c, e⟩
    · rw [Nat.zero_add] at c e
      have hj : j ∈ L := by simpa using c
      have e2 := (pn j hj).trans (start_get h2)
      obtain ⟨v', e3, a⟩ := R'.ats j o e
      rw [e2] at e3
      cases e3
      exact ⟨a, .inl ⟨hj, e, e2⟩⟩
    · obtain ⟨d, rfl⟩ := frOk_get hf e c
      obtain ⟨v', e3, a⟩ := R.ats j _ (get_map e)
      rw [get_map h2] at e3
      cases e3
      exact ⟨Fz.mono ss d v a, .inr (fun b hb => False.elim hb)⟩
  -- out with a value of its own
  have out : ∀ {σ' : L2.St} {ρ' : En} {S' H' : Hp} {os' : List O} {o : O} {v : V} {G : Addr → Prop}, Rl K none S' H' σ' ρ' → (∀ j, j ∈ L → σ'[j]? = (L2.start N vs)[j]?) → Gx none Sh H (FpE H (L2.start N vs) (st0 N.length os)) S' H' G → exO L ρ' 0 os = some os' → At K S' H' o v → (∀ b, Fp H' o v b → G b) → (∀ b, FpE H' σ' ρ' b → G b) →
      (∀ j o2 v2 b, j ∈ L → ρ'[j]? = some (some o2) → σ'[j]? = some (some v2) → Fp H' o v b → ¬ Fp H' o2 v2 b) → Q0 o os' → Q v H' := fun {σ' ρ' S' H' os' o v G} R' pn g ex a ga ge nd q => by
    have hl' : os'.length = vs.length := by rw [exO_len ex, hl, hlv]
    have gg : ∀ {j : Nat} {o2 : O} {v2 : V} {b : Addr}, os'[j]? = some o2 → vs[j]? = some v2 → Fp H' o2 v2 b → G b := fun {j o2 v2 b} e1 e2 hb => by
      rcases (prm R' pn g.ss ex e1 e2).2 with ⟨_, e3, e4⟩ | z
      · exact ge b ⟨j, o2, v2, e3, e4, hb⟩
      · exact absurd hb (z b)
    refine hq o os' S' H' v q ⟨R'.sh, by simp [hl'], fun i o2 h => ?_, fun i j o2 u v2 w2 b nij h1 h2 h3 h4 h5 h6 => ?_, fun P q e => nomatch e⟩ (g.weak fp0 (fun b ⟨i, o2, v2, h1, h2, h3⟩ => ?_))
    · have h := map_get h
      cases i with
      | zero =>
        cases (show some o = some o2 from h)
        exact ⟨v, rfl, a⟩
      | succ i =>
        have hlt : i < vs.length := by rw [← hl']; exact (List.getElem?_eq_some_iff.mp (show os'[i]? = some o2 from h)).1
        have ev : vs[i]? = some vs[i] := List.getElem?_eq_getElem hlt
        exact ⟨vs[i], get_map (l := v :: vs) (i := i + 1) ev, (prm R' pn g.ss ex (show os'[i]? = some o2 from h) ev).1⟩
    · have h1 := map_get h1
      have h2 := map_get h2
      have h3 := map_get h3
      have h4 := map_get h4
      cases i with
      | zero =>
        cases (show some o = some o2 from h1)
        cases (show some v = some v2 from h3)
        cases j with
        | zero => exact nij rfl
        | succ j =>
          rcases (prm R' pn g.ss ex (show os'[j]? = some u from h2) h4).2 with ⟨e3, e4, e5⟩ | z
          · exact nd j u w2 b e3 e4 e5 h5 h6
          · exact z b h6
      | succ i =>
        rcases (prm R' pn g.ss ex (show os'[i]? = some o2 from h1) h3).2 with ⟨e3, e4, e5⟩ | z
        · cases j with
          | zero =>
            cases (show some o = some u from h2)
            cases (show some v = some w2 from h4)
            exact nd i o2 v2 b e3 e4 e5 h6 h5
          | succ j =>
            rcases (prm R' pn g.ss ex (show os'[j]? = some u from h2) h4).2 with ⟨e6, e7, e8⟩ | z
            · exact R'.dj i j o2 u v2 w2 b (fun z => nij (congrArg (· + 1) z)) e4 e7 e5 e8 h5 h6
            · exact z b h6
        · exact z b h5
    · have h1 := map_get h1
      have h2 := map_get h2
      cases i with
      | zero =>
        cases (show some o = some o2 from h1)
        cases (show some v = some v2 from h2)
        exact ga b h3
      | succ i => exact gg (show os'[i]? = some o2 from h1) h2 h3
  have frz : ∀ {σ' : L2.St} {i : Nat} {pp : List Sx} {ρ' : En} {S' H' : Hp} {v : V}, PsS K none L Sh H (L2.start N vs) (st0 N.length os) σ' (.at i pp) ρ' S' H' v → fzU ρ' (.at i pp) (fun d ρ2 => ob (exO L ρ2 0 os) fun os' => Q0 (.fr d) os') → Q v H' := fun {σ' i pp ρ' S' H' v} p h => by
    have p' : Ps K none false S' H' σ' ρ' (.at i pp) ρ' S' H' v := ⟨p.rl, ⟨Same.refl _, fun _ _ h _ _ => h, fun _ h _ _ => h, fun a ha => ha.elim .inl (fun z => False.elim z), fun _ h => h⟩, p.ev, fun e => by cases e⟩
    obtain ⟨d, ρ2, S2, h2, m2, f2⟩ := p'.fz h
    obtain ⟨os', ex, h2⟩ := ob_ex h2
    exact out m2.rl p.pn ((p.gx.weak (fun _ h => h) (fun _ h => .inl h)).trans m2.gx) ex (o := .fr d) f2 (fun b hb => False.elim hb) (fun b hb => hb) (fun j o2 v2 b _ _ _ hb => False.elim hb) h2
  refine ⟨Sh, _, _, R0, hw os Q0 E0 hl h, ⟨fun ρ' σ' S' H' h m => ?_, fun ρ' σ' S' H' h m => False.elim h, fun ρ' σ' S' H' h m => False.elim h, fun u ρ' σ' S' H' v h p => ?_, fun x ρ' σ' S' H' cls d h m xa => ?_⟩⟩
  · obtain ⟨os', ex, h⟩ := ob_ex (show ob (exO L ρ' 0 os) fun os' => Q0 (.fr .non) os' from h)
    exact out m.rl m.pn m.gx ex (o := .fr .non) (v := .non) .non (fun b hb => False.elim hb) (fun b hb => hb) (fun j o2 v2 b _ _ _ hb => False.elim hb) h
  · cases u with
    | va o =>
      obtain ⟨os', ex, h⟩ := ob_ex (show ob (exO L ρ' 0 os) fun os' => Q0 o os' from h)
      exact out p.rl p.pn p.gx ex p.ev.1 (fun b hb => .inr hb) (fun b hb => .inl hb) (fun j o2 v2 b hj e1 e2 hb hc => p.ev.2 b hb ⟨j, o2, v2, e1, e2, hc⟩) h
    | «at» i pp =>
      cases pp with
      | cons s pp => exact frz p h
      | nil =>
        have h : if n ≤ i then ob (ρ'[i]?.join) (fun o => ob (exO L ρ' 0 os) fun os' => Q0 o os') else fzU ρ' (.at i []) (fun d ρ2 => ob (exO L ρ2 0 os) fun os' => Q0 (.fr d) os') := h
        by_cases hi : n ≤ i
        · rw [if_pos hi] at h
          obtain ⟨o, eo, h⟩ := ob_ex h
          obtain ⟨os', ex, h⟩ := ob_ex h
          have eo : ρ'[i]? = some (some o) := by
            cases qq : ρ'[i]? with
            | none =>
              rw [qq] at eo
              cases eo
            | some oo =>
              rw [qq] at eo
              cases oo with
              | none => cases eo
              | some o2 =>
                cases eo
                rfl
          obtain ⟨w', hw', hv⟩ := p.ev
          have hv : v = w' := hv
          subst hv
          obtain ⟨v', e2, a⟩ := p.rl.ats i o eo
          rw [hw'] at e2
          cases e2
          exact out p.rl p.pn p.gx ex a (fun b hb => .inl ⟨i, o, v, eo, hw', hb⟩) (fun b hb => .inl hb) (fun j o2 v2 b hj e1 e2 hb hc => p.rl.dj i j o o2 v v2 b (fun z => by have := hL j hj; omega) eo e1 hw' e2 hb hc) h
        · rw [if_neg hi] at h
          exact frz p h
  · obtain ⟨os', ex, h⟩ := ob_ex (show ob (exO L ρ' 0 os) fun os' => E0 x os' from h)
    have hl' : os'.length = vs.length := by rw [exO_len ex, hl, hlv]
    refine hW _ _ _ _ (he x os' S' H' cls d h ⟨m.rl.sh, by simp [hl'], fun i o2 h => ?_, fun i j o2 u v2 w2 b nij h1 h2 h3 h4 h5 h6 => ?_, fun P q e => nomatch e⟩ (m.gx.weak fp0 (fun b ⟨i, o2, v2, h1, h2, h3⟩ => ?_)) xa)
    · have h := map_get h
      have hlt : i < vs.length := by rw [← hl']; exact (List.getElem?_eq_some_iff.mp h).1
      have ev : vs[i]? = some vs[i] := List.getElem?_eq_getElem hlt
      exact ⟨vs[i], get_map ev, (prm m.rl m.pn m.gx.ss ex h ev).1⟩
    · rcases (prm m.rl m.pn m.gx.ss ex (map_get h1) (map_get h3)).2 with ⟨e3, e4, e5⟩ | z
      · rcases (prm m.rl m.pn m.gx.ss ex (map_get h2) (map_get h4)).2 with ⟨e6, e7, e8⟩ | z
        · exact m.rl.dj i j o2 u v2 w2 b nij e4 e7 e5 e8 h5 h6
        · exact z b h6
      · exact z b h5
    · rcases (prm m.rl m.pn m.gx.ss ex (map_get h1) (map_get h2)).2 with ⟨e3, e4, e5⟩ | z
      · exact ⟨i, o2, v2, e4, e5, h3⟩
      · exact absurd h3 (z b)
end
end G48

set_option Elab.async false
set_option linter.all false
set_option maxRecDepth 100000
set_option maxHeartbeats 4000000
namespace G48
open PySem PySem.Spec PyProof.Rows L2 SX
/-! ### a def by its body: the wrapper -/
section
variable {P : Program} {w : World} {K : PySem.W.Frag} {mg : Str → Option Value} {base : Heap}
theorem cal_I {x : Str} {st : Stmt} {N ps : List Str} {k n : Nat} {L : List Nat} {isp : ISp} {wb : IS} (D : Dfn K mg x st) (S : FnScope N ps (defScope st))
    (hb : ∀ (kV doc pm : Value) (an : Option Addr) (cdv ct : Value) (us : List Value), us.length = ps.length → bindArgs (PySem.W.fnOf x x (defArgs st) (defBody st) (defScope st) .none kV doc pm an cdv ct) ⟨us, []⟩ = pure (ps.zip us))
    (hn : ps.length = n) (hL : ∀ j, j ∈ L → j < n) (hN : n ≤ N.length)
    (body : ∀ (f : Addr) (cdv : Value) (A : Around) (outer : List Env) (s : Shared) (H : Hp) (E : XK), Room k (A.deeper (envOfC x (defScope st) s.heap.objs.size f cdv)) → PSs (cxOf (L2.CX P w) P w K mg base N x (defScope st) f cdv A outer s H E) (defBody st) (EvS K none (fun cls d _ H => E cls d H) L wb))
    (h : ∀ os Q0 E0, os.length = n → isp os Q0 E0 → wb (st0 N.length os) (exits n L os Q0 E0)) : CalX P w K mg base (k + 1) x (spI K n L isp) :=
  calx_of D S hb (fun vs H Q E hs => by
      obtain ⟨Sh, os, Q0, E0, R, hl, _⟩ := hs
      have z := R.len
      simp only [List.length_map] at z
      omega)
    (fun f cdv A outer s H vs Q E hr hs => ⟨_, body f cdv A outer s H E hr, body_ev (fun _ _ _ _ z => z) hL hN hs h⟩)
theorem cal_0 {x : Str} {st : Stmt} {ps : List Str} {n : Nat} {L : List Nat} {isp : ISp} (D : Dfn K mg x st)
    (hb : ∀ (kV doc pm : Value) (an : Option Addr) (cdv ct : Value) (us : List Value), us.length = ps.length → bindArgs (PySem.W.fnOf x x (defArgs st) (defBody st) (defScope st) .none kV doc pm an cdv ct) ⟨us, []⟩ = pure (ps.zip us))
    (no : ∀ os Q E, ¬ isp os Q E) : CalX P w K mg base 0 x (spI K n L isp) := calx_zero D hb (fun vs H Q E ⟨Sh, os, Q0, E0, R, hl, hf, h, _⟩ => no os Q0 E0 h)
theorem spI_imp {n : Nat} {L : List Nat} {isp isp' : ISp} (h : ∀ os Q E, isp' os Q E → isp os Q E) : ∀ vs H Q E, spI K n L isp' vs H Q E → spI K n L isp vs H Q E := fun vs H Q E ⟨Sh, os, Q0, E0, R, hl, hf, hh, r⟩ => ⟨Sh, os, Q0, E0, R, hl, hf, h _ _ _ hh, r⟩
theorem CalX.impI {x : Str} {k n : Nat} {L : List Nat} {isp isp' : ISp} (c : CalX P w K mg base k x (spI K n L isp)) (h : ∀ os Q E, isp' os Q E → isp os Q E) : CalX P w K mg base k x (spI K n L isp') := c.imp (spI_imp h)
end
/-! ### raise -/
def iRz (x : Str) (fs : List Str) (ra : IA) : IS := fun ρ N => ra ρ (fun ds ρ1 => ds.length = fs.length ∧ N.ex ⟨x, ("tag", .str x.cps.toList) :: (fs.zip ds).reverse⟩ ρ1) N.ex
section
variable {K : PySem.W.Frag} {Sh : Hp}
theorem FzF.app : ∀ {xs ys : List (Str × V)} {ds es : List (Str × D)}, FzF K Sh xs ds → FzF K Sh ys es → FzF K Sh (xs ++ ys) (ds ++ es)
  | _, _, _, _, .nil, q => q
  | _, _, _, _, .cons h r, q => .cons h (FzF.app r q)
theorem FzF.rev : ∀ {xs : List (Str × V)} {ds : List (Str × D)}, FzF K Sh xs ds → FzF K Sh xs.reverse ds.reverse
  | _, _, .nil => .nil
  | _, _, .cons h q => by
    rw [List.reverse_cons, List.reverse_cons]
    exact FzF.app (FzF.rev q) (.cons h .nil)
theorem FzF.zip : ∀ (fs : List Str) {vs : List V} {ds : List D}, FzL K Sh vs ds → FzF K Sh (fs.zip vs) (fs.zip ds)
  | [], _, _, _ => by
    rw [List.zip_nil_left, List.zip_nil_left]
    exact .nil
  | f :: fs, _, _, .nil => by
    rw [List.zip_nil_right, List.zip_nil_right]
    exact .nil
  | f :: fs, _, _, .cons h q => .cons h (FzF.zip fs q)
end
section
variable {X : Cx} {K : PySem.W.Frag} {Z : Zt} {W : WX} {L : List Nat} {q : Bool} {ra : IA} {e : Expr} {es : List Expr} {pos pos2 : Pos}
theorem rz_ev {x : Str} {fs : List Str} {D : Ends} {σ : L2.St} {H : Hp} (h : EvS K Z W L (iRz x fs ra) D σ H) : tRz (He.ga K x) fs x (EvA K Z W q ra) σ H (fun cls d H' => W cls d σ H') := by
  obtain ⟨Sh, ρ, N, R, h, l⟩ := h
  refine ⟨Sh, ρ, _, N.ex, R, h, fun ds ρ1 S1 H1 vs ⟨hl, h1⟩ m1 f1 => ⟨by rw [f1.len]; exact hl, fun d H2 hd hk hx => ?_⟩, l.px⟩
  have e2 : H2 = upd H1 d (.xd (("tag", V.str x) :: (fs.zip vs).reverse)) := by
    funext b
    by_cases hb : b = d
    · subst hb
      rw [hx, upd_same]
    · rw [hk b hb, upd_ne hb]
  subst e2
  have sd : S1 d = none := m1.rl.sh.free hd
  have r : Res K S1 H1 (.fr .non) .non (upd S1 d (.xd (("tag", V.str x) :: (fs.zip vs).reverse))) (upd H1 d (.xd (("tag", V.str x) :: (fs.zip vs).reverse))) :=
    ⟨same_new hd, same_new sd, upd_mono m1.rl.sh, fun a h1 h2 => by rw [upd_ne (ne_nn h1 hd)]; exact h2, .non, fun _ h => False.elim h⟩
  have p := m1.fin r
  refine l.ex _ _ _ _ _ _ _ h1 p.mid.s ⟨rfl, d, _, rfl, upd_same, .cons fz_str ?_⟩
  exact FzF.mono (same_new sd) _ _ (FzF.rev (FzF.zip fs f1))
theorem es_raise {x : Str} {fs : List Str} {p : Pos} {k : Nat} (hK : X.K = K) (hc : X.calm = true) (tk : Takes X W) (Zx : XOk X.prog X.w X.K X.mg X.base x fs) (hr : Room (k + 2) X.A) (hg : Gl X x) (ha : PA X (e :: es) (EvA K Z W q ra))
    (hdb : (x == ("__debug__" : Str)) = false := by decide) (he : starEach (e :: es) X.env = (false, eval e X.env) :: starEach es X.env := by rfl) (hpl : (backTo pos2 (starEach es X.env)).any (·.1) = false := by rfl) (hfs : fs.length ≤ 1000 := by decide) :
    PS X (.Raise (some (.Call (.Name x p) (e :: es) [] pos2)) none pos) (EvS K Z W L (iRz x fs ra)) := by
  subst hK
  exact (ps_raise hc tk (pmk_rz Zx hr hg ha hdb he hpl hfs)).weak fun D σ H h => rz_ev h
theorem es_raise0 {x : Str} {p : Pos} {k : Nat} (hK : X.K = K) (hc : X.calm = true) (tk : Takes X W) (Zx : XOk X.prog X.w X.K X.mg X.base x []) (hr : Room (k + 2) X.A) (hg : Gl X x) (hdb : (x == ("__debug__" : Str)) = false := by decide) :
    PS X (.Raise (some (.Call (.Name x p) [] [] pos2)) none pos) (EvS K Z W L (iRz x [] iNil)) := by
  subst hK
  refine (ps_raise hc tk (pmk_rz0 Zx hr hg hdb)).weak fun D σ H h => ?_
  have z := rz_ev (q := true) h
  obtain ⟨Sh, ρ, Q0, E0, R, h1, h2, h3⟩ := z
  exact h2 _ _ _ _ _ h1 (Mid.refl R) .nil
end
/-! ### operators -/
def pAdd : D → D → Option O
  | .int i, .int j => some (.fr (.int (i + j)))
  | .str a, .str b => if a.length + b.length ≤ LIM then some (.fr (.str (a ++ b))) else none
  | .lst a, .lst b => if a.length + b.length ≤ LIM then some (.lst (a ++ b)) else none
  | .tup a, .tup b => if a.length + b.length ≤ LIM then some (.fr (.tup (a ++ b))) else none
  | _, _ => none
def pSub : D → D → Option O
  | .int i, .int j => some (.fr (.int (i - j)))
  | _, _ => none
/-- (kept from being unfolded, in the kernel too) -/
theorem smallX : ∃ f : Int → Bool, ∀ i, f i = true ↔ -(2 ^ 64) < i ∧ i < 2 ^ 64 := ⟨fun i => decide (-(2 ^ 64) < i ∧ i < 2 ^ 64), fun _ => decide_eq_true_iff⟩
noncomputable def smallI : Int → Bool := Classical.choose smallX
theorem smallI_iff {i : Int} : smallI i = true ↔ -(2 ^ 64) < i ∧ i < 2 ^ 64 := Classical.choose_spec smallX i
theorem wordX : ∃ f : Int → Bool, ∀ i, f i = true ↔ -(2 ^ 63) ≤ i ∧ i < 2 ^ 63 := ⟨fun i => decide (-(2 ^ 63) ≤ i ∧ i < 2 ^ 63), fun _ => decide_eq_true_iff⟩
noncomputable def wordI : Int → Bool := Classical.choose wordX
theorem wordI_iff {i : Int} : wordI i = true ↔ -(2 ^ 63) ≤ i ∧ i < 2 ^ 63 := Classical.choose_spec wordX i
def repD (n : Nat) (ds : List D) : List D := (List.replicate n ds).flatten
noncomputable def pMul : D → D → Option O
  | .int i, .int j => if smallI i || smallI j then some (.fr (.int (i * j))) else none
  | .lst a, .int k => if wordI k = true ∧ a.length * k.toNat ≤ LIM then some (.lst (repD k.toNat a)) else none
  | _, _ => none
def pMod : D → D → Option O
  | .int i, .int j => if 0 < j then some (.fr (.int (i % j))) else none
  | _, _ => none
def pFdiv : D → D → Option O
  | .int i, .int j => if 0 < j ∧ j < 1073741824 then some (.fr (.int (i / j))) else none
  | _, _ => none
def pAnd : D → D → Option O
  | .int i, .int j => some (.fr (.int (Builtin.bitAnd i j)))
  | _, _ => none
def pOr : D → D → Option O
  | .int i, .int j => some (.fr (.int (Builtin.bitOr i j)))
  | _, _ => none
def pPow : D → D → Option O
  | .int i, .int j => if 0 ≤ j ∧ j ≤ 1000000 ∧ i.natAbs < 2 ^ 64 then some (.fr (.int (i ^ j.toNat))) else none
  | _, _ => none
def pNeg : D → Option O
  | .int i => some (.fr (.int (-i)))
  | _ => none
def pLt : D → D → Option O
  | .int i, .int j => some (.fr (.bl (decide (i < j))))
  | .str a, .str b => some (.fr (.bl (decide (a < b))))
  | _, _ => none
def pLe : D → D → Option O
  | .int i, .int j => some (.fr (.bl (decide (i ≤ j))))
  | .str a, .str b => some (.fr (.bl (!decide (b < a))))
  | _, _ => none
def pGt : D → D → Option O
  | .int i, .int j => some (.fr (.bl (decide (j < i))))
  | _, _ => none
def pGe : D → D → Option O
  | .int i, .int j => some (.fr (.bl (decide (j ≤ i))))
  | _, _ => none
mutual
def D.py : D → PyData
  | .non => .none
  | .bl b => .bool b
  | .int i => .int i
  | .str l => .str (S l)
  | .tup ds => .tuple (D.pyL ds)
  | .lst ds => .list (D.pyL ds)
  | .dic _ => .none
  | .dit _ => .none
  | .ins _ _ => .none
  | .scr _ => .none
def D.pyL : List D → List PyData
  | [] => []
  | d :: ds => D.py d :: D.pyL ds
end
mutual
/-- plain data that == reads -/
def D.shp : D → Bool
  | .non => true
  | .bl _ => true
  | .int _ => true
  | .str l => l.all (· < 0x110000)
  | .tup ds => D.shpL ds
  | .lst ds => D.shpL ds
  | _ => false
def D.shpL : List D → Bool
  | [] => true
  | d :: ds => D.shp d && D.shpL ds
end
mutual
def D.dep : D → Nat
  | .tup ds => D.depL ds + 1
  | .lst ds => D.depL ds + 1
  | _ => 0
def D.depL : List D → Nat
  | [] => 0
  | d :: ds => max (D.dep d) (D.depL ds)
end
def D.okEq (d : D) : Bool := d.shp && decide (d.dep ≤ 60)
section
variable {K : PySem.W.Frag} {Sh H : Hp}
mutual
theorem Fz.dp : ∀ (d : D) (v : V), Fz K Sh v d → d.shp = true → Dp K Sh v d.py
  | .non, _, h, _ => by cases h; exact .non
  | .bl b, _, h, _ => by cases h; exact .bl b
  | .int i, _, h, _ => by cases h; exact .int i
  | .str l, _, h, _ => by cases h; exact .str _
  | .tup ds, _, h, e => by
    cases h with
    | tup h1 h2 => exact .tup h1 (FzL.dp ds _ h2 e)
  | .lst ds, _, h, e => by
    cases h with
    | lst h1 h2 => exact .lst (SqL.of h1) (FzL.dp ds _ h2 e)
  | .dic _, _, _, e => by cases e
  | .dit _, _, _, e => by cases e
  | .ins _ _, _, _, e => by cases e
  | .scr _, _, _, e => by cases e
theorem FzL.dp : ∀ (ds : List D) (vs : List V), FzL K Sh vs ds → D.shpL ds = true → DpAll K Sh vs (D.pyL ds)
  | [], _, h, _ => by cases h; exact .nil
  | d :: ds, _, h, e => by
    cases h with
    | cons h1 h2 =>
      obtain ⟨e1, e2⟩ := Bool.and_eq_true_iff.mp e
      exact .cons (Fz.dp d _ h1 e1) (FzL.dp ds _ h2 e2)
end
mutual
theorem shp_lay : ∀ (d : D), d.shp = true → d.py.canLay0 = true
  | .non, _ => rfl
  | .bl b, _ => rfl
  | .int i, _ => rfl
  | .str l, e => by
    show PyData.strOk (S l) = true
    unfold PyData.strOk
    rw [← Array.all_toList]
    exact e
  | .tup ds, e => shpL_lay ds e
  | .lst ds, e => shpL_lay ds e
  | .dic _, e => by cases e
  | .dit _, e => by cases e
  | .ins _ _, e => by cases e
  | .scr _, e => by cases e
theorem shpL_lay : ∀ (ds : List D), D.shpL ds = true → PyData.canLayAll0 (D.pyL ds) = true
  | [], _ => rfl
  | d :: ds, e => by
    obtain ⟨e1, e2⟩ := Bool.and_eq_true_iff.mp e
    show (d.py.canLay0 && PyData.canLayAll0 (D.pyL ds)) = true
    rw [shp_lay d e1, shpL_lay ds e2]
    rfl
end
mutual
theorem dep_py : ∀ (d : D), d.py.depth ≤ d.dep + 1
  | .non => by simp [D.py, PyData.depth, D.dep]
  | .bl b => by simp [D.py, PyData.depth, D.dep]
  | .int i => by simp [D.py, PyData.depth, D.dep]
  | .str l => by simp [D.py, PyData.depth, D.dep]
  | .tup ds => by
    have := depL_py ds
    simp only [D.py, PyData.depth, D.dep]
    omega
  | .lst ds => by
    have := depL_py ds
    simp only [D.py, PyData.depth, D.dep]
    omega
  | .dic _ => by simp [D.py, PyData.depth, D.dep]
  | .dit _ => by simp [D.py, PyData.depth, D.dep]
  | .ins _ _ => by simp [D.py, PyData.depth, D.dep]
  | .scr _ => by simp [D.py, PyData.depth, D.dep]
theorem depL_py : ∀ (ds : List D), PyData.depthAll (D.pyL ds) ≤ D.depL ds + 1
  | [] => by simp [D.pyL, PyData.depthAll, D.depL]
  | d :: ds => by
    have h1 := dep_py d
    have h2 := depL_py ds
    simp only [D.pyL, PyData.depthAll, D.depL]
    omega
end
theorem okEq_shaped {d : D} (h : d.okEq = true) : SeqAt.shaped d.py = true := by
  obtain ⟨h1, h2⟩ := Bool.and_eq_true_iff.mp h
  unfold SeqAt.shaped
  rw [shp_lay d h1, Bool.true_and]
  have := dep_py d
  have := of_decide_eq_true h2
  exact decide_eq_true (by omega)
theorem Sv.dp (sh : Same Sh H) {v : V} {d : D} (h : Sv K Sh H v d) (e : d.shp = true) : Dp K H v d.py := by
  cases d with
  | lst ds =>
    obtain ⟨a, xs, rfl, h1, h2⟩ := h
    exact .lst (SqL.of h1) (FzL.dp ds xs (FzL.mono sh _ _ h2) e)
  | dic _ => cases e
  | dit _ => cases e
  | ins _ _ => cases e
  | scr _ => cases e
  | non => exact Fz.dp _ _ (Fz.mono sh _ _ h) e
  | bl _ => exact Fz.dp _ _ (Fz.mono sh _ _ h) e
  | int _ => exact Fz.dp _ _ (Fz.mono sh _ _ h) e
  | str _ => exact Fz.dp _ _ (Fz.mono sh _ _ h) e
  | tup _ => exact Fz.dp _ _ (Fz.mono sh _ _ h) e
end
/-- == of scalars -/
def scEq : D → D → Option Bool
  | .non, .non => some true
  | .int i, .int j => some (decide (i = j))
  | .bl i, .bl j => some (decide (i = j))
  | .str i, .str j => some (decide (i = j))
  | .non, .int _ | .non, .bl _ | .non, .str _ | .int _, .non | .bl _, .non | .str _, .non | .int _, .str _ | .str _, .int _ | .bl _, .str _ | .str _, .bl _ => some false
  | _, _ => none
def eqD (a b : D) : Option Bool := match scEq a b with
  | some r => some r
  | none => if a.okEq && b.okEq then some (PyData.eqv a.py b.py) else none
def pEq (a b : D) : Option O := (eqD a b).map fun r => .fr (.bl r)
def pNe (a b : D) : Option O := (eqD a b).map fun r => .fr (.bl (!r))
def anyEq (x : D) : List D → Bool
  | [] => false
  | d :: ds => PyData.eqv d.py x.py || anyEq x ds
def inD (x : D) : D → Option Bool
  | .str l => match x with
    | .str [c] => some (decide (c ∈ l))
    | _ => none
  | .lst ds => if x.okEq && (D.lst ds).okEq then some (anyEq x ds) else none
  | .tup ds => if flatD x && ds.all flatD then some (anyEq x ds) else none
  | _ => none
where
  flatD : D → Bool
    | .non => true
    | .bl _ => true
    | .int _ => true
    | .str _ => true
    | _ => false
def pIn (x y : D) : Option O := (inD x y).map fun r => .fr (.bl r)
def pNotIn (x y : D) : Option O := (inD x y).map fun r => .fr (.bl (!r))
def isN : D → Bool
  | .non => true
  | _ => false
def pIs : D → D → Option O
  | x, .non => some (.fr (.bl (isN x)))
  | _, _ => none
def pIsNot : D → D → Option O
  | x, .non => some (.fr (.bl (!isN x)))
  | _, _ => none
section
variable {X : Cx}
theorem sv_int {K : PySem.W.Frag} {Sh H : Hp} {v : V} {i : Int} (h : Sv K Sh H v (.int i)) : v = .int i := by
  cases (show Fz K Sh v (.int i) from h)
  rfl
theorem sv_str {K : PySem.W.Frag} {Sh H : Hp} {v : V} {l : List Nat} (h : Sv K Sh H v (.str l)) : v = .str (S l) := by
  cases (show Fz K Sh v (.str l) from h)
  rfl
theorem sv_tup {K : PySem.W.Frag} {Sh H : Hp} {v : V} {ds : List D} (sh : Same Sh H) (h : Sv K Sh H v (.tup ds)) : ∃ a xs, v = .ref a ∧ SqT K H a xs ∧ FzL K Sh xs ds := by
  cases (show Fz K Sh v (.tup ds) from h) with
  | tup h1 h2 => exact ⟨_, _, rfl, same_t sh h1, h2⟩
theorem sv_ne {K : PySem.W.Frag} {Sh H : Hp} {v : V} {d : D} (h : Sv K Sh H v d) : decide (v = .non) = isN d := by
  cases d with
  | lst ds =>
    obtain ⟨a, xs, rfl, _⟩ := h
    rfl
  | dic ds =>
    obtain ⟨a, xs, rfl, _⟩ := h
    rfl
  | dit ds =>
    obtain ⟨a, xs, rfl, _⟩ := h
    rfl
  | non => cases (show Fz K Sh v _ from h); rfl
  | bl _ => cases (show Fz K Sh v _ from h); rfl
  | int _ => cases (show Fz K Sh v _ from h); rfl
  | str _ => cases (show Fz K Sh v _ from h); rfl
  | tup _ => cases (show Fz K Sh v _ from h); rfl
  | ins _ _ => cases (show Fz K Sh v _ from h); rfl
  | scr _ => cases (show Fz K Sh v _ from h); rfl
theorem o_add : OpR X (binaryOp .Add) (rF X.K pAdd) := by
  intro pins s σ H x y v u Q I rx ry ⟨Sh, d1, d2, o, sh, s1, s2, e, q⟩
  unfold pAdd at e
  split at e
  · cases e
    rw [sv_int s1] at rx
    rw [sv_int s2] at ry
    exact op_add pins s σ H _ _ v u Q I rx ry ⟨_, _, rfl, rfl, q _ _ _ (Res.fr sh (.int _))⟩
  · split at e
    · rename_i hl
      cases e
      rw [sv_str s1] at rx
      rw [sv_str s2] at ry
      refine op_add_str pins s σ H _ _ v u Q I rx ry ⟨_, _, rfl, rfl, by rw [S_len, S_len]; exact sz _ hl, q _ _ _ (Res.fr sh ?_)⟩
      rw [S_cat]
      exact .str _
    · cases e
  · split at e
    · rename_i hl
      cases e
      obtain ⟨a, xs, rfl, h1, f1⟩ := s1
      obtain ⟨b, ys, rfl, h2, f2⟩ := s2
      exact op_cat pins s σ H _ _ v u Q I rx ry ⟨a, b, xs, ys, rfl, rfl, h1, h2, by rw [f1.len, f2.len]; exact sz _ hl, fun p hp => q _ _ _ (res_lst sh (f1.app f2) hp)⟩
    · cases e
  · split at e
    · rename_i hl
      cases e
      obtain ⟨a, xs, rfl, h1, f1⟩ := sv_tup sh s1
      obtain ⟨b, ys, rfl, h2, f2⟩ := sv_tup sh s2
      refine op_catA pins s σ H _ _ v u Q I rx ry ⟨a, b, xs, ys, rfl, rfl, h1, h2, by rw [f1.len, f2.len]; exact sz _ hl, fun e => ?_, fun _ e => ?_, fun _ _ p hp => q _ _ _ (res_tup sh (f1.app f2) hp)⟩
      · subst e
        cases f1
        exact q _ _ _ (Res.fr sh s2)
      · subst e
        cases f2
        rw [List.append_nil] at q
        exact q _ _ _ (Res.fr sh s1)
    · cases e
  · cases e
theorem o_sub : OpR X (binaryOp .Sub) (rF X.K pSub) := by
  intro pins s σ H x y v u Q I rx ry ⟨Sh, d1, d2, o, sh, s1, s2, e, q⟩
  unfold pSub at e
  split at e
  · cases e
    rw [sv_int s1] at rx
    rw [sv_int s2] at ry
    exact op_sub pins s σ H _ _ v u Q I rx ry ⟨_, _, rfl, rfl, q _ _ _ (Res.fr sh (.int _))⟩
  · cases e
theorem FzL.repl {K : PySem.W.Frag} {Sh : Hp} {vs : List V} {ds : List D} (h : FzL K Sh vs ds) : ∀ n : Nat, FzL K Sh (List.replicate n vs).flatten (repD n ds)
  | 0 => .nil
  | n + 1 => by
    unfold repD
    rw [List.replicate_succ, List.replicate_succ, List.flatten_cons, List.flatten_cons]
    exact h.app (FzL.repl h n)
theorem o_mul : OpR X (binaryOp .Mult) (rF X.K pMul) := by
  intro pins s σ H x y v u Q I rx ry ⟨Sh, d1, d2, o, sh, s1, s2, e, q⟩
  unfold pMul at e
  split at e
  · split at e
    · rename_i hb
      cases e
      rw [sv_int s1] at rx
      rw [sv_int s2] at ry
      refine op_mul pins s σ H _ _ v u Q I rx ry ⟨_, _, rfl, rfl, ?_, q _ _ _ (Res.fr sh (.int _))⟩
      rcases Bool.or_eq_true_iff.mp hb with z | z
      · exact .inl (smallI_iff.mp z)
      · exact .inr (smallI_iff.mp z)
    · cases e
  · split at e
    · rename_i hl
      cases e
      obtain ⟨a, xs, rfl, h1, f1⟩ := s1
      rw [sv_int s2] at ry
      exact op_rep pins s σ H _ _ v u Q I rx ry ⟨a, _, xs, rfl, rfl, h1, (wordI_iff.mp hl.1).1, (wordI_iff.mp hl.1).2, by rw [f1.len]; exact sz _ hl.2, fun p hp => q _ _ _ (res_lst sh (f1.repl _) hp)⟩
    · cases e
  · cases e
theorem o_mod : OpR X (binaryOp .Mod) (rF X.K pMod) := by
  intro pins s σ H x y v u Q I rx ry ⟨Sh, d1, d2, o, sh, s1, s2, e, q⟩
  unfold pMod at e
  split at e
  · split at e
    · rename_i hl
      cases e
      rw [sv_int s1] at rx
      rw [sv_int s2] at ry
      exact op_mod pins s σ H _ _ v u Q I rx ry ⟨_, _, rfl, rfl, hl, q _ _ _ (Res.fr sh (.int _))⟩
    · cases e
  · cases e
theorem o_fdiv : OpR X (binaryOp .FloorDiv) (rF X.K pFdiv) := by
  intro pins s σ H x y v u Q I rx ry ⟨Sh, d1, d2, o, sh, s1, s2, e, q⟩
  unfold pFdiv at e
  split at e
  · split at e
    · rename_i hl
      cases e
      rw [sv_int s1] at rx
      rw [sv_int s2] at ry
      exact op_fdiv pins s σ H _ _ v u Q I rx ry ⟨_, _, rfl, rfl, hl, q _ _ _ (Res.fr sh (.int _))⟩
    · cases e
  · cases e
theorem o_pow : OpR X (binaryOp .Pow) (rF X.K pPow) := by
  intro pins s σ H x y v u Q I rx ry ⟨Sh, d1, d2, o, sh, s1, s2, e, q⟩
  unfold pPow at e
  split at e
  · split at e
    · rename_i hl
      cases e
      rw [sv_int s1] at rx
      rw [sv_int s2] at ry
      exact op_pow pins s σ H _ _ v u Q I rx ry ⟨_, _, rfl, rfl, hl, q _ _ _ (Res.fr sh (.int _))⟩
    · cases e
  · cases e
theorem o_and : OpR X (binaryOp .BitAnd) (rF X.K pAnd) := by
  intro pins s σ H x y v u Q I rx ry ⟨Sh, d1, d2, o, sh, s1, s2, e, q⟩
  unfold pAnd at e
  split at e
  · cases e
    rw [sv_int s1] at rx
    rw [sv_int s2] at ry
    exact op_and pins s σ H _ _ v u Q I rx ry ⟨_, _, rfl, rfl, q _ _ _ (Res.fr sh (.int _))⟩
  · cases e
theorem o_or : OpR X (binaryOp .BitOr) (rF X.K pOr) := by
  intro pins s σ H x y v u Q I rx ry ⟨Sh, d1, d2, o, sh, s1, s2, e, q⟩
  unfold pOr at e
  split at e
  · cases e
    rw [sv_int s1] at rx
    rw [sv_int s2] at ry
    exact op_or pins s σ H _ _ v u Q I rx ry ⟨_, _, rfl, rfl, q _ _ _ (Res.fr sh (.int _))⟩
  · cases e
theorem o_neg : UnR X (unaryOp .USub) (uF X.K pNeg) := by
  intro pins s σ H x v Q I rx ⟨Sh, d, o, sh, s1, e, q⟩
  unfold pNeg at e
  split at e
  · cases e
    rw [sv_int s1] at rx
    exact un_neg pins s σ H _ v Q I rx ⟨_, rfl, q _ _ _ (Res.fr sh (.int _))⟩
  · cases e
theorem o_lt : OpR X (compareOp .Lt) (rF X.K pLt) := by
  intro pins s σ H x y v u Q I rx ry ⟨Sh, d1, d2, o, sh, s1, s2, e, q⟩
  unfold pLt at e
  split at e
  · cases e
    rw [sv_int s1] at rx
    rw [sv_int s2] at ry
    exact op_lt pins s σ H _ _ v u Q I rx ry ⟨_, _, rfl, rfl, q _ _ _ (Res.fr sh (.bl _))⟩
  · cases e
    rw [sv_str s1] at rx
    rw [sv_str s2] at ry
    exact op_lt_str pins s σ H _ _ v u Q I rx ry ⟨_, _, rfl, rfl, q _ _ _ (Res.fr sh (.bl _))⟩
  · cases e
theorem o_le : OpR X (compareOp .LtE) (rF X.K pLe) := by
  intro pins s σ H x y v u Q I rx ry ⟨Sh, d1, d2, o, sh, s1, s2, e, q⟩
  unfold pLe at e
  split at e
  · cases e
    rw [sv_int s1] at rx
    rw [sv_int s2] at ry
    exact op_le pins s σ H _ _ v u Q I rx ry ⟨_, _, rfl, rfl, q _ _ _ (Res.fr sh (.bl _))⟩
  · cases e
    rw [sv_str s1] at rx
    rw [sv_str s2] at ry
    exact op_le_str pins s σ H _ _ v u Q I rx ry ⟨_, _, rfl, rfl, q _ _ _ (Res.fr sh (.bl _))⟩
  · cases e
theorem o_gt : OpR X (compareOp .Gt) (rF X.K pGt) := by
  intro pins s σ H x y v u Q I rx ry ⟨Sh, d1, d2, o, sh, s1, s2, e, q⟩
  unfold pGt at e
  split at e
  · cases e
    rw [sv_int s1] at rx
    rw [sv_int s2] at ry
    exact op_gt pins s σ H _ _ v u Q I rx ry ⟨_, _, rfl, rfl, q _ _ _ (Res.fr sh (.bl _))⟩
  · cases e
theorem o_ge : OpR X (compareOp .GtE) (rF X.K pGe) := by
  intro pins s σ H x y v u Q I rx ry ⟨Sh, d1, d2, o, sh, s1, s2, e, q⟩
  unfold pGe at e
  split at e
  · cases e
    rw [sv_int s1] at rx
    rw [sv_int s2] at ry
    exact op_ge pins s σ H _ _ v u Q I rx ry ⟨_, _, rfl, rfl, q _ _ _ (Res.fr sh (.bl _))⟩
  · cases e
theorem sc_rel {K : PySem.W.Frag} {Sh H : Hp} {x y : V} {a b : D} {r : Bool} (e : scEq a b = some r) (s1 : Sv K Sh H x a) (s2 : Sv K Sh H y b) : scal x y = true ∧ decide (x = y) = r := by
  unfold scEq at e
  split at e <;> first
    | (cases e
       cases (show Fz K Sh x _ from s1)
       cases (show Fz K Sh y _ from s2)
       refine ⟨rfl, ?_⟩
       first
         | rfl
         | (rename_i i j
            by_cases h : i = j
            · subst h; simp
            · rw [decide_eq_false h]
              exact decide_eq_false (fun z => h (by first | exact V.int.inj z | exact V.bl.inj z | exact S_inj (V.str.inj z)))))
    | cases e
theorem o_eq (hu : X.A.units + 64 < cLine) : OpR X (compareOp .Eq) (rF X.K pEq) := by
  intro pins s σ H x y v u Q I rx ry ⟨Sh, d1, d2, o, sh, s1, s2, e, q⟩
  unfold pEq eqD at e
  cases hs : scEq d1 d2 with
  | some r =>
    rw [hs] at e
    cases e
    obtain ⟨h1, h2⟩ := sc_rel hs s1 s2
    exact op_eq pins s σ H _ _ v u Q I rx ry ⟨h1, by rw [h2]; exact q _ _ _ (Res.fr sh (.bl r))⟩
  | none =>
    rw [hs] at e
    dsimp only at e
    split at e
    · rename_i hk
      cases e
      obtain ⟨k1, k2⟩ := Bool.and_eq_true_iff.mp hk
      exact op_eqD hu pins s σ H _ _ v u Q I rx ry ⟨d1.py, d2.py, s1.dp sh (Bool.and_eq_true_iff.mp k1).1, s2.dp sh (Bool.and_eq_true_iff.mp k2).1, okEq_shaped k1, okEq_shaped k2, q _ _ _ (Res.fr sh (.bl _))⟩
    · cases e
theorem o_ne (hu : X.A.units + 64 < cLine) : OpR X (compareOp .NotEq) (rF X.K pNe) := by
  intro pins s σ H x y v u Q I rx ry ⟨Sh, d1, d2, o, sh, s1, s2, e, q⟩
  unfold pNe eqD at e
  cases hs : scEq d1 d2 with
  | some r =>
    rw [hs] at e
    cases e
    obtain ⟨h1, h2⟩ := sc_rel hs s1 s2
    exact op_ne pins s σ H _ _ v u Q I rx ry ⟨h1, by rw [h2]; exact q _ _ _ (Res.fr sh (.bl (!r)))⟩
  | none =>
    rw [hs] at e
    dsimp only at e
    split at e
    · rename_i hk
      cases e
      obtain ⟨k1, k2⟩ := Bool.and_eq_true_iff.mp hk
      exact op_neD hu pins s σ H _ _ v u Q I rx ry ⟨d1.py, d2.py, s1.dp sh (Bool.and_eq_true_iff.mp k1).1, s2.dp sh (Bool.and_eq_true_iff.mp k2).1, okEq_shaped k1, okEq_shaped k2, q _ _ _ (Res.fr sh (.bl _))⟩
    · cases e
theorem o_is : OpR X (compareOp .Is) (rF X.K pIs) := by
  intro pins s σ H x y v u Q I rx ry ⟨Sh, d1, d2, o, sh, s1, s2, e, q⟩
  unfold pIs at e
  split at e
  · cases e
    cases (show Fz _ _ y .non from s2)
    exact op_isN pins s σ H _ _ v u Q I rx ry ⟨rfl, by rw [sv_ne s1]; exact q _ _ _ (Res.fr sh (.bl _))⟩
  · cases e
theorem o_isnot : OpR X (compareOp .IsNot) (rF X.K pIsNot) := by
  intro pins s σ H x y v u Q I rx ry ⟨Sh, d1, d2, o, sh, s1, s2, e, q⟩
  unfold pIsNot at e
  split at e
  · cases e
    cases (show Fz _ _ y .non from s2)
    exact op_notN pins s σ H _ _ v u Q I rx ry ⟨rfl, by rw [sv_ne s1]; exact q _ _ _ (Res.fr sh (.bl _))⟩
  · cases e
theorem any_py (x : D) : ∀ ds : List D, ((D.pyL ds).any fun z => PyData.eqv z x.py) = anyEq x ds
  | [] => rfl
  | d :: ds => by
    show (PyData.eqv d.py x.py || (D.pyL ds).any _) = (PyData.eqv d.py x.py || anyEq x ds)
    rw [any_py x ds]
theorem flat_rel {K : PySem.W.Frag} {Sh H : Hp} {v : V} {d : D} (h : Sv K Sh H v d) (e : inD.flatD d = true) : flatV v = true ∧ ∀ {w : V} {d' : D}, Sv K Sh H w d' → inD.flatD d' = true → eqV w v = PyData.eqv d'.py d.py := by
  have key : ∀ {v : V} {d : D}, Sv K Sh H v d → inD.flatD d = true → (v = .non ∧ d = .non) ∨ (∃ b, v = .bl b ∧ d = .bl b) ∨ (∃ b, v = .int b ∧ d = .int b) ∨ (∃ b, v = .str (S b) ∧ d = .str b) := fun {v d} h e => by
    cases d with
    | non => cases (show Fz K Sh v _ from h); exact .inl ⟨rfl, rfl⟩
    | bl b => cases (show Fz K Sh v _ from h); exact .inr (.inl ⟨_, rfl, rfl⟩)
    | int b => cases (show Fz K Sh v _ from h); exact .inr (.inr (.inl ⟨_, rfl, rfl⟩))
    | str b => cases (show Fz K Sh v _ from h); exact .inr (.inr (.inr ⟨_, rfl, rfl⟩))
    | _ => cases e
  rcases key h e with ⟨rfl, rfl⟩ | ⟨b, rfl, rfl⟩ | ⟨b, rfl, rfl⟩ | ⟨b, rfl, rfl⟩ <;> refine ⟨rfl, fun {w d'} h' e' => ?_⟩ <;>
    rcases key h' e' with ⟨rfl, rfl⟩ | ⟨b', rfl, rfl⟩ | ⟨b', rfl, rfl⟩ | ⟨b', rfl, rfl⟩ <;> simp [eqV, D.py, PyData.eqv]
theorem flat_any {K : PySem.W.Frag} {Sh H : Hp} (sh : Same Sh H) {v : V} {d : D} (h : Sv K Sh H v d) (e : inD.flatD d = true) : ∀ {xs : List V} {ds : List D}, FzL K Sh xs ds → ds.all inD.flatD = true → xs.all flatV = true ∧ inV v xs = anyEq d ds
  | _, _, .nil, _ => ⟨rfl, rfl⟩
  | _, _, .cons f q, z => by
    rw [List.all_cons] at z
    obtain ⟨z1, z2⟩ := Bool.and_eq_true_iff.mp z
    obtain ⟨i1, i2⟩ := flat_any sh h e q z2
    have sv := Fz.sv sh f
    refine ⟨?_, ?_⟩
    · rw [List.all_cons, (flat_rel sv z1).1, i1]
      rfl
    · unfold inV at i2 ⊢
      rw [List.any_cons, i2, (flat_rel h e).2 sv z1]
      rfl
theorem o_inb {K : PySem.W.Frag} {Sh H : Hp} {x y : V} {d1 d2 : D} {r : Bool} (sh : Same Sh H) (s1 : Sv K Sh H x d1) (s2 : Sv K Sh H y d2) (e : inD d1 d2 = some r) :
    (∃ (c : Nat) (z : Str), x = .str ⟨#[c]⟩ ∧ y = .str z ∧ r = decide (c ∈ z.cps.toList)) ∨ (∃ d ds, Dp K H x d ∧ Dp K H y (.list ds) ∧ SeqAt.shaped d = true ∧ SeqAt.shaped (.list ds) = true ∧ r = ds.any fun z => PyData.eqv z d) ∨
      ∃ p xs, y = .ref p ∧ (SqL K H p xs ∨ SqT K H p xs) ∧ flatV x = true ∧ xs.all flatV = true ∧ r = inV x xs := by
  unfold inD at e
  split at e
  · split at e
    · cases e
      exact .inl ⟨_, _, sv_str s1, sv_str s2, rfl⟩
    · cases e
  · split at e
    · rename_i hk
      cases e
      obtain ⟨k1, k2⟩ := Bool.and_eq_true_iff.mp hk
      exact .inr (.inl ⟨d1.py, _, s1.dp sh (Bool.and_eq_true_iff.mp k1).1, s2.dp sh (Bool.and_eq_true_iff.mp k2).1, okEq_shaped k1, okEq_shaped k2, (any_py _ _).symm⟩)
    · cases e
  · split at e
    · rename_i hk
      cases e
      obtain ⟨k1, k2⟩ := Bool.and_eq_true_iff.mp hk
      obtain ⟨a, xs, rfl, h1, f1⟩ := sv_tup sh s2
      obtain ⟨i1, i2⟩ := flat_any sh s1 k1 f1 k2
      exact .inr (.inr ⟨a, xs, rfl, .inr h1, (flat_rel s1 k1).1, i1, i2.symm⟩)
    · cases e
  · cases e
theorem o_in (hu : X.A.units + 65 < cLine) : OpR X (compareOp .In) (rF X.K pIn) := by
  intro pins s σ H x y v u Q I rx ry ⟨Sh, d1, d2, o, sh, s1, s2, e, q⟩
  unfold pIn at e
  cases hr : inD d1 d2 with
  | none =>
    rw [hr] at e
    cases e
  | some r =>
    rw [hr] at e
    cases e
    have hq : Q (.bl r) H := q _ _ _ (Res.fr sh (.bl r))
    rcases o_inb sh s1 s2 hr with ⟨c, z, rfl, rfl, rfl⟩ | ⟨d, ds, h1, h2, h3, h4, rfl⟩ | ⟨p, xs, rfl, h1, h2, h3, rfl⟩
    · exact op_in_sign pins s σ H _ _ v u Q I rx ry ⟨c, z, rfl, rfl, hq⟩
    · exact op_inD hu pins s σ H _ _ v u Q I rx ry ⟨d, ds, h1, h2, h3, h4, hq⟩
    · exact op_in_seq pins s σ H _ _ v u Q I rx ry ⟨p, xs, rfl, h1, h2, h3, hq⟩
theorem o_notin (hu : X.A.units + 65 < cLine) : OpR X (compareOp .NotIn) (rF X.K pNotIn) := by
  intro pins s σ H x y v u Q I rx ry ⟨Sh, d1, d2, o, sh, s1, s2, e, q⟩
  unfold pNotIn at e
  cases hr : inD d1 d2 with
  | none =>
    rw [hr] at e
    cases e
  | some r =>
    rw [hr] at e
    cases e
    have hq : Q (.bl (!r)) H := q _ _ _ (Res.fr sh (.bl (!r)))
    rcases o_inb sh s1 s2 hr with ⟨c, z, rfl, rfl, rfl⟩ | ⟨d, ds, h1, h2, h3, h4, rfl⟩ | ⟨p, xs, rfl, h1, h2, h3, rfl⟩
    · exact op_notIn_sign pins s σ H _ _ v u Q I rx ry ⟨c, z, rfl, rfl, hq⟩
    · exact op_notInD hu pins s σ H _ _ v u Q I rx ry ⟨d, ds, h1, h2, h3, h4, hq⟩
    · exact op_notIn_seq pins s σ H _ _ v u Q I rx ry ⟨p, xs, rfl, h1, h2, h3, hq⟩
end
end G48

set_option Elab.async false
set_option linter.all false
set_option maxRecDepth 100000
set_option maxHeartbeats 4000000
namespace G48
open PySem PySem.Spec PyProof.Rows L2 SX
/-! list.extend of a tuple; slices and sums of tuples in a world -/
theorem list_extend_tup (l : Addr) (items : Array Value) (n : Nat) (b : Addr) (items2 : Array Value) (n2 : Nat) (dct : Option Addr) (sl : Array (Option Value)) (hs0 : ¬(!items.isEmpty && Builtin.List.listTooLong (items.size + items2.size)) = true) (hs1 : items.size ≤ sizeLine) (hs2 : items.size + items2.size ≤ sizeLine + 1) :
    Meets (Builtin.«list.extend» ⟨[.ref l, .ref b], []⟩) (fun _ R s => s.heap.get? l = some { cls := .type "list", dict := none, data := .seq items n, slots := #[] } ∧ s.heap.get? b = some { cls := .type "tuple", dict := dct, data := .seq items2 n2, slots := sl } ∧ R (.ok (.ret Value.none)) { s with heap := s.heap.update l (Obj.mapSeq fun x => x ++ items2), toks := s.toks }) :=
  .of_wp fun prog w A R s h => by
    obtain ⟨hp, g, d, tk, os⟩ := s; obtain ⟨hl, hb, h⟩ := h; have f1 := AutoSeq1.idx_int; have f2 := AutoSeq1.sub_tuple_tuple; have f3 := AutoSeq1.sub_list_list; have f4 := AutoSeq1.sub_tuple_list; have f5 := AutoSeq1.sub_list_tuple
    have hz' : (items ++ items2).size ≤ sizeLine + 1 := by rw [Array.size_append]; exact hs2
    wp_walk using (wpAny_updateSeq hl rfl (hz := hs1) (_hz' := hz')), AutoSeq1.wpAny_loadPart' hl, AutoSeq1.wpAny_loadPart' hb; exact ⟨_, rfl, h⟩
def rExtendT (K : PySem.W.Frag) : V → List V → Hp → VK → Prop := fun x vs H Q => ∃ l b xs zs, x = .ref l ∧ vs = [.ref b] ∧ H l = some (.lst xs) ∧ SqT K H b zs ∧ xs.length + zs.length ≤ sizeLine ∧ Q .non (upd H l (.lst (xs ++ zs)))
theorem mt_extendT {X : Cx} : MtM X "list.extend" (rExtendT X.K) := by
  intro pins s σ H x vs v us Q I rx rv h
  obtain ⟨l, b, xs, zs, rfl, rfl, hH, hB, hz, q⟩ := h
  cases rx
  obtain ⟨u, rfl, ru⟩ := rv.one
  cases ru
  obtain ⟨z, its, n, r, hl, e⟩ := I.lstM hH
  obtain ⟨its2, r2, ⟨⟨oc, od, dt, osl⟩, e2, hc2, n2, hd2⟩, z2⟩ := I.tuple hB
  replace hc2 : oc = .type "tuple" := hc2
  replace hd2 : dt = .seq its2.toArray n2 := hd2
  subst hc2 hd2
  have hl2 := r2.length
  have hsz : its.toArray.size + its2.toArray.size ≤ sizeLine := by rw [List.size_toArray, List.size_toArray]; omega
  have hlong : ¬ (!its.toArray.isEmpty && Builtin.List.listTooLong (its.toArray.size + its2.toArray.size)) = true := by
    rw [notLongL hsz, Bool.and_false]
    exact Bool.false_ne_true
  refine call_meets F.slot_list_extend ⟨_, e, rfl⟩ F.entry_list_extend (F.args_list_extend_2 _ _)
    (list_extend_tup l its.toArray n b its2.toArray n2 od osl hlong (by rw [List.size_toArray]; omega) (by omega)) ⟨e, e2, ?_⟩
  refine ⟨.non, _, I.lset (its' := its ++ its2) hH e (by simp) (r.append r2) ?_, rfl, q⟩
  rw [List.length_append]
  omega
theorem cut_full {xs : List V} {lo hi : Option Int} (h : HT.sIx xs.length 0 lo = 0 ∧ HT.sIx xs.length xs.length hi = xs.length) : cutV xs lo hi = xs := by
  unfold cutV
  rw [h.1, h.2, List.drop_zero, Nat.sub_zero]
  exact List.take_length
section
variable {M : List Addr} {Wr : Hp → Hp → Prop} {K : PySem.W.Frag} {Sh H : Hp} {a c : Addr} {xs ys : List V} {Q : VK}
theorem rd_slT (A : Wld M Wr) (W : Wr Sh H) (h : Sh a = some (.tup xs)) (lo hi : Option Int) (k : ∀ {S' H' : Hp} {p : Addr}, Gr M Sh H S' H' → Wr S' H' → S' p = some (.tup (cutV xs lo hi)) → Q (.ref p) H') : rSlA K (.ref a) lo hi H Q := by
  refine ⟨a, xs, rfl, SqT.of (A.sh W _ _ h), fun e => k (Gr.refl _ _ _) W (by rw [cut_full e]; exact h), fun _ p hp => k ((Gr.refl M Sh H).new (A.sh W) hp) (A.new W hp) upd_same⟩
theorem rd_catT (A : Wld M Wr) (W : Wr Sh H) (h : Sh a = some (.tup xs)) (h' : Sh c = some (.tup ys)) (hz : xs.length + ys.length ≤ sizeLine) (k : ∀ {S' H' : Hp} {p : Addr}, Gr M Sh H S' H' → Wr S' H' → S' p = some (.tup (xs ++ ys)) → Q (.ref p) H') : rCatA K (.ref a) (.ref c) H Q := by
  refine ⟨a, c, xs, ys, rfl, rfl, SqT.of (A.sh W _ _ h), SqT.of (A.sh W _ _ h'), hz, fun e => k (Gr.refl _ _ _) W (by rw [e]; exact h'), fun _ e => k (Gr.refl _ _ _) W (by rw [e, List.append_nil]; exact h), fun _ _ p hp => k ((Gr.refl M Sh H).new (A.sh W) hp) (A.new W hp) upd_same⟩
end

/-! enumerate of a tuple -/
theorem meets_enumerate_new1 {v : Value} {o : Obj} {Hh : Heap → Prop} (B : Begins v o Hh) :
    Meets (Builtin.«enumerate.__new__» ⟨[.type "enumerate", v], []⟩) (fun _ R s => Hh s.heap ∧
      R (.ok (.ret (.ref (s.heap.push o).objs.size))) { s with heap := (s.heap.push o).push { cls := .type "enumerate", data := .fields #[.none, .bool false, .ref s.heap.objs.size, rawInt 0, .none, .none] } }) :=
  .of_wp fun prog w A R s h => by
    obtain ⟨hp, g, d, tk, os⟩ := s; obtain ⟨h1, h⟩ := h
    have hsub := sub_enumerate
    have q1 : ∀ {A' : Around} {E : Value → Shared → Prop} {Q : Value → Shared → Prop}, Q (.ref hp.objs.size) ⟨hp.push o, g, d, tk, os⟩ → wpAny (model prog w) A' (pyIter v) Q E ⟨hp, g, d, tk, os⟩ :=
      fun q => B.iter prog w _ _ ⟨hp, g, d, tk, os⟩ _ h1 q
    wp_walk using q1
    refine wpAny_stack_any fun st => wpAny_pure ?_
    split
    · rename_i c _ _ _ _ _
      cases (c == Value.type "enumerate")
      · wp_walk using q1
        exact ⟨_, rfl, h⟩
      · wp_walk using q1
        exact ⟨_, rfl, h⟩
    · wp_walk using q1
      exact ⟨_, rfl, h⟩
theorem enum_begins1 {prog : Program} {w : World} {A : Around} {E : Value → Shared → Prop} {s : Shared} {v : Value} {o : Obj} {Hh : Heap → Prop} {Q : Value → Shared → Prop} (B : Begins v o Hh) (h1 : Hh s.heap)
    (h : ∀ h', IsEnum h' (s.heap.objs.size + 1) s.heap.objs.size 0 .none → h'.get? s.heap.objs.size = some o → h'.objs.size = s.heap.objs.size + 2 →
      (∀ b o, s.heap.get? b = some o → h'.get? b = some o) → Q (.ref (s.heap.objs.size + 1)) { s with heap := h' }) :
    wpAny (model prog w) A (call (.type "enumerate") [v]) Q E s := by
  refine callType_new F.called_enumerate (by decide) (F.typeCall_enumerate_1 _) (F.newCall_enumerate_1 _) (fun obj => F.args_object_init_2 obj _) F.entry_enumerate_new (meets_enumerate_new1 B) ⟨h1, ?_⟩
  have hz : (s.heap.push o).objs.size = s.heap.objs.size + 1 := Heap.size_push ..
  show _ ∧ _
  rw [hz]
  have he : IsEnum ((s.heap.push o).push { cls := .type "enumerate", data := .fields #[.none, .bool false, .ref s.heap.objs.size, rawInt 0, .none, .none] }) (s.heap.objs.size + 1) s.heap.objs.size 0 .none := by
    have := Heap.get?_push_size (s.heap.push o) (o := { cls := .type "enumerate", data := .fields #[.none, .bool false, .ref s.heap.objs.size, rawInt 0, .none, .none] }) rfl
    rw [hz] at this; exact this
  refine ⟨⟨_, he, rfl⟩, h _ he (Heap.get?_push_of_some _ (Heap.get?_push_size _ B.free)) (by rw [Heap.size_push, hz]) fun b o x => Heap.get?_push_of_some _ (Heap.get?_push_of_some _ x)⟩
/-- the tuple at a, each item in a new pair -/
def IteT (K : PySem.W.Frag) (a : Addr) : It :=
  ⟨fun i H => ∃ (xs : List V) (x : V), SqT K H a xs ∧ xs[i]? = some x, fun i H v H' => ∃ T x, v = .ref T ∧ H T = none ∧ H' = upd H T (.tup [.int (i : Nat), x]) ∧ ∀ xs, SqT K H a xs → xs[i]? = some x, fun i H => ∃ xs : List V, SqT K H a xs ∧ xs.length = i⟩
theorem turn_enumT {P : Program} {w : World} {K : PySem.W.Frag} {elts : List Expr} {kk : Nat} {tpos : Pos} (a e it : Addr) :
    Turn P w K (.Tuple elts kk tpos) (IteT K a) [e, it] e (fun i h => (∃ old, IsEnum h e it ((i : Nat) : Int) old) ∧ h.IsTupleIter it a i ∧ e ≠ it ∧ a ≠ it ∧ e ≠ a) where
  mem := by simp
  obj := fun i h st b hb => by
    obtain ⟨⟨old, he⟩, ⟨o, ho, hc, hd⟩, _⟩ := st
    have e' : b = e ∨ b = it := by simpa using hb
    rcases e' with z | z
    · rw [z]; exact ⟨_, he, fun v q => nomatch q⟩
    · rw [z]; exact ⟨o, ho, fun v q => by rw [hd] at q; cases q⟩
  keep := fun i h h' st k => let ⟨⟨old, he⟩, hi, hne⟩ := st; ⟨⟨old, k e (by simp) _ he⟩, hi.at fun o q => k it (by simp) o q, hne⟩
  item := by
    intro X hP hw hK hc i pins s σ H E I hf st hg
    subst hP hw hK
    obtain ⟨⟨old, he⟩, hit, hne, hai, hea⟩ := st
    obtain ⟨xs, x, hq, hx⟩ := hg
    obtain ⟨its, rv, p, hz⟩ := I.tuple hq
    obtain ⟨u, hu, ru⟩ := rv.get hx
    have hel : e < s.heap.objs.size := Heap.lt_size he
    have hil : it < s.heap.objs.size := by obtain ⟨_, q, _⟩ := hit; exact Heap.lt_size q
    have hlt : i < its.toArray.size := by
      have := (List.getElem?_eq_some_iff.mp hu).1
      simpa using this
    refine wpAny_pyNext_enum_itemD (Draws.tuple (show X.A.in1.handled = none from I.ok.hd hc) it a hai its.toArray) he ⟨hit, p⟩ hlt hne (by simp; exact ⟨hne, hea⟩) fun x' h' tk hx' ho st' hT hsz hk => ?_
    have ex : x' = u := by
      have q1 : its.toArray[i]? = some x' := hx'
      rw [List.getElem?_toArray, hu] at q1
      exact (Option.some.inj q1).symm
    subst ex
    refine ⟨_, rfl, wpAny_letOwnedTupleGo_enum (s := { s with heap := h', toks := tk + 1 }) ho fun h'' he' sb => ?_⟩
    have hT2 : h''.get? s.heap.objs.size = some { cls := .type "tuple", data := .seq #[.int i tk, x'] } := (sb.2 _ (Nat.ne_of_gt hel)).trans hT
    have new : ObjOk X.prog X.w (upd H s.heap.objs.size (.tup [.int (i : Nat), x])) h'' s.heap.objs.size (.tup [.int (i : Nat), x]) :=
      ⟨by show 2 ≤ sizeLine; decide, [.int i tk, x'], .cons ⟨_, rfl⟩ (.cons ru .nil), ⟨_, hT2, rfl, _, rfl⟩⟩
    have I1 : Inv X pins σ (upd H s.heap.objs.size (.tup [.int (i : Nat), x])) { s with heap := h'', toks := tk + 1 } :=
      I.turnedNew (ch := [e, it]) (fun b ob hb q => (sb.2 b (fun z => hb (by simp [z]))).trans (hk b ob (fun z => hb (by simp [z])) (fun z => hb (by simp [z])) q)) hf (Nat.le_refl _) new
    refine ⟨.ref s.heap.objs.size, _, I1, rfl, ⟨_, x, rfl, I.hok.fresh (Nat.le_refl _), rfl, fun ys hy => by rw [I.tuple_inj hy hq]; exact hx⟩, ⟨⟨x', ?_⟩, st'.1.at fun o q => (sb.2 it (Ne.symm hne)).trans q, hne, hai, hea⟩, fun b hb => ?_⟩
    · have e1 : ((i + 1 : Nat) : Int) = (i : Int) + 1 := by omega
      rw [e1]; exact he'
    · have hb' : b < s.heap.objs.size := by
        have e' : b = e ∨ b = it := by simpa using hb
        rcases e' with z | z
        · rw [z]; exact hel
        · rw [z]; exact hil
      rw [upd_ne (Nat.ne_of_lt hb')]
      exact (hf b hb).1
  done := by
    intro X hP hw hK hc i pins s σ H E I hf st hg
    subst hP hw hK
    obtain ⟨⟨old, he⟩, hit, hne, hai, hea⟩ := st
    obtain ⟨xs, hq, hx⟩ := hg
    obtain ⟨its, rv, p, hz⟩ := I.tuple hq
    obtain ⟨f0, f1, f2, f3, f4, f5⟩ := hf it (by simp)
    have hl := rv.length
    have en : its.toArray.size = i := by simp; omega
    have hD := Draws.tuple (prog := X.prog) (w := X.w) (show X.A.in1.handled = none from I.ok.hd hc) it a hai its.toArray
    rw [en] at hD
    exact wpAny_pyNext_enum_endD hD he ⟨hit, p⟩ fun h' eb => ⟨rfl, I.turned (t' := s.toks) (fun b o hb q => eb b o hb q) f0 f1 f3 f4 f5⟩
  self := fun A i s Q E st h => let ⟨⟨_, he⟩, _⟩ := st; wpAny_pyIter_enum he h
def iEnumT (K : PySem.W.Frag) (ta : TA) : TI := fun σ H R => ta σ H fun vs H1 => ∃ a xs, vs = [.ref a] ∧ SqT K H1 a xs ∧ R (IteT K a) H1
theorem pi_enumT {X : Cx} {e : Expr} {ta : TA} {p pos tpos : Pos} {elts : List Expr} {kk : Nat} (hg : Gl X "enumerate") (hm : X.mg "enumerate" = none) (ha : PA X [e] ta) (hs : starEach [e] X.env = [(false, eval e X.env)] := by rfl) :
    PI X (.Tuple elts kk tpos) (.Call (.Name "enumerate" p) [e] [] pos) (iEnumT X.K ta) := by
  refine ⟨fun pins s σ H R I h => ?_⟩
  refine Call_ (ld_blt I hg hm boot_enumerate (PyProof.Rows.callWith_type1 (thn (ha.run pos pins s σ H _ I h) fun us s1 ⟨vs, H1, I1, r1, q1⟩ => ?_) hs rfl))
  obtain ⟨a, xs, ex, hq, q⟩ := q1
  subst ex
  cases r1 with
  | cons r rr =>
    cases rr
    cases r
    obtain ⟨its, rv, p', hz⟩ := I1.tuple hq
    have hal : a < s1.heap.objs.size := by obtain ⟨o, ho, _⟩ := p'; exact Heap.lt_size ho
    refine enum_begins1 (begins_tuple a its.toArray) p' fun h' he hit hsz hk => wpAny_pyIter_enum he ?_
    have I2 : Inv X pins σ H1 { s1 with heap := h' } := I1.kept (t' := s1.toks) hk
    refine ⟨s1.heap.objs.size + 1, [s1.heap.objs.size + 1, s1.heap.objs.size], _, _, H1, rfl, I2, turn_enumT a (s1.heap.objs.size + 1) s1.heap.objs.size, ⟨⟨.none, he⟩, ⟨_, hit, rfl, rfl⟩, Nat.succ_ne_self _, Nat.ne_of_lt hal, Nat.ne_of_gt (Nat.lt_succ_of_lt hal)⟩, fun b hb => ?_, q⟩
    have e' : b = s1.heap.objs.size + 1 ∨ b = s1.heap.objs.size := by simpa using hb
    have hle : s1.heap.objs.size ≤ b := by
      rcases e' with z | z
      · rw [z]; exact Nat.le_add_right _ _
      · rw [z]; exact Nat.le_refl _
    exact I1.fpOk hle (I1.hok.fresh hle)
theorem walk_enumT {K : PySem.W.Frag} {a : Addr} {xs : List V} : Walk (IteT K a) xs.length (fun H => SqT K H a xs) (YPair (fun i => some (.int (i : Nat))) (fun i => xs[i]?)) := by
  refine ⟨fun i _ hi q => ⟨xs, xs[i], q, by simp [hi]⟩, fun _ q => ⟨xs, q, rfl⟩, fun i H v H' _ q y => ?_⟩
  obtain ⟨T, x, h1, h2, h3, h4⟩ := y
  exact ⟨T, .int (i : Nat), x, h1, h2, h3, rfl, h4 xs q⟩
end G48

set_option Elab.async false
set_option linter.all false
set_option maxRecDepth 100000
set_option maxHeartbeats 4000000
namespace G48
open PySem PySem.Spec PyProof.Rows L2 SX
/-! ### subscripts, slices -/
def pIx : D → D → Option O
  | .lst ds, .int i => (atI ds i).map .fr
  | .tup ds, .int i => (atI ds i).map .fr
  | .str l, .int i => if l.length ≤ LIM then (atI l i).map fun c => .fr (.str [c]) else none
  | _, _ => none
def cutL {α : Type} (xs : List α) (lo hi : Option Int) : List α := (xs.drop (HT.sIx xs.length 0 lo)).take (HT.sIx xs.length xs.length hi - HT.sIx xs.length 0 lo)
def pSl : D → Option Int → Option Int → Option O
  | .lst ds, lo, hi => some (.lst (cutL ds lo hi))
  | .tup ds, lo, hi => some (.fr (.tup (cutL ds lo hi)))
  | .str l, lo, hi => if l.length ≤ LIM then some (.fr (.str (cutL l lo hi))) else none
  | .scr ns, lo, hi => some (.lst (cutL (ns.map .int) lo hi))
  | _, _, _ => none
theorem fzl_ints {K : PySem.W.Frag} {Sh : Hp} : ∀ ns : List Int, FzL K Sh (ns.map V.int) (ns.map D.int)
  | [] => .nil
  | n :: ns => .cons (.int n) (fzl_ints ns)
abbrev IO := En → (Option Int → En → Prop) → (Xc → En → Prop) → Prop
def oNo : IO := fun ρ Q _ => Q none ρ
def oSo (w : IE) : IO := fun ρ Q E => w ρ (fun u ρ1 => ob ((rdU ρ1 u).bind iD) fun i => Q (some i) ρ1) E
def iSl (ql : Bool) (w : IE) (l h : IO) : IE := fun ρ Q E => w ρ (fun u ρ1 => okp ql u ∧ l ρ1 (fun lo ρ2 => h ρ2 (fun hi ρ3 => ob (rdU ρ3 u) fun d => ob (pSl d lo hi) fun o => Q (.va o) ρ3) E) E) E
def EvO (K : PySem.W.Frag) (Z : Zt) (W : WX) (q : Bool) (w : IO) : TO := fun σ H Q => ∃ Sh ρ Q0 E0, Rl K Z Sh H σ ρ ∧ w ρ Q0 E0 ∧
  (∀ i ρ' S' H', Q0 i ρ' → Mid K Z q Sh H σ ρ ρ' S' H' → Q i H') ∧ (∀ x ρ' S' H' cls d, E0 x ρ' → Px K Z Sh H σ ρ x ρ' S' H' cls d → W cls d σ H')
theorem _root_.L2.PO.weak {X : Cx} {e : Option Expr} {t t' : TO} (h : PO X e t) (i : ∀ σ H Q, t' σ H Q → t σ H Q) : PO X e t' := ⟨fun pins s σ H Q I q => h.run pins s σ H Q I (i σ H Q q)⟩
section
variable {K : PySem.W.Frag} {Sh H : Hp}
theorem FzL.atI {vs : List V} {ds : List D} {i : Int} {d : D} (f : FzL K Sh vs ds) (h : atI ds i = some d) : ∃ v, L2.atI vs i = some v ∧ Fz K Sh v d := by
  unfold L2.atI at h ⊢
  rw [f.len]
  cases q : ixN ds.length i with
  | none =>
    rw [q] at h
    cases h
  | some j =>
    rw [q] at h
    exact f.getD h
theorem FzL.cut {vs : List V} {ds : List D} (f : FzL K Sh vs ds) (lo hi : Option Int) : FzL K Sh (cutV vs lo hi) (cutL ds lo hi) := by
  unfold cutV cutL
  rw [f.len]
  exact (f.drop _).take _
end
section
variable {X : Cx} {K : PySem.W.Frag} {Z : Zt} {W : WX} {q qa qb qc : Bool} {w wa wb : IE} {e a b : Expr} {lo hi : Option Expr} {pos p2 : Pos} {l h : IO}
theorem o_ix : IxR X (rF X.K pIx) := by
  intro vl sl pins s σ H x y v u Q I rx ry ⟨Sh, d1, d2, o, sh, s1, s2, e, q⟩ hs
  unfold pIx at e
  split at e
  · rename_i ds i
    cases hd : L2.atI ds i with
    | none =>
      rw [hd] at e
      cases e
    | some d =>
      rw [hd] at e
      cases e
      obtain ⟨a, xs, rfl, h1, f1⟩ := s1
      rw [sv_int s2] at ry
      obtain ⟨v', hv, fv⟩ := f1.atI hd
      exact ix_list vl sl pins s σ H _ _ v u Q I rx ry ⟨a, xs, i, v', rfl, rfl, SqL.of h1, hv, q _ _ _ (Res.fr sh fv)⟩ hs
  · rename_i ds i
    cases hd : L2.atI ds i with
    | none =>
      rw [hd] at e
      cases e
    | some d =>
      rw [hd] at e
      cases e
      obtain ⟨a, xs, rfl, h1, f1⟩ := sv_tup sh s1
      rw [sv_int s2] at ry
      obtain ⟨v', hv, fv⟩ := f1.atI hd
      exact ix_tup vl sl pins s σ H _ _ v u Q I rx ry ⟨a, xs, i, v', rfl, rfl, h1, hv, q _ _ _ (Res.fr sh fv)⟩ hs
  · rename_i l i
    split at e
    · rename_i hl
      cases hd : L2.atI l i with
      | none =>
        rw [hd] at e
        cases e
      | some c =>
        rw [hd] at e
        cases e
        rw [sv_str s1] at rx
        rw [sv_int s2] at ry
        exact ix_str vl sl pins s σ H _ _ v u Q I rx ry ⟨S l, i, c, rfl, rfl, by rw [S_len]; exact sz _ hl, hd, q _ _ _ (Res.fr sh (.str [c]))⟩ hs
    · cases e
  · cases e
def sF (K : PySem.W.Frag) : V → Option Int → Option Int → Hp → VK → Prop := fun x lo hi H Q => ∃ Sh d o, Same Sh H ∧ Sv K Sh H x d ∧ pSl d lo hi = some o ∧ ∀ S' H' v, Res K Sh H o v S' H' → Q v H'
theorem o_sl : SlR X (sF X.K) := by
  intro pins s σ H x v vl vu lo hi sl Q I rx hs pl pu ⟨Sh, d, o, sh, s1, e, q⟩
  unfold pSl at e
  split at e
  · cases e
    obtain ⟨a, xs, rfl, h1, f1⟩ := s1
    exact sl_list pins s σ H _ v vl vu lo hi sl Q I rx hs pl pu ⟨a, xs, rfl, SqL.of h1, fun p hp => q _ _ _ (res_lst sh (f1.cut lo hi) hp)⟩
  · rename_i ds
    cases e
    have s1' := s1
    obtain ⟨a, xs, rfl, h1, f1⟩ := sv_tup sh s1
    refine sl_tupA pins s σ H _ v vl vu lo hi sl Q I rx hs pl pu ⟨a, xs, rfl, h1, fun hh => ?_, fun _ p hp => q _ _ _ (res_tup sh (f1.cut lo hi) hp)⟩
    have e2 : cutL ds lo hi = ds := by
      unfold cutL
      rw [← f1.len, hh.1, hh.2, List.drop_zero, Nat.sub_zero, f1.len, List.take_length]
    rw [e2] at q
    exact q _ _ _ (Res.fr sh s1')
  · rename_i l
    split at e
    · rename_i hl
      cases e
      rw [sv_str s1] at rx
      refine sl_str pins s σ H _ v vl vu lo hi sl Q I rx hs pl pu ⟨S l, rfl, by rw [S_len]; exact sz _ hl, q _ _ _ (Res.fr sh ?_)⟩
      have e2 : cutS (S l) lo hi = S (cutL l lo hi) := by
        unfold cutS cutL
        rw [S_len]
      rw [e2]
      exact .str _
    · cases e
  · rename_i ns
    cases e
    cases (show Fz X.K Sh x (.scr ns) from s1) with
    | scr h1 => exact sl_list pins s σ H _ v vl vu lo hi sl Q I rx hs pl pu ⟨_, _, rfl, sh.seq h1, fun p hp => q _ _ _ (res_lst sh ((fzl_ints ns).cut lo hi) hp)⟩
  · cases e
theorem eo_none : PO X none (EvO K Z W true oNo) := po_none.weak fun σ H Q ⟨Sh, ρ, Q0, E0, R, h, hq, _⟩ => hq _ _ _ _ h (Mid.refl R)
theorem eo_some (he : PE X e (Ev K Z W q w)) : PO X (some e) (EvO K Z W q (oSo w)) := by
  refine (po_some he).weak fun σ H Q ⟨Sh, ρ, Q0, E0, R, h, hq, hx⟩ => ?_
  refine ⟨Sh, ρ, _, E0, R, h, fun u ρ1 S1 H1 v h1 p1 => ?_, hx⟩
  obtain ⟨i, e1, h1⟩ := ob_ex h1
  cases hr : rdU ρ1 u with
  | none =>
    rw [hr] at e1
    cases e1
  | some d =>
    rw [hr] at e1
    cases d with
    | int j =>
      cases e1
      exact ⟨i, sv_int (p1.ev.sv p1.rl hr), hq _ _ _ _ h1 p1.mid⟩
    | _ => cases e1
theorem ev_sl (hK : X.K = K) (he : PE X e (Ev K Z W qa w)) (hl : PO X lo (EvO K Z W qb l)) (hh : PO X hi (EvO K Z W qc h)) : PE X (.Subscript e (.Slice lo hi none p2) pos) (Ev K Z W (qa && (qb && qc)) (iSl (qb && qc) w l h)) := by
  subst hK
  refine (pe_slice o_sl he hl hh).weak fun σ H Q ⟨Sh, ρ, Q0, E0, R, h, hq, hx⟩ => ?_
  refine ⟨Sh, ρ, _, E0, R, h, fun u ρ1 S1 H1 v1 ⟨ok, h1⟩ p1 => ?_, hx⟩
  refine ⟨S1, ρ1, _, E0, p1.rl, h1, fun lo ρ2 S2 H2 h2 m2 => ?_, fun x ρ' S' H' cls d e p => hx x ρ' S' H' cls d e (p1.mid.px p)⟩
  refine ⟨S2, ρ2, _, E0, m2.rl, h2, fun hi ρ3 S3 H3 h3 m3 => ?_, fun x ρ' S' H' cls d e p => hx x ρ' S' H' cls d e ((p1.mid.trans m2).px p)⟩
  obtain ⟨d, e1, h3⟩ := ob_ex h3
  obtain ⟨o, e2, h3⟩ := ob_ex h3
  have m23 := m2.trans m3
  exact ⟨S3, d, o, m3.rl.sh, (p1.ev.step p1.rl m23 ok).sv m3.rl e1, e2, fun S' H' v r => hq _ _ _ _ _ h3 ((p1.mid.trans m23).fin r)⟩
/-! ### built-ins of one argument -/
def c1F (K : PySem.W.Frag) (f : D → Option O) : List V → Hp → VK → Prop := fun xs H Q => ∃ x, xs = [x] ∧ uF K f x H Q
theorem b1_ev {f : D → Option O} {σ : L2.St} {H : Hp} {Q : VK} (h : Ev K Z W qa (iUn f wa) σ H Q) : tCB (c1F K f) (tCons (Ev K Z W qa wa) tNil) σ H Q := by
  obtain ⟨Sh, ρ, Q0, E0, R, h, hq, hx⟩ := h
  refine ⟨Sh, ρ, _, E0, R, h, fun a ρ1 S1 H1 v1 h1 p1 => ?_, hx⟩
  obtain ⟨d1, e1, h1⟩ := ob_ex h1
  obtain ⟨o, e3, h1⟩ := ob_ex h1
  exact ⟨v1, rfl, S1, d1, o, p1.rl.sh, p1.ev.sv p1.rl e1, e3, fun S' H' v r => hq _ _ _ _ _ h1 (p1.mid.fin r)⟩
theorem ev_b1 {x : Str} {id : String} {f : D → Option O} {p : Pos} (hK : X.K = K) (hc : CallR X (.builtin id) (c1F X.K f)) (hg : Gl X x) (hm : X.mg x = none) (hv : bootBuiltins x = some (.builtin id)) (ha : PE X a (Ev K Z W qa wa)) (hs : starEach [a] X.env = [(false, eval a X.env)] := by rfl)
    (hnn : x ≠ "__name__" := by decide) (hdb : (x == ("__debug__" : Str)) = false := by decide) (he : starEach [a] X.env = (false, eval a X.env) :: starEach [] X.env := by rfl) (hpl : (backTo pos (starEach [] X.env)).any (·.1) = false := by rfl) :
    PE X (.Call (.Name x p) [a] [] pos) (Ev K Z W qa (iUn f wa)) := by
  subst hK
  exact (pe_callB hc hg hm hv (pa_cons ha pa_nil he) hnn hdb he hpl).weak fun σ H Q h => b1_ev h
theorem ev_t1 {x : Str} {id : String} {f : D → Option O} {p : Pos} (hK : X.K = K) (hc : CallR X (.type id) (c1F X.K f)) (hg : Gl X x) (hm : X.mg x = none) (hv : bootBuiltins x = some (.type id)) (ha : PE X a (Ev K Z W qa wa)) (hs : starEach [a] X.env = [(false, eval a X.env)] := by rfl)
    (hnn : x ≠ "__name__" := by decide) (hdb : (x == ("__debug__" : Str)) = false := by decide) (he : starEach [a] X.env = (false, eval a X.env) :: starEach [] X.env := by rfl) (hpl : (backTo pos (starEach [] X.env)).any (·.1) = false := by rfl) :
    PE X (.Call (.Name x p) [a] [] pos) (Ev K Z W qa (iUn f wa)) := by
  subst hK
  exact (pe_callTy hc hg hm hv (pa_cons ha pa_nil he) hnn hdb he hpl).weak fun σ H Q h => b1_ev h
def pLen : D → Option O
  | .lst ds => some (.fr (.int ds.length))
  | .tup ds => some (.fr (.int ds.length))
  | .str l => if l.length ≤ LIM then some (.fr (.int l.length)) else none
  | .dic kvs => some (.fr (.int kvs.length))
  | _ => none
theorem FzK.len {K : PySem.W.Frag} {Sh : Hp} : ∀ {vs : List (Key × V)} {ds : List (D × D)}, FzK K Sh vs ds → vs.length = ds.length
  | _, _, .nil => rfl
  | _, _, .cons _ q => congrArg (· + 1) (FzK.len q)
theorem b_len : CallR X (.builtin "len") (c1F X.K pLen) := by
  intro pins s σ H xs us Q I r hh
  obtain ⟨x, rfl, Sh, d, o, sh, s1, e, q⟩ := hh
  unfold pLen at e
  split at e
  · cases e
    obtain ⟨a, xs, rfl, h1, f1⟩ := s1
    exact call_len pins s σ H _ us Q I r ⟨_, xs.length, rfl, .inl ⟨xs, SqL.of h1, rfl⟩, by rw [f1.len]; exact q _ _ _ (Res.fr sh (.int _))⟩
  · cases e
    obtain ⟨a, xs, rfl, h1, f1⟩ := sv_tup sh s1
    exact call_len pins s σ H _ us Q I r ⟨_, xs.length, rfl, .inr ⟨xs, h1, rfl⟩, by rw [f1.len]; exact q _ _ _ (Res.fr sh (.int _))⟩
  · rename_i l
    split at e
    · rename_i hl
      cases e
      rw [sv_str s1] at r
      exact call_len pins s σ H _ us Q I r ⟨_, l.length, rfl, ⟨by rw [S_len]; exact sz _ hl, by rw [S_len]⟩, q _ _ _ (Res.fr sh (.int _))⟩
    · cases e
  · cases e
    obtain ⟨a, xs, rfl, h1, f1⟩ := s1
    obtain ⟨u, rfl, ru⟩ := vals1 r
    cases ru
    exact d_len I h1 fun t s' I' => ⟨.int xs.length, H, I', ⟨t, rfl⟩, by rw [f1.len]; exact q _ _ _ (Res.fr sh (.int _))⟩
  · cases e
def bls : List D → Option (List Bool)
  | [] => some []
  | .bl b :: ds => (bls ds).map (b :: ·)
  | _ :: _ => none
def nts : List D → Option (List Int)
  | [] => some []
  | .int b :: ds => (nts ds).map (b :: ·)
  | _ :: _ => none
def sts : List D → Option (List (List Nat))
  | [] => some []
  | .str b :: ds => (sts ds).map (b :: ·)
  | _ :: _ => none
theorem FzL.bls {K : PySem.W.Frag} {Sh : Hp} : ∀ {vs : List V} {ds : List D} {bs : List Bool}, FzL K Sh vs ds → bls ds = some bs → vs = bs.map V.bl
  | _, _, bs, .nil, e => by cases e; rfl
  | _, _, bs, @FzL.cons _ _ v vs d ds h q, e => by
    cases d with
    | bl b =>
      unfold G48.bls at e
      cases hq : G48.bls ds with
      | none =>
        rw [hq] at e
        cases e
      | some bs' =>
        rw [hq] at e
        cases e
        cases h
        rw [FzL.bls q hq]
        rfl
    | _ => cases e
theorem FzL.nts {K : PySem.W.Frag} {Sh : Hp} : ∀ {vs : List V} {ds : List D} {bs : List Int}, FzL K Sh vs ds → nts ds = some bs → vs = bs.map V.int
  | _, _, bs, .nil, e => by cases e; rfl
  | _, _, bs, @FzL.cons _ _ v vs d ds h q, e => by
    cases d with
    | int b =>
      unfold G48.nts at e
      cases hq : G48.nts ds with
      | none =>
        rw [hq] at e
        cases e
      | some bs' =>
        rw [hq] at e
        cases e
        cases h
        rw [FzL.nts q hq]
        rfl
    | _ => cases e
theorem FzL.sts {K : PySem.W.Frag} {Sh : Hp} : ∀ {vs : List V} {ds : List D} {bs : List (List Nat)}, FzL K Sh vs ds → sts ds = some bs → vs = (bs.map S).map V.str
  | _, _, bs, .nil, e => by cases e; rfl
  | _, _, bs, @FzL.cons _ _ v vs d ds h q, e => by
    cases d with
    | str b =>
      unfold G48.sts at e
      cases hq : G48.sts ds with
      | none =>
        rw [hq] at e
        cases e
      | some bs' =>
        rw [hq] at e
        cases e
        cases h
        rw [FzL.sts q hq]
        rfl
    | _ => cases e
def pAll : D → Option O
  | .lst ds => (bls ds).map fun bs => .fr (.bl (bs.all id))
  | _ => none
def pAny : D → Option O
  | .lst ds => (bls ds).map fun bs => .fr (.bl (bs.any id))
  | _ => none
def pSum : D → Option O
  | .lst ds => (nts ds).map fun ns => .fr (.int ns.sum)
  | _ => none
theorem b_all (hc : X.calm = true) : CallR X (.builtin "all") (c1F X.K pAll) := by
  intro pins s σ H xs us Q I r hh
  obtain ⟨x, rfl, Sh, d, o, sh, s1, e, q⟩ := hh
  unfold pAll at e
  split at e
  · rename_i ds
    cases hb : bls ds with
    | none =>
      rw [hb] at e
      cases e
    | some bs =>
      rw [hb] at e
      cases e
      obtain ⟨a, xs, rfl, h1, f1⟩ := s1
      rw [f1.bls hb] at h1
      exact cr_all hc pins s σ H _ us Q I r ⟨a, bs, rfl, SqL.of h1, q _ _ _ (Res.fr sh (.bl _))⟩
  · cases e
theorem b_any (hc : X.calm = true) : CallR X (.builtin "any") (c1F X.K pAny) := by
  intro pins s σ H xs us Q I r hh
  obtain ⟨x, rfl, Sh, d, o, sh, s1, e, q⟩ := hh
  unfold pAny at e
  split at e
  · rename_i ds
    cases hb : bls ds with
    | none =>
      rw [hb] at e
      cases e
    | some bs =>
      rw [hb] at e
      cases e
      obtain ⟨a, xs, rfl, h1, f1⟩ := s1
      rw [f1.bls hb] at h1
      exact cr_any hc pins s σ H _ us Q I r ⟨a, bs, rfl, SqL.of h1, q _ _ _ (Res.fr sh (.bl _))⟩
  · cases e
theorem b_sum (hc : X.calm = true) : CallR X (.builtin "sum") (c1F X.K pSum) := by
  intro pins s σ H xs us Q I r hh
  obtain ⟨x, rfl, Sh, d, o, sh, s1, e, q⟩ := hh
  unfold pSum at e
  split at e
  · rename_i ds
    cases hb : nts ds with
    | none =>
      rw [hb] at e
      cases e
    | some bs =>
      rw [hb] at e
      cases e
      obtain ⟨a, xs, rfl, h1, f1⟩ := s1
      rw [f1.nts hb] at h1
      exact cr_sum hc pins s σ H _ us Q I r ⟨a, bs, rfl, SqL.of h1, q _ _ _ (Res.fr sh (.int _))⟩
  · cases e
def pInt : D → Option O
  | .int i => some (.fr (.int i))
  | .bl b => some (.fr (.int (if b then 1 else 0)))
  | _ => none
theorem b_int : CallR X (.type "int") (c1F X.K pInt) := by
  intro pins s σ H xs us Q I r hh
  obtain ⟨x, rfl, Sh, d, o, sh, s1, e, q⟩ := hh
  unfold pInt at e
  split at e
  · cases e
    rw [sv_int s1] at r
    exact call_int1 pins s σ H _ us Q I r (.inl ⟨_, rfl, q _ _ _ (Res.fr sh (.int _))⟩)
  · cases e
    cases (show Fz _ _ x (.bl _) from s1)
    exact call_int1 pins s σ H _ us Q I r (.inr ⟨_, rfl, q _ _ _ (Res.fr sh (.int _))⟩)
  · cases e
def pList : D → Option O
  | .lst ds => some (.lst ds)
  | .tup ds => some (.lst ds)
  | _ => none
def pTuple : D → Option O
  | .lst ds => some (.fr (.tup ds))
  | .tup ds => some (.fr (.tup ds))
  | _ => none
theorem b_list : CallR X (.type "list") (c1F X.K pList) := by
  intro pins s σ H xs us Q I r hh
  obtain ⟨x, rfl, Sh, d, o, sh, s1, e, q⟩ := hh
  unfold pList at e
  split at e
  · cases e
    obtain ⟨a, xs, rfl, h1, f1⟩ := s1
    exact call_list_of pins s σ H _ us Q I r ⟨a, xs, rfl, .inl (SqL.of h1), fun p hp => q _ _ _ (res_lst sh f1 hp)⟩
  · cases e
    obtain ⟨a, xs, rfl, h1, f1⟩ := sv_tup sh s1
    exact call_list_of pins s σ H _ us Q I r ⟨a, xs, rfl, .inr h1, fun p hp => q _ _ _ (res_lst sh f1 hp)⟩
  · cases e
theorem b_tuple : CallR X (.type "tuple") (c1F X.K pTuple) := by
  intro pins s σ H xs us Q I r hh
  obtain ⟨x, rfl, Sh, d, o, sh, s1, e, q⟩ := hh
  unfold pTuple at e
  split at e
  · cases e
    obtain ⟨a, xs, rfl, h1, f1⟩ := s1
    exact call_tuple_of pins s σ H _ us Q I r ⟨a, xs, rfl, .inl ⟨SqL.of h1, fun p hp => q _ _ _ (res_tup sh f1 hp)⟩⟩
  · cases e
    have s1' := s1
    obtain ⟨a, xs, rfl, h1, f1⟩ := sv_tup sh s1
    exact call_tuple_of pins s σ H _ us Q I r ⟨a, xs, rfl, .inr ⟨h1, q _ _ _ (Res.fr sh s1')⟩⟩
  · cases e
/-! ### isinstance -/
def tyD : D → Option String
  | .non => some "NoneType"
  | .bl _ => some "bool"
  | .int _ => some "int"
  | .str _ => some "str"
  | .tup _ => some "tuple"
  | .lst _ => some "list"
  | .dic _ => some "dict"
  | _ => none
def isiD (T : String) (d : D) : Option O := match tyD d with
  | some t => some (.fr (.bl (t == T || (t == "bool" && T == "int"))))
  | none => none
def tyAll : List String := ["NoneType", "bool", "int", "str", "tuple", "list", "dict"]
theorem kit_all : ∀ t ∈ tyAll, ∀ T ∈ tyAll, T ≠ "NoneType" → kitB t T = some (t == T || (t == "bool" && T == "int")) := by decide +kernel
theorem tyx_of {K : PySem.W.Frag} {Sh H : Hp} {v : V} {d : D} {t : String} (sh : Same Sh H) (s1 : Sv K Sh H v d) (h : tyD d = some t) : TyX K H v (.type t) := by
  cases d with
  | non => cases h; cases (show Fz K Sh v _ from s1); exact .base .non
  | bl b => cases h; cases (show Fz K Sh v _ from s1); exact .base (.bl b)
  | int b => cases h; cases (show Fz K Sh v _ from s1); exact .base (.int b)
  | str b => cases h; cases (show Fz K Sh v _ from s1); exact .base (.str _)
  | lst ds =>
    cases h
    obtain ⟨a, xs, rfl, h1, f1⟩ := s1
    exact .base (.lst h1)
  | tup ds =>
    cases h
    obtain ⟨a, xs, rfl, h1, f1⟩ := sv_tup sh s1
    rcases h1 with (h1 | ⟨o, h1⟩) | ⟨o, its, n, h1, h2, _⟩
    · exact .base (.tup h1)
    · exact .fTuple h1
    · exact .kTuple h1 h2
  | dic ds =>
    cases h
    obtain ⟨a, xs, rfl, h1, f1⟩ := s1
    rcases h1 with h1 | ⟨o, h1⟩
    · exact .base (.dK h1)
    · exact .fDict h1
  | ins _ _ => cases h
  | scr _ => cases h
  | dit _ => cases h
theorem tyD_mem {d : D} {t : String} (h : tyD d = some t) : t ∈ tyAll := by
  cases d <;> cases h <;> decide
theorem ev_isi {T : String} {Tx : Str} {p p1 : Pos} (hK : X.K = K) (hT : T ∈ tyAll ∧ T ≠ "NoneType") (hg : Gl X "isinstance") (hm : X.mg "isinstance" = none) (hgT : Gl X Tx) (hmT : X.mg Tx = none) (hvT : bootBuiltins Tx = some (.type T)) (ha : PE X a (Ev K Z W qa wa))
    (hnT : Tx ≠ "__name__" := by decide) (hdT : (Tx == ("__debug__" : Str)) = false := by decide) (he : starEach [a, .Name Tx p1] X.env = (false, eval a X.env) :: starEach [.Name Tx p1] X.env := by rfl) (he2 : starEach [.Name Tx p1] X.env = (false, eval (.Name Tx p1) X.env) :: starEach [] X.env := by rfl) :
    PE X (.Call (.Name "isinstance" p) [a, .Name Tx p1] [] pos) (Ev K Z W qa (iUn (isiD T) wa)) := by
  subst hK
  have hpl : (backTo pos (starEach [.Name Tx p1] X.env)).any (·.1) = false := by
    rw [he2]
    rfl
  refine (pe_callB call_isi hg hm (by decide +kernel) (pa_cons ha (pa_cons (pe_bltn (v := .ty T) hgT hmT hvT rfl hnT hdT) pa_nil he2) he) (he := he) (hpl := hpl)).weak fun σ H Q ⟨Sh, ρ, Q0, E0, R, h, hq, hx⟩ => ?_
  refine ⟨Sh, ρ, _, E0, R, h, fun u ρ1 S1 H1 v1 h1 p1 => ?_, hx⟩
  obtain ⟨d, e1, h1⟩ := ob_ex h1
  obtain ⟨o, e2, h1⟩ := ob_ex h1
  unfold isiD at e2
  cases ht : tyD d with
  | none =>
    rw [ht] at e2
    cases e2
  | some t =>
    rw [ht] at e2
    cases e2
    exact ⟨v1, .ty T, .type t, .type T, _, rfl, .ty T, tyx_of p1.rl.sh (p1.ev.sv p1.rl e1) ht, kit_ty (kit_all t (tyD_mem ht) T hT.1 hT.2), hq _ _ _ _ _ h1 (p1.mid.fin (Res.fr p1.rl.sh (.bl _)))⟩
/-! ### join, f-strings -/
def joinL (sep : List Nat) : List (List Nat) → List Nat
  | [] => []
  | [x] => x
  | x :: xs => x ++ sep ++ joinL sep xs
end
end G48

set_option Elab.async false
set_option linter.all false
set_option maxRecDepth 100000
set_option maxHeartbeats 4000000
namespace G48
open PySem PySem.Spec PyProof.Rows L2 SX
/-! ### methods of texts -/
def sD : D → Option (List Nat)
  | .str l => some l
  | _ => none
def iM1 (f : List Nat → D → Option O) (wo we : IE) : IE := fun ρ Q E => wo ρ (fun u ρ1 => ob ((rdU ρ1 u).bind sD) fun l => we ρ1 (fun v ρ2 => ob (rdU ρ2 v) fun d => ob (f l d) fun o => Q (.va o) ρ2) E) E
def m1F (K : PySem.W.Frag) (f : List Nat → D → Option O) : V → List V → Hp → VK → Prop := fun x xs H Q => ∃ Sh l y d o, Same Sh H ∧ x = .str (S l) ∧ xs = [y] ∧ Sv K Sh H y d ∧ f l d = some o ∧ ∀ S' H' v, Res K Sh H o v S' H' → Q v H'
def pJoin (a : List Nat) : D → Option O
  | .lst ds => (sts ds).bind fun ys => if (ys.map (·.length)).sum + ys.length * a.length ≤ LIM then some (.fr (.str (TL.joinL a ys))) else none
  | .tup ds => (sts ds).bind fun ys => if (ys.map (·.length)).sum + ys.length * a.length ≤ LIM then some (.fr (.str (TL.joinL a ys))) else none
  | _ => none
section
variable {X : Cx} {K : PySem.W.Frag} {Z : Zt} {W : WX} {L : List Nat} {q qa qb qc : Bool} {w wa wb : IE} {ra : IA} {e o a b : Expr} {es : List Expr} {pos : Pos}
theorem rd_str {Sh H : Hp} {σ : L2.St} {ρ : En} {u : U} {v : V} {l : List Nat} (R : Rl K Z Sh H σ ρ) (h : EAt K Sh H σ ρ u v) (e : (rdU ρ u).bind sD = some l) : v = .str (S l) := by
  cases hr : rdU ρ u with
  | none =>
    rw [hr] at e
    cases e
  | some d =>
    rw [hr] at e
    cases d with
    | str l' =>
      cases e
      exact sv_str (h.sv R hr)
    | _ => cases e
theorem ev_m1 {id : String} {name : Str} {apos : Pos} {f : List Nat → D → Option O} (hK : X.K = K) (slot : Slot "str" name id) (ty : typeOf (.builtin id) = pure (.type "method_descriptor")) (rule : MtR X id (m1F X.K f)) (ho : PE X o (Ev K Z W qa wa)) (he : PE X e (Ev K Z W qb wb))
    (hs : starEach [e] X.env = [(false, eval e X.env)] := by rfl) (hbase : attributeBase o name X.env (eval o X.env) = eval o X.env := by rfl) (hline : (apos.endLine == pos.line) = true := by rfl) : PE X (.Call (.Attribute o name apos) [e] [] pos) (Ev K Z W (qa && qb) (iM1 f wa wb)) := by
  subst hK
  refine (pe_m1 slot ty rule ho he hs hbase hline).weak fun σ H Q ⟨Sh, ρ, Q0, E0, R, h, hq, hx⟩ => ?_
  refine ⟨Sh, ρ, _, E0, R, h, fun u ρ1 S1 H1 v1 h1 p1 => ?_, hx⟩
  obtain ⟨l, e1, h1⟩ := ob_ex h1
  have ev := rd_str p1.rl p1.ev e1
  refine ⟨⟨_, ev⟩, S1, ρ1, _, E0, p1.rl, h1, fun v ρ2 S2 H2 v2 h2 p2 => ?_, fun x ρ' S' H' cls d e p => hx x ρ' S' H' cls d e (p1.mid.px p)⟩
  obtain ⟨d, e2, h2⟩ := ob_ex h2
  obtain ⟨o, e3, h2⟩ := ob_ex h2
  exact ⟨S2, l, v2, d, o, p2.rl.sh, ev, rfl, p2.ev.sv p2.rl e2, e3, fun S' H' v r => hq _ _ _ _ _ h2 ((p1.mid.trans p2.mid).fin r)⟩
theorem m_join : MtR X "str.join" (m1F X.K pJoin) := by
  intro pins s σ H x xs v us Q I rx rxs hh
  obtain ⟨Sh, l, y, d, o, sh, rfl, rfl, sv, e, q⟩ := hh
  have fin : ∀ {ys : List (List Nat)} {p : Addr} {vs : List V}, y = .ref p → vs = (ys.map S).map V.str → (SqL X.K H p vs ∨ SqT X.K H p vs) → (if (ys.map (·.length)).sum + ys.length * l.length ≤ LIM then some (O.fr (.str (TL.joinL l ys))) else none) = some o → wpAny (model X.prog X.w) X.A (call (.builtin "str.join") (v :: us)) (EP X pins σ Q) X.xe s := fun {ys p vs} e1 e2 e3 e4 => by
    subst e1 e2
    split at e4
    · rename_i hl
      cases e4
      refine mt_join pins s σ H _ _ v us Q I rx rxs ⟨S l, p, ys.map S, rfl, rfl, e3, ?_, ?_⟩
      · rw [lens, S_len, List.length_map]
        exact Nat.le_trans hl (by decide)
      · rw [join_S]
        exact q _ _ _ (Res.fr sh (.str _))
    · cases e4
  unfold pJoin at e
  split at e
  · rename_i ds
    cases hb : sts ds with
    | none =>
      rw [hb] at e
      cases e
    | some ys =>
      rw [hb] at e
      obtain ⟨a, xs, rfl, h1, f1⟩ := sv
      exact fin rfl (f1.sts hb) (.inl (SqL.of h1)) e
  · rename_i ds
    cases hb : sts ds with
    | none =>
      rw [hb] at e
      cases e
    | some ys =>
      rw [hb] at e
      obtain ⟨a, xs, rfl, h1, f1⟩ := sv_tup sh sv
      exact fin rfl (f1.sts hb) (.inr h1) e
  · cases e
theorem ev_join {apos : Pos} (hK : X.K = K) (ho : PE X o (Ev K Z W qa wa)) (he : PE X e (Ev K Z W qb wb)) (hs : starEach [e] X.env = [(false, eval e X.env)] := by rfl) (hbase : attributeBase o "join" X.env (eval o X.env) = eval o X.env := by rfl) (hline : (apos.endLine == pos.line) = true := by rfl) :
    PE X (.Call (.Attribute o "join" apos) [e] [] pos) (Ev K Z W (qa && qb) (iM1 pJoin wa wb)) := ev_m1 hK F.slot_str_join F.type_str_join m_join ho he hs hbase hline
/-! ### f-strings -/
def decL (i : Int) : List Nat := (toString i : Str).cps.toList
def fmD : D → Option (List Nat)
  | .str l => if l.length ≤ LIM then some l else none
  | .int i => if i.natAbs.log2 < 1920 then some (decL i) else none
  | _ => none
def iFm (w : IE) : IE := fun ρ Q E => w ρ (fun u ρ1 => ob ((rdU ρ1 u).bind fmD) fun l => Q (.va (.fr (.str l))) ρ1) E
theorem ev_fmt (he : PE X e (Ev K Z W q w)) : PE X (.FormattedValue e (-1) none pos) (Ev K Z W q (iFm w)) := by
  refine (pe_fmt he).weak fun σ H Q ⟨Sh, ρ, Q0, E0, R, h, hq, hx⟩ => ?_
  refine ⟨Sh, ρ, _, E0, R, h, fun u ρ1 S1 H1 v1 h1 p1 => ?_, hx⟩
  obtain ⟨l, e1, h1⟩ := ob_ex h1
  cases hr : rdU ρ1 u with
  | none =>
    rw [hr] at e1
    cases e1
  | some d =>
    rw [hr] at e1
    have sv := p1.ev.sv p1.rl hr
    cases d with
    | str l' =>
      have e1 : (if l'.length ≤ LIM then some l' else none) = some l := e1
      split at e1
      · rename_i hl
        cases e1
        exact .inl ⟨S l, sv_str sv, by rw [S_len]; exact sz _ hl, hq _ _ _ _ _ h1 (p1.mid.fin (Res.fr p1.rl.sh (.str l)))⟩
      · cases e1
    | int i =>
      have e1 : (if i.natAbs.log2 < 1920 then some (decL i) else none) = some l := e1
      split at e1
      · rename_i hl
        cases e1
        exact .inr ⟨i, sv_int sv, hl, hq _ _ _ _ _ h1 (p1.mid.fin (Res.fr p1.rl.sh fz_str))⟩
      · cases e1
    | _ => cases e1
def jsGo : List IE → List Nat → En → (U → En → Prop) → (Xc → En → Prop) → Prop
  | [], acc, ρ, Q, _ => Q (.va (.fr (.str acc))) ρ
  | w :: ws, acc, ρ, Q, E => w ρ (fun u ρ1 => ob ((rdU ρ1 u).bind sD) fun l => (acc ++ l).length ≤ LIM ∧ jsGo ws (acc ++ l) ρ1 Q E) E
inductive EJ (X : Cx) (K : PySem.W.Frag) (Z : Zt) (W : WX) : List Expr → List IE → Prop
  | nil : EJ X K Z W [] []
  | cons {e : Expr} {w : IE} {q : Bool} {es : List Expr} {ws : List IE} (h : PE X e (Ev K Z W q w)) (r : EJ X K Z W es ws) : EJ X K Z W (e :: es) (w :: ws)
theorem ej_pj {es : List Expr} {ws : List IE} (h : EJ X K Z W es ws) : ∃ ts, PJ X es ts ∧ ∀ (acc : List Nat) (σ : L2.St) (H : Hp) (Q : VK) (Sh : Hp) (ρ : En) (Q0 : U → En → Prop) (E0 : Xc → En → Prop), Rl K Z Sh H σ ρ → jsGo ws acc ρ Q0 E0 →
    (∀ u ρ' S' H' v, Q0 u ρ' → Ps K Z false Sh H σ ρ u ρ' S' H' v → Q v H') → (∀ x ρ' S' H' cls d, E0 x ρ' → Px K Z Sh H σ ρ x ρ' S' H' cls d → W cls d σ H') → tJs ts (S acc) σ H fun out H1 => Q (.str out) H1 := by
  induction h with
  | nil => exact ⟨[], .nil, fun acc σ H Q Sh ρ Q0 E0 R h hq _ => hq _ _ _ _ _ h ((Mid.refl R).fin (Res.fr R.sh (.str acc)))⟩
  | @cons e w q es ws he r ih =>
    obtain ⟨ts, pj, ih⟩ := ih
    refine ⟨_ :: ts, .cons he pj, fun acc σ H Q Sh ρ Q0 E0 R h hq hx => ?_⟩
    refine ⟨Sh, ρ, _, E0, R, h, fun u ρ1 S1 H1 v h1 p1 => ?_, hx⟩
    obtain ⟨l, e1, hl, h1⟩ := ob_ex h1
    refine ⟨S l, rd_str p1.rl p1.ev e1, by rw [S_cat, S_len]; exact sz _ hl, ?_⟩
    rw [S_cat]
    exact ih (acc ++ l) σ H1 Q S1 ρ1 Q0 E0 p1.rl h1 (fun u ρ' S' H' v h p => hq _ _ _ _ _ h ((p1.mid.ps p).imp fun e => by cases e)) (fun x ρ' S' H' cls d h p => hx _ _ _ _ _ _ h (p1.mid.px p))
def iJs (ws : List IE) : IE := fun ρ Q E => jsGo ws [] ρ Q E
theorem ev_js {v1 v2 : Expr} {rest : List Expr} {ws : List IE} (h : EJ X K Z W (v1 :: v2 :: rest) ws) : PE X (.JoinedStr (v1 :: v2 :: rest) pos) (Ev K Z W false (iJs ws)) := by
  obtain ⟨ts, pj, hh⟩ := ej_pj h
  exact (pe_joined pj).weak fun σ H Q ⟨Sh, ρ, Q0, E0, R, h, hq, hx⟩ => hh [] σ H Q Sh ρ Q0 E0 R h hq hx
theorem ev_js1 (h : PE X e (Ev K Z W q w)) : PE X (.JoinedStr [e] pos) (Ev K Z W q w) := pe_joined1 h
/-! ### lists that are changed -/
def plU (ρ : En) : U → Option O
  | .at i p => plc ρ i p
  | .va _ => none
def stP (ρ : En) (u : U) (o' : O) : En := match u with
  | .at i p => match ρ[i]? with
    | some (some o) => ρ.set i (some (setP o p o'))
    | _ => ρ
  | .va _ => ρ
def lsO : O → Option (List D)
  | .lst ds => some ds
  | _ => none
def isL : D → Bool
  | .lst _ => true
  | _ => false
def iMt (qa : Bool) (f : List D → List D → Option (List D × D)) (wo : IE) (ra : IA) : IE := fun ρ Q E => wo ρ (fun u ρ1 => okp qa u ∧ ob (rdU ρ1 u) (fun d => isL d = true) ∧ ra ρ1 (fun ds ρ2 => ob ((plU ρ2 u).bind lsO) fun xs => ob (f xs ds) fun r => Q (.va (.fr r.2)) (stP ρ2 u (.lst r.1))) E) E
def mF (K : PySem.W.Frag) (f : List D → List D → Option (List D × D)) : V → List V → Hp → VK → Prop := fun x xs H Q => ∃ Sh a vs ds es r, Same Sh H ∧ x = .ref a ∧ H a = some (.lst vs) ∧ FzL K Sh vs ds ∧ FzL K Sh xs es ∧ f ds es = some r ∧ ∀ y vs', FzL K Sh vs' r.1 → Fz K Sh y r.2 → Q y (upd H a (.lst vs'))
/-- a list at a place is changed -/
theorem Rl.updL {Sh H : Hp} {σ : L2.St} {ρ : En} {i : Nat} {p : List Sx} {v : V} {xs ds' : List D} {vs' : List V} (R : Rl K Z Sh H σ ρ) (ev : EAt K Sh H σ ρ (.at i p) v) (e : (plc ρ i p).bind lsO = some xs) (f : FzL K Sh vs' ds') :
    ∃ a vs, v = .ref a ∧ H a = some (.lst vs) ∧ FzL K Sh vs xs ∧ Rl K Z Sh (upd H a (.lst vs')) σ (stP ρ (.at i p) (.lst ds')) ∧ Gx Z Sh H (FpE H σ ρ) Sh (upd H a (.lst vs')) (FpE (upd H a (.lst vs')) σ (stP ρ (.at i p) (.lst ds'))) := by
  obtain ⟨w, hw, hv⟩ := ev
  unfold plc at e
  unfold stP
  dsimp only
  cases hi : ρ[i]? with
  | none =>
    rw [hi] at e
    cases e
  | some oo =>
    rw [hi] at e
    cases oo with
    | none => cases e
    | some o =>
      dsimp only at e ⊢
      cases hg : getP o p with
      | none =>
        rw [hg] at e
        cases e
      | some u =>
        rw [hg] at e
        cases u with
        | lst ds =>
          cases e
          obtain ⟨w', hw', ao⟩ := R.ats i o hi
          rw [hw] at hw'
          cases hw'
          obtain ⟨v3, g1, au, sub⟩ := VAt.at R.sh ao hg
          have e3 := VAt.one hv g1
          subst e3
          obtain ⟨a, vs, rfl, ha, sa, fa⟩ := au
          have inE : FpE H σ ρ a := ⟨i, o, w, hi, hw, sub a rfl⟩
          have zn := R.zne inE
          have zz : Zok Z Sh (upd H a (.lst vs')) := fun P q e => by
            obtain ⟨z1, z2⟩ := R.zk P q e
            refine ⟨z1, TabS_ext z2 (fun b o hb ho => ?_)⟩
            rw [upd_ne]
            · exact ho
            · intro eb
              subst eb
              rcases hb with hb | hb
              · exact zn.1 ⟨q, by rw [hb]; exact e⟩
              · exact zn.2 q hb
          obtain ⟨r1, r2⟩ := R.put (S' := Sh) (H' := upd H a (.lst vs')) (u' := .lst ds') hi hw hg rfl hv (Same.refl _) (mut_same R.sh sa) (fun b hb t => ⟨upd_ne (fun z => t (by rw [z]; rfl)), (R.tr hb).1⟩) ⟨a, vs', rfl, upd_same, sa, f⟩ (fun b hb => .inl hb) zz
          refine ⟨a, vs, rfl, ha, fa, r1, Same.refl _, fun b u hb nf _ => ?_, fun _ h _ _ => h, fun b hb => ?_, fun b hb => ?_⟩
          · rw [upd_ne (fun z => nf (by rw [z]; exact inE))]
            exact hb
          · rcases r2 b hb with z | z
            · exact .inl z.1
            · have z' : V.ref a = V.ref b := z
              cases z'
              exact .inl inE
          · by_cases z : b = a
            · rw [z, upd_same]
              exact fun y => nomatch y
            · rw [upd_ne z]
              exact hb
        | _ => cases e
theorem mt_ev {T : String} {f : List D → List D → Option (List D × D)} {r : V → List V → Hp → VK → Prop} (hr : ∀ x xs H Q, mF K f x xs H Q → r x xs H Q) {σ : L2.St} {H : Hp} {Q : VK} (h : Ev K Z W false (iMt qb f wa ra) σ H Q) : tBM K "list" r (Ev K Z W qa wa) (EvA K Z W qb ra) σ H Q := by
  obtain ⟨Sh, ρ, Q0, E0, R, h, hq, hx⟩ := h
  refine ⟨Sh, ρ, _, E0, R, h, fun u ρ1 S1 H1 v1 ⟨ok, hl, h1⟩ p1 => ?_, hx⟩
  obtain ⟨d, ed, hl⟩ := ob_ex hl
  have sv := p1.ev.sv p1.rl ed
  refine ⟨?_, S1, ρ1, _, E0, p1.rl, h1, fun ds ρ2 S2 H2 vs h2 m2 f2 => ?_, fun x ρ' S' H' cls d e p => hx x ρ' S' H' cls d e (p1.mid.px p)⟩
  · cases d with
    | lst ds =>
      obtain ⟨a, xs, rfl, h1, _⟩ := sv
      exact .inl ⟨rfl, xs, SqL.of h1⟩
    | _ => cases hl
  · obtain ⟨xs, e1, h2⟩ := ob_ex h2
    obtain ⟨rr, e2, h2⟩ := ob_ex h2
    have ev2 := p1.ev.step p1.rl m2 ok
    cases u with
    | va o => cases e1
    | «at» i pp =>
      obtain ⟨a, ws, rfl, ha, fa, _⟩ := m2.rl.updL ev2 e1 (vs' := []) .nil
      refine hr _ _ _ _ ⟨S2, a, ws, xs, ds, rr, m2.rl.sh, rfl, ha, fa, f2, e2, fun y vs' f' fy => ?_⟩
      obtain ⟨a', ws', ea, ha', _, r1, g1⟩ := m2.rl.updL ev2 e1 f'
      cases ea
      have mm : Mid K Z false Sh H σ ρ _ S2 (upd H2 a (.lst vs')) := ⟨r1, (p1.mid.gx.trans m2.gx).trans g1, fun e => by cases e⟩
      exact hq _ _ _ _ _ h2 (mm.fin (Res.fr r1.sh fy))
theorem ev_mt {id : String} {name : Str} {apos : Pos} {f : List D → List D → Option (List D × D)} (hK : X.K = K) (slot : Slot "list" name id) (hty : typeOf (.builtin id) = pure (.type "method_descriptor")) (hm : MtR X id (mF X.K f)) (ho : PE X o (Ev K Z W qa wa)) (ha : PA X (e :: es) (EvA K Z W qb ra))
    (hbase : attributeBase o name X.env (eval o X.env) = eval o X.env := by rfl)
    (hfew : ((backTo pos (starEach (e :: es) X.env)).all (fun x => !x.1) && (backToKw pos (keywordEach [] X.env)).all (fun x => x.1.isSome)
      && decide ((e :: es).length + ([] : List Keyword).length + (if ([] : List Keyword).isEmpty then 0 else 1) < 30)) = true := by rfl)
    (hline : (apos.endLine == pos.line) = true := by rfl) (hs : starEach (e :: es) X.env = (false, eval e X.env) :: starEach es X.env := by rfl) (hplain : (backTo pos (starEach es X.env)).any (·.1) = false := by rfl) :
    PE X (.Call (.Attribute o name apos) (e :: es) [] pos) (Ev K Z W false (iMt qb f wa ra)) := by
  subst hK
  exact (pe_bm PySem.F.plainAttrs_list slot hty hm ho ha hbase hfew hline hs hplain).weak fun σ H Q h => mt_ev (T := "list") (fun _ _ _ _ h => h) h
theorem ev_mt0 {id : String} {name : Str} {apos : Pos} {f : List D → List D → Option (List D × D)} (hK : X.K = K) (slot : Slot "list" name id) (hty : typeOf (.builtin id) = pure (.type "method_descriptor")) (hm : MtR X id (mF X.K f)) (ho : PE X o (Ev K Z W qa wa))
    (hbase : attributeBase o name X.env (eval o X.env) = eval o X.env := by rfl) (hline : (apos.endLine == pos.line) = true := by rfl) : PE X (.Call (.Attribute o name apos) [] [] pos) (Ev K Z W false (iMt true f wa iNil)) := by
  subst hK
  refine (pe_bm0 PySem.F.plainAttrs_list slot hty hm ho hbase hline).weak fun σ H Q h => ?_
  obtain ⟨Sh, ρ, Q1, E1, R, h1, h2, h3⟩ := mt_ev (qa := qa) (T := "list") (fun _ _ _ _ h => h) h
  refine ⟨Sh, ρ, Q1, E1, R, h1, fun u ρ' S' H' v a b => ?_, h3⟩
  obtain ⟨t, S2, ρ2, Q2, E2, R2, h4, h5, _⟩ := h2 u ρ' S' H' v a b
  exact ⟨t, h5 _ _ _ _ _ h4 (Mid.refl R2) .nil⟩
def fApp (xs ds : List D) : Option (List D × D) := match ds with
  | [d] => if xs.length < LIM then some (xs ++ [d], .non) else none
  | _ => none
noncomputable def fPop (xs ds : List D) : Option (List D × D) := match ds with
  | [] => (xs[xs.length - 1]?).map fun d => (xs.dropLast, d)
  | [.int i] => if wordI i = true then (seqIndex? i xs.length).bind fun k => (xs[k]?).map fun d => (xs.eraseIdx k, d) else none
  | _ => none
def fExt (xs ds : List D) : Option (List D × D) := match ds with
  | [.lst ys] => if xs.length + ys.length ≤ LIM then some (xs ++ ys, .non) else none
  | [.tup ys] => if xs.length + ys.length ≤ LIM then some (xs ++ ys, .non) else none
  | _ => none
def fClr (xs ds : List D) : Option (List D × D) := match ds with
  | [] => some ([], .non)
  | _ => none
theorem m_app : MtR X "list.append" (mF X.K fApp) := by
  intro pins s σ H x xs v us Q I rx rxs hh
  obtain ⟨Sh, a, vs, ds, es, r, sh, rfl, ha, f1, f2, e, q⟩ := hh
  unfold fApp at e
  split at e
  · split at e
    · rename_i hl
      cases e
      cases f2 with
      | cons fy fn =>
        cases fn
        exact mt_append pins s σ H _ _ v us Q I rx rxs ⟨a, vs, _, rfl, rfl, ha, by rw [f1.len]; exact szl _ (Nat.le_of_lt hl), q _ _ (f1.app (.cons fy .nil)) .non⟩
    · cases e
  · cases e
theorem FzL.dropLast {K : PySem.W.Frag} {Sh : Hp} {vs : List V} {ds : List D} (h : FzL K Sh vs ds) : FzL K Sh vs.dropLast ds.dropLast := by
  rw [List.dropLast_eq_take, List.dropLast_eq_take, h.len]
  exact h.take _
theorem m_pop : MtR X "list.pop" (mF X.K fPop) := by
  intro pins s σ H x xs v us Q I rx rxs hh
  obtain ⟨Sh, a, vs, ds, es, r, sh, rfl, ha, f1, f2, e, q⟩ := hh
  unfold fPop at e
  split at e
  · cases f2
    cases hd : ds[ds.length - 1]? with
    | none =>
      rw [hd] at e
      cases e
    | some d =>
      rw [hd] at e
      cases e
      obtain ⟨y, hy, fy⟩ := f1.getD hd
      exact mt_pop pins s σ H _ _ v us Q I rx rxs ⟨a, vs, y, rfl, rfl, ha, by rw [f1.len]; exact hy, q _ _ f1.dropLast fy⟩
  · split at e
    · rename_i i hb
      cases f2 with
      | cons fi fn =>
        cases fn
        cases fi
        cases hk : seqIndex? i ds.length with
        | none =>
          rw [hk] at e
          cases e
        | some k =>
          rw [hk] at e
          cases hd : ds[k]? with
          | none =>
            have e' : (ds[k]?).map (fun d => (ds.eraseIdx k, d)) = some r := e
            rw [hd] at e'
            cases e'
          | some d =>
            have e' : (ds[k]?).map (fun d => (ds.eraseIdx k, d)) = some r := e
            rw [hd] at e'
            cases e'
            obtain ⟨y, hy, fy⟩ := f1.getD hd
            exact mt_popAt pins s σ H _ _ v us Q I rx rxs ⟨a, vs, i, k, y, rfl, rfl, ha, (wordI_iff.mp hb).1, (wordI_iff.mp hb).2, by rw [f1.len]; exact hk, hy, q _ _ (f1.erase k) fy⟩
    · cases e
  · cases e
theorem m_ext : MtR X "list.extend" (mF X.K fExt) := by
  intro pins s σ H x xs v us Q I rx rxs hh
  obtain ⟨Sh, a, vs, ds, es, r, sh, rfl, ha, f1, f2, e, q⟩ := hh
  unfold fExt at e
  split at e
  · split at e
    · rename_i hl
      cases e
      cases f2 with
      | cons fy fn =>
        cases fn
        cases fy with
        | lst h1 h2 => exact mt_extend pins s σ H _ _ v us Q I rx rxs ⟨a, _, vs, _, rfl, rfl, ha, sh _ _ h1, by rw [f1.len, h2.len]; exact sz _ hl, q _ _ (f1.app h2) .non⟩
    · cases e
  · split at e
    · rename_i hl
      cases e
      cases f2 with
      | cons fy fn =>
        cases fn
        cases fy with
        | tup h1 h2 => exact mt_extendT pins s σ H _ _ v us Q I rx rxs ⟨a, _, vs, _, rfl, rfl, ha, same_t sh h1, by rw [f1.len, h2.len]; exact sz _ hl, q _ _ (f1.app h2) .non⟩
    · cases e
  · cases e
theorem m_clr : MtR X "list.clear" (mF X.K fClr) := by
  intro pins s σ H x xs v us Q I rx rxs hh
  obtain ⟨Sh, a, vs, ds, es, r, sh, rfl, ha, f1, f2, e, q⟩ := hh
  unfold fClr at e
  split at e
  · cases e
    cases f2
    exact mt_clear pins s σ H _ _ v us Q I rx rxs ⟨a, vs, rfl, rfl, ha, q _ _ .nil .non⟩
  · cases e
/-! ### x[i] = e -/
def fSet (xs : List D) (i d : D) : Option (List D) := match i with
  | .int k => (ixN xs.length k).map fun j => xs.set j d
  | _ => none
def iSub (qi : Bool) (we wo wi : IE) : IS := fun ρ N => we ρ (fun u ρ1 => fzU ρ1 u fun d ρ2 => wo ρ2 (fun p ρ3 => okp qi p ∧ wi ρ3 (fun k ρ4 => ob (rdU ρ4 k) fun kd => ob ((plU ρ4 p).bind lsO) fun xs => ob (fSet xs kd d) fun ys => N.nx (stP ρ4 p (.lst ys))) N.ex) N.ex) N.ex
theorem es_sub {ps : Pos} {oi : Expr} {wi : IE} (he : PE X e (Ev K Z W q w)) (ho : PE X o (Ev K Z W qa wa)) (hi : PE X oi (Ev K Z W qb wi)) (hs : swapsWithSole [.Subscript o oi ps] e pos.line X.env = pure false := by rfl) (hw : swappedStores [.Subscript o oi ps] e X.env = pure none := by rfl)
    (h1 : (assignEach [.Subscript o oi ps] X.env).map (·.2) = [assign (.Subscript o oi ps) X.env] := by rfl)
    (ha : ∀ v, assign (.Subscript o oi ps) X.env v = (do
      let ov ← holding [v] (eval o X.env)
      let iv ← holding [v, ov] (eval oi X.env)
      standAt ps
      holding [v, ov, iv] (setItem ov iv v)
      release [v, ov, iv] []) := by intro _; rfl) : PS X (.Assign [.Subscript o oi ps] e pos) (EvS K Z W L (iSub qb w wa wi)) := by
  refine (ps_asg he (pg_sub ho hi set_list ha) hs hw h1).weak fun D σ H ⟨Sh, ρ, N, R, h, l⟩ => ?_
  refine ⟨Sh, ρ, _, N.ex, R, h, fun u ρ1 S1 H1 v1 h1 p1 => ?_, l.px⟩
  obtain ⟨d, ρ2, S2, h2, m2, f2⟩ := p1.fz h1
  refine ⟨S2, ρ2, _, N.ex, m2.rl, h2, fun p ρ3 S3 H3 v3 ⟨ok, h3⟩ p3 => ?_, (l.after m2.s).px⟩
  refine ⟨S3, ρ3, _, N.ex, p3.rl, h3, fun k ρ4 S4 H4 v4 h4 p4 => ?_, ((l.after m2.s).after p3.mid.s).px⟩
  obtain ⟨kd, e1, h4⟩ := ob_ex h4
  obtain ⟨xs, e2, h4⟩ := ob_ex h4
  obtain ⟨ys, e3, h4⟩ := ob_ex h4
  have svk := p4.ev.sv p4.rl e1
  have evp := p3.ev.step p3.rl p4.mid ok
  have fv : Fz K S4 v1 d := Fz.mono (p3.gx.ss.trans p4.gx.ss) _ _ f2
  cases kd with
  | int kk =>
    have e3 : (ixN xs.length kk).map (fun j => xs.set j d) = some ys := e3
    cases hk : ixN xs.length kk with
    | none =>
      rw [hk] at e3
      cases e3
    | some j =>
      rw [hk] at e3
      cases e3
      have evk := sv_int svk
      subst evk
      cases p with
      | va o => cases e2
      | «at» i pp =>
        obtain ⟨a, ws, rfl, ha, fa, _⟩ := p4.rl.updL evp e2 (vs' := []) .nil
        obtain ⟨a', ws', ea, _, _, r1, g1⟩ := p4.rl.updL evp e2 (fa.set j fv)
        cases ea
        exact ⟨a, ws, kk, j, rfl, rfl, ha, by rw [fa.len]; exact hk, l.nx _ _ _ _ h4 ((m2.s (L := L)).trans ((p3.mid.s (L := L)).trans ((p4.mid.s (L := L)).trans ⟨r1, g1, fun _ _ => rfl, rfl⟩)))⟩
  | _ => cases e3
/-! ### name += e -/
def iAug (f : Int → Int → Int) (i : Nat) (w : IE) : IS := fun ρ N => match ρ[i]? with
  | some (some (.fr (.int a))) => w ρ (fun u ρ1 => ob ((rdU ρ1 u).bind iD) fun b => i < ρ1.length ∧ N.nx (ρ1.set i (some (.fr (.int (f a b)))))) N.ex
  | _ => False
theorem es_aug {i : Nat} {x : Str} {op : Operator} {f : Int → Int → Int} {pos' : Pos} (hN : X.N.Nodup) (hi : X.N[i]? = some x) (hx : Loc X.env.scope x) (hL : i ∉ L) (he : PE X e (Ev K Z W q w)) (ho : PIp X op (ipI f)) (hf : X.fn x = true ∨ X.env.scope.names.lookup x = some .local := by first | exact .inl rfl | exact .inr rfl | assumption) :
    PS X (.AugAssign (.Name x pos') op e pos) (EvS K Z W L (iAug f i w)) := by
  refine (ps_aug hN hi hx he ho hf).weak fun D σ H ⟨Sh, ρ, N, R, h, l⟩ => ?_
  unfold iAug at h
  split at h
  · rename_i a hi'
    obtain ⟨v, hv, av⟩ := R.ats i _ hi'
    cases (show Fz K Sh v (.int a) from av)
    refine ⟨_, hv, Sh, ρ, _, N.ex, R, h, fun u ρ1 S1 H1 v1 h1 p1 => ?_, l.px⟩
    obtain ⟨b, e1, hl, h1⟩ := ob_ex h1
    cases hr : rdU ρ1 u with
    | none =>
      rw [hr] at e1
      cases e1
    | some d =>
      rw [hr] at e1
      cases d with
      | int j =>
        cases e1
        have ev := sv_int (p1.ev.sv p1.rl hr)
        subst ev
        have p2 := p1.mid.fin (Res.fr p1.rl.sh (.int (f a b)))
        obtain ⟨ρ2, S2, k, m⟩ := p2.st (L := L) (i := i) (k := N.nx) hL ⟨hl, h1⟩
        exact ⟨a, b, rfl, rfl, l.nx _ _ _ _ k m⟩
      | _ => cases e1
  · exact False.elim h
/-! ### a, b = x, y -/
def prU (ρ : En) (u : U) (k : O → En → Prop) : Prop := match u with
  | .va o => k o ρ
  | u => fzU ρ u fun d ρ2 => k (.fr d) ρ2
theorem Ps.pr {Sh H S1 H1 : Hp} {σ : L2.St} {ρ ρ1 : En} {u : U} {v : V} {k : O → En → Prop} (p : Ps K Z q Sh H σ ρ u ρ1 S1 H1 v) (h : prU ρ1 u k) : ∃ o ρ2 S2, k o ρ2 ∧ Ps K Z q Sh H σ ρ (.va o) ρ2 S2 H1 v := by
  cases u with
  | va o => exact ⟨o, ρ1, S1, h, p⟩
  | «at» i pp =>
    obtain ⟨d, ρ2, S2, hk, m, f⟩ := p.fz h
    exact ⟨.fr d, ρ2, S2, hk, m.fin (Res.fr m.rl.sh f)⟩
def iPar2 (i j : Nat) (wa wb : IE) : IS := fun ρ N => wa ρ (fun a ρ1 => prU ρ1 a fun o1 ρ2 => wb ρ2 (fun b ρ3 => prU ρ3 b fun o2 ρ4 => i < ρ4.length ∧ j < ρ4.length ∧ N.nx ((ρ4.set i (some o1)).set j (some o2))) N.ex) N.ex
theorem es_par {i j : Nat} {x y : Str} {px py pt : Pos} {kt k2 : Nat} {pt2 : Pos} (hc : X.calm = true) (hN : X.N.Nodup) (hi : X.N[i]? = some x) (hj : X.N[j]? = some y) (hij : i ≠ j) (hLi : i ∉ L) (hLj : j ∉ L)
    (hx : X.env.scope.names.lookup x = some .local) (hy : X.env.scope.names.lookup y = some .local) (ha : PE X a (Ev K Z W qa wa)) (hb : PE X b (Ev K Z W qb wb))
    (hw : swappedStores [.Tuple [.Name x px, .Name y py] kt pt] (.Tuple [a, b] k2 pt2) X.env = pure (some [x, y]))
    (hs : swapsWithSole [.Tuple [.Name x px, .Name y py] kt pt] (.Tuple [a, b] k2 pt2) pos.line X.env = pure false := by rfl) (h1 : starEach [a, b] X.env = (false, eval a X.env) :: starEach [b] X.env := by rfl) (h2 : starEach [b] X.env = (false, eval b X.env) :: starEach [] X.env := by rfl) :
    PS X (.Assign [.Tuple [.Name x px, .Name y py] kt pt] (.Tuple [a, b] k2 pt2) pos) (EvS K Z W L (iPar2 i j wa wb)) := by
  refine (ps_par hc hN hi hj hij hx hy (pa_cons ha (pa_cons hb pa_nil h2) h1) hw hs).weak fun D σ H ⟨Sh, ρ, N, R, h, l⟩ => ?_
  refine ⟨Sh, ρ, _, N.ex, R, h, fun u ρ1 S1 H1 v1 h1 p1 => ?_, l.px⟩
  obtain ⟨o1, ρ2, S2, h2, p2⟩ := p1.pr h1
  refine ⟨S2, ρ2, _, N.ex, p2.rl, h2, fun u3 ρ3 S3 H3 v3 h3 p3 => ?_, (l.after p2.mid.s).px⟩
  obtain ⟨o2, ρ4, S4, ⟨l1, l2, h4⟩, p4⟩ := p3.pr h3
  refine ⟨v1, v3, rfl, ?_⟩
  have e1 := p2.ev.step p2.rl p4.mid True.intro
  obtain ⟨a1, n1⟩ := e1
  obtain ⟨a2, n2⟩ := p4.ev
  -- the two apart
  have fe := Fp.eq (H' := H3) o1 v1 p2.ev.1 (fun b hb => by
    obtain ⟨t1, t2⟩ := At.tr o1 v1 b p2.ev.1 hb
    cases eb : H1 b with
    | none => exact absurd eb t2
    | some u => exact p4.gx.kp b u eb (p2.ev.2 b hb) (fun ⟨qq, z⟩ => by
        obtain ⟨uu, e5, mu, _⟩ := fp_code o1 v1 p2.ev.1 hb
        obtain ⟨_, ps, hp, _⟩ := p2.rl.zk b qq z
        rw [hp] at e5
        cases e5
        exact mu))
  have nd : ∀ b, Fp H3 o2 v3 b → ¬ Fp H3 o1 v1 b := fun b h5 h6 => by
    have h6' := (fe b).mp h6
    rcases p4.gx.ft b (.inr h5) with z | z
    · exact p2.ev.2 b h6' z
    · exact (At.tr o1 v1 b p2.ev.1 h6').2 z
  obtain ⟨r1, s1⟩ := p4.rl.setv (i := i) l1 a1 n1
  obtain ⟨r2, s2⟩ := r1.setv (i := j) (by rw [List.length_set]; exact l2) a2 (fun b hb hc => (s1 b hc).elim (n2 b hb) (nd b hb))
  have g : Gx Z Sh H (FpE H σ ρ) S4 H3 (FpE H3 ((σ.set i (some v1)).set j (some v3)) ((ρ4.set i (some o1)).set j (some o2))) := by
    have g1 := p2.gx.trans (p4.gx.aside (Fp H1 o1 v1))
    refine g1.weak (fun _ h => h) (fun b hb => ?_)
    rcases s2 b hb with z | z
    · rcases s1 b z with y | y
      · exact .inl (.inl y)
      · exact .inr ((fe b).mp y)
    · exact .inl (.inr z)
  refine l.nx _ _ _ _ h4 ⟨r2, g, fun k hk => ?_, by rw [List.length_set, List.length_set]⟩
  rw [List.getElem?_set_ne (fun (z : j = k) => hLj (by rw [z]; exact hk)), List.getElem?_set_ne (fun (z : i = k) => hLi (by rw [z]; exact hk))]
/-! ### target = e, any target of names -/
def iAsg (w : IE) (g : ITg) : IS := fun ρ N => w ρ (fun u ρ1 => fzU ρ1 u fun d ρ2 => g d ρ2 N.nx) N.ex
theorem es_asg {tg : Expr} {vs : List Nat} {g : ITg} (hL : ∀ j, j ∈ L → j ∉ vs) (he : PE X e (Ev K Z W q w)) (hg : PG X tg (EvG K Z vs g)) (hs : swapsWithSole [tg] e pos.line X.env = pure false := by rfl) (hw : swappedStores [tg] e X.env = pure none := by rfl)
    (h1 : (assignEach [tg] X.env).map (·.2) = [assign tg X.env] := by rfl) : PS X (.Assign [tg] e pos) (EvS K Z W L (iAsg w g)) := by
  refine (ps_asg he hg hs hw h1).weak fun D σ H ⟨Sh, ρ, N, R, h, l⟩ => ?_
  refine ⟨Sh, ρ, _, N.ex, R, h, fun u ρ1 S1 H1 v1 h1 p1 => ?_, l.px⟩
  obtain ⟨d, ρ2, S2, h2, m2, f2⟩ := p1.fz h1
  refine ⟨S2, ρ2, d, _, m2.rl, f2, h2, fun ρ3 σ3 h3 R3 n3 p3 l3 => ?_⟩
  exact l.nx _ _ _ _ h3 ((m2.s (L := L)).trans ⟨R3, (Gx.refl fun _ h => h).weak (fun _ h => h) (fun b hb => n3 b hb), fun j hj => p3 j (hL j hj), l3⟩)
end
/-! ### enumerate, zip -/
def enD : Nat → List D → List D
  | _, [] => []
  | n, d :: ds => .tup [.int (n : Int), d] :: enD (n + 1) ds
theorem enD_len : ∀ (n : Nat) (ds : List D), (enD n ds).length = ds.length
  | _, [] => rfl
  | n, d :: ds => congrArg (· + 1) (enD_len (n + 1) ds)
theorem enD_get : ∀ {ds : List D} {n i : Nat} {d : D}, (enD n ds)[i]? = some d → ∃ e, ds[i]? = some e ∧ d = .tup [.int ((n + i : Nat) : Int), e]
  | [], n, i, d, h => by simp [enD] at h
  | e :: ds, n, 0, d, h => by
    cases h
    exact ⟨e, rfl, rfl⟩
  | e :: ds, n, i + 1, d, h => by
    obtain ⟨e', h1, h2⟩ := enD_get (n := n + 1) (i := i) (show (enD (n + 1) ds)[i]? = some d from h)
    exact ⟨e', h1, by rw [h2]; congr 3; omega⟩
def zpD : List D → List D → List D
  | a :: as, b :: bs => .tup [a, b] :: zpD as bs
  | _, _ => []
theorem zpD_len : ∀ (as bs : List D), (zpD as bs).length = min as.length bs.length
  | [], bs => by simp [zpD]
  | a :: as, [] => by simp [zpD]
  | a :: as, b :: bs => by
    show (zpD as bs).length + 1 = min (as.length + 1) (bs.length + 1)
    rw [zpD_len as bs]
    omega
theorem zpD_get : ∀ {as bs : List D} {i : Nat} {d : D}, (zpD as bs)[i]? = some d → ∃ a b, as[i]? = some a ∧ bs[i]? = some b ∧ d = .tup [a, b]
  | [], bs, i, d, h => by simp [zpD] at h
  | a :: as, [], i, d, h => by simp [zpD] at h
  | a :: as, b :: bs, 0, d, h => by
    cases h
    exact ⟨a, b, rfl, rfl, rfl⟩
  | a :: as, b :: bs, i + 1, d, h => zpD_get (i := i) (show (zpD as bs)[i]? = some d from h)
def seqD : D → Option (List D)
  | .lst ds => some ds
  | .tup ds => some ds
  | _ => none
def iEnu (w : IE) : IA := fun ρ Q E => w ρ (fun u ρ1 => fzU ρ1 u fun d ρ2 => ob (seqD d) fun ds => Q (enD 0 ds) ρ2) E
def iZp (wa wb : IE) : IA := fun ρ Q E => wa ρ (fun u ρ1 => fzU ρ1 u fun d1 ρ2 => wb ρ2 (fun v ρ3 => fzU ρ3 v fun d2 ρ4 => match d1, d2 with
  | .lst as, .lst bs => Q (zpD as bs) ρ4
  | .tup as, .tup bs => Q (zpD as bs) ρ4
  | _, _ => False) E) E
def iEnumA (K : PySem.W.Frag) (ta : TA) : TI := fun σ H R => ta σ H fun vs H1 => (∃ a xs, vs = [.ref a] ∧ SqL K H1 a xs ∧ R (Ite K a) H1) ∨ ∃ a xs, vs = [.ref a] ∧ SqT K H1 a xs ∧ R (IteT K a) H1
theorem pi_enumA {X : Cx} {e : Expr} {ta : TA} {p pos tpos : Pos} {elts : List Expr} {kk : Nat} (hg : Gl X "enumerate") (hm : X.mg "enumerate" = none) (ha : PA X [e] ta) (hs : starEach [e] X.env = [(false, eval e X.env)] := by rfl) :
    PI X (.Tuple elts kk tpos) (.Call (.Name "enumerate" p) [e] [] pos) (iEnumA X.K ta) := by
  refine ⟨fun pins s σ H R I h => ?_⟩
  refine Call_ (ld_blt I hg hm boot_enumerate (PyProof.Rows.callWith_type1 (thn (ha.run pos pins s σ H _ I h) fun us s1 ⟨vs, H1, I1, r1, q1⟩ => ?_) hs rfl))
  have fpo : ∀ b, b ∈ [s1.heap.objs.size + 1, s1.heap.objs.size] → FpOk X pins H1 b := fun b hb => by
    have e' : b = s1.heap.objs.size + 1 ∨ b = s1.heap.objs.size := by simpa using hb
    have hle : s1.heap.objs.size ≤ b := by
      rcases e' with z | z
      · rw [z]; exact Nat.le_add_right _ _
      · rw [z]; exact Nat.le_refl _
    exact I1.fpOk hle (I1.hok.fresh hle)
  rcases q1 with ⟨a, xs, ex, hq, q⟩ | ⟨a, xs, ex, hq, q⟩
  · subst ex
    cases r1 with
    | cons r rr =>
      cases rr
      cases r
      obtain ⟨its, rv, p', hz⟩ := I1.list hq
      refine call_enumerate_list p'.isList fun h' he hit hsz hk => wpAny_pyIter_enum he ?_
      have I2 : Inv X pins σ H1 { s1 with heap := h' } := I1.kept (t' := s1.toks) hk
      exact ⟨s1.heap.objs.size + 1, [s1.heap.objs.size + 1, s1.heap.objs.size], _, _, H1, rfl, I2, turn_enum a (s1.heap.objs.size + 1) s1.heap.objs.size, ⟨⟨.none, he⟩, hit, Nat.succ_ne_self _⟩, fpo, q⟩
  · subst ex
    cases r1 with
    | cons r rr =>
      cases rr
      cases r
      obtain ⟨its, rv, p', hz⟩ := I1.tuple hq
      have hal : a < s1.heap.objs.size := by obtain ⟨o, ho, _⟩ := p'; exact Heap.lt_size ho
      refine enum_begins1 (begins_tuple a its.toArray) p' fun h' he hit hsz hk => wpAny_pyIter_enum he ?_
      have I2 : Inv X pins σ H1 { s1 with heap := h' } := I1.kept (t' := s1.toks) hk
      exact ⟨s1.heap.objs.size + 1, [s1.heap.objs.size + 1, s1.heap.objs.size], _, _, H1, rfl, I2, turn_enumT a (s1.heap.objs.size + 1) s1.heap.objs.size, ⟨⟨.none, he⟩, ⟨_, hit, rfl, rfl⟩, Nat.succ_ne_self _, Nat.ne_of_lt hal, Nat.ne_of_gt (Nat.lt_succ_of_lt hal)⟩, fpo, q⟩
section
variable {K : PySem.W.Frag} {Sh : Hp}
theorem res_pair {Sh H : Hp} {x y : V} {a b : D} {T : Addr} (sh : Same Sh H) (h1 : Fz K Sh x a) (h2 : Fz K Sh y b) (hT : H T = none) : ∃ S', Res K Sh H (.fr (.tup [a, b])) (.ref T) S' (upd H T (.tup [x, y])) := ⟨_, res_tup sh (.cons h1 (.cons h2 .nil)) hT⟩
theorem wk_enum {a : Addr} {xs : List V} {ds : List D} (h : Sh a = some (.lst xs)) (f : FzL K Sh xs ds) : Wk K Sh (Ite K a) (enD 0 ds) := by
  have w := walk_enum (K := K) (a := a) (xs := xs)
  rw [f.len, ← enD_len 0 ds] at w
  refine ⟨_, _, w, fun S1 H e1 e2 => SqL.of (e2 _ _ (e1 _ _ h)), fun i S1 H x H' d e1 e2 hd hy => ?_⟩
  obtain ⟨T, x1, y1, rfl, hT, rfl, hx, hy⟩ := hy
  obtain ⟨e, he, rfl⟩ := enD_get hd
  obtain ⟨d', hd', f'⟩ := f.get hy
  rw [he] at hd'
  cases hd'
  cases hx
  rw [Nat.zero_add]
  exact res_pair e2 (.int _) (Fz.mono e1 _ _ f') hT
theorem wk_enumT {a : Addr} {xs : List V} {ds : List D} (h : SqT K Sh a xs) (f : FzL K Sh xs ds) : Wk K Sh (IteT K a) (enD 0 ds) := by
  have w := walk_enumT (K := K) (a := a) (xs := xs)
  rw [f.len, ← enD_len 0 ds] at w
  refine ⟨_, _, w, fun S1 H e1 e2 => same_t (e1.trans e2) h, fun i S1 H x H' d e1 e2 hd hy => ?_⟩
  obtain ⟨T, x1, y1, rfl, hT, rfl, hx, hy⟩ := hy
  obtain ⟨e, he, rfl⟩ := enD_get hd
  obtain ⟨d', hd', f'⟩ := f.get hy
  rw [he] at hd'
  cases hd'
  cases hx
  rw [Nat.zero_add]
  exact res_pair e2 (.int _) (Fz.mono e1 _ _ f') hT
theorem wk_zip {a b : Addr} {xs ys : List V} {as bs : List D} (h1 : Sh a = some (.lst xs)) (f1 : FzL K Sh xs as) (h2 : Sh b = some (.lst ys)) (f2 : FzL K Sh ys bs) : Wk K Sh (Itz K a b) (zpD as bs) := by
  have w := walk_zip (K := K) (a := a) (b := b) (xs := xs) (ys := ys) (n := (zpD as bs).length) (by rw [zpD_len, f1.len, f2.len])
  refine ⟨_, _, w, fun S1 H e1 e2 => ⟨SqL.of (e2 _ _ (e1 _ _ h1)), SqL.of (e2 _ _ (e1 _ _ h2))⟩, fun i S1 H x H' d e1 e2 hd hy => ?_⟩
  obtain ⟨T, x1, y1, rfl, hT, rfl, hx, hy⟩ := hy
  obtain ⟨a', b', ha, hb, rfl⟩ := zpD_get hd
  obtain ⟨d1, hd1, g1⟩ := f1.get hx
  obtain ⟨d2, hd2, g2⟩ := f2.get hy
  rw [ha] at hd1
  rw [hb] at hd2
  cases hd1
  cases hd2
  exact res_pair e2 (Fz.mono e1 _ _ g1) (Fz.mono e1 _ _ g2) hT
theorem wk_zipT {a b : Addr} {xs ys : List V} {as bs : List D} (h1 : SqT K Sh a xs) (f1 : FzL K Sh xs as) (h2 : SqT K Sh b ys) (f2 : FzL K Sh ys bs) : Wk K Sh (RZ.ItzT K a b) (zpD as bs) := by
  have w := walk_zipT (K := K) (a := a) (b := b) (xs := xs) (ys := ys) (n := (zpD as bs).length) (by rw [zpD_len, f1.len, f2.len])
  refine ⟨_, _, w, fun S1 H e1 e2 => ⟨same_t (e1.trans e2) h1, same_t (e1.trans e2) h2⟩, fun i S1 H x H' d e1 e2 hd hy => ?_⟩
  obtain ⟨T, x1, y1, rfl, hT, rfl, hx, hy⟩ := hy
  obtain ⟨a', b', ha, hb, rfl⟩ := zpD_get hd
  obtain ⟨d1, hd1, g1⟩ := f1.get hx
  obtain ⟨d2, hd2, g2⟩ := f2.get hy
  rw [ha] at hd1
  rw [hb] at hd2
  cases hd1
  cases hd2
  exact res_pair e2 (Fz.mono e1 _ _ g1) (Fz.mono e1 _ _ g2) hT
end
section
variable {X : Cx} {K : PySem.W.Frag} {Z : Zt} {W : WX} {q qa qb : Bool} {w wa wb : IE} {e e2 : Expr} {pos p tpos : Pos} {elts : List Expr} {kk : Nat}
theorem ei_enum (hK : X.K = K) (hg : Gl X "enumerate") (hm : X.mg "enumerate" = none) (he : PE X e (Ev K Z W q w)) (hs : starEach [e] X.env = [(false, eval e X.env)] := by rfl) : PI X (.Tuple elts kk tpos) (.Call (.Name "enumerate" p) [e] [] pos) (EvI K Z W q (iEnu w)) := by
  subst hK
  refine (pi_enumA hg hm (pa_cons he pa_nil (by rw [hs]; rfl)) hs).weak fun σ H R ⟨Sh, ρ, Q0, E0, Rr, h, hq, hx⟩ => ?_
  refine ⟨Sh, ρ, _, E0, Rr, h, fun u ρ1 S1 H1 v h1 p1 => ?_, hx⟩
  obtain ⟨d, ρ2, S2, h2, m, f⟩ := p1.fz h1
  obtain ⟨ds, ed, h3⟩ := ob_ex h2
  cases d with
  | lst ds' =>
    cases ed
    cases f with
    | @lst a xs _ f1 f2 => exact .inl ⟨a, xs, rfl, SqL.of (m.rl.sh _ _ f1), hq _ _ _ _ _ h3 m (wk_enum f1 f2)⟩
  | tup ds' =>
    cases ed
    cases f with
    | @tup a xs _ f1 f2 => exact .inr ⟨a, xs, rfl, same_t m.rl.sh f1, hq _ _ _ _ _ h3 m (wk_enumT f1 f2)⟩
  | _ => cases ed
theorem ei_zip (hK : X.K = K) (hg : Gl X "zip") (hm : X.mg "zip" = none) (he : PE X e (Ev K Z W qa wa)) (he2 : PE X e2 (Ev K Z W qb wb)) (hs : starEach [e, e2] X.env = (false, eval e X.env) :: starEach [e2] X.env := by rfl) (hs2 : starEach [e2] X.env = (false, eval e2 X.env) :: starEach [] X.env := by rfl) (hpl : (backTo pos (starEach [e2] X.env)).any (·.1) = false := by rfl) :
    PI X (.Tuple elts kk tpos) (.Call (.Name "zip" p) [e, e2] [] pos) (EvI K Z W (qa && qb) (iZp wa wb)) := by
  subst hK
  refine (RZ.pi_zipA hg hm (pa_cons he (pa_cons he2 pa_nil hs2) hs) hs hpl).weak fun σ H R ⟨Sh, ρ, Q0, E0, Rr, h, hq, hx⟩ => ?_
  refine ⟨Sh, ρ, _, E0, Rr, h, fun u ρ1 S1 H1 v h1 p1 => ?_, hx⟩
  obtain ⟨d1, ρ2, S2, h2, m2, f2⟩ := p1.fz h1
  refine ⟨S2, ρ2, _, E0, m2.rl, h2, fun u3 ρ3 S3 H3 v3 h3 p3 => ?_, fun x ρ' S' H' cls d e p => hx x ρ' S' H' cls d e (m2.px p)⟩
  obtain ⟨d2, ρ4, S4, h4, m4, f4⟩ := p3.fz h3
  have f2' := Fz.mono m4.gx.ss _ _ f2
  have m := m2.trans m4
  split at h4
  · cases f2' with
    | @lst a xs _ g1 g2 =>
      cases f4 with
      | @lst b ys _ k1 k2 => exact ⟨a, b, xs, ys, rfl, .inl ⟨SqL.of (m4.rl.sh _ _ g1), SqL.of (m4.rl.sh _ _ k1), hq _ _ _ _ _ h4 m (wk_zip g1 g2 k1 k2)⟩⟩
  · cases f2' with
    | @tup a xs _ g1 g2 =>
      cases f4 with
      | @tup b ys _ k1 k2 => exact ⟨a, b, xs, ys, rfl, .inr ⟨same_t m4.rl.sh g1, same_t m4.rl.sh k1, hq _ _ _ _ _ h4 m (wk_zipT g1 g2 k1 k2)⟩⟩
  · exact False.elim h4
end
end G48

set_option Elab.async false
set_option linter.all false
set_option maxRecDepth 100000
set_option maxHeartbeats 4000000
namespace G48
open PySem PySem.Spec PyProof.Rows L2 SX
theorem u65 {k : Nat} {A : Around} (r : Room k A) : A.units + 65 < cLine := by have := r.un; omega
/-- a statement, then what follows by what is known between -/
def iCut (a b : IS) : IS := fun ρ N => ∃ M : En → Prop, a ρ { N with nx := M } ∧ ∀ ρ1, M ρ1 → b ρ1 N
theorem es_cut {X : Cx} {K : PySem.W.Frag} {Z : Zt} {W : WX} {L : List Nat} {a b : IS} {st : Stmt} {rest : List Stmt} (h1 : PS X st (EvS K Z W L a)) (h2 : PSs X rest (EvS K Z W L b)) : PSs X (st :: rest) (EvS K Z W L (iCut a b)) := by
  refine (pss_cons h1 h2).weak fun D σ H ⟨Sh, ρ, N, R, ⟨M, h, hm⟩, l⟩ => ?_
  exact ⟨Sh, ρ, _, R, h, ⟨fun ρ' σ' S' H' h m => ⟨S', ρ', N, m.rl, hm _ h, l.after m⟩, l.bk, l.ct, l.rt, l.ex⟩⟩
theorem atI_0 {α : Type} {a0 : α} {l : List α} : atI (a0 :: l) 0 = some a0 := atI_nat (j := 0) rfl
theorem atI_1 {α : Type} {a0 a1 : α} {l : List α} : atI (a0 :: a1 :: l) 1 = some a1 := atI_nat (j := 1) rfl
theorem atI_2 {α : Type} {a0 a1 a2 : α} {l : List α} : atI (a0 :: a1 :: a2 :: l) 2 = some a2 := atI_nat (j := 2) rfl
theorem atI_3 {α : Type} {a0 a1 a2 a3 : α} {l : List α} : atI (a0 :: a1 :: a2 :: a3 :: l) 3 = some a3 := atI_nat (j := 3) rfl
theorem atI_4 {α : Type} {a0 a1 a2 a3 a4 : α} {l : List α} : atI (a0 :: a1 :: a2 :: a3 :: a4 :: l) 4 = some a4 := atI_nat (j := 4) rfl
theorem fSet_0 {a0 d : D} {l : List D} : fSet (a0 :: l) (.int 0) d = some (d :: l) := by
  show (ixN (a0 :: l).length ((0 : Nat) : Int)).map _ = _
  have h : ixN (a0 :: l).length ((0 : Nat) : Int) = some 0 := by
    unfold ixN
    rw [if_pos (by omega), if_pos (by simp only [List.length_cons]; omega), Int.toNat_natCast]
  rw [h]
  rfl
theorem fSet_1 {a0 a1 d : D} {l : List D} : fSet (a0 :: a1 :: l) (.int 1) d = some (a0 :: d :: l) := by
  show (ixN (a0 :: a1 :: l).length ((1 : Nat) : Int)).map _ = _
  have h : ixN (a0 :: a1 :: l).length ((1 : Nat) : Int) = some 1 := by
    unfold ixN
    rw [if_pos (by omega), if_pos (by simp only [List.length_cons]; omega), Int.toNat_natCast]
  rw [h]
  rfl
theorem fSet_2 {a0 a1 a2 d : D} {l : List D} : fSet (a0 :: a1 :: a2 :: l) (.int 2) d = some (a0 :: a1 :: d :: l) := by
  show (ixN (a0 :: a1 :: a2 :: l).length ((2 : Nat) : Int)).map _ = _
  have h : ixN (a0 :: a1 :: a2 :: l).length ((2 : Nat) : Int) = some 2 := by
    unfold ixN
    rw [if_pos (by omega), if_pos (by simp only [List.length_cons]; omega), Int.toNat_natCast]
  rw [h]
  rfl
theorem fSet_3 {a0 a1 a2 a3 d : D} {l : List D} : fSet (a0 :: a1 :: a2 :: a3 :: l) (.int 3) d = some (a0 :: a1 :: a2 :: d :: l) := by
  show (ixN (a0 :: a1 :: a2 :: a3 :: l).length ((3 : Nat) : Int)).map _ = _
  have h : ixN (a0 :: a1 :: a2 :: a3 :: l).length ((3 : Nat) : Int) = some 3 := by
    unfold ixN
    rw [if_pos (by omega), if_pos (by simp only [List.length_cons]; omega), Int.toNat_natCast]
  rw [h]
  rfl
theorem atI_in {α : Type} {l : List α} {i : Nat} (h : i < l.length) : atI l (i : Int) = some l[i] := atI_nat (List.getElem?_eq_getElem h)
theorem ob_i {α : Type} {o : Option α} {a : α} {k : α → Prop} (e : o = some a) (h : k a) : ob o k := by rw [e, ob_some]; exact h
theorem ob_if {α : Type} {c : Prop} [Decidable c] {a : α} {k : α → Prop} (hc : c) (h : k a) : ob (if c then some a else none) k := by rw [if_pos hc, ob_some]; exact h
theorem ob_map {α β : Type} {o : Option α} {a : α} {f : α → β} {k : β → Prop} (e : o = some a) (h : k (f a)) : ob (o.map f) k := by rw [e, Option.map_some, ob_some]; exact h
theorem ite_b {c : Bool} {A B : Prop} (h1 : c = true → A) (h2 : c = false → B) : if c = true then A else B := by
  cases c with
  | true => exact h1 rfl
  | false => exact h2 rfl
theorem ite_d {p : Prop} [Decidable p] {A B : Prop} (h1 : p → A) (h2 : ¬ p → B) : if decide p = true then A else B := ite_b (fun e => h1 (of_decide_eq_true e)) (fun e => h2 (of_decide_eq_false e))
theorem sm_l {i j : Int} (h1 : -(2 ^ 64) < i) (h2 : i < 2 ^ 64) : (smallI i || smallI j) = true := by rw [smallI_iff.mpr ⟨h1, h2⟩, Bool.true_or]
theorem sm_r {i j : Int} (h1 : -(2 ^ 64) < j) (h2 : j < 2 ^ 64) : (smallI i || smallI j) = true := by rw [smallI_iff.mpr ⟨h1, h2⟩, Bool.or_true]
theorem pIx_str {l : List Nat} {r : Nat} (h : l.length ≤ LIM) (hr : r < l.length) : pIx (.str l) (.int (r : Int)) = some (.fr (.str [l[r]])) := by
  show (if l.length ≤ LIM then (atI l (r : Int)).map _ else none) = _
  rw [if_pos h, atI_in hr]
  rfl
theorem pIx_lst {l : List D} {r : Nat} (hr : r < l.length) : pIx (.lst l) (.int (r : Int)) = some (.fr l[r]) := by
  show (atI l (r : Int)).map _ = _
  rw [atI_in hr]
  rfl
theorem pIx_tup {l : List D} {r : Nat} (hr : r < l.length) : pIx (.tup l) (.int (r : Int)) = some (.fr l[r]) := by
  show (atI l (r : Int)).map _ = _
  rw [atI_in hr]
  rfl
theorem pLen_str {l : List Nat} (h : l.length ≤ LIM) : pLen (.str l) = some (.fr (.int l.length)) := by
  show (if l.length ≤ LIM then _ else _) = _
  rw [if_pos h]
theorem lim {n : Nat} (h : n ≤ 100000) : n ≤ LIM := h
theorem sts_map : ∀ ls : List (List Nat), sts (ls.map .str) = some ls
  | [] => rfl
  | l :: ls => by
    show (sts (ls.map .str)).map (l :: ·) = _
    rw [sts_map ls]
    rfl
theorem nts_map : ∀ ls : List Int, nts (ls.map .int) = some ls
  | [] => rfl
  | l :: ls => by
    show (nts (ls.map .int)).map (l :: ·) = _
    rw [nts_map ls]
    rfl
theorem bls_map : ∀ ls : List Bool, bls (ls.map .bl) = some ls
  | [] => rfl
  | l :: ls => by
    show (bls (ls.map .bl)).map (l :: ·) = _
    rw [bls_map ls]
    rfl
theorem pJoin_lst {a : List Nat} {ls : List (List Nat)} (h : (ls.map (·.length)).sum + ls.length * a.length ≤ LIM) : pJoin a (.lst (ls.map .str)) = some (.fr (.str (TL.joinL a ls))) := by
  show (sts (ls.map .str)).bind _ = _
  rw [sts_map]
  show (if _ then _ else _) = _
  rw [if_pos h]
theorem joinL_one : ∀ xs : List Nat, TL.joinL [] (xs.map fun x => [x]) = xs
  | [] => rfl
  | [x] => rfl
  | x :: y :: xs => by
    show [x] ++ ([] ++ TL.joinL [] ((y :: xs).map fun x => [x])) = _
    rw [joinL_one (y :: xs)]
    rfl
theorem sum_ones : ∀ xs : List Nat, ((xs.map fun x => [x]).map (·.length)).sum = xs.length
  | [] => rfl
  | x :: xs => by
    show 1 + ((xs.map fun x => [x]).map (·.length)).sum = xs.length + 1
    rw [sum_ones xs]
    omega
/-! loops by induction -/
theorem fo_ind {g : ITg} {b : IS} {N : IEn} (I : List D → En → Prop) (h0 : ∀ ρ, I [] ρ → N.nx ρ)
    (hs : ∀ d ds ρ, I (d :: ds) ρ → (∀ ρ', I ds ρ' → foGo g b N ds ρ') → g d ρ fun ρ1 => b ρ1 { N with nx := foGo g b N ds, ct := foGo g b N ds, bk := N.nx }) : ∀ ds ρ, I ds ρ → foGo g b N ds ρ
  | [], ρ, h => h0 ρ h
  | d :: ds, ρ, h => hs d ds ρ h (fo_ind I h0 hs ds)
theorem lc_ind {vs : List Nat} {g : ITg} {tt : IT} {te : IE} {Q : U → En → Prop} (I : List D → List D → En → Prop) (h0 : ∀ acc ρ, I [] acc ρ → Q (.va (.lst acc)) ρ)
    (hs : ∀ d ds acc ρ, I (d :: ds) acc ρ → (∀ acc' ρ', I ds acc' ρ' → lcGo vs g tt te Q ds acc' ρ') → g d ρ fun ρ1 => tt ρ1 (fun k ρ2 => if k = true then te ρ2 (fun u ρ3 => fzU ρ3 u fun y ρ4 => acc.length < LIM ∧ lcGo vs g tt te Q ds (acc ++ [y]) (wipeI ρ4 vs)) NoX else lcGo vs g tt te Q ds acc (wipeI ρ2 vs)) NoX) : ∀ ds acc ρ, I ds acc ρ → lcGo vs g tt te Q ds acc ρ
  | [], acc, ρ, h => h0 acc ρ h
  | d :: ds, acc, ρ, h => hs d ds acc ρ h (lc_ind I h0 hs ds)
theorem wh_ind {c : IT} {b : IS} {N : IEn} (I : Nat → En → Prop) (hs : ∀ n ρ, I n ρ → (∀ m, m < n → ∀ ρ', I m ρ' → ∀ k, m < k → whN c b N k ρ') → ∀ k, n ≤ k → c ρ (fun t ρ1 => if t = true then b ρ1 { N with nx := whN c b N k, ct := whN c b N k, bk := N.nx } else N.nx ρ1) N.ex) : ∀ n ρ, I n ρ → ∀ k, n < k → whN c b N k ρ := by
  intro n
  induction n using Nat.strongRecOn with
  | _ n ih =>
    intro ρ h k hk
    cases k with
    | zero => omega
    | succ k => exact hs n ρ h (fun m hm ρ' h' k' hk' => ih m hm ρ' h' k' hk') k (by omega)
/-- item by item -/
inductive All2 {α β : Type} (P : α → β → Prop) : List α → List β → Prop
  | nil : All2 P [] []
  | cons {a : α} {b : β} {as : List α} {bs : List β} : P a b → All2 P as bs → All2 P (a :: as) (b :: bs)
theorem All2.len {α β : Type} {P : α → β → Prop} {as : List α} {bs : List β} (h : All2 P as bs) : bs.length = as.length := by
  induction h with
  | nil => rfl
  | cons _ _ ih => rw [List.length_cons, List.length_cons, ih]
theorem All2.mem {α β : Type} {P : α → β → Prop} {as : List α} {bs : List β} (h : All2 P as bs) : ∀ b ∈ bs, ∃ a ∈ as, P a b := by
  induction h with
  | nil => intro b hb; cases hb
  | cons p _ ih =>
    intro b hb
    rcases List.mem_cons.mp hb with rfl | hb
    · exact ⟨_, List.mem_cons_self, p⟩
    · obtain ⟨a, ha, q⟩ := ih b hb
      exact ⟨a, List.mem_cons_of_mem _ ha, q⟩
theorem All2.imp {α β : Type} {P P' : α → β → Prop} {as : List α} {bs : List β} (h : All2 P as bs) (f : ∀ a b, a ∈ as → P a b → P' a b) : All2 P' as bs := by
  induction h with
  | nil => exact .nil
  | cons p _ ih => exact .cons (f _ _ List.mem_cons_self p) (ih fun a b ha => f a b (List.mem_cons_of_mem _ ha))
theorem All2.map {α β γ : Type} {f : γ → β} {as : List α} {bs : List β} {P : α → γ → Prop} (h : All2 (fun a b => ∃ c, b = f c ∧ P a c) as bs) : ∃ cs, bs = cs.map f ∧ All2 P as cs := by
  induction h with
  | nil => exact ⟨[], rfl, .nil⟩
  | cons p _ ih =>
    obtain ⟨c, rfl, hc⟩ := p
    obtain ⟨cs, rfl, h⟩ := ih
    exact ⟨c :: cs, rfl, .cons hc h⟩
/-- a comprehension without a test: I of the state, P of an item and what it gives -/
theorem lc_map {vs : List Nat} {g : ITg} {te : IE} {Q : U → En → Prop} (I : En → Prop) (P : D → D → Prop) (hl : ∀ d : D, True)
    : ∀ (ds acc : List D) (ρ : En), I ρ → acc.length + ds.length ≤ LIM →
      (∀ d, d ∈ ds → ∀ ρ (k : En → List Nat → D → Prop), I ρ → (∀ y ρ4, P d y → I (wipeI ρ4 vs) → k ρ4 vs y) → g d ρ fun ρ1 => te ρ1 (fun u ρ3 => fzU ρ3 u fun y ρ4 => k ρ4 vs y) NoX) →
      (∀ ys ρ', I ρ' → All2 P ds ys → Q (.va (.lst (acc ++ ys))) ρ') → lcGo vs g jYes te Q ds acc ρ
  | [], acc, ρ, h, _, _, q => by
    have := q [] ρ h .nil
    rw [List.append_nil] at this
    exact this
  | d :: ds, acc, ρ, h, hle, st, q => by
    have hlen : acc.length + (ds.length + 1) ≤ LIM := hle
    refine st d List.mem_cons_self ρ (fun ρ4 vs y => acc.length < LIM ∧ lcGo vs g jYes te Q ds (acc ++ [y]) (wipeI ρ4 vs)) h (fun y ρ4 hp hi => ⟨by omega, ?_⟩)
    refine lc_map I P hl ds (acc ++ [y]) (wipeI ρ4 vs) hi (by rw [List.length_append]; show acc.length + 1 + ds.length ≤ LIM; omega) (fun d' hd' => st d' (List.mem_cons_of_mem _ hd')) (fun ys ρ' hi' ha => ?_)
    rw [List.append_assoc]
    exact q (y :: ys) ρ' hi' (.cons hp ha)
end G48

set_option Elab.async false
set_option linter.all false
set_option maxRecDepth 100000
set_option maxHeartbeats 4000000
namespace G48
open PySem PySem.Spec PyProof.Rows L2 SX
theorem cutL_from {α : Type} (xs : List α) {i : Nat} (h : i ≤ xs.length) : cutL xs (some (i : Int)) none = xs.drop i := by
  unfold cutL
  rw [HT.sIx_nat, HT.sIx_none, Nat.min_eq_left h]
  exact List.take_of_length_le (by rw [List.length_drop]; exact Nat.le_refl _)
theorem cutL_to {α : Type} (xs : List α) (i : Nat) : cutL xs none (some (i : Int)) = xs.take i := by
  unfold cutL
  rw [HT.sIx_nat, HT.sIx_none, List.drop_zero, Nat.sub_zero]
  rcases Nat.le_total i xs.length with h | h
  · rw [Nat.min_eq_left h]
  · rw [Nat.min_eq_right h, List.take_of_length_le h, List.take_length]
theorem cutL_between {α : Type} (xs : List α) (i j : Nat) : cutL xs (some (i : Int)) (some (j : Int)) = (xs.drop i).take (j - i) := by
  unfold cutL
  rw [HT.sIx_nat, HT.sIx_nat]
  rcases Nat.le_total i xs.length with h | h
  · rw [Nat.min_eq_left h]
    rcases Nat.le_total j xs.length with h2 | h2
    · rw [Nat.min_eq_left h2]
    · rw [Nat.min_eq_right h2, List.take_of_length_le (by rw [List.length_drop]; exact Nat.le_refl _), List.take_of_length_le (by rw [List.length_drop]; omega)]
  · rw [Nat.min_eq_right h, List.drop_length, List.drop_of_length_le h, List.take_nil, List.take_nil]
theorem natD_mem {n : Nat} {d : D} (h : d ∈ natD n) : ∃ k : Nat, k < n ∧ d = .int (k : Int) := by
  unfold natD at h
  obtain ⟨k, hk, rfl⟩ := List.mem_map.mp h
  exact ⟨k, List.mem_range.mp hk, rfl⟩
theorem All2.fn {α β : Type} {f : α → β} {as : List α} {bs : List β} (h : All2 (fun a b => b = f a) as bs) : bs = as.map f := by
  induction h with
  | nil => rfl
  | cons e _ ih => rw [e, ih]; rfl
theorem nat_len (n : Nat) : (natD ((n : Nat) : Int).toNat).length = n := by rw [natD_len, Int.toNat_natCast]
/-- a comprehension over a range, item by item a function of the number -/
theorem lc_rng {vs : List Nat} {g : ITg} {te : IE} {Q : U → En → Prop} {ρ : En} (I : En → Prop) (f : Nat → D) (n : Nat) (h : I ρ) (hn : n ≤ 100000)
    (hs : ∀ j : Nat, j < n → ∀ ρ (k : En → List Nat → D → Prop), I ρ → (∀ ρ4, I (wipeI ρ4 vs) → k ρ4 vs (f j)) → g (.int (j : Int)) ρ fun ρ1 => te ρ1 (fun u ρ3 => fzU ρ3 u fun y ρ4 => k ρ4 vs y) NoX)
    (q : ∀ ρ', I ρ' → Q (.va (.lst ((List.range n).map f))) ρ') : lcGo vs g jYes te Q (natD ((n : Nat) : Int).toNat) [] ρ := by
  refine lc_map I (fun d y => ∃ j : Nat, d = .int (j : Int) ∧ y = f j) (fun _ => trivial) _ _ _ h (by rw [nat_len]; exact lim (by simpa using hn)) (fun d hd ρ k hi hk => ?_) (fun ys ρ' hi ha => ?_)
  · obtain ⟨j, hj, rfl⟩ := natD_mem hd
    rw [Int.toNat_natCast] at hj
    exact hs j hj ρ k hi (fun ρ4 h4 => hk _ ρ4 ⟨j, rfl, rfl⟩ h4)
  · have e : ys = (List.range n).map f := by
      rw [Int.toNat_natCast] at ha
      have z := All2.fn (f := fun d : D => match d with | .int i => f i.toNat | _ => .non) (ha.imp fun a b _ ⟨j, e1, e2⟩ => by
        subst e1
        show b = f (j : Int).toNat
        rw [Int.toNat_natCast]
        exact e2)
      rw [z]
      unfold natD
      rw [List.map_map]
      refine List.map_congr_left fun j _ => ?_
      show f (j : Int).toNat = f j
      rw [Int.toNat_natCast]
    rw [e]
    exact q ρ' hi
theorem fo_at {g : ITg} {b : IS} {N : IEn} {ρ : En} {ds : List D} (I : Nat → En → Prop) (h : I 0 ρ) (h0 : ∀ ρ, I ds.length ρ → N.nx ρ)
    (hs : ∀ (j : Nat) (hj : j < ds.length) (ρ : En), I j ρ → ∀ k : En → Prop, (∀ ρ', I (j + 1) ρ' → k ρ') → g ds[j] ρ fun ρ1 => b ρ1 { N with nx := k, ct := k, bk := N.nx }) : foGo g b N ds ρ := by
  refine fo_ind (fun ds' ρ => ∃ j, ds' = ds.drop j ∧ j ≤ ds.length ∧ I j ρ) (fun ρ ⟨j, e, hj, hi⟩ => ?_) (fun d ds' ρ ⟨j, e, hj, hi⟩ hk => ?_) ds ρ ⟨0, rfl, Nat.zero_le _, h⟩
  · have : ds.length ≤ j := List.drop_eq_nil_iff.mp e.symm
    have e2 : j = ds.length := by omega
    subst e2
    exact h0 ρ hi
  · have hj2 : j < ds.length := by
      rcases Nat.lt_or_ge j ds.length with z | z
      · exact z
      · rw [List.drop_of_length_le z] at e
        cases e
    rw [List.drop_eq_getElem_cons hj2] at e
    obtain ⟨rfl, rfl⟩ := List.cons.inj e
    exact hs j hj2 ρ hi _ (fun ρ' h' => hk ρ' ⟨j + 1, rfl, by omega, h'⟩)
theorem fo_rng {g : ITg} {b : IS} {N : IEn} {ρ : En} (I : Nat → En → Prop) (n : Nat) {m : Int} (hm : m.toNat = n) (h : I 0 ρ) (h0 : ∀ ρ, I n ρ → N.nx ρ)
    (hs : ∀ (j : Nat) (hj : j < n) (ρ : En), I j ρ → ∀ k : En → Prop, (∀ ρ', I (j + 1) ρ' → k ρ') → g (.int (j : Int)) ρ fun ρ1 => b ρ1 { N with nx := k, ct := k, bk := N.nx }) : foGo g b N (natD m.toNat) ρ := by
  subst hm
  have el : (natD m.toNat).length = m.toNat := natD_len _
  refine fo_at I h (fun ρ hi => h0 ρ (by rw [el] at hi; exact hi)) (fun j hj ρ hi k hk => ?_)
  have e : (natD m.toNat)[j] = .int (j : Int) := by simp [natD]
  rw [e]
  exact hs j (by omega) ρ hi k hk
/-- a comprehension with a test -/
theorem lc_at {vs : List Nat} {g : ITg} {tt : IT} {te : IE} {Q : U → En → Prop} {ρ : En} {ds : List D} (I : Nat → List D → En → Prop) (hl : ds.length ≤ 100000) (h : I 0 [] ρ) (h0 : ∀ acc ρ, I ds.length acc ρ → Q (.va (.lst acc)) ρ)
    (hs : ∀ (j : Nat) (hj : j < ds.length) acc ρ, I j acc ρ → ∀ (k1 : En → D → Prop) (k2 : En → Prop), (∀ y ρ4, I (j + 1) (acc ++ [y]) (wipeI ρ4 vs) → k1 ρ4 y) → (∀ ρ2, I (j + 1) acc (wipeI ρ2 vs) → k2 ρ2) →
      g ds[j] ρ fun ρ1 => tt ρ1 (fun k ρ2 => if k = true then te ρ2 (fun u ρ3 => fzU ρ3 u fun y ρ4 => k1 ρ4 y) NoX else k2 ρ2) NoX) : lcGo vs g tt te Q ds [] ρ := by
  refine lc_ind (fun ds' acc ρ => ∃ j, ds' = ds.drop j ∧ j ≤ ds.length ∧ acc.length ≤ j ∧ I j acc ρ) (fun acc ρ ⟨j, e, hj, ha, hi⟩ => ?_) (fun d ds' acc ρ ⟨j, e, hj, ha, hi⟩ hk => ?_) ds [] ρ ⟨0, rfl, Nat.zero_le _, Nat.zero_le _, h⟩
  · have : ds.length ≤ j := List.drop_eq_nil_iff.mp e.symm
    have e2 : j = ds.length := by omega
    subst e2
    exact h0 acc ρ hi
  · have hj2 : j < ds.length := by
      rcases Nat.lt_or_ge j ds.length with z | z
      · exact z
      · rw [List.drop_of_length_le z] at e
        cases e
    rw [List.drop_eq_getElem_cons hj2] at e
    obtain ⟨rfl, rfl⟩ := List.cons.inj e
    refine hs j hj2 acc ρ hi (fun ρ4 y => acc.length < LIM ∧ lcGo vs g tt te Q (ds.drop (j + 1)) (acc ++ [y]) (wipeI ρ4 vs)) (fun ρ2 => lcGo vs g tt te Q (ds.drop (j + 1)) acc (wipeI ρ2 vs)) (fun y ρ4 h4 => ⟨?_, hk _ _ ⟨j + 1, rfl, by omega, by rw [List.length_append]; show _ + 1 ≤ _; omega, h4⟩⟩) (fun ρ2 h2 => hk _ _ ⟨j + 1, rfl, by omega, by omega, h2⟩)
    show acc.length < 100000
    omega
theorem ixN_nat {n i : Nat} (h : i < n) : ixN n (i : Int) = some i := by
  unfold ixN
  rw [if_pos (by omega), if_pos (by omega), Int.toNat_natCast]
theorem seqIx_nat {n i : Nat} (h : i < n) : seqIndex? (i : Int) n = some i := (ixN_seq (ixN_nat h)).1
theorem fPop_at {xs : List D} {i : Nat} (h : i < xs.length) (h2 : xs.length ≤ 100000) : fPop xs [.int (i : Int)] = some (xs.eraseIdx i, xs[i]) := by
  simp only [fPop]
  rw [if_pos (wordI_iff.mpr (by omega)), seqIx_nat h, Option.bind_some, List.getElem?_eq_getElem h, Option.map_some]
theorem fApp_at {xs : List D} {d : D} (h : xs.length < 100000) : fApp xs [d] = some (xs ++ [d], .non) := if_pos h
theorem atI_map {α : Type} {f : α → D} {l : List α} {i : Nat} (h : i < l.length) : atI (l.map f) (i : Int) = some (f l[i]) := by
  rw [atI_in (by rw [List.length_map]; exact h), List.getElem_map]
theorem pAdd_lst {a b : List D} (h : a.length + b.length ≤ 100000) : pAdd (.lst a) (.lst b) = some (.lst (a ++ b)) := if_pos (lim h)
theorem pAdd_tup {a b : List D} (h : a.length + b.length ≤ 100000) : pAdd (.tup a) (.tup b) = some (.fr (.tup (a ++ b))) := if_pos (lim h)
theorem map_erase {α β : Type} (f : α → β) : ∀ (l : List α) (i : Nat), (l.map f).eraseIdx i = (l.eraseIdx i).map f
  | [], _ => rfl
  | _ :: _, 0 => rfl
  | a :: l, i + 1 => by
    show f a :: (l.map f).eraseIdx i = f a :: (l.eraseIdx i).map f
    rw [map_erase f l i]
theorem pMul_rep {a : List D} {k : Nat} (h : a.length * k ≤ 100000) (hk : k ≤ 100000) : pMul (.lst a) (.int (k : Int)) = some (.lst (repD k a)) := by
  show (if wordI (k : Int) = true ∧ a.length * (k : Int).toNat ≤ LIM then _ else _) = _
  rw [if_pos ⟨wordI_iff.mpr (by omega), by rw [Int.toNat_natCast]; exact lim h⟩, Int.toNat_natCast]
abbrev nD (n : Nat) : D := .int ((n : Nat) : Int)
end G48

set_option Elab.async false
set_option linter.all false
set_option maxRecDepth 100000
set_option maxHeartbeats 4000000
namespace G48
open PySem PySem.Spec PyProof.Rows L2 SX
/-! ### l.index(x) -/
def ixE (p : PyData) : List D → Option Nat
  | [] => none
  | d :: ds => if PyData.eqv d.py p = true then some 0 else (ixE p ds).map (· + 1)
def ixF : D → List D → Option O
  | .lst ds, [x] => if x.okEq && (D.lst ds).okEq then (ixE x.py ds).map fun j => .fr (nD j) else none
  | _, _ => none
def iLx (qb : Bool) (f : D → List D → Option O) (wo : IE) (ra : IA) : IE := fun ρ Q E => wo ρ (fun u ρ1 => okp qb u ∧ ob (rdU ρ1 u) (fun d => isL d = true) ∧ ra ρ1 (fun es ρ2 => ob (rdU ρ2 u) fun dl => ob (f dl es) fun o => Q (.va o) ρ2) E) E
theorem ixE_at {p : PyData} : ∀ {ds : List D} {j : Nat}, ixE p ds = some j → ∃ d, ds[j]? = some d ∧ PyData.eqv d.py p = true ∧ ∀ (m : Nat) (d' : D), m < j → ds[m]? = some d' → PyData.eqv d'.py p = false
  | [], j, h => by cases h
  | d :: ds, j, h => by
    unfold ixE at h
    split at h
    · rename_i hb
      cases h
      exact ⟨d, rfl, hb, fun m d' hm => by omega⟩
    · rename_i hb
      cases hj : ixE p ds with
      | none =>
        rw [hj] at h
        cases h
      | some j' =>
        rw [hj] at h
        cases h
        obtain ⟨e, h1, h2, h3⟩ := ixE_at hj
        refine ⟨e, h1, h2, fun m d' hm hd => ?_⟩
        cases m with
        | zero =>
          cases hd
          exact Bool.eq_false_iff.mpr hb
        | succ m => exact h3 m d' (Nat.lt_of_succ_lt_succ hm) hd
theorem pyL_get : ∀ {ds : List D} {j : Nat} {z : PyData}, (D.pyL ds)[j]? = some z → ∃ d, ds[j]? = some d ∧ z = d.py
  | [], j, z, h => by cases j <;> cases h
  | d :: ds, 0, z, h => by cases h; exact ⟨d, rfl, rfl⟩
  | d :: ds, j + 1, z, h => pyL_get (ds := ds) (j := j) h
theorem pyL_at : ∀ {ds : List D} {j : Nat} {d : D}, ds[j]? = some d → (D.pyL ds)[j]? = some d.py
  | [], j, z, h => by cases j <;> cases h
  | d :: ds, 0, z, h => by cases h; rfl
  | d :: ds, j + 1, z, h => pyL_at (ds := ds) (j := j) h
section
variable {X : Cx} {K : PySem.W.Frag} {Z : Zt} {W : WX} {wa : IE} {ra : IA} {qa qb : Bool} {o e : Expr} {pos : Pos}
theorem ev_index {apos : Pos} (hK : X.K = K) (hu : X.A.units + 65 < cLine) (ho : PE X o (Ev K Z W qa wa)) (ha : PA X [e] (EvA K Z W qb ra))
    (hbase : attributeBase o "index" X.env (eval o X.env) = eval o X.env := by rfl)
    (hfew : ((backTo pos (starEach [e] X.env)).all (fun x => !x.1) && (backToKw pos (keywordEach [] X.env)).all (fun x => x.1.isSome)
      && decide ([e].length + ([] : List Keyword).length + (if ([] : List Keyword).isEmpty then 0 else 1) < 30)) = true := by rfl)
    (hline : (apos.endLine == pos.line) = true := by rfl) (hs : starEach [e] X.env = (false, eval e X.env) :: starEach [] X.env := by rfl) (hplain : (backTo pos (starEach [] X.env)).any (·.1) = false := by rfl) :
    PE X (.Call (.Attribute o "index" apos) [e] [] pos) (Ev K Z W (qa && qb) (iLx qb ixF wa ra)) := by
  subst hK
  refine (pe_bm PySem.F.plainAttrs_list PySem.F.slot_list_index PySem.F.type_list_index (mt_indexD hu) ho ha hbase hfew hline hs hplain).weak fun σ H Q ⟨Sh, ρ, Q0, E0, R, h, hq, hx⟩ => ?_
  refine ⟨Sh, ρ, _, E0, R, h, fun u ρ1 S1 H1 v1 ⟨ok, hl, h1⟩ p1 => ?_, hx⟩
  obtain ⟨d, ed, hl⟩ := ob_ex hl
  have sv := p1.ev.sv p1.rl ed
  refine ⟨?_, S1, ρ1, _, E0, p1.rl, h1, fun ds ρ2 S2 H2 vs h2 m2 f2 => ?_, fun x ρ' S' H' cls d e p => hx x ρ' S' H' cls d e (p1.mid.px p)⟩
  · cases d with
    | lst ds =>
      obtain ⟨a, xs, rfl, h1, _⟩ := sv
      exact .inl ⟨rfl, xs, SqL.of h1⟩
    | _ => cases hl
  · obtain ⟨dl, e1, h2⟩ := ob_ex h2
    obtain ⟨oo, e2, h2⟩ := ob_ex h2
    have ev2 := p1.ev.step p1.rl m2 ok
    have sv2 := ev2.sv m2.rl e1
    obtain ⟨ds', x, rfl, rfl⟩ : ∃ ds' x, dl = .lst ds' ∧ ds = [x] := by
      unfold ixF at e2
      split at e2
      · exact ⟨_, _, rfl, rfl⟩
      · cases e2
    · have e2 : (if x.okEq && (D.lst ds').okEq then (ixE x.py ds').map fun j => O.fr (nD j) else none) = some oo := e2
      split at e2
      · rename_i hk
        obtain ⟨k1, k2⟩ := Bool.and_eq_true_iff.mp hk
        cases hj : ixE x.py ds' with
        | none =>
          rw [hj] at e2
          cases e2
        | some j =>
          rw [hj] at e2
          cases e2
          obtain ⟨z, z1, z2, z3⟩ := ixE_at hj
          have dl2 := sv2.dp m2.rl.sh (Bool.and_eq_true_iff.mp k2).1
          obtain ⟨a, xs, rfl, _, _⟩ := sv2
          cases f2 with
          | @cons y ys _ _ fy fn =>
            cases fn
            refine ⟨a, y, x.py, _, j, z.py, rfl, rfl, dl2, (Fz.sv m2.rl.sh fy).dp m2.rl.sh (Bool.and_eq_true_iff.mp k1).1, okEq_shaped k2, okEq_shaped k1, pyL_at z1, z2, fun m z' hm hz => ?_, ?_⟩
            · obtain ⟨d', hd', rfl⟩ := pyL_get hz
              exact z3 m d' hm hd'
            · exact hq _ _ _ _ _ h2 ((p1.mid.trans m2).fin (Res.fr m2.rl.sh (.int _)))
      · cases e2
end
theorem eqv_str (a b : List Nat) : PyData.eqv (D.str a).py (D.str b).py = decide (a = b) := by
  show PyData.eqv (.str (S a)) (.str (S b)) = _
  by_cases h : a = b
  · subst h
    rw [decide_eq_true rfl]
    show (S a == S a) = true
    exact beq_self_eq_true _
  · rw [decide_eq_false h]
    show (S a == S b) = false
    exact beq_false_of_ne fun e => h (S_inj e)
theorem ixE_str {ws : List (List Nat)} {i : Nat} {h : List Nat} (hn : ws.Nodup) (hi : ws[i]? = some h) : ixE (D.str h).py (ws.map D.str) = some i := by
  induction ws generalizing i with
  | nil => cases i <;> cases hi
  | cons a ws ih =>
    unfold ixE
    rw [List.map_cons]
    show (if PyData.eqv (D.str a).py (D.str h).py = true then some 0 else _) = _
    rw [eqv_str]
    obtain ⟨n1, n2⟩ := List.nodup_cons.mp hn
    cases i with
    | zero =>
      cases hi
      rw [decide_eq_true rfl, if_pos rfl]
    | succ i =>
      have hi' : ws[i]? = some h := hi
      have : a ≠ h := fun e => n1 (by rw [e]; exact List.mem_of_getElem? hi')
      rw [decide_eq_false this, if_neg (by decide), ih n2 hi']
      rfl
theorem anyEq_str (h : List Nat) : ∀ ws : List (List Nat), anyEq (D.str h) (ws.map D.str) = decide (h ∈ ws)
  | [] => rfl
  | a :: ws => by
    show (PyData.eqv (D.str a).py (D.str h).py || anyEq (D.str h) (ws.map D.str)) = _
    rw [eqv_str, anyEq_str h ws]
    by_cases e : a = h
    · subst e
      simp
    · have : ¬ h = a := fun z => e z.symm
      simp [e, this]
theorem shpL_str : ∀ {ws : List (List Nat)}, (∀ l ∈ ws, l.all (· < 0x110000) = true) → D.shpL (ws.map D.str) = true
  | [], _ => rfl
  | l :: ws, h => by
    show ((l.all (· < 0x110000)) && D.shpL (ws.map D.str)) = true
    rw [h l List.mem_cons_self, shpL_str fun x hx => h x (List.mem_cons_of_mem _ hx)]
    rfl
theorem depL_str : ∀ (ws : List (List Nat)), D.depL (ws.map D.str) = 0
  | [] => rfl
  | l :: ws => by
    show max 0 (D.depL (ws.map D.str)) = 0
    rw [depL_str ws]
    rfl
theorem okEq_str {l : List Nat} (h : l.all (· < 0x110000) = true) : (D.str l).okEq = true := by
  show (l.all (· < 0x110000) && decide (0 ≤ 60)) = true
  rw [h]
  rfl
theorem okEq_strs {ws : List (List Nat)} (h : ∀ l ∈ ws, l.all (· < 0x110000) = true) : (D.lst (ws.map D.str)).okEq = true := by
  show (D.shpL (ws.map D.str) && decide (D.depL (ws.map D.str) + 1 ≤ 60)) = true
  rw [shpL_str h, depL_str]
  rfl
theorem ixF_str {ws : List (List Nat)} {i : Nat} {h : List Nat} (hs : ∀ l ∈ ws, l.all (· < 0x110000) = true) (hn : ws.Nodup) (hi : ws[i]? = some h) : ixF (.lst (ws.map D.str)) [.str h] = some (.fr (nD i)) := by
  show (if _ then _ else _) = _
  rw [okEq_str (hs h (List.mem_of_getElem? hi)), okEq_strs hs, ixE_str hn hi]
  rfl
theorem pIn_str {ws : List (List Nat)} {h : List Nat} (hs : ∀ l ∈ ws, l.all (· < 0x110000) = true) (hh : h.all (· < 0x110000) = true) : pIn (.str h) (.lst (ws.map D.str)) = some (.fr (.bl (decide (h ∈ ws)))) := by
  show (if _ then _ else none).map _ = _
  rw [okEq_str hh, okEq_strs hs, anyEq_str]
  rfl
theorem fo_map {α : Type} {f : α → D} {l : List α} {g : ITg} {b : IS} {N : IEn} {ρ : En} (I : Nat → En → Prop) (h : I 0 ρ) (h0 : ∀ ρ, I l.length ρ → N.nx ρ)
    (hs : ∀ (j : Nat) (hj : j < l.length) (ρ : En), I j ρ → ∀ k : En → Prop, (∀ ρ', I (j + 1) ρ' → k ρ') → g (f l[j]) ρ fun ρ1 => b ρ1 { N with nx := k, ct := k, bk := N.nx }) : foGo g b N (l.map f) ρ := by
  refine fo_at I h (fun ρ hi => h0 ρ (by rw [List.length_map] at hi; exact hi)) (fun j hj ρ hi k hk => ?_)
  rw [List.getElem_map]
  exact hs j (by rw [List.length_map] at hj; exact hj) ρ hi k hk
theorem lc_of {α : Type} {f : α → D} {l : List α} {vs : List Nat} {g : ITg} {tt : IT} {te : IE} {Q : U → En → Prop} {ρ : En} (I : Nat → List D → En → Prop) (hl : l.length ≤ 100000) (h : I 0 [] ρ) (h0 : ∀ acc ρ, I l.length acc ρ → Q (.va (.lst acc)) ρ)
    (hs : ∀ (j : Nat) (hj : j < l.length) acc ρ, I j acc ρ → ∀ (k1 : En → D → Prop) (k2 : En → Prop), (∀ y ρ4, I (j + 1) (acc ++ [y]) (wipeI ρ4 vs) → k1 ρ4 y) → (∀ ρ2, I (j + 1) acc (wipeI ρ2 vs) → k2 ρ2) →
      g (f l[j]) ρ fun ρ1 => tt ρ1 (fun k ρ2 => if k = true then te ρ2 (fun u ρ3 => fzU ρ3 u fun y ρ4 => k1 ρ4 y) NoX else k2 ρ2) NoX) : lcGo vs g tt te Q (l.map f) [] ρ := by
  refine lc_at I (by rw [List.length_map]; exact hl) h (fun acc ρ hi => h0 acc ρ (by rw [List.length_map] at hi; exact hi)) (fun j hj acc ρ hi k1 k2 h1 h2 => ?_)
  rw [List.getElem_map]
  exact hs j (by rw [List.length_map] at hj; exact hj) acc ρ hi k1 k2 h1 h2
/-- a comprehension without a test -/
theorem lc_on {α : Type} {f : α → D} {l : List α} {vs : List Nat} {g : ITg} {te : IE} {Q : U → En → Prop} {ρ : En} (I : Nat → List D → En → Prop) (hl : l.length ≤ 100000) (h : I 0 [] ρ) (h0 : ∀ acc ρ, I l.length acc ρ → Q (.va (.lst acc)) ρ)
    (hs : ∀ (j : Nat) (hj : j < l.length) acc ρ, I j acc ρ → ∀ (k1 : En → D → Prop), (∀ y ρ4, I (j + 1) (acc ++ [y]) (wipeI ρ4 vs) → k1 ρ4 y) →
      g (f l[j]) ρ fun ρ1 => te ρ1 (fun u ρ3 => fzU ρ3 u fun y ρ4 => k1 ρ4 y) NoX) : lcGo vs g jYes te Q (l.map f) [] ρ :=
  lc_of I hl h h0 fun j hj acc ρ hi k1 _ h1 _ => hs j hj acc ρ hi k1 h1
theorem zpD_map {α β : Type} (f : α → D) (g : β → D) : ∀ (as : List α) (bs : List β), zpD (as.map f) (bs.map g) = (as.zip bs).map fun p => .tup [f p.1, g p.2]
  | [], _ => rfl
  | _ :: _, [] => rfl
  | a :: as, b :: bs => by
    show .tup [f a, g b] :: zpD (as.map f) (bs.map g) = _
    rw [zpD_map f g as bs]
    rfl
theorem rep0D : ∀ n : Nat, repD n [D.int 0] = (List.replicate n 0).map nD
  | 0 => rfl
  | n + 1 => by
    show (List.replicate (n + 1) [D.int 0]).flatten = _
    rw [List.replicate_succ, List.flatten_cons, show (List.replicate n [D.int 0]).flatten = _ from rep0D n, List.replicate_succ]
    rfl
theorem shpL_ints : ∀ ks : List Nat, D.shpL (ks.map nD) = true
  | [] => rfl
  | k :: ks => by
    show (true && D.shpL (ks.map nD)) = true
    rw [shpL_ints ks]
    rfl
theorem depL_ints : ∀ ks : List Nat, D.depL (ks.map nD) = 0
  | [] => rfl
  | k :: ks => by
    show max 0 (D.depL (ks.map nD)) = 0
    rw [depL_ints ks]
    rfl
theorem okEq_ints (ks : List Nat) : (D.lst (ks.map nD)).okEq = true := by
  show (D.shpL (ks.map nD) && decide (D.depL (ks.map nD) + 1 ≤ 60)) = true
  rw [shpL_ints, depL_ints]
  rfl
theorem eqD_nil (ks : List Nat) : eqD (.lst (ks.map nD)) (.lst []) = some ks.isEmpty := by
  show (if (D.lst (ks.map nD)).okEq && (D.lst []).okEq then some (PyData.eqv (D.lst (ks.map nD)).py (D.lst []).py) else none) = _
  rw [okEq_ints]
  cases ks <;> rfl
theorem pEq_nil (ks : List Nat) : pEq (.lst (ks.map nD)) (.lst []) = some (.fr (.bl ks.isEmpty)) := by
  unfold pEq
  rw [eqD_nil]
  rfl
theorem pNe_nil (ks : List Nat) : pNe (.lst (ks.map nD)) (.lst []) = some (.fr (.bl (!ks.isEmpty))) := by
  unfold pNe
  rw [eqD_nil]
  rfl
end G48

set_option Elab.async false
set_option linter.all false
set_option maxRecDepth 100000
set_option maxHeartbeats 4000000
namespace G48
open PySem PySem.Spec PyProof.Rows L2 SX
/-! ### max(l, default=0), l of whole numbers -/
def mxN (l : List Nat) : Nat := l.foldr max 0
theorem mx_fold : ∀ (ys : List Nat) (y : Nat), PySem.W.maxOf (y : Int) (ys.map fun n => ((n : Nat) : Int)) = ((mxN (y :: ys) : Nat) : Int)
  | [], y => by
    show (y : Int) = ((max y 0 : Nat) : Int)
    rw [Nat.max_zero]
  | z :: ys, y => by
    show PySem.W.maxOf (if decide ((y : Int) < (z : Int)) = true then (z : Int) else (y : Int)) (ys.map fun n => ((n : Nat) : Int)) = ((max y (max z (mxN ys)) : Nat) : Int)
    by_cases h : y < z
    · rw [if_pos (decide_eq_true (by omega)), mx_fold ys z]
      show ((max z (mxN ys) : Nat) : Int) = _
      rw [Nat.max_eq_right (show y ≤ max z (mxN ys) by omega)]
    · rw [if_neg (fun c => h (by have := of_decide_eq_true c; omega)), mx_fold ys y]
      show ((max y (mxN ys) : Nat) : Int) = _
      congr 1
      omega
def rMaxN (K : PySem.W.Frag) : List V → List V → Hp → VK → Prop := fun vs zs H Q => ∃ (a : Addr) (ns : List Nat), vs = [V.ref a] ∧ zs = [V.int 0] ∧ SqL K H a (ns.map fun n => V.int ((n : Nat) : Int)) ∧ Q (V.int ((mxN ns : Nat) : Int)) H
theorem cr_maxN {X : Cx} (hc : X.calm = true) (hu : X.A.units + 64 < cLine) : CallRK X (.builtin "max") [Str.ofString "default"] (rMaxN X.K) := by
  intro pins s σ H vs zs us ws Q I r rz h
  obtain ⟨a, ns, rfl, rfl, hs, q⟩ := h
  have hs' : SqL X.K H a ((ns.map fun n => ((n : Nat) : Int)).map V.int) := by
    rw [List.map_map]
    exact hs
  obtain ⟨its, rv, hl, _⟩ := I.list hs'
  rw [Vals.ref1 r]
  obtain ⟨w1, rfl, e1⟩ := vals1 rz
  obtain ⟨t, rfl⟩ := e1
  have hi := rv.ints
  refine PySem.W.max_list_datum_default (α := Int) (xs := ns.map fun n => ((n : Nat) : Int)) (I.ok.hd hc) hl.isList (PySem.W.HoldAll.of_ints hi) (show X.A.units + 1 + 0 < cLine by omega) (fun e h' tk hk => ?_) (fun y ys i v h' tk e hiv hv hk => ?_)
  · have : ns = [] := List.map_eq_nil_iff.mp e
    subst this
    exact ⟨.int 0, H, I.kept hk, ⟨_, rfl⟩, q⟩
  · obtain ⟨t2, rfl⟩ := PySem.W.int_of_holds hv
    cases ns with
    | nil => cases e
    | cons n ns =>
      have e' : ((n : Nat) : Int) :: ns.map (fun n => ((n : Nat) : Int)) = y :: ys := e
      injection e' with e1 e2
      subst e1
      subst e2
      rw [mx_fold]
      exact ⟨V.int _, H, I.kept hk, ⟨_, rfl⟩, q⟩
theorem k_maxN {X : Cx} (K : PySem.W.Frag) (h : X.K = K) (hc : X.calm = true) (hu : X.A.units + 64 < cLine) : CallRK X (.builtin "max") [Str.ofString "default"] (rMaxN K) := by subst h; exact cr_maxN hc hu

def nns : List D → Option (List Nat)
  | [] => some []
  | .int i :: ds => if 0 ≤ i then (nns ds).map (i.toNat :: ·) else none
  | _ => none
theorem FzL.nns {K : PySem.W.Frag} {Sh : Hp} : ∀ {vs : List V} {ds : List D} {ns : List Nat}, FzL K Sh vs ds → nns ds = some ns → vs = ns.map fun n => V.int ((n : Nat) : Int)
  | _, [], ns, f, e => by
    cases f
    cases e
    rfl
  | _, d :: ds, ns, f, e => by
    cases f with
    | @cons v vs _ _ f1 f2 =>
      cases d with
      | int i =>
        cases f1
        have e' : (if 0 ≤ i then (G48.nns ds).map (i.toNat :: ·) else none) = some ns := e
        split at e'
        · rename_i hi
          cases hn : G48.nns ds with
          | none =>
            rw [hn] at e'
            cases e'
          | some ms =>
            rw [hn] at e'
            cases e'
            rw [FzL.nns f2 hn, List.map_cons, Int.toNat_of_nonneg hi]
        · cases e'
      | _ => cases e
theorem nns_map : ∀ ns : List Nat, nns (ns.map nD) = some ns
  | [] => rfl
  | n :: ns => by
    show (if 0 ≤ (n : Int) then (nns (ns.map nD)).map ((n : Int).toNat :: ·) else none) = _
    rw [if_pos (by omega), nns_map ns, Int.toNat_natCast]
    rfl
def pMxD : D → Option O
  | .lst ds => (nns ds).map fun ns => .fr (nD (mxN ns))
  | _ => none
theorem pMxD_map (ns : List Nat) : pMxD (.lst (ns.map nD)) = some (.fr (nD (mxN ns))) := by
  show (nns (ns.map nD)).map _ = _
  rw [nns_map]
  rfl
theorem ev_maxd {X : Cx} {K : PySem.W.Frag} {Z : Zt} {W : WX} {qa : Bool} {wa : IE} {a : Expr} {p pos kp cp : Pos} {cc : Nat} (hK : X.K = K) (hc : X.calm = true) (hu : X.A.units + 64 < cLine) (hg : Gl X "max") (hm : X.mg "max" = none) (ha : PE X a (Ev K Z W qa wa))
    (he : backTo pos (starEach [a] X.env) = (false, eval a X.env) :: backTo pos (starEach [] X.env) := by rfl) (hs : starEach [a] X.env = (false, eval a X.env) :: starEach [] X.env := by rfl) (hpl : (backTo pos (starEach [a] X.env)).any (·.1) = false := by rfl)
    (hall : (backToKw pos (keywordEach [⟨some "default", .Constant (.int 0) cc cp, kp⟩] X.env)).all (·.1.isSome) = true := by rfl) (hnone : (backToKw pos (keywordEach [⟨some "default", .Constant (.int 0) cc cp, kp⟩] X.env)).any (·.1.isNone) = false := by rfl) (hks : (backToKw pos (keywordEach [⟨some "default", .Constant (.int 0) cc cp, kp⟩] X.env)).filterMap (·.1) = [Str.ofString "default"] := by rfl) :
    PE X (.Call (.Name "max" p) [a] [⟨some "default", .Constant (.int 0) cc cp, kp⟩] pos) (Ev K Z W qa (iUn pMxD wa)) := by
  subst hK
  refine (pe_callBK (k_maxN X.K rfl hc hu) hg hm (by decide +kernel) (pa_cons ha pa_nil hs) (pk_cons pe_int pk_nil) (by decide) (by decide) he hpl hall hnone hks).weak fun σ H Q ⟨Sh, ρ, Q0, E0, R, h, hq, hx⟩ => ?_
  refine ⟨Sh, ρ, _, E0, R, h, fun a ρ1 S1 H1 v1 h1 p1 => ?_, hx⟩
  obtain ⟨d1, e1, h1⟩ := ob_ex h1
  obtain ⟨o, e3, h1⟩ := ob_ex h1
  have sv := p1.ev.sv p1.rl e1
  cases d1 with
  | lst ds =>
    obtain ⟨b, xs, rfl, hb, f⟩ := sv
    have e3' : (nns ds).map (fun ns => O.fr (nD (mxN ns))) = some o := e3
    cases hn : nns ds with
    | none =>
      rw [hn] at e3'
      cases e3'
    | some ns =>
      rw [hn] at e3'
      cases e3'
      refine ⟨b, ns, rfl, rfl, ?_, hq _ _ _ _ _ h1 (p1.mid.fin (Res.fr p1.rl.sh (.int _)))⟩
      rw [← FzL.nns f hn]
      exact SqL.of hb
  | _ => cases e3
end G48

set_option Elab.async false
set_option linter.all false
set_option maxRecDepth 100000
set_option maxHeartbeats 4000000
namespace G48
open PySem PySem.Spec PyProof.Rows L2 SX
/-! ### why(lambda: e) -/
theorem rl_ext {K : PySem.W.Frag} {P : Addr} {q : Str} {Sh H H1 : Hp} {σ : L2.St} {ρ : En} (R : Rl K (some (P, q)) Sh H σ ρ) (e : ExtP P H H1) (T : LamX.TabS H1 P q) : Rl K (some (P, q)) Sh H1 σ ρ ∧ Gx (some (P, q)) Sh H (FpE H σ ρ) Sh H1 (FpE H1 σ ρ) := by
  obtain ⟨z1, z2⟩ := R.zk P q rfl
  obtain ⟨ps, hp, _⟩ := z2
  have fp : ∀ (o : O) (v : V), At K Sh H o v → ∀ b, Fp H o v b → H1 b = H b := fun o v h b hb => by
    obtain ⟨u, e5, mu, _⟩ := fp_code o v h hb
    have hne : b ≠ P := fun z => by
      subst z
      rw [hp] at e5
      cases e5
      exact mu
    rw [e5]
    exact e b u hne e5
  have fe : ∀ (o : O) (v : V), At K Sh H o v → ∀ b, Fp H1 o v b ↔ Fp H o v b := fun o v h => Fp.eq o v h (fp o v h)
  refine ⟨⟨fun a o h => e a o (fun z => by rw [z, z1] at h; cases h) (R.sh a o h), R.len, fun i o hi => ?_, fun i j o u v w b hij hi hj hv hw hb hc => ?_, fun P' q' hz => ?_⟩, ⟨Same.refl _, fun a u h _ nz => ?_, fun a h _ _ => h, fun a h => ?_, fun a h => ?_⟩⟩
  · obtain ⟨v, hv, ha⟩ := R.ats i o hi
    exact ⟨v, hv, At.keep (Same.refl _) o v ha fun b hb => ⟨fp o v ha b hb, (At.tr o v b ha hb).1⟩⟩
  · obtain ⟨v', hv', ha⟩ := R.ats i o hi
    obtain ⟨w', hw', hc'⟩ := R.ats j u hj
    rw [hv'] at hv
    rw [hw'] at hw
    cases hv
    cases hw
    exact R.dj i j o u _ _ b hij hi hj hv' hw' ((fe o _ ha b).mp hb) ((fe u _ hc' b).mp hc)
  · cases hz
    exact ⟨z1, T⟩
  · exact e a u (fun z => nz ⟨q, by rw [z]⟩) h
  · obtain ⟨i, o, v, hi, hv, hb⟩ := h
    obtain ⟨v', hv', ha⟩ := R.ats i o hi
    rw [hv'] at hv
    cases hv
    exact .inl ⟨i, o, v, hi, hv', (fe o v ha a).mp hb⟩
  · by_cases z : a = P
    · subst z
      obtain ⟨ps1, h1, _⟩ := T
      rw [h1]
      exact fun z => by cases z
    · cases ha : H a with
      | none => exact absurd ha h
      | some u =>
        rw [e a u z ha]
        exact fun z => by cases z
def iWhy (r : Str) (wy : Xc → Option D) (w : IE) : IE := fun ρ Q _ => w ρ (fun u ρ1 => fzU ρ1 u fun d ρ2 => Q (.va (.fr (.tup [.str r.cps.toList, d]))) ρ2) (fun x ρ1 => ob (wy x) fun d => Q (.va (.fr d)) ρ1)
theorem ev_why {X : Cx} {K : PySem.W.Frag} {Z : Zt} {W : WX} {x a r : Str} {st : Stmt} {g c P : Addr} {k : Nat} {fd : FuncData} {Ng : List Str} {l : List Clause} {wy : Xc → Option D} {w : IE} {qb : Bool}
    {params : Arguments} {body : Expr} {scope : Scope} {p lpos pos : Pos} (hK : X.K = K) (hZ : Z = some (P, X.env.qual ++ "<lambda>")) (hg : Gl X x) (hm : X.mg x = some (.ref g)) (F : Fun X.K x x st g fd) (Sg : FnScope Ng [a] (defScope st))
    (hbb : ∀ (kV doc pm : Value) (an : Option Addr) (cdv ct : Value) (us : List Value), us.length = 1 → bindArgs (PySem.W.fnOf x x (defArgs st) (defBody st) (defScope st) .none kV doc pm an cdv ct) ⟨us, []⟩ = pure ([a].zip us)) (hNg : Ng[0]? = some a) (hva : Vis (defScope st) a)
    (hG : ∀ cdv, LamX.GivesTo X Ng x (defScope st) g cdv (defBody st) a (X.env.qual ++ "<lambda>") (TTwhy X.K Ng.length r l))
    (hy : ∀ x dd, wy x = some dd → ∀ (S' H' : Hp) (cls : Value) (d : Option Addr) (Q : VK), Same S' H' → XAt K S' x cls d → (∀ v S'' H'', Res K S' H' (.fr dd) v S'' H'' → Q v H'') → ∀ σ : L2.St, σ.length = Ng.length → wManyA K (fun _ _ _ _ => False) { nx := fun _ H' => Q .non H', rt := Q } l cls d σ H')
    (TB : LamX.TabB X.base X.mg c P) (hcode : X.env.code = .ref c) (hr : Room (k + 2) X.A) (L : LamX.LamS X.env.scope scope) (hdef : defaultsOf params X.env = ([], []))
    (hbind : ∀ (q : Str) (cl : List (Str × Addr)) (pm cv ctv : Value), bindArgs (PySem.W.kla_fn "<lambda>" q params body scope cl pm cv ctv) ⟨[], []⟩ = pure [])
    (hbody : ∀ (A : Around) (outer : List Env) (s : Shared) (H : Hp) (E : XK) (f c' : Addr), Room k (A.deeper (LamX.lamEnv X scope s.heap.objs.size f c')) → PE (LamX.lamCx X A outer s H E scope f c') body (Ev K Z (fun cls d _ H => E cls d H) qb w))
    (hdb : (x == ("__debug__" : Str)) = false := by decide) (hd : (a == ("__debug__" : Str)) = false := by decide) (hcd : (a == ("__classdict__" : Str)) = false := by decide) :
    PE X (.Call (.Name x p) [.Lambda params body scope lpos] [] pos) (Ev K Z W false (iWhy r wy w)) := by
  subst hK hZ
  refine (pe_lamP hg hm F Sg hbb hNg hva hG TB hcode hr L hdef hbind hbody hdb hd hcd).weak fun σ H Q ⟨Sh, ρ, Q0, E0, R, h, hq, hx⟩ => ?_
  obtain ⟨z1, z2⟩ := R.zk P _ rfl
  refine ⟨z2, fun H1 e T => ?_⟩
  obtain ⟨R1, G1⟩ := rl_ext R e T
  have M1 : Mid X.K (some (P, X.env.qual ++ "<lambda>")) false Sh H σ ρ ρ Sh H1 := ⟨R1, G1, fun z => by cases z⟩
  refine ⟨Sh, ρ, _, _, R1, h, fun u ρ' S' H' v hu p => ?_, fun x ρ' S' H' cls d hxx p σ' hs => ?_⟩
  · obtain ⟨dd, ρ2, S2, h2, m2, f2⟩ := p.fz hu
    refine ⟨(by show 2 ≤ sizeLine; decide), fun pp hp => ?_⟩
    exact hq _ _ _ _ _ h2 ((M1.trans m2).fin (res_tup m2.rl.sh (.cons fz_str (.cons f2 .nil)) hp))
  · obtain ⟨dd, e1, h1⟩ := ob_ex hxx
    have m3 : Mid X.K (some (P, X.env.qual ++ "<lambda>")) false Sh H1 σ ρ ρ' S' H' := ⟨p.rl, p.gx, fun z => by cases z⟩
    exact hy x dd e1 S' H' cls d Q p.rl.sh p.xa (fun v S'' H'' r => hq _ _ _ _ _ h1 ((M1.trans m3).fin r)) σ' hs
end G48

set_option Elab.async false
set_option linter.all false
set_option maxRecDepth 100000
set_option maxHeartbeats 4000000
namespace G48
open PySem PySem.Spec PyProof.Rows L2 SX
/-! ### a law's end -/
/-- a law ends with True -/
def lawEnd : IEn where
  nx := fun _ => False
  rt := fun u ρ => rdU ρ u = some (.bl true)
  bk := fun _ => False
  ct := fun _ => False
  ex := fun _ _ => False
def spLawT (K : PySem.W.Frag) (Pt : Addr) : Sp := fun vs H Q _ => ∃ (a : Addr) (ns : List Int), vs = [.ref a] ∧ SqL K H a (ns.map V.int) ∧ ns.length ≤ 63 ∧ H Pt = some (.tbl #[]) ∧ ∀ H', Q (.bl true) H'
theorem law_evS {K : PySem.W.Frag} {Pt a : Addr} {q : Str} {N : List Str} {wb : IS} {ns : List Int} {H : Hp} {Q : VK} (hN : 1 ≤ N.length) (hS : SqL K H a (ns.map V.int)) (hP : H Pt = some (.tbl #[])) (hw : wb (st0 N.length [.fr (.scr ns)]) lawEnd) (hq : ∀ H', Q (.bl true) H') :
    EvS K (some (Pt, q)) W0 [] wb { nx := fun _ H' => Q .non H', rt := Q } (L2.start N [.ref a]) H := by
  have sh : ∀ b, b ≠ Pt → (fun b => if b = Pt then none else H b : Hp) b = H b := fun b hb => if_neg hb
  refine ⟨fun b => if b = Pt then none else H b, st0 N.length [.fr (.scr ns)], lawEnd, ⟨fun b o h => ?_, ?_, fun i o hi => ?_, fun i j o u v w b nij h1 h2 h3 h4 h5 h6 => ?_, fun P q' e => ?_⟩, hw, ⟨fun _ _ _ _ h => False.elim h, fun _ _ _ _ h => False.elim h, fun _ _ _ _ h => False.elim h, fun u ρ' σ' S' H' v h p => ?_, fun _ _ _ _ _ _ _ h => False.elim h⟩⟩
  · by_cases z : b = Pt
    · rw [if_pos z] at h
      cases h
    · rw [if_neg z] at h
      exact h
  · unfold st0 L2.start
    simp only [List.length_append, List.length_map, List.length_replicate]
    simp only [List.length_cons, List.length_nil]
  · have hi := st0_get hi
    cases i with
    | zero =>
      cases hi
      refine ⟨.ref a, start_get (i := 0) rfl, .scr ?_⟩
      rcases hS with h | h
      · refine .inl ?_
        have ne : a ≠ Pt := fun z => by
          subst z
          rcases h with h | ⟨o, h⟩
          · rw [hP] at h
            cases h
          · rw [hP] at h
            cases h
        unfold Rd at h ⊢
        rw [sh a ne]
        exact h
      · exact .inr h
    | succ i => simp at hi
  · have h1 := st0_get h1
    cases i with
    | zero =>
      cases h1
      exact False.elim h5
    | succ i => simp at h1
  · cases e
    exact ⟨if_pos rfl, #[], hP, True.intro, fun pos cv h => by cases h⟩
  · have s := p.ev.sv p.rl h
    have e : v = .bl true := by
      cases (show Fz K S' v (.bl true) from s)
      rfl
    rw [e]
    exact hq H'
theorem okl_T {P : Program} {w : World} {K : PySem.W.Frag} {mg : Str → Option Value} {base : Heap} {x : Str} {st : Stmt} {N ps : List Str} {k : Nat} {sp : Sp} {fd : FuncData} (F : Fun K x x st (He.ga K x) fd) (S : FnScope N ps (defScope st)) (len : ∀ vs H Q E, sp vs H Q E → vs.length = ps.length)
    (hbody : ∀ (A : Around) (outer : List Env) (s : Shared) (H : Hp) (vs : List V) (Q : VK) (E : XK), Room k (A.deeper (envOfC x (defScope st) s.heap.objs.size (He.ga K x) (.ref (He.codeOf K (x, none))))) → sp vs H Q E →
      ∃ t, PSs (cxOf C8.CX0 P w K mg base N x (defScope st) (He.ga K x) (.ref (He.codeOf K (x, none))) A outer s H E) (defBody st) t ∧ t { nx := fun _ H' => Q .non H', rt := Q } (start N vs) H) : FnOk P w K mg base C8.CX0 (k + 1) (He.ga K x) fd ps sp := by
  obtain ⟨oc, od, kV, doc, pm, an, cdv, ct, osl, rfl, lk, hcd⟩ := F.ex
  obtain ⟨c, rfl⟩ := He.codeIn_ref hcd
  have ec : He.codeOf K (x, none) = c := He.codeOf_eq (p := (x, none)) lk rfl
  rw [ec] at hbody
  exact fn_of lk hcd S len hbody
/-- a law with a table of code objects, by its ideal run -/
theorem lawAt_of {l : PySem.W.OpenLaw} {w : World} {K : PySem.W.Frag} {mg : Str → Option Value} {h : Heap} {st : Stmt} {N : List Str} {k : Nat} {fd : FuncData} {sx : Str} (F : Fun K "law" "law" st (He.ga K "law") fd) (S : FnScope N [sx] (defScope st))
    (hb : ∀ (s : Shared) (u : Value), BindsTo s fd ⟨[u], []⟩ [(sx, u)])
    (hT : h.get? (He.cT K ("law", none)).2 = some { cls := .none, data := .fields #[] }) (nT : K.lookup (He.cT K ("law", none)).2 = none) (C : PySem.W.CodeHd h (He.cT K ("law", none)).1 (He.cT K ("law", none)).2) (hN : 1 ≤ N.length)
    (hbody : ∀ (base : Heap) (A : Around) (outer : List Env) (s : Shared) (H : Hp) (E : XK), K.In base → base.Ns mainGlobals mg → LamX.TabB base mg (He.cT K ("law", none)).1 (He.cT K ("law", none)).2 → Room k (A.deeper (envOfC "law" (defScope st) s.heap.objs.size (He.ga K "law") (.ref (He.cT K ("law", none)).1))) →
      ∃ wb q, PSs (cxOf C8.CX0 l.prog w K mg base N "law" (defScope st) (He.ga K "law") (.ref (He.cT K ("law", none)).1) A outer s H E) (defBody st) (EvS K (some ((He.cT K ("law", none)).2, q)) W0 [] wb) ∧ ∀ ns : List Int, ns.length ≤ 63 → wb (st0 N.length [.fr (.scr ns)]) lawEnd) :
    LamX.LawAtS l w K C8.CX0 (k + 1) 63 sx mg (He.ga K "law") h := by
  refine ⟨fd, [He.cT K ("law", none)], spLawT K (He.cT K ("law", none)).2, fun p hp => ?_, fun p hp => ?_, fun p hp => ?_, hb, fun H a ns hl _ ht hS => ⟨a, ns, rfl, hS, hl, ht _ (List.mem_singleton.mpr rfl), fun _ => rfl⟩, fun base KX G tb => ?_⟩
  · rw [List.mem_singleton.mp hp]
    exact hT
  · rw [List.mem_singleton.mp hp]
    exact nT
  · rw [List.mem_singleton.mp hp]
    exact C
  · refine okl_T F S (fun vs H Q E h => ?_) fun A outer s H vs Q E hr h => ?_
    · obtain ⟨a, ns, rfl, _⟩ := h
      rfl
    · obtain ⟨a, ns, rfl, hS, hl, ht, q⟩ := h
      obtain ⟨wb, qq, hp, hw⟩ := hbody base A outer s H E KX G (tb _ (List.mem_singleton.mpr rfl)) hr
      exact ⟨_, hp, law_evS hN hS ht (hw ns hl) q⟩
end G48

set_option Elab.async false
set_option linter.all false
set_option maxRecDepth 100000
set_option maxHeartbeats 4000000
namespace G48
open PySem PySem.Spec PyProof.Rows L2 SX
/-! ### fields -/
section
variable {K : PySem.W.Frag} {Z : Zt} {q : Bool} {Sh H S' H' S1 H1 : Hp} {σ : L2.St} {ρ ρ' ρ1 : En} {v : V} {o : O}
theorem VAt.app : ∀ {p q : List Sx} {w x v : V}, VAt H w p x → VAt H x q v → VAt H w (p ++ q) v
  | [], q, w, x, v, h, g => by
    have h' : x = w := h
    rw [h'] at g
    exact g
  | .fld f :: p, q, w, x, v, h, g => by
    obtain ⟨a, C, dx, fs, u, rfl, h1, h2, h3⟩ := h
    exact ⟨a, C, dx, fs, u, rfl, h1, h2, VAt.app h3 g⟩
  | .ix k :: p, q, w, x, v, h, g => by
    obtain ⟨a, vs, u, rfl, h1, h2, h3⟩ := h
    exact ⟨a, vs, u, rfl, h1, h2, VAt.app h3 g⟩
theorem plc_ex {i : Nat} {p : List Sx} (h : plc ρ i p = some o) : ∃ oo, ρ[i]? = some (some oo) ∧ getP oo p = some o := by
  unfold plc at h
  cases hi : ρ[i]? with
  | none =>
    rw [hi] at h
    cases h
  | some x =>
    cases x with
    | none =>
      rw [hi] at h
      cases h
    | some oo =>
      rw [hi] at h
      exact ⟨oo, rfl, h⟩
theorem EAt.plc {i : Nat} {p : List Sx} (R : Rl K Z Sh H σ ρ) (h : EAt K Sh H σ ρ (.at i p) v) (e : plc ρ i p = some o) : At K Sh H o v := by
  obtain ⟨w, hw, hv⟩ := h
  obtain ⟨oo, hi, hg⟩ := plc_ex e
  obtain ⟨w', hw', ao⟩ := R.ats i oo hi
  rw [hw] at hw'
  cases hw'
  obtain ⟨v3, g1, au, _⟩ := VAt.at R.sh ao hg
  have e3 := VAt.one hv g1
  subst e3
  exact au
end
def fldO (cs : List Str) (f : Str) (i : Nat) (p : List Sx) (k : U → Prop) : O → Prop
  | .ins c fs => cs.contains c = true ∧ (fs.lookup f).isSome = true ∧ k (.at i (p ++ [.fld f]))
  | .fr (.ins c fs) => cs.contains c = true ∧ ob (fs.lookup f) fun d => k (.va (.fr d))
  | _ => False
def fldU (cs : List Str) (f : Str) (ρ : En) (u : U) (k : U → Prop) : Prop := match u with
  | .va (.fr (.ins c fs)) => cs.contains c = true ∧ ob (fs.lookup f) fun d => k (.va (.fr d))
  | .at i p => ob (plc ρ i p) fun o => fldO cs f i p k o
  | _ => False
def iFld (cs : List Str) (f : Str) (w : IE) : IE := fun ρ Q E => w ρ (fun u ρ1 => fldU cs f ρ1 u fun u' => Q u' ρ1) E
/-- of the classes cs: no class attribute f -/
def NoF (K : PySem.W.Frag) (cs : List Str) (f : Str) : Prop := ∀ c, cs.contains c = true → Cls K (He.ga K c) ∧ NoAttr K (He.ga K c) f
section
variable {X : Cx} {K : PySem.W.Frag} {Z : Zt} {W : WX} {L : List Nat} {q qa qb : Bool} {w : IE} {e o : Expr} {es : List Expr} {pos apos : Pos} {cs : List Str} {f : Str}
theorem fld_ev {σ : L2.St} {H : Hp} {Q : VK} (hc : NoF K cs f) (h : Ev K Z W q (iFld cs f w) σ H Q) : tFld K (Ev K Z W q w) f σ H Q := by
  obtain ⟨Sh, ρ, Q0, E0, R, h, hq, hx⟩ := h
  refine ⟨Sh, ρ, _, E0, R, h, fun u ρ1 S1 H1 v h1 p1 => ?_, hx⟩
  have frz : ∀ {c : Str} {fs : List (Str × D)}, Fz K S1 v (.ins c fs) → (cs.contains c = true ∧ ob (fs.lookup f) fun d => Q0 (.va (.fr d)) ρ1) → ∃ a C dx fs v', v = .ref a ∧ H1 a = some (.ins C dx fs) ∧ Cls K C ∧ NoAttr K C f ∧ fs.lookup f = some v' ∧ Q v' H1 := fun {c fs} a1 ⟨hcs, h1⟩ => by
    obtain ⟨d, hd, h1⟩ := ob_ex h1
    cases a1 with
    | @ins a dx _ xs _ e1 e2 =>
      obtain ⟨v', l, z⟩ := FzF.get e2 hd
      exact ⟨a, _, dx, xs, v', rfl, p1.rl.sh _ _ e1, (hc c hcs).1, (hc c hcs).2, l, hq _ _ _ _ _ h1 ⟨p1.rl, p1.gx.weak (fun _ h => h) (fun b hb => hb.elim .inl (fun z => False.elim z)), ⟨z, fun b hb => False.elim hb⟩, p1.md⟩⟩
  unfold fldU at h1
  split at h1
  · exact frz p1.ev.1 h1
  · rename_i i p
    obtain ⟨o, ho, h1⟩ := ob_ex h1
    have ao := p1.ev.plc p1.rl ho
    unfold fldO at h1
    split at h1
    · rename_i c fs
      obtain ⟨hcs, hs, h1⟩ := h1
      obtain ⟨a, dx, vs, rfl, h2, h3, h4, h5⟩ := ao
      cases hl : fs.lookup f with
      | none =>
        rw [hl] at hs
        cases hs
      | some of =>
        obtain ⟨v', l, _⟩ := AtF.get h4 hl
        obtain ⟨w', hw, hv⟩ := p1.ev
        exact ⟨a, _, dx, vs, v', rfl, h2, (hc c hcs).1, (hc c hcs).2, l, hq _ _ _ _ _ h1 ⟨p1.rl, p1.gx.weak (fun _ h => h) (fun b hb => hb.elim .inl (fun z => False.elim z)), ⟨w', hw, hv.app ⟨a, _, dx, vs, v', rfl, h2, l, rfl⟩⟩, p1.md⟩⟩
    · exact frz ao h1
    · exact False.elim h1
  · exact False.elim h1
theorem ev_fld (hK : X.K = K) (hc : NoF K cs f) (he : PE X e (Ev K Z W q w)) (hb : attributeBase e f X.env (eval e X.env) = eval e X.env := by rfl) : PE X (.Attribute e f pos) (Ev K Z W q (iFld cs f w)) := by
  subst hK
  exact (pe_fld he hb).weak fun σ H Q h => fld_ev hc h
end
/-! ### o.f = e -/
def mvU (ρ : En) (u : U) (k : O → En → Prop) : Prop := match u with
  | .va o => k o ρ
  | .at i p => fzU ρ (.at i p) fun d ρ2 => k (.fr d) ρ2
def fsO (cs : List Str) (f : Str) (o : O) (k : O → Prop) : O → Prop
  | .ins c fs => cs.contains c = true ∧ fs.length < 1000 ∧ k (.ins c (putO f o fs))
  | _ => False
def iFSet (cs : List Str) (f : Str) (i : Nat) (w : IE) : IS := fun ρ N => w ρ (fun u ρ1 => mvU ρ1 u fun o ρ2 => ob (ρ2[i]?.join) fun t => fsO cs f o (fun t' => N.nx (ρ2.set i (some t'))) t) N.ex
section
variable {K : PySem.W.Frag} {Z : Zt} {q : Bool} {Sh H S1 H1 : Hp} {σ : L2.St} {ρ ρ1 : En} {u : U} {v y : V} {o : O} {f : Str}
theorem Ps.mv {k : O → En → Prop} (p : Ps K Z q Sh H σ ρ u ρ1 S1 H1 v) (h : mvU ρ1 u k) : ∃ o ρ2 S2, k o ρ2 ∧ Ps K Z q Sh H σ ρ (.va o) ρ2 S2 H1 v := by
  cases u with
  | va o => exact ⟨o, ρ1, S1, h, p⟩
  | «at» i pp =>
    obtain ⟨d, ρ2, S2, h2, m2, f2⟩ := p.fz h
    exact ⟨.fr d, ρ2, S2, h2, m2.rl, m2.gx.weak (fun _ h => h) (fun b hb => hb.elim id (fun z => False.elim z)), ⟨f2, fun b hb => False.elim hb⟩, m2.md⟩
theorem AtF.len : ∀ {fs : List (Str × O)} {vs : List (Str × V)}, AtF K Sh H fs vs → fs.length = vs.length
  | [], [], _ => rfl
  | (_, _) :: fs, (_, _) :: vs, h => congrArg (· + 1) (AtF.len h.2.2.1)
  | [], _ :: _, h => False.elim h
  | _ :: _, [], h => False.elim h
theorem AtF.putF (a : At K Sh H o y) : ∀ {fs : List (Str × O)} {vs : List (Str × V)}, AtF K Sh H fs vs → (∀ b, Fp H o y b → ¬ FpF H fs vs b) → AtF K Sh H (putO f o fs) (L2.putF f y vs) ∧ ∀ b, FpF H (putO f o fs) (L2.putF f y vs) b → FpF H fs vs b ∨ Fp H o y b
  | [], [], _, _ => ⟨⟨rfl, a, True.intro, fun b _ z => False.elim z⟩, fun b hb => .inr (hb.elim id (fun z => False.elim z))⟩
  | (g, u) :: fs, (g', w) :: vs, h, n => by
    obtain ⟨rfl, h1, h2, h3⟩ := h
    unfold putO L2.putF
    by_cases e : f = g
    · subst e
      rw [if_pos (beq_self_eq_true f), if_pos rfl]
      exact ⟨⟨rfl, a, h2, fun b hb z => n b hb (.inr z)⟩, fun b hb => hb.elim .inr (fun z => .inl (.inr z))⟩
    · rw [if_neg (fun z => e (beq_iff_eq.mp z)), if_neg (fun z => e z.symm)]
      obtain ⟨i1, i2⟩ := AtF.putF a h2 (fun b hb z => n b hb (.inr z))
      refine ⟨⟨rfl, h1, i1, fun b hb z => ?_⟩, fun b hb => ?_⟩
      · rcases i2 b z with y1 | y1
        · exact h3 b hb y1
        · exact n b y1 (.inl hb)
      · rcases hb with hb | hb
        · exact .inl (.inl hb)
        · exact (i2 b hb).imp .inr id
  | [], _ :: _, h, _ => False.elim h
  | _ :: _, [], h, _ => False.elim h
theorem Rl.fset {i : Nat} {c : Str} {fs : List (Str × O)} {a dx : Addr} {vs : List (Str × V)} (R : Rl K Z Sh H σ ρ) (hi : ρ[i]? = some (some (.ins c fs))) (hv : σ[i]? = some (some (.ref a))) (ha : H a = some (.ins (He.ga K c) dx vs))
    (ao : At K Sh H o y) (nd : ∀ b, Fp H o y b → ¬ FpE H σ ρ b) : Rl K Z Sh (upd H a (.ins (He.ga K c) dx (L2.putF f y vs))) σ (ρ.set i (some (.ins c (putO f o fs)))) ∧
      ∀ b, FpE (upd H a (.ins (He.ga K c) dx (L2.putF f y vs))) σ (ρ.set i (some (.ins c (putO f o fs)))) b → FpE H σ ρ b ∨ Fp H o y b := by
  have hlt : i < ρ.length := (List.getElem?_eq_some_iff.mp hi).1
  obtain ⟨v', hv', a1⟩ := R.ats i _ hi
  rw [hv] at hv'
  cases hv'
  obtain ⟨a', dx', vs', e0, h1, h2, h3, h4⟩ := a1
  cases e0
  rw [ha] at h1
  cases h1
  have ia : FpE H σ ρ a := ⟨i, _, _, hi, hv, .inl rfl⟩
  generalize eH : upd H a (.ins (He.ga K c) dx (L2.putF f y vs)) = H'
  have ne : ∀ b, b ≠ a → H' b = H b := fun b hb => by rw [← eH]; exact upd_ne hb
  have at_ : H' a = some (.ins (He.ga K c) dx (L2.putF f y vs)) := by rw [← eH]; exact upd_same
  have na : ∀ b, Fp H o y b → b ≠ a := fun b hb z => nd b hb (by rw [z]; exact ia)
  have ko : ∀ b, Fp H o y b → H' b = H b ∧ Sh b = none := fun b hb => ⟨ne b (na b hb), (At.tr o y b ao hb).1⟩
  have ao' : At K Sh H' o y := At.keep (Same.refl _) o y ao ko
  have fo := Fp.eq (H' := H') o y ao (fun b hb => (ko b hb).1)
  have kf : ∀ b, FpF H fs vs b → H' b = H b ∧ Sh b = none := fun b hb => ⟨ne b (fun z => h4 (by rw [← z]; exact hb)), (AtF.tr fs vs b h3 hb).1⟩
  have h3' : AtF K Sh H' fs vs := AtF.keep (Same.refl _) fs vs h3 kf
  have ff := FpF.eq (H' := H') fs vs h3 (fun b hb => (kf b hb).1)
  have dis : ∀ b, Fp H' o y b → ¬ FpF H' fs vs b := fun b hb z => nd b ((fo b).mp hb) ⟨i, _, _, hi, hv, .inr ⟨a, _, dx, vs, rfl, ha, (ff b).mp z⟩⟩
  obtain ⟨j1, j2⟩ := AtF.putF (f := f) ao' h3' dis
  have j3 : ∀ b, FpF H' (putO f o fs) (L2.putF f y vs) b → FpF H fs vs b ∨ Fp H o y b := fun b hb => (j2 b hb).imp (ff b).mp (fo b).mp
  have aself : At K Sh H' (.ins c (putO f o fs)) (.ref a) := ⟨a, dx, _, rfl, at_, h2, j1, fun z => (j3 a z).elim h4 (fun t => na a t rfl)⟩
  have fself : ∀ b, Fp H' (.ins c (putO f o fs)) (.ref a) b → Fp H (.ins c fs) (.ref a) b ∨ Fp H o y b := fun b hb => by
    rcases hb with hb | ⟨a', C, dx', vs', e5, e6, hb⟩
    · exact .inl (.inl hb)
    · cases e5
      rw [at_] at e6
      cases e6
      exact (j3 b hb).imp (fun z => .inr ⟨a, _, dx, vs, rfl, ha, z⟩) id
  have oth : ∀ {j : Nat} {o2 : O} {v2 : V}, j ≠ i → ρ[j]? = some (some o2) → σ[j]? = some (some v2) → ∀ b, Fp H o2 v2 b → H' b = H b ∧ Sh b = none := fun {j o2 v2} nj e1 e2 b hb =>
    ⟨ne b (fun z => R.dj j i o2 _ v2 _ b nj e1 hi e2 hv hb (by rw [z]; exact .inl rfl)), (R.tr ⟨j, o2, v2, e1, e2, hb⟩).1⟩
  have key : ∀ {j : Nat} {o2 : O}, (ρ.set i (some (.ins c (putO f o fs))))[j]? = some (some o2) → (j = i ∧ o2 = .ins c (putO f o fs)) ∨ (j ≠ i ∧ ρ[j]? = some (some o2)) := fun {j o2} h => by
    by_cases e : j = i
    · subst e
      rw [List.getElem?_set_self hlt] at h
      cases h
      exact .inl ⟨rfl, rfl⟩
    · rw [List.getElem?_set_ne (Ne.symm e)] at h
      exact .inr ⟨e, h⟩
  have fpo : ∀ {j : Nat} {o2 : O} {v2 : V}, j ≠ i → ρ[j]? = some (some o2) → σ[j]? = some (some v2) → ∀ b, Fp H' o2 v2 b ↔ Fp H o2 v2 b := fun {j o2 v2} nj e1 e2 => by
    obtain ⟨v3, e3, a3⟩ := R.ats j o2 e1
    rw [e2] at e3
    cases e3
    exact Fp.eq o2 v2 a3 (fun b hb => (oth nj e1 e2 b hb).1)
  refine ⟨⟨?_, by rw [List.length_set]; exact R.len, fun j o2 h => ?_, fun j l o2 u2 v2 w2 b nj g1 g2 g3 g4 g5 g6 => ?_, ?_⟩, fun b ⟨j, o2, v2, g1, g2, g3⟩ => ?_⟩
  · rw [← eH]
    exact mut_same R.sh h2
  · rcases key h with ⟨rfl, rfl⟩ | ⟨nj, e1⟩
    · exact ⟨_, hv, aself⟩
    · obtain ⟨v3, e3, a3⟩ := R.ats j o2 e1
      exact ⟨v3, e3, At.keep (Same.refl _) o2 v3 a3 (oth nj e1 e3)⟩
  · rcases key g1 with ⟨rfl, rfl⟩ | ⟨n1, e1⟩
    · rcases key g2 with ⟨rfl, _⟩ | ⟨n2, e2⟩
      · exact nj rfl
      · rw [hv] at g3
        cases g3
        have g6' := (fpo n2 e2 g4 b).mp g6
        rcases fself b g5 with z | z
        · exact R.dj j l _ u2 _ w2 b nj hi e2 hv g4 z g6'
        · exact nd b z ⟨l, u2, w2, e2, g4, g6'⟩
    · have g5' := (fpo n1 e1 g3 b).mp g5
      rcases key g2 with ⟨rfl, rfl⟩ | ⟨n2, e2⟩
      · rw [hv] at g4
        cases g4
        rcases fself b g6 with z | z
        · exact R.dj j l o2 _ v2 _ b nj e1 hi g3 hv g5' z
        · exact nd b z ⟨j, o2, v2, e1, g3, g5'⟩
      · exact R.dj j l o2 u2 v2 w2 b nj e1 e2 g3 g4 g5' ((fpo n2 e2 g4 b).mp g6)
  · intro P q e
    obtain ⟨z1, z2⟩ := R.zk P q e
    refine ⟨z1, TabS_ext z2 (fun b o h1 h2 => ?_)⟩
    have nb : b ≠ a := fun z => by
      subst z
      obtain ⟨n1, n2⟩ := R.zne ia
      rcases h1 with h1 | h1
      · exact n1 ⟨q, by rw [h1]; exact e⟩
      · exact n2 q h1
    rw [ne b nb]
    exact h2
  · rcases key g1 with ⟨rfl, rfl⟩ | ⟨nj, e1⟩
    · rw [hv] at g2
      cases g2
      exact (fself b g3).imp (fun z => ⟨j, _, _, hi, hv, z⟩) id
    · exact .inl ⟨j, o2, v2, e1, g2, (fpo nj e1 g2 b).mp g3⟩
end
end G48

set_option Elab.async false
set_option linter.all false
set_option maxRecDepth 100000
set_option maxHeartbeats 4000000
namespace G48
open PySem PySem.Spec PyProof.Rows L2 SX
/-! ### self.f = e -/
section
variable {X : Cx} {K : PySem.W.Frag} {Z : Zt} {W : WX} {L : List Nat} {q : Bool} {w : IE} {e : Expr} {pos apos : Pos} {cs : List Str} {f : Str}
theorem es_fset {i : Nat} {x : Str} {np : Pos} (hK : X.K = K) (hc : NoF K cs f) (hn : PE X (.Name x np) (tVar i)) (he : PE X e (Ev K Z W q w)) (hs : swapsWith e (some (.Attribute (.Name x np) f apos)) pos.line X.env = pure false := by rfl) :
    PS X (.Assign [.Attribute (.Name x np) f apos] e pos) (EvS K Z W L (iFSet cs f i w)) := by
  subst hK
  refine (ps_fld hn he hs).weak fun D σ H ⟨Sh, ρ, N, R, h, l⟩ => ?_
  refine ⟨Sh, ρ, _, N.ex, R, h, fun u ρ1 S1 H1 v h1 p1 => ?_, l.px⟩
  obtain ⟨o, ρ2, S2, h2, p2⟩ := p1.mv h1
  obtain ⟨t, ht, h2⟩ := ob_ex h2
  unfold fsO at h2
  split at h2
  · rename_i c fs
    obtain ⟨hcs, hlen, h2⟩ := h2
    have hi : ρ2[i]? = some (some (.ins c fs)) := by
      cases hh : ρ2[i]? with
      | none => rw [hh] at ht; cases ht
      | some oo => rw [hh] at ht; cases oo with
        | none => cases ht
        | some z => cases ht; rfl
    obtain ⟨v', hv, a1⟩ := p2.rl.ats i _ hi
    obtain ⟨a, dx, vs, rfl, e1, e2, e3, e4⟩ := a1
    refine ⟨_, hv, a, _, dx, vs, rfl, e1, (hc c hcs).1, (hc c hcs).2, by rw [← AtF.len e3]; exact hlen, ?_⟩
    obtain ⟨r1, r2⟩ := p2.rl.fset (f := f) hi hv e1 p2.ev.1 p2.ev.2
    have ia : FpE H1 σ ρ2 a := ⟨i, _, _, hi, hv, .inl rfl⟩
    refine l.nx _ _ _ _ h2 ⟨r1, ⟨p2.gx.ss, fun b z hb nb nz => ?_, fun b s hb nb => p2.gx.nw b s hb nb, fun b hb => p2.gx.ft b ((r2 b hb).imp id id), fun b hb => ?_⟩, fun _ _ => rfl, rfl⟩
    · have k := p2.gx.kp b z hb nb nz
      rw [upd_ne (fun e => ?_)]
      · exact k
      · subst e
        rcases p2.gx.ft b (.inl ia) with y | y
        · exact nb y
        · rw [hb] at y
          cases y
    · by_cases e : b = a
      · subst e
        rw [upd_same]
        exact fun z => nomatch z
      · rw [upd_ne e]
        exact p2.gx.tr b hb
  · exact False.elim h2
end
/-! ### o.m(..) -/
/-- a method of a class with its promise -/
structure MthX (P : Program) (w : World) (K : PySem.W.Frag) (mg : Str → Option Value) (base : Heap) (k : Nat) (c m : Str) (sp : Sp) : Prop where
  cl : Cls K (He.ga K c)
  ex : ∃ (f : Addr) (fd : FuncData) (ps : List Str), FnOk P w K mg base (L2.CX P w) k f fd ps sp ∧ Meth K (He.ga K c) m f ∧ PySem.W.fnIn K f = true ∧ Binds K fd ps []
def tMthS (C : Addr) (m : Str) (sp : Sp) (E : L2.St → XK) (ta : TE) (t : TA) : TE := fun σ H Q => ta σ H fun x H1 => ∃ a dx vs, x = .ref a ∧ H1 a = some (.ins C dx vs) ∧ vs.lookup m = none ∧ t σ H1 fun ws H2 => sp (.ref a :: ws) H2 Q (E σ)
section
variable {X : Cx} {W : WX} {k j : Nat} {c m : Str} {sp : Sp} {o e : Expr} {es : List Expr} {ta : TE} {t : TA} {apos pos : Pos} {pl : Sem Bool}
theorem pe_mthS (he : PE X o ta) (mc : MthX X.prog X.w X.K X.mg X.base k c m sp) (tk : Takes X W) (hr : Room j X.A) (hk : k ≤ j) (ha : PA X (e :: es) t)
    (hst : starEach (e :: es) X.env = (false, eval e X.env) :: starEach es X.env := by rfl) (hpl : (backTo pos (starEach es X.env)).any (·.1) = false := by rfl)
    (ht : eval (.Call (.Attribute o m apos) (e :: es) [] pos) X.env = (do
      let ov ← eval o X.env
      standAt apos.atName
      let (g, fst) ← holding [ov] (getMethod ov m pl)
      callWith pos g fst (backTo pos (starEach (e :: es) X.env)) (backToKw pos (keywordEach [] X.env))) := by rfl) : PE X (.Call (.Attribute o m apos) (e :: es) [] pos) (tMthS (He.ga X.K c) m sp (WE W) ta t) := by
  obtain ⟨g, fd, ps, F, M, _, hb⟩ := mc.ex
  constructor
  intro pins s σ H Q I h
  have h1 := he.run pins s σ H _ I h
  refine PySem.W.methodCall_KW (pl := pl) (thn h1 ?_) ht
  rintro u s1 ⟨x, H1, I1, rx, a, dx, vs, rfl, ea, l, q⟩
  obtain rfl : u = Value.ref a := rx
  refine getmeth_ok I1 ea mc.cl M l ?_
  have h2 := ha.run pos pins s1 σ H1 _ I1 q
  refine PySem.W.callWith_K (h₀ := X.base) (first := [.ref a]) I.ok.mod.kin M.kp (thn h2 ?_) hst hpl
  rintro us s2 ⟨ws, H2, I2, r, q2⟩
  exact ⟨I2.kIn, run_fnS (E := WE W) (us := .ref a :: us) (vs := .ref a :: ws) F (hr.mono hk) hb (passAt tk σ) I2 (.cons rfl r) q2⟩
theorem pe_mthS0 (he : PE X o ta) (mc : MthX X.prog X.w X.K X.mg X.base k c m sp) (tk : Takes X W) (hr : Room j X.A) (hk : k ≤ j)
    (ht : eval (.Call (.Attribute o m apos) [] [] pos) X.env = (do
      let ov ← eval o X.env
      standAt apos.atName
      let (g, fst) ← holding [ov] (getMethod ov m pl)
      callWith pos g fst (backTo pos (starEach [] X.env)) (backToKw pos (keywordEach [] X.env))) := by rfl) : PE X (.Call (.Attribute o m apos) [] [] pos) (tMthS (He.ga X.K c) m sp (WE W) ta tNil) := by
  obtain ⟨g, fd, ps, F, M, _, hb⟩ := mc.ex
  constructor
  intro pins s σ H Q I h
  have h1 := he.run pins s σ H _ I h
  refine PySem.W.methodCall_KW (pl := pl) (thn h1 ?_) ht
  rintro u s1 ⟨x, H1, I1, rx, a, dx, vs, rfl, ea, l, q⟩
  obtain rfl : u = Value.ref a := rx
  refine getmeth_ok I1 ea mc.cl M l ?_
  exact PySem.W.callWith_K0 (first := [.ref a]) I1.kIn M.kp (run_fnS (E := WE W) (us := [.ref a]) (vs := [.ref a]) F (hr.mono hk) hb (passAt tk σ) I1 (.cons rfl .nil) q)
end
def callI (n : Nat) (L : List Nat) (isp : ISp) (as : List Ag) (ρ1 : En) (Q : U → En → Prop) (E : Xc → En → Prop) : Prop := ob (agO ρ1 as) fun os => os.length = n ∧ frOk L 0 os = true ∧ (agS as).Nodup ∧ isp os (fun o os' => Q (.va o) (agB ρ1 as os')) (fun x os' => E x (agB ρ1 as os'))
section
variable {K : PySem.W.Frag} {Z : Zt} {W : WX} {q : Bool} {Sh H S1 H1 : Hp} {σ : L2.St} {ρ ρ1 : En} {as : List Ag} {vs : List V} {n : Nat} {L : List Nat} {isp : ISp} {Q0 : U → En → Prop} {E0 : Xc → En → Prop} {Q : VK}
theorem call_coreQ {Qi : O → List O → Prop} {Ei : Xc → List O → Prop} (m1 : Mid K Z q Sh H σ ρ ρ1 S1 H1) (ha : AgL K S1 σ as vs) (h1 : ob (agO ρ1 as) fun os => os.length = n ∧ frOk L 0 os = true ∧ (agS as).Nodup ∧ isp os Qi Ei)
    (hqi : ∀ o os', os'.length = vs.length → Qi o os' → Q0 (.va o) (agB ρ1 as os')) (hei : ∀ x os', os'.length = vs.length → Ei x os' → E0 x (agB ρ1 as os')) (hq : ∀ u ρ' S' H' v, Q0 u ρ' → Ps K Z false Sh H σ ρ u ρ' S' H' v → Q v H')
    (hx : ∀ x ρ' S' H' cls d, E0 x ρ' → Px K Z Sh H σ ρ x ρ' S' H' cls d → W cls d σ H') : spI K n L isp vs H1 Q (WE W σ) := by
  obtain ⟨os, ho, hl, hf, nd, h1⟩ := ob_ex h1
  obtain ⟨R1, n1⟩ := call_in m1.rl ha ho nd
  refine ⟨S1, os, _, _, R1, hl, hf, h1, fun o os' S' H' v h2 R2 g2 => ?_, fun x os' S' H' cls d h2 R2 g2 xa => ?_⟩
  · have hl2 : os'.length = vs.length := by
      have z := R2.len
      simp only [List.length_map, List.length_cons] at z
      omega
    obtain ⟨r1, r2, r3⟩ := call_out m1.rl ha ho nd (os' := os') (G := FpE H' ((v :: vs).map some) ((o :: os').map some)) hl2 R2.sh
      (fun j o v e1 e2 => by
        obtain ⟨v', e3, a⟩ := R2.ats (j + 1) o (get_map (l := _ :: os') (i := j + 1) e1)
        have e4 := map_get (l := _ :: vs) (i := j + 1) e3
        rw [show (_ :: vs)[j + 1]? = vs[j]? from rfl, e2] at e4
        cases e4
        exact a)
      (fun j k o u v w b njk e1 e2 e3 e4 => R2.dj (j + 1) (k + 1) o u v w b (fun z => njk (Nat.succ.inj z)) (get_map (l := _ :: os') (i := j + 1) e1) (get_map (l := _ :: os') (i := k + 1) e2) (get_map (l := _ :: vs) (i := j + 1) e3) (get_map (l := _ :: vs) (i := k + 1) e4))
      (fun j o v b e1 e2 e3 => ⟨j + 1, o, v, get_map (l := _ :: os') (i := j + 1) e1, get_map (l := _ :: vs) (i := j + 1) e2, e3⟩) g2
    obtain ⟨v', e3, a0⟩ := R2.ats 0 o rfl
    cases (show some (some v) = some (some v') from e3)
    refine hq _ _ _ _ _ (hqi _ _ hl2 h2) ⟨r1, m1.gx.trans (r2.weak (fun _ h => h) (fun b hb => hb.imp id (fun (z : Fp H' o v b) => ⟨0, o, v, rfl, rfl, z⟩))), ⟨a0, fun b hb hc => ?_⟩, fun e => by cases e⟩
    rcases r3 b hc with z | ⟨j, o2, v2, e1, e2, e3⟩
    · rcases g2.ft b ⟨0, o, v, rfl, rfl, hb⟩ with y | y
      · exact z.2 y
      · exact (m1.rl.tr z.1).2 y
    · exact R2.dj 0 (j + 1) o o2 v v2 b (by omega) rfl (get_map (l := _ :: os') (i := j + 1) e1) rfl (get_map (l := _ :: vs) (i := j + 1) e2) hb e3
  · have hl2 : os'.length = vs.length := by
      have z := R2.len
      simp only [List.length_map] at z
      exact z
    obtain ⟨r1, r2, r3⟩ := call_out m1.rl ha ho nd (os' := os') (G := FpE H' (vs.map some) (os'.map some)) hl2 R2.sh
      (fun j o v e1 e2 => by
        obtain ⟨v', e3, a⟩ := R2.ats j o (get_map e1)
        rw [get_map e2] at e3
        cases e3
        exact a)
      (fun j k o u v w b njk e1 e2 e3 e4 => R2.dj j k o u v w b njk (get_map e1) (get_map e2) (get_map e3) (get_map e4))
      (fun j o v b e1 e2 e3 => ⟨j, o, v, get_map e1, get_map e2, e3⟩) g2
    exact hx _ _ _ _ _ _ (hei _ _ hl2 h2) ⟨r1, m1.gx.trans (r2.weak (fun _ h => h) (fun b hb => .inl hb)), xa⟩
theorem call_core (m1 : Mid K Z q Sh H σ ρ ρ1 S1 H1) (ha : AgL K S1 σ as vs) (h1 : callI n L isp as ρ1 Q0 E0) (hq : ∀ u ρ' S' H' v, Q0 u ρ' → Ps K Z false Sh H σ ρ u ρ' S' H' v → Q v H')
    (hx : ∀ x ρ' S' H' cls d, E0 x ρ' → Px K Z Sh H σ ρ x ρ' S' H' cls d → W cls d σ H') : spI K n L isp vs H1 Q (WE W σ) := call_coreQ m1 ha h1 (fun _ _ _ h => h) (fun _ _ _ h => h) hq hx
end
def recO (c m : Str) : O → Bool
  | .ins c' fs => c' == c && (fs.lookup m).isNone
  | .fr (.ins c' fs) => c' == c && (fs.lookup m).isNone
  | _ => false
section
variable {K : PySem.W.Frag} {Sh H : Hp}
theorem AtF.non {m : Str} : ∀ {fs : List (Str × O)} {vs : List (Str × V)}, AtF K Sh H fs vs → fs.lookup m = none → vs.lookup m = none
  | [], [], _, _ => rfl
  | (g, u) :: fs, (g', w) :: vs, h, e => by
    obtain ⟨rfl, _, h2, _⟩ := h
    rw [List.lookup_cons] at e ⊢
    cases q : m == g with
    | true => rw [q] at e; cases e
    | false => rw [q] at e; exact AtF.non h2 e
  | [], _ :: _, h, _ => False.elim h
  | _ :: _, [], h, _ => False.elim h
theorem FzF.non {m : Str} : ∀ {fs : List (Str × D)} {vs : List (Str × V)}, FzF K Sh vs fs → fs.lookup m = none → vs.lookup m = none
  | [], _, h, _ => by cases h; rfl
  | (g, u) :: fs, _, h, e => by
    cases h with
    | @cons _ w vs _ _ h1 h2 =>
      rw [List.lookup_cons] at e ⊢
      cases q : m == g with
      | true => rw [q] at e; cases e
      | false => rw [q] at e; exact FzF.non h2 e
theorem recO_at {c m : Str} {o : O} {v : V} (sh : Same Sh H) (a : At K Sh H o v) (h : recO c m o = true) : ∃ p dx vs, v = .ref p ∧ H p = some (.ins (He.ga K c) dx vs) ∧ vs.lookup m = none := by
  unfold recO at h
  split at h
  · rename_i c' fs
    obtain ⟨h1, h2⟩ := Bool.and_eq_true_iff.mp h
    have h1 : c' = c := beq_iff_eq.mp h1
    subst h1
    obtain ⟨p, dx, vs, rfl, e1, e2, e3, e4⟩ := a
    exact ⟨p, dx, vs, rfl, e1, AtF.non e3 (Option.isNone_iff_eq_none.mp h2)⟩
  · rename_i c' fs
    obtain ⟨h1, h2⟩ := Bool.and_eq_true_iff.mp h
    have h1 : c' = c := beq_iff_eq.mp h1
    subst h1
    cases (show Fz K Sh v (.ins c' fs) from a) with
    | @ins p dx _ xs _ e1 e2 => exact ⟨p, dx, xs, rfl, sh _ _ e1, FzF.non e2 (Option.isNone_iff_eq_none.mp h2)⟩
  · cases h
end
/-- the receiver is frozen data -/
def iMth (c m : Str) (n : Nat) (L : List Nat) (isp : ISp) (w : IE) (r : IM) : IE := fun ρ Q E => w ρ (fun u ρ1 => fzU ρ1 u fun d ρ2 => recO c m (.fr d) = true ∧ r ρ2 (fun as ρ3 => callI n L isp (.d d :: as) ρ3 Q E) E) E
/-- the receiver is a variable that is lent -/
def iMthP (c m : Str) (n : Nat) (L : List Nat) (isp : ISp) (i : Nat) (r : IM) : IE := fun ρ Q E => ob (ρ[i]?.join) fun o => recO c m o = true ∧ r ρ (fun as ρ3 => callI n L isp (.sl i :: as) ρ3 Q E) E
section
variable {X : Cx} {K : PySem.W.Frag} {Z : Zt} {W : WX} {q qa : Bool} {w : IE} {r : IM} {k j n : Nat} {L : List Nat} {isp : ISp} {c m : Str} {o e : Expr} {es : List Expr} {apos pos : Pos} {pl : Sem Bool}
theorem mth_ev {σ : L2.St} {H : Hp} {Q : VK} (h : Ev K Z W false (iMth c m n L isp w r) σ H Q) : tMthS (He.ga K c) m (spI K n L isp) (WE W) (Ev K Z W qa w) (EvM K Z W q r) σ H Q := by
  obtain ⟨Sh, ρ, Q0, E0, R, h, hq, hx⟩ := h
  refine ⟨Sh, ρ, _, E0, R, h, fun u ρ1 S1 H1 v h1 p1 => ?_, hx⟩
  obtain ⟨d, ρ2, S2, ⟨hc, h2⟩, m2, f2⟩ := p1.fz h1
  obtain ⟨a, dx, vs, rfl, e1, l⟩ := recO_at (o := .fr d) m2.rl.sh f2 hc
  exact ⟨a, dx, vs, rfl, e1, l, S2, ρ2, _, E0, m2.rl, h2, fun as ρ3 S3 H3 ws h3 m3 f3 => call_core (as := .d d :: as) (m2.trans m3) (.cons (Fz.mono m3.gx.ss _ _ f2) f3) h3 hq hx, fun x ρ' S' H' cls d e p => hx x ρ' S' H' cls d e (m2.px p)⟩
theorem mthP_ev {i : Nat} {σ : L2.St} {H : Hp} {Q : VK} (h : Ev K Z W false (iMthP c m n L isp i r) σ H Q) : tMthS (He.ga K c) m (spI K n L isp) (WE W) (tVar i) (EvM K Z W q r) σ H Q := by
  obtain ⟨Sh, ρ, Q0, E0, R, h, hq, hx⟩ := h
  obtain ⟨o, ho, hc, h2⟩ := ob_ex h
  have hi : ρ[i]? = some (some o) := by
    cases hh : ρ[i]? with
    | none => rw [hh] at ho; cases ho
    | some oo => rw [hh] at ho; cases oo with
      | none => cases ho
      | some z => cases ho; rfl
  obtain ⟨v, hv, a1⟩ := R.ats i o hi
  obtain ⟨a, dx, vs, rfl, e1, l⟩ := recO_at R.sh a1 hc
  exact ⟨_, hv, a, dx, vs, rfl, e1, l, Sh, ρ, _, E0, R, h2, fun as ρ3 S3 H3 ws h3 m3 f3 => call_core (as := .sl i :: as) m3 (.cons hv f3) h3 hq hx, hx⟩
theorem ev_mth (hK : X.K = K) (mc : MthX X.prog X.w X.K X.mg X.base k c m (spI X.K n L isp)) (tk : Takes X W) (hr : Room j X.A) (hk : k ≤ j) (he : PE X o (Ev K Z W qa w)) (ha : PA X (e :: es) (EvM K Z W q r))
    (hst : starEach (e :: es) X.env = (false, eval e X.env) :: starEach es X.env := by rfl) (hpl : (backTo pos (starEach es X.env)).any (·.1) = false := by rfl)
    (ht : eval (.Call (.Attribute o m apos) (e :: es) [] pos) X.env = (do
      let ov ← eval o X.env
      standAt apos.atName
      let (g, fst) ← holding [ov] (getMethod ov m pl)
      callWith pos g fst (backTo pos (starEach (e :: es) X.env)) (backToKw pos (keywordEach [] X.env))) := by rfl) : PE X (.Call (.Attribute o m apos) (e :: es) [] pos) (Ev K Z W false (iMth c m n L isp w r)) := by
  subst hK
  exact (pe_mthS he mc tk hr hk ha hst hpl ht).weak fun σ H Q h => mth_ev h
theorem ev_mthP {i : Nat} {x : Str} {np : Pos} (hK : X.K = K) (mc : MthX X.prog X.w X.K X.mg X.base k c m (spI X.K n L isp)) (tk : Takes X W) (hr : Room j X.A) (hk : k ≤ j) (he : PE X (.Name x np) (tVar i)) (ha : PA X (e :: es) (EvM K Z W q r))
    (hst : starEach (e :: es) X.env = (false, eval e X.env) :: starEach es X.env := by rfl) (hpl : (backTo pos (starEach es X.env)).any (·.1) = false := by rfl)
    (ht : eval (.Call (.Attribute (.Name x np) m apos) (e :: es) [] pos) X.env = (do
      let ov ← eval (.Name x np) X.env
      standAt apos.atName
      let (g, fst) ← holding [ov] (getMethod ov m pl)
      callWith pos g fst (backTo pos (starEach (e :: es) X.env)) (backToKw pos (keywordEach [] X.env))) := by rfl) : PE X (.Call (.Attribute (.Name x np) m apos) (e :: es) [] pos) (Ev K Z W false (iMthP c m n L isp i r)) := by
  subst hK
  exact (pe_mthS he mc tk hr hk ha hst hpl ht).weak fun σ H Q h => mthP_ev h
theorem nil_evM {σ : L2.St} {H : Hp} {Q : List V → Hp → Prop} (h : EvM K Z W true mNil σ H Q) : tNil σ H Q := by
  obtain ⟨Sh, ρ, Q0, E0, R, h, hq, hx⟩ := h
  exact hq _ _ _ _ _ h (Mid.refl R) .nil
theorem mthS_nil {C : Addr} {sp : Sp} {E : L2.St → XK} {ta : TE} {σ : L2.St} {H : Hp} {Q : VK} (mono : ∀ σ H (A B : VK), (∀ v H, A v H → B v H) → ta σ H A → ta σ H B) (h : tMthS C m sp E ta (EvM K Z W true mNil) σ H Q) : tMthS C m sp E ta tNil σ H Q := by
  refine mono σ H _ _ (fun v H1 ⟨a, dx, vs, h1, h2, h3, h4⟩ => ⟨a, dx, vs, h1, h2, h3, nil_evM h4⟩) h
theorem ev_monoQ {σ : L2.St} {H : Hp} {A B : VK} (hab : ∀ v H, A v H → B v H) (h : Ev K Z W qa w σ H A) : Ev K Z W qa w σ H B := by
  obtain ⟨Sh, ρ, Q0, E0, R, h, hq, hx⟩ := h
  exact ⟨Sh, ρ, Q0, E0, R, h, fun u ρ' S' H' v h1 p => hab _ _ (hq u ρ' S' H' v h1 p), hx⟩
theorem ev_mth0 (hK : X.K = K) (mc : MthX X.prog X.w X.K X.mg X.base k c m (spI X.K n L isp)) (tk : Takes X W) (hr : Room j X.A) (hk : k ≤ j) (he : PE X o (Ev K Z W qa w))
    (ht : eval (.Call (.Attribute o m apos) [] [] pos) X.env = (do
      let ov ← eval o X.env
      standAt apos.atName
      let (g, fst) ← holding [ov] (getMethod ov m pl)
      callWith pos g fst (backTo pos (starEach [] X.env)) (backToKw pos (keywordEach [] X.env))) := by rfl) : PE X (.Call (.Attribute o m apos) [] [] pos) (Ev K Z W false (iMth c m n L isp w mNil)) := by
  subst hK
  exact (pe_mthS0 he mc tk hr hk ht).weak fun σ H Q h => mthS_nil (fun _ _ _ _ hab h => ev_monoQ hab h) (mth_ev h)
theorem ev_mthP0 {i : Nat} {x : Str} {np : Pos} (hK : X.K = K) (mc : MthX X.prog X.w X.K X.mg X.base k c m (spI X.K n L isp)) (tk : Takes X W) (hr : Room j X.A) (hk : k ≤ j) (he : PE X (.Name x np) (tVar i))
    (ht : eval (.Call (.Attribute (.Name x np) m apos) [] [] pos) X.env = (do
      let ov ← eval (.Name x np) X.env
      standAt apos.atName
      let (g, fst) ← holding [ov] (getMethod ov m pl)
      callWith pos g fst (backTo pos (starEach [] X.env)) (backToKw pos (keywordEach [] X.env))) := by rfl) : PE X (.Call (.Attribute (.Name x np) m apos) [] [] pos) (Ev K Z W false (iMthP c m n L isp i mNil)) := by
  subst hK
  exact (pe_mthS0 he mc tk hr hk ht).weak fun σ H Q h => mthS_nil (fun _ _ _ _ hab ⟨v, h1, h2⟩ => ⟨v, h1, hab _ _ h2⟩) (mthP_ev h)
end
/-! ### C(..) -/
/-- a class that can be made, its __init__ walked -/
structure MkX (P : Program) (w : World) (K : PySem.W.Frag) (mg : Str → Option Value) (base : Heap) (k : Nat) (c : Str) (sp : Sp) : Prop where
  gC : mg c = some (.ref (He.ga K c))
  ex : ∃ (f : Addr) (fd : FuncData) (ps : List Str), FnOk P w K mg base (L2.CX P w) k f fd ps sp ∧ Mk K (He.ga K c) f ∧ Binds K fd ps []
def tMkS (C : Addr) (sp : Sp) (E : L2.St → XK) (t : TA) : TE := fun σ H Q => t σ H fun ws H1 => ∀ x dx, H1 x = none → H1 dx = none → dx ≠ x → sp (.ref x :: ws) (upd (upd H1 dx (.own x)) x (.ins C dx [])) (fun v H2 => v = .non ∧ Q (.ref x) H2) (E σ)
section
variable {X : Cx} {W : WX} {k j : Nat} {c : Str} {sp : Sp} {e : Expr} {es : List Expr} {t : TA} {p pos : Pos}
theorem run_mkS {pins : List (Addr × Obj)} {σ : L2.St} {H : Hp} {s : Shared} {Q : VK} {us : List Value} {vs ps : List V} {C f : Addr} {fd : FuncData} {qs : List Str} {E : XK} (M : Mk X.K C f) (F : FnOk X.prog X.w X.K X.mg X.base (L2.CX X.prog X.w) k f fd qs sp) (hr : Room (k + 1) X.A) (hb : Binds X.K fd qs []) (hx : PassesAt (L2.CX X.prog X.w) X σ E)
    (I : Inv X pins σ H s) (r : Vals vs us) (h : ∀ x dx, H x = none → H dx = none → dx ≠ x → sp (.ref x :: vs) (upd (upd H dx (.own x)) x (.ins C dx [])) (fun v H2 => v = .non ∧ Q (.ref x) H2) E) : wpAny (model X.prog X.w) X.A (call (.ref C) us) (EP X pins σ Q) X.xe s := by
  generalize hz : s.heap.objs.size = z
  have f1 : H (z + 1) = none := I.hok.fresh (by rw [hz]; omega)
  have f2 : H z = none := I.hok.fresh (by rw [hz]; omega)
  have hq := h (z + 1) z f1 f2 (Nat.ne_of_lt (Nat.lt_succ_self z))
  have J := Inv.made (C := C) I
  have r2 : Vals (V.ref (z + 1) :: vs) (Value.ref (z + 1) :: us) := .cons rfl r
  have hl : (Value.ref (z + 1) :: us).length = qs.length := by rw [← r2.length]; exact F.len _ _ _ _ hq
  have b := hb _ (Value.ref (z + 1) :: us) J.kIn (by rw [List.append_nil]; exact hl)
  rw [List.append_nil] at b
  subst hz
  have run := F.run _ X.stack _ _ ⟨Value.ref (s.heap.objs.size + 1) :: us, []⟩ (Value.ref (s.heap.objs.size + 1) :: us) _ _ E (hr.make C us []) (J.env0.make C us []) b r2 hq
  refine wpAny_call (make_map (f := f) I.kIn M.makes M.init (beq_iff_eq.mp M.fn) (codeAny_mono run ?_))
  intro res s' hq'
  match res, hq' with
  | .error e, hq' => exact hx pins _ _ e s' J hq'
  | .ok (.ret u), hq' =>
    obtain ⟨v, H', J', rv, ev, q3⟩ := J.after hq'
    subst ev
    exact ⟨rv, V.ref _, H', J', rfl, q3⟩
theorem pe_mkS (mk : MkX X.prog X.w X.K X.mg X.base k c sp) (tk : Takes X W) (hr : Room j X.A) (hk : k + 1 ≤ j) (hg : Gl X c) (ha : PA X (e :: es) t) (hdb : (c == ("__debug__" : Str)) = false := by decide)
    (he : starEach (e :: es) X.env = (false, eval e X.env) :: starEach es X.env := by rfl) (hpl : (backTo pos (starEach es X.env)).any (·.1) = false := by rfl) : PE X (.Call (.Name c p) (e :: es) [] pos) (tMkS (He.ga X.K c) sp (WE W) t) := by
  obtain ⟨f, fd, ps, F, M, hb⟩ := mk.ex
  constructor
  intro pins s σ H Q I h
  refine wpAny_Call_Name_kw (ld_glob I hg mk.gC ?_ hdb)
  have h2 := ha.run pos pins s σ H _ I h
  refine PySem.W.callWith_K (h₀ := X.base) I.ok.mod.kin M.kp (thn h2 ?_) he hpl
  rintro us s1 ⟨vs, H1, I1, r, q⟩
  exact ⟨I1.kIn, run_mkS (ps := vs) M F (hr.mono hk) hb (passAt tk σ) I1 r q⟩
end
/-! a slot more -/
section
variable {K : PySem.W.Frag} {Z : Zt} {Sh H : Hp} {σ : L2.St} {ρ : En} {o : O} {v : V}
theorem fpe_push (hl : ρ.length = σ.length) (b : Addr) : FpE H (σ ++ [some v]) (ρ ++ [some o]) b ↔ FpE H σ ρ b ∨ Fp H o v b := by
  constructor
  · rintro ⟨i, u, w, h1, h2, h3⟩
    rcases Nat.lt_trichotomy i ρ.length with hi | hi | hi
    · rw [List.getElem?_append_left hi] at h1
      rw [List.getElem?_append_left (by omega)] at h2
      exact .inl ⟨i, u, w, h1, h2, h3⟩
    · subst hi
      rw [List.getElem?_append_right (Nat.le_refl _), Nat.sub_self] at h1
      rw [List.getElem?_append_right (by omega), hl, Nat.sub_self] at h2
      cases h1
      cases h2
      exact .inr h3
    · rw [List.getElem?_eq_none (by rw [List.length_append]; show _ + 1 ≤ _; omega)] at h1
      cases h1
  · rintro (⟨i, u, w, h1, h2, h3⟩ | h)
    · have hi := (List.getElem?_eq_some_iff.mp h1).1
      exact ⟨i, u, w, by rw [List.getElem?_append_left hi]; exact h1, by rw [List.getElem?_append_left (by omega)]; exact h2, h3⟩
    · exact ⟨ρ.length, o, v, by rw [List.getElem?_append_right (Nat.le_refl _), Nat.sub_self]; rfl, by rw [List.getElem?_append_right (by omega), hl, Nat.sub_self]; rfl, h⟩
theorem push_get {i : Nat} {u : O} (h : (ρ ++ [some o])[i]? = some (some u)) : (i < ρ.length ∧ ρ[i]? = some (some u)) ∨ (i = ρ.length ∧ u = o) := by
  rcases Nat.lt_trichotomy i ρ.length with hi | hi | hi
  · rw [List.getElem?_append_left hi] at h
    exact .inl ⟨hi, h⟩
  · subst hi
    rw [List.getElem?_append_right (Nat.le_refl _), Nat.sub_self] at h
    cases h
    exact .inr ⟨rfl, rfl⟩
  · rw [List.getElem?_eq_none (by rw [List.length_append]; show _ + 1 ≤ _; omega)] at h
    cases h
theorem Rl.push (R : Rl K Z Sh H σ ρ) (a : At K Sh H o v) (nd : ∀ b, Fp H o v b → ¬ FpE H σ ρ b) : Rl K Z Sh H (σ ++ [some v]) (ρ ++ [some o]) := by
  have hl := R.len
  have sl : ∀ {i : Nat} {w : V}, i < ρ.length → (σ ++ [some v])[i]? = some (some w) → σ[i]? = some (some w) := fun {i w} hi h => by
    rw [List.getElem?_append_left (by omega)] at h
    exact h
  have se : ∀ {i : Nat} {w : V}, i = ρ.length → (σ ++ [some v])[i]? = some (some w) → w = v := fun {i w} hi h => by
    rw [hi, List.getElem?_append_right (by omega), hl, Nat.sub_self] at h
    cases h
    rfl
  refine ⟨R.sh, by simp [hl], fun i u h => ?_, fun i j u u2 w w2 b nij h1 h2 h3 h4 h5 h6 => ?_, R.zk⟩
  · rcases push_get h with ⟨hi, h⟩ | ⟨hi, rfl⟩
    · obtain ⟨w, hw, aw⟩ := R.ats i u h
      exact ⟨w, by rw [List.getElem?_append_left (by omega)]; exact hw, aw⟩
    · exact ⟨v, by rw [hi, List.getElem?_append_right (by omega), hl, Nat.sub_self]; rfl, a⟩
  · rcases push_get h1 with ⟨hi, g1⟩ | ⟨hi, rfl⟩
    · rcases push_get h2 with ⟨hj, g2⟩ | ⟨hj, rfl⟩
      · exact R.dj i j u u2 w w2 b nij g1 g2 (sl hi h3) (sl hj h4) h5 h6
      · rw [se hj h4] at h6
        exact nd b h6 ⟨i, u, w, g1, sl hi h3, h5⟩
    · rw [se hi h3] at h5
      rcases push_get h2 with ⟨hj, g2⟩ | ⟨hj, _⟩
      · exact nd b h5 ⟨j, u2, w2, g2, sl hj h4, h6⟩
      · exact nij (hi.trans hj.symm)
theorem Rl.pop (hl : ρ.length = σ.length) (R : Rl K Z Sh H (σ ++ [some v]) (ρ ++ [some o])) : Rl K Z Sh H σ ρ ∧ At K Sh H o v ∧ ∀ b, Fp H o v b → ¬ FpE H σ ρ b := by
  have up : ∀ {i : Nat} {u : O}, ρ[i]? = some (some u) → (ρ ++ [some o])[i]? = some (some u) := fun {i u} h => by rw [List.getElem?_append_left (List.getElem?_eq_some_iff.mp h).1]; exact h
  have us : ∀ {i : Nat} {w : V}, σ[i]? = some (some w) → (σ ++ [some v])[i]? = some (some w) := fun {i u} h => by rw [List.getElem?_append_left (List.getElem?_eq_some_iff.mp h).1]; exact h
  have lo : (ρ ++ [some o])[ρ.length]? = some (some o) := by rw [List.getElem?_append_right (Nat.le_refl _), Nat.sub_self]; rfl
  have lv : (σ ++ [some v])[ρ.length]? = some (some v) := by rw [List.getElem?_append_right (by omega), hl, Nat.sub_self]; rfl
  refine ⟨⟨R.sh, hl, fun i u h => ?_, fun i j u u2 w w2 b nij h1 h2 h3 h4 h5 h6 => R.dj i j u u2 w w2 b nij (up h1) (up h2) (us h3) (us h4) h5 h6, R.zk⟩, ?_, fun b h1 ⟨i, u, w, h2, h3, h4⟩ => ?_⟩
  · obtain ⟨w, hw, aw⟩ := R.ats i u (up h)
    have hi := (List.getElem?_eq_some_iff.mp h).1
    rw [List.getElem?_append_left (by omega)] at hw
    exact ⟨w, hw, aw⟩
  · obtain ⟨w, hw, aw⟩ := R.ats ρ.length o lo
    rw [lv] at hw
    cases hw
    exact aw
  · have hi := (List.getElem?_eq_some_iff.mp h2).1
    exact R.dj i ρ.length u o w v b (by omega) (up h2) lo (us h3) lv h4 h1
end
def iMk (c : Str) (n : Nat) (isp : ISp) (r : IA) : IE := fun ρ Q E => r ρ (fun ds ρ1 => ds.length + 1 = n ∧ isp (.ins c [] :: ds.map O.fr) (fun o os' => ob (match o, os' with | .fr .non, o' :: _ => some o' | _, _ => none) fun o' => Q (.va o') ρ1) (fun x os' => os'.length = n ∧ E x ρ1)) E
theorem agO_frs (ρ : En) : ∀ ds : List D, agO ρ (ds.map Ag.d) = some (ds.map O.fr)
  | [] => rfl
  | d :: ds => by
    show (agO ρ (ds.map Ag.d)).map _ = _
    rw [agO_frs ρ ds]
    rfl
theorem agS_frs : ∀ ds : List D, agS (ds.map Ag.d) = []
  | [] => rfl
  | d :: ds => agS_frs ds
theorem agB_frs (ρ : En) : ∀ (ds : List D) (os : List O), agB ρ (ds.map Ag.d) os = ρ
  | [], os => by cases os <;> rfl
  | d :: ds, [] => rfl
  | d :: ds, o :: os => agB_frs ρ ds os
theorem frOk_frs (L : List Nat) : ∀ (ds : List D) (j : Nat), frOk L j (ds.map O.fr) = true
  | [], _ => rfl
  | d :: ds, j => by
    show ((L.contains j || true) && frOk L (j + 1) (ds.map O.fr)) = true
    rw [frOk_frs L ds, Bool.or_true]
    rfl
theorem AgL.frs {K : PySem.W.Frag} {Sh : Hp} {σ : L2.St} : ∀ {ds : List D} {vs : List V}, FzL K Sh vs ds → AgL K Sh σ (ds.map Ag.d) vs
  | [], _, h => by cases h; exact .nil
  | d :: ds, _, h => by
    cases h with
    | cons h1 h2 => exact .cons (a := .d d) h1 (AgL.frs h2)
section
variable {K : PySem.W.Frag} {Z : Zt} {W : WX} {q : Bool} {Sh H S1 H1 : Hp} {σ : L2.St} {ρ ρ1 : En} {vs : List V} {ds : List D} {n : Nat} {isp : ISp} {Q0 : U → En → Prop} {E0 : Xc → En → Prop} {Q : VK} {o0 : O} {v0 : V}
/-- a new thing is lent as the first argument and then told -/
theorem mk_core (p : Ps K Z q Sh H σ ρ (.va o0) ρ1 S1 H1 v0) (f : FzL K S1 vs ds) (hn : ds.length + 1 = n) (h : isp (o0 :: ds.map O.fr) (fun o os' => ob (match o, os' with | .fr .non, o' :: _ => some o' | _, _ => none) fun o' => Q0 (.va o') ρ1) (fun x os' => os'.length = n ∧ E0 x ρ1))
    (hq : ∀ u ρ' S' H' v, Q0 u ρ' → Ps K Z false Sh H σ ρ u ρ' S' H' v → Q v H') (hx : ∀ x ρ' S' H' cls d, E0 x ρ' → Px K Z Sh H σ ρ x ρ' S' H' cls d → W cls d σ H') :
    spI K n [0] isp (v0 :: vs) H1 (fun v H2 => v = .non ∧ Q v0 H2) (WE W σ) := by
  have hl := p.rl.len
  have R2 := p.rl.push p.ev.1 p.ev.2
  have ag : AgL K S1 (σ ++ [some v0]) (Ag.sl ρ1.length :: ds.map Ag.d) (v0 :: vs) := .cons (a := .sl ρ1.length) (by show (σ ++ [some v0])[ρ1.length]? = _; rw [List.getElem?_append_right (by omega), hl, Nat.sub_self]; rfl) (AgL.frs f)
  have eg : ∀ x : Option O, (ρ1 ++ [x])[ρ1.length]? = some x := fun x => by rw [List.getElem?_append_right (Nat.le_refl _), Nat.sub_self]; rfl
  have gx1 : Gx Z Sh H (FpE H σ ρ) S1 H1 (FpE H1 (σ ++ [some v0]) (ρ1 ++ [some o0])) := p.gx.weak (fun _ h => h) (fun b hb => ((fpe_push hl b).mp hb).imp id id)
  have bb : ∀ (o' : O) (os : List O), agB (ρ1 ++ [some o0]) (Ag.sl ρ1.length :: ds.map Ag.d) (o' :: os) = ρ1 ++ [some o'] := fun o' os => by
    show (agB (ρ1 ++ [some o0]) (ds.map Ag.d) os).set ρ1.length (some o') = _
    rw [agB_frs, List.set_append_right _ _ (Nat.le_refl _), Nat.sub_self]
    rfl
  have core := call_coreQ (K := K) (Z := Z) (W := fun cls d _ H' => W cls d σ H') (q := true) (n := n) (L := [0]) (isp := isp) (Q := fun v H2 => v = .non ∧ Q v0 H2)
    (Q0 := fun u ρ' => ∃ o', u = .va (.fr .non) ∧ ρ' = ρ1 ++ [some o'] ∧ Q0 (.va o') ρ1) (E0 := fun x ρ' => ∃ o', ρ' = ρ1 ++ [some o'] ∧ E0 x ρ1) (Mid.refl R2) ag (ob_i (a := o0 :: ds.map O.fr) ?_ ⟨by simp; omega, ?_, ?_, h⟩) ?_ ?_ ?_ ?_
  · exact core
  · show ((ρ1 ++ [some o0])[ρ1.length]?.join).bind _ = _
    rw [eg, agO_frs]
    rfl
  · show ((List.contains [0] 0 || isFr o0) && frOk [0] 1 (ds.map O.fr)) = true
    rw [frOk_frs]
    rfl
  · show (ρ1.length :: agS (ds.map Ag.d)).Nodup
    rw [agS_frs]
    simp
  · intro o os' hlo h
    obtain ⟨o', e, hh⟩ := ob_ex h
    split at e
    · rename_i o2 rest
      cases e
      exact ⟨o', rfl, bb o' rest, hh⟩
    · cases e
  · intro x os' hlo h
    cases os' with
    | nil => cases hlo
    | cons o' rest => exact ⟨o', bb o' rest, h.2⟩
  · rintro u ρ' S' H' v ⟨o', rfl, rfl, h⟩ p2
    have hv : v = .non := by
      have z : Fz K S' v .non := p2.ev.1
      cases z
      rfl
    obtain ⟨r1, r2, r3⟩ := p2.rl.pop hl
    refine ⟨hv, hq _ _ _ _ _ h ⟨r1, gx1.trans (p2.gx.weak (fun _ h => h) (fun b hb => .inl ((fpe_push hl b).mpr hb))), ⟨r2, r3⟩, fun e => by cases e⟩⟩
  · rintro x ρ' S' H' cls d ⟨o', rfl, h⟩ p2
    obtain ⟨r1, r2, r3⟩ := p2.rl.pop hl
    exact hx _ _ _ _ _ _ h ⟨r1, gx1.trans (p2.gx.weak (fun _ h => h) (fun b hb => (fpe_push hl b).mpr (.inl hb))), p2.xa⟩
theorem res_ins {c : Str} {x dx : Addr} (sh : Same S1 H1) (hx : H1 x = none) (hd : H1 dx = none) (ne : dx ≠ x) : Res K S1 H1 (.ins c []) (.ref x) S1 (upd (upd H1 dx (.own x)) x (.ins (He.ga K c) dx [])) := by
  have hx2 : (upd H1 dx (.own x)) x = none := by rw [upd_ne (Ne.symm ne)]; exact hx
  have ss : Same H1 (upd (upd H1 dx (.own x)) x (.ins (He.ga K c) dx [])) := (same_new hd).trans (same_new hx2)
  refine ⟨ss, Same.refl _, sh.trans ss, fun _ _ h => h, ⟨x, dx, [], rfl, upd_same, sh.free hx, True.intro, fun z => z⟩, fun a h => ?_⟩
  rcases h with h | ⟨_, _, _, _, _, _, h⟩
  · cases h
    exact hx
  · cases h
end
section
variable {X : Cx} {K : PySem.W.Frag} {Z : Zt} {W : WX} {q : Bool} {r : IA} {k j n : Nat} {isp : ISp} {c : Str} {e : Expr} {es : List Expr} {p pos : Pos}
theorem ev_mk (hK : X.K = K) (mk : MkX X.prog X.w X.K X.mg X.base k c (spI X.K n [0] isp)) (tk : Takes X W) (hr : Room j X.A) (hk : k + 1 ≤ j) (hg : Gl X c) (ha : PA X (e :: es) (EvA K Z W q r)) (hdb : (c == ("__debug__" : Str)) = false := by decide)
    (he : starEach (e :: es) X.env = (false, eval e X.env) :: starEach es X.env := by rfl) (hpl : (backTo pos (starEach es X.env)).any (·.1) = false := by rfl) : PE X (.Call (.Name c p) (e :: es) [] pos) (Ev K Z W false (iMk c n isp r)) := by
  subst hK
  refine (pe_mkS mk tk hr hk hg ha hdb he hpl).weak fun σ H Q ⟨Sh, ρ, Q0, E0, R, h, hq, hx⟩ => ?_
  refine ⟨Sh, ρ, _, E0, R, h, fun ds ρ1 S1 H1 vs ⟨hn, h1⟩ m1 f1 x dx nx nd ne => ?_, hx⟩
  exact mk_core (m1.fin (res_ins m1.rl.sh nx nd ne)) f1 hn h1 hq hx
end
/-! ### o(..), o an instance -/
def tClO (X : Cx) (C : Addr) (sp : Sp) (E : L2.St → XK) (tf : TE) (t : TA) : TE := fun σ H Q => tf σ H fun y H1 => ∃ a, y = V.ref a ∧ t σ H1 fun ws H2 => StX.InsC X H2 a C ∧ sp (.ref a :: ws) H2 Q (E σ)
section
variable {X : Cx} {K : PySem.W.Frag} {Z : Zt} {W : WX} {q qa : Bool} {w : IE} {r : IM} {k j n : Nat} {L : List Nat} {isp : ISp} {sp : Sp} {c : Str} {fe e : Expr} {es : List Expr} {pos : Pos} {tf : TE} {t : TA}
theorem run_cdS {pins : List (Addr × Obj)} {σ : L2.St} {H : Hp} {s : Shared} {Q : VK} {us : List Value} {vs : List V} {f : Addr} {fd : FuncData} {ps : List Str} {E : XK} (F : FnOk X.prog X.w X.K X.mg X.base (L2.CX X.prog X.w) k f fd ps sp) (hr : Room k X.A) (hb : Binds X.K fd ps []) (hx : PassesAt (L2.CX X.prog X.w) X σ E)
    (I : Inv X pins σ H s) (r : Vals vs us) (h : sp vs H Q E) : codeAny (model X.prog X.w) X.A (.call (.ref f) ⟨us, []⟩) (fun r s' => match r with | .ok (.ret v) => EP X pins σ Q v s' | .ok _ => False | .error e => X.xe e s') s := by
  have hl : (us ++ []).length = ps.length := by rw [List.append_nil, ← r.length]; exact F.len _ _ _ _ h
  have b := hb s us I.kIn hl
  rw [List.append_nil] at b
  have run := F.run X.A X.stack s H ⟨us, []⟩ us vs Q E hr I.env0 b r h
  refine codeAny_mono run ?_
  intro res s' hq'
  match res, hq' with
  | .error e, hq' => exact hx pins _ _ e s' I hq'
  | .ok (.ret u), hq' => exact I.after hq'
theorem pe_clO (hf : PE X fe tf) (mc : MthX X.prog X.w X.K X.mg X.base k c "__call__" sp) (tk : Takes X W) (hr : Room j X.A) (hk : k ≤ j) (ha : PA X (e :: es) t)
    (ht : eval (.Call fe (e :: es) [] pos) X.env = (do callWith pos (← eval fe X.env) [] (backTo pos (starEach (e :: es) X.env)) (backToKw pos (keywordEach [] X.env))) := by rfl)
    (hst : starEach (e :: es) X.env = (false, eval e X.env) :: starEach es X.env := by rfl) (hpl : (backTo pos (starEach es X.env)).any (·.1) = false := by rfl) : PE X (.Call fe (e :: es) [] pos) (tClO X (He.ga X.K c) sp (WE W) tf t) := by
  obtain ⟨g, fd, ps, F, M, fi, hb⟩ := mc.ex
  constructor
  intro pins s σ H Q I h
  have h1 := hf.run pins s σ H _ I h
  refine Call_ (thn h1 ?_) ht
  rintro u s1 ⟨y, H1, I1, ry, a, rfl, q⟩
  obtain rfl : u = Value.ref a := ry
  have h2 := ha.run pos pins s1 σ H1 _ I1 q
  refine StX.callO_with (thn h2 ?_) hst hpl
  rintro us s2 ⟨vs, H2, I2, r, hi, q2⟩
  obtain ⟨ox, od, J, hd⟩ := StX.insC_at I2 hi
  exact ⟨⟨_, ox, od, J, hd⟩, wpAny_call (PySem.W.kco_code I2.kIn J hd M.at_ M.fn fi (run_cdS (E := WE W σ) (us := .ref a :: us) (vs := .ref a :: vs) F (hr.mono hk) hb (passAt tk σ) I2 (.cons rfl r) q2))⟩
def iClO (c : Str) (n : Nat) (L : List Nat) (isp : ISp) (w : IE) (r : IM) : IE := iMth c "__call__" n L isp w r
theorem ev_clO (hK : X.K = K) (mc : MthX X.prog X.w X.K X.mg X.base k c "__call__" (spI X.K n L isp)) (tk : Takes X W) (hr : Room j X.A) (hk : k ≤ j) (hf : PE X fe (Ev K Z W qa w)) (ha : PA X (e :: es) (EvM K Z W q r))
    (ht : eval (.Call fe (e :: es) [] pos) X.env = (do callWith pos (← eval fe X.env) [] (backTo pos (starEach (e :: es) X.env)) (backToKw pos (keywordEach [] X.env))) := by rfl)
    (hst : starEach (e :: es) X.env = (false, eval e X.env) :: starEach es X.env := by rfl) (hpl : (backTo pos (starEach es X.env)).any (·.1) = false := by rfl) : PE X (.Call fe (e :: es) [] pos) (Ev K Z W false (iClO c n L isp w r)) := by
  subst hK
  refine (pe_clO hf mc tk hr hk ha ht hst hpl).weak fun σ H Q ⟨Sh, ρ, Q0, E0, R, h, hq, hx⟩ => ?_
  refine ⟨Sh, ρ, _, E0, R, h, fun u ρ1 S1 H1 v h1 p1 => ?_, hx⟩
  obtain ⟨d, ρ2, S2, ⟨hc, h2⟩, m2, f2⟩ := p1.fz h1
  obtain ⟨a, dx, vs, rfl, e1, l⟩ := recO_at (o := .fr d) m2.rl.sh f2 hc
  refine ⟨a, rfl, S2, ρ2, _, E0, m2.rl, h2, fun as ρ3 S3 H3 ws h3 m3 f3 => ⟨?_, call_core (as := .d d :: as) (m2.trans m3) (.cons (Fz.mono m3.gx.ss _ _ f2) f3) h3 hq hx⟩, fun x ρ' S' H' cls d e p => hx x ρ' S' H' cls d e (m2.px p)⟩
  obtain ⟨a', dx', vs', e5, e6, _⟩ := recO_at (o := .fr d) m3.rl.sh (Fz.mono m3.gx.ss _ _ f2) hc
  cases e5
  exact .inr ⟨dx', vs', e6⟩
end
end G48

set_option Elab.async false
set_option linter.all false
set_option maxRecDepth 100000
set_option maxHeartbeats 4000000
namespace G48
open PySem PySem.Spec PyProof.Rows L2 SX
/-! ### classes: what the head tells -/
def isiTys : List String := ["int", "str", "tuple", "list"]
structure Kls (K : PySem.W.Frag) (mg : Str → Option Value) (c : Str) (fs : List Str) : Prop where
  gC : mg c = some (.ref (He.ga K c))
  cl : Cls K (He.ga K c)
  no : ∀ f ∈ fs, NoAttr K (He.ga K c) f
  mks : PySem.W.makesIn K (He.ga K c) = true
  kp : PySem.W.keepIn K (.ref (He.ga K c)) = true
  sf : PySem.W.selfFirst K (He.ga K c) = true
  ik : PySem.W.kitOne K (.ref (He.ga K c)) (.ref (He.ga K c)) = some true
  ca : PySem.W.findIn K (.ref (He.ga K c)) "__class__" = some (some (.builtin "object.__class__"))
  cn : PySem.W.specialIn K (.builtin "object.__class__") "__get__" = some (some (.builtin "getset_descriptor.__get__"))
  ct : PySem.W.takesIn K (.builtin "object.__class__") = some true
  cm : PySem.W.mroIn K (He.ga K c) (.type "object") = some true
  io : ∀ T ∈ isiTys, PySem.W.kitOne K (.type T) (.ref (He.ga K c)) = some false
/-- a def of the class -/
structure Mfn (K : PySem.W.Frag) (c m q : Str) (st : Stmt) : Prop where
  ex : ∃ fd, Fun K m q st (He.ma K (He.ga K c) m) fd
  at_ : Meth K (He.ga K c) m (He.ma K (He.ga K c) m)
  fi : PySem.W.fnIn K (He.ma K (He.ga K c) m) = true
def klsB (K : PySem.W.Frag) (c : Str) (fs : List Str) : Bool :=
  decide (PySem.W.plainGet K (He.ga K c) Str.empty = true) && (decide (PySem.W.hasDictIn K (He.ga K c) = true) && (decide (PySem.W.plainOver K (He.ga K c) = true) && (decide (PySem.W.findIn K (.ref (He.ga K c)) "__setattr__" = some (some (.builtin "object.__setattr__"))) &&
    (fs.all (fun f => decide (PySem.W.findIn K (.ref (He.ga K c)) f = some none)) && (decide (PySem.W.makesIn K (He.ga K c) = true) && (decide (PySem.W.keepIn K (.ref (He.ga K c)) = true) && (PySem.W.selfFirst K (He.ga K c) &&
      (decide (PySem.W.kitOne K (.ref (He.ga K c)) (.ref (He.ga K c)) = some true) && (decide (PySem.W.findIn K (.ref (He.ga K c)) "__class__" = some (some (.builtin "object.__class__"))) && (decide (PySem.W.specialIn K (.builtin "object.__class__") "__get__" = some (some (.builtin "getset_descriptor.__get__"))) &&
        (decide (PySem.W.takesIn K (.builtin "object.__class__") = some true) && (decide (PySem.W.mroIn K (He.ga K c) (.type "object") = some true) && isiTys.all fun T => decide (PySem.W.kitOne K (.type T) (.ref (He.ga K c)) = some false)))))))))))))
def mfnB (K : PySem.W.Frag) (c m : Str) : Bool :=
  decide (PySem.W.findIn K (.ref (He.ga K c)) m = some (some (.ref (He.ma K (He.ga K c) m)))) && (decide (PySem.W.isFn K (.ref (He.ma K (He.ga K c) m)) = true) && (decide (PySem.W.keepIn K (.ref (He.ma K (He.ga K c) m)) = true) && decide (PySem.W.fnIn K (He.ma K (He.ga K c) m) = true)))
theorem kls_ok {K : PySem.W.Frag} {h : Heap} {mg : Str → Option Value} {c : Str} {fs : List Str} (X : K.In h) (G : h.Ns mainGlobals mg) (g : (He.Fa.glo c).ok K = true) (b : klsB K c fs = true) : Kls K mg c fs := by
  obtain ⟨h1, b⟩ := Bool.and_eq_true_iff.mp b
  obtain ⟨h2, b⟩ := Bool.and_eq_true_iff.mp b
  obtain ⟨h3, b⟩ := Bool.and_eq_true_iff.mp b
  obtain ⟨h4, b⟩ := Bool.and_eq_true_iff.mp b
  obtain ⟨h5, b⟩ := Bool.and_eq_true_iff.mp b
  obtain ⟨h6, b⟩ := Bool.and_eq_true_iff.mp b
  obtain ⟨h7, b⟩ := Bool.and_eq_true_iff.mp b
  obtain ⟨h8, b⟩ := Bool.and_eq_true_iff.mp b
  obtain ⟨h9, b⟩ := Bool.and_eq_true_iff.mp b
  obtain ⟨h11, b⟩ := Bool.and_eq_true_iff.mp b
  obtain ⟨h12, b⟩ := Bool.and_eq_true_iff.mp b
  obtain ⟨h13, b⟩ := Bool.and_eq_true_iff.mp b
  obtain ⟨h14, h10⟩ := Bool.and_eq_true_iff.mp b
  exact ⟨He.glo_ok X G g, ⟨of_decide_eq_true h1, of_decide_eq_true h2, of_decide_eq_true h3, of_decide_eq_true h4⟩, fun f hf => (of_decide_eq_true (List.all_eq_true.mp h5 f hf) : PySem.W.findIn K (.ref (He.ga K c)) f = some none), of_decide_eq_true h6, of_decide_eq_true h7, h8, of_decide_eq_true h9, of_decide_eq_true h11, of_decide_eq_true h12, of_decide_eq_true h13, of_decide_eq_true h14, fun T hT => of_decide_eq_true (List.all_eq_true.mp h10 T hT)⟩
theorem mfn_ok {K : PySem.W.Frag} {c m q : Str} {st : Stmt} (b : mfnB K c m = true) (F : ∃ fd, FunD K m q (defArgs st) (defBody st) (defScope st) [] [] (He.ma K (He.ga K c) m) fd) : Mfn K c m q st := by
  obtain ⟨h1, b⟩ := Bool.and_eq_true_iff.mp b
  obtain ⟨h2, b⟩ := Bool.and_eq_true_iff.mp b
  obtain ⟨h3, h4⟩ := Bool.and_eq_true_iff.mp b
  obtain ⟨fd, F⟩ := F
  exact ⟨⟨fd, fun_he F⟩, ⟨of_decide_eq_true h1, of_decide_eq_true h2, of_decide_eq_true h3⟩, of_decide_eq_true h4⟩
theorem Kls.noF {K : PySem.W.Frag} {mg : Str → Option Value} {c : Str} {fs : List Str} (k : Kls K mg c fs) {f : Str} (h : f ∈ fs) : NoF K [c] f := fun c' hc => by
  have : c' = c := by simpa using hc
  subst this
  exact ⟨k.cl, k.no f h⟩
theorem NoF.two {K : PySem.W.Frag} {cs ds : List Str} {f : Str} (a : NoF K cs f) (b : NoF K ds f) : NoF K (cs ++ ds) f := fun c h => by
  rw [List.contains_append, Bool.or_eq_true_iff] at h
  exact h.elim (a c) (b c)
section
variable {P : Program} {w : World} {K : PySem.W.Frag} {mg : Str → Option Value} {base : Heap}
/-- a def of a class by its body -/
theorem fn_I {c m q : Str} {st : Stmt} {N ps : List Str} {k n : Nat} {L : List Nat} {isp : ISp} {wb : IS} (D : Mfn K c m q st) (S : FnScope N ps (defScope st))
    (hb : ∀ (kV doc pm : Value) (an : Option Addr) (cdv ct : Value) (us : List Value), us.length = ps.length → bindArgs (PySem.W.fnOf m q (defArgs st) (defBody st) (defScope st) .none kV doc pm an cdv ct) ⟨us, []⟩ = pure (ps.zip us))
    (hn : ps.length = n) (hL : ∀ j, j ∈ L → j < n) (hN : n ≤ N.length)
    (body : ∀ (f : Addr) (cdv : Value) (A : Around) (outer : List Env) (s : Shared) (H : Hp) (E : XK), Room k (A.deeper (envOfC q (defScope st) s.heap.objs.size f cdv)) → PSs (cxOf (L2.CX P w) P w K mg base N q (defScope st) f cdv A outer s H E) (defBody st) (EvS K none (fun cls d _ H => E cls d H) L wb))
    (h : ∀ os Q0 E0, os.length = n → isp os Q0 E0 → wb (st0 N.length os) (exits n L os Q0 E0)) : ∃ fd, FnOk P w K mg base (L2.CX P w) (k + 1) (He.ma K (He.ga K c) m) fd ps (spI K n L isp) ∧ Binds K fd ps [] := by
  obtain ⟨fd, F⟩ := D.ex
  refine ⟨fd, F.okX S (fun vs H Q E hs => ?_) (fun cdv A outer s H vs Q E hr hs => ⟨_, body _ cdv A outer s H E hr, body_ev (fun _ _ _ _ z => z) hL hN hs h⟩), F.binds hb⟩
  obtain ⟨Sh, os, Q0, E0, R, hl, _⟩ := hs
  have z := R.len
  simp only [List.length_map] at z
  omega
theorem mth_I {c m q : Str} {st : Stmt} {N ps fs : List Str} {k n : Nat} {L : List Nat} {isp : ISp} {wb : IS} (C : Kls K mg c fs) (D : Mfn K c m q st) (S : FnScope N ps (defScope st))
    (hb : ∀ (kV doc pm : Value) (an : Option Addr) (cdv ct : Value) (us : List Value), us.length = ps.length → bindArgs (PySem.W.fnOf m q (defArgs st) (defBody st) (defScope st) .none kV doc pm an cdv ct) ⟨us, []⟩ = pure (ps.zip us))
    (hn : ps.length = n) (hL : ∀ j, j ∈ L → j < n) (hN : n ≤ N.length)
    (body : ∀ (f : Addr) (cdv : Value) (A : Around) (outer : List Env) (s : Shared) (H : Hp) (E : XK), Room k (A.deeper (envOfC q (defScope st) s.heap.objs.size f cdv)) → PSs (cxOf (L2.CX P w) P w K mg base N q (defScope st) f cdv A outer s H E) (defBody st) (EvS K none (fun cls d _ H => E cls d H) L wb))
    (h : ∀ os Q0 E0, os.length = n → isp os Q0 E0 → wb (st0 N.length os) (exits n L os Q0 E0)) : MthX P w K mg base (k + 1) c m (spI K n L isp) := by
  obtain ⟨fd, F, b⟩ := fn_I D S hb hn hL hN body h
  exact ⟨C.cl, _, fd, ps, F, D.at_, D.fi, b⟩
theorem mk_I {c q : Str} {st : Stmt} {N ps fs : List Str} {k n : Nat} {isp : ISp} {wb : IS} (C : Kls K mg c fs) (D : Mfn K c "__init__" q st) (S : FnScope N ps (defScope st))
    (hb : ∀ (kV doc pm : Value) (an : Option Addr) (cdv ct : Value) (us : List Value), us.length = ps.length → bindArgs (PySem.W.fnOf "__init__" q (defArgs st) (defBody st) (defScope st) .none kV doc pm an cdv ct) ⟨us, []⟩ = pure (ps.zip us))
    (hn : ps.length = n) (hL : ∀ j, j ∈ [0] → j < n) (hN : n ≤ N.length)
    (body : ∀ (f : Addr) (cdv : Value) (A : Around) (outer : List Env) (s : Shared) (H : Hp) (E : XK), Room k (A.deeper (envOfC q (defScope st) s.heap.objs.size f cdv)) → PSs (cxOf (L2.CX P w) P w K mg base N q (defScope st) f cdv A outer s H E) (defBody st) (EvS K none (fun cls d _ H => E cls d H) [0] wb))
    (h : ∀ os Q0 E0, os.length = n → isp os Q0 E0 → wb (st0 N.length os) (exits n [0] os Q0 E0)) : MkX P w K mg base (k + 1) c (spI K n [0] isp) := by
  obtain ⟨fd, F, b⟩ := fn_I D S hb hn hL hN body h
  exact ⟨C.gC, _, fd, ps, F, ⟨C.mks, D.at_.at_, D.at_.fn, C.kp⟩, b⟩
end
/-! ### C.f, a whole number -/
def ccB (K : PySem.W.Frag) (c f : Str) (i : Int) : Bool := PySem.W.readsIn K (He.ga K c) (.type "type") && (decide (PySem.W.specialIn K (.ref (He.ga K c)) "__getattribute__" = some (some (.builtin "type.__getattribute__"))) && (match PySem.W.findCls K (.ref (He.ga K c)) (.type "type") f with
  | some (.val (.int j _)) => decide (j = i)
  | _ => false))
structure CCn (K : PySem.W.Frag) (mg : Str → Option Value) (c f : Str) (i : Int) : Prop where
  gC : mg c = some (.ref (He.ga K c))
  rd : ClX.CRead K (He.ga K c) (.type "type")
  vl : ∃ u, ClX.CVal K (He.ga K c) (.type "type") f (.int i) u
theorem cc_ok {K : PySem.W.Frag} {h : Heap} {mg : Str → Option Value} {c f : Str} {i : Int} (X : K.In h) (G : h.Ns mainGlobals mg) (g : (He.Fa.glo c).ok K = true) (b : ccB K c f i = true) : CCn K mg c f i := by
  obtain ⟨h1, b⟩ := Bool.and_eq_true_iff.mp b
  obtain ⟨h2, b⟩ := Bool.and_eq_true_iff.mp b
  refine ⟨He.glo_ok X G g, ⟨h1, of_decide_eq_true h2⟩, ?_⟩
  split at b
  · rename_i j tk e
    exact ⟨_, e, ⟨tk, by rw [of_decide_eq_true b]⟩⟩
  · cases b
section
variable {X : Cx} {K : PySem.W.Frag} {Z : Zt} {W : WX} {c f : Str} {i : Int} {np pos : Pos}
theorem ev_cc (hK : X.K = K) (cc : CCn X.K X.mg c f i) (hg : Gl X c) (hdb : (c == ("__debug__" : Str)) = false := by decide) (hb : attributeBase (.Name c np) f X.env (eval (.Name c np) X.env) = eval (.Name c np) X.env := by rfl) : PE X (.Attribute (.Name c np) f pos) (Ev K Z W true (iC (.int i))) := by
  subst hK
  obtain ⟨u, vl⟩ := cc.vl
  refine (ClX.pe_cval (pe_glob (v := .ref (He.ga X.K c)) hg cc.gC rfl hdb) hb).weak fun σ H Q h => ?_
  have h2 := tC_ev (v := .int i) (d := .int i) (fun _ => .int i) h
  exact ⟨_, _, _, u, rfl, cc.rd, vl, h2⟩
end
end G48

set_option Elab.async false
set_option linter.all false
set_option maxRecDepth 100000
set_option maxHeartbeats 4000000
namespace G48
open PySem PySem.Spec PyProof.Rows L2 SX
/-! ### dicts -/
def keyOf : D → Option Key
  | .int i => some (.inl i)
  | .str l => some (.inr (S l))
  | _ => none
def valD (kvs : List (D × D)) (k : D) : Option D := (kvs.find? fun p => decide (keyOf p.1 = keyOf k)).map (·.2)
def putD (kvs : List (D × D)) (k v : D) : List (D × D) := if (kvs.any fun p => decide (keyOf p.1 = keyOf k)) = true then kvs.map (fun p => if keyOf p.1 = keyOf k then (p.1, v) else p) else kvs ++ [(k, v)]
theorem keyOf_kD : ∀ k : Key, keyOf (kD k) = some k
  | .inl i => rfl
  | .inr x => by
    show some (Sum.inr (S x.cps.toList)) = _
    rw [S_tl]
theorem kD_of {d : D} {k : Key} (h : keyOf d = some k) : d = kD k := by
  cases d with
  | int i => cases h; rfl
  | str l => cases h; rfl
  | _ => cases h
section
variable {K : PySem.W.Frag} {Sh H : Hp}
theorem key_at {d : D} {k : Key} {y : V} (h : keyOf d = some k) (s : Sv K Sh H y d) : y = kV k := by
  cases d with
  | int i =>
    cases h
    cases (show Fz K Sh y (.int i) from s)
    rfl
  | str l =>
    cases h
    cases (show Fz K Sh y (.str l) from s)
    rfl
  | _ => cases h
theorem FzK.val {d : D} {k : Key} (hk : keyOf d = some k) : ∀ {xs : List (Key × V)} {ds : List (D × D)}, FzK K Sh xs ds → (valV xs k = none ∧ valD ds d = none) ∨ ∃ v e, valV xs k = some v ∧ valD ds d = some e ∧ Fz K Sh v e
  | _, _, .nil => .inl ⟨rfl, rfl⟩
  | _, _, .cons (k := k') (v := v) (vs := xs) (d := e) h1 h2 => by
    by_cases q : k' = k
    · subst q
      refine .inr ⟨v, e, valV_pos rfl, ?_, h1⟩
      unfold valD
      rw [List.find?_cons, keyOf_kD, hk, decide_eq_true rfl]
      rfl
    · have q2 : decide (keyOf (kD k') = keyOf d) = false := decide_eq_false (by rw [keyOf_kD, hk]; exact fun z => q (Option.some.inj z))
      have e1 : valV ((k', v) :: xs) k = valV xs k := valV_neg (p := (k', v)) q
      rw [e1]
      unfold valD
      rw [List.find?_cons, q2]
      exact FzK.val hk h2
theorem FzK.app : ∀ {xs ys : List (Key × V)} {ds es : List (D × D)}, FzK K Sh xs ds → FzK K Sh ys es → FzK K Sh (xs ++ ys) (ds ++ es)
  | _, _, _, _, .nil, q => q
  | _, _, _, _, .cons h1 h2, q => .cons h1 (FzK.app h2 q)
theorem FzK.any {d : D} {k : Key} (hk : keyOf d = some k) : ∀ {xs : List (Key × V)} {ds : List (D × D)}, FzK K Sh xs ds → (ds.any fun p => decide (keyOf p.1 = keyOf d)) = (xs.any fun p => decide (p.1 = k))
  | _, _, .nil => rfl
  | _, _, .cons (k := k') h1 h2 => by
    rw [List.any_cons, List.any_cons, FzK.any hk h2]
    congr 1
    rw [keyOf_kD, hk]
    exact decide_eq_decide.mpr ⟨fun z => Option.some.inj z, fun z => congrArg some z⟩
theorem FzK.upd {d e : D} {k : Key} {v : V} (hk : keyOf d = some k) (z : Fz K Sh v e) : ∀ {xs : List (Key × V)} {ds : List (D × D)}, FzK K Sh xs ds → FzK K Sh (xs.map fun kv => if kv.1 = k then (kv.1, v) else kv) (ds.map fun p => if keyOf p.1 = keyOf d then (p.1, e) else p)
  | _, _, .nil => .nil
  | _, _, .cons (k := k') h1 h2 => by
    rw [List.map_cons, List.map_cons]
    by_cases q : k' = k
    · subst q
      rw [if_pos rfl, if_pos (by rw [keyOf_kD, hk])]
      exact .cons z (FzK.upd hk z h2)
    · rw [if_neg q, if_neg (by rw [keyOf_kD, hk]; exact fun z => q (Option.some.inj z))]
      exact .cons h1 (FzK.upd hk z h2)
theorem FzK.put {d e : D} {k : Key} {v : V} {xs : List (Key × V)} {ds : List (D × D)} (hk : keyOf d = some k) (z : Fz K Sh v e) (h : FzK K Sh xs ds) : FzK K Sh (putK xs k v) (putD ds d e) := by
  unfold putK putD
  rw [FzK.any hk h]
  split
  · exact FzK.upd hk z h
  · rw [kD_of hk]
    exact FzK.app h (.cons z .nil)
end
def pDGet : D → D → Option O
  | .dic kvs, k => (keyOf k).bind fun _ => (valD kvs k).map O.fr
  | _, _ => none
def pDIn : D → D → Option O
  | k, .dic kvs => (keyOf k).map fun _ => .fr (.bl (valD kvs k).isSome)
  | _, _ => none
def pDNotIn : D → D → Option O
  | k, .dic kvs => (keyOf k).map fun _ => .fr (.bl (!(valD kvs k).isSome))
  | _, _ => none
section
variable {X : Cx} {K : PySem.W.Frag} {Z : Zt} {W : WX} {qa qb : Bool} {wa wb : IE} {a b : Expr} {pos : Pos}
theorem rd_dget {x y : V} {H : Hp} {Q : VK} (h : rF K pDGet x y H Q) : ∃ a v, x = .ref a ∧ DGet H a y (some v) ∧ Q v H := by
  obtain ⟨Sh, d1, d2, o, sh, s1, s2, e, q⟩ := h
  unfold pDGet at e
  split at e
  · rename_i kvs
    cases hk : keyOf d2 with
    | none => rw [hk] at e; cases e
    | some kk =>
      rw [hk] at e
      obtain ⟨a, xs, rfl, ha, fk⟩ := s1
      have ey := key_at hk s2
      subst ey
      rcases FzK.val hk fk with ⟨_, e2⟩ | ⟨v, e', e1, e2, fz⟩
      · have e : (valD kvs d2).map O.fr = some o := e
        rw [e2] at e
        cases e
      · have e : (valD kvs d2).map O.fr = some o := e
        rw [e2] at e
        cases e
        refine ⟨a, v, rfl, ?_, q Sh H v (Res.fr sh fz)⟩
        rw [← e1]
        exact .inl ⟨_, _, ha, rfl, rfl⟩
  · cases e
theorem rd_din {f : Bool → Bool} {g : D → D → Option O} (hg : ∀ k d o, g k d = some o → ∃ kvs kk, d = .dic kvs ∧ keyOf k = some kk ∧ o = .fr (.bl (f (valD kvs k).isSome))) {x y : V} {H : Hp} {Q : VK} (h : rF K g y x H Q) : ∃ a o, x = .ref a ∧ DGet H a y o ∧ Q (.bl (f o.isSome)) H := by
  obtain ⟨Sh, d1, d2, o, sh, s1, s2, e, q⟩ := h
  obtain ⟨kvs, kk, rfl, hk, rfl⟩ := hg _ _ _ e
  obtain ⟨a, xs, rfl, ha, fk⟩ := s2
  have ey := key_at hk s1
  subst ey
  refine ⟨a, valV xs kk, rfl, .inl ⟨_, _, ha, rfl, rfl⟩, ?_⟩
  have es : (valV xs kk).isSome = (valD kvs d1).isSome := by
    rcases FzK.val hk fk with ⟨e1, e2⟩ | ⟨v, e', e1, e2, _⟩
    · rw [e1, e2]
      rfl
    · rw [e1, e2]
      rfl
  rw [es]
  exact q Sh H _ (Res.fr sh (.bl _))
theorem pDIn_ok (k d : D) (o : O) (h : pDIn k d = some o) : ∃ kvs kk, d = .dic kvs ∧ keyOf k = some kk ∧ o = .fr (.bl (id (valD kvs k).isSome)) := by
  unfold pDIn at h
  split at h
  · rename_i kvs
    cases hk : keyOf k with
    | none => rw [hk] at h; cases h
    | some kk =>
      rw [hk] at h
      cases h
      exact ⟨kvs, kk, rfl, rfl, rfl⟩
  · cases h
theorem pDNotIn_ok (k d : D) (o : O) (h : pDNotIn k d = some o) : ∃ kvs kk, d = .dic kvs ∧ keyOf k = some kk ∧ o = .fr (.bl (!(valD kvs k).isSome)) := by
  unfold pDNotIn at h
  split at h
  · rename_i kvs
    cases hk : keyOf k with
    | none => rw [hk] at h; cases h
    | some kk =>
      rw [hk] at h
      cases h
      exact ⟨kvs, kk, rfl, rfl, rfl⟩
  · cases h
theorem ev_dget (hK : X.K = K) (hu : X.A.units + 1 < cLine) (ha : PE X a (Ev K Z W qa wa)) (hb : PE X b (Ev K Z W qb wb)) (hs : NoSl b := by intro _ _; rfl) : PE X (.Subscript a b pos) (Ev K Z W (qa && qb) (iOp qb pDGet wa wb)) := by
  subst hK
  exact (pe_dget hu ha hb hs).weak fun σ H Q h => op_ev (r := fun x y H2 Q => ∃ a v, x = .ref a ∧ DGet H2 a y (some v) ∧ Q v H2) (fun _ _ _ _ h => rd_dget h) h
theorem ev_din (hK : X.K = K) (hu : X.A.units + 1 < cLine) (ha : PE X a (Ev K Z W qa wa)) (hb : PE X b (Ev K Z W qb wb)) (hm : behindInMarks .In b = false) : PE X (.Compare a [.In] [b] pos) (Ev K Z W (qa && qb) (iOp qb pDIn wa wb)) := by
  subst hK
  exact (pe_cmp (pc_din hu ha hb) hm).weak fun σ H Q h => op_ev (r := fun y x H2 Q => ∃ a o, x = .ref a ∧ DGet H2 a y o ∧ Q (.bl o.isSome) H2) (fun _ _ _ _ h => rd_din (f := id) pDIn_ok h) h
theorem ev_dnotin (hK : X.K = K) (hu : X.A.units + 1 < cLine) (ha : PE X a (Ev K Z W qa wa)) (hb : PE X b (Ev K Z W qb wb)) (hm : behindInMarks .NotIn b = false) : PE X (.Compare a [.NotIn] [b] pos) (Ev K Z W (qa && qb) (iOp qb pDNotIn wa wb)) := by
  subst hK
  exact (pe_cmp (pc_dnotin hu ha hb) hm).weak fun σ H Q h => op_ev (r := fun y x H2 Q => ∃ a o, x = .ref a ∧ DGet H2 a y o ∧ Q (.bl (!o.isSome)) H2) (fun _ _ _ _ h => rd_din (f := not) pDNotIn_ok h) h
theorem et_tB {w : IE} {q : Bool} {σ : L2.St} {H : Hp} {Q : Bool → Hp → Prop} (h : EvT K Z W q (iTst w) σ H Q) : tB (Ev K Z W q w) σ H Q := by
  obtain ⟨Sh, ρ, Q0, E0, R, h, hq, hx⟩ := h
  refine ⟨Sh, ρ, _, E0, R, h, fun u ρ' S' H' v h1 p1 => ?_, hx⟩
  obtain ⟨k, e1, h1⟩ := ob_ex h1
  exact ⟨k, rd_bl p1.rl p1.ev e1, hq _ _ _ _ h1 p1.mid⟩
theorem et_din (hK : X.K = K) (hu : X.A.units + 1 < cLine) (ha : PE X a (Ev K Z W qa wa)) (hb : PE X b (Ev K Z W qb wb)) (hm : behindInMarks .In b = false) : PT X (.Compare a [.In] [b] pos) (EvT K Z W (qa && qb) (iTst (iOp qb pDIn wa wb))) := by
  subst hK
  exact (pt_cmp (pc_din hu ha hb) hm).weak fun σ H Q h => op_ev (r := fun y x H2 Q => ∃ a o, x = .ref a ∧ DGet H2 a y o ∧ Q (.bl o.isSome) H2) (fun _ _ _ _ h => rd_din (f := id) pDIn_ok h) (et_tB h)
theorem et_dnotin (hK : X.K = K) (hu : X.A.units + 1 < cLine) (ha : PE X a (Ev K Z W qa wa)) (hb : PE X b (Ev K Z W qb wb)) (hm : behindInMarks .NotIn b = false) : PT X (.Compare a [.NotIn] [b] pos) (EvT K Z W (qa && qb) (iTst (iOp qb pDNotIn wa wb))) := by
  subst hK
  exact (pt_cmp (pc_dnotin hu ha hb) hm).weak fun σ H Q h => op_ev (r := fun y x H2 Q => ∃ a o, x = .ref a ∧ DGet H2 a y o ∧ Q (.bl (!o.isSome)) H2) (fun _ _ _ _ h => rd_din (f := not) pDNotIn_ok h) (et_tB h)
end
/-! dict(l) -/
def prsD : List D → Option (List (D × D))
  | [] => some []
  | .tup [k, v] :: r => (keyOf k).bind fun _ => (prsD r).map fun l => (k, v) :: l
  | _ => none
def mrgD (kvs more : List (D × D)) : List (D × D) := more.foldl (fun acc p => putD acc p.1 p.2) kvs
def pDict : D → Option O
  | .lst ds => (prsD ds).map fun l => .dic (mrgD [] l)
  | _ => none
section
variable {X : Cx} {K : PySem.W.Frag} {Sh H : Hp}
theorem prsD_at : ∀ {ds : List D} {vs : List V} {l : List (D × D)}, FzL K Sh vs ds → prsD ds = some l → ∃ (ps : List Addr) (kvs : List (Key × V)), vs = ps.map V.ref ∧ Paired (fun p kv => SqT K Sh p [kV kv.1, kv.2]) ps kvs ∧ FzK K Sh kvs l
  | [], _, l, h, e => by
    cases h
    cases e
    exact ⟨[], [], rfl, .nil, .nil⟩
  | .tup [k, v] :: r, _, l, h, e => by
    cases h with
    | cons h1 h2 =>
      unfold prsD at e
      cases hk : keyOf k with
      | none => rw [hk] at e; cases e
      | some kk =>
        rw [hk] at e
        have e : (prsD r).map (fun l => (k, v) :: l) = some l := e
        cases hr : prsD r with
        | none => rw [hr] at e; cases e
        | some l' =>
          rw [hr] at e
          cases e
          obtain ⟨ps, kvs, rfl, i1, i2⟩ := prsD_at h2 hr
          cases h1 with
          | @tup a xs _ t f =>
            cases f with
            | cons f1 f =>
              cases f with
              | @cons v2 _ _ _ f2 f =>
                cases f
                have ek := key_at (H := Sh) hk (Fz.sv (Same.refl _) f1)
                subst ek
                refine ⟨a :: ps, (kk, v2) :: kvs, rfl, .cons t i1, ?_⟩
                rw [kD_of hk]
                exact .cons f2 i2
  | .non :: _, _, _, _, e => by simp [prsD] at e
  | .bl _ :: _, _, _, _, e => by simp [prsD] at e
  | .int _ :: _, _, _, _, e => by simp [prsD] at e
  | .str _ :: _, _, _, _, e => by simp [prsD] at e
  | .lst _ :: _, _, _, _, e => by simp [prsD] at e
  | .dic _ :: _, _, _, _, e => by simp [prsD] at e
  | .dit _ :: _, _, _, _, e => by simp [prsD] at e
  | .ins _ _ :: _, _, _, _, e => by simp [prsD] at e
  | .scr _ :: _, _, _, _, e => by simp [prsD] at e
  | .tup [] :: _, _, _, _, e => by simp [prsD] at e
  | .tup [_] :: _, _, _, _, e => by simp [prsD] at e
  | .tup (_ :: _ :: _ :: _) :: _, _, _, _, e => by simp [prsD] at e
theorem mrg_at : ∀ {more : List (Key × V)} {l : List (D × D)} {kvs : List (Key × V)} {ds : List (D × D)}, FzK K Sh kvs ds → FzK K Sh more l → FzK K Sh (mergeK kvs more) (mrgD ds l)
  | _, _, _, _, h, .nil => h
  | _, _, _, _, h, .cons (k := k) (v := v) (vs := more) (d := d) (ds := l) h1 h2 => by
    show FzK K Sh (mergeK (putK _ k v) more) (mrgD (putD _ (kD k) d) l)
    exact mrg_at (FzK.put (keyOf_kD k) h1 h) h2
theorem res_dic {kvs : List (Key × V)} {ds : List (D × D)} {p : Addr} (sh : Same Sh H) (h : FzK K Sh kvs ds) (hp : H p = none) : Res K Sh H (.dic ds) (.ref p) Sh (upd H p (.dK kvs)) := by
  have hs : Sh p = none := sh.free hp
  exact ⟨same_new hp, Same.refl _, mut_same sh hs, fun _ _ h => h, ⟨p, kvs, rfl, upd_same, hs, h⟩, fun a e => by cases (show V.ref p = V.ref a from e); exact hp⟩
theorem b_dict (hc : X.calm = true) : CallR X (.type "dict") (c1F X.K pDict) := by
  intro pins s σ H xs us Q I r hh
  obtain ⟨x, rfl, Sh, d, o, sh, s1, e, q⟩ := hh
  unfold pDict at e
  split at e
  · rename_i ds
    cases hl : prsD ds with
    | none => rw [hl] at e; cases e
    | some l =>
      rw [hl] at e
      cases e
      obtain ⟨a, xs, rfl, ha, f⟩ := s1
      obtain ⟨ps, kvs, rfl, p1, p2⟩ := prsD_at f hl
      refine call_dictP hc pins s σ H _ us Q I r ⟨a, ps, kvs, rfl, .inl (.inl ha), ?_, fun p hp => q _ _ _ (res_dic sh (mrg_at .nil p2) hp)⟩
      clear q f ha hl p2
      induction p1 with
      | nil => exact .nil
      | cons h1 _ ih => exact .cons (same_t sh h1) ih
  · cases e
end
end G48

set_option Elab.async false
set_option linter.all false
set_option maxRecDepth 100000
set_option maxHeartbeats 4000000
namespace G48
open PySem PySem.Spec PyProof.Rows L2 SX
/-! ### {k: v for ..} -/
def dcGo (vs : List Nat) (g : ITg) (tt : IT) (tk tv : IE) (Q : U → En → Prop) : List D → List (D × D) → En → Prop
  | [], acc, ρ => Q (.va (.dic acc)) ρ
  | d :: ds, acc, ρ => g d ρ fun ρ1 => tt ρ1 (fun k ρ2 => if k = true then tk ρ2 (fun u ρ3 => fzU ρ3 u fun y ρ4 => tv ρ4 (fun u' ρ5 => fzU ρ5 u' fun z ρ6 => (keyOf y).isSome = true ∧ acc.length < LIM ∧ dcGo vs g tt tk tv Q ds (putD acc y z) (wipeI ρ6 vs)) NoX) NoX else dcGo vs g tt tk tv Q ds acc (wipeI ρ2 vs)) NoX
def iDc (vs : List Nat) (src : IA) (g : ITg) (tt : IT) (tk tv : IE) : IE := fun ρ Q E => src ρ (fun ds ρ1 => dcGo vs g tt tk tv Q ds [] (wipeI ρ1 vs)) E
theorem dc_it {J : It} {n : Nat} {G : Hp → Prop} {Y : Nat → Hp → V → Hp → Prop} (wk : Walk J n G Y) {g : TG} {tt : TT} {tk te : TE} {vs : List Nat} {σ : L2.St} {H1 : Hp} {Dd : Addr} {Qd : Hp → Prop} (Pv : Nat → Hp → Prop) (h0 : Pv 0 (upd H1 Dd (.dK []))) (hG : ∀ i H, i ≤ n → Pv i H → G H)
    (hs : ∀ i x H H', i < n → Pv i H → Y i H x H' → g x (wipe σ vs) H' fun σ2 H2 => wipe σ2 vs = wipe σ vs ∧ tt σ2 H2 fun b H3 => if b = true then tk σ2 H3 fun y H4 => te σ2 H4 fun z H5 => ∃ kvs k, y = kV k ∧ H5 Dd = some (.dK kvs) ∧ kvs.length < sizeLine ∧ Pv (i + 1) (upd H5 Dd (.dK (putK kvs k z))) else Pv (i + 1) H3)
    (hd : ∀ H, Pv n H → Qd H) : ∃ Wx : Nat → Nat → Hp → Prop, (∃ m, Wx 0 m (upd H1 Dd (.dK []))) ∧ ∀ i m H, Wx i m H → (J.stop i H ∧ Qd H) ∨ (J.go i H ∧ ∃ Nx : Hp → Prop, (∀ H', Nx H' → ∃ m', m' < m ∧ Wx (i + 1) m' H') ∧ ∀ x H', J.yld i H x H' → g x (wipe σ vs) H' fun σ2 H2 => wipe σ2 vs = wipe σ vs ∧ tt σ2 H2 fun b H3 =>
      if b = true then tk σ2 H3 fun y H4 => te σ2 H4 fun z H5 => ∃ kvs k, y = kV k ∧ H5 Dd = some (.dK kvs) ∧ kvs.length < sizeLine ∧ Nx (upd H5 Dd (.dK (putK kvs k z))) else Nx H3) := by
  exists fun i m H => m = n - i ∧ i ≤ n ∧ Pv i H
  refine ⟨⟨n, by omega, by omega, h0⟩, fun i m H hw => ?_⟩
  obtain ⟨rfl, hi, pv⟩ := hw
  have gg := hG i H hi pv
  rcases Nat.lt_or_ge i n with hlt | hge
  · exact .inr ⟨wk.goes i H hlt gg, Pv (i + 1), fun H' pv' => ⟨n - (i + 1), by omega, rfl, hlt, pv'⟩, fun x H' y => hs i x H H' hlt pv (wk.yields i H x H' hlt gg y)⟩
  · obtain rfl : i = n := by omega
    exact .inl ⟨wk.stops H gg, hd H pv⟩
section
variable {X : Cx} {K : PySem.W.Frag} {Z : Zt} {W : WX} {q qt qk qe : Bool} {vs : List Nat} {src : IA} {g : ITg} {tt : IT} {tk te : IE}
theorem dc_ev {σ : L2.St} {H : Hp} {Q : VK} (h : Ev K Z W (q && qt && (qk && qe)) (iDc vs src g tt tk te) σ H Q) : tDc (EvI K Z W q src) (EvG K Z vs g) (EvT K Z W0 qt tt) (Ev K Z W0 qk tk) (Ev K Z W0 qe te) vs σ H Q := by
  obtain ⟨Sh, ρ, Q0, E0, R, h, hq, hx⟩ := h
  refine ⟨Sh, ρ, _, E0, R, h, fun ds ρ1 S1 H1 J h1 m1 wk => ?_, hx⟩
  intro Dd hD
  obtain ⟨G, Y, wk, hG, hY⟩ := wk
  have sD : S1 Dd = none := m1.rl.sh.free hD
  have wo : ∀ j, j ∉ vs → (wipe σ vs)[j]? = σ[j]? := fun j hj => wipe_out σ vs j hj
  have nD : ¬ FpE H1 σ ρ1 Dd := fun z => (m1.rl.tr z).2 hD
  obtain ⟨R1, n1⟩ := m1.rl.wipeI (σ' := σ) (vs := vs) rfl (fun _ _ => rfl)
  -- what is known between two turns
  refine dc_it wk (fun i H' => ∃ S' ρ' acc xs, Rl K Z S' H' σ (wipeI ρ' vs) ∧ Gx Z S1 H1 (FpE H1 σ ρ1) S' H' (fun a => FpE H' σ (wipeI ρ' vs) a ∨ a = Dd) ∧ ((qt && (qk && qe)) = true → Same H1 H') ∧ H' Dd = some (.dK xs) ∧ S' Dd = none ∧ ¬ FpE H' σ (wipeI ρ' vs) Dd ∧ FzK K S' xs acc ∧ dcGo vs g tt tk te Q0 (ds.drop i) acc (wipeI ρ' vs))
    ?_ (fun i H' _ ⟨S', ρ', acc, xs, r, gx, _⟩ => hG S' H' gx.ss r.sh) (fun i x H2 H2' hlt ⟨S2, ρ2, acc, xs, R2, g2, s2, hD2, sD2, nD2, f2, h2⟩ hy => ?_) (fun H' ⟨S', ρ', acc, xs, R', g', s', hD', sD', nD', f', h'⟩ => ?_)
  · have ke : ∀ b, FpE H1 σ (wipeI ρ1 vs) b → upd H1 Dd (.dK []) b = H1 b := fun b hb => upd_ne (fun e => nD (by rw [← e]; exact n1 b hb))
    have fe := R1.fpe (H' := upd H1 Dd (.dK [])) ke
    refine ⟨S1, ρ1, [], [], R1.keep (Same.refl _) (mut_same m1.rl.sh sD) (fun b hb => ⟨ke b hb, (R1.tr hb).1⟩) (R1.zk.same (same_new hD) (fun _ _ h => h)), ⟨Same.refl _, fun a u e _ _ => same_new hD a u e, fun a s _ _ => s, fun a ha => ?_, fun a ha => ?_⟩, fun _ => same_new hD, upd_same, sD, fun z => nD (n1 _ ((fe _).mp z)), .nil, h1⟩
    · rcases ha with ha | ha
      · exact .inl (n1 a ((fe a).mp ha))
      · rw [ha]
        exact .inr hD
    · rw [upd_ne (ne_nn ha hD)]
      exact ha
  · have hd : ds[i]? = some ds[i] := List.getElem?_eq_getElem hlt
    rw [List.drop_eq_getElem_cons hlt] at h2
    obtain ⟨S3, r⟩ := hY i S2 H2 x H2' ds[i] g2.ss R2.sh hd hy
    obtain ⟨r1, r2, r3, r4⟩ := R2.res r
    -- over the wiped slots
    have ρe : wipeI (wipeI ρ2 vs) vs = wipeI ρ2 vs := by
      refine List.ext_getElem? fun j => ?_
      by_cases hj : j < ρ2.length
      · cases e : (wipeI (wipeI ρ2 vs) vs)[j]? with
        | none =>
          rw [List.getElem?_eq_none_iff] at e
          rw [wipeI_len, wipeI_len] at e
          omega
        | some oo =>
          cases oo with
          | some o => exact (wipeI_some e).1.symm
          | none =>
            cases e2 : (wipeI ρ2 vs)[j]? with
            | none =>
              rw [List.getElem?_eq_none_iff, wipeI_len] at e2
              omega
            | some oo =>
              cases oo with
              | none => rfl
              | some o =>
                have z := (wipeI_some e2).2
                have : ∀ (vs : List Nat) (ρ : En), j ∉ vs → (wipeI ρ vs)[j]? = ρ[j]? := by
                  intro vs
                  induction vs with
                  | nil => intro ρ _; rfl
                  | cons v vs ih =>
                    intro ρ hn
                    have h1 : v ≠ j := fun e => hn (by rw [e]; exact List.mem_cons_self)
                    unfold wipeI
                    rw [List.getElem?_set_ne h1]
                    exact ih ρ (fun z => hn (List.mem_cons_of_mem _ z))
                rw [this vs _ z, e2] at e
                cases e
      · rw [List.getElem?_eq_none (by rw [wipeI_len, wipeI_len]; omega), List.getElem?_eq_none (by rw [wipeI_len]; omega)]
    have rw1 : Rl K Z S3 H2' (wipe σ vs) (wipeI ρ2 vs) ∧ ∀ b, FpE H2' (wipe σ vs) (wipeI ρ2 vs) b → FpE H2' σ (wipeI ρ2 vs) b := by
      have z := r1.wipeI (σ' := wipe σ vs) (vs := vs) (wipe_length σ vs) wo
      rw [ρe] at z
      exact z
    have hD3 : H2' Dd = some (.dK xs) := r.hs _ _ hD2
    have sD3 : S3 Dd = none := r.nw _ (some_ne hD2) sD2
    have nD3 : ¬ FpE H2' σ (wipeI ρ2 vs) Dd := fun z => nD2 ((r2 Dd).mp z)
    have g3 : Gx Z S1 H1 (FpE H1 σ ρ1) S3 H2' (fun a => FpE H2' σ (wipeI ρ2 vs) a ∨ a = Dd) := g2.trans ((r3.weak (fun _ h => h) (fun _ h => .inl h)).aside (fun a => a = Dd))
    refine ⟨S3, wipeI ρ2 vs, ds[i], _, rw1.1, r.at_, h2, fun ρ4 σ4 h4 R4 n4 p4 l4 => ⟨?_, ?_⟩⟩
    · have e1 : wipe σ4 vs = wipe (wipe σ vs) vs := wipe_eq l4 p4
      have e2 : wipe (wipe σ vs) vs = wipe σ vs := wipe_eq (wipe_length σ vs) wo
      rw [e1, e2]
    · have l4' : σ.length = σ4.length := by rw [l4, wipe_length]
      have p4' : ∀ j, j ∉ vs → σ[j]? = σ4[j]? := fun j hj => ((p4 j hj).trans (wo j hj)).symm
      have g4 : Gx Z S1 H1 (FpE H1 σ ρ1) S3 H2' (fun a => FpE H2' σ4 ρ4 a ∨ a = Dd) := g3.weak (fun _ h => h) (fun a ha => ha.imp (fun z => rw1.2 a (n4 a z)) id)
      have nD4 : ¬ FpE H2' σ4 ρ4 Dd := fun z => nD3 (rw1.2 _ (n4 _ z))
      -- behind a piece of the turn: the list is as it was
      have stay : ∀ {q' : Bool} {S5 H5 : Hp} {ρ5 : En}, Mid K Z q' S3 H2' σ4 ρ4 ρ5 S5 H5 → H5 Dd = some (.dK xs) ∧ S5 Dd = none ∧ ¬ FpE H5 σ4 ρ5 Dd ∧ Gx Z S1 H1 (FpE H1 σ ρ1) S5 H5 (fun a => FpE H5 σ4 ρ5 a ∨ a = Dd) := fun {q' S5 H5 ρ5} m => by
        refine ⟨m.gx.kp _ _ hD3 nD4 (fun ⟨qq, z⟩ => ?_), m.gx.nw _ sD3 (some_ne hD3) nD4, fun z => ?_, g4.trans (m.gx.aside (fun a => a = Dd))⟩
        · obtain ⟨_, ps, hp, _⟩ := R4.zk Dd qq z
          rw [hD3] at hp
          cases hp
        · rcases m.gx.ft _ z with y | y
          · exact nD4 y
          · rw [hD3] at y
            cases y
      -- the turn's end
      have fin : ∀ {S5 H5 : Hp} {ρ5 : En} {acc5 : List (D × D)} {xs5 : List (Key × V)}, Rl K Z S5 H5 σ4 ρ5 → Gx Z S1 H1 (FpE H1 σ ρ1) S5 H5 (fun a => FpE H5 σ4 ρ5 a ∨ a = Dd) → ((qt && (qk && qe)) = true → Same H1 H5) → H5 Dd = some (.dK xs5) → S5 Dd = none → ¬ FpE H5 σ4 ρ5 Dd → FzK K S5 xs5 acc5 → dcGo vs g tt tk te Q0 (ds.drop (i + 1)) acc5 (wipeI ρ5 vs) →
          ∃ S' ρ' acc xs, Rl K Z S' H5 σ (wipeI ρ' vs) ∧ Gx Z S1 H1 (FpE H1 σ ρ1) S' H5 (fun a => FpE H5 σ (wipeI ρ' vs) a ∨ a = Dd) ∧ ((qt && (qk && qe)) = true → Same H1 H5) ∧ H5 Dd = some (.dK xs) ∧ S' Dd = none ∧ ¬ FpE H5 σ (wipeI ρ' vs) Dd ∧ FzK K S' xs acc ∧ dcGo vs g tt tk te Q0 (ds.drop (i + 1)) acc (wipeI ρ' vs) := fun {S5 H5 ρ5 acc5 xs5} R5 g5 s5 hD5 sD5 nD5 f5 h5 => by
        obtain ⟨R6, n6⟩ := R5.wipeI (σ' := σ) (vs := vs) l4' p4'
        exact ⟨S5, ρ5, acc5, xs5, R6, g5.weak (fun _ h => h) (fun a ha => ha.imp (n6 a) id), s5, hD5, sD5, fun z => nD5 (n6 _ z), f5, h5⟩
      have s4 : (qt && (qk && qe)) = true → Same H1 H2' := fun e => (s2 e).trans r.hs
      refine ⟨S3, ρ4, _, NoX, R4, h4, fun k ρ5 S5 H5 h5 m5 => ?_, fun x ρ' S' H' cls d e _ => False.elim e⟩
      obtain ⟨d5, t5, n5, g5⟩ := stay m5
      cases k with
      | false =>
        rw [if_neg (by simp)] at h5 ⊢
        exact fin m5.rl g5 (fun e => (s4 e).trans (m5.md (Bool.and_eq_true_iff.mp e).1)) d5 t5 n5 (FzK.mono (r.ss.trans m5.gx.ss) _ _ f2) h5
      | true =>
        rw [if_pos rfl] at h5 ⊢
        refine ⟨S5, ρ5, _, NoX, m5.rl, h5, fun u ρ6 S6 H6 v6 h6 p6 => ?_, fun x ρ' S' H' cls d e _ => False.elim e⟩
        obtain ⟨yk, ρk, Sk, hk7, mk, fk⟩ := p6.fz h6
        refine ⟨Sk, ρk, _, NoX, mk.rl, hk7, fun u ρ6 S6 H7 v7 h6 p7 => ?_, fun x ρ' S' H' cls d e _ => False.elim e⟩
        obtain ⟨y, ρ7, S7, ⟨hkey, hlim, h7⟩, m7', f7⟩ := p7.fz h6
        have m7 := mk.trans m7'
        have m57 := m5.trans m7
        obtain ⟨d7, t7, n7, g7⟩ := stay m57
        have hlen : xs.length = acc.length := f2.len
        cases hky : keyOf yk with
        | none => rw [hky] at hkey; cases hkey
        | some kk =>
        have ek := key_at (H := H7) hky (Fz.sv m7'.rl.sh (Fz.mono m7'.gx.ss _ _ fk))
        refine ⟨xs, kk, ek, d7, by rw [hlen]; exact szl _ (Nat.le_of_lt hlim), ?_⟩
        have ke : ∀ b, FpE H7 σ4 ρ7 b → upd H7 Dd (.dK (putK xs kk v7)) b = H7 b := fun b hb => upd_ne (fun e => n7 (by rw [← e]; exact hb))
        have fe := m7.rl.fpe (H' := upd H7 Dd (.dK (putK xs kk v7))) ke
        have zz : Zok Z S7 (upd H7 Dd (.dK (putK xs kk v7))) := fun P qq e => by
          obtain ⟨z1, z2⟩ := m7.rl.zk P qq e
          refine ⟨z1, TabS_ext z2 (fun b o hb ho => ?_)⟩
          rw [upd_ne]
          · exact ho
          · intro eb
            rw [eb] at hb
            rcases hb with hb | hb
            · rw [hb] at d7
              obtain ⟨ps, hp, _⟩ := z2
              rw [d7] at hp
              cases hp
            · rw [d7] at hb
              cases hb
        refine fin (m7.rl.keep (Same.refl _) (mut_same m7.rl.sh t7) (fun b hb => ⟨ke b hb, (m7.rl.tr hb).1⟩) zz) ⟨g7.ss, fun a u e nf nz => ?_, g7.nw, fun a ha => ?_, fun a ha => ?_⟩ (fun e a u hu => ?_) upd_same t7 (fun z => n7 ((fe _).mp z)) (FzK.put hky f7 (FzK.mono ((r.ss.trans m5.gx.ss).trans m7.gx.ss) _ _ f2)) h7
        · rw [upd_ne (ne_of_none e hD)]
          exact g7.kp a u e nf nz
        · exact g7.ft a (ha.imp (fun z => (fe a).mp z) id)
        · rw [upd_ne (ne_nn ha hD)]
          exact g7.tr a ha
        · rw [upd_ne (ne_of_none hu hD)]
          exact (((s4 e).trans (m5.md (Bool.and_eq_true_iff.mp e).1)).trans (m7.md (Bool.and_eq_true_iff.mp e).2)) a u hu
  · rw [List.drop_length] at h'
    refine hq _ _ _ _ _ h' ⟨R', m1.gx.trans g' |>.weak (fun _ h => h) (fun a ha => ha.imp id (fun (z : V.ref Dd = V.ref a) => by cases z; rfl)), ⟨⟨Dd, xs, rfl, hD', sD', f'⟩, fun b (z : V.ref Dd = V.ref b) => by cases z; exact nD'⟩, fun e => ?_⟩
    simp only [Bool.and_eq_true] at e
    exact (m1.md e.1.1).trans (s' (by rw [e.1.2, e.2.1, e.2.2]; rfl))
theorem ev_dc {kx elt tg iter : Expr} {ifs : List Expr} {scope : Scope} {own : List (Str × Nat)} {pos : Pos} (hvs : own.map (·.2) = vs) (hc : X.calm = true) (hN : X.N.Nodup) (hi : PI X tg iter (EvI K Z W q src)) (ok : BlkOk X.N X.env.scope scope own)
    (hg : ∀ (s : Shared) (H : Hp) (C : Addr) (cl : List (Str × Addr)) (fp : List Addr), PG (X.blk s H scope (compEnvC scope cl C X.env) fp) tg (EvG K Z vs g)) (ht : ∀ (s : Shared) (H : Hp) (C : Addr) (cl : List (Str × Addr)) (fp : List Addr), PTs (X.blk s H scope (compEnvC scope cl C X.env) fp) ifs (EvT K Z W0 qt tt))
    (hk : ∀ (s : Shared) (H : Hp) (C : Addr) (cl : List (Str × Addr)) (fp : List Addr), PE (X.blk s H scope (compEnvC scope cl C X.env) fp) kx (Ev K Z W0 qk tk)) (he : ∀ (s : Shared) (H : Hp) (C : Addr) (cl : List (Str × Addr)) (fp : List Addr), PE (X.blk s H scope (compEnvC scope cl C X.env) fp) elt (Ev K Z W0 qe te)) (hs : ∀ x, foldedSetIterable iter X.env x = pure x := by intro _; rfl) :
    PE X (.DictComp kx elt [⟨tg, iter, ifs, 0⟩] scope pos) (Ev K Z W (q && qt && (qk && qe)) (iDc vs src g tt tk te)) := by
  subst hvs
  exact (pe_dc hc hN hi ok hg ht hk he hs).weak fun σ H Q h => dc_ev h
end
/-! ### d.get(k, x): all is frozen -/
def dg2 : D → D → D → Option D
  | .dic kvs, k, x => (keyOf k).map fun _ => (valD kvs k).getD x
  | _, _, _ => none
def isDic : D → Bool
  | .dic _ => true
  | _ => false
def iDG2 (wo wk wx : IE) : IE := fun ρ Q E => wo ρ (fun u ρ1 => fzU ρ1 u fun d ρ2 => isDic d = true ∧ wk ρ2 (fun u2 ρ3 => fzU ρ3 u2 fun k ρ4 => wx ρ4 (fun u3 ρ5 => fzU ρ5 u3 fun x ρ6 => ob (dg2 d k x) fun r => Q (.va (.fr r)) ρ6) E) E) E
section
variable {X : Cx} {K : PySem.W.Frag} {Z : Zt} {W : WX} {qo qk qx : Bool} {wo wk wx : IE} {o e f : Expr} {apos cpos : Pos}
theorem ev_dg2 (hK : X.K = K) (hu : X.A.units + 1 < cLine) (ho : PE X o (Ev K Z W qo wo)) (he : PE X e (Ev K Z W qk wk)) (hf : PE X f (Ev K Z W qx wx)) (m : M2 X o "get" apos e f cpos) : PE X (.Call (.Attribute o "get" apos) [e, f] [] cpos) (Ev K Z W (qo && qk && qx) (iDG2 wo wk wx)) := by
  refine (pe_dget2 hu ho he hf m).weak fun σ H Q ⟨Sh, ρ, Q0, E0, R, h, hq, hx⟩ => ?_
  refine ⟨Sh, ρ, _, E0, R, h, fun u ρ1 S1 H1 v h1 p1 => ?_, hx⟩
  obtain ⟨d, ρ2, S2, ⟨hd, h2⟩, m2, f2⟩ := p1.fz h1
  have hd2 : ∃ kvs, d = .dic kvs := by
    cases d with
    | dic kvs => exact ⟨kvs, rfl⟩
    | _ => cases hd
  obtain ⟨kvs, rfl⟩ := hd2
  cases f2 with
  | @dic a xs _ e1 fk =>
    refine ⟨a, rfl, .inl ⟨xs, rd_mono m2.rl.sh e1⟩, S2, ρ2, _, E0, m2.rl, h2, fun u2 ρ3 S3 H3 v3 h3 p3 => ?_, fun x ρ' S' H' cls d e p => hx x ρ' S' H' cls d e (m2.px p)⟩
    obtain ⟨k, ρ4, S4, h4, m4, f4⟩ := p3.fz h3
    refine ⟨S4, ρ4, _, E0, m4.rl, h4, fun u3 ρ5 S5 H5 v5 h5 p5 => ?_, fun x ρ' S' H' cls d e p => hx x ρ' S' H' cls d e ((m2.trans m4).px p)⟩
    obtain ⟨x, ρ6, S6, h6, m6, f6⟩ := p5.fz h5
    obtain ⟨r, hr, h6⟩ := ob_ex h6
    have s46 := m4.gx.ss.trans m6.gx.ss
    have e6 : Rd H5 a (.dK xs) := rd_mono m6.rl.sh (rd_mono s46 e1)
    have fk6 := FzK.mono s46 _ _ fk
    have fin : ∀ z, Fz K S6 z r → Q z H5 := fun z fz => hq _ _ _ _ _ h6 (((m2.trans m4).trans m6).fin (Res.fr m6.rl.sh fz))
    have hr : (keyOf k).map (fun _ => (valD kvs k).getD x) = some r := hr
    cases hk : keyOf k with
    | none => rw [hk] at hr; cases hr
    | some kk =>
      rw [hk] at hr
      have ek := key_at (H := H5) hk (Fz.sv m6.rl.sh (Fz.mono m6.gx.ss _ _ f4))
      subst ek
      refine ⟨valV xs kk, .inl ⟨_, _, e6, rfl, rfl⟩, fin _ ?_⟩
      have hr : (valD kvs k).getD x = r := Option.some.inj hr
      rcases FzK.val hk fk6 with ⟨e2, e3⟩ | ⟨v, e', e2, e3, fz⟩
      · rw [e3] at hr
        rw [e2]
        cases hr
        exact f6
      · rw [e3] at hr
        rw [e2]
        cases hr
        exact fz
end
end G48

set_option Elab.async false
set_option linter.all false
set_option maxRecDepth 100000
set_option maxHeartbeats 4000000
namespace G48
open PySem PySem.Spec PyProof.Rows L2 SX
theorem u1 {k : Nat} {A : Around} (r : Room k A) : A.units + 1 < cLine := by have := r.un; omega
/-! ### zip of a list and a tuple, either way -/
def SqB (k : Bool) (K : PySem.W.Frag) (H : Hp) (a : Addr) (xs : List V) : Prop := if k = true then SqL K H a xs else SqT K H a xs
def ItB (k : Bool) (h : Heap) (it l : Addr) (i : Nat) : Prop := if k = true then h.IsListIter it l i else h.IsTupleIter it l i
def HsB (k : Bool) (h : Heap) (l : Addr) (xs : Array Value) : Prop := if k = true then h.IsList l xs else h.IsTuple l xs
def nmB (k : Bool) : String := if k = true then "list_iterator" else "tuple_iterator"
theorem ItB.keep {k : Bool} {h h' : Heap} {it l : Addr} {i : Nat} (x : ItB k h it l i) (e : ∀ o, h.get? it = some o → h'.get? it = some o) : ItB k h' it l i := by
  cases k with
  | true => exact Heap.IsListIter.at (show h.IsListIter it l i from x) e
  | false => exact Heap.IsTupleIter.at (show h.IsTupleIter it l i from x) e
theorem ItB.ob {k : Bool} {h : Heap} {it l : Addr} {i : Nat} (x : ItB k h it l i) : ∃ o, h.get? it = some o ∧ ∀ v, o.data ≠ .cell v := by
  cases k with
  | true =>
    obtain ⟨o, e1, _, e2⟩ := (show h.IsListIter it l i from x)
    exact ⟨o, e1, fun v q => by rw [e2] at q; cases q⟩
  | false =>
    obtain ⟨o, e1, _, e2⟩ := (show h.IsTupleIter it l i from x)
    exact ⟨o, e1, fun v q => by rw [e2] at q; cases q⟩
theorem drawB {prog : Program} {w : World} {A : Around} (hh : A.handled = none) (k : Bool) (it l : Addr) (ne : l ≠ it) (its : Array Value) :
    Draws prog w A it [it, l] its.size (fun i v => its[i]? = some v) (fun i h => ItB k h it l i ∧ HsB k h l its) := by
  cases k with
  | true => exact Draws.list hh it l ne its
  | false => exact Draws.tuple hh it l ne its
theorem invB {X : Cx} {pins : List (Addr × Obj)} {σ : L2.St} {H : Hp} {s : Shared} (I : Inv X pins σ H s) {k : Bool} {a : Addr} {xs : List V} (h : SqB k X.K H a xs) : ∃ its : List Value, Vals xs its ∧ HsB k s.heap a its.toArray ∧ a < s.heap.objs.size := by
  cases k with
  | true =>
    obtain ⟨its, rv, p, _⟩ := I.list (show SqL X.K H a xs from h)
    exact ⟨its, rv, p.isList, p.lt⟩
  | false =>
    obtain ⟨its, rv, p, _⟩ := I.tuple (show SqT X.K H a xs from h)
    obtain ⟨o, ho, _⟩ := id p
    exact ⟨its, rv, p, Heap.lt_size ho⟩
theorem injB {X : Cx} {pins : List (Addr × Obj)} {σ : L2.St} {H : Hp} {s : Shared} (I : Inv X pins σ H s) {k : Bool} {a : Addr} {xs ys : List V} (h : SqB k X.K H a xs) (h2 : SqB k X.K H a ys) : xs = ys := by
  cases k with
  | true => exact I.list_inj h h2
  | false => exact I.tuple_inj h h2
theorem vals_back : ∀ {xs : List V} {us : List Value} {i : Nat} {u : Value}, Vals xs us → us[i]? = some u → ∃ x, xs[i]? = some x ∧ RelV x u
  | _, _, i, u, .nil, h => by simp at h
  | _, _, 0, u, .cons (a := x) r rr, h => by
    cases h
    exact ⟨x, rfl, r⟩
  | _, _, i + 1, u, .cons r rr, h => vals_back (i := i) rr h
def ItzB (k1 k2 : Bool) (K : PySem.W.Frag) (a b : Addr) : It :=
  ⟨fun i H => ∃ (xs ys : List V), SqB k1 K H a xs ∧ SqB k2 K H b ys ∧ i < xs.length ∧ i < ys.length,
    fun i H v H' => ∃ T x y, v = .ref T ∧ H T = none ∧ H' = upd H T (.tup [x, y]) ∧ (∀ xs, SqB k1 K H a xs → xs[i]? = some x) ∧ ∀ ys, SqB k2 K H b ys → ys[i]? = some y,
    fun i H => ∃ xs ys : List V, SqB k1 K H a xs ∧ SqB k2 K H b ys ∧ i ≤ xs.length ∧ i ≤ ys.length ∧ (i = xs.length ∨ i = ys.length)⟩
theorem in5 {c z ti to i1 i2 : Addr} (h : c ∈ [z, ti, to, i1, i2]) : c = z ∨ c = ti ∨ c = to ∨ c = i1 ∨ c = i2 := by simpa using h
theorem apart_sep {z ti to i1 i2 a b : Addr} (D : ZipApart z ti to i1 i2 a b) : ZipSep2 z ti to i1 i2 [i1, a] [i2, b] where
  TIz := D.TIz
  TOz := D.TOz
  TITO := D.TITO
  TIi1 := D.TIi1
  mem1 := by simp
  zf1 := by simp [Ne.symm D.i1z, Ne.symm D.l1z]
  Tf1 := by simp [D.TOi1, Ne.symm D.l1TO]
  TIi2 := D.TIi2
  mem2 := by simp
  zf2 := by simp [Ne.symm D.i2z, Ne.symm D.l2z]
  Tf2 := by simp [D.TOi2, Ne.symm D.l2TO]
  sep1_2 := by simp [D.i12, Ne.symm D.l2i1]
  sep2_1 := by simp [Ne.symm D.i12, Ne.symm D.l1i2]
theorem turn_zipB {P : Program} {w : World} {K : PySem.W.Frag} {elts : List Expr} {kk : Nat} {tp : Pos} {k1 k2 : Bool} {a b z ti to i1 i2 : Addr} (D : ZipApart z ti to i1 i2 a b) :
    Turn P w K (.Tuple elts kk tp) (ItzB k1 k2 K a b) [z, ti, to, i1, i2] z (fun i h => IsZip h z ti to .none ∧ IsPair h ti (.ref i1) (.ref i2) ∧ (∃ x y, IsPair h to x y) ∧ ItB k1 h i1 a i ∧ ItB k2 h i2 b i) where
  mem := List.mem_cons_self
  obj := fun i h st c hc => by
    obtain ⟨hz, hti, ⟨x, y, hto⟩, j1, j2⟩ := st
    rcases in5 hc with rfl | rfl | rfl | rfl | rfl
    · exact ⟨_, hz, fun v q => nomatch q⟩
    · exact ⟨_, hti, fun v q => nomatch q⟩
    · exact ⟨_, hto, fun v q => nomatch q⟩
    · exact j1.ob
    · exact j2.ob
  keep := fun i h h' st kp => by
    obtain ⟨hz, hti, ⟨x, y, hto⟩, j1, j2⟩ := st
    exact ⟨kp z (by simp) _ hz, kp ti (by simp) _ hti, ⟨x, y, kp to (by simp) _ hto⟩, j1.keep fun o q => kp i1 (by simp) o q, j2.keep fun o q => kp i2 (by simp) o q⟩
  item := by
    intro X hP hw hK hc i pins s σ H E I hf st hg
    subst hP hw hK
    obtain ⟨hz, hti, ⟨x0, y0, hto⟩, j1, j2⟩ := st
    obtain ⟨xs, ys, q1, q2, l1, l2⟩ := hg
    obtain ⟨its, rv, p1, _⟩ := invB I q1
    obtain ⟨its2, rv2, p2, _⟩ := invB I q2
    have n1 := rv.length
    have n2 := rv2.length
    have zl : z < s.heap.objs.size := Heap.lt_size hz
    have hd : X.A.in1.handled = none := I.ok.hd hc
    refine wpAny_pyNext_zipD2_item (apart_sep D) (drawB hd k1 i1 a D.l1i1 its.toArray) (drawB hd k2 i2 b D.l2i2 its2.toArray) hz hti hto ⟨j1, p1⟩ ⟨j2, p2⟩ (by simp; omega) (by simp; omega) fun u u2 h' tk hu hu2 z' to' st1 st2 hT hsz hk => ?_
    refine ⟨_, rfl, wpAny_letOwnedTupleGo_zip (s := { s with heap := h', toks := tk }) z' fun h2 z2 sb => ?_⟩
    obtain ⟨x, hx, ru⟩ := vals_back rv (by simpa using hu)
    obtain ⟨y, hy, ru2⟩ := vals_back rv2 (by simpa using hu2)
    have hT2 : h2.get? s.heap.objs.size = some { cls := .type "tuple", data := .seq #[u, u2] } := (sb.2 _ (Nat.ne_of_gt zl)).trans hT
    have new : ObjOk X.prog X.w (upd H s.heap.objs.size (.tup [x, y])) h2 s.heap.objs.size (.tup [x, y]) :=
      ⟨Nat.le_of_ble_eq_true rfl, [u, u2], .cons ru (.cons ru2 .nil), ⟨_, hT2, rfl, _, rfl⟩⟩
    have nb : ∀ {c : Addr}, c ∉ [z, ti, to, i1, i2] → c ≠ z ∧ c ≠ to ∧ c ≠ i1 ∧ c ≠ i2 := fun hb => ⟨fun q => hb (by simp [q]), fun q => hb (by simp [q]), fun q => hb (by simp [q]), fun q => hb (by simp [q])⟩
    have I1 : Inv X pins σ (upd H s.heap.objs.size (.tup [x, y])) { s with heap := h2, toks := tk } :=
      I.turnedNew (t' := tk) (ch := [z, ti, to, i1, i2]) (fun c o hb q => (sb.2 c (nb hb).1).trans (hk c o (nb hb).1 (nb hb).2.1 (nb hb).2.2.1 (nb hb).2.2.2 q)) hf (Nat.le_refl _) new
    refine ⟨.ref s.heap.objs.size, _, I1, rfl, ⟨_, x, y, rfl, I.hok.fresh (Nat.le_refl _), rfl, fun l hl => by rw [injB I hl q1]; exact hx, fun l hl => by rw [injB I hl q2]; exact hy⟩, ⟨z2, ?_, ⟨u, u2, ?_⟩, ?_, ?_⟩, fun c hcm => ?_⟩
    · exact (sb.2 _ D.TIz).trans (hk _ _ D.TIz D.TITO D.TIi1 D.TIi2 hti)
    · exact (sb.2 _ D.TOz).trans to'
    · exact st1.1.keep fun o q => (sb.2 _ D.i1z).trans q
    · exact st2.1.keep fun o q => (sb.2 _ D.i2z).trans q
    · have hlt : c < s.heap.objs.size := by
        rcases in5 hcm with rfl | rfl | rfl | rfl | rfl
        · exact zl
        · exact Heap.lt_size hti
        · exact Heap.lt_size hto
        · obtain ⟨_, e1, _⟩ := j1.ob; exact Heap.lt_size e1
        · obtain ⟨_, e1, _⟩ := j2.ob; exact Heap.lt_size e1
      rw [upd_ne (Nat.ne_of_lt hlt)]
      exact (hf c hcm).1
  done := by
    intro X hP hw hK hc i pins s σ H E I hf st hg
    subst hP hw hK
    obtain ⟨hz, hti, ⟨x0, y0, hto⟩, j1, j2⟩ := st
    obtain ⟨xs, ys, q1, q2, l1, l2, l3⟩ := hg
    obtain ⟨its, rv, p1, _⟩ := invB I q1
    obtain ⟨its2, rv2, p2, _⟩ := invB I q2
    have n1 := rv.length
    have n2 := rv2.length
    have hd : X.A.in1.handled = none := I.ok.hd hc
    have nb : ∀ {c : Addr}, c ∉ [z, ti, to, i1, i2] → c ≠ z ∧ c ≠ to ∧ c ≠ i1 ∧ c ≠ i2 := fun hb => ⟨fun q => hb (by simp [q]), fun q => hb (by simp [q]), fun q => hb (by simp [q]), fun q => hb (by simp [q])⟩
    refine wpAny_pyNext_zipD2_end (apart_sep D) (drawB hd k1 i1 a D.l1i1 its.toArray) (drawB hd k2 i2 b D.l2i2 its2.toArray) hz hti hto ⟨j1, p1⟩ ⟨j2, p2⟩ (by simp; omega) (by simp; omega) (by simp; omega) fun h' tk hk => ?_
    exact ⟨rfl, I.turnedL (t' := tk) (ch := [z, ti, to, i1, i2]) (fun c o hb q => hk c o (nb hb).1 (nb hb).2.1 (nb hb).2.2.1 (nb hb).2.2.2 q) hf⟩
  self := fun A i s Q E st h => wpAny_pyIter_zip st.1 h
abbrev zB1 (k1 : Bool) (h : Heap) (a : Addr) : Heap := h.push { cls := .type (nmB k1), data := .fields #[.ref a, .int 0 0] }
abbrev zB2 (k1 k2 : Bool) (h : Heap) (a b : Addr) : Heap := (zB1 k1 h a).push { cls := .type (nmB k2), data := .fields #[.ref b, .int 0 0] }
abbrev zB3 (k1 k2 : Bool) (h : Heap) (a b : Addr) : Heap := (zB2 k1 k2 h a b).push { cls := .type "tuple", data := .seq #[.ref h.objs.size, .ref (zB1 k1 h a).objs.size] }
abbrev zB4 (k1 k2 : Bool) (h : Heap) (a b : Addr) : Heap := (zB3 k1 k2 h a b).push { cls := .type "tuple", data := .seq #[.none, .none] }
abbrev zB5 (k1 k2 : Bool) (h : Heap) (a b : Addr) : Heap := (zB4 k1 k2 h a b).push { cls := .type "zip", data := .fields #[.none, .bool false, .bool false, .ref (zB2 k1 k2 h a b).objs.size, .ref (zB3 k1 k2 h a b).objs.size] }
theorem meets_zipB (k1 k2 : Bool) (a b : Addr) (xs ys : Array Value) :
    Meets (Builtin.«zip.__new__» ⟨[.type "zip", .ref a, .ref b], []⟩) (fun _ R s => HsB k1 s.heap a xs ∧ HsB k2 s.heap b ys ∧ R (.ok (.ret (.ref (zB4 k1 k2 s.heap a b).objs.size))) { s with heap := zB5 k1 k2 s.heap a b }) :=
  .of_wp fun prog w A R s h => by
    obtain ⟨hp, g, d, tk, os⟩ := s
    obtain ⟨g1, g2, h⟩ := h
    have hsub := PySem.sub_zip
    cases k1 with
    | true =>
      have y1 : Heap.IsList (Shared.heap ⟨hp, g, d, tk, os⟩) a xs := g1
      cases k2 with
      | true =>
        have y2 : Heap.IsList (Shared.heap ⟨hp.push { cls := .type "list_iterator", data := .fields #[.ref a, .int 0 0] }, g, d, tk, os⟩) b ys := Heap.IsList.push g2 _
        wp_walk using wpAny_pyIter_list y1, wpAny_pyIter_list y2
        exact ⟨_, rfl, h⟩
      | false =>
        have y2 : Heap.IsTuple (Shared.heap ⟨hp.push { cls := .type "list_iterator", data := .fields #[.ref a, .int 0 0] }, g, d, tk, os⟩) b ys := Heap.IsTuple.push g2 _
        wp_walk using wpAny_pyIter_list y1, wpAny_pyIter_tuple y2
        exact ⟨_, rfl, h⟩
    | false =>
      have y1 : Heap.IsTuple (Shared.heap ⟨hp, g, d, tk, os⟩) a xs := g1
      cases k2 with
      | true =>
        have y2 : Heap.IsList (Shared.heap ⟨hp.push { cls := .type "tuple_iterator", data := .fields #[.ref a, .int 0 0] }, g, d, tk, os⟩) b ys := Heap.IsList.push g2 _
        wp_walk using wpAny_pyIter_tuple y1, wpAny_pyIter_list y2
        exact ⟨_, rfl, h⟩
      | false =>
        have y2 : Heap.IsTuple (Shared.heap ⟨hp.push { cls := .type "tuple_iterator", data := .fields #[.ref a, .int 0 0] }, g, d, tk, os⟩) b ys := Heap.IsTuple.push g2 _
        wp_walk using wpAny_pyIter_tuple y1, wpAny_pyIter_tuple y2
        exact ⟨_, rfl, h⟩
theorem itB_new {k : Bool} {h : Heap} {it l : Addr} (e : h.get? it = some { cls := .type (nmB k), data := .fields #[.ref l, .int 0 0] }) : ItB k h it l 0 := by
  cases k with
  | true => exact ⟨_, e, rfl, rfl⟩
  | false => exact ⟨_, e, rfl, rfl⟩
section
variable {prog : Program} {w : World} {A : Around} {E : Value → Shared → Prop} {s : Shared}
theorem call_zipB {k1 k2 : Bool} {a b : Addr} {xs ys : Array Value} {Q : Value → Shared → Prop} (g1 : HsB k1 s.heap a xs) (g2 : HsB k2 s.heap b ys)
    (h : ∀ h', IsZip h' (s.heap.objs.size + 4) (s.heap.objs.size + 2) (s.heap.objs.size + 3) .none → IsPair h' (s.heap.objs.size + 2) (.ref s.heap.objs.size) (.ref (s.heap.objs.size + 1)) →
      IsPair h' (s.heap.objs.size + 3) .none .none → ItB k1 h' s.heap.objs.size a 0 → ItB k2 h' (s.heap.objs.size + 1) b 0 → (∀ c o, s.heap.get? c = some o → h'.get? c = some o) → Q (.ref (s.heap.objs.size + 4)) { s with heap := h' }) :
    wpAny (model prog w) A (call (.type "zip") [.ref a, .ref b]) Q E s := by
  refine callType_new F.called_zip (by decide) (F.typeCall_zip_2 _ _) (F.newCall_zip_2 _ _) (fun o => F.args_object_init_3 o _ _) F.entry_zip_new (meets_zipB k1 k2 a b xs ys) ⟨g1, g2, ?_⟩
  have e1 : (zB1 k1 s.heap a).objs.size = s.heap.objs.size + 1 := Heap.size_push ..
  have e2 : (zB2 k1 k2 s.heap a b).objs.size = s.heap.objs.size + 2 := by rw [Heap.size_push, e1]
  have e3 : (zB3 k1 k2 s.heap a b).objs.size = s.heap.objs.size + 3 := by rw [Heap.size_push, e2]
  have e4 : (zB4 k1 k2 s.heap a b).objs.size = s.heap.objs.size + 4 := by rw [Heap.size_push, e3]
  have up4 : ∀ {c o}, (zB4 k1 k2 s.heap a b).get? c = some o → (zB5 k1 k2 s.heap a b).get? c = some o := fun x => Heap.get?_push_of_some _ x
  have up3 : ∀ {c o}, (zB3 k1 k2 s.heap a b).get? c = some o → (zB5 k1 k2 s.heap a b).get? c = some o := fun x => up4 (Heap.get?_push_of_some _ x)
  have up2 : ∀ {c o}, (zB2 k1 k2 s.heap a b).get? c = some o → (zB5 k1 k2 s.heap a b).get? c = some o := fun x => up3 (Heap.get?_push_of_some _ x)
  have up1 : ∀ {c o}, (zB1 k1 s.heap a).get? c = some o → (zB5 k1 k2 s.heap a b).get? c = some o := fun x => up2 (Heap.get?_push_of_some _ x)
  have y5 : (zB5 k1 k2 s.heap a b).get? (zB4 k1 k2 s.heap a b).objs.size = some _ := Heap.get?_push_size _ rfl
  have y4 : (zB5 k1 k2 s.heap a b).get? (zB3 k1 k2 s.heap a b).objs.size = some _ := up4 (Heap.get?_push_size _ rfl)
  have y3 : (zB5 k1 k2 s.heap a b).get? (zB2 k1 k2 s.heap a b).objs.size = some _ := up3 (Heap.get?_push_size _ rfl)
  have y2 : (zB5 k1 k2 s.heap a b).get? (zB1 k1 s.heap a).objs.size = some _ := up2 (Heap.get?_push_size _ rfl)
  have y1 : (zB5 k1 k2 s.heap a b).get? s.heap.objs.size = some _ := up1 (Heap.get?_push_size _ rfl)
  show _ ∧ _
  rw [e2, e3, e4] at y5
  rw [e1, e2] at y3
  rw [e3] at y4
  rw [e1] at y2
  rw [e4]
  exact ⟨⟨_, y5, rfl⟩, h _ y5 y3 y4 (itB_new y1) (itB_new y2) fun c o x => up1 (Heap.get?_push_of_some _ x)⟩
end
def iZipB (K : PySem.W.Frag) (ta : TA) : TI := fun σ H R => ta σ H fun vs H1 => ∃ (k1 k2 : Bool) (a b : Addr) (xs ys : List V), vs = [.ref a, .ref b] ∧ SqB k1 K H1 a xs ∧ SqB k2 K H1 b ys ∧ R (ItzB k1 k2 K a b) H1
theorem pi_zipB {X : Cx} {e e2 : Expr} {ta : TA} {p pos tp : Pos} {elts : List Expr} {kk : Nat} (hg : Gl X "zip") (hm : X.mg "zip" = none) (ha : PA X [e, e2] ta)
    (hs : starEach [e, e2] X.env = (false, eval e X.env) :: starEach [e2] X.env := by rfl) (hpl : (backTo pos (starEach [e2] X.env)).any (·.1) = false := by rfl) :
    PI X (.Tuple elts kk tp) (.Call (.Name "zip" p) [e, e2] [] pos) (iZipB X.K ta) := by
  refine ⟨fun pins s σ H R I h => ?_⟩
  refine Call_ (ld_blt I hg hm PyProof.Rows.boot_zip (PyProof.Rows.callWith_type1 (thn (ha.run pos pins s σ H _ I h) fun us s1 ⟨vs, H1, I1, r1, q1⟩ => ?_) hs hpl))
  obtain ⟨k1, k2, a, b, xs, ys, rfl, g1, g2, q⟩ := q1
  cases r1 with
  | cons r rr =>
    cases rr with
    | cons r' rr =>
      cases rr
      cases r
      cases r'
      obtain ⟨its, rv, p1, lt1⟩ := invB I1 g1
      obtain ⟨its2, rv2, p2, lt2⟩ := invB I1 g2
      refine call_zipB p1 p2 fun h' hz hti hto j1 j2 hk => wpAny_pyIter_zip hz ?_
      have I2 : Inv X pins σ H1 { s1 with heap := h' } := I1.kept (t' := s1.toks) hk
      refine ⟨s1.heap.objs.size + 4, [s1.heap.objs.size + 4, s1.heap.objs.size + 2, s1.heap.objs.size + 3, s1.heap.objs.size, s1.heap.objs.size + 1], _, _, H1, rfl, I2, turn_zipB (PySem.W.ktu_apart s1.heap.objs.size a b lt1 lt2), ⟨hz, hti, ⟨_, _, hto⟩, j1, j2⟩, fun c hcm => ?_, q⟩
      have le : s1.heap.objs.size ≤ c := by
        rcases in5 hcm with rfl | rfl | rfl | rfl | rfl
        · exact Nat.le_add_right _ _
        · exact Nat.le_add_right _ _
        · exact Nat.le_add_right _ _
        · exact Nat.le_refl _
        · exact Nat.le_add_right _ _
      exact I1.fpOk le (I1.hok.fresh le)
section
variable {K : PySem.W.Frag} {Sh : Hp}
theorem wk_zipB {k1 k2 : Bool} {a b : Addr} {xs ys : List V} {as bs : List D} (h1 : ∀ H, Same Sh H → SqB k1 K H a xs) (f1 : FzL K Sh xs as) (h2 : ∀ H, Same Sh H → SqB k2 K H b ys) (f2 : FzL K Sh ys bs) : Wk K Sh (ItzB k1 k2 K a b) (zpD as bs) := by
  refine ⟨fun H => SqB k1 K H a xs ∧ SqB k2 K H b ys, YPair (fun i => xs[i]?) (fun i => ys[i]?), ⟨fun i H hi q => ?_, fun H q => ?_, fun i H v H' _ q y => ?_⟩, fun S1 H e1 e2 => ⟨h1 _ (e1.trans e2), h2 _ (e1.trans e2)⟩, fun i S1 H x H' d e1 e2 hd hy => ?_⟩
  · rw [zpD_len, ← f1.len, ← f2.len] at hi
    exact ⟨xs, ys, q.1, q.2, by omega, by omega⟩
  · rw [zpD_len, ← f1.len, ← f2.len]
    exact ⟨xs, ys, q.1, q.2, by omega, by omega, by omega⟩
  · obtain ⟨T, x, z, rfl, hT, rfl, hx, hz⟩ := y
    exact ⟨T, x, z, rfl, hT, rfl, hx xs q.1, hz ys q.2⟩
  · obtain ⟨T, x1, y1, rfl, hT, rfl, hx, hy⟩ := hy
    obtain ⟨a', b', ha, hb, rfl⟩ := zpD_get hd
    obtain ⟨d1, hd1, g1⟩ := f1.get hx
    obtain ⟨d2, hd2, g2⟩ := f2.get hy
    rw [ha] at hd1
    rw [hb] at hd2
    cases hd1
    cases hd2
    exact res_pair e2 (Fz.mono e1 _ _ g1) (Fz.mono e1 _ _ g2) hT
end
def iZpB (wa wb : IE) : IA := fun ρ Q E => wa ρ (fun u ρ1 => fzU ρ1 u fun d1 ρ2 => wb ρ2 (fun v ρ3 => fzU ρ3 v fun d2 ρ4 => ob (seqD d1) fun as => ob (seqD d2) fun bs => Q (zpD as bs) ρ4) E) E
theorem seq_at {K : PySem.W.Frag} {Sh : Hp} {v : V} {d : D} {ds : List D} (f : Fz K Sh v d) (e : seqD d = some ds) : ∃ (k : Bool) (a : Addr) (xs : List V), v = .ref a ∧ FzL K Sh xs ds ∧ ∀ H, Same Sh H → SqB k K H a xs := by
  cases d with
  | lst ds' =>
    cases e
    cases f with
    | @lst a xs _ g1 g2 => exact ⟨true, a, xs, rfl, g2, fun H s => SqL.of (s _ _ g1)⟩
  | tup ds' =>
    cases e
    cases f with
    | @tup a xs _ g1 g2 => exact ⟨false, a, xs, rfl, g2, fun H s => same_t s g1⟩
  | _ => cases e
section
variable {X : Cx} {K : PySem.W.Frag} {Z : Zt} {W : WX} {q qa qb : Bool} {w wa wb : IE} {e e2 : Expr} {pos p tp : Pos} {elts : List Expr} {kk : Nat}
theorem ei_zipB (hK : X.K = K) (hg : Gl X "zip") (hm : X.mg "zip" = none) (he : PE X e (Ev K Z W qa wa)) (he2 : PE X e2 (Ev K Z W qb wb)) (hs : starEach [e, e2] X.env = (false, eval e X.env) :: starEach [e2] X.env := by rfl) (hs2 : starEach [e2] X.env = (false, eval e2 X.env) :: starEach [] X.env := by rfl) (hpl : (backTo pos (starEach [e2] X.env)).any (·.1) = false := by rfl) :
    PI X (.Tuple elts kk tp) (.Call (.Name "zip" p) [e, e2] [] pos) (EvI K Z W (qa && qb) (iZpB wa wb)) := by
  subst hK
  refine (pi_zipB hg hm (pa_cons he (pa_cons he2 pa_nil hs2) hs) hs hpl).weak fun σ H R ⟨Sh, ρ, Q0, E0, Rr, h, hq, hx⟩ => ?_
  refine ⟨Sh, ρ, _, E0, Rr, h, fun u ρ1 S1 H1 v h1 p1 => ?_, hx⟩
  obtain ⟨d1, ρ2, S2, h2, m2, f2⟩ := p1.fz h1
  refine ⟨S2, ρ2, _, E0, m2.rl, h2, fun u3 ρ3 S3 H3 v3 h3 p3 => ?_, fun x ρ' S' H' cls d e p => hx x ρ' S' H' cls d e (m2.px p)⟩
  obtain ⟨d2, ρ4, S4, h4, m4, f4⟩ := p3.fz h3
  have f2' := Fz.mono m4.gx.ss _ _ f2
  have m := m2.trans m4
  obtain ⟨as, e1, h4⟩ := ob_ex h4
  obtain ⟨bs, e2, h4⟩ := ob_ex h4
  obtain ⟨k1, a, xs, rfl, g1, y1⟩ := seq_at f2' e1
  obtain ⟨k2, b, ys, rfl, g2, y2⟩ := seq_at f4 e2
  exact ⟨k1, k2, a, b, xs, ys, rfl, y1 _ m4.rl.sh, y2 _ m4.rl.sh, hq _ _ _ _ _ h4 m (wk_zipB y1 g1 y2 g2)⟩
end
/-! ### range(n, -1, -1) -/
/-- n - 1, .., 0 -/
@[irreducible] def dwnD (n : Nat) : List D := (List.range n).map fun (i : Nat) => D.int ((n : Int) - 1 - (i : Int))
def iRgD (w : IE) : IA := fun ρ Q E => w ρ (fun u ρ1 => ob ((rdU ρ1 u).bind iD) fun j => -1 ≤ j ∧ j < 100000 ∧ Q (dwnD (j + 1).toNat) ρ1) E
theorem dwnD_get {n i : Nat} {d : D} (h : (dwnD n)[i]? = some d) : i < n ∧ d = .int ((n : Int) - 1 - (i : Int)) := by
  unfold dwnD at h
  rw [List.getElem?_map] at h
  cases e : (List.range n)[i]? with
  | none =>
    rw [e] at h
    cases h
  | some j =>
    rw [e] at h
    cases h
    obtain ⟨h1, h2⟩ := List.getElem?_eq_some_iff.mp e
    rw [List.getElem_range] at h2
    rw [List.length_range] at h1
    exact ⟨h1, by rw [h2]⟩
theorem dwnD_len (n : Nat) : (dwnD n).length = n := by simp [dwnD]
theorem wk_dwn {K : PySem.W.Frag} {Sh : Hp} {n : Nat} {j : Int} (hj : j = (n : Int) - 1) : Wk K Sh (Itc j (-1) n) (dwnD n) := by
  subst hj
  have w := walk_rangeC (lo := (n : Int) - 1) (c := -1) (n := n)
  refine ⟨fun _ => True, _, by rw [dwnD_len]; exact w, fun _ _ _ _ => True.intro, fun i S1 H x H' d e1 e2 hd hy => ?_⟩
  obtain ⟨hi, rfl⟩ := dwnD_get hd
  obtain ⟨rfl, rfl⟩ := hy
  refine ⟨S1, Res.fr e2 ?_⟩
  show Fz K S1 (.int ((n : Int) - 1 + ((i : Nat) : Int) * -1)) _
  rw [show (n : Int) - 1 + ((i : Nat) : Int) * -1 = (n : Int) - 1 - (i : Int) by omega]
  exact .int _
section
variable {X : Cx} {K : PySem.W.Frag} {Z : Zt} {W : WX} {q : Bool} {w : IE} {e tg : Expr} {pos : Pos}
theorem pe_neg1 {p1 p2 : Pos} {j : Nat} : PE X (.UnaryOp .USub (.Constant (.int 1) j p1) p2) (tUn (rU fun i => .int (-i)) (tC (.int 1))) := pe_un un_neg pe_int
theorem ei_rangeD {p p1 p2 p3 p4 : Pos} {j1 j2 : Nat} (hg : Gl X "range") (hm : X.mg "range" = none) (he : PE X e (Ev K Z W q w))
    (hs : starEach [e, .UnaryOp .USub (.Constant (.int 1) j1 p1) p2, .UnaryOp .USub (.Constant (.int 1) j2 p3) p4] X.env = (false, eval e X.env) :: starEach [.UnaryOp .USub (.Constant (.int 1) j1 p1) p2, .UnaryOp .USub (.Constant (.int 1) j2 p3) p4] X.env := by rfl)
    (hpl : (backTo pos (starEach [.UnaryOp .USub (.Constant (.int 1) j1 p1) p2, .UnaryOp .USub (.Constant (.int 1) j2 p3) p4] X.env)).any (·.1) = false := by rfl) :
    PI X tg (.Call (.Name "range" p) [e, .UnaryOp .USub (.Constant (.int 1) j1 p1) p2, .UnaryOp .USub (.Constant (.int 1) j2 p3) p4] [] pos) (EvI K Z W q (iRgD w)) := by
  refine (pi_range3 hg hm (pa_cons he (pa_cons pe_neg1 (pa_cons pe_neg1 pa_nil)) hs) hs hpl).weak fun σ H R ⟨Sh, ρ, Q0, E0, Rr, h, hq, hx⟩ => ?_
  refine ⟨Sh, ρ, _, E0, Rr, h, fun u ρ1 S1 H1 v h1 p1 => ?_, hx⟩
  obtain ⟨j, ej, h2, h3, h4⟩ := ob_ex h1
  cases hr : rdU ρ1 u with
  | none =>
    rw [hr] at ej
    cases ej
  | some d =>
    rw [hr] at ej
    cases d with
    | int j' =>
      cases ej
      have sv := p1.ev.sv p1.rl hr
      cases (show Fz K S1 v (.int j) from sv)
      refine ⟨_, rfl, _, rfl, j, -1, -1, (j + 1).toNat, rfl, ?_, hq _ _ _ _ _ h4 p1.mid (wk_dwn (by omega))⟩
      have z := RgC.neg (i := j) (j := -1) (by omega) (by omega) (by decide) (by decide)
      rw [show j - -1 = j + 1 by omega] at z
      exact z
    | _ => cases ej
end
/-! ### tuple * int -/
theorem tup_mul1 (l : Addr) (items : Array Value) (n : Nat) (dd : Option Addr) (sl : Array (Option Value)) (x : Int) (u : Tok) (c0 : (decide (x < -(2 ^ 63)) || decide (x ≥ 2 ^ 63)) = false) (c1 : (items.isEmpty || x == 1) = true) :
    Meets (Builtin.«tuple.__mul__» ⟨[.ref l, .int x u], []⟩) (fun _ R s => s.heap.get? l = some { cls := .type "tuple", dict := dd, data := .seq items n, slots := sl } ∧ R (.ok (.ret (Value.ref l))) s) :=
  .of_wp fun prog w A R s h => by
    obtain ⟨hp, g, d, tk, os⟩ := s
    obtain ⟨hl, h⟩ := h
    have f1 := AutoSeq1.idx_int
    wp_walk using wpAny_loadPart' hl
    refine wpAny_ite_false (decide_eq_false (by rw [c0]; exact Bool.false_ne_true)) ?_
    wp_walk using wpAny_loadPart' hl
    exact ⟨_, rfl, h⟩
theorem tup_mul0 (l : Addr) (items : Array Value) (n : Nat) (dd : Option Addr) (sl : Array (Option Value)) (x : Int) (u : Tok) (c0 : (decide (x < -(2 ^ 63)) || decide (x ≥ 2 ^ 63)) = false) (c1 : (items.isEmpty || x == 1) = false) (c2 : (decide (x ≤ 0) || items.isEmpty) = true) :
    Meets (Builtin.«tuple.__mul__» ⟨[.ref l, .int x u], []⟩) (fun _ R s => s.heap.get? l = some { cls := .type "tuple", dict := dd, data := .seq items n, slots := sl } ∧ R (.ok (.ret (Value.ref s.heap.objs.size))) { s with heap := s.heap.push { cls := Value.type "tuple", data := Data.seq #[] }, toks := s.toks }) :=
  .of_wp fun prog w A R s h => by
    obtain ⟨hp, g, d, tk, os⟩ := s
    obtain ⟨hl, h⟩ := h
    have f1 := AutoSeq1.idx_int
    wp_walk using wpAny_loadPart' hl
    refine wpAny_ite_false (decide_eq_false (by rw [c0]; exact Bool.false_ne_true)) ?_
    wp_walk using wpAny_loadPart' hl
    exact ⟨_, rfl, h⟩
/-- any small tuple by any number -/
def rMulT (K : PySem.W.Frag) : R2 := fun x y H Q => ∃ l k xs, x = .ref l ∧ y = .int k ∧ SqT K H l xs ∧ k ≤ 1000 ∧ -1000 ≤ k ∧ xs.length ≤ 1000 ∧ (∀ p, H p = none → Q (.ref p) (upd H p (.tup (List.replicate k.toNat xs).flatten))) ∧ ((List.replicate k.toNat xs).flatten = xs → Q x H)
section
variable {X : Cx}
theorem op_mulT : OpR X (binaryOp .Mult) (rMulT X.K) := by
  intro pins s σ H x y v u Q I rx ry h
  obtain ⟨l, k, xs, rfl, rfl, hT, h1, h2, hz, q, q2⟩ := h
  by_cases hb : xs ≠ [] ∧ 2 ≤ k
  · exact op_repT pins s σ H _ _ v u Q I rx ry ⟨l, k, xs, rfl, rfl, hT, hb.1, hb.2, h1, hz, q⟩
  cases rx
  obtain ⟨t, rfl⟩ := ry
  obtain ⟨its, r, ⟨⟨cls, dd, data, sl⟩, ho, hc, n, hd⟩, hs⟩ := I.tuple hT
  simp only at hc hd
  subst hc hd
  have c0 : (decide (k < -(2 ^ 63)) || decide (k ≥ 2 ^ 63)) = false := by
    rw [decide_eq_false (by omega), decide_eq_false (by omega)]; rfl
  have hle : xs.length = its.length := r.length
  have em : its.toArray.isEmpty = xs.isEmpty := by
    cases its with
    | nil =>
      cases xs with
      | nil => rfl
      | cons a b => simp at hle
    | cons a b =>
      cases xs with
      | nil => simp at hle
      | cons a b => rfl
  by_cases c : (its.toArray.isEmpty || k == 1) = true
  · refine wpAny_binaryOp_repeat_ref (T := "tuple") (U := "int") (by decide) ⟨_, ho, rfl⟩ (fun s' => typeIs_int s' k t) noFill_tuple_mul F.fills_int_mul F.slot_int_rmul repeat_tuple F.slot_int_index.lookup
      (call_meets F.slot_int_rmul (typeIs_int s k t) F.entry_int_rmul (F.args_int_rmul_2 _ _) (int_rmul_tuple k t l its.toArray n dd sl)
        ⟨ho, rfl, ⟨_, ho, rfl⟩, call_meets F.slot_tuple_mul ⟨_, ho, rfl⟩ F.entry_tuple_mul (F.args_tuple_mul_2 _ _) (tup_mul1 l its.toArray n dd sl k t c0 c) ⟨ho, ?_⟩⟩)
    refine ⟨.ref l, H, I, rfl, q2 ?_⟩
    rw [em] at c
    rcases Bool.or_eq_true_iff.mp c with c | c
    · cases xs with
      | nil =>
        have : ∀ n : Nat, (List.replicate n ([] : List V)).flatten = [] := fun n => by
          induction n with
          | zero => rfl
          | succ n ih => rw [List.replicate_succ, List.flatten_cons, ih]; rfl
        exact this _
      | cons a b => cases c
    · have : k = 1 := eq_of_beq c
      subst this
      show xs ++ [] = xs
      rw [List.append_nil]
  · have c1 : (its.toArray.isEmpty || k == 1) = false := by cases z : (its.toArray.isEmpty || k == 1) <;> first | rfl | exact absurd z c
    have nx : xs ≠ [] := fun z => by
      rw [em, z] at c1
      cases c1
    have hk : k ≤ 0 := by
      have a1 : ¬ 2 ≤ k := fun z => hb ⟨nx, z⟩
      have a2 : k ≠ 1 := fun z => by rw [z] at c1; simp at c1
      omega
    have c2 : (decide (k ≤ 0) || its.toArray.isEmpty) = true := by rw [decide_eq_true hk]; rfl
    refine wpAny_binaryOp_repeat_ref (T := "tuple") (U := "int") (by decide) ⟨_, ho, rfl⟩ (fun s' => typeIs_int s' k t) noFill_tuple_mul F.fills_int_mul F.slot_int_rmul repeat_tuple F.slot_int_index.lookup
      (call_meets F.slot_int_rmul (typeIs_int s k t) F.entry_int_rmul (F.args_int_rmul_2 _ _) (int_rmul_tuple k t l its.toArray n dd sl)
        ⟨ho, rfl, ⟨_, ho, rfl⟩, call_meets F.slot_tuple_mul ⟨_, ho, rfl⟩ F.entry_tuple_mul (F.args_tuple_mul_2 _ _) (tup_mul0 l its.toArray n dd sl k t c0 c1 c2) ⟨ho, ?_⟩⟩)
    have e0 : (List.replicate k.toNat xs).flatten = [] := by
      rw [show k.toNat = 0 by omega]
      rfl
    rw [e0] at q
    exact ⟨.ref s.heap.objs.size, _, I.laid (t' := s.toks) (o := .tup []) (fun b ob q => Heap.get?_push_of_some _ q) (Nat.le_refl _) ⟨Nat.zero_le _, [], .nil, IsTup.new _ _⟩, rfl, q _ (I.hok.fresh (Nat.le_refl _))⟩
end
def pMulT : D → D → Option O
  | .tup a, .int k => if k ≤ 1000 ∧ -1000 ≤ k ∧ a.length ≤ 1000 then some (.fr (.tup (repD k.toNat a))) else none
  | _, _ => none
theorem o_mulT {X : Cx} : OpR X (binaryOp .Mult) (rF X.K pMulT) := by
  intro pins s σ H x y v u Q I rx ry ⟨Sh, d1, d2, o, sh, s1, s2, e, q⟩
  unfold pMulT at e
  split at e
  · split at e
    · rename_i a k hl
      cases e
      rw [sv_int s2] at ry
      cases (show Fz X.K Sh x (.tup a) from s1) with
      | @tup ad xs _ g1 g2 =>
        refine op_mulT pins s σ H _ _ v u Q I rx ry ⟨ad, k, xs, rfl, rfl, same_t sh g1, hl.1, hl.2.1, by rw [g2.len]; exact hl.2.2, fun p hp => q _ _ _ (res_tup sh (g2.repl _) hp), fun e => q _ _ _ (Res.fr sh ?_)⟩
        have g3 := g2.repl k.toNat
        rw [e] at g3
        exact .tup g1 g3
    · cases e
  · cases e
/-! ### sum of a tuple -/
def pSumT : D → Option O
  | .tup ds => (nts ds).map fun ns => .fr (.int ns.sum)
  | _ => none
theorem b_sumT {X : Cx} (hc : X.calm = true) : CallR X (.builtin "sum") (c1F X.K pSumT) := by
  intro pins s σ H xs us Q I r hh
  obtain ⟨x, rfl, Sh, d, o, sh, s1, e, q⟩ := hh
  unfold pSumT at e
  split at e
  · rename_i ds
    cases hb : nts ds with
    | none =>
      rw [hb] at e
      cases e
    | some bs =>
      rw [hb] at e
      cases e
      cases (show Fz X.K Sh x (.tup ds) from s1) with
      | @tup a ys _ g1 g2 =>
        obtain ⟨its, rv, p, _⟩ := I.tuple (same_t sh g1)
        rw [Vals.ref1 r]
        rw [g2.nts hb] at rv
        obtain ⟨zs, e⟩ := rv.ints.allInts.items
        have hn : numsOf (intItems zs).toList = bs := by rw [← e]; exact rv.ints.numsOf
        rw [nums_intItems] at hn
        have p' : s.heap.IsTuple a its.toArray := p
        rw [e] at p'
        refine PySem.W.ktm_sumG (I.ok.hd hc) p' fun h' tk t' hk => ⟨.int _, H, I.kept hk, ⟨_, rfl⟩, ?_⟩
        rw [preSum_eq, List.take_of_length_le (by simp), hn]
        exact q _ _ _ (Res.fr sh (.int _))
  · cases e
end G48

set_option Elab.async false
set_option linter.all false
set_option maxRecDepth 100000
set_option maxHeartbeats 4000000
namespace G48
open PySem PySem.Spec PyProof.Rows L2 SX
/-! ### loops over enumerate; the first that .. -/
theorem enD_nth : ∀ (n : Nat) (ds : List D) (j : Nat) (h : j < (enD n ds).length) (h2 : j < ds.length), (enD n ds)[j] = .tup [nD (n + j), ds[j]]
  | n, d :: ds, 0, _, _ => by
    show D.tup [.int (n : Int), d] = .tup [nD (n + 0), d]
    rfl
  | n, d :: ds, j + 1, h, h2 => by
    have z := enD_nth (n + 1) ds j (by rw [enD_len]; exact Nat.lt_of_succ_lt_succ h2) (Nat.lt_of_succ_lt_succ h2)
    show (enD (n + 1) ds)[j]'_ = .tup [nD (n + (j + 1)), ds[j]'_]
    rw [z, show n + 1 + j = n + (j + 1) by omega]
theorem fo_en {α : Type} {f : α → D} {l : List α} {g : ITg} {b : IS} {N : IEn} {ρ : En} (I : Nat → En → Prop) (h : I 0 ρ) (h0 : ∀ ρ, I l.length ρ → N.nx ρ)
    (hs : ∀ (j : Nat) (hj : j < l.length) (ρ : En), I j ρ → ∀ k : En → Prop, (∀ ρ', I (j + 1) ρ' → k ρ') → g (.tup [nD j, f l[j]]) ρ fun ρ1 => b ρ1 { N with nx := k, ct := k, bk := N.nx }) : foGo g b N (enD 0 (l.map f)) ρ := by
  have hl : (enD 0 (l.map f)).length = l.length := by rw [enD_len, List.length_map]
  refine fo_at I h (fun ρ hi => h0 ρ (by rw [hl] at hi; exact hi)) (fun j hj ρ hi k hk => ?_)
  have hj' : j < l.length := by rw [hl] at hj; exact hj
  rw [enD_nth 0 (l.map f) j hj (by rw [List.length_map]; exact hj'), List.getElem_map, Nat.zero_add]
  exact hs j hj' ρ hi k hk
theorem lc_at1 {vs : List Nat} {g : ITg} {te : IE} {Q : U → En → Prop} {ρ : En} {ds : List D} (I : Nat → List D → En → Prop) (hl : ds.length ≤ 100000) (h : I 0 [] ρ) (h0 : ∀ acc ρ, I ds.length acc ρ → Q (.va (.lst acc)) ρ)
    (hs : ∀ (j : Nat) (hj : j < ds.length) acc ρ, I j acc ρ → ∀ (k1 : En → D → Prop), (∀ y ρ4, I (j + 1) (acc ++ [y]) (wipeI ρ4 vs) → k1 ρ4 y) →
      g ds[j] ρ fun ρ1 => te ρ1 (fun u ρ3 => fzU ρ3 u fun y ρ4 => k1 ρ4 y) NoX) : lcGo vs g jYes te Q ds [] ρ :=
  lc_at I hl h h0 fun j hj acc ρ hi k1 k2 h1 _ => hs j hj acc ρ hi k1 h1
theorem not_t {b : Bool} (h : (!b) = true) : b = false := by cases b <;> first | rfl | cases h
theorem not_f {b : Bool} (h : (!b) = false) : b = true := by cases b <;> first | rfl | cases h
theorem fo_enD {ds : List D} {g : ITg} {b : IS} {N : IEn} {ρ : En} (I : Nat → En → Prop) (h : I 0 ρ) (h0 : ∀ ρ, I ds.length ρ → N.nx ρ)
    (hs : ∀ (j : Nat) (hj : j < ds.length) (ρ : En), I j ρ → ∀ k : En → Prop, (∀ ρ', I (j + 1) ρ' → k ρ') → g (.tup [nD j, ds[j]]) ρ fun ρ1 => b ρ1 { N with nx := k, ct := k, bk := N.nx }) : foGo g b N (enD 0 ds) ρ := by
  have z := fo_en (f := id) (l := ds) (g := g) (b := b) (N := N) (ρ := ρ) I h h0 hs
  rw [List.map_id] at z
  exact z
theorem dc_at1 {vs : List Nat} {g : ITg} {tk tv : IE} {Q : U → En → Prop} {ρ : En} {ds : List D} (I : Nat → List (D × D) → En → Prop) (h : I 0 [] ρ) (h0 : ∀ acc ρ, I ds.length acc ρ → Q (.va (.dic acc)) ρ)
    (hs : ∀ (j : Nat) (hj : j < ds.length) acc ρ, I j acc ρ → ∀ (k1 : En → D → D → Prop), (∀ y z ρ6, (keyOf y).isSome = true → acc.length < 100000 → I (j + 1) (putD acc y z) (wipeI ρ6 vs) → k1 ρ6 y z) →
      g ds[j] ρ fun ρ1 => tk ρ1 (fun u ρ3 => fzU ρ3 u fun y ρ4 => tv ρ4 (fun u' ρ5 => fzU ρ5 u' fun z ρ6 => k1 ρ6 y z) NoX) NoX) : dcGo vs g jYes tk tv Q ds [] ρ := by
  have gen : ∀ (n j : Nat) acc ρ, ds.length - j = n → j ≤ ds.length → I j acc ρ → dcGo vs g jYes tk tv Q (ds.drop j) acc ρ := by
    intro n
    induction n with
    | zero =>
      intro j acc ρ hn hj hi
      obtain rfl : j = ds.length := by omega
      rw [List.drop_length]
      exact h0 acc ρ hi
    | succ n ih =>
      intro j acc ρ hn hj hi
      have hlt : j < ds.length := by omega
      rw [List.drop_eq_getElem_cons hlt]
      exact hs j hlt acc ρ hi _ fun y z ρ6 h1 h2 h3 => ⟨h1, h2, ih (j + 1) _ _ (by omega) (by omega) h3⟩
  have z := gen ds.length 0 [] ρ rfl (Nat.zero_le _) h
  rw [List.drop_zero] at z
  exact z
theorem pIx_seq {d : D} {ds : List D} {j : Nat} (h : seqD d = some ds) (hj : j < ds.length) : pIx d (nD j) = some (.fr ds[j]) := by
  cases d with
  | lst xs => cases h; exact pIx_lst hj
  | tup xs => cases h; exact pIx_tup hj
  | _ => cases h
theorem pIx_seqm {α : Type} {f : α → D} {l : List α} {d : D} {j : Nat} (h : seqD d = some (l.map f)) (hj : j < l.length) : pIx d (nD j) = some (.fr (f l[j])) := by
  rw [pIx_seq h (by rw [List.length_map]; exact hj), List.getElem_map]
theorem pIx_map {α : Type} {f : α → D} {l : List α} {j : Nat} (hj : j < l.length) : pIx (.lst (l.map f)) (nD j) = some (.fr (f l[j])) := pIx_seqm rfl hj
theorem pIx_mapT {α : Type} {f : α → D} {l : List α} {j : Nat} (hj : j < l.length) : pIx (.tup (l.map f)) (nD j) = some (.fr (f l[j])) := pIx_seqm rfl hj
theorem itD_seq {d : D} {ds : List D} (h : seqD d = some ds) : itD d = some ds := by
  cases d with
  | lst xs => cases h; rfl
  | tup xs => cases h; rfl
  | _ => cases h
theorem pLen_seq {d : D} {ds : List D} (h : seqD d = some ds) : pLen d = some (.fr (nD ds.length)) := by
  cases d with
  | lst xs => cases h; rfl
  | tup xs => cases h; rfl
  | _ => cases h
theorem pList_seq {d : D} {ds : List D} (h : seqD d = some ds) : pList d = some (.lst ds) := by
  cases d with
  | lst xs => cases h; rfl
  | tup xs => cases h; rfl
  | _ => cases h
theorem fo_dwn {g : ITg} {b : IS} {N : IEn} {ρ : En} (I : Nat → En → Prop) (n : Nat) {m : Int} (hm : (m + 1).toNat = n) (h : I 0 ρ) (h0 : ∀ ρ, I n ρ → N.nx ρ)
    (hs : ∀ (j : Nat) (hj : j < n) (ρ : En), I j ρ → ∀ k : En → Prop, (∀ ρ', I (j + 1) ρ' → k ρ') → g (nD (n - 1 - j)) ρ fun ρ1 => b ρ1 { N with nx := k, ct := k, bk := N.nx }) : foGo g b N (dwnD (m + 1).toNat) ρ := by
  rw [hm]
  refine fo_at I h (fun ρ hi => h0 ρ (by rw [dwnD_len] at hi; exact hi)) (fun j hj ρ hi k hk => ?_)
  have hj2 : j < n := by rw [dwnD_len] at hj; exact hj
  have e : (dwnD n)[j] = nD (n - 1 - j) := by
    have z := (dwnD_get (List.getElem?_eq_getElem hj)).2
    rw [z]
    show D.int _ = D.int _
    congr 1
    omega
  rw [e]
  exact hs j hj2 ρ hi k hk
theorem fSet_mapF {α : Type} {f : α → D} {l : List α} {i : Nat} {v : α} (h : i < l.length) : fSet (l.map f) (nD i) (f v) = some ((l.set i v).map f) := by
  unfold fSet
  show (ixN (l.map f).length (i : Int)).map _ = _
  rw [ixN_nat (by rw [List.length_map]; exact h)]
  show some ((l.map f).set i (f v)) = _
  rw [List.map_set]
theorem repD_one (n : Nat) (d : D) : repD n [d] = List.replicate n d := by
  unfold repD
  induction n with
  | zero => rfl
  | succ n ih =>
    rw [List.replicate_succ, List.flatten_cons, ih]
    rfl
theorem repD_map {α : Type} (f : α → D) (n : Nat) (l : List α) : repD n (l.map f) = (List.replicate n l).flatten.map f := by
  unfold repD
  rw [List.map_flatten, List.map_replicate]
theorem cutL_1 {α : Type} (xs : List α) : cutL xs (some 1) none = xs.drop 1 := by
  cases xs with
  | nil => rfl
  | cons a xs => exact cutL_from (a :: xs) (i := 1) (by simp)
/-- the first below n -/
def fst1 (n : Nat) (bad : Nat → Bool) : Option Nat := (List.range n).find? bad
theorem fst1_some {n j : Nat} {bad : Nat → Bool} (hj : j < n) (hb : bad j = true) (hlt : ∀ i, i < j → bad i = false) : fst1 n bad = some j := by
  unfold fst1
  rw [List.find?_range_eq_some]
  exact ⟨hb, List.mem_range.mpr hj, fun i hi => by rw [hlt i hi]; rfl⟩
theorem fst1_none {n : Nat} {bad : Nat → Bool} (h : ∀ i, i < n → bad i = false) : fst1 n bad = none := by
  unfold fst1
  rw [List.find?_range_eq_none]
  exact fun i hi => by rw [h i hi]; rfl
theorem fst1_at {n j : Nat} {bad : Nat → Bool} (h : fst1 n bad = some j) : j < n ∧ bad j = true ∧ ∀ i, i < j → bad i = false := by
  unfold fst1 at h
  rw [List.find?_range_eq_some] at h
  obtain ⟨h1, h2, h3⟩ := h
  exact ⟨List.mem_range.mp h2, h1, fun i hi => by have := h3 i hi; simpa using this⟩
theorem fst1_all {n : Nat} {bad : Nat → Bool} (h : fst1 n bad = none) : ∀ i, i < n → bad i = false := fun i hi => by
  unfold fst1 at h
  rw [List.find?_range_eq_none] at h
  have := h i hi
  simpa using this
theorem fst1_succ (n : Nat) (bad : Nat → Bool) : fst1 (n + 1) bad = match fst1 n bad with
    | some i => some i
    | none => if bad n = true then some n else none := by
  unfold fst1
  rw [List.range_succ, List.find?_append]
  cases (List.range n).find? bad with
  | some i => rfl
  | none =>
    show List.find? bad [n] = _
    rw [List.find?_cons]
    cases bad n <;> rfl
/-! ### == of data without truth values -/
mutual
def D.stt : D → Bool
  | .non => true
  | .int _ => true
  | .str _ => true
  | .tup ds => D.sttL ds
  | .lst ds => D.sttL ds
  | _ => false
def D.sttL : List D → Bool
  | [] => true
  | d :: ds => d.stt && D.sttL ds
end
theorem sttL_at : ∀ {d : D} {ds : List D}, D.sttL (d :: ds) = true → d.stt = true ∧ D.sttL ds = true := fun h => Bool.and_eq_true_iff.mp h
mutual
theorem eqv_iff : ∀ d e : D, d.stt = true → e.stt = true → (PyData.eqv d.py e.py = true ↔ d = e)
  | .non, e, _, h2 => by cases e <;> first | (cases h2; done) | (exact ⟨fun _ => rfl, fun _ => rfl⟩) | (exact ⟨fun z => (Bool.false_ne_true z).elim, fun z => by cases z⟩)
  | .int i, e, _, h2 => by
    cases e <;> first | (cases h2; done) | (exact ⟨fun z => (Bool.false_ne_true z).elim, fun z => by cases z⟩) | skip
    rename_i j
    show (i == j) = true ↔ _
    rw [beq_iff_eq]
    exact ⟨fun z => by rw [z], fun z => by cases z; rfl⟩
  | .str a, e, _, h2 => by
    cases e <;> first | (cases h2; done) | (exact ⟨fun z => (Bool.false_ne_true z).elim, fun z => by cases z⟩) | skip
    rename_i b
    rw [eqv_str, decide_eq_true_iff]
    exact ⟨fun z => by rw [z], fun z => by cases z; rfl⟩
  | .tup as, e, h1, h2 => by
    cases e <;> first | (cases h2; done) | (exact ⟨fun z => (Bool.false_ne_true z).elim, fun z => by cases z⟩) | skip
    rename_i bs
    show PyData.eqvAll (D.pyL as) (D.pyL bs) = true ↔ _
    rw [eqvL_iff as bs h1 h2]
    exact ⟨fun z => by rw [z], fun z => by cases z; rfl⟩
  | .lst as, e, h1, h2 => by
    cases e <;> first | (cases h2; done) | (exact ⟨fun z => (Bool.false_ne_true z).elim, fun z => by cases z⟩) | skip
    rename_i bs
    show PyData.eqvAll (D.pyL as) (D.pyL bs) = true ↔ _
    rw [eqvL_iff as bs h1 h2]
    exact ⟨fun z => by rw [z], fun z => by cases z; rfl⟩
  | .bl _, _, h1, _ => by cases h1
  | .dic _, _, h1, _ => by cases h1
  | .dit _, _, h1, _ => by cases h1
  | .ins _ _, _, h1, _ => by cases h1
  | .scr _, _, h1, _ => by cases h1
theorem eqvL_iff : ∀ as bs : List D, D.sttL as = true → D.sttL bs = true → (PyData.eqvAll (D.pyL as) (D.pyL bs) = true ↔ as = bs)
  | [], [], _, _ => ⟨fun _ => rfl, fun _ => rfl⟩
  | [], _ :: _, _, _ => ⟨fun z => (Bool.false_ne_true z).elim, fun z => by cases z⟩
  | _ :: _, [], _, _ => ⟨fun z => (Bool.false_ne_true z).elim, fun z => by cases z⟩
  | a :: as, b :: bs, h1, h2 => by
    show (PyData.eqv a.py b.py && PyData.eqvAll (D.pyL as) (D.pyL bs)) = true ↔ _
    rw [Bool.and_eq_true_iff, eqv_iff a b (sttL_at h1).1 (sttL_at h2).1, eqvL_iff as bs (sttL_at h1).2 (sttL_at h2).2]
    exact ⟨fun ⟨z, y⟩ => by rw [z, y], fun z => by cases z; exact ⟨rfl, rfl⟩⟩
end
theorem scEq_st {a b : D} {r : Bool} (h : scEq a b = some r) : a.stt = true → b.stt = true → (r = true ↔ a = b) := by
  cases a <;> cases b <;> intro h1 h2 <;> first | (cases h; done) | (cases h1; done) | (cases h2; done) | (cases h; exact ⟨fun _ => rfl, fun _ => rfl⟩) | (cases h; exact ⟨fun z => (Bool.false_ne_true z).elim, fun z => by cases z⟩) | (cases h; rw [decide_eq_true_iff]; exact ⟨fun z => by rw [z], fun z => by cases z; rfl⟩)
theorem eqD_st {a b : D} (h1 : a.stt = true) (h2 : b.stt = true) (o1 : a.okEq = true) (o2 : b.okEq = true) : ∃ r, eqD a b = some r ∧ (r = true ↔ a = b) := by
  unfold eqD
  cases h : scEq a b with
  | some r => exact ⟨r, rfl, scEq_st h h1 h2⟩
  | none =>
    refine ⟨PyData.eqv a.py b.py, ?_, eqv_iff a b h1 h2⟩
    show (if (a.okEq && b.okEq) = true then _ else _) = _
    rw [o1, o2]
    rfl
theorem pEq_st {a b : D} (h1 : a.stt = true) (h2 : b.stt = true) (o1 : a.okEq = true) (o2 : b.okEq = true) : ∃ r, pEq a b = some (.fr (.bl r)) ∧ (r = true ↔ a = b) := by
  obtain ⟨r, h, e⟩ := eqD_st h1 h2 o1 o2
  exact ⟨r, by unfold pEq; rw [h]; rfl, e⟩
theorem pNe_st {a b : D} (h1 : a.stt = true) (h2 : b.stt = true) (o1 : a.okEq = true) (o2 : b.okEq = true) : ∃ r, pNe a b = some (.fr (.bl (!r))) ∧ (r = true ↔ a = b) := by
  obtain ⟨r, h, e⟩ := eqD_st h1 h2 o1 o2
  exact ⟨r, by unfold pNe; rw [h]; rfl, e⟩
/-- the exception of class x with fields fs -/
abbrev xcE (x : Str) (fs : List Str) (ds : List D) : Xc := ⟨x, ("tag", .str x.cps.toList) :: (fs.zip ds).reverse⟩
/-! ### what _law_why tells -/
def xfD (x : Xc) : List D := ((x.fs.drop 1).map Prod.snd).reverse
open Classical in
noncomputable def wyT (tbl : List (Str × List Str)) (x : Xc) : Option D := match tbl.lookup x.cls with
  | some fs => if fs.length + 1 = x.fs.length ∧ x = xcE x.cls fs (xfD x) then some (.tup (.str x.cls.cps.toList :: xfD x)) else none
  | none => none
theorem xcE_ds {c : Str} {fs : List Str} {ds : List D} (h : ds.length = fs.length) : xfD (xcE c fs ds) = ds := by
  show (((fs.zip ds).reverse).map Prod.snd).reverse = ds
  rw [List.map_reverse, List.reverse_reverse, List.map_snd_zip (by omega)]
open Classical in
theorem wyT_at {tbl : List (Str × List Str)} {c : Str} {fs : List Str} {ds : List D} (h : tbl.lookup c = some fs) (hl : ds.length = fs.length) : wyT tbl (xcE c fs ds) = some (.tup (.str c.cps.toList :: ds)) := by
  unfold wyT
  show (match tbl.lookup c with | some fs => _ | none => none) = _
  rw [h]
  show (if _ then some (D.tup (.str c.cps.toList :: xfD (xcE c fs ds))) else none) = _
  rw [if_pos, xcE_ds hl]
  refine ⟨?_, ?_⟩
  · show fs.length + 1 = ((fs.zip ds).reverse).length + 1
    rw [List.length_reverse, List.length_zip, hl, Nat.min_self]
  · show xcE c fs ds = xcE c fs (xfD (xcE c fs ds))
    rw [xcE_ds hl]
theorem lookup_mem {tbl : List (Str × List Str)} {c : Str} {fs : List Str} (h : tbl.lookup c = some fs) : (c, fs) ∈ tbl := by
  induction tbl with
  | nil => cases h
  | cons p tbl ih =>
    obtain ⟨a, b⟩ := p
    rw [List.lookup_cons] at h
    cases e : c == a with
    | true =>
      rw [e] at h
      cases h
      rw [eq_of_beq e]
      exact List.mem_cons_self
    | false =>
      rw [e] at h
      exact List.mem_cons_of_mem _ (ih h)
open Classical in
theorem wyT_ex {tbl : List (Str × List Str)} {x : Xc} {dd : D} (h : wyT tbl x = some dd) : ∃ c fs ds, (c, fs) ∈ tbl ∧ ds.length = fs.length ∧ x = xcE c fs ds ∧ dd = .tup (.str c.cps.toList :: ds) := by
  unfold wyT at h
  split at h
  · rename_i fs hf
    split at h
    · rename_i hc
      cases h
      refine ⟨x.cls, fs, _, lookup_mem hf, ?_, hc.2, rfl⟩
      unfold xfD
      rw [List.length_reverse, List.length_map, List.length_drop]
      omega
    · cases h
  · cases h
end G48

set_option Elab.async false
set_option linter.all false
set_option maxRecDepth 100000
set_option maxHeartbeats 4000000
namespace G48
open PySem PySem.Spec PyProof.Rows L2 SX
/-! ### the head's look: few addresses -/
def refsY (g : Addr → Option Obj) (a : Addr) : List Addr := match Nat.beq a mainGlobals with
  | true => []
  | false => match g a with
    | some o => He.refsD o
    | none => []
def memY (a : Addr) : List Addr → Bool
  | [] => false
  | b :: r => match Nat.beq a b with
    | true => true
    | false => memY a r
def addY (seen : List Addr) : List Addr → List Addr
  | [] => seen
  | a :: r => match memY a seen with
    | true => addY seen r
    | false => addY (a :: seen) r
/-- new ones alone are looked at in the next turn -/
def growY (g : Addr → Option Obj) : Nat → List Addr → List Addr → List Addr
  | 0, seen, _ => seen
  | n + 1, seen, new => growY g n (addY seen (new.flatMap (refsY g))) (new.flatMap (refsY g))
def asY (g : Addr → Option Obj) (n : Nat) (xs : List Str) : List Addr := growY g n (addY [mainGlobals, cStatics] (xs.map (He.ga (He.frG g [mainGlobals])))) (xs.map (He.ga (He.frG g [mainGlobals])))
/-- through a match, so that it is reckoned once -/
def frL {α : Type} (l : List Addr) (k : List Addr → α) : α := match l with
  | [] => k []
  | a :: r => k (a :: r)
theorem frL_eq {α : Type} (l : List Addr) (k : List Addr → α) : frL l k = k l := by cases l <;> rfl
def obsY (n : Nat) (xs : List Str) (fa : List He.Fa) (fn : List He.DefD) (tf : List He.Defn) (ex : PySem.W.Frag → Bool) (g : Addr → Option Obj) : He.AlX := (He.obsT fa fn [] (He.frT g (asY g n xs)), ex (He.frT g (asY g n xs)) && He.tabsB g tf (He.frT g (asY g n xs)))
theorem says_of {as : List Addr} {fa : List He.Fa} {fn : List He.DefD} {tf : List He.Defn} {ex : PySem.W.Frag → Bool} {w : World} {h : Heap} (e1 : He.obsT fa fn [] (He.frT h.get? as) = He.valT fn [] w) (e2 : (ex (He.frT h.get? as) && He.tabsB h.get? tf (He.frT h.get? as)) = true) : He.SaysX fa fn [] tf ex w h (He.frT h.get? as) := by
  generalize hK : He.frT h.get? as = K at e1 e2
  obtain ⟨q1, q2⟩ := Bool.and_eq_true_iff.mp e2
  have at_ : ∀ p, p ∈ tf → PySem.W.codeHdIn K (He.cT K p).1 (He.cT K p).2 = true ∧ ∃ o, h.get? (He.cT K p).2 = some o ∧ He.emptyTab o = true := fun p hp => by
    obtain ⟨q3, q4⟩ := Bool.and_eq_true_iff.mp (List.all_eq_true.mp q2 p hp)
    cases hh : h.get? (He.cT K p).2 with
    | none => rw [hh] at q4; cases q4
    | some o => rw [hh] at q4; exact ⟨q3, o, rfl, q4⟩
  refine ⟨e1, q1, fun p hp => (at_ p hp).1, fun p hp => ?_, fun p hp => ?_⟩
  · obtain ⟨_, o, e, z⟩ := at_ p hp
    rw [← hK] at e ⊢
    exact He.frT_none e z
  · obtain ⟨_, o, e, z⟩ := at_ p hp
    rw [e, He.emptyTab_eq z]
def hookY (n : Nat) (xs : List Str) (fa : List He.Fa) (fn : List He.DefD) (tf : List He.Defn) (ex : PySem.W.Frag → Bool) : PySem.W.Hook where
  α := He.AlX
  obs := fun s => obsY n xs fa fn tf ex s.heap.get?
  val := fun w => He.valX fn [] w
  says := fun w h => ∃ K : PySem.W.Frag, K.In h ∧ He.SaysX fa fn [] tf ex w h K
  of := fun _ _ e => ⟨_, He.frT_in, says_of (congrArg (fun z : He.AlX => z.1) e) (congrArg (fun z : He.AlX => z.2) e)⟩
  keeps := fun _ _ _ ⟨K, hK, c⟩ k => ⟨K, PySem.W.Frag.In.keeps hK k, ⟨c.t, c.more, c.hd, c.out, fun p hp => k _ _ (c.empty p hp)⟩⟩
theorem obsY_eq {n : Nat} {xs : List Str} {fa : List He.Fa} {fn : List He.DefD} {tf : List He.Defn} {ex : PySem.W.Frag → Bool} {s : PySem.W.SharedT} : obsY n xs fa fn tf ex (HandSHeadRun.getT s) = (hookY n xs fa fn tf ex).obs s.abs := by
  have e : HandSHeadRun.getT s = s.abs.heap.get? := funext (HandSHeadRun.getT_eq s)
  rw [e]
  rfl
/-- the run's parts, each for itself -/
theorem run_two {α β γ δ : Type} {o : Option α} {f : α → β} {g : α → γ} {k : α → δ} {b : β} {c : γ} {d : δ} (h1 : o.map (fun s => (f s, g s)) = some (b, c)) (h3 : o.map k = some d) : o.map (fun s => (f s, g s, k s)) = some (b, c, d) := by
  cases o with
  | none => cases h3
  | some s =>
    obtain ⟨e1, e2⟩ := Prod.mk.inj (Option.some.inj h1)
    have e3 : k s = d := Option.some.inj h3
    rw [Option.map_some, e1, e2, e3]
end G48

set_option Elab.async false
set_option linter.all false
set_option maxRecDepth 100000
set_option maxHeartbeats 4000000
namespace G48
open PySem PySem.Spec PyProof.Rows L2 SX
/-! ### a + b, a == b, len(a), x in a by own methods -/
def rOwn (X : Cx) (C : Addr) (sp : Sp) (E : XK) : R2 := fun x y H Q => ∃ a b, x = .ref a ∧ y = .ref b ∧ StX.InsC X H a C ∧ StX.InsC X H b C ∧ sp [.ref a, .ref b] H Q E
def rOwn1 (X : Cx) (C : Addr) (sp : Sp) (E : XK) : V → Hp → VK → Prop := fun x H Q => ∃ a, x = .ref a ∧ StX.InsC X H a C ∧ sp [.ref a] H Q E
section
variable {X : Cx} {K : PySem.W.Frag} {Z : Zt} {W : WX} {q qa qb : Bool} {wa wb : IE} {k j n : Nat} {L : List Nat} {isp : ISp} {sp : Sp} {c m : Str} {a b e : Expr} {pos p : Pos} {ta tb : TE}
theorem run_own {A : Around} {pins : List (Addr × Obj)} {σ : L2.St} {H : Hp} {s : Shared} {Q : VK} {us : List Value} {vs : List V} {f : Addr} {fd : FuncData} {ps : List Str} {E : XK} (F : FnOk X.prog X.w X.K X.mg X.base (L2.CX X.prog X.w) k f fd ps sp) (hr : Room k A) (hA : A.frames = X.A.frames) (hb : Binds X.K fd ps []) (hx : PassesAt (L2.CX X.prog X.w) X σ E)
    (I : Inv X pins σ H s) (r : Vals vs us) (h : sp vs H Q E) : wpAny (model X.prog X.w) A (call (.ref f) us) (EP X pins σ Q) X.xe s := by
  have hl : (us ++ []).length = ps.length := by rw [List.append_nil, ← r.length]; exact F.len _ _ _ _ h
  have bb := hb s us I.kIn hl
  rw [List.append_nil] at bb
  have e0 : Env0 X.prog X.w X.K X.mg X.base A X.stack s H := by
    have e := I.env0
    exact ⟨by rw [hA]; exact e.frames, e.mod, e.bs, e.bsz, e.funs, e.frf, e.hok, e.bare⟩
  refine wpAny_call (codeAny_mono (F.run A X.stack s H ⟨us, []⟩ us vs Q E hr e0 bb r h) ?_)
  intro res s' hq'
  match res, hq' with
  | .error e, hq' => exact hx pins _ _ e s' I hq'
  | .ok (.ret u), hq' => exact I.after hq'
theorem ep_back {pins : List (Addr × Obj)} {σ : L2.St} {Q : VK} {v : Value} {s : Shared} (h : EP X pins σ Q v s) : PySem.W.CmpBack (EP X pins σ Q) v s := by
  obtain ⟨z, H, I, r, q⟩ := h
  cases z with
  | non => cases r; exact ⟨.non, H, I, rfl, q⟩
  | bl x => cases r; exact ⟨.bl x, H, I, rfl, q⟩
  | int x => obtain ⟨t, rfl⟩ := r; exact ⟨.int x, H, I, ⟨t, rfl⟩, q⟩
  | str x => obtain ⟨t, rfl⟩ := r; exact ⟨.str x, H, I, ⟨t, rfl⟩, q⟩
  | byt x => obtain ⟨t, rfl⟩ := r; exact ⟨.byt x, H, I, ⟨t, rfl⟩, q⟩
  | flt x => obtain ⟨t, rfl⟩ := r; exact ⟨.flt x, H, I, ⟨t, rfl⟩, q⟩
  | ref x => cases r; exact ⟨.ref x, H, I, rfl, q⟩
  | ty x => cases r; exact ⟨.ty x, H, I, rfl, q⟩
theorem pe_addO {op : Operator} (mc : MthX X.prog X.w X.K X.mg X.base k c (PySem.dunder op.info.2) sp) (sf : PySem.W.selfFirst X.K (He.ga X.K c) = true) (tk : Takes X W) (hr : Room j X.A) (hk : k ≤ j) (ha : PE X a ta) (hb : PE X b tb) : PE X (.BinOp a op b pos) (fun σ H Q => tOp (rOwn X (He.ga X.K c) sp (WE W σ)) ta tb σ H Q) := by
  obtain ⟨f, fd, ps, F, M, fi, hbd⟩ := mc.ex
  refine ⟨fun pins s σ H Q I h => wpAny_BinOp (binT ha hb I h fun v u s2 x y H2 I2 rx ry q2 => ?_)⟩
  obtain ⟨a1, b1, rfl, rfl, i1, i2, q2⟩ := q2
  cases rx
  cases ry
  obtain ⟨ox, od, J, _⟩ := StX.insC_at I2 i1
  obtain ⟨ox2, od2, J2, _⟩ := StX.insC_at I2 i2
  obtain ⟨m, hF⟩ := I2.fr
  refine PySem.W.binop_K hF I2.ok.mod.kin J J2.type sf M.at_ M.fn ?_
  exact wpAny_mono (run_own (us := [.ref a1, .ref b1]) (vs := [.ref a1, .ref b1]) F (hr.mono hk) rfl hbd (passAt tk σ) I2 (.cons rfl (.cons rfl .nil)) q2) (fun v s' z => ep_back z) fun _ _ z => z
theorem pe_eqO (mc : MthX X.prog X.w X.K X.mg X.base k c "__eq__" sp) (tk : Takes X W) (hr : Room j X.A) (hk : k ≤ j) (ha : PE X a ta) (hb : PE X b tb) : PE X (.Compare a [.Eq] [b] pos) (fun σ H Q => tOp (rOwn X (He.ga X.K c) sp (WE W σ)) ta tb σ H Q) := by
  obtain ⟨f, fd, ps, F, M, fi, hbd⟩ := mc.ex
  refine ⟨fun pins s σ H Q I h => wpAny_Compare1 (binT ha hb I h fun v u s2 x y H2 I2 rx ry q2 => ?_) (nomark _)⟩
  obtain ⟨a1, b1, rfl, rfl, i1, i2, q2⟩ := q2
  cases rx
  cases ry
  obtain ⟨ox, od, J, _⟩ := StX.insC_at I2 i1
  obtain ⟨ox2, od2, J2, _⟩ := StX.insC_at I2 i2
  obtain ⟨m, hF⟩ := I2.fr
  show wpAny (model X.prog X.w) X.A (richCompare .Eq (.ref a1) (.ref b1)) _ _ _
  refine PySem.W.cmp_K (op := .Eq) (tb := .ref (He.ga X.K c)) hr.units0 hF I2.ok.mod.kin J J2.type (by simp [PySem.W.notFirst]) M.at_ M.fn ?_
  exact wpAny_mono (run_own (us := [.ref a1, .ref b1]) (vs := [.ref a1, .ref b1]) F (hr.mono hk) rfl hbd (passAt tk σ) I2 (.cons rfl (.cons rfl .nil)) q2) (fun v s' z => ep_back z) fun _ _ z => z
end
/-- both are instances of c; all is frozen -/
def iOwn (c m : Str) (isp : ISp) (wa wb : IE) : IE := fun ρ Q E => wa ρ (fun u ρ1 => fzU ρ1 u fun d1 ρ2 => wb ρ2 (fun v ρ3 => fzU ρ3 v fun d2 ρ4 => recO c m (.fr d1) = true ∧ recO c m (.fr d2) = true ∧ callI 2 [] isp [.d d1, .d d2] ρ4 Q E) E) E
section
variable {X : Cx} {K : PySem.W.Frag} {Z : Zt} {W : WX} {q qa qb : Bool} {wa wb : IE} {k j n : Nat} {L : List Nat} {isp : ISp} {c m : Str} {a b e : Expr} {pos p : Pos}
theorem own_ev {σ : L2.St} {H : Hp} {Q : VK} (h : Ev X.K Z W false (iOwn c m isp wa wb) σ H Q) : tOp (rOwn X (He.ga X.K c) (spI X.K 2 [] isp) (WE W σ)) (Ev X.K Z W qa wa) (Ev X.K Z W qb wb) σ H Q := by
  obtain ⟨Sh, ρ, Q0, E0, R, h, hq, hx⟩ := h
  refine ⟨Sh, ρ, _, E0, R, h, fun u ρ1 S1 H1 v h1 p1 => ?_, hx⟩
  obtain ⟨d1, ρ2, S2, h2, m2, f2⟩ := p1.fz h1
  refine ⟨S2, ρ2, _, E0, m2.rl, h2, fun u3 ρ3 S3 H3 v3 h3 p3 => ?_, fun x ρ' S' H' cls d e p => hx x ρ' S' H' cls d e (m2.px p)⟩
  obtain ⟨d2, ρ4, S4, ⟨r1, r2, h4⟩, m4, f4⟩ := p3.fz h3
  have f2' := Fz.mono m4.gx.ss _ _ f2
  obtain ⟨a1, dx, vs, rfl, e1, l1⟩ := recO_at (o := .fr d1) m4.rl.sh f2' r1
  obtain ⟨b1, dy, ys, rfl, e2, l2⟩ := recO_at (o := .fr d2) m4.rl.sh f4 r2
  exact ⟨a1, b1, rfl, rfl, .inr ⟨_, _, e1⟩, .inr ⟨_, _, e2⟩, call_core (as := [.d d1, .d d2]) (m2.trans m4) (.cons f2' (.cons f4 .nil)) h4 hq hx⟩
theorem ev_addO {op : Operator} (hK : X.K = K) (mc : MthX X.prog X.w X.K X.mg X.base k c (PySem.dunder op.info.2) (spI X.K 2 [] isp)) (sf : PySem.W.selfFirst X.K (He.ga X.K c) = true) (tk : Takes X W) (hr : Room j X.A) (hk : k ≤ j) (ha : PE X a (Ev K Z W qa wa)) (hb : PE X b (Ev K Z W qb wb)) : PE X (.BinOp a op b pos) (Ev K Z W false (iOwn c m isp wa wb)) := by
  subst hK
  exact (pe_addO mc sf tk hr hk ha hb).weak fun σ H Q h => own_ev h
theorem ev_eqO (hK : X.K = K) (mc : MthX X.prog X.w X.K X.mg X.base k c "__eq__" (spI X.K 2 [] isp)) (tk : Takes X W) (hr : Room j X.A) (hk : k ≤ j) (ha : PE X a (Ev K Z W qa wa)) (hb : PE X b (Ev K Z W qb wb)) : PE X (.Compare a [.Eq] [b] pos) (Ev K Z W false (iOwn c m isp wa wb)) := by
  subst hK
  exact (pe_eqO mc tk hr hk ha hb).weak fun σ H Q h => own_ev h
end
section
variable {X : Cx} {K : PySem.W.Frag} {Z : Zt} {W : WX} {qa qb : Bool} {wa wb : IE} {k j : Nat} {isp : ISp} {sp : Sp} {c m : Str} {a b : Expr} {pos : Pos} {ta tb : TE}
theorem pt_eqO (mc : MthX X.prog X.w X.K X.mg X.base k c "__eq__" sp) (tk : Takes X W) (hr : Room j X.A) (hk : k ≤ j) (ha : PE X a ta) (hb : PE X b tb) : PT X (.Compare a [.Eq] [b] pos) (fun σ H Q => tOp (rOwn X (He.ga X.K c) sp (WE W σ)) ta tb σ H (fun x H' => ∃ b, x = .bl b ∧ Q b H')) := by
  obtain ⟨f, fd, ps, F, M, fi, hbd⟩ := mc.ex
  refine ⟨fun pins s σ H Q I h => ?_⟩
  refine wpAny_isTrue_Compare1 (thn (ha.run pins s σ H _ I h) fun v s1 ⟨x, H1, I1, r1, q1⟩ => thn (hb.run pins s1 σ H1 _ I1 q1) fun u s2 ⟨y, H2, I2, r2, q2⟩ => ?_) (nomark _)
  obtain ⟨a1, b1, rfl, rfl, i1, i2, q2⟩ := q2
  cases r1
  cases r2
  obtain ⟨ox, od, J, _⟩ := StX.insC_at I2 i1
  obtain ⟨ox2, od2, J2, _⟩ := StX.insC_at I2 i2
  obtain ⟨m, hF⟩ := I2.fr
  refine thn (show wpAny (model X.prog X.w) X.A (richCompare .Eq (.ref a1) (.ref b1)) (EP X pins σ (fun x H' => ∃ b, x = .bl b ∧ Q b H')) X.xe s2 from ?_) fun c s3 ⟨z, H3, I3, r3, k3, e3, q3⟩ => ?_
  · refine PySem.W.cmp_K (op := .Eq) (tb := .ref (He.ga X.K c)) hr.units0 hF I2.ok.mod.kin J J2.type (by simp [PySem.W.notFirst]) M.at_ M.fn ?_
    exact wpAny_mono (run_own (us := [.ref a1, .ref b1]) (vs := [.ref a1, .ref b1]) F (hr.mono hk) rfl hbd (passAt tk σ) I2 (.cons rfl (.cons rfl .nil)) q2) (fun v s' z => ep_back z) fun _ _ z => z
  · subst e3
    cases r3
    exact wpAny_truthy_bool ⟨H3, I3, q3⟩
theorem et_eqO (hK : X.K = K) (mc : MthX X.prog X.w X.K X.mg X.base k c "__eq__" (spI X.K 2 [] isp)) (tk : Takes X W) (hr : Room j X.A) (hk : k ≤ j) (ha : PE X a (Ev K Z W qa wa)) (hb : PE X b (Ev K Z W qb wb)) : PT X (.Compare a [.Eq] [b] pos) (EvT K Z W false (iTst (iOwn c m isp wa wb))) := by
  subst hK
  exact (pt_eqO mc tk hr hk ha hb).weak fun σ H Q h => own_ev (et_tB h)
end
/-! ### isinstance(x, C) -/
def isiC (c : Str) : D → Option O
  | .ins c' _ => if (c' == c) = true then some (.fr (.bl true)) else none
  | .int _ => some (.fr (.bl false))
  | .str _ => some (.fr (.bl false))
  | .tup _ => some (.fr (.bl false))
  | .lst _ => some (.fr (.bl false))
  | _ => none
section
variable {X : Cx} {K : PySem.W.Frag} {Z : Zt} {W : WX} {q qa : Bool} {wa : IE} {c : Str} {fs : List Str} {a : Expr} {pos p p1 : Pos}
theorem ev_isiO (hK : X.K = K) (kc : Kls X.K X.mg c fs) (hg : Gl X "isinstance") (hm : X.mg "isinstance" = none) (hgc : Gl X c) (ha : PE X a (Ev K Z W qa wa)) (hdb : (c == ("__debug__" : Str)) = false := by decide)
    (he : starEach [a, .Name c p1] X.env = (false, eval a X.env) :: starEach [.Name c p1] X.env := by rfl) (he2 : starEach [.Name c p1] X.env = (false, eval (.Name c p1) X.env) :: starEach [] X.env := by rfl) :
    PE X (.Call (.Name "isinstance" p) [a, .Name c p1] [] pos) (Ev K Z W qa (iUn (isiC c) wa)) := by
  subst hK
  have hpl : (backTo pos (starEach [.Name c p1] X.env)).any (·.1) = false := by
    rw [he2]
    rfl
  refine (pe_callB call_isi hg hm (by decide +kernel) (pa_cons ha (pa_cons (pe_glob (v := .ref (He.ga X.K c)) hgc kc.gC rfl hdb) pa_nil he2) he) (he := he) (hpl := hpl)).weak fun σ H Q ⟨Sh, ρ, Q0, E0, R, h, hq, hx⟩ => ?_
  refine ⟨Sh, ρ, _, E0, R, h, fun u ρ1 S1 H1 v1 h1 p1 => ?_, hx⟩
  obtain ⟨d, e1, h1⟩ := ob_ex h1
  obtain ⟨o, e2, h1⟩ := ob_ex h1
  have sv := p1.ev.sv p1.rl e1
  have fin : ∀ (b : Bool) (t : Value), o = .fr (.bl b) → TyX X.K H1 v1 t → PySem.W.kitOne X.K t (.ref (He.ga X.K c)) = some b → tCons (tC (V.ref (He.ga X.K c))) tNil σ H1 fun xs H2 => (fun vs H1 => rIsi X.K vs H1 Q) (v1 :: xs) H2 := fun b t eo ty kt => by
    subst eo
    exact ⟨v1, .ref (He.ga X.K c), t, .ref (He.ga X.K c), b, rfl, .own _, ty, kt, hq _ _ _ _ _ h1 (p1.mid.fin (Res.fr p1.rl.sh (.bl _)))⟩
  cases d with
  | ins c' gs =>
    have e2 : (if (c' == c) = true then some (O.fr (.bl true)) else none) = some o := e2
    by_cases hc : (c' == c) = true
    · rw [if_pos hc] at e2
      cases e2
      cases (show Fz X.K S1 v1 (.ins c' gs) from sv) with
      | @ins ad dx _ xs _ k1 k2 =>
        have e3 : c' = c := eq_of_beq hc
        rw [e3] at k1
        exact fin true _ rfl (.base (.ins (p1.rl.sh _ _ k1) kc.cl kc.ca kc.cn kc.ct kc.cm)) kc.ik
    · rw [if_neg hc] at e2
      cases e2
  | int i => cases e2; exact fin false _ rfl (tyx_of p1.rl.sh sv rfl) (kc.io "int" (by decide))
  | str i => cases e2; exact fin false _ rfl (tyx_of p1.rl.sh sv rfl) (kc.io "str" (by decide))
  | tup i => cases e2; exact fin false _ rfl (tyx_of p1.rl.sh sv rfl) (kc.io "tuple" (by decide))
  | lst i => cases e2; exact fin false _ rfl (tyx_of p1.rl.sh sv rfl) (kc.io "list" (by decide))
  | _ => cases e2
end
/-! ### len(o) by __len__ -/
def rLenO (X : Cx) (C : Addr) (sp : Sp) (E : XK) : List V → Hp → VK → Prop := fun xs H Q => ∃ a, xs = [.ref a] ∧ StX.InsC X H a C ∧ sp [.ref a] H (fun v H' => ∃ n : Nat, v = .int (n : Int) ∧ n < 1000000 ∧ Q v H') E
section
variable {X : Cx} {K : PySem.W.Frag} {Z : Zt} {W : WX} {q qa : Bool} {wa : IE} {k j : Nat} {isp : ISp} {sp : Sp} {c : Str} {a : Expr} {pos p : Pos} {t : TA}
theorem pe_lenO (mc : MthX X.prog X.w X.K X.mg X.base k c "__len__" sp) (tk : Takes X W) (hr : Room (j + 1) X.A) (hk : k ≤ j) (hg : Gl X "len") (hm : X.mg "len" = none) (ha : PA X [a] t)
    (he : starEach [a] X.env = (false, eval a X.env) :: starEach [] X.env := by rfl) (hpl : (backTo pos (starEach [] X.env)).any (·.1) = false := by rfl) : PE X (.Call (.Name "len" p) [a] [] pos) (fun σ H Q => t σ H fun vs H1 => rLenO X (He.ga X.K c) sp (WE W σ) vs H1 Q) := by
  obtain ⟨f, fd, ps, F, M, fi, hbd⟩ := mc.ex
  refine ⟨fun pins s σ H Q I h => ?_⟩
  refine wpAny_Call_Name_kw (ld_blt I hg hm PySem.boot_len ?_ (by decide) (by decide))
  refine PyProof.Rows.callWith_builtin1 (thn (ha.run pos pins s σ H _ I h) fun us s1 ⟨vs, H1, I1, r1, q1⟩ => ?_) he hpl
  obtain ⟨a1, rfl, i1, q1⟩ := q1
  rw [Vals.ref1 r1]
  obtain ⟨ox, od, J, _⟩ := StX.insC_at I1 i1
  obtain ⟨m, hF⟩ := I1.fr
  refine PySem.W.len_K hF I1.ok.mod.kin J M.at_ M.fn ?_
  refine wpAny_mono (run_own (us := [.ref a1]) (vs := [.ref a1]) F ((hr.in1).mono hk) rfl hbd (passAt tk σ) I1 (.cons rfl .nil) q1) (fun v s' z => ?_) fun _ _ z => z
  obtain ⟨z, H2, I2, r2, n, rfl, hn, q2⟩ := z
  obtain ⟨tk2, rfl⟩ := r2
  refine ⟨⟨by omega, by omega⟩, .int (n : Int), H2, ?_, ⟨_, rfl⟩, q2⟩
  exact I2.kept (h' := s'.heap) (t' := s'.toks + 1) fun b o e => e
end
def iLenO (c : Str) (isp : ISp) (wa : IE) : IE := fun ρ Q E => wa ρ (fun u ρ1 => fzU ρ1 u fun d ρ2 => recO c "__len__" (.fr d) = true ∧ callI 1 [] isp [.d d] ρ2 (fun u ρ' => ∃ n : Nat, u = .va (.fr (.int (n : Int))) ∧ n < 1000000 ∧ Q u ρ') E) E
section
variable {X : Cx} {K : PySem.W.Frag} {Z : Zt} {W : WX} {q qa : Bool} {wa : IE} {k j : Nat} {isp : ISp} {c : Str} {a : Expr} {pos p : Pos}
theorem ev_lenO (hK : X.K = K) (mc : MthX X.prog X.w X.K X.mg X.base k c "__len__" (spI X.K 1 [] isp)) (tk : Takes X W) (hr : Room (j + 1) X.A) (hk : k ≤ j) (hg : Gl X "len") (hm : X.mg "len" = none) (ha : PE X a (Ev K Z W qa wa))
    (he : starEach [a] X.env = (false, eval a X.env) :: starEach [] X.env := by rfl) : PE X (.Call (.Name "len" p) [a] [] pos) (Ev K Z W false (iLenO c isp wa)) := by
  subst hK
  refine (pe_lenO mc tk hr hk hg hm (pa_cons ha pa_nil he) he).weak fun σ H Q ⟨Sh, ρ, Q0, E0, R, h, hq, hx⟩ => ?_
  refine ⟨Sh, ρ, _, E0, R, h, fun u ρ1 S1 H1 v h1 p1 => ?_, hx⟩
  obtain ⟨d, ρ2, S2, ⟨hc, h2⟩, m2, f2⟩ := p1.fz h1
  obtain ⟨a1, dx, vs, rfl, e1, l⟩ := recO_at (o := .fr d) m2.rl.sh f2 hc
  refine ⟨a1, rfl, .inr ⟨_, _, e1⟩, ?_⟩
  refine call_core (as := [.d d]) m2 (.cons f2 .nil) h2 (fun u ρ' S' H' v ⟨n, eu, hn, hz⟩ ps => ?_) hx
  subst eu
  have sv : Fz X.K S' v (.int (n : Int)) := ps.ev.1
  cases sv
  exact ⟨n, rfl, hn, hq _ _ _ _ _ hz ps⟩
end
/-! ### l[::-1] -/
def pRev : D → Option O
  | .lst ds => some (.lst ds.reverse)
  | _ => none
theorem ev_rev {X : Cx} {K : PySem.W.Frag} {Z : Zt} {W : WX} {qa : Bool} {wa : IE} {a : Expr} {pos p1 p2 p3 : Pos} {k : Nat} (hK : X.K = K) (ha : PE X a (Ev K Z W qa wa)) : PE X (.Subscript a (.Slice none none (some (.UnaryOp .USub (.Constant (.int 1) k p1) p2)) p3) pos) (Ev K Z W qa (iUn pRev wa)) := by
  subst hK
  refine (pe_revL ha).weak fun σ H Q h => un_ev (r := fun x H1 Q => ∃ a xs, x = .ref a ∧ SqL X.K H1 a xs ∧ ∀ p, H1 p = none → Q (.ref p) (upd H1 p (.lst xs.reverse))) (fun x H1 Q1 hu => ?_) h
  obtain ⟨Sh, d, o, sh, sv, e, q⟩ := hu
  cases d with
  | lst ds =>
    cases e
    obtain ⟨a1, xs, rfl, h1, f1⟩ := sv
    exact ⟨a1, xs, rfl, SqL.of h1, fun p hp => q _ _ _ (res_lst sh f1.rev hp)⟩
  | _ => cases e
end G48

set_option Elab.async false
set_option linter.all false
set_option maxRecDepth 100000
set_option maxHeartbeats 4000000
namespace G48
open PySem PySem.Spec PyProof.Rows L2 SX
/-! ### s.split(t), s.startswith(t), int(s) -/
/-- a plain separator -/
def sepOk (s : List Nat) : Bool := !s.isEmpty && s.all (· < 128)
def pSplit (l : List Nat) : D → Option O
  | .str s => if sepOk s = true ∧ l.length ≤ LIM then some (.lst ((TL.spl s 0 [] l).map .str)) else none
  | _ => none
def pStarts (l : List Nat) : D → Option O
  | .str s => if s.isEmpty = true then none else some (.fr (.bl (TL.pre s l)))
  | _ => none
theorem tl_S (l : List Nat) : TL.tl (S l) = l := rfl
theorem S_tl' (x : Str) : S (TL.tl x) = x := TL.ext_tl rfl
theorem fzl_strs {K : PySem.W.Frag} {Sh : Hp} : ∀ ls : List (List Nat), FzL K Sh ((ls.map S).map V.str) (ls.map D.str)
  | [] => .nil
  | l :: ls => .cons (.str l) (fzl_strs ls)
theorem kind1 {s : List Nat} (h : s.all (· < 128) = true) (x : Str) : ¬ Builtin.Str.strKind x < Builtin.Str.strKind (S s) := by
  have e : Builtin.Str.strKind (S s) = 1 := by
    unfold Builtin.Str.strKind
    rw [if_pos]
    rw [← Array.all_toList]
    show s.all (· < 256) = true
    rw [List.all_eq_true] at h ⊢
    intro c hc
    have := of_decide_eq_true (h c hc)
    exact decide_eq_true (by omega)
  rw [e]
  unfold Builtin.Str.strKind
  split
  · omega
  · split <;> omega
section
variable {X : Cx} {K : PySem.W.Frag} {Z : Zt} {W : WX} {qa qb : Bool} {wa wb : IE} {e o a : Expr} {pos : Pos}
theorem m_split : MtR X "str.split" (m1F X.K pSplit) := by
  intro pins s σ H x xs v us Q I rx rxs hh
  obtain ⟨Sh, l, y, d, o, sh, rfl, rfl, sv, e, q⟩ := hh
  cases d with
  | str t =>
    have e : (if sepOk t = true ∧ l.length ≤ LIM then some (O.lst ((TL.spl t 0 [] l).map .str)) else none) = some o := e
    by_cases hc : sepOk t = true ∧ l.length ≤ LIM
    · rw [if_pos hc] at e
      cases e
      rw [sv_str sv] at rxs
      obtain ⟨h1, h2⟩ := Bool.and_eq_true_iff.mp hc.1
      have ne : t ≠ [] := fun z => by rw [z] at h1; cases h1
      have es : Txt.split (S l) (S t) = (TL.spl t 0 [] l).map S := by
        have z := TL.split_spl (S l) (S t) (by rw [tl_S]; exact ne) (kind1 h2 _)
        rw [tl_S, tl_S] at z
        rw [← z, List.map_map]
        have id' : (S ∘ TL.tl) = id := funext S_tl'
        rw [id', List.map_id]
      refine mt_split pins s σ H _ _ v us Q I rx rxs ⟨S l, S t, rfl, rfl, ?_, ?_, fun p hp => ?_⟩
      · rw [S_len]
        cases t with
        | nil => exact absurd rfl ne
        | cons c r => rfl
      · rw [S_len]
        exact Nat.le_trans (Nat.add_le_add_right hc.2 2) (by decide)
      · rw [es]
        exact q _ _ _ (res_lst sh (fzl_strs _) hp)
    · rw [if_neg hc] at e
      cases e
  | _ => cases e
theorem ev_split {apos : Pos} (hK : X.K = K) (ho : PE X o (Ev K Z W qa wa)) (he : PE X e (Ev K Z W qb wb)) (hs : starEach [e] X.env = [(false, eval e X.env)] := by rfl) (hbase : attributeBase o "split" X.env (eval o X.env) = eval o X.env := by rfl) (hline : (apos.endLine == pos.line) = true := by rfl) :
    PE X (.Call (.Attribute o "split" apos) [e] [] pos) (Ev K Z W (qa && qb) (iM1 pSplit wa wb)) := ev_m1 hK F.slot_str_split F.type_str_split m_split ho he hs hbase hline
/-! partition -/
def parL (s l : List Nat) : List Nat × List Nat × List Nat := match TL.par s [] l with
  | some (a, b) => (a, s, b)
  | none => (l, [], [])
def pPart (l : List Nat) : D → Option O
  | .str s => if sepOk s = true ∧ l.length ≤ LIM then some (.fr (.tup [.str (parL s l).1, .str (parL s l).2.1, .str (parL s l).2.2])) else none
  | _ => none
theorem m_part : MtR X "str.partition" (m1F X.K pPart) := by
  intro pins s σ H x xs v us Q I rx rxs hh
  obtain ⟨Sh, l, y, d, o, sh, rfl, rfl, sv, e, q⟩ := hh
  cases d with
  | str t =>
    have e : (if sepOk t = true ∧ l.length ≤ LIM then some (O.fr (.tup [.str (parL t l).1, .str (parL t l).2.1, .str (parL t l).2.2])) else none) = some o := e
    by_cases hc : sepOk t = true ∧ l.length ≤ LIM
    · rw [if_pos hc] at e
      cases e
      rw [sv_str sv] at rxs
      obtain ⟨h1, h2⟩ := Bool.and_eq_true_iff.mp hc.1
      have ne : t ≠ [] := fun z => by rw [z] at h1; cases h1
      have es : Txt.partition (S l) (S t) = (S (parL t l).1, S (parL t l).2.1, S (parL t l).2.2) := by
        have z := TL.partition_par (S l) (S t) (by rw [tl_S]; exact ne)
        rw [z, tl_S, tl_S]
        unfold parL
        cases TL.par t [] l with
        | none => rfl
        | some p => rfl
      refine mt_partition pins s σ H _ _ v us Q I rx rxs ⟨S l, S t, rfl, rfl, ?_, ?_, fun p hp => ?_⟩
      · rw [S_len]
        cases t with
        | nil => exact absurd rfl ne
        | cons c r => rfl
      · rw [S_len]
        exact Nat.le_trans hc.2 (by decide)
      · rw [es]
        exact q _ _ _ (res_tup sh (.cons (.str _) (.cons (.str _) (.cons (.str _) .nil))) hp)
    · rw [if_neg hc] at e
      cases e
  | _ => cases e
theorem ev_part {apos : Pos} (hK : X.K = K) (ho : PE X o (Ev K Z W qa wa)) (he : PE X e (Ev K Z W qb wb)) (hs : starEach [e] X.env = [(false, eval e X.env)] := by rfl) (hbase : attributeBase o "partition" X.env (eval o X.env) = eval o X.env := by rfl) (hline : (apos.endLine == pos.line) = true := by rfl) :
    PE X (.Call (.Attribute o "partition" apos) [e] [] pos) (Ev K Z W (qa && qb) (iM1 pPart wa wb)) := ev_m1 hK F.slot_str_partition F.type_str_partition m_part ho he hs hbase hline
theorem m_starts : MtR X "str.startswith" (m1F X.K pStarts) := by
  intro pins s σ H x xs v us Q I rx rxs hh
  obtain ⟨Sh, l, y, d, o, sh, rfl, rfl, sv, e, q⟩ := hh
  cases d with
  | str t =>
    have e : (if t.isEmpty = true then none else some (O.fr (.bl (TL.pre t l)))) = some o := e
    by_cases hne : t.isEmpty = true
    · rw [if_pos hne] at e
      cases e
    rw [if_neg hne] at e
    cases e
    have ne : t ≠ [] := fun z => hne (by rw [z]; rfl)
    rw [sv_str sv] at rxs
    refine mt_startswith pins s σ H _ _ v us Q I rx rxs ⟨S l, S t, rfl, rfl, ?_⟩
    have es : Txt.startswith (S l) (S t) = TL.pre t l := by
      have z := TL.at_iff (x := S l) (y := S t) (by rw [tl_S]; exact ne) 0
      rw [tl_S, tl_S, List.drop_zero] at z
      have w : Txt.startswith (S l) (S t) = true ↔ TL.pre t l = true := by
        refine Iff.trans ?_ z
        unfold Txt.startswith
        rw [Bool.and_eq_true_iff, decide_eq_true_iff]
        exact Iff.rfl
      cases h1 : Txt.startswith (S l) (S t) with
      | true => exact (w.mp h1).symm
      | false =>
        cases h2 : TL.pre t l with
        | true => rw [w.mpr h2] at h1; cases h1
        | false => rfl
    rw [es]
    exact q _ _ _ (Res.fr sh (.bl _))
  | _ => cases e
theorem ev_starts {apos : Pos} (hK : X.K = K) (ho : PE X o (Ev K Z W qa wa)) (he : PE X e (Ev K Z W qb wb)) (hs : starEach [e] X.env = [(false, eval e X.env)] := by rfl) (hbase : attributeBase o "startswith" X.env (eval o X.env) = eval o X.env := by rfl) (hline : (apos.endLine == pos.line) = true := by rfl) :
    PE X (.Call (.Attribute o "startswith" apos) [e] [] pos) (Ev K Z W (qa && qb) (iM1 pStarts wa wb)) := ev_m1 hK F.slot_str_startswith F.type_str_startswith m_starts ho he hs hbase hline
/-! int(s), divmod(a, b) -/
def digL (l : List Nat) : Bool := !l.isEmpty && (l.all (fun c => decide (48 ≤ c) && decide (c ≤ 57)) && decide (l.length ≤ 640))
def pIntS : D → Option O
  | .str l => if digL l = true then some (.fr (nD (NumText.digitsVal l))) else none
  | _ => none
theorem b_intS : CallR X (.type "int") (c1F X.K pIntS) := by
  intro pins s σ H xs us Q I r hh
  obtain ⟨x, rfl, Sh, d, o, sh, s1, e, q⟩ := hh
  cases d with
  | str l =>
    have e : (if digL l = true then some (O.fr (nD (NumText.digitsVal l))) else none) = some o := e
    by_cases hc : digL l = true
    · rw [if_pos hc] at e
      cases e
      rw [sv_str s1] at r
      obtain ⟨h1, h2⟩ := Bool.and_eq_true_iff.mp hc
      obtain ⟨h2, h3⟩ := Bool.and_eq_true_iff.mp h2
      have h3 := of_decide_eq_true h3
      have ne : l ≠ [] := fun z => by rw [z] at h1; cases h1
      exact call_int_str pins s σ H _ us Q I r ⟨S l, _, rfl, int_S h2 ne (by omega), by rw [S_len]; exact h3, q _ _ _ (Res.fr sh (.int _))⟩
    · rw [if_neg hc] at e
      cases e
  | _ => cases e
end
end G48

set_option Elab.async false
set_option linter.all false
set_option maxRecDepth 100000
set_option maxHeartbeats 4000000
namespace G48
open PySem PySem.Spec PyProof.Rows L2 SX
/-! ### why(lambda x=0: e): a lambda with one parameter that has its default -/
structure LamSD (N : List Str) (sc scope : Scope) (x : Str) : Prop where
  kind : scope.kind = .function
  co : scope.isCoroutine = false
  gen : scope.isGenerator = false
  cel : ∀ y ∈ scope.names, y.2 ≠ .cell
  own : ∀ y ∈ scope.names, y.2 = .local → y.1 ∉ N
  free : ∀ y ∈ scope.names, y.2 = .free → sc.names.lookup y.1 = some .cell ∨ sc.names.lookup y.1 = some .free
  bnd : scope.names.lookup x = some .local
def lamSDB (N : List Str) (sc scope : Scope) (x : Str) : Bool :=
  decide (scope.kind = .function) && !scope.isCoroutine && !scope.isGenerator && decide (scope.names.lookup x = some .local) && scope.names.all fun y => !decide (y.2 = .cell) && (!decide (y.2 = .local) || !decide (y.1 ∈ N)) && (!decide (y.2 = .free) || decide (sc.names.lookup y.1 = some .cell) || decide (sc.names.lookup y.1 = some .free))
theorem lamSD_by {N : List Str} {sc scope : Scope} {x : Str} (h : lamSDB N sc scope x = true) : LamSD N sc scope x := by
  unfold lamSDB at h
  simp only [Bool.and_eq_true, Bool.or_eq_true, Bool.not_eq_true', decide_eq_true_eq, decide_eq_false_iff_not, List.all_eq_true] at h
  obtain ⟨⟨⟨⟨h1, h2⟩, h3⟩, h5⟩, h4⟩ := h
  refine ⟨h1, h2, h3, fun y hy => (h4 y hy).1.1, fun y hy e => ?_, fun y hy e => ?_, h5⟩
  · rcases (h4 y hy).1.2 with z | z
    · exact absurd e z
    · exact z
  · rcases (h4 y hy).2 with (z | z) | z
    · exact absurd e z
    · exact .inl z
    · exact .inr z
theorem LamSD.has {X : Cx} {scope : Scope} {x : Str} (L : LamSD X.N X.env.scope scope x) (ok : X.Ok) : ∀ y ∈ scope.names, y.2 = .free → ∃ c, X.env.cells.lookup y.1 = some c := fun y hy e => by
  rcases L.free y hy e with k | k
  · exact ok.has _ (.inl k)
  · exact ok.has _ (.inr k)
section
variable {X : Cx} {pins : List (Addr × Obj)} {σ : L2.St} {H HZ : Hp} {s s1 : Shared} {x : Str}
theorem lam_makeD {c P : Addr} {params : Arguments} {body : Expr} {scope : Scope} {pos dp : Pos} {i : Int} {j : Nat} {Q : Value → Shared → Prop} (I : Inv X pins σ H s) (TB : LamX.TabB X.base X.mg c P) (hcode : X.env.code = .ref c)
    (hT : LamX.TabS H P (X.env.qual ++ "<lambda>")) (hd0 : params.defaults = [.Constant (.int i) j dp]) (hk0 : params.kw_defaults = []) (hfree : ∀ y ∈ scope.names, y.2 = .free → ∃ c, X.env.cells.lookup y.1 = some c)
    (h : ∀ (f c' T : Addr) (u pm doc ctv : Value) (H1 : Hp) (s' : Shared), Inv X pins σ H1 s' → ExtP P H H1 → LamX.TabS H1 P (X.env.qual ++ "<lambda>") →
      s'.heap.get? f = some (PySem.W.kdv_obj "<lambda>" (X.env.qual ++ "<lambda>") params (.expr body) scope (cloFrom X.env.cells scope.names []) (.ref T) doc pm c' ctv) → H1 f = none → f ∉ frs X.stack →
      s'.heap.get? T = some (PySem.W.kdv_tup [u]) → H1 T = none → T ∉ frs X.stack → H1 c' = some (LamX.CodeO c' (X.env.qual ++ "<lambda>")) → Q (.ref f) s') :
    wpAny (model X.prog X.w) X.A (eval (.Lambda params body scope pos) X.env) Q X.xe s := by
  refine PySem.W.kdv_lam (by rw [hd0]; rfl) hk0 ?_
  rw [hd0]
  refine PySem.W.kdv_all1 ?_
  refine wpAny_mono ((pe_int (X := X) (i := i) (pos := dp)).run pins s σ H (fun v H1 => H1 = H) I rfl) (fun u s1 hu => ?_) (fun _ _ z => z)
  obtain ⟨v, H0, I0, _, rfl⟩ := hu
  refine PySem.W.kdv_all0 ?_
  rw [makeFunction_eq]
  simp only [List.zip_nil_right, List.filterMap_nil, List.isEmpty_nil, List.isEmpty_cons, if_true, pure_bind, Bool.false_eq_true, if_false]
  refine wpAny_bind (wpAny_newTextTuple ?_)
  have I2 : Inv X pins σ H0 { s1 with heap := s1.heap.push (PySem.W.kdv_tup [u]) } := I0.kept fun b o e => Heap.get?_push_of_some _ e
  have nT : H0 s1.heap.objs.size = none := I0.hok.fresh (Nat.le_refl _)
  have gT : (s1.heap.push (PySem.W.kdv_tup [u])).get? s1.heap.objs.size = some (PySem.W.kdv_tup [u]) := Heap.get?_push_size _ rfl
  have szT : (s1.heap.push (PySem.W.kdv_tup [u])).objs.size = s1.heap.objs.size + 1 := Heap.size_push _ _
  obtain ⟨ps, hP, ht, ha⟩ := hT
  have hPs : s1.heap.get? P = some { cls := .none, data := .fields ps } := I0.hok P _ hP
  have nTP : s1.heap.objs.size ≠ P := Nat.ne_of_gt (Heap.lt_size hPs)
  have nofr0 : ∀ f, s1.heap.objs.size ≤ f → f ∉ frs X.stack := fun f hf z => by
    rcases List.mem_cons.mp (I0.stkSub _ z) with e | e
    · have h1 := I0.lt
      rw [← e] at h1
      exact Nat.lt_irrefl _ (Nat.lt_of_lt_of_le h1 hf)
    · exact I0.nofs hf e
  have nofr := nofr0
  generalize hs2 : ({ s1 with heap := s1.heap.push (PySem.W.kdv_tup [u]) } : Shared) = s2 at I2
  have gT2 : s2.heap.get? s1.heap.objs.size = some (PySem.W.kdv_tup [u]) := by rw [← hs2]; exact gT
  have sz2 : s2.heap.objs.size = s1.heap.objs.size + 1 := by rw [← hs2]; exact szT
  have bP : s2.heap.BuiltinsAt X.mg P := TB.bm.keeps I2.bk
  have hP' : s2.heap.get? P = some { cls := .none, data := .fields ps } := I2.hok P _ hP
  show wpAny _ _ (makeTail _ _ _ _ _ _ (.ref s1.heap.objs.size) _ _ _ _) _ _ _
  cases hc : codeAmong pos ps.toList with
  | none =>
    refine PySem.W.kdv_makeTail (mg := X.mg) (c := c) (P := P) (ps := ps) (closure_ok hfree) I.ok.glob (I.mod.glob.keeps I2.bk) hcode (TB.code.keeps I2.bk) hP' ht hc TB.gP bP fun c' ctv doc h' tk hx hge hlt hrec htb => ?_
    obtain ⟨c2, oc, vs, t, e2, hoc, hd, hv⟩ := hrec
    cases e2
    have hsz : s2.heap.objs.size ≤ h'.objs.size := Nat.le_trans hge (Nat.le_of_lt hlt)
    have nC : H0 c' = none := I2.hok.fresh hge
    have I1 := LamX.inv_table (t' := tk) (more := #[rawInt pos.line, rawInt pos.col, .ref c']) (h' := h'.push (PySem.W.kdv_obj "<lambda>" (X.env.qual ++ "<lambda>") params (.expr body) scope (cloFrom X.env.cells scope.names []) (.ref s1.heap.objs.size) doc ((X.mg "__name__").getD .none) c' ctv)) I2 hP
      (fun b o hb e => Heap.get?_push_of_some _ (hx b o hb e)) (Heap.get?_push_of_some _ htb) hge ⟨oc, vs, t, Heap.get?_push_of_some _ hoc, hd, hv⟩
    have hE : ExtP P H0 (upd (upd H0 P (.tbl (ps ++ #[rawInt pos.line, rawInt pos.col, .ref c']))) c' (LamX.CodeO c' (X.env.qual ++ "<lambda>"))) := fun b o e n => by
      rw [upd_ne (ne_of_none n nC), upd_ne e]
      exact n
    have nP : ∀ {b : Addr}, H0 b = some (LamX.CodeO b (X.env.qual ++ "<lambda>")) → b ≠ P := fun {b} e z => by
      rw [z, hP] at e
      exact LamX.codeO_ne _ (Option.some.inj e).symm
    have eL : (ps ++ #[rawInt pos.line, rawInt pos.col, .ref c']).toList = ps.toList ++ [rawInt pos.line, rawInt pos.col, .ref c'] := by simp
    refine h h'.objs.size c' s1.heap.objs.size u ((X.mg "__name__").getD .none) doc ctv _ _ I1 hE ⟨_, by rw [upd_ne (ne_of_none hP nC), upd_same], by rw [eL]; exact PySem.TriplesOk_snoc _ _ _ _ ht, fun p' cv hcv => ?_⟩ (Heap.get?_push_size _ rfl) ?_ (nofr _ (by omega)) (Heap.get?_push_of_some _ (hx _ _ nTP gT2)) ?_ (nofr _ (Nat.le_refl _)) upd_same
    · rw [eL] at hcv
      rcases LamX.among_app _ ht hcv with z | z
      · obtain ⟨c0, e1, e2⟩ := ha p' cv z
        exact ⟨c0, e1, hE _ _ (nP e2) e2⟩
      · exact ⟨c', z, upd_same⟩
    · have n1 : h'.objs.size ≠ c' := Nat.ne_of_gt hlt
      have n2 : h'.objs.size ≠ P := Nat.ne_of_gt (Nat.lt_of_lt_of_le (Heap.lt_size hP') hsz)
      rw [upd_ne n1, upd_ne n2]
      exact I2.hok.fresh hsz
    · have n1 : s1.heap.objs.size ≠ c' := by omega
      rw [upd_ne n1, upd_ne nTP]
      exact nT
  | some cv =>
    obtain ⟨c', e, hco⟩ := ha pos cv hc
    subst e
    refine PySem.W.kdv_makeTailHit (mg := X.mg) (c := c) (P := P) (ps := ps) (closure_ok hfree) I.ok.glob (I.mod.glob.keeps I2.bk) hcode (TB.code.keeps I2.bk) hP' ht hc bP fun ctv doc h' tk hx hsz => ?_
    have I1 : Inv X pins σ H0 { s2 with heap := h'.push (PySem.W.kdv_obj "<lambda>" (X.env.qual ++ "<lambda>") params (.expr body) scope (cloFrom X.env.cells scope.names []) (.ref s1.heap.objs.size) doc ((X.mg "__name__").getD .none) c' ctv), toks := tk } := I2.kept fun b o e => Heap.get?_push_of_some _ (hx b o e)
    exact h h'.objs.size c' s1.heap.objs.size u ((X.mg "__name__").getD .none) doc ctv H0 _ I1 (fun _ _ _ e => e) ⟨ps, hP, ht, ha⟩ (Heap.get?_push_size _ rfl) (I2.hok.fresh hsz) (nofr _ (by omega)) (Heap.get?_push_of_some _ (hx _ _ gT2)) nT (nofr _ (Nat.le_refl _)) hco
theorem lam_startD {A : Around} {outer : List Env} {E : XK} {scope : Scope} {f c' : Addr} {h₁ : Heap} {tk : Nat} {bs : List (Str × Value)} (I : Inv X pins σ H s) (L : LamSD X.N X.env.scope scope x) (e0 : Env0 X.prog X.w X.K X.mg X.base A outer s1 HZ) (hd : A.handled = none)
    (un : Un (frs X.stack) [] H HZ s.heap s1.heap) (hns : h₁.Ns s1.heap.objs.size fun y => bs.reverse.lookup y) (kp : ∀ b o, s1.heap.get? b = some o → h₁.get? b = some o) :
    Inv (LamX.lamCx X A outer s1 HZ E scope f c') [] σ HZ { s1 with heap := h₁, toks := tk } := by
  have hfree := L.has I.ok
  have cm : ∀ {y c}, (cloFrom X.env.cells scope.names []).lookup y = some c → X.env.cells.lookup y = some c := fun {y c} e => by
    rcases cloFrom_mem (PySem.mem_of_lookup e) with hm | ⟨h1, h2⟩
    · cases hm
    · obtain ⟨c1, hc⟩ := hfree _ h1 rfl
      have hc : X.env.cells.lookup y = some c1 := hc
      have e2 : c = c1 := by
        rw [h2, hc] <;> rfl
      rw [e2]
      exact hc
  have look : ∀ {y}, scope.names.lookup y = some .free → ∃ c, (cloFrom X.env.cells scope.names []).lookup y = some c := fun {y} hl => by
    have hy : (y, NameKind.free) ∈ scope.names := PySem.mem_of_lookup hl
    exact mem_lookup (cloFrom_has (cells := X.env.cells) (acc := []) hy)
  have cellK : ∀ {c : Addr} {v : Option Value}, H c = none → s.heap.IsCell c v → h₁.IsCell c v := fun {c v} n ⟨o, ho, hd⟩ => by
    obtain ⟨sl, q⟩ := un.any ho n (by simp)
    exact ⟨_, kp _ _ q, hd⟩
  have noA : ∀ b : Addr, b ∉ (LamX.lamCx X A outer s1 HZ E scope f c').ex := fun b z => absurd (show b ∈ ([] : List Addr) from z) (by simp)
  refine ⟨⟨e0.mod, L.kind, rfl, rfl, Nat.le_refl _, fun y z c e1 e2 => I.ok.inj y z c (cm e1) (cm e2), fun y hy => ?_, fun y c z _ => ?_, fun _ => hd, Around.frames_deeper e0.frames, .inr ⟨rfl, rfl⟩, fun b z => absurd z (noA b), e0.bs, e0.bsz, fun b _ _ => noA b,
      fun b z => absurd z (noA b), e0.funs, e0.frf⟩,
    rfl, e0.bare, Un.kept kp, ⟨_, hns, fun i y v e1 e2 e3 => ?_⟩, fun y c e => ?_, e0.hok.fresh (Nat.le_refl _), fun y c e => ?_, fun q hq => absurd (show q ∈ ([] : List (Addr × Obj)) ++ [] from hq) (by simp), e0.hok.kept kp, I.len⟩
  · have hy : scope.names.lookup y = some .cell ∨ scope.names.lookup y = some .free := hy
    rcases hy with hy | hy
    · exact absurd rfl (L.cel _ (PySem.mem_of_lookup hy))
    · exact look hy
  · have z : false = true := z
    cases z
  · have e3 : Vis scope y := e3
    have e1 : X.N[i]? = some y := e1
    rcases e3 with k | k | k
    · exact absurd (List.mem_of_getElem? e1) (L.own _ (PySem.mem_of_lookup k) rfl)
    · exact absurd rfl (L.cel _ (PySem.mem_of_lookup k))
    · obtain ⟨m, hn, hl⟩ := I.loc
      have hvis : Vis X.env.scope y := (L.free _ (PySem.mem_of_lookup k) rfl).elim (fun k => .inr (.inl k)) (fun k => .inr (.inr k))
      obtain ⟨w', r, q⟩ := hl i y v e1 e2 hvis
      obtain ⟨c2, h2⟩ := look k
      refine ⟨w', r, .inr ⟨.inr k, c2, h2, ?_⟩⟩
      have c1 := cm h2
      rcases q with ⟨k', _⟩ | ⟨_, c3, e', z⟩
      · have k' : X.env.scope.names.lookup y = some .local := k'
        rcases L.free _ (PySem.mem_of_lookup k) rfl with k2 | k2 <;> rw [show X.env.scope.names.lookup y = _ from k2] at k' <;> cases k'
      · rw [c1] at e'
        cases e'
        exact cellK (I.freeC y _ c1) z
  · obtain ⟨w', z⟩ := I.cell y c (cm e)
    exact ⟨w', cellK (I.freeC y c (cm e)) z⟩
  · obtain ⟨v, o, ho, hd⟩ := I.cell y c (cm e)
    exact un.free c o ho (I.freeC y c (cm e)) (by simp)
theorem pe_actD {CXg : CXT} {Eg : XK} {Ng : List Str} {qg : Str} {sg : Scope} {g f c' T : Addr} {cdg pm doc ctv u : Value} {params : Arguments} {body : Expr} {scope : Scope} {k i : Nat} {a : Str} {pn : List (Addr × Obj)} {xe : Value → Shared → Prop} {W : WX} {E : XK} {tb : TE} {p1 p2 : Pos}
    (I : Inv X pins σ H s) (L : LamSD X.N X.env.scope scope x) (hf : s.heap.get? f = some (PySem.W.kdv_obj "<lambda>" (X.env.qual ++ "<lambda>") params (.expr body) scope (cloFrom X.env.cells scope.names []) (.ref T) doc pm c' ctv)) (hfn : H f = none) (hfr : f ∉ frs X.stack)
    (hTt : s.heap.get? T = some (PySem.W.kdv_tup [u])) (hTn : H T = none) (hTr : T ∉ frs X.stack)
    (hbind : ∀ (s : Shared), s.heap.get? T = some (PySem.W.kdv_tup [u]) → BindsTo s (PySem.W.kdv_fn "<lambda>" (X.env.qual ++ "<lambda>") params (.expr body) scope (cloFrom X.env.cells scope.names []) (.ref T) doc pm (.ref c') ctv) ⟨[], []⟩ [(x, u)])
    (tk : Takes ((cxOf CXg X.prog X.w X.K X.mg X.base Ng qg sg g cdg X.A X.stack s H Eg).tr pn xe) W) (hW : ∀ cls d σ' H', E cls d H' → W cls d σ' H') (hr : Room (k + 1) (X.A.deeper (envOfC qg sg s.heap.objs.size g cdg)))
    (hbody : ∀ (A : Around) (outer : List Env) (s : Shared) (H : Hp), Room k (A.deeper (LamX.lamEnv X scope s.heap.objs.size f c')) → PE (LamX.lamCx X A outer s H E scope f c') body tb)
    (hN : Ng[i]? = some a) (hv : Vis sg a) (hd : (a == ("__debug__" : Str)) = false := by decide) (hcd : (a == ("__classdict__" : Str)) = false := by decide) :
    PE ((cxOf CXg X.prog X.w X.K X.mg X.base Ng qg sg g cdg X.A X.stack s H Eg).tr pn xe) (.Call (.Name a p1) [] [] p2)
      (fun σZ HZ Q => σZ[i]? = some (some (.ref f)) ∧ HZ c' = some (LamX.CodeO c' (X.env.qual ++ "<lambda>")) ∧ tb σ HZ Q) := by
  refine ⟨fun pinsZ sZ σZ HZ Q IZ h => ?_⟩
  obtain ⟨hs, hc, ht⟩ := h
  refine wpAny_Call_Name_kw (thn ((pe_var (pos := p1) (i := i) hN hv hd hcd).run pinsZ sZ σZ HZ (fun v H1 => v = .ref f ∧ H1 = HZ) IZ ⟨.ref f, hs, rfl, rfl⟩) fun u1 s1 ⟨v, H1, I1, r1, q1⟩ => ?_)
  obtain ⟨ev, eH⟩ := q1
  subst ev
  rw [eH] at I1
  obtain rfl : u1 = Value.ref f := r1
  have of1 : s1.heap.get? f = some (PySem.W.kdv_obj "<lambda>" (X.env.qual ++ "<lambda>") params (.expr body) scope (cloFrom X.env.cells scope.names []) (.ref T) doc pm c' ctv) := I1.base.keep f _ hf hfn hfr (fun z => nomatch (show f ∈ ([] : List Addr) from z))
  have oT1 : s1.heap.get? T = some (PySem.W.kdv_tup [u]) := I1.base.keep T _ hTt hTn hTr (fun z => nomatch (show T ∈ ([] : List Addr) from z))
  refine PySem.W.callWith_F0 ⟨_, _, _, _, of1⟩ ?_
  have un : Un (frs X.stack) [] H HZ s.heap s1.heap := I1.base
  obtain ⟨⟨oc, vs, t, hoc, hdc, hvc⟩, _, _⟩ := I1.hok c' _ hc
  have rc : codeAny (model X.prog X.w) (X.A.deeper (envOfC qg sg s.heap.objs.size g cdg)) (.call (.ref f) ⟨[], []⟩) (CR (L2.CX X.prog X.w) (envOfC qg sg s.heap.objs.size g cdg :: X.stack) X.prog X.w HZ s1 Q E) s1 := by
    refine PySem.W.kla_callFunE hr.depth of1 rfl L.co L.gen rfl ⟨c', oc, vs, t, rfl, hoc, hdc, hvc⟩ ?_
    refine hbind s1 oT1 _ _ _ _ ?_
    refine wpAny_newFunctionEnv (fun y hy => L.cel y hy) (fun y hy => ?_) (fun h₁ hns hsb => ⟨I1.nolimit.fresh _ hsb, ?_⟩) L.kind
    · rw [List.mem_singleton.mp hy]
      exact L.bnd
    show codeAny _ _ (.expr body (LamX.lamEnv X scope s1.heap.objs.size f c')) _ _
    have kp : ∀ b o, s1.heap.get? b = some o → h₁.get? b = some o := fun b o e => hsb.extBut b o (Nat.ne_of_lt (Heap.lt_size e)) (Heap.get?_push_of_some _ e)
    have J : Inv (LamX.lamCx X (X.A.deeper (envOfC qg sg s.heap.objs.size g cdg)) (envOfC qg sg s.heap.objs.size g cdg :: X.stack) s1 HZ E scope f c') [] σ HZ { s1 with heap := h₁, toks := s1.toks + [(x, u)].length } :=
      lam_startD I L I1.env0 hr.hd un hns kp
    refine PySem.W.kla_codeExpr (wpAny_mono ((hbody _ _ s1 HZ (hr.deeper _)).run [] _ _ HZ Q J ht) (fun v s' hq => ?_) fun e s' hq => hq)
    obtain ⟨w', H', J', rv, q⟩ := hq
    exact ⟨w', H', J'.os, J'.bare, J'.base, J'.hok, rv, q⟩
  have hx : Passes (L2.CX X.prog X.w) ((cxOf CXg X.prog X.w X.K X.mg X.base Ng qg sg g cdg X.A X.stack s H Eg).tr pn xe) E := passes_call tk hW
  refine wpAny_call (codeAny_mono rc fun r s' hq => ?_)
  cases r with
  | error e => exact hx pinsZ σZ HZ s1 e s' I1 hq
  | ok fl =>
    cases fl with
    | ret u => exact I1.after hq
    | next => exact False.elim hq
    | brk => exact False.elim hq
    | cont => exact False.elim hq
end
/-- f(lambda x=0: body), f a def of one parameter a -/
theorem pe_lamPD {X : Cx} {TT : (XK → Hp → VK → Prop) → Hp → VK → Prop} {x a dx : Str} {st : Stmt} {g c P : Addr} {k : Nat} {fd : FuncData} {Ng : List Str} {i : Int} {j : Nat} {dp : Pos}
    {params : Arguments} {body : Expr} {scope : Scope} {t : XK → TE} {p lpos pos : Pos} (hg : Gl X x) (hm : X.mg x = some (.ref g)) (F : Fun X.K x x st g fd) (Sg : FnScope Ng [a] (defScope st))
    (hbb : ∀ (kV doc pm : Value) (an : Option Addr) (cdv ct : Value) (us : List Value), us.length = 1 → bindArgs (PySem.W.fnOf x x (defArgs st) (defBody st) (defScope st) .none kV doc pm an cdv ct) ⟨us, []⟩ = pure ([a].zip us)) (hNg : Ng[0]? = some a) (hva : Vis (defScope st) a)
    (hG : ∀ cdv, LamX.GivesTo X Ng x (defScope st) g cdv (defBody st) a (X.env.qual ++ "<lambda>") TT)
    (TB : LamX.TabB X.base X.mg c P) (hcode : X.env.code = .ref c) (hr : Room (k + 2) X.A) (L : LamSD X.N X.env.scope scope dx) (hd0 : params.defaults = [.Constant (.int i) j dp]) (hk0 : params.kw_defaults = [])
    (hbind : ∀ (s : Shared) (T : Addr) (u : Value) (q : Str) (cl : List (Str × Addr)) (doc pm cv ctv : Value), s.heap.get? T = some (PySem.W.kdv_tup [u]) → BindsTo s (PySem.W.kdv_fn "<lambda>" q params (.expr body) scope cl (.ref T) doc pm cv ctv) ⟨[], []⟩ [(dx, u)])
    (hbody : ∀ (A : Around) (outer : List Env) (s : Shared) (H : Hp) (E : XK) (f c' : Addr), Room k (A.deeper (LamX.lamEnv X scope s.heap.objs.size f c')) → PE (LamX.lamCx X A outer s H E scope f c') body (t E))
    (hdb : (x == ("__debug__" : Str)) = false := by decide) (hd : (a == ("__debug__" : Str)) = false := by decide) (hcd : (a == ("__classdict__" : Str)) = false := by decide) :
    PE X (.Call (.Name x p) [.Lambda params body scope lpos] [] pos) (tLamP P (X.env.qual ++ "<lambda>") TT t) := by
  have hb : L2.Binds X.K fd [a] [] := F.binds hbb
  obtain ⟨oc, od, kV, doc, pm, an, cdv, ct, osl, rfl, lk, hcg⟩ := F.ex
  refine ⟨fun pins s σ H Q I h => ?_⟩
  obtain ⟨hT, h⟩ := h
  refine wpAny_Call_Name_kw (ld_glob I hg hm ?_ hdb)
  refine PySem.W.callWith_K (h₀ := X.base) I.ok.mod.kin F.kp ?_ (by rfl) (by rfl)
  show wpAny _ _ (spliced ((false, eval (.Lambda params body scope lpos) X.env) :: backTo pos (starEach [] X.env))) _ _ s
  refine Calls.spliced_cons (lam_makeD I TB hcode hT hd0 hk0 (L.has I.ok) fun f c' T u pm' doc' ctv H1 s' I1 eN T1 hf hfn hfr hTt hTn hTr hco => ?_)
  refine Calls.spliced_nil ⟨I1.kIn, ?_⟩
  have rc : codeAny (model X.prog X.w) X.A (.call (.ref g) ⟨[.ref f], []⟩) (CR C8.CX0 X.stack X.prog X.w H1 s' Q C8.E0) s' := by
    refine LamX.run_ofS (N := Ng) (ps := [a]) (us := [.ref f]) (vs := [.ref f]) lk hcg Sg hr I1.env0 (hb s' [.ref f] I1.kIn rfl) (.cons rfl .nil) rfl fun hr' => ?_
    obtain ⟨t', ht', hq'⟩ := hG cdv f c' s' H1 Q (fun E H' Q' => t E σ H' Q') (fun W pn xe E p1 p2 tk hW => pe_actD (i := 0) I1 L hf hfn hfr hTt hTn hTr (fun s hs => hbind s T u _ _ _ _ _ _ hs) tk hW hr' (fun A outer s H hr2 => hbody A outer s H E f c' hr2) hNg hva hd hcd) hco (h H1 eN T1)
    exact ⟨t', ht'.nox, hq'⟩
  refine wpAny_call (codeAny_mono rc fun r s2 hq => ?_)
  cases r with
  | error e => exact (show False from hq).elim
  | ok fl =>
    cases fl with
    | ret u => exact I1.after hq
    | next => exact False.elim hq
    | brk => exact False.elim hq
    | cont => exact False.elim hq
/-- as ev_why, of a lambda with one default -/
theorem ev_whyD {X : Cx} {K : PySem.W.Frag} {Z : Zt} {W : WX} {x a r dx : Str} {st : Stmt} {g c P : Addr} {k : Nat} {fd : FuncData} {Ng : List Str} {l : List Clause} {wy : Xc → Option D} {w : IE} {qb : Bool} {i : Int} {j : Nat} {dp : Pos}
    {params : Arguments} {body : Expr} {scope : Scope} {p lpos pos : Pos} (hK : X.K = K) (hZ : Z = some (P, X.env.qual ++ "<lambda>")) (hg : Gl X x) (hm : X.mg x = some (.ref g)) (F : Fun X.K x x st g fd) (Sg : FnScope Ng [a] (defScope st))
    (hbb : ∀ (kV doc pm : Value) (an : Option Addr) (cdv ct : Value) (us : List Value), us.length = 1 → bindArgs (PySem.W.fnOf x x (defArgs st) (defBody st) (defScope st) .none kV doc pm an cdv ct) ⟨us, []⟩ = pure ([a].zip us)) (hNg : Ng[0]? = some a) (hva : Vis (defScope st) a)
    (hG : ∀ cdv, LamX.GivesTo X Ng x (defScope st) g cdv (defBody st) a (X.env.qual ++ "<lambda>") (TTwhy X.K Ng.length r l))
    (hy : ∀ x dd, wy x = some dd → ∀ (S' H' : Hp) (cls : Value) (d : Option Addr) (Q : VK), Same S' H' → XAt K S' x cls d → (∀ v S'' H'', Res K S' H' (.fr dd) v S'' H'' → Q v H'') → ∀ σ : L2.St, σ.length = Ng.length → wManyA K (fun _ _ _ _ => False) { nx := fun _ H' => Q .non H', rt := Q } l cls d σ H')
    (TB : LamX.TabB X.base X.mg c P) (hcode : X.env.code = .ref c) (hr : Room (k + 2) X.A) (L : LamSD X.N X.env.scope scope dx) (hd0 : params.defaults = [.Constant (.int i) j dp]) (hk0 : params.kw_defaults = [])
    (hbind : ∀ (s : Shared) (T : Addr) (u : Value) (q : Str) (cl : List (Str × Addr)) (doc pm cv ctv : Value), s.heap.get? T = some (PySem.W.kdv_tup [u]) → BindsTo s (PySem.W.kdv_fn "<lambda>" q params (.expr body) scope cl (.ref T) doc pm cv ctv) ⟨[], []⟩ [(dx, u)])
    (hbody : ∀ (A : Around) (outer : List Env) (s : Shared) (H : Hp) (E : XK) (f c' : Addr), Room k (A.deeper (LamX.lamEnv X scope s.heap.objs.size f c')) → PE (LamX.lamCx X A outer s H E scope f c') body (Ev K Z (fun cls d _ H => E cls d H) qb w))
    (hdb : (x == ("__debug__" : Str)) = false := by decide) (hd : (a == ("__debug__" : Str)) = false := by decide) (hcd : (a == ("__classdict__" : Str)) = false := by decide) :
    PE X (.Call (.Name x p) [.Lambda params body scope lpos] [] pos) (Ev K Z W false (iWhy r wy w)) := by
  subst hK hZ
  refine (pe_lamPD hg hm F Sg hbb hNg hva hG TB hcode hr L hd0 hk0 hbind hbody hdb hd hcd).weak fun σ H Q ⟨Sh, ρ, Q0, E0, R, h, hq, hx⟩ => ?_
  obtain ⟨z1, z2⟩ := R.zk P _ rfl
  refine ⟨z2, fun H1 e T => ?_⟩
  obtain ⟨R1, G1⟩ := rl_ext R e T
  have M1 : Mid X.K (some (P, X.env.qual ++ "<lambda>")) false Sh H σ ρ ρ Sh H1 := ⟨R1, G1, fun z => by cases z⟩
  refine ⟨Sh, ρ, _, _, R1, h, fun u ρ' S' H' v hu p => ?_, fun x ρ' S' H' cls d hxx p σ' hs => ?_⟩
  · obtain ⟨dd, ρ2, S2, h2, m2, f2⟩ := p.fz hu
    refine ⟨(by show 2 ≤ sizeLine; decide), fun pp hp => ?_⟩
    exact hq _ _ _ _ _ h2 ((M1.trans m2).fin (res_tup m2.rl.sh (.cons fz_str (.cons f2 .nil)) hp))
  · obtain ⟨dd, e1, h1⟩ := ob_ex hxx
    have m3 : Mid X.K (some (P, X.env.qual ++ "<lambda>")) false Sh H1 σ ρ ρ' S' H' := ⟨p.rl, p.gx, fun z => by cases z⟩
    exact hy x dd e1 S' H' cls d Q p.rl.sh p.xa (fun v S'' H'' r => hq _ _ _ _ _ h1 ((M1.trans m3).fin r)) σ' hs
/-- a lambda of one parameter with its default binds so -/
theorem binds_one {s : Shared} {T : Addr} {u : Value} {q x : Str} {params : Arguments} {body : FuncBody} {scope : Scope} {cl : List (Str × Addr)} {doc pm cv ctv : Value} {k : Option (Array Value) → Sem (List (Str × Value))} (hs : s.heap.get? T = some (PySem.W.kdv_tup [u]))
    (h1 : bindArgs (PySem.W.kdv_fn "<lambda>" q params body scope cl (.ref T) doc pm cv ctv) ⟨[], []⟩ = seqItems? (.ref T) >>= k) (h2 : k (some #[u]) = pure [(x, u)]) : BindsTo s (PySem.W.kdv_fn "<lambda>" q params body scope cl (.ref T) doc pm cv ctv) ⟨[], []⟩ [(x, u)] :=
  BindsTo.of_defaults (T := T) rfl hs rfl h1 h2
/-- a statement that is never reached -/
def iDead : IS := fun _ _ => False
theorem es_dead {X : Cx} {K : PySem.W.Frag} {Z : Zt} {W : WX} {L : List Nat} {st : Stmt} : PS X st (EvS K Z W L iDead) := ⟨fun pins s σ H D I ⟨Sh, ρ, N, R, h, l⟩ => False.elim h⟩
/-- an expression that is never reached -/
def iDeadE : IE := fun _ _ _ => False
theorem ev_dead {X : Cx} {K : PySem.W.Frag} {Z : Zt} {W : WX} {q : Bool} {e : Expr} : PE X e (Ev K Z W q iDeadE) := ⟨fun pins s σ H Q I ⟨Sh, ρ, Q0, E0, R, h, _⟩ => False.elim h⟩
end G48

set_option Elab.async false
set_option linter.all false
set_option maxRecDepth 100000
set_option maxHeartbeats 4000000
namespace G48
open PySem PySem.Spec PyProof.Rows L2 SX
/-! ### a dict locked while it is walked: at d the same dict, known or not -/
def DkY (xs : List (Key × V)) (y : HO) : Prop := y = .dK xs ∨ ∃ o, y = .frz o (.dK xs)
section
variable {K : PySem.W.Frag} {Z : Zt} {q : Bool} {S Sh H S' H' : Hp} {d0 : Addr} {xs : List (Key × V)} {y : HO} {σ : L2.St} {ρ ρ' : En}
theorem rd_sw (h0 : Rd S d0 (.dK xs)) (hy : DkY xs y) {a : Addr} {u : HO} (hu : ∀ o x, u ≠ .frz o x) (h : Rd S a u) : Rd (upd S d0 y) a u := by
  by_cases e : a = d0
  · subst e
    have eu : u = .dK xs := by
      rcases h with h | ⟨o, h⟩ <;> rcases h0 with h0 | ⟨o', h0⟩
      · rw [h] at h0; exact Option.some.inj h0
      · rw [h] at h0; exact absurd (Option.some.inj h0) (hu _ _)
      · rw [h] at h0; cases h0
      · rw [h] at h0; cases h0; rfl
    subst eu
    rcases hy with rfl | ⟨o, rfl⟩
    · exact .inl upd_same
    · exact .inr ⟨o, upd_same⟩
  · rcases h with h | ⟨o, h⟩
    · exact .inl ((upd_ne e).trans h)
    · exact .inr ⟨o, (upd_ne e).trans h⟩
theorem at_sw (h0 : Rd S d0 (.dK xs)) {a : Addr} {u : HO} (h1 : u ≠ .dK xs) (h2 : ∀ o x, u ≠ .frz o x) (h : S a = some u) : upd S d0 y a = some u := by
  refine (upd_ne fun e => ?_).trans h
  subst e
  rcases h0 with h0 | ⟨o, h0⟩
  · rw [h] at h0; exact h1 (Option.some.inj h0)
  · rw [h] at h0; exact h2 _ _ (Option.some.inj h0)
mutual
theorem Fz.sw (h0 : Rd S d0 (.dK xs)) (hy : DkY xs y) : ∀ (d : D) (v : V), Fz K S v d → Fz K (upd S d0 y) v d
  | .non, _, h => by cases h; exact .non
  | .bl b, _, h => by cases h; exact .bl b
  | .int i, _, h => by cases h; exact .int i
  | .str x, _, h => by cases h; exact .str x
  | .tup ds, _, h => by
    cases h with
    | tup h1 h2 => exact .tup (h1.imp (rd_sw h0 hy (fun _ _ z => nomatch z)) id) (FzL.sw h0 hy ds _ h2)
  | .lst ds, _, h => by
    cases h with
    | lst h1 h2 => exact .lst (at_sw h0 (fun z => nomatch z) (fun _ _ z => nomatch z) h1) (FzL.sw h0 hy ds _ h2)
  | .dic ds, _, h => by
    cases h with
    | dic h1 h2 => exact .dic (rd_sw h0 hy (fun _ _ z => nomatch z) h1) (FzK.sw h0 hy ds _ h2)
  | .dit ds, _, h => by
    cases h with
    | dit h1 h2 => exact .dit (rd_sw h0 hy (fun _ _ z => nomatch z) h1) (FzT.sw h0 hy ds _ h2)
  | .ins c ds, _, h => by
    cases h with
    | ins h1 h2 => exact .ins (at_sw h0 (fun z => nomatch z) (fun _ _ z => nomatch z) h1) (FzF.sw h0 hy ds _ h2)
  | .scr ns, _, h => by
    cases h with
    | scr h1 => exact .scr (h1.imp (rd_sw h0 hy (fun _ _ z => nomatch z)) id)
theorem FzL.sw (h0 : Rd S d0 (.dK xs)) (hy : DkY xs y) : ∀ (ds : List D) (vs : List V), FzL K S vs ds → FzL K (upd S d0 y) vs ds
  | [], _, h => by cases h; exact .nil
  | d :: ds, _, h => by
    cases h with
    | cons h1 h2 => exact .cons (Fz.sw h0 hy d _ h1) (FzL.sw h0 hy ds _ h2)
theorem FzK.sw (h0 : Rd S d0 (.dK xs)) (hy : DkY xs y) : ∀ (ds : List (D × D)) (vs : List (Key × V)), FzK K S vs ds → FzK K (upd S d0 y) vs ds
  | [], _, h => by cases h; exact .nil
  | (k, d) :: ds, _, h => by
    cases h with
    | cons h1 h2 => exact .cons (Fz.sw h0 hy d _ h1) (FzK.sw h0 hy ds _ h2)
theorem FzT.sw (h0 : Rd S d0 (.dK xs)) (hy : DkY xs y) : ∀ (ds : List (List Key × D)) (vs : List (List Key × V)), FzT K S vs ds → FzT K (upd S d0 y) vs ds
  | [], _, h => by cases h; exact .nil
  | (k, d) :: ds, _, h => by
    cases h with
    | cons h1 h2 => exact .cons (Fz.sw h0 hy d _ h1) (FzT.sw h0 hy ds _ h2)
theorem FzF.sw (h0 : Rd S d0 (.dK xs)) (hy : DkY xs y) : ∀ (ds : List (Str × D)) (vs : List (Str × V)), FzF K S vs ds → FzF K (upd S d0 y) vs ds
  | [], _, h => by cases h; exact .nil
  | (f, d) :: ds, _, h => by
    cases h with
    | cons h1 h2 => exact .cons (Fz.sw h0 hy d _ h1) (FzF.sw h0 hy ds _ h2)
end
theorem rd_some {a : Addr} {u : HO} (h : Rd S a u) : S a ≠ none := by
  rcases h with h | ⟨o, h⟩ <;> exact some_ne h
theorem ne_d0 (h0 : Rd Sh d0 (.dK xs)) {a : Addr} (h : Sh a = none) : a ≠ d0 := fun e => rd_some h0 (by rw [← e]; exact h)
mutual
theorem At.sw (h0 : Rd Sh d0 (.dK xs)) (hy : DkY xs y) : ∀ (o : O) (v : V), At K Sh H o v → At K (upd Sh d0 y) (upd H d0 y) o v
  | .fr d, v, h => Fz.sw h0 hy d v h
  | .lst ds, v, h => by
    obtain ⟨a, vs, rfl, h1, h2, h3⟩ := h
    have n := ne_d0 h0 h2
    exact ⟨a, vs, rfl, (upd_ne n).trans h1, (upd_ne n).trans h2, FzL.sw h0 hy _ _ h3⟩
  | .dic ds, v, h => by
    obtain ⟨a, vs, rfl, h1, h2, h3⟩ := h
    have n := ne_d0 h0 h2
    exact ⟨a, vs, rfl, (upd_ne n).trans h1, (upd_ne n).trans h2, FzK.sw h0 hy _ _ h3⟩
  | .dit ds, v, h => by
    obtain ⟨a, vs, rfl, h1, h2, h3⟩ := h
    have n := ne_d0 h0 h2
    exact ⟨a, vs, rfl, (upd_ne n).trans h1, (upd_ne n).trans h2, FzT.sw h0 hy _ _ h3⟩
  | .nst os, v, h => by
    obtain ⟨a, vs, rfl, h1, h2, h3, h4⟩ := h
    have n := ne_d0 h0 h2
    exact ⟨a, vs, rfl, (upd_ne n).trans h1, (upd_ne n).trans h2, AtL.sw h0 hy os vs h3, fun z => h4 ((FpL.eq os vs h3 (fun b hb => upd_ne (ne_d0 h0 (AtL.tr os vs b h3 hb).1)) a).mp z)⟩
  | .ins c fs, v, h => by
    obtain ⟨a, dx, vs, rfl, h1, h2, h3, h4⟩ := h
    have n := ne_d0 h0 h2
    exact ⟨a, dx, vs, rfl, (upd_ne n).trans h1, (upd_ne n).trans h2, AtF.sw h0 hy fs vs h3, fun z => h4 ((FpF.eq fs vs h3 (fun b hb => upd_ne (ne_d0 h0 (AtF.tr fs vs b h3 hb).1)) a).mp z)⟩
theorem AtL.sw (h0 : Rd Sh d0 (.dK xs)) (hy : DkY xs y) : ∀ (os : List O) (vs : List V), AtL K Sh H os vs → AtL K (upd Sh d0 y) (upd H d0 y) os vs
  | o :: os, v :: vs, h => by
    refine ⟨At.sw h0 hy o v h.1, AtL.sw h0 hy os vs h.2.1, fun b hb hc => ?_⟩
    have i1 := (Fp.eq (H' := upd H d0 y) o v h.1 (fun b hb => upd_ne (ne_d0 h0 (At.tr o v b h.1 hb).1)) b).mp hb
    have i2 := (FpL.eq (H' := upd H d0 y) os vs h.2.1 (fun b hb => upd_ne (ne_d0 h0 (AtL.tr os vs b h.2.1 hb).1)) b).mp hc
    exact h.2.2 b i1 i2
  | [], [], _ => True.intro
  | [], _ :: _, h => False.elim h
  | _ :: _, [], h => False.elim h
theorem AtF.sw (h0 : Rd Sh d0 (.dK xs)) (hy : DkY xs y) : ∀ (os : List (Str × O)) (vs : List (Str × V)), AtF K Sh H os vs → AtF K (upd Sh d0 y) (upd H d0 y) os vs
  | (f, o) :: os, (g, v) :: vs, h => by
    refine ⟨h.1, At.sw h0 hy o v h.2.1, AtF.sw h0 hy os vs h.2.2.1, fun b hb hc => ?_⟩
    have i1 := (Fp.eq (H' := upd H d0 y) o v h.2.1 (fun b hb => upd_ne (ne_d0 h0 (At.tr o v b h.2.1 hb).1)) b).mp hb
    have i2 := (FpF.eq (H' := upd H d0 y) os vs h.2.2.1 (fun b hb => upd_ne (ne_d0 h0 (AtF.tr os vs b h.2.2.1 hb).1)) b).mp hc
    exact h.2.2.2 b i1 i2
  | [], [], _ => True.intro
  | [], _ :: _, h => False.elim h
  | _ :: _, [], h => False.elim h
end
theorem Fp.sw (h0 : Rd Sh d0 (.dK xs)) {o : O} {v : V} (h : At K Sh H o v) (b : Addr) : Fp (upd H d0 y) o v b ↔ Fp H o v b := Fp.eq o v h (fun b hb => upd_ne (ne_d0 h0 (At.tr o v b h hb).1)) b
theorem Rl.fsw (R : Rl K Z Sh H σ ρ) (h0 : Rd Sh d0 (.dK xs)) (b : Addr) : FpE (upd H d0 y) σ ρ b ↔ FpE H σ ρ b := R.fpe (H' := upd H d0 y) (fun b hb => upd_ne (ne_d0 h0 (R.tr hb).1)) b
theorem Rl.sw (R : Rl K Z Sh H σ ρ) (h0 : Rd Sh d0 (.dK xs)) (hy : DkY xs y) : Rl K Z (upd Sh d0 y) (upd H d0 y) σ ρ := by
  have hH : Rd H d0 (.dK xs) := rd_mono R.sh h0
  refine ⟨upd_mono R.sh, R.len, fun i o h => ?_, fun i j o u v w b n h1 h2 h3 h4 h5 h6 => ?_, fun P q e => ?_⟩
  · obtain ⟨v, h2, h3⟩ := R.ats i o h
    exact ⟨v, h2, At.sw h0 hy o v h3⟩
  · obtain ⟨v', h3', a1⟩ := R.ats i o h1
    obtain ⟨w', h4', a2⟩ := R.ats j u h2
    rw [h3] at h3'
    cases h3'
    rw [h4] at h4'
    cases h4'
    exact R.dj i j o u v w b n h1 h2 h3 h4 ((Fp.sw h0 a1 b).mp h5) ((Fp.sw h0 a2 b).mp h6)
  · obtain ⟨z1, z2⟩ := R.zk P q e
    refine ⟨(upd_ne (ne_d0 h0 z1)).trans z1, TabS_ext z2 fun b o hb e => ?_⟩
    refine (upd_ne fun z => ?_).trans e
    subst z
    rcases hb with hb | hb
    · exact rd_some h0 (by rw [hb]; exact z1)
    · rcases hH with hH | ⟨o', hH⟩ <;> (rw [hH] at hb; unfold LamX.CodeO at hb; cases hb)
theorem VAt.sw {y : HO} (hH : Rd H d0 (.dK xs)) : ∀ {p : List Sx} {w v : V}, VAt H w p v → VAt (upd H d0 y) w p v
  | [], w, v, h => h
  | .fld f :: p, w, v, h => by
    obtain ⟨a, C, dx, fs, x, rfl, h1, h2, h3⟩ := h
    exact ⟨a, C, dx, fs, x, rfl, at_sw hH (fun z => nomatch z) (fun _ _ z => nomatch z) h1, h2, VAt.sw hH h3⟩
  | .ix k :: p, w, v, h => by
    obtain ⟨a, vs, x, rfl, h1, h2, h3⟩ := h
    exact ⟨a, vs, x, rfl, at_sw hH (fun z => nomatch z) (fun _ _ z => nomatch z) h1, h2, VAt.sw hH h3⟩
/-- what was done while the dict was locked -/
theorem Ps.sw {u : U} {v : V} {y2 : HO} (h0 : Sh d0 = some (.dK xs)) (hy : DkY xs y2) (R : Rl K Z Sh H σ ρ) (p : Ps K Z q (upd Sh d0 y2) (upd H d0 y2) σ ρ u ρ' S' H' v) : S' d0 = some y2 ∧ Ps K Z q Sh H σ ρ u ρ' (upd S' d0 (.dK xs)) (upd H' d0 (.dK xs)) v := by
  have hS : S' d0 = some y2 := p.gx.ss _ _ upd_same
  have r0 : Rd S' d0 (.dK xs) := by
    rcases hy with rfl | ⟨o, rfl⟩
    · exact .inl hS
    · exact .inr ⟨o, hS⟩
  have y0 : DkY xs (.dK xs) := .inl rfl
  have hH0 : H d0 = some (.dK xs) := R.sh _ _ h0
  have f1 := R.fsw (y := y2) (Or.inl h0 : Rd Sh d0 (.dK xs))
  have f2 := p.rl.fsw (y := .dK xs) r0
  have nS : ∀ {a : Addr}, Sh a = none → a ≠ d0 := fun h => ne_d0 (Or.inl h0 : Rd Sh d0 (.dK xs)) h
  have nH : ∀ {a : Addr}, H a = none → a ≠ d0 := fun h z => by rw [z, hH0] at h; cases h
  have ef : ∀ b, EFp (upd H' d0 (.dK xs)) u v b → EFp H' u v b := fun b hb => by
    cases u with
    | va o => exact (Fp.sw r0 p.ev.1 b).mp hb
    | «at» i pp => exact False.elim hb
  refine ⟨hS, p.rl.sw r0 y0, ⟨fun a w e => ?_, fun a w e n z => ?_, fun a s e n => ?_, fun a h => ?_, fun a h => ?_⟩, ?_, fun e a w hw => ?_⟩
  · by_cases z : a = d0
    · rw [z] at e ⊢
      rw [h0] at e
      rw [upd_same]
      exact e
    · rw [upd_ne z]
      exact p.gx.ss a w ((upd_ne z).trans e)
  · by_cases x : a = d0
    · rw [x] at e ⊢
      rw [hH0] at e
      rw [upd_same]
      exact e
    · rw [upd_ne x]
      exact p.gx.kp a w ((upd_ne x).trans e) (fun w => n ((f1 a).mp w)) z
  · have x := nS s
    rw [upd_ne x]
    exact p.gx.nw a ((upd_ne x).trans s) (by rw [upd_ne x]; exact e) (fun w => n ((f1 a).mp w))
  · have h2 : FpE H' σ ρ' a ∨ EFp H' u v a := h.imp (f2 a).mp (ef a)
    refine (p.gx.ft a h2).imp (f1 a).mp (fun z => ?_)
    by_cases x : a = d0
    · rw [x, upd_same] at z
      cases z
    · rw [upd_ne x] at z
      exact z
  · by_cases x : a = d0
    · rw [x, upd_same]
      exact fun z => nomatch z
    · rw [upd_ne x]
      exact p.gx.tr a (by rw [upd_ne x]; exact h)
  · cases u with
    | va o => exact ⟨At.sw r0 y0 o v p.ev.1, fun b hb hc => p.ev.2 b ((Fp.sw r0 p.ev.1 b).mp hb) ((f2 b).mp hc)⟩
    | «at» i pp =>
      obtain ⟨w, hw, hv⟩ := p.ev
      exact ⟨w, hw, VAt.sw (rd_mono p.rl.sh r0) hv⟩
  · by_cases x : a = d0
    · rw [x] at hw ⊢
      rw [hH0] at hw
      rw [upd_same]
      exact hw
    · rw [upd_ne x]
      exact p.md e a w ((upd_ne x).trans hw)
end
/-! ### [.. for k, v in x.f.items()] -/
def itmD (kvs : List (D × D)) : List D := kvs.map fun p => .tup [p.1, p.2]
def iLcIt (cs : List Str) (f : Str) (i : Nat) (vs : List Nat) (g : ITg) (tt : IT) (te : IE) : IE := fun ρ Q E => iFld cs f (iVar i) ρ (fun u ρ1 => fzU ρ1 u fun d ρ2 => match d with
  | .dic kvs => lcGo vs g tt te Q (itmD kvs) [] (wipeI ρ2 vs)
  | _ => False) E
theorem FzK.get {K : PySem.W.Frag} {Sh : Hp} : ∀ {xs : List (Key × V)} {kvs : List (D × D)} {i : Nat} {k : Key} {v : V}, FzK K Sh xs kvs → xs[i]? = some (k, v) → ∃ d, kvs[i]? = some (kD k, d) ∧ Fz K Sh v d
  | _, _, i, k, v, .nil, e => by simp at e
  | _, _, 0, k, v, .cons h1 h2, e => by
    cases (Option.some.inj e)
    exact ⟨_, rfl, h1⟩
  | _, _, i + 1, k, v, .cons h1 h2, e => FzK.get (i := i) h2 e
theorem fz_key {K : PySem.W.Frag} {Sh : Hp} : ∀ k : Key, Fz K Sh (kV k) (kD k)
  | .inl i => .int i
  | .inr x => fz_str
theorem wk_items {K : PySem.W.Frag} {Sh : Hp} {a : Addr} {o : Obj} {xs : List (Key × V)} {kvs : List (D × D)} (h : Sh a = some (.frz o (.dK xs))) (f : FzK K Sh xs kvs) : Wk K Sh (Iti a o xs) (itmD kvs) := by
  have w := walk_items (d := a) (o := o) (kvs := xs)
  have hl : xs.length = (itmD kvs).length := by unfold itmD; rw [List.length_map, f.len]
  rw [hl] at w
  refine ⟨_, _, w, fun S1 H e1 e2 => e2 _ _ (e1 _ _ h), fun i S1 H x H' d e1 e2 hd hy => ?_⟩
  obtain ⟨T, x1, y1, rfl, hT, rfl, hx, hy⟩ := hy
  have hx : (xs[i]?.map fun kv => kV kv.1) = some x1 := hx
  have hy : (xs[i]?.map Prod.snd) = some y1 := hy
  cases e : xs[i]? with
  | none =>
    rw [e] at hx
    cases hx
  | some kv =>
    obtain ⟨k, v⟩ := kv
    rw [e] at hx hy
    cases hx
    cases hy
    obtain ⟨d', h1, h2⟩ := f.get e
    have ed : d = .tup [kD k, d'] := by
      unfold itmD at hd
      rw [List.getElem?_map, h1] at hd
      exact (Option.some.inj hd).symm
    subst ed
    exact res_pair e2 (fz_key k) (Fz.mono e1 _ _ h2) hT
section
variable {X : Cx} {K : PySem.W.Frag} {Z : Zt} {W : WX} {qt qe : Bool} {g : ITg} {tt : IT} {te : IE} {vs : List Nat} {cs : List Str} {f : Str} {i : Nat}
theorem pe_lockOr {e : Expr} {t : TE} (h : PE X e t) : PE X e (fun σ H Q => tLockE t σ H Q ∨ t σ H Q) :=
  ⟨fun pins s σ H Q I hw => hw.elim (fun hw => (pe_lock h).run pins s σ H Q I hw) (fun hw => h.run pins s σ H Q I hw)⟩
theorem lcIt_ev {σ : L2.St} {H : Hp} {Q : VK} (hc : NoF K cs f) (h : Ev K Z W (true && qt && qe) (iLcIt cs f i vs g tt te) σ H Q) : tLockE (tLc (iItems (tFld K (tVar i) f)) (EvG K Z vs g) (EvT K Z W0 qt tt) (Ev K Z W0 qe te) vs) σ H Q ∨ tLc (iItems (tFld K (tVar i) f)) (EvG K Z vs g) (EvT K Z W0 qt tt) (Ev K Z W0 qe te) vs σ H Q := by
  obtain ⟨Sh, ρ, Q0, E0, R, h, hq, hx⟩ := h
  have fl : tFld K (tVar i) f σ H (fun v' H1 => ∃ u ρ1 S1, (fzU ρ1 u fun d ρ2 => match d with
      | .dic kvs => lcGo vs g tt te Q0 (itmD kvs) [] (wipeI ρ2 vs)
      | _ => False) ∧ Ps K Z true Sh H σ ρ u ρ1 S1 H1 v') := by
    obtain ⟨S0, r0, q0, e0, R0, h0, hq0, hx0⟩ := fld_ev (W := W) hc ⟨Sh, ρ, _, E0, R, h, fun u ρ1 S1 H1 v' h1 p1 => (⟨u, ρ1, S1, h1, p1⟩ : ∃ u ρ1 S1, (fzU ρ1 u fun d ρ2 => match d with
      | .dic kvs => lcGo vs g tt te Q0 (itmD kvs) [] (wipeI ρ2 vs)
      | _ => False) ∧ Ps K Z true Sh H σ ρ u ρ1 S1 H1 v'), hx⟩
    exact var_ev ⟨S0, r0, q0, e0, R0, h0, hq0, hx0⟩
  obtain ⟨v0, hv0, a, C, dx, fs, v', rfl, ha, c1, c2, l, u, ρ1, S1, h1, p1⟩ := fl
  obtain ⟨d, ρ2, S2, h2, m2, f2⟩ := p1.fz h1
  cases d with
  | dic kvs =>
    cases f2 with
    | @dic d0 xs _ hd fk =>
      have go : ∀ {Sx Hx : Hp} {o : Obj}, Rl K Z Sx Hx σ ρ2 → Sx d0 = some (.frz o (.dK xs)) → FzK K Sx xs kvs → Hx a = some (.ins C dx fs) → ∀ {Q' : VK}, (∀ u ρ' S' H' v, Q0 u ρ' → Ps K Z (true && qt && qe) Sx Hx σ ρ2 u ρ' S' H' v → Q' v H') → tLc (iItems (tFld K (tVar i) f)) (EvG K Z vs g) (EvT K Z W0 qt tt) (Ev K Z W0 qe te) vs σ Hx Q' := fun {Sx Hx o} Rx hSx fx hHa {Q'} hq' =>
        ⟨_, hv0, a, C, dx, fs, _, rfl, hHa, c1, c2, l, d0, o, xs, rfl, Rx.sh _ _ hSx, lc_coreI (Mid.refl Rx) (wk_items hSx fx) h2 hq'⟩
      rcases hd with hd | ⟨o, hd⟩
      · refine .inl ⟨d0, .dK xs, m2.rl.sh _ _ hd, True.intro, fun od => ?_⟩
        have r0 : Rd S2 d0 (.dK xs) := .inl hd
        have hy : DkY xs (.frz od (.dK xs)) := .inr ⟨od, rfl⟩
        refine go (m2.rl.sw r0 hy) upd_same (FzK.sw r0 hy _ _ fk) (at_sw (rd_mono m2.rl.sh r0) (fun z => nomatch z) (fun _ _ z => nomatch z) ha) fun u ρ' S' H' v h p => ?_
        obtain ⟨e1, p'⟩ := Ps.sw hd hy m2.rl p
        exact ⟨p.rl.sh _ _ e1, hq _ _ _ _ _ h (m2.ps p')⟩
      · exact .inr (go m2.rl hd fk ha fun u ρ' S' H' v h p => hq _ _ _ _ _ h (m2.ps p))
  | _ => exact False.elim h2
theorem ev_lcIt {x : Str} {np fpos apos cpos tpos pos : Pos} {elts : List Expr} {kk : Nat} {elt : Expr} {ifs : List Expr} {scope : Scope} {own : List (Str × Nat)} (hK : X.K = K) (hcf : NoF K cs f) (hvs : own.map (·.2) = vs) (hc : X.calm = true) (hN : X.N.Nodup) (hn : PE X (.Name x np) (tVar i)) (ok : BlkOk X.N X.env.scope scope own)
    (hg : ∀ (s : Shared) (H : Hp) (C : Addr) (cl : List (Str × Addr)) (fp : List Addr), PG (X.blk s H scope (compEnvC scope cl C X.env) fp) (.Tuple elts kk tpos) (EvG K Z vs g)) (ht : ∀ (s : Shared) (H : Hp) (C : Addr) (cl : List (Str × Addr)) (fp : List Addr), PTs (X.blk s H scope (compEnvC scope cl C X.env) fp) ifs (EvT K Z W0 qt tt))
    (he : ∀ (s : Shared) (H : Hp) (C : Addr) (cl : List (Str × Addr)) (fp : List Addr), PE (X.blk s H scope (compEnvC scope cl C X.env) fp) elt (Ev K Z W0 qe te))
    (hb1 : attributeBase (.Name x np) f X.env (eval (.Name x np) X.env) = eval (.Name x np) X.env := by rfl) (hb2 : attributeBase (.Attribute (.Name x np) f fpos) "items" X.env (eval (.Attribute (.Name x np) f fpos) X.env) = eval (.Attribute (.Name x np) f fpos) X.env := by rfl) (hline : (apos.endLine == cpos.line) = true := by rfl)
    (hs : ∀ z, foldedSetIterable (.Call (.Attribute (.Attribute (.Name x np) f fpos) "items" apos) [] [] cpos) X.env z = pure z := by intro _; rfl) :
    PE X (.ListComp elt [⟨.Tuple elts kk tpos, .Call (.Attribute (.Attribute (.Name x np) f fpos) "items" apos) [] [] cpos, ifs, 0⟩] scope pos) (Ev K Z W (true && qt && qe) (iLcIt cs f i vs g tt te)) := by
  subst hvs hK
  exact (pe_lockOr (pe_lc hc hN (pi_items (pe_fld hn hb1) hb2 hline) ok hg ht he hs)).weak fun σ H Q h => lcIt_ev hcf h
end
/-! ### {} -/
def iDicN : IE := fun ρ Q _ => Q (.va (.dic [])) ρ
def iDitN : IE := fun ρ Q _ => Q (.va (.dit [])) ρ
section
variable {X : Cx} {K : PySem.W.Frag} {Z : Zt} {W : WX} {pos : Pos}
theorem ev_dicN : PE X (.Dict [] [] pos) (Ev K Z W true iDicN) := pe_dnewK.weak fun σ H Q ⟨Sh, ρ, Q0, E0, R, h, hq, hx⟩ => fun p hp => hq _ _ _ _ _ h ((Mid.refl R).fin (res_dic R.sh .nil hp))
theorem ev_ditN : PE X (.Dict [] [] pos) (Ev K Z W true iDitN) := pe_dnewT.weak fun σ H Q ⟨Sh, ρ, Q0, E0, R, h, hq, hx⟩ => fun p hp => by
  have hs : Sh p = none := R.sh.free hp
  exact hq _ _ _ _ _ h ((Mid.refl R).fin ⟨same_new hp, Same.refl _, mut_same R.sh hs, fun _ _ h => h, ⟨p, [], rfl, upd_same, hs, .nil⟩, fun a e => by cases (show V.ref p = V.ref a from e); exact hp⟩)
end
end G48


namespace G48
open PySem PySem.Spec PyProof.Rows L2 SX
def topS (i : Nat) : Stmt := PySem.Challenge.pw_lendbough_k07_signatures_refused.main.body.getD i (.Pass ⟨0, 0, 0, 0⟩)
def hwxB_InvalidSign (K : PySem.W.Frag) : Bool := exmB K "InvalidSign" ["InvalidSign", "InvalidDefinition", "InvalidRules", "InvalidRows", "NoPlace", "InvalidMark", "InvalidProcedure"] true
def hwxB_InvalidDefinition (K : PySem.W.Frag) : Bool := exmB K "InvalidDefinition" ["InvalidSign", "InvalidDefinition", "InvalidRules", "InvalidRows", "NoPlace", "InvalidMark", "InvalidProcedure"] true
def hwxB_InvalidRules (K : PySem.W.Frag) : Bool := exmB K "InvalidRules" ["InvalidSign", "InvalidDefinition", "InvalidRules", "InvalidRows", "NoPlace", "InvalidMark", "InvalidProcedure"] true
def hwhyNames : List Str := ["InvalidSign", "InvalidDefinition", "InvalidRules", "InvalidRows", "NoPlace", "InvalidMark", "InvalidProcedure", "ParseError", "BadKinds", "NotPlain", "BadBlocks", "InvalidName", "DuplicateName", "UnknownName", "TooManyStates", "TooWide", "TooLarge", "TooManySteps", "CapacityExceeded", "InvalidCondition", "UnknownWord", "NoState", "IllegalMove", "GameOver", "InvalidLimit", "InvalidCommand", "Broken", "UnknownEntry", "Unfit", "NothingLeft"]
def dd0 : He.DefD := ⟨("is_sign", none), "is_sign", "is_sign", defArgs (topS 44), defBody (topS 44), defScope (topS 44), [], []⟩
def dd1 : He.DefD := ⟨("check_signature", none), "check_signature", "check_signature", defArgs (topS 63), defBody (topS 63), defScope (topS 63), [], []⟩
def dd2 : He.DefD := ⟨("is_number", none), "is_number", "is_number", defArgs (topS 74), defBody (topS 74), defScope (topS 74), [], []⟩
def dd3 : He.DefD := ⟨("is_choice", none), "is_choice", "is_choice", defArgs (topS 75), defBody (topS 75), defScope (topS 75), [], []⟩
def dd4 : He.DefD := ⟨("is_condition", none), "is_condition", "is_condition", defArgs (topS 76), defBody (topS 76), defScope (topS 76), [], []⟩
def dd5 : He.DefD := ⟨("_law_box", none), "_law_box", "_law_box", defArgs (topS 85), defBody (topS 85), defScope (topS 85), [], []⟩
def dd6 : He.DefD := ⟨("_law_take", none), "_law_take", "_law_take", defArgs (topS 86), defBody (topS 86), defScope (topS 86), [], []⟩
def dd7 : He.DefD := ⟨("_law_any", none), "_law_any", "_law_any", defArgs (topS 87), defBody (topS 87), defScope (topS 87), [], []⟩
def dd8 : He.DefD := ⟨("_law_why", none), "_law_why", "_law_why", defArgs (topS 88), defBody (topS 88), defScope (topS 88), [], []⟩
def dd9 : He.DefD := ⟨("_law_letters", none), "_law_letters", "_law_letters", defArgs (topS 89), defBody (topS 89), defScope (topS 89), [], []⟩
def dd10 : He.DefD := ⟨("_law_words", none), "_law_words", "_law_words", defArgs (topS 90), defBody (topS 90), defScope (topS 90), [], []⟩
def dd11 : He.DefD := ⟨("law", none), "law", "law", defArgs (topS 91), defBody (topS 91), defScope (topS 91), [], []⟩
def dd12 : He.DefD := ⟨("InvalidSign", some "__init__"), "__init__", "InvalidSign.__init__", defArgs (inClass (topS 4) 0), defBody (inClass (topS 4) 0), defScope (inClass (topS 4) 0), [], []⟩
def dd13 : He.DefD := ⟨("InvalidDefinition", some "__init__"), "__init__", "InvalidDefinition.__init__", defArgs (inClass (topS 5) 0), defBody (inClass (topS 5) 0), defScope (inClass (topS 5) 0), [], []⟩
def dd14 : He.DefD := ⟨("InvalidRules", some "__init__"), "__init__", "InvalidRules.__init__", defArgs (inClass (topS 8) 0), defBody (inClass (topS 8) 0), defScope (inClass (topS 8) 0), [], []⟩
def dd15 : He.DefD := ⟨("InvalidCondition", some "__init__"), "__init__", "InvalidCondition.__init__", defArgs (inClass (topS 9) 0), defBody (inClass (topS 9) 0), defScope (inClass (topS 9) 0), [], []⟩
def dd16 : He.DefD := ⟨("Judge", some "__init__"), "__init__", "Judge.__init__", defArgs (inClass (topS 82) 1), defBody (inClass (topS 82) 1), defScope (inClass (topS 82) 1), [], []⟩
def dd17 : He.DefD := ⟨("Program", some "__init__"), "__init__", "Program.__init__", defArgs (inClass (topS 70) 1), defBody (inClass (topS 70) 1), defScope (inClass (topS 70) 1), [], []⟩
def dd18 : He.DefD := ⟨("Program", some "definitions"), "definitions", "Program.definitions", defArgs (inClass (topS 70) 9), defBody (inClass (topS 70) 9), defScope (inClass (topS 70) 9), [], []⟩
def fns : List He.DefD := [dd0, dd1, dd2, dd3, dd4, dd5, dd6, dd7, dd8, dd9, dd10, dd11, dd12, dd13, dd14, dd15, dd16, dd17, dd18]
def fas : List He.Fa := [.glo "is_sign", .glo "check_signature", .glo "is_number", .glo "is_choice", .glo "is_condition", .glo "_law_box", .glo "_law_take", .glo "_law_any", .glo "_law_why", .glo "_law_letters", .glo "_law_words", .glo "law", .glo "InvalidSign", .glo "InvalidDefinition", .glo "InvalidRules", .glo "InvalidCondition", .glo "Judge", .glo "Program", .free "len", .free "int", .free "str", .free "bool", .free "tuple", .free "list", .free "all", .free "any", .free "isinstance", .free "range", .free "zip", .free "enumerate", .free "sum", .free "max", .free "min", .free "sorted", .free "dict", .free "repr", .free "divmod", .str "SMALL" "abcdefghijklmnopqrstuvwxyz", .int "MOST_LETTERS" 6, .int "MOST_SIGNS" 8, .int "MOST_ARITY" 3, .int "MOST_CHOICES" 4]
def exl : List (PySem.W.Frag → Bool) := [(fun K => xclB K "InvalidSign" ["at"]), (fun K => xclB K "InvalidDefinition" ["at"]), (fun K => xclB K "InvalidRules" ["at"]), (fun K => xclB K "InvalidCondition" ["state", "at"]), hwxB_InvalidSign, hwxB_InvalidDefinition, hwxB_InvalidRules, (fun K => hwhyNames.all fun c => (He.Fa.glo c).ok K), (fun K => klsB K "Judge" ["pairs", "places", "rules"]), (fun K => mfnB K "Judge" "__init__"), (fun K => ccB K "Judge" "MOST" 3), (fun K => klsB K "Program" ["pairs", "arities", "parts", "found_kinds"]), (fun K => mfnB K "Program" "__init__"), (fun K => mfnB K "Program" "definitions")]
def nms0 : List Str := ["_wall", "__name__", "BoughError", "Missing", "InvalidSign", "InvalidDefinition", "UnknownWord", "BadKinds", "InvalidRules", "InvalidCondition", "InvalidRows", "Unfit", "NoState", "TooManyStates", "TooWide", "TooLarge", "TooManySteps", "NoPlace", "NotPlain", "InvalidMark", "InvalidProcedure", "BadBlocks", "IllegalMove", "GameOver", "InvalidName", "DuplicateName", "CapacityExceeded", "InvalidLimit", "InvalidCommand", "Broken"]
def nms1 : List Str := ["ParseError", "UnknownName", "UnknownEntry", "NothingLeft", "MOST_KIND", "Equations", "Inference", "inferred", "SMALL", "LARGE", "MOST_LETTERS", "DEEPEST", "is_sign", "is_name", "is_term", "term_depth", "term_size", "term_heads", "format_term", "word_at", "read_term", "read_argument", "parse_term", "MOST_SIGNS", "MOST_ARITY", "MOST_PARAMETERS", "DEEPEST_BODY", "LARGEST_BODY", "DIGITS", "MOST_DIGITS"]
def nms2 : List Str := ["check_signature", "is_definition", "format_signature", "parse_number", "parse_signature", "format_definition", "parse_definition", "Program", "MOST_CHOICES", "BITS", "is_number", "is_choice", "is_condition", "is_met", "format_choice", "format_condition", "parse_choice", "parse_condition", "Judge", "shifted", "_law_box", "_law_take", "_law_any", "_law_why", "_law_letters", "_law_words"]
def nms : List Str := nms0 ++ nms1 ++ nms2
abbrev RR : PySem.W.OpenRow := PySem.W.OpenLaw.row PySem.Challenge.rw_lendbough_k07_signatures_refused
def gnm0 : List Str := ["is_sign", "check_signature", "is_number", "is_choice", "is_condition", "_law_box", "_law_take", "_law_any", "_law_why", "_law_letters", "_law_words", "law", "InvalidSign", "InvalidDefinition", "InvalidRules", "InvalidCondition", "Judge", "Program", "InvalidRows", "NoPlace", "InvalidMark", "InvalidProcedure"]
def gnm : List Str := gnm0
abbrev hkk : PySem.W.Hook := hookY 4 gnm fas fns [("law", none)] (exAll exl)
def obb (s : PySem.W.SharedT) : He.AlX := obsY 4 gnm fas fns [("law", none)] (exAll exl) (HandSHeadRun.getT s)
theorem obb_eq (s : PySem.W.SharedT) : obb s = hkk.obs s.abs := obsY_eq
open PySem PySem.W PySem.Calls PyProof.Rows in
theorem head_r1 (w : World) (os : OsState) : (HandSHeadRun.endF (HandSHeadRun.stepQ (HandSHeadRun.denQ HandSHeadRun.tabQ) RR.prog w) 30000 RR.prog w os).map (fun s => (HandSHeadRun.looksF RR.prog (boot_heap w.params) s.abs, HandSHeadRun.seenQ (PySem.W.view RR.prog [91]) nms (importedModules RR.prog.main.body) (fun s => xlAt (PySem.W.view RR.prog [91]) [] s && recOk RR.toRowW.records s) s.abs)) = some (true, openGood (PySem.W.view RR.prog [91]) nms) := by kernel_rfl
theorem head_r2 (w : World) (os : OsState) : (HandSHeadRun.endF (HandSHeadRun.stepQ (HandSHeadRun.denQ HandSHeadRun.tabQ) RR.prog w) 30000 RR.prog w os).map obb = some (hkk.val w) := by kernel_rfl
theorem head_run (w : World) : HandSHeadRun.RunEq RR (PySem.W.view RR.prog [91]) hkk obb 30000 nms w := by
  unfold HandSHeadRun.RunEq
  intro os
  exact run_two (head_r1 w os) (head_r2 w os)
--USES
--PURE
abbrev SMALL : Str := "abcdefghijklmnopqrstuvwxyz"
abbrev LARGE : Str := "ABCDEFGHIJKLMNOPQRSTUVWXYZ"
def lows : List Nat := SMALL.cps.toList
def caps : List Nat := LARGE.cps.toList
def isLow (c : Nat) : Bool := decide (c ∈ lows)
def isCap (c : Nat) : Bool := decide (c ∈ caps)
def isSign (z : List Nat) : Bool := decide (1 ≤ z.length ∧ z.length ≤ 6) && z.all isLow
theorem isSign_yes {l : List Nat} (h1 : 1 ≤ l.length) (h2 : l.length ≤ 6) : isSign l = l.all isLow := by
  unfold isSign
  rw [decide_eq_true (And.intro h1 h2)]
  rfl
theorem isSign_no {l : List Nat} (h : ¬ (1 ≤ l.length ∧ l.length ≤ 6)) : isSign l = false := by
  unfold isSign
  rw [decide_eq_false h]
  rfl
def isName : List Nat → Bool
  | [] => false
  | c :: r => isCap c && (decide (r.length ≤ 5) && r.all isLow)
theorem isName_cons {c : Nat} {r : List Nat} (h : isCap c = true) (hl : r ≠ []) : isName (c :: r) = (decide (r.length + 1 ≤ 6) && isSign r) := by
  show (isCap c && (decide (r.length ≤ 5) && r.all isLow)) = _
  rw [h, Bool.true_and]
  by_cases h6 : r.length ≤ 5
  · rw [decide_eq_true h6, decide_eq_true (show r.length + 1 ≤ 6 by omega), isSign_yes (by cases r with | nil => exact absurd rfl hl | cons a r => simp) (by omega)]
  · rw [decide_eq_false h6, decide_eq_false (show ¬ r.length + 1 ≤ 6 by omega)]
    rfl
theorem lows_nd : lows.Nodup := by decide +kernel
theorem caps_nd : caps.Nodup := by decide +kernel
theorem lows_len : lows.length = 26 := by decide +kernel
theorem caps_len : caps.length = 26 := by decide +kernel
theorem isLow_mem {c : Nat} (h : c ∈ lows) : isLow c = true := decide_eq_true h
theorem isCap_mem {c : Nat} (h : c ∈ caps) : isCap c = true := decide_eq_true h
def lowAt (k : Nat) : Nat := lows.getD (k % 26) 0
def capAt (k : Nat) : Nat := caps.getD (k % 26) 0
theorem lowAt_get (k : Nat) : lows[k % 26]? = some (lowAt k) := by
  have h : k % 26 < lows.length := by rw [lows_len]; omega
  unfold lowAt
  rw [List.getD_eq_getElem?_getD, List.getElem?_eq_getElem h]
  rfl
theorem capAt_get (k : Nat) : caps[k % 26]? = some (capAt k) := by
  have h : k % 26 < caps.length := by rw [caps_len]; omega
  unfold capAt
  rw [List.getD_eq_getElem?_getD, List.getElem?_eq_getElem h]
  rfl
theorem lowAt_low (k : Nat) : isLow (lowAt k) = true := isLow_mem (List.mem_of_getElem? (lowAt_get k))
theorem capAt_cap (k : Nat) : isCap (capAt k) = true := isCap_mem (List.mem_of_getElem? (capAt_get k))
theorem lowAt_inj {i j : Nat} (h : lowAt i = lowAt j) : i % 26 = j % 26 := nd_ix lows_nd (lowAt_get i) (by rw [h]; exact lowAt_get j)
theorem capAt_inj {i j : Nat} (h : capAt i = capAt j) : i % 26 = j % 26 := nd_ix caps_nd (capAt_get i) (by rw [h]; exact capAt_get j)
/-- a word of a stem -/
def mkWord (stem : List Nat) (spot first m k : Nat) : List Nat := stem.take spot ++ [lowAt (first + m * k)] ++ stem.drop spot
theorem mkWord_len (stem : List Nat) (spot first m k : Nat) : (mkWord stem spot first m k).length = stem.length + 1 := by
  unfold mkWord
  rw [List.length_append, List.length_append, List.length_take, List.length_drop]
  show min spot stem.length + 1 + (stem.length - spot) = _
  omega
theorem mkWord_all {stem : List Nat} (h : stem.all isLow = true) (spot first m k : Nat) : (mkWord stem spot first m k).all isLow = true := by
  unfold mkWord
  rw [List.all_append, List.all_append]
  have h1 : (stem.take spot).all isLow = true := List.all_eq_true.mpr fun c hc => List.all_eq_true.mp h c (List.mem_of_mem_take hc)
  have h2 : (stem.drop spot).all isLow = true := List.all_eq_true.mpr fun c hc => List.all_eq_true.mp h c (List.mem_of_mem_drop hc)
  rw [h1, h2]
  show (true && (isLow (lowAt (first + m * k)) && true)) && true = true
  rw [lowAt_low]
  rfl
theorem mkWord_at {stem : List Nat} {spot : Nat} (hs : spot ≤ stem.length) (first m k : Nat) : (mkWord stem spot first m k)[spot]? = some (lowAt (first + m * k)) := by
  unfold mkWord
  rw [List.append_assoc, List.getElem?_append_right (by rw [List.length_take]; omega), List.length_take, Nat.min_eq_left hs, Nat.sub_self]
  rfl
theorem nodup_map_range {f : Nat → List Nat} {n : Nat} (h : ∀ i j, i < n → j < n → f i = f j → i = j) : ((List.range n).map f).Nodup := by
  refine List.pairwise_map.mpr ((List.nodup_range (n := n)).imp_of_mem fun {a b} ha hb hne e => hne (h a b (List.mem_range.mp ha) (List.mem_range.mp hb) e))
theorem words_nodup {stem : List Nat} {spot first m n : Nat} (hs : spot ≤ stem.length) (hn : n ≤ 26) (hm : m = 5 ∨ m = 7) : ((List.range n).map (mkWord stem spot first m)).Nodup := by
  refine nodup_map_range fun i j hi hj e => ?_
  have h1 := mkWord_at hs first m i
  rw [e, mkWord_at hs first m j] at h1
  have h2 := lowAt_inj (Option.some.inj h1)
  rcases hm with rfl | rfl <;> omega
theorem mod26 (f m k : Nat) : ((f : Int) + (m : Int) * (k : Int)) % 26 = (((f + m * k) % 26 : Nat) : Int) := by
  rw [Int.natCast_emod, Int.natCast_add, Int.natCast_mul]
  rfl
/-- a drawn signature of these words -/
structure SigOk (ws : List (List Nat)) (ps : List (List Nat × Nat)) : Prop where
  wds : ps.map (·.1) = ws
  ar : ∀ p ∈ ps, p.2 ≤ 3
  has : ∀ k, k ≤ 2 → ∃ p ∈ ps, p.2 = k
structure PlanOk (n wide : Nat) (pl : List (List Nat)) : Prop where
  len : pl.length = n
  first : pl[0]? = some []
  kd : ∀ ks ∈ pl, ks.length ≤ wide ∧ ∀ k ∈ ks, k ≤ 2
theorem cons_erase_perm : ∀ {l : List Nat} {i : Nat} (h : i < l.length), ([l[i]] ++ l.eraseIdx i).Perm l
  | a :: l, 0, _ => .refl _
  | a :: l, i + 1, h => by
    have h' : i < l.length := by
      rw [List.length_cons] at h
      omega
    show (l[i] :: a :: l.eraseIdx i).Perm (a :: l)
    exact (List.Perm.swap _ _ _).trans (.cons _ (cons_erase_perm h'))

--USES pw
def isp_is_sign : ISp := fun os Q _ => ∃ l, os = [.fr (.str l)] ∧ l.length ≤ 100000 ∧ Q (.fr (.bl (isSign l))) os
def isp_is_name : ISp := fun os Q _ => ∃ l, os = [.fr (.str l)] ∧ l.length ≤ 100000 ∧ Q (.fr (.bl (isName l))) os
theorem ap_is_sign {l : List Nat} {Q : O → List O → Prop} {E : Xc → List O → Prop} (h1 : l.length ≤ 100000) (h : Q (.fr (.bl (isSign l))) [.fr (.str l)]) : isp_is_sign [.fr (.str l)] Q E := ⟨l, rfl, h1, h⟩
theorem ap_is_name {l : List Nat} {Q : O → List O → Prop} {E : Xc → List O → Prop} (h1 : l.length ≤ 100000) (h : Q (.fr (.bl (isName l))) [.fr (.str l)]) : isp_is_name [.fr (.str l)] Q E := ⟨l, rfl, h1, h⟩
theorem all_map_str {f : Nat → Bool} (l : List Nat) : pAll (.lst (l.map fun c => D.bl (f c))) = some (.fr (.bl (l.all f))) := by
  have e : l.map (fun c => D.bl (f c)) = (l.map f).map D.bl := by rw [List.map_map]; rfl
  show (bls (l.map fun c => D.bl (f c))).map _ = _
  rw [e, bls_map]
  show some (O.fr (.bl ((l.map f).all id))) = _
  rw [List.all_map]
  rfl
abbrev s_is_sign : Stmt := topS 44
abbrev N_is_sign : List Str := ["text", "letter"]
theorem sc_is_sign : FnScope N_is_sign ["text"] (defScope s_is_sign) := ⟨rfl, rfl, rfl, by decide +kernel, rfl, by decide +kernel, by decide +kernel⟩

abbrev s_is_name : Stmt := topS 45
abbrev N_is_name : List Str := ["text"]
theorem sc_is_name : FnScope N_is_name ["text"] (defScope s_is_name) := ⟨rfl, rfl, rfl, by decide +kernel, rfl, by decide +kernel, by decide +kernel⟩

section
variable {P : Program} {w : World} {K : PySem.W.Frag} {mg : Str → Option Value} {base : Heap}
theorem cal_is_sign (Df : Dfn K mg "is_sign" s_is_sign) (B : Bt mg) (g_SMALL : Gv mg "SMALL" (.str SMALL)) (g_MOST_LETTERS : Gv mg "MOST_LETTERS" (.int 6)) : CalX P w K mg base 1 "is_sign" (spI K 1 [] isp_is_sign) := by
  refine cal_I Df sc_is_sign (fun _ _ _ _ _ _ us hl => match us, hl with | [_], _ => rfl) rfl (by decide) (by decide) (fun f cdv A outer s H E hr => (es_one (es_ret (ev_and (ev_chain rfl o_le o_le ev_int (ev_b1 rfl b_len (by rfl) B.len PySem.boot_len (ev_var (pv 0))) (ev_gv (by rfl) g_MOST_LETTERS (fun _ => .int _))) (pe_one (ev_b1 rfl (b_all rfl) (by rfl) B.all (by decide +kernel) (ev_lc (own := [("letter", 1)]) (vs := [1]) rfl rfl sc_is_sign.nd (ei_sq rfl (ev_var (pv 0))) (blkOk_by (own := [("letter", 1)]) (N := N_is_sign) (sc := defScope s_is_sign) (by decide +kernel)) (fun _ _ _ _ _ => (eg_name (i := 1) sc_is_sign.nd rfl (by first | exact .inl rfl | exact .inr rfl) (by decide))) (fun _ _ _ _ _ => et_yes) (fun _ _ _ _ _ => (ev_cmp rfl (o_in (u65 hr)) (ev_var (pv 1)) (ev_gv (by rfl) g_SMALL (fun _ => fz_str)) (by rfl)))))))))) ?_
  intro os Q0 E0 hl h
  obtain ⟨l, rfl, hll, q⟩ := h
  (repeat (first | refine And.intro (by first | exact True.intro | exact rfl | omega | exact ob_i rfl rfl | exact Nat.le_of_ble_eq_true rfl | exact of_decide_eq_true rfl) ?_ | refine ob_i rfl ?_))
  refine ob_if (lim hll) ?_
  (repeat (first | refine And.intro (by first | exact True.intro | exact rfl | omega | exact ob_i rfl rfl | exact Nat.le_of_ble_eq_true rfl | exact of_decide_eq_true rfl) ?_ | refine ob_i rfl ?_))
  refine ite_d (fun c1 => ?_) (fun c1 => ?_)
  · (repeat (first | refine And.intro (by first | exact True.intro | exact rfl | omega | exact ob_i rfl rfl | exact Nat.le_of_ble_eq_true rfl | exact of_decide_eq_true rfl) ?_ | refine ob_i rfl ?_))
    refine ite_b (fun c2 => ?_) (fun c2 => ?_)
    · have c2' := of_decide_eq_true c2
      (repeat (first | refine And.intro (by first | exact True.intro | exact rfl | omega | exact ob_i rfl rfl | exact Nat.le_of_ble_eq_true rfl | exact of_decide_eq_true rfl) ?_ | refine ob_i rfl ?_))
      refine lc_on (f := fun c : Nat => D.str [c]) (l := l) (fun j acc ρ => ρ = [some (.fr (.str l)), none] ∧ acc = (l.take j).map fun c => D.bl (isLow c)) hll ⟨rfl, rfl⟩ ?_ ?_
      · rintro acc ρ ⟨rfl, rfl⟩
        rw [List.take_length]
        (repeat (first | refine And.intro (by first | exact True.intro | exact rfl | omega | exact ob_i rfl rfl | exact Nat.le_of_ble_eq_true rfl | exact of_decide_eq_true rfl) ?_ | refine ob_i rfl ?_))
        refine ob_i (all_map_str l) ?_
        (repeat (first | refine And.intro (by first | exact True.intro | exact rfl | omega | exact ob_i rfl rfl | exact Nat.le_of_ble_eq_true rfl | exact of_decide_eq_true rfl) ?_ | refine ob_i rfl ?_))
        rw [isSign_yes (by omega) (by omega)] at q
        exact q
      · rintro j hj acc ρ ⟨rfl, rfl⟩ k hk
        (repeat (first | refine And.intro (by first | exact True.intro | exact rfl | omega | exact ob_i rfl rfl | exact Nat.le_of_ble_eq_true rfl | exact of_decide_eq_true rfl) ?_ | refine ob_i rfl ?_))
        refine hk _ _ ⟨rfl, ?_⟩
        rw [List.take_add_one, List.getElem?_eq_getElem hj, List.map_append]
        rfl
    · have c2' := of_decide_eq_false c2
      rw [isSign_no (by omega)] at q
      (repeat (first | refine And.intro (by first | exact True.intro | exact rfl | omega | exact ob_i rfl rfl | exact Nat.le_of_ble_eq_true rfl | exact of_decide_eq_true rfl) ?_ | refine ob_i rfl ?_))
      exact q
  · rw [isSign_no (by omega)] at q
    (repeat (first | refine And.intro (by first | exact True.intro | exact rfl | omega | exact ob_i rfl rfl | exact Nat.le_of_ble_eq_true rfl | exact of_decide_eq_true rfl) ?_ | refine ob_i rfl ?_))
    exact q
theorem cal_is_name (Df : Dfn K mg "is_name" s_is_name) (B : Bt mg) (g_LARGE : Gv mg "LARGE" (.str LARGE)) (g_MOST_LETTERS : Gv mg "MOST_LETTERS" (.int 6)) (c_is_sign : CalX P w K mg base 1 "is_sign" (spI K 1 [] isp_is_sign)) : CalX P w K mg base 2 "is_name" (spI K 1 [] isp_is_name) := by
  refine cal_I Df sc_is_name (fun _ _ _ _ _ _ us hl => match us, hl with | [_], _ => rfl) rfl (by decide) (by decide) (fun f cdv A outer s H E hr => (es_cons (es_if (PW.pt (ew_or (et_cmp rfl (o_eq hr.units) (ev_var (pv 0)) ev_str (nomark _)) (pw_or1 (et_cmp rfl (o_notin (u65 hr)) (ev_ix rfl o_ix (ev_var (pv 0)) ev_int (fun _ _ => rfl)) (ev_gv (by rfl) g_LARGE (fun _ => fz_str)) (by rfl))))) (es_one (es_ret ev_bl)) es_nil)
      (es_one (es_ret (ev_or (ev_cmp rfl (o_eq hr.units) (ev_sl rfl (ev_var (pv 0)) (eo_some ev_int) eo_none) ev_str (nomark _)) (pe_one (ev_and (ev_cmp rfl o_le (ev_b1 rfl b_len (by rfl) B.len PySem.boot_len (ev_var (pv 0))) (ev_gv (by rfl) g_MOST_LETTERS (fun _ => .int _)) (nomark _)) (pe_one (ev_call rfl c_is_sign (takes_of rfl rfl rfl rfl) hr (by omega) (by rfl) (em_d (ev_sl rfl (ev_var (pv 0)) (eo_some ev_int) eo_none) em_nil)))))))))) ?_
  intro os Q0 E0 hl h
  obtain ⟨l, rfl, hll, q⟩ := h
  cases l with
  | nil =>
    (repeat (first | refine And.intro (by first | exact True.intro | exact rfl | omega | exact ob_i rfl rfl | exact Nat.le_of_ble_eq_true rfl | exact of_decide_eq_true rfl) ?_ | refine ob_i rfl ?_))
    exact q
  | cons c r =>
    rw [List.length_cons] at hll
    (repeat (first | refine And.intro (by first | exact True.intro | exact rfl | omega | exact ob_i rfl rfl | exact Nat.le_of_ble_eq_true rfl | exact of_decide_eq_true rfl) ?_ | refine ob_i rfl ?_))
    refine ob_i (pIx_str (l := c :: r) (r := 0) (lim hll) (Nat.succ_pos _)) ?_
    (repeat (first | refine And.intro (by first | exact True.intro | exact rfl | omega | exact ob_i rfl rfl | exact Nat.le_of_ble_eq_true rfl | exact of_decide_eq_true rfl) ?_ | refine ob_i rfl ?_))
    refine ite_b (fun c1 => ?_) (fun c1 => ?_)
    · have c2 : isCap c = false := (Bool.not_eq_true' _).mp c1
      rw [show isName (c :: r) = false by show (isCap c && _) = _; rw [c2]; rfl] at q
      (repeat (first | refine And.intro (by first | exact True.intro | exact rfl | omega | exact ob_i rfl rfl | exact Nat.le_of_ble_eq_true rfl | exact of_decide_eq_true rfl) ?_ | refine ob_i rfl ?_))
      exact q
    · have c2 : isCap c = true := by
        cases h : isCap c with
        | true => rfl
        | false =>
          have c1' : (!isCap c) = false := c1
          rw [h] at c1'
          cases c1'
      (repeat (first | refine And.intro (by first | exact True.intro | exact rfl | omega | exact ob_i rfl rfl | exact Nat.le_of_ble_eq_true rfl | exact of_decide_eq_true rfl) ?_ | refine ob_i rfl ?_))
      refine ob_if (lim hll) ?_
      (repeat (first | refine And.intro (by first | exact True.intro | exact rfl | omega | exact ob_i rfl rfl | exact Nat.le_of_ble_eq_true rfl | exact of_decide_eq_true rfl) ?_ | refine ob_i rfl ?_))
      rw [show cutL (c :: r) (some 1) none = r from cutL_from (c :: r) (i := 1) (by rw [List.length_cons]; omega)]
      refine ite_d (fun c3 => ?_) (fun c3 => ?_)
      · have c4 : r = [] := c3
        subst c4
        rw [show isName [c] = true by show (isCap c && _) = _; rw [c2]; rfl] at q
        (repeat (first | refine And.intro (by first | exact True.intro | exact rfl | omega | exact ob_i rfl rfl | exact Nat.le_of_ble_eq_true rfl | exact of_decide_eq_true rfl) ?_ | refine ob_i rfl ?_))
        exact q
      · have c4 : r ≠ [] := c3
        rw [isName_cons c2 c4] at q
        (repeat (first | refine And.intro (by first | exact True.intro | exact rfl | omega | exact ob_i rfl rfl | exact Nat.le_of_ble_eq_true rfl | exact of_decide_eq_true rfl) ?_ | refine ob_i rfl ?_))
        refine ob_if (lim hll) ?_
        (repeat (first | refine And.intro (by first | exact True.intro | exact rfl | omega | exact ob_i rfl rfl | exact Nat.le_of_ble_eq_true rfl | exact of_decide_eq_true rfl) ?_ | refine ob_i rfl ?_))
        refine ite_d (fun c5 => ?_) (fun c5 => ?_)
        · have c6 : ((r.length + 1 : Nat) : Int) ≤ 6 := c5
          rw [decide_eq_true (show r.length + 1 ≤ 6 by omega), Bool.true_and] at q
          (repeat (first | refine And.intro (by first | exact True.intro | exact rfl | omega | exact ob_i rfl rfl | exact Nat.le_of_ble_eq_true rfl | exact of_decide_eq_true rfl) ?_ | refine ob_i rfl ?_))
          refine ob_if (lim hll) ?_
          (repeat (first | refine And.intro (by first | exact True.intro | exact rfl | omega | exact ob_i rfl rfl | exact Nat.le_of_ble_eq_true rfl | exact of_decide_eq_true rfl) ?_ | refine ob_i rfl ?_))
          rw [show cutL (c :: r) (some 1) none = r from cutL_from (c :: r) (i := 1) (by rw [List.length_cons]; omega)]
          refine ap_is_sign (by omega) ?_
          (repeat (first | refine And.intro (by first | exact True.intro | exact rfl | omega | exact ob_i rfl rfl | exact Nat.le_of_ble_eq_true rfl | exact of_decide_eq_true rfl) ?_ | refine ob_i rfl ?_))
          exact q
        · have c6 : ¬ ((r.length + 1 : Nat) : Int) ≤ 6 := c5
          rw [decide_eq_false (show ¬ r.length + 1 ≤ 6 by omega)] at q
          (repeat (first | refine And.intro (by first | exact True.intro | exact rfl | omega | exact ob_i rfl rfl | exact Nat.le_of_ble_eq_true rfl | exact of_decide_eq_true rfl) ?_ | refine ob_i rfl ?_))
          exact q
end

--USES pw
--PURE
/-! judges: what is a signature, a condition (plain data) -/
abbrev pzD (p : List Nat × Int) : D := .tup [.str p.1, .int p.2]
def sgBad (ps : List (List Nat × Int)) (j : Nat) : Bool := match ps[j]? with
  | some p => decide (8 ≤ j) || (decide (p.1 ∈ (ps.take j).map (·.1)) || (!isSign p.1 || !(decide (0 ≤ p.2) && decide (p.2 ≤ 3))))
  | none => false
def sgErr (ps : List (List Nat × Int)) : Option Nat := if ps.length = 0 then some 0 else fst1 ps.length (sgBad ps)
theorem sgBad_at {ps : List (List Nat × Int)} {j : Nat} (hj : j < ps.length) : sgBad ps j = (decide (8 ≤ j) || (decide (ps[j].1 ∈ (ps.take j).map (·.1)) || (!isSign ps[j].1 || !(decide (0 ≤ ps[j].2) && decide (ps[j].2 ≤ 3))))) := by
  unfold sgBad
  rw [List.getElem?_eq_getElem hj]
def isNumD (lim : Int) : D → Bool
  | .int i => decide (0 ≤ i) && decide (i < lim)
  | _ => false
def isPairD (a n : Int) : D → Bool
  | .tup [x, y] => isNumD a x && isNumD n y
  | _ => false
def isChoD (a n : Int) : D → Bool
  | .tup ps => decide (ps.length ≤ 4) && ps.all (isPairD a n)
  | _ => false
def isCndL (a n : Int) (cs : List D) : Bool := decide (cs.length ≤ 4) && cs.all (isChoD a n)
def xIS (i : Nat) : Xc := xcE "InvalidSign" ["at"] [nD i]
def xIR (i : Nat) : Xc := xcE "InvalidRules" ["at"] [nD i]
def xIC (i j : Nat) : Xc := xcE "InvalidCondition" ["state", "at"] [nD i, nD j]
def xRows (i : Nat) : Xc := xcE "InvalidRows" ["at"] [nD i]
/-- a row too short or too long, or a fourth one -/
def rlBad (n : Nat) (rows : List (List (List D))) (j : Nat) : Bool := match rows[j]? with
  | some r => decide (3 ≤ j) || decide (r.length ≠ n)
  | none => false
theorem rlBad_at {n : Nat} {rows : List (List (List D))} {j : Nat} (hj : j < rows.length) : rlBad n rows j = (decide (3 ≤ j) || decide (rows[j].length ≠ n)) := by
  unfold rlBad
  rw [List.getElem?_eq_getElem hj]
def rlErr (n : Nat) (rows : List (List (List D))) : Option Nat := if rows.length = 0 then some 0 else fst1 rows.length (rlBad n rows)
def cdBad (ps : List (List Nat × Int)) (rows : List (List (List D))) (s j : Nat) : Bool := match rows[s]?, ps[j]? with
  | some r, some p => match r[j]? with
    | some c => !isCndL p.2 rows.length c
    | none => false
  | _, _ => false
theorem cdBad_at {ps : List (List Nat × Int)} {rows : List (List (List D))} {s j : Nat} (hs : s < rows.length) (hj : j < ps.length) (hr : j < rows[s].length) : cdBad ps rows s j = !isCndL ps[j].2 rows.length rows[s][j] := by
  unfold cdBad
  rw [List.getElem?_eq_getElem hs, List.getElem?_eq_getElem hj]
  show (match (rows[s])[j]? with | some c => !isCndL ps[j].2 rows.length c | none => false) = _
  rw [List.getElem?_eq_getElem hr]
def cdErr (ps : List (List Nat × Int)) (rows : List (List (List D))) : Option (Nat × Nat) := (List.range rows.length).findSome? fun s => (fst1 ps.length (cdBad ps rows s)).map fun j => (s, j)
theorem cdErr_none {ps : List (List Nat × Int)} {rows : List (List (List D))} (h : ∀ s, s < rows.length → ∀ j, j < ps.length → cdBad ps rows s j = false) : cdErr ps rows = none := by
  unfold cdErr
  rw [List.findSome?_eq_none_iff]
  intro s hs
  rw [fst1_none (h s (List.mem_range.mp hs))]
  rfl
theorem findSome_range {β : Type} {f : Nat → Option β} {b : β} : ∀ {n s : Nat}, s < n → f s = some b → (∀ i, i < s → f i = none) → (List.range n).findSome? f = some b
  | 0, s, hs, _, _ => by omega
  | n + 1, s, hs, h1, h2 => by
    rw [List.range_succ, List.findSome?_append]
    by_cases e : s < n
    · rw [findSome_range e h1 h2]
      rfl
    · have : s = n := by omega
      subst this
      rw [List.findSome?_eq_none_iff.mpr fun i hi => h2 i (List.mem_range.mp hi)]
      show (match f s with | some b => some b | none => none) = some b
      rw [h1]
theorem cdErr_some {ps : List (List Nat × Int)} {rows : List (List (List D))} {s j : Nat} (hs : s < rows.length) (hj : j < ps.length) (hb : cdBad ps rows s j = true) (h1 : ∀ i, i < j → cdBad ps rows s i = false) (h2 : ∀ t, t < s → ∀ i, i < ps.length → cdBad ps rows t i = false) : cdErr ps rows = some (s, j) := by
  unfold cdErr
  refine findSome_range hs ?_ fun t ht => ?_
  · rw [fst1_some hj hb h1]
    rfl
  · rw [fst1_none (h2 t ht)]
    rfl
/-- the judge of a signature and rules -/
def plcD : Nat → List (List Nat × Int) → List (D × D)
  | _, [] => []
  | n, p :: ps => (.str p.1, nD n) :: plcD (n + 1) ps
def jdD (ps : List (List Nat × Int)) (rows : List (List (List D))) : List (Str × D) := [("pairs", .lst (ps.map pzD)), ("places", .dic (plcD 0 ps)), ("rules", .lst (rows.map fun r => .lst (r.map .tup)))]

--USES is_sign pjudge
abbrev s_check_signature : Stmt := topS 63
abbrev N_check_signature : List Str := ["signature", "seen", "at", "sign", "arity"]
theorem sc_check_signature : FnScope N_check_signature ["signature"] (defScope s_check_signature) := ⟨rfl, rfl, rfl, by decide +kernel, rfl, by decide +kernel, by decide +kernel⟩

abbrev i_InvalidSign : Stmt := inClass (topS 4) 0
theorem sci_InvalidSign : FnScope ["self", "at"] ["self", "at"] (defScope i_InvalidSign) := ⟨rfl, rfl, rfl, by decide +kernel, rfl, by decide +kernel, by decide +kernel⟩
section
variable {P : Program} {w : World} {K : PySem.W.Frag} {mg : Str → Option Value} {base : Heap}
theorem xok_InvalidSign (Z : Xcl K mg "InvalidSign" i_InvalidSign ["at"]) : XOk P w K mg base "InvalidSign" ["at"] := by
  obtain ⟨fI, fd, iC, tI, F⟩ := Z.fI
  refine ⟨Z.gC, Z.ox, fI, fd, ["self", "at"], iC, tI, F.ok sci_InvalidSign (fun vs H Q E h => ?_) (fun cdv A outer s H vs Q E hr h => ?_), F.binds (fun _ _ _ _ _ _ us hl => match us, hl with | [_, _], _ => rfl)⟩
  · obtain ⟨a, ws, rfl, hl, _⟩ := h
    show ws.length + 1 = 2
    rw [hl]
    rfl
  · obtain ⟨a, ws, rfl, hl, ha, q⟩ := h
    obtain ⟨w0, rfl⟩ := len1 hl
    refine ⟨_, (pss_cons (ps_gst (pv 0) (pv 1)) (pss_one (ps_gst (pv 0) pe_str))), ?_⟩
    refine ⟨_, rfl, _, rfl, a, _, rfl, Z.ox, Z.no "at" (by decide), .inl ⟨ha, fun dx hd hne => ?_⟩⟩
    refine ⟨_, rfl, a, _, rfl, Z.ox, Z.no "tag" (by decide), .inr ⟨dx, _, upd_same, (by rw [upd_ne hne]; exact upd_same), (by simp), ?_⟩⟩
    exact q _ dx hd hne (fun b hb hbd => by rw [upd_ne hbd, upd_ne hb, upd_ne hbd]) (by rw [upd_ne (Ne.symm hne)]; exact upd_same) upd_same
end

def isp_check_signature : ISp := fun os Q E => ∃ d ps, os = [.fr d] ∧ seqD d = some (ps.map pzD) ∧ ps.length ≤ 1000 ∧ (∀ p ∈ ps, p.1.length ≤ 1000 ∧ p.1.all (· < 0x110000) = true) ∧ (sgErr ps = none → Q (.fr .non) os) ∧ (∀ i, sgErr ps = some i → E (xIS i) os)
theorem ap_check_signature {d : D} {ps : List (List Nat × Int)} {Q : O → List O → Prop} {E : Xc → List O → Prop} (hd : seqD d = some (ps.map pzD)) (h1 : ps.length ≤ 1000) (h2 : ∀ p ∈ ps, p.1.length ≤ 1000 ∧ p.1.all (· < 0x110000) = true) (q : sgErr ps = none → Q (.fr .non) [.fr d]) (e : ∀ i, sgErr ps = some i → E (xIS i) [.fr d]) : isp_check_signature [.fr d] Q E := ⟨d, ps, rfl, hd, h1, h2, q, e⟩
theorem pNe_int {i j : Int} : pNe (.int i) (.int j) = some (.fr (.bl (!decide (i = j)))) := rfl
theorem pEq_int {i j : Int} : pEq (.int i) (.int j) = some (.fr (.bl (decide (i = j)))) := rfl
section
variable {P : Program} {w : World} {K : PySem.W.Frag} {mg : Str → Option Value} {base : Heap}
theorem cal_check_signature (Df : Dfn K mg "check_signature" s_check_signature) (B : Bt mg) (Zc : Xcl K mg "InvalidSign" i_InvalidSign ["at"]) (g_MOST_SIGNS : Gv mg "MOST_SIGNS" (.int 8)) (g_MOST_ARITY : Gv mg "MOST_ARITY" (.int 3)) (c_is_sign : CalX P w K mg base 1 "is_sign" (spI K 1 [] isp_is_sign)) : CalX P w K mg base 5 "check_signature" (spI K 1 [] isp_check_signature) := by
  have z_InvalidSign := xok_InvalidSign (P := P) (w := w) (base := base) Zc
  refine cal_I Df sc_check_signature (fun _ _ _ _ _ _ us hl => match us, hl with | [_], _ => rfl) rfl (by decide) (by decide) (fun f cdv A outer s H E hr => (es_cons (es_set (i := 1) sc_check_signature.nd rfl (by first | exact .inl rfl | exact .inr rfl) (by decide) (ev_lst ea_nil))
      (es_cons (es_for (vs := [2, 3, 4]) (passes_of rfl) rfl (by decide) (ei_enum rfl (by rfl) B.enumerate (ev_var (pv 0))) (eg_tup (n := 2) rfl rfl (egs_cons (eg_name (i := 2) sc_check_signature.nd rfl (by first | exact .inl rfl | exact .inr rfl) (by decide)) (egs_cons (eg_tup (n := 2) rfl rfl (egs_cons (eg_name (i := 3) sc_check_signature.nd rfl (by first | exact .inl rfl | exact .inr rfl) (by decide)) (egs_cons (eg_name (i := 4) sc_check_signature.nd rfl (by first | exact .inl rfl | exact .inr rfl) (by decide)) egs_nil))) egs_nil))) (es_cons (es_if (PW.pt (ew_or (et_cmp rfl o_ge (ev_var (pv 2)) (ev_gv (by rfl) g_MOST_SIGNS (fun _ => .int _)) (nomark _)) (ew_or (et_cmp rfl (o_in (u65 hr)) (ev_var (pv 3)) (ev_var (pv 1)) (by rfl)) (ew_or (et_not (et_val (ev_call rfl c_is_sign (takes_of rfl rfl rfl rfl) hr (by omega) (by rfl) (em_d (ev_var (pv 3)) em_nil)))) (pw_or1 (et_not (et_chain rfl o_le o_le ev_int (ev_var (pv 4)) (ev_gv (by rfl) g_MOST_ARITY (fun _ => .int _))))))))) (es_one (es_raise (k := 0) rfl rfl (takes_of rfl rfl rfl rfl) z_InvalidSign (hr.mono (by omega)) (by rfl) (ea_cons (ev_var (pv 2)) ea_nil))) es_nil)
      (es_one (es_expr (ev_mt rfl PySem.F.slot_list_append PySem.F.type_list_append m_app (ev_var (pv 1)) (ea_cons (ev_var (pv 3)) ea_nil))))))
      (es_one (es_if (et_cmp rfl (o_eq hr.units) (ev_b1 rfl b_len (by rfl) B.len PySem.boot_len (ev_var (pv 0))) ev_int (nomark _)) (es_one (es_raise (k := 0) rfl rfl (takes_of rfl rfl rfl rfl) z_InvalidSign (hr.mono (by omega)) (by rfl) (ea_cons ev_int ea_nil))) es_nil))))) ?_
  intro os Q0 E0 hl h
  obtain ⟨d, ps, rfl, hd, hn, hps, q, e⟩ := h
  (repeat (first | refine And.intro (by first | exact True.intro | exact rfl | omega | exact ob_i rfl rfl | exact Nat.le_of_ble_eq_true rfl | exact of_decide_eq_true rfl) ?_ | refine ob_i rfl ?_))
  refine ob_i hd ?_
  refine fo_en (f := pzD) (l := ps) (fun j ρ => ∃ x2 x3 x4, ρ = [some (.fr d), some (.lst (((ps.take j).map (·.1)).map .str)), x2, x3, x4] ∧ ∀ i, i < j → sgBad ps i = false) ⟨none, none, none, rfl, fun _ h => by omega⟩ ?_ ?_
  · rintro ρ ⟨x2, x3, x4, rfl, hall⟩
    (repeat (first | refine And.intro (by first | exact True.intro | exact rfl | omega | exact ob_i rfl rfl | exact Nat.le_of_ble_eq_true rfl | exact of_decide_eq_true rfl) ?_ | refine ob_i rfl ?_))
    refine ob_i (pLen_seq hd) ?_
    rw [List.length_map]
    (repeat (first | refine And.intro (by first | exact True.intro | exact rfl | omega | exact ob_i rfl rfl | exact Nat.le_of_ble_eq_true rfl | exact of_decide_eq_true rfl) ?_ | refine ob_i rfl ?_))
    refine ite_d (fun c => ?_) (fun c => ?_)
    · (repeat (first | refine And.intro (by first | exact True.intro | exact rfl | omega | exact ob_i rfl rfl | exact Nat.le_of_ble_eq_true rfl | exact of_decide_eq_true rfl) ?_ | refine ob_i rfl ?_))
      refine e 0 ?_
      unfold sgErr
      rw [if_pos (by omega)]
    · (repeat (first | refine And.intro (by first | exact True.intro | exact rfl | omega | exact ob_i rfl rfl | exact Nat.le_of_ble_eq_true rfl | exact of_decide_eq_true rfl) ?_ | refine ob_i rfl ?_))
      refine q ?_
      unfold sgErr
      rw [if_neg (by omega), fst1_none hall]
  · rintro j hj ρ ⟨x2, x3, x4, rfl, hall⟩ k hk
    have hp := hps _ (List.getElem_mem hj)
    have ne : ¬ ps.length = 0 := by omega
    have hb : sgBad ps j = (decide (8 ≤ j) || (decide (ps[j].1 ∈ (ps.take j).map (·.1)) || (!isSign ps[j].1 || !(decide (0 ≤ ps[j].2) && decide (ps[j].2 ≤ 3))))) := by
      unfold sgBad
      rw [List.getElem?_eq_getElem hj]
    have fire : sgBad ps j = true → E0 (xIS j) [.fr d] := fun hh => e j (by unfold sgErr; rw [if_neg ne, fst1_some hj hh hall])
    generalize hpj : ps[j] = pj at hp hb
    (repeat (first | refine And.intro (by first | exact True.intro | exact rfl | omega | exact ob_i rfl rfl | exact Nat.le_of_ble_eq_true rfl | exact of_decide_eq_true rfl) ?_ | refine ob_i rfl ?_))
    refine ite_d (fun c => ?_) (fun c => ?_)
    · (repeat (first | refine And.intro (by first | exact True.intro | exact rfl | omega | exact ob_i rfl rfl | exact Nat.le_of_ble_eq_true rfl | exact of_decide_eq_true rfl) ?_ | refine ob_i rfl ?_))
      refine fire ?_
      rw [hb, decide_eq_true (by omega)]
      rfl
    have h8 : decide (8 ≤ j) = false := decide_eq_false (by omega)
    (repeat (first | refine And.intro (by first | exact True.intro | exact rfl | omega | exact ob_i rfl rfl | exact Nat.le_of_ble_eq_true rfl | exact of_decide_eq_true rfl) ?_ | refine ob_i rfl ?_))
    refine ob_i (pIn_str (fun l hl => ?_) hp.2) ?_
    · obtain ⟨p, hp, rfl⟩ := List.mem_map.mp hl
      exact (hps p (List.mem_of_mem_take hp)).2
    (repeat (first | refine And.intro (by first | exact True.intro | exact rfl | omega | exact ob_i rfl rfl | exact Nat.le_of_ble_eq_true rfl | exact of_decide_eq_true rfl) ?_ | refine ob_i rfl ?_))
    refine ite_d (fun c => ?_) (fun c => ?_)
    · (repeat (first | refine And.intro (by first | exact True.intro | exact rfl | omega | exact ob_i rfl rfl | exact Nat.le_of_ble_eq_true rfl | exact of_decide_eq_true rfl) ?_ | refine ob_i rfl ?_))
      refine fire ?_
      rw [hb, h8, decide_eq_true c]
      rfl
    (repeat (first | refine And.intro (by first | exact True.intro | exact rfl | omega | exact ob_i rfl rfl | exact Nat.le_of_ble_eq_true rfl | exact of_decide_eq_true rfl) ?_ | refine ob_i rfl ?_))
    refine ap_is_sign (by omega) ?_
    (repeat (first | refine And.intro (by first | exact True.intro | exact rfl | omega | exact ob_i rfl rfl | exact Nat.le_of_ble_eq_true rfl | exact of_decide_eq_true rfl) ?_ | refine ob_i rfl ?_))
    cases hs : isSign pj.1 with
    | false =>
      (repeat (first | refine And.intro (by first | exact True.intro | exact rfl | omega | exact ob_i rfl rfl | exact Nat.le_of_ble_eq_true rfl | exact of_decide_eq_true rfl) ?_ | refine ob_i rfl ?_))
      refine fire ?_
      rw [hb, h8, hs, decide_eq_false c]
      rfl
    | true =>
      (repeat (first | refine And.intro (by first | exact True.intro | exact rfl | omega | exact ob_i rfl rfl | exact Nat.le_of_ble_eq_true rfl | exact of_decide_eq_true rfl) ?_ | refine ob_i rfl ?_))
      refine ite_d (fun c1 => ?_) (fun c1 => ?_)
      · (repeat (first | refine And.intro (by first | exact True.intro | exact rfl | omega | exact ob_i rfl rfl | exact Nat.le_of_ble_eq_true rfl | exact of_decide_eq_true rfl) ?_ | refine ob_i rfl ?_))
        cases c2 : decide (pj.2 ≤ 3) with
        | false =>
          (repeat (first | refine And.intro (by first | exact True.intro | exact rfl | omega | exact ob_i rfl rfl | exact Nat.le_of_ble_eq_true rfl | exact of_decide_eq_true rfl) ?_ | refine ob_i rfl ?_))
          refine fire ?_
          rw [hb, h8, hs, decide_eq_false c, decide_eq_true c1, c2]
          rfl
        | true =>
          (repeat (first | refine And.intro (by first | exact True.intro | exact rfl | omega | exact ob_i rfl rfl | exact Nat.le_of_ble_eq_true rfl | exact of_decide_eq_true rfl) ?_ | refine ob_i rfl ?_))
          refine ob_i (fApp_at (by rw [List.length_map, List.length_map, List.length_take]; omega)) ?_
          (repeat (first | refine And.intro (by first | exact True.intro | exact rfl | omega | exact ob_i rfl rfl | exact Nat.le_of_ble_eq_true rfl | exact of_decide_eq_true rfl) ?_ | refine ob_i rfl ?_))
          refine hk _ ⟨some (.fr (nD j)), some (.fr (.str pj.1)), some (.fr (.int pj.2)), ?_, fun i hi => ?_⟩
          · rw [List.take_add_one, List.getElem?_eq_getElem hj, List.map_append, List.map_append, hpj]
            rfl
          · by_cases z : i = j
            · subst z
              rw [hb, h8, hs, decide_eq_false c, decide_eq_true c1, c2]
              rfl
            · exact hall i (by omega)
      · (repeat (first | refine And.intro (by first | exact True.intro | exact rfl | omega | exact ob_i rfl rfl | exact Nat.le_of_ble_eq_true rfl | exact of_decide_eq_true rfl) ?_ | refine ob_i rfl ?_))
        refine fire ?_
        rw [hb, h8, hs, decide_eq_false c, decide_eq_false c1]
        rfl
end

--USES chk
abbrev s_is_number : Stmt := topS 74
abbrev N_is_number : List Str := ["thing", "limit"]
theorem sc_is_number : FnScope N_is_number ["thing", "limit"] (defScope s_is_number) := ⟨rfl, rfl, rfl, by decide +kernel, rfl, by decide +kernel, by decide +kernel⟩

abbrev s_is_choice : Stmt := topS 75
abbrev N_is_choice : List Str := ["choice", "arity", "states", "pair"]
theorem sc_is_choice : FnScope N_is_choice ["choice", "arity", "states"] (defScope s_is_choice) := ⟨rfl, rfl, rfl, by decide +kernel, rfl, by decide +kernel, by decide +kernel⟩

abbrev s_is_condition : Stmt := topS 76
abbrev N_is_condition : List Str := ["condition", "arity", "states", "choice"]
theorem sc_is_condition : FnScope N_is_condition ["condition", "arity", "states"] (defScope s_is_condition) := ⟨rfl, rfl, rfl, by decide +kernel, rfl, by decide +kernel, by decide +kernel⟩

/-- has a type that isinstance knows -/
def tyk (d : D) : Bool := (tyD d).isSome
def isp_is_number : ISp := fun os Q _ => ∃ d lim, os = [.fr d, .fr (.int lim)] ∧ tyk d = true ∧ Q (.fr (.bl (isNumD lim d))) os
theorem ap_is_number {d : D} {lim : Int} {Q : O → List O → Prop} {E : Xc → List O → Prop} (h : tyk d = true) (q : Q (.fr (.bl (isNumD lim d))) [.fr d, .fr (.int lim)]) : isp_is_number [.fr d, .fr (.int lim)] Q E := ⟨d, lim, rfl, h, q⟩
/-- a thing of a choice's place -/
def chOk : D → Prop
  | .tup ps => ps.length ≤ 1000 ∧ ∀ p ∈ ps, tyk p = true ∧ ∀ xs, p = .tup xs → ∀ x ∈ xs, tyk x = true
  | d => tyk d = true
def isp_is_choice : ISp := fun os Q _ => ∃ d a n, os = [.fr d, .fr (.int a), .fr (.int n)] ∧ chOk d ∧ Q (.fr (.bl (isChoD a n d))) os
theorem ap_is_choice {d : D} {a n : Int} {Q : O → List O → Prop} {E : Xc → List O → Prop} (h : chOk d) (q : Q (.fr (.bl (isChoD a n d))) [.fr d, .fr (.int a), .fr (.int n)]) : isp_is_choice [.fr d, .fr (.int a), .fr (.int n)] Q E := ⟨d, a, n, rfl, h, q⟩
def isp_is_condition : ISp := fun os Q _ => ∃ cs a n, os = [.fr (.tup cs), .fr (.int a), .fr (.int n)] ∧ cs.length ≤ 1000 ∧ (∀ c ∈ cs, chOk c) ∧ Q (.fr (.bl (isCndL a n cs))) os
theorem ap_is_condition {cs : List D} {a n : Int} {Q : O → List O → Prop} {E : Xc → List O → Prop} (h0 : cs.length ≤ 1000) (h : ∀ c ∈ cs, chOk c) (q : Q (.fr (.bl (isCndL a n cs))) [.fr (.tup cs), .fr (.int a), .fr (.int n)]) : isp_is_condition [.fr (.tup cs), .fr (.int a), .fr (.int n)] Q E := ⟨cs, a, n, rfl, h0, h, q⟩
theorem isChoD_no {a n : Int} {d : D} (h : ∀ ps, d ≠ .tup ps) : isChoD a n d = false := by
  cases d with
  | tup ps => exact absurd rfl (h ps)
  | _ => rfl
theorem isPairD_no {a n : Int} {d : D} (h : ∀ x y, d ≠ .tup [x, y]) : isPairD a n d = false := by
  unfold isPairD
  split
  · rename_i x y
    exact absurd rfl (h x y)
  · rfl
theorem isiD_ty {T : String} {d : D} (h : tyk d = true) : ∃ t, tyD d = some t ∧ isiD T d = some (.fr (.bl (t == T || (t == "bool" && T == "int")))) := by
  unfold tyk at h
  cases e : tyD d with
  | none => rw [e] at h; cases h
  | some t => exact ⟨t, rfl, by unfold isiD; rw [e]⟩
theorem ap_bool {Q : O → List O → Prop} {b c : Bool} {os : List O} (e : b = c) (h : Q (.fr (.bl b)) os) : Q (.fr (.bl c)) os := e ▸ h
theorem pAll_map {α : Type} {f : α → Bool} (l : List α) : pAll (.lst (l.map fun c => D.bl (f c))) = some (.fr (.bl (l.all f))) := by
  have e : (l.map fun c => D.bl (f c)) = (l.map f).map D.bl := by rw [List.map_map]; rfl
  show (bls (l.map fun c => D.bl (f c))).map _ = _
  rw [e, bls_map]
  show some (O.fr (.bl ((l.map f).all id))) = _
  rw [List.all_map]
  rfl
section
variable {P : Program} {w : World} {K : PySem.W.Frag} {mg : Str → Option Value} {base : Heap}
theorem cal_is_number (Df : Dfn K mg "is_number" s_is_number) (B : Bt mg) : CalX P w K mg base 1 "is_number" (spI K 2 [] isp_is_number) := by
  refine cal_I Df sc_is_number (fun _ _ _ _ _ _ us hl => match us, hl with | [_, _], _ => rfl) rfl (by decide) (by decide) (fun f cdv A outer s H E hr => (es_one (es_ret (ev_and (ev_isi (T := "int") rfl (by decide) (by rfl) B.isinstance (by rfl) B.int (by decide +kernel) (ev_var (pv 0))) (ev_and (ev_not (ev_isi (T := "bool") rfl (by decide) (by rfl) B.isinstance (by rfl) B.bool (by decide +kernel) (ev_var (pv 0)))) (pe_one (ev_chain rfl o_le o_lt ev_int (ev_var (pv 0)) (ev_var (pv 1))))))))) ?_
  intro os Q0 E0 hl h
  obtain ⟨d, lim, rfl, hd, q⟩ := h
  cases d with
  | int i =>
    (repeat (first | refine And.intro (by first | exact True.intro | exact rfl | omega | exact ob_i rfl rfl | exact Nat.le_of_ble_eq_true rfl | exact of_decide_eq_true rfl) ?_ | refine ob_i rfl ?_))
    refine ite_d (fun c => ?_) (fun c => ?_)
    · (repeat (first | refine And.intro (by first | exact True.intro | exact rfl | omega | exact ob_i rfl rfl | exact Nat.le_of_ble_eq_true rfl | exact of_decide_eq_true rfl) ?_ | refine ob_i rfl ?_))
      exact ap_bool (by show (decide (0 ≤ i) && decide (i < lim)) = _; rw [decide_eq_true c]; rfl) q
    · (repeat (first | refine And.intro (by first | exact True.intro | exact rfl | omega | exact ob_i rfl rfl | exact Nat.le_of_ble_eq_true rfl | exact of_decide_eq_true rfl) ?_ | refine ob_i rfl ?_))
      exact ap_bool (by show (decide (0 ≤ i) && decide (i < lim)) = _; rw [decide_eq_false c]; rfl) q
  | ins c fs => cases hd
  | scr ns => cases hd
  | dit ns => cases hd
  | _ =>
    (repeat (first | refine And.intro (by first | exact True.intro | exact rfl | omega | exact ob_i rfl rfl | exact Nat.le_of_ble_eq_true rfl | exact of_decide_eq_true rfl) ?_ | refine ob_i rfl ?_))
    exact q
theorem cal_is_choice (Df : Dfn K mg "is_choice" s_is_choice) (B : Bt mg) (g_MOST_CHOICES : Gv mg "MOST_CHOICES" (.int 4)) (c_is_number : CalX P w K mg base 1 "is_number" (spI K 2 [] isp_is_number)) : CalX P w K mg base 2 "is_choice" (spI K 3 [] isp_is_choice) := by
  refine cal_I Df sc_is_choice (fun _ _ _ _ _ _ us hl => match us, hl with | [_, _, _], _ => rfl) rfl (by decide) (by decide) (fun f cdv A outer s H E hr => (es_cons (es_if (PW.pt (ew_or (et_not (et_val (ev_isi (T := "tuple") rfl (by decide) (by rfl) B.isinstance (by rfl) B.tuple (by decide +kernel) (ev_var (pv 0))))) (pw_or1 (et_cmp rfl o_gt (ev_b1 rfl b_len (by rfl) B.len PySem.boot_len (ev_var (pv 0))) (ev_gv (by rfl) g_MOST_CHOICES (fun _ => .int _)) (nomark _))))) (es_one (es_ret ev_bl)) es_nil)
      (es_cons (es_for (vs := [3]) (passes_of rfl) rfl (by decide) (ei_sq rfl (ev_var (pv 0))) (eg_name (i := 3) sc_is_choice.nd rfl (by first | exact .inl rfl | exact .inr rfl) (by decide)) (es_cons (es_if (PW.pt (ew_or (et_not (et_val (ev_isi (T := "tuple") rfl (by decide) (by rfl) B.isinstance (by rfl) B.tuple (by decide +kernel) (ev_var (pv 3))))) (pw_or1 (et_cmp rfl (o_ne hr.units) (ev_b1 rfl b_len (by rfl) B.len PySem.boot_len (ev_var (pv 3))) ev_int (nomark _))))) (es_one (es_ret ev_bl)) es_nil)
      (es_one (es_if (PW.pt (ew_or (et_not (et_val (ev_call rfl c_is_number (takes_of rfl rfl rfl rfl) hr (by omega) (by rfl) (em_d (ev_ix rfl o_ix (ev_var (pv 3)) ev_int (fun _ _ => rfl)) (em_d (ev_var (pv 1)) em_nil))))) (pw_or1 (et_not (et_val (ev_call rfl c_is_number (takes_of rfl rfl rfl rfl) hr (by omega) (by rfl) (em_d (ev_ix rfl o_ix (ev_var (pv 3)) ev_int (fun _ _ => rfl)) (em_d (ev_var (pv 2)) em_nil)))))))) (es_one (es_ret ev_bl)) es_nil))))
      (es_one (es_ret ev_bl))))) ?_
  intro os Q0 E0 hl h
  obtain ⟨d, a, n, rfl, hd, q⟩ := h
  cases d with
  | ins c fs => cases hd
  | scr ns => cases hd
  | dit ns => cases hd
  | tup ps =>
    obtain ⟨h0, hps⟩ := hd
    (repeat (first | refine And.intro (by first | exact True.intro | exact rfl | omega | exact ob_i rfl rfl | exact Nat.le_of_ble_eq_true rfl | exact of_decide_eq_true rfl) ?_ | refine ob_i rfl ?_))
    refine ite_d (fun c => ?_) (fun c => ?_)
    · (repeat (first | refine And.intro (by first | exact True.intro | exact rfl | omega | exact ob_i rfl rfl | exact Nat.le_of_ble_eq_true rfl | exact of_decide_eq_true rfl) ?_ | refine ob_i rfl ?_))
      exact ap_bool (by show (decide (ps.length ≤ 4) && _) = _; rw [decide_eq_false (by omega)]; rfl) q
    have hlen : decide (ps.length ≤ 4) = true := decide_eq_true (by omega)
    (repeat (first | refine And.intro (by first | exact True.intro | exact rfl | omega | exact ob_i rfl rfl | exact Nat.le_of_ble_eq_true rfl | exact of_decide_eq_true rfl) ?_ | refine ob_i rfl ?_))
    refine fo_at (fun j ρ => ∃ x, ρ = [some (.fr (.tup ps)), some (.fr (.int a)), some (.fr (.int n)), x] ∧ ∀ (i : Nat) (hi : i < ps.length), i < j → isPairD a n ps[i] = true) ⟨none, rfl, fun _ _ h => by omega⟩ ?_ ?_
    · rintro ρ ⟨x, rfl, hall⟩
      (repeat (first | refine And.intro (by first | exact True.intro | exact rfl | omega | exact ob_i rfl rfl | exact Nat.le_of_ble_eq_true rfl | exact of_decide_eq_true rfl) ?_ | refine ob_i rfl ?_))
      refine ap_bool ?_ q
      show (decide (ps.length ≤ 4) && ps.all _) = true
      rw [hlen, List.all_eq_true.mpr fun p hp => ?_]
      · rfl
      · obtain ⟨i, hi, rfl⟩ := List.getElem_of_mem hp
        exact hall i hi hi
    · rintro j hj ρ ⟨x, rfl, hall⟩ k hk
      obtain ⟨t1, t2⟩ := hps _ (List.getElem_mem hj)
      have no : isPairD a n ps[j] = false → isChoD a n (.tup ps) = false := fun z => by
        show (decide (ps.length ≤ 4) && ps.all _) = false
        have : ps.all (isPairD a n) = false := by
          rw [List.all_eq_false]
          exact ⟨ps[j], List.getElem_mem hj, by rw [z]; exact Bool.false_ne_true⟩
        rw [this, Bool.and_false]
      have go : isPairD a n ps[j] = true → ∀ x, k [some (.fr (.tup ps)), some (.fr (.int a)), some (.fr (.int n)), x] := fun z x => hk _ ⟨x, rfl, fun i hi hlt => by
        by_cases e : i = j
        · subst e
          exact z
        · exact hall i hi (by omega)⟩
      show gN 3 ps[j] _ _
      generalize ps[j] = p at t1 t2 no go
      cases p with
      | ins c fs => cases t1
      | scr ns => cases t1
      | dit ns => cases t1
      | tup xs =>
        (repeat (first | refine And.intro (by first | exact True.intro | exact rfl | omega | exact ob_i rfl rfl | exact Nat.le_of_ble_eq_true rfl | exact of_decide_eq_true rfl) ?_ | refine ob_i rfl ?_))
        refine ite_b (fun c => ?_) (fun c => ?_)
        · (repeat (first | refine And.intro (by first | exact True.intro | exact rfl | omega | exact ob_i rfl rfl | exact Nat.le_of_ble_eq_true rfl | exact of_decide_eq_true rfl) ?_ | refine ob_i rfl ?_))
          refine ap_bool (no (isPairD_no fun x y e => ?_)) q
          cases e
          cases c
        · have e2 : ∃ x y, xs = [x, y] := by
            have c' : (!decide ((xs.length : Int) = 2)) = false := c
            have c2 : (xs.length : Int) = 2 := by simpa using c'
            match xs, c2 with
            | [x, y], _ => exact ⟨x, y, rfl⟩
            | [], h => simp at h
            | [_], h => simp at h
            | _ :: _ :: _ :: _, h => simp at h; omega
          obtain ⟨x, y, rfl⟩ := e2
          have tx := t2 _ rfl x (by simp)
          have ty := t2 _ rfl y (by simp)
          (repeat (first | refine And.intro (by first | exact True.intro | exact rfl | omega | exact ob_i rfl rfl | exact Nat.le_of_ble_eq_true rfl | exact of_decide_eq_true rfl) ?_ | refine ob_i rfl ?_))
          refine ap_is_number tx ?_
          (repeat (first | refine And.intro (by first | exact True.intro | exact rfl | omega | exact ob_i rfl rfl | exact Nat.le_of_ble_eq_true rfl | exact of_decide_eq_true rfl) ?_ | refine ob_i rfl ?_))
          refine ite_b (fun c1 => ?_) (fun c1 => ?_)
          · have e1 : isNumD a x = false := not_t c1
            (repeat (first | refine And.intro (by first | exact True.intro | exact rfl | omega | exact ob_i rfl rfl | exact Nat.le_of_ble_eq_true rfl | exact of_decide_eq_true rfl) ?_ | refine ob_i rfl ?_))
            exact ap_bool (no (by show (isNumD a x && _) = _; rw [e1]; rfl)) q
          · have e1 : isNumD a x = true := not_f c1
            (repeat (first | refine And.intro (by first | exact True.intro | exact rfl | omega | exact ob_i rfl rfl | exact Nat.le_of_ble_eq_true rfl | exact of_decide_eq_true rfl) ?_ | refine ob_i rfl ?_))
            refine ap_is_number ty ?_
            (repeat (first | refine And.intro (by first | exact True.intro | exact rfl | omega | exact ob_i rfl rfl | exact Nat.le_of_ble_eq_true rfl | exact of_decide_eq_true rfl) ?_ | refine ob_i rfl ?_))
            refine ite_b (fun c2 => ?_) (fun c2 => ?_)
            · have e2 : isNumD n y = false := not_t c2
              (repeat (first | refine And.intro (by first | exact True.intro | exact rfl | omega | exact ob_i rfl rfl | exact Nat.le_of_ble_eq_true rfl | exact of_decide_eq_true rfl) ?_ | refine ob_i rfl ?_))
              exact ap_bool (no (by show (isNumD a x && isNumD n y) = _; rw [e1, e2]; rfl)) q
            · have e2 : isNumD n y = true := not_f c2
              (repeat (first | refine And.intro (by first | exact True.intro | exact rfl | omega | exact ob_i rfl rfl | exact Nat.le_of_ble_eq_true rfl | exact of_decide_eq_true rfl) ?_ | refine ob_i rfl ?_))
              exact go (by show (isNumD a x && isNumD n y) = _; rw [e1, e2]; rfl) _
      | _ =>
        (repeat (first | refine And.intro (by first | exact True.intro | exact rfl | omega | exact ob_i rfl rfl | exact Nat.le_of_ble_eq_true rfl | exact of_decide_eq_true rfl) ?_ | refine ob_i rfl ?_))
        exact ap_bool (no rfl) q
  | _ =>
    (repeat (first | refine And.intro (by first | exact True.intro | exact rfl | omega | exact ob_i rfl rfl | exact Nat.le_of_ble_eq_true rfl | exact of_decide_eq_true rfl) ?_ | refine ob_i rfl ?_))
    exact q
theorem cal_is_condition (Df : Dfn K mg "is_condition" s_is_condition) (B : Bt mg) (g_MOST_CHOICES : Gv mg "MOST_CHOICES" (.int 4)) (c_is_choice : CalX P w K mg base 2 "is_choice" (spI K 3 [] isp_is_choice)) : CalX P w K mg base 3 "is_condition" (spI K 3 [] isp_is_condition) := by
  refine cal_I Df sc_is_condition (fun _ _ _ _ _ _ us hl => match us, hl with | [_, _, _], _ => rfl) rfl (by decide) (by decide) (fun f cdv A outer s H E hr => (es_one (es_ret (ev_and (ev_cmp rfl o_le (ev_b1 rfl b_len (by rfl) B.len PySem.boot_len (ev_var (pv 0))) (ev_gv (by rfl) g_MOST_CHOICES (fun _ => .int _)) (nomark _)) (pe_one (ev_b1 rfl (b_all rfl) (by rfl) B.all (by decide +kernel) (ev_lc (own := [("choice", 3)]) (vs := [3]) rfl rfl sc_is_condition.nd (ei_sq rfl (ev_var (pv 0))) (blkOk_by (own := [("choice", 3)]) (N := N_is_condition) (sc := defScope s_is_condition) (by decide +kernel)) (fun _ _ _ _ _ => (eg_name (i := 3) sc_is_condition.nd rfl (by first | exact .inl rfl | exact .inr rfl) (by decide))) (fun _ _ _ _ _ => et_yes) (fun _ _ _ _ _ => (ev_call rfl c_is_choice takes_W0 hr (by omega) (by rfl) (em_d (ev_var (pv 3)) (em_d (ev_var (pv 1)) (em_d (ev_var (pv 2)) em_nil)))))))))))) ?_
  intro os Q0 E0 hl h
  obtain ⟨cs, a, n, rfl, h0, hcs, q⟩ := h
  (repeat (first | refine And.intro (by first | exact True.intro | exact rfl | omega | exact ob_i rfl rfl | exact Nat.le_of_ble_eq_true rfl | exact of_decide_eq_true rfl) ?_ | refine ob_i rfl ?_))
  refine ite_d (fun c => ?_) (fun c => ?_)
  · (repeat (first | refine And.intro (by first | exact True.intro | exact rfl | omega | exact ob_i rfl rfl | exact Nat.le_of_ble_eq_true rfl | exact of_decide_eq_true rfl) ?_ | refine ob_i rfl ?_))
    refine lc_at1 (fun j acc ρ => ρ = [some (.fr (.tup cs)), some (.fr (.int a)), some (.fr (.int n)), none] ∧ acc = (cs.take j).map fun c => .bl (isChoD a n c)) (by omega) ⟨rfl, rfl⟩ ?_ ?_
    · rintro acc ρ ⟨rfl, rfl⟩
      (repeat (first | refine And.intro (by first | exact True.intro | exact rfl | omega | exact ob_i rfl rfl | exact Nat.le_of_ble_eq_true rfl | exact of_decide_eq_true rfl) ?_ | refine ob_i rfl ?_))
      rw [List.take_of_length_le (Nat.le_refl _)]
      refine ob_i (pAll_map cs) ?_
      (repeat (first | refine And.intro (by first | exact True.intro | exact rfl | omega | exact ob_i rfl rfl | exact Nat.le_of_ble_eq_true rfl | exact of_decide_eq_true rfl) ?_ | refine ob_i rfl ?_))
      exact ap_bool (by show (decide (cs.length ≤ 4) && _) = _; rw [decide_eq_true (by omega)]; rfl) q
    · rintro j hj acc ρ ⟨rfl, rfl⟩ k hk
      (repeat (first | refine And.intro (by first | exact True.intro | exact rfl | omega | exact ob_i rfl rfl | exact Nat.le_of_ble_eq_true rfl | exact of_decide_eq_true rfl) ?_ | refine ob_i rfl ?_))
      refine ap_is_choice (hcs _ (List.getElem_mem hj)) ?_
      (repeat (first | refine And.intro (by first | exact True.intro | exact rfl | omega | exact ob_i rfl rfl | exact Nat.le_of_ble_eq_true rfl | exact of_decide_eq_true rfl) ?_ | refine ob_i rfl ?_))
      refine hk _ _ ⟨rfl, ?_⟩
      rw [List.take_add_one, List.getElem?_eq_getElem hj, List.map_append]
      rfl
  · (repeat (first | refine And.intro (by first | exact True.intro | exact rfl | omega | exact ob_i rfl rfl | exact Nat.le_of_ble_eq_true rfl | exact of_decide_eq_true rfl) ?_ | refine ob_i rfl ?_))
    exact ap_bool (by show (decide (cs.length ≤ 4) && _) = _; rw [decide_eq_false (by omega)]; rfl) q
end

--USES isnum
abbrev s_Judge_init : Stmt := inClass (topS 82) 1
abbrev N_Judge_init : List Str := ["self", "signature", "rules", "at", "row", "state", "condition", "sign", "arity"]
theorem sc_Judge_init : FnScope N_Judge_init ["self", "signature", "rules"] (defScope s_Judge_init) := ⟨rfl, rfl, rfl, by decide +kernel, rfl, by decide +kernel, by decide +kernel⟩

abbrev i_InvalidRules : Stmt := inClass (topS 8) 0
theorem sci_InvalidRules : FnScope ["self", "at"] ["self", "at"] (defScope i_InvalidRules) := ⟨rfl, rfl, rfl, by decide +kernel, rfl, by decide +kernel, by decide +kernel⟩
section
variable {P : Program} {w : World} {K : PySem.W.Frag} {mg : Str → Option Value} {base : Heap}
theorem xok_InvalidRules (Z : Xcl K mg "InvalidRules" i_InvalidRules ["at"]) : XOk P w K mg base "InvalidRules" ["at"] := by
  obtain ⟨fI, fd, iC, tI, F⟩ := Z.fI
  refine ⟨Z.gC, Z.ox, fI, fd, ["self", "at"], iC, tI, F.ok sci_InvalidRules (fun vs H Q E h => ?_) (fun cdv A outer s H vs Q E hr h => ?_), F.binds (fun _ _ _ _ _ _ us hl => match us, hl with | [_, _], _ => rfl)⟩
  · obtain ⟨a, ws, rfl, hl, _⟩ := h
    show ws.length + 1 = 2
    rw [hl]
    rfl
  · obtain ⟨a, ws, rfl, hl, ha, q⟩ := h
    obtain ⟨w0, rfl⟩ := len1 hl
    refine ⟨_, (pss_cons (ps_gst (pv 0) (pv 1)) (pss_one (ps_gst (pv 0) pe_str))), ?_⟩
    refine ⟨_, rfl, _, rfl, a, _, rfl, Z.ox, Z.no "at" (by decide), .inl ⟨ha, fun dx hd hne => ?_⟩⟩
    refine ⟨_, rfl, a, _, rfl, Z.ox, Z.no "tag" (by decide), .inr ⟨dx, _, upd_same, (by rw [upd_ne hne]; exact upd_same), (by simp), ?_⟩⟩
    exact q _ dx hd hne (fun b hb hbd => by rw [upd_ne hbd, upd_ne hb, upd_ne hbd]) (by rw [upd_ne (Ne.symm hne)]; exact upd_same) upd_same
end

abbrev i_InvalidCondition : Stmt := inClass (topS 9) 0
theorem sci_InvalidCondition : FnScope ["self", "state", "at"] ["self", "state", "at"] (defScope i_InvalidCondition) := ⟨rfl, rfl, rfl, by decide +kernel, rfl, by decide +kernel, by decide +kernel⟩
section
variable {P : Program} {w : World} {K : PySem.W.Frag} {mg : Str → Option Value} {base : Heap}
theorem xok_InvalidCondition (Z : Xcl K mg "InvalidCondition" i_InvalidCondition ["state", "at"]) : XOk P w K mg base "InvalidCondition" ["state", "at"] := by
  obtain ⟨fI, fd, iC, tI, F⟩ := Z.fI
  refine ⟨Z.gC, Z.ox, fI, fd, ["self", "state", "at"], iC, tI, F.ok sci_InvalidCondition (fun vs H Q E h => ?_) (fun cdv A outer s H vs Q E hr h => ?_), F.binds (fun _ _ _ _ _ _ us hl => match us, hl with | [_, _, _], _ => rfl)⟩
  · obtain ⟨a, ws, rfl, hl, _⟩ := h
    show ws.length + 1 = 3
    rw [hl]
    rfl
  · obtain ⟨a, ws, rfl, hl, ha, q⟩ := h
    obtain ⟨w0, w1, rfl⟩ := len2 hl
    refine ⟨_, (pss_cons (ps_gst (pv 0) (pv 1)) (pss_cons (ps_gst (pv 0) (pv 2)) (pss_one (ps_gst (pv 0) pe_str)))), ?_⟩
    refine ⟨_, rfl, _, rfl, a, _, rfl, Z.ox, Z.no "state" (by decide), .inl ⟨ha, fun dx hd hne => ?_⟩⟩
    refine ⟨_, rfl, _, rfl, a, _, rfl, Z.ox, Z.no "at" (by decide), .inr ⟨dx, _, upd_same, (by rw [upd_ne hne]; exact upd_same), (by simp), ?_⟩⟩
    refine ⟨_, rfl, a, _, rfl, Z.ox, Z.no "tag" (by decide), .inr ⟨dx, _, (by rw [upd_ne (Ne.symm hne)]; exact upd_same), upd_same, (by simp), ?_⟩⟩
    exact q _ dx hd hne (fun b hb hbd => by rw [upd_ne hbd, upd_ne hbd, upd_ne hb, upd_ne hbd]) (by rw [upd_ne (Ne.symm hne), upd_ne (Ne.symm hne)]; exact upd_same) upd_same
end

/-- a row as a list or a tuple -/
def rwB (x : Bool × List (List D)) : D := if x.1 = true then .lst (x.2.map .tup) else .tup (x.2.map .tup)
theorem rwB_seq (x : Bool × List (List D)) : seqD (rwB x) = some (x.2.map .tup) := by
  obtain ⟨b, r⟩ := x
  cases b <;> rfl
def jgO (ps : List (List Nat × Int)) (rows : List (List (List D))) : O := .ins "Judge" [("pairs", .lst (ps.map pzD)), ("places", .dic (plcD 0 ps)), ("rules", .lst (rows.map fun r => .lst (r.map .tup)))]
def sgOk (ps : List (List Nat × Int)) : Prop := ps.length ≤ 1000 ∧ ∀ p ∈ ps, p.1.length ≤ 1000 ∧ p.1.all (· < 0x110000) = true
def rlOk (rows : List (List (List D))) : Prop := rows.length ≤ 1000 ∧ ∀ r ∈ rows, r.length ≤ 1000 ∧ ∀ c ∈ r, c.length ≤ 1000 ∧ ∀ x ∈ c, chOk x
/-- the error of Judge(ps, rows) -/
def jgErr (ps : List (List Nat × Int)) (rows : List (List (List D))) : Option Xc := match sgErr ps with
  | some i => some (xIS i)
  | none => match rlErr ps.length rows with
    | some i => some (xIR i)
    | none => (cdErr ps rows).map fun p => xIC p.1 p.2
def isp_Judge : ISp := fun os Q E => ∃ (sd rd : D) (ps : List (List Nat × Int)) (rs : List (Bool × List (List D))), os = [.ins "Judge" [], .fr sd, .fr rd] ∧ seqD sd = some (ps.map pzD) ∧ seqD rd = some (rs.map rwB) ∧ sgOk ps ∧ rlOk (rs.map (·.2)) ∧
  (jgErr ps (rs.map (·.2)) = none → Q (.fr .non) [jgO ps (rs.map (·.2)), .fr sd, .fr rd]) ∧ (∀ x, jgErr ps (rs.map (·.2)) = some x → E x os)
theorem putD_new {kvs : List (D × D)} {k v : D} (h : (kvs.any fun p => decide (keyOf p.1 = keyOf k)) = false) : putD kvs k v = kvs ++ [(k, v)] := by
  unfold putD
  rw [h]
  rfl
theorem plcD_snoc : ∀ (n : Nat) (ps : List (List Nat × Int)) (p : List Nat × Int), plcD n (ps ++ [p]) = plcD n ps ++ [(.str p.1, nD (n + ps.length))]
  | n, [], p => by
    show [(D.str p.1, nD n)] = [] ++ [(.str p.1, nD (n + 0))]
    rfl
  | n, q :: ps, p => by
    show (D.str q.1, nD n) :: plcD (n + 1) (ps ++ [p]) = _
    rw [plcD_snoc (n + 1) ps p, show n + 1 + ps.length = n + (q :: ps).length by simp; omega]
    rfl
theorem plcD_any {l : List Nat} : ∀ (n : Nat) (ps : List (List Nat × Int)), l ∉ ps.map (·.1) → ((plcD n ps).any fun p => decide (keyOf p.1 = keyOf (.str l))) = false
  | n, [], _ => rfl
  | n, q :: ps, h => by
    show (decide (keyOf (.str q.1) = keyOf (.str l)) || (plcD (n + 1) ps).any _) = false
    rw [plcD_any (n + 1) ps fun z => h (List.mem_cons_of_mem _ z), Bool.or_false]
    refine decide_eq_false fun e => h ?_
    have e1 : (S q.1) = S l := by
      have e2 : (some (Sum.inr (S q.1)) : Option Key) = some (Sum.inr (S l)) := e
      exact Sum.inr.inj (Option.some.inj e2)
    have e3 : q.1 = l := by
      have := congrArg (fun x : Str => x.cps.toList) e1
      simpa [S] using this
    rw [← e3]
    exact List.mem_cons_self
theorem plcD_len : ∀ (n : Nat) (ps : List (List Nat × Int)), (plcD n ps).length = ps.length
  | n, [] => rfl
  | n, q :: ps => congrArg (· + 1) (plcD_len (n + 1) ps)
theorem sg_new {ps : List (List Nat × Int)} (h : sgErr ps = none) {j : Nat} (hj : j < ps.length) : ps[j].1 ∉ (ps.take j).map (·.1) := by
  unfold sgErr at h
  rw [if_neg (by omega)] at h
  have hb := fst1_all h j hj
  rw [sgBad_at hj] at hb
  intro z
  rw [decide_eq_true z] at hb
  simp at hb
section
variable {P : Program} {w : World} {K : PySem.W.Frag} {mg : Str → Option Value} {base : Heap}
theorem mk_Judge_ok (k_Judge : Kls K mg "Judge" ["pairs", "places", "rules"]) (M : Mfn K "Judge" "__init__" "Judge.__init__" s_Judge_init) (cc_Judge_MOST : CCn K mg "Judge" "MOST" 3) (B : Bt mg) (Z1 : Xcl K mg "InvalidRules" i_InvalidRules ["at"]) (Z2 : Xcl K mg "InvalidCondition" i_InvalidCondition ["state", "at"])
    (c_check_signature : CalX P w K mg base 5 "check_signature" (spI K 1 [] isp_check_signature)) (c_is_condition : CalX P w K mg base 3 "is_condition" (spI K 3 [] isp_is_condition)) : MkX P w K mg base 7 "Judge" (spI K 3 [0] isp_Judge) := by
  have z_InvalidRules := xok_InvalidRules (P := P) (w := w) (base := base) Z1
  have z_InvalidCondition := xok_InvalidCondition (P := P) (w := w) (base := base) Z2
  refine mk_I k_Judge M sc_Judge_init (fun _ _ _ _ _ _ us hl => match us, hl with | [_, _, _], _ => rfl) rfl (by decide) (by decide) (fun f cdv A outer s H E hr => (es_cons (es_expr (ev_call rfl c_check_signature (takes_of rfl rfl rfl rfl) hr (by omega) (by rfl) (em_d (ev_var (pv 1)) em_nil)))
      (es_cons (es_for (vs := [3, 4]) (passes_of rfl) rfl (by decide) (ei_enum rfl (by rfl) B.enumerate (ev_var (pv 2))) (eg_tup (n := 2) rfl rfl (egs_cons (eg_name (i := 3) sc_Judge_init.nd rfl (by first | exact .inl rfl | exact .inr rfl) (by decide)) (egs_cons (eg_name (i := 4) sc_Judge_init.nd rfl (by first | exact .inl rfl | exact .inr rfl) (by decide)) egs_nil))) (es_one (es_if (PW.pt (ew_or (et_cmp rfl o_ge (ev_var (pv 3)) (ev_cc rfl cc_Judge_MOST (by rfl)) (nomark _)) (pw_or1 (et_cmp rfl (o_ne hr.units) (ev_b1 rfl b_len (by rfl) B.len PySem.boot_len (ev_var (pv 4))) (ev_b1 rfl b_len (by rfl) B.len PySem.boot_len (ev_var (pv 1))) (nomark _))))) (es_one (es_raise (k := 0) rfl rfl (takes_of rfl rfl rfl rfl) z_InvalidRules (hr.mono (by omega)) (by rfl) (ea_cons (ev_var (pv 3)) ea_nil))) es_nil)))
      (es_cons (es_if (et_cmp rfl (o_eq hr.units) (ev_b1 rfl b_len (by rfl) B.len PySem.boot_len (ev_var (pv 2))) ev_int (nomark _)) (es_one (es_raise (k := 0) rfl rfl (takes_of rfl rfl rfl rfl) z_InvalidRules (hr.mono (by omega)) (by rfl) (ea_cons ev_int ea_nil))) es_nil)
      (es_cons (es_for (vs := [5, 4]) (passes_of rfl) rfl (by decide) (ei_enum rfl (by rfl) B.enumerate (ev_var (pv 2))) (eg_tup (n := 2) rfl rfl (egs_cons (eg_name (i := 5) sc_Judge_init.nd rfl (by first | exact .inl rfl | exact .inr rfl) (by decide)) (egs_cons (eg_name (i := 4) sc_Judge_init.nd rfl (by first | exact .inl rfl | exact .inr rfl) (by decide)) egs_nil))) (es_one (es_for (vs := [3, 6]) (passes_of rfl) rfl (by decide) (ei_enum rfl (by rfl) B.enumerate (ev_var (pv 4))) (eg_tup (n := 2) rfl rfl (egs_cons (eg_name (i := 3) sc_Judge_init.nd rfl (by first | exact .inl rfl | exact .inr rfl) (by decide)) (egs_cons (eg_name (i := 6) sc_Judge_init.nd rfl (by first | exact .inl rfl | exact .inr rfl) (by decide)) egs_nil))) (es_one (es_if (et_not (et_val (ev_call rfl c_is_condition (takes_of rfl rfl rfl rfl) hr (by omega) (by rfl) (em_d (ev_var (pv 6)) (em_d (ev_ix rfl o_ix (ev_ix rfl o_ix (ev_var (pv 1)) (ev_var (pv 3)) (fun _ _ => rfl)) ev_int (fun _ _ => rfl)) (em_d (ev_b1 rfl b_len (by rfl) B.len PySem.boot_len (ev_var (pv 2))) em_nil)))))) (es_one (es_raise (k := 0) rfl rfl (takes_of rfl rfl rfl rfl) z_InvalidCondition (hr.mono (by omega)) (by rfl) (ea_cons (ev_var (pv 5)) (ea_cons (ev_var (pv 3)) ea_nil)))) es_nil)))))
      (es_cons (es_fset (i := 0) rfl (k_Judge.noF (by decide)) (pv 0) (ev_lc (own := [("sign", 7), ("arity", 8)]) (vs := [7, 8]) rfl rfl sc_Judge_init.nd (ei_sq rfl (ev_var (pv 1))) (blkOk_by (own := [("sign", 7), ("arity", 8)]) (N := N_Judge_init) (sc := defScope s_Judge_init) (by decide +kernel)) (fun _ _ _ _ _ => (eg_tup (n := 2) rfl rfl (egs_cons (eg_name (i := 7) sc_Judge_init.nd rfl (by first | exact .inl rfl | exact .inr rfl) (by decide)) (egs_cons (eg_name (i := 8) sc_Judge_init.nd rfl (by first | exact .inl rfl | exact .inr rfl) (by decide)) egs_nil)))) (fun _ _ _ _ _ => et_yes) (fun _ _ _ _ _ => (ev_tup (ea_cons (ev_var (pv 7)) (ea_cons (ev_var (pv 8)) ea_nil))))))
      (es_cons (es_fset (i := 0) rfl (k_Judge.noF (by decide)) (pv 0) (ev_dc (own := [("at", 3), ("sign", 7), ("arity", 8)]) (vs := [3, 7, 8]) rfl rfl sc_Judge_init.nd (ei_enum rfl (by rfl) B.enumerate (ev_var (pv 1))) (blkOk_by (own := [("at", 3), ("sign", 7), ("arity", 8)]) (N := N_Judge_init) (sc := defScope s_Judge_init) (by decide +kernel)) (fun _ _ _ _ _ => (eg_tup (n := 2) rfl rfl (egs_cons (eg_name (i := 3) sc_Judge_init.nd rfl (by first | exact .inl rfl | exact .inr rfl) (by decide)) (egs_cons (eg_tup (n := 2) rfl rfl (egs_cons (eg_name (i := 7) sc_Judge_init.nd rfl (by first | exact .inl rfl | exact .inr rfl) (by decide)) (egs_cons (eg_name (i := 8) sc_Judge_init.nd rfl (by first | exact .inl rfl | exact .inr rfl) (by decide)) egs_nil))) egs_nil)))) (fun _ _ _ _ _ => et_yes) (fun _ _ _ _ _ => (ev_var (pv 7))) (fun _ _ _ _ _ => (ev_var (pv 3)))))
      (es_one (es_fset (i := 0) rfl (k_Judge.noF (by decide)) (pv 0) (ev_lc (own := [("row", 4)]) (vs := [4]) rfl rfl sc_Judge_init.nd (ei_sq rfl (ev_var (pv 2))) (blkOk_by (own := [("row", 4)]) (N := N_Judge_init) (sc := defScope s_Judge_init) (by decide +kernel)) (fun _ _ _ _ _ => (eg_name (i := 4) sc_Judge_init.nd rfl (by first | exact .inl rfl | exact .inr rfl) (by decide))) (fun _ _ _ _ _ => et_yes) (fun _ _ _ _ _ => (ev_t1 rfl b_list (by rfl) B.list (by decide +kernel) (ev_var (pv 4)))))))))))))) ?_
  intro os Q0 E0 hl h
  obtain ⟨sd, rd, ps, rs, rfl, hsd, hrd, hps, hrs, q, e⟩ := h
  have hlm : ((rs.map (·.2)).length) = rs.length := List.length_map _
  (repeat (first | refine And.intro (by first | exact True.intro | exact rfl | omega | exact ob_i rfl rfl | exact Nat.le_of_ble_eq_true rfl | exact of_decide_eq_true rfl) ?_ | refine ob_i rfl ?_))
  refine ap_check_signature hsd hps.1 hps.2 (fun sg => ?_) (fun i hi => ?_)
  · (repeat (first | refine And.intro (by first | exact True.intro | exact rfl | omega | exact ob_i rfl rfl | exact Nat.le_of_ble_eq_true rfl | exact of_decide_eq_true rfl) ?_ | refine ob_i rfl ?_))
    refine ob_i hrd ?_
    refine fo_en (f := rwB) (l := rs) (fun j ρ => ∃ x3 x4, ρ = [some (.ins "Judge" []), some (.fr sd), some (.fr rd), x3, x4, none, none, none, none] ∧ ∀ i, i < j → rlBad ps.length (rs.map (·.2)) i = false) ⟨none, none, rfl, fun _ h => by omega⟩ ?_ ?_
    · rintro ρ ⟨x3, x4, rfl, hall⟩
      (repeat (first | refine And.intro (by first | exact True.intro | exact rfl | omega | exact ob_i rfl rfl | exact Nat.le_of_ble_eq_true rfl | exact of_decide_eq_true rfl) ?_ | refine ob_i rfl ?_))
      refine ob_i (pLen_seq hrd) ?_
      rw [List.length_map]
      (repeat (first | refine And.intro (by first | exact True.intro | exact rfl | omega | exact ob_i rfl rfl | exact Nat.le_of_ble_eq_true rfl | exact of_decide_eq_true rfl) ?_ | refine ob_i rfl ?_))
      refine ite_d (fun c => ?_) (fun c => ?_)
      · (repeat (first | refine And.intro (by first | exact True.intro | exact rfl | omega | exact ob_i rfl rfl | exact Nat.le_of_ble_eq_true rfl | exact of_decide_eq_true rfl) ?_ | refine ob_i rfl ?_))
        refine e _ ?_
        unfold jgErr rlErr
        rw [sg, if_pos (by rw [hlm]; omega)]
        rfl
      have rl : rlErr ps.length (rs.map (·.2)) = none := by
        unfold rlErr
        rw [if_neg (by rw [hlm]; omega)]
        exact fst1_none (by rw [hlm]; exact hall)
      have rlen : ∀ (s : Nat) (hs : s < rs.length), rs[s].2.length = ps.length := fun s hs => by
        have z := hall s hs
        rw [rlBad_at (by rw [hlm]; exact hs), List.getElem_map] at z
        simp only [Bool.or_eq_false_iff, decide_eq_false_iff_not, Decidable.not_not] at z
        exact z.2
      (repeat (first | refine And.intro (by first | exact True.intro | exact rfl | omega | exact ob_i rfl rfl | exact Nat.le_of_ble_eq_true rfl | exact of_decide_eq_true rfl) ?_ | refine ob_i rfl ?_))
      refine ob_i hrd ?_
      refine fo_en (f := rwB) (l := rs) (fun s ρ => ∃ x3 x4 x5 x6, ρ = [some (.ins "Judge" []), some (.fr sd), some (.fr rd), x3, x4, x5, x6, none, none] ∧ ∀ t, t < s → ∀ i, i < ps.length → cdBad ps (rs.map (·.2)) t i = false) ⟨x3, x4, none, none, rfl, fun _ h => by omega⟩ ?_ ?_
      · rintro ρ ⟨x3, x4, x5, x6, rfl, hcd⟩
        have cd : cdErr ps (rs.map (·.2)) = none := cdErr_none (by rw [hlm]; exact hcd)
        have fin := q (by unfold jgErr; rw [sg, rl, cd]; rfl)
        (repeat (first | refine And.intro (by first | exact True.intro | exact rfl | omega | exact ob_i rfl rfl | exact Nat.le_of_ble_eq_true rfl | exact of_decide_eq_true rfl) ?_ | refine ob_i rfl ?_))
        refine ob_i (itD_seq hsd) ?_
        refine lc_on (f := pzD) (l := ps) (fun j acc ρ => ρ = [some (.ins "Judge" []), some (.fr sd), some (.fr rd), x3, x4, x5, x6, none, none] ∧ acc = (ps.take j).map pzD) (by have := hps.1; omega) ⟨rfl, rfl⟩ ?_ ?_
        · rintro acc ρ ⟨rfl, rfl⟩
          rw [List.take_of_length_le (Nat.le_refl _)]
          (repeat (first | refine And.intro (by first | exact True.intro | exact rfl | omega | exact ob_i rfl rfl | exact Nat.le_of_ble_eq_true rfl | exact of_decide_eq_true rfl) ?_ | refine ob_i rfl ?_))
          refine ob_i hsd ?_
          refine dc_at1 (fun j acc ρ => ρ = [some (.ins "Judge" [("pairs", .lst (ps.map pzD))]), some (.fr sd), some (.fr rd), none, x4, x5, x6, none, none] ∧ acc = plcD 0 (ps.take j)) ⟨rfl, rfl⟩ ?_ ?_
          · rintro acc ρ ⟨rfl, rfl⟩
            rw [enD_len, List.length_map, List.take_of_length_le (Nat.le_refl _)]
            (repeat (first | refine And.intro (by first | exact True.intro | exact rfl | omega | exact ob_i rfl rfl | exact Nat.le_of_ble_eq_true rfl | exact of_decide_eq_true rfl) ?_ | refine ob_i rfl ?_))
            refine ob_i (itD_seq hrd) ?_
            refine lc_on (f := rwB) (l := rs) (fun j acc ρ => ρ = [some (.ins "Judge" [("pairs", .lst (ps.map pzD)), ("places", .dic (plcD 0 ps))]), some (.fr sd), some (.fr rd), none, none, x5, x6, none, none] ∧ acc = ((rs.take j).map (·.2)).map fun r => D.lst (r.map .tup)) (by have := hrs.1; omega) ⟨rfl, rfl⟩ ?_ ?_
            · rintro acc ρ ⟨rfl, rfl⟩
              rw [List.take_of_length_le (Nat.le_refl _)]
              (repeat (first | refine And.intro (by first | exact True.intro | exact rfl | omega | exact ob_i rfl rfl | exact Nat.le_of_ble_eq_true rfl | exact of_decide_eq_true rfl) ?_ | refine ob_i rfl ?_))
              exact fin
            · rintro j hj acc ρ ⟨rfl, rfl⟩ k hk
              (repeat (first | refine And.intro (by first | exact True.intro | exact rfl | omega | exact ob_i rfl rfl | exact Nat.le_of_ble_eq_true rfl | exact of_decide_eq_true rfl) ?_ | refine ob_i rfl ?_))
              refine ob_i (pList_seq (rwB_seq _)) ?_
              (repeat (first | refine And.intro (by first | exact True.intro | exact rfl | omega | exact ob_i rfl rfl | exact Nat.le_of_ble_eq_true rfl | exact of_decide_eq_true rfl) ?_ | refine ob_i rfl ?_))
              refine hk _ _ ⟨rfl, ?_⟩
              rw [List.take_add_one, List.getElem?_eq_getElem hj, List.map_append, List.map_append]
              rfl
          · rintro j hj acc ρ ⟨rfl, rfl⟩ k hk
            have hj2 : j < ps.length := by rw [enD_len, List.length_map] at hj; exact hj
            rw [enD_nth 0 _ j hj (by rw [List.length_map]; exact hj2), List.getElem_map, Nat.zero_add]
            (repeat (first | refine And.intro (by first | exact True.intro | exact rfl | omega | exact ob_i rfl rfl | exact Nat.le_of_ble_eq_true rfl | exact of_decide_eq_true rfl) ?_ | refine ob_i rfl ?_))
            refine hk _ _ _ rfl (by rw [plcD_len, List.length_take]; have := hps.1; omega) ⟨rfl, ?_⟩
            show putD (plcD 0 (ps.take j)) (.str ps[j].1) (nD j) = _
            rw [putD_new (plcD_any 0 _ (sg_new sg hj2)), List.take_add_one, List.getElem?_eq_getElem hj2]
            show _ = plcD 0 (ps.take j ++ [ps[j]])
            rw [plcD_snoc, List.length_take, Nat.min_eq_left (by omega), Nat.zero_add]
        · rintro j hj acc ρ ⟨rfl, rfl⟩ k hk
          (repeat (first | refine And.intro (by first | exact True.intro | exact rfl | omega | exact ob_i rfl rfl | exact Nat.le_of_ble_eq_true rfl | exact of_decide_eq_true rfl) ?_ | refine ob_i rfl ?_))
          refine hk _ _ ⟨rfl, ?_⟩
          rw [List.take_add_one, List.getElem?_eq_getElem hj, List.map_append]
          rfl
      · rintro s hs ρ ⟨x3, x4, x5, x6, rfl, hcd⟩ k hk
        have hrow := hrs.2 rs[s].2 (List.mem_map_of_mem (List.getElem_mem hs))
        have hsl := rlen s hs
        have hs2 : s < (rs.map (·.2)).length := by rw [hlm]; exact hs
        (repeat (first | refine And.intro (by first | exact True.intro | exact rfl | omega | exact ob_i rfl rfl | exact Nat.le_of_ble_eq_true rfl | exact of_decide_eq_true rfl) ?_ | refine ob_i rfl ?_))
        refine ob_i (rwB_seq _) ?_
        refine fo_en (f := D.tup) (l := rs[s].2) (fun j ρ => ∃ x3 x6, ρ = [some (.ins "Judge" []), some (.fr sd), some (.fr rd), x3, some (.fr (rwB rs[s])), some (.fr (nD s)), x6, none, none] ∧ ∀ i, i < j → cdBad ps (rs.map (·.2)) s i = false) ⟨x3, x6, rfl, fun _ h => by omega⟩ ?_ ?_
        · rintro ρ ⟨x3, x6, rfl, hcr⟩
          refine hk _ ⟨x3, _, _, x6, rfl, fun t ht i hi => ?_⟩
          by_cases z : t = s
          · subst z
            exact hcr i (by rw [hsl]; exact hi)
          · exact hcd t (by omega) i hi
        · rintro j hj ρ ⟨x3, x6, rfl, hcr⟩ k2 hk2
          have hj2 : j < ps.length := by rw [← hsl]; exact hj
          have hc := hrow.2 _ (List.getElem_mem hj)
          have cb : cdBad ps (rs.map (·.2)) s j = !isCndL ps[j].2 rs.length rs[s].2[j] := by
            have z := cdBad_at hs2 hj2 (by rw [List.getElem_map]; exact hj)
            simp only [List.getElem_map, List.length_map] at z
            exact z
          (repeat (first | refine And.intro (by first | exact True.intro | exact rfl | omega | exact ob_i rfl rfl | exact Nat.le_of_ble_eq_true rfl | exact of_decide_eq_true rfl) ?_ | refine ob_i rfl ?_))
          refine ob_i (pIx_seqm hsd hj2) ?_
          (repeat (first | refine And.intro (by first | exact True.intro | exact rfl | omega | exact ob_i rfl rfl | exact Nat.le_of_ble_eq_true rfl | exact of_decide_eq_true rfl) ?_ | refine ob_i rfl ?_))
          refine ob_i (pLen_seq hrd) ?_
          rw [List.length_map]
          (repeat (first | refine And.intro (by first | exact True.intro | exact rfl | omega | exact ob_i rfl rfl | exact Nat.le_of_ble_eq_true rfl | exact of_decide_eq_true rfl) ?_ | refine ob_i rfl ?_))
          refine ap_is_condition hc.1 hc.2 ?_
          (repeat (first | refine And.intro (by first | exact True.intro | exact rfl | omega | exact ob_i rfl rfl | exact Nat.le_of_ble_eq_true rfl | exact of_decide_eq_true rfl) ?_ | refine ob_i rfl ?_))
          refine ite_b (fun c1 => ?_) (fun c1 => ?_)
          · (repeat (first | refine And.intro (by first | exact True.intro | exact rfl | omega | exact ob_i rfl rfl | exact Nat.le_of_ble_eq_true rfl | exact of_decide_eq_true rfl) ?_ | refine ob_i rfl ?_))
            refine e _ ?_
            unfold jgErr
            rw [sg, rl, cdErr_some hs2 hj2 (by rw [cb]; exact c1) hcr hcd]
            rfl
          · (repeat (first | refine And.intro (by first | exact True.intro | exact rfl | omega | exact ob_i rfl rfl | exact Nat.le_of_ble_eq_true rfl | exact of_decide_eq_true rfl) ?_ | refine ob_i rfl ?_))
            refine hk2 _ ⟨_, _, rfl, fun i hi => ?_⟩
            by_cases z : i = j
            · subst z
              rw [cb]
              exact c1
            · exact hcr i (by omega)
    · rintro j hj ρ ⟨x3, x4, rfl, hall⟩ k hk
      have hj2 : j < (rs.map (·.2)).length := by rw [hlm]; exact hj
      have rb : rlBad ps.length (rs.map (·.2)) j = (decide (3 ≤ j) || decide (rs[j].2.length ≠ ps.length)) := by
        rw [rlBad_at hj2, List.getElem_map]
      have fire : rlBad ps.length (rs.map (·.2)) j = true → E0 (xIR j) [.ins "Judge" [], .fr sd, .fr rd] := fun z => e _ (by
        unfold jgErr rlErr
        rw [sg, if_neg (by rw [hlm]; omega), fst1_some hj2 z hall])
      (repeat (first | refine And.intro (by first | exact True.intro | exact rfl | omega | exact ob_i rfl rfl | exact Nat.le_of_ble_eq_true rfl | exact of_decide_eq_true rfl) ?_ | refine ob_i rfl ?_))
      refine ite_d (fun c => ?_) (fun c => ?_)
      · (repeat (first | refine And.intro (by first | exact True.intro | exact rfl | omega | exact ob_i rfl rfl | exact Nat.le_of_ble_eq_true rfl | exact of_decide_eq_true rfl) ?_ | refine ob_i rfl ?_))
        exact fire (by rw [rb, decide_eq_true (by omega)]; rfl)
      (repeat (first | refine And.intro (by first | exact True.intro | exact rfl | omega | exact ob_i rfl rfl | exact Nat.le_of_ble_eq_true rfl | exact of_decide_eq_true rfl) ?_ | refine ob_i rfl ?_))
      refine ob_i (pLen_seq (rwB_seq _)) ?_
      (repeat (first | refine And.intro (by first | exact True.intro | exact rfl | omega | exact ob_i rfl rfl | exact Nat.le_of_ble_eq_true rfl | exact of_decide_eq_true rfl) ?_ | refine ob_i rfl ?_))
      refine ob_i (pLen_seq hsd) ?_
      rw [List.length_map, List.length_map]
      (repeat (first | refine And.intro (by first | exact True.intro | exact rfl | omega | exact ob_i rfl rfl | exact Nat.le_of_ble_eq_true rfl | exact of_decide_eq_true rfl) ?_ | refine ob_i rfl ?_))
      refine ite_b (fun c1 => ?_) (fun c1 => ?_)
      · (repeat (first | refine And.intro (by first | exact True.intro | exact rfl | omega | exact ob_i rfl rfl | exact Nat.le_of_ble_eq_true rfl | exact of_decide_eq_true rfl) ?_ | refine ob_i rfl ?_))
        refine fire ?_
        have c2 : ¬ ((rs[j].2.length : Int) = (ps.length : Int)) := of_decide_eq_false (not_t c1)
        rw [rb, decide_eq_true (show rs[j].2.length ≠ ps.length from fun z => c2 (by rw [z])), Bool.or_true]
      · have c2 : (rs[j].2.length : Int) = (ps.length : Int) := of_decide_eq_true (not_f c1)
        (repeat (first | refine And.intro (by first | exact True.intro | exact rfl | omega | exact ob_i rfl rfl | exact Nat.le_of_ble_eq_true rfl | exact of_decide_eq_true rfl) ?_ | refine ob_i rfl ?_))
        refine hk _ ⟨_, _, rfl, fun i hi => ?_⟩
        by_cases z : i = j
        · subst z
          rw [rb, decide_eq_false (by omega), decide_eq_false (show ¬ (rs[i].2.length ≠ ps.length) from fun z => z (by omega))]
          rfl
        · exact hall i (by omega)
  · (repeat (first | refine And.intro (by first | exact True.intro | exact rfl | omega | exact ob_i rfl rfl | exact Nat.le_of_ble_eq_true rfl | exact of_decide_eq_true rfl) ?_ | refine ob_i rfl ?_))
    refine e _ ?_
    unfold jgErr
    rw [hi]
end

--USES chk jinit
abbrev s_Program_init : Stmt := inClass (topS 70) 1
abbrev N_Program_init : List Str := ["self", "signature", "definitions", "at", "name", "words", "body", "good", "rows", "sign", "arity"]
theorem sc_Program_init : FnScope N_Program_init ["self", "signature", "definitions"] (defScope s_Program_init) := ⟨rfl, rfl, rfl, by decide +kernel, rfl, by decide +kernel, by decide +kernel⟩

abbrev s_Program_definitions : Stmt := inClass (topS 70) 9
abbrev N_Program_definitions : List Str := ["self", "name", "words", "body"]
theorem sc_Program_definitions : FnScope N_Program_definitions ["self"] (defScope s_Program_definitions) := ⟨rfl, rfl, rfl, by decide +kernel, rfl, by decide +kernel, by decide +kernel⟩

abbrev i_InvalidDefinition : Stmt := inClass (topS 5) 0
theorem sci_InvalidDefinition : FnScope ["self", "at"] ["self", "at"] (defScope i_InvalidDefinition) := ⟨rfl, rfl, rfl, by decide +kernel, rfl, by decide +kernel, by decide +kernel⟩
section
variable {P : Program} {w : World} {K : PySem.W.Frag} {mg : Str → Option Value} {base : Heap}
theorem xok_InvalidDefinition (Z : Xcl K mg "InvalidDefinition" i_InvalidDefinition ["at"]) : XOk P w K mg base "InvalidDefinition" ["at"] := by
  obtain ⟨fI, fd, iC, tI, F⟩ := Z.fI
  refine ⟨Z.gC, Z.ox, fI, fd, ["self", "at"], iC, tI, F.ok sci_InvalidDefinition (fun vs H Q E h => ?_) (fun cdv A outer s H vs Q E hr h => ?_), F.binds (fun _ _ _ _ _ _ us hl => match us, hl with | [_, _], _ => rfl)⟩
  · obtain ⟨a, ws, rfl, hl, _⟩ := h
    show ws.length + 1 = 2
    rw [hl]
    rfl
  · obtain ⟨a, ws, rfl, hl, ha, q⟩ := h
    obtain ⟨w0, rfl⟩ := len1 hl
    refine ⟨_, (pss_cons (ps_gst (pv 0) (pv 1)) (pss_one (ps_gst (pv 0) pe_str))), ?_⟩
    refine ⟨_, rfl, _, rfl, a, _, rfl, Z.ox, Z.no "at" (by decide), .inl ⟨ha, fun dx hd hne => ?_⟩⟩
    refine ⟨_, rfl, a, _, rfl, Z.ox, Z.no "tag" (by decide), .inr ⟨dx, _, upd_same, (by rw [upd_ne hne]; exact upd_same), (by simp), ?_⟩⟩
    exact q _ dx hd hne (fun b hb hbd => by rw [upd_ne hbd, upd_ne hb, upd_ne hbd]) (by rw [upd_ne (Ne.symm hne)]; exact upd_same) upd_same
end

/-- a definition: name, parameters, body -/
abbrev PtR := List Nat × D × D
abbrev ptKV (p : PtR) : D × D := (.str p.1, .tup [p.2.1, p.2.2])
abbrev ptRow (p : PtR) : D := .tup [.str p.1, p.2.1, p.2.2]
def xID (i : Nat) : Xc := xcE "InvalidDefinition" ["at"] [nD i]
def isp_definitions : ISp := fun os Q _ => ∃ ps : List PtR, ps.length ≤ 1000 ∧
  ((∃ pa ar, os = [.ins "Program" [("pairs", pa), ("arities", ar), ("parts", .dic (ps.map ptKV))]] ∧ Q (.lst (ps.map ptRow)) [.ins "Program" [("pairs", pa), ("arities", ar), ("parts", .fr (.dic (ps.map ptKV)))]]) ∨
  (∃ pa ar, os = [.ins "Program" [("pairs", pa), ("arities", ar), ("parts", .fr (.dic (ps.map ptKV)))]] ∧ Q (.lst (ps.map ptRow)) os) ∨
  (∃ pa ar fk, os = [.fr (.ins "Program" [("pairs", pa), ("arities", ar), ("parts", .dic (ps.map ptKV)), ("found_kinds", fk)])] ∧ Q (.lst (ps.map ptRow)) os))
theorem itm_pt (ps : List PtR) : itmD (ps.map ptKV) = ps.map fun p => .tup [.str p.1, .tup [p.2.1, p.2.2]] := by
  unfold itmD
  rw [List.map_map]
  rfl
def arD (ps : List (List Nat × Int)) : List (D × D) := ps.map fun p => (.str p.1, .int p.2)
theorem arD_any {l : List Nat} : ∀ ps : List (List Nat × Int), l ∉ ps.map (·.1) → ((arD ps).any fun p => decide (keyOf p.1 = keyOf (.str l))) = false
  | [], _ => rfl
  | p :: ps, h => by
    show (decide (keyOf (.str p.1) = keyOf (.str l)) || (arD ps).any _) = false
    rw [arD_any ps fun z => h (List.mem_cons_of_mem _ z), Bool.or_false]
    refine decide_eq_false fun e => h ?_
    have e2 : (some (Sum.inr (S p.1)) : Option Key) = some (Sum.inr (S l)) := e
    have e1 : (S p.1) = S l := Sum.inr.inj (Option.some.inj e2)
    have e3 : p.1 = l := by
      have := congrArg (fun x : Str => x.cps.toList) e1
      simpa [S] using this
    rw [← e3]
    exact List.mem_cons_self
/-- Program(ps, []) -/
def isp_Program0 : ISp := fun os Q E => ∃ (sd : D) (ps : List (List Nat × Int)), os = [.ins "Program" [], .fr sd, .fr (.lst [])] ∧ seqD sd = some (ps.map pzD) ∧ sgOk ps ∧ (∀ i, sgErr ps = some i → ∀ o, E (xIS i) [o, .fr sd, .fr (.lst [])]) ∧ (sgErr ps = none → ∀ o, E (xID 0) [o, .fr sd, .fr (.lst [])])
theorem ap_Program0 {sd : D} {ps : List (List Nat × Int)} {Q : O → List O → Prop} {E : Xc → List O → Prop} (h1 : seqD sd = some (ps.map pzD)) (h2 : sgOk ps) (h3 : ∀ i, sgErr ps = some i → ∀ o, E (xIS i) [o, .fr sd, .fr (.lst [])]) (h4 : sgErr ps = none → ∀ o, E (xID 0) [o, .fr sd, .fr (.lst [])]) : isp_Program0 [.ins "Program" [], .fr sd, .fr (.lst [])] Q E := ⟨sd, ps, rfl, h1, h2, h3, h4⟩
section
variable {P : Program} {w : World} {K : PySem.W.Frag} {mg : Str → Option Value} {base : Heap}
theorem m_definitions (k_Program : Kls K mg "Program" ["pairs", "arities", "parts", "found_kinds"]) (M : Mfn K "Program" "definitions" "Program.definitions" s_Program_definitions) (B : Bt mg) : MthX P w K mg base 1 "Program" "definitions" (spI K 1 [0] isp_definitions) := by
  refine mth_I k_Program M sc_Program_definitions (fun _ _ _ _ _ _ us hl => match us, hl with | [_], _ => rfl) rfl (by decide) (by decide) (fun f cdv A outer s H E hr => (es_one (es_ret (ev_lcIt (own := [("name", 1), ("words", 2), ("body", 3)]) (vs := [1, 2, 3]) rfl (k_Program.noF (by decide)) rfl rfl sc_Program_definitions.nd (pv 0) (blkOk_by (own := [("name", 1), ("words", 2), ("body", 3)]) (N := N_Program_definitions) (sc := defScope s_Program_definitions) (by decide +kernel)) (fun _ _ _ _ _ => (eg_tup (n := 2) rfl rfl (egs_cons (eg_name (i := 1) sc_Program_definitions.nd rfl (by first | exact .inl rfl | exact .inr rfl) (by decide)) (egs_cons (eg_tup (n := 2) rfl rfl (egs_cons (eg_name (i := 2) sc_Program_definitions.nd rfl (by first | exact .inl rfl | exact .inr rfl) (by decide)) (egs_cons (eg_name (i := 3) sc_Program_definitions.nd rfl (by first | exact .inl rfl | exact .inr rfl) (by decide)) egs_nil))) egs_nil)))) (fun _ _ _ _ _ => et_yes) (fun _ _ _ _ _ => (ev_tup (ea_cons (ev_var (pv 1)) (ea_cons (ev_var (pv 2)) (ea_cons (ev_var (pv 3)) ea_nil))))))))) ?_
  intro os Q0 E0 hl h
  obtain ⟨ps, hps, h⟩ := h
  have step : ∀ (o0 : O) (Q : U → En → Prop), (∀ ρ, ρ = [some o0, none, none, none] → Q (.va (.lst (ps.map ptRow))) ρ) → lcGo [1, 2, 3] (gT 2 (gsC (gN 1) (gsC (gT 2 (gsC (gN 2) (gsC (gN 3) gsN))) gsN))) jYes (iTup (iCons (iVar 1) (iCons (iVar 2) (iCons (iVar 3) iNil)))) Q (itmD (ps.map ptKV)) [] [some o0, none, none, none] := fun o0 Q hq => by
    rw [itm_pt]
    refine lc_on (f := fun p : PtR => D.tup [.str p.1, .tup [p.2.1, p.2.2]]) (l := ps) (fun j acc ρ => ρ = [some o0, none, none, none] ∧ acc = (ps.take j).map ptRow) (by omega) ⟨rfl, rfl⟩ ?_ ?_
    · rintro acc ρ ⟨rfl, rfl⟩
      rw [List.take_of_length_le (Nat.le_refl _)]
      exact hq _ rfl
    · rintro j hj acc ρ ⟨rfl, rfl⟩ k hk
      (repeat (first | refine And.intro (by first | exact True.intro | exact rfl | omega | exact ob_i rfl rfl | exact Nat.le_of_ble_eq_true rfl | exact of_decide_eq_true rfl) ?_ | refine ob_i rfl ?_))
      refine hk _ _ ⟨rfl, ?_⟩
      rw [List.take_add_one, List.getElem?_eq_getElem hj, List.map_append]
      rfl
  rcases h with ⟨pa, ar, rfl, q⟩ | ⟨pa, ar, rfl, q⟩ | ⟨pa, ar, fk, rfl, q⟩
  · (repeat (first | refine And.intro (by first | exact True.intro | exact rfl | omega | exact ob_i rfl rfl | exact Nat.le_of_ble_eq_true rfl | exact of_decide_eq_true rfl) ?_ | refine ob_i rfl ?_))
    refine step _ _ ?_
    rintro ρ rfl
    (repeat (first | refine And.intro (by first | exact True.intro | exact rfl | omega | exact ob_i rfl rfl | exact Nat.le_of_ble_eq_true rfl | exact of_decide_eq_true rfl) ?_ | refine ob_i rfl ?_))
    exact q
  · (repeat (first | refine And.intro (by first | exact True.intro | exact rfl | omega | exact ob_i rfl rfl | exact Nat.le_of_ble_eq_true rfl | exact of_decide_eq_true rfl) ?_ | refine ob_i rfl ?_))
    refine step _ _ ?_
    rintro ρ rfl
    (repeat (first | refine And.intro (by first | exact True.intro | exact rfl | omega | exact ob_i rfl rfl | exact Nat.le_of_ble_eq_true rfl | exact of_decide_eq_true rfl) ?_ | refine ob_i rfl ?_))
    exact q
  · (repeat (first | refine And.intro (by first | exact True.intro | exact rfl | omega | exact ob_i rfl rfl | exact Nat.le_of_ble_eq_true rfl | exact of_decide_eq_true rfl) ?_ | refine ob_i rfl ?_))
    refine step _ _ ?_
    rintro ρ rfl
    (repeat (first | refine And.intro (by first | exact True.intro | exact rfl | omega | exact ob_i rfl rfl | exact Nat.le_of_ble_eq_true rfl | exact of_decide_eq_true rfl) ?_ | refine ob_i rfl ?_))
    exact q
theorem mk_Program0_ok (k_Program : Kls K mg "Program" ["pairs", "arities", "parts", "found_kinds"]) (M : Mfn K "Program" "__init__" "Program.__init__" s_Program_init) (B : Bt mg) (Z1 : Xcl K mg "InvalidDefinition" i_InvalidDefinition ["at"])
    (c_check_signature : CalX P w K mg base 5 "check_signature" (spI K 1 [] isp_check_signature)) (m_Program_definitions : MthX P w K mg base 1 "Program" "definitions" (spI K 1 [0] isp_definitions)) : MkX P w K mg base 7 "Program" (spI K 3 [0] isp_Program0) := by
  have z_InvalidDefinition := xok_InvalidDefinition (P := P) (w := w) (base := base) Z1
  refine mk_I k_Program M sc_Program_init (fun _ _ _ _ _ _ us hl => match us, hl with | [_, _, _], _ => rfl) rfl (by decide) (by decide) (fun f cdv A outer s H E hr => (es_cons (es_expr (ev_call rfl c_check_signature (takes_of rfl rfl rfl rfl) hr (by omega) (by rfl) (em_d (ev_var (pv 1)) em_nil)))
      (es_cons (es_fset (i := 0) rfl (k_Program.noF (by decide)) (pv 0) (ev_lc (own := [("sign", 9), ("arity", 10)]) (vs := [9, 10]) rfl rfl sc_Program_init.nd (ei_sq rfl (ev_var (pv 1))) (blkOk_by (own := [("sign", 9), ("arity", 10)]) (N := N_Program_init) (sc := defScope s_Program_init) (by decide +kernel)) (fun _ _ _ _ _ => (eg_tup (n := 2) rfl rfl (egs_cons (eg_name (i := 9) sc_Program_init.nd rfl (by first | exact .inl rfl | exact .inr rfl) (by decide)) (egs_cons (eg_name (i := 10) sc_Program_init.nd rfl (by first | exact .inl rfl | exact .inr rfl) (by decide)) egs_nil)))) (fun _ _ _ _ _ => et_yes) (fun _ _ _ _ _ => (ev_tup (ea_cons (ev_var (pv 9)) (ea_cons (ev_var (pv 10)) ea_nil))))))
      (es_cons (es_fset (i := 0) rfl (k_Program.noF (by decide)) (pv 0) (ev_dc (own := [("sign", 9), ("arity", 10)]) (vs := [9, 10]) rfl rfl sc_Program_init.nd (ei_sq rfl (ev_var (pv 1))) (blkOk_by (own := [("sign", 9), ("arity", 10)]) (N := N_Program_init) (sc := defScope s_Program_init) (by decide +kernel)) (fun _ _ _ _ _ => (eg_tup (n := 2) rfl rfl (egs_cons (eg_name (i := 9) sc_Program_init.nd rfl (by first | exact .inl rfl | exact .inr rfl) (by decide)) (egs_cons (eg_name (i := 10) sc_Program_init.nd rfl (by first | exact .inl rfl | exact .inr rfl) (by decide)) egs_nil)))) (fun _ _ _ _ _ => et_yes) (fun _ _ _ _ _ => (ev_var (pv 9))) (fun _ _ _ _ _ => (ev_var (pv 10)))))
      (es_cons (es_fset (i := 0) rfl (k_Program.noF (by decide)) (pv 0) ev_dicN)
      (es_cons (es_for (vs := [3, 4, 5, 6]) (passes_of rfl) rfl (by decide) (ei_enum rfl (by rfl) B.enumerate (ev_var (pv 2))) (eg_tup (n := 2) rfl rfl (egs_cons (eg_name (i := 3) sc_Program_init.nd rfl (by first | exact .inl rfl | exact .inr rfl) (by decide)) (egs_cons (eg_tup (n := 3) rfl rfl (egs_cons (eg_name (i := 4) sc_Program_init.nd rfl (by first | exact .inl rfl | exact .inr rfl) (by decide)) (egs_cons (eg_name (i := 5) sc_Program_init.nd rfl (by first | exact .inl rfl | exact .inr rfl) (by decide)) (egs_cons (eg_name (i := 6) sc_Program_init.nd rfl (by first | exact .inl rfl | exact .inr rfl) (by decide)) egs_nil)))) egs_nil))) (es_cons es_dead
      (es_cons es_dead
      (es_one es_dead))))
      (es_cons (es_set (i := 8) sc_Program_init.nd rfl (by first | exact .inl rfl | exact .inr rfl) (by decide) (ev_mthP0 rfl m_Program_definitions (takes_of rfl rfl rfl rfl) hr (by omega) (pv 0)))
      (es_cons (es_if (et_cmp rfl (o_eq hr.units) (ev_var (pv 8)) (ev_lst ea_nil) (nomark _)) (es_one (es_raise (k := 0) rfl rfl (takes_of rfl rfl rfl rfl) z_InvalidDefinition (hr.mono (by omega)) (by rfl) (ea_cons ev_int ea_nil))) es_nil)
      (es_cons es_dead
      (es_one es_dead)))))))))) ?_
  intro os Q0 E0 hl h
  obtain ⟨sd, ps, rfl, hsd, hps, h1, h2⟩ := h
  (repeat (first | refine And.intro (by first | exact True.intro | exact rfl | omega | exact ob_i rfl rfl | exact Nat.le_of_ble_eq_true rfl | exact of_decide_eq_true rfl) ?_ | refine ob_i rfl ?_))
  refine ap_check_signature hsd hps.1 hps.2 (fun sg => ?_) (fun i hi => ?_)
  · (repeat (first | refine And.intro (by first | exact True.intro | exact rfl | omega | exact ob_i rfl rfl | exact Nat.le_of_ble_eq_true rfl | exact of_decide_eq_true rfl) ?_ | refine ob_i rfl ?_))
    refine ob_i (itD_seq hsd) ?_
    refine lc_on (f := pzD) (l := ps) (fun j acc ρ => ρ = [some (.ins "Program" []), some (.fr sd), some (.fr (.lst [])), none, none, none, none, none, none, none, none] ∧ acc = (ps.take j).map pzD) (by have := hps.1; omega) ⟨rfl, rfl⟩ ?_ ?_
    · rintro acc ρ ⟨rfl, rfl⟩
      rw [List.take_of_length_le (Nat.le_refl _)]
      (repeat (first | refine And.intro (by first | exact True.intro | exact rfl | omega | exact ob_i rfl rfl | exact Nat.le_of_ble_eq_true rfl | exact of_decide_eq_true rfl) ?_ | refine ob_i rfl ?_))
      refine ob_i (itD_seq hsd) ?_
      refine dc_at1 (ds := ps.map pzD) (fun j acc ρ => ρ = [some (.ins "Program" [("pairs", .lst (ps.map pzD))]), some (.fr sd), some (.fr (.lst [])), none, none, none, none, none, none, none, none] ∧ acc = arD (ps.take j)) ⟨rfl, rfl⟩ ?_ ?_
      · rintro acc ρ ⟨rfl, rfl⟩
        (repeat (first | refine And.intro (by first | exact True.intro | exact rfl | omega | exact ob_i rfl rfl | exact Nat.le_of_ble_eq_true rfl | exact of_decide_eq_true rfl) ?_ | refine ob_i rfl ?_))
        refine ⟨[], Nat.zero_le _, .inl ⟨_, _, rfl, ?_⟩⟩
        (repeat (first | refine And.intro (by first | exact True.intro | exact rfl | omega | exact ob_i rfl rfl | exact Nat.le_of_ble_eq_true rfl | exact of_decide_eq_true rfl) ?_ | refine ob_i rfl ?_))
        exact h2 sg _
      · rintro j hj acc ρ ⟨rfl, rfl⟩ k hk
        have hj2 : j < ps.length := by rw [List.length_map] at hj; exact hj
        rw [List.getElem_map]
        (repeat (first | refine And.intro (by first | exact True.intro | exact rfl | omega | exact ob_i rfl rfl | exact Nat.le_of_ble_eq_true rfl | exact of_decide_eq_true rfl) ?_ | refine ob_i rfl ?_))
        refine hk _ _ _ rfl (by unfold arD; rw [List.length_map, List.length_take]; have := hps.1; omega) ⟨rfl, ?_⟩
        show putD (arD (ps.take j)) (.str ps[j].1) (.int ps[j].2) = _
        rw [putD_new (arD_any _ (sg_new sg hj2)), List.take_add_one, List.getElem?_eq_getElem hj2]
        unfold arD
        rw [List.map_append]
        rfl
    · rintro j hj acc ρ ⟨rfl, rfl⟩ k hk
      (repeat (first | refine And.intro (by first | exact True.intro | exact rfl | omega | exact ob_i rfl rfl | exact Nat.le_of_ble_eq_true rfl | exact of_decide_eq_true rfl) ?_ | refine ob_i rfl ?_))
      refine hk _ _ ⟨rfl, ?_⟩
      rw [List.take_add_one, List.getElem?_eq_getElem hj, List.map_append]
      rfl
  · (repeat (first | refine And.intro (by first | exact True.intro | exact rfl | omega | exact ob_i rfl rfl | exact Nat.le_of_ble_eq_true rfl | exact of_decide_eq_true rfl) ?_ | refine ob_i rfl ?_))
    exact h1 i hi _
end

--USES
abbrev s_law_take : Stmt := topS 86
abbrev N_law_take : List Str := ["_law_box_here", "_law_many", "_law_cell", "_law_seed", "_law_found"]
theorem sc_law_take : FnScope N_law_take ["_law_box_here", "_law_many"] (defScope s_law_take) := ⟨rfl, rfl, rfl, by decide +kernel, rfl, by decide +kernel, by decide +kernel⟩

/-- a box -/
def Bx (o : O) : Prop := ∃ (ns : List Int) (i c m : Int), o = .lst [.lst (ns.map .int), .int i, .int c, .int m] ∧ ns.length ≤ 63 ∧ 0 ≤ i ∧ 0 ≤ c ∧ 0 ≤ m ∧ m < 2147483647
def isp_take : ISp := fun os Q _ => ∃ o n, os = [o, .fr (.int n)] ∧ Bx o ∧ 1 ≤ n ∧ n ≤ 1000000 ∧ ∀ (r : Nat) (o' : O), (r : Int) < n → Bx o' → Q (.fr (.int r)) [o', .fr (.int n)]
section
variable {P : Program} {w : World} {K : PySem.W.Frag} {mg : Str → Option Value} {base : Heap}
set_option maxHeartbeats 300000 in
theorem cal_take (Df : Dfn K mg "_law_take" s_law_take) (B : Bt mg) : CalX P w K mg base 1 "_law_take" (spI K 2 [0] isp_take) := by
  refine cal_I Df sc_law_take (fun _ _ _ _ _ _ us hl => match us, hl with | [_, _], _ => rfl) rfl (by decide) (by decide) (fun f cdv A outer s H E hr => (es_cut (es_if (PW.pt (ew_and (et_cmp rfl (o_eq hr.units) (ev_ix rfl o_ix (ev_var (pv 0)) ev_int (fun _ _ => rfl)) ev_int (nomark _)) (pw_and1 (et_cmp rfl o_lt (ev_ix rfl o_ix (ev_var (pv 0)) ev_int (fun _ _ => rfl)) (ev_b1 rfl b_len (by rfl) B.len PySem.boot_len (ev_ix rfl o_ix (ev_var (pv 0)) ev_int (fun _ _ => rfl))) (nomark _))))) (es_cons (es_set (i := 2) sc_law_take.nd rfl (by first | exact .inl rfl | exact .inr rfl) (by decide) (ev_ix rfl o_ix (ev_ix rfl o_ix (ev_var (pv 0)) ev_int (fun _ _ => rfl)) (ev_ix rfl o_ix (ev_var (pv 0)) ev_int (fun _ _ => rfl)) (fun _ _ => rfl)))
      (es_cons (es_sub (ev_op rfl o_add (ev_ix rfl o_ix (ev_var (pv 0)) ev_int (fun _ _ => rfl)) ev_int) (ev_var (pv 0)) ev_int)
      (es_one (es_if (et_cmp rfl o_ge (ev_var (pv 2)) (ev_op rfl o_pow ev_int ev_int) (nomark _)) (es_one (es_sub (ev_var (pv 2)) (ev_var (pv 0)) ev_int)) (es_cons (es_set (i := 3) sc_law_take.nd rfl (by first | exact .inl rfl | exact .inr rfl) (by decide) (ev_op rfl o_add (ev_op rfl o_mul (ev_ix rfl o_ix (ev_var (pv 0)) ev_int (fun _ _ => rfl)) ev_int) (ev_op rfl o_mul (ev_ix rfl o_ix (ev_var (pv 0)) ev_int (fun _ _ => rfl)) ev_int)))
      (es_one (es_sub (ev_op rfl o_mod (ev_t1 rfl b_int (by rfl) B.int (by decide +kernel) (ev_op rfl o_add (ev_var (pv 3)) (ev_op rfl o_mod (ev_t1 rfl b_int (by rfl) B.int (by decide +kernel) (ev_var (pv 2))) ev_int))) ev_int) (ev_var (pv 0)) ev_int))))))) es_nil)
      (es_cons (es_if (et_cmp rfl o_gt (ev_ix rfl o_ix (ev_var (pv 0)) ev_int (fun _ _ => rfl)) ev_int (nomark _)) (es_cons (es_set (i := 4) sc_law_take.nd rfl (by first | exact .inl rfl | exact .inr rfl) (by decide) (ev_op rfl o_mod (ev_t1 rfl b_int (by rfl) B.int (by decide +kernel) (ev_ix rfl o_ix (ev_var (pv 0)) ev_int (fun _ _ => rfl))) (ev_var (pv 1))))
      (es_cons (es_sub (ev_op rfl o_fdiv (ev_ix rfl o_ix (ev_var (pv 0)) ev_int (fun _ _ => rfl)) (ev_var (pv 1))) (ev_var (pv 0)) ev_int)
      (es_one (es_ret (ev_var (pv 4)))))) es_nil)
      (es_cons (es_sub (ev_op rfl o_mod (ev_t1 rfl b_int (by rfl) B.int (by decide +kernel) (ev_op rfl o_add (ev_op rfl o_mul (ev_ix rfl o_ix (ev_var (pv 0)) ev_int (fun _ _ => rfl)) ev_int) ev_int)) ev_int) (ev_var (pv 0)) ev_int)
      (es_one (es_ret (ev_op rfl o_mod (ev_t1 rfl b_int (by rfl) B.int (by decide +kernel) (ev_op rfl o_fdiv (ev_op rfl o_mod (ev_t1 rfl b_int (by rfl) B.int (by decide +kernel) (ev_op rfl o_mul (ev_ix rfl o_ix (ev_var (pv 0)) ev_int (fun _ _ => rfl)) (ev_ix rfl o_ix (ev_var (pv 0)) ev_int (fun _ _ => rfl)))) ev_int) ev_int)) (ev_var (pv 1))))))))) ?_
  intro os Q0 E0 hl h
  obtain ⟨o, n, rfl, ⟨ns, i, c, m, rfl, hns, hi, hc, hm, hm2⟩, n1, n2, q⟩ := h
  have hi2 : ∀ (i : Int), 0 ≤ i → i < (ns.map D.int).length → ∃ c, atI (ns.map D.int) i = some (.int c) := fun i h1 h2 => by
    rw [List.length_map] at h2
    obtain ⟨j, rfl⟩ : ∃ j : Nat, i = j := ⟨i.toNat, by omega⟩
    have hj : j < (ns.map D.int).length := by rw [List.length_map]; omega
    exact ⟨ns[j]'(by simpa using hj), by rw [atI_in hj, List.getElem_map]⟩
  -- what is drawn
  have out : ∀ (r : Int) (o' : O), 0 ≤ r → r < n → Bx o' → Q0 (.fr (.int r)) [o', .fr (.int n)] := fun r o' h1 h2 hb => by
    obtain ⟨j, rfl⟩ : ∃ j : Nat, r = j := ⟨r.toNat, by omega⟩
    exact q j o' h2 hb
  (repeat (first | refine And.intro (by first | exact True.intro | exact rfl | omega | exact ob_i rfl rfl | exact Nat.le_of_ble_eq_true rfl | exact of_decide_eq_true rfl) ?_ | refine ob_i rfl ?_))
  refine ⟨fun ρ => ∃ (i c m : Int) (y2 y3 : Option O), ρ = [some (.lst [.lst (ns.map .int), .int i, .int c, .int m]), some (.fr (.int n)), y2, y3, none] ∧ 0 ≤ i ∧ 0 ≤ c ∧ 0 ≤ m ∧ m < 2147483647, ?_, ?_⟩
  · (repeat (first | refine And.intro (by first | exact True.intro | exact rfl | omega | exact ob_i rfl rfl | exact Nat.le_of_ble_eq_true rfl | exact of_decide_eq_true rfl) ?_ | refine ob_i rfl ?_))
    refine ite_d (fun h1 => ?_) (fun h1 => ?_)
    · (repeat (first | refine And.intro (by first | exact True.intro | exact rfl | omega | exact ob_i rfl rfl | exact Nat.le_of_ble_eq_true rfl | exact of_decide_eq_true rfl) ?_ | refine ob_i rfl ?_))
      refine ite_d (fun h2 => ?_) (fun h2 => ?_)
      · (repeat (first | refine And.intro (by first | exact True.intro | exact rfl | omega | exact ob_i rfl rfl | exact Nat.le_of_ble_eq_true rfl | exact of_decide_eq_true rfl) ?_ | refine ob_i rfl ?_))
        obtain ⟨cc, hcc⟩ := hi2 i hi h2
        refine ob_map hcc ?_
        (repeat (first | refine And.intro (by first | exact True.intro | exact rfl | omega | exact ob_i rfl rfl | exact Nat.le_of_ble_eq_true rfl | exact of_decide_eq_true rfl) ?_ | refine ob_i rfl ?_))
        refine ite_d (fun h3 => ?_) (fun h3 => ?_)
        · (repeat (first | refine And.intro (by first | exact True.intro | exact rfl | omega | exact ob_i rfl rfl | exact Nat.le_of_ble_eq_true rfl | exact of_decide_eq_true rfl) ?_ | refine ob_i rfl ?_))
          have e : (10 : Int) ^ Int.toNat 18 = 1000000000000000000 := by decide
          exact ⟨i + 1, cc, m, _, _, rfl, by omega, by rw [e] at h3; omega, hm, hm2⟩
        · (repeat (first | refine And.intro (by first | exact True.intro | exact rfl | omega | exact ob_i rfl rfl | exact Nat.le_of_ble_eq_true rfl | exact of_decide_eq_true rfl) ?_ | refine ob_i rfl ?_))
          refine ob_if (sm_r (by omega) (by omega)) ?_
          (repeat (first | refine And.intro (by first | exact True.intro | exact rfl | omega | exact ob_i rfl rfl | exact Nat.le_of_ble_eq_true rfl | exact of_decide_eq_true rfl) ?_ | refine ob_i rfl ?_))
          refine ob_if (sm_r (by omega) (by omega)) ?_
          (repeat (first | refine And.intro (by first | exact True.intro | exact rfl | omega | exact ob_i rfl rfl | exact Nat.le_of_ble_eq_true rfl | exact of_decide_eq_true rfl) ?_ | refine ob_i rfl ?_))
          refine ⟨i + 1, c, _, _, _, rfl, by omega, hc, Int.emod_nonneg _ (by omega), Int.emod_lt_of_pos _ (by omega)⟩
      · exact ⟨i, c, m, _, _, rfl, hi, hc, hm, hm2⟩
    · exact ⟨i, c, m, _, _, rfl, hi, hc, hm, hm2⟩
  · rintro ρ ⟨i, c, m, y2, y3, rfl, hi, hc, hm, hm2⟩
    (repeat (first | refine And.intro (by first | exact True.intro | exact rfl | omega | exact ob_i rfl rfl | exact Nat.le_of_ble_eq_true rfl | exact of_decide_eq_true rfl) ?_ | refine ob_i rfl ?_))
    refine ite_d (fun h1 => ?_) (fun h1 => ?_)
    · (repeat (first | refine And.intro (by first | exact True.intro | exact rfl | omega | exact ob_i rfl rfl | exact Nat.le_of_ble_eq_true rfl | exact of_decide_eq_true rfl) ?_ | refine ob_i rfl ?_))
      refine ob_if (by omega) ?_
      (repeat (first | refine And.intro (by first | exact True.intro | exact rfl | omega | exact ob_i rfl rfl | exact Nat.le_of_ble_eq_true rfl | exact of_decide_eq_true rfl) ?_ | refine ob_i rfl ?_))
      refine ob_if (by omega) ?_
      (repeat (first | refine And.intro (by first | exact True.intro | exact rfl | omega | exact ob_i rfl rfl | exact Nat.le_of_ble_eq_true rfl | exact of_decide_eq_true rfl) ?_ | refine ob_i rfl ?_))
      exact out _ _ (Int.emod_nonneg _ (by omega)) (Int.emod_lt_of_pos _ (by omega)) ⟨ns, i, _, m, rfl, hns, hi, Int.ediv_nonneg hc (by omega), hm, hm2⟩
    · (repeat (first | refine And.intro (by first | exact True.intro | exact rfl | omega | exact ob_i rfl rfl | exact Nat.le_of_ble_eq_true rfl | exact of_decide_eq_true rfl) ?_ | refine ob_i rfl ?_))
      refine ob_if (sm_r (by omega) (by omega)) ?_
      (repeat (first | refine And.intro (by first | exact True.intro | exact rfl | omega | exact ob_i rfl rfl | exact Nat.le_of_ble_eq_true rfl | exact of_decide_eq_true rfl) ?_ | refine ob_i rfl ?_))
      have e1 := Int.emod_nonneg (m * 69621 + 13) (show (2147483647 : Int) ≠ 0 by omega)
      have e2 := Int.emod_lt_of_pos (m * 69621 + 13) (show (0 : Int) < 2147483647 by omega)
      refine ob_if (sm_l (by omega) (by omega)) ?_
      (repeat (first | refine And.intro (by first | exact True.intro | exact rfl | omega | exact ob_i rfl rfl | exact Nat.le_of_ble_eq_true rfl | exact of_decide_eq_true rfl) ?_ | refine ob_i rfl ?_))
      refine ob_if (by omega) ?_
      (repeat (first | refine And.intro (by first | exact True.intro | exact rfl | omega | exact ob_i rfl rfl | exact Nat.le_of_ble_eq_true rfl | exact of_decide_eq_true rfl) ?_ | refine ob_i rfl ?_))
      exact out _ _ (Int.emod_nonneg _ (by omega)) (Int.emod_lt_of_pos _ (by omega)) ⟨ns, i, c, _, rfl, hns, hi, hc, e1, e2⟩
end
theorem ap_take {o : O} {n : Int} {Q : O → List O → Prop} {E : Xc → List O → Prop} (hb : Bx o) (h1 : 1 ≤ n) (h2 : n ≤ 1000000) (h : ∀ (r : Nat) (o' : O), (r : Int) < n → Bx o' → Q (.fr (.int r)) [o', .fr (.int n)]) : isp_take [o, .fr (.int n)] Q E := ⟨o, n, rfl, hb, h1, h2, h⟩

--USES take
abbrev s_law_box : Stmt := topS 85
abbrev N_law_box : List Str := ["_law_script", "_law_mark", "_law_cell"]
theorem sc_law_box : FnScope N_law_box ["_law_script"] (defScope s_law_box) := ⟨rfl, rfl, rfl, by decide +kernel, rfl, by decide +kernel, by decide +kernel⟩

def isp_box : ISp := fun os Q _ => ∃ ns, os = [.fr (.scr ns)] ∧ ns.length ≤ 63 ∧ ∀ o', Bx o' → Q o' os
theorem ap_box {ns : List Int} {Q : O → List O → Prop} {E : Xc → List O → Prop} (h1 : ns.length ≤ 63) (h : ∀ o', Bx o' → Q o' [.fr (.scr ns)]) : isp_box [.fr (.scr ns)] Q E := ⟨ns, rfl, h1, h⟩
theorem cut63 {ns : List Int} (h : ns.length ≤ 63) : cutL (ns.map D.int) none (some 63) = ns.map D.int := by
  rw [show (63 : Int) = ((63 : Nat) : Int) from rfl, cutL_to]
  exact List.take_of_length_le (by rw [List.length_map]; omega)
section
variable {P : Program} {w : World} {K : PySem.W.Frag} {mg : Str → Option Value} {base : Heap}
theorem cal_box (Df : Dfn K mg "_law_box" s_law_box) (B : Bt mg) : CalX P w K mg base 1 "_law_box" (spI K 1 [] isp_box) := by
  refine cal_I Df sc_law_box (fun _ _ _ _ _ _ us hl => match us, hl with | [_], _ => rfl) rfl (by decide) (by decide) (fun f cdv A outer s H E hr => (es_cons (es_set (i := 1) sc_law_box.nd rfl (by first | exact .inl rfl | exact .inr rfl) (by decide) ev_int)
      (es_cons (es_for (vs := [2]) (passes_of rfl) rfl (by decide) (ei_sq rfl (ev_sl rfl (ev_var (pv 0)) eo_none (eo_some ev_int))) (eg_name (i := 2) sc_law_box.nd rfl (by first | exact .inl rfl | exact .inr rfl) (by decide)) (es_one (es_set (i := 1) sc_law_box.nd rfl (by first | exact .inl rfl | exact .inr rfl) (by decide) (ev_op rfl o_mod (ev_t1 rfl b_int (by rfl) B.int (by decide +kernel) (ev_op rfl o_add (ev_op rfl o_add (ev_op rfl o_mul (ev_var (pv 1)) ev_int) (ev_op rfl o_mod (ev_t1 rfl b_int (by rfl) B.int (by decide +kernel) (ev_var (pv 2))) ev_int)) ev_int)) ev_int))))
      (es_one (es_ret (ev_lst (ea_cons (ev_t1 rfl b_list (by rfl) B.list (by decide +kernel) (ev_sl rfl (ev_var (pv 0)) eo_none (eo_some ev_int))) (ea_cons ev_int (ea_cons ev_int (ea_cons (ev_var (pv 1)) ea_nil)))))))))) ?_
  intro os Q0 E0 hl h
  obtain ⟨ns, rfl, hns, q⟩ := h
  (repeat (first | refine And.intro (by first | exact True.intro | exact rfl | omega | exact ob_i rfl rfl | exact Nat.le_of_ble_eq_true rfl | exact of_decide_eq_true rfl) ?_ | refine ob_i rfl ?_))
  rw [cut63 hns]
  refine fo_map (f := D.int) (l := ns) (fun j ρ => ∃ (m : Int) (y : Option O), ρ = [some (.fr (.scr ns)), some (.fr (.int m)), y] ∧ 0 ≤ m ∧ m < 2147483399) ⟨3822, none, rfl, by omega, by omega⟩ ?_ ?_
  · rintro ρ ⟨m, y, rfl, m0, m1⟩
    (repeat (first | refine And.intro (by first | exact True.intro | exact rfl | omega | exact ob_i rfl rfl | exact Nat.le_of_ble_eq_true rfl | exact of_decide_eq_true rfl) ?_ | refine ob_i rfl ?_))
    rw [cut63 hns]
    (repeat (first | refine And.intro (by first | exact True.intro | exact rfl | omega | exact ob_i rfl rfl | exact Nat.le_of_ble_eq_true rfl | exact of_decide_eq_true rfl) ?_ | refine ob_i rfl ?_))
    exact q _ ⟨ns, 0, 0, m, rfl, hns, by omega, by omega, m0, by omega⟩
  · rintro j hj ρ ⟨m, y, rfl, m0, m1⟩ k hk
    (repeat (first | refine And.intro (by first | exact True.intro | exact rfl | omega | exact ob_i rfl rfl | exact Nat.le_of_ble_eq_true rfl | exact of_decide_eq_true rfl) ?_ | refine ob_i rfl ?_))
    refine ob_if (sm_l (by omega) (by omega)) ?_
    (repeat (first | refine And.intro (by first | exact True.intro | exact rfl | omega | exact ob_i rfl rfl | exact Nat.le_of_ble_eq_true rfl | exact of_decide_eq_true rfl) ?_ | refine ob_i rfl ?_))
    exact hk _ ⟨_, _, rfl, Int.emod_nonneg _ (by omega), Int.emod_lt_of_pos _ (by omega)⟩
end

--USES take
abbrev s_law_any : Stmt := topS 87
abbrev N_law_any : List Str := ["_law_box_here", "_law_things"]
theorem sc_law_any : FnScope N_law_any ["_law_box_here", "_law_things"] (defScope s_law_any) := ⟨rfl, rfl, rfl, by decide +kernel, rfl, by decide +kernel, by decide +kernel⟩

def isp_any : ISp := fun os Q _ => ∃ o d ds, os = [o, .fr d] ∧ Bx o ∧ itD d = some ds ∧ 1 ≤ ds.length ∧ ds.length ≤ 1000 ∧ ∀ e o', e ∈ ds → Bx o' → Q (.fr e) [o', .fr d]
theorem ap_any {o : O} {d : D} {ds : List D} {Q : O → List O → Prop} {E : Xc → List O → Prop} (hb : Bx o) (hd : itD d = some ds) (h1 : 1 ≤ ds.length) (h2 : ds.length ≤ 1000) (h : ∀ e o', e ∈ ds → Bx o' → Q (.fr e) [o', .fr d]) : isp_any [o, .fr d] Q E := ⟨o, d, ds, rfl, hb, hd, h1, h2, h⟩
section
variable {P : Program} {w : World} {K : PySem.W.Frag} {mg : Str → Option Value} {base : Heap}
theorem cal_any (Df : Dfn K mg "_law_any" s_law_any) (B : Bt mg) (c__law_take : CalX P w K mg base 1 "_law_take" (spI K 2 [0] isp_take)) : CalX P w K mg base 2 "_law_any" (spI K 2 [0] isp_any) := by
  refine cal_I Df sc_law_any (fun _ _ _ _ _ _ us hl => match us, hl with | [_, _], _ => rfl) rfl (by decide) (by decide) (fun f cdv A outer s H E hr => (es_one (es_ret (ev_ix rfl o_ix (ev_var (pv 1)) (ev_call rfl c__law_take (takes_of rfl rfl rfl rfl) hr (by omega) (by rfl) (em_p (pv 0) (em_d (ev_b1 rfl b_len (by rfl) B.len PySem.boot_len (ev_var (pv 1))) em_nil))) (fun _ _ => rfl))))) ?_
  intro os Q0 E0 hl h
  obtain ⟨o, d, ds, rfl, hb, hd, h1, h2, q⟩ := h
  cases d with
  | lst l =>
    cases hd
    (repeat (first | refine And.intro (by first | exact True.intro | exact rfl | omega | exact ob_i rfl rfl | exact Nat.le_of_ble_eq_true rfl | exact of_decide_eq_true rfl) ?_ | refine ob_i rfl ?_))
    refine ap_take hb (by omega) (by omega) (fun r o' hr hb' => ?_)
    (repeat (first | refine And.intro (by first | exact True.intro | exact rfl | omega | exact ob_i rfl rfl | exact Nat.le_of_ble_eq_true rfl | exact of_decide_eq_true rfl) ?_ | refine ob_i rfl ?_))
    refine ob_map (atI_in (show r < ds.length by omega)) ?_
    (repeat (first | refine And.intro (by first | exact True.intro | exact rfl | omega | exact ob_i rfl rfl | exact Nat.le_of_ble_eq_true rfl | exact of_decide_eq_true rfl) ?_ | refine ob_i rfl ?_))
    exact q _ _ (List.getElem_mem _) hb'
  | tup l =>
    cases hd
    (repeat (first | refine And.intro (by first | exact True.intro | exact rfl | omega | exact ob_i rfl rfl | exact Nat.le_of_ble_eq_true rfl | exact of_decide_eq_true rfl) ?_ | refine ob_i rfl ?_))
    refine ap_take hb (by omega) (by omega) (fun r o' hr hb' => ?_)
    (repeat (first | refine And.intro (by first | exact True.intro | exact rfl | omega | exact ob_i rfl rfl | exact Nat.le_of_ble_eq_true rfl | exact of_decide_eq_true rfl) ?_ | refine ob_i rfl ?_))
    refine ob_map (atI_in (show r < ds.length by omega)) ?_
    (repeat (first | refine And.intro (by first | exact True.intro | exact rfl | omega | exact ob_i rfl rfl | exact Nat.le_of_ble_eq_true rfl | exact of_decide_eq_true rfl) ?_ | refine ob_i rfl ?_))
    exact q _ _ (List.getElem_mem _) hb'
  | str l =>
    cases hd
    rw [List.length_map] at h1 h2
    have hL : l.length ≤ LIM := by show l.length ≤ 100000; omega
    (repeat (first | refine And.intro (by first | exact True.intro | exact rfl | omega | exact ob_i rfl rfl | exact Nat.le_of_ble_eq_true rfl | exact of_decide_eq_true rfl) ?_ | refine ob_i rfl ?_))
    refine ob_if hL ?_
    (repeat (first | refine And.intro (by first | exact True.intro | exact rfl | omega | exact ob_i rfl rfl | exact Nat.le_of_ble_eq_true rfl | exact of_decide_eq_true rfl) ?_ | refine ob_i rfl ?_))
    refine ap_take hb (by omega) (by omega) (fun r o' hr hb' => ?_)
    (repeat (first | refine And.intro (by first | exact True.intro | exact rfl | omega | exact ob_i rfl rfl | exact Nat.le_of_ble_eq_true rfl | exact of_decide_eq_true rfl) ?_ | refine ob_i rfl ?_))
    refine ob_i (pIx_str hL (show r < l.length by omega)) ?_
    (repeat (first | refine And.intro (by first | exact True.intro | exact rfl | omega | exact ob_i rfl rfl | exact Nat.le_of_ble_eq_true rfl | exact of_decide_eq_true rfl) ?_ | refine ob_i rfl ?_))
    exact q _ _ (List.mem_map.mpr ⟨_, List.getElem_mem _, rfl⟩) hb'
  | _ => cases hd
end

--USES any pw
abbrev s_law_letters : Stmt := topS 89
abbrev N_law_letters : List Str := ["_law_box_here", "_law_cap", "_law_k"]
theorem sc_law_letters : FnScope N_law_letters ["_law_box_here", "_law_cap"] (defScope s_law_letters) := ⟨rfl, rfl, rfl, by decide +kernel, rfl, by decide +kernel, by decide +kernel⟩

def isp_letters : ISp := fun os Q _ => ∃ o c, os = [o, .fr (.int c)] ∧ Bx o ∧ 0 ≤ c ∧ c ≤ 100 ∧ ∀ (l : List Nat) o', (l.length : Int) ≤ c → l.all isLow = true → Bx o' → Q (.fr (.str l)) [o', .fr (.int c)]
theorem ap_letters {o : O} {c : Int} {Q : O → List O → Prop} {E : Xc → List O → Prop} (hb : Bx o) (h1 : 0 ≤ c) (h2 : c ≤ 100) (h : ∀ (l : List Nat) o', (l.length : Int) ≤ c → l.all isLow = true → Bx o' → Q (.fr (.str l)) [o', .fr (.int c)]) : isp_letters [o, .fr (.int c)] Q E := ⟨o, c, rfl, hb, h1, h2, h⟩
section
variable {P : Program} {w : World} {K : PySem.W.Frag} {mg : Str → Option Value} {base : Heap}
theorem cal_letters (Df : Dfn K mg "_law_letters" s_law_letters) (B : Bt mg) (c__law_take : CalX P w K mg base 1 "_law_take" (spI K 2 [0] isp_take)) (c__law_any : CalX P w K mg base 2 "_law_any" (spI K 2 [0] isp_any)) : CalX P w K mg base 3 "_law_letters" (spI K 2 [0] isp_letters) := by
  refine cal_I Df sc_law_letters (fun _ _ _ _ _ _ us hl => match us, hl with | [_, _], _ => rfl) rfl (by decide) (by decide) (fun f cdv A outer s H E hr => (es_one (es_ret (ev_join rfl ev_str (ev_lc (own := [("_law_k", 2)]) (vs := [2]) rfl rfl sc_law_letters.nd (ei_range1 (by rfl) B.range (ev_call rfl c__law_take (takes_of rfl rfl rfl rfl) hr (by omega) (by rfl) (em_p (pv 0) (em_d (ev_op rfl o_add (ev_var (pv 1)) ev_int) em_nil)))) (blkOk_by (own := [("_law_k", 2)]) (N := N_law_letters) (sc := defScope s_law_letters) (by decide +kernel)) (fun _ _ _ _ _ => (eg_name (i := 2) sc_law_letters.nd rfl (by first | exact .inl rfl | exact .inr rfl) (by decide))) (fun _ _ _ _ _ => et_yes) (fun _ _ _ _ _ => (ev_call rfl c__law_any takes_W0 hr (by omega) (by rfl) (em_p (pv 0) (em_d ev_str em_nil))))))))) ?_
  intro os Q0 E0 hl h
  obtain ⟨o, c, rfl, hb, h1, h2, q⟩ := h
  (repeat (first | refine And.intro (by first | exact True.intro | exact rfl | omega | exact ob_i rfl rfl | exact Nat.le_of_ble_eq_true rfl | exact of_decide_eq_true rfl) ?_ | refine ob_i rfl ?_))
  refine ap_take hb (by omega) (by omega) (fun r o' hr hb' => ?_)
  (repeat (first | refine And.intro (by first | exact True.intro | exact rfl | omega | exact ob_i rfl rfl | exact Nat.le_of_ble_eq_true rfl | exact of_decide_eq_true rfl) ?_ | refine ob_i rfl ?_))
  refine lc_map (fun ρ => ∃ o, ρ = [some o, some (.fr (.int c)), none] ∧ Bx o) (fun _ y => ∃ x ∈ lows, y = .str [x]) (fun _ => trivial) _ _ _ ⟨_, rfl, hb'⟩ ?_ ?_ ?_
  · simp only [List.length_nil, natD_len, Int.toNat_natCast]
    exact lim (by omega)
  · rintro d hd ρ k ⟨o, rfl, hb⟩ hk
    (repeat (first | refine And.intro (by first | exact True.intro | exact rfl | omega | exact ob_i rfl rfl | exact Nat.le_of_ble_eq_true rfl | exact of_decide_eq_true rfl) ?_ | refine ob_i rfl ?_))
    refine ap_any hb rfl (by decide) (by decide) (fun e o' he hb' => ?_)
    obtain ⟨x, hx, rfl⟩ := List.mem_map.mp he
    exact hk _ _ ⟨x, hx, rfl⟩ ⟨_, rfl, hb'⟩
  · rintro ys ρ ⟨o, rfl, hb⟩ ha
    obtain ⟨xs, rfl, hx2⟩ := All2.map (f := fun x : Nat => D.str [x]) (P := fun _ x => x ∈ lows) (ha.imp fun _ b _ ⟨x, hx, e⟩ => ⟨x, e, hx⟩)
    have hxl : xs.length = r := by
      have z := hx2.len
      rw [natD_len, Int.toNat_natCast] at z
      simpa using z
    have e1 : xs.map (fun x : Nat => D.str [x]) = (xs.map fun x => [x]).map D.str := by rw [List.map_map]; rfl
    (repeat (first | refine And.intro (by first | exact True.intro | exact rfl | omega | exact ob_i rfl rfl | exact Nat.le_of_ble_eq_true rfl | exact of_decide_eq_true rfl) ?_ | refine ob_i rfl ?_))
    rw [e1]
    refine ob_i (pJoin_lst (by rw [sum_ones]; exact lim (by show _ + _ * 0 ≤ _; omega))) ?_
    (repeat (first | refine And.intro (by first | exact True.intro | exact rfl | omega | exact ob_i rfl rfl | exact Nat.le_of_ble_eq_true rfl | exact of_decide_eq_true rfl) ?_ | refine ob_i rfl ?_))
    show Q0 (.fr (.str (TL.joinL [] (xs.map fun x => [x])))) _
    rw [joinL_one]
    refine q _ _ (by omega) (List.all_eq_true.mpr fun x hx => ?_) hb
    obtain ⟨_, _, h⟩ := hx2.mem x hx
    exact isLow_mem h
end

--USES letters
abbrev s_law_words : Stmt := topS 90
abbrev N_law_words : List Str := ["_law_box_here", "_law_many", "_law_stem", "_law_spot", "_law_first", "_law_small", "_law_k"]
theorem sc_law_words : FnScope N_law_words ["_law_box_here", "_law_many"] (defScope s_law_words) := ⟨rfl, rfl, rfl, by decide +kernel, rfl, by decide +kernel, by decide +kernel⟩

def isp_words : ISp := fun os Q _ => ∃ o n, os = [o, .fr (.int ((n : Nat) : Int))] ∧ Bx o ∧ n ≤ 26 ∧ ∀ (ws : List (List Nat)) o', ws.length = n → ws.Nodup → (∀ l ∈ ws, isSign l = true) → Bx o' → Q (.lst (ws.map .str)) [o', .fr (.int (n : Int))]
theorem ap_words {o : O} {n : Nat} {Q : O → List O → Prop} {E : Xc → List O → Prop} (hb : Bx o) (h1 : n ≤ 26) (h : ∀ (ws : List (List Nat)) o', ws.length = n → ws.Nodup → (∀ l ∈ ws, isSign l = true) → Bx o' → Q (.lst (ws.map .str)) [o', .fr (.int (n : Int))]) : isp_words [o, .fr (.int (n : Int))] Q E := ⟨o, n, rfl, hb, h1, h⟩
theorem lows_lim : lows.length ≤ LIM := by rw [lows_len]; exact lim (by omega)
theorem caps_lim : caps.length ≤ LIM := by rw [caps_len]; exact lim (by omega)
theorem pIx_low (k : Nat) : pIx (.str lows) (.int ((k % 26 : Nat) : Int)) = some (.fr (.str [lowAt k])) := by
  have h : k % 26 < lows.length := by rw [lows_len]; omega
  rw [pIx_str lows_lim h]
  have := lowAt_get k
  rw [List.getElem?_eq_getElem h] at this
  rw [Option.some.inj this]
theorem pIx_cap (k : Nat) : pIx (.str caps) (.int ((k % 26 : Nat) : Int)) = some (.fr (.str [capAt k])) := by
  have h : k % 26 < caps.length := by rw [caps_len]; omega
  rw [pIx_str caps_lim h]
  have := capAt_get k
  rw [List.getElem?_eq_getElem h] at this
  rw [Option.some.inj this]
theorem pSl_str {l : List Nat} {a b : Option Int} (h : l.length ≤ 100000) : pSl (.str l) a b = some (.fr (.str (cutL l a b))) := if_pos (lim h)
theorem pAdd_str {a b : List Nat} (h : a.length + b.length ≤ 100000) : pAdd (.str a) (.str b) = some (.fr (.str (a ++ b))) := if_pos (lim h)
theorem pMul_l {i j : Int} (h1 : -1000000 < i) (h2 : i < 1000000) : pMul (.int i) (.int j) = some (.fr (.int (i * j))) := if_pos (sm_l (by omega) (by omega))
section
variable {P : Program} {w : World} {K : PySem.W.Frag} {mg : Str → Option Value} {base : Heap}
theorem cal_words (Df : Dfn K mg "_law_words" s_law_words) (B : Bt mg) (c__law_take : CalX P w K mg base 1 "_law_take" (spI K 2 [0] isp_take)) (c__law_letters : CalX P w K mg base 3 "_law_letters" (spI K 2 [0] isp_letters)) : CalX P w K mg base 4 "_law_words" (spI K 2 [0] isp_words) := by
  refine cal_I Df sc_law_words (fun _ _ _ _ _ _ us hl => match us, hl with | [_, _], _ => rfl) rfl (by decide) (by decide) (fun f cdv A outer s H E hr => (es_cons (es_set (i := 2) sc_law_words.nd rfl (by first | exact .inl rfl | exact .inr rfl) (by decide) (ev_call rfl c__law_letters (takes_of rfl rfl rfl rfl) hr (by omega) (by rfl) (em_p (pv 0) (em_d ev_int em_nil))))
      (es_cons (es_asg (vs := [3, 4]) (by decide) (ev_tup (ea_cons (ev_call rfl c__law_take (takes_of rfl rfl rfl rfl) hr (by omega) (by rfl) (em_p (pv 0) (em_d (ev_op rfl o_add (ev_b1 rfl b_len (by rfl) B.len PySem.boot_len (ev_var (pv 2))) ev_int) em_nil))) (ea_cons (ev_call rfl c__law_take (takes_of rfl rfl rfl rfl) hr (by omega) (by rfl) (em_p (pv 0) (em_d ev_int em_nil))) ea_nil))) (eg_tup (n := 2) rfl rfl (egs_cons (eg_name (i := 3) sc_law_words.nd rfl (by first | exact .inl rfl | exact .inr rfl) (by decide)) (egs_cons (eg_name (i := 4) sc_law_words.nd rfl (by first | exact .inl rfl | exact .inr rfl) (by decide)) egs_nil))))
      (es_cons (es_set (i := 5) sc_law_words.nd rfl (by first | exact .inl rfl | exact .inr rfl) (by decide) ev_str)
      (es_one (es_ret (ev_lc (own := [("_law_k", 6)]) (vs := [6]) rfl rfl sc_law_words.nd (ei_range1 (by rfl) B.range (ev_var (pv 1))) (blkOk_by (own := [("_law_k", 6)]) (N := N_law_words) (sc := defScope s_law_words) (by decide +kernel)) (fun _ _ _ _ _ => (eg_name (i := 6) sc_law_words.nd rfl (by first | exact .inl rfl | exact .inr rfl) (by decide))) (fun _ _ _ _ _ => et_yes) (fun _ _ _ _ _ => (ev_op rfl o_add (ev_op rfl o_add (ev_sl rfl (ev_var (pv 2)) eo_none (eo_some (ev_var (pv 3)))) (ev_ix rfl o_ix (ev_var (pv 5)) (ev_op rfl o_mod (ev_t1 rfl b_int (by rfl) B.int (by decide +kernel) (ev_op rfl o_add (ev_var (pv 4)) (ev_op rfl o_mul ev_int (ev_var (pv 6))))) ev_int) (fun _ _ => rfl))) (ev_sl rfl (ev_var (pv 2)) (eo_some (ev_var (pv 3))) eo_none)))))))))) ?_
  intro os Q0 E0 hl h
  obtain ⟨o, n, rfl, hb, h1, q⟩ := h
  (repeat (first | refine And.intro (by first | exact True.intro | exact rfl | omega | exact ob_i rfl rfl | exact Nat.le_of_ble_eq_true rfl | exact of_decide_eq_true rfl) ?_ | refine ob_i rfl ?_))
  refine ap_letters hb (by omega) (by omega) (fun st o1 hst hlow hb1 => ?_)
  (repeat (first | refine And.intro (by first | exact True.intro | exact rfl | omega | exact ob_i rfl rfl | exact Nat.le_of_ble_eq_true rfl | exact of_decide_eq_true rfl) ?_ | refine ob_i rfl ?_))
  refine ob_if (lim (by omega)) ?_
  (repeat (first | refine And.intro (by first | exact True.intro | exact rfl | omega | exact ob_i rfl rfl | exact Nat.le_of_ble_eq_true rfl | exact of_decide_eq_true rfl) ?_ | refine ob_i rfl ?_))
  refine ap_take hb1 (by omega) (by omega) (fun spot o2 hspot hb2 => ?_)
  (repeat (first | refine And.intro (by first | exact True.intro | exact rfl | omega | exact ob_i rfl rfl | exact Nat.le_of_ble_eq_true rfl | exact of_decide_eq_true rfl) ?_ | refine ob_i rfl ?_))
  refine ap_take hb2 (by omega) (by omega) (fun first o3 hfirst hb3 => ?_)
  (repeat (first | refine And.intro (by first | exact True.intro | exact rfl | omega | exact ob_i rfl rfl | exact Nat.le_of_ble_eq_true rfl | exact of_decide_eq_true rfl) ?_ | refine ob_i rfl ?_))
  refine lc_rng (fun ρ => ρ = [some o3, some (.fr (.int (n : Int))), some (.fr (.str st)), some (.fr (.int (spot : Int))), some (.fr (.int (first : Int))), some (.fr (.str lows)), none]) (fun j => .str (mkWord st spot first 7 j)) n rfl (by omega) ?_ ?_
  · rintro j hj ρ k rfl hk
    (repeat (first | refine And.intro (by first | exact True.intro | exact rfl | omega | exact ob_i rfl rfl | exact Nat.le_of_ble_eq_true rfl | exact of_decide_eq_true rfl) ?_ | refine ob_i rfl ?_))
    refine ob_i (pSl_str (by omega)) ?_
    (repeat (first | refine And.intro (by first | exact True.intro | exact rfl | omega | exact ob_i rfl rfl | exact Nat.le_of_ble_eq_true rfl | exact of_decide_eq_true rfl) ?_ | refine ob_i rfl ?_))
    refine ob_i (pMul_l (by omega) (by omega)) ?_
    (repeat (first | refine And.intro (by first | exact True.intro | exact rfl | omega | exact ob_i rfl rfl | exact Nat.le_of_ble_eq_true rfl | exact of_decide_eq_true rfl) ?_ | refine ob_i rfl ?_))
    rw [show ((first : Int) + 7 * (j : Int)) % 26 = (((first + 7 * j) % 26 : Nat) : Int) from mod26 first 7 j]
    refine ob_i (pIx_low _) ?_
    (repeat (first | refine And.intro (by first | exact True.intro | exact rfl | omega | exact ob_i rfl rfl | exact Nat.le_of_ble_eq_true rfl | exact of_decide_eq_true rfl) ?_ | refine ob_i rfl ?_))
    rw [cutL_to]
    refine ob_i (pAdd_str (by rw [List.length_take]; show _ + 1 ≤ _; omega)) ?_
    (repeat (first | refine And.intro (by first | exact True.intro | exact rfl | omega | exact ob_i rfl rfl | exact Nat.le_of_ble_eq_true rfl | exact of_decide_eq_true rfl) ?_ | refine ob_i rfl ?_))
    refine ob_i (pSl_str (by omega)) ?_
    (repeat (first | refine And.intro (by first | exact True.intro | exact rfl | omega | exact ob_i rfl rfl | exact Nat.le_of_ble_eq_true rfl | exact of_decide_eq_true rfl) ?_ | refine ob_i rfl ?_))
    rw [cutL_from _ (by omega)]
    refine ob_i (pAdd_str (by rw [List.length_append, List.length_take, List.length_drop]; show _ + 1 + _ ≤ _; omega)) ?_
    exact hk _ rfl
  · rintro ρ rfl
    (repeat (first | refine And.intro (by first | exact True.intro | exact rfl | omega | exact ob_i rfl rfl | exact Nat.le_of_ble_eq_true rfl | exact of_decide_eq_true rfl) ?_ | refine ob_i rfl ?_))
    have := q ((List.range n).map (mkWord st spot first 7)) o3 (by rw [List.length_map, List.length_range]) (words_nodup (by omega) h1 (.inr rfl)) (fun l hl => by
      obtain ⟨k, _, rfl⟩ := List.mem_map.mp hl
      rw [isSign_yes (by rw [mkWord_len]; omega) (by rw [mkWord_len]; omega)]
      exact mkWord_all hlow _ _ _ _) hb3
    rw [List.map_map] at this
    exact this
end

--USES prog0 box words
abbrev s_law : Stmt := topS 91
abbrev N_law : List Str := ["_law_script", "_law_box_here", "_law_turn", "_law_words_here", "_law_signs", "_law_bend", "_law_at", "_law_other", "_law_odd", "_law_due", "_law_word", "_law_arity", "_law_good", "_law_fresh", "_law_told", "_law_letter", "_law_pair"]
theorem sc_law : FnScope N_law ["_law_script"] (defScope s_law) := ⟨rfl, rfl, rfl, by decide +kernel, rfl, by decide +kernel, by decide +kernel⟩

abbrev s_law_why : Stmt := topS 88
abbrev N_law_why : List Str := ["_law_ask", "e"]
theorem sc_law_why : FnScope N_law_why ["_law_ask"] (defScope s_law_why) := ⟨rfl, rfl, rfl, by decide +kernel, rfl, by decide +kernel, by decide +kernel⟩
def whyNames : List Str := ["InvalidSign", "InvalidDefinition", "InvalidRules", "InvalidRows", "NoPlace", "InvalidMark", "InvalidProcedure", "ParseError", "BadKinds", "NotPlain", "BadBlocks", "InvalidName", "DuplicateName", "UnknownName", "TooManyStates", "TooWide", "TooLarge", "TooManySteps", "CapacityExceeded", "InvalidCondition", "UnknownWord", "NoState", "IllegalMove", "GameOver", "InvalidLimit", "InvalidCommand", "Broken", "UnknownEntry", "Unfit", "NothingLeft"]
def whyL (K : PySem.W.Frag) : List Clause := [([.ref (He.ga K "InvalidSign"), .ref (He.ga K "InvalidDefinition"), .ref (He.ga K "InvalidRules"), .ref (He.ga K "InvalidRows"), .ref (He.ga K "NoPlace"), .ref (He.ga K "InvalidMark"), .ref (He.ga K "InvalidProcedure")], 1, fun a cls d => tRet (tTup (tCons (tXfA K a cls d "tag" (tVar 1)) (tCons (tXfA K a cls d "at" (tVar 1)) tNil)))),
  ([.ref (He.ga K "ParseError")], 1, fun a cls d => tRet (tTup (tCons (tXfA K a cls d "tag" (tVar 1)) (tCons (tXfA K a cls d "at" (tVar 1)) tNil)))),
  ([.ref (He.ga K "BadKinds"), .ref (He.ga K "NotPlain"), .ref (He.ga K "BadBlocks"), .ref (He.ga K "InvalidName"), .ref (He.ga K "DuplicateName"), .ref (He.ga K "UnknownName")], 1, fun a cls d => tRet (tTup (tCons (tXfA K a cls d "tag" (tVar 1)) (tCons (tXfA K a cls d "name" (tVar 1)) tNil)))),
  ([.ref (He.ga K "TooManyStates"), .ref (He.ga K "TooWide"), .ref (He.ga K "TooLarge"), .ref (He.ga K "TooManySteps"), .ref (He.ga K "CapacityExceeded")], 1, fun a cls d => tRet (tTup (tCons (tXfA K a cls d "tag" (tVar 1)) (tCons (tXfA K a cls d "most" (tVar 1)) tNil)))),
  ([.ref (He.ga K "InvalidCondition")], 1, fun a cls d => tRet (tTup (tCons (tXfA K a cls d "tag" (tVar 1)) (tCons (tXfA K a cls d "state" (tVar 1)) (tCons (tXfA K a cls d "at" (tVar 1)) tNil))))),
  ([.ref (He.ga K "UnknownWord")], 1, fun a cls d => tRet (tTup (tCons (tXfA K a cls d "tag" (tVar 1)) (tCons (tXfA K a cls d "word" (tVar 1)) tNil)))),
  ([.ref (He.ga K "NoState")], 1, fun a cls d => tRet (tTup (tCons (tXfA K a cls d "tag" (tVar 1)) (tCons (tXfA K a cls d "state" (tVar 1)) tNil)))),
  ([.ref (He.ga K "IllegalMove")], 1, fun a cls d => tRet (tTup (tCons (tXfA K a cls d "tag" (tVar 1)) (tCons (tXfA K a cls d "number" (tVar 1)) tNil)))),
  ([.ref (He.ga K "GameOver")], 1, fun a cls d => tRet (tTup (tCons (tXfA K a cls d "tag" (tVar 1)) (tCons (tXfA K a cls d "side" (tVar 1)) tNil)))),
  ([.ref (He.ga K "InvalidLimit")], 1, fun a cls d => tRet (tTup (tCons (tXfA K a cls d "tag" (tVar 1)) (tCons (tXfA K a cls d "given" (tVar 1)) tNil)))),
  ([.ref (He.ga K "InvalidCommand")], 1, fun a cls d => tRet (tTup (tCons (tXfA K a cls d "tag" (tVar 1)) (tCons (tXfA K a cls d "first" (tVar 1)) tNil)))),
  ([.ref (He.ga K "Broken")], 1, fun a cls d => tRet (tTup (tCons (tXfA K a cls d "tag" (tVar 1)) (tCons (tXfA K a cls d "program" (tVar 1)) (tCons (tXfA K a cls d "judge" (tVar 1)) (tCons (tXfA K a cls d "state" (tVar 1)) tNil)))))),
  ([.ref (He.ga K "UnknownEntry")], 1, fun a cls d => tRet (tTup (tCons (tXfA K a cls d "tag" (tVar 1)) (tCons (tXfA K a cls d "name" (tVar 1)) (tCons (tXfA K a cls d "given" (tVar 1)) tNil))))),
  ([.ref (He.ga K "Unfit"), .ref (He.ga K "NothingLeft")], 1, fun a cls d => tRet (tTup (tCons (tXfA K a cls d "tag" (tVar 1)) tNil)))]
theorem gives_why {X : Cx} {q : Str} {g : Addr} {cdg : Value} (Y : ∀ c ∈ whyNames, X.mg c = some (.ref (He.ga X.K c))) : LamX.GivesTo X N_law_why "_law_why" (defScope s_law_why) g cdg (defBody s_law_why) "_law_ask" q (TTwhy X.K 2 "" (whyL X.K)) :=
  why_gives (fun f => rfl) (fun s H => (.cons sc_law_why.nd rfl rfl (.tup (.cons ⟨rfl, by decide, .inl (Y "InvalidSign" (by decide))⟩ (.cons ⟨rfl, by decide, .inl (Y "InvalidDefinition" (by decide))⟩ (.cons ⟨rfl, by decide, .inl (Y "InvalidRules" (by decide))⟩ (.cons ⟨rfl, by decide, .inl (Y "InvalidRows" (by decide))⟩ (.cons ⟨rfl, by decide, .inl (Y "NoPlace" (by decide))⟩ (.cons ⟨rfl, by decide, .inl (Y "InvalidMark" (by decide))⟩ (.cons ⟨rfl, by decide, .inl (Y "InvalidProcedure" (by decide))⟩ .nil))))))) (by show 7 ≤ 1000; decide)) (fun a oe cls d pn hz hf => pss_one (ps_ret (pe_tup (pa_cons (pe_xfA hz hf (pv 1)) (pa_cons (pe_xfA hz hf (pv 1)) pa_nil)))))
    (.cons sc_law_why.nd rfl rfl (.one ⟨rfl, by decide, .inl (Y "ParseError" (by decide))⟩) (fun a oe cls d pn hz hf => pss_one (ps_ret (pe_tup (pa_cons (pe_xfA hz hf (pv 1)) (pa_cons (pe_xfA hz hf (pv 1)) pa_nil)))))
    (.cons sc_law_why.nd rfl rfl (.tup (.cons ⟨rfl, by decide, .inl (Y "BadKinds" (by decide))⟩ (.cons ⟨rfl, by decide, .inl (Y "NotPlain" (by decide))⟩ (.cons ⟨rfl, by decide, .inl (Y "BadBlocks" (by decide))⟩ (.cons ⟨rfl, by decide, .inl (Y "InvalidName" (by decide))⟩ (.cons ⟨rfl, by decide, .inl (Y "DuplicateName" (by decide))⟩ (.cons ⟨rfl, by decide, .inl (Y "UnknownName" (by decide))⟩ .nil)))))) (by show 6 ≤ 1000; decide)) (fun a oe cls d pn hz hf => pss_one (ps_ret (pe_tup (pa_cons (pe_xfA hz hf (pv 1)) (pa_cons (pe_xfA hz hf (pv 1)) pa_nil)))))
    (.cons sc_law_why.nd rfl rfl (.tup (.cons ⟨rfl, by decide, .inl (Y "TooManyStates" (by decide))⟩ (.cons ⟨rfl, by decide, .inl (Y "TooWide" (by decide))⟩ (.cons ⟨rfl, by decide, .inl (Y "TooLarge" (by decide))⟩ (.cons ⟨rfl, by decide, .inl (Y "TooManySteps" (by decide))⟩ (.cons ⟨rfl, by decide, .inl (Y "CapacityExceeded" (by decide))⟩ .nil))))) (by show 5 ≤ 1000; decide)) (fun a oe cls d pn hz hf => pss_one (ps_ret (pe_tup (pa_cons (pe_xfA hz hf (pv 1)) (pa_cons (pe_xfA hz hf (pv 1)) pa_nil)))))
    (.cons sc_law_why.nd rfl rfl (.one ⟨rfl, by decide, .inl (Y "InvalidCondition" (by decide))⟩) (fun a oe cls d pn hz hf => pss_one (ps_ret (pe_tup (pa_cons (pe_xfA hz hf (pv 1)) (pa_cons (pe_xfA hz hf (pv 1)) (pa_cons (pe_xfA hz hf (pv 1)) pa_nil))))))
    (.cons sc_law_why.nd rfl rfl (.one ⟨rfl, by decide, .inl (Y "UnknownWord" (by decide))⟩) (fun a oe cls d pn hz hf => pss_one (ps_ret (pe_tup (pa_cons (pe_xfA hz hf (pv 1)) (pa_cons (pe_xfA hz hf (pv 1)) pa_nil)))))
    (.cons sc_law_why.nd rfl rfl (.one ⟨rfl, by decide, .inl (Y "NoState" (by decide))⟩) (fun a oe cls d pn hz hf => pss_one (ps_ret (pe_tup (pa_cons (pe_xfA hz hf (pv 1)) (pa_cons (pe_xfA hz hf (pv 1)) pa_nil)))))
    (.cons sc_law_why.nd rfl rfl (.one ⟨rfl, by decide, .inl (Y "IllegalMove" (by decide))⟩) (fun a oe cls d pn hz hf => pss_one (ps_ret (pe_tup (pa_cons (pe_xfA hz hf (pv 1)) (pa_cons (pe_xfA hz hf (pv 1)) pa_nil)))))
    (.cons sc_law_why.nd rfl rfl (.one ⟨rfl, by decide, .inl (Y "GameOver" (by decide))⟩) (fun a oe cls d pn hz hf => pss_one (ps_ret (pe_tup (pa_cons (pe_xfA hz hf (pv 1)) (pa_cons (pe_xfA hz hf (pv 1)) pa_nil)))))
    (.cons sc_law_why.nd rfl rfl (.one ⟨rfl, by decide, .inl (Y "InvalidLimit" (by decide))⟩) (fun a oe cls d pn hz hf => pss_one (ps_ret (pe_tup (pa_cons (pe_xfA hz hf (pv 1)) (pa_cons (pe_xfA hz hf (pv 1)) pa_nil)))))
    (.cons sc_law_why.nd rfl rfl (.one ⟨rfl, by decide, .inl (Y "InvalidCommand" (by decide))⟩) (fun a oe cls d pn hz hf => pss_one (ps_ret (pe_tup (pa_cons (pe_xfA hz hf (pv 1)) (pa_cons (pe_xfA hz hf (pv 1)) pa_nil)))))
    (.cons sc_law_why.nd rfl rfl (.one ⟨rfl, by decide, .inl (Y "Broken" (by decide))⟩) (fun a oe cls d pn hz hf => pss_one (ps_ret (pe_tup (pa_cons (pe_xfA hz hf (pv 1)) (pa_cons (pe_xfA hz hf (pv 1)) (pa_cons (pe_xfA hz hf (pv 1)) (pa_cons (pe_xfA hz hf (pv 1)) pa_nil)))))))
    (.cons sc_law_why.nd rfl rfl (.one ⟨rfl, by decide, .inl (Y "UnknownEntry" (by decide))⟩) (fun a oe cls d pn hz hf => pss_one (ps_ret (pe_tup (pa_cons (pe_xfA hz hf (pv 1)) (pa_cons (pe_xfA hz hf (pv 1)) (pa_cons (pe_xfA hz hf (pv 1)) pa_nil))))))
    (.cons sc_law_why.nd rfl rfl (.tup (.cons ⟨rfl, by decide, .inl (Y "Unfit" (by decide))⟩ (.cons ⟨rfl, by decide, .inl (Y "NothingLeft" (by decide))⟩ .nil)) (by show 2 ≤ 1000; decide)) (fun a oe cls d pn hz hf => pss_one (ps_ret (pe_tup (pa_cons (pe_xfA hz hf (pv 1)) pa_nil))))
    .nil)))))))))))))))

def wxB_InvalidSign (K : PySem.W.Frag) : Bool := exmB K "InvalidSign" ["InvalidSign", "InvalidDefinition", "InvalidRules", "InvalidRows", "NoPlace", "InvalidMark", "InvalidProcedure"] true
theorem why_InvalidSign {K : PySem.W.Frag} {mg : Str → Option Value} {Q : VK} {H : Hp} {dd : Addr} {v0 : V} (Z : Xcl K mg "InvalidSign" i_InvalidSign ["at"]) (hw : wxB_InvalidSign K = true) (hd : H dd = some (.xd (("tag", V.str "InvalidSign") :: ((["at"] : List Str).zip [v0]).reverse))) (q : ∀ p, H p = none → Q (.ref p) (upd H p (.tup [.str "InvalidSign", v0]))) :
    ∀ σ : L2.St, σ.length = 2 → wManyA K (fun _ _ _ _ => False) { nx := fun _ H' => Q .non H', rt := Q } (whyL K) (.ref (He.ga K "InvalidSign")) (some dd) σ H := by
  intro σ hs
  refine ⟨true, exmB_ok hw, fun _ a ha => ?_, fun z => Bool.noConfusion z⟩
  have sl : (σ.set 1 (some (V.ref a)))[1]? = some (some (V.ref a)) := List.getElem?_set_self (by omega)
  refine ⟨_, sl, rfl, _, rfl, Z.xf, Z.no "tag" (by decide), dd, _, _, rfl, hd, rfl, ?_⟩
  refine ⟨_, sl, rfl, _, rfl, Z.xf, Z.no "at" (by decide), dd, _, _, rfl, hd, rfl, ?_⟩
  exact ⟨(by show 2 ≤ sizeLine; decide), fun p hp => q p hp⟩
def wxB_InvalidDefinition (K : PySem.W.Frag) : Bool := exmB K "InvalidDefinition" ["InvalidSign", "InvalidDefinition", "InvalidRules", "InvalidRows", "NoPlace", "InvalidMark", "InvalidProcedure"] true
theorem why_InvalidDefinition {K : PySem.W.Frag} {mg : Str → Option Value} {Q : VK} {H : Hp} {dd : Addr} {v0 : V} (Z : Xcl K mg "InvalidDefinition" i_InvalidDefinition ["at"]) (hw : wxB_InvalidDefinition K = true) (hd : H dd = some (.xd (("tag", V.str "InvalidDefinition") :: ((["at"] : List Str).zip [v0]).reverse))) (q : ∀ p, H p = none → Q (.ref p) (upd H p (.tup [.str "InvalidDefinition", v0]))) :
    ∀ σ : L2.St, σ.length = 2 → wManyA K (fun _ _ _ _ => False) { nx := fun _ H' => Q .non H', rt := Q } (whyL K) (.ref (He.ga K "InvalidDefinition")) (some dd) σ H := by
  intro σ hs
  refine ⟨true, exmB_ok hw, fun _ a ha => ?_, fun z => Bool.noConfusion z⟩
  have sl : (σ.set 1 (some (V.ref a)))[1]? = some (some (V.ref a)) := List.getElem?_set_self (by omega)
  refine ⟨_, sl, rfl, _, rfl, Z.xf, Z.no "tag" (by decide), dd, _, _, rfl, hd, rfl, ?_⟩
  refine ⟨_, sl, rfl, _, rfl, Z.xf, Z.no "at" (by decide), dd, _, _, rfl, hd, rfl, ?_⟩
  exact ⟨(by show 2 ≤ sizeLine; decide), fun p hp => q p hp⟩
def wxB_InvalidRules (K : PySem.W.Frag) : Bool := exmB K "InvalidRules" ["InvalidSign", "InvalidDefinition", "InvalidRules", "InvalidRows", "NoPlace", "InvalidMark", "InvalidProcedure"] true
theorem why_InvalidRules {K : PySem.W.Frag} {mg : Str → Option Value} {Q : VK} {H : Hp} {dd : Addr} {v0 : V} (Z : Xcl K mg "InvalidRules" i_InvalidRules ["at"]) (hw : wxB_InvalidRules K = true) (hd : H dd = some (.xd (("tag", V.str "InvalidRules") :: ((["at"] : List Str).zip [v0]).reverse))) (q : ∀ p, H p = none → Q (.ref p) (upd H p (.tup [.str "InvalidRules", v0]))) :
    ∀ σ : L2.St, σ.length = 2 → wManyA K (fun _ _ _ _ => False) { nx := fun _ H' => Q .non H', rt := Q } (whyL K) (.ref (He.ga K "InvalidRules")) (some dd) σ H := by
  intro σ hs
  refine ⟨true, exmB_ok hw, fun _ a ha => ?_, fun z => Bool.noConfusion z⟩
  have sl : (σ.set 1 (some (V.ref a)))[1]? = some (some (V.ref a)) := List.getElem?_set_self (by omega)
  refine ⟨_, sl, rfl, _, rfl, Z.xf, Z.no "tag" (by decide), dd, _, _, rfl, hd, rfl, ?_⟩
  refine ⟨_, sl, rfl, _, rfl, Z.xf, Z.no "at" (by decide), dd, _, _, rfl, hd, rfl, ?_⟩
  exact ⟨(by show 2 ≤ sizeLine; decide), fun p hp => q p hp⟩
def wyTb : List (Str × List Str) := [("InvalidSign", ["at"]), ("InvalidDefinition", ["at"]), ("InvalidRules", ["at"])]
theorem y_law {K : PySem.W.Frag} {mg : Str → Option Value} (Z_InvalidSign : Xcl K mg "InvalidSign" i_InvalidSign ["at"]) (hw_InvalidSign : wxB_InvalidSign K = true) (Z_InvalidDefinition : Xcl K mg "InvalidDefinition" i_InvalidDefinition ["at"]) (hw_InvalidDefinition : wxB_InvalidDefinition K = true) (Z_InvalidRules : Xcl K mg "InvalidRules" i_InvalidRules ["at"]) (hw_InvalidRules : wxB_InvalidRules K = true) : ∀ x dd, wyT wyTb x = some dd → ∀ (S' H' : Hp) (cls : Value) (d : Option Addr) (Q : VK), Same S' H' → XAt K S' x cls d → (∀ v S'' H'', Res K S' H' (.fr dd) v S'' H'' → Q v H'') → ∀ σ : L2.St, σ.length = 2 → wManyA K (fun _ _ _ _ => False) { nx := fun _ H' => Q .non H', rt := Q } (whyL K) cls d σ H' := by
  intro x dd e S' H' cls d Q sh xa q σ hs
  obtain ⟨c, fs, ds, hm, hl, rfl, rfl⟩ := wyT_ex e
  obtain ⟨rfl, ad, xs, rfl, hd, ff⟩ := xa
  rcases List.mem_cons.mp hm with hm | hm
  · cases hm
    obtain ⟨d0, rfl⟩ := List.length_eq_one_iff.mp hl
    replace ff : FzF K S' xs (("tag", D.str (Str.ofString "InvalidSign").cps.toList) :: [("at", d0)]) := ff
    cases ff with
    | cons f0 ff =>
      cases f0
      cases ff with
      | cons g0 ff =>
        cases ff
        exact why_InvalidSign Z_InvalidSign hw_InvalidSign (sh _ _ hd) (fun p hp => q _ _ _ (res_tup sh (.cons fz_str (.cons g0 .nil)) hp)) σ hs
  rcases List.mem_cons.mp hm with hm | hm
  · cases hm
    obtain ⟨d0, rfl⟩ := List.length_eq_one_iff.mp hl
    replace ff : FzF K S' xs (("tag", D.str (Str.ofString "InvalidDefinition").cps.toList) :: [("at", d0)]) := ff
    cases ff with
    | cons f0 ff =>
      cases f0
      cases ff with
      | cons g0 ff =>
        cases ff
        exact why_InvalidDefinition Z_InvalidDefinition hw_InvalidDefinition (sh _ _ hd) (fun p hp => q _ _ _ (res_tup sh (.cons fz_str (.cons g0 .nil)) hp)) σ hs
  replace hm := List.mem_singleton.mp hm
  cases hm
  obtain ⟨d0, rfl⟩ := List.length_eq_one_iff.mp hl
  replace ff : FzF K S' xs (("tag", D.str (Str.ofString "InvalidRules").cps.toList) :: [("at", d0)]) := ff
  cases ff with
  | cons f0 ff =>
    cases f0
    cases ff with
    | cons g0 ff =>
      cases ff
      exact why_InvalidRules Z_InvalidRules hw_InvalidRules (sh _ _ hd) (fun p hp => q _ _ _ (res_tup sh (.cons fz_str (.cons g0 .nil)) hp)) σ hs

/-- the tuple that is due -/
def due7 : Option Nat → D
  | none => .tup []
  | some i => .tup [.str ("InvalidSign" : Str).cps.toList, nD i]
abbrev e07 (ns : List Int) (o : O) (x2 x3 x4 x5 x6 x7 x8 x9 x10 x11 x12 x13 x14 : Option O) : En := [some (.fr (.scr ns)), some o, x2, x3, x4, x5, x6, x7, x8, x9, x10, x11, x12, x13, x14, none, none]
def pOk (p : List Nat × Int) : Prop := p.1.length ≤ 7 ∧ p.1.all (· < 0x110000) = true
def odd7 : List (List Nat × Int) := [(("" : Str).cps.toList, 1), (("A" : Str).cps.toList, 0), (("abcdefg" : Str).cps.toList, 1), (("a1" : Str).cps.toList, 2)]
theorem odd7_ok : ∀ q ∈ odd7, pOk q := by
  have h : (odd7.all fun q => decide (q.1.length ≤ 7) && q.1.all (· < 0x110000)) = true := by decide +kernel
  intro q hq
  have z := List.all_eq_true.mp h q hq
  obtain ⟨z1, z2⟩ := Bool.and_eq_true_iff.mp z
  exact ⟨of_decide_eq_true z1, z2⟩
theorem fst_take (ps : List (List Nat × Int)) (j : Nat) : (ps.take j).map (·.1) = (ps.map (·.1)).take j := List.map_take
theorem low_lt7 : ∀ c ∈ lows, c < 0x110000 := by decide +kernel
theorem sign_ok7 {l : List Nat} {a : Int} (h : isSign l = true) : pOk (l, a) := by
  unfold isSign at h
  obtain ⟨h1, h2⟩ := Bool.and_eq_true_iff.mp h
  have h1 := of_decide_eq_true h1
  refine ⟨by show l.length ≤ 7; omega, List.all_eq_true.mpr fun c hc => decide_eq_true (low_lt7 c ?_)⟩
  exact of_decide_eq_true (List.all_eq_true.mp h2 c hc)
theorem eqv_self {d : D} (h : d.stt = true) : (!PyData.eqv d.py d.py) = false := by
  rw [(eqv_iff d d h h).mpr rfl]
  rfl
theorem no_eqv {d : D} (c : (!PyData.eqv d.py d.py) = true) (h : d.stt = true) : False := by
  rw [eqv_self h] at c
  cases c
theorem pNotIn_str {ws : List (List Nat)} {h : List Nat} (hs : ∀ l ∈ ws, l.all (· < 0x110000) = true) (hh : h.all (· < 0x110000) = true) : pNotIn (.str h) (.lst (ws.map D.str)) = some (.fr (.bl (!decide (h ∈ ws)))) := by
  show (if _ then _ else none).map _ = _
  rw [okEq_str hh, okEq_strs hs, anyEq_str]
  rfl
theorem shpL_pz : ∀ {ps : List (List Nat × Int)}, (∀ p ∈ ps, pOk p) → D.shpL (ps.map pzD) = true
  | [], _ => rfl
  | p :: ps, h => by
    show ((((p.1.all (· < 0x110000)) && (true && true))) && D.shpL (ps.map pzD)) = true
    rw [(h p List.mem_cons_self).2, shpL_pz fun x hx => h x (List.mem_cons_of_mem _ hx)]
    rfl
theorem depL_pz : ∀ ps : List (List Nat × Int), D.depL (ps.map pzD) ≤ 1
  | [] => Nat.zero_le _
  | p :: ps => by
    show max (max 0 (max 0 0) + 1) (D.depL (ps.map pzD)) ≤ 1
    have := depL_pz ps
    omega
theorem okEq_pz {ps : List (List Nat × Int)} (h : ∀ p ∈ ps, pOk p) : (D.lst (ps.map pzD)).okEq = true := by
  show (D.shpL (ps.map pzD) && decide (D.depL (ps.map pzD) + 1 ≤ 60)) = true
  have := depL_pz ps
  rw [shpL_pz h, decide_eq_true (by omega)]
  rfl
theorem eqD_nilL {ds : List D} (h : (D.lst ds).okEq = true) : eqD (.lst ds) (.lst []) = some ds.isEmpty := by
  show (if (D.lst ds).okEq && (D.lst []).okEq then some (PyData.eqv (D.lst ds).py (D.lst []).py) else none) = _
  rw [h]
  cases ds <;> rfl
theorem pNe_nilL {ds : List D} (h : (D.lst ds).okEq = true) : pNe (.lst ds) (.lst []) = some (.fr (.bl (!ds.isEmpty))) := by
  unfold pNe
  rw [eqD_nilL h]
  rfl
theorem pEq_nilL {ds : List D} (h : (D.lst ds).okEq = true) : pEq (.lst ds) (.lst []) = some (.fr (.bl ds.isEmpty)) := by
  unfold pEq
  rw [eqD_nilL h]
  rfl
section
variable {P : Program} {w : World} {K : PySem.W.Frag} {mg : Str → Option Value} {base : Heap}
set_option pp.maxSteps 250 in
theorem law07_ev {Pt c g : Addr} {fd : FuncData} {f : Addr} {A : Around} {outer : List Env} {s : Shared} {H : Hp} {E : XK} {Z : Zt} (B : Bt mg) (hr : Room 100 (A.deeper (envOfC "law" (defScope s_law) s.heap.objs.size f (.ref c))))
    (hZ : Z = some (Pt, (cxOf C8.CX0 P w K mg base N_law "law" (defScope s_law) f (.ref c) A outer s H E).env.qual ++ "<lambda>")) (TB : LamX.TabB base mg c Pt) (m_why : mg "_law_why" = some (.ref g)) (F_why : Fun K "_law_why" "_law_why" s_law_why g fd) (Y_why : ∀ c ∈ whyNames, mg c = some (.ref (He.ga K c)))
    (y_why : ∀ x dd, wyT wyTb x = some dd → ∀ (S' H' : Hp) (cls : Value) (d : Option Addr) (Q : VK), Same S' H' → XAt K S' x cls d → (∀ v S'' H'', Res K S' H' (.fr dd) v S'' H'' → Q v H'') → ∀ σ : L2.St, σ.length = 2 → wManyA K (fun _ _ _ _ => False) { nx := fun _ H' => Q .non H', rt := Q } (whyL K) cls d σ H')
    (c__law_take : CalX P w K mg base 1 "_law_take" (spI K 2 [0] isp_take)) (c__law_any : CalX P w K mg base 2 "_law_any" (spI K 2 [0] isp_any)) (c__law_box : CalX P w K mg base 1 "_law_box" (spI K 1 [] isp_box)) (c__law_words : CalX P w K mg base 4 "_law_words" (spI K 2 [0] isp_words))
    (mk_Judge : MkX P w K mg base 7 "Judge" (spI K 3 [0] isp_Judge)) (mk_Program : MkX P w K mg base 7 "Program" (spI K 3 [0] isp_Program0)) :
    ∃ wb, PSs (cxOf C8.CX0 P w K mg base N_law "law" (defScope s_law) f (.ref c) A outer s H E) (defBody s_law) (EvS K Z W0 [] wb) ∧ ∀ ns : List Int, ns.length ≤ 63 → wb (st0 N_law.length [.fr (.scr ns)]) lawEnd := by
  refine ⟨_, (es_cons (es_set (i := 1) sc_law.nd rfl (by first | exact .inl rfl | exact .inr rfl) (by decide) (ev_call rfl c__law_box takes_W0 hr (by omega) (by rfl) (em_d (ev_var (pv 0)) em_nil)))
      (es_cons (es_for (vs := [2]) (passes_of rfl) rfl (by decide) (ei_range1 (by rfl) B.range ev_int) (eg_name (i := 2) sc_law.nd rfl (by first | exact .inl rfl | exact .inr rfl) (by decide)) (es_cons (es_set (i := 3) sc_law.nd rfl (by first | exact .inl rfl | exact .inr rfl) (by decide) (ev_call rfl c__law_words takes_W0 hr (by omega) (by rfl) (em_p (pv 1) (em_d ev_int em_nil))))
      (es_cons (es_set (i := 4) sc_law.nd rfl (by first | exact .inl rfl | exact .inr rfl) (by decide) (ev_lc (own := [("_law_word", 10)]) (vs := [10]) rfl rfl sc_law.nd (ei_sq rfl (ev_sl rfl (ev_var (pv 3)) eo_none (eo_some (ev_call rfl c__law_take takes_W0 hr (by omega) (by rfl) (em_p (pv 1) (em_d ev_int em_nil)))))) (blkOk_by (own := [("_law_word", 10)]) (N := N_law) (sc := defScope s_law) (by decide +kernel)) (fun _ _ _ _ _ => (eg_name (i := 10) sc_law.nd rfl (by first | exact .inl rfl | exact .inr rfl) (by decide))) (fun _ _ _ _ _ => et_yes) (fun _ _ _ _ _ => (ev_tup (ea_cons (ev_var (pv 10)) (ea_cons (ev_call rfl c__law_take takes_W0 hr (by omega) (by rfl) (em_p (pv 1) (em_d ev_int em_nil))) ea_nil))))))
      (es_cut (es_for (vs := [5]) (passes_of rfl) rfl (by decide) (ei_range1 (by rfl) B.range (ev_call rfl c__law_take takes_W0 hr (by omega) (by rfl) (em_p (pv 1) (em_d ev_int em_nil)))) (eg_name (i := 5) sc_law.nd rfl (by first | exact .inl rfl | exact .inr rfl) (by decide)) (es_one (es_if (et_cmp rfl (o_ne hr.units) (ev_var (pv 4)) (ev_lst ea_nil) (nomark _)) (es_cut (es_par (i := 6) (j := 7) rfl sc_law.nd rfl rfl (by decide) (by decide) (by decide) rfl rfl (ev_call rfl c__law_take takes_W0 hr (by omega) (by rfl) (em_p (pv 1) (em_d (ev_b1 rfl b_len (by rfl) B.len PySem.boot_len (ev_var (pv 4))) em_nil))) (ev_call rfl c__law_take takes_W0 hr (by omega) (by rfl) (em_p (pv 1) (em_d (ev_b1 rfl b_len (by rfl) B.len PySem.boot_len (ev_var (pv 4))) em_nil))) (by rfl))
      (es_cut (es_set (i := 8) sc_law.nd rfl (by first | exact .inl rfl | exact .inr rfl) (by decide) (ev_lst (ea_cons (ev_tup (ea_cons ev_str (ea_cons ev_int ea_nil))) (ea_cons (ev_tup (ea_cons ev_str (ea_cons ev_int ea_nil))) (ea_cons (ev_tup (ea_cons ev_str (ea_cons ev_int ea_nil))) (ea_cons (ev_tup (ea_cons ev_str (ea_cons ev_int ea_nil))) (ea_cons (ev_tup (ea_cons (ev_ix rfl o_ix (ev_ix rfl o_ix (ev_var (pv 4)) (ev_var (pv 6)) (fun _ _ => rfl)) ev_int (fun _ _ => rfl)) (ea_cons ev_int ea_nil))) (ea_cons (ev_tup (ea_cons (ev_ix rfl o_ix (ev_ix rfl o_ix (ev_var (pv 4)) (ev_var (pv 6)) (fun _ _ => rfl)) ev_int (fun _ _ => rfl)) (ea_cons (ev_un rfl o_neg ev_int) ea_nil))) (ea_cons (ev_tup (ea_cons (ev_ix rfl o_ix (ev_ix rfl o_ix (ev_var (pv 4)) (ev_var (pv 7)) (fun _ _ => rfl)) ev_int (fun _ _ => rfl)) (ea_cons ev_int ea_nil))) ea_nil)))))))))
      (es_one (es_sub (ev_call rfl c__law_any takes_W0 hr (by omega) (by rfl) (em_p (pv 1) (em_d (ev_var (pv 8)) em_nil))) (ev_var (pv 4)) (ev_var (pv 6)))))) es_nil)))
      (es_cons (es_set (i := 9) sc_law.nd rfl (by first | exact .inl rfl | exact .inr rfl) (by decide) (ev_tup ea_nil))
      (es_cut (es_for (vs := [6]) (passes_of rfl) rfl (by decide) (ei_range1 (by rfl) B.range (ev_b1 rfl b_len (by rfl) B.len PySem.boot_len (ev_var (pv 4)))) (eg_name (i := 6) sc_law.nd rfl (by first | exact .inl rfl | exact .inr rfl) (by decide)) (es_cons (es_asg (vs := [10, 11]) (by decide) (ev_ix rfl o_ix (ev_var (pv 4)) (ev_var (pv 6)) (fun _ _ => rfl)) (eg_tup (n := 2) rfl rfl (egs_cons (eg_name (i := 10) sc_law.nd rfl (by first | exact .inl rfl | exact .inr rfl) (by decide)) (egs_cons (eg_name (i := 11) sc_law.nd rfl (by first | exact .inl rfl | exact .inr rfl) (by decide)) egs_nil))))
      (es_cut (es_set (i := 12) sc_law.nd rfl (by first | exact .inl rfl | exact .inr rfl) (by decide) (ev_and (ev_chain rfl o_le o_le ev_int (ev_b1 rfl b_len (by rfl) B.len PySem.boot_len (ev_var (pv 10))) ev_int) (pe_one (ev_b1 rfl (b_all rfl) (by rfl) B.all (by decide +kernel) (ev_lc (own := [("_law_letter", 15)]) (vs := [15]) rfl rfl sc_law.nd (ei_sq rfl (ev_var (pv 10))) (blkOk_by (own := [("_law_letter", 15)]) (N := N_law) (sc := defScope s_law) (by decide +kernel)) (fun _ _ _ _ _ => (eg_name (i := 15) sc_law.nd rfl (by first | exact .inl rfl | exact .inr rfl) (by decide))) (fun _ _ _ _ _ => et_yes) (fun _ _ _ _ _ => (ev_cmp rfl (o_in (u65 hr)) (ev_var (pv 15)) ev_str (by rfl))))))))
      (es_cons (es_set (i := 13) sc_law.nd rfl (by first | exact .inl rfl | exact .inr rfl) (by decide) (ev_cmp rfl (o_notin (u65 hr)) (ev_var (pv 10)) (ev_lc (own := [("_law_pair", 16)]) (vs := [16]) rfl rfl sc_law.nd (ei_sq rfl (ev_sl rfl (ev_var (pv 4)) eo_none (eo_some (ev_var (pv 6))))) (blkOk_by (own := [("_law_pair", 16)]) (N := N_law) (sc := defScope s_law) (by decide +kernel)) (fun _ _ _ _ _ => (eg_name (i := 16) sc_law.nd rfl (by first | exact .inl rfl | exact .inr rfl) (by decide))) (fun _ _ _ _ _ => et_yes) (fun _ _ _ _ _ => (ev_ix rfl o_ix (ev_var (pv 16)) ev_int (fun _ _ => rfl)))) (by rfl)))
      (es_one (es_if (PW.pt (ew_and (et_cmp rfl (o_eq hr.units) (ev_var (pv 9)) (ev_tup ea_nil) (nomark _)) (pw_and1 (PW.pt (ew_or (et_cmp rfl (o_eq hr.units) (ev_var (pv 6)) ev_int (nomark _)) (ew_or (et_not (et_val (ev_var (pv 12)))) (ew_or (et_not (et_val (ev_var (pv 13)))) (pw_or1 (et_not (et_chain rfl o_le o_le ev_int (ev_var (pv 11)) ev_int)))))))))) (es_one (es_set (i := 9) sc_law.nd rfl (by first | exact .inl rfl | exact .inr rfl) (by decide) (ev_tup (ea_cons ev_str (ea_cons (ev_var (pv 6)) ea_nil))))) es_nil))))))
      (es_cut (es_set (i := 9) sc_law.nd rfl (by first | exact .inl rfl | exact .inr rfl) (by decide) (ev_if (et_cmp rfl (o_eq hr.units) (ev_var (pv 4)) (ev_lst ea_nil) (nomark _)) (ev_tup (ea_cons ev_str (ea_cons ev_int ea_nil))) (ev_var (pv 9))))
      (es_cut (es_set (i := 14) sc_law.nd rfl (by first | exact .inl rfl | exact .inr rfl) (by decide) (ev_lst (ea_cons (ev_why (Ng := N_law_why) (l := whyL K) (wy := wyT wyTb) (r := "") (a := "_law_ask") (st := s_law_why) (c := c) (P := Pt) (k := 80) rfl hZ (by rfl) m_why F_why sc_law_why (fun _ _ _ _ _ _ us hl => match us, hl with | [_], _ => rfl) rfl (.inl rfl) (fun _ => gives_why Y_why) y_why TB rfl (hr.mono (by omega)) (LamX.lamS_by (sc := defScope s_law) (by decide +kernel)) rfl (fun _ _ _ _ _ => rfl) (fun A outer s H E f c2 hr => (ev_mk rfl mk_Program (takes_of rfl rfl rfl rfl) hr (by omega) (by rfl) (ea_cons (ev_var (pv 4)) (ea_cons (ev_lst ea_nil) ea_nil))))) (ea_cons (ev_whyD (dx := "_law_x") (Ng := N_law_why) (l := whyL K) (wy := wyT wyTb) (r := "") (a := "_law_ask") (st := s_law_why) (c := c) (P := Pt) (k := 80) rfl hZ (by rfl) m_why F_why sc_law_why (fun _ _ _ _ _ _ us hl => match us, hl with | [_], _ => rfl) rfl (.inl rfl) (fun _ => gives_why Y_why) y_why TB rfl (hr.mono (by omega)) (lamSD_by (N := N_law) (sc := defScope s_law) (by decide +kernel)) rfl rfl (fun _ _ _ _ _ _ _ _ _ hs => binds_one hs rfl rfl) (fun A outer s H E f c2 hr => (ev_mk rfl mk_Judge (takes_of rfl rfl rfl rfl) hr (by omega) (by rfl) (ea_cons (ev_var (pv 4)) (ea_cons (ev_lst ea_nil) ea_nil))))) ea_nil))))
      (es_one (es_if (et_cmp rfl (o_ne hr.units) (ev_var (pv 14)) (ev_if (et_cmp rfl (o_ne hr.units) (ev_var (pv 9)) (ev_tup ea_nil) (nomark _)) (ev_lst (ea_cons (ev_var (pv 9)) (ea_cons (ev_var (pv 9)) ea_nil))) (ev_lst (ea_cons (ev_tup (ea_cons ev_str (ea_cons ev_int ea_nil))) (ea_cons (ev_tup (ea_cons ev_str (ea_cons ev_int ea_nil))) ea_nil)))) (nomark _)) (es_one (es_ret ev_bl)) es_nil))))))))))
      (es_one (es_ret ev_bl)))), fun ns hns => ?_⟩
  (repeat (first | refine And.intro (by first | exact True.intro | exact rfl | omega | exact ob_i rfl rfl | exact Nat.le_of_ble_eq_true rfl | exact of_decide_eq_true rfl) ?_ | refine ob_i rfl ?_))
  refine ap_box hns (fun o1 hb1 => ?_)
  (repeat (first | refine And.intro (by first | exact True.intro | exact rfl | omega | exact ob_i rfl rfl | exact Nat.le_of_ble_eq_true rfl | exact of_decide_eq_true rfl) ?_ | refine ob_i rfl ?_))
  show foGo _ _ _ (natD (6 : Int).toNat) _
  refine fo_rng (fun i ρ => ∃ (o : O) (x2 x3 x4 x5 x6 x7 x8 x9 x10 x11 x12 x13 x14 : Option O), ρ = e07 ns o x2 x3 x4 x5 x6 x7 x8 x9 x10 x11 x12 x13 x14 ∧ Bx o) 6 (by omega) ⟨o1, none, none, none, none, none, none, none, none, none, none, none, none, none, rfl, hb1⟩ ?_ ?_
  · rintro ρ ⟨o, x2, x3, x4, x5, x6, x7, x8, x9, x10, x11, x12, x13, x14, rfl, hb⟩
    (repeat (first | refine And.intro (by first | exact True.intro | exact rfl | omega | exact ob_i rfl rfl | exact Nat.le_of_ble_eq_true rfl | exact of_decide_eq_true rfl) ?_ | refine ob_i rfl ?_))
    rfl
  · rintro i hi ρ ⟨o, x2, x3, x4, x5, x6, x7, x8, x9, x10, x11, x12, x13, x14, rfl, hb⟩ kk hkk
    (repeat (first | refine And.intro (by first | exact True.intro | exact rfl | omega | exact ob_i rfl rfl | exact Nat.le_of_ble_eq_true rfl | exact of_decide_eq_true rfl) ?_ | refine ob_i rfl ?_))
    refine ap_words (n := 10) hb (by omega) (fun ws o2 hwl hwn hws hb2 => ?_)
    have hwm : (ws.map D.str).length = ws.length := List.length_map _
    (repeat (first | refine And.intro (by first | exact True.intro | exact rfl | omega | exact ob_i rfl rfl | exact Nat.le_of_ble_eq_true rfl | exact of_decide_eq_true rfl) ?_ | refine ob_i rfl ?_))
    refine ap_take hb2 (by omega) (by omega) (fun r1 o3 hr1 hb3 => ?_)
    (repeat (first | refine And.intro (by first | exact True.intro | exact rfl | omega | exact ob_i rfl rfl | exact Nat.le_of_ble_eq_true rfl | exact of_decide_eq_true rfl) ?_ | refine ob_i rfl ?_))
    rw [cutL_to, ← List.map_take]
    have htl : (ws.take r1).length ≤ 10 := by rw [List.length_take]; omega
    refine lc_on (f := D.str) (l := ws.take r1) (fun k acc ρ => ∃ (o : O) (ps : List (List Nat × Int)), ρ = e07 ns o (some (.fr (nD i))) (some (.lst (ws.map .str))) x4 x5 x6 x7 x8 x9 none x11 x12 x13 x14 ∧ Bx o ∧ acc = ps.map pzD ∧ ps.length = k ∧ ∀ p ∈ ps, pOk p) (by omega) ⟨o3, [], rfl, hb3, rfl, rfl, fun _ h => nomatch h⟩ ?_ ?_
    · rintro acc ρ ⟨o4, ps, rfl, hb4, rfl, hpl, hps⟩
      have hp10 : ps.length ≤ 10 := by omega
      (repeat (first | refine And.intro (by first | exact True.intro | exact rfl | omega | exact ob_i rfl rfl | exact Nat.le_of_ble_eq_true rfl | exact of_decide_eq_true rfl) ?_ | refine ob_i rfl ?_))
      refine ⟨fun ρ => ∃ (o : O) (ps : List (List Nat × Int)) (x5 x6 x7 x8 : Option O), ρ = e07 ns o (some (.fr (nD i))) (some (.lst (ws.map .str))) (some (.lst (ps.map pzD))) x5 x6 x7 x8 x9 none x11 x12 x13 x14 ∧ Bx o ∧ ps.length ≤ 10 ∧ ∀ p ∈ ps, pOk p, ?_, ?_⟩
      · (repeat (first | refine And.intro (by first | exact True.intro | exact rfl | omega | exact ob_i rfl rfl | exact Nat.le_of_ble_eq_true rfl | exact of_decide_eq_true rfl) ?_ | refine ob_i rfl ?_))
        refine ap_take hb4 (by omega) (by omega) (fun r2 o5 hr2 hb5 => ?_)
        (repeat (first | refine And.intro (by first | exact True.intro | exact rfl | omega | exact ob_i rfl rfl | exact Nat.le_of_ble_eq_true rfl | exact of_decide_eq_true rfl) ?_ | refine ob_i rfl ?_))
        show foGo _ _ _ (natD ((r2 : Nat) : Int).toNat) _
        refine fo_rng (fun k ρ => ∃ (o : O) (ps : List (List Nat × Int)) (x5 x6 x7 x8 : Option O), ρ = e07 ns o (some (.fr (nD i))) (some (.lst (ws.map .str))) (some (.lst (ps.map pzD))) x5 x6 x7 x8 x9 none x11 x12 x13 x14 ∧ Bx o ∧ ps.length ≤ 10 ∧ ∀ p ∈ ps, pOk p) r2 (by omega) ⟨o5, ps, x5, x6, x7, x8, rfl, hb5, hp10, hps⟩ ?_ ?_
        · rintro ρ ⟨o6, ps, x5, x6, x7, x8, rfl, hb6, hp10, hps⟩
          exact ⟨o6, ps, x5, x6, x7, x8, rfl, hb6, hp10, hps⟩
        · rintro k hk ρ ⟨o6, ps, x5, x6, x7, x8, rfl, hb6, hp10, hps⟩ k1 hk1
          have keep : ∀ (o : O) (ps : List (List Nat × Int)) (x6 x7 x8 : Option O), Bx o → ps.length ≤ 10 → (∀ p ∈ ps, pOk p) → k1 (e07 ns o (some (.fr (nD i))) (some (.lst (ws.map .str))) (some (.lst (ps.map pzD))) (some (.fr (nD k))) x6 x7 x8 x9 none x11 x12 x13 x14) := fun o ps x6 x7 x8 h1 h2 h3 => hk1 _ ⟨o, ps, _, x6, x7, x8, rfl, h1, h2, h3⟩
          have hpm : (ps.map pzD).length = ps.length := List.length_map _
          (repeat (first | refine And.intro (by first | exact True.intro | exact rfl | omega | exact ob_i rfl rfl | exact Nat.le_of_ble_eq_true rfl | exact of_decide_eq_true rfl) ?_ | refine ob_i rfl ?_))
          refine ob_i (pNe_nilL (okEq_pz hps)) ?_
          (repeat (first | refine And.intro (by first | exact True.intro | exact rfl | omega | exact ob_i rfl rfl | exact Nat.le_of_ble_eq_true rfl | exact of_decide_eq_true rfl) ?_ | refine ob_i rfl ?_))
          refine ite_b (fun c1 => ?_) (fun c1 => ?_)
          · have hne : 0 < ps.length := by
              cases ps with
              | nil => cases c1
              | cons p ps => exact Nat.succ_pos _
            (repeat (first | refine And.intro (by first | exact True.intro | exact rfl | omega | exact ob_i rfl rfl | exact Nat.le_of_ble_eq_true rfl | exact of_decide_eq_true rfl) ?_ | refine ob_i rfl ?_))
            refine ⟨fun ρ => ∃ (o : O) (a b : Nat), ρ = e07 ns o (some (.fr (nD i))) (some (.lst (ws.map .str))) (some (.lst (ps.map pzD))) (some (.fr (nD k))) (some (.fr (nD a))) (some (.fr (nD b))) x8 x9 none x11 x12 x13 x14 ∧ Bx o ∧ a < ps.length ∧ b < ps.length, ?_, ?_⟩
            · (repeat (first | refine And.intro (by first | exact True.intro | exact rfl | omega | exact ob_i rfl rfl | exact Nat.le_of_ble_eq_true rfl | exact of_decide_eq_true rfl) ?_ | refine ob_i rfl ?_))
              refine ap_take hb6 (by omega) (by omega) (fun a o7 ha hb7 => ?_)
              (repeat (first | refine And.intro (by first | exact True.intro | exact rfl | omega | exact ob_i rfl rfl | exact Nat.le_of_ble_eq_true rfl | exact of_decide_eq_true rfl) ?_ | refine ob_i rfl ?_))
              refine ap_take hb7 (by omega) (by omega) (fun b o8 hb2 hb8 => ?_)
              (repeat (first | refine And.intro (by first | exact True.intro | exact rfl | omega | exact ob_i rfl rfl | exact Nat.le_of_ble_eq_true rfl | exact of_decide_eq_true rfl) ?_ | refine ob_i rfl ?_))
              exact ⟨o8, a, b, rfl, hb8, by omega, by omega⟩
            rintro ρ ⟨o8, a, b, rfl, hb8, ha2, hb3⟩
            have pa := hps _ (List.getElem_mem ha2)
            have pb := hps _ (List.getElem_mem hb3)
            have ea := pIx_map (f := pzD) ha2
            have eb := pIx_map (f := pzD) hb3
            generalize ps[a] = qa at pa ea
            generalize ps[b] = qb at pb eb
            refine ⟨fun ρ => ρ = e07 ns o8 (some (.fr (nD i))) (some (.lst (ws.map .str))) (some (.lst (ps.map pzD))) (some (.fr (nD k))) (some (.fr (nD a))) (some (.fr (nD b))) (some (.lst (odd7.map pzD ++ [pzD (qa.1, 4), pzD (qa.1, -1), pzD (qb.1, 1)]))) x9 none x11 x12 x13 x14, ?_, ?_⟩
            · (repeat (first | refine And.intro (by first | exact True.intro | exact rfl | omega | exact ob_i rfl rfl | exact Nat.le_of_ble_eq_true rfl | exact of_decide_eq_true rfl) ?_ | refine ob_i rfl ?_))
              refine ob_i ea ?_
              (repeat (first | refine And.intro (by first | exact True.intro | exact rfl | omega | exact ob_i rfl rfl | exact Nat.le_of_ble_eq_true rfl | exact of_decide_eq_true rfl) ?_ | refine ob_i rfl ?_))
              refine ob_i ea ?_
              (repeat (first | refine And.intro (by first | exact True.intro | exact rfl | omega | exact ob_i rfl rfl | exact Nat.le_of_ble_eq_true rfl | exact of_decide_eq_true rfl) ?_ | refine ob_i rfl ?_))
              refine ob_i eb ?_
              (repeat (first | refine And.intro (by first | exact True.intro | exact rfl | omega | exact ob_i rfl rfl | exact Nat.le_of_ble_eq_true rfl | exact of_decide_eq_true rfl) ?_ | refine ob_i rfl ?_))
              rfl
            rintro ρ rfl
            (repeat (first | refine And.intro (by first | exact True.intro | exact rfl | omega | exact ob_i rfl rfl | exact Nat.le_of_ble_eq_true rfl | exact of_decide_eq_true rfl) ?_ | refine ob_i rfl ?_))
            refine ap_any hb8 rfl (by rw [List.length_append]; show 1 ≤ _ + 3; omega) (by rw [List.length_append]; show 4 + 3 ≤ 1000; omega) (fun e o9 he hb9 => ?_)
            have hodd : ∃ q : List Nat × Int, e = pzD q ∧ pOk q := by
              rcases List.mem_append.mp he with he | he
              · obtain ⟨q, hq, rfl⟩ := List.mem_map.mp he
                exact ⟨q, rfl, odd7_ok q hq⟩
              rcases List.mem_cons.mp he with rfl | he
              · exact ⟨(qa.1, 4), rfl, pa⟩
              rcases List.mem_cons.mp he with rfl | he
              · exact ⟨(qa.1, -1), rfl, pa⟩
              rw [List.mem_singleton.mp he]
              exact ⟨(qb.1, 1), rfl, pb⟩
            obtain ⟨q, rfl, hq⟩ := hodd
            (repeat (first | refine And.intro (by first | exact True.intro | exact rfl | omega | exact ob_i rfl rfl | exact Nat.le_of_ble_eq_true rfl | exact of_decide_eq_true rfl) ?_ | refine ob_i rfl ?_))
            refine ob_i (fSet_mapF (f := pzD) (v := q) ha2) ?_
            (repeat (first | refine And.intro (by first | exact True.intro | exact rfl | omega | exact ob_i rfl rfl | exact Nat.le_of_ble_eq_true rfl | exact of_decide_eq_true rfl) ?_ | refine ob_i rfl ?_))
            refine keep o9 (ps.set a q) _ _ _ hb9 (by rw [List.length_set]; exact hp10) (fun p hp => ?_)
            rcases List.mem_or_eq_of_mem_set hp with h | h
            · exact hps p h
            · rw [h]
              exact hq
          · (repeat (first | refine And.intro (by first | exact True.intro | exact rfl | omega | exact ob_i rfl rfl | exact Nat.le_of_ble_eq_true rfl | exact of_decide_eq_true rfl) ?_ | refine ob_i rfl ?_))
            exact keep _ _ _ _ _ hb6 hp10 hps
      · rintro ρ ⟨o6, ps, x5, x6, x7, x8, rfl, hb6, hp10, hps⟩
        have hpm : (ps.map pzD).length = ps.length := List.length_map _
        (repeat (first | refine And.intro (by first | exact True.intro | exact rfl | omega | exact ob_i rfl rfl | exact Nat.le_of_ble_eq_true rfl | exact of_decide_eq_true rfl) ?_ | refine ob_i rfl ?_))
        refine ⟨fun ρ => ∃ x6 x10 x11 x12 x13, ρ = e07 ns o6 (some (.fr (nD i))) (some (.lst (ws.map .str))) (some (.lst (ps.map pzD))) x5 x6 x7 x8 (some (.fr (due7 (fst1 ps.length (sgBad ps))))) x10 x11 x12 x13 x14, ?_, ?_⟩
        · (repeat (first | refine And.intro (by first | exact True.intro | exact rfl | omega | exact ob_i rfl rfl | exact Nat.le_of_ble_eq_true rfl | exact of_decide_eq_true rfl) ?_ | refine ob_i rfl ?_))
          show foGo _ _ _ (natD (((ps.map pzD).length : Nat) : Int).toNat) _
          rw [hpm]
          refine fo_rng (fun j ρ => ∃ x6 x10 x11 x12 x13, ρ = e07 ns o6 (some (.fr (nD i))) (some (.lst (ws.map .str))) (some (.lst (ps.map pzD))) x5 x6 x7 x8 (some (.fr (due7 (fst1 j (sgBad ps))))) x10 x11 x12 x13 x14) ps.length (by omega) ⟨x6, none, x11, x12, x13, rfl⟩ ?_ ?_
          · rintro ρ ⟨x6, x10, x11, x12, x13, rfl⟩
            exact ⟨x6, x10, x11, x12, x13, rfl⟩
          · rintro j hj ρ ⟨x6, x10, x11, x12, x13, rfl⟩ k1 hk1
            have hp := hps _ (List.getElem_mem hj)
            have bj := sgBad_at hj
            (repeat (first | refine And.intro (by first | exact True.intro | exact rfl | omega | exact ob_i rfl rfl | exact Nat.le_of_ble_eq_true rfl | exact of_decide_eq_true rfl) ?_ | refine ob_i rfl ?_))
            refine ob_i (pIx_map (f := pzD) hj) ?_
            generalize hpj : ps[j] = p at hp bj
            have hl7 : p.1.length ≤ 7 := hp.1
            (repeat (first | refine And.intro (by first | exact True.intro | exact rfl | omega | exact ob_i rfl rfl | exact Nat.le_of_ble_eq_true rfl | exact of_decide_eq_true rfl) ?_ | refine ob_i rfl ?_))
            refine ⟨fun ρ => ρ = e07 ns o6 (some (.fr (nD i))) (some (.lst (ws.map .str))) (some (.lst (ps.map pzD))) x5 (some (.fr (nD j))) x7 x8 (some (.fr (due7 (fst1 j (sgBad ps))))) (some (.fr (.str p.1))) (some (.fr (.int p.2))) (some (.fr (.bl (isSign p.1)))) x13 x14, ?_, ?_⟩
            · have fin : ∀ b, b = isSign p.1 → e07 ns o6 (some (.fr (nD i))) (some (.lst (ws.map .str))) (some (.lst (ps.map pzD))) x5 (some (.fr (nD j))) x7 x8 (some (.fr (due7 (fst1 j (sgBad ps))))) (some (.fr (.str p.1))) (some (.fr (.int p.2))) (some (.fr (.bl b))) x13 x14 = e07 ns o6 (some (.fr (nD i))) (some (.lst (ws.map .str))) (some (.lst (ps.map pzD))) x5 (some (.fr (nD j))) x7 x8 (some (.fr (due7 (fst1 j (sgBad ps))))) (some (.fr (.str p.1))) (some (.fr (.int p.2))) (some (.fr (.bl (isSign p.1)))) x13 x14 := fun b h => by rw [h]
              (repeat (first | refine And.intro (by first | exact True.intro | exact rfl | omega | exact ob_i rfl rfl | exact Nat.le_of_ble_eq_true rfl | exact of_decide_eq_true rfl) ?_ | refine ob_i rfl ?_))
              refine ob_if (lim (by omega)) ?_
              (repeat (first | refine And.intro (by first | exact True.intro | exact rfl | omega | exact ob_i rfl rfl | exact Nat.le_of_ble_eq_true rfl | exact of_decide_eq_true rfl) ?_ | refine ob_i rfl ?_))
              refine ite_d (fun c1 => ?_) (fun c1 => ?_)
              · (repeat (first | refine And.intro (by first | exact True.intro | exact rfl | omega | exact ob_i rfl rfl | exact Nat.le_of_ble_eq_true rfl | exact of_decide_eq_true rfl) ?_ | refine ob_i rfl ?_))
                refine ite_b (fun c2 => ?_) (fun c2 => ?_)
                · have c2' := of_decide_eq_true c2
                  (repeat (first | refine And.intro (by first | exact True.intro | exact rfl | omega | exact ob_i rfl rfl | exact Nat.le_of_ble_eq_true rfl | exact of_decide_eq_true rfl) ?_ | refine ob_i rfl ?_))
                  refine lc_on (f := fun c : Nat => D.str [c]) (l := p.1) (fun m acc ρ => ρ = e07 ns o6 (some (.fr (nD i))) (some (.lst (ws.map .str))) (some (.lst (ps.map pzD))) x5 (some (.fr (nD j))) x7 x8 (some (.fr (due7 (fst1 j (sgBad ps))))) (some (.fr (.str p.1))) (some (.fr (.int p.2))) x12 x13 x14 ∧ acc = (p.1.take m).map fun c => D.bl (isLow c)) (by omega) ⟨rfl, rfl⟩ ?_ ?_
                  · rintro acc ρ ⟨rfl, rfl⟩
                    rw [List.take_length]
                    (repeat (first | refine And.intro (by first | exact True.intro | exact rfl | omega | exact ob_i rfl rfl | exact Nat.le_of_ble_eq_true rfl | exact of_decide_eq_true rfl) ?_ | refine ob_i rfl ?_))
                    refine ob_i (all_map_str p.1) ?_
                    (repeat (first | refine And.intro (by first | exact True.intro | exact rfl | omega | exact ob_i rfl rfl | exact Nat.le_of_ble_eq_true rfl | exact of_decide_eq_true rfl) ?_ | refine ob_i rfl ?_))
                    exact fin _ (isSign_yes (by omega) (by omega)).symm
                  · rintro m hm acc ρ ⟨rfl, rfl⟩ k hk
                    (repeat (first | refine And.intro (by first | exact True.intro | exact rfl | omega | exact ob_i rfl rfl | exact Nat.le_of_ble_eq_true rfl | exact of_decide_eq_true rfl) ?_ | refine ob_i rfl ?_))
                    refine hk _ _ ⟨rfl, ?_⟩
                    rw [List.take_add_one, List.getElem?_eq_getElem hm, List.map_append]
                    rfl
                · have c2' := of_decide_eq_false c2
                  (repeat (first | refine And.intro (by first | exact True.intro | exact rfl | omega | exact ob_i rfl rfl | exact Nat.le_of_ble_eq_true rfl | exact of_decide_eq_true rfl) ?_ | refine ob_i rfl ?_))
                  exact fin _ (isSign_no (by omega)).symm
              · (repeat (first | refine And.intro (by first | exact True.intro | exact rfl | omega | exact ob_i rfl rfl | exact Nat.le_of_ble_eq_true rfl | exact of_decide_eq_true rfl) ?_ | refine ob_i rfl ?_))
                exact fin _ (isSign_no (by omega)).symm
            rintro ρ rfl
            (repeat (first | refine And.intro (by first | exact True.intro | exact rfl | omega | exact ob_i rfl rfl | exact Nat.le_of_ble_eq_true rfl | exact of_decide_eq_true rfl) ?_ | refine ob_i rfl ?_))
            rw [cutL_to, ← List.map_take]
            refine lc_on (f := pzD) (l := ps.take j) (fun m acc ρ => ρ = e07 ns o6 (some (.fr (nD i))) (some (.lst (ws.map .str))) (some (.lst (ps.map pzD))) x5 (some (.fr (nD j))) x7 x8 (some (.fr (due7 (fst1 j (sgBad ps))))) (some (.fr (.str p.1))) (some (.fr (.int p.2))) (some (.fr (.bl (isSign p.1)))) x13 x14 ∧ acc = (((ps.take j).take m).map (·.1)).map .str) (by rw [List.length_take]; omega) ⟨rfl, rfl⟩ ?_ ?_
            · rintro acc ρ ⟨rfl, rfl⟩
              rw [List.take_of_length_le (Nat.le_refl _)]
              (repeat (first | refine And.intro (by first | exact True.intro | exact rfl | omega | exact ob_i rfl rfl | exact Nat.le_of_ble_eq_true rfl | exact of_decide_eq_true rfl) ?_ | refine ob_i rfl ?_))
              refine ob_i (pNotIn_str (fun l hl => ?_) hp.2) ?_
              · obtain ⟨p, hp, rfl⟩ := List.mem_map.mp hl
                exact (hps p (List.mem_of_mem_take hp)).2
              have fs := fst1_succ j (sgBad ps)
              have go : ∀ x12 x13 y, fst1 (j + 1) (sgBad ps) = y → k1 (e07 ns o6 (some (.fr (nD i))) (some (.lst (ws.map .str))) (some (.lst (ps.map pzD))) x5 (some (.fr (nD j))) x7 x8 (some (.fr (due7 y))) (some (.fr (.str p.1))) (some (.fr (.int p.2))) x12 x13 x14) := fun x12 x13 y hy => hk1 _ ⟨_, _, _, _, _, by rw [hy]⟩
              cases hf : fst1 j (sgBad ps) with
              | some q =>
                rw [hf] at fs
                (repeat (first | refine And.intro (by first | exact True.intro | exact rfl | omega | exact ob_i rfl rfl | exact Nat.le_of_ble_eq_true rfl | exact of_decide_eq_true rfl) ?_ | refine ob_i rfl ?_))
                exact go _ _ _ fs
              | none =>
                rw [hf] at fs
                have all := fst1_all hf
                have hj8 : j ≤ 8 := by
                  rcases Nat.lt_or_ge 8 j with z | z
                  · have b8 := all 8 z
                    rw [sgBad_at (show 8 < ps.length by omega)] at b8
                    cases b8
                  · exact z
                have fire : sgBad ps j = true → fst1 (j + 1) (sgBad ps) = some j := fun h => by rw [fs, h]; rfl
                have pass : sgBad ps j = false → fst1 (j + 1) (sgBad ps) = none := fun h => by rw [fs, h]; rfl
                (repeat (first | refine And.intro (by first | exact True.intro | exact rfl | omega | exact ob_i rfl rfl | exact Nat.le_of_ble_eq_true rfl | exact of_decide_eq_true rfl) ?_ | refine ob_i rfl ?_))
                refine ite_d (fun c1 => ?_) (fun c1 => ?_)
                · (repeat (first | refine And.intro (by first | exact True.intro | exact rfl | omega | exact ob_i rfl rfl | exact Nat.le_of_ble_eq_true rfl | exact of_decide_eq_true rfl) ?_ | refine ob_i rfl ?_))
                  exact go _ _ _ (fire (by rw [bj, decide_eq_true (by omega)]; rfl))
                have d8 : decide (8 ≤ j) = false := decide_eq_false (by omega)
                rw [d8, Bool.false_or] at bj
                cases hs : isSign p.1 with
                | false =>
                  (repeat (first | refine And.intro (by first | exact True.intro | exact rfl | omega | exact ob_i rfl rfl | exact Nat.le_of_ble_eq_true rfl | exact of_decide_eq_true rfl) ?_ | refine ob_i rfl ?_))
                  exact go _ _ _ (fire (by rw [bj, hs]; simp))
                | true =>
                  (repeat (first | refine And.intro (by first | exact True.intro | exact rfl | omega | exact ob_i rfl rfl | exact Nat.le_of_ble_eq_true rfl | exact of_decide_eq_true rfl) ?_ | refine ob_i rfl ?_))
                  refine ite_b (fun c2 => ?_) (fun c2 => ?_)
                  · (repeat (first | refine And.intro (by first | exact True.intro | exact rfl | omega | exact ob_i rfl rfl | exact Nat.le_of_ble_eq_true rfl | exact of_decide_eq_true rfl) ?_ | refine ob_i rfl ?_))
                    have c3 : p.1 ∈ (ps.take j).map (·.1) := of_decide_eq_true (not_f (not_t c2))
                    exact go _ _ _ (fire (by rw [bj, decide_eq_true c3]; rfl))
                  · have c3 : ¬ p.1 ∈ (ps.take j).map (·.1) := of_decide_eq_false (not_t (not_f c2))
                    rw [decide_eq_false c3, hs] at bj
                    (repeat (first | refine And.intro (by first | exact True.intro | exact rfl | omega | exact ob_i rfl rfl | exact Nat.le_of_ble_eq_true rfl | exact of_decide_eq_true rfl) ?_ | refine ob_i rfl ?_))
                    refine ite_d (fun c4 => ?_) (fun c4 => ?_)
                    · (repeat (first | refine And.intro (by first | exact True.intro | exact rfl | omega | exact ob_i rfl rfl | exact Nat.le_of_ble_eq_true rfl | exact of_decide_eq_true rfl) ?_ | refine ob_i rfl ?_))
                      cases c5 : decide (p.2 ≤ 3) with
                      | false =>
                        (repeat (first | refine And.intro (by first | exact True.intro | exact rfl | omega | exact ob_i rfl rfl | exact Nat.le_of_ble_eq_true rfl | exact of_decide_eq_true rfl) ?_ | refine ob_i rfl ?_))
                        exact go _ _ _ (fire (by rw [bj, decide_eq_true c4, c5]; rfl))
                      | true =>
                        (repeat (first | refine And.intro (by first | exact True.intro | exact rfl | omega | exact ob_i rfl rfl | exact Nat.le_of_ble_eq_true rfl | exact of_decide_eq_true rfl) ?_ | refine ob_i rfl ?_))
                        exact go _ _ _ (pass (by rw [bj, decide_eq_true c4, c5]; rfl))
                    · (repeat (first | refine And.intro (by first | exact True.intro | exact rfl | omega | exact ob_i rfl rfl | exact Nat.le_of_ble_eq_true rfl | exact of_decide_eq_true rfl) ?_ | refine ob_i rfl ?_))
                      exact go _ _ _ (fire (by rw [bj, decide_eq_false c4]; rfl))
            · rintro m hm acc ρ ⟨rfl, rfl⟩ k hk
              (repeat (first | refine And.intro (by first | exact True.intro | exact rfl | omega | exact ob_i rfl rfl | exact Nat.le_of_ble_eq_true rfl | exact of_decide_eq_true rfl) ?_ | refine ob_i rfl ?_))
              refine hk _ _ ⟨rfl, ?_⟩
              rw [List.take_add_one, List.getElem?_eq_getElem hm, List.map_append, List.map_append]
              rfl
        · rintro ρ ⟨x6, x10, x11, x12, x13, rfl⟩
          refine ⟨fun ρ => ρ = e07 ns o6 (some (.fr (nD i))) (some (.lst (ws.map .str))) (some (.lst (ps.map pzD))) x5 x6 x7 x8 (some (.fr (due7 (sgErr ps)))) x10 x11 x12 x13 x14, ?_, ?_⟩
          · (repeat (first | refine And.intro (by first | exact True.intro | exact rfl | omega | exact ob_i rfl rfl | exact Nat.le_of_ble_eq_true rfl | exact of_decide_eq_true rfl) ?_ | refine ob_i rfl ?_))
            refine ob_i (pEq_nilL (okEq_pz hps)) ?_
            (repeat (first | refine And.intro (by first | exact True.intro | exact rfl | omega | exact ob_i rfl rfl | exact Nat.le_of_ble_eq_true rfl | exact of_decide_eq_true rfl) ?_ | refine ob_i rfl ?_))
            cases ps with
            | nil =>
              (repeat (first | refine And.intro (by first | exact True.intro | exact rfl | omega | exact ob_i rfl rfl | exact Nat.le_of_ble_eq_true rfl | exact of_decide_eq_true rfl) ?_ | refine ob_i rfl ?_))
              rfl
            | cons p ps =>
              (repeat (first | refine And.intro (by first | exact True.intro | exact rfl | omega | exact ob_i rfl rfl | exact Nat.le_of_ble_eq_true rfl | exact of_decide_eq_true rfl) ?_ | refine ob_i rfl ?_))
              rfl
          rintro ρ rfl
          have hs : sgOk ps := ⟨by omega, fun p hp => ⟨by have := (hps p hp).1; omega, (hps p hp).2⟩⟩
          (repeat (first | refine And.intro (by first | exact True.intro | exact rfl | omega | exact ob_i rfl rfl | exact Nat.le_of_ble_eq_true rfl | exact of_decide_eq_true rfl) ?_ | refine ob_i rfl ?_))
          refine ⟨fun ρ => ∃ x4 a b, ρ = e07 ns o6 (some (.fr (nD i))) (some (.lst (ws.map .str))) x4 x5 x6 x7 x8 (some (.fr (due7 (sgErr ps)))) x10 x11 x12 x13 (some (.lst [a, b])) ∧ (∀ q, sgErr ps = some q → a = due7 (some q) ∧ b = due7 (some q)) ∧ (sgErr ps = none → a = .tup [.str ("InvalidDefinition" : Str).cps.toList, .int 0] ∧ b = .tup [.str ("InvalidRules" : Str).cps.toList, .int 0]), ?_, ?_⟩
          · have fin : ∀ x4 a b, (∀ q, sgErr ps = some q → a = due7 (some q) ∧ b = due7 (some q)) → (sgErr ps = none → a = .tup [.str ("InvalidDefinition" : Str).cps.toList, .int 0] ∧ b = .tup [.str ("InvalidRules" : Str).cps.toList, .int 0]) → (fun ρ => ∃ x4 a b, ρ = e07 ns o6 (some (.fr (nD i))) (some (.lst (ws.map .str))) x4 x5 x6 x7 x8 (some (.fr (due7 (sgErr ps)))) x10 x11 x12 x13 (some (.lst [a, b])) ∧ (∀ q, sgErr ps = some q → a = due7 (some q) ∧ b = due7 (some q)) ∧ (sgErr ps = none → a = .tup [.str ("InvalidDefinition" : Str).cps.toList, .int 0] ∧ b = .tup [.str ("InvalidRules" : Str).cps.toList, .int 0])) (e07 ns o6 (some (.fr (nD i))) (some (.lst (ws.map .str))) x4 x5 x6 x7 x8 (some (.fr (due7 (sgErr ps)))) x10 x11 x12 x13 (some (.lst [a, b]))) := fun x4 a b h1 h2 => ⟨x4, a, b, rfl, h1, h2⟩
            (repeat (first | refine And.intro (by first | exact True.intro | exact rfl | omega | exact ob_i rfl rfl | exact Nat.le_of_ble_eq_true rfl | exact of_decide_eq_true rfl) ?_ | refine ob_i rfl ?_))
            refine ap_Program0 (ps := ps) rfl hs (fun q hq o => ?_) (fun hq o => ?_)
            · (repeat (first | refine And.intro (by first | exact True.intro | exact rfl | omega | exact ob_i rfl rfl | exact Nat.le_of_ble_eq_true rfl | exact of_decide_eq_true rfl) ?_ | refine ob_i rfl ?_))
              refine ob_i (wyT_at (fs := ["at"]) rfl rfl) ?_
              (repeat (first | refine And.intro (by first | exact True.intro | exact rfl | omega | exact ob_i rfl rfl | exact Nat.le_of_ble_eq_true rfl | exact of_decide_eq_true rfl) ?_ | refine ob_i rfl ?_))
              refine ⟨.lst (ps.map pzD), .lst [], ps, [], rfl, rfl, rfl, hs, ⟨Nat.zero_le _, fun _ h => nomatch h⟩, fun z => ?_, fun x hx => ?_⟩
              · unfold jgErr at z
                rw [hq] at z
                cases z
              · unfold jgErr at hx
                rw [hq] at hx
                cases hx
                (repeat (first | refine And.intro (by first | exact True.intro | exact rfl | omega | exact ob_i rfl rfl | exact Nat.le_of_ble_eq_true rfl | exact of_decide_eq_true rfl) ?_ | refine ob_i rfl ?_))
                refine ob_i (wyT_at (fs := ["at"]) rfl rfl) ?_
                (repeat (first | refine And.intro (by first | exact True.intro | exact rfl | omega | exact ob_i rfl rfl | exact Nat.le_of_ble_eq_true rfl | exact of_decide_eq_true rfl) ?_ | refine ob_i rfl ?_))
                exact fin _ _ _ (fun q' h => by rw [hq] at h; cases h; exact ⟨rfl, rfl⟩) (fun h => by rw [hq] at h; cases h)
            · (repeat (first | refine And.intro (by first | exact True.intro | exact rfl | omega | exact ob_i rfl rfl | exact Nat.le_of_ble_eq_true rfl | exact of_decide_eq_true rfl) ?_ | refine ob_i rfl ?_))
              refine ob_i (wyT_at (fs := ["at"]) rfl rfl) ?_
              (repeat (first | refine And.intro (by first | exact True.intro | exact rfl | omega | exact ob_i rfl rfl | exact Nat.le_of_ble_eq_true rfl | exact of_decide_eq_true rfl) ?_ | refine ob_i rfl ?_))
              refine ⟨.lst (ps.map pzD), .lst [], ps, [], rfl, rfl, rfl, hs, ⟨Nat.zero_le _, fun _ h => nomatch h⟩, fun z => ?_, fun x hx => ?_⟩
              · unfold jgErr at z
                rw [hq] at z
                cases z
              · unfold jgErr at hx
                rw [hq] at hx
                cases hx
                (repeat (first | refine And.intro (by first | exact True.intro | exact rfl | omega | exact ob_i rfl rfl | exact Nat.le_of_ble_eq_true rfl | exact of_decide_eq_true rfl) ?_ | refine ob_i rfl ?_))
                refine ob_i (wyT_at (fs := ["at"]) rfl rfl) ?_
                (repeat (first | refine And.intro (by first | exact True.intro | exact rfl | omega | exact ob_i rfl rfl | exact Nat.le_of_ble_eq_true rfl | exact of_decide_eq_true rfl) ?_ | refine ob_i rfl ?_))
                exact fin _ _ _ (fun q' h => by rw [hq] at h; cases h) (fun _ => ⟨rfl, rfl⟩)
          · rintro ρ ⟨x4, a, b, rfl, h1, h2⟩
            cases he : sgErr ps with
            | none =>
              obtain ⟨rfl, rfl⟩ := h2 he
              (repeat (first | refine And.intro (by first | exact True.intro | exact rfl | omega | exact ob_i rfl rfl | exact Nat.le_of_ble_eq_true rfl | exact of_decide_eq_true rfl) ?_ | refine ob_i rfl ?_))
              refine ite_b (fun c1 => ?_) (fun c1 => ?_)
              · exact (no_eqv c1 rfl).elim
              (repeat (first | refine And.intro (by first | exact True.intro | exact rfl | omega | exact ob_i rfl rfl | exact Nat.le_of_ble_eq_true rfl | exact of_decide_eq_true rfl) ?_ | refine ob_i rfl ?_))
              exact hkk _ ⟨o6, _, _, _, _, _, _, _, _, _, _, _, _, _, rfl, hb6⟩
            | some q =>
              obtain ⟨rfl, rfl⟩ := h1 q he
              (repeat (first | refine And.intro (by first | exact True.intro | exact rfl | omega | exact ob_i rfl rfl | exact Nat.le_of_ble_eq_true rfl | exact of_decide_eq_true rfl) ?_ | refine ob_i rfl ?_))
              refine ite_b (fun c1 => ?_) (fun c1 => ?_)
              · exact (no_eqv c1 rfl).elim
              (repeat (first | refine And.intro (by first | exact True.intro | exact rfl | omega | exact ob_i rfl rfl | exact Nat.le_of_ble_eq_true rfl | exact of_decide_eq_true rfl) ?_ | refine ob_i rfl ?_))
              exact hkk _ ⟨o6, _, _, _, _, _, _, _, _, _, _, _, _, _, rfl, hb6⟩
    · rintro k hk acc ρ ⟨o4, ps, rfl, hb4, rfl, hpl, hps⟩ k1 hk1
      have hsg := hws _ (List.mem_of_mem_take (List.getElem_mem hk))
      generalize (ws.take r1)[k] = l at hsg
      (repeat (first | refine And.intro (by first | exact True.intro | exact rfl | omega | exact ob_i rfl rfl | exact Nat.le_of_ble_eq_true rfl | exact of_decide_eq_true rfl) ?_ | refine ob_i rfl ?_))
      refine ap_take hb4 (by omega) (by omega) (fun r2 o5 hr2 hb5 => ?_)
      (repeat (first | refine And.intro (by first | exact True.intro | exact rfl | omega | exact ob_i rfl rfl | exact Nat.le_of_ble_eq_true rfl | exact of_decide_eq_true rfl) ?_ | refine ob_i rfl ?_))
      refine hk1 _ _ ⟨o5, ps ++ [(l, (r2 : Int))], rfl, hb5, by rw [List.map_append]; rfl, by rw [List.length_append]; show _ + 1 = _; omega, fun p hp => ?_⟩
      rcases List.mem_append.mp hp with h | h
      · exact hps p h
      · rw [List.mem_singleton.mp h]
        exact sign_ok7 hsg
theorem all_law {l : PySem.W.OpenLaw} {h : Heap} {fd : FuncData} (X : K.In h) (G : h.Ns mainGlobals mg) (F : Fun K "law" "law" s_law (He.ga K "law") fd) (hb : ∀ (s : Shared) (u : Value), BindsTo s fd ⟨[u], []⟩ [("_law_script", u)])
    (hT : h.get? (He.cT K ("law", none)).2 = some { cls := .none, data := .fields #[] }) (nT : K.lookup (He.cT K ("law", none)).2 = none) (C : PySem.W.CodeHd h (He.cT K ("law", none)).1 (He.cT K ("law", none)).2) (B : Bt mg)
    (D_is_sign : Dfn K mg "is_sign" s_is_sign) (D_check_signature : Dfn K mg "check_signature" s_check_signature) (D_is_number : Dfn K mg "is_number" s_is_number) (D_is_choice : Dfn K mg "is_choice" s_is_choice) (D_is_condition : Dfn K mg "is_condition" s_is_condition) (D__law_box : Dfn K mg "_law_box" s_law_box) (D__law_take : Dfn K mg "_law_take" s_law_take) (D__law_any : Dfn K mg "_law_any" s_law_any) (D__law_why : Dfn K mg "_law_why" s_law_why) (D__law_letters : Dfn K mg "_law_letters" s_law_letters) (D__law_words : Dfn K mg "_law_words" s_law_words) (k_Judge : Kls K mg "Judge" ["pairs", "places", "rules"]) (M_Judge_init : Mfn K "Judge" "__init__" "Judge.__init__" s_Judge_init) (cc_Judge_MOST : CCn K mg "Judge" "MOST" 3) (k_Program : Kls K mg "Program" ["pairs", "arities", "parts", "found_kinds"]) (M_Program_init : Mfn K "Program" "__init__" "Program.__init__" s_Program_init) (M_Program_definitions : Mfn K "Program" "definitions" "Program.definitions" s_Program_definitions) (g_SMALL : Gv mg "SMALL" (.str SMALL)) (g_MOST_LETTERS : Gv mg "MOST_LETTERS" (.int 6)) (g_MOST_SIGNS : Gv mg "MOST_SIGNS" (.int 8)) (g_MOST_ARITY : Gv mg "MOST_ARITY" (.int 3)) (g_MOST_CHOICES : Gv mg "MOST_CHOICES" (.int 4)) (Z_InvalidSign : Xcl K mg "InvalidSign" i_InvalidSign ["at"]) (Z_InvalidDefinition : Xcl K mg "InvalidDefinition" i_InvalidDefinition ["at"]) (Z_InvalidRules : Xcl K mg "InvalidRules" i_InvalidRules ["at"]) (Z_InvalidCondition : Xcl K mg "InvalidCondition" i_InvalidCondition ["state", "at"]) (hw_InvalidSign : wxB_InvalidSign K = true) (hw_InvalidDefinition : wxB_InvalidDefinition K = true) (hw_InvalidRules : wxB_InvalidRules K = true) (hy : (whyNames.all fun c => (He.Fa.glo c).ok K) = true) :
    LamX.LawAtS l w K C8.CX0 101 63 "_law_script" mg (He.ga K "law") h := by
  refine lawAt_of F sc_law hb hT nT C (by decide) fun base A outer s H E KX G' TB hr => ?_
  have c1 := cal_take (P := l.prog) (w := w) (base := base) D__law_take B
  have c2 := cal_any D__law_any B c1
  have c3 := cal_letters D__law_letters B c1 c2
  have c4 := cal_is_sign (P := l.prog) (w := w) (base := base) D_is_sign B g_SMALL g_MOST_LETTERS
  have c5 := cal_check_signature D_check_signature B Z_InvalidSign g_MOST_SIGNS g_MOST_ARITY c4
  have c6 := cal_is_condition D_is_condition B g_MOST_CHOICES (cal_is_choice D_is_choice B g_MOST_CHOICES (cal_is_number (P := l.prog) (w := w) (base := base) D_is_number B))
  have c7 := mk_Judge_ok k_Judge M_Judge_init cc_Judge_MOST B Z_InvalidRules Z_InvalidCondition c5 c6
  have c8 := mk_Program0_ok k_Program M_Program_init B Z_InvalidDefinition c5 (m_definitions k_Program M_Program_definitions B)
  obtain ⟨g, fdw, Fw, mw⟩ := D__law_why.ex
  obtain ⟨wb, h1, h2⟩ := law07_ev (Z := some ((He.cT K ("law", none)).2, _)) B hr rfl TB mw Fw (fun c hc => He.glo_ok X G (List.all_eq_true.mp hy c hc)) (y_law Z_InvalidSign hw_InvalidSign Z_InvalidDefinition hw_InvalidDefinition Z_InvalidRules hw_InvalidRules) c1 c2 (cal_box D__law_box B) (cal_words D__law_words B c1 c3) c7 c8
  exact ⟨wb, _, h1, h2⟩
end
--END2 {"k": 100, "defs": ["is_sign", "check_signature", "is_number", "is_choice", "is_condition", "_law_box", "_law_take", "_law_any", "_law_why", "_law_letters", "_law_words"], "classes": {"Judge": {"fields": ["pairs", "places", "rules"], "methods": ["__init__"], "consts": {"MOST": 3}}, "Program": {"fields": ["pairs", "arities", "parts", "found_kinds"], "methods": ["__init__", "definitions"]}}, "errs": {"InvalidSign": ["at"], "InvalidDefinition": ["at"], "InvalidRules": ["at"], "InvalidCondition": ["state", "at"]}, "consts": {"SMALL": "SMALL", "MOST_LETTERS": 6, "MOST_SIGNS": 8, "MOST_ARITY": 3, "MOST_CHOICES": 4}, "ex": ["wxB_InvalidSign", "wxB_InvalidDefinition", "wxB_InvalidRules", "(fun K => whyNames.all fun c => (He.Fa.glo c).ok K)"]}

theorem head_facts {l : PySem.W.OpenLaw} {w : World} {K : PySem.W.Frag} {h : Heap} {mg : Str → Option Value} (X : K.In h) (G : h.Ns mainGlobals mg) (c : He.SaysX fas fns [] [("law", none)] (exAll exl) w h K) : LamX.LawAtS l w K C8.CX0 101 63 "_law_script" mg (He.ga K "law") h := by
  have B : Bt mg := ⟨He.free_ok X G (c.t.d.fact 18 (f := .free "len") rfl), He.free_ok X G (c.t.d.fact 19 (f := .free "int") rfl), He.free_ok X G (c.t.d.fact 20 (f := .free "str") rfl), He.free_ok X G (c.t.d.fact 21 (f := .free "bool") rfl), He.free_ok X G (c.t.d.fact 22 (f := .free "tuple") rfl), He.free_ok X G (c.t.d.fact 23 (f := .free "list") rfl), He.free_ok X G (c.t.d.fact 24 (f := .free "all") rfl), He.free_ok X G (c.t.d.fact 25 (f := .free "any") rfl), He.free_ok X G (c.t.d.fact 26 (f := .free "isinstance") rfl), He.free_ok X G (c.t.d.fact 27 (f := .free "range") rfl), He.free_ok X G (c.t.d.fact 28 (f := .free "zip") rfl), He.free_ok X G (c.t.d.fact 29 (f := .free "enumerate") rfl), He.free_ok X G (c.t.d.fact 30 (f := .free "sum") rfl), He.free_ok X G (c.t.d.fact 31 (f := .free "max") rfl), He.free_ok X G (c.t.d.fact 32 (f := .free "min") rfl), He.free_ok X G (c.t.d.fact 33 (f := .free "sorted") rfl), He.free_ok X G (c.t.d.fact 34 (f := .free "dict") rfl), He.free_ok X G (c.t.d.fact 35 (f := .free "repr") rfl), He.free_ok X G (c.t.d.fact 36 (f := .free "divmod") rfl)⟩
  have D_is_sign : Dfn K mg "is_sign" s_is_sign := dfn_he X G (c.t.d.def_ 0 (d := dd0) rfl) (c.t.d.fact 0 (f := .glo "is_sign") rfl)
  have D_check_signature : Dfn K mg "check_signature" s_check_signature := dfn_he X G (c.t.d.def_ 1 (d := dd1) rfl) (c.t.d.fact 1 (f := .glo "check_signature") rfl)
  have D_is_number : Dfn K mg "is_number" s_is_number := dfn_he X G (c.t.d.def_ 2 (d := dd2) rfl) (c.t.d.fact 2 (f := .glo "is_number") rfl)
  have D_is_choice : Dfn K mg "is_choice" s_is_choice := dfn_he X G (c.t.d.def_ 3 (d := dd3) rfl) (c.t.d.fact 3 (f := .glo "is_choice") rfl)
  have D_is_condition : Dfn K mg "is_condition" s_is_condition := dfn_he X G (c.t.d.def_ 4 (d := dd4) rfl) (c.t.d.fact 4 (f := .glo "is_condition") rfl)
  have D__law_box : Dfn K mg "_law_box" s_law_box := dfn_he X G (c.t.d.def_ 5 (d := dd5) rfl) (c.t.d.fact 5 (f := .glo "_law_box") rfl)
  have D__law_take : Dfn K mg "_law_take" s_law_take := dfn_he X G (c.t.d.def_ 6 (d := dd6) rfl) (c.t.d.fact 6 (f := .glo "_law_take") rfl)
  have D__law_any : Dfn K mg "_law_any" s_law_any := dfn_he X G (c.t.d.def_ 7 (d := dd7) rfl) (c.t.d.fact 7 (f := .glo "_law_any") rfl)
  have D__law_why : Dfn K mg "_law_why" s_law_why := dfn_he X G (c.t.d.def_ 8 (d := dd8) rfl) (c.t.d.fact 8 (f := .glo "_law_why") rfl)
  have D__law_letters : Dfn K mg "_law_letters" s_law_letters := dfn_he X G (c.t.d.def_ 9 (d := dd9) rfl) (c.t.d.fact 9 (f := .glo "_law_letters") rfl)
  have D__law_words : Dfn K mg "_law_words" s_law_words := dfn_he X G (c.t.d.def_ 10 (d := dd10) rfl) (c.t.d.fact 10 (f := .glo "_law_words") rfl)
  have k_Judge : Kls K mg "Judge" ["pairs", "places", "rules"] := kls_ok X G (c.t.d.fact 16 (f := .glo "Judge") rfl) (exAll_at c.more 8)
  have M_Judge_init : Mfn K "Judge" "__init__" "Judge.__init__" s_Judge_init := mfn_ok (exAll_at c.more 9) (c.t.d.def_ 16 (d := dd16) rfl)
  have cc_Judge_MOST : CCn K mg "Judge" "MOST" 3 := cc_ok X G (c.t.d.fact 16 (f := .glo "Judge") rfl) (exAll_at c.more 10)
  have k_Program : Kls K mg "Program" ["pairs", "arities", "parts", "found_kinds"] := kls_ok X G (c.t.d.fact 17 (f := .glo "Program") rfl) (exAll_at c.more 11)
  have M_Program_init : Mfn K "Program" "__init__" "Program.__init__" s_Program_init := mfn_ok (exAll_at c.more 12) (c.t.d.def_ 17 (d := dd17) rfl)
  have M_Program_definitions : Mfn K "Program" "definitions" "Program.definitions" s_Program_definitions := mfn_ok (exAll_at c.more 13) (c.t.d.def_ 18 (d := dd18) rfl)
  have g_SMALL : Gv mg "SMALL" (.str SMALL) := by
    obtain ⟨t, e⟩ := He.str_ok X G (c.t.d.fact 37 (f := .str "SMALL" SMALL) rfl)
    exact ⟨_, e, _, rfl⟩
  have g_MOST_LETTERS : Gv mg "MOST_LETTERS" (.int 6) := by
    obtain ⟨t, e⟩ := He.int_ok X G (c.t.d.fact 38 (f := .int "MOST_LETTERS" 6) rfl)
    exact ⟨_, e, _, rfl⟩
  have g_MOST_SIGNS : Gv mg "MOST_SIGNS" (.int 8) := by
    obtain ⟨t, e⟩ := He.int_ok X G (c.t.d.fact 39 (f := .int "MOST_SIGNS" 8) rfl)
    exact ⟨_, e, _, rfl⟩
  have g_MOST_ARITY : Gv mg "MOST_ARITY" (.int 3) := by
    obtain ⟨t, e⟩ := He.int_ok X G (c.t.d.fact 40 (f := .int "MOST_ARITY" 3) rfl)
    exact ⟨_, e, _, rfl⟩
  have g_MOST_CHOICES : Gv mg "MOST_CHOICES" (.int 4) := by
    obtain ⟨t, e⟩ := He.int_ok X G (c.t.d.fact 41 (f := .int "MOST_CHOICES" 4) rfl)
    exact ⟨_, e, _, rfl⟩
  have Z_InvalidSign : Xcl K mg "InvalidSign" i_InvalidSign ["at"] := xcl_ok X G (c.t.d.fact 12 (f := .glo "InvalidSign") rfl) (exAll_at c.more 0) (c.t.d.def_ 12 (d := dd12) rfl)
  have Z_InvalidDefinition : Xcl K mg "InvalidDefinition" i_InvalidDefinition ["at"] := xcl_ok X G (c.t.d.fact 13 (f := .glo "InvalidDefinition") rfl) (exAll_at c.more 1) (c.t.d.def_ 13 (d := dd13) rfl)
  have Z_InvalidRules : Xcl K mg "InvalidRules" i_InvalidRules ["at"] := xcl_ok X G (c.t.d.fact 14 (f := .glo "InvalidRules") rfl) (exAll_at c.more 2) (c.t.d.def_ 14 (d := dd14) rfl)
  have Z_InvalidCondition : Xcl K mg "InvalidCondition" i_InvalidCondition ["state", "at"] := xcl_ok X G (c.t.d.fact 15 (f := .glo "InvalidCondition") rfl) (exAll_at c.more 3) (c.t.d.def_ 15 (d := dd15) rfl)
  obtain ⟨fd, F⟩ := c.t.d.def_ 11 (d := dd11) rfl
  have b := FunD.bindsA (ps := ["_law_script"]) F fun _ _ _ _ _ _ us hl => match us, hl with | [_], _ => rfl
  have ml : (("law" : Str), (none : Option Str)) ∈ ([("law", none)] : List (Str × Option Str)) := List.mem_singleton.mpr rfl
  exact all_law X G (fun_he F) (fun s v => b s [v] rfl) (c.empty _ ml) (c.out _ ml) (PySem.W.codeHd_of_K X (c.hd _ ml)) B D_is_sign D_check_signature D_is_number D_is_choice D_is_condition D__law_box D__law_take D__law_any D__law_why D__law_letters D__law_words k_Judge M_Judge_init cc_Judge_MOST k_Program M_Program_init M_Program_definitions g_SMALL g_MOST_LETTERS g_MOST_SIGNS g_MOST_ARITY g_MOST_CHOICES Z_InvalidSign Z_InvalidDefinition Z_InvalidRules Z_InvalidCondition (exAll_at c.more 4) (exAll_at c.more 5) (exAll_at c.more 6) (exAll_at c.more 7)
end G48
open PySem PySem.W PySem.Calls PyProof.Rows
set_option maxRecDepth 100000 in
set_option maxHeartbeats 0 in
theorem PySem.Challenge.cw_lendbough_k07_signatures_refused_holds : PySem.Challenge.rw_lendbough_k07_signatures_refused.Holds := by
  w_on; o_law
  refine HandSHeadRun.head_any (r := OpenLaw.row PySem.Challenge.rw_lendbough_k07_signatures_refused) (q := view (OpenLaw.row PySem.Challenge.rw_lendbough_k07_signatures_refused).prog [91]) (H := G48.hkk) (ob := G48.obb) (M := 30000) (loose := G48.nms) (d := HandSHeadRun.topDef (OpenLaw.row PySem.Challenge.rw_lendbough_k07_signatures_refused).prog 91) (kwd := []) G48.obb_eq
    (by kernel_rfl) (fun s => by kernel_rfl) G48.head_run (by kernel_rfl) (by kernel_rfl) (by kernel_rfl) (by rfl) (by first | assumption | decide +kernel) (by decide +kernel) ⟨rfl, rfl, rfl, rfl, rfl, by decide +kernel⟩ ?hw ?hc
  case hw => w_witness2
  case hc =>
    refine LamX.walk_ofTsE (l := PySem.Challenge.rw_lendbough_k07_signatures_refused) (n := 63) (k := 101) (x := "_law_script") (CX := fun _ => C8.CX0) rfl (by decide) (by kernel_rfl) ⟨rfl, by decide, by decide⟩ ?F (fun _ _ _ _ _ z => z)
    intro w mg fa h Y G hmg0
    obtain ⟨K, KX, c⟩ := Y
    have hmg : mg ("law" : PySem.Str) = some (.ref fa) := by
      have e : (HandSHeadRun.topDef (OpenLaw.row PySem.Challenge.rw_lendbough_k07_signatures_refused).prog 91).name = ("law" : PySem.Str) := by kernel_rfl
      rw [← e]
      exact hmg0
    have e := hmg.symm.trans (He.glo_ok KX G (c.t.d.fact 11 (f := .glo "law") rfl))
    cases e
    exact ⟨K, KX, G48.head_facts KX G c⟩
