import PyProof.Rows.All
import Wide.All
import OpenK.AllK
import Wide.FinOn
import HandS.ForMost
import HandS.IsInst
import HandS.Zip
import HandS.TupAny
import HandS.Walk
import HandS.Conv
import HandS.Deep
import HandS.Codes
import PySem.Challenge.RW_lendbough_k01_signs_and_names
set_option Elab.async false
set_option linter.all false
set_option maxRecDepth 100000
set_option maxHeartbeats 4000000
/-! Our layer over HandS: callables by name, the persistent heap, the box. -/
namespace G48
open PySem PySem.Spec PyProof.Rows L2 SX

/-! ### callables by name -/
structure Dfn (K : PySem.W.Frag) (mg : Str → Option Value) (x : Str) (st : Stmt) : Prop where
  ex : ∃ f fd, Fun K x x st f fd ∧ mg x = some (.ref f)
structure Cal (P : Program) (w : World) (K : PySem.W.Frag) (mg : Str → Option Value) (base : Heap) (k : Nat) (x : Str) (sp : Sp) : Prop where
  ex : ∃ (f : Addr) (fd : FuncData) (ps : List Str), FnOk P w K mg base CX0 k f fd ps sp ∧ mg x = some (.ref f) ∧ PySem.W.keepIn K (.ref f) = true ∧ Binds K fd ps []
section
variable {P : Program} {w : World} {K : PySem.W.Frag} {mg : Str → Option Value} {base : Heap}
theorem cal_of {x : Str} {st : Stmt} {N ps : List Str} {k : Nat} {sp : Sp} (D : Dfn K mg x st) (S : FnScope N ps (defScope st))
    (hb : ∀ (kV doc pm : Value) (an : Option Addr) (cdv ct : Value) (us : List Value), us.length = ps.length → bindArgs (PySem.W.fnOf x x (defArgs st) (defBody st) (defScope st) .none kV doc pm an cdv ct) ⟨us, []⟩ = pure (ps.zip us))
    (len : ∀ vs H Q E, sp vs H Q E → vs.length = ps.length)
    (hbody : ∀ (f : Addr) (cdv : Value) (A : Around) (outer : List Env) (s : Shared) (H : Hp) (vs : List V) (Q : VK) (E : XK), Room k (A.deeper (envOfC x (defScope st) s.heap.objs.size f cdv)) → sp vs H Q E →
      ∃ t, PSs (cxOf CX0 P w K mg base N x (defScope st) f cdv A outer s H E).nox (defBody st) t ∧ t { nx := fun _ H' => Q .non H', rt := Q } (start N vs) H) : Cal P w K mg base (k + 1) x sp := by
  obtain ⟨f, fd, F, hm⟩ := D.ex
  exact ⟨f, fd, ps, F.ok S len (fun cdv A outer s H vs Q E hr h => hbody f cdv A outer s H vs Q E hr h), hm, F.kp, F.binds hb⟩
/-- the law itself -/
theorem okf_of {x : Str} {st : Stmt} {N ps : List Str} {k : Nat} {sp : Sp} {f : Addr} {fd : FuncData} (F : Fun K x x st f fd) (S : FnScope N ps (defScope st)) (len : ∀ vs H Q E, sp vs H Q E → vs.length = ps.length)
    (hbody : ∀ (cdv : Value) (A : Around) (outer : List Env) (s : Shared) (H : Hp) (vs : List V) (Q : VK) (E : XK), Room k (A.deeper (envOfC x (defScope st) s.heap.objs.size f cdv)) → sp vs H Q E →
      ∃ t, PSs (cxOf CX0 P w K mg base N x (defScope st) f cdv A outer s H E).nox (defBody st) t ∧ t { nx := fun _ H' => Q .non H', rt := Q } (start N vs) H) : FnOk P w K mg base CX0 (k + 1) f fd ps sp :=
  F.ok S len hbody
theorem dfn_mk {x : Str} {st : Stmt} {h : Heap} {f : Addr} {oc : Value} {od an : Option Addr} {osl : Array (Option Value)} {kV doc pm cdv ct : Value} (X : K.In h) (G : h.Ns mainGlobals mg) (a : PySem.W.nsIn K mainGlobals x = some (some (.ref f)))
    (l : K.lookup f = some ⟨oc, od, .func (PySem.W.fnOf x x (defArgs st) (defBody st) (defScope st) .none kV doc pm an cdv ct), osl⟩) (c : PySem.W.codeIn K cdv x = true) (k : PySem.W.keepIn K (.ref f) = true) : Dfn K mg x st :=
  ⟨f, _, fun_mk l c k, PySem.W.mg_of X G a⟩
/-- a def that calls itself: at level 0 nothing can be asked -/
theorem cal_zero {x : Str} {st : Stmt} {ps : List Str} {sp : Sp} (D : Dfn K mg x st)
    (hb : ∀ (kV doc pm : Value) (an : Option Addr) (cdv ct : Value) (us : List Value), us.length = ps.length → bindArgs (PySem.W.fnOf x x (defArgs st) (defBody st) (defScope st) .none kV doc pm an cdv ct) ⟨us, []⟩ = pure (ps.zip us))
    (no : ∀ vs H Q E, ¬ sp vs H Q E) : Cal P w K mg base 0 x sp := by
  obtain ⟨f, fd, F, hm⟩ := D.ex
  exact ⟨f, fd, ps, ⟨fun vs H Q E h => absurd h (no vs H Q E), fun A outer s H args us vs Q E _ _ _ _ h => absurd h (no vs H Q E)⟩, hm, F.kp, F.binds hb⟩
theorem Cal.mono {x : Str} {j k : Nat} {sp : Sp} (c : Cal P w K mg base j x sp) (h : j ≤ k) : Cal P w K mg base k x sp := by
  obtain ⟨f, fd, ps, F, r⟩ := c.ex
  exact ⟨f, fd, ps, F.mono h, r⟩
theorem Cal.imp {x : Str} {k : Nat} {sp sp' : Sp} (c : Cal P w K mg base k x sp) (h : ∀ vs H Q E, sp' vs H Q E → sp vs H Q E) : Cal P w K mg base k x sp' := by
  obtain ⟨f, fd, ps, F, r⟩ := c.ex
  exact ⟨f, fd, ps, F.imp h, r⟩
end
section
variable {X : Cx} {k j : Nat} {x : Str} {sp : Sp} {p pos : Pos} {e : Expr} {es : List Expr} {t : TA}
theorem pe_cc (c : Cal X.prog X.w X.K X.mg X.base k x sp) (hr : Room j X.A) (hk : k ≤ j) (hg : Gl X x) (ha : PA X (e :: es) t)
    (hdb : (x == ("__debug__" : Str)) = false := by decide) (he : starEach (e :: es) X.env = (false, eval e X.env) :: starEach es X.env := by rfl) (hpl : (backTo pos (starEach es X.env)).any (·.1) = false := by rfl) :
    PE X (.Call (.Name x p) (e :: es) [] pos) (tCall sp [] E0 t) := by
  obtain ⟨f, fd, ps, F, hm, kp, b⟩ := c.ex
  exact pe_call F (hr.mono hk) hg hm kp b .nil pass0 ha hdb he hpl
/-- a module's constant -/
def Gv (mg : Str → Option Value) (x : Str) (v : V) : Prop := ∃ u, mg x = some u ∧ RelV v u
theorem pe_gv {x : Str} {pos : Pos} {v : V} (hg : Gl X x) (h : Gv X.mg x v) (hdb : (x == ("__debug__" : Str)) = false := by decide) : PE X (.Name x pos) (tC v) := by
  obtain ⟨u, hm, r⟩ := h
  exact pe_glob hg hm r hdb
end
/-- the built-ins' names are free -/
structure Bt (mg : Str → Option Value) : Prop where
  len : mg "len" = none
  int : mg "int" = none
  str : mg "str" = none
  bool : mg "bool" = none
  tuple : mg "tuple" = none
  list : mg "list" = none
  all : mg "all" = none
  any : mg "any" = none
  isinstance : mg "isinstance" = none
  range : mg "range" = none
  zip : mg "zip" = none
  enumerate : mg "enumerate" = none
  sum : mg "sum" = none
  max : mg "max" = none
  min : mg "min" = none
  sorted : mg "sorted" = none

/-! ### heaps: a persistent part -/
theorem same_new {H : Hp} {p : Addr} {o : HO} (h : H p = none) : Same H (upd H p o) := fun b u q => by rw [upd_ne (ne_of_none q h)]; exact q
theorem same_t {K : PySem.W.Frag} {H H' : Hp} {a : Addr} {xs : List V} (e : Same H H') (h : SqT K H a xs) : SqT K H' a xs := by
  rcases h with (h | ⟨o, h⟩) | h
  · exact .inl (.inl (e _ _ h))
  · exact .inl (.inr ⟨o, e _ _ h⟩)
  · exact .inr h
theorem upd_mono {S H : Hp} {p : Addr} {o : HO} (h : Same S H) : Same (upd S p o) (upd H p o) := fun b u q => by
  by_cases e : b = p
  · subst e
    rw [upd_same] at q ⊢
    exact q
  · rw [upd_ne e] at q ⊢
    exact h _ _ q
structure Gr (M : List Addr) (S H S' H' : Hp) : Prop where
  ss : Same S S'
  kp : ∀ a o, a ∉ M → H a = some o → H' a = some o
  nw : ∀ a, H a ≠ none → S a = none → S' a = none
  tr : ∀ a, H a ≠ none → H' a ≠ none
theorem Gr.refl (M : List Addr) (S H : Hp) : Gr M S H S H := ⟨Same.refl _, fun _ _ _ h => h, fun _ _ h => h, fun _ h => h⟩
theorem Gr.trans {M : List Addr} {S H S1 H1 S2 H2 : Hp} (a : Gr M S H S1 H1) (b : Gr M S1 H1 S2 H2) : Gr M S H S2 H2 :=
  ⟨a.ss.trans b.ss, fun x o m h => b.kp x o m (a.kp x o m h), fun x h s => b.nw x (a.tr x h) (a.nw x h s), fun x h => b.tr x (a.tr x h)⟩
theorem some_ne {H : Hp} {a : Addr} {o : HO} (h : H a = some o) : H a ≠ none := by rw [h]; exact fun z => nomatch z
theorem ne_nn {H : Hp} {a p : Addr} (e : H a ≠ none) (h : H p = none) : a ≠ p := by
  intro z
  subst z
  exact e h
theorem Gr.of_same {M : List Addr} {S H H' : Hp} (h : Same H H') : Gr M S H S H' :=
  ⟨Same.refl _, fun a o _ e => h a o e, fun _ _ e => e, fun a e => by
    cases q : H a with
    | none => exact absurd q e
    | some o => exact some_ne (h a o q)⟩
theorem Gr.sub {M M' : List Addr} {S H S' H' : Hp} (g : Gr M S H S' H') (h : ∀ a ∈ M, a ∈ M') : Gr M' S H S' H' := ⟨g.ss, fun a o m e => g.kp a o (fun z => m (h a z)) e, g.nw, g.tr⟩
theorem Gr.same {S H S' H' : Hp} (g : Gr [] S H S' H') : Same H H' := fun a o e => g.kp a o (fun z => nomatch z) e
/-- a new object, known to last | not -/
theorem Gr.new {M : List Addr} {S0 H0 S H : Hp} {p : Addr} {o : HO} (g : Gr M S0 H0 S H) (sh : Same S H) (h : H p = none) : Gr M S0 H0 (upd S p o) (upd H p o) := by
  have hs : S p = none := sh.free h
  refine g.trans ⟨same_new hs, fun a u _ e => same_new h a u e, fun a e s => ?_, fun a e => ?_⟩
  · rw [upd_ne (ne_nn e h)]
    exact s
  · by_cases z : a = p
    · subst z
      rw [upd_same]
      exact fun z => nomatch z
    · rw [upd_ne z]
      exact e
theorem Gr.chg {M : List Addr} {S0 H0 S H : Hp} {p : Addr} {o : HO} (g : Gr M S0 H0 S H) (h : H0 p = none) : Gr M S0 H0 S (upd H p o) := by
  refine ⟨g.ss, fun a u m e => ?_, g.nw, fun a e => ?_⟩
  · rw [upd_ne (ne_of_none e h)]
    exact g.kp a u m e
  · rw [upd_ne (ne_nn e h)]
    exact g.tr a e
/-- a list of one's own is left as it is from now on -/
theorem Gr.keep {M : List Addr} {S0 H0 S H : Hp} {p : Addr} {o : HO} (g : Gr M S0 H0 S H) (h : H0 p = none) (hs : S p = none) : Gr M S0 H0 (upd S p o) H :=
  ⟨g.ss.trans (same_new hs), g.kp, fun a e s => by
    rw [upd_ne (ne_nn e h)]
    exact g.nw a e s, g.tr⟩
theorem Gr.fromNew {M : List Addr} {S H S' H' : Hp} {p : Addr} {o : HO} (h : H p = none) (g : Gr M S (upd H p o) S' H') : Gr M S H S' H' := ((Gr.refl M S H).chg h).trans g
theorem Gr.back {M : List Addr} {S H S' H' : Hp} {p : Addr} (g : Gr M S H S' H') (h : H' p = none) : H p = none := by
  cases q : H p with
  | none => rfl
  | some o => exact absurd h (g.tr p (some_ne q))

/-- a world: what is kept of the persistent part S and the heap H; M: what may be changed by whoever is called -/
structure Wld (M : List Addr) (Wr : Hp → Hp → Prop) : Prop where
  sh : ∀ {S H : Hp}, Wr S H → Same S H
  nm : ∀ {S H : Hp}, Wr S H → ∀ m ∈ M, S m = none ∧ H m ≠ none
  gr : ∀ {S H S' H' : Hp}, Wr S H → Gr [] S H S' H' → Same S' H' → Wr S' H'
  chg : ∀ {S H : Hp} {p : Addr} {o : HO}, Wr S H → S p = none → p ∉ M → Wr S (upd H p o)
  keep : ∀ {S H : Hp} {p : Addr} {o : HO}, Wr S H → S p = none → p ∉ M → H p = some o → Wr (upd S p o) H
section
variable {M : List Addr} {Wr : Hp → Hp → Prop} {S H S' H' S0 H0 : Hp} {p : Addr} {o : HO}
theorem Wld.same (A : Wld M Wr) (W : Wr S H) (h : Same H H') : Wr S H' := A.gr W (Gr.of_same h) ((A.sh W).trans h)
theorem Wld.new (A : Wld M Wr) (W : Wr S H) (h : H p = none) : Wr (upd S p o) (upd H p o) :=
  A.gr W ((Gr.refl [] S H).new (A.sh W) h) (upd_mono (A.sh W))
theorem Wld.fresh (A : Wld M Wr) (W : Wr S H) (h : H p = none) : p ∉ M := fun z => (A.nm W p z).2 h
theorem Wld.out (A : Wld M Wr) (W : Wr S H) (h : S p = some o) : p ∉ M := fun z => by rw [(A.nm W p z).1] at h; cases h
theorem keep_same (sh : Same S H) (e : H p = some o) : Same (upd S p o) H := fun a u z => by
  by_cases y : a = p
  · subst y
    rw [upd_same] at z
    rw [e]
    exact z
  · rw [upd_ne y] at z
    exact sh a u z
theorem mut_same (sh : Same S H) (h : S p = none) : Same S (upd H p o) := fun a u e => by
  rw [upd_ne (ne_of_none e h)]
  exact sh a u e
/-- nothing may be changed -/
theorem pureW : Wld [] Same where
  sh := fun h => h
  nm := fun _ m z => nomatch z
  gr := fun _ _ h => h
  chg := fun sh h _ => mut_same sh h
  keep := fun sh _ _ e => keep_same sh e
end
/-! ### the box of a law -/
structure Wd (b : Addr) (S H : Hp) : Prop where
  sh : Same S H
  nb : S b = none
  bx : ∃ (p : Addr) (ns : List Int) (i c m : Int), H b = some (.lst [.ref p, .int i, .int c, .int m]) ∧ S p = some (.lst (ns.map V.int)) ∧ ns.length ≤ 63 ∧ 0 ≤ i ∧ 0 ≤ c ∧ 0 ≤ m ∧ m < 2147483647
theorem Wd.bs {b : Addr} {S H : Hp} (W : Wd b S H) : H b ≠ none := by
  obtain ⟨p, ns, i, c, m, h, _⟩ := W.bx
  exact some_ne h
theorem boxW (b : Addr) : Wld [b] (Wd b) where
  sh := fun W => W.sh
  nm := fun W m z => by
    obtain rfl : m = b := by simpa using z
    exact ⟨W.nb, W.bs⟩
  gr := fun W g sh => by
    obtain ⟨q, ns, i, c, m, eb, hp, r⟩ := W.bx
    exact ⟨sh, g.nw b W.bs W.nb, q, ns, i, c, m, g.same _ _ eb, g.ss _ _ hp, r⟩
  chg := fun {S H p o} W h hb => by
    obtain ⟨q, ns, i, c, m, eb, hp, r⟩ := W.bx
    refine ⟨mut_same W.sh h, W.nb, q, ns, i, c, m, ?_, hp, r⟩
    rw [upd_ne (fun z => hb (by rw [z]; exact List.mem_singleton.mpr rfl))]
    exact eb
  keep := fun {S H p o} W h hb e => by
    obtain ⟨q, ns, i, c, m, eb, hp, r⟩ := W.bx
    refine ⟨keep_same W.sh e, ?_, q, ns, i, c, m, eb, same_new h _ _ hp, r⟩
    rw [upd_ne (fun z => hb (by rw [z]; exact List.mem_singleton.mpr rfl))]
    exact W.nb

theorem iteNN {c A B : Prop} [Decidable c] (hc : ¬ c) (h : B) : if (decide c) = true then A else B := by
  rw [decide_eq_false hc]
  exact iteF h
theorem map_take_succ {α β : Type} {l : List α} {f : α → β} {i : Nat} {c : α} (h : l[i]? = some c) : (l.take (i + 1)).map f = (l.take i).map f ++ [f c] := by
  rw [List.take_add_one, h, List.map_append]
  rfl
theorem dT {p : Prop} [Decidable p] (h : decide p = true) : p := of_decide_eq_true h
theorem dF {p : Prop} [Decidable p] (h : ¬ decide p = true) : ¬ p := of_decide_eq_false (Bool.eq_false_iff.mpr h)
theorem Gr.sqL {K : PySem.W.Frag} {M : List Addr} {S H S' H' : Hp} {a : Addr} {xs : List V} (g : Gr M S H S' H') (n : a ∉ M) (h : SqL K H a xs) : SqL K H' a xs := by
  rcases h with (h | ⟨o, h⟩) | h
  · exact .inl (.inl (g.kp _ _ n h))
  · exact .inl (.inr ⟨o, g.kp _ _ n h⟩)
  · exact .inr h
theorem walk_zipT {K : PySem.W.Frag} {a b : Addr} {xs ys : List V} {n : Nat} (hn : n = min xs.length ys.length) : Walk (RZ.ItzT K a b) n (fun H => SqT K H a xs ∧ SqT K H b ys) (YPair (fun i => xs[i]?) (fun i => ys[i]?)) := by
  subst hn
  refine ⟨fun i _ hi q => ?_, fun _ q => ⟨xs, ys, q.1, q.2, by omega⟩, fun i H v H' _ q y => ?_⟩
  · have h1 : i < xs.length := by omega
    have h2 : i < ys.length := by omega
    exact ⟨xs, ys, xs[i], ys[i], q.1, q.2, by simp [h1], by simp [h2]⟩
  · obtain ⟨T, x, z, h1, h2, h3, h4, h5⟩ := y
    exact ⟨T, x, z, h1, h2, h3, h4 xs q.1, h5 ys q.2⟩
theorem sz (n : Nat) (h : n ≤ 100000) : n ≤ sizeLine := Nat.le_trans h (by decide)
theorem szl (n : Nat) (h : n ≤ 100000) : n < sizeLine := Nat.lt_of_le_of_lt h (by decide)

/-! ### comprehensions in a world -/
def Lc (M : List Addr) (Wr : Hp → Hp → Prop) (S H : Hp) (D : Addr) (I : Nat → List V → Hp → Prop) (i : Nat) (H' : Hp) : Prop :=
  ∃ S' acc, Gr M S H S' H' ∧ Wr S' H' ∧ S' D = none ∧ H' D = some (.lst acc) ∧ acc.length ≤ i ∧ I i acc S'
section
variable {M : List Addr} {Wr : Hp → Hp → Prop} {S H S1 H1 S4 H4 : Hp} {D : Addr} {I : Nat → List V → Hp → Prop} {i : Nat} {acc : List V} {y : V}
theorem lc_start (A : Wld M Wr) (W : Wr S H) (hD : H D = none) (h0 : I 0 [] S) : Lc M Wr S H D I 0 (upd H D (.lst [])) :=
  ⟨S, [], (Gr.refl M S H).chg hD, A.chg W ((A.sh W).free hD) (A.fresh W hD), (A.sh W).free hD, upd_same, Nat.le_refl _, h0⟩
theorem lc_put (A : Wld M Wr) (W : Wr S H) (hD : H D = none) (g1 : Gr M S H S1 H1) (s1 : S1 D = none) (e1 : H1 D = some (.lst acc)) (l1 : acc.length ≤ i) (hi : i ≤ 100000) (g : Gr M S1 H1 S4 H4) (W4 : Wr S4 H4) (h : I (i + 1) (acc ++ [y]) S4) :
    ∃ a, H4 D = some (.lst a) ∧ a.length < sizeLine ∧ Lc M Wr S H D I (i + 1) (upd H4 D (.lst (a ++ [y]))) := by
  have nM := A.fresh W hD
  have s4 : S4 D = none := g.nw D (some_ne e1) s1
  refine ⟨acc, g.kp D _ nM e1, szl _ (by omega), S4, acc ++ [y], (g1.trans g).chg hD, A.chg W4 s4 nM, s4, upd_same, ?_, h⟩
  rw [List.length_append]
  show acc.length + 1 ≤ i + 1
  omega
theorem lc_skip (A : Wld M Wr) (W : Wr S H) (hD : H D = none) (g1 : Gr M S H S1 H1) (s1 : S1 D = none) (e1 : H1 D = some (.lst acc)) (l1 : acc.length ≤ i) (g : Gr M S1 H1 S4 H4) (W4 : Wr S4 H4) (h : I (i + 1) acc S4) : Lc M Wr S H D I (i + 1) H4 :=
  ⟨S4, acc, g1.trans g, W4, g.nw D (some_ne e1) s1, g.kp D _ (A.fresh W hD) e1, by omega, h⟩
end

/-- what a turn of a comprehension may end with -/
def Put (M : List Addr) (Wr : Hp → Hp → Prop) (S H : Hp) (D : Addr) (I : Nat → List V → Hp → Prop) (i : Nat) (y : V) (H4 : Hp) : Prop :=
  ∃ a, H4 D = some (.lst a) ∧ a.length < sizeLine ∧ Lc M Wr S H D I (i + 1) (upd H4 D (.lst (a ++ [y])))
theorem lcw {M : List Addr} {Wr : Hp → Hp → Prop} {S H : Hp} {D : Addr} {J : It} {n : Nat} {G : Hp → Prop} {Y : Nat → Hp → V → Hp → Prop} {g : TG} {tt : TT} {te : TE} {vs : List Nat} {σ : L2.St} {Qd : Hp → Prop}
    (A : Wld M Wr) (W : Wr S H) (hD : H D = none) (w : Walk J n G Y) (I : Nat → List V → Hp → Prop) (h0 : I 0 [] S) (hn : n ≤ 100000) (hG : ∀ S' H', Gr M S H S' H' → Wr S' H' → G H')
    (hs : ∀ (i : Nat) (x : V) (S1 H1 H1' : Hp) (acc : List V), i < n → Gr M S H S1 H1 → Wr S1 H1 → S1 D = none → H1 D = some (.lst acc) → I i acc S1 → Y i H1 x H1' →
      (∀ {S4 H4 : Hp} {y : V}, Gr M S1 H1 S4 H4 → Wr S4 H4 → I (i + 1) (acc ++ [y]) S4 → Put M Wr S H D I i y H4) →
      (∀ {S4 H4 : Hp}, Gr M S1 H1 S4 H4 → Wr S4 H4 → I (i + 1) acc S4 → Lc M Wr S H D I (i + 1) H4) →
      g x (wipe σ vs) H1' fun σ2 H2 => wipe σ2 vs = wipe σ vs ∧ tt σ2 H2 fun b H3 => if b = true then te σ2 H3 fun y H4 => Put M Wr S H D I i y H4 else Lc M Wr S H D I (i + 1) H3)
    (hd : ∀ (S' H' : Hp) (acc : List V), Gr M S H S' H' → Wr S' H' → S' D = none → H' D = some (.lst acc) → acc.length ≤ n → I n acc S' → Qd H') :
    ∃ W : Nat → Nat → Hp → Prop, (∃ m, W 0 m (upd H D (.lst []))) ∧ ∀ i m H, W i m H →
      (J.stop i H ∧ Qd H) ∨ (J.go i H ∧ ∃ Nx : Hp → Prop, (∀ H', Nx H' → ∃ m', m' < m ∧ W (i + 1) m' H') ∧ ∀ x H', J.yld i H x H' → g x (wipe σ vs) H' fun σ2 H2 => wipe σ2 vs = wipe σ vs ∧ tt σ2 H2 fun b H3 =>
        if b = true then te σ2 H3 fun y H4 => ∃ acc, H4 D = some (.lst acc) ∧ acc.length < sizeLine ∧ Nx (upd H4 D (.lst (acc ++ [y]))) else Nx H3) :=
  lc_it w (Lc M Wr S H D I) (lc_start A W hD h0) (fun i H' _ hp => by
      obtain ⟨S1, acc, g1, W1, _⟩ := hp
      exact hG S1 H' g1 W1)
    (fun i x H1 H1' hi hp hy => by
      obtain ⟨S1, acc, g1, W1, s1, e1, l1, h1⟩ := hp
      exact hs i x S1 H1 H1' acc hi g1 W1 s1 e1 h1 hy (fun g W4 h => lc_put A W hD g1 s1 e1 l1 (by omega) g W4 h) (fun g W4 h => lc_skip A W hD g1 s1 e1 l1 g W4 h))
    (fun H1 hp => by
      obtain ⟨S1, acc, g1, W1, s1, e1, l1, h1⟩ := hp
      exact hd S1 H1 acc g1 W1 s1 e1 l1 h1)

/-- a for loop in a world -/
def Fw (M : List Addr) (Wr : Hp → Hp → Prop) (S H : Hp) (I : Nat → L2.St → Hp → Hp → Prop) (i : Nat) (σ : L2.St) (H' : Hp) : Prop := ∃ S', Gr M S H S' H' ∧ Wr S' H' ∧ I i σ S' H'
theorem forw {M : List Addr} {Wr : Hp → Hp → Prop} {S H : Hp} {J : It} {n : Nat} {G : Hp → Prop} {Y : Nat → Hp → V → Hp → Prop} {g : TG} {tb : TS} {D : Ends} {σ : L2.St}
    (W : Wr S H) (w : Walk J n G Y) (I : Nat → L2.St → Hp → Hp → Prop) (h0 : I 0 σ S H) (hG : ∀ S' H' i σ', Gr M S H S' H' → Wr S' H' → I i σ' S' H' → G H')
    (hs : ∀ (i : Nat) (x : V) (σ' : L2.St) (S1 H1 H1' : Hp), i < n → Gr M S H S1 H1 → Wr S1 H1 → I i σ' S1 H1 → Y i H1 x H1' →
      g x σ' H1' fun σ2 H2 => tb { D with nx := Fw M Wr S H I (i + 1), ct := Fw M Wr S H I (i + 1), bk := D.nx } σ2 H2)
    (hd : ∀ (σ' : L2.St) (S' H' : Hp), Gr M S H S' H' → Wr S' H' → I n σ' S' H' → D.nx σ' H') :
    ∃ W : Nat → Nat → L2.St → Hp → Prop, (∃ m, W 0 m σ H) ∧ ∀ i m σ H, W i m σ H →
      (J.stop i H ∧ D.nx σ H) ∨ (J.go i H ∧ ∃ N : L2.St → Hp → Prop, (∀ σ' H', N σ' H' → ∃ m', m' < m ∧ W (i + 1) m' σ' H') ∧ ∀ x H', J.yld i H x H' → g x σ H' fun σ2 H2 => tb { D with nx := N, ct := N, bk := D.nx } σ2 H2) :=
  for_it w (Fw M Wr S H I) ⟨S, Gr.refl _ _ _, W, h0⟩ (fun i σ' H' _ hp => by
      obtain ⟨S1, g1, W1, h1⟩ := hp
      exact hG S1 H' i σ' g1 W1 h1)
    (fun i x σ' H1 H1' hi hp hy => by
      obtain ⟨S1, g1, W1, h1⟩ := hp
      exact hs i x σ' S1 H1 H1' hi g1 W1 h1 hy)
    (fun σ' H' hp => by
      obtain ⟨S1, g1, W1, h1⟩ := hp
      exact hd σ' S1 H' g1 W1 h1)

/-! ### data in the persistent part -/
mutual
inductive Rp (S : Hp) : V → PyData → Prop
  | non : Rp S .non .none
  | bl (b : Bool) : Rp S (.bl b) (.bool b)
  | int (i : Int) : Rp S (.int i) (.int i)
  | str (x : Str) : Rp S (.str x) (.str x)
  | lst {a : Addr} {xs : List V} {ds : List PyData} : S a = some (.lst xs) → RpL S xs ds → Rp S (.ref a) (.list ds)
  | tup {a : Addr} {xs : List V} {ds : List PyData} : S a = some (.tup xs) → RpL S xs ds → Rp S (.ref a) (.tuple ds)
inductive RpL (S : Hp) : List V → List PyData → Prop
  | nil : RpL S [] []
  | cons {v : V} {vs : List V} {d : PyData} {ds : List PyData} : Rp S v d → RpL S vs ds → RpL S (v :: vs) (d :: ds)
end
mutual
theorem Rp.mono {S S' : Hp} (e : Same S S') : ∀ (d : PyData) (v : V), Rp S v d → Rp S' v d
  | .none, _, h => by cases h; exact .non
  | .bool b, _, h => by cases h; exact .bl b
  | .int i, _, h => by cases h; exact .int i
  | .str x, _, h => by cases h; exact .str x
  | .list ds, _, h => by
    cases h with
    | lst h1 h2 => exact .lst (e _ _ h1) (RpL.mono e ds _ h2)
  | .tuple ds, _, h => by
    cases h with
    | tup h1 h2 => exact .tup (e _ _ h1) (RpL.mono e ds _ h2)
  | .dict _, _, h => by cases h
theorem RpL.mono {S S' : Hp} (e : Same S S') : ∀ (ds : List PyData) (vs : List V), RpL S vs ds → RpL S' vs ds
  | [], _, h => by cases h; exact .nil
  | d :: ds, _, h => by
    cases h with
    | cons h1 h2 => exact .cons (Rp.mono e d _ h1) (RpL.mono e ds _ h2)
end
mutual
theorem Rp.dp {K : PySem.W.Frag} {S : Hp} : ∀ (d : PyData) (v : V), Rp S v d → Dp K S v d
  | .none, _, h => by cases h; exact .non
  | .bool b, _, h => by cases h; exact .bl b
  | .int i, _, h => by cases h; exact .int i
  | .str x, _, h => by cases h; exact .str x
  | .list ds, _, h => by
    cases h with
    | lst h1 h2 => exact .lst (SqL.of h1) (RpL.dp ds _ h2)
  | .tuple ds, _, h => by
    cases h with
    | tup h1 h2 => exact .tup (SqT.of h1) (RpL.dp ds _ h2)
  | .dict _, _, h => by cases h
theorem RpL.dp {K : PySem.W.Frag} {S : Hp} : ∀ (ds : List PyData) (vs : List V), RpL S vs ds → DpAll K S vs ds
  | [], _, h => by cases h; exact .nil
  | d :: ds, _, h => by
    cases h with
    | cons h1 h2 => exact .cons (Rp.dp d _ h1) (RpL.dp ds _ h2)
end
theorem RpL.len {S : Hp} : ∀ {ds : List PyData} {vs : List V}, RpL S vs ds → vs.length = ds.length
  | [], _, h => by cases h; rfl
  | d :: ds, _, h => by
    cases h with
    | cons h1 h2 => exact congrArg (· + 1) (RpL.len h2)
theorem RpL.get {S : Hp} : ∀ {ds : List PyData} {vs : List V} {i : Nat} {v : V}, RpL S vs ds → vs[i]? = some v → ∃ d, ds[i]? = some d ∧ Rp S v d
  | [], _, i, v, h, e => by cases h; simp at e
  | d :: ds, _, 0, v, h, e => by
    cases h with
    | cons h1 h2 =>
      have e' := Option.some.inj e
      subst e'
      exact ⟨d, rfl, h1⟩
  | d :: ds, _, i + 1, v, h, e => by
    cases h with
    | cons h1 h2 => exact RpL.get (i := i) h2 e
theorem RpL.getD {S : Hp} : ∀ {ds : List PyData} {vs : List V} {i : Nat} {d : PyData}, RpL S vs ds → ds[i]? = some d → ∃ v, vs[i]? = some v ∧ Rp S v d
  | [], _, i, v, h, e => by simp at e
  | d :: ds, _, 0, v, h, e => by
    cases h with
    | cons h1 h2 =>
      have e' := Option.some.inj e
      subst e'
      exact ⟨_, rfl, h1⟩
  | d :: ds, _, i + 1, v, h, e => by
    cases h with
    | cons h1 h2 => exact RpL.getD (i := i) h2 e
theorem RpL.snoc {S : Hp} {v : V} {d : PyData} (h : Rp S v d) : ∀ {ds : List PyData} {vs : List V}, RpL S vs ds → RpL S (vs ++ [v]) (ds ++ [d])
  | [], _, q => by cases q; exact .cons h .nil
  | e :: ds, _, q => by
    cases q with
    | cons h1 h2 => exact .cons h1 (RpL.snoc h h2)
mutual
def dep : PyData → Nat
  | .list ds => depL ds + 1
  | .tuple ds => depL ds + 1
  | _ => 0
def depL : List PyData → Nat
  | [] => 0
  | d :: ds => max (dep d) (depL ds)
end
mutual
/-- data of depth at most n, its lists short -/
def fits : PyData → Nat → Bool
  | .list ds, n => decide (1 ≤ n) && decide (ds.length ≤ 10000) && fitsL ds (n - 1)
  | .tuple ds, n => decide (1 ≤ n) && decide (ds.length ≤ 10000) && fitsL ds (n - 1)
  | .dict _, _ => false
  | _, _ => true
def fitsL : List PyData → Nat → Bool
  | [], _ => true
  | d :: ds, n => fits d n && fitsL ds n
end
theorem fitsL_get : ∀ {ds : List PyData} {n i : Nat} {d : PyData}, fitsL ds n = true → ds[i]? = some d → fits d n = true
  | [], n, i, d, _, h => by simp at h
  | e :: ds, n, 0, d, f, h => by
    have := Option.some.inj h
    subst this
    unfold fitsL at f
    exact (Bool.and_eq_true_iff.mp f).1
  | e :: ds, n, i + 1, d, f, h => by
    unfold fitsL at f
    exact fitsL_get (i := i) (Bool.and_eq_true_iff.mp f).2 h
theorem depL_get : ∀ {ds : List PyData} {i : Nat} {d : PyData}, ds[i]? = some d → dep d ≤ depL ds
  | [], i, d, h => by simp at h
  | e :: ds, 0, d, h => by
    have := Option.some.inj h
    subst this
    unfold depL
    exact Nat.le_max_left _ _
  | e :: ds, i + 1, d, h => by
    unfold depL
    exact Nat.le_trans (depL_get (i := i) h) (Nat.le_max_right _ _)
def sp_law (K : PySem.W.Frag) : Sp := fun vs H Q _ => ∃ (a : Addr) (ns : List Int), vs = [.ref a] ∧ SqL K H a (ns.map V.int) ∧ ns.length ≤ 63 ∧ ∀ H', Q (.bl true) H'
end G48

namespace G48
open PySem PySem.Spec PyProof.Rows L2 SX
def topS (i : Nat) : Stmt := PySem.Challenge.pw_lendbough_k01_signs_and_names.main.body.getD i (.Pass ⟨0, 0, 0, 0⟩)
--USES
abbrev s_is_sign : Stmt := topS 4
abbrev N_is_sign : List Str := ["text", "letter"]
theorem sc_is_sign : FnScope N_is_sign ["text"] (defScope s_is_sign) := ⟨rfl, rfl, rfl, by decide +kernel, rfl, by decide +kernel, by decide +kernel⟩

abbrev SMALL : Str := "abcdefghijklmnopqrstuvwxyz"
abbrev LARGE : Str := "ABCDEFGHIJKLMNOPQRSTUVWXYZ"
def lows : List Nat := SMALL.cps.toList
def caps : List Nat := LARGE.cps.toList
def isLow (c : Nat) : Bool := decide (c ∈ lows)
def isCap (c : Nat) : Bool := decide (c ∈ caps)
def isSign (z : List Nat) : Bool := decide (1 ≤ z.length ∧ z.length ≤ 6) && z.all isLow
theorem isSign_yes {l : List Nat} (h1 : 1 ≤ l.length) (h2 : l.length ≤ 6) : isSign l = l.all isLow := by
  unfold isSign
  rw [decide_eq_true (And.intro h1 h2)]
  rfl
theorem isSign_no {l : List Nat} (h : ¬ (1 ≤ l.length ∧ l.length ≤ 6)) : isSign l = false := by
  unfold isSign
  rw [decide_eq_false h]
  rfl
def sp_is_sign : Sp := fun vs H Q _ => ∃ l : List Nat, vs = [.str (S l)] ∧ l.length ≤ 1000 ∧ ∀ H', Same H H' → Q (.bl (isSign l)) H'
section
variable {P : Program} {w : World} {K : PySem.W.Frag} {mg : Str → Option Value} {base : Heap}
theorem cal_is_sign (F : Dfn K mg "is_sign" s_is_sign) (B : Bt mg) (g_SMALL : Gv mg "SMALL" (.str SMALL)) (g_MOST_LETTERS : Gv mg "MOST_LETTERS" (.int 6)) : Cal P w K mg base 1 "is_sign" sp_is_sign := by
  refine cal_of F sc_is_sign (fun _ _ _ _ _ _ us hl => match us, hl with | [_], _ => rfl) (fun vs H Q E h => ?_) (fun f cdv A outer s H vs Q E hr h => ?_)
  · obtain ⟨z, rfl, _⟩ := h
    rfl
  obtain ⟨l, rfl, hz, q⟩ := h
  refine ⟨_, (pss_one (ps_ret (pe_and (pe_chain op_le op_le pe_int (pe_callB call_len_str (by rfl) B.len PySem.boot_len (pa_cons (pv 0) pa_nil)) (pe_gv rfl g_MOST_LETTERS)) (pe_one (pe_callB (cr_all rfl) (by rfl) B.all (by decide +kernel) (pa_cons (pe_lc (own := [("letter", 1)]) (g := gName 1) (tt := tYes) rfl sc_is_sign.nd (pi_str (pv 0)) (blkOk_by (own := [("letter", 1)]) (N := N_is_sign) (sc := defScope s_is_sign) (by decide +kernel)) (fun _ _ _ _ _ => (pg_name (i := 1) sc_is_sign.nd rfl (by first | exact .inl rfl | exact .inr rfl))) (fun _ _ _ _ _ => pts_nil) (fun _ _ _ _ _ => (pe_cmpR op_in_sign (pv 1) (pe_gv rfl g_SMALL) (by rfl)))) pa_nil)))))), ?_⟩
  have hl := S_len l
  refine ⟨_, rfl, S l, rfl, sz _ (by omega), _, _, rfl, rfl, _, rfl, ite2 (fun c1 => ?_) (fun c1 => ?_)⟩
  · have c1' : (1 : Int) ≤ (S l).length := dT c1
    refine ⟨_, _, rfl, rfl, _, rfl, ite2 (fun c2 => ?_) (fun c2 => ?_)⟩
    · have c2' : ((S l).length : Int) ≤ 6 := dT c2
      refine ⟨_, rfl, S l, rfl, fun D hD => ?_⟩
      refine lcw pureW (Same.refl H) hD walk_str (fun i acc _ => acc = (l.take i).map fun c => V.bl (isLow c)) rfl (show l.length ≤ 100000 by omega) (fun _ _ _ _ => trivial)
        (fun i x S1 H1 H1' acc hi g1 W1 s1 e1 hI hy put skip => ?_) (fun S1 H1 acc g1 W1 s1 e1 l1 hI => ?_)
      · obtain ⟨rfl, c, hc, rfl⟩ := hy
        refine ⟨rfl, ?_⟩
        refine ⟨_, rfl, c, SMALL, rfl, rfl, ?_⟩
        refine put (Gr.refl _ _ _) W1 ?_
        rw [map_take_succ (show l[i]? = some c by rw [← hc]; simp), hI]
        rfl
      · refine ⟨D, l.map isLow, rfl, SqL.of ?_, ?_⟩
        · rw [e1, hI, List.take_of_length_le (by simp), List.map_map]
          rfl
        · rw [List.all_map, show (id ∘ isLow) = isLow from rfl, ← isSign_yes (l := l) (by omega) (by omega)]
          exact q _ g1.same
    · have c2' : ¬ ((S l).length : Int) ≤ 6 := dF c2
      rw [isSign_no (by omega)] at q
      exact q _ (Same.refl _)
  · have c1' : ¬ (1 : Int) ≤ (S l).length := dF c1
    rw [isSign_no (by omega)] at q
    exact ⟨_, rfl, iteF (q _ (Same.refl _))⟩
end

--USES is_sign
abbrev s_is_name : Stmt := topS 5
abbrev N_is_name : List Str := ["text"]
theorem sc_is_name : FnScope N_is_name ["text"] (defScope s_is_name) := ⟨rfl, rfl, rfl, by decide +kernel, rfl, by decide +kernel, by decide +kernel⟩

def isName : List Nat → Bool
  | [] => false
  | c :: r => isCap c && (decide (r.length ≤ 5) && r.all isLow)
theorem isName_cons {c : Nat} {r : List Nat} (h : isCap c = true) (hl : r ≠ []) : isName (c :: r) = (decide (r.length + 1 ≤ 6) && isSign r) := by
  show (isCap c && (decide (r.length ≤ 5) && r.all isLow)) = _
  rw [h, Bool.true_and]
  by_cases h6 : r.length ≤ 5
  · rw [decide_eq_true h6, decide_eq_true (show r.length + 1 ≤ 6 by omega), isSign_yes (by cases r with | nil => exact absurd rfl hl | cons a r => simp) (by omega)]
  · rw [decide_eq_false h6, decide_eq_false (show ¬ r.length + 1 ≤ 6 by omega)]
    rfl
def sp_is_name : Sp := fun vs H Q _ => ∃ l : List Nat, vs = [.str (S l)] ∧ l.length ≤ 1000 ∧ ∀ H', Same H H' → Q (.bl (isName l)) H'
section
variable {P : Program} {w : World} {K : PySem.W.Frag} {mg : Str → Option Value} {base : Heap}
theorem cal_is_name (F : Dfn K mg "is_name" s_is_name) (B : Bt mg) (g_LARGE : Gv mg "LARGE" (.str LARGE)) (g_MOST_LETTERS : Gv mg "MOST_LETTERS" (.int 6)) (c_is_sign : Cal P w K mg base 1 "is_sign" sp_is_sign) : Cal P w K mg base 2 "is_name" sp_is_name := by
  refine cal_of F sc_is_name (fun _ _ _ _ _ _ us hl => match us, hl with | [_], _ => rfl) (fun vs H Q E h => ?_) (fun f cdv A outer s H vs Q E hr h => ?_)
  · obtain ⟨z, rfl, _⟩ := h
    rfl
  obtain ⟨l, rfl, hz, q⟩ := h
  refine ⟨_, (pss_cons (ps_if (PW.pt (pw_or (pt_cmpR op_eq (pv 0) pe_str (nomark _)) (pw_or1 (pt_cmpR op_notIn_sign (pe_ix ix_str (pv 0) pe_int (fun _ _ => rfl)) (pe_gv rfl g_LARGE) (by rfl))))) (pss_one (ps_ret pe_bl)) pss_nil)
      (pss_one (ps_ret (pe_or (pe_cmpR op_eq (pe_slice C8.sl_txt (pv 0) (po_some pe_int) po_none) pe_str (nomark _)) (pe_one (pe_and (pe_cmpR op_le (pe_callB call_len_str (by rfl) B.len PySem.boot_len (pa_cons (pv 0) pa_nil)) (pe_gv rfl g_MOST_LETTERS) (nomark _)) (pe_one (pe_cc c_is_sign hr (by omega) (by rfl) (pa_cons (pe_slice C8.sl_txt (pv 0) (po_some pe_int) po_none) pa_nil))))))))), ?_⟩
  have hsz : (S l).length ≤ sizeLine := sz _ (by rw [S_len]; omega)
  cases l with
  | nil =>
    refine ⟨_, rfl, rfl, _, rfl, ?_⟩
    exact q H (Same.refl H)
  | cons c r =>
    refine ⟨_, rfl, rfl, _, rfl, iteNN (fun z => by cases V.str.inj z) ?_⟩
    refine ⟨_, rfl, S (c :: r), 0, c, rfl, rfl, hsz, atI_nat (j := 0) rfl, c, LARGE, rfl, rfl, _, rfl, ?_⟩
    refine ite2 (fun c1 => ?_) (fun c1 => ?_)
    · have c2 : isCap c = false := by simpa [isCap, caps] using c1
      rw [show isName (c :: r) = false by show (isCap c && _) = _; rw [c2]; rfl] at q
      exact q H (Same.refl H)
    · have c2 : isCap c = true := by simpa [isCap, caps] using c1
      refine ⟨_, rfl, 1, rfl, S (c :: r), rfl, hsz, rfl, _, rfl, ?_⟩
      have e1 : Txt.slice (S (c :: r)) (some 1) none = S r := slice_from (by decide)
      rw [e1]
      refine ite2 (fun c3 => ?_) (fun c3 => ?_)
      · have c4 : r = [] := S_inj (V.str.inj (dT c3))
        subst c4
        rw [show isName [c] = true by show (isCap c && _) = _; rw [c2]; rfl] at q
        exact q H (Same.refl H)
      · have c4 : r ≠ [] := fun z => dF c3 (by rw [z]; rfl)
        rw [isName_cons c2 c4] at q
        refine ⟨_, rfl, S (c :: r), rfl, hsz, _, _, rfl, rfl, _, rfl, ite2 (fun c5 => ?_) (fun c5 => ?_)⟩
        · have c6 : ((S (c :: r)).length : Int) ≤ 6 := dT c5
          rw [S_len, List.length_cons] at c6
          rw [decide_eq_true (show r.length + 1 ≤ 6 by omega), Bool.true_and] at q
          refine ⟨_, rfl, 1, rfl, S (c :: r), rfl, hsz, r, by rw [e1]; rfl, by omega, q⟩
        · have c6 : ¬ ((S (c :: r)).length : Int) ≤ 6 := dF c5
          rw [S_len, List.length_cons] at c6
          rw [decide_eq_false (show ¬ r.length + 1 ≤ 6 by omega)] at q
          exact q H (Same.refl H)
end

--USES
abbrev s_law_box : Stmt := topS 7
abbrev N_law_box : List Str := ["_law_script", "_law_mark", "_law_cell"]
theorem sc_law_box : FnScope N_law_box ["_law_script"] (defScope s_law_box) := ⟨rfl, rfl, rfl, by decide +kernel, rfl, by decide +kernel, by decide +kernel⟩

/-- the box of a new script -/
def sp_law_box (K : PySem.W.Frag) : Sp := fun vs H Q _ => ∃ (a : Addr) (ns : List Int), vs = [.ref a] ∧ SqL K H a (ns.map V.int) ∧ ns.length ≤ 63 ∧
  ∀ S' H' b, Same H H' → Wd b S' H' → Q (.ref b) H'
theorem cut63 {ns : List Int} (h : ns.length ≤ 63) : cutV (ns.map V.int) none (some 63) = ns.map V.int := by
  unfold cutV
  rw [show HT.sIx (ns.map V.int).length (ns.map V.int).length (some 63) = min 63 (ns.map V.int).length from HT.sIx_nat _ _ 63, HT.sIx_none, List.drop_zero, List.length_map]
  exact List.take_of_length_le (by rw [List.length_map]; omega)
section
variable {P : Program} {w : World} {K : PySem.W.Frag} {mg : Str → Option Value} {base : Heap}
theorem cal_law_box (F : Dfn K mg "_law_box" s_law_box) (B : Bt mg) : Cal P w K mg base 1 "_law_box" (sp_law_box K) := by
  refine cal_of F sc_law_box (fun _ _ _ _ _ _ us hl => match us, hl with | [_], _ => rfl) (fun vs H Q E h => ?_) (fun f cdv A outer s H vs Q E hr h => ?_)
  · obtain ⟨a, ns, rfl, _⟩ := h
    rfl
  obtain ⟨a, ns, rfl, hS, hl, q⟩ := h
  refine ⟨_, (pss_cons (ps_set (i := 1) sc_law_box.nd rfl (by first | exact .inl rfl | exact .inr rfl) pe_int)
      (pss_cons (ps_for PassesOwn.never rfl (pi_list (pe_slice sl_list (pv 0) po_none (po_some pe_int))) (pg_name (i := 2) sc_law_box.nd rfl (by first | exact .inl rfl | exact .inr rfl)) (pss_one (ps_set (i := 1) sc_law_box.nd rfl (by first | exact .inl rfl | exact .inr rfl) (pe_op op_mod (pe_callTy call_int1 (by rfl) B.int (by decide +kernel) (pa_cons (pe_op op_add (pe_op op_add (pe_op op_mul (pv 1) pe_int) (pe_op op_mod (pe_callTy call_int1 (by rfl) B.int (by decide +kernel) (pa_cons (pv 2) pa_nil)) pe_int)) pe_int) pa_nil)) pe_int))))
      (pss_one (ps_ret (pe_lst (pa_cons (pe_callTy call_list_of (by rfl) B.list (by decide +kernel) (pa_cons (pe_slice sl_list (pv 0) po_none (po_some pe_int)) pa_nil)) (pa_cons pe_int (pa_cons pe_int (pa_cons (pv 1) pa_nil))))))))), ?_⟩
  refine ⟨_, rfl, 63, rfl, a, _, rfl, hS, fun c hc => ?_⟩
  have g1 : Same H (upd H c (.lst (cutV (ns.map V.int) none (some 63)))) := same_new hc
  rw [cut63 hl] at g1 ⊢
  refine ⟨c, rfl, ⟨_, SqL.of upd_same⟩, ?_⟩
  refine for_list (xs := ns.map V.int) (fun i σ H' => H' = upd H c (.lst (ns.map V.int)) ∧ ∃ (m : Int) (y : Option V), σ = [some (.ref a), some (.int m), y] ∧ 0 ≤ m ∧ m < 2147483399) ⟨rfl, 3822, none, rfl, by decide, by decide⟩ (fun i σ H' _ h => by rw [h.1]; exact SqL.of upd_same) (fun i x σ H' hx h => ?_) (fun σ H' h => ?_)
  · obtain ⟨rfl, m, y, rfl, m0, m1⟩ := h
    obtain ⟨n, hn, rfl⟩ : ∃ n, ns[i]? = some n ∧ V.int n = x := by
      rw [List.getElem?_map] at hx
      cases e : ns[i]? with
      | none => rw [e] at hx; cases hx
      | some n => rw [e] at hx; exact ⟨n, rfl, Option.some.inj hx⟩
    refine ⟨_, rfl, _, _, rfl, rfl, .inl ⟨by omega, by omega⟩, _, rfl, .inl ⟨_, rfl, _, _, rfl, rfl, (by show (0 : Int) < 1000003; decide), _, _, rfl, rfl, _, _, rfl, rfl, .inl ⟨_, rfl, _, _, rfl, rfl, (by show (0 : Int) < 2147483399; decide), ?_⟩⟩⟩
    exact ⟨rfl, _, _, rfl, Int.emod_nonneg _ (by decide), Int.emod_lt_of_pos _ (by decide)⟩
  · obtain ⟨rfl, m, y, rfl, m0, m1⟩ := h
    refine ⟨_, rfl, 63, rfl, a, _, rfl, g1.seq hS, fun d hd => ?_⟩
    rw [cut63 hl]
    refine ⟨d, _, rfl, .inl (SqL.of upd_same), fun e he => ?_⟩
    refine ⟨_, rfl, (by show 4 ≤ sizeLine; decide), fun b hb => ?_⟩
    have g2 : Same H (upd (upd (upd H c (.lst (ns.map V.int))) d (.lst (ns.map V.int))) e (.lst (ns.map V.int))) := (g1.trans (same_new hd)).trans (same_new he)
    have ne : e ≠ b := ne_of_none upd_same hb
    refine q (fun x => if x = e then some (.lst (ns.map V.int)) else none) _ b (g2.trans (same_new hb)) ⟨fun x o h => ?_, ?_, e, ns, 0, 0, m, upd_same, ?_, hl, by decide, by decide, m0, by omega⟩
    · by_cases z : x = e
      · subst z
        rw [if_pos rfl] at h
        rw [upd_ne ne, upd_same]
        exact h
      · rw [if_neg z] at h
        cases h
    · rw [if_neg (Ne.symm ne)]
    · rw [if_pos rfl]
end

--USES
abbrev s_law_take : Stmt := topS 8
abbrev N_law_take : List Str := ["_law_box_here", "_law_many", "_law_cell", "_law_seed", "_law_found"]
theorem sc_law_take : FnScope N_law_take ["_law_box_here", "_law_many"] (defScope s_law_take) := ⟨rfl, rfl, rfl, by decide +kernel, rfl, by decide +kernel, by decide +kernel⟩

/-- a draw: some number below many -/
def sp_law_take : Sp := fun vs H Q _ => ∃ (b : Addr) (Sh : Hp) (n : Int), vs = [.ref b, .int n] ∧ Wd b Sh H ∧ 1 ≤ n ∧ n ≤ 1000000 ∧
  ∀ (H' : Hp) (r : Nat), Gr [b] Sh H Sh H' → Wd b Sh H' → (r : Int) < n → Q (.int (r : Int)) H'
/-- a change of the box alone -/
theorem box_upd {b : Addr} {Sh H : Hp} {p : Addr} {ns : List Int} {i c m : Int} (W : Wd b Sh H) (hp : Sh p = some (.lst (ns.map V.int))) (hl : ns.length ≤ 63) (h1 : 0 ≤ i) (h2 : 0 ≤ c) (h3 : 0 ≤ m) (h4 : m < 2147483647) :
    Gr [b] Sh H Sh (upd H b (.lst [.ref p, .int i, .int c, .int m])) ∧ Wd b Sh (upd H b (.lst [.ref p, .int i, .int c, .int m])) := by
  refine ⟨⟨Same.refl _, fun a o n e => ?_, fun a _ e => e, fun a e => ?_⟩, mut_same W.sh W.nb, W.nb, p, ns, i, c, m, upd_same, hp, hl, h1, h2, h3, h4⟩
  · rw [upd_ne (fun z => n (by rw [z]; exact List.mem_singleton.mpr rfl))]
    exact e
  · by_cases z : a = b
    · subst z
      rw [upd_same]
      exact fun z => nomatch z
    · rw [upd_ne z]
      exact e
theorem nat_of {x n : Int} (h0 : 0 ≤ x) (h1 : x < n) : ∃ r : Nat, x = (r : Int) ∧ (r : Int) < n := ⟨x.toNat, by omega, by omega⟩
section
variable {P : Program} {w : World} {K : PySem.W.Frag} {mg : Str → Option Value} {base : Heap}
theorem cal_law_take (F : Dfn K mg "_law_take" s_law_take) (B : Bt mg) : Cal P w K mg base 1 "_law_take" sp_law_take := by
  refine cal_of F sc_law_take (fun _ _ _ _ _ _ us hl => match us, hl with | [_, _], _ => rfl) (fun vs H Q E h => ?_) (fun f cdv A outer s H vs Q E hr h => ?_)
  · obtain ⟨b, Sh, n, rfl, _⟩ := h
    rfl
  obtain ⟨b, Sh, n, rfl, W, n1, n2, q⟩ := h
  refine ⟨_, (C8.pss_cut (ps_if (PW.pt (pw_and (pt_cmpR op_eq (pe_ix ix_list (pv 0) pe_int (fun _ _ => rfl)) pe_int (nomark _)) (pw_and1 (pt_cmpR op_lt (pe_ix ix_list (pv 0) pe_int (fun _ _ => rfl)) (pe_callB call_len_seq (by rfl) B.len PySem.boot_len (pa_cons (pe_ix ix_list (pv 0) pe_int (fun _ _ => rfl)) pa_nil)) (nomark _))))) (pss_cons (ps_set (i := 2) sc_law_take.nd rfl (by first | exact .inl rfl | exact .inr rfl) (pe_ix ix_list (pe_ix ix_list (pv 0) pe_int (fun _ _ => rfl)) (pe_ix ix_list (pv 0) pe_int (fun _ _ => rfl)) (fun _ _ => rfl)))
      (pss_cons (ps_asg (pe_op op_add (pe_ix ix_list (pv 0) pe_int (fun _ _ => rfl)) pe_int) (pg_sub (pv 0) pe_int set_list))
      (pss_one (ps_if (pt_cmpR op_ge (pv 2) (pe_op op_pow pe_int pe_int) (nomark _)) (pss_one (ps_asg (pv 2) (pg_sub (pv 0) pe_int set_list))) (pss_cons (ps_set (i := 3) sc_law_take.nd rfl (by first | exact .inl rfl | exact .inr rfl) (pe_op op_add (pe_op op_mul (pe_ix ix_list (pv 0) pe_int (fun _ _ => rfl)) pe_int) (pe_op op_mul (pe_ix ix_list (pv 0) pe_int (fun _ _ => rfl)) pe_int)))
      (pss_one (ps_asg (pe_op op_mod (pe_callTy call_int1 (by rfl) B.int (by decide +kernel) (pa_cons (pe_op op_add (pv 3) (pe_op op_mod (pe_callTy call_int1 (by rfl) B.int (by decide +kernel) (pa_cons (pv 2) pa_nil)) pe_int)) pa_nil)) pe_int) (pg_sub (pv 0) pe_int set_list)))))))) pss_nil)
      (pss_cons (ps_if (pt_cmpR op_gt (pe_ix ix_list (pv 0) pe_int (fun _ _ => rfl)) pe_int (nomark _)) (pss_cons (ps_set (i := 4) sc_law_take.nd rfl (by first | exact .inl rfl | exact .inr rfl) (pe_op op_mod (pe_callTy call_int1 (by rfl) B.int (by decide +kernel) (pa_cons (pe_ix ix_list (pv 0) pe_int (fun _ _ => rfl)) pa_nil)) (pv 1)))
      (pss_cons (ps_asg (pe_op op_fdiv (pe_ix ix_list (pv 0) pe_int (fun _ _ => rfl)) (pv 1)) (pg_sub (pv 0) pe_int set_list))
      (pss_one (ps_ret (pv 4))))) pss_nil)
      (pss_cons (ps_asg (pe_op op_mod (pe_callTy call_int1 (by rfl) B.int (by decide +kernel) (pa_cons (pe_op op_add (pe_op op_mul (pe_ix ix_list (pv 0) pe_int (fun _ _ => rfl)) pe_int) pe_int) pa_nil)) pe_int) (pg_sub (pv 0) pe_int set_list))
      (pss_one (ps_ret (pe_op op_mod (pe_callTy call_int1 (by rfl) B.int (by decide +kernel) (pa_cons (pe_op op_fdiv (pe_op op_mod (pe_callTy call_int1 (by rfl) B.int (by decide +kernel) (pa_cons (pe_op op_mul (pe_ix ix_list (pv 0) pe_int (fun _ _ => rfl)) (pe_ix ix_list (pv 0) pe_int (fun _ _ => rfl))) pa_nil)) pe_int) pe_int) pa_nil)) (pv 1))))))), ?_⟩
  refine ⟨fun σ' H' => ∃ y2 y3 y4, σ' = [some (.ref b), some (.int n), y2, y3, y4] ∧ Gr [b] Sh H Sh H' ∧ Wd b Sh H', ?_, fun σ' H' hM => ?_⟩
  · obtain ⟨p, ns, i, c, m, hb, hp, hl, i0, c0, m0, m1⟩ := W.bx
    refine ⟨_, rfl, b, _, 2, .int c, rfl, rfl, SqL.of hb, atI_nat (j := 2) rfl, rfl, _, rfl, ite2 (fun t1 => ?_) (fun t1 => ?_)⟩
    · refine ⟨_, rfl, b, _, 1, .int i, rfl, rfl, SqL.of hb, atI_nat (j := 1) rfl, _, rfl, b, _, 0, .ref p, rfl, rfl, SqL.of hb, atI_nat (j := 0) rfl, p, _, rfl, .inl (SqL.of (W.sh _ _ hp)), _, _, rfl, rfl, _, rfl, ite2 (fun t2 => ?_) (fun t2 => ?_)⟩
      · have t3 : i < ((ns.map V.int).length : Int) := dT t2
        rw [List.length_map] at t3
        obtain ⟨k, rfl⟩ : ∃ k : Nat, i = (k : Int) := ⟨i.toNat, by omega⟩
        have hk : k < ns.length := by omega
        refine ⟨_, rfl, b, _, 0, .ref p, rfl, rfl, SqL.of hb, atI_nat (j := 0) rfl, _, rfl, b, _, 1, .int k, rfl, rfl, SqL.of hb, atI_nat (j := 1) rfl, p, _, k, .int ns[k], rfl, rfl, SqL.of (W.sh _ _ hp), atI_nat (j := k) ?_, ?_⟩
        · rw [List.getElem?_map, List.getElem?_eq_getElem hk]
          rfl
        refine ⟨_, rfl, b, _, 1, .int k, rfl, rfl, SqL.of hb, atI_nat (j := 1) rfl, _, _, rfl, rfl, _, rfl, b, _, 1, 1, rfl, rfl, hb, rfl, ?_⟩
        have B1 := box_upd (i := (k : Int) + 1) (c := c) (m := m) W hp hl (by omega) c0 m0 m1
        refine ⟨_, rfl, _, _, rfl, rfl, ⟨by decide, by decide, by decide⟩, _, _, rfl, rfl, _, rfl, ite2 (fun t4 => ?_) (fun t4 => ?_)⟩
        · have t5 : (10 : Int) ^ 18 ≤ ns[k] := dT t4
          refine ⟨_, rfl, _, rfl, b, _, 2, 2, rfl, rfl, upd_same, rfl, ?_⟩
          rw [upd_upd]
          have B2 := box_upd (i := (k : Int) + 1) (c := ns[k]) (m := m) W hp hl (by omega) (by omega) m0 m1
          exact ⟨_, _, _, rfl, B2.1, B2.2⟩
        · refine ⟨_, rfl, b, _, 3, .int m, rfl, rfl, SqL.of upd_same, atI_nat (j := 3) rfl, _, _, rfl, rfl, .inl ⟨by omega, by omega⟩, _, rfl, b, _, 1, .int ((k : Int) + 1), rfl, rfl, SqL.of upd_same, atI_nat (j := 1) rfl, _, _, rfl, rfl, .inr ⟨by decide, by decide⟩, _, _, rfl, rfl, ?_⟩
          refine ⟨_, rfl, _, rfl, .inl ⟨_, rfl, _, _, rfl, rfl, (by show (0 : Int) < 2147483563; decide), _, _, rfl, rfl, .inl ⟨_, rfl, _, _, rfl, rfl, (by show (0 : Int) < 2147483647; decide), _, rfl, b, _, 3, 3, rfl, rfl, upd_same, rfl, ?_⟩⟩⟩
          rw [upd_upd]
          have B2 := box_upd (i := (k : Int) + 1) (c := c) (m := (m * 48271 + ((k : Int) + 1) * 2003 + ns[k] % 2147483563) % 2147483647) W hp hl (by omega) c0 (Int.emod_nonneg _ (by decide)) (Int.emod_lt_of_pos _ (by decide))
          exact ⟨_, _, _, rfl, B2.1, B2.2⟩
      · exact ⟨_, _, _, rfl, Gr.refl _ _ _, W⟩
    · exact ⟨_, _, _, rfl, Gr.refl _ _ _, W⟩
  · obtain ⟨y2, y3, y4, rfl, G1, W1⟩ := hM
    obtain ⟨p, ns, i, c, m, hb, hp, hl, i0, c0, m0, m1⟩ := W1.bx
    refine ⟨_, rfl, b, _, 2, .int c, rfl, rfl, SqL.of hb, atI_nat (j := 2) rfl, _, _, rfl, rfl, _, rfl, ite2 (fun t1 => ?_) (fun t1 => ?_)⟩
    · refine ⟨_, rfl, b, _, 2, .int c, rfl, rfl, SqL.of hb, atI_nat (j := 2) rfl, .inl ⟨_, rfl, _, rfl, _, _, rfl, rfl, (by show 0 < n; omega), ?_⟩⟩
      refine ⟨_, rfl, b, _, 2, .int c, rfl, rfl, SqL.of hb, atI_nat (j := 2) rfl, _, rfl, _, _, rfl, rfl, ⟨by omega, by omega⟩, _, rfl, b, _, 2, 2, rfl, rfl, hb, rfl, _, rfl, ?_⟩
      have B2 := box_upd (i := i) (c := c / n) (m := m) W1 hp hl i0 (Int.ediv_nonneg c0 (by omega)) m0 m1
      obtain ⟨r, er, hr1⟩ := nat_of (Int.emod_nonneg c (show n ≠ 0 by omega)) (Int.emod_lt_of_pos c (show 0 < n by omega))
      have z := q _ r (G1.trans B2.1) B2.2 hr1
      rw [← er] at z
      exact z
    · refine ⟨_, rfl, b, _, 3, .int m, rfl, rfl, SqL.of hb, atI_nat (j := 3) rfl, _, _, rfl, rfl, .inl ⟨by omega, by omega⟩, _, _, rfl, rfl, .inl ⟨_, rfl, _, _, rfl, rfl, (by show (0 : Int) < 2147483647; decide), _, rfl, b, _, 3, 3, rfl, rfl, hb, rfl, ?_⟩⟩
      have hm2 := Int.emod_lt_of_pos (m * 69621 + 13) (show (0 : Int) < 2147483647 by decide)
      have hm1 := Int.emod_nonneg (m * 69621 + 13) (show (2147483647 : Int) ≠ 0 by decide)
      have B2 := box_upd (i := i) (c := c) (m := (m * 69621 + 13) % 2147483647) W1 hp hl i0 c0 hm1 hm2
      refine ⟨_, rfl, b, _, 3, _, rfl, rfl, SqL.of upd_same, atI_nat (j := 3) rfl, _, rfl, b, _, 3, _, rfl, rfl, SqL.of upd_same, atI_nat (j := 3) rfl, _, _, rfl, rfl, .inl ⟨by omega, by omega⟩, .inl ⟨_, rfl, _, _, rfl, rfl, (by show (0 : Int) < 998244353; decide), _, _, rfl, rfl, ⟨by decide, by decide⟩, .inl ⟨_, rfl, _, rfl, _, _, rfl, rfl, (by show 0 < n; omega), ?_⟩⟩⟩
      generalize (m * 69621 + 13) % 2147483647 * ((m * 69621 + 13) % 2147483647) % 998244353 / 11 = z0
      obtain ⟨r, er, hr1⟩ := nat_of (Int.emod_nonneg z0 (show n ≠ 0 by omega)) (Int.emod_lt_of_pos z0 (show 0 < n by omega))
      have z := q _ r (G1.trans B2.1) B2.2 hr1
      rw [← er] at z
      exact z
end

--USES law_take
abbrev s_law_any : Stmt := topS 9
abbrev N_law_any : List Str := ["_law_box_here", "_law_things"]
theorem sc_law_any : FnScope N_law_any ["_law_box_here", "_law_things"] (defScope s_law_any) := ⟨rfl, rfl, rfl, by decide +kernel, rfl, by decide +kernel, by decide +kernel⟩

/-- one of some things, or one sign of a text -/
def sp_law_any (K : PySem.W.Frag) : Sp := fun vs H Q _ => ∃ (b : Addr) (Sh : Hp), Wd b Sh H ∧
  ((∃ (a : Addr) (xs : List V), vs = [.ref b, .ref a] ∧ a ≠ b ∧ SqL K H a xs ∧ 1 ≤ xs.length ∧ xs.length ≤ 1000 ∧ ∀ (H' : Hp) (r : Nat) (x : V), Gr [b] Sh H Sh H' → Wd b Sh H' → xs[r]? = some x → Q x H') ∨
   (∃ l : List Nat, vs = [.ref b, .str (S l)] ∧ 1 ≤ l.length ∧ l.length ≤ 1000 ∧ ∀ (H' : Hp) (c : Nat), Gr [b] Sh H Sh H' → Wd b Sh H' → c ∈ l → Q (.str (S [c])) H'))
section
variable {P : Program} {w : World} {K : PySem.W.Frag} {mg : Str → Option Value} {base : Heap}
theorem cal_law_any (F : Dfn K mg "_law_any" s_law_any) (B : Bt mg) (c__law_take : Cal P w K mg base 1 "_law_take" sp_law_take) : Cal P w K mg base 2 "_law_any" (sp_law_any K) := by
  refine cal_of F sc_law_any (fun _ _ _ _ _ _ us hl => match us, hl with | [_, _], _ => rfl) (fun vs H Q E h => ?_) (fun f cdv A outer s H vs Q E hr h => ?_)
  · rcases h with ⟨b, Sh, W, ⟨a, xs, rfl, _⟩ | ⟨l, rfl, _⟩⟩ <;> rfl
  obtain ⟨b, Sh, W, h⟩ := h
  refine ⟨_, (pss_one (ps_ret (pe_ix ix_seq (pv 1) (pe_cc c__law_take hr (by omega) (by rfl) (pa_cons (pv 0) (pa_cons (pe_callB call_len (by rfl) B.len PySem.boot_len (pa_cons (pv 1) pa_nil)) pa_nil))) (fun _ _ => rfl)))), ?_⟩
  rcases h with ⟨a, xs, rfl, nb, hS, h1, h2, q⟩ | ⟨l, rfl, h1, h2, q⟩
  · refine ⟨_, rfl, _, rfl, _, rfl, .ref a, xs.length, rfl, .inl ⟨xs, hS, rfl⟩, ?_⟩
    refine ⟨b, Sh, _, rfl, W, by omega, by omega, fun H' r G W' hr1 => ?_⟩
    have hk : r < xs.length := by omega
    refine .inl ⟨a, xs, _, xs[r], rfl, rfl, G.sqL (fun z => nb (List.mem_singleton.mp z)) hS, atI_nat (List.getElem?_eq_getElem hk), ?_⟩
    exact q H' r _ G W' (List.getElem?_eq_getElem hk)
  · have hl := S_len l
    refine ⟨_, rfl, _, rfl, _, rfl, .str (S l), (S l).length, rfl, ⟨sz _ (by omega), rfl⟩, ?_⟩
    refine ⟨b, Sh, _, rfl, W, by omega, by omega, fun H' r G W' hr1 => ?_⟩
    have hk : r < l.length := by omega
    refine .inr (.inr ⟨S l, _, l[r], rfl, rfl, sz _ (by omega), atI_nat (List.getElem?_eq_getElem hk), ?_⟩)
    exact q H' _ G W' (List.getElem_mem hk)
end

--USES
abbrev s_law_same : Stmt := topS 10
abbrev N_law_same : List Str := ["_law_found", "_law_due", "_law_one", "_law_other"]
theorem sc_law_same : FnScope N_law_same ["_law_found", "_law_due"] (defScope s_law_same) := ⟨rfl, rfl, rfl, by decide +kernel, rfl, by decide +kernel, by decide +kernel⟩

/-- equal data are the same -/
def sp_law_same (n : Nat) : Sp := fun vs H Q _ => ∃ (Sh : Hp) (d : PyData) (v u : V) (m : Nat), vs = [v, u] ∧ m + 1 ≤ n ∧ Same Sh H ∧ Rp Sh v d ∧ Rp Sh u d ∧ fits d m = true ∧ ∀ H', Same H H' → Q (.bl true) H'
section
variable {P : Program} {w : World} {K : PySem.W.Frag} {mg : Str → Option Value} {base : Heap}
theorem same_turn {k : Nat} (F : Dfn K mg "_law_same" s_law_same) (B : Bt mg) (c__law_same : Cal P w K mg base k "_law_same" (sp_law_same k)) : Cal P w K mg base (k + 1) "_law_same" (sp_law_same (k + 1)) := by
  refine cal_of F sc_law_same (fun _ _ _ _ _ _ us hl => match us, hl with | [_, _], _ => rfl) (fun vs H Q E h => ?_) (fun f cdv A outer s H vs Q E hr h => ?_)
  · obtain ⟨Sh, d, v, u, m, rfl, _⟩ := h
    rfl
  obtain ⟨Sh, d, v, u, m, rfl, hm, sh, r1, r2, hf, q⟩ := h
  refine ⟨_, (pss_cons (ps_if (pt_cmpR op_isN (pv 1) pe_non (nomark _)) (pss_one (ps_ret (pe_cmpR op_isN (pv 0) pe_non (nomark _)))) pss_nil)
      (pss_cons (ps_if (PW.pt (pw_or (pt_val (pe_callB call_isi (by rfl) B.isinstance (by decide +kernel) (pa_cons (pv 1) (pa_cons (pe_bltn (v := .ty "bool") (by rfl) B.bool (by decide +kernel) rfl) pa_nil)))) (pw_or1 (pt_val (pe_callB call_isi (by rfl) B.isinstance (by decide +kernel) (pa_cons (pv 0) (pa_cons (pe_bltn (v := .ty "bool") (by rfl) B.bool (by decide +kernel) rfl) pa_nil))))))) (pss_one (ps_ret (pe_and (pe_callB call_isi (by rfl) B.isinstance (by decide +kernel) (pa_cons (pv 1) (pa_cons (pe_bltn (v := .ty "bool") (by rfl) B.bool (by decide +kernel) rfl) pa_nil))) (pe_and (pe_callB call_isi (by rfl) B.isinstance (by decide +kernel) (pa_cons (pv 0) (pa_cons (pe_bltn (v := .ty "bool") (by rfl) B.bool (by decide +kernel) rfl) pa_nil))) (pe_one (pe_cmpR op_eq (pv 0) (pv 1) (nomark _))))))) pss_nil)
      (pss_cons (ps_if (pt_val (pe_callB call_isi (by rfl) B.isinstance (by decide +kernel) (pa_cons (pv 1) (pa_cons (pe_bltn (v := .ty "int") (by rfl) B.int (by decide +kernel) rfl) pa_nil)))) (pss_one (ps_ret (pe_and (pe_callB call_isi (by rfl) B.isinstance (by decide +kernel) (pa_cons (pv 0) (pa_cons (pe_bltn (v := .ty "int") (by rfl) B.int (by decide +kernel) rfl) pa_nil))) (pe_one (pe_cmpR op_eq (pv 0) (pv 1) (nomark _)))))) pss_nil)
      (pss_cons (ps_if (pt_val (pe_callB call_isi (by rfl) B.isinstance (by decide +kernel) (pa_cons (pv 1) (pa_cons (pe_bltn (v := .ty "str") (by rfl) B.str (by decide +kernel) rfl) pa_nil)))) (pss_one (ps_ret (pe_and (pe_callB call_isi (by rfl) B.isinstance (by decide +kernel) (pa_cons (pv 0) (pa_cons (pe_bltn (v := .ty "str") (by rfl) B.str (by decide +kernel) rfl) pa_nil))) (pe_one (pe_cmpR op_eq (pv 0) (pv 1) (nomark _)))))) pss_nil)
      (pss_cons (ps_if (PW.pt (pw_or (pt_cmpR op_ne (pe_callB call_isi (by rfl) B.isinstance (by decide +kernel) (pa_cons (pv 1) (pa_cons (pe_bltn (v := .ty "tuple") (by rfl) B.tuple (by decide +kernel) rfl) pa_nil))) (pe_callB call_isi (by rfl) B.isinstance (by decide +kernel) (pa_cons (pv 0) (pa_cons (pe_bltn (v := .ty "tuple") (by rfl) B.tuple (by decide +kernel) rfl) pa_nil))) (nomark _)) (pw_or1 (pt_cmpR op_ne (pe_callB call_isi (by rfl) B.isinstance (by decide +kernel) (pa_cons (pv 1) (pa_cons (pe_bltn (v := .ty "list") (by rfl) B.list (by decide +kernel) rfl) pa_nil))) (pe_callB call_isi (by rfl) B.isinstance (by decide +kernel) (pa_cons (pv 0) (pa_cons (pe_bltn (v := .ty "list") (by rfl) B.list (by decide +kernel) rfl) pa_nil))) (nomark _))))) (pss_one (ps_ret pe_bl)) pss_nil)
      (pss_one (ps_ret (pe_and (pe_cmpR op_eq (pe_callB call_len (by rfl) B.len PySem.boot_len (pa_cons (pv 0) pa_nil)) (pe_callB call_len (by rfl) B.len PySem.boot_len (pa_cons (pv 1) pa_nil)) (nomark _)) (pe_one (pe_callB (cr_all rfl) (by rfl) B.all (by decide +kernel) (pa_cons (pe_lc (own := [("_law_one", 2), ("_law_other", 3)]) (g := gTup _ 2 (gCons (gName 2) (gCons (gName 3) gNil))) (tt := tYes) rfl sc_law_same.nd (RZ.pi_zipA (by rfl) B.zip (pa_cons (pv 0) (pa_cons (pv 1) pa_nil))) (blkOk_by (own := [("_law_one", 2), ("_law_other", 3)]) (N := N_law_same) (sc := defScope s_law_same) (by decide +kernel)) (fun _ _ _ _ _ => (pg_tup rfl (pgs_cons (pg_name (i := 2) sc_law_same.nd rfl (by first | exact .inl rfl | exact .inr rfl)) (pgs_cons (pg_name (i := 3) sc_law_same.nd rfl (by first | exact .inl rfl | exact .inr rfl)) pgs_nil)))) (fun _ _ _ _ _ => pts_nil) (fun _ _ _ _ _ => (pe_cc c__law_same hr (by omega) (by rfl) (pa_cons (pv 2) (pa_cons (pv 3) pa_nil))))) pa_nil))))))))))), ?_⟩
  cases d with
  | none =>
    cases r1
    cases r2
    exact ⟨_, rfl, rfl, _, rfl, _, rfl, rfl, q H (Same.refl H)⟩
  | bool x =>
    cases r1
    cases r2
    refine ⟨_, rfl, rfl, _, rfl, iteNN (fun z => by cases z) ?_⟩
    refine ⟨_, rfl, _, _, _, _, true, rfl, .ty _, .base (.bl _), kit_ty (by decide +kernel), _, rfl, ?_⟩
    refine ⟨_, rfl, _, _, _, _, true, rfl, .ty _, .base (.bl _), kit_ty (by decide +kernel), _, rfl, ?_⟩
    refine ⟨_, rfl, _, _, _, _, true, rfl, .ty _, .base (.bl _), kit_ty (by decide +kernel), _, rfl, ?_⟩
    refine ⟨_, rfl, _, rfl, rfl, ?_⟩
    rw [decide_eq_true rfl]
    exact q H (Same.refl H)
  | int x =>
    cases r1
    cases r2
    refine ⟨_, rfl, rfl, _, rfl, iteNN (fun z => by cases z) ?_⟩
    refine ⟨_, rfl, _, _, _, _, false, rfl, .ty _, .base (.int _), kit_ty (by decide +kernel), _, rfl, ?_⟩
    refine ⟨_, rfl, _, _, _, _, false, rfl, .ty _, .base (.int _), kit_ty (by decide +kernel), _, rfl, ?_⟩
    refine ⟨_, rfl, _, _, _, _, true, rfl, .ty _, .base (.int _), kit_ty (by decide +kernel), _, rfl, ?_⟩
    refine ⟨_, rfl, _, _, _, _, true, rfl, .ty _, .base (.int _), kit_ty (by decide +kernel), _, rfl, ?_⟩
    refine ⟨_, rfl, _, rfl, rfl, ?_⟩
    rw [decide_eq_true rfl]
    exact q H (Same.refl H)
  | str x =>
    cases r1
    cases r2
    refine ⟨_, rfl, rfl, _, rfl, iteNN (fun z => by cases z) ?_⟩
    refine ⟨_, rfl, _, _, _, _, false, rfl, .ty _, .base (.str _), kit_ty (by decide +kernel), _, rfl, ?_⟩
    refine ⟨_, rfl, _, _, _, _, false, rfl, .ty _, .base (.str _), kit_ty (by decide +kernel), _, rfl, ?_⟩
    refine ⟨_, rfl, _, _, _, _, false, rfl, .ty _, .base (.str _), kit_ty (by decide +kernel), _, rfl, ?_⟩
    refine ⟨_, rfl, _, _, _, _, true, rfl, .ty _, .base (.str _), kit_ty (by decide +kernel), _, rfl, ?_⟩
    refine ⟨_, rfl, _, _, _, _, true, rfl, .ty _, .base (.str _), kit_ty (by decide +kernel), _, rfl, ?_⟩
    refine ⟨_, rfl, _, rfl, rfl, ?_⟩
    rw [decide_eq_true rfl]
    exact q H (Same.refl H)
  | list ds =>
    cases r1 with
    | @lst a xs _ ha ra =>
    cases r2 with
    | @lst b ys _ hb rb =>
    unfold fits at hf
    simp only [Bool.and_eq_true, decide_eq_true_eq] at hf
    have hxl := ra.len
    have hyl := rb.len
    refine ⟨_, rfl, rfl, _, rfl, iteNN (fun z => by cases z) ?_⟩
    refine ⟨_, rfl, _, _, _, _, false, rfl, .ty _, .base (.lst (sh _ _ hb)), kit_ty (by decide +kernel), _, rfl, ?_⟩
    refine ⟨_, rfl, _, _, _, _, false, rfl, .ty _, .base (.lst (sh _ _ ha)), kit_ty (by decide +kernel), _, rfl, ?_⟩
    refine ⟨_, rfl, _, _, _, _, false, rfl, .ty _, .base (.lst (sh _ _ hb)), kit_ty (by decide +kernel), _, rfl, ?_⟩
    refine ⟨_, rfl, _, _, _, _, false, rfl, .ty _, .base (.lst (sh _ _ hb)), kit_ty (by decide +kernel), _, rfl, ?_⟩
    refine ⟨_, rfl, _, _, _, _, false, rfl, .ty _, .base (.lst (sh _ _ hb)), kit_ty (by decide +kernel), _, rfl, _, _, _, _, false, rfl, .ty _, .base (.lst (sh _ _ ha)), kit_ty (by decide +kernel), rfl, _, rfl, ?_⟩
    refine ⟨_, rfl, _, _, _, _, true, rfl, .ty _, .base (.lst (sh _ _ hb)), kit_ty (by decide +kernel), _, rfl, _, _, _, _, true, rfl, .ty _, .base (.lst (sh _ _ ha)), kit_ty (by decide +kernel), rfl, _, rfl, ?_⟩
    refine ⟨_, rfl, _, _, rfl, .inl ⟨xs, SqL.of (sh _ _ ha), rfl⟩, _, rfl, _, _, rfl, .inl ⟨ys, SqL.of (sh _ _ hb), rfl⟩, rfl, _, rfl, ?_⟩
    rw [show decide (V.int (xs.length : Int) = V.int (ys.length : Int)) = true by rw [hxl, hyl]; exact decide_eq_true rfl]
    refine ⟨_, rfl, _, rfl, a, b, xs, ys, rfl, .inl ⟨SqL.of (sh _ _ ha), SqL.of (sh _ _ hb), fun D hD => ?_⟩⟩
    refine lcw pureW (Same.refl H) hD (walk_zip (n := ds.length) (by omega)) (fun i acc _ => acc = List.replicate i (V.bl true)) rfl (by omega) (fun S' H' g _ => ⟨SqL.of (g.same _ _ (sh _ _ ha)), SqL.of (g.same _ _ (sh _ _ hb))⟩)
      (fun i x S1 H1 H1' acc hi g1 W1 s1 e1 hI hy put skip => ?_) (fun S1 H1 acc g1 W1 s1 e1 l1 hI => ?_)
    · obtain ⟨T, x1, y1, rfl, hT, rfl, hx1, hy1⟩ := hy
      obtain ⟨d1, hd1, rx⟩ := ra.get hx1
      obtain ⟨d2, hd2, ry⟩ := rb.get hy1
      have e12 := Option.some.inj (hd1.symm.trans hd2)
      subst e12
      have gT := same_new (o := .tup [x1, y1]) hT
      have sa := (sh.trans g1.same).trans gT
      refine ⟨T, [x1, y1], rfl, SqT.of upd_same, rfl, x1, [y1], rfl, y1, [], rfl, rfl, rfl, ?_⟩
      refine ⟨_, rfl, _, rfl, Sh, d1, x1, y1, m - 1, rfl, by omega, sa, rx, ry, fitsL_get hf.2 hd1, fun H4 g4 => ?_⟩
      refine put (Gr.of_same (gT.trans g4)) (W1.trans (gT.trans g4)) ?_
      rw [hI, List.replicate_succ']
    · refine ⟨D, List.replicate ds.length true, rfl, SqL.of ?_, ?_⟩
      · rw [e1, hI, List.map_replicate]
      · rw [show (List.replicate ds.length true).all id = true by simp]
        exact q _ g1.same
  | tuple ds =>
    cases r1 with
    | @tup a xs _ ha ra =>
    cases r2 with
    | @tup b ys _ hb rb =>
    unfold fits at hf
    simp only [Bool.and_eq_true, decide_eq_true_eq] at hf
    have hxl := ra.len
    have hyl := rb.len
    refine ⟨_, rfl, rfl, _, rfl, iteNN (fun z => by cases z) ?_⟩
    refine ⟨_, rfl, _, _, _, _, false, rfl, .ty _, .base (.tup (sh _ _ hb)), kit_ty (by decide +kernel), _, rfl, ?_⟩
    refine ⟨_, rfl, _, _, _, _, false, rfl, .ty _, .base (.tup (sh _ _ ha)), kit_ty (by decide +kernel), _, rfl, ?_⟩
    refine ⟨_, rfl, _, _, _, _, false, rfl, .ty _, .base (.tup (sh _ _ hb)), kit_ty (by decide +kernel), _, rfl, ?_⟩
    refine ⟨_, rfl, _, _, _, _, false, rfl, .ty _, .base (.tup (sh _ _ hb)), kit_ty (by decide +kernel), _, rfl, ?_⟩
    refine ⟨_, rfl, _, _, _, _, true, rfl, .ty _, .base (.tup (sh _ _ hb)), kit_ty (by decide +kernel), _, rfl, _, _, _, _, true, rfl, .ty _, .base (.tup (sh _ _ ha)), kit_ty (by decide +kernel), rfl, _, rfl, ?_⟩
    refine ⟨_, rfl, _, _, _, _, false, rfl, .ty _, .base (.tup (sh _ _ hb)), kit_ty (by decide +kernel), _, rfl, _, _, _, _, false, rfl, .ty _, .base (.tup (sh _ _ ha)), kit_ty (by decide +kernel), rfl, _, rfl, ?_⟩
    refine ⟨_, rfl, _, _, rfl, .inr ⟨xs, SqT.of (sh _ _ ha), rfl⟩, _, rfl, _, _, rfl, .inr ⟨ys, SqT.of (sh _ _ hb), rfl⟩, rfl, _, rfl, ?_⟩
    rw [show decide (V.int (xs.length : Int) = V.int (ys.length : Int)) = true by rw [hxl, hyl]; exact decide_eq_true rfl]
    refine ⟨_, rfl, _, rfl, a, b, xs, ys, rfl, .inr ⟨SqT.of (sh _ _ ha), SqT.of (sh _ _ hb), fun D hD => ?_⟩⟩
    refine lcw pureW (Same.refl H) hD (walk_zipT (n := ds.length) (by omega)) (fun i acc _ => acc = List.replicate i (V.bl true)) rfl (by omega) (fun S' H' g _ => ⟨SqT.of (g.same _ _ (sh _ _ ha)), SqT.of (g.same _ _ (sh _ _ hb))⟩)
      (fun i x S1 H1 H1' acc hi g1 W1 s1 e1 hI hy put skip => ?_) (fun S1 H1 acc g1 W1 s1 e1 l1 hI => ?_)
    · obtain ⟨T, x1, y1, rfl, hT, rfl, hx1, hy1⟩ := hy
      obtain ⟨d1, hd1, rx⟩ := ra.get hx1
      obtain ⟨d2, hd2, ry⟩ := rb.get hy1
      have e12 := Option.some.inj (hd1.symm.trans hd2)
      subst e12
      have gT := same_new (o := .tup [x1, y1]) hT
      have sa := (sh.trans g1.same).trans gT
      refine ⟨T, [x1, y1], rfl, SqT.of upd_same, rfl, x1, [y1], rfl, y1, [], rfl, rfl, rfl, ?_⟩
      refine ⟨_, rfl, _, rfl, Sh, d1, x1, y1, m - 1, rfl, by omega, sa, rx, ry, fitsL_get hf.2 hd1, fun H4 g4 => ?_⟩
      refine put (Gr.of_same (gT.trans g4)) (W1.trans (gT.trans g4)) ?_
      rw [hI, List.replicate_succ']
    · refine ⟨D, List.replicate ds.length true, rfl, SqL.of ?_, ?_⟩
      · rw [e1, hI, List.map_replicate]
      · rw [show (List.replicate ds.length true).all id = true by simp]
        exact q _ g1.same
  | dict kvs => cases r1
theorem cal_law_same (F : Dfn K mg "_law_same" s_law_same) (B : Bt mg) : ∀ n, Cal P w K mg base n "_law_same" (sp_law_same n)
  | 0 => cal_zero F (ps := ["_law_found", "_law_due"]) (fun _ _ _ _ _ _ us hl => match us, hl with | [_, _], _ => rfl) (fun vs H Q E h => by
    obtain ⟨Sh, d, v, u, m, rfl, hm, _⟩ := h
    omega)
  | n + 1 => same_turn F B (cal_law_same F B n)
end

--USES is_name law_box law_any law_same
abbrev s_law : Stmt := topS 11
abbrev N_law : List Str := ["_law_script", "_law_box_here", "_law_small", "_law_large", "_law_turn", "_law_signs", "_law_text", "_law_low", "_law_sign", "_law_name", "_law_k", "_law_letter"]
theorem sc_law : FnScope N_law ["_law_script"] (defScope s_law) := ⟨rfl, rfl, rfl, by decide +kernel, rfl, by decide +kernel, by decide +kernel⟩

theorem join1 : ∀ cs : List Nat, TL.joinL [] (cs.map fun c => [c]) = cs
  | [] => rfl
  | [c] => rfl
  | c :: d :: r => by
    show [c] ++ ([] ++ TL.joinL [] ((d :: r).map fun c => [c])) = _
    rw [join1 (d :: r)]
    rfl
theorem sum1 : ∀ cs : List Nat, ((cs.map fun c => S [c]).map (·.length)).sum = cs.length
  | [] => rfl
  | c :: r => by
    show (S [c]).length + ((r.map fun c => S [c]).map (·.length)).sum = r.length + 1
    rw [sum1 r, S_len]
    show 1 + r.length = _
    omega
theorem lawName {l : List Nat} (h1 : 1 ≤ l.length) (h6 : l.length ≤ 6) {c : Nat} {r : List Nat} (e : l = c :: r) : isName l = (isCap c && ((l.map isLow).drop 1).all id) := by
  subst e
  show (isCap c && (decide (r.length ≤ 5) && r.all isLow)) = _
  rw [List.length_cons] at h6
  rw [decide_eq_true (show r.length ≤ 5 by omega), Bool.true_and]
  show _ = (isCap c && (r.map isLow).all id)
  rw [List.all_map]
  rfl
theorem isName_long {l : List Nat} (h : 6 < l.length) : isName l = false := by
  cases l with
  | nil => rfl
  | cons c r =>
    rw [List.length_cons] at h
    show (isCap c && (decide (r.length ≤ 5) && r.all isLow)) = false
    rw [decide_eq_false (show ¬ r.length ≤ 5 by omega)]
    cases isCap c <;> rfl
theorem cut1 (xs : List V) : cutV xs (some 1) none = xs.drop 1 := by
  unfold cutV
  rw [show HT.sIx xs.length 0 (some 1) = min 1 xs.length from HT.sIx_nat xs.length 0 1, HT.sIx_none]
  cases xs with
  | nil => rfl
  | cons x r =>
    rw [show min 1 (x :: r).length = 1 by
      rw [List.length_cons]
      omega]
    show (List.take ((x :: r).length - 1) r) = r
    rw [List.length_cons, Nat.add_sub_cancel]
    exact List.take_length
section
variable {P : Program} {w : World} {K : PySem.W.Frag} {mg : Str → Option Value} {base : Heap}
theorem ok_law {f : Addr} {fd : FuncData} (F : Fun K "law" "law" s_law f fd) (B : Bt mg) (c_is_sign : Cal P w K mg base 1 "is_sign" sp_is_sign) (c_is_name : Cal P w K mg base 2 "is_name" sp_is_name) (c__law_box : Cal P w K mg base 1 "_law_box" (sp_law_box K))
    (c__law_take : Cal P w K mg base 1 "_law_take" sp_law_take) (c__law_any : Cal P w K mg base 2 "_law_any" (sp_law_any K)) (c__law_same : Cal P w K mg base 5 "_law_same" (sp_law_same 5)) : FnOk P w K mg base CX0 6 f fd ["_law_script"] (sp_law K) := by
  refine okf_of F sc_law (fun vs H Q E h => ?_) (fun cdv A outer s H vs Q E hr h => ?_)
  · obtain ⟨a, ns, rfl, _⟩ := h
    rfl
  obtain ⟨a, ns, rfl, hS, hl, q⟩ := h
  refine ⟨_, (pss_cons (ps_set (i := 1) sc_law.nd rfl (by first | exact .inl rfl | exact .inr rfl) (pe_cc c__law_box hr (by omega) (by rfl) (pa_cons (pv 0) pa_nil)))
      (pss_cons (ps_asg (pe_tup (pa_cons pe_str (pa_cons pe_str pa_nil))) (pg_tup rfl (pgs_cons (pg_name (i := 2) sc_law.nd rfl (by first | exact .inl rfl | exact .inr rfl)) (pgs_cons (pg_name (i := 3) sc_law.nd rfl (by first | exact .inl rfl | exact .inr rfl)) pgs_nil))))
      (pss_cons (ps_for PassesOwn.never rfl (pi_range1 (by rfl) B.range (pa_cons pe_int pa_nil)) (pg_name (i := 4) sc_law.nd rfl (by first | exact .inl rfl | exact .inr rfl)) (pss_cons (ps_set (i := 5) sc_law.nd rfl (by first | exact .inl rfl | exact .inr rfl) (pe_cc c__law_any hr (by omega) (by rfl) (pa_cons (pv 1) (pa_cons (pe_lst (pa_cons (pv 2) (pa_cons (pe_op op_add_str (pv 2) (pv 3)) (pa_cons (pe_op op_add_str (pv 2) pe_str) (pa_cons (pv 2) pa_nil))))) pa_nil))))
      (pss_cons (ps_set (i := 6) sc_law.nd rfl (by first | exact .inl rfl | exact .inr rfl) (pe_join pe_str (pe_lc (own := [("_law_k", 10)]) (g := gName 10) (tt := tYes) rfl sc_law.nd (pi_range1 (by rfl) B.range (pa_cons (pe_cc c__law_take hr (by omega) (by rfl) (pa_cons (pv 1) (pa_cons pe_int pa_nil))) pa_nil)) (blkOk_by (own := [("_law_k", 10)]) (N := N_law) (sc := defScope s_law) (by decide +kernel)) (fun _ _ _ _ _ => (pg_name (i := 10) sc_law.nd rfl (by first | exact .inl rfl | exact .inr rfl))) (fun _ _ _ _ _ => pts_nil) (fun _ _ _ _ _ => (pe_ix ix_str (pv 5) (pe_cc c__law_take hr (by omega) (by rfl) (pa_cons (pv 1) (pa_cons (pe_callB call_len_str (by rfl) B.len PySem.boot_len (pa_cons (pv 5) pa_nil)) pa_nil))) (fun _ _ => rfl))))))
      (C8.pss_cut (ps_if (pt_cmpR op_eq (pe_cc c__law_take hr (by omega) (by rfl) (pa_cons (pv 1) (pa_cons pe_int pa_nil))) pe_int (nomark _)) (pss_one (ps_set (i := 6) sc_law.nd rfl (by first | exact .inl rfl | exact .inr rfl) (pe_op op_add_str (pe_cc c__law_any hr (by omega) (by rfl) (pa_cons (pv 1) (pa_cons (pv 3) pa_nil))) (pe_slice C8.sl_txt (pv 6) po_none (po_some pe_int))))) pss_nil)
      (pss_cons (ps_setLc (i := 7) (own := [("_law_letter", 11)]) (g := gName 11) (tt := tYes) rfl sc_law.nd rfl rfl (sw_true rfl rfl rfl (by decide +kernel)) (pi_str (pv 6)) (blkOk_by (own := [("_law_letter", 11)]) (N := N_law) (sc := defScope s_law) (by decide +kernel)) (fun _ _ _ _ _ => (pg_name (i := 11) sc_law.nd rfl (by first | exact .inl rfl | exact .inr rfl))) (fun _ _ _ _ _ => pts_nil) (fun _ _ _ _ _ => (pe_cmpR op_in_sign (pv 11) (pv 2) (by rfl))))
      (C8.pss_cut (ps_set (i := 8) sc_law.nd rfl (by first | exact .inl rfl | exact .inr rfl) (pe_and (pe_chain op_le op_le pe_int (pe_callB call_len_str (by rfl) B.len PySem.boot_len (pa_cons (pv 6) pa_nil)) pe_int) (pe_one (pe_callB (cr_all rfl) (by rfl) B.all (by decide +kernel) (pa_cons (pv 7) pa_nil)))))
      (C8.pss_cut (ps_set (i := 9) sc_law.nd rfl (by first | exact .inl rfl | exact .inr rfl) (pe_and (pe_chain op_le op_le pe_int (pe_callB call_len_str (by rfl) B.len PySem.boot_len (pa_cons (pv 6) pa_nil)) pe_int) (pe_and (pe_cmpR op_in_sign (pe_ix ix_str (pv 6) pe_int (fun _ _ => rfl)) (pv 3) (by rfl)) (pe_one (pe_callB (cr_all rfl) (by rfl) B.all (by decide +kernel) (pa_cons (pe_slice sl_list (pv 7) (po_some pe_int) po_none) pa_nil))))))
      (pss_one (ps_if (pt_not (pt_val (pe_cc c__law_same hr (by omega) (by rfl) (pa_cons (pe_lst (pa_cons (pe_cc c_is_sign hr (by omega) (by rfl) (pa_cons (pv 6) pa_nil)) (pa_cons (pe_cc c_is_name hr (by omega) (by rfl) (pa_cons (pv 6) pa_nil)) pa_nil))) (pa_cons (pe_lst (pa_cons (pv 8) (pa_cons (pv 9) pa_nil))) pa_nil))))) (pss_one (ps_ret pe_bl)) pss_nil)))))))))
      (pss_one (ps_ret (pe_cc c__law_same hr (by omega) (by rfl) (pa_cons (pe_lst (pa_cons (pe_cc c_is_sign hr (by omega) (by rfl) (pa_cons pe_str pa_nil)) (pa_cons (pe_cc c_is_name hr (by omega) (by rfl) (pa_cons pe_str pa_nil)) (pa_cons (pe_cc c_is_name hr (by omega) (by rfl) (pa_cons pe_str pa_nil)) (pa_cons (pe_cc c_is_sign hr (by omega) (by rfl) (pa_cons pe_str pa_nil)) pa_nil))))) (pa_cons (pe_lst (pa_cons pe_bl (pa_cons pe_bl (pa_cons pe_bl (pa_cons pe_bl pa_nil))))) pa_nil)))))))), ?_⟩
  refine ⟨_, rfl, a, ns, rfl, hS, hl, fun S1 H1 b _ W1 => ?_⟩
  refine ⟨(by show 2 ≤ sizeLine; decide), fun p hp => ?_⟩
  have W2 := (boxW b).same W1 (same_new (o := .tup [.str SMALL, .str LARGE]) hp)
  refine ⟨p, _, rfl, SqT.of upd_same, rfl, _, _, rfl, _, _, rfl, rfl, ?_⟩
  refine ⟨9, rfl, by decide, by decide, ?_⟩
  refine forw (M := [b]) W2 walk_range (fun i σ' _ _ => ∃ y4 y5 y6 y7 y8 y9 y10 y11, σ' = [some (.ref a), some (.ref b), some (.str SMALL), some (.str LARGE), y4, y5, y6, y7, y8, y9, y10, y11]) ⟨_, _, _, _, _, _, _, _, rfl⟩ (fun _ _ _ _ _ _ _ => trivial)
    (fun i x σ' S3 H3 H3' hi g3 W3 hI hy => ?_) (fun σ' S3 H3 g3 W3 hI => ?_)
  · obtain ⟨rfl, rfl⟩ := hy
    obtain ⟨y4, y5, y6, y7, y8, y9, y10, y11, rfl⟩ := hI
    -- signs = any(box, [..])
    refine ⟨_, rfl, _, rfl, _, rfl, _, rfl, _, _, rfl, rfl, (by decide +kernel), _, rfl, _, _, rfl, rfl, (by decide +kernel), _, rfl, (by show 4 ≤ sizeLine; decide), fun p4 hp4 => ?_⟩
    have g4 := same_new (o := .lst [.str SMALL, .str (SMALL ++ LARGE), .str (SMALL ++ "0 _-"), .str SMALL]) hp4
    have W4 := (boxW b).same W3 g4
    refine ⟨b, S3, W4, .inl ⟨p4, _, rfl, Ne.symm (ne_nn W3.bs hp4), SqL.of upd_same, (by show 1 ≤ 4; decide), (by show 4 ≤ 1000; decide), fun H5 r x g5 W5 hx => ?_⟩⟩
    obtain ⟨ls, rfl, l1, l2⟩ : ∃ ls : List Nat, x = .str (S ls) ∧ 1 ≤ ls.length ∧ ls.length ≤ 60 := by
      have hm := List.mem_of_getElem? hx
      simp only [List.mem_cons, List.not_mem_nil, or_false] at hm
      rcases hm with rfl | rfl | rfl | rfl <;> exact ⟨_, (congrArg V.str (S_tl _)).symm, by decide +kernel, by decide +kernel⟩
    -- text = ''.join([signs[take(..)] ..])
    refine ⟨⟨_, rfl⟩, _, rfl, b, S3, 9, rfl, W5, by decide, by decide, fun H6 r6 g6 W6 h6 => ?_⟩
    refine ⟨_, rfl, by omega, by omega, fun D hD => ?_⟩
    refine lcw (boxW b) W6 hD walk_range (fun i acc S' => S' = S3 ∧ ∃ cs : List Nat, acc = cs.map (fun c => V.str (S [c]))) ⟨rfl, [], rfl⟩ (by omega) (fun _ _ _ _ => trivial)
      (fun i x S7 H7 H7' acc hi g7 W7 s7 e7 hI hy put skip => ?_) (fun S7 H7 acc g7 W7 s7 e7 l7 hI => ?_)
    · obtain ⟨rfl, rfl⟩ := hy
      obtain ⟨rfl, cs, rfl⟩ := hI
      refine ⟨rfl, ?_⟩
      refine ⟨_, rfl, _, rfl, _, rfl, S ls, rfl, sz _ (by rw [S_len]; omega), b, S7, _, rfl, W7, by rw [S_len]; omega, by rw [S_len]; omega, fun H8 r8 g8 W8 h8 => ?_⟩
      rw [S_len] at h8
      have h8' : r8 < ls.length := by omega
      refine ⟨S ls, _, ls[r8], rfl, rfl, sz _ (by rw [S_len]; omega), atI_nat (List.getElem?_eq_getElem h8'), ?_⟩
      refine put g8 W8 ⟨rfl, cs ++ [ls[r8]], ?_⟩
      rw [List.map_append]
      rfl
    · obtain ⟨rfl, cs, rfl⟩ := hI
      rw [List.length_map] at l7
      have l7' : cs.length ≤ 8 := by omega
      refine ⟨_, D, cs.map (fun c => S [c]), rfl, rfl, .inl (SqL.of ?_), ?_, ?_⟩
      · rw [e7, List.map_map]
        rfl
      · rw [sum1, List.length_map]
        show cs.length + cs.length * 0 ≤ 16777216
        omega
      have ej : Txt.join "" (cs.map fun c => S [c]) = S cs := by
        have z := join_S [] (cs.map fun c => [c])
        rw [List.map_map, join1] at z
        exact z
      rw [ej]
      -- if take(box, 2) == 0
      refine ⟨fun σ' H' => ∃ (lt : List Nat) (S9 : Hp) (y4 y5 y7 y8 y9 y10 y11 : Option V), σ' = [some (.ref a), some (.ref b), some (.str SMALL), some (.str LARGE), y4, y5, some (.str (S lt)), y7, y8, y9, y10, y11] ∧ lt.length ≤ 8 ∧ S9 = S7 ∧ Gr [b] S7 H3' S9 H' ∧ Wd b S9 H', ?_, fun σ' H' hM => ?_⟩
      · have gg : Gr [b] S7 H3' S7 H7 := ((Gr.fromNew hp4 g5).trans g6).trans g7
        refine ⟨_, rfl, b, S7, 2, rfl, W7, by decide, by decide, fun H9 r9 g9 W9 h9 => ?_⟩
        refine ⟨rfl, _, rfl, ite2 (fun c1 => ?_) (fun c1 => ?_)⟩
        · refine ⟨_, rfl, _, rfl, b, S7, W9, .inr ⟨caps, congrArg (fun z => [V.ref b, V.str z]) (S_tl LARGE).symm, by decide +kernel, by decide +kernel, fun H10 c g10 W10 hc => ?_⟩⟩
          refine ⟨_, rfl, 7, rfl, S cs, rfl, sz _ (by rw [S_len]; omega), ?_⟩
          rw [slice_to (by decide)]
          refine ⟨_, _, rfl, rfl, ?_, ?_⟩
          · rw [S_len, S_len]
            exact sz _ (by rw [List.length_take]; show 1 + _ ≤ _; omega)
          rw [S_cat]
          refine ⟨[c] ++ cs.take 7, S7, _, _, _, _, _, _, _, rfl, ?_, rfl, (gg.trans g9).trans g10, W10⟩
          rw [List.length_append, List.length_take]
          show 1 + min 7 _ ≤ 8
          omega
        · exact ⟨cs, S7, _, _, _, _, _, _, _, rfl, l7', rfl, gg.trans g9, W9⟩
      · obtain ⟨lt, S9, z4, z5, z7, z8, z9, z10, z11, rfl, hlt, rfl, g9, W9⟩ := hM
        have hlen := S_len lt
        -- low = [..]
        refine ⟨_, rfl, S lt, rfl, fun L hL => ?_⟩
        refine lcw (boxW b) W9 hL walk_str (fun i acc S' => S' = S9 ∧ acc = (lt.take i).map fun c => V.bl (isLow c)) ⟨rfl, rfl⟩ (show lt.length ≤ 100000 by omega) (fun _ _ _ _ => trivial)
          (fun i x S10 H10 H10' acc hi g10 W10 s10 e10 hI hy put skip => ?_) (fun S10 H10 acc g10 W10 s10 e10 l10 hI => ?_)
        · obtain ⟨rfl, c, hc, rfl⟩ := hy
          obtain ⟨rfl, rfl⟩ := hI
          refine ⟨rfl, ?_⟩
          refine ⟨_, rfl, _, rfl, c, SMALL, rfl, rfl, ?_⟩
          refine put (Gr.refl _ _ _) W10 ⟨rfl, ?_⟩
          rw [map_take_succ (show lt[i]? = some c by rw [← hc]; simp)]
          rfl
        · obtain ⟨rfl, rfl⟩ := hI
          have eL : H10 L = some (.lst ((lt.map isLow).map V.bl)) := by
            rw [e10, List.take_of_length_le (by simp), List.map_map]
            rfl
          have gL := g9.trans g10
          have hsz : (S lt).length ≤ sizeLine := sz _ (by omega)
          -- sign = ..
          refine ⟨fun σ' H' => H10 = H' ∧ σ' = [some (.ref a), some (.ref b), some (.str SMALL), some (.str LARGE), z4, z5, some (.str (S lt)), some (.ref L), some (.bl (isSign lt)), z9, z10, z11], ?_, fun σ' H' hM => ?_⟩
          · refine ⟨_, rfl, S lt, rfl, hsz, _, _, rfl, rfl, _, rfl, ite2 (fun c1 => ?_) (fun c1 => ?_)⟩
            · have c1' : (1 : Int) ≤ (S lt).length := dT c1
              refine ⟨_, _, rfl, rfl, _, rfl, ite2 (fun c2 => ?_) (fun c2 => ?_)⟩
              · have c2' : ((S lt).length : Int) ≤ 6 := dT c2
                refine ⟨_, rfl, L, lt.map isLow, rfl, SqL.of eL, rfl, ?_⟩
                rw [List.all_map, show (id ∘ isLow) = isLow from rfl, ← isSign_yes (l := lt) (by omega) (by omega)]
                rfl
              · have c2' : ¬ ((S lt).length : Int) ≤ 6 := dF c2
                rw [isSign_no (by omega)]
                exact ⟨rfl, rfl⟩
            · have c1' : ¬ (1 : Int) ≤ (S lt).length := dF c1
              rw [isSign_no (by omega)]
              exact ⟨_, rfl, iteF ⟨rfl, rfl⟩⟩
          obtain ⟨rfl, rfl⟩ := hM
          -- name = ..
          refine ⟨fun σ' H' => Same H10 H' ∧ σ' = [some (.ref a), some (.ref b), some (.str SMALL), some (.str LARGE), z4, z5, some (.str (S lt)), some (.ref L), some (.bl (isSign lt)), some (.bl (isName lt)), z10, z11], ?_, fun σ' H' hM => ?_⟩
          · refine ⟨_, rfl, S lt, rfl, hsz, _, _, rfl, rfl, _, rfl, ite2 (fun c1 => ?_) (fun c1 => ?_)⟩
            · have c1' : (1 : Int) ≤ (S lt).length := dT c1
              refine ⟨_, _, rfl, rfl, _, rfl, ite2 (fun c2 => ?_) (fun c2 => ?_)⟩
              · have c2' : ((S lt).length : Int) ≤ 6 := dT c2
                obtain ⟨c, r, hc⟩ : ∃ c r, lt = c :: r := by
                  cases e : lt with
                  | nil =>
                    have : lt.length = 0 := by rw [e]; rfl
                    omega
                  | cons c r => exact ⟨c, r, rfl⟩
                rw [lawName (l := lt) (by omega) (by omega) hc]
                refine ⟨_, rfl, S lt, 0, c, rfl, rfl, hsz, (by rw [hc]; exact atI_nat (j := 0) rfl), _, rfl, c, LARGE, rfl, rfl, _, rfl, ?_⟩
                show if isCap c = true then _ else _
                refine ite2 (fun c3 => ?_) (fun c3 => ?_)
                · refine ⟨_, rfl, 1, rfl, L, _, rfl, SqL.of eL, fun p5 hp5 => ⟨p5, (lt.map isLow).drop 1, rfl, SqL.of ?_, ?_⟩⟩
                  · rw [upd_same, cut1, List.map_drop]
                  · rw [c3]
                    exact ⟨same_new hp5, rfl⟩
                · rw [Bool.eq_false_iff.mpr c3]
                  exact ⟨Same.refl _, rfl⟩
              · have c2' : ¬ ((S lt).length : Int) ≤ 6 := dF c2
                rw [isName_long (by omega)]
                exact ⟨Same.refl _, rfl⟩
            · have c1' : ¬ (1 : Int) ≤ (S lt).length := dF c1
              obtain rfl : lt = [] := List.length_eq_zero_iff.mp (by omega)
              exact ⟨_, rfl, iteF ⟨Same.refl _, rfl⟩⟩
          obtain ⟨g11, rfl⟩ := hM
          have W11 := (boxW b).same W10 g11
          refine ⟨_, rfl, lt, rfl, by omega, fun H12 g12 => ?_⟩
          refine ⟨_, rfl, lt, rfl, by omega, fun H13 g13 => ?_⟩
          refine ⟨(by show 2 ≤ sizeLine; decide), fun p14 hp14 => ?_⟩
          refine ⟨_, rfl, _, rfl, (by show 2 ≤ sizeLine; decide), fun p15 hp15 => ?_⟩
          have g15 := same_new (o := .lst [.bl (isSign lt), .bl (isName lt)]) hp15
          refine ⟨_, .list [.bool (isSign lt), .bool (isName lt)], _, _, 1, rfl, by decide, Same.refl _, .lst (g15 _ _ upd_same) (.cons (.bl _) (.cons (.bl _) .nil)), .lst upd_same (.cons (.bl _) (.cons (.bl _) .nil)), rfl, fun H16 g16 => ?_⟩
          refine ⟨_, rfl, ?_⟩
          have gs : Same H10 H16 := ((((g11.trans g12).trans g13).trans (same_new hp14)).trans g15).trans g16
          refine ⟨S10, (g3.trans gL).trans (Gr.of_same gs), (boxW b).same W10 gs, _, _, _, _, _, _, _, _, rfl⟩
  · obtain ⟨y4, y5, y6, y7, y8, y9, y10, y11, rfl⟩ := hI
    refine ⟨[], rfl, by decide, fun H12 g12 => ?_⟩
    refine ⟨[], rfl, by decide, fun H13 g13 => ?_⟩
    refine ⟨[65], rfl, by decide, fun H14 g14 => ?_⟩
    refine ⟨[97, 98, 99, 100, 101, 102, 103], rfl, by decide, fun H15 g15 => ?_⟩
    refine ⟨(by show 4 ≤ sizeLine; decide), fun p16 hp16 => ?_⟩
    refine ⟨(by show 4 ≤ sizeLine; decide), fun p17 hp17 => ?_⟩
    have g17 := same_new (o := .lst [.bl false, .bl false, .bl true, .bl false]) hp17
    exact ⟨_, .list [.bool false, .bool false, .bool true, .bool false], _, _, 1, rfl, by decide, Same.refl _, .lst (g17 _ _ upd_same) (.cons (.bl _) (.cons (.bl _) (.cons (.bl _) (.cons (.bl _) .nil)))), .lst upd_same (.cons (.bl _) (.cons (.bl _) (.cons (.bl _) (.cons (.bl _) .nil)))), rfl, fun H16 g16 => q _⟩
theorem all_law {f : Addr} {fd : FuncData} (F : Fun K "law" "law" s_law f fd) (B : Bt mg) (D_is_sign : Dfn K mg "is_sign" s_is_sign) (D_is_name : Dfn K mg "is_name" s_is_name) (D__law_box : Dfn K mg "_law_box" s_law_box) (D__law_take : Dfn K mg "_law_take" s_law_take) (D__law_any : Dfn K mg "_law_any" s_law_any) (D__law_same : Dfn K mg "_law_same" s_law_same)
    (g_SMALL : Gv mg "SMALL" (.str SMALL)) (g_LARGE : Gv mg "LARGE" (.str LARGE)) (g_MOST_LETTERS : Gv mg "MOST_LETTERS" (.int 6)) : FnOk P w K mg base CX0 6 f fd ["_law_script"] (sp_law K) := by
  have c1 := cal_is_sign (P := P) (w := w) (base := base) D_is_sign B g_SMALL g_MOST_LETTERS
  have c2 := cal_is_name D_is_name B g_LARGE g_MOST_LETTERS c1
  have c3 := cal_law_take (P := P) (w := w) (base := base) D__law_take B
  exact ok_law F B c1 c2 (cal_law_box D__law_box B) c3 (cal_law_any D__law_any B c3) (cal_law_same D__law_same B 5)
end
--END 6 is_sign is_name _law_box _law_take _law_any _law_same | SMALL=.str SMALL LARGE=.str LARGE MOST_LETTERS=.int 6

theorem all_mk {l : PySem.W.OpenLaw} {w : World} {K : PySem.W.Frag} {h : Heap} {mg : Str → Option Value} {fa f0 f1 f2 f3 f4 f5 f6 : Addr} (X : K.In h) (G : h.Ns mainGlobals mg) (hfa : mg "law" = some (.ref fa))
    {od0 an0 od1 an1 od2 an2 od3 an3 od4 an4 od5 an5 od6 an6 : Option Addr} {sl0 sl1 sl2 sl3 sl4 sl5 sl6 : Array (Option Value)} {oc0 kV0 dc0 pm0 cd0 ct0 oc1 kV1 dc1 pm1 cd1 ct1 oc2 kV2 dc2 pm2 cd2 ct2 oc3 kV3 dc3 pm3 cd3 ct3 oc4 kV4 dc4 pm4 cd4 ct4 oc5 kV5 dc5 pm5 cd5 ct5 oc6 kV6 dc6 pm6 cd6 ct6 : Value} {tk0 tk1 tk2 : Tok}
    (a0 : PySem.W.nsIn K mainGlobals "is_sign" = some (some (.ref f0))) (l0 : K.lookup f0 = some ⟨oc0, od0, .func (PySem.W.fnOf "is_sign" "is_sign" (defArgs s_is_sign) (defBody s_is_sign) (defScope s_is_sign) .none kV0 dc0 pm0 an0 cd0 ct0), sl0⟩) (c0 : PySem.W.codeIn K cd0 "is_sign" = true) (k0 : PySem.W.keepIn K (.ref f0) = true)
    (a1 : PySem.W.nsIn K mainGlobals "is_name" = some (some (.ref f1))) (l1 : K.lookup f1 = some ⟨oc1, od1, .func (PySem.W.fnOf "is_name" "is_name" (defArgs s_is_name) (defBody s_is_name) (defScope s_is_name) .none kV1 dc1 pm1 an1 cd1 ct1), sl1⟩) (c1 : PySem.W.codeIn K cd1 "is_name" = true) (k1 : PySem.W.keepIn K (.ref f1) = true)
    (a2 : PySem.W.nsIn K mainGlobals "_law_box" = some (some (.ref f2))) (l2 : K.lookup f2 = some ⟨oc2, od2, .func (PySem.W.fnOf "_law_box" "_law_box" (defArgs s_law_box) (defBody s_law_box) (defScope s_law_box) .none kV2 dc2 pm2 an2 cd2 ct2), sl2⟩) (c2 : PySem.W.codeIn K cd2 "_law_box" = true) (k2 : PySem.W.keepIn K (.ref f2) = true)
    (a3 : PySem.W.nsIn K mainGlobals "_law_take" = some (some (.ref f3))) (l3 : K.lookup f3 = some ⟨oc3, od3, .func (PySem.W.fnOf "_law_take" "_law_take" (defArgs s_law_take) (defBody s_law_take) (defScope s_law_take) .none kV3 dc3 pm3 an3 cd3 ct3), sl3⟩) (c3 : PySem.W.codeIn K cd3 "_law_take" = true) (k3 : PySem.W.keepIn K (.ref f3) = true)
    (a4 : PySem.W.nsIn K mainGlobals "_law_any" = some (some (.ref f4))) (l4 : K.lookup f4 = some ⟨oc4, od4, .func (PySem.W.fnOf "_law_any" "_law_any" (defArgs s_law_any) (defBody s_law_any) (defScope s_law_any) .none kV4 dc4 pm4 an4 cd4 ct4), sl4⟩) (c4 : PySem.W.codeIn K cd4 "_law_any" = true) (k4 : PySem.W.keepIn K (.ref f4) = true)
    (a5 : PySem.W.nsIn K mainGlobals "_law_same" = some (some (.ref f5))) (l5 : K.lookup f5 = some ⟨oc5, od5, .func (PySem.W.fnOf "_law_same" "_law_same" (defArgs s_law_same) (defBody s_law_same) (defScope s_law_same) .none kV5 dc5 pm5 an5 cd5 ct5), sl5⟩) (c5 : PySem.W.codeIn K cd5 "_law_same" = true) (k5 : PySem.W.keepIn K (.ref f5) = true)
    (a6 : PySem.W.nsIn K mainGlobals "law" = some (some (.ref f6))) (l6 : K.lookup f6 = some ⟨oc6, od6, .func (PySem.W.fnOf "law" "law" (defArgs s_law) (defBody s_law) (defScope s_law) .none kV6 dc6 pm6 an6 cd6 ct6), sl6⟩) (c6 : PySem.W.codeIn K cd6 "law" = true) (k6 : PySem.W.keepIn K (.ref f6) = true)
    (z0 : PySem.W.nsIn K mainGlobals "len" = some none)    (z1 : PySem.W.nsIn K mainGlobals "int" = some none)    (z2 : PySem.W.nsIn K mainGlobals "str" = some none)    (z3 : PySem.W.nsIn K mainGlobals "bool" = some none)    (z4 : PySem.W.nsIn K mainGlobals "tuple" = some none)    (z5 : PySem.W.nsIn K mainGlobals "list" = some none)    (z6 : PySem.W.nsIn K mainGlobals "all" = some none)    (z7 : PySem.W.nsIn K mainGlobals "any" = some none)    (z8 : PySem.W.nsIn K mainGlobals "isinstance" = some none)    (z9 : PySem.W.nsIn K mainGlobals "range" = some none)    (z10 : PySem.W.nsIn K mainGlobals "zip" = some none)    (z11 : PySem.W.nsIn K mainGlobals "enumerate" = some none)    (z12 : PySem.W.nsIn K mainGlobals "sum" = some none)    (z13 : PySem.W.nsIn K mainGlobals "max" = some none)    (z14 : PySem.W.nsIn K mainGlobals "min" = some none)    (z15 : PySem.W.nsIn K mainGlobals "sorted" = some none)
    (q0 : PySem.W.nsIn K mainGlobals "SMALL" = some (some (.str SMALL tk0)))    (q1 : PySem.W.nsIn K mainGlobals "LARGE" = some (some (.str LARGE tk1)))    (q2 : PySem.W.nsIn K mainGlobals "MOST_LETTERS" = some (some (.int 6 tk2))) :
    ∃ fd : FuncData, (∀ (s : Shared) (v : Value), BindsTo s fd ⟨[v], []⟩ [("_law_script", v)]) ∧ ∀ base : Heap, K.In base → base.Ns mainGlobals mg → FnOk l.prog w K mg base CX0 6 fa fd ["_law_script"] (sp_law K) := by
  have e := hfa.symm.trans (PySem.W.mg_of X G a6)
  cases e
  have B : Bt mg := ⟨PySem.W.mg_none_of X G z0, PySem.W.mg_none_of X G z1, PySem.W.mg_none_of X G z2, PySem.W.mg_none_of X G z3, PySem.W.mg_none_of X G z4, PySem.W.mg_none_of X G z5, PySem.W.mg_none_of X G z6, PySem.W.mg_none_of X G z7, PySem.W.mg_none_of X G z8, PySem.W.mg_none_of X G z9, PySem.W.mg_none_of X G z10, PySem.W.mg_none_of X G z11, PySem.W.mg_none_of X G z12, PySem.W.mg_none_of X G z13, PySem.W.mg_none_of X G z14, PySem.W.mg_none_of X G z15⟩
  exact ⟨_, fun s v => .of_eq rfl, fun base _ _ => all_law (fun_mk (st := s_law) l6 c6 k6) B (dfn_mk X G a0 l0 c0 k0) (dfn_mk X G a1 l1 c1 k1) (dfn_mk X G a2 l2 c2 k2) (dfn_mk X G a3 l3 c3 k3) (dfn_mk X G a4 l4 c4 k4) (dfn_mk X G a5 l5 c5 k5) ⟨_, PySem.W.mg_of X G q0, _, rfl⟩ ⟨_, PySem.W.mg_of X G q1, _, rfl⟩ ⟨_, PySem.W.mg_of X G q2, _, rfl⟩⟩
end G48
open PySem PySem.W PyProof.Rows
set_option maxRecDepth 100000 in
set_option maxHeartbeats 0 in
theorem PySem.Challenge.cw_lendbough_k01_signs_and_names_holds : PySem.Challenge.rw_lendbough_k01_signs_and_names.Holds := by
  w_on; o_law; k_head; (case hw => w_witness2)
  k_fill
  refine L2.walk_of (l := PySem.Challenge.rw_lendbough_k01_signs_and_names) (n := 63) (k := 6) (x := "_law_script") (CX := fun _ => L2.CX0) (sp := fun w => G48.sp_law _) rfl (by decide) rfl ⟨rfl, by decide, by decide⟩ (fun w h Y => PySem.W.kIn_of Y) ?F (fun _ _ a ns hl _ hS => ⟨a, ns, rfl, hS, hl, fun _ => rfl⟩) (fun _ _ _ _ _ h => h)
  case F =>
    intro w mg fa h KX G hmg
    refine' G48.all_mk KX G hmg ?a0 ?l0 ?c0 ?k0 ?a1 ?l1 ?c1 ?k1 ?a2 ?l2 ?c2 ?k2 ?a3 ?l3 ?c3 ?k3 ?a4 ?l4 ?c4 ?k4 ?a5 ?l5 ?c5 ?k5 ?a6 ?l6 ?c6 ?k6 ?z0 ?z1 ?z2 ?z3 ?z4 ?z5 ?z6 ?z7 ?z8 ?z9 ?z10 ?z11 ?z12 ?z13 ?z14 ?z15 ?q0 ?q1 ?q2
    (case a0 => k_is)
    (case l0 => k_is)
    (case c0 => k_is)
    (case k0 => k_is)
    (case a1 => k_is)
    (case l1 => k_is)
    (case c1 => k_is)
    (case k1 => k_is)
    (case a2 => k_is)
    (case l2 => k_is)
    (case c2 => k_is)
    (case k2 => k_is)
    (case a3 => k_is)
    (case l3 => k_is)
    (case c3 => k_is)
    (case k3 => k_is)
    (case a4 => k_is)
    (case l4 => k_is)
    (case c4 => k_is)
    (case k4 => k_is)
    (case a5 => k_is)
    (case l5 => k_is)
    (case c5 => k_is)
    (case k5 => k_is)
    (case a6 => k_is)
    (case l6 => k_is)
    (case c6 => k_is)
    (case k6 => k_is)
    (case z0 => k_is)
    (case z1 => k_is)
    (case z2 => k_is)
    (case z3 => k_is)
    (case z4 => k_is)
    (case z5 => k_is)
    (case z6 => k_is)
    (case z7 => k_is)
    (case z8 => k_is)
    (case z9 => k_is)
    (case z10 => k_is)
    (case z11 => k_is)
    (case z12 => k_is)
    (case z13 => k_is)
    (case z14 => k_is)
    (case z15 => k_is)
    (case q0 => k_is)
    (case q1 => k_is)
    (case q2 => k_is)
