import PyProof.Rows.All
import Wide.All
import OpenK.AllK
import Wide.FinOn
import HandS.ForMost
import HandS.WideBits
import HandS.Wide
import HandS.IsInst
import HandS.Evl
import HandS.Codes
import HandS.Defaults
import HandS.Style
import HandS.RaiseMore
import PySem.Challenge.RW_allscreens_k01_rectangles_of_any_value
set_option Elab.async false
set_option linter.all false
set_option maxRecDepth 100000
set_option maxHeartbeats 1000000
/-! The base of all proofs here: pools of draws as opaque objects, calls, values told in a heap. -/
namespace Lw
open PySem PySem.Spec PyProof.Rows L2 Evl

/-! ### a pool of draws: a list of three ints, whatever they are -/
def poolP (p : Addr) : Heap → Prop := fun h => ∃ (a b c : Int) (its : List Value) (n : Nat), Vals [.int a, .int b, .int c] its ∧ h.get? p = some { cls := .type "list", data := .seq its.toArray n }
def Pool (H : Hp) (p : Addr) : Prop := H p = some (.ext (poolP p))
theorem three_line : (3 : Nat) ≤ sizeLine := by decide

section
variable {P : Program} {w : World} {H : Hp} {h : Heap} {p : Addr}
theorem pool_open (ok : HOk P w H h) (hp : Pool H p) : ∃ a b c : Int, HOk P w (upd H p (.lst [.int a, .int b, .int c])) h := by
  obtain ⟨⟨a, b, c, its, n, r, e⟩, _, _⟩ := ok p _ hp
  refine ⟨a, b, c, fun x o hx => ?_⟩
  by_cases hb : x = p
  · subst hb
    rw [upd_same] at hx
    cases hx
    exact ⟨three_line, its, n, r, e⟩
  · rw [upd_ne hb] at hx
    refine (ok x o hx).stay (fun _ _ _ q => q) (fun y q => ?_) (fun y xs q => ?_)
    · rw [upd_ne (ne_of q hp (by intro z; cases z))]
      exact q
    · rw [upd_ne (ne_of q hp (by intro z; cases z))]
      exact q
theorem pool_close {a b c : Int} (ok : HOk P w H h) (hp : H p = some (.lst [.int a, .int b, .int c])) : HOk P w (upd H p (.ext (poolP p))) h := by
  obtain ⟨_, its, n, r, e⟩ := ok p _ hp
  refine fun x o hx => ?_
  by_cases hb : x = p
  · subst hb
    rw [upd_same] at hx
    cases hx
    exact ⟨⟨a, b, c, its, n, r, e⟩, ⟨_, e⟩, fun h1 h2 ⟨a, b, c, its, n, r, e⟩ k => ⟨a, b, c, its, n, r, k _ e⟩⟩
  · rw [upd_ne hb] at hx
    refine (ok x o hx).stay (fun _ _ _ q => q) (fun y q => ?_) (fun y xs q => ?_)
    · rw [upd_ne (ne_of q hp (by intro z; cases z))]
      exact q
    · rw [upd_ne (ne_of q hp (by intro z; cases z))]
      exact q
end

section
variable {P : Program} {w : World} {K : PySem.W.Frag} {mg : Str → Option Value} {base : Heap} {k : Nat} {f : Addr} {fd : FuncData} {ps : List Str} {sp sp1 : Sp}
/-- at the end: a new list of three ints is handed back as a pool -/
theorem fn_newpool (F : FnOk P w K mg base CX0 k f fd ps sp1)
    (h : ∀ vs H Q E, sp vs H Q E → sp1 vs H (fun v H' => ∃ p a b c, v = .ref p ∧ H p = none ∧ H' p = some (.lst [.int a, .int b, .int c]) ∧ Q v (upd H' p (.ext (poolP p)))) E) :
    FnOk P w K mg base CX0 k f fd ps sp := by
  refine ⟨fun vs H Q E q => F.len _ _ _ _ (h _ _ _ _ q), fun A outer s H args us vs Q E hr he hb hv hs => ?_⟩
  refine codeAny_mono (F.run A outer s H args us vs _ E hr he hb hv (h _ _ _ _ hs)) fun r s' q => ?_
  cases r with
  | error e => exact q
  | ok fl =>
    cases fl with
    | next => exact q
    | brk => exact q
    | cont => exact q
    | ret u =>
      obtain ⟨v, H', os, bare, un, hok, r, p, a, b, c, rfl, hn, hp, q⟩ := q
      refine ⟨_, _, os, bare, ?_, pool_close hok hp, r, q⟩
      refine ⟨un.keep, un.slot, fun x o e n hx => ?_, un.there, fun x xs e => ?_, fun x o u e => ?_, fun x t e => ?_⟩
      · by_cases hb : x = p
        · subst hb
          have := un.free x o e n hx
          rw [hp] at this
          cases this
        · rw [upd_ne hb]
          exact un.free x o e n hx
      · rw [upd_ne (ne_of (un.tups x xs e) hp (by intro z; cases z))]
        exact un.tups x xs e
      · rw [upd_ne (ne_of (un.frzs x o u e) hp (by intro z; cases z))]
        exact un.frzs x o u e
      · obtain ⟨m, e2⟩ := un.tbls x t e
        rw [upd_ne (ne_of e2 hp (by intro z; cases z))]
        exact ⟨m, e2⟩
/-- a def that works at a pool's three ints, told as one that leaves the pool a pool -/
theorem fn_pool (F : FnOk P w K mg base CX0 k f fd ps sp1)
    (h : ∀ vs H Q E, sp vs H Q E → vs.length = ps.length ∧ ∃ p, Pool H p ∧ ∀ a b c : Int, sp1 vs (upd H p (.lst [.int a, .int b, .int c])) (fun v H' => ∃ a b c : Int, H' p = some (.lst [.int a, .int b, .int c]) ∧ Q v (upd H' p (.ext (poolP p)))) E) :
    FnOk P w K mg base CX0 k f fd ps sp := by
  refine ⟨fun vs H Q E q => (h _ _ _ _ q).1, fun A outer s H args us vs Q E hr he hb hv hs => ?_⟩
  obtain ⟨_, p, hp, hs⟩ := h _ _ _ _ hs
  obtain ⟨a, b, c, ok⟩ := pool_open he.hok hp
  have e1 : Env0 P w K mg base A outer s (upd H p (.lst [.int a, .int b, .int c])) :=
    ⟨he.frames, he.mod, fun x o e => ⟨(he.bs x o e).1, by rw [upd_ne (ne_of_none hp (he.bs x o e).2).symm]; exact (he.bs x o e).2⟩, he.bsz, he.funs,
      fun x hx => by rw [upd_ne (ne_of_none hp (he.frf x hx)).symm]; exact he.frf x hx, ok, he.bare⟩
  refine codeAny_mono (F.run A outer s _ args us vs _ E hr e1 hb hv (hs a b c)) fun r s' q => ?_
  cases r with
  | error e => exact q
  | ok fl =>
    cases fl with
    | next => exact q
    | brk => exact q
    | cont => exact q
    | ret u =>
      obtain ⟨v, H', os, bare, un, hok, r, a', b', c', hq, q⟩ := q
      refine ⟨_, _, os, bare, ?_, pool_close hok hq, r, q⟩
      have nn : ∀ {x}, H x = none → (upd H p (.lst [.int a, .int b, .int c])) x = none := fun {x} n => by rw [upd_ne (ne_of_none hp n).symm]; exact n
      refine ⟨fun x o e n => un.keep x o e (nn n), fun x o e n => un.slot x o e (nn n), fun x o e n hx => ?_, un.there, fun x xs e => ?_, fun x o u e => ?_, fun x t e => ?_⟩
      · rw [upd_ne (ne_of_none hp n).symm]
        exact un.free x o e (nn n) hx
      · have hb : x ≠ p := ne_of e hp (by intro z; cases z)
        rw [upd_ne hb]
        exact un.tups x xs (by rw [upd_ne hb]; exact e)
      · have hb : x ≠ p := ne_of e hp (by intro z; cases z)
        rw [upd_ne hb]
        exact un.frzs x o u (by rw [upd_ne hb]; exact e)
      · have hb : x ≠ p := ne_of e hp (by intro z; cases z)
        obtain ⟨m, e2⟩ := un.tbls x t (by rw [upd_ne hb]; exact e)
        exact ⟨m, by rw [upd_ne hb]; exact e2⟩
end

/-! ### a def of the text, its name; a def that may be called -/
structure DefAt (K : PySem.W.Frag) (mg : Str → Option Value) (x : Str) (st : Stmt) : Prop where
  ex : ∃ (f : Addr) (fd : FuncData), Fun K x x st f fd ∧ mg x = some (.ref f)
/-- all parameters are written, by position -/
def Bnd (x : Str) (st : Stmt) (ps : List Str) : Prop := ∀ (kV doc pm : Value) (an : Option Addr) (cdv ct : Value) (us : List Value), us.length = ps.length →
  bindArgs (PySem.W.fnOf x x (defArgs st) (defBody st) (defScope st) .none kV doc pm an cdv ct) ⟨us, []⟩ = pure (ps.zip us)
/-- n by position, the others by the names ks -/
def BndK (x : Str) (st : Stmt) (ps : List Str) (n : Nat) (ks : List Str) (g : {α : Type} → List α → List α → List α) : Prop :=
  ∀ (kV doc pm : Value) (an : Option Addr) (cdv ct : Value) (us ws : List Value), us.length = n → ws.length = ks.length →
  bindArgs (PySem.W.fnOf x x (defArgs st) (defBody st) (defScope st) .none kV doc pm an cdv ct) ⟨us, ks.zip ws⟩ = pure (ps.zip (g us ws))
structure Cl (P : Program) (w : World) (K : PySem.W.Frag) (mg : Str → Option Value) (base : Heap) (CX : CXT) (k : Nat) (x : Str) (st : Stmt) (ps : List Str) (sp : Sp) : Prop where
  ex : ∃ (f : Addr) (fd : FuncData), Fun K x x st f fd ∧ FnOk P w K mg base CX k f fd ps sp ∧ mg x = some (.ref f)
section
variable {P : Program} {w : World} {K : PySem.W.Frag} {mg : Str → Option Value} {base : Heap} {k : Nat} {x : Str} {st : Stmt} {ps N : List Str} {sp sp1 : Sp}
theorem cl_of (D : DefAt K mg x st) (S : FnScope N ps (defScope st)) (len : ∀ vs H Q E, sp vs H Q E → vs.length = ps.length)
    (hbody : ∀ (f : Addr) (cdv : Value) (A : Around) (outer : List Env) (s : Shared) (H : Hp) (vs : List V) (Q : VK) (E : XK), Room k (A.deeper (envOfC x (defScope st) s.heap.objs.size f cdv)) → sp vs H Q E →
      ∃ t, PSs (cxOf CX0 P w K mg base N x (defScope st) f cdv A outer s H E).nox (defBody st) t ∧ t { nx := fun _ H' => Q .non H', rt := Q } (start N vs) H) : Cl P w K mg base CX0 (k + 1) x st ps sp := by
  obtain ⟨f, fd, F, m⟩ := D.ex
  exact ⟨f, fd, F, F.ok S len (hbody f), m⟩
theorem Cl.pool (c : Cl P w K mg base CX0 k x st ps sp1)
    (h : ∀ vs H Q E, sp vs H Q E → vs.length = ps.length ∧ ∃ p, Pool H p ∧ ∀ a b c : Int, sp1 vs (upd H p (.lst [.int a, .int b, .int c])) (fun v H' => ∃ a b c : Int, H' p = some (.lst [.int a, .int b, .int c]) ∧ Q v (upd H' p (.ext (poolP p)))) E) :
    Cl P w K mg base CX0 k x st ps sp := by
  obtain ⟨f, fd, F, o, m⟩ := c.ex
  exact ⟨f, fd, F, fn_pool o h, m⟩
theorem Cl.newpool (c : Cl P w K mg base CX0 k x st ps sp1)
    (h : ∀ vs H Q E, sp vs H Q E → sp1 vs H (fun v H' => ∃ p a b c, v = .ref p ∧ H p = none ∧ H' p = some (.lst [.int a, .int b, .int c]) ∧ Q v (upd H' p (.ext (poolP p)))) E) :
    Cl P w K mg base CX0 k x st ps sp := by
  obtain ⟨f, fd, F, o, m⟩ := c.ex
  exact ⟨f, fd, F, fn_newpool o h, m⟩
theorem Cl.imp {CX : CXT} (c : Cl P w K mg base CX k x st ps sp) (h : ∀ vs H Q E, sp1 vs H Q E → sp vs H Q E) : Cl P w K mg base CX k x st ps sp1 := by
  obtain ⟨f, fd, F, o, m⟩ := c.ex
  exact ⟨f, fd, F, o.imp h, m⟩
end
section
variable {X : Cx} {CX : CXT} {k j n : Nat} {x : Str} {st : Stmt} {sp : Sp} {ps ks : List Str} {p pos : Pos} {e : Expr} {es : List Expr} {kws : List Keyword} {t tk : TA} {E : XK}
/-- f(a, ..): all parameters by position -/
theorem pe_cl (c : Cl X.prog X.w X.K X.mg X.base CX k x st ps sp) (b : Bnd x st ps) (hr : Room j X.A) (hk : k ≤ j) (hg : Gl X x) (hx : Passes CX X E) (ha : PA X (e :: es) t)
    (hdb : (x == ("__debug__" : Str)) = false := by decide) (he : starEach (e :: es) X.env = (false, eval e X.env) :: starEach es X.env := by rfl) (hpl : (backTo pos (starEach es X.env)).any (·.1) = false := by rfl) :
    PE X (.Call (.Name x p) (e :: es) [] pos) (tCall sp [] E t) := by
  obtain ⟨f, fd, F, o, m⟩ := c.ex
  exact pe_call o (hr.mono hk) hg m F.kp (F.binds b) .nil hx ha hdb he hpl
theorem kbn_of {K : PySem.W.Frag} {f : Addr} {fd : FuncData} {g : {α : Type} → List α → List α → List α} (F : Fun K x x st f fd) (b : BndK x st ps n ks g)
    (hrel : ∀ {vs zs : List V} {us ws : List Value}, Vals vs us → Vals zs ws → Vals (g vs zs) (g us ws)) : KBn K fd ps n ks (fun us ws => g us ws) (fun vs zs => g vs zs) := by
  obtain ⟨oc, od, kV, doc, pm, an, cdv, ct, osl, rfl, lk, hcd⟩ := F.ex
  exact ⟨fun s us ws _ h1 h2 => .of_eq (b kV doc pm an cdv ct us ws h1 h2), hrel⟩
/-- f(a, .., k = v, ..): all parameters written -/
theorem pe_clk {g : {α : Type} → List α → List α → List α} (c : Cl X.prog X.w X.K X.mg X.base CX k x st ps sp) (b : BndK x st ps n ks g)
    (hrel : ∀ {vs zs : List V} {us ws : List Value}, Vals vs us → Vals zs ws → Vals (g vs zs) (g us ws))
    (hr : Room j X.A) (hk : k ≤ j) (hg : Gl X x) (hx : Passes CX X E) (ha : PA X (e :: es) t) (hkw : PK X kws tk) (hall : (backToKw pos (keywordEach kws X.env)).all (·.1.isSome) = true := by rfl)
    (hks : (backToKw pos (keywordEach kws X.env)).filterMap (·.1) = ks := by rfl) (hdb : (x == ("__debug__" : Str)) = false := by decide) (he : starEach (e :: es) X.env = (false, eval e X.env) :: starEach es X.env := by rfl)
    (hpl : ((backTo pos (starEach (e :: es) X.env)).any (·.1) || (backToKw pos (keywordEach kws X.env)).any (·.1.isNone)) = false := by rfl) :
    PE X (.Call (.Name x p) (e :: es) kws pos) (tCallN n ks.length sp g E t tk) := by
  obtain ⟨f, fd, F, o, m⟩ := c.ex
  exact pe_callN o (hr.mono hk) hg m F.kp (kbn_of F b hrel) hx ha hkw hall hks hdb he hpl
/-- f(k = v, ..): all by name -/
theorem pe_clk0 {g : {α : Type} → List α → List α → List α} (c : Cl X.prog X.w X.K X.mg X.base CX k x st ps sp) (b : BndK x st ps 0 ks g)
    (hrel : ∀ {vs zs : List V} {us ws : List Value}, Vals vs us → Vals zs ws → Vals (g vs zs) (g us ws))
    (hr : Room j X.A) (hk : k ≤ j) (hg : Gl X x) (hx : Passes CX X E) (hkw : PK X kws tk) (hall : (backToKw pos (keywordEach kws X.env)).all (·.1.isSome) = true := by rfl)
    (hks : (backToKw pos (keywordEach kws X.env)).filterMap (·.1) = ks := by rfl) (hdb : (x == ("__debug__" : Str)) = false := by decide)
    (hpl : ((backTo pos (starEach [] X.env)).any (·.1) || (backToKw pos (keywordEach kws X.env)).any (·.1.isNone)) = false := by rfl) :
    PE X (.Call (.Name x p) [] kws pos) (tCallN 0 ks.length sp g E tNil tk) := by
  obtain ⟨f, fd, F, o, m⟩ := c.ex
  refine ⟨fun pins s σ H Q I h => ?_⟩
  refine wpAny_Call_Name_kw (ld_glob I hg m ?_ hdb)
  refine PySem.W.callWith_KW0 (h₀ := X.base) I.ok.mod.kin F.kp hall ?_ hpl
  refine thn (hkw.run pos pins s σ H _ I h) fun ws s2 ⟨zs, H2, I2, rz, l1, l2, q2⟩ => ⟨I2.kIn, ?_⟩
  rw [hks]
  exact run_fnN o (hr.mono hk) (kbn_of F b hrel) hx I2 .nil rz l1 l2 q2
/-- repr of a truth -/
theorem call_repr_bl : CallR X (.builtin "repr") (fun xs H Q => ∃ b, xs = [.bl b] ∧ Q (.str (if b then "True" else "False")) H) := by
  intro pins s σ H xs us Q I r h
  obtain ⟨b, rfl, q⟩ := h
  obtain ⟨u, rfl, rfl⟩ := vals1 r
  exact PySem.P.repr_of_bool ⟨.str _, H, I.tok _, ⟨_, rfl⟩, q⟩
end

section
variable {P : Program} {w : World} {K : PySem.W.Frag} {mg : Str → Option Value} {base : Heap} {k : Nat} {x : Str} {st : Stmt} {ps : List Str} {sp : Sp} {CX : CXT}
theorem defAt_mk {h : Heap} {f : Addr} {oc : Value} {od an : Option Addr} {osl : Array (Option Value)} {kV doc pm cdv ct : Value} (X : K.In h) (G : h.Ns mainGlobals mg) (a : PySem.W.nsIn K mainGlobals x = some (some (.ref f)))
    (l : K.lookup f = some ⟨oc, od, .func (PySem.W.fnOf x x (defArgs st) (defBody st) (defScope st) .none kV doc pm an cdv ct), osl⟩) (c : PySem.W.codeIn K cdv x = true) (kp : PySem.W.keepIn K (.ref f) = true) : DefAt K mg x st :=
  ⟨f, _, fun_mk l c kp, PySem.W.mg_of X G a⟩
/-- a def's object is one -/
theorem Cl.at {f : Addr} {fd : FuncData} (c : Cl P w K mg base CX k x st ps sp) (F : Fun K x x st f fd) (m : mg x = some (.ref f)) : FnOk P w K mg base CX k f fd ps sp := by
  obtain ⟨f', fd', F', o, m'⟩ := c.ex
  rw [m] at m'
  cases m'
  obtain ⟨oc, od, kV, doc, pm, an, cdv, ct, osl, rfl, lk, _⟩ := F.ex
  obtain ⟨oc', od', kV', doc', pm', an', cdv', ct', osl', rfl, lk', _⟩ := F'.ex
  have e := Option.some.inj (lk.symm.trans lk')
  injection e with _ _ e _
  injection e with e
  rw [e]
  exact o
end

/-! ### the law's draws -/
/-- what is handed back is told by P, all that stood stands -/
def Gets (Pv : V → Hp → Prop) (H : Hp) (Q : VK) : Prop := ∀ v H', Ex H H' → Pv v H' → Q v H'
def spCell (K : PySem.W.Frag) : Sp := fun vs H Q _ => ∃ (a : Addr) (ns : List Int) (i : Int), vs = [.ref a, .int i] ∧ SqL K H a (ns.map V.int) ∧ ns.length ≤ 63 ∧ 0 ≤ i ∧ i ≤ 63 ∧ ∀ (v : Int) H', Ex H H' → Q (.int v) H'
def spPool : Sp := fun vs H Q _ => ∃ i : Int, vs = [.int i] ∧ ∀ p H', H p = none → Ex H H' → Pool H' p → Q (.ref p) H'
def spDraw : Sp := fun vs H Q _ => ∃ (p : Addr) (m : Int), vs = [.ref p, .int m] ∧ Pool H p ∧ 0 < m ∧ m < 2 ^ 128 ∧ ∀ (v : Int) H', Ex H H' → 0 ≤ v → v < m → Q (.int v) H'
def spPool1 : Sp := fun vs H Q _ => ∃ i : Int, vs = [.int i] ∧ ∀ p H' (a b c : Int), H p = none → H' p = some (.lst [.int a, .int b, .int c]) → Ex H H' → Q (.ref p) H'
def spDraw1 : Sp := fun vs H Q _ => ∃ (p : Addr) (m a b c : Int), vs = [.ref p, .int m] ∧ H p = some (.lst [.int a, .int b, .int c]) ∧ 0 < m ∧ m < 2 ^ 128 ∧
  ∀ (v : Int) H' (a b c : Int), (∀ x o, x ≠ p → H x = some o → H' x = some o) → H' p = some (.lst [.int a, .int b, .int c]) → 0 ≤ v → v < m → Q (.int v) H'
theorem spPool_of : ∀ vs H Q E, spPool vs H Q E → spPool1 vs H (fun v H' => ∃ p a b c, v = .ref p ∧ H p = none ∧ H' p = some (.lst [.int a, .int b, .int c]) ∧ Q v (upd H' p (.ext (poolP p)))) E := by
  rintro vs H Q E ⟨i, rfl, q⟩
  refine ⟨i, rfl, fun p H' a b c hn hp e => ⟨p, a, b, c, rfl, hn, hp, q p _ hn (fun x o hx => ?_) upd_same⟩⟩
  rw [upd_ne (ne_of_none hx hn)]
  exact e x o hx
theorem spDraw_of : ∀ vs H Q E, spDraw vs H Q E → vs.length = 2 ∧ ∃ p, Pool H p ∧ ∀ a b c : Int, spDraw1 vs (upd H p (.lst [.int a, .int b, .int c])) (fun v H' => ∃ a b c : Int, H' p = some (.lst [.int a, .int b, .int c]) ∧ Q v (upd H' p (.ext (poolP p)))) E := by
  rintro vs H Q E ⟨p, m, rfl, hp, h0, h1, q⟩
  refine ⟨rfl, p, hp, fun a b c => ⟨p, m, a, b, c, rfl, upd_same, h0, h1, fun v H' a' b' c' k hq v0 v1 => ⟨a', b', c', hq, q v _ (fun x o hx => ?_) v0 v1⟩⟩⟩
  by_cases hb : x = p
  · subst hb
    rw [hp] at hx
    cases hx
    exact upd_same
  · rw [upd_ne hb]
    exact k x o hb (by rw [upd_ne hb]; exact hx)
theorem log2_lt {m : Int} (h0 : 0 < m) (h1 : m < 2 ^ 128) : m.natAbs.log2 < 9000 := by
  have e : m.natAbs < 2 ^ 128 := by omega
  have := (Nat.log2_lt (by omega : m.natAbs ≠ 0)).mpr e
  omega
theorem cdivp {i m : Int} (h0 : 0 < m) (h1 : m < 2 ^ 128) : CDivP i m := ⟨h0, PyProof.noPylong_of_log2 (log2_lt h0 h1)⟩
theorem atI_0 {a b c : V} : atI [a, b, c] 0 = some a := rfl
theorem atI_1 {a b c : V} : atI [a, b, c] 1 = some b := rfl
theorem atI_2 {a b c : V} : atI [a, b, c] 2 = some c := rfl
theorem ex_rdL {K : PySem.W.Frag} {H H' : Hp} {a : Addr} {xs : List V} (e : Ex H H') (h : SqL K H a xs) : SqL K H' a xs := ex_l e h
theorem line_ge : (100000 : Nat) ≤ sizeLine := by decide
/-! ### tests with two ways -/
theorem ifD {p A B : Prop} [Decidable p] (h1 : p → A) (h2 : ¬ p → B) : if decide p = true then A else B := by
  by_cases h : p
  · rw [if_pos (decide_eq_true h)]; exact h1 h
  · rw [if_neg (by simpa using h)]; exact h2 h
theorem ifN {p A B : Prop} [Decidable p] (h1 : ¬ p → A) (h2 : p → B) : if (!decide p) = true then A else B := by
  by_cases h : p
  · rw [if_neg (by simpa using h)]; exact h2 h
  · rw [if_pos (by simpa using h)]; exact h1 h
theorem ifB {b : Bool} {A B : Prop} (h1 : b = true → A) (h2 : b = false → B) : if b = true then A else B := by
  cases b with
  | true => exact h1 rfl
  | false => exact h2 rfl
theorem upd_new {H : Hp} {t a : Addr} {o u : HO} (ht : H t = none) (ha : H a = some o) : upd H t u a = some o := by
  rw [upd_ne (ne_of_none ha ht)]
  exact ha
theorem ex_at {H H' : Hp} {a : Addr} {o : HO} (e : Ex H H') (ha : H a = some o) : H' a = some o := e a o ha
/-- all but p stand -/
def But (p : Addr) (H H' : Hp) : Prop := ∀ x o, x ≠ p → H x = some o → H' x = some o
theorem But.refl {p : Addr} {H : Hp} : But p H H := fun _ _ _ h => h
theorem But.new {p t : Addr} {H H' : Hp} {o : HO} (b : But p H H') (ht : H' t = none) : But p H (upd H' t o) := fun x u n h => upd_new ht (b x u n h)
theorem But.mut {p : Addr} {H H' : Hp} {o : HO} (b : But p H H') : But p H (upd H' p o) := fun x u n h => by
  rw [upd_ne n]
  exact b x u n h
theorem cut_int {ns : List Int} {lo hi : Option Int} {i : Nat} {x : V} (h : (cutV (ns.map V.int) lo hi)[i]? = some x) : ∃ n, x = .int n := by
  have hm := List.mem_of_getElem? h
  have hm2 : x ∈ ns.map V.int := by
    unfold cutV at hm
    exact List.mem_of_mem_drop (List.mem_of_mem_take hm)
  obtain ⟨n, _, e⟩ := List.mem_map.mp hm2
  exact ⟨n, e.symm⟩

/-! ### kinds of values -/
inductive Kd (H : Hp) : V → String → Prop
  | non : Kd H .non "NoneType"
  | bl (b : Bool) : Kd H (.bl b) "bool"
  | int (i : Int) : Kd H (.int i) "int"
  | str (x : Str) : Kd H (.str x) "str"
  | lst {a : Addr} {xs : List V} (h : H a = some (.lst xs)) : Kd H (.ref a) "list"
  | tup {a : Addr} {xs : List V} (h : H a = some (.tup xs)) : Kd H (.ref a) "tuple"
  | dK {a : Addr} {kvs : List (Key × V)} (h : H a = some (.dK kvs)) : Kd H (.ref a) "dict"
def kinds : List String := ["NoneType", "bool", "int", "str", "list", "tuple", "dict"]
def isK (n c : String) : Bool := n == c || (n == "bool" && c == "int")
theorem Kd.mem {H : Hp} {v : V} {n : String} (k : Kd H v n) : n ∈ kinds := by cases k <;> decide
theorem Kd.ty {K : PySem.W.Frag} {H : Hp} {v : V} {n : String} (k : Kd H v n) : TyX K H v (.type n) := by
  cases k with
  | non => exact .base .non
  | bl b => exact .base (.bl b)
  | int i => exact .base (.int i)
  | str x => exact .base (.str x)
  | lst h => exact .base (.lst h)
  | tup h => exact .base (.tup h)
  | dK h => exact .base (.dK h)
theorem kit_all : ∀ n ∈ kinds, ∀ c ∈ ["int", "bool", "tuple", "str", "list", "dict"], kitB n c = some (isK n c) := by decide +kernel
theorem kit_k {K : PySem.W.Frag} {H : Hp} {v : V} {n c : String} (k : Kd H v n) (hc : c ∈ ["int", "bool", "tuple", "str", "list", "dict"]) : PySem.W.kitOne K (.type n) (.type c) = some (isK n c) := kit_ty (kit_all n k.mem c hc)
theorem Kd.ex {H H' : Hp} {v : V} {n : String} (k : Kd H v n) (e : Ex H H') : Kd H' v n := by
  cases k with
  | non => exact .non
  | bl b => exact .bl b
  | int i => exact .int i
  | str x => exact .str x
  | lst h => exact .lst (e _ _ h)
  | tup h => exact .tup (e _ _ h)
  | dK h => exact .dK (e _ _ h)
/-- an integer (no truth) within bounds -/
def inB (lo hi : Int) : V → Bool
  | .int i => decide (lo ≤ i) && decide (i ≤ hi)
  | _ => false
def spInteger : Sp := fun vs H Q _ => ∃ v n, vs = [v] ∧ Kd H v n ∧ Q (.bl (n == "int")) H
def spBetween : Sp := fun vs H Q _ => ∃ v lo hi n, vs = [v, .int lo, .int hi] ∧ Kd H v n ∧ Q (.bl (inB lo hi v)) H
def spNumber : Sp := fun vs H Q _ => ∃ v n, vs = [v] ∧ Kd H v n ∧ Q (.bl (inB (-1000000000000) 1000000000000 v)) H
def rectL : List V → Bool
  | [a, b, c, d] => inB (-1000000000000) 1000000000000 a && inB (-1000000000000) 1000000000000 b && inB 0 1000000000000 c && inB 0 1000000000000 d
  | _ => false
/-- a value that is looked at as a rectangle: no tuple, or a tuple of values of known kinds -/
inductive Th (H : Hp) : V → Bool → Prop
  | other {v : V} {n : String} (k : Kd H v n) (h : n ≠ "tuple") : Th H v false
  | tup {a : Addr} {xs : List V} (h : H a = some (.tup xs)) (ks : ∀ x ∈ xs, ∃ n, Kd H x n) : Th H (.ref a) (rectL xs)
def spRect : Sp := fun vs H Q _ => ∃ v b, vs = [v] ∧ Th H v b ∧ Q (.bl b) H
theorem int_yes {H : Hp} {v : V} {n : String} (k : Kd H v n) (h : isK n "int" = true) : (n == "int") = !isK n "bool" := by
  have hm := k.mem
  exact (by decide : ∀ n ∈ kinds, isK n "int" = true → (n == "int") = !isK n "bool") n hm h
theorem int_no {n : String} (h : isK n "int" = false) : (n == "int") = false := by
  unfold isK at h
  cases e : n == "int" with
  | true => rw [e] at h; cases h
  | false => rfl
theorem Kd.of_int {H : Hp} {v : V} {n : String} (k : Kd H v n) (h : (n == "int") = true) : ∃ i, v = .int i := by
  cases k <;> first | exact ⟨_, rfl⟩ | exact absurd h (by decide)
theorem inB_no {H : Hp} {lo hi : Int} {v : V} {n : String} (k : Kd H v n) (h : (n == "int") = false) : inB lo hi v = false := by
  cases k <;> first | rfl | exact absurd h (by decide)
theorem isK_ne {n c : String} (h : n ≠ c) (hb : c ≠ "int") : isK n c = false := by
  unfold isK
  rw [beq_eq_false_iff_ne.mpr h, beq_eq_false_iff_ne.mpr hb]
  cases n == "bool" <;> rfl
theorem rectL_len {xs : List V} (h : xs.length ≠ 4) : rectL xs = false := by
  unfold rectL
  split
  · exact absurd rfl h
  · rfl
theorem four {xs : List V} (h : xs.length = 4) : ∃ a b c d, xs = [a, b, c, d] := match xs, h with
  | [a, b, c, d], _ => ⟨a, b, c, d, rfl⟩
theorem lenN {n m : Nat} : V.int (n : Int) = V.int (m : Int) ↔ n = m := by
  constructor
  · intro h
    injection h with h
    exact Int.ofNat_inj.mp h
  · intro h; rw [h]
theorem ifNt {b : Bool} {A B : Prop} (h1 : b = false → A) (h2 : b = true → B) : if (!b) = true then A else B := by
  cases b with
  | true => exact h2 rfl
  | false => exact h1 rfl

/-! ### list comprehensions, told item by item -/
/-- all but lists stand -/
def ExT (H H' : Hp) : Prop := ∀ a o, (∀ xs, o ≠ HO.lst xs) → H a = some o → H' a = some o
theorem Ex.exT {H H' : Hp} (e : Ex H H') : ExT H H' := fun a o _ h => e a o h
theorem ExT.wr {H : Hp} {D : Addr} {xs : List V} {o : HO} (h : H D = some (.lst xs)) : ExT H (upd H D o) := fun a u n ha => by
  rw [upd_ne (ne_of ha h (n xs))]
  exact ha
theorem ExT.trans {H H1 H2 : Hp} (a : ExT H H1) (b : ExT H1 H2) : ExT H H2 := fun x o n h => b x o n (a x o n h)
/-- what a turn makes: some item or none -/
abbrev PeT := Nat → Option V → Hp → Prop
def Mono (Pe : PeT) : Prop := ∀ i o H H', ExT H H' → Pe i o H → Pe i o H'
structure LcI (H1 : Hp) (D : Addr) (Pe : PeT) (i : Nat) (H : Hp) : Prop where
  new : H1 D = none
  ex : Ex H1 H
  its : ∃ os : List (Option V), os.length = i ∧ H D = some (.lst (os.filterMap id)) ∧ ∀ m o, os[m]? = some o → Pe m o H
section
variable {H1 H H4 : Hp} {D : Addr} {Pe : PeT} {i n : Nat} {y : V}
theorem LcI.start (h : H1 D = none) : LcI H1 D Pe 0 (upd H1 D (.lst [])) := ⟨h, Ex.new h, [], rfl, upd_same, fun m o e => by simp at e⟩
theorem LcI.more (I : LcI H1 D Pe i H) (mono : Mono Pe) (hi : i < 50000) (e : Ex H H4) (p : Pe i (some y) H4) :
    ∃ acc, H4 D = some (.lst acc) ∧ acc.length < sizeLine ∧ LcI H1 D Pe (i + 1) (upd H4 D (.lst (acc ++ [y]))) := by
  obtain ⟨hn, e1, os, hl, hD, hp⟩ := I
  have hD4 := e _ _ hD
  have hT : ExT H4 (upd H4 D (.lst (os.filterMap id ++ [y]))) := ExT.wr hD4
  refine ⟨_, hD4, ?_, hn, Ex.mut (e1.trans e) hn, os ++ [some y], ?_, ?_, fun m o hm => ?_⟩
  · have := List.length_filterMap_le id os
    exact Nat.lt_of_lt_of_le (by omega) line_ge
  · rw [List.length_append, hl]; rfl
  · rw [upd_same, List.filterMap_append]; rfl
  · by_cases hb : m < os.length
    · rw [List.getElem?_append_left hb] at hm
      exact mono _ _ _ _ ((Ex.exT e).trans hT) (hp m o hm)
    · rw [List.getElem?_append_right (Nat.le_of_not_lt hb)] at hm
      have h0 : m - os.length = 0 := by
        cases hz : m - os.length with
        | zero => rfl
        | succ k => rw [hz] at hm; simp at hm
      rw [h0] at hm
      have e2 : o = some y := (Option.some.inj hm).symm
      have e3 : m = i := by omega
      subst e2 e3
      exact mono _ _ _ _ hT p
theorem LcI.less (I : LcI H1 D Pe i H) (mono : Mono Pe) (e : Ex H H4) (p : Pe i none H4) : LcI H1 D Pe (i + 1) H4 := by
  obtain ⟨hn, e1, os, hl, hD, hp⟩ := I
  refine ⟨hn, e1.trans e, os ++ [none], ?_, ?_, fun m o hm => ?_⟩
  · rw [List.length_append, hl]; rfl
  · rw [List.filterMap_append, e _ _ hD]
    show _ = some (HO.lst (os.filterMap id ++ []))
    rw [List.append_nil]
  · by_cases hb : m < os.length
    · rw [List.getElem?_append_left hb] at hm
      exact mono _ _ _ _ (Ex.exT e) (hp m o hm)
    · rw [List.getElem?_append_right (Nat.le_of_not_lt hb)] at hm
      have h0 : m - os.length = 0 := by
        cases hz : m - os.length with
        | zero => rfl
        | succ k => rw [hz] at hm; simp at hm
      rw [h0] at hm
      have e2 : o = none := (Option.some.inj hm).symm
      have e3 : m = i := by omega
      subst e2 e3
      exact p
/-- a turn: from item x -/
def LcTurn (Pe : PeT) (H1 : Hp) (g : TG) (tt : TT) (te : TE) (vs : List Nat) (σ : L2.St) (i : Nat) (x : V) : Prop := ∀ H, Ex H1 H → ∀ (Q1 : VK) (Q2 : Hp → Prop), (∀ y H4, Ex H H4 → Pe i (some y) H4 → Q1 y H4) → (∀ H4, Ex H H4 → Pe i none H4 → Q2 H4) →
  g x (wipe σ vs) H fun σ2 H2 => wipe σ2 vs = wipe σ vs ∧ tt σ2 H2 fun b H3 => if b = true then te σ2 H3 Q1 else Q2 H3
variable {g : TG} {tt : TT} {te : TE} {vs : List Nat} {σ : L2.St} {Qd : Hp → Prop} {K : PySem.W.Frag} {a : Addr} {xs : List V}
theorem lcR (Pe : PeT) (mono : Mono Pe) (hD : H1 D = none) (hn : n ≤ 50000) (hs : ∀ i, i < n → LcTurn Pe H1 g tt te vs σ i (.int ((0 : Int) + i)))
    (hd : ∀ H' (os : List (Option V)), Ex H1 H' → os.length = n → H' D = some (.lst (os.filterMap id)) → (∀ i o, os[i]? = some o → Pe i o H') → Qd H') :
    ∃ W : Nat → Nat → Hp → Prop, (∃ m, W 0 m (upd H1 D (.lst []))) ∧ ∀ i m H, W i m H →
      ((Itr 0 n).stop i H ∧ Qd H) ∨ ((Itr 0 n).go i H ∧ ∃ Nx : Hp → Prop, (∀ H', Nx H' → ∃ m', m' < m ∧ W (i + 1) m' H') ∧ ∀ x H', (Itr 0 n).yld i H x H' → g x (wipe σ vs) H' fun σ2 H2 => wipe σ2 vs = wipe σ vs ∧ tt σ2 H2 fun b H3 =>
        if b = true then te σ2 H3 fun y H4 => ∃ acc, H4 D = some (.lst acc) ∧ acc.length < sizeLine ∧ Nx (upd H4 D (.lst (acc ++ [y]))) else Nx H3) :=
  lc_range (LcI H1 D Pe) (LcI.start hD) (fun i H hi I => hs i hi H I.ex _ _ (fun y H4 e p => I.more mono (by omega) e p) (fun H4 e p => I.less mono e p))
    (fun H I => by obtain ⟨_, e, os, hl, h, p⟩ := I; exact hd H os e hl h p)
theorem lcL (Pe : PeT) (mono : Mono Pe) (hD : H1 D = none) (hx : SqL K H1 a xs) (hn : xs.length ≤ 50000) (hs : ∀ i x, xs[i]? = some x → LcTurn Pe H1 g tt te vs σ i x)
    (hd : ∀ H' (os : List (Option V)), Ex H1 H' → os.length = xs.length → H' D = some (.lst (os.filterMap id)) → (∀ i o, os[i]? = some o → Pe i o H') → Qd H') :
    ∃ W : Nat → Nat → Hp → Prop, (∃ m, W 0 m (upd H1 D (.lst []))) ∧ ∀ i m H, W i m H →
      ((Itl K a).stop i H ∧ Qd H) ∨ ((Itl K a).go i H ∧ ∃ Nx : Hp → Prop, (∀ H', Nx H' → ∃ m', m' < m ∧ W (i + 1) m' H') ∧ ∀ x H', (Itl K a).yld i H x H' → g x (wipe σ vs) H' fun σ2 H2 => wipe σ2 vs = wipe σ vs ∧ tt σ2 H2 fun b H3 =>
        if b = true then te σ2 H3 fun y H4 => ∃ acc, H4 D = some (.lst acc) ∧ acc.length < sizeLine ∧ Nx (upd H4 D (.lst (acc ++ [y]))) else Nx H3) :=
  lc_list (LcI H1 D Pe) (LcI.start hD) (fun i H _ I => ex_l I.ex hx) (fun i x H hi I => hs i x hi H I.ex _ _ (fun y H4 e p => I.more mono (by have := (List.getElem?_eq_some_iff.mp hi).1; omega) e p) (fun H4 e p => I.less mono e p))
    (fun H I => by obtain ⟨_, e, os, hl, h, p⟩ := I; exact hd H os e hl h p)
theorem lcT (Pe : PeT) (mono : Mono Pe) (hD : H1 D = none) (hx : SqT K H1 a xs) (hn : xs.length ≤ 50000) (hs : ∀ i x, xs[i]? = some x → LcTurn Pe H1 g tt te vs σ i x)
    (hd : ∀ H' (os : List (Option V)), Ex H1 H' → os.length = xs.length → H' D = some (.lst (os.filterMap id)) → (∀ i o, os[i]? = some o → Pe i o H') → Qd H') :
    ∃ W : Nat → Nat → Hp → Prop, (∃ m, W 0 m (upd H1 D (.lst []))) ∧ ∀ i m H, W i m H →
      ((Itt K a).stop i H ∧ Qd H) ∨ ((Itt K a).go i H ∧ ∃ Nx : Hp → Prop, (∀ H', Nx H' → ∃ m', m' < m ∧ W (i + 1) m' H') ∧ ∀ x H', (Itt K a).yld i H x H' → g x (wipe σ vs) H' fun σ2 H2 => wipe σ2 vs = wipe σ vs ∧ tt σ2 H2 fun b H3 =>
        if b = true then te σ2 H3 fun y H4 => ∃ acc, H4 D = some (.lst acc) ∧ acc.length < sizeLine ∧ Nx (upd H4 D (.lst (acc ++ [y]))) else Nx H3) :=
  lc_tup (LcI H1 D Pe) (LcI.start hD) (fun i H _ I => ex_t I.ex hx) (fun i x H hi I => hs i x hi H I.ex _ _ (fun y H4 e p => I.more mono (by have := (List.getElem?_eq_some_iff.mp hi).1; omega) e p) (fun H4 e p => I.less mono e p))
    (fun H I => by obtain ⟨_, e, os, hl, h, p⟩ := I; exact hd H os e hl h p)
end
/-- every turn makes an item: Pf tells it -/
def All (Pf : Nat → V → Hp → Prop) : PeT := fun i o H => ∃ y, o = some y ∧ Pf i y H
theorem All.list {Pf : Nat → V → Hp → Prop} {H : Hp} : ∀ {os : List (Option V)} {k : Nat}, (∀ i o, os[i]? = some o → All Pf (k + i) o H) → ∃ ys : List V, os.filterMap id = ys ∧ ys.length = os.length ∧ ∀ i y, ys[i]? = some y → Pf (k + i) y H
  | [], _, _ => ⟨[], rfl, rfl, fun i y e => by simp at e⟩
  | o :: os, k, h => by
    obtain ⟨y, rfl, p⟩ := h 0 o rfl
    obtain ⟨ys, e1, e2, e3⟩ := All.list (os := os) (k := k + 1) (fun i o e => by
      have := h (i + 1) o e
      rwa [show k + (i + 1) = k + 1 + i by omega] at this)
    refine ⟨y :: ys, by rw [← e1]; rfl, by rw [List.length_cons, List.length_cons, e2], fun i z e => ?_⟩
    cases i with
    | zero =>
      have : y = z := Option.some.inj e
      subst this
      exact p
    | succ i =>
      have := e3 i z e
      rwa [show k + (i + 1) = k + 1 + i by omega]
theorem All.end {Pf : Nat → V → Hp → Prop} {H : Hp} {os : List (Option V)} (h : ∀ i o, os[i]? = some o → All Pf i o H) : ∃ ys : List V, os.filterMap id = ys ∧ ys.length = os.length ∧ ∀ i y, ys[i]? = some y → Pf i y H := by
  obtain ⟨ys, a, b, c⟩ := All.list (k := 0) (fun i o e => by rw [Nat.zero_add]; exact h i o e)
  exact ⟨ys, a, b, fun i y e => by have := c i y e; rwa [Nat.zero_add] at this⟩
theorem all_mono {Pf : Nat → V → Hp → Prop} (h : ∀ i v H H', ExT H H' → Pf i v H → Pf i v H') : Mono (All Pf) := fun i o H H' e ⟨y, a, b⟩ => ⟨y, a, h i y H H' e b⟩
theorem Kd.up {H H' : Hp} {v : V} {n : String} (e : Ex H H') (k : Kd H v n) : Kd H' v n := k.ex e
theorem Kd.new {H : Hp} {t : Addr} {o : HO} {v : V} {n : String} (h : H t = none) (k : Kd H v n) : Kd (upd H t o) v n := k.ex (Ex.new h)
theorem atI_in {xs : List V} {d : Int} (h0 : 0 ≤ d) (h1 : d < xs.length) : ∃ v, v ∈ xs ∧ atI xs d = some v := by
  obtain ⟨j, rfl⟩ := Int.eq_ofNat_of_zero_le h0
  have hj : j < xs.length := by omega
  exact ⟨xs[j], List.getElem_mem hj, atI_nat (List.getElem?_eq_getElem hj)⟩
theorem Th.up {H H' : Hp} {v : V} {b : Bool} (e : Ex H H') (k : Th H v b) : Th H' v b := by
  cases k with
  | other k h => exact .other (k.ex e) h
  | tup h ks => exact .tup (e _ _ h) fun x hx => let ⟨n, k⟩ := ks x hx; ⟨n, k.ex e⟩
theorem Th.kd {H : Hp} {v : V} {b : Bool} (k : Th H v b) : ∃ n, Kd H v n := by
  cases k with
  | other k h => exact ⟨_, k⟩
  | tup h ks => exact ⟨_, .tup h⟩
theorem Pool.up {H H' : Hp} {p : Addr} (e : Ex H H') (h : Pool H p) : Pool H' p := e _ _ h
theorem Pool.new {H : Hp} {t p : Addr} {o : HO} (ht : H t = none) (h : Pool H p) : Pool (upd H t o) p := upd_new ht h
theorem Th.new {H : Hp} {t : Addr} {o : HO} {v : V} {b : Bool} (ht : H t = none) (k : Th H v b) : Th (upd H t o) v b := k.up (Ex.new ht)
theorem ix_in {K : PySem.W.Frag} {H : Hp} {p : Addr} {xs : List V} {d : Int} {Q : VK} (h : SqL K H p xs ∨ SqT K H p xs) (h0 : 0 ≤ d) (h1 : d < xs.length) (q : ∀ v, v ∈ xs → Q v H) : rIx K (.ref p) (.int d) H Q := by
  obtain ⟨v, hv, ha⟩ := atI_in h0 h1
  rcases h with h | h
  · exact .inl ⟨p, xs, d, v, rfl, rfl, h, ha, q v hv⟩
  · exact .inr (.inl ⟨p, xs, d, v, rfl, rfl, h, ha, q v hv⟩)
/-- a heap without one object -/
def Minus (H : Hp) (p : Addr) : Hp := fun a => if a = p then none else H a
theorem minus_at {H : Hp} {p a : Addr} {o : HO} (n : a ≠ p) (h : H a = some o) : Minus H p a = some o := by
  unfold Minus
  rw [if_neg n]
  exact h
theorem minus_ex {H H' : Hp} {p : Addr} (b : But p H H') : Ex (Minus H p) H' := fun a o h => by
  unfold Minus at h
  by_cases n : a = p
  · rw [if_pos n] at h; cases h
  · rw [if_neg n] at h; exact b a o n h
theorem minus_lo {H : Hp} {p : Addr} : Ex (Minus H p) H := minus_ex But.refl
theorem ne_fresh {H : Hp} {a p : Addr} {o : HO} (h : H a = none) (hp : H p = some o) : a ≠ p := (ne_of_none hp h).symm
theorem But.ex {p : Addr} {H H0 H' : Hp} (e : Ex H H0) (h : H p = none) (b : But p H0 H') : Ex H H' := fun a o ha => b a o (ne_of_none ha h) (e a o ha)
theorem But.up {p : Addr} {H H1 H2 : Hp} (b : But p H H1) (e : Ex H1 H2) : But p H H2 := fun a o n h => e a o (b a o n h)
theorem mem_cut {xs : List V} {lo hi : Option Int} {x : V} (h : x ∈ cutV xs lo hi) : x ∈ xs := by
  unfold cutV at h
  exact List.mem_of_mem_drop (List.mem_of_mem_take h)
theorem mem_set {xs : List V} {j : Nat} {x y : V} (h : x ∈ xs.set j y) : x ∈ xs ∨ x = y := List.mem_or_eq_of_mem_set h
theorem ixN_in {n : Nat} {d : Int} (h0 : 0 ≤ d) (h1 : d < n) : ixN n d = some d.toNat := by
  unfold ixN
  rw [if_pos h0, if_pos h1]
/-- o[d] = v in bounds -/
theorem set_in {H : Hp} {p : Addr} {xs : List V} {d : Int} {v : V} {Q : Hp → Prop} (h : H p = some (.lst xs)) (h0 : 0 ≤ d) (h1 : d < xs.length) (q : Q (upd H p (.lst (xs.set d.toNat v)))) : rSetL (.ref p) (.int d) v H Q :=
  ⟨p, xs, d, d.toNat, rfl, rfl, h, ixN_in h0 h1, q⟩
theorem newEx {H H' : Hp} {t : Addr} {o : HO} (h : upd H t o = H') (n : H t = none) : Ex H H' := by rw [← h]; exact Ex.new n
theorem newAt {H H' : Hp} {t : Addr} {o : HO} (h : upd H t o = H') : H' t = some o := by rw [← h]; exact upd_same
theorem mutBut {H H' : Hp} {t : Addr} {o : HO} (h : upd H t o = H') : But t H H' := by rw [← h]; exact But.mut But.refl
theorem but_of {p : Addr} {H H' : Hp} (e : Ex H H') : But p H H' := fun x o _ h => e x o h
theorem law_fd {K : PySem.W.Frag} {mg : Str → Option Value} {x p : Str} {st : Stmt} {fa : Addr} (D : DefAt K mg x st) (b : Bnd x st [p]) (hfa : mg x = some (.ref fa)) : ∃ fd, Fun K x x st fa fd ∧ ∀ (s : Shared) (u : Value), BindsTo s fd ⟨[u], []⟩ [(p, u)] := by
  obtain ⟨f, fd, F, m⟩ := D.ex
  rw [m] at hfa
  cases hfa
  refine ⟨fd, F, ?_⟩
  obtain ⟨oc, od, kV, doc, pm, an, cdv, ct, osl, rfl, lk, hcd⟩ := F.ex
  exact fun s u => .of_eq (b kV doc pm an cdv ct [u] rfl)
/-- the law's promise -/
def spLaw (K : PySem.W.Frag) : Sp := fun vs H Q _ => ∃ (a : Addr) (ns : List Int), vs = [.ref a] ∧ SqL K H a (ns.map V.int) ∧ ns.length ≤ 63 ∧ ∀ H', Q (.bl true) H'
/-- a check of the law: whatever the pool gives, True -/
def spCheck : Sp := fun vs H Q _ => ∃ p, vs = [.ref p] ∧ Pool H p ∧ ∀ H', Ex H H' → Q (.bl true) H'
theorem all_true {ys : List V} (h : ∀ y ∈ ys, y = V.bl true) : ∃ bs : List Bool, ys = bs.map V.bl ∧ bs.all id = true := by
  refine ⟨List.replicate ys.length true, ?_, by simp⟩
  rw [List.map_replicate]
  exact List.eq_replicate_iff.mpr ⟨rfl, h⟩
theorem rep2 {H : Hp} {l : Addr} {xs : List V} {Q : VK} (h : H l = some (.lst xs)) (hl : xs.length ≤ 1000) (q : ∀ p, H p = none → Q (.ref p) (upd H p (.lst (xs ++ xs)))) : rRep (.ref l) (.int 2) H Q := by
  refine ⟨l, 2, xs, rfl, rfl, h, by decide, by decide, ?_, fun p n => ?_⟩
  · exact Nat.le_trans (by show xs.length * 2 ≤ 100000; omega) line_ge
  · have e : (List.replicate (2 : Int).toNat xs).flatten = xs ++ xs := by
      show xs ++ (xs ++ []) = _
      rw [List.append_nil]
    first
      | (rw [e]; exact q p n)
      | exact q p n
theorem const_mk {K : PySem.W.Frag} {h : Heap} {mg : Str → Option Value} {x : Str} {u : Value} {v : V} (X : K.In h) (G : h.Ns mainGlobals mg) (a : PySem.W.nsIn K mainGlobals x = some (some u)) (r : RelV v u) : ∃ u, mg x = some u ∧ RelV v u := ⟨u, PySem.W.mg_of X G a, r⟩
end Lw
local macro_rules | `(tactic| fail "side") => `(tactic| first
  | ((with_reducible show (0 : Int) < _); omega)
  | ((with_reducible show L2.CMul _ _); unfold L2.CMul; omega)
  | ((with_reducible show L2.CDiv _ _); unfold L2.CDiv; omega)
  | ((with_reducible show L2.CPow _ _); unfold L2.CPow; decide)
  | ((with_reducible show (_ : Nat) ≤ _); refine Nat.le_trans ?_ Lw.line_ge; simp only [List.length_cons, List.length_nil, Nat.zero_add, Nat.reduceAdd]; decide)
  | ((with_reducible show (_ : Nat) < _); refine Nat.lt_of_lt_of_le ?_ Lw.line_ge; simp only [List.length_cons, List.length_nil, Nat.zero_add, Nat.reduceAdd]; decide)
  | ((with_reducible show (_ : Int) < _); first | omega | decide)
  | ((with_reducible show (_ : Int) ≤ _); first | omega | decide | (split <;> omega))
  | (show (0 : Int) < _; omega))
local macro_rules | `(tactic| fail "at1") => `(tactic| first
  | assumption
  | ((with_reducible show L2.upd _ _ _ _ = _); first | exact L2.upd_same | exact Lw.upd_new (by assumption) (by fail "at1"))
  | ((with_reducible show Lw.Minus _ _ _ = _); exact Lw.minus_at (Lw.ne_fresh (by assumption) (by fail "at1")) (by fail "at1"))
  | exact Lw.ex_at (by assumption) (by fail "at1"))
local macro_rules | `(tactic| fail "at") => `(tactic| ((with_reducible show (_ : Option L2.HO) = _); fail "at1"))
local macro_rules | `(tactic| fail "pool1") => `(tactic| first
  | assumption
  | ((with_reducible show Lw.Pool (L2.upd _ _ _) _); exact Lw.Pool.new (by assumption) (by fail "pool1"))
  | exact Lw.Pool.up (by assumption) (by fail "pool1"))
local macro_rules | `(tactic| fail "pool") => `(tactic| ((with_reducible show Lw.Pool _ _); fail "pool1"))
local macro_rules | `(tactic| fail "th1") => `(tactic| first
  | assumption
  | ((with_reducible show Lw.Th (L2.upd _ _ _) _ _); exact Lw.Th.new (by assumption) (by fail "th1"))
  | exact Lw.Th.up (by assumption) (by fail "th1"))
local macro_rules | `(tactic| fail "th") => `(tactic| ((with_reducible show Lw.Th _ _ _); fail "th1"))
local macro_rules | `(tactic| fail "sql1") => `(tactic| first
  | assumption
  | exact L2.SqL.of (by fail "at1")
  | ((with_reducible show L2.SqL _ (L2.upd _ _ _) _ _); exact Evl.ex_l (Evl.Ex.new (by assumption)) (by fail "sql1"))
  | exact Evl.ex_l (by assumption) (by fail "sql1"))
local macro_rules | `(tactic| fail "sql") => `(tactic| ((with_reducible show L2.SqL _ _ _ _); fail "sql1"))
local macro_rules | `(tactic| fail "sqt1") => `(tactic| first
  | assumption
  | exact L2.SqT.of (by fail "at1")
  | ((with_reducible show L2.SqT _ (L2.upd _ _ _) _ _); exact Evl.ex_t (Evl.Ex.new (by assumption)) (by fail "sqt1"))
  | exact Evl.ex_t (by assumption) (by fail "sqt1"))
local macro_rules | `(tactic| fail "sqt") => `(tactic| ((with_reducible show L2.SqT _ _ _ _); fail "sqt1"))
local macro_rules | `(tactic| fail "kd1") => `(tactic| first
  | assumption | exact Lw.Kd.int _ | exact Lw.Kd.bl _ | exact Lw.Kd.str _ | exact Lw.Kd.non
  | exact Lw.Kd.tup (by fail "at1") | exact Lw.Kd.lst (by fail "at1") | exact Lw.Kd.dK (by fail "at1")
  | ((with_reducible show Lw.Kd (L2.upd _ _ _) _ _); exact Lw.Kd.new (by assumption) (by fail "kd1"))
  | exact Lw.Kd.up (by assumption) (by fail "kd1"))
local macro_rules | `(tactic| fail "kd") => `(tactic| ((with_reducible show Lw.Kd _ _ _); fail "kd1"))
local macro_rules | `(tactic| fail "st") => `(tactic| first
  | (refine ⟨_, rfl, ?_⟩)
  | (refine ⟨_, _, rfl, rfl, ?_⟩)
  | (refine ⟨_, _, _, _, rfl, rfl, (by fail "sql"), (by first | rfl | assumption), ?_⟩)
  | (refine ⟨_, _, _, _, rfl, rfl, (by fail "sqt"), (by first | rfl | assumption), ?_⟩)
  | (refine ⟨_, _, _, _, rfl, rfl, (by fail "at"), rfl, ?_⟩)
  | (refine Or.inl ⟨_, _, _, _, rfl, rfl, (by fail "sql"), (by first | rfl | assumption), ?_⟩)
  | (refine Or.inr (Or.inl ⟨_, _, _, _, rfl, rfl, (by fail "sqt"), (by first | rfl | assumption), ?_⟩))
  | (refine ⟨_, _, _, _, rfl, (by fail "kd"), ?_⟩)
  | (refine ⟨_, _, rfl, Or.inl ⟨_, (by fail "sql"), rfl⟩, ?_⟩)
  | (refine ⟨_, _, rfl, Or.inr ⟨_, (by fail "sqt"), rfl⟩, ?_⟩)
  | (refine ⟨_, _, rfl, (by fail "sqt"), rfl, ?_⟩)
  | (refine ⟨_, _, rfl, (by fail "kd"), ?_⟩)
  | (refine ⟨_, _, rfl, (by fail "th"), ?_⟩)
  | (refine ⟨_, _, rfl, (by fail "sql"), ?_⟩)
  | (refine ⟨_, _, rfl, (by fail "sqt"), ?_⟩)
  | (refine ⟨(by fail "side"), ?_⟩)
  | (refine ⟨(by fail "pool"), ?_⟩)
  | (refine ⟨_, _, rfl, ?_⟩)
  | (refine ⟨rfl, ?_⟩)
  | (refine ⟨_, _, _, _, _, rfl, L2.ClsV.ty _, Lw.Kd.ty (by fail "kd"), Lw.kit_k (by fail "kd") (by decide), ?_⟩))
namespace K01
open PySem PySem.Spec PyProof.Rows L2 Evl Lw
def topS (i : Nat) : Stmt := PySem.Challenge.pw_allscreens_k01_rectangles_of_any_value.main.body.getD i (.Pass ⟨0, 0, 0, 0⟩)
abbrev s_is_integer : Stmt := topS 2
abbrev N_is_integer : List Str := ["value"]
theorem sc_is_integer : FnScope N_is_integer ["value"] (defScope s_is_integer) := ⟨rfl, rfl, rfl, by decide +kernel, rfl, by decide +kernel, by decide +kernel⟩
theorem b_is_integer : Lw.Bnd "is_integer" s_is_integer ["value"] := fun _ _ _ _ _ _ us hl => match us, hl with | [_], _ => rfl
abbrev s_is_between : Stmt := topS 3
abbrev N_is_between : List Str := ["value", "low", "high"]
theorem sc_is_between : FnScope N_is_between ["value", "low", "high"] (defScope s_is_between) := ⟨rfl, rfl, rfl, by decide +kernel, rfl, by decide +kernel, by decide +kernel⟩
theorem b_is_between : Lw.Bnd "is_between" s_is_between ["value", "low", "high"] := fun _ _ _ _ _ _ us hl => match us, hl with | [_, _, _], _ => rfl
abbrev s_is_number : Stmt := topS 4
abbrev N_is_number : List Str := ["value"]
theorem sc_is_number : FnScope N_is_number ["value"] (defScope s_is_number) := ⟨rfl, rfl, rfl, by decide +kernel, rfl, by decide +kernel, by decide +kernel⟩
theorem b_is_number : Lw.Bnd "is_number" s_is_number ["value"] := fun _ _ _ _ _ _ us hl => match us, hl with | [_], _ => rfl
abbrev s_is_rect : Stmt := topS 6
abbrev N_is_rect : List Str := ["value"]
theorem sc_is_rect : FnScope N_is_rect ["value"] (defScope s_is_rect) := ⟨rfl, rfl, rfl, by decide +kernel, rfl, by decide +kernel, by decide +kernel⟩
theorem b_is_rect : Lw.Bnd "is_rect" s_is_rect ["value"] := fun _ _ _ _ _ _ us hl => match us, hl with | [_], _ => rfl
abbrev s_law_cell : Stmt := topS 8
abbrev N_law_cell : List Str := ["_law_script", "_law_k", "_law_state_here", "_law_cell_here"]
theorem sc_law_cell : FnScope N_law_cell ["_law_script", "_law_k"] (defScope s_law_cell) := ⟨rfl, rfl, rfl, by decide +kernel, rfl, by decide +kernel, by decide +kernel⟩
theorem b_law_cell : Lw.Bnd "_law_cell" s_law_cell ["_law_script", "_law_k"] := fun _ _ _ _ _ _ us hl => match us, hl with | [_, _], _ => rfl
abbrev s_law_pool : Stmt := topS 9
abbrev N_law_pool : List Str := ["_law_cell_here", "_law_digits"]
theorem sc_law_pool : FnScope N_law_pool ["_law_cell_here"] (defScope s_law_pool) := ⟨rfl, rfl, rfl, by decide +kernel, rfl, by decide +kernel, by decide +kernel⟩
theorem b_law_pool : Lw.Bnd "_law_pool" s_law_pool ["_law_cell_here"] := fun _ _ _ _ _ _ us hl => match us, hl with | [_], _ => rfl
abbrev s_law_draw : Stmt := topS 10
abbrev N_law_draw : List Str := ["_law_pool_here", "_law_many", "_law_old", "_law_digit"]
theorem sc_law_draw : FnScope N_law_draw ["_law_pool_here", "_law_many"] (defScope s_law_draw) := ⟨rfl, rfl, rfl, by decide +kernel, rfl, by decide +kernel, by decide +kernel⟩
theorem b_law_draw : Lw.Bnd "_law_draw" s_law_draw ["_law_pool_here", "_law_many"] := fun _ _ _ _ _ _ us hl => match us, hl with | [_, _], _ => rfl
abbrev s_law_within : Stmt := topS 11
abbrev N_law_within : List Str := ["_law_thing_here", "_law_low", "_law_high"]
theorem sc_law_within : FnScope N_law_within ["_law_thing_here", "_law_low", "_law_high"] (defScope s_law_within) := ⟨rfl, rfl, rfl, by decide +kernel, rfl, by decide +kernel, by decide +kernel⟩
theorem b_law_within : Lw.Bnd "_law_within" s_law_within ["_law_thing_here", "_law_low", "_law_high"] := fun _ _ _ _ _ _ us hl => match us, hl with | [_, _, _], _ => rfl
abbrev s_law_due : Stmt := topS 12
abbrev N_law_due : List Str := ["_law_thing_here"]
theorem sc_law_due : FnScope N_law_due ["_law_thing_here"] (defScope s_law_due) := ⟨rfl, rfl, rfl, by decide +kernel, rfl, by decide +kernel, by decide +kernel⟩
theorem b_law_due : Lw.Bnd "_law_due" s_law_due ["_law_thing_here"] := fun _ _ _ _ _ _ us hl => match us, hl with | [_], _ => rfl
abbrev s_law_number : Stmt := topS 13
abbrev N_law_number : List Str := ["_law_pool_here", "_law_some"]
theorem sc_law_number : FnScope N_law_number ["_law_pool_here"] (defScope s_law_number) := ⟨rfl, rfl, rfl, by decide +kernel, rfl, by decide +kernel, by decide +kernel⟩
theorem b_law_number : Lw.Bnd "_law_number" s_law_number ["_law_pool_here"] := fun _ _ _ _ _ _ us hl => match us, hl with | [_], _ => rfl
abbrev s_law_thing : Stmt := topS 14
abbrev N_law_thing : List Str := ["_law_pool_here", "_law_found", "_law_odd", "_law_turn", "_law_way", "_law_k"]
theorem sc_law_thing : FnScope N_law_thing ["_law_pool_here"] (defScope s_law_thing) := ⟨rfl, rfl, rfl, by decide +kernel, rfl, by decide +kernel, by decide +kernel⟩
theorem b_law_thing : Lw.Bnd "_law_thing" s_law_thing ["_law_pool_here"] := fun _ _ _ _ _ _ us hl => match us, hl with | [_], _ => rfl
abbrev s_law_right : Stmt := topS 15
abbrev N_law_right : List Str := ["_law_pool_here", "_law_turn", "_law_thing_here"]
theorem sc_law_right : FnScope N_law_right ["_law_pool_here"] (defScope s_law_right) := ⟨rfl, rfl, rfl, by decide +kernel, rfl, by decide +kernel, by decide +kernel⟩
theorem b_law_right : Lw.Bnd "_law_right" s_law_right ["_law_pool_here"] := fun _ _ _ _ _ _ us hl => match us, hl with | [_], _ => rfl
abbrev s_law : Stmt := topS 16
abbrev N_law : List Str := ["_law_script", "_law_k"]
theorem sc_law : FnScope N_law ["_law_script"] (defScope s_law) := ⟨rfl, rfl, rfl, by decide +kernel, rfl, by decide +kernel, by decide +kernel⟩
theorem b_law : Lw.Bnd "law" s_law ["_law_script"] := fun _ _ _ _ _ _ us hl => match us, hl with | [_], _ => rfl
def gk_bk_is_rect_0_value {α : Type} : List α → List α → List α | [], [z0] => [z0] | _, _ => []
theorem rk_bk_is_rect_0_value {vs zs : List V} {us ws : List Value} (a : Vals vs us) (b : Vals zs ws) : Vals (gk_bk_is_rect_0_value vs zs) (gk_bk_is_rect_0_value us ws) := by
  have la := Paired.length a
  have lb := Paired.length b
  by_cases h1 : vs.length = 0 ∧ zs.length = 1
  · obtain ⟨h1, h2⟩ := h1
    match vs, us, zs, ws, a, b, h1, h2 with
    | [], [], [_], [_], .nil, .cons k0 (.nil), _, _ => exact .cons k0 (.nil)
  · have e1 : gk_bk_is_rect_0_value vs zs = [] := by
      unfold gk_bk_is_rect_0_value; split
      · exact absurd ⟨rfl, rfl⟩ h1
      · rfl
    have e2 : gk_bk_is_rect_0_value us ws = [] := by
      unfold gk_bk_is_rect_0_value; split
      · exact absurd ⟨la, lb⟩ h1
      · rfl
    rw [e1, e2]
    exact .nil
theorem bk_is_rect_0_value : Lw.BndK "is_rect" s_is_rect ["value"] 0 ["value"] (fun {_} => gk_bk_is_rect_0_value) := fun _ _ _ _ _ _ us ws h1 h2 => match us, h1, ws, h2 with | [], _, [_], _ => rfl
theorem bt_abs : bootBuiltins "abs" = some (.builtin "abs") := by decide +kernel
theorem bt_all : bootBuiltins "all" = some (.builtin "all") := by decide +kernel
theorem bt_bool : bootBuiltins "bool" = some (.type "bool") := by decide +kernel
theorem bt_divmod : bootBuiltins "divmod" = some (.builtin "divmod") := by decide +kernel
theorem bt_int : bootBuiltins "int" = some (.type "int") := by decide +kernel
theorem bt_isinstance : bootBuiltins "isinstance" = some (.builtin "isinstance") := by decide +kernel
theorem bt_len : bootBuiltins "len" = some (.builtin "len") := by decide +kernel
theorem bt_max : bootBuiltins "max" = some (.builtin "max") := by decide +kernel
theorem bt_min : bootBuiltins "min" = some (.builtin "min") := by decide +kernel
theorem bt_range : bootBuiltins "range" = some (.type "range") := by decide +kernel
theorem bt_repr : bootBuiltins "repr" = some (.builtin "repr") := by decide +kernel
theorem bt_tuple : bootBuiltins "tuple" = some (.type "tuple") := by decide +kernel
/-- what stands behind the top -/
structure Txt (K : PySem.W.Frag) (mg : Str → Option Value) : Prop where
  d_is_integer : Lw.DefAt K mg "is_integer" s_is_integer
  d_is_between : Lw.DefAt K mg "is_between" s_is_between
  d_is_number : Lw.DefAt K mg "is_number" s_is_number
  d_is_rect : Lw.DefAt K mg "is_rect" s_is_rect
  d_law_cell : Lw.DefAt K mg "_law_cell" s_law_cell
  d_law_pool : Lw.DefAt K mg "_law_pool" s_law_pool
  d_law_draw : Lw.DefAt K mg "_law_draw" s_law_draw
  d_law_within : Lw.DefAt K mg "_law_within" s_law_within
  d_law_due : Lw.DefAt K mg "_law_due" s_law_due
  d_law_number : Lw.DefAt K mg "_law_number" s_law_number
  d_law_thing : Lw.DefAt K mg "_law_thing" s_law_thing
  d_law_right : Lw.DefAt K mg "_law_right" s_law_right
  d_law : Lw.DefAt K mg "law" s_law
  b_abs : mg "abs" = none
  b_all : mg "all" = none
  b_bool : mg "bool" = none
  b_divmod : mg "divmod" = none
  b_int : mg "int" = none
  b_isinstance : mg "isinstance" = none
  b_len : mg "len" = none
  b_max : mg "max" = none
  b_min : mg "min" = none
  b_range : mg "range" = none
  b_repr : mg "repr" = none
  b_tuple : mg "tuple" = none
  g_MOST_SIZE : ∃ u, mg "MOST_SIZE" = some u ∧ RelV (.int 1000000000000) u

end K01
namespace K01
open PySem PySem.Spec PyProof.Rows L2 Evl Lw
section
variable {P : Program} {w : World} {K : PySem.W.Frag} {mg : Str → Option Value} {base : Heap}
theorem c_law_draw (T : Txt K mg) : Cl P w K mg base CX0 1 "_law_draw" s_law_draw ["_law_pool_here", "_law_many"] spDraw := by
  refine Cl.pool (cl_of (sp := spDraw1) (k := 0) T.d_law_draw sc_law_draw (fun vs H Q E h => ?_) (fun f cdv A outer s H vs Q E hr h => ?_)) spDraw_of
  · obtain ⟨p, m, a, b, c, rfl, _⟩ := h
    rfl
  · obtain ⟨p, m, a, b, c, rfl, hp, h0, h1, q⟩ := h
    have nd := sc_law_draw.nd
    refine ⟨_, (pss_cons (ps_asg (pe_op op_add (pe_ix ix_seq (pv 0) pe_int (fun _ _ => rfl)) pe_int) (pg_sub (pv 0) pe_int set_list))
      (pss_cons (ps_set (i := 2) nd rfl (Or.inl rfl) (pe_ix ix_seq (pv 0) pe_int (fun _ _ => rfl)))
      (pss_cons (ps_asg (pe_op op_mod (pe_op op_add (pe_op op_add (pe_op op_mul (pv 2) (pe_op op_add (pe_op op_mod (pv 2) pe_int) pe_int)) (pe_op op_mul pe_int (pe_ix ix_seq (pv 0) pe_int (fun _ _ => rfl)))) pe_int) pe_int) (pg_sub (pv 0) pe_int set_list))
      (pss_cons (ps_if (pt_cmpR op_gt (pe_ix ix_seq (pv 0) pe_int (fun _ _ => rfl)) pe_int (nomark _)) (pss_cons (ps_asg (pe_callB (call_divmodW) (by rfl) T.b_divmod bt_divmod (pa_cons (pe_ix ix_seq (pv 0) pe_int (fun _ _ => rfl)) (pa_cons (pv 1) pa_nil))) (pg_tup rfl (pgs_cons (pg_sub (pv 0) pe_int set_list) (pgs_cons (pg_name (i := 3) nd rfl (Or.inl rfl)) pgs_nil))))
      (pss_one (ps_ret (pv 3)))) pss_nil)
      (pss_one (ps_ret (pe_op op_mod (pe_op op_fdiv (pe_ix ix_seq (pv 0) pe_int (fun _ _ => rfl)) pe_int) (pv 1)))))))), ?_⟩
    repeat fail "st"
    refine ifD (fun hb => ?_) (fun hb => ?_)
    · repeat fail "st"
      refine ⟨cdivp h0 h1, fun t ht => ?_⟩
      have np : p ≠ t := ne_of_none upd_same ht
      repeat fail "st"
      exact q _ _ _ _ _ (But.mut (But.new (But.mut (But.mut But.refl)) ht)) upd_same (Int.emod_nonneg _ (by omega)) (Int.emod_lt_of_pos _ h0)
    · repeat fail "st"
      exact q _ _ _ _ _ (But.mut (But.mut But.refl)) upd_same (Int.emod_nonneg _ (by omega)) (Int.emod_lt_of_pos _ h0)
theorem c_law_pool (T : Txt K mg) : Cl P w K mg base CX0 1 "_law_pool" s_law_pool ["_law_cell_here"] spPool := by
  refine Cl.newpool (cl_of (sp := spPool1) (k := 0) T.d_law_pool sc_law_pool (fun vs H Q E h => ?_) (fun f cdv A outer s H vs Q E hr h => ?_)) spPool_of
  · obtain ⟨i, rfl, _⟩ := h
    rfl
  · obtain ⟨i, rfl, q⟩ := h
    have nd := sc_law_pool.nd
    refine ⟨_, (pss_cons (ps_set (i := 1) nd rfl (Or.inl rfl) (pe_ifExp (PW.pt (pw_or (pt_cmpR op_lt (pv 0) pe_int (nomark _)) (pw_or1 (pt_cmpR op_ge (pv 0) (pe_op op_pow pe_int pe_int) (nomark _))))) (pe_callB (call_abs) (by rfl) T.b_abs bt_abs (pa_cons (pv 0) pa_nil)) pe_int))
      (pss_one (ps_ret (pe_lst (pa_cons (pe_op op_mod (pv 0) pe_int) (pa_cons (pv 1) (pa_cons pe_int pa_nil))))))), ?_⟩
    repeat fail "st"
    refine ifD (fun hb => ?_) (fun hb => ?_)
    · repeat fail "st"
      refine iteT (B := True) ?_
      repeat fail "st"
      exact fun t ht => q t _ _ _ _ ht upd_same (Ex.new ht)
    · repeat fail "st"
      refine ifD (fun hb => ?_) (fun hb => ?_)
      · repeat fail "st"

        exact fun t ht => q t _ _ _ _ ht upd_same (Ex.new ht)
      · repeat fail "st"
        exact fun t ht => q t _ _ _ _ ht upd_same (Ex.new ht)
theorem c_law_cell (T : Txt K mg) : Cl P w K mg base CX0 1 "_law_cell" s_law_cell ["_law_script", "_law_k"] (spCell K) := by
  refine cl_of (k := 0) T.d_law_cell sc_law_cell (fun vs H Q E h => ?_) (fun f cdv A outer s H vs Q E hr h => ?_)
  · obtain ⟨a, ns, i, rfl, _⟩ := h
    rfl
  · obtain ⟨a, ns, i, rfl, hS, hl, h0, h1, q⟩ := h
    have nd := sc_law_cell.nd
    refine ⟨_, (pss_cons (ps_if (pt_cmpR op_lt (pv 1) (pe_callB (call_len) (by rfl) T.b_len bt_len (pa_cons (pv 0) pa_nil)) (nomark _)) (pss_one (ps_ret (pe_ix ix_seq (pv 0) (pv 1) (fun _ _ => rfl)))) pss_nil)
      (pss_cons (ps_set (i := 2) nd rfl (Or.inl rfl) (pe_op op_mod (pe_op op_mul pe_int (pe_op op_add (pe_op op_add (pe_op op_mul (pv 1) (pv 1)) (pe_op op_mul pe_int (pv 1))) pe_int)) pe_int))
      (pss_cons (ps_for PassesOwn.never rfl (pi_list (pe_slice sl_list (pv 0) po_none (po_some pe_int))) (pg_name (i := 3) nd rfl (Or.inl rfl)) (pss_one (ps_set (i := 2) nd rfl (Or.inl rfl) (pe_op op_mod (pe_op op_add (pe_op op_mul (pv 2) pe_int) (pv 3)) pe_int))))
      (pss_one (ps_ret (pv 2)))))), ?_⟩
    repeat fail "st"
    refine ifD (fun hb => ?_) (fun hb => ?_)
    · rw [List.length_map] at hb
      obtain ⟨j, rfl⟩ := Int.eq_ofNat_of_zero_le h0
      have hj : j < ns.length := by omega
      have ga : atI (ns.map V.int) (j : Int) = some (.int ns[j]) := atI_nat (by rw [List.getElem?_map, List.getElem?_eq_getElem hj]; rfl)
      repeat fail "st"
      exact q _ _ (Ex.refl H)
    · repeat fail "st"
      intro c nc
      refine ⟨_, rfl, ⟨_, SqL.of upd_same⟩, ?_⟩
      refine for_list (xs := cutV (ns.map V.int) none (some 3)) (fun _ σ H' => ∃ (z : Int) (y : Option V), σ = [some (.ref a), some (.int i), some (.int z), y] ∧ H' = upd H c (.lst (cutV (ns.map V.int) none (some 3)))) ⟨_, _, rfl, rfl⟩ ?_ ?_ ?_
      · rintro _ _ _ _ ⟨z, y, rfl, rfl⟩
        exact SqL.of upd_same
      · rintro _ x _ _ hx ⟨z, y, rfl, rfl⟩
        obtain ⟨n, rfl⟩ := cut_int hx
        repeat fail "st"
        rfl
      · rintro _ _ ⟨z, y, rfl, rfl⟩
        repeat fail "st"
        exact q _ _ (Ex.new nc)
end

end K01
namespace K01
open PySem PySem.Spec PyProof.Rows L2 Evl Lw
section
variable {P : Program} {w : World} {K : PySem.W.Frag} {mg : Str → Option Value} {base : Heap}
theorem c_is_integer (T : Txt K mg) : Cl P w K mg base CX0 1 "is_integer" s_is_integer ["value"] spInteger := by
  refine cl_of (k := 0) T.d_is_integer sc_is_integer (fun vs H Q E h => ?_) (fun f cdv A outer s H vs Q E hr h => ?_)
  · obtain ⟨v, n, rfl, _⟩ := h
    rfl
  · obtain ⟨v, n, rfl, k, q⟩ := h
    have nd := sc_is_integer.nd
    refine ⟨_, (pss_one (ps_ret (pe_and (pe_callB (call_isi) (by rfl) T.b_isinstance bt_isinstance (pa_cons (pv 0) (pa_cons (pe_bltn (v := .ty "int") (by rfl) T.b_int bt_int rfl) pa_nil))) (pe_one (pe_not (pe_callB (call_isi) (by rfl) T.b_isinstance bt_isinstance (pa_cons (pv 0) (pa_cons (pe_bltn (v := .ty "bool") (by rfl) T.b_bool bt_bool rfl) pa_nil)))))))), ?_⟩
    repeat fail "st"
    refine ifB (fun h => ?_) (fun h => ?_)
    · repeat fail "st"
      rw [int_yes k h] at q
      exact q
    · rw [int_no h] at q
      exact q
theorem c_is_between (T : Txt K mg) : Cl P w K mg base CX0 2 "is_between" s_is_between ["value", "low", "high"] spBetween := by
  refine cl_of (k := 1) T.d_is_between sc_is_between (fun vs H Q E h => ?_) (fun f cdv A outer s H vs Q E hr h => ?_)
  · obtain ⟨v, lo, hi, n, rfl, _⟩ := h
    rfl
  · obtain ⟨v, lo, hi, n, rfl, k, q⟩ := h
    have nd := sc_is_between.nd
    refine ⟨_, (pss_one (ps_ret (pe_and (Lw.pe_cl (c_is_integer T) b_is_integer hr (by decide) (by rfl) pass0 (pa_cons (pv 0) pa_nil)) (pe_one (pe_chain op_le op_le (pv 1) (pv 0) (pv 2)))))), ?_⟩
    repeat fail "st"
    refine ifB (fun h => ?_) (fun h => ?_)
    · obtain ⟨i, rfl⟩ := k.of_int h
      repeat fail "st"
      refine ifD (fun h1 => ?_) (fun h1 => ?_)
      · repeat fail "st"
        rw [inB, decide_eq_true h1] at q
        exact q
      · rw [inB, decide_eq_false h1] at q
        exact q
    · rw [inB_no k h] at q
      exact q
theorem c_is_number (T : Txt K mg) : Cl P w K mg base CX0 3 "is_number" s_is_number ["value"] spNumber := by
  refine cl_of (k := 2) T.d_is_number sc_is_number (fun vs H Q E h => ?_) (fun f cdv A outer s H vs Q E hr h => ?_)
  · obtain ⟨v, n, rfl, _⟩ := h
    rfl
  · obtain ⟨v, n, rfl, k, q⟩ := h
    have nd := sc_is_number.nd
    refine ⟨_, (pss_one (ps_ret (Lw.pe_cl (c_is_between T) b_is_between hr (by decide) (by rfl) pass0 (pa_cons (pv 0) (pa_cons (pe_un un_neg (C8.pe_gc (by rfl) T.g_MOST_SIZE)) (pa_cons (C8.pe_gc (by rfl) T.g_MOST_SIZE) pa_nil)))))), ?_⟩
    repeat fail "st"
    exact q
theorem c_is_rect (T : Txt K mg) : Cl P w K mg base CX0 4 "is_rect" s_is_rect ["value"] spRect := by
  refine cl_of (k := 3) T.d_is_rect sc_is_rect (fun vs H Q E h => ?_) (fun f cdv A outer s H vs Q E hr h => ?_)
  · obtain ⟨v, n, rfl, _⟩ := h
    rfl
  · obtain ⟨v, n, rfl, k, q⟩ := h
    have nd := sc_is_rect.nd
    refine ⟨_, (pss_cons (ps_if (PW.pt (pw_or (pt_not (pt_val (pe_callB (call_isi) (by rfl) T.b_isinstance bt_isinstance (pa_cons (pv 0) (pa_cons (pe_bltn (v := .ty "tuple") (by rfl) T.b_tuple bt_tuple rfl) pa_nil))))) (pw_or (pt_cmpR op_ne (pe_callB (call_len) (by rfl) T.b_len bt_len (pa_cons (pv 0) pa_nil)) pe_int (nomark _)) (pw_or (pt_not (pt_val (Lw.pe_cl (c_is_number T) b_is_number hr (by decide) (by rfl) pass0 (pa_cons (pe_ix ix_seq (pv 0) pe_int (fun _ _ => rfl)) pa_nil)))) (pw_or1 (pt_not (pt_val (Lw.pe_cl (c_is_number T) b_is_number hr (by decide) (by rfl) pass0 (pa_cons (pe_ix ix_seq (pv 0) pe_int (fun _ _ => rfl)) pa_nil))))))))) (pss_one (ps_ret pe_bl)) pss_nil)
      (pss_one (ps_ret (pe_and (Lw.pe_cl (c_is_between T) b_is_between hr (by decide) (by rfl) pass0 (pa_cons (pe_ix ix_seq (pv 0) pe_int (fun _ _ => rfl)) (pa_cons pe_int (pa_cons (C8.pe_gc (by rfl) T.g_MOST_SIZE) pa_nil)))) (pe_one (Lw.pe_cl (c_is_between T) b_is_between hr (by decide) (by rfl) pass0 (pa_cons (pe_ix ix_seq (pv 0) pe_int (fun _ _ => rfl)) (pa_cons pe_int (pa_cons (C8.pe_gc (by rfl) T.g_MOST_SIZE) pa_nil))))))))), ?_⟩
    cases k with
    | other k h =>
      repeat fail "st"
      refine ifB (fun h => ?_) (fun h1 => ?_)
      · exact q
      · rw [isK_ne h (by decide)] at h1
        cases h1
    | tup h ks =>
      repeat fail "st"
      refine ifN (fun hl => ?_) (fun hl => ?_)
      · rw [rectL_len (fun z => hl (lenN.mpr z))] at q
        exact q
      · obtain ⟨a, b, c, d, rfl⟩ := four (lenN.mp hl)
        obtain ⟨na, ka⟩ := ks a (by simp)
        obtain ⟨nb, kb⟩ := ks b (by simp)
        obtain ⟨nc, kc⟩ := ks c (by simp)
        obtain ⟨ne, ke⟩ := ks d (by simp)
        repeat fail "st"
        refine ifNt (fun ha => ?_) (fun ha => ?_)
        · rw [show rectL [a, b, c, d] = false by simp [rectL, ha]] at q
          exact q
        repeat fail "st"
        refine ifNt (fun hb => ?_) (fun hb => ?_)
        · rw [show rectL [a, b, c, d] = false by simp [rectL, hb]] at q
          exact q
        repeat fail "st"
        refine ifB (fun hc => ?_) (fun hc => ?_)
        · repeat fail "st"
          rw [show rectL [a, b, c, d] = Lw.inB 0 1000000000000 d by simp [rectL, ha, hb, hc]] at q
          exact q
        · rw [show rectL [a, b, c, d] = false by simp [rectL, hc]] at q
          exact q
theorem c_law_within (T : Txt K mg) : Cl P w K mg base CX0 1 "_law_within" s_law_within ["_law_thing_here", "_law_low", "_law_high"] spBetween := by
  refine cl_of (k := 0) T.d_law_within sc_law_within (fun vs H Q E h => ?_) (fun f cdv A outer s H vs Q E hr h => ?_)
  · obtain ⟨v, lo, hi, n, rfl, _⟩ := h
    rfl
  · obtain ⟨v, lo, hi, n, rfl, k, q⟩ := h
    have nd := sc_law_within.nd
    refine ⟨_, (pss_one (ps_ret (pe_and (pe_callB (call_isi) (by rfl) T.b_isinstance bt_isinstance (pa_cons (pv 0) (pa_cons (pe_bltn (v := .ty "int") (by rfl) T.b_int bt_int rfl) pa_nil))) (pe_and (pe_not (pe_callB (call_isi) (by rfl) T.b_isinstance bt_isinstance (pa_cons (pv 0) (pa_cons (pe_bltn (v := .ty "bool") (by rfl) T.b_bool bt_bool rfl) pa_nil)))) (pe_one (pe_chain op_le op_le (pv 1) (pv 0) (pv 2))))))), ?_⟩
    repeat fail "st"
    refine ifB (fun h => ?_) (fun h => ?_)
    · repeat fail "st"
      refine ifNt (fun h2 => ?_) (fun h2 => ?_)
      · obtain ⟨i, rfl⟩ := k.of_int (by rw [int_yes k h, h2]; rfl)
        repeat fail "st"
        refine ifD (fun h1 => ?_) (fun h1 => ?_)
        · repeat fail "st"
          rw [Lw.inB, decide_eq_true h1] at q
          exact q
        · rw [Lw.inB, decide_eq_false h1] at q
          exact q
      · rw [inB_no k (by rw [int_yes k h, h2]; rfl)] at q
        exact q
    · rw [inB_no k (int_no h)] at q
      exact q
theorem c_law_due (T : Txt K mg) : Cl P w K mg base CX0 2 "_law_due" s_law_due ["_law_thing_here"] spRect := by
  refine cl_of (k := 1) T.d_law_due sc_law_due (fun vs H Q E h => ?_) (fun f cdv A outer s H vs Q E hr h => ?_)
  · obtain ⟨v, n, rfl, _⟩ := h
    rfl
  · obtain ⟨v, n, rfl, k, q⟩ := h
    have nd := sc_law_due.nd
    refine ⟨_, (pss_cons (ps_if (PW.pt (pw_or (pt_not (pt_val (pe_callB (call_isi) (by rfl) T.b_isinstance bt_isinstance (pa_cons (pv 0) (pa_cons (pe_bltn (v := .ty "tuple") (by rfl) T.b_tuple bt_tuple rfl) pa_nil))))) (pw_or1 (pt_cmpR op_ne (pe_callB (call_len) (by rfl) T.b_len bt_len (pa_cons (pv 0) pa_nil)) pe_int (nomark _))))) (pss_one (ps_ret pe_bl)) pss_nil)
      (pss_cons (ps_if (PW.pt (pw_or (pt_not (pt_val (Lw.pe_cl (c_law_within T) b_law_within hr (by decide) (by rfl) pass0 (pa_cons (pe_ix ix_seq (pv 0) pe_int (fun _ _ => rfl)) (pa_cons (pe_op op_sub pe_int (pe_op op_pow pe_int pe_int)) (pa_cons (pe_op op_pow pe_int pe_int) pa_nil)))))) (pw_or1 (pt_not (pt_val (Lw.pe_cl (c_law_within T) b_law_within hr (by decide) (by rfl) pass0 (pa_cons (pe_ix ix_seq (pv 0) pe_int (fun _ _ => rfl)) (pa_cons (pe_op op_sub pe_int (pe_op op_pow pe_int pe_int)) (pa_cons (pe_op op_pow pe_int pe_int) pa_nil))))))))) (pss_one (ps_ret pe_bl)) pss_nil)
      (pss_one (ps_ret (pe_and (Lw.pe_cl (c_law_within T) b_law_within hr (by decide) (by rfl) pass0 (pa_cons (pe_ix ix_seq (pv 0) pe_int (fun _ _ => rfl)) (pa_cons pe_int (pa_cons (pe_op op_pow pe_int pe_int) pa_nil)))) (pe_one (Lw.pe_cl (c_law_within T) b_law_within hr (by decide) (by rfl) pass0 (pa_cons (pe_ix ix_seq (pv 0) pe_int (fun _ _ => rfl)) (pa_cons pe_int (pa_cons (pe_op op_pow pe_int pe_int) pa_nil)))))))))), ?_⟩
    cases k with
    | other k h =>
      repeat fail "st"
      refine ifB (fun h => ?_) (fun h1 => ?_)
      · exact q
      · rw [isK_ne h (by decide)] at h1
        cases h1
    | tup h ks =>
      repeat fail "st"
      refine ifN (fun hl => ?_) (fun hl => ?_)
      · rw [rectL_len (fun z => hl (lenN.mpr z))] at q
        exact q
      · obtain ⟨a, b, c, d, rfl⟩ := four (lenN.mp hl)
        obtain ⟨na, ka⟩ := ks a (by simp)
        obtain ⟨nb, kb⟩ := ks b (by simp)
        obtain ⟨nc, kc⟩ := ks c (by simp)
        obtain ⟨ne, ke⟩ := ks d (by simp)
        repeat fail "st"
        refine ifNt (fun ha => ?_) (fun ha => ?_)
        · replace ha : Lw.inB (-1000000000000) 1000000000000 a = false := ha
          rw [show rectL [a, b, c, d] = false by simp [rectL, ha]] at q
          exact q
        replace ha : Lw.inB (-1000000000000) 1000000000000 a = true := ha
        repeat fail "st"
        refine ifNt (fun hb => ?_) (fun hb => ?_)
        · replace hb : Lw.inB (-1000000000000) 1000000000000 b = false := hb
          rw [show rectL [a, b, c, d] = false by simp [rectL, hb]] at q
          exact q
        replace hb : Lw.inB (-1000000000000) 1000000000000 b = true := hb
        repeat fail "st"
        refine ifB (fun hc => ?_) (fun hc => ?_)
        · replace hc : Lw.inB 0 1000000000000 c = true := hc
          repeat fail "st"
          rw [show rectL [a, b, c, d] = Lw.inB 0 1000000000000 d by simp [rectL, ha, hb, hc]] at q
          exact q
        · replace hc : Lw.inB 0 1000000000000 c = false := hc
          rw [show rectL [a, b, c, d] = false by simp [rectL, hc]] at q
          exact q
end

end K01
namespace K01
open PySem PySem.Spec PyProof.Rows L2 Evl Lw
section
variable {P : Program} {w : World} {K : PySem.W.Frag} {mg : Str → Option Value} {base : Heap}
def spNum : Sp := fun vs H Q _ => ∃ p, vs = [.ref p] ∧ Pool H p ∧ ∀ (i : Int) H', Ex H H' → Q (.int i) H'
theorem c_law_number (T : Txt K mg) : Cl P w K mg base CX0 2 "_law_number" s_law_number ["_law_pool_here"] spNum := by
  refine cl_of (k := 1) T.d_law_number sc_law_number (fun vs H Q E h => ?_) (fun f cdv A outer s H vs Q E hr h => ?_)
  · obtain ⟨v, rfl, _⟩ := h
    rfl
  · obtain ⟨p, rfl, hp, q⟩ := h
    have nd := sc_law_number.nd
    refine ⟨_, (pss_cons (ps_set (i := 1) nd rfl (Or.inl rfl) (pe_lst (pa_cons pe_int (pa_cons pe_int (pa_cons (pe_un un_neg pe_int) (pa_cons (pe_op op_pow pe_int pe_int) (pa_cons (pe_op op_add (pe_op op_pow pe_int pe_int) pe_int) (pa_cons (pe_op op_sub pe_int (pe_op op_pow pe_int pe_int)) (pa_cons (pe_op op_sub (pe_un un_neg pe_int) (pe_op op_pow pe_int pe_int)) (pa_cons (pe_op op_sub (pe_op op_pow pe_int pe_int) pe_int) (pa_cons pe_int (pa_cons (pe_op op_pow pe_int pe_int) pa_nil))))))))))))
      (pss_one (ps_ret (pe_ix ix_seq (pv 1) (Lw.pe_cl (c_law_draw T) b_law_draw hr (by decide) (by rfl) pass0 (pa_cons (pv 0) (pa_cons pe_int pa_nil))) (fun _ _ => rfl))))), ?_⟩
    repeat fail "st"
    intro l hl
    repeat fail "st"
    intro d Hd ed d0 d1
    refine ix_in (.inl (SqL.of (ed _ _ upd_same))) d0 d1 (fun v hv => ?_)
    have hi : ∃ i, v = V.int i := by
      repeat (rcases List.mem_cons.mp hv with rfl | hv; exact ⟨_, rfl⟩)
      cases hv
    obtain ⟨i, rfl⟩ := hi
    exact q _ _ ((Ex.new hl).trans ed)
def spThing : Sp := fun vs H Q _ => ∃ p, vs = [.ref p] ∧ Pool H p ∧ ∀ v b H', Ex H H' → Th H' v b → Q v H'
theorem c_law_thing (T : Txt K mg) : Cl P w K mg base CX0 3 "_law_thing" s_law_thing ["_law_pool_here"] spThing := by
  refine cl_of (k := 2) T.d_law_thing sc_law_thing (fun vs H Q E h => ?_) (fun f cdv A outer s H vs Q E hr h => ?_)
  · obtain ⟨v, rfl, _⟩ := h
    rfl
  · obtain ⟨p, rfl, hp, q⟩ := h
    have nd := sc_law_thing.nd
    refine ⟨_, (pss_cons (ps_setLc (own := [("_law_k", 5)]) (g := gName 5) (tt := tYes) (i := 1) rfl nd rfl rfl (sw_true rfl rfl rfl (by decide +kernel)) (pi_range1 (by rfl) T.b_range (pa_cons pe_int pa_nil)) (L2.blkOk_by (N := N_law_thing) (sc := defScope s_law_thing) (by decide +kernel)) (fun _ _ _ _ _ => (pg_name (i := 5) nd rfl (Or.inl rfl))) (fun _ _ _ _ _ => pts_nil) (fun _ _ _ _ _ => (pe_ifExp (pt_cmpR op_eq (Lw.pe_cl (c_law_draw T) b_law_draw hr (by decide) (by rfl) pass0 (pa_cons (pv 0) (pa_cons pe_int pa_nil))) pe_int (nomark _)) (Lw.pe_cl (c_law_number T) b_law_number hr (by decide) (by rfl) pass0 (pa_cons (pv 0) pa_nil)) (Lw.pe_cl (c_law_draw T) b_law_draw hr (by decide) (by rfl) pass0 (pa_cons (pv 0) (pa_cons (pe_op op_pow pe_int pe_int) pa_nil))))))
      (pss_cons (ps_set (i := 2) nd rfl (Or.inl rfl) (pe_lst (pa_cons pe_non (pa_cons pe_bl (pa_cons pe_bl (pa_cons pe_str (pa_cons pe_str (pa_cons (pe_tup pa_nil) (pa_cons (pe_tup (pa_cons pe_int pa_nil)) (pa_cons (pe_lst pa_nil) (pa_cons (pe_lst (pa_cons pe_int pa_nil)) (pa_cons pe_dnewK (pa_cons (pe_disp (pps_cons pe_int pe_int pps_nil) rfl rfl (by intro z; cases z) (by decide)) (pa_cons (pe_tup (pa_cons pe_int (pa_cons pe_int (pa_cons pe_int (pa_cons pe_int pa_nil))))) pa_nil))))))))))))))
      (pss_cons (ps_for PassesOwn.never rfl (pi_range1 (by rfl) T.b_range (pa_cons (pe_callB (call_max2 rfl) (by rfl) T.b_max bt_max (pa_cons pe_int (pa_cons (pe_op op_sub (Lw.pe_cl (c_law_draw T) b_law_draw hr (by decide) (by rfl) pass0 (pa_cons (pv 0) (pa_cons pe_int pa_nil))) pe_int) pa_nil))) pa_nil)) (pg_name (i := 3) nd rfl (Or.inl rfl)) (pss_one (ps_asg (pe_ix ix_seq (pv 2) (Lw.pe_cl (c_law_draw T) b_law_draw hr (by decide) (by rfl) pass0 (pa_cons (pv 0) (pa_cons pe_int pa_nil))) (fun _ _ => rfl)) (pg_sub (pv 1) (Lw.pe_cl (c_law_draw T) b_law_draw hr (by decide) (by rfl) pass0 (pa_cons (pv 0) (pa_cons pe_int pa_nil))) set_list))))
      (pss_cons (ps_set (i := 4) nd rfl (Or.inl rfl) (Lw.pe_cl (c_law_draw T) b_law_draw hr (by decide) (by rfl) pass0 (pa_cons (pv 0) (pa_cons pe_int pa_nil))))
      (pss_cons (ps_if (pt_cmpR op_eq (pv 4) pe_int (nomark _)) (pss_one (ps_ret (pv 1))) pss_nil)
      (pss_cons (ps_if (pt_cmpR op_lt (pv 4) pe_int (nomark _)) (pss_one (ps_ret (pe_callTy (call_tuple_of) (by rfl) T.b_tuple bt_tuple (pa_cons (pe_ifExp (pt_cmpR op_eq (pv 4) pe_int (nomark _)) (pe_slice sl_list (pv 1) (po_some pe_int) po_none) (pe_op op_cat (pv 1) (pe_lst (pa_cons pe_int pa_nil)))) pa_nil)))) pss_nil)
      (pss_cons (ps_if (pt_cmpR op_lt (pv 4) pe_int (nomark _)) (pss_one (ps_ret (pe_ifExp (pt_cmpR op_eq (pv 4) pe_int (nomark _)) (pe_ix ix_seq (pv 2) (Lw.pe_cl (c_law_draw T) b_law_draw hr (by decide) (by rfl) pass0 (pa_cons (pv 0) (pa_cons pe_int pa_nil))) (fun _ _ => rfl)) (pe_tup (pa_cons (pe_callTy (call_tuple_of) (by rfl) T.b_tuple bt_tuple (pa_cons (pv 1) pa_nil)) pa_nil))))) pss_nil)
      (pss_one (ps_ret (pe_callTy (call_tuple_of) (by rfl) T.b_tuple bt_tuple (pa_cons (pv 1) pa_nil))))))))))), ?_⟩
    repeat fail "st"
    intro D hD
    refine lcR (All fun _ v _ => ∃ z, v = V.int z) (all_mono fun _ _ _ _ _ h => h) hD (by decide) (fun i hi H' e Q1 Q2 q1 q2 => ?_) (fun H1 os e1 hl hD1 hp1 => ?_)
    · repeat fail "st"
      intro d Hd ed d0 d1
      repeat fail "st"
      refine ifD (fun hd => ?_) (fun hd => ?_)
      · repeat fail "st"
        intro z H2 e2
        exact q1 _ _ (ed.trans e2) ⟨_, rfl, _, rfl⟩
      · repeat fail "st"
        intro z H2 e2 z0 z1
        exact q1 _ _ (ed.trans e2) ⟨_, rfl, _, rfl⟩
    · obtain ⟨ys, ey, ly, hy⟩ := All.end hp1
      rw [ey] at hD1
      rw [hl] at ly
      repeat fail "st"
      intro t1 n_t1
      generalize hh : upd _ t1 _ = H_t1
      have e_t1 := newEx hh n_t1
      have h_t1 := newAt hh
      clear hh
      repeat fail "st"
      intro t2 n_t2
      generalize hh : upd _ t2 _ = H_t2
      have e_t2 := newEx hh n_t2
      have h_t2 := newAt hh
      clear hh
      repeat fail "st"
      intro t3 n_t3
      generalize hh : upd _ t3 _ = H_t3
      have e_t3 := newEx hh n_t3
      have h_t3 := newAt hh
      clear hh
      repeat fail "st"
      intro t4 n_t4
      generalize hh : upd _ t4 _ = H_t4
      have e_t4 := newEx hh n_t4
      have h_t4 := newAt hh
      clear hh
      repeat fail "st"
      intro t5 n_t5
      generalize hh : upd _ t5 _ = H_t5
      have e_t5 := newEx hh n_t5
      have h_t5 := newAt hh
      clear hh
      repeat fail "st"
      intro t6 n6
      repeat fail "st"
      refine ⟨upd_same, [(.inl 1, .int 2)], rfl, by decide, ?_⟩
      rw [upd_upd]
      generalize hh : upd _ t6 _ = H6
      have e6 := newEx hh n6
      have h6 := newAt hh
      clear hh
      repeat fail "st"
      intro t7 n_t7
      generalize hh : upd _ t7 _ = H_t7
      have e_t7 := newEx hh n_t7
      have h_t7 := newAt hh
      clear hh
      repeat fail "st"
      intro o n_o
      generalize hh : upd _ o _ = H_o
      have e_o := newEx hh n_o
      have h_o := newAt hh
      clear hh
      have hodd : ∀ v ∈ [V.non, V.bl true, V.bl false, V.str "3", V.str "", V.ref t1, V.ref t2, V.ref t3, V.ref t4, V.ref t5, V.ref t6, V.ref t7], ∃ b, Th (Minus H_o D) v b := by
        intro v hv
        repeat (rcases List.mem_cons.mp hv with rfl | hv; first | exact ⟨_, .other .non (by decide)⟩ | exact ⟨_, .other (.bl _) (by decide)⟩ | exact ⟨_, .other (.str _) (by decide)⟩ | exact ⟨_, .other (.lst (by fail "at")) (by decide)⟩ | exact ⟨_, .other (.dK (by fail "at")) (by decide)⟩ | exact ⟨_, .tup (by fail "at") (fun x hx => by (repeat (rcases List.mem_cons.mp hx with rfl | hx; exact ⟨_, .int _⟩)); cases hx)⟩)
        cases hv
      have hD9 : H_o D = some (.lst ys) := by fail "at"
      have no9 : o ≠ D := ne_fresh n_o (by fail "at")
      have hp9 : Pool H_o p := by fail "pool"
      have hl9 : [V.non, V.bl true, V.bl false, V.str "3", V.str "", V.ref t1, V.ref t2, V.ref t3, V.ref t4, V.ref t5, V.ref t6, V.ref t7].length = 12 := rfl
      have e9 : Ex H H_o := e1.trans (e_t1.trans (e_t2.trans (e_t3.trans (e_t4.trans (e_t5.trans (e6.trans (e_t7.trans e_o)))))))
      generalize [V.non, V.bl true, V.bl false, V.str "3", V.str "", V.ref t1, V.ref t2, V.ref t3, V.ref t4, V.ref t5, V.ref t6, V.ref t7] = odds at *
      clear e_t1 e_t2 e_t3 e_t4 e_t5 e6 e_t7 e_o h_t1 h_t2 h_t3 h_t4 h_t5 h6 h_t7 n_t1 n_t2 n_t3 n_t4 n_t5 n6 n_t7 n_o e1
      repeat fail "st"
      intro d Hd ed d0 d1
      repeat fail "st"
      have npD : p ≠ D := ne_of hp9 hD9 (by intro z; cases z)
      refine for_range (fun _ σ H' => ∃ y, σ = [some (.ref p), some (.ref D), some (.ref o), y, none, none] ∧ ∃ xs, H' D = some (.lst xs) ∧ xs.length = 4 ∧ (∀ x ∈ xs, ∃ n, Kd (Minus H_o D) x n) ∧ But D H_o H') ?_ ?_ ?_
      · refine ⟨_, rfl, ys, ed _ _ hD9, ly, fun x hx => ?_, but_of ed⟩
        obtain ⟨i, hi, e⟩ := List.getElem_of_mem hx
        obtain ⟨z, rfl⟩ := hy i x (by rw [List.getElem?_eq_getElem hi, e])
        exact ⟨_, .int z⟩
      · rintro i σ H' hi ⟨y, rfl, xs, hx, lx, kx, b⟩
        have hp' : Pool H' p := b p _ npD hp9
        have ho' : H' o = some (.lst odds) := b o _ no9 h_o
        repeat fail "st"
        intro a Ha ea a0 a1
        refine ix_in (.inl (SqL.of (ea _ _ ho'))) a0 (by rw [hl9]; exact a1) (fun v hv => ?_)
        repeat fail "st"
        intro c Hc ec c0 c1
        refine set_in (ec _ _ (ea _ _ hx)) c0 (by rw [lx]; exact c1) ?_
        refine ⟨_, rfl, _, upd_same, by rw [List.length_set]; exact lx, fun x hx => ?_, But.mut ((b.up ea).up ec)⟩
        rcases mem_set hx with h | rfl
        · exact kx x h
        · obtain ⟨b, hb⟩ := hodd _ hv
          exact hb.kd
      · rintro σ H' ⟨y, rfl, xs, hx, lx, kx, b⟩
        have hp' : Pool H' p := b p _ npD hp9
        have ho' : H' o = some (.lst odds) := b o _ no9 h_o
        repeat fail "st"
        intro m Hm em m0 m1
        have hxm := em _ _ hx
        have bm := b.up em
        have eH : Ex H Hm := But.ex e9 hD bm
        have kx' : ∀ x ∈ xs, ∃ n, Kd Hm x n := fun x hx => let ⟨n, k⟩ := kx x hx; ⟨n, k.ex (minus_ex bm)⟩
        repeat fail "st"
        refine ifD (fun h0 => ?_) (fun h0 => ?_)
        · repeat fail "st"
          exact q _ _ _ eH (.other (.lst hxm) (by decide))
        repeat fail "st"
        refine ifD (fun h1 => ?_) (fun h1 => ?_)
        · repeat fail "st"
          refine ifD (fun h2 => ?_) (fun h2 => ?_)
          · repeat fail "st"
            intro c n_c
            generalize hh : upd _ c _ = H_c
            have e_c := newEx hh n_c
            have h_c := newAt hh
            clear hh
            refine ⟨_, _, rfl, .inl ⟨SqL.of h_c, ?_⟩⟩
            intro t n_t
            generalize hh : upd _ t _ = H_t
            have e_t := newEx hh n_t
            have h_t := newAt hh
            clear hh
            exact q _ _ _ (eH.trans (e_c.trans e_t)) (.tup h_t (fun x hx => let ⟨n, k⟩ := kx' x (mem_cut hx); ⟨n, k.ex (e_c.trans e_t)⟩))
          · repeat fail "st"
            intro c n_c
            generalize hh : upd _ c _ = H_c
            have e_c := newEx hh n_c
            have h_c := newAt hh
            clear hh
            refine ⟨_, _, _, _, rfl, rfl, (by fail "at"), h_c, ?_, ?_⟩
            · rw [lx]; decide
            intro t n_t
            generalize hh : upd _ t _ = H_t
            have e_t := newEx hh n_t
            have h_t := newAt hh
            clear hh
            refine ⟨_, _, rfl, .inl ⟨SqL.of h_t, ?_⟩⟩
            intro u n_u
            generalize hh : upd _ u _ = H_u
            have e_u := newEx hh n_u
            have h_u := newAt hh
            clear hh
            refine q _ _ _ (eH.trans (e_c.trans (e_t.trans e_u))) (.tup h_u (fun x hx => ?_))
            rcases List.mem_append.mp hx with h | h
            · obtain ⟨n, k⟩ := kx' x h
              exact ⟨n, k.ex (e_c.trans (e_t.trans e_u))⟩
            · rcases List.mem_cons.mp h with rfl | h
              · exact ⟨_, .int _⟩
              · cases h
        repeat fail "st"
        refine ifD (fun h2 => ?_) (fun h2 => ?_)
        · repeat fail "st"
          refine ifD (fun h3 => ?_) (fun h3 => ?_)
          · repeat fail "st"
            intro a Ha ea a0 a1
            refine ix_in (.inl (SqL.of (ea _ _ (em _ _ ho')))) a0 (by rw [hl9]; exact a1) (fun v hv => ?_)
            obtain ⟨b, hb⟩ := hodd _ hv
            exact q _ _ _ (eH.trans ea) (hb.up (minus_ex (bm.up ea)))
          · repeat fail "st"
            refine ⟨_, _, rfl, .inl ⟨SqL.of hxm, ?_⟩⟩
            intro t n_t
            generalize hh : upd _ t _ = H_t
            have e_t := newEx hh n_t
            have h_t := newAt hh
            clear hh
            repeat fail "st"
            intro u n_u
            generalize hh : upd _ u _ = H_u
            have e_u := newEx hh n_u
            have h_u := newAt hh
            clear hh
            refine q _ _ _ (eH.trans (e_t.trans e_u)) (.tup h_u (fun x hx => ?_))
            rcases List.mem_cons.mp hx with rfl | h
            · exact ⟨_, .tup (e_u _ _ h_t)⟩
            · cases h
        · repeat fail "st"
          refine ⟨_, _, rfl, .inl ⟨SqL.of hxm, ?_⟩⟩
          intro t n_t
          generalize hh : upd _ t _ = H_t
          have e_t := newEx hh n_t
          have h_t := newAt hh
          clear hh
          exact q _ _ _ (eH.trans e_t) (.tup h_t (fun x hx => let ⟨n, k⟩ := kx' x hx; ⟨n, k.ex e_t⟩))
end

end K01
namespace K01
open PySem PySem.Spec PyProof.Rows L2 Evl Lw
section
variable {P : Program} {w : World} {K : PySem.W.Frag} {mg : Str → Option Value} {base : Heap}
theorem c_law_right (T : Txt K mg) : Cl P w K mg base CX0 5 "_law_right" s_law_right ["_law_pool_here"] spCheck := by
  refine cl_of (k := 4) T.d_law_right sc_law_right (fun vs H Q E h => ?_) (fun f cdv A outer s H vs Q E hr h => ?_)
  · obtain ⟨v, rfl, _⟩ := h
    rfl
  · obtain ⟨p, rfl, hp, q⟩ := h
    have nd := sc_law_right.nd
    refine ⟨_, (pss_cons (ps_for PassesOwn.never rfl (pi_range1 (by rfl) T.b_range (pa_cons pe_int pa_nil)) (pg_name (i := 1) nd rfl (Or.inl rfl)) (pss_cons (ps_set (i := 2) nd rfl (Or.inl rfl) (Lw.pe_cl (c_law_thing T) b_law_thing hr (by decide) (by rfl) pass0 (pa_cons (pv 0) pa_nil)))
      (pss_one (ps_if (pt_cmpR (op_neD hr.units) (pe_lst (pa_cons (pe_callB (Lw.call_repr_bl) (by rfl) T.b_repr bt_repr (pa_cons (Lw.pe_cl (c_is_rect T) b_is_rect hr (by decide) (by rfl) pass0 (pa_cons (pv 2) pa_nil)) pa_nil)) (pa_cons (pe_callB (Lw.call_repr_bl) (by rfl) T.b_repr bt_repr (pa_cons (Lw.pe_clk0 (g := fun {_} => gk_bk_is_rect_0_value) (c_is_rect T) bk_is_rect_0_value rk_bk_is_rect_0_value hr (by decide) (by rfl) pass0 (pk_cons (pv 2) pk_nil)) pa_nil)) pa_nil))) (pe_op op_rep (pe_lst (pa_cons (pe_callB (Lw.call_repr_bl) (by rfl) T.b_repr bt_repr (pa_cons (Lw.pe_cl (c_law_due T) b_law_due hr (by decide) (by rfl) pass0 (pa_cons (pv 2) pa_nil)) pa_nil)) pa_nil)) pe_int) (nomark _)) (pss_one (ps_ret pe_bl)) pss_nil))))
      (pss_cons (ps_if (PW.pt (pw_or (pt_cmpR op_notBl (Lw.pe_cl (c_is_rect T) b_is_rect hr (by decide) (by rfl) pass0 (pa_cons (pe_tup (pa_cons pe_int (pa_cons pe_int (pa_cons pe_int (pa_cons pe_int pa_nil))))) pa_nil)) pe_bl (nomark _)) (pw_or1 (pt_cmpR op_notBl (Lw.pe_cl (c_is_rect T) b_is_rect hr (by decide) (by rfl) pass0 (pa_cons (pe_tup (pa_cons (pe_op op_sub pe_int (pe_op op_pow pe_int pe_int)) (pa_cons (pe_op op_pow pe_int pe_int) (pa_cons (pe_op op_pow pe_int pe_int) (pa_cons pe_int pa_nil))))) pa_nil)) pe_bl (nomark _))))) (pss_one (ps_ret pe_bl)) pss_nil)
      (pss_one (ps_ret (pe_cmpR op_eq (C8.pe_gc (by rfl) T.g_MOST_SIZE) (pe_op op_pow pe_int pe_int) (nomark _)))))), ?_⟩
    repeat fail "st"
    refine for_range (fun _ σ H' => ∃ y z, σ = [some (.ref p), y, z] ∧ Ex H H') ⟨_, _, rfl, Ex.refl H⟩ ?_ ?_
    · rintro i σ H' hi ⟨y, z, rfl, e⟩
      have hp' : Pool H' p := hp.up e
      repeat fail "st"
      intro v b Hv ev tv
      repeat fail "st"
      intro c n_c
      generalize hh : upd _ c _ = H_c
      have e_c := newEx hh n_c
      have h_c := newAt hh
      clear hh
      repeat fail "st"
      intro d n_d
      generalize hh : upd _ d _ = H_d
      have e_d := newEx hh n_d
      have h_d := newAt hh
      clear hh
      dsimp only [tC]
      refine rep2 h_d (by show 1 ≤ 1000; decide) ?_
      intro g n_g
      generalize hh : upd _ g _ = H_g
      have e_g := newEx hh n_g
      have h_g := newAt hh
      clear hh
      have sb : ∀ b : Bool, SeqAt.shaped (PyData.list [.str (if b = true then "True" else "False"), .str (if b = true then "True" else "False")]) = true := by decide +kernel
      have qb : ∀ b : Bool, PyData.eqv (PyData.list [.str (if b = true then "True" else "False"), .str (if b = true then "True" else "False")]) (PyData.list [.str (if b = true then "True" else "False"), .str (if b = true then "True" else "False")]) = true := by decide +kernel
      refine ⟨_, _, .lst (SqL.of (by fail "at")) (.cons (.str _) (.cons (.str _) .nil)), .lst (SqL.of h_g) (.cons (.str _) (.cons (.str _) .nil)), sb b, sb b, ?_⟩
      rw [qb b]
      repeat fail "st"
      exact e.trans (ev.trans (e_c.trans (e_d.trans e_g)))
    · rintro σ H' ⟨y, z, rfl, e⟩
      repeat fail "st"
      intro c n_c
      generalize hh : upd _ c _ = H_c
      have e_c := newEx hh n_c
      have h_c := newAt hh
      clear hh
      refine ⟨_, _, rfl, .tup h_c (fun x hx => by (repeat (rcases List.mem_cons.mp hx with rfl | hx; exact ⟨_, .int _⟩)); cases hx), ?_⟩
      repeat fail "st"
      intro d n_d
      generalize hh : upd _ d _ = H_d
      have e_d := newEx hh n_d
      have h_d := newAt hh
      clear hh
      refine ⟨_, _, rfl, .tup h_d (fun x hx => by (repeat (rcases List.mem_cons.mp hx with rfl | hx; exact ⟨_, .int _⟩)); cases hx), ?_⟩
      have e2 : rectL [V.int (0 - 10 ^ Int.toNat 12), V.int (10 ^ Int.toNat 12), V.int (10 ^ Int.toNat 12), V.int 0] = true := by decide +kernel
      rw [e2]
      repeat fail "st"
      exact q _ (e.trans (e_c.trans e_d))
end

end K01
namespace K01
open PySem PySem.Spec PyProof.Rows L2 Evl Lw
section
variable {P : Program} {w : World} {K : PySem.W.Frag} {mg : Str → Option Value} {base : Heap}
theorem c_law (T : Txt K mg) : Cl P w K mg base CX0 6 "law" s_law ["_law_script"] (spLaw K) := by
  refine cl_of (k := 5) T.d_law sc_law (fun vs H Q E h => ?_) (fun f cdv A outer s H vs Q E hr h => ?_)
  · obtain ⟨a, ns, rfl, _⟩ := h
    rfl
  · obtain ⟨a, ns, rfl, hS, hl, q⟩ := h
    have nd := sc_law.nd
    refine ⟨_, (pss_one (ps_ret (pe_callB (cr_all rfl) (by rfl) T.b_all bt_all (pa_cons (pe_lc (own := [("_law_k", 1)]) (g := gName 1) (tt := tYes) rfl nd (pi_range1 (by rfl) T.b_range (pa_cons (pe_callB (call_max2 rfl) (by rfl) T.b_max bt_max (pa_cons pe_int (pa_cons (pe_callB (call_min2 rfl) (by rfl) T.b_min bt_min (pa_cons (pe_callB (call_len) (by rfl) T.b_len bt_len (pa_cons (pv 0) pa_nil)) (pa_cons pe_int pa_nil))) pa_nil))) pa_nil)) (L2.blkOk_by (N := N_law) (sc := defScope s_law) (by decide +kernel)) (fun _ _ _ _ _ => (pg_name (i := 1) nd rfl (Or.inl rfl))) (fun _ _ _ _ _ => pts_nil) (fun _ _ _ _ _ => (Lw.pe_cl (c_law_right T) b_law_right hr (by decide) (by rfl) pass0 (pa_cons (Lw.pe_cl (c_law_pool T) b_law_pool hr (by decide) (by rfl) pass0 (pa_cons (Lw.pe_cl (c_law_cell T) b_law_cell hr (by decide) (by rfl) pass0 (pa_cons (pv 0) (pa_cons (pv 1) pa_nil))) pa_nil)) pa_nil)))) pa_nil)))), ?_⟩
    repeat fail "st"
    intro D hD
    refine lcR (All fun _ v _ => v = V.bl true) (all_mono fun _ _ _ _ _ h => h) hD (by (repeat' split) <;> omega) (fun i hi H' e Q1 Q2 q1 q2 => ?_) (fun H1 os e1 hl1 hD1 hp1 => ?_)
    · have hi6 : i ≤ 6 := by
        revert hi
        (repeat' split) <;> omega
      repeat fail "st"
      refine ⟨_, _, _, rfl, (by fail "sql"), hl, by omega, by omega, fun c Hc ec => ?_⟩
      repeat fail "st"
      intro pl Hp np ep pp
      repeat fail "st"
      intro Hr er
      exact q1 _ _ (ec.trans (ep.trans er)) ⟨_, rfl, rfl⟩
    · obtain ⟨ys, ey, ly, hy⟩ := All.end hp1
      rw [ey] at hD1
      obtain ⟨bs, eb, hb⟩ := all_true (ys := ys) (fun y hy1 => by
        obtain ⟨i, hi, e⟩ := List.getElem_of_mem hy1
        exact hy i y (by rw [List.getElem?_eq_getElem hi, e]))
      subst eb
      refine ⟨_, _, rfl, SqL.of hD1, ?_⟩
      rw [hb]
      exact q _
theorem law_mk {fa : Addr} (T : Txt K mg) (hfa : mg "law" = some (.ref fa)) : ∃ fd, (∀ (s : Shared) (u : Value), BindsTo s fd ⟨[u], []⟩ [("_law_script", u)]) ∧
    ∀ base : Heap, K.In base → base.Ns mainGlobals mg → FnOk P w K mg base CX0 6 fa fd ["_law_script"] (spLaw K) := by
  obtain ⟨fd, F, b⟩ := law_fd T.d_law b_law hfa
  exact ⟨fd, b, fun base _ _ => (c_law T).at F hfa⟩
theorem law_sp {H : Hp} {a : Addr} {ns : List Int} (hl : ns.length ≤ 63) (hS : SqL K H a (ns.map V.int)) : spLaw K [.ref a] H (fun v _ => v = .bl true) fun _ _ _ => False := ⟨a, ns, rfl, hS, hl, fun _ => rfl⟩
end

end K01
open PySem PySem.W PyProof.Rows
set_option maxHeartbeats 0 in
theorem PySem.Challenge.cw_allscreens_k01_rectangles_of_any_value_holds : PySem.Challenge.rw_allscreens_k01_rectangles_of_any_value.Holds := by
  w_on; o_law; k_head; (case hw => w_witness2)
  k_fill
  refine L2.walk_of (l := PySem.Challenge.rw_allscreens_k01_rectangles_of_any_value) (n := 63) (k := 6) (x := "_law_script") (CX := fun _ => L2.CX0) (sp := fun w => Lw.spLaw _) rfl (by decide) rfl ⟨rfl, by decide, by decide⟩ (fun w h Y => PySem.W.kIn_of Y) ?F (fun _ _ a ns hl _ hS => K01.law_sp hl hS) (fun _ _ _ _ _ h => h)
  case F =>
    intro w mg fa h KX G hmg
    refine' K01.law_mk ⟨Lw.defAt_mk KX G ?a0 ?l0 ?c0 ?k0, Lw.defAt_mk KX G ?a1 ?l1 ?c1 ?k1, Lw.defAt_mk KX G ?a2 ?l2 ?c2 ?k2, Lw.defAt_mk KX G ?a3 ?l3 ?c3 ?k3, Lw.defAt_mk KX G ?a4 ?l4 ?c4 ?k4, Lw.defAt_mk KX G ?a5 ?l5 ?c5 ?k5, Lw.defAt_mk KX G ?a6 ?l6 ?c6 ?k6, Lw.defAt_mk KX G ?a7 ?l7 ?c7 ?k7, Lw.defAt_mk KX G ?a8 ?l8 ?c8 ?k8, Lw.defAt_mk KX G ?a9 ?l9 ?c9 ?k9, Lw.defAt_mk KX G ?a10 ?l10 ?c10 ?k10, Lw.defAt_mk KX G ?a11 ?l11 ?c11 ?k11, Lw.defAt_mk KX G ?a12 ?l12 ?c12 ?k12, PySem.W.mg_none_of KX G ?z0, PySem.W.mg_none_of KX G ?z1, PySem.W.mg_none_of KX G ?z2, PySem.W.mg_none_of KX G ?z3, PySem.W.mg_none_of KX G ?z4, PySem.W.mg_none_of KX G ?z5, PySem.W.mg_none_of KX G ?z6, PySem.W.mg_none_of KX G ?z7, PySem.W.mg_none_of KX G ?z8, PySem.W.mg_none_of KX G ?z9, PySem.W.mg_none_of KX G ?z10, PySem.W.mg_none_of KX G ?z11, Lw.const_mk KX G ?cst0 ?rst0⟩ hmg
    (case a0 => k_is)
    (case l0 => k_is)
    (case c0 => k_is)
    (case k0 => k_is)
    (case a1 => k_is)
    (case l1 => k_is)
    (case c1 => k_is)
    (case k1 => k_is)
    (case a2 => k_is)
    (case l2 => k_is)
    (case c2 => k_is)
    (case k2 => k_is)
    (case a3 => k_is)
    (case l3 => k_is)
    (case c3 => k_is)
    (case k3 => k_is)
    (case a4 => k_is)
    (case l4 => k_is)
    (case c4 => k_is)
    (case k4 => k_is)
    (case a5 => k_is)
    (case l5 => k_is)
    (case c5 => k_is)
    (case k5 => k_is)
    (case a6 => k_is)
    (case l6 => k_is)
    (case c6 => k_is)
    (case k6 => k_is)
    (case a7 => k_is)
    (case l7 => k_is)
    (case c7 => k_is)
    (case k7 => k_is)
    (case a8 => k_is)
    (case l8 => k_is)
    (case c8 => k_is)
    (case k8 => k_is)
    (case a9 => k_is)
    (case l9 => k_is)
    (case c9 => k_is)
    (case k9 => k_is)
    (case a10 => k_is)
    (case l10 => k_is)
    (case c10 => k_is)
    (case k10 => k_is)
    (case a11 => k_is)
    (case l11 => k_is)
    (case c11 => k_is)
    (case k11 => k_is)
    (case a12 => k_is)
    (case l12 => k_is)
    (case c12 => k_is)
    (case k12 => k_is)
    (case z0 => k_is)
    (case z1 => k_is)
    (case z2 => k_is)
    (case z3 => k_is)
    (case z4 => k_is)
    (case z5 => k_is)
    (case z6 => k_is)
    (case z7 => k_is)
    (case z8 => k_is)
    (case z9 => k_is)
    (case z10 => k_is)
    (case z11 => k_is)
    (case cst0 => k_is)
    (case rst0 => exact ⟨_, rfl⟩)
