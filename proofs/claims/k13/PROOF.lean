import PyProof.Rows.All
import Wide.All
import OpenK.AllK
import Wide.FinOn
import HandS.ForMost
import HandS.WideBits
import HandS.Wide
import HandS.IsInst
import HandS.Evl
import HandS.Codes
import HandS.Defaults
import HandS.Style
import HandS.RaiseMore
import KE.KDictPairs
import HandS.DictTup
import HandS.SortRule
import HandS.SortInts
import HandS.Conv
import HandS.Deep
import HandS.Small
import HandS.TupAny
import PyProof.P3Eq
import HandS.ExcInit
import HandS.TryMany
import HandS.Lambda
import HandS.EndTab
import KE.KNestM
import HandS.ExcIs
import HandS.ExcField
import HandS.WordsExc
import KE.KExcIs
import KE.KTryMore
import KE.KExcInit
import HandS.DictComp
import HandS.Strs
import PySem.Challenge.RW_allscreens_k13_limits_and_errors
set_option Elab.async false
set_option linter.all false
set_option maxRecDepth 100000
set_option maxHeartbeats 1000000
/-! The base of all proofs here: pools of draws as opaque objects, calls, values told in a heap. -/
namespace Lw
open PySem PySem.Spec PyProof.Rows L2 Evl

/-! ### a pool of draws: a list of three ints, whatever they are -/
def poolP (p : Addr) : Heap → Prop := fun h => ∃ (a b c : Int) (its : List Value) (n : Nat), Vals [.int a, .int b, .int c] its ∧ h.get? p = some { cls := .type "list", data := .seq its.toArray n }
def Pool (H : Hp) (p : Addr) : Prop := H p = some (.ext (poolP p))
theorem three_line : (3 : Nat) ≤ sizeLine := by decide

section
variable {P : Program} {w : World} {H : Hp} {h : Heap} {p : Addr}
theorem pool_open (ok : HOk P w H h) (hp : Pool H p) : ∃ a b c : Int, HOk P w (upd H p (.lst [.int a, .int b, .int c])) h := by
  obtain ⟨⟨a, b, c, its, n, r, e⟩, _, _⟩ := ok p _ hp
  refine ⟨a, b, c, fun x o hx => ?_⟩
  by_cases hb : x = p
  · subst hb
    rw [upd_same] at hx
    cases hx
    exact ⟨three_line, its, n, r, e⟩
  · rw [upd_ne hb] at hx
    refine (ok x o hx).stay (fun _ _ _ q => q) (fun y q => ?_) (fun y xs q => ?_)
    · rw [upd_ne (ne_of q hp (by intro z; cases z))]
      exact q
    · rw [upd_ne (ne_of q hp (by intro z; cases z))]
      exact q
theorem pool_close {a b c : Int} (ok : HOk P w H h) (hp : H p = some (.lst [.int a, .int b, .int c])) : HOk P w (upd H p (.ext (poolP p))) h := by
  obtain ⟨_, its, n, r, e⟩ := ok p _ hp
  refine fun x o hx => ?_
  by_cases hb : x = p
  · subst hb
    rw [upd_same] at hx
    cases hx
    exact ⟨⟨a, b, c, its, n, r, e⟩, ⟨_, e⟩, fun h1 h2 ⟨a, b, c, its, n, r, e⟩ k => ⟨a, b, c, its, n, r, k _ e⟩⟩
  · rw [upd_ne hb] at hx
    refine (ok x o hx).stay (fun _ _ _ q => q) (fun y q => ?_) (fun y xs q => ?_)
    · rw [upd_ne (ne_of q hp (by intro z; cases z))]
      exact q
    · rw [upd_ne (ne_of q hp (by intro z; cases z))]
      exact q
end

section
variable {P : Program} {w : World} {K : PySem.W.Frag} {mg : Str → Option Value} {base : Heap} {k : Nat} {f : Addr} {fd : FuncData} {ps : List Str} {sp sp1 : Sp}
/-- at the end: a new list of three ints is handed back as a pool -/
theorem fn_newpool (F : FnOk P w K mg base CX0 k f fd ps sp1)
    (h : ∀ vs H Q E, sp vs H Q E → sp1 vs H (fun v H' => ∃ p a b c, v = .ref p ∧ H p = none ∧ H' p = some (.lst [.int a, .int b, .int c]) ∧ Q v (upd H' p (.ext (poolP p)))) E) :
    FnOk P w K mg base CX0 k f fd ps sp := by
  refine ⟨fun vs H Q E q => F.len _ _ _ _ (h _ _ _ _ q), fun A outer s H args us vs Q E hr he hb hv hs => ?_⟩
  refine codeAny_mono (F.run A outer s H args us vs _ E hr he hb hv (h _ _ _ _ hs)) fun r s' q => ?_
  cases r with
  | error e => exact q
  | ok fl =>
    cases fl with
    | next => exact q
    | brk => exact q
    | cont => exact q
    | ret u =>
      obtain ⟨v, H', os, bare, un, hok, r, p, a, b, c, rfl, hn, hp, q⟩ := q
      refine ⟨_, _, os, bare, ?_, pool_close hok hp, r, q⟩
      refine ⟨un.keep, un.slot, fun x o e n hx => ?_, un.there, fun x xs e => ?_, fun x o u e => ?_, fun x t e => ?_⟩
      · by_cases hb : x = p
        · subst hb
          have := un.free x o e n hx
          rw [hp] at this
          cases this
        · rw [upd_ne hb]
          exact un.free x o e n hx
      · rw [upd_ne (ne_of (un.tups x xs e) hp (by intro z; cases z))]
        exact un.tups x xs e
      · rw [upd_ne (ne_of (un.frzs x o u e) hp (by intro z; cases z))]
        exact un.frzs x o u e
      · obtain ⟨m, e2⟩ := un.tbls x t e
        rw [upd_ne (ne_of e2 hp (by intro z; cases z))]
        exact ⟨m, e2⟩
/-- a def that works at a pool's three ints, told as one that leaves the pool a pool -/
theorem fn_pool (F : FnOk P w K mg base CX0 k f fd ps sp1)
    (h : ∀ vs H Q E, sp vs H Q E → vs.length = ps.length ∧ ∃ p, Pool H p ∧ ∀ a b c : Int, sp1 vs (upd H p (.lst [.int a, .int b, .int c])) (fun v H' => ∃ a b c : Int, H' p = some (.lst [.int a, .int b, .int c]) ∧ Q v (upd H' p (.ext (poolP p)))) E) :
    FnOk P w K mg base CX0 k f fd ps sp := by
  refine ⟨fun vs H Q E q => (h _ _ _ _ q).1, fun A outer s H args us vs Q E hr he hb hv hs => ?_⟩
  obtain ⟨_, p, hp, hs⟩ := h _ _ _ _ hs
  obtain ⟨a, b, c, ok⟩ := pool_open he.hok hp
  have e1 : Env0 P w K mg base A outer s (upd H p (.lst [.int a, .int b, .int c])) :=
    ⟨he.frames, he.mod, fun x o e => ⟨(he.bs x o e).1, by rw [upd_ne (ne_of_none hp (he.bs x o e).2).symm]; exact (he.bs x o e).2⟩, he.bsz, he.funs,
      fun x hx => by rw [upd_ne (ne_of_none hp (he.frf x hx)).symm]; exact he.frf x hx, ok, he.bare⟩
  refine codeAny_mono (F.run A outer s _ args us vs _ E hr e1 hb hv (hs a b c)) fun r s' q => ?_
  cases r with
  | error e => exact q
  | ok fl =>
    cases fl with
    | next => exact q
    | brk => exact q
    | cont => exact q
    | ret u =>
      obtain ⟨v, H', os, bare, un, hok, r, a', b', c', hq, q⟩ := q
      refine ⟨_, _, os, bare, ?_, pool_close hok hq, r, q⟩
      have nn : ∀ {x}, H x = none → (upd H p (.lst [.int a, .int b, .int c])) x = none := fun {x} n => by rw [upd_ne (ne_of_none hp n).symm]; exact n
      refine ⟨fun x o e n => un.keep x o e (nn n), fun x o e n => un.slot x o e (nn n), fun x o e n hx => ?_, un.there, fun x xs e => ?_, fun x o u e => ?_, fun x t e => ?_⟩
      · rw [upd_ne (ne_of_none hp n).symm]
        exact un.free x o e (nn n) hx
      · have hb : x ≠ p := ne_of e hp (by intro z; cases z)
        rw [upd_ne hb]
        exact un.tups x xs (by rw [upd_ne hb]; exact e)
      · have hb : x ≠ p := ne_of e hp (by intro z; cases z)
        rw [upd_ne hb]
        exact un.frzs x o u (by rw [upd_ne hb]; exact e)
      · have hb : x ≠ p := ne_of e hp (by intro z; cases z)
        obtain ⟨m, e2⟩ := un.tbls x t (by rw [upd_ne hb]; exact e)
        exact ⟨m, by rw [upd_ne hb]; exact e2⟩
end

/-! ### a def of the text, its name; a def that may be called -/
structure DefAt (K : PySem.W.Frag) (mg : Str → Option Value) (x : Str) (st : Stmt) : Prop where
  ex : ∃ (f : Addr) (fd : FuncData), Fun K x x st f fd ∧ mg x = some (.ref f)
/-- all parameters are written, by position -/
def Bnd (x : Str) (st : Stmt) (ps : List Str) : Prop := ∀ (kV doc pm : Value) (an : Option Addr) (cdv ct : Value) (us : List Value), us.length = ps.length →
  bindArgs (PySem.W.fnOf x x (defArgs st) (defBody st) (defScope st) .none kV doc pm an cdv ct) ⟨us, []⟩ = pure (ps.zip us)
/-- n by position, the others by the names ks -/
def BndK (x : Str) (st : Stmt) (ps : List Str) (n : Nat) (ks : List Str) (g : {α : Type} → List α → List α → List α) : Prop :=
  ∀ (kV doc pm : Value) (an : Option Addr) (cdv ct : Value) (us ws : List Value), us.length = n → ws.length = ks.length →
  bindArgs (PySem.W.fnOf x x (defArgs st) (defBody st) (defScope st) .none kV doc pm an cdv ct) ⟨us, ks.zip ws⟩ = pure (ps.zip (g us ws))
structure Cl (P : Program) (w : World) (K : PySem.W.Frag) (mg : Str → Option Value) (base : Heap) (CX : CXT) (k : Nat) (x : Str) (st : Stmt) (ps : List Str) (sp : Sp) : Prop where
  ex : ∃ (f : Addr) (fd : FuncData), Fun K x x st f fd ∧ FnOk P w K mg base CX k f fd ps sp ∧ mg x = some (.ref f)
section
variable {P : Program} {w : World} {K : PySem.W.Frag} {mg : Str → Option Value} {base : Heap} {k : Nat} {x : Str} {st : Stmt} {ps N : List Str} {sp sp1 : Sp}
theorem cl_of (D : DefAt K mg x st) (S : FnScope N ps (defScope st)) (len : ∀ vs H Q E, sp vs H Q E → vs.length = ps.length)
    (hbody : ∀ (f : Addr) (cdv : Value) (A : Around) (outer : List Env) (s : Shared) (H : Hp) (vs : List V) (Q : VK) (E : XK), Room k (A.deeper (envOfC x (defScope st) s.heap.objs.size f cdv)) → sp vs H Q E →
      ∃ t, PSs (cxOf CX0 P w K mg base N x (defScope st) f cdv A outer s H E).nox (defBody st) t ∧ t { nx := fun _ H' => Q .non H', rt := Q } (start N vs) H) : Cl P w K mg base CX0 (k + 1) x st ps sp := by
  obtain ⟨f, fd, F, m⟩ := D.ex
  exact ⟨f, fd, F, F.ok S len (hbody f), m⟩
theorem Cl.pool (c : Cl P w K mg base CX0 k x st ps sp1)
    (h : ∀ vs H Q E, sp vs H Q E → vs.length = ps.length ∧ ∃ p, Pool H p ∧ ∀ a b c : Int, sp1 vs (upd H p (.lst [.int a, .int b, .int c])) (fun v H' => ∃ a b c : Int, H' p = some (.lst [.int a, .int b, .int c]) ∧ Q v (upd H' p (.ext (poolP p)))) E) :
    Cl P w K mg base CX0 k x st ps sp := by
  obtain ⟨f, fd, F, o, m⟩ := c.ex
  exact ⟨f, fd, F, fn_pool o h, m⟩
theorem Cl.newpool (c : Cl P w K mg base CX0 k x st ps sp1)
    (h : ∀ vs H Q E, sp vs H Q E → sp1 vs H (fun v H' => ∃ p a b c, v = .ref p ∧ H p = none ∧ H' p = some (.lst [.int a, .int b, .int c]) ∧ Q v (upd H' p (.ext (poolP p)))) E) :
    Cl P w K mg base CX0 k x st ps sp := by
  obtain ⟨f, fd, F, o, m⟩ := c.ex
  exact ⟨f, fd, F, fn_newpool o h, m⟩
theorem Cl.imp {CX : CXT} (c : Cl P w K mg base CX k x st ps sp) (h : ∀ vs H Q E, sp1 vs H Q E → sp vs H Q E) : Cl P w K mg base CX k x st ps sp1 := by
  obtain ⟨f, fd, F, o, m⟩ := c.ex
  exact ⟨f, fd, F, o.imp h, m⟩
end
section
variable {X : Cx} {CX : CXT} {k j n : Nat} {x : Str} {st : Stmt} {sp : Sp} {ps ks : List Str} {p pos : Pos} {e : Expr} {es : List Expr} {kws : List Keyword} {t tk : TA} {E : XK}
/-- f(a, ..): all parameters by position -/
theorem pe_cl (c : Cl X.prog X.w X.K X.mg X.base CX k x st ps sp) (b : Bnd x st ps) (hr : Room j X.A) (hk : k ≤ j) (hg : Gl X x) (hx : Passes CX X E) (ha : PA X (e :: es) t)
    (hdb : (x == ("__debug__" : Str)) = false := by decide) (he : starEach (e :: es) X.env = (false, eval e X.env) :: starEach es X.env := by rfl) (hpl : (backTo pos (starEach es X.env)).any (·.1) = false := by rfl) :
    PE X (.Call (.Name x p) (e :: es) [] pos) (tCall sp [] E t) := by
  obtain ⟨f, fd, F, o, m⟩ := c.ex
  exact pe_call o (hr.mono hk) hg m F.kp (F.binds b) .nil hx ha hdb he hpl
theorem kbn_of {K : PySem.W.Frag} {f : Addr} {fd : FuncData} {g : {α : Type} → List α → List α → List α} (F : Fun K x x st f fd) (b : BndK x st ps n ks g)
    (hrel : ∀ {vs zs : List V} {us ws : List Value}, Vals vs us → Vals zs ws → Vals (g vs zs) (g us ws)) : KBn K fd ps n ks (fun us ws => g us ws) (fun vs zs => g vs zs) := by
  obtain ⟨oc, od, kV, doc, pm, an, cdv, ct, osl, rfl, lk, hcd⟩ := F.ex
  exact ⟨fun s us ws _ h1 h2 => .of_eq (b kV doc pm an cdv ct us ws h1 h2), hrel⟩
/-- f(a, .., k = v, ..): all parameters written -/
theorem pe_clk {g : {α : Type} → List α → List α → List α} (c : Cl X.prog X.w X.K X.mg X.base CX k x st ps sp) (b : BndK x st ps n ks g)
    (hrel : ∀ {vs zs : List V} {us ws : List Value}, Vals vs us → Vals zs ws → Vals (g vs zs) (g us ws))
    (hr : Room j X.A) (hk : k ≤ j) (hg : Gl X x) (hx : Passes CX X E) (ha : PA X (e :: es) t) (hkw : PK X kws tk) (hall : (backToKw pos (keywordEach kws X.env)).all (·.1.isSome) = true := by rfl)
    (hks : (backToKw pos (keywordEach kws X.env)).filterMap (·.1) = ks := by rfl) (hdb : (x == ("__debug__" : Str)) = false := by decide) (he : starEach (e :: es) X.env = (false, eval e X.env) :: starEach es X.env := by rfl)
    (hpl : ((backTo pos (starEach (e :: es) X.env)).any (·.1) || (backToKw pos (keywordEach kws X.env)).any (·.1.isNone)) = false := by rfl) :
    PE X (.Call (.Name x p) (e :: es) kws pos) (tCallN n ks.length sp g E t tk) := by
  obtain ⟨f, fd, F, o, m⟩ := c.ex
  exact pe_callN o (hr.mono hk) hg m F.kp (kbn_of F b hrel) hx ha hkw hall hks hdb he hpl
/-- f(k = v, ..): all by name -/
theorem pe_clk0 {g : {α : Type} → List α → List α → List α} (c : Cl X.prog X.w X.K X.mg X.base CX k x st ps sp) (b : BndK x st ps 0 ks g)
    (hrel : ∀ {vs zs : List V} {us ws : List Value}, Vals vs us → Vals zs ws → Vals (g vs zs) (g us ws))
    (hr : Room j X.A) (hk : k ≤ j) (hg : Gl X x) (hx : Passes CX X E) (hkw : PK X kws tk) (hall : (backToKw pos (keywordEach kws X.env)).all (·.1.isSome) = true := by rfl)
    (hks : (backToKw pos (keywordEach kws X.env)).filterMap (·.1) = ks := by rfl) (hdb : (x == ("__debug__" : Str)) = false := by decide)
    (hpl : ((backTo pos (starEach [] X.env)).any (·.1) || (backToKw pos (keywordEach kws X.env)).any (·.1.isNone)) = false := by rfl) :
    PE X (.Call (.Name x p) [] kws pos) (tCallN 0 ks.length sp g E tNil tk) := by
  obtain ⟨f, fd, F, o, m⟩ := c.ex
  refine ⟨fun pins s σ H Q I h => ?_⟩
  refine wpAny_Call_Name_kw (ld_glob I hg m ?_ hdb)
  refine PySem.W.callWith_KW0 (h₀ := X.base) I.ok.mod.kin F.kp hall ?_ hpl
  refine thn (hkw.run pos pins s σ H _ I h) fun ws s2 ⟨zs, H2, I2, rz, l1, l2, q2⟩ => ⟨I2.kIn, ?_⟩
  rw [hks]
  exact run_fnN o (hr.mono hk) (kbn_of F b hrel) hx I2 .nil rz l1 l2 q2
/-- repr of a truth -/
theorem call_repr_bl : CallR X (.builtin "repr") (fun xs H Q => ∃ b, xs = [.bl b] ∧ Q (.str (if b then "True" else "False")) H) := by
  intro pins s σ H xs us Q I r h
  obtain ⟨b, rfl, q⟩ := h
  obtain ⟨u, rfl, rfl⟩ := vals1 r
  exact PySem.P.repr_of_bool ⟨.str _, H, I.tok _, ⟨_, rfl⟩, q⟩
end

section
variable {P : Program} {w : World} {K : PySem.W.Frag} {mg : Str → Option Value} {base : Heap} {k : Nat} {x : Str} {st : Stmt} {ps : List Str} {sp : Sp} {CX : CXT}
theorem defAt_mk {h : Heap} {f : Addr} {oc : Value} {od an : Option Addr} {osl : Array (Option Value)} {kV doc pm cdv ct : Value} (X : K.In h) (G : h.Ns mainGlobals mg) (a : PySem.W.nsIn K mainGlobals x = some (some (.ref f)))
    (l : K.lookup f = some ⟨oc, od, .func (PySem.W.fnOf x x (defArgs st) (defBody st) (defScope st) .none kV doc pm an cdv ct), osl⟩) (c : PySem.W.codeIn K cdv x = true) (kp : PySem.W.keepIn K (.ref f) = true) : DefAt K mg x st :=
  ⟨f, _, fun_mk l c kp, PySem.W.mg_of X G a⟩
/-- a def's object is one -/
theorem Cl.at {f : Addr} {fd : FuncData} (c : Cl P w K mg base CX k x st ps sp) (F : Fun K x x st f fd) (m : mg x = some (.ref f)) : FnOk P w K mg base CX k f fd ps sp := by
  obtain ⟨f', fd', F', o, m'⟩ := c.ex
  rw [m] at m'
  cases m'
  obtain ⟨oc, od, kV, doc, pm, an, cdv, ct, osl, rfl, lk, _⟩ := F.ex
  obtain ⟨oc', od', kV', doc', pm', an', cdv', ct', osl', rfl, lk', _⟩ := F'.ex
  have e := Option.some.inj (lk.symm.trans lk')
  injection e with _ _ e _
  injection e with e
  rw [e]
  exact o
end

/-! ### the law's draws -/
/-- what is handed back is told by P, all that stood stands -/
def Gets (Pv : V → Hp → Prop) (H : Hp) (Q : VK) : Prop := ∀ v H', Ex H H' → Pv v H' → Q v H'
def spCell (K : PySem.W.Frag) : Sp := fun vs H Q _ => ∃ (a : Addr) (ns : List Int) (i : Int), vs = [.ref a, .int i] ∧ SqL K H a (ns.map V.int) ∧ ns.length ≤ 63 ∧ 0 ≤ i ∧ i ≤ 63 ∧ ∀ (v : Int) H', Ex H H' → Q (.int v) H'
def spPool : Sp := fun vs H Q _ => ∃ i : Int, vs = [.int i] ∧ ∀ p H', H p = none → Ex H H' → Pool H' p → Q (.ref p) H'
def spDraw : Sp := fun vs H Q _ => ∃ (p : Addr) (m : Int), vs = [.ref p, .int m] ∧ Pool H p ∧ 0 < m ∧ m < 2 ^ 160 ∧ ∀ (v : Int) H', Ex H H' → 0 ≤ v → v < m → Q (.int v) H'
def spPool1 : Sp := fun vs H Q _ => ∃ i : Int, vs = [.int i] ∧ ∀ p H' (a b c : Int), H p = none → H' p = some (.lst [.int a, .int b, .int c]) → Ex H H' → Q (.ref p) H'
def spDraw1 : Sp := fun vs H Q _ => ∃ (p : Addr) (m a b c : Int), vs = [.ref p, .int m] ∧ H p = some (.lst [.int a, .int b, .int c]) ∧ 0 < m ∧ m < 2 ^ 160 ∧
  ∀ (v : Int) H' (a b c : Int), (∀ x o, x ≠ p → H x = some o → H' x = some o) → H' p = some (.lst [.int a, .int b, .int c]) → 0 ≤ v → v < m → Q (.int v) H'
theorem spPool_of : ∀ vs H Q E, spPool vs H Q E → spPool1 vs H (fun v H' => ∃ p a b c, v = .ref p ∧ H p = none ∧ H' p = some (.lst [.int a, .int b, .int c]) ∧ Q v (upd H' p (.ext (poolP p)))) E := by
  rintro vs H Q E ⟨i, rfl, q⟩
  refine ⟨i, rfl, fun p H' a b c hn hp e => ⟨p, a, b, c, rfl, hn, hp, q p _ hn (fun x o hx => ?_) upd_same⟩⟩
  rw [upd_ne (ne_of_none hx hn)]
  exact e x o hx
theorem spDraw_of : ∀ vs H Q E, spDraw vs H Q E → vs.length = 2 ∧ ∃ p, Pool H p ∧ ∀ a b c : Int, spDraw1 vs (upd H p (.lst [.int a, .int b, .int c])) (fun v H' => ∃ a b c : Int, H' p = some (.lst [.int a, .int b, .int c]) ∧ Q v (upd H' p (.ext (poolP p)))) E := by
  rintro vs H Q E ⟨p, m, rfl, hp, h0, h1, q⟩
  refine ⟨rfl, p, hp, fun a b c => ⟨p, m, a, b, c, rfl, upd_same, h0, h1, fun v H' a' b' c' k hq v0 v1 => ⟨a', b', c', hq, q v _ (fun x o hx => ?_) v0 v1⟩⟩⟩
  by_cases hb : x = p
  · subst hb
    rw [hp] at hx
    cases hx
    exact upd_same
  · rw [upd_ne hb]
    exact k x o hb (by rw [upd_ne hb]; exact hx)
theorem log2_lt {m : Int} (h0 : 0 < m) (h1 : m < 2 ^ 160) : m.natAbs.log2 < 9000 := by
  have e : m.natAbs < 2 ^ 160 := by omega
  have := (Nat.log2_lt (by omega : m.natAbs ≠ 0)).mpr e
  omega
theorem cdivp {i m : Int} (h0 : 0 < m) (h1 : m < 2 ^ 160) : CDivP i m := ⟨h0, PyProof.noPylong_of_log2 (log2_lt h0 h1)⟩
theorem atI_0 {a b c : V} : atI [a, b, c] 0 = some a := rfl
theorem atI_1 {a b c : V} : atI [a, b, c] 1 = some b := rfl
theorem atI_2 {a b c : V} : atI [a, b, c] 2 = some c := rfl
theorem ex_rdL {K : PySem.W.Frag} {H H' : Hp} {a : Addr} {xs : List V} (e : Ex H H') (h : SqL K H a xs) : SqL K H' a xs := ex_l e h
theorem line_ge : (100000 : Nat) ≤ sizeLine := by decide
/-! ### tests with two ways -/
theorem ifD {p A B : Prop} [Decidable p] (h1 : p → A) (h2 : ¬ p → B) : if decide p = true then A else B := by
  by_cases h : p
  · rw [if_pos (decide_eq_true h)]; exact h1 h
  · rw [if_neg (by simpa using h)]; exact h2 h
theorem ifN {p A B : Prop} [Decidable p] (h1 : ¬ p → A) (h2 : p → B) : if (!decide p) = true then A else B := by
  by_cases h : p
  · rw [if_neg (by simpa using h)]; exact h2 h
  · rw [if_pos (by simpa using h)]; exact h1 h
theorem ifB {b : Bool} {A B : Prop} (h1 : b = true → A) (h2 : b = false → B) : if b = true then A else B := by
  cases b with
  | true => exact h1 rfl
  | false => exact h2 rfl
theorem upd_new {H : Hp} {t a : Addr} {o u : HO} (ht : H t = none) (ha : H a = some o) : upd H t u a = some o := by
  rw [upd_ne (ne_of_none ha ht)]
  exact ha
theorem ex_at {H H' : Hp} {a : Addr} {o : HO} (e : Ex H H') (ha : H a = some o) : H' a = some o := e a o ha
/-- all but p stand -/
def But (p : Addr) (H H' : Hp) : Prop := ∀ x o, x ≠ p → H x = some o → H' x = some o
theorem But.refl {p : Addr} {H : Hp} : But p H H := fun _ _ _ h => h
theorem But.new {p t : Addr} {H H' : Hp} {o : HO} (b : But p H H') (ht : H' t = none) : But p H (upd H' t o) := fun x u n h => upd_new ht (b x u n h)
theorem But.mut {p : Addr} {H H' : Hp} {o : HO} (b : But p H H') : But p H (upd H' p o) := fun x u n h => by
  rw [upd_ne n]
  exact b x u n h
theorem cut_int {ns : List Int} {lo hi : Option Int} {i : Nat} {x : V} (h : (cutV (ns.map V.int) lo hi)[i]? = some x) : ∃ n, x = .int n := by
  have hm := List.mem_of_getElem? h
  have hm2 : x ∈ ns.map V.int := by
    unfold cutV at hm
    exact List.mem_of_mem_drop (List.mem_of_mem_take hm)
  obtain ⟨n, _, e⟩ := List.mem_map.mp hm2
  exact ⟨n, e.symm⟩

/-! ### kinds of values -/
inductive Kd (H : Hp) : V → String → Prop
  | non : Kd H .non "NoneType"
  | bl (b : Bool) : Kd H (.bl b) "bool"
  | int (i : Int) : Kd H (.int i) "int"
  | str (x : Str) : Kd H (.str x) "str"
  | lst {a : Addr} {xs : List V} (h : H a = some (.lst xs)) : Kd H (.ref a) "list"
  | tup {a : Addr} {xs : List V} (h : H a = some (.tup xs)) : Kd H (.ref a) "tuple"
  | fz {a : Addr} {o : Obj} {xs : List V} (h : H a = some (.frz o (.tup xs))) : Kd H (.ref a) "tuple"
  | dK {a : Addr} {kvs : List (Key × V)} (h : H a = some (.dK kvs)) : Kd H (.ref a) "dict"
def kinds : List String := ["NoneType", "bool", "int", "str", "list", "tuple", "dict"]
def isK (n c : String) : Bool := n == c || (n == "bool" && c == "int")
theorem Kd.mem {H : Hp} {v : V} {n : String} (k : Kd H v n) : n ∈ kinds := by cases k <;> decide
theorem Kd.ty {K : PySem.W.Frag} {H : Hp} {v : V} {n : String} (k : Kd H v n) : TyX K H v (.type n) := by
  cases k with
  | non => exact .base .non
  | bl b => exact .base (.bl b)
  | int i => exact .base (.int i)
  | str x => exact .base (.str x)
  | lst h => exact .base (.lst h)
  | tup h => exact .base (.tup h)
  | fz h => exact .fTuple h
  | dK h => exact .base (.dK h)
theorem kit_all : ∀ n ∈ kinds, ∀ c ∈ ["int", "bool", "tuple", "str", "list", "dict"], kitB n c = some (isK n c) := by decide +kernel
theorem kit_k {K : PySem.W.Frag} {H : Hp} {v : V} {n c : String} (k : Kd H v n) (hc : c ∈ ["int", "bool", "tuple", "str", "list", "dict"]) : PySem.W.kitOne K (.type n) (.type c) = some (isK n c) := kit_ty (kit_all n k.mem c hc)
theorem Kd.ex {H H' : Hp} {v : V} {n : String} (k : Kd H v n) (e : Ex H H') : Kd H' v n := by
  cases k with
  | non => exact .non
  | bl b => exact .bl b
  | int i => exact .int i
  | str x => exact .str x
  | lst h => exact .lst (e _ _ h)
  | tup h => exact .tup (e _ _ h)
  | fz h => exact .fz (e _ _ h)
  | dK h => exact .dK (e _ _ h)
/-- an integer (no truth) within bounds -/
def inB (lo hi : Int) : V → Bool
  | .int i => decide (lo ≤ i) && decide (i ≤ hi)
  | _ => false
def spInteger : Sp := fun vs H Q _ => ∃ v n, vs = [v] ∧ Kd H v n ∧ Q (.bl (n == "int")) H
def spBetween : Sp := fun vs H Q _ => ∃ v lo hi n, vs = [v, .int lo, .int hi] ∧ Kd H v n ∧ Q (.bl (inB lo hi v)) H
def spNumber : Sp := fun vs H Q _ => ∃ v n, vs = [v] ∧ Kd H v n ∧ Q (.bl (inB (-1000000000000) 1000000000000 v)) H
def rectL : List V → Bool
  | [a, b, c, d] => inB (-1000000000000) 1000000000000 a && inB (-1000000000000) 1000000000000 b && inB 0 1000000000000 c && inB 0 1000000000000 d
  | _ => false
/-- a value that is looked at as a rectangle: no tuple, or a tuple of values of known kinds -/
inductive Th (H : Hp) : V → Bool → Prop
  | other {v : V} {n : String} (k : Kd H v n) (h : n ≠ "tuple") : Th H v false
  | tup {a : Addr} {xs : List V} (h : H a = some (.tup xs)) (ks : ∀ x ∈ xs, ∃ n, Kd H x n) : Th H (.ref a) (rectL xs)
def spRect : Sp := fun vs H Q _ => ∃ v b, vs = [v] ∧ Th H v b ∧ Q (.bl b) H
theorem int_yes {H : Hp} {v : V} {n : String} (k : Kd H v n) (h : isK n "int" = true) : (n == "int") = !isK n "bool" := by
  have hm := k.mem
  exact (by decide : ∀ n ∈ kinds, isK n "int" = true → (n == "int") = !isK n "bool") n hm h
theorem int_no {n : String} (h : isK n "int" = false) : (n == "int") = false := by
  unfold isK at h
  cases e : n == "int" with
  | true => rw [e] at h; cases h
  | false => rfl
theorem Kd.of_int {H : Hp} {v : V} {n : String} (k : Kd H v n) (h : (n == "int") = true) : ∃ i, v = .int i := by
  cases k <;> first | exact ⟨_, rfl⟩ | exact absurd h (by decide)
theorem inB_no {H : Hp} {lo hi : Int} {v : V} {n : String} (k : Kd H v n) (h : (n == "int") = false) : inB lo hi v = false := by
  cases k <;> first | rfl | exact absurd h (by decide)
theorem isK_ne {n c : String} (h : n ≠ c) (hb : c ≠ "int") : isK n c = false := by
  unfold isK
  rw [beq_eq_false_iff_ne.mpr h, beq_eq_false_iff_ne.mpr hb]
  cases n == "bool" <;> rfl
theorem rectL_len {xs : List V} (h : xs.length ≠ 4) : rectL xs = false := by
  unfold rectL
  split
  · exact absurd rfl h
  · rfl
theorem four {xs : List V} (h : xs.length = 4) : ∃ a b c d, xs = [a, b, c, d] := match xs, h with
  | [a, b, c, d], _ => ⟨a, b, c, d, rfl⟩
theorem lenN {n m : Nat} : V.int (n : Int) = V.int (m : Int) ↔ n = m := by
  constructor
  · intro h
    injection h with h
    exact Int.ofNat_inj.mp h
  · intro h; rw [h]
theorem ifNt {b : Bool} {A B : Prop} (h1 : b = false → A) (h2 : b = true → B) : if (!b) = true then A else B := by
  cases b with
  | true => exact h2 rfl
  | false => exact h1 rfl

theorem sqlK {K K' : PySem.W.Frag} {H : Hp} {a : Addr} {xs : List V} (h : SqL K H a xs) (e : K' = K) : SqL K' H a xs := e ▸ h
theorem sqtK {K K' : PySem.W.Frag} {H : Hp} {a : Addr} {xs : List V} (h : SqT K H a xs) (e : K' = K) : SqT K' H a xs := e ▸ h
/-! ### list comprehensions, told item by item -/
/-- all but lists stand -/
def ExT (H H' : Hp) : Prop := ∀ a o, (∀ xs, o ≠ HO.lst xs) → H a = some o → H' a = some o
theorem Ex.exT {H H' : Hp} (e : Ex H H') : ExT H H' := fun a o _ h => e a o h
theorem ExT.wr {H : Hp} {D : Addr} {xs : List V} {o : HO} (h : H D = some (.lst xs)) : ExT H (upd H D o) := fun a u n ha => by
  rw [upd_ne (ne_of ha h (n xs))]
  exact ha
theorem ExT.trans {H H1 H2 : Hp} (a : ExT H H1) (b : ExT H1 H2) : ExT H H2 := fun x o n h => b x o n (a x o n h)
/-- what a turn makes: some item or none -/
abbrev PeT := Nat → Option V → Hp → Prop
def Mono (Pe : PeT) : Prop := ∀ i o H H', ExT H H' → Pe i o H → Pe i o H'
structure LcI (H1 : Hp) (D : Addr) (Pe : PeT) (i : Nat) (H : Hp) : Prop where
  new : H1 D = none
  ex : Ex H1 H
  its : ∃ os : List (Option V), os.length = i ∧ H D = some (.lst (os.filterMap id)) ∧ ∀ m o, os[m]? = some o → Pe m o H
section
variable {H1 H H4 : Hp} {D : Addr} {Pe : PeT} {i n : Nat} {y : V}
theorem LcI.start (h : H1 D = none) : LcI H1 D Pe 0 (upd H1 D (.lst [])) := ⟨h, Ex.new h, [], rfl, upd_same, fun m o e => by simp at e⟩
theorem LcI.more (I : LcI H1 D Pe i H) (mono : Mono Pe) (hi : i < 50000) (e : Ex H H4) (p : Pe i (some y) H4) :
    ∃ acc, H4 D = some (.lst acc) ∧ acc.length < sizeLine ∧ LcI H1 D Pe (i + 1) (upd H4 D (.lst (acc ++ [y]))) := by
  obtain ⟨hn, e1, os, hl, hD, hp⟩ := I
  have hD4 := e _ _ hD
  have hT : ExT H4 (upd H4 D (.lst (os.filterMap id ++ [y]))) := ExT.wr hD4
  refine ⟨_, hD4, ?_, hn, Ex.mut (e1.trans e) hn, os ++ [some y], ?_, ?_, fun m o hm => ?_⟩
  · have := List.length_filterMap_le id os
    exact Nat.lt_of_lt_of_le (by omega) line_ge
  · rw [List.length_append, hl]; rfl
  · rw [upd_same, List.filterMap_append]; rfl
  · by_cases hb : m < os.length
    · rw [List.getElem?_append_left hb] at hm
      exact mono _ _ _ _ ((Ex.exT e).trans hT) (hp m o hm)
    · rw [List.getElem?_append_right (Nat.le_of_not_lt hb)] at hm
      have h0 : m - os.length = 0 := by
        cases hz : m - os.length with
        | zero => rfl
        | succ k => rw [hz] at hm; simp at hm
      rw [h0] at hm
      have e2 : o = some y := (Option.some.inj hm).symm
      have e3 : m = i := by omega
      subst e2 e3
      exact mono _ _ _ _ hT p
theorem LcI.less (I : LcI H1 D Pe i H) (mono : Mono Pe) (e : Ex H H4) (p : Pe i none H4) : LcI H1 D Pe (i + 1) H4 := by
  obtain ⟨hn, e1, os, hl, hD, hp⟩ := I
  refine ⟨hn, e1.trans e, os ++ [none], ?_, ?_, fun m o hm => ?_⟩
  · rw [List.length_append, hl]; rfl
  · rw [List.filterMap_append, e _ _ hD]
    show _ = some (HO.lst (os.filterMap id ++ []))
    rw [List.append_nil]
  · by_cases hb : m < os.length
    · rw [List.getElem?_append_left hb] at hm
      exact mono _ _ _ _ (Ex.exT e) (hp m o hm)
    · rw [List.getElem?_append_right (Nat.le_of_not_lt hb)] at hm
      have h0 : m - os.length = 0 := by
        cases hz : m - os.length with
        | zero => rfl
        | succ k => rw [hz] at hm; simp at hm
      rw [h0] at hm
      have e2 : o = none := (Option.some.inj hm).symm
      have e3 : m = i := by omega
      subst e2 e3
      exact p
/-- a turn: from item x -/
def LcTurn (Pe : PeT) (H1 : Hp) (g : TG) (tt : TT) (te : TE) (vs : List Nat) (σ : L2.St) (i : Nat) (x : V) : Prop := ∀ H, Ex H1 H → ∀ (Q1 : VK) (Q2 : Hp → Prop), (∀ y H4, Ex H H4 → Pe i (some y) H4 → Q1 y H4) → (∀ H4, Ex H H4 → Pe i none H4 → Q2 H4) →
  g x (wipe σ vs) H fun σ2 H2 => wipe σ2 vs = wipe σ vs ∧ tt σ2 H2 fun b H3 => if b = true then te σ2 H3 Q1 else Q2 H3
variable {g : TG} {tt : TT} {te : TE} {vs : List Nat} {σ : L2.St} {Qd : Hp → Prop} {K : PySem.W.Frag} {a : Addr} {xs : List V}
theorem lcR (Pe : PeT) (mono : Mono Pe) (hD : H1 D = none) (hn : n ≤ 50000) (hs : ∀ i, i < n → LcTurn Pe H1 g tt te vs σ i (.int ((0 : Int) + i)))
    (hd : ∀ H' (os : List (Option V)), Ex H1 H' → os.length = n → H' D = some (.lst (os.filterMap id)) → (∀ i o, os[i]? = some o → Pe i o H') → Qd H') :
    ∃ W : Nat → Nat → Hp → Prop, (∃ m, W 0 m (upd H1 D (.lst []))) ∧ ∀ i m H, W i m H →
      ((Itr 0 n).stop i H ∧ Qd H) ∨ ((Itr 0 n).go i H ∧ ∃ Nx : Hp → Prop, (∀ H', Nx H' → ∃ m', m' < m ∧ W (i + 1) m' H') ∧ ∀ x H', (Itr 0 n).yld i H x H' → g x (wipe σ vs) H' fun σ2 H2 => wipe σ2 vs = wipe σ vs ∧ tt σ2 H2 fun b H3 =>
        if b = true then te σ2 H3 fun y H4 => ∃ acc, H4 D = some (.lst acc) ∧ acc.length < sizeLine ∧ Nx (upd H4 D (.lst (acc ++ [y]))) else Nx H3) :=
  lc_range (LcI H1 D Pe) (LcI.start hD) (fun i H hi I => hs i hi H I.ex _ _ (fun y H4 e p => I.more mono (by omega) e p) (fun H4 e p => I.less mono e p))
    (fun H I => by obtain ⟨_, e, os, hl, h, p⟩ := I; exact hd H os e hl h p)
theorem lcL (Pe : PeT) (mono : Mono Pe) (hD : H1 D = none) (hx : SqL K H1 a xs) (hn : xs.length ≤ 50000) (hs : ∀ i x, xs[i]? = some x → LcTurn Pe H1 g tt te vs σ i x)
    (hd : ∀ H' (os : List (Option V)), Ex H1 H' → os.length = xs.length → H' D = some (.lst (os.filterMap id)) → (∀ i o, os[i]? = some o → Pe i o H') → Qd H') :
    ∃ W : Nat → Nat → Hp → Prop, (∃ m, W 0 m (upd H1 D (.lst []))) ∧ ∀ i m H, W i m H →
      ((Itl K a).stop i H ∧ Qd H) ∨ ((Itl K a).go i H ∧ ∃ Nx : Hp → Prop, (∀ H', Nx H' → ∃ m', m' < m ∧ W (i + 1) m' H') ∧ ∀ x H', (Itl K a).yld i H x H' → g x (wipe σ vs) H' fun σ2 H2 => wipe σ2 vs = wipe σ vs ∧ tt σ2 H2 fun b H3 =>
        if b = true then te σ2 H3 fun y H4 => ∃ acc, H4 D = some (.lst acc) ∧ acc.length < sizeLine ∧ Nx (upd H4 D (.lst (acc ++ [y]))) else Nx H3) :=
  lc_list (LcI H1 D Pe) (LcI.start hD) (fun i H _ I => ex_l I.ex hx) (fun i x H hi I => hs i x hi H I.ex _ _ (fun y H4 e p => I.more mono (by have := (List.getElem?_eq_some_iff.mp hi).1; omega) e p) (fun H4 e p => I.less mono e p))
    (fun H I => by obtain ⟨_, e, os, hl, h, p⟩ := I; exact hd H os e hl h p)
theorem lcT (Pe : PeT) (mono : Mono Pe) (hD : H1 D = none) (hx : SqT K H1 a xs) (hn : xs.length ≤ 50000) (hs : ∀ i x, xs[i]? = some x → LcTurn Pe H1 g tt te vs σ i x)
    (hd : ∀ H' (os : List (Option V)), Ex H1 H' → os.length = xs.length → H' D = some (.lst (os.filterMap id)) → (∀ i o, os[i]? = some o → Pe i o H') → Qd H') :
    ∃ W : Nat → Nat → Hp → Prop, (∃ m, W 0 m (upd H1 D (.lst []))) ∧ ∀ i m H, W i m H →
      ((Itt K a).stop i H ∧ Qd H) ∨ ((Itt K a).go i H ∧ ∃ Nx : Hp → Prop, (∀ H', Nx H' → ∃ m', m' < m ∧ W (i + 1) m' H') ∧ ∀ x H', (Itt K a).yld i H x H' → g x (wipe σ vs) H' fun σ2 H2 => wipe σ2 vs = wipe σ vs ∧ tt σ2 H2 fun b H3 =>
        if b = true then te σ2 H3 fun y H4 => ∃ acc, H4 D = some (.lst acc) ∧ acc.length < sizeLine ∧ Nx (upd H4 D (.lst (acc ++ [y]))) else Nx H3) :=
  lc_tup (LcI H1 D Pe) (LcI.start hD) (fun i H _ I => ex_t I.ex hx) (fun i x H hi I => hs i x hi H I.ex _ _ (fun y H4 e p => I.more mono (by have := (List.getElem?_eq_some_iff.mp hi).1; omega) e p) (fun H4 e p => I.less mono e p))
    (fun H I => by obtain ⟨_, e, os, hl, h, p⟩ := I; exact hd H os e hl h p)
end
/-- every turn makes an item: Pf tells it -/
def All (Pf : Nat → V → Hp → Prop) : PeT := fun i o H => ∃ y, o = some y ∧ Pf i y H
theorem All.list {Pf : Nat → V → Hp → Prop} {H : Hp} : ∀ {os : List (Option V)} {k : Nat}, (∀ i o, os[i]? = some o → All Pf (k + i) o H) → ∃ ys : List V, os.filterMap id = ys ∧ ys.length = os.length ∧ ∀ i y, ys[i]? = some y → Pf (k + i) y H
  | [], _, _ => ⟨[], rfl, rfl, fun i y e => by simp at e⟩
  | o :: os, k, h => by
    obtain ⟨y, rfl, p⟩ := h 0 o rfl
    obtain ⟨ys, e1, e2, e3⟩ := All.list (os := os) (k := k + 1) (fun i o e => by
      have := h (i + 1) o e
      rwa [show k + (i + 1) = k + 1 + i by omega] at this)
    refine ⟨y :: ys, by rw [← e1]; rfl, by rw [List.length_cons, List.length_cons, e2], fun i z e => ?_⟩
    cases i with
    | zero =>
      have : y = z := Option.some.inj e
      subst this
      exact p
    | succ i =>
      have := e3 i z e
      rwa [show k + (i + 1) = k + 1 + i by omega]
theorem All.end {Pf : Nat → V → Hp → Prop} {H : Hp} {os : List (Option V)} (h : ∀ i o, os[i]? = some o → All Pf i o H) : ∃ ys : List V, os.filterMap id = ys ∧ ys.length = os.length ∧ ∀ i y, ys[i]? = some y → Pf i y H := by
  obtain ⟨ys, a, b, c⟩ := All.list (k := 0) (fun i o e => by rw [Nat.zero_add]; exact h i o e)
  exact ⟨ys, a, b, fun i y e => by have := c i y e; rwa [Nat.zero_add] at this⟩
theorem all_mono {Pf : Nat → V → Hp → Prop} (h : ∀ i v H H', ExT H H' → Pf i v H → Pf i v H') : Mono (All Pf) := fun i o H H' e ⟨y, a, b⟩ => ⟨y, a, h i y H H' e b⟩
theorem Kd.up {H H' : Hp} {v : V} {n : String} (e : Ex H H') (k : Kd H v n) : Kd H' v n := k.ex e
theorem Kd.new {H : Hp} {t : Addr} {o : HO} {v : V} {n : String} (h : H t = none) (k : Kd H v n) : Kd (upd H t o) v n := k.ex (Ex.new h)
theorem atI_in {xs : List V} {d : Int} (h0 : 0 ≤ d) (h1 : d < xs.length) : ∃ v, v ∈ xs ∧ atI xs d = some v := by
  obtain ⟨j, rfl⟩ := Int.eq_ofNat_of_zero_le h0
  have hj : j < xs.length := by omega
  exact ⟨xs[j], List.getElem_mem hj, atI_nat (List.getElem?_eq_getElem hj)⟩
theorem Th.up {H H' : Hp} {v : V} {b : Bool} (e : Ex H H') (k : Th H v b) : Th H' v b := by
  cases k with
  | other k h => exact .other (k.ex e) h
  | tup h ks => exact .tup (e _ _ h) fun x hx => let ⟨n, k⟩ := ks x hx; ⟨n, k.ex e⟩
theorem Th.kd {H : Hp} {v : V} {b : Bool} (k : Th H v b) : ∃ n, Kd H v n := by
  cases k with
  | other k h => exact ⟨_, k⟩
  | tup h ks => exact ⟨_, .tup h⟩
theorem Pool.up {H H' : Hp} {p : Addr} (e : Ex H H') (h : Pool H p) : Pool H' p := e _ _ h
theorem Pool.new {H : Hp} {t p : Addr} {o : HO} (ht : H t = none) (h : Pool H p) : Pool (upd H t o) p := upd_new ht h
theorem Th.new {H : Hp} {t : Addr} {o : HO} {v : V} {b : Bool} (ht : H t = none) (k : Th H v b) : Th (upd H t o) v b := k.up (Ex.new ht)
theorem ix_in {K : PySem.W.Frag} {H : Hp} {p : Addr} {xs : List V} {d : Int} {Q : VK} (h : SqL K H p xs ∨ SqT K H p xs) (h0 : 0 ≤ d) (h1 : d < xs.length) (q : ∀ v, v ∈ xs → Q v H) : rIx K (.ref p) (.int d) H Q := by
  obtain ⟨v, hv, ha⟩ := atI_in h0 h1
  rcases h with h | h
  · exact .inl ⟨p, xs, d, v, rfl, rfl, h, ha, q v hv⟩
  · exact .inr (.inl ⟨p, xs, d, v, rfl, rfl, h, ha, q v hv⟩)
/-- a heap without one object -/
def Minus (H : Hp) (p : Addr) : Hp := fun a => if a = p then none else H a
theorem minus_at {H : Hp} {p a : Addr} {o : HO} (n : a ≠ p) (h : H a = some o) : Minus H p a = some o := by
  unfold Minus
  rw [if_neg n]
  exact h
theorem minus_ex {H H' : Hp} {p : Addr} (b : But p H H') : Ex (Minus H p) H' := fun a o h => by
  unfold Minus at h
  by_cases n : a = p
  · rw [if_pos n] at h; cases h
  · rw [if_neg n] at h; exact b a o n h
theorem minus_lo {H : Hp} {p : Addr} : Ex (Minus H p) H := minus_ex But.refl
theorem ne_fresh {H : Hp} {a p : Addr} {o : HO} (h : H a = none) (hp : H p = some o) : a ≠ p := (ne_of_none hp h).symm
theorem But.ex {p : Addr} {H H0 H' : Hp} (e : Ex H H0) (h : H p = none) (b : But p H0 H') : Ex H H' := fun a o ha => b a o (ne_of_none ha h) (e a o ha)
theorem But.up {p : Addr} {H H1 H2 : Hp} (b : But p H H1) (e : Ex H1 H2) : But p H H2 := fun a o n h => e a o (b a o n h)
theorem mem_cut {xs : List V} {lo hi : Option Int} {x : V} (h : x ∈ cutV xs lo hi) : x ∈ xs := by
  unfold cutV at h
  exact List.mem_of_mem_drop (List.mem_of_mem_take h)
theorem mem_set {xs : List V} {j : Nat} {x y : V} (h : x ∈ xs.set j y) : x ∈ xs ∨ x = y := List.mem_or_eq_of_mem_set h
theorem ixN_in {n : Nat} {d : Int} (h0 : 0 ≤ d) (h1 : d < n) : ixN n d = some d.toNat := by
  unfold ixN
  rw [if_pos h0, if_pos h1]
/-- o[d] = v in bounds -/
theorem set_in {H : Hp} {p : Addr} {xs : List V} {d : Int} {v : V} {Q : Hp → Prop} (h : H p = some (.lst xs)) (h0 : 0 ≤ d) (h1 : d < xs.length) (q : Q (upd H p (.lst (xs.set d.toNat v)))) : rSetL (.ref p) (.int d) v H Q :=
  ⟨p, xs, d, d.toNat, rfl, rfl, h, ixN_in h0 h1, q⟩
theorem newEx {H H' : Hp} {t : Addr} {o : HO} (h : upd H t o = H') (n : H t = none) : Ex H H' := by rw [← h]; exact Ex.new n
theorem newAt {H H' : Hp} {t : Addr} {o : HO} (h : upd H t o = H') : H' t = some o := by rw [← h]; exact upd_same
theorem mutBut {H H' : Hp} {t : Addr} {o : HO} (h : upd H t o = H') : But t H H' := by rw [← h]; exact But.mut But.refl
theorem but_of {p : Addr} {H H' : Hp} (e : Ex H H') : But p H H' := fun x o _ h => e x o h
theorem law_fd {K : PySem.W.Frag} {mg : Str → Option Value} {x p : Str} {st : Stmt} {fa : Addr} (D : DefAt K mg x st) (b : Bnd x st [p]) (hfa : mg x = some (.ref fa)) : ∃ fd, Fun K x x st fa fd ∧ ∀ (s : Shared) (u : Value), BindsTo s fd ⟨[u], []⟩ [(p, u)] := by
  obtain ⟨f, fd, F, m⟩ := D.ex
  rw [m] at hfa
  cases hfa
  refine ⟨fd, F, ?_⟩
  obtain ⟨oc, od, kV, doc, pm, an, cdv, ct, osl, rfl, lk, hcd⟩ := F.ex
  exact fun s u => .of_eq (b kV doc pm an cdv ct [u] rfl)
/-- the law's promise -/
def spLaw (K : PySem.W.Frag) : Sp := fun vs H Q _ => ∃ (a : Addr) (ns : List Int), vs = [.ref a] ∧ SqL K H a (ns.map V.int) ∧ ns.length ≤ 63 ∧ ∀ H', Q (.bl true) H'
/-- a check of the law: whatever the pool gives, True -/
def spCheck : Sp := fun vs H Q _ => ∃ p, vs = [.ref p] ∧ Pool H p ∧ ∀ H', Ex H H' → Q (.bl true) H'
theorem all_true {ys : List V} (h : ∀ y ∈ ys, y = V.bl true) : ∃ bs : List Bool, ys = bs.map V.bl ∧ bs.all id = true := by
  refine ⟨List.replicate ys.length true, ?_, by simp⟩
  rw [List.map_replicate]
  exact List.eq_replicate_iff.mpr ⟨rfl, h⟩
theorem rep2 {H : Hp} {l : Addr} {xs : List V} {Q : VK} (h : H l = some (.lst xs)) (hl : xs.length ≤ 1000) (q : ∀ p, H p = none → Q (.ref p) (upd H p (.lst (xs ++ xs)))) : rRep (.ref l) (.int 2) H Q := by
  refine ⟨l, 2, xs, rfl, rfl, h, by decide, by decide, ?_, fun p n => ?_⟩
  · exact Nat.le_trans (by show xs.length * 2 ≤ 100000; omega) line_ge
  · have e : (List.replicate (2 : Int).toNat xs).flatten = xs ++ xs := by
      show xs ++ (xs ++ []) = _
      rw [List.append_nil]
    first
      | (rw [e]; exact q p n)
      | exact q p n
theorem const_mk {K : PySem.W.Frag} {h : Heap} {mg : Str → Option Value} {x : Str} {u : Value} {v : V} (X : K.In h) (G : h.Ns mainGlobals mg) (a : PySem.W.nsIn K mainGlobals x = some (some u)) (r : RelV v u) : ∃ u, mg x = some u ∧ RelV v u := ⟨u, PySem.W.mg_of X G a, r⟩
/-- a statement that is never reached -/
theorem ps_dead {X : Cx} {st : Stmt} : PS X st (fun _ _ _ => False) := ⟨fun _ _ _ _ _ _ h => h.elim⟩
theorem ixT_at {K : PySem.W.Frag} {H : Hp} {p : Addr} {xs : List V} {i : Int} {j : Nat} {v : V} {Q : VK} (h : SqT K H p xs) (e : i = (j : Int)) (hx : xs[j]? = some v) (q : Q v H) : rIx K (.ref p) (.int i) H Q :=
  .inr (.inl ⟨p, xs, i, v, rfl, rfl, h, by rw [e]; exact atI_nat hx, q⟩)
theorem ixL_at {K : PySem.W.Frag} {H : Hp} {p : Addr} {xs : List V} {i : Int} {j : Nat} {v : V} {Q : VK} (h : SqL K H p xs) (e : i = (j : Int)) (hx : xs[j]? = some v) (q : Q v H) : rIx K (.ref p) (.int i) H Q :=
  .inl ⟨p, xs, i, v, rfl, rfl, h, by rw [e]; exact atI_nat hx, q⟩
end Lw
/-! Tuples that know their object; dict(tuple of pairs); sorted(d.items()) of ints. -/
namespace Lw
open PySem PySem.Spec PyProof.Rows L2 Evl

/-- a tuple whose object has no dict of its own -/
def Tu (H : Hp) (p : Addr) (xs : List V) : Prop := ∃ o : Obj, o.dict = none ∧ H p = some (.frz o (.tup xs))
abbrev RowAt (H : Hp) (q : Addr) (p : Int × Int) : Prop := H q = some (.tup [.int p.1, .int p.2])
abbrev Rows (H : Hp) : List Addr → List (Int × Int) → Prop := Paired (RowAt H)
def kvI (ps : List (Int × Int)) : List (Key × V) := ps.map fun p => (.inl p.1, .int p.2)
theorem Tu.up {H H' : Hp} {p : Addr} {xs : List V} (e : Ex H H') (t : Tu H p xs) : Tu H' p xs := let ⟨o, a, b⟩ := t; ⟨o, a, e _ _ b⟩
theorem RowAt.up {H H' : Hp} {q : Addr} {p : Int × Int} (h : RowAt H q p) (e : Ex H H') : RowAt H' q p := e _ _ h
theorem Tu.sq {K : PySem.W.Frag} {H : Hp} {p : Addr} {xs : List V} (t : Tu H p xs) : SqT K H p xs := let ⟨o, _, b⟩ := t; .inl (.inr ⟨o, b⟩)
theorem Rows.up {H H' : Hp} (e : Ex H H') : ∀ {qs : List Addr} {ps : List (Int × Int)}, Rows H qs ps → Rows H' qs ps
  | _, _, .nil => .nil
  | _, _, .cons h t => .cons (e _ _ h) (Rows.up e t)
theorem u1 {a b : Nat} (h : a + 64 < b) : a + 1 < b := by omega
section
variable {X : Cx} {es : List Expr} {pos : Pos} {t : TA}
/-- tuple(xs), xs a list -/
theorem cr_tupF : CallR X (.type "tuple") (fun as H Q => ∃ p ys, as = [.ref p] ∧ SqL X.K H p ys ∧ ∀ l o, H l = none → o.dict = none → Q (.ref l) (upd H l (.frz o (.tup ys)))) := by
  intro pins s σ H as us Q I r hq
  obtain ⟨p, ys, rfl, hl, q⟩ := hq
  obtain rfl := Vals.ref1 r
  obtain ⟨its, rv, pl, hz⟩ := I.list hl
  refine call_tuple_list pl.isList (fun g kp => ?_) (by rw [List.size_toArray, ← rv.length]; exact hz)
  have J : Inv X pins σ H { s with heap := g } := I.kept (t' := s.toks) kp
  have hn := J.hok.fresh (Nat.le_refl _)
  refine ⟨.ref _, _, J.laid (t' := s.toks) (fun b o e => Heap.get?_push_of_some _ e) (Nat.le_refl _) (o := .frz { cls := .type "tuple", data := .seq its.toArray } (.tup ys)) ⟨Heap.get?_push_size _ rfl, hz, its, rv, IsTup.new _ _⟩, rfl, q _ _ hn rfl⟩
def tTupF (t : TA) : TE := fun σ H Q => t σ H fun xs H1 => xs.length ≤ sizeLine ∧ ∀ p o, H1 p = none → o.dict = none → Q (.ref p) (upd H1 p (.frz o (.tup xs)))
/-- (a, ..) -/
theorem pe_tupF {x1} (h : PA X es t) : PE X (.Tuple es x1 pos) (tTupF t) := by
  refine ⟨fun pins s σ H Q I hq => ?_⟩
  refine wpAny_Tuple_spliced (thn (h.run pos pins s σ H _ I hq) fun us s1 hh => ?_)
  obtain ⟨xs, H1, J, r, z, q⟩ := hh
  refine ⟨by rw [← r.length]; exact z, ?_⟩
  have hn := J.hok.fresh (Nat.le_refl _)
  refine ⟨.ref _, _, J.laid (t' := s1.toks) (fun b u e => Heap.get?_push_of_some _ e) (Nat.le_refl _) (o := .frz { cls := .type "tuple", data := .seq us.toArray } (.tup xs)) ⟨Heap.get?_push_size _ rfl, z, us, r, ⟨_, Heap.get?_push_size _ rfl, rfl, _, rfl⟩⟩, rfl, q _ _ hn rfl⟩
theorem rows_of {pins : List (Addr × Obj)} {σ : L2.St} {H : Hp} {s : Shared} (I : Inv X pins σ H s) : ∀ {qs : List Addr} {ps : List (Int × Int)}, Rows H qs ps →
    ∃ (vps : List (Value × Value)) (prs : List (Key × Value)), Paired (fun (q : Addr) (kv : Value × Value) => IsTup s.heap q #[kv.1, kv.2]) qs vps ∧ KV (kvI ps) prs ∧
      Paired (fun (pr : Key × Value) (kv : Value × Value) => keyIs pr.1 kv.1 = true ∧ pr.2 = kv.2) prs vps
  | _, _, .nil => ⟨[], [], .nil, .nil, .nil⟩
  | _, _, .cons (a := q) (b := p) h t => by
    obtain ⟨vps, prs, a, b, c⟩ := rows_of I t
    obtain ⟨its, rv, ht, _⟩ := I.tuple (SqT.of h)
    obtain ⟨u, y, rfl, ru, ry⟩ := vals2 rv
    obtain ⟨k, rfl⟩ := ru
    exact ⟨(.int p.1 k, y) :: vps, (.inl p.1, y) :: prs, .cons ht a, .cons ⟨rfl, ry⟩ b, .cons ⟨keyIs_int _ _, rfl⟩ c⟩
/-- dict(t), t a tuple of pairs of ints -/
theorem cr_dictT (hc : X.calm = true) : CallR X (.type "dict") (fun as H Q => ∃ a qs ps, as = [.ref a] ∧ Tu H a (qs.map V.ref) ∧ Rows H qs ps ∧ ∀ l, H l = none → Q (.ref l) (upd H l (.dK (mergeK [] (kvI ps))))) := by
  intro pins s σ H as us Q I r hq
  obtain ⟨a, qs, ps, rfl, ⟨o, hd, ho⟩, hr, q⟩ := hq
  obtain rfl := Vals.ref1 r
  obtain ⟨go, hz, its, rv, o', ho', hcl, n, hdat⟩ := I.hok a _ ho
  obtain rfl : o = o' := Option.some.inj (go.symm.trans ho')
  obtain rfl := refs_at rv
  rw [List.length_map] at hz
  obtain ⟨vps, prs, h1, h2, h3⟩ := rows_of I hr
  have l1 : qs.length = vps.length := Paired.length h1
  have l3 : prs.length = vps.length := Paired.length h3
  have key : ∀ j k v, vps[j]? = some (k, v) → ∃ b, qs[j]? = some b ∧ IsTup s.heap b #[k, v] := fun j k v e => by
    obtain ⟨b, hb, ht⟩ := L2.DX.pget h1 e
    exact ⟨b, hb, ht⟩
  refine PySem.call_dict_pairs (knd := mixKind X.prog X.w) (kvs := prs) (PairArg.tuple a (qs.map Value.ref).toArray (fun j => qs.getD j 0) vps) (I.ok.hd hc) ⟨⟨o, n, go, hcl, hd, hdat⟩, ?_, fun j k v e => ?_⟩ ⟨l3, fun i k v e => ?_⟩ (by omega) fun h' tk dd hk => ?_
  · rw [List.size_toArray, List.length_map]; exact l1
  · obtain ⟨b, hb, ht⟩ := key j k v e
    have eb : qs.getD j 0 = b := by rw [List.getD_eq_getElem?_getD, hb]; rfl
    refine ⟨?_, .inl ?_⟩
    · show (qs.map Value.ref).toArray[j]? = some (.ref (qs.getD j 0))
      rw [eb, List.getElem?_toArray, List.getElem?_map, hb]; rfl
    · show s.heap.IsTuple (qs.getD j 0) #[k, v]
      rw [eb]; exact ht
  · obtain ⟨⟨k', v'⟩, hp, hk, hv⟩ := L2.DX.pget h3 e
    exact ⟨k', by rw [hp, show v' = v from hv], hk⟩
  · have hm : (s.heap.objs.size == sysModules) = false := beq_eq_false_iff_ne.mpr (Nat.ne_of_gt I.big)
    have hlen : (mergeK [] (kvI ps)).length ≤ sizeLine := by
      refine Nat.le_trans (length_mergeK _ []) ?_
      rw [List.length_nil, Nat.zero_add, h2.length]
      omega
    exact ⟨.ref _, _, I.laid (t' := tk) (fun b u e => hk b u (fun z => nomatch z) e) (Nat.le_refl _) (o := .dK (mergeK [] (kvI ps))) ⟨hlen, hm, merged [] prs, KV.merge h2 .nil, dd⟩, rfl, q _ (I.hok.fresh (Nat.le_refl _))⟩
/-- the same context, one call deeper -/
theorem inA {pins : List (Addr × Obj)} {σ : L2.St} {H : Hp} {s : Shared} (I : Inv X pins σ H s) : Inv { X with A := X.A.in1 } pins σ H s := by
  obtain ⟨⟨a1, a2, a3, a4, a5, a6, a7, a8, a9, b1, b2, b3, b4, b5, b6, b7, b8, b9⟩, c1, c2, c3, c4, c5, c6, c7, c8, c9, d1⟩ := I
  exact ⟨⟨a1, a2, a3, a4, a5, a6, a7, a8, fun c => by show X.A.in1.handled = none; simpa using a9 c, b1, b2, b3, b4, b5, b6, b7, b8, b9⟩, c1, c2, c3, c4, c5, c6, c7, c8, c9, d1⟩
theorem outA {pins : List (Addr × Obj)} {σ : L2.St} {H : Hp} {s : Shared} (ok : X.Ok) (I : Inv { X with A := X.A.in1 } pins σ H s) : Inv X pins σ H s := by
  obtain ⟨_, c1, c2, c3, c4, c5, c6, c7, c8, c9, d1⟩ := I
  exact ⟨ok, c1, c2, c3, c4, c5, c6, c7, c8, c9, d1⟩
/-- d.items() -/
theorem mt_itemsK : MtR X "dict.items" (fun x as H Q => ∃ a kvs, x = .ref a ∧ as = [] ∧ H a = some (.dK kvs) ∧ ∀ p, H p = none → Q (.ref p) (upd H p (L2.DX.itemsO p a))) := by
  intro pins s σ H x as v us Q I rx rs hq
  obtain ⟨a, kvs, rfl, rfl, ha, q⟩ := hq
  cases rx
  cases rs
  obtain ⟨_, hd, vs, rel, o, es, ep, ho, hx, hdat, _⟩ := dk_of I.hok ha
  refine DT.callItems (es := es) (ep := ep) hd ⟨o, ho, hx, hdat⟩ ?_
  exact ⟨.ref _, _, I.laid (t' := s.toks) (fun b u e => Heap.get?_push_of_some _ e) (Nat.le_refl _) (L2.DX.itemsO_ok (Heap.get?_push_size _ rfl)), rfl, q _ (I.hok.fresh (Nat.le_refl _))⟩
theorem pairs_at {P : Program} {w : World} : ∀ {es : List DictEntry} {vs : List (Key × Value)} {kvs : List (Key × V)} {ps : List (Int × Int)} {j : Nat} {e : DictEntry}, Pairs (mixKind P w) es vs → KV kvs vs → kvs = kvI ps → es[j]? = some e →
    ∃ p t, ps[j]? = some p ∧ e.key = .int p.1 t ∧ RelV (.int p.2) e.val
  | _, _, _, _, j, e, .nil, _, _, h => by simp at h
  | _, _, _, [], _, _, .cons .., .cons .., hk, _ => by cases hk
  | _, _, _, p :: ps, 0, e, .cons h1 h2 t, .cons r1 r2, hk, h => by
    cases hk
    simp only [List.getElem?_cons_zero] at h
    cases h
    obtain ⟨r1, r3⟩ := r1
    rcases keyIs_shape (show keyIs _ _ = true from h1) with ⟨i, t, ek, ev⟩ | ⟨z, t, ek, ev⟩
    · rw [← r1] at ek
      cases ek
      exact ⟨p, t, rfl, ev, by rw [h2]; exact r3⟩
    · rw [← r1] at ek
      cases ek
  | _, _, _, p :: ps, j + 1, e, .cons h1 h2 t, .cons r1 r2, hk, h => by
    cases hk
    simp only [List.getElem?_cons_succ] at h
    obtain ⟨p', t', a, b, c⟩ := pairs_at t r2 rfl h
    exact ⟨p', t', by rw [List.getElem?_cons_succ]; exact a, b, c⟩
theorem rows_mk {H : Hp} : ∀ {as : List Addr} {ps : List (Int × Int)}, as.length = ps.length → (∀ (j : Nat) a, as[j]? = some a → ∃ p, ps[j]? = some p ∧ RowAt H a p) → Rows H as ps
  | [], [], _, _ => .nil
  | a :: as, p :: ps, hl, h => by
    refine .cons ?_ (rows_mk (by simpa using hl) fun j b e => ?_)
    · obtain ⟨p', e, r⟩ := h 0 a rfl
      cases e
      exact r
    · obtain ⟨p', e', r⟩ := h (j + 1) b e
      exact ⟨p', e', r⟩
  | [], _ :: _, hl, _ => by simp at hl
  | _ :: _, [], hl, _ => by simp at hl
def kOf (H : Hp) : V → Int × Int
  | .ref a => match H a with
    | some (.tup [.int x, .int y]) => (x, y)
    | _ => (0, 0)
  | _ => (0, 0)
theorem kOf_row {H : Hp} {a : Addr} {p : Int × Int} (h : RowAt H a p) : kOf H (.ref a) = p := by
  show (match H a with
    | some (.tup [.int x, .int y]) => (x, y)
    | _ => (0, 0)) = p
  rw [show H a = some (.tup [.int p.1, .int p.2]) from h]
def unref : V → Addr
  | .ref a => a
  | _ => 0
theorem rows_get {H : Hp} : ∀ {as : List Addr} {ps : List (Int × Int)}, Rows H as ps → ps = as.map fun a => kOf H (.ref a)
  | _, _, .nil => rfl
  | _, _, .cons h t => by rw [List.map_cons, kOf_row h, ← rows_get t]
theorem rows_mem {H : Hp} : ∀ {as : List Addr} {ps : List (Int × Int)}, Rows H as ps → ∀ a ∈ as, ∃ p, RowAt H a p
  | _, _, .cons h t, a, m => by
    rcases List.mem_cons.mp m with rfl | m
    · exact ⟨_, h⟩
    · exact rows_mem t a m
theorem rows_all {H : Hp} : ∀ {as : List Addr}, (∀ a ∈ as, ∃ p, RowAt H a p) → Rows H as (as.map fun a => kOf H (.ref a))
  | [], _ => .nil
  | a :: as, h => by
    obtain ⟨p, e⟩ := h a (by simp)
    exact .cons (by show RowAt H a (kOf H (.ref a)); rw [kOf_row e]; exact e) (rows_all fun b m => h b (List.mem_cons_of_mem _ m))
theorem rows_sub {H H' : Hp} : ∀ {as : List Addr} {ps : List (Int × Int)}, (∀ a ∈ as, ∀ o, H a = some o → H' a = some o) → Rows H as ps → Rows H' as ps
  | _, _, _, .nil => .nil
  | _, _, k, .cons h t => .cons (k _ (by simp) _ h) (rows_sub (fun a m => k a (List.mem_cons_of_mem _ m)) t)
theorem vals_refs : ∀ as : List Addr, Vals (as.map V.ref) (as.map Value.ref)
  | [] => .nil
  | _ :: as => .cons rfl (vals_refs as)
theorem rise_inj {as : List Nat} (h : as.Pairwise (· < ·)) {i j : Nat} {a : Nat} (hi : as[i]? = some a) (hj : as[j]? = some a) : i = j := by
  obtain ⟨li, ei⟩ := List.getElem?_eq_some_iff.mp hi
  obtain ⟨lj, ej⟩ := List.getElem?_eq_some_iff.mp hj
  have g := List.pairwise_iff_getElem.mp h
  by_cases c : i < j
  · have := g i j li lj c
    omega
  · by_cases c' : j < i
    · have := g j i lj li c'
      omega
    · omega
/-- a list of refs rearranged -/
theorem refs_perm {zs : List V} {as : List Addr} (h : zs.Perm (as.map V.ref)) : zs = (zs.map unref).map V.ref ∧ (zs.map unref).Perm as := by
  constructor
  · rw [List.map_map]
    refine (List.map_id zs).symm.trans (List.map_congr_left fun z hz => ?_)
    obtain ⟨a, _, rfl⟩ := List.mem_map.mp (h.mem_iff.mp hz)
    rfl
  · have e := h.map unref
    rw [List.map_map] at e
    exact e.trans (List.Perm.of_eq (List.map_id _))
/-- sorted(d.items()), keys and values ints -/
theorem cr_itemsS (hc : X.calm = true) : CallR X (.builtin "sorted") (fun as H Q => ∃ (v a : Addr) (ps : List (Int × Int)), as = [.ref v] ∧ H v = some (L2.DX.itemsO v a) ∧ H a = some (.dK (kvI ps)) ∧
    ∀ H' l (qs : List Addr) (rs : List (Int × Int)), Ex H H' → H' l = some (.lst (qs.map V.ref)) → Rows H' qs rs → rs.Perm ps → rs.Pairwise (fun p q => SrtO.lexB q p = false) → Q (.ref l) H') := by
  intro pins s σ H as us Q I r hq
  obtain ⟨v, a, ps, rfl, hv, ha, q⟩ := hq
  obtain rfl := Vals.ref1 r
  have view : s.heap.IsItemsView v a := (I.hok v _ hv).1
  obtain ⟨hz, hd, vs, rel, o, es, ep, ho, hx, hdat, hks, hps, hnd⟩ := dk_of I.hok ha
  have hn := hps.length
  rw [Array.length_toList] at hn
  have l1 : ps.length = vs.length := by rw [← rel.length]; exact (List.length_map _).symm
  have z1 : ps.length ≤ sizeLine := by rw [l1, ← rel.length]; exact hz
  refine DT.sortedI (es := es) (ep := ep) (I.ok.hd hc) view ⟨o, ho, hx, hdat⟩ (by omega) fun h' tk as hk hlt hl hG => ?_
  have lak : as.length = ps.length := by omega
  have nd : as.Nodup := hG.rise.imp fun h => Nat.ne_of_lt h
  have obj : ∀ (j : Nat) (b : Addr), as[j]? = some b → ∃ p k t, ps[j]? = some p ∧ RelV (.int p.2) t ∧ h'.get? b = some { cls := .type "tuple", data := .seq #[.int p.1 k, t] } := fun j b e => by
    obtain ⟨en, he, hg⟩ := hG.pairs j b e
    obtain ⟨p, k, ep, ek, ev⟩ := pairs_at hps rel rfl (by rw [← he]; exact Array.getElem?_toList)
    exact ⟨p, k, en.val, ep, ev, by rw [hg, ek]⟩
  have hob : (h'.push { cls := .type "list", data := .seq (as.map Value.ref).toArray }).get? h'.objs.size = some { cls := .type "list", data := .seq (as.map Value.ref).toArray } := Heap.get?_push_size _ rfl
  have old : ∀ b u, h'.get? b = some u → (h'.push { cls := .type "list", data := .seq (as.map Value.ref).toArray }).get? b = some u := fun b u e => Heap.get?_push_of_some _ e
  generalize hL : h'.objs.size = L at *
  generalize h'.push { cls := .type "list", data := .seq (as.map Value.ref).toArray } = g at *
  have J : Inv X pins σ (upd H L (.lst (as.map V.ref))) { s with heap := g, toks := tk } :=
    I.laid (t' := tk) (fun b u e => old b u (hk b u e)) (Nat.le_of_lt hlt) ⟨by rw [List.length_map, lak]; exact z1, as.map Value.ref, 0, vals_refs as, hob⟩
  have ltL : ∀ b ∈ as, b ≠ L := fun b hb => Nat.ne_of_lt (by rw [← hL]; exact hG.there hb)
  obtain ⟨H2, J2, up, hT⟩ := L2.DX.takeT (P := fun b vs => ∃ (j : Nat) (p : Int × Int), as[j]? = some b ∧ ps[j]? = some p ∧ vs = [.int p.1, .int p.2]) I as _ J nd fun b hb => by
    obtain ⟨j, hj⟩ := List.mem_iff_getElem?.mp hb
    obtain ⟨p, k, t, hp, rt, hg⟩ := obj j b hj
    have lb := hG.above b hb
    refine ⟨Nat.le_of_lt lb, by rw [upd_ne (ltL b hb)]; exact I.hok.fresh (Nat.le_of_lt lb), [.int p.1, .int p.2], ⟨j, p, hj, hp, rfl⟩, fun H2 => ?_⟩
    exact ⟨by show 2 ≤ sizeLine; decide, [.int p.1 k, t], .cons ⟨k, rfl⟩ (.cons rt .nil), _, old _ _ hg, rfl, 0, rfl⟩
  have rw2 : Rows H2 as ps := rows_mk lak fun j b e => by
    obtain ⟨vs', ⟨j', p, e1, e2, e3⟩, e4⟩ := hT b (List.mem_of_getElem? e)
    obtain rfl := rise_inj hG.rise e e1
    exact ⟨p, e2, by rw [e3] at e4; exact e4⟩
  have hs := mt_sortPO (X := { X with A := X.A.in1 }) pins _ σ H2 (.ref L) [] (.ref L) [] (fun _ H3 => ∃ zs, SrtO.Srtd (ltP (kOf H2)) zs ∧ SrtO.Stb (ltP (kOf H2)) zs (as.map V.ref) ∧ H3 = upd H2 L (.lst zs)) (inA J2) rfl .nil
    ⟨L, as.map V.ref, kOf H2, rfl, rfl, up _ _ upd_same, fun y hy => by
      obtain ⟨b, hb, rfl⟩ := List.mem_map.mp hy
      obtain ⟨p, hp⟩ := rows_mem rw2 b hb
      exact ⟨b, rfl, by rw [kOf_row hp]; exact hp⟩, fun zs h1 h2 => ⟨zs, h1, h2, rfl⟩⟩
  refine wpAny_mono hs (fun _ s' x => ?_) fun _ _ e => e
  obtain ⟨_, _, J3, _, zs, h1, h2, rfl⟩ := x
  obtain ⟨e1, e2⟩ := refs_perm h2.perm
  have sub : ∀ b ∈ zs.map unref, b ∈ as := fun b hb => e2.mem_iff.mp hb
  refine ⟨.ref L, _, outA I.ok J3, rfl, q _ L (zs.map unref) ((zs.map unref).map fun a => kOf H2 (.ref a)) ?_ (by rw [upd_same, ← e1]) ?_ ?_ ?_⟩
  · intro b u e
    have hb : b ≠ L := ne_of_none e (I.hok.fresh (Nat.le_of_lt hlt))
    rw [upd_ne hb]
    exact up b u (by rw [upd_ne hb]; exact e)
  · exact rows_sub (fun b hb u e => by rw [upd_ne (ltL b (sub b hb))]; exact e) (rows_all fun b hb => rows_mem rw2 b (sub b hb))
  · rw [rows_get rw2]
    exact e2.map _
  · rw [e1] at h1
    exact List.pairwise_map.mpr (List.pairwise_map.mp h1)
end
theorem Rows.len {H : Hp} {qs : List Addr} {ps : List (Int × Int)} (r : Rows H qs ps) : qs.length = ps.length := Paired.length r
theorem rows_at {H : Hp} : ∀ {qs : List Addr} {ps : List (Int × Int)} {i : Nat} {p : Int × Int}, Rows H qs ps → ps[i]? = some p → ∃ q, qs[i]? = some q ∧ RowAt H q p
  | _, _, i, p, r, h => L2.DX.pget r h
theorem rows_at' {H : Hp} {qs : List Addr} {ps : List (Int × Int)} {i : Nat} {v : V} (r : Rows H qs ps) (h : (qs.map V.ref)[i]? = some v) : ∃ q p, v = .ref q ∧ qs[i]? = some q ∧ ps[i]? = some p ∧ RowAt H q p := by
  rw [List.getElem?_map] at h
  cases e : qs[i]? with
  | none => rw [e] at h; cases h
  | some q =>
    rw [e] at h
    obtain rfl : V.ref q = v := Option.some.inj h
    have li := (List.getElem?_eq_some_iff.mp e).1
    rw [r.len] at li
    obtain ⟨q', e', ra⟩ := rows_at r (List.getElem?_eq_getElem li)
    rw [e] at e'
    cases e'
    exact ⟨q, _, rfl, rfl, List.getElem?_eq_getElem li, ra⟩
end Lw
/-! Exceptions of one's own: Base.__init__(self, ..), Base an own class without an __init__. -/
namespace Lw
open PySem PySem.Spec PyProof.Rows L2 Evl
section
variable {X : Cx} {e : Expr} {es : List Expr} {ta : TA} {p1 p2 pos : Pos} {x : Str} {B : Addr}
/-- what the written part says of the base -/
structure BaseC (K : PySem.W.Frag) (B : Addr) : Prop where
  ga : PySem.W.specialIn K (.ref B) "__getattribute__" = some (some (.builtin "type.__getattribute__"))
  ty : PySem.W.typeIn K (.ref B) = some (.type "type")
  rd : PySem.W.readsIn K B (.type "type") = true
  fc : PySem.W.findCls K (.ref B) (.type "type") "__init__" = some (.val (.builtin "ValueError.__init__"))
theorem pe_binit {pl : Sem Bool} (hg : Gl X x) (hm : X.mg x = some (.ref B)) (b : BaseC X.K B) (ha : PA X (e :: es) ta) (hd : (x == ("__debug__" : Str)) = false := by decide)
    (hc : eval (.Call (.Attribute (.Name x p1) "__init__" p2) (e :: es) [] pos) X.env = (do
      let ov ← eval (.Name x p1) X.env
      standAt p2.atName
      let (f, first) ← holding [ov] (getMethod ov "__init__" pl)
      callWith pos f first (backTo pos (starEach (e :: es) X.env)) (backToKw pos (keywordEach [] X.env))) := by rfl)
    (hs : starEach (e :: es) X.env = (false, eval e X.env) :: starEach es X.env := by rfl) (hpl : (backTo pos (starEach es X.env)).any (·.1) = false := by rfl) :
    PE X (.Call (.Attribute (.Name x p1) "__init__" p2) (e :: es) [] pos) (tVeI X.K ta) := by
  refine ⟨fun pins s σ H Q I hq => ?_⟩
  refine PySem.W.methodCall_KW (ld_glob I hg hm ?_ hd) hc
  obtain ⟨m, fr⟩ := I.fr
  refine PySem.W.method_of_cls fr I.ok.mod.kin b.ga (PySem.W.cls_val fr I.ok.mod.kin b.ty b.rd b.fc (by decide +kernel) ?_)
  show wpAny _ _ (callWith pos (Value.builtin "ValueError.__init__") [] (backTo pos (starEach (e :: es) X.env)) []) _ _ _
  refine PyProof.Rows.callWith_method1 (thn (ha.run pos pins _ σ H _ (I.tok _) hq) fun us s1 hh => ?_) hs hpl
  obtain ⟨vs, H1, J, rv, a, C, ws, rfl, hl, T, ea, q⟩ := hh
  cases rv with
  | cons r0 rt =>
    cases r0
    exact oinit_ok T J ea (by rw [← Paired.length rt]; exact Nat.le_trans hl (by decide)) fun s' J' => ⟨.non, H1, J', rfl, q⟩
end
section
variable {P : Program} {w : World} {K : PySem.W.Frag} {mg : Str → Option Value} {base : Heap} {k : Nat} {x : Str} {st : Stmt} {ps N : List Str} {sp : Sp}
/-- a def that may raise -/
theorem clX_of (D : DefAt K mg x st) (S : FnScope N ps (defScope st)) (len : ∀ vs H Q E, sp vs H Q E → vs.length = ps.length)
    (hbody : ∀ (f : Addr) (cdv : Value) (A : Around) (outer : List Env) (s : Shared) (H : Hp) (vs : List V) (Q : VK) (E : XK), Room k (A.deeper (envOfC x (defScope st) s.heap.objs.size f cdv)) → sp vs H Q E →
      ∃ t, PSs (cxOf (L2.CX P w) P w K mg base N x (defScope st) f cdv A outer s H E) (defBody st) t ∧ t { nx := fun _ H' => Q .non H', rt := Q } (start N vs) H) : Cl P w K mg base (L2.CX P w) (k + 1) x st ps sp := by
  obtain ⟨f, fd, F, m⟩ := D.ex
  exact ⟨f, fd, F, F.okX S len (hbody f), m⟩
end
/-- what an own exception's __init__ does: Base.__init__(self, ..), self.value = value -/
def spInit (C : Addr) : Sp := fun vs H Q _ => ∃ a v, H a = some (exo a C none) ∧ vs = [.ref a, v] ∧ ∀ d, H d = none → d ≠ a → Q .non (upd (upd H d (exd d [("value", v)])) a (exo a C (some d)))
/-- an own exception class of the text: its __init__ keeps spInit -/
structure ExcAt (P : Program) (w : World) (K : PySem.W.Frag) (mg : Str → Option Value) (base : Heap) (x : Str) (C : Addr) : Prop where
  nm : mg x = some (.ref C)
  oex : OexC K C
  ini : ∃ f fd, PySem.W.findIn K (.ref C) "__init__" = some (some (.ref f)) ∧ PySem.W.typeIn K (.ref f) = some (.type "function") ∧ FnOk P w K mg base CX0 1 f fd ["self", "value"] (spInit C) ∧ Binds K fd ["self", "value"] []
section
variable {X : Cx} {e : Expr} {te : TE} {x : Str} {C : Addr} {p pos : Pos} {W : WX}
/-- raise x(e) -/
theorem ps_raiseO {ta : TA} (hc : X.calm = true) (tk : Takes X W) (c : ExcAt X.prog X.w X.K X.mg X.base x C) (hr : Room 2 X.A) (hg : Gl X x) (ha : PA X [e] ta) (hd : (x == ("__debug__" : Str)) = false := by decide)
    (hs : starEach [e] X.env = (false, eval e X.env) :: starEach [] X.env := by rfl) (hpl : (backTo p (starEach [] X.env)).any (·.1) = false := by rfl) {q : Pos} :
    PS X (.Raise (some (.Call (.Name x q) [e] [] p)) none pos) (fun _ σ H => tMkO C (spInit C) [] ta σ H fun cls d H' => W cls d σ H') := by
  obtain ⟨f, fd, iC, tI, F1, hb⟩ := c.ini
  exact ps_raise (pos := pos) hc tk (pmk_oex (p := q) (pos := p) c.oex iC tI F1 hr hb .nil pass0 hg c.nm ha hd hs hpl)
end
/-- what a raise of such a class comes to -/
theorem mkO_in {C : Addr} {v : V} {H1 : Hp} {Q : XK} (q : ∀ d H2, Ex H1 H2 → H2 d = some (.xd [("value", v)]) → Q (.ref C) (some d) H2) :
    [v].length ≤ 1000 ∧ ∀ a, H1 a = none → spInit C (.ref a :: ([v] ++ [])) (upd H1 a (exo a C none))
      (fun v H2 => v = .non ∧ ∃ (d : Addr) (fs : List (Str × V)), H2 a = some (exo a C (some d)) ∧ H2 d = some (exd d fs) ∧ H1 d = none ∧ Q (.ref C) (some d) (upd (del H2 a) d (.xd fs))) (fun _ _ _ => False) := by
  refine ⟨by show 1 ≤ 1000; decide, fun a na => ?_⟩
  refine ⟨a, v, upd_same, rfl, fun d hd2 ne => ?_⟩
  have hd1 : H1 d = none := by rw [upd_ne ne] at hd2; exact hd2
  refine ⟨rfl, d, _, upd_same, by rw [upd_ne ne, upd_same], hd1, q d _ (fun b u hb => ?_) upd_same⟩
  have n1 : b ≠ d := ne_of_none hb hd1
  have n2 : b ≠ a := ne_of_none hb na
  rw [upd_ne n1]
  show (if b = a then none else _) = _
  rw [if_neg n2, upd_ne n2, upd_ne n1, upd_ne n2]
  exact hb
/-- what the text says of an own exception class that has its own __init__ -/
structure ClsAt (K : PySem.W.Frag) (mg : Str → Option Value) (x q : Str) (st : Stmt) : Prop where
  ex : ∃ (C B f : Addr) (fd : FuncData), mg x = some (.ref C) ∧ OexC K C ∧ PySem.W.findIn K (.ref C) "__init__" = some (some (.ref f)) ∧ PySem.W.typeIn K (.ref f) = some (.type "function") ∧
    Fun K "__init__" q st f fd ∧ PySem.W.findIn K (.ref C) "value" = some none ∧ mg "FormError" = some (.ref B) ∧ BaseC K B
theorem clsAt_mk {K : PySem.W.Frag} {mg : Str → Option Value} {x q : Str} {st : Stmt} {h : Heap} {C B f N : Addr} {nm qq : Str} {bs bm : List Value} {sn : List Str} {sub : List Value} {ab : Bool} {col : Option Bool} {dd : Option Addr} {k0 k1 k2 k3 k5 : Option Value}
    {oc : Value} {od an : Option Addr} {osl : Array (Option Value)} {kV doc pm cdv ct : Value} (X : K.In h) (G : h.Ns mainGlobals mg) (a : PySem.W.nsIn K mainGlobals x = some (some (.ref C)))
    (cl : K.lookup C = some (excClassObj nm qq C N bs bm true sn sub ab col dd k0 k1 k2 k3 k5 "ValueError.__new__")) (r : PySem.HandSPX.refsVE bm = true)
    (sa : PySem.W.findIn K (.ref C) "__setattr__" = some (some (.builtin "object.__setattr__"))) (exC : PySem.W.subIn K (.ref C) (.type "BaseException") = some true) (tyC : PySem.W.typeIn K (.ref C) = some (.type "type")) (kC : PySem.W.keepIn K (.ref C) = true)
    (i : PySem.W.findIn K (.ref C) "__init__" = some (some (.ref f))) (ti : PySem.W.typeIn K (.ref f) = some (.type "function"))
    (l : K.lookup f = some ⟨oc, od, .func (PySem.W.fnOf "__init__" q (defArgs st) (defBody st) (defScope st) .none kV doc pm an cdv ct), osl⟩) (c : PySem.W.codeIn K cdv q = true) (kp : PySem.W.keepIn K (.ref f) = true)
    (no : PySem.W.findIn K (.ref C) "value" = some none) (aB : PySem.W.nsIn K mainGlobals "FormError" = some (some (.ref B)))
    (ga : PySem.W.specialIn K (.ref B) "__getattribute__" = some (some (.builtin "type.__getattribute__"))) (ty : PySem.W.typeIn K (.ref B) = some (.type "type")) (rd : PySem.W.readsIn K B (.type "type") = true)
    (fc : PySem.W.findCls K (.ref B) (.type "type") "__init__" = some (.val (.builtin "ValueError.__init__"))) : ClsAt K mg x q st :=
  ⟨C, B, f, _, PySem.W.mg_of X G a, ⟨⟨_, _, _, _, _, _, _, _, _, _, _, _, _, _, _, cl, r⟩, sa, exC, tyC, kC⟩, i, ti, fun_mk l c kp, no, PySem.W.mg_of X G aB, ga, ty, rd, fc⟩
end Lw
/-! try: .. except (A, B, C) as e: .., where the suite keeps the exception in a name: behind the suite it is an object like others. -/
namespace Lw
open PySem PySem.Spec PyProof.Rows L2 Evl
/-- at a: an exception, its class and its dict are known -/
def exc (a : Addr) (cls : Value) (d : Option Addr) : HO := .ext fun g => ∃ (oe : Obj) (fv : Array Value), g.get? a = some oe ∧ Zc cls d oe ∧ oe.data = .fields fv
theorem exc_ok {P : Program} {w : World} {H : Hp} {g : Heap} {a : Addr} {cls : Value} {d : Option Addr} {oe : Obj} {fv : Array Value} (e : g.get? a = some oe) (z : Zc cls d oe) (f : oe.data = .fields fv) : ObjOk P w H g a (exc a cls d) :=
  ⟨⟨oe, fv, e, z, f⟩, ⟨oe, e⟩, fun _ _ ⟨o, v, q, r⟩ st => ⟨o, v, st o q, r⟩⟩
section
variable {X : Cx} {pins : List (Addr × Obj)} {σ : L2.St} {H : Hp} {s : Shared} {a : Addr} {cls : Value} {d : Option Addr} {oe : Obj} {fv : Array Value}
/-- an object that no one tracked, made behind the def's start -/
theorem inv_caught (I : Inv X pins σ H s) (hn : H a = none) (h0 : a ∈ X.ex ∨ X.s_0.heap.get? a = none) (hL : a ≠ X.env.locals) (hp : ∀ p ∈ X.pn ++ pins, p.1 ≠ a) (e : s.heap.get? a = some oe) (z : Zc cls d oe) (f : oe.data = .fields fv) :
    Inv X pins σ (upd H a (exc a cls d)) s := by
  have old : ∀ {b u}, H b = some u → upd H a (exc a cls d) b = some u := fun {b u} q => by rw [upd_ne (ne_of_none q hn)]; exact q
  have was : ∀ {b o}, X.s_0.heap.get? b = some o → b ∉ X.ex → b ≠ a := fun {b o} q hx zz => by
    rcases h0 with h0 | h0
    · exact hx (zz ▸ h0)
    · rw [zz, h0] at q; cases q
  refine ⟨I.ok, I.os, I.bare, ⟨I.base.keep, I.base.slot, fun b o q n hx => ?_, I.base.there, fun b xs q => old (I.base.tups b xs q), fun b o u q => old (I.base.frzs b o u q), fun b qs q => ?_⟩, I.loc, I.cell, ?_, fun x c q => ?_, fun p m => ?_, fun b u q => ?_, I.len⟩
  · rw [upd_ne (was q hx)]
    exact I.base.free b o q n hx
  · obtain ⟨more, m⟩ := I.base.tbls b qs q
    exact ⟨more, old m⟩
  · rw [upd_ne (Ne.symm hL)]
    exact I.free
  · have ne : c ≠ a := fun zz => by
      obtain ⟨v, ob, ho, hd⟩ := I.cell x c q
      rw [zz, e] at ho
      cases ho
      rw [f] at hd
      cases hd
    rw [upd_ne ne]
    exact I.freeC x c q
  · obtain ⟨p1, p2, p3⟩ := I.pin p m
    exact ⟨p1, by rw [upd_ne (hp p m)]; exact p2, p3⟩
  · by_cases hb : b = a
    · subst hb
      rw [upd_same] at q
      cases q
      exact exc_ok e z f
    · rw [upd_ne hb] at q
      exact (I.hok b u q).stay (fun _ _ _ r => r) (fun c r => old r) fun c xs r => old r
theorem sky_new {B : Heap} {l : List Env} {Z : Obj → Prop} {L : Addr} {h : Heap} (k : Sky B l a Z L h) : B.get? a = none := by
  rcases k with k | k | k
  · exact k.2.1
  · exact k.2.1
  · exact k.2.1
theorem flying_more {B : Heap} {l : List Env} {Z : Obj → Prop} {h g : Heap} (k : HandSPX.FlyingZ B l a Z h) (st : ∀ b o, h.get? b = some o → g.get? b = some o) : HandSPX.FlyingZ B l a Z g := by
  obtain ⟨k1, k2, k3, oe, vs, T, oT, ts, a1, a2, a3, a4, a5, a6, a7, a8⟩ := k
  exact ⟨fun b o q => st _ _ (k1 b o q), k2, Heap.FunFrames.of_keeps (fun b o q _ => ⟨o, st _ _ q, rfl⟩) k3, oe, vs, T, oT, ts, st _ _ a1, a2, a3, a4, a5, a6, st _ _ a7, a8⟩
/-- what is wished of an exception of the body: slot i is the clause's name; the suite runs through -/
def wKept (K : PySem.W.Frag) (N : Nat) (cs : List Value) (i : Nat) (ts : Addr → Value → Option Addr → TS) (D : Ends) : WX := fun cls d σ H =>
  PySem.W.exmAny K cls cs = some true ∧ ∀ a, H a = none → σ.length = N → ts a cls d { nx := fun σ' H' => H' a = none → D.nx (σ'.set i none) (upd H' a (exc a cls d)), rt := fun _ _ => False, bk := fun _ _ => False, ct := fun _ _ => False } (σ.set i (some (.ref a))) H
end
section
variable {X : Cx} {x1 x2 x3 n : Str} {c1 c2 c3 : Addr} {i : Nat} {body suite : List Stmt} {b₀ : Stmt} {q1 q2 q3 tp pos pos' : Pos} {tx} {tb : WX → TS} {ts : Addr → Value → Option Addr → TS}
set_option maxHeartbeats 4000000 in
theorem ps_try_kept (hst : X.stack = X.env :: X.outer) (hf : X.env.frame = some X.env.locals) (hN : X.N.Nodup) (hi : X.N[i]? = some n) (hln : X.env.kindOf n = some .local)
    (g1 : Gl X x1) (m1 : X.mg x1 = some (.ref c1)) (g2 : Gl X x2) (m2 : X.mg x2 = some (.ref c2)) (g3 : Gl X x3) (m3 : X.mg x3 = some (.ref c3))
    (hb : ∀ (W : WX) (pn : List (Addr × Obj)) (xe : Value → Shared → Prop), Takes (X.tr pn xe) W → PSs (X.tr pn xe) body (tb W))
    (hsu : ∀ (a : Addr) (oe : Obj) (cls : Value) (d : Option Addr) (pn : List (Addr × Obj)), PSs (X.suite a ((a, oe) :: pn)) (b₀ :: suite) (ts a cls d))
    (d1 : (x1 == ("__debug__" : Str)) = false := by decide) (d2 : (x2 == ("__debug__" : Str)) = false := by decide) (d3 : (x3 == ("__debug__" : Str)) = false := by decide) :
    PS X (.Try body [.ExceptHandler (some (.Tuple [.Name x1 q1, .Name x2 q2, .Name x3 q3] tx tp)) (some n) (b₀ :: suite) pos'] [] [] pos) (fun D σ H => tb (wKept X.K X.N.length [.ref c1, .ref c2, .ref c3] i ts D) D σ H) := by
  refine ⟨fun pins s σ H D I hq => ?_⟩
  have ok := I.ok
  have frm : X.A.frames = some (X.env :: X.outer) := by rw [ok.frames, hst]
  have lcl : Loc X.env.scope n := .inl hln
  refine wpAny_Try_except ?_
  refine wpAny_mono ((hb (wKept X.K X.N.length [.ref c1, .ref c2, .ref c3] i ts D) (X.pn ++ pins) (fun z s₁ => wpAny (model X.prog X.w) X.A (noteFrame z X.env) (fun _ s₂ => wpAny (model X.prog X.w) X.A (setFlight z none) (fun _ s₃ =>
    wpAny (model X.prog X.w) X.A (handleBy z X.env [.ExceptHandler (some (.Tuple [.Name x1 q1, .Name x2 q2, .Name x3 q3] tx tp)) (some n) (b₀ :: suite) pos']) (SP X pins D) X.xe s₃) X.xe s₂) X.xe s₁) (fun u s' xx => ?_)).run [] s σ H D (I.toTry _) hq) (fun fl s1 hsp => ?_) (fun z s1 hz => hz)
  · obtain ⟨a, B, sI, pins', σ', H', cls, d, rfl, J', nb, up, sky, na, os, ag, hm, hyes⟩ := xx
    have J : Inv X pins σ' H' sI := J'.ofTry ok
    have new0 := sky_new sky
    have sky' : Sky B (X.env :: X.outer) a (Zc cls d) X.env.locals s'.heap := by rw [← hst]; exact sky
    show wpAny (model X.prog X.w) X.A (noteFrame (.ref a) X.env) _ _ _
    refine Sky.land Zc.steady frm hf sky' fun h3 fl3 up3 => ?_
    have J3 : Inv X pins σ' H' { s' with heap := h3 } := J.landed nb fl3.1 (up.trans up3) os ag
    obtain ⟨oe3, vs3, he3, hz3, hd3⟩ := fl3.there
    have notF : ∀ {g : Heap} {o : Obj} {vs : Array Value}, g.FunFrames B (X.env :: X.outer) → g.get? a = some o → o.data = .fields vs → a ∉ frs (X.env :: X.outer) := fun {g o vs} ff e dd hmem => by
      obtain ⟨_, o', e', no⟩ := ff.mem hmem
      rw [e] at e'; cases e'
      exact no _ dd
    have nfr := notF fl3.2.2.1 he3 hd3
    have nL : a ≠ X.env.locals := fun zz => nfr (List.mem_filterMap.mpr ⟨X.env, List.mem_cons_self, by rw [hf, zz]⟩)
    have nF : a ∉ X.fs := fun hmem => by
      obtain ⟨en, he, q⟩ := List.mem_filterMap.mp hmem
      exact nfr (List.mem_filterMap.mpr ⟨en, List.mem_cons_of_mem _ he, q⟩)
    have newI : sI.heap.get? a = none := by
      cases hg : sI.heap.get? a with
      | none => rfl
      | some o =>
        have q := nb a o hg (by rw [hst]; exact nfr)
        rw [new0] at q
        cases q
    have new00 : a ∈ X.ex ∨ X.s_0.heap.get? a = none := by
      cases hg : X.s_0.heap.get? a with
      | none => exact .inr rfl
      | some o =>
        by_cases hx : a ∈ X.ex
        · exact .inl hx
        · obtain ⟨o', e'⟩ := J.base.there a o hg hx
          rw [newI] at e'
          cases e'
    have newp : ∀ p ∈ X.pn ++ pins, p.1 ≠ a := fun p m zz => by
      have := (J.pin p m).1
      rw [zz, newI] at this
      cases this
    have S3 := J3.suite he3 hd3 na nL nF
    refine wpAny_handleBy_cons (codeAny_handlers_test ?_) (by intro q; cases q)
    refine wpAny_Tuple_spliced ?_
    show wpAny _ _ (spliced [(false, eval (.Name x1 q1) X.env), (false, eval (.Name x2 q2) X.env), (false, eval (.Name x3 q3) X.env)]) _ _ _
    refine Calls.spliced_cons (ld_glob (X := X.suite a ((a, oe3) :: (X.pn ++ pins))) S3 g1 m1 ?_ d1)
    refine Calls.spliced_cons (ld_glob (X := X.suite a ((a, oe3) :: (X.pn ++ pins))) S3 g2 m2 ?_ d2)
    refine Calls.spliced_cons (ld_glob (X := X.suite a ((a, oe3) :: (X.pn ++ pins))) S3 g3 m3 ?_ d3)
    refine Calls.spliced_nil ⟨by show 3 ≤ sizeLine; decide, ?_⟩
    have kp : ∀ b o, h3.get? b = some o → (h3.push { cls := .type "tuple", data := .seq [Value.ref c1, .ref c2, .ref c3].toArray }).get? b = some o := fun b o q => Heap.get?_push_of_some _ q
    have htup : (h3.push { cls := .type "tuple", data := .seq [Value.ref c1, .ref c2, .ref c3].toArray }).get? h3.objs.size = some { cls := .type "tuple", data := .seq [Value.ref c1, .ref c2, .ref c3].toArray } := Heap.get?_push_size _ rfl
    show wpAny _ _ (excMatches (.ref a) (.ref h3.objs.size)) _ _ { s' with heap := h3.push { cls := .type "tuple", data := .seq [Value.ref c1, .ref c2, .ref c3].toArray } }
    generalize h3.push { cls := .type "tuple", data := .seq [Value.ref c1, .ref c2, .ref c3].toArray } = g3 at *
    have fl5 := flying_more fl3 kp
    have up5 : h3.UpToSlots g3 := fun b o q _ => ⟨o.slots, kp b o q⟩
    have LT : PySem.W.Looks (model X.prog X.w) g3 (typeOf (.ref a)) cls := fun A Q E st k q => wpAny_typeOf_ref (k _ _ (kp _ _ he3)) (by rw [hz3.1]; exact q)
    have LM := PySem.W.exm_tup3 (M := model X.prog X.w) (J3.kIn.keeps kp) LT htup hm
    refine LM.here ?_
    refine codeAny_handlers_suite_as ?_
    refine HandSPX.lands_againZ fl5 fun h4 fl4 up4 => ?_
    have J4 : Inv X pins σ' H' { s' with heap := h4 } := J.landed nb fl4.1 (((up.trans up3).trans up5).trans up4) os ag
    obtain ⟨oe4, vs4, he4, hz4, hd4⟩ := fl4.there
    have S4 := J4.suite he4 hd4 na nL nF
    refine store_ok (X := X.suite a ((a, oe4) :: (X.pn ++ pins))) (v := .ref a) S4 hN hi lcl rfl (fun s5 S5 => ?_) (.inr hln)
    refine wpAny_mono ((hsu a oe4 cls d (X.pn ++ pins)).run [] s5 _ H' _ S5 (hyes a na J.len)) (fun fl s6 hsp => ?_) (fun _ _ zz => False.elim zz)
    cases fl with
    | next =>
      obtain ⟨σ6, H6, S6, q6⟩ := hsp
      obtain ⟨p1, p2, p3⟩ := S6.pin (a, oe4) (List.mem_append_left _ List.mem_cons_self)
      have S7 := inv_caught (S6.unsuite ok) p2 new00 nL newp p1 hz4 hd4
      exact gone_ok S7 hN hi hln fun s7 J7 => ⟨_, _, J7, q6 p2⟩
    | brk =>
      obtain ⟨σ6, H6, S6, q6⟩ := hsp
      exact q6.elim
    | cont =>
      obtain ⟨σ6, H6, S6, q6⟩ := hsp
      exact q6.elim
    | ret u =>
      obtain ⟨v6, σ6, H6, S6, r6, q6⟩ := hsp
      exact q6.elim
  · cases fl with
    | next =>
      obtain ⟨σ', H', J', q⟩ := hsp
      exact wpAny_execs_nil ⟨σ', H', J'.ofTry ok, q⟩
    | brk =>
      obtain ⟨σ', H', J', q⟩ := hsp
      exact ⟨σ', H', J'.ofTry ok, q⟩
    | cont =>
      obtain ⟨σ', H', J', q⟩ := hsp
      exact ⟨σ', H', J'.ofTry ok, q⟩
    | ret u =>
      obtain ⟨v, σ', H', J', r, q⟩ := hsp
      exact ⟨v, σ', H', J'.ofTry ok, r, q⟩
end
/-- what a class of exceptions must say, so that its instances are asked and read rightly -/
structure ExcK (K : PySem.W.Frag) (C : Addr) : Prop where
  ga : PySem.W.findIn K (.ref C) "__getattribute__" = some (some (.builtin "BaseException.__getattribute__"))
  gt : PySem.W.findIn K (.ref C) "__getattr__" = some none
  sb : PySem.W.subIn K (.ref C) (.type "BaseException") = some true
  hd : PySem.W.hasDictIn K C = true
  ca : PySem.W.findIn K (.ref C) "__class__" = some (some (.builtin "object.__class__"))
  cg : PySem.W.specialIn K (.builtin "object.__class__") "__get__" = some (some (.builtin "getset_descriptor.__get__"))
  ct : PySem.W.takesIn K (.builtin "object.__class__") = some true
  mo : PySem.W.mroIn K C (.type "object") = some true
theorem exc_at {P : Program} {w : World} {H : Hp} {h : Heap} {a : Addr} {cls : Value} {d : Option Addr} (hok : HOk P w H h) (e : H a = some (exc a cls d)) : ∃ (oe : Obj) (fv : Array Value), h.get? a = some oe ∧ Zc cls d oe ∧ oe.data = .fields fv := by
  have x : ObjOk P w H h a (.ext fun g => ∃ (oe : Obj) (fv : Array Value), g.get? a = some oe ∧ Zc cls d oe ∧ oe.data = .fields fv) := hok a _ e
  exact x.1
/-- isinstance(e, c), e a caught exception of an own class -/
def rIsX (K : PySem.W.Frag) (D : Addr) : List V → Hp → VK → Prop := fun xs H Q => ∃ (a dd : Addr) (c : V) (cv : Value) (b : Bool) (fs : List (Str × V)), H a = some (exc a (.ref D) (some dd)) ∧ H dd = some (.xd fs) ∧ xs = [.ref a, c] ∧ (∀ u, RelV c u → u = cv) ∧ PySem.W.kitOne K (.ref D) cv = some b ∧ Q (.bl b) H
theorem call_isX {X : Cx} {D : Addr} (C : ExcK X.K D) : CallR X (.builtin "isinstance") (rIsX X.K D) := by
  intro pins s σ H xs us Q I r hq
  obtain ⟨a, dd, c, cv, b, fs, he, hdd, rfl, hcv, e, q⟩ := hq
  obtain ⟨u1, u2, rfl, r1, r2⟩ := vals2 r
  cases r1
  obtain rfl := hcv _ r2
  obtain ⟨oe, fv, g1, g2, g3⟩ := exc_at I.hok he
  obtain ⟨mA, hns, _⟩ : ObjOk X.prog X.w H s.heap dd (.xd fs) := I.hok dd _ hdd
  obtain ⟨od, ho, _⟩ := lookIn_ns hns
  have J : PySem.W.InstAt s.heap a oe D (some od) := ⟨g1, g2.1, by unfold PySem.W.notCls; rw [g3] <;> rfl, by rw [g2.2]; exact ho⟩
  obtain ⟨cd, hc, _⟩ := PySem.W.any_some C.hd
  exact PySem.W.kia_one (PySem.W.kitx_exc (by rw [hc]; rfl) C.ga C.gt C.sb C.ca C.cg C.ct C.mo) I.kIn J e (fun zz => nomatch zz) fun tk => ⟨.bl b, H, I.kept (t' := tk) fun _ _ zz => zz, rfl, q⟩
/-- e.n, e a caught exception of an own class -/
def tXk (D : Addr) (n : Str) (te : TE) : TE := fun σ H Q => te σ H fun x H1 => ∃ (a dd : Addr) (fs : List (Str × V)) (v : V), x = .ref a ∧ H1 a = some (exc a (.ref D) (some dd)) ∧ H1 dd = some (.xd fs) ∧ fs.lookup n = some v ∧ Q v H1
theorem pe_xk {X : Cx} {D : Addr} {e : Expr} {te : TE} {pos : Pos} {n : Str} (C : ExcK X.K D) (no : PySem.W.findIn X.K (.ref D) n = some none) (he : PE X e te) (hb : attributeBase e n X.env (eval e X.env) = eval e X.env := by rfl) : PE X (.Attribute e n pos) (tXk D n te) := by
  refine ⟨fun pins s σ H Q I hq => ?_⟩
  refine attr_of hb (thn (he.run pins s σ H _ I hq) fun u s1 hh => ?_)
  obtain ⟨x, H1, I1, rx, a, dd, fs, v, rfl, ha, hdd, l, q⟩ := hh
  cases rx
  obtain ⟨oe, fv, g1, g2, g3⟩ := exc_at I1.hok ha
  obtain ⟨mA, hns, hr⟩ : ObjOk X.prog X.w H1 s1.heap dd (.xd fs) := I1.hok dd _ hdd
  obtain ⟨od, ho, hl⟩ := lookIn_ns hns
  obtain ⟨u, hu, ru⟩ := RelO.some_of (v := v) (o := mA n) (by rw [← l]; exact hr n)
  have J : PySem.W.InstAt s1.heap a oe D (some od) := ⟨g1, g2.1, by unfold PySem.W.notCls; rw [g3] <;> rfl, by rw [g2.2]; exact ho⟩
  exact HandSPX.exc_get I1.kIn J C.ga C.gt C.sb (PySem.W.findObj_own C.hd no rfl (by rw [hl, hu])) (handed_of ru) ⟨v, H1, I1.tok _, ru, q⟩
end Lw
/-! Exceptions of one's own as values, over three built-in bases: C(e), C(k = e), C(); what is asked and read of them. -/
namespace Lw
open PySem PySem.Spec PyProof.Rows L2 Evl
/-- the built-in bases -/
inductive EB
  | v
  | l
  | a
@[reducible] def EB.nm : EB → String
  | .v => "ValueError"
  | .l => "LookupError"
  | .a => "ArithmeticError"
@[reducible] def EB.new : EB → String
  | .v => "ValueError.__new__"
  | .l => "LookupError.__new__"
  | .a => "ArithmeticError.__new__"
@[reducible] def EB.ini : EB → String
  | .v => "ValueError.__init__"
  | .l => "LookupError.__init__"
  | .a => "ArithmeticError.__init__"
@[reducible] def EB.var : EB → Str
  | .v => "FormError"
  | .l => "StateError"
  | .a => "LimitError"
@[reducible] def EB.tail (b : EB) : List Value := [.type b.nm, .type "Exception", .type "BaseException", .type "object"]
theorem EB.facts : ∀ b : EB, ExcBaseFacts b.nm b.new b.ini b.tail
  | .v => F.excBase_ValueError
  | .l => F.excBase_LookupError
  | .a => F.excBase_ArithmeticError
theorem EB.pass : ∀ (b : EB) (self : Value), refuseLoop self "__setattr__" b.tail = pure ()
  | .v, self => F.store_ValueError.passes self
  | .l, self => F.store_LookupError.passes self
  | .a, self => F.store_ArithmeticError.passes self
/-- own classes, then the base's mro -/
def refsB (b : EB) : List Value → Bool
  | .ref _ :: r => refsB b r
  | l => l == b.tail
theorem refsB_cases (b : EB) : ∀ l : List Value, refsB b l = true → (∃ c r, l = .ref c :: r ∧ refsB b r = true) ∨ l = b.tail
  | [], e => .inr (beq_iff_eq.mp e)
  | .ref c :: r, e => .inl ⟨c, r, rfl, e⟩
  | .none :: _, e => .inr (beq_iff_eq.mp e)
  | .ellipsis :: _, e => .inr (beq_iff_eq.mp e)
  | .notImplemented :: _, e => .inr (beq_iff_eq.mp e)
  | .bool _ :: _, e => .inr (beq_iff_eq.mp e)
  | .int _ _ :: _, e => .inr (beq_iff_eq.mp e)
  | .float _ _ :: _, e => .inr (beq_iff_eq.mp e)
  | .str _ _ :: _, e => .inr (beq_iff_eq.mp e)
  | .bytes _ _ :: _, e => .inr (beq_iff_eq.mp e)
  | .type _ :: _, e => .inr (beq_iff_eq.mp e)
  | .builtin _ :: _, e => .inr (beq_iff_eq.mp e)
theorem refsB_nil (b : EB) : refsB b [] = false := by cases b <;> decide
theorem refsB_pass (b : EB) (self : Value) : ∀ l : List Value, refsB b l = true → refuseLoop self "__setattr__" l = pure () := by
  intro l
  induction l with
  | nil => intro e; rw [refsB_nil] at e; cases e
  | cons a r ih =>
    intro e
    rcases refsB_cases b (a :: r) e with ⟨c, r', q, h⟩ | q
    · obtain ⟨rfl, rfl⟩ := List.cons.inj q
      rw [refuseLoop_ref]; exact ih h
    · rw [q]; exact b.pass self
theorem refsB_contains (b : EB) (X : String) : ∀ l : List Value, refsB b l = true → l.contains (.type X) = b.tail.contains (.type X) := by
  intro l
  induction l with
  | nil => intro e; rw [refsB_nil] at e; cases e
  | cons a r ih =>
    intro e
    rcases refsB_cases b (a :: r) e with ⟨c, r', q, h⟩ | q
    · obtain ⟨rfl, rfl⟩ := List.cons.inj q
      rw [List.contains_cons, ih h]; rfl
    · rw [q]
theorem refsB_ne {b : EB} {l : List Value} (e : refsB b l = true) : l.isEmpty = false := by
  cases l with
  | nil => rw [refsB_nil] at e; cases e
  | cons _ _ => rfl
/-- what the written part says of the class -/
structure OexB (K : PySem.W.Frag) (b : EB) (C : Addr) : Prop where
  cls : ∃ nm q N bs bm sn sub ab col dd k0 k1 k2 k3 k5, K.lookup C = some (excClassObj nm q C N bs bm true sn sub ab col dd k0 k1 k2 k3 k5 b.new) ∧ refsB b bm = true
  sa : PySem.W.findIn K (.ref C) "__setattr__" = some (some (.builtin "object.__setattr__"))
  kC : PySem.W.keepIn K (.ref C) = true
end Lw
namespace LwX
open PySem PySem.Builtin PySem.Builtin.ObjectAttr Lw
section
variable {prog : Program} {w : World} {A : Around} {E : Value → Shared → Prop} {R : Result → Shared → Prop} {hp : Heap} {g : Array GenState} {d : Drawn} {t : Nat} {os : OsState}
theorem exc_osaB {K : PySem.W.Frag} {b : EB} {name : Str} {tk : Tok} {v : Value} {x C : Addr} {fv : Array Value} {cd : ClassData}
    (X : K.In hp) (hx : hp.get? x = some { cls := .ref C, data := .fields fv }) (hcd : PySem.W.clsIn K C = some cd) (hm : refsB b cd.mro = true) (hh : cd.hasDict = true) (ha : PySem.W.findIn K (.ref C) name = some none)
    (hq : ∀ h' tk' dx, (∀ b o, b ≠ x → hp.get? b = some o → h'.get? b = some o) → hp.objs.size ≤ dx → dx ≠ x → h'.get? x = some { cls := .ref C, dict := some dx, data := .fields fv } →
      h'.Ns1 dx (fun y => if y = name then some v else none) → R (.ok (.ret .none)) ⟨h', g, d, tk', os⟩) :
    codeAny (model prog w) A (.call (.builtin "object.__setattr__") ⟨[.ref x, .str name tk, v], []⟩) R ⟨hp, g, d, t, os⟩ := by
  have I : PySem.W.InstAt hp x { cls := .ref C, data := .fields fv } C none := ⟨hx, rfl, rfl, trivial⟩
  have SF := F.store_object
  have ne := refsB_ne hm
  have hob : cd.mro.contains (.type "object") = true := (refsB_contains b "object" _ hm).trans (by cases b <;> decide +kernel)
  have hxs : x ≠ hp.objs.size := Nat.ne_of_lt (Heap.lt_size hx)
  have sub : PySem.W.Looks (model prog w) hp (isInstance (.ref x) (.type "object")) true := I.type.andThen (PySem.W.looks_mroIn X (by unfold PySem.W.mroIn; rw [hcd, Option.bind_some, if_neg (by rw [ne]; decide), hob]))
  refine codeAny_call_builtin SF.slot.plain SF.entry (@PySem.W.check_slot (model prog w) _ _ ⟨hp, g, d, t, os⟩ "object.__setattr__" "object" "__setattr__" (.ref x) [.str name tk, v] [] _ SF.kind SF.split sub (SF.args (.ref x) (.str name tk) v) ?_)
  have hmr : PySem.W.Looks (model prog w) hp (mroOf (.ref C)) cd.mro := (PySem.W.looks_clsIn X hcd).andThen .now
  have L3 : PySem.W.Looks (model prog w) hp (storeTaker? none) none := .now
  have hcls : PySem.W.Looks (model prog w) hp (classData C) cd := PySem.W.looks_clsIn X hcd
  rw [PySem.W.osa_eq, refuse_eq]
  refine wpAny_bind (wpAny_bind (I.type.at (wpAny_bind (hmr.at ?_))))
  rw [refsB_pass _ _ _ hm]
  refine wpAny_pure (wpAny_bind (I.type.at (wpAny_bind ((PySem.W.looks_findIn X ha).at (wpAny_bind (L3.at ?_))))))
  show wpAny _ _ (Builtin.ObjectAttr.storeInOwnDict (.ref x) (.ref C) (.str name tk) name v false) _ _ _
  obtain ⟨nm, bs, mro, ns, qn, hd, sn, sb, ab, col, del⟩ := cd
  dsimp only at hh
  subst hh
  unfold Builtin.ObjectAttr.storeInOwnDict Builtin.ObjectAttr.ownDictForStores
  repeat (first | with_reducible refine PySem.HandSPX.store_in_new ?_ ?_ | with_reducible refine wpAny_loadPart_at hx ?_ | with_reducible refine hcls.at ?_ | wp_step)
  · exact ⟨_, #[], _, (Heap.get?_update_ne _ _ _ _ hxs.symm).trans (Heap.get?_push_at rfl rfl), rfl, fun e he => absurd he (by simp), fun _ => rfl⟩
  · intro h' tk' hn' hs
    have hx₁ : (hp.push { cls := .type "dict", data := .dict #[] }).get? x = some { cls := .ref C, data := .fields fv } := Heap.get?_push_of_some _ hx
    refine hq h' tk' hp.objs.size (fun b o hb ho => ?_) (Nat.le_refl _) hxs.symm ?_ hn'
    · exact (hs.2 b (Nat.ne_of_lt (Heap.lt_size ho))).trans ((Heap.get?_update_ne _ _ _ _ hb).trans (Heap.get?_push_of_some _ ho))
    · exact (hs.2 x hxs).trans (Heap.get?_update_self _ hx₁ rfl)
end
/-! ### C(.., k = v): type.__call__ with names -/
section
variable {M : Model} {A : Around} {E : Value → Shared → Prop} {h : Heap} {g : Array GenState} {d : Drawn} {t : Nat} {os : OsState}
variable {nm q : Str} {C N : Addr} {bs bm bmB : List Value} {hdct : Bool} {sn : List Str} {sub : List Value} {ab : Bool} {col : Option Bool} {dd : Option Addr} {k0 k1 k2 k3 k5 : Option Value} {B newId initId : String}
theorem check_new_ownK (F : ExcBaseFacts B newId initId bmB) (hT : ∀ X : String, bm.contains (.type X) = bmB.contains (.type X)) {rest : List Value} {kw : List (Str × Value)} {Q : Unit → Shared → Prop}
    (hC : h.get? C = some (excClassObj nm q C N bs bm hdct sn sub ab col dd k0 k1 k2 k3 k5 newId)) (hq : Q () ⟨h, g, d, t, os⟩) : wpAny M A (checkBuiltinCall newId ⟨.ref C :: rest, kw⟩) Q E ⟨h, g, d, t, os⟩ := by
  have hcont : (Value.ref C :: bm).contains (.type B) = true := by rw [List.contains_cons, hT, F.hasB, Bool.or_true]
  have hstar := F.noStar
  simp only [checkBuiltinCall, F.newKind, F.newSplit, F.newRow]
  repeat (first | refine wpAny_loadPart_at hC ?_ | (refine wpAny_isSubtype_exc hC ?_; rw [hcont]) | refine wpAny_staticBase_exc hC ?_ | refine wpAny_madeBy_exc hC ?_ | simp only [bne_self_eq_false, Bool.false_eq_true, if_false] | wp_step)
  exact hq
end
section
variable {prog : Program} {w : World} {A : Around} {E : Value → Shared → Prop} {R : Result → Shared → Prop} {h : Heap} {g : Array GenState} {d : Drawn} {t : Nat} {os : OsState}
variable {nm q : Str} {C N : Addr} {bs bm bmB : List Value} {hdct : Bool} {sn : List Str} {sub : List Value} {ab : Bool} {col : Option Bool} {dd : Option Addr} {k0 k1 k2 k3 k5 : Option Value} {B newId initId : String}
theorem new_ownK (F : ExcBaseFacts B newId initId bmB) (hT : ∀ X : String, bm.contains (.type X) = bmB.contains (.type X)) {rest : List Value} {kw : List (Str × Value)}
    (hC : h.get? C = some (excClassObj nm q C N bs bm hdct sn sub ab col dd k0 k1 k2 k3 k5 newId))
    (hq : R (.ok (.ret (.ref (h.objs.size + 1)))) ⟨(h.push { cls := .type "tuple", data := .seq rest.toArray }).push
      { cls := .ref C, data := .fields #[.ref h.objs.size, .none, .none, .none, .bool false, .none] }, g, d, t, os⟩) (hrest : rest.length ≤ sizeLine) :
    codeAny (model prog w) A (.builtin newId ⟨.ref C :: rest, kw⟩) R ⟨h, g, d, t, os⟩ := by
  have hends := F.ends
  have hcB : (Value.ref C :: bm).contains (.type B) = true := by rw [List.contains_cons, hT, F.hasB, Bool.or_true]
  have hcA : (Value.ref C :: bm).contains (.type "AttributeError") = false := by rw [List.contains_cons, hT, F.noAttr]; rfl
  have hcN : (Value.ref C :: bm).contains (.type "NameError") = false := by rw [List.contains_cons, hT, F.noName]; rfl
  refine codeAny_builtinAt F.entry ?_
  unfold Builtin.«BaseException.__new__»
  refine wpAt_bind ?_
  show wpAt _ _ _ (stack >>= _) _ _ _
  refine wpAt_bind (wpAt_stack fun p below => wpAt_of_wpAny ?_)
  wp_walk
  refine wpAt_of_wpAny ?_
  rw [F.owner]
  repeat (first | with_reducible refine wpAny_madeHere_exc F.canon hC ?_ | with_reducible refine wpAny_loadPart_at hC ?_ | (with_reducible refine wpAny_isSubtype_exc hC ?_; first | rw [hcB] | rw [hcA] | rw [hcN]) | wp_step)
  show R _ _
  rw [Heap.size_push]
  exact hq
theorem type_call_ownK (F : ExcBaseFacts B newId initId bmB) (hT : ∀ X : String, bm.contains (.type X) = bmB.contains (.type X)) {rest : List Value} {kw : List (Str × Value)} {fI : Addr} {Q : Fin → Shared → Prop}
    (hC : h.get? C = some (excClassObj nm q C N bs bm hdct sn sub ab col dd k0 k1 k2 k3 k5 newId))
    (hi : PySem.W.Looks (model prog w) h (typeLookup (.ref C) "__init__") (some (.ref fI))) (hb : ∀ self, PySem.W.Looks (model prog w) h (bindSpecial (.ref fI) self) (.ref fI, [self])) (hrest : rest.length ≤ sizeLine)
    (hq : codeAny (model prog w) A (.call (.ref fI) ⟨.ref (h.objs.size + 1) :: rest, kw⟩)
      (fun r s' => match r with | .ok (.ret v) => v = .none ∧ Q (.done (.ret (.ref (h.objs.size + 1)))) s' | .ok _ => False | .error e => E e s')
      ⟨(h.push (PySem.W.kdv_tup rest)).push (PySem.HandSPX.excO C h.objs.size), g, d, t, os⟩) :
    wpAny (model prog w) A (Builtin.«type.__call__» ⟨.ref C :: rest, kw⟩) Q E ⟨h, g, d, t, os⟩ := by
  repeat (first | with_reducible refine wpAny_loadPart_at hC ?_ | with_reducible refine wpAny_madeBy_exc hC ?_ | wp_step)
  refine codeAny_call_builtin_code (Code.quiet_builtin _ F.quiet) (check_new_ownK F hT hC ?_)
  refine new_ownK F hT hC ?_ hrest
  show wpAny _ _ _ _ _ _
  have k : ∀ b o, h.get? b = some o → ((h.push (PySem.W.kdv_tup rest)).push (PySem.HandSPX.excO C h.objs.size)).get? b = some o := fun b o e => Heap.get?_push_of_some _ (Heap.get?_push_of_some _ e)
  have hC₁ := k _ _ hC
  have hget : ((h.push (PySem.W.kdv_tup rest)).push (PySem.HandSPX.excO C h.objs.size)).get? (h.objs.size + 1) = some (PySem.HandSPX.excO C h.objs.size) := by heap_get
  have hcC : (Value.ref C :: bm).contains (.ref C) = true := by simp
  have i1 := hi.keeps k
  have b1 := (hb (.ref (h.objs.size + 1))).keeps k
  unfold isInstance
  repeat (first | with_reducible refine wpAny_loadPart_at hget ?_ | (with_reducible refine wpAny_isSubtype_exc hC₁ ?_; rw [hcC]) | wp_step)
  show wpAny _ _ (typeLookup (.ref C) _) _ _ _
  refine i1.at ?_
  refine wpAny_holding (wpAny_bind (b1.at ?_))
  refine wpAny_bind (wpAny_call (codeAny_mono hq fun r s' z => ?_))
  rcases r with e | (v | _ | _ | _) <;> first | exact z | exact z.elim | skip
  obtain ⟨rfl, z⟩ := z
  first
    | exact wpAny_pure (wpAny_pure z)
    | (wp_walk; exact z)
theorem call_ownK (F : ExcBaseFacts B newId initId bmB) (hT : ∀ X : String, bm.contains (.type X) = bmB.contains (.type X)) {rest : List Value} {kw : List (Str × Value)} {fI : Addr}
    (hC : h.get? C = some (excClassObj nm q C N bs bm hdct sn sub ab col dd k0 k1 k2 k3 k5 newId))
    (hi : PySem.W.Looks (model prog w) h (typeLookup (.ref C) "__init__") (some (.ref fI))) (hb : ∀ self, PySem.W.Looks (model prog w) h (bindSpecial (.ref fI) self) (.ref fI, [self])) (hrest : rest.length ≤ sizeLine)
    (hq : codeAny (model prog w) (A.under (.builtin "type.__call__" ⟨.ref C :: rest, kw⟩)) (.call (.ref fI) ⟨.ref (h.objs.size + 1) :: rest, kw⟩) (PySem.W.InitBack (h.objs.size + 1) R)
      ⟨(h.push (PySem.W.kdv_tup rest)).push (PySem.HandSPX.excO C h.objs.size), g, d, t, os⟩) :
    codeAny (model prog w) A (.call (.ref C) ⟨rest, kw⟩) R ⟨h, g, d, t, os⟩ := by
  have f1 := tc_lookup
  have f2 := tc_bind (.ref C)
  have f3 := tc_sub
  have hTy : (⟨h, g, d, t, os⟩ : Shared).TypeIs (.ref C) "type" := ⟨_, hC, rfl⟩
  refine codeAny_of_tree ?_
  show wpAny _ _ (callAny (.ref C) _) _ _ _
  repeat (any_goals (first | assumption | with_reducible refine wpAny_loadPart_at hC ?_ | wp_step))
  refine ⟨rfl, ?_⟩
  have typ : PySem.W.Looks (model prog w) h (isInstance (.ref C) (.type "type")) true := ((PySem.W.Looks.ld (part := none) hC).andThen .now).andThen (PySem.W.Looks.of_pure f3)
  refine codeAny_call_builtin_at (Code.quiet_builtin _ (by decide +kernel)) entry_typeCall (PySem.W.check_slot tc_kind tc_split typ (PySem.W.tc_args _ _ _) (type_call_ownK F hT hC hi hb hrest ?_))
  refine codeAny_mono hq fun r s' z => ?_
  rcases r with e | (v | _ | _ | _) <;> exact z
end
end LwX
namespace Lw
open PySem PySem.Spec PyProof.Rows L2 Evl LwX
/-! ### an exception that is being made, then a value -/
section
variable {X : Cx} {pins : List (Addr × Obj)} {σ : L2.St} {H : Hp} {s : Shared} {a C dx : Addr} {f : Str} {y : V} {u : Value} {fs : List (Str × V)} {A : Around} {b : EB}
/-- self.f = y, the first one -/
theorem ost_newB {Q : Unit → Shared → Prop} {E : Value → Shared → Prop} (T : OexB X.K b C) (I : Inv X pins σ H s) (e : H a = some (exo a C none)) (hno : PySem.W.findIn X.K (.ref C) f = some none) (ry : RelV y u)
    (h : ∀ dx s', H dx = none → dx ≠ a → Inv X pins σ (upd (upd H dx (exd dx [(f, y)])) a (exo a C (some dx))) s' → Q () s') : wpAny (model X.prog X.w) A (setAttr (.ref a) f u) Q E s := by
  obtain ⟨nm, q, N, bs, bm, sn, sub, ab, col, dd, k0, k1, k2, k3, k5, hC, hbm⟩ := T.cls
  have hcl : PySem.W.clsIn X.K C = some { name := nm, bases := bs, mro := .ref C :: bm, ns := N, qualname := q, hasDict := true, slotNames := sn, subclasses := sub, abstract := ab, collection := col, hasDel := false } := by unfold PySem.W.clsIn; rw [hC] <;> rfl
  obtain ⟨t1, ho⟩ := exo_at I.hok e
  obtain ⟨hp, g, d, t, os⟩ := s
  refine PySem.W.set_plain I.kIn (ox := { cls := .ref C, dict := none, data := .fields #[.ref t1, .none, .none, .none, .bool false, .none] }) (od := none) ⟨ho, rfl, rfl, trivial⟩ T.sa ?_
  refine exc_osaB I.kIn ho hcl (show refsB b (.ref C :: bm) = true from hbm) rfl hno (fun h' tk' dx k dn dne hx hn => ?_)
  have hnd : H dx = none := I.hok.fresh dn
  have nd : ∀ {b : Addr} {o : Obj}, hp.get? b = some o → b ≠ dx := fun {b o} q => Nat.ne_of_lt (Nat.lt_of_lt_of_le (Heap.lt_size q) dn)
  have na : ∀ {b : Addr}, H b = none → b ≠ a := fun {b} n z => by
    rw [z, e] at n
    cases n
  have Un1 : Un X.fs [] H (upd (upd H dx (exd dx [(f, y)])) a (exo a C (some dx))) hp h' := {
    keep := fun b o q n _ _ => k b o (na n) q
    slot := fun b o q n _ _ => ⟨o.slots, k b o (na n) q⟩
    free := fun b o q n _ => by rw [upd_ne (na n), upd_ne (nd q)]; exact n
    there := fun b o q _ => by
      by_cases hb : b = a
      · exact ⟨_, by rw [hb]; exact hx⟩
      · exact ⟨o, k b o hb q⟩
    tups := fun b xs q => by rw [upd_ne (at_ne e q exo_tup), upd_ne (ne_of_none q hnd)]; exact q
    frzs := fun b o v q => by rw [upd_ne (at_ne e q exo_frz), upd_ne (ne_of_none q hnd)]; exact q
    tbls := fun b ps q => ⟨#[], by rw [upd_ne (at_ne e q exo_tbl), upd_ne (ne_of_none q hnd), q]; simp⟩ }
  refine h dx _ hnd dne (I.un (t' := tk') Un1 fun b o q => ?_)
  by_cases hb : b = a
  · subst hb
    rw [upd_same] at q
    cases q
    exact exo_ok hx
  · rw [upd_ne hb] at q
    by_cases hd : b = dx
    · subst hd
      rw [upd_same] at q
      cases q
      exact exd_ok hn (relO_put (fs := []) ry fun g => True.intro)
    · rw [upd_ne hd] at q
      exact (I.hok b o q).stay (fun c v hc z => k c v (by
          rcases hc with hc | hc
          · rw [hc]
            exact hb
          · exact at_ne e hc exo_own) z)
        (fun c hc => by rw [upd_ne (at_ne e hc exo_own), upd_ne (ne_of_none hc hnd)]; exact hc) (fun c xs hc => by rw [upd_ne (at_ne e hc exo_tup), upd_ne (ne_of_none hc hnd)]; exact hc)
/-- Base.__init__(self, ..): nothing of it is told -/
theorem oinit_okB {us : List Value} {Q : Value → Shared → Prop} {E : Value → Shared → Prop} (T : OexB X.K b C) (I : Inv X pins σ H s) (e : H a = some (exo a C none)) (hl : us.length ≤ sizeLine) (h : ∀ s', Inv X pins σ H s' → Q .none s') :
    wpAny (model X.prog X.w) A (call (.builtin b.ini) (.ref a :: us)) Q E s := by
  obtain ⟨nm, q, N, bs, bm, sn, sub, ab, col, dd, k0, k1, k2, k3, k5, hC, hbm⟩ := T.cls
  obtain ⟨t1, ho⟩ := exo_at I.hok e
  obtain ⟨hp, g, d, t, os⟩ := s
  refine wpAny_call (PySem.HandSPX.init_base b.facts (fun Y => refsB_contains b Y bm hbm) (I.kIn _ _ hC) ho hl fun h' t2 k hx => ?_)
  have J := I.write (t' := t) (x := a) (e := a) (o := exo a C none) (by rw [e]; exact True.intro) (.inl rfl) k ⟨_, hx⟩ (exo_ok hx)
  have eu : upd H a (exo a C none) = H := by
    funext b
    by_cases hb : b = a
    · rw [hb, upd_same, e]
    · rw [upd_ne hb]
  rw [eu] at J
  exact h _ J
/-- an exception that is made: what is kept of it -/
def ExV (H : Hp) (a C : Addr) (fs : List (Str × V)) : Prop := (fs = [] ∧ H a = some (exc a (.ref C) none)) ∨ ∃ d, H a = some (exc a (.ref C) (some d)) ∧ H d = some (.xd fs)
theorem ExV.up {H H' : Hp} (e : Ex H H') (h : ExV H a C fs) : ExV H' a C fs := by
  rcases h with ⟨q, h⟩ | ⟨d, h, h2⟩
  · exact .inl ⟨q, e _ _ h⟩
  · exact .inr ⟨d, e _ _ h, e _ _ h2⟩
theorem same_mut {H : Hp} {x : Addr} {o o' : HO} (I : Inv X pins σ H s) (m : Mut (some o)) (h : H x = some o) (hx : ∃ u, s.heap.get? x = some u) (new : ObjOk X.prog X.w (upd H x o') s.heap x o') : Inv X pins σ (upd H x o') s := by
  have J := I.write (t' := s.toks) (h' := s.heap) (x := x) (e := x) (o := o') (by rw [h]; exact m) (.inl rfl) (fun _ _ _ q => q) hx new
  exact J
/-- it is made: an exception like others -/
theorem inv_exv {H : Hp} {d : Addr} (I : Inv X pins σ H s) (ha : H a = some (exo a C (some d))) (hd : H d = some (exd d fs)) : ∃ H', Inv X pins σ H' s ∧ ExV H' a C fs ∧ ∀ c, c ≠ a → c ≠ d → H' c = H c := by
  obtain ⟨t1, ho⟩ := exo_at I.hok ha
  obtain ⟨mA, hns, rel⟩ := exd_at I.hok hd
  have hda : d ≠ a := fun z => by
    obtain ⟨o, es, ep, e1, e2, _⟩ := hns
    rw [z, ho] at e1
    have z2 := Option.some.inj e1
    subst z2
    cases e2
  have J1 := same_mut (o := exd d fs) (o' := .xd fs) I (by exact True.intro) hd (by obtain ⟨o, es, ep, e1, _⟩ := hns; exact ⟨o, e1⟩) ⟨mA, hns, rel⟩
  have h1 : upd H d (.xd fs) a = some (exo a C (some d)) := by rw [upd_ne (Ne.symm hda)]; exact ha
  have J2 := same_mut (o := exo a C (some d)) (o' := exc a (.ref C) (some d)) J1 (by exact True.intro) h1 ⟨_, ho⟩ (exc_ok ho ⟨rfl, rfl⟩ rfl)
  refine ⟨_, J2, .inr ⟨d, upd_same, by rw [upd_ne hda, upd_same]⟩, fun c n1 n2 => ?_⟩
  rw [upd_ne n1, upd_ne n2]
theorem inv_exv0 {H : Hp} (I : Inv X pins σ H s) (ha : H a = some (exo a C none)) : ∃ H', Inv X pins σ H' s ∧ ExV H' a C [] ∧ ∀ c, c ≠ a → H' c = H c := by
  obtain ⟨t1, ho⟩ := exo_at I.hok ha
  have J2 := same_mut (o := exo a C none) (o' := exc a (.ref C) none) I (by exact True.intro) ha ⟨_, ho⟩ (exc_ok ho ⟨rfl, rfl⟩ rfl)
  exact ⟨_, J2, .inl ⟨rfl, upd_same⟩, fun c n1 => upd_ne n1⟩
end
/-- what the written part says of the base -/
structure BaseB (K : PySem.W.Frag) (b : EB) (B : Addr) : Prop where
  ga : PySem.W.specialIn K (.ref B) "__getattribute__" = some (some (.builtin "type.__getattribute__"))
  ty : PySem.W.typeIn K (.ref B) = some (.type "type")
  rd : PySem.W.readsIn K B (.type "type") = true
  fc : PySem.W.findCls K (.ref B) (.type "type") "__init__" = some (.val (.builtin b.ini))
/-- Base.__init__(self, ..) -/
def tBi (K : PySem.W.Frag) (b : EB) (ta : TA) : TE := fun σ H Q => ta σ H fun vs H1 => ∃ (a C : Addr) (ws : List V), vs = .ref a :: ws ∧ ws.length ≤ 1000 ∧ OexB K b C ∧ H1 a = some (exo a C none) ∧ Q .non H1
/-- self.f = e, the first one -/
def tOsB (K : PySem.W.Frag) (b : EB) (f : Str) (to te : TE) : TS := fun D σ H => te σ H fun y H1 => to σ H1 fun x H2 => ∃ a C : Addr, x = .ref a ∧ OexB K b C ∧ PySem.W.findIn K (.ref C) f = some none ∧
  H2 a = some (exo a C none) ∧ ∀ dx, H2 dx = none → dx ≠ a → D.nx σ (upd (upd H2 dx (exd dx [(f, y)])) a (exo a C (some dx)))
section
variable {X : Cx} {o e : Expr} {es : List Expr} {to te : TE} {ta : TA} {f x : Str} {p p' p1 p2 pos : Pos} {b : EB} {B : Addr}
theorem pe_binitB {pl : Sem Bool} (hg : Gl X x) (hm : X.mg x = some (.ref B)) (c : BaseB X.K b B) (ha : PA X (e :: es) ta) (hd : (x == ("__debug__" : Str)) = false := by decide)
    (hc : eval (.Call (.Attribute (.Name x p1) "__init__" p2) (e :: es) [] pos) X.env = (do
      let ov ← eval (.Name x p1) X.env
      standAt p2.atName
      let (f, first) ← holding [ov] (getMethod ov "__init__" pl)
      callWith pos f first (backTo pos (starEach (e :: es) X.env)) (backToKw pos (keywordEach [] X.env))) := by rfl)
    (hs : starEach (e :: es) X.env = (false, eval e X.env) :: starEach es X.env := by rfl) (hpl : (backTo pos (starEach es X.env)).any (·.1) = false := by rfl) :
    PE X (.Call (.Attribute (.Name x p1) "__init__" p2) (e :: es) [] pos) (tBi X.K b ta) := by
  refine ⟨fun pins s σ H Q I hq => ?_⟩
  refine PySem.W.methodCall_KW (ld_glob I hg hm ?_ hd) hc
  obtain ⟨m, fr⟩ := I.fr
  refine PySem.W.method_of_cls fr I.ok.mod.kin c.ga (PySem.W.cls_val fr I.ok.mod.kin c.ty c.rd c.fc (by cases b <;> decide +kernel) ?_)
  show wpAny _ _ (callWith pos (Value.builtin b.ini) [] (backTo pos (starEach (e :: es) X.env)) []) _ _ _
  refine PyProof.Rows.callWith_method1 (thn (ha.run pos pins _ σ H _ (I.tok _) hq) fun us s1 hh => ?_) hs hpl
  obtain ⟨vs, H1, J, rv, a, C, ws, rfl, hl, T, ea, q⟩ := hh
  cases rv with
  | cons r0 rt =>
    cases r0
    exact oinit_okB T J ea (by rw [← Paired.length rt]; exact Nat.le_trans hl (by decide)) fun s' J' => ⟨.non, H1, J', rfl, q⟩
theorem ps_osB (b : EB) (ho : PE X o to) (he : PE X e te) (hs : swapsWith e (some (.Attribute o f p')) pos.line X.env = pure false := by rfl) : PS X (.Assign [.Attribute o f p'] e pos) (tOsB X.K b f to te) := by
  refine ⟨fun pins s σ H D I h => ?_⟩
  refine plainObj_wpAny_Assign_Attribute (thn (he.run pins s σ H _ I h) fun v s1 ⟨y, H1, I1, r1, q1⟩ => thn (ho.run pins s1 σ H1 _ I1 q1) fun u s2 ⟨x, H2, I2, r2, a, C, ex, T, hno, ea, q⟩ => ?_) hs
  subst ex
  obtain rfl : u = Value.ref a := r2
  exact ost_newB T I2 ea hno r1 fun dx s' n ne J => ⟨σ, _, J, q dx n ne⟩
end
/-! ### C(e), C(f = e), C() -/
/-- what an own exception's __init__ does -/
def spV1 (C : Addr) (f : Str) : Sp := fun vs H Q _ => ∃ a v, H a = some (exo a C none) ∧ vs = [.ref a, v] ∧ ∀ d, H d = none → d ≠ a → Q .non (upd (upd H d (exd d [(f, v)])) a (exo a C (some d)))
def spV0 (C : Addr) : Sp := fun vs H Q _ => ∃ a, H a = some (exo a C none) ∧ vs = [.ref a] ∧ Q .non H
/-- an own class of exceptions with one attribute -/
structure ExV1 (P : Program) (w : World) (K : PySem.W.Frag) (mg : Str → Option Value) (base : Heap) (x : Str) (b : EB) (C : Addr) (f : Str) : Prop where
  nm : mg x = some (.ref C)
  oex : OexB K b C
  exk : ExcK K C
  no : PySem.W.findIn K (.ref C) f = some none
  ini : ∃ fa fd, PySem.W.findIn K (.ref C) "__init__" = some (some (.ref fa)) ∧ PySem.W.typeIn K (.ref fa) = some (.type "function") ∧ FnOk P w K mg base CX0 1 fa fd ["self", f] (spV1 C f) ∧ Binds K fd ["self", f] [] ∧
    ∀ (s : Shared) (u v : Value), BindsTo s fd ⟨[u], [(f, v)]⟩ [("self", u), (f, v)]
/-- without -/
structure ExV0 (P : Program) (w : World) (K : PySem.W.Frag) (mg : Str → Option Value) (base : Heap) (x : Str) (b : EB) (C : Addr) : Prop where
  nm : mg x = some (.ref C)
  oex : OexB K b C
  exk : ExcK K C
  ini : ∃ fa fd, PySem.W.findIn K (.ref C) "__init__" = some (some (.ref fa)) ∧ PySem.W.typeIn K (.ref fa) = some (.type "function") ∧ FnOk P w K mg base CX0 1 fa fd ["self"] (spV0 C) ∧ Binds K fd ["self"] []
section
variable {X : Cx} {b : EB} {C : Addr} {x f : Str} {pins : List (Addr × Obj)} {σ : L2.St} {H : Hp} {s : Shared} {Q : VK}
theorem run_exv {args : List Value} {kw : List (Str × Value)} {fa : Addr} {fd : FuncData} {ps : List Str} {sp : Sp} {us : List Value} {vs : List V} (T : OexB X.K b C) (iC : PySem.W.findIn X.K (.ref C) "__init__" = some (some (.ref fa))) (tI : PySem.W.typeIn X.K (.ref fa) = some (.type "function"))
    (F : FnOk X.prog X.w X.K X.mg X.base CX0 1 fa fd ps sp) (hr : Room 2 X.A) (I : Inv X pins σ H s) (r : Vals vs us) (hlen : args.length ≤ sizeLine)
    (hb : ∀ s' a, X.K.In s'.heap → BindsTo s' fd ⟨.ref a :: args, kw⟩ (ps.zip (.ref a :: us)))
    (q : ∀ a, H a = none → sp (.ref a :: vs) (upd H a (exo a C none)) (fun v H2 => v = .non ∧ ∀ s', Inv X pins σ H2 s' → ∃ H3, Inv X pins σ H3 s' ∧ Q (.ref a) H3) (fun _ _ _ => False)) :
    wpAny (model X.prog X.w) X.A (call (.ref C) args kw) (EP X pins σ Q) X.xe s := by
  obtain ⟨nm, qn, N, bs, bm, sn, sub, ab, col, dd, k0, k1, k2, k3, k5, hC, hbm⟩ := T.cls
  obtain ⟨hp, g, dr, tk, os⟩ := s
  have hsz : hp.objs.size ≤ hp.objs.size + 1 := Nat.le_succ _
  have hn : H (hp.objs.size + 1) = none := I.hok.fresh hsz
  have hq := q (hp.objs.size + 1) hn
  have kk : ∀ b o, hp.get? b = some o → ((hp.push (PySem.W.kdv_tup args)).push (PySem.HandSPX.excO C hp.objs.size)).get? b = some o := fun b o e => Heap.get?_push_of_some _ (Heap.get?_push_of_some _ e)
  have hget : ((hp.push (PySem.W.kdv_tup args)).push (PySem.HandSPX.excO C hp.objs.size)).get? (hp.objs.size + 1) = some (PySem.HandSPX.excO C hp.objs.size) := by heap_get
  have I2 : Inv X pins σ (upd H (hp.objs.size + 1) (exo (hp.objs.size + 1) C none)) ⟨(hp.push (PySem.W.kdv_tup args)).push (PySem.HandSPX.excO C hp.objs.size), g, dr, tk, os⟩ :=
    I.laid (t' := tk) (a := hp.objs.size + 1) (o := exo (hp.objs.size + 1) C none) (h' := (hp.push (PySem.W.kdv_tup args)).push (PySem.HandSPX.excO C hp.objs.size)) kk hsz (exo_ok hget)
  have r2 : Vals (V.ref (hp.objs.size + 1) :: vs) (Value.ref (hp.objs.size + 1) :: us) := .cons rfl r
  refine wpAny_call (call_ownK b.facts (fun Y => refsB_contains b Y bm hbm) (I.kIn _ _ hC) (PySem.W.looks_findIn I.kIn iC) (fun self => PySem.W.bind_fn I.kIn self tI) hlen
    (codeAny_mono (F.run _ X.stack _ _ ⟨Value.ref (hp.objs.size + 1) :: args, kw⟩ (Value.ref (hp.objs.size + 1) :: us) _ _ (fun _ _ _ => False) (hr.make C args kw) (I2.env0.make C args kw) (hb _ _ I2.kIn) r2 hq) fun r s' hq' => ?_))
  cases r with
  | error er => exact pass0 pins σ _ _ er s' I2 hq'
  | ok fl =>
    cases fl with
    | ret u =>
      obtain ⟨v, H', I3, rv, ev, q3⟩ := I2.after hq'
      subst ev
      obtain ⟨H3, I4, q4⟩ := q3 s' I3
      exact ⟨rv, ⟨V.ref (hp.objs.size + 1), H3, I4, rfl, q4⟩⟩
    | next => exact False.elim hq'
    | brk => exact False.elim hq'
    | cont => exact False.elim hq'
/-- C(e) -/
def tMkV (C : Addr) (f : Str) (ta : TA) : TE := fun σ H Q => ta σ H fun vs H1 => ∃ v, vs = [v] ∧ ∀ a H', Ex H1 H' → ExV H' a C [(f, v)] → Q (.ref a) H'
theorem sp1_run {v : V} (q : ∀ a H', Ex H H' → ExV H' a C [(f, v)] → Q (.ref a) H') : ∀ a, H a = none →
    spV1 C f [.ref a, v] (upd H a (exo a C none)) (fun v' H2 => v' = .non ∧ ∀ s', Inv X pins σ H2 s' → ∃ H3, Inv X pins σ H3 s' ∧ Q (.ref a) H3) (fun _ _ _ => False) := by
  intro a na
  refine ⟨a, v, upd_same, rfl, fun d hd2 ne => ⟨rfl, fun s' J => ?_⟩⟩
  have hd1 : H d = none := by rw [upd_ne ne] at hd2; exact hd2
  obtain ⟨H3, J3, x3, k3⟩ := inv_exv J upd_same (by rw [upd_ne ne, upd_same])
  refine ⟨H3, J3, q a H3 (fun c u hc => ?_) x3⟩
  have n1 : c ≠ a := ne_of_none hc na
  have n2 : c ≠ d := ne_of_none hc hd1
  rw [k3 c n1 n2, upd_ne n1, upd_ne n2, upd_ne n1]
  exact hc
theorem pe_mkV {e : Expr} {ta : TA} {p pos : Pos} (c : ExV1 X.prog X.w X.K X.mg X.base x b C f) (hr : Room 2 X.A) (hg : Gl X x) (ha : PA X [e] ta) (hdb : (x == ("__debug__" : Str)) = false := by decide)
    (he : starEach [e] X.env = (false, eval e X.env) :: starEach [] X.env := by rfl) (hpl : (backTo pos (starEach [] X.env)).any (·.1) = false := by rfl) :
    PE X (.Call (.Name x p) [e] [] pos) (tMkV C f ta) := by
  obtain ⟨fa, fd, iC, tI, F, hb, _⟩ := c.ini
  refine ⟨fun pins s σ H Q I h => ?_⟩
  refine wpAny_Call_Name_kw (ld_glob I hg c.nm ?_ hdb)
  refine PySem.W.callWith_K (h₀ := X.base) I.ok.mod.kin c.oex.kC (thn (ha.run pos pins s σ H _ I h) fun us s1 ⟨vs, H1, I1, r1, v, ev, q⟩ => ⟨I1.kIn, ?_⟩) he hpl
  subst ev
  show wpAny _ _ (call (.ref C) us) _ _ _
  obtain ⟨u, rfl, ru⟩ := r1.one
  exact run_exv (us := [u]) (vs := [v]) c.oex iC tI F hr I1 (.cons ru .nil) (by show 1 ≤ sizeLine; decide) (fun s' a k => by have z := hb s' [.ref a, u] k rfl; rwa [List.append_nil] at z) (sp1_run q)
theorem pe_mkVK {kwe : List Keyword} {tk : TA} {p pos : Pos} (c : ExV1 X.prog X.w X.K X.mg X.base x b C f) (hr : Room 2 X.A) (hg : Gl X x) (hkw : PK X kwe tk) (hdb : (x == ("__debug__" : Str)) = false := by decide)
    (hall : (backToKw pos (keywordEach kwe X.env)).all (·.1.isSome) = true := by rfl) (hks : (backToKw pos (keywordEach kwe X.env)).filterMap (·.1) = [f] := by rfl)
    (hpl : ((backTo pos (starEach [] X.env)).any (·.1) || (backToKw pos (keywordEach kwe X.env)).any (·.1.isNone)) = false := by rfl) :
    PE X (.Call (.Name x p) [] kwe pos) (tMkV C f tk) := by
  obtain ⟨fa, fd, iC, tI, F, _, hb⟩ := c.ini
  refine ⟨fun pins s σ H Q I h => ?_⟩
  refine wpAny_Call_Name_kw (ld_glob I hg c.nm ?_ hdb)
  refine PySem.W.callWith_KW0 (first := []) (h₀ := X.base) I.ok.mod.kin c.oex.kC hall ?_ hpl
  refine thn (hkw.run pos pins s σ H _ I h) fun ws s1 ⟨vs, H1, I1, r1, v, ev, q⟩ => ⟨I1.kIn, ?_⟩
  subst ev
  rw [hks]
  obtain ⟨u, rfl, ru⟩ := r1.one
  exact run_exv (us := [u]) (vs := [v]) c.oex iC tI F hr I1 (.cons ru .nil) (Nat.zero_le _) (fun s' a k => hb s' (.ref a) u) (sp1_run q)
/-- C() -/
theorem pe_mkV0 {p pos : Pos} (c : ExV0 X.prog X.w X.K X.mg X.base x b C) (hr : Room 2 X.A) (hg : Gl X x) (hdb : (x == ("__debug__" : Str)) = false := by decide) :
    PE X (.Call (.Name x p) [] [] pos) (fun _ H Q => ∀ a H', Ex H H' → ExV H' a C [] → Q (.ref a) H') := by
  obtain ⟨fa, fd, iC, tI, F, hb⟩ := c.ini
  refine ⟨fun pins s σ H Q I q => ?_⟩
  refine wpAny_Call_Name_kw (ld_glob I hg c.nm ?_ hdb)
  refine PySem.W.callWith_K0 I.kIn c.oex.kC (run_exv (args := []) (us := []) (vs := []) c.oex iC tI F hr I .nil (Nat.zero_le _) (fun s' a k => by have z := hb s' [.ref a] k rfl; rwa [List.append_nil] at z) fun a na => ?_)
  refine ⟨a, upd_same, rfl, rfl, fun s' J => ?_⟩
  obtain ⟨H3, J3, x3, k3⟩ := inv_exv0 J upd_same
  refine ⟨H3, J3, q a H3 (fun c u hc => ?_) x3⟩
  have n1 : c ≠ a := ne_of_none hc na
  rw [k3 c n1, upd_ne n1]
  exact hc
/-- isinstance(e, c) -/
def rIsV (K : PySem.W.Frag) : List V → Hp → VK → Prop := fun xs H Q => ∃ (a D : Addr) (c : V) (cv : Value) (b : Bool) (fs : List (Str × V)), ExcK K D ∧ ExV H a D fs ∧ xs = [.ref a, c] ∧ (∀ u, RelV c u → u = cv) ∧ PySem.W.kitOne K (.ref D) cv = some b ∧ Q (.bl b) H
theorem call_isV : CallR X (.builtin "isinstance") (rIsV X.K) := by
  intro pins s σ H xs us Q I r hq
  obtain ⟨a, D, c, cv, b, fs, C, hx, rfl, hcv, e, q⟩ := hq
  obtain ⟨u1, u2, rfl, r1, r2⟩ := vals2 r
  cases r1
  obtain rfl := hcv _ r2
  have fin : ∀ {od : Option Obj} {oe : Obj}, PySem.W.InstAt s.heap a oe D od → wpAny (model X.prog X.w) X.A (call (.builtin "isinstance") [.ref a, u2]) (EP X pins σ Q) X.xe s := fun {od oe} J => by
    obtain ⟨cd, hc, _⟩ := PySem.W.any_some C.hd
    exact PySem.W.kia_one (PySem.W.kitx_exc (by rw [hc]; rfl) C.ga C.gt C.sb C.ca C.cg C.ct C.mo) I.kIn J e (fun zz => nomatch zz) fun tk => ⟨.bl b, H, I.kept (t' := tk) fun _ _ zz => zz, rfl, q⟩
  rcases hx with ⟨rfl, he⟩ | ⟨dd, he, hdd⟩
  · obtain ⟨oe, fv, g1, g2, g3⟩ := exc_at I.hok he
    exact fin (od := none) ⟨g1, g2.1, by unfold PySem.W.notCls; rw [g3] <;> rfl, by rw [g2.2]; trivial⟩
  · obtain ⟨oe, fv, g1, g2, g3⟩ := exc_at I.hok he
    obtain ⟨mA, hns, _⟩ : ObjOk X.prog X.w H s.heap dd (.xd fs) := I.hok dd _ hdd
    obtain ⟨od, ho, _⟩ := lookIn_ns hns
    exact fin (od := some od) ⟨g1, g2.1, by unfold PySem.W.notCls; rw [g3] <;> rfl, by rw [g2.2]; exact ho⟩
/-- e.n -/
def tXv (K : PySem.W.Frag) (n : Str) (te : TE) : TE := fun σ H Q => te σ H fun x H1 => ∃ (a D : Addr) (fs : List (Str × V)) (v : V), ExcK K D ∧ PySem.W.findIn K (.ref D) n = some none ∧ x = .ref a ∧ ExV H1 a D fs ∧ fs.lookup n = some v ∧ Q v H1
theorem pe_xv {e : Expr} {te : TE} {pos : Pos} {n : Str} (he : PE X e te) (hb : attributeBase e n X.env (eval e X.env) = eval e X.env := by rfl) : PE X (.Attribute e n pos) (tXv X.K n te) := by
  refine ⟨fun pins s σ H Q I hq => ?_⟩
  refine attr_of hb (thn (he.run pins s σ H _ I hq) fun u s1 hh => ?_)
  obtain ⟨x, H1, I1, rx, a, D, fs, v, C, no, rfl, hx, l, q⟩ := hh
  cases rx
  rcases hx with ⟨rfl, _⟩ | ⟨dd, ha, hdd⟩
  · cases l
  obtain ⟨oe, fv, g1, g2, g3⟩ := exc_at I1.hok ha
  obtain ⟨mA, hns, hr⟩ : ObjOk X.prog X.w H1 s1.heap dd (.xd fs) := I1.hok dd _ hdd
  obtain ⟨od, ho, hl⟩ := lookIn_ns hns
  obtain ⟨u, hu, ru⟩ := RelO.some_of (v := v) (o := mA n) (by rw [← l]; exact hr n)
  have J : PySem.W.InstAt s1.heap a oe D (some od) := ⟨g1, g2.1, by unfold PySem.W.notCls; rw [g3] <;> rfl, by rw [g2.2]; exact ho⟩
  exact PySem.HandSPX.exc_get I1.kIn J C.ga C.gt C.sb (PySem.W.findObj_own C.hd no rfl (by rw [hl, hu])) (handed_of ru) ⟨v, H1, I1.tok _, ru, q⟩
end
/-! ### what the text says -/
/-- an own class of exceptions with its own __init__ -/
structure ClsV (K : PySem.W.Frag) (mg : Str → Option Value) (x q : Str) (st : Stmt) (b : EB) (fl : Option Str) (C : Addr) : Prop where
  nm : mg x = some (.ref C)
  oex : OexB K b C
  exk : ExcK K C
  ini : ∃ (f : Addr) (fd : FuncData), PySem.W.findIn K (.ref C) "__init__" = some (some (.ref f)) ∧ PySem.W.typeIn K (.ref f) = some (.type "function") ∧ Fun K "__init__" q st f fd
  no : ∀ f, fl = some f → PySem.W.findIn K (.ref C) f = some none
theorem clsV_mk {K : PySem.W.Frag} {mg : Str → Option Value} {x q : Str} {st : Stmt} {b : EB} {fl : Option Str} {h : Heap} {C f N : Addr} {nm qq : Str} {bs bm : List Value} {sn : List Str} {sub : List Value} {ab : Bool} {col : Option Bool} {dd : Option Addr} {k0 k1 k2 k3 k5 : Option Value}
    {oc : Value} {od an : Option Addr} {osl : Array (Option Value)} {kV doc pm cdv ct : Value} (X : K.In h) (G : h.Ns mainGlobals mg) (a : PySem.W.nsIn K mainGlobals x = some (some (.ref C)))
    (cl : K.lookup C = some (excClassObj nm qq C N bs bm true sn sub ab col dd k0 k1 k2 k3 k5 b.new)) (r : refsB b bm = true)
    (sa : PySem.W.findIn K (.ref C) "__setattr__" = some (some (.builtin "object.__setattr__"))) (kC : PySem.W.keepIn K (.ref C) = true)
    (ga : PySem.W.findIn K (.ref C) "__getattribute__" = some (some (.builtin "BaseException.__getattribute__"))) (gt : PySem.W.findIn K (.ref C) "__getattr__" = some none) (sb : PySem.W.subIn K (.ref C) (.type "BaseException") = some true)
    (hd : PySem.W.hasDictIn K C = true) (ca : PySem.W.findIn K (.ref C) "__class__" = some (some (.builtin "object.__class__"))) (cg : PySem.W.specialIn K (.builtin "object.__class__") "__get__" = some (some (.builtin "getset_descriptor.__get__")))
    (ct' : PySem.W.takesIn K (.builtin "object.__class__") = some true) (mo : PySem.W.mroIn K C (.type "object") = some true)
    (i : PySem.W.findIn K (.ref C) "__init__" = some (some (.ref f))) (ti : PySem.W.typeIn K (.ref f) = some (.type "function"))
    (l : K.lookup f = some ⟨oc, od, .func (PySem.W.fnOf "__init__" q (defArgs st) (defBody st) (defScope st) .none kV doc pm an cdv ct), osl⟩) (c : PySem.W.codeIn K cdv q = true) (kp : PySem.W.keepIn K (.ref f) = true)
    (no : ∀ f, fl = some f → PySem.W.findIn K (.ref C) f = some none) : ClsV K mg x q st b fl C :=
  ⟨PySem.W.mg_of X G a, ⟨⟨_, _, _, _, _, _, _, _, _, _, _, _, _, _, _, cl, r⟩, sa, kC⟩, ⟨ga, gt, sb, hd, ca, cg, ct', mo⟩, ⟨f, _, i, ti, fun_mk l c kp⟩, no⟩
structure BasV (K : PySem.W.Frag) (mg : Str → Option Value) (b : EB) (B : Addr) : Prop where
  nm : mg b.var = some (.ref B)
  base : BaseB K b B
theorem basV_mk {K : PySem.W.Frag} {mg : Str → Option Value} {b : EB} {h : Heap} {B : Addr} (X : K.In h) (G : h.Ns mainGlobals mg) (a : PySem.W.nsIn K mainGlobals b.var = some (some (.ref B)))
    (ga : PySem.W.specialIn K (.ref B) "__getattribute__" = some (some (.builtin "type.__getattribute__"))) (ty : PySem.W.typeIn K (.ref B) = some (.type "type")) (rd : PySem.W.readsIn K B (.type "type") = true)
    (fc : PySem.W.findCls K (.ref B) (.type "type") "__init__" = some (.val (.builtin b.ini))) : BasV K mg b B := ⟨PySem.W.mg_of X G a, ga, ty, rd, fc⟩
/-- whose instances are whose -/
def whB (K : PySem.W.Frag) (cs : List Addr) (B0 B1 B2 : Addr) : Bool := (List.range 27).all fun i =>
  ((List.range 27).all fun j => PySem.W.kitOne K (.ref (cs.getD i 0)) (.ref (cs.getD j 0)) == some (i == j)) &&
  (PySem.W.kitOne K (.ref (cs.getD i 0)) (.ref B0) == some (decide (i < 16))) && (PySem.W.kitOne K (.ref (cs.getD i 0)) (.ref B1) == some (decide (16 ≤ i ∧ i < 22))) && (PySem.W.kitOne K (.ref (cs.getD i 0)) (.ref B2) == some (decide (21 < i))) &&
  (PySem.W.kitOne K (.ref (cs.getD i 0)) (.type "ValueError") == some (decide (i < 16))) && (PySem.W.kitOne K (.ref (cs.getD i 0)) (.type "LookupError") == some (decide (16 ≤ i ∧ i < 22))) && (PySem.W.kitOne K (.ref (cs.getD i 0)) (.type "ArithmeticError") == some (decide (21 < i)))
/-- the same, said -/
structure WhB (K : PySem.W.Frag) (c : Nat → Addr) (B : EB → Addr) : Prop where
  own : ∀ i j, i < 27 → j < 27 → PySem.W.kitOne K (.ref (c i)) (.ref (c j)) = some (i == j)
  bv : ∀ i, i < 27 → PySem.W.kitOne K (.ref (c i)) (.ref (B .v)) = some (decide (i < 16))
  bl : ∀ i, i < 27 → PySem.W.kitOne K (.ref (c i)) (.ref (B .l)) = some (decide (16 ≤ i ∧ i < 22))
  ba : ∀ i, i < 27 → PySem.W.kitOne K (.ref (c i)) (.ref (B .a)) = some (decide (21 < i))
  tv : ∀ i, i < 27 → PySem.W.kitOne K (.ref (c i)) (.type "ValueError") = some (decide (i < 16))
  tl : ∀ i, i < 27 → PySem.W.kitOne K (.ref (c i)) (.type "LookupError") = some (decide (16 ≤ i ∧ i < 22))
  ta : ∀ i, i < 27 → PySem.W.kitOne K (.ref (c i)) (.type "ArithmeticError") = some (decide (21 < i))
theorem whB_of {K : PySem.W.Frag} {cs : List Addr} {B0 B1 B2 : Addr} (h : whB K cs B0 B1 B2 = true) : WhB K (fun i => cs.getD i 0) (fun b => match b with | .v => B0 | .l => B1 | .a => B2) := by
  unfold whB at h
  rw [List.all_eq_true] at h
  have k : ∀ i, i < 27 → _ := fun i hi => h i (List.mem_range.mpr hi)
  simp only [Bool.and_eq_true, beq_iff_eq, List.all_eq_true, List.mem_range] at k
  exact ⟨fun i j hi hj => (k i hi).1.1.1.1.1.1 j hj, fun i hi => (k i hi).1.1.1.1.1.2, fun i hi => (k i hi).1.1.1.1.2, fun i hi => (k i hi).1.1.1.2, fun i hi => (k i hi).1.1.2, fun i hi => (k i hi).1.2, fun i hi => (k i hi).2⟩
end Lw
/-! Plain data in a heap that grows. -/
namespace Lw
open PySem PySem.Spec PyProof.Rows L2 Evl
mutual
theorem dpUp {K : PySem.W.Frag} {H H' : Hp} (e : Ex H H') : ∀ {v : V} {d : PyData}, Dp K H v d → Dp K H' v d
  | _, _, .non => .non
  | _, _, .bl b => .bl b
  | _, _, .int i => .int i
  | _, _, .str y => .str y
  | _, _, .lst h t => .lst (ex_l e h) (dpsUp e t)
  | _, _, .tup h t => .tup (ex_t e h) (dpsUp e t)
theorem dpsUp {K : PySem.W.Frag} {H H' : Hp} (e : Ex H H') : ∀ {vs : List V} {ds : List PyData}, DpAll K H vs ds → DpAll K H' vs ds
  | _, _, .nil => .nil
  | _, _, .cons h t => .cons (dpUp e h) (dpsUp e t)
end
end Lw
local macro_rules | `(tactic| fail "side") => `(tactic| first
  | ((with_reducible show (0 : Int) < _); omega)
  | ((with_reducible show L2.CMul _ _); unfold L2.CMul; omega)
  | ((with_reducible show L2.CDiv _ _); unfold L2.CDiv; omega)
  | ((with_reducible show L2.CPow _ _); unfold L2.CPow; decide)
  | ((with_reducible show (_ : Nat) ≤ _); refine Nat.le_trans ?_ Lw.line_ge; simp only [List.length_cons, List.length_nil, Nat.zero_add, Nat.reduceAdd]; decide)
  | ((with_reducible show (_ : Nat) < _); refine Nat.lt_of_lt_of_le ?_ Lw.line_ge; simp only [List.length_cons, List.length_nil, Nat.zero_add, Nat.reduceAdd]; decide)
  | ((with_reducible show (_ : Int) < _); first | omega | decide)
  | ((with_reducible show (_ : Int) ≤ _); first | omega | decide | (split <;> omega))
  | (show (0 : Int) < _; omega))
local macro_rules | `(tactic| fail "at1") => `(tactic| first
  | (with_reducible assumption)
  | ((with_reducible show L2.upd _ _ _ _ = _); first | exact L2.upd_same | exact Lw.upd_new (by with_reducible assumption) (by fail "at1"))
  | ((with_reducible show Lw.Minus _ _ _ = _); exact Lw.minus_at (Lw.ne_fresh (by with_reducible assumption) (by fail "at1")) (by fail "at1"))
  | exact Lw.ex_at (by with_reducible assumption) (by fail "at1"))
local macro_rules | `(tactic| fail "at") => `(tactic| ((with_reducible show (_ : Option L2.HO) = _); fail "at1"))
local macro_rules | `(tactic| fail "pool1") => `(tactic| first
  | (with_reducible assumption)
  | ((with_reducible show Lw.Pool (L2.upd _ _ _) _); exact Lw.Pool.new (by with_reducible assumption) (by fail "pool1"))
  | exact Lw.Pool.up (by with_reducible assumption) (by fail "pool1"))
local macro_rules | `(tactic| fail "pool") => `(tactic| ((with_reducible show Lw.Pool _ _); fail "pool1"))
local macro_rules | `(tactic| fail "th1") => `(tactic| first
  | (with_reducible assumption)
  | ((with_reducible show Lw.Th (L2.upd _ _ _) _ _); exact Lw.Th.new (by with_reducible assumption) (by fail "th1"))
  | exact Lw.Th.up (by with_reducible assumption) (by fail "th1"))
local macro_rules | `(tactic| fail "th") => `(tactic| ((with_reducible show Lw.Th _ _ _); fail "th1"))
local macro_rules | `(tactic| fail "sql1") => `(tactic| first
  | (apply Lw.sqlK; (with_reducible assumption); rfl)
  | exact L2.SqL.of (by fail "at1")
  | ((with_reducible show L2.SqL _ (L2.upd _ _ _) _ _); exact Evl.ex_l (Evl.Ex.new (by with_reducible assumption)) (by fail "sql1"))
  | exact Evl.ex_l (by with_reducible assumption) (by fail "sql1"))
local macro_rules | `(tactic| fail "sql") => `(tactic| ((with_reducible show L2.SqL _ _ _ _); fail "sql1"))
local macro_rules | `(tactic| fail "tu1") => `(tactic| first
  | (with_reducible assumption)
  | ((with_reducible show Lw.Tu (L2.upd _ _ _) _ _); exact Lw.Tu.up (Evl.Ex.new (by with_reducible assumption)) (by fail "tu1"))
  | exact Lw.Tu.up (by with_reducible assumption) (by fail "tu1"))
local macro_rules | `(tactic| fail "sqt1") => `(tactic| first
  | (apply Lw.sqtK; (with_reducible assumption); rfl)
  | exact Lw.Tu.sq (by fail "tu1")
  | exact L2.SqT.of (by fail "at1")
  | ((with_reducible show L2.SqT _ (L2.upd _ _ _) _ _); exact Evl.ex_t (Evl.Ex.new (by with_reducible assumption)) (by fail "sqt1"))
  | exact Evl.ex_t (by with_reducible assumption) (by fail "sqt1"))
local macro_rules | `(tactic| fail "sqt") => `(tactic| ((with_reducible show L2.SqT _ _ _ _); fail "sqt1"))
local macro_rules | `(tactic| fail "kd1") => `(tactic| first
  | (with_reducible assumption) | exact Lw.Kd.int _ | exact Lw.Kd.bl _ | exact Lw.Kd.str _ | exact Lw.Kd.non
  | exact Lw.Kd.tup (by fail "at1") | exact Lw.Kd.fz (by fail "at1") | exact Lw.Kd.lst (by fail "at1") | exact Lw.Kd.dK (by fail "at1")
  | ((with_reducible show Lw.Kd (L2.upd _ _ _) _ _); exact Lw.Kd.new (by with_reducible assumption) (by fail "kd1"))
  | exact Lw.Kd.up (by with_reducible assumption) (by fail "kd1"))
local macro_rules | `(tactic| fail "kd") => `(tactic| ((with_reducible show Lw.Kd _ _ _); fail "kd1"))
local macro_rules | `(tactic| fail "ati") => `(tactic| first
  | (with_reducible assumption)
  | ((with_reducible show L2.atI _ 0 = _); rfl)
  | ((with_reducible show L2.atI _ 1 = _); rfl)
  | ((with_reducible show L2.atI _ 2 = _); rfl)
  | ((with_reducible show L2.atI _ 3 = _); rfl)
  | ((with_reducible show L2.atI _ (-1) = _); rfl))
local macro_rules | `(tactic| fail "st") => `(tactic| first
  | (refine ⟨_, rfl, ?_⟩)
  | (refine ⟨_, _, rfl, rfl, ?_⟩)
  | (refine ⟨_, _, _, _, rfl, rfl, (by fail "sql"), (by fail "ati"), ?_⟩)
  | (refine ⟨_, _, _, _, rfl, rfl, (by fail "sqt"), (by fail "ati"), ?_⟩)
  | (refine ⟨_, _, _, _, rfl, rfl, (by fail "at"), rfl, ?_⟩)
  | (refine Or.inl ⟨_, _, _, _, rfl, rfl, (by fail "sql"), (by fail "ati"), ?_⟩)
  | (refine Or.inr (Or.inl ⟨_, _, _, _, rfl, rfl, (by fail "sqt"), (by fail "ati"), ?_⟩))
  | (refine ⟨_, _, _, _, rfl, (by fail "kd"), ?_⟩)
  | (refine ⟨_, _, rfl, Or.inl ⟨_, (by fail "sql"), rfl⟩, ?_⟩)
  | (refine ⟨_, _, rfl, Or.inr ⟨_, (by fail "sqt"), rfl⟩, ?_⟩)
  | (refine ⟨_, _, rfl, (by fail "sqt"), rfl, ?_⟩)
  | (refine ⟨_, _, rfl, (by fail "kd"), ?_⟩)
  | (refine ⟨_, _, rfl, (by fail "th"), ?_⟩)
  | (refine ⟨_, _, rfl, (by fail "sql"), ?_⟩)
  | (refine ⟨_, _, rfl, (by fail "sqt"), ?_⟩)
  | (refine ⟨(by fail "side"), ?_⟩)
  | (refine ⟨(by fail "pool"), ?_⟩)
  | (refine ⟨⟨_, (by fail "sqt")⟩, ?_⟩)
  | (refine ⟨⟨_, (by fail "sql")⟩, ?_⟩)
  | (refine ⟨_, _, rfl, ?_⟩)
  | (refine ⟨rfl, ?_⟩)
  | (refine ⟨_, _, _, _, _, rfl, L2.ClsV.ty _, Lw.Kd.ty (by fail "kd"), Lw.kit_k (by fail "kd") (by decide), ?_⟩))
namespace K13
open PySem PySem.Spec PyProof.Rows L2 Evl Lw
def topS (i : Nat) : Stmt := PySem.Challenge.pw_allscreens_k13_limits_and_errors.main.body.getD i (.Pass ⟨0, 0, 0, 0⟩)
abbrev s_InvalidStage___init__ : Stmt := inClass (topS 4) 0
abbrev N_InvalidStage___init__ : List Str := ["self", "value"]
theorem sc_InvalidStage___init__ : FnScope N_InvalidStage___init__ ["self", "value"] (defScope s_InvalidStage___init__) := ⟨rfl, rfl, rfl, by decide +kernel, rfl, by decide +kernel, by decide +kernel⟩
abbrev s_InvalidSurface___init__ : Stmt := inClass (topS 5) 0
abbrev N_InvalidSurface___init__ : List Str := ["self", "value"]
theorem sc_InvalidSurface___init__ : FnScope N_InvalidSurface___init__ ["self", "value"] (defScope s_InvalidSurface___init__) := ⟨rfl, rfl, rfl, by decide +kernel, rfl, by decide +kernel, by decide +kernel⟩
abbrev s_InvalidCell___init__ : Stmt := inClass (topS 6) 0
abbrev N_InvalidCell___init__ : List Str := ["self", "value"]
theorem sc_InvalidCell___init__ : FnScope N_InvalidCell___init__ ["self", "value"] (defScope s_InvalidCell___init__) := ⟨rfl, rfl, rfl, by decide +kernel, rfl, by decide +kernel, by decide +kernel⟩
abbrev s_InvalidRect___init__ : Stmt := inClass (topS 7) 0
abbrev N_InvalidRect___init__ : List Str := ["self", "value"]
theorem sc_InvalidRect___init__ : FnScope N_InvalidRect___init__ ["self", "value"] (defScope s_InvalidRect___init__) := ⟨rfl, rfl, rfl, by decide +kernel, rfl, by decide +kernel, by decide +kernel⟩
abbrev s_InvalidNumber___init__ : Stmt := inClass (topS 8) 0
abbrev N_InvalidNumber___init__ : List Str := ["self", "value"]
theorem sc_InvalidNumber___init__ : FnScope N_InvalidNumber___init__ ["self", "value"] (defScope s_InvalidNumber___init__) := ⟨rfl, rfl, rfl, by decide +kernel, rfl, by decide +kernel, by decide +kernel⟩
abbrev s_InvalidColour___init__ : Stmt := inClass (topS 9) 0
abbrev N_InvalidColour___init__ : List Str := ["self", "value"]
theorem sc_InvalidColour___init__ : FnScope N_InvalidColour___init__ ["self", "value"] (defScope s_InvalidColour___init__) := ⟨rfl, rfl, rfl, by decide +kernel, rfl, by decide +kernel, by decide +kernel⟩
abbrev s_InvalidPairs___init__ : Stmt := inClass (topS 10) 0
abbrev N_InvalidPairs___init__ : List Str := ["self", "value"]
theorem sc_InvalidPairs___init__ : FnScope N_InvalidPairs___init__ ["self", "value"] (defScope s_InvalidPairs___init__) := ⟨rfl, rfl, rfl, by decide +kernel, rfl, by decide +kernel, by decide +kernel⟩
abbrev s_InvalidForm___init__ : Stmt := inClass (topS 11) 0
abbrev N_InvalidForm___init__ : List Str := ["self", "value"]
theorem sc_InvalidForm___init__ : FnScope N_InvalidForm___init__ ["self", "value"] (defScope s_InvalidForm___init__) := ⟨rfl, rfl, rfl, by decide +kernel, rfl, by decide +kernel, by decide +kernel⟩
abbrev s_InvalidPatch___init__ : Stmt := inClass (topS 12) 0
abbrev N_InvalidPatch___init__ : List Str := ["self", "index"]
theorem sc_InvalidPatch___init__ : FnScope N_InvalidPatch___init__ ["self", "index"] (defScope s_InvalidPatch___init__) := ⟨rfl, rfl, rfl, by decide +kernel, rfl, by decide +kernel, by decide +kernel⟩
abbrev s_InvalidPass___init__ : Stmt := inClass (topS 13) 0
abbrev N_InvalidPass___init__ : List Str := ["self", "index"]
theorem sc_InvalidPass___init__ : FnScope N_InvalidPass___init__ ["self", "index"] (defScope s_InvalidPass___init__) := ⟨rfl, rfl, rfl, by decide +kernel, rfl, by decide +kernel, by decide +kernel⟩
abbrev s_InvalidEdit___init__ : Stmt := inClass (topS 14) 0
abbrev N_InvalidEdit___init__ : List Str := ["self", "index"]
theorem sc_InvalidEdit___init__ : FnScope N_InvalidEdit___init__ ["self", "index"] (defScope s_InvalidEdit___init__) := ⟨rfl, rfl, rfl, by decide +kernel, rfl, by decide +kernel, by decide +kernel⟩
abbrev s_InvalidOrder___init__ : Stmt := inClass (topS 15) 0
abbrev N_InvalidOrder___init__ : List Str := ["self", "path"]
theorem sc_InvalidOrder___init__ : FnScope N_InvalidOrder___init__ ["self", "path"] (defScope s_InvalidOrder___init__) := ⟨rfl, rfl, rfl, by decide +kernel, rfl, by decide +kernel, by decide +kernel⟩
abbrev s_InvalidText___init__ : Stmt := inClass (topS 16) 0
abbrev N_InvalidText___init__ : List Str := ["self", "line"]
theorem sc_InvalidText___init__ : FnScope N_InvalidText___init__ ["self", "line"] (defScope s_InvalidText___init__) := ⟨rfl, rfl, rfl, by decide +kernel, rfl, by decide +kernel, by decide +kernel⟩
abbrev s_InvalidLine___init__ : Stmt := inClass (topS 17) 0
abbrev N_InvalidLine___init__ : List Str := ["self", "value"]
theorem sc_InvalidLine___init__ : FnScope N_InvalidLine___init__ ["self", "value"] (defScope s_InvalidLine___init__) := ⟨rfl, rfl, rfl, by decide +kernel, rfl, by decide +kernel, by decide +kernel⟩
abbrev s_NotAScript___init__ : Stmt := inClass (topS 18) 0
abbrev N_NotAScript___init__ : List Str := ["self", "value"]
theorem sc_NotAScript___init__ : FnScope N_NotAScript___init__ ["self", "value"] (defScope s_NotAScript___init__) := ⟨rfl, rfl, rfl, by decide +kernel, rfl, by decide +kernel, by decide +kernel⟩
abbrev s_NotAPicture___init__ : Stmt := inClass (topS 19) 0
abbrev N_NotAPicture___init__ : List Str := ["self", "value"]
theorem sc_NotAPicture___init__ : FnScope N_NotAPicture___init__ ["self", "value"] (defScope s_NotAPicture___init__) := ⟨rfl, rfl, rfl, by decide +kernel, rfl, by decide +kernel, by decide +kernel⟩
abbrev s_DifferentStages___init__ : Stmt := inClass (topS 20) 0
abbrev N_DifferentStages___init__ : List Str := ["self"]
theorem sc_DifferentStages___init__ : FnScope N_DifferentStages___init__ ["self"] (defScope s_DifferentStages___init__) := ⟨rfl, rfl, rfl, by decide +kernel, rfl, by decide +kernel, by decide +kernel⟩
abbrev s_UsesKeys___init__ : Stmt := inClass (topS 21) 0
abbrev N_UsesKeys___init__ : List Str := ["self"]
theorem sc_UsesKeys___init__ : FnScope N_UsesKeys___init__ ["self"] (defScope s_UsesKeys___init__) := ⟨rfl, rfl, rfl, by decide +kernel, rfl, by decide +kernel, by decide +kernel⟩
abbrev s_NoBeginning___init__ : Stmt := inClass (topS 22) 0
abbrev N_NoBeginning___init__ : List Str := ["self"]
theorem sc_NoBeginning___init__ : FnScope N_NoBeginning___init__ ["self"] (defScope s_NoBeginning___init__) := ⟨rfl, rfl, rfl, by decide +kernel, rfl, by decide +kernel, by decide +kernel⟩
abbrev s_Guarded___init__ : Stmt := inClass (topS 23) 0
abbrev N_Guarded___init__ : List Str := ["self", "name"]
theorem sc_Guarded___init__ : FnScope N_Guarded___init__ ["self", "name"] (defScope s_Guarded___init__) := ⟨rfl, rfl, rfl, by decide +kernel, rfl, by decide +kernel, by decide +kernel⟩
abbrev s_Busy___init__ : Stmt := inClass (topS 24) 0
abbrev N_Busy___init__ : List Str := ["self"]
theorem sc_Busy___init__ : FnScope N_Busy___init__ ["self"] (defScope s_Busy___init__) := ⟨rfl, rfl, rfl, by decide +kernel, rfl, by decide +kernel, by decide +kernel⟩
abbrev s_NothingToUndo___init__ : Stmt := inClass (topS 25) 0
abbrev N_NothingToUndo___init__ : List Str := ["self"]
theorem sc_NothingToUndo___init__ : FnScope N_NothingToUndo___init__ ["self"] (defScope s_NothingToUndo___init__) := ⟨rfl, rfl, rfl, by decide +kernel, rfl, by decide +kernel, by decide +kernel⟩
abbrev s_TooManyOrders___init__ : Stmt := inClass (topS 26) 0
abbrev N_TooManyOrders___init__ : List Str := ["self", "found"]
theorem sc_TooManyOrders___init__ : FnScope N_TooManyOrders___init__ ["self", "found"] (defScope s_TooManyOrders___init__) := ⟨rfl, rfl, rfl, by decide +kernel, rfl, by decide +kernel, by decide +kernel⟩
abbrev s_TooManyCopies___init__ : Stmt := inClass (topS 27) 0
abbrev N_TooManyCopies___init__ : List Str := ["self", "found"]
theorem sc_TooManyCopies___init__ : FnScope N_TooManyCopies___init__ ["self", "found"] (defScope s_TooManyCopies___init__) := ⟨rfl, rfl, rfl, by decide +kernel, rfl, by decide +kernel, by decide +kernel⟩
abbrev s_TooManyKeys___init__ : Stmt := inClass (topS 28) 0
abbrev N_TooManyKeys___init__ : List Str := ["self", "found"]
theorem sc_TooManyKeys___init__ : FnScope N_TooManyKeys___init__ ["self", "found"] (defScope s_TooManyKeys___init__) := ⟨rfl, rfl, rfl, by decide +kernel, rfl, by decide +kernel, by decide +kernel⟩
abbrev s_TooManyRecolours___init__ : Stmt := inClass (topS 29) 0
abbrev N_TooManyRecolours___init__ : List Str := ["self", "found"]
theorem sc_TooManyRecolours___init__ : FnScope N_TooManyRecolours___init__ ["self", "found"] (defScope s_TooManyRecolours___init__) := ⟨rfl, rfl, rfl, by decide +kernel, rfl, by decide +kernel, by decide +kernel⟩
abbrev s_TooManyEdits___init__ : Stmt := inClass (topS 30) 0
abbrev N_TooManyEdits___init__ : List Str := ["self", "found"]
theorem sc_TooManyEdits___init__ : FnScope N_TooManyEdits___init__ ["self", "found"] (defScope s_TooManyEdits___init__) := ⟨rfl, rfl, rfl, by decide +kernel, rfl, by decide +kernel, by decide +kernel⟩
abbrev s_law_cell : Stmt := topS 44
abbrev N_law_cell : List Str := ["_law_script", "_law_k", "_law_state_here", "_law_cell_here"]
theorem sc_law_cell : FnScope N_law_cell ["_law_script", "_law_k"] (defScope s_law_cell) := ⟨rfl, rfl, rfl, by decide +kernel, rfl, by decide +kernel, by decide +kernel⟩
theorem b_law_cell : Lw.Bnd "_law_cell" s_law_cell ["_law_script", "_law_k"] := fun _ _ _ _ _ _ us hl => match us, hl with | [_, _], _ => rfl
abbrev s_law_pool : Stmt := topS 45
abbrev N_law_pool : List Str := ["_law_cell_here", "_law_digits"]
theorem sc_law_pool : FnScope N_law_pool ["_law_cell_here"] (defScope s_law_pool) := ⟨rfl, rfl, rfl, by decide +kernel, rfl, by decide +kernel, by decide +kernel⟩
theorem b_law_pool : Lw.Bnd "_law_pool" s_law_pool ["_law_cell_here"] := fun _ _ _ _ _ _ us hl => match us, hl with | [_], _ => rfl
abbrev s_law_draw : Stmt := topS 46
abbrev N_law_draw : List Str := ["_law_pool_here", "_law_many", "_law_old", "_law_digit"]
theorem sc_law_draw : FnScope N_law_draw ["_law_pool_here", "_law_many"] (defScope s_law_draw) := ⟨rfl, rfl, rfl, by decide +kernel, rfl, by decide +kernel, by decide +kernel⟩
theorem b_law_draw : Lw.Bnd "_law_draw" s_law_draw ["_law_pool_here", "_law_many"] := fun _ _ _ _ _ _ us hl => match us, hl with | [_, _], _ => rfl
abbrev s_law_values_right : Stmt := topS 47
abbrev N_law_values_right : List Str := ["_law_thing", "_law_some", "_law_named", "_law_made", "_law_e"]
theorem sc_law_values_right : FnScope N_law_values_right ["_law_thing"] (defScope s_law_values_right) := ⟨rfl, rfl, rfl, by decide +kernel, rfl, by decide +kernel, by decide +kernel⟩
theorem b_law_values_right : Lw.Bnd "_law_values_right" s_law_values_right ["_law_thing"] := fun _ _ _ _ _ _ us hl => match us, hl with | [_], _ => rfl
abbrev s_law_which : Stmt := topS 48
abbrev N_law_which : List Str := ["_law_e", "_law_flags", "_law_at", "_law_bases", "_law_plain", "_law_due"]
theorem sc_law_which : FnScope N_law_which ["_law_e"] (defScope s_law_which) := ⟨rfl, rfl, rfl, by decide +kernel, rfl, by decide +kernel, by decide +kernel⟩
theorem b_law_which : Lw.Bnd "_law_which" s_law_which ["_law_e"] := fun _ _ _ _ _ _ us hl => match us, hl with | [_], _ => rfl
abbrev s_law_others_right : Stmt := topS 49
abbrev N_law_others_right : List Str := ["_law_at", "_law_call", "_law_some", "_law_told", "_law_bare", "_law_much", "_law_e"]
theorem sc_law_others_right : FnScope N_law_others_right ["_law_at", "_law_call"] (defScope s_law_others_right) := ⟨rfl, rfl, rfl, by decide +kernel, rfl, by decide +kernel, by decide +kernel⟩
theorem b_law_others_right : Lw.Bnd "_law_others_right" s_law_others_right ["_law_at", "_law_call"] := fun _ _ _ _ _ _ us hl => match us, hl with | [_, _], _ => rfl
abbrev s_law : Stmt := topS 50
abbrev N_law : List Str := ["_law_script", "_law_limits", "_law_k", "_law_pool_here", "_law_some", "_law_thing", "_law_at", "_law_call"]
theorem sc_law : FnScope N_law ["_law_script"] (defScope s_law) := ⟨rfl, rfl, rfl, by decide +kernel, rfl, by decide +kernel, by decide +kernel⟩
theorem b_law : Lw.Bnd "law" s_law ["_law_script"] := fun _ _ _ _ _ _ us hl => match us, hl with | [_], _ => rfl
theorem bt_ArithmeticError : bootBuiltins "ArithmeticError" = some (.type "ArithmeticError") := by decide +kernel
theorem bt_LookupError : bootBuiltins "LookupError" = some (.type "LookupError") := by decide +kernel
theorem bt_ValueError : bootBuiltins "ValueError" = some (.type "ValueError") := by decide +kernel
theorem bt_abs : bootBuiltins "abs" = some (.builtin "abs") := by decide +kernel
theorem bt_all : bootBuiltins "all" = some (.builtin "all") := by decide +kernel
theorem bt_divmod : bootBuiltins "divmod" = some (.builtin "divmod") := by decide +kernel
theorem bt_isinstance : bootBuiltins "isinstance" = some (.builtin "isinstance") := by decide +kernel
theorem bt_len : bootBuiltins "len" = some (.builtin "len") := by decide +kernel
theorem bt_list : bootBuiltins "list" = some (.type "list") := by decide +kernel
theorem bt_max : bootBuiltins "max" = some (.builtin "max") := by decide +kernel
theorem bt_min : bootBuiltins "min" = some (.builtin "min") := by decide +kernel
theorem bt_range : bootBuiltins "range" = some (.type "range") := by decide +kernel
/-- what stands behind the top -/
structure Txt (K : PySem.W.Frag) (mg : Str → Option Value) : Prop where
  d_law_cell : Lw.DefAt K mg "_law_cell" s_law_cell
  d_law_pool : Lw.DefAt K mg "_law_pool" s_law_pool
  d_law_draw : Lw.DefAt K mg "_law_draw" s_law_draw
  d_law_values_right : Lw.DefAt K mg "_law_values_right" s_law_values_right
  d_law_which : Lw.DefAt K mg "_law_which" s_law_which
  d_law_others_right : Lw.DefAt K mg "_law_others_right" s_law_others_right
  d_law : Lw.DefAt K mg "law" s_law
  b_ArithmeticError : mg "ArithmeticError" = none
  b_LookupError : mg "LookupError" = none
  b_ValueError : mg "ValueError" = none
  b_abs : mg "abs" = none
  b_all : mg "all" = none
  b_divmod : mg "divmod" = none
  b_isinstance : mg "isinstance" = none
  b_len : mg "len" = none
  b_list : mg "list" = none
  b_max : mg "max" = none
  b_min : mg "min" = none
  b_range : mg "range" = none
  errs : ∃ C0 C1 C2 C3 C4 C5 C6 C7 C8 C9 C10 C11 C12 C13 C14 C15 C16 C17 C18 C19 C20 C21 C22 C23 C24 C25 C26 B0 B1 B2 : Addr, Lw.ClsV K mg "InvalidStage" "InvalidStage.__init__" s_InvalidStage___init__ .v (some "value") C0 ∧ Lw.ClsV K mg "InvalidSurface" "InvalidSurface.__init__" s_InvalidSurface___init__ .v (some "value") C1 ∧ Lw.ClsV K mg "InvalidCell" "InvalidCell.__init__" s_InvalidCell___init__ .v (some "value") C2 ∧ Lw.ClsV K mg "InvalidRect" "InvalidRect.__init__" s_InvalidRect___init__ .v (some "value") C3 ∧ Lw.ClsV K mg "InvalidNumber" "InvalidNumber.__init__" s_InvalidNumber___init__ .v (some "value") C4 ∧ Lw.ClsV K mg "InvalidColour" "InvalidColour.__init__" s_InvalidColour___init__ .v (some "value") C5 ∧ Lw.ClsV K mg "InvalidPairs" "InvalidPairs.__init__" s_InvalidPairs___init__ .v (some "value") C6 ∧ Lw.ClsV K mg "InvalidForm" "InvalidForm.__init__" s_InvalidForm___init__ .v (some "value") C7 ∧ Lw.ClsV K mg "InvalidLine" "InvalidLine.__init__" s_InvalidLine___init__ .v (some "value") C8 ∧ Lw.ClsV K mg "NotAScript" "NotAScript.__init__" s_NotAScript___init__ .v (some "value") C9 ∧ Lw.ClsV K mg "NotAPicture" "NotAPicture.__init__" s_NotAPicture___init__ .v (some "value") C10 ∧ Lw.ClsV K mg "InvalidPatch" "InvalidPatch.__init__" s_InvalidPatch___init__ .v (some "index") C11 ∧ Lw.ClsV K mg "InvalidPass" "InvalidPass.__init__" s_InvalidPass___init__ .v (some "index") C12 ∧ Lw.ClsV K mg "InvalidEdit" "InvalidEdit.__init__" s_InvalidEdit___init__ .v (some "index") C13 ∧ Lw.ClsV K mg "InvalidOrder" "InvalidOrder.__init__" s_InvalidOrder___init__ .v (some "path") C14 ∧ Lw.ClsV K mg "InvalidText" "InvalidText.__init__" s_InvalidText___init__ .v (some "line") C15 ∧ Lw.ClsV K mg "DifferentStages" "DifferentStages.__init__" s_DifferentStages___init__ .l none C16 ∧ Lw.ClsV K mg "UsesKeys" "UsesKeys.__init__" s_UsesKeys___init__ .l none C17 ∧ Lw.ClsV K mg "NoBeginning" "NoBeginning.__init__" s_NoBeginning___init__ .l none C18 ∧ Lw.ClsV K mg "Guarded" "Guarded.__init__" s_Guarded___init__ .l (some "name") C19 ∧ Lw.ClsV K mg "Busy" "Busy.__init__" s_Busy___init__ .l none C20 ∧ Lw.ClsV K mg "NothingToUndo" "NothingToUndo.__init__" s_NothingToUndo___init__ .l none C21 ∧ Lw.ClsV K mg "TooManyOrders" "TooManyOrders.__init__" s_TooManyOrders___init__ .a (some "found") C22 ∧ Lw.ClsV K mg "TooManyCopies" "TooManyCopies.__init__" s_TooManyCopies___init__ .a (some "found") C23 ∧ Lw.ClsV K mg "TooManyKeys" "TooManyKeys.__init__" s_TooManyKeys___init__ .a (some "found") C24 ∧ Lw.ClsV K mg "TooManyRecolours" "TooManyRecolours.__init__" s_TooManyRecolours___init__ .a (some "found") C25 ∧ Lw.ClsV K mg "TooManyEdits" "TooManyEdits.__init__" s_TooManyEdits___init__ .a (some "found") C26 ∧ Lw.BasV K mg .v B0 ∧ Lw.BasV K mg .l B1 ∧ Lw.BasV K mg .a B2 ∧ Lw.whB K [C0, C1, C2, C3, C4, C5, C6, C7, C8, C9, C10, C11, C12, C13, C14, C15, C16, C17, C18, C19, C20, C21, C22, C23, C24, C25, C26] B0 B1 B2 = true
  g_MOST_SURFACES : ∃ u, mg "MOST_SURFACES" = some u ∧ RelV (.int 6) u
  g_MOST_SIZE : ∃ u, mg "MOST_SIZE" = some u ∧ RelV (.int 1000000000000) u
  g_MOST_COLOUR : ∃ u, mg "MOST_COLOUR" = some u ∧ RelV (.int 1000000000) u
  g_MOST_ORDERS : ∃ u, mg "MOST_ORDERS" = some u ∧ RelV (.int 16) u
  g_MOST_COPIES : ∃ u, mg "MOST_COPIES" = some u ∧ RelV (.int 4) u
  g_MOST_KEYS : ∃ u, mg "MOST_KEYS" = some u ∧ RelV (.int 2) u
  g_MOST_RECOLOURS : ∃ u, mg "MOST_RECOLOURS" = some u ∧ RelV (.int 4) u
  g_MOST_PAIRS : ∃ u, mg "MOST_PAIRS" = some u ∧ RelV (.int 2) u
  g_MOST_REPEAT : ∃ u, mg "MOST_REPEAT" = some u ∧ RelV (.int 12) u
  g_MOST_LEVELS : ∃ u, mg "MOST_LEVELS" = some u ∧ RelV (.int 6) u
  g_MOST_PARTS : ∃ u, mg "MOST_PARTS" = some u ∧ RelV (.int 8) u
  g_MOST_EDITS : ∃ u, mg "MOST_EDITS" = some u ∧ RelV (.int 100) u

end K13
namespace K13
open PySem PySem.Spec PyProof.Rows L2 Evl Lw
section
variable {P : Program} {w : World} {K : PySem.W.Frag} {mg : Str → Option Value} {base : Heap}
theorem c_law_draw (T : Txt K mg) : Cl P w K mg base CX0 1 "_law_draw" s_law_draw ["_law_pool_here", "_law_many"] spDraw := by
  refine Cl.pool (cl_of (sp := spDraw1) (k := 0) T.d_law_draw sc_law_draw (fun vs H Q E h => ?_) (fun f cdv A outer s H vs Q E hr h => ?_)) spDraw_of
  · obtain ⟨p, m, a, b, c, rfl, _⟩ := h
    rfl
  · obtain ⟨p, m, a, b, c, rfl, hp, h0, h1, q⟩ := h
    have nd := sc_law_draw.nd
    refine ⟨_, (pss_cons (ps_asg (pe_op op_add (pe_ix ix_seq (pv 0) pe_int (fun _ _ => rfl)) pe_int) (pg_sub (pv 0) pe_int set_list))
      (pss_cons (ps_set (i := 2) nd rfl (Or.inl rfl) (pe_ix ix_seq (pv 0) pe_int (fun _ _ => rfl)))
      (pss_cons (ps_asg (pe_op op_mod (pe_op op_add (pe_op op_add (pe_op op_mul (pv 2) (pe_op op_add (pe_op op_mod (pv 2) pe_int) pe_int)) (pe_op op_mul pe_int (pe_ix ix_seq (pv 0) pe_int (fun _ _ => rfl)))) pe_int) pe_int) (pg_sub (pv 0) pe_int set_list))
      (pss_cons (ps_if (pt_cmpR op_gt (pe_ix ix_seq (pv 0) pe_int (fun _ _ => rfl)) pe_int (nomark _)) (pss_cons (ps_asg (pe_callB (call_divmodW) (by rfl) T.b_divmod bt_divmod (pa_cons (pe_ix ix_seq (pv 0) pe_int (fun _ _ => rfl)) (pa_cons (pv 1) pa_nil))) (pg_tup rfl (pgs_cons (pg_sub (pv 0) pe_int set_list) (pgs_cons (pg_name (i := 3) nd rfl (Or.inl rfl)) pgs_nil))))
      (pss_one (ps_ret (pv 3)))) pss_nil)
      (pss_one (ps_ret (pe_op op_mod (pe_op op_fdiv (pe_ix ix_seq (pv 0) pe_int (fun _ _ => rfl)) pe_int) (pv 1)))))))), ?_⟩
    repeat fail "st"
    refine ifD (fun hb => ?_) (fun hb => ?_)
    · repeat fail "st"
      refine ⟨cdivp h0 h1, fun t ht => ?_⟩
      have np : p ≠ t := ne_of_none upd_same ht
      repeat fail "st"
      exact q _ _ _ _ _ (But.mut (But.new (But.mut (But.mut But.refl)) ht)) upd_same (Int.emod_nonneg _ (by omega)) (Int.emod_lt_of_pos _ h0)
    · repeat fail "st"
      exact q _ _ _ _ _ (But.mut (But.mut But.refl)) upd_same (Int.emod_nonneg _ (by omega)) (Int.emod_lt_of_pos _ h0)
theorem c_law_pool (T : Txt K mg) : Cl P w K mg base CX0 1 "_law_pool" s_law_pool ["_law_cell_here"] spPool := by
  refine Cl.newpool (cl_of (sp := spPool1) (k := 0) T.d_law_pool sc_law_pool (fun vs H Q E h => ?_) (fun f cdv A outer s H vs Q E hr h => ?_)) spPool_of
  · obtain ⟨i, rfl, _⟩ := h
    rfl
  · obtain ⟨i, rfl, q⟩ := h
    have nd := sc_law_pool.nd
    refine ⟨_, (pss_cons (ps_set (i := 1) nd rfl (Or.inl rfl) (pe_ifExp (PW.pt (pw_or (pt_cmpR op_lt (pv 0) pe_int (nomark _)) (pw_or1 (pt_cmpR op_ge (pv 0) (pe_op op_pow pe_int pe_int) (nomark _))))) (pe_callB (call_abs) (by rfl) T.b_abs bt_abs (pa_cons (pv 0) pa_nil)) pe_int))
      (pss_one (ps_ret (pe_lst (pa_cons (pe_op op_mod (pv 0) pe_int) (pa_cons (pv 1) (pa_cons pe_int pa_nil))))))), ?_⟩
    repeat fail "st"
    refine ifD (fun hb => ?_) (fun hb => ?_)
    · repeat fail "st"
      refine iteT (B := True) ?_
      repeat fail "st"
      exact fun t ht => q t _ _ _ _ ht upd_same (Ex.new ht)
    · repeat fail "st"
      refine ifD (fun hb => ?_) (fun hb => ?_)
      · repeat fail "st"

        exact fun t ht => q t _ _ _ _ ht upd_same (Ex.new ht)
      · repeat fail "st"
        exact fun t ht => q t _ _ _ _ ht upd_same (Ex.new ht)
theorem c_law_cell (T : Txt K mg) : Cl P w K mg base CX0 1 "_law_cell" s_law_cell ["_law_script", "_law_k"] (Lw.spCell K) := by
  refine cl_of (k := 0) T.d_law_cell sc_law_cell (fun vs H Q E h => ?_) (fun f cdv A outer s H vs Q E hr h => ?_)
  · obtain ⟨a, ns, i, rfl, _⟩ := h
    rfl
  · obtain ⟨a, ns, i, rfl, hS, hl, h0, h1, q⟩ := h
    have nd := sc_law_cell.nd
    refine ⟨_, (pss_cons (ps_if (pt_cmpR op_lt (pv 1) (pe_callB (call_len) (by rfl) T.b_len bt_len (pa_cons (pv 0) pa_nil)) (nomark _)) (pss_one (ps_ret (pe_ix ix_seq (pv 0) (pv 1) (fun _ _ => rfl)))) pss_nil)
      (pss_cons (ps_set (i := 2) nd rfl (Or.inl rfl) (pe_op op_mod (pe_op op_mul pe_int (pe_op op_add (pe_op op_add (pe_op op_mul (pv 1) (pv 1)) (pe_op op_mul pe_int (pv 1))) pe_int)) pe_int))
      (pss_cons (ps_for PassesOwn.never rfl (pi_list (pe_slice sl_list (pv 0) po_none (po_some pe_int))) (pg_name (i := 3) nd rfl (Or.inl rfl)) (pss_one (ps_set (i := 2) nd rfl (Or.inl rfl) (pe_op op_mod (pe_op op_add (pe_op op_mul (pv 2) pe_int) (pv 3)) pe_int))))
      (pss_one (ps_ret (pv 2)))))), ?_⟩
    repeat fail "st"
    refine ifD (fun hb => ?_) (fun hb => ?_)
    · rw [List.length_map] at hb
      obtain ⟨j, rfl⟩ := Int.eq_ofNat_of_zero_le h0
      have hj : j < ns.length := by omega
      have ga : atI (ns.map V.int) (j : Int) = some (.int ns[j]) := atI_nat (by rw [List.getElem?_map, List.getElem?_eq_getElem hj]; rfl)
      repeat fail "st"
      exact q _ _ (Ex.refl H)
    · repeat fail "st"
      intro c nc
      refine ⟨_, rfl, ⟨_, SqL.of upd_same⟩, ?_⟩
      refine for_list (xs := cutV (ns.map V.int) none (some 3)) (fun _ σ H' => ∃ (z : Int) (y : Option V), σ = [some (.ref a), some (.int i), some (.int z), y] ∧ H' = upd H c (.lst (cutV (ns.map V.int) none (some 3)))) ⟨_, _, rfl, rfl⟩ ?_ ?_ ?_
      · rintro _ _ _ _ ⟨z, y, rfl, rfl⟩
        exact SqL.of upd_same
      · rintro _ x _ _ hx ⟨z, y, rfl, rfl⟩
        obtain ⟨n, rfl⟩ := cut_int hx
        repeat fail "st"
        rfl
      · rintro _ _ ⟨z, y, rfl, rfl⟩
        repeat fail "st"
        exact q _ _ (Ex.new nc)
end

end K13
namespace K13
open PySem PySem.Spec PyProof.Rows L2 Evl Lw
section
variable {P : Program} {w : World} {K : PySem.W.Frag} {mg : Str → Option Value} {base : Heap}
theorem ev_InvalidStage {C B : Addr} (hb : BasV K mg .v B) (V : ClsV K mg "InvalidStage" "InvalidStage.__init__" s_InvalidStage___init__ .v (some "value") C) : ExV1 P w K mg base "InvalidStage" .v C "value" := by
  obtain ⟨fa, fd, h1, h2, F⟩ := V.ini
  have no := V.no _ rfl
  refine ⟨V.nm, V.oex, V.exk, no, fa, fd, h1, h2, ?_, ?_, ?_⟩
  · refine F.ok (k := 0) sc_InvalidStage___init__ (fun vs H Q E h => ?_) (fun cdv A outer s H vs Q E hr h => ?_)
    · obtain ⟨a, v, _, rfl, _⟩ := h
      rfl
    · obtain ⟨a, v, ha, rfl, q⟩ := h
      have nd := sc_InvalidStage___init__.nd
      refine ⟨_, pss_cons (ps_expr (Lw.pe_binitB (by rfl) hb.nm hb.base (pa_cons (pv 0) (pa_cons pe_str pa_nil)))) (pss_one (Lw.ps_osB .v (pv 0) (pv 1))), ?_⟩
      repeat fail "st"
      refine ⟨a, C, _, rfl, (by show 1 ≤ 1000; decide), V.oex, ha, ?_⟩
      repeat fail "st"
      exact ⟨a, C, rfl, V.oex, no, ha, fun d hd ne => q d hd ne⟩
  · obtain ⟨oc, od, kV, doc, pm, an, cdv, ct, osl, rfl, lk, hcd⟩ := F.ex
    exact Binds.all fun us hl => match us, hl with | [_, _], _ => rfl
  · obtain ⟨oc, od, kV, doc, pm, an, cdv, ct, osl, rfl, lk, hcd⟩ := F.ex
    exact fun s u v => .of_eq rfl
theorem ev_InvalidSurface {C B : Addr} (hb : BasV K mg .v B) (V : ClsV K mg "InvalidSurface" "InvalidSurface.__init__" s_InvalidSurface___init__ .v (some "value") C) : ExV1 P w K mg base "InvalidSurface" .v C "value" := by
  obtain ⟨fa, fd, h1, h2, F⟩ := V.ini
  have no := V.no _ rfl
  refine ⟨V.nm, V.oex, V.exk, no, fa, fd, h1, h2, ?_, ?_, ?_⟩
  · refine F.ok (k := 0) sc_InvalidSurface___init__ (fun vs H Q E h => ?_) (fun cdv A outer s H vs Q E hr h => ?_)
    · obtain ⟨a, v, _, rfl, _⟩ := h
      rfl
    · obtain ⟨a, v, ha, rfl, q⟩ := h
      have nd := sc_InvalidSurface___init__.nd
      refine ⟨_, pss_cons (ps_expr (Lw.pe_binitB (by rfl) hb.nm hb.base (pa_cons (pv 0) (pa_cons pe_str pa_nil)))) (pss_one (Lw.ps_osB .v (pv 0) (pv 1))), ?_⟩
      repeat fail "st"
      refine ⟨a, C, _, rfl, (by show 1 ≤ 1000; decide), V.oex, ha, ?_⟩
      repeat fail "st"
      exact ⟨a, C, rfl, V.oex, no, ha, fun d hd ne => q d hd ne⟩
  · obtain ⟨oc, od, kV, doc, pm, an, cdv, ct, osl, rfl, lk, hcd⟩ := F.ex
    exact Binds.all fun us hl => match us, hl with | [_, _], _ => rfl
  · obtain ⟨oc, od, kV, doc, pm, an, cdv, ct, osl, rfl, lk, hcd⟩ := F.ex
    exact fun s u v => .of_eq rfl
theorem ev_InvalidCell {C B : Addr} (hb : BasV K mg .v B) (V : ClsV K mg "InvalidCell" "InvalidCell.__init__" s_InvalidCell___init__ .v (some "value") C) : ExV1 P w K mg base "InvalidCell" .v C "value" := by
  obtain ⟨fa, fd, h1, h2, F⟩ := V.ini
  have no := V.no _ rfl
  refine ⟨V.nm, V.oex, V.exk, no, fa, fd, h1, h2, ?_, ?_, ?_⟩
  · refine F.ok (k := 0) sc_InvalidCell___init__ (fun vs H Q E h => ?_) (fun cdv A outer s H vs Q E hr h => ?_)
    · obtain ⟨a, v, _, rfl, _⟩ := h
      rfl
    · obtain ⟨a, v, ha, rfl, q⟩ := h
      have nd := sc_InvalidCell___init__.nd
      refine ⟨_, pss_cons (ps_expr (Lw.pe_binitB (by rfl) hb.nm hb.base (pa_cons (pv 0) (pa_cons pe_str pa_nil)))) (pss_one (Lw.ps_osB .v (pv 0) (pv 1))), ?_⟩
      repeat fail "st"
      refine ⟨a, C, _, rfl, (by show 1 ≤ 1000; decide), V.oex, ha, ?_⟩
      repeat fail "st"
      exact ⟨a, C, rfl, V.oex, no, ha, fun d hd ne => q d hd ne⟩
  · obtain ⟨oc, od, kV, doc, pm, an, cdv, ct, osl, rfl, lk, hcd⟩ := F.ex
    exact Binds.all fun us hl => match us, hl with | [_, _], _ => rfl
  · obtain ⟨oc, od, kV, doc, pm, an, cdv, ct, osl, rfl, lk, hcd⟩ := F.ex
    exact fun s u v => .of_eq rfl
theorem ev_InvalidRect {C B : Addr} (hb : BasV K mg .v B) (V : ClsV K mg "InvalidRect" "InvalidRect.__init__" s_InvalidRect___init__ .v (some "value") C) : ExV1 P w K mg base "InvalidRect" .v C "value" := by
  obtain ⟨fa, fd, h1, h2, F⟩ := V.ini
  have no := V.no _ rfl
  refine ⟨V.nm, V.oex, V.exk, no, fa, fd, h1, h2, ?_, ?_, ?_⟩
  · refine F.ok (k := 0) sc_InvalidRect___init__ (fun vs H Q E h => ?_) (fun cdv A outer s H vs Q E hr h => ?_)
    · obtain ⟨a, v, _, rfl, _⟩ := h
      rfl
    · obtain ⟨a, v, ha, rfl, q⟩ := h
      have nd := sc_InvalidRect___init__.nd
      refine ⟨_, pss_cons (ps_expr (Lw.pe_binitB (by rfl) hb.nm hb.base (pa_cons (pv 0) (pa_cons pe_str pa_nil)))) (pss_one (Lw.ps_osB .v (pv 0) (pv 1))), ?_⟩
      repeat fail "st"
      refine ⟨a, C, _, rfl, (by show 1 ≤ 1000; decide), V.oex, ha, ?_⟩
      repeat fail "st"
      exact ⟨a, C, rfl, V.oex, no, ha, fun d hd ne => q d hd ne⟩
  · obtain ⟨oc, od, kV, doc, pm, an, cdv, ct, osl, rfl, lk, hcd⟩ := F.ex
    exact Binds.all fun us hl => match us, hl with | [_, _], _ => rfl
  · obtain ⟨oc, od, kV, doc, pm, an, cdv, ct, osl, rfl, lk, hcd⟩ := F.ex
    exact fun s u v => .of_eq rfl
theorem ev_InvalidNumber {C B : Addr} (hb : BasV K mg .v B) (V : ClsV K mg "InvalidNumber" "InvalidNumber.__init__" s_InvalidNumber___init__ .v (some "value") C) : ExV1 P w K mg base "InvalidNumber" .v C "value" := by
  obtain ⟨fa, fd, h1, h2, F⟩ := V.ini
  have no := V.no _ rfl
  refine ⟨V.nm, V.oex, V.exk, no, fa, fd, h1, h2, ?_, ?_, ?_⟩
  · refine F.ok (k := 0) sc_InvalidNumber___init__ (fun vs H Q E h => ?_) (fun cdv A outer s H vs Q E hr h => ?_)
    · obtain ⟨a, v, _, rfl, _⟩ := h
      rfl
    · obtain ⟨a, v, ha, rfl, q⟩ := h
      have nd := sc_InvalidNumber___init__.nd
      refine ⟨_, pss_cons (ps_expr (Lw.pe_binitB (by rfl) hb.nm hb.base (pa_cons (pv 0) (pa_cons pe_str pa_nil)))) (pss_one (Lw.ps_osB .v (pv 0) (pv 1))), ?_⟩
      repeat fail "st"
      refine ⟨a, C, _, rfl, (by show 1 ≤ 1000; decide), V.oex, ha, ?_⟩
      repeat fail "st"
      exact ⟨a, C, rfl, V.oex, no, ha, fun d hd ne => q d hd ne⟩
  · obtain ⟨oc, od, kV, doc, pm, an, cdv, ct, osl, rfl, lk, hcd⟩ := F.ex
    exact Binds.all fun us hl => match us, hl with | [_, _], _ => rfl
  · obtain ⟨oc, od, kV, doc, pm, an, cdv, ct, osl, rfl, lk, hcd⟩ := F.ex
    exact fun s u v => .of_eq rfl
theorem ev_InvalidColour {C B : Addr} (hb : BasV K mg .v B) (V : ClsV K mg "InvalidColour" "InvalidColour.__init__" s_InvalidColour___init__ .v (some "value") C) : ExV1 P w K mg base "InvalidColour" .v C "value" := by
  obtain ⟨fa, fd, h1, h2, F⟩ := V.ini
  have no := V.no _ rfl
  refine ⟨V.nm, V.oex, V.exk, no, fa, fd, h1, h2, ?_, ?_, ?_⟩
  · refine F.ok (k := 0) sc_InvalidColour___init__ (fun vs H Q E h => ?_) (fun cdv A outer s H vs Q E hr h => ?_)
    · obtain ⟨a, v, _, rfl, _⟩ := h
      rfl
    · obtain ⟨a, v, ha, rfl, q⟩ := h
      have nd := sc_InvalidColour___init__.nd
      refine ⟨_, pss_cons (ps_expr (Lw.pe_binitB (by rfl) hb.nm hb.base (pa_cons (pv 0) (pa_cons pe_str pa_nil)))) (pss_one (Lw.ps_osB .v (pv 0) (pv 1))), ?_⟩
      repeat fail "st"
      refine ⟨a, C, _, rfl, (by show 1 ≤ 1000; decide), V.oex, ha, ?_⟩
      repeat fail "st"
      exact ⟨a, C, rfl, V.oex, no, ha, fun d hd ne => q d hd ne⟩
  · obtain ⟨oc, od, kV, doc, pm, an, cdv, ct, osl, rfl, lk, hcd⟩ := F.ex
    exact Binds.all fun us hl => match us, hl with | [_, _], _ => rfl
  · obtain ⟨oc, od, kV, doc, pm, an, cdv, ct, osl, rfl, lk, hcd⟩ := F.ex
    exact fun s u v => .of_eq rfl
theorem ev_InvalidPairs {C B : Addr} (hb : BasV K mg .v B) (V : ClsV K mg "InvalidPairs" "InvalidPairs.__init__" s_InvalidPairs___init__ .v (some "value") C) : ExV1 P w K mg base "InvalidPairs" .v C "value" := by
  obtain ⟨fa, fd, h1, h2, F⟩ := V.ini
  have no := V.no _ rfl
  refine ⟨V.nm, V.oex, V.exk, no, fa, fd, h1, h2, ?_, ?_, ?_⟩
  · refine F.ok (k := 0) sc_InvalidPairs___init__ (fun vs H Q E h => ?_) (fun cdv A outer s H vs Q E hr h => ?_)
    · obtain ⟨a, v, _, rfl, _⟩ := h
      rfl
    · obtain ⟨a, v, ha, rfl, q⟩ := h
      have nd := sc_InvalidPairs___init__.nd
      refine ⟨_, pss_cons (ps_expr (Lw.pe_binitB (by rfl) hb.nm hb.base (pa_cons (pv 0) (pa_cons pe_str pa_nil)))) (pss_one (Lw.ps_osB .v (pv 0) (pv 1))), ?_⟩
      repeat fail "st"
      refine ⟨a, C, _, rfl, (by show 1 ≤ 1000; decide), V.oex, ha, ?_⟩
      repeat fail "st"
      exact ⟨a, C, rfl, V.oex, no, ha, fun d hd ne => q d hd ne⟩
  · obtain ⟨oc, od, kV, doc, pm, an, cdv, ct, osl, rfl, lk, hcd⟩ := F.ex
    exact Binds.all fun us hl => match us, hl with | [_, _], _ => rfl
  · obtain ⟨oc, od, kV, doc, pm, an, cdv, ct, osl, rfl, lk, hcd⟩ := F.ex
    exact fun s u v => .of_eq rfl
theorem ev_InvalidForm {C B : Addr} (hb : BasV K mg .v B) (V : ClsV K mg "InvalidForm" "InvalidForm.__init__" s_InvalidForm___init__ .v (some "value") C) : ExV1 P w K mg base "InvalidForm" .v C "value" := by
  obtain ⟨fa, fd, h1, h2, F⟩ := V.ini
  have no := V.no _ rfl
  refine ⟨V.nm, V.oex, V.exk, no, fa, fd, h1, h2, ?_, ?_, ?_⟩
  · refine F.ok (k := 0) sc_InvalidForm___init__ (fun vs H Q E h => ?_) (fun cdv A outer s H vs Q E hr h => ?_)
    · obtain ⟨a, v, _, rfl, _⟩ := h
      rfl
    · obtain ⟨a, v, ha, rfl, q⟩ := h
      have nd := sc_InvalidForm___init__.nd
      refine ⟨_, pss_cons (ps_expr (Lw.pe_binitB (by rfl) hb.nm hb.base (pa_cons (pv 0) (pa_cons pe_str pa_nil)))) (pss_one (Lw.ps_osB .v (pv 0) (pv 1))), ?_⟩
      repeat fail "st"
      refine ⟨a, C, _, rfl, (by show 1 ≤ 1000; decide), V.oex, ha, ?_⟩
      repeat fail "st"
      exact ⟨a, C, rfl, V.oex, no, ha, fun d hd ne => q d hd ne⟩
  · obtain ⟨oc, od, kV, doc, pm, an, cdv, ct, osl, rfl, lk, hcd⟩ := F.ex
    exact Binds.all fun us hl => match us, hl with | [_, _], _ => rfl
  · obtain ⟨oc, od, kV, doc, pm, an, cdv, ct, osl, rfl, lk, hcd⟩ := F.ex
    exact fun s u v => .of_eq rfl
theorem ev_InvalidLine {C B : Addr} (hb : BasV K mg .v B) (V : ClsV K mg "InvalidLine" "InvalidLine.__init__" s_InvalidLine___init__ .v (some "value") C) : ExV1 P w K mg base "InvalidLine" .v C "value" := by
  obtain ⟨fa, fd, h1, h2, F⟩ := V.ini
  have no := V.no _ rfl
  refine ⟨V.nm, V.oex, V.exk, no, fa, fd, h1, h2, ?_, ?_, ?_⟩
  · refine F.ok (k := 0) sc_InvalidLine___init__ (fun vs H Q E h => ?_) (fun cdv A outer s H vs Q E hr h => ?_)
    · obtain ⟨a, v, _, rfl, _⟩ := h
      rfl
    · obtain ⟨a, v, ha, rfl, q⟩ := h
      have nd := sc_InvalidLine___init__.nd
      refine ⟨_, pss_cons (ps_expr (Lw.pe_binitB (by rfl) hb.nm hb.base (pa_cons (pv 0) (pa_cons pe_str pa_nil)))) (pss_one (Lw.ps_osB .v (pv 0) (pv 1))), ?_⟩
      repeat fail "st"
      refine ⟨a, C, _, rfl, (by show 1 ≤ 1000; decide), V.oex, ha, ?_⟩
      repeat fail "st"
      exact ⟨a, C, rfl, V.oex, no, ha, fun d hd ne => q d hd ne⟩
  · obtain ⟨oc, od, kV, doc, pm, an, cdv, ct, osl, rfl, lk, hcd⟩ := F.ex
    exact Binds.all fun us hl => match us, hl with | [_, _], _ => rfl
  · obtain ⟨oc, od, kV, doc, pm, an, cdv, ct, osl, rfl, lk, hcd⟩ := F.ex
    exact fun s u v => .of_eq rfl
theorem ev_NotAScript {C B : Addr} (hb : BasV K mg .v B) (V : ClsV K mg "NotAScript" "NotAScript.__init__" s_NotAScript___init__ .v (some "value") C) : ExV1 P w K mg base "NotAScript" .v C "value" := by
  obtain ⟨fa, fd, h1, h2, F⟩ := V.ini
  have no := V.no _ rfl
  refine ⟨V.nm, V.oex, V.exk, no, fa, fd, h1, h2, ?_, ?_, ?_⟩
  · refine F.ok (k := 0) sc_NotAScript___init__ (fun vs H Q E h => ?_) (fun cdv A outer s H vs Q E hr h => ?_)
    · obtain ⟨a, v, _, rfl, _⟩ := h
      rfl
    · obtain ⟨a, v, ha, rfl, q⟩ := h
      have nd := sc_NotAScript___init__.nd
      refine ⟨_, pss_cons (ps_expr (Lw.pe_binitB (by rfl) hb.nm hb.base (pa_cons (pv 0) (pa_cons pe_str pa_nil)))) (pss_one (Lw.ps_osB .v (pv 0) (pv 1))), ?_⟩
      repeat fail "st"
      refine ⟨a, C, _, rfl, (by show 1 ≤ 1000; decide), V.oex, ha, ?_⟩
      repeat fail "st"
      exact ⟨a, C, rfl, V.oex, no, ha, fun d hd ne => q d hd ne⟩
  · obtain ⟨oc, od, kV, doc, pm, an, cdv, ct, osl, rfl, lk, hcd⟩ := F.ex
    exact Binds.all fun us hl => match us, hl with | [_, _], _ => rfl
  · obtain ⟨oc, od, kV, doc, pm, an, cdv, ct, osl, rfl, lk, hcd⟩ := F.ex
    exact fun s u v => .of_eq rfl
theorem ev_NotAPicture {C B : Addr} (hb : BasV K mg .v B) (V : ClsV K mg "NotAPicture" "NotAPicture.__init__" s_NotAPicture___init__ .v (some "value") C) : ExV1 P w K mg base "NotAPicture" .v C "value" := by
  obtain ⟨fa, fd, h1, h2, F⟩ := V.ini
  have no := V.no _ rfl
  refine ⟨V.nm, V.oex, V.exk, no, fa, fd, h1, h2, ?_, ?_, ?_⟩
  · refine F.ok (k := 0) sc_NotAPicture___init__ (fun vs H Q E h => ?_) (fun cdv A outer s H vs Q E hr h => ?_)
    · obtain ⟨a, v, _, rfl, _⟩ := h
      rfl
    · obtain ⟨a, v, ha, rfl, q⟩ := h
      have nd := sc_NotAPicture___init__.nd
      refine ⟨_, pss_cons (ps_expr (Lw.pe_binitB (by rfl) hb.nm hb.base (pa_cons (pv 0) (pa_cons pe_str pa_nil)))) (pss_one (Lw.ps_osB .v (pv 0) (pv 1))), ?_⟩
      repeat fail "st"
      refine ⟨a, C, _, rfl, (by show 1 ≤ 1000; decide), V.oex, ha, ?_⟩
      repeat fail "st"
      exact ⟨a, C, rfl, V.oex, no, ha, fun d hd ne => q d hd ne⟩
  · obtain ⟨oc, od, kV, doc, pm, an, cdv, ct, osl, rfl, lk, hcd⟩ := F.ex
    exact Binds.all fun us hl => match us, hl with | [_, _], _ => rfl
  · obtain ⟨oc, od, kV, doc, pm, an, cdv, ct, osl, rfl, lk, hcd⟩ := F.ex
    exact fun s u v => .of_eq rfl
theorem ev_InvalidPatch {C B : Addr} (hb : BasV K mg .v B) (V : ClsV K mg "InvalidPatch" "InvalidPatch.__init__" s_InvalidPatch___init__ .v (some "index") C) : ExV1 P w K mg base "InvalidPatch" .v C "index" := by
  obtain ⟨fa, fd, h1, h2, F⟩ := V.ini
  have no := V.no _ rfl
  refine ⟨V.nm, V.oex, V.exk, no, fa, fd, h1, h2, ?_, ?_, ?_⟩
  · refine F.ok (k := 0) sc_InvalidPatch___init__ (fun vs H Q E h => ?_) (fun cdv A outer s H vs Q E hr h => ?_)
    · obtain ⟨a, v, _, rfl, _⟩ := h
      rfl
    · obtain ⟨a, v, ha, rfl, q⟩ := h
      have nd := sc_InvalidPatch___init__.nd
      refine ⟨_, pss_cons (ps_expr (Lw.pe_binitB (by rfl) hb.nm hb.base (pa_cons (pv 0) (pa_cons pe_str pa_nil)))) (pss_one (Lw.ps_osB .v (pv 0) (pv 1))), ?_⟩
      repeat fail "st"
      refine ⟨a, C, _, rfl, (by show 1 ≤ 1000; decide), V.oex, ha, ?_⟩
      repeat fail "st"
      exact ⟨a, C, rfl, V.oex, no, ha, fun d hd ne => q d hd ne⟩
  · obtain ⟨oc, od, kV, doc, pm, an, cdv, ct, osl, rfl, lk, hcd⟩ := F.ex
    exact Binds.all fun us hl => match us, hl with | [_, _], _ => rfl
  · obtain ⟨oc, od, kV, doc, pm, an, cdv, ct, osl, rfl, lk, hcd⟩ := F.ex
    exact fun s u v => .of_eq rfl
theorem ev_InvalidPass {C B : Addr} (hb : BasV K mg .v B) (V : ClsV K mg "InvalidPass" "InvalidPass.__init__" s_InvalidPass___init__ .v (some "index") C) : ExV1 P w K mg base "InvalidPass" .v C "index" := by
  obtain ⟨fa, fd, h1, h2, F⟩ := V.ini
  have no := V.no _ rfl
  refine ⟨V.nm, V.oex, V.exk, no, fa, fd, h1, h2, ?_, ?_, ?_⟩
  · refine F.ok (k := 0) sc_InvalidPass___init__ (fun vs H Q E h => ?_) (fun cdv A outer s H vs Q E hr h => ?_)
    · obtain ⟨a, v, _, rfl, _⟩ := h
      rfl
    · obtain ⟨a, v, ha, rfl, q⟩ := h
      have nd := sc_InvalidPass___init__.nd
      refine ⟨_, pss_cons (ps_expr (Lw.pe_binitB (by rfl) hb.nm hb.base (pa_cons (pv 0) (pa_cons pe_str pa_nil)))) (pss_one (Lw.ps_osB .v (pv 0) (pv 1))), ?_⟩
      repeat fail "st"
      refine ⟨a, C, _, rfl, (by show 1 ≤ 1000; decide), V.oex, ha, ?_⟩
      repeat fail "st"
      exact ⟨a, C, rfl, V.oex, no, ha, fun d hd ne => q d hd ne⟩
  · obtain ⟨oc, od, kV, doc, pm, an, cdv, ct, osl, rfl, lk, hcd⟩ := F.ex
    exact Binds.all fun us hl => match us, hl with | [_, _], _ => rfl
  · obtain ⟨oc, od, kV, doc, pm, an, cdv, ct, osl, rfl, lk, hcd⟩ := F.ex
    exact fun s u v => .of_eq rfl
theorem ev_InvalidEdit {C B : Addr} (hb : BasV K mg .v B) (V : ClsV K mg "InvalidEdit" "InvalidEdit.__init__" s_InvalidEdit___init__ .v (some "index") C) : ExV1 P w K mg base "InvalidEdit" .v C "index" := by
  obtain ⟨fa, fd, h1, h2, F⟩ := V.ini
  have no := V.no _ rfl
  refine ⟨V.nm, V.oex, V.exk, no, fa, fd, h1, h2, ?_, ?_, ?_⟩
  · refine F.ok (k := 0) sc_InvalidEdit___init__ (fun vs H Q E h => ?_) (fun cdv A outer s H vs Q E hr h => ?_)
    · obtain ⟨a, v, _, rfl, _⟩ := h
      rfl
    · obtain ⟨a, v, ha, rfl, q⟩ := h
      have nd := sc_InvalidEdit___init__.nd
      refine ⟨_, pss_cons (ps_expr (Lw.pe_binitB (by rfl) hb.nm hb.base (pa_cons (pv 0) (pa_cons pe_str pa_nil)))) (pss_one (Lw.ps_osB .v (pv 0) (pv 1))), ?_⟩
      repeat fail "st"
      refine ⟨a, C, _, rfl, (by show 1 ≤ 1000; decide), V.oex, ha, ?_⟩
      repeat fail "st"
      exact ⟨a, C, rfl, V.oex, no, ha, fun d hd ne => q d hd ne⟩
  · obtain ⟨oc, od, kV, doc, pm, an, cdv, ct, osl, rfl, lk, hcd⟩ := F.ex
    exact Binds.all fun us hl => match us, hl with | [_, _], _ => rfl
  · obtain ⟨oc, od, kV, doc, pm, an, cdv, ct, osl, rfl, lk, hcd⟩ := F.ex
    exact fun s u v => .of_eq rfl
theorem ev_InvalidOrder {C B : Addr} (hb : BasV K mg .v B) (V : ClsV K mg "InvalidOrder" "InvalidOrder.__init__" s_InvalidOrder___init__ .v (some "path") C) : ExV1 P w K mg base "InvalidOrder" .v C "path" := by
  obtain ⟨fa, fd, h1, h2, F⟩ := V.ini
  have no := V.no _ rfl
  refine ⟨V.nm, V.oex, V.exk, no, fa, fd, h1, h2, ?_, ?_, ?_⟩
  · refine F.ok (k := 0) sc_InvalidOrder___init__ (fun vs H Q E h => ?_) (fun cdv A outer s H vs Q E hr h => ?_)
    · obtain ⟨a, v, _, rfl, _⟩ := h
      rfl
    · obtain ⟨a, v, ha, rfl, q⟩ := h
      have nd := sc_InvalidOrder___init__.nd
      refine ⟨_, pss_cons (ps_expr (Lw.pe_binitB (by rfl) hb.nm hb.base (pa_cons (pv 0) (pa_cons pe_str pa_nil)))) (pss_one (Lw.ps_osB .v (pv 0) (pv 1))), ?_⟩
      repeat fail "st"
      refine ⟨a, C, _, rfl, (by show 1 ≤ 1000; decide), V.oex, ha, ?_⟩
      repeat fail "st"
      exact ⟨a, C, rfl, V.oex, no, ha, fun d hd ne => q d hd ne⟩
  · obtain ⟨oc, od, kV, doc, pm, an, cdv, ct, osl, rfl, lk, hcd⟩ := F.ex
    exact Binds.all fun us hl => match us, hl with | [_, _], _ => rfl
  · obtain ⟨oc, od, kV, doc, pm, an, cdv, ct, osl, rfl, lk, hcd⟩ := F.ex
    exact fun s u v => .of_eq rfl
theorem ev_InvalidText {C B : Addr} (hb : BasV K mg .v B) (V : ClsV K mg "InvalidText" "InvalidText.__init__" s_InvalidText___init__ .v (some "line") C) : ExV1 P w K mg base "InvalidText" .v C "line" := by
  obtain ⟨fa, fd, h1, h2, F⟩ := V.ini
  have no := V.no _ rfl
  refine ⟨V.nm, V.oex, V.exk, no, fa, fd, h1, h2, ?_, ?_, ?_⟩
  · refine F.ok (k := 0) sc_InvalidText___init__ (fun vs H Q E h => ?_) (fun cdv A outer s H vs Q E hr h => ?_)
    · obtain ⟨a, v, _, rfl, _⟩ := h
      rfl
    · obtain ⟨a, v, ha, rfl, q⟩ := h
      have nd := sc_InvalidText___init__.nd
      refine ⟨_, pss_cons (ps_expr (Lw.pe_binitB (by rfl) hb.nm hb.base (pa_cons (pv 0) (pa_cons pe_str pa_nil)))) (pss_one (Lw.ps_osB .v (pv 0) (pv 1))), ?_⟩
      repeat fail "st"
      refine ⟨a, C, _, rfl, (by show 1 ≤ 1000; decide), V.oex, ha, ?_⟩
      repeat fail "st"
      exact ⟨a, C, rfl, V.oex, no, ha, fun d hd ne => q d hd ne⟩
  · obtain ⟨oc, od, kV, doc, pm, an, cdv, ct, osl, rfl, lk, hcd⟩ := F.ex
    exact Binds.all fun us hl => match us, hl with | [_, _], _ => rfl
  · obtain ⟨oc, od, kV, doc, pm, an, cdv, ct, osl, rfl, lk, hcd⟩ := F.ex
    exact fun s u v => .of_eq rfl
theorem ev_DifferentStages {C B : Addr} (hb : BasV K mg .l B) (V : ClsV K mg "DifferentStages" "DifferentStages.__init__" s_DifferentStages___init__ .l none C) : ExV0 P w K mg base "DifferentStages" .l C := by
  obtain ⟨fa, fd, h1, h2, F⟩ := V.ini
  refine ⟨V.nm, V.oex, V.exk, fa, fd, h1, h2, ?_, ?_⟩
  · refine F.ok (k := 0) sc_DifferentStages___init__ (fun vs H Q E h => ?_) (fun cdv A outer s H vs Q E hr h => ?_)
    · obtain ⟨a, _, rfl, _⟩ := h
      rfl
    · obtain ⟨a, ha, rfl, q⟩ := h
      have nd := sc_DifferentStages___init__.nd
      refine ⟨_, pss_one (ps_expr (Lw.pe_binitB (by rfl) hb.nm hb.base (pa_cons (pv 0) (pa_cons pe_str pa_nil)))), ?_⟩
      repeat fail "st"
      refine ⟨a, C, _, rfl, (by show 1 ≤ 1000; decide), V.oex, ha, ?_⟩
      exact q
  · obtain ⟨oc, od, kV, doc, pm, an, cdv, ct, osl, rfl, lk, hcd⟩ := F.ex
    exact Binds.all fun us hl => match us, hl with | [_], _ => rfl
theorem ev_UsesKeys {C B : Addr} (hb : BasV K mg .l B) (V : ClsV K mg "UsesKeys" "UsesKeys.__init__" s_UsesKeys___init__ .l none C) : ExV0 P w K mg base "UsesKeys" .l C := by
  obtain ⟨fa, fd, h1, h2, F⟩ := V.ini
  refine ⟨V.nm, V.oex, V.exk, fa, fd, h1, h2, ?_, ?_⟩
  · refine F.ok (k := 0) sc_UsesKeys___init__ (fun vs H Q E h => ?_) (fun cdv A outer s H vs Q E hr h => ?_)
    · obtain ⟨a, _, rfl, _⟩ := h
      rfl
    · obtain ⟨a, ha, rfl, q⟩ := h
      have nd := sc_UsesKeys___init__.nd
      refine ⟨_, pss_one (ps_expr (Lw.pe_binitB (by rfl) hb.nm hb.base (pa_cons (pv 0) (pa_cons pe_str pa_nil)))), ?_⟩
      repeat fail "st"
      refine ⟨a, C, _, rfl, (by show 1 ≤ 1000; decide), V.oex, ha, ?_⟩
      exact q
  · obtain ⟨oc, od, kV, doc, pm, an, cdv, ct, osl, rfl, lk, hcd⟩ := F.ex
    exact Binds.all fun us hl => match us, hl with | [_], _ => rfl
theorem ev_NoBeginning {C B : Addr} (hb : BasV K mg .l B) (V : ClsV K mg "NoBeginning" "NoBeginning.__init__" s_NoBeginning___init__ .l none C) : ExV0 P w K mg base "NoBeginning" .l C := by
  obtain ⟨fa, fd, h1, h2, F⟩ := V.ini
  refine ⟨V.nm, V.oex, V.exk, fa, fd, h1, h2, ?_, ?_⟩
  · refine F.ok (k := 0) sc_NoBeginning___init__ (fun vs H Q E h => ?_) (fun cdv A outer s H vs Q E hr h => ?_)
    · obtain ⟨a, _, rfl, _⟩ := h
      rfl
    · obtain ⟨a, ha, rfl, q⟩ := h
      have nd := sc_NoBeginning___init__.nd
      refine ⟨_, pss_one (ps_expr (Lw.pe_binitB (by rfl) hb.nm hb.base (pa_cons (pv 0) (pa_cons pe_str pa_nil)))), ?_⟩
      repeat fail "st"
      refine ⟨a, C, _, rfl, (by show 1 ≤ 1000; decide), V.oex, ha, ?_⟩
      exact q
  · obtain ⟨oc, od, kV, doc, pm, an, cdv, ct, osl, rfl, lk, hcd⟩ := F.ex
    exact Binds.all fun us hl => match us, hl with | [_], _ => rfl
theorem ev_Guarded {C B : Addr} (hb : BasV K mg .l B) (V : ClsV K mg "Guarded" "Guarded.__init__" s_Guarded___init__ .l (some "name") C) : ExV1 P w K mg base "Guarded" .l C "name" := by
  obtain ⟨fa, fd, h1, h2, F⟩ := V.ini
  have no := V.no _ rfl
  refine ⟨V.nm, V.oex, V.exk, no, fa, fd, h1, h2, ?_, ?_, ?_⟩
  · refine F.ok (k := 0) sc_Guarded___init__ (fun vs H Q E h => ?_) (fun cdv A outer s H vs Q E hr h => ?_)
    · obtain ⟨a, v, _, rfl, _⟩ := h
      rfl
    · obtain ⟨a, v, ha, rfl, q⟩ := h
      have nd := sc_Guarded___init__.nd
      refine ⟨_, pss_cons (ps_expr (Lw.pe_binitB (by rfl) hb.nm hb.base (pa_cons (pv 0) (pa_cons pe_str pa_nil)))) (pss_one (Lw.ps_osB .l (pv 0) (pv 1))), ?_⟩
      repeat fail "st"
      refine ⟨a, C, _, rfl, (by show 1 ≤ 1000; decide), V.oex, ha, ?_⟩
      repeat fail "st"
      exact ⟨a, C, rfl, V.oex, no, ha, fun d hd ne => q d hd ne⟩
  · obtain ⟨oc, od, kV, doc, pm, an, cdv, ct, osl, rfl, lk, hcd⟩ := F.ex
    exact Binds.all fun us hl => match us, hl with | [_, _], _ => rfl
  · obtain ⟨oc, od, kV, doc, pm, an, cdv, ct, osl, rfl, lk, hcd⟩ := F.ex
    exact fun s u v => .of_eq rfl
theorem ev_Busy {C B : Addr} (hb : BasV K mg .l B) (V : ClsV K mg "Busy" "Busy.__init__" s_Busy___init__ .l none C) : ExV0 P w K mg base "Busy" .l C := by
  obtain ⟨fa, fd, h1, h2, F⟩ := V.ini
  refine ⟨V.nm, V.oex, V.exk, fa, fd, h1, h2, ?_, ?_⟩
  · refine F.ok (k := 0) sc_Busy___init__ (fun vs H Q E h => ?_) (fun cdv A outer s H vs Q E hr h => ?_)
    · obtain ⟨a, _, rfl, _⟩ := h
      rfl
    · obtain ⟨a, ha, rfl, q⟩ := h
      have nd := sc_Busy___init__.nd
      refine ⟨_, pss_one (ps_expr (Lw.pe_binitB (by rfl) hb.nm hb.base (pa_cons (pv 0) (pa_cons pe_str pa_nil)))), ?_⟩
      repeat fail "st"
      refine ⟨a, C, _, rfl, (by show 1 ≤ 1000; decide), V.oex, ha, ?_⟩
      exact q
  · obtain ⟨oc, od, kV, doc, pm, an, cdv, ct, osl, rfl, lk, hcd⟩ := F.ex
    exact Binds.all fun us hl => match us, hl with | [_], _ => rfl
theorem ev_NothingToUndo {C B : Addr} (hb : BasV K mg .l B) (V : ClsV K mg "NothingToUndo" "NothingToUndo.__init__" s_NothingToUndo___init__ .l none C) : ExV0 P w K mg base "NothingToUndo" .l C := by
  obtain ⟨fa, fd, h1, h2, F⟩ := V.ini
  refine ⟨V.nm, V.oex, V.exk, fa, fd, h1, h2, ?_, ?_⟩
  · refine F.ok (k := 0) sc_NothingToUndo___init__ (fun vs H Q E h => ?_) (fun cdv A outer s H vs Q E hr h => ?_)
    · obtain ⟨a, _, rfl, _⟩ := h
      rfl
    · obtain ⟨a, ha, rfl, q⟩ := h
      have nd := sc_NothingToUndo___init__.nd
      refine ⟨_, pss_one (ps_expr (Lw.pe_binitB (by rfl) hb.nm hb.base (pa_cons (pv 0) (pa_cons pe_str pa_nil)))), ?_⟩
      repeat fail "st"
      refine ⟨a, C, _, rfl, (by show 1 ≤ 1000; decide), V.oex, ha, ?_⟩
      exact q
  · obtain ⟨oc, od, kV, doc, pm, an, cdv, ct, osl, rfl, lk, hcd⟩ := F.ex
    exact Binds.all fun us hl => match us, hl with | [_], _ => rfl
theorem ev_TooManyOrders {C B : Addr} (hb : BasV K mg .a B) (V : ClsV K mg "TooManyOrders" "TooManyOrders.__init__" s_TooManyOrders___init__ .a (some "found") C) : ExV1 P w K mg base "TooManyOrders" .a C "found" := by
  obtain ⟨fa, fd, h1, h2, F⟩ := V.ini
  have no := V.no _ rfl
  refine ⟨V.nm, V.oex, V.exk, no, fa, fd, h1, h2, ?_, ?_, ?_⟩
  · refine F.ok (k := 0) sc_TooManyOrders___init__ (fun vs H Q E h => ?_) (fun cdv A outer s H vs Q E hr h => ?_)
    · obtain ⟨a, v, _, rfl, _⟩ := h
      rfl
    · obtain ⟨a, v, ha, rfl, q⟩ := h
      have nd := sc_TooManyOrders___init__.nd
      refine ⟨_, pss_cons (ps_expr (Lw.pe_binitB (by rfl) hb.nm hb.base (pa_cons (pv 0) (pa_cons pe_str pa_nil)))) (pss_one (Lw.ps_osB .a (pv 0) (pv 1))), ?_⟩
      repeat fail "st"
      refine ⟨a, C, _, rfl, (by show 1 ≤ 1000; decide), V.oex, ha, ?_⟩
      repeat fail "st"
      exact ⟨a, C, rfl, V.oex, no, ha, fun d hd ne => q d hd ne⟩
  · obtain ⟨oc, od, kV, doc, pm, an, cdv, ct, osl, rfl, lk, hcd⟩ := F.ex
    exact Binds.all fun us hl => match us, hl with | [_, _], _ => rfl
  · obtain ⟨oc, od, kV, doc, pm, an, cdv, ct, osl, rfl, lk, hcd⟩ := F.ex
    exact fun s u v => .of_eq rfl
theorem ev_TooManyCopies {C B : Addr} (hb : BasV K mg .a B) (V : ClsV K mg "TooManyCopies" "TooManyCopies.__init__" s_TooManyCopies___init__ .a (some "found") C) : ExV1 P w K mg base "TooManyCopies" .a C "found" := by
  obtain ⟨fa, fd, h1, h2, F⟩ := V.ini
  have no := V.no _ rfl
  refine ⟨V.nm, V.oex, V.exk, no, fa, fd, h1, h2, ?_, ?_, ?_⟩
  · refine F.ok (k := 0) sc_TooManyCopies___init__ (fun vs H Q E h => ?_) (fun cdv A outer s H vs Q E hr h => ?_)
    · obtain ⟨a, v, _, rfl, _⟩ := h
      rfl
    · obtain ⟨a, v, ha, rfl, q⟩ := h
      have nd := sc_TooManyCopies___init__.nd
      refine ⟨_, pss_cons (ps_expr (Lw.pe_binitB (by rfl) hb.nm hb.base (pa_cons (pv 0) (pa_cons pe_str pa_nil)))) (pss_one (Lw.ps_osB .a (pv 0) (pv 1))), ?_⟩
      repeat fail "st"
      refine ⟨a, C, _, rfl, (by show 1 ≤ 1000; decide), V.oex, ha, ?_⟩
      repeat fail "st"
      exact ⟨a, C, rfl, V.oex, no, ha, fun d hd ne => q d hd ne⟩
  · obtain ⟨oc, od, kV, doc, pm, an, cdv, ct, osl, rfl, lk, hcd⟩ := F.ex
    exact Binds.all fun us hl => match us, hl with | [_, _], _ => rfl
  · obtain ⟨oc, od, kV, doc, pm, an, cdv, ct, osl, rfl, lk, hcd⟩ := F.ex
    exact fun s u v => .of_eq rfl
theorem ev_TooManyKeys {C B : Addr} (hb : BasV K mg .a B) (V : ClsV K mg "TooManyKeys" "TooManyKeys.__init__" s_TooManyKeys___init__ .a (some "found") C) : ExV1 P w K mg base "TooManyKeys" .a C "found" := by
  obtain ⟨fa, fd, h1, h2, F⟩ := V.ini
  have no := V.no _ rfl
  refine ⟨V.nm, V.oex, V.exk, no, fa, fd, h1, h2, ?_, ?_, ?_⟩
  · refine F.ok (k := 0) sc_TooManyKeys___init__ (fun vs H Q E h => ?_) (fun cdv A outer s H vs Q E hr h => ?_)
    · obtain ⟨a, v, _, rfl, _⟩ := h
      rfl
    · obtain ⟨a, v, ha, rfl, q⟩ := h
      have nd := sc_TooManyKeys___init__.nd
      refine ⟨_, pss_cons (ps_expr (Lw.pe_binitB (by rfl) hb.nm hb.base (pa_cons (pv 0) (pa_cons pe_str pa_nil)))) (pss_one (Lw.ps_osB .a (pv 0) (pv 1))), ?_⟩
      repeat fail "st"
      refine ⟨a, C, _, rfl, (by show 1 ≤ 1000; decide), V.oex, ha, ?_⟩
      repeat fail "st"
      exact ⟨a, C, rfl, V.oex, no, ha, fun d hd ne => q d hd ne⟩
  · obtain ⟨oc, od, kV, doc, pm, an, cdv, ct, osl, rfl, lk, hcd⟩ := F.ex
    exact Binds.all fun us hl => match us, hl with | [_, _], _ => rfl
  · obtain ⟨oc, od, kV, doc, pm, an, cdv, ct, osl, rfl, lk, hcd⟩ := F.ex
    exact fun s u v => .of_eq rfl
theorem ev_TooManyRecolours {C B : Addr} (hb : BasV K mg .a B) (V : ClsV K mg "TooManyRecolours" "TooManyRecolours.__init__" s_TooManyRecolours___init__ .a (some "found") C) : ExV1 P w K mg base "TooManyRecolours" .a C "found" := by
  obtain ⟨fa, fd, h1, h2, F⟩ := V.ini
  have no := V.no _ rfl
  refine ⟨V.nm, V.oex, V.exk, no, fa, fd, h1, h2, ?_, ?_, ?_⟩
  · refine F.ok (k := 0) sc_TooManyRecolours___init__ (fun vs H Q E h => ?_) (fun cdv A outer s H vs Q E hr h => ?_)
    · obtain ⟨a, v, _, rfl, _⟩ := h
      rfl
    · obtain ⟨a, v, ha, rfl, q⟩ := h
      have nd := sc_TooManyRecolours___init__.nd
      refine ⟨_, pss_cons (ps_expr (Lw.pe_binitB (by rfl) hb.nm hb.base (pa_cons (pv 0) (pa_cons pe_str pa_nil)))) (pss_one (Lw.ps_osB .a (pv 0) (pv 1))), ?_⟩
      repeat fail "st"
      refine ⟨a, C, _, rfl, (by show 1 ≤ 1000; decide), V.oex, ha, ?_⟩
      repeat fail "st"
      exact ⟨a, C, rfl, V.oex, no, ha, fun d hd ne => q d hd ne⟩
  · obtain ⟨oc, od, kV, doc, pm, an, cdv, ct, osl, rfl, lk, hcd⟩ := F.ex
    exact Binds.all fun us hl => match us, hl with | [_, _], _ => rfl
  · obtain ⟨oc, od, kV, doc, pm, an, cdv, ct, osl, rfl, lk, hcd⟩ := F.ex
    exact fun s u v => .of_eq rfl
theorem ev_TooManyEdits {C B : Addr} (hb : BasV K mg .a B) (V : ClsV K mg "TooManyEdits" "TooManyEdits.__init__" s_TooManyEdits___init__ .a (some "found") C) : ExV1 P w K mg base "TooManyEdits" .a C "found" := by
  obtain ⟨fa, fd, h1, h2, F⟩ := V.ini
  have no := V.no _ rfl
  refine ⟨V.nm, V.oex, V.exk, no, fa, fd, h1, h2, ?_, ?_, ?_⟩
  · refine F.ok (k := 0) sc_TooManyEdits___init__ (fun vs H Q E h => ?_) (fun cdv A outer s H vs Q E hr h => ?_)
    · obtain ⟨a, v, _, rfl, _⟩ := h
      rfl
    · obtain ⟨a, v, ha, rfl, q⟩ := h
      have nd := sc_TooManyEdits___init__.nd
      refine ⟨_, pss_cons (ps_expr (Lw.pe_binitB (by rfl) hb.nm hb.base (pa_cons (pv 0) (pa_cons pe_str pa_nil)))) (pss_one (Lw.ps_osB .a (pv 0) (pv 1))), ?_⟩
      repeat fail "st"
      refine ⟨a, C, _, rfl, (by show 1 ≤ 1000; decide), V.oex, ha, ?_⟩
      repeat fail "st"
      exact ⟨a, C, rfl, V.oex, no, ha, fun d hd ne => q d hd ne⟩
  · obtain ⟨oc, od, kV, doc, pm, an, cdv, ct, osl, rfl, lk, hcd⟩ := F.ex
    exact Binds.all fun us hl => match us, hl with | [_, _], _ => rfl
  · obtain ⟨oc, od, kV, doc, pm, an, cdv, ct, osl, rfl, lk, hcd⟩ := F.ex
    exact fun s u v => .of_eq rfl
end
/-- the errors as values: class i at c i, the bases -/
structure Errs (P : Program) (w : World) (K : PySem.W.Frag) (mg : Str → Option Value) (base : Heap) (c : Nat → Addr) (B : EB → Addr) : Prop where
  nb : ∀ b : EB, mg b.var = some (.ref (B b))
  wh : WhB K c B
  v_InvalidStage : ExV1 P w K mg base "InvalidStage" .v (c 0) "value"
  v_InvalidSurface : ExV1 P w K mg base "InvalidSurface" .v (c 1) "value"
  v_InvalidCell : ExV1 P w K mg base "InvalidCell" .v (c 2) "value"
  v_InvalidRect : ExV1 P w K mg base "InvalidRect" .v (c 3) "value"
  v_InvalidNumber : ExV1 P w K mg base "InvalidNumber" .v (c 4) "value"
  v_InvalidColour : ExV1 P w K mg base "InvalidColour" .v (c 5) "value"
  v_InvalidPairs : ExV1 P w K mg base "InvalidPairs" .v (c 6) "value"
  v_InvalidForm : ExV1 P w K mg base "InvalidForm" .v (c 7) "value"
  v_InvalidLine : ExV1 P w K mg base "InvalidLine" .v (c 8) "value"
  v_NotAScript : ExV1 P w K mg base "NotAScript" .v (c 9) "value"
  v_NotAPicture : ExV1 P w K mg base "NotAPicture" .v (c 10) "value"
  v_InvalidPatch : ExV1 P w K mg base "InvalidPatch" .v (c 11) "index"
  v_InvalidPass : ExV1 P w K mg base "InvalidPass" .v (c 12) "index"
  v_InvalidEdit : ExV1 P w K mg base "InvalidEdit" .v (c 13) "index"
  v_InvalidOrder : ExV1 P w K mg base "InvalidOrder" .v (c 14) "path"
  v_InvalidText : ExV1 P w K mg base "InvalidText" .v (c 15) "line"
  v_DifferentStages : ExV0 P w K mg base "DifferentStages" .l (c 16)
  v_UsesKeys : ExV0 P w K mg base "UsesKeys" .l (c 17)
  v_NoBeginning : ExV0 P w K mg base "NoBeginning" .l (c 18)
  v_Guarded : ExV1 P w K mg base "Guarded" .l (c 19) "name"
  v_Busy : ExV0 P w K mg base "Busy" .l (c 20)
  v_NothingToUndo : ExV0 P w K mg base "NothingToUndo" .l (c 21)
  v_TooManyOrders : ExV1 P w K mg base "TooManyOrders" .a (c 22) "found"
  v_TooManyCopies : ExV1 P w K mg base "TooManyCopies" .a (c 23) "found"
  v_TooManyKeys : ExV1 P w K mg base "TooManyKeys" .a (c 24) "found"
  v_TooManyRecolours : ExV1 P w K mg base "TooManyRecolours" .a (c 25) "found"
  v_TooManyEdits : ExV1 P w K mg base "TooManyEdits" .a (c 26) "found"
theorem errs_of {P : Program} {w : World} {K : PySem.W.Frag} {mg : Str → Option Value} {base : Heap} (T : Txt K mg) : ∃ c B, Errs P w K mg base c B := by
  obtain ⟨C0, C1, C2, C3, C4, C5, C6, C7, C8, C9, C10, C11, C12, C13, C14, C15, C16, C17, C18, C19, C20, C21, C22, C23, C24, C25, C26, B0, B1, B2, V0, V1, V2, V3, V4, V5, V6, V7, V8, V9, V10, V11, V12, V13, V14, V15, V16, V17, V18, V19, V20, V21, V22, V23, V24, V25, V26, b0, b1, b2, wh⟩ := T.errs
  refine ⟨fun i => [C0, C1, C2, C3, C4, C5, C6, C7, C8, C9, C10, C11, C12, C13, C14, C15, C16, C17, C18, C19, C20, C21, C22, C23, C24, C25, C26].getD i 0, fun b => match b with | .v => B0 | .l => B1 | .a => B2, fun b => (match b with | .v => b0.nm | .l => b1.nm | .a => b2.nm), whB_of wh, ev_InvalidStage b0 V0, ev_InvalidSurface b0 V1, ev_InvalidCell b0 V2, ev_InvalidRect b0 V3, ev_InvalidNumber b0 V4, ev_InvalidColour b0 V5, ev_InvalidPairs b0 V6, ev_InvalidForm b0 V7, ev_InvalidLine b0 V8, ev_NotAScript b0 V9, ev_NotAPicture b0 V10, ev_InvalidPatch b0 V11, ev_InvalidPass b0 V12, ev_InvalidEdit b0 V13, ev_InvalidOrder b0 V14, ev_InvalidText b0 V15, ev_DifferentStages b1 V16, ev_UsesKeys b1 V17, ev_NoBeginning b1 V18, ev_Guarded b1 V19, ev_Busy b1 V20, ev_NothingToUndo b1 V21, ev_TooManyOrders b2 V22, ev_TooManyCopies b2 V23, ev_TooManyKeys b2 V24, ev_TooManyRecolours b2 V25, ev_TooManyEdits b2 V26⟩
theorem Errs.exk {P : Program} {w : World} {K : PySem.W.Frag} {mg : Str → Option Value} {base : Heap} {c : Nat → Addr} {B : EB → Addr} (cM : Errs P w K mg base c B) : ∀ i, i < 27 → ExcK K (c i)
  | 0, _ => cM.v_InvalidStage.exk
  | 1, _ => cM.v_InvalidSurface.exk
  | 2, _ => cM.v_InvalidCell.exk
  | 3, _ => cM.v_InvalidRect.exk
  | 4, _ => cM.v_InvalidNumber.exk
  | 5, _ => cM.v_InvalidColour.exk
  | 6, _ => cM.v_InvalidPairs.exk
  | 7, _ => cM.v_InvalidForm.exk
  | 8, _ => cM.v_InvalidLine.exk
  | 9, _ => cM.v_NotAScript.exk
  | 10, _ => cM.v_NotAPicture.exk
  | 11, _ => cM.v_InvalidPatch.exk
  | 12, _ => cM.v_InvalidPass.exk
  | 13, _ => cM.v_InvalidEdit.exk
  | 14, _ => cM.v_InvalidOrder.exk
  | 15, _ => cM.v_InvalidText.exk
  | 16, _ => cM.v_DifferentStages.exk
  | 17, _ => cM.v_UsesKeys.exk
  | 18, _ => cM.v_NoBeginning.exk
  | 19, _ => cM.v_Guarded.exk
  | 20, _ => cM.v_Busy.exk
  | 21, _ => cM.v_NothingToUndo.exk
  | 22, _ => cM.v_TooManyOrders.exk
  | 23, _ => cM.v_TooManyCopies.exk
  | 24, _ => cM.v_TooManyKeys.exk
  | 25, _ => cM.v_TooManyRecolours.exk
  | 26, _ => cM.v_TooManyEdits.exk
  | n + 27, h => absurd h (by omega)
theorem Errs.noV {P : Program} {w : World} {K : PySem.W.Frag} {mg : Str → Option Value} {base : Heap} {c : Nat → Addr} {B : EB → Addr} (cM : Errs P w K mg base c B) : ∀ i, i < 11 → PySem.W.findIn K (.ref (c i)) "value" = some none
  | 0, _ => cM.v_InvalidStage.no
  | 1, _ => cM.v_InvalidSurface.no
  | 2, _ => cM.v_InvalidCell.no
  | 3, _ => cM.v_InvalidRect.no
  | 4, _ => cM.v_InvalidNumber.no
  | 5, _ => cM.v_InvalidColour.no
  | 6, _ => cM.v_InvalidPairs.no
  | 7, _ => cM.v_InvalidForm.no
  | 8, _ => cM.v_InvalidLine.no
  | 9, _ => cM.v_NotAScript.no
  | 10, _ => cM.v_NotAPicture.no
  | n + 11, h => absurd h (by omega)
theorem Errs.noI {P : Program} {w : World} {K : PySem.W.Frag} {mg : Str → Option Value} {base : Heap} {c : Nat → Addr} {B : EB → Addr} (cM : Errs P w K mg base c B) {i : Nat} (h : 11 ≤ i ∧ i < 14) : PySem.W.findIn K (.ref (c i)) "index" = some none := by
  obtain rfl | rfl | rfl : i = 11 ∨ i = 12 ∨ i = 13 := by omega
  · exact cM.v_InvalidPatch.no
  · exact cM.v_InvalidPass.no
  · exact cM.v_InvalidEdit.no
theorem Errs.noF {P : Program} {w : World} {K : PySem.W.Frag} {mg : Str → Option Value} {base : Heap} {c : Nat → Addr} {B : EB → Addr} (cM : Errs P w K mg base c B) {i : Nat} (h : 22 ≤ i ∧ i < 27) : PySem.W.findIn K (.ref (c i)) "found" = some none := by
  obtain rfl | rfl | rfl | rfl | rfl : i = 22 ∨ i = 23 ∨ i = 24 ∨ i = 25 ∨ i = 26 := by omega
  · exact cM.v_TooManyOrders.no
  · exact cM.v_TooManyCopies.no
  · exact cM.v_TooManyKeys.no
  · exact cM.v_TooManyRecolours.no
  · exact cM.v_TooManyEdits.no

end K13
namespace K13
open PySem PySem.Spec PyProof.Rows L2 Evl Lw
section
theorem count_eqU {x : V} : ∀ {xs : List V} {us : List Value}, Vals xs us → xs.all flatV = true → us.countP (eqU x) = xs.countP fun y => eqV y x
  | _, _, .nil, _ => rfl
  | y :: xs, u :: us, .cons r t, f => by
    rw [List.all_cons, Bool.and_eq_true] at f
    rw [List.countP_cons, List.countP_cons, eqU_of r f.1, count_eqU t f.2]
def rCntF (K : PySem.W.Frag) : V → List V → Hp → VK → Prop := fun x xs H Q => ∃ (p : Addr) (ys : List V) (y : V), x = .ref p ∧ xs = [y] ∧ SqL K H p ys ∧ flatV y = true ∧ ys.all flatV = true ∧ Q (.int (ys.countP (fun z => eqV z y) : Nat)) H
theorem mt_countF {X : Cx} : MtR X "list.count" (rCntF X.K) := by
  intro pins s σ H x xs v us Q I rx rxs h
  obtain ⟨p, ys, y, rfl, rfl, hs, fy, fys, q⟩ := h
  cases rx
  obtain ⟨u, rfl, ru⟩ := rxs.one
  obtain ⟨its, rv, ⟨⟨cls, dd, data, sl⟩, n, ho, hc, hdn, hd⟩, hlen⟩ := I.list hs
  simp only at hc hd
  subst hc hd
  refine call_meets PySem.F.slot_list_count ⟨_, ho, rfl⟩ PySem.F.entry_list_count (PySem.F.args_list_count_2 _ _)
    (SeqAt.list_countAt p its.toArray n dd sl u (eqU y)) ⟨ho, fun w hw => mem_eqAt ru fy rv fys w (by simpa using hw), ?_⟩
  have ec : its.toArray.toList.countP (eqU y) = ys.countP (fun z => eqV z y) := count_eqU rv fys
  refine ⟨.int (ys.countP (fun z => eqV z y) : Nat), H, I.tok _, ⟨s.toks, ?_⟩, q⟩
  show Value.int ((its.toArray.toList.countP (eqU y) : Nat) : Int) s.toks = Value.int ((ys.countP (fun z => eqV z y) : Nat) : Int) s.toks
  rw [ec]
end

end K13
namespace K13
open PySem PySem.Spec PyProof.Rows L2 Evl Lw
section
variable {P : Program} {w : World} {K : PySem.W.Frag} {mg : Str → Option Value} {base : Heap} {c : Nat → Addr} {B : EB → Addr}
def fl (i : Nat) : List V := (List.range 27).map fun j => V.bl (i == j)
theorem fl_at {i m : Nat} (hm : m < 27) : (fl i)[m]? = some (V.bl (i == m)) := by
  unfold fl
  rw [List.getElem?_map, List.getElem?_range hm]
  rfl
theorem fl_count {i : Nat} (hi : i < 27) : (fl i).countP (fun z => eqV z (V.bl true)) = 1 := by
  have e : (fl i).countP (fun z => eqV z (V.bl true)) = (List.range 27).countP fun j => i == j := by
    unfold fl
    rw [List.countP_map]
    refine List.countP_congr fun j _ => ?_
    show ((i == j) == true) = true ↔ _
    cases (i == j) <;> simp
  rw [e]
  revert i
  decide +kernel
theorem fl_flat {i : Nat} : (fl i).all flatV = true := by
  unfold fl
  rw [List.all_map]
  exact List.all_eq_true.mpr fun _ _ => rfl
theorem dps_bls {H : Hp} : ∀ bs : List Bool, DpAll K H (bs.map V.bl) (bs.map PyData.bool)
  | [] => .nil
  | b :: bs => .cons (.bl b) (dps_bls bs)
theorem shaped_bls (bs : List Bool) : SeqAt.shaped (.list (bs.map PyData.bool)) = true := by
  have h : PyData.canLayAll0 (bs.map PyData.bool) = true ∧ PyData.depthAll (bs.map PyData.bool) ≤ 1 := by
    induction bs with
    | nil => exact ⟨rfl, by decide⟩
    | cons b bs ih =>
      refine ⟨?_, ?_⟩
      · show (PyData.canLay0 (.bool b) && PyData.canLayAll0 (bs.map PyData.bool)) = true
        rw [ih.1]
        rfl
      · show max (PyData.depth (.bool b)) (PyData.depthAll (bs.map PyData.bool)) ≤ 1
        have := ih.2
        have e : PyData.depth (.bool b) ≤ 1 := by decide +revert
        omega
  unfold SeqAt.shaped
  rw [Bool.and_eq_true]
  refine ⟨h.1, decide_eq_true ?_⟩
  show PyData.depthAll (bs.map PyData.bool) + 1 ≤ 64
  omega
theorem eq_bls {H : Hp} {a b : Addr} {xs ys : List V} {Q : VK} {bs : List Bool} (ha : H a = some (.lst xs)) (hb : H b = some (.lst ys)) (ex : xs = ys) (q : Q (.bl true) H) (ey : ys = bs.map V.bl := by rfl) : rEqD K (.ref a) (.ref b) H Q := by
  subst ex ey
  refine ⟨_, _, .lst (SqL.of ha) (dps_bls bs), .lst (SqL.of hb) (dps_bls bs), shaped_bls bs, shaped_bls bs, ?_⟩
  rw [PySem.SeqAt.eqv_refl _ (SeqAt.canLay_of_shaped (shaped_bls bs))]
  exact q
/-- _law_which of an error of class i -/
def spWhich (c : Nat → Addr) : Sp := fun vs H Q _ => ∃ a i fs, i < 27 ∧ vs = [.ref a] ∧ ExV H a (c i) fs ∧ ∀ H', Ex H H' → Q (.int (i : Nat)) H'
set_option maxHeartbeats 8000000 in
theorem c_law_which (T : Txt K mg) (cM : Errs P w K mg base c B) : Cl P w K mg base CX0 2 "_law_which" s_law_which ["_law_e"] (spWhich c) := by
  refine cl_of (k := 1) T.d_law_which sc_law_which (fun vs H Q E h => ?_) (fun f cdv A outer s H vs Q E hr h => ?_)
  · obtain ⟨a, i, fs, _, rfl, _⟩ := h
    rfl
  · obtain ⟨a, i, fs, hi, rfl, hx, q⟩ := h
    have nd := sc_law_which.nd
    refine ⟨_, (pss_cons (ps_set (i := 1) nd rfl (Or.inl rfl) (pe_lst (pa_cons (pe_callB Lw.call_isV (by rfl) T.b_isinstance bt_isinstance (pa_cons (pv 0) (pa_cons (pe_glob (v := .ref _) (by rfl) cM.v_InvalidStage.nm rfl) pa_nil))) (pa_cons (pe_callB Lw.call_isV (by rfl) T.b_isinstance bt_isinstance (pa_cons (pv 0) (pa_cons (pe_glob (v := .ref _) (by rfl) cM.v_InvalidSurface.nm rfl) pa_nil))) (pa_cons (pe_callB Lw.call_isV (by rfl) T.b_isinstance bt_isinstance (pa_cons (pv 0) (pa_cons (pe_glob (v := .ref _) (by rfl) cM.v_InvalidCell.nm rfl) pa_nil))) pa_nil)))))
      (pss_cons (ps_set (i := 1) nd rfl (Or.inl rfl) (pe_op op_cat (pv 1) (pe_lst (pa_cons (pe_callB Lw.call_isV (by rfl) T.b_isinstance bt_isinstance (pa_cons (pv 0) (pa_cons (pe_glob (v := .ref _) (by rfl) cM.v_InvalidRect.nm rfl) pa_nil))) (pa_cons (pe_callB Lw.call_isV (by rfl) T.b_isinstance bt_isinstance (pa_cons (pv 0) (pa_cons (pe_glob (v := .ref _) (by rfl) cM.v_InvalidNumber.nm rfl) pa_nil))) (pa_cons (pe_callB Lw.call_isV (by rfl) T.b_isinstance bt_isinstance (pa_cons (pv 0) (pa_cons (pe_glob (v := .ref _) (by rfl) cM.v_InvalidColour.nm rfl) pa_nil))) pa_nil))))))
      (pss_cons (ps_set (i := 1) nd rfl (Or.inl rfl) (pe_op op_cat (pv 1) (pe_lst (pa_cons (pe_callB Lw.call_isV (by rfl) T.b_isinstance bt_isinstance (pa_cons (pv 0) (pa_cons (pe_glob (v := .ref _) (by rfl) cM.v_InvalidPairs.nm rfl) pa_nil))) (pa_cons (pe_callB Lw.call_isV (by rfl) T.b_isinstance bt_isinstance (pa_cons (pv 0) (pa_cons (pe_glob (v := .ref _) (by rfl) cM.v_InvalidForm.nm rfl) pa_nil))) (pa_cons (pe_callB Lw.call_isV (by rfl) T.b_isinstance bt_isinstance (pa_cons (pv 0) (pa_cons (pe_glob (v := .ref _) (by rfl) cM.v_InvalidLine.nm rfl) pa_nil))) pa_nil))))))
      (pss_cons (ps_set (i := 1) nd rfl (Or.inl rfl) (pe_op op_cat (pv 1) (pe_lst (pa_cons (pe_callB Lw.call_isV (by rfl) T.b_isinstance bt_isinstance (pa_cons (pv 0) (pa_cons (pe_glob (v := .ref _) (by rfl) cM.v_NotAScript.nm rfl) pa_nil))) (pa_cons (pe_callB Lw.call_isV (by rfl) T.b_isinstance bt_isinstance (pa_cons (pv 0) (pa_cons (pe_glob (v := .ref _) (by rfl) cM.v_NotAPicture.nm rfl) pa_nil))) (pa_cons (pe_callB Lw.call_isV (by rfl) T.b_isinstance bt_isinstance (pa_cons (pv 0) (pa_cons (pe_glob (v := .ref _) (by rfl) cM.v_InvalidPatch.nm rfl) pa_nil))) pa_nil))))))
      (pss_cons (ps_set (i := 1) nd rfl (Or.inl rfl) (pe_op op_cat (pv 1) (pe_lst (pa_cons (pe_callB Lw.call_isV (by rfl) T.b_isinstance bt_isinstance (pa_cons (pv 0) (pa_cons (pe_glob (v := .ref _) (by rfl) cM.v_InvalidPass.nm rfl) pa_nil))) (pa_cons (pe_callB Lw.call_isV (by rfl) T.b_isinstance bt_isinstance (pa_cons (pv 0) (pa_cons (pe_glob (v := .ref _) (by rfl) cM.v_InvalidEdit.nm rfl) pa_nil))) (pa_cons (pe_callB Lw.call_isV (by rfl) T.b_isinstance bt_isinstance (pa_cons (pv 0) (pa_cons (pe_glob (v := .ref _) (by rfl) cM.v_InvalidOrder.nm rfl) pa_nil))) pa_nil))))))
      (pss_cons (ps_set (i := 1) nd rfl (Or.inl rfl) (pe_op op_cat (pv 1) (pe_lst (pa_cons (pe_callB Lw.call_isV (by rfl) T.b_isinstance bt_isinstance (pa_cons (pv 0) (pa_cons (pe_glob (v := .ref _) (by rfl) cM.v_InvalidText.nm rfl) pa_nil))) (pa_cons (pe_callB Lw.call_isV (by rfl) T.b_isinstance bt_isinstance (pa_cons (pv 0) (pa_cons (pe_glob (v := .ref _) (by rfl) cM.v_DifferentStages.nm rfl) pa_nil))) (pa_cons (pe_callB Lw.call_isV (by rfl) T.b_isinstance bt_isinstance (pa_cons (pv 0) (pa_cons (pe_glob (v := .ref _) (by rfl) cM.v_UsesKeys.nm rfl) pa_nil))) pa_nil))))))
      (pss_cons (ps_set (i := 1) nd rfl (Or.inl rfl) (pe_op op_cat (pv 1) (pe_lst (pa_cons (pe_callB Lw.call_isV (by rfl) T.b_isinstance bt_isinstance (pa_cons (pv 0) (pa_cons (pe_glob (v := .ref _) (by rfl) cM.v_NoBeginning.nm rfl) pa_nil))) (pa_cons (pe_callB Lw.call_isV (by rfl) T.b_isinstance bt_isinstance (pa_cons (pv 0) (pa_cons (pe_glob (v := .ref _) (by rfl) cM.v_Guarded.nm rfl) pa_nil))) (pa_cons (pe_callB Lw.call_isV (by rfl) T.b_isinstance bt_isinstance (pa_cons (pv 0) (pa_cons (pe_glob (v := .ref _) (by rfl) cM.v_Busy.nm rfl) pa_nil))) pa_nil))))))
      (pss_cons (ps_set (i := 1) nd rfl (Or.inl rfl) (pe_op op_cat (pv 1) (pe_lst (pa_cons (pe_callB Lw.call_isV (by rfl) T.b_isinstance bt_isinstance (pa_cons (pv 0) (pa_cons (pe_glob (v := .ref _) (by rfl) cM.v_NothingToUndo.nm rfl) pa_nil))) (pa_cons (pe_callB Lw.call_isV (by rfl) T.b_isinstance bt_isinstance (pa_cons (pv 0) (pa_cons (pe_glob (v := .ref _) (by rfl) cM.v_TooManyOrders.nm rfl) pa_nil))) (pa_cons (pe_callB Lw.call_isV (by rfl) T.b_isinstance bt_isinstance (pa_cons (pv 0) (pa_cons (pe_glob (v := .ref _) (by rfl) cM.v_TooManyCopies.nm rfl) pa_nil))) pa_nil))))))
      (pss_cons (ps_set (i := 1) nd rfl (Or.inl rfl) (pe_op op_cat (pv 1) (pe_lst (pa_cons (pe_callB Lw.call_isV (by rfl) T.b_isinstance bt_isinstance (pa_cons (pv 0) (pa_cons (pe_glob (v := .ref _) (by rfl) cM.v_TooManyKeys.nm rfl) pa_nil))) (pa_cons (pe_callB Lw.call_isV (by rfl) T.b_isinstance bt_isinstance (pa_cons (pv 0) (pa_cons (pe_glob (v := .ref _) (by rfl) cM.v_TooManyRecolours.nm rfl) pa_nil))) (pa_cons (pe_callB Lw.call_isV (by rfl) T.b_isinstance bt_isinstance (pa_cons (pv 0) (pa_cons (pe_glob (v := .ref _) (by rfl) cM.v_TooManyEdits.nm rfl) pa_nil))) pa_nil))))))
      (pss_cons (ps_set (i := 2) nd rfl (Or.inl rfl) (pe_ifExp (pt_cmpR op_eq (pe_bm PySem.F.plainAttrs_list PySem.F.slot_list_count PySem.F.type_list_count mt_countF (pv 1) (pa_cons pe_bl pa_nil)) pe_int (nomark _)) (pe_bm PySem.F.plainAttrs_list PySem.F.slot_list_index PySem.F.type_list_index mt_index (pv 1) (pa_cons pe_bl pa_nil)) (pe_un un_neg pe_int)))
      (pss_cons (ps_set (i := 3) nd rfl (Or.inl rfl) (pe_lst (pa_cons (pe_callB Lw.call_isV (by rfl) T.b_isinstance bt_isinstance (pa_cons (pv 0) (pa_cons (pe_glob (v := .ref _) (by rfl) (cM.nb .v) rfl) pa_nil))) (pa_cons (pe_callB Lw.call_isV (by rfl) T.b_isinstance bt_isinstance (pa_cons (pv 0) (pa_cons (pe_glob (v := .ref _) (by rfl) (cM.nb .l) rfl) pa_nil))) (pa_cons (pe_callB Lw.call_isV (by rfl) T.b_isinstance bt_isinstance (pa_cons (pv 0) (pa_cons (pe_glob (v := .ref _) (by rfl) (cM.nb .a) rfl) pa_nil))) pa_nil)))))
      (pss_cons (ps_set (i := 4) nd rfl (Or.inl rfl) (pe_lst (pa_cons (pe_callB Lw.call_isV (by rfl) T.b_isinstance bt_isinstance (pa_cons (pv 0) (pa_cons (pe_bltn (v := .ty "ValueError") (by rfl) T.b_ValueError bt_ValueError rfl) pa_nil))) (pa_cons (pe_callB Lw.call_isV (by rfl) T.b_isinstance bt_isinstance (pa_cons (pv 0) (pa_cons (pe_bltn (v := .ty "LookupError") (by rfl) T.b_LookupError bt_LookupError rfl) pa_nil))) (pa_cons (pe_callB Lw.call_isV (by rfl) T.b_isinstance bt_isinstance (pa_cons (pv 0) (pa_cons (pe_bltn (v := .ty "ArithmeticError") (by rfl) T.b_ArithmeticError bt_ArithmeticError rfl) pa_nil))) pa_nil)))))
      (pss_cons (ps_set (i := 5) nd rfl (Or.inl rfl) (pe_lst (pa_cons (pe_chain op_le op_lt pe_int (pv 2) pe_int) (pa_cons (pe_chain op_le op_lt pe_int (pv 2) pe_int) (pa_cons (pe_cmpR op_gt (pv 2) pe_int (nomark _)) pa_nil)))))
      (pss_one (ps_ret (pe_ifExp (PW.pt (pw_and (pt_cmpR (op_eqD hr.units) (pv 3) (pv 5) (nomark _)) (pw_and1 (pt_cmpR (op_eqD hr.units) (pv 4) (pv 5) (nomark _))))) (pv 2) (pe_un un_neg pe_int))))))))))))))))), ?_⟩
    rw [show L2.start N_law_which [V.ref a] = [some (.ref a), none, none, none, none, none] from rfl]
    repeat fail "st"
    try dsimp only [List.set]
    refine ⟨a, c i, _, _, _, fs, cM.exk i hi, hx, rfl, fun u z => z, cM.wh.own i 0 hi (by decide), ?_⟩
    repeat fail "st"
    try dsimp only [List.set]
    refine ⟨a, c i, _, _, _, fs, cM.exk i hi, hx, rfl, fun u z => z, cM.wh.own i 1 hi (by decide), ?_⟩
    repeat fail "st"
    try dsimp only [List.set]
    refine ⟨a, c i, _, _, _, fs, cM.exk i hi, hx, rfl, fun u z => z, cM.wh.own i 2 hi (by decide), ?_⟩
    repeat fail "st"
    try dsimp only [List.set]
    intro l0 n_l0
    generalize hh : upd _ l0 _ = H_l0
    have e_l0 := newEx hh n_l0
    have h_l0 := newAt hh
    clear hh
    have hx := hx.up e_l0
    have E := e_l0
    have h_f0 := h_l0
    repeat fail "st"
    try dsimp only [List.set]
    refine ⟨a, c i, _, _, _, fs, cM.exk i hi, hx, rfl, fun u z => z, cM.wh.own i 3 hi (by decide), ?_⟩
    repeat fail "st"
    try dsimp only [List.set]
    refine ⟨a, c i, _, _, _, fs, cM.exk i hi, hx, rfl, fun u z => z, cM.wh.own i 4 hi (by decide), ?_⟩
    repeat fail "st"
    try dsimp only [List.set]
    refine ⟨a, c i, _, _, _, fs, cM.exk i hi, hx, rfl, fun u z => z, cM.wh.own i 5 hi (by decide), ?_⟩
    repeat fail "st"
    try dsimp only [List.set]
    intro l1 n_l1
    generalize hh : upd _ l1 _ = H_l1
    have e_l1 := newEx hh n_l1
    have h_l1 := newAt hh
    clear hh
    have hx := hx.up e_l1
    have E := E.trans e_l1
    have h_f0 := e_l1 _ _ h_f0
    repeat fail "st"
    try dsimp only [List.set]
    refine ⟨_, _, _, _, rfl, rfl, h_f0, h_l1, Nat.le_trans (Nat.le_of_ble_eq_true rfl) Lw.line_ge, ?_⟩
    intro f1 n_f1
    generalize hh : upd _ f1 _ = H_f1
    have e_f1 := newEx hh n_f1
    have h_f1 := newAt hh
    clear hh
    have hx := hx.up e_f1
    have E := E.trans e_f1
    clear e_l0 e_l1 e_f1 h_f0 h_l1
    repeat fail "st"
    try dsimp only [List.set]
    refine ⟨a, c i, _, _, _, fs, cM.exk i hi, hx, rfl, fun u z => z, cM.wh.own i 6 hi (by decide), ?_⟩
    repeat fail "st"
    try dsimp only [List.set]
    refine ⟨a, c i, _, _, _, fs, cM.exk i hi, hx, rfl, fun u z => z, cM.wh.own i 7 hi (by decide), ?_⟩
    repeat fail "st"
    try dsimp only [List.set]
    refine ⟨a, c i, _, _, _, fs, cM.exk i hi, hx, rfl, fun u z => z, cM.wh.own i 8 hi (by decide), ?_⟩
    repeat fail "st"
    try dsimp only [List.set]
    intro l2 n_l2
    generalize hh : upd _ l2 _ = H_l2
    have e_l2 := newEx hh n_l2
    have h_l2 := newAt hh
    clear hh
    have hx := hx.up e_l2
    have E := E.trans e_l2
    have h_f1 := e_l2 _ _ h_f1
    repeat fail "st"
    try dsimp only [List.set]
    refine ⟨_, _, _, _, rfl, rfl, h_f1, h_l2, Nat.le_trans (Nat.le_of_ble_eq_true rfl) Lw.line_ge, ?_⟩
    intro f2 n_f2
    generalize hh : upd _ f2 _ = H_f2
    have e_f2 := newEx hh n_f2
    have h_f2 := newAt hh
    clear hh
    have hx := hx.up e_f2
    have E := E.trans e_f2
    clear  e_l2 e_f2 h_f1 h_l2
    repeat fail "st"
    try dsimp only [List.set]
    refine ⟨a, c i, _, _, _, fs, cM.exk i hi, hx, rfl, fun u z => z, cM.wh.own i 9 hi (by decide), ?_⟩
    repeat fail "st"
    try dsimp only [List.set]
    refine ⟨a, c i, _, _, _, fs, cM.exk i hi, hx, rfl, fun u z => z, cM.wh.own i 10 hi (by decide), ?_⟩
    repeat fail "st"
    try dsimp only [List.set]
    refine ⟨a, c i, _, _, _, fs, cM.exk i hi, hx, rfl, fun u z => z, cM.wh.own i 11 hi (by decide), ?_⟩
    repeat fail "st"
    try dsimp only [List.set]
    intro l3 n_l3
    generalize hh : upd _ l3 _ = H_l3
    have e_l3 := newEx hh n_l3
    have h_l3 := newAt hh
    clear hh
    have hx := hx.up e_l3
    have E := E.trans e_l3
    have h_f2 := e_l3 _ _ h_f2
    repeat fail "st"
    try dsimp only [List.set]
    refine ⟨_, _, _, _, rfl, rfl, h_f2, h_l3, Nat.le_trans (Nat.le_of_ble_eq_true rfl) Lw.line_ge, ?_⟩
    intro f3 n_f3
    generalize hh : upd _ f3 _ = H_f3
    have e_f3 := newEx hh n_f3
    have h_f3 := newAt hh
    clear hh
    have hx := hx.up e_f3
    have E := E.trans e_f3
    clear  e_l3 e_f3 h_f2 h_l3
    repeat fail "st"
    try dsimp only [List.set]
    refine ⟨a, c i, _, _, _, fs, cM.exk i hi, hx, rfl, fun u z => z, cM.wh.own i 12 hi (by decide), ?_⟩
    repeat fail "st"
    try dsimp only [List.set]
    refine ⟨a, c i, _, _, _, fs, cM.exk i hi, hx, rfl, fun u z => z, cM.wh.own i 13 hi (by decide), ?_⟩
    repeat fail "st"
    try dsimp only [List.set]
    refine ⟨a, c i, _, _, _, fs, cM.exk i hi, hx, rfl, fun u z => z, cM.wh.own i 14 hi (by decide), ?_⟩
    repeat fail "st"
    try dsimp only [List.set]
    intro l4 n_l4
    generalize hh : upd _ l4 _ = H_l4
    have e_l4 := newEx hh n_l4
    have h_l4 := newAt hh
    clear hh
    have hx := hx.up e_l4
    have E := E.trans e_l4
    have h_f3 := e_l4 _ _ h_f3
    repeat fail "st"
    try dsimp only [List.set]
    refine ⟨_, _, _, _, rfl, rfl, h_f3, h_l4, Nat.le_trans (Nat.le_of_ble_eq_true rfl) Lw.line_ge, ?_⟩
    intro f4 n_f4
    generalize hh : upd _ f4 _ = H_f4
    have e_f4 := newEx hh n_f4
    have h_f4 := newAt hh
    clear hh
    have hx := hx.up e_f4
    have E := E.trans e_f4
    clear  e_l4 e_f4 h_f3 h_l4
    repeat fail "st"
    try dsimp only [List.set]
    refine ⟨a, c i, _, _, _, fs, cM.exk i hi, hx, rfl, fun u z => z, cM.wh.own i 15 hi (by decide), ?_⟩
    repeat fail "st"
    try dsimp only [List.set]
    refine ⟨a, c i, _, _, _, fs, cM.exk i hi, hx, rfl, fun u z => z, cM.wh.own i 16 hi (by decide), ?_⟩
    repeat fail "st"
    try dsimp only [List.set]
    refine ⟨a, c i, _, _, _, fs, cM.exk i hi, hx, rfl, fun u z => z, cM.wh.own i 17 hi (by decide), ?_⟩
    repeat fail "st"
    try dsimp only [List.set]
    intro l5 n_l5
    generalize hh : upd _ l5 _ = H_l5
    have e_l5 := newEx hh n_l5
    have h_l5 := newAt hh
    clear hh
    have hx := hx.up e_l5
    have E := E.trans e_l5
    have h_f4 := e_l5 _ _ h_f4
    repeat fail "st"
    try dsimp only [List.set]
    refine ⟨_, _, _, _, rfl, rfl, h_f4, h_l5, Nat.le_trans (Nat.le_of_ble_eq_true rfl) Lw.line_ge, ?_⟩
    intro f5 n_f5
    generalize hh : upd _ f5 _ = H_f5
    have e_f5 := newEx hh n_f5
    have h_f5 := newAt hh
    clear hh
    have hx := hx.up e_f5
    have E := E.trans e_f5
    clear  e_l5 e_f5 h_f4 h_l5
    repeat fail "st"
    try dsimp only [List.set]
    refine ⟨a, c i, _, _, _, fs, cM.exk i hi, hx, rfl, fun u z => z, cM.wh.own i 18 hi (by decide), ?_⟩
    repeat fail "st"
    try dsimp only [List.set]
    refine ⟨a, c i, _, _, _, fs, cM.exk i hi, hx, rfl, fun u z => z, cM.wh.own i 19 hi (by decide), ?_⟩
    repeat fail "st"
    try dsimp only [List.set]
    refine ⟨a, c i, _, _, _, fs, cM.exk i hi, hx, rfl, fun u z => z, cM.wh.own i 20 hi (by decide), ?_⟩
    repeat fail "st"
    try dsimp only [List.set]
    intro l6 n_l6
    generalize hh : upd _ l6 _ = H_l6
    have e_l6 := newEx hh n_l6
    have h_l6 := newAt hh
    clear hh
    have hx := hx.up e_l6
    have E := E.trans e_l6
    have h_f5 := e_l6 _ _ h_f5
    repeat fail "st"
    try dsimp only [List.set]
    refine ⟨_, _, _, _, rfl, rfl, h_f5, h_l6, Nat.le_trans (Nat.le_of_ble_eq_true rfl) Lw.line_ge, ?_⟩
    intro f6 n_f6
    generalize hh : upd _ f6 _ = H_f6
    have e_f6 := newEx hh n_f6
    have h_f6 := newAt hh
    clear hh
    have hx := hx.up e_f6
    have E := E.trans e_f6
    clear  e_l6 e_f6 h_f5 h_l6
    repeat fail "st"
    try dsimp only [List.set]
    refine ⟨a, c i, _, _, _, fs, cM.exk i hi, hx, rfl, fun u z => z, cM.wh.own i 21 hi (by decide), ?_⟩
    repeat fail "st"
    try dsimp only [List.set]
    refine ⟨a, c i, _, _, _, fs, cM.exk i hi, hx, rfl, fun u z => z, cM.wh.own i 22 hi (by decide), ?_⟩
    repeat fail "st"
    try dsimp only [List.set]
    refine ⟨a, c i, _, _, _, fs, cM.exk i hi, hx, rfl, fun u z => z, cM.wh.own i 23 hi (by decide), ?_⟩
    repeat fail "st"
    try dsimp only [List.set]
    intro l7 n_l7
    generalize hh : upd _ l7 _ = H_l7
    have e_l7 := newEx hh n_l7
    have h_l7 := newAt hh
    clear hh
    have hx := hx.up e_l7
    have E := E.trans e_l7
    have h_f6 := e_l7 _ _ h_f6
    repeat fail "st"
    try dsimp only [List.set]
    refine ⟨_, _, _, _, rfl, rfl, h_f6, h_l7, Nat.le_trans (Nat.le_of_ble_eq_true rfl) Lw.line_ge, ?_⟩
    intro f7 n_f7
    generalize hh : upd _ f7 _ = H_f7
    have e_f7 := newEx hh n_f7
    have h_f7 := newAt hh
    clear hh
    have hx := hx.up e_f7
    have E := E.trans e_f7
    clear  e_l7 e_f7 h_f6 h_l7
    repeat fail "st"
    try dsimp only [List.set]
    refine ⟨a, c i, _, _, _, fs, cM.exk i hi, hx, rfl, fun u z => z, cM.wh.own i 24 hi (by decide), ?_⟩
    repeat fail "st"
    try dsimp only [List.set]
    refine ⟨a, c i, _, _, _, fs, cM.exk i hi, hx, rfl, fun u z => z, cM.wh.own i 25 hi (by decide), ?_⟩
    repeat fail "st"
    try dsimp only [List.set]
    refine ⟨a, c i, _, _, _, fs, cM.exk i hi, hx, rfl, fun u z => z, cM.wh.own i 26 hi (by decide), ?_⟩
    repeat fail "st"
    try dsimp only [List.set]
    intro l8 n_l8
    generalize hh : upd _ l8 _ = H_l8
    have e_l8 := newEx hh n_l8
    have h_l8 := newAt hh
    clear hh
    have hx := hx.up e_l8
    have E := E.trans e_l8
    have h_f7 := e_l8 _ _ h_f7
    repeat fail "st"
    try dsimp only [List.set]
    refine ⟨_, _, _, _, rfl, rfl, h_f7, h_l8, Nat.le_trans (Nat.le_of_ble_eq_true rfl) Lw.line_ge, ?_⟩
    intro f8 n_f8
    generalize hh : upd _ f8 _ = H_f8
    have e_f8 := newEx hh n_f8
    have h_f8 := newAt hh
    clear hh
    have hx := hx.up e_f8
    have E := E.trans e_f8
    clear  e_l8 e_f8 h_f7 h_l8
    repeat fail "st"
    try dsimp only [List.set]
    have h_fl : H_f8 f8 = some (.lst (fl i)) := h_f8
    clear h_f8
    refine ⟨.inl ⟨rfl, _, SqL.of h_fl⟩, ?_⟩
    repeat fail "st"
    try dsimp only [List.set]
    refine ⟨f8, fl i, .bl true, rfl, rfl, SqL.of h_fl, rfl, fl_flat, ?_⟩
    rw [fl_count hi]
    repeat fail "st"
    try dsimp only [List.set]
    refine ⟨.inl ⟨rfl, _, SqL.of h_fl⟩, ?_⟩
    repeat fail "st"
    try dsimp only [List.set]
    refine ⟨f8, fl i, .bl true, i, .bl true, rfl, rfl, SqL.of h_fl, rfl, fl_flat, by rw [fl_at hi, beq_self_eq_true], rfl, fun m z hm hz => ?_, ?_⟩
    · rw [fl_at (by omega)] at hz
      cases hz
      rw [show (i == m) = false from by rw [beq_eq_false_iff_ne]; omega]
      rfl
    clear h_fl
    repeat fail "st"
    try dsimp only [List.set]
    refine ⟨a, c i, _, _, _, fs, cM.exk i hi, hx, rfl, fun u z => z, cM.wh.bv i hi, ?_⟩
    repeat fail "st"
    try dsimp only [List.set]
    refine ⟨a, c i, _, _, _, fs, cM.exk i hi, hx, rfl, fun u z => z, cM.wh.bl i hi, ?_⟩
    repeat fail "st"
    try dsimp only [List.set]
    refine ⟨a, c i, _, _, _, fs, cM.exk i hi, hx, rfl, fun u z => z, cM.wh.ba i hi, ?_⟩
    repeat fail "st"
    try dsimp only [List.set]
    intro b0 n_b0
    generalize hh : upd _ b0 _ = H_b0
    have e_b0 := newEx hh n_b0
    have h_b0 := newAt hh
    clear hh
    have hx := hx.up e_b0
    repeat fail "st"
    try dsimp only [List.set]
    refine ⟨a, c i, _, _, _, fs, cM.exk i hi, hx, rfl, fun u z => z, cM.wh.tv i hi, ?_⟩
    repeat fail "st"
    try dsimp only [List.set]
    refine ⟨a, c i, _, _, _, fs, cM.exk i hi, hx, rfl, fun u z => z, cM.wh.tl i hi, ?_⟩
    repeat fail "st"
    try dsimp only [List.set]
    refine ⟨a, c i, _, _, _, fs, cM.exk i hi, hx, rfl, fun u z => z, cM.wh.ta i hi, ?_⟩
    repeat fail "st"
    try dsimp only [List.set]
    intro b1 n_b1
    generalize hh : upd _ b1 _ = H_b1
    have e_b1 := newEx hh n_b1
    have h_b1 := newAt hh
    clear hh
    repeat fail "st"
    try dsimp only [List.set]
    have e1 : decide (i < 16) = decide ((i : Int) < 16) := decide_eq_decide.mpr (by omega)
    have e3 : decide (21 < i) = decide ((21 : Int) < (i : Int)) := decide_eq_decide.mpr (by omega)
    rw [e1, e3] at h_b0 h_b1
    by_cases c16 : (16 : Int) ≤ (i : Int)
    · rw [if_pos (decide_eq_true c16)]
      have e2 : decide (16 ≤ i ∧ i < 22) = decide ((i : Int) < 22) := decide_eq_decide.mpr (by omega)
      rw [e2] at h_b0 h_b1
      repeat fail "st"
      try dsimp only [List.set]
      intro du n_du
      generalize hh : upd _ du _ = H_du
      have e_du := newEx hh n_du
      have h_du := newAt hh
      clear hh
      have h_b0 := e_du _ _ (e_b1 _ _ h_b0)
      have h_b1 := e_du _ _ h_b1
      repeat fail "st"
      try dsimp only [List.set]
      refine eq_bls (bs := [_, _, _]) h_b0 h_du rfl ?_
      repeat fail "st"
      try dsimp only [List.set]
      refine eq_bls (bs := [_, _, _]) h_b1 h_du rfl ?_
      repeat fail "st"
      try dsimp only [List.set]
      exact q _ (E.trans ((e_b0.trans e_b1).trans e_du))
    · rw [if_neg (by simpa using c16)]
      have e2 : decide (16 ≤ i ∧ i < 22) = false := decide_eq_false (by omega)
      rw [e2] at h_b0 h_b1
      repeat fail "st"
      try dsimp only [List.set]
      intro du n_du
      generalize hh : upd _ du _ = H_du
      have e_du := newEx hh n_du
      have h_du := newAt hh
      clear hh
      have h_b0 := e_du _ _ (e_b1 _ _ h_b0)
      have h_b1 := e_du _ _ h_b1
      repeat fail "st"
      try dsimp only [List.set]
      refine eq_bls (bs := [_, _, _]) h_b0 h_du rfl ?_
      repeat fail "st"
      try dsimp only [List.set]
      refine eq_bls (bs := [_, _, _]) h_b1 h_du rfl ?_
      repeat fail "st"
      try dsimp only [List.set]
      exact q _ (E.trans ((e_b0.trans e_b1).trans e_du))
end

end K13
namespace K13
open PySem PySem.Spec PyProof.Rows L2 Evl Lw
section
variable {P : Program} {w : World} {K : PySem.W.Frag} {mg : Str → Option Value} {base : Heap} {c : Nat → Addr} {B : EB → Addr}
/-- a value that is equal to itself -/
def Thing (K : PySem.W.Frag) (H : Hp) (v : V) : Prop := (∃ d, Dp K H v d ∧ SeqAt.shaped d = true ∧ PyData.eqv d d = true) ∨ ∃ a, v = .ref a ∧ H a = some (.dK [])
theorem Thing.up {H H' : Hp} {v : V} (e : Ex H H') (h : Thing K H v) : Thing K H' v := by
  rcases h with ⟨d, h, s⟩ | ⟨a, rfl, h⟩
  · exact .inl ⟨d, dpUp e h, s⟩
  · exact .inr ⟨a, rfl, e _ _ h⟩
def rEqX (K : PySem.W.Frag) : R2 := fun x y H Q => rEqD K x y H Q ∨ rEqDA x y H Q
theorem op_eqX {X : Cx} (hu : X.A.units + 64 < cLine) : OpR X (compareOp .Eq) (rEqX X.K) := by
  intro pins s σ H x y v u Q I rx ry h
  rcases h with h | h
  · exact op_eqD hu pins s σ H x y v u Q I rx ry h
  · exact op_eq_dictA (by omega) pins s σ H x y v u Q I rx ry h
theorem Thing.eq {H : Hp} {v : V} {Q : VK} (h : Thing K H v) (q : Q (.bl true) H) : rEqX K v v H Q := by
  rcases h with ⟨d, h, s, e⟩ | ⟨a, rfl, h⟩
  · exact .inl ⟨d, d, h, h, s, s, by rw [e]; exact q⟩
  · exact .inr ⟨a, a, [], [], rfl, rfl, h, h, rfl, (fun p m => by cases m), q⟩
/-- errors in the heap, their classes by number -/
def Exs (c : Nat → Addr) (F : List (Str × V) → Prop) (Pn : Nat → Prop) (H : Hp) (L : List (Addr × Nat)) : Prop := ∀ p ∈ L, Pn p.2 ∧ ∃ fs, F fs ∧ ExV H p.1 (c p.2) fs
theorem Exs.nil {F : List (Str × V) → Prop} {Pn : Nat → Prop} {H : Hp} : Exs c F Pn H [] := fun p m => by cases m
theorem Exs.up {F : List (Str × V) → Prop} {Pn : Nat → Prop} {H H' : Hp} {L : List (Addr × Nat)} (e : Ex H H') (h : Exs c F Pn H L) : Exs c F Pn H' L := fun p m => ⟨(h p m).1, let ⟨fs, f1, f2⟩ := (h p m).2; ⟨fs, f1, f2.up e⟩⟩
theorem Exs.snoc {F : List (Str × V) → Prop} {Pn : Nat → Prop} {H H' : Hp} {L : List (Addr × Nat)} {a : Addr} {i : Nat} {fs : List (Str × V)} (h : Exs c F Pn H L) (e : Ex H H') (x : ExV H' a (c i) fs) (hi : Pn i) (hf : F fs) : Exs c F Pn H' (L ++ [(a, i)]) := fun p m => by
  rcases List.mem_append.mp m with m | m
  · exact ⟨(h p m).1, let ⟨fs, f1, f2⟩ := (h p m).2; ⟨fs, f1, f2.up e⟩⟩
  · obtain rfl := List.mem_singleton.mp m
    exact ⟨hi, fs, hf, x⟩
theorem Exs.at {F : List (Str × V) → Prop} {Pn : Nat → Prop} {H : Hp} {L : List (Addr × Nat)} (h : Exs c F Pn H L) {j : Nat} {x : V} (hx : (L.map fun p => V.ref p.1)[j]? = some x) : ∃ p, L[j]? = some p ∧ x = .ref p.1 ∧ Pn p.2 ∧ ∃ fs, F fs ∧ ExV H p.1 (c p.2) fs := by
  rw [List.getElem?_map] at hx
  cases e : L[j]? with
  | none => rw [e] at hx; cases hx
  | some p =>
    rw [e] at hx
    cases hx
    exact ⟨p, rfl, rfl, h p (List.mem_of_getElem? e)⟩
theorem ys_map {α : Type} {L : List α} {ys : List V} {g : α → V} (hl : ys.length = L.length) (h : ∀ (j : Nat) (y : V), ys[j]? = some y → ∃ p : α, L[j]? = some p ∧ y = g p) : ys = L.map g := by
  refine List.ext_getElem? fun j => ?_
  rw [List.getElem?_map]
  cases e : ys[j]? with
  | some y =>
    obtain ⟨p, e1, e2⟩ := h j y e
    rw [e1, e2]
    rfl
  | none =>
    have n := List.getElem?_eq_none_iff.mp e
    rw [List.getElem?_eq_none (by omega)]
    rfl
theorem dps_nat {H : Hp} : ∀ ns : List Nat, DpAll K H (ns.map fun n => V.int (n : Nat)) (ns.map fun n => PyData.int (n : Nat))
  | [] => .nil
  | n :: ns => .cons (.int n) (dps_nat ns)
theorem dp_whs {H : Hp} {l : Addr} {L : List (Addr × Nat)} (h : H l = some (.lst (L.map fun p => V.int (p.2 : Nat)))) : Dp K H (.ref l) (.list ((L.map (·.2)).map fun n => PyData.int (n : Nat))) := by
  refine .lst (SqL.of h) ?_
  have e : (L.map fun p => V.int (p.2 : Nat)) = (L.map (·.2)).map fun n => V.int (n : Nat) := by rw [List.map_map]; rfl
  rw [e]
  exact dps_nat _
theorem dp_nats {H : Hp} {l : Addr} {ns : List Nat} {xs : List V} (h : H l = some (.lst xs)) (e : xs = ns.map fun n => V.int (n : Nat)) : Dp K H (.ref l) (.list (ns.map fun n => PyData.int (n : Nat))) := by
  subst e
  exact .lst (SqL.of h) (dps_nat _)
theorem tC_at {v : V} {σ : L2.St} {H : Hp} {Q : VK} (h : Q v H) : tC v σ H Q := h
theorem repK {H : Hp} {l : Addr} {x : V} {n : Nat} {m : Int} {Q : VK} (h : H l = some (.lst [x])) (hn : n ≤ 100) (q : ∀ p, H p = none → Q (.ref p) (upd H p (.lst (List.replicate n x)))) (em : m = (n : Int) := by rfl) : rRep (.ref l) (.int m) H Q := by
  subst em
  refine ⟨l, (n : Nat), [x], rfl, rfl, h, by omega, by omega, ?_, fun p m => ?_⟩
  · rw [Int.toNat_natCast]
    refine Nat.le_trans ?_ line_ge
    show 1 * n ≤ 100000
    omega
  · rw [Int.toNat_natCast, List.flatten_replicate_singleton]
    exact q p m
theorem dps_rep {H : Hp} {v : V} {d : PyData} (h : Dp K H v d) : ∀ n, DpAll K H (List.replicate n v) (List.replicate n d)
  | 0 => .nil
  | n + 1 => .cons h (dps_rep h n)
end

end K13
namespace K13
open PySem PySem.Spec PyProof.Rows L2 Evl Lw
section
variable {P : Program} {w : World} {K : PySem.W.Frag} {mg : Str → Option Value} {base : Heap} {c : Nat → Addr} {B : EB → Addr}
def spValues (K : PySem.W.Frag) : Sp := fun vs H Q _ => ∃ v, vs = [v] ∧ Thing K H v ∧ ∀ H', Ex H H' → Q (.bl true) H'
set_option maxHeartbeats 20000000 in
theorem c_law_values_right (T : Txt K mg) (cM : Errs P w K mg base c B) : Cl P w K mg base CX0 4 "_law_values_right" s_law_values_right ["_law_thing"] (spValues K) := by
  refine cl_of (k := 3) T.d_law_values_right sc_law_values_right (fun vs H Q E h => ?_) (fun f cdv A outer s H vs Q E hr h => ?_)
  · obtain ⟨v, rfl, _⟩ := h
    rfl
  · obtain ⟨v, rfl, tv, q⟩ := h
    have nd := sc_law_values_right.nd
    have S : Exs c (fun fs => fs = ([("value", v)] : List (Str × V))) (fun i => i < 11) H [] := Exs.nil
    have E := Ex.refl H
    refine ⟨_, (pss_cons (ps_set (i := 1) nd rfl (Or.inl rfl) (pe_lst (pa_cons (Lw.pe_mkV cM.v_InvalidStage (hr.mono (by decide)) (by rfl) (pa_cons (pv 0) pa_nil)) (pa_cons (Lw.pe_mkV cM.v_InvalidSurface (hr.mono (by decide)) (by rfl) (pa_cons (pv 0) pa_nil)) (pa_cons (Lw.pe_mkV cM.v_InvalidCell (hr.mono (by decide)) (by rfl) (pa_cons (pv 0) pa_nil)) (pa_cons (Lw.pe_mkV cM.v_InvalidRect (hr.mono (by decide)) (by rfl) (pa_cons (pv 0) pa_nil)) (pa_cons (Lw.pe_mkV cM.v_InvalidNumber (hr.mono (by decide)) (by rfl) (pa_cons (pv 0) pa_nil)) pa_nil)))))))
      (pss_cons (ps_set (i := 1) nd rfl (Or.inl rfl) (pe_op op_cat (pv 1) (pe_lst (pa_cons (Lw.pe_mkV cM.v_InvalidColour (hr.mono (by decide)) (by rfl) (pa_cons (pv 0) pa_nil)) (pa_cons (Lw.pe_mkV cM.v_InvalidPairs (hr.mono (by decide)) (by rfl) (pa_cons (pv 0) pa_nil)) (pa_cons (Lw.pe_mkV cM.v_InvalidForm (hr.mono (by decide)) (by rfl) (pa_cons (pv 0) pa_nil)) (pa_cons (Lw.pe_mkV cM.v_InvalidLine (hr.mono (by decide)) (by rfl) (pa_cons (pv 0) pa_nil)) pa_nil)))))))
      (pss_cons (ps_set (i := 1) nd rfl (Or.inl rfl) (pe_op op_cat (pv 1) (pe_lst (pa_cons (Lw.pe_mkV cM.v_NotAScript (hr.mono (by decide)) (by rfl) (pa_cons (pv 0) pa_nil)) (pa_cons (Lw.pe_mkV cM.v_NotAPicture (hr.mono (by decide)) (by rfl) (pa_cons (pv 0) pa_nil)) pa_nil)))))
      (pss_cons (ps_set (i := 2) nd rfl (Or.inl rfl) (pe_lst (pa_cons (Lw.pe_mkVK cM.v_InvalidStage (hr.mono (by decide)) (by rfl) (pk_cons (pv 0) pk_nil)) (pa_cons (Lw.pe_mkVK cM.v_InvalidSurface (hr.mono (by decide)) (by rfl) (pk_cons (pv 0) pk_nil)) (pa_cons (Lw.pe_mkVK cM.v_InvalidCell (hr.mono (by decide)) (by rfl) (pk_cons (pv 0) pk_nil)) (pa_cons (Lw.pe_mkVK cM.v_InvalidRect (hr.mono (by decide)) (by rfl) (pk_cons (pv 0) pk_nil)) pa_nil))))))
      (pss_cons (ps_set (i := 2) nd rfl (Or.inl rfl) (pe_op op_cat (pv 2) (pe_lst (pa_cons (Lw.pe_mkVK cM.v_InvalidNumber (hr.mono (by decide)) (by rfl) (pk_cons (pv 0) pk_nil)) (pa_cons (Lw.pe_mkVK cM.v_InvalidColour (hr.mono (by decide)) (by rfl) (pk_cons (pv 0) pk_nil)) (pa_cons (Lw.pe_mkVK cM.v_InvalidPairs (hr.mono (by decide)) (by rfl) (pk_cons (pv 0) pk_nil)) pa_nil))))))
      (pss_cons (ps_set (i := 2) nd rfl (Or.inl rfl) (pe_op op_cat (pv 2) (pe_lst (pa_cons (Lw.pe_mkVK cM.v_InvalidForm (hr.mono (by decide)) (by rfl) (pk_cons (pv 0) pk_nil)) (pa_cons (Lw.pe_mkVK cM.v_InvalidLine (hr.mono (by decide)) (by rfl) (pk_cons (pv 0) pk_nil)) (pa_cons (Lw.pe_mkVK cM.v_NotAScript (hr.mono (by decide)) (by rfl) (pk_cons (pv 0) pk_nil)) pa_nil))))))
      (pss_cons (ps_set (i := 3) nd rfl (Or.inl rfl) (pe_op op_cat (pe_op op_cat (pv 1) (pv 2)) (pe_lst (pa_cons (Lw.pe_mkVK cM.v_NotAPicture (hr.mono (by decide)) (by rfl) (pk_cons (pv 0) pk_nil)) pa_nil))))
      (pss_one (ps_ret (pe_and (pe_callB (cr_all rfl) (by rfl) T.b_all bt_all (pa_cons (pe_lc (own := [("_law_e", 4)]) (g := gName 4) (tt := tYes) rfl nd (pi_list (pv 3)) (L2.blkOk_by (N := N_law_values_right) (sc := defScope s_law_values_right) (by decide +kernel)) (fun _ _ _ _ _ => (pg_name (i := 4) nd rfl (Or.inl rfl))) (fun _ _ _ _ _ => pts_nil) (fun _ _ _ _ _ => (pe_cmpR (op_eqX hr.units : OpR _ _ (rEqX K)) (Lw.pe_xv (pv 4) : PE _ _ (Lw.tXv K "value" _)) (pv 0) (nomark _)))) pa_nil)) (pe_one (pe_cmpR (op_eqD hr.units) (pe_lc (own := [("_law_e", 4)]) (g := gName 4) (tt := tYes) rfl nd (pi_list (pv 3)) (L2.blkOk_by (N := N_law_values_right) (sc := defScope s_law_values_right) (by decide +kernel)) (fun _ _ _ _ _ => (pg_name (i := 4) nd rfl (Or.inl rfl))) (fun _ _ _ _ _ => pts_nil) (fun _ _ _ _ _ => (Lw.pe_cl (c_law_which T cM) b_law_which hr (by decide) (by rfl) pass0 (pa_cons (pv 4) pa_nil)))) (pe_op op_rep (pe_listRg rfl (by rfl) T.b_list (prg_1 (by rfl) T.b_range pe_int)) pe_int) (nomark _))))))))))))), ?_⟩
    rw [show L2.start N_law_values_right [v] = [some v, none, none, none, none] from rfl]
    repeat fail "st"
    try dsimp only [List.set]
    intro a0 H0 e0 x0
    have S := S.snoc e0 x0 (by decide) (by first | rfl | trivial)
    simp only [List.nil_append, List.cons_append] at S
    have E := E.trans e0
    clear e0 x0
    repeat fail "st"
    try dsimp only [List.set]
    intro a1 H1 e1 x1
    have S := S.snoc e1 x1 (by decide) (by first | rfl | trivial)
    simp only [List.nil_append, List.cons_append] at S
    have E := E.trans e1
    clear e1 x1
    repeat fail "st"
    try dsimp only [List.set]
    intro a2 H2 e2 x2
    have S := S.snoc e2 x2 (by decide) (by first | rfl | trivial)
    simp only [List.nil_append, List.cons_append] at S
    have E := E.trans e2
    clear e2 x2
    repeat fail "st"
    try dsimp only [List.set]
    intro a3 H3 e3 x3
    have S := S.snoc e3 x3 (by decide) (by first | rfl | trivial)
    simp only [List.nil_append, List.cons_append] at S
    have E := E.trans e3
    clear e3 x3
    repeat fail "st"
    try dsimp only [List.set]
    intro a4 H4 e4 x4
    have S := S.snoc e4 x4 (by decide) (by first | rfl | trivial)
    simp only [List.nil_append, List.cons_append] at S
    have E := E.trans e4
    clear e4 x4
    repeat fail "st"
    try dsimp only [List.set]
    intro s0 n_s0
    generalize hh : upd _ s0 _ = H_s0
    have e_s0 := newEx hh n_s0
    have h_s0 := newAt hh
    clear hh
    have S := S.up e_s0
    have E := E.trans e_s0
    clear e_s0
    repeat fail "st"
    try dsimp only [List.set]
    intro a5 H5 e5 x5
    have S := S.snoc e5 x5 (by decide) (by first | rfl | trivial)
    simp only [List.nil_append, List.cons_append] at S
    have E := E.trans e5
    have h_s0 := e5 _ _ h_s0
    clear e5 x5
    repeat fail "st"
    try dsimp only [List.set]
    intro a6 H6 e6 x6
    have S := S.snoc e6 x6 (by decide) (by first | rfl | trivial)
    simp only [List.nil_append, List.cons_append] at S
    have E := E.trans e6
    have h_s0 := e6 _ _ h_s0
    clear e6 x6
    repeat fail "st"
    try dsimp only [List.set]
    intro a7 H7 e7 x7
    have S := S.snoc e7 x7 (by decide) (by first | rfl | trivial)
    simp only [List.nil_append, List.cons_append] at S
    have E := E.trans e7
    have h_s0 := e7 _ _ h_s0
    clear e7 x7
    repeat fail "st"
    try dsimp only [List.set]
    intro a8 H8 e8 x8
    have S := S.snoc e8 x8 (by decide) (by first | rfl | trivial)
    simp only [List.nil_append, List.cons_append] at S
    have E := E.trans e8
    have h_s0 := e8 _ _ h_s0
    clear e8 x8
    repeat fail "st"
    try dsimp only [List.set]
    intro s1 n_s1
    generalize hh : upd _ s1 _ = H_s1
    have e_s1 := newEx hh n_s1
    have h_s1 := newAt hh
    clear hh
    have S := S.up e_s1
    have E := E.trans e_s1
    have h_s0 := e_s1 _ _ h_s0
    clear e_s1
    repeat fail "st"
    try dsimp only [List.set]
    refine ⟨_, _, _, _, rfl, rfl, h_s0, h_s1, Nat.le_trans (Nat.le_of_ble_eq_true rfl) Lw.line_ge, ?_⟩
    intro s2 n_s2
    generalize hh : upd _ s2 _ = H_s2
    have e_s2 := newEx hh n_s2
    have h_s2 := newAt hh
    clear hh
    have S := S.up e_s2
    have E := E.trans e_s2
    have h_s0 := e_s2 _ _ h_s0
    have h_s1 := e_s2 _ _ h_s1
    clear e_s2
    repeat fail "st"
    try dsimp only [List.set]
    clear h_s0
    clear h_s1
    intro a9 H9 e9 x9
    have S := S.snoc e9 x9 (by decide) (by first | rfl | trivial)
    simp only [List.nil_append, List.cons_append] at S
    have E := E.trans e9
    have h_s2 := e9 _ _ h_s2
    clear e9 x9
    repeat fail "st"
    try dsimp only [List.set]
    intro a10 H10 e10 x10
    have S := S.snoc e10 x10 (by decide) (by first | rfl | trivial)
    simp only [List.nil_append, List.cons_append] at S
    have E := E.trans e10
    have h_s2 := e10 _ _ h_s2
    clear e10 x10
    repeat fail "st"
    try dsimp only [List.set]
    intro s3 n_s3
    generalize hh : upd _ s3 _ = H_s3
    have e_s3 := newEx hh n_s3
    have h_s3 := newAt hh
    clear hh
    have S := S.up e_s3
    have E := E.trans e_s3
    have h_s2 := e_s3 _ _ h_s2
    clear e_s3
    repeat fail "st"
    try dsimp only [List.set]
    refine ⟨_, _, _, _, rfl, rfl, h_s2, h_s3, Nat.le_trans (Nat.le_of_ble_eq_true rfl) Lw.line_ge, ?_⟩
    intro s4 n_s4
    generalize hh : upd _ s4 _ = H_s4
    have e_s4 := newEx hh n_s4
    have h_s4 := newAt hh
    clear hh
    have S := S.up e_s4
    have E := E.trans e_s4
    have h_s2 := e_s4 _ _ h_s2
    have h_s3 := e_s4 _ _ h_s3
    clear e_s4
    repeat fail "st"
    try dsimp only [List.set]
    clear h_s2
    clear h_s3
    intro a11 H11 e11 x11
    have S := S.snoc e11 x11 (by decide) (by first | rfl | trivial)
    simp only [List.nil_append, List.cons_append] at S
    have E := E.trans e11
    have h_s4 := e11 _ _ h_s4
    clear e11 x11
    repeat fail "st"
    try dsimp only [List.set]
    intro a12 H12 e12 x12
    have S := S.snoc e12 x12 (by decide) (by first | rfl | trivial)
    simp only [List.nil_append, List.cons_append] at S
    have E := E.trans e12
    have h_s4 := e12 _ _ h_s4
    clear e12 x12
    repeat fail "st"
    try dsimp only [List.set]
    intro a13 H13 e13 x13
    have S := S.snoc e13 x13 (by decide) (by first | rfl | trivial)
    simp only [List.nil_append, List.cons_append] at S
    have E := E.trans e13
    have h_s4 := e13 _ _ h_s4
    clear e13 x13
    repeat fail "st"
    try dsimp only [List.set]
    intro a14 H14 e14 x14
    have S := S.snoc e14 x14 (by decide) (by first | rfl | trivial)
    simp only [List.nil_append, List.cons_append] at S
    have E := E.trans e14
    have h_s4 := e14 _ _ h_s4
    clear e14 x14
    repeat fail "st"
    try dsimp only [List.set]
    intro n0 n_n0
    generalize hh : upd _ n0 _ = H_n0
    have e_n0 := newEx hh n_n0
    have h_n0 := newAt hh
    clear hh
    have S := S.up e_n0
    have E := E.trans e_n0
    have h_s4 := e_n0 _ _ h_s4
    clear e_n0
    repeat fail "st"
    try dsimp only [List.set]
    intro a15 H15 e15 x15
    have S := S.snoc e15 x15 (by decide) (by first | rfl | trivial)
    simp only [List.nil_append, List.cons_append] at S
    have E := E.trans e15
    have h_s4 := e15 _ _ h_s4
    have h_n0 := e15 _ _ h_n0
    clear e15 x15
    repeat fail "st"
    try dsimp only [List.set]
    intro a16 H16 e16 x16
    have S := S.snoc e16 x16 (by decide) (by first | rfl | trivial)
    simp only [List.nil_append, List.cons_append] at S
    have E := E.trans e16
    have h_s4 := e16 _ _ h_s4
    have h_n0 := e16 _ _ h_n0
    clear e16 x16
    repeat fail "st"
    try dsimp only [List.set]
    intro a17 H17 e17 x17
    have S := S.snoc e17 x17 (by decide) (by first | rfl | trivial)
    simp only [List.nil_append, List.cons_append] at S
    have E := E.trans e17
    have h_s4 := e17 _ _ h_s4
    have h_n0 := e17 _ _ h_n0
    clear e17 x17
    repeat fail "st"
    try dsimp only [List.set]
    intro n1 n_n1
    generalize hh : upd _ n1 _ = H_n1
    have e_n1 := newEx hh n_n1
    have h_n1 := newAt hh
    clear hh
    have S := S.up e_n1
    have E := E.trans e_n1
    have h_s4 := e_n1 _ _ h_s4
    have h_n0 := e_n1 _ _ h_n0
    clear e_n1
    repeat fail "st"
    try dsimp only [List.set]
    refine ⟨_, _, _, _, rfl, rfl, h_n0, h_n1, Nat.le_trans (Nat.le_of_ble_eq_true rfl) Lw.line_ge, ?_⟩
    intro n2 n_n2
    generalize hh : upd _ n2 _ = H_n2
    have e_n2 := newEx hh n_n2
    have h_n2 := newAt hh
    clear hh
    have S := S.up e_n2
    have E := E.trans e_n2
    have h_s4 := e_n2 _ _ h_s4
    have h_n0 := e_n2 _ _ h_n0
    have h_n1 := e_n2 _ _ h_n1
    clear e_n2
    repeat fail "st"
    try dsimp only [List.set]
    clear h_n0
    clear h_n1
    intro a18 H18 e18 x18
    have S := S.snoc e18 x18 (by decide) (by first | rfl | trivial)
    simp only [List.nil_append, List.cons_append] at S
    have E := E.trans e18
    have h_s4 := e18 _ _ h_s4
    have h_n2 := e18 _ _ h_n2
    clear e18 x18
    repeat fail "st"
    try dsimp only [List.set]
    intro a19 H19 e19 x19
    have S := S.snoc e19 x19 (by decide) (by first | rfl | trivial)
    simp only [List.nil_append, List.cons_append] at S
    have E := E.trans e19
    have h_s4 := e19 _ _ h_s4
    have h_n2 := e19 _ _ h_n2
    clear e19 x19
    repeat fail "st"
    try dsimp only [List.set]
    intro a20 H20 e20 x20
    have S := S.snoc e20 x20 (by decide) (by first | rfl | trivial)
    simp only [List.nil_append, List.cons_append] at S
    have E := E.trans e20
    have h_s4 := e20 _ _ h_s4
    have h_n2 := e20 _ _ h_n2
    clear e20 x20
    repeat fail "st"
    try dsimp only [List.set]
    intro n3 n_n3
    generalize hh : upd _ n3 _ = H_n3
    have e_n3 := newEx hh n_n3
    have h_n3 := newAt hh
    clear hh
    have S := S.up e_n3
    have E := E.trans e_n3
    have h_s4 := e_n3 _ _ h_s4
    have h_n2 := e_n3 _ _ h_n2
    clear e_n3
    repeat fail "st"
    try dsimp only [List.set]
    refine ⟨_, _, _, _, rfl, rfl, h_n2, h_n3, Nat.le_trans (Nat.le_of_ble_eq_true rfl) Lw.line_ge, ?_⟩
    intro n4 n_n4
    generalize hh : upd _ n4 _ = H_n4
    have e_n4 := newEx hh n_n4
    have h_n4 := newAt hh
    clear hh
    have S := S.up e_n4
    have E := E.trans e_n4
    have h_s4 := e_n4 _ _ h_s4
    have h_n2 := e_n4 _ _ h_n2
    have h_n3 := e_n4 _ _ h_n3
    clear e_n4
    repeat fail "st"
    try dsimp only [List.set]
    clear h_n2
    clear h_n3
    refine ⟨_, _, _, _, rfl, rfl, h_s4, h_n4, Nat.le_trans (Nat.le_of_ble_eq_true rfl) Lw.line_ge, ?_⟩
    intro m0 n_m0
    generalize hh : upd _ m0 _ = H_m0
    have e_m0 := newEx hh n_m0
    have h_m0 := newAt hh
    clear hh
    have S := S.up e_m0
    have E := E.trans e_m0
    have h_s4 := e_m0 _ _ h_s4
    have h_n4 := e_m0 _ _ h_n4
    clear e_m0
    repeat fail "st"
    try dsimp only [List.set]
    clear h_s4
    clear h_n4
    intro a21 H21 e21 x21
    have S := S.snoc e21 x21 (by decide) (by first | rfl | trivial)
    simp only [List.nil_append, List.cons_append] at S
    have E := E.trans e21
    have h_m0 := e21 _ _ h_m0
    clear e21 x21
    repeat fail "st"
    try dsimp only [List.set]
    intro m1 n_m1
    generalize hh : upd _ m1 _ = H_m1
    have e_m1 := newEx hh n_m1
    have h_m1 := newAt hh
    clear hh
    have S := S.up e_m1
    have E := E.trans e_m1
    have h_m0 := e_m1 _ _ h_m0
    clear e_m1
    repeat fail "st"
    try dsimp only [List.set]
    refine ⟨_, _, _, _, rfl, rfl, h_m0, h_m1, Nat.le_trans (Nat.le_of_ble_eq_true rfl) Lw.line_ge, ?_⟩
    intro m2 n_m2
    generalize hh : upd _ m2 _ = H_m2
    have e_m2 := newEx hh n_m2
    have h_m2 := newAt hh
    clear hh
    have S := S.up e_m2
    have E := E.trans e_m2
    have h_m0 := e_m2 _ _ h_m0
    have h_m1 := e_m2 _ _ h_m1
    clear e_m2
    repeat fail "st"
    try dsimp only [List.set]
    clear h_m0
    clear h_m1
    have tv := tv.up E
    replace S : Exs c (fun fs => fs = ([("value", v)] : List (Str × V))) (fun i => i < 11) _ [(a0, 0), (a1, 1), (a2, 2), (a3, 3), (a4, 4), (a5, 5), (a6, 6), (a7, 7), (a8, 8), (a9, 9), (a10, 10), (a11, 0), (a12, 1), (a13, 2), (a14, 3), (a15, 4), (a16, 5), (a17, 6), (a18, 7), (a19, 8), (a20, 9), (a21, 10)] := S
    generalize hL : ([(a0, 0), (a1, 1), (a2, 2), (a3, 3), (a4, 4), (a5, 5), (a6, 6), (a7, 7), (a8, 8), (a9, 9), (a10, 10), (a11, 0), (a12, 1), (a13, 2), (a14, 3), (a15, 4), (a16, 5), (a17, 6), (a18, 7), (a19, 8), (a20, 9), (a21, 10)] : List (Addr × Nat)) = L at S
    replace h_m2 : H_m2 m2 = some (.lst (L.map fun p => V.ref p.1)) := by rw [← hL]; exact h_m2
    have hlen : L.length = 22 := by rw [← hL]; rfl
    have his : L.map (·.2) = [0, 1, 2, 3, 4, 5, 6, 7, 8, 9, 10, 0, 1, 2, 3, 4, 5, 6, 7, 8, 9, 10] := by rw [← hL]; rfl
    clear hL
    intro D hD
    refine lcL (All fun _ v _ => v = V.bl true) (all_mono fun _ _ _ _ _ h => h) hD (SqL.of h_m2) (by rw [List.length_map, hlen]; decide) (fun j x hj G eG Q1 Q2 q1 q2 => ?_) (fun G os eG hl hDG hp => ?_)
    · obtain ⟨p, _, rfl, hp, fs, rfl, hx⟩ := S.at hj
      repeat fail "st"
      refine ⟨p.1, c p.2, _, v, cM.exk _ (by omega), cM.noV _ hp, rfl, hx.up eG, rfl, ?_⟩
      repeat fail "st"
      refine (tv.up eG).eq ?_
      exact q1 _ _ (Ex.refl _) ⟨_, rfl, rfl⟩
    obtain ⟨ys, ey, ly, hy⟩ := All.end hp
    rw [ey] at hDG
    obtain ⟨bs, rfl, hb⟩ := all_true (ys := ys) (fun y hy1 => by
      obtain ⟨i, hi, e⟩ := List.getElem_of_mem hy1
      exact hy i y (by rw [List.getElem?_eq_getElem hi, e]))
    have S := S.up eG
    have E := E.trans eG
    have h_m2 := eG _ _ h_m2
    refine ⟨D, bs, rfl, SqL.of hDG, ?_⟩
    rw [hb]
    clear hDG hp hy
    repeat fail "st"
    intro D2 hD2
    refine lcL (All fun j v _ => ∃ p, L[j]? = some p ∧ v = V.int (p.2 : Nat)) (all_mono fun _ _ _ _ _ h => h) hD2 (SqL.of h_m2) (by rw [List.length_map, hlen]; decide) (fun j x hj G eG Q1 Q2 q1 q2 => ?_) (fun G_D2 os eG hl hDG hp => ?_)
    · obtain ⟨p, hpj, rfl, hp, fs, _, hx⟩ := S.at hj
      refine ⟨rfl, ?_⟩
      repeat fail "st"
      refine ⟨p.1, p.2, _, (by omega), rfl, hx.up eG, fun G2 e2 => ?_⟩
      exact q1 _ _ e2 ⟨_, rfl, p, hpj, rfl⟩
    obtain ⟨ys, ey, ly, hy⟩ := All.end hp
    rw [ey] at hDG
    rw [hl, List.length_map] at ly
    obtain rfl := ys_map ly hy
    have h_D2 := hDG
    clear hDG hp hy
    have S := S.up eG
    have E := E.trans eG
    have h_m2 := eG _ _ h_m2
    clear eG
    repeat fail "st"
    try dsimp only [List.set]
    have d_D2 := dp_whs (K := K) h_D2
    rw [his] at d_D2
    refine ⟨RgOk.of_le (by decide) (by decide) (by decide) (by decide), ?_⟩
    intro rg n_rg
    generalize hh : upd _ rg _ = H_rg
    have e_rg := newEx hh n_rg
    have h_rg := newAt hh
    clear hh
    have S := S.up e_rg
    have E := E.trans e_rg
    have h_m2 := e_rg _ _ h_m2
    have h_D2 := e_rg _ _ h_D2
    clear e_rg
    repeat fail "st"
    try dsimp only [List.set]
    refine tC_at ?_
    refine rep2 h_rg (by decide) ?_
    intro rr n_rr
    generalize hh : upd _ rr _ = H_rr
    have e_rr := newEx hh n_rr
    have h_rr := newAt hh
    clear hh
    have S := S.up e_rr
    have E := E.trans e_rr
    have h_m2 := e_rr _ _ h_m2
    have h_D2 := e_rr _ _ h_D2
    have h_rg := e_rr _ _ h_rg
    clear e_rr
    repeat fail "st"
    try dsimp only [List.set]
    have d_rr := dp_nats (K := K) (ns := [0, 1, 2, 3, 4, 5, 6, 7, 8, 9, 10, 0, 1, 2, 3, 4, 5, 6, 7, 8, 9, 10]) h_rr rfl
    have d_D2 := dp_whs (K := K) h_D2
    rw [his] at d_D2
    refine ⟨_, _, d_D2, d_rr, rfl, rfl, ?_⟩
    rw [PySem.SeqAt.eqv_refl _ rfl]
    repeat fail "st"
    try dsimp only [List.set]
    exact q _ E
end

end K13
namespace K13
open PySem PySem.Spec PyProof.Rows L2 Evl Lw
section
variable {P : Program} {w : World} {K : PySem.W.Frag} {mg : Str → Option Value} {base : Heap} {c : Nat → Addr} {B : EB → Addr}
def spOthers : Sp := fun vs H Q _ => ∃ n z, vs = [.int n, .str z] ∧ PyData.strOk z = true ∧ ∀ H', Ex H H' → Q (.bl true) H'
def toldD (z : Str) (n : Int) : PyData := .list [.tuple [.str z, .int n], .tuple [.str z, .int n], .int n, .int n, .str z, .str z]
theorem shaped_told {z : Str} {n : Int} (hz : PyData.strOk z = true) : SeqAt.shaped (toldD z n) = true := by
  unfold SeqAt.shaped
  rw [Bool.and_eq_true]
  refine ⟨?_, by rfl⟩
  simp [toldD, PyData.canLay0, PyData.canLayAll0, hz]
theorem dp_told {H : Hp} {t p q : Addr} {z : Str} {n : Int} {ys : List V} (h : H t = some (.lst ys)) (hp : H p = some (.tup [.str z, .int n])) (hq : H q = some (.tup [.str z, .int n])) (e : ys = [.ref p, .ref q, .int n, .int n, .str z, .str z] := by rfl) : Dp K H (.ref t) (toldD z n) := by
  subst e
  exact .lst (SqL.of h) (.cons (.tup (SqT.of hp) (.cons (.str z) (.cons (.int n) .nil))) (.cons (.tup (SqT.of hq) (.cons (.str z) (.cons (.int n) .nil))) (.cons (.int n) (.cons (.int n) (.cons (.str z) (.cons (.str z) .nil))))))
set_option maxHeartbeats 20000000 in
theorem c_law_others_right (T : Txt K mg) (cM : Errs P w K mg base c B) : Cl P w K mg base CX0 4 "_law_others_right" s_law_others_right ["_law_at", "_law_call"] spOthers := by
  refine cl_of (k := 3) T.d_law_others_right sc_law_others_right (fun vs H Q E h => ?_) (fun f cdv A outer s H vs Q E hr h => ?_)
  · obtain ⟨n, z, rfl, _⟩ := h
    rfl
  · obtain ⟨n, z, rfl, hz, q⟩ := h
    have nd := sc_law_others_right.nd
    refine ⟨_, (pss_cons (ps_set (i := 2) nd rfl (Or.inl rfl) (pe_lst (pa_cons (Lw.pe_mkV cM.v_InvalidPatch (hr.mono (by decide)) (by rfl) (pa_cons (pv 0) pa_nil)) (pa_cons (Lw.pe_mkV cM.v_InvalidPass (hr.mono (by decide)) (by rfl) (pa_cons (pv 0) pa_nil)) (pa_cons (Lw.pe_mkV cM.v_InvalidEdit (hr.mono (by decide)) (by rfl) (pa_cons (pv 0) pa_nil)) (pa_cons (Lw.pe_mkVK cM.v_InvalidPatch (hr.mono (by decide)) (by rfl) (pk_cons (pv 0) pk_nil)) pa_nil))))))
      (pss_cons (ps_set (i := 2) nd rfl (Or.inl rfl) (pe_op op_cat (pv 2) (pe_lst (pa_cons (Lw.pe_mkVK cM.v_InvalidPass (hr.mono (by decide)) (by rfl) (pk_cons (pv 0) pk_nil)) (pa_cons (Lw.pe_mkVK cM.v_InvalidEdit (hr.mono (by decide)) (by rfl) (pk_cons (pv 0) pk_nil)) pa_nil)))))
      (pss_cons (ps_if (PW.pt (pw_or (pt_cmpR (op_neD hr.units) (pe_lc (own := [("_law_e", 6)]) (g := gName 6) (tt := tYes) rfl nd (pi_list (pv 2)) (L2.blkOk_by (N := N_law_others_right) (sc := defScope s_law_others_right) (by decide +kernel)) (fun _ _ _ _ _ => (pg_name (i := 6) nd rfl (Or.inl rfl))) (fun _ _ _ _ _ => pts_nil) (fun _ _ _ _ _ => (Lw.pe_xv (pv 6) : PE _ _ (Lw.tXv K "index" _)))) (pe_op op_rep (pe_lst (pa_cons (pv 0) pa_nil)) pe_int) (nomark _)) (pw_or1 (pt_cmpR (op_neD hr.units) (pe_lc (own := [("_law_e", 6)]) (g := gName 6) (tt := tYes) rfl nd (pi_list (pv 2)) (L2.blkOk_by (N := N_law_others_right) (sc := defScope s_law_others_right) (by decide +kernel)) (fun _ _ _ _ _ => (pg_name (i := 6) nd rfl (Or.inl rfl))) (fun _ _ _ _ _ => pts_nil) (fun _ _ _ _ _ => (Lw.pe_cl (c_law_which T cM) b_law_which hr (by decide) (by rfl) pass0 (pa_cons (pv 6) pa_nil)))) (pe_op op_rep (pe_lst (pa_cons pe_int (pa_cons pe_int (pa_cons pe_int pa_nil)))) pe_int) (nomark _))))) (pss_one (ps_ret pe_bl)) pss_nil)
      (pss_cons (ps_set (i := 3) nd rfl (Or.inl rfl) (pe_lst (pa_cons (Lw.pe_xv (Lw.pe_mkV cM.v_InvalidOrder (hr.mono (by decide)) (by rfl) (pa_cons (pe_tup (pa_cons (pv 1) (pa_cons (pv 0) pa_nil))) pa_nil))) (pa_cons (Lw.pe_xv (Lw.pe_mkVK cM.v_InvalidOrder (hr.mono (by decide)) (by rfl) (pk_cons (pe_tup (pa_cons (pv 1) (pa_cons (pv 0) pa_nil))) pk_nil))) (pa_cons (Lw.pe_xv (Lw.pe_mkV cM.v_InvalidText (hr.mono (by decide)) (by rfl) (pa_cons (pv 0) pa_nil))) pa_nil)))))
      (pss_cons (ps_set (i := 3) nd rfl (Or.inl rfl) (pe_op op_cat (pv 3) (pe_lst (pa_cons (Lw.pe_xv (Lw.pe_mkVK cM.v_InvalidText (hr.mono (by decide)) (by rfl) (pk_cons (pv 0) pk_nil))) (pa_cons (Lw.pe_xv (Lw.pe_mkV cM.v_Guarded (hr.mono (by decide)) (by rfl) (pa_cons (pv 1) pa_nil))) (pa_cons (Lw.pe_xv (Lw.pe_mkVK cM.v_Guarded (hr.mono (by decide)) (by rfl) (pk_cons (pv 1) pk_nil))) pa_nil))))))
      (pss_cons (ps_set (i := 4) nd rfl (Or.inl rfl) (pe_lst (pa_cons (Lw.pe_mkV cM.v_InvalidOrder (hr.mono (by decide)) (by rfl) (pa_cons (pe_tup (pa_cons (pv 0) pa_nil)) pa_nil)) (pa_cons (Lw.pe_mkV cM.v_InvalidText (hr.mono (by decide)) (by rfl) (pa_cons (pv 0) pa_nil)) (pa_cons (Lw.pe_mkV0 cM.v_DifferentStages (hr.mono (by decide)) (by rfl)) (pa_cons (Lw.pe_mkV0 cM.v_UsesKeys (hr.mono (by decide)) (by rfl)) (pa_cons (Lw.pe_mkV0 cM.v_NoBeginning (hr.mono (by decide)) (by rfl)) (pa_cons (Lw.pe_mkV cM.v_Guarded (hr.mono (by decide)) (by rfl) (pa_cons (pv 1) pa_nil)) pa_nil))))))))
      (pss_cons (ps_set (i := 4) nd rfl (Or.inl rfl) (pe_op op_cat (pv 4) (pe_lst (pa_cons (Lw.pe_mkV0 cM.v_Busy (hr.mono (by decide)) (by rfl)) (pa_cons (Lw.pe_mkV0 cM.v_NothingToUndo (hr.mono (by decide)) (by rfl)) pa_nil)))))
      (pss_cons (ps_if (PW.pt (pw_or (pt_cmpR (op_neD hr.units) (pv 3) (pe_lst (pa_cons (pe_tup (pa_cons (pv 1) (pa_cons (pv 0) pa_nil))) (pa_cons (pe_tup (pa_cons (pv 1) (pa_cons (pv 0) pa_nil))) (pa_cons (pv 0) (pa_cons (pv 0) (pa_cons (pv 1) (pa_cons (pv 1) pa_nil))))))) (nomark _)) (pw_or1 (pt_cmpR (op_neD hr.units) (pe_lc (own := [("_law_e", 6)]) (g := gName 6) (tt := tYes) rfl nd (pi_list (pv 4)) (L2.blkOk_by (N := N_law_others_right) (sc := defScope s_law_others_right) (by decide +kernel)) (fun _ _ _ _ _ => (pg_name (i := 6) nd rfl (Or.inl rfl))) (fun _ _ _ _ _ => pts_nil) (fun _ _ _ _ _ => (Lw.pe_cl (c_law_which T cM) b_law_which hr (by decide) (by rfl) pass0 (pa_cons (pv 6) pa_nil)))) (pe_listRg rfl (by rfl) T.b_list (prg_2 (by rfl) T.b_range pe_int pe_int)) (nomark _))))) (pss_one (ps_ret pe_bl)) pss_nil)
      (pss_cons (ps_set (i := 5) nd rfl (Or.inl rfl) (pe_lst (pa_cons (Lw.pe_mkV cM.v_TooManyOrders (hr.mono (by decide)) (by rfl) (pa_cons (pv 0) pa_nil)) (pa_cons (Lw.pe_mkV cM.v_TooManyCopies (hr.mono (by decide)) (by rfl) (pa_cons (pv 0) pa_nil)) (pa_cons (Lw.pe_mkV cM.v_TooManyKeys (hr.mono (by decide)) (by rfl) (pa_cons (pv 0) pa_nil)) (pa_cons (Lw.pe_mkV cM.v_TooManyRecolours (hr.mono (by decide)) (by rfl) (pa_cons (pv 0) pa_nil)) pa_nil))))))
      (pss_cons (ps_set (i := 5) nd rfl (Or.inl rfl) (pe_op op_cat (pv 5) (pe_lst (pa_cons (Lw.pe_mkV cM.v_TooManyEdits (hr.mono (by decide)) (by rfl) (pa_cons (pv 0) pa_nil)) (pa_cons (Lw.pe_mkVK cM.v_TooManyOrders (hr.mono (by decide)) (by rfl) (pk_cons (pv 0) pk_nil)) (pa_cons (Lw.pe_mkVK cM.v_TooManyCopies (hr.mono (by decide)) (by rfl) (pk_cons (pv 0) pk_nil)) pa_nil))))))
      (pss_cons (ps_set (i := 5) nd rfl (Or.inl rfl) (pe_op op_cat (pv 5) (pe_lst (pa_cons (Lw.pe_mkVK cM.v_TooManyKeys (hr.mono (by decide)) (by rfl) (pk_cons (pv 0) pk_nil)) pa_nil))))
      (pss_cons (ps_set (i := 5) nd rfl (Or.inl rfl) (pe_op op_cat (pv 5) (pe_lst (pa_cons (Lw.pe_mkVK cM.v_TooManyRecolours (hr.mono (by decide)) (by rfl) (pk_cons (pv 0) pk_nil)) (pa_cons (Lw.pe_mkVK cM.v_TooManyEdits (hr.mono (by decide)) (by rfl) (pk_cons (pv 0) pk_nil)) pa_nil)))))
      (pss_one (ps_ret (pe_and (pe_cmpR (op_eqD hr.units) (pe_lc (own := [("_law_e", 6)]) (g := gName 6) (tt := tYes) rfl nd (pi_list (pv 5)) (L2.blkOk_by (N := N_law_others_right) (sc := defScope s_law_others_right) (by decide +kernel)) (fun _ _ _ _ _ => (pg_name (i := 6) nd rfl (Or.inl rfl))) (fun _ _ _ _ _ => pts_nil) (fun _ _ _ _ _ => (Lw.pe_xv (pv 6) : PE _ _ (Lw.tXv K "found" _)))) (pe_op op_rep (pe_lst (pa_cons (pv 0) pa_nil)) pe_int) (nomark _)) (pe_one (pe_cmpR (op_eqD hr.units) (pe_lc (own := [("_law_e", 6)]) (g := gName 6) (tt := tYes) rfl nd (pi_list (pv 5)) (L2.blkOk_by (N := N_law_others_right) (sc := defScope s_law_others_right) (by decide +kernel)) (fun _ _ _ _ _ => (pg_name (i := 6) nd rfl (Or.inl rfl))) (fun _ _ _ _ _ => pts_nil) (fun _ _ _ _ _ => (Lw.pe_cl (c_law_which T cM) b_law_which hr (by decide) (by rfl) pass0 (pa_cons (pv 6) pa_nil)))) (pe_op op_rep (pe_lst (pa_cons pe_int (pa_cons pe_int (pa_cons pe_int (pa_cons pe_int (pa_cons pe_int pa_nil)))))) pe_int) (nomark _)))))))))))))))))), ?_⟩
    rw [show L2.start N_law_others_right [.int n, .str z] = [some (.int n), some (.str z), none, none, none, none, none] from rfl]
    have S : Exs c (fun fs => fs = ([("index", V.int n)] : List (Str × V))) (fun i => 11 ≤ i ∧ i < 14) H [] := Exs.nil
    have E := Ex.refl H
    repeat fail "st"
    try dsimp only [List.set]
    intro a0 H0 e0 x0
    have S := S.snoc e0 x0 (by decide) (by first | rfl | trivial)
    simp only [List.nil_append, List.cons_append] at S
    have E := E.trans e0
    clear e0 x0
    repeat fail "st"
    try dsimp only [List.set]
    intro a1 H1 e1 x1
    have S := S.snoc e1 x1 (by decide) (by first | rfl | trivial)
    simp only [List.nil_append, List.cons_append] at S
    have E := E.trans e1
    clear e1 x1
    repeat fail "st"
    try dsimp only [List.set]
    intro a2 H2 e2 x2
    have S := S.snoc e2 x2 (by decide) (by first | rfl | trivial)
    simp only [List.nil_append, List.cons_append] at S
    have E := E.trans e2
    clear e2 x2
    repeat fail "st"
    try dsimp only [List.set]
    intro a3 H3 e3 x3
    have S := S.snoc e3 x3 (by decide) (by first | rfl | trivial)
    simp only [List.nil_append, List.cons_append] at S
    have E := E.trans e3
    clear e3 x3
    repeat fail "st"
    try dsimp only [List.set]
    intro s0 n_s0
    generalize hh : upd _ s0 _ = H_s0
    have e_s0 := newEx hh n_s0
    have h_s0 := newAt hh
    clear hh
    have S := S.up e_s0
    have E := E.trans e_s0
    clear e_s0
    repeat fail "st"
    try dsimp only [List.set]
    intro a4 H4 e4 x4
    have S := S.snoc e4 x4 (by decide) (by first | rfl | trivial)
    simp only [List.nil_append, List.cons_append] at S
    have E := E.trans e4
    have h_s0 := e4 _ _ h_s0
    clear e4 x4
    repeat fail "st"
    try dsimp only [List.set]
    intro a5 H5 e5 x5
    have S := S.snoc e5 x5 (by decide) (by first | rfl | trivial)
    simp only [List.nil_append, List.cons_append] at S
    have E := E.trans e5
    have h_s0 := e5 _ _ h_s0
    clear e5 x5
    repeat fail "st"
    try dsimp only [List.set]
    intro s1 n_s1
    generalize hh : upd _ s1 _ = H_s1
    have e_s1 := newEx hh n_s1
    have h_s1 := newAt hh
    clear hh
    have S := S.up e_s1
    have E := E.trans e_s1
    have h_s0 := e_s1 _ _ h_s0
    clear e_s1
    repeat fail "st"
    try dsimp only [List.set]
    refine ⟨_, _, _, _, rfl, rfl, h_s0, h_s1, Nat.le_trans (Nat.le_of_ble_eq_true rfl) Lw.line_ge, ?_⟩
    intro s2 n_s2
    generalize hh : upd _ s2 _ = H_s2
    have e_s2 := newEx hh n_s2
    have h_s2 := newAt hh
    clear hh
    have S := S.up e_s2
    have E := E.trans e_s2
    have h_s0 := e_s2 _ _ h_s0
    have h_s1 := e_s2 _ _ h_s1
    clear e_s2
    repeat fail "st"
    try dsimp only [List.set]
    clear h_s0
    clear h_s1
    replace S : Exs c (fun fs => fs = ([("index", V.int n)] : List (Str × V))) (fun i => 11 ≤ i ∧ i < 14) _ [(a0, 11), (a1, 12), (a2, 13), (a3, 11), (a4, 12), (a5, 13)] := S
    generalize hL : ([(a0, 11), (a1, 12), (a2, 13), (a3, 11), (a4, 12), (a5, 13)] : List (Addr × Nat)) = L at S
    replace h_s2 : H_s2 s2 = some (.lst (L.map fun p => V.ref p.1)) := by rw [← hL]; exact h_s2
    have hlen : L.length = 6 := by rw [← hL]; rfl
    have his : L.map (·.2) = [11, 12, 13, 11, 12, 13] := by rw [← hL]; rfl
    clear hL
    intro D hD
    refine lcL (All fun _ v _ => v = V.int n) (all_mono fun _ _ _ _ _ h => h) hD (SqL.of h_s2) (by rw [List.length_map, hlen]; decide) (fun j x hj G eG Q1 Q2 q1 q2 => ?_) (fun G_D os eG hl hDG hp => ?_)
    · obtain ⟨p, hpj, rfl, hp, fs, rfl, hx⟩ := S.at hj
      refine ⟨rfl, ?_⟩
      repeat fail "st"
      refine ⟨p.1, c p.2, _, V.int n, cM.exk _ (by omega), cM.noI hp, rfl, hx.up eG, rfl, ?_⟩
      exact q1 _ _ (Ex.refl _) ⟨_, rfl, rfl⟩
    obtain ⟨ys, ey, ly, hy⟩ := All.end hp
    rw [ey] at hDG
    rw [hl, List.length_map, hlen] at ly
    obtain rfl : ys = List.replicate 6 (V.int n) := List.eq_replicate_iff.mpr ⟨ly, fun y hy1 => by obtain ⟨i, hi, e⟩ := List.getElem_of_mem hy1; exact hy i y (by rw [List.getElem?_eq_getElem hi, e])⟩
    have h_D := hDG
    clear hDG hp hy
    have S := S.up eG
    have E := E.trans eG
    have h_s2 := eG _ _ h_s2
    clear eG
    repeat fail "st"
    try dsimp only [List.set]
    intro w0 n_w0
    generalize hh : upd _ w0 _ = H_w0
    have e_w0 := newEx hh n_w0
    have h_w0 := newAt hh
    clear hh
    have S := S.up e_w0
    have E := E.trans e_w0
    have h_s2 := e_w0 _ _ h_s2
    have h_D := e_w0 _ _ h_D
    clear e_w0
    repeat fail "st"
    try dsimp only [List.set]
    refine tC_at ?_
    refine repK (n := 6) h_w0 (by decide) ?_
    intro w1 n_w1
    generalize hh : upd _ w1 _ = H_w1
    have e_w1 := newEx hh n_w1
    have h_w1 := newAt hh
    clear hh
    have S := S.up e_w1
    have E := E.trans e_w1
    have h_s2 := e_w1 _ _ h_s2
    have h_D := e_w1 _ _ h_D
    have h_w0 := e_w1 _ _ h_w0
    clear e_w1
    repeat fail "st"
    try dsimp only [List.set]
    refine ⟨_, _, .lst (SqL.of h_D) (dps_rep (.int n) 6), .lst (SqL.of h_w1) (dps_rep (.int n) 6), rfl, rfl, ?_⟩
    rw [PySem.SeqAt.eqv_refl _ rfl]
    repeat fail "st"
    try dsimp only [List.set]
    clear h_D
    clear h_w0
    clear h_w1
    intro D2 hD2
    refine lcL (All fun j v _ => ∃ p, L[j]? = some p ∧ v = V.int (p.2 : Nat)) (all_mono fun _ _ _ _ _ h => h) hD2 (SqL.of h_s2) (by rw [List.length_map, hlen]; decide) (fun j x hj G eG Q1 Q2 q1 q2 => ?_) (fun G_D2 os eG hl hDG hp => ?_)
    · obtain ⟨p, hpj, rfl, hp, fs, _, hx⟩ := S.at hj
      refine ⟨rfl, ?_⟩
      repeat fail "st"
      refine ⟨p.1, p.2, _, (by omega), rfl, hx.up eG, fun G2 e2 => ?_⟩
      exact q1 _ _ e2 ⟨_, rfl, p, hpj, rfl⟩
    obtain ⟨ys, ey, ly, hy⟩ := All.end hp
    rw [ey] at hDG
    rw [hl, List.length_map] at ly
    obtain rfl := ys_map ly hy
    have h_D2 := hDG
    clear hDG hp hy
    have S := S.up eG
    have E := E.trans eG
    have h_s2 := eG _ _ h_s2
    clear eG
    repeat fail "st"
    try dsimp only [List.set]
    have d_D2 := dp_whs (K := K) h_D2
    rw [his] at d_D2
    intro w2 n_w2
    generalize hh : upd _ w2 _ = H_w2
    have e_w2 := newEx hh n_w2
    have h_w2 := newAt hh
    clear hh
    have S := S.up e_w2
    have E := E.trans e_w2
    have h_s2 := e_w2 _ _ h_s2
    have h_D2 := e_w2 _ _ h_D2
    clear e_w2
    repeat fail "st"
    try dsimp only [List.set]
    refine tC_at ?_
    refine rep2 h_w2 (by decide) ?_
    intro w3 n_w3
    generalize hh : upd _ w3 _ = H_w3
    have e_w3 := newEx hh n_w3
    have h_w3 := newAt hh
    clear hh
    have S := S.up e_w3
    have E := E.trans e_w3
    have h_s2 := e_w3 _ _ h_s2
    have h_D2 := e_w3 _ _ h_D2
    have h_w2 := e_w3 _ _ h_w2
    clear e_w3
    repeat fail "st"
    try dsimp only [List.set]
    have d_w3 := dp_nats (K := K) (ns := [11, 12, 13, 11, 12, 13]) h_w3 rfl
    have d_D2 := dp_whs (K := K) h_D2
    rw [his] at d_D2
    refine ⟨_, _, d_D2, d_w3, rfl, rfl, ?_⟩
    rw [PySem.SeqAt.eqv_refl _ rfl]
    repeat fail "st"
    try dsimp only [List.set]
    clear h_D2
    clear h_w2
    clear h_w3
    clear h_s2
    clear S his hlen
    intro p1 n_p1
    generalize hh : upd _ p1 _ = H_p1
    have e_p1 := newEx hh n_p1
    have h_p1 := newAt hh
    clear hh
    have E := E.trans e_p1
    clear e_p1
    repeat fail "st"
    try dsimp only [List.set]
    intro a6 H6 e6 x6
    have E := E.trans e6
    have h_p1 := e6 _ _ h_p1
    refine ⟨a6, c 14, _, _, cM.exk 14 (by decide), cM.v_InvalidOrder.no, rfl, x6, rfl, ?_⟩
    clear e6 x6
    repeat fail "st"
    try dsimp only [List.set]
    intro p2 n_p2
    generalize hh : upd _ p2 _ = H_p2
    have e_p2 := newEx hh n_p2
    have h_p2 := newAt hh
    clear hh
    have E := E.trans e_p2
    have h_p1 := e_p2 _ _ h_p1
    clear e_p2
    repeat fail "st"
    try dsimp only [List.set]
    intro a7 H7 e7 x7
    have E := E.trans e7
    have h_p1 := e7 _ _ h_p1
    have h_p2 := e7 _ _ h_p2
    refine ⟨a7, c 14, _, _, cM.exk 14 (by decide), cM.v_InvalidOrder.no, rfl, x7, rfl, ?_⟩
    clear e7 x7
    repeat fail "st"
    try dsimp only [List.set]
    intro a8 H8 e8 x8
    have E := E.trans e8
    have h_p1 := e8 _ _ h_p1
    have h_p2 := e8 _ _ h_p2
    refine ⟨a8, c 15, _, _, cM.exk 15 (by decide), cM.v_InvalidText.no, rfl, x8, rfl, ?_⟩
    clear e8 x8
    repeat fail "st"
    try dsimp only [List.set]
    intro t0 n_t0
    generalize hh : upd _ t0 _ = H_t0
    have e_t0 := newEx hh n_t0
    have h_t0 := newAt hh
    clear hh
    have E := E.trans e_t0
    have h_p1 := e_t0 _ _ h_p1
    have h_p2 := e_t0 _ _ h_p2
    clear e_t0
    repeat fail "st"
    try dsimp only [List.set]
    intro a9 H9 e9 x9
    have E := E.trans e9
    have h_p1 := e9 _ _ h_p1
    have h_p2 := e9 _ _ h_p2
    have h_t0 := e9 _ _ h_t0
    refine ⟨a9, c 15, _, _, cM.exk 15 (by decide), cM.v_InvalidText.no, rfl, x9, rfl, ?_⟩
    clear e9 x9
    repeat fail "st"
    try dsimp only [List.set]
    intro a10 H10 e10 x10
    have E := E.trans e10
    have h_p1 := e10 _ _ h_p1
    have h_p2 := e10 _ _ h_p2
    have h_t0 := e10 _ _ h_t0
    refine ⟨a10, c 19, _, _, cM.exk 19 (by decide), cM.v_Guarded.no, rfl, x10, rfl, ?_⟩
    clear e10 x10
    repeat fail "st"
    try dsimp only [List.set]
    intro a11 H11 e11 x11
    have E := E.trans e11
    have h_p1 := e11 _ _ h_p1
    have h_p2 := e11 _ _ h_p2
    have h_t0 := e11 _ _ h_t0
    refine ⟨a11, c 19, _, _, cM.exk 19 (by decide), cM.v_Guarded.no, rfl, x11, rfl, ?_⟩
    clear e11 x11
    repeat fail "st"
    try dsimp only [List.set]
    intro t1 n_t1
    generalize hh : upd _ t1 _ = H_t1
    have e_t1 := newEx hh n_t1
    have h_t1 := newAt hh
    clear hh
    have E := E.trans e_t1
    have h_p1 := e_t1 _ _ h_p1
    have h_p2 := e_t1 _ _ h_p2
    have h_t0 := e_t1 _ _ h_t0
    clear e_t1
    repeat fail "st"
    try dsimp only [List.set]
    refine ⟨_, _, _, _, rfl, rfl, h_t0, h_t1, Nat.le_trans (Nat.le_of_ble_eq_true rfl) Lw.line_ge, ?_⟩
    intro t2 n_t2
    generalize hh : upd _ t2 _ = H_t2
    have e_t2 := newEx hh n_t2
    have h_t2 := newAt hh
    clear hh
    have E := E.trans e_t2
    have h_p1 := e_t2 _ _ h_p1
    have h_p2 := e_t2 _ _ h_p2
    have h_t0 := e_t2 _ _ h_t0
    have h_t1 := e_t2 _ _ h_t1
    clear e_t2
    repeat fail "st"
    try dsimp only [List.set]
    clear h_t0
    clear h_t1
    have S : Exs c (fun _ => True) (fun i => i < 27) _ [] := Exs.nil (H := H)
    have S := S.up E
    intro o0 n_o0
    generalize hh : upd _ o0 _ = H_o0
    have e_o0 := newEx hh n_o0
    have h_o0 := newAt hh
    clear hh
    have S := S.up e_o0
    have E := E.trans e_o0
    have h_p1 := e_o0 _ _ h_p1
    have h_p2 := e_o0 _ _ h_p2
    have h_t2 := e_o0 _ _ h_t2
    clear e_o0
    repeat fail "st"
    try dsimp only [List.set]
    intro a12 H12 e12 x12
    have S := S.snoc e12 x12 (by decide) (by first | rfl | trivial)
    simp only [List.nil_append, List.cons_append] at S
    have E := E.trans e12
    have h_p1 := e12 _ _ h_p1
    have h_p2 := e12 _ _ h_p2
    have h_t2 := e12 _ _ h_t2
    have h_o0 := e12 _ _ h_o0
    clear e12 x12
    repeat fail "st"
    try dsimp only [List.set]
    intro a13 H13 e13 x13
    have S := S.snoc e13 x13 (by decide) (by first | rfl | trivial)
    simp only [List.nil_append, List.cons_append] at S
    have E := E.trans e13
    have h_p1 := e13 _ _ h_p1
    have h_p2 := e13 _ _ h_p2
    have h_t2 := e13 _ _ h_t2
    have h_o0 := e13 _ _ h_o0
    clear e13 x13
    repeat fail "st"
    try dsimp only [List.set]
    intro a14 H14 e14 x14
    have S := S.snoc e14 x14 (by decide) (by first | rfl | trivial)
    simp only [List.nil_append, List.cons_append] at S
    have E := E.trans e14
    have h_p1 := e14 _ _ h_p1
    have h_p2 := e14 _ _ h_p2
    have h_t2 := e14 _ _ h_t2
    have h_o0 := e14 _ _ h_o0
    clear e14 x14
    repeat fail "st"
    try dsimp only [List.set]
    intro a15 H15 e15 x15
    have S := S.snoc e15 x15 (by decide) (by first | rfl | trivial)
    simp only [List.nil_append, List.cons_append] at S
    have E := E.trans e15
    have h_p1 := e15 _ _ h_p1
    have h_p2 := e15 _ _ h_p2
    have h_t2 := e15 _ _ h_t2
    have h_o0 := e15 _ _ h_o0
    clear e15 x15
    repeat fail "st"
    try dsimp only [List.set]
    intro a16 H16 e16 x16
    have S := S.snoc e16 x16 (by decide) (by first | rfl | trivial)
    simp only [List.nil_append, List.cons_append] at S
    have E := E.trans e16
    have h_p1 := e16 _ _ h_p1
    have h_p2 := e16 _ _ h_p2
    have h_t2 := e16 _ _ h_t2
    have h_o0 := e16 _ _ h_o0
    clear e16 x16
    repeat fail "st"
    try dsimp only [List.set]
    intro a17 H17 e17 x17
    have S := S.snoc e17 x17 (by decide) (by first | rfl | trivial)
    simp only [List.nil_append, List.cons_append] at S
    have E := E.trans e17
    have h_p1 := e17 _ _ h_p1
    have h_p2 := e17 _ _ h_p2
    have h_t2 := e17 _ _ h_t2
    have h_o0 := e17 _ _ h_o0
    clear e17 x17
    repeat fail "st"
    try dsimp only [List.set]
    intro b0 n_b0
    generalize hh : upd _ b0 _ = H_b0
    have e_b0 := newEx hh n_b0
    have h_b0 := newAt hh
    clear hh
    have S := S.up e_b0
    have E := E.trans e_b0
    have h_p1 := e_b0 _ _ h_p1
    have h_p2 := e_b0 _ _ h_p2
    have h_t2 := e_b0 _ _ h_t2
    have h_o0 := e_b0 _ _ h_o0
    clear e_b0
    repeat fail "st"
    try dsimp only [List.set]
    intro a18 H18 e18 x18
    have S := S.snoc e18 x18 (by decide) (by first | rfl | trivial)
    simp only [List.nil_append, List.cons_append] at S
    have E := E.trans e18
    have h_p1 := e18 _ _ h_p1
    have h_p2 := e18 _ _ h_p2
    have h_t2 := e18 _ _ h_t2
    have h_o0 := e18 _ _ h_o0
    have h_b0 := e18 _ _ h_b0
    clear e18 x18
    repeat fail "st"
    try dsimp only [List.set]
    intro a19 H19 e19 x19
    have S := S.snoc e19 x19 (by decide) (by first | rfl | trivial)
    simp only [List.nil_append, List.cons_append] at S
    have E := E.trans e19
    have h_p1 := e19 _ _ h_p1
    have h_p2 := e19 _ _ h_p2
    have h_t2 := e19 _ _ h_t2
    have h_o0 := e19 _ _ h_o0
    have h_b0 := e19 _ _ h_b0
    clear e19 x19
    repeat fail "st"
    try dsimp only [List.set]
    intro b1 n_b1
    generalize hh : upd _ b1 _ = H_b1
    have e_b1 := newEx hh n_b1
    have h_b1 := newAt hh
    clear hh
    have S := S.up e_b1
    have E := E.trans e_b1
    have h_p1 := e_b1 _ _ h_p1
    have h_p2 := e_b1 _ _ h_p2
    have h_t2 := e_b1 _ _ h_t2
    have h_o0 := e_b1 _ _ h_o0
    have h_b0 := e_b1 _ _ h_b0
    clear e_b1
    repeat fail "st"
    try dsimp only [List.set]
    refine ⟨_, _, _, _, rfl, rfl, h_b0, h_b1, Nat.le_trans (Nat.le_of_ble_eq_true rfl) Lw.line_ge, ?_⟩
    intro b2 n_b2
    generalize hh : upd _ b2 _ = H_b2
    have e_b2 := newEx hh n_b2
    have h_b2 := newAt hh
    clear hh
    have S := S.up e_b2
    have E := E.trans e_b2
    have h_p1 := e_b2 _ _ h_p1
    have h_p2 := e_b2 _ _ h_p2
    have h_t2 := e_b2 _ _ h_t2
    have h_o0 := e_b2 _ _ h_o0
    have h_b0 := e_b2 _ _ h_b0
    have h_b1 := e_b2 _ _ h_b1
    clear e_b2
    repeat fail "st"
    try dsimp only [List.set]
    clear h_b0
    clear h_b1
    replace S : Exs c (fun _ => True) (fun i => i < 27) _ [(a12, 14), (a13, 15), (a14, 16), (a15, 17), (a16, 18), (a17, 19), (a18, 20), (a19, 21)] := S
    generalize hL : ([(a12, 14), (a13, 15), (a14, 16), (a15, 17), (a16, 18), (a17, 19), (a18, 20), (a19, 21)] : List (Addr × Nat)) = L at S
    replace h_b2 : H_b2 b2 = some (.lst (L.map fun p => V.ref p.1)) := by rw [← hL]; exact h_b2
    have hlen : L.length = 8 := by rw [← hL]; rfl
    have his : L.map (·.2) = [14, 15, 16, 17, 18, 19, 20, 21] := by rw [← hL]; rfl
    clear hL
    intro q0 n_q0
    generalize hh : upd _ q0 _ = H_q0
    have e_q0 := newEx hh n_q0
    have h_q0 := newAt hh
    clear hh
    have S := S.up e_q0
    have E := E.trans e_q0
    have h_p1 := e_q0 _ _ h_p1
    have h_p2 := e_q0 _ _ h_p2
    have h_t2 := e_q0 _ _ h_t2
    have h_o0 := e_q0 _ _ h_o0
    have h_b2 := e_q0 _ _ h_b2
    clear e_q0
    repeat fail "st"
    try dsimp only [List.set]
    intro q1 n_q1
    generalize hh : upd _ q1 _ = H_q1
    have e_q1 := newEx hh n_q1
    have h_q1 := newAt hh
    clear hh
    have S := S.up e_q1
    have E := E.trans e_q1
    have h_p1 := e_q1 _ _ h_p1
    have h_p2 := e_q1 _ _ h_p2
    have h_t2 := e_q1 _ _ h_t2
    have h_o0 := e_q1 _ _ h_o0
    have h_b2 := e_q1 _ _ h_b2
    have h_q0 := e_q1 _ _ h_q0
    clear e_q1
    repeat fail "st"
    try dsimp only [List.set]
    intro q2 n_q2
    generalize hh : upd _ q2 _ = H_q2
    have e_q2 := newEx hh n_q2
    have h_q2 := newAt hh
    clear hh
    have S := S.up e_q2
    have E := E.trans e_q2
    have h_p1 := e_q2 _ _ h_p1
    have h_p2 := e_q2 _ _ h_p2
    have h_t2 := e_q2 _ _ h_t2
    have h_o0 := e_q2 _ _ h_o0
    have h_b2 := e_q2 _ _ h_b2
    have h_q0 := e_q2 _ _ h_q0
    have h_q1 := e_q2 _ _ h_q1
    clear e_q2
    repeat fail "st"
    try dsimp only [List.set]
    have d_t2 := dp_told (K := K) h_t2 h_p1 h_p2
    have d_q2 := dp_told (K := K) h_q2 h_q0 h_q1
    refine ⟨_, _, d_t2, d_q2, shaped_told hz, shaped_told hz, ?_⟩
    rw [PySem.SeqAt.eqv_refl _ (SeqAt.canLay_of_shaped (shaped_told hz))]
    clear d_t2 d_q2
    clear h_t2
    clear h_p1
    clear h_p2
    clear h_q0
    clear h_q1
    clear h_q2
    repeat fail "st"
    try dsimp only [List.set]
    intro D3 hD3
    refine lcL (All fun j v _ => ∃ p, L[j]? = some p ∧ v = V.int (p.2 : Nat)) (all_mono fun _ _ _ _ _ h => h) hD3 (SqL.of h_b2) (by rw [List.length_map, hlen]; decide) (fun j x hj G eG Q1 Q2 q1 q2 => ?_) (fun G_D3 os eG hl hDG hp => ?_)
    · obtain ⟨p, hpj, rfl, hp, fs, _, hx⟩ := S.at hj
      refine ⟨rfl, ?_⟩
      repeat fail "st"
      refine ⟨p.1, p.2, _, (by omega), rfl, hx.up eG, fun G2 e2 => ?_⟩
      exact q1 _ _ e2 ⟨_, rfl, p, hpj, rfl⟩
    obtain ⟨ys, ey, ly, hy⟩ := All.end hp
    rw [ey] at hDG
    rw [hl, List.length_map] at ly
    obtain rfl := ys_map ly hy
    have h_D3 := hDG
    clear hDG hp hy
    have S := S.up eG
    have E := E.trans eG
    have h_o0 := eG _ _ h_o0
    have h_b2 := eG _ _ h_b2
    clear eG
    repeat fail "st"
    try dsimp only [List.set]
    have d_D3 := dp_whs (K := K) h_D3
    rw [his] at d_D3
    refine ⟨RgOk.of_le (by decide) (by decide) (by decide) (by decide), ?_⟩
    intro rg n_rg
    generalize hh : upd _ rg _ = H_rg
    have e_rg := newEx hh n_rg
    have h_rg := newAt hh
    clear hh
    have S := S.up e_rg
    have E := E.trans e_rg
    have h_o0 := e_rg _ _ h_o0
    have h_b2 := e_rg _ _ h_b2
    have h_D3 := e_rg _ _ h_D3
    clear e_rg
    repeat fail "st"
    try dsimp only [List.set]
    have d_rg := dp_nats (K := K) (ns := [14, 15, 16, 17, 18, 19, 20, 21]) h_rg rfl
    have d_D3 := dp_whs (K := K) h_D3
    rw [his] at d_D3
    refine ⟨_, _, d_D3, d_rg, rfl, rfl, ?_⟩
    rw [PySem.SeqAt.eqv_refl _ rfl]
    repeat fail "st"
    try dsimp only [List.set]
    clear d_D3 d_rg
    clear h_D3
    clear h_rg
    clear h_b2
    clear S his hlen
    have S : Exs c (fun fs => fs = ([("found", V.int n)] : List (Str × V))) (fun i => 22 ≤ i ∧ i < 27) _ [] := Exs.nil (H := H)
    have S := S.up E
    intro a20 H20 e20 x20
    have S := S.snoc e20 x20 (by decide) (by first | rfl | trivial)
    simp only [List.nil_append, List.cons_append] at S
    have E := E.trans e20
    have h_o0 := e20 _ _ h_o0
    clear e20 x20
    repeat fail "st"
    try dsimp only [List.set]
    intro a21 H21 e21 x21
    have S := S.snoc e21 x21 (by decide) (by first | rfl | trivial)
    simp only [List.nil_append, List.cons_append] at S
    have E := E.trans e21
    have h_o0 := e21 _ _ h_o0
    clear e21 x21
    repeat fail "st"
    try dsimp only [List.set]
    intro a22 H22 e22 x22
    have S := S.snoc e22 x22 (by decide) (by first | rfl | trivial)
    simp only [List.nil_append, List.cons_append] at S
    have E := E.trans e22
    have h_o0 := e22 _ _ h_o0
    clear e22 x22
    repeat fail "st"
    try dsimp only [List.set]
    intro a23 H23 e23 x23
    have S := S.snoc e23 x23 (by decide) (by first | rfl | trivial)
    simp only [List.nil_append, List.cons_append] at S
    have E := E.trans e23
    have h_o0 := e23 _ _ h_o0
    clear e23 x23
    repeat fail "st"
    try dsimp only [List.set]
    intro u0 n_u0
    generalize hh : upd _ u0 _ = H_u0
    have e_u0 := newEx hh n_u0
    have h_u0 := newAt hh
    clear hh
    have S := S.up e_u0
    have E := E.trans e_u0
    have h_o0 := e_u0 _ _ h_o0
    clear e_u0
    repeat fail "st"
    try dsimp only [List.set]
    intro a24 H24 e24 x24
    have S := S.snoc e24 x24 (by decide) (by first | rfl | trivial)
    simp only [List.nil_append, List.cons_append] at S
    have E := E.trans e24
    have h_o0 := e24 _ _ h_o0
    have h_u0 := e24 _ _ h_u0
    clear e24 x24
    repeat fail "st"
    try dsimp only [List.set]
    intro a25 H25 e25 x25
    have S := S.snoc e25 x25 (by decide) (by first | rfl | trivial)
    simp only [List.nil_append, List.cons_append] at S
    have E := E.trans e25
    have h_o0 := e25 _ _ h_o0
    have h_u0 := e25 _ _ h_u0
    clear e25 x25
    repeat fail "st"
    try dsimp only [List.set]
    intro a26 H26 e26 x26
    have S := S.snoc e26 x26 (by decide) (by first | rfl | trivial)
    simp only [List.nil_append, List.cons_append] at S
    have E := E.trans e26
    have h_o0 := e26 _ _ h_o0
    have h_u0 := e26 _ _ h_u0
    clear e26 x26
    repeat fail "st"
    try dsimp only [List.set]
    intro u1 n_u1
    generalize hh : upd _ u1 _ = H_u1
    have e_u1 := newEx hh n_u1
    have h_u1 := newAt hh
    clear hh
    have S := S.up e_u1
    have E := E.trans e_u1
    have h_o0 := e_u1 _ _ h_o0
    have h_u0 := e_u1 _ _ h_u0
    clear e_u1
    repeat fail "st"
    try dsimp only [List.set]
    refine ⟨_, _, _, _, rfl, rfl, h_u0, h_u1, Nat.le_trans (Nat.le_of_ble_eq_true rfl) Lw.line_ge, ?_⟩
    intro u2 n_u2
    generalize hh : upd _ u2 _ = H_u2
    have e_u2 := newEx hh n_u2
    have h_u2 := newAt hh
    clear hh
    have S := S.up e_u2
    have E := E.trans e_u2
    have h_o0 := e_u2 _ _ h_o0
    have h_u0 := e_u2 _ _ h_u0
    have h_u1 := e_u2 _ _ h_u1
    clear e_u2
    repeat fail "st"
    try dsimp only [List.set]
    clear h_u0
    clear h_u1
    intro a27 H27 e27 x27
    have S := S.snoc e27 x27 (by decide) (by first | rfl | trivial)
    simp only [List.nil_append, List.cons_append] at S
    have E := E.trans e27
    have h_o0 := e27 _ _ h_o0
    have h_u2 := e27 _ _ h_u2
    clear e27 x27
    repeat fail "st"
    try dsimp only [List.set]
    intro u3 n_u3
    generalize hh : upd _ u3 _ = H_u3
    have e_u3 := newEx hh n_u3
    have h_u3 := newAt hh
    clear hh
    have S := S.up e_u3
    have E := E.trans e_u3
    have h_o0 := e_u3 _ _ h_o0
    have h_u2 := e_u3 _ _ h_u2
    clear e_u3
    repeat fail "st"
    try dsimp only [List.set]
    refine ⟨_, _, _, _, rfl, rfl, h_u2, h_u3, Nat.le_trans (Nat.le_of_ble_eq_true rfl) Lw.line_ge, ?_⟩
    intro u4 n_u4
    generalize hh : upd _ u4 _ = H_u4
    have e_u4 := newEx hh n_u4
    have h_u4 := newAt hh
    clear hh
    have S := S.up e_u4
    have E := E.trans e_u4
    have h_o0 := e_u4 _ _ h_o0
    have h_u2 := e_u4 _ _ h_u2
    have h_u3 := e_u4 _ _ h_u3
    clear e_u4
    repeat fail "st"
    try dsimp only [List.set]
    clear h_u2
    clear h_u3
    intro a28 H28 e28 x28
    have S := S.snoc e28 x28 (by decide) (by first | rfl | trivial)
    simp only [List.nil_append, List.cons_append] at S
    have E := E.trans e28
    have h_o0 := e28 _ _ h_o0
    have h_u4 := e28 _ _ h_u4
    clear e28 x28
    repeat fail "st"
    try dsimp only [List.set]
    intro a29 H29 e29 x29
    have S := S.snoc e29 x29 (by decide) (by first | rfl | trivial)
    simp only [List.nil_append, List.cons_append] at S
    have E := E.trans e29
    have h_o0 := e29 _ _ h_o0
    have h_u4 := e29 _ _ h_u4
    clear e29 x29
    repeat fail "st"
    try dsimp only [List.set]
    intro u5 n_u5
    generalize hh : upd _ u5 _ = H_u5
    have e_u5 := newEx hh n_u5
    have h_u5 := newAt hh
    clear hh
    have S := S.up e_u5
    have E := E.trans e_u5
    have h_o0 := e_u5 _ _ h_o0
    have h_u4 := e_u5 _ _ h_u4
    clear e_u5
    repeat fail "st"
    try dsimp only [List.set]
    refine ⟨_, _, _, _, rfl, rfl, h_u4, h_u5, Nat.le_trans (Nat.le_of_ble_eq_true rfl) Lw.line_ge, ?_⟩
    intro u6 n_u6
    generalize hh : upd _ u6 _ = H_u6
    have e_u6 := newEx hh n_u6
    have h_u6 := newAt hh
    clear hh
    have S := S.up e_u6
    have E := E.trans e_u6
    have h_o0 := e_u6 _ _ h_o0
    have h_u4 := e_u6 _ _ h_u4
    have h_u5 := e_u6 _ _ h_u5
    clear e_u6
    repeat fail "st"
    try dsimp only [List.set]
    clear h_u4
    clear h_u5
    replace S : Exs c (fun fs => fs = ([("found", V.int n)] : List (Str × V))) (fun i => 22 ≤ i ∧ i < 27) _ [(a20, 22), (a21, 23), (a22, 24), (a23, 25), (a24, 26), (a25, 22), (a26, 23), (a27, 24), (a28, 25), (a29, 26)] := S
    generalize hL : ([(a20, 22), (a21, 23), (a22, 24), (a23, 25), (a24, 26), (a25, 22), (a26, 23), (a27, 24), (a28, 25), (a29, 26)] : List (Addr × Nat)) = L at S
    replace h_u6 : H_u6 u6 = some (.lst (L.map fun p => V.ref p.1)) := by rw [← hL]; exact h_u6
    have hlen : L.length = 10 := by rw [← hL]; rfl
    have his : L.map (·.2) = [22, 23, 24, 25, 26, 22, 23, 24, 25, 26] := by rw [← hL]; rfl
    clear hL
    intro D4 hD4
    refine lcL (All fun _ v _ => v = V.int n) (all_mono fun _ _ _ _ _ h => h) hD4 (SqL.of h_u6) (by rw [List.length_map, hlen]; decide) (fun j x hj G eG Q1 Q2 q1 q2 => ?_) (fun G_D4 os eG hl hDG hp => ?_)
    · obtain ⟨p, hpj, rfl, hp, fs, rfl, hx⟩ := S.at hj
      refine ⟨rfl, ?_⟩
      repeat fail "st"
      refine ⟨p.1, c p.2, _, V.int n, cM.exk _ (by omega), cM.noF hp, rfl, hx.up eG, rfl, ?_⟩
      exact q1 _ _ (Ex.refl _) ⟨_, rfl, rfl⟩
    obtain ⟨ys, ey, ly, hy⟩ := All.end hp
    rw [ey] at hDG
    rw [hl, List.length_map, hlen] at ly
    obtain rfl : ys = List.replicate 10 (V.int n) := List.eq_replicate_iff.mpr ⟨ly, fun y hy1 => by obtain ⟨i, hi, e⟩ := List.getElem_of_mem hy1; exact hy i y (by rw [List.getElem?_eq_getElem hi, e])⟩
    have h_D4 := hDG
    clear hDG hp hy
    have S := S.up eG
    have E := E.trans eG
    have h_o0 := eG _ _ h_o0
    have h_u6 := eG _ _ h_u6
    clear eG
    repeat fail "st"
    try dsimp only [List.set]
    intro w4 n_w4
    generalize hh : upd _ w4 _ = H_w4
    have e_w4 := newEx hh n_w4
    have h_w4 := newAt hh
    clear hh
    have S := S.up e_w4
    have E := E.trans e_w4
    have h_o0 := e_w4 _ _ h_o0
    have h_u6 := e_w4 _ _ h_u6
    have h_D4 := e_w4 _ _ h_D4
    clear e_w4
    repeat fail "st"
    try dsimp only [List.set]
    refine tC_at ?_
    refine repK (n := 10) h_w4 (by decide) ?_
    intro w5 n_w5
    generalize hh : upd _ w5 _ = H_w5
    have e_w5 := newEx hh n_w5
    have h_w5 := newAt hh
    clear hh
    have S := S.up e_w5
    have E := E.trans e_w5
    have h_o0 := e_w5 _ _ h_o0
    have h_u6 := e_w5 _ _ h_u6
    have h_D4 := e_w5 _ _ h_D4
    have h_w4 := e_w5 _ _ h_w4
    clear e_w5
    repeat fail "st"
    try dsimp only [List.set]
    refine ⟨_, _, .lst (SqL.of h_D4) (dps_rep (.int n) 10), .lst (SqL.of h_w5) (dps_rep (.int n) 10), rfl, rfl, ?_⟩
    rw [PySem.SeqAt.eqv_refl _ rfl]
    repeat fail "st"
    try dsimp only [List.set]
    clear h_D4
    clear h_w4
    clear h_w5
    intro D5 hD5
    refine lcL (All fun j v _ => ∃ p, L[j]? = some p ∧ v = V.int (p.2 : Nat)) (all_mono fun _ _ _ _ _ h => h) hD5 (SqL.of h_u6) (by rw [List.length_map, hlen]; decide) (fun j x hj G eG Q1 Q2 q1 q2 => ?_) (fun G_D5 os eG hl hDG hp => ?_)
    · obtain ⟨p, hpj, rfl, hp, fs, _, hx⟩ := S.at hj
      refine ⟨rfl, ?_⟩
      repeat fail "st"
      refine ⟨p.1, p.2, _, (by omega), rfl, hx.up eG, fun G2 e2 => ?_⟩
      exact q1 _ _ e2 ⟨_, rfl, p, hpj, rfl⟩
    obtain ⟨ys, ey, ly, hy⟩ := All.end hp
    rw [ey] at hDG
    rw [hl, List.length_map] at ly
    obtain rfl := ys_map ly hy
    have h_D5 := hDG
    clear hDG hp hy
    have S := S.up eG
    have E := E.trans eG
    have h_o0 := eG _ _ h_o0
    have h_u6 := eG _ _ h_u6
    clear eG
    repeat fail "st"
    try dsimp only [List.set]
    have d_D5 := dp_whs (K := K) h_D5
    rw [his] at d_D5
    intro w6 n_w6
    generalize hh : upd _ w6 _ = H_w6
    have e_w6 := newEx hh n_w6
    have h_w6 := newAt hh
    clear hh
    have S := S.up e_w6
    have E := E.trans e_w6
    have h_o0 := e_w6 _ _ h_o0
    have h_u6 := e_w6 _ _ h_u6
    have h_D5 := e_w6 _ _ h_D5
    clear e_w6
    repeat fail "st"
    try dsimp only [List.set]
    refine tC_at ?_
    refine rep2 h_w6 (by decide) ?_
    intro w7 n_w7
    generalize hh : upd _ w7 _ = H_w7
    have e_w7 := newEx hh n_w7
    have h_w7 := newAt hh
    clear hh
    have S := S.up e_w7
    have E := E.trans e_w7
    have h_o0 := e_w7 _ _ h_o0
    have h_u6 := e_w7 _ _ h_u6
    have h_D5 := e_w7 _ _ h_D5
    have h_w6 := e_w7 _ _ h_w6
    clear e_w7
    repeat fail "st"
    try dsimp only [List.set]
    have d_w7 := dp_nats (K := K) (ns := [22, 23, 24, 25, 26, 22, 23, 24, 25, 26]) h_w7 rfl
    have d_D5 := dp_whs (K := K) h_D5
    rw [his] at d_D5
    refine ⟨_, _, d_D5, d_w7, rfl, rfl, ?_⟩
    rw [PySem.SeqAt.eqv_refl _ rfl]
    repeat fail "st"
    try dsimp only [List.set]
    exact q _ E
end

end K13
namespace K13
open PySem PySem.Spec PyProof.Rows L2 Evl Lw
section
variable {P : Program} {w : World} {K : PySem.W.Frag} {mg : Str → Option Value} {base : Heap} {c : Nat → Addr} {B : EB → Addr}
theorem dps_int {H : Hp} : ∀ is : List Int, DpAll K H (is.map V.int) (is.map PyData.int)
  | [] => .nil
  | i :: is => .cons (.int i) (dps_int is)
theorem dp_ints {H : Hp} {l : Addr} {is : List Int} {xs : List V} (h : H l = some (.lst xs)) (e : xs = is.map V.int := by rfl) : Dp K H (.ref l) (.list (is.map PyData.int)) := by
  subst e
  exact .lst (SqL.of h) (dps_int _)
theorem Thing.of {H : Hp} {v : V} {d : PyData} (h : Dp K H v d) (s : SeqAt.shaped d = true) : Thing K H v := .inl ⟨d, h, s, PySem.SeqAt.eqv_refl _ (SeqAt.canLay_of_shaped s)⟩
set_option maxHeartbeats 8000000 in
theorem c_law (T : Txt K mg) (cM : Errs P w K mg base c B) : Cl P w K mg base CX0 32 "law" s_law ["_law_script"] (spLaw K) := by
  refine cl_of (k := 31) T.d_law sc_law (fun vs H Q E h => ?_) (fun f cdv A outer s H vs Q E hr h => ?_)
  · obtain ⟨a, ns, rfl, _⟩ := h
    rfl
  · obtain ⟨a, ns, rfl, hS, hl, q⟩ := h
    have nd := sc_law.nd
    refine ⟨_, (pss_cons (ps_set (i := 1) nd rfl (Or.inl rfl) (pe_lst (pa_cons (C8.pe_gc (by rfl) T.g_MOST_SURFACES) (pa_cons (C8.pe_gc (by rfl) T.g_MOST_SIZE) (pa_cons (C8.pe_gc (by rfl) T.g_MOST_COLOUR) (pa_cons (C8.pe_gc (by rfl) T.g_MOST_ORDERS) (pa_cons (C8.pe_gc (by rfl) T.g_MOST_COPIES) (pa_cons (C8.pe_gc (by rfl) T.g_MOST_KEYS) (pa_cons (C8.pe_gc (by rfl) T.g_MOST_RECOLOURS) (pa_cons (C8.pe_gc (by rfl) T.g_MOST_PAIRS) pa_nil))))))))))
      (pss_cons (ps_set (i := 1) nd rfl (Or.inl rfl) (pe_op op_cat (pv 1) (pe_lst (pa_cons (C8.pe_gc (by rfl) T.g_MOST_REPEAT) (pa_cons (C8.pe_gc (by rfl) T.g_MOST_LEVELS) (pa_cons (C8.pe_gc (by rfl) T.g_MOST_PARTS) (pa_cons (C8.pe_gc (by rfl) T.g_MOST_EDITS) pa_nil)))))))
      (pss_cons (ps_if (pt_cmpR (op_neD hr.units) (pv 1) (pe_lst (pa_cons pe_int (pa_cons (pe_op op_pow pe_int pe_int) (pa_cons (pe_op op_pow pe_int pe_int) (pa_cons pe_int (pa_cons pe_int (pa_cons pe_int (pa_cons pe_int (pa_cons pe_int (pa_cons pe_int (pa_cons pe_int (pa_cons pe_int (pa_cons pe_int pa_nil))))))))))))) (nomark _)) (pss_one (ps_ret pe_bl)) pss_nil)
      (pss_cons (ps_for PassesOwn.never rfl (pi_range1 (by rfl) T.b_range (pa_cons (pe_callB (call_max2 rfl) (by rfl) T.b_max bt_max (pa_cons pe_int (pa_cons (pe_callB (call_min2 rfl) (by rfl) T.b_min bt_min (pa_cons (pe_callB (call_len) (by rfl) T.b_len bt_len (pa_cons (pv 0) pa_nil)) (pa_cons pe_int pa_nil))) pa_nil))) pa_nil)) (pg_name (i := 2) nd rfl (Or.inl rfl)) (pss_cons (ps_set (i := 3) nd rfl (Or.inl rfl) (Lw.pe_cl (c_law_pool T) b_law_pool hr (by decide) (by rfl) pass0 (pa_cons (Lw.pe_cl (c_law_cell T) b_law_cell hr (by decide) (by rfl) pass0 (pa_cons (pv 0) (pa_cons (pv 2) pa_nil))) pa_nil)))
      (pss_cons (ps_set (i := 4) nd rfl (Or.inl rfl) (pe_lst (pa_cons pe_non (pa_cons pe_int (pa_cons pe_str (pa_cons (pe_tup (pa_cons pe_int (pa_cons pe_int pa_nil))) (pa_cons pe_bl (pa_cons (pe_un un_neg pe_int) (pa_cons (pe_op op_pow pe_int pe_int) (pa_cons (pe_tup (pa_cons pe_str (pa_cons pe_int (pa_cons pe_int pa_nil)))) (pa_cons (pe_lst pa_nil) (pa_cons pe_dnewK pa_nil))))))))))))
      (pss_cons (ps_set (i := 5) nd rfl (Or.inl rfl) (pe_ix ix_seq (pv 4) (Lw.pe_cl (c_law_draw T) b_law_draw hr (by decide) (by rfl) pass0 (pa_cons (pv 3) (pa_cons pe_int pa_nil))) (fun _ _ => rfl)))
      (pss_cons (ps_par (i := 6) (j := 7) rfl nd rfl rfl (by decide) rfl rfl (pa_cons (pe_ix ix_seq (pe_lst (pa_cons pe_int (pa_cons pe_int (pa_cons pe_int (pa_cons (pe_op op_pow pe_int pe_int) (pa_cons (Lw.pe_cl (c_law_draw T) b_law_draw hr (by decide) (by rfl) pass0 (pa_cons (pv 3) (pa_cons (pe_op op_pow pe_int pe_int) pa_nil))) pa_nil)))))) (Lw.pe_cl (c_law_draw T) b_law_draw hr (by decide) (by rfl) pass0 (pa_cons (pv 3) (pa_cons pe_int pa_nil))) (fun _ _ => rfl)) (pa_cons (pe_slice sl_str pe_str (po_some (Lw.pe_cl (c_law_draw T) b_law_draw hr (by decide) (by rfl) pass0 (pa_cons (pv 3) (pa_cons pe_int pa_nil)))) po_none) pa_nil)) (by rfl))
      (pss_one (ps_if (PW.pt (pw_or (pt_not (pt_val (Lw.pe_cl (c_law_values_right T cM) b_law_values_right hr (by decide) (by rfl) pass0 (pa_cons (pv 5) pa_nil)))) (pw_or1 (pt_not (pt_val (Lw.pe_cl (c_law_others_right T cM) b_law_others_right hr (by decide) (by rfl) pass0 (pa_cons (pv 6) (pa_cons (pv 7) pa_nil)))))))) (pss_one (ps_ret pe_bl)) pss_nil)))))))
      (pss_one (ps_ret pe_bl)))))), ?_⟩
    rw [show L2.start N_law [V.ref a] = [some (.ref a), none, none, none, none, none, none, none] from rfl]
    repeat fail "st"
    intro l0 n_l0
    generalize hh : upd _ l0 _ = H_l0
    have e_l0 := newEx hh n_l0
    have h_l0 := newAt hh
    clear hh
    repeat fail "st"
    intro l1 n_l1
    generalize hh : upd _ l1 _ = H_l1
    have e_l1 := newEx hh n_l1
    have h_l1 := newAt hh
    clear hh
    have h_l0 := e_l1 _ _ h_l0
    repeat fail "st"
    refine ⟨_, _, _, _, rfl, rfl, h_l0, h_l1, Nat.le_trans (Nat.le_of_ble_eq_true rfl) Lw.line_ge, ?_⟩
    intro l2 n_l2
    generalize hh : upd _ l2 _ = H_l2
    have e_l2 := newEx hh n_l2
    have h_l2 := newAt hh
    clear hh
    repeat fail "st"
    intro l3 n_l3
    generalize hh : upd _ l3 _ = H_l3
    have e_l3 := newEx hh n_l3
    have h_l3 := newAt hh
    clear hh
    have h_l2 := e_l3 _ _ h_l2
    have E0 := ((e_l0.trans e_l1).trans e_l2).trans e_l3
    have d_l2 := dp_ints (K := K) (is := [6, 1000000000000, 1000000000, 16, 4, 2, 4, 2, 12, 6, 8, 100]) h_l2
    have d_l3 := dp_ints (K := K) (is := [6, 1000000000000, 1000000000, 16, 4, 2, 4, 2, 12, 6, 8, 100]) h_l3
    clear h_l0 h_l1 h_l2 h_l3 e_l0 e_l1 e_l2 e_l3
    refine ⟨_, _, d_l2, d_l3, rfl, rfl, ?_⟩
    rw [PySem.SeqAt.eqv_refl _ rfl]
    clear d_l2 d_l3
    repeat fail "st"
    have hS := ex_l E0 hS
    refine for_range (fun _ σ H' => ∃ y2 y3 y4 y5 y6 y7, σ = [some (.ref a), some (.ref l2), y2, y3, y4, y5, y6, y7] ∧ Ex H_l3 H') ⟨_, _, _, _, _, _, rfl, Ex.refl _⟩ ?_ ?_
    · rintro i _ H' hi ⟨y2, y3, y4, y5, y6, y7, rfl, e⟩
      have hi6 : i ≤ 6 := by
        revert hi
        (repeat' split) <;> omega
      have hS' := ex_l e hS
      repeat fail "st"
      refine ⟨_, _, _, rfl, (by fail "sql"), hl, by omega, by omega, fun c Hc ec => ?_⟩
      repeat fail "st"
      intro pl Hp np ep pp
      have e := e.trans (ec.trans ep)
      clear ec ep hS'
      repeat fail "st"
      intro t1 n_t1
      generalize hh : upd _ t1 _ = H_t1
      have e_t1 := newEx hh n_t1
      have h_t1 := newAt hh
      clear hh
      repeat fail "st"
      intro t2 n_t2
      generalize hh : upd _ t2 _ = H_t2
      have e_t2 := newEx hh n_t2
      have h_t2 := newAt hh
      clear hh
      have h_t1 := e_t2 _ _ h_t1
      repeat fail "st"
      intro t3 n_t3
      generalize hh : upd _ t3 _ = H_t3
      have e_t3 := newEx hh n_t3
      have h_t3 := newAt hh
      clear hh
      have h_t1 := e_t3 _ _ h_t1
      have h_t2 := e_t3 _ _ h_t2
      repeat fail "st"
      intro t4 n_t4
      generalize hh : upd _ t4 _ = H_t4
      have e_t4 := newEx hh n_t4
      have h_t4 := newAt hh
      clear hh
      have h_t1 := e_t4 _ _ h_t1
      have h_t2 := e_t4 _ _ h_t2
      have h_t3 := e_t4 _ _ h_t3
      repeat fail "st"
      intro l4 n_l4
      generalize hh : upd _ l4 _ = H_l4
      have e_l4 := newEx hh n_l4
      have h_l4 := newAt hh
      clear hh
      have h_t1 := e_l4 _ _ h_t1
      have h_t2 := e_l4 _ _ h_t2
      have h_t3 := e_l4 _ _ h_t3
      have h_t4 := e_l4 _ _ h_t4
      have e4 := (((e_t1.trans e_t2).trans e_t3).trans e_t4).trans e_l4
      have e := e.trans e4
      have pp := pp.up e4
      clear e_t1 e_t2 e_t3 e_t4 e_l4 e4
      have hT : ∀ v ∈ [V.non, V.int 0, V.str "a", V.ref t1, V.bl true, V.int (-3), V.int (10 ^ 30), V.ref t2, V.ref t3, V.ref t4], Thing K H_l4 v := by
        intro v m
        simp only [List.mem_cons, List.not_mem_nil, or_false] at m
        rcases m with rfl | rfl | rfl | rfl | rfl | rfl | rfl | rfl | rfl | rfl
        · exact .of .non rfl
        · exact .of (.int _) rfl
        · exact .of (.str _) (by decide +kernel)
        · exact .of (.tup (SqT.of h_t1) (.cons (.int _) (.cons (.int _) .nil))) rfl
        · exact .of (.bl _) rfl
        · exact .of (.int _) rfl
        · exact .of (.int _) rfl
        · exact .of (.tup (SqT.of h_t2) (.cons (.str _) (.cons (.int _) (.cons (.int _) .nil)))) (by decide +kernel)
        · exact .of (.lst (SqL.of h_t3) .nil) rfl
        · exact .inr ⟨_, rfl, h_t4⟩
      clear h_t1 h_t2 h_t3 h_t4
      repeat fail "st"
      intro d H_d e_d d_0 d_1
      have h_l4 := e_d _ _ h_l4
      have pp := pp.up e_d
      have e := e.trans e_d
      refine ix_in (.inl (SqL.of h_l4)) d_0 d_1 (fun v hv => ?_)
      have tv := (hT v hv).up e_d
      clear hT h_l4 hv e_d
      repeat fail "st"
      intro dd H_dd e_dd _ _
      have pp := pp.up e_dd
      have tv := tv.up e_dd
      have e := e.trans e_dd
      repeat fail "st"
      intro ol n_ol
      generalize hh : upd _ ol _ = H_ol
      have e_ol := newEx hh n_ol
      have h_ol := newAt hh
      clear hh
      have pp := pp.up e_ol
      have tv := tv.up e_ol
      have e := e.trans e_ol
      repeat fail "st"
      intro d5 H_d5 e_d5 d5_0 d5_1
      have pp := pp.up e_d5
      have tv := tv.up e_d5
      have e := e.trans e_d5
      have h_ol := e_d5 _ _ h_ol
      refine ix_in (.inl (SqL.of h_ol)) d5_0 d5_1 (fun v2 hv2 => ?_)
      obtain ⟨n, rfl⟩ : ∃ n, v2 = V.int n := by
        simp only [List.mem_cons, List.not_mem_nil, or_false] at hv2
        rcases hv2 with rfl | rfl | rfl | rfl | rfl
        all_goals exact ⟨_, rfl⟩
      clear h_ol hv2 e_d5 e_ol e_dd
      repeat fail "st"
      intro d8 H_d8 e_d8 d8_0 d8_1
      have tv := tv.up e_d8
      have e := e.trans e_d8
      obtain ⟨z, hz, ez⟩ : ∃ z, PyData.strOk z = true ∧ cutS (Str.ofString "abcdefgh") (some d8) none = z := by
        refine ⟨_, ?_, rfl⟩
        obtain rfl | rfl | rfl | rfl | rfl | rfl | rfl | rfl : d8 = 0 ∨ d8 = 1 ∨ d8 = 2 ∨ d8 = 3 ∨ d8 = 4 ∨ d8 = 5 ∨ d8 = 6 ∨ d8 = 7 := by omega
        all_goals decide +kernel
      refine ⟨_, rfl, ?_⟩
      refine ⟨_, rfl, ?_⟩
      refine ⟨Nat.le_trans (Nat.le_of_ble_eq_true rfl) Lw.line_ge, ?_⟩
      rw [ez]
      clear ez
      refine ⟨_, _, rfl, ?_⟩
      repeat fail "st"

      refine ⟨tv, fun H1 e1 => ?_⟩
      repeat fail "st"
      refine ⟨hz, fun H2 e2 => ?_⟩
      repeat fail "st"
      exact ⟨_, _, _, _, _, _, rfl, e.trans (e1.trans e2)⟩
    · rintro _ H' ⟨y2, y3, y4, y5, y6, y7, rfl, e⟩
      repeat fail "st"
      exact q _
theorem law_mk {fa : Addr} (T : Txt K mg) (hfa : mg "law" = some (.ref fa)) : ∃ fd, (∀ (s : Shared) (u : Value), BindsTo s fd ⟨[u], []⟩ [("_law_script", u)]) ∧
    ∀ base : Heap, K.In base → base.Ns mainGlobals mg → FnOk P w K mg base CX0 32 fa fd ["_law_script"] (spLaw K) := by
  obtain ⟨fd, F, b⟩ := law_fd T.d_law b_law hfa
  refine ⟨fd, b, fun base _ _ => ?_⟩
  obtain ⟨c, B, cM⟩ := errs_of (P := P) (w := w) (base := base) T
  exact (c_law T cM).at F hfa
theorem law_sp {H : Hp} {a : Addr} {ns : List Int} (hl : ns.length ≤ 63) (hS : SqL K H a (ns.map V.int)) : spLaw K [.ref a] H (fun v _ => v = .bl true) fun _ _ _ => False := ⟨a, ns, rfl, hS, hl, fun _ => rfl⟩
end

end K13
open PySem PySem.W PyProof.Rows
set_option maxHeartbeats 0 in
theorem PySem.Challenge.cw_allscreens_k13_limits_and_errors_holds : PySem.Challenge.rw_allscreens_k13_limits_and_errors.Holds := by
  w_on; o_law; k_head; (case hw => w_witness2)
  k_fill
  refine L2.walk_of (l := PySem.Challenge.rw_allscreens_k13_limits_and_errors) (n := 63) (k := 32) (x := "_law_script") (CX := fun _ => L2.CX0) (sp := fun w => Lw.spLaw _) rfl (by decide) rfl ⟨rfl, by decide, by decide⟩ (fun w h Y => PySem.W.kIn_of Y) ?F (fun _ _ a ns hl _ hS => K13.law_sp hl hS) (fun _ _ _ _ _ h => h)
  case F =>
    intro w mg fa h KX G hmg
    refine' K13.law_mk ⟨Lw.defAt_mk KX G ?a0 ?l0 ?c0 ?k0, Lw.defAt_mk KX G ?a1 ?l1 ?c1 ?k1, Lw.defAt_mk KX G ?a2 ?l2 ?c2 ?k2, Lw.defAt_mk KX G ?a3 ?l3 ?c3 ?k3, Lw.defAt_mk KX G ?a4 ?l4 ?c4 ?k4, Lw.defAt_mk KX G ?a5 ?l5 ?c5 ?k5, Lw.defAt_mk KX G ?a6 ?l6 ?c6 ?k6, PySem.W.mg_none_of KX G ?z0, PySem.W.mg_none_of KX G ?z1, PySem.W.mg_none_of KX G ?z2, PySem.W.mg_none_of KX G ?z3, PySem.W.mg_none_of KX G ?z4, PySem.W.mg_none_of KX G ?z5, PySem.W.mg_none_of KX G ?z6, PySem.W.mg_none_of KX G ?z7, PySem.W.mg_none_of KX G ?z8, PySem.W.mg_none_of KX G ?z9, PySem.W.mg_none_of KX G ?z10, PySem.W.mg_none_of KX G ?z11, ⟨_, _, _, _, _, _, _, _, _, _, _, _, _, _, _, _, _, _, _, _, _, _, _, _, _, _, _, _, _, _, Lw.clsV_mk KX G ?v0_0 ?v0_1 ?v0_2 ?v0_3 ?v0_4 ?v0_5 ?v0_6 ?v0_7 ?v0_8 ?v0_9 ?v0_10 ?v0_11 ?v0_12 ?v0_13 ?v0_14 ?v0_15 ?v0_16 ?v0_17 ?v0_18, Lw.clsV_mk KX G ?v1_0 ?v1_1 ?v1_2 ?v1_3 ?v1_4 ?v1_5 ?v1_6 ?v1_7 ?v1_8 ?v1_9 ?v1_10 ?v1_11 ?v1_12 ?v1_13 ?v1_14 ?v1_15 ?v1_16 ?v1_17 ?v1_18, Lw.clsV_mk KX G ?v2_0 ?v2_1 ?v2_2 ?v2_3 ?v2_4 ?v2_5 ?v2_6 ?v2_7 ?v2_8 ?v2_9 ?v2_10 ?v2_11 ?v2_12 ?v2_13 ?v2_14 ?v2_15 ?v2_16 ?v2_17 ?v2_18, Lw.clsV_mk KX G ?v3_0 ?v3_1 ?v3_2 ?v3_3 ?v3_4 ?v3_5 ?v3_6 ?v3_7 ?v3_8 ?v3_9 ?v3_10 ?v3_11 ?v3_12 ?v3_13 ?v3_14 ?v3_15 ?v3_16 ?v3_17 ?v3_18, Lw.clsV_mk KX G ?v4_0 ?v4_1 ?v4_2 ?v4_3 ?v4_4 ?v4_5 ?v4_6 ?v4_7 ?v4_8 ?v4_9 ?v4_10 ?v4_11 ?v4_12 ?v4_13 ?v4_14 ?v4_15 ?v4_16 ?v4_17 ?v4_18, Lw.clsV_mk KX G ?v5_0 ?v5_1 ?v5_2 ?v5_3 ?v5_4 ?v5_5 ?v5_6 ?v5_7 ?v5_8 ?v5_9 ?v5_10 ?v5_11 ?v5_12 ?v5_13 ?v5_14 ?v5_15 ?v5_16 ?v5_17 ?v5_18, Lw.clsV_mk KX G ?v6_0 ?v6_1 ?v6_2 ?v6_3 ?v6_4 ?v6_5 ?v6_6 ?v6_7 ?v6_8 ?v6_9 ?v6_10 ?v6_11 ?v6_12 ?v6_13 ?v6_14 ?v6_15 ?v6_16 ?v6_17 ?v6_18, Lw.clsV_mk KX G ?v7_0 ?v7_1 ?v7_2 ?v7_3 ?v7_4 ?v7_5 ?v7_6 ?v7_7 ?v7_8 ?v7_9 ?v7_10 ?v7_11 ?v7_12 ?v7_13 ?v7_14 ?v7_15 ?v7_16 ?v7_17 ?v7_18, Lw.clsV_mk KX G ?v8_0 ?v8_1 ?v8_2 ?v8_3 ?v8_4 ?v8_5 ?v8_6 ?v8_7 ?v8_8 ?v8_9 ?v8_10 ?v8_11 ?v8_12 ?v8_13 ?v8_14 ?v8_15 ?v8_16 ?v8_17 ?v8_18, Lw.clsV_mk KX G ?v9_0 ?v9_1 ?v9_2 ?v9_3 ?v9_4 ?v9_5 ?v9_6 ?v9_7 ?v9_8 ?v9_9 ?v9_10 ?v9_11 ?v9_12 ?v9_13 ?v9_14 ?v9_15 ?v9_16 ?v9_17 ?v9_18, Lw.clsV_mk KX G ?v10_0 ?v10_1 ?v10_2 ?v10_3 ?v10_4 ?v10_5 ?v10_6 ?v10_7 ?v10_8 ?v10_9 ?v10_10 ?v10_11 ?v10_12 ?v10_13 ?v10_14 ?v10_15 ?v10_16 ?v10_17 ?v10_18, Lw.clsV_mk KX G ?v11_0 ?v11_1 ?v11_2 ?v11_3 ?v11_4 ?v11_5 ?v11_6 ?v11_7 ?v11_8 ?v11_9 ?v11_10 ?v11_11 ?v11_12 ?v11_13 ?v11_14 ?v11_15 ?v11_16 ?v11_17 ?v11_18, Lw.clsV_mk KX G ?v12_0 ?v12_1 ?v12_2 ?v12_3 ?v12_4 ?v12_5 ?v12_6 ?v12_7 ?v12_8 ?v12_9 ?v12_10 ?v12_11 ?v12_12 ?v12_13 ?v12_14 ?v12_15 ?v12_16 ?v12_17 ?v12_18, Lw.clsV_mk KX G ?v13_0 ?v13_1 ?v13_2 ?v13_3 ?v13_4 ?v13_5 ?v13_6 ?v13_7 ?v13_8 ?v13_9 ?v13_10 ?v13_11 ?v13_12 ?v13_13 ?v13_14 ?v13_15 ?v13_16 ?v13_17 ?v13_18, Lw.clsV_mk KX G ?v14_0 ?v14_1 ?v14_2 ?v14_3 ?v14_4 ?v14_5 ?v14_6 ?v14_7 ?v14_8 ?v14_9 ?v14_10 ?v14_11 ?v14_12 ?v14_13 ?v14_14 ?v14_15 ?v14_16 ?v14_17 ?v14_18, Lw.clsV_mk KX G ?v15_0 ?v15_1 ?v15_2 ?v15_3 ?v15_4 ?v15_5 ?v15_6 ?v15_7 ?v15_8 ?v15_9 ?v15_10 ?v15_11 ?v15_12 ?v15_13 ?v15_14 ?v15_15 ?v15_16 ?v15_17 ?v15_18, Lw.clsV_mk KX G ?v16_0 ?v16_1 ?v16_2 ?v16_3 ?v16_4 ?v16_5 ?v16_6 ?v16_7 ?v16_8 ?v16_9 ?v16_10 ?v16_11 ?v16_12 ?v16_13 ?v16_14 ?v16_15 ?v16_16 ?v16_17 ?v16_18, Lw.clsV_mk KX G ?v17_0 ?v17_1 ?v17_2 ?v17_3 ?v17_4 ?v17_5 ?v17_6 ?v17_7 ?v17_8 ?v17_9 ?v17_10 ?v17_11 ?v17_12 ?v17_13 ?v17_14 ?v17_15 ?v17_16 ?v17_17 ?v17_18, Lw.clsV_mk KX G ?v18_0 ?v18_1 ?v18_2 ?v18_3 ?v18_4 ?v18_5 ?v18_6 ?v18_7 ?v18_8 ?v18_9 ?v18_10 ?v18_11 ?v18_12 ?v18_13 ?v18_14 ?v18_15 ?v18_16 ?v18_17 ?v18_18, Lw.clsV_mk KX G ?v19_0 ?v19_1 ?v19_2 ?v19_3 ?v19_4 ?v19_5 ?v19_6 ?v19_7 ?v19_8 ?v19_9 ?v19_10 ?v19_11 ?v19_12 ?v19_13 ?v19_14 ?v19_15 ?v19_16 ?v19_17 ?v19_18, Lw.clsV_mk KX G ?v20_0 ?v20_1 ?v20_2 ?v20_3 ?v20_4 ?v20_5 ?v20_6 ?v20_7 ?v20_8 ?v20_9 ?v20_10 ?v20_11 ?v20_12 ?v20_13 ?v20_14 ?v20_15 ?v20_16 ?v20_17 ?v20_18, Lw.clsV_mk KX G ?v21_0 ?v21_1 ?v21_2 ?v21_3 ?v21_4 ?v21_5 ?v21_6 ?v21_7 ?v21_8 ?v21_9 ?v21_10 ?v21_11 ?v21_12 ?v21_13 ?v21_14 ?v21_15 ?v21_16 ?v21_17 ?v21_18, Lw.clsV_mk KX G ?v22_0 ?v22_1 ?v22_2 ?v22_3 ?v22_4 ?v22_5 ?v22_6 ?v22_7 ?v22_8 ?v22_9 ?v22_10 ?v22_11 ?v22_12 ?v22_13 ?v22_14 ?v22_15 ?v22_16 ?v22_17 ?v22_18, Lw.clsV_mk KX G ?v23_0 ?v23_1 ?v23_2 ?v23_3 ?v23_4 ?v23_5 ?v23_6 ?v23_7 ?v23_8 ?v23_9 ?v23_10 ?v23_11 ?v23_12 ?v23_13 ?v23_14 ?v23_15 ?v23_16 ?v23_17 ?v23_18, Lw.clsV_mk KX G ?v24_0 ?v24_1 ?v24_2 ?v24_3 ?v24_4 ?v24_5 ?v24_6 ?v24_7 ?v24_8 ?v24_9 ?v24_10 ?v24_11 ?v24_12 ?v24_13 ?v24_14 ?v24_15 ?v24_16 ?v24_17 ?v24_18, Lw.clsV_mk KX G ?v25_0 ?v25_1 ?v25_2 ?v25_3 ?v25_4 ?v25_5 ?v25_6 ?v25_7 ?v25_8 ?v25_9 ?v25_10 ?v25_11 ?v25_12 ?v25_13 ?v25_14 ?v25_15 ?v25_16 ?v25_17 ?v25_18, Lw.clsV_mk KX G ?v26_0 ?v26_1 ?v26_2 ?v26_3 ?v26_4 ?v26_5 ?v26_6 ?v26_7 ?v26_8 ?v26_9 ?v26_10 ?v26_11 ?v26_12 ?v26_13 ?v26_14 ?v26_15 ?v26_16 ?v26_17 ?v26_18, Lw.basV_mk KX G ?w0_0 ?w0_1 ?w0_2 ?w0_3 ?w0_4, Lw.basV_mk KX G ?w1_0 ?w1_1 ?w1_2 ?w1_3 ?w1_4, Lw.basV_mk KX G ?w2_0 ?w2_1 ?w2_2 ?w2_3 ?w2_4, ?wh⟩, Lw.const_mk KX G ?cst0 ?rst0, Lw.const_mk KX G ?cst1 ?rst1, Lw.const_mk KX G ?cst2 ?rst2, Lw.const_mk KX G ?cst3 ?rst3, Lw.const_mk KX G ?cst4 ?rst4, Lw.const_mk KX G ?cst5 ?rst5, Lw.const_mk KX G ?cst6 ?rst6, Lw.const_mk KX G ?cst7 ?rst7, Lw.const_mk KX G ?cst8 ?rst8, Lw.const_mk KX G ?cst9 ?rst9, Lw.const_mk KX G ?cst10 ?rst10, Lw.const_mk KX G ?cst11 ?rst11⟩ hmg
    (case a0 => k_is)
    (case l0 => k_is)
    (case c0 => k_is)
    (case k0 => k_is)
    (case a1 => k_is)
    (case l1 => k_is)
    (case c1 => k_is)
    (case k1 => k_is)
    (case a2 => k_is)
    (case l2 => k_is)
    (case c2 => k_is)
    (case k2 => k_is)
    (case a3 => k_is)
    (case l3 => k_is)
    (case c3 => k_is)
    (case k3 => k_is)
    (case a4 => k_is)
    (case l4 => k_is)
    (case c4 => k_is)
    (case k4 => k_is)
    (case a5 => k_is)
    (case l5 => k_is)
    (case c5 => k_is)
    (case k5 => k_is)
    (case a6 => k_is)
    (case l6 => k_is)
    (case c6 => k_is)
    (case k6 => k_is)
    (case z0 => k_is)
    (case z1 => k_is)
    (case z2 => k_is)
    (case z3 => k_is)
    (case z4 => k_is)
    (case z5 => k_is)
    (case z6 => k_is)
    (case z7 => k_is)
    (case z8 => k_is)
    (case z9 => k_is)
    (case z10 => k_is)
    (case z11 => k_is)
    (case v0_0 => k_is)
    (case v0_1 => k_is)
    (case v0_3 => k_is)
    (case v0_4 => k_is)
    (case v0_5 => k_is)
    (case v0_6 => k_is)
    (case v0_7 => k_is)
    (case v0_8 => k_is)
    (case v0_9 => k_is)
    (case v0_10 => k_is)
    (case v0_11 => k_is)
    (case v0_12 => k_is)
    (case v0_13 => k_is)
    (case v0_14 => k_is)
    (case v0_15 => k_is)
    (case v0_16 => k_is)
    (case v0_17 => k_is)
    (case v1_0 => k_is)
    (case v1_1 => k_is)
    (case v1_3 => k_is)
    (case v1_4 => k_is)
    (case v1_5 => k_is)
    (case v1_6 => k_is)
    (case v1_7 => k_is)
    (case v1_8 => k_is)
    (case v1_9 => k_is)
    (case v1_10 => k_is)
    (case v1_11 => k_is)
    (case v1_12 => k_is)
    (case v1_13 => k_is)
    (case v1_14 => k_is)
    (case v1_15 => k_is)
    (case v1_16 => k_is)
    (case v1_17 => k_is)
    (case v2_0 => k_is)
    (case v2_1 => k_is)
    (case v2_3 => k_is)
    (case v2_4 => k_is)
    (case v2_5 => k_is)
    (case v2_6 => k_is)
    (case v2_7 => k_is)
    (case v2_8 => k_is)
    (case v2_9 => k_is)
    (case v2_10 => k_is)
    (case v2_11 => k_is)
    (case v2_12 => k_is)
    (case v2_13 => k_is)
    (case v2_14 => k_is)
    (case v2_15 => k_is)
    (case v2_16 => k_is)
    (case v2_17 => k_is)
    (case v3_0 => k_is)
    (case v3_1 => k_is)
    (case v3_3 => k_is)
    (case v3_4 => k_is)
    (case v3_5 => k_is)
    (case v3_6 => k_is)
    (case v3_7 => k_is)
    (case v3_8 => k_is)
    (case v3_9 => k_is)
    (case v3_10 => k_is)
    (case v3_11 => k_is)
    (case v3_12 => k_is)
    (case v3_13 => k_is)
    (case v3_14 => k_is)
    (case v3_15 => k_is)
    (case v3_16 => k_is)
    (case v3_17 => k_is)
    (case v4_0 => k_is)
    (case v4_1 => k_is)
    (case v4_3 => k_is)
    (case v4_4 => k_is)
    (case v4_5 => k_is)
    (case v4_6 => k_is)
    (case v4_7 => k_is)
    (case v4_8 => k_is)
    (case v4_9 => k_is)
    (case v4_10 => k_is)
    (case v4_11 => k_is)
    (case v4_12 => k_is)
    (case v4_13 => k_is)
    (case v4_14 => k_is)
    (case v4_15 => k_is)
    (case v4_16 => k_is)
    (case v4_17 => k_is)
    (case v5_0 => k_is)
    (case v5_1 => k_is)
    (case v5_3 => k_is)
    (case v5_4 => k_is)
    (case v5_5 => k_is)
    (case v5_6 => k_is)
    (case v5_7 => k_is)
    (case v5_8 => k_is)
    (case v5_9 => k_is)
    (case v5_10 => k_is)
    (case v5_11 => k_is)
    (case v5_12 => k_is)
    (case v5_13 => k_is)
    (case v5_14 => k_is)
    (case v5_15 => k_is)
    (case v5_16 => k_is)
    (case v5_17 => k_is)
    (case v6_0 => k_is)
    (case v6_1 => k_is)
    (case v6_3 => k_is)
    (case v6_4 => k_is)
    (case v6_5 => k_is)
    (case v6_6 => k_is)
    (case v6_7 => k_is)
    (case v6_8 => k_is)
    (case v6_9 => k_is)
    (case v6_10 => k_is)
    (case v6_11 => k_is)
    (case v6_12 => k_is)
    (case v6_13 => k_is)
    (case v6_14 => k_is)
    (case v6_15 => k_is)
    (case v6_16 => k_is)
    (case v6_17 => k_is)
    (case v7_0 => k_is)
    (case v7_1 => k_is)
    (case v7_3 => k_is)
    (case v7_4 => k_is)
    (case v7_5 => k_is)
    (case v7_6 => k_is)
    (case v7_7 => k_is)
    (case v7_8 => k_is)
    (case v7_9 => k_is)
    (case v7_10 => k_is)
    (case v7_11 => k_is)
    (case v7_12 => k_is)
    (case v7_13 => k_is)
    (case v7_14 => k_is)
    (case v7_15 => k_is)
    (case v7_16 => k_is)
    (case v7_17 => k_is)
    (case v8_0 => k_is)
    (case v8_1 => k_is)
    (case v8_3 => k_is)
    (case v8_4 => k_is)
    (case v8_5 => k_is)
    (case v8_6 => k_is)
    (case v8_7 => k_is)
    (case v8_8 => k_is)
    (case v8_9 => k_is)
    (case v8_10 => k_is)
    (case v8_11 => k_is)
    (case v8_12 => k_is)
    (case v8_13 => k_is)
    (case v8_14 => k_is)
    (case v8_15 => k_is)
    (case v8_16 => k_is)
    (case v8_17 => k_is)
    (case v9_0 => k_is)
    (case v9_1 => k_is)
    (case v9_3 => k_is)
    (case v9_4 => k_is)
    (case v9_5 => k_is)
    (case v9_6 => k_is)
    (case v9_7 => k_is)
    (case v9_8 => k_is)
    (case v9_9 => k_is)
    (case v9_10 => k_is)
    (case v9_11 => k_is)
    (case v9_12 => k_is)
    (case v9_13 => k_is)
    (case v9_14 => k_is)
    (case v9_15 => k_is)
    (case v9_16 => k_is)
    (case v9_17 => k_is)
    (case v10_0 => k_is)
    (case v10_1 => k_is)
    (case v10_3 => k_is)
    (case v10_4 => k_is)
    (case v10_5 => k_is)
    (case v10_6 => k_is)
    (case v10_7 => k_is)
    (case v10_8 => k_is)
    (case v10_9 => k_is)
    (case v10_10 => k_is)
    (case v10_11 => k_is)
    (case v10_12 => k_is)
    (case v10_13 => k_is)
    (case v10_14 => k_is)
    (case v10_15 => k_is)
    (case v10_16 => k_is)
    (case v10_17 => k_is)
    (case v11_0 => k_is)
    (case v11_1 => k_is)
    (case v11_3 => k_is)
    (case v11_4 => k_is)
    (case v11_5 => k_is)
    (case v11_6 => k_is)
    (case v11_7 => k_is)
    (case v11_8 => k_is)
    (case v11_9 => k_is)
    (case v11_10 => k_is)
    (case v11_11 => k_is)
    (case v11_12 => k_is)
    (case v11_13 => k_is)
    (case v11_14 => k_is)
    (case v11_15 => k_is)
    (case v11_16 => k_is)
    (case v11_17 => k_is)
    (case v12_0 => k_is)
    (case v12_1 => k_is)
    (case v12_3 => k_is)
    (case v12_4 => k_is)
    (case v12_5 => k_is)
    (case v12_6 => k_is)
    (case v12_7 => k_is)
    (case v12_8 => k_is)
    (case v12_9 => k_is)
    (case v12_10 => k_is)
    (case v12_11 => k_is)
    (case v12_12 => k_is)
    (case v12_13 => k_is)
    (case v12_14 => k_is)
    (case v12_15 => k_is)
    (case v12_16 => k_is)
    (case v12_17 => k_is)
    (case v13_0 => k_is)
    (case v13_1 => k_is)
    (case v13_3 => k_is)
    (case v13_4 => k_is)
    (case v13_5 => k_is)
    (case v13_6 => k_is)
    (case v13_7 => k_is)
    (case v13_8 => k_is)
    (case v13_9 => k_is)
    (case v13_10 => k_is)
    (case v13_11 => k_is)
    (case v13_12 => k_is)
    (case v13_13 => k_is)
    (case v13_14 => k_is)
    (case v13_15 => k_is)
    (case v13_16 => k_is)
    (case v13_17 => k_is)
    (case v14_0 => k_is)
    (case v14_1 => k_is)
    (case v14_3 => k_is)
    (case v14_4 => k_is)
    (case v14_5 => k_is)
    (case v14_6 => k_is)
    (case v14_7 => k_is)
    (case v14_8 => k_is)
    (case v14_9 => k_is)
    (case v14_10 => k_is)
    (case v14_11 => k_is)
    (case v14_12 => k_is)
    (case v14_13 => k_is)
    (case v14_14 => k_is)
    (case v14_15 => k_is)
    (case v14_16 => k_is)
    (case v14_17 => k_is)
    (case v15_0 => k_is)
    (case v15_1 => k_is)
    (case v15_3 => k_is)
    (case v15_4 => k_is)
    (case v15_5 => k_is)
    (case v15_6 => k_is)
    (case v15_7 => k_is)
    (case v15_8 => k_is)
    (case v15_9 => k_is)
    (case v15_10 => k_is)
    (case v15_11 => k_is)
    (case v15_12 => k_is)
    (case v15_13 => k_is)
    (case v15_14 => k_is)
    (case v15_15 => k_is)
    (case v15_16 => k_is)
    (case v15_17 => k_is)
    (case v16_0 => k_is)
    (case v16_1 => k_is)
    (case v16_3 => k_is)
    (case v16_4 => k_is)
    (case v16_5 => k_is)
    (case v16_6 => k_is)
    (case v16_7 => k_is)
    (case v16_8 => k_is)
    (case v16_9 => k_is)
    (case v16_10 => k_is)
    (case v16_11 => k_is)
    (case v16_12 => k_is)
    (case v16_13 => k_is)
    (case v16_14 => k_is)
    (case v16_15 => k_is)
    (case v16_16 => k_is)
    (case v16_17 => k_is)
    (case v17_0 => k_is)
    (case v17_1 => k_is)
    (case v17_3 => k_is)
    (case v17_4 => k_is)
    (case v17_5 => k_is)
    (case v17_6 => k_is)
    (case v17_7 => k_is)
    (case v17_8 => k_is)
    (case v17_9 => k_is)
    (case v17_10 => k_is)
    (case v17_11 => k_is)
    (case v17_12 => k_is)
    (case v17_13 => k_is)
    (case v17_14 => k_is)
    (case v17_15 => k_is)
    (case v17_16 => k_is)
    (case v17_17 => k_is)
    (case v18_0 => k_is)
    (case v18_1 => k_is)
    (case v18_3 => k_is)
    (case v18_4 => k_is)
    (case v18_5 => k_is)
    (case v18_6 => k_is)
    (case v18_7 => k_is)
    (case v18_8 => k_is)
    (case v18_9 => k_is)
    (case v18_10 => k_is)
    (case v18_11 => k_is)
    (case v18_12 => k_is)
    (case v18_13 => k_is)
    (case v18_14 => k_is)
    (case v18_15 => k_is)
    (case v18_16 => k_is)
    (case v18_17 => k_is)
    (case v19_0 => k_is)
    (case v19_1 => k_is)
    (case v19_3 => k_is)
    (case v19_4 => k_is)
    (case v19_5 => k_is)
    (case v19_6 => k_is)
    (case v19_7 => k_is)
    (case v19_8 => k_is)
    (case v19_9 => k_is)
    (case v19_10 => k_is)
    (case v19_11 => k_is)
    (case v19_12 => k_is)
    (case v19_13 => k_is)
    (case v19_14 => k_is)
    (case v19_15 => k_is)
    (case v19_16 => k_is)
    (case v19_17 => k_is)
    (case v20_0 => k_is)
    (case v20_1 => k_is)
    (case v20_3 => k_is)
    (case v20_4 => k_is)
    (case v20_5 => k_is)
    (case v20_6 => k_is)
    (case v20_7 => k_is)
    (case v20_8 => k_is)
    (case v20_9 => k_is)
    (case v20_10 => k_is)
    (case v20_11 => k_is)
    (case v20_12 => k_is)
    (case v20_13 => k_is)
    (case v20_14 => k_is)
    (case v20_15 => k_is)
    (case v20_16 => k_is)
    (case v20_17 => k_is)
    (case v21_0 => k_is)
    (case v21_1 => k_is)
    (case v21_3 => k_is)
    (case v21_4 => k_is)
    (case v21_5 => k_is)
    (case v21_6 => k_is)
    (case v21_7 => k_is)
    (case v21_8 => k_is)
    (case v21_9 => k_is)
    (case v21_10 => k_is)
    (case v21_11 => k_is)
    (case v21_12 => k_is)
    (case v21_13 => k_is)
    (case v21_14 => k_is)
    (case v21_15 => k_is)
    (case v21_16 => k_is)
    (case v21_17 => k_is)
    (case v22_0 => k_is)
    (case v22_1 => k_is)
    (case v22_3 => k_is)
    (case v22_4 => k_is)
    (case v22_5 => k_is)
    (case v22_6 => k_is)
    (case v22_7 => k_is)
    (case v22_8 => k_is)
    (case v22_9 => k_is)
    (case v22_10 => k_is)
    (case v22_11 => k_is)
    (case v22_12 => k_is)
    (case v22_13 => k_is)
    (case v22_14 => k_is)
    (case v22_15 => k_is)
    (case v22_16 => k_is)
    (case v22_17 => k_is)
    (case v23_0 => k_is)
    (case v23_1 => k_is)
    (case v23_3 => k_is)
    (case v23_4 => k_is)
    (case v23_5 => k_is)
    (case v23_6 => k_is)
    (case v23_7 => k_is)
    (case v23_8 => k_is)
    (case v23_9 => k_is)
    (case v23_10 => k_is)
    (case v23_11 => k_is)
    (case v23_12 => k_is)
    (case v23_13 => k_is)
    (case v23_14 => k_is)
    (case v23_15 => k_is)
    (case v23_16 => k_is)
    (case v23_17 => k_is)
    (case v24_0 => k_is)
    (case v24_1 => k_is)
    (case v24_3 => k_is)
    (case v24_4 => k_is)
    (case v24_5 => k_is)
    (case v24_6 => k_is)
    (case v24_7 => k_is)
    (case v24_8 => k_is)
    (case v24_9 => k_is)
    (case v24_10 => k_is)
    (case v24_11 => k_is)
    (case v24_12 => k_is)
    (case v24_13 => k_is)
    (case v24_14 => k_is)
    (case v24_15 => k_is)
    (case v24_16 => k_is)
    (case v24_17 => k_is)
    (case v25_0 => k_is)
    (case v25_1 => k_is)
    (case v25_3 => k_is)
    (case v25_4 => k_is)
    (case v25_5 => k_is)
    (case v25_6 => k_is)
    (case v25_7 => k_is)
    (case v25_8 => k_is)
    (case v25_9 => k_is)
    (case v25_10 => k_is)
    (case v25_11 => k_is)
    (case v25_12 => k_is)
    (case v25_13 => k_is)
    (case v25_14 => k_is)
    (case v25_15 => k_is)
    (case v25_16 => k_is)
    (case v25_17 => k_is)
    (case v26_0 => k_is)
    (case v26_1 => k_is)
    (case v26_3 => k_is)
    (case v26_4 => k_is)
    (case v26_5 => k_is)
    (case v26_6 => k_is)
    (case v26_7 => k_is)
    (case v26_8 => k_is)
    (case v26_9 => k_is)
    (case v26_10 => k_is)
    (case v26_11 => k_is)
    (case v26_12 => k_is)
    (case v26_13 => k_is)
    (case v26_14 => k_is)
    (case v26_15 => k_is)
    (case v26_16 => k_is)
    (case v26_17 => k_is)
    (case w0_0 => k_is)
    (case w0_1 => k_is)
    (case w0_2 => k_is)
    (case w0_3 => k_is)
    (case w0_4 => k_is)
    (case w1_0 => k_is)
    (case w1_1 => k_is)
    (case w1_2 => k_is)
    (case w1_3 => k_is)
    (case w1_4 => k_is)
    (case w2_0 => k_is)
    (case w2_1 => k_is)
    (case w2_2 => k_is)
    (case w2_3 => k_is)
    (case w2_4 => k_is)
    (case wh => kernel_rfl)
    (case cst0 => k_is)
    (case cst1 => k_is)
    (case cst2 => k_is)
    (case cst3 => k_is)
    (case cst4 => k_is)
    (case cst5 => k_is)
    (case cst6 => k_is)
    (case cst7 => k_is)
    (case cst8 => k_is)
    (case cst9 => k_is)
    (case cst10 => k_is)
    (case cst11 => k_is)
    (case v0_2 => first | rfl | decide +kernel)
    (case v1_2 => first | rfl | decide +kernel)
    (case v2_2 => first | rfl | decide +kernel)
    (case v3_2 => first | rfl | decide +kernel)
    (case v4_2 => first | rfl | decide +kernel)
    (case v5_2 => first | rfl | decide +kernel)
    (case v6_2 => first | rfl | decide +kernel)
    (case v7_2 => first | rfl | decide +kernel)
    (case v8_2 => first | rfl | decide +kernel)
    (case v9_2 => first | rfl | decide +kernel)
    (case v10_2 => first | rfl | decide +kernel)
    (case v11_2 => first | rfl | decide +kernel)
    (case v12_2 => first | rfl | decide +kernel)
    (case v13_2 => first | rfl | decide +kernel)
    (case v14_2 => first | rfl | decide +kernel)
    (case v15_2 => first | rfl | decide +kernel)
    (case v16_2 => first | rfl | decide +kernel)
    (case v17_2 => first | rfl | decide +kernel)
    (case v18_2 => first | rfl | decide +kernel)
    (case v19_2 => first | rfl | decide +kernel)
    (case v20_2 => first | rfl | decide +kernel)
    (case v21_2 => first | rfl | decide +kernel)
    (case v22_2 => first | rfl | decide +kernel)
    (case v23_2 => first | rfl | decide +kernel)
    (case v24_2 => first | rfl | decide +kernel)
    (case v25_2 => first | rfl | decide +kernel)
    (case v26_2 => first | rfl | decide +kernel)
    (case v0_18 => intro _ z; cases z; k_is)
    (case v1_18 => intro _ z; cases z; k_is)
    (case v2_18 => intro _ z; cases z; k_is)
    (case v3_18 => intro _ z; cases z; k_is)
    (case v4_18 => intro _ z; cases z; k_is)
    (case v5_18 => intro _ z; cases z; k_is)
    (case v6_18 => intro _ z; cases z; k_is)
    (case v7_18 => intro _ z; cases z; k_is)
    (case v8_18 => intro _ z; cases z; k_is)
    (case v9_18 => intro _ z; cases z; k_is)
    (case v10_18 => intro _ z; cases z; k_is)
    (case v11_18 => intro _ z; cases z; k_is)
    (case v12_18 => intro _ z; cases z; k_is)
    (case v13_18 => intro _ z; cases z; k_is)
    (case v14_18 => intro _ z; cases z; k_is)
    (case v15_18 => intro _ z; cases z; k_is)
    (case v16_18 => intro _ z; cases z)
    (case v17_18 => intro _ z; cases z)
    (case v18_18 => intro _ z; cases z)
    (case v19_18 => intro _ z; cases z; k_is)
    (case v20_18 => intro _ z; cases z)
    (case v21_18 => intro _ z; cases z)
    (case v22_18 => intro _ z; cases z; k_is)
    (case v23_18 => intro _ z; cases z; k_is)
    (case v24_18 => intro _ z; cases z; k_is)
    (case v25_18 => intro _ z; cases z; k_is)
    (case v26_18 => intro _ z; cases z; k_is)
    (case rst0 => exact ⟨_, rfl⟩)
    (case rst1 => exact ⟨_, rfl⟩)
    (case rst2 => exact ⟨_, rfl⟩)
    (case rst3 => exact ⟨_, rfl⟩)
    (case rst4 => exact ⟨_, rfl⟩)
    (case rst5 => exact ⟨_, rfl⟩)
    (case rst6 => exact ⟨_, rfl⟩)
    (case rst7 => exact ⟨_, rfl⟩)
    (case rst8 => exact ⟨_, rfl⟩)
    (case rst9 => exact ⟨_, rfl⟩)
    (case rst10 => exact ⟨_, rfl⟩)
    (case rst11 => exact ⟨_, rfl⟩)
