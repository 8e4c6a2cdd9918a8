import PyProof.Rows.All
import Wide.All
import OpenK.AllK
import Wide.FinOn
import HandS.ForMost
import HandS.WideBits
import HandS.Wide
import HandS.IsInst
import HandS.Evl
import HandS.Codes
import HandS.Defaults
import HandS.Style
import HandS.RaiseMore
import KE.KDictPairs
import KE.KDictSum
import HandS.DictTup
import HandS.SortRule
import HandS.SortInts
import HandS.Conv
import HandS.Deep
import HandS.Small
import HandS.TupAny
import PyProof.P3Eq
import HandS.ExcInit
import HandS.TryMany
import HandS.Lambda
import HandS.EndTab
import KE.KNestM
import HandS.ExcIs
import HandS.ExcField
import HandS.WordsExc
import KE.KExcIs
import KE.KTryMore
import PySem.Challenge.RW_allscreens_k02_common_rectangles
set_option Elab.async false
set_option linter.all false
set_option maxRecDepth 100000
set_option maxHeartbeats 1000000
/-! The base of all proofs here: pools of draws as opaque objects, calls, values told in a heap. -/
namespace Lw
open PySem PySem.Spec PyProof.Rows L2 Evl

/-! ### a pool of draws: a list of three ints, whatever they are -/
def poolP (p : Addr) : Heap → Prop := fun h => ∃ (a b c : Int) (its : List Value) (n : Nat), Vals [.int a, .int b, .int c] its ∧ h.get? p = some { cls := .type "list", data := .seq its.toArray n }
def Pool (H : Hp) (p : Addr) : Prop := H p = some (.ext (poolP p))
theorem three_line : (3 : Nat) ≤ sizeLine := by decide

section
variable {P : Program} {w : World} {H : Hp} {h : Heap} {p : Addr}
theorem pool_open (ok : HOk P w H h) (hp : Pool H p) : ∃ a b c : Int, HOk P w (upd H p (.lst [.int a, .int b, .int c])) h := by
  obtain ⟨⟨a, b, c, its, n, r, e⟩, _, _⟩ := ok p _ hp
  refine ⟨a, b, c, fun x o hx => ?_⟩
  by_cases hb : x = p
  · subst hb
    rw [upd_same] at hx
    cases hx
    exact ⟨three_line, its, n, r, e⟩
  · rw [upd_ne hb] at hx
    refine (ok x o hx).stay (fun _ _ _ q => q) (fun y q => ?_) (fun y xs q => ?_)
    · rw [upd_ne (ne_of q hp (by intro z; cases z))]
      exact q
    · rw [upd_ne (ne_of q hp (by intro z; cases z))]
      exact q
theorem pool_close {a b c : Int} (ok : HOk P w H h) (hp : H p = some (.lst [.int a, .int b, .int c])) : HOk P w (upd H p (.ext (poolP p))) h := by
  obtain ⟨_, its, n, r, e⟩ := ok p _ hp
  refine fun x o hx => ?_
  by_cases hb : x = p
  · subst hb
    rw [upd_same] at hx
    cases hx
    exact ⟨⟨a, b, c, its, n, r, e⟩, ⟨_, e⟩, fun h1 h2 ⟨a, b, c, its, n, r, e⟩ k => ⟨a, b, c, its, n, r, k _ e⟩⟩
  · rw [upd_ne hb] at hx
    refine (ok x o hx).stay (fun _ _ _ q => q) (fun y q => ?_) (fun y xs q => ?_)
    · rw [upd_ne (ne_of q hp (by intro z; cases z))]
      exact q
    · rw [upd_ne (ne_of q hp (by intro z; cases z))]
      exact q
end

section
variable {P : Program} {w : World} {K : PySem.W.Frag} {mg : Str → Option Value} {base : Heap} {k : Nat} {f : Addr} {fd : FuncData} {ps : List Str} {sp sp1 : Sp}
/-- at the end: a new list of three ints is handed back as a pool -/
theorem fn_newpool (F : FnOk P w K mg base CX0 k f fd ps sp1)
    (h : ∀ vs H Q E, sp vs H Q E → sp1 vs H (fun v H' => ∃ p a b c, v = .ref p ∧ H p = none ∧ H' p = some (.lst [.int a, .int b, .int c]) ∧ Q v (upd H' p (.ext (poolP p)))) E) :
    FnOk P w K mg base CX0 k f fd ps sp := by
  refine ⟨fun vs H Q E q => F.len _ _ _ _ (h _ _ _ _ q), fun A outer s H args us vs Q E hr he hb hv hs => ?_⟩
  refine codeAny_mono (F.run A outer s H args us vs _ E hr he hb hv (h _ _ _ _ hs)) fun r s' q => ?_
  cases r with
  | error e => exact q
  | ok fl =>
    cases fl with
    | next => exact q
    | brk => exact q
    | cont => exact q
    | ret u =>
      obtain ⟨v, H', os, bare, un, hok, r, p, a, b, c, rfl, hn, hp, q⟩ := q
      refine ⟨_, _, os, bare, ?_, pool_close hok hp, r, q⟩
      refine ⟨un.keep, un.slot, fun x o e n hx => ?_, un.there, fun x xs e => ?_, fun x o u e => ?_, fun x t e => ?_⟩
      · by_cases hb : x = p
        · subst hb
          have := un.free x o e n hx
          rw [hp] at this
          cases this
        · rw [upd_ne hb]
          exact un.free x o e n hx
      · rw [upd_ne (ne_of (un.tups x xs e) hp (by intro z; cases z))]
        exact un.tups x xs e
      · rw [upd_ne (ne_of (un.frzs x o u e) hp (by intro z; cases z))]
        exact un.frzs x o u e
      · obtain ⟨m, e2⟩ := un.tbls x t e
        rw [upd_ne (ne_of e2 hp (by intro z; cases z))]
        exact ⟨m, e2⟩
/-- a def that works at a pool's three ints, told as one that leaves the pool a pool -/
theorem fn_pool (F : FnOk P w K mg base CX0 k f fd ps sp1)
    (h : ∀ vs H Q E, sp vs H Q E → vs.length = ps.length ∧ ∃ p, Pool H p ∧ ∀ a b c : Int, sp1 vs (upd H p (.lst [.int a, .int b, .int c])) (fun v H' => ∃ a b c : Int, H' p = some (.lst [.int a, .int b, .int c]) ∧ Q v (upd H' p (.ext (poolP p)))) E) :
    FnOk P w K mg base CX0 k f fd ps sp := by
  refine ⟨fun vs H Q E q => (h _ _ _ _ q).1, fun A outer s H args us vs Q E hr he hb hv hs => ?_⟩
  obtain ⟨_, p, hp, hs⟩ := h _ _ _ _ hs
  obtain ⟨a, b, c, ok⟩ := pool_open he.hok hp
  have e1 : Env0 P w K mg base A outer s (upd H p (.lst [.int a, .int b, .int c])) :=
    ⟨he.frames, he.mod, fun x o e => ⟨(he.bs x o e).1, by rw [upd_ne (ne_of_none hp (he.bs x o e).2).symm]; exact (he.bs x o e).2⟩, he.bsz, he.funs,
      fun x hx => by rw [upd_ne (ne_of_none hp (he.frf x hx)).symm]; exact he.frf x hx, ok, he.bare⟩
  refine codeAny_mono (F.run A outer s _ args us vs _ E hr e1 hb hv (hs a b c)) fun r s' q => ?_
  cases r with
  | error e => exact q
  | ok fl =>
    cases fl with
    | next => exact q
    | brk => exact q
    | cont => exact q
    | ret u =>
      obtain ⟨v, H', os, bare, un, hok, r, a', b', c', hq, q⟩ := q
      refine ⟨_, _, os, bare, ?_, pool_close hok hq, r, q⟩
      have nn : ∀ {x}, H x = none → (upd H p (.lst [.int a, .int b, .int c])) x = none := fun {x} n => by rw [upd_ne (ne_of_none hp n).symm]; exact n
      refine ⟨fun x o e n => un.keep x o e (nn n), fun x o e n => un.slot x o e (nn n), fun x o e n hx => ?_, un.there, fun x xs e => ?_, fun x o u e => ?_, fun x t e => ?_⟩
      · rw [upd_ne (ne_of_none hp n).symm]
        exact un.free x o e (nn n) hx
      · have hb : x ≠ p := ne_of e hp (by intro z; cases z)
        rw [upd_ne hb]
        exact un.tups x xs (by rw [upd_ne hb]; exact e)
      · have hb : x ≠ p := ne_of e hp (by intro z; cases z)
        rw [upd_ne hb]
        exact un.frzs x o u (by rw [upd_ne hb]; exact e)
      · have hb : x ≠ p := ne_of e hp (by intro z; cases z)
        obtain ⟨m, e2⟩ := un.tbls x t (by rw [upd_ne hb]; exact e)
        exact ⟨m, by rw [upd_ne hb]; exact e2⟩
end

/-! ### a def of the text, its name; a def that may be called -/
structure DefAt (K : PySem.W.Frag) (mg : Str → Option Value) (x : Str) (st : Stmt) : Prop where
  ex : ∃ (f : Addr) (fd : FuncData), Fun K x x st f fd ∧ mg x = some (.ref f)
/-- all parameters are written, by position -/
def Bnd (x : Str) (st : Stmt) (ps : List Str) : Prop := ∀ (kV doc pm : Value) (an : Option Addr) (cdv ct : Value) (us : List Value), us.length = ps.length →
  bindArgs (PySem.W.fnOf x x (defArgs st) (defBody st) (defScope st) .none kV doc pm an cdv ct) ⟨us, []⟩ = pure (ps.zip us)
/-- n by position, the others by the names ks -/
def BndK (x : Str) (st : Stmt) (ps : List Str) (n : Nat) (ks : List Str) (g : {α : Type} → List α → List α → List α) : Prop :=
  ∀ (kV doc pm : Value) (an : Option Addr) (cdv ct : Value) (us ws : List Value), us.length = n → ws.length = ks.length →
  bindArgs (PySem.W.fnOf x x (defArgs st) (defBody st) (defScope st) .none kV doc pm an cdv ct) ⟨us, ks.zip ws⟩ = pure (ps.zip (g us ws))
structure Cl (P : Program) (w : World) (K : PySem.W.Frag) (mg : Str → Option Value) (base : Heap) (CX : CXT) (k : Nat) (x : Str) (st : Stmt) (ps : List Str) (sp : Sp) : Prop where
  ex : ∃ (f : Addr) (fd : FuncData), Fun K x x st f fd ∧ FnOk P w K mg base CX k f fd ps sp ∧ mg x = some (.ref f)
section
variable {P : Program} {w : World} {K : PySem.W.Frag} {mg : Str → Option Value} {base : Heap} {k : Nat} {x : Str} {st : Stmt} {ps N : List Str} {sp sp1 : Sp}
theorem cl_of (D : DefAt K mg x st) (S : FnScope N ps (defScope st)) (len : ∀ vs H Q E, sp vs H Q E → vs.length = ps.length)
    (hbody : ∀ (f : Addr) (cdv : Value) (A : Around) (outer : List Env) (s : Shared) (H : Hp) (vs : List V) (Q : VK) (E : XK), Room k (A.deeper (envOfC x (defScope st) s.heap.objs.size f cdv)) → sp vs H Q E →
      ∃ t, PSs (cxOf CX0 P w K mg base N x (defScope st) f cdv A outer s H E).nox (defBody st) t ∧ t { nx := fun _ H' => Q .non H', rt := Q } (start N vs) H) : Cl P w K mg base CX0 (k + 1) x st ps sp := by
  obtain ⟨f, fd, F, m⟩ := D.ex
  exact ⟨f, fd, F, F.ok S len (hbody f), m⟩
theorem Cl.pool (c : Cl P w K mg base CX0 k x st ps sp1)
    (h : ∀ vs H Q E, sp vs H Q E → vs.length = ps.length ∧ ∃ p, Pool H p ∧ ∀ a b c : Int, sp1 vs (upd H p (.lst [.int a, .int b, .int c])) (fun v H' => ∃ a b c : Int, H' p = some (.lst [.int a, .int b, .int c]) ∧ Q v (upd H' p (.ext (poolP p)))) E) :
    Cl P w K mg base CX0 k x st ps sp := by
  obtain ⟨f, fd, F, o, m⟩ := c.ex
  exact ⟨f, fd, F, fn_pool o h, m⟩
theorem Cl.newpool (c : Cl P w K mg base CX0 k x st ps sp1)
    (h : ∀ vs H Q E, sp vs H Q E → sp1 vs H (fun v H' => ∃ p a b c, v = .ref p ∧ H p = none ∧ H' p = some (.lst [.int a, .int b, .int c]) ∧ Q v (upd H' p (.ext (poolP p)))) E) :
    Cl P w K mg base CX0 k x st ps sp := by
  obtain ⟨f, fd, F, o, m⟩ := c.ex
  exact ⟨f, fd, F, fn_newpool o h, m⟩
theorem Cl.imp {CX : CXT} (c : Cl P w K mg base CX k x st ps sp) (h : ∀ vs H Q E, sp1 vs H Q E → sp vs H Q E) : Cl P w K mg base CX k x st ps sp1 := by
  obtain ⟨f, fd, F, o, m⟩ := c.ex
  exact ⟨f, fd, F, o.imp h, m⟩
end
section
variable {X : Cx} {CX : CXT} {k j n : Nat} {x : Str} {st : Stmt} {sp : Sp} {ps ks : List Str} {p pos : Pos} {e : Expr} {es : List Expr} {kws : List Keyword} {t tk : TA} {E : XK}
/-- f(a, ..): all parameters by position -/
theorem pe_cl (c : Cl X.prog X.w X.K X.mg X.base CX k x st ps sp) (b : Bnd x st ps) (hr : Room j X.A) (hk : k ≤ j) (hg : Gl X x) (hx : Passes CX X E) (ha : PA X (e :: es) t)
    (hdb : (x == ("__debug__" : Str)) = false := by decide) (he : starEach (e :: es) X.env = (false, eval e X.env) :: starEach es X.env := by rfl) (hpl : (backTo pos (starEach es X.env)).any (·.1) = false := by rfl) :
    PE X (.Call (.Name x p) (e :: es) [] pos) (tCall sp [] E t) := by
  obtain ⟨f, fd, F, o, m⟩ := c.ex
  exact pe_call o (hr.mono hk) hg m F.kp (F.binds b) .nil hx ha hdb he hpl
theorem kbn_of {K : PySem.W.Frag} {f : Addr} {fd : FuncData} {g : {α : Type} → List α → List α → List α} (F : Fun K x x st f fd) (b : BndK x st ps n ks g)
    (hrel : ∀ {vs zs : List V} {us ws : List Value}, Vals vs us → Vals zs ws → Vals (g vs zs) (g us ws)) : KBn K fd ps n ks (fun us ws => g us ws) (fun vs zs => g vs zs) := by
  obtain ⟨oc, od, kV, doc, pm, an, cdv, ct, osl, rfl, lk, hcd⟩ := F.ex
  exact ⟨fun s us ws _ h1 h2 => .of_eq (b kV doc pm an cdv ct us ws h1 h2), hrel⟩
/-- f(a, .., k = v, ..): all parameters written -/
theorem pe_clk {g : {α : Type} → List α → List α → List α} (c : Cl X.prog X.w X.K X.mg X.base CX k x st ps sp) (b : BndK x st ps n ks g)
    (hrel : ∀ {vs zs : List V} {us ws : List Value}, Vals vs us → Vals zs ws → Vals (g vs zs) (g us ws))
    (hr : Room j X.A) (hk : k ≤ j) (hg : Gl X x) (hx : Passes CX X E) (ha : PA X (e :: es) t) (hkw : PK X kws tk) (hall : (backToKw pos (keywordEach kws X.env)).all (·.1.isSome) = true := by rfl)
    (hks : (backToKw pos (keywordEach kws X.env)).filterMap (·.1) = ks := by rfl) (hdb : (x == ("__debug__" : Str)) = false := by decide) (he : starEach (e :: es) X.env = (false, eval e X.env) :: starEach es X.env := by rfl)
    (hpl : ((backTo pos (starEach (e :: es) X.env)).any (·.1) || (backToKw pos (keywordEach kws X.env)).any (·.1.isNone)) = false := by rfl) :
    PE X (.Call (.Name x p) (e :: es) kws pos) (tCallN n ks.length sp g E t tk) := by
  obtain ⟨f, fd, F, o, m⟩ := c.ex
  exact pe_callN o (hr.mono hk) hg m F.kp (kbn_of F b hrel) hx ha hkw hall hks hdb he hpl
/-- f(k = v, ..): all by name -/
theorem pe_clk0 {g : {α : Type} → List α → List α → List α} (c : Cl X.prog X.w X.K X.mg X.base CX k x st ps sp) (b : BndK x st ps 0 ks g)
    (hrel : ∀ {vs zs : List V} {us ws : List Value}, Vals vs us → Vals zs ws → Vals (g vs zs) (g us ws))
    (hr : Room j X.A) (hk : k ≤ j) (hg : Gl X x) (hx : Passes CX X E) (hkw : PK X kws tk) (hall : (backToKw pos (keywordEach kws X.env)).all (·.1.isSome) = true := by rfl)
    (hks : (backToKw pos (keywordEach kws X.env)).filterMap (·.1) = ks := by rfl) (hdb : (x == ("__debug__" : Str)) = false := by decide)
    (hpl : ((backTo pos (starEach [] X.env)).any (·.1) || (backToKw pos (keywordEach kws X.env)).any (·.1.isNone)) = false := by rfl) :
    PE X (.Call (.Name x p) [] kws pos) (tCallN 0 ks.length sp g E tNil tk) := by
  obtain ⟨f, fd, F, o, m⟩ := c.ex
  refine ⟨fun pins s σ H Q I h => ?_⟩
  refine wpAny_Call_Name_kw (ld_glob I hg m ?_ hdb)
  refine PySem.W.callWith_KW0 (h₀ := X.base) I.ok.mod.kin F.kp hall ?_ hpl
  refine thn (hkw.run pos pins s σ H _ I h) fun ws s2 ⟨zs, H2, I2, rz, l1, l2, q2⟩ => ⟨I2.kIn, ?_⟩
  rw [hks]
  exact run_fnN o (hr.mono hk) (kbn_of F b hrel) hx I2 .nil rz l1 l2 q2
/-- repr of a truth -/
theorem call_repr_bl : CallR X (.builtin "repr") (fun xs H Q => ∃ b, xs = [.bl b] ∧ Q (.str (if b then "True" else "False")) H) := by
  intro pins s σ H xs us Q I r h
  obtain ⟨b, rfl, q⟩ := h
  obtain ⟨u, rfl, rfl⟩ := vals1 r
  exact PySem.P.repr_of_bool ⟨.str _, H, I.tok _, ⟨_, rfl⟩, q⟩
end

section
variable {P : Program} {w : World} {K : PySem.W.Frag} {mg : Str → Option Value} {base : Heap} {k : Nat} {x : Str} {st : Stmt} {ps : List Str} {sp : Sp} {CX : CXT}
theorem defAt_mk {h : Heap} {f : Addr} {oc : Value} {od an : Option Addr} {osl : Array (Option Value)} {kV doc pm cdv ct : Value} (X : K.In h) (G : h.Ns mainGlobals mg) (a : PySem.W.nsIn K mainGlobals x = some (some (.ref f)))
    (l : K.lookup f = some ⟨oc, od, .func (PySem.W.fnOf x x (defArgs st) (defBody st) (defScope st) .none kV doc pm an cdv ct), osl⟩) (c : PySem.W.codeIn K cdv x = true) (kp : PySem.W.keepIn K (.ref f) = true) : DefAt K mg x st :=
  ⟨f, _, fun_mk l c kp, PySem.W.mg_of X G a⟩
/-- a def's object is one -/
theorem Cl.at {f : Addr} {fd : FuncData} (c : Cl P w K mg base CX k x st ps sp) (F : Fun K x x st f fd) (m : mg x = some (.ref f)) : FnOk P w K mg base CX k f fd ps sp := by
  obtain ⟨f', fd', F', o, m'⟩ := c.ex
  rw [m] at m'
  cases m'
  obtain ⟨oc, od, kV, doc, pm, an, cdv, ct, osl, rfl, lk, _⟩ := F.ex
  obtain ⟨oc', od', kV', doc', pm', an', cdv', ct', osl', rfl, lk', _⟩ := F'.ex
  have e := Option.some.inj (lk.symm.trans lk')
  injection e with _ _ e _
  injection e with e
  rw [e]
  exact o
end

/-! ### the law's draws -/
/-- what is handed back is told by P, all that stood stands -/
def Gets (Pv : V → Hp → Prop) (H : Hp) (Q : VK) : Prop := ∀ v H', Ex H H' → Pv v H' → Q v H'
def spCell (K : PySem.W.Frag) : Sp := fun vs H Q _ => ∃ (a : Addr) (ns : List Int) (i : Int), vs = [.ref a, .int i] ∧ SqL K H a (ns.map V.int) ∧ ns.length ≤ 63 ∧ 0 ≤ i ∧ i ≤ 63 ∧ ∀ (v : Int) H', Ex H H' → Q (.int v) H'
def spPool : Sp := fun vs H Q _ => ∃ i : Int, vs = [.int i] ∧ ∀ p H', H p = none → Ex H H' → Pool H' p → Q (.ref p) H'
def spDraw : Sp := fun vs H Q _ => ∃ (p : Addr) (m : Int), vs = [.ref p, .int m] ∧ Pool H p ∧ 0 < m ∧ m < 2 ^ 128 ∧ ∀ (v : Int) H', Ex H H' → 0 ≤ v → v < m → Q (.int v) H'
def spPool1 : Sp := fun vs H Q _ => ∃ i : Int, vs = [.int i] ∧ ∀ p H' (a b c : Int), H p = none → H' p = some (.lst [.int a, .int b, .int c]) → Ex H H' → Q (.ref p) H'
def spDraw1 : Sp := fun vs H Q _ => ∃ (p : Addr) (m a b c : Int), vs = [.ref p, .int m] ∧ H p = some (.lst [.int a, .int b, .int c]) ∧ 0 < m ∧ m < 2 ^ 128 ∧
  ∀ (v : Int) H' (a b c : Int), (∀ x o, x ≠ p → H x = some o → H' x = some o) → H' p = some (.lst [.int a, .int b, .int c]) → 0 ≤ v → v < m → Q (.int v) H'
theorem spPool_of : ∀ vs H Q E, spPool vs H Q E → spPool1 vs H (fun v H' => ∃ p a b c, v = .ref p ∧ H p = none ∧ H' p = some (.lst [.int a, .int b, .int c]) ∧ Q v (upd H' p (.ext (poolP p)))) E := by
  rintro vs H Q E ⟨i, rfl, q⟩
  refine ⟨i, rfl, fun p H' a b c hn hp e => ⟨p, a, b, c, rfl, hn, hp, q p _ hn (fun x o hx => ?_) upd_same⟩⟩
  rw [upd_ne (ne_of_none hx hn)]
  exact e x o hx
theorem spDraw_of : ∀ vs H Q E, spDraw vs H Q E → vs.length = 2 ∧ ∃ p, Pool H p ∧ ∀ a b c : Int, spDraw1 vs (upd H p (.lst [.int a, .int b, .int c])) (fun v H' => ∃ a b c : Int, H' p = some (.lst [.int a, .int b, .int c]) ∧ Q v (upd H' p (.ext (poolP p)))) E := by
  rintro vs H Q E ⟨p, m, rfl, hp, h0, h1, q⟩
  refine ⟨rfl, p, hp, fun a b c => ⟨p, m, a, b, c, rfl, upd_same, h0, h1, fun v H' a' b' c' k hq v0 v1 => ⟨a', b', c', hq, q v _ (fun x o hx => ?_) v0 v1⟩⟩⟩
  by_cases hb : x = p
  · subst hb
    rw [hp] at hx
    cases hx
    exact upd_same
  · rw [upd_ne hb]
    exact k x o hb (by rw [upd_ne hb]; exact hx)
theorem log2_lt {m : Int} (h0 : 0 < m) (h1 : m < 2 ^ 128) : m.natAbs.log2 < 9000 := by
  have e : m.natAbs < 2 ^ 128 := by omega
  have := (Nat.log2_lt (by omega : m.natAbs ≠ 0)).mpr e
  omega
theorem cdivp {i m : Int} (h0 : 0 < m) (h1 : m < 2 ^ 128) : CDivP i m := ⟨h0, PyProof.noPylong_of_log2 (log2_lt h0 h1)⟩
theorem atI_0 {a b c : V} : atI [a, b, c] 0 = some a := rfl
theorem atI_1 {a b c : V} : atI [a, b, c] 1 = some b := rfl
theorem atI_2 {a b c : V} : atI [a, b, c] 2 = some c := rfl
theorem ex_rdL {K : PySem.W.Frag} {H H' : Hp} {a : Addr} {xs : List V} (e : Ex H H') (h : SqL K H a xs) : SqL K H' a xs := ex_l e h
theorem line_ge : (100000 : Nat) ≤ sizeLine := by decide
/-! ### tests with two ways -/
theorem ifD {p A B : Prop} [Decidable p] (h1 : p → A) (h2 : ¬ p → B) : if decide p = true then A else B := by
  by_cases h : p
  · rw [if_pos (decide_eq_true h)]; exact h1 h
  · rw [if_neg (by simpa using h)]; exact h2 h
theorem ifN {p A B : Prop} [Decidable p] (h1 : ¬ p → A) (h2 : p → B) : if (!decide p) = true then A else B := by
  by_cases h : p
  · rw [if_neg (by simpa using h)]; exact h2 h
  · rw [if_pos (by simpa using h)]; exact h1 h
theorem ifB {b : Bool} {A B : Prop} (h1 : b = true → A) (h2 : b = false → B) : if b = true then A else B := by
  cases b with
  | true => exact h1 rfl
  | false => exact h2 rfl
theorem upd_new {H : Hp} {t a : Addr} {o u : HO} (ht : H t = none) (ha : H a = some o) : upd H t u a = some o := by
  rw [upd_ne (ne_of_none ha ht)]
  exact ha
theorem ex_at {H H' : Hp} {a : Addr} {o : HO} (e : Ex H H') (ha : H a = some o) : H' a = some o := e a o ha
/-- all but p stand -/
def But (p : Addr) (H H' : Hp) : Prop := ∀ x o, x ≠ p → H x = some o → H' x = some o
theorem But.refl {p : Addr} {H : Hp} : But p H H := fun _ _ _ h => h
theorem But.new {p t : Addr} {H H' : Hp} {o : HO} (b : But p H H') (ht : H' t = none) : But p H (upd H' t o) := fun x u n h => upd_new ht (b x u n h)
theorem But.mut {p : Addr} {H H' : Hp} {o : HO} (b : But p H H') : But p H (upd H' p o) := fun x u n h => by
  rw [upd_ne n]
  exact b x u n h
theorem cut_int {ns : List Int} {lo hi : Option Int} {i : Nat} {x : V} (h : (cutV (ns.map V.int) lo hi)[i]? = some x) : ∃ n, x = .int n := by
  have hm := List.mem_of_getElem? h
  have hm2 : x ∈ ns.map V.int := by
    unfold cutV at hm
    exact List.mem_of_mem_drop (List.mem_of_mem_take hm)
  obtain ⟨n, _, e⟩ := List.mem_map.mp hm2
  exact ⟨n, e.symm⟩

/-! ### kinds of values -/
inductive Kd (H : Hp) : V → String → Prop
  | non : Kd H .non "NoneType"
  | bl (b : Bool) : Kd H (.bl b) "bool"
  | int (i : Int) : Kd H (.int i) "int"
  | str (x : Str) : Kd H (.str x) "str"
  | lst {a : Addr} {xs : List V} (h : H a = some (.lst xs)) : Kd H (.ref a) "list"
  | tup {a : Addr} {xs : List V} (h : H a = some (.tup xs)) : Kd H (.ref a) "tuple"
  | fz {a : Addr} {o : Obj} {xs : List V} (h : H a = some (.frz o (.tup xs))) : Kd H (.ref a) "tuple"
  | dK {a : Addr} {kvs : List (Key × V)} (h : H a = some (.dK kvs)) : Kd H (.ref a) "dict"
def kinds : List String := ["NoneType", "bool", "int", "str", "list", "tuple", "dict"]
def isK (n c : String) : Bool := n == c || (n == "bool" && c == "int")
theorem Kd.mem {H : Hp} {v : V} {n : String} (k : Kd H v n) : n ∈ kinds := by cases k <;> decide
theorem Kd.ty {K : PySem.W.Frag} {H : Hp} {v : V} {n : String} (k : Kd H v n) : TyX K H v (.type n) := by
  cases k with
  | non => exact .base .non
  | bl b => exact .base (.bl b)
  | int i => exact .base (.int i)
  | str x => exact .base (.str x)
  | lst h => exact .base (.lst h)
  | tup h => exact .base (.tup h)
  | fz h => exact .fTuple h
  | dK h => exact .base (.dK h)
theorem kit_all : ∀ n ∈ kinds, ∀ c ∈ ["int", "bool", "tuple", "str", "list", "dict"], kitB n c = some (isK n c) := by decide +kernel
theorem kit_k {K : PySem.W.Frag} {H : Hp} {v : V} {n c : String} (k : Kd H v n) (hc : c ∈ ["int", "bool", "tuple", "str", "list", "dict"]) : PySem.W.kitOne K (.type n) (.type c) = some (isK n c) := kit_ty (kit_all n k.mem c hc)
theorem Kd.ex {H H' : Hp} {v : V} {n : String} (k : Kd H v n) (e : Ex H H') : Kd H' v n := by
  cases k with
  | non => exact .non
  | bl b => exact .bl b
  | int i => exact .int i
  | str x => exact .str x
  | lst h => exact .lst (e _ _ h)
  | tup h => exact .tup (e _ _ h)
  | fz h => exact .fz (e _ _ h)
  | dK h => exact .dK (e _ _ h)
/-- an integer (no truth) within bounds -/
def inB (lo hi : Int) : V → Bool
  | .int i => decide (lo ≤ i) && decide (i ≤ hi)
  | _ => false
def spInteger : Sp := fun vs H Q _ => ∃ v n, vs = [v] ∧ Kd H v n ∧ Q (.bl (n == "int")) H
def spBetween : Sp := fun vs H Q _ => ∃ v lo hi n, vs = [v, .int lo, .int hi] ∧ Kd H v n ∧ Q (.bl (inB lo hi v)) H
def spNumber : Sp := fun vs H Q _ => ∃ v n, vs = [v] ∧ Kd H v n ∧ Q (.bl (inB (-1000000000000) 1000000000000 v)) H
def rectL : List V → Bool
  | [a, b, c, d] => inB (-1000000000000) 1000000000000 a && inB (-1000000000000) 1000000000000 b && inB 0 1000000000000 c && inB 0 1000000000000 d
  | _ => false
/-- a value that is looked at as a rectangle: no tuple, or a tuple of values of known kinds -/
inductive Th (H : Hp) : V → Bool → Prop
  | other {v : V} {n : String} (k : Kd H v n) (h : n ≠ "tuple") : Th H v false
  | tup {a : Addr} {xs : List V} (h : H a = some (.tup xs)) (ks : ∀ x ∈ xs, ∃ n, Kd H x n) : Th H (.ref a) (rectL xs)
def spRect : Sp := fun vs H Q _ => ∃ v b, vs = [v] ∧ Th H v b ∧ Q (.bl b) H
theorem int_yes {H : Hp} {v : V} {n : String} (k : Kd H v n) (h : isK n "int" = true) : (n == "int") = !isK n "bool" := by
  have hm := k.mem
  exact (by decide : ∀ n ∈ kinds, isK n "int" = true → (n == "int") = !isK n "bool") n hm h
theorem int_no {n : String} (h : isK n "int" = false) : (n == "int") = false := by
  unfold isK at h
  cases e : n == "int" with
  | true => rw [e] at h; cases h
  | false => rfl
theorem Kd.of_int {H : Hp} {v : V} {n : String} (k : Kd H v n) (h : (n == "int") = true) : ∃ i, v = .int i := by
  cases k <;> first | exact ⟨_, rfl⟩ | exact absurd h (by decide)
theorem inB_no {H : Hp} {lo hi : Int} {v : V} {n : String} (k : Kd H v n) (h : (n == "int") = false) : inB lo hi v = false := by
  cases k <;> first | rfl | exact absurd h (by decide)
theorem isK_ne {n c : String} (h : n ≠ c) (hb : c ≠ "int") : isK n c = false := by
  unfold isK
  rw [beq_eq_false_iff_ne.mpr h, beq_eq_false_iff_ne.mpr hb]
  cases n == "bool" <;> rfl
theorem rectL_len {xs : List V} (h : xs.length ≠ 4) : rectL xs = false := by
  unfold rectL
  split
  · exact absurd rfl h
  · rfl
theorem four {xs : List V} (h : xs.length = 4) : ∃ a b c d, xs = [a, b, c, d] := match xs, h with
  | [a, b, c, d], _ => ⟨a, b, c, d, rfl⟩
theorem lenN {n m : Nat} : V.int (n : Int) = V.int (m : Int) ↔ n = m := by
  constructor
  · intro h
    injection h with h
    exact Int.ofNat_inj.mp h
  · intro h; rw [h]
theorem ifNt {b : Bool} {A B : Prop} (h1 : b = false → A) (h2 : b = true → B) : if (!b) = true then A else B := by
  cases b with
  | true => exact h2 rfl
  | false => exact h1 rfl

theorem sqlK {K K' : PySem.W.Frag} {H : Hp} {a : Addr} {xs : List V} (h : SqL K H a xs) (e : K' = K) : SqL K' H a xs := e ▸ h
theorem sqtK {K K' : PySem.W.Frag} {H : Hp} {a : Addr} {xs : List V} (h : SqT K H a xs) (e : K' = K) : SqT K' H a xs := e ▸ h
/-! ### list comprehensions, told item by item -/
/-- all but lists stand -/
def ExT (H H' : Hp) : Prop := ∀ a o, (∀ xs, o ≠ HO.lst xs) → H a = some o → H' a = some o
theorem Ex.exT {H H' : Hp} (e : Ex H H') : ExT H H' := fun a o _ h => e a o h
theorem ExT.wr {H : Hp} {D : Addr} {xs : List V} {o : HO} (h : H D = some (.lst xs)) : ExT H (upd H D o) := fun a u n ha => by
  rw [upd_ne (ne_of ha h (n xs))]
  exact ha
theorem ExT.trans {H H1 H2 : Hp} (a : ExT H H1) (b : ExT H1 H2) : ExT H H2 := fun x o n h => b x o n (a x o n h)
/-- what a turn makes: some item or none -/
abbrev PeT := Nat → Option V → Hp → Prop
def Mono (Pe : PeT) : Prop := ∀ i o H H', ExT H H' → Pe i o H → Pe i o H'
structure LcI (H1 : Hp) (D : Addr) (Pe : PeT) (i : Nat) (H : Hp) : Prop where
  new : H1 D = none
  ex : Ex H1 H
  its : ∃ os : List (Option V), os.length = i ∧ H D = some (.lst (os.filterMap id)) ∧ ∀ m o, os[m]? = some o → Pe m o H
section
variable {H1 H H4 : Hp} {D : Addr} {Pe : PeT} {i n : Nat} {y : V}
theorem LcI.start (h : H1 D = none) : LcI H1 D Pe 0 (upd H1 D (.lst [])) := ⟨h, Ex.new h, [], rfl, upd_same, fun m o e => by simp at e⟩
theorem LcI.more (I : LcI H1 D Pe i H) (mono : Mono Pe) (hi : i < 50000) (e : Ex H H4) (p : Pe i (some y) H4) :
    ∃ acc, H4 D = some (.lst acc) ∧ acc.length < sizeLine ∧ LcI H1 D Pe (i + 1) (upd H4 D (.lst (acc ++ [y]))) := by
  obtain ⟨hn, e1, os, hl, hD, hp⟩ := I
  have hD4 := e _ _ hD
  have hT : ExT H4 (upd H4 D (.lst (os.filterMap id ++ [y]))) := ExT.wr hD4
  refine ⟨_, hD4, ?_, hn, Ex.mut (e1.trans e) hn, os ++ [some y], ?_, ?_, fun m o hm => ?_⟩
  · have := List.length_filterMap_le id os
    exact Nat.lt_of_lt_of_le (by omega) line_ge
  · rw [List.length_append, hl]; rfl
  · rw [upd_same, List.filterMap_append]; rfl
  · by_cases hb : m < os.length
    · rw [List.getElem?_append_left hb] at hm
      exact mono _ _ _ _ ((Ex.exT e).trans hT) (hp m o hm)
    · rw [List.getElem?_append_right (Nat.le_of_not_lt hb)] at hm
      have h0 : m - os.length = 0 := by
        cases hz : m - os.length with
        | zero => rfl
        | succ k => rw [hz] at hm; simp at hm
      rw [h0] at hm
      have e2 : o = some y := (Option.some.inj hm).symm
      have e3 : m = i := by omega
      subst e2 e3
      exact mono _ _ _ _ hT p
theorem LcI.less (I : LcI H1 D Pe i H) (mono : Mono Pe) (e : Ex H H4) (p : Pe i none H4) : LcI H1 D Pe (i + 1) H4 := by
  obtain ⟨hn, e1, os, hl, hD, hp⟩ := I
  refine ⟨hn, e1.trans e, os ++ [none], ?_, ?_, fun m o hm => ?_⟩
  · rw [List.length_append, hl]; rfl
  · rw [List.filterMap_append, e _ _ hD]
    show _ = some (HO.lst (os.filterMap id ++ []))
    rw [List.append_nil]
  · by_cases hb : m < os.length
    · rw [List.getElem?_append_left hb] at hm
      exact mono _ _ _ _ (Ex.exT e) (hp m o hm)
    · rw [List.getElem?_append_right (Nat.le_of_not_lt hb)] at hm
      have h0 : m - os.length = 0 := by
        cases hz : m - os.length with
        | zero => rfl
        | succ k => rw [hz] at hm; simp at hm
      rw [h0] at hm
      have e2 : o = none := (Option.some.inj hm).symm
      have e3 : m = i := by omega
      subst e2 e3
      exact p
/-- a turn: from item x -/
def LcTurn (Pe : PeT) (H1 : Hp) (g : TG) (tt : TT) (te : TE) (vs : List Nat) (σ : L2.St) (i : Nat) (x : V) : Prop := ∀ H, Ex H1 H → ∀ (Q1 : VK) (Q2 : Hp → Prop), (∀ y H4, Ex H H4 → Pe i (some y) H4 → Q1 y H4) → (∀ H4, Ex H H4 → Pe i none H4 → Q2 H4) →
  g x (wipe σ vs) H fun σ2 H2 => wipe σ2 vs = wipe σ vs ∧ tt σ2 H2 fun b H3 => if b = true then te σ2 H3 Q1 else Q2 H3
variable {g : TG} {tt : TT} {te : TE} {vs : List Nat} {σ : L2.St} {Qd : Hp → Prop} {K : PySem.W.Frag} {a : Addr} {xs : List V}
theorem lcR (Pe : PeT) (mono : Mono Pe) (hD : H1 D = none) (hn : n ≤ 50000) (hs : ∀ i, i < n → LcTurn Pe H1 g tt te vs σ i (.int ((0 : Int) + i)))
    (hd : ∀ H' (os : List (Option V)), Ex H1 H' → os.length = n → H' D = some (.lst (os.filterMap id)) → (∀ i o, os[i]? = some o → Pe i o H') → Qd H') :
    ∃ W : Nat → Nat → Hp → Prop, (∃ m, W 0 m (upd H1 D (.lst []))) ∧ ∀ i m H, W i m H →
      ((Itr 0 n).stop i H ∧ Qd H) ∨ ((Itr 0 n).go i H ∧ ∃ Nx : Hp → Prop, (∀ H', Nx H' → ∃ m', m' < m ∧ W (i + 1) m' H') ∧ ∀ x H', (Itr 0 n).yld i H x H' → g x (wipe σ vs) H' fun σ2 H2 => wipe σ2 vs = wipe σ vs ∧ tt σ2 H2 fun b H3 =>
        if b = true then te σ2 H3 fun y H4 => ∃ acc, H4 D = some (.lst acc) ∧ acc.length < sizeLine ∧ Nx (upd H4 D (.lst (acc ++ [y]))) else Nx H3) :=
  lc_range (LcI H1 D Pe) (LcI.start hD) (fun i H hi I => hs i hi H I.ex _ _ (fun y H4 e p => I.more mono (by omega) e p) (fun H4 e p => I.less mono e p))
    (fun H I => by obtain ⟨_, e, os, hl, h, p⟩ := I; exact hd H os e hl h p)
theorem lcL (Pe : PeT) (mono : Mono Pe) (hD : H1 D = none) (hx : SqL K H1 a xs) (hn : xs.length ≤ 50000) (hs : ∀ i x, xs[i]? = some x → LcTurn Pe H1 g tt te vs σ i x)
    (hd : ∀ H' (os : List (Option V)), Ex H1 H' → os.length = xs.length → H' D = some (.lst (os.filterMap id)) → (∀ i o, os[i]? = some o → Pe i o H') → Qd H') :
    ∃ W : Nat → Nat → Hp → Prop, (∃ m, W 0 m (upd H1 D (.lst []))) ∧ ∀ i m H, W i m H →
      ((Itl K a).stop i H ∧ Qd H) ∨ ((Itl K a).go i H ∧ ∃ Nx : Hp → Prop, (∀ H', Nx H' → ∃ m', m' < m ∧ W (i + 1) m' H') ∧ ∀ x H', (Itl K a).yld i H x H' → g x (wipe σ vs) H' fun σ2 H2 => wipe σ2 vs = wipe σ vs ∧ tt σ2 H2 fun b H3 =>
        if b = true then te σ2 H3 fun y H4 => ∃ acc, H4 D = some (.lst acc) ∧ acc.length < sizeLine ∧ Nx (upd H4 D (.lst (acc ++ [y]))) else Nx H3) :=
  lc_list (LcI H1 D Pe) (LcI.start hD) (fun i H _ I => ex_l I.ex hx) (fun i x H hi I => hs i x hi H I.ex _ _ (fun y H4 e p => I.more mono (by have := (List.getElem?_eq_some_iff.mp hi).1; omega) e p) (fun H4 e p => I.less mono e p))
    (fun H I => by obtain ⟨_, e, os, hl, h, p⟩ := I; exact hd H os e hl h p)
theorem lcT (Pe : PeT) (mono : Mono Pe) (hD : H1 D = none) (hx : SqT K H1 a xs) (hn : xs.length ≤ 50000) (hs : ∀ i x, xs[i]? = some x → LcTurn Pe H1 g tt te vs σ i x)
    (hd : ∀ H' (os : List (Option V)), Ex H1 H' → os.length = xs.length → H' D = some (.lst (os.filterMap id)) → (∀ i o, os[i]? = some o → Pe i o H') → Qd H') :
    ∃ W : Nat → Nat → Hp → Prop, (∃ m, W 0 m (upd H1 D (.lst []))) ∧ ∀ i m H, W i m H →
      ((Itt K a).stop i H ∧ Qd H) ∨ ((Itt K a).go i H ∧ ∃ Nx : Hp → Prop, (∀ H', Nx H' → ∃ m', m' < m ∧ W (i + 1) m' H') ∧ ∀ x H', (Itt K a).yld i H x H' → g x (wipe σ vs) H' fun σ2 H2 => wipe σ2 vs = wipe σ vs ∧ tt σ2 H2 fun b H3 =>
        if b = true then te σ2 H3 fun y H4 => ∃ acc, H4 D = some (.lst acc) ∧ acc.length < sizeLine ∧ Nx (upd H4 D (.lst (acc ++ [y]))) else Nx H3) :=
  lc_tup (LcI H1 D Pe) (LcI.start hD) (fun i H _ I => ex_t I.ex hx) (fun i x H hi I => hs i x hi H I.ex _ _ (fun y H4 e p => I.more mono (by have := (List.getElem?_eq_some_iff.mp hi).1; omega) e p) (fun H4 e p => I.less mono e p))
    (fun H I => by obtain ⟨_, e, os, hl, h, p⟩ := I; exact hd H os e hl h p)
end
/-- every turn makes an item: Pf tells it -/
def All (Pf : Nat → V → Hp → Prop) : PeT := fun i o H => ∃ y, o = some y ∧ Pf i y H
theorem All.list {Pf : Nat → V → Hp → Prop} {H : Hp} : ∀ {os : List (Option V)} {k : Nat}, (∀ i o, os[i]? = some o → All Pf (k + i) o H) → ∃ ys : List V, os.filterMap id = ys ∧ ys.length = os.length ∧ ∀ i y, ys[i]? = some y → Pf (k + i) y H
  | [], _, _ => ⟨[], rfl, rfl, fun i y e => by simp at e⟩
  | o :: os, k, h => by
    obtain ⟨y, rfl, p⟩ := h 0 o rfl
    obtain ⟨ys, e1, e2, e3⟩ := All.list (os := os) (k := k + 1) (fun i o e => by
      have := h (i + 1) o e
      rwa [show k + (i + 1) = k + 1 + i by omega] at this)
    refine ⟨y :: ys, by rw [← e1]; rfl, by rw [List.length_cons, List.length_cons, e2], fun i z e => ?_⟩
    cases i with
    | zero =>
      have : y = z := Option.some.inj e
      subst this
      exact p
    | succ i =>
      have := e3 i z e
      rwa [show k + (i + 1) = k + 1 + i by omega]
theorem All.end {Pf : Nat → V → Hp → Prop} {H : Hp} {os : List (Option V)} (h : ∀ i o, os[i]? = some o → All Pf i o H) : ∃ ys : List V, os.filterMap id = ys ∧ ys.length = os.length ∧ ∀ i y, ys[i]? = some y → Pf i y H := by
  obtain ⟨ys, a, b, c⟩ := All.list (k := 0) (fun i o e => by rw [Nat.zero_add]; exact h i o e)
  exact ⟨ys, a, b, fun i y e => by have := c i y e; rwa [Nat.zero_add] at this⟩
theorem all_mono {Pf : Nat → V → Hp → Prop} (h : ∀ i v H H', ExT H H' → Pf i v H → Pf i v H') : Mono (All Pf) := fun i o H H' e ⟨y, a, b⟩ => ⟨y, a, h i y H H' e b⟩
theorem Kd.up {H H' : Hp} {v : V} {n : String} (e : Ex H H') (k : Kd H v n) : Kd H' v n := k.ex e
theorem Kd.new {H : Hp} {t : Addr} {o : HO} {v : V} {n : String} (h : H t = none) (k : Kd H v n) : Kd (upd H t o) v n := k.ex (Ex.new h)
theorem atI_in {xs : List V} {d : Int} (h0 : 0 ≤ d) (h1 : d < xs.length) : ∃ v, v ∈ xs ∧ atI xs d = some v := by
  obtain ⟨j, rfl⟩ := Int.eq_ofNat_of_zero_le h0
  have hj : j < xs.length := by omega
  exact ⟨xs[j], List.getElem_mem hj, atI_nat (List.getElem?_eq_getElem hj)⟩
theorem Th.up {H H' : Hp} {v : V} {b : Bool} (e : Ex H H') (k : Th H v b) : Th H' v b := by
  cases k with
  | other k h => exact .other (k.ex e) h
  | tup h ks => exact .tup (e _ _ h) fun x hx => let ⟨n, k⟩ := ks x hx; ⟨n, k.ex e⟩
theorem Th.kd {H : Hp} {v : V} {b : Bool} (k : Th H v b) : ∃ n, Kd H v n := by
  cases k with
  | other k h => exact ⟨_, k⟩
  | tup h ks => exact ⟨_, .tup h⟩
theorem Pool.up {H H' : Hp} {p : Addr} (e : Ex H H') (h : Pool H p) : Pool H' p := e _ _ h
theorem Pool.new {H : Hp} {t p : Addr} {o : HO} (ht : H t = none) (h : Pool H p) : Pool (upd H t o) p := upd_new ht h
theorem Th.new {H : Hp} {t : Addr} {o : HO} {v : V} {b : Bool} (ht : H t = none) (k : Th H v b) : Th (upd H t o) v b := k.up (Ex.new ht)
theorem ix_in {K : PySem.W.Frag} {H : Hp} {p : Addr} {xs : List V} {d : Int} {Q : VK} (h : SqL K H p xs ∨ SqT K H p xs) (h0 : 0 ≤ d) (h1 : d < xs.length) (q : ∀ v, v ∈ xs → Q v H) : rIx K (.ref p) (.int d) H Q := by
  obtain ⟨v, hv, ha⟩ := atI_in h0 h1
  rcases h with h | h
  · exact .inl ⟨p, xs, d, v, rfl, rfl, h, ha, q v hv⟩
  · exact .inr (.inl ⟨p, xs, d, v, rfl, rfl, h, ha, q v hv⟩)
/-- a heap without one object -/
def Minus (H : Hp) (p : Addr) : Hp := fun a => if a = p then none else H a
theorem minus_at {H : Hp} {p a : Addr} {o : HO} (n : a ≠ p) (h : H a = some o) : Minus H p a = some o := by
  unfold Minus
  rw [if_neg n]
  exact h
theorem minus_ex {H H' : Hp} {p : Addr} (b : But p H H') : Ex (Minus H p) H' := fun a o h => by
  unfold Minus at h
  by_cases n : a = p
  · rw [if_pos n] at h; cases h
  · rw [if_neg n] at h; exact b a o n h
theorem minus_lo {H : Hp} {p : Addr} : Ex (Minus H p) H := minus_ex But.refl
theorem ne_fresh {H : Hp} {a p : Addr} {o : HO} (h : H a = none) (hp : H p = some o) : a ≠ p := (ne_of_none hp h).symm
theorem But.ex {p : Addr} {H H0 H' : Hp} (e : Ex H H0) (h : H p = none) (b : But p H0 H') : Ex H H' := fun a o ha => b a o (ne_of_none ha h) (e a o ha)
theorem But.up {p : Addr} {H H1 H2 : Hp} (b : But p H H1) (e : Ex H1 H2) : But p H H2 := fun a o n h => e a o (b a o n h)
theorem mem_cut {xs : List V} {lo hi : Option Int} {x : V} (h : x ∈ cutV xs lo hi) : x ∈ xs := by
  unfold cutV at h
  exact List.mem_of_mem_drop (List.mem_of_mem_take h)
theorem mem_set {xs : List V} {j : Nat} {x y : V} (h : x ∈ xs.set j y) : x ∈ xs ∨ x = y := List.mem_or_eq_of_mem_set h
theorem ixN_in {n : Nat} {d : Int} (h0 : 0 ≤ d) (h1 : d < n) : ixN n d = some d.toNat := by
  unfold ixN
  rw [if_pos h0, if_pos h1]
/-- o[d] = v in bounds -/
theorem set_in {H : Hp} {p : Addr} {xs : List V} {d : Int} {v : V} {Q : Hp → Prop} (h : H p = some (.lst xs)) (h0 : 0 ≤ d) (h1 : d < xs.length) (q : Q (upd H p (.lst (xs.set d.toNat v)))) : rSetL (.ref p) (.int d) v H Q :=
  ⟨p, xs, d, d.toNat, rfl, rfl, h, ixN_in h0 h1, q⟩
theorem newEx {H H' : Hp} {t : Addr} {o : HO} (h : upd H t o = H') (n : H t = none) : Ex H H' := by rw [← h]; exact Ex.new n
theorem newAt {H H' : Hp} {t : Addr} {o : HO} (h : upd H t o = H') : H' t = some o := by rw [← h]; exact upd_same
theorem mutBut {H H' : Hp} {t : Addr} {o : HO} (h : upd H t o = H') : But t H H' := by rw [← h]; exact But.mut But.refl
theorem but_of {p : Addr} {H H' : Hp} (e : Ex H H') : But p H H' := fun x o _ h => e x o h
theorem law_fd {K : PySem.W.Frag} {mg : Str → Option Value} {x p : Str} {st : Stmt} {fa : Addr} (D : DefAt K mg x st) (b : Bnd x st [p]) (hfa : mg x = some (.ref fa)) : ∃ fd, Fun K x x st fa fd ∧ ∀ (s : Shared) (u : Value), BindsTo s fd ⟨[u], []⟩ [(p, u)] := by
  obtain ⟨f, fd, F, m⟩ := D.ex
  rw [m] at hfa
  cases hfa
  refine ⟨fd, F, ?_⟩
  obtain ⟨oc, od, kV, doc, pm, an, cdv, ct, osl, rfl, lk, hcd⟩ := F.ex
  exact fun s u => .of_eq (b kV doc pm an cdv ct [u] rfl)
/-- the law's promise -/
def spLaw (K : PySem.W.Frag) : Sp := fun vs H Q _ => ∃ (a : Addr) (ns : List Int), vs = [.ref a] ∧ SqL K H a (ns.map V.int) ∧ ns.length ≤ 63 ∧ ∀ H', Q (.bl true) H'
/-- a check of the law: whatever the pool gives, True -/
def spCheck : Sp := fun vs H Q _ => ∃ p, vs = [.ref p] ∧ Pool H p ∧ ∀ H', Ex H H' → Q (.bl true) H'
theorem all_true {ys : List V} (h : ∀ y ∈ ys, y = V.bl true) : ∃ bs : List Bool, ys = bs.map V.bl ∧ bs.all id = true := by
  refine ⟨List.replicate ys.length true, ?_, by simp⟩
  rw [List.map_replicate]
  exact List.eq_replicate_iff.mpr ⟨rfl, h⟩
theorem rep2 {H : Hp} {l : Addr} {xs : List V} {Q : VK} (h : H l = some (.lst xs)) (hl : xs.length ≤ 1000) (q : ∀ p, H p = none → Q (.ref p) (upd H p (.lst (xs ++ xs)))) : rRep (.ref l) (.int 2) H Q := by
  refine ⟨l, 2, xs, rfl, rfl, h, by decide, by decide, ?_, fun p n => ?_⟩
  · exact Nat.le_trans (by show xs.length * 2 ≤ 100000; omega) line_ge
  · have e : (List.replicate (2 : Int).toNat xs).flatten = xs ++ xs := by
      show xs ++ (xs ++ []) = _
      rw [List.append_nil]
    first
      | (rw [e]; exact q p n)
      | exact q p n
theorem const_mk {K : PySem.W.Frag} {h : Heap} {mg : Str → Option Value} {x : Str} {u : Value} {v : V} (X : K.In h) (G : h.Ns mainGlobals mg) (a : PySem.W.nsIn K mainGlobals x = some (some u)) (r : RelV v u) : ∃ u, mg x = some u ∧ RelV v u := ⟨u, PySem.W.mg_of X G a, r⟩
/-- a statement that is never reached -/
theorem ps_dead {X : Cx} {st : Stmt} : PS X st (fun _ _ _ => False) := ⟨fun _ _ _ _ _ _ h => h.elim⟩
end Lw
/-! Tuples that know their object; dict(tuple of pairs); sorted(d.items()) of ints. -/
namespace Lw
open PySem PySem.Spec PyProof.Rows L2 Evl

/-- a tuple whose object has no dict of its own -/
def Tu (H : Hp) (p : Addr) (xs : List V) : Prop := ∃ o : Obj, o.dict = none ∧ H p = some (.frz o (.tup xs))
abbrev RowAt (H : Hp) (q : Addr) (p : Int × Int) : Prop := H q = some (.tup [.int p.1, .int p.2])
abbrev Rows (H : Hp) : List Addr → List (Int × Int) → Prop := Paired (RowAt H)
def kvI (ps : List (Int × Int)) : List (Key × V) := ps.map fun p => (.inl p.1, .int p.2)
theorem Tu.up {H H' : Hp} {p : Addr} {xs : List V} (e : Ex H H') (t : Tu H p xs) : Tu H' p xs := let ⟨o, a, b⟩ := t; ⟨o, a, e _ _ b⟩
theorem RowAt.up {H H' : Hp} {q : Addr} {p : Int × Int} (h : RowAt H q p) (e : Ex H H') : RowAt H' q p := e _ _ h
theorem Tu.sq {K : PySem.W.Frag} {H : Hp} {p : Addr} {xs : List V} (t : Tu H p xs) : SqT K H p xs := let ⟨o, _, b⟩ := t; .inl (.inr ⟨o, b⟩)
theorem Rows.up {H H' : Hp} (e : Ex H H') : ∀ {qs : List Addr} {ps : List (Int × Int)}, Rows H qs ps → Rows H' qs ps
  | _, _, .nil => .nil
  | _, _, .cons h t => .cons (e _ _ h) (Rows.up e t)
theorem u1 {a b : Nat} (h : a + 64 < b) : a + 1 < b := by omega
section
variable {X : Cx} {es : List Expr} {pos : Pos} {t : TA}
/-- tuple(xs), xs a list -/
theorem cr_tupF : CallR X (.type "tuple") (fun as H Q => ∃ p ys, as = [.ref p] ∧ SqL X.K H p ys ∧ ∀ l o, H l = none → o.dict = none → Q (.ref l) (upd H l (.frz o (.tup ys)))) := by
  intro pins s σ H as us Q I r hq
  obtain ⟨p, ys, rfl, hl, q⟩ := hq
  obtain rfl := Vals.ref1 r
  obtain ⟨its, rv, pl, hz⟩ := I.list hl
  refine call_tuple_list pl.isList (fun g kp => ?_) (by rw [List.size_toArray, ← rv.length]; exact hz)
  have J : Inv X pins σ H { s with heap := g } := I.kept (t' := s.toks) kp
  have hn := J.hok.fresh (Nat.le_refl _)
  refine ⟨.ref _, _, J.laid (t' := s.toks) (fun b o e => Heap.get?_push_of_some _ e) (Nat.le_refl _) (o := .frz { cls := .type "tuple", data := .seq its.toArray } (.tup ys)) ⟨Heap.get?_push_size _ rfl, hz, its, rv, IsTup.new _ _⟩, rfl, q _ _ hn rfl⟩
def tTupF (t : TA) : TE := fun σ H Q => t σ H fun xs H1 => xs.length ≤ sizeLine ∧ ∀ p o, H1 p = none → o.dict = none → Q (.ref p) (upd H1 p (.frz o (.tup xs)))
/-- (a, ..) -/
theorem pe_tupF {x1} (h : PA X es t) : PE X (.Tuple es x1 pos) (tTupF t) := by
  refine ⟨fun pins s σ H Q I hq => ?_⟩
  refine wpAny_Tuple_spliced (thn (h.run pos pins s σ H _ I hq) fun us s1 hh => ?_)
  obtain ⟨xs, H1, J, r, z, q⟩ := hh
  refine ⟨by rw [← r.length]; exact z, ?_⟩
  have hn := J.hok.fresh (Nat.le_refl _)
  refine ⟨.ref _, _, J.laid (t' := s1.toks) (fun b u e => Heap.get?_push_of_some _ e) (Nat.le_refl _) (o := .frz { cls := .type "tuple", data := .seq us.toArray } (.tup xs)) ⟨Heap.get?_push_size _ rfl, z, us, r, ⟨_, Heap.get?_push_size _ rfl, rfl, _, rfl⟩⟩, rfl, q _ _ hn rfl⟩
theorem rows_of {pins : List (Addr × Obj)} {σ : L2.St} {H : Hp} {s : Shared} (I : Inv X pins σ H s) : ∀ {qs : List Addr} {ps : List (Int × Int)}, Rows H qs ps →
    ∃ (vps : List (Value × Value)) (prs : List (Key × Value)), Paired (fun (q : Addr) (kv : Value × Value) => IsTup s.heap q #[kv.1, kv.2]) qs vps ∧ KV (kvI ps) prs ∧
      Paired (fun (pr : Key × Value) (kv : Value × Value) => keyIs pr.1 kv.1 = true ∧ pr.2 = kv.2) prs vps
  | _, _, .nil => ⟨[], [], .nil, .nil, .nil⟩
  | _, _, .cons (a := q) (b := p) h t => by
    obtain ⟨vps, prs, a, b, c⟩ := rows_of I t
    obtain ⟨its, rv, ht, _⟩ := I.tuple (SqT.of h)
    obtain ⟨u, y, rfl, ru, ry⟩ := vals2 rv
    obtain ⟨k, rfl⟩ := ru
    exact ⟨(.int p.1 k, y) :: vps, (.inl p.1, y) :: prs, .cons ht a, .cons ⟨rfl, ry⟩ b, .cons ⟨keyIs_int _ _, rfl⟩ c⟩
/-- dict(t), t a tuple of pairs of ints -/
theorem cr_dictT (hc : X.calm = true) : CallR X (.type "dict") (fun as H Q => ∃ a qs ps, as = [.ref a] ∧ Tu H a (qs.map V.ref) ∧ Rows H qs ps ∧ ∀ l, H l = none → Q (.ref l) (upd H l (.dK (mergeK [] (kvI ps))))) := by
  intro pins s σ H as us Q I r hq
  obtain ⟨a, qs, ps, rfl, ⟨o, hd, ho⟩, hr, q⟩ := hq
  obtain rfl := Vals.ref1 r
  obtain ⟨go, hz, its, rv, o', ho', hcl, n, hdat⟩ := I.hok a _ ho
  obtain rfl : o = o' := Option.some.inj (go.symm.trans ho')
  obtain rfl := refs_at rv
  rw [List.length_map] at hz
  obtain ⟨vps, prs, h1, h2, h3⟩ := rows_of I hr
  have l1 : qs.length = vps.length := Paired.length h1
  have l3 : prs.length = vps.length := Paired.length h3
  have key : ∀ j k v, vps[j]? = some (k, v) → ∃ b, qs[j]? = some b ∧ IsTup s.heap b #[k, v] := fun j k v e => by
    obtain ⟨b, hb, ht⟩ := L2.DX.pget h1 e
    exact ⟨b, hb, ht⟩
  refine PySem.call_dict_pairs (knd := mixKind X.prog X.w) (kvs := prs) (PairArg.tuple a (qs.map Value.ref).toArray (fun j => qs.getD j 0) vps) (I.ok.hd hc) ⟨⟨o, n, go, hcl, hd, hdat⟩, ?_, fun j k v e => ?_⟩ ⟨l3, fun i k v e => ?_⟩ (by omega) fun h' tk dd hk => ?_
  · rw [List.size_toArray, List.length_map]; exact l1
  · obtain ⟨b, hb, ht⟩ := key j k v e
    have eb : qs.getD j 0 = b := by rw [List.getD_eq_getElem?_getD, hb]; rfl
    refine ⟨?_, .inl ?_⟩
    · show (qs.map Value.ref).toArray[j]? = some (.ref (qs.getD j 0))
      rw [eb, List.getElem?_toArray, List.getElem?_map, hb]; rfl
    · show s.heap.IsTuple (qs.getD j 0) #[k, v]
      rw [eb]; exact ht
  · obtain ⟨⟨k', v'⟩, hp, hk, hv⟩ := L2.DX.pget h3 e
    exact ⟨k', by rw [hp, show v' = v from hv], hk⟩
  · have hm : (s.heap.objs.size == sysModules) = false := beq_eq_false_iff_ne.mpr (Nat.ne_of_gt I.big)
    have hlen : (mergeK [] (kvI ps)).length ≤ sizeLine := by
      refine Nat.le_trans (length_mergeK _ []) ?_
      rw [List.length_nil, Nat.zero_add, h2.length]
      omega
    exact ⟨.ref _, _, I.laid (t' := tk) (fun b u e => hk b u (fun z => nomatch z) e) (Nat.le_refl _) (o := .dK (mergeK [] (kvI ps))) ⟨hlen, hm, merged [] prs, KV.merge h2 .nil, dd⟩, rfl, q _ (I.hok.fresh (Nat.le_refl _))⟩
/-- the same context, one call deeper -/
theorem inA {pins : List (Addr × Obj)} {σ : L2.St} {H : Hp} {s : Shared} (I : Inv X pins σ H s) : Inv { X with A := X.A.in1 } pins σ H s := by
  obtain ⟨⟨a1, a2, a3, a4, a5, a6, a7, a8, a9, b1, b2, b3, b4, b5, b6, b7, b8, b9⟩, c1, c2, c3, c4, c5, c6, c7, c8, c9, d1⟩ := I
  exact ⟨⟨a1, a2, a3, a4, a5, a6, a7, a8, fun c => by show X.A.in1.handled = none; simpa using a9 c, b1, b2, b3, b4, b5, b6, b7, b8, b9⟩, c1, c2, c3, c4, c5, c6, c7, c8, c9, d1⟩
theorem outA {pins : List (Addr × Obj)} {σ : L2.St} {H : Hp} {s : Shared} (ok : X.Ok) (I : Inv { X with A := X.A.in1 } pins σ H s) : Inv X pins σ H s := by
  obtain ⟨_, c1, c2, c3, c4, c5, c6, c7, c8, c9, d1⟩ := I
  exact ⟨ok, c1, c2, c3, c4, c5, c6, c7, c8, c9, d1⟩
/-- d.items() -/
theorem mt_itemsK : MtR X "dict.items" (fun x as H Q => ∃ a kvs, x = .ref a ∧ as = [] ∧ H a = some (.dK kvs) ∧ ∀ p, H p = none → Q (.ref p) (upd H p (L2.DX.itemsO p a))) := by
  intro pins s σ H x as v us Q I rx rs hq
  obtain ⟨a, kvs, rfl, rfl, ha, q⟩ := hq
  cases rx
  cases rs
  obtain ⟨_, hd, vs, rel, o, es, ep, ho, hx, hdat, _⟩ := dk_of I.hok ha
  refine DT.callItems (es := es) (ep := ep) hd ⟨o, ho, hx, hdat⟩ ?_
  exact ⟨.ref _, _, I.laid (t' := s.toks) (fun b u e => Heap.get?_push_of_some _ e) (Nat.le_refl _) (L2.DX.itemsO_ok (Heap.get?_push_size _ rfl)), rfl, q _ (I.hok.fresh (Nat.le_refl _))⟩
theorem pairs_at {P : Program} {w : World} : ∀ {es : List DictEntry} {vs : List (Key × Value)} {kvs : List (Key × V)} {ps : List (Int × Int)} {j : Nat} {e : DictEntry}, Pairs (mixKind P w) es vs → KV kvs vs → kvs = kvI ps → es[j]? = some e →
    ∃ p t, ps[j]? = some p ∧ e.key = .int p.1 t ∧ RelV (.int p.2) e.val
  | _, _, _, _, j, e, .nil, _, _, h => by simp at h
  | _, _, _, [], _, _, .cons .., .cons .., hk, _ => by cases hk
  | _, _, _, p :: ps, 0, e, .cons h1 h2 t, .cons r1 r2, hk, h => by
    cases hk
    simp only [List.getElem?_cons_zero] at h
    cases h
    obtain ⟨r1, r3⟩ := r1
    rcases keyIs_shape (show keyIs _ _ = true from h1) with ⟨i, t, ek, ev⟩ | ⟨z, t, ek, ev⟩
    · rw [← r1] at ek
      cases ek
      exact ⟨p, t, rfl, ev, by rw [h2]; exact r3⟩
    · rw [← r1] at ek
      cases ek
  | _, _, _, p :: ps, j + 1, e, .cons h1 h2 t, .cons r1 r2, hk, h => by
    cases hk
    simp only [List.getElem?_cons_succ] at h
    obtain ⟨p', t', a, b, c⟩ := pairs_at t r2 rfl h
    exact ⟨p', t', by rw [List.getElem?_cons_succ]; exact a, b, c⟩
theorem rows_mk {H : Hp} : ∀ {as : List Addr} {ps : List (Int × Int)}, as.length = ps.length → (∀ (j : Nat) a, as[j]? = some a → ∃ p, ps[j]? = some p ∧ RowAt H a p) → Rows H as ps
  | [], [], _, _ => .nil
  | a :: as, p :: ps, hl, h => by
    refine .cons ?_ (rows_mk (by simpa using hl) fun j b e => ?_)
    · obtain ⟨p', e, r⟩ := h 0 a rfl
      cases e
      exact r
    · obtain ⟨p', e', r⟩ := h (j + 1) b e
      exact ⟨p', e', r⟩
  | [], _ :: _, hl, _ => by simp at hl
  | _ :: _, [], hl, _ => by simp at hl
def kOf (H : Hp) : V → Int × Int
  | .ref a => match H a with
    | some (.tup [.int x, .int y]) => (x, y)
    | _ => (0, 0)
  | _ => (0, 0)
theorem kOf_row {H : Hp} {a : Addr} {p : Int × Int} (h : RowAt H a p) : kOf H (.ref a) = p := by
  show (match H a with
    | some (.tup [.int x, .int y]) => (x, y)
    | _ => (0, 0)) = p
  rw [show H a = some (.tup [.int p.1, .int p.2]) from h]
def unref : V → Addr
  | .ref a => a
  | _ => 0
theorem rows_get {H : Hp} : ∀ {as : List Addr} {ps : List (Int × Int)}, Rows H as ps → ps = as.map fun a => kOf H (.ref a)
  | _, _, .nil => rfl
  | _, _, .cons h t => by rw [List.map_cons, kOf_row h, ← rows_get t]
theorem rows_mem {H : Hp} : ∀ {as : List Addr} {ps : List (Int × Int)}, Rows H as ps → ∀ a ∈ as, ∃ p, RowAt H a p
  | _, _, .cons h t, a, m => by
    rcases List.mem_cons.mp m with rfl | m
    · exact ⟨_, h⟩
    · exact rows_mem t a m
theorem rows_all {H : Hp} : ∀ {as : List Addr}, (∀ a ∈ as, ∃ p, RowAt H a p) → Rows H as (as.map fun a => kOf H (.ref a))
  | [], _ => .nil
  | a :: as, h => by
    obtain ⟨p, e⟩ := h a (by simp)
    exact .cons (by show RowAt H a (kOf H (.ref a)); rw [kOf_row e]; exact e) (rows_all fun b m => h b (List.mem_cons_of_mem _ m))
theorem rows_sub {H H' : Hp} : ∀ {as : List Addr} {ps : List (Int × Int)}, (∀ a ∈ as, ∀ o, H a = some o → H' a = some o) → Rows H as ps → Rows H' as ps
  | _, _, _, .nil => .nil
  | _, _, k, .cons h t => .cons (k _ (by simp) _ h) (rows_sub (fun a m => k a (List.mem_cons_of_mem _ m)) t)
theorem vals_refs : ∀ as : List Addr, Vals (as.map V.ref) (as.map Value.ref)
  | [] => .nil
  | _ :: as => .cons rfl (vals_refs as)
theorem rise_inj {as : List Nat} (h : as.Pairwise (· < ·)) {i j : Nat} {a : Nat} (hi : as[i]? = some a) (hj : as[j]? = some a) : i = j := by
  obtain ⟨li, ei⟩ := List.getElem?_eq_some_iff.mp hi
  obtain ⟨lj, ej⟩ := List.getElem?_eq_some_iff.mp hj
  have g := List.pairwise_iff_getElem.mp h
  by_cases c : i < j
  · have := g i j li lj c
    omega
  · by_cases c' : j < i
    · have := g j i lj li c'
      omega
    · omega
/-- a list of refs rearranged -/
theorem refs_perm {zs : List V} {as : List Addr} (h : zs.Perm (as.map V.ref)) : zs = (zs.map unref).map V.ref ∧ (zs.map unref).Perm as := by
  constructor
  · rw [List.map_map]
    refine (List.map_id zs).symm.trans (List.map_congr_left fun z hz => ?_)
    obtain ⟨a, _, rfl⟩ := List.mem_map.mp (h.mem_iff.mp hz)
    rfl
  · have e := h.map unref
    rw [List.map_map] at e
    exact e.trans (List.Perm.of_eq (List.map_id _))
/-- sorted(d.items()), keys and values ints -/
theorem cr_itemsS (hc : X.calm = true) : CallR X (.builtin "sorted") (fun as H Q => ∃ (v a : Addr) (ps : List (Int × Int)), as = [.ref v] ∧ H v = some (L2.DX.itemsO v a) ∧ H a = some (.dK (kvI ps)) ∧
    ∀ H' l (qs : List Addr) (rs : List (Int × Int)), Ex H H' → H' l = some (.lst (qs.map V.ref)) → Rows H' qs rs → rs.Perm ps → rs.Pairwise (fun p q => SrtO.lexB q p = false) → Q (.ref l) H') := by
  intro pins s σ H as us Q I r hq
  obtain ⟨v, a, ps, rfl, hv, ha, q⟩ := hq
  obtain rfl := Vals.ref1 r
  have view : s.heap.IsItemsView v a := (I.hok v _ hv).1
  obtain ⟨hz, hd, vs, rel, o, es, ep, ho, hx, hdat, hks, hps, hnd⟩ := dk_of I.hok ha
  have hn := hps.length
  rw [Array.length_toList] at hn
  have l1 : ps.length = vs.length := by rw [← rel.length]; exact (List.length_map _).symm
  have z1 : ps.length ≤ sizeLine := by rw [l1, ← rel.length]; exact hz
  refine DT.sortedI (es := es) (ep := ep) (I.ok.hd hc) view ⟨o, ho, hx, hdat⟩ (by omega) fun h' tk as hk hlt hl hG => ?_
  have lak : as.length = ps.length := by omega
  have nd : as.Nodup := hG.rise.imp fun h => Nat.ne_of_lt h
  have obj : ∀ (j : Nat) (b : Addr), as[j]? = some b → ∃ p k t, ps[j]? = some p ∧ RelV (.int p.2) t ∧ h'.get? b = some { cls := .type "tuple", data := .seq #[.int p.1 k, t] } := fun j b e => by
    obtain ⟨en, he, hg⟩ := hG.pairs j b e
    obtain ⟨p, k, ep, ek, ev⟩ := pairs_at hps rel rfl (by rw [← he]; exact Array.getElem?_toList)
    exact ⟨p, k, en.val, ep, ev, by rw [hg, ek]⟩
  have hob : (h'.push { cls := .type "list", data := .seq (as.map Value.ref).toArray }).get? h'.objs.size = some { cls := .type "list", data := .seq (as.map Value.ref).toArray } := Heap.get?_push_size _ rfl
  have old : ∀ b u, h'.get? b = some u → (h'.push { cls := .type "list", data := .seq (as.map Value.ref).toArray }).get? b = some u := fun b u e => Heap.get?_push_of_some _ e
  generalize hL : h'.objs.size = L at *
  generalize h'.push { cls := .type "list", data := .seq (as.map Value.ref).toArray } = g at *
  have J : Inv X pins σ (upd H L (.lst (as.map V.ref))) { s with heap := g, toks := tk } :=
    I.laid (t' := tk) (fun b u e => old b u (hk b u e)) (Nat.le_of_lt hlt) ⟨by rw [List.length_map, lak]; exact z1, as.map Value.ref, 0, vals_refs as, hob⟩
  have ltL : ∀ b ∈ as, b ≠ L := fun b hb => Nat.ne_of_lt (by rw [← hL]; exact hG.there hb)
  obtain ⟨H2, J2, up, hT⟩ := L2.DX.takeT (P := fun b vs => ∃ (j : Nat) (p : Int × Int), as[j]? = some b ∧ ps[j]? = some p ∧ vs = [.int p.1, .int p.2]) I as _ J nd fun b hb => by
    obtain ⟨j, hj⟩ := List.mem_iff_getElem?.mp hb
    obtain ⟨p, k, t, hp, rt, hg⟩ := obj j b hj
    have lb := hG.above b hb
    refine ⟨Nat.le_of_lt lb, by rw [upd_ne (ltL b hb)]; exact I.hok.fresh (Nat.le_of_lt lb), [.int p.1, .int p.2], ⟨j, p, hj, hp, rfl⟩, fun H2 => ?_⟩
    exact ⟨by show 2 ≤ sizeLine; decide, [.int p.1 k, t], .cons ⟨k, rfl⟩ (.cons rt .nil), _, old _ _ hg, rfl, 0, rfl⟩
  have rw2 : Rows H2 as ps := rows_mk lak fun j b e => by
    obtain ⟨vs', ⟨j', p, e1, e2, e3⟩, e4⟩ := hT b (List.mem_of_getElem? e)
    obtain rfl := rise_inj hG.rise e e1
    exact ⟨p, e2, by rw [e3] at e4; exact e4⟩
  have hs := mt_sortPO (X := { X with A := X.A.in1 }) pins _ σ H2 (.ref L) [] (.ref L) [] (fun _ H3 => ∃ zs, SrtO.Srtd (ltP (kOf H2)) zs ∧ SrtO.Stb (ltP (kOf H2)) zs (as.map V.ref) ∧ H3 = upd H2 L (.lst zs)) (inA J2) rfl .nil
    ⟨L, as.map V.ref, kOf H2, rfl, rfl, up _ _ upd_same, fun y hy => by
      obtain ⟨b, hb, rfl⟩ := List.mem_map.mp hy
      obtain ⟨p, hp⟩ := rows_mem rw2 b hb
      exact ⟨b, rfl, by rw [kOf_row hp]; exact hp⟩, fun zs h1 h2 => ⟨zs, h1, h2, rfl⟩⟩
  refine wpAny_mono hs (fun _ s' x => ?_) fun _ _ e => e
  obtain ⟨_, _, J3, _, zs, h1, h2, rfl⟩ := x
  obtain ⟨e1, e2⟩ := refs_perm h2.perm
  have sub : ∀ b ∈ zs.map unref, b ∈ as := fun b hb => e2.mem_iff.mp hb
  refine ⟨.ref L, _, outA I.ok J3, rfl, q _ L (zs.map unref) ((zs.map unref).map fun a => kOf H2 (.ref a)) ?_ (by rw [upd_same, ← e1]) ?_ ?_ ?_⟩
  · intro b u e
    have hb : b ≠ L := ne_of_none e (I.hok.fresh (Nat.le_of_lt hlt))
    rw [upd_ne hb]
    exact up b u (by rw [upd_ne hb]; exact e)
  · exact rows_sub (fun b hb u e => by rw [upd_ne (ltL b (sub b hb))]; exact e) (rows_all fun b hb => rows_mem rw2 b (sub b hb))
  · rw [rows_get rw2]
    exact e2.map _
  · rw [e1] at h1
    exact List.pairwise_map.mpr (List.pairwise_map.mp h1)
end
theorem Rows.len {H : Hp} {qs : List Addr} {ps : List (Int × Int)} (r : Rows H qs ps) : qs.length = ps.length := Paired.length r
theorem rows_at {H : Hp} : ∀ {qs : List Addr} {ps : List (Int × Int)} {i : Nat} {p : Int × Int}, Rows H qs ps → ps[i]? = some p → ∃ q, qs[i]? = some q ∧ RowAt H q p
  | _, _, i, p, r, h => L2.DX.pget r h
theorem rows_at' {H : Hp} {qs : List Addr} {ps : List (Int × Int)} {i : Nat} {v : V} (r : Rows H qs ps) (h : (qs.map V.ref)[i]? = some v) : ∃ q p, v = .ref q ∧ qs[i]? = some q ∧ ps[i]? = some p ∧ RowAt H q p := by
  rw [List.getElem?_map] at h
  cases e : qs[i]? with
  | none => rw [e] at h; cases h
  | some q =>
    rw [e] at h
    obtain rfl : V.ref q = v := Option.some.inj h
    have li := (List.getElem?_eq_some_iff.mp e).1
    rw [r.len] at li
    obtain ⟨q', e', ra⟩ := rows_at r (List.getElem?_eq_getElem li)
    rw [e] at e'
    cases e'
    exact ⟨q, _, rfl, rfl, List.getElem?_eq_getElem li, ra⟩
end Lw
/-! sorted(d) of a dict keyed by pairs of ints. -/
namespace Lw
open PySem PySem.Spec PyProof.Rows L2 Evl
def keyP (p : Int × Int) : List Key := [.inl p.1, .inl p.2]
section
variable {X : Cx}
theorem cr_sortedDP (hc : X.calm = true) : CallR X (.builtin "sorted") (fun as H Q => ∃ (d : Addr) (kvs : List (List Key × V)) (ps : List (Int × Int)), Rd H d (.dT kvs) ∧ as = [.ref d] ∧ kvs.map (·.1) = ps.map keyP ∧
    ∀ H' l (qs : List Addr) (rs : List (Int × Int)), Ex H H' → H' l = some (.lst (qs.map V.ref)) → Rows H' qs rs → rs.Perm ps → rs.Pairwise (fun p q => SrtO.lexB q p = false) → Q (.ref l) H') := by
  intro pins s σ H as us Q I r hq
  obtain ⟨d, kvs, ps, hd, rfl, hk, q⟩ := hq
  obtain rfl := Vals.ref1 r
  obtain ⟨z, hs, ks, pr, o, es, ep, ho, hx, hdt, he, hn⟩ := (show ObjOk X.prog X.w H s.heap d (.dT kvs) from hd.ok I.hok)
  have l1 : es.size = ks.length := size_of_entries he
  have l2 : kvs.length = ks.length := Paired.length pr
  have l3 : kvs.length = ps.length := by
    have e := congrArg List.length hk
    rwa [List.length_map, List.length_map] at e
  have rows : Rows H (ks.map fun x => x.2.1) ps := rows_mk (by rw [List.length_map]; omega) fun j a e => by
    rw [List.getElem?_map] at e
    cases hj : ks[j]? with
    | none => rw [hj] at e; cases e
    | some x =>
      rw [hj] at e
      obtain rfl : x.2.1 = a := Option.some.inj e
      obtain ⟨y, hy, e1, e2, _⟩ := L2.DX.pget pr hj
      have e3 : (kvs.map (·.1))[j]? = some y.1 := by rw [List.getElem?_map, hy]; rfl
      rw [hk, List.getElem?_map] at e3
      cases hp : ps[j]? with
      | none => rw [hp] at e3; cases e3
      | some p =>
        rw [hp] at e3
        have e4 : keyP p = y.1 := Option.some.inj e3
        refine ⟨p, rfl, ?_⟩
        rw [← e4] at e2
        exact e2
  refine Calls.call_function_entry kind_sorted plain_sorted entry_sorted (args_sorted1 _) ?_
  unfold Builtin.«sorted»
  refine wpAny_bind (m := checkCount "sorted" 1 1 _) (wpAny_pure ?_)
  refine wpAny_bind (PySem.W.kdu_collect (A := X.A.in1) (kdl_raw hs hx hdt) (I.ok.hd hc) ho (by omega) fun h' tk acc kp it => ?_)
  have la : acc.toList.length = ks.length := by rw [Array.length_toList, it.1]; exact l1
  have ea : acc.toList = (ks.map fun x => x.2.1).map Value.ref := by
    refine List.ext_getElem? fun j => ?_
    rw [List.getElem?_map, List.getElem?_map]
    by_cases c : j < ks.length
    · have gj : acc.toList[j]? = some acc.toList[j] := List.getElem?_eq_getElem (by omega)
      obtain ⟨en, hen, hv⟩ := it.2 j _ (by rw [← Array.getElem?_toList]; exact gj)
      have qe := entry_at he j
      rw [hen, List.getElem?_eq_getElem c] at qe
      rw [gj, hv, Option.some.inj qe, List.getElem?_eq_getElem c]
      rfl
    · rw [List.getElem?_eq_none (by omega), List.getElem?_eq_none (by omega)]
      rfl
  rw [ea]
  generalize hbs : (ks.map fun x => x.2.1) = bs at *
  have lb : bs.length = ps.length := Paired.length rows
  refine wpAny_bind (wpAny_newList ?_ (by rw [List.length_map]; omega))
  have hob : (h'.push { cls := .type "list", data := .seq (bs.map Value.ref).toArray }).get? h'.objs.size = some { cls := .type "list", data := .seq (bs.map Value.ref).toArray } := Heap.get?_push_size _ rfl
  have old : ∀ b u, h'.get? b = some u → (h'.push { cls := .type "list", data := .seq (bs.map Value.ref).toArray }).get? b = some u := fun b u e => Heap.get?_push_of_some _ e
  have J0 : Inv X pins σ H { s with heap := h', toks := tk } := I.kept (t' := tk) kp
  have J : Inv X pins σ (upd H h'.objs.size (.lst (bs.map V.ref))) { s with heap := h'.push { cls := .type "list", data := .seq (bs.map Value.ref).toArray }, toks := tk } :=
    J0.laid (t' := tk) old (Nat.le_refl _) ⟨by rw [List.length_map]; omega, bs.map Value.ref, 0, Lw.vals_refs bs, hob⟩
  have hL : H h'.objs.size = none := J0.hok.fresh (Nat.le_refl _)
  have rows2 : Rows (upd H h'.objs.size (.lst (bs.map V.ref))) bs ps := rows.up (Ex.new hL)
  generalize h'.objs.size = L at *
  generalize h'.push { cls := .type "list", data := .seq (bs.map Value.ref).toArray } = g at *
  have ltL : ∀ b ∈ bs, b ≠ L := fun b hb => by
    obtain ⟨p, e⟩ := rows_mem rows b hb
    exact ne_of_none e hL
  have hs := mt_sortPO (X := { X with A := X.A.in1 }) pins _ σ _ (.ref L) [] (.ref L) [] (fun _ H3 => ∃ zs, SrtO.Srtd (ltP (kOf H)) zs ∧ SrtO.Stb (ltP (kOf H)) zs (bs.map V.ref) ∧ H3 = upd (upd H L (.lst (bs.map V.ref))) L (.lst zs)) (inA J) rfl .nil
    ⟨L, bs.map V.ref, kOf H, rfl, rfl, upd_same, fun y hy => by
      obtain ⟨b, hb, rfl⟩ := List.mem_map.mp hy
      obtain ⟨p, hp⟩ := rows_mem rows b hb
      exact ⟨b, rfl, by rw [kOf_row hp, upd_ne (ltL b hb)]; exact hp⟩, fun zs h1 h2 => ⟨zs, h1, h2, rfl⟩⟩
  refine wpAny_bind (wpAny_holding (wpAny_mono hs (fun _ s' x => ?_) fun _ _ e => e))
  obtain ⟨_, _, J3, _, zs, h1, h2, rfl⟩ := x
  obtain ⟨e1, e2⟩ := refs_perm h2.perm
  have sub : ∀ b ∈ zs.map unref, b ∈ bs := fun b hb => e2.mem_iff.mp hb
  rw [upd_upd] at J3
  refine wpAny_pure ⟨_, rfl, .ref L, _, outA I.ok J3, rfl, q _ L (zs.map unref) ((zs.map unref).map fun a => kOf H (.ref a)) (Ex.new hL) (by rw [upd_same, ← e1]) ?_ ?_ ?_⟩
  · exact rows_sub (fun b hb u e => by rw [upd_ne (ltL b (sub b hb))]; exact e) (rows_all fun b hb => rows_mem rows b (sub b hb))
  · rw [rows_get rows]
    exact e2.map _
  · rw [e1] at h1
    exact List.pairwise_map.mpr (List.pairwise_map.mp h1)
end
abbrev Box := Int × Int × Int × Int
abbrev BoxAt (H : Hp) (q : Addr) (b : Box) : Prop := H q = some (.tup [.int b.1, .int b.2.1, .int b.2.2.1, .int b.2.2.2])
abbrev Boxes (H : Hp) : List Addr → List Box → Prop := Paired (BoxAt H)
/-- the point is one of the rectangle's -/
def InBox (b : Box) (p : Int × Int) : Prop := b.1 ≤ p.1 ∧ p.1 < b.1 + b.2.2.1 ∧ b.2.1 ≤ p.2 ∧ p.2 < b.2.1 + b.2.2.2
def Small (b : Box) : Prop := 0 ≤ b.2.2.1 ∧ b.2.2.1 ≤ 7 ∧ 0 ≤ b.2.2.2 ∧ b.2.2.2 ≤ 7
theorem Boxes.up {H H' : Hp} (e : Ex H H') : ∀ {qs : List Addr} {bs : List Box}, Boxes H qs bs → Boxes H' qs bs
  | _, _, .nil => .nil
  | _, _, .cons h t => .cons (e _ _ h) (Boxes.up e t)
theorem boxes_at {H : Hp} {qs : List Addr} {bs : List Box} {i : Nat} {v : V} (r : Boxes H qs bs) (h : (qs.map V.ref)[i]? = some v) : ∃ q b, v = .ref q ∧ bs[i]? = some b ∧ BoxAt H q b := by
  rw [List.getElem?_map] at h
  cases e : qs[i]? with
  | none => rw [e] at h; cases h
  | some q =>
    rw [e] at h
    have li := (List.getElem?_eq_some_iff.mp e).1
    rw [Paired.length r] at li
    obtain ⟨q', e', ra⟩ := L2.DX.pget r (List.getElem?_eq_getElem li)
    rw [e] at e'
    cases e'
    exact ⟨q, _, (Option.some.inj h).symm, List.getElem?_eq_getElem li, ra⟩
theorem keyP_inj {p q : Int × Int} (h : keyP p = keyP q) : p = q := by
  unfold keyP at h
  injection h with h1 h2
  injection h2 with h2 _
  exact Prod.ext (Sum.inl.inj h1) (Sum.inl.inj h2)
/-- a point stored -/
theorem put_pt {kvs : List (List Key × V)} {ps : List (Int × Int)} {p : Int × Int} {v : V} (hk : kvs.map (·.1) = ps.map keyP) (nd : ps.Nodup) :
    ∃ ps' : List (Int × Int), (putK kvs (keyP p) v).map (·.1) = ps'.map keyP ∧ ps'.Nodup ∧ (∀ q, q ∈ ps' ↔ q ∈ ps ∨ q = p) ∧ ps'.length ≤ ps.length + 1 := by
  unfold putK
  by_cases c : p ∈ ps
  · have any : (kvs.any fun kv => decide (kv.1 = keyP p)) = true := by
      rw [List.any_eq_true]
      have m : keyP p ∈ kvs.map (·.1) := by rw [hk]; exact List.mem_map.mpr ⟨p, c, rfl⟩
      obtain ⟨kv, h1, h2⟩ := List.mem_map.mp m
      exact ⟨kv, h1, decide_eq_true h2⟩
    rw [if_pos any]
    refine ⟨ps, ?_, nd, fun q => ⟨.inl, fun h => h.elim id fun e => e ▸ c⟩, by omega⟩
    rw [← hk, List.map_map]
    refine List.map_congr_left fun kv _ => ?_
    show (if kv.1 = keyP p then (kv.1, v) else kv).1 = kv.1
    split <;> rfl
  · have any : (kvs.any fun kv => decide (kv.1 = keyP p)) = false := by
      rw [List.any_eq_false]
      intro kv m z
      have m2 : kv.1 ∈ kvs.map (·.1) := List.mem_map.mpr ⟨kv, m, rfl⟩
      rw [hk] at m2
      obtain ⟨q, h1, h2⟩ := List.mem_map.mp m2
      rw [of_decide_eq_true z] at h2
      exact c (keyP_inj h2 ▸ h1)
    rw [any, if_neg Bool.false_ne_true]
    refine ⟨ps ++ [p], by rw [List.map_append, hk, List.map_append]; rfl, ?_, fun q => by simp, by simp⟩
    refine List.nodup_append.mpr ⟨nd, by simp, fun x hx y hy => ?_⟩
    obtain rfl : y = p := by simpa using hy
    exact fun z => c (z ▸ hx)
/-- before, by the first number, then by the second -/
def Lex (p q : Int × Int) : Prop := p.1 < q.1 ∨ p.1 = q.1 ∧ p.2 < q.2
theorem lex_of {rs : List (Int × Int)} (h : rs.Pairwise fun p q => SrtO.lexB q p = false) (nd : rs.Nodup) : rs.Pairwise Lex := by
  refine (h.and nd).imp fun {p q} ⟨a, b⟩ => ?_
  have c := SrtO.lexB_no.mp a
  by_cases e : p.1 = q.1
  · refine .inr ⟨e, ?_⟩
    have : p.2 ≠ q.2 := fun z => b (Prod.ext e z)
    omega
  · exact .inl (by omega)
/-- the points of a rectangle, row by row -/
theorem box_spots {l t w h : Int} {p : Int × Int} (hw : 0 ≤ w) (hh : 0 ≤ h) : InBox (l, t, w, h) p ↔ ∃ s : Nat, s < (w * h).toNat ∧ p = (l + (s : Int) % w, t + (s : Int) / w) := by
  constructor
  · rintro ⟨h1, h2, h3, h4⟩
    simp only at h1 h2 h3 h4
    refine ⟨((p.2 - t) * w + (p.1 - l)).toNat, ?_, ?_⟩
    · have a : (p.2 - t) * w ≤ (h - 1) * w := Int.mul_le_mul_of_nonneg_right (by omega) hw
      have b : (h - 1) * w = w * h - w := by rw [Int.sub_mul, Int.mul_comm h w, Int.one_mul]
      have c : 0 ≤ (p.2 - t) * w := Int.mul_nonneg (by omega) hw
      omega
    · have c : 0 ≤ (p.2 - t) * w := Int.mul_nonneg (by omega) hw
      have e : (((p.2 - t) * w + (p.1 - l)).toNat : Int) = (p.1 - l) + (p.2 - t) * w := by omega
      rw [e, Int.add_mul_emod_self_right, Int.add_mul_ediv_right _ _ (by omega), Int.emod_eq_of_lt (by omega) (by omega), Int.ediv_eq_zero_of_lt (by omega) (by omega)]
      exact Prod.ext (by show p.1 = l + (p.1 - l); omega) (by show p.2 = t + (0 + (p.2 - t)); omega)
  · rintro ⟨s, hs, rfl⟩
    have wp : 0 < w := by
      rcases Int.lt_or_eq_of_le hw with c | c
      · exact c
      · rw [← c, Int.zero_mul] at hs
        exact absurd hs (Nat.not_lt_zero _)
    have a := Int.emod_nonneg (s : Int) (Int.ne_of_gt wp)
    have b := Int.emod_lt_of_pos (s : Int) wp
    have c := Int.ediv_nonneg (Int.natCast_nonneg s) hw
    have d : (s : Int) / w < h := Int.ediv_lt_of_lt_mul wp (by rw [Int.mul_comm]; omega)
    exact ⟨by show l ≤ l + _; omega, by show l + _ < l + w; omega, by show t ≤ t + _; omega, by show t + _ < t + h; omega⟩
def GoodBox (b : Box) : Prop := (-1000000000000 ≤ b.1 ∧ b.1 ≤ 1000000000000) ∧ (-1000000000000 ≤ b.2.1 ∧ b.2.1 ≤ 1000000000000) ∧ (0 ≤ b.2.2.1 ∧ b.2.2.1 ≤ 1000000000000) ∧ 0 ≤ b.2.2.2 ∧ b.2.2.2 ≤ 1000000000000
theorem inB_ok {lo hi i : Int} (h : lo ≤ i ∧ i ≤ hi) : inB lo hi (.int i) = true := by
  show (decide (lo ≤ i) && decide (i ≤ hi)) = true
  rw [decide_eq_true h.1, decide_eq_true h.2]; rfl
theorem rectL_good {b : Box} (h : GoodBox b) : rectL [.int b.1, .int b.2.1, .int b.2.2.1, .int b.2.2.2] = true := by
  obtain ⟨h1, h2, h3, h4⟩ := h
  show (inB _ _ _ && inB _ _ _ && inB _ _ _ && inB _ _ _) = true
  rw [inB_ok h1, inB_ok h2, inB_ok h3, inB_ok h4]; rfl
/-- the rectangle of the points that both have -/
def ovl (a b : Box) : Option Box :=
  if min (a.1 + a.2.2.1) (b.1 + b.2.2.1) ≤ max a.1 b.1 ∨ min (a.2.1 + a.2.2.2) (b.2.1 + b.2.2.2) ≤ max a.2.1 b.2.1 then none
  else some (max a.1 b.1, max a.2.1 b.2.1, min (a.1 + a.2.2.1) (b.1 + b.2.2.1) - max a.1 b.1, min (a.2.1 + a.2.2.2) (b.2.1 + b.2.2.2) - max a.2.1 b.2.1)
def OvAt (H : Hp) (v : V) : Option Box → Prop
  | none => v = .non
  | some c => ∃ t, v = .ref t ∧ BoxAt H t c
theorem mx_eq {a b : Int} : (if b > a then b else a) = max a b := by split <;> omega
theorem mn_eq {a b : Int} : (if b < a then b else a) = min a b := by split <;> omega
/-- a drawn rectangle -/
def SmallBox (b : Box) : Prop := (-4 ≤ b.1 ∧ b.1 ≤ 4) ∧ (-4 ≤ b.2.1 ∧ b.2.1 ≤ 4) ∧ (0 ≤ b.2.2.1 ∧ b.2.2.1 ≤ 5) ∧ 0 ≤ b.2.2.2 ∧ b.2.2.2 ≤ 5
theorem SmallBox.small {b : Box} (h : SmallBox b) : Small b := ⟨h.2.2.1.1, by have := h.2.2.1.2; omega, h.2.2.2.1, by have := h.2.2.2.2; omega⟩
theorem SmallBox.good {b : Box} (h : SmallBox b) : GoodBox b := by
  obtain ⟨⟨a1, a2⟩, ⟨b1, b2⟩, ⟨c1, c2⟩, d1, d2⟩ := h
  exact ⟨⟨by omega, by omega⟩, ⟨by omega, by omega⟩, ⟨by omega, by omega⟩, by omega, by omega⟩
/-- a point as data -/
def datP (p : Int × Int) : PyData := .tuple [.int p.1, .int p.2]
theorem lay_pts (ps : List (Int × Int)) : PyData.canLayAll0 (ps.map datP) = true := by
  induction ps with
  | nil => rfl
  | cons p ps ih => simp [PyData.canLayAll0, PyData.canLay0, datP, ih]
theorem deep_pts (ps : List (Int × Int)) : PyData.depthAll (ps.map datP) ≤ 1 := by
  induction ps with
  | nil => decide
  | cons p ps ih =>
    rw [List.map_cons, PyData.depthAll]
    exact Nat.max_le.mpr ⟨by simp [PyData.depth, PyData.depthAll, datP], ih⟩
theorem shaped_pts (ps : List (Int × Int)) : SeqAt.shaped (.list (ps.map datP)) = true := by
  unfold SeqAt.shaped
  rw [PyData.canLay0, PyData.depth, lay_pts, decide_eq_true (by have := deep_pts ps; omega)]
  rfl
theorem shaped_pt (p : Int × Int) : SeqAt.shaped (datP p) = true := by
  simp [SeqAt.shaped, datP, PyData.canLay0, PyData.canLayAll0, PyData.depth, PyData.depthAll]
theorem eqv_pt {p q : Int × Int} : PyData.eqv (datP p) (datP q) = decide (p = q) := by
  by_cases e : p = q
  · subst e
    rw [SeqAt.eqv_refl _ (SeqAt.canLay_of_shaped (shaped_pt p)), decide_eq_true rfl]
  · rw [decide_eq_false e]
    have ne : ¬ (p.1 = q.1 ∧ p.2 = q.2) := fun z => e (Prod.ext z.1 z.2)
    simp [datP, PyData.eqv, PyData.eqvAll]
    intro z1 z2
    exact ne ⟨z1, z2⟩
theorem any_pt {p : Int × Int} {ps : List (Int × Int)} : ((ps.map datP).any fun z => PyData.eqv z (datP p)) = decide (p ∈ ps) := by
  induction ps with
  | nil => rfl
  | cons q ps ih =>
    rw [List.map_cons, List.any_cons, ih, eqv_pt]
    by_cases e : q = p
    · subst e; simp
    · have e' : ¬ p = q := fun z => e z.symm
      simp [e, e']
theorem dp_pts {K : PySem.W.Frag} {H : Hp} {qs : List Addr} {ps : List (Int × Int)} (r : Rows H qs ps) : DpAll K H (qs.map V.ref) (ps.map datP) := by
  induction r with
  | nil => exact .nil
  | cons h t ih => exact .cons (.tup (SqT.of h) (.cons (.int _) (.cons (.int _) .nil))) ih
/-- a point among points -/
theorem in_pts {K : PySem.W.Frag} {H : Hp} {a l : Addr} {p : Int × Int} {qs : List Addr} {ps : List (Int × Int)} {Q : VK} (hp : RowAt H a p) (hl : SqL K H l (qs.map V.ref)) (r : Rows H qs ps) (q : Q (.bl (decide (p ∈ ps))) H) : rInD K (.ref a) (.ref l) H Q :=
  ⟨datP p, ps.map datP, .tup (SqT.of hp) (.cons (.int _) (.cons (.int _) .nil)), .lst hl (dp_pts r), shaped_pt p, shaped_pts ps, by rw [any_pt]; exact q⟩
/-- points == [] -/
theorem eq_nil {K : PySem.W.Frag} {H : Hp} {a l : Addr} {qs : List Addr} {ps : List (Int × Int)} {Q : VK} (hl : SqL K H a (qs.map V.ref)) (r : Rows H qs ps) (h : H l = some (.lst [])) (q : Q (.bl (decide (ps = []))) H) : rEqD K (.ref a) (.ref l) H Q := by
  refine ⟨_, _, .lst hl (dp_pts r), .lst (SqL.of h) .nil, shaped_pts ps, by decide +kernel, ?_⟩
  have e : PyData.eqv (.list (ps.map datP)) (.list []) = decide (ps = []) := by
    cases ps with
    | nil => rfl
    | cons p ps => simp [PyData.eqv, PyData.eqvAll]
  rw [e]
  exact q
theorem u65 {k : Nat} {A : Around} (r : Room k A) : A.units + 65 < cLine := by have := r.un; omega
instance {b : Box} {p : Int × Int} : Decidable (InBox b p) := by unfold InBox; infer_instance
/-- the points that lie in b are kept -/
def SiftQ (b : Box) (fs : List (Int × Int)) : PeT := fun i o H => ∃ p, fs[i]? = some p ∧ ((InBox b p ∧ ∃ q, o = some (.ref q) ∧ RowAt H q p) ∨ (¬ InBox b p ∧ o = none))
theorem siftQ_mono (b : Box) (fs : List (Int × Int)) : Mono (SiftQ b fs) := fun i o H H' e ⟨p, h, r⟩ => ⟨p, h, r.imp (fun ⟨a, q, c, d⟩ => ⟨a, q, c, e _ _ (fun xs => by intro z; cases z) d⟩) id⟩
theorem siftQ_all {H : Hp} {b : Box} : ∀ {os : List (Option V)} {fs : List (Int × Int)}, os.length = fs.length → (∀ (i : Nat) o, os[i]? = some o → SiftQ b fs i o H) → ∃ qs : List Addr, os.filterMap id = qs.map V.ref ∧ Rows H qs (fs.filter fun p => decide (InBox b p))
  | [], [], _, _ => ⟨[], rfl, .nil⟩
  | o :: os, p :: fs, hl, h => by
    obtain ⟨qs, e2, t⟩ := siftQ_all (os := os) (fs := fs) (by simpa using hl) fun i z e => h (i + 1) z e
    obtain ⟨p', e, r⟩ := h 0 o rfl
    cases e
    rcases r with ⟨a, q, rfl, c⟩ | ⟨a, rfl⟩
    · exact ⟨q :: qs, by show V.ref q :: os.filterMap id = _; rw [e2]; rfl, by rw [List.filter_cons_of_pos (by simpa using a)]; exact .cons c t⟩
    · exact ⟨qs, by show os.filterMap id = _; exact e2, by rw [List.filter_cons_of_neg (by simpa using a)]; exact t⟩
  | [], _ :: _, hl, _ => by simp at hl
  | _ :: _, [], hl, _ => by simp at hl
/-- the points of both -/
theorem both_box {a b : Box} {p : Int × Int} : (InBox a p ∧ InBox b p) ↔ (max a.1 b.1 ≤ p.1 ∧ p.1 < min (a.1 + a.2.2.1) (b.1 + b.2.2.1)) ∧ max a.2.1 b.2.1 ≤ p.2 ∧ p.2 < min (a.2.1 + a.2.2.2) (b.2.1 + b.2.2.2) := by
  unfold InBox
  constructor
  · rintro ⟨⟨h1, h2, h3, h4⟩, h5, h6, h7, h8⟩
    exact ⟨⟨by omega, by omega⟩, by omega, by omega⟩
  · rintro ⟨⟨h1, h2⟩, h3, h4⟩
    exact ⟨⟨by omega, by omega, by omega, by omega⟩, by omega, by omega, by omega, by omega⟩
theorem ovl_none {a b : Box} {fs : List (Int × Int)} (m : ∀ p, p ∈ fs ↔ InBox a p ∧ InBox b p) (h : fs = []) : ovl a b = none := by
  refine if_pos (Decidable.byContradiction fun z => ?_)
  have c : (max a.1 b.1, max a.2.1 b.2.1) ∈ fs := (m _).mpr (both_box.mpr ⟨⟨Int.le_refl _, by omega⟩, Int.le_refl _, by omega⟩)
  rw [h] at c
  cases c
theorem ovl_some {a b : Box} {fs : List (Int × Int)} (m : ∀ p, p ∈ fs ↔ InBox a p ∧ InBox b p) (h : fs ≠ []) {x y u v : Int} (hx : x ∈ fs.map (·.1)) (lx : ∀ z ∈ fs.map (·.1), x ≤ z) (hy : y ∈ fs.map (·.2)) (ly : ∀ z ∈ fs.map (·.2), y ≤ z)
    (hu : u ∈ fs.map (·.1)) (gu : ∀ z ∈ fs.map (·.1), z ≤ u) (hv : v ∈ fs.map (·.2)) (gv : ∀ z ∈ fs.map (·.2), z ≤ v) : ovl a b = some (x, y, u - x + 1, v - y + 1) := by
  have ex : ∃ p, p ∈ fs := List.exists_mem_of_ne_nil fs h
  obtain ⟨p, hp⟩ := ex
  have bp := both_box.mp ((m p).mp hp)
  obtain ⟨px, hpx, rfl⟩ := List.mem_map.mp hx
  obtain ⟨py, hpy, rfl⟩ := List.mem_map.mp hy
  obtain ⟨pu, hpu, rfl⟩ := List.mem_map.mp hu
  obtain ⟨pv, hpv, rfl⟩ := List.mem_map.mp hv
  have bx := both_box.mp ((m px).mp hpx)
  have by' := both_box.mp ((m py).mp hpy)
  have bu := both_box.mp ((m pu).mp hpu)
  have bv := both_box.mp ((m pv).mp hpv)
  have c1 : (max a.1 b.1, max a.2.1 b.2.1) ∈ fs := (m _).mpr (both_box.mpr ⟨⟨Int.le_refl _, by omega⟩, Int.le_refl _, by omega⟩)
  have c2 : (min (a.1 + a.2.2.1) (b.1 + b.2.2.1) - 1, min (a.2.1 + a.2.2.2) (b.2.1 + b.2.2.2) - 1) ∈ fs := (m _).mpr (both_box.mpr ⟨⟨by show _ ≤ _ - 1; omega, by show _ - 1 < _; omega⟩, by show _ ≤ _ - 1; omega, by show _ - 1 < _; omega⟩)
  have d1 := lx _ (List.mem_map.mpr ⟨_, c1, rfl⟩)
  have d2 := ly _ (List.mem_map.mpr ⟨_, c1, rfl⟩)
  have d3 := gu _ (List.mem_map.mpr ⟨_, c2, rfl⟩)
  have d4 := gv _ (List.mem_map.mpr ⟨_, c2, rfl⟩)
  simp only at d1 d2 d3 d4
  unfold ovl
  rw [if_neg (by omega)]
  refine congrArg some ?_
  refine Prod.ext (by show max _ _ = px.1; omega) (Prod.ext (by show max _ _ = py.2; omega) (Prod.ext (by show min _ _ - _ = pu.1 - px.1 + 1; omega) (by show min _ _ - _ = pv.2 - py.2 + 1; omega)))
theorem ints_of_rows {f : Int × Int → Int} {fs : List (Int × Int)} {ys : List V} (hl : ys.length = fs.length) (h : ∀ (i : Nat) y, ys[i]? = some y → ∃ p, fs[i]? = some p ∧ y = .int (f p)) : ys = (fs.map f).map V.int := by
  refine List.ext_getElem? fun i => ?_
  rw [List.getElem?_map, List.getElem?_map]
  by_cases c : i < ys.length
  · obtain ⟨p, e1, e2⟩ := h i ys[i] (List.getElem?_eq_getElem c)
    rw [List.getElem?_eq_getElem c, e1, e2]
    rfl
  · rw [List.getElem?_eq_none (by omega), List.getElem?_eq_none (by omega)]
    rfl
theorem one_small {a : Box} (h : SmallBox a) : ∀ b ∈ [a], Small b := fun b m => by
  obtain rfl : b = a := by simpa using m
  exact h.small
end Lw
/-! Exceptions of one's own: Base.__init__(self, ..), Base an own class without an __init__. -/
namespace Lw
open PySem PySem.Spec PyProof.Rows L2 Evl
section
variable {X : Cx} {e : Expr} {es : List Expr} {ta : TA} {p1 p2 pos : Pos} {x : Str} {B : Addr}
/-- what the written part says of the base -/
structure BaseC (K : PySem.W.Frag) (B : Addr) : Prop where
  ga : PySem.W.specialIn K (.ref B) "__getattribute__" = some (some (.builtin "type.__getattribute__"))
  ty : PySem.W.typeIn K (.ref B) = some (.type "type")
  rd : PySem.W.readsIn K B (.type "type") = true
  fc : PySem.W.findCls K (.ref B) (.type "type") "__init__" = some (.val (.builtin "ValueError.__init__"))
theorem pe_binit {pl : Sem Bool} (hg : Gl X x) (hm : X.mg x = some (.ref B)) (b : BaseC X.K B) (ha : PA X (e :: es) ta) (hd : (x == ("__debug__" : Str)) = false := by decide)
    (hc : eval (.Call (.Attribute (.Name x p1) "__init__" p2) (e :: es) [] pos) X.env = (do
      let ov ← eval (.Name x p1) X.env
      standAt p2.atName
      let (f, first) ← holding [ov] (getMethod ov "__init__" pl)
      callWith pos f first (backTo pos (starEach (e :: es) X.env)) (backToKw pos (keywordEach [] X.env))) := by rfl)
    (hs : starEach (e :: es) X.env = (false, eval e X.env) :: starEach es X.env := by rfl) (hpl : (backTo pos (starEach es X.env)).any (·.1) = false := by rfl) :
    PE X (.Call (.Attribute (.Name x p1) "__init__" p2) (e :: es) [] pos) (tVeI X.K ta) := by
  refine ⟨fun pins s σ H Q I hq => ?_⟩
  refine PySem.W.methodCall_KW (ld_glob I hg hm ?_ hd) hc
  obtain ⟨m, fr⟩ := I.fr
  refine PySem.W.method_of_cls fr I.ok.mod.kin b.ga (PySem.W.cls_val fr I.ok.mod.kin b.ty b.rd b.fc (by decide +kernel) ?_)
  show wpAny _ _ (callWith pos (Value.builtin "ValueError.__init__") [] (backTo pos (starEach (e :: es) X.env)) []) _ _ _
  refine PyProof.Rows.callWith_method1 (thn (ha.run pos pins _ σ H _ (I.tok _) hq) fun us s1 hh => ?_) hs hpl
  obtain ⟨vs, H1, J, rv, a, C, ws, rfl, hl, T, ea, q⟩ := hh
  cases rv with
  | cons r0 rt =>
    cases r0
    exact oinit_ok T J ea (by rw [← Paired.length rt]; exact Nat.le_trans hl (by decide)) fun s' J' => ⟨.non, H1, J', rfl, q⟩
end
section
variable {P : Program} {w : World} {K : PySem.W.Frag} {mg : Str → Option Value} {base : Heap} {k : Nat} {x : Str} {st : Stmt} {ps N : List Str} {sp : Sp}
/-- a def that may raise -/
theorem clX_of (D : DefAt K mg x st) (S : FnScope N ps (defScope st)) (len : ∀ vs H Q E, sp vs H Q E → vs.length = ps.length)
    (hbody : ∀ (f : Addr) (cdv : Value) (A : Around) (outer : List Env) (s : Shared) (H : Hp) (vs : List V) (Q : VK) (E : XK), Room k (A.deeper (envOfC x (defScope st) s.heap.objs.size f cdv)) → sp vs H Q E →
      ∃ t, PSs (cxOf (L2.CX P w) P w K mg base N x (defScope st) f cdv A outer s H E) (defBody st) t ∧ t { nx := fun _ H' => Q .non H', rt := Q } (start N vs) H) : Cl P w K mg base (L2.CX P w) (k + 1) x st ps sp := by
  obtain ⟨f, fd, F, m⟩ := D.ex
  exact ⟨f, fd, F, F.okX S len (hbody f), m⟩
end
/-- what an own exception's __init__ does: Base.__init__(self, ..), self.value = value -/
def spInit (C : Addr) : Sp := fun vs H Q _ => ∃ a v, H a = some (exo a C none) ∧ vs = [.ref a, v] ∧ ∀ d, H d = none → d ≠ a → Q .non (upd (upd H d (exd d [("value", v)])) a (exo a C (some d)))
/-- an own exception class of the text: its __init__ keeps spInit -/
structure ExcAt (P : Program) (w : World) (K : PySem.W.Frag) (mg : Str → Option Value) (base : Heap) (x : Str) (C : Addr) : Prop where
  nm : mg x = some (.ref C)
  oex : OexC K C
  ini : ∃ f fd, PySem.W.findIn K (.ref C) "__init__" = some (some (.ref f)) ∧ PySem.W.typeIn K (.ref f) = some (.type "function") ∧ FnOk P w K mg base CX0 1 f fd ["self", "value"] (spInit C) ∧ Binds K fd ["self", "value"] []
section
variable {X : Cx} {e : Expr} {te : TE} {x : Str} {C : Addr} {p pos : Pos} {W : WX}
/-- raise x(e) -/
theorem ps_raiseO {ta : TA} (hc : X.calm = true) (tk : Takes X W) (c : ExcAt X.prog X.w X.K X.mg X.base x C) (hr : Room 2 X.A) (hg : Gl X x) (ha : PA X [e] ta) (hd : (x == ("__debug__" : Str)) = false := by decide)
    (hs : starEach [e] X.env = (false, eval e X.env) :: starEach [] X.env := by rfl) (hpl : (backTo p (starEach [] X.env)).any (·.1) = false := by rfl) {q : Pos} :
    PS X (.Raise (some (.Call (.Name x q) [e] [] p)) none pos) (fun _ σ H => tMkO C (spInit C) [] ta σ H fun cls d H' => W cls d σ H') := by
  obtain ⟨f, fd, iC, tI, F1, hb⟩ := c.ini
  exact ps_raise (pos := pos) hc tk (pmk_oex (p := q) (pos := p) c.oex iC tI F1 hr hb .nil pass0 hg c.nm ha hd hs hpl)
end
/-- what a raise of such a class comes to -/
theorem mkO_in {C : Addr} {v : V} {H1 : Hp} {Q : XK} (q : ∀ d H2, Ex H1 H2 → H2 d = some (.xd [("value", v)]) → Q (.ref C) (some d) H2) :
    [v].length ≤ 1000 ∧ ∀ a, H1 a = none → spInit C (.ref a :: ([v] ++ [])) (upd H1 a (exo a C none))
      (fun v H2 => v = .non ∧ ∃ (d : Addr) (fs : List (Str × V)), H2 a = some (exo a C (some d)) ∧ H2 d = some (exd d fs) ∧ H1 d = none ∧ Q (.ref C) (some d) (upd (del H2 a) d (.xd fs))) (fun _ _ _ => False) := by
  refine ⟨by show 1 ≤ 1000; decide, fun a na => ?_⟩
  refine ⟨a, v, upd_same, rfl, fun d hd2 ne => ?_⟩
  have hd1 : H1 d = none := by rw [upd_ne ne] at hd2; exact hd2
  refine ⟨rfl, d, _, upd_same, by rw [upd_ne ne, upd_same], hd1, q d _ (fun b u hb => ?_) upd_same⟩
  have n1 : b ≠ d := ne_of_none hb hd1
  have n2 : b ≠ a := ne_of_none hb na
  rw [upd_ne n1]
  show (if b = a then none else _) = _
  rw [if_neg n2, upd_ne n2, upd_ne n1, upd_ne n2]
  exact hb
/-- what the text says of an own exception class that has its own __init__ -/
structure ClsAt (K : PySem.W.Frag) (mg : Str → Option Value) (x q : Str) (st : Stmt) : Prop where
  ex : ∃ (C B f : Addr) (fd : FuncData), mg x = some (.ref C) ∧ OexC K C ∧ PySem.W.findIn K (.ref C) "__init__" = some (some (.ref f)) ∧ PySem.W.typeIn K (.ref f) = some (.type "function") ∧
    Fun K "__init__" q st f fd ∧ PySem.W.findIn K (.ref C) "value" = some none ∧ mg "FormError" = some (.ref B) ∧ BaseC K B
theorem clsAt_mk {K : PySem.W.Frag} {mg : Str → Option Value} {x q : Str} {st : Stmt} {h : Heap} {C B f N : Addr} {nm qq : Str} {bs bm : List Value} {sn : List Str} {sub : List Value} {ab : Bool} {col : Option Bool} {dd : Option Addr} {k0 k1 k2 k3 k5 : Option Value}
    {oc : Value} {od an : Option Addr} {osl : Array (Option Value)} {kV doc pm cdv ct : Value} (X : K.In h) (G : h.Ns mainGlobals mg) (a : PySem.W.nsIn K mainGlobals x = some (some (.ref C)))
    (cl : K.lookup C = some (excClassObj nm qq C N bs bm true sn sub ab col dd k0 k1 k2 k3 k5 "ValueError.__new__")) (r : PySem.HandSPX.refsVE bm = true)
    (sa : PySem.W.findIn K (.ref C) "__setattr__" = some (some (.builtin "object.__setattr__"))) (exC : PySem.W.subIn K (.ref C) (.type "BaseException") = some true) (tyC : PySem.W.typeIn K (.ref C) = some (.type "type")) (kC : PySem.W.keepIn K (.ref C) = true)
    (i : PySem.W.findIn K (.ref C) "__init__" = some (some (.ref f))) (ti : PySem.W.typeIn K (.ref f) = some (.type "function"))
    (l : K.lookup f = some ⟨oc, od, .func (PySem.W.fnOf "__init__" q (defArgs st) (defBody st) (defScope st) .none kV doc pm an cdv ct), osl⟩) (c : PySem.W.codeIn K cdv q = true) (kp : PySem.W.keepIn K (.ref f) = true)
    (no : PySem.W.findIn K (.ref C) "value" = some none) (aB : PySem.W.nsIn K mainGlobals "FormError" = some (some (.ref B)))
    (ga : PySem.W.specialIn K (.ref B) "__getattribute__" = some (some (.builtin "type.__getattribute__"))) (ty : PySem.W.typeIn K (.ref B) = some (.type "type")) (rd : PySem.W.readsIn K B (.type "type") = true)
    (fc : PySem.W.findCls K (.ref B) (.type "type") "__init__" = some (.val (.builtin "ValueError.__init__"))) : ClsAt K mg x q st :=
  ⟨C, B, f, _, PySem.W.mg_of X G a, ⟨⟨_, _, _, _, _, _, _, _, _, _, _, _, _, _, _, cl, r⟩, sa, exC, tyC, kC⟩, i, ti, fun_mk l c kp, no, PySem.W.mg_of X G aB, ga, ty, rd, fc⟩
end Lw
/-! try: .. except (A, B, C) as e: .., where the suite keeps the exception in a name: behind the suite it is an object like others. -/
namespace Lw
open PySem PySem.Spec PyProof.Rows L2 Evl
/-- at a: an exception, its class and its dict are known -/
def exc (a : Addr) (cls : Value) (d : Option Addr) : HO := .ext fun g => ∃ (oe : Obj) (fv : Array Value), g.get? a = some oe ∧ Zc cls d oe ∧ oe.data = .fields fv
theorem exc_ok {P : Program} {w : World} {H : Hp} {g : Heap} {a : Addr} {cls : Value} {d : Option Addr} {oe : Obj} {fv : Array Value} (e : g.get? a = some oe) (z : Zc cls d oe) (f : oe.data = .fields fv) : ObjOk P w H g a (exc a cls d) :=
  ⟨⟨oe, fv, e, z, f⟩, ⟨oe, e⟩, fun _ _ ⟨o, v, q, r⟩ st => ⟨o, v, st o q, r⟩⟩
section
variable {X : Cx} {pins : List (Addr × Obj)} {σ : L2.St} {H : Hp} {s : Shared} {a : Addr} {cls : Value} {d : Option Addr} {oe : Obj} {fv : Array Value}
/-- an object that no one tracked, made behind the def's start -/
theorem inv_caught (I : Inv X pins σ H s) (hn : H a = none) (h0 : a ∈ X.ex ∨ X.s_0.heap.get? a = none) (hL : a ≠ X.env.locals) (hp : ∀ p ∈ X.pn ++ pins, p.1 ≠ a) (e : s.heap.get? a = some oe) (z : Zc cls d oe) (f : oe.data = .fields fv) :
    Inv X pins σ (upd H a (exc a cls d)) s := by
  have old : ∀ {b u}, H b = some u → upd H a (exc a cls d) b = some u := fun {b u} q => by rw [upd_ne (ne_of_none q hn)]; exact q
  have was : ∀ {b o}, X.s_0.heap.get? b = some o → b ∉ X.ex → b ≠ a := fun {b o} q hx zz => by
    rcases h0 with h0 | h0
    · exact hx (zz ▸ h0)
    · rw [zz, h0] at q; cases q
  refine ⟨I.ok, I.os, I.bare, ⟨I.base.keep, I.base.slot, fun b o q n hx => ?_, I.base.there, fun b xs q => old (I.base.tups b xs q), fun b o u q => old (I.base.frzs b o u q), fun b qs q => ?_⟩, I.loc, I.cell, ?_, fun x c q => ?_, fun p m => ?_, fun b u q => ?_, I.len⟩
  · rw [upd_ne (was q hx)]
    exact I.base.free b o q n hx
  · obtain ⟨more, m⟩ := I.base.tbls b qs q
    exact ⟨more, old m⟩
  · rw [upd_ne (Ne.symm hL)]
    exact I.free
  · have ne : c ≠ a := fun zz => by
      obtain ⟨v, ob, ho, hd⟩ := I.cell x c q
      rw [zz, e] at ho
      cases ho
      rw [f] at hd
      cases hd
    rw [upd_ne ne]
    exact I.freeC x c q
  · obtain ⟨p1, p2, p3⟩ := I.pin p m
    exact ⟨p1, by rw [upd_ne (hp p m)]; exact p2, p3⟩
  · by_cases hb : b = a
    · subst hb
      rw [upd_same] at q
      cases q
      exact exc_ok e z f
    · rw [upd_ne hb] at q
      exact (I.hok b u q).stay (fun _ _ _ r => r) (fun c r => old r) fun c xs r => old r
theorem sky_new {B : Heap} {l : List Env} {Z : Obj → Prop} {L : Addr} {h : Heap} (k : Sky B l a Z L h) : B.get? a = none := by
  rcases k with k | k | k
  · exact k.2.1
  · exact k.2.1
  · exact k.2.1
theorem flying_more {B : Heap} {l : List Env} {Z : Obj → Prop} {h g : Heap} (k : HandSPX.FlyingZ B l a Z h) (st : ∀ b o, h.get? b = some o → g.get? b = some o) : HandSPX.FlyingZ B l a Z g := by
  obtain ⟨k1, k2, k3, oe, vs, T, oT, ts, a1, a2, a3, a4, a5, a6, a7, a8⟩ := k
  exact ⟨fun b o q => st _ _ (k1 b o q), k2, Heap.FunFrames.of_keeps (fun b o q _ => ⟨o, st _ _ q, rfl⟩) k3, oe, vs, T, oT, ts, st _ _ a1, a2, a3, a4, a5, a6, st _ _ a7, a8⟩
/-- what is wished of an exception of the body: slot i is the clause's name; the suite runs through -/
def wKept (K : PySem.W.Frag) (N : Nat) (cs : List Value) (i : Nat) (ts : Addr → Value → Option Addr → TS) (D : Ends) : WX := fun cls d σ H =>
  PySem.W.exmAny K cls cs = some true ∧ ∀ a, H a = none → σ.length = N → ts a cls d { nx := fun σ' H' => H' a = none → D.nx (σ'.set i none) (upd H' a (exc a cls d)), rt := fun _ _ => False, bk := fun _ _ => False, ct := fun _ _ => False } (σ.set i (some (.ref a))) H
end
section
variable {X : Cx} {x1 x2 x3 n : Str} {c1 c2 c3 : Addr} {i : Nat} {body suite : List Stmt} {b₀ : Stmt} {q1 q2 q3 tp pos pos' : Pos} {tx} {tb : WX → TS} {ts : Addr → Value → Option Addr → TS}
set_option maxHeartbeats 4000000 in
theorem ps_try_kept (hst : X.stack = X.env :: X.outer) (hf : X.env.frame = some X.env.locals) (hN : X.N.Nodup) (hi : X.N[i]? = some n) (hln : X.env.kindOf n = some .local)
    (g1 : Gl X x1) (m1 : X.mg x1 = some (.ref c1)) (g2 : Gl X x2) (m2 : X.mg x2 = some (.ref c2)) (g3 : Gl X x3) (m3 : X.mg x3 = some (.ref c3))
    (hb : ∀ (W : WX) (pn : List (Addr × Obj)) (xe : Value → Shared → Prop), Takes (X.tr pn xe) W → PSs (X.tr pn xe) body (tb W))
    (hsu : ∀ (a : Addr) (oe : Obj) (cls : Value) (d : Option Addr) (pn : List (Addr × Obj)), PSs (X.suite a ((a, oe) :: pn)) (b₀ :: suite) (ts a cls d))
    (d1 : (x1 == ("__debug__" : Str)) = false := by decide) (d2 : (x2 == ("__debug__" : Str)) = false := by decide) (d3 : (x3 == ("__debug__" : Str)) = false := by decide) :
    PS X (.Try body [.ExceptHandler (some (.Tuple [.Name x1 q1, .Name x2 q2, .Name x3 q3] tx tp)) (some n) (b₀ :: suite) pos'] [] [] pos) (fun D σ H => tb (wKept X.K X.N.length [.ref c1, .ref c2, .ref c3] i ts D) D σ H) := by
  refine ⟨fun pins s σ H D I hq => ?_⟩
  have ok := I.ok
  have frm : X.A.frames = some (X.env :: X.outer) := by rw [ok.frames, hst]
  have lcl : Loc X.env.scope n := .inl hln
  refine wpAny_Try_except ?_
  refine wpAny_mono ((hb (wKept X.K X.N.length [.ref c1, .ref c2, .ref c3] i ts D) (X.pn ++ pins) (fun z s₁ => wpAny (model X.prog X.w) X.A (noteFrame z X.env) (fun _ s₂ => wpAny (model X.prog X.w) X.A (setFlight z none) (fun _ s₃ =>
    wpAny (model X.prog X.w) X.A (handleBy z X.env [.ExceptHandler (some (.Tuple [.Name x1 q1, .Name x2 q2, .Name x3 q3] tx tp)) (some n) (b₀ :: suite) pos']) (SP X pins D) X.xe s₃) X.xe s₂) X.xe s₁) (fun u s' xx => ?_)).run [] s σ H D (I.toTry _) hq) (fun fl s1 hsp => ?_) (fun z s1 hz => hz)
  · obtain ⟨a, B, sI, pins', σ', H', cls, d, rfl, J', nb, up, sky, na, os, ag, hm, hyes⟩ := xx
    have J : Inv X pins σ' H' sI := J'.ofTry ok
    have new0 := sky_new sky
    have sky' : Sky B (X.env :: X.outer) a (Zc cls d) X.env.locals s'.heap := by rw [← hst]; exact sky
    show wpAny (model X.prog X.w) X.A (noteFrame (.ref a) X.env) _ _ _
    refine Sky.land Zc.steady frm hf sky' fun h3 fl3 up3 => ?_
    have J3 : Inv X pins σ' H' { s' with heap := h3 } := J.landed nb fl3.1 (up.trans up3) os ag
    obtain ⟨oe3, vs3, he3, hz3, hd3⟩ := fl3.there
    have notF : ∀ {g : Heap} {o : Obj} {vs : Array Value}, g.FunFrames B (X.env :: X.outer) → g.get? a = some o → o.data = .fields vs → a ∉ frs (X.env :: X.outer) := fun {g o vs} ff e dd hmem => by
      obtain ⟨_, o', e', no⟩ := ff.mem hmem
      rw [e] at e'; cases e'
      exact no _ dd
    have nfr := notF fl3.2.2.1 he3 hd3
    have nL : a ≠ X.env.locals := fun zz => nfr (List.mem_filterMap.mpr ⟨X.env, List.mem_cons_self, by rw [hf, zz]⟩)
    have nF : a ∉ X.fs := fun hmem => by
      obtain ⟨en, he, q⟩ := List.mem_filterMap.mp hmem
      exact nfr (List.mem_filterMap.mpr ⟨en, List.mem_cons_of_mem _ he, q⟩)
    have newI : sI.heap.get? a = none := by
      cases hg : sI.heap.get? a with
      | none => rfl
      | some o =>
        have q := nb a o hg (by rw [hst]; exact nfr)
        rw [new0] at q
        cases q
    have new00 : a ∈ X.ex ∨ X.s_0.heap.get? a = none := by
      cases hg : X.s_0.heap.get? a with
      | none => exact .inr rfl
      | some o =>
        by_cases hx : a ∈ X.ex
        · exact .inl hx
        · obtain ⟨o', e'⟩ := J.base.there a o hg hx
          rw [newI] at e'
          cases e'
    have newp : ∀ p ∈ X.pn ++ pins, p.1 ≠ a := fun p m zz => by
      have := (J.pin p m).1
      rw [zz, newI] at this
      cases this
    have S3 := J3.suite he3 hd3 na nL nF
    refine wpAny_handleBy_cons (codeAny_handlers_test ?_) (by intro q; cases q)
    refine wpAny_Tuple_spliced ?_
    show wpAny _ _ (spliced [(false, eval (.Name x1 q1) X.env), (false, eval (.Name x2 q2) X.env), (false, eval (.Name x3 q3) X.env)]) _ _ _
    refine Calls.spliced_cons (ld_glob (X := X.suite a ((a, oe3) :: (X.pn ++ pins))) S3 g1 m1 ?_ d1)
    refine Calls.spliced_cons (ld_glob (X := X.suite a ((a, oe3) :: (X.pn ++ pins))) S3 g2 m2 ?_ d2)
    refine Calls.spliced_cons (ld_glob (X := X.suite a ((a, oe3) :: (X.pn ++ pins))) S3 g3 m3 ?_ d3)
    refine Calls.spliced_nil ⟨by show 3 ≤ sizeLine; decide, ?_⟩
    have kp : ∀ b o, h3.get? b = some o → (h3.push { cls := .type "tuple", data := .seq [Value.ref c1, .ref c2, .ref c3].toArray }).get? b = some o := fun b o q => Heap.get?_push_of_some _ q
    have htup : (h3.push { cls := .type "tuple", data := .seq [Value.ref c1, .ref c2, .ref c3].toArray }).get? h3.objs.size = some { cls := .type "tuple", data := .seq [Value.ref c1, .ref c2, .ref c3].toArray } := Heap.get?_push_size _ rfl
    show wpAny _ _ (excMatches (.ref a) (.ref h3.objs.size)) _ _ { s' with heap := h3.push { cls := .type "tuple", data := .seq [Value.ref c1, .ref c2, .ref c3].toArray } }
    generalize h3.push { cls := .type "tuple", data := .seq [Value.ref c1, .ref c2, .ref c3].toArray } = g3 at *
    have fl5 := flying_more fl3 kp
    have up5 : h3.UpToSlots g3 := fun b o q _ => ⟨o.slots, kp b o q⟩
    have LT : PySem.W.Looks (model X.prog X.w) g3 (typeOf (.ref a)) cls := fun A Q E st k q => wpAny_typeOf_ref (k _ _ (kp _ _ he3)) (by rw [hz3.1]; exact q)
    have LM := PySem.W.exm_tup3 (M := model X.prog X.w) (J3.kIn.keeps kp) LT htup hm
    refine LM.here ?_
    refine codeAny_handlers_suite_as ?_
    refine HandSPX.lands_againZ fl5 fun h4 fl4 up4 => ?_
    have J4 : Inv X pins σ' H' { s' with heap := h4 } := J.landed nb fl4.1 (((up.trans up3).trans up5).trans up4) os ag
    obtain ⟨oe4, vs4, he4, hz4, hd4⟩ := fl4.there
    have S4 := J4.suite he4 hd4 na nL nF
    refine store_ok (X := X.suite a ((a, oe4) :: (X.pn ++ pins))) (v := .ref a) S4 hN hi lcl rfl (fun s5 S5 => ?_) (.inr hln)
    refine wpAny_mono ((hsu a oe4 cls d (X.pn ++ pins)).run [] s5 _ H' _ S5 (hyes a na J.len)) (fun fl s6 hsp => ?_) (fun _ _ zz => False.elim zz)
    cases fl with
    | next =>
      obtain ⟨σ6, H6, S6, q6⟩ := hsp
      obtain ⟨p1, p2, p3⟩ := S6.pin (a, oe4) (List.mem_append_left _ List.mem_cons_self)
      have S7 := inv_caught (S6.unsuite ok) p2 new00 nL newp p1 hz4 hd4
      exact gone_ok S7 hN hi hln fun s7 J7 => ⟨_, _, J7, q6 p2⟩
    | brk =>
      obtain ⟨σ6, H6, S6, q6⟩ := hsp
      exact q6.elim
    | cont =>
      obtain ⟨σ6, H6, S6, q6⟩ := hsp
      exact q6.elim
    | ret u =>
      obtain ⟨v6, σ6, H6, S6, r6, q6⟩ := hsp
      exact q6.elim
  · cases fl with
    | next =>
      obtain ⟨σ', H', J', q⟩ := hsp
      exact wpAny_execs_nil ⟨σ', H', J'.ofTry ok, q⟩
    | brk =>
      obtain ⟨σ', H', J', q⟩ := hsp
      exact ⟨σ', H', J'.ofTry ok, q⟩
    | cont =>
      obtain ⟨σ', H', J', q⟩ := hsp
      exact ⟨σ', H', J'.ofTry ok, q⟩
    | ret u =>
      obtain ⟨v, σ', H', J', r, q⟩ := hsp
      exact ⟨v, σ', H', J'.ofTry ok, r, q⟩
end
/-- what a class of exceptions must say, so that its instances are asked and read rightly -/
structure ExcK (K : PySem.W.Frag) (C : Addr) : Prop where
  ga : PySem.W.findIn K (.ref C) "__getattribute__" = some (some (.builtin "BaseException.__getattribute__"))
  gt : PySem.W.findIn K (.ref C) "__getattr__" = some none
  sb : PySem.W.subIn K (.ref C) (.type "BaseException") = some true
  hd : PySem.W.hasDictIn K C = true
  ca : PySem.W.findIn K (.ref C) "__class__" = some (some (.builtin "object.__class__"))
  cg : PySem.W.specialIn K (.builtin "object.__class__") "__get__" = some (some (.builtin "getset_descriptor.__get__"))
  ct : PySem.W.takesIn K (.builtin "object.__class__") = some true
  mo : PySem.W.mroIn K C (.type "object") = some true
theorem exc_at {P : Program} {w : World} {H : Hp} {h : Heap} {a : Addr} {cls : Value} {d : Option Addr} (hok : HOk P w H h) (e : H a = some (exc a cls d)) : ∃ (oe : Obj) (fv : Array Value), h.get? a = some oe ∧ Zc cls d oe ∧ oe.data = .fields fv := by
  have x : ObjOk P w H h a (.ext fun g => ∃ (oe : Obj) (fv : Array Value), g.get? a = some oe ∧ Zc cls d oe ∧ oe.data = .fields fv) := hok a _ e
  exact x.1
/-- isinstance(e, c), e a caught exception of an own class -/
def rIsX (K : PySem.W.Frag) (D : Addr) : List V → Hp → VK → Prop := fun xs H Q => ∃ (a dd : Addr) (c : V) (cv : Value) (b : Bool) (fs : List (Str × V)), H a = some (exc a (.ref D) (some dd)) ∧ H dd = some (.xd fs) ∧ xs = [.ref a, c] ∧ (∀ u, RelV c u → u = cv) ∧ PySem.W.kitOne K (.ref D) cv = some b ∧ Q (.bl b) H
theorem call_isX {X : Cx} {D : Addr} (C : ExcK X.K D) : CallR X (.builtin "isinstance") (rIsX X.K D) := by
  intro pins s σ H xs us Q I r hq
  obtain ⟨a, dd, c, cv, b, fs, he, hdd, rfl, hcv, e, q⟩ := hq
  obtain ⟨u1, u2, rfl, r1, r2⟩ := vals2 r
  cases r1
  obtain rfl := hcv _ r2
  obtain ⟨oe, fv, g1, g2, g3⟩ := exc_at I.hok he
  obtain ⟨mA, hns, _⟩ : ObjOk X.prog X.w H s.heap dd (.xd fs) := I.hok dd _ hdd
  obtain ⟨od, ho, _⟩ := lookIn_ns hns
  have J : PySem.W.InstAt s.heap a oe D (some od) := ⟨g1, g2.1, by unfold PySem.W.notCls; rw [g3] <;> rfl, by rw [g2.2]; exact ho⟩
  obtain ⟨cd, hc, _⟩ := PySem.W.any_some C.hd
  exact PySem.W.kia_one (PySem.W.kitx_exc (by rw [hc]; rfl) C.ga C.gt C.sb C.ca C.cg C.ct C.mo) I.kIn J e (fun zz => nomatch zz) fun tk => ⟨.bl b, H, I.kept (t' := tk) fun _ _ zz => zz, rfl, q⟩
/-- e.n, e a caught exception of an own class -/
def tXk (D : Addr) (n : Str) (te : TE) : TE := fun σ H Q => te σ H fun x H1 => ∃ (a dd : Addr) (fs : List (Str × V)) (v : V), x = .ref a ∧ H1 a = some (exc a (.ref D) (some dd)) ∧ H1 dd = some (.xd fs) ∧ fs.lookup n = some v ∧ Q v H1
theorem pe_xk {X : Cx} {D : Addr} {e : Expr} {te : TE} {pos : Pos} {n : Str} (C : ExcK X.K D) (no : PySem.W.findIn X.K (.ref D) n = some none) (he : PE X e te) (hb : attributeBase e n X.env (eval e X.env) = eval e X.env := by rfl) : PE X (.Attribute e n pos) (tXk D n te) := by
  refine ⟨fun pins s σ H Q I hq => ?_⟩
  refine attr_of hb (thn (he.run pins s σ H _ I hq) fun u s1 hh => ?_)
  obtain ⟨x, H1, I1, rx, a, dd, fs, v, rfl, ha, hdd, l, q⟩ := hh
  cases rx
  obtain ⟨oe, fv, g1, g2, g3⟩ := exc_at I1.hok ha
  obtain ⟨mA, hns, hr⟩ : ObjOk X.prog X.w H1 s1.heap dd (.xd fs) := I1.hok dd _ hdd
  obtain ⟨od, ho, hl⟩ := lookIn_ns hns
  obtain ⟨u, hu, ru⟩ := RelO.some_of (v := v) (o := mA n) (by rw [← l]; exact hr n)
  have J : PySem.W.InstAt s1.heap a oe D (some od) := ⟨g1, g2.1, by unfold PySem.W.notCls; rw [g3] <;> rfl, by rw [g2.2]; exact ho⟩
  exact HandSPX.exc_get I1.kIn J C.ga C.gt C.sb (PySem.W.findObj_own C.hd no rfl (by rw [hl, hu])) (handed_of ru) ⟨v, H1, I1.tok _, ru, q⟩
end Lw
/-! Defs that ask repr of lists and tuples: what is known of the repr calls under way (none) goes from call to call. -/
namespace Lw
open PySem PySem.Spec PyProof.Rows L2 Evl LamX
/-- as FnOk, where no repr is under way -/
structure FnG (P : Program) (w : World) (K : PySem.W.Frag) (mg : Str → Option Value) (base : Heap) (CX : CXT) (k : Nat) (f : Addr) (fd : FuncData) (ps : List Str) (sp : Sp) : Prop where
  len : ∀ vs H Q E, sp vs H Q E → vs.length = ps.length
  run : ∀ (A : Around) (outer : List Env) (s : Shared) (H : Hp) (args : Args) (us : List Value) (vs : List V) (Q : VK) (E : XK), A.guards = some [] → Room k A → Env0 P w K mg base A outer s H → BindsTo s fd args (ps.zip us) →
    Vals vs us → sp vs H Q E → codeAny (model P w) A (.call (.ref f) args) (CR CX outer P w H s Q E) s
structure ClG (P : Program) (w : World) (K : PySem.W.Frag) (mg : Str → Option Value) (base : Heap) (CX : CXT) (k : Nat) (x : Str) (st : Stmt) (ps : List Str) (sp : Sp) : Prop where
  ex : ∃ (f : Addr) (fd : FuncData), Fun K x x st f fd ∧ FnG P w K mg base CX k f fd ps sp ∧ mg x = some (.ref f)
section
variable {P : Program} {w : World} {K : PySem.W.Frag} {mg : Str → Option Value} {base : Heap} {k : Nat} {x : Str} {st : Stmt} {ps N : List Str} {sp : Sp} {CX : CXT}
theorem clG_of (D : DefAt K mg x st) (S : FnScope N ps (defScope st)) (len : ∀ vs H Q E, sp vs H Q E → vs.length = ps.length)
    (hbody : ∀ (f : Addr) (cdv : Value) (A : Around) (outer : List Env) (s : Shared) (H : Hp) (vs : List V) (Q : VK) (E : XK), A.guards = some [] → Room k (A.deeper (envOfC x (defScope st) s.heap.objs.size f cdv)) → sp vs H Q E →
      ∃ t, PSs (cxOf CX0 P w K mg base N x (defScope st) f cdv A outer s H E).nox (defBody st) t ∧ t { nx := fun _ H' => Q .non H', rt := Q } (start N vs) H) : ClG P w K mg base CX0 (k + 1) x st ps sp := by
  obtain ⟨f, fd, F, m⟩ := D.ex
  refine ⟨f, fd, F, ?_, m⟩
  obtain ⟨oc, od, kV, doc, pm, an, cdv, ct, osl, rfl, lk, hcd⟩ := F.ex
  refine ⟨len, fun A outer s H args us vs Q E gd hr e0 hb r hs => run_ofS lk hcd S hr e0 hb r (len _ _ _ _ hs) fun hr' => ?_⟩
  obtain ⟨t, h, q⟩ := hbody f cdv A outer s H vs Q E gd hr' hs
  exact ⟨t, h.nox, q⟩
theorem ClG.at {f : Addr} {fd : FuncData} (c : ClG P w K mg base CX k x st ps sp) (F : Fun K x x st f fd) (m : mg x = some (.ref f)) : FnG P w K mg base CX k f fd ps sp := by
  obtain ⟨f', fd', F', o, m'⟩ := c.ex
  rw [m] at m'
  cases m'
  obtain ⟨oc, od, kV, doc, pm, an, cdv, ct, osl, rfl, lk, _⟩ := F.ex
  obtain ⟨oc', od', kV', doc', pm', an', cdv', ct', osl', rfl, lk', _⟩ := F'.ex
  have e := Option.some.inj (lk.symm.trans lk')
  injection e with _ _ e _
  injection e with e
  rw [e]
  exact o
end
section
variable {X : Cx} {CX : CXT} {k j : Nat} {x : Str} {st : Stmt} {sp : Sp} {ps : List Str} {p pos : Pos} {e : Expr} {es : List Expr} {t : TA} {E : XK}
/-- f(a, ..), no repr under way -/
theorem pe_clG (c : ClG X.prog X.w X.K X.mg X.base CX k x st ps sp) (b : Bnd x st ps) (gd : X.A.guards = some []) (hr : Room j X.A) (hk : k ≤ j) (hg : Gl X x) (hx : Passes CX X E) (ha : PA X (e :: es) t)
    (hdb : (x == ("__debug__" : Str)) = false := by decide) (he : starEach (e :: es) X.env = (false, eval e X.env) :: starEach es X.env := by rfl) (hpl : (backTo pos (starEach es X.env)).any (·.1) = false := by rfl) :
    PE X (.Call (.Name x p) (e :: es) [] pos) (tCall sp [] E t) := by
  obtain ⟨f, fd, F, o, m⟩ := c.ex
  refine ⟨fun pins s σ H Q I hq => wpAny_Call_Name_kw (ld_glob I hg m (PySem.W.callWith_K (h₀ := X.base) I.ok.mod.kin F.kp (thn (ha.run pos pins s σ H _ I hq) fun us s1 hh => ?_) he hpl) hdb)⟩
  obtain ⟨vs, H1, J, r, q⟩ := hh
  refine ⟨J.kIn, ?_⟩
  rw [List.append_nil] at q
  have hl : us.length = ps.length := r.length.symm.trans (o.len _ _ _ _ q)
  have bt : BindsTo s1 fd ⟨us, []⟩ (ps.zip us) := by
    have z := F.binds b s1 us J.kIn (by rw [List.append_nil]; exact hl)
    rwa [List.append_nil] at z
  refine wpAny_call (codeAny_mono (o.run X.A X.stack s1 H1 ⟨us, []⟩ us vs Q E gd (hr.mono hk) J.env0 bt r q) fun res s2 hq2 => ?_)
  cases res with
  | error er => exact hx pins σ H1 s1 er s2 J hq2
  | ok fl =>
    cases fl with
    | ret u => exact J.after hq2
    | next => exact hq2.elim
    | brk => exact hq2.elim
    | cont => exact hq2.elim
/-! ### repr -/
/-- data whose text is asked: what Dp tells, and the empty dict -/
inductive Dd (K : PySem.W.Frag) (H : Hp) : V → PyData → Prop
  | dp {v : V} {d : PyData} : Dp K H v d → SeqAt.shaped d = true → Dd K H v d
  | emp {a : Addr} : H a = some (.dK []) → Dd K H (.ref a) (.dict [])
def Shows (d : PyData) : Prop := d.showable = true ∧ d.shown.length ≤ sizeLine ∧ PyData.strOk d.shown = true
/-- repr(x), no repr under way -/
theorem call_reprD (gd : X.A.guards = some []) (hu : X.A.units + 70 < cLine) : CallR X (.builtin "repr") (fun xs H Q => ∃ v d, Dd X.K H v d ∧ Shows d ∧ xs = [v] ∧ Q (.str d.shown) H) := by
  intro pins s σ H xs us Q I r hq
  obtain ⟨v, d, hd, ⟨hs, hz, _⟩, rfl, q⟩ := hq
  obtain ⟨u, rfl, ru⟩ := vals1 r
  cases hd with
  | dp hd sh =>
    obtain ⟨as, rd⟩ := hd.reads I d _ u ru
    have lay := SeqAt.canLay_of_shaped sh
    have dep : d.depth ≤ 64 := by
      unfold SeqAt.shaped at sh
      rw [Bool.and_eq_true, decide_eq_true_eq] at sh
      exact sh.2
    cases rd with
    | none => exact PySem.P.repr_of_none ⟨.str _, H, I.tok _, ⟨_, rfl⟩, q⟩
    | bool b => exact PySem.P.repr_of_bool ⟨.str _, H, I.tok _, ⟨_, rfl⟩, q⟩
    | int i tk => exact PySem.P.repr_of_int (of_decide_eq_true hs) ⟨.str _, H, I.tok _, ⟨_, rfl⟩, q⟩
    | str y tk => exact PySem.P.repr_of_str ⟨.str _, H, I.tok _, ⟨_, rfl⟩, q⟩ hz
    | list g1 g2 g3 g4 =>
      refine PySem.repr_of_reads' (.list g1 g2 g3 g4) hs (PyData.noDict_hsm (PyData.hasDict_of_canLay _ lay)) gd (by omega) (fun _ _ zz => zz) (fun h' u' tk kp => ?_) hz
      exact ⟨.str _, H, I.kept (t' := tk) kp, ⟨_, rfl⟩, q⟩
    | tuple g1 g2 g3 g4 =>
      refine PySem.repr_of_reads' (.tuple g1 g2 g3 g4) hs (PyData.noDict_hsm (PyData.hasDict_of_canLay _ lay)) gd (by omega) (fun _ _ zz => zz) (fun h' u' tk kp => ?_) hz
      exact ⟨.str _, H, I.kept (t' := tk) kp, ⟨_, rfl⟩, q⟩
    | dict g1 g2 g3 g4 g5 => cases hd
  | emp ha =>
    cases ru
    obtain ⟨_, hm, vs, rel, o, es, ep, ho, hc, hdat, hks, hps, hnd⟩ := dk_of I.hok ha
    cases rel
    have e0 : es.toList = [] := List.length_eq_zero_iff.mp hps.length
    refine PySem.repr_of_reads' (d := .dict []) (.dict ho hc.1 hdat (by rw [e0]; exact .nil) (by rw [e0]; exact .nil)) hs (fun _ zz => ?_) gd (by show X.A.units + ((PyData.depthKv [] + 1) + 1) < cLine; rw [PyData.depthKv]; omega) (fun _ _ zz => zz) (fun h' u' tk kp => ?_) hz
    · have ne : _ ≠ sysModules := beq_eq_false_iff_ne.mp hm
      simp at zz
      exact ne zz.symm
    · exact ⟨.str _, H, I.kept (t' := tk) kp, ⟨_, rfl⟩, q⟩
end
end Lw
/-! The end of a law whose promise knows that no repr is under way (FnG), with the tables of the lambdas' makers. -/
namespace Lw
open PySem PySem.Spec PyProof.Rows L2 Evl LamX
/-- a list of ints of this kind as an object -/
abbrev scriptO (us : List Value) : Obj := { cls := .type "list", data := .seq us.toArray }
abbrev noCodes : Obj := { cls := .none, data := .fields #[] }
section
variable {P : Program} {w : World} {K : PySem.W.Frag} {mg mb : Str → Option Value} {CX : CXT} {k : Nat} {fa a : Addr} {cs : List (Addr × Addr)} {fd : FuncData} {x : Str} {sp : Sp} {st : Shared} {us : List Value} {ns : List Int}
/-- what is tracked at the start: the tables, and the script where the written part does not hold it -/
def startH (K : PySem.W.Frag) (ts : List Addr) (a : Addr) (us : List Value) (ns : List Int) : Hp := fun b =>
  if b ∈ ts then some (.tbl #[]) else if b = a ∧ (K.lookup a).isNone = true then some (.frz (scriptO us) (.lst (ns.map V.int))) else none
theorem startH_t {ts : List Addr} {b : Addr} (m : b ∈ ts) : startH K ts a us ns b = some (.tbl #[]) := if_pos m
theorem startH_inv {ts : List Addr} {b : Addr} {u : HO} (e : startH K ts a us ns b = some u) : (b ∈ ts ∧ u = .tbl #[]) ∨ (b ∉ ts ∧ b = a ∧ K.lookup a = none ∧ u = .frz (scriptO us) (.lst (ns.map V.int))) := by
  unfold startH at e
  by_cases m : b ∈ ts
  · rw [if_pos m] at e
    exact .inl ⟨m, (Option.some.inj e).symm⟩
  · rw [if_neg m] at e
    by_cases c : b = a ∧ (K.lookup a).isNone = true
    · rw [if_pos c] at e
      exact .inr ⟨m, c.1, Option.isNone_iff_eq_none.mp c.2, (Option.some.inj e).symm⟩
    · rw [if_neg c] at e
      cases e
theorem startH_not {ts : List Addr} {b : Addr} (h1 : b ∉ ts) (h2 : b = a → K.lookup a ≠ none) : startH K ts a us ns b = none := by
  cases e : startH K ts a us ns b with
  | none => rfl
  | some u =>
    rcases startH_inv e with ⟨m, _⟩ | ⟨_, e1, e2, _⟩
    · exact absurd m h1
    · exact absurd e2 (h2 e1)
theorem law_gd (KX : K.In st.heap) (hns : st.heap.Ns mainGlobals mg) (hb : st.heap.Ns builtinsNs mb) (hbb : ∀ y : Str, y ≠ "__name__" → mb y = bootBuiltins y) (hlim : st.heap.NoLimit) (hg : st.gens = #[])
    (hT : ∀ p ∈ cs, st.heap.get? p.2 = some noCodes) (nT : ∀ p ∈ cs, K.lookup p.2 = none) (C : ∀ p ∈ cs, PySem.W.CodeHd st.heap p.1 p.2)
    (hbm : ∃ (bm : Addr) (ob : Obj), mg "__builtins__" = some (.ref bm) ∧ bm ≠ builtinsNs ∧ st.heap.get? bm = some ob ∧ ob.cls = .type "module" ∧ ob.dict = some builtinsNs ∧ ob.data = .plain)
    (ha : st.heap.get? a = some (scriptO us)) (hi : IntsAre us ns) (hl : ns.length ≤ sizeLine) (room : Room k callerA)
    (F : ∀ base : Heap, K.In base → base.Ns mainGlobals mg → (∀ p ∈ cs, TabB base mg p.1 p.2) → FnG P w K mg base CX k fa fd [x] sp) (hbind : ∀ (s : Shared) (u : Value), BindsTo s fd ⟨[u], []⟩ [(x, u)])
    (hsp : ∀ H : Hp, (∀ p ∈ cs, H p.2 = some (.tbl #[])) → SqL K H a (ns.map V.int) → sp [.ref a] H (fun v _ => v = .bl true) fun _ _ _ => False)
    (hCX : ∀ H e s', CX [] H st (fun _ _ _ => False) e s' → False) :
    codeAny (model P w) callerA (.call (.ref fa) ⟨[.ref a], []⟩) (fun r z => r = .ok (.ret (.bool true)) ∧ OldK st.heap z.heap ∧ z.os = st.os ∧ AllBare z.gens) st := by
  obtain ⟨ts, ets⟩ : ∃ ts : List Addr, ts = cs.map (·.2) := ⟨_, rfl⟩
  have inT : ∀ p ∈ cs, p.2 ∈ ts := fun p m => by rw [ets]; exact List.mem_map.mpr ⟨p, m, rfl⟩
  have ofT : ∀ b ∈ ts, ∃ p ∈ cs, p.2 = b := fun b m => by
    rw [ets] at m
    obtain ⟨p, q, e⟩ := List.mem_map.mp m
    exact ⟨p, q, e⟩
  have atT : ∀ b ∈ ts, st.heap.get? b = some noCodes := fun b m => by
    obtain ⟨p, q, e⟩ := ofT b m
    rw [← e]
    exact hT p q
  have aT : a ∉ ts := fun m => by
    have q := atT a m
    rw [ha] at q
    have q' := congrArg Obj.cls (Option.some.inj q)
    cases q'
  obtain ⟨H, eH⟩ : ∃ H : Hp, H = startH K ts a us ns := ⟨_, rfl⟩
  have inv : ∀ {b u}, H b = some u → (b ∈ ts ∧ u = .tbl #[]) ∨ (b ∉ ts ∧ b = a ∧ K.lookup a = none ∧ u = .frz (scriptO us) (.lst (ns.map V.int))) := fun {b u} e => startH_inv (by rw [eH] at e; exact e)
  have tab : ∀ b ∈ ts, H b = some (.tbl #[]) := fun b m => by rw [eH]; exact startH_t m
  have lenU : us.length = ns.length := hi.length
  have rel := vals_ints hi
  have free : ∀ {b : Addr} {o : Obj}, st.heap.get? b = some o → o.cls ≠ .type "list" → o.cls ≠ .none → H b = none := fun {b o} e n1 n2 => by
    cases q : H b with
    | none => rfl
    | some u =>
      rcases inv q with ⟨m, _⟩ | ⟨_, e1, _, _⟩
      · rw [atT b m] at e
        cases e
        exact absurd rfl n2
      · rw [e1, ha] at e
        cases e
        exact absurd rfl n1
  have freeD : ∀ {b : Addr} {o : Obj}, st.heap.get? b = some o → (∀ zs n, o.data ≠ .seq zs n) → o.data ≠ .fields #[] → H b = none := fun {b o} e n1 n2 => by
    cases q : H b with
    | none => rfl
    | some u =>
      rcases inv q with ⟨m, _⟩ | ⟨_, e1, _, _⟩
      · rw [atT b m] at e
        cases e
        exact absurd rfl n2
      · rw [e1, ha] at e
        cases e
        exact absurd rfl (n1 _ _)
  have up : ∀ {b : Addr} {o : Obj}, st.heap.get? b = some o → H b = none → (hidT st.heap H).get? b = some o := fun e n => hidT_get e n
  have dict : ∀ {b : Addr} {m : Str → Option Value}, st.heap.Ns b m → (hidT st.heap H).Ns b m := fun {b m} ⟨o, es, ep, e, d, r⟩ =>
    ⟨o, es, ep, up e (freeD e (fun zs n z => by rw [d] at z; cases z) fun z => by rw [d] at z; cases z), d, r⟩
  have kin : K.In (hidT st.heap H) := fun b o e => up (KX b o e) (by
    cases q : H b with
    | none => rfl
    | some u =>
      rcases inv q with ⟨m, _⟩ | ⟨_, e1, e2, _⟩
      · obtain ⟨p, pm, ep⟩ := ofT b m
        rw [← ep, nT p pm] at e
        cases e
      · rw [e1, e2] at e
        cases e)
  have mod : L2.Mod K mg (hidT st.heap H) := ⟨kin, dict hns, ⟨mb, dict hb, hbb⟩, let ⟨mc, l1, l2⟩ := hlim; ⟨mc, dict l1, l2⟩⟩
  have hok : HOk P w H st.heap := fun b u e => by
    rcases inv e with ⟨m, rfl⟩ | ⟨_, rfl, _, rfl⟩
    · exact atT b m
    · exact ⟨ha, by rw [List.length_map]; exact hl, us, _, rel, ha⟩
  have seq : SqL K H a (ns.map V.int) := by
    cases hk : K.lookup a with
    | some o =>
      have e := KX a o hk
      rw [ha] at e
      cases e
      exact .inr ⟨_, us.toArray, _, hk, rfl, rfl, rfl, by rw [List.size_toArray, lenU]; exact hl, by simpa using rel⟩
    | none => exact .inl (.inr ⟨scriptO us, by rw [eH]; unfold startH; rw [if_neg aT, if_pos ⟨rfl, by rw [hk]; rfl⟩]⟩)
  have tabs : ∀ p ∈ cs, TabB (hidT st.heap H) mg p.1 p.2 := fun p pm => by
    have hTp := hT p pm
    refine ⟨?_, ?_, fun z => ?_⟩
    · obtain ⟨o, vs, f1, f2, f3, f4, f5, f6, f7, e1, r1, r2, r3, rest⟩ := C p pm
      exact ⟨o, vs, f1, f2, f3, f4, f5, f6, f7, up e1 (free e1 (by rw [r1]; simp) (by rw [r1]; simp)), r1, r2, r3, rest⟩
    · obtain ⟨bm, ob, b1, b2, b3, b4, b5, b6⟩ := hbm
      refine ⟨bm, ob, b1, b2, fun z => ?_, fun z => ?_, up b3 (free b3 (by rw [b4]; simp) (by rw [b4]; simp)), b4, b5, b6⟩
      · obtain ⟨o, es, ep, e, hd, _⟩ := hns
        rw [z, e] at b3
        cases b3
        rw [hd] at b6
        cases b6
      · rw [z, hTp] at b3
        cases b3
        cases b6
    · obtain ⟨o, es, ep, e, hd, _⟩ := hns
      rw [z, hTp] at e
      cases e
      cases hd
  have env : Env0 P w K mg (hidT st.heap H) callerA [] st H := ⟨rfl, mod, fun b o e => of_hidT e, Nat.le_of_eq (hidT_size _ _), trivial, fun b m => (List.not_mem_nil m).elim, hok, .of_eq hg⟩
  refine codeAny_mono ((F _ kin (dict hns) tabs).run callerA [] st H ⟨[.ref a], []⟩ [.ref a] [.ref a] _ _ rfl room env (hbind st (.ref a)) (.cons rfl .nil) (hsp H (fun p pm => tab _ (inT p pm)) seq)) fun res z hz => ?_
  cases res with
  | error er => exact (hCX H er z hz).elim
  | ok fl =>
    cases fl with
    | next => exact hz.elim
    | brk => exact hz.elim
    | cont => exact hz.elim
    | ret u =>
      obtain ⟨v, H', o1, o2, un, hok', ru, q⟩ := hz
      obtain rfl : v = .bl true := q
      obtain rfl : u = Value.bool true := ru
      have held : ∀ b o, b ∉ ts → st.heap.get? b = some o → z.heap.get? b = some o := fun b o n e => by
        cases q : H b with
        | none => exact un.keep b o e q (fun m => (List.not_mem_nil m).elim) (fun m => (List.not_mem_nil m).elim)
        | some u =>
          rcases inv q with ⟨m, _⟩ | ⟨_, e1, e2, rfl⟩
          · exact absurd m n
          · have e3 := (hok' b _ (un.frzs b _ _ q)).1
            rw [e1, ha] at e
            cases e
            rw [e1] at e3 ⊢
            exact e3
      have more : ∀ b ∈ ts, ∃ zs : Array Value, z.heap.get? b = some { cls := .none, data := .fields zs } := fun b m => by
        obtain ⟨zs, e⟩ := un.tbls b #[] (tab b m)
        exact ⟨_, hok' b _ e⟩
      refine ⟨rfl, ⟨fun b o e => ?_, fun b o e => ?_⟩, o1, o2⟩
      · by_cases m : b ∈ ts
        · obtain ⟨p, pm, rfl⟩ := ofT b m
          obtain ⟨zs, e2⟩ := more _ m
          rw [hT p pm] at e
          cases e
          exact .inr (.inl ⟨((C p pm).tab (hT p pm)).isCodeTable, rfl, #[], zs, rfl, by rw [Array.empty_append]; exact e2⟩)
        · exact .inl (held b o m e)
      · by_cases m : b ∈ ts
        · obtain ⟨zs, e2⟩ := more b m
          exact ⟨_, e2⟩
        · exact ⟨o, held b o m e⟩
end
/-- the law's promise, at the head's heap h -/
def LawG (l : PySem.W.OpenLaw) (w : World) (K : PySem.W.Frag) (CX : CXT) (k n : Nat) (x : Str) (mg : Str → Option Value) (fa : Addr) (h : Heap) : Prop :=
  ∃ (fd : FuncData) (cs : List (Addr × Addr)) (sp : Sp), (∀ p ∈ cs, h.get? p.2 = some noCodes) ∧ (∀ p ∈ cs, K.lookup p.2 = none) ∧ (∀ p ∈ cs, PySem.W.CodeHd h p.1 p.2) ∧ (∀ (s : Shared) (u : Value), BindsTo s fd ⟨[u], []⟩ [(x, u)]) ∧
    (∀ (H : Hp) (a : Addr) (ns : List Int), ns.length ≤ n → (∀ p ∈ cs, H p.2 = some (.tbl #[])) → SqL K H a (ns.map V.int) → sp [.ref a] H (fun v _ => v = .bl true) fun _ _ _ => False) ∧
    ∀ base : Heap, K.In base → base.Ns mainGlobals mg → (∀ p ∈ cs, TabB base mg p.1 p.2) → FnG l.prog w K mg base CX k fa fd [x] sp
theorem walk_gd {l : PySem.W.OpenLaw} {n k : Nat} {q : Program} {lo : List Str} {XQ : (Str → Option Value) → Heap → Prop} {YQ : World → Heap → Prop} {d : DefRec} {K : Params → PySem.W.Frag} {CX : World → CXT} {x : Str}
    (m1 : l.most = some n) (m2 : n ≤ sizeLine) (df : d.params.defaults = []) (room : Room k callerA) (hY : ∀ (w : World) (h : Heap), YQ w h → (K w.params).In h)
    (F : ∀ (w : World) (mg : Str → Option Value) (fa : Addr) (h : Heap), YQ w h → (K w.params).In h → h.Ns mainGlobals mg → mg d.name = some (.ref fa) → LawG l w (K w.params) (CX w) k n x mg fa h)
    (hCX : ∀ (w : World) (H : Hp) (s : Shared) (e : Value) (s' : Shared), CX w [] H s (fun _ _ _ => False) e s' → False) : PySem.W.WalkO q lo XQ YQ l.row.toRowW d [] (fun f vs => PySem.call f vs) := by
  refine Att.attach_callB m1 df fun w s₀ s₁ mg mb fa o pm cd doc a vs ns G Y ho hd hcd hmg obj itsI len bits gens => ?_
  have KX := hY w _ Y
  obtain ⟨fd, cs, sp, t1, t2, t3, hb, hs, hF⟩ := F w mg fa _ Y KX G.T.g hmg
  exact law_gd KX G.T.g G.T.b G.T.builtins G.T.nolimit gens t1 t2 t3 G.T.bmain obj itsI (Nat.le_trans len m2) room hF hb (fun H c S => hs H a ns len c S) fun H e z => hCX w H s₁ e z
/-! ### defs that make lambdas -/
/-- a def of the text, its code object at c -/
structure DefC (K : PySem.W.Frag) (mg : Str → Option Value) (x : Str) (st : Stmt) (c : Addr) : Prop where
  ex : ∃ (f : Addr) (oc : Value) (od an : Option Addr) (osl : Array (Option Value)) (kV doc pm ct : Value), K.lookup f = some ⟨oc, od, .func (PySem.W.fnOf x x (defArgs st) (defBody st) (defScope st) .none kV doc pm an (.ref c) ct), osl⟩ ∧
    PySem.W.codeIn K (.ref c) x = true ∧ PySem.W.keepIn K (.ref f) = true ∧ mg x = some (.ref f)
theorem defC_mk {K : PySem.W.Frag} {mg : Str → Option Value} {x : Str} {st : Stmt} {h : Heap} {f c : Addr} {oc : Value} {od an : Option Addr} {osl : Array (Option Value)} {kV doc pm ct : Value} (X : K.In h) (G : h.Ns mainGlobals mg)
    (a : PySem.W.nsIn K mainGlobals x = some (some (.ref f))) (l : K.lookup f = some ⟨oc, od, .func (PySem.W.fnOf x x (defArgs st) (defBody st) (defScope st) .none kV doc pm an (.ref c) ct), osl⟩) (ci : PySem.W.codeIn K (.ref c) x = true)
    (kp : PySem.W.keepIn K (.ref f) = true) : DefC K mg x st c := ⟨f, oc, od, an, osl, kV, doc, pm, ct, l, ci, kp, PySem.W.mg_of X G a⟩
theorem clC_of {P : Program} {w : World} {K : PySem.W.Frag} {mg : Str → Option Value} {base : Heap} {k : Nat} {x : Str} {st : Stmt} {ps N : List Str} {sp : Sp} {c : Addr} (D : DefC K mg x st c) (S : FnScope N ps (defScope st)) (len : ∀ vs H Q E, sp vs H Q E → vs.length = ps.length)
    (hbody : ∀ (f : Addr) (A : Around) (outer : List Env) (s : Shared) (H : Hp) (vs : List V) (Q : VK) (E : XK), A.guards = some [] → Room k (A.deeper (envOfC x (defScope st) s.heap.objs.size f (.ref c))) → sp vs H Q E →
      ∃ t, PSs (cxOf CX0 P w K mg base N x (defScope st) f (.ref c) A outer s H E).nox (defBody st) t ∧ t { nx := fun _ H' => Q .non H', rt := Q } (start N vs) H) : ClG P w K mg base CX0 (k + 1) x st ps sp := by
  obtain ⟨f, oc, od, an, osl, kV, doc, pm, ct, lk, hcd, kp, m⟩ := D.ex
  refine ⟨f, _, fun_mk lk hcd kp, ⟨len, fun A outer s H args us vs Q E gd hr e0 hb r hs => run_ofS lk hcd S hr e0 hb r (len _ _ _ _ hs) fun hr' => ?_⟩, m⟩
  obtain ⟨t, h, q⟩ := hbody f A outer s H vs Q E gd hr' hs
  exact ⟨t, h.nox, q⟩
theorem lawG_fd {K : PySem.W.Frag} {mg : Str → Option Value} {x p : Str} {st : Stmt} {fa : Addr} (D : DefAt K mg x st) (b : Bnd x st [p]) (hfa : mg x = some (.ref fa)) : ∃ fd, Fun K x x st fa fd ∧ ∀ (s : Shared) (u : Value), BindsTo s fd ⟨[u], []⟩ [(p, u)] := law_fd D b hfa
end Lw
/-! A def that is handed a lambda; what stays where tables of code objects grow. -/
namespace Lw
open PySem PySem.Spec PyProof.Rows L2 Evl LamX
theorem u70 {k : Nat} {A : Around} (hr : Room k A) : A.units + 70 < cLine := by
  have := hr.un
  omega
section
variable {X : Cx}
/-- x(lambda: body), x a def of the text with one parameter -/
theorem pe_lamc {TT : (XK → Hp → VK → Prop) → Hp → VK → Prop} {x a : Str} {st : Stmt} {c P : Addr} {k : Nat} {Ng : List Str} {params : Arguments} {body : Expr} {scope : Scope} {t : XK → TE} {p lpos pos : Pos} (D : DefAt X.K X.mg x st) (b : Bnd x st [a]) (hg : Gl X x)
    (Sg : FnScope Ng [a] (defScope st)) (hNg : Ng[0]? = some a) (hva : Vis (defScope st) a) (hG : ∀ g cdv, GivesTo X Ng x (defScope st) g cdv (defBody st) a (X.env.qual ++ "<lambda>") TT)
    (TB : TabB X.base X.mg c P) (hcode : X.env.code = .ref c) (hr : Room (k + 2) X.A) (L : LamS X.env.scope scope) (hdef : defaultsOf params X.env = ([], []))
    (hbind : ∀ (q : Str) (cl : List (Str × Addr)) (pm cv ctv : Value), bindArgs (PySem.W.kla_fn "<lambda>" q params body scope cl pm cv ctv) ⟨[], []⟩ = pure [])
    (hbody : ∀ (A : Around) (outer : List Env) (s : Shared) (H : Hp) (E : XK) (f c' : Addr), Room k (A.deeper (lamEnv X scope s.heap.objs.size f c')) → PE (lamCx X A outer s H E scope f c') body (t E))
    (d1 : (x == ("__debug__" : Str)) = false := by decide) (d2 : (a == ("__debug__" : Str)) = false := by decide) (d3 : (a == ("__classdict__" : Str)) = false := by decide) :
    PE X (.Call (.Name x p) [.Lambda params body scope lpos] [] pos) (tLam [(P, X.env.qual ++ "<lambda>")] TT t) := by
  obtain ⟨f, fd, F, m⟩ := D.ex
  have kp := F.kp
  have bs := F.binds b
  obtain ⟨oc, od, kV, doc, pm, an, cdv, ct, osl, rfl, lk, hcd⟩ := F.ex
  exact pe_lamcall hg m kp lk hcd bs Sg hNg hva (hG f cdv) TB hcode List.mem_cons_self (fun q hq _ => by
    obtain rfl : q = _ := by simpa using hq
    rfl) hr L hdef hbind hbody d1 d2 d3
end
/-! ### what stays, tables aside -/
theorem ExtN.ex {H H' : Hp} (e : Ex H H') : ExtN H H' := ExtN.of fun b o h => e b o h
section
variable {K : PySem.W.Frag} {H H' : Hp} {a : Addr} {v : V} {n : String}
theorem sqN_l {xs : List V} (e : ExtN H H') (h : SqL K H a xs) : SqL K H' a xs := by
  rcases h with (h | ⟨o, h⟩) | h
  · exact .inl (.inl (e _ _ h fun ps z => by cases z))
  · exact .inl (.inr ⟨o, e _ _ h fun ps z => by cases z⟩)
  · exact .inr h
theorem sqN_t {xs : List V} (e : ExtN H H') (h : SqT K H a xs) : SqT K H' a xs := by
  rcases h with (h | ⟨o, h⟩) | h
  · exact .inl (.inl (e _ _ h fun ps z => by cases z))
  · exact .inl (.inr ⟨o, e _ _ h fun ps z => by cases z⟩)
  · exact .inr h
theorem Pool.upN (e : ExtN H H') (h : Pool H a) : Pool H' a := e _ _ h fun ps z => by cases z
mutual
theorem dpN (e : ExtN H H') : ∀ {v : V} {d : PyData}, Dp K H v d → Dp K H' v d
  | _, _, .non => .non
  | _, _, .bl b => .bl b
  | _, _, .int i => .int i
  | _, _, .str y => .str y
  | _, _, .lst h t => .lst (sqN_l e h) (dpsN e t)
  | _, _, .tup h t => .tup (sqN_t e h) (dpsN e t)
theorem dpsN (e : ExtN H H') : ∀ {vs : List V} {ds : List PyData}, DpAll K H vs ds → DpAll K H' vs ds
  | _, _, .nil => .nil
  | _, _, .cons h t => .cons (dpN e h) (dpsN e t)
end
theorem Dd.upN {d : PyData} (e : ExtN H H') (h : Dd K H v d) : Dd K H' v d := by
  cases h with
  | dp h s => exact .dp (dpN e h) s
  | emp h => exact .emp (e _ _ h fun ps z => by cases z)
theorem Dd.up {d : PyData} (e : Ex H H') (h : Dd K H v d) : Dd K H' v d := h.upN (ExtN.ex e)
theorem Kd.upN (e : ExtN H H') (k : Kd H v n) : Kd H' v n := by
  cases k with
  | int i => exact .int i
  | bl b => exact .bl b
  | str s => exact .str s
  | non => exact .non
  | tup h => exact .tup (e _ _ h fun ps z => by cases z)
  | fz h => exact .fz (e _ _ h fun ps z => by cases z)
  | lst h => exact .lst (e _ _ h fun ps z => by cases z)
  | dK h => exact .dK (e _ _ h fun ps z => by cases z)
theorem Th.upN {b : Bool} (e : ExtN H H') (k : Th H v b) : Th H' v b := by
  cases k with
  | other k h => exact .other (k.upN e) h
  | tup h ks => exact .tup (e _ _ h fun ps z => by cases z) fun x hx => let ⟨n, k⟩ := ks x hx; ⟨n, k.upN e⟩
end
theorem extN_mut {H H' : Hp} {a : Addr} {o : HO} (e : ExtN H H') (n : H a = none) : ExtN H (upd H' a o) := fun b u h t => by
  rw [upd_ne (fun z => by rw [z, n] at h; cases h)]
  exact e b u h t
theorem tabs_mut {T : List (Addr × Str)} {H : Hp} {a : Addr} {xs ys : List V} (t : Tabs T H) (h : H a = some (.lst xs)) : Tabs T (upd H a (.lst ys)) := fun p hp => by
  obtain ⟨ps, h1, h2, h3⟩ := t p hp
  have ne : ∀ {b u}, H b = some u → u ≠ .lst xs → b ≠ a := fun {b u} q n z => by
    rw [z, h] at q
    exact n (Option.some.inj q).symm
  refine ⟨ps, by rw [upd_ne (ne h1 (by intro z; cases z))]; exact h1, h2, fun pos cv hc => ?_⟩
  obtain ⟨c, e1, e2⟩ := h3 pos cv hc
  exact ⟨c, e1, by rw [upd_ne (ne e2 (by unfold CodeO; intro z; cases z))]; exact e2⟩
section
variable {H1 : Hp} {D : Addr} {n : Nat} {g : TG} {tt : TT} {te : TE} {vs : List Nat} {σ : L2.St} {Qd : Hp → Prop}
/-- a list of truths, made over range(n), where tables may grow -/
theorem lcRT (T : List (Addr × Str)) (hD : H1 D = none) (hn : n ≤ 50000) (t0 : Tabs T H1)
    (hs : ∀ i, i < n → ∀ H, ExtN H1 H → Tabs T H → ∀ (Q1 : VK) (Q2 : Hp → Prop), (∀ H4, ExtN H H4 → Tabs T H4 → Q1 (.bl true) H4) → g (.int ((0 : Int) + i)) (wipe σ vs) H fun σ2 H2 => wipe σ2 vs = wipe σ vs ∧ tt σ2 H2 fun b H3 => if b = true then te σ2 H3 Q1 else Q2 H3)
    (hd : ∀ H', ExtN H1 H' → Tabs T H' → H' D = some (.lst ((List.replicate n true).map V.bl)) → Qd H') :
    ∃ W : Nat → Nat → Hp → Prop, (∃ m, W 0 m (upd H1 D (.lst []))) ∧ ∀ i m H, W i m H →
      ((Itr 0 n).stop i H ∧ Qd H) ∨ ((Itr 0 n).go i H ∧ ∃ Nx : Hp → Prop, (∀ H', Nx H' → ∃ m', m' < m ∧ W (i + 1) m' H') ∧ ∀ x H', (Itr 0 n).yld i H x H' → g x (wipe σ vs) H' fun σ2 H2 => wipe σ2 vs = wipe σ vs ∧ tt σ2 H2 fun b H3 =>
        if b = true then te σ2 H3 fun y H4 => ∃ acc, H4 D = some (.lst acc) ∧ acc.length < sizeLine ∧ Nx (upd H4 D (.lst (acc ++ [y]))) else Nx H3) := by
  refine lc_range (fun i H => ExtN H1 H ∧ Tabs T H ∧ H D = some (.lst ((List.replicate i true).map V.bl))) ⟨ExtN.ex (Ex.new hD), t0.ext (fun b o h => Ex.new hD b o h), upd_same⟩ (fun i H hi I => ?_) (fun H I => hd H I.1 I.2.1 I.2.2)
  obtain ⟨e, t, h⟩ := I
  refine hs i hi H e t _ _ fun H4 e4 t4 => ?_
  have h4 := e4 _ _ h (fun ps z => by cases z)
  refine ⟨_, h4, Nat.lt_of_lt_of_le (show _ < 60000 by rw [List.length_map, List.length_replicate]; omega) (Nat.le_trans (by decide) line_ge), extN_mut (e.trans e4) hD, tabs_mut t4 h4, ?_⟩
  rw [upd_same, List.replicate_succ', List.map_append]
  rfl
end
/-! ### classes of errors -/
/-- x is a class of errors that is caught by (A, B, C) -/
structure ErrAt (K : PySem.W.Frag) (mg : Str → Option Value) (x a b c : Str) : Prop where
  ex : ∃ C A B D : Addr, mg x = some (.ref C) ∧ mg a = some (.ref A) ∧ mg b = some (.ref B) ∧ mg c = some (.ref D) ∧ PySem.W.exmAny K (.ref C) [.ref A, .ref B, .ref D] = some true ∧ ExcK K C
theorem errAt_mk {K : PySem.W.Frag} {mg : Str → Option Value} {x a b c : Str} {h : Heap} {C A B D : Addr} (X : K.In h) (G : h.Ns mainGlobals mg) (n1 : PySem.W.nsIn K mainGlobals x = some (some (.ref C))) (n2 : PySem.W.nsIn K mainGlobals a = some (some (.ref A)))
    (n3 : PySem.W.nsIn K mainGlobals b = some (some (.ref B))) (n4 : PySem.W.nsIn K mainGlobals c = some (some (.ref D))) (e : PySem.W.exmAny K (.ref C) [.ref A, .ref B, .ref D] = some true)
    (ga : PySem.W.findIn K (.ref C) "__getattribute__" = some (some (.builtin "BaseException.__getattribute__"))) (gt : PySem.W.findIn K (.ref C) "__getattr__" = some none) (sb : PySem.W.subIn K (.ref C) (.type "BaseException") = some true)
    (hd : PySem.W.hasDictIn K C = true) (ca : PySem.W.findIn K (.ref C) "__class__" = some (some (.builtin "object.__class__"))) (cg : PySem.W.specialIn K (.builtin "object.__class__") "__get__" = some (some (.builtin "getset_descriptor.__get__")))
    (ct : PySem.W.takesIn K (.builtin "object.__class__") = some true) (mo : PySem.W.mroIn K C (.type "object") = some true) : ErrAt K mg x a b c :=
  ⟨C, A, B, D, PySem.W.mg_of X G n1, PySem.W.mg_of X G n2, PySem.W.mg_of X G n3, PySem.W.mg_of X G n4, e, ga, gt, sb, hd, ca, cg, ct, mo⟩
/-- isinstance of an x: of the own class y -/
structure AskC (K : PySem.W.Frag) (mg : Str → Option Value) (x y : Str) (b : Bool) : Prop where
  ex : ∃ C D : Addr, mg x = some (.ref C) ∧ mg y = some (.ref D) ∧ PySem.W.kitOne K (.ref C) (.ref D) = some b
theorem askC_mk {K : PySem.W.Frag} {mg : Str → Option Value} {x y : Str} {b : Bool} {h : Heap} {C D : Addr} (X : K.In h) (G : h.Ns mainGlobals mg) (n1 : PySem.W.nsIn K mainGlobals x = some (some (.ref C))) (n2 : PySem.W.nsIn K mainGlobals y = some (some (.ref D)))
    (e : PySem.W.kitOne K (.ref C) (.ref D) = some b) : AskC K mg x y b := ⟨C, D, PySem.W.mg_of X G n1, PySem.W.mg_of X G n2, e⟩
/-- of the built-in class y -/
structure AskT (K : PySem.W.Frag) (mg : Str → Option Value) (x : Str) (y : String) (b : Bool) : Prop where
  ex : ∃ C : Addr, mg x = some (.ref C) ∧ PySem.W.kitOne K (.ref C) (.type y) = some b
theorem askT_mk {K : PySem.W.Frag} {mg : Str → Option Value} {x : Str} {y : String} {b : Bool} {h : Heap} {C : Addr} (X : K.In h) (G : h.Ns mainGlobals mg) (n1 : PySem.W.nsIn K mainGlobals x = some (some (.ref C))) (e : PySem.W.kitOne K (.ref C) (.type y) = some b) :
    AskT K mg x y b := ⟨C, PySem.W.mg_of X G n1, e⟩
/-- the exception that a caught call let out: of the class at C, with this value -/
def Out (K : PySem.W.Frag) (C : Addr) (f : Str) (cls : Value) (d : Option Addr) (H : Hp) (dt : PyData) : Prop := ∃ dd v, cls = .ref C ∧ d = some dd ∧ H dd = some (.xd [(f, v)]) ∧ Dd K H v dt ∧ Shows dt
/-- _law_caught(..) of a call that raises an error of C: [tag, repr(its value)] -/
def TCaught (K : PySem.W.Frag) (C : Addr) (f tag : Str) : (XK → Hp → VK → Prop) → Hp → VK → Prop := fun tl H Q =>
  tl (fun cls d H' => ∃ dt, Out K C f cls d H' dt ∧ ∀ l H2, Ex H' H2 → H2 l = some (.lst [.str tag, .str dt.shown]) → Q (.ref l) H2) H (fun _ H' => [V.str "none", V.str ""].length ≤ sizeLine ∧ ∀ p, H' p = none → Q (.ref p) (upd H' p (.lst [.str "none", .str ""])))
end Lw
/-! Values whose repr is asked: atoms, lists and tuples of atoms, the empty dict. -/
namespace Lw
open PySem PySem.Spec PyProof.Rows L2 Evl LamX
inductive Atm : V → PyData → Prop
  | non : Atm .non .none
  | bl (b : Bool) : Atm (.bl b) (.bool b)
  | int (i : Int) : i.natAbs < 2 ^ 1000 → Atm (.int i) (.int i)
  | emp : Atm (.str "") (.str "")
/-- its text can be told -/
def Dsp (K : PySem.W.Frag) (H : Hp) (v : V) : Prop := ∃ d, Dd K H v d ∧ Shows d
/-! ### texts of valid signs -/
theorem ok_app (x y : Str) : PyData.strOk (x ++ y) = (PyData.strOk x && PyData.strOk y) := by
  show (x.cps ++ y.cps).all _ = (x.cps.all _ && y.cps.all _)
  rw [Array.all_append]
theorem ok_of (s : String) : PyData.strOk (Str.ofString s) = true := by
  rw [Str.ofString_eq_toList]
  show ((s.toList.map Char.toNat).toArray).all _ = true
  rw [List.all_toArray, List.all_eq_true]
  intro n hn
  obtain ⟨c, _, rfl⟩ := List.mem_map.mp hn
  have := c.valid
  refine decide_eq_true ?_
  show c.val.toNat < 0x110000
  rcases this with h | h
  · have : c.val.toNat < 55296 := h
    omega
  · exact h.2
theorem ok_text : ∀ {ts : List Str} {k : Nat} {acc : Str}, PyData.strOk acc = true → (∀ t ∈ ts, PyData.strOk t = true) → PyData.strOk (textFrom k acc ts) = true
  | [], _, _, h, _ => h
  | t :: ts, k, acc, h, ht => by
    refine ok_text (ts := ts) ?_ fun u m => ht u (List.mem_cons_of_mem _ m)
    rw [ok_app, ok_app, h, ht t List.mem_cons_self]
    simp only [Bool.true_and, Bool.and_true]
    split <;> exact ok_of _
theorem ok_join {sep : Str} (hs : PyData.strOk sep = true) : ∀ {ts : List Str}, (∀ t ∈ ts, PyData.strOk t = true) → PyData.strOk (Str.join sep ts) = true
  | [], _ => by
    show PyData.strOk Str.empty = true
    decide +kernel
  | [t], h => h t List.mem_cons_self
  | t :: u :: ts, h => by
    rw [Str.join, ok_app, ok_app, h t List.mem_cons_self, hs, ok_join hs fun x m => h x (List.mem_cons_of_mem _ m)]
    all_goals first | rfl | (intro z; cases z)
section
variable {K : PySem.W.Frag} {H H' : Hp} {a : Addr} {v : V} {d : PyData} {vs : List V} {ds : List PyData}
theorem Atm.dp (h : Atm v d) : Dp K H v d := by cases h <;> constructor
theorem Atm.kd (h : Atm v d) : ∃ n, Kd H v n ∧ n ≠ "tuple" := by
  cases h with
  | non => exact ⟨_, .non, by decide⟩
  | bl b => exact ⟨_, .bl b, by decide⟩
  | int i _ => exact ⟨_, .int i, by decide⟩
  | emp => exact ⟨_, .str "", by decide⟩
theorem log_small {n : Nat} (h : n < 2 ^ 1000) : n.log2 < 1000 := by
  by_cases z : n = 0
  · subst z; decide
  · exact (Nat.log2_lt z).mpr h
theorem Atm.show (h : Atm v d) : d.showable = true ∧ d.shown.length ≤ 2000 ∧ PyData.strOk d.shown = true := by
  cases h with
  | non => exact ⟨rfl, by decide, ok_of _⟩
  | bl b => cases b <;> exact ⟨rfl, by decide, ok_of _⟩
  | int i hi =>
    have l := log_small hi
    refine ⟨decide_eq_true (by omega), ?_, ok_of _⟩
    have := int_text_length_le (k := 1000) (by decide) l
    show (Str.ofString (toString i)).length ≤ 2000
    rw [PySem.ofString_length]
    omega
  | emp => exact ⟨rfl, by decide, by decide +kernel⟩
theorem Atm.lay (h : Atm v d) : PyData.canLay0 d = true ∧ d.depth = 0 := by
  cases h with
  | emp => exact ⟨by rw [PyData.canLay0]; exact ok_of _, by simp [PyData.depth]⟩
  | _ => exact ⟨by simp [PyData.canLay0], by simp [PyData.depth]⟩
theorem atms_dp (h : Paired Atm vs ds) : DpAll K H vs ds := by
  induction h with
  | nil => exact .nil
  | cons h t ih => exact .cons h.dp ih
theorem atms_lay (h : Paired Atm vs ds) : PyData.canLayAll0 ds = true ∧ PyData.depthAll ds = 0 := by
  induction h with
  | nil => exact ⟨by simp [PyData.canLayAll0], by simp [PyData.depthAll]⟩
  | cons h t ih => exact ⟨by simp [PyData.canLayAll0, h.lay.1, ih.1], by simp [PyData.depthAll, h.lay.2, ih.2]⟩
theorem atms_show (h : Paired Atm vs ds) : PyData.showableAll ds = true ∧ ((PyData.shownAll ds).map (·.length)).sum ≤ 2000 * ds.length ∧ (PyData.shownAll ds).length = ds.length ∧ ∀ t ∈ PyData.shownAll ds, PyData.strOk t = true := by
  induction h with
  | nil => exact ⟨rfl, by simp [PyData.shownAll], rfl, fun t m => by cases m⟩
  | cons h t ih =>
    obtain ⟨i1, i2, i3, i4⟩ := ih
    obtain ⟨h1, h2, h3⟩ := h.show
    refine ⟨by rw [PyData.showableAll, h1, i1]; rfl, ?_, by rw [PyData.shownAll, List.length_cons, i3, List.length_cons], fun t m => ?_⟩
    · rw [PyData.shownAll, List.map_cons, List.sum_cons, List.length_cons]
      omega
    · rw [PyData.shownAll] at m
      rcases List.mem_cons.mp m with rfl | m
      · exact h3
      · exact i4 t m
theorem Atm.dsp (h : Atm v d) : Dsp K H v := by
  obtain ⟨s1, s2, s3⟩ := h.show
  refine ⟨d, .dp h.dp ?_, s1, Nat.le_trans s2 (by decide), s3⟩
  unfold SeqAt.shaped
  rw [h.lay.1, h.lay.2]
  rfl
theorem dsp_l (h : SqL K H a vs) (p : Paired Atm vs ds) (hl : vs.length ≤ 1000) : Dsp K H (.ref a) := by
  obtain ⟨s1, s2, s3, s4⟩ := atms_show p
  have ll := Paired.length p
  refine ⟨.list ds, .dp (.lst h (atms_dp p)) ?_, s1, ?_, ?_⟩
  · unfold SeqAt.shaped
    simp [PyData.canLay0, PyData.depth, (atms_lay p).1, (atms_lay p).2]
  · have := listText_len_le (PyData.shownAll ds)
    show (listText (PyData.shownAll ds)).length ≤ sizeLine
    rw [sizeLine_eq]
    omega
  · show PyData.strOk (textFrom 0 "[" (PyData.shownAll ds) ++ "]") = true
    rw [ok_app, ok_text (ok_of _) s4]
    exact ok_of _
theorem dsp_t (h : SqT K H a vs) (p : Paired Atm vs ds) (hl : vs.length ≤ 1000) : Dsp K H (.ref a) := by
  obtain ⟨s1, s2, s3, s4⟩ := atms_show p
  have ll := Paired.length p
  refine ⟨.tuple ds, .dp (.tup h (atms_dp p)) ?_, s1, ?_, ?_⟩
  · unfold SeqAt.shaped
    simp [PyData.canLay0, PyData.depth, (atms_lay p).1, (atms_lay p).2]
  · have := tupleText_len_le (PyData.shownAll ds)
    show (tupleText (PyData.shownAll ds)).length ≤ sizeLine
    rw [sizeLine_eq]
    omega
  · show PyData.strOk (("(" : Str) ++ Str.join ", " (PyData.shownAll ds) ++ _) = true
    rw [ok_app, ok_app, ok_join (ok_of _) s4]
    have o1 : PyData.strOk ("(" : Str) = true := ok_of _
    rw [o1]
    simp only [Bool.true_and]
    split <;> exact ok_of _
theorem dsp_d (h : H a = some (.dK [])) : Dsp K H (.ref a) := ⟨_, .emp h, rfl, by decide, by decide +kernel⟩
theorem Dsp.upN (e : ExtN H H') (h : Dsp K H v) : Dsp K H' v := let ⟨d, x, s⟩ := h; ⟨d, x.upN e, s⟩
theorem Dsp.up (e : Ex H H') (h : Dsp K H v) : Dsp K H' v := h.upN (ExtN.ex e)
theorem atms_kd (p : Paired Atm vs ds) : ∀ x ∈ vs, ∃ n, Kd H x n := by
  induction p with
  | nil => intro x m; cases m
  | cons h t ih =>
    intro x m
    rcases List.mem_cons.mp m with rfl | m
    · obtain ⟨n, k, _⟩ := h.kd (H := H)
      exact ⟨n, k⟩
    · exact ih x m
theorem atm_small {i : Int} (h0 : -100000000000000 ≤ i) (h1 : i ≤ 100000000000000) : Atm (.int i) (.int i) := .int i (Nat.lt_of_lt_of_le (show i.natAbs < 1000000000000000 by omega) (by decide))
/-- lists of lists of texts: equal -/
def rowD (t s : Str) : PyData := .list [.str t, .str s]
theorem dp_row {t s : Str} (h : H a = some (.lst [.str t, .str s])) : Dp K H (.ref a) (rowD t s) := .lst (SqL.of h) (.cons (.str _) (.cons (.str _) .nil))
theorem ne_row {b : Addr} {t s : Str} {Q : VK} (k1 : PyData.strOk t = true) (k2 : PyData.strOk s = true) (h : H a = some (.lst [.str t, .str s])) (h' : H b = some (.lst [.str t, .str s])) (q : Q (.bl false) H) : rNeD K (.ref a) (.ref b) H Q :=
  have sh : SeqAt.shaped (rowD t s) = true := by simp [rowD, SeqAt.shaped, PyData.canLay0, PyData.canLayAll0, PyData.depth, PyData.depthAll, k1, k2]
  ⟨_, _, dp_row h, dp_row h', sh, sh, by rw [SeqAt.eqv_refl _ (SeqAt.canLay_of_shaped sh)]; exact q⟩
theorem rows_lay (n : Nat) (t s : Str) (k1 : PyData.strOk t = true) (k2 : PyData.strOk s = true) : PyData.canLayAll0 (List.replicate n (rowD t s)) = true ∧ PyData.depthAll (List.replicate n (rowD t s)) ≤ 1 := by
  induction n with
  | zero => simp [PyData.canLayAll0, PyData.depthAll]
  | succ n ih =>
    rw [List.replicate_succ]
    exact ⟨by rw [PyData.canLayAll0, ih.1, Bool.and_true, rowD, PyData.canLay0]; simp [PyData.canLayAll0, PyData.canLay0, k1, k2], by rw [PyData.depthAll]; exact Nat.max_le.mpr ⟨by simp [rowD, PyData.depth, PyData.depthAll], ih.2⟩⟩
theorem dps_rows {t s : Str} : ∀ {as : List Addr}, (∀ b ∈ as, H b = some (.lst [.str t, .str s])) → DpAll K H (as.map V.ref) (List.replicate as.length (rowD t s))
  | [], _ => .nil
  | b :: as, h => .cons (dp_row (h b (by simp))) (dps_rows fun c m => h c (List.mem_cons_of_mem _ m))
theorem ne_rows {b : Addr} {t s : Str} {as bs : List Addr} {Q : VK} (k1 : PyData.strOk t = true) (k2 : PyData.strOk s = true) (h : H a = some (.lst (as.map V.ref))) (h' : H b = some (.lst (bs.map V.ref))) (l : as.length = bs.length) (ha : ∀ c ∈ as, H c = some (.lst [.str t, .str s])) (hb : ∀ c ∈ bs, H c = some (.lst [.str t, .str s]))
    (q : Q (.bl false) H) : rNeD K (.ref a) (.ref b) H Q := by
  have sh : SeqAt.shaped (.list (List.replicate as.length (rowD t s))) = true := by
    unfold SeqAt.shaped
    rw [PyData.canLay0, PyData.depth, (rows_lay _ t s k1 k2).1, decide_eq_true (by have := (rows_lay as.length t s k1 k2).2; omega)]
    rfl
  refine ⟨_, _, .lst (SqL.of h) (dps_rows ha), .lst (SqL.of h') (dps_rows hb), sh, by rw [← l]; exact sh, ?_⟩
  rw [← l, SeqAt.eqv_refl _ (SeqAt.canLay_of_shaped sh)]
  exact q
theorem rep3 {l : Addr} {xs : List V} {Q : VK} (h : H l = some (.lst xs)) (hl : xs.length ≤ 1000) (q : ∀ p, H p = none → Q (.ref p) (upd H p (.lst (xs ++ (xs ++ xs))))) : rRep (.ref l) (.int 3) H Q := by
  refine ⟨l, 3, xs, rfl, rfl, h, by decide, by decide, ?_, fun p n => ?_⟩
  · exact Nat.le_trans (by show xs.length * 3 ≤ 100000; omega) line_ge
  · have e : (List.replicate (3 : Int).toNat xs).flatten = xs ++ (xs ++ xs) := by
      show xs ++ (xs ++ (xs ++ [])) = _
      rw [List.append_nil]
    first
      | (rw [e]; exact q p n)
      | exact q p n
end
end Lw
/-! Rectangles a great deal larger: the points that both have. -/
namespace Lw
open PySem PySem.Spec PyProof.Rows L2 Evl LamX
/-- tuple(xs), told of K -/
def tupR (K : PySem.W.Frag) : List V → Hp → VK → Prop := fun xs H Q => ∃ p ys, xs = [.ref p] ∧ ((SqL K H p ys ∧ ∀ l, H l = none → Q (.ref l) (upd H l (.tup ys))) ∨ (SqT K H p ys ∧ Q (.ref p) H))
theorem call_tupK {X : Cx} : CallR X (.type "tuple") (tupR X.K) := call_tuple_of
theorem ints_of_list {f : Int → Int} {ks : List Int} {ys : List V} (hl : ys.length = ks.length) (h : ∀ (i : Nat) y, ys[i]? = some y → ∃ k, ks[i]? = some k ∧ y = .int (f k)) : ys = (ks.map f).map V.int := by
  refine List.ext_getElem? fun i => ?_
  rw [List.getElem?_map, List.getElem?_map]
  by_cases c : i < ys.length
  · obtain ⟨k, e1, e2⟩ := h i ys[i] (List.getElem?_eq_getElem c)
    rw [List.getElem?_eq_getElem c, e1, e2]
    rfl
  · rw [List.getElem?_eq_none (by omega), List.getElem?_eq_none (by omega)]
    rfl
theorem get_ints {ns : List Int} {i : Nat} {x : V} (h : (ns.map V.int)[i]? = some x) : ∃ k, ns[i]? = some k ∧ x = .int k := by
  rw [List.getElem?_map] at h
  cases hz : ns[i]? with
  | none => rw [hz] at h; cases h
  | some k => rw [hz] at h; exact ⟨k, rfl, (Option.some.inj h).symm⟩
theorem ovl_comm (a b : Box) : ovl a b = ovl b a := by
  unfold ovl
  rw [Int.max_comm a.1, Int.max_comm a.2.1, Int.min_comm (a.1 + a.2.2.1), Int.min_comm (a.2.1 + a.2.2.2)]
def big (b : Box) : Box := (100000000000 * b.1, 100000000000 * b.2.1, 100000000000 * b.2.2.1, 100000000000 * b.2.2.2)
theorem ovl_big (a b : Box) : ovl (big a) (big b) = (ovl a b).map big := by
  obtain ⟨a1, a2, a3, a4⟩ := a
  obtain ⟨b1, b2, b3, b4⟩ := b
  unfold ovl big
  dsimp only
  by_cases c : min (a1 + a3) (b1 + b3) ≤ max a1 b1 ∨ min (a2 + a4) (b2 + b4) ≤ max a2 b2
  · rw [if_pos c, if_pos (by omega)]
    rfl
  · rw [if_neg c, if_neg (by omega)]
    show some _ = some _
    refine congrArg some ?_
    refine Prod.ext (by dsimp only; omega) (Prod.ext (by dsimp only; omega) (Prod.ext (by dsimp only; omega) (by dsimp only; omega)))
theorem SmallBox.big {b : Box} (h : SmallBox b) : GoodBox (big b) := by
  obtain ⟨⟨a1, a2⟩, ⟨b1, b2⟩, ⟨c1, c2⟩, d1, d2⟩ := h
  unfold Lw.big
  exact ⟨⟨by dsimp only; omega, by dsimp only; omega⟩, ⟨by dsimp only; omega, by dsimp only; omega⟩, ⟨by dsimp only; omega, by dsimp only; omega⟩, by dsimp only; omega, by dsimp only; omega⟩
theorem OvAt.up {H H' : Hp} {v : V} {o : Option Box} (e : Ex H H') (h : OvAt H v o) : OvAt H' v o := by
  cases o with
  | none => exact h
  | some c => obtain ⟨t, a, b⟩ := h; exact ⟨t, a, e _ _ b⟩
theorem ne_ov {K : PySem.W.Frag} {H : Hp} {v u : V} {o : Option Box} {Q : VK} (h : OvAt H v o) (h' : OvAt H u o) (q : Q (.bl false) H) : rNeD K v u H Q := by
  cases o with
  | none =>
    obtain rfl : v = .non := h
    obtain rfl : u = .non := h'
    exact ⟨_, _, .non, .non, rfl, rfl, q⟩
  | some c =>
    obtain ⟨t, rfl, a⟩ := h
    obtain ⟨t', rfl, a'⟩ := h'
    have dp : ∀ {p}, BoxAt H p c → Dp K H (.ref p) (.tuple [.int c.1, .int c.2.1, .int c.2.2.1, .int c.2.2.2]) := fun {p} z => .tup (SqT.of z) (.cons (.int _) (.cons (.int _) (.cons (.int _) (.cons (.int _) .nil))))
    have sh : SeqAt.shaped (.tuple [.int c.1, .int c.2.1, .int c.2.2.1, .int c.2.2.2]) = true := by simp [SeqAt.shaped, PyData.canLay0, PyData.canLayAll0, PyData.depth, PyData.depthAll]
    exact ⟨_, _, dp a, dp a', sh, sh, by rw [SeqAt.eqv_refl _ (SeqAt.canLay_of_shaped sh)]; exact q⟩
end Lw
local macro_rules | `(tactic| fail "side") => `(tactic| first
  | ((with_reducible show (0 : Int) < _); omega)
  | ((with_reducible show L2.CMul _ _); unfold L2.CMul; omega)
  | ((with_reducible show L2.CDiv _ _); unfold L2.CDiv; omega)
  | ((with_reducible show L2.CPow _ _); unfold L2.CPow; decide)
  | ((with_reducible show (_ : Nat) ≤ _); refine Nat.le_trans ?_ Lw.line_ge; simp only [List.length_cons, List.length_nil, Nat.zero_add, Nat.reduceAdd]; decide)
  | ((with_reducible show (_ : Nat) < _); refine Nat.lt_of_lt_of_le ?_ Lw.line_ge; simp only [List.length_cons, List.length_nil, Nat.zero_add, Nat.reduceAdd]; decide)
  | ((with_reducible show (_ : Int) < _); first | omega | decide)
  | ((with_reducible show (_ : Int) ≤ _); first | omega | decide | (split <;> omega))
  | (show (0 : Int) < _; omega))
local macro_rules | `(tactic| fail "at1") => `(tactic| first
  | (with_reducible assumption)
  | ((with_reducible show L2.upd _ _ _ _ = _); first | exact L2.upd_same | exact Lw.upd_new (by with_reducible assumption) (by fail "at1"))
  | ((with_reducible show Lw.Minus _ _ _ = _); exact Lw.minus_at (Lw.ne_fresh (by with_reducible assumption) (by fail "at1")) (by fail "at1"))
  | exact Lw.ex_at (by with_reducible assumption) (by fail "at1"))
local macro_rules | `(tactic| fail "at") => `(tactic| ((with_reducible show (_ : Option L2.HO) = _); fail "at1"))
local macro_rules | `(tactic| fail "pool1") => `(tactic| first
  | (with_reducible assumption)
  | ((with_reducible show Lw.Pool (L2.upd _ _ _) _); exact Lw.Pool.new (by with_reducible assumption) (by fail "pool1"))
  | exact Lw.Pool.up (by with_reducible assumption) (by fail "pool1"))
local macro_rules | `(tactic| fail "pool") => `(tactic| ((with_reducible show Lw.Pool _ _); fail "pool1"))
local macro_rules | `(tactic| fail "th1") => `(tactic| first
  | (with_reducible assumption)
  | ((with_reducible show Lw.Th (L2.upd _ _ _) _ _); exact Lw.Th.new (by with_reducible assumption) (by fail "th1"))
  | exact Lw.Th.up (by with_reducible assumption) (by fail "th1"))
local macro_rules | `(tactic| fail "th") => `(tactic| ((with_reducible show Lw.Th _ _ _); fail "th1"))
local macro_rules | `(tactic| fail "sql1") => `(tactic| first
  | (apply Lw.sqlK; (with_reducible assumption); rfl)
  | exact L2.SqL.of (by fail "at1")
  | ((with_reducible show L2.SqL _ (L2.upd _ _ _) _ _); exact Evl.ex_l (Evl.Ex.new (by with_reducible assumption)) (by fail "sql1"))
  | exact Evl.ex_l (by with_reducible assumption) (by fail "sql1"))
local macro_rules | `(tactic| fail "sql") => `(tactic| ((with_reducible show L2.SqL _ _ _ _); fail "sql1"))
local macro_rules | `(tactic| fail "tu1") => `(tactic| first
  | (with_reducible assumption)
  | ((with_reducible show Lw.Tu (L2.upd _ _ _) _ _); exact Lw.Tu.up (Evl.Ex.new (by with_reducible assumption)) (by fail "tu1"))
  | exact Lw.Tu.up (by with_reducible assumption) (by fail "tu1"))
local macro_rules | `(tactic| fail "sqt1") => `(tactic| first
  | (apply Lw.sqtK; (with_reducible assumption); rfl)
  | exact Lw.Tu.sq (by fail "tu1")
  | exact L2.SqT.of (by fail "at1")
  | ((with_reducible show L2.SqT _ (L2.upd _ _ _) _ _); exact Evl.ex_t (Evl.Ex.new (by with_reducible assumption)) (by fail "sqt1"))
  | exact Evl.ex_t (by with_reducible assumption) (by fail "sqt1"))
local macro_rules | `(tactic| fail "sqt") => `(tactic| ((with_reducible show L2.SqT _ _ _ _); fail "sqt1"))
local macro_rules | `(tactic| fail "kd1") => `(tactic| first
  | (with_reducible assumption) | exact Lw.Kd.int _ | exact Lw.Kd.bl _ | exact Lw.Kd.str _ | exact Lw.Kd.non
  | exact Lw.Kd.tup (by fail "at1") | exact Lw.Kd.fz (by fail "at1") | exact Lw.Kd.lst (by fail "at1") | exact Lw.Kd.dK (by fail "at1")
  | ((with_reducible show Lw.Kd (L2.upd _ _ _) _ _); exact Lw.Kd.new (by with_reducible assumption) (by fail "kd1"))
  | exact Lw.Kd.up (by with_reducible assumption) (by fail "kd1"))
local macro_rules | `(tactic| fail "kd") => `(tactic| ((with_reducible show Lw.Kd _ _ _); fail "kd1"))
local macro_rules | `(tactic| fail "ati") => `(tactic| first
  | (with_reducible assumption)
  | ((with_reducible show L2.atI _ 0 = _); rfl)
  | ((with_reducible show L2.atI _ 1 = _); rfl)
  | ((with_reducible show L2.atI _ 2 = _); rfl)
  | ((with_reducible show L2.atI _ 3 = _); rfl)
  | ((with_reducible show L2.atI _ (-1) = _); rfl))
local macro_rules | `(tactic| fail "st") => `(tactic| first
  | (refine ⟨_, rfl, ?_⟩)
  | (refine ⟨_, _, rfl, rfl, ?_⟩)
  | (refine ⟨_, _, _, _, rfl, rfl, (by fail "sql"), (by fail "ati"), ?_⟩)
  | (refine ⟨_, _, _, _, rfl, rfl, (by fail "sqt"), (by fail "ati"), ?_⟩)
  | (refine ⟨_, _, _, _, rfl, rfl, (by fail "at"), rfl, ?_⟩)
  | (refine Or.inl ⟨_, _, _, _, rfl, rfl, (by fail "sql"), (by fail "ati"), ?_⟩)
  | (refine Or.inr (Or.inl ⟨_, _, _, _, rfl, rfl, (by fail "sqt"), (by fail "ati"), ?_⟩))
  | (refine ⟨_, _, _, _, rfl, (by fail "kd"), ?_⟩)
  | (refine ⟨_, _, rfl, Or.inl ⟨_, (by fail "sql"), rfl⟩, ?_⟩)
  | (refine ⟨_, _, rfl, Or.inr ⟨_, (by fail "sqt"), rfl⟩, ?_⟩)
  | (refine ⟨_, _, rfl, (by fail "sqt"), rfl, ?_⟩)
  | (refine ⟨_, _, rfl, (by fail "kd"), ?_⟩)
  | (refine ⟨_, _, rfl, (by fail "th"), ?_⟩)
  | (refine ⟨_, _, rfl, (by fail "sql"), ?_⟩)
  | (refine ⟨_, _, rfl, (by fail "sqt"), ?_⟩)
  | (refine ⟨(by fail "side"), ?_⟩)
  | (refine ⟨(by fail "pool"), ?_⟩)
  | (refine ⟨⟨_, (by fail "sqt")⟩, ?_⟩)
  | (refine ⟨⟨_, (by fail "sql")⟩, ?_⟩)
  | (refine ⟨_, _, rfl, ?_⟩)
  | (refine ⟨rfl, ?_⟩)
  | (refine ⟨_, _, _, _, _, rfl, L2.ClsV.ty _, Lw.Kd.ty (by fail "kd"), Lw.kit_k (by fail "kd") (by decide), ?_⟩))
namespace K02
open PySem PySem.Spec PyProof.Rows L2 Evl Lw
def topS (i : Nat) : Stmt := PySem.Challenge.pw_allscreens_k02_common_rectangles.main.body.getD i (.Pass ⟨0, 0, 0, 0⟩)
abbrev s_InvalidRect___init__ : Stmt := inClass (topS 4) 0
abbrev N_InvalidRect___init__ : List Str := ["self", "value"]
theorem sc_InvalidRect___init__ : FnScope N_InvalidRect___init__ ["self", "value"] (defScope s_InvalidRect___init__) := ⟨rfl, rfl, rfl, by decide +kernel, rfl, by decide +kernel, by decide +kernel⟩
abbrev s_InvalidNumber___init__ : Stmt := inClass (topS 5) 0
abbrev N_InvalidNumber___init__ : List Str := ["self", "value"]
theorem sc_InvalidNumber___init__ : FnScope N_InvalidNumber___init__ ["self", "value"] (defScope s_InvalidNumber___init__) := ⟨rfl, rfl, rfl, by decide +kernel, rfl, by decide +kernel, by decide +kernel⟩
abbrev s_InvalidColour___init__ : Stmt := inClass (topS 6) 0
abbrev N_InvalidColour___init__ : List Str := ["self", "value"]
theorem sc_InvalidColour___init__ : FnScope N_InvalidColour___init__ ["self", "value"] (defScope s_InvalidColour___init__) := ⟨rfl, rfl, rfl, by decide +kernel, rfl, by decide +kernel, by decide +kernel⟩
abbrev s_is_integer : Stmt := topS 9
abbrev N_is_integer : List Str := ["value"]
theorem sc_is_integer : FnScope N_is_integer ["value"] (defScope s_is_integer) := ⟨rfl, rfl, rfl, by decide +kernel, rfl, by decide +kernel, by decide +kernel⟩
theorem b_is_integer : Lw.Bnd "is_integer" s_is_integer ["value"] := fun _ _ _ _ _ _ us hl => match us, hl with | [_], _ => rfl
abbrev s_is_between : Stmt := topS 10
abbrev N_is_between : List Str := ["value", "low", "high"]
theorem sc_is_between : FnScope N_is_between ["value", "low", "high"] (defScope s_is_between) := ⟨rfl, rfl, rfl, by decide +kernel, rfl, by decide +kernel, by decide +kernel⟩
theorem b_is_between : Lw.Bnd "is_between" s_is_between ["value", "low", "high"] := fun _ _ _ _ _ _ us hl => match us, hl with | [_, _, _], _ => rfl
abbrev s_is_number : Stmt := topS 11
abbrev N_is_number : List Str := ["value"]
theorem sc_is_number : FnScope N_is_number ["value"] (defScope s_is_number) := ⟨rfl, rfl, rfl, by decide +kernel, rfl, by decide +kernel, by decide +kernel⟩
theorem b_is_number : Lw.Bnd "is_number" s_is_number ["value"] := fun _ _ _ _ _ _ us hl => match us, hl with | [_], _ => rfl
abbrev s_is_rect : Stmt := topS 13
abbrev N_is_rect : List Str := ["value"]
theorem sc_is_rect : FnScope N_is_rect ["value"] (defScope s_is_rect) := ⟨rfl, rfl, rfl, by decide +kernel, rfl, by decide +kernel, by decide +kernel⟩
theorem b_is_rect : Lw.Bnd "is_rect" s_is_rect ["value"] := fun _ _ _ _ _ _ us hl => match us, hl with | [_], _ => rfl
abbrev s_check_rect : Stmt := topS 14
abbrev N_check_rect : List Str := ["value"]
theorem sc_check_rect : FnScope N_check_rect ["value"] (defScope s_check_rect) := ⟨rfl, rfl, rfl, by decide +kernel, rfl, by decide +kernel, by decide +kernel⟩
theorem b_check_rect : Lw.Bnd "check_rect" s_check_rect ["value"] := fun _ _ _ _ _ _ us hl => match us, hl with | [_], _ => rfl
abbrev s_overlap : Stmt := topS 15
abbrev N_overlap : List Str := ["rect", "other", "left", "top", "right", "bottom"]
theorem sc_overlap : FnScope N_overlap ["rect", "other"] (defScope s_overlap) := ⟨rfl, rfl, rfl, by decide +kernel, rfl, by decide +kernel, by decide +kernel⟩
theorem b_overlap : Lw.Bnd "overlap" s_overlap ["rect", "other"] := fun _ _ _ _ _ _ us hl => match us, hl with | [_, _], _ => rfl
abbrev s_common : Stmt := topS 16
abbrev N_common : List Str := ["rect", "other_rect"]
theorem sc_common : FnScope N_common ["rect", "other_rect"] (defScope s_common) := ⟨rfl, rfl, rfl, by decide +kernel, rfl, by decide +kernel, by decide +kernel⟩
theorem b_common : Lw.Bnd "common" s_common ["rect", "other_rect"] := fun _ _ _ _ _ _ us hl => match us, hl with | [_, _], _ => rfl
abbrev s_law_cell : Stmt := topS 18
abbrev N_law_cell : List Str := ["_law_script", "_law_k", "_law_state_here", "_law_cell_here"]
theorem sc_law_cell : FnScope N_law_cell ["_law_script", "_law_k"] (defScope s_law_cell) := ⟨rfl, rfl, rfl, by decide +kernel, rfl, by decide +kernel, by decide +kernel⟩
theorem b_law_cell : Lw.Bnd "_law_cell" s_law_cell ["_law_script", "_law_k"] := fun _ _ _ _ _ _ us hl => match us, hl with | [_, _], _ => rfl
abbrev s_law_pool : Stmt := topS 19
abbrev N_law_pool : List Str := ["_law_cell_here", "_law_digits"]
theorem sc_law_pool : FnScope N_law_pool ["_law_cell_here"] (defScope s_law_pool) := ⟨rfl, rfl, rfl, by decide +kernel, rfl, by decide +kernel, by decide +kernel⟩
theorem b_law_pool : Lw.Bnd "_law_pool" s_law_pool ["_law_cell_here"] := fun _ _ _ _ _ _ us hl => match us, hl with | [_], _ => rfl
abbrev s_law_draw : Stmt := topS 20
abbrev N_law_draw : List Str := ["_law_pool_here", "_law_many", "_law_old", "_law_digit"]
theorem sc_law_draw : FnScope N_law_draw ["_law_pool_here", "_law_many"] (defScope s_law_draw) := ⟨rfl, rfl, rfl, by decide +kernel, rfl, by decide +kernel, by decide +kernel⟩
theorem b_law_draw : Lw.Bnd "_law_draw" s_law_draw ["_law_pool_here", "_law_many"] := fun _ _ _ _ _ _ us hl => match us, hl with | [_, _], _ => rfl
abbrev s_law_box : Stmt := topS 21
abbrev N_law_box : List Str := ["_law_pool_here"]
theorem sc_law_box : FnScope N_law_box ["_law_pool_here"] (defScope s_law_box) := ⟨rfl, rfl, rfl, by decide +kernel, rfl, by decide +kernel, by decide +kernel⟩
theorem b_law_box : Lw.Bnd "_law_box" s_law_box ["_law_pool_here"] := fun _ _ _ _ _ _ us hl => match us, hl with | [_], _ => rfl
abbrev s_law_spots : Stmt := topS 22
abbrev N_law_spots : List Str := ["_law_some", "_law_found", "_law_left", "_law_top", "_law_wide", "_law_high", "_law_spot"]
theorem sc_law_spots : FnScope N_law_spots ["_law_some"] (defScope s_law_spots) := ⟨rfl, rfl, rfl, by decide +kernel, rfl, by decide +kernel, by decide +kernel⟩
theorem b_law_spots : Lw.Bnd "_law_spots" s_law_spots ["_law_some"] := fun _ _ _ _ _ _ us hl => match us, hl with | [_], _ => rfl
abbrev s_law_due : Stmt := topS 23
abbrev N_law_due : List Str := ["_law_one", "_law_other", "_law_spots_here", "_law_left", "_law_top", "_law_spot"]
theorem sc_law_due : FnScope N_law_due ["_law_one", "_law_other"] (defScope s_law_due) := ⟨rfl, rfl, rfl, by decide +kernel, rfl, by decide +kernel, by decide +kernel⟩
theorem b_law_due : Lw.Bnd "_law_due" s_law_due ["_law_one", "_law_other"] := fun _ _ _ _ _ _ us hl => match us, hl with | [_, _], _ => rfl
abbrev s_law_caught : Stmt := topS 24
abbrev N_law_caught : List Str := ["_law_call", "_law_caught_here", "e"]
theorem sc_law_caught : FnScope N_law_caught ["_law_call"] (defScope s_law_caught) := ⟨rfl, rfl, rfl, by decide +kernel, rfl, by decide +kernel, by decide +kernel⟩
theorem b_law_caught : Lw.Bnd "_law_caught" s_law_caught ["_law_call"] := fun _ _ _ _ _ _ us hl => match us, hl with | [_], _ => rfl
abbrev s_law_refused_right : Stmt := topS 25
abbrev N_law_refused_right : List Str := ["_law_pool_here", "_law_good", "_law_odd", "_law_turn", "_law_told", "_law_bad", "_law_worse"]
theorem sc_law_refused_right : FnScope N_law_refused_right ["_law_pool_here", "_law_good"] (defScope s_law_refused_right) := ⟨rfl, rfl, rfl, by decide +kernel, rfl, by decide +kernel, by decide +kernel⟩
theorem b_law_refused_right : Lw.Bnd "_law_refused_right" s_law_refused_right ["_law_pool_here", "_law_good"] := fun _ _ _ _ _ _ us hl => match us, hl with | [_, _], _ => rfl
abbrev s_law_right : Stmt := topS 26
abbrev N_law_right : List Str := ["_law_pool_here", "_law_turn", "_law_one", "_law_other", "_law_due_here", "_law_great", "_law_box_here", "_law_place"]
theorem sc_law_right : FnScope N_law_right ["_law_pool_here"] (defScope s_law_right) := ⟨rfl, rfl, rfl, by decide +kernel, rfl, by decide +kernel, by decide +kernel⟩
theorem b_law_right : Lw.Bnd "_law_right" s_law_right ["_law_pool_here"] := fun _ _ _ _ _ _ us hl => match us, hl with | [_], _ => rfl
abbrev s_law : Stmt := topS 27
abbrev N_law : List Str := ["_law_script", "_law_k"]
theorem sc_law : FnScope N_law ["_law_script"] (defScope s_law) := ⟨rfl, rfl, rfl, by decide +kernel, rfl, by decide +kernel, by decide +kernel⟩
theorem b_law : Lw.Bnd "law" s_law ["_law_script"] := fun _ _ _ _ _ _ us hl => match us, hl with | [_], _ => rfl
def gk_bk_common_0_other_rect_rect {α : Type} : List α → List α → List α | [], [z0, z1] => [z1, z0] | _, _ => []
theorem rk_bk_common_0_other_rect_rect {vs zs : List V} {us ws : List Value} (a : Vals vs us) (b : Vals zs ws) : Vals (gk_bk_common_0_other_rect_rect vs zs) (gk_bk_common_0_other_rect_rect us ws) := by
  have la := Paired.length a
  have lb := Paired.length b
  by_cases h1 : vs.length = 0 ∧ zs.length = 2
  · obtain ⟨h1, h2⟩ := h1
    match vs, us, zs, ws, a, b, h1, h2 with
    | [], [], [_, _], [_, _], .nil, .cons k0 (.cons k1 (.nil)), _, _ => exact .cons k1 (.cons k0 (.nil))
  · have e1 : gk_bk_common_0_other_rect_rect vs zs = [] := by
      unfold gk_bk_common_0_other_rect_rect; split
      · exact absurd ⟨rfl, rfl⟩ h1
      · rfl
    have e2 : gk_bk_common_0_other_rect_rect us ws = [] := by
      unfold gk_bk_common_0_other_rect_rect; split
      · exact absurd ⟨la, lb⟩ h1
      · rfl
    rw [e1, e2]
    exact .nil
theorem bk_common_0_other_rect_rect : Lw.BndK "common" s_common ["rect", "other_rect"] 0 ["other_rect", "rect"] (fun {_} => gk_bk_common_0_other_rect_rect) := fun _ _ _ _ _ _ us ws h1 h2 => match us, h1, ws, h2 with | [], _, [_, _], _ => rfl
theorem bt_ArithmeticError : bootBuiltins "ArithmeticError" = some (.type "ArithmeticError") := by decide +kernel
theorem bt_LookupError : bootBuiltins "LookupError" = some (.type "LookupError") := by decide +kernel
theorem bt_ValueError : bootBuiltins "ValueError" = some (.type "ValueError") := by decide +kernel
theorem bt_abs : bootBuiltins "abs" = some (.builtin "abs") := by decide +kernel
theorem bt_all : bootBuiltins "all" = some (.builtin "all") := by decide +kernel
theorem bt_bool : bootBuiltins "bool" = some (.type "bool") := by decide +kernel
theorem bt_divmod : bootBuiltins "divmod" = some (.builtin "divmod") := by decide +kernel
theorem bt_int : bootBuiltins "int" = some (.type "int") := by decide +kernel
theorem bt_isinstance : bootBuiltins "isinstance" = some (.builtin "isinstance") := by decide +kernel
theorem bt_len : bootBuiltins "len" = some (.builtin "len") := by decide +kernel
theorem bt_list : bootBuiltins "list" = some (.type "list") := by decide +kernel
theorem bt_max : bootBuiltins "max" = some (.builtin "max") := by decide +kernel
theorem bt_min : bootBuiltins "min" = some (.builtin "min") := by decide +kernel
theorem bt_range : bootBuiltins "range" = some (.type "range") := by decide +kernel
theorem bt_repr : bootBuiltins "repr" = some (.builtin "repr") := by decide +kernel
theorem bt_sorted : bootBuiltins "sorted" = some (.builtin "sorted") := by decide +kernel
theorem bt_tuple : bootBuiltins "tuple" = some (.type "tuple") := by decide +kernel
/-- what stands behind the top -/
structure Txt (K : PySem.W.Frag) (mg : Str → Option Value) : Prop where
  d_is_integer : Lw.DefAt K mg "is_integer" s_is_integer
  d_is_between : Lw.DefAt K mg "is_between" s_is_between
  d_is_number : Lw.DefAt K mg "is_number" s_is_number
  d_is_rect : Lw.DefAt K mg "is_rect" s_is_rect
  d_check_rect : Lw.DefAt K mg "check_rect" s_check_rect
  d_overlap : Lw.DefAt K mg "overlap" s_overlap
  d_common : Lw.DefAt K mg "common" s_common
  d_law_cell : Lw.DefAt K mg "_law_cell" s_law_cell
  d_law_pool : Lw.DefAt K mg "_law_pool" s_law_pool
  d_law_draw : Lw.DefAt K mg "_law_draw" s_law_draw
  d_law_box : Lw.DefAt K mg "_law_box" s_law_box
  d_law_spots : Lw.DefAt K mg "_law_spots" s_law_spots
  d_law_due : Lw.DefAt K mg "_law_due" s_law_due
  d_law_caught : Lw.DefAt K mg "_law_caught" s_law_caught
  d_law_refused_right : Lw.DefAt K mg "_law_refused_right" s_law_refused_right
  d_law_right : Lw.DefAt K mg "_law_right" s_law_right
  d_law : Lw.DefAt K mg "law" s_law
  b_ArithmeticError : mg "ArithmeticError" = none
  b_LookupError : mg "LookupError" = none
  b_ValueError : mg "ValueError" = none
  b_abs : mg "abs" = none
  b_all : mg "all" = none
  b_bool : mg "bool" = none
  b_divmod : mg "divmod" = none
  b_int : mg "int" = none
  b_isinstance : mg "isinstance" = none
  b_len : mg "len" = none
  b_list : mg "list" = none
  b_max : mg "max" = none
  b_min : mg "min" = none
  b_range : mg "range" = none
  b_repr : mg "repr" = none
  b_sorted : mg "sorted" = none
  b_tuple : mg "tuple" = none
  x_InvalidRect : Lw.ClsAt K mg "InvalidRect" "InvalidRect.__init__" s_InvalidRect___init__
  e_InvalidRect : Lw.ErrAt K mg "InvalidRect" "FormError" "StateError" "LimitError"
  k_InvalidRect_InvalidRect : Lw.AskC K mg "InvalidRect" "InvalidRect" true
  k_InvalidRect_InvalidNumber : Lw.AskC K mg "InvalidRect" "InvalidNumber" false
  k_InvalidRect_InvalidColour : Lw.AskC K mg "InvalidRect" "InvalidColour" false
  k_InvalidRect_StateError : Lw.AskC K mg "InvalidRect" "StateError" false
  kt_InvalidRect_ValueError : Lw.AskT K mg "InvalidRect" "ValueError" true
  g_MOST_SIZE : ∃ u, mg "MOST_SIZE" = some u ∧ RelV (.int 1000000000000) u

end K02
namespace K02
open PySem PySem.Spec PyProof.Rows L2 Evl Lw
section
variable {P : Program} {w : World} {K : PySem.W.Frag} {mg : Str → Option Value} {base : Heap}
theorem c_law_draw (T : Txt K mg) : Cl P w K mg base CX0 1 "_law_draw" s_law_draw ["_law_pool_here", "_law_many"] spDraw := by
  refine Cl.pool (cl_of (sp := spDraw1) (k := 0) T.d_law_draw sc_law_draw (fun vs H Q E h => ?_) (fun f cdv A outer s H vs Q E hr h => ?_)) spDraw_of
  · obtain ⟨p, m, a, b, c, rfl, _⟩ := h
    rfl
  · obtain ⟨p, m, a, b, c, rfl, hp, h0, h1, q⟩ := h
    have nd := sc_law_draw.nd
    refine ⟨_, (pss_cons (ps_asg (pe_op op_add (pe_ix ix_seq (pv 0) pe_int (fun _ _ => rfl)) pe_int) (pg_sub (pv 0) pe_int set_list))
      (pss_cons (ps_set (i := 2) nd rfl (Or.inl rfl) (pe_ix ix_seq (pv 0) pe_int (fun _ _ => rfl)))
      (pss_cons (ps_asg (pe_op op_mod (pe_op op_add (pe_op op_add (pe_op op_mul (pv 2) (pe_op op_add (pe_op op_mod (pv 2) pe_int) pe_int)) (pe_op op_mul pe_int (pe_ix ix_seq (pv 0) pe_int (fun _ _ => rfl)))) pe_int) pe_int) (pg_sub (pv 0) pe_int set_list))
      (pss_cons (ps_if (pt_cmpR op_gt (pe_ix ix_seq (pv 0) pe_int (fun _ _ => rfl)) pe_int (nomark _)) (pss_cons (ps_asg (pe_callB (call_divmodW) (by rfl) T.b_divmod bt_divmod (pa_cons (pe_ix ix_seq (pv 0) pe_int (fun _ _ => rfl)) (pa_cons (pv 1) pa_nil))) (pg_tup rfl (pgs_cons (pg_sub (pv 0) pe_int set_list) (pgs_cons (pg_name (i := 3) nd rfl (Or.inl rfl)) pgs_nil))))
      (pss_one (ps_ret (pv 3)))) pss_nil)
      (pss_one (ps_ret (pe_op op_mod (pe_op op_fdiv (pe_ix ix_seq (pv 0) pe_int (fun _ _ => rfl)) pe_int) (pv 1)))))))), ?_⟩
    repeat fail "st"
    refine ifD (fun hb => ?_) (fun hb => ?_)
    · repeat fail "st"
      refine ⟨cdivp h0 h1, fun t ht => ?_⟩
      have np : p ≠ t := ne_of_none upd_same ht
      repeat fail "st"
      exact q _ _ _ _ _ (But.mut (But.new (But.mut (But.mut But.refl)) ht)) upd_same (Int.emod_nonneg _ (by omega)) (Int.emod_lt_of_pos _ h0)
    · repeat fail "st"
      exact q _ _ _ _ _ (But.mut (But.mut But.refl)) upd_same (Int.emod_nonneg _ (by omega)) (Int.emod_lt_of_pos _ h0)
theorem c_law_pool (T : Txt K mg) : Cl P w K mg base CX0 1 "_law_pool" s_law_pool ["_law_cell_here"] spPool := by
  refine Cl.newpool (cl_of (sp := spPool1) (k := 0) T.d_law_pool sc_law_pool (fun vs H Q E h => ?_) (fun f cdv A outer s H vs Q E hr h => ?_)) spPool_of
  · obtain ⟨i, rfl, _⟩ := h
    rfl
  · obtain ⟨i, rfl, q⟩ := h
    have nd := sc_law_pool.nd
    refine ⟨_, (pss_cons (ps_set (i := 1) nd rfl (Or.inl rfl) (pe_ifExp (PW.pt (pw_or (pt_cmpR op_lt (pv 0) pe_int (nomark _)) (pw_or1 (pt_cmpR op_ge (pv 0) (pe_op op_pow pe_int pe_int) (nomark _))))) (pe_callB (call_abs) (by rfl) T.b_abs bt_abs (pa_cons (pv 0) pa_nil)) pe_int))
      (pss_one (ps_ret (pe_lst (pa_cons (pe_op op_mod (pv 0) pe_int) (pa_cons (pv 1) (pa_cons pe_int pa_nil))))))), ?_⟩
    repeat fail "st"
    refine ifD (fun hb => ?_) (fun hb => ?_)
    · repeat fail "st"
      refine iteT (B := True) ?_
      repeat fail "st"
      exact fun t ht => q t _ _ _ _ ht upd_same (Ex.new ht)
    · repeat fail "st"
      refine ifD (fun hb => ?_) (fun hb => ?_)
      · repeat fail "st"

        exact fun t ht => q t _ _ _ _ ht upd_same (Ex.new ht)
      · repeat fail "st"
        exact fun t ht => q t _ _ _ _ ht upd_same (Ex.new ht)
theorem c_law_cell (T : Txt K mg) : Cl P w K mg base CX0 1 "_law_cell" s_law_cell ["_law_script", "_law_k"] (spCell K) := by
  refine cl_of (k := 0) T.d_law_cell sc_law_cell (fun vs H Q E h => ?_) (fun f cdv A outer s H vs Q E hr h => ?_)
  · obtain ⟨a, ns, i, rfl, _⟩ := h
    rfl
  · obtain ⟨a, ns, i, rfl, hS, hl, h0, h1, q⟩ := h
    have nd := sc_law_cell.nd
    refine ⟨_, (pss_cons (ps_if (pt_cmpR op_lt (pv 1) (pe_callB (call_len) (by rfl) T.b_len bt_len (pa_cons (pv 0) pa_nil)) (nomark _)) (pss_one (ps_ret (pe_ix ix_seq (pv 0) (pv 1) (fun _ _ => rfl)))) pss_nil)
      (pss_cons (ps_set (i := 2) nd rfl (Or.inl rfl) (pe_op op_mod (pe_op op_mul pe_int (pe_op op_add (pe_op op_add (pe_op op_mul (pv 1) (pv 1)) (pe_op op_mul pe_int (pv 1))) pe_int)) pe_int))
      (pss_cons (ps_for PassesOwn.never rfl (pi_list (pe_slice sl_list (pv 0) po_none (po_some pe_int))) (pg_name (i := 3) nd rfl (Or.inl rfl)) (pss_one (ps_set (i := 2) nd rfl (Or.inl rfl) (pe_op op_mod (pe_op op_add (pe_op op_mul (pv 2) pe_int) (pv 3)) pe_int))))
      (pss_one (ps_ret (pv 2)))))), ?_⟩
    repeat fail "st"
    refine ifD (fun hb => ?_) (fun hb => ?_)
    · rw [List.length_map] at hb
      obtain ⟨j, rfl⟩ := Int.eq_ofNat_of_zero_le h0
      have hj : j < ns.length := by omega
      have ga : atI (ns.map V.int) (j : Int) = some (.int ns[j]) := atI_nat (by rw [List.getElem?_map, List.getElem?_eq_getElem hj]; rfl)
      repeat fail "st"
      exact q _ _ (Ex.refl H)
    · repeat fail "st"
      intro c nc
      refine ⟨_, rfl, ⟨_, SqL.of upd_same⟩, ?_⟩
      refine for_list (xs := cutV (ns.map V.int) none (some 3)) (fun _ σ H' => ∃ (z : Int) (y : Option V), σ = [some (.ref a), some (.int i), some (.int z), y] ∧ H' = upd H c (.lst (cutV (ns.map V.int) none (some 3)))) ⟨_, _, rfl, rfl⟩ ?_ ?_ ?_
      · rintro _ _ _ _ ⟨z, y, rfl, rfl⟩
        exact SqL.of upd_same
      · rintro _ x _ _ hx ⟨z, y, rfl, rfl⟩
        obtain ⟨n, rfl⟩ := cut_int hx
        repeat fail "st"
        rfl
      · rintro _ _ ⟨z, y, rfl, rfl⟩
        repeat fail "st"
        exact q _ _ (Ex.new nc)
end

end K02
namespace K02
open PySem PySem.Spec PyProof.Rows L2 Evl Lw
section
variable {P : Program} {w : World} {K : PySem.W.Frag} {mg : Str → Option Value} {base : Heap}
def spSpots (K : PySem.W.Frag) : Sp := fun vs H Q _ => ∃ l qs bs, SqL K H l (qs.map V.ref) ∧ vs = [.ref l] ∧ Boxes H qs bs ∧ bs.length ≤ 100 ∧ (∀ b ∈ bs, Small b) ∧
  ∀ l' ks ps H', Ex H H' → H' l' = some (.lst (ks.map V.ref)) → Rows H' ks ps → ps.Pairwise Lex → (∀ p, p ∈ ps ↔ ∃ b ∈ bs, InBox b p) → ps.length ≤ 5000 → Q (.ref l') H'
theorem c_law_spots (T : Txt K mg) : Cl P w K mg base CX0 1 "_law_spots" s_law_spots ["_law_some"] (spSpots K) := by
  refine cl_of (k := 0) T.d_law_spots sc_law_spots (fun vs H Q E h => ?_) (fun f cdv A outer s H vs Q E hr h => ?_)
  · obtain ⟨l, qs, bs, _, rfl, _⟩ := h
    rfl
  · obtain ⟨l, qs, bs, hl, rfl, hb, hn, hs, q⟩ := h
    have nd := sc_law_spots.nd
    refine ⟨_, (pss_cons (ps_set (i := 1) nd rfl (Or.inl rfl) pe_dnewT)
      (pss_cons (ps_for PassesOwn.never rfl (pi_list (pv 0)) (pg_tup rfl (pgs_cons (pg_name (i := 2) nd rfl (Or.inl rfl)) (pgs_cons (pg_name (i := 3) nd rfl (Or.inl rfl)) (pgs_cons (pg_name (i := 4) nd rfl (Or.inl rfl)) (pgs_cons (pg_name (i := 5) nd rfl (Or.inl rfl)) pgs_nil))))) (pss_one (ps_for PassesOwn.never rfl (pi_range1 (by rfl) T.b_range (pa_cons (pe_op op_mul (pv 4) (pv 5)) pa_nil)) (pg_name (i := 6) nd rfl (Or.inl rfl)) (pss_one (ps_asg pe_bl (pg_sub (pv 1) (pe_tup (pa_cons (pe_op op_add (pv 2) (pe_op op_mod (pv 6) (pv 4))) (pa_cons (pe_op op_add (pv 3) (pe_op op_fdiv (pv 6) (pv 4))) pa_nil))) (set_dict (Lw.u1 hr.units))))))))
      (pss_one (ps_ret (pe_callB (Lw.cr_sortedDP rfl) (by rfl) T.b_sorted bt_sorted (pa_cons (pv 1) pa_nil)))))), ?_⟩
    repeat fail "st"
    intro d n_d
    generalize hh : upd _ d _ = H_d
    have e_d := newEx hh n_d
    have h_d := newAt hh
    clear hh
    repeat fail "st"
    refine for_list (xs := qs.map V.ref) (fun i σ H' => ∃ (y1 y2 y3 y4 y5 : Option V) (kvs : List (List Key × V)) (ps : List (Int × Int)), σ = [some (.ref l), some (.ref d), y1, y2, y3, y4, y5] ∧ Ex H H' ∧ H' d = some (.dT kvs) ∧ kvs.map (·.1) = ps.map keyP ∧ ps.Nodup ∧ (∀ p, p ∈ ps ↔ ∃ b ∈ bs.take i, InBox b p) ∧ ps.length ≤ 50 * i) ?_ ?_ ?_ ?_
    · exact ⟨_, _, _, _, _, [], [], rfl, e_d, h_d, rfl, .nil, fun p => by simp, Nat.le_refl _⟩
    · rintro i _ H' _ ⟨y1, y2, y3, y4, y5, kvs, ps, rfl, e, _⟩
      exact ex_l e hl
    · rintro i x _ H1 hx ⟨y1, y2, y3, y4, y5, kvs, ps, rfl, e1, hd1, hk1, nd1, m1, le1⟩
      obtain ⟨r, ⟨bl, bt, bw, bh⟩, rfl, hbi, rb⟩ := boxes_at (hb.up e1) hx
      obtain ⟨w0, w7, h0, h7⟩ := hs _ (List.mem_of_getElem? hbi)
      replace rb : H1 r = some (.tup [.int bl, .int bt, .int bw, .int bh]) := rb
      simp only at w0 w7 h0 h7
      have ib : i < 100 := by
        have := (List.getElem?_eq_some_iff.mp hbi).1
        omega
      repeat fail "st"
      have nn : (bw * bh).toNat ≤ 49 := by
        have a : bw * bh ≤ 7 * bh := Int.mul_le_mul_of_nonneg_right w7 h0
        omega
      have le2 : bw * bh ≤ 49 := by
        have a : bw * bh ≤ 7 * bh := Int.mul_le_mul_of_nonneg_right w7 h0
        omega
      have ge2 : 0 ≤ bw * bh := Int.mul_nonneg w0 h0
      repeat fail "st"
      refine for_range (fun j σ H' => ∃ (y5 : Option V) (kvs : List (List Key × V)) (ps : List (Int × Int)), σ = [some (.ref l), some (.ref d), some (.int bl), some (.int bt), some (.int bw), some (.int bh), y5] ∧ Ex H H' ∧ H' d = some (.dT kvs) ∧ kvs.map (·.1) = ps.map keyP ∧ ps.Nodup ∧ (∀ p, p ∈ ps ↔ (∃ b ∈ bs.take i, InBox b p) ∨ ∃ s : Nat, s < j ∧ p = (bl + (s : Int) % bw, bt + (s : Int) / bw)) ∧ ps.length ≤ 50 * i + j) ?_ ?_ ?_
      · exact ⟨_, kvs, ps, rfl, e1, hd1, hk1, nd1, fun p => by rw [m1]; simp, le1⟩
      · rintro j _ H2 hj ⟨y5, kvs2, ps2, rfl, e2, hd2, hk2, nd2, m2, lq2⟩
        have wp : 0 < bw := by
          rcases Int.lt_or_eq_of_le w0 with c | c
          · exact c
          · rw [← c, Int.zero_mul] at hj
            exact absurd hj (by simp)
        have wn : bw ≠ 0 := Int.ne_of_gt wp
        repeat fail "st"
        intro t n_t
        generalize hh : upd _ t _ = H_t
        have e_t := newEx hh n_t
        have h_t := newAt hh
        clear hh
        have hd3 : H_t d = some (.dT kvs2) := e_t _ _ hd2
        have lk : kvs2.length = ps2.length := by
          have := congrArg List.length hk2
          rwa [List.length_map, List.length_map] at this
        obtain ⟨ps3, hk3, nd3, m3, l3⟩ := put_pt (p := (bl + (0 + (j : Int)) % bw, bt + (0 + (j : Int)) / bw)) (v := .bl true) hk2 nd2
        refine ⟨d, _, rfl, .inr ⟨kvs2, keyP (bl + (0 + (j : Int)) % bw, bt + (0 + (j : Int)) / bw), t, hd3, rfl, h_t, Nat.lt_of_lt_of_le (show _ < 6000 by omega) (by decide), rfl⟩, ?_⟩
        refine ⟨_, _, ps3, rfl, Ex.mut (e2.trans e_t) n_d, upd_same, hk3, nd3, fun p => ?_, by omega⟩
        rw [m3, m2, Int.zero_add]
        constructor
        · rintro ((h | ⟨s, hs, h⟩) | h)
          · exact .inl h
          · exact .inr ⟨s, by omega, h⟩
          · exact .inr ⟨j, by omega, h⟩
        · rintro (h | ⟨s, hs, h⟩)
          · exact .inl (.inl h)
          · by_cases c : s < j
            · exact .inl (.inr ⟨s, c, h⟩)
            · obtain rfl : s = j := by omega
              exact .inr h
      · rintro _ H2 ⟨y5, kvs2, ps2, rfl, e2, hd2, hk2, nd2, m2, lq2⟩
        refine ⟨_, _, _, _, _, kvs2, ps2, rfl, e2, hd2, hk2, nd2, fun p => ?_, by omega⟩
        rw [m2, List.take_add_one, hbi]
        constructor
        · rintro (⟨b, hb, h⟩ | h)
          · exact ⟨b, List.mem_append_left _ hb, h⟩
          · exact ⟨_, List.mem_append_right _ (by simp), (box_spots w0 h0).mpr h⟩
        · rintro ⟨b, hb, h⟩
          rcases List.mem_append.mp hb with hb | hb
          · exact .inl ⟨b, hb, h⟩
          · obtain rfl : b = (bl, bt, bw, bh) := by simpa using hb
            exact .inr ((box_spots w0 h0).mp h)
    · rintro _ H1 ⟨y1, y2, y3, y4, y5, kvs, ps, rfl, e1, hd1, hk1, nd1, m1, le1⟩
      rw [List.length_map, Paired.length hb, List.take_length] at m1
      rw [List.length_map, Paired.length hb] at le1
      repeat fail "st"
      refine ⟨d, kvs, ps, .inl hd1, rfl, hk1, fun H2 l' ks rs e2 hl2 r2 p2 s2 => ?_⟩
      exact q l' ks rs H2 (e1.trans e2) hl2 r2 (lex_of s2 (p2.nodup_iff.mpr nd1)) (fun p => (p2.mem_iff).trans (m1 p)) (by rw [p2.length_eq]; omega)
end

end K02
namespace K02
open PySem PySem.Spec PyProof.Rows L2 Evl Lw
section
variable {P : Program} {w : World} {K : PySem.W.Frag} {mg : Str → Option Value} {base : Heap}
theorem c_is_integer (T : Txt K mg) : Cl P w K mg base CX0 1 "is_integer" s_is_integer ["value"] spInteger := by
  refine cl_of (k := 0) T.d_is_integer sc_is_integer (fun vs H Q E h => ?_) (fun f cdv A outer s H vs Q E hr h => ?_)
  · obtain ⟨v, n, rfl, _⟩ := h
    rfl
  · obtain ⟨v, n, rfl, k, q⟩ := h
    have nd := sc_is_integer.nd
    refine ⟨_, (pss_one (ps_ret (pe_and (pe_callB (call_isi) (by rfl) T.b_isinstance bt_isinstance (pa_cons (pv 0) (pa_cons (pe_bltn (v := .ty "int") (by rfl) T.b_int bt_int rfl) pa_nil))) (pe_one (pe_not (pe_callB (call_isi) (by rfl) T.b_isinstance bt_isinstance (pa_cons (pv 0) (pa_cons (pe_bltn (v := .ty "bool") (by rfl) T.b_bool bt_bool rfl) pa_nil)))))))), ?_⟩
    repeat fail "st"
    refine ifB (fun h => ?_) (fun h => ?_)
    · repeat fail "st"
      rw [int_yes k h] at q
      exact q
    · rw [int_no h] at q
      exact q
theorem c_is_between (T : Txt K mg) : Cl P w K mg base CX0 2 "is_between" s_is_between ["value", "low", "high"] spBetween := by
  refine cl_of (k := 1) T.d_is_between sc_is_between (fun vs H Q E h => ?_) (fun f cdv A outer s H vs Q E hr h => ?_)
  · obtain ⟨v, lo, hi, n, rfl, _⟩ := h
    rfl
  · obtain ⟨v, lo, hi, n, rfl, k, q⟩ := h
    have nd := sc_is_between.nd
    refine ⟨_, (pss_one (ps_ret (pe_and (Lw.pe_cl (c_is_integer T) b_is_integer hr (by decide) (by rfl) pass0 (pa_cons (pv 0) pa_nil)) (pe_one (pe_chain op_le op_le (pv 1) (pv 0) (pv 2)))))), ?_⟩
    repeat fail "st"
    refine ifB (fun h => ?_) (fun h => ?_)
    · obtain ⟨i, rfl⟩ := k.of_int h
      repeat fail "st"
      refine ifD (fun h1 => ?_) (fun h1 => ?_)
      · repeat fail "st"
        rw [inB, decide_eq_true h1] at q
        exact q
      · rw [inB, decide_eq_false h1] at q
        exact q
    · rw [inB_no k h] at q
      exact q
theorem c_is_number (T : Txt K mg) : Cl P w K mg base CX0 3 "is_number" s_is_number ["value"] spNumber := by
  refine cl_of (k := 2) T.d_is_number sc_is_number (fun vs H Q E h => ?_) (fun f cdv A outer s H vs Q E hr h => ?_)
  · obtain ⟨v, n, rfl, _⟩ := h
    rfl
  · obtain ⟨v, n, rfl, k, q⟩ := h
    have nd := sc_is_number.nd
    refine ⟨_, (pss_one (ps_ret (Lw.pe_cl (c_is_between T) b_is_between hr (by decide) (by rfl) pass0 (pa_cons (pv 0) (pa_cons (pe_un un_neg (C8.pe_gc (by rfl) T.g_MOST_SIZE)) (pa_cons (C8.pe_gc (by rfl) T.g_MOST_SIZE) pa_nil)))))), ?_⟩
    repeat fail "st"
    exact q
theorem c_is_rect (T : Txt K mg) : Cl P w K mg base CX0 4 "is_rect" s_is_rect ["value"] spRect := by
  refine cl_of (k := 3) T.d_is_rect sc_is_rect (fun vs H Q E h => ?_) (fun f cdv A outer s H vs Q E hr h => ?_)
  · obtain ⟨v, n, rfl, _⟩ := h
    rfl
  · obtain ⟨v, n, rfl, k, q⟩ := h
    have nd := sc_is_rect.nd
    refine ⟨_, (pss_cons (ps_if (PW.pt (pw_or (pt_not (pt_val (pe_callB (call_isi) (by rfl) T.b_isinstance bt_isinstance (pa_cons (pv 0) (pa_cons (pe_bltn (v := .ty "tuple") (by rfl) T.b_tuple bt_tuple rfl) pa_nil))))) (pw_or (pt_cmpR op_ne (pe_callB (call_len) (by rfl) T.b_len bt_len (pa_cons (pv 0) pa_nil)) pe_int (nomark _)) (pw_or (pt_not (pt_val (Lw.pe_cl (c_is_number T) b_is_number hr (by decide) (by rfl) pass0 (pa_cons (pe_ix ix_seq (pv 0) pe_int (fun _ _ => rfl)) pa_nil)))) (pw_or1 (pt_not (pt_val (Lw.pe_cl (c_is_number T) b_is_number hr (by decide) (by rfl) pass0 (pa_cons (pe_ix ix_seq (pv 0) pe_int (fun _ _ => rfl)) pa_nil))))))))) (pss_one (ps_ret pe_bl)) pss_nil)
      (pss_one (ps_ret (pe_and (Lw.pe_cl (c_is_between T) b_is_between hr (by decide) (by rfl) pass0 (pa_cons (pe_ix ix_seq (pv 0) pe_int (fun _ _ => rfl)) (pa_cons pe_int (pa_cons (C8.pe_gc (by rfl) T.g_MOST_SIZE) pa_nil)))) (pe_one (Lw.pe_cl (c_is_between T) b_is_between hr (by decide) (by rfl) pass0 (pa_cons (pe_ix ix_seq (pv 0) pe_int (fun _ _ => rfl)) (pa_cons pe_int (pa_cons (C8.pe_gc (by rfl) T.g_MOST_SIZE) pa_nil))))))))), ?_⟩
    cases k with
    | other k h =>
      repeat fail "st"
      refine ifB (fun h => ?_) (fun h1 => ?_)
      · exact q
      · rw [isK_ne h (by decide)] at h1
        cases h1
    | tup h ks =>
      repeat fail "st"
      refine ifN (fun hl => ?_) (fun hl => ?_)
      · rw [rectL_len (fun z => hl (lenN.mpr z))] at q
        exact q
      · obtain ⟨a, b, c, d, rfl⟩ := four (lenN.mp hl)
        obtain ⟨na, ka⟩ := ks a (by simp)
        obtain ⟨nb, kb⟩ := ks b (by simp)
        obtain ⟨nc, kc⟩ := ks c (by simp)
        obtain ⟨ne, ke⟩ := ks d (by simp)
        repeat fail "st"
        refine ifNt (fun ha => ?_) (fun ha => ?_)
        · rw [show rectL [a, b, c, d] = false by simp [rectL, ha]] at q
          exact q
        repeat fail "st"
        refine ifNt (fun hb => ?_) (fun hb => ?_)
        · rw [show rectL [a, b, c, d] = false by simp [rectL, hb]] at q
          exact q
        repeat fail "st"
        refine ifB (fun hc => ?_) (fun hc => ?_)
        · repeat fail "st"
          rw [show rectL [a, b, c, d] = Lw.inB 0 1000000000000 d by simp [rectL, ha, hb, hc]] at q
          exact q
        · rw [show rectL [a, b, c, d] = false by simp [rectL, hc]] at q
          exact q
end

end K02
namespace K02
open PySem PySem.Spec PyProof.Rows L2 Evl Lw
section
variable {P : Program} {w : World} {K : PySem.W.Frag} {mg : Str → Option Value} {base : Heap}
def spCkRect : Sp := fun vs H Q _ => ∃ q b, BoxAt H q b ∧ vs = [.ref q] ∧ GoodBox b ∧ Q .non H
theorem c_check_rect (T : Txt K mg) : Cl P w K mg base CX0 5 "check_rect" s_check_rect ["value"] spCkRect := by
  refine cl_of (k := 4) T.d_check_rect sc_check_rect (fun vs H Q E h => ?_) (fun f cdv A outer s H vs Q E hr h => ?_)
  · obtain ⟨r, b, _, rfl, _⟩ := h
    rfl
  · obtain ⟨r, b, hb, rfl, hg, q⟩ := h
    have nd := sc_check_rect.nd
    refine ⟨_, (pss_one (ps_if (pt_not (pt_val (Lw.pe_cl (c_is_rect T) b_is_rect hr (by decide) (by rfl) pass0 (pa_cons (pv 0) pa_nil)))) (pss_one Lw.ps_dead) pss_nil)), ?_⟩
    repeat fail "st"
    refine ⟨_, _, rfl, .tup hb (fun x hx => by (repeat (rcases List.mem_cons.mp hx with rfl | hx; exact ⟨_, .int _⟩)); cases hx), ?_⟩
    rw [rectL_good hg]
    repeat fail "st"
    exact q
def spOverlap : Sp := fun vs H Q _ => ∃ q r a b, BoxAt H q a ∧ BoxAt H r b ∧ vs = [.ref q, .ref r] ∧ ∀ v H', Ex H H' → OvAt H' v (ovl a b) → Q v H'
theorem c_overlap (T : Txt K mg) : Cl P w K mg base CX0 1 "overlap" s_overlap ["rect", "other"] spOverlap := by
  refine cl_of (k := 0) T.d_overlap sc_overlap (fun vs H Q E h => ?_) (fun f cdv A outer s H vs Q E hr h => ?_)
  · obtain ⟨q, r, a, b, _, _, rfl, _⟩ := h
    rfl
  · obtain ⟨q1, r, ⟨a1, a2, a3, a4⟩, ⟨b1, b2, b3, b4⟩, ha, hb, rfl, q⟩ := h
    replace ha : H q1 = some (.tup [.int a1, .int a2, .int a3, .int a4]) := ha
    replace hb : H r = some (.tup [.int b1, .int b2, .int b3, .int b4]) := hb
    have nd := sc_overlap.nd
    refine ⟨_, (pss_cons (ps_par (i := 2) (j := 3) rfl nd rfl rfl (by decide) rfl rfl (pa_cons (pe_callB (call_max2 rfl) (by rfl) T.b_max bt_max (pa_cons (pe_ix ix_seq (pv 0) pe_int (fun _ _ => rfl)) (pa_cons (pe_ix ix_seq (pv 1) pe_int (fun _ _ => rfl)) pa_nil))) (pa_cons (pe_callB (call_max2 rfl) (by rfl) T.b_max bt_max (pa_cons (pe_ix ix_seq (pv 0) pe_int (fun _ _ => rfl)) (pa_cons (pe_ix ix_seq (pv 1) pe_int (fun _ _ => rfl)) pa_nil))) pa_nil)) (by rfl))
      (pss_cons (ps_set (i := 4) nd rfl (Or.inl rfl) (pe_callB (call_min2 rfl) (by rfl) T.b_min bt_min (pa_cons (pe_op op_add (pe_ix ix_seq (pv 0) pe_int (fun _ _ => rfl)) (pe_ix ix_seq (pv 0) pe_int (fun _ _ => rfl))) (pa_cons (pe_op op_add (pe_ix ix_seq (pv 1) pe_int (fun _ _ => rfl)) (pe_ix ix_seq (pv 1) pe_int (fun _ _ => rfl))) pa_nil))))
      (pss_cons (ps_set (i := 5) nd rfl (Or.inl rfl) (pe_callB (call_min2 rfl) (by rfl) T.b_min bt_min (pa_cons (pe_op op_add (pe_ix ix_seq (pv 0) pe_int (fun _ _ => rfl)) (pe_ix ix_seq (pv 0) pe_int (fun _ _ => rfl))) (pa_cons (pe_op op_add (pe_ix ix_seq (pv 1) pe_int (fun _ _ => rfl)) (pe_ix ix_seq (pv 1) pe_int (fun _ _ => rfl))) pa_nil))))
      (pss_cons (ps_if (PW.pt (pw_or (pt_cmpR op_le (pv 4) (pv 2) (nomark _)) (pw_or1 (pt_cmpR op_le (pv 5) (pv 3) (nomark _))))) (pss_one (ps_ret pe_non)) pss_nil)
      (pss_one (ps_ret (pe_tup (pa_cons (pv 2) (pa_cons (pv 3) (pa_cons (pe_op op_sub (pv 4) (pv 2)) (pa_cons (pe_op op_sub (pv 5) (pv 3)) pa_nil))))))))))), ?_⟩
    repeat fail "st"
    refine ifD (fun h1 => ?_) (fun h1 => ?_)
    · rw [mx_eq, mn_eq] at h1
      refine q _ _ (Ex.refl _) ?_
      rw [show ovl (a1, a2, a3, a4) (b1, b2, b3, b4) = none from if_pos (.inl h1)]
      exact rfl
    repeat fail "st"
    refine ifD (fun h2 => ?_) (fun h2 => ?_)
    · rw [mx_eq, mn_eq] at h2
      refine q _ _ (Ex.refl _) ?_
      rw [show ovl (a1, a2, a3, a4) (b1, b2, b3, b4) = none from if_pos (.inr h2)]
      exact rfl
    repeat fail "st"
    rw [mx_eq, mn_eq] at h1 h2
    intro t n_t
    generalize hh : upd _ t _ = H_t
    have e_t := newEx hh n_t
    have h_t := newAt hh
    clear hh
    rw [mx_eq, mx_eq, mn_eq, mn_eq] at h_t
    refine q _ _ e_t ?_
    rw [show ovl (a1, a2, a3, a4) (b1, b2, b3, b4) = some _ from if_neg fun z => z.elim h1 h2]
    exact ⟨t, rfl, h_t⟩
def spCommon : Sp := fun vs H Q _ => ∃ q r a b, BoxAt H q a ∧ BoxAt H r b ∧ vs = [.ref q, .ref r] ∧ GoodBox a ∧ GoodBox b ∧ ∀ v H', Ex H H' → OvAt H' v (ovl a b) → Q v H'
theorem c_common (T : Txt K mg) : Cl P w K mg base CX0 6 "common" s_common ["rect", "other_rect"] spCommon := by
  refine cl_of (k := 5) T.d_common sc_common (fun vs H Q E h => ?_) (fun f cdv A outer s H vs Q E hr h => ?_)
  · obtain ⟨q, r, a, b, _, _, rfl, _⟩ := h
    rfl
  · obtain ⟨q1, r, a, b, ha, hb, rfl, ga, gb, q⟩ := h
    have nd := sc_common.nd
    refine ⟨_, (pss_cons (ps_expr (Lw.pe_cl (c_check_rect T) b_check_rect hr (by decide) (by rfl) pass0 (pa_cons (pv 0) pa_nil)))
      (pss_cons (ps_expr (Lw.pe_cl (c_check_rect T) b_check_rect hr (by decide) (by rfl) pass0 (pa_cons (pv 1) pa_nil)))
      (pss_one (ps_ret (Lw.pe_cl (c_overlap T) b_overlap hr (by decide) (by rfl) pass0 (pa_cons (pv 0) (pa_cons (pv 1) pa_nil))))))), ?_⟩
    repeat fail "st"
    refine ⟨_, _, ha, rfl, ga, ?_⟩
    repeat fail "st"
    refine ⟨_, _, hb, rfl, gb, ?_⟩
    repeat fail "st"
    exact ⟨_, _, _, _, ha, hb, rfl, q⟩
end

end K02
namespace K02
open PySem PySem.Spec PyProof.Rows L2 Evl Lw
section
variable {P : Program} {w : World} {K : PySem.W.Frag} {mg : Str → Option Value} {base : Heap}
def spBox : Sp := fun vs H Q _ => ∃ p, vs = [.ref p] ∧ Pool H p ∧ ∀ t b H', Ex H H' → BoxAt H' t b → SmallBox b → Q (.ref t) H'
theorem c_law_box (T : Txt K mg) : Cl P w K mg base CX0 2 "_law_box" s_law_box ["_law_pool_here"] spBox := by
  refine cl_of (k := 1) T.d_law_box sc_law_box (fun vs H Q E h => ?_) (fun f cdv A outer s H vs Q E hr h => ?_)
  · obtain ⟨p, rfl, _⟩ := h
    rfl
  · obtain ⟨p, rfl, hp, q⟩ := h
    have nd := sc_law_box.nd
    refine ⟨_, (pss_one (ps_ret (pe_tup (pa_cons (pe_op op_sub (Lw.pe_cl (c_law_draw T) b_law_draw hr (by decide) (by rfl) pass0 (pa_cons (pv 0) (pa_cons pe_int pa_nil))) pe_int) (pa_cons (pe_op op_sub (Lw.pe_cl (c_law_draw T) b_law_draw hr (by decide) (by rfl) pass0 (pa_cons (pv 0) (pa_cons pe_int pa_nil))) pe_int) (pa_cons (Lw.pe_cl (c_law_draw T) b_law_draw hr (by decide) (by rfl) pass0 (pa_cons (pv 0) (pa_cons pe_int pa_nil))) (pa_cons (Lw.pe_cl (c_law_draw T) b_law_draw hr (by decide) (by rfl) pass0 (pa_cons (pv 0) (pa_cons pe_int pa_nil))) pa_nil))))))), ?_⟩
    repeat fail "st"
    intro d1 H1 e1 d10 d11
    repeat fail "st"
    intro d2 H2 e2 d20 d21
    repeat fail "st"
    intro d3 H3 e3 d30 d31
    repeat fail "st"
    intro d4 H4 e4 d40 d41
    repeat fail "st"
    intro t n_t
    generalize hh : upd _ t _ = H_t
    have e_t := newEx hh n_t
    have h_t := newAt hh
    clear hh
    exact q t (d1 - 4, d2 - 4, d3, d4) _ (e1.trans (e2.trans (e3.trans (e4.trans e_t)))) h_t ⟨⟨by show _ ≤ d1 - 4; omega, by show d1 - 4 ≤ _; omega⟩, ⟨by show _ ≤ d2 - 4; omega, by show d2 - 4 ≤ _; omega⟩, ⟨d30, by show d3 ≤ _; omega⟩, d40, by show d4 ≤ _; omega⟩
def spDue : Sp := fun vs H Q _ => ∃ q r a b, BoxAt H q a ∧ BoxAt H r b ∧ vs = [.ref q, .ref r] ∧ SmallBox a ∧ SmallBox b ∧ ∀ v H', Ex H H' → OvAt H' v (ovl a b) → Q v H'
theorem c_law_due (T : Txt K mg) : Cl P w K mg base CX0 2 "_law_due" s_law_due ["_law_one", "_law_other"] spDue := by
  refine cl_of (k := 1) T.d_law_due sc_law_due (fun vs H Q E h => ?_) (fun f cdv A outer s H vs Q E hr h => ?_)
  · obtain ⟨q, r, a, b, _, _, rfl, _⟩ := h
    rfl
  · obtain ⟨q1, r1, a, b, ha, hb, rfl, sa, sb, q⟩ := h
    have nd := sc_law_due.nd
    refine ⟨_, (pss_cons (ps_setLc (own := [("_law_spot", 5)]) (g := gName 5) (i := 2) rfl nd rfl rfl (sw_true rfl rfl rfl (by decide +kernel)) (pi_list (Lw.pe_cl (c_law_spots T) b_law_spots hr (by decide) (by rfl) pass0 (pa_cons (pe_lst (pa_cons (pv 0) pa_nil)) pa_nil))) (L2.blkOk_by (N := N_law_due) (sc := defScope s_law_due) (by decide +kernel)) (fun _ _ _ _ _ => (pg_name (i := 5) nd rfl (Or.inl rfl))) (fun _ _ _ _ _ => (pts_one (pt_cmpR (op_inD (Lw.u65 hr) : OpR _ _ (rInD K)) (pv 5) (Lw.pe_cl (c_law_spots T) b_law_spots hr (by decide) (by rfl) pass0 (pa_cons (pe_lst (pa_cons (pv 1) pa_nil)) pa_nil)) (by rfl)))) (fun _ _ _ _ _ => (pv 5)))
      (pss_cons (ps_if (pt_cmpR (op_eqD hr.units) (pv 2) (pe_lst pa_nil) (nomark _)) (pss_one (ps_ret pe_non)) pss_nil)
      (pss_cons (ps_par (i := 3) (j := 4) rfl nd rfl rfl (by decide) rfl rfl (pa_cons (pe_callB (cr_min rfl) (by rfl) T.b_min bt_min (pa_cons (pe_lc (own := [("_law_spot", 5)]) (g := gName 5) (tt := tYes) rfl nd (pi_list (pv 2)) (L2.blkOk_by (N := N_law_due) (sc := defScope s_law_due) (by decide +kernel)) (fun _ _ _ _ _ => (pg_name (i := 5) nd rfl (Or.inl rfl))) (fun _ _ _ _ _ => pts_nil) (fun _ _ _ _ _ => (pe_ix (ix_seq : IxR _ (rIx K)) (pv 5) pe_int (fun _ _ => rfl)))) pa_nil)) (pa_cons (pe_callB (cr_min rfl) (by rfl) T.b_min bt_min (pa_cons (pe_lc (own := [("_law_spot", 5)]) (g := gName 5) (tt := tYes) rfl nd (pi_list (pv 2)) (L2.blkOk_by (N := N_law_due) (sc := defScope s_law_due) (by decide +kernel)) (fun _ _ _ _ _ => (pg_name (i := 5) nd rfl (Or.inl rfl))) (fun _ _ _ _ _ => pts_nil) (fun _ _ _ _ _ => (pe_ix (ix_seq : IxR _ (rIx K)) (pv 5) pe_int (fun _ _ => rfl)))) pa_nil)) pa_nil)) (by rfl))
      (pss_one (ps_ret (pe_tup (pa_cons (pv 3) (pa_cons (pv 4) (pa_cons (pe_op op_add (pe_op op_sub (pe_callB (cr_max rfl) (by rfl) T.b_max bt_max (pa_cons (pe_lc (own := [("_law_spot", 5)]) (g := gName 5) (tt := tYes) rfl nd (pi_list (pv 2)) (L2.blkOk_by (N := N_law_due) (sc := defScope s_law_due) (by decide +kernel)) (fun _ _ _ _ _ => (pg_name (i := 5) nd rfl (Or.inl rfl))) (fun _ _ _ _ _ => pts_nil) (fun _ _ _ _ _ => (pe_ix (ix_seq : IxR _ (rIx K)) (pv 5) pe_int (fun _ _ => rfl)))) pa_nil)) (pv 3)) pe_int) (pa_cons (pe_op op_add (pe_op op_sub (pe_callB (cr_max rfl) (by rfl) T.b_max bt_max (pa_cons (pe_lc (own := [("_law_spot", 5)]) (g := gName 5) (tt := tYes) rfl nd (pi_list (pv 2)) (L2.blkOk_by (N := N_law_due) (sc := defScope s_law_due) (by decide +kernel)) (fun _ _ _ _ _ => (pg_name (i := 5) nd rfl (Or.inl rfl))) (fun _ _ _ _ _ => pts_nil) (fun _ _ _ _ _ => (pe_ix (ix_seq : IxR _ (rIx K)) (pv 5) pe_int (fun _ _ => rfl)))) pa_nil)) (pv 4)) pe_int) pa_nil)))))))))), ?_⟩
    repeat fail "st"
    intro l1 n_l1
    generalize hh : upd _ l1 _ = H_l1
    have e_l1 := newEx hh n_l1
    have h_l1 := newAt hh
    clear hh
    repeat fail "st"
    refine ⟨_, [q1], [a], SqL.of h_l1, rfl, .cons (e_l1 _ _ ha) .nil, (by show 1 ≤ 100; decide), one_small sa, fun l2 ks ps H2 e2 hl2 rk lx mm len => ?_⟩
    have lk : ks.length = ps.length := Paired.length rk
    have hb2 := e2 _ _ (e_l1 _ _ hb)
    repeat fail "st"
    intro D hD
    refine lcL (SiftQ b ps) (siftQ_mono _ _) hD (SqL.of hl2) (by rw [List.length_map]; omega) (fun i x hi H' e Q1 Q2 q1 q2 => ?_) (fun H3 os e3 hl3 hD3 hp3 => ?_)
    · obtain ⟨y, p, rfl, _, hpp, rp⟩ := rows_at' rk hi
      have rp' := rp.up e
      have hb3 := e _ _ hb2
      repeat fail "st"
      intro l3 n_l3
      generalize hh : upd _ l3 _ = H_l3
      have e_l3 := newEx hh n_l3
      have h_l3 := newAt hh
      clear hh
      repeat fail "st"
      refine ⟨_, [r1], [b], SqL.of h_l3, rfl, .cons (e_l3 _ _ hb3) .nil, (by show 1 ≤ 100; decide), one_small sb, fun l4 ks4 ps4 H4 e4 hl4 rk4 lx4 mm4 len4 => ?_⟩
      have rp2 := (rp'.up e_l3).up e4
      refine in_pts rp2 (SqL.of hl4) rk4 ?_
      repeat fail "st"
      refine ifD (fun hin => ?_) (fun hin => ?_)
      · repeat fail "st"
        refine q1 _ _ (e_l3.trans e4) ⟨p, hpp, .inl ⟨?_, _, rfl, rp2⟩⟩
        have := (mm4 p).mp hin
        simpa using this
      · refine q2 _ (e_l3.trans e4) ⟨p, hpp, .inr ⟨fun z => hin ((mm4 p).mpr ⟨b, by simp, z⟩), rfl⟩⟩
    · obtain ⟨js, ej, rj⟩ := siftQ_all (fs := ps) (by rw [hl3, List.length_map, lk]) hp3
      rw [ej] at hD3
      have mem : ∀ p, p ∈ ps.filter (fun p => decide (InBox b p)) ↔ InBox a p ∧ InBox b p := fun p => by
        rw [List.mem_filter, mm, decide_eq_true_eq]
        simp
      have lf : (ps.filter fun p => decide (InBox b p)).length ≤ 5000 := Nat.le_trans (List.length_filter_le _ _) len
      generalize ps.filter (fun p => decide (InBox b p)) = fs at *
      have eA := e_l1.trans (e2.trans e3)
      clear hp3 ej hl3
      repeat fail "st"
      intro l5 n_l5
      generalize hh : upd _ l5 _ = H_l5
      have e_l5 := newEx hh n_l5
      have h_l5 := newAt hh
      clear hh
      have hD5 := e_l5 _ _ hD3
      have rj5 := rj.up e_l5
      refine eq_nil (SqL.of hD5) rj5 h_l5 ?_
      repeat fail "st"
      refine ifD (fun hf => ?_) (fun hf => ?_)
      · repeat fail "st"
        refine q _ _ (eA.trans e_l5) ?_
        rw [ovl_none mem hf]
        exact rfl
      have pf : 0 < fs.length := List.length_pos_iff.mpr hf
      repeat fail "st"
      intro D_x hD_x
      refine lcL (All fun i v _ => ∃ p, fs[i]? = some p ∧ v = .int (Prod.fst p)) (all_mono fun _ _ _ _ _ h => h) hD_x (SqL.of hD5) (by rw [List.length_map, rj5.len]; omega) (fun i x hi H' e Q1 Q2 q1 q2 => ?_) (fun H_x os e_x LL_x hE_x hp_x => ?_)
      · obtain ⟨y, p, rfl, _, hpp, rp⟩ := rows_at' rj5 hi
        have rp' := rp.up e
        repeat fail "st"
        exact q1 _ _ (Ex.refl _) ⟨_, rfl, p, hpp, rfl⟩
      obtain ⟨ys, ey, ly, hy⟩ := All.end hp_x
      rw [ey, ints_of_rows (f := Prod.fst) (fs := fs) (by rw [ly, LL_x, List.length_map, rj5.len]) hy] at hE_x
      clear ey ly hy hp_x LL_x
      have HL_x := e_x _ _ hD5
      have RR_x := rj5.up e_x
      refine ⟨_, _, rfl, SqL.of hE_x, by rw [List.length_map]; exact pf, fun x hx lx => ?_⟩
      repeat fail "st"
      intro D_y hD_y
      refine lcL (All fun i v _ => ∃ p, fs[i]? = some p ∧ v = .int (Prod.snd p)) (all_mono fun _ _ _ _ _ h => h) hD_y (SqL.of HL_x) (by rw [List.length_map, RR_x.len]; omega) (fun i x hi H' e Q1 Q2 q1 q2 => ?_) (fun H_y os e_y LL_y hE_y hp_y => ?_)
      · obtain ⟨y, p, rfl, _, hpp, rp⟩ := rows_at' RR_x hi
        have rp' := rp.up e
        repeat fail "st"
        exact q1 _ _ (Ex.refl _) ⟨_, rfl, p, hpp, rfl⟩
      obtain ⟨ys, ey, ly, hy⟩ := All.end hp_y
      rw [ey, ints_of_rows (f := Prod.snd) (fs := fs) (by rw [ly, LL_y, List.length_map, RR_x.len]) hy] at hE_y
      clear ey ly hy hp_y LL_y
      have HL_y := e_y _ _ HL_x
      have RR_y := RR_x.up e_y
      refine ⟨_, _, rfl, SqL.of hE_y, by rw [List.length_map]; exact pf, fun y hy ly => ?_⟩
      repeat fail "st"
      intro D_u hD_u
      refine lcL (All fun i v _ => ∃ p, fs[i]? = some p ∧ v = .int (Prod.fst p)) (all_mono fun _ _ _ _ _ h => h) hD_u (SqL.of HL_y) (by rw [List.length_map, RR_y.len]; omega) (fun i x hi H' e Q1 Q2 q1 q2 => ?_) (fun H_u os e_u LL_u hE_u hp_u => ?_)
      · obtain ⟨y, p, rfl, _, hpp, rp⟩ := rows_at' RR_y hi
        have rp' := rp.up e
        repeat fail "st"
        exact q1 _ _ (Ex.refl _) ⟨_, rfl, p, hpp, rfl⟩
      obtain ⟨ys, ey, ly, hy⟩ := All.end hp_u
      rw [ey, ints_of_rows (f := Prod.fst) (fs := fs) (by rw [ly, LL_u, List.length_map, RR_y.len]) hy] at hE_u
      clear ey ly hy hp_u LL_u
      have HL_u := e_u _ _ HL_y
      have RR_u := RR_y.up e_u
      refine ⟨_, _, rfl, SqL.of hE_u, by rw [List.length_map]; exact pf, fun u hu gu => ?_⟩
      repeat fail "st"
      intro D_z hD_z
      refine lcL (All fun i v _ => ∃ p, fs[i]? = some p ∧ v = .int (Prod.snd p)) (all_mono fun _ _ _ _ _ h => h) hD_z (SqL.of HL_u) (by rw [List.length_map, RR_u.len]; omega) (fun i x hi H' e Q1 Q2 q1 q2 => ?_) (fun H_z os e_z LL_z hE_z hp_z => ?_)
      · obtain ⟨y, p, rfl, _, hpp, rp⟩ := rows_at' RR_u hi
        have rp' := rp.up e
        repeat fail "st"
        exact q1 _ _ (Ex.refl _) ⟨_, rfl, p, hpp, rfl⟩
      obtain ⟨ys, ey, ly, hy⟩ := All.end hp_z
      rw [ey, ints_of_rows (f := Prod.snd) (fs := fs) (by rw [ly, LL_z, List.length_map, RR_u.len]) hy] at hE_z
      clear ey ly hy hp_z LL_z
      have HL_z := e_z _ _ HL_u
      have RR_z := RR_u.up e_z
      refine ⟨_, _, rfl, SqL.of hE_z, by rw [List.length_map]; exact pf, fun z hz gz => ?_⟩
      repeat fail "st"
      intro t n_t
      generalize hh : upd _ t _ = H_t
      have e_t := newEx hh n_t
      have h_t := newAt hh
      clear hh
      refine q _ _ (eA.trans (e_l5.trans (e_x.trans (e_y.trans (e_u.trans (e_z.trans e_t)))))) ?_
      rw [ovl_some mem hf hx lx hy ly hu gu hz gz]
      exact ⟨t, rfl, h_t⟩
end

end K02
namespace K02
open PySem PySem.Spec PyProof.Rows L2 Evl Lw
section
variable {P : Program} {w : World} {K : PySem.W.Frag} {mg : Str → Option Value} {base : Heap}
theorem init_ok {B C f : Addr} {fd : FuncData} (hB : mg "FormError" = some (.ref B)) (b : BaseC K B) (T : OexC K C) (hno : PySem.W.findIn K (.ref C) "value" = some none)
    (F : Fun K "__init__" "InvalidRect.__init__" s_InvalidRect___init__ f fd) : FnOk P w K mg base CX0 1 f fd ["self", "value"] (spInit C) := by
  refine F.ok (k := 0) sc_InvalidRect___init__ (fun vs H Q E h => ?_) (fun cdv A outer s H vs Q E hr h => ?_)
  · obtain ⟨a, v, _, rfl, _⟩ := h
    rfl
  · obtain ⟨a, v, ha, rfl, q⟩ := h
    have nd := sc_InvalidRect___init__.nd
    refine ⟨_, pss_cons (ps_expr (Lw.pe_binit (by rfl) hB b (pa_cons (pv 0) (pa_cons pe_str pa_nil)))) (pss_one (ps_ost (pv 0) (pv 1))), ?_⟩
    repeat fail "st"
    refine ⟨a, C, _, rfl, (by show 1 ≤ 1000; decide), T, ha, ?_⟩
    repeat fail "st"
    refine ⟨a, C, rfl, T, hno, .inl ⟨ha, fun d hd ne => ?_⟩⟩
    exact q d hd ne
/-- check_rect at any value of known kinds -/
def spCkX (C : Addr) : Sp := fun vs H Q E => ∃ v b, Th H v b ∧ vs = [v] ∧ (b = true → Q .non H) ∧ (b = false → ∀ d H', Ex H H' → H' d = some (.xd [("value", v)]) → E (.ref C) (some d) H')
theorem c_check_rectX (T : Txt K mg) {C : Addr} (cR : ExcAt P w K mg base "InvalidRect" C) : Cl P w K mg base (L2.CX P w) 5 "check_rect" s_check_rect ["value"] (spCkX C) := by
  refine clX_of (k := 4) T.d_check_rect sc_check_rect (fun vs H Q E h => ?_) (fun f cdv A outer s H vs Q E hr h => ?_)
  · obtain ⟨v, b, _, rfl, _⟩ := h
    rfl
  · obtain ⟨v, b, tv, rfl, q1, q2⟩ := h
    have nd := sc_check_rect.nd
    refine ⟨_, (pss_one (ps_if (pt_not (pt_val (Lw.pe_cl (c_is_rect T) b_is_rect hr (by decide) (by rfl) pass0 (pa_cons (pv 0) pa_nil)))) (pss_one (Lw.ps_raiseO rfl (takes_of rfl rfl rfl rfl) cR (hr.mono (by decide)) (by rfl) (pa_cons (pv 0) pa_nil))) pss_nil)), ?_⟩
    repeat fail "st"
    refine ifNt (fun hb => ?_) (fun hb => ?_)
    · repeat fail "st"
      exact mkO_in fun d H2 e hd => q2 hb d H2 e hd
    · repeat fail "st"
      exact q1 hb
/-- common, where one is no rectangle -/
def spCommonX (C : Addr) : Sp := fun vs H _ E => ∃ v u b c, Th H v b ∧ Th H u c ∧ vs = [v, u] ∧ (b && c) = false ∧ ∀ d H', Ex H H' → H' d = some (.xd [("value", if b = true then u else v)]) → E (.ref C) (some d) H'
theorem c_commonX (T : Txt K mg) {C : Addr} (cR : ExcAt P w K mg base "InvalidRect" C) : Cl P w K mg base (L2.CX P w) 6 "common" s_common ["rect", "other_rect"] (spCommonX C) := by
  refine clX_of (k := 5) T.d_common sc_common (fun vs H Q E h => ?_) (fun f cdv A outer s H vs Q E hr h => ?_)
  · obtain ⟨v, u, b, c, _, _, rfl, _⟩ := h
    rfl
  · obtain ⟨v, u, b, c, tv, tu, rfl, hbc, q⟩ := h
    have nd := sc_common.nd
    refine ⟨_, (pss_cons (ps_expr (Lw.pe_cl (c_check_rectX T cR) b_check_rect hr (by decide) (by rfl) (passes_call (takes_of rfl rfl rfl rfl) (fun _ _ _ _ h => h)) (pa_cons (pv 0) pa_nil)))
      (pss_cons (ps_expr (Lw.pe_cl (c_check_rectX T cR) b_check_rect hr (by decide) (by rfl) (passes_call (takes_of rfl rfl rfl rfl) (fun _ _ _ _ h => h)) (pa_cons (pv 1) pa_nil)))
      (pss_one Lw.ps_dead))), ?_⟩
    repeat fail "st"
    refine ⟨v, b, tv, rfl, fun hb => ?_, fun hb d H' e hd => q d H' e (by rw [hb]; exact hd)⟩
    repeat fail "st"
    refine ⟨u, c, tu, rfl, fun hc => absurd hbc (by rw [hb, hc]; decide), fun hc d H' e hd => q d H' e (by rw [hb]; exact hd)⟩
end

end K02
namespace K02
open PySem PySem.Spec PyProof.Rows L2 Evl Lw
section
theorem g_caught {X : Cx} (T : Txt X.K X.mg) {C : Addr} (mC : X.mg "InvalidRect" = some (.ref C)) (no : PySem.W.findIn X.K (.ref C) "value" = some none) (gd : X.A.guards = some []) (hr0 : Room 1 X.A) (g : Addr) (cdg : Value) (qn : Str) :
    LamX.GivesTo X N_law_caught "_law_caught" (defScope s_law_caught) g cdg (defBody s_law_caught) "_law_call" qn (TCaught X.K C "value" "rect") := by
  intro f c' s H Q tl act hc h
  have nd := sc_law_caught.nd
  have hr := hr0.deeper (envOfC "_law_caught" (defScope s_law_caught) s.heap.objs.size g cdg)
  obtain ⟨C1, A, B, D, m0, mA, mB, mD, hm, EX⟩ := T.e_InvalidRect.ex
  rw [mC] at m0
  cases m0
  obtain ⟨C1, D1, m0, m1, q1⟩ := T.k_InvalidRect_InvalidRect.ex
  rw [mC] at m0 m1
  cases m0
  cases m1
  obtain ⟨C1, D2, m0, m_InvalidNumber, q2⟩ := T.k_InvalidRect_InvalidNumber.ex
  rw [mC] at m0
  cases m0
  obtain ⟨C1, D3, m0, m_InvalidColour, q3⟩ := T.k_InvalidRect_InvalidColour.ex
  rw [mC] at m0
  cases m0
  obtain ⟨C1, D4, m0, m_StateError, q4⟩ := T.k_InvalidRect_StateError.ex
  rw [mC] at m0
  cases m0
  obtain ⟨C1, m0, q5⟩ := T.kt_InvalidRect_ValueError.ex
  rw [mC] at m0
  cases m0
  have m_InvalidRect := mC
  refine ⟨_, (pss_cons (ps_set (i := 1) nd rfl (Or.inl rfl) pe_non)
      (pss_cons (Lw.ps_try_kept (tb := fun W D σ H => ∃ Ech : XK, (∀ cls d σ' H', Ech cls d H' → W cls d σ' H') ∧ σ[0]? = some (some (.ref f)) ∧ H c' = some (LamX.CodeO c' qn) ∧ tl Ech H (fun _ H' => [V.str "none", V.str ""].length ≤ sizeLine ∧ ∀ p, H' p = none → D.rt (.ref p) (upd H' p (.lst [.str "none", .str ""])))) rfl rfl nd (i := 2) rfl rfl (by rfl) mA (by rfl) mB (by rfl) mD (fun W pn xe tk => ?_) (fun a oe cls d pn => pss_one (ps_set (i := 1) nd rfl (Or.inl rfl) (pv 2))))
      (pss_cons (ps_if (PW.pt (pw_or (pt_not (pt_val (pe_callB ((Lw.call_isX EX)) (by rfl) T.b_isinstance bt_isinstance (pa_cons (pv 1) (pa_cons (pe_glob (v := .ref _) (by rfl) m_InvalidRect rfl) pa_nil))))) (pw_or1 (pt_not (pt_val (pe_callB ((Lw.call_isX EX)) (by rfl) T.b_isinstance bt_isinstance (pa_cons (pv 1) (pa_cons (pe_bltn (v := .ty "ValueError") (by rfl) T.b_ValueError bt_ValueError rfl) pa_nil)))))))) (pss_one (ps_ret (pe_lst (pa_cons pe_str (pa_cons pe_str pa_nil))))) pss_nil)
      (pss_cons (ps_if (PW.pt (pw_or (pt_val (pe_callB ((Lw.call_isX EX)) (by rfl) T.b_isinstance bt_isinstance (pa_cons (pv 1) (pa_cons (pe_glob (v := .ref _) (by rfl) m_InvalidNumber rfl) pa_nil)))) (pw_or (pt_val (pe_callB ((Lw.call_isX EX)) (by rfl) T.b_isinstance bt_isinstance (pa_cons (pv 1) (pa_cons (pe_glob (v := .ref _) (by rfl) m_InvalidColour rfl) pa_nil)))) (pw_or1 (pt_val (pe_callB ((Lw.call_isX EX)) (by rfl) T.b_isinstance bt_isinstance (pa_cons (pv 1) (pa_cons (pe_glob (v := .ref _) (by rfl) m_StateError rfl) pa_nil)))))))) (pss_one (ps_ret (pe_lst (pa_cons pe_str (pa_cons pe_str pa_nil))))) pss_nil)
      (pss_one (ps_ret (pe_lst (pa_cons pe_str (pa_cons (pe_callB (Lw.call_reprD gd (Lw.u70 hr)) (by rfl) T.b_repr bt_repr (pa_cons (Lw.pe_xk EX no (pv 1)) pa_nil)) pa_nil))))))))), ?_⟩
  · refine ⟨fun pins s' σ H' D I h' => ?_⟩
    obtain ⟨Ech, hW, h1, h2, h3⟩ := h'
    exact (pss_cons (ps_expr (act W pn xe Ech _ _ tk hW)) (pss_one (ps_ret (pe_lst (pa_cons pe_str (pa_cons pe_str pa_nil)))))).run pins s' σ H' D I ⟨h1, h2, h3⟩
  · show ∃ Ech : XK, _
    refine ⟨_, fun cls d σ' H' z => ?_, rfl, hc, h⟩
    obtain ⟨dt, ⟨dd, v, rfl, rfl, hdd, hv, hs⟩, q⟩ := z
    refine ⟨hm, fun a na len => ?_⟩
    obtain ⟨x0, x1, x2, rfl⟩ : ∃ x0 x1 x2, σ' = [x0, x1, x2] := by
      match σ', len with
      | [x0, x1, x2], _ => exact ⟨x0, x1, x2, rfl⟩
    repeat fail "st"
    intro _
    have xA := Ex.new (o := exc a (.ref C) (some dd)) na
    have hA : upd H' a (exc a (.ref C) (some dd)) a = some (exc a (.ref C) (some dd)) := upd_same
    generalize upd H' a (exc a (.ref C) (some dd)) = G at *
    have hdd' := xA _ _ hdd
    have hv' := hv.up xA
    repeat fail "st"
    refine ⟨a, dd, _, _, _, _, hA, hdd', rfl, fun u z => z, q1, ?_⟩
    repeat fail "st"
    refine ⟨a, dd, _, _, _, _, hA, hdd', rfl, fun u z => z, q5, ?_⟩
    repeat fail "st"
    refine ⟨a, dd, _, _, _, _, hA, hdd', rfl, fun u z => z, q2, ?_⟩
    repeat fail "st"
    refine ⟨a, dd, _, _, _, _, hA, hdd', rfl, fun u z => z, q3, ?_⟩
    repeat fail "st"
    refine ⟨a, dd, _, _, _, _, hA, hdd', rfl, fun u z => z, q4, ?_⟩
    repeat fail "st"
    refine ⟨a, dd, _, _, rfl, hA, hdd', rfl, ?_⟩
    repeat fail "st"
    refine ⟨_, _, hv', hs, rfl, ?_⟩
    repeat fail "st"
    intro l n_l
    generalize hh : upd _ l _ = H_l
    have e_l := newEx hh n_l
    have h_l := newAt hh
    clear hh
    exact q l _ (xA.trans e_l) h_l
end

end K02
namespace K02
open PySem PySem.Spec PyProof.Rows L2 Evl Lw
section
variable {P : Program} {w : World} {K : PySem.W.Frag} {mg : Str → Option Value} {base : Heap}
abbrev lamQ : Str := (envOfC "_law_refused_right" (defScope s_law_refused_right) 0 0 .none).qual ++ "<lambda>"
/-- no rectangle, and its text can be told -/
def Odd (K : PySem.W.Frag) (H : Hp) (v : V) : Prop := Th H v false ∧ Dsp K H v
theorem odd_t {H : Hp} {a : Addr} {vs : List V} {ds : List PyData} (h : H a = some (.tup vs)) (r : rectL vs = false) (p : Paired Atm vs ds) (hl : vs.length ≤ 1000) : Odd K H (.ref a) := ⟨by rw [← r]; exact .tup h (atms_kd p), dsp_t (SqT.of h) p hl⟩
theorem odd_l {H : Hp} {a : Addr} {vs : List V} {ds : List PyData} (h : H a = some (.lst vs)) (p : Paired Atm vs ds) (hl : vs.length ≤ 1000) : Odd K H (.ref a) := ⟨.other (.lst h) (by decide), dsp_l (SqL.of h) p hl⟩
theorem odd_a {H : Hp} {v : V} {d : PyData} (h : Atm v d) : Odd K H v := by
  obtain ⟨n, k, ne⟩ := h.kd (H := H)
  exact ⟨.other k ne, h.dsp⟩
theorem odd_d {H : Hp} {a : Addr} (h : H a = some (.dK [])) : Odd K H (.ref a) := ⟨.other (.dK h) (by decide), dsp_d h⟩
theorem Odd.upN {H H' : Hp} {v : V} (e : LamX.ExtN H H') (h : Odd K H v) : Odd K H' v := ⟨h.1.upN e, h.2.upN e⟩
theorem Odd.up {H H' : Hp} {v : V} (e : Ex H H') (h : Odd K H v) : Odd K H' v := h.upN (ExtN.ex e)
theorem row_mut {H : Hp} {a b : Addr} {t s : Str} {xs ys : List V} (h : H b = some (.lst [.str t, .str s])) (ha : H a = some (.lst xs)) (n : xs ≠ [.str t, .str s]) : upd H a (.lst ys) b = some (.lst [.str t, .str s]) := by
  rw [upd_ne (fun z => by rw [z, ha] at h; cases h; exact n rfl)]
  exact h
def spRefused (K : PySem.W.Frag) (c : Addr) : Sp := fun vs H Q _ => ∃ p g b, BoxAt H g b ∧ vs = [.ref p, .ref g] ∧ Pool H p ∧ SmallBox b ∧ LamX.Tabs [(c, lamQ)] H ∧ ∀ H', LamX.ExtN H H' → LamX.Tabs [(c, lamQ)] H' → Q (.bl true) H'
theorem c_law_refused_right (T : Txt K mg) {C c B : Addr} (cR : ExcAt P w K mg base "InvalidRect" C) (no : PySem.W.findIn K (.ref C) "value" = some none) (D : Lw.DefC K mg "_law_refused_right" s_law_refused_right c) (TB : LamX.TabB base mg c B) :
    ClG P w K mg base CX0 9 "_law_refused_right" s_law_refused_right ["_law_pool_here", "_law_good"] (spRefused K B) := by
  refine clC_of (k := 8) D sc_law_refused_right (fun vs H Q E h => ?_) (fun f A outer s H vs Q E gd hr h => ?_)
  · obtain ⟨p, g, b, _, rfl, _⟩ := h
    rfl
  · obtain ⟨p, g, ⟨b1, b2, b3, b4⟩, hb, rfl, hp, sb, tabs, q⟩ := h
    have mC := cR.nm
    replace hb : H g = some (.tup [.int b1, .int b2, .int b3, .int b4]) := hb
    have nd := sc_law_refused_right.nd
    refine ⟨_, (pss_cons (ps_set (i := 2) nd rfl (Or.inl rfl) (pe_lst (pa_cons pe_non (pa_cons pe_int (pa_cons pe_str (pa_cons (pe_lst pa_nil) (pa_cons (pe_tup pa_nil) (pa_cons (pe_callTy (call_list_of) (by rfl) T.b_list bt_list (pa_cons (pv 1) pa_nil)) (pa_cons (pe_slice sl_tup (pv 1) po_none (po_some pe_int)) (pa_cons (pe_op op_catT (pv 1) (pe_tup (pa_cons pe_int pa_nil))) (pa_cons (pe_op op_catT (pe_tup (pa_cons pe_bl pa_nil)) (pe_slice sl_tup (pv 1) (po_some pe_int) po_none)) (pa_cons (pe_op op_catT (pe_slice sl_tup (pv 1) po_none (po_some pe_int)) (pe_tup (pa_cons (pe_un un_neg pe_int) (pa_cons pe_int pa_nil)))) pa_nil))))))))))))
      (pss_cons (ps_set (i := 2) nd rfl (Or.inl rfl) (pe_op op_cat (pv 2) (pe_lst (pa_cons (pe_op op_catT (pe_slice sl_tup (pv 1) po_none (po_some pe_int)) (pe_tup (pa_cons (pe_op op_add (pe_op op_pow pe_int pe_int) pe_int) pa_nil))) (pa_cons (pe_op op_catT (pe_tup (pa_cons (pe_op op_sub (pe_op op_sub pe_int (pe_op op_pow pe_int pe_int)) pe_int) pa_nil)) (pe_slice sl_tup (pv 1) (po_some pe_int) po_none)) (pa_cons (pe_op op_catT (pe_op op_catT (pe_slice sl_tup (pv 1) po_none (po_some pe_int)) (pe_tup (pa_cons pe_non pa_nil))) (pe_slice sl_tup (pv 1) (po_some pe_int) po_none)) (pa_cons pe_dnewK pa_nil)))))))
      (pss_cons (ps_for PassesOwn.never rfl (pi_range1 (by rfl) T.b_range (pa_cons pe_int pa_nil)) (pg_name (i := 3) nd rfl (Or.inl rfl)) (pss_cons (ps_asg (pe_tup (pa_cons (pe_ix ix_seq (pv 2) (Lw.pe_cl (c_law_draw T) b_law_draw hr (by decide) (by rfl) pass0 (pa_cons (pv 0) (pa_cons pe_int pa_nil))) (fun _ _ => rfl)) (pa_cons (pe_ix ix_seq (pv 2) (Lw.pe_cl (c_law_draw T) b_law_draw hr (by decide) (by rfl) pass0 (pa_cons (pv 0) (pa_cons pe_int pa_nil))) (fun _ _ => rfl)) pa_nil))) (pg_tup rfl (pgs_cons (pg_name (i := 5) nd rfl (Or.inr rfl)) (pgs_cons (pg_name (i := 6) nd rfl (Or.inr rfl)) pgs_nil))))
      (pss_cons (ps_set (i := 4) nd rfl (Or.inl rfl) (pe_lst (pa_cons (Lw.pe_lamc (k := 6) T.d_law_caught b_law_caught (by rfl) sc_law_caught rfl (Or.inl rfl) (fun g cdv => g_caught T mC no gd (hr.mono (by decide)) g cdv _) TB rfl (hr.mono (by decide)) (LamX.lamS_by (by rfl)) rfl (fun _ _ _ _ _ => rfl) (fun A2 o2 s2 H2 E2 f2 c2 hr2 => Lw.pe_cl (c_commonX T cR) b_common hr2 (by decide) (by rfl) (passes_call (takes_of rfl rfl rfl rfl) (fun _ _ _ _ h => h)) (pa_cons (pv 5) (pa_cons (pv 6) pa_nil)))) pa_nil)))
      (pss_cons (ps_expr (pe_bm PySem.F.plainAttrs_list PySem.F.slot_list_append PySem.F.type_list_append mt_append (pv 4) (pa_cons (Lw.pe_lamc (k := 6) T.d_law_caught b_law_caught (by rfl) sc_law_caught rfl (Or.inl rfl) (fun g cdv => g_caught T mC no gd (hr.mono (by decide)) g cdv _) TB rfl (hr.mono (by decide)) (LamX.lamS_by (by rfl)) rfl (fun _ _ _ _ _ => rfl) (fun A2 o2 s2 H2 E2 f2 c2 hr2 => Lw.pe_cl (c_commonX T cR) b_common hr2 (by decide) (by rfl) (passes_call (takes_of rfl rfl rfl rfl) (fun _ _ _ _ h => h)) (pa_cons (pv 5) (pa_cons (pv 1) pa_nil)))) pa_nil)))
      (pss_cons (ps_expr (pe_bm PySem.F.plainAttrs_list PySem.F.slot_list_append PySem.F.type_list_append mt_append (pv 4) (pa_cons (Lw.pe_lamc (k := 6) T.d_law_caught b_law_caught (by rfl) sc_law_caught rfl (Or.inl rfl) (fun g cdv => g_caught T mC no gd (hr.mono (by decide)) g cdv _) TB rfl (hr.mono (by decide)) (LamX.lamS_by (by rfl)) rfl (fun _ _ _ _ _ => rfl) (fun A2 o2 s2 H2 E2 f2 c2 hr2 => Lw.pe_clk0 (g := fun {_} => gk_bk_common_0_other_rect_rect) (c_commonX T cR) bk_common_0_other_rect_rect rk_bk_common_0_other_rect_rect hr2 (by decide) (by rfl) (passes_call (takes_of rfl rfl rfl rfl) (fun _ _ _ _ h => h)) (pk_cons (pv 6) (pk_cons (pv 5) pk_nil)))) pa_nil)))
      (pss_one (ps_if (PW.pt (pw_or (pt_cmpR (op_neD hr.units) (pv 4) (pe_op op_rep (pe_lst (pa_cons (pe_lst (pa_cons pe_str (pa_cons (pe_callB (Lw.call_reprD gd (Lw.u70 hr)) (by rfl) T.b_repr bt_repr (pa_cons (pv 5) pa_nil)) pa_nil))) pa_nil)) pe_int) (nomark _)) (pw_or1 (pt_cmpR (op_neD hr.units) (Lw.pe_lamc (k := 6) T.d_law_caught b_law_caught (by rfl) sc_law_caught rfl (Or.inl rfl) (fun g cdv => g_caught T mC no gd (hr.mono (by decide)) g cdv _) TB rfl (hr.mono (by decide)) (LamX.lamS_by (by rfl)) rfl (fun _ _ _ _ _ => rfl) (fun A2 o2 s2 H2 E2 f2 c2 hr2 => Lw.pe_cl (c_commonX T cR) b_common hr2 (by decide) (by rfl) (passes_call (takes_of rfl rfl rfl rfl) (fun _ _ _ _ h => h)) (pa_cons (pv 1) (pa_cons (pv 6) pa_nil)))) (pe_lst (pa_cons pe_str (pa_cons (pe_callB (Lw.call_reprD gd (Lw.u70 hr)) (by rfl) T.b_repr bt_repr (pa_cons (pv 6) pa_nil)) pa_nil))) (nomark _))))) (pss_one (ps_ret pe_bl)) pss_nil)))))))
      (pss_one (ps_ret pe_bl))))), ?_⟩
    repeat fail "st"
    intro l0 n_l0
    generalize hh : upd _ l0 _ = H_l0
    have e_l0 := newEx hh n_l0
    have h_l0 := newAt hh
    clear hh
    repeat fail "st"
    intro t0 n_t0
    generalize hh : upd _ t0 _ = H_t0
    have e_t0 := newEx hh n_t0
    have h_t0 := newAt hh
    clear hh
    repeat fail "st"
    refine ⟨g, _, rfl, .inr (by fail "sqt"), ?_⟩
    intro l1 n_l1
    generalize hh : upd _ l1 _ = H_l1
    have e_l1 := newEx hh n_l1
    have h_l1 := newAt hh
    clear hh
    repeat fail "st"
    refine ⟨(by show ¬ (HT.sIx 4 0 _ = 0 ∧ HT.sIx 4 4 _ = 4); decide), ?_⟩
    intro t1 n_t1
    generalize hh : upd _ t1 _ = H_t1
    have e_t1 := newEx hh n_t1
    have h_t1 := newAt hh
    clear hh
    replace h_t1 : H_t1 t1 = some (.tup (.int b1 :: .int b2 :: .int b3 :: [])) := h_t1
    repeat fail "st"
    intro t2 n_t2
    generalize hh : upd _ t2 _ = H_t2
    have e_t2 := newEx hh n_t2
    have h_t2 := newAt hh
    clear hh
    repeat fail "st"
    refine ⟨_, _, _, _, rfl, rfl, (by fail "sqt"), (by fail "sqt"), (by intro z; cases z), Nat.le_trans (Nat.le_of_ble_eq_true rfl) Lw.line_ge, (fun z => by cases z), fun _ => ?_⟩
    intro t3 n_t3
    generalize hh : upd _ t3 _ = H_t3
    have e_t3 := newEx hh n_t3
    have h_t3 := newAt hh
    clear hh
    repeat fail "st"
    intro t4 n_t4
    generalize hh : upd _ t4 _ = H_t4
    have e_t4 := newEx hh n_t4
    have h_t4 := newAt hh
    clear hh
    repeat fail "st"
    refine ⟨(by show ¬ (HT.sIx 4 0 _ = 0 ∧ HT.sIx 4 4 _ = 4); decide), ?_⟩
    intro t5 n_t5
    generalize hh : upd _ t5 _ = H_t5
    have e_t5 := newEx hh n_t5
    have h_t5 := newAt hh
    clear hh
    replace h_t5 : H_t5 t5 = some (.tup (.int b2 :: .int b3 :: .int b4 :: [])) := h_t5
    repeat fail "st"
    refine ⟨_, _, _, _, rfl, rfl, (by fail "sqt"), (by fail "sqt"), (by intro z; cases z), Nat.le_trans (Nat.le_of_ble_eq_true rfl) Lw.line_ge, (fun z => by cases z), fun _ => ?_⟩
    intro t6 n_t6
    generalize hh : upd _ t6 _ = H_t6
    have e_t6 := newEx hh n_t6
    have h_t6 := newAt hh
    clear hh
    repeat fail "st"
    refine ⟨(by show ¬ (HT.sIx 4 0 _ = 0 ∧ HT.sIx 4 4 _ = 4); decide), ?_⟩
    intro t7 n_t7
    generalize hh : upd _ t7 _ = H_t7
    have e_t7 := newEx hh n_t7
    have h_t7 := newAt hh
    clear hh
    replace h_t7 : H_t7 t7 = some (.tup (.int b1 :: .int b2 :: [])) := h_t7
    repeat fail "st"
    intro t8 n_t8
    generalize hh : upd _ t8 _ = H_t8
    have e_t8 := newEx hh n_t8
    have h_t8 := newAt hh
    clear hh
    repeat fail "st"
    refine ⟨_, _, _, _, rfl, rfl, (by fail "sqt"), (by fail "sqt"), (by intro z; cases z), Nat.le_trans (Nat.le_of_ble_eq_true rfl) Lw.line_ge, (fun z => by cases z), fun _ => ?_⟩
    intro t9 n_t9
    generalize hh : upd _ t9 _ = H_t9
    have e_t9 := newEx hh n_t9
    have h_t9 := newAt hh
    clear hh
    repeat fail "st"
    intro o1 n_o1
    generalize hh : upd _ o1 _ = H_o1
    have e_o1 := newEx hh n_o1
    have h_o1 := newAt hh
    clear hh
    repeat fail "st"
    refine ⟨(by show ¬ (HT.sIx 4 0 _ = 0 ∧ HT.sIx 4 4 _ = 4); decide), ?_⟩
    intro t10 n_t10
    generalize hh : upd _ t10 _ = H_t10
    have e_t10 := newEx hh n_t10
    have h_t10 := newAt hh
    clear hh
    replace h_t10 : H_t10 t10 = some (.tup (.int b1 :: .int b2 :: .int b3 :: [])) := h_t10
    repeat fail "st"
    intro t11 n_t11
    generalize hh : upd _ t11 _ = H_t11
    have e_t11 := newEx hh n_t11
    have h_t11 := newAt hh
    clear hh
    repeat fail "st"
    refine ⟨_, _, _, _, rfl, rfl, (by fail "sqt"), (by fail "sqt"), (by intro z; cases z), Nat.le_trans (Nat.le_of_ble_eq_true rfl) Lw.line_ge, (fun z => by cases z), fun _ => ?_⟩
    intro t12 n_t12
    generalize hh : upd _ t12 _ = H_t12
    have e_t12 := newEx hh n_t12
    have h_t12 := newAt hh
    clear hh
    repeat fail "st"
    intro t13 n_t13
    generalize hh : upd _ t13 _ = H_t13
    have e_t13 := newEx hh n_t13
    have h_t13 := newAt hh
    clear hh
    repeat fail "st"
    refine ⟨(by show ¬ (HT.sIx 4 0 _ = 0 ∧ HT.sIx 4 4 _ = 4); decide), ?_⟩
    intro t14 n_t14
    generalize hh : upd _ t14 _ = H_t14
    have e_t14 := newEx hh n_t14
    have h_t14 := newAt hh
    clear hh
    replace h_t14 : H_t14 t14 = some (.tup (.int b2 :: .int b3 :: .int b4 :: [])) := h_t14
    repeat fail "st"
    refine ⟨_, _, _, _, rfl, rfl, (by fail "sqt"), (by fail "sqt"), (by intro z; cases z), Nat.le_trans (Nat.le_of_ble_eq_true rfl) Lw.line_ge, (fun z => by cases z), fun _ => ?_⟩
    intro t15 n_t15
    generalize hh : upd _ t15 _ = H_t15
    have e_t15 := newEx hh n_t15
    have h_t15 := newAt hh
    clear hh
    repeat fail "st"
    refine ⟨(by show ¬ (HT.sIx 4 0 _ = 0 ∧ HT.sIx 4 4 _ = 4); decide), ?_⟩
    intro t16 n_t16
    generalize hh : upd _ t16 _ = H_t16
    have e_t16 := newEx hh n_t16
    have h_t16 := newAt hh
    clear hh
    replace h_t16 : H_t16 t16 = some (.tup (.int b1 :: [])) := h_t16
    repeat fail "st"
    intro t17 n_t17
    generalize hh : upd _ t17 _ = H_t17
    have e_t17 := newEx hh n_t17
    have h_t17 := newAt hh
    clear hh
    repeat fail "st"
    refine ⟨_, _, _, _, rfl, rfl, (by fail "sqt"), (by fail "sqt"), (by intro z; cases z), Nat.le_trans (Nat.le_of_ble_eq_true rfl) Lw.line_ge, (fun z => by cases z), fun _ => ?_⟩
    intro t18 n_t18
    generalize hh : upd _ t18 _ = H_t18
    have e_t18 := newEx hh n_t18
    have h_t18 := newAt hh
    clear hh
    repeat fail "st"
    refine ⟨(by show ¬ (HT.sIx 4 0 _ = 0 ∧ HT.sIx 4 4 _ = 4); decide), ?_⟩
    intro t19 n_t19
    generalize hh : upd _ t19 _ = H_t19
    have e_t19 := newEx hh n_t19
    have h_t19 := newAt hh
    clear hh
    replace h_t19 : H_t19 t19 = some (.tup (.int b3 :: .int b4 :: [])) := h_t19
    repeat fail "st"
    refine ⟨_, _, _, _, rfl, rfl, (by fail "sqt"), (by fail "sqt"), (by intro z; cases z), Nat.le_trans (Nat.le_of_ble_eq_true rfl) Lw.line_ge, (fun z => by cases z), fun _ => ?_⟩
    intro t20 n_t20
    generalize hh : upd _ t20 _ = H_t20
    have e_t20 := newEx hh n_t20
    have h_t20 := newAt hh
    clear hh
    repeat fail "st"
    intro dd n_dd
    generalize hh : upd _ dd _ = H_dd
    have e_dd := newEx hh n_dd
    have h_dd := newAt hh
    clear hh
    repeat fail "st"
    intro o2 n_o2
    generalize hh : upd _ o2 _ = H_o2
    have e_o2 := newEx hh n_o2
    have h_o2 := newAt hh
    clear hh
    repeat fail "st"
    refine ⟨_, _, _, _, rfl, rfl, (by fail "at"), (by fail "at"), Nat.le_trans (Nat.le_of_ble_eq_true rfl) Lw.line_ge, ?_⟩
    intro o3 n_o3
    generalize hh : upd _ o3 _ = H_o3
    have e_o3 := newEx hh n_o3
    have h_o3 := newAt hh
    clear hh
    repeat fail "st"
    obtain ⟨⟨s1, s2⟩, ⟨s3, s4⟩, ⟨s5, s6⟩, s7, s8⟩ : (-4 ≤ b1 ∧ b1 ≤ 4) ∧ (-4 ≤ b2 ∧ b2 ≤ 4) ∧ (0 ≤ b3 ∧ b3 ≤ 5) ∧ 0 ≤ b4 ∧ b4 ≤ 5 := sb
    have A1 : Atm (.int b1) (.int b1) := atm_small (by omega) (by omega)
    have A2 : Atm (.int b2) (.int b2) := atm_small (by omega) (by omega)
    have A3 : Atm (.int b3) (.int b3) := atm_small (by omega) (by omega)
    have A4 : Atm (.int b4) (.int b4) := atm_small (by omega) (by omega)
    have x_o2 := e_o3
    have x_dd := e_o2.trans x_o2
    have x_t20 := e_dd.trans x_dd
    have x_t19 := e_t20.trans x_t20
    have x_t18 := e_t19.trans x_t19
    have x_t17 := e_t18.trans x_t18
    have x_t16 := e_t17.trans x_t17
    have x_t15 := e_t16.trans x_t16
    have x_t14 := e_t15.trans x_t15
    have x_t13 := e_t14.trans x_t14
    have x_t12 := e_t13.trans x_t13
    have x_t11 := e_t12.trans x_t12
    have x_t10 := e_t11.trans x_t11
    have x_o1 := e_t10.trans x_t10
    have x_t9 := e_o1.trans x_o1
    have x_t8 := e_t9.trans x_t9
    have x_t7 := e_t8.trans x_t8
    have x_t6 := e_t7.trans x_t7
    have x_t5 := e_t6.trans x_t6
    have x_t4 := e_t5.trans x_t5
    have x_t3 := e_t4.trans x_t4
    have x_t2 := e_t3.trans x_t3
    have x_t1 := e_t2.trans x_t2
    have x_l1 := e_t1.trans x_t1
    have x_t0 := e_l1.trans x_l1
    have x_l0 := e_t0.trans x_t0
    have g_l0 : H_o3 l0 = some (.lst []) := x_l0 _ _ h_l0
    have g_t0 : H_o3 t0 = some (.tup []) := x_t0 _ _ h_t0
    have g_l1 : H_o3 l1 = some (.lst [.int b1, .int b2, .int b3, .int b4]) := x_l1 _ _ h_l1
    have g_t1 : H_o3 t1 = some (.tup [.int b1, .int b2, .int b3]) := x_t1 _ _ h_t1
    have g_t3 : H_o3 t3 = some (.tup [.int b1, .int b2, .int b3, .int b4, .int 1]) := x_t3 _ _ h_t3
    have g_t6 : H_o3 t6 = some (.tup [.bl true, .int b2, .int b3, .int b4]) := x_t6 _ _ h_t6
    have g_t9 : H_o3 t9 = some (.tup [.int b1, .int b2, .int (-1), .int 1]) := x_t9 _ _ h_t9
    have g_t12 : H_o3 t12 = some (.tup [.int b1, .int b2, .int b3, .int 1000000000001]) := x_t12 _ _ h_t12
    have g_t15 : H_o3 t15 = some (.tup [.int (-1000000000001), .int b2, .int b3, .int b4]) := x_t15 _ _ h_t15
    have g_t20 : H_o3 t20 = some (.tup [.int b1, .non, .int b3, .int b4]) := x_t20 _ _ h_t20
    have g_dd : H_o3 dd = some (.dK []) := x_dd _ _ h_dd
    have eA := e_l0.trans x_l0
    replace h_o3 : H_o3 o3 = some (.lst [V.non, .int 0, .str "", .ref l0, .ref t0, .ref l1, .ref t1, .ref t3, .ref t6, .ref t9, .ref t12, .ref t15, .ref t20, .ref dd]) := h_o3
    clear x_l0 e_l0 h_l0 x_t0 e_t0 h_t0 x_l1 e_l1 h_l1 x_t1 e_t1 h_t1 x_t2 e_t2 h_t2 x_t3 e_t3 h_t3 x_t4 e_t4 h_t4 x_t5 e_t5 h_t5 x_t6 e_t6 h_t6 x_t7 e_t7 h_t7 x_t8 e_t8 h_t8 x_t9 e_t9 h_t9 x_o1 e_o1 h_o1 x_t10 e_t10 h_t10 x_t11 e_t11 h_t11 x_t12 e_t12 h_t12 x_t13 e_t13 h_t13 x_t14 e_t14 h_t14 x_t15 e_t15 h_t15 x_t16 e_t16 h_t16 x_t17 e_t17 h_t17 x_t18 e_t18 h_t18 x_t19 e_t19 h_t19 x_t20 e_t20 h_t20 x_dd e_dd h_dd x_o2 e_o2 h_o2 e_o3
    clear n_l0 n_t0 n_l1 n_t1 n_t2 n_t3 n_t4 n_t5 n_t6 n_t7 n_t8 n_t9 n_o1 n_t10 n_t11 n_t12 n_t13 n_t14 n_t15 n_t16 n_t17 n_t18 n_t19 n_t20 n_dd n_o2 n_o3
    have odd : ∀ v ∈ [V.non, .int 0, .str "", .ref l0, .ref t0, .ref l1, .ref t1, .ref t3, .ref t6, .ref t9, .ref t12, .ref t15, .ref t20, .ref dd], Odd K H_o3 v := by
      simp only [List.forall_mem_cons]
      refine ⟨odd_a .non, odd_a (v := .int 0) (atm_small (by decide) (by decide)), odd_a .emp, odd_l g_l0 .nil (Nat.le_of_ble_eq_true rfl), odd_t g_t0 rfl .nil (Nat.le_of_ble_eq_true rfl), odd_l g_l1 (.cons A1 (.cons A2 (.cons A3 (.cons A4 .nil)))) (Nat.le_of_ble_eq_true rfl), odd_t g_t1 rfl (.cons A1 (.cons A2 (.cons A3 .nil))) (Nat.le_of_ble_eq_true rfl),
        odd_t g_t3 rfl (.cons A1 (.cons A2 (.cons A3 (.cons A4 (.cons (atm_small (by decide) (by decide)) .nil))))) (Nat.le_of_ble_eq_true rfl), odd_t g_t6 rfl (.cons (.bl true) (.cons A2 (.cons A3 (.cons A4 .nil)))) (Nat.le_of_ble_eq_true rfl), ?_, ?_, ?_, ?_, odd_d g_dd, by simp⟩
      · exact odd_t g_t9 (by simp [rectL, Lw.inB]) (.cons A1 (.cons A2 (.cons (atm_small (by decide) (by decide)) (.cons (atm_small (by decide) (by decide)) .nil)))) (Nat.le_of_ble_eq_true rfl)
      · exact odd_t g_t12 (by simp [rectL, Lw.inB]) (.cons A1 (.cons A2 (.cons A3 (.cons (atm_small (by decide) (by decide)) .nil)))) (Nat.le_of_ble_eq_true rfl)
      · exact odd_t g_t15 (by simp [rectL, Lw.inB]) (.cons (atm_small (by decide) (by decide)) (.cons A2 (.cons A3 (.cons A4 .nil)))) (Nat.le_of_ble_eq_true rfl)
      · exact odd_t g_t20 (by simp [rectL, Lw.inB]) (.cons A1 (.cons .non (.cons A3 (.cons A4 .nil)))) (Nat.le_of_ble_eq_true rfl)
    clear g_l0 g_t0 g_l1 g_t1 g_t3 g_t6 g_t9 g_t12 g_t15 g_t20 g_dd A1 A2 A3 A4
    have th_g : Th H_o3 (.ref g) true := by
      have r : rectL [V.int b1, .int b2, .int b3, .int b4] = true := rectL_good (SmallBox.good (b := (b1, b2, b3, b4)) ⟨⟨s1, s2⟩, ⟨s3, s4⟩, ⟨s5, s6⟩, s7, s8⟩)
      rw [← r]
      exact .tup (eA _ _ hb) fun x hx => by
        simp only [List.mem_cons, List.not_mem_nil, or_false] at hx
        rcases hx with rfl | rfl | rfl | rfl <;> exact ⟨_, .int _⟩
    have hpA := hp.up eA
    have tbA := tabs.ext (fun b o h => eA b o h)
    clear hp tabs hb s1 s2 s3 s4 s5 s6 s7 s8
    repeat fail "st"
    refine for_range (fun i σ H' => ∃ y t u v, σ = [some (.ref p), some (.ref g), some (.ref o3), y, t, u, v] ∧ LamX.ExtN H_o3 H' ∧ LamX.Tabs [(B, lamQ)] H') ?_ ?_ ?_
    · exact ⟨_, _, _, _, rfl, LamX.ExtN.refl _, tbA⟩
    · rintro i _ H1 hi ⟨y, t, u, v, rfl, e1, tb1⟩
      have hp1 := hpA.upN e1
      have ho1 := e1 _ _ h_o3 (fun ps z => by cases z)
      repeat fail "st"
      intro d Hd ed d0 d1
      have ho2 := ed _ _ ho1
      repeat fail "st"
      refine ix_in (.inl (SqL.of ho2)) d0 (by show d < ((14 : Nat) : Int); omega) fun bad mb => ?_
      repeat fail "st"
      intro d' Hd' ed' d0' d1'
      have ho3 := ed' _ _ ho2
      repeat fail "st"
      refine ix_in (.inl (SqL.of ho3)) d0' (by show d' < ((14 : Nat) : Int); omega) fun worse mw => ?_
      repeat fail "st"
      intro tt n_tt
      generalize hh : upd _ tt _ = H_tt
      have e_tt := newEx hh n_tt
      have h_tt := newAt hh
      clear hh
      repeat fail "st"
      have e2 := e1.trans (ExtN.ex (ed.trans (ed'.trans e_tt)))
      have tb2 := tb1.ext (fun b o h => (ed.trans (ed'.trans e_tt)) b o h)
      have ob := (odd _ mb).upN e2
      have ow := (odd _ mw).upN e2
      obtain ⟨db, Db, Sb⟩ := ob.2
      obtain ⟨dw, Dw, Sw⟩ := ow.2
      clear mb mw ho1 ho2 ho3 ed ed' e_tt tb1 hp1 h_tt n_tt
      refine ⟨tb2, fun H3 x3 tb3 => ?_⟩
      repeat fail "st"
      refine ⟨bad, worse, false, false, ob.1.upN x3, ow.1.upN x3, rfl, rfl, fun dx H4 e4 hd => ?_⟩
      refine ⟨db, ⟨dx, bad, rfl, rfl, hd, (Db.upN x3).up e4, Sb⟩, fun l1 G e5 r1 => ?_⟩
      have xG := x3.trans (ExtN.ex (e4.trans e5))
      have tG := tb3.ext (fun b o h => (e4.trans e5) b o h)
      have e3 := e2.trans xG
      have obG := ob.upN xG
      have owG := ow.upN xG
      have DbG := Db.upN xG
      have DwG := Dw.upN xG
      have thG := th_g.upN e3
      clear ob ow Db Dw x3 tb3 e4 hd e5 tb2 xG e1 e2
      repeat fail "st"
      intro told n_told
      generalize hh : upd _ told _ = H_told
      have e_told := newEx hh n_told
      have h_told := newAt hh
      clear hh
      repeat fail "st"
      refine ⟨.inl ⟨rfl, _, SqL.of h_told⟩, ?_⟩
      refine ⟨tG.ext (fun b o h => e_told b o h), fun H6 x6 tb6 => ?_⟩
      have xc := (ExtN.ex e_told).trans x6
      repeat fail "st"
      refine ⟨bad, .ref g, false, true, obG.1.upN xc, thG.upN xc, rfl, rfl, fun dx H7 e7 hd => ?_⟩
      refine ⟨db, ⟨dx, bad, rfl, rfl, hd, (DbG.upN xc).up e7, Sb⟩, fun l2 H8 e8 r2 => ?_⟩
      have ht8 : H8 told = some (.lst [.ref l1]) := (e7.trans e8) _ _ (x6 _ _ h_told (fun ps z => by cases z))
      have xd := xc.trans (ExtN.ex (e7.trans e8))
      have td := tb6.ext (fun b o h => (e7.trans e8) b o h)
      clear hd e7 e8 x6 tb6 xc e_told h_told tG
      repeat fail "st"
      refine ⟨told, _, _, rfl, rfl, ht8, Nat.lt_of_lt_of_le (show 1 < 1000 by decide) (by decide), ?_⟩
      generalize hh : upd H8 told _ = H9
      have x9 : LamX.ExtN G H9 := by rw [← hh]; exact extN_mut xd n_told
      have t9 : LamX.Tabs [(B, lamQ)] H9 := by rw [← hh]; exact tabs_mut td ht8
      have g9 : H9 told = some (.lst [.ref l1, .ref l2]) := by rw [← hh]; exact upd_same
      have r29 : H9 l2 = some (.lst [.str "rect", .str db.shown]) := by rw [← hh]; exact row_mut r2 ht8 (by intro z; cases z)
      clear hh xd td ht8 r2
      repeat fail "st"
      refine ⟨.inl ⟨rfl, _, SqL.of g9⟩, ?_⟩
      refine ⟨t9, fun H6 x6 tb6 => ?_⟩
      have xc := x9.trans x6
      repeat fail "st"
      refine ⟨bad, worse, false, false, obG.1.upN xc, owG.1.upN xc, rfl, rfl, fun dx H7 e7 hd => ?_⟩
      refine ⟨db, ⟨dx, bad, rfl, rfl, hd, (DbG.upN xc).up e7, Sb⟩, fun l3 H10 e8 r3 => ?_⟩
      have ht8 : H10 told = some (.lst [.ref l1, .ref l2]) := (e7.trans e8) _ _ (x6 _ _ g9 (fun ps z => by cases z))
      have r2 : H10 l2 = some (.lst [.str "rect", .str db.shown]) := (e7.trans e8) _ _ (x6 _ _ r29 (fun ps z => by cases z))
      have xd := xc.trans (ExtN.ex (e7.trans e8))
      have td := tb6.ext (fun b o h => (e7.trans e8) b o h)
      clear hd e7 e8 x6 tb6 xc g9 r29 x9 t9
      repeat fail "st"
      refine ⟨told, _, _, rfl, rfl, ht8, Nat.lt_of_lt_of_le (show 2 < 1000 by decide) (by decide), ?_⟩
      generalize hh : upd H10 told _ = H11
      have x9 : LamX.ExtN G H11 := by rw [← hh]; exact extN_mut xd n_told
      have t9 : LamX.Tabs [(B, lamQ)] H11 := by rw [← hh]; exact tabs_mut td ht8
      have g9 : H11 told = some (.lst [.ref l1, .ref l2, .ref l3]) := by rw [← hh]; exact upd_same
      have r29 : H11 l2 = some (.lst [.str "rect", .str db.shown]) := by rw [← hh]; exact row_mut r2 ht8 (by intro z; cases z)
      have r39 : H11 l3 = some (.lst [.str "rect", .str db.shown]) := by rw [← hh]; exact row_mut r3 ht8 (by intro z; cases z)
      clear hh xd td ht8 r2 r3
      have r19 := x9 _ _ r1 (fun ps z => by cases z)
      have DbL := DbG.upN x9
      repeat fail "st"
      refine ⟨_, _, DbL, Sb, rfl, ?_⟩
      repeat fail "st"
      intro r n_r
      generalize hh : upd _ r _ = H_r
      have e_r := newEx hh n_r
      have h_r := newAt hh
      clear hh
      repeat fail "st"
      intro rr n_rr
      generalize hh : upd _ rr _ = H_rr
      have e_rr := newEx hh n_rr
      have h_rr := newAt hh
      clear hh
      repeat fail "st"
      dsimp only [tC]
      refine rep3 h_rr (by show 1 ≤ 1000; decide) ?_
      intro r3 n_r3
      generalize hh : upd _ r3 _ = H_r3
      have e_r3 := newEx hh n_r3
      have h_r3 := newAt hh
      clear hh
      have eR := e_r.trans (e_rr.trans e_r3)
      have hr3 := (e_rr.trans e_r3) _ _ h_r
      have l_1 := eR _ _ r19
      have l_2 := eR _ _ r29
      have l_3 := eR _ _ r39
      refine ne_rows (as := [l1, l2, l3]) (bs := [r, r, r]) (ok_of _) Sb.2.2 (eR _ _ g9) h_r3 rfl (t := "rect") (s := db.shown) (fun c m => ?_) (fun c m => ?_) ?_
      · simp only [List.mem_cons, List.not_mem_nil, or_false] at m
        rcases m with rfl | rfl | rfl
        · exact l_1
        · exact l_2
        · exact l_3
      · simp only [List.mem_cons, List.not_mem_nil, or_false, or_self] at m
        rw [m]
        exact hr3
      have xa := x9.trans (ExtN.ex eR)
      have ta := t9.ext (fun b o h => eR b o h)
      clear l_1 l_2 l_3 hr3 eR e_r e_rr e_r3 h_r h_rr h_r3 n_r n_rr n_r3 r19 r29 r39 g9 x9 t9 DbL
      repeat fail "st"
      refine ⟨ta, fun H6 x6 tb6 => ?_⟩
      have xc := xa.trans x6
      repeat fail "st"
      refine ⟨.ref g, worse, true, false, thG.upN xc, owG.1.upN xc, rfl, rfl, fun dx H7 e7 hd => ?_⟩
      refine ⟨dw, ⟨dx, worse, rfl, rfl, hd, (DwG.upN xc).up e7, Sw⟩, fun l4 H12 e8 r4 => ?_⟩
      have xd := xc.trans (ExtN.ex (e7.trans e8))
      have td := tb6.ext (fun b o h => (e7.trans e8) b o h)
      have DwL := DwG.upN xd
      clear hd e7 e8 x6 tb6 xc xa ta
      repeat fail "st"
      refine ⟨_, _, DwL, Sw, rfl, ?_⟩
      repeat fail "st"
      intro r5 n_r5
      generalize hh : upd _ r5 _ = H_r5
      have e_r5 := newEx hh n_r5
      have h_r5 := newAt hh
      clear hh
      refine ne_row (ok_of _) Sw.2.2 (e_r5 _ _ r4) h_r5 ?_
      repeat fail "st"
      exact ⟨_, _, _, _, rfl, e3.trans (xd.trans (ExtN.ex e_r5)), td.ext (fun b o h => e_r5 b o h)⟩
    · rintro _ H1 ⟨y, t, u, v, rfl, e1, tb1⟩
      repeat fail "st"
      exact q _ ((ExtN.ex eA).trans e1) tb1
end

end K02
namespace K02
open PySem PySem.Spec PyProof.Rows L2 Evl Lw
section
variable {P : Program} {w : World} {K : PySem.W.Frag} {mg : Str → Option Value} {base : Heap}
def spRightT (B : Addr) : Sp := fun vs H Q _ => ∃ p, vs = [.ref p] ∧ Pool H p ∧ LamX.Tabs [(B, lamQ)] H ∧ ∀ H', LamX.ExtN H H' → LamX.Tabs [(B, lamQ)] H' → Q (.bl true) H'
theorem c_law_right (T : Txt K mg) {C c B : Addr} (cR : ExcAt P w K mg base "InvalidRect" C) (no : PySem.W.findIn K (.ref C) "value" = some none) (D : Lw.DefC K mg "_law_refused_right" s_law_refused_right c) (TB : LamX.TabB base mg c B) :
    ClG P w K mg base CX0 10 "_law_right" s_law_right ["_law_pool_here"] (spRightT B) := by
  refine clG_of (k := 9) T.d_law_right sc_law_right (fun vs H Q E h => ?_) (fun f cdv A outer s H vs Q E gd hr h => ?_)
  · obtain ⟨p, rfl, _⟩ := h
    rfl
  · obtain ⟨p, rfl, hp, tabs, q⟩ := h
    have nd := sc_law_right.nd
    refine ⟨_, (pss_cons (ps_for PassesOwn.never rfl (pi_range1 (by rfl) T.b_range (pa_cons pe_int pa_nil)) (pg_name (i := 1) nd rfl (Or.inl rfl)) (pss_cons (ps_par (i := 2) (j := 3) rfl nd rfl rfl (by decide) rfl rfl (pa_cons (Lw.pe_cl (c_law_box T) b_law_box hr (by decide) (by rfl) pass0 (pa_cons (pv 0) pa_nil)) (pa_cons (Lw.pe_cl (c_law_box T) b_law_box hr (by decide) (by rfl) pass0 (pa_cons (pv 0) pa_nil)) pa_nil)) (by rfl))
      (pss_cons (ps_set (i := 4) nd rfl (Or.inl rfl) (Lw.pe_cl (c_law_due T) b_law_due hr (by decide) (by rfl) pass0 (pa_cons (pv 2) (pa_cons (pv 3) pa_nil))))
      (pss_cons (ps_if (PW.pt (pw_or (pt_cmpR (op_neD hr.units) (Lw.pe_cl (c_common T) b_common hr (by decide) (by rfl) pass0 (pa_cons (pv 2) (pa_cons (pv 3) pa_nil))) (pv 4) (nomark _)) (pw_or (pt_cmpR (op_neD hr.units) (Lw.pe_cl (c_common T) b_common hr (by decide) (by rfl) pass0 (pa_cons (pv 3) (pa_cons (pv 2) pa_nil))) (pv 4) (nomark _)) (pw_or1 (pt_cmpR (op_neD hr.units) (Lw.pe_clk0 (g := fun {_} => gk_bk_common_0_other_rect_rect) (c_common T) bk_common_0_other_rect_rect rk_bk_common_0_other_rect_rect hr (by decide) (by rfl) pass0 (pk_cons (pv 3) (pk_cons (pv 2) pk_nil))) (pv 4) (nomark _)))))) (pss_one (ps_ret pe_bl)) pss_nil)
      (pss_cons (ps_setLc (own := [("_law_box_here", 6)]) (g := gName 6) (tt := tYes) (i := 5) rfl nd rfl rfl (sw_true rfl rfl rfl (by decide +kernel)) (pi_list (pe_lst (pa_cons (pv 2) (pa_cons (pv 3) pa_nil)))) (L2.blkOk_by (N := N_law_right) (sc := defScope s_law_right) (by decide +kernel)) (fun _ _ _ _ _ => (pg_name (i := 6) nd rfl (Or.inl rfl))) (fun _ _ _ _ _ => pts_nil) (fun _ _ _ _ _ => (pe_callTy ((Lw.call_tupK : CallR _ _ (Lw.tupR K))) (by rfl) T.b_tuple bt_tuple (pa_cons (pe_lc (own := [("_law_place", 7)]) (g := gName 7) (tt := tYes) rfl nd (pi_tup (pv 6) : PI _ _ _ (iTup K _)) (L2.blkOk_by (by rfl)) (fun _ _ _ _ _ => (pg_name (i := 7) nd rfl (Or.inl rfl))) (fun _ _ _ _ _ => pts_nil) (fun _ _ _ _ _ => (pe_op op_mul (pe_op op_pow pe_int pe_int) (pv 7)))) pa_nil))))
      (pss_one (ps_if (pt_cmpR (op_neD hr.units) (Lw.pe_cl (c_common T) b_common hr (by decide) (by rfl) pass0 (pa_cons (pe_ix ix_seq (pv 5) pe_int (fun _ _ => rfl)) (pa_cons (pe_ix ix_seq (pv 5) pe_int (fun _ _ => rfl)) pa_nil))) (pe_ifExp (pt_cmpR op_isN (pv 4) pe_non (nomark _)) pe_non (pe_callTy (call_tuple_of) (by rfl) T.b_tuple bt_tuple (pa_cons (pe_lc (own := [("_law_place", 7)]) (g := gName 7) (tt := tYes) rfl nd (pi_tup (pv 4)) (L2.blkOk_by (N := N_law_right) (sc := defScope s_law_right) (by decide +kernel)) (fun _ _ _ _ _ => (pg_name (i := 7) nd rfl (Or.inl rfl))) (fun _ _ _ _ _ => pts_nil) (fun _ _ _ _ _ => (pe_op op_mul (pe_op op_pow pe_int pe_int) (pv 7)))) pa_nil))) (nomark _)) (pss_one (ps_ret pe_bl)) pss_nil)))))))
      (pss_one (ps_ret (Lw.pe_clG (c_law_refused_right T cR no D TB) b_law_refused_right gd hr (by decide) (by rfl) pass0 (pa_cons (pv 0) (pa_cons (Lw.pe_cl (c_law_box T) b_law_box hr (by decide) (by rfl) pass0 (pa_cons (pv 0) pa_nil)) pa_nil)))))), ?_⟩
    repeat fail "st"
    refine for_range (fun i σ H' => ∃ y1 y2 y3 y4 y5 y6 y7, σ = [some (.ref p), y1, y2, y3, y4, y5, y6, y7] ∧ Ex H H') ?_ ?_ ?_
    · exact ⟨_, _, _, _, _, _, _, rfl, Ex.refl _⟩
    · rintro i _ H1 hi ⟨y1, y2, y3, y4, y5, y6, y7, rfl, e1⟩
      have hp1 := hp.up e1
      repeat fail "st"
      intro t1 a H2 x1 ba sa
      have hp2 := hp1.up x1
      repeat fail "st"
      intro t2 b H3 x2 bb sb
      have ba3 := x2 _ _ ba
      repeat fail "st"
      refine ⟨t1, t2, a, b, ba3, bb, rfl, sa, sb, fun due H4 x3 od => ?_⟩
      repeat fail "st"
      have ba4 := x3 _ _ ba3
      have bb4 := x3 _ _ bb
      refine ⟨t1, t2, a, b, ba4, bb4, rfl, sa.good, sb.good, fun v5 H5 x4 o5 => ?_⟩
      have od5 := od.up x4
      have ba5 := x4 _ _ ba4
      have bb5 := x4 _ _ bb4
      repeat fail "st"
      refine ne_ov o5 od5 ?_
      repeat fail "st"
      refine ⟨t2, t1, b, a, bb5, ba5, rfl, sb.good, sa.good, fun v6 H6 x5 o6 => ?_⟩
      have od6 := od5.up x5
      have ba6 := x5 _ _ ba5
      have bb6 := x5 _ _ bb5
      rw [ovl_comm] at o6
      repeat fail "st"
      refine ne_ov o6 od6 ?_
      repeat fail "st"
      refine ⟨t1, t2, a, b, ba6, bb6, rfl, sa.good, sb.good, fun v7 H7 x6 o7 => ?_⟩
      have od7 := od6.up x6
      have ba7 := x6 _ _ ba6
      have bb7 := x6 _ _ bb6
      repeat fail "st"
      refine ne_ov o7 od7 ?_
      repeat fail "st"
      have eA := e1.trans (x1.trans (x2.trans (x3.trans (x4.trans (x5.trans x6)))))
      clear e1 x1 x2 x3 x4 x5 x6 o5 o6 o7 od od5 od6 ba ba3 ba4 ba5 ba6 bb bb4 bb5 bb6 hp1 hp2
      intro l n_l
      generalize hh : upd _ l _ = H_l
      have e_l := newEx hh n_l
      have h_l := newAt hh
      clear hh
      have od8 := od7.up e_l
      have ba8 := e_l _ _ ba7
      have bb8 := e_l _ _ bb7
      repeat fail "st"
      intro D1 hD1
      refine lcL (All fun i v H => ∃ t c, v = .ref t ∧ [big a, big b][i]? = some c ∧ BoxAt H t c) (all_mono fun i v H H' e ⟨t, c, h1, h2, h3⟩ => ⟨t, c, h1, h2, e _ _ (fun xs => by intro z; cases z) h3⟩) hD1 (SqL.of h_l) (by show 2 ≤ 50000; decide) (fun j x hj H' e' Q1 Q2 q1 q2 => ?_) (fun H9 os e9 hl9 hD9 hp9 => ?_)
      · obtain ⟨s, d, rfl, hd, bd⟩ : ∃ s d, x = .ref s ∧ [big a, big b][j]? = some (big d) ∧ BoxAt H' s d := by
          match j, hj with
          | 0, hj => exact ⟨t1, a, (Option.some.inj hj).symm, rfl, e' _ _ ba8⟩
          | 1, hj => exact ⟨t2, b, (Option.some.inj hj).symm, rfl, e' _ _ bb8⟩
        repeat fail "st"
        intro D_m hD_m
        refine lcT (All fun i v _ => ∃ k, [d.1, d.2.1, d.2.2.1, d.2.2.2][i]? = some k ∧ v = .int (100000000000 * k)) (all_mono fun _ _ _ _ _ h => h) hD_m (SqT.of bd) (by show 4 ≤ 50000; decide) (fun j y hj H' e Q1 Q2 q1 q2 => ?_) (fun H_m os e_m L_m hE_m hp_m => ?_)
        · obtain ⟨k, hk, rfl⟩ := get_ints (ns := [d.1, d.2.1, d.2.2.1, d.2.2.2]) hj
          repeat fail "st"
          refine ⟨.inl ⟨by decide, by decide⟩, q1 _ _ (Ex.refl _) ⟨_, rfl, k, hk, ?_⟩⟩
          show V.int (10 ^ Int.toNat 11 * k) = V.int (100000000000 * k)
          rw [show (10 : Int) ^ Int.toNat 11 = 100000000000 from by decide]
        obtain ⟨ys_m, ey_m, ly_m, hy_m⟩ := All.end hp_m
        rw [ey_m, ints_of_list (f := fun k => 100000000000 * k) (ks := [d.1, d.2.1, d.2.2.1, d.2.2.2]) (by rw [ly_m, L_m]; rfl) hy_m] at hE_m
        clear ey_m ly_m hy_m hp_m L_m
        repeat fail "st"
        refine ⟨D_m, _, rfl, .inl ⟨SqL.of hE_m, fun t_m n_m => ?_⟩⟩
        repeat fail "st"
        exact q1 _ _ (e_m.trans (Ex.new n_m)) ⟨_, rfl, t_m, big d, rfl, hd, upd_same⟩
      · obtain ⟨ys, ey, ly, hy⟩ := All.end hp9
        rw [ey] at hD9
        obtain ⟨g1, g2, rfl, bg1, bg2⟩ : ∃ g1 g2, ys = [.ref g1, .ref g2] ∧ BoxAt H9 g1 (big a) ∧ BoxAt H9 g2 (big b) := by
          rw [hl9] at ly
          match ys, ly, hy with
          | [u1, u2], _, hy =>
            obtain ⟨r1, c1, z1, z2, z3⟩ := hy 0 _ rfl
            obtain ⟨r2, c2, z4, z5, z6⟩ := hy 1 _ rfl
            cases z2
            cases z5
            exact ⟨r1, r2, by rw [z1, z4], z3, z6⟩
        have od9 := od8.up e9
        have eB := eA.trans (e_l.trans e9)
        clear hp9 ey ly hl9 hy e9 od8 od7 ba7 ba8 bb7 bb8 e_l h_l n_l eA
        repeat fail "st"
        refine ⟨g1, g2, big a, big b, bg1, bg2, rfl, sa.big, sb.big, fun v8 H10 x8 o8 => ?_⟩
        rw [ovl_big] at o8
        have od10 := od9.up x8
        repeat fail "st"
        cases ho : ovl a b with
        | none =>
          rw [ho] at od10 o8
          obtain rfl : due = .non := od10
          obtain rfl : v8 = .non := o8
          refine ifD (fun _ => ?_) (fun z => absurd rfl z)
          repeat fail "st"
          dsimp only [tC]
          refine ne_ov (o := none) rfl rfl ?_
          repeat fail "st"
          exact ⟨_, _, _, _, _, _, _, rfl, eB.trans x8⟩
        | some d =>
          rw [ho] at od10 o8
          obtain ⟨t3, rfl, bd⟩ := od10
          refine ifD (fun z => by cases z) (fun _ => ?_)
          repeat fail "st"
          intro D_n hD_n
          refine lcT (All fun i v _ => ∃ k, [d.1, d.2.1, d.2.2.1, d.2.2.2][i]? = some k ∧ v = .int (100000000000 * k)) (all_mono fun _ _ _ _ _ h => h) hD_n (SqT.of bd) (by show 4 ≤ 50000; decide) (fun j y hj H' e Q1 Q2 q1 q2 => ?_) (fun H_n os e_n L_n hE_n hp_n => ?_)
          · obtain ⟨k, hk, rfl⟩ := get_ints (ns := [d.1, d.2.1, d.2.2.1, d.2.2.2]) hj
            repeat fail "st"
            refine ⟨.inl ⟨by decide, by decide⟩, q1 _ _ (Ex.refl _) ⟨_, rfl, k, hk, ?_⟩⟩
            show V.int (10 ^ Int.toNat 11 * k) = V.int (100000000000 * k)
            rw [show (10 : Int) ^ Int.toNat 11 = 100000000000 from by decide]
          obtain ⟨ys_n, ey_n, ly_n, hy_n⟩ := All.end hp_n
          rw [ey_n, ints_of_list (f := fun k => 100000000000 * k) (ks := [d.1, d.2.1, d.2.2.1, d.2.2.2]) (by rw [ly_n, L_n]; rfl) hy_n] at hE_n
          clear ey_n ly_n hy_n hp_n L_n
          repeat fail "st"
          refine ⟨D_n, _, rfl, .inl ⟨SqL.of hE_n, fun t_n n_n => ?_⟩⟩
          repeat fail "st"
          have o9 := (o8.up e_n).up (Ex.new (o := .tup [.int (100000000000 * d.1), .int (100000000000 * d.2.1), .int (100000000000 * d.2.2.1), .int (100000000000 * d.2.2.2)]) n_n)
          refine ne_ov (o := some (big d)) o9 ⟨t_n, rfl, upd_same⟩ ?_
          repeat fail "st"
          exact ⟨_, _, _, _, _, _, _, rfl, eB.trans (x8.trans (e_n.trans (Ex.new n_n)))⟩
    · rintro _ H1 ⟨y1, y2, y3, y4, y5, y6, y7, rfl, e1⟩
      have hp1 := hp.up e1
      repeat fail "st"
      intro t b H2 x1 bt sb
      have e2 := e1.trans x1
      repeat fail "st"
      exact ⟨p, t, b, bt, rfl, hp.up e2, sb, tabs.ext (fun c o h => e2 c o h), fun H3 x3 t3 => q _ ((ExtN.ex e2).trans x3) t3⟩
end

end K02
namespace K02
open PySem PySem.Spec PyProof.Rows L2 Evl Lw
section
variable {P : Program} {w : World} {K : PySem.W.Frag} {mg : Str → Option Value} {base : Heap}
def spLawT (K : PySem.W.Frag) (B : Addr) : Sp := fun vs H Q _ => ∃ (a : Addr) (ns : List Int), vs = [.ref a] ∧ LamX.Tabs [(B, lamQ)] H ∧ SqL K H a (ns.map V.int) ∧ ns.length ≤ 63 ∧ ∀ H', Q (.bl true) H'
theorem c_law (T : Txt K mg) {C c B : Addr} (cR : ExcAt P w K mg base "InvalidRect" C) (no : PySem.W.findIn K (.ref C) "value" = some none) (D : Lw.DefC K mg "_law_refused_right" s_law_refused_right c) (TB : LamX.TabB base mg c B) :
    ClG P w K mg base CX0 12 "law" s_law ["_law_script"] (spLawT K B) := by
  refine clG_of (k := 11) T.d_law sc_law (fun vs H Q E h => ?_) (fun f cdv A outer s H vs Q E gd hr h => ?_)
  · obtain ⟨a, ns, rfl, _⟩ := h
    rfl
  · obtain ⟨a, ns, rfl, tabs, hS, hl, q⟩ := h
    have nd := sc_law.nd
    refine ⟨_, (pss_one (ps_ret (pe_callB (cr_all rfl) (by rfl) T.b_all bt_all (pa_cons (pe_lc (own := [("_law_k", 1)]) (g := gName 1) (tt := tYes) rfl nd (pi_range1 (by rfl) T.b_range (pa_cons (pe_callB (call_max2 rfl) (by rfl) T.b_max bt_max (pa_cons pe_int (pa_cons (pe_callB (call_min2 rfl) (by rfl) T.b_min bt_min (pa_cons (pe_callB (call_len) (by rfl) T.b_len bt_len (pa_cons (pv 0) pa_nil)) (pa_cons pe_int pa_nil))) pa_nil))) pa_nil)) (L2.blkOk_by (N := N_law) (sc := defScope s_law) (by decide +kernel)) (fun _ _ _ _ _ => (pg_name (i := 1) nd rfl (Or.inl rfl))) (fun _ _ _ _ _ => pts_nil) (fun _ _ _ _ _ => (Lw.pe_clG (c_law_right T cR no D TB) b_law_right gd hr (by decide) (by rfl) pass0 (pa_cons (Lw.pe_cl (c_law_pool T) b_law_pool hr (by decide) (by rfl) pass0 (pa_cons (Lw.pe_cl (c_law_cell T) b_law_cell hr (by decide) (by rfl) pass0 (pa_cons (pv 0) (pa_cons (pv 1) pa_nil))) pa_nil)) pa_nil)))) pa_nil)))), ?_⟩
    repeat fail "st"
    intro D1 hD1
    refine lcRT [(B, lamQ)] hD1 ?_ tabs (fun i hi H1 e1 t1 Q1 Q2 q1 => ?_) (fun H1 e1 t1 h1 => ?_)
    · (repeat' split) <;> omega
    · have hi6 : i ≤ 6 := by
        revert hi
        (repeat' split) <;> omega
      have hS' := sqN_l e1 hS
      repeat fail "st"
      refine ⟨_, _, _, rfl, (by fail "sql"), hl, by omega, by omega, fun c Hc ec => ?_⟩
      repeat fail "st"
      intro pl Hp np ep pp
      repeat fail "st"
      refine ⟨t1.ext (fun b o h => (ec.trans ep) b o h), fun H4 x4 t4 => ?_⟩
      exact q1 _ ((ExtN.ex (ec.trans ep)).trans x4) t4
    · refine ⟨_, _, rfl, SqL.of h1, ?_⟩
      rw [show (List.replicate _ true).all id = true from by simp]
      repeat fail "st"
      exact q _
theorem law_mk {l : PySem.W.OpenLaw} {h : Heap} {fa c B : Addr} (T : Txt K mg) (D : Lw.DefC K mg "_law_refused_right" s_law_refused_right c) {ce : Value} {dd : Option Addr} {vs : Array Value} {sl : Array (Option Value)} (hv : K.lookup c = some ⟨ce, dd, .fields vs, sl⟩) (ht : vs[11]? = some (.ref B))
    (hc : PySem.W.codeHdIn K c B = true) (hn : K.lookup B = none) (KX : K.In h) (hT : h.get? B = some noCodes) (hfa : mg "law" = some (.ref fa)) : LawG l w K CX0 12 63 "_law_script" mg fa h := by
  obtain ⟨fd, F, b⟩ := law_fd T.d_law b_law hfa
  refine ⟨fd, [(c, B)], spLawT K B, fun p m => ?_, fun p m => ?_, fun p m => ?_, b, fun H a ns hl tb hS => ?_, fun base _ _ TB => ?_⟩
  · obtain rfl : p = _ := by simpa using m
    exact hT
  · obtain rfl : p = _ := by simpa using m
    exact hn
  · obtain rfl : p = _ := by simpa using m
    exact PySem.W.codeHd_of_K KX hc
  · refine ⟨a, ns, rfl, fun p m => ?_, hS, hl, fun _ => rfl⟩
    obtain rfl : p = _ := by simpa using m
    exact LamX.TabS.nil (tb (c, B) (by simp))
  · obtain ⟨C, Bb, fi, fdi, mC, ox, iC, tI, Fi, no, mF, bc⟩ := T.x_InvalidRect.ex
    have cR : ExcAt l.prog w K mg base "InvalidRect" C := ⟨mC, ox, fi, fdi, iC, tI, init_ok mF bc ox no Fi, Fi.binds (fun _ _ _ _ _ _ us hl => match us, hl with | [_, _], _ => rfl)⟩
    exact (c_law T cR no D (TB (c, B) (by simp))).at F hfa
end

end K02
open PySem PySem.W PyProof.Rows
set_option maxHeartbeats 0 in
theorem PySem.Challenge.cw_allscreens_k02_common_rectangles_holds : PySem.Challenge.rw_allscreens_k02_common_rectangles.Holds := by
  w_on; o_law; k_head; (case hw => w_witness2)
  k_fill
  refine Lw.walk_gd (l := PySem.Challenge.rw_allscreens_k02_common_rectangles) (n := 63) (k := 12) (x := "_law_script") (CX := fun _ => L2.CX0) rfl (by decide) rfl ⟨rfl, by decide, by decide⟩ (fun w h Y => PySem.W.km_in_of Y) ?F (fun _ _ _ _ _ h => h)
  case F =>
    intro w mg fa h Y KX G hmg
    refine' K02.law_mk ⟨Lw.defAt_mk KX G ?a0 ?l0 ?c0 ?k0, Lw.defAt_mk KX G ?a1 ?l1 ?c1 ?k1, Lw.defAt_mk KX G ?a2 ?l2 ?c2 ?k2, Lw.defAt_mk KX G ?a3 ?l3 ?c3 ?k3, Lw.defAt_mk KX G ?a4 ?l4 ?c4 ?k4, Lw.defAt_mk KX G ?a5 ?l5 ?c5 ?k5, Lw.defAt_mk KX G ?a6 ?l6 ?c6 ?k6, Lw.defAt_mk KX G ?a7 ?l7 ?c7 ?k7, Lw.defAt_mk KX G ?a8 ?l8 ?c8 ?k8, Lw.defAt_mk KX G ?a9 ?l9 ?c9 ?k9, Lw.defAt_mk KX G ?a10 ?l10 ?c10 ?k10, Lw.defAt_mk KX G ?a11 ?l11 ?c11 ?k11, Lw.defAt_mk KX G ?a12 ?l12 ?c12 ?k12, Lw.defAt_mk KX G ?a13 ?l13 ?c13 ?k13, Lw.defAt_mk KX G ?a14 ?l14 ?c14 ?k14, Lw.defAt_mk KX G ?a15 ?l15 ?c15 ?k15, Lw.defAt_mk KX G ?a16 ?l16 ?c16 ?k16, PySem.W.mg_none_of KX G ?z0, PySem.W.mg_none_of KX G ?z1, PySem.W.mg_none_of KX G ?z2, PySem.W.mg_none_of KX G ?z3, PySem.W.mg_none_of KX G ?z4, PySem.W.mg_none_of KX G ?z5, PySem.W.mg_none_of KX G ?z6, PySem.W.mg_none_of KX G ?z7, PySem.W.mg_none_of KX G ?z8, PySem.W.mg_none_of KX G ?z9, PySem.W.mg_none_of KX G ?z10, PySem.W.mg_none_of KX G ?z11, PySem.W.mg_none_of KX G ?z12, PySem.W.mg_none_of KX G ?z13, PySem.W.mg_none_of KX G ?z14, PySem.W.mg_none_of KX G ?z15, PySem.W.mg_none_of KX G ?z16, Lw.clsAt_mk KX G ?xa0 ?xcl0 ?xr0 ?xsa0 ?xexC0 ?xtyC0 ?xkC0 ?xi0 ?xti0 ?xl0 ?xc0 ?xkp0 ?xno0 ?xaB0 ?xga0 ?xty0 ?xrd0 ?xfc0, Lw.errAt_mk KX G ?e0_0 ?e0_1 ?e0_2 ?e0_3 ?e0_4 ?e0_5 ?e0_6 ?e0_7 ?e0_8 ?e0_9 ?e0_10 ?e0_11 ?e0_12, Lw.askC_mk KX G ?q0_0 ?q0_1 ?q0_2, Lw.askC_mk KX G ?q1_0 ?q1_1 ?q1_2, Lw.askC_mk KX G ?q2_0 ?q2_1 ?q2_2, Lw.askC_mk KX G ?q3_0 ?q3_1 ?q3_2, Lw.askT_mk KX G ?qt0_0 ?qt0_1, Lw.const_mk KX G ?cst0 ?rst0⟩ (Lw.defC_mk KX G ?la0 ?ll0 ?li0 ?lk0) ?lv0 ?lt0 ?lh0 ?ln0 KX (PySem.W.km_tabs_of Y _ ?mem) hmg
    (case a0 => k_is)
    (case l0 => k_is)
    (case c0 => k_is)
    (case k0 => k_is)
    (case a1 => k_is)
    (case l1 => k_is)
    (case c1 => k_is)
    (case k1 => k_is)
    (case a2 => k_is)
    (case l2 => k_is)
    (case c2 => k_is)
    (case k2 => k_is)
    (case a3 => k_is)
    (case l3 => k_is)
    (case c3 => k_is)
    (case k3 => k_is)
    (case a4 => k_is)
    (case l4 => k_is)
    (case c4 => k_is)
    (case k4 => k_is)
    (case a5 => k_is)
    (case l5 => k_is)
    (case c5 => k_is)
    (case k5 => k_is)
    (case a6 => k_is)
    (case l6 => k_is)
    (case c6 => k_is)
    (case k6 => k_is)
    (case a7 => k_is)
    (case l7 => k_is)
    (case c7 => k_is)
    (case k7 => k_is)
    (case a8 => k_is)
    (case l8 => k_is)
    (case c8 => k_is)
    (case k8 => k_is)
    (case a9 => k_is)
    (case l9 => k_is)
    (case c9 => k_is)
    (case k9 => k_is)
    (case a10 => k_is)
    (case l10 => k_is)
    (case c10 => k_is)
    (case k10 => k_is)
    (case a11 => k_is)
    (case l11 => k_is)
    (case c11 => k_is)
    (case k11 => k_is)
    (case a12 => k_is)
    (case l12 => k_is)
    (case c12 => k_is)
    (case k12 => k_is)
    (case a13 => k_is)
    (case l13 => k_is)
    (case c13 => k_is)
    (case k13 => k_is)
    (case a14 => k_is)
    (case l14 => k_is)
    (case c14 => k_is)
    (case k14 => k_is)
    (case a15 => k_is)
    (case l15 => k_is)
    (case c15 => k_is)
    (case k15 => k_is)
    (case a16 => k_is)
    (case l16 => k_is)
    (case c16 => k_is)
    (case k16 => k_is)
    (case z0 => k_is)
    (case z1 => k_is)
    (case z2 => k_is)
    (case z3 => k_is)
    (case z4 => k_is)
    (case z5 => k_is)
    (case z6 => k_is)
    (case z7 => k_is)
    (case z8 => k_is)
    (case z9 => k_is)
    (case z10 => k_is)
    (case z11 => k_is)
    (case z12 => k_is)
    (case z13 => k_is)
    (case z14 => k_is)
    (case z15 => k_is)
    (case z16 => k_is)
    (case xa0 => k_is)
    (case xcl0 => k_is)
    (case xsa0 => k_is)
    (case xexC0 => k_is)
    (case xtyC0 => k_is)
    (case xkC0 => k_is)
    (case xi0 => k_is)
    (case xti0 => k_is)
    (case xl0 => k_is)
    (case xc0 => k_is)
    (case xkp0 => k_is)
    (case xno0 => k_is)
    (case xaB0 => k_is)
    (case xga0 => k_is)
    (case xty0 => k_is)
    (case xrd0 => k_is)
    (case xfc0 => k_is)
    (case e0_0 => k_is)
    (case e0_1 => k_is)
    (case e0_2 => k_is)
    (case e0_3 => k_is)
    (case e0_4 => kernel_rfl)
    (case e0_5 => k_is)
    (case e0_6 => k_is)
    (case e0_7 => k_is)
    (case e0_8 => k_is)
    (case e0_9 => k_is)
    (case e0_10 => k_is)
    (case e0_11 => k_is)
    (case e0_12 => k_is)
    (case q0_0 => k_is)
    (case q0_1 => k_is)
    (case q0_2 => kernel_rfl)
    (case q1_0 => k_is)
    (case q1_1 => k_is)
    (case q1_2 => kernel_rfl)
    (case q2_0 => k_is)
    (case q2_1 => k_is)
    (case q2_2 => kernel_rfl)
    (case q3_0 => k_is)
    (case q3_1 => k_is)
    (case q3_2 => kernel_rfl)
    (case qt0_0 => k_is)
    (case qt0_1 => kernel_rfl)
    (case cst0 => k_is)
    (case xr0 => first | rfl | decide +kernel)
    (case rst0 => exact ⟨_, rfl⟩)
    (case la0 => k_is)
    (case ll0 => k_is)
    (case lv0 => k_is)
    (case lt0 => rfl)
    (case li0 => k_is)
    (case lk0 => k_is)
    (case lh0 => kernel_rfl)
    (case ln0 => first | k_is | kernel_rfl)
    (case mem => first | decide | simp)
