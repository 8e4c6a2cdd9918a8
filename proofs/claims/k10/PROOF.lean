import PyProof.Rows.All
import Wide.All
import OpenK.AllK
import Wide.FinOn
import HandS.ForMost
import HandS.WideBits
import HandS.Wide
import HandS.IsInst
import HandS.Evl
import HandS.Codes
import HandS.Defaults
import HandS.Style
import HandS.RaiseMore
import KE.KDictPairs
import KE.KDictSum
import HandS.DictTup
import HandS.SortRule
import HandS.SortInts
import HandS.SetBool
import HandS.Strs
import HandS.Conv
import HandS.Deep
import HandS.Small
import HandS.TupAny
import PyProof.P3Eq
import HandS.ExcInit
import HandS.TryMany
import HandS.Lambda
import HandS.EndTab
import KE.KNestM
import HandS.ExcIs
import HandS.ExcField
import HandS.WordsExc
import KE.KExcIs
import KE.KTryMore
import HandS.Star
import PySem.Challenge.RW_allscreens_k10_whole_tables_that_keep_co
set_option Elab.async false
set_option linter.all false
set_option maxRecDepth 100000
set_option maxHeartbeats 1000000
/-! The base of all proofs here: pools of draws as opaque objects, calls, values told in a heap. -/
namespace Lw
open PySem PySem.Spec PyProof.Rows L2 Evl

/-! ### a pool of draws: a list of three ints, whatever they are -/
def poolP (p : Addr) : Heap → Prop := fun h => ∃ (a b c : Int) (its : List Value) (n : Nat), Vals [.int a, .int b, .int c] its ∧ h.get? p = some { cls := .type "list", data := .seq its.toArray n }
def Pool (H : Hp) (p : Addr) : Prop := H p = some (.ext (poolP p))
theorem three_line : (3 : Nat) ≤ sizeLine := by decide

section
variable {P : Program} {w : World} {H : Hp} {h : Heap} {p : Addr}
theorem pool_open (ok : HOk P w H h) (hp : Pool H p) : ∃ a b c : Int, HOk P w (upd H p (.lst [.int a, .int b, .int c])) h := by
  obtain ⟨⟨a, b, c, its, n, r, e⟩, _, _⟩ := ok p _ hp
  refine ⟨a, b, c, fun x o hx => ?_⟩
  by_cases hb : x = p
  · subst hb
    rw [upd_same] at hx
    cases hx
    exact ⟨three_line, its, n, r, e⟩
  · rw [upd_ne hb] at hx
    refine (ok x o hx).stay (fun _ _ _ q => q) (fun y q => ?_) (fun y xs q => ?_)
    · rw [upd_ne (ne_of q hp (by intro z; cases z))]
      exact q
    · rw [upd_ne (ne_of q hp (by intro z; cases z))]
      exact q
theorem pool_close {a b c : Int} (ok : HOk P w H h) (hp : H p = some (.lst [.int a, .int b, .int c])) : HOk P w (upd H p (.ext (poolP p))) h := by
  obtain ⟨_, its, n, r, e⟩ := ok p _ hp
  refine fun x o hx => ?_
  by_cases hb : x = p
  · subst hb
    rw [upd_same] at hx
    cases hx
    exact ⟨⟨a, b, c, its, n, r, e⟩, ⟨_, e⟩, fun h1 h2 ⟨a, b, c, its, n, r, e⟩ k => ⟨a, b, c, its, n, r, k _ e⟩⟩
  · rw [upd_ne hb] at hx
    refine (ok x o hx).stay (fun _ _ _ q => q) (fun y q => ?_) (fun y xs q => ?_)
    · rw [upd_ne (ne_of q hp (by intro z; cases z))]
      exact q
    · rw [upd_ne (ne_of q hp (by intro z; cases z))]
      exact q
end

section
variable {P : Program} {w : World} {K : PySem.W.Frag} {mg : Str → Option Value} {base : Heap} {k : Nat} {f : Addr} {fd : FuncData} {ps : List Str} {sp sp1 : Sp}
/-- at the end: a new list of three ints is handed back as a pool -/
theorem fn_newpool (F : FnOk P w K mg base CX0 k f fd ps sp1)
    (h : ∀ vs H Q E, sp vs H Q E → sp1 vs H (fun v H' => ∃ p a b c, v = .ref p ∧ H p = none ∧ H' p = some (.lst [.int a, .int b, .int c]) ∧ Q v (upd H' p (.ext (poolP p)))) E) :
    FnOk P w K mg base CX0 k f fd ps sp := by
  refine ⟨fun vs H Q E q => F.len _ _ _ _ (h _ _ _ _ q), fun A outer s H args us vs Q E hr he hb hv hs => ?_⟩
  refine codeAny_mono (F.run A outer s H args us vs _ E hr he hb hv (h _ _ _ _ hs)) fun r s' q => ?_
  cases r with
  | error e => exact q
  | ok fl =>
    cases fl with
    | next => exact q
    | brk => exact q
    | cont => exact q
    | ret u =>
      obtain ⟨v, H', os, bare, un, hok, r, p, a, b, c, rfl, hn, hp, q⟩ := q
      refine ⟨_, _, os, bare, ?_, pool_close hok hp, r, q⟩
      refine ⟨un.keep, un.slot, fun x o e n hx => ?_, un.there, fun x xs e => ?_, fun x o u e => ?_, fun x t e => ?_⟩
      · by_cases hb : x = p
        · subst hb
          have := un.free x o e n hx
          rw [hp] at this
          cases this
        · rw [upd_ne hb]
          exact un.free x o e n hx
      · rw [upd_ne (ne_of (un.tups x xs e) hp (by intro z; cases z))]
        exact un.tups x xs e
      · rw [upd_ne (ne_of (un.frzs x o u e) hp (by intro z; cases z))]
        exact un.frzs x o u e
      · obtain ⟨m, e2⟩ := un.tbls x t e
        rw [upd_ne (ne_of e2 hp (by intro z; cases z))]
        exact ⟨m, e2⟩
/-- a def that works at a pool's three ints, told as one that leaves the pool a pool -/
theorem fn_pool (F : FnOk P w K mg base CX0 k f fd ps sp1)
    (h : ∀ vs H Q E, sp vs H Q E → vs.length = ps.length ∧ ∃ p, Pool H p ∧ ∀ a b c : Int, sp1 vs (upd H p (.lst [.int a, .int b, .int c])) (fun v H' => ∃ a b c : Int, H' p = some (.lst [.int a, .int b, .int c]) ∧ Q v (upd H' p (.ext (poolP p)))) E) :
    FnOk P w K mg base CX0 k f fd ps sp := by
  refine ⟨fun vs H Q E q => (h _ _ _ _ q).1, fun A outer s H args us vs Q E hr he hb hv hs => ?_⟩
  obtain ⟨_, p, hp, hs⟩ := h _ _ _ _ hs
  obtain ⟨a, b, c, ok⟩ := pool_open he.hok hp
  have e1 : Env0 P w K mg base A outer s (upd H p (.lst [.int a, .int b, .int c])) :=
    ⟨he.frames, he.mod, fun x o e => ⟨(he.bs x o e).1, by rw [upd_ne (ne_of_none hp (he.bs x o e).2).symm]; exact (he.bs x o e).2⟩, he.bsz, he.funs,
      fun x hx => by rw [upd_ne (ne_of_none hp (he.frf x hx)).symm]; exact he.frf x hx, ok, he.bare⟩
  refine codeAny_mono (F.run A outer s _ args us vs _ E hr e1 hb hv (hs a b c)) fun r s' q => ?_
  cases r with
  | error e => exact q
  | ok fl =>
    cases fl with
    | next => exact q
    | brk => exact q
    | cont => exact q
    | ret u =>
      obtain ⟨v, H', os, bare, un, hok, r, a', b', c', hq, q⟩ := q
      refine ⟨_, _, os, bare, ?_, pool_close hok hq, r, q⟩
      have nn : ∀ {x}, H x = none → (upd H p (.lst [.int a, .int b, .int c])) x = none := fun {x} n => by rw [upd_ne (ne_of_none hp n).symm]; exact n
      refine ⟨fun x o e n => un.keep x o e (nn n), fun x o e n => un.slot x o e (nn n), fun x o e n hx => ?_, un.there, fun x xs e => ?_, fun x o u e => ?_, fun x t e => ?_⟩
      · rw [upd_ne (ne_of_none hp n).symm]
        exact un.free x o e (nn n) hx
      · have hb : x ≠ p := ne_of e hp (by intro z; cases z)
        rw [upd_ne hb]
        exact un.tups x xs (by rw [upd_ne hb]; exact e)
      · have hb : x ≠ p := ne_of e hp (by intro z; cases z)
        rw [upd_ne hb]
        exact un.frzs x o u (by rw [upd_ne hb]; exact e)
      · have hb : x ≠ p := ne_of e hp (by intro z; cases z)
        obtain ⟨m, e2⟩ := un.tbls x t (by rw [upd_ne hb]; exact e)
        exact ⟨m, by rw [upd_ne hb]; exact e2⟩
end

/-! ### a def of the text, its name; a def that may be called -/
structure DefAt (K : PySem.W.Frag) (mg : Str → Option Value) (x : Str) (st : Stmt) : Prop where
  ex : ∃ (f : Addr) (fd : FuncData), Fun K x x st f fd ∧ mg x = some (.ref f)
/-- all parameters are written, by position -/
def Bnd (x : Str) (st : Stmt) (ps : List Str) : Prop := ∀ (kV doc pm : Value) (an : Option Addr) (cdv ct : Value) (us : List Value), us.length = ps.length →
  bindArgs (PySem.W.fnOf x x (defArgs st) (defBody st) (defScope st) .none kV doc pm an cdv ct) ⟨us, []⟩ = pure (ps.zip us)
/-- n by position, the others by the names ks -/
def BndK (x : Str) (st : Stmt) (ps : List Str) (n : Nat) (ks : List Str) (g : {α : Type} → List α → List α → List α) : Prop :=
  ∀ (kV doc pm : Value) (an : Option Addr) (cdv ct : Value) (us ws : List Value), us.length = n → ws.length = ks.length →
  bindArgs (PySem.W.fnOf x x (defArgs st) (defBody st) (defScope st) .none kV doc pm an cdv ct) ⟨us, ks.zip ws⟩ = pure (ps.zip (g us ws))
structure Cl (P : Program) (w : World) (K : PySem.W.Frag) (mg : Str → Option Value) (base : Heap) (CX : CXT) (k : Nat) (x : Str) (st : Stmt) (ps : List Str) (sp : Sp) : Prop where
  ex : ∃ (f : Addr) (fd : FuncData), Fun K x x st f fd ∧ FnOk P w K mg base CX k f fd ps sp ∧ mg x = some (.ref f)
section
variable {P : Program} {w : World} {K : PySem.W.Frag} {mg : Str → Option Value} {base : Heap} {k : Nat} {x : Str} {st : Stmt} {ps N : List Str} {sp sp1 : Sp}
theorem cl_of (D : DefAt K mg x st) (S : FnScope N ps (defScope st)) (len : ∀ vs H Q E, sp vs H Q E → vs.length = ps.length)
    (hbody : ∀ (f : Addr) (cdv : Value) (A : Around) (outer : List Env) (s : Shared) (H : Hp) (vs : List V) (Q : VK) (E : XK), Room k (A.deeper (envOfC x (defScope st) s.heap.objs.size f cdv)) → sp vs H Q E →
      ∃ t, PSs (cxOf CX0 P w K mg base N x (defScope st) f cdv A outer s H E).nox (defBody st) t ∧ t { nx := fun _ H' => Q .non H', rt := Q } (start N vs) H) : Cl P w K mg base CX0 (k + 1) x st ps sp := by
  obtain ⟨f, fd, F, m⟩ := D.ex
  exact ⟨f, fd, F, F.ok S len (hbody f), m⟩
theorem Cl.pool (c : Cl P w K mg base CX0 k x st ps sp1)
    (h : ∀ vs H Q E, sp vs H Q E → vs.length = ps.length ∧ ∃ p, Pool H p ∧ ∀ a b c : Int, sp1 vs (upd H p (.lst [.int a, .int b, .int c])) (fun v H' => ∃ a b c : Int, H' p = some (.lst [.int a, .int b, .int c]) ∧ Q v (upd H' p (.ext (poolP p)))) E) :
    Cl P w K mg base CX0 k x st ps sp := by
  obtain ⟨f, fd, F, o, m⟩ := c.ex
  exact ⟨f, fd, F, fn_pool o h, m⟩
theorem Cl.newpool (c : Cl P w K mg base CX0 k x st ps sp1)
    (h : ∀ vs H Q E, sp vs H Q E → sp1 vs H (fun v H' => ∃ p a b c, v = .ref p ∧ H p = none ∧ H' p = some (.lst [.int a, .int b, .int c]) ∧ Q v (upd H' p (.ext (poolP p)))) E) :
    Cl P w K mg base CX0 k x st ps sp := by
  obtain ⟨f, fd, F, o, m⟩ := c.ex
  exact ⟨f, fd, F, fn_newpool o h, m⟩
theorem Cl.imp {CX : CXT} (c : Cl P w K mg base CX k x st ps sp) (h : ∀ vs H Q E, sp1 vs H Q E → sp vs H Q E) : Cl P w K mg base CX k x st ps sp1 := by
  obtain ⟨f, fd, F, o, m⟩ := c.ex
  exact ⟨f, fd, F, o.imp h, m⟩
end
section
variable {X : Cx} {CX : CXT} {k j n : Nat} {x : Str} {st : Stmt} {sp : Sp} {ps ks : List Str} {p pos : Pos} {e : Expr} {es : List Expr} {kws : List Keyword} {t tk : TA} {E : XK}
/-- f(a, ..): all parameters by position -/
theorem pe_cl (c : Cl X.prog X.w X.K X.mg X.base CX k x st ps sp) (b : Bnd x st ps) (hr : Room j X.A) (hk : k ≤ j) (hg : Gl X x) (hx : Passes CX X E) (ha : PA X (e :: es) t)
    (hdb : (x == ("__debug__" : Str)) = false := by decide) (he : starEach (e :: es) X.env = (false, eval e X.env) :: starEach es X.env := by rfl) (hpl : (backTo pos (starEach es X.env)).any (·.1) = false := by rfl) :
    PE X (.Call (.Name x p) (e :: es) [] pos) (tCall sp [] E t) := by
  obtain ⟨f, fd, F, o, m⟩ := c.ex
  exact pe_call o (hr.mono hk) hg m F.kp (F.binds b) .nil hx ha hdb he hpl
theorem kbn_of {K : PySem.W.Frag} {f : Addr} {fd : FuncData} {g : {α : Type} → List α → List α → List α} (F : Fun K x x st f fd) (b : BndK x st ps n ks g)
    (hrel : ∀ {vs zs : List V} {us ws : List Value}, Vals vs us → Vals zs ws → Vals (g vs zs) (g us ws)) : KBn K fd ps n ks (fun us ws => g us ws) (fun vs zs => g vs zs) := by
  obtain ⟨oc, od, kV, doc, pm, an, cdv, ct, osl, rfl, lk, hcd⟩ := F.ex
  exact ⟨fun s us ws _ h1 h2 => .of_eq (b kV doc pm an cdv ct us ws h1 h2), hrel⟩
/-- f(a, .., k = v, ..): all parameters written -/
theorem pe_clk {g : {α : Type} → List α → List α → List α} (c : Cl X.prog X.w X.K X.mg X.base CX k x st ps sp) (b : BndK x st ps n ks g)
    (hrel : ∀ {vs zs : List V} {us ws : List Value}, Vals vs us → Vals zs ws → Vals (g vs zs) (g us ws))
    (hr : Room j X.A) (hk : k ≤ j) (hg : Gl X x) (hx : Passes CX X E) (ha : PA X (e :: es) t) (hkw : PK X kws tk) (hall : (backToKw pos (keywordEach kws X.env)).all (·.1.isSome) = true := by rfl)
    (hks : (backToKw pos (keywordEach kws X.env)).filterMap (·.1) = ks := by rfl) (hdb : (x == ("__debug__" : Str)) = false := by decide) (he : starEach (e :: es) X.env = (false, eval e X.env) :: starEach es X.env := by rfl)
    (hpl : ((backTo pos (starEach (e :: es) X.env)).any (·.1) || (backToKw pos (keywordEach kws X.env)).any (·.1.isNone)) = false := by rfl) :
    PE X (.Call (.Name x p) (e :: es) kws pos) (tCallN n ks.length sp g E t tk) := by
  obtain ⟨f, fd, F, o, m⟩ := c.ex
  exact pe_callN o (hr.mono hk) hg m F.kp (kbn_of F b hrel) hx ha hkw hall hks hdb he hpl
/-- f(k = v, ..): all by name -/
theorem pe_clk0 {g : {α : Type} → List α → List α → List α} (c : Cl X.prog X.w X.K X.mg X.base CX k x st ps sp) (b : BndK x st ps 0 ks g)
    (hrel : ∀ {vs zs : List V} {us ws : List Value}, Vals vs us → Vals zs ws → Vals (g vs zs) (g us ws))
    (hr : Room j X.A) (hk : k ≤ j) (hg : Gl X x) (hx : Passes CX X E) (hkw : PK X kws tk) (hall : (backToKw pos (keywordEach kws X.env)).all (·.1.isSome) = true := by rfl)
    (hks : (backToKw pos (keywordEach kws X.env)).filterMap (·.1) = ks := by rfl) (hdb : (x == ("__debug__" : Str)) = false := by decide)
    (hpl : ((backTo pos (starEach [] X.env)).any (·.1) || (backToKw pos (keywordEach kws X.env)).any (·.1.isNone)) = false := by rfl) :
    PE X (.Call (.Name x p) [] kws pos) (tCallN 0 ks.length sp g E tNil tk) := by
  obtain ⟨f, fd, F, o, m⟩ := c.ex
  refine ⟨fun pins s σ H Q I h => ?_⟩
  refine wpAny_Call_Name_kw (ld_glob I hg m ?_ hdb)
  refine PySem.W.callWith_KW0 (h₀ := X.base) I.ok.mod.kin F.kp hall ?_ hpl
  refine thn (hkw.run pos pins s σ H _ I h) fun ws s2 ⟨zs, H2, I2, rz, l1, l2, q2⟩ => ⟨I2.kIn, ?_⟩
  rw [hks]
  exact run_fnN o (hr.mono hk) (kbn_of F b hrel) hx I2 .nil rz l1 l2 q2
/-- repr of a truth -/
theorem call_repr_bl : CallR X (.builtin "repr") (fun xs H Q => ∃ b, xs = [.bl b] ∧ Q (.str (if b then "True" else "False")) H) := by
  intro pins s σ H xs us Q I r h
  obtain ⟨b, rfl, q⟩ := h
  obtain ⟨u, rfl, rfl⟩ := vals1 r
  exact PySem.P.repr_of_bool ⟨.str _, H, I.tok _, ⟨_, rfl⟩, q⟩
end

section
variable {P : Program} {w : World} {K : PySem.W.Frag} {mg : Str → Option Value} {base : Heap} {k : Nat} {x : Str} {st : Stmt} {ps : List Str} {sp : Sp} {CX : CXT}
theorem defAt_mk {h : Heap} {f : Addr} {oc : Value} {od an : Option Addr} {osl : Array (Option Value)} {kV doc pm cdv ct : Value} (X : K.In h) (G : h.Ns mainGlobals mg) (a : PySem.W.nsIn K mainGlobals x = some (some (.ref f)))
    (l : K.lookup f = some ⟨oc, od, .func (PySem.W.fnOf x x (defArgs st) (defBody st) (defScope st) .none kV doc pm an cdv ct), osl⟩) (c : PySem.W.codeIn K cdv x = true) (kp : PySem.W.keepIn K (.ref f) = true) : DefAt K mg x st :=
  ⟨f, _, fun_mk l c kp, PySem.W.mg_of X G a⟩
/-- a def's object is one -/
theorem Cl.at {f : Addr} {fd : FuncData} (c : Cl P w K mg base CX k x st ps sp) (F : Fun K x x st f fd) (m : mg x = some (.ref f)) : FnOk P w K mg base CX k f fd ps sp := by
  obtain ⟨f', fd', F', o, m'⟩ := c.ex
  rw [m] at m'
  cases m'
  obtain ⟨oc, od, kV, doc, pm, an, cdv, ct, osl, rfl, lk, _⟩ := F.ex
  obtain ⟨oc', od', kV', doc', pm', an', cdv', ct', osl', rfl, lk', _⟩ := F'.ex
  have e := Option.some.inj (lk.symm.trans lk')
  injection e with _ _ e _
  injection e with e
  rw [e]
  exact o
end

/-! ### the law's draws -/
/-- what is handed back is told by P, all that stood stands -/
def Gets (Pv : V → Hp → Prop) (H : Hp) (Q : VK) : Prop := ∀ v H', Ex H H' → Pv v H' → Q v H'
def spCell (K : PySem.W.Frag) : Sp := fun vs H Q _ => ∃ (a : Addr) (ns : List Int) (i : Int), vs = [.ref a, .int i] ∧ SqL K H a (ns.map V.int) ∧ ns.length ≤ 63 ∧ 0 ≤ i ∧ i ≤ 63 ∧ ∀ (v : Int) H', Ex H H' → Q (.int v) H'
def spPool : Sp := fun vs H Q _ => ∃ i : Int, vs = [.int i] ∧ ∀ p H', H p = none → Ex H H' → Pool H' p → Q (.ref p) H'
def spDraw : Sp := fun vs H Q _ => ∃ (p : Addr) (m : Int), vs = [.ref p, .int m] ∧ Pool H p ∧ 0 < m ∧ m < 2 ^ 128 ∧ ∀ (v : Int) H', Ex H H' → 0 ≤ v → v < m → Q (.int v) H'
def spPool1 : Sp := fun vs H Q _ => ∃ i : Int, vs = [.int i] ∧ ∀ p H' (a b c : Int), H p = none → H' p = some (.lst [.int a, .int b, .int c]) → Ex H H' → Q (.ref p) H'
def spDraw1 : Sp := fun vs H Q _ => ∃ (p : Addr) (m a b c : Int), vs = [.ref p, .int m] ∧ H p = some (.lst [.int a, .int b, .int c]) ∧ 0 < m ∧ m < 2 ^ 128 ∧
  ∀ (v : Int) H' (a b c : Int), (∀ x o, x ≠ p → H x = some o → H' x = some o) → H' p = some (.lst [.int a, .int b, .int c]) → 0 ≤ v → v < m → Q (.int v) H'
theorem spPool_of : ∀ vs H Q E, spPool vs H Q E → spPool1 vs H (fun v H' => ∃ p a b c, v = .ref p ∧ H p = none ∧ H' p = some (.lst [.int a, .int b, .int c]) ∧ Q v (upd H' p (.ext (poolP p)))) E := by
  rintro vs H Q E ⟨i, rfl, q⟩
  refine ⟨i, rfl, fun p H' a b c hn hp e => ⟨p, a, b, c, rfl, hn, hp, q p _ hn (fun x o hx => ?_) upd_same⟩⟩
  rw [upd_ne (ne_of_none hx hn)]
  exact e x o hx
theorem spDraw_of : ∀ vs H Q E, spDraw vs H Q E → vs.length = 2 ∧ ∃ p, Pool H p ∧ ∀ a b c : Int, spDraw1 vs (upd H p (.lst [.int a, .int b, .int c])) (fun v H' => ∃ a b c : Int, H' p = some (.lst [.int a, .int b, .int c]) ∧ Q v (upd H' p (.ext (poolP p)))) E := by
  rintro vs H Q E ⟨p, m, rfl, hp, h0, h1, q⟩
  refine ⟨rfl, p, hp, fun a b c => ⟨p, m, a, b, c, rfl, upd_same, h0, h1, fun v H' a' b' c' k hq v0 v1 => ⟨a', b', c', hq, q v _ (fun x o hx => ?_) v0 v1⟩⟩⟩
  by_cases hb : x = p
  · subst hb
    rw [hp] at hx
    cases hx
    exact upd_same
  · rw [upd_ne hb]
    exact k x o hb (by rw [upd_ne hb]; exact hx)
theorem log2_lt {m : Int} (h0 : 0 < m) (h1 : m < 2 ^ 128) : m.natAbs.log2 < 9000 := by
  have e : m.natAbs < 2 ^ 128 := by omega
  have := (Nat.log2_lt (by omega : m.natAbs ≠ 0)).mpr e
  omega
theorem cdivp {i m : Int} (h0 : 0 < m) (h1 : m < 2 ^ 128) : CDivP i m := ⟨h0, PyProof.noPylong_of_log2 (log2_lt h0 h1)⟩
theorem atI_0 {a b c : V} : atI [a, b, c] 0 = some a := rfl
theorem atI_1 {a b c : V} : atI [a, b, c] 1 = some b := rfl
theorem atI_2 {a b c : V} : atI [a, b, c] 2 = some c := rfl
theorem ex_rdL {K : PySem.W.Frag} {H H' : Hp} {a : Addr} {xs : List V} (e : Ex H H') (h : SqL K H a xs) : SqL K H' a xs := ex_l e h
theorem line_ge : (100000 : Nat) ≤ sizeLine := by decide
/-! ### tests with two ways -/
theorem ifD {p A B : Prop} [Decidable p] (h1 : p → A) (h2 : ¬ p → B) : if decide p = true then A else B := by
  by_cases h : p
  · rw [if_pos (decide_eq_true h)]; exact h1 h
  · rw [if_neg (by simpa using h)]; exact h2 h
theorem ifN {p A B : Prop} [Decidable p] (h1 : ¬ p → A) (h2 : p → B) : if (!decide p) = true then A else B := by
  by_cases h : p
  · rw [if_neg (by simpa using h)]; exact h2 h
  · rw [if_pos (by simpa using h)]; exact h1 h
theorem ifB {b : Bool} {A B : Prop} (h1 : b = true → A) (h2 : b = false → B) : if b = true then A else B := by
  cases b with
  | true => exact h1 rfl
  | false => exact h2 rfl
theorem upd_new {H : Hp} {t a : Addr} {o u : HO} (ht : H t = none) (ha : H a = some o) : upd H t u a = some o := by
  rw [upd_ne (ne_of_none ha ht)]
  exact ha
theorem ex_at {H H' : Hp} {a : Addr} {o : HO} (e : Ex H H') (ha : H a = some o) : H' a = some o := e a o ha
/-- all but p stand -/
def But (p : Addr) (H H' : Hp) : Prop := ∀ x o, x ≠ p → H x = some o → H' x = some o
theorem But.refl {p : Addr} {H : Hp} : But p H H := fun _ _ _ h => h
theorem But.new {p t : Addr} {H H' : Hp} {o : HO} (b : But p H H') (ht : H' t = none) : But p H (upd H' t o) := fun x u n h => upd_new ht (b x u n h)
theorem But.mut {p : Addr} {H H' : Hp} {o : HO} (b : But p H H') : But p H (upd H' p o) := fun x u n h => by
  rw [upd_ne n]
  exact b x u n h
theorem cut_int {ns : List Int} {lo hi : Option Int} {i : Nat} {x : V} (h : (cutV (ns.map V.int) lo hi)[i]? = some x) : ∃ n, x = .int n := by
  have hm := List.mem_of_getElem? h
  have hm2 : x ∈ ns.map V.int := by
    unfold cutV at hm
    exact List.mem_of_mem_drop (List.mem_of_mem_take hm)
  obtain ⟨n, _, e⟩ := List.mem_map.mp hm2
  exact ⟨n, e.symm⟩

/-! ### kinds of values -/
inductive Kd (H : Hp) : V → String → Prop
  | non : Kd H .non "NoneType"
  | bl (b : Bool) : Kd H (.bl b) "bool"
  | int (i : Int) : Kd H (.int i) "int"
  | str (x : Str) : Kd H (.str x) "str"
  | lst {a : Addr} {xs : List V} (h : H a = some (.lst xs)) : Kd H (.ref a) "list"
  | tup {a : Addr} {xs : List V} (h : H a = some (.tup xs)) : Kd H (.ref a) "tuple"
  | fz {a : Addr} {o : Obj} {xs : List V} (h : H a = some (.frz o (.tup xs))) : Kd H (.ref a) "tuple"
  | dK {a : Addr} {kvs : List (Key × V)} (h : H a = some (.dK kvs)) : Kd H (.ref a) "dict"
def kinds : List String := ["NoneType", "bool", "int", "str", "list", "tuple", "dict"]
def isK (n c : String) : Bool := n == c || (n == "bool" && c == "int")
theorem Kd.mem {H : Hp} {v : V} {n : String} (k : Kd H v n) : n ∈ kinds := by cases k <;> decide
theorem Kd.ty {K : PySem.W.Frag} {H : Hp} {v : V} {n : String} (k : Kd H v n) : TyX K H v (.type n) := by
  cases k with
  | non => exact .base .non
  | bl b => exact .base (.bl b)
  | int i => exact .base (.int i)
  | str x => exact .base (.str x)
  | lst h => exact .base (.lst h)
  | tup h => exact .base (.tup h)
  | fz h => exact .fTuple h
  | dK h => exact .base (.dK h)
theorem kit_all : ∀ n ∈ kinds, ∀ c ∈ ["int", "bool", "tuple", "str", "list", "dict"], kitB n c = some (isK n c) := by decide +kernel
theorem kit_k {K : PySem.W.Frag} {H : Hp} {v : V} {n c : String} (k : Kd H v n) (hc : c ∈ ["int", "bool", "tuple", "str", "list", "dict"]) : PySem.W.kitOne K (.type n) (.type c) = some (isK n c) := kit_ty (kit_all n k.mem c hc)
theorem Kd.ex {H H' : Hp} {v : V} {n : String} (k : Kd H v n) (e : Ex H H') : Kd H' v n := by
  cases k with
  | non => exact .non
  | bl b => exact .bl b
  | int i => exact .int i
  | str x => exact .str x
  | lst h => exact .lst (e _ _ h)
  | tup h => exact .tup (e _ _ h)
  | fz h => exact .fz (e _ _ h)
  | dK h => exact .dK (e _ _ h)
/-- an integer (no truth) within bounds -/
def inB (lo hi : Int) : V → Bool
  | .int i => decide (lo ≤ i) && decide (i ≤ hi)
  | _ => false
def spInteger : Sp := fun vs H Q _ => ∃ v n, vs = [v] ∧ Kd H v n ∧ Q (.bl (n == "int")) H
def spBetween : Sp := fun vs H Q _ => ∃ v lo hi n, vs = [v, .int lo, .int hi] ∧ Kd H v n ∧ Q (.bl (inB lo hi v)) H
def spNumber : Sp := fun vs H Q _ => ∃ v n, vs = [v] ∧ Kd H v n ∧ Q (.bl (inB (-1000000000000) 1000000000000 v)) H
def rectL : List V → Bool
  | [a, b, c, d] => inB (-1000000000000) 1000000000000 a && inB (-1000000000000) 1000000000000 b && inB 0 1000000000000 c && inB 0 1000000000000 d
  | _ => false
/-- a value that is looked at as a rectangle: no tuple, or a tuple of values of known kinds -/
inductive Th (H : Hp) : V → Bool → Prop
  | other {v : V} {n : String} (k : Kd H v n) (h : n ≠ "tuple") : Th H v false
  | tup {a : Addr} {xs : List V} (h : H a = some (.tup xs)) (ks : ∀ x ∈ xs, ∃ n, Kd H x n) : Th H (.ref a) (rectL xs)
def spRect : Sp := fun vs H Q _ => ∃ v b, vs = [v] ∧ Th H v b ∧ Q (.bl b) H
theorem int_yes {H : Hp} {v : V} {n : String} (k : Kd H v n) (h : isK n "int" = true) : (n == "int") = !isK n "bool" := by
  have hm := k.mem
  exact (by decide : ∀ n ∈ kinds, isK n "int" = true → (n == "int") = !isK n "bool") n hm h
theorem int_no {n : String} (h : isK n "int" = false) : (n == "int") = false := by
  unfold isK at h
  cases e : n == "int" with
  | true => rw [e] at h; cases h
  | false => rfl
theorem Kd.of_int {H : Hp} {v : V} {n : String} (k : Kd H v n) (h : (n == "int") = true) : ∃ i, v = .int i := by
  cases k <;> first | exact ⟨_, rfl⟩ | exact absurd h (by decide)
theorem inB_no {H : Hp} {lo hi : Int} {v : V} {n : String} (k : Kd H v n) (h : (n == "int") = false) : inB lo hi v = false := by
  cases k <;> first | rfl | exact absurd h (by decide)
theorem isK_ne {n c : String} (h : n ≠ c) (hb : c ≠ "int") : isK n c = false := by
  unfold isK
  rw [beq_eq_false_iff_ne.mpr h, beq_eq_false_iff_ne.mpr hb]
  cases n == "bool" <;> rfl
theorem rectL_len {xs : List V} (h : xs.length ≠ 4) : rectL xs = false := by
  unfold rectL
  split
  · exact absurd rfl h
  · rfl
theorem four {xs : List V} (h : xs.length = 4) : ∃ a b c d, xs = [a, b, c, d] := match xs, h with
  | [a, b, c, d], _ => ⟨a, b, c, d, rfl⟩
theorem lenN {n m : Nat} : V.int (n : Int) = V.int (m : Int) ↔ n = m := by
  constructor
  · intro h
    injection h with h
    exact Int.ofNat_inj.mp h
  · intro h; rw [h]
theorem ifNt {b : Bool} {A B : Prop} (h1 : b = false → A) (h2 : b = true → B) : if (!b) = true then A else B := by
  cases b with
  | true => exact h2 rfl
  | false => exact h1 rfl

theorem sqlK {K K' : PySem.W.Frag} {H : Hp} {a : Addr} {xs : List V} (h : SqL K H a xs) (e : K' = K) : SqL K' H a xs := e ▸ h
theorem sqtK {K K' : PySem.W.Frag} {H : Hp} {a : Addr} {xs : List V} (h : SqT K H a xs) (e : K' = K) : SqT K' H a xs := e ▸ h
/-! ### list comprehensions, told item by item -/
/-- all but lists stand -/
def ExT (H H' : Hp) : Prop := ∀ a o, (∀ xs, o ≠ HO.lst xs) → H a = some o → H' a = some o
theorem Ex.exT {H H' : Hp} (e : Ex H H') : ExT H H' := fun a o _ h => e a o h
theorem ExT.wr {H : Hp} {D : Addr} {xs : List V} {o : HO} (h : H D = some (.lst xs)) : ExT H (upd H D o) := fun a u n ha => by
  rw [upd_ne (ne_of ha h (n xs))]
  exact ha
theorem ExT.trans {H H1 H2 : Hp} (a : ExT H H1) (b : ExT H1 H2) : ExT H H2 := fun x o n h => b x o n (a x o n h)
/-- what a turn makes: some item or none -/
abbrev PeT := Nat → Option V → Hp → Prop
def Mono (Pe : PeT) : Prop := ∀ i o H H', ExT H H' → Pe i o H → Pe i o H'
structure LcI (H1 : Hp) (D : Addr) (Pe : PeT) (i : Nat) (H : Hp) : Prop where
  new : H1 D = none
  ex : Ex H1 H
  its : ∃ os : List (Option V), os.length = i ∧ H D = some (.lst (os.filterMap id)) ∧ ∀ m o, os[m]? = some o → Pe m o H
section
variable {H1 H H4 : Hp} {D : Addr} {Pe : PeT} {i n : Nat} {y : V}
theorem LcI.start (h : H1 D = none) : LcI H1 D Pe 0 (upd H1 D (.lst [])) := ⟨h, Ex.new h, [], rfl, upd_same, fun m o e => by simp at e⟩
theorem LcI.more (I : LcI H1 D Pe i H) (mono : Mono Pe) (hi : i < 50000) (e : Ex H H4) (p : Pe i (some y) H4) :
    ∃ acc, H4 D = some (.lst acc) ∧ acc.length < sizeLine ∧ LcI H1 D Pe (i + 1) (upd H4 D (.lst (acc ++ [y]))) := by
  obtain ⟨hn, e1, os, hl, hD, hp⟩ := I
  have hD4 := e _ _ hD
  have hT : ExT H4 (upd H4 D (.lst (os.filterMap id ++ [y]))) := ExT.wr hD4
  refine ⟨_, hD4, ?_, hn, Ex.mut (e1.trans e) hn, os ++ [some y], ?_, ?_, fun m o hm => ?_⟩
  · have := List.length_filterMap_le id os
    exact Nat.lt_of_lt_of_le (by omega) line_ge
  · rw [List.length_append, hl]; rfl
  · rw [upd_same, List.filterMap_append]; rfl
  · by_cases hb : m < os.length
    · rw [List.getElem?_append_left hb] at hm
      exact mono _ _ _ _ ((Ex.exT e).trans hT) (hp m o hm)
    · rw [List.getElem?_append_right (Nat.le_of_not_lt hb)] at hm
      have h0 : m - os.length = 0 := by
        cases hz : m - os.length with
        | zero => rfl
        | succ k => rw [hz] at hm; simp at hm
      rw [h0] at hm
      have e2 : o = some y := (Option.some.inj hm).symm
      have e3 : m = i := by omega
      subst e2 e3
      exact mono _ _ _ _ hT p
theorem LcI.less (I : LcI H1 D Pe i H) (mono : Mono Pe) (e : Ex H H4) (p : Pe i none H4) : LcI H1 D Pe (i + 1) H4 := by
  obtain ⟨hn, e1, os, hl, hD, hp⟩ := I
  refine ⟨hn, e1.trans e, os ++ [none], ?_, ?_, fun m o hm => ?_⟩
  · rw [List.length_append, hl]; rfl
  · rw [List.filterMap_append, e _ _ hD]
    show _ = some (HO.lst (os.filterMap id ++ []))
    rw [List.append_nil]
  · by_cases hb : m < os.length
    · rw [List.getElem?_append_left hb] at hm
      exact mono _ _ _ _ (Ex.exT e) (hp m o hm)
    · rw [List.getElem?_append_right (Nat.le_of_not_lt hb)] at hm
      have h0 : m - os.length = 0 := by
        cases hz : m - os.length with
        | zero => rfl
        | succ k => rw [hz] at hm; simp at hm
      rw [h0] at hm
      have e2 : o = none := (Option.some.inj hm).symm
      have e3 : m = i := by omega
      subst e2 e3
      exact p
/-- a turn: from item x -/
def LcTurn (Pe : PeT) (H1 : Hp) (g : TG) (tt : TT) (te : TE) (vs : List Nat) (σ : L2.St) (i : Nat) (x : V) : Prop := ∀ H, Ex H1 H → ∀ (Q1 : VK) (Q2 : Hp → Prop), (∀ y H4, Ex H H4 → Pe i (some y) H4 → Q1 y H4) → (∀ H4, Ex H H4 → Pe i none H4 → Q2 H4) →
  g x (wipe σ vs) H fun σ2 H2 => wipe σ2 vs = wipe σ vs ∧ tt σ2 H2 fun b H3 => if b = true then te σ2 H3 Q1 else Q2 H3
variable {g : TG} {tt : TT} {te : TE} {vs : List Nat} {σ : L2.St} {Qd : Hp → Prop} {K : PySem.W.Frag} {a : Addr} {xs : List V}
theorem lcR (Pe : PeT) (mono : Mono Pe) (hD : H1 D = none) (hn : n ≤ 50000) (hs : ∀ i, i < n → LcTurn Pe H1 g tt te vs σ i (.int ((0 : Int) + i)))
    (hd : ∀ H' (os : List (Option V)), Ex H1 H' → os.length = n → H' D = some (.lst (os.filterMap id)) → (∀ i o, os[i]? = some o → Pe i o H') → Qd H') :
    ∃ W : Nat → Nat → Hp → Prop, (∃ m, W 0 m (upd H1 D (.lst []))) ∧ ∀ i m H, W i m H →
      ((Itr 0 n).stop i H ∧ Qd H) ∨ ((Itr 0 n).go i H ∧ ∃ Nx : Hp → Prop, (∀ H', Nx H' → ∃ m', m' < m ∧ W (i + 1) m' H') ∧ ∀ x H', (Itr 0 n).yld i H x H' → g x (wipe σ vs) H' fun σ2 H2 => wipe σ2 vs = wipe σ vs ∧ tt σ2 H2 fun b H3 =>
        if b = true then te σ2 H3 fun y H4 => ∃ acc, H4 D = some (.lst acc) ∧ acc.length < sizeLine ∧ Nx (upd H4 D (.lst (acc ++ [y]))) else Nx H3) :=
  lc_range (LcI H1 D Pe) (LcI.start hD) (fun i H hi I => hs i hi H I.ex _ _ (fun y H4 e p => I.more mono (by omega) e p) (fun H4 e p => I.less mono e p))
    (fun H I => by obtain ⟨_, e, os, hl, h, p⟩ := I; exact hd H os e hl h p)
theorem lcL (Pe : PeT) (mono : Mono Pe) (hD : H1 D = none) (hx : SqL K H1 a xs) (hn : xs.length ≤ 50000) (hs : ∀ i x, xs[i]? = some x → LcTurn Pe H1 g tt te vs σ i x)
    (hd : ∀ H' (os : List (Option V)), Ex H1 H' → os.length = xs.length → H' D = some (.lst (os.filterMap id)) → (∀ i o, os[i]? = some o → Pe i o H') → Qd H') :
    ∃ W : Nat → Nat → Hp → Prop, (∃ m, W 0 m (upd H1 D (.lst []))) ∧ ∀ i m H, W i m H →
      ((Itl K a).stop i H ∧ Qd H) ∨ ((Itl K a).go i H ∧ ∃ Nx : Hp → Prop, (∀ H', Nx H' → ∃ m', m' < m ∧ W (i + 1) m' H') ∧ ∀ x H', (Itl K a).yld i H x H' → g x (wipe σ vs) H' fun σ2 H2 => wipe σ2 vs = wipe σ vs ∧ tt σ2 H2 fun b H3 =>
        if b = true then te σ2 H3 fun y H4 => ∃ acc, H4 D = some (.lst acc) ∧ acc.length < sizeLine ∧ Nx (upd H4 D (.lst (acc ++ [y]))) else Nx H3) :=
  lc_list (LcI H1 D Pe) (LcI.start hD) (fun i H _ I => ex_l I.ex hx) (fun i x H hi I => hs i x hi H I.ex _ _ (fun y H4 e p => I.more mono (by have := (List.getElem?_eq_some_iff.mp hi).1; omega) e p) (fun H4 e p => I.less mono e p))
    (fun H I => by obtain ⟨_, e, os, hl, h, p⟩ := I; exact hd H os e hl h p)
theorem lcT (Pe : PeT) (mono : Mono Pe) (hD : H1 D = none) (hx : SqT K H1 a xs) (hn : xs.length ≤ 50000) (hs : ∀ i x, xs[i]? = some x → LcTurn Pe H1 g tt te vs σ i x)
    (hd : ∀ H' (os : List (Option V)), Ex H1 H' → os.length = xs.length → H' D = some (.lst (os.filterMap id)) → (∀ i o, os[i]? = some o → Pe i o H') → Qd H') :
    ∃ W : Nat → Nat → Hp → Prop, (∃ m, W 0 m (upd H1 D (.lst []))) ∧ ∀ i m H, W i m H →
      ((Itt K a).stop i H ∧ Qd H) ∨ ((Itt K a).go i H ∧ ∃ Nx : Hp → Prop, (∀ H', Nx H' → ∃ m', m' < m ∧ W (i + 1) m' H') ∧ ∀ x H', (Itt K a).yld i H x H' → g x (wipe σ vs) H' fun σ2 H2 => wipe σ2 vs = wipe σ vs ∧ tt σ2 H2 fun b H3 =>
        if b = true then te σ2 H3 fun y H4 => ∃ acc, H4 D = some (.lst acc) ∧ acc.length < sizeLine ∧ Nx (upd H4 D (.lst (acc ++ [y]))) else Nx H3) :=
  lc_tup (LcI H1 D Pe) (LcI.start hD) (fun i H _ I => ex_t I.ex hx) (fun i x H hi I => hs i x hi H I.ex _ _ (fun y H4 e p => I.more mono (by have := (List.getElem?_eq_some_iff.mp hi).1; omega) e p) (fun H4 e p => I.less mono e p))
    (fun H I => by obtain ⟨_, e, os, hl, h, p⟩ := I; exact hd H os e hl h p)
end
/-- every turn makes an item: Pf tells it -/
def All (Pf : Nat → V → Hp → Prop) : PeT := fun i o H => ∃ y, o = some y ∧ Pf i y H
theorem All.list {Pf : Nat → V → Hp → Prop} {H : Hp} : ∀ {os : List (Option V)} {k : Nat}, (∀ i o, os[i]? = some o → All Pf (k + i) o H) → ∃ ys : List V, os.filterMap id = ys ∧ ys.length = os.length ∧ ∀ i y, ys[i]? = some y → Pf (k + i) y H
  | [], _, _ => ⟨[], rfl, rfl, fun i y e => by simp at e⟩
  | o :: os, k, h => by
    obtain ⟨y, rfl, p⟩ := h 0 o rfl
    obtain ⟨ys, e1, e2, e3⟩ := All.list (os := os) (k := k + 1) (fun i o e => by
      have := h (i + 1) o e
      rwa [show k + (i + 1) = k + 1 + i by omega] at this)
    refine ⟨y :: ys, by rw [← e1]; rfl, by rw [List.length_cons, List.length_cons, e2], fun i z e => ?_⟩
    cases i with
    | zero =>
      have : y = z := Option.some.inj e
      subst this
      exact p
    | succ i =>
      have := e3 i z e
      rwa [show k + (i + 1) = k + 1 + i by omega]
theorem All.end {Pf : Nat → V → Hp → Prop} {H : Hp} {os : List (Option V)} (h : ∀ i o, os[i]? = some o → All Pf i o H) : ∃ ys : List V, os.filterMap id = ys ∧ ys.length = os.length ∧ ∀ i y, ys[i]? = some y → Pf i y H := by
  obtain ⟨ys, a, b, c⟩ := All.list (k := 0) (fun i o e => by rw [Nat.zero_add]; exact h i o e)
  exact ⟨ys, a, b, fun i y e => by have := c i y e; rwa [Nat.zero_add] at this⟩
theorem all_mono {Pf : Nat → V → Hp → Prop} (h : ∀ i v H H', ExT H H' → Pf i v H → Pf i v H') : Mono (All Pf) := fun i o H H' e ⟨y, a, b⟩ => ⟨y, a, h i y H H' e b⟩
theorem Kd.up {H H' : Hp} {v : V} {n : String} (e : Ex H H') (k : Kd H v n) : Kd H' v n := k.ex e
theorem Kd.new {H : Hp} {t : Addr} {o : HO} {v : V} {n : String} (h : H t = none) (k : Kd H v n) : Kd (upd H t o) v n := k.ex (Ex.new h)
theorem atI_in {xs : List V} {d : Int} (h0 : 0 ≤ d) (h1 : d < xs.length) : ∃ v, v ∈ xs ∧ atI xs d = some v := by
  obtain ⟨j, rfl⟩ := Int.eq_ofNat_of_zero_le h0
  have hj : j < xs.length := by omega
  exact ⟨xs[j], List.getElem_mem hj, atI_nat (List.getElem?_eq_getElem hj)⟩
theorem Th.up {H H' : Hp} {v : V} {b : Bool} (e : Ex H H') (k : Th H v b) : Th H' v b := by
  cases k with
  | other k h => exact .other (k.ex e) h
  | tup h ks => exact .tup (e _ _ h) fun x hx => let ⟨n, k⟩ := ks x hx; ⟨n, k.ex e⟩
theorem Th.kd {H : Hp} {v : V} {b : Bool} (k : Th H v b) : ∃ n, Kd H v n := by
  cases k with
  | other k h => exact ⟨_, k⟩
  | tup h ks => exact ⟨_, .tup h⟩
theorem Pool.up {H H' : Hp} {p : Addr} (e : Ex H H') (h : Pool H p) : Pool H' p := e _ _ h
theorem Pool.new {H : Hp} {t p : Addr} {o : HO} (ht : H t = none) (h : Pool H p) : Pool (upd H t o) p := upd_new ht h
theorem Th.new {H : Hp} {t : Addr} {o : HO} {v : V} {b : Bool} (ht : H t = none) (k : Th H v b) : Th (upd H t o) v b := k.up (Ex.new ht)
theorem ix_in {K : PySem.W.Frag} {H : Hp} {p : Addr} {xs : List V} {d : Int} {Q : VK} (h : SqL K H p xs ∨ SqT K H p xs) (h0 : 0 ≤ d) (h1 : d < xs.length) (q : ∀ v, v ∈ xs → Q v H) : rIx K (.ref p) (.int d) H Q := by
  obtain ⟨v, hv, ha⟩ := atI_in h0 h1
  rcases h with h | h
  · exact .inl ⟨p, xs, d, v, rfl, rfl, h, ha, q v hv⟩
  · exact .inr (.inl ⟨p, xs, d, v, rfl, rfl, h, ha, q v hv⟩)
/-- a heap without one object -/
def Minus (H : Hp) (p : Addr) : Hp := fun a => if a = p then none else H a
theorem minus_at {H : Hp} {p a : Addr} {o : HO} (n : a ≠ p) (h : H a = some o) : Minus H p a = some o := by
  unfold Minus
  rw [if_neg n]
  exact h
theorem minus_ex {H H' : Hp} {p : Addr} (b : But p H H') : Ex (Minus H p) H' := fun a o h => by
  unfold Minus at h
  by_cases n : a = p
  · rw [if_pos n] at h; cases h
  · rw [if_neg n] at h; exact b a o n h
theorem minus_lo {H : Hp} {p : Addr} : Ex (Minus H p) H := minus_ex But.refl
theorem ne_fresh {H : Hp} {a p : Addr} {o : HO} (h : H a = none) (hp : H p = some o) : a ≠ p := (ne_of_none hp h).symm
theorem But.ex {p : Addr} {H H0 H' : Hp} (e : Ex H H0) (h : H p = none) (b : But p H0 H') : Ex H H' := fun a o ha => b a o (ne_of_none ha h) (e a o ha)
theorem But.up {p : Addr} {H H1 H2 : Hp} (b : But p H H1) (e : Ex H1 H2) : But p H H2 := fun a o n h => e a o (b a o n h)
theorem mem_cut {xs : List V} {lo hi : Option Int} {x : V} (h : x ∈ cutV xs lo hi) : x ∈ xs := by
  unfold cutV at h
  exact List.mem_of_mem_drop (List.mem_of_mem_take h)
theorem mem_set {xs : List V} {j : Nat} {x y : V} (h : x ∈ xs.set j y) : x ∈ xs ∨ x = y := List.mem_or_eq_of_mem_set h
theorem ixN_in {n : Nat} {d : Int} (h0 : 0 ≤ d) (h1 : d < n) : ixN n d = some d.toNat := by
  unfold ixN
  rw [if_pos h0, if_pos h1]
/-- o[d] = v in bounds -/
theorem set_in {H : Hp} {p : Addr} {xs : List V} {d : Int} {v : V} {Q : Hp → Prop} (h : H p = some (.lst xs)) (h0 : 0 ≤ d) (h1 : d < xs.length) (q : Q (upd H p (.lst (xs.set d.toNat v)))) : rSetL (.ref p) (.int d) v H Q :=
  ⟨p, xs, d, d.toNat, rfl, rfl, h, ixN_in h0 h1, q⟩
theorem newEx {H H' : Hp} {t : Addr} {o : HO} (h : upd H t o = H') (n : H t = none) : Ex H H' := by rw [← h]; exact Ex.new n
theorem newAt {H H' : Hp} {t : Addr} {o : HO} (h : upd H t o = H') : H' t = some o := by rw [← h]; exact upd_same
theorem mutBut {H H' : Hp} {t : Addr} {o : HO} (h : upd H t o = H') : But t H H' := by rw [← h]; exact But.mut But.refl
theorem but_of {p : Addr} {H H' : Hp} (e : Ex H H') : But p H H' := fun x o _ h => e x o h
theorem law_fd {K : PySem.W.Frag} {mg : Str → Option Value} {x p : Str} {st : Stmt} {fa : Addr} (D : DefAt K mg x st) (b : Bnd x st [p]) (hfa : mg x = some (.ref fa)) : ∃ fd, Fun K x x st fa fd ∧ ∀ (s : Shared) (u : Value), BindsTo s fd ⟨[u], []⟩ [(p, u)] := by
  obtain ⟨f, fd, F, m⟩ := D.ex
  rw [m] at hfa
  cases hfa
  refine ⟨fd, F, ?_⟩
  obtain ⟨oc, od, kV, doc, pm, an, cdv, ct, osl, rfl, lk, hcd⟩ := F.ex
  exact fun s u => .of_eq (b kV doc pm an cdv ct [u] rfl)
/-- the law's promise -/
def spLaw (K : PySem.W.Frag) : Sp := fun vs H Q _ => ∃ (a : Addr) (ns : List Int), vs = [.ref a] ∧ SqL K H a (ns.map V.int) ∧ ns.length ≤ 63 ∧ ∀ H', Q (.bl true) H'
/-- a check of the law: whatever the pool gives, True -/
def spCheck : Sp := fun vs H Q _ => ∃ p, vs = [.ref p] ∧ Pool H p ∧ ∀ H', Ex H H' → Q (.bl true) H'
theorem all_true {ys : List V} (h : ∀ y ∈ ys, y = V.bl true) : ∃ bs : List Bool, ys = bs.map V.bl ∧ bs.all id = true := by
  refine ⟨List.replicate ys.length true, ?_, by simp⟩
  rw [List.map_replicate]
  exact List.eq_replicate_iff.mpr ⟨rfl, h⟩
theorem rep2 {H : Hp} {l : Addr} {xs : List V} {Q : VK} (h : H l = some (.lst xs)) (hl : xs.length ≤ 1000) (q : ∀ p, H p = none → Q (.ref p) (upd H p (.lst (xs ++ xs)))) : rRep (.ref l) (.int 2) H Q := by
  refine ⟨l, 2, xs, rfl, rfl, h, by decide, by decide, ?_, fun p n => ?_⟩
  · exact Nat.le_trans (by show xs.length * 2 ≤ 100000; omega) line_ge
  · have e : (List.replicate (2 : Int).toNat xs).flatten = xs ++ xs := by
      show xs ++ (xs ++ []) = _
      rw [List.append_nil]
    first
      | (rw [e]; exact q p n)
      | exact q p n
theorem const_mk {K : PySem.W.Frag} {h : Heap} {mg : Str → Option Value} {x : Str} {u : Value} {v : V} (X : K.In h) (G : h.Ns mainGlobals mg) (a : PySem.W.nsIn K mainGlobals x = some (some u)) (r : RelV v u) : ∃ u, mg x = some u ∧ RelV v u := ⟨u, PySem.W.mg_of X G a, r⟩
/-- a statement that is never reached -/
theorem ps_dead {X : Cx} {st : Stmt} : PS X st (fun _ _ _ => False) := ⟨fun _ _ _ _ _ _ h => h.elim⟩
end Lw
/-! Tuples that know their object; dict(tuple of pairs); sorted(d.items()) of ints. -/
namespace Lw
open PySem PySem.Spec PyProof.Rows L2 Evl

/-- a tuple whose object has no dict of its own -/
def Tu (H : Hp) (p : Addr) (xs : List V) : Prop := ∃ o : Obj, o.dict = none ∧ H p = some (.frz o (.tup xs))
abbrev RowAt (H : Hp) (q : Addr) (p : Int × Int) : Prop := H q = some (.tup [.int p.1, .int p.2])
abbrev Rows (H : Hp) : List Addr → List (Int × Int) → Prop := Paired (RowAt H)
def kvI (ps : List (Int × Int)) : List (Key × V) := ps.map fun p => (.inl p.1, .int p.2)
theorem Tu.up {H H' : Hp} {p : Addr} {xs : List V} (e : Ex H H') (t : Tu H p xs) : Tu H' p xs := let ⟨o, a, b⟩ := t; ⟨o, a, e _ _ b⟩
theorem RowAt.up {H H' : Hp} {q : Addr} {p : Int × Int} (h : RowAt H q p) (e : Ex H H') : RowAt H' q p := e _ _ h
theorem Tu.sq {K : PySem.W.Frag} {H : Hp} {p : Addr} {xs : List V} (t : Tu H p xs) : SqT K H p xs := let ⟨o, _, b⟩ := t; .inl (.inr ⟨o, b⟩)
theorem Rows.up {H H' : Hp} (e : Ex H H') : ∀ {qs : List Addr} {ps : List (Int × Int)}, Rows H qs ps → Rows H' qs ps
  | _, _, .nil => .nil
  | _, _, .cons h t => .cons (e _ _ h) (Rows.up e t)
theorem u1 {a b : Nat} (h : a + 64 < b) : a + 1 < b := by omega
section
variable {X : Cx} {es : List Expr} {pos : Pos} {t : TA}
/-- tuple(xs), xs a list -/
theorem cr_tupF : CallR X (.type "tuple") (fun as H Q => ∃ p ys, as = [.ref p] ∧ SqL X.K H p ys ∧ ∀ l o, H l = none → o.dict = none → Q (.ref l) (upd H l (.frz o (.tup ys)))) := by
  intro pins s σ H as us Q I r hq
  obtain ⟨p, ys, rfl, hl, q⟩ := hq
  obtain rfl := Vals.ref1 r
  obtain ⟨its, rv, pl, hz⟩ := I.list hl
  refine call_tuple_list pl.isList (fun g kp => ?_) (by rw [List.size_toArray, ← rv.length]; exact hz)
  have J : Inv X pins σ H { s with heap := g } := I.kept (t' := s.toks) kp
  have hn := J.hok.fresh (Nat.le_refl _)
  refine ⟨.ref _, _, J.laid (t' := s.toks) (fun b o e => Heap.get?_push_of_some _ e) (Nat.le_refl _) (o := .frz { cls := .type "tuple", data := .seq its.toArray } (.tup ys)) ⟨Heap.get?_push_size _ rfl, hz, its, rv, IsTup.new _ _⟩, rfl, q _ _ hn rfl⟩
def tTupF (t : TA) : TE := fun σ H Q => t σ H fun xs H1 => xs.length ≤ sizeLine ∧ ∀ p o, H1 p = none → o.dict = none → Q (.ref p) (upd H1 p (.frz o (.tup xs)))
/-- (a, ..) -/
theorem pe_tupF {x1} (h : PA X es t) : PE X (.Tuple es x1 pos) (tTupF t) := by
  refine ⟨fun pins s σ H Q I hq => ?_⟩
  refine wpAny_Tuple_spliced (thn (h.run pos pins s σ H _ I hq) fun us s1 hh => ?_)
  obtain ⟨xs, H1, J, r, z, q⟩ := hh
  refine ⟨by rw [← r.length]; exact z, ?_⟩
  have hn := J.hok.fresh (Nat.le_refl _)
  refine ⟨.ref _, _, J.laid (t' := s1.toks) (fun b u e => Heap.get?_push_of_some _ e) (Nat.le_refl _) (o := .frz { cls := .type "tuple", data := .seq us.toArray } (.tup xs)) ⟨Heap.get?_push_size _ rfl, z, us, r, ⟨_, Heap.get?_push_size _ rfl, rfl, _, rfl⟩⟩, rfl, q _ _ hn rfl⟩
theorem rows_of {pins : List (Addr × Obj)} {σ : L2.St} {H : Hp} {s : Shared} (I : Inv X pins σ H s) : ∀ {qs : List Addr} {ps : List (Int × Int)}, Rows H qs ps →
    ∃ (vps : List (Value × Value)) (prs : List (Key × Value)), Paired (fun (q : Addr) (kv : Value × Value) => IsTup s.heap q #[kv.1, kv.2]) qs vps ∧ KV (kvI ps) prs ∧
      Paired (fun (pr : Key × Value) (kv : Value × Value) => keyIs pr.1 kv.1 = true ∧ pr.2 = kv.2) prs vps
  | _, _, .nil => ⟨[], [], .nil, .nil, .nil⟩
  | _, _, .cons (a := q) (b := p) h t => by
    obtain ⟨vps, prs, a, b, c⟩ := rows_of I t
    obtain ⟨its, rv, ht, _⟩ := I.tuple (SqT.of h)
    obtain ⟨u, y, rfl, ru, ry⟩ := vals2 rv
    obtain ⟨k, rfl⟩ := ru
    exact ⟨(.int p.1 k, y) :: vps, (.inl p.1, y) :: prs, .cons ht a, .cons ⟨rfl, ry⟩ b, .cons ⟨keyIs_int _ _, rfl⟩ c⟩
/-- dict(t), t a tuple of pairs of ints -/
theorem cr_dictT (hc : X.calm = true) : CallR X (.type "dict") (fun as H Q => ∃ a qs ps, as = [.ref a] ∧ Tu H a (qs.map V.ref) ∧ Rows H qs ps ∧ ∀ l, H l = none → Q (.ref l) (upd H l (.dK (mergeK [] (kvI ps))))) := by
  intro pins s σ H as us Q I r hq
  obtain ⟨a, qs, ps, rfl, ⟨o, hd, ho⟩, hr, q⟩ := hq
  obtain rfl := Vals.ref1 r
  obtain ⟨go, hz, its, rv, o', ho', hcl, n, hdat⟩ := I.hok a _ ho
  obtain rfl : o = o' := Option.some.inj (go.symm.trans ho')
  obtain rfl := refs_at rv
  rw [List.length_map] at hz
  obtain ⟨vps, prs, h1, h2, h3⟩ := rows_of I hr
  have l1 : qs.length = vps.length := Paired.length h1
  have l3 : prs.length = vps.length := Paired.length h3
  have key : ∀ j k v, vps[j]? = some (k, v) → ∃ b, qs[j]? = some b ∧ IsTup s.heap b #[k, v] := fun j k v e => by
    obtain ⟨b, hb, ht⟩ := L2.DX.pget h1 e
    exact ⟨b, hb, ht⟩
  refine PySem.call_dict_pairs (knd := mixKind X.prog X.w) (kvs := prs) (PairArg.tuple a (qs.map Value.ref).toArray (fun j => qs.getD j 0) vps) (I.ok.hd hc) ⟨⟨o, n, go, hcl, hd, hdat⟩, ?_, fun j k v e => ?_⟩ ⟨l3, fun i k v e => ?_⟩ (by omega) fun h' tk dd hk => ?_
  · rw [List.size_toArray, List.length_map]; exact l1
  · obtain ⟨b, hb, ht⟩ := key j k v e
    have eb : qs.getD j 0 = b := by rw [List.getD_eq_getElem?_getD, hb]; rfl
    refine ⟨?_, .inl ?_⟩
    · show (qs.map Value.ref).toArray[j]? = some (.ref (qs.getD j 0))
      rw [eb, List.getElem?_toArray, List.getElem?_map, hb]; rfl
    · show s.heap.IsTuple (qs.getD j 0) #[k, v]
      rw [eb]; exact ht
  · obtain ⟨⟨k', v'⟩, hp, hk, hv⟩ := L2.DX.pget h3 e
    exact ⟨k', by rw [hp, show v' = v from hv], hk⟩
  · have hm : (s.heap.objs.size == sysModules) = false := beq_eq_false_iff_ne.mpr (Nat.ne_of_gt I.big)
    have hlen : (mergeK [] (kvI ps)).length ≤ sizeLine := by
      refine Nat.le_trans (length_mergeK _ []) ?_
      rw [List.length_nil, Nat.zero_add, h2.length]
      omega
    exact ⟨.ref _, _, I.laid (t' := tk) (fun b u e => hk b u (fun z => nomatch z) e) (Nat.le_refl _) (o := .dK (mergeK [] (kvI ps))) ⟨hlen, hm, merged [] prs, KV.merge h2 .nil, dd⟩, rfl, q _ (I.hok.fresh (Nat.le_refl _))⟩
/-- the same context, one call deeper -/
theorem inA {pins : List (Addr × Obj)} {σ : L2.St} {H : Hp} {s : Shared} (I : Inv X pins σ H s) : Inv { X with A := X.A.in1 } pins σ H s := by
  obtain ⟨⟨a1, a2, a3, a4, a5, a6, a7, a8, a9, b1, b2, b3, b4, b5, b6, b7, b8, b9⟩, c1, c2, c3, c4, c5, c6, c7, c8, c9, d1⟩ := I
  exact ⟨⟨a1, a2, a3, a4, a5, a6, a7, a8, fun c => by show X.A.in1.handled = none; simpa using a9 c, b1, b2, b3, b4, b5, b6, b7, b8, b9⟩, c1, c2, c3, c4, c5, c6, c7, c8, c9, d1⟩
theorem outA {pins : List (Addr × Obj)} {σ : L2.St} {H : Hp} {s : Shared} (ok : X.Ok) (I : Inv { X with A := X.A.in1 } pins σ H s) : Inv X pins σ H s := by
  obtain ⟨_, c1, c2, c3, c4, c5, c6, c7, c8, c9, d1⟩ := I
  exact ⟨ok, c1, c2, c3, c4, c5, c6, c7, c8, c9, d1⟩
/-- d.items() -/
theorem mt_itemsK : MtR X "dict.items" (fun x as H Q => ∃ a kvs, x = .ref a ∧ as = [] ∧ H a = some (.dK kvs) ∧ ∀ p, H p = none → Q (.ref p) (upd H p (L2.DX.itemsO p a))) := by
  intro pins s σ H x as v us Q I rx rs hq
  obtain ⟨a, kvs, rfl, rfl, ha, q⟩ := hq
  cases rx
  cases rs
  obtain ⟨_, hd, vs, rel, o, es, ep, ho, hx, hdat, _⟩ := dk_of I.hok ha
  refine DT.callItems (es := es) (ep := ep) hd ⟨o, ho, hx, hdat⟩ ?_
  exact ⟨.ref _, _, I.laid (t' := s.toks) (fun b u e => Heap.get?_push_of_some _ e) (Nat.le_refl _) (L2.DX.itemsO_ok (Heap.get?_push_size _ rfl)), rfl, q _ (I.hok.fresh (Nat.le_refl _))⟩
theorem pairs_at {P : Program} {w : World} : ∀ {es : List DictEntry} {vs : List (Key × Value)} {kvs : List (Key × V)} {ps : List (Int × Int)} {j : Nat} {e : DictEntry}, Pairs (mixKind P w) es vs → KV kvs vs → kvs = kvI ps → es[j]? = some e →
    ∃ p t, ps[j]? = some p ∧ e.key = .int p.1 t ∧ RelV (.int p.2) e.val
  | _, _, _, _, j, e, .nil, _, _, h => by simp at h
  | _, _, _, [], _, _, .cons .., .cons .., hk, _ => by cases hk
  | _, _, _, p :: ps, 0, e, .cons h1 h2 t, .cons r1 r2, hk, h => by
    cases hk
    simp only [List.getElem?_cons_zero] at h
    cases h
    obtain ⟨r1, r3⟩ := r1
    rcases keyIs_shape (show keyIs _ _ = true from h1) with ⟨i, t, ek, ev⟩ | ⟨z, t, ek, ev⟩
    · rw [← r1] at ek
      cases ek
      exact ⟨p, t, rfl, ev, by rw [h2]; exact r3⟩
    · rw [← r1] at ek
      cases ek
  | _, _, _, p :: ps, j + 1, e, .cons h1 h2 t, .cons r1 r2, hk, h => by
    cases hk
    simp only [List.getElem?_cons_succ] at h
    obtain ⟨p', t', a, b, c⟩ := pairs_at t r2 rfl h
    exact ⟨p', t', by rw [List.getElem?_cons_succ]; exact a, b, c⟩
theorem rows_mk {H : Hp} : ∀ {as : List Addr} {ps : List (Int × Int)}, as.length = ps.length → (∀ (j : Nat) a, as[j]? = some a → ∃ p, ps[j]? = some p ∧ RowAt H a p) → Rows H as ps
  | [], [], _, _ => .nil
  | a :: as, p :: ps, hl, h => by
    refine .cons ?_ (rows_mk (by simpa using hl) fun j b e => ?_)
    · obtain ⟨p', e, r⟩ := h 0 a rfl
      cases e
      exact r
    · obtain ⟨p', e', r⟩ := h (j + 1) b e
      exact ⟨p', e', r⟩
  | [], _ :: _, hl, _ => by simp at hl
  | _ :: _, [], hl, _ => by simp at hl
def kOf (H : Hp) : V → Int × Int
  | .ref a => match H a with
    | some (.tup [.int x, .int y]) => (x, y)
    | _ => (0, 0)
  | _ => (0, 0)
theorem kOf_row {H : Hp} {a : Addr} {p : Int × Int} (h : RowAt H a p) : kOf H (.ref a) = p := by
  show (match H a with
    | some (.tup [.int x, .int y]) => (x, y)
    | _ => (0, 0)) = p
  rw [show H a = some (.tup [.int p.1, .int p.2]) from h]
def unref : V → Addr
  | .ref a => a
  | _ => 0
theorem rows_get {H : Hp} : ∀ {as : List Addr} {ps : List (Int × Int)}, Rows H as ps → ps = as.map fun a => kOf H (.ref a)
  | _, _, .nil => rfl
  | _, _, .cons h t => by rw [List.map_cons, kOf_row h, ← rows_get t]
theorem rows_mem {H : Hp} : ∀ {as : List Addr} {ps : List (Int × Int)}, Rows H as ps → ∀ a ∈ as, ∃ p, RowAt H a p
  | _, _, .cons h t, a, m => by
    rcases List.mem_cons.mp m with rfl | m
    · exact ⟨_, h⟩
    · exact rows_mem t a m
theorem rows_all {H : Hp} : ∀ {as : List Addr}, (∀ a ∈ as, ∃ p, RowAt H a p) → Rows H as (as.map fun a => kOf H (.ref a))
  | [], _ => .nil
  | a :: as, h => by
    obtain ⟨p, e⟩ := h a (by simp)
    exact .cons (by show RowAt H a (kOf H (.ref a)); rw [kOf_row e]; exact e) (rows_all fun b m => h b (List.mem_cons_of_mem _ m))
theorem rows_sub {H H' : Hp} : ∀ {as : List Addr} {ps : List (Int × Int)}, (∀ a ∈ as, ∀ o, H a = some o → H' a = some o) → Rows H as ps → Rows H' as ps
  | _, _, _, .nil => .nil
  | _, _, k, .cons h t => .cons (k _ (by simp) _ h) (rows_sub (fun a m => k a (List.mem_cons_of_mem _ m)) t)
theorem vals_refs : ∀ as : List Addr, Vals (as.map V.ref) (as.map Value.ref)
  | [] => .nil
  | _ :: as => .cons rfl (vals_refs as)
theorem rise_inj {as : List Nat} (h : as.Pairwise (· < ·)) {i j : Nat} {a : Nat} (hi : as[i]? = some a) (hj : as[j]? = some a) : i = j := by
  obtain ⟨li, ei⟩ := List.getElem?_eq_some_iff.mp hi
  obtain ⟨lj, ej⟩ := List.getElem?_eq_some_iff.mp hj
  have g := List.pairwise_iff_getElem.mp h
  by_cases c : i < j
  · have := g i j li lj c
    omega
  · by_cases c' : j < i
    · have := g j i lj li c'
      omega
    · omega
/-- a list of refs rearranged -/
theorem refs_perm {zs : List V} {as : List Addr} (h : zs.Perm (as.map V.ref)) : zs = (zs.map unref).map V.ref ∧ (zs.map unref).Perm as := by
  constructor
  · rw [List.map_map]
    refine (List.map_id zs).symm.trans (List.map_congr_left fun z hz => ?_)
    obtain ⟨a, _, rfl⟩ := List.mem_map.mp (h.mem_iff.mp hz)
    rfl
  · have e := h.map unref
    rw [List.map_map] at e
    exact e.trans (List.Perm.of_eq (List.map_id _))
/-- sorted(d.items()), keys and values ints -/
theorem cr_itemsS (hc : X.calm = true) : CallR X (.builtin "sorted") (fun as H Q => ∃ (v a : Addr) (ps : List (Int × Int)), as = [.ref v] ∧ H v = some (L2.DX.itemsO v a) ∧ H a = some (.dK (kvI ps)) ∧
    ∀ H' l (qs : List Addr) (rs : List (Int × Int)), Ex H H' → H' l = some (.lst (qs.map V.ref)) → Rows H' qs rs → rs.Perm ps → rs.Pairwise (fun p q => SrtO.lexB q p = false) → Q (.ref l) H') := by
  intro pins s σ H as us Q I r hq
  obtain ⟨v, a, ps, rfl, hv, ha, q⟩ := hq
  obtain rfl := Vals.ref1 r
  have view : s.heap.IsItemsView v a := (I.hok v _ hv).1
  obtain ⟨hz, hd, vs, rel, o, es, ep, ho, hx, hdat, hks, hps, hnd⟩ := dk_of I.hok ha
  have hn := hps.length
  rw [Array.length_toList] at hn
  have l1 : ps.length = vs.length := by rw [← rel.length]; exact (List.length_map _).symm
  have z1 : ps.length ≤ sizeLine := by rw [l1, ← rel.length]; exact hz
  refine DT.sortedI (es := es) (ep := ep) (I.ok.hd hc) view ⟨o, ho, hx, hdat⟩ (by omega) fun h' tk as hk hlt hl hG => ?_
  have lak : as.length = ps.length := by omega
  have nd : as.Nodup := hG.rise.imp fun h => Nat.ne_of_lt h
  have obj : ∀ (j : Nat) (b : Addr), as[j]? = some b → ∃ p k t, ps[j]? = some p ∧ RelV (.int p.2) t ∧ h'.get? b = some { cls := .type "tuple", data := .seq #[.int p.1 k, t] } := fun j b e => by
    obtain ⟨en, he, hg⟩ := hG.pairs j b e
    obtain ⟨p, k, ep, ek, ev⟩ := pairs_at hps rel rfl (by rw [← he]; exact Array.getElem?_toList)
    exact ⟨p, k, en.val, ep, ev, by rw [hg, ek]⟩
  have hob : (h'.push { cls := .type "list", data := .seq (as.map Value.ref).toArray }).get? h'.objs.size = some { cls := .type "list", data := .seq (as.map Value.ref).toArray } := Heap.get?_push_size _ rfl
  have old : ∀ b u, h'.get? b = some u → (h'.push { cls := .type "list", data := .seq (as.map Value.ref).toArray }).get? b = some u := fun b u e => Heap.get?_push_of_some _ e
  generalize hL : h'.objs.size = L at *
  generalize h'.push { cls := .type "list", data := .seq (as.map Value.ref).toArray } = g at *
  have J : Inv X pins σ (upd H L (.lst (as.map V.ref))) { s with heap := g, toks := tk } :=
    I.laid (t' := tk) (fun b u e => old b u (hk b u e)) (Nat.le_of_lt hlt) ⟨by rw [List.length_map, lak]; exact z1, as.map Value.ref, 0, vals_refs as, hob⟩
  have ltL : ∀ b ∈ as, b ≠ L := fun b hb => Nat.ne_of_lt (by rw [← hL]; exact hG.there hb)
  obtain ⟨H2, J2, up, hT⟩ := L2.DX.takeT (P := fun b vs => ∃ (j : Nat) (p : Int × Int), as[j]? = some b ∧ ps[j]? = some p ∧ vs = [.int p.1, .int p.2]) I as _ J nd fun b hb => by
    obtain ⟨j, hj⟩ := List.mem_iff_getElem?.mp hb
    obtain ⟨p, k, t, hp, rt, hg⟩ := obj j b hj
    have lb := hG.above b hb
    refine ⟨Nat.le_of_lt lb, by rw [upd_ne (ltL b hb)]; exact I.hok.fresh (Nat.le_of_lt lb), [.int p.1, .int p.2], ⟨j, p, hj, hp, rfl⟩, fun H2 => ?_⟩
    exact ⟨by show 2 ≤ sizeLine; decide, [.int p.1 k, t], .cons ⟨k, rfl⟩ (.cons rt .nil), _, old _ _ hg, rfl, 0, rfl⟩
  have rw2 : Rows H2 as ps := rows_mk lak fun j b e => by
    obtain ⟨vs', ⟨j', p, e1, e2, e3⟩, e4⟩ := hT b (List.mem_of_getElem? e)
    obtain rfl := rise_inj hG.rise e e1
    exact ⟨p, e2, by rw [e3] at e4; exact e4⟩
  have hs := mt_sortPO (X := { X with A := X.A.in1 }) pins _ σ H2 (.ref L) [] (.ref L) [] (fun _ H3 => ∃ zs, SrtO.Srtd (ltP (kOf H2)) zs ∧ SrtO.Stb (ltP (kOf H2)) zs (as.map V.ref) ∧ H3 = upd H2 L (.lst zs)) (inA J2) rfl .nil
    ⟨L, as.map V.ref, kOf H2, rfl, rfl, up _ _ upd_same, fun y hy => by
      obtain ⟨b, hb, rfl⟩ := List.mem_map.mp hy
      obtain ⟨p, hp⟩ := rows_mem rw2 b hb
      exact ⟨b, rfl, by rw [kOf_row hp]; exact hp⟩, fun zs h1 h2 => ⟨zs, h1, h2, rfl⟩⟩
  refine wpAny_mono hs (fun _ s' x => ?_) fun _ _ e => e
  obtain ⟨_, _, J3, _, zs, h1, h2, rfl⟩ := x
  obtain ⟨e1, e2⟩ := refs_perm h2.perm
  have sub : ∀ b ∈ zs.map unref, b ∈ as := fun b hb => e2.mem_iff.mp hb
  refine ⟨.ref L, _, outA I.ok J3, rfl, q _ L (zs.map unref) ((zs.map unref).map fun a => kOf H2 (.ref a)) ?_ (by rw [upd_same, ← e1]) ?_ ?_ ?_⟩
  · intro b u e
    have hb : b ≠ L := ne_of_none e (I.hok.fresh (Nat.le_of_lt hlt))
    rw [upd_ne hb]
    exact up b u (by rw [upd_ne hb]; exact e)
  · exact rows_sub (fun b hb u e => by rw [upd_ne (ltL b (sub b hb))]; exact e) (rows_all fun b hb => rows_mem rw2 b (sub b hb))
  · rw [rows_get rw2]
    exact e2.map _
  · rw [e1] at h1
    exact List.pairwise_map.mpr (List.pairwise_map.mp h1)
end
theorem Rows.len {H : Hp} {qs : List Addr} {ps : List (Int × Int)} (r : Rows H qs ps) : qs.length = ps.length := Paired.length r
theorem rows_at {H : Hp} : ∀ {qs : List Addr} {ps : List (Int × Int)} {i : Nat} {p : Int × Int}, Rows H qs ps → ps[i]? = some p → ∃ q, qs[i]? = some q ∧ RowAt H q p
  | _, _, i, p, r, h => L2.DX.pget r h
theorem rows_at' {H : Hp} {qs : List Addr} {ps : List (Int × Int)} {i : Nat} {v : V} (r : Rows H qs ps) (h : (qs.map V.ref)[i]? = some v) : ∃ q p, v = .ref q ∧ qs[i]? = some q ∧ ps[i]? = some p ∧ RowAt H q p := by
  rw [List.getElem?_map] at h
  cases e : qs[i]? with
  | none => rw [e] at h; cases h
  | some q =>
    rw [e] at h
    obtain rfl : V.ref q = v := Option.some.inj h
    have li := (List.getElem?_eq_some_iff.mp e).1
    rw [r.len] at li
    obtain ⟨q', e', ra⟩ := rows_at r (List.getElem?_eq_getElem li)
    rw [e] at e'
    cases e'
    exact ⟨q, _, rfl, rfl, List.getElem?_eq_getElem li, ra⟩
end Lw
/-! Sets of ints, told by a comprehension. -/
namespace Lw
open PySem PySem.Spec PyProof.Rows L2 Evl
section
variable {X : Cx}
abbrev setNil (w : World) : Obj := { cls := .type "set", dict := none, data := .set #[] 0 (.fresh 0 0 (!w.params.followText "set-order")) }
/-- {e for x in it if ..}, e an int: D the new set -/
def tScI (w : World) (wi : TI) (g : TG) (tt : TT) (te : TE) (vs : List Nat) : TE := fun σ H Q => wi σ H fun J H1 => ∀ D, H1 D = none →
  ∃ W : Nat → Nat → Hp → Prop, (∃ m, W 0 m (upd H1 D (SetO w D (fun _ => false) 0))) ∧ ∀ i m G, W i m G → (J.stop i G ∧ Q (.ref D) G) ∨
    (J.go i G ∧ ∃ Nx : Hp → Prop, (∀ G', Nx G' → ∃ m', m' < m ∧ W (i + 1) m' G') ∧ ∀ x G', J.yld i G x G' → g x (wipe σ vs) G' fun σ2 G2 => wipe σ2 vs = wipe σ vs ∧ tt σ2 G2 fun b G3 =>
      if b = true then te σ2 G3 fun y G4 => ∃ (c : Int) (S : Int → Bool) (n : Nat), y = .int c ∧ G4 D = some (SetO w D S n) ∧ n + 1 < scanBound ∧
        Nx (upd G4 D (SetO w D (fun j => S j || decide (j = c)) (if S c = true then n else n + 1))) else Nx G3)
variable {pins : List (Addr × Obj)} {s : Shared} {σ : L2.St} {H : Hp} {Q : VK} {elt tg iter : Expr} {ifs : List Expr} {sc : Scope} {own : List (PySem.Str × Nat)} {pos pos' : Pos} {wi : TI} {g : TG} {tt : TT} {te : TE}
set_option maxHeartbeats 4000000 in
theorem pe_scI (hc : X.calm = true) (hN : X.N.Nodup) (hi : PI X tg iter wi) (ok : BlkOk X.N X.env.scope sc own)
    (hg : ∀ (s : Shared) (H : Hp) (C : Addr) (cl : List (PySem.Str × Addr)) (fp : List Addr), PG (X.blk s H sc (compEnvC sc cl C X.env) fp) tg g)
    (ht : ∀ (s : Shared) (H : Hp) (C : Addr) (cl : List (PySem.Str × Addr)) (fp : List Addr), PTs (X.blk s H sc (compEnvC sc cl C X.env) fp) ifs tt)
    (he : ∀ (s : Shared) (H : Hp) (C : Addr) (cl : List (PySem.Str × Addr)) (fp : List Addr), PE (X.blk s H sc (compEnvC sc cl C X.env) fp) elt te) (hs : ∀ x, foldedSetIterable iter X.env x = pure x := by intro _; rfl) :
    PE X (.SetComp elt [⟨tg, iter, ifs, 0⟩] sc pos) (tScI X.w wi g tt te (own.map (·.2))) := by
  refine ⟨fun pins s σ H Q I hq => ?_⟩
  rw [PpSet.eval_SetComp]
  have clo : ∀ y ∈ sc.names, y.2 = .free → ∃ c, X.env.cells.lookup y.1 = some c := fun y m e => (ok.free y m e).elim (fun k => I.ok.has _ (.inl k)) fun k => I.ok.has _ (.inr k)
  refine wpAny_comprehension_free rfl hs (closure_ok clo) ok.kind (fun y m e => by rw [ok.uniq y m, e]) (thn (hi.run pins s σ H _ I hq) fun _ s1 a1 => thn a1 fun _ s2 a2 => ?_)
  obtain ⟨it, fp, tn, J, G0, rfl, I2, T, t0, f0, q⟩ := a2
  refine PpSet.newSet_ok (newEnv_comp ?_)
  have fr := I2.hok.fresh (Nat.le_refl s2.heap.objs.size)
  have I3 : Inv X pins σ (upd G0 s2.heap.objs.size (SetO X.w s2.heap.objs.size (fun _ => false) 0)) { s2 with heap := s2.heap.push (setNil X.w) } :=
    I2.laid (t' := s2.toks) (fun b u e => Heap.get?_push_of_some _ e) (Nat.le_refl _) (setO_new (setR_fresh X.w))
  have lt2 : ∀ b ∈ fp, b < s2.heap.objs.size := fun b m => let ⟨_, e, _⟩ := T.obj _ _ t0 b m; Heap.lt_size e
  have t3 : tn 0 (s2.heap.push (setNil X.w)) := T.keep _ _ _ t0 fun b _ u e => Heap.get?_push_of_some _ e
  have f3 : ∀ b ∈ fp, FpOk X pins (upd G0 s2.heap.objs.size (SetO X.w s2.heap.objs.size (fun _ => false) 0)) b ∧ b < (s2.heap.push (setNil X.w)).objs.size := fun b m =>
    ⟨⟨by rw [upd_ne (Nat.ne_of_lt (lt2 b m))]; exact (f0 b m).1, (f0 b m).2⟩, by rw [Heap.size_push]; exact Nat.lt_succ_of_lt (lt2 b m)⟩
  obtain ⟨W, ⟨m0, w0⟩, turn⟩ := q _ fr
  clear fr lt2 f0 I2 t0 q
  generalize s2.heap.objs.size = D at *
  generalize upd G0 D (SetO X.w D (fun _ => false) 0) = G3 at *
  generalize hs3 : ({ s2 with heap := s2.heap.push (setNil X.w) } : Shared) = s3 at *
  have h3 : s2.heap.push (setNil X.w) = s3.heap := by rw [← hs3]
  rw [h3] at t3 f3
  have I4 := block_start I3 ok hN f3
  have pg := hg s3 G3 s3.heap.objs.size (cellsFrom (s3.heap.objs.size + 1) sc.names (cloFrom X.env.cells sc.names [])) fp
  have pt := ht s3 G3 s3.heap.objs.size (cellsFrom (s3.heap.objs.size + 1) sc.names (cloFrom X.env.cells sc.names [])) fp
  have pe := he s3 G3 s3.heap.objs.size (cellsFrom (s3.heap.objs.size + 1) sc.names (cloFrom X.env.cells sc.names [])) fp
  show codeAny _ _ (.compStart (.SetComp elt [⟨tg, iter, ifs, 0⟩] sc pos) 0 (.ref it) (.ref D) (compEnvC sc (cellsFrom (s3.heap.objs.size + 1) sc.names (cloFrom X.env.cells sc.names [])) s3.heap.objs.size X.env))
    (compPost (model X.prog X.w) X.A X.xe _ _ (.ref D) s3.heap.objs.size) { s3 with heap := pushCells (s3.heap.push { cls := .type "dict", data := .dict #[] }) sc.names }
  have n3 : ∀ b ∈ fp, G3 b = none := fun b m => (f3 b m).1.1
  generalize hce : compEnvC sc (cellsFrom (s3.heap.objs.size + 1) sc.names (cloFrom X.env.cells sc.names [])) s3.heap.objs.size X.env = ce at *
  have eL : ce.locals = s3.heap.objs.size := by rw [← hce]; rfl
  have t4 : tn 0 (pushCells (s3.heap.push { cls := .type "dict", data := .dict #[] }) sc.names) := T.keep _ _ _ t3 fun b _ u e => pushCells_keeps _ _ _ _ (Heap.get?_push_of_some _ e)
  generalize pushCells (s3.heap.push { cls := .type "dict", data := .dict #[] }) sc.names = g4 at *
  let Y := X.blk s3 G3 sc ce fp
  have still : ∀ {σ' : L2.St} {G : Hp} {z : Shared}, Inv Y [] σ' G z → (∀ b ∈ fp, G b = none) → ∀ b ∈ fp, FpOk Y [] G b := fun {σ' G z} J hn b m =>
    ⟨hn b m, (J.ok.exf b m).1, J.ok.exfs b m, .inl m, fun x c e => (J.ok.exf b m).2 x c e, fun p hp => nomatch (show p ∈ ([] : List (Addr × Obj)) from hp)⟩
  have main : codeAny (model X.prog X.w) X.A (.compLoop (.SetComp elt [⟨tg, iter, ifs, 0⟩] sc pos) 0 (.ref it) (.ref D) ce) (compPost (model X.prog X.w) X.A X.xe none (EP X pins σ Q) (.ref D) s3.heap.objs.size) { s3 with heap := g4 } := by
    refine PpSet.compLoopS_any (fun n z => ∃ i G, Inv Y [] (wipe σ (own.map (·.2))) G z ∧ tn i z.heap ∧ (∀ b ∈ fp, G b = none) ∧ W i n G) ?_ m0 ⟨0, G3, I4, t4, n3, w0⟩
    rintro n z ⟨i, G5, J5, t5, n5, w5⟩
    rcases turn i n G5 w5 with ⟨hstop, fin⟩ | ⟨hgo, Nx, dec, step⟩
    · refine thnF (T.done Y rfl rfl rfl hc i [] z _ G5 (fun _ _ => False) J5 (still J5 n5) t5 hstop) fun r z6 x6 => ?_
      obtain ⟨rfl, J6⟩ := x6
      have J7 : Inv X pins σ G5 z6 := I3.call' (ch := fp) J6.os J6.base J6.hok J6.bare fun b m => ⟨(f3 b m).1.2.2.2.1, (f3 b m).1.2.1, (f3 b m).1.2.2.2.2.1, (f3 b m).1.2.2.2.2.2⟩
      obtain ⟨mm, hns, _⟩ := J6.loc
      have hns : z6.heap.Ns ce.locals mm := hns
      have nL : G5 ce.locals = none := J6.free
      rw [eL] at hns nL
      refine ⟨mm, hns, fun h9 sb => ?_⟩
      obtain ⟨p0, p1, p2, p3, p4, p5⟩ := I3.fpOk (Nat.le_refl _) nL
      exact ⟨.ref D, G5, J7.turned (t' := z6.toks) (fun b u hb e => (sb.2 b hb).trans e) p0 p1 p3 p4 p5, rfl, fin⟩
    · refine thnF (T.item Y rfl rfl rfl hc i [] z _ G5 (fun _ _ => False) J5 (still J5 n5) t5 hgo) fun r z6 x6 => ?_
      obtain ⟨u, rfl, x6⟩ := x6
      refine thnF x6 fun _ z7 x7 => ?_
      obtain ⟨x, G7, J7, r7, y7, t7, n7⟩ := x7
      have J7' := J7.pinned (still J7 n7) (T.obj _ _ t7)
      refine thnF (pg.run _ z7 _ G7 x u _ J7' r7 (step x G7 y7)) fun _ z8 x8 => ?_
      obtain ⟨σ8, G8, J8, hw, q8⟩ := x8
      refine thnF (pt.run _ z8 σ8 G8 _ J8 q8) fun b z9 x9 => ?_
      obtain ⟨G9, J9, q9⟩ := x9
      have close : ∀ {z' : Shared} {G' : Hp}, Inv Y ([] ++ pinsAt fp z7.heap) σ8 G' z' → Nx G' → ∃ m, m < n ∧ ∃ i G, Inv Y [] (wipe σ (own.map (·.2))) G z' ∧ tn i z'.heap ∧ (∀ b ∈ fp, G b = none) ∧ W i m G := fun {z' G'} J' nx => by
        obtain ⟨m', lt, w'⟩ := dec G' nx
        have held : ∀ b ∈ fp, ∀ u, z7.heap.get? b = some u → z'.heap.get? b = some u ∧ G' b = none := fun b m u e => by
          have k := J'.pin (b, u) (List.mem_append_right _ (List.mem_append_right _ (mem_pinsAt m e)))
          exact ⟨k.1, k.2.1⟩
        refine ⟨m', lt, i + 1, G', (J'.unpinned (pins := [])).weak (by rw [← hw, wipe_length]) (fun j v e => by rw [← hw] at e; exact (wipe_some e).1), T.keep _ _ _ t7 fun b m u e => (held b m u e).1, fun b m => ?_, w'⟩
        obtain ⟨u, e, _⟩ := T.obj _ _ t7 b m
        exact (held b m u e).2
      cases b with
      | false => exact close J9 q9
      | true =>
        refine thnF (pe.run _ z9 σ8 G9 _ J9 q9) fun v z10 x10 => ?_
        obtain ⟨y, G10, J10, r10, c, S, k, rfl, hD, hz, nx⟩ := x10
        refine thnF (mt_sadd (X := Y) _ z10 σ8 G10 (.ref D) [.int c] (.ref D) [v] (fun _ G => Nx G) J10 rfl (.cons r10 .nil) ⟨D, c, S, k, rfl, rfl, hD, hz, nx⟩) fun _ z11 x11 => ?_
        obtain ⟨_, G11, J11, _, nx⟩ := x11
        exact close J11 nx
  exact PpSet.codeAny_compStart_set main (T.self X.A 0 _ _ _ t4 main)
/-- over a tuple that stays, every item gives the int f x -/
theorem scT {w : World} {K : PySem.W.Frag} {a : Addr} {xs : List V} {g : TG} {te : TE} {vs : List Nat} {σ : L2.St} {H1 : Hp} {D : Addr} {Qd : Hp → Prop} (f : V → Int) (hD : H1 D = none) (hx : SqT K H1 a xs) (hn : xs.length ≤ 1000)
    (turn : ∀ (i : Nat) x, xs[i]? = some x → ∀ H, Ex H1 H → ∀ Q1 : VK, (∀ G, Ex H G → Q1 (.int (f x)) G) → g x (wipe σ vs) H fun σ2 H2 => wipe σ2 vs = wipe σ vs ∧ tYes σ2 H2 fun b H3 => if b = true then te σ2 H3 Q1 else False)
    (done : ∀ H' S n, Ex H1 H' → H' D = some (SetO w D S n) → (∀ k, S k = true ↔ ∃ x ∈ xs, f x = k) → n ≤ xs.length → Qd H') :
    ∃ W : Nat → Nat → Hp → Prop, (∃ m, W 0 m (upd H1 D (SetO w D (fun _ => false) 0))) ∧ ∀ i m G, W i m G → ((Itt K a).stop i G ∧ Qd G) ∨
      ((Itt K a).go i G ∧ ∃ Nx : Hp → Prop, (∀ G', Nx G' → ∃ m', m' < m ∧ W (i + 1) m' G') ∧ ∀ x G', (Itt K a).yld i G x G' → g x (wipe σ vs) G' fun σ2 G2 => wipe σ2 vs = wipe σ vs ∧ tYes σ2 G2 fun b G3 =>
        if b = true then te σ2 G3 fun y G4 => ∃ (c : Int) (S : Int → Bool) (n : Nat), y = .int c ∧ G4 D = some (SetO w D S n) ∧ n + 1 < scanBound ∧
          Nx (upd G4 D (SetO w D (fun j => S j || decide (j = c)) (if S c = true then n else n + 1))) else Nx G3) := by
  let Inn : Nat → Hp → Prop := fun i G => Ex H1 G ∧ ∃ S n, G D = some (SetO w D S n) ∧ (∀ k, S k = true ↔ ∃ x ∈ xs.take i, f x = k) ∧ n ≤ i
  refine ⟨fun i m G => m = xs.length - i ∧ i ≤ xs.length ∧ Inn i G, ⟨xs.length, by simp, Nat.zero_le _, Ex.new hD, _, 0, upd_same, fun k => by simp, Nat.le_refl _⟩, ?_⟩
  rintro i m G ⟨rfl, hi, e, S, n, hS, hk, hle⟩
  have hq := ex_t e hx
  by_cases lt : i < xs.length
  · have gx : xs[i]? = some xs[i] := List.getElem?_eq_getElem lt
    refine .inr ⟨⟨xs, xs[i], hq, gx⟩, Inn (i + 1), fun G' p => ⟨xs.length - (i + 1), by omega, rfl, lt, p⟩, fun x G' y => ?_⟩
    obtain ⟨rfl, y⟩ := y
    obtain rfl : x = xs[i] := Option.some.inj ((y xs hq).symm.trans gx)
    refine turn i _ gx _ e _ fun G4 e4 => ⟨f xs[i], S, n, rfl, e4 _ _ hS, ?_, Ex.mut (e.trans e4) hD, _, _, upd_same, fun k => ?_, ?_⟩
    · show n + 1 < 4096
      omega
    · rw [Bool.or_eq_true, hk, decide_eq_true_eq, List.take_add_one, gx]
      constructor
      · rintro (⟨x, m, h⟩ | rfl)
        · exact ⟨x, List.mem_append_left _ m, h⟩
        · exact ⟨_, List.mem_append_right _ (by simp), rfl⟩
      · rintro ⟨x, m, h⟩
        rcases List.mem_append.mp m with m | m
        · exact .inl ⟨x, m, h⟩
        · have : x = xs[i] := by simpa using m
          subst this
          exact .inr h.symm
    · split <;> omega
  · obtain rfl : i = xs.length := by omega
    exact .inl ⟨⟨xs, hq, Nat.le_refl _⟩, done G S n e hS (fun k => by rw [hk, List.take_length]) hle⟩
end
end Lw
/-! Tables of colours: what they turn, plainly. -/
namespace Lw
open PySem PySem.Spec PyProof.Rows L2 Evl
def Col (c : Int) : Prop := 0 ≤ c ∧ c ≤ 1000000000
abbrev Tb := List (Int × Int)
structure Good (ps : Tb) : Prop where
  col : ∀ p ∈ ps, Col p.1 ∧ Col p.2
  asc : ps.Pairwise fun p q => p.1 < q.1
  len : ps.length ≤ 1000
def look (ps : Tb) (c : Int) : Int := ((ps.find? fun p => decide (p.1 = c)).map (·.2)).getD c
/-- a table in the heap -/
def Tab (H : Hp) (v : V) (ps : Tb) : Prop := ∃ a qs, v = .ref a ∧ Tu H a (qs.map V.ref) ∧ Rows H qs ps
theorem Tab.up {H H' : Hp} {v : V} {ps : Tb} (e : Ex H H') (t : Tab H v ps) : Tab H' v ps := let ⟨a, qs, h1, h2, h3⟩ := t; ⟨a, qs, h1, h2.up e, h3.up e⟩
theorem ixT_at {K : PySem.W.Frag} {H : Hp} {p : Addr} {xs : List V} {i : Int} {j : Nat} {v : V} {Q : VK} (h : SqT K H p xs) (e : i = (j : Int)) (hx : xs[j]? = some v) (q : Q v H) : rIx K (.ref p) (.int i) H Q :=
  .inr (.inl ⟨p, xs, i, v, rfl, rfl, h, by rw [e]; exact atI_nat hx, q⟩)
theorem ixL_at {K : PySem.W.Frag} {H : Hp} {p : Addr} {xs : List V} {i : Int} {j : Nat} {v : V} {Q : VK} (h : SqL K H p xs) (e : i = (j : Int)) (hx : xs[j]? = some v) (q : Q v H) : rIx K (.ref p) (.int i) H Q :=
  .inl ⟨p, xs, i, v, rfl, rfl, h, by rw [e]; exact atI_nat hx, q⟩
theorem rows_ref {H : Hp} {qs : List Addr} {ps : Tb} {i : Nat} (r : Rows H qs ps) (h : i < ps.length) : ∃ q, (qs.map V.ref)[i]? = some (.ref q) ∧ RowAt H q ps[i] := by
  obtain ⟨q, e, ra⟩ := rows_at r (List.getElem?_eq_getElem h)
  exact ⟨q, by rw [List.getElem?_map, e]; rfl, ra⟩
theorem Good.at {ps : Tb} (g : Good ps) {i j : Nat} (hi : i < ps.length) (hj : j < ps.length) (h : i < j) : ps[i].1 < ps[j].1 := List.pairwise_iff_getElem.mp g.asc i j hi hj h
theorem look_nil (c : Int) : look [] c = c := rfl
theorem look_cons {p : Int × Int} {ps : Tb} {c : Int} : look (p :: ps) c = if p.1 = c then p.2 else look ps c := by
  unfold look
  rw [List.find?_cons]
  by_cases e : p.1 = c
  · rw [if_pos e, decide_eq_true e]; rfl
  · rw [if_neg e, decide_eq_false e]
theorem look_no {ps : Tb} {c : Int} (h : ∀ p ∈ ps, p.1 ≠ c) : look ps c = c := by
  induction ps with
  | nil => rfl
  | cons p ps ih =>
    rw [look_cons, if_neg (h p (by simp))]
    exact ih fun q m => h q (List.mem_cons_of_mem _ m)
theorem look_in {ps : Tb} {c : Int} : (∃ p ∈ ps, p.1 = c ∧ look ps c = p.2) ∨ (∀ p ∈ ps, p.1 ≠ c) ∧ look ps c = c := by
  induction ps with
  | nil => exact .inr ⟨fun _ h => (nomatch h), rfl⟩
  | cons p ps ih =>
    rw [look_cons]
    by_cases e : p.1 = c
    · exact .inl ⟨p, by simp, e, by rw [if_pos e]⟩
    · rw [if_neg e]
      rcases ih with ⟨q, m, a, b⟩ | ⟨a, b⟩
      · exact .inl ⟨q, List.mem_cons_of_mem _ m, a, b⟩
      · refine .inr ⟨fun q m => ?_, b⟩
        rcases List.mem_cons.mp m with rfl | m
        · exact e
        · exact a q m
theorem Good.look {ps : Tb} (g : Good ps) {c : Int} (h : Col c) : Col (look ps c) := by
  rcases look_in (ps := ps) (c := c) with ⟨p, m, _, e⟩ | ⟨_, e⟩
  · rw [e]; exact (g.col p m).2
  · rw [e]; exact h
/-- the dict of a table -/
theorem merge_asc {κ : Type} : ∀ {ps acc : Tb}, (acc ++ ps).Pairwise (fun p q => p.1 ≠ q.1) → mergeK (kvI acc) (kvI ps) = kvI (acc ++ ps)
  | [], acc, _ => by rw [List.append_nil]; rfl
  | p :: ps, acc, h => by
    have no : ((kvI acc).any fun kv => decide (kv.1 = Sum.inl p.1)) = false := by
      rw [List.any_eq_false]
      intro x hx
      obtain ⟨q, hq, rfl⟩ := List.mem_map.mp hx
      have := (List.pairwise_append.mp h).2.2 q hq p (by simp)
      simpa using this
    show mergeK (putK (kvI acc) (.inl p.1) (.int p.2)) (kvI ps) = _
    unfold putK
    rw [no]
    have e : kvI acc ++ [(Sum.inl p.1, V.int p.2)] = kvI (acc ++ [p]) := by simp [kvI]
    show mergeK (kvI acc ++ [(Sum.inl p.1, V.int p.2)]) (kvI ps) = _
    rw [e, merge_asc (κ := κ) (by simpa using h)]
    simp
theorem Good.ne {ps : Tb} (g : Good ps) : ps.Pairwise fun p q => p.1 ≠ q.1 := g.asc.imp fun h => Int.ne_of_lt h
theorem val_look {ps : Tb} {c : Int} : (valV (kvI ps) (.inl c)).getD (.int c) = .int (look ps c) := by
  induction ps with
  | nil => rfl
  | cons p ps ih =>
    rw [look_cons]
    by_cases e : p.1 = c
    · rw [if_pos e, show kvI (p :: ps) = (Sum.inl p.1, V.int p.2) :: kvI ps from rfl, valV_pos (by rw [e])]
      rfl
    · rw [if_neg e, ← ih]
      show (valV ((Sum.inl p.1, V.int p.2) :: kvI ps) (.inl c)).getD (.int c) = _
      rw [valV_neg (by simpa using e)]
theorem catT {K : PySem.W.Frag} {H : Hp} {a b : Addr} {xs ys : List V} {Q : VK} (ha : SqT K H a xs) (hb : SqT K H b ys) (hz : xs.length + ys.length ≤ 1000) (q : ∀ p H', Ex H H' → SqT K H' p (xs ++ ys) → Q (.ref p) H') : rCatA K (.ref a) (.ref b) H Q := by
  refine ⟨a, b, xs, ys, rfl, rfl, ha, hb, Nat.le_trans hz (by decide), fun e => ?_, fun _ e => ?_, fun _ _ p n => q p _ (Ex.new n) (SqT.of upd_same)⟩
  · exact q b H (Ex.refl H) (by rw [e]; exact hb)
  · exact q a H (Ex.refl H) (by rw [e, List.append_nil]; exact ha)
theorem Rows.app {H : Hp} : ∀ {qs qs' : List Addr} {ps ps' : Tb}, Rows H qs ps → Rows H qs' ps' → Rows H (qs ++ qs') (ps ++ ps')
  | _, _, _, _, .nil, r => r
  | _, _, _, _, .cons h t, r => .cons h (Rows.app t r)
theorem rows_of_all {H : Hp} : ∀ {ys : List V} {fs : Tb}, ys.length = fs.length → (∀ (i : Nat) y, ys[i]? = some y → ∃ q p, y = .ref q ∧ fs[i]? = some p ∧ RowAt H q p) → ∃ qs : List Addr, ys = qs.map V.ref ∧ Rows H qs fs
  | [], [], _, _ => ⟨[], rfl, .nil⟩
  | y :: ys, p :: fs, hl, h => by
    obtain ⟨q, p', rfl, e, r⟩ := h 0 y rfl
    cases e
    obtain ⟨qs, rfl, t⟩ := rows_of_all (ys := ys) (fs := fs) (by simpa using hl) fun i z e => h (i + 1) z e
    exact ⟨q :: qs, rfl, .cons r t⟩
  | [], _ :: _, hl, _ => by simp at hl
  | _ :: _, [], hl, _ => by simp at hl
/-- the pairs of fs that are not idle are kept -/
def SiftP (fs : Tb) : PeT := fun i o H => ∃ p, fs[i]? = some p ∧ ((p.1 ≠ p.2 ∧ ∃ q, o = some (.ref q) ∧ RowAt H q p) ∨ (p.1 = p.2 ∧ o = none))
theorem sift_mono (fs : Tb) : Mono (SiftP fs) := fun i o H H' e ⟨p, h, r⟩ => ⟨p, h, r.imp (fun ⟨a, q, b, c⟩ => ⟨a, q, b, e _ _ (fun xs => by intro z; cases z) c⟩) id⟩
theorem sift_all {H : Hp} : ∀ {os : List (Option V)} {fs : Tb}, os.length = fs.length → (∀ (i : Nat) o, os[i]? = some o → SiftP fs i o H) → ∃ qs : List Addr, os.filterMap id = qs.map V.ref ∧ Rows H qs (fs.filter fun p => decide (p.1 ≠ p.2))
  | [], [], _, _ => ⟨[], rfl, .nil⟩
  | o :: os, p :: fs, hl, h => by
    obtain ⟨qs, e2, t⟩ := sift_all (os := os) (fs := fs) (by simpa using hl) fun i z e => h (i + 1) z e
    obtain ⟨p', e, r⟩ := h 0 o rfl
    cases e
    rcases r with ⟨a, q, rfl, c⟩ | ⟨a, rfl⟩
    · exact ⟨q :: qs, by show V.ref q :: os.filterMap id = _; rw [e2]; rfl, by rw [List.filter_cons_of_pos (by simpa using a)]; exact .cons c t⟩
    · exact ⟨qs, by show os.filterMap id = _; exact e2, by rw [List.filter_cons_of_neg (by simpa using a)]; exact t⟩
  | [], _ :: _, hl, _ => by simp at hl
  | _ :: _, [], hl, _ => by simp at hl
/-- ts turns as ps and then rs, and has what is needed alone -/
structure IsChain (ps rs ts : Tb) : Prop where
  asc : ts.Pairwise fun p q => p.1 < q.1
  mem : ∀ p : Int × Int, p ∈ ts ↔ p.1 ≠ p.2 ∧ p.2 = look rs (look ps p.1)
  len : ts.length ≤ ps.length + rs.length
theorem far_out {ps rs : Tb} {c : Int} (h : look rs (look ps c) ≠ c) : (∃ p ∈ ps ++ rs, p.1 = c) := by
  rcases look_in (ps := ps) (c := c) with ⟨p, m, e, _⟩ | ⟨_, e⟩
  · exact ⟨p, List.mem_append_left _ m, e⟩
  · rw [e] at h
    rcases look_in (ps := rs) (c := c) with ⟨p, m, e, _⟩ | ⟨_, e⟩
    · exact ⟨p, List.mem_append_right _ m, e⟩
    · exact absurd e h
theorem chain_mk {ps rs : Tb} {ns : List Int} (hs : ns.Pairwise (· < ·)) (hm : ∀ k, k ∈ ns ↔ ∃ p ∈ ps ++ rs, p.1 = k) (hl : ns.length ≤ ps.length + rs.length) : IsChain ps rs ((ns.map fun k => (k, look rs (look ps k))).filter fun p => decide (p.1 ≠ p.2)) := by
  refine ⟨List.Pairwise.filter _ (List.pairwise_map.mpr hs : (ns.map fun k => (k, look rs (look ps k))).Pairwise fun p q => p.1 < q.1), fun p => ?_, Nat.le_trans (List.length_filter_le _ _) (by rw [List.length_map]; exact hl)⟩
  rw [List.mem_filter, List.mem_map, decide_eq_true_eq]
  constructor
  · rintro ⟨⟨k, m, rfl⟩, h⟩
    exact ⟨h, rfl⟩
  · rintro ⟨h, e⟩
    refine ⟨⟨p.1, (hm p.1).mpr (far_out fun z => h (by rw [e]; exact z.symm)), ?_⟩, h⟩
    rw [← e]
theorem asc_uniq : ∀ {as bs : Tb}, as.Pairwise (fun p q => p.1 < q.1) → bs.Pairwise (fun p q => p.1 < q.1) → (∀ p, p ∈ as ↔ p ∈ bs) → as = bs
  | [], [], _, _, _ => rfl
  | [], b :: bs, _, _, h => absurd ((h b).mpr (by simp)) (by simp)
  | a :: as, [], _, _, h => absurd ((h a).mp (by simp)) (by simp)
  | a :: as, b :: bs, ha, hb, h => by
    obtain ⟨a1, a2⟩ := List.pairwise_cons.mp ha
    obtain ⟨b1, b2⟩ := List.pairwise_cons.mp hb
    have e : a = b := by
      rcases List.mem_cons.mp ((h a).mp (by simp)) with e | m
      · exact e
      · rcases List.mem_cons.mp ((h b).mpr (by simp)) with e | n
        · exact e.symm
        · have := b1 a m
          have := a1 b n
          omega
    subst e
    rw [asc_uniq a2 b2 fun p => ?_]
    constructor
    · intro m
      rcases List.mem_cons.mp ((h p).mp (List.mem_cons_of_mem _ m)) with rfl | n
      · exact absurd (a1 p m) (Int.lt_irrefl _)
      · exact n
    · intro m
      rcases List.mem_cons.mp ((h p).mpr (List.mem_cons_of_mem _ m)) with rfl | n
      · exact absurd (b1 p m) (Int.lt_irrefl _)
      · exact n
theorem IsChain.uniq {ps rs ts us : Tb} (a : IsChain ps rs ts) (b : IsChain ps rs us) : ts = us := asc_uniq a.asc b.asc fun p => (a.mem p).trans (b.mem p).symm
theorem IsChain.good {ps rs ts : Tb} (c : IsChain ps rs ts) (g : Good ps) (k : Good rs) (hl : ps.length + rs.length ≤ 1000) : Good ts := by
  refine ⟨fun p m => ?_, c.asc, Nat.le_trans c.len hl⟩
  obtain ⟨h1, h2⟩ := (c.mem p).mp m
  have c1 : Col p.1 := by
    obtain ⟨q, m, e⟩ := far_out (ps := ps) (rs := rs) (c := p.1) fun z => h1 (by rw [h2]; exact z.symm)
    rw [← e]
    rcases List.mem_append.mp m with m | m
    · exact (g.col q m).1
    · exact (k.col q m).1
  exact ⟨c1, by rw [h2]; exact k.look (g.look c1)⟩
theorem look_mem {ts : Tb} (h : ts.Pairwise fun p q => p.1 < q.1) {p : Int × Int} (m : p ∈ ts) : look ts p.1 = p.2 := by
  induction ts with
  | nil => cases m
  | cons q ts ih =>
    obtain ⟨a, b⟩ := List.pairwise_cons.mp h
    rw [look_cons]
    rcases List.mem_cons.mp m with rfl | m
    · rw [if_pos rfl]
    · rw [if_neg (Int.ne_of_lt (a p m))]
      exact ih b m
theorem IsChain.turn {ps rs ts : Tb} (c : IsChain ps rs ts) (x : Int) : look ts x = look rs (look ps x) := by
  by_cases e : look rs (look ps x) = x
  · rcases look_in (ps := ts) (c := x) with ⟨p, m, e1, e2⟩ | ⟨_, e2⟩
    · obtain ⟨h1, h2⟩ := (c.mem p).mp m
      rw [e2, h2, e1]
    · rw [e2, e]
  · exact look_mem c.asc (p := (x, look rs (look ps x))) ((c.mem _).mpr ⟨fun z => e z.symm, rfl⟩)
theorem look_at {c : Int} : ∀ {ps : Tb} {i : Nat} {p : Int × Int}, ps[i]? = some p → (∀ q ∈ ps.take i, q.1 ≠ c) → p.1 = c → look ps c = p.2
  | q :: ps, 0, p, h, _, e => by
    cases h
    rw [look_cons, if_pos e]
  | q :: ps, i + 1, p, h, no, e => by
    rw [look_cons, if_neg (no q (by simp))]
    exact look_at (i := i) h (fun r m => no r (by rw [List.take_succ_cons]; exact List.mem_cons_of_mem _ m)) e
  | [], i, p, h, _, _ => by simp at h
theorem eqV_int {a b : Int} : eqV (.int a) (.int b) = decide (a = b) := by
  by_cases h : a = b
  · subst h; simp [eqV]
  · simp [eqV, h]
theorem inV_ints {k : Int} {ns : List Int} : inV (.int k) (ns.map V.int) = decide (k ∈ ns) := by
  unfold inV
  induction ns with
  | nil => rfl
  | cons n ns ih =>
    rw [List.map_cons, List.any_cons, ih, eqV_int]
    by_cases e : n = k
    · subst e; simp
    · have e' : ¬ k = n := fun z => e z.symm
      simp [e, e']
theorem flat_ints (ns : List Int) : (ns.map V.int).all flatV = true := by
  rw [List.all_eq_true]
  intro x hx
  obtain ⟨n, _, rfl⟩ := List.mem_map.mp hx
  rfl
theorem in_ints {K : PySem.W.Frag} {H : Hp} {p : Addr} {k : Int} {ns : List Int} {Q : VK} (h : SqL K H p (ns.map V.int)) (q : Q (.bl (decide (k ∈ ns))) H) : rIn K false (.int k) (.ref p) H Q :=
  ⟨p, _, rfl, .inl h, rfl, flat_ints ns, by rw [inV_ints]; exact q⟩
theorem rows_ex {H : Hp} {far : Int} : ∀ {ys : List V} {ns : List Int}, ys.length = ns.length → (∀ (i : Nat) y, ys[i]? = some y → ∃ q k x, y = .ref q ∧ ns[i]? = some k ∧ (0 ≤ x ∧ x < far) ∧ RowAt H q (k, x)) →
    ∃ (qs : List Addr) (fs : Tb), ys = qs.map V.ref ∧ Rows H qs fs ∧ fs.map (·.1) = ns ∧ ∀ p ∈ fs, 0 ≤ p.2 ∧ p.2 < far
  | [], [], _, _ => ⟨[], [], rfl, .nil, rfl, fun p m => by simp at m⟩
  | y :: ys, n :: ns, hl, h => by
    obtain ⟨q, k, x, rfl, e, hx, r⟩ := h 0 y rfl
    cases e
    obtain ⟨qs, fs, rfl, t, e2, hf⟩ := rows_ex (far := far) (ys := ys) (ns := ns) (by simpa using hl) fun i z e => h (i + 1) z e
    refine ⟨q :: qs, (n, x) :: fs, rfl, .cons r t, by rw [List.map_cons, e2], fun p m => ?_⟩
    rcases List.mem_cons.mp m with rfl | m
    · exact hx
    · exact hf p m
  | [], _ :: _, hl, _ => by simp at hl
  | _ :: _, [], hl, _ => by simp at hl
theorem asc_of {ns : List Int} (h : ns.Pairwise (· ≤ ·)) (nd : ns.Nodup) : ns.Pairwise (· < ·) := by
  induction ns with
  | nil => exact .nil
  | cons n ns ih =>
    obtain ⟨a, b⟩ := List.pairwise_cons.mp h
    obtain ⟨c, d⟩ := List.nodup_cons.mp nd
    refine .cons (fun m hm => ?_) (ih b d)
    have := a m hm
    have : n ≠ m := fun z => c (z ▸ hm)
    omega
/-- a drawn table is good -/
theorem good_mk {fs : Tb} {ns : List Int} {far : Int} (e : fs.map (·.1) = ns) (h : ns.Pairwise (· ≤ ·)) (nd : ns.Nodup) (hn : ∀ k ∈ ns, 0 ≤ k ∧ k < far) (hf : ∀ p ∈ fs, 0 ≤ p.2 ∧ p.2 < far) (f1 : far ≤ 1000000000) (hl : ns.length ≤ 5) : Good fs ∧ fs.length ≤ 5 := by
  have l : fs.length = ns.length := by rw [← e, List.length_map]
  refine ⟨⟨fun p m => ?_, List.pairwise_map.mp (e ▸ asc_of h nd), by omega⟩, by omega⟩
  have a := hn p.1 (by rw [← e]; exact List.mem_map.mpr ⟨p, m, rfl⟩)
  have b := hf p m
  exact ⟨⟨a.1, by omega⟩, ⟨b.1, by omega⟩⟩
theorem get_ints {ns : List Int} {i : Nat} {x : V} (h : (ns.map V.int)[i]? = some x) : ∃ k, ns[i]? = some k ∧ x = .int k := by
  rw [List.getElem?_map] at h
  cases hz : ns[i]? with
  | none => rw [hz] at h; cases h
  | some k => rw [hz] at h; exact ⟨k, rfl, (Option.some.inj h).symm⟩
/-- a table as data -/
def datT (ts : Tb) : PyData := .tuple (ts.map fun p => .tuple [.int p.1, .int p.2])
theorem lay_all (ts : Tb) : PyData.canLayAll0 (ts.map fun p => .tuple [.int p.1, .int p.2]) = true := by
  induction ts with
  | nil => rfl
  | cons p ts ih => simp [PyData.canLayAll0, PyData.canLay0, ih]
theorem deep_all (ts : Tb) : PyData.depthAll (ts.map fun p => .tuple [.int p.1, .int p.2]) ≤ 1 := by
  induction ts with
  | nil => decide
  | cons p ts ih =>
    rw [List.map_cons, PyData.depthAll]
    exact Nat.max_le.mpr ⟨by simp [PyData.depth, PyData.depthAll], ih⟩
theorem shaped_tab (ts : Tb) : SeqAt.shaped (datT ts) = true := by
  unfold SeqAt.shaped datT
  rw [PyData.canLay0, PyData.depth, lay_all, decide_eq_true (by have := deep_all ts; omega)]
  rfl
theorem eqv_tab (ts : Tb) : PyData.eqv (datT ts) (datT ts) = true := PySem.SeqAt.eqv_refl _ (SeqAt.canLay_of_shaped (shaped_tab ts))
theorem dp_tab {K : PySem.W.Frag} {H : Hp} {v : V} {ts : Tb} (t : Tab H v ts) : Dp K H v (datT ts) := by
  obtain ⟨a, qs, rfl, h, r⟩ := t
  refine .tup h.sq ?_
  clear h
  induction r with
  | nil => exact .nil
  | cons h t ih => exact .cons (.tup (SqT.of h) (.cons (.int _) (.cons (.int _) .nil))) ih
theorem ne_tab {K : PySem.W.Frag} {H : Hp} {v u : V} {ts : Tb} {Q : VK} (t : Tab H v ts) (t' : Tab H u ts) (q : Q (.bl false) H) : rNeD K v u H Q :=
  ⟨_, _, dp_tab t, dp_tab t', shaped_tab ts, shaped_tab ts, by rw [eqv_tab]; exact q⟩
theorem eq_tab {K : PySem.W.Frag} {H : Hp} {v u : V} {ts : Tb} {Q : VK} (t : Tab H v ts) (t' : Tab H u ts) (q : Q (.bl true) H) : rEqD K v u H Q :=
  ⟨_, _, dp_tab t, dp_tab t', shaped_tab ts, shaped_tab ts, by rw [eqv_tab]; exact q⟩
/-- the dict of pairs (k, F k) -/
theorem merge_fun (F : Int → Int) : ∀ {ks : List Int} {acc : Tb}, (acc.map (·.1)).Nodup → (∀ p ∈ acc, p.2 = F p.1) →
    ∃ es : Tb, mergeK (kvI acc) (kvI (ks.map fun k => (k, F k))) = kvI es ∧ (es.map (·.1)).Nodup ∧ ∀ p, p ∈ es ↔ p ∈ acc ∨ p.1 ∈ ks ∧ p.2 = F p.1
  | [], acc, nd, hf => ⟨acc, rfl, nd, fun p => by simp⟩
  | k :: ks, acc, nd, hf => by
    have step : ∃ acc' : Tb, putK (kvI acc) (.inl k) (.int (F k)) = kvI acc' ∧ (acc'.map (·.1)).Nodup ∧ (∀ p, p ∈ acc' ↔ p ∈ acc ∨ p = (k, F k)) := by
      unfold putK
      by_cases hk : k ∈ acc.map (·.1)
      · obtain ⟨p, hp, e⟩ := List.mem_map.mp hk
        have e' : p.1 = k := e
        have any : ((kvI acc).any fun kv => decide (kv.1 = Sum.inl k)) = true := by
          rw [List.any_eq_true]
          exact ⟨(.inl p.1, .int p.2), List.mem_map.mpr ⟨p, hp, rfl⟩, by simpa using e'⟩
        rw [if_pos any]
        refine ⟨acc, ?_, nd, fun q => ⟨.inl, fun h => h.elim id fun h => ?_⟩⟩
        · unfold kvI
          rw [List.map_map]
          refine List.map_congr_left fun q hq => ?_
          show (if (Sum.inl q.1 : Key) = Sum.inl k then ((Sum.inl q.1 : Key), V.int (F k)) else (Sum.inl q.1, V.int q.2)) = (Sum.inl q.1, V.int q.2)
          split
          · rename_i h
            rw [hf q hq, Sum.inl.inj h]
          · rfl
        · have : p = q := by
            rw [h]
            exact Prod.ext e' (by rw [hf p hp, e'])
          rw [← this]; exact hp
      · have any : ((kvI acc).any fun kv => decide (kv.1 = Sum.inl k)) = false := by
          rw [List.any_eq_false]
          intro x hx
          obtain ⟨q, hq, rfl⟩ := List.mem_map.mp hx
          have : q.1 ≠ k := fun z => hk (List.mem_map.mpr ⟨q, hq, z⟩)
          simpa using this
        rw [any, if_neg Bool.false_ne_true]
        refine ⟨acc ++ [(k, F k)], by simp [kvI], ?_, fun q => by simp⟩
        rw [List.map_append]
        refine List.nodup_append.mpr ⟨nd, by simp, fun x hx y hy => ?_⟩
        obtain rfl : y = k := by simpa using hy
        exact fun z => hk (z ▸ hx)
    obtain ⟨acc', e1, nd', hm⟩ := step
    obtain ⟨es, e2, nd2, hm2⟩ := merge_fun F (ks := ks) (acc := acc') nd' fun p hp => by
      rcases (hm p).mp hp with h | rfl
      · exact hf p h
      · rfl
    refine ⟨es, ?_, nd2, fun p => ?_⟩
    · show mergeK (putK (kvI acc) (.inl k) (.int (F k))) (kvI (ks.map fun k => (k, F k))) = _
      rw [e1, e2]
    · rw [hm2, hm, List.mem_cons]
      constructor
      · rintro ((h | rfl) | ⟨h, e⟩)
        · exact .inl h
        · exact .inr ⟨.inl rfl, rfl⟩
        · exact .inr ⟨.inr h, e⟩
      · rintro (h | ⟨h | h, e⟩)
        · exact .inl (.inl h)
        · exact .inl (.inr (Prod.ext h (by rw [e, h])))
        · exact .inr ⟨h, e⟩
theorem asc_lex {rs : Tb} (h : rs.Pairwise fun p q => SrtO.lexB q p = false) (nd : (rs.map (·.1)).Nodup) : rs.Pairwise fun p q => p.1 < q.1 := by
  have n2 := List.pairwise_map.mp nd
  refine (h.and n2).imp fun {p q} ⟨a, b⟩ => ?_
  have := SrtO.lexB_no.mp a
  omega
/-- the due table is the chain -/
theorem due_chain {ps rs ts es us : Tb} {ks : List Int} (c : IsChain ps rs ts) (hk : ∀ p ∈ ps ++ rs, p.1 ∈ ks) (nd : (es.map (·.1)).Nodup) (hm : ∀ p, p ∈ es ↔ p.1 ∈ ks ∧ p.2 = look rs (look ps p.1))
    (hp : us.Perm es) (hs : us.Pairwise fun p q => SrtO.lexB q p = false) : us.filter (fun p => decide (p.1 ≠ p.2)) = ts := by
  refine asc_uniq (List.Pairwise.filter _ (asc_lex hs ((hp.map _).nodup_iff.mpr nd))) c.asc fun p => ?_
  rw [List.mem_filter, hp.mem_iff, hm, c.mem, decide_eq_true_eq]
  constructor
  · rintro ⟨⟨_, e⟩, h⟩
    exact ⟨h, e⟩
  · rintro ⟨h, e⟩
    obtain ⟨q, hq, e2⟩ := far_out (ps := ps) (rs := rs) (c := p.1) fun z => h (by rw [e]; exact z.symm)
    exact ⟨⟨e2 ▸ hk q hq, e⟩, h⟩
theorem ints_of_all {f : Int × Int → Int} {fs : Tb} {ys : List V} (hl : ys.length = fs.length) (h : ∀ (i : Nat) y, ys[i]? = some y → ∃ p, fs[i]? = some p ∧ y = .int (f p)) : ∃ xs : List Int, ys = xs.map V.int ∧ xs = fs.map f := by
  refine ⟨fs.map f, ?_, rfl⟩
  refine List.ext_getElem? fun i => ?_
  rw [List.getElem?_map, List.getElem?_map]
  by_cases c : i < ys.length
  · obtain ⟨p, e1, e2⟩ := h i ys[i] (List.getElem?_eq_getElem c)
    rw [List.getElem?_eq_getElem c, e1, e2]
    rfl
  · rw [List.getElem?_eq_none (by omega), List.getElem?_eq_none (by omega)]
    rfl
theorem shaped2 (x : Int) : SeqAt.shaped (.list [.int x, .int x]) = true := by
  simp [SeqAt.shaped, PyData.canLay0, PyData.canLayAll0, PyData.depth, PyData.depthAll]
theorem ne2 {K : PySem.W.Frag} {H : Hp} {a b : Addr} {x : Int} {Q : VK} (h : H a = some (.lst [.int x, .int x])) (h' : H b = some (.lst [.int x, .int x])) (q : Q (.bl false) H) : rNeD K (.ref a) (.ref b) H Q :=
  ⟨_, _, .lst (SqL.of h) (.cons (.int _) (.cons (.int _) .nil)), .lst (SqL.of h') (.cons (.int _) (.cons (.int _) .nil)), shaped2 x, shaped2 x, by rw [SeqAt.eqv_refl _ (SeqAt.canLay_of_shaped (shaped2 x))]; exact q⟩
theorem good_nil : Good [] := ⟨fun p m => by simp at m, .nil, by simp⟩
theorem any_false {ys : List V} (h : ∀ y ∈ ys, y = V.bl false) : ∃ bs : List Bool, ys = bs.map V.bl ∧ bs.any id = false := by
  refine ⟨List.replicate ys.length false, ?_, by simp⟩
  rw [List.map_replicate]
  exact List.eq_replicate_iff.mpr ⟨rfl, h⟩
theorem rows_kv {K : PySem.W.Frag} {H : Hp} : ∀ {qs : List Addr} {ps : Tb}, Rows H qs ps → Paired (fun (p : Addr) (kv : Key × V) => SqT K H p [kV kv.1, kv.2]) qs (kvI ps)
  | _, _, .nil => .nil
  | _, _, .cons h t => .cons (SqT.of h) (rows_kv t)
end Lw
/-! Exceptions of one's own: Base.__init__(self, ..), Base an own class without an __init__. -/
namespace Lw
open PySem PySem.Spec PyProof.Rows L2 Evl
section
variable {X : Cx} {e : Expr} {es : List Expr} {ta : TA} {p1 p2 pos : Pos} {x : Str} {B : Addr}
/-- what the written part says of the base -/
structure BaseC (K : PySem.W.Frag) (B : Addr) : Prop where
  ga : PySem.W.specialIn K (.ref B) "__getattribute__" = some (some (.builtin "type.__getattribute__"))
  ty : PySem.W.typeIn K (.ref B) = some (.type "type")
  rd : PySem.W.readsIn K B (.type "type") = true
  fc : PySem.W.findCls K (.ref B) (.type "type") "__init__" = some (.val (.builtin "ValueError.__init__"))
theorem pe_binit {pl : Sem Bool} (hg : Gl X x) (hm : X.mg x = some (.ref B)) (b : BaseC X.K B) (ha : PA X (e :: es) ta) (hd : (x == ("__debug__" : Str)) = false := by decide)
    (hc : eval (.Call (.Attribute (.Name x p1) "__init__" p2) (e :: es) [] pos) X.env = (do
      let ov ← eval (.Name x p1) X.env
      standAt p2.atName
      let (f, first) ← holding [ov] (getMethod ov "__init__" pl)
      callWith pos f first (backTo pos (starEach (e :: es) X.env)) (backToKw pos (keywordEach [] X.env))) := by rfl)
    (hs : starEach (e :: es) X.env = (false, eval e X.env) :: starEach es X.env := by rfl) (hpl : (backTo pos (starEach es X.env)).any (·.1) = false := by rfl) :
    PE X (.Call (.Attribute (.Name x p1) "__init__" p2) (e :: es) [] pos) (tVeI X.K ta) := by
  refine ⟨fun pins s σ H Q I hq => ?_⟩
  refine PySem.W.methodCall_KW (ld_glob I hg hm ?_ hd) hc
  obtain ⟨m, fr⟩ := I.fr
  refine PySem.W.method_of_cls fr I.ok.mod.kin b.ga (PySem.W.cls_val fr I.ok.mod.kin b.ty b.rd b.fc (by decide +kernel) ?_)
  show wpAny _ _ (callWith pos (Value.builtin "ValueError.__init__") [] (backTo pos (starEach (e :: es) X.env)) []) _ _ _
  refine PyProof.Rows.callWith_method1 (thn (ha.run pos pins _ σ H _ (I.tok _) hq) fun us s1 hh => ?_) hs hpl
  obtain ⟨vs, H1, J, rv, a, C, ws, rfl, hl, T, ea, q⟩ := hh
  cases rv with
  | cons r0 rt =>
    cases r0
    exact oinit_ok T J ea (by rw [← Paired.length rt]; exact Nat.le_trans hl (by decide)) fun s' J' => ⟨.non, H1, J', rfl, q⟩
end
section
variable {P : Program} {w : World} {K : PySem.W.Frag} {mg : Str → Option Value} {base : Heap} {k : Nat} {x : Str} {st : Stmt} {ps N : List Str} {sp : Sp}
/-- a def that may raise -/
theorem clX_of (D : DefAt K mg x st) (S : FnScope N ps (defScope st)) (len : ∀ vs H Q E, sp vs H Q E → vs.length = ps.length)
    (hbody : ∀ (f : Addr) (cdv : Value) (A : Around) (outer : List Env) (s : Shared) (H : Hp) (vs : List V) (Q : VK) (E : XK), Room k (A.deeper (envOfC x (defScope st) s.heap.objs.size f cdv)) → sp vs H Q E →
      ∃ t, PSs (cxOf (L2.CX P w) P w K mg base N x (defScope st) f cdv A outer s H E) (defBody st) t ∧ t { nx := fun _ H' => Q .non H', rt := Q } (start N vs) H) : Cl P w K mg base (L2.CX P w) (k + 1) x st ps sp := by
  obtain ⟨f, fd, F, m⟩ := D.ex
  exact ⟨f, fd, F, F.okX S len (hbody f), m⟩
end
/-- what an own exception's __init__ does: Base.__init__(self, ..), self.value = value -/
def spInit (C : Addr) : Sp := fun vs H Q _ => ∃ a v, H a = some (exo a C none) ∧ vs = [.ref a, v] ∧ ∀ d, H d = none → d ≠ a → Q .non (upd (upd H d (exd d [("value", v)])) a (exo a C (some d)))
/-- an own exception class of the text: its __init__ keeps spInit -/
structure ExcAt (P : Program) (w : World) (K : PySem.W.Frag) (mg : Str → Option Value) (base : Heap) (x : Str) (C : Addr) : Prop where
  nm : mg x = some (.ref C)
  oex : OexC K C
  ini : ∃ f fd, PySem.W.findIn K (.ref C) "__init__" = some (some (.ref f)) ∧ PySem.W.typeIn K (.ref f) = some (.type "function") ∧ FnOk P w K mg base CX0 1 f fd ["self", "value"] (spInit C) ∧ Binds K fd ["self", "value"] []
section
variable {X : Cx} {e : Expr} {te : TE} {x : Str} {C : Addr} {p pos : Pos} {W : WX}
/-- raise x(e) -/
theorem ps_raiseO {ta : TA} (hc : X.calm = true) (tk : Takes X W) (c : ExcAt X.prog X.w X.K X.mg X.base x C) (hr : Room 2 X.A) (hg : Gl X x) (ha : PA X [e] ta) (hd : (x == ("__debug__" : Str)) = false := by decide)
    (hs : starEach [e] X.env = (false, eval e X.env) :: starEach [] X.env := by rfl) (hpl : (backTo p (starEach [] X.env)).any (·.1) = false := by rfl) {q : Pos} :
    PS X (.Raise (some (.Call (.Name x q) [e] [] p)) none pos) (fun _ σ H => tMkO C (spInit C) [] ta σ H fun cls d H' => W cls d σ H') := by
  obtain ⟨f, fd, iC, tI, F1, hb⟩ := c.ini
  exact ps_raise (pos := pos) hc tk (pmk_oex (p := q) (pos := p) c.oex iC tI F1 hr hb .nil pass0 hg c.nm ha hd hs hpl)
end
/-- what a raise of such a class comes to -/
theorem mkO_in {C : Addr} {v : V} {H1 : Hp} {Q : XK} (q : ∀ d H2, Ex H1 H2 → H2 d = some (.xd [("value", v)]) → Q (.ref C) (some d) H2) :
    [v].length ≤ 1000 ∧ ∀ a, H1 a = none → spInit C (.ref a :: ([v] ++ [])) (upd H1 a (exo a C none))
      (fun v H2 => v = .non ∧ ∃ (d : Addr) (fs : List (Str × V)), H2 a = some (exo a C (some d)) ∧ H2 d = some (exd d fs) ∧ H1 d = none ∧ Q (.ref C) (some d) (upd (del H2 a) d (.xd fs))) (fun _ _ _ => False) := by
  refine ⟨by show 1 ≤ 1000; decide, fun a na => ?_⟩
  refine ⟨a, v, upd_same, rfl, fun d hd2 ne => ?_⟩
  have hd1 : H1 d = none := by rw [upd_ne ne] at hd2; exact hd2
  refine ⟨rfl, d, _, upd_same, by rw [upd_ne ne, upd_same], hd1, q d _ (fun b u hb => ?_) upd_same⟩
  have n1 : b ≠ d := ne_of_none hb hd1
  have n2 : b ≠ a := ne_of_none hb na
  rw [upd_ne n1]
  show (if b = a then none else _) = _
  rw [if_neg n2, upd_ne n2, upd_ne n1, upd_ne n2]
  exact hb
/-- what the text says of an own exception class that has its own __init__ -/
structure ClsAt (K : PySem.W.Frag) (mg : Str → Option Value) (x q : Str) (st : Stmt) : Prop where
  ex : ∃ (C B f : Addr) (fd : FuncData), mg x = some (.ref C) ∧ OexC K C ∧ PySem.W.findIn K (.ref C) "__init__" = some (some (.ref f)) ∧ PySem.W.typeIn K (.ref f) = some (.type "function") ∧
    Fun K "__init__" q st f fd ∧ PySem.W.findIn K (.ref C) "value" = some none ∧ mg "FormError" = some (.ref B) ∧ BaseC K B
theorem clsAt_mk {K : PySem.W.Frag} {mg : Str → Option Value} {x q : Str} {st : Stmt} {h : Heap} {C B f N : Addr} {nm qq : Str} {bs bm : List Value} {sn : List Str} {sub : List Value} {ab : Bool} {col : Option Bool} {dd : Option Addr} {k0 k1 k2 k3 k5 : Option Value}
    {oc : Value} {od an : Option Addr} {osl : Array (Option Value)} {kV doc pm cdv ct : Value} (X : K.In h) (G : h.Ns mainGlobals mg) (a : PySem.W.nsIn K mainGlobals x = some (some (.ref C)))
    (cl : K.lookup C = some (excClassObj nm qq C N bs bm true sn sub ab col dd k0 k1 k2 k3 k5 "ValueError.__new__")) (r : PySem.HandSPX.refsVE bm = true)
    (sa : PySem.W.findIn K (.ref C) "__setattr__" = some (some (.builtin "object.__setattr__"))) (exC : PySem.W.subIn K (.ref C) (.type "BaseException") = some true) (tyC : PySem.W.typeIn K (.ref C) = some (.type "type")) (kC : PySem.W.keepIn K (.ref C) = true)
    (i : PySem.W.findIn K (.ref C) "__init__" = some (some (.ref f))) (ti : PySem.W.typeIn K (.ref f) = some (.type "function"))
    (l : K.lookup f = some ⟨oc, od, .func (PySem.W.fnOf "__init__" q (defArgs st) (defBody st) (defScope st) .none kV doc pm an cdv ct), osl⟩) (c : PySem.W.codeIn K cdv q = true) (kp : PySem.W.keepIn K (.ref f) = true)
    (no : PySem.W.findIn K (.ref C) "value" = some none) (aB : PySem.W.nsIn K mainGlobals "FormError" = some (some (.ref B)))
    (ga : PySem.W.specialIn K (.ref B) "__getattribute__" = some (some (.builtin "type.__getattribute__"))) (ty : PySem.W.typeIn K (.ref B) = some (.type "type")) (rd : PySem.W.readsIn K B (.type "type") = true)
    (fc : PySem.W.findCls K (.ref B) (.type "type") "__init__" = some (.val (.builtin "ValueError.__init__"))) : ClsAt K mg x q st :=
  ⟨C, B, f, _, PySem.W.mg_of X G a, ⟨⟨_, _, _, _, _, _, _, _, _, _, _, _, _, _, _, cl, r⟩, sa, exC, tyC, kC⟩, i, ti, fun_mk l c kp, no, PySem.W.mg_of X G aB, ga, ty, rd, fc⟩
end Lw
/-! try: .. except (A, B, C) as e: .., where the suite keeps the exception in a name: behind the suite it is an object like others. -/
namespace Lw
open PySem PySem.Spec PyProof.Rows L2 Evl
/-- at a: an exception, its class and its dict are known -/
def exc (a : Addr) (cls : Value) (d : Option Addr) : HO := .ext fun g => ∃ (oe : Obj) (fv : Array Value), g.get? a = some oe ∧ Zc cls d oe ∧ oe.data = .fields fv
theorem exc_ok {P : Program} {w : World} {H : Hp} {g : Heap} {a : Addr} {cls : Value} {d : Option Addr} {oe : Obj} {fv : Array Value} (e : g.get? a = some oe) (z : Zc cls d oe) (f : oe.data = .fields fv) : ObjOk P w H g a (exc a cls d) :=
  ⟨⟨oe, fv, e, z, f⟩, ⟨oe, e⟩, fun _ _ ⟨o, v, q, r⟩ st => ⟨o, v, st o q, r⟩⟩
section
variable {X : Cx} {pins : List (Addr × Obj)} {σ : L2.St} {H : Hp} {s : Shared} {a : Addr} {cls : Value} {d : Option Addr} {oe : Obj} {fv : Array Value}
/-- an object that no one tracked, made behind the def's start -/
theorem inv_caught (I : Inv X pins σ H s) (hn : H a = none) (h0 : a ∈ X.ex ∨ X.s_0.heap.get? a = none) (hL : a ≠ X.env.locals) (hp : ∀ p ∈ X.pn ++ pins, p.1 ≠ a) (e : s.heap.get? a = some oe) (z : Zc cls d oe) (f : oe.data = .fields fv) :
    Inv X pins σ (upd H a (exc a cls d)) s := by
  have old : ∀ {b u}, H b = some u → upd H a (exc a cls d) b = some u := fun {b u} q => by rw [upd_ne (ne_of_none q hn)]; exact q
  have was : ∀ {b o}, X.s_0.heap.get? b = some o → b ∉ X.ex → b ≠ a := fun {b o} q hx zz => by
    rcases h0 with h0 | h0
    · exact hx (zz ▸ h0)
    · rw [zz, h0] at q; cases q
  refine ⟨I.ok, I.os, I.bare, ⟨I.base.keep, I.base.slot, fun b o q n hx => ?_, I.base.there, fun b xs q => old (I.base.tups b xs q), fun b o u q => old (I.base.frzs b o u q), fun b qs q => ?_⟩, I.loc, I.cell, ?_, fun x c q => ?_, fun p m => ?_, fun b u q => ?_, I.len⟩
  · rw [upd_ne (was q hx)]
    exact I.base.free b o q n hx
  · obtain ⟨more, m⟩ := I.base.tbls b qs q
    exact ⟨more, old m⟩
  · rw [upd_ne (Ne.symm hL)]
    exact I.free
  · have ne : c ≠ a := fun zz => by
      obtain ⟨v, ob, ho, hd⟩ := I.cell x c q
      rw [zz, e] at ho
      cases ho
      rw [f] at hd
      cases hd
    rw [upd_ne ne]
    exact I.freeC x c q
  · obtain ⟨p1, p2, p3⟩ := I.pin p m
    exact ⟨p1, by rw [upd_ne (hp p m)]; exact p2, p3⟩
  · by_cases hb : b = a
    · subst hb
      rw [upd_same] at q
      cases q
      exact exc_ok e z f
    · rw [upd_ne hb] at q
      exact (I.hok b u q).stay (fun _ _ _ r => r) (fun c r => old r) fun c xs r => old r
theorem sky_new {B : Heap} {l : List Env} {Z : Obj → Prop} {L : Addr} {h : Heap} (k : Sky B l a Z L h) : B.get? a = none := by
  rcases k with k | k | k
  · exact k.2.1
  · exact k.2.1
  · exact k.2.1
theorem flying_more {B : Heap} {l : List Env} {Z : Obj → Prop} {h g : Heap} (k : HandSPX.FlyingZ B l a Z h) (st : ∀ b o, h.get? b = some o → g.get? b = some o) : HandSPX.FlyingZ B l a Z g := by
  obtain ⟨k1, k2, k3, oe, vs, T, oT, ts, a1, a2, a3, a4, a5, a6, a7, a8⟩ := k
  exact ⟨fun b o q => st _ _ (k1 b o q), k2, Heap.FunFrames.of_keeps (fun b o q _ => ⟨o, st _ _ q, rfl⟩) k3, oe, vs, T, oT, ts, st _ _ a1, a2, a3, a4, a5, a6, st _ _ a7, a8⟩
/-- what is wished of an exception of the body: slot i is the clause's name; the suite runs through -/
def wKept (K : PySem.W.Frag) (N : Nat) (cs : List Value) (i : Nat) (ts : Addr → Value → Option Addr → TS) (D : Ends) : WX := fun cls d σ H =>
  PySem.W.exmAny K cls cs = some true ∧ ∀ a, H a = none → σ.length = N → ts a cls d { nx := fun σ' H' => H' a = none → D.nx (σ'.set i none) (upd H' a (exc a cls d)), rt := fun _ _ => False, bk := fun _ _ => False, ct := fun _ _ => False } (σ.set i (some (.ref a))) H
end
section
variable {X : Cx} {x1 x2 x3 n : Str} {c1 c2 c3 : Addr} {i : Nat} {body suite : List Stmt} {b₀ : Stmt} {q1 q2 q3 tp pos pos' : Pos} {tx} {tb : WX → TS} {ts : Addr → Value → Option Addr → TS}
set_option maxHeartbeats 4000000 in
theorem ps_try_kept (hst : X.stack = X.env :: X.outer) (hf : X.env.frame = some X.env.locals) (hN : X.N.Nodup) (hi : X.N[i]? = some n) (hln : X.env.kindOf n = some .local)
    (g1 : Gl X x1) (m1 : X.mg x1 = some (.ref c1)) (g2 : Gl X x2) (m2 : X.mg x2 = some (.ref c2)) (g3 : Gl X x3) (m3 : X.mg x3 = some (.ref c3))
    (hb : ∀ (W : WX) (pn : List (Addr × Obj)) (xe : Value → Shared → Prop), Takes (X.tr pn xe) W → PSs (X.tr pn xe) body (tb W))
    (hsu : ∀ (a : Addr) (oe : Obj) (cls : Value) (d : Option Addr) (pn : List (Addr × Obj)), PSs (X.suite a ((a, oe) :: pn)) (b₀ :: suite) (ts a cls d))
    (d1 : (x1 == ("__debug__" : Str)) = false := by decide) (d2 : (x2 == ("__debug__" : Str)) = false := by decide) (d3 : (x3 == ("__debug__" : Str)) = false := by decide) :
    PS X (.Try body [.ExceptHandler (some (.Tuple [.Name x1 q1, .Name x2 q2, .Name x3 q3] tx tp)) (some n) (b₀ :: suite) pos'] [] [] pos) (fun D σ H => tb (wKept X.K X.N.length [.ref c1, .ref c2, .ref c3] i ts D) D σ H) := by
  refine ⟨fun pins s σ H D I hq => ?_⟩
  have ok := I.ok
  have frm : X.A.frames = some (X.env :: X.outer) := by rw [ok.frames, hst]
  have lcl : Loc X.env.scope n := .inl hln
  refine wpAny_Try_except ?_
  refine wpAny_mono ((hb (wKept X.K X.N.length [.ref c1, .ref c2, .ref c3] i ts D) (X.pn ++ pins) (fun z s₁ => wpAny (model X.prog X.w) X.A (noteFrame z X.env) (fun _ s₂ => wpAny (model X.prog X.w) X.A (setFlight z none) (fun _ s₃ =>
    wpAny (model X.prog X.w) X.A (handleBy z X.env [.ExceptHandler (some (.Tuple [.Name x1 q1, .Name x2 q2, .Name x3 q3] tx tp)) (some n) (b₀ :: suite) pos']) (SP X pins D) X.xe s₃) X.xe s₂) X.xe s₁) (fun u s' xx => ?_)).run [] s σ H D (I.toTry _) hq) (fun fl s1 hsp => ?_) (fun z s1 hz => hz)
  · obtain ⟨a, B, sI, pins', σ', H', cls, d, rfl, J', nb, up, sky, na, os, ag, hm, hyes⟩ := xx
    have J : Inv X pins σ' H' sI := J'.ofTry ok
    have new0 := sky_new sky
    have sky' : Sky B (X.env :: X.outer) a (Zc cls d) X.env.locals s'.heap := by rw [← hst]; exact sky
    show wpAny (model X.prog X.w) X.A (noteFrame (.ref a) X.env) _ _ _
    refine Sky.land Zc.steady frm hf sky' fun h3 fl3 up3 => ?_
    have J3 : Inv X pins σ' H' { s' with heap := h3 } := J.landed nb fl3.1 (up.trans up3) os ag
    obtain ⟨oe3, vs3, he3, hz3, hd3⟩ := fl3.there
    have notF : ∀ {g : Heap} {o : Obj} {vs : Array Value}, g.FunFrames B (X.env :: X.outer) → g.get? a = some o → o.data = .fields vs → a ∉ frs (X.env :: X.outer) := fun {g o vs} ff e dd hmem => by
      obtain ⟨_, o', e', no⟩ := ff.mem hmem
      rw [e] at e'; cases e'
      exact no _ dd
    have nfr := notF fl3.2.2.1 he3 hd3
    have nL : a ≠ X.env.locals := fun zz => nfr (List.mem_filterMap.mpr ⟨X.env, List.mem_cons_self, by rw [hf, zz]⟩)
    have nF : a ∉ X.fs := fun hmem => by
      obtain ⟨en, he, q⟩ := List.mem_filterMap.mp hmem
      exact nfr (List.mem_filterMap.mpr ⟨en, List.mem_cons_of_mem _ he, q⟩)
    have newI : sI.heap.get? a = none := by
      cases hg : sI.heap.get? a with
      | none => rfl
      | some o =>
        have q := nb a o hg (by rw [hst]; exact nfr)
        rw [new0] at q
        cases q
    have new00 : a ∈ X.ex ∨ X.s_0.heap.get? a = none := by
      cases hg : X.s_0.heap.get? a with
      | none => exact .inr rfl
      | some o =>
        by_cases hx : a ∈ X.ex
        · exact .inl hx
        · obtain ⟨o', e'⟩ := J.base.there a o hg hx
          rw [newI] at e'
          cases e'
    have newp : ∀ p ∈ X.pn ++ pins, p.1 ≠ a := fun p m zz => by
      have := (J.pin p m).1
      rw [zz, newI] at this
      cases this
    have S3 := J3.suite he3 hd3 na nL nF
    refine wpAny_handleBy_cons (codeAny_handlers_test ?_) (by intro q; cases q)
    refine wpAny_Tuple_spliced ?_
    show wpAny _ _ (spliced [(false, eval (.Name x1 q1) X.env), (false, eval (.Name x2 q2) X.env), (false, eval (.Name x3 q3) X.env)]) _ _ _
    refine Calls.spliced_cons (ld_glob (X := X.suite a ((a, oe3) :: (X.pn ++ pins))) S3 g1 m1 ?_ d1)
    refine Calls.spliced_cons (ld_glob (X := X.suite a ((a, oe3) :: (X.pn ++ pins))) S3 g2 m2 ?_ d2)
    refine Calls.spliced_cons (ld_glob (X := X.suite a ((a, oe3) :: (X.pn ++ pins))) S3 g3 m3 ?_ d3)
    refine Calls.spliced_nil ⟨by show 3 ≤ sizeLine; decide, ?_⟩
    have kp : ∀ b o, h3.get? b = some o → (h3.push { cls := .type "tuple", data := .seq [Value.ref c1, .ref c2, .ref c3].toArray }).get? b = some o := fun b o q => Heap.get?_push_of_some _ q
    have htup : (h3.push { cls := .type "tuple", data := .seq [Value.ref c1, .ref c2, .ref c3].toArray }).get? h3.objs.size = some { cls := .type "tuple", data := .seq [Value.ref c1, .ref c2, .ref c3].toArray } := Heap.get?_push_size _ rfl
    show wpAny _ _ (excMatches (.ref a) (.ref h3.objs.size)) _ _ { s' with heap := h3.push { cls := .type "tuple", data := .seq [Value.ref c1, .ref c2, .ref c3].toArray } }
    generalize h3.push { cls := .type "tuple", data := .seq [Value.ref c1, .ref c2, .ref c3].toArray } = g3 at *
    have fl5 := flying_more fl3 kp
    have up5 : h3.UpToSlots g3 := fun b o q _ => ⟨o.slots, kp b o q⟩
    have LT : PySem.W.Looks (model X.prog X.w) g3 (typeOf (.ref a)) cls := fun A Q E st k q => wpAny_typeOf_ref (k _ _ (kp _ _ he3)) (by rw [hz3.1]; exact q)
    have LM := PySem.W.exm_tup3 (M := model X.prog X.w) (J3.kIn.keeps kp) LT htup hm
    refine LM.here ?_
    refine codeAny_handlers_suite_as ?_
    refine HandSPX.lands_againZ fl5 fun h4 fl4 up4 => ?_
    have J4 : Inv X pins σ' H' { s' with heap := h4 } := J.landed nb fl4.1 (((up.trans up3).trans up5).trans up4) os ag
    obtain ⟨oe4, vs4, he4, hz4, hd4⟩ := fl4.there
    have S4 := J4.suite he4 hd4 na nL nF
    refine store_ok (X := X.suite a ((a, oe4) :: (X.pn ++ pins))) (v := .ref a) S4 hN hi lcl rfl (fun s5 S5 => ?_) (.inr hln)
    refine wpAny_mono ((hsu a oe4 cls d (X.pn ++ pins)).run [] s5 _ H' _ S5 (hyes a na J.len)) (fun fl s6 hsp => ?_) (fun _ _ zz => False.elim zz)
    cases fl with
    | next =>
      obtain ⟨σ6, H6, S6, q6⟩ := hsp
      obtain ⟨p1, p2, p3⟩ := S6.pin (a, oe4) (List.mem_append_left _ List.mem_cons_self)
      have S7 := inv_caught (S6.unsuite ok) p2 new00 nL newp p1 hz4 hd4
      exact gone_ok S7 hN hi hln fun s7 J7 => ⟨_, _, J7, q6 p2⟩
    | brk =>
      obtain ⟨σ6, H6, S6, q6⟩ := hsp
      exact q6.elim
    | cont =>
      obtain ⟨σ6, H6, S6, q6⟩ := hsp
      exact q6.elim
    | ret u =>
      obtain ⟨v6, σ6, H6, S6, r6, q6⟩ := hsp
      exact q6.elim
  · cases fl with
    | next =>
      obtain ⟨σ', H', J', q⟩ := hsp
      exact wpAny_execs_nil ⟨σ', H', J'.ofTry ok, q⟩
    | brk =>
      obtain ⟨σ', H', J', q⟩ := hsp
      exact ⟨σ', H', J'.ofTry ok, q⟩
    | cont =>
      obtain ⟨σ', H', J', q⟩ := hsp
      exact ⟨σ', H', J'.ofTry ok, q⟩
    | ret u =>
      obtain ⟨v, σ', H', J', r, q⟩ := hsp
      exact ⟨v, σ', H', J'.ofTry ok, r, q⟩
end
/-- what a class of exceptions must say, so that its instances are asked and read rightly -/
structure ExcK (K : PySem.W.Frag) (C : Addr) : Prop where
  ga : PySem.W.findIn K (.ref C) "__getattribute__" = some (some (.builtin "BaseException.__getattribute__"))
  gt : PySem.W.findIn K (.ref C) "__getattr__" = some none
  sb : PySem.W.subIn K (.ref C) (.type "BaseException") = some true
  hd : PySem.W.hasDictIn K C = true
  ca : PySem.W.findIn K (.ref C) "__class__" = some (some (.builtin "object.__class__"))
  cg : PySem.W.specialIn K (.builtin "object.__class__") "__get__" = some (some (.builtin "getset_descriptor.__get__"))
  ct : PySem.W.takesIn K (.builtin "object.__class__") = some true
  mo : PySem.W.mroIn K C (.type "object") = some true
theorem exc_at {P : Program} {w : World} {H : Hp} {h : Heap} {a : Addr} {cls : Value} {d : Option Addr} (hok : HOk P w H h) (e : H a = some (exc a cls d)) : ∃ (oe : Obj) (fv : Array Value), h.get? a = some oe ∧ Zc cls d oe ∧ oe.data = .fields fv := by
  have x : ObjOk P w H h a (.ext fun g => ∃ (oe : Obj) (fv : Array Value), g.get? a = some oe ∧ Zc cls d oe ∧ oe.data = .fields fv) := hok a _ e
  exact x.1
/-- isinstance(e, c), e a caught exception of an own class -/
def rIsX (K : PySem.W.Frag) (D : Addr) : List V → Hp → VK → Prop := fun xs H Q => ∃ (a dd : Addr) (c : V) (cv : Value) (b : Bool) (fs : List (Str × V)), H a = some (exc a (.ref D) (some dd)) ∧ H dd = some (.xd fs) ∧ xs = [.ref a, c] ∧ (∀ u, RelV c u → u = cv) ∧ PySem.W.kitOne K (.ref D) cv = some b ∧ Q (.bl b) H
theorem call_isX {X : Cx} {D : Addr} (C : ExcK X.K D) : CallR X (.builtin "isinstance") (rIsX X.K D) := by
  intro pins s σ H xs us Q I r hq
  obtain ⟨a, dd, c, cv, b, fs, he, hdd, rfl, hcv, e, q⟩ := hq
  obtain ⟨u1, u2, rfl, r1, r2⟩ := vals2 r
  cases r1
  obtain rfl := hcv _ r2
  obtain ⟨oe, fv, g1, g2, g3⟩ := exc_at I.hok he
  obtain ⟨mA, hns, _⟩ : ObjOk X.prog X.w H s.heap dd (.xd fs) := I.hok dd _ hdd
  obtain ⟨od, ho, _⟩ := lookIn_ns hns
  have J : PySem.W.InstAt s.heap a oe D (some od) := ⟨g1, g2.1, by unfold PySem.W.notCls; rw [g3] <;> rfl, by rw [g2.2]; exact ho⟩
  obtain ⟨cd, hc, _⟩ := PySem.W.any_some C.hd
  exact PySem.W.kia_one (PySem.W.kitx_exc (by rw [hc]; rfl) C.ga C.gt C.sb C.ca C.cg C.ct C.mo) I.kIn J e (fun zz => nomatch zz) fun tk => ⟨.bl b, H, I.kept (t' := tk) fun _ _ zz => zz, rfl, q⟩
/-- e.n, e a caught exception of an own class -/
def tXk (D : Addr) (n : Str) (te : TE) : TE := fun σ H Q => te σ H fun x H1 => ∃ (a dd : Addr) (fs : List (Str × V)) (v : V), x = .ref a ∧ H1 a = some (exc a (.ref D) (some dd)) ∧ H1 dd = some (.xd fs) ∧ fs.lookup n = some v ∧ Q v H1
theorem pe_xk {X : Cx} {D : Addr} {e : Expr} {te : TE} {pos : Pos} {n : Str} (C : ExcK X.K D) (no : PySem.W.findIn X.K (.ref D) n = some none) (he : PE X e te) (hb : attributeBase e n X.env (eval e X.env) = eval e X.env := by rfl) : PE X (.Attribute e n pos) (tXk D n te) := by
  refine ⟨fun pins s σ H Q I hq => ?_⟩
  refine attr_of hb (thn (he.run pins s σ H _ I hq) fun u s1 hh => ?_)
  obtain ⟨x, H1, I1, rx, a, dd, fs, v, rfl, ha, hdd, l, q⟩ := hh
  cases rx
  obtain ⟨oe, fv, g1, g2, g3⟩ := exc_at I1.hok ha
  obtain ⟨mA, hns, hr⟩ : ObjOk X.prog X.w H1 s1.heap dd (.xd fs) := I1.hok dd _ hdd
  obtain ⟨od, ho, hl⟩ := lookIn_ns hns
  obtain ⟨u, hu, ru⟩ := RelO.some_of (v := v) (o := mA n) (by rw [← l]; exact hr n)
  have J : PySem.W.InstAt s1.heap a oe D (some od) := ⟨g1, g2.1, by unfold PySem.W.notCls; rw [g3] <;> rfl, by rw [g2.2]; exact ho⟩
  exact HandSPX.exc_get I1.kIn J C.ga C.gt C.sb (PySem.W.findObj_own C.hd no rfl (by rw [hl, hu])) (handed_of ru) ⟨v, H1, I1.tok _, ru, q⟩
end Lw
/-! Defs that ask repr of lists and tuples: what is known of the repr calls under way (none) goes from call to call. -/
namespace Lw
open PySem PySem.Spec PyProof.Rows L2 Evl LamX
/-- as FnOk, where no repr is under way -/
structure FnG (P : Program) (w : World) (K : PySem.W.Frag) (mg : Str → Option Value) (base : Heap) (CX : CXT) (k : Nat) (f : Addr) (fd : FuncData) (ps : List Str) (sp : Sp) : Prop where
  len : ∀ vs H Q E, sp vs H Q E → vs.length = ps.length
  run : ∀ (A : Around) (outer : List Env) (s : Shared) (H : Hp) (args : Args) (us : List Value) (vs : List V) (Q : VK) (E : XK), A.guards = some [] → Room k A → Env0 P w K mg base A outer s H → BindsTo s fd args (ps.zip us) →
    Vals vs us → sp vs H Q E → codeAny (model P w) A (.call (.ref f) args) (CR CX outer P w H s Q E) s
structure ClG (P : Program) (w : World) (K : PySem.W.Frag) (mg : Str → Option Value) (base : Heap) (CX : CXT) (k : Nat) (x : Str) (st : Stmt) (ps : List Str) (sp : Sp) : Prop where
  ex : ∃ (f : Addr) (fd : FuncData), Fun K x x st f fd ∧ FnG P w K mg base CX k f fd ps sp ∧ mg x = some (.ref f)
section
variable {P : Program} {w : World} {K : PySem.W.Frag} {mg : Str → Option Value} {base : Heap} {k : Nat} {x : Str} {st : Stmt} {ps N : List Str} {sp : Sp} {CX : CXT}
theorem clG_of (D : DefAt K mg x st) (S : FnScope N ps (defScope st)) (len : ∀ vs H Q E, sp vs H Q E → vs.length = ps.length)
    (hbody : ∀ (f : Addr) (cdv : Value) (A : Around) (outer : List Env) (s : Shared) (H : Hp) (vs : List V) (Q : VK) (E : XK), A.guards = some [] → Room k (A.deeper (envOfC x (defScope st) s.heap.objs.size f cdv)) → sp vs H Q E →
      ∃ t, PSs (cxOf CX0 P w K mg base N x (defScope st) f cdv A outer s H E).nox (defBody st) t ∧ t { nx := fun _ H' => Q .non H', rt := Q } (start N vs) H) : ClG P w K mg base CX0 (k + 1) x st ps sp := by
  obtain ⟨f, fd, F, m⟩ := D.ex
  refine ⟨f, fd, F, ?_, m⟩
  obtain ⟨oc, od, kV, doc, pm, an, cdv, ct, osl, rfl, lk, hcd⟩ := F.ex
  refine ⟨len, fun A outer s H args us vs Q E gd hr e0 hb r hs => run_ofS lk hcd S hr e0 hb r (len _ _ _ _ hs) fun hr' => ?_⟩
  obtain ⟨t, h, q⟩ := hbody f cdv A outer s H vs Q E gd hr' hs
  exact ⟨t, h.nox, q⟩
theorem ClG.at {f : Addr} {fd : FuncData} (c : ClG P w K mg base CX k x st ps sp) (F : Fun K x x st f fd) (m : mg x = some (.ref f)) : FnG P w K mg base CX k f fd ps sp := by
  obtain ⟨f', fd', F', o, m'⟩ := c.ex
  rw [m] at m'
  cases m'
  obtain ⟨oc, od, kV, doc, pm, an, cdv, ct, osl, rfl, lk, _⟩ := F.ex
  obtain ⟨oc', od', kV', doc', pm', an', cdv', ct', osl', rfl, lk', _⟩ := F'.ex
  have e := Option.some.inj (lk.symm.trans lk')
  injection e with _ _ e _
  injection e with e
  rw [e]
  exact o
end
section
variable {X : Cx} {CX : CXT} {k j : Nat} {x : Str} {st : Stmt} {sp : Sp} {ps : List Str} {p pos : Pos} {e : Expr} {es : List Expr} {t : TA} {E : XK}
/-- f(a, ..), no repr under way -/
theorem pe_clG (c : ClG X.prog X.w X.K X.mg X.base CX k x st ps sp) (b : Bnd x st ps) (gd : X.A.guards = some []) (hr : Room j X.A) (hk : k ≤ j) (hg : Gl X x) (hx : Passes CX X E) (ha : PA X (e :: es) t)
    (hdb : (x == ("__debug__" : Str)) = false := by decide) (he : starEach (e :: es) X.env = (false, eval e X.env) :: starEach es X.env := by rfl) (hpl : (backTo pos (starEach es X.env)).any (·.1) = false := by rfl) :
    PE X (.Call (.Name x p) (e :: es) [] pos) (tCall sp [] E t) := by
  obtain ⟨f, fd, F, o, m⟩ := c.ex
  refine ⟨fun pins s σ H Q I hq => wpAny_Call_Name_kw (ld_glob I hg m (PySem.W.callWith_K (h₀ := X.base) I.ok.mod.kin F.kp (thn (ha.run pos pins s σ H _ I hq) fun us s1 hh => ?_) he hpl) hdb)⟩
  obtain ⟨vs, H1, J, r, q⟩ := hh
  refine ⟨J.kIn, ?_⟩
  rw [List.append_nil] at q
  have hl : us.length = ps.length := r.length.symm.trans (o.len _ _ _ _ q)
  have bt : BindsTo s1 fd ⟨us, []⟩ (ps.zip us) := by
    have z := F.binds b s1 us J.kIn (by rw [List.append_nil]; exact hl)
    rwa [List.append_nil] at z
  refine wpAny_call (codeAny_mono (o.run X.A X.stack s1 H1 ⟨us, []⟩ us vs Q E gd (hr.mono hk) J.env0 bt r q) fun res s2 hq2 => ?_)
  cases res with
  | error er => exact hx pins σ H1 s1 er s2 J hq2
  | ok fl =>
    cases fl with
    | ret u => exact J.after hq2
    | next => exact hq2.elim
    | brk => exact hq2.elim
    | cont => exact hq2.elim
/-! ### repr -/
/-- data whose text is asked: what Dp tells, and the empty dict -/
inductive Dd (K : PySem.W.Frag) (H : Hp) : V → PyData → Prop
  | dp {v : V} {d : PyData} : Dp K H v d → SeqAt.shaped d = true → Dd K H v d
  | emp {a : Addr} : H a = some (.dK []) → Dd K H (.ref a) (.dict [])
  | kv {a : Addr} {ps : List (Int × Int)} : H a = some (.dK (kvI ps)) → Dd K H (.ref a) (.dict (ps.map fun p => (.int p.1, .int p.2)))
def Shows (d : PyData) : Prop := d.showable = true ∧ d.shown.length ≤ sizeLine ∧ PyData.strOk d.shown = true
theorem reads_kv {P : Program} {w : World} {h : Heap} : ∀ {es : List DictEntry} {vs : List (Key × Value)} {kvs : List (Key × V)} {ps : List (Int × Int)}, Pairs (mixKind P w) es vs → KV kvs vs → kvs = kvI ps →
    ReadsAll h (es.map (·.key)) ((ps.map fun p => ((.int p.1, .int p.2) : PyData × PyData)).map (·.1)) [] ∧ ReadsAll h (es.map (·.val)) ((ps.map fun p => ((.int p.1, .int p.2) : PyData × PyData)).map (·.2)) []
  | _, _, _, [], .nil, .nil, _ => ⟨.nil, .nil⟩
  | _, _, _, _ :: _, .nil, .nil, hk => by cases hk
  | _, _, _, [], .cons .., .cons .., hk => by cases hk
  | e :: _, _, _, p :: ps, .cons h1 h2 t, .cons r1 r2, hk => by
    cases hk
    obtain ⟨i1, i2⟩ := reads_kv (h := h) t r2 rfl
    obtain ⟨r1, r3⟩ := r1
    rcases keyIs_shape (show keyIs _ _ = true from h1) with ⟨i, tk, ek, ev⟩ | ⟨z, tk, ek, ev⟩
    · rw [← r1] at ek
      cases ek
      obtain ⟨t2, e2⟩ : ∃ t2, e.val = .int p.2 t2 := by
        rw [h2]
        exact r3
      refine ⟨?_, ?_⟩
      · show ReadsAll h (e.key :: _) (.int p.1 :: _) []
        rw [ev]
        exact .cons (as := []) (.int _ _) i1
      · show ReadsAll h (e.val :: _) (.int p.2 :: _) []
        rw [e2]
        exact .cons (as := []) (.int _ _) i2
    · rw [← r1] at ek
      cases ek
/-- repr(x), no repr under way -/
theorem call_reprD (gd : X.A.guards = some []) (hu : X.A.units + 70 < cLine) : CallR X (.builtin "repr") (fun xs H Q => ∃ v d, Dd X.K H v d ∧ Shows d ∧ xs = [v] ∧ Q (.str d.shown) H) := by
  intro pins s σ H xs us Q I r hq
  obtain ⟨v, d, hd, ⟨hs, hz, _⟩, rfl, q⟩ := hq
  obtain ⟨u, rfl, ru⟩ := vals1 r
  cases hd with
  | dp hd sh =>
    obtain ⟨as, rd⟩ := hd.reads I d _ u ru
    have lay := SeqAt.canLay_of_shaped sh
    have dep : d.depth ≤ 64 := by
      unfold SeqAt.shaped at sh
      rw [Bool.and_eq_true, decide_eq_true_eq] at sh
      exact sh.2
    cases rd with
    | none => exact PySem.P.repr_of_none ⟨.str _, H, I.tok _, ⟨_, rfl⟩, q⟩
    | bool b => exact PySem.P.repr_of_bool ⟨.str _, H, I.tok _, ⟨_, rfl⟩, q⟩
    | int i tk => exact PySem.P.repr_of_int (of_decide_eq_true hs) ⟨.str _, H, I.tok _, ⟨_, rfl⟩, q⟩
    | str y tk => exact PySem.P.repr_of_str ⟨.str _, H, I.tok _, ⟨_, rfl⟩, q⟩ hz
    | list g1 g2 g3 g4 =>
      refine PySem.repr_of_reads' (.list g1 g2 g3 g4) hs (PyData.noDict_hsm (PyData.hasDict_of_canLay _ lay)) gd (by omega) (fun _ _ zz => zz) (fun h' u' tk kp => ?_) hz
      exact ⟨.str _, H, I.kept (t' := tk) kp, ⟨_, rfl⟩, q⟩
    | tuple g1 g2 g3 g4 =>
      refine PySem.repr_of_reads' (.tuple g1 g2 g3 g4) hs (PyData.noDict_hsm (PyData.hasDict_of_canLay _ lay)) gd (by omega) (fun _ _ zz => zz) (fun h' u' tk kp => ?_) hz
      exact ⟨.str _, H, I.kept (t' := tk) kp, ⟨_, rfl⟩, q⟩
    | dict g1 g2 g3 g4 g5 => cases hd
  | emp ha =>
    cases ru
    obtain ⟨_, hm, vs, rel, o, es, ep, ho, hc, hdat, hks, hps, hnd⟩ := dk_of I.hok ha
    cases rel
    have e0 : es.toList = [] := List.length_eq_zero_iff.mp hps.length
    refine PySem.repr_of_reads' (d := .dict []) (.dict ho hc.1 hdat (by rw [e0]; exact .nil) (by rw [e0]; exact .nil)) hs (fun _ zz => ?_) gd (by show X.A.units + ((PyData.depthKv [] + 1) + 1) < cLine; rw [PyData.depthKv]; omega) (fun _ _ zz => zz) (fun h' u' tk kp => ?_) hz
    · have ne : _ ≠ sysModules := beq_eq_false_iff_ne.mp hm
      simp at zz
      exact ne zz.symm
    · exact ⟨.str _, H, I.kept (t' := tk) kp, ⟨_, rfl⟩, q⟩
  | kv ha =>
    cases ru
    obtain ⟨_, hm, vs, rel, o, es, ep, ho, hc, hdat, hks, hps, hnd⟩ := dk_of I.hok ha
    obtain ⟨k1, k2⟩ := reads_kv (h := s.heap) hps rel rfl
    refine PySem.repr_of_reads' (.dict ho hc.1 hdat k1 k2) hs (fun _ zz => ?_) gd (by
      have : ∀ ps : List (Int × Int), PyData.depthKv (ps.map fun p => ((.int p.1, .int p.2) : PyData × PyData)) ≤ 1 := fun ps => by
        induction ps with
        | nil => simp [PyData.depthKv]
        | cons p ps ih =>
          rw [List.map_cons, PyData.depthKv]
          simp only [PyData.depth]
          omega
      rw [PyData.depth]
      have := this ‹_›
      omega) (fun _ _ zz => zz) (fun h' u' tk kp => ?_) hz
    · have ne : _ ≠ sysModules := beq_eq_false_iff_ne.mp hm
      simp at zz
      exact ne zz.symm
    · exact ⟨.str _, H, I.kept (t' := tk) kp, ⟨_, rfl⟩, q⟩
end
end Lw
/-! The end of a law whose promise knows that no repr is under way (FnG), with the tables of the lambdas' makers. -/
namespace Lw
open PySem PySem.Spec PyProof.Rows L2 Evl LamX
/-- a list of ints of this kind as an object -/
abbrev scriptO (us : List Value) : Obj := { cls := .type "list", data := .seq us.toArray }
abbrev noCodes : Obj := { cls := .none, data := .fields #[] }
section
variable {P : Program} {w : World} {K : PySem.W.Frag} {mg mb : Str → Option Value} {CX : CXT} {k : Nat} {fa a : Addr} {cs : List (Addr × Addr)} {fd : FuncData} {x : Str} {sp : Sp} {st : Shared} {us : List Value} {ns : List Int}
/-- what is tracked at the start: the tables, and the script where the written part does not hold it -/
def startH (K : PySem.W.Frag) (ts : List Addr) (a : Addr) (us : List Value) (ns : List Int) : Hp := fun b =>
  if b ∈ ts then some (.tbl #[]) else if b = a ∧ (K.lookup a).isNone = true then some (.frz (scriptO us) (.lst (ns.map V.int))) else none
theorem startH_t {ts : List Addr} {b : Addr} (m : b ∈ ts) : startH K ts a us ns b = some (.tbl #[]) := if_pos m
theorem startH_inv {ts : List Addr} {b : Addr} {u : HO} (e : startH K ts a us ns b = some u) : (b ∈ ts ∧ u = .tbl #[]) ∨ (b ∉ ts ∧ b = a ∧ K.lookup a = none ∧ u = .frz (scriptO us) (.lst (ns.map V.int))) := by
  unfold startH at e
  by_cases m : b ∈ ts
  · rw [if_pos m] at e
    exact .inl ⟨m, (Option.some.inj e).symm⟩
  · rw [if_neg m] at e
    by_cases c : b = a ∧ (K.lookup a).isNone = true
    · rw [if_pos c] at e
      exact .inr ⟨m, c.1, Option.isNone_iff_eq_none.mp c.2, (Option.some.inj e).symm⟩
    · rw [if_neg c] at e
      cases e
theorem startH_not {ts : List Addr} {b : Addr} (h1 : b ∉ ts) (h2 : b = a → K.lookup a ≠ none) : startH K ts a us ns b = none := by
  cases e : startH K ts a us ns b with
  | none => rfl
  | some u =>
    rcases startH_inv e with ⟨m, _⟩ | ⟨_, e1, e2, _⟩
    · exact absurd m h1
    · exact absurd e2 (h2 e1)
theorem law_gd (KX : K.In st.heap) (hns : st.heap.Ns mainGlobals mg) (hb : st.heap.Ns builtinsNs mb) (hbb : ∀ y : Str, y ≠ "__name__" → mb y = bootBuiltins y) (hlim : st.heap.NoLimit) (hg : st.gens = #[])
    (hT : ∀ p ∈ cs, st.heap.get? p.2 = some noCodes) (nT : ∀ p ∈ cs, K.lookup p.2 = none) (C : ∀ p ∈ cs, PySem.W.CodeHd st.heap p.1 p.2)
    (hbm : ∃ (bm : Addr) (ob : Obj), mg "__builtins__" = some (.ref bm) ∧ bm ≠ builtinsNs ∧ st.heap.get? bm = some ob ∧ ob.cls = .type "module" ∧ ob.dict = some builtinsNs ∧ ob.data = .plain)
    (ha : st.heap.get? a = some (scriptO us)) (hi : IntsAre us ns) (hl : ns.length ≤ sizeLine) (room : Room k callerA)
    (F : ∀ base : Heap, K.In base → base.Ns mainGlobals mg → (∀ p ∈ cs, TabB base mg p.1 p.2) → FnG P w K mg base CX k fa fd [x] sp) (hbind : ∀ (s : Shared) (u : Value), BindsTo s fd ⟨[u], []⟩ [(x, u)])
    (hsp : ∀ H : Hp, (∀ p ∈ cs, H p.2 = some (.tbl #[])) → SqL K H a (ns.map V.int) → sp [.ref a] H (fun v _ => v = .bl true) fun _ _ _ => False)
    (hCX : ∀ H e s', CX [] H st (fun _ _ _ => False) e s' → False) :
    codeAny (model P w) callerA (.call (.ref fa) ⟨[.ref a], []⟩) (fun r z => r = .ok (.ret (.bool true)) ∧ OldK st.heap z.heap ∧ z.os = st.os ∧ AllBare z.gens) st := by
  obtain ⟨ts, ets⟩ : ∃ ts : List Addr, ts = cs.map (·.2) := ⟨_, rfl⟩
  have inT : ∀ p ∈ cs, p.2 ∈ ts := fun p m => by rw [ets]; exact List.mem_map.mpr ⟨p, m, rfl⟩
  have ofT : ∀ b ∈ ts, ∃ p ∈ cs, p.2 = b := fun b m => by
    rw [ets] at m
    obtain ⟨p, q, e⟩ := List.mem_map.mp m
    exact ⟨p, q, e⟩
  have atT : ∀ b ∈ ts, st.heap.get? b = some noCodes := fun b m => by
    obtain ⟨p, q, e⟩ := ofT b m
    rw [← e]
    exact hT p q
  have aT : a ∉ ts := fun m => by
    have q := atT a m
    rw [ha] at q
    have q' := congrArg Obj.cls (Option.some.inj q)
    cases q'
  obtain ⟨H, eH⟩ : ∃ H : Hp, H = startH K ts a us ns := ⟨_, rfl⟩
  have inv : ∀ {b u}, H b = some u → (b ∈ ts ∧ u = .tbl #[]) ∨ (b ∉ ts ∧ b = a ∧ K.lookup a = none ∧ u = .frz (scriptO us) (.lst (ns.map V.int))) := fun {b u} e => startH_inv (by rw [eH] at e; exact e)
  have tab : ∀ b ∈ ts, H b = some (.tbl #[]) := fun b m => by rw [eH]; exact startH_t m
  have lenU : us.length = ns.length := hi.length
  have rel := vals_ints hi
  have free : ∀ {b : Addr} {o : Obj}, st.heap.get? b = some o → o.cls ≠ .type "list" → o.cls ≠ .none → H b = none := fun {b o} e n1 n2 => by
    cases q : H b with
    | none => rfl
    | some u =>
      rcases inv q with ⟨m, _⟩ | ⟨_, e1, _, _⟩
      · rw [atT b m] at e
        cases e
        exact absurd rfl n2
      · rw [e1, ha] at e
        cases e
        exact absurd rfl n1
  have freeD : ∀ {b : Addr} {o : Obj}, st.heap.get? b = some o → (∀ zs n, o.data ≠ .seq zs n) → o.data ≠ .fields #[] → H b = none := fun {b o} e n1 n2 => by
    cases q : H b with
    | none => rfl
    | some u =>
      rcases inv q with ⟨m, _⟩ | ⟨_, e1, _, _⟩
      · rw [atT b m] at e
        cases e
        exact absurd rfl n2
      · rw [e1, ha] at e
        cases e
        exact absurd rfl (n1 _ _)
  have up : ∀ {b : Addr} {o : Obj}, st.heap.get? b = some o → H b = none → (hidT st.heap H).get? b = some o := fun e n => hidT_get e n
  have dict : ∀ {b : Addr} {m : Str → Option Value}, st.heap.Ns b m → (hidT st.heap H).Ns b m := fun {b m} ⟨o, es, ep, e, d, r⟩ =>
    ⟨o, es, ep, up e (freeD e (fun zs n z => by rw [d] at z; cases z) fun z => by rw [d] at z; cases z), d, r⟩
  have kin : K.In (hidT st.heap H) := fun b o e => up (KX b o e) (by
    cases q : H b with
    | none => rfl
    | some u =>
      rcases inv q with ⟨m, _⟩ | ⟨_, e1, e2, _⟩
      · obtain ⟨p, pm, ep⟩ := ofT b m
        rw [← ep, nT p pm] at e
        cases e
      · rw [e1, e2] at e
        cases e)
  have mod : L2.Mod K mg (hidT st.heap H) := ⟨kin, dict hns, ⟨mb, dict hb, hbb⟩, let ⟨mc, l1, l2⟩ := hlim; ⟨mc, dict l1, l2⟩⟩
  have hok : HOk P w H st.heap := fun b u e => by
    rcases inv e with ⟨m, rfl⟩ | ⟨_, rfl, _, rfl⟩
    · exact atT b m
    · exact ⟨ha, by rw [List.length_map]; exact hl, us, _, rel, ha⟩
  have seq : SqL K H a (ns.map V.int) := by
    cases hk : K.lookup a with
    | some o =>
      have e := KX a o hk
      rw [ha] at e
      cases e
      exact .inr ⟨_, us.toArray, _, hk, rfl, rfl, rfl, by rw [List.size_toArray, lenU]; exact hl, by simpa using rel⟩
    | none => exact .inl (.inr ⟨scriptO us, by rw [eH]; unfold startH; rw [if_neg aT, if_pos ⟨rfl, by rw [hk]; rfl⟩]⟩)
  have tabs : ∀ p ∈ cs, TabB (hidT st.heap H) mg p.1 p.2 := fun p pm => by
    have hTp := hT p pm
    refine ⟨?_, ?_, fun z => ?_⟩
    · obtain ⟨o, vs, f1, f2, f3, f4, f5, f6, f7, e1, r1, r2, r3, rest⟩ := C p pm
      exact ⟨o, vs, f1, f2, f3, f4, f5, f6, f7, up e1 (free e1 (by rw [r1]; simp) (by rw [r1]; simp)), r1, r2, r3, rest⟩
    · obtain ⟨bm, ob, b1, b2, b3, b4, b5, b6⟩ := hbm
      refine ⟨bm, ob, b1, b2, fun z => ?_, fun z => ?_, up b3 (free b3 (by rw [b4]; simp) (by rw [b4]; simp)), b4, b5, b6⟩
      · obtain ⟨o, es, ep, e, hd, _⟩ := hns
        rw [z, e] at b3
        cases b3
        rw [hd] at b6
        cases b6
      · rw [z, hTp] at b3
        cases b3
        cases b6
    · obtain ⟨o, es, ep, e, hd, _⟩ := hns
      rw [z, hTp] at e
      cases e
      cases hd
  have env : Env0 P w K mg (hidT st.heap H) callerA [] st H := ⟨rfl, mod, fun b o e => of_hidT e, Nat.le_of_eq (hidT_size _ _), trivial, fun b m => (List.not_mem_nil m).elim, hok, .of_eq hg⟩
  refine codeAny_mono ((F _ kin (dict hns) tabs).run callerA [] st H ⟨[.ref a], []⟩ [.ref a] [.ref a] _ _ rfl room env (hbind st (.ref a)) (.cons rfl .nil) (hsp H (fun p pm => tab _ (inT p pm)) seq)) fun res z hz => ?_
  cases res with
  | error er => exact (hCX H er z hz).elim
  | ok fl =>
    cases fl with
    | next => exact hz.elim
    | brk => exact hz.elim
    | cont => exact hz.elim
    | ret u =>
      obtain ⟨v, H', o1, o2, un, hok', ru, q⟩ := hz
      obtain rfl : v = .bl true := q
      obtain rfl : u = Value.bool true := ru
      have held : ∀ b o, b ∉ ts → st.heap.get? b = some o → z.heap.get? b = some o := fun b o n e => by
        cases q : H b with
        | none => exact un.keep b o e q (fun m => (List.not_mem_nil m).elim) (fun m => (List.not_mem_nil m).elim)
        | some u =>
          rcases inv q with ⟨m, _⟩ | ⟨_, e1, e2, rfl⟩
          · exact absurd m n
          · have e3 := (hok' b _ (un.frzs b _ _ q)).1
            rw [e1, ha] at e
            cases e
            rw [e1] at e3 ⊢
            exact e3
      have more : ∀ b ∈ ts, ∃ zs : Array Value, z.heap.get? b = some { cls := .none, data := .fields zs } := fun b m => by
        obtain ⟨zs, e⟩ := un.tbls b #[] (tab b m)
        exact ⟨_, hok' b _ e⟩
      refine ⟨rfl, ⟨fun b o e => ?_, fun b o e => ?_⟩, o1, o2⟩
      · by_cases m : b ∈ ts
        · obtain ⟨p, pm, rfl⟩ := ofT b m
          obtain ⟨zs, e2⟩ := more _ m
          rw [hT p pm] at e
          cases e
          exact .inr (.inl ⟨((C p pm).tab (hT p pm)).isCodeTable, rfl, #[], zs, rfl, by rw [Array.empty_append]; exact e2⟩)
        · exact .inl (held b o m e)
      · by_cases m : b ∈ ts
        · obtain ⟨zs, e2⟩ := more b m
          exact ⟨_, e2⟩
        · exact ⟨o, held b o m e⟩
end
/-- the law's promise, at the head's heap h -/
def LawG (l : PySem.W.OpenLaw) (w : World) (K : PySem.W.Frag) (CX : CXT) (k n : Nat) (x : Str) (mg : Str → Option Value) (fa : Addr) (h : Heap) : Prop :=
  ∃ (fd : FuncData) (cs : List (Addr × Addr)) (sp : Sp), (∀ p ∈ cs, h.get? p.2 = some noCodes) ∧ (∀ p ∈ cs, K.lookup p.2 = none) ∧ (∀ p ∈ cs, PySem.W.CodeHd h p.1 p.2) ∧ (∀ (s : Shared) (u : Value), BindsTo s fd ⟨[u], []⟩ [(x, u)]) ∧
    (∀ (H : Hp) (a : Addr) (ns : List Int), ns.length ≤ n → (∀ p ∈ cs, H p.2 = some (.tbl #[])) → SqL K H a (ns.map V.int) → sp [.ref a] H (fun v _ => v = .bl true) fun _ _ _ => False) ∧
    ∀ base : Heap, K.In base → base.Ns mainGlobals mg → (∀ p ∈ cs, TabB base mg p.1 p.2) → FnG l.prog w K mg base CX k fa fd [x] sp
theorem walk_gd {l : PySem.W.OpenLaw} {n k : Nat} {q : Program} {lo : List Str} {XQ : (Str → Option Value) → Heap → Prop} {YQ : World → Heap → Prop} {d : DefRec} {K : Params → PySem.W.Frag} {CX : World → CXT} {x : Str}
    (m1 : l.most = some n) (m2 : n ≤ sizeLine) (df : d.params.defaults = []) (room : Room k callerA) (hY : ∀ (w : World) (h : Heap), YQ w h → (K w.params).In h)
    (F : ∀ (w : World) (mg : Str → Option Value) (fa : Addr) (h : Heap), YQ w h → (K w.params).In h → h.Ns mainGlobals mg → mg d.name = some (.ref fa) → LawG l w (K w.params) (CX w) k n x mg fa h)
    (hCX : ∀ (w : World) (H : Hp) (s : Shared) (e : Value) (s' : Shared), CX w [] H s (fun _ _ _ => False) e s' → False) : PySem.W.WalkO q lo XQ YQ l.row.toRowW d [] (fun f vs => PySem.call f vs) := by
  refine Att.attach_callB m1 df fun w s₀ s₁ mg mb fa o pm cd doc a vs ns G Y ho hd hcd hmg obj itsI len bits gens => ?_
  have KX := hY w _ Y
  obtain ⟨fd, cs, sp, t1, t2, t3, hb, hs, hF⟩ := F w mg fa _ Y KX G.T.g hmg
  exact law_gd KX G.T.g G.T.b G.T.builtins G.T.nolimit gens t1 t2 t3 G.T.bmain obj itsI (Nat.le_trans len m2) room hF hb (fun H c S => hs H a ns len c S) fun H e z => hCX w H s₁ e z
/-! ### defs that make lambdas -/
/-- a def of the text, its code object at c -/
structure DefC (K : PySem.W.Frag) (mg : Str → Option Value) (x : Str) (st : Stmt) (c : Addr) : Prop where
  ex : ∃ (f : Addr) (oc : Value) (od an : Option Addr) (osl : Array (Option Value)) (kV doc pm ct : Value), K.lookup f = some ⟨oc, od, .func (PySem.W.fnOf x x (defArgs st) (defBody st) (defScope st) .none kV doc pm an (.ref c) ct), osl⟩ ∧
    PySem.W.codeIn K (.ref c) x = true ∧ PySem.W.keepIn K (.ref f) = true ∧ mg x = some (.ref f)
theorem defC_mk {K : PySem.W.Frag} {mg : Str → Option Value} {x : Str} {st : Stmt} {h : Heap} {f c : Addr} {oc : Value} {od an : Option Addr} {osl : Array (Option Value)} {kV doc pm ct : Value} (X : K.In h) (G : h.Ns mainGlobals mg)
    (a : PySem.W.nsIn K mainGlobals x = some (some (.ref f))) (l : K.lookup f = some ⟨oc, od, .func (PySem.W.fnOf x x (defArgs st) (defBody st) (defScope st) .none kV doc pm an (.ref c) ct), osl⟩) (ci : PySem.W.codeIn K (.ref c) x = true)
    (kp : PySem.W.keepIn K (.ref f) = true) : DefC K mg x st c := ⟨f, oc, od, an, osl, kV, doc, pm, ct, l, ci, kp, PySem.W.mg_of X G a⟩
theorem clC_of {P : Program} {w : World} {K : PySem.W.Frag} {mg : Str → Option Value} {base : Heap} {k : Nat} {x : Str} {st : Stmt} {ps N : List Str} {sp : Sp} {c : Addr} (D : DefC K mg x st c) (S : FnScope N ps (defScope st)) (len : ∀ vs H Q E, sp vs H Q E → vs.length = ps.length)
    (hbody : ∀ (f : Addr) (A : Around) (outer : List Env) (s : Shared) (H : Hp) (vs : List V) (Q : VK) (E : XK), A.guards = some [] → Room k (A.deeper (envOfC x (defScope st) s.heap.objs.size f (.ref c))) → sp vs H Q E →
      ∃ t, PSs (cxOf CX0 P w K mg base N x (defScope st) f (.ref c) A outer s H E).nox (defBody st) t ∧ t { nx := fun _ H' => Q .non H', rt := Q } (start N vs) H) : ClG P w K mg base CX0 (k + 1) x st ps sp := by
  obtain ⟨f, oc, od, an, osl, kV, doc, pm, ct, lk, hcd, kp, m⟩ := D.ex
  refine ⟨f, _, fun_mk lk hcd kp, ⟨len, fun A outer s H args us vs Q E gd hr e0 hb r hs => run_ofS lk hcd S hr e0 hb r (len _ _ _ _ hs) fun hr' => ?_⟩, m⟩
  obtain ⟨t, h, q⟩ := hbody f A outer s H vs Q E gd hr' hs
  exact ⟨t, h.nox, q⟩
theorem lawG_fd {K : PySem.W.Frag} {mg : Str → Option Value} {x p : Str} {st : Stmt} {fa : Addr} (D : DefAt K mg x st) (b : Bnd x st [p]) (hfa : mg x = some (.ref fa)) : ∃ fd, Fun K x x st fa fd ∧ ∀ (s : Shared) (u : Value), BindsTo s fd ⟨[u], []⟩ [(p, u)] := law_fd D b hfa
end Lw
/-! A def that is handed a lambda; what stays where tables of code objects grow. -/
namespace Lw
open PySem PySem.Spec PyProof.Rows L2 Evl LamX
theorem u70 {k : Nat} {A : Around} (hr : Room k A) : A.units + 70 < cLine := by
  have := hr.un
  omega
section
variable {X : Cx}
/-- x(lambda: body), x a def of the text with one parameter -/
theorem pe_lamc {TT : (XK → Hp → VK → Prop) → Hp → VK → Prop} {x a : Str} {st : Stmt} {c P : Addr} {k : Nat} {Ng : List Str} {params : Arguments} {body : Expr} {scope : Scope} {t : XK → TE} {p lpos pos : Pos} (D : DefAt X.K X.mg x st) (b : Bnd x st [a]) (hg : Gl X x)
    (Sg : FnScope Ng [a] (defScope st)) (hNg : Ng[0]? = some a) (hva : Vis (defScope st) a) (hG : ∀ g cdv, GivesTo X Ng x (defScope st) g cdv (defBody st) a (X.env.qual ++ "<lambda>") TT)
    (TB : TabB X.base X.mg c P) (hcode : X.env.code = .ref c) (hr : Room (k + 2) X.A) (L : LamS X.env.scope scope) (hdef : defaultsOf params X.env = ([], []))
    (hbind : ∀ (q : Str) (cl : List (Str × Addr)) (pm cv ctv : Value), bindArgs (PySem.W.kla_fn "<lambda>" q params body scope cl pm cv ctv) ⟨[], []⟩ = pure [])
    (hbody : ∀ (A : Around) (outer : List Env) (s : Shared) (H : Hp) (E : XK) (f c' : Addr), Room k (A.deeper (lamEnv X scope s.heap.objs.size f c')) → PE (lamCx X A outer s H E scope f c') body (t E))
    (d1 : (x == ("__debug__" : Str)) = false := by decide) (d2 : (a == ("__debug__" : Str)) = false := by decide) (d3 : (a == ("__classdict__" : Str)) = false := by decide) :
    PE X (.Call (.Name x p) [.Lambda params body scope lpos] [] pos) (tLam [(P, X.env.qual ++ "<lambda>")] TT t) := by
  obtain ⟨f, fd, F, m⟩ := D.ex
  have kp := F.kp
  have bs := F.binds b
  obtain ⟨oc, od, kV, doc, pm, an, cdv, ct, osl, rfl, lk, hcd⟩ := F.ex
  exact pe_lamcall hg m kp lk hcd bs Sg hNg hva (hG f cdv) TB hcode List.mem_cons_self (fun q hq _ => by
    obtain rfl : q = _ := by simpa using hq
    rfl) hr L hdef hbind hbody d1 d2 d3
end
/-! ### what stays, tables aside -/
theorem ExtN.ex {H H' : Hp} (e : Ex H H') : ExtN H H' := ExtN.of fun b o h => e b o h
section
variable {K : PySem.W.Frag} {H H' : Hp} {a : Addr} {v : V} {n : String}
theorem sqN_l {xs : List V} (e : ExtN H H') (h : SqL K H a xs) : SqL K H' a xs := by
  rcases h with (h | ⟨o, h⟩) | h
  · exact .inl (.inl (e _ _ h fun ps z => by cases z))
  · exact .inl (.inr ⟨o, e _ _ h fun ps z => by cases z⟩)
  · exact .inr h
theorem sqN_t {xs : List V} (e : ExtN H H') (h : SqT K H a xs) : SqT K H' a xs := by
  rcases h with (h | ⟨o, h⟩) | h
  · exact .inl (.inl (e _ _ h fun ps z => by cases z))
  · exact .inl (.inr ⟨o, e _ _ h fun ps z => by cases z⟩)
  · exact .inr h
theorem Pool.upN (e : ExtN H H') (h : Pool H a) : Pool H' a := e _ _ h fun ps z => by cases z
mutual
theorem dpN (e : ExtN H H') : ∀ {v : V} {d : PyData}, Dp K H v d → Dp K H' v d
  | _, _, .non => .non
  | _, _, .bl b => .bl b
  | _, _, .int i => .int i
  | _, _, .str y => .str y
  | _, _, .lst h t => .lst (sqN_l e h) (dpsN e t)
  | _, _, .tup h t => .tup (sqN_t e h) (dpsN e t)
theorem dpsN (e : ExtN H H') : ∀ {vs : List V} {ds : List PyData}, DpAll K H vs ds → DpAll K H' vs ds
  | _, _, .nil => .nil
  | _, _, .cons h t => .cons (dpN e h) (dpsN e t)
end
theorem Dd.upN {d : PyData} (e : ExtN H H') (h : Dd K H v d) : Dd K H' v d := by
  cases h with
  | dp h s => exact .dp (dpN e h) s
  | emp h => exact .emp (e _ _ h fun ps z => by cases z)
  | kv h => exact .kv (e _ _ h fun ps z => by cases z)
theorem Dd.up {d : PyData} (e : Ex H H') (h : Dd K H v d) : Dd K H' v d := h.upN (ExtN.ex e)
theorem Kd.upN (e : ExtN H H') (k : Kd H v n) : Kd H' v n := by
  cases k with
  | int i => exact .int i
  | bl b => exact .bl b
  | str s => exact .str s
  | non => exact .non
  | tup h => exact .tup (e _ _ h fun ps z => by cases z)
  | fz h => exact .fz (e _ _ h fun ps z => by cases z)
  | lst h => exact .lst (e _ _ h fun ps z => by cases z)
  | dK h => exact .dK (e _ _ h fun ps z => by cases z)
theorem Th.upN {b : Bool} (e : ExtN H H') (k : Th H v b) : Th H' v b := by
  cases k with
  | other k h => exact .other (k.upN e) h
  | tup h ks => exact .tup (e _ _ h fun ps z => by cases z) fun x hx => let ⟨n, k⟩ := ks x hx; ⟨n, k.upN e⟩
end
theorem extN_mut {H H' : Hp} {a : Addr} {o : HO} (e : ExtN H H') (n : H a = none) : ExtN H (upd H' a o) := fun b u h t => by
  rw [upd_ne (fun z => by rw [z, n] at h; cases h)]
  exact e b u h t
theorem tabs_mut {T : List (Addr × Str)} {H : Hp} {a : Addr} {xs ys : List V} (t : Tabs T H) (h : H a = some (.lst xs)) : Tabs T (upd H a (.lst ys)) := fun p hp => by
  obtain ⟨ps, h1, h2, h3⟩ := t p hp
  have ne : ∀ {b u}, H b = some u → u ≠ .lst xs → b ≠ a := fun {b u} q n z => by
    rw [z, h] at q
    exact n (Option.some.inj q).symm
  refine ⟨ps, by rw [upd_ne (ne h1 (by intro z; cases z))]; exact h1, h2, fun pos cv hc => ?_⟩
  obtain ⟨c, e1, e2⟩ := h3 pos cv hc
  exact ⟨c, e1, by rw [upd_ne (ne e2 (by unfold CodeO; intro z; cases z))]; exact e2⟩
section
variable {H1 : Hp} {D : Addr} {n : Nat} {g : TG} {tt : TT} {te : TE} {vs : List Nat} {σ : L2.St} {Qd : Hp → Prop}
/-- a list of truths, made over range(n), where tables may grow -/
theorem lcRT (T : List (Addr × Str)) (hD : H1 D = none) (hn : n ≤ 50000) (t0 : Tabs T H1)
    (hs : ∀ i, i < n → ∀ H, ExtN H1 H → Tabs T H → ∀ (Q1 : VK) (Q2 : Hp → Prop), (∀ H4, ExtN H H4 → Tabs T H4 → Q1 (.bl true) H4) → g (.int ((0 : Int) + i)) (wipe σ vs) H fun σ2 H2 => wipe σ2 vs = wipe σ vs ∧ tt σ2 H2 fun b H3 => if b = true then te σ2 H3 Q1 else Q2 H3)
    (hd : ∀ H', ExtN H1 H' → Tabs T H' → H' D = some (.lst ((List.replicate n true).map V.bl)) → Qd H') :
    ∃ W : Nat → Nat → Hp → Prop, (∃ m, W 0 m (upd H1 D (.lst []))) ∧ ∀ i m H, W i m H →
      ((Itr 0 n).stop i H ∧ Qd H) ∨ ((Itr 0 n).go i H ∧ ∃ Nx : Hp → Prop, (∀ H', Nx H' → ∃ m', m' < m ∧ W (i + 1) m' H') ∧ ∀ x H', (Itr 0 n).yld i H x H' → g x (wipe σ vs) H' fun σ2 H2 => wipe σ2 vs = wipe σ vs ∧ tt σ2 H2 fun b H3 =>
        if b = true then te σ2 H3 fun y H4 => ∃ acc, H4 D = some (.lst acc) ∧ acc.length < sizeLine ∧ Nx (upd H4 D (.lst (acc ++ [y]))) else Nx H3) := by
  refine lc_range (fun i H => ExtN H1 H ∧ Tabs T H ∧ H D = some (.lst ((List.replicate i true).map V.bl))) ⟨ExtN.ex (Ex.new hD), t0.ext (fun b o h => Ex.new hD b o h), upd_same⟩ (fun i H hi I => ?_) (fun H I => hd H I.1 I.2.1 I.2.2)
  obtain ⟨e, t, h⟩ := I
  refine hs i hi H e t _ _ fun H4 e4 t4 => ?_
  have h4 := e4 _ _ h (fun ps z => by cases z)
  refine ⟨_, h4, Nat.lt_of_lt_of_le (show _ < 60000 by rw [List.length_map, List.length_replicate]; omega) (Nat.le_trans (by decide) line_ge), extN_mut (e.trans e4) hD, tabs_mut t4 h4, ?_⟩
  rw [upd_same, List.replicate_succ', List.map_append]
  rfl
end
/-! ### classes of errors -/
/-- x is a class of errors that is caught by (A, B, C) -/
structure ErrAt (K : PySem.W.Frag) (mg : Str → Option Value) (x a b c : Str) : Prop where
  ex : ∃ C A B D : Addr, mg x = some (.ref C) ∧ mg a = some (.ref A) ∧ mg b = some (.ref B) ∧ mg c = some (.ref D) ∧ PySem.W.exmAny K (.ref C) [.ref A, .ref B, .ref D] = some true ∧ ExcK K C
theorem errAt_mk {K : PySem.W.Frag} {mg : Str → Option Value} {x a b c : Str} {h : Heap} {C A B D : Addr} (X : K.In h) (G : h.Ns mainGlobals mg) (n1 : PySem.W.nsIn K mainGlobals x = some (some (.ref C))) (n2 : PySem.W.nsIn K mainGlobals a = some (some (.ref A)))
    (n3 : PySem.W.nsIn K mainGlobals b = some (some (.ref B))) (n4 : PySem.W.nsIn K mainGlobals c = some (some (.ref D))) (e : PySem.W.exmAny K (.ref C) [.ref A, .ref B, .ref D] = some true)
    (ga : PySem.W.findIn K (.ref C) "__getattribute__" = some (some (.builtin "BaseException.__getattribute__"))) (gt : PySem.W.findIn K (.ref C) "__getattr__" = some none) (sb : PySem.W.subIn K (.ref C) (.type "BaseException") = some true)
    (hd : PySem.W.hasDictIn K C = true) (ca : PySem.W.findIn K (.ref C) "__class__" = some (some (.builtin "object.__class__"))) (cg : PySem.W.specialIn K (.builtin "object.__class__") "__get__" = some (some (.builtin "getset_descriptor.__get__")))
    (ct : PySem.W.takesIn K (.builtin "object.__class__") = some true) (mo : PySem.W.mroIn K C (.type "object") = some true) : ErrAt K mg x a b c :=
  ⟨C, A, B, D, PySem.W.mg_of X G n1, PySem.W.mg_of X G n2, PySem.W.mg_of X G n3, PySem.W.mg_of X G n4, e, ga, gt, sb, hd, ca, cg, ct, mo⟩
/-- isinstance of an x: of the own class y -/
structure AskC (K : PySem.W.Frag) (mg : Str → Option Value) (x y : Str) (b : Bool) : Prop where
  ex : ∃ C D : Addr, mg x = some (.ref C) ∧ mg y = some (.ref D) ∧ PySem.W.kitOne K (.ref C) (.ref D) = some b
theorem askC_mk {K : PySem.W.Frag} {mg : Str → Option Value} {x y : Str} {b : Bool} {h : Heap} {C D : Addr} (X : K.In h) (G : h.Ns mainGlobals mg) (n1 : PySem.W.nsIn K mainGlobals x = some (some (.ref C))) (n2 : PySem.W.nsIn K mainGlobals y = some (some (.ref D)))
    (e : PySem.W.kitOne K (.ref C) (.ref D) = some b) : AskC K mg x y b := ⟨C, D, PySem.W.mg_of X G n1, PySem.W.mg_of X G n2, e⟩
/-- of the built-in class y -/
structure AskT (K : PySem.W.Frag) (mg : Str → Option Value) (x : Str) (y : String) (b : Bool) : Prop where
  ex : ∃ C : Addr, mg x = some (.ref C) ∧ PySem.W.kitOne K (.ref C) (.type y) = some b
theorem askT_mk {K : PySem.W.Frag} {mg : Str → Option Value} {x : Str} {y : String} {b : Bool} {h : Heap} {C : Addr} (X : K.In h) (G : h.Ns mainGlobals mg) (n1 : PySem.W.nsIn K mainGlobals x = some (some (.ref C))) (e : PySem.W.kitOne K (.ref C) (.type y) = some b) :
    AskT K mg x y b := ⟨C, PySem.W.mg_of X G n1, e⟩
/-- the exception that a caught call let out: of the class at C, with this value -/
def Out (K : PySem.W.Frag) (C : Addr) (f : Str) (cls : Value) (d : Option Addr) (H : Hp) (dt : PyData) : Prop := ∃ dd v, cls = .ref C ∧ d = some dd ∧ H dd = some (.xd [(f, v)]) ∧ Dd K H v dt ∧ Shows dt
/-- _law_caught(..) of a call that raises an error of C: [tag, repr(its value)] -/
def TCaught (K : PySem.W.Frag) (C : Addr) (f tag : Str) : (XK → Hp → VK → Prop) → Hp → VK → Prop := fun tl H Q =>
  tl (fun cls d H' => ∃ dt, Out K C f cls d H' dt ∧ ∀ l H2, Ex H' H2 → H2 l = some (.lst [.str tag, .str dt.shown]) → Q (.ref l) H2) H (fun _ H' => [V.str "none", V.str ""].length ≤ sizeLine ∧ ∀ p, H' p = none → Q (.ref p) (upd H' p (.lst [.str "none", .str ""])))
end Lw
/-! Values whose repr is asked: atoms, lists and tuples of atoms, the empty dict. -/
namespace Lw
open PySem PySem.Spec PyProof.Rows L2 Evl LamX
inductive Atm : V → PyData → Prop
  | non : Atm .non .none
  | bl (b : Bool) : Atm (.bl b) (.bool b)
  | int (i : Int) : i.natAbs < 2 ^ 1000 → Atm (.int i) (.int i)
  | emp : Atm (.str "") (.str "")
/-- its text can be told -/
def Dsp (K : PySem.W.Frag) (H : Hp) (v : V) : Prop := ∃ d, Dd K H v d ∧ Shows d
/-! ### texts of valid signs -/
theorem ok_app (x y : Str) : PyData.strOk (x ++ y) = (PyData.strOk x && PyData.strOk y) := by
  show (x.cps ++ y.cps).all _ = (x.cps.all _ && y.cps.all _)
  rw [Array.all_append]
theorem ok_of (s : String) : PyData.strOk (Str.ofString s) = true := by
  rw [Str.ofString_eq_toList]
  show ((s.toList.map Char.toNat).toArray).all _ = true
  rw [List.all_toArray, List.all_eq_true]
  intro n hn
  obtain ⟨c, _, rfl⟩ := List.mem_map.mp hn
  have := c.valid
  refine decide_eq_true ?_
  show c.val.toNat < 0x110000
  rcases this with h | h
  · have : c.val.toNat < 55296 := h
    omega
  · exact h.2
theorem ok_text : ∀ {ts : List Str} {k : Nat} {acc : Str}, PyData.strOk acc = true → (∀ t ∈ ts, PyData.strOk t = true) → PyData.strOk (textFrom k acc ts) = true
  | [], _, _, h, _ => h
  | t :: ts, k, acc, h, ht => by
    refine ok_text (ts := ts) ?_ fun u m => ht u (List.mem_cons_of_mem _ m)
    rw [ok_app, ok_app, h, ht t List.mem_cons_self]
    simp only [Bool.true_and, Bool.and_true]
    split <;> exact ok_of _
theorem ok_join {sep : Str} (hs : PyData.strOk sep = true) : ∀ {ts : List Str}, (∀ t ∈ ts, PyData.strOk t = true) → PyData.strOk (Str.join sep ts) = true
  | [], _ => by
    show PyData.strOk Str.empty = true
    decide +kernel
  | [t], h => h t List.mem_cons_self
  | t :: u :: ts, h => by
    rw [Str.join, ok_app, ok_app, h t List.mem_cons_self, hs, ok_join hs fun x m => h x (List.mem_cons_of_mem _ m)]
    all_goals first | rfl | (intro z; cases z)
section
variable {K : PySem.W.Frag} {H H' : Hp} {a : Addr} {v : V} {d : PyData} {vs : List V} {ds : List PyData}
theorem Atm.dp (h : Atm v d) : Dp K H v d := by cases h <;> constructor
theorem Atm.kd (h : Atm v d) : ∃ n, Kd H v n ∧ n ≠ "tuple" := by
  cases h with
  | non => exact ⟨_, .non, by decide⟩
  | bl b => exact ⟨_, .bl b, by decide⟩
  | int i _ => exact ⟨_, .int i, by decide⟩
  | emp => exact ⟨_, .str "", by decide⟩
theorem log_small {n : Nat} (h : n < 2 ^ 1000) : n.log2 < 1000 := by
  by_cases z : n = 0
  · subst z; decide
  · exact (Nat.log2_lt z).mpr h
theorem Atm.show (h : Atm v d) : d.showable = true ∧ d.shown.length ≤ 2000 ∧ PyData.strOk d.shown = true := by
  cases h with
  | non => exact ⟨rfl, by decide, ok_of _⟩
  | bl b => cases b <;> exact ⟨rfl, by decide, ok_of _⟩
  | int i hi =>
    have l := log_small hi
    refine ⟨decide_eq_true (by omega), ?_, ok_of _⟩
    have := int_text_length_le (k := 1000) (by decide) l
    show (Str.ofString (toString i)).length ≤ 2000
    rw [PySem.ofString_length]
    omega
  | emp => exact ⟨rfl, by decide, by decide +kernel⟩
theorem Atm.lay (h : Atm v d) : PyData.canLay0 d = true ∧ d.depth = 0 := by
  cases h with
  | emp => exact ⟨by rw [PyData.canLay0]; exact ok_of _, by simp [PyData.depth]⟩
  | _ => exact ⟨by simp [PyData.canLay0], by simp [PyData.depth]⟩
theorem atms_dp (h : Paired Atm vs ds) : DpAll K H vs ds := by
  induction h with
  | nil => exact .nil
  | cons h t ih => exact .cons h.dp ih
theorem atms_lay (h : Paired Atm vs ds) : PyData.canLayAll0 ds = true ∧ PyData.depthAll ds = 0 := by
  induction h with
  | nil => exact ⟨by simp [PyData.canLayAll0], by simp [PyData.depthAll]⟩
  | cons h t ih => exact ⟨by simp [PyData.canLayAll0, h.lay.1, ih.1], by simp [PyData.depthAll, h.lay.2, ih.2]⟩
theorem atms_show (h : Paired Atm vs ds) : PyData.showableAll ds = true ∧ ((PyData.shownAll ds).map (·.length)).sum ≤ 2000 * ds.length ∧ (PyData.shownAll ds).length = ds.length ∧ ∀ t ∈ PyData.shownAll ds, PyData.strOk t = true := by
  induction h with
  | nil => exact ⟨rfl, by simp [PyData.shownAll], rfl, fun t m => by cases m⟩
  | cons h t ih =>
    obtain ⟨i1, i2, i3, i4⟩ := ih
    obtain ⟨h1, h2, h3⟩ := h.show
    refine ⟨by rw [PyData.showableAll, h1, i1]; rfl, ?_, by rw [PyData.shownAll, List.length_cons, i3, List.length_cons], fun t m => ?_⟩
    · rw [PyData.shownAll, List.map_cons, List.sum_cons, List.length_cons]
      omega
    · rw [PyData.shownAll] at m
      rcases List.mem_cons.mp m with rfl | m
      · exact h3
      · exact i4 t m
theorem Atm.dsp (h : Atm v d) : Dsp K H v := by
  obtain ⟨s1, s2, s3⟩ := h.show
  refine ⟨d, .dp h.dp ?_, s1, Nat.le_trans s2 (by decide), s3⟩
  unfold SeqAt.shaped
  rw [h.lay.1, h.lay.2]
  rfl
theorem dd_l (h : SqL K H a vs) (p : Paired Atm vs ds) (hl : vs.length ≤ 1000) : Dd K H (.ref a) (.list ds) ∧ Shows (.list ds) := by
  obtain ⟨s1, s2, s3, s4⟩ := atms_show p
  have ll := Paired.length p
  refine ⟨.dp (.lst h (atms_dp p)) ?_, s1, ?_, ?_⟩
  · unfold SeqAt.shaped
    simp [PyData.canLay0, PyData.depth, (atms_lay p).1, (atms_lay p).2]
  · have := listText_len_le (PyData.shownAll ds)
    show (listText (PyData.shownAll ds)).length ≤ sizeLine
    rw [sizeLine_eq]
    omega
  · show PyData.strOk (textFrom 0 "[" (PyData.shownAll ds) ++ "]") = true
    rw [ok_app, ok_text (ok_of _) s4]
    exact ok_of _
theorem dsp_l (h : SqL K H a vs) (p : Paired Atm vs ds) (hl : vs.length ≤ 1000) : Dsp K H (.ref a) := ⟨_, dd_l h p hl⟩
theorem dsp_t (h : SqT K H a vs) (p : Paired Atm vs ds) (hl : vs.length ≤ 1000) : Dsp K H (.ref a) := by
  obtain ⟨s1, s2, s3, s4⟩ := atms_show p
  have ll := Paired.length p
  refine ⟨.tuple ds, .dp (.tup h (atms_dp p)) ?_, s1, ?_, ?_⟩
  · unfold SeqAt.shaped
    simp [PyData.canLay0, PyData.depth, (atms_lay p).1, (atms_lay p).2]
  · have := tupleText_len_le (PyData.shownAll ds)
    show (tupleText (PyData.shownAll ds)).length ≤ sizeLine
    rw [sizeLine_eq]
    omega
  · show PyData.strOk (("(" : Str) ++ Str.join ", " (PyData.shownAll ds) ++ _) = true
    rw [ok_app, ok_app, ok_join (ok_of _) s4]
    have o1 : PyData.strOk ("(" : Str) = true := ok_of _
    rw [o1]
    simp only [Bool.true_and]
    split <;> exact ok_of _
theorem dsp_d (h : H a = some (.dK [])) : Dsp K H (.ref a) := ⟨_, .emp h, rfl, by decide, by decide +kernel⟩
theorem Dsp.upN (e : ExtN H H') (h : Dsp K H v) : Dsp K H' v := let ⟨d, x, s⟩ := h; ⟨d, x.upN e, s⟩
theorem Dsp.up (e : Ex H H') (h : Dsp K H v) : Dsp K H' v := h.upN (ExtN.ex e)
theorem atms_kd (p : Paired Atm vs ds) : ∀ x ∈ vs, ∃ n, Kd H x n := by
  induction p with
  | nil => intro x m; cases m
  | cons h t ih =>
    intro x m
    rcases List.mem_cons.mp m with rfl | m
    · obtain ⟨n, k, _⟩ := h.kd (H := H)
      exact ⟨n, k⟩
    · exact ih x m
theorem atm_small {i : Int} (h0 : -100000000000000 ≤ i) (h1 : i ≤ 100000000000000) : Atm (.int i) (.int i) := .int i (Nat.lt_of_lt_of_le (show i.natAbs < 1000000000000000 by omega) (by decide))
/-- lists of lists of texts: equal -/
def rowD (t s : Str) : PyData := .list [.str t, .str s]
theorem dp_row {t s : Str} (h : H a = some (.lst [.str t, .str s])) : Dp K H (.ref a) (rowD t s) := .lst (SqL.of h) (.cons (.str _) (.cons (.str _) .nil))
theorem ne_row {b : Addr} {t s : Str} {Q : VK} (k1 : PyData.strOk t = true) (k2 : PyData.strOk s = true) (h : H a = some (.lst [.str t, .str s])) (h' : H b = some (.lst [.str t, .str s])) (q : Q (.bl false) H) : rNeD K (.ref a) (.ref b) H Q :=
  have sh : SeqAt.shaped (rowD t s) = true := by simp [rowD, SeqAt.shaped, PyData.canLay0, PyData.canLayAll0, PyData.depth, PyData.depthAll, k1, k2]
  ⟨_, _, dp_row h, dp_row h', sh, sh, by rw [SeqAt.eqv_refl _ (SeqAt.canLay_of_shaped sh)]; exact q⟩
theorem rows_lay (n : Nat) (t s : Str) (k1 : PyData.strOk t = true) (k2 : PyData.strOk s = true) : PyData.canLayAll0 (List.replicate n (rowD t s)) = true ∧ PyData.depthAll (List.replicate n (rowD t s)) ≤ 1 := by
  induction n with
  | zero => simp [PyData.canLayAll0, PyData.depthAll]
  | succ n ih =>
    rw [List.replicate_succ]
    exact ⟨by rw [PyData.canLayAll0, ih.1, Bool.and_true, rowD, PyData.canLay0]; simp [PyData.canLayAll0, PyData.canLay0, k1, k2], by rw [PyData.depthAll]; exact Nat.max_le.mpr ⟨by simp [rowD, PyData.depth, PyData.depthAll], ih.2⟩⟩
theorem dps_rows {t s : Str} : ∀ {as : List Addr}, (∀ b ∈ as, H b = some (.lst [.str t, .str s])) → DpAll K H (as.map V.ref) (List.replicate as.length (rowD t s))
  | [], _ => .nil
  | b :: as, h => .cons (dp_row (h b (by simp))) (dps_rows fun c m => h c (List.mem_cons_of_mem _ m))
theorem ne_rows {b : Addr} {t s : Str} {as bs : List Addr} {Q : VK} (k1 : PyData.strOk t = true) (k2 : PyData.strOk s = true) (h : H a = some (.lst (as.map V.ref))) (h' : H b = some (.lst (bs.map V.ref))) (l : as.length = bs.length) (ha : ∀ c ∈ as, H c = some (.lst [.str t, .str s])) (hb : ∀ c ∈ bs, H c = some (.lst [.str t, .str s]))
    (q : Q (.bl false) H) : rNeD K (.ref a) (.ref b) H Q := by
  have sh : SeqAt.shaped (.list (List.replicate as.length (rowD t s))) = true := by
    unfold SeqAt.shaped
    rw [PyData.canLay0, PyData.depth, (rows_lay _ t s k1 k2).1, decide_eq_true (by have := (rows_lay as.length t s k1 k2).2; omega)]
    rfl
  refine ⟨_, _, .lst (SqL.of h) (dps_rows ha), .lst (SqL.of h') (dps_rows hb), sh, by rw [← l]; exact sh, ?_⟩
  rw [← l, SeqAt.eqv_refl _ (SeqAt.canLay_of_shaped sh)]
  exact q
theorem rep3 {l : Addr} {xs : List V} {Q : VK} (h : H l = some (.lst xs)) (hl : xs.length ≤ 1000) (q : ∀ p, H p = none → Q (.ref p) (upd H p (.lst (xs ++ (xs ++ xs))))) : rRep (.ref l) (.int 3) H Q := by
  refine ⟨l, 3, xs, rfl, rfl, h, by decide, by decide, ?_, fun p n => ?_⟩
  · exact Nat.le_trans (by show xs.length * 3 ≤ 100000; omega) line_ge
  · have e : (List.replicate (3 : Int).toNat xs).flatten = xs ++ (xs ++ xs) := by
      show xs ++ (xs ++ (xs ++ [])) = _
      rw [List.append_nil]
    first
      | (rw [e]; exact q p n)
      | exact q p n
end
end Lw
/-! Values in the place of tables of colours; data of some depth whose text can be told. -/
namespace Lw
open PySem PySem.Spec PyProof.Rows L2 Evl LamX
/-! ### data -/
def Nice (B D : Nat) (d : PyData) : Prop := d.showable = true ∧ d.shown.length ≤ B ∧ PyData.strOk d.shown = true ∧ PyData.canLay0 d = true ∧ d.depth ≤ D
section
variable {K : PySem.W.Frag} {H H' : Hp} {a b : Addr} {v : V} {d : PyData} {vs xs ys : List V} {ds : List PyData} {B D n : Nat}
theorem Atm.nice (h : Atm v d) : Nice 2000 0 d := ⟨h.show.1, h.show.2.1, h.show.2.2, h.lay.1, Nat.le_of_eq h.lay.2⟩
theorem Nice.mono {B' D' : Nat} (h : Nice B D d) (h1 : B ≤ B') (h2 : D ≤ D') : Nice B' D' d := ⟨h.1, Nat.le_trans h.2.1 h1, h.2.2.1, h.2.2.2.1, Nat.le_trans h.2.2.2.2 h2⟩
theorem nice_all (h : ∀ x ∈ ds, Nice B D x) : PyData.showableAll ds = true ∧ ((PyData.shownAll ds).map (·.length)).sum ≤ B * ds.length ∧ (PyData.shownAll ds).length = ds.length ∧ (∀ t ∈ PyData.shownAll ds, PyData.strOk t = true) ∧ PyData.canLayAll0 ds = true ∧ PyData.depthAll ds ≤ D := by
  induction ds with
  | nil => exact ⟨rfl, by simp [PyData.shownAll], rfl, (fun t m => by cases m), by simp [PyData.canLayAll0], by simp [PyData.depthAll]⟩
  | cons d ds ih =>
    obtain ⟨i1, i2, i3, i4, i5, i6⟩ := ih fun x m => h x (List.mem_cons_of_mem _ m)
    obtain ⟨h1, h2, h3, h4, h5⟩ := h d List.mem_cons_self
    refine ⟨by rw [PyData.showableAll, h1, i1]; rfl, ?_, by rw [PyData.shownAll, List.length_cons, i3, List.length_cons], (fun t m => ?_), by rw [PyData.canLayAll0, h4, i5]; rfl, by rw [PyData.depthAll]; exact Nat.max_le.mpr ⟨h5, i6⟩⟩
    · rw [PyData.shownAll, List.map_cons, List.sum_cons, List.length_cons, Nat.mul_succ]
      omega
    · rw [PyData.shownAll] at m
      rcases List.mem_cons.mp m with rfl | m
      · exact h3
      · exact i4 t m
theorem nice_tup (h : ∀ x ∈ ds, Nice B D x) (hl : ds.length ≤ n) : Nice (B * n + 2 * n + 3) (D + 1) (.tuple ds) := by
  obtain ⟨h1, h2, h3, h4, h5, h6⟩ := nice_all h
  have m : B * ds.length ≤ B * n := Nat.mul_le_mul_left _ hl
  refine ⟨h1, ?_, ?_, h5, by rw [PyData.depth]; omega⟩
  · have := tupleText_len_le (PyData.shownAll ds)
    show (tupleText (PyData.shownAll ds)).length ≤ _
    omega
  · show PyData.strOk (("(" : Str) ++ Str.join ", " (PyData.shownAll ds) ++ _) = true
    have o1 : PyData.strOk ("(" : Str) = true := ok_of _
    rw [ok_app, ok_app, ok_join (ok_of _) h4, o1]
    simp only [Bool.true_and]
    split <;> exact ok_of _
theorem nice_lst (h : ∀ x ∈ ds, Nice B D x) (hl : ds.length ≤ n) : Nice (B * n + 2 * n + 3) (D + 1) (.list ds) := by
  obtain ⟨h1, h2, h3, h4, h5, h6⟩ := nice_all h
  have m : B * ds.length ≤ B * n := Nat.mul_le_mul_left _ hl
  refine ⟨h1, ?_, ?_, h5, by rw [PyData.depth]; omega⟩
  · have := listText_len_le (PyData.shownAll ds)
    show (listText (PyData.shownAll ds)).length ≤ _
    omega
  · show PyData.strOk (textFrom 0 "[" (PyData.shownAll ds) ++ "]") = true
    rw [ok_app, ok_text (ok_of _) h4]
    exact ok_of _
theorem dsp_nice (h : Dp K H v d) (k : Nice 16000000 60 d) : Dsp K H v := by
  obtain ⟨h1, h2, h3, h4, h5⟩ := k
  refine ⟨d, .dp h ?_, h1, by rw [sizeLine_eq]; omega, h3⟩
  unfold SeqAt.shaped
  rw [h4, decide_eq_true (by omega)]
  rfl
/-- a value and its data, of depth at most two -/
inductive It (K : PySem.W.Frag) (H : Hp) : V → PyData → Prop
  | atm {v : V} {d : PyData} : Atm v d → It K H v d
  | str (s : Str) : Nice 2000 0 (.str s) → It K H (.str s) (.str s)
  | tup {a : Addr} {vs : List V} {ds : List PyData} : SqT K H a vs → DpAll K H vs ds → ds.length ≤ 10 → (∀ d ∈ ds, Nice 2000 0 d) → It K H (.ref a) (.tuple ds)
  | lst {a : Addr} {vs : List V} {ds : List PyData} : SqL K H a vs → DpAll K H vs ds → ds.length ≤ 10 → (∀ d ∈ ds, Nice 2000 0 d) → It K H (.ref a) (.list ds)
theorem It.dp (h : It K H v d) : Dp K H v d := by
  cases h with
  | atm h => exact h.dp
  | str s _ => exact .str s
  | tup h p _ _ => exact .tup h p
  | lst h p _ _ => exact .lst h p
theorem It.nice (h : It K H v d) : Nice 30000 1 d := by
  cases h with
  | atm h => exact h.nice.mono (by decide) (by decide)
  | str s h => exact h.mono (by decide) (by decide)
  | tup h p l n => exact (nice_tup n l).mono (by decide) (by decide)
  | lst h p l n => exact (nice_lst n l).mono (by decide) (by decide)
theorem It.upN (e : ExtN H H') (h : It K H v d) : It K H' v d := by
  cases h with
  | atm h => exact .atm h
  | str s h => exact .str s h
  | tup h p l n => exact .tup (sqN_t e h) (dpsN e p) l n
  | lst h p l n => exact .lst (sqN_l e h) (dpsN e p) l n
theorem its_dp (h : Paired (It K H) vs ds) : DpAll K H vs ds ∧ ∀ d ∈ ds, Nice 30000 1 d := by
  induction h with
  | nil => exact ⟨.nil, fun d m => by cases m⟩
  | cons h t ih =>
    refine ⟨.cons h.dp ih.1, fun d m => ?_⟩
    rcases List.mem_cons.mp m with rfl | m
    · exact h.nice
    · exact ih.2 d m
theorem its_up (e : ExtN H H') (h : Paired (It K H) vs ds) : Paired (It K H') vs ds := by
  induction h with
  | nil => exact .nil
  | cons h t ih => exact .cons (h.upN e) ih
theorem It.dsp (h : It K H v d) : Dsp K H v := dsp_nice h.dp (h.nice.mono (by decide) (by decide))
theorem its_dsp_t (h : SqT K H a vs) (p : Paired (It K H) vs ds) (hl : vs.length ≤ 100) : Dsp K H (.ref a) :=
  dsp_nice (.tup h (its_dp p).1) ((nice_tup (n := 100) (its_dp p).2 (by rw [← Paired.length p]; exact hl)).mono (by decide) (by decide))
theorem its_dsp_l (h : SqL K H a vs) (p : Paired (It K H) vs ds) (hl : vs.length ≤ 100) : Dsp K H (.ref a) :=
  dsp_nice (.lst h (its_dp p).1) ((nice_lst (n := 100) (its_dp p).2 (by rw [← Paired.length p]; exact hl)).mono (by decide) (by decide))
/-! ### tuples and tables -/
/-- a tuple, its object known or not -/
def Tl (H : Hp) (a : Addr) (xs : List V) : Prop := H a = some (.tup xs) ∨ ∃ o, H a = some (.frz o (.tup xs))
theorem Tl.sq (h : Tl H a xs) : SqT K H a xs := .inl h
theorem Tl.kd (h : Tl H a xs) : Kd H (.ref a) "tuple" := by
  rcases h with h | ⟨o, h⟩
  · exact .tup h
  · exact .fz h
theorem Tl.upN (e : ExtN H H') (h : Tl H a xs) : Tl H' a xs := by
  rcases h with h | ⟨o, h⟩
  · exact .inl (e _ _ h fun ps z => by cases z)
  · exact .inr ⟨o, e _ _ h fun ps z => by cases z⟩
theorem Tl.up (e : Ex H H') (h : Tl H a xs) : Tl H' a xs := h.upN (ExtN.ex e)
theorem Tu.tl (h : Tu H a xs) : Tl H a xs := let ⟨o, _, e⟩ := h; .inr ⟨o, e⟩
theorem catTl {Q : VK} (ha : Tl H a xs) (hb : Tl H b ys) (hz : xs.length + ys.length ≤ 1000) (q : ∀ p H', Ex H H' → Tl H' p (xs ++ ys) → Q (.ref p) H') : rCatA K (.ref a) (.ref b) H Q := by
  refine ⟨a, b, xs, ys, rfl, rfl, ha.sq, hb.sq, Nat.le_trans hz (by decide), fun e => ?_, fun _ e => ?_, fun _ _ p n => q p _ (Ex.new n) (.inl upd_same)⟩
  · exact q b H (Ex.refl H) (by rw [e]; exact hb)
  · exact q a H (Ex.refl H) (by rw [e, List.append_nil]; exact ha)
theorem slTl {lo hi : Option Int} {Q : VK} (ha : Tl H a xs) (q : ∀ p H', Ex H H' → Tl H' p (cutV xs lo hi) → Q (.ref p) H') : rSlA K (.ref a) lo hi H Q := by
  refine ⟨a, xs, rfl, ha.sq, fun h => q a H (Ex.refl H) ?_, fun _ p n => q p _ (Ex.new n) (.inl upd_same)⟩
  have e : cutV xs lo hi = xs := by
    unfold cutV
    rw [h.1, h.2]
    simp
  rw [e]
  exact ha
def pairL : List V → Bool
  | [x, y] => inB 0 1000000000 x && inB 0 1000000000 y
  | _ => false
/-- x in a table: is it a pair of colours -/
inductive Pv (H : Hp) : V → Bool → Prop
  | other {v : V} {n : String} (k : Kd H v n) (h : n ≠ "tuple") : Pv H v false
  | tup {a : Addr} {xs : List V} (h : H a = some (.tup xs)) (ks : ∀ x ∈ xs, ∃ n, Kd H x n) : Pv H (.ref a) (pairL xs)
theorem pairL_len (h : xs.length ≠ 2) : pairL xs = false := by
  unfold pairL
  split
  · exact absurd rfl h
  · rfl
theorem Pv.upN {t : Bool} (e : ExtN H H') (h : Pv H v t) : Pv H' v t := by
  cases h with
  | other k h => exact .other (k.upN e) h
  | tup h ks => exact .tup (e _ _ h fun ps z => by cases z) fun x m => let ⟨n, k⟩ := ks x m; ⟨n, k.upN e⟩
/-- a value that is no table -/
inductive Tv (H : Hp) : V → Prop
  | other {v : V} {n : String} (k : Kd H v n) (h : n ≠ "tuple") : Tv H v
  | bad {a : Addr} {xs : List V} (h : Tl H a xs) (hl : xs.length ≤ 1000) (pv : ∀ x ∈ xs, ∃ t, Pv H x t) (x : V) (m : x ∈ xs) (px : Pv H x false) : Tv H (.ref a)
  | desc {a q r : Addr} {x y : Int × Int} (h : H a = some (.tup [.ref q, .ref r])) (hq : RowAt H q x) (hr : RowAt H r y) (c1 : Col x.1) (c2 : Col x.2) (c3 : Col y.1) (c4 : Col y.2) (lt : ¬ x.1 < y.1) : Tv H (.ref a)
theorem Tv.upN (e : ExtN H H') (h : Tv H v) : Tv H' v := by
  cases h with
  | other k h => exact .other (k.upN e) h
  | bad h hl pv x m px => exact .bad (h.upN e) hl (fun y my => let ⟨t, p⟩ := pv y my; ⟨t, p.upN e⟩) x m (px.upN e)
  | desc h hq hr c1 c2 c3 c4 lt => exact .desc (e _ _ h fun ps z => by cases z) (e _ _ hq fun ps z => by cases z) (e _ _ hr fun ps z => by cases z) c1 c2 c3 c4 lt
theorem Tv.up (e : Ex H H') (h : Tv H v) : Tv H' v := h.upN (ExtN.ex e)
/-- bools with one false among them -/
theorem all_false {ys : List V} (h : ∀ y ∈ ys, ∃ t, y = V.bl t) (hf : V.bl false ∈ ys) : ∃ bs : List Bool, ys = bs.map V.bl ∧ bs.all id = false := by
  induction ys with
  | nil => cases hf
  | cons y ys ih =>
    obtain ⟨t, rfl⟩ := h y List.mem_cons_self
    cases t with
    | false =>
      have : ∃ bs : List Bool, ys = bs.map V.bl := by
        clear ih hf
        induction ys with
        | nil => exact ⟨[], rfl⟩
        | cons z zs ih =>
          obtain ⟨s, rfl⟩ := h z (by simp)
          obtain ⟨bs, e⟩ := ih fun y m => h y (by simp at m ⊢; rcases m with rfl | m <;> simp [*])
          exact ⟨s :: bs, by rw [e]; rfl⟩
      obtain ⟨bs, e⟩ := this
      exact ⟨false :: bs, by rw [e]; rfl, rfl⟩
    | true =>
      rcases List.mem_cons.mp hf with z | hf
      · cases z
      · obtain ⟨bs, e, f⟩ := ih (fun y m => h y (List.mem_cons_of_mem _ m)) hf
        exact ⟨true :: bs, by rw [e]; rfl, f⟩
/-- no table, and its text can be told -/
def Bad (K : PySem.W.Frag) (H : Hp) (v : V) : Prop := Tv H v ∧ Dsp K H v
theorem Bad.upN (e : ExtN H H') (h : Bad K H v) : Bad K H' v := ⟨h.1.upN e, h.2.upN e⟩
theorem Bad.up (e : Ex H H') (h : Bad K H v) : Bad K H' v := h.upN (ExtN.ex e)
/-- no colour, and its text can be told -/
def Hue (K : PySem.W.Frag) (H : Hp) (v : V) : Prop := (∃ n, Kd H v n) ∧ inB 0 1000000000 v = false ∧ Dsp K H v
theorem Hue.upN (e : ExtN H H') (h : Hue K H v) : Hue K H' v := ⟨let ⟨n, k⟩ := h.1; ⟨n, k.upN e⟩, h.2.1, h.2.2.upN e⟩
/-- many lists of two texts -/
theorem nes_rows {t s : Str} {as bs : List Addr} {Q : VK} (k2 : PyData.strOk s = true) (k1 : PyData.strOk t = true) (h : H a = some (.lst (as.map V.ref))) (h' : H b = some (.lst (bs.map V.ref))) (l : as.length = bs.length) (ha : ∀ c ∈ as, H c = some (.lst [.str t, .str s])) (hb : ∀ c ∈ bs, H c = some (.lst [.str t, .str s]))
    (q : Q (.bl false) H) : rNeD K (.ref a) (.ref b) H Q := ne_rows k1 k2 h h' l ha hb q
end
/-! ### defs with a star parameter alone -/
structure ClR (P : Program) (w : World) (K : PySem.W.Frag) (mg : Str → Option Value) (base : Heap) (CX : CXT) (k : Nat) (x : Str) (sp : Sp) : Prop where
  ex : ∃ f : Addr, FnR P w K mg base CX k f sp ∧ PySem.W.keepIn K (.ref f) = true ∧ mg x = some (.ref f)
def StarB (x : Str) (st : Stmt) (pv : Str) : Prop := ∀ (kV doc pm : Value) (an : Option Addr) (cdv ct : Value) (us : List Value), bindArgs (PySem.W.fnOf x x (defArgs st) (defBody st) (defScope st) .none kV doc pm an cdv ct) ⟨us, []⟩ = (newTuple us >>= fun t => pure [(pv, t)])
theorem clR_star {P : Program} {w : World} {K : PySem.W.Frag} {mg : Str → Option Value} {base : Heap} {CX : CXT} {k : Nat} {x pv : Str} {st : Stmt} {N : List Str} {sp : Sp} (D : DefAt K mg x st) (S : FnScope N [pv] (defScope st)) (hC : StX.CXUp CX) (hb : StarB x st pv)
    (hbody : ∀ (f : Addr) (cdv : Value) (A : Around) (outer : List Env) (s : Shared) (H : Hp) (vs : List V) (Q : VK) (E : XK), Room k (A.deeper (envOfC x (defScope st) s.heap.objs.size f cdv)) → sp vs H Q E →
      ∃ t, PSs (cxOf CX P w K mg base N x (defScope st) f cdv A outer s H E) (defBody st) t ∧ t { nx := fun _ H' => Q .non H', rt := Q } (start N vs) H) :
    ClR P w K mg base CX (k + 1) x (fun vs H Q E => vs.length ≤ sizeLine ∧ ∀ p, H p = none → sp [.ref p] (upd H p (.tup vs)) Q E) := by
  obtain ⟨f, fd, F, m⟩ := D.ex
  have kp := F.kp
  obtain ⟨oc, od, kV, doc, pm, an, cdv, ct, osl, rfl, lk, hcd⟩ := F.ex
  refine ⟨f, fun A outer s H us vs Q E hr e0 r hs => ?_, kp, m⟩
  refine StX.fn_star (ps := []) (pv := pv) lk hcd S hC (fun us rest hl => ?_) (fun A outer s H vs Q E hr h => hbody f cdv A outer s H vs Q E hr h) A outer s H us vs Q E hr e0 r ⟨[], vs, rfl, rfl, hs.1, hs.2⟩
  obtain rfl : us = [] := List.length_eq_zero_iff.mp hl
  exact hb kV doc pm an cdv ct rest
section
variable {X : Cx} {CX : CXT} {k j : Nat} {x : Str} {sp : Sp} {p pos : Pos} {e : Expr} {es : List Expr} {t : TA} {E : XK}
theorem pe_clR (c : ClR X.prog X.w X.K X.mg X.base CX k x sp) (hr : Room j X.A) (hk : k ≤ j) (hg : Gl X x) (hx : Passes CX X E) (ha : PA X (e :: es) t)
    (hdb : (x == ("__debug__" : Str)) = false := by decide) (he : starEach (e :: es) X.env = (false, eval e X.env) :: starEach es X.env := by rfl) (hpl : (backTo pos (starEach es X.env)).any (·.1) = false := by rfl) :
    PE X (.Call (.Name x p) (e :: es) [] pos) (fun σ H Q => t σ H fun vs H' => sp vs H' Q E) := by
  obtain ⟨f, F, kp, m⟩ := c.ex
  refine ⟨fun pins s σ H Q I hq => wpAny_Call_Name_kw (ld_glob I hg m (PySem.W.callWith_K (h₀ := X.base) I.ok.mod.kin kp (thn (ha.run pos pins s σ H _ I hq) fun us s1 hh => ?_) he hpl) hdb)⟩
  obtain ⟨vs, H1, J, r, q⟩ := hh
  exact ⟨J.kIn, wpAny_call (run_fnR (us := us) (vs := vs) F (hr.mono hk) hx J r q)⟩
theorem pe_clR0 (c : ClR X.prog X.w X.K X.mg X.base CX k x sp) (hr : Room j X.A) (hk : k ≤ j) (hg : Gl X x) (hx : Passes CX X E) (hdb : (x == ("__debug__" : Str)) = false := by decide) :
    PE X (.Call (.Name x p) [] [] pos) (fun σ H Q => sp [] H Q E) := by
  obtain ⟨f, F, kp, m⟩ := c.ex
  refine ⟨fun pins s σ H Q I hq => wpAny_Call_Name_kw (ld_glob I hg m ?_ hdb)⟩
  exact PySem.W.callWith_K0 I.kIn kp (wpAny_call (run_fnR (us := []) (vs := []) F (hr.mono hk) hx I .nil hq))
end
end Lw
/-! Set comprehensions of ints over three clauses, without conditions. -/
namespace Lw
open PySem PySem.Spec PyProof.Rows L2 Evl
abbrev set3 (elt t0 i0 t1 i1 t2 i2 : Expr) (sc : Scope) (pos : Pos) : Expr := .SetComp elt [⟨t0, i0, [], 0⟩, ⟨t1, i1, [], 0⟩, ⟨t2, i2, [], 0⟩] sc pos
theorem wipe_in {σ : L2.St} {i : Nat} : ∀ {vs : List Nat}, i ∈ vs → (wipe σ vs)[i]? = if i < σ.length then some none else none
  | v :: vs, h => by
    unfold wipe
    by_cases e : v = i
    · subst e
      rw [List.getElem?_set_self']
      by_cases c : v < σ.length
      · rw [if_pos c, List.getElem?_eq_getElem (by rw [wipe_length]; exact c)]
        rfl
      · rw [if_neg c, List.getElem?_eq_none (by rw [wipe_length]; omega)]
        rfl
    · rw [List.getElem?_set_ne e]
      rcases List.mem_cons.mp h with z | m
      · exact absurd z.symm e
      · exact wipe_in m
theorem wipe_idem {σ : L2.St} {vs : List Nat} : wipe (wipe σ vs) vs = wipe σ vs := by
  refine List.ext_getElem? fun i => ?_
  by_cases m : i ∈ vs
  · rw [wipe_in m, wipe_in m, wipe_length]
  · rw [wipe_out m]
/-- a clause's loop: J gives the items, g names them, step is what is done with each -/
def Lv (vs : List Nat) (g : TG) (step : L2.St → Hp → (Hp → Prop) → Prop) (J : L2.It) (σ : L2.St) (H : Hp) (Qe : Hp → Prop) : Prop :=
  ∃ W : Nat → Nat → Hp → Prop, (∃ m, W 0 m H) ∧ ∀ i m G, W i m G → (J.stop i G ∧ Qe G) ∨
    (J.go i G ∧ ∃ Nx : Hp → Prop, (∀ G', Nx G' → ∃ m', m' < m ∧ W (i + 1) m' G') ∧ ∀ x G', J.yld i G x G' → g x (wipe σ vs) G' fun σ2 G2 => wipe σ2 vs = wipe σ vs ∧ step σ2 G2 Nx)
/-- the innermost step: the item's int goes into the set at D -/
def stEl (w : World) (D : Addr) (te : TE) (σ : L2.St) (H : Hp) (Nx : Hp → Prop) : Prop :=
  te σ H fun y G => ∃ (c : Int) (S : Int → Bool) (n : Nat), y = .int c ∧ G D = some (SetO w D S n) ∧ n + 1 < scanBound ∧ Nx (upd G D (SetO w D (fun j => S j || decide (j = c)) (if S c = true then n else n + 1)))
/-- an outer step: the next clause's loop -/
def stIn (wi : TI) (lv : L2.It → L2.St → Hp → (Hp → Prop) → Prop) (σ : L2.St) (H : Hp) (Nx : Hp → Prop) : Prop := wi σ H fun J G => lv J σ G Nx
section
variable {Y : Cx} {e : Expr} {k : Nat} {t : Expr} {p : Pos} {vs : List Nat} {g : TG} {step : L2.St → Hp → (Hp → Prop) → Prop} {D : Addr} {rest : Sem Fin → Sem Fin}
/-- what is left behind a step: what was known ahead of the loop, and more -/
def Back (Y : Cx) (pins : List (Addr × Obj)) (vs : List Nat) (σ : L2.St) (Nx : Hp → Prop) (z : Shared) : Prop := ∃ H, Inv Y pins (wipe σ vs) H z ∧ Nx H
def BodyOk (Y : Cx) (vs : List Nat) (step : L2.St → Hp → (Hp → Prop) → Prop) (rest : Sem Fin → Sem Fin) : Prop :=
  ∀ (pins : List (Addr × Obj)) (σ : L2.St) (H : Hp) (z : Shared) (Nx : Hp → Prop) (fin : Sem Fin) (Q : Fin → Shared → Prop) (E : Value → Shared → Prop), Inv Y pins σ H z → step σ H Nx →
    (∀ z', Back Y pins vs σ Nx z' → wpAny (model Y.prog Y.w) Y.A fin Q E z') → wpAny (model Y.prog Y.w) Y.A (rest fin) Q E z
def LoopOk (Y : Cx) (e : Expr) (k : Nat) (t : Expr) (vs : List Nat) (D : Addr) (lv : L2.It → L2.St → Hp → (Hp → Prop) → Prop) : Prop :=
  ∀ (pins : List (Addr × Obj)) (σ : L2.St) (H : Hp) (z : Shared) (J : L2.It) (it : Addr) (fp : List Addr) (tn : Nat → Heap → Prop) (Qe : Hp → Prop), Inv Y pins σ H z → Turn Y.prog Y.w Y.K t J fp it tn → (∀ b ∈ fp, FpOk Y pins H b) → tn 0 z.heap → lv J σ H Qe →
    codeAny (model Y.prog Y.w) Y.A (.compLoop e k (.ref it) (.ref D) Y.env) (fun r z' => match r with
      | .ok .next => Back Y pins vs σ Qe z'
      | _ => False) z
theorem loop_ok (hc : Y.calm = true) (hx : ∀ u z, ¬ Y.xe u z) (hq : ∀ it acc env, (Code.compLoop e k it acc env).quiet = true)
    (eq : ∀ it, (model Y.prog Y.w).den (.compLoop e k (.ref it) (.ref D) Y.env) = ((do
      standAt p
      match ← pyNext (.ref it) with
      | none => pure (.done .next)
      | some v =>
        letOwnedTupleGo t (.ref it) v
        assign t Y.env v
        rest (again (.compLoop e k (.ref it) (.ref D) Y.env))) : Sem Fin).onRaise (fun x => do noteFrame x Y.env; theTreesLotGoes x))
    (un : ∀ it, Y.A.under (.compLoop e k (.ref it) (.ref D) Y.env) = Y.A) (pg : PG Y t g) (b : BodyOk Y vs step rest) : LoopOk Y e k t vs D (Lv vs g step) := by
  intro pins σ H z J it fp tn Qe I T f0 t0 lv
  obtain ⟨W, ⟨m0, w0⟩, turn⟩ := lv
  refine codeAny_loop (hq _ _ _) (fun n y => ∃ i G, Inv Y pins (wipe σ vs) G y ∧ tn i y.heap ∧ (∀ b ∈ fp, G b = none) ∧ W i n G) (fun n y hI => ?_) m0 ⟨0, H, I.weak (wipe_length _ _) (fun j v q => (wipe_some q).1), t0, fun b m => (f0 b m).1, w0⟩
  obtain ⟨i, G, J1, tt, nn, ww⟩ := hI
  rw [eq, un]
  refine wpAny_noted (wpAny_bind (wpAny_standAt (wpAny_bind ?_)))
  have ok : ∀ {G' : Hp}, (∀ b ∈ fp, G' b = none) → ∀ b ∈ fp, FpOk Y pins G' b := fun h b m => ⟨h b m, (f0 b m).2⟩
  rcases turn i n G ww with ⟨hstop, fin⟩ | ⟨hgo, Nx, dec, body⟩
  · refine wpAny_mono (T.done Y rfl rfl rfl hc i pins y _ G (fun _ _ => False) J1 (ok nn) tt hstop) (fun r y1 hr => ?_) fun _ _ q => q.elim
    obtain ⟨rfl, J2⟩ := hr
    exact wpAny_pure ⟨G, J2, fin⟩
  · refine wpAny_mono (T.item Y rfl rfl rfl hc i pins y _ G (fun _ _ => False) J1 (ok nn) tt hgo) (fun r y1 hr => ?_) fun _ _ q => q.elim
    obtain ⟨u, rfl, h1⟩ := hr
    refine wpAny_bind (wpAny_mono h1 (fun _ y2 h2 => ?_) fun _ _ q => q.elim)
    obtain ⟨x, G2, J2, rx, yy, t2, n2⟩ := h2
    have J3 := J2.pinned (ok n2) (T.obj _ _ t2)
    refine wpAny_bind (wpAny_mono (pg.run _ y2 _ G2 x u _ J3 rx (body x G2 yy)) (fun _ y3 h3 => ?_) fun _ _ q => (hx _ _ q).elim)
    obtain ⟨σ3, G3, J4, hw, st3⟩ := h3
    refine b _ σ3 G3 y3 Nx _ _ _ J4 st3 fun y4 h4 => ?_
    obtain ⟨G4, J5, nx⟩ := h4
    obtain ⟨m', lt, w'⟩ := dec G4 nx
    have held : ∀ b ∈ fp, ∀ o, y2.heap.get? b = some o → y4.heap.get? b = some o ∧ G4 b = none := fun b m o q => by
      have r := J5.pin (b, o) (List.mem_append_right _ (List.mem_append_right _ (mem_pinsAt m q)))
      exact ⟨r.1, r.2.1⟩
    refine wpAny_pure ⟨rfl, m', lt, i + 1, G4, by rw [← hw]; exact J5.unpinned, T.keep _ _ _ t2 fun b m o q => (held b m o q).1, fun b m => ?_, w'⟩
    obtain ⟨o, q, _⟩ := T.obj _ _ t2 b m
    exact (held b m o q).2
/-- the innermost body -/
theorem body_el {elt : Expr} {te : TE} (hx : ∀ u z, ¬ Y.xe u z) (pe : PE Y elt te) : BodyOk Y vs (stEl Y.w D te) (fun fin => do
      (do let v ← eval elt Y.env; standAt elt.pos; let _ ← call (.builtin "set.add") [.ref D, v])
      fin) := by
  intro pins σ H z Nx fin Q E I st hf
  refine wpAny_bind (wpAny_bind (wpAny_mono (pe.run pins z σ H _ I st) (fun v z1 h1 => ?_) fun _ _ q => (hx _ _ q).elim))
  obtain ⟨y, G, J, ry, c, S, n, rfl, hD, hz, nx⟩ := h1
  refine wpAny_bind (wpAny_standAt (wpAny_bind (wpAny_mono (mt_sadd (X := Y) pins z1 σ G (.ref D) [.int c] (.ref D) [v] (fun _ G => Nx G) J rfl (.cons ry .nil) ⟨D, c, S, n, rfl, rfl, hD, hz, nx⟩) (fun _ z2 h2 => ?_) fun _ _ q => (hx _ _ q).elim)))
  obtain ⟨_, G2, J2, _, nx⟩ := h2
  exact wpAny_pure (hf z2 ⟨G2, J2.weak (wipe_length _ _) (fun j v q => (wipe_some q).1), nx⟩)
/-- an outer body: the next clause's loop is run -/
theorem body_in {i1 : Expr} {k1 : Nat} {t1 : Expr} {vs1 : List Nat} {wi : TI} {lv : L2.It → L2.St → Hp → (Hp → Prop) → Prop} (hx : ∀ u z, ¬ Y.xe u z) (hi : PI Y t1 i1 wi) (hs : ∀ x, foldedSetIterable i1 Y.env x = pure x) (sub : ∀ i ∈ vs1, i ∈ vs) (L : LoopOk Y e k1 t1 vs1 D lv)
    (start : ∀ (it : Addr) (R : Result → Shared → Prop) (z : Shared), codeAny (model Y.prog Y.w) Y.A (.compLoop e k1 (.ref it) (.ref D) Y.env) R z →
      wpAny (model Y.prog Y.w) Y.A (pyIter (.ref it)) (fun it' z' => codeAny (model Y.prog Y.w) Y.A (.compLoop e k1 it' (.ref D) Y.env) R z') (notedBy (model Y.prog Y.w) Y.A Y.env fun x z' => R (.error x) z') z →
      codeAny (model Y.prog Y.w) Y.A (.compStart e k1 (.ref it) (.ref D) Y.env) R z) :
    BodyOk Y vs (stIn wi lv) (fun fin => do
      let x ← eval i1 Y.env
      standAt i1.pos
      let x ← foldedSetIterable i1 Y.env x
      let _ ← runOwn (.compStart e k1 (← holding [x] (pyIter x)) (.ref D) Y.env) Y.env
      fin) := by
  intro pins σ H z Nx fin Q E I st hf
  refine wpAny_bind (wpAny_mono (hi.run pins z σ H _ I st) (fun xv z1 h1 => ?_) fun _ _ q => (hx _ _ q).elim)
  refine wpAny_bind (wpAny_standAt (wpAny_bind (wpAny_of_eq (hs xv) (wpAny_bind (wpAny_holding (wpAny_mono h1 (fun itv z2 h2 => ?_) fun _ _ q => (hx _ _ q).elim))))))
  obtain ⟨it, fp, tn, J, G, rfl, J2, T, t0, f0, lvv⟩ := h2
  refine wpAny_bind (wpAny_runOwn ?_)
  rw [Around.mark_none]
  have run := L pins σ G z2 J it fp tn Nx J2 T f0 t0 lvv
  refine codeAny_mono (start it _ z2 run (T.self Y.A 0 _ _ _ t0 run)) fun r z3 hr => ?_
  match r, hr with
  | .ok .next, hr =>
    obtain ⟨G3, J3, nx⟩ := hr
    refine hf z3 ⟨G3, J3.weak (by rw [wipe_length, wipe_length]) (fun j v q => ?_), nx⟩
    obtain ⟨q1, q2⟩ := wipe_some q
    rw [wipe_out fun m => q2 (sub j m)]
    exact q1
end
section
variable {prog : Program} {w : World} {elt t0 i0 t1 i1 t2 i2 : Expr} {sc : Scope} {pos : Pos}
theorem start3_1 {A : Around} {R : Result → Shared → Prop} {z : Shared} {it acc : Value} {env : Env} (h0 : codeAny (model prog w) A (.compLoop (set3 elt t0 i0 t1 i1 t2 i2 sc pos) 1 it acc env) R z)
    (h : wpAny (model prog w) A (pyIter it) (fun it' z' => codeAny (model prog w) A (.compLoop (set3 elt t0 i0 t1 i1 t2 i2 sc pos) 1 it' acc env) R z') (notedBy (model prog w) A env fun x z' => R (.error x) z') z) :
    codeAny (model prog w) A (.compStart (set3 elt t0 i0 t1 i1 t2 i2 sc pos) 1 it acc env) R z := by
  refine codeAny_of_tree ?_
  show wpAny _ _ ((compStart (set3 elt t0 i0 t1 i1 t2 i2 sc pos) 1 it acc env).onRaise (fun x => do noteFrame x env; standAt theWindowsPlace)) _ _ z
  refine wpAny_notedAt ?_
  unfold compStart
  show wpAny _ _ (ask >>= _) _ _ z
  refine wpAny_bind (wpAny_askSetting (wpAny_ite ?_))
  split
  · first
      | exact wpAny_bind (wpAny_pure (wpAny_pure ⟨rfl, h0⟩))
      | exact wpAny_pure ⟨rfl, h0⟩
  · first
      | exact wpAny_bind (wpAny_rule (wpAny_bind (wpAny_standAt (wpAny_bind (wpAny_mono h (fun it' z' q => wpAny_pure ⟨rfl, q⟩) fun _ _ q => q)))))
      | (refine wpAny_bind (wpAny_rule ?_); show wpAny _ _ (standAt i1.pos >>= _) _ _ z; exact wpAny_bind (wpAny_standAt (wpAny_bind (wpAny_mono h (fun it' z' q => wpAny_pure ⟨rfl, q⟩) fun _ _ q => q))))
theorem start3_2 {A : Around} {R : Result → Shared → Prop} {z : Shared} {it acc : Value} {env : Env} (h0 : codeAny (model prog w) A (.compLoop (set3 elt t0 i0 t1 i1 t2 i2 sc pos) 2 it acc env) R z)
    (h : wpAny (model prog w) A (pyIter it) (fun it' z' => codeAny (model prog w) A (.compLoop (set3 elt t0 i0 t1 i1 t2 i2 sc pos) 2 it' acc env) R z') (notedBy (model prog w) A env fun x z' => R (.error x) z') z) :
    codeAny (model prog w) A (.compStart (set3 elt t0 i0 t1 i1 t2 i2 sc pos) 2 it acc env) R z := by
  refine codeAny_of_tree ?_
  show wpAny _ _ ((compStart (set3 elt t0 i0 t1 i1 t2 i2 sc pos) 2 it acc env).onRaise (fun x => do noteFrame x env; standAt theWindowsPlace)) _ _ z
  refine wpAny_notedAt ?_
  unfold compStart
  show wpAny _ _ (ask >>= _) _ _ z
  refine wpAny_bind (wpAny_askSetting (wpAny_ite ?_))
  split
  · first
      | exact wpAny_bind (wpAny_pure (wpAny_pure ⟨rfl, h0⟩))
      | exact wpAny_pure ⟨rfl, h0⟩
  · first
      | exact wpAny_bind (wpAny_rule (wpAny_bind (wpAny_standAt (wpAny_bind (wpAny_mono h (fun it' z' q => wpAny_pure ⟨rfl, q⟩) fun _ _ q => q)))))
      | (refine wpAny_bind (wpAny_rule ?_); show wpAny _ _ (standAt i2.pos >>= _) _ _ z; exact wpAny_bind (wpAny_standAt (wpAny_bind (wpAny_mono h (fun it' z' q => wpAny_pure ⟨rfl, q⟩) fun _ _ q => q))))
end
section
variable {X : Cx} {elt t0 i0 t1 i1 t2 i2 : Expr} {sc : Scope} {pos : Pos} {own : List (PySem.Str × Nat)} {vs1 vs2 : List Nat} {wi wi1 wi2 : TI} {g0 g1 g2 : TG} {te : TE}
/-- {e for x in a for y in b for z in c}, e an int: D the new set -/
def tSc3 (w : World) (wi wi1 wi2 : TI) (g0 g1 g2 : TG) (te : TE) (vs vs1 vs2 : List Nat) : TE := fun σ H Q => wi σ H fun J H1 => ∀ D, H1 D = none →
  Lv vs g0 (stIn wi1 (Lv vs1 g1 (stIn wi2 (Lv vs2 g2 (stEl w D te))))) J σ (upd H1 D (SetO w D (fun _ => false) 0)) fun G => Q (.ref D) G
set_option maxHeartbeats 4000000 in
theorem pe_sc3 (hc : X.calm = true) (hN : X.N.Nodup) (hi : PI X t0 i0 wi) (ok : BlkOk X.N X.env.scope sc own) (h1 : ∀ i ∈ vs1, i ∈ own.map (·.2)) (h2 : ∀ i ∈ vs2, i ∈ vs1)
    (hg0 : ∀ (s : Shared) (H : Hp) (C : Addr) (cl : List (PySem.Str × Addr)) (fp : List Addr), PG (X.blk s H sc (compEnvC sc cl C X.env) fp) t0 g0)
    (hi1 : ∀ (s : Shared) (H : Hp) (C : Addr) (cl : List (PySem.Str × Addr)) (fp : List Addr), PI (X.blk s H sc (compEnvC sc cl C X.env) fp) t1 i1 wi1)
    (hg1 : ∀ (s : Shared) (H : Hp) (C : Addr) (cl : List (PySem.Str × Addr)) (fp : List Addr), PG (X.blk s H sc (compEnvC sc cl C X.env) fp) t1 g1)
    (hi2 : ∀ (s : Shared) (H : Hp) (C : Addr) (cl : List (PySem.Str × Addr)) (fp : List Addr), PI (X.blk s H sc (compEnvC sc cl C X.env) fp) t2 i2 wi2)
    (hg2 : ∀ (s : Shared) (H : Hp) (C : Addr) (cl : List (PySem.Str × Addr)) (fp : List Addr), PG (X.blk s H sc (compEnvC sc cl C X.env) fp) t2 g2)
    (he : ∀ (s : Shared) (H : Hp) (C : Addr) (cl : List (PySem.Str × Addr)) (fp : List Addr), PE (X.blk s H sc (compEnvC sc cl C X.env) fp) elt te)
    (hs : ∀ x, foldedSetIterable i0 X.env x = pure x := by intro _; rfl) (hs1 : ∀ env x, foldedSetIterable i1 env x = pure x := by intro _ _; rfl) (hs2 : ∀ env x, foldedSetIterable i2 env x = pure x := by intro _ _; rfl) :
    PE X (set3 elt t0 i0 t1 i1 t2 i2 sc pos) (tSc3 X.w wi wi1 wi2 g0 g1 g2 te (own.map (·.2)) vs1 vs2) := by
  refine ⟨fun pins s σ H Q I hq => ?_⟩
  rw [PpSet.eval_SetComp]
  have clo : ∀ y ∈ sc.names, y.2 = .free → ∃ c, X.env.cells.lookup y.1 = some c := fun y m e => (ok.free y m e).elim (fun k => I.ok.has _ (.inl k)) fun k => I.ok.has _ (.inr k)
  refine wpAny_comprehension_free rfl hs (closure_ok clo) ok.kind (fun y m e => by rw [ok.uniq y m, e]) (thn (hi.run pins s σ H _ I hq) fun _ s1 a1 => thn a1 fun _ s2 a2 => ?_)
  obtain ⟨it, fp, tn, J, G0, rfl, I2, T, t0', f0, q⟩ := a2
  refine PpSet.newSet_ok (newEnv_comp ?_)
  have fr := I2.hok.fresh (Nat.le_refl s2.heap.objs.size)
  have I3 : Inv X pins σ (upd G0 s2.heap.objs.size (SetO X.w s2.heap.objs.size (fun _ => false) 0)) { s2 with heap := s2.heap.push (setNil X.w) } :=
    I2.laid (t' := s2.toks) (fun b u e => Heap.get?_push_of_some _ e) (Nat.le_refl _) (setO_new (setR_fresh X.w))
  have lt2 : ∀ b ∈ fp, b < s2.heap.objs.size := fun b m => let ⟨_, e, _⟩ := T.obj _ _ t0' b m; Heap.lt_size e
  have t3 : tn 0 (s2.heap.push (setNil X.w)) := T.keep _ _ _ t0' fun b _ u e => Heap.get?_push_of_some _ e
  have f3 : ∀ b ∈ fp, FpOk X pins (upd G0 s2.heap.objs.size (SetO X.w s2.heap.objs.size (fun _ => false) 0)) b ∧ b < (s2.heap.push (setNil X.w)).objs.size := fun b m =>
    ⟨⟨by rw [upd_ne (Nat.ne_of_lt (lt2 b m))]; exact (f0 b m).1, (f0 b m).2⟩, by rw [Heap.size_push]; exact Nat.lt_succ_of_lt (lt2 b m)⟩
  have lv := q _ fr
  clear fr lt2 f0 I2 t0' q
  generalize s2.heap.objs.size = D at *
  generalize upd G0 D (SetO X.w D (fun _ => false) 0) = G3 at *
  generalize hs3 : ({ s2 with heap := s2.heap.push (setNil X.w) } : Shared) = s3 at *
  have h3 : s2.heap.push (setNil X.w) = s3.heap := by rw [← hs3]
  rw [h3] at t3 f3
  have I4 := block_start I3 ok hN f3
  have pg0 := hg0 s3 G3 s3.heap.objs.size (cellsFrom (s3.heap.objs.size + 1) sc.names (cloFrom X.env.cells sc.names [])) fp
  have pi1 := hi1 s3 G3 s3.heap.objs.size (cellsFrom (s3.heap.objs.size + 1) sc.names (cloFrom X.env.cells sc.names [])) fp
  have pg1 := hg1 s3 G3 s3.heap.objs.size (cellsFrom (s3.heap.objs.size + 1) sc.names (cloFrom X.env.cells sc.names [])) fp
  have pi2 := hi2 s3 G3 s3.heap.objs.size (cellsFrom (s3.heap.objs.size + 1) sc.names (cloFrom X.env.cells sc.names [])) fp
  have pg2 := hg2 s3 G3 s3.heap.objs.size (cellsFrom (s3.heap.objs.size + 1) sc.names (cloFrom X.env.cells sc.names [])) fp
  have pe := he s3 G3 s3.heap.objs.size (cellsFrom (s3.heap.objs.size + 1) sc.names (cloFrom X.env.cells sc.names [])) fp
  show codeAny _ _ (.compStart (set3 elt t0 i0 t1 i1 t2 i2 sc pos) 0 (.ref it) (.ref D) (compEnvC sc (cellsFrom (s3.heap.objs.size + 1) sc.names (cloFrom X.env.cells sc.names [])) s3.heap.objs.size X.env))
    (compPost (model X.prog X.w) X.A X.xe _ _ (.ref D) s3.heap.objs.size) { s3 with heap := pushCells (s3.heap.push { cls := .type "dict", data := .dict #[] }) sc.names }
  generalize hce : compEnvC sc (cellsFrom (s3.heap.objs.size + 1) sc.names (cloFrom X.env.cells sc.names [])) s3.heap.objs.size X.env = ce at *
  have eL : ce.locals = s3.heap.objs.size := by rw [← hce]; rfl
  have t4 : tn 0 (pushCells (s3.heap.push { cls := .type "dict", data := .dict #[] }) sc.names) := T.keep _ _ _ t3 fun b _ u e => pushCells_keeps _ _ _ _ (Heap.get?_push_of_some _ e)
  generalize pushCells (s3.heap.push { cls := .type "dict", data := .dict #[] }) sc.names = g4 at *
  have no : ∀ u z, ¬ (X.blk s3 G3 sc ce fp).xe u z := fun _ _ q => q
  have L2 := loop_ok (Y := X.blk s3 G3 sc ce fp) (e := set3 elt t0 i0 t1 i1 t2 i2 sc pos) (k := 2) (D := D) (vs := vs2) hc no (fun _ _ _ => rfl) (fun _ => rfl) (fun _ => rfl) pg2 (body_el no pe)
  have L1 := loop_ok (Y := X.blk s3 G3 sc ce fp) (e := set3 elt t0 i0 t1 i1 t2 i2 sc pos) (k := 1) (D := D) (vs := vs1) hc no (fun _ _ _ => rfl) (fun _ => rfl) (fun _ => rfl) pg1 (body_in no pi2 (hs2 _) h2 L2 fun _ _ _ a b => start3_2 a b)
  have L0 := loop_ok (Y := X.blk s3 G3 sc ce fp) (e := set3 elt t0 i0 t1 i1 t2 i2 sc pos) (k := 0) (D := D) (vs := own.map (·.2)) hc no (fun _ _ _ => rfl) (fun _ => rfl) (fun _ => rfl) pg0 (body_in no pi1 (hs1 _) h1 L1 fun _ _ _ a b => start3_1 a b)
  have still : ∀ b ∈ fp, FpOk (X.blk s3 G3 sc ce fp) [] G3 b := fun b m =>
    ⟨(f3 b m).1.1, (I4.ok.exf b m).1, I4.ok.exfs b m, .inl m, fun x c e => (I4.ok.exf b m).2 x c e, fun p hp => nomatch (show p ∈ ([] : List (Addr × Obj)) from hp)⟩
  have wip : wipe (wipe σ (own.map (·.2))) (own.map (·.2)) = wipe σ (own.map (·.2)) := wipe_idem
  have main : codeAny (model X.prog X.w) X.A (.compLoop (set3 elt t0 i0 t1 i1 t2 i2 sc pos) 0 (.ref it) (.ref D) ce) (compPost (model X.prog X.w) X.A X.xe none (EP X pins σ Q) (.ref D) s3.heap.objs.size) { s3 with heap := g4 } := by
    refine codeAny_mono (L0 [] (wipe σ (own.map (·.2))) G3 { s3 with heap := g4 } J it fp tn (fun G => Q (.ref D) G) I4 T still t4 ?_) fun r z6 hr => ?_
    · unfold Lv at lv ⊢
      rw [wip]
      exact lv
    · match r, hr with
      | .ok .next, hr =>
        obtain ⟨G5, J6, fin⟩ := hr
        have J7 : Inv X pins σ G5 z6 := I3.call' (ch := fp) J6.os J6.base J6.hok J6.bare fun b m => ⟨(f3 b m).1.2.2.2.1, (f3 b m).1.2.1, (f3 b m).1.2.2.2.2.1, (f3 b m).1.2.2.2.2.2⟩
        obtain ⟨mm, hns, _⟩ := J6.loc
        have hns : z6.heap.Ns ce.locals mm := hns
        have nL : G5 ce.locals = none := J6.free
        rw [eL] at hns nL
        refine ⟨mm, hns, fun h9 sb => ?_⟩
        obtain ⟨p0, p1, p2, p3, p4, p5⟩ := I3.fpOk (Nat.le_refl _) nL
        exact ⟨.ref D, G5, J7.turned (t' := z6.toks) (fun b u hb e => (sb.2 b hb).trans e) p0 p1 p3 p4 p5, rfl, fin⟩
  exact PpSet.codeAny_compStart_set main (T.self X.A 0 _ _ _ t4 main)
end
section
variable {vs : List Nat} {g : TG} {step : L2.St → Hp → (Hp → Prop) → Prop} {σ : L2.St} {H : Hp} {Qe : Hp → Prop} {K : PySem.W.Frag} {a : Addr} {xs : List V}
/-- a clause over a tuple, by an invariant -/
theorem lv_tup (I : Nat → Hp → Prop) (h0 : I 0 H) (hq : ∀ i G, I i G → SqT K G a xs)
    (hs : ∀ i x, xs[i]? = some x → ∀ G, I i G → ∀ Nx : Hp → Prop, (∀ G', I (i + 1) G' → Nx G') → g x (wipe σ vs) G fun σ2 G2 => wipe σ2 vs = wipe σ vs ∧ step σ2 G2 Nx) (hd : ∀ G, I xs.length G → Qe G) : Lv vs g step (Itt K a) σ H Qe := by
  refine ⟨fun i m G => m = xs.length - i ∧ i ≤ xs.length ∧ I i G, ⟨xs.length, by simp, Nat.zero_le _, h0⟩, ?_⟩
  rintro i m G ⟨rfl, hi, hI⟩
  have q := hq i G hI
  by_cases lt : i < xs.length
  · have gx : xs[i]? = some xs[i] := List.getElem?_eq_getElem lt
    refine .inr ⟨⟨xs, xs[i], q, gx⟩, I (i + 1), fun G' p => ⟨xs.length - (i + 1), by omega, rfl, lt, p⟩, fun x G' y => ?_⟩
    obtain ⟨rfl, y⟩ := y
    obtain rfl : x = xs[i] := Option.some.inj ((y xs q).symm.trans gx)
    exact hs i _ gx _ hI _ fun _ z => z
  · obtain rfl : i = xs.length := by omega
    exact .inl ⟨⟨xs, q, Nat.le_refl _⟩, hd G hI⟩
end
end Lw
/-! Tables that keep colours apart, plainly. -/
namespace Lw
open PySem PySem.Spec PyProof.Rows L2 Evl
/-- what a colour is turned into by each of some tables -/
def told (ts : List Tb) (c : Int) : List Int := ts.map fun t => look t c
def Named (ts : List Tb) (c : Int) : Prop := ∃ t ∈ ts, ∃ p ∈ t, p.1 = c ∨ p.2 = c
def Apart (ts : List Tb) : Prop := ∀ x y, Named ts x → Named ts y → told ts x = told ts y → x = y
def keyI (ns : List Int) : List Key := ns.map Sum.inl
theorem keyI_inj {a b : List Int} (h : keyI a = keyI b) : a = b := by
  unfold keyI at h
  exact (List.map_inj_right fun x y e => Sum.inl.inj e).mp h
theorem keyI_kV (ns : List Int) : (keyI ns).map kV = ns.map V.int := by
  unfold keyI
  rw [List.map_map]
  rfl
theorem told_nil (c : Int) (ts : List Tb) (h : ∀ t ∈ ts, t = []) : told ts c = ts.map fun _ => c := by
  unfold told
  refine List.map_congr_left fun t m => ?_
  rw [h t m]
  rfl
theorem nodup_map_inj {α β : Type} {f : α → β} : ∀ {l : List α}, l.Nodup → ((l.map f).Nodup ↔ ∀ x ∈ l, ∀ y ∈ l, f x = f y → x = y)
  | [], _ => by simp
  | a :: l, nd => by
    obtain ⟨n1, n2⟩ := List.nodup_cons.mp nd
    rw [List.map_cons, List.nodup_cons, nodup_map_inj n2]
    constructor
    · rintro ⟨h1, h2⟩ x hx y hy e
      rcases List.mem_cons.mp hx with rfl | hx'
      · rcases List.mem_cons.mp hy with rfl | hy'
        · rfl
        · exact absurd (List.mem_map.mpr ⟨y, hy', e.symm⟩) h1
      · rcases List.mem_cons.mp hy with rfl | hy'
        · exact absurd (List.mem_map.mpr ⟨x, hx', e⟩) h1
        · exact h2 x hx' y hy' e
    · intro h
      refine ⟨fun m => ?_, fun x hx y hy => h x (List.mem_cons_of_mem _ hx) y (List.mem_cons_of_mem _ hy)⟩
      obtain ⟨x, hx, e⟩ := List.mem_map.mp m
      exact n1 (h x (List.mem_cons_of_mem _ hx) a List.mem_cons_self e ▸ hx)
/-- the test by a list of all colours -/
theorem apart_iff {ts : List Tb} {ns : List Int} (m : ∀ c, c ∈ ns ↔ Named ts c) (nd : ns.Nodup) : (ns.map (told ts)).Nodup ↔ Apart ts := by
  rw [nodup_map_inj nd]
  constructor
  · intro h x y hx hy e
    exact h x ((m x).mpr hx) y ((m y).mpr hy) e
  · intro h x hx y hy e
    exact h x y ((m x).mp hx) ((m y).mp hy) e
/-- the same, with two further colours beyond all others -/
theorem apart_more {ts : List Tb} {ns : List Int} {a b far : Int} (h0 : ts ≠ []) (hf : ∀ t ∈ ts, ∀ p ∈ t, p.1 < far ∧ p.2 < far) (ha : far ≤ a) (hb : far ≤ b) (ab : a ≠ b) (m : ∀ c, c ∈ ns ↔ c = a ∨ c = b ∨ Named ts c) (nd : ns.Nodup) :
    (ns.map (told ts)).Nodup ↔ Apart ts := by
  have out : ∀ c, far ≤ c → told ts c = ts.map fun _ => c := fun c hc => by
    unfold told
    refine List.map_congr_left fun t mt => ?_
    rcases look_in (ps := t) (c := c) with ⟨p, mp, e, _⟩ | ⟨_, e⟩
    · have := (hf t mt p mp).1
      omega
    · exact e
  have inn : ∀ c, Named ts c → c < far ∧ ∀ t ∈ ts, look t c < far := fun c ⟨t, mt, p, mp, e⟩ => by
    have lt : c < far := by
      rcases e with e | e
      · rw [← e]; exact (hf t mt p mp).1
      · rw [← e]; exact (hf t mt p mp).2
    refine ⟨lt, fun t' mt' => ?_⟩
    rcases look_in (ps := t') (c := c) with ⟨p', mp', _, e'⟩ | ⟨_, e'⟩
    · rw [e']; exact (hf t' mt' p' mp').2
    · rw [e']; exact lt
  obtain ⟨t0, tr, rfl⟩ : ∃ t0 tr, ts = t0 :: tr := by
    cases ts with
    | nil => exact absurd rfl h0
    | cons t0 tr => exact ⟨t0, tr, rfl⟩
  have hd : ∀ {x y : Int}, told (t0 :: tr) x = told (t0 :: tr) y → look t0 x = look t0 y := fun h => by
    have := congrArg List.head? h
    simpa [told] using this
  have oh : ∀ c, far ≤ c → look t0 c = c := fun c hc => by
    have := congrArg List.head? (out c hc)
    simpa [told] using this
  rw [nodup_map_inj nd]
  constructor
  · intro h x y hx hy e
    exact h x ((m x).mpr (.inr (.inr hx))) y ((m y).mpr (.inr (.inr hy))) e
  · intro h x hx y hy e
    have e0 := hd e
    have kind : ∀ c, c ∈ ns → (far ≤ c) ∨ Named (t0 :: tr) c := fun c hc => by
      rcases (m c).mp hc with rfl | rfl | z
      · exact .inl ha
      · exact .inl hb
      · exact .inr z
    rcases kind x hx with kx | kx <;> rcases kind y hy with ky | ky
    · rw [oh x kx, oh y ky] at e0
      exact e0
    · have := (inn y ky).2 t0 List.mem_cons_self
      rw [oh x kx] at e0
      omega
    · have := (inn x kx).2 t0 List.mem_cons_self
      rw [oh y ky] at e0
      omega
    · exact h x y kx ky e
/-- the pairs the other way round, where one table keeps apart -/
theorem apart_one {t : Tb} (h : Apart [t]) {x y : Int} (hx : Named [t] x) (hy : Named [t] y) (e : look t x = look t y) : x = y := h x y hx hy (by unfold told; simp [e])
theorem back_mem {t rs : Tb} (hm : ∀ p, p ∈ rs ↔ p ∈ (t.filter fun p => decide (p.1 ≠ p.2)).map fun p => (p.2, p.1)) (p : Int × Int) : p ∈ rs ↔ (p.2, p.1) ∈ t ∧ p.1 ≠ p.2 := by
  rw [hm, List.mem_map]
  constructor
  · rintro ⟨q, m, rfl⟩
    obtain ⟨m1, m2⟩ := List.mem_filter.mp m
    exact ⟨m1, fun z => of_decide_eq_true m2 z.symm⟩
  · rintro ⟨m1, m2⟩
    exact ⟨(p.2, p.1), List.mem_filter.mpr ⟨m1, decide_eq_true fun z => m2 z.symm⟩, rfl⟩
theorem back_good {t rs : Tb} (g : Good t) (h : Apart [t]) (hm : ∀ p, p ∈ rs ↔ (p.2, p.1) ∈ t ∧ p.1 ≠ p.2) (nd : rs.Nodup) (lex : rs.Pairwise fun p q => SrtO.lexB q p = false) (l : rs.length ≤ 1000) : Good rs := by
  have inj : ∀ p ∈ rs, ∀ q ∈ rs, p.1 = q.1 → p = q := fun p mp q mq e => by
    obtain ⟨p1, _⟩ := (hm p).mp mp
    obtain ⟨q1, _⟩ := (hm q).mp mq
    have l1 : look t p.2 = p.1 := look_mem g.asc p1
    have l2 : look t q.2 = q.1 := look_mem g.asc q1
    have n1 : Named [t] p.2 := ⟨t, by simp, _, p1, .inl rfl⟩
    have n2 : Named [t] q.2 := ⟨t, by simp, _, q1, .inl rfl⟩
    exact Prod.ext e (apart_one h n1 n2 (by rw [l1, l2, e]))
  refine ⟨fun p m => ?_, asc_lex lex ((nodup_map_inj nd).mpr inj), l⟩
  have := g.col _ ((hm p).mp m).1
  exact ⟨this.2, this.1⟩
theorem back_undoes {t rs : Tb} (g : Good t) (gr : Good rs) (h : Apart [t]) (hm : ∀ p, p ∈ rs ↔ (p.2, p.1) ∈ t ∧ p.1 ≠ p.2) (x : Int) : look rs (look t x) = x := by
  by_cases e : look t x = x
  · rw [e]
    rcases look_in (ps := rs) (c := x) with ⟨p, m, e1, e2⟩ | ⟨_, e2⟩
    · obtain ⟨p1, p2⟩ := (hm p).mp m
      have l1 : look t p.2 = p.1 := look_mem g.asc p1
      have n1 : Named [t] p.2 := ⟨t, by simp, _, p1, .inl rfl⟩
      have n2 : Named [t] p.1 := ⟨t, by simp, _, p1, .inr rfl⟩
      exact absurd (apart_one h n1 n2 (by rw [l1, e1, e])) (Ne.symm p2)
    · exact e2
  · rcases look_in (ps := t) (c := x) with ⟨p, m, e1, e2⟩ | ⟨_, e2⟩
    · have m2 : ((look t x, x) : Int × Int) ∈ rs := (hm _).mpr ⟨by rw [e2, ← e1]; exact m, e⟩
      exact look_mem gr.asc m2
    · exact absurd e2 e
theorem chain_back {t rs us : Tb} (c : IsChain t rs us) (u : ∀ x, look rs (look t x) = x) : us = [] := by
  cases us with
  | nil => rfl
  | cons p us =>
    obtain ⟨h1, h2⟩ := (c.mem p).mp List.mem_cons_self
    rw [u] at h2
    exact absurd h2.symm h1
/-- what the first one joins stays joined -/
theorem chain_joins {t rs us : Tb} (c : IsChain t rs us) (h : Apart [us]) : Apart [t] := fun x y hx hy e => by
  have e1 : look t x = look t y := by
    have := congrArg List.head? e
    simpa [told] using this
  have e2 : look us x = look us y := by rw [c.turn, c.turn, e1]
  by_cases ne : x = y
  · exact ne
  · have one : ∀ {a b : Int}, look us a = look us b → a ≠ look us a → a = b := fun {a b} e3 na => by
      have ma : ((a, look us a) : Int × Int) ∈ us := (c.mem _).mpr ⟨na, c.turn a⟩
      have nA : Named [us] a := ⟨us, by simp, _, ma, .inl rfl⟩
      by_cases nb : b = look us b
      · have nB : Named [us] b := ⟨us, by simp, _, ma, .inr (by show look us a = b; rw [e3]; exact nb.symm)⟩
        exact apart_one h nA nB e3
      · have mb : ((b, look us b) : Int × Int) ∈ us := (c.mem _).mpr ⟨nb, c.turn b⟩
        exact apart_one h nA ⟨us, by simp, _, mb, .inl rfl⟩ e3
    by_cases nx : x = look us x
    · by_cases ny : y = look us y
      · exact absurd (by rw [nx, ny, e2]) ne
      · exact (one e2.symm ny).symm
    · exact one e2 nx
/-- either grouping -/
theorem chain_group {a b c ab bc l r : Tb} (h1 : IsChain a b ab) (h2 : IsChain ab c l) (h3 : IsChain b c bc) (h4 : IsChain a bc r) : l = r :=
  asc_uniq h2.asc h4.asc fun p => by rw [h2.mem, h4.mem, h1.turn, h3.turn]
end Lw
local macro_rules | `(tactic| fail "side") => `(tactic| first
  | ((with_reducible show (0 : Int) < _); omega)
  | ((with_reducible show L2.CMul _ _); unfold L2.CMul; omega)
  | ((with_reducible show L2.CDiv _ _); unfold L2.CDiv; omega)
  | ((with_reducible show L2.CPow _ _); unfold L2.CPow; decide)
  | ((with_reducible show (_ : Nat) ≤ _); refine Nat.le_trans ?_ Lw.line_ge; simp only [List.length_cons, List.length_nil, Nat.zero_add, Nat.reduceAdd]; decide)
  | ((with_reducible show (_ : Nat) < _); refine Nat.lt_of_lt_of_le ?_ Lw.line_ge; simp only [List.length_cons, List.length_nil, Nat.zero_add, Nat.reduceAdd]; decide)
  | ((with_reducible show (_ : Int) < _); first | omega | decide)
  | ((with_reducible show (_ : Int) ≤ _); first | omega | decide | (split <;> omega))
  | (show (0 : Int) < _; omega))
local macro_rules | `(tactic| fail "at1") => `(tactic| first
  | (with_reducible assumption)
  | ((with_reducible show L2.upd _ _ _ _ = _); first | exact L2.upd_same | exact Lw.upd_new (by with_reducible assumption) (by fail "at1"))
  | ((with_reducible show Lw.Minus _ _ _ = _); exact Lw.minus_at (Lw.ne_fresh (by with_reducible assumption) (by fail "at1")) (by fail "at1"))
  | exact Lw.ex_at (by with_reducible assumption) (by fail "at1"))
local macro_rules | `(tactic| fail "at") => `(tactic| ((with_reducible show (_ : Option L2.HO) = _); fail "at1"))
local macro_rules | `(tactic| fail "pool1") => `(tactic| first
  | (with_reducible assumption)
  | ((with_reducible show Lw.Pool (L2.upd _ _ _) _); exact Lw.Pool.new (by with_reducible assumption) (by fail "pool1"))
  | exact Lw.Pool.up (by with_reducible assumption) (by fail "pool1"))
local macro_rules | `(tactic| fail "pool") => `(tactic| ((with_reducible show Lw.Pool _ _); fail "pool1"))
local macro_rules | `(tactic| fail "th1") => `(tactic| first
  | (with_reducible assumption)
  | ((with_reducible show Lw.Th (L2.upd _ _ _) _ _); exact Lw.Th.new (by with_reducible assumption) (by fail "th1"))
  | exact Lw.Th.up (by with_reducible assumption) (by fail "th1"))
local macro_rules | `(tactic| fail "th") => `(tactic| ((with_reducible show Lw.Th _ _ _); fail "th1"))
local macro_rules | `(tactic| fail "sql1") => `(tactic| first
  | (apply Lw.sqlK; (with_reducible assumption); rfl)
  | exact L2.SqL.of (by fail "at1")
  | ((with_reducible show L2.SqL _ (L2.upd _ _ _) _ _); exact Evl.ex_l (Evl.Ex.new (by with_reducible assumption)) (by fail "sql1"))
  | exact Evl.ex_l (by with_reducible assumption) (by fail "sql1"))
local macro_rules | `(tactic| fail "sql") => `(tactic| ((with_reducible show L2.SqL _ _ _ _); fail "sql1"))
local macro_rules | `(tactic| fail "tu1") => `(tactic| first
  | (with_reducible assumption)
  | ((with_reducible show Lw.Tu (L2.upd _ _ _) _ _); exact Lw.Tu.up (Evl.Ex.new (by with_reducible assumption)) (by fail "tu1"))
  | exact Lw.Tu.up (by with_reducible assumption) (by fail "tu1"))
local macro_rules | `(tactic| fail "sqt1") => `(tactic| first
  | (apply Lw.sqtK; (with_reducible assumption); rfl)
  | exact Lw.Tu.sq (by fail "tu1")
  | exact L2.SqT.of (by fail "at1")
  | ((with_reducible show L2.SqT _ (L2.upd _ _ _) _ _); exact Evl.ex_t (Evl.Ex.new (by with_reducible assumption)) (by fail "sqt1"))
  | exact Evl.ex_t (by with_reducible assumption) (by fail "sqt1"))
local macro_rules | `(tactic| fail "sqt") => `(tactic| ((with_reducible show L2.SqT _ _ _ _); fail "sqt1"))
local macro_rules | `(tactic| fail "kd1") => `(tactic| first
  | (with_reducible assumption) | exact Lw.Kd.int _ | exact Lw.Kd.bl _ | exact Lw.Kd.str _ | exact Lw.Kd.non
  | exact Lw.Kd.tup (by fail "at1") | exact Lw.Kd.fz (by fail "at1") | exact Lw.Kd.lst (by fail "at1") | exact Lw.Kd.dK (by fail "at1")
  | ((with_reducible show Lw.Kd (L2.upd _ _ _) _ _); exact Lw.Kd.new (by with_reducible assumption) (by fail "kd1"))
  | exact Lw.Kd.up (by with_reducible assumption) (by fail "kd1"))
local macro_rules | `(tactic| fail "kd") => `(tactic| ((with_reducible show Lw.Kd _ _ _); fail "kd1"))
local macro_rules | `(tactic| fail "ati") => `(tactic| first
  | (with_reducible assumption)
  | ((with_reducible show L2.atI _ 0 = _); rfl)
  | ((with_reducible show L2.atI _ 1 = _); rfl)
  | ((with_reducible show L2.atI _ 2 = _); rfl)
  | ((with_reducible show L2.atI _ 3 = _); rfl)
  | ((with_reducible show L2.atI _ (-1) = _); rfl))
local macro_rules | `(tactic| fail "st") => `(tactic| first
  | (refine ⟨_, rfl, ?_⟩)
  | (refine ⟨_, _, rfl, rfl, ?_⟩)
  | (refine ⟨_, _, _, _, rfl, rfl, (by fail "sql"), (by fail "ati"), ?_⟩)
  | (refine ⟨_, _, _, _, rfl, rfl, (by fail "sqt"), (by fail "ati"), ?_⟩)
  | (refine ⟨_, _, _, _, rfl, rfl, (by fail "at"), rfl, ?_⟩)
  | (refine Or.inl ⟨_, _, _, _, rfl, rfl, (by fail "sql"), (by fail "ati"), ?_⟩)
  | (refine Or.inr (Or.inl ⟨_, _, _, _, rfl, rfl, (by fail "sqt"), (by fail "ati"), ?_⟩))
  | (refine ⟨_, _, _, _, rfl, (by fail "kd"), ?_⟩)
  | (refine ⟨_, _, rfl, Or.inl ⟨_, (by fail "sql"), rfl⟩, ?_⟩)
  | (refine ⟨_, _, rfl, Or.inr ⟨_, (by fail "sqt"), rfl⟩, ?_⟩)
  | (refine ⟨_, _, rfl, (by fail "sqt"), rfl, ?_⟩)
  | (refine ⟨_, _, rfl, (by fail "kd"), ?_⟩)
  | (refine ⟨_, _, rfl, (by fail "th"), ?_⟩)
  | (refine ⟨_, _, rfl, (by fail "sql"), ?_⟩)
  | (refine ⟨_, _, rfl, (by fail "sqt"), ?_⟩)
  | (refine ⟨(by fail "side"), ?_⟩)
  | (refine ⟨(by fail "pool"), ?_⟩)
  | (refine ⟨⟨_, (by fail "sqt")⟩, ?_⟩)
  | (refine ⟨⟨_, (by fail "sql")⟩, ?_⟩)
  | (refine ⟨_, _, rfl, ?_⟩)
  | (refine ⟨rfl, ?_⟩)
  | (refine ⟨_, _, _, _, _, rfl, L2.ClsV.ty _, Lw.Kd.ty (by fail "kd"), Lw.kit_k (by fail "kd") (by decide), ?_⟩))
namespace K10
open PySem PySem.Spec PyProof.Rows L2 Evl Lw
def topS (i : Nat) : Stmt := PySem.Challenge.pw_allscreens_k10_whole_tables_that_keep_co.main.body.getD i (.Pass ⟨0, 0, 0, 0⟩)
abbrev s_InvalidColour___init__ : Stmt := inClass (topS 2) 0
abbrev N_InvalidColour___init__ : List Str := ["self", "value"]
theorem sc_InvalidColour___init__ : FnScope N_InvalidColour___init__ ["self", "value"] (defScope s_InvalidColour___init__) := ⟨rfl, rfl, rfl, by decide +kernel, rfl, by decide +kernel, by decide +kernel⟩
abbrev s_InvalidPairs___init__ : Stmt := inClass (topS 3) 0
abbrev N_InvalidPairs___init__ : List Str := ["self", "value"]
theorem sc_InvalidPairs___init__ : FnScope N_InvalidPairs___init__ ["self", "value"] (defScope s_InvalidPairs___init__) := ⟨rfl, rfl, rfl, by decide +kernel, rfl, by decide +kernel, by decide +kernel⟩
abbrev s_is_integer : Stmt := topS 6
abbrev N_is_integer : List Str := ["value"]
theorem sc_is_integer : FnScope N_is_integer ["value"] (defScope s_is_integer) := ⟨rfl, rfl, rfl, by decide +kernel, rfl, by decide +kernel, by decide +kernel⟩
theorem b_is_integer : Lw.Bnd "is_integer" s_is_integer ["value"] := fun _ _ _ _ _ _ us hl => match us, hl with | [_], _ => rfl
abbrev s_is_between : Stmt := topS 7
abbrev N_is_between : List Str := ["value", "low", "high"]
theorem sc_is_between : FnScope N_is_between ["value", "low", "high"] (defScope s_is_between) := ⟨rfl, rfl, rfl, by decide +kernel, rfl, by decide +kernel, by decide +kernel⟩
theorem b_is_between : Lw.Bnd "is_between" s_is_between ["value", "low", "high"] := fun _ _ _ _ _ _ us hl => match us, hl with | [_, _, _], _ => rfl
abbrev s_is_colour : Stmt := topS 8
abbrev N_is_colour : List Str := ["value"]
theorem sc_is_colour : FnScope N_is_colour ["value"] (defScope s_is_colour) := ⟨rfl, rfl, rfl, by decide +kernel, rfl, by decide +kernel, by decide +kernel⟩
theorem b_is_colour : Lw.Bnd "is_colour" s_is_colour ["value"] := fun _ _ _ _ _ _ us hl => match us, hl with | [_], _ => rfl
abbrev s_check_colour : Stmt := topS 9
abbrev N_check_colour : List Str := ["value"]
theorem sc_check_colour : FnScope N_check_colour ["value"] (defScope s_check_colour) := ⟨rfl, rfl, rfl, by decide +kernel, rfl, by decide +kernel, by decide +kernel⟩
theorem b_check_colour : Lw.Bnd "check_colour" s_check_colour ["value"] := fun _ _ _ _ _ _ us hl => match us, hl with | [_], _ => rfl
abbrev s_is_pair : Stmt := topS 11
abbrev N_is_pair : List Str := ["value"]
theorem sc_is_pair : FnScope N_is_pair ["value"] (defScope s_is_pair) := ⟨rfl, rfl, rfl, by decide +kernel, rfl, by decide +kernel, by decide +kernel⟩
theorem b_is_pair : Lw.Bnd "is_pair" s_is_pair ["value"] := fun _ _ _ _ _ _ us hl => match us, hl with | [_], _ => rfl
abbrev s_is_pairs : Stmt := topS 12
abbrev N_is_pairs : List Str := ["value", "index", "pair"]
theorem sc_is_pairs : FnScope N_is_pairs ["value"] (defScope s_is_pairs) := ⟨rfl, rfl, rfl, by decide +kernel, rfl, by decide +kernel, by decide +kernel⟩
theorem b_is_pairs : Lw.Bnd "is_pairs" s_is_pairs ["value"] := fun _ _ _ _ _ _ us hl => match us, hl with | [_], _ => rfl
abbrev s_check_pairs : Stmt := topS 13
abbrev N_check_pairs : List Str := ["value"]
theorem sc_check_pairs : FnScope N_check_pairs ["value"] (defScope s_check_pairs) := ⟨rfl, rfl, rfl, by decide +kernel, rfl, by decide +kernel, by decide +kernel⟩
theorem b_check_pairs : Lw.Bnd "check_pairs" s_check_pairs ["value"] := fun _ _ _ _ _ _ us hl => match us, hl with | [_], _ => rfl
abbrev s_turned : Stmt := topS 14
abbrev N_turned : List Str := ["colour", "pairs"]
theorem sc_turned : FnScope N_turned ["colour", "pairs"] (defScope s_turned) := ⟨rfl, rfl, rfl, by decide +kernel, rfl, by decide +kernel, by decide +kernel⟩
theorem b_turned : Lw.Bnd "turned" s_turned ["colour", "pairs"] := fun _ _ _ _ _ _ us hl => match us, hl with | [_, _], _ => rfl
abbrev s_chained : Stmt := topS 15
abbrev N_chained : List Str := ["pairs", "other_pairs", "olds", "found", "old", "pair", "new"]
theorem sc_chained : FnScope N_chained ["pairs", "other_pairs"] (defScope s_chained) := ⟨rfl, rfl, rfl, by decide +kernel, rfl, by decide +kernel, by decide +kernel⟩
theorem b_chained : Lw.Bnd "chained" s_chained ["pairs", "other_pairs"] := fun _ _ _ _ _ _ us hl => match us, hl with | [_, _], _ => rfl
abbrev s_parts_all : Stmt := topS 16
abbrev N_parts_all : List Str := ["tables", "colour", "named", "seen", "told", "table", "pair"]
theorem sc_parts_all : FnScope N_parts_all ["tables"] (defScope s_parts_all) := ⟨rfl, rfl, rfl, by decide +kernel, rfl, by decide +kernel, by decide +kernel⟩
theorem b_parts_all : Lw.Bnd "parts_all" s_parts_all ["tables"] := fun _ _ _ _ _ _ us hl => match us, hl with | [_], _ => rfl
abbrev s_recoloured : Stmt := topS 17
abbrev N_recoloured : List Str := ["colour", "pairs"]
theorem sc_recoloured : FnScope N_recoloured ["colour", "pairs"] (defScope s_recoloured) := ⟨rfl, rfl, rfl, by decide +kernel, rfl, by decide +kernel, by decide +kernel⟩
theorem b_recoloured : Lw.Bnd "recoloured" s_recoloured ["colour", "pairs"] := fun _ _ _ _ _ _ us hl => match us, hl with | [_, _], _ => rfl
abbrev s_combined : Stmt := topS 18
abbrev N_combined : List Str := ["pairs", "other_pairs"]
theorem sc_combined : FnScope N_combined ["pairs", "other_pairs"] (defScope s_combined) := ⟨rfl, rfl, rfl, by decide +kernel, rfl, by decide +kernel, by decide +kernel⟩
theorem b_combined : Lw.Bnd "combined" s_combined ["pairs", "other_pairs"] := fun _ _ _ _ _ _ us hl => match us, hl with | [_, _], _ => rfl
abbrev s_keeps_apart : Stmt := topS 19
abbrev N_keeps_apart : List Str := ["tables", "table"]
theorem sc_keeps_apart : FnScope N_keeps_apart ["tables"] (defScope s_keeps_apart) := ⟨rfl, rfl, rfl, by decide +kernel, rfl, by decide +kernel, by decide +kernel⟩
abbrev s_law_cell : Stmt := topS 21
abbrev N_law_cell : List Str := ["_law_script", "_law_k", "_law_state_here", "_law_cell_here"]
theorem sc_law_cell : FnScope N_law_cell ["_law_script", "_law_k"] (defScope s_law_cell) := ⟨rfl, rfl, rfl, by decide +kernel, rfl, by decide +kernel, by decide +kernel⟩
theorem b_law_cell : Lw.Bnd "_law_cell" s_law_cell ["_law_script", "_law_k"] := fun _ _ _ _ _ _ us hl => match us, hl with | [_, _], _ => rfl
abbrev s_law_pool : Stmt := topS 22
abbrev N_law_pool : List Str := ["_law_cell_here", "_law_digits"]
theorem sc_law_pool : FnScope N_law_pool ["_law_cell_here"] (defScope s_law_pool) := ⟨rfl, rfl, rfl, by decide +kernel, rfl, by decide +kernel, by decide +kernel⟩
theorem b_law_pool : Lw.Bnd "_law_pool" s_law_pool ["_law_cell_here"] := fun _ _ _ _ _ _ us hl => match us, hl with | [_], _ => rfl
abbrev s_law_draw : Stmt := topS 23
abbrev N_law_draw : List Str := ["_law_pool_here", "_law_many", "_law_old", "_law_digit"]
theorem sc_law_draw : FnScope N_law_draw ["_law_pool_here", "_law_many"] (defScope s_law_draw) := ⟨rfl, rfl, rfl, by decide +kernel, rfl, by decide +kernel, by decide +kernel⟩
theorem b_law_draw : Lw.Bnd "_law_draw" s_law_draw ["_law_pool_here", "_law_many"] := fun _ _ _ _ _ _ us hl => match us, hl with | [_, _], _ => rfl
abbrev s_law_pairs : Stmt := topS 24
abbrev N_law_pairs : List Str := ["_law_pool_here", "_law_most", "_law_far", "_law_olds", "_law_k", "_law_old"]
theorem sc_law_pairs : FnScope N_law_pairs ["_law_pool_here", "_law_most", "_law_far"] (defScope s_law_pairs) := ⟨rfl, rfl, rfl, by decide +kernel, rfl, by decide +kernel, by decide +kernel⟩
theorem b_law_pairs : Lw.Bnd "_law_pairs" s_law_pairs ["_law_pool_here", "_law_most", "_law_far"] := fun _ _ _ _ _ _ us hl => match us, hl with | [_, _, _], _ => rfl
abbrev s_law_turned : Stmt := topS 25
abbrev N_law_turned : List Str := ["_law_hue", "_law_rows", "_law_old", "_law_new"]
theorem sc_law_turned : FnScope N_law_turned ["_law_hue", "_law_rows"] (defScope s_law_turned) := ⟨rfl, rfl, rfl, by decide +kernel, rfl, by decide +kernel, by decide +kernel⟩
theorem b_law_turned : Lw.Bnd "_law_turned" s_law_turned ["_law_hue", "_law_rows"] := fun _ _ _ _ _ _ us hl => match us, hl with | [_, _], _ => rfl
abbrev s_law_table : Stmt := topS 26
abbrev N_law_table : List Str := ["_law_pool_here", "_law_far", "_law_way", "_law_one", "_law_other", "_law_third"]
theorem sc_law_table : FnScope N_law_table ["_law_pool_here", "_law_far"] (defScope s_law_table) := ⟨rfl, rfl, rfl, by decide +kernel, rfl, by decide +kernel, by decide +kernel⟩
theorem b_law_table : Lw.Bnd "_law_table" s_law_table ["_law_pool_here", "_law_far"] := fun _ _ _ _ _ _ us hl => match us, hl with | [_, _], _ => rfl
abbrev s_law_due : Stmt := topS 27
abbrev N_law_due : List Str := ["_law_tables", "_law_named", "_law_table_here", "_law_seen", "_law_hue", "_law_told", "_law_pair", "_law_thing"]
theorem sc_law_due : FnScope N_law_due ["_law_tables"] (defScope s_law_due) := ⟨rfl, rfl, rfl, by decide +kernel, rfl, by decide +kernel, by decide +kernel⟩
theorem b_law_due : Lw.Bnd "_law_due" s_law_due ["_law_tables"] := fun _ _ _ _ _ _ us hl => match us, hl with | [_], _ => rfl
abbrev s_law_back : Stmt := topS 28
abbrev N_law_back : List Str := ["_law_table_here", "_law_old", "_law_new"]
theorem sc_law_back : FnScope N_law_back ["_law_table_here"] (defScope s_law_back) := ⟨rfl, rfl, rfl, by decide +kernel, rfl, by decide +kernel, by decide +kernel⟩
theorem b_law_back : Lw.Bnd "_law_back" s_law_back ["_law_table_here"] := fun _ _ _ _ _ _ us hl => match us, hl with | [_], _ => rfl
abbrev s_law_right : Stmt := topS 29
abbrev N_law_right : List Str := ["_law_pool_here", "_law_far", "_law_one", "_law_other", "_law_third", "_law_told", "_law_due_here", "_law_k"]
theorem sc_law_right : FnScope N_law_right ["_law_pool_here", "_law_far"] (defScope s_law_right) := ⟨rfl, rfl, rfl, by decide +kernel, rfl, by decide +kernel, by decide +kernel⟩
theorem b_law_right : Lw.Bnd "_law_right" s_law_right ["_law_pool_here", "_law_far"] := fun _ _ _ _ _ _ us hl => match us, hl with | [_, _], _ => rfl
abbrev s_law : Stmt := topS 30
abbrev N_law : List Str := ["_law_script", "_law_k", "_law_pool_here", "_law_turn"]
theorem sc_law : FnScope N_law ["_law_script"] (defScope s_law) := ⟨rfl, rfl, rfl, by decide +kernel, rfl, by decide +kernel, by decide +kernel⟩
theorem b_law : Lw.Bnd "law" s_law ["_law_script"] := fun _ _ _ _ _ _ us hl => match us, hl with | [_], _ => rfl
theorem bt_ValueError : bootBuiltins "ValueError" = some (.type "ValueError") := by decide +kernel
theorem bt_abs : bootBuiltins "abs" = some (.builtin "abs") := by decide +kernel
theorem bt_all : bootBuiltins "all" = some (.builtin "all") := by decide +kernel
theorem bt_bool : bootBuiltins "bool" = some (.type "bool") := by decide +kernel
theorem bt_dict : bootBuiltins "dict" = some (.type "dict") := by decide +kernel
theorem bt_divmod : bootBuiltins "divmod" = some (.builtin "divmod") := by decide +kernel
theorem bt_int : bootBuiltins "int" = some (.type "int") := by decide +kernel
theorem bt_isinstance : bootBuiltins "isinstance" = some (.builtin "isinstance") := by decide +kernel
theorem bt_len : bootBuiltins "len" = some (.builtin "len") := by decide +kernel
theorem bt_max : bootBuiltins "max" = some (.builtin "max") := by decide +kernel
theorem bt_min : bootBuiltins "min" = some (.builtin "min") := by decide +kernel
theorem bt_range : bootBuiltins "range" = some (.type "range") := by decide +kernel
theorem bt_repr : bootBuiltins "repr" = some (.builtin "repr") := by decide +kernel
theorem bt_sorted : bootBuiltins "sorted" = some (.builtin "sorted") := by decide +kernel
theorem bt_tuple : bootBuiltins "tuple" = some (.type "tuple") := by decide +kernel
/-- what stands behind the top -/
structure Txt (K : PySem.W.Frag) (mg : Str → Option Value) : Prop where
  d_is_integer : Lw.DefAt K mg "is_integer" s_is_integer
  d_is_between : Lw.DefAt K mg "is_between" s_is_between
  d_is_colour : Lw.DefAt K mg "is_colour" s_is_colour
  d_check_colour : Lw.DefAt K mg "check_colour" s_check_colour
  d_is_pair : Lw.DefAt K mg "is_pair" s_is_pair
  d_is_pairs : Lw.DefAt K mg "is_pairs" s_is_pairs
  d_check_pairs : Lw.DefAt K mg "check_pairs" s_check_pairs
  d_turned : Lw.DefAt K mg "turned" s_turned
  d_chained : Lw.DefAt K mg "chained" s_chained
  d_parts_all : Lw.DefAt K mg "parts_all" s_parts_all
  d_recoloured : Lw.DefAt K mg "recoloured" s_recoloured
  d_combined : Lw.DefAt K mg "combined" s_combined
  d_keeps_apart : Lw.DefAt K mg "keeps_apart" s_keeps_apart
  d_law_cell : Lw.DefAt K mg "_law_cell" s_law_cell
  d_law_pool : Lw.DefAt K mg "_law_pool" s_law_pool
  d_law_draw : Lw.DefAt K mg "_law_draw" s_law_draw
  d_law_pairs : Lw.DefAt K mg "_law_pairs" s_law_pairs
  d_law_turned : Lw.DefAt K mg "_law_turned" s_law_turned
  d_law_table : Lw.DefAt K mg "_law_table" s_law_table
  d_law_due : Lw.DefAt K mg "_law_due" s_law_due
  d_law_back : Lw.DefAt K mg "_law_back" s_law_back
  d_law_right : Lw.DefAt K mg "_law_right" s_law_right
  d_law : Lw.DefAt K mg "law" s_law
  b_ValueError : mg "ValueError" = none
  b_abs : mg "abs" = none
  b_all : mg "all" = none
  b_bool : mg "bool" = none
  b_dict : mg "dict" = none
  b_divmod : mg "divmod" = none
  b_int : mg "int" = none
  b_isinstance : mg "isinstance" = none
  b_len : mg "len" = none
  b_max : mg "max" = none
  b_min : mg "min" = none
  b_range : mg "range" = none
  b_repr : mg "repr" = none
  b_sorted : mg "sorted" = none
  b_tuple : mg "tuple" = none
  g_MOST_COLOUR : ∃ u, mg "MOST_COLOUR" = some u ∧ RelV (.int 1000000000) u

end K10
namespace K10
open PySem PySem.Spec PyProof.Rows L2 Evl Lw
section
variable {P : Program} {w : World} {K : PySem.W.Frag} {mg : Str → Option Value} {base : Heap}
theorem c_law_draw (T : Txt K mg) : Cl P w K mg base CX0 1 "_law_draw" s_law_draw ["_law_pool_here", "_law_many"] spDraw := by
  refine Cl.pool (cl_of (sp := spDraw1) (k := 0) T.d_law_draw sc_law_draw (fun vs H Q E h => ?_) (fun f cdv A outer s H vs Q E hr h => ?_)) spDraw_of
  · obtain ⟨p, m, a, b, c, rfl, _⟩ := h
    rfl
  · obtain ⟨p, m, a, b, c, rfl, hp, h0, h1, q⟩ := h
    have nd := sc_law_draw.nd
    refine ⟨_, (pss_cons (ps_asg (pe_op op_add (pe_ix ix_seq (pv 0) pe_int (fun _ _ => rfl)) pe_int) (pg_sub (pv 0) pe_int set_list))
      (pss_cons (ps_set (i := 2) nd rfl (Or.inl rfl) (pe_ix ix_seq (pv 0) pe_int (fun _ _ => rfl)))
      (pss_cons (ps_asg (pe_op op_mod (pe_op op_add (pe_op op_add (pe_op op_mul (pv 2) (pe_op op_add (pe_op op_mod (pv 2) pe_int) pe_int)) (pe_op op_mul pe_int (pe_ix ix_seq (pv 0) pe_int (fun _ _ => rfl)))) pe_int) pe_int) (pg_sub (pv 0) pe_int set_list))
      (pss_cons (ps_if (pt_cmpR op_gt (pe_ix ix_seq (pv 0) pe_int (fun _ _ => rfl)) pe_int (nomark _)) (pss_cons (ps_asg (pe_callB (call_divmodW) (by rfl) T.b_divmod bt_divmod (pa_cons (pe_ix ix_seq (pv 0) pe_int (fun _ _ => rfl)) (pa_cons (pv 1) pa_nil))) (pg_tup rfl (pgs_cons (pg_sub (pv 0) pe_int set_list) (pgs_cons (pg_name (i := 3) nd rfl (Or.inl rfl)) pgs_nil))))
      (pss_one (ps_ret (pv 3)))) pss_nil)
      (pss_one (ps_ret (pe_op op_mod (pe_op op_fdiv (pe_ix ix_seq (pv 0) pe_int (fun _ _ => rfl)) pe_int) (pv 1)))))))), ?_⟩
    repeat fail "st"
    refine ifD (fun hb => ?_) (fun hb => ?_)
    · repeat fail "st"
      refine ⟨cdivp h0 h1, fun t ht => ?_⟩
      have np : p ≠ t := ne_of_none upd_same ht
      repeat fail "st"
      exact q _ _ _ _ _ (But.mut (But.new (But.mut (But.mut But.refl)) ht)) upd_same (Int.emod_nonneg _ (by omega)) (Int.emod_lt_of_pos _ h0)
    · repeat fail "st"
      exact q _ _ _ _ _ (But.mut (But.mut But.refl)) upd_same (Int.emod_nonneg _ (by omega)) (Int.emod_lt_of_pos _ h0)
theorem c_law_pool (T : Txt K mg) : Cl P w K mg base CX0 1 "_law_pool" s_law_pool ["_law_cell_here"] spPool := by
  refine Cl.newpool (cl_of (sp := spPool1) (k := 0) T.d_law_pool sc_law_pool (fun vs H Q E h => ?_) (fun f cdv A outer s H vs Q E hr h => ?_)) spPool_of
  · obtain ⟨i, rfl, _⟩ := h
    rfl
  · obtain ⟨i, rfl, q⟩ := h
    have nd := sc_law_pool.nd
    refine ⟨_, (pss_cons (ps_set (i := 1) nd rfl (Or.inl rfl) (pe_ifExp (PW.pt (pw_or (pt_cmpR op_lt (pv 0) pe_int (nomark _)) (pw_or1 (pt_cmpR op_ge (pv 0) (pe_op op_pow pe_int pe_int) (nomark _))))) (pe_callB (call_abs) (by rfl) T.b_abs bt_abs (pa_cons (pv 0) pa_nil)) pe_int))
      (pss_one (ps_ret (pe_lst (pa_cons (pe_op op_mod (pv 0) pe_int) (pa_cons (pv 1) (pa_cons pe_int pa_nil))))))), ?_⟩
    repeat fail "st"
    refine ifD (fun hb => ?_) (fun hb => ?_)
    · repeat fail "st"
      refine iteT (B := True) ?_
      repeat fail "st"
      exact fun t ht => q t _ _ _ _ ht upd_same (Ex.new ht)
    · repeat fail "st"
      refine ifD (fun hb => ?_) (fun hb => ?_)
      · repeat fail "st"

        exact fun t ht => q t _ _ _ _ ht upd_same (Ex.new ht)
      · repeat fail "st"
        exact fun t ht => q t _ _ _ _ ht upd_same (Ex.new ht)
theorem c_law_cell (T : Txt K mg) : Cl P w K mg base CX0 1 "_law_cell" s_law_cell ["_law_script", "_law_k"] (Lw.spCell K) := by
  refine cl_of (k := 0) T.d_law_cell sc_law_cell (fun vs H Q E h => ?_) (fun f cdv A outer s H vs Q E hr h => ?_)
  · obtain ⟨a, ns, i, rfl, _⟩ := h
    rfl
  · obtain ⟨a, ns, i, rfl, hS, hl, h0, h1, q⟩ := h
    have nd := sc_law_cell.nd
    refine ⟨_, (pss_cons (ps_if (pt_cmpR op_lt (pv 1) (pe_callB (call_len) (by rfl) T.b_len bt_len (pa_cons (pv 0) pa_nil)) (nomark _)) (pss_one (ps_ret (pe_ix ix_seq (pv 0) (pv 1) (fun _ _ => rfl)))) pss_nil)
      (pss_cons (ps_set (i := 2) nd rfl (Or.inl rfl) (pe_op op_mod (pe_op op_mul pe_int (pe_op op_add (pe_op op_add (pe_op op_mul (pv 1) (pv 1)) (pe_op op_mul pe_int (pv 1))) pe_int)) pe_int))
      (pss_cons (ps_for PassesOwn.never rfl (pi_list (pe_slice sl_list (pv 0) po_none (po_some pe_int))) (pg_name (i := 3) nd rfl (Or.inl rfl)) (pss_one (ps_set (i := 2) nd rfl (Or.inl rfl) (pe_op op_mod (pe_op op_add (pe_op op_mul (pv 2) pe_int) (pv 3)) pe_int))))
      (pss_one (ps_ret (pv 2)))))), ?_⟩
    repeat fail "st"
    refine ifD (fun hb => ?_) (fun hb => ?_)
    · rw [List.length_map] at hb
      obtain ⟨j, rfl⟩ := Int.eq_ofNat_of_zero_le h0
      have hj : j < ns.length := by omega
      have ga : atI (ns.map V.int) (j : Int) = some (.int ns[j]) := atI_nat (by rw [List.getElem?_map, List.getElem?_eq_getElem hj]; rfl)
      repeat fail "st"
      exact q _ _ (Ex.refl H)
    · repeat fail "st"
      intro c nc
      refine ⟨_, rfl, ⟨_, SqL.of upd_same⟩, ?_⟩
      refine for_list (xs := cutV (ns.map V.int) none (some 3)) (fun _ σ H' => ∃ (z : Int) (y : Option V), σ = [some (.ref a), some (.int i), some (.int z), y] ∧ H' = upd H c (.lst (cutV (ns.map V.int) none (some 3)))) ⟨_, _, rfl, rfl⟩ ?_ ?_ ?_
      · rintro _ _ _ _ ⟨z, y, rfl, rfl⟩
        exact SqL.of upd_same
      · rintro _ x _ _ hx ⟨z, y, rfl, rfl⟩
        obtain ⟨n, rfl⟩ := cut_int hx
        repeat fail "st"
        rfl
      · rintro _ _ ⟨z, y, rfl, rfl⟩
        repeat fail "st"
        exact q _ _ (Ex.new nc)
end

end K10
namespace K10
open PySem PySem.Spec PyProof.Rows L2 Evl Lw
section
variable {P : Program} {w : World} {K : PySem.W.Frag} {mg : Str → Option Value} {base : Heap}
theorem c_is_integer (T : Txt K mg) : Cl P w K mg base CX0 1 "is_integer" s_is_integer ["value"] spInteger := by
  refine cl_of (k := 0) T.d_is_integer sc_is_integer (fun vs H Q E h => ?_) (fun f cdv A outer s H vs Q E hr h => ?_)
  · obtain ⟨v, n, rfl, _⟩ := h
    rfl
  · obtain ⟨v, n, rfl, k, q⟩ := h
    have nd := sc_is_integer.nd
    refine ⟨_, (pss_one (ps_ret (pe_and (pe_callB (call_isi) (by rfl) T.b_isinstance bt_isinstance (pa_cons (pv 0) (pa_cons (pe_bltn (v := .ty "int") (by rfl) T.b_int bt_int rfl) pa_nil))) (pe_one (pe_not (pe_callB (call_isi) (by rfl) T.b_isinstance bt_isinstance (pa_cons (pv 0) (pa_cons (pe_bltn (v := .ty "bool") (by rfl) T.b_bool bt_bool rfl) pa_nil)))))))), ?_⟩
    repeat fail "st"
    refine ifB (fun h => ?_) (fun h => ?_)
    · repeat fail "st"
      rw [int_yes k h] at q
      exact q
    · rw [int_no h] at q
      exact q
theorem c_is_between (T : Txt K mg) : Cl P w K mg base CX0 2 "is_between" s_is_between ["value", "low", "high"] spBetween := by
  refine cl_of (k := 1) T.d_is_between sc_is_between (fun vs H Q E h => ?_) (fun f cdv A outer s H vs Q E hr h => ?_)
  · obtain ⟨v, lo, hi, n, rfl, _⟩ := h
    rfl
  · obtain ⟨v, lo, hi, n, rfl, k, q⟩ := h
    have nd := sc_is_between.nd
    refine ⟨_, (pss_one (ps_ret (pe_and (Lw.pe_cl (c_is_integer T) b_is_integer hr (by decide) (by rfl) pass0 (pa_cons (pv 0) pa_nil)) (pe_one (pe_chain op_le op_le (pv 1) (pv 0) (pv 2)))))), ?_⟩
    repeat fail "st"
    refine ifB (fun h => ?_) (fun h => ?_)
    · obtain ⟨i, rfl⟩ := k.of_int h
      repeat fail "st"
      refine ifD (fun h1 => ?_) (fun h1 => ?_)
      · repeat fail "st"
        rw [inB, decide_eq_true h1] at q
        exact q
      · rw [inB, decide_eq_false h1] at q
        exact q
    · rw [inB_no k h] at q
      exact q
def spColour : Sp := fun vs H Q _ => ∃ v n, vs = [v] ∧ Kd H v n ∧ Q (.bl (Lw.inB 0 1000000000 v)) H
theorem c_is_colour (T : Txt K mg) : Cl P w K mg base CX0 3 "is_colour" s_is_colour ["value"] spColour := by
  refine cl_of (k := 2) T.d_is_colour sc_is_colour (fun vs H Q E h => ?_) (fun f cdv A outer s H vs Q E hr h => ?_)
  · obtain ⟨v, n, rfl, _⟩ := h
    rfl
  · obtain ⟨v, n, rfl, k, q⟩ := h
    have nd := sc_is_colour.nd
    refine ⟨_, (pss_one (ps_ret (Lw.pe_cl (c_is_between T) b_is_between hr (by decide) (by rfl) pass0 (pa_cons (pv 0) (pa_cons pe_int (pa_cons (C8.pe_gc (by rfl) T.g_MOST_COLOUR) pa_nil)))))), ?_⟩
    repeat fail "st"
    exact q
theorem inB_col {c : Int} (h : Col c) : Lw.inB 0 1000000000 (.int c) = true := by
  show (decide (0 ≤ c) && decide (c ≤ 1000000000)) = true
  rw [decide_eq_true h.1, decide_eq_true h.2]; rfl
def spCkC : Sp := fun vs H Q _ => ∃ c, Col c ∧ vs = [.int c] ∧ Q .non H
theorem c_check_colour (T : Txt K mg) : Cl P w K mg base CX0 4 "check_colour" s_check_colour ["value"] spCkC := by
  refine cl_of (k := 3) T.d_check_colour sc_check_colour (fun vs H Q E h => ?_) (fun f cdv A outer s H vs Q E hr h => ?_)
  · obtain ⟨c, _, rfl, _⟩ := h
    rfl
  · obtain ⟨c, hc, rfl, q⟩ := h
    have nd := sc_check_colour.nd
    refine ⟨_, (pss_one (ps_if (pt_not (pt_val (Lw.pe_cl (c_is_colour T) b_is_colour hr (by decide) (by rfl) pass0 (pa_cons (pv 0) pa_nil)))) (pss_one Lw.ps_dead) pss_nil)), ?_⟩
    repeat fail "st"
    rw [inB_col hc]
    repeat fail "st"
    exact q
def spPair : Sp := fun vs H Q _ => ∃ r p, vs = [.ref r] ∧ RowAt H r p ∧ Col p.1 ∧ Col p.2 ∧ Q (.bl true) H
theorem c_is_pair (T : Txt K mg) : Cl P w K mg base CX0 4 "is_pair" s_is_pair ["value"] spPair := by
  refine cl_of (k := 3) T.d_is_pair sc_is_pair (fun vs H Q E h => ?_) (fun f cdv A outer s H vs Q E hr h => ?_)
  · obtain ⟨r, p, rfl, _⟩ := h
    rfl
  · obtain ⟨r, p, rfl, hp, h1, h2, q⟩ := h
    have nd := sc_is_pair.nd
    replace hp : H r = some (.tup [.int p.1, .int p.2]) := hp
    refine ⟨_, (pss_one (ps_ret (pe_and (pe_callB (call_isi) (by rfl) T.b_isinstance bt_isinstance (pa_cons (pv 0) (pa_cons (pe_bltn (v := .ty "tuple") (by rfl) T.b_tuple bt_tuple rfl) pa_nil))) (pe_and (pe_cmpR op_eq (pe_callB (call_len) (by rfl) T.b_len bt_len (pa_cons (pv 0) pa_nil)) pe_int (nomark _)) (pe_and (Lw.pe_cl (c_is_colour T) b_is_colour hr (by decide) (by rfl) pass0 (pa_cons (pe_ix ix_seq (pv 0) pe_int (fun _ _ => rfl)) pa_nil)) (pe_one (Lw.pe_cl (c_is_colour T) b_is_colour hr (by decide) (by rfl) pass0 (pa_cons (pe_ix ix_seq (pv 0) pe_int (fun _ _ => rfl)) pa_nil)))))))), ?_⟩
    repeat fail "st"
    rw [if_pos (inB_col h1)]
    repeat fail "st"
    rw [inB_col h2]
    exact q
def spPairs (r : V) : Sp := fun vs H Q _ => ∃ v ps, Tab H v ps ∧ vs = [v] ∧ Good ps ∧ ∀ H', Ex H H' → Q r H'
theorem c_is_pairs (T : Txt K mg) : Cl P w K mg base CX0 5 "is_pairs" s_is_pairs ["value"] (spPairs (.bl true)) := by
  refine cl_of (k := 4) T.d_is_pairs sc_is_pairs (fun vs H Q E h => ?_) (fun f cdv A outer s H vs Q E hr h => ?_)
  · obtain ⟨r, p, _, rfl, _⟩ := h
    rfl
  · obtain ⟨v, ps, ⟨a, qs, rfl, ht, hr0⟩, rfl, hg, q⟩ := h
    have nd := sc_is_pairs.nd
    have ⟨o, hd, ho⟩ := ht
    have ll := hr0.len
    refine ⟨_, (pss_cons (ps_if (PW.pt (pw_or (pt_not (pt_val (pe_callB (call_isi) (by rfl) T.b_isinstance bt_isinstance (pa_cons (pv 0) (pa_cons (pe_bltn (v := .ty "tuple") (by rfl) T.b_tuple bt_tuple rfl) pa_nil))))) (pw_or1 (pt_not (pt_val (pe_callB (cr_all rfl) (by rfl) T.b_all bt_all (pa_cons (pe_lc (own := [("pair", 2)]) (g := gName 2) (tt := tYes) rfl nd (pi_tup (pv 0)) (L2.blkOk_by (N := N_is_pairs) (sc := defScope s_is_pairs) (by decide +kernel)) (fun _ _ _ _ _ => (pg_name (i := 2) nd rfl (Or.inl rfl))) (fun _ _ _ _ _ => pts_nil) (fun _ _ _ _ _ => (Lw.pe_cl (c_is_pair T) b_is_pair hr (by decide) (by rfl) pass0 (pa_cons (pv 2) pa_nil)))) pa_nil))))))) (pss_one (ps_ret pe_bl)) pss_nil)
      (pss_one (ps_ret (pe_callB (cr_all rfl) (by rfl) T.b_all bt_all (pa_cons (pe_lc (own := [("index", 1)]) (g := gName 1) (tt := tYes) rfl nd (pi_range1 (by rfl) T.b_range (pa_cons (pe_op op_sub (pe_callB (call_len) (by rfl) T.b_len bt_len (pa_cons (pv 0) pa_nil)) pe_int) pa_nil)) (L2.blkOk_by (N := N_is_pairs) (sc := defScope s_is_pairs) (by decide +kernel)) (fun _ _ _ _ _ => (pg_name (i := 1) nd rfl (Or.inl rfl))) (fun _ _ _ _ _ => pts_nil) (fun _ _ _ _ _ => (pe_cmpR op_lt (pe_ix (ix_seq : IxR _ (rIx K)) (pe_ix (ix_seq : IxR _ (rIx K)) (pv 0) (pv 1) (fun _ _ => rfl)) pe_int (fun _ _ => rfl)) (pe_ix (ix_seq : IxR _ (rIx K)) (pe_ix (ix_seq : IxR _ (rIx K)) (pv 0) (pe_op op_add (pv 1) pe_int) (fun _ _ => rfl)) pe_int (fun _ _ => rfl)) (nomark _)))) pa_nil))))), ?_⟩
    repeat fail "st"
    intro D hD
    refine lcT (All fun _ v _ => v = V.bl true) (all_mono fun _ _ _ _ _ h => h) hD ht.sq (by rw [List.length_map, ll]; exact Nat.le_trans hg.len (by decide)) (fun i x hi H' e Q1 Q2 q1 q2 => ?_) (fun H1 os e1 hl1 hD1 hp1 => ?_)
    · obtain ⟨r, p, rfl, _, hp, ra⟩ := rows_at' hr0 hi
      have hc := hg.col p (List.mem_of_getElem? hp)
      repeat fail "st"
      refine ⟨_, _, rfl, e _ _ ra, hc.1, hc.2, ?_⟩
      exact q1 _ _ (Ex.refl _) ⟨_, rfl, rfl⟩
    · obtain ⟨ys, ey, ly, hy⟩ := All.end hp1
      rw [ey] at hD1
      obtain ⟨bs, eb, hb⟩ := all_true (ys := ys) (fun y hy1 => by
        obtain ⟨i, hi, e⟩ := List.getElem_of_mem hy1
        exact hy i y (by rw [List.getElem?_eq_getElem hi, e]))
      subst eb
      refine ⟨_, _, rfl, SqL.of hD1, ?_⟩
      rw [hb]
      repeat fail "st"
      have hlen := hg.len
      refine ⟨by rw [List.length_map, ll]; omega, ?_⟩
      intro D2 hD2
      have ht1 := ht.up e1
      have hr1 := hr0.up e1
      refine lcR (All fun _ v _ => v = V.bl true) (all_mono fun _ _ _ _ _ h => h) hD2 (by rw [List.length_map, ll]; omega) (fun i hi H' e Q1 Q2 q1 q2 => ?_) (fun H2 os e2 hl2 hD2 hp2 => ?_)
      · rw [List.length_map, ll] at hi
        have li : i < ps.length := by omega
        have lj : i + 1 < ps.length := by omega
        obtain ⟨r1, g1, a1⟩ := rows_ref (hr1.up e) li
        obtain ⟨r2, g2, a2⟩ := rows_ref (hr1.up e) lj
        repeat fail "st"
        show rIx K _ _ _ _
        have sq := (ht1.up e).sq (K := K)
        have ei : (0 + (i : Int)) = ((i : Nat) : Int) := by omega
        have ei2 : (0 + (i : Int)) + 1 = ((i + 1 : Nat) : Int) := by omega
        refine ixT_at (K := K) (H := H') (p := a) sq ei g1 ?_
        repeat fail "st"
        show rIx K _ _ _ _
        refine ixT_at (K := K) (H := H') (p := a) sq ei2 g2 ?_
        repeat fail "st"
        refine q1 _ _ (Ex.refl _) ⟨_, rfl, congrArg V.bl (decide_eq_true (hg.at li lj (by omega)))⟩
      · obtain ⟨ys, ey, ly, hy⟩ := All.end hp2
        rw [ey] at hD2
        obtain ⟨bs2, eb, hb2⟩ := all_true (ys := ys) (fun y hy1 => by
          obtain ⟨i, hi, e⟩ := List.getElem_of_mem hy1
          exact hy i y (by rw [List.getElem?_eq_getElem hi, e]))
        subst eb
        refine ⟨_, _, rfl, SqL.of hD2, ?_⟩
        rw [hb2]
        exact q _ (e1.trans e2)
theorem c_check_pairs (T : Txt K mg) : Cl P w K mg base CX0 6 "check_pairs" s_check_pairs ["value"] (spPairs .non) := by
  refine cl_of (k := 5) T.d_check_pairs sc_check_pairs (fun vs H Q E h => ?_) (fun f cdv A outer s H vs Q E hr h => ?_)
  · obtain ⟨r, p, _, rfl, _⟩ := h
    rfl
  · obtain ⟨v, ps, ht, rfl, hg, q⟩ := h
    have nd := sc_check_pairs.nd
    refine ⟨_, (pss_one (ps_if (pt_not (pt_val (Lw.pe_cl (c_is_pairs T) b_is_pairs hr (by decide) (by rfl) pass0 (pa_cons (pv 0) pa_nil)))) (pss_one Lw.ps_dead) pss_nil)), ?_⟩
    repeat fail "st"
    refine ⟨_, _, ht, rfl, hg, fun H' e => ?_⟩
    repeat fail "st"
    exact q _ e
def spTurned : Sp := fun vs H Q _ => ∃ c v ps, Tab H v ps ∧ vs = [.int c, v] ∧ Good ps ∧ ∀ H', Ex H H' → Q (.int (look ps c)) H'
theorem c_turned (T : Txt K mg) : Cl P w K mg base CX0 1 "turned" s_turned ["colour", "pairs"] spTurned := by
  refine cl_of (k := 0) T.d_turned sc_turned (fun vs H Q E h => ?_) (fun f cdv A outer s H vs Q E hr h => ?_)
  · obtain ⟨c, v, ps, _, rfl, _⟩ := h
    rfl
  · obtain ⟨c, v, ps, ⟨a, qs, rfl, ht, hr0⟩, rfl, hg, q⟩ := h
    have nd := sc_turned.nd
    refine ⟨_, (pss_one (ps_ret (pe_dget2 (Lw.u1 hr.units) (pe_callTy (Lw.cr_dictT rfl) (by rfl) T.b_dict bt_dict (pa_cons (pv 1) pa_nil)) (pv 0) (pv 0) ⟨rfl, rfl, rfl, rfl⟩))), ?_⟩
    repeat fail "st"
    refine ⟨_, _, _, rfl, ht, hr0, ?_⟩
    intro d n_d
    generalize hh : upd _ d _ = H_d
    have e_d := newEx hh n_d
    have h_d := newAt hh
    clear hh
    have md : H_d d = some (.dK (kvI ps)) := by
      have e : mergeK [] (kvI ps) = kvI ps := merge_asc (κ := Unit) (acc := []) hg.ne
      rw [h_d, e]
    refine ⟨_, rfl, .inl ⟨_, .inl md⟩, ?_⟩
    repeat fail "st"
    refine ⟨_, .inl ⟨_, .inl c, .inl md, rfl, rfl⟩, ?_⟩
    rw [val_look]
    exact q _ e_d
def spRec : Sp := fun vs H Q _ => ∃ c v ps, Tab H v ps ∧ vs = [.int c, v] ∧ Col c ∧ Good ps ∧ ∀ H', Ex H H' → Q (.int (look ps c)) H'
theorem c_recoloured (T : Txt K mg) : Cl P w K mg base CX0 7 "recoloured" s_recoloured ["colour", "pairs"] spRec := by
  refine cl_of (k := 6) T.d_recoloured sc_recoloured (fun vs H Q E h => ?_) (fun f cdv A outer s H vs Q E hr h => ?_)
  · obtain ⟨c, v, ps, _, rfl, _⟩ := h
    rfl
  · obtain ⟨c, v, ps, ht, rfl, hc, hg, q⟩ := h
    have nd := sc_recoloured.nd
    refine ⟨_, (pss_cons (ps_expr (Lw.pe_cl (c_check_colour T) b_check_colour hr (by decide) (by rfl) pass0 (pa_cons (pv 0) pa_nil)))
      (pss_cons (ps_expr (Lw.pe_cl (c_check_pairs T) b_check_pairs hr (by decide) (by rfl) pass0 (pa_cons (pv 1) pa_nil)))
      (pss_one (ps_ret (Lw.pe_cl (c_turned T) b_turned hr (by decide) (by rfl) pass0 (pa_cons (pv 0) (pa_cons (pv 1) pa_nil))))))), ?_⟩
    repeat fail "st"
    refine ⟨_, hc, rfl, ?_⟩
    repeat fail "st"
    refine ⟨_, _, ht, rfl, hg, fun H1 e1 => ?_⟩
    repeat fail "st"
    refine ⟨_, _, _, ht.up e1, rfl, hg, fun H2 e2 => ?_⟩
    exact q _ (e1.trans e2)
def spChain : Sp := fun vs H Q _ => ∃ v u ps rs, Tab H v ps ∧ Tab H u rs ∧ vs = [v, u] ∧ Good ps ∧ Good rs ∧ ps.length + rs.length ≤ 60 ∧ ∀ x ts H', Ex H H' → Tab H' x ts → IsChain ps rs ts → Q x H'
theorem c_chained (T : Txt K mg) : Cl P w K mg base CX0 2 "chained" s_chained ["pairs", "other_pairs"] spChain := by
  refine cl_of (k := 1) T.d_chained sc_chained (fun vs H Q E h => ?_) (fun f cdv A outer s H vs Q E hr h => ?_)
  · obtain ⟨v, u, ps, rs, _, _, rfl, _⟩ := h
    rfl
  · obtain ⟨v, u, ps, rs, ⟨a, qs, rfl, ta, ra⟩, ⟨b, qs', rfl, tb, rb⟩, rfl, ga, gb, hl, q⟩ := h
    have nd := sc_chained.nd
    refine ⟨_, (pss_cons (ps_set (i := 2) nd rfl (Or.inl rfl) (pe_callB (cr_sortedSet rfl) (by rfl) T.b_sorted bt_sorted (pa_cons (Lw.pe_scI (own := [("pair", 5)]) (g := gName 5) (tt := tYes) rfl nd (pi_tup (pe_op op_catA (pv 0) (pv 1))) (L2.blkOk_by (N := N_chained) (sc := defScope s_chained) (by decide +kernel)) (fun _ _ _ _ _ => (pg_name (i := 5) nd rfl (Or.inl rfl))) (fun _ _ _ _ _ => pts_nil) (fun _ _ _ _ _ => (pe_ix (ix_seq : IxR _ (rIx K)) (pv 5) pe_int (fun _ _ => rfl)))) pa_nil)))
      (pss_cons (ps_setLc (own := [("old", 4)]) (g := gName 4) (tt := tYes) (i := 3) rfl nd rfl rfl (sw_true rfl rfl rfl (by decide +kernel)) (pi_list (pv 2)) (L2.blkOk_by (N := N_chained) (sc := defScope s_chained) (by decide +kernel)) (fun _ _ _ _ _ => (pg_name (i := 4) nd rfl (Or.inl rfl))) (fun _ _ _ _ _ => pts_nil) (fun _ _ _ _ _ => (pe_tup (pa_cons (pv 4) (pa_cons (Lw.pe_cl (c_turned T) b_turned hr (by decide) (by rfl) pass0 (pa_cons (Lw.pe_cl (c_turned T) b_turned hr (by decide) (by rfl) pass0 (pa_cons (pv 4) (pa_cons (pv 0) pa_nil))) (pa_cons (pv 1) pa_nil))) pa_nil)))))
      (pss_one (ps_ret (pe_callTy (Lw.cr_tupF) (by rfl) T.b_tuple bt_tuple (pa_cons (pe_lc (own := [("old", 4), ("new", 6)]) (g := gTup K 2 (gCons (gName 4) (gCons (gName 6) (gNil)))) rfl nd (pi_list (pv 3)) (L2.blkOk_by (N := N_chained) (sc := defScope s_chained) (by decide +kernel)) (fun _ _ _ _ _ => (pg_tup rfl (pgs_cons (pg_name (i := 4) nd rfl (Or.inl rfl)) (pgs_cons (pg_name (i := 6) nd rfl (Or.inl rfl)) pgs_nil)))) (fun _ _ _ _ _ => (pts_one (pt_cmpR op_ne (pv 4) (pv 6) (nomark _)))) (fun _ _ _ _ _ => (pe_tup (pa_cons (pv 4) (pa_cons (pv 6) pa_nil))))) pa_nil)))))), ?_⟩
    have l1 := ra.len
    have l2 := rb.len
    repeat fail "st"
    refine catT ta.sq tb.sq (by rw [List.length_map, List.length_map, l1, l2]; omega) fun c H0 e0 hc => ?_
    rw [← List.map_append] at hc
    have rc := (ra.app rb).up e0
    repeat fail "st"
    intro D hD
    refine scT (fun v => (kOf H0 v).1) hD hc (by rw [List.length_map, rc.len, List.length_append]; omega) (fun i x hi H' e Q1 q1 => ?_) (fun H1 S n e1 hS hk hn => ?_)
    · obtain ⟨r, p, rfl, _, hp, rp⟩ := rows_at' rc hi
      have rp' := rp.up e
      repeat fail "st"
      have z := q1 H' (Ex.refl _)
      rw [kOf_row rp] at z
      exact z
    · rw [List.length_map, rc.len, List.length_append] at hn
      refine ⟨_, _, _, rfl, hS, by omega, fun ns d hs hm hln hd => ?_⟩
      have mem : ∀ k, k ∈ ns ↔ ∃ p ∈ ps ++ rs, p.1 = k := fun k => by
        rw [hm, hk, rows_get rc]
        constructor
        · rintro ⟨x, m, e⟩
          obtain ⟨y, m', rfl⟩ := List.mem_map.mp m
          exact ⟨_, List.mem_map.mpr ⟨y, m', rfl⟩, e⟩
        · rintro ⟨x, m, e⟩
          obtain ⟨y, m', rfl⟩ := List.mem_map.mp m
          exact ⟨_, List.mem_map.mpr ⟨y, m', rfl⟩, e⟩
      have ch := chain_mk (ps := ps) (rs := rs) hs mem (by omega)
      generalize hh : upd H1 d _ = H2
      have e2 := newEx hh hd
      have h2 := newAt hh
      clear hh
      have ta2 := (ta.up e0).up (e1.trans e2)
      have tb2 := (tb.up e0).up (e1.trans e2)
      have ra2 := (ra.up e0).up (e1.trans e2)
      have rb2 := (rb.up e0).up (e1.trans e2)
      have ln : ns.length ≤ 60 := by omega
      clear hS hln mem hm hk rc hc ta tb
      repeat fail "st"
      intro D3 hD3
      refine lcL (All fun i v H => ∃ q k, v = .ref q ∧ ns[i]? = some k ∧ RowAt H q (k, look rs (look ps k))) (all_mono fun i v H H' e ⟨q, k, a, b, c⟩ => ⟨q, k, a, b, e _ _ (fun xs => by intro z; cases z) c⟩) hD3 (SqL.of h2) (by rw [List.length_map]; omega) (fun i x hi H' e Q1 Q2 q1 q2 => ?_) (fun H3 os e3 hl3 hD3 hp3 => ?_)
      · rw [List.getElem?_map] at hi
        obtain ⟨k, hk, rfl⟩ : ∃ k, ns[i]? = some k ∧ V.int k = x := by
          cases hz : ns[i]? with
          | none => rw [hz] at hi; cases hi
          | some k => rw [hz] at hi; exact ⟨k, rfl, Option.some.inj hi⟩
        repeat fail "st"
        refine ⟨_, _, ps, ⟨_, _, rfl, ta2.up e, ra2.up e⟩, rfl, ga, fun H4 e4 => ?_⟩
        repeat fail "st"
        refine ⟨_, _, rs, ⟨_, _, rfl, (tb2.up e).up e4, (rb2.up e).up e4⟩, rfl, gb, fun H5 e5 => ?_⟩
        repeat fail "st"
        intro t n_t
        generalize hh : upd _ t _ = H_t
        have e_t := newEx hh n_t
        have h_t := newAt hh
        clear hh
        exact q1 _ _ (e4.trans (e5.trans e_t)) ⟨_, rfl, _, _, rfl, hk, h_t⟩
      · obtain ⟨ys, ey, ly, hy⟩ := All.end hp3
        rw [ey] at hD3
        obtain ⟨ks, rfl, rk⟩ := rows_of_all (H := H3) (ys := ys) (fs := ns.map fun k => (k, look rs (look ps k))) (by rw [ly, hl3, List.length_map, List.length_map]) fun i y e => by
          obtain ⟨q, k, a, b, c⟩ := hy i y e
          exact ⟨q, _, a, by rw [List.getElem?_map, b]; rfl, c⟩
        have lk : (ks.map V.ref).length ≤ 60 := by rw [ly, hl3, List.length_map]; exact ln
        clear hy ey hp3
        repeat fail "st"
        intro D4 hD4
        refine lcL (SiftP (ns.map fun k => (k, look rs (look ps k)))) (sift_mono _) hD4 (SqL.of hD3) (by omega) (fun i x hi H' e Q1 Q2 q1 q2 => ?_) (fun H4 os4 e4 hl4 hD4 hp4 => ?_)
        · obtain ⟨r, p, rfl, _, hp, rp⟩ := rows_at' rk hi
          have rp' := rp.up e
          repeat fail "st"
          refine ifNt (fun hd => ?_) (fun hd => ?_)
          · have ne : p.1 ≠ p.2 := fun z => of_decide_eq_false hd (congrArg V.int z)
            repeat fail "st"
            intro t n_t
            generalize hh : upd _ t _ = H_t
            have e_t := newEx hh n_t
            have h_t := newAt hh
            clear hh
            exact q1 _ _ e_t ⟨p, hp, .inl ⟨ne, _, rfl, h_t⟩⟩
          · exact q2 _ (Ex.refl _) ⟨p, hp, .inr ⟨V.int.inj (of_decide_eq_true hd), rfl⟩⟩
        · obtain ⟨js, ej, rj⟩ := sift_all (fs := ns.map fun k => (k, look rs (look ps k))) (by rw [hl4, rk.len.symm, List.length_map]) hp4
          rw [ej] at hD4
          refine ⟨_, _, rfl, SqL.of hD4, fun l o hl ho => ?_⟩
          refine q _ _ _ (e0.trans (e1.trans (e2.trans (e3.trans (e4.trans (Ex.new hl)))))) ⟨l, js, rfl, ⟨o, ho, upd_same⟩, rj.up (Ex.new hl)⟩ ch
theorem c_combined (T : Txt K mg) : Cl P w K mg base CX0 7 "combined" s_combined ["pairs", "other_pairs"] spChain := by
  refine cl_of (k := 6) T.d_combined sc_combined (fun vs H Q E h => ?_) (fun f cdv A outer s H vs Q E hr h => ?_)
  · obtain ⟨v, u, ps, rs, _, _, rfl, _⟩ := h
    rfl
  · obtain ⟨v, u, ps, rs, ta, tb, rfl, ga, gb, hl, q⟩ := h
    have nd := sc_combined.nd
    refine ⟨_, (pss_cons (ps_expr (Lw.pe_cl (c_check_pairs T) b_check_pairs hr (by decide) (by rfl) pass0 (pa_cons (pv 0) pa_nil)))
      (pss_cons (ps_expr (Lw.pe_cl (c_check_pairs T) b_check_pairs hr (by decide) (by rfl) pass0 (pa_cons (pv 1) pa_nil)))
      (pss_one (ps_ret (Lw.pe_cl (c_chained T) b_chained hr (by decide) (by rfl) pass0 (pa_cons (pv 0) (pa_cons (pv 1) pa_nil))))))), ?_⟩
    repeat fail "st"
    refine ⟨_, _, ta, rfl, ga, fun H1 e1 => ?_⟩
    repeat fail "st"
    refine ⟨_, _, tb.up e1, rfl, gb, fun H2 e2 => ?_⟩
    repeat fail "st"
    refine ⟨_, _, _, _, (ta.up e1).up e2, (tb.up e1).up e2, rfl, ga, gb, hl, fun x ts H3 e3 ht hc => ?_⟩
    exact q _ _ _ (e1.trans (e2.trans e3)) ht hc
end

end K10
namespace K10
open PySem PySem.Spec PyProof.Rows L2 Evl Lw
section
variable {P : Program} {w : World} {K : PySem.W.Frag} {mg : Str → Option Value} {base : Heap}
def spRows : Sp := fun vs H Q _ => ∃ c v ps, Tab H v ps ∧ vs = [.int c, v] ∧ Q (.int (look ps c)) H
theorem c_law_turned (T : Txt K mg) : Cl P w K mg base CX0 1 "_law_turned" s_law_turned ["_law_hue", "_law_rows"] spRows := by
  refine cl_of (k := 0) T.d_law_turned sc_law_turned (fun vs H Q E h => ?_) (fun f cdv A outer s H vs Q E hr h => ?_)
  · obtain ⟨c, v, ps, _, rfl, _⟩ := h
    rfl
  · obtain ⟨c, v, ps, ⟨a, qs, rfl, ta, ra⟩, rfl, q⟩ := h
    have nd := sc_law_turned.nd
    refine ⟨_, (pss_cons (ps_for PassesOwn.never rfl (pi_tup (pv 1)) (pg_tup rfl (pgs_cons (pg_name (i := 2) nd rfl (Or.inl rfl)) (pgs_cons (pg_name (i := 3) nd rfl (Or.inl rfl)) pgs_nil))) (pss_one (ps_if (pt_cmpR op_eq (pv 2) (pv 0) (nomark _)) (pss_one (ps_ret (pv 3))) pss_nil)))
      (pss_one (ps_ret (pv 0)))), ?_⟩
    repeat fail "st"
    refine for_tup (xs := qs.map V.ref) (fun i σ H' => ∃ y z, σ = [some (.int c), some (.ref a), y, z] ∧ H' = H ∧ ∀ p ∈ ps.take i, p.1 ≠ c) ⟨_, _, rfl, rfl, fun p m => by simp at m⟩ ?_ ?_ ?_
    · rintro _ _ _ _ ⟨y, z, rfl, rfl, _⟩
      exact ta.sq
    · rintro i x _ _ hx ⟨y, z, rfl, rfl, no⟩
      obtain ⟨r, p, rfl, _, hp, rp⟩ := rows_at' ra hx
      repeat fail "st"
      refine ifD (fun hb => ?_) (fun hb => ?_)
      · repeat fail "st"
        rw [look_at hp no (V.int.inj hb)] at q
        exact q
      · refine ⟨_, _, rfl, rfl, fun p' m => ?_⟩
        rw [List.take_add_one, hp] at m
        rcases List.mem_append.mp m with m | m
        · exact no p' m
        · obtain rfl : p' = p := by simpa using m
          exact fun z => hb (congrArg V.int z)
    · rintro _ _ ⟨y, z, rfl, rfl, no⟩
      repeat fail "st"
      rw [look_no (fun p m => no p (by rw [List.length_map, ra.len, List.take_length]; exact m))] at q
      exact q
end

end K10
namespace K10
open PySem PySem.Spec PyProof.Rows L2 Evl Lw
section
variable {P : Program} {w : World} {K : PySem.W.Frag} {mg : Str → Option Value} {base : Heap}
def spMkB : Sp := fun vs H Q _ => ∃ p m far, vs = [.ref p, .int m, .int far] ∧ Pool H p ∧ 0 ≤ m ∧ m ≤ 5 ∧ 1 ≤ far ∧ far ≤ 1000000000 ∧ ∀ v ps H', Ex H H' → Tab H' v ps → Good ps → ps.length ≤ 5 → (∀ r ∈ ps, r.1 < far ∧ r.2 < far) → Q v H'
theorem c_law_pairsB (T : Txt K mg) : Cl P w K mg base CX0 2 "_law_pairs" s_law_pairs ["_law_pool_here", "_law_most", "_law_far"] spMkB := by
  refine cl_of (k := 1) T.d_law_pairs sc_law_pairs (fun vs H Q E h => ?_) (fun f cdv A outer s H vs Q E hr h => ?_)
  · obtain ⟨p, m, far, rfl, _⟩ := h
    rfl
  · obtain ⟨p, m, far, rfl, hp, m0, m5, f0, f1, q⟩ := h
    have nd := sc_law_pairs.nd
    refine ⟨_, (pss_cons (ps_set (i := 3) nd rfl (Or.inl rfl) (pe_lst pa_nil))
      (pss_cons (ps_for PassesOwn.never rfl (pi_range1 (by rfl) T.b_range (pa_cons (Lw.pe_cl (c_law_draw T) b_law_draw hr (by decide) (by rfl) pass0 (pa_cons (pv 0) (pa_cons (pe_op op_add (pv 1) pe_int) pa_nil))) pa_nil)) (pg_name (i := 4) nd rfl (Or.inl rfl)) (pss_cons (ps_set (i := 5) nd rfl (Or.inl rfl) (Lw.pe_cl (c_law_draw T) b_law_draw hr (by decide) (by rfl) pass0 (pa_cons (pv 0) (pa_cons (pv 2) pa_nil))))
      (pss_one (ps_set (i := 3) nd rfl (Or.inl rfl) (pe_ifExp (pt_cmpR op_in_seq (pv 5) (pv 3) (by rfl)) (pv 3) (pe_op op_cat (pv 3) (pe_lst (pa_cons (pv 5) pa_nil))))))))
      (pss_one (ps_ret (pe_callTy (Lw.cr_tupF) (by rfl) T.b_tuple bt_tuple (pa_cons (pe_lc (own := [("_law_old", 5)]) (g := gName 5) (tt := tYes) rfl nd (pi_list (pe_callB (cr_sortedI) (by rfl) T.b_sorted bt_sorted (pa_cons (pv 3) pa_nil))) (L2.blkOk_by (N := N_law_pairs) (sc := defScope s_law_pairs) (by decide +kernel)) (fun _ _ _ _ _ => (pg_name (i := 5) nd rfl (Or.inl rfl))) (fun _ _ _ _ _ => pts_nil) (fun _ _ _ _ _ => (pe_tup (pa_cons (pv 5) (pa_cons (Lw.pe_cl (c_law_draw T) b_law_draw hr (by decide) (by rfl) pass0 (pa_cons (pv 0) (pa_cons (pv 2) pa_nil))) pa_nil))))) pa_nil)))))), ?_⟩
    repeat fail "st"
    intro l hl
    repeat fail "st"
    intro d Hd ed d0 d1
    repeat fail "st"
    refine for_range (fun i σ H' => ∃ l y z, ∃ ns : List Int, σ = [some (.ref p), some (.int m), some (.int far), some (.ref l), y, z] ∧ Ex H H' ∧ H' l = some (.lst (ns.map V.int)) ∧ ns.Nodup ∧ ns.length ≤ i ∧ ∀ k ∈ ns, 0 ≤ k ∧ k < far) ?_ ?_ ?_
    · exact ⟨l, _, _, [], rfl, (Ex.new hl).trans ed, ed _ _ upd_same, .nil, Nat.le_refl _, fun k m => by simp at m⟩
    · rintro i _ H1 hi ⟨l, y, z, ns, rfl, e1, hl1, hnd, hle, hns⟩
      have hp1 := hp.up e1
      repeat fail "st"
      intro k Hk ek k0 k1
      have hl2 := ek _ _ hl1
      repeat fail "st"
      refine in_ints (SqL.of hl2) ?_
      repeat fail "st"
      refine ifD (fun hb => ?_) (fun hb => ?_)
      · repeat fail "st"
        exact ⟨l, _, _, ns, rfl, e1.trans ek, hl2, hnd, by omega, hns⟩
      · repeat fail "st"
        intro t n_t
        generalize hh : upd _ t _ = H_t
        have e_t := newEx hh n_t
        have h_t := newAt hh
        clear hh
        have hl3 := e_t _ _ hl2
        repeat fail "st"
        refine ⟨_, _, _, _, rfl, rfl, hl3, h_t, ?_, ?_⟩
        · rw [List.length_map]
          exact Nat.le_trans (show ns.length + 1 ≤ 1000 by omega) (by decide)
        intro c n_c
        generalize hh : upd _ c _ = H_c
        have e_c := newEx hh n_c
        have h_c := newAt hh
        clear hh
        refine ⟨c, _, _, ns ++ [k], rfl, e1.trans (ek.trans (e_t.trans e_c)), by rw [h_c, List.map_append]; rfl, ?_, by rw [List.length_append]; exact Nat.succ_le_succ hle, fun j m => ?_⟩
        · refine List.nodup_append.mpr ⟨hnd, by simp, fun x hx y hy => ?_⟩
          obtain rfl : y = k := by simpa using hy
          exact fun z => hb (z ▸ hx)
        · rcases List.mem_append.mp m with m | m
          · exact hns j m
          · obtain rfl : j = k := by simpa using m
            exact ⟨k0, k1⟩
    · rintro _ H1 ⟨l, y, z, ns, rfl, e1, hl1, hnd, hle, hns⟩
      have hp1 := hp.up e1
      repeat fail "st"
      intro ns' c hperm hsort hc
      generalize hh : upd H1 c _ = H2
      have e2 := newEx hh hc
      have h2 := newAt hh
      clear hh
      have hp2 := hp1.up e2
      have l5 : ns'.length ≤ 5 := by rw [hperm.length_eq]; omega
      repeat fail "st"
      intro D hD
      refine lcL (All fun i v H => ∃ q k x, v = .ref q ∧ ns'[i]? = some k ∧ (0 ≤ x ∧ x < far) ∧ RowAt H q (k, x)) (all_mono fun i v H H' e ⟨q, k, x, a, b, r, c⟩ => ⟨q, k, x, a, b, r, e _ _ (fun xs => by intro z; cases z) c⟩) hD (SqL.of h2) (by rw [List.length_map]; omega) (fun i x hi H' e Q1 Q2 q1 q2 => ?_) (fun H3 os e3 hl3 hD3 hp3 => ?_)
      · obtain ⟨k, hk, rfl⟩ := get_ints hi
        have hp4 := hp2.up e
        repeat fail "st"
        intro x Hx ex x0 x1
        repeat fail "st"
        intro t n_t
        generalize hh : upd _ t _ = H_t
        have e_t := newEx hh n_t
        have h_t := newAt hh
        clear hh
        exact q1 _ _ (ex.trans e_t) ⟨_, rfl, _, _, _, rfl, hk, ⟨x0, x1⟩, h_t⟩
      · obtain ⟨ys, ey, ly, hy⟩ := All.end hp3
        rw [ey] at hD3
        obtain ⟨ks, fs, rfl, rk, ef, hf⟩ := rows_ex (far := far) (ys := ys) (ns := ns') (by rw [ly, hl3, List.length_map]) hy
        obtain ⟨gf, lf⟩ := good_mk ef hsort (hperm.nodup_iff.mpr hnd) (fun k m => hns k (hperm.mem_iff.mp m)) hf f1 l5
        refine ⟨_, _, rfl, SqL.of hD3, fun t o ht ho => ?_⟩
        refine q _ _ _ (e1.trans (e2.trans (e3.trans (Ex.new ht)))) ⟨t, ks, rfl, ⟨o, ho, upd_same⟩, rk.up (Ex.new ht)⟩ gf lf fun r m => ⟨?_, (hf r m).2⟩
        have : r.1 ∈ ns' := by rw [← ef]; exact List.mem_map.mpr ⟨r, m, rfl⟩
        exact (hns r.1 (hperm.mem_iff.mp this)).2
def spMk : Sp := fun vs H Q _ => ∃ p m far, vs = [.ref p, .int m, .int far] ∧ Pool H p ∧ 0 ≤ m ∧ m ≤ 5 ∧ 1 ≤ far ∧ far ≤ 1000000000 ∧ ∀ v ps H', Ex H H' → Tab H' v ps → Good ps → ps.length ≤ 5 → Q v H'
theorem c_law_pairs (T : Txt K mg) : Cl P w K mg base CX0 2 "_law_pairs" s_law_pairs ["_law_pool_here", "_law_most", "_law_far"] spMk := (c_law_pairsB T).imp fun vs H Q E ⟨p, m, far, h1, h2, h3, h4, h5, h6, q⟩ => ⟨p, m, far, h1, h2, h3, h4, h5, h6, fun v ps H' e t g l _ => q v ps H' e t g l⟩
end

end K10
namespace K10
open PySem PySem.Spec PyProof.Rows L2 Evl Lw
section
variable {P : Program} {w : World} {K : PySem.W.Frag} {mg : Str → Option Value} {base : Heap}
/-- several tables in the heap -/
def Tabs (H : Hp) (xs : List V) (ts : List Tb) : Prop := Paired (Tab H) xs ts
theorem Tabs.up {H H' : Hp} (e : Ex H H') : ∀ {xs : List V} {ts : List Tb}, Tabs H xs ts → Tabs H' xs ts
  | _, _, .nil => .nil
  | _, _, .cons h t => .cons (h.up e) (Tabs.up e t)
theorem Tabs.dp {H : Hp} : ∀ {xs : List V} {ts : List Tb}, Tabs H xs ts → DpAll K H xs (ts.map datT)
  | _, _, .nil => .nil
  | _, _, .cons h t => .cons (dp_tab h) (Tabs.dp t)
theorem Tabs.at {H : Hp} : ∀ {xs : List V} {ts : List Tb} {i : Nat} {x : V}, Tabs H xs ts → xs[i]? = some x → ∃ t, ts[i]? = some t ∧ Tab H x t
  | _, _, 0, _, .cons h _, e => by cases e; exact ⟨_, rfl, h⟩
  | _, _, i + 1, _, .cons _ t, e => by
    obtain ⟨t', e', h⟩ := Tabs.at (i := i) t e
    exact ⟨t', e', h⟩
/-- all of the tables are good, and small -/
def Fine (ts : List Tb) : Prop := ts.length ≤ 3 ∧ ∀ t ∈ ts, Good t ∧ t.length ≤ 10
theorem lay_tabs (ts : List Tb) : PyData.canLayAll0 (ts.map datT) = true ∧ PyData.depthAll (ts.map datT) ≤ 2 := by
  induction ts with
  | nil => exact ⟨rfl, by decide⟩
  | cons t ts ih =>
    rw [List.map_cons]
    refine ⟨by rw [PyData.canLayAll0, ih.1, datT, PyData.canLay0, lay_all]; rfl, ?_⟩
    rw [PyData.depthAll]
    refine Nat.max_le.mpr ⟨?_, ih.2⟩
    rw [datT, PyData.depth]
    have := deep_all t
    omega
theorem eq_none {H : Hp} {a b : Addr} {xs : List V} {ts : List Tb} {Q : VK} (h : SqT K H a xs) (t : Tabs H xs ts) (hb : H b = some (.tup [])) (q : Q (.bl (decide (ts = []))) H) : rEqD K (.ref a) (.ref b) H Q := by
  have sh : SeqAt.shaped (.tuple (ts.map datT)) = true := by
    unfold SeqAt.shaped
    rw [PyData.canLay0, PyData.depth, (lay_tabs ts).1, decide_eq_true (by have := (lay_tabs ts).2; omega)]
    rfl
  refine ⟨_, _, .tup h t.dp, .tup (SqT.of hb) .nil, sh, by decide +kernel, ?_⟩
  have e : PyData.eqv (.tuple (ts.map datT)) (.tuple []) = decide (ts = []) := by
    cases ts with
    | nil => rfl
    | cons t ts => simp [PyData.eqv, PyData.eqvAll]
  rw [e]
  exact q
theorem take_next {α : Type} {l : List α} {i : Nat} {x : α} (h : l[i]? = some x) (P : α → Prop) : (∃ y ∈ l.take (i + 1), P y) ↔ (∃ y ∈ l.take i, P y) ∨ P x := by
  rw [List.take_add_one, h]
  constructor
  · rintro ⟨y, m, p⟩
    rcases List.mem_append.mp m with m | m
    · exact .inl ⟨y, m, p⟩
    · obtain rfl : y = x := by simpa using m
      exact .inr p
  · rintro (⟨y, m, p⟩ | p)
    · exact ⟨y, List.mem_append_left _ m, p⟩
    · exact ⟨x, List.mem_append_right _ (by simp), p⟩
def spParts : Sp := fun vs H Q _ => ∃ a xs ts, vs = [.ref a] ∧ SqT K H a xs ∧ Tabs H xs ts ∧ Fine ts ∧ ∀ b H', Ex H H' → (b = true ↔ ts ≠ [] ∧ Apart ts) → Q (.bl b) H'
theorem c_parts_all (T : Txt K mg) : Cl P w K mg base CX0 2 "parts_all" s_parts_all ["tables"] (spParts (K := K)) := by
  refine cl_of (k := 1) T.d_parts_all sc_parts_all (fun vs H Q E h => ?_) (fun f cdv A outer s H vs Q E hr h => ?_)
  · obtain ⟨a, xs, ts, rfl, _⟩ := h
    rfl
  · obtain ⟨a, xs, ts, rfl, hq, ht, ⟨hl, hg⟩, q⟩ := h
    have nd := sc_parts_all.nd
    refine ⟨_, (pss_cons (ps_if (pt_cmpR (op_eqD hr.units) (pv 0) (pe_tup pa_nil) (nomark _)) (pss_one (ps_ret pe_bl)) pss_nil)
      (pss_cons (ps_set (i := 2) nd rfl (Or.inl rfl) (pe_callB (cr_sortedSet rfl) (by rfl) T.b_sorted bt_sorted (pa_cons (Lw.pe_sc3 (own := [("table", 5), ("pair", 6), ("colour", 1)]) (vs1 := [6, 1]) (vs2 := [1]) (g0 := gName 5) (g1 := gName 6) (g2 := gName 1) (te := tVar 1) rfl nd (pi_tup (pv 0)) (L2.blkOk_by (N := N_parts_all) (sc := defScope s_parts_all) (by decide +kernel)) (by decide) (by decide) (fun _ _ _ _ _ => pg_name (i := 5) nd rfl (Or.inl rfl)) (fun _ _ _ _ _ => (pi_tup (pv 5) : PI _ _ _ (iTup K _))) (fun _ _ _ _ _ => pg_name (i := 6) nd rfl (Or.inl rfl)) (fun _ _ _ _ _ => (pi_tup (pv 6) : PI _ _ _ (iTup K _))) (fun _ _ _ _ _ => pg_name (i := 1) nd rfl (Or.inl rfl)) (fun _ _ _ _ _ => pv 1)) pa_nil)))
      (pss_cons (ps_set (i := 3) nd rfl (Or.inl rfl) pe_dnewT)
      (pss_cons (ps_for PassesOwn.never rfl (pi_list (pv 2)) (pg_name (i := 1) nd rfl (Or.inr rfl)) (pss_cons (ps_set (i := 4) nd rfl (Or.inl rfl) (pe_callTy (call_tuple_of) (by rfl) T.b_tuple bt_tuple (pa_cons (pe_lc (own := [("table", 5)]) (g := gName 5) (tt := tYes) rfl nd (pi_tup (pv 0)) (L2.blkOk_by (N := N_parts_all) (sc := defScope s_parts_all) (by decide +kernel)) (fun _ _ _ _ _ => (pg_name (i := 5) nd rfl (Or.inl rfl))) (fun _ _ _ _ _ => pts_nil) (fun _ _ _ _ _ => (Lw.pe_cl (c_turned T) b_turned hr (by decide) (by rfl) pass0 (pa_cons (pv 1) (pa_cons (pv 5) pa_nil))))) pa_nil)))
      (pss_cons (ps_if (pt_cmp (pc_din (Lw.u1 hr.units) (pv 4) (pv 3))) (pss_one (ps_ret pe_bl)) pss_nil)
      (pss_one (ps_asg (pv 1) (pg_sub (pv 3) (pv 4) (set_dict (Lw.u1 hr.units))))))))
      (pss_one (ps_ret pe_bl)))))), ?_⟩
    repeat fail "st"
    intro em n_em
    generalize hh : upd _ em _ = H_em
    have e_em := newEx hh n_em
    have h_em := newAt hh
    clear hh
    have ht1 := ht.up e_em
    refine eq_none (Evl.ex_t e_em hq) ht1 h_em ?_
    repeat fail "st"
    refine ifD (fun h0 => ?_) (fun h0 => ?_)
    · repeat fail "st"
      exact q _ _ e_em ⟨(fun z => by cases z), fun z => absurd h0 z.1⟩
    have hq1 := Evl.ex_t e_em hq
    clear hq ht h_em
    repeat fail "st"
    intro D hD
    refine lv_tup (fun i G => Ex H_em G ∧ ∃ S n, G D = some (SetO w D S n) ∧ (∀ k, S k = true ↔ ∃ t ∈ ts.take i, ∃ p ∈ t, p.1 = k ∨ p.2 = k) ∧ n ≤ 20 * i) ⟨Ex.new hD, _, 0, upd_same, fun k => by simp, Nat.le_refl _⟩ (fun i G z => Evl.ex_t z.1 hq1) ?_ ?_
    · rintro i x hx G ⟨e, S, n, hS, hk, hn⟩ Nx nx
      obtain ⟨t, htt, ta, qs, rfl, tu, rows⟩ := (ht1.up e).at hx
      have i3 : i < 3 := by
        have := (List.getElem?_eq_some_iff.mp htt).1
        omega
      obtain ⟨gt, lt⟩ := hg t (List.mem_of_getElem? htt)
      have lr := rows.len
      repeat fail "st"
      have rows_at : ∀ {j : Nat} {y : V} {G' : Hp}, Ex (Minus G D) G' → (qs.map V.ref)[j]? = some y → ∃ r p, y = .ref r ∧ t[j]? = some p ∧ RowAt G' r p := fun {j y G'} x hy => by
        obtain ⟨r, p, rfl, _, hp, rp⟩ := rows_at' rows hy
        have rp0 : G r = some (.tup [.int p.1, .int p.2]) := rp
        exact ⟨r, p, rfl, hp, x _ _ (minus_at (fun z => by rw [z, hS] at rp0; cases rp0) rp0)⟩
      have tu' : Tu (Minus G D) ta (qs.map V.ref) := by
        obtain ⟨o, h1, h2⟩ := tu
        exact ⟨o, h1, minus_at (fun z => by rw [z, hS] at h2; cases h2) h2⟩
      refine lv_tup (fun j G' => Ex H_em G' ∧ Ex (Minus G D) G' ∧ ∃ S' n', G' D = some (SetO w D S' n') ∧ (∀ k, S' k = true ↔ S k = true ∨ ∃ p ∈ t.take j, p.1 = k ∨ p.2 = k) ∧ n' ≤ n + 2 * j) ⟨e, minus_lo, S, n, hS, fun k => by simp, by omega⟩ (fun j G' z => (tu'.up z.2.1).sq) ?_ ?_
      · rintro j y hy G1 ⟨e1, x1, S1, n1, hS1, hk1, hn1⟩ Nx1 nx1
        obtain ⟨r, p, rfl, hp, rp⟩ := rows_at x1 hy
        have j20 : j < 10 := by
          have := (List.getElem?_eq_some_iff.mp hp).1
          omega
        have rp0 : G1 r = some (.tup [.int p.1, .int p.2]) := rp
        repeat fail "st"
        have neD : r ≠ D := fun z => by rw [z, hS1] at rp0; cases rp0
        refine lv_tup (fun l G' => Ex H_em G' ∧ Ex (Minus G D) G' ∧ Ex (Minus G1 D) G' ∧ ∃ S' n', G' D = some (SetO w D S' n') ∧ (∀ k, S' k = true ↔ S1 k = true ∨ ∃ c ∈ [p.1, p.2].take l, c = k) ∧ n' ≤ n1 + l) ⟨e1, x1, minus_lo, S1, n1, hS1, fun k => by simp, by omega⟩ (fun l G' z => SqT.of (z.2.2.1 _ _ (minus_at neD rp0))) ?_ ?_
        · rintro l c hc G2 ⟨e2, x2, y2, S2, n2, hS2, hk2, hn2⟩ Nx2 nx2
          obtain ⟨cc, hcc, rfl⟩ := get_ints (ns := [p.1, p.2]) hc
          have l2 : l < 2 := (List.getElem?_eq_some_iff.mp hcc).1
          repeat fail "st"
          have mD : ∀ {F : Hp}, Minus F D D = none := fun {F} => if_pos rfl
          refine ⟨cc, S2, n2, rfl, hS2, by show n2 + 1 < 4096; omega, nx2 _ ⟨Ex.mut e2 hD, Ex.mut x2 mD, Ex.mut y2 mD, _, _, upd_same, fun k => ?_, by split <;> omega⟩⟩
          rw [Bool.or_eq_true, hk2, decide_eq_true_eq, take_next hcc (fun c => c = k), or_assoc]
          constructor
          · rintro (h | h | h)
            · exact .inl h
            · exact .inr (.inl h)
            · exact .inr (.inr h.symm)
          · rintro (h | h | h)
            · exact .inl h
            · exact .inr (.inl h)
            · exact .inr (.inr h.symm)
        · rintro G2 ⟨e2, x2, y2, S2, n2, hS2, hk2, hn2⟩
          refine nx1 _ ⟨e2, x2, S2, n2, hS2, fun k => ?_, ?_⟩
          · rw [hk2, hk1, take_next hp (fun p => p.1 = k ∨ p.2 = k)]
            rw [show ([p.1, p.2].take ([V.int p.1, V.int p.2].length)) = [p.1, p.2] from rfl]
            simp only [List.mem_cons, List.not_mem_nil, or_false, exists_eq_or_imp, exists_eq_left]
            rw [or_assoc]
          · have : [V.int p.1, V.int p.2].length = 2 := rfl
            omega
      · rintro G1 ⟨e1, x1, S1, n1, hS1, hk1, hn1⟩
        refine nx _ ⟨e1, S1, n1, hS1, fun k => ?_, ?_⟩
        · rw [hk1, hk, take_next htt (fun t => ∃ p ∈ t, p.1 = k ∨ p.2 = k)]
          rw [List.length_map, lr, List.take_length]
        · rw [List.length_map, lr] at hn1
          omega
    · rintro G ⟨e, S, n, hS, hk, hn⟩
      have lx : xs.length = ts.length := Paired.length ht1
      refine ⟨_, _, _, rfl, hS, by omega, fun ns d hs hm hln hd => ?_⟩
      have mem : ∀ c, c ∈ ns ↔ Named ts c := fun c => by
        rw [hm, hk, lx, List.take_length]
        exact Iff.rfl
      have ndn : ns.Nodup := hs.imp fun h => Int.ne_of_lt h
      have ln : ns.length ≤ 64 := by omega
      generalize hh : upd G d _ = G2
      have e2 := newEx hh hd
      have h2 := newAt hh
      clear hh
      have e3 := e.trans e2
      clear hS hk hm
      repeat fail "st"
      intro sn nsn
      have hs0 : upd G2 sn (.dT []) sn = some (.dT []) := upd_same
      have es0 : Ex G2 (upd G2 sn (.dT [])) := Ex.new nsn
      repeat fail "st"
      refine for_list (xs := ns.map V.int) (fun i σ H' => ∃ y z, σ = [some (.ref a), y, some (.ref d), some (.ref sn), z, none, none] ∧ Ex G2 H' ∧ ∃ kvs : List (List Key × V), H' sn = some (.dT kvs) ∧ kvs.length ≤ i ∧ (∀ key, (valV kvs key).isSome = true ↔ ∃ c ∈ ns.take i, keyI (told ts c) = key) ∧ ((ns.take i).map (told ts)).Nodup) ⟨_, _, rfl, es0, [], hs0, Nat.le_refl _, fun key => by simp [valV_nil], by simp⟩ ?_ ?_ ?_
      · rintro i _ H' _ ⟨y, z, rfl, e, _⟩
        exact ex_l e (SqL.of h2)
      · rintro i x _ H' hx ⟨y, z, rfl, e, kvs, hsn, hlen, hval, hnd⟩
        obtain ⟨c, hc, rfl⟩ := get_ints hx
        have i64 : i < 64 := by
          have := (List.getElem?_eq_some_iff.mp hc).1
          omega
        have eH := e3.trans e
        have hq2 := Evl.ex_t eH hq1
        have ht2 := ht1.up eH
        repeat fail "st"
        intro D3 hD3
        refine lcT (All fun i v _ => ∃ t, ts[i]? = some t ∧ v = .int (look t c)) (all_mono fun _ _ _ _ _ h => h) hD3 hq2 (by rw [lx]; omega) (fun j x hj H1 e1 Q1 Q2 q1 q2 => ?_) (fun H1 os e1 hl1 hD1 hp1 => ?_)
        · obtain ⟨t, htt, tab⟩ := (ht2.up e1).at hj
          obtain ⟨gt, _⟩ := hg t (List.mem_of_getElem? htt)
          repeat fail "st"
          refine ⟨_, _, t, tab, rfl, gt, fun H2 e2 => ?_⟩
          repeat fail "st"
          exact q1 _ _ e2 ⟨_, rfl, t, htt, rfl⟩
        · obtain ⟨ys, ey, ly, hy⟩ := All.end hp1
          rw [ey] at hD1
          have eys : ys = (told ts c).map V.int := by
            unfold told
            refine List.ext_getElem? fun j => ?_
            rw [List.getElem?_map, List.getElem?_map]
            by_cases cj : j < ys.length
            · obtain ⟨t, e5, e6⟩ := hy j ys[j] (List.getElem?_eq_getElem cj)
              rw [List.getElem?_eq_getElem cj, e5, e6]
              rfl
            · have : ts.length ≤ j := by
                rw [← lx, ← hl1, ← ly]
                omega
              rw [List.getElem?_eq_none (by omega), List.getElem?_eq_none this]
              rfl
          rw [eys] at hD1
          clear hy hp1 ey ly hl1 eys
          repeat fail "st"
          refine ⟨D3, _, rfl, .inl ⟨SqL.of hD1, fun tl ntl => ?_⟩⟩
          generalize hh : upd H1 tl _ = H4
          have e4 := newEx hh ntl
          have h4 := newAt hh
          clear hh
          have h4k : H4 tl = some (.tup ((keyI (told ts c)).map kV)) := by rw [keyI_kV]; exact h4
          have hsn4 := (e1.trans e4) _ _ hsn
          have nin : c ∉ ns.take i := fun m => by
            have n1 : (ns.take (i + 1)).Nodup := ndn.sublist (List.take_sublist _ _)
            rw [List.take_add_one, hc] at n1
            exact (List.nodup_append.mp n1).2.2 c m c (by simp) rfl
          repeat fail "st"
          refine ⟨sn, _, rfl, DGet.t hsn4 h4k, ?_⟩
          repeat fail "st"
          refine ifB (fun hb => ?_) (fun hb => ?_)
          · repeat fail "st"
            refine q _ _ (e_em.trans (e3.trans (e.trans (e1.trans e4)))) ⟨(fun z => by cases z), fun z => ?_⟩
            obtain ⟨c', m, e'⟩ := (hval _).mp hb
            have := z.2 c' c ((mem c').mp (List.mem_of_mem_take m)) ((mem c).mp (List.mem_of_getElem? hc)) (keyI_inj e')
            rw [this] at m
            exact absurd m nin
          · repeat fail "st"
            refine ⟨sn, _, rfl, DPut.t hsn4 h4k (Nat.lt_of_le_of_lt hlen (Nat.lt_of_lt_of_le (show i < 1000 by omega) (by decide))), ?_⟩
            refine ⟨_, _, rfl, Ex.mut (e.trans (e1.trans e4)) nsn, _, upd_same, ?_, fun key => ?_, ?_⟩
            · unfold putK
              split
              · rw [List.length_map]; omega
              · rw [List.length_append]; show _ + 1 ≤ i + 1; omega
            · rw [valV_put, take_next hc (fun c => keyI (told ts c) = key)]
              by_cases ek : key = keyI (told ts c)
              · rw [if_pos ek]
                exact ⟨fun _ => .inr ek.symm, fun _ => rfl⟩
              · rw [if_neg ek, hval]
                exact ⟨.inl, fun z => z.elim id fun z => absurd z.symm ek⟩
            · rw [List.take_add_one, hc, List.map_append]
              refine List.nodup_append.mpr ⟨hnd, by simp, fun u hu v hv => fun z => ?_⟩
              obtain rfl : v = told ts c := by simpa using hv
              obtain ⟨c', m, e'⟩ := List.mem_map.mp hu
              have : (valV kvs (keyI (told ts c))).isSome = true := (hval _).mpr ⟨c', m, by rw [e', z]⟩
              rw [this] at hb
              cases hb
      · rintro _ H' ⟨y, z, rfl, e, kvs, hsn, hlen, hval, hnd⟩
        rw [List.length_map, List.take_length] at hnd
        repeat fail "st"
        exact q _ _ (e_em.trans (e3.trans e)) ⟨fun _ => ⟨h0, (apart_iff mem ndn).mp hnd⟩, fun _ => rfl⟩
/-- keeps_apart of tables -/
def spKeep : Sp := fun vs H Q _ => ∃ a xs ts, vs = [.ref a] ∧ H a = some (.tup xs) ∧ Tabs H xs ts ∧ Fine ts ∧ ∀ b H', Ex H H' → (b = true ↔ ts ≠ [] ∧ Apart ts) → Q (.bl b) H'
theorem c_keeps_apart (T : Txt K mg) : ClR P w K mg base CX0 7 "keeps_apart" (fun vs H Q E => vs.length ≤ sizeLine ∧ ∀ p, H p = none → spKeep [.ref p] (upd H p (.tup vs)) Q E) := by
  refine clR_star (pv := "tables") (k := 6) T.d_keeps_apart sc_keeps_apart StX.cxUp_none (fun _ _ _ _ _ _ us => match us with | [] => rfl | _ :: _ => rfl) (fun f cdv A outer s H vs Q E hr h => ?_)
  obtain ⟨a, xs, ts, rfl, ha, ht, hf, q⟩ := h
  have nd := sc_keeps_apart.nd
  refine ⟨_, PSs.nox (pss_cons (ps_for PassesOwn.never rfl (pi_tup (pv 0)) (pg_name (i := 1) nd rfl (Or.inl rfl)) (pss_one (ps_expr (Lw.pe_cl (c_check_pairs T) b_check_pairs hr (by decide) (by rfl) pass0 (pa_cons (pv 1) pa_nil)))))
      (pss_one (ps_ret (Lw.pe_cl (c_parts_all T) b_parts_all hr (by decide) (by rfl) pass0 (pa_cons (pv 0) pa_nil))))), ?_⟩
  repeat fail "st"
  refine for_tup (xs := xs) (fun _ σ H' => ∃ y, σ = [some (.ref a), y] ∧ Ex H H') ⟨_, rfl, Ex.refl _⟩ ?_ ?_ ?_
  · rintro i _ H' _ ⟨y, rfl, e⟩
    exact ex_t e (SqT.of ha)
  · rintro i x _ H' hx ⟨y, rfl, e⟩
    obtain ⟨t, htt, tab⟩ := (ht.up e).at hx
    obtain ⟨gt, _⟩ := hf.2 t (List.mem_of_getElem? htt)
    repeat fail "st"
    refine ⟨_, t, tab, rfl, gt, fun H2 e2 => ?_⟩
    repeat fail "st"
    exact e.trans e2
  · rintro _ H' ⟨y, rfl, e⟩
    repeat fail "st"
    exact ⟨a, xs, ts, rfl, ex_t e (SqT.of ha), ht.up e, hf, fun b H2 e2 hb => q b _ (e.trans e2) hb⟩
end

end K10
namespace K10
open PySem PySem.Spec PyProof.Rows L2 Evl Lw
section
variable {P : Program} {w : World} {K : PySem.W.Frag} {mg : Str → Option Value} {base : Heap}
theorem sorted3 {ns : List Int} {a b c : Int} (h : ns.Perm [a, b, c]) (s : ns.Pairwise (· ≤ ·)) (h1 : a < b) (h2 : b < c) : ns = [a, b, c] := by
  have nd : ([a, b, c] : List Int).Nodup := by simp; omega
  have l : (ns.map fun k => ((k, 0) : Int × Int)).Pairwise fun p q => p.1 < q.1 := List.pairwise_map.mpr (asc_of s (h.nodup_iff.mpr nd))
  have r : (([a, b, c] : List Int).map fun k => ((k, 0) : Int × Int)).Pairwise fun p q => p.1 < q.1 := by simp; omega
  have e := asc_uniq l r fun p => by
    rw [List.mem_map, List.mem_map]
    exact ⟨fun ⟨x, m, e⟩ => ⟨x, h.mem_iff.mp m, e⟩, fun ⟨x, m, e⟩ => ⟨x, h.mem_iff.mpr m, e⟩⟩
  have := congrArg (List.map (·.1)) e
  simpa [Function.comp_def] using this
def Small (ps : Tb) : Prop := Good ps ∧ ps.length ≤ 5 ∧ ∀ r ∈ ps, r.1 < 700000001 ∧ r.2 < 700000001
def spTable : Sp := fun vs H Q _ => ∃ p far, vs = [.ref p, .int far] ∧ Pool H p ∧ 1 ≤ far ∧ far ≤ 100000000 ∧ ∀ v ps H', Ex H H' → Tab H' v ps → Small ps → Q v H'
theorem c_law_table (T : Txt K mg) : Cl P w K mg base CX0 3 "_law_table" s_law_table ["_law_pool_here", "_law_far"] spTable := by
  refine cl_of (k := 2) T.d_law_table sc_law_table (fun vs H Q E h => ?_) (fun f cdv A outer s H vs Q E hr h => ?_)
  · obtain ⟨p, far, rfl, _⟩ := h
    rfl
  · obtain ⟨p, far, rfl, hp, f0, f1, q⟩ := h
    have nd := sc_law_table.nd
    refine ⟨_, (pss_cons (ps_set (i := 2) nd rfl (Or.inl rfl) (Lw.pe_cl (c_law_draw T) b_law_draw hr (by decide) (by rfl) pass0 (pa_cons (pv 0) (pa_cons pe_int pa_nil))))
      (pss_cons (ps_asg (pe_callB (cr_sortedI) (by rfl) T.b_sorted bt_sorted (pa_cons (pe_lst (pa_cons (Lw.pe_cl (c_law_draw T) b_law_draw hr (by decide) (by rfl) pass0 (pa_cons (pv 0) (pa_cons (pv 1) pa_nil))) (pa_cons (pe_op op_add (pv 1) (Lw.pe_cl (c_law_draw T) b_law_draw hr (by decide) (by rfl) pass0 (pa_cons (pv 0) (pa_cons pe_int pa_nil)))) (pa_cons (pe_op op_add (pv 1) pe_int) pa_nil)))) pa_nil)) (pg_lst rfl (pgs_cons (pg_name (i := 3) nd rfl (Or.inl rfl)) (pgs_cons (pg_name (i := 4) nd rfl (Or.inl rfl)) (pgs_cons (pg_name (i := 5) nd rfl (Or.inl rfl)) pgs_nil)))))
      (pss_cons (ps_if (pt_cmpR op_eq (pv 2) pe_int (nomark _)) (pss_one (ps_ret (Lw.pe_tupF (pa_cons (pe_tup (pa_cons (pv 3) (pa_cons (pv 4) pa_nil))) (pa_cons (pe_tup (pa_cons (pv 4) (pa_cons (pv 3) pa_nil))) pa_nil))))) pss_nil)
      (pss_cons (ps_if (pt_cmpR op_eq (pv 2) pe_int (nomark _)) (pss_one (ps_ret (Lw.pe_tupF (pa_cons (pe_tup (pa_cons (pv 3) (pa_cons (pv 4) pa_nil))) (pa_cons (pe_tup (pa_cons (pv 4) (pa_cons (pv 5) pa_nil))) (pa_cons (pe_tup (pa_cons (pv 5) (pa_cons (pv 3) pa_nil))) pa_nil)))))) pss_nil)
      (pss_one (ps_ret (Lw.pe_cl (c_law_pairsB T) b_law_pairs hr (by decide) (by rfl) pass0 (pa_cons (pv 0) (pa_cons pe_int (pa_cons (pv 1) pa_nil)))))))))), ?_⟩
    repeat fail "st"
    intro c1 H1 e1 c10 c11
    have hp1 := hp.up e1
    repeat fail "st"
    intro c2 H2 e2 c20 c21
    have hp2 := hp1.up e2
    repeat fail "st"
    intro c3 H3 e3 c30 c31
    have hp3 := hp2.up e3
    repeat fail "st"
    intro l n_l
    generalize hh : upd _ l _ = H_l
    have e_l := newEx hh n_l
    have h_l := newAt hh
    clear hh
    repeat fail "st"
    refine ⟨l, [c2, far + c3, far + 2], rfl, SqL.of h_l, fun ns' s1 hperm hsort hs1 => ?_⟩
    obtain rfl := sorted3 hperm hsort (by omega) (by omega)
    generalize hh : upd H_l s1 _ = H4
    have e4 := newEx hh hs1
    have h4 := newAt hh
    clear hh
    have eA := e1.trans (e2.trans (e3.trans (e_l.trans e4)))
    have hp4 := hp.up eA
    repeat fail "st"
    trace_state
    refine ifD (fun hw => ?_) (fun hw => ?_)
    · repeat fail "st"
      intro r1 n_r1
      generalize hh : upd _ r1 _ = H_r1
      have e_r1 := newEx hh n_r1
      have h_r1 := newAt hh
      clear hh
      repeat fail "st"
      intro r2 n_r2
      generalize hh : upd _ r2 _ = H_r2
      have e_r2 := newEx hh n_r2
      have h_r2 := newAt hh
      clear hh
      repeat fail "st"
      intro tt o ntt ho
      have e5 := e_r1.trans (e_r2.trans (Ex.new (o := .frz o (.tup [.ref r1, .ref r2])) ntt))
      have g1 := (e_r2.trans (Ex.new (o := .frz o (.tup [.ref r1, .ref r2])) ntt)) _ _ h_r1
      have g2 := (Ex.new (o := .frz o (.tup [.ref r1, .ref r2])) ntt) _ _ h_r2
      refine q _ [(c2, far + c3), (far + c3, c2)] _ (eA.trans e5) ⟨tt, [r1, r2], rfl, ⟨o, ho, upd_same⟩, .cons g1 (.cons g2 .nil)⟩ ⟨⟨?_, by simp; omega, Nat.le_of_ble_eq_true rfl⟩, Nat.le_of_ble_eq_true rfl, ?_⟩
      · intro r m
        simp only [List.mem_cons, List.not_mem_nil, or_false] at m
        rcases m with rfl | rfl <;> exact ⟨⟨by dsimp only; omega, by dsimp only; omega⟩, by dsimp only; omega, by dsimp only; omega⟩
      · intro r m
        simp only [List.mem_cons, List.not_mem_nil, or_false] at m
        rcases m with rfl | rfl <;> exact ⟨by dsimp only; omega, by dsimp only; omega⟩
    · repeat fail "st"
      refine ifD (fun hw1 => ?_) (fun hw1 => ?_)
      · repeat fail "st"
        intro r1 n_r1
        generalize hh : upd _ r1 _ = H_r1
        have e_r1 := newEx hh n_r1
        have h_r1 := newAt hh
        clear hh
        repeat fail "st"
        intro r2 n_r2
        generalize hh : upd _ r2 _ = H_r2
        have e_r2 := newEx hh n_r2
        have h_r2 := newAt hh
        clear hh
        repeat fail "st"
        intro r3 n_r3
        generalize hh : upd _ r3 _ = H_r3
        have e_r3 := newEx hh n_r3
        have h_r3 := newAt hh
        clear hh
        repeat fail "st"
        intro tt o ntt ho
        have en := Ex.new (o := .frz o (.tup [.ref r1, .ref r2, .ref r3])) ntt
        have e5 := e_r1.trans (e_r2.trans (e_r3.trans en))
        have g1 := (e_r2.trans (e_r3.trans en)) _ _ h_r1
        have g2 := (e_r3.trans en) _ _ h_r2
        have g3 := en _ _ h_r3
        refine q _ [(c2, far + c3), (far + c3, far + 2), (far + 2, c2)] _ (eA.trans e5) ⟨tt, [r1, r2, r3], rfl, ⟨o, ho, upd_same⟩, .cons g1 (.cons g2 (.cons g3 .nil))⟩ ⟨⟨?_, by simp; omega, Nat.le_of_ble_eq_true rfl⟩, Nat.le_of_ble_eq_true rfl, ?_⟩
        · intro r m
          simp only [List.mem_cons, List.not_mem_nil, or_false] at m
          rcases m with rfl | rfl | rfl <;> exact ⟨⟨by dsimp only; omega, by dsimp only; omega⟩, by dsimp only; omega, by dsimp only; omega⟩
        · intro r m
          simp only [List.mem_cons, List.not_mem_nil, or_false] at m
          rcases m with rfl | rfl | rfl <;> exact ⟨by dsimp only; omega, by dsimp only; omega⟩
      · repeat fail "st"
        exact ⟨_, _, _, rfl, hp4, by decide, by decide, f0, by omega, fun v ps H5 e5 t g l5 b => q v ps H5 (eA.trans e5) t ⟨g, l5, fun r m => ⟨by have := (b r m).1; omega, by have := (b r m).2; omega⟩⟩⟩
end

end K10
namespace K10
open PySem PySem.Spec PyProof.Rows L2 Evl Lw
section
variable {P : Program} {w : World} {K : PySem.W.Frag} {mg : Str → Option Value} {base : Heap}
theorem lay_ints (ns : List Int) : PyData.canLayAll0 (ns.map PyData.int) = true ∧ PyData.depthAll (ns.map PyData.int) = 0 := by
  induction ns with
  | nil => exact ⟨rfl, by decide⟩
  | cons n ns ih => exact ⟨by simp [PyData.canLayAll0, PyData.canLay0, ih.1], by simp [PyData.depthAll, PyData.depth, ih.2]⟩
theorem eqv_all : ∀ {a b : List Int}, PyData.eqvAll (a.map PyData.int) (b.map PyData.int) = decide (a = b)
  | [], [] => by simp [PyData.eqvAll]
  | [], _ :: _ => by simp [PyData.eqvAll]
  | _ :: _, [] => by simp [PyData.eqvAll]
  | x :: a, y :: b => by
    rw [List.map_cons, List.map_cons, PyData.eqvAll, eqv_all (a := a) (b := b)]
    by_cases e : x = y
    · subst e; simp [PyData.eqv]
    · simp [PyData.eqv, e]
def dI (ns : List Int) : PyData := .list (ns.map PyData.int)
theorem eqv_dI {a b : List Int} : PyData.eqv (dI a) (dI b) = decide (a = b) := by
  unfold dI
  rw [PyData.eqv]
  exact eqv_all
theorem lay_dI (ls : List (List Int)) : PyData.canLayAll0 (ls.map dI) = true ∧ PyData.depthAll (ls.map dI) ≤ 1 := by
  induction ls with
  | nil => exact ⟨rfl, by decide⟩
  | cons l ls ih =>
    rw [List.map_cons]
    refine ⟨by rw [PyData.canLayAll0, ih.1, dI, PyData.canLay0, (lay_ints l).1]; rfl, ?_⟩
    rw [PyData.depthAll]
    refine Nat.max_le.mpr ⟨?_, ih.2⟩
    rw [dI, PyData.depth, (lay_ints l).2]
    decide
theorem dps_ints {H : Hp} (ns : List Int) : DpAll K H (ns.map V.int) (ns.map PyData.int) := by
  induction ns with
  | nil => exact .nil
  | cons n ns ih => exact .cons (.int n) ih
/-- lists of ints in the heap -/
def Lists (H : Hp) (qs : List Addr) (ls : List (List Int)) : Prop := Paired (fun q l => H q = some (.lst (l.map V.int))) qs ls
theorem Lists.dp {H : Hp} : ∀ {qs : List Addr} {ls : List (List Int)}, Lists H qs ls → DpAll K H (qs.map V.ref) (ls.map dI)
  | _, _, .nil => .nil
  | _, _, .cons h t => .cons (.lst (SqL.of h) (dps_ints _)) (Lists.dp t)
theorem Lists.up {H H' : Hp} (e : Ex H H') : ∀ {qs : List Addr} {ls : List (List Int)}, Lists H qs ls → Lists H' qs ls
  | _, _, .nil => .nil
  | _, _, .cons h t => .cons (e _ _ h) (Lists.up e t)
theorem Lists.but {H : Hp} {a : Addr} {o : HO} : ∀ {qs : List Addr} {ls : List (List Int)}, (∀ q ∈ qs, q ≠ a) → Lists H qs ls → Lists (upd H a o) qs ls
  | _, _, _, .nil => .nil
  | _, _, n, .cons h t => .cons (by rw [upd_ne (n _ List.mem_cons_self)]; exact h) (Lists.but (fun q m => n q (List.mem_cons_of_mem _ m)) t)
theorem Lists.snoc {H : Hp} {q : Addr} {l : List Int} (hq : H q = some (.lst (l.map V.int))) : ∀ {qs : List Addr} {ls : List (List Int)}, Lists H qs ls → Lists H (qs ++ [q]) (ls ++ [l])
  | _, _, .nil => .cons hq .nil
  | _, _, .cons h t => .cons h (Lists.snoc hq t)
theorem any_dI {l : List Int} {ls : List (List Int)} : ((ls.map dI).any fun z => PyData.eqv z (dI l)) = decide (l ∈ ls) := by
  induction ls with
  | nil => rfl
  | cons x ls ih =>
    rw [List.map_cons, List.any_cons, ih, eqv_dI]
    by_cases c : x = l
    · subst c; simp
    · have c' : ¬ l = x := fun z => c z.symm
      simp [c, c']
theorem in_lists {H : Hp} {q s : Addr} {l : List Int} {qs : List Addr} {ls : List (List Int)} {Q : VK} (hq : H q = some (.lst (l.map V.int))) (hs : H s = some (.lst (qs.map V.ref))) (L : Lists H qs ls) (z : Q (.bl (decide (l ∈ ls))) H) : rInD K (.ref q) (.ref s) H Q := by
  have s1 : SeqAt.shaped (dI l) = true := by
    unfold SeqAt.shaped dI
    rw [PyData.canLay0, PyData.depth, (lay_ints l).1, (lay_ints l).2]
    rfl
  have s2 : SeqAt.shaped (.list (ls.map dI)) = true := by
    unfold SeqAt.shaped
    rw [PyData.canLay0, PyData.depth, (lay_dI ls).1, decide_eq_true (by have := (lay_dI ls).2; omega)]
    rfl
  refine ⟨dI l, ls.map dI, .lst (SqL.of hq) (dps_ints _), .lst (SqL.of hs) L.dp, s1, s2, ?_⟩
  rw [any_dI]
  exact z
def spDueB : Sp := fun vs H Q _ => ∃ a xs ts, vs = [.ref a] ∧ H a = some (.lst xs) ∧ Tabs H xs ts ∧ ts ≠ [] ∧ ts.length ≤ 3 ∧ (∀ t ∈ ts, t.length ≤ 5 ∧ ∀ r ∈ t, r.1 < 700000001 ∧ r.2 < 700000001) ∧ ∀ b H', Ex H H' → (b = true ↔ Apart ts) → Q (.bl b) H'
theorem c_law_due (T : Txt K mg) : Cl P w K mg base CX0 2 "_law_due" s_law_due ["_law_tables"] spDueB := by
  refine cl_of (k := 1) T.d_law_due sc_law_due (fun vs H Q E h => ?_) (fun f cdv A outer s H vs Q E hr h => ?_)
  · obtain ⟨a, xs, ts, rfl, _⟩ := h
    rfl
  · obtain ⟨a, xs, ts, rfl, ha, ht, h0, hl, hf, q⟩ := h
    have nd := sc_law_due.nd
    have lx : xs.length = ts.length := Paired.length ht
    refine ⟨_, (pss_cons (ps_set (i := 1) nd rfl (Or.inl rfl) (pe_lst (pa_cons (pe_op op_add (pe_op op_mul pe_int (pe_op op_pow pe_int pe_int)) pe_int) (pa_cons (pe_op op_add (pe_op op_mul pe_int (pe_op op_pow pe_int pe_int)) pe_int) pa_nil))))
      (pss_cons (ps_for PassesOwn.never rfl (pi_list (pv 0)) (pg_name (i := 2) nd rfl (Or.inl rfl)) (pss_one (ps_set (i := 1) nd rfl (Or.inl rfl) (pe_op op_cat (pe_op op_cat (pv 1) (pe_lc (own := [("_law_pair", 6)]) (g := gName 6) (tt := tYes) rfl nd (pi_tup (pv 2)) (L2.blkOk_by (N := N_law_due) (sc := defScope s_law_due) (by decide +kernel)) (fun _ _ _ _ _ => (pg_name (i := 6) nd rfl (Or.inl rfl))) (fun _ _ _ _ _ => pts_nil) (fun _ _ _ _ _ => (pe_ix (ix_seq : IxR _ (rIx K)) (pv 6) pe_int (fun _ _ => rfl))))) (pe_lc (own := [("_law_pair", 6)]) (g := gName 6) (tt := tYes) rfl nd (pi_tup (pv 2)) (L2.blkOk_by (N := N_law_due) (sc := defScope s_law_due) (by decide +kernel)) (fun _ _ _ _ _ => (pg_name (i := 6) nd rfl (Or.inl rfl))) (fun _ _ _ _ _ => pts_nil) (fun _ _ _ _ _ => (pe_ix (ix_seq : IxR _ (rIx K)) (pv 6) pe_int (fun _ _ => rfl))))))))
      (pss_cons (ps_set (i := 3) nd rfl (Or.inl rfl) (pe_lst pa_nil))
      (pss_cons (ps_for PassesOwn.never rfl (pi_list (pe_callB (call_sortedDI rfl) (by rfl) T.b_sorted bt_sorted (pa_cons (pe_callTy (call_dictP rfl) (by rfl) T.b_dict bt_dict (pa_cons (pe_lc (own := [("_law_thing", 7)]) (g := gName 7) (tt := tYes) rfl nd (pi_list (pv 1)) (L2.blkOk_by (N := N_law_due) (sc := defScope s_law_due) (by decide +kernel)) (fun _ _ _ _ _ => (pg_name (i := 7) nd rfl (Or.inl rfl))) (fun _ _ _ _ _ => pts_nil) (fun _ _ _ _ _ => (pe_tup (pa_cons (pv 7) (pa_cons pe_int pa_nil))))) pa_nil)) pa_nil))) (pg_name (i := 4) nd rfl (Or.inr rfl)) (pss_cons (ps_setLc (own := [("_law_table_here", 2)]) (g := gName 2) (tt := tYes) (i := 5) rfl nd rfl rfl (sw_true rfl rfl rfl (by decide +kernel)) (pi_list (pv 0)) (L2.blkOk_by (N := N_law_due) (sc := defScope s_law_due) (by decide +kernel)) (fun _ _ _ _ _ => (pg_name (i := 2) nd rfl (Or.inl rfl))) (fun _ _ _ _ _ => pts_nil) (fun _ _ _ _ _ => (Lw.pe_cl (c_law_turned T) b_law_turned hr (by decide) (by rfl) pass0 (pa_cons (pv 4) (pa_cons (pv 2) pa_nil)))))
      (pss_cons (ps_if (pt_cmpR (op_inD (Nat.lt_of_le_of_lt (Nat.add_le_add_left (by decide : 65 ≤ 70) _) (Lw.u70 hr))) (pv 5) (pv 3) (by rfl)) (pss_one (ps_ret pe_bl)) pss_nil)
      (pss_one (ps_expr (pe_bm PySem.F.plainAttrs_list PySem.F.slot_list_append PySem.F.type_list_append mt_append (pv 3) (pa_cons (pv 5) pa_nil)))))))
      (pss_one (ps_ret pe_bl)))))), ?_⟩
    repeat fail "st"
    intro l0 n_l0
    generalize hh : upd _ l0 _ = H_l0
    have e_l0 := newEx hh n_l0
    have h_l0 := newAt hh
    clear hh
    repeat fail "st"
    refine for_list (xs := xs) (fun i σ H' => ∃ y l cs, σ = [some (.ref a), some (.ref l), y, none, none, none, none, none] ∧ Ex H H' ∧ H' l = some (.lst (cs.map V.int)) ∧ (∀ c, c ∈ cs ↔ c = 700000001 ∨ c = 700000002 ∨ ∃ t ∈ ts.take i, ∃ p ∈ t, p.1 = c ∨ p.2 = c) ∧ cs.length ≤ 2 + 10 * i) ⟨_, l0, [700000001, 700000002], rfl, e_l0, h_l0, fun c => by simp, by decide⟩ ?_ ?_ ?_
    · rintro i _ H' _ ⟨y, l, cs, rfl, e, _⟩
      exact ex_l e (SqL.of ha)
    · rintro i x _ H' hx ⟨y, l, cs, rfl, e, hl', hcs, hlen⟩
      obtain ⟨t, htt, ta, qs, rfl, tu, rows⟩ := (ht.up e).at hx
      obtain ⟨t5, _⟩ := hf t (List.mem_of_getElem? htt)
      have lr := rows.len
      have i3 : i < 3 := by
        have := (List.getElem?_eq_some_iff.mp htt).1
        omega
      repeat fail "st"
      intro D1 hD1
      refine lcT (All fun i v _ => ∃ p, t[i]? = some p ∧ v = .int p.1) (all_mono fun _ _ _ _ _ h => h) hD1 tu.sq (by rw [List.length_map, lr]; omega) (fun j x hj H1 e1 Q1 Q2 q1 q2 => ?_) (fun H1 os e1 hl1 hD1' hp1 => ?_)
      · obtain ⟨r, p, rfl, _, hpp, rp⟩ := rows_at' (rows.up e1) hj
        repeat fail "st"
        exact q1 _ _ (Ex.refl _) ⟨_, rfl, p, hpp, rfl⟩
      obtain ⟨ys, ey, ly, hy⟩ := All.end hp1
      rw [ey] at hD1'
      obtain ⟨ns, rfl, hns⟩ := ints_of_all (f := fun p => p.1) (ys := ys) (fs := t) (by rw [ly, hl1, List.length_map, lr]) hy
      have hla := e1 _ _ hl'
      repeat fail "st"
      refine ⟨_, _, _, _, rfl, rfl, hla, hD1', Nat.le_trans (show _ ≤ 1000 by rw [List.length_map, List.length_map, hns, List.length_map]; omega) (by decide), ?_⟩
      intro la n_la
      generalize hh : upd _ la _ = H_la
      have e_la := newEx hh n_la
      have h_la := newAt hh
      clear hh
      rw [← List.map_append] at h_la
      have tu2 := (tu.up e1).up e_la
      have rows2 := (rows.up e1).up e_la
      repeat fail "st"
      intro D2 hD2
      refine lcT (All fun i v _ => ∃ p, t[i]? = some p ∧ v = .int p.2) (all_mono fun _ _ _ _ _ h => h) hD2 tu2.sq (by rw [List.length_map, lr]; omega) (fun j x hj H2 e2 Q1 Q2 q1 q2 => ?_) (fun H2 os2 e2 hl2 hD2' hp2 => ?_)
      · obtain ⟨r, p, rfl, _, hpp, rp⟩ := rows_at' (rows2.up e2) hj
        repeat fail "st"
        exact q1 _ _ (Ex.refl _) ⟨_, rfl, p, hpp, rfl⟩
      obtain ⟨zs, ez, lz, hz⟩ := All.end hp2
      rw [ez] at hD2'
      obtain ⟨ms, rfl, hms⟩ := ints_of_all (f := fun p => p.2) (ys := zs) (fs := t) (by rw [lz, hl2, List.length_map, lr]) hz
      have hlb := e2 _ _ h_la
      repeat fail "st"
      refine ⟨_, _, _, _, rfl, rfl, hlb, hD2', Nat.le_trans (show _ ≤ 1000 by rw [List.length_map, List.length_map, List.length_append, hns, hms, List.length_map, List.length_map]; omega) (by decide), ?_⟩
      intro lb n_lb
      generalize hh : upd _ lb _ = H_lb
      have e_lb := newEx hh n_lb
      have h_lb := newAt hh
      clear hh
      rw [← List.map_append] at h_lb
      refine ⟨_, lb, _, rfl, e.trans (e1.trans (e_la.trans (e2.trans e_lb))), h_lb, fun c => ?_, ?_⟩
      · rw [take_next htt (fun t => ∃ p ∈ t, p.1 = c ∨ p.2 = c), List.mem_append, List.mem_append, hcs, hns, hms, List.mem_map, List.mem_map]
        constructor
        · rintro (((z | z | z) | ⟨p, m, z⟩) | ⟨p, m, z⟩)
          · exact .inl z
          · exact .inr (.inl z)
          · exact .inr (.inr (.inl z))
          · exact .inr (.inr (.inr ⟨p, m, .inl z⟩))
          · exact .inr (.inr (.inr ⟨p, m, .inr z⟩))
        · rintro (z | z | z | ⟨p, m, z | z⟩)
          · exact .inl (.inl (.inl z))
          · exact .inl (.inl (.inr (.inl z)))
          · exact .inl (.inl (.inr (.inr z)))
          · exact .inl (.inr ⟨p, m, z⟩)
          · exact .inr ⟨p, m, z⟩
      · rw [List.length_append, List.length_append, hns, hms, List.length_map, List.length_map]
        omega
    · rintro _ H' ⟨y, l, cs, rfl, e, hl', hcs, hlen⟩
      rw [lx, List.take_length] at hcs
      have c64 : cs.length ≤ 32 := by omega
      repeat fail "st"
      intro sn n_sn
      generalize hh : upd _ sn _ = H_sn
      have e_sn := newEx hh n_sn
      have h_sn := newAt hh
      clear hh
      have hl2 := e_sn _ _ hl'
      repeat fail "st"
      intro D3 hD3
      refine lcL (All fun i v H => ∃ q k, v = .ref q ∧ cs[i]? = some k ∧ RowAt H q (k, 0)) (all_mono fun i v H H' e ⟨q, k, a, b, c⟩ => ⟨q, k, a, b, e _ _ (fun xs => by intro z; cases z) c⟩) hD3 (SqL.of hl2) (by rw [List.length_map]; omega) (fun j x hj H3 e3 Q1 Q2 q1 q2 => ?_) (fun H3 os e3 hl3 hD3' hp3 => ?_)
      · obtain ⟨k, hk, rfl⟩ := get_ints hj
        repeat fail "st"
        intro t n_t
        generalize hh : upd _ t _ = H_t
        have e_t := newEx hh n_t
        have h_t := newAt hh
        clear hh
        exact q1 _ _ e_t ⟨_, rfl, t, k, rfl, hk, h_t⟩
      obtain ⟨ys, ey, ly, hy⟩ := All.end hp3
      rw [ey] at hD3'
      obtain ⟨qd, rfl, rd⟩ := rows_of_all (H := H3) (ys := ys) (fs := cs.map fun k => (k, 0)) (by rw [ly, hl3, List.length_map, List.length_map]) fun i y e => by
        obtain ⟨q, k, a, b, c⟩ := hy i y e
        exact ⟨q, _, a, by rw [List.getElem?_map, b]; rfl, c⟩
      refine ⟨D3, qd, kvI (cs.map fun k => (k, 0)), rfl, SqL.of hD3', rows_kv rd, fun dd ndd => ?_⟩
      obtain ⟨es, e1, nde, me⟩ := merge_fun (fun _ => 0) (ks := cs) (acc := []) (by simp) (by simp)
      rw [show mergeK [] (kvI (cs.map fun k => (k, 0))) = kvI es from e1]
      generalize hh : upd H3 dd _ = H4
      have e4 := newEx hh ndd
      have h4 := newAt hh
      clear hh
      have le64 : es.length ≤ 32 := by
        have := length_mergeK (kvI (cs.map fun k => (k, 0))) ([] : List (Key × V))
        rw [show mergeK [] (kvI (cs.map fun k => (k, 0))) = kvI es from e1] at this
        unfold kvI at this
        simp only [List.length_map, List.length_nil] at this
        omega
      repeat fail "st"
      refine ⟨dd, kvI es, es.map (·.1), rfl, .inl h4, by unfold kvI; rw [List.map_map, List.map_map]; rfl, by rw [List.length_map]; omega, fun ns nl hperm hsort hnl => ?_⟩
      have ndn : ns.Nodup := hperm.nodup_iff.mpr nde
      have memn : ∀ c, c ∈ ns ↔ c = 700000001 ∨ c = 700000002 ∨ Named ts c := fun c => by
        rw [hperm.mem_iff, List.mem_map]
        constructor
        · rintro ⟨p, mp, rfl⟩
          rcases (me p).mp mp with z | z
          · cases z
          · exact (hcs p.1).mp z.1
        · intro z
          exact ⟨(c, 0), (me _).mpr (.inr ⟨(hcs c).mpr z, rfl⟩), rfl⟩
      have ln : ns.length ≤ 32 := by rw [hperm.length_eq, List.length_map]; exact le64
      generalize hh : upd H4 nl _ = H5
      have e5 := newEx hh hnl
      have h5 := newAt hh
      clear hh
      have eS := e3.trans (e4.trans e5)
      have hs5 := eS _ _ h_sn
      have ht5 := ht.up (e.trans (e_sn.trans eS))
      have ha5 := (e.trans (e_sn.trans eS)) _ _ ha
      have aft := apart_more (ns := ns) (a := 700000001) (b := 700000002) (far := 700000001) h0 (fun t m p mp => (hf t m).2 p mp) (by decide) (by decide) (by decide) memn ndn
      have eT := e.trans (e_sn.trans eS)
      have fsn : H' sn = none := n_sn
      have nns : nl ≠ sn := fun z => by
        have := (e3.trans e4) _ _ h_sn
        rw [← z, hnl] at this
        cases this
      clear h4 e4 e3 hD3' hD3 rd hl2 hl' ly hy ey
      have fG : ∀ {G : Hp}, Ex H' G → Ex H G := fun x => e.trans x
      repeat fail "st"
      refine for_list (xs := ns.map V.int) (fun i σ G => ∃ u v, σ = [some (.ref a), some (.ref l), y, some (.ref sn), u, v, none, none] ∧ Ex H' G ∧ Ex (Minus H5 sn) G ∧ ∃ ls : List Addr, G sn = some (.lst (ls.map V.ref)) ∧ Lists G ls ((ns.take i).map (told ts)) ∧ ls.length ≤ i ∧ ((ns.take i).map (told ts)).Nodup ∧ ∀ q ∈ ls, q ≠ sn) ⟨_, _, rfl, e_sn.trans eS, minus_lo, [], hs5, .nil, Nat.le_refl _, by simp, by simp⟩ ?_ ?_ ?_
      · rintro i _ G _ ⟨u, v, rfl, eG, xG, _⟩
        exact ex_l xG (SqL.of (minus_at nns h5))
      · rintro i x _ G hx ⟨u, v, rfl, eG, xG, ls, hsn, hL, hle, hnd, nq⟩
        obtain ⟨c, hc, rfl⟩ := get_ints hx
        have i32 : i < 32 := by
          have := (List.getElem?_eq_some_iff.mp hc).1
          omega
        have htG := ht.up (fG eG)
        have haG := (fG eG) _ _ ha
        repeat fail "st"
        intro D4 hD4
        refine lcL (All fun i v _ => ∃ t, ts[i]? = some t ∧ v = .int (look t c)) (all_mono fun _ _ _ _ _ h => h) hD4 (SqL.of haG) (by rw [lx]; omega) (fun j x hj G1 g1 Q1 Q2 q1 q2 => ?_) (fun G1 os4 g1 hl4 hD4' hp4 => ?_)
        · obtain ⟨t, htt, tab⟩ := (htG.up g1).at hj
          repeat fail "st"
          refine ⟨_, _, t, tab, rfl, ?_⟩
          repeat fail "st"
          exact q1 _ _ (Ex.refl _) ⟨_, rfl, t, htt, rfl⟩
        obtain ⟨zs, ez, lz, hz⟩ := All.end hp4
        rw [ez] at hD4'
        have eys : zs = (told ts c).map V.int := by
          unfold told
          refine List.ext_getElem? fun j => ?_
          rw [List.getElem?_map, List.getElem?_map]
          by_cases cj : j < zs.length
          · obtain ⟨t, e5, e6⟩ := hz j zs[j] (List.getElem?_eq_getElem cj)
            rw [List.getElem?_eq_getElem cj, e5, e6]
            rfl
          · have : ts.length ≤ j := by
              rw [← lx, ← hl4, ← lz]
              omega
            rw [List.getElem?_eq_none (by omega), List.getElem?_eq_none this]
            rfl
        rw [eys] at hD4'
        clear hz hp4 ez lz hl4 eys
        have hsn1 := g1 _ _ hsn
        have hL1 := hL.up g1
        repeat fail "st"
        refine in_lists hD4' hsn1 hL1 ?_
        repeat fail "st"
        refine ifD (fun hb => ?_) (fun hb => ?_)
        · repeat fail "st"
          refine q _ _ (fG (eG.trans g1)) ⟨(fun z => by cases z), fun z => ?_⟩
          have nin : c ∉ ns.take i := fun m => by
            have n1 : (ns.take (i + 1)).Nodup := ndn.sublist (List.take_sublist _ _)
            rw [List.take_add_one, hc] at n1
            exact (List.nodup_append.mp n1).2.2 c m c (by simp) rfl
          obtain ⟨c', m, e'⟩ := List.mem_map.mp hb
          have := (nodup_map_inj ndn).mp (aft.mpr z) c' (List.mem_of_mem_take m) c (List.mem_of_getElem? hc) e'
          rw [this] at m
          exact absurd m nin
        · repeat fail "st"
          refine ⟨.inl ⟨rfl, _, SqL.of hsn1⟩, ?_⟩
          repeat fail "st"
          refine ⟨sn, _, _, rfl, rfl, hsn1, Nat.lt_of_lt_of_le (show _ < 1000 by rw [List.length_map]; omega) (by decide), ?_⟩
          have nD : D4 ≠ sn := fun z => by rw [z, hsn] at hD4; cases hD4
          refine ⟨_, _, rfl, Ex.mut (eG.trans g1) fsn, Ex.mut (xG.trans g1) (if_pos rfl), ls ++ [D4], by rw [upd_same, List.map_append]; rfl, ?_, ?_, ?_, fun q m => (List.mem_append.mp m).elim (nq q) fun m => by rw [List.mem_singleton.mp m]; exact nD⟩
          · rw [List.take_add_one, hc, List.map_append]
            exact Lists.snoc (by rw [upd_ne nD]; exact hD4') (Lists.but nq hL1)
          · rw [List.length_append]; exact Nat.succ_le_succ hle
          · rw [List.take_add_one, hc, List.map_append]
            refine List.nodup_append.mpr ⟨hnd, by simp, fun u hu v hv => fun z => ?_⟩
            obtain rfl : v = told ts c := by simpa using hv
            exact hb (z ▸ hu)
      · rintro _ G ⟨u, v, rfl, eG, xG, ls, hsn, hL, hle, hnd, nq⟩
        rw [List.length_map, List.take_length] at hnd
        repeat fail "st"
        exact q _ _ (fG eG) ⟨fun _ => aft.mp hnd, fun _ => rfl⟩
end

end K10
namespace K10
open PySem PySem.Spec PyProof.Rows L2 Evl Lw
section
variable {P : Program} {w : World} {K : PySem.W.Frag} {mg : Str → Option Value} {base : Heap}
def spBack : Sp := fun vs H Q _ => ∃ v t, Tab H v t ∧ vs = [v] ∧ t.length ≤ 10 ∧ ∀ u rs H', Ex H H' → Tab H' u rs → (∀ p, p ∈ rs ↔ (p.2, p.1) ∈ t ∧ p.1 ≠ p.2) → (t.Nodup → rs.Nodup) → (rs.Pairwise fun p q => SrtO.lexB q p = false) → rs.length ≤ 10 → Q u H'
theorem c_law_back (T : Txt K mg) : Cl P w K mg base CX0 2 "_law_back" s_law_back ["_law_table_here"] spBack := by
  refine cl_of (k := 1) T.d_law_back sc_law_back (fun vs H Q E h => ?_) (fun f cdv A outer s H vs Q E hr h => ?_)
  · obtain ⟨v, t, _, rfl, _⟩ := h
    rfl
  · obtain ⟨v, t, ⟨a, qs, rfl, tu, rows⟩, rfl, hl, q⟩ := h
    have nd := sc_law_back.nd
    have lr := rows.len
    refine ⟨_, (pss_one (ps_ret (pe_callTy (Lw.cr_tupF) (by rfl) T.b_tuple bt_tuple (pa_cons (pe_callB (cr_sortedPO) (by rfl) T.b_sorted bt_sorted (pa_cons (pe_lc (own := [("_law_old", 1), ("_law_new", 2)]) (g := gTup K 2 (gCons (gName 1) (gCons (gName 2) (gNil)))) rfl nd (pi_tup (pv 0)) (L2.blkOk_by (N := N_law_back) (sc := defScope s_law_back) (by decide +kernel)) (fun _ _ _ _ _ => (pg_tup rfl (pgs_cons (pg_name (i := 1) nd rfl (Or.inl rfl)) (pgs_cons (pg_name (i := 2) nd rfl (Or.inl rfl)) pgs_nil)))) (fun _ _ _ _ _ => (pts_one (pt_cmpR op_ne (pv 1) (pv 2) (nomark _)))) (fun _ _ _ _ _ => (pe_tup (pa_cons (pv 2) (pa_cons (pv 1) pa_nil))))) pa_nil)) pa_nil)))), ?_⟩
    repeat fail "st"
    intro D hD
    refine lcT (SiftP (t.map fun p => (p.2, p.1))) (sift_mono _) hD tu.sq (by rw [List.length_map, lr]; omega) (fun j x hj H1 e1 Q1 Q2 q1 q2 => ?_) (fun H1 os e1 hl1 hD1 hp1 => ?_)
    · obtain ⟨r, p, rfl, _, hp, rp⟩ := rows_at' (rows.up e1) hj
      have hp' : (t.map fun p : Int × Int => (p.2, p.1))[j]? = some (p.2, p.1) := by rw [List.getElem?_map, hp]; rfl
      repeat fail "st"
      refine ifNt (fun hd => ?_) (fun hd => ?_)
      · have ne : p.2 ≠ p.1 := fun z => of_decide_eq_false hd (congrArg V.int z.symm)
        repeat fail "st"
        intro u n_u
        generalize hh : upd _ u _ = H_u
        have e_u := newEx hh n_u
        have h_u := newAt hh
        clear hh
        exact q1 _ _ e_u ⟨_, hp', .inl ⟨ne, _, rfl, h_u⟩⟩
      · exact q2 _ (Ex.refl _) ⟨_, hp', .inr ⟨(V.int.inj (of_decide_eq_true hd)).symm, rfl⟩⟩
    · obtain ⟨js, ej, rj⟩ := sift_all (fs := t.map fun p => (p.2, p.1)) (by rw [hl1, List.length_map, List.length_map, lr]) hp1
      rw [ej] at hD1
      refine ⟨D, js.map V.ref, kOf H1, rfl, SqL.of hD1, fun x m => ?_, fun ys p sy pm hn => ?_⟩
      · obtain ⟨r, mr, rfl⟩ := List.mem_map.mp m
        obtain ⟨pp, rp⟩ := rows_mem rj r mr
        exact ⟨r, rfl, by rw [kOf_row rp]; exact rp⟩
      obtain ⟨ey, pe⟩ := refs_perm pm.perm
      generalize hh : upd H1 p _ = H2
      have e2 := newEx hh hn
      have h2 := newAt hh
      clear hh
      rw [ey] at h2 sy
      have rz : Rows H1 (ys.map unref) ((ys.map unref).map fun a => kOf H1 (.ref a)) := rows_all fun b hb => rows_mem rj b (pe.mem_iff.mp hb)
      have prm : ((ys.map unref).map fun a => kOf H1 (.ref a)).Perm ((t.map fun p => (p.2, p.1)).filter fun p => decide (p.1 ≠ p.2)) := by
        rw [rows_get rj]
        exact pe.map _
      generalize hrs : ((ys.map unref).map fun a => kOf H1 (.ref a)) = rs at *
      refine ⟨_, _, rfl, SqL.of h2, fun l o hl2 ho => ?_⟩
      refine q _ rs _ (e1.trans (e2.trans (Ex.new hl2))) ⟨l, ys.map unref, rfl, ⟨o, ho, upd_same⟩, (rz.up e2).up (Ex.new hl2)⟩ (fun p => ?_) (fun nt => ?_) ?_ ?_
      · rw [prm.mem_iff]
        simp only [List.mem_filter, List.mem_map, decide_eq_true_eq]
        constructor
        · rintro ⟨⟨z, m, rfl⟩, ne⟩
          exact ⟨m, ne⟩
        · rintro ⟨m, ne⟩
          exact ⟨⟨_, m, rfl⟩, ne⟩
      · refine prm.nodup_iff.mpr (List.Pairwise.filter _ ?_)
        exact List.pairwise_map.mpr (nt.imp fun h z => h (Prod.ext (congrArg Prod.snd z) (congrArg Prod.fst z)))
      · rw [← hrs]
        exact List.pairwise_map.mpr (List.pairwise_map.mp sy)
      · rw [prm.length_eq]
        exact Nat.le_trans (List.length_filter_le _ _) (by rw [List.length_map]; exact hl)
end

end K10
namespace K10
open PySem PySem.Spec PyProof.Rows L2 Evl Lw
section
variable {P : Program} {w : World} {K : PySem.W.Frag} {mg : Str → Option Value} {base : Heap}
theorem tab_t {H H' : Hp} {v : V} {ps : Tb} (e : ExT H H') (t : Tab H v ps) : Tab H' v ps := by
  obtain ⟨a, qs, rfl, ⟨o, h1, h2⟩, r⟩ := t
  refine ⟨a, qs, rfl, ⟨o, h1, e _ _ (fun xs => by intro z; cases z) h2⟩, ?_⟩
  clear h1 h2
  induction r with
  | nil => exact .nil
  | cons h t ih => exact .cons (e _ _ (fun xs => by intro z; cases z) h) ih
theorem Small.ten {t : Tb} (s : Small t) : Good t ∧ t.length ≤ 10 := ⟨s.1, Nat.le_trans s.2.1 (by decide)⟩
theorem tabs1 {H : Hp} {a : V} {t : Tb} (h : Tab H a t) : Tabs H [a] [t] := .cons h .nil
theorem tabs2 {H : Hp} {a b : V} {t u : Tb} (h : Tab H a t) (k : Tab H b u) : Tabs H [a, b] [t, u] := .cons h (.cons k .nil)
theorem tabs3 {H : Hp} {a b c : V} {t u v : Tb} (h : Tab H a t) (k : Tab H b u) (l : Tab H c v) : Tabs H [a, b, c] [t, u, v] := .cons h (.cons k (.cons l .nil))
theorem fine1 {t : Tb} (h : Good t ∧ t.length ≤ 10) : Fine [t] := ⟨Nat.le_of_ble_eq_true rfl, fun x m => by rw [List.mem_singleton.mp m]; exact h⟩
theorem fine2 {t u : Tb} (h : Small t) (k : Small u) : Fine [t, u] := ⟨Nat.le_of_ble_eq_true rfl, fun x m => by
  simp only [List.mem_cons, List.not_mem_nil, or_false] at m
  rcases m with rfl | rfl
  · exact h.ten
  · exact k.ten⟩
theorem fine3 {t u v : Tb} (h : Small t) (k : Small u) (l : Small v) : Fine [t, u, v] := ⟨Nat.le_of_ble_eq_true rfl, fun x m => by
  simp only [List.mem_cons, List.not_mem_nil, or_false] at m
  rcases m with rfl | rfl | rfl
  · exact h.ten
  · exact k.ten
  · exact l.ten⟩
theorem small2 {t u : Tb} (h : Small t) (k : Small u) : ∀ x ∈ [t, u], x.length ≤ 5 ∧ ∀ r ∈ x, r.1 < 700000001 ∧ r.2 < 700000001 := fun x m => by
  simp only [List.mem_cons, List.not_mem_nil, or_false] at m
  rcases m with rfl | rfl
  · exact h.2
  · exact k.2
theorem small3 {t u v : Tb} (h : Small t) (k : Small u) (l : Small v) : ∀ x ∈ [t, u, v], x.length ≤ 5 ∧ ∀ r ∈ x, r.1 < 700000001 ∧ r.2 < 700000001 := fun x m => by
  simp only [List.mem_cons, List.not_mem_nil, or_false] at m
  rcases m with rfl | rfl | rfl
  · exact h.2
  · exact k.2
  · exact l.2
theorem apart_turn {a b c : Tb} : Apart [c, a, b] ↔ Apart [a, b, c] := by
  unfold Lw.Apart
  have n : ∀ x, Named [c, a, b] x ↔ Named [a, b, c] x := fun x => by
    unfold Named
    simp only [List.mem_cons, List.not_mem_nil, or_false, exists_eq_or_imp, exists_eq_left]
    exact ⟨fun z => z.elim (fun z => .inr (.inr z)) fun z => z.elim .inl fun z => .inr (.inl z), fun z => z.elim (fun z => .inr (.inl z)) fun z => z.elim (fun z => .inr (.inr z)) .inl⟩
  have t : ∀ x y, told [c, a, b] x = told [c, a, b] y ↔ told [a, b, c] x = told [a, b, c] y := fun x y => by
    unfold told
    simp only [List.map_cons, List.map_nil, List.cons.injEq, and_true]
    exact ⟨fun ⟨z1, z2, z3⟩ => ⟨z2, z3, z1⟩, fun ⟨z1, z2, z3⟩ => ⟨z3, z1, z2⟩⟩
  exact ⟨fun h x y hx hy e => h x y ((n x).mpr hx) ((n y).mpr hy) ((t x y).mpr e), fun h x y hx hy e => h x y ((n x).mp hx) ((n y).mp hy) ((t x y).mp e)⟩
theorem bool_of {a b : Bool} {p : Prop} (h : a = true ↔ p) (k : b = true ↔ p) : a = b := Bool.eq_iff_iff.mpr (h.trans k.symm)
def spRightK : Sp := fun vs H Q _ => ∃ p far, vs = [.ref p, .int far] ∧ Pool H p ∧ 1 ≤ far ∧ far ≤ 100000000 ∧ ∀ H', Ex H H' → Q (.bl true) H'
theorem c_law_right (T : Txt K mg) : ClG P w K mg base CX0 (8) "_law_right" s_law_right ["_law_pool_here", "_law_far"] spRightK := by
  refine clG_of (k := 7) T.d_law_right sc_law_right (fun vs H Q E h => ?_) (fun f cdv A outer s H vs Q E gd hr h => ?_)
  · obtain ⟨p, far, rfl, _⟩ := h
    rfl
  · obtain ⟨p, far, rfl, hp, f0, f1, q⟩ := h
    have nd := sc_law_right.nd
    refine ⟨_, (pss_cons (ps_asg (pe_lc (own := [("_law_k", 7)]) (g := gName 7) (tt := tYes) rfl nd (pi_range1 (by rfl) T.b_range (pa_cons pe_int pa_nil)) (L2.blkOk_by (N := N_law_right) (sc := defScope s_law_right) (by decide +kernel)) (fun _ _ _ _ _ => (pg_name (i := 7) nd rfl (Or.inl rfl))) (fun _ _ _ _ _ => pts_nil) (fun _ _ _ _ _ => (Lw.pe_cl (c_law_table T) b_law_table hr (by decide) (by rfl) pass0 (pa_cons (pv 0) (pa_cons (pv 1) pa_nil))))) (pg_lst rfl (pgs_cons (pg_name (i := 2) nd rfl (Or.inl rfl)) (pgs_cons (pg_name (i := 3) nd rfl (Or.inl rfl)) (pgs_cons (pg_name (i := 4) nd rfl (Or.inl rfl)) pgs_nil)))))
      (pss_cons (ps_set (i := 5) nd rfl (Or.inl rfl) (pe_lst (pa_cons (Lw.pe_clR (c_keeps_apart T) hr (by decide) (by rfl) pass0 (pa_cons (pv 2) pa_nil)) (pa_cons (Lw.pe_clR (c_keeps_apart T) hr (by decide) (by rfl) pass0 (pa_cons (pv 2) (pa_cons (pv 3) pa_nil))) (pa_cons (Lw.pe_clR (c_keeps_apart T) hr (by decide) (by rfl) pass0 (pa_cons (pv 2) (pa_cons (pv 3) (pa_cons (pv 4) pa_nil)))) (pa_cons (Lw.pe_clR (c_keeps_apart T) hr (by decide) (by rfl) pass0 (pa_cons (pv 4) (pa_cons (pv 2) (pa_cons (pv 3) pa_nil)))) pa_nil))))))
      (pss_cons (ps_set (i := 6) nd rfl (Or.inl rfl) (pe_lst (pa_cons (Lw.pe_cl (c_law_due T) b_law_due hr (by decide) (by rfl) pass0 (pa_cons (pe_lst (pa_cons (pv 2) pa_nil)) pa_nil)) (pa_cons (Lw.pe_cl (c_law_due T) b_law_due hr (by decide) (by rfl) pass0 (pa_cons (pe_lst (pa_cons (pv 2) (pa_cons (pv 3) pa_nil))) pa_nil)) (pa_cons (Lw.pe_cl (c_law_due T) b_law_due hr (by decide) (by rfl) pass0 (pa_cons (pe_lst (pa_cons (pv 2) (pa_cons (pv 3) (pa_cons (pv 4) pa_nil)))) pa_nil)) pa_nil)))))
      (pss_cons (ps_if (pt_cmpR op_ne (pe_callB (Lw.call_reprD gd (Lw.u70 hr)) (by rfl) T.b_repr bt_repr (pa_cons (pv 5) pa_nil)) (pe_callB (Lw.call_reprD gd (Lw.u70 hr)) (by rfl) T.b_repr bt_repr (pa_cons (pe_op op_cat (pv 6) (pe_slice sl_list (pv 6) (po_some pe_int) po_none)) pa_nil)) (nomark _)) (pss_one (ps_ret pe_bl)) pss_nil)
      (pss_cons (ps_if (PW.pt (pw_and (pt_val (pe_ix ix_seq (pv 6) pe_int (fun _ _ => rfl))) (pw_and1 (pt_cmpR (op_neD hr.units) (Lw.pe_cl (c_combined T) b_combined hr (by decide) (by rfl) pass0 (pa_cons (pv 2) (pa_cons (Lw.pe_cl (c_law_back T) b_law_back hr (by decide) (by rfl) pass0 (pa_cons (pv 2) pa_nil)) pa_nil))) (Lw.pe_tupF pa_nil) (nomark _))))) (pss_one (ps_ret pe_bl)) pss_nil)
      (pss_cons (ps_if (pt_cmpR (op_neD hr.units) (Lw.pe_cl (c_combined T) b_combined hr (by decide) (by rfl) pass0 (pa_cons (Lw.pe_cl (c_combined T) b_combined hr (by decide) (by rfl) pass0 (pa_cons (pv 2) (pa_cons (pv 3) pa_nil))) (pa_cons (pv 4) pa_nil))) (Lw.pe_cl (c_combined T) b_combined hr (by decide) (by rfl) pass0 (pa_cons (pv 2) (pa_cons (Lw.pe_cl (c_combined T) b_combined hr (by decide) (by rfl) pass0 (pa_cons (pv 3) (pa_cons (pv 4) pa_nil))) pa_nil))) (nomark _)) (pss_one (ps_ret pe_bl)) pss_nil)
      (pss_cons (ps_if (PW.pt (pw_and (pt_cmpR op_isBl (Lw.pe_clR (c_keeps_apart T) hr (by decide) (by rfl) pass0 (pa_cons (Lw.pe_cl (c_combined T) b_combined hr (by decide) (by rfl) pass0 (pa_cons (pv 2) (pa_cons (pv 3) pa_nil))) pa_nil)) pe_bl (nomark _)) (pw_and1 (pt_cmpR op_isBl (pe_ix ix_seq (pv 6) pe_int (fun _ _ => rfl)) pe_bl (nomark _))))) (pss_one (ps_ret pe_bl)) pss_nil)
      (pss_one (ps_ret (pe_cmpR op_eq (Lw.pe_cl (c_recoloured T) b_recoloured hr (by decide) (by rfl) pass0 (pa_cons (pe_op op_pow pe_int pe_int) (pa_cons (Lw.pe_cl (c_combined T) b_combined hr (by decide) (by rfl) pass0 (pa_cons (pv 2) (pa_cons (pv 4) pa_nil))) pa_nil))) (Lw.pe_cl (c_law_turned T) b_law_turned hr (by decide) (by rfl) pass0 (pa_cons (Lw.pe_cl (c_law_turned T) b_law_turned hr (by decide) (by rfl) pass0 (pa_cons (pe_op op_pow pe_int pe_int) (pa_cons (pv 2) pa_nil))) (pa_cons (pv 4) pa_nil))) (nomark _))))))))))), ?_⟩
    repeat fail "st"
    intro D hD
    refine lcR (All fun _ v H => ∃ t, Tab H v t ∧ Small t) (all_mono fun _ _ _ _ e ⟨t, h, k⟩ => ⟨t, tab_t e h, k⟩) hD (by decide) (fun j hj H1 e1 Q1 Q2 q1 q2 => ?_) (fun H1 os e1 hl1 hD1 hp1 => ?_)
    · have hp1 := hp.up e1
      repeat fail "st"
      exact fun v t H2 e2 ht k => q1 _ _ e2 ⟨_, rfl, t, ht, k⟩
    obtain ⟨ys, ey, ly, hy⟩ := All.end hp1
    rw [ey] at hD1
    have l3 : ys.length = 3 := ly.trans hl1
    obtain ⟨v1, v2, v3, rfl⟩ : ∃ a b c, ys = [a, b, c] := by
      match ys, l3 with
      | [a, b, c], _ => exact ⟨a, b, c, rfl⟩
    obtain ⟨t1, tb1, s1⟩ := hy 0 v1 rfl
    obtain ⟨t2, tb2, s2⟩ := hy 1 v2 rfl
    obtain ⟨t3, tb3, s3⟩ := hy 2 v3 rfl
    clear hp1 hy ly l3 ey hl1
    repeat fail "st"
    intro p1 np1
    refine ⟨p1, [v1], [t1], rfl, upd_same, tabs1 (tb1.up (Ex.new np1)), fine1 s1.ten, fun b1 H2 e2 hb1 => ?_⟩
    have e2 := (Ex.new np1).trans e2
    have u1 := tb1.up e2
    have u2 := tb2.up e2
    have u3 := tb3.up e2
    repeat fail "st"
    intro p2 np2
    refine ⟨p2, [v1, v2], [t1, t2], rfl, upd_same, tabs2 (u1.up (Ex.new np2)) (u2.up (Ex.new np2)), fine2 s1 s2, fun b2 H3 e3 hb2 => ?_⟩
    have e3 := (Ex.new np2).trans e3
    replace u1 := u1.up e3
    replace u2 := u2.up e3
    replace u3 := u3.up e3
    repeat fail "st"
    intro p3 np3
    refine ⟨p3, [v1, v2, v3], [t1, t2, t3], rfl, upd_same, tabs3 (u1.up (Ex.new np3)) (u2.up (Ex.new np3)) (u3.up (Ex.new np3)), fine3 s1 s2 s3, fun b3 H4 e4 hb3 => ?_⟩
    have e4 := (Ex.new np3).trans e4
    replace u1 := u1.up e4
    replace u2 := u2.up e4
    replace u3 := u3.up e4
    repeat fail "st"
    intro p4 np4
    refine ⟨p4, [v3, v1, v2], [t3, t1, t2], rfl, upd_same, tabs3 (u3.up (Ex.new np4)) (u1.up (Ex.new np4)) (u2.up (Ex.new np4)), fine3 s3 s1 s2, fun b4 H5 e5 hb4 => ?_⟩
    have e5 := (Ex.new np4).trans e5
    replace u1 := u1.up e5
    replace u2 := u2.up e5
    replace u3 := u3.up e5
    repeat fail "st"
    intro tl n_tl
    generalize hh : upd _ tl _ = H_tl
    have e_tl := newEx hh n_tl
    have h_tl := newAt hh
    clear hh
    replace u1 := u1.up e_tl
    replace u2 := u2.up e_tl
    replace u3 := u3.up e_tl
    have htl := h_tl
    clear h_tl
    repeat fail "st"
    intro l1 n_l1
    generalize hh : upd _ l1 _ = H_l1
    have e_l1 := newEx hh n_l1
    have h_l1 := newAt hh
    clear hh
    refine ⟨l1, [v1], [t1], rfl, h_l1, tabs1 (u1.up e_l1), by simp, Nat.le_of_ble_eq_true rfl, fun t m => by rw [List.mem_singleton.mp m]; exact s1.2, fun d1 H6 e6 hd1 => ?_⟩
    have e6 := e_l1.trans e6
    replace u1 := u1.up e6
    replace u2 := u2.up e6
    replace u3 := u3.up e6
    replace htl := e6 _ _ htl
    repeat fail "st"
    intro l2 n_l2
    generalize hh : upd _ l2 _ = H_l2
    have e_l2 := newEx hh n_l2
    have h_l2 := newAt hh
    clear hh
    refine ⟨l2, [v1, v2], [t1, t2], rfl, h_l2, tabs2 (u1.up e_l2) (u2.up e_l2), by simp, Nat.le_of_ble_eq_true rfl, small2 s1 s2, fun d2 H7 e7 hd2 => ?_⟩
    have e7 := e_l2.trans e7
    replace u1 := u1.up e7
    replace u2 := u2.up e7
    replace u3 := u3.up e7
    replace htl := e7 _ _ htl
    repeat fail "st"
    intro l3 n_l3
    generalize hh : upd _ l3 _ = H_l3
    have e_l3 := newEx hh n_l3
    have h_l3 := newAt hh
    clear hh
    refine ⟨l3, [v1, v2, v3], [t1, t2, t3], rfl, h_l3, tabs3 (u1.up e_l3) (u2.up e_l3) (u3.up e_l3), by simp, Nat.le_of_ble_eq_true rfl, small3 s1 s2 s3, fun d3 H8 e8 hd3 => ?_⟩
    have e8 := e_l3.trans e8
    replace u1 := u1.up e8
    replace u2 := u2.up e8
    replace u3 := u3.up e8
    replace htl := e8 _ _ htl
    have eb1 : b1 = d1 := bool_of hb1 ((hd1.trans ⟨fun z => ⟨by simp, z⟩, fun z => z.2⟩))
    have eb2 : b2 = d2 := bool_of hb2 ((hd2.trans ⟨fun z => ⟨by simp, z⟩, fun z => z.2⟩))
    have eb3 : b3 = d3 := bool_of hb3 ((hd3.trans ⟨fun z => ⟨by simp, z⟩, fun z => z.2⟩))
    have eb4 : b4 = d3 := bool_of hb4 (hd3.trans (apart_turn.symm.trans ⟨fun z => ⟨by simp, z⟩, fun z => z.2⟩))
    rw [eb1, eb2, eb3, eb4] at htl
    clear hb2 hb3 hb4 eb1 eb2 eb3 eb4 hd2 hd3
    repeat fail "st"
    intro du n_du
    generalize hh : upd _ du _ = H_du
    have e_du := newEx hh n_du
    have h_du := newAt hh
    clear hh
    replace u1 := u1.up e_du
    replace u2 := u2.up e_du
    replace u3 := u3.up e_du
    replace htl := e_du _ _ htl
    have hdu := h_du
    clear h_du
    have due4 : Paired Atm [.bl d1, .bl d2, .bl d3, .bl d3] [.bool d1, .bool d2, .bool d3, .bool d3] := .cons (.bl _) (.cons (.bl _) (.cons (.bl _) (.cons (.bl _) .nil)))
    obtain ⟨dd1, sh1⟩ := dd_l (K := K) (SqL.of htl) due4 (Nat.le_of_ble_eq_true rfl)
    repeat fail "st"
    refine ⟨_, _, dd1, sh1, rfl, ?_⟩
    repeat fail "st"
    intro sl n_sl
    generalize hh : upd _ sl _ = H_sl
    have e_sl := newEx hh n_sl
    have h_sl := newAt hh
    clear hh
    have hsl : H_sl sl = some (.lst [.bl d3]) := h_sl
    clear h_sl
    have hdu2 := e_sl _ _ hdu
    refine ⟨_, _, _, _, rfl, rfl, hdu2, hsl, Nat.le_trans (show _ ≤ 1000 by simp) (by decide), ?_⟩
    intro ct n_ct
    generalize hh : upd _ ct _ = H_ct
    have e_ct := newEx hh n_ct
    have h_ct := newAt hh
    clear hh
    obtain ⟨dd2, sh2⟩ := dd_l (K := K) (a := ct) (SqL.of h_ct) due4 (Nat.le_of_ble_eq_true rfl)
    repeat fail "st"
    refine ⟨_, _, dd2, sh2, rfl, ?_⟩
    have eA := e_sl.trans e_ct
    replace u1 := u1.up eA
    replace u2 := u2.up eA
    replace u3 := u3.up eA
    replace hdu := eA _ _ hdu
    repeat fail "st"
    refine ifNt (fun hne => ?_) (fun _ => ?_)
    · exact absurd hne (by simp)
    repeat fail "st"
    have l12 : t1.length + t2.length ≤ 60 := by have := s1.2.1; have := s2.2.1; omega
    have l23 : t2.length + t3.length ≤ 60 := by have := s2.2.1; have := s3.2.1; omega
    have l1 := s1.2.1
    have l2 := s2.2.1
    have l3 := s3.2.1
    have eAll := e1.trans (e2.trans (e3.trans (e4.trans (e5.trans (e_tl.trans (e6.trans (e7.trans (e8.trans (e_du.trans eA)))))))))
    refine ifB (fun hb1 => ?_) (fun hb1 => ?_)
    · repeat fail "st"
      refine ⟨v1, t1, u1, rfl, s1.ten.2, fun bk rs Hb eb tbk hm nrs lex lrs => ?_⟩
      have gb := back_good s1.1 (hd1.mp hb1) hm (nrs (s1.1.asc.imp fun h z => by rw [z] at h; exact Int.lt_irrefl _ h)) lex (Nat.le_trans lrs (by decide))
      repeat fail "st"
      refine ⟨v1, bk, t1, rs, u1.up eb, tbk, rfl, s1.1, gb, by have := s1.2.1; omega, fun x ts Hc ec hx hc => ?_⟩
      obtain rfl := chain_back hc (back_undoes s1.1 gb (hd1.mp hb1) hm)
      repeat fail "st"
      intro emp o nemp ho
      have ee := Ex.new (o := .frz o (.tup [])) nemp
      repeat fail "st"
      refine ne_tab (hx.up ee) ⟨emp, [], rfl, ⟨o, ho, upd_same⟩, .nil⟩ ?_
      have eD := eb.trans (ec.trans ee)
      have w1 := u1.up eD
      have w2 := u2.up eD
      have w3 := u3.up eD
      have hdw := eD _ _ hdu
      clear tbk hx hc
      repeat fail "st"
      refine ⟨v1, v2, t1, t2, w1, w2, rfl, s1.1, s2.1, l12, fun x ab H9 e9 tab c12 => ?_⟩
      have w3' := w3.up e9
      repeat fail "st"
      refine ⟨x, v3, ab, t3, tab, w3', rfl, c12.good s1.1 s2.1 (by omega), s3.1, by have := c12.len; omega, fun xl lft H10 e10 tlft cl => ?_⟩
      have w2a := (w2.up e9).up e10
      have w3a := w3'.up e10
      repeat fail "st"
      refine ⟨v2, v3, t2, t3, w2a, w3a, rfl, s2.1, s3.1, l23, fun y bc H11 e11 tbc c23 => ?_⟩
      have w1a := ((w1.up e9).up e10).up e11
      repeat fail "st"
      refine ⟨v1, y, t1, bc, w1a, tbc, rfl, s1.1, c23.good s2.1 s3.1 (by omega), by have := c23.len; omega, fun z rgt H12 e12 trgt cr => ?_⟩
      have same := chain_group c12 cl c23 cr
      subst same
      refine ne_tab ((tlft.up e11).up e12) trgt ?_
      have eF := e9.trans (e10.trans (e11.trans e12))
      have w1b := w1.up eF
      have w2b := w2.up eF
      have w3b := w3.up eF
      have hdb := eF _ _ hdw
      clear w1a w2a w3a w3' tlft trgt tbc tab c12 cl c23 cr
      repeat fail "st"
      refine ⟨v1, v2, t1, t2, w1b, w2b, rfl, s1.1, s2.1, l12, fun x2 ab2 H13 e13 tab2 c122 => ?_⟩
      have w1c := w1b.up e13
      have w3c := w3b.up e13
      have hdc := e13 _ _ hdb
      repeat fail "st"
      intro p9 np9
      refine ⟨p9, [x2], [ab2], rfl, upd_same, tabs1 (tab2.up (Ex.new np9)), fine1 ⟨c122.good s1.1 s2.1 (by omega), by have := c122.len; omega⟩, fun b5 H14 e14 hb5 => ?_⟩
      have e14 := (Ex.new np9).trans e14
      have hdd := e14 _ _ hdc
      have w1d := w1c.up e14
      have w3d := w3c.up e14
      have eG := eF.trans (e13.trans e14)
      have imp : b5 = true → d1 = true := fun z => hd1.mpr (chain_joins c122 (hb5.mp z).2)
      clear w1c w3c hdc w1b w2b w3b hdb tab2 hb5
      repeat fail "st"
      refine ifB (fun z1 => ?_) (fun z1 => ?_)
      · repeat fail "st"
        refine ifB (fun z2 => ?_) (fun z2 => ?_)
        · have y1 := imp (of_decide_eq_true z1)
          rw [of_decide_eq_true z2] at y1
          cases y1
        repeat fail "st"
        refine ⟨v1, v3, t1, t3, w1d, w3d, rfl, s1.1, s3.1, by omega, fun x5 ac H15 e15 tac c13 => ?_⟩
        have w1e := w1d.up e15
        have w3e := w3d.up e15
        repeat fail "st"
        refine ⟨_, x5, ac, tac, rfl, ⟨by decide, by decide⟩, c13.good s1.1 s3.1 (by omega), fun H16 e16 => ?_⟩
        have w1f := w1e.up e16
        have w3f := w3e.up e16
        repeat fail "st"
        refine ⟨_, v1, t1, w1f, rfl, ?_⟩
        repeat fail "st"
        refine ⟨_, v3, t3, w3f, rfl, ?_⟩
        repeat fail "st"
        rw [c13.turn, decide_eq_true rfl]
        exact q _ (eAll.trans (eD.trans (eG.trans (e15.trans e16))))
      repeat fail "st"
      refine ⟨v1, v3, t1, t3, w1d, w3d, rfl, s1.1, s3.1, by omega, fun x5 ac H15 e15 tac c13 => ?_⟩
      have w1e := w1d.up e15
      have w3e := w3d.up e15
      repeat fail "st"
      refine ⟨_, x5, ac, tac, rfl, ⟨by decide, by decide⟩, c13.good s1.1 s3.1 (by omega), fun H16 e16 => ?_⟩
      have w1f := w1e.up e16
      have w3f := w3e.up e16
      repeat fail "st"
      refine ⟨_, v1, t1, w1f, rfl, ?_⟩
      repeat fail "st"
      refine ⟨_, v3, t3, w3f, rfl, ?_⟩
      repeat fail "st"
      rw [c13.turn, decide_eq_true rfl]
      exact q _ (eAll.trans (eD.trans (eG.trans (e15.trans e16))))
    · have w1 := u1
      have w2 := u2
      have w3 := u3
      have hdw := hdu
      have eD0 := Ex.refl H_ct
      repeat fail "st"
      refine ⟨v1, v2, t1, t2, w1, w2, rfl, s1.1, s2.1, l12, fun x ab H9 e9 tab c12 => ?_⟩
      have w3' := w3.up e9
      repeat fail "st"
      refine ⟨x, v3, ab, t3, tab, w3', rfl, c12.good s1.1 s2.1 (by omega), s3.1, by have := c12.len; omega, fun xl lft H10 e10 tlft cl => ?_⟩
      have w2a := (w2.up e9).up e10
      have w3a := w3'.up e10
      repeat fail "st"
      refine ⟨v2, v3, t2, t3, w2a, w3a, rfl, s2.1, s3.1, l23, fun y bc H11 e11 tbc c23 => ?_⟩
      have w1a := ((w1.up e9).up e10).up e11
      repeat fail "st"
      refine ⟨v1, y, t1, bc, w1a, tbc, rfl, s1.1, c23.good s2.1 s3.1 (by omega), by have := c23.len; omega, fun z rgt H12 e12 trgt cr => ?_⟩
      have same := chain_group c12 cl c23 cr
      subst same
      refine ne_tab ((tlft.up e11).up e12) trgt ?_
      have eF := e9.trans (e10.trans (e11.trans e12))
      have w1b := w1.up eF
      have w2b := w2.up eF
      have w3b := w3.up eF
      have hdb := eF _ _ hdw
      clear w1a w2a w3a w3' tlft trgt tbc tab c12 cl c23 cr
      repeat fail "st"
      refine ⟨v1, v2, t1, t2, w1b, w2b, rfl, s1.1, s2.1, l12, fun x2 ab2 H13 e13 tab2 c122 => ?_⟩
      have w1c := w1b.up e13
      have w3c := w3b.up e13
      have hdc := e13 _ _ hdb
      repeat fail "st"
      intro p9 np9
      refine ⟨p9, [x2], [ab2], rfl, upd_same, tabs1 (tab2.up (Ex.new np9)), fine1 ⟨c122.good s1.1 s2.1 (by omega), by have := c122.len; omega⟩, fun b5 H14 e14 hb5 => ?_⟩
      have e14 := (Ex.new np9).trans e14
      have hdd := e14 _ _ hdc
      have w1d := w1c.up e14
      have w3d := w3c.up e14
      have eG := eF.trans (e13.trans e14)
      have imp : b5 = true → d1 = true := fun z => hd1.mpr (chain_joins c122 (hb5.mp z).2)
      clear w1c w3c hdc w1b w2b w3b hdb tab2 hb5
      repeat fail "st"
      refine ifB (fun z1 => ?_) (fun z1 => ?_)
      · repeat fail "st"
        refine ifB (fun z2 => ?_) (fun z2 => ?_)
        · have y1 := imp (of_decide_eq_true z1)
          rw [of_decide_eq_true z2] at y1
          cases y1
        repeat fail "st"
        refine ⟨v1, v3, t1, t3, w1d, w3d, rfl, s1.1, s3.1, by omega, fun x5 ac H15 e15 tac c13 => ?_⟩
        have w1e := w1d.up e15
        have w3e := w3d.up e15
        repeat fail "st"
        refine ⟨_, x5, ac, tac, rfl, ⟨by decide, by decide⟩, c13.good s1.1 s3.1 (by omega), fun H16 e16 => ?_⟩
        have w1f := w1e.up e16
        have w3f := w3e.up e16
        repeat fail "st"
        refine ⟨_, v1, t1, w1f, rfl, ?_⟩
        repeat fail "st"
        refine ⟨_, v3, t3, w3f, rfl, ?_⟩
        repeat fail "st"
        rw [c13.turn, decide_eq_true rfl]
        exact q _ (eAll.trans (eD0.trans (eG.trans (e15.trans e16))))
      repeat fail "st"
      refine ⟨v1, v3, t1, t3, w1d, w3d, rfl, s1.1, s3.1, by omega, fun x5 ac H15 e15 tac c13 => ?_⟩
      have w1e := w1d.up e15
      have w3e := w3d.up e15
      repeat fail "st"
      refine ⟨_, x5, ac, tac, rfl, ⟨by decide, by decide⟩, c13.good s1.1 s3.1 (by omega), fun H16 e16 => ?_⟩
      have w1f := w1e.up e16
      have w3f := w3e.up e16
      repeat fail "st"
      refine ⟨_, v1, t1, w1f, rfl, ?_⟩
      repeat fail "st"
      refine ⟨_, v3, t3, w3f, rfl, ?_⟩
      repeat fail "st"
      rw [c13.turn, decide_eq_true rfl]
      exact q _ (eAll.trans (eD0.trans (eG.trans (e15.trans e16))))
end

end K10
namespace K10
open PySem PySem.Spec PyProof.Rows L2 Evl Lw
section
variable {P : Program} {w : World} {K : PySem.W.Frag} {mg : Str → Option Value} {base : Heap}
theorem apart_nil : Apart [[]] := fun x y ⟨t, m, p, hp, _⟩ => by
  rw [List.mem_singleton.mp m] at hp
  cases hp
theorem apart_nil2 : Apart [[], []] := fun x y ⟨t, m, p, hp, _⟩ => by
  simp only [List.mem_cons, List.not_mem_nil, or_false, or_self] at m
  rw [m] at hp
  cases hp
theorem small_nil : Small [] := ⟨good_nil, by decide, fun r m => by cases m⟩
theorem c_law (T : Txt K mg) : ClG P w K mg base CX0 9 "law" s_law ["_law_script"] (spLaw K) := by
  refine clG_of (k := 8) T.d_law sc_law (fun vs H Q E h => ?_) (fun f cdv A outer s H vs Q E gd hr h => ?_)
  · obtain ⟨a, ns, rfl, _⟩ := h
    rfl
  · obtain ⟨a, ns, rfl, hS, hl, q⟩ := h
    have nd := sc_law.nd
    refine ⟨_, (pss_cons (ps_for PassesOwn.never rfl (pi_range1 (by rfl) T.b_range (pa_cons (pe_callB (call_max2 rfl) (by rfl) T.b_max bt_max (pa_cons pe_int (pa_cons (pe_callB (call_min2 rfl) (by rfl) T.b_min bt_min (pa_cons (pe_callB (call_len) (by rfl) T.b_len bt_len (pa_cons (pv 0) pa_nil)) (pa_cons pe_int pa_nil))) pa_nil))) pa_nil)) (pg_name (i := 1) nd rfl (Or.inl rfl)) (pss_cons (ps_set (i := 2) nd rfl (Or.inr rfl) (Lw.pe_cl (c_law_pool T) b_law_pool hr (by decide) (by rfl) pass0 (pa_cons (Lw.pe_cl (c_law_cell T) b_law_cell hr (by decide) (by rfl) pass0 (pa_cons (pv 0) (pa_cons (pv 1) pa_nil))) pa_nil)))
      (pss_one (ps_if (pt_not (pt_val (pe_callB (cr_all rfl) (by rfl) T.b_all bt_all (pa_cons (pe_lc (own := [("_law_turn", 3)]) (g := gName 3) (tt := tYes) rfl nd (pi_range1 (by rfl) T.b_range (pa_cons pe_int pa_nil)) (L2.blkOk_by (N := N_law) (sc := defScope s_law) (by decide +kernel)) (fun _ _ _ _ _ => (pg_name (i := 3) nd rfl (Or.inl rfl))) (fun _ _ _ _ _ => pts_nil) (fun _ _ _ _ _ => (Lw.pe_clG (c_law_right T) b_law_right gd hr (by decide) (by rfl) pass0 (pa_cons (pv 2) (pa_cons (pe_ix (ix_seq : IxR _ (rIx K)) (pe_lst (pa_cons pe_int (pa_cons pe_int (pa_cons (pe_op op_pow pe_int pe_int) pa_nil)))) (pe_op op_mod (pv 3) pe_int) (fun _ _ => rfl)) pa_nil))))) pa_nil)))) (pss_one (ps_ret pe_bl)) pss_nil))))
      (pss_one (ps_ret (pe_and (pe_cmpR op_isBl (Lw.pe_clR0 (c_keeps_apart T) hr (by decide) (by rfl) pass0) pe_bl (nomark _)) (pe_and (pe_cmpR op_isBl (Lw.pe_clR (c_keeps_apart T) hr (by decide) (by rfl) pass0 (pa_cons (Lw.pe_tupF pa_nil) pa_nil)) pe_bl (nomark _)) (pe_one (pe_cmpR op_isBl (Lw.pe_clR (c_keeps_apart T) hr (by decide) (by rfl) pass0 (pa_cons (Lw.pe_tupF pa_nil) (pa_cons (Lw.pe_tupF pa_nil) pa_nil))) pe_bl (nomark _)))))))), ?_⟩
    repeat fail "st"
    refine for_range (fun _ σ H' => ∃ y z, σ = [some (.ref a), y, z, none] ∧ Ex H H') ⟨_, _, rfl, Ex.refl _⟩ ?_ ?_
    · rintro i _ H' hi ⟨y, z, rfl, e⟩
      have hi6 : i ≤ 6 := by
        revert hi
        (repeat' split) <;> omega
      have hS' := ex_l e hS
      repeat fail "st"
      refine ⟨_, _, _, rfl, (by fail "sql"), hl, by omega, by omega, fun c Hc ec => ?_⟩
      repeat fail "st"
      intro pl Hp np ep pp
      repeat fail "st"
      intro D hD
      refine lcR (All fun _ v _ => v = V.bl true) (all_mono fun _ _ _ _ _ h => h) hD (by decide) (fun j hj H1 e1 Q1 Q2 q1 q2 => ?_) (fun H2 os e2 hl2 hD2 hp2 => ?_)
      · have pp1 := pp.up e1
        repeat fail "st"
        intro l n_l
        generalize hh : upd _ l _ = H_l
        have e_l := newEx hh n_l
        have h_l := newAt hh
        clear hh
        repeat fail "st"
        show rIx K _ _ _ _
        refine ix_in (.inl (SqL.of h_l)) (by omega) (by show _ < (3 : Int); omega) (fun v hv => ?_)
        have hf : ∃ far : Int, v = V.int far ∧ 1 ≤ far ∧ far ≤ 100000000 := by
          rcases List.mem_cons.mp hv with rfl | hv
          · exact ⟨_, rfl, by decide, by decide⟩
          rcases List.mem_cons.mp hv with rfl | hv
          · exact ⟨_, rfl, by decide, by decide⟩
          rcases List.mem_cons.mp hv with rfl | hv
          · exact ⟨_, rfl, by decide, by decide⟩
          · cases hv
        obtain ⟨far, rfl, f0, f1⟩ := hf
        have pp2 := pp1.up e_l
        repeat fail "st"
        intro H3 e3
        exact q1 _ _ (e_l.trans e3) ⟨_, rfl, rfl⟩
      · obtain ⟨ys, ey, ly, hy⟩ := All.end hp2
        rw [ey] at hD2
        obtain ⟨bs, eb, hb⟩ := all_true (ys := ys) (fun y hy1 => by
          obtain ⟨i, hi, e⟩ := List.getElem_of_mem hy1
          exact hy i y (by rw [List.getElem?_eq_getElem hi, e]))
        subst eb
        refine ⟨_, _, rfl, SqL.of hD2, ?_⟩
        rw [hb]
        repeat fail "st"
        exact e.trans (ec.trans (ep.trans e2))
    · rintro _ H' ⟨y, z, rfl, e⟩
      repeat fail "st"
      intro p1 np1
      refine ⟨p1, [], [], rfl, upd_same, .nil, ⟨by decide, fun _ m => by cases m⟩, fun b1 H2 e2 hb1 => ?_⟩
      obtain rfl : b1 = false := by
        cases b1 with
        | false => rfl
        | true => exact absurd rfl (hb1.mp rfl).1
      repeat fail "st"
      intro t1 o1 nt1 ho1
      have tab1 : Tab (upd H2 t1 (.frz o1 (.tup []))) (.ref t1) [] := ⟨t1, [], rfl, ⟨o1, ho1, upd_same⟩, .nil⟩
      repeat fail "st"
      intro p2 np2
      refine ⟨p2, [.ref t1], [[]], rfl, upd_same, tabs1 (tab1.up (Ex.new np2)), fine1 small_nil.ten, fun b2 H3 e3 hb2 => ?_⟩
      obtain rfl := hb2.mpr ⟨by simp, apart_nil⟩
      repeat fail "st"
      intro t2 o2 nt2 ho2
      repeat fail "st"
      intro t3 o3 nt3 ho3
      have tab2 : Tab (upd H3 t2 (.frz o2 (.tup []))) (.ref t2) [] := ⟨t2, [], rfl, ⟨o2, ho2, upd_same⟩, .nil⟩
      have tab3 : Tab (upd (upd H3 t2 (.frz o2 (.tup []))) t3 (.frz o3 (.tup []))) (.ref t3) [] := ⟨t3, [], rfl, ⟨o3, ho3, upd_same⟩, .nil⟩
      repeat fail "st"
      intro p3 np3
      refine ⟨p3, [.ref t2, .ref t3], [[], []], rfl, upd_same, tabs2 ((tab2.up (Ex.new nt3)).up (Ex.new np3)) (tab3.up (Ex.new np3)), fine2 small_nil small_nil, fun b3 H4 e4 hb3 => ?_⟩
      obtain rfl := hb3.mpr ⟨by simp, apart_nil2⟩
      repeat fail "st"
      exact q _
theorem law_mk {l : PySem.W.OpenLaw} {h : Heap} {fa : Addr} (T : Txt K mg) (hfa : mg "law" = some (.ref fa)) : LawG l w K CX0 9 63 "_law_script" mg fa h := by
  obtain ⟨fd, F, b⟩ := law_fd T.d_law b_law hfa
  refine ⟨fd, [], spLaw K, fun p m => ?_, fun p m => ?_, fun p m => ?_, b, fun H a ns hl tb hS => ?_, fun base _ _ TB => ?_⟩
  · cases m
  · cases m
  · cases m
  · exact ⟨a, ns, rfl, hS, hl, fun _ => rfl⟩
  · exact (c_law T).at F hfa
end

end K10
open PySem PySem.W PyProof.Rows
set_option maxHeartbeats 0 in
theorem PySem.Challenge.cw_allscreens_k10_whole_tables_that_keep_co_holds : PySem.Challenge.rw_allscreens_k10_whole_tables_that_keep_co.Holds := by
  w_on; o_law; k_head; (case hw => w_witness2)
  k_fill
  refine Lw.walk_gd (l := PySem.Challenge.rw_allscreens_k10_whole_tables_that_keep_co) (n := 63) (k := 9) (x := "_law_script") (CX := fun _ => L2.CX0) rfl (by decide) rfl ⟨rfl, by decide, by decide⟩ (fun w h Y => PySem.W.kIn_of Y) ?F (fun _ _ _ _ _ h => h)
  case F =>
    intro w mg fa h Y KX G hmg
    refine' K10.law_mk ⟨Lw.defAt_mk KX G ?a0 ?l0 ?c0 ?k0, Lw.defAt_mk KX G ?a1 ?l1 ?c1 ?k1, Lw.defAt_mk KX G ?a2 ?l2 ?c2 ?k2, Lw.defAt_mk KX G ?a3 ?l3 ?c3 ?k3, Lw.defAt_mk KX G ?a4 ?l4 ?c4 ?k4, Lw.defAt_mk KX G ?a5 ?l5 ?c5 ?k5, Lw.defAt_mk KX G ?a6 ?l6 ?c6 ?k6, Lw.defAt_mk KX G ?a7 ?l7 ?c7 ?k7, Lw.defAt_mk KX G ?a8 ?l8 ?c8 ?k8, Lw.defAt_mk KX G ?a9 ?l9 ?c9 ?k9, Lw.defAt_mk KX G ?a10 ?l10 ?c10 ?k10, Lw.defAt_mk KX G ?a11 ?l11 ?c11 ?k11, Lw.defAt_mk KX G ?a12 ?l12 ?c12 ?k12, Lw.defAt_mk KX G ?a13 ?l13 ?c13 ?k13, Lw.defAt_mk KX G ?a14 ?l14 ?c14 ?k14, Lw.defAt_mk KX G ?a15 ?l15 ?c15 ?k15, Lw.defAt_mk KX G ?a16 ?l16 ?c16 ?k16, Lw.defAt_mk KX G ?a17 ?l17 ?c17 ?k17, Lw.defAt_mk KX G ?a18 ?l18 ?c18 ?k18, Lw.defAt_mk KX G ?a19 ?l19 ?c19 ?k19, Lw.defAt_mk KX G ?a20 ?l20 ?c20 ?k20, Lw.defAt_mk KX G ?a21 ?l21 ?c21 ?k21, Lw.defAt_mk KX G ?a22 ?l22 ?c22 ?k22, PySem.W.mg_none_of KX G ?z0, PySem.W.mg_none_of KX G ?z1, PySem.W.mg_none_of KX G ?z2, PySem.W.mg_none_of KX G ?z3, PySem.W.mg_none_of KX G ?z4, PySem.W.mg_none_of KX G ?z5, PySem.W.mg_none_of KX G ?z6, PySem.W.mg_none_of KX G ?z7, PySem.W.mg_none_of KX G ?z8, PySem.W.mg_none_of KX G ?z9, PySem.W.mg_none_of KX G ?z10, PySem.W.mg_none_of KX G ?z11, PySem.W.mg_none_of KX G ?z12, PySem.W.mg_none_of KX G ?z13, PySem.W.mg_none_of KX G ?z14, Lw.const_mk KX G ?cst0 ?rst0⟩ hmg
    (case a0 => k_is)
    (case l0 => k_is)
    (case c0 => k_is)
    (case k0 => k_is)
    (case a1 => k_is)
    (case l1 => k_is)
    (case c1 => k_is)
    (case k1 => k_is)
    (case a2 => k_is)
    (case l2 => k_is)
    (case c2 => k_is)
    (case k2 => k_is)
    (case a3 => k_is)
    (case l3 => k_is)
    (case c3 => k_is)
    (case k3 => k_is)
    (case a4 => k_is)
    (case l4 => k_is)
    (case c4 => k_is)
    (case k4 => k_is)
    (case a5 => k_is)
    (case l5 => k_is)
    (case c5 => k_is)
    (case k5 => k_is)
    (case a6 => k_is)
    (case l6 => k_is)
    (case c6 => k_is)
    (case k6 => k_is)
    (case a7 => k_is)
    (case l7 => k_is)
    (case c7 => k_is)
    (case k7 => k_is)
    (case a8 => k_is)
    (case l8 => k_is)
    (case c8 => k_is)
    (case k8 => k_is)
    (case a9 => k_is)
    (case l9 => k_is)
    (case c9 => k_is)
    (case k9 => k_is)
    (case a10 => k_is)
    (case l10 => k_is)
    (case c10 => k_is)
    (case k10 => k_is)
    (case a11 => k_is)
    (case l11 => k_is)
    (case c11 => k_is)
    (case k11 => k_is)
    (case a12 => k_is)
    (case l12 => k_is)
    (case c12 => k_is)
    (case k12 => k_is)
    (case a13 => k_is)
    (case l13 => k_is)
    (case c13 => k_is)
    (case k13 => k_is)
    (case a14 => k_is)
    (case l14 => k_is)
    (case c14 => k_is)
    (case k14 => k_is)
    (case a15 => k_is)
    (case l15 => k_is)
    (case c15 => k_is)
    (case k15 => k_is)
    (case a16 => k_is)
    (case l16 => k_is)
    (case c16 => k_is)
    (case k16 => k_is)
    (case a17 => k_is)
    (case l17 => k_is)
    (case c17 => k_is)
    (case k17 => k_is)
    (case a18 => k_is)
    (case l18 => k_is)
    (case c18 => k_is)
    (case k18 => k_is)
    (case a19 => k_is)
    (case l19 => k_is)
    (case c19 => k_is)
    (case k19 => k_is)
    (case a20 => k_is)
    (case l20 => k_is)
    (case c20 => k_is)
    (case k20 => k_is)
    (case a21 => k_is)
    (case l21 => k_is)
    (case c21 => k_is)
    (case k21 => k_is)
    (case a22 => k_is)
    (case l22 => k_is)
    (case c22 => k_is)
    (case k22 => k_is)
    (case z0 => k_is)
    (case z1 => k_is)
    (case z2 => k_is)
    (case z3 => k_is)
    (case z4 => k_is)
    (case z5 => k_is)
    (case z6 => k_is)
    (case z7 => k_is)
    (case z8 => k_is)
    (case z9 => k_is)
    (case z10 => k_is)
    (case z11 => k_is)
    (case z12 => k_is)
    (case z13 => k_is)
    (case z14 => k_is)
    (case cst0 => k_is)
    (case rst0 => exact ⟨_, rfl⟩)
