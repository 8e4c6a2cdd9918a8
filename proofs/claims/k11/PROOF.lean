import PyProof.Rows.All
import Wide.All
import OpenK.AllK
import Wide.FinOn
import HandS.ForMost
import HandS.WideBits
import HandS.Wide
import HandS.IsInst
import HandS.Evl
import HandS.Codes
import HandS.Defaults
import HandS.Style
import HandS.RaiseMore
import KE.KDictPairs
import HandS.DictTup
import HandS.SortRule
import HandS.SortInts
import HandS.SetBool
import HandS.Strs
import HandS.TupAny
import PyProof.P3Eq
import HandS.ExcInit
import HandS.TryMany
import HandS.Lambda
import HandS.EndTab
import KE.KNestM
import HandS.ExcIs
import HandS.ExcField
import HandS.WordsExc
import KE.KExcIs
import KE.KTryMore
import HandS.Star
import PySem.Challenge.RW_allscreens_k11_tables_refused
set_option Elab.async false
set_option linter.all false
set_option maxRecDepth 100000
set_option maxHeartbeats 1000000
/-! The base of all proofs here: pools of draws as opaque objects, calls, values told in a heap. -/
namespace Lw
open PySem PySem.Spec PyProof.Rows L2 Evl

/-! ### a pool of draws: a list of three ints, whatever they are -/
def poolP (p : Addr) : Heap → Prop := fun h => ∃ (a b c : Int) (its : List Value) (n : Nat), Vals [.int a, .int b, .int c] its ∧ h.get? p = some { cls := .type "list", data := .seq its.toArray n }
def Pool (H : Hp) (p : Addr) : Prop := H p = some (.ext (poolP p))
theorem three_line : (3 : Nat) ≤ sizeLine := by decide

section
variable {P : Program} {w : World} {H : Hp} {h : Heap} {p : Addr}
theorem pool_open (ok : HOk P w H h) (hp : Pool H p) : ∃ a b c : Int, HOk P w (upd H p (.lst [.int a, .int b, .int c])) h := by
  obtain ⟨⟨a, b, c, its, n, r, e⟩, _, _⟩ := ok p _ hp
  refine ⟨a, b, c, fun x o hx => ?_⟩
  by_cases hb : x = p
  · subst hb
    rw [upd_same] at hx
    cases hx
    exact ⟨three_line, its, n, r, e⟩
  · rw [upd_ne hb] at hx
    refine (ok x o hx).stay (fun _ _ _ q => q) (fun y q => ?_) (fun y xs q => ?_)
    · rw [upd_ne (ne_of q hp (by intro z; cases z))]
      exact q
    · rw [upd_ne (ne_of q hp (by intro z; cases z))]
      exact q
theorem pool_close {a b c : Int} (ok : HOk P w H h) (hp : H p = some (.lst [.int a, .int b, .int c])) : HOk P w (upd H p (.ext (poolP p))) h := by
  obtain ⟨_, its, n, r, e⟩ := ok p _ hp
  refine fun x o hx => ?_
  by_cases hb : x = p
  · subst hb
    rw [upd_same] at hx
    cases hx
    exact ⟨⟨a, b, c, its, n, r, e⟩, ⟨_, e⟩, fun h1 h2 ⟨a, b, c, its, n, r, e⟩ k => ⟨a, b, c, its, n, r, k _ e⟩⟩
  · rw [upd_ne hb] at hx
    refine (ok x o hx).stay (fun _ _ _ q => q) (fun y q => ?_) (fun y xs q => ?_)
    · rw [upd_ne (ne_of q hp (by intro z; cases z))]
      exact q
    · rw [upd_ne (ne_of q hp (by intro z; cases z))]
      exact q
end

section
variable {P : Program} {w : World} {K : PySem.W.Frag} {mg : Str → Option Value} {base : Heap} {k : Nat} {f : Addr} {fd : FuncData} {ps : List Str} {sp sp1 : Sp}
/-- at the end: a new list of three ints is handed back as a pool -/
theorem fn_newpool (F : FnOk P w K mg base CX0 k f fd ps sp1)
    (h : ∀ vs H Q E, sp vs H Q E → sp1 vs H (fun v H' => ∃ p a b c, v = .ref p ∧ H p = none ∧ H' p = some (.lst [.int a, .int b, .int c]) ∧ Q v (upd H' p (.ext (poolP p)))) E) :
    FnOk P w K mg base CX0 k f fd ps sp := by
  refine ⟨fun vs H Q E q => F.len _ _ _ _ (h _ _ _ _ q), fun A outer s H args us vs Q E hr he hb hv hs => ?_⟩
  refine codeAny_mono (F.run A outer s H args us vs _ E hr he hb hv (h _ _ _ _ hs)) fun r s' q => ?_
  cases r with
  | error e => exact q
  | ok fl =>
    cases fl with
    | next => exact q
    | brk => exact q
    | cont => exact q
    | ret u =>
      obtain ⟨v, H', os, bare, un, hok, r, p, a, b, c, rfl, hn, hp, q⟩ := q
      refine ⟨_, _, os, bare, ?_, pool_close hok hp, r, q⟩
      refine ⟨un.keep, un.slot, fun x o e n hx => ?_, un.there, fun x xs e => ?_, fun x o u e => ?_, fun x t e => ?_⟩
      · by_cases hb : x = p
        · subst hb
          have := un.free x o e n hx
          rw [hp] at this
          cases this
        · rw [upd_ne hb]
          exact un.free x o e n hx
      · rw [upd_ne (ne_of (un.tups x xs e) hp (by intro z; cases z))]
        exact un.tups x xs e
      · rw [upd_ne (ne_of (un.frzs x o u e) hp (by intro z; cases z))]
        exact un.frzs x o u e
      · obtain ⟨m, e2⟩ := un.tbls x t e
        rw [upd_ne (ne_of e2 hp (by intro z; cases z))]
        exact ⟨m, e2⟩
/-- a def that works at a pool's three ints, told as one that leaves the pool a pool -/
theorem fn_pool (F : FnOk P w K mg base CX0 k f fd ps sp1)
    (h : ∀ vs H Q E, sp vs H Q E → vs.length = ps.length ∧ ∃ p, Pool H p ∧ ∀ a b c : Int, sp1 vs (upd H p (.lst [.int a, .int b, .int c])) (fun v H' => ∃ a b c : Int, H' p = some (.lst [.int a, .int b, .int c]) ∧ Q v (upd H' p (.ext (poolP p)))) E) :
    FnOk P w K mg base CX0 k f fd ps sp := by
  refine ⟨fun vs H Q E q => (h _ _ _ _ q).1, fun A outer s H args us vs Q E hr he hb hv hs => ?_⟩
  obtain ⟨_, p, hp, hs⟩ := h _ _ _ _ hs
  obtain ⟨a, b, c, ok⟩ := pool_open he.hok hp
  have e1 : Env0 P w K mg base A outer s (upd H p (.lst [.int a, .int b, .int c])) :=
    ⟨he.frames, he.mod, fun x o e => ⟨(he.bs x o e).1, by rw [upd_ne (ne_of_none hp (he.bs x o e).2).symm]; exact (he.bs x o e).2⟩, he.bsz, he.funs,
      fun x hx => by rw [upd_ne (ne_of_none hp (he.frf x hx)).symm]; exact he.frf x hx, ok, he.bare⟩
  refine codeAny_mono (F.run A outer s _ args us vs _ E hr e1 hb hv (hs a b c)) fun r s' q => ?_
  cases r with
  | error e => exact q
  | ok fl =>
    cases fl with
    | next => exact q
    | brk => exact q
    | cont => exact q
    | ret u =>
      obtain ⟨v, H', os, bare, un, hok, r, a', b', c', hq, q⟩ := q
      refine ⟨_, _, os, bare, ?_, pool_close hok hq, r, q⟩
      have nn : ∀ {x}, H x = none → (upd H p (.lst [.int a, .int b, .int c])) x = none := fun {x} n => by rw [upd_ne (ne_of_none hp n).symm]; exact n
      refine ⟨fun x o e n => un.keep x o e (nn n), fun x o e n => un.slot x o e (nn n), fun x o e n hx => ?_, un.there, fun x xs e => ?_, fun x o u e => ?_, fun x t e => ?_⟩
      · rw [upd_ne (ne_of_none hp n).symm]
        exact un.free x o e (nn n) hx
      · have hb : x ≠ p := ne_of e hp (by intro z; cases z)
        rw [upd_ne hb]
        exact un.tups x xs (by rw [upd_ne hb]; exact e)
      · have hb : x ≠ p := ne_of e hp (by intro z; cases z)
        rw [upd_ne hb]
        exact un.frzs x o u (by rw [upd_ne hb]; exact e)
      · have hb : x ≠ p := ne_of e hp (by intro z; cases z)
        obtain ⟨m, e2⟩ := un.tbls x t (by rw [upd_ne hb]; exact e)
        exact ⟨m, by rw [upd_ne hb]; exact e2⟩
end

/-! ### a def of the text, its name; a def that may be called -/
structure DefAt (K : PySem.W.Frag) (mg : Str → Option Value) (x : Str) (st : Stmt) : Prop where
  ex : ∃ (f : Addr) (fd : FuncData), Fun K x x st f fd ∧ mg x = some (.ref f)
/-- all parameters are written, by position -/
def Bnd (x : Str) (st : Stmt) (ps : List Str) : Prop := ∀ (kV doc pm : Value) (an : Option Addr) (cdv ct : Value) (us : List Value), us.length = ps.length →
  bindArgs (PySem.W.fnOf x x (defArgs st) (defBody st) (defScope st) .none kV doc pm an cdv ct) ⟨us, []⟩ = pure (ps.zip us)
/-- n by position, the others by the names ks -/
def BndK (x : Str) (st : Stmt) (ps : List Str) (n : Nat) (ks : List Str) (g : {α : Type} → List α → List α → List α) : Prop :=
  ∀ (kV doc pm : Value) (an : Option Addr) (cdv ct : Value) (us ws : List Value), us.length = n → ws.length = ks.length →
  bindArgs (PySem.W.fnOf x x (defArgs st) (defBody st) (defScope st) .none kV doc pm an cdv ct) ⟨us, ks.zip ws⟩ = pure (ps.zip (g us ws))
structure Cl (P : Program) (w : World) (K : PySem.W.Frag) (mg : Str → Option Value) (base : Heap) (CX : CXT) (k : Nat) (x : Str) (st : Stmt) (ps : List Str) (sp : Sp) : Prop where
  ex : ∃ (f : Addr) (fd : FuncData), Fun K x x st f fd ∧ FnOk P w K mg base CX k f fd ps sp ∧ mg x = some (.ref f)
section
variable {P : Program} {w : World} {K : PySem.W.Frag} {mg : Str → Option Value} {base : Heap} {k : Nat} {x : Str} {st : Stmt} {ps N : List Str} {sp sp1 : Sp}
theorem cl_of (D : DefAt K mg x st) (S : FnScope N ps (defScope st)) (len : ∀ vs H Q E, sp vs H Q E → vs.length = ps.length)
    (hbody : ∀ (f : Addr) (cdv : Value) (A : Around) (outer : List Env) (s : Shared) (H : Hp) (vs : List V) (Q : VK) (E : XK), Room k (A.deeper (envOfC x (defScope st) s.heap.objs.size f cdv)) → sp vs H Q E →
      ∃ t, PSs (cxOf CX0 P w K mg base N x (defScope st) f cdv A outer s H E).nox (defBody st) t ∧ t { nx := fun _ H' => Q .non H', rt := Q } (start N vs) H) : Cl P w K mg base CX0 (k + 1) x st ps sp := by
  obtain ⟨f, fd, F, m⟩ := D.ex
  exact ⟨f, fd, F, F.ok S len (hbody f), m⟩
theorem Cl.pool (c : Cl P w K mg base CX0 k x st ps sp1)
    (h : ∀ vs H Q E, sp vs H Q E → vs.length = ps.length ∧ ∃ p, Pool H p ∧ ∀ a b c : Int, sp1 vs (upd H p (.lst [.int a, .int b, .int c])) (fun v H' => ∃ a b c : Int, H' p = some (.lst [.int a, .int b, .int c]) ∧ Q v (upd H' p (.ext (poolP p)))) E) :
    Cl P w K mg base CX0 k x st ps sp := by
  obtain ⟨f, fd, F, o, m⟩ := c.ex
  exact ⟨f, fd, F, fn_pool o h, m⟩
theorem Cl.newpool (c : Cl P w K mg base CX0 k x st ps sp1)
    (h : ∀ vs H Q E, sp vs H Q E → sp1 vs H (fun v H' => ∃ p a b c, v = .ref p ∧ H p = none ∧ H' p = some (.lst [.int a, .int b, .int c]) ∧ Q v (upd H' p (.ext (poolP p)))) E) :
    Cl P w K mg base CX0 k x st ps sp := by
  obtain ⟨f, fd, F, o, m⟩ := c.ex
  exact ⟨f, fd, F, fn_newpool o h, m⟩
theorem Cl.imp {CX : CXT} (c : Cl P w K mg base CX k x st ps sp) (h : ∀ vs H Q E, sp1 vs H Q E → sp vs H Q E) : Cl P w K mg base CX k x st ps sp1 := by
  obtain ⟨f, fd, F, o, m⟩ := c.ex
  exact ⟨f, fd, F, o.imp h, m⟩
end
section
variable {X : Cx} {CX : CXT} {k j n : Nat} {x : Str} {st : Stmt} {sp : Sp} {ps ks : List Str} {p pos : Pos} {e : Expr} {es : List Expr} {kws : List Keyword} {t tk : TA} {E : XK}
/-- f(a, ..): all parameters by position -/
theorem pe_cl (c : Cl X.prog X.w X.K X.mg X.base CX k x st ps sp) (b : Bnd x st ps) (hr : Room j X.A) (hk : k ≤ j) (hg : Gl X x) (hx : Passes CX X E) (ha : PA X (e :: es) t)
    (hdb : (x == ("__debug__" : Str)) = false := by decide) (he : starEach (e :: es) X.env = (false, eval e X.env) :: starEach es X.env := by rfl) (hpl : (backTo pos (starEach es X.env)).any (·.1) = false := by rfl) :
    PE X (.Call (.Name x p) (e :: es) [] pos) (tCall sp [] E t) := by
  obtain ⟨f, fd, F, o, m⟩ := c.ex
  exact pe_call o (hr.mono hk) hg m F.kp (F.binds b) .nil hx ha hdb he hpl
theorem kbn_of {K : PySem.W.Frag} {f : Addr} {fd : FuncData} {g : {α : Type} → List α → List α → List α} (F : Fun K x x st f fd) (b : BndK x st ps n ks g)
    (hrel : ∀ {vs zs : List V} {us ws : List Value}, Vals vs us → Vals zs ws → Vals (g vs zs) (g us ws)) : KBn K fd ps n ks (fun us ws => g us ws) (fun vs zs => g vs zs) := by
  obtain ⟨oc, od, kV, doc, pm, an, cdv, ct, osl, rfl, lk, hcd⟩ := F.ex
  exact ⟨fun s us ws _ h1 h2 => .of_eq (b kV doc pm an cdv ct us ws h1 h2), hrel⟩
/-- f(a, .., k = v, ..): all parameters written -/
theorem pe_clk {g : {α : Type} → List α → List α → List α} (c : Cl X.prog X.w X.K X.mg X.base CX k x st ps sp) (b : BndK x st ps n ks g)
    (hrel : ∀ {vs zs : List V} {us ws : List Value}, Vals vs us → Vals zs ws → Vals (g vs zs) (g us ws))
    (hr : Room j X.A) (hk : k ≤ j) (hg : Gl X x) (hx : Passes CX X E) (ha : PA X (e :: es) t) (hkw : PK X kws tk) (hall : (backToKw pos (keywordEach kws X.env)).all (·.1.isSome) = true := by rfl)
    (hks : (backToKw pos (keywordEach kws X.env)).filterMap (·.1) = ks := by rfl) (hdb : (x == ("__debug__" : Str)) = false := by decide) (he : starEach (e :: es) X.env = (false, eval e X.env) :: starEach es X.env := by rfl)
    (hpl : ((backTo pos (starEach (e :: es) X.env)).any (·.1) || (backToKw pos (keywordEach kws X.env)).any (·.1.isNone)) = false := by rfl) :
    PE X (.Call (.Name x p) (e :: es) kws pos) (tCallN n ks.length sp g E t tk) := by
  obtain ⟨f, fd, F, o, m⟩ := c.ex
  exact pe_callN o (hr.mono hk) hg m F.kp (kbn_of F b hrel) hx ha hkw hall hks hdb he hpl
/-- f(k = v, ..): all by name -/
theorem pe_clk0 {g : {α : Type} → List α → List α → List α} (c : Cl X.prog X.w X.K X.mg X.base CX k x st ps sp) (b : BndK x st ps 0 ks g)
    (hrel : ∀ {vs zs : List V} {us ws : List Value}, Vals vs us → Vals zs ws → Vals (g vs zs) (g us ws))
    (hr : Room j X.A) (hk : k ≤ j) (hg : Gl X x) (hx : Passes CX X E) (hkw : PK X kws tk) (hall : (backToKw pos (keywordEach kws X.env)).all (·.1.isSome) = true := by rfl)
    (hks : (backToKw pos (keywordEach kws X.env)).filterMap (·.1) = ks := by rfl) (hdb : (x == ("__debug__" : Str)) = false := by decide)
    (hpl : ((backTo pos (starEach [] X.env)).any (·.1) || (backToKw pos (keywordEach kws X.env)).any (·.1.isNone)) = false := by rfl) :
    PE X (.Call (.Name x p) [] kws pos) (tCallN 0 ks.length sp g E tNil tk) := by
  obtain ⟨f, fd, F, o, m⟩ := c.ex
  refine ⟨fun pins s σ H Q I h => ?_⟩
  refine wpAny_Call_Name_kw (ld_glob I hg m ?_ hdb)
  refine PySem.W.callWith_KW0 (h₀ := X.base) I.ok.mod.kin F.kp hall ?_ hpl
  refine thn (hkw.run pos pins s σ H _ I h) fun ws s2 ⟨zs, H2, I2, rz, l1, l2, q2⟩ => ⟨I2.kIn, ?_⟩
  rw [hks]
  exact run_fnN o (hr.mono hk) (kbn_of F b hrel) hx I2 .nil rz l1 l2 q2
/-- repr of a truth -/
theorem call_repr_bl : CallR X (.builtin "repr") (fun xs H Q => ∃ b, xs = [.bl b] ∧ Q (.str (if b then "True" else "False")) H) := by
  intro pins s σ H xs us Q I r h
  obtain ⟨b, rfl, q⟩ := h
  obtain ⟨u, rfl, rfl⟩ := vals1 r
  exact PySem.P.repr_of_bool ⟨.str _, H, I.tok _, ⟨_, rfl⟩, q⟩
end

section
variable {P : Program} {w : World} {K : PySem.W.Frag} {mg : Str → Option Value} {base : Heap} {k : Nat} {x : Str} {st : Stmt} {ps : List Str} {sp : Sp} {CX : CXT}
theorem defAt_mk {h : Heap} {f : Addr} {oc : Value} {od an : Option Addr} {osl : Array (Option Value)} {kV doc pm cdv ct : Value} (X : K.In h) (G : h.Ns mainGlobals mg) (a : PySem.W.nsIn K mainGlobals x = some (some (.ref f)))
    (l : K.lookup f = some ⟨oc, od, .func (PySem.W.fnOf x x (defArgs st) (defBody st) (defScope st) .none kV doc pm an cdv ct), osl⟩) (c : PySem.W.codeIn K cdv x = true) (kp : PySem.W.keepIn K (.ref f) = true) : DefAt K mg x st :=
  ⟨f, _, fun_mk l c kp, PySem.W.mg_of X G a⟩
/-- a def's object is one -/
theorem Cl.at {f : Addr} {fd : FuncData} (c : Cl P w K mg base CX k x st ps sp) (F : Fun K x x st f fd) (m : mg x = some (.ref f)) : FnOk P w K mg base CX k f fd ps sp := by
  obtain ⟨f', fd', F', o, m'⟩ := c.ex
  rw [m] at m'
  cases m'
  obtain ⟨oc, od, kV, doc, pm, an, cdv, ct, osl, rfl, lk, _⟩ := F.ex
  obtain ⟨oc', od', kV', doc', pm', an', cdv', ct', osl', rfl, lk', _⟩ := F'.ex
  have e := Option.some.inj (lk.symm.trans lk')
  injection e with _ _ e _
  injection e with e
  rw [e]
  exact o
end

/-! ### the law's draws -/
/-- what is handed back is told by P, all that stood stands -/
def Gets (Pv : V → Hp → Prop) (H : Hp) (Q : VK) : Prop := ∀ v H', Ex H H' → Pv v H' → Q v H'
def spCell (K : PySem.W.Frag) : Sp := fun vs H Q _ => ∃ (a : Addr) (ns : List Int) (i : Int), vs = [.ref a, .int i] ∧ SqL K H a (ns.map V.int) ∧ ns.length ≤ 63 ∧ 0 ≤ i ∧ i ≤ 63 ∧ ∀ (v : Int) H', Ex H H' → Q (.int v) H'
def spPool : Sp := fun vs H Q _ => ∃ i : Int, vs = [.int i] ∧ ∀ p H', H p = none → Ex H H' → Pool H' p → Q (.ref p) H'
def spDraw : Sp := fun vs H Q _ => ∃ (p : Addr) (m : Int), vs = [.ref p, .int m] ∧ Pool H p ∧ 0 < m ∧ m < 2 ^ 128 ∧ ∀ (v : Int) H', Ex H H' → 0 ≤ v → v < m → Q (.int v) H'
def spPool1 : Sp := fun vs H Q _ => ∃ i : Int, vs = [.int i] ∧ ∀ p H' (a b c : Int), H p = none → H' p = some (.lst [.int a, .int b, .int c]) → Ex H H' → Q (.ref p) H'
def spDraw1 : Sp := fun vs H Q _ => ∃ (p : Addr) (m a b c : Int), vs = [.ref p, .int m] ∧ H p = some (.lst [.int a, .int b, .int c]) ∧ 0 < m ∧ m < 2 ^ 128 ∧
  ∀ (v : Int) H' (a b c : Int), (∀ x o, x ≠ p → H x = some o → H' x = some o) → H' p = some (.lst [.int a, .int b, .int c]) → 0 ≤ v → v < m → Q (.int v) H'
theorem spPool_of : ∀ vs H Q E, spPool vs H Q E → spPool1 vs H (fun v H' => ∃ p a b c, v = .ref p ∧ H p = none ∧ H' p = some (.lst [.int a, .int b, .int c]) ∧ Q v (upd H' p (.ext (poolP p)))) E := by
  rintro vs H Q E ⟨i, rfl, q⟩
  refine ⟨i, rfl, fun p H' a b c hn hp e => ⟨p, a, b, c, rfl, hn, hp, q p _ hn (fun x o hx => ?_) upd_same⟩⟩
  rw [upd_ne (ne_of_none hx hn)]
  exact e x o hx
theorem spDraw_of : ∀ vs H Q E, spDraw vs H Q E → vs.length = 2 ∧ ∃ p, Pool H p ∧ ∀ a b c : Int, spDraw1 vs (upd H p (.lst [.int a, .int b, .int c])) (fun v H' => ∃ a b c : Int, H' p = some (.lst [.int a, .int b, .int c]) ∧ Q v (upd H' p (.ext (poolP p)))) E := by
  rintro vs H Q E ⟨p, m, rfl, hp, h0, h1, q⟩
  refine ⟨rfl, p, hp, fun a b c => ⟨p, m, a, b, c, rfl, upd_same, h0, h1, fun v H' a' b' c' k hq v0 v1 => ⟨a', b', c', hq, q v _ (fun x o hx => ?_) v0 v1⟩⟩⟩
  by_cases hb : x = p
  · subst hb
    rw [hp] at hx
    cases hx
    exact upd_same
  · rw [upd_ne hb]
    exact k x o hb (by rw [upd_ne hb]; exact hx)
theorem log2_lt {m : Int} (h0 : 0 < m) (h1 : m < 2 ^ 128) : m.natAbs.log2 < 9000 := by
  have e : m.natAbs < 2 ^ 128 := by omega
  have := (Nat.log2_lt (by omega : m.natAbs ≠ 0)).mpr e
  omega
theorem cdivp {i m : Int} (h0 : 0 < m) (h1 : m < 2 ^ 128) : CDivP i m := ⟨h0, PyProof.noPylong_of_log2 (log2_lt h0 h1)⟩
theorem atI_0 {a b c : V} : atI [a, b, c] 0 = some a := rfl
theorem atI_1 {a b c : V} : atI [a, b, c] 1 = some b := rfl
theorem atI_2 {a b c : V} : atI [a, b, c] 2 = some c := rfl
theorem ex_rdL {K : PySem.W.Frag} {H H' : Hp} {a : Addr} {xs : List V} (e : Ex H H') (h : SqL K H a xs) : SqL K H' a xs := ex_l e h
theorem line_ge : (100000 : Nat) ≤ sizeLine := by decide
/-! ### tests with two ways -/
theorem ifD {p A B : Prop} [Decidable p] (h1 : p → A) (h2 : ¬ p → B) : if decide p = true then A else B := by
  by_cases h : p
  · rw [if_pos (decide_eq_true h)]; exact h1 h
  · rw [if_neg (by simpa using h)]; exact h2 h
theorem ifN {p A B : Prop} [Decidable p] (h1 : ¬ p → A) (h2 : p → B) : if (!decide p) = true then A else B := by
  by_cases h : p
  · rw [if_neg (by simpa using h)]; exact h2 h
  · rw [if_pos (by simpa using h)]; exact h1 h
theorem ifB {b : Bool} {A B : Prop} (h1 : b = true → A) (h2 : b = false → B) : if b = true then A else B := by
  cases b with
  | true => exact h1 rfl
  | false => exact h2 rfl
theorem upd_new {H : Hp} {t a : Addr} {o u : HO} (ht : H t = none) (ha : H a = some o) : upd H t u a = some o := by
  rw [upd_ne (ne_of_none ha ht)]
  exact ha
theorem ex_at {H H' : Hp} {a : Addr} {o : HO} (e : Ex H H') (ha : H a = some o) : H' a = some o := e a o ha
/-- all but p stand -/
def But (p : Addr) (H H' : Hp) : Prop := ∀ x o, x ≠ p → H x = some o → H' x = some o
theorem But.refl {p : Addr} {H : Hp} : But p H H := fun _ _ _ h => h
theorem But.new {p t : Addr} {H H' : Hp} {o : HO} (b : But p H H') (ht : H' t = none) : But p H (upd H' t o) := fun x u n h => upd_new ht (b x u n h)
theorem But.mut {p : Addr} {H H' : Hp} {o : HO} (b : But p H H') : But p H (upd H' p o) := fun x u n h => by
  rw [upd_ne n]
  exact b x u n h
theorem cut_int {ns : List Int} {lo hi : Option Int} {i : Nat} {x : V} (h : (cutV (ns.map V.int) lo hi)[i]? = some x) : ∃ n, x = .int n := by
  have hm := List.mem_of_getElem? h
  have hm2 : x ∈ ns.map V.int := by
    unfold cutV at hm
    exact List.mem_of_mem_drop (List.mem_of_mem_take hm)
  obtain ⟨n, _, e⟩ := List.mem_map.mp hm2
  exact ⟨n, e.symm⟩

/-! ### kinds of values -/
inductive Kd (H : Hp) : V → String → Prop
  | non : Kd H .non "NoneType"
  | bl (b : Bool) : Kd H (.bl b) "bool"
  | int (i : Int) : Kd H (.int i) "int"
  | str (x : Str) : Kd H (.str x) "str"
  | lst {a : Addr} {xs : List V} (h : H a = some (.lst xs)) : Kd H (.ref a) "list"
  | tup {a : Addr} {xs : List V} (h : H a = some (.tup xs)) : Kd H (.ref a) "tuple"
  | fz {a : Addr} {o : Obj} {xs : List V} (h : H a = some (.frz o (.tup xs))) : Kd H (.ref a) "tuple"
  | dK {a : Addr} {kvs : List (Key × V)} (h : H a = some (.dK kvs)) : Kd H (.ref a) "dict"
def kinds : List String := ["NoneType", "bool", "int", "str", "list", "tuple", "dict"]
def isK (n c : String) : Bool := n == c || (n == "bool" && c == "int")
theorem Kd.mem {H : Hp} {v : V} {n : String} (k : Kd H v n) : n ∈ kinds := by cases k <;> decide
theorem Kd.ty {K : PySem.W.Frag} {H : Hp} {v : V} {n : String} (k : Kd H v n) : TyX K H v (.type n) := by
  cases k with
  | non => exact .base .non
  | bl b => exact .base (.bl b)
  | int i => exact .base (.int i)
  | str x => exact .base (.str x)
  | lst h => exact .base (.lst h)
  | tup h => exact .base (.tup h)
  | fz h => exact .fTuple h
  | dK h => exact .base (.dK h)
theorem kit_all : ∀ n ∈ kinds, ∀ c ∈ ["int", "bool", "tuple", "str", "list", "dict"], kitB n c = some (isK n c) := by decide +kernel
theorem kit_k {K : PySem.W.Frag} {H : Hp} {v : V} {n c : String} (k : Kd H v n) (hc : c ∈ ["int", "bool", "tuple", "str", "list", "dict"]) : PySem.W.kitOne K (.type n) (.type c) = some (isK n c) := kit_ty (kit_all n k.mem c hc)
theorem Kd.ex {H H' : Hp} {v : V} {n : String} (k : Kd H v n) (e : Ex H H') : Kd H' v n := by
  cases k with
  | non => exact .non
  | bl b => exact .bl b
  | int i => exact .int i
  | str x => exact .str x
  | lst h => exact .lst (e _ _ h)
  | tup h => exact .tup (e _ _ h)
  | fz h => exact .fz (e _ _ h)
  | dK h => exact .dK (e _ _ h)
/-- an integer (no truth) within bounds -/
def inB (lo hi : Int) : V → Bool
  | .int i => decide (lo ≤ i) && decide (i ≤ hi)
  | _ => false
def spInteger : Sp := fun vs H Q _ => ∃ v n, vs = [v] ∧ Kd H v n ∧ Q (.bl (n == "int")) H
def spBetween : Sp := fun vs H Q _ => ∃ v lo hi n, vs = [v, .int lo, .int hi] ∧ Kd H v n ∧ Q (.bl (inB lo hi v)) H
def spNumber : Sp := fun vs H Q _ => ∃ v n, vs = [v] ∧ Kd H v n ∧ Q (.bl (inB (-1000000000000) 1000000000000 v)) H
def rectL : List V → Bool
  | [a, b, c, d] => inB (-1000000000000) 1000000000000 a && inB (-1000000000000) 1000000000000 b && inB 0 1000000000000 c && inB 0 1000000000000 d
  | _ => false
/-- a value that is looked at as a rectangle: no tuple, or a tuple of values of known kinds -/
inductive Th (H : Hp) : V → Bool → Prop
  | other {v : V} {n : String} (k : Kd H v n) (h : n ≠ "tuple") : Th H v false
  | tup {a : Addr} {xs : List V} (h : H a = some (.tup xs)) (ks : ∀ x ∈ xs, ∃ n, Kd H x n) : Th H (.ref a) (rectL xs)
def spRect : Sp := fun vs H Q _ => ∃ v b, vs = [v] ∧ Th H v b ∧ Q (.bl b) H
theorem int_yes {H : Hp} {v : V} {n : String} (k : Kd H v n) (h : isK n "int" = true) : (n == "int") = !isK n "bool" := by
  have hm := k.mem
  exact (by decide : ∀ n ∈ kinds, isK n "int" = true → (n == "int") = !isK n "bool") n hm h
theorem int_no {n : String} (h : isK n "int" = false) : (n == "int") = false := by
  unfold isK at h
  cases e : n == "int" with
  | true => rw [e] at h; cases h
  | false => rfl
theorem Kd.of_int {H : Hp} {v : V} {n : String} (k : Kd H v n) (h : (n == "int") = true) : ∃ i, v = .int i := by
  cases k <;> first | exact ⟨_, rfl⟩ | exact absurd h (by decide)
theorem inB_no {H : Hp} {lo hi : Int} {v : V} {n : String} (k : Kd H v n) (h : (n == "int") = false) : inB lo hi v = false := by
  cases k <;> first | rfl | exact absurd h (by decide)
theorem isK_ne {n c : String} (h : n ≠ c) (hb : c ≠ "int") : isK n c = false := by
  unfold isK
  rw [beq_eq_false_iff_ne.mpr h, beq_eq_false_iff_ne.mpr hb]
  cases n == "bool" <;> rfl
theorem rectL_len {xs : List V} (h : xs.length ≠ 4) : rectL xs = false := by
  unfold rectL
  split
  · exact absurd rfl h
  · rfl
theorem four {xs : List V} (h : xs.length = 4) : ∃ a b c d, xs = [a, b, c, d] := match xs, h with
  | [a, b, c, d], _ => ⟨a, b, c, d, rfl⟩
theorem lenN {n m : Nat} : V.int (n : Int) = V.int (m : Int) ↔ n = m := by
  constructor
  · intro h
    injection h with h
    exact Int.ofNat_inj.mp h
  · intro h; rw [h]
theorem ifNt {b : Bool} {A B : Prop} (h1 : b = false → A) (h2 : b = true → B) : if (!b) = true then A else B := by
  cases b with
  | true => exact h2 rfl
  | false => exact h1 rfl

theorem sqlK {K K' : PySem.W.Frag} {H : Hp} {a : Addr} {xs : List V} (h : SqL K H a xs) (e : K' = K) : SqL K' H a xs := e ▸ h
theorem sqtK {K K' : PySem.W.Frag} {H : Hp} {a : Addr} {xs : List V} (h : SqT K H a xs) (e : K' = K) : SqT K' H a xs := e ▸ h
/-! ### list comprehensions, told item by item -/
/-- all but lists stand -/
def ExT (H H' : Hp) : Prop := ∀ a o, (∀ xs, o ≠ HO.lst xs) → H a = some o → H' a = some o
theorem Ex.exT {H H' : Hp} (e : Ex H H') : ExT H H' := fun a o _ h => e a o h
theorem ExT.wr {H : Hp} {D : Addr} {xs : List V} {o : HO} (h : H D = some (.lst xs)) : ExT H (upd H D o) := fun a u n ha => by
  rw [upd_ne (ne_of ha h (n xs))]
  exact ha
theorem ExT.trans {H H1 H2 : Hp} (a : ExT H H1) (b : ExT H1 H2) : ExT H H2 := fun x o n h => b x o n (a x o n h)
/-- what a turn makes: some item or none -/
abbrev PeT := Nat → Option V → Hp → Prop
def Mono (Pe : PeT) : Prop := ∀ i o H H', ExT H H' → Pe i o H → Pe i o H'
structure LcI (H1 : Hp) (D : Addr) (Pe : PeT) (i : Nat) (H : Hp) : Prop where
  new : H1 D = none
  ex : Ex H1 H
  its : ∃ os : List (Option V), os.length = i ∧ H D = some (.lst (os.filterMap id)) ∧ ∀ m o, os[m]? = some o → Pe m o H
section
variable {H1 H H4 : Hp} {D : Addr} {Pe : PeT} {i n : Nat} {y : V}
theorem LcI.start (h : H1 D = none) : LcI H1 D Pe 0 (upd H1 D (.lst [])) := ⟨h, Ex.new h, [], rfl, upd_same, fun m o e => by simp at e⟩
theorem LcI.more (I : LcI H1 D Pe i H) (mono : Mono Pe) (hi : i < 50000) (e : Ex H H4) (p : Pe i (some y) H4) :
    ∃ acc, H4 D = some (.lst acc) ∧ acc.length < sizeLine ∧ LcI H1 D Pe (i + 1) (upd H4 D (.lst (acc ++ [y]))) := by
  obtain ⟨hn, e1, os, hl, hD, hp⟩ := I
  have hD4 := e _ _ hD
  have hT : ExT H4 (upd H4 D (.lst (os.filterMap id ++ [y]))) := ExT.wr hD4
  refine ⟨_, hD4, ?_, hn, Ex.mut (e1.trans e) hn, os ++ [some y], ?_, ?_, fun m o hm => ?_⟩
  · have := List.length_filterMap_le id os
    exact Nat.lt_of_lt_of_le (by omega) line_ge
  · rw [List.length_append, hl]; rfl
  · rw [upd_same, List.filterMap_append]; rfl
  · by_cases hb : m < os.length
    · rw [List.getElem?_append_left hb] at hm
      exact mono _ _ _ _ ((Ex.exT e).trans hT) (hp m o hm)
    · rw [List.getElem?_append_right (Nat.le_of_not_lt hb)] at hm
      have h0 : m - os.length = 0 := by
        cases hz : m - os.length with
        | zero => rfl
        | succ k => rw [hz] at hm; simp at hm
      rw [h0] at hm
      have e2 : o = some y := (Option.some.inj hm).symm
      have e3 : m = i := by omega
      subst e2 e3
      exact mono _ _ _ _ hT p
theorem LcI.less (I : LcI H1 D Pe i H) (mono : Mono Pe) (e : Ex H H4) (p : Pe i none H4) : LcI H1 D Pe (i + 1) H4 := by
  obtain ⟨hn, e1, os, hl, hD, hp⟩ := I
  refine ⟨hn, e1.trans e, os ++ [none], ?_, ?_, fun m o hm => ?_⟩
  · rw [List.length_append, hl]; rfl
  · rw [List.filterMap_append, e _ _ hD]
    show _ = some (HO.lst (os.filterMap id ++ []))
    rw [List.append_nil]
  · by_cases hb : m < os.length
    · rw [List.getElem?_append_left hb] at hm
      exact mono _ _ _ _ (Ex.exT e) (hp m o hm)
    · rw [List.getElem?_append_right (Nat.le_of_not_lt hb)] at hm
      have h0 : m - os.length = 0 := by
        cases hz : m - os.length with
        | zero => rfl
        | succ k => rw [hz] at hm; simp at hm
      rw [h0] at hm
      have e2 : o = none := (Option.some.inj hm).symm
      have e3 : m = i := by omega
      subst e2 e3
      exact p
/-- a turn: from item x -/
def LcTurn (Pe : PeT) (H1 : Hp) (g : TG) (tt : TT) (te : TE) (vs : List Nat) (σ : L2.St) (i : Nat) (x : V) : Prop := ∀ H, Ex H1 H → ∀ (Q1 : VK) (Q2 : Hp → Prop), (∀ y H4, Ex H H4 → Pe i (some y) H4 → Q1 y H4) → (∀ H4, Ex H H4 → Pe i none H4 → Q2 H4) →
  g x (wipe σ vs) H fun σ2 H2 => wipe σ2 vs = wipe σ vs ∧ tt σ2 H2 fun b H3 => if b = true then te σ2 H3 Q1 else Q2 H3
variable {g : TG} {tt : TT} {te : TE} {vs : List Nat} {σ : L2.St} {Qd : Hp → Prop} {K : PySem.W.Frag} {a : Addr} {xs : List V}
theorem lcR (Pe : PeT) (mono : Mono Pe) (hD : H1 D = none) (hn : n ≤ 50000) (hs : ∀ i, i < n → LcTurn Pe H1 g tt te vs σ i (.int ((0 : Int) + i)))
    (hd : ∀ H' (os : List (Option V)), Ex H1 H' → os.length = n → H' D = some (.lst (os.filterMap id)) → (∀ i o, os[i]? = some o → Pe i o H') → Qd H') :
    ∃ W : Nat → Nat → Hp → Prop, (∃ m, W 0 m (upd H1 D (.lst []))) ∧ ∀ i m H, W i m H →
      ((Itr 0 n).stop i H ∧ Qd H) ∨ ((Itr 0 n).go i H ∧ ∃ Nx : Hp → Prop, (∀ H', Nx H' → ∃ m', m' < m ∧ W (i + 1) m' H') ∧ ∀ x H', (Itr 0 n).yld i H x H' → g x (wipe σ vs) H' fun σ2 H2 => wipe σ2 vs = wipe σ vs ∧ tt σ2 H2 fun b H3 =>
        if b = true then te σ2 H3 fun y H4 => ∃ acc, H4 D = some (.lst acc) ∧ acc.length < sizeLine ∧ Nx (upd H4 D (.lst (acc ++ [y]))) else Nx H3) :=
  lc_range (LcI H1 D Pe) (LcI.start hD) (fun i H hi I => hs i hi H I.ex _ _ (fun y H4 e p => I.more mono (by omega) e p) (fun H4 e p => I.less mono e p))
    (fun H I => by obtain ⟨_, e, os, hl, h, p⟩ := I; exact hd H os e hl h p)
theorem lcL (Pe : PeT) (mono : Mono Pe) (hD : H1 D = none) (hx : SqL K H1 a xs) (hn : xs.length ≤ 50000) (hs : ∀ i x, xs[i]? = some x → LcTurn Pe H1 g tt te vs σ i x)
    (hd : ∀ H' (os : List (Option V)), Ex H1 H' → os.length = xs.length → H' D = some (.lst (os.filterMap id)) → (∀ i o, os[i]? = some o → Pe i o H') → Qd H') :
    ∃ W : Nat → Nat → Hp → Prop, (∃ m, W 0 m (upd H1 D (.lst []))) ∧ ∀ i m H, W i m H →
      ((Itl K a).stop i H ∧ Qd H) ∨ ((Itl K a).go i H ∧ ∃ Nx : Hp → Prop, (∀ H', Nx H' → ∃ m', m' < m ∧ W (i + 1) m' H') ∧ ∀ x H', (Itl K a).yld i H x H' → g x (wipe σ vs) H' fun σ2 H2 => wipe σ2 vs = wipe σ vs ∧ tt σ2 H2 fun b H3 =>
        if b = true then te σ2 H3 fun y H4 => ∃ acc, H4 D = some (.lst acc) ∧ acc.length < sizeLine ∧ Nx (upd H4 D (.lst (acc ++ [y]))) else Nx H3) :=
  lc_list (LcI H1 D Pe) (LcI.start hD) (fun i H _ I => ex_l I.ex hx) (fun i x H hi I => hs i x hi H I.ex _ _ (fun y H4 e p => I.more mono (by have := (List.getElem?_eq_some_iff.mp hi).1; omega) e p) (fun H4 e p => I.less mono e p))
    (fun H I => by obtain ⟨_, e, os, hl, h, p⟩ := I; exact hd H os e hl h p)
theorem lcT (Pe : PeT) (mono : Mono Pe) (hD : H1 D = none) (hx : SqT K H1 a xs) (hn : xs.length ≤ 50000) (hs : ∀ i x, xs[i]? = some x → LcTurn Pe H1 g tt te vs σ i x)
    (hd : ∀ H' (os : List (Option V)), Ex H1 H' → os.length = xs.length → H' D = some (.lst (os.filterMap id)) → (∀ i o, os[i]? = some o → Pe i o H') → Qd H') :
    ∃ W : Nat → Nat → Hp → Prop, (∃ m, W 0 m (upd H1 D (.lst []))) ∧ ∀ i m H, W i m H →
      ((Itt K a).stop i H ∧ Qd H) ∨ ((Itt K a).go i H ∧ ∃ Nx : Hp → Prop, (∀ H', Nx H' → ∃ m', m' < m ∧ W (i + 1) m' H') ∧ ∀ x H', (Itt K a).yld i H x H' → g x (wipe σ vs) H' fun σ2 H2 => wipe σ2 vs = wipe σ vs ∧ tt σ2 H2 fun b H3 =>
        if b = true then te σ2 H3 fun y H4 => ∃ acc, H4 D = some (.lst acc) ∧ acc.length < sizeLine ∧ Nx (upd H4 D (.lst (acc ++ [y]))) else Nx H3) :=
  lc_tup (LcI H1 D Pe) (LcI.start hD) (fun i H _ I => ex_t I.ex hx) (fun i x H hi I => hs i x hi H I.ex _ _ (fun y H4 e p => I.more mono (by have := (List.getElem?_eq_some_iff.mp hi).1; omega) e p) (fun H4 e p => I.less mono e p))
    (fun H I => by obtain ⟨_, e, os, hl, h, p⟩ := I; exact hd H os e hl h p)
end
/-- every turn makes an item: Pf tells it -/
def All (Pf : Nat → V → Hp → Prop) : PeT := fun i o H => ∃ y, o = some y ∧ Pf i y H
theorem All.list {Pf : Nat → V → Hp → Prop} {H : Hp} : ∀ {os : List (Option V)} {k : Nat}, (∀ i o, os[i]? = some o → All Pf (k + i) o H) → ∃ ys : List V, os.filterMap id = ys ∧ ys.length = os.length ∧ ∀ i y, ys[i]? = some y → Pf (k + i) y H
  | [], _, _ => ⟨[], rfl, rfl, fun i y e => by simp at e⟩
  | o :: os, k, h => by
    obtain ⟨y, rfl, p⟩ := h 0 o rfl
    obtain ⟨ys, e1, e2, e3⟩ := All.list (os := os) (k := k + 1) (fun i o e => by
      have := h (i + 1) o e
      rwa [show k + (i + 1) = k + 1 + i by omega] at this)
    refine ⟨y :: ys, by rw [← e1]; rfl, by rw [List.length_cons, List.length_cons, e2], fun i z e => ?_⟩
    cases i with
    | zero =>
      have : y = z := Option.some.inj e
      subst this
      exact p
    | succ i =>
      have := e3 i z e
      rwa [show k + (i + 1) = k + 1 + i by omega]
theorem All.end {Pf : Nat → V → Hp → Prop} {H : Hp} {os : List (Option V)} (h : ∀ i o, os[i]? = some o → All Pf i o H) : ∃ ys : List V, os.filterMap id = ys ∧ ys.length = os.length ∧ ∀ i y, ys[i]? = some y → Pf i y H := by
  obtain ⟨ys, a, b, c⟩ := All.list (k := 0) (fun i o e => by rw [Nat.zero_add]; exact h i o e)
  exact ⟨ys, a, b, fun i y e => by have := c i y e; rwa [Nat.zero_add] at this⟩
theorem all_mono {Pf : Nat → V → Hp → Prop} (h : ∀ i v H H', ExT H H' → Pf i v H → Pf i v H') : Mono (All Pf) := fun i o H H' e ⟨y, a, b⟩ => ⟨y, a, h i y H H' e b⟩
theorem Kd.up {H H' : Hp} {v : V} {n : String} (e : Ex H H') (k : Kd H v n) : Kd H' v n := k.ex e
theorem Kd.new {H : Hp} {t : Addr} {o : HO} {v : V} {n : String} (h : H t = none) (k : Kd H v n) : Kd (upd H t o) v n := k.ex (Ex.new h)
theorem atI_in {xs : List V} {d : Int} (h0 : 0 ≤ d) (h1 : d < xs.length) : ∃ v, v ∈ xs ∧ atI xs d = some v := by
  obtain ⟨j, rfl⟩ := Int.eq_ofNat_of_zero_le h0
  have hj : j < xs.length := by omega
  exact ⟨xs[j], List.getElem_mem hj, atI_nat (List.getElem?_eq_getElem hj)⟩
theorem Th.up {H H' : Hp} {v : V} {b : Bool} (e : Ex H H') (k : Th H v b) : Th H' v b := by
  cases k with
  | other k h => exact .other (k.ex e) h
  | tup h ks => exact .tup (e _ _ h) fun x hx => let ⟨n, k⟩ := ks x hx; ⟨n, k.ex e⟩
theorem Th.kd {H : Hp} {v : V} {b : Bool} (k : Th H v b) : ∃ n, Kd H v n := by
  cases k with
  | other k h => exact ⟨_, k⟩
  | tup h ks => exact ⟨_, .tup h⟩
theorem Pool.up {H H' : Hp} {p : Addr} (e : Ex H H') (h : Pool H p) : Pool H' p := e _ _ h
theorem Pool.new {H : Hp} {t p : Addr} {o : HO} (ht : H t = none) (h : Pool H p) : Pool (upd H t o) p := upd_new ht h
theorem Th.new {H : Hp} {t : Addr} {o : HO} {v : V} {b : Bool} (ht : H t = none) (k : Th H v b) : Th (upd H t o) v b := k.up (Ex.new ht)
theorem ix_in {K : PySem.W.Frag} {H : Hp} {p : Addr} {xs : List V} {d : Int} {Q : VK} (h : SqL K H p xs ∨ SqT K H p xs) (h0 : 0 ≤ d) (h1 : d < xs.length) (q : ∀ v, v ∈ xs → Q v H) : rIx K (.ref p) (.int d) H Q := by
  obtain ⟨v, hv, ha⟩ := atI_in h0 h1
  rcases h with h | h
  · exact .inl ⟨p, xs, d, v, rfl, rfl, h, ha, q v hv⟩
  · exact .inr (.inl ⟨p, xs, d, v, rfl, rfl, h, ha, q v hv⟩)
/-- a heap without one object -/
def Minus (H : Hp) (p : Addr) : Hp := fun a => if a = p then none else H a
theorem minus_at {H : Hp} {p a : Addr} {o : HO} (n : a ≠ p) (h : H a = some o) : Minus H p a = some o := by
  unfold Minus
  rw [if_neg n]
  exact h
theorem minus_ex {H H' : Hp} {p : Addr} (b : But p H H') : Ex (Minus H p) H' := fun a o h => by
  unfold Minus at h
  by_cases n : a = p
  · rw [if_pos n] at h; cases h
  · rw [if_neg n] at h; exact b a o n h
theorem minus_lo {H : Hp} {p : Addr} : Ex (Minus H p) H := minus_ex But.refl
theorem ne_fresh {H : Hp} {a p : Addr} {o : HO} (h : H a = none) (hp : H p = some o) : a ≠ p := (ne_of_none hp h).symm
theorem But.ex {p : Addr} {H H0 H' : Hp} (e : Ex H H0) (h : H p = none) (b : But p H0 H') : Ex H H' := fun a o ha => b a o (ne_of_none ha h) (e a o ha)
theorem But.up {p : Addr} {H H1 H2 : Hp} (b : But p H H1) (e : Ex H1 H2) : But p H H2 := fun a o n h => e a o (b a o n h)
theorem mem_cut {xs : List V} {lo hi : Option Int} {x : V} (h : x ∈ cutV xs lo hi) : x ∈ xs := by
  unfold cutV at h
  exact List.mem_of_mem_drop (List.mem_of_mem_take h)
theorem mem_set {xs : List V} {j : Nat} {x y : V} (h : x ∈ xs.set j y) : x ∈ xs ∨ x = y := List.mem_or_eq_of_mem_set h
theorem ixN_in {n : Nat} {d : Int} (h0 : 0 ≤ d) (h1 : d < n) : ixN n d = some d.toNat := by
  unfold ixN
  rw [if_pos h0, if_pos h1]
/-- o[d] = v in bounds -/
theorem set_in {H : Hp} {p : Addr} {xs : List V} {d : Int} {v : V} {Q : Hp → Prop} (h : H p = some (.lst xs)) (h0 : 0 ≤ d) (h1 : d < xs.length) (q : Q (upd H p (.lst (xs.set d.toNat v)))) : rSetL (.ref p) (.int d) v H Q :=
  ⟨p, xs, d, d.toNat, rfl, rfl, h, ixN_in h0 h1, q⟩
theorem newEx {H H' : Hp} {t : Addr} {o : HO} (h : upd H t o = H') (n : H t = none) : Ex H H' := by rw [← h]; exact Ex.new n
theorem newAt {H H' : Hp} {t : Addr} {o : HO} (h : upd H t o = H') : H' t = some o := by rw [← h]; exact upd_same
theorem mutBut {H H' : Hp} {t : Addr} {o : HO} (h : upd H t o = H') : But t H H' := by rw [← h]; exact But.mut But.refl
theorem but_of {p : Addr} {H H' : Hp} (e : Ex H H') : But p H H' := fun x o _ h => e x o h
theorem law_fd {K : PySem.W.Frag} {mg : Str → Option Value} {x p : Str} {st : Stmt} {fa : Addr} (D : DefAt K mg x st) (b : Bnd x st [p]) (hfa : mg x = some (.ref fa)) : ∃ fd, Fun K x x st fa fd ∧ ∀ (s : Shared) (u : Value), BindsTo s fd ⟨[u], []⟩ [(p, u)] := by
  obtain ⟨f, fd, F, m⟩ := D.ex
  rw [m] at hfa
  cases hfa
  refine ⟨fd, F, ?_⟩
  obtain ⟨oc, od, kV, doc, pm, an, cdv, ct, osl, rfl, lk, hcd⟩ := F.ex
  exact fun s u => .of_eq (b kV doc pm an cdv ct [u] rfl)
/-- the law's promise -/
def spLaw (K : PySem.W.Frag) : Sp := fun vs H Q _ => ∃ (a : Addr) (ns : List Int), vs = [.ref a] ∧ SqL K H a (ns.map V.int) ∧ ns.length ≤ 63 ∧ ∀ H', Q (.bl true) H'
/-- a check of the law: whatever the pool gives, True -/
def spCheck : Sp := fun vs H Q _ => ∃ p, vs = [.ref p] ∧ Pool H p ∧ ∀ H', Ex H H' → Q (.bl true) H'
theorem all_true {ys : List V} (h : ∀ y ∈ ys, y = V.bl true) : ∃ bs : List Bool, ys = bs.map V.bl ∧ bs.all id = true := by
  refine ⟨List.replicate ys.length true, ?_, by simp⟩
  rw [List.map_replicate]
  exact List.eq_replicate_iff.mpr ⟨rfl, h⟩
theorem rep2 {H : Hp} {l : Addr} {xs : List V} {Q : VK} (h : H l = some (.lst xs)) (hl : xs.length ≤ 1000) (q : ∀ p, H p = none → Q (.ref p) (upd H p (.lst (xs ++ xs)))) : rRep (.ref l) (.int 2) H Q := by
  refine ⟨l, 2, xs, rfl, rfl, h, by decide, by decide, ?_, fun p n => ?_⟩
  · exact Nat.le_trans (by show xs.length * 2 ≤ 100000; omega) line_ge
  · have e : (List.replicate (2 : Int).toNat xs).flatten = xs ++ xs := by
      show xs ++ (xs ++ []) = _
      rw [List.append_nil]
    first
      | (rw [e]; exact q p n)
      | exact q p n
theorem const_mk {K : PySem.W.Frag} {h : Heap} {mg : Str → Option Value} {x : Str} {u : Value} {v : V} (X : K.In h) (G : h.Ns mainGlobals mg) (a : PySem.W.nsIn K mainGlobals x = some (some u)) (r : RelV v u) : ∃ u, mg x = some u ∧ RelV v u := ⟨u, PySem.W.mg_of X G a, r⟩
/-- a statement that is never reached -/
theorem ps_dead {X : Cx} {st : Stmt} : PS X st (fun _ _ _ => False) := ⟨fun _ _ _ _ _ _ h => h.elim⟩
end Lw
/-! Tuples that know their object; dict(tuple of pairs); sorted(d.items()) of ints. -/
namespace Lw
open PySem PySem.Spec PyProof.Rows L2 Evl

/-- a tuple whose object has no dict of its own -/
def Tu (H : Hp) (p : Addr) (xs : List V) : Prop := ∃ o : Obj, o.dict = none ∧ H p = some (.frz o (.tup xs))
abbrev RowAt (H : Hp) (q : Addr) (p : Int × Int) : Prop := H q = some (.tup [.int p.1, .int p.2])
abbrev Rows (H : Hp) : List Addr → List (Int × Int) → Prop := Paired (RowAt H)
def kvI (ps : List (Int × Int)) : List (Key × V) := ps.map fun p => (.inl p.1, .int p.2)
theorem Tu.up {H H' : Hp} {p : Addr} {xs : List V} (e : Ex H H') (t : Tu H p xs) : Tu H' p xs := let ⟨o, a, b⟩ := t; ⟨o, a, e _ _ b⟩
theorem RowAt.up {H H' : Hp} {q : Addr} {p : Int × Int} (h : RowAt H q p) (e : Ex H H') : RowAt H' q p := e _ _ h
theorem Tu.sq {K : PySem.W.Frag} {H : Hp} {p : Addr} {xs : List V} (t : Tu H p xs) : SqT K H p xs := let ⟨o, _, b⟩ := t; .inl (.inr ⟨o, b⟩)
theorem Rows.up {H H' : Hp} (e : Ex H H') : ∀ {qs : List Addr} {ps : List (Int × Int)}, Rows H qs ps → Rows H' qs ps
  | _, _, .nil => .nil
  | _, _, .cons h t => .cons (e _ _ h) (Rows.up e t)
theorem u1 {a b : Nat} (h : a + 64 < b) : a + 1 < b := by omega
section
variable {X : Cx} {es : List Expr} {pos : Pos} {t : TA}
/-- tuple(xs), xs a list -/
theorem cr_tupF : CallR X (.type "tuple") (fun as H Q => ∃ p ys, as = [.ref p] ∧ SqL X.K H p ys ∧ ∀ l o, H l = none → o.dict = none → Q (.ref l) (upd H l (.frz o (.tup ys)))) := by
  intro pins s σ H as us Q I r hq
  obtain ⟨p, ys, rfl, hl, q⟩ := hq
  obtain rfl := Vals.ref1 r
  obtain ⟨its, rv, pl, hz⟩ := I.list hl
  refine call_tuple_list pl.isList (fun g kp => ?_) (by rw [List.size_toArray, ← rv.length]; exact hz)
  have J : Inv X pins σ H { s with heap := g } := I.kept (t' := s.toks) kp
  have hn := J.hok.fresh (Nat.le_refl _)
  refine ⟨.ref _, _, J.laid (t' := s.toks) (fun b o e => Heap.get?_push_of_some _ e) (Nat.le_refl _) (o := .frz { cls := .type "tuple", data := .seq its.toArray } (.tup ys)) ⟨Heap.get?_push_size _ rfl, hz, its, rv, IsTup.new _ _⟩, rfl, q _ _ hn rfl⟩
def tTupF (t : TA) : TE := fun σ H Q => t σ H fun xs H1 => xs.length ≤ sizeLine ∧ ∀ p o, H1 p = none → o.dict = none → Q (.ref p) (upd H1 p (.frz o (.tup xs)))
/-- (a, ..) -/
theorem pe_tupF {x1} (h : PA X es t) : PE X (.Tuple es x1 pos) (tTupF t) := by
  refine ⟨fun pins s σ H Q I hq => ?_⟩
  refine wpAny_Tuple_spliced (thn (h.run pos pins s σ H _ I hq) fun us s1 hh => ?_)
  obtain ⟨xs, H1, J, r, z, q⟩ := hh
  refine ⟨by rw [← r.length]; exact z, ?_⟩
  have hn := J.hok.fresh (Nat.le_refl _)
  refine ⟨.ref _, _, J.laid (t' := s1.toks) (fun b u e => Heap.get?_push_of_some _ e) (Nat.le_refl _) (o := .frz { cls := .type "tuple", data := .seq us.toArray } (.tup xs)) ⟨Heap.get?_push_size _ rfl, z, us, r, ⟨_, Heap.get?_push_size _ rfl, rfl, _, rfl⟩⟩, rfl, q _ _ hn rfl⟩
theorem rows_of {pins : List (Addr × Obj)} {σ : L2.St} {H : Hp} {s : Shared} (I : Inv X pins σ H s) : ∀ {qs : List Addr} {ps : List (Int × Int)}, Rows H qs ps →
    ∃ (vps : List (Value × Value)) (prs : List (Key × Value)), Paired (fun (q : Addr) (kv : Value × Value) => IsTup s.heap q #[kv.1, kv.2]) qs vps ∧ KV (kvI ps) prs ∧
      Paired (fun (pr : Key × Value) (kv : Value × Value) => keyIs pr.1 kv.1 = true ∧ pr.2 = kv.2) prs vps
  | _, _, .nil => ⟨[], [], .nil, .nil, .nil⟩
  | _, _, .cons (a := q) (b := p) h t => by
    obtain ⟨vps, prs, a, b, c⟩ := rows_of I t
    obtain ⟨its, rv, ht, _⟩ := I.tuple (SqT.of h)
    obtain ⟨u, y, rfl, ru, ry⟩ := vals2 rv
    obtain ⟨k, rfl⟩ := ru
    exact ⟨(.int p.1 k, y) :: vps, (.inl p.1, y) :: prs, .cons ht a, .cons ⟨rfl, ry⟩ b, .cons ⟨keyIs_int _ _, rfl⟩ c⟩
/-- dict(t), t a tuple of pairs of ints -/
theorem cr_dictT (hc : X.calm = true) : CallR X (.type "dict") (fun as H Q => ∃ a qs ps, as = [.ref a] ∧ Tu H a (qs.map V.ref) ∧ Rows H qs ps ∧ ∀ l, H l = none → Q (.ref l) (upd H l (.dK (mergeK [] (kvI ps))))) := by
  intro pins s σ H as us Q I r hq
  obtain ⟨a, qs, ps, rfl, ⟨o, hd, ho⟩, hr, q⟩ := hq
  obtain rfl := Vals.ref1 r
  obtain ⟨go, hz, its, rv, o', ho', hcl, n, hdat⟩ := I.hok a _ ho
  obtain rfl : o = o' := Option.some.inj (go.symm.trans ho')
  obtain rfl := refs_at rv
  rw [List.length_map] at hz
  obtain ⟨vps, prs, h1, h2, h3⟩ := rows_of I hr
  have l1 : qs.length = vps.length := Paired.length h1
  have l3 : prs.length = vps.length := Paired.length h3
  have key : ∀ j k v, vps[j]? = some (k, v) → ∃ b, qs[j]? = some b ∧ IsTup s.heap b #[k, v] := fun j k v e => by
    obtain ⟨b, hb, ht⟩ := L2.DX.pget h1 e
    exact ⟨b, hb, ht⟩
  refine PySem.call_dict_pairs (knd := mixKind X.prog X.w) (kvs := prs) (PairArg.tuple a (qs.map Value.ref).toArray (fun j => qs.getD j 0) vps) (I.ok.hd hc) ⟨⟨o, n, go, hcl, hd, hdat⟩, ?_, fun j k v e => ?_⟩ ⟨l3, fun i k v e => ?_⟩ (by omega) fun h' tk dd hk => ?_
  · rw [List.size_toArray, List.length_map]; exact l1
  · obtain ⟨b, hb, ht⟩ := key j k v e
    have eb : qs.getD j 0 = b := by rw [List.getD_eq_getElem?_getD, hb]; rfl
    refine ⟨?_, .inl ?_⟩
    · show (qs.map Value.ref).toArray[j]? = some (.ref (qs.getD j 0))
      rw [eb, List.getElem?_toArray, List.getElem?_map, hb]; rfl
    · show s.heap.IsTuple (qs.getD j 0) #[k, v]
      rw [eb]; exact ht
  · obtain ⟨⟨k', v'⟩, hp, hk, hv⟩ := L2.DX.pget h3 e
    exact ⟨k', by rw [hp, show v' = v from hv], hk⟩
  · have hm : (s.heap.objs.size == sysModules) = false := beq_eq_false_iff_ne.mpr (Nat.ne_of_gt I.big)
    have hlen : (mergeK [] (kvI ps)).length ≤ sizeLine := by
      refine Nat.le_trans (length_mergeK _ []) ?_
      rw [List.length_nil, Nat.zero_add, h2.length]
      omega
    exact ⟨.ref _, _, I.laid (t' := tk) (fun b u e => hk b u (fun z => nomatch z) e) (Nat.le_refl _) (o := .dK (mergeK [] (kvI ps))) ⟨hlen, hm, merged [] prs, KV.merge h2 .nil, dd⟩, rfl, q _ (I.hok.fresh (Nat.le_refl _))⟩
/-- the same context, one call deeper -/
theorem inA {pins : List (Addr × Obj)} {σ : L2.St} {H : Hp} {s : Shared} (I : Inv X pins σ H s) : Inv { X with A := X.A.in1 } pins σ H s := by
  obtain ⟨⟨a1, a2, a3, a4, a5, a6, a7, a8, a9, b1, b2, b3, b4, b5, b6, b7, b8, b9⟩, c1, c2, c3, c4, c5, c6, c7, c8, c9, d1⟩ := I
  exact ⟨⟨a1, a2, a3, a4, a5, a6, a7, a8, fun c => by show X.A.in1.handled = none; simpa using a9 c, b1, b2, b3, b4, b5, b6, b7, b8, b9⟩, c1, c2, c3, c4, c5, c6, c7, c8, c9, d1⟩
theorem outA {pins : List (Addr × Obj)} {σ : L2.St} {H : Hp} {s : Shared} (ok : X.Ok) (I : Inv { X with A := X.A.in1 } pins σ H s) : Inv X pins σ H s := by
  obtain ⟨_, c1, c2, c3, c4, c5, c6, c7, c8, c9, d1⟩ := I
  exact ⟨ok, c1, c2, c3, c4, c5, c6, c7, c8, c9, d1⟩
/-- d.items() -/
theorem mt_itemsK : MtR X "dict.items" (fun x as H Q => ∃ a kvs, x = .ref a ∧ as = [] ∧ H a = some (.dK kvs) ∧ ∀ p, H p = none → Q (.ref p) (upd H p (L2.DX.itemsO p a))) := by
  intro pins s σ H x as v us Q I rx rs hq
  obtain ⟨a, kvs, rfl, rfl, ha, q⟩ := hq
  cases rx
  cases rs
  obtain ⟨_, hd, vs, rel, o, es, ep, ho, hx, hdat, _⟩ := dk_of I.hok ha
  refine DT.callItems (es := es) (ep := ep) hd ⟨o, ho, hx, hdat⟩ ?_
  exact ⟨.ref _, _, I.laid (t' := s.toks) (fun b u e => Heap.get?_push_of_some _ e) (Nat.le_refl _) (L2.DX.itemsO_ok (Heap.get?_push_size _ rfl)), rfl, q _ (I.hok.fresh (Nat.le_refl _))⟩
theorem pairs_at {P : Program} {w : World} : ∀ {es : List DictEntry} {vs : List (Key × Value)} {kvs : List (Key × V)} {ps : List (Int × Int)} {j : Nat} {e : DictEntry}, Pairs (mixKind P w) es vs → KV kvs vs → kvs = kvI ps → es[j]? = some e →
    ∃ p t, ps[j]? = some p ∧ e.key = .int p.1 t ∧ RelV (.int p.2) e.val
  | _, _, _, _, j, e, .nil, _, _, h => by simp at h
  | _, _, _, [], _, _, .cons .., .cons .., hk, _ => by cases hk
  | _, _, _, p :: ps, 0, e, .cons h1 h2 t, .cons r1 r2, hk, h => by
    cases hk
    simp only [List.getElem?_cons_zero] at h
    cases h
    obtain ⟨r1, r3⟩ := r1
    rcases keyIs_shape (show keyIs _ _ = true from h1) with ⟨i, t, ek, ev⟩ | ⟨z, t, ek, ev⟩
    · rw [← r1] at ek
      cases ek
      exact ⟨p, t, rfl, ev, by rw [h2]; exact r3⟩
    · rw [← r1] at ek
      cases ek
  | _, _, _, p :: ps, j + 1, e, .cons h1 h2 t, .cons r1 r2, hk, h => by
    cases hk
    simp only [List.getElem?_cons_succ] at h
    obtain ⟨p', t', a, b, c⟩ := pairs_at t r2 rfl h
    exact ⟨p', t', by rw [List.getElem?_cons_succ]; exact a, b, c⟩
theorem rows_mk {H : Hp} : ∀ {as : List Addr} {ps : List (Int × Int)}, as.length = ps.length → (∀ (j : Nat) a, as[j]? = some a → ∃ p, ps[j]? = some p ∧ RowAt H a p) → Rows H as ps
  | [], [], _, _ => .nil
  | a :: as, p :: ps, hl, h => by
    refine .cons ?_ (rows_mk (by simpa using hl) fun j b e => ?_)
    · obtain ⟨p', e, r⟩ := h 0 a rfl
      cases e
      exact r
    · obtain ⟨p', e', r⟩ := h (j + 1) b e
      exact ⟨p', e', r⟩
  | [], _ :: _, hl, _ => by simp at hl
  | _ :: _, [], hl, _ => by simp at hl
def kOf (H : Hp) : V → Int × Int
  | .ref a => match H a with
    | some (.tup [.int x, .int y]) => (x, y)
    | _ => (0, 0)
  | _ => (0, 0)
theorem kOf_row {H : Hp} {a : Addr} {p : Int × Int} (h : RowAt H a p) : kOf H (.ref a) = p := by
  show (match H a with
    | some (.tup [.int x, .int y]) => (x, y)
    | _ => (0, 0)) = p
  rw [show H a = some (.tup [.int p.1, .int p.2]) from h]
def unref : V → Addr
  | .ref a => a
  | _ => 0
theorem rows_get {H : Hp} : ∀ {as : List Addr} {ps : List (Int × Int)}, Rows H as ps → ps = as.map fun a => kOf H (.ref a)
  | _, _, .nil => rfl
  | _, _, .cons h t => by rw [List.map_cons, kOf_row h, ← rows_get t]
theorem rows_mem {H : Hp} : ∀ {as : List Addr} {ps : List (Int × Int)}, Rows H as ps → ∀ a ∈ as, ∃ p, RowAt H a p
  | _, _, .cons h t, a, m => by
    rcases List.mem_cons.mp m with rfl | m
    · exact ⟨_, h⟩
    · exact rows_mem t a m
theorem rows_all {H : Hp} : ∀ {as : List Addr}, (∀ a ∈ as, ∃ p, RowAt H a p) → Rows H as (as.map fun a => kOf H (.ref a))
  | [], _ => .nil
  | a :: as, h => by
    obtain ⟨p, e⟩ := h a (by simp)
    exact .cons (by show RowAt H a (kOf H (.ref a)); rw [kOf_row e]; exact e) (rows_all fun b m => h b (List.mem_cons_of_mem _ m))
theorem rows_sub {H H' : Hp} : ∀ {as : List Addr} {ps : List (Int × Int)}, (∀ a ∈ as, ∀ o, H a = some o → H' a = some o) → Rows H as ps → Rows H' as ps
  | _, _, _, .nil => .nil
  | _, _, k, .cons h t => .cons (k _ (by simp) _ h) (rows_sub (fun a m => k a (List.mem_cons_of_mem _ m)) t)
theorem vals_refs : ∀ as : List Addr, Vals (as.map V.ref) (as.map Value.ref)
  | [] => .nil
  | _ :: as => .cons rfl (vals_refs as)
theorem rise_inj {as : List Nat} (h : as.Pairwise (· < ·)) {i j : Nat} {a : Nat} (hi : as[i]? = some a) (hj : as[j]? = some a) : i = j := by
  obtain ⟨li, ei⟩ := List.getElem?_eq_some_iff.mp hi
  obtain ⟨lj, ej⟩ := List.getElem?_eq_some_iff.mp hj
  have g := List.pairwise_iff_getElem.mp h
  by_cases c : i < j
  · have := g i j li lj c
    omega
  · by_cases c' : j < i
    · have := g j i lj li c'
      omega
    · omega
/-- a list of refs rearranged -/
theorem refs_perm {zs : List V} {as : List Addr} (h : zs.Perm (as.map V.ref)) : zs = (zs.map unref).map V.ref ∧ (zs.map unref).Perm as := by
  constructor
  · rw [List.map_map]
    refine (List.map_id zs).symm.trans (List.map_congr_left fun z hz => ?_)
    obtain ⟨a, _, rfl⟩ := List.mem_map.mp (h.mem_iff.mp hz)
    rfl
  · have e := h.map unref
    rw [List.map_map] at e
    exact e.trans (List.Perm.of_eq (List.map_id _))
/-- sorted(d.items()), keys and values ints -/
theorem cr_itemsS (hc : X.calm = true) : CallR X (.builtin "sorted") (fun as H Q => ∃ (v a : Addr) (ps : List (Int × Int)), as = [.ref v] ∧ H v = some (L2.DX.itemsO v a) ∧ H a = some (.dK (kvI ps)) ∧
    ∀ H' l (qs : List Addr) (rs : List (Int × Int)), Ex H H' → H' l = some (.lst (qs.map V.ref)) → Rows H' qs rs → rs.Perm ps → rs.Pairwise (fun p q => SrtO.lexB q p = false) → Q (.ref l) H') := by
  intro pins s σ H as us Q I r hq
  obtain ⟨v, a, ps, rfl, hv, ha, q⟩ := hq
  obtain rfl := Vals.ref1 r
  have view : s.heap.IsItemsView v a := (I.hok v _ hv).1
  obtain ⟨hz, hd, vs, rel, o, es, ep, ho, hx, hdat, hks, hps, hnd⟩ := dk_of I.hok ha
  have hn := hps.length
  rw [Array.length_toList] at hn
  have l1 : ps.length = vs.length := by rw [← rel.length]; exact (List.length_map _).symm
  have z1 : ps.length ≤ sizeLine := by rw [l1, ← rel.length]; exact hz
  refine DT.sortedI (es := es) (ep := ep) (I.ok.hd hc) view ⟨o, ho, hx, hdat⟩ (by omega) fun h' tk as hk hlt hl hG => ?_
  have lak : as.length = ps.length := by omega
  have nd : as.Nodup := hG.rise.imp fun h => Nat.ne_of_lt h
  have obj : ∀ (j : Nat) (b : Addr), as[j]? = some b → ∃ p k t, ps[j]? = some p ∧ RelV (.int p.2) t ∧ h'.get? b = some { cls := .type "tuple", data := .seq #[.int p.1 k, t] } := fun j b e => by
    obtain ⟨en, he, hg⟩ := hG.pairs j b e
    obtain ⟨p, k, ep, ek, ev⟩ := pairs_at hps rel rfl (by rw [← he]; exact Array.getElem?_toList)
    exact ⟨p, k, en.val, ep, ev, by rw [hg, ek]⟩
  have hob : (h'.push { cls := .type "list", data := .seq (as.map Value.ref).toArray }).get? h'.objs.size = some { cls := .type "list", data := .seq (as.map Value.ref).toArray } := Heap.get?_push_size _ rfl
  have old : ∀ b u, h'.get? b = some u → (h'.push { cls := .type "list", data := .seq (as.map Value.ref).toArray }).get? b = some u := fun b u e => Heap.get?_push_of_some _ e
  generalize hL : h'.objs.size = L at *
  generalize h'.push { cls := .type "list", data := .seq (as.map Value.ref).toArray } = g at *
  have J : Inv X pins σ (upd H L (.lst (as.map V.ref))) { s with heap := g, toks := tk } :=
    I.laid (t' := tk) (fun b u e => old b u (hk b u e)) (Nat.le_of_lt hlt) ⟨by rw [List.length_map, lak]; exact z1, as.map Value.ref, 0, vals_refs as, hob⟩
  have ltL : ∀ b ∈ as, b ≠ L := fun b hb => Nat.ne_of_lt (by rw [← hL]; exact hG.there hb)
  obtain ⟨H2, J2, up, hT⟩ := L2.DX.takeT (P := fun b vs => ∃ (j : Nat) (p : Int × Int), as[j]? = some b ∧ ps[j]? = some p ∧ vs = [.int p.1, .int p.2]) I as _ J nd fun b hb => by
    obtain ⟨j, hj⟩ := List.mem_iff_getElem?.mp hb
    obtain ⟨p, k, t, hp, rt, hg⟩ := obj j b hj
    have lb := hG.above b hb
    refine ⟨Nat.le_of_lt lb, by rw [upd_ne (ltL b hb)]; exact I.hok.fresh (Nat.le_of_lt lb), [.int p.1, .int p.2], ⟨j, p, hj, hp, rfl⟩, fun H2 => ?_⟩
    exact ⟨by show 2 ≤ sizeLine; decide, [.int p.1 k, t], .cons ⟨k, rfl⟩ (.cons rt .nil), _, old _ _ hg, rfl, 0, rfl⟩
  have rw2 : Rows H2 as ps := rows_mk lak fun j b e => by
    obtain ⟨vs', ⟨j', p, e1, e2, e3⟩, e4⟩ := hT b (List.mem_of_getElem? e)
    obtain rfl := rise_inj hG.rise e e1
    exact ⟨p, e2, by rw [e3] at e4; exact e4⟩
  have hs := mt_sortPO (X := { X with A := X.A.in1 }) pins _ σ H2 (.ref L) [] (.ref L) [] (fun _ H3 => ∃ zs, SrtO.Srtd (ltP (kOf H2)) zs ∧ SrtO.Stb (ltP (kOf H2)) zs (as.map V.ref) ∧ H3 = upd H2 L (.lst zs)) (inA J2) rfl .nil
    ⟨L, as.map V.ref, kOf H2, rfl, rfl, up _ _ upd_same, fun y hy => by
      obtain ⟨b, hb, rfl⟩ := List.mem_map.mp hy
      obtain ⟨p, hp⟩ := rows_mem rw2 b hb
      exact ⟨b, rfl, by rw [kOf_row hp]; exact hp⟩, fun zs h1 h2 => ⟨zs, h1, h2, rfl⟩⟩
  refine wpAny_mono hs (fun _ s' x => ?_) fun _ _ e => e
  obtain ⟨_, _, J3, _, zs, h1, h2, rfl⟩ := x
  obtain ⟨e1, e2⟩ := refs_perm h2.perm
  have sub : ∀ b ∈ zs.map unref, b ∈ as := fun b hb => e2.mem_iff.mp hb
  refine ⟨.ref L, _, outA I.ok J3, rfl, q _ L (zs.map unref) ((zs.map unref).map fun a => kOf H2 (.ref a)) ?_ (by rw [upd_same, ← e1]) ?_ ?_ ?_⟩
  · intro b u e
    have hb : b ≠ L := ne_of_none e (I.hok.fresh (Nat.le_of_lt hlt))
    rw [upd_ne hb]
    exact up b u (by rw [upd_ne hb]; exact e)
  · exact rows_sub (fun b hb u e => by rw [upd_ne (ltL b (sub b hb))]; exact e) (rows_all fun b hb => rows_mem rw2 b (sub b hb))
  · rw [rows_get rw2]
    exact e2.map _
  · rw [e1] at h1
    exact List.pairwise_map.mpr (List.pairwise_map.mp h1)
end
theorem Rows.len {H : Hp} {qs : List Addr} {ps : List (Int × Int)} (r : Rows H qs ps) : qs.length = ps.length := Paired.length r
theorem rows_at {H : Hp} : ∀ {qs : List Addr} {ps : List (Int × Int)} {i : Nat} {p : Int × Int}, Rows H qs ps → ps[i]? = some p → ∃ q, qs[i]? = some q ∧ RowAt H q p
  | _, _, i, p, r, h => L2.DX.pget r h
theorem rows_at' {H : Hp} {qs : List Addr} {ps : List (Int × Int)} {i : Nat} {v : V} (r : Rows H qs ps) (h : (qs.map V.ref)[i]? = some v) : ∃ q p, v = .ref q ∧ qs[i]? = some q ∧ ps[i]? = some p ∧ RowAt H q p := by
  rw [List.getElem?_map] at h
  cases e : qs[i]? with
  | none => rw [e] at h; cases h
  | some q =>
    rw [e] at h
    obtain rfl : V.ref q = v := Option.some.inj h
    have li := (List.getElem?_eq_some_iff.mp e).1
    rw [r.len] at li
    obtain ⟨q', e', ra⟩ := rows_at r (List.getElem?_eq_getElem li)
    rw [e] at e'
    cases e'
    exact ⟨q, _, rfl, rfl, List.getElem?_eq_getElem li, ra⟩
end Lw
/-! Sets of ints, told by a comprehension. -/
namespace Lw
open PySem PySem.Spec PyProof.Rows L2 Evl
section
variable {X : Cx}
abbrev setNil (w : World) : Obj := { cls := .type "set", dict := none, data := .set #[] 0 (.fresh 0 0 (!w.params.followText "set-order")) }
/-- {e for x in it if ..}, e an int: D the new set -/
def tScI (w : World) (wi : TI) (g : TG) (tt : TT) (te : TE) (vs : List Nat) : TE := fun σ H Q => wi σ H fun J H1 => ∀ D, H1 D = none →
  ∃ W : Nat → Nat → Hp → Prop, (∃ m, W 0 m (upd H1 D (SetO w D (fun _ => false) 0))) ∧ ∀ i m G, W i m G → (J.stop i G ∧ Q (.ref D) G) ∨
    (J.go i G ∧ ∃ Nx : Hp → Prop, (∀ G', Nx G' → ∃ m', m' < m ∧ W (i + 1) m' G') ∧ ∀ x G', J.yld i G x G' → g x (wipe σ vs) G' fun σ2 G2 => wipe σ2 vs = wipe σ vs ∧ tt σ2 G2 fun b G3 =>
      if b = true then te σ2 G3 fun y G4 => ∃ (c : Int) (S : Int → Bool) (n : Nat), y = .int c ∧ G4 D = some (SetO w D S n) ∧ n + 1 < scanBound ∧
        Nx (upd G4 D (SetO w D (fun j => S j || decide (j = c)) (if S c = true then n else n + 1))) else Nx G3)
variable {pins : List (Addr × Obj)} {s : Shared} {σ : L2.St} {H : Hp} {Q : VK} {elt tg iter : Expr} {ifs : List Expr} {sc : Scope} {own : List (PySem.Str × Nat)} {pos pos' : Pos} {wi : TI} {g : TG} {tt : TT} {te : TE}
set_option maxHeartbeats 4000000 in
theorem pe_scI (hc : X.calm = true) (hN : X.N.Nodup) (hi : PI X tg iter wi) (ok : BlkOk X.N X.env.scope sc own)
    (hg : ∀ (s : Shared) (H : Hp) (C : Addr) (cl : List (PySem.Str × Addr)) (fp : List Addr), PG (X.blk s H sc (compEnvC sc cl C X.env) fp) tg g)
    (ht : ∀ (s : Shared) (H : Hp) (C : Addr) (cl : List (PySem.Str × Addr)) (fp : List Addr), PTs (X.blk s H sc (compEnvC sc cl C X.env) fp) ifs tt)
    (he : ∀ (s : Shared) (H : Hp) (C : Addr) (cl : List (PySem.Str × Addr)) (fp : List Addr), PE (X.blk s H sc (compEnvC sc cl C X.env) fp) elt te) (hs : ∀ x, foldedSetIterable iter X.env x = pure x := by intro _; rfl) :
    PE X (.SetComp elt [⟨tg, iter, ifs, 0⟩] sc pos) (tScI X.w wi g tt te (own.map (·.2))) := by
  refine ⟨fun pins s σ H Q I hq => ?_⟩
  rw [PpSet.eval_SetComp]
  have clo : ∀ y ∈ sc.names, y.2 = .free → ∃ c, X.env.cells.lookup y.1 = some c := fun y m e => (ok.free y m e).elim (fun k => I.ok.has _ (.inl k)) fun k => I.ok.has _ (.inr k)
  refine wpAny_comprehension_free rfl hs (closure_ok clo) ok.kind (fun y m e => by rw [ok.uniq y m, e]) (thn (hi.run pins s σ H _ I hq) fun _ s1 a1 => thn a1 fun _ s2 a2 => ?_)
  obtain ⟨it, fp, tn, J, G0, rfl, I2, T, t0, f0, q⟩ := a2
  refine PpSet.newSet_ok (newEnv_comp ?_)
  have fr := I2.hok.fresh (Nat.le_refl s2.heap.objs.size)
  have I3 : Inv X pins σ (upd G0 s2.heap.objs.size (SetO X.w s2.heap.objs.size (fun _ => false) 0)) { s2 with heap := s2.heap.push (setNil X.w) } :=
    I2.laid (t' := s2.toks) (fun b u e => Heap.get?_push_of_some _ e) (Nat.le_refl _) (setO_new (setR_fresh X.w))
  have lt2 : ∀ b ∈ fp, b < s2.heap.objs.size := fun b m => let ⟨_, e, _⟩ := T.obj _ _ t0 b m; Heap.lt_size e
  have t3 : tn 0 (s2.heap.push (setNil X.w)) := T.keep _ _ _ t0 fun b _ u e => Heap.get?_push_of_some _ e
  have f3 : ∀ b ∈ fp, FpOk X pins (upd G0 s2.heap.objs.size (SetO X.w s2.heap.objs.size (fun _ => false) 0)) b ∧ b < (s2.heap.push (setNil X.w)).objs.size := fun b m =>
    ⟨⟨by rw [upd_ne (Nat.ne_of_lt (lt2 b m))]; exact (f0 b m).1, (f0 b m).2⟩, by rw [Heap.size_push]; exact Nat.lt_succ_of_lt (lt2 b m)⟩
  obtain ⟨W, ⟨m0, w0⟩, turn⟩ := q _ fr
  clear fr lt2 f0 I2 t0 q
  generalize s2.heap.objs.size = D at *
  generalize upd G0 D (SetO X.w D (fun _ => false) 0) = G3 at *
  generalize hs3 : ({ s2 with heap := s2.heap.push (setNil X.w) } : Shared) = s3 at *
  have h3 : s2.heap.push (setNil X.w) = s3.heap := by rw [← hs3]
  rw [h3] at t3 f3
  have I4 := block_start I3 ok hN f3
  have pg := hg s3 G3 s3.heap.objs.size (cellsFrom (s3.heap.objs.size + 1) sc.names (cloFrom X.env.cells sc.names [])) fp
  have pt := ht s3 G3 s3.heap.objs.size (cellsFrom (s3.heap.objs.size + 1) sc.names (cloFrom X.env.cells sc.names [])) fp
  have pe := he s3 G3 s3.heap.objs.size (cellsFrom (s3.heap.objs.size + 1) sc.names (cloFrom X.env.cells sc.names [])) fp
  show codeAny _ _ (.compStart (.SetComp elt [⟨tg, iter, ifs, 0⟩] sc pos) 0 (.ref it) (.ref D) (compEnvC sc (cellsFrom (s3.heap.objs.size + 1) sc.names (cloFrom X.env.cells sc.names [])) s3.heap.objs.size X.env))
    (compPost (model X.prog X.w) X.A X.xe _ _ (.ref D) s3.heap.objs.size) { s3 with heap := pushCells (s3.heap.push { cls := .type "dict", data := .dict #[] }) sc.names }
  have n3 : ∀ b ∈ fp, G3 b = none := fun b m => (f3 b m).1.1
  generalize hce : compEnvC sc (cellsFrom (s3.heap.objs.size + 1) sc.names (cloFrom X.env.cells sc.names [])) s3.heap.objs.size X.env = ce at *
  have eL : ce.locals = s3.heap.objs.size := by rw [← hce]; rfl
  have t4 : tn 0 (pushCells (s3.heap.push { cls := .type "dict", data := .dict #[] }) sc.names) := T.keep _ _ _ t3 fun b _ u e => pushCells_keeps _ _ _ _ (Heap.get?_push_of_some _ e)
  generalize pushCells (s3.heap.push { cls := .type "dict", data := .dict #[] }) sc.names = g4 at *
  let Y := X.blk s3 G3 sc ce fp
  have still : ∀ {σ' : L2.St} {G : Hp} {z : Shared}, Inv Y [] σ' G z → (∀ b ∈ fp, G b = none) → ∀ b ∈ fp, FpOk Y [] G b := fun {σ' G z} J hn b m =>
    ⟨hn b m, (J.ok.exf b m).1, J.ok.exfs b m, .inl m, fun x c e => (J.ok.exf b m).2 x c e, fun p hp => nomatch (show p ∈ ([] : List (Addr × Obj)) from hp)⟩
  have main : codeAny (model X.prog X.w) X.A (.compLoop (.SetComp elt [⟨tg, iter, ifs, 0⟩] sc pos) 0 (.ref it) (.ref D) ce) (compPost (model X.prog X.w) X.A X.xe none (EP X pins σ Q) (.ref D) s3.heap.objs.size) { s3 with heap := g4 } := by
    refine PpSet.compLoopS_any (fun n z => ∃ i G, Inv Y [] (wipe σ (own.map (·.2))) G z ∧ tn i z.heap ∧ (∀ b ∈ fp, G b = none) ∧ W i n G) ?_ m0 ⟨0, G3, I4, t4, n3, w0⟩
    rintro n z ⟨i, G5, J5, t5, n5, w5⟩
    rcases turn i n G5 w5 with ⟨hstop, fin⟩ | ⟨hgo, Nx, dec, step⟩
    · refine thnF (T.done Y rfl rfl rfl hc i [] z _ G5 (fun _ _ => False) J5 (still J5 n5) t5 hstop) fun r z6 x6 => ?_
      obtain ⟨rfl, J6⟩ := x6
      have J7 : Inv X pins σ G5 z6 := I3.call' (ch := fp) J6.os J6.base J6.hok J6.bare fun b m => ⟨(f3 b m).1.2.2.2.1, (f3 b m).1.2.1, (f3 b m).1.2.2.2.2.1, (f3 b m).1.2.2.2.2.2⟩
      obtain ⟨mm, hns, _⟩ := J6.loc
      have hns : z6.heap.Ns ce.locals mm := hns
      have nL : G5 ce.locals = none := J6.free
      rw [eL] at hns nL
      refine ⟨mm, hns, fun h9 sb => ?_⟩
      obtain ⟨p0, p1, p2, p3, p4, p5⟩ := I3.fpOk (Nat.le_refl _) nL
      exact ⟨.ref D, G5, J7.turned (t' := z6.toks) (fun b u hb e => (sb.2 b hb).trans e) p0 p1 p3 p4 p5, rfl, fin⟩
    · refine thnF (T.item Y rfl rfl rfl hc i [] z _ G5 (fun _ _ => False) J5 (still J5 n5) t5 hgo) fun r z6 x6 => ?_
      obtain ⟨u, rfl, x6⟩ := x6
      refine thnF x6 fun _ z7 x7 => ?_
      obtain ⟨x, G7, J7, r7, y7, t7, n7⟩ := x7
      have J7' := J7.pinned (still J7 n7) (T.obj _ _ t7)
      refine thnF (pg.run _ z7 _ G7 x u _ J7' r7 (step x G7 y7)) fun _ z8 x8 => ?_
      obtain ⟨σ8, G8, J8, hw, q8⟩ := x8
      refine thnF (pt.run _ z8 σ8 G8 _ J8 q8) fun b z9 x9 => ?_
      obtain ⟨G9, J9, q9⟩ := x9
      have close : ∀ {z' : Shared} {G' : Hp}, Inv Y ([] ++ pinsAt fp z7.heap) σ8 G' z' → Nx G' → ∃ m, m < n ∧ ∃ i G, Inv Y [] (wipe σ (own.map (·.2))) G z' ∧ tn i z'.heap ∧ (∀ b ∈ fp, G b = none) ∧ W i m G := fun {z' G'} J' nx => by
        obtain ⟨m', lt, w'⟩ := dec G' nx
        have held : ∀ b ∈ fp, ∀ u, z7.heap.get? b = some u → z'.heap.get? b = some u ∧ G' b = none := fun b m u e => by
          have k := J'.pin (b, u) (List.mem_append_right _ (List.mem_append_right _ (mem_pinsAt m e)))
          exact ⟨k.1, k.2.1⟩
        refine ⟨m', lt, i + 1, G', (J'.unpinned (pins := [])).weak (by rw [← hw, wipe_length]) (fun j v e => by rw [← hw] at e; exact (wipe_some e).1), T.keep _ _ _ t7 fun b m u e => (held b m u e).1, fun b m => ?_, w'⟩
        obtain ⟨u, e, _⟩ := T.obj _ _ t7 b m
        exact (held b m u e).2
      cases b with
      | false => exact close J9 q9
      | true =>
        refine thnF (pe.run _ z9 σ8 G9 _ J9 q9) fun v z10 x10 => ?_
        obtain ⟨y, G10, J10, r10, c, S, k, rfl, hD, hz, nx⟩ := x10
        refine thnF (mt_sadd (X := Y) _ z10 σ8 G10 (.ref D) [.int c] (.ref D) [v] (fun _ G => Nx G) J10 rfl (.cons r10 .nil) ⟨D, c, S, k, rfl, rfl, hD, hz, nx⟩) fun _ z11 x11 => ?_
        obtain ⟨_, G11, J11, _, nx⟩ := x11
        exact close J11 nx
  exact PpSet.codeAny_compStart_set main (T.self X.A 0 _ _ _ t4 main)
/-- over a tuple that stays, every item gives the int f x -/
theorem scT {w : World} {K : PySem.W.Frag} {a : Addr} {xs : List V} {g : TG} {te : TE} {vs : List Nat} {σ : L2.St} {H1 : Hp} {D : Addr} {Qd : Hp → Prop} (f : V → Int) (hD : H1 D = none) (hx : SqT K H1 a xs) (hn : xs.length ≤ 1000)
    (turn : ∀ (i : Nat) x, xs[i]? = some x → ∀ H, Ex H1 H → ∀ Q1 : VK, (∀ G, Ex H G → Q1 (.int (f x)) G) → g x (wipe σ vs) H fun σ2 H2 => wipe σ2 vs = wipe σ vs ∧ tYes σ2 H2 fun b H3 => if b = true then te σ2 H3 Q1 else False)
    (done : ∀ H' S n, Ex H1 H' → H' D = some (SetO w D S n) → (∀ k, S k = true ↔ ∃ x ∈ xs, f x = k) → n ≤ xs.length → Qd H') :
    ∃ W : Nat → Nat → Hp → Prop, (∃ m, W 0 m (upd H1 D (SetO w D (fun _ => false) 0))) ∧ ∀ i m G, W i m G → ((Itt K a).stop i G ∧ Qd G) ∨
      ((Itt K a).go i G ∧ ∃ Nx : Hp → Prop, (∀ G', Nx G' → ∃ m', m' < m ∧ W (i + 1) m' G') ∧ ∀ x G', (Itt K a).yld i G x G' → g x (wipe σ vs) G' fun σ2 G2 => wipe σ2 vs = wipe σ vs ∧ tYes σ2 G2 fun b G3 =>
        if b = true then te σ2 G3 fun y G4 => ∃ (c : Int) (S : Int → Bool) (n : Nat), y = .int c ∧ G4 D = some (SetO w D S n) ∧ n + 1 < scanBound ∧
          Nx (upd G4 D (SetO w D (fun j => S j || decide (j = c)) (if S c = true then n else n + 1))) else Nx G3) := by
  let Inn : Nat → Hp → Prop := fun i G => Ex H1 G ∧ ∃ S n, G D = some (SetO w D S n) ∧ (∀ k, S k = true ↔ ∃ x ∈ xs.take i, f x = k) ∧ n ≤ i
  refine ⟨fun i m G => m = xs.length - i ∧ i ≤ xs.length ∧ Inn i G, ⟨xs.length, by simp, Nat.zero_le _, Ex.new hD, _, 0, upd_same, fun k => by simp, Nat.le_refl _⟩, ?_⟩
  rintro i m G ⟨rfl, hi, e, S, n, hS, hk, hle⟩
  have hq := ex_t e hx
  by_cases lt : i < xs.length
  · have gx : xs[i]? = some xs[i] := List.getElem?_eq_getElem lt
    refine .inr ⟨⟨xs, xs[i], hq, gx⟩, Inn (i + 1), fun G' p => ⟨xs.length - (i + 1), by omega, rfl, lt, p⟩, fun x G' y => ?_⟩
    obtain ⟨rfl, y⟩ := y
    obtain rfl : x = xs[i] := Option.some.inj ((y xs hq).symm.trans gx)
    refine turn i _ gx _ e _ fun G4 e4 => ⟨f xs[i], S, n, rfl, e4 _ _ hS, ?_, Ex.mut (e.trans e4) hD, _, _, upd_same, fun k => ?_, ?_⟩
    · show n + 1 < 4096
      omega
    · rw [Bool.or_eq_true, hk, decide_eq_true_eq, List.take_add_one, gx]
      constructor
      · rintro (⟨x, m, h⟩ | rfl)
        · exact ⟨x, List.mem_append_left _ m, h⟩
        · exact ⟨_, List.mem_append_right _ (by simp), rfl⟩
      · rintro ⟨x, m, h⟩
        rcases List.mem_append.mp m with m | m
        · exact .inl ⟨x, m, h⟩
        · have : x = xs[i] := by simpa using m
          subst this
          exact .inr h.symm
    · split <;> omega
  · obtain rfl : i = xs.length := by omega
    exact .inl ⟨⟨xs, hq, Nat.le_refl _⟩, done G S n e hS (fun k => by rw [hk, List.take_length]) hle⟩
end
end Lw
/-! Tables of colours: what they turn, plainly. -/
namespace Lw
open PySem PySem.Spec PyProof.Rows L2 Evl
def Col (c : Int) : Prop := 0 ≤ c ∧ c ≤ 1000000000
abbrev Tb := List (Int × Int)
structure Good (ps : Tb) : Prop where
  col : ∀ p ∈ ps, Col p.1 ∧ Col p.2
  asc : ps.Pairwise fun p q => p.1 < q.1
  len : ps.length ≤ 1000
def look (ps : Tb) (c : Int) : Int := ((ps.find? fun p => decide (p.1 = c)).map (·.2)).getD c
/-- a table in the heap -/
def Tab (H : Hp) (v : V) (ps : Tb) : Prop := ∃ a qs, v = .ref a ∧ Tu H a (qs.map V.ref) ∧ Rows H qs ps
theorem Tab.up {H H' : Hp} {v : V} {ps : Tb} (e : Ex H H') (t : Tab H v ps) : Tab H' v ps := let ⟨a, qs, h1, h2, h3⟩ := t; ⟨a, qs, h1, h2.up e, h3.up e⟩
theorem ixT_at {K : PySem.W.Frag} {H : Hp} {p : Addr} {xs : List V} {i : Int} {j : Nat} {v : V} {Q : VK} (h : SqT K H p xs) (e : i = (j : Int)) (hx : xs[j]? = some v) (q : Q v H) : rIx K (.ref p) (.int i) H Q :=
  .inr (.inl ⟨p, xs, i, v, rfl, rfl, h, by rw [e]; exact atI_nat hx, q⟩)
theorem ixL_at {K : PySem.W.Frag} {H : Hp} {p : Addr} {xs : List V} {i : Int} {j : Nat} {v : V} {Q : VK} (h : SqL K H p xs) (e : i = (j : Int)) (hx : xs[j]? = some v) (q : Q v H) : rIx K (.ref p) (.int i) H Q :=
  .inl ⟨p, xs, i, v, rfl, rfl, h, by rw [e]; exact atI_nat hx, q⟩
theorem rows_ref {H : Hp} {qs : List Addr} {ps : Tb} {i : Nat} (r : Rows H qs ps) (h : i < ps.length) : ∃ q, (qs.map V.ref)[i]? = some (.ref q) ∧ RowAt H q ps[i] := by
  obtain ⟨q, e, ra⟩ := rows_at r (List.getElem?_eq_getElem h)
  exact ⟨q, by rw [List.getElem?_map, e]; rfl, ra⟩
theorem Good.at {ps : Tb} (g : Good ps) {i j : Nat} (hi : i < ps.length) (hj : j < ps.length) (h : i < j) : ps[i].1 < ps[j].1 := List.pairwise_iff_getElem.mp g.asc i j hi hj h
theorem look_nil (c : Int) : look [] c = c := rfl
theorem look_cons {p : Int × Int} {ps : Tb} {c : Int} : look (p :: ps) c = if p.1 = c then p.2 else look ps c := by
  unfold look
  rw [List.find?_cons]
  by_cases e : p.1 = c
  · rw [if_pos e, decide_eq_true e]; rfl
  · rw [if_neg e, decide_eq_false e]
theorem look_no {ps : Tb} {c : Int} (h : ∀ p ∈ ps, p.1 ≠ c) : look ps c = c := by
  induction ps with
  | nil => rfl
  | cons p ps ih =>
    rw [look_cons, if_neg (h p (by simp))]
    exact ih fun q m => h q (List.mem_cons_of_mem _ m)
theorem look_in {ps : Tb} {c : Int} : (∃ p ∈ ps, p.1 = c ∧ look ps c = p.2) ∨ (∀ p ∈ ps, p.1 ≠ c) ∧ look ps c = c := by
  induction ps with
  | nil => exact .inr ⟨fun _ h => (nomatch h), rfl⟩
  | cons p ps ih =>
    rw [look_cons]
    by_cases e : p.1 = c
    · exact .inl ⟨p, by simp, e, by rw [if_pos e]⟩
    · rw [if_neg e]
      rcases ih with ⟨q, m, a, b⟩ | ⟨a, b⟩
      · exact .inl ⟨q, List.mem_cons_of_mem _ m, a, b⟩
      · refine .inr ⟨fun q m => ?_, b⟩
        rcases List.mem_cons.mp m with rfl | m
        · exact e
        · exact a q m
theorem Good.look {ps : Tb} (g : Good ps) {c : Int} (h : Col c) : Col (look ps c) := by
  rcases look_in (ps := ps) (c := c) with ⟨p, m, _, e⟩ | ⟨_, e⟩
  · rw [e]; exact (g.col p m).2
  · rw [e]; exact h
/-- the dict of a table -/
theorem merge_asc {κ : Type} : ∀ {ps acc : Tb}, (acc ++ ps).Pairwise (fun p q => p.1 ≠ q.1) → mergeK (kvI acc) (kvI ps) = kvI (acc ++ ps)
  | [], acc, _ => by rw [List.append_nil]; rfl
  | p :: ps, acc, h => by
    have no : ((kvI acc).any fun kv => decide (kv.1 = Sum.inl p.1)) = false := by
      rw [List.any_eq_false]
      intro x hx
      obtain ⟨q, hq, rfl⟩ := List.mem_map.mp hx
      have := (List.pairwise_append.mp h).2.2 q hq p (by simp)
      simpa using this
    show mergeK (putK (kvI acc) (.inl p.1) (.int p.2)) (kvI ps) = _
    unfold putK
    rw [no]
    have e : kvI acc ++ [(Sum.inl p.1, V.int p.2)] = kvI (acc ++ [p]) := by simp [kvI]
    show mergeK (kvI acc ++ [(Sum.inl p.1, V.int p.2)]) (kvI ps) = _
    rw [e, merge_asc (κ := κ) (by simpa using h)]
    simp
theorem Good.ne {ps : Tb} (g : Good ps) : ps.Pairwise fun p q => p.1 ≠ q.1 := g.asc.imp fun h => Int.ne_of_lt h
theorem val_look {ps : Tb} {c : Int} : (valV (kvI ps) (.inl c)).getD (.int c) = .int (look ps c) := by
  induction ps with
  | nil => rfl
  | cons p ps ih =>
    rw [look_cons]
    by_cases e : p.1 = c
    · rw [if_pos e, show kvI (p :: ps) = (Sum.inl p.1, V.int p.2) :: kvI ps from rfl, valV_pos (by rw [e])]
      rfl
    · rw [if_neg e, ← ih]
      show (valV ((Sum.inl p.1, V.int p.2) :: kvI ps) (.inl c)).getD (.int c) = _
      rw [valV_neg (by simpa using e)]
theorem catT {K : PySem.W.Frag} {H : Hp} {a b : Addr} {xs ys : List V} {Q : VK} (ha : SqT K H a xs) (hb : SqT K H b ys) (hz : xs.length + ys.length ≤ 1000) (q : ∀ p H', Ex H H' → SqT K H' p (xs ++ ys) → Q (.ref p) H') : rCatA K (.ref a) (.ref b) H Q := by
  refine ⟨a, b, xs, ys, rfl, rfl, ha, hb, Nat.le_trans hz (by decide), fun e => ?_, fun _ e => ?_, fun _ _ p n => q p _ (Ex.new n) (SqT.of upd_same)⟩
  · exact q b H (Ex.refl H) (by rw [e]; exact hb)
  · exact q a H (Ex.refl H) (by rw [e, List.append_nil]; exact ha)
theorem Rows.app {H : Hp} : ∀ {qs qs' : List Addr} {ps ps' : Tb}, Rows H qs ps → Rows H qs' ps' → Rows H (qs ++ qs') (ps ++ ps')
  | _, _, _, _, .nil, r => r
  | _, _, _, _, .cons h t, r => .cons h (Rows.app t r)
theorem rows_of_all {H : Hp} : ∀ {ys : List V} {fs : Tb}, ys.length = fs.length → (∀ (i : Nat) y, ys[i]? = some y → ∃ q p, y = .ref q ∧ fs[i]? = some p ∧ RowAt H q p) → ∃ qs : List Addr, ys = qs.map V.ref ∧ Rows H qs fs
  | [], [], _, _ => ⟨[], rfl, .nil⟩
  | y :: ys, p :: fs, hl, h => by
    obtain ⟨q, p', rfl, e, r⟩ := h 0 y rfl
    cases e
    obtain ⟨qs, rfl, t⟩ := rows_of_all (ys := ys) (fs := fs) (by simpa using hl) fun i z e => h (i + 1) z e
    exact ⟨q :: qs, rfl, .cons r t⟩
  | [], _ :: _, hl, _ => by simp at hl
  | _ :: _, [], hl, _ => by simp at hl
/-- the pairs of fs that are not idle are kept -/
def SiftP (fs : Tb) : PeT := fun i o H => ∃ p, fs[i]? = some p ∧ ((p.1 ≠ p.2 ∧ ∃ q, o = some (.ref q) ∧ RowAt H q p) ∨ (p.1 = p.2 ∧ o = none))
theorem sift_mono (fs : Tb) : Mono (SiftP fs) := fun i o H H' e ⟨p, h, r⟩ => ⟨p, h, r.imp (fun ⟨a, q, b, c⟩ => ⟨a, q, b, e _ _ (fun xs => by intro z; cases z) c⟩) id⟩
theorem sift_all {H : Hp} : ∀ {os : List (Option V)} {fs : Tb}, os.length = fs.length → (∀ (i : Nat) o, os[i]? = some o → SiftP fs i o H) → ∃ qs : List Addr, os.filterMap id = qs.map V.ref ∧ Rows H qs (fs.filter fun p => decide (p.1 ≠ p.2))
  | [], [], _, _ => ⟨[], rfl, .nil⟩
  | o :: os, p :: fs, hl, h => by
    obtain ⟨qs, e2, t⟩ := sift_all (os := os) (fs := fs) (by simpa using hl) fun i z e => h (i + 1) z e
    obtain ⟨p', e, r⟩ := h 0 o rfl
    cases e
    rcases r with ⟨a, q, rfl, c⟩ | ⟨a, rfl⟩
    · exact ⟨q :: qs, by show V.ref q :: os.filterMap id = _; rw [e2]; rfl, by rw [List.filter_cons_of_pos (by simpa using a)]; exact .cons c t⟩
    · exact ⟨qs, by show os.filterMap id = _; exact e2, by rw [List.filter_cons_of_neg (by simpa using a)]; exact t⟩
  | [], _ :: _, hl, _ => by simp at hl
  | _ :: _, [], hl, _ => by simp at hl
/-- ts turns as ps and then rs, and has what is needed alone -/
structure IsChain (ps rs ts : Tb) : Prop where
  asc : ts.Pairwise fun p q => p.1 < q.1
  mem : ∀ p : Int × Int, p ∈ ts ↔ p.1 ≠ p.2 ∧ p.2 = look rs (look ps p.1)
  len : ts.length ≤ ps.length + rs.length
theorem far_out {ps rs : Tb} {c : Int} (h : look rs (look ps c) ≠ c) : (∃ p ∈ ps ++ rs, p.1 = c) := by
  rcases look_in (ps := ps) (c := c) with ⟨p, m, e, _⟩ | ⟨_, e⟩
  · exact ⟨p, List.mem_append_left _ m, e⟩
  · rw [e] at h
    rcases look_in (ps := rs) (c := c) with ⟨p, m, e, _⟩ | ⟨_, e⟩
    · exact ⟨p, List.mem_append_right _ m, e⟩
    · exact absurd e h
theorem chain_mk {ps rs : Tb} {ns : List Int} (hs : ns.Pairwise (· < ·)) (hm : ∀ k, k ∈ ns ↔ ∃ p ∈ ps ++ rs, p.1 = k) (hl : ns.length ≤ ps.length + rs.length) : IsChain ps rs ((ns.map fun k => (k, look rs (look ps k))).filter fun p => decide (p.1 ≠ p.2)) := by
  refine ⟨List.Pairwise.filter _ (List.pairwise_map.mpr hs : (ns.map fun k => (k, look rs (look ps k))).Pairwise fun p q => p.1 < q.1), fun p => ?_, Nat.le_trans (List.length_filter_le _ _) (by rw [List.length_map]; exact hl)⟩
  rw [List.mem_filter, List.mem_map, decide_eq_true_eq]
  constructor
  · rintro ⟨⟨k, m, rfl⟩, h⟩
    exact ⟨h, rfl⟩
  · rintro ⟨h, e⟩
    refine ⟨⟨p.1, (hm p.1).mpr (far_out fun z => h (by rw [e]; exact z.symm)), ?_⟩, h⟩
    rw [← e]
theorem asc_uniq : ∀ {as bs : Tb}, as.Pairwise (fun p q => p.1 < q.1) → bs.Pairwise (fun p q => p.1 < q.1) → (∀ p, p ∈ as ↔ p ∈ bs) → as = bs
  | [], [], _, _, _ => rfl
  | [], b :: bs, _, _, h => absurd ((h b).mpr (by simp)) (by simp)
  | a :: as, [], _, _, h => absurd ((h a).mp (by simp)) (by simp)
  | a :: as, b :: bs, ha, hb, h => by
    obtain ⟨a1, a2⟩ := List.pairwise_cons.mp ha
    obtain ⟨b1, b2⟩ := List.pairwise_cons.mp hb
    have e : a = b := by
      rcases List.mem_cons.mp ((h a).mp (by simp)) with e | m
      · exact e
      · rcases List.mem_cons.mp ((h b).mpr (by simp)) with e | n
        · exact e.symm
        · have := b1 a m
          have := a1 b n
          omega
    subst e
    rw [asc_uniq a2 b2 fun p => ?_]
    constructor
    · intro m
      rcases List.mem_cons.mp ((h p).mp (List.mem_cons_of_mem _ m)) with rfl | n
      · exact absurd (a1 p m) (Int.lt_irrefl _)
      · exact n
    · intro m
      rcases List.mem_cons.mp ((h p).mpr (List.mem_cons_of_mem _ m)) with rfl | n
      · exact absurd (b1 p m) (Int.lt_irrefl _)
      · exact n
theorem IsChain.uniq {ps rs ts us : Tb} (a : IsChain ps rs ts) (b : IsChain ps rs us) : ts = us := asc_uniq a.asc b.asc fun p => (a.mem p).trans (b.mem p).symm
theorem IsChain.good {ps rs ts : Tb} (c : IsChain ps rs ts) (g : Good ps) (k : Good rs) (hl : ps.length + rs.length ≤ 1000) : Good ts := by
  refine ⟨fun p m => ?_, c.asc, Nat.le_trans c.len hl⟩
  obtain ⟨h1, h2⟩ := (c.mem p).mp m
  have c1 : Col p.1 := by
    obtain ⟨q, m, e⟩ := far_out (ps := ps) (rs := rs) (c := p.1) fun z => h1 (by rw [h2]; exact z.symm)
    rw [← e]
    rcases List.mem_append.mp m with m | m
    · exact (g.col q m).1
    · exact (k.col q m).1
  exact ⟨c1, by rw [h2]; exact k.look (g.look c1)⟩
theorem look_mem {ts : Tb} (h : ts.Pairwise fun p q => p.1 < q.1) {p : Int × Int} (m : p ∈ ts) : look ts p.1 = p.2 := by
  induction ts with
  | nil => cases m
  | cons q ts ih =>
    obtain ⟨a, b⟩ := List.pairwise_cons.mp h
    rw [look_cons]
    rcases List.mem_cons.mp m with rfl | m
    · rw [if_pos rfl]
    · rw [if_neg (Int.ne_of_lt (a p m))]
      exact ih b m
theorem IsChain.turn {ps rs ts : Tb} (c : IsChain ps rs ts) (x : Int) : look ts x = look rs (look ps x) := by
  by_cases e : look rs (look ps x) = x
  · rcases look_in (ps := ts) (c := x) with ⟨p, m, e1, e2⟩ | ⟨_, e2⟩
    · obtain ⟨h1, h2⟩ := (c.mem p).mp m
      rw [e2, h2, e1]
    · rw [e2, e]
  · exact look_mem c.asc (p := (x, look rs (look ps x))) ((c.mem _).mpr ⟨fun z => e z.symm, rfl⟩)
theorem look_at {c : Int} : ∀ {ps : Tb} {i : Nat} {p : Int × Int}, ps[i]? = some p → (∀ q ∈ ps.take i, q.1 ≠ c) → p.1 = c → look ps c = p.2
  | q :: ps, 0, p, h, _, e => by
    cases h
    rw [look_cons, if_pos e]
  | q :: ps, i + 1, p, h, no, e => by
    rw [look_cons, if_neg (no q (by simp))]
    exact look_at (i := i) h (fun r m => no r (by rw [List.take_succ_cons]; exact List.mem_cons_of_mem _ m)) e
  | [], i, p, h, _, _ => by simp at h
theorem eqV_int {a b : Int} : eqV (.int a) (.int b) = decide (a = b) := by
  by_cases h : a = b
  · subst h; simp [eqV]
  · simp [eqV, h]
theorem inV_ints {k : Int} {ns : List Int} : inV (.int k) (ns.map V.int) = decide (k ∈ ns) := by
  unfold inV
  induction ns with
  | nil => rfl
  | cons n ns ih =>
    rw [List.map_cons, List.any_cons, ih, eqV_int]
    by_cases e : n = k
    · subst e; simp
    · have e' : ¬ k = n := fun z => e z.symm
      simp [e, e']
theorem flat_ints (ns : List Int) : (ns.map V.int).all flatV = true := by
  rw [List.all_eq_true]
  intro x hx
  obtain ⟨n, _, rfl⟩ := List.mem_map.mp hx
  rfl
theorem in_ints {K : PySem.W.Frag} {H : Hp} {p : Addr} {k : Int} {ns : List Int} {Q : VK} (h : SqL K H p (ns.map V.int)) (q : Q (.bl (decide (k ∈ ns))) H) : rIn K false (.int k) (.ref p) H Q :=
  ⟨p, _, rfl, .inl h, rfl, flat_ints ns, by rw [inV_ints]; exact q⟩
theorem rows_ex {H : Hp} {far : Int} : ∀ {ys : List V} {ns : List Int}, ys.length = ns.length → (∀ (i : Nat) y, ys[i]? = some y → ∃ q k x, y = .ref q ∧ ns[i]? = some k ∧ (0 ≤ x ∧ x < far) ∧ RowAt H q (k, x)) →
    ∃ (qs : List Addr) (fs : Tb), ys = qs.map V.ref ∧ Rows H qs fs ∧ fs.map (·.1) = ns ∧ ∀ p ∈ fs, 0 ≤ p.2 ∧ p.2 < far
  | [], [], _, _ => ⟨[], [], rfl, .nil, rfl, fun p m => by simp at m⟩
  | y :: ys, n :: ns, hl, h => by
    obtain ⟨q, k, x, rfl, e, hx, r⟩ := h 0 y rfl
    cases e
    obtain ⟨qs, fs, rfl, t, e2, hf⟩ := rows_ex (far := far) (ys := ys) (ns := ns) (by simpa using hl) fun i z e => h (i + 1) z e
    refine ⟨q :: qs, (n, x) :: fs, rfl, .cons r t, by rw [List.map_cons, e2], fun p m => ?_⟩
    rcases List.mem_cons.mp m with rfl | m
    · exact hx
    · exact hf p m
  | [], _ :: _, hl, _ => by simp at hl
  | _ :: _, [], hl, _ => by simp at hl
theorem asc_of {ns : List Int} (h : ns.Pairwise (· ≤ ·)) (nd : ns.Nodup) : ns.Pairwise (· < ·) := by
  induction ns with
  | nil => exact .nil
  | cons n ns ih =>
    obtain ⟨a, b⟩ := List.pairwise_cons.mp h
    obtain ⟨c, d⟩ := List.nodup_cons.mp nd
    refine .cons (fun m hm => ?_) (ih b d)
    have := a m hm
    have : n ≠ m := fun z => c (z ▸ hm)
    omega
/-- a drawn table is good -/
theorem good_mk {fs : Tb} {ns : List Int} {far : Int} (e : fs.map (·.1) = ns) (h : ns.Pairwise (· ≤ ·)) (nd : ns.Nodup) (hn : ∀ k ∈ ns, 0 ≤ k ∧ k < far) (hf : ∀ p ∈ fs, 0 ≤ p.2 ∧ p.2 < far) (f1 : far ≤ 1000000000) (hl : ns.length ≤ 5) : Good fs ∧ fs.length ≤ 5 := by
  have l : fs.length = ns.length := by rw [← e, List.length_map]
  refine ⟨⟨fun p m => ?_, List.pairwise_map.mp (e ▸ asc_of h nd), by omega⟩, by omega⟩
  have a := hn p.1 (by rw [← e]; exact List.mem_map.mpr ⟨p, m, rfl⟩)
  have b := hf p m
  exact ⟨⟨a.1, by omega⟩, ⟨b.1, by omega⟩⟩
theorem get_ints {ns : List Int} {i : Nat} {x : V} (h : (ns.map V.int)[i]? = some x) : ∃ k, ns[i]? = some k ∧ x = .int k := by
  rw [List.getElem?_map] at h
  cases hz : ns[i]? with
  | none => rw [hz] at h; cases h
  | some k => rw [hz] at h; exact ⟨k, rfl, (Option.some.inj h).symm⟩
/-- a table as data -/
def datT (ts : Tb) : PyData := .tuple (ts.map fun p => .tuple [.int p.1, .int p.2])
theorem lay_all (ts : Tb) : PyData.canLayAll0 (ts.map fun p => .tuple [.int p.1, .int p.2]) = true := by
  induction ts with
  | nil => rfl
  | cons p ts ih => simp [PyData.canLayAll0, PyData.canLay0, ih]
theorem deep_all (ts : Tb) : PyData.depthAll (ts.map fun p => .tuple [.int p.1, .int p.2]) ≤ 1 := by
  induction ts with
  | nil => decide
  | cons p ts ih =>
    rw [List.map_cons, PyData.depthAll]
    exact Nat.max_le.mpr ⟨by simp [PyData.depth, PyData.depthAll], ih⟩
theorem shaped_tab (ts : Tb) : SeqAt.shaped (datT ts) = true := by
  unfold SeqAt.shaped datT
  rw [PyData.canLay0, PyData.depth, lay_all, decide_eq_true (by have := deep_all ts; omega)]
  rfl
theorem eqv_tab (ts : Tb) : PyData.eqv (datT ts) (datT ts) = true := PySem.SeqAt.eqv_refl _ (SeqAt.canLay_of_shaped (shaped_tab ts))
theorem dp_tab {K : PySem.W.Frag} {H : Hp} {v : V} {ts : Tb} (t : Tab H v ts) : Dp K H v (datT ts) := by
  obtain ⟨a, qs, rfl, h, r⟩ := t
  refine .tup h.sq ?_
  clear h
  induction r with
  | nil => exact .nil
  | cons h t ih => exact .cons (.tup (SqT.of h) (.cons (.int _) (.cons (.int _) .nil))) ih
theorem ne_tab {K : PySem.W.Frag} {H : Hp} {v u : V} {ts : Tb} {Q : VK} (t : Tab H v ts) (t' : Tab H u ts) (q : Q (.bl false) H) : rNeD K v u H Q :=
  ⟨_, _, dp_tab t, dp_tab t', shaped_tab ts, shaped_tab ts, by rw [eqv_tab]; exact q⟩
theorem eq_tab {K : PySem.W.Frag} {H : Hp} {v u : V} {ts : Tb} {Q : VK} (t : Tab H v ts) (t' : Tab H u ts) (q : Q (.bl true) H) : rEqD K v u H Q :=
  ⟨_, _, dp_tab t, dp_tab t', shaped_tab ts, shaped_tab ts, by rw [eqv_tab]; exact q⟩
/-- the dict of pairs (k, F k) -/
theorem merge_fun (F : Int → Int) : ∀ {ks : List Int} {acc : Tb}, (acc.map (·.1)).Nodup → (∀ p ∈ acc, p.2 = F p.1) →
    ∃ es : Tb, mergeK (kvI acc) (kvI (ks.map fun k => (k, F k))) = kvI es ∧ (es.map (·.1)).Nodup ∧ ∀ p, p ∈ es ↔ p ∈ acc ∨ p.1 ∈ ks ∧ p.2 = F p.1
  | [], acc, nd, hf => ⟨acc, rfl, nd, fun p => by simp⟩
  | k :: ks, acc, nd, hf => by
    have step : ∃ acc' : Tb, putK (kvI acc) (.inl k) (.int (F k)) = kvI acc' ∧ (acc'.map (·.1)).Nodup ∧ (∀ p, p ∈ acc' ↔ p ∈ acc ∨ p = (k, F k)) := by
      unfold putK
      by_cases hk : k ∈ acc.map (·.1)
      · obtain ⟨p, hp, e⟩ := List.mem_map.mp hk
        have e' : p.1 = k := e
        have any : ((kvI acc).any fun kv => decide (kv.1 = Sum.inl k)) = true := by
          rw [List.any_eq_true]
          exact ⟨(.inl p.1, .int p.2), List.mem_map.mpr ⟨p, hp, rfl⟩, by simpa using e'⟩
        rw [if_pos any]
        refine ⟨acc, ?_, nd, fun q => ⟨.inl, fun h => h.elim id fun h => ?_⟩⟩
        · unfold kvI
          rw [List.map_map]
          refine List.map_congr_left fun q hq => ?_
          show (if (Sum.inl q.1 : Key) = Sum.inl k then ((Sum.inl q.1 : Key), V.int (F k)) else (Sum.inl q.1, V.int q.2)) = (Sum.inl q.1, V.int q.2)
          split
          · rename_i h
            rw [hf q hq, Sum.inl.inj h]
          · rfl
        · have : p = q := by
            rw [h]
            exact Prod.ext e' (by rw [hf p hp, e'])
          rw [← this]; exact hp
      · have any : ((kvI acc).any fun kv => decide (kv.1 = Sum.inl k)) = false := by
          rw [List.any_eq_false]
          intro x hx
          obtain ⟨q, hq, rfl⟩ := List.mem_map.mp hx
          have : q.1 ≠ k := fun z => hk (List.mem_map.mpr ⟨q, hq, z⟩)
          simpa using this
        rw [any, if_neg Bool.false_ne_true]
        refine ⟨acc ++ [(k, F k)], by simp [kvI], ?_, fun q => by simp⟩
        rw [List.map_append]
        refine List.nodup_append.mpr ⟨nd, by simp, fun x hx y hy => ?_⟩
        obtain rfl : y = k := by simpa using hy
        exact fun z => hk (z ▸ hx)
    obtain ⟨acc', e1, nd', hm⟩ := step
    obtain ⟨es, e2, nd2, hm2⟩ := merge_fun F (ks := ks) (acc := acc') nd' fun p hp => by
      rcases (hm p).mp hp with h | rfl
      · exact hf p h
      · rfl
    refine ⟨es, ?_, nd2, fun p => ?_⟩
    · show mergeK (putK (kvI acc) (.inl k) (.int (F k))) (kvI (ks.map fun k => (k, F k))) = _
      rw [e1, e2]
    · rw [hm2, hm, List.mem_cons]
      constructor
      · rintro ((h | rfl) | ⟨h, e⟩)
        · exact .inl h
        · exact .inr ⟨.inl rfl, rfl⟩
        · exact .inr ⟨.inr h, e⟩
      · rintro (h | ⟨h | h, e⟩)
        · exact .inl (.inl h)
        · exact .inl (.inr (Prod.ext h (by rw [e, h])))
        · exact .inr ⟨h, e⟩
theorem asc_lex {rs : Tb} (h : rs.Pairwise fun p q => SrtO.lexB q p = false) (nd : (rs.map (·.1)).Nodup) : rs.Pairwise fun p q => p.1 < q.1 := by
  have n2 := List.pairwise_map.mp nd
  refine (h.and n2).imp fun {p q} ⟨a, b⟩ => ?_
  have := SrtO.lexB_no.mp a
  omega
/-- the due table is the chain -/
theorem due_chain {ps rs ts es us : Tb} {ks : List Int} (c : IsChain ps rs ts) (hk : ∀ p ∈ ps ++ rs, p.1 ∈ ks) (nd : (es.map (·.1)).Nodup) (hm : ∀ p, p ∈ es ↔ p.1 ∈ ks ∧ p.2 = look rs (look ps p.1))
    (hp : us.Perm es) (hs : us.Pairwise fun p q => SrtO.lexB q p = false) : us.filter (fun p => decide (p.1 ≠ p.2)) = ts := by
  refine asc_uniq (List.Pairwise.filter _ (asc_lex hs ((hp.map _).nodup_iff.mpr nd))) c.asc fun p => ?_
  rw [List.mem_filter, hp.mem_iff, hm, c.mem, decide_eq_true_eq]
  constructor
  · rintro ⟨⟨_, e⟩, h⟩
    exact ⟨h, e⟩
  · rintro ⟨h, e⟩
    obtain ⟨q, hq, e2⟩ := far_out (ps := ps) (rs := rs) (c := p.1) fun z => h (by rw [e]; exact z.symm)
    exact ⟨⟨e2 ▸ hk q hq, e⟩, h⟩
theorem ints_of_all {f : Int × Int → Int} {fs : Tb} {ys : List V} (hl : ys.length = fs.length) (h : ∀ (i : Nat) y, ys[i]? = some y → ∃ p, fs[i]? = some p ∧ y = .int (f p)) : ∃ xs : List Int, ys = xs.map V.int ∧ xs = fs.map f := by
  refine ⟨fs.map f, ?_, rfl⟩
  refine List.ext_getElem? fun i => ?_
  rw [List.getElem?_map, List.getElem?_map]
  by_cases c : i < ys.length
  · obtain ⟨p, e1, e2⟩ := h i ys[i] (List.getElem?_eq_getElem c)
    rw [List.getElem?_eq_getElem c, e1, e2]
    rfl
  · rw [List.getElem?_eq_none (by omega), List.getElem?_eq_none (by omega)]
    rfl
theorem shaped2 (x : Int) : SeqAt.shaped (.list [.int x, .int x]) = true := by
  simp [SeqAt.shaped, PyData.canLay0, PyData.canLayAll0, PyData.depth, PyData.depthAll]
theorem ne2 {K : PySem.W.Frag} {H : Hp} {a b : Addr} {x : Int} {Q : VK} (h : H a = some (.lst [.int x, .int x])) (h' : H b = some (.lst [.int x, .int x])) (q : Q (.bl false) H) : rNeD K (.ref a) (.ref b) H Q :=
  ⟨_, _, .lst (SqL.of h) (.cons (.int _) (.cons (.int _) .nil)), .lst (SqL.of h') (.cons (.int _) (.cons (.int _) .nil)), shaped2 x, shaped2 x, by rw [SeqAt.eqv_refl _ (SeqAt.canLay_of_shaped (shaped2 x))]; exact q⟩
theorem good_nil : Good [] := ⟨fun p m => by simp at m, .nil, by simp⟩
theorem any_false {ys : List V} (h : ∀ y ∈ ys, y = V.bl false) : ∃ bs : List Bool, ys = bs.map V.bl ∧ bs.any id = false := by
  refine ⟨List.replicate ys.length false, ?_, by simp⟩
  rw [List.map_replicate]
  exact List.eq_replicate_iff.mpr ⟨rfl, h⟩
theorem rows_kv {K : PySem.W.Frag} {H : Hp} : ∀ {qs : List Addr} {ps : Tb}, Rows H qs ps → Paired (fun (p : Addr) (kv : Key × V) => SqT K H p [kV kv.1, kv.2]) qs (kvI ps)
  | _, _, .nil => .nil
  | _, _, .cons h t => .cons (SqT.of h) (rows_kv t)
end Lw
/-! Exceptions of one's own: Base.__init__(self, ..), Base an own class without an __init__. -/
namespace Lw
open PySem PySem.Spec PyProof.Rows L2 Evl
section
variable {X : Cx} {e : Expr} {es : List Expr} {ta : TA} {p1 p2 pos : Pos} {x : Str} {B : Addr}
/-- what the written part says of the base -/
structure BaseC (K : PySem.W.Frag) (B : Addr) : Prop where
  ga : PySem.W.specialIn K (.ref B) "__getattribute__" = some (some (.builtin "type.__getattribute__"))
  ty : PySem.W.typeIn K (.ref B) = some (.type "type")
  rd : PySem.W.readsIn K B (.type "type") = true
  fc : PySem.W.findCls K (.ref B) (.type "type") "__init__" = some (.val (.builtin "ValueError.__init__"))
theorem pe_binit {pl : Sem Bool} (hg : Gl X x) (hm : X.mg x = some (.ref B)) (b : BaseC X.K B) (ha : PA X (e :: es) ta) (hd : (x == ("__debug__" : Str)) = false := by decide)
    (hc : eval (.Call (.Attribute (.Name x p1) "__init__" p2) (e :: es) [] pos) X.env = (do
      let ov ← eval (.Name x p1) X.env
      standAt p2.atName
      let (f, first) ← holding [ov] (getMethod ov "__init__" pl)
      callWith pos f first (backTo pos (starEach (e :: es) X.env)) (backToKw pos (keywordEach [] X.env))) := by rfl)
    (hs : starEach (e :: es) X.env = (false, eval e X.env) :: starEach es X.env := by rfl) (hpl : (backTo pos (starEach es X.env)).any (·.1) = false := by rfl) :
    PE X (.Call (.Attribute (.Name x p1) "__init__" p2) (e :: es) [] pos) (tVeI X.K ta) := by
  refine ⟨fun pins s σ H Q I hq => ?_⟩
  refine PySem.W.methodCall_KW (ld_glob I hg hm ?_ hd) hc
  obtain ⟨m, fr⟩ := I.fr
  refine PySem.W.method_of_cls fr I.ok.mod.kin b.ga (PySem.W.cls_val fr I.ok.mod.kin b.ty b.rd b.fc (by decide +kernel) ?_)
  show wpAny _ _ (callWith pos (Value.builtin "ValueError.__init__") [] (backTo pos (starEach (e :: es) X.env)) []) _ _ _
  refine PyProof.Rows.callWith_method1 (thn (ha.run pos pins _ σ H _ (I.tok _) hq) fun us s1 hh => ?_) hs hpl
  obtain ⟨vs, H1, J, rv, a, C, ws, rfl, hl, T, ea, q⟩ := hh
  cases rv with
  | cons r0 rt =>
    cases r0
    exact oinit_ok T J ea (by rw [← Paired.length rt]; exact Nat.le_trans hl (by decide)) fun s' J' => ⟨.non, H1, J', rfl, q⟩
end
section
variable {P : Program} {w : World} {K : PySem.W.Frag} {mg : Str → Option Value} {base : Heap} {k : Nat} {x : Str} {st : Stmt} {ps N : List Str} {sp : Sp}
/-- a def that may raise -/
theorem clX_of (D : DefAt K mg x st) (S : FnScope N ps (defScope st)) (len : ∀ vs H Q E, sp vs H Q E → vs.length = ps.length)
    (hbody : ∀ (f : Addr) (cdv : Value) (A : Around) (outer : List Env) (s : Shared) (H : Hp) (vs : List V) (Q : VK) (E : XK), Room k (A.deeper (envOfC x (defScope st) s.heap.objs.size f cdv)) → sp vs H Q E →
      ∃ t, PSs (cxOf (L2.CX P w) P w K mg base N x (defScope st) f cdv A outer s H E) (defBody st) t ∧ t { nx := fun _ H' => Q .non H', rt := Q } (start N vs) H) : Cl P w K mg base (L2.CX P w) (k + 1) x st ps sp := by
  obtain ⟨f, fd, F, m⟩ := D.ex
  exact ⟨f, fd, F, F.okX S len (hbody f), m⟩
end
/-- what an own exception's __init__ does: Base.__init__(self, ..), self.value = value -/
def spInit (C : Addr) : Sp := fun vs H Q _ => ∃ a v, H a = some (exo a C none) ∧ vs = [.ref a, v] ∧ ∀ d, H d = none → d ≠ a → Q .non (upd (upd H d (exd d [("value", v)])) a (exo a C (some d)))
/-- an own exception class of the text: its __init__ keeps spInit -/
structure ExcAt (P : Program) (w : World) (K : PySem.W.Frag) (mg : Str → Option Value) (base : Heap) (x : Str) (C : Addr) : Prop where
  nm : mg x = some (.ref C)
  oex : OexC K C
  ini : ∃ f fd, PySem.W.findIn K (.ref C) "__init__" = some (some (.ref f)) ∧ PySem.W.typeIn K (.ref f) = some (.type "function") ∧ FnOk P w K mg base CX0 1 f fd ["self", "value"] (spInit C) ∧ Binds K fd ["self", "value"] []
section
variable {X : Cx} {e : Expr} {te : TE} {x : Str} {C : Addr} {p pos : Pos} {W : WX}
/-- raise x(e) -/
theorem ps_raiseO {ta : TA} (hc : X.calm = true) (tk : Takes X W) (c : ExcAt X.prog X.w X.K X.mg X.base x C) (hr : Room 2 X.A) (hg : Gl X x) (ha : PA X [e] ta) (hd : (x == ("__debug__" : Str)) = false := by decide)
    (hs : starEach [e] X.env = (false, eval e X.env) :: starEach [] X.env := by rfl) (hpl : (backTo p (starEach [] X.env)).any (·.1) = false := by rfl) {q : Pos} :
    PS X (.Raise (some (.Call (.Name x q) [e] [] p)) none pos) (fun _ σ H => tMkO C (spInit C) [] ta σ H fun cls d H' => W cls d σ H') := by
  obtain ⟨f, fd, iC, tI, F1, hb⟩ := c.ini
  exact ps_raise (pos := pos) hc tk (pmk_oex (p := q) (pos := p) c.oex iC tI F1 hr hb .nil pass0 hg c.nm ha hd hs hpl)
end
/-- what a raise of such a class comes to -/
theorem mkO_in {C : Addr} {v : V} {H1 : Hp} {Q : XK} (q : ∀ d H2, Ex H1 H2 → H2 d = some (.xd [("value", v)]) → Q (.ref C) (some d) H2) :
    [v].length ≤ 1000 ∧ ∀ a, H1 a = none → spInit C (.ref a :: ([v] ++ [])) (upd H1 a (exo a C none))
      (fun v H2 => v = .non ∧ ∃ (d : Addr) (fs : List (Str × V)), H2 a = some (exo a C (some d)) ∧ H2 d = some (exd d fs) ∧ H1 d = none ∧ Q (.ref C) (some d) (upd (del H2 a) d (.xd fs))) (fun _ _ _ => False) := by
  refine ⟨by show 1 ≤ 1000; decide, fun a na => ?_⟩
  refine ⟨a, v, upd_same, rfl, fun d hd2 ne => ?_⟩
  have hd1 : H1 d = none := by rw [upd_ne ne] at hd2; exact hd2
  refine ⟨rfl, d, _, upd_same, by rw [upd_ne ne, upd_same], hd1, q d _ (fun b u hb => ?_) upd_same⟩
  have n1 : b ≠ d := ne_of_none hb hd1
  have n2 : b ≠ a := ne_of_none hb na
  rw [upd_ne n1]
  show (if b = a then none else _) = _
  rw [if_neg n2, upd_ne n2, upd_ne n1, upd_ne n2]
  exact hb
/-- what the text says of an own exception class that has its own __init__ -/
structure ClsAt (K : PySem.W.Frag) (mg : Str → Option Value) (x q : Str) (st : Stmt) : Prop where
  ex : ∃ (C B f : Addr) (fd : FuncData), mg x = some (.ref C) ∧ OexC K C ∧ PySem.W.findIn K (.ref C) "__init__" = some (some (.ref f)) ∧ PySem.W.typeIn K (.ref f) = some (.type "function") ∧
    Fun K "__init__" q st f fd ∧ PySem.W.findIn K (.ref C) "value" = some none ∧ mg "FormError" = some (.ref B) ∧ BaseC K B
theorem clsAt_mk {K : PySem.W.Frag} {mg : Str → Option Value} {x q : Str} {st : Stmt} {h : Heap} {C B f N : Addr} {nm qq : Str} {bs bm : List Value} {sn : List Str} {sub : List Value} {ab : Bool} {col : Option Bool} {dd : Option Addr} {k0 k1 k2 k3 k5 : Option Value}
    {oc : Value} {od an : Option Addr} {osl : Array (Option Value)} {kV doc pm cdv ct : Value} (X : K.In h) (G : h.Ns mainGlobals mg) (a : PySem.W.nsIn K mainGlobals x = some (some (.ref C)))
    (cl : K.lookup C = some (excClassObj nm qq C N bs bm true sn sub ab col dd k0 k1 k2 k3 k5 "ValueError.__new__")) (r : PySem.HandSPX.refsVE bm = true)
    (sa : PySem.W.findIn K (.ref C) "__setattr__" = some (some (.builtin "object.__setattr__"))) (exC : PySem.W.subIn K (.ref C) (.type "BaseException") = some true) (tyC : PySem.W.typeIn K (.ref C) = some (.type "type")) (kC : PySem.W.keepIn K (.ref C) = true)
    (i : PySem.W.findIn K (.ref C) "__init__" = some (some (.ref f))) (ti : PySem.W.typeIn K (.ref f) = some (.type "function"))
    (l : K.lookup f = some ⟨oc, od, .func (PySem.W.fnOf "__init__" q (defArgs st) (defBody st) (defScope st) .none kV doc pm an cdv ct), osl⟩) (c : PySem.W.codeIn K cdv q = true) (kp : PySem.W.keepIn K (.ref f) = true)
    (no : PySem.W.findIn K (.ref C) "value" = some none) (aB : PySem.W.nsIn K mainGlobals "FormError" = some (some (.ref B)))
    (ga : PySem.W.specialIn K (.ref B) "__getattribute__" = some (some (.builtin "type.__getattribute__"))) (ty : PySem.W.typeIn K (.ref B) = some (.type "type")) (rd : PySem.W.readsIn K B (.type "type") = true)
    (fc : PySem.W.findCls K (.ref B) (.type "type") "__init__" = some (.val (.builtin "ValueError.__init__"))) : ClsAt K mg x q st :=
  ⟨C, B, f, _, PySem.W.mg_of X G a, ⟨⟨_, _, _, _, _, _, _, _, _, _, _, _, _, _, _, cl, r⟩, sa, exC, tyC, kC⟩, i, ti, fun_mk l c kp, no, PySem.W.mg_of X G aB, ga, ty, rd, fc⟩
end Lw
/-! try: .. except (A, B, C) as e: .., where the suite keeps the exception in a name: behind the suite it is an object like others. -/
namespace Lw
open PySem PySem.Spec PyProof.Rows L2 Evl
/-- at a: an exception, its class and its dict are known -/
def exc (a : Addr) (cls : Value) (d : Option Addr) : HO := .ext fun g => ∃ (oe : Obj) (fv : Array Value), g.get? a = some oe ∧ Zc cls d oe ∧ oe.data = .fields fv
theorem exc_ok {P : Program} {w : World} {H : Hp} {g : Heap} {a : Addr} {cls : Value} {d : Option Addr} {oe : Obj} {fv : Array Value} (e : g.get? a = some oe) (z : Zc cls d oe) (f : oe.data = .fields fv) : ObjOk P w H g a (exc a cls d) :=
  ⟨⟨oe, fv, e, z, f⟩, ⟨oe, e⟩, fun _ _ ⟨o, v, q, r⟩ st => ⟨o, v, st o q, r⟩⟩
section
variable {X : Cx} {pins : List (Addr × Obj)} {σ : L2.St} {H : Hp} {s : Shared} {a : Addr} {cls : Value} {d : Option Addr} {oe : Obj} {fv : Array Value}
/-- an object that no one tracked, made behind the def's start -/
theorem inv_caught (I : Inv X pins σ H s) (hn : H a = none) (h0 : a ∈ X.ex ∨ X.s_0.heap.get? a = none) (hL : a ≠ X.env.locals) (hp : ∀ p ∈ X.pn ++ pins, p.1 ≠ a) (e : s.heap.get? a = some oe) (z : Zc cls d oe) (f : oe.data = .fields fv) :
    Inv X pins σ (upd H a (exc a cls d)) s := by
  have old : ∀ {b u}, H b = some u → upd H a (exc a cls d) b = some u := fun {b u} q => by rw [upd_ne (ne_of_none q hn)]; exact q
  have was : ∀ {b o}, X.s_0.heap.get? b = some o → b ∉ X.ex → b ≠ a := fun {b o} q hx zz => by
    rcases h0 with h0 | h0
    · exact hx (zz ▸ h0)
    · rw [zz, h0] at q; cases q
  refine ⟨I.ok, I.os, I.bare, ⟨I.base.keep, I.base.slot, fun b o q n hx => ?_, I.base.there, fun b xs q => old (I.base.tups b xs q), fun b o u q => old (I.base.frzs b o u q), fun b qs q => ?_⟩, I.loc, I.cell, ?_, fun x c q => ?_, fun p m => ?_, fun b u q => ?_, I.len⟩
  · rw [upd_ne (was q hx)]
    exact I.base.free b o q n hx
  · obtain ⟨more, m⟩ := I.base.tbls b qs q
    exact ⟨more, old m⟩
  · rw [upd_ne (Ne.symm hL)]
    exact I.free
  · have ne : c ≠ a := fun zz => by
      obtain ⟨v, ob, ho, hd⟩ := I.cell x c q
      rw [zz, e] at ho
      cases ho
      rw [f] at hd
      cases hd
    rw [upd_ne ne]
    exact I.freeC x c q
  · obtain ⟨p1, p2, p3⟩ := I.pin p m
    exact ⟨p1, by rw [upd_ne (hp p m)]; exact p2, p3⟩
  · by_cases hb : b = a
    · subst hb
      rw [upd_same] at q
      cases q
      exact exc_ok e z f
    · rw [upd_ne hb] at q
      exact (I.hok b u q).stay (fun _ _ _ r => r) (fun c r => old r) fun c xs r => old r
theorem sky_new {B : Heap} {l : List Env} {Z : Obj → Prop} {L : Addr} {h : Heap} (k : Sky B l a Z L h) : B.get? a = none := by
  rcases k with k | k | k
  · exact k.2.1
  · exact k.2.1
  · exact k.2.1
theorem flying_more {B : Heap} {l : List Env} {Z : Obj → Prop} {h g : Heap} (k : HandSPX.FlyingZ B l a Z h) (st : ∀ b o, h.get? b = some o → g.get? b = some o) : HandSPX.FlyingZ B l a Z g := by
  obtain ⟨k1, k2, k3, oe, vs, T, oT, ts, a1, a2, a3, a4, a5, a6, a7, a8⟩ := k
  exact ⟨fun b o q => st _ _ (k1 b o q), k2, Heap.FunFrames.of_keeps (fun b o q _ => ⟨o, st _ _ q, rfl⟩) k3, oe, vs, T, oT, ts, st _ _ a1, a2, a3, a4, a5, a6, st _ _ a7, a8⟩
/-- what is wished of an exception of the body: slot i is the clause's name; the suite runs through -/
def wKept (K : PySem.W.Frag) (N : Nat) (cs : List Value) (i : Nat) (ts : Addr → Value → Option Addr → TS) (D : Ends) : WX := fun cls d σ H =>
  PySem.W.exmAny K cls cs = some true ∧ ∀ a, H a = none → σ.length = N → ts a cls d { nx := fun σ' H' => H' a = none → D.nx (σ'.set i none) (upd H' a (exc a cls d)), rt := fun _ _ => False, bk := fun _ _ => False, ct := fun _ _ => False } (σ.set i (some (.ref a))) H
end
section
variable {X : Cx} {x1 x2 x3 n : Str} {c1 c2 c3 : Addr} {i : Nat} {body suite : List Stmt} {b₀ : Stmt} {q1 q2 q3 tp pos pos' : Pos} {tx} {tb : WX → TS} {ts : Addr → Value → Option Addr → TS}
set_option maxHeartbeats 4000000 in
theorem ps_try_kept (hst : X.stack = X.env :: X.outer) (hf : X.env.frame = some X.env.locals) (hN : X.N.Nodup) (hi : X.N[i]? = some n) (hln : X.env.kindOf n = some .local)
    (g1 : Gl X x1) (m1 : X.mg x1 = some (.ref c1)) (g2 : Gl X x2) (m2 : X.mg x2 = some (.ref c2)) (g3 : Gl X x3) (m3 : X.mg x3 = some (.ref c3))
    (hb : ∀ (W : WX) (pn : List (Addr × Obj)) (xe : Value → Shared → Prop), Takes (X.tr pn xe) W → PSs (X.tr pn xe) body (tb W))
    (hsu : ∀ (a : Addr) (oe : Obj) (cls : Value) (d : Option Addr) (pn : List (Addr × Obj)), PSs (X.suite a ((a, oe) :: pn)) (b₀ :: suite) (ts a cls d))
    (d1 : (x1 == ("__debug__" : Str)) = false := by decide) (d2 : (x2 == ("__debug__" : Str)) = false := by decide) (d3 : (x3 == ("__debug__" : Str)) = false := by decide) :
    PS X (.Try body [.ExceptHandler (some (.Tuple [.Name x1 q1, .Name x2 q2, .Name x3 q3] tx tp)) (some n) (b₀ :: suite) pos'] [] [] pos) (fun D σ H => tb (wKept X.K X.N.length [.ref c1, .ref c2, .ref c3] i ts D) D σ H) := by
  refine ⟨fun pins s σ H D I hq => ?_⟩
  have ok := I.ok
  have frm : X.A.frames = some (X.env :: X.outer) := by rw [ok.frames, hst]
  have lcl : Loc X.env.scope n := .inl hln
  refine wpAny_Try_except ?_
  refine wpAny_mono ((hb (wKept X.K X.N.length [.ref c1, .ref c2, .ref c3] i ts D) (X.pn ++ pins) (fun z s₁ => wpAny (model X.prog X.w) X.A (noteFrame z X.env) (fun _ s₂ => wpAny (model X.prog X.w) X.A (setFlight z none) (fun _ s₃ =>
    wpAny (model X.prog X.w) X.A (handleBy z X.env [.ExceptHandler (some (.Tuple [.Name x1 q1, .Name x2 q2, .Name x3 q3] tx tp)) (some n) (b₀ :: suite) pos']) (SP X pins D) X.xe s₃) X.xe s₂) X.xe s₁) (fun u s' xx => ?_)).run [] s σ H D (I.toTry _) hq) (fun fl s1 hsp => ?_) (fun z s1 hz => hz)
  · obtain ⟨a, B, sI, pins', σ', H', cls, d, rfl, J', nb, up, sky, na, os, ag, hm, hyes⟩ := xx
    have J : Inv X pins σ' H' sI := J'.ofTry ok
    have new0 := sky_new sky
    have sky' : Sky B (X.env :: X.outer) a (Zc cls d) X.env.locals s'.heap := by rw [← hst]; exact sky
    show wpAny (model X.prog X.w) X.A (noteFrame (.ref a) X.env) _ _ _
    refine Sky.land Zc.steady frm hf sky' fun h3 fl3 up3 => ?_
    have J3 : Inv X pins σ' H' { s' with heap := h3 } := J.landed nb fl3.1 (up.trans up3) os ag
    obtain ⟨oe3, vs3, he3, hz3, hd3⟩ := fl3.there
    have notF : ∀ {g : Heap} {o : Obj} {vs : Array Value}, g.FunFrames B (X.env :: X.outer) → g.get? a = some o → o.data = .fields vs → a ∉ frs (X.env :: X.outer) := fun {g o vs} ff e dd hmem => by
      obtain ⟨_, o', e', no⟩ := ff.mem hmem
      rw [e] at e'; cases e'
      exact no _ dd
    have nfr := notF fl3.2.2.1 he3 hd3
    have nL : a ≠ X.env.locals := fun zz => nfr (List.mem_filterMap.mpr ⟨X.env, List.mem_cons_self, by rw [hf, zz]⟩)
    have nF : a ∉ X.fs := fun hmem => by
      obtain ⟨en, he, q⟩ := List.mem_filterMap.mp hmem
      exact nfr (List.mem_filterMap.mpr ⟨en, List.mem_cons_of_mem _ he, q⟩)
    have newI : sI.heap.get? a = none := by
      cases hg : sI.heap.get? a with
      | none => rfl
      | some o =>
        have q := nb a o hg (by rw [hst]; exact nfr)
        rw [new0] at q
        cases q
    have new00 : a ∈ X.ex ∨ X.s_0.heap.get? a = none := by
      cases hg : X.s_0.heap.get? a with
      | none => exact .inr rfl
      | some o =>
        by_cases hx : a ∈ X.ex
        · exact .inl hx
        · obtain ⟨o', e'⟩ := J.base.there a o hg hx
          rw [newI] at e'
          cases e'
    have newp : ∀ p ∈ X.pn ++ pins, p.1 ≠ a := fun p m zz => by
      have := (J.pin p m).1
      rw [zz, newI] at this
      cases this
    have S3 := J3.suite he3 hd3 na nL nF
    refine wpAny_handleBy_cons (codeAny_handlers_test ?_) (by intro q; cases q)
    refine wpAny_Tuple_spliced ?_
    show wpAny _ _ (spliced [(false, eval (.Name x1 q1) X.env), (false, eval (.Name x2 q2) X.env), (false, eval (.Name x3 q3) X.env)]) _ _ _
    refine Calls.spliced_cons (ld_glob (X := X.suite a ((a, oe3) :: (X.pn ++ pins))) S3 g1 m1 ?_ d1)
    refine Calls.spliced_cons (ld_glob (X := X.suite a ((a, oe3) :: (X.pn ++ pins))) S3 g2 m2 ?_ d2)
    refine Calls.spliced_cons (ld_glob (X := X.suite a ((a, oe3) :: (X.pn ++ pins))) S3 g3 m3 ?_ d3)
    refine Calls.spliced_nil ⟨by show 3 ≤ sizeLine; decide, ?_⟩
    have kp : ∀ b o, h3.get? b = some o → (h3.push { cls := .type "tuple", data := .seq [Value.ref c1, .ref c2, .ref c3].toArray }).get? b = some o := fun b o q => Heap.get?_push_of_some _ q
    have htup : (h3.push { cls := .type "tuple", data := .seq [Value.ref c1, .ref c2, .ref c3].toArray }).get? h3.objs.size = some { cls := .type "tuple", data := .seq [Value.ref c1, .ref c2, .ref c3].toArray } := Heap.get?_push_size _ rfl
    show wpAny _ _ (excMatches (.ref a) (.ref h3.objs.size)) _ _ { s' with heap := h3.push { cls := .type "tuple", data := .seq [Value.ref c1, .ref c2, .ref c3].toArray } }
    generalize h3.push { cls := .type "tuple", data := .seq [Value.ref c1, .ref c2, .ref c3].toArray } = g3 at *
    have fl5 := flying_more fl3 kp
    have up5 : h3.UpToSlots g3 := fun b o q _ => ⟨o.slots, kp b o q⟩
    have LT : PySem.W.Looks (model X.prog X.w) g3 (typeOf (.ref a)) cls := fun A Q E st k q => wpAny_typeOf_ref (k _ _ (kp _ _ he3)) (by rw [hz3.1]; exact q)
    have LM := PySem.W.exm_tup3 (M := model X.prog X.w) (J3.kIn.keeps kp) LT htup hm
    refine LM.here ?_
    refine codeAny_handlers_suite_as ?_
    refine HandSPX.lands_againZ fl5 fun h4 fl4 up4 => ?_
    have J4 : Inv X pins σ' H' { s' with heap := h4 } := J.landed nb fl4.1 (((up.trans up3).trans up5).trans up4) os ag
    obtain ⟨oe4, vs4, he4, hz4, hd4⟩ := fl4.there
    have S4 := J4.suite he4 hd4 na nL nF
    refine store_ok (X := X.suite a ((a, oe4) :: (X.pn ++ pins))) (v := .ref a) S4 hN hi lcl rfl (fun s5 S5 => ?_) (.inr hln)
    refine wpAny_mono ((hsu a oe4 cls d (X.pn ++ pins)).run [] s5 _ H' _ S5 (hyes a na J.len)) (fun fl s6 hsp => ?_) (fun _ _ zz => False.elim zz)
    cases fl with
    | next =>
      obtain ⟨σ6, H6, S6, q6⟩ := hsp
      obtain ⟨p1, p2, p3⟩ := S6.pin (a, oe4) (List.mem_append_left _ List.mem_cons_self)
      have S7 := inv_caught (S6.unsuite ok) p2 new00 nL newp p1 hz4 hd4
      exact gone_ok S7 hN hi hln fun s7 J7 => ⟨_, _, J7, q6 p2⟩
    | brk =>
      obtain ⟨σ6, H6, S6, q6⟩ := hsp
      exact q6.elim
    | cont =>
      obtain ⟨σ6, H6, S6, q6⟩ := hsp
      exact q6.elim
    | ret u =>
      obtain ⟨v6, σ6, H6, S6, r6, q6⟩ := hsp
      exact q6.elim
  · cases fl with
    | next =>
      obtain ⟨σ', H', J', q⟩ := hsp
      exact wpAny_execs_nil ⟨σ', H', J'.ofTry ok, q⟩
    | brk =>
      obtain ⟨σ', H', J', q⟩ := hsp
      exact ⟨σ', H', J'.ofTry ok, q⟩
    | cont =>
      obtain ⟨σ', H', J', q⟩ := hsp
      exact ⟨σ', H', J'.ofTry ok, q⟩
    | ret u =>
      obtain ⟨v, σ', H', J', r, q⟩ := hsp
      exact ⟨v, σ', H', J'.ofTry ok, r, q⟩
end
/-- what a class of exceptions must say, so that its instances are asked and read rightly -/
structure ExcK (K : PySem.W.Frag) (C : Addr) : Prop where
  ga : PySem.W.findIn K (.ref C) "__getattribute__" = some (some (.builtin "BaseException.__getattribute__"))
  gt : PySem.W.findIn K (.ref C) "__getattr__" = some none
  sb : PySem.W.subIn K (.ref C) (.type "BaseException") = some true
  hd : PySem.W.hasDictIn K C = true
  ca : PySem.W.findIn K (.ref C) "__class__" = some (some (.builtin "object.__class__"))
  cg : PySem.W.specialIn K (.builtin "object.__class__") "__get__" = some (some (.builtin "getset_descriptor.__get__"))
  ct : PySem.W.takesIn K (.builtin "object.__class__") = some true
  mo : PySem.W.mroIn K C (.type "object") = some true
theorem exc_at {P : Program} {w : World} {H : Hp} {h : Heap} {a : Addr} {cls : Value} {d : Option Addr} (hok : HOk P w H h) (e : H a = some (exc a cls d)) : ∃ (oe : Obj) (fv : Array Value), h.get? a = some oe ∧ Zc cls d oe ∧ oe.data = .fields fv := by
  have x : ObjOk P w H h a (.ext fun g => ∃ (oe : Obj) (fv : Array Value), g.get? a = some oe ∧ Zc cls d oe ∧ oe.data = .fields fv) := hok a _ e
  exact x.1
/-- isinstance(e, c), e a caught exception of an own class -/
def rIsX (K : PySem.W.Frag) (D : Addr) : List V → Hp → VK → Prop := fun xs H Q => ∃ (a dd : Addr) (c : V) (cv : Value) (b : Bool) (fs : List (Str × V)), H a = some (exc a (.ref D) (some dd)) ∧ H dd = some (.xd fs) ∧ xs = [.ref a, c] ∧ (∀ u, RelV c u → u = cv) ∧ PySem.W.kitOne K (.ref D) cv = some b ∧ Q (.bl b) H
theorem call_isX {X : Cx} {D : Addr} (C : ExcK X.K D) : CallR X (.builtin "isinstance") (rIsX X.K D) := by
  intro pins s σ H xs us Q I r hq
  obtain ⟨a, dd, c, cv, b, fs, he, hdd, rfl, hcv, e, q⟩ := hq
  obtain ⟨u1, u2, rfl, r1, r2⟩ := vals2 r
  cases r1
  obtain rfl := hcv _ r2
  obtain ⟨oe, fv, g1, g2, g3⟩ := exc_at I.hok he
  obtain ⟨mA, hns, _⟩ : ObjOk X.prog X.w H s.heap dd (.xd fs) := I.hok dd _ hdd
  obtain ⟨od, ho, _⟩ := lookIn_ns hns
  have J : PySem.W.InstAt s.heap a oe D (some od) := ⟨g1, g2.1, by unfold PySem.W.notCls; rw [g3] <;> rfl, by rw [g2.2]; exact ho⟩
  obtain ⟨cd, hc, _⟩ := PySem.W.any_some C.hd
  exact PySem.W.kia_one (PySem.W.kitx_exc (by rw [hc]; rfl) C.ga C.gt C.sb C.ca C.cg C.ct C.mo) I.kIn J e (fun zz => nomatch zz) fun tk => ⟨.bl b, H, I.kept (t' := tk) fun _ _ zz => zz, rfl, q⟩
/-- e.n, e a caught exception of an own class -/
def tXk (D : Addr) (n : Str) (te : TE) : TE := fun σ H Q => te σ H fun x H1 => ∃ (a dd : Addr) (fs : List (Str × V)) (v : V), x = .ref a ∧ H1 a = some (exc a (.ref D) (some dd)) ∧ H1 dd = some (.xd fs) ∧ fs.lookup n = some v ∧ Q v H1
theorem pe_xk {X : Cx} {D : Addr} {e : Expr} {te : TE} {pos : Pos} {n : Str} (C : ExcK X.K D) (no : PySem.W.findIn X.K (.ref D) n = some none) (he : PE X e te) (hb : attributeBase e n X.env (eval e X.env) = eval e X.env := by rfl) : PE X (.Attribute e n pos) (tXk D n te) := by
  refine ⟨fun pins s σ H Q I hq => ?_⟩
  refine attr_of hb (thn (he.run pins s σ H _ I hq) fun u s1 hh => ?_)
  obtain ⟨x, H1, I1, rx, a, dd, fs, v, rfl, ha, hdd, l, q⟩ := hh
  cases rx
  obtain ⟨oe, fv, g1, g2, g3⟩ := exc_at I1.hok ha
  obtain ⟨mA, hns, hr⟩ : ObjOk X.prog X.w H1 s1.heap dd (.xd fs) := I1.hok dd _ hdd
  obtain ⟨od, ho, hl⟩ := lookIn_ns hns
  obtain ⟨u, hu, ru⟩ := RelO.some_of (v := v) (o := mA n) (by rw [← l]; exact hr n)
  have J : PySem.W.InstAt s1.heap a oe D (some od) := ⟨g1, g2.1, by unfold PySem.W.notCls; rw [g3] <;> rfl, by rw [g2.2]; exact ho⟩
  exact HandSPX.exc_get I1.kIn J C.ga C.gt C.sb (PySem.W.findObj_own C.hd no rfl (by rw [hl, hu])) (handed_of ru) ⟨v, H1, I1.tok _, ru, q⟩
end Lw
/-! Defs that ask repr of lists and tuples: what is known of the repr calls under way (none) goes from call to call. -/
namespace Lw
open PySem PySem.Spec PyProof.Rows L2 Evl LamX
/-- as FnOk, where no repr is under way -/
structure FnG (P : Program) (w : World) (K : PySem.W.Frag) (mg : Str → Option Value) (base : Heap) (CX : CXT) (k : Nat) (f : Addr) (fd : FuncData) (ps : List Str) (sp : Sp) : Prop where
  len : ∀ vs H Q E, sp vs H Q E → vs.length = ps.length
  run : ∀ (A : Around) (outer : List Env) (s : Shared) (H : Hp) (args : Args) (us : List Value) (vs : List V) (Q : VK) (E : XK), A.guards = some [] → Room k A → Env0 P w K mg base A outer s H → BindsTo s fd args (ps.zip us) →
    Vals vs us → sp vs H Q E → codeAny (model P w) A (.call (.ref f) args) (CR CX outer P w H s Q E) s
structure ClG (P : Program) (w : World) (K : PySem.W.Frag) (mg : Str → Option Value) (base : Heap) (CX : CXT) (k : Nat) (x : Str) (st : Stmt) (ps : List Str) (sp : Sp) : Prop where
  ex : ∃ (f : Addr) (fd : FuncData), Fun K x x st f fd ∧ FnG P w K mg base CX k f fd ps sp ∧ mg x = some (.ref f)
section
variable {P : Program} {w : World} {K : PySem.W.Frag} {mg : Str → Option Value} {base : Heap} {k : Nat} {x : Str} {st : Stmt} {ps N : List Str} {sp : Sp} {CX : CXT}
theorem clG_of (D : DefAt K mg x st) (S : FnScope N ps (defScope st)) (len : ∀ vs H Q E, sp vs H Q E → vs.length = ps.length)
    (hbody : ∀ (f : Addr) (cdv : Value) (A : Around) (outer : List Env) (s : Shared) (H : Hp) (vs : List V) (Q : VK) (E : XK), A.guards = some [] → Room k (A.deeper (envOfC x (defScope st) s.heap.objs.size f cdv)) → sp vs H Q E →
      ∃ t, PSs (cxOf CX0 P w K mg base N x (defScope st) f cdv A outer s H E).nox (defBody st) t ∧ t { nx := fun _ H' => Q .non H', rt := Q } (start N vs) H) : ClG P w K mg base CX0 (k + 1) x st ps sp := by
  obtain ⟨f, fd, F, m⟩ := D.ex
  refine ⟨f, fd, F, ?_, m⟩
  obtain ⟨oc, od, kV, doc, pm, an, cdv, ct, osl, rfl, lk, hcd⟩ := F.ex
  refine ⟨len, fun A outer s H args us vs Q E gd hr e0 hb r hs => run_ofS lk hcd S hr e0 hb r (len _ _ _ _ hs) fun hr' => ?_⟩
  obtain ⟨t, h, q⟩ := hbody f cdv A outer s H vs Q E gd hr' hs
  exact ⟨t, h.nox, q⟩
theorem ClG.at {f : Addr} {fd : FuncData} (c : ClG P w K mg base CX k x st ps sp) (F : Fun K x x st f fd) (m : mg x = some (.ref f)) : FnG P w K mg base CX k f fd ps sp := by
  obtain ⟨f', fd', F', o, m'⟩ := c.ex
  rw [m] at m'
  cases m'
  obtain ⟨oc, od, kV, doc, pm, an, cdv, ct, osl, rfl, lk, _⟩ := F.ex
  obtain ⟨oc', od', kV', doc', pm', an', cdv', ct', osl', rfl, lk', _⟩ := F'.ex
  have e := Option.some.inj (lk.symm.trans lk')
  injection e with _ _ e _
  injection e with e
  rw [e]
  exact o
end
section
variable {X : Cx} {CX : CXT} {k j : Nat} {x : Str} {st : Stmt} {sp : Sp} {ps : List Str} {p pos : Pos} {e : Expr} {es : List Expr} {t : TA} {E : XK}
/-- f(a, ..), no repr under way -/
theorem pe_clG (c : ClG X.prog X.w X.K X.mg X.base CX k x st ps sp) (b : Bnd x st ps) (gd : X.A.guards = some []) (hr : Room j X.A) (hk : k ≤ j) (hg : Gl X x) (hx : Passes CX X E) (ha : PA X (e :: es) t)
    (hdb : (x == ("__debug__" : Str)) = false := by decide) (he : starEach (e :: es) X.env = (false, eval e X.env) :: starEach es X.env := by rfl) (hpl : (backTo pos (starEach es X.env)).any (·.1) = false := by rfl) :
    PE X (.Call (.Name x p) (e :: es) [] pos) (tCall sp [] E t) := by
  obtain ⟨f, fd, F, o, m⟩ := c.ex
  refine ⟨fun pins s σ H Q I hq => wpAny_Call_Name_kw (ld_glob I hg m (PySem.W.callWith_K (h₀ := X.base) I.ok.mod.kin F.kp (thn (ha.run pos pins s σ H _ I hq) fun us s1 hh => ?_) he hpl) hdb)⟩
  obtain ⟨vs, H1, J, r, q⟩ := hh
  refine ⟨J.kIn, ?_⟩
  rw [List.append_nil] at q
  have hl : us.length = ps.length := r.length.symm.trans (o.len _ _ _ _ q)
  have bt : BindsTo s1 fd ⟨us, []⟩ (ps.zip us) := by
    have z := F.binds b s1 us J.kIn (by rw [List.append_nil]; exact hl)
    rwa [List.append_nil] at z
  refine wpAny_call (codeAny_mono (o.run X.A X.stack s1 H1 ⟨us, []⟩ us vs Q E gd (hr.mono hk) J.env0 bt r q) fun res s2 hq2 => ?_)
  cases res with
  | error er => exact hx pins σ H1 s1 er s2 J hq2
  | ok fl =>
    cases fl with
    | ret u => exact J.after hq2
    | next => exact hq2.elim
    | brk => exact hq2.elim
    | cont => exact hq2.elim
/-! ### repr -/
/-- data whose text is asked: what Dp tells, and the empty dict -/
inductive Dd (K : PySem.W.Frag) (H : Hp) : V → PyData → Prop
  | dp {v : V} {d : PyData} : Dp K H v d → SeqAt.shaped d = true → Dd K H v d
  | emp {a : Addr} : H a = some (.dK []) → Dd K H (.ref a) (.dict [])
  | kv {a : Addr} {ps : List (Int × Int)} : H a = some (.dK (kvI ps)) → Dd K H (.ref a) (.dict (ps.map fun p => (.int p.1, .int p.2)))
def Shows (d : PyData) : Prop := d.showable = true ∧ d.shown.length ≤ sizeLine ∧ PyData.strOk d.shown = true
theorem reads_kv {P : Program} {w : World} {h : Heap} : ∀ {es : List DictEntry} {vs : List (Key × Value)} {kvs : List (Key × V)} {ps : List (Int × Int)}, Pairs (mixKind P w) es vs → KV kvs vs → kvs = kvI ps →
    ReadsAll h (es.map (·.key)) ((ps.map fun p => ((.int p.1, .int p.2) : PyData × PyData)).map (·.1)) [] ∧ ReadsAll h (es.map (·.val)) ((ps.map fun p => ((.int p.1, .int p.2) : PyData × PyData)).map (·.2)) []
  | _, _, _, [], .nil, .nil, _ => ⟨.nil, .nil⟩
  | _, _, _, _ :: _, .nil, .nil, hk => by cases hk
  | _, _, _, [], .cons .., .cons .., hk => by cases hk
  | e :: _, _, _, p :: ps, .cons h1 h2 t, .cons r1 r2, hk => by
    cases hk
    obtain ⟨i1, i2⟩ := reads_kv (h := h) t r2 rfl
    obtain ⟨r1, r3⟩ := r1
    rcases keyIs_shape (show keyIs _ _ = true from h1) with ⟨i, tk, ek, ev⟩ | ⟨z, tk, ek, ev⟩
    · rw [← r1] at ek
      cases ek
      obtain ⟨t2, e2⟩ : ∃ t2, e.val = .int p.2 t2 := by
        rw [h2]
        exact r3
      refine ⟨?_, ?_⟩
      · show ReadsAll h (e.key :: _) (.int p.1 :: _) []
        rw [ev]
        exact .cons (as := []) (.int _ _) i1
      · show ReadsAll h (e.val :: _) (.int p.2 :: _) []
        rw [e2]
        exact .cons (as := []) (.int _ _) i2
    · rw [← r1] at ek
      cases ek
/-- repr(x), no repr under way -/
theorem call_reprD (gd : X.A.guards = some []) (hu : X.A.units + 70 < cLine) : CallR X (.builtin "repr") (fun xs H Q => ∃ v d, Dd X.K H v d ∧ Shows d ∧ xs = [v] ∧ Q (.str d.shown) H) := by
  intro pins s σ H xs us Q I r hq
  obtain ⟨v, d, hd, ⟨hs, hz, _⟩, rfl, q⟩ := hq
  obtain ⟨u, rfl, ru⟩ := vals1 r
  cases hd with
  | dp hd sh =>
    obtain ⟨as, rd⟩ := hd.reads I d _ u ru
    have lay := SeqAt.canLay_of_shaped sh
    have dep : d.depth ≤ 64 := by
      unfold SeqAt.shaped at sh
      rw [Bool.and_eq_true, decide_eq_true_eq] at sh
      exact sh.2
    cases rd with
    | none => exact PySem.P.repr_of_none ⟨.str _, H, I.tok _, ⟨_, rfl⟩, q⟩
    | bool b => exact PySem.P.repr_of_bool ⟨.str _, H, I.tok _, ⟨_, rfl⟩, q⟩
    | int i tk => exact PySem.P.repr_of_int (of_decide_eq_true hs) ⟨.str _, H, I.tok _, ⟨_, rfl⟩, q⟩
    | str y tk => exact PySem.P.repr_of_str ⟨.str _, H, I.tok _, ⟨_, rfl⟩, q⟩ hz
    | list g1 g2 g3 g4 =>
      refine PySem.repr_of_reads' (.list g1 g2 g3 g4) hs (PyData.noDict_hsm (PyData.hasDict_of_canLay _ lay)) gd (by omega) (fun _ _ zz => zz) (fun h' u' tk kp => ?_) hz
      exact ⟨.str _, H, I.kept (t' := tk) kp, ⟨_, rfl⟩, q⟩
    | tuple g1 g2 g3 g4 =>
      refine PySem.repr_of_reads' (.tuple g1 g2 g3 g4) hs (PyData.noDict_hsm (PyData.hasDict_of_canLay _ lay)) gd (by omega) (fun _ _ zz => zz) (fun h' u' tk kp => ?_) hz
      exact ⟨.str _, H, I.kept (t' := tk) kp, ⟨_, rfl⟩, q⟩
    | dict g1 g2 g3 g4 g5 => cases hd
  | emp ha =>
    cases ru
    obtain ⟨_, hm, vs, rel, o, es, ep, ho, hc, hdat, hks, hps, hnd⟩ := dk_of I.hok ha
    cases rel
    have e0 : es.toList = [] := List.length_eq_zero_iff.mp hps.length
    refine PySem.repr_of_reads' (d := .dict []) (.dict ho hc.1 hdat (by rw [e0]; exact .nil) (by rw [e0]; exact .nil)) hs (fun _ zz => ?_) gd (by show X.A.units + ((PyData.depthKv [] + 1) + 1) < cLine; rw [PyData.depthKv]; omega) (fun _ _ zz => zz) (fun h' u' tk kp => ?_) hz
    · have ne : _ ≠ sysModules := beq_eq_false_iff_ne.mp hm
      simp at zz
      exact ne zz.symm
    · exact ⟨.str _, H, I.kept (t' := tk) kp, ⟨_, rfl⟩, q⟩
  | kv ha =>
    cases ru
    obtain ⟨_, hm, vs, rel, o, es, ep, ho, hc, hdat, hks, hps, hnd⟩ := dk_of I.hok ha
    obtain ⟨k1, k2⟩ := reads_kv (h := s.heap) hps rel rfl
    refine PySem.repr_of_reads' (.dict ho hc.1 hdat k1 k2) hs (fun _ zz => ?_) gd (by
      have : ∀ ps : List (Int × Int), PyData.depthKv (ps.map fun p => ((.int p.1, .int p.2) : PyData × PyData)) ≤ 1 := fun ps => by
        induction ps with
        | nil => simp [PyData.depthKv]
        | cons p ps ih =>
          rw [List.map_cons, PyData.depthKv]
          simp only [PyData.depth]
          omega
      rw [PyData.depth]
      have := this ‹_›
      omega) (fun _ _ zz => zz) (fun h' u' tk kp => ?_) hz
    · have ne : _ ≠ sysModules := beq_eq_false_iff_ne.mp hm
      simp at zz
      exact ne zz.symm
    · exact ⟨.str _, H, I.kept (t' := tk) kp, ⟨_, rfl⟩, q⟩
end
end Lw
/-! The end of a law whose promise knows that no repr is under way (FnG), with the tables of the lambdas' makers. -/
namespace Lw
open PySem PySem.Spec PyProof.Rows L2 Evl LamX
/-- a list of ints of this kind as an object -/
abbrev scriptO (us : List Value) : Obj := { cls := .type "list", data := .seq us.toArray }
abbrev noCodes : Obj := { cls := .none, data := .fields #[] }
section
variable {P : Program} {w : World} {K : PySem.W.Frag} {mg mb : Str → Option Value} {CX : CXT} {k : Nat} {fa a : Addr} {cs : List (Addr × Addr)} {fd : FuncData} {x : Str} {sp : Sp} {st : Shared} {us : List Value} {ns : List Int}
/-- what is tracked at the start: the tables, and the script where the written part does not hold it -/
def startH (K : PySem.W.Frag) (ts : List Addr) (a : Addr) (us : List Value) (ns : List Int) : Hp := fun b =>
  if b ∈ ts then some (.tbl #[]) else if b = a ∧ (K.lookup a).isNone = true then some (.frz (scriptO us) (.lst (ns.map V.int))) else none
theorem startH_t {ts : List Addr} {b : Addr} (m : b ∈ ts) : startH K ts a us ns b = some (.tbl #[]) := if_pos m
theorem startH_inv {ts : List Addr} {b : Addr} {u : HO} (e : startH K ts a us ns b = some u) : (b ∈ ts ∧ u = .tbl #[]) ∨ (b ∉ ts ∧ b = a ∧ K.lookup a = none ∧ u = .frz (scriptO us) (.lst (ns.map V.int))) := by
  unfold startH at e
  by_cases m : b ∈ ts
  · rw [if_pos m] at e
    exact .inl ⟨m, (Option.some.inj e).symm⟩
  · rw [if_neg m] at e
    by_cases c : b = a ∧ (K.lookup a).isNone = true
    · rw [if_pos c] at e
      exact .inr ⟨m, c.1, Option.isNone_iff_eq_none.mp c.2, (Option.some.inj e).symm⟩
    · rw [if_neg c] at e
      cases e
theorem startH_not {ts : List Addr} {b : Addr} (h1 : b ∉ ts) (h2 : b = a → K.lookup a ≠ none) : startH K ts a us ns b = none := by
  cases e : startH K ts a us ns b with
  | none => rfl
  | some u =>
    rcases startH_inv e with ⟨m, _⟩ | ⟨_, e1, e2, _⟩
    · exact absurd m h1
    · exact absurd e2 (h2 e1)
theorem law_gd (KX : K.In st.heap) (hns : st.heap.Ns mainGlobals mg) (hb : st.heap.Ns builtinsNs mb) (hbb : ∀ y : Str, y ≠ "__name__" → mb y = bootBuiltins y) (hlim : st.heap.NoLimit) (hg : st.gens = #[])
    (hT : ∀ p ∈ cs, st.heap.get? p.2 = some noCodes) (nT : ∀ p ∈ cs, K.lookup p.2 = none) (C : ∀ p ∈ cs, PySem.W.CodeHd st.heap p.1 p.2)
    (hbm : ∃ (bm : Addr) (ob : Obj), mg "__builtins__" = some (.ref bm) ∧ bm ≠ builtinsNs ∧ st.heap.get? bm = some ob ∧ ob.cls = .type "module" ∧ ob.dict = some builtinsNs ∧ ob.data = .plain)
    (ha : st.heap.get? a = some (scriptO us)) (hi : IntsAre us ns) (hl : ns.length ≤ sizeLine) (room : Room k callerA)
    (F : ∀ base : Heap, K.In base → base.Ns mainGlobals mg → (∀ p ∈ cs, TabB base mg p.1 p.2) → FnG P w K mg base CX k fa fd [x] sp) (hbind : ∀ (s : Shared) (u : Value), BindsTo s fd ⟨[u], []⟩ [(x, u)])
    (hsp : ∀ H : Hp, (∀ p ∈ cs, H p.2 = some (.tbl #[])) → SqL K H a (ns.map V.int) → sp [.ref a] H (fun v _ => v = .bl true) fun _ _ _ => False)
    (hCX : ∀ H e s', CX [] H st (fun _ _ _ => False) e s' → False) :
    codeAny (model P w) callerA (.call (.ref fa) ⟨[.ref a], []⟩) (fun r z => r = .ok (.ret (.bool true)) ∧ OldK st.heap z.heap ∧ z.os = st.os ∧ AllBare z.gens) st := by
  obtain ⟨ts, ets⟩ : ∃ ts : List Addr, ts = cs.map (·.2) := ⟨_, rfl⟩
  have inT : ∀ p ∈ cs, p.2 ∈ ts := fun p m => by rw [ets]; exact List.mem_map.mpr ⟨p, m, rfl⟩
  have ofT : ∀ b ∈ ts, ∃ p ∈ cs, p.2 = b := fun b m => by
    rw [ets] at m
    obtain ⟨p, q, e⟩ := List.mem_map.mp m
    exact ⟨p, q, e⟩
  have atT : ∀ b ∈ ts, st.heap.get? b = some noCodes := fun b m => by
    obtain ⟨p, q, e⟩ := ofT b m
    rw [← e]
    exact hT p q
  have aT : a ∉ ts := fun m => by
    have q := atT a m
    rw [ha] at q
    have q' := congrArg Obj.cls (Option.some.inj q)
    cases q'
  obtain ⟨H, eH⟩ : ∃ H : Hp, H = startH K ts a us ns := ⟨_, rfl⟩
  have inv : ∀ {b u}, H b = some u → (b ∈ ts ∧ u = .tbl #[]) ∨ (b ∉ ts ∧ b = a ∧ K.lookup a = none ∧ u = .frz (scriptO us) (.lst (ns.map V.int))) := fun {b u} e => startH_inv (by rw [eH] at e; exact e)
  have tab : ∀ b ∈ ts, H b = some (.tbl #[]) := fun b m => by rw [eH]; exact startH_t m
  have lenU : us.length = ns.length := hi.length
  have rel := vals_ints hi
  have free : ∀ {b : Addr} {o : Obj}, st.heap.get? b = some o → o.cls ≠ .type "list" → o.cls ≠ .none → H b = none := fun {b o} e n1 n2 => by
    cases q : H b with
    | none => rfl
    | some u =>
      rcases inv q with ⟨m, _⟩ | ⟨_, e1, _, _⟩
      · rw [atT b m] at e
        cases e
        exact absurd rfl n2
      · rw [e1, ha] at e
        cases e
        exact absurd rfl n1
  have freeD : ∀ {b : Addr} {o : Obj}, st.heap.get? b = some o → (∀ zs n, o.data ≠ .seq zs n) → o.data ≠ .fields #[] → H b = none := fun {b o} e n1 n2 => by
    cases q : H b with
    | none => rfl
    | some u =>
      rcases inv q with ⟨m, _⟩ | ⟨_, e1, _, _⟩
      · rw [atT b m] at e
        cases e
        exact absurd rfl n2
      · rw [e1, ha] at e
        cases e
        exact absurd rfl (n1 _ _)
  have up : ∀ {b : Addr} {o : Obj}, st.heap.get? b = some o → H b = none → (hidT st.heap H).get? b = some o := fun e n => hidT_get e n
  have dict : ∀ {b : Addr} {m : Str → Option Value}, st.heap.Ns b m → (hidT st.heap H).Ns b m := fun {b m} ⟨o, es, ep, e, d, r⟩ =>
    ⟨o, es, ep, up e (freeD e (fun zs n z => by rw [d] at z; cases z) fun z => by rw [d] at z; cases z), d, r⟩
  have kin : K.In (hidT st.heap H) := fun b o e => up (KX b o e) (by
    cases q : H b with
    | none => rfl
    | some u =>
      rcases inv q with ⟨m, _⟩ | ⟨_, e1, e2, _⟩
      · obtain ⟨p, pm, ep⟩ := ofT b m
        rw [← ep, nT p pm] at e
        cases e
      · rw [e1, e2] at e
        cases e)
  have mod : L2.Mod K mg (hidT st.heap H) := ⟨kin, dict hns, ⟨mb, dict hb, hbb⟩, let ⟨mc, l1, l2⟩ := hlim; ⟨mc, dict l1, l2⟩⟩
  have hok : HOk P w H st.heap := fun b u e => by
    rcases inv e with ⟨m, rfl⟩ | ⟨_, rfl, _, rfl⟩
    · exact atT b m
    · exact ⟨ha, by rw [List.length_map]; exact hl, us, _, rel, ha⟩
  have seq : SqL K H a (ns.map V.int) := by
    cases hk : K.lookup a with
    | some o =>
      have e := KX a o hk
      rw [ha] at e
      cases e
      exact .inr ⟨_, us.toArray, _, hk, rfl, rfl, rfl, by rw [List.size_toArray, lenU]; exact hl, by simpa using rel⟩
    | none => exact .inl (.inr ⟨scriptO us, by rw [eH]; unfold startH; rw [if_neg aT, if_pos ⟨rfl, by rw [hk]; rfl⟩]⟩)
  have tabs : ∀ p ∈ cs, TabB (hidT st.heap H) mg p.1 p.2 := fun p pm => by
    have hTp := hT p pm
    refine ⟨?_, ?_, fun z => ?_⟩
    · obtain ⟨o, vs, f1, f2, f3, f4, f5, f6, f7, e1, r1, r2, r3, rest⟩ := C p pm
      exact ⟨o, vs, f1, f2, f3, f4, f5, f6, f7, up e1 (free e1 (by rw [r1]; simp) (by rw [r1]; simp)), r1, r2, r3, rest⟩
    · obtain ⟨bm, ob, b1, b2, b3, b4, b5, b6⟩ := hbm
      refine ⟨bm, ob, b1, b2, fun z => ?_, fun z => ?_, up b3 (free b3 (by rw [b4]; simp) (by rw [b4]; simp)), b4, b5, b6⟩
      · obtain ⟨o, es, ep, e, hd, _⟩ := hns
        rw [z, e] at b3
        cases b3
        rw [hd] at b6
        cases b6
      · rw [z, hTp] at b3
        cases b3
        cases b6
    · obtain ⟨o, es, ep, e, hd, _⟩ := hns
      rw [z, hTp] at e
      cases e
      cases hd
  have env : Env0 P w K mg (hidT st.heap H) callerA [] st H := ⟨rfl, mod, fun b o e => of_hidT e, Nat.le_of_eq (hidT_size _ _), trivial, fun b m => (List.not_mem_nil m).elim, hok, .of_eq hg⟩
  refine codeAny_mono ((F _ kin (dict hns) tabs).run callerA [] st H ⟨[.ref a], []⟩ [.ref a] [.ref a] _ _ rfl room env (hbind st (.ref a)) (.cons rfl .nil) (hsp H (fun p pm => tab _ (inT p pm)) seq)) fun res z hz => ?_
  cases res with
  | error er => exact (hCX H er z hz).elim
  | ok fl =>
    cases fl with
    | next => exact hz.elim
    | brk => exact hz.elim
    | cont => exact hz.elim
    | ret u =>
      obtain ⟨v, H', o1, o2, un, hok', ru, q⟩ := hz
      obtain rfl : v = .bl true := q
      obtain rfl : u = Value.bool true := ru
      have held : ∀ b o, b ∉ ts → st.heap.get? b = some o → z.heap.get? b = some o := fun b o n e => by
        cases q : H b with
        | none => exact un.keep b o e q (fun m => (List.not_mem_nil m).elim) (fun m => (List.not_mem_nil m).elim)
        | some u =>
          rcases inv q with ⟨m, _⟩ | ⟨_, e1, e2, rfl⟩
          · exact absurd m n
          · have e3 := (hok' b _ (un.frzs b _ _ q)).1
            rw [e1, ha] at e
            cases e
            rw [e1] at e3 ⊢
            exact e3
      have more : ∀ b ∈ ts, ∃ zs : Array Value, z.heap.get? b = some { cls := .none, data := .fields zs } := fun b m => by
        obtain ⟨zs, e⟩ := un.tbls b #[] (tab b m)
        exact ⟨_, hok' b _ e⟩
      refine ⟨rfl, ⟨fun b o e => ?_, fun b o e => ?_⟩, o1, o2⟩
      · by_cases m : b ∈ ts
        · obtain ⟨p, pm, rfl⟩ := ofT b m
          obtain ⟨zs, e2⟩ := more _ m
          rw [hT p pm] at e
          cases e
          exact .inr (.inl ⟨((C p pm).tab (hT p pm)).isCodeTable, rfl, #[], zs, rfl, by rw [Array.empty_append]; exact e2⟩)
        · exact .inl (held b o m e)
      · by_cases m : b ∈ ts
        · obtain ⟨zs, e2⟩ := more b m
          exact ⟨_, e2⟩
        · exact ⟨o, held b o m e⟩
end
/-- the law's promise, at the head's heap h -/
def LawG (l : PySem.W.OpenLaw) (w : World) (K : PySem.W.Frag) (CX : CXT) (k n : Nat) (x : Str) (mg : Str → Option Value) (fa : Addr) (h : Heap) : Prop :=
  ∃ (fd : FuncData) (cs : List (Addr × Addr)) (sp : Sp), (∀ p ∈ cs, h.get? p.2 = some noCodes) ∧ (∀ p ∈ cs, K.lookup p.2 = none) ∧ (∀ p ∈ cs, PySem.W.CodeHd h p.1 p.2) ∧ (∀ (s : Shared) (u : Value), BindsTo s fd ⟨[u], []⟩ [(x, u)]) ∧
    (∀ (H : Hp) (a : Addr) (ns : List Int), ns.length ≤ n → (∀ p ∈ cs, H p.2 = some (.tbl #[])) → SqL K H a (ns.map V.int) → sp [.ref a] H (fun v _ => v = .bl true) fun _ _ _ => False) ∧
    ∀ base : Heap, K.In base → base.Ns mainGlobals mg → (∀ p ∈ cs, TabB base mg p.1 p.2) → FnG l.prog w K mg base CX k fa fd [x] sp
theorem walk_gd {l : PySem.W.OpenLaw} {n k : Nat} {q : Program} {lo : List Str} {XQ : (Str → Option Value) → Heap → Prop} {YQ : World → Heap → Prop} {d : DefRec} {K : Params → PySem.W.Frag} {CX : World → CXT} {x : Str}
    (m1 : l.most = some n) (m2 : n ≤ sizeLine) (df : d.params.defaults = []) (room : Room k callerA) (hY : ∀ (w : World) (h : Heap), YQ w h → (K w.params).In h)
    (F : ∀ (w : World) (mg : Str → Option Value) (fa : Addr) (h : Heap), YQ w h → (K w.params).In h → h.Ns mainGlobals mg → mg d.name = some (.ref fa) → LawG l w (K w.params) (CX w) k n x mg fa h)
    (hCX : ∀ (w : World) (H : Hp) (s : Shared) (e : Value) (s' : Shared), CX w [] H s (fun _ _ _ => False) e s' → False) : PySem.W.WalkO q lo XQ YQ l.row.toRowW d [] (fun f vs => PySem.call f vs) := by
  refine Att.attach_callB m1 df fun w s₀ s₁ mg mb fa o pm cd doc a vs ns G Y ho hd hcd hmg obj itsI len bits gens => ?_
  have KX := hY w _ Y
  obtain ⟨fd, cs, sp, t1, t2, t3, hb, hs, hF⟩ := F w mg fa _ Y KX G.T.g hmg
  exact law_gd KX G.T.g G.T.b G.T.builtins G.T.nolimit gens t1 t2 t3 G.T.bmain obj itsI (Nat.le_trans len m2) room hF hb (fun H c S => hs H a ns len c S) fun H e z => hCX w H s₁ e z
/-! ### defs that make lambdas -/
/-- a def of the text, its code object at c -/
structure DefC (K : PySem.W.Frag) (mg : Str → Option Value) (x : Str) (st : Stmt) (c : Addr) : Prop where
  ex : ∃ (f : Addr) (oc : Value) (od an : Option Addr) (osl : Array (Option Value)) (kV doc pm ct : Value), K.lookup f = some ⟨oc, od, .func (PySem.W.fnOf x x (defArgs st) (defBody st) (defScope st) .none kV doc pm an (.ref c) ct), osl⟩ ∧
    PySem.W.codeIn K (.ref c) x = true ∧ PySem.W.keepIn K (.ref f) = true ∧ mg x = some (.ref f)
theorem defC_mk {K : PySem.W.Frag} {mg : Str → Option Value} {x : Str} {st : Stmt} {h : Heap} {f c : Addr} {oc : Value} {od an : Option Addr} {osl : Array (Option Value)} {kV doc pm ct : Value} (X : K.In h) (G : h.Ns mainGlobals mg)
    (a : PySem.W.nsIn K mainGlobals x = some (some (.ref f))) (l : K.lookup f = some ⟨oc, od, .func (PySem.W.fnOf x x (defArgs st) (defBody st) (defScope st) .none kV doc pm an (.ref c) ct), osl⟩) (ci : PySem.W.codeIn K (.ref c) x = true)
    (kp : PySem.W.keepIn K (.ref f) = true) : DefC K mg x st c := ⟨f, oc, od, an, osl, kV, doc, pm, ct, l, ci, kp, PySem.W.mg_of X G a⟩
theorem clC_of {P : Program} {w : World} {K : PySem.W.Frag} {mg : Str → Option Value} {base : Heap} {k : Nat} {x : Str} {st : Stmt} {ps N : List Str} {sp : Sp} {c : Addr} (D : DefC K mg x st c) (S : FnScope N ps (defScope st)) (len : ∀ vs H Q E, sp vs H Q E → vs.length = ps.length)
    (hbody : ∀ (f : Addr) (A : Around) (outer : List Env) (s : Shared) (H : Hp) (vs : List V) (Q : VK) (E : XK), A.guards = some [] → Room k (A.deeper (envOfC x (defScope st) s.heap.objs.size f (.ref c))) → sp vs H Q E →
      ∃ t, PSs (cxOf CX0 P w K mg base N x (defScope st) f (.ref c) A outer s H E).nox (defBody st) t ∧ t { nx := fun _ H' => Q .non H', rt := Q } (start N vs) H) : ClG P w K mg base CX0 (k + 1) x st ps sp := by
  obtain ⟨f, oc, od, an, osl, kV, doc, pm, ct, lk, hcd, kp, m⟩ := D.ex
  refine ⟨f, _, fun_mk lk hcd kp, ⟨len, fun A outer s H args us vs Q E gd hr e0 hb r hs => run_ofS lk hcd S hr e0 hb r (len _ _ _ _ hs) fun hr' => ?_⟩, m⟩
  obtain ⟨t, h, q⟩ := hbody f A outer s H vs Q E gd hr' hs
  exact ⟨t, h.nox, q⟩
theorem lawG_fd {K : PySem.W.Frag} {mg : Str → Option Value} {x p : Str} {st : Stmt} {fa : Addr} (D : DefAt K mg x st) (b : Bnd x st [p]) (hfa : mg x = some (.ref fa)) : ∃ fd, Fun K x x st fa fd ∧ ∀ (s : Shared) (u : Value), BindsTo s fd ⟨[u], []⟩ [(p, u)] := law_fd D b hfa
end Lw
/-! A def that is handed a lambda; what stays where tables of code objects grow. -/
namespace Lw
open PySem PySem.Spec PyProof.Rows L2 Evl LamX
theorem u70 {k : Nat} {A : Around} (hr : Room k A) : A.units + 70 < cLine := by
  have := hr.un
  omega
section
variable {X : Cx}
/-- x(lambda: body), x a def of the text with one parameter -/
theorem pe_lamc {TT : (XK → Hp → VK → Prop) → Hp → VK → Prop} {x a : Str} {st : Stmt} {c P : Addr} {k : Nat} {Ng : List Str} {params : Arguments} {body : Expr} {scope : Scope} {t : XK → TE} {p lpos pos : Pos} (D : DefAt X.K X.mg x st) (b : Bnd x st [a]) (hg : Gl X x)
    (Sg : FnScope Ng [a] (defScope st)) (hNg : Ng[0]? = some a) (hva : Vis (defScope st) a) (hG : ∀ g cdv, GivesTo X Ng x (defScope st) g cdv (defBody st) a (X.env.qual ++ "<lambda>") TT)
    (TB : TabB X.base X.mg c P) (hcode : X.env.code = .ref c) (hr : Room (k + 2) X.A) (L : LamS X.env.scope scope) (hdef : defaultsOf params X.env = ([], []))
    (hbind : ∀ (q : Str) (cl : List (Str × Addr)) (pm cv ctv : Value), bindArgs (PySem.W.kla_fn "<lambda>" q params body scope cl pm cv ctv) ⟨[], []⟩ = pure [])
    (hbody : ∀ (A : Around) (outer : List Env) (s : Shared) (H : Hp) (E : XK) (f c' : Addr), Room k (A.deeper (lamEnv X scope s.heap.objs.size f c')) → PE (lamCx X A outer s H E scope f c') body (t E))
    (d1 : (x == ("__debug__" : Str)) = false := by decide) (d2 : (a == ("__debug__" : Str)) = false := by decide) (d3 : (a == ("__classdict__" : Str)) = false := by decide) :
    PE X (.Call (.Name x p) [.Lambda params body scope lpos] [] pos) (tLam [(P, X.env.qual ++ "<lambda>")] TT t) := by
  obtain ⟨f, fd, F, m⟩ := D.ex
  have kp := F.kp
  have bs := F.binds b
  obtain ⟨oc, od, kV, doc, pm, an, cdv, ct, osl, rfl, lk, hcd⟩ := F.ex
  exact pe_lamcall hg m kp lk hcd bs Sg hNg hva (hG f cdv) TB hcode List.mem_cons_self (fun q hq _ => by
    obtain rfl : q = _ := by simpa using hq
    rfl) hr L hdef hbind hbody d1 d2 d3
end
/-! ### what stays, tables aside -/
theorem ExtN.ex {H H' : Hp} (e : Ex H H') : ExtN H H' := ExtN.of fun b o h => e b o h
section
variable {K : PySem.W.Frag} {H H' : Hp} {a : Addr} {v : V} {n : String}
theorem sqN_l {xs : List V} (e : ExtN H H') (h : SqL K H a xs) : SqL K H' a xs := by
  rcases h with (h | ⟨o, h⟩) | h
  · exact .inl (.inl (e _ _ h fun ps z => by cases z))
  · exact .inl (.inr ⟨o, e _ _ h fun ps z => by cases z⟩)
  · exact .inr h
theorem sqN_t {xs : List V} (e : ExtN H H') (h : SqT K H a xs) : SqT K H' a xs := by
  rcases h with (h | ⟨o, h⟩) | h
  · exact .inl (.inl (e _ _ h fun ps z => by cases z))
  · exact .inl (.inr ⟨o, e _ _ h fun ps z => by cases z⟩)
  · exact .inr h
theorem Pool.upN (e : ExtN H H') (h : Pool H a) : Pool H' a := e _ _ h fun ps z => by cases z
mutual
theorem dpN (e : ExtN H H') : ∀ {v : V} {d : PyData}, Dp K H v d → Dp K H' v d
  | _, _, .non => .non
  | _, _, .bl b => .bl b
  | _, _, .int i => .int i
  | _, _, .str y => .str y
  | _, _, .lst h t => .lst (sqN_l e h) (dpsN e t)
  | _, _, .tup h t => .tup (sqN_t e h) (dpsN e t)
theorem dpsN (e : ExtN H H') : ∀ {vs : List V} {ds : List PyData}, DpAll K H vs ds → DpAll K H' vs ds
  | _, _, .nil => .nil
  | _, _, .cons h t => .cons (dpN e h) (dpsN e t)
end
theorem Dd.upN {d : PyData} (e : ExtN H H') (h : Dd K H v d) : Dd K H' v d := by
  cases h with
  | dp h s => exact .dp (dpN e h) s
  | emp h => exact .emp (e _ _ h fun ps z => by cases z)
  | kv h => exact .kv (e _ _ h fun ps z => by cases z)
theorem Dd.up {d : PyData} (e : Ex H H') (h : Dd K H v d) : Dd K H' v d := h.upN (ExtN.ex e)
theorem Kd.upN (e : ExtN H H') (k : Kd H v n) : Kd H' v n := by
  cases k with
  | int i => exact .int i
  | bl b => exact .bl b
  | str s => exact .str s
  | non => exact .non
  | tup h => exact .tup (e _ _ h fun ps z => by cases z)
  | fz h => exact .fz (e _ _ h fun ps z => by cases z)
  | lst h => exact .lst (e _ _ h fun ps z => by cases z)
  | dK h => exact .dK (e _ _ h fun ps z => by cases z)
theorem Th.upN {b : Bool} (e : ExtN H H') (k : Th H v b) : Th H' v b := by
  cases k with
  | other k h => exact .other (k.upN e) h
  | tup h ks => exact .tup (e _ _ h fun ps z => by cases z) fun x hx => let ⟨n, k⟩ := ks x hx; ⟨n, k.upN e⟩
end
theorem extN_mut {H H' : Hp} {a : Addr} {o : HO} (e : ExtN H H') (n : H a = none) : ExtN H (upd H' a o) := fun b u h t => by
  rw [upd_ne (fun z => by rw [z, n] at h; cases h)]
  exact e b u h t
theorem tabs_mut {T : List (Addr × Str)} {H : Hp} {a : Addr} {xs ys : List V} (t : Tabs T H) (h : H a = some (.lst xs)) : Tabs T (upd H a (.lst ys)) := fun p hp => by
  obtain ⟨ps, h1, h2, h3⟩ := t p hp
  have ne : ∀ {b u}, H b = some u → u ≠ .lst xs → b ≠ a := fun {b u} q n z => by
    rw [z, h] at q
    exact n (Option.some.inj q).symm
  refine ⟨ps, by rw [upd_ne (ne h1 (by intro z; cases z))]; exact h1, h2, fun pos cv hc => ?_⟩
  obtain ⟨c, e1, e2⟩ := h3 pos cv hc
  exact ⟨c, e1, by rw [upd_ne (ne e2 (by unfold CodeO; intro z; cases z))]; exact e2⟩
section
variable {H1 : Hp} {D : Addr} {n : Nat} {g : TG} {tt : TT} {te : TE} {vs : List Nat} {σ : L2.St} {Qd : Hp → Prop}
/-- a list of truths, made over range(n), where tables may grow -/
theorem lcRT (T : List (Addr × Str)) (hD : H1 D = none) (hn : n ≤ 50000) (t0 : Tabs T H1)
    (hs : ∀ i, i < n → ∀ H, ExtN H1 H → Tabs T H → ∀ (Q1 : VK) (Q2 : Hp → Prop), (∀ H4, ExtN H H4 → Tabs T H4 → Q1 (.bl true) H4) → g (.int ((0 : Int) + i)) (wipe σ vs) H fun σ2 H2 => wipe σ2 vs = wipe σ vs ∧ tt σ2 H2 fun b H3 => if b = true then te σ2 H3 Q1 else Q2 H3)
    (hd : ∀ H', ExtN H1 H' → Tabs T H' → H' D = some (.lst ((List.replicate n true).map V.bl)) → Qd H') :
    ∃ W : Nat → Nat → Hp → Prop, (∃ m, W 0 m (upd H1 D (.lst []))) ∧ ∀ i m H, W i m H →
      ((Itr 0 n).stop i H ∧ Qd H) ∨ ((Itr 0 n).go i H ∧ ∃ Nx : Hp → Prop, (∀ H', Nx H' → ∃ m', m' < m ∧ W (i + 1) m' H') ∧ ∀ x H', (Itr 0 n).yld i H x H' → g x (wipe σ vs) H' fun σ2 H2 => wipe σ2 vs = wipe σ vs ∧ tt σ2 H2 fun b H3 =>
        if b = true then te σ2 H3 fun y H4 => ∃ acc, H4 D = some (.lst acc) ∧ acc.length < sizeLine ∧ Nx (upd H4 D (.lst (acc ++ [y]))) else Nx H3) := by
  refine lc_range (fun i H => ExtN H1 H ∧ Tabs T H ∧ H D = some (.lst ((List.replicate i true).map V.bl))) ⟨ExtN.ex (Ex.new hD), t0.ext (fun b o h => Ex.new hD b o h), upd_same⟩ (fun i H hi I => ?_) (fun H I => hd H I.1 I.2.1 I.2.2)
  obtain ⟨e, t, h⟩ := I
  refine hs i hi H e t _ _ fun H4 e4 t4 => ?_
  have h4 := e4 _ _ h (fun ps z => by cases z)
  refine ⟨_, h4, Nat.lt_of_lt_of_le (show _ < 60000 by rw [List.length_map, List.length_replicate]; omega) (Nat.le_trans (by decide) line_ge), extN_mut (e.trans e4) hD, tabs_mut t4 h4, ?_⟩
  rw [upd_same, List.replicate_succ', List.map_append]
  rfl
end
/-! ### classes of errors -/
/-- x is a class of errors that is caught by (A, B, C) -/
structure ErrAt (K : PySem.W.Frag) (mg : Str → Option Value) (x a b c : Str) : Prop where
  ex : ∃ C A B D : Addr, mg x = some (.ref C) ∧ mg a = some (.ref A) ∧ mg b = some (.ref B) ∧ mg c = some (.ref D) ∧ PySem.W.exmAny K (.ref C) [.ref A, .ref B, .ref D] = some true ∧ ExcK K C
theorem errAt_mk {K : PySem.W.Frag} {mg : Str → Option Value} {x a b c : Str} {h : Heap} {C A B D : Addr} (X : K.In h) (G : h.Ns mainGlobals mg) (n1 : PySem.W.nsIn K mainGlobals x = some (some (.ref C))) (n2 : PySem.W.nsIn K mainGlobals a = some (some (.ref A)))
    (n3 : PySem.W.nsIn K mainGlobals b = some (some (.ref B))) (n4 : PySem.W.nsIn K mainGlobals c = some (some (.ref D))) (e : PySem.W.exmAny K (.ref C) [.ref A, .ref B, .ref D] = some true)
    (ga : PySem.W.findIn K (.ref C) "__getattribute__" = some (some (.builtin "BaseException.__getattribute__"))) (gt : PySem.W.findIn K (.ref C) "__getattr__" = some none) (sb : PySem.W.subIn K (.ref C) (.type "BaseException") = some true)
    (hd : PySem.W.hasDictIn K C = true) (ca : PySem.W.findIn K (.ref C) "__class__" = some (some (.builtin "object.__class__"))) (cg : PySem.W.specialIn K (.builtin "object.__class__") "__get__" = some (some (.builtin "getset_descriptor.__get__")))
    (ct : PySem.W.takesIn K (.builtin "object.__class__") = some true) (mo : PySem.W.mroIn K C (.type "object") = some true) : ErrAt K mg x a b c :=
  ⟨C, A, B, D, PySem.W.mg_of X G n1, PySem.W.mg_of X G n2, PySem.W.mg_of X G n3, PySem.W.mg_of X G n4, e, ga, gt, sb, hd, ca, cg, ct, mo⟩
/-- isinstance of an x: of the own class y -/
structure AskC (K : PySem.W.Frag) (mg : Str → Option Value) (x y : Str) (b : Bool) : Prop where
  ex : ∃ C D : Addr, mg x = some (.ref C) ∧ mg y = some (.ref D) ∧ PySem.W.kitOne K (.ref C) (.ref D) = some b
theorem askC_mk {K : PySem.W.Frag} {mg : Str → Option Value} {x y : Str} {b : Bool} {h : Heap} {C D : Addr} (X : K.In h) (G : h.Ns mainGlobals mg) (n1 : PySem.W.nsIn K mainGlobals x = some (some (.ref C))) (n2 : PySem.W.nsIn K mainGlobals y = some (some (.ref D)))
    (e : PySem.W.kitOne K (.ref C) (.ref D) = some b) : AskC K mg x y b := ⟨C, D, PySem.W.mg_of X G n1, PySem.W.mg_of X G n2, e⟩
/-- of the built-in class y -/
structure AskT (K : PySem.W.Frag) (mg : Str → Option Value) (x : Str) (y : String) (b : Bool) : Prop where
  ex : ∃ C : Addr, mg x = some (.ref C) ∧ PySem.W.kitOne K (.ref C) (.type y) = some b
theorem askT_mk {K : PySem.W.Frag} {mg : Str → Option Value} {x : Str} {y : String} {b : Bool} {h : Heap} {C : Addr} (X : K.In h) (G : h.Ns mainGlobals mg) (n1 : PySem.W.nsIn K mainGlobals x = some (some (.ref C))) (e : PySem.W.kitOne K (.ref C) (.type y) = some b) :
    AskT K mg x y b := ⟨C, PySem.W.mg_of X G n1, e⟩
/-- the exception that a caught call let out: of the class at C, with this value -/
def Out (K : PySem.W.Frag) (C : Addr) (f : Str) (cls : Value) (d : Option Addr) (H : Hp) (dt : PyData) : Prop := ∃ dd v, cls = .ref C ∧ d = some dd ∧ H dd = some (.xd [(f, v)]) ∧ Dd K H v dt ∧ Shows dt
/-- _law_caught(..) of a call that raises an error of C: [tag, repr(its value)] -/
def TCaught (K : PySem.W.Frag) (C : Addr) (f tag : Str) : (XK → Hp → VK → Prop) → Hp → VK → Prop := fun tl H Q =>
  tl (fun cls d H' => ∃ dt, Out K C f cls d H' dt ∧ ∀ l H2, Ex H' H2 → H2 l = some (.lst [.str tag, .str dt.shown]) → Q (.ref l) H2) H (fun _ H' => [V.str "none", V.str ""].length ≤ sizeLine ∧ ∀ p, H' p = none → Q (.ref p) (upd H' p (.lst [.str "none", .str ""])))
end Lw
/-! Values whose repr is asked: atoms, lists and tuples of atoms, the empty dict. -/
namespace Lw
open PySem PySem.Spec PyProof.Rows L2 Evl LamX
inductive Atm : V → PyData → Prop
  | non : Atm .non .none
  | bl (b : Bool) : Atm (.bl b) (.bool b)
  | int (i : Int) : i.natAbs < 2 ^ 1000 → Atm (.int i) (.int i)
  | emp : Atm (.str "") (.str "")
/-- its text can be told -/
def Dsp (K : PySem.W.Frag) (H : Hp) (v : V) : Prop := ∃ d, Dd K H v d ∧ Shows d
/-! ### texts of valid signs -/
theorem ok_app (x y : Str) : PyData.strOk (x ++ y) = (PyData.strOk x && PyData.strOk y) := by
  show (x.cps ++ y.cps).all _ = (x.cps.all _ && y.cps.all _)
  rw [Array.all_append]
theorem ok_of (s : String) : PyData.strOk (Str.ofString s) = true := by
  rw [Str.ofString_eq_toList]
  show ((s.toList.map Char.toNat).toArray).all _ = true
  rw [List.all_toArray, List.all_eq_true]
  intro n hn
  obtain ⟨c, _, rfl⟩ := List.mem_map.mp hn
  have := c.valid
  refine decide_eq_true ?_
  show c.val.toNat < 0x110000
  rcases this with h | h
  · have : c.val.toNat < 55296 := h
    omega
  · exact h.2
theorem ok_text : ∀ {ts : List Str} {k : Nat} {acc : Str}, PyData.strOk acc = true → (∀ t ∈ ts, PyData.strOk t = true) → PyData.strOk (textFrom k acc ts) = true
  | [], _, _, h, _ => h
  | t :: ts, k, acc, h, ht => by
    refine ok_text (ts := ts) ?_ fun u m => ht u (List.mem_cons_of_mem _ m)
    rw [ok_app, ok_app, h, ht t List.mem_cons_self]
    simp only [Bool.true_and, Bool.and_true]
    split <;> exact ok_of _
theorem ok_join {sep : Str} (hs : PyData.strOk sep = true) : ∀ {ts : List Str}, (∀ t ∈ ts, PyData.strOk t = true) → PyData.strOk (Str.join sep ts) = true
  | [], _ => by
    show PyData.strOk Str.empty = true
    decide +kernel
  | [t], h => h t List.mem_cons_self
  | t :: u :: ts, h => by
    rw [Str.join, ok_app, ok_app, h t List.mem_cons_self, hs, ok_join hs fun x m => h x (List.mem_cons_of_mem _ m)]
    all_goals first | rfl | (intro z; cases z)
section
variable {K : PySem.W.Frag} {H H' : Hp} {a : Addr} {v : V} {d : PyData} {vs : List V} {ds : List PyData}
theorem Atm.dp (h : Atm v d) : Dp K H v d := by cases h <;> constructor
theorem Atm.kd (h : Atm v d) : ∃ n, Kd H v n ∧ n ≠ "tuple" := by
  cases h with
  | non => exact ⟨_, .non, by decide⟩
  | bl b => exact ⟨_, .bl b, by decide⟩
  | int i _ => exact ⟨_, .int i, by decide⟩
  | emp => exact ⟨_, .str "", by decide⟩
theorem log_small {n : Nat} (h : n < 2 ^ 1000) : n.log2 < 1000 := by
  by_cases z : n = 0
  · subst z; decide
  · exact (Nat.log2_lt z).mpr h
theorem Atm.show (h : Atm v d) : d.showable = true ∧ d.shown.length ≤ 2000 ∧ PyData.strOk d.shown = true := by
  cases h with
  | non => exact ⟨rfl, by decide, ok_of _⟩
  | bl b => cases b <;> exact ⟨rfl, by decide, ok_of _⟩
  | int i hi =>
    have l := log_small hi
    refine ⟨decide_eq_true (by omega), ?_, ok_of _⟩
    have := int_text_length_le (k := 1000) (by decide) l
    show (Str.ofString (toString i)).length ≤ 2000
    rw [PySem.ofString_length]
    omega
  | emp => exact ⟨rfl, by decide, by decide +kernel⟩
theorem Atm.lay (h : Atm v d) : PyData.canLay0 d = true ∧ d.depth = 0 := by
  cases h with
  | emp => exact ⟨by rw [PyData.canLay0]; exact ok_of _, by simp [PyData.depth]⟩
  | _ => exact ⟨by simp [PyData.canLay0], by simp [PyData.depth]⟩
theorem atms_dp (h : Paired Atm vs ds) : DpAll K H vs ds := by
  induction h with
  | nil => exact .nil
  | cons h t ih => exact .cons h.dp ih
theorem atms_lay (h : Paired Atm vs ds) : PyData.canLayAll0 ds = true ∧ PyData.depthAll ds = 0 := by
  induction h with
  | nil => exact ⟨by simp [PyData.canLayAll0], by simp [PyData.depthAll]⟩
  | cons h t ih => exact ⟨by simp [PyData.canLayAll0, h.lay.1, ih.1], by simp [PyData.depthAll, h.lay.2, ih.2]⟩
theorem atms_show (h : Paired Atm vs ds) : PyData.showableAll ds = true ∧ ((PyData.shownAll ds).map (·.length)).sum ≤ 2000 * ds.length ∧ (PyData.shownAll ds).length = ds.length ∧ ∀ t ∈ PyData.shownAll ds, PyData.strOk t = true := by
  induction h with
  | nil => exact ⟨rfl, by simp [PyData.shownAll], rfl, fun t m => by cases m⟩
  | cons h t ih =>
    obtain ⟨i1, i2, i3, i4⟩ := ih
    obtain ⟨h1, h2, h3⟩ := h.show
    refine ⟨by rw [PyData.showableAll, h1, i1]; rfl, ?_, by rw [PyData.shownAll, List.length_cons, i3, List.length_cons], fun t m => ?_⟩
    · rw [PyData.shownAll, List.map_cons, List.sum_cons, List.length_cons]
      omega
    · rw [PyData.shownAll] at m
      rcases List.mem_cons.mp m with rfl | m
      · exact h3
      · exact i4 t m
theorem Atm.dsp (h : Atm v d) : Dsp K H v := by
  obtain ⟨s1, s2, s3⟩ := h.show
  refine ⟨d, .dp h.dp ?_, s1, Nat.le_trans s2 (by decide), s3⟩
  unfold SeqAt.shaped
  rw [h.lay.1, h.lay.2]
  rfl
theorem dsp_l (h : SqL K H a vs) (p : Paired Atm vs ds) (hl : vs.length ≤ 1000) : Dsp K H (.ref a) := by
  obtain ⟨s1, s2, s3, s4⟩ := atms_show p
  have ll := Paired.length p
  refine ⟨.list ds, .dp (.lst h (atms_dp p)) ?_, s1, ?_, ?_⟩
  · unfold SeqAt.shaped
    simp [PyData.canLay0, PyData.depth, (atms_lay p).1, (atms_lay p).2]
  · have := listText_len_le (PyData.shownAll ds)
    show (listText (PyData.shownAll ds)).length ≤ sizeLine
    rw [sizeLine_eq]
    omega
  · show PyData.strOk (textFrom 0 "[" (PyData.shownAll ds) ++ "]") = true
    rw [ok_app, ok_text (ok_of _) s4]
    exact ok_of _
theorem dsp_t (h : SqT K H a vs) (p : Paired Atm vs ds) (hl : vs.length ≤ 1000) : Dsp K H (.ref a) := by
  obtain ⟨s1, s2, s3, s4⟩ := atms_show p
  have ll := Paired.length p
  refine ⟨.tuple ds, .dp (.tup h (atms_dp p)) ?_, s1, ?_, ?_⟩
  · unfold SeqAt.shaped
    simp [PyData.canLay0, PyData.depth, (atms_lay p).1, (atms_lay p).2]
  · have := tupleText_len_le (PyData.shownAll ds)
    show (tupleText (PyData.shownAll ds)).length ≤ sizeLine
    rw [sizeLine_eq]
    omega
  · show PyData.strOk (("(" : Str) ++ Str.join ", " (PyData.shownAll ds) ++ _) = true
    rw [ok_app, ok_app, ok_join (ok_of _) s4]
    have o1 : PyData.strOk ("(" : Str) = true := ok_of _
    rw [o1]
    simp only [Bool.true_and]
    split <;> exact ok_of _
theorem dsp_d (h : H a = some (.dK [])) : Dsp K H (.ref a) := ⟨_, .emp h, rfl, by decide, by decide +kernel⟩
theorem Dsp.upN (e : ExtN H H') (h : Dsp K H v) : Dsp K H' v := let ⟨d, x, s⟩ := h; ⟨d, x.upN e, s⟩
theorem Dsp.up (e : Ex H H') (h : Dsp K H v) : Dsp K H' v := h.upN (ExtN.ex e)
theorem atms_kd (p : Paired Atm vs ds) : ∀ x ∈ vs, ∃ n, Kd H x n := by
  induction p with
  | nil => intro x m; cases m
  | cons h t ih =>
    intro x m
    rcases List.mem_cons.mp m with rfl | m
    · obtain ⟨n, k, _⟩ := h.kd (H := H)
      exact ⟨n, k⟩
    · exact ih x m
theorem atm_small {i : Int} (h0 : -100000000000000 ≤ i) (h1 : i ≤ 100000000000000) : Atm (.int i) (.int i) := .int i (Nat.lt_of_lt_of_le (show i.natAbs < 1000000000000000 by omega) (by decide))
/-- lists of lists of texts: equal -/
def rowD (t s : Str) : PyData := .list [.str t, .str s]
theorem dp_row {t s : Str} (h : H a = some (.lst [.str t, .str s])) : Dp K H (.ref a) (rowD t s) := .lst (SqL.of h) (.cons (.str _) (.cons (.str _) .nil))
theorem ne_row {b : Addr} {t s : Str} {Q : VK} (k1 : PyData.strOk t = true) (k2 : PyData.strOk s = true) (h : H a = some (.lst [.str t, .str s])) (h' : H b = some (.lst [.str t, .str s])) (q : Q (.bl false) H) : rNeD K (.ref a) (.ref b) H Q :=
  have sh : SeqAt.shaped (rowD t s) = true := by simp [rowD, SeqAt.shaped, PyData.canLay0, PyData.canLayAll0, PyData.depth, PyData.depthAll, k1, k2]
  ⟨_, _, dp_row h, dp_row h', sh, sh, by rw [SeqAt.eqv_refl _ (SeqAt.canLay_of_shaped sh)]; exact q⟩
theorem rows_lay (n : Nat) (t s : Str) (k1 : PyData.strOk t = true) (k2 : PyData.strOk s = true) : PyData.canLayAll0 (List.replicate n (rowD t s)) = true ∧ PyData.depthAll (List.replicate n (rowD t s)) ≤ 1 := by
  induction n with
  | zero => simp [PyData.canLayAll0, PyData.depthAll]
  | succ n ih =>
    rw [List.replicate_succ]
    exact ⟨by rw [PyData.canLayAll0, ih.1, Bool.and_true, rowD, PyData.canLay0]; simp [PyData.canLayAll0, PyData.canLay0, k1, k2], by rw [PyData.depthAll]; exact Nat.max_le.mpr ⟨by simp [rowD, PyData.depth, PyData.depthAll], ih.2⟩⟩
theorem dps_rows {t s : Str} : ∀ {as : List Addr}, (∀ b ∈ as, H b = some (.lst [.str t, .str s])) → DpAll K H (as.map V.ref) (List.replicate as.length (rowD t s))
  | [], _ => .nil
  | b :: as, h => .cons (dp_row (h b (by simp))) (dps_rows fun c m => h c (List.mem_cons_of_mem _ m))
theorem ne_rows {b : Addr} {t s : Str} {as bs : List Addr} {Q : VK} (k1 : PyData.strOk t = true) (k2 : PyData.strOk s = true) (h : H a = some (.lst (as.map V.ref))) (h' : H b = some (.lst (bs.map V.ref))) (l : as.length = bs.length) (ha : ∀ c ∈ as, H c = some (.lst [.str t, .str s])) (hb : ∀ c ∈ bs, H c = some (.lst [.str t, .str s]))
    (q : Q (.bl false) H) : rNeD K (.ref a) (.ref b) H Q := by
  have sh : SeqAt.shaped (.list (List.replicate as.length (rowD t s))) = true := by
    unfold SeqAt.shaped
    rw [PyData.canLay0, PyData.depth, (rows_lay _ t s k1 k2).1, decide_eq_true (by have := (rows_lay as.length t s k1 k2).2; omega)]
    rfl
  refine ⟨_, _, .lst (SqL.of h) (dps_rows ha), .lst (SqL.of h') (dps_rows hb), sh, by rw [← l]; exact sh, ?_⟩
  rw [← l, SeqAt.eqv_refl _ (SeqAt.canLay_of_shaped sh)]
  exact q
theorem rep3 {l : Addr} {xs : List V} {Q : VK} (h : H l = some (.lst xs)) (hl : xs.length ≤ 1000) (q : ∀ p, H p = none → Q (.ref p) (upd H p (.lst (xs ++ (xs ++ xs))))) : rRep (.ref l) (.int 3) H Q := by
  refine ⟨l, 3, xs, rfl, rfl, h, by decide, by decide, ?_, fun p n => ?_⟩
  · exact Nat.le_trans (by show xs.length * 3 ≤ 100000; omega) line_ge
  · have e : (List.replicate (3 : Int).toNat xs).flatten = xs ++ (xs ++ xs) := by
      show xs ++ (xs ++ (xs ++ [])) = _
      rw [List.append_nil]
    first
      | (rw [e]; exact q p n)
      | exact q p n
end
end Lw
/-! Values in the place of tables of colours; data of some depth whose text can be told. -/
namespace Lw
open PySem PySem.Spec PyProof.Rows L2 Evl LamX
/-! ### data -/
def Nice (B D : Nat) (d : PyData) : Prop := d.showable = true ∧ d.shown.length ≤ B ∧ PyData.strOk d.shown = true ∧ PyData.canLay0 d = true ∧ d.depth ≤ D
section
variable {K : PySem.W.Frag} {H H' : Hp} {a b : Addr} {v : V} {d : PyData} {vs xs ys : List V} {ds : List PyData} {B D n : Nat}
theorem Atm.nice (h : Atm v d) : Nice 2000 0 d := ⟨h.show.1, h.show.2.1, h.show.2.2, h.lay.1, Nat.le_of_eq h.lay.2⟩
theorem Nice.mono {B' D' : Nat} (h : Nice B D d) (h1 : B ≤ B') (h2 : D ≤ D') : Nice B' D' d := ⟨h.1, Nat.le_trans h.2.1 h1, h.2.2.1, h.2.2.2.1, Nat.le_trans h.2.2.2.2 h2⟩
theorem nice_all (h : ∀ x ∈ ds, Nice B D x) : PyData.showableAll ds = true ∧ ((PyData.shownAll ds).map (·.length)).sum ≤ B * ds.length ∧ (PyData.shownAll ds).length = ds.length ∧ (∀ t ∈ PyData.shownAll ds, PyData.strOk t = true) ∧ PyData.canLayAll0 ds = true ∧ PyData.depthAll ds ≤ D := by
  induction ds with
  | nil => exact ⟨rfl, by simp [PyData.shownAll], rfl, (fun t m => by cases m), by simp [PyData.canLayAll0], by simp [PyData.depthAll]⟩
  | cons d ds ih =>
    obtain ⟨i1, i2, i3, i4, i5, i6⟩ := ih fun x m => h x (List.mem_cons_of_mem _ m)
    obtain ⟨h1, h2, h3, h4, h5⟩ := h d List.mem_cons_self
    refine ⟨by rw [PyData.showableAll, h1, i1]; rfl, ?_, by rw [PyData.shownAll, List.length_cons, i3, List.length_cons], (fun t m => ?_), by rw [PyData.canLayAll0, h4, i5]; rfl, by rw [PyData.depthAll]; exact Nat.max_le.mpr ⟨h5, i6⟩⟩
    · rw [PyData.shownAll, List.map_cons, List.sum_cons, List.length_cons, Nat.mul_succ]
      omega
    · rw [PyData.shownAll] at m
      rcases List.mem_cons.mp m with rfl | m
      · exact h3
      · exact i4 t m
theorem nice_tup (h : ∀ x ∈ ds, Nice B D x) (hl : ds.length ≤ n) : Nice (B * n + 2 * n + 3) (D + 1) (.tuple ds) := by
  obtain ⟨h1, h2, h3, h4, h5, h6⟩ := nice_all h
  have m : B * ds.length ≤ B * n := Nat.mul_le_mul_left _ hl
  refine ⟨h1, ?_, ?_, h5, by rw [PyData.depth]; omega⟩
  · have := tupleText_len_le (PyData.shownAll ds)
    show (tupleText (PyData.shownAll ds)).length ≤ _
    omega
  · show PyData.strOk (("(" : Str) ++ Str.join ", " (PyData.shownAll ds) ++ _) = true
    have o1 : PyData.strOk ("(" : Str) = true := ok_of _
    rw [ok_app, ok_app, ok_join (ok_of _) h4, o1]
    simp only [Bool.true_and]
    split <;> exact ok_of _
theorem nice_lst (h : ∀ x ∈ ds, Nice B D x) (hl : ds.length ≤ n) : Nice (B * n + 2 * n + 3) (D + 1) (.list ds) := by
  obtain ⟨h1, h2, h3, h4, h5, h6⟩ := nice_all h
  have m : B * ds.length ≤ B * n := Nat.mul_le_mul_left _ hl
  refine ⟨h1, ?_, ?_, h5, by rw [PyData.depth]; omega⟩
  · have := listText_len_le (PyData.shownAll ds)
    show (listText (PyData.shownAll ds)).length ≤ _
    omega
  · show PyData.strOk (textFrom 0 "[" (PyData.shownAll ds) ++ "]") = true
    rw [ok_app, ok_text (ok_of _) h4]
    exact ok_of _
theorem dsp_nice (h : Dp K H v d) (k : Nice 16000000 60 d) : Dsp K H v := by
  obtain ⟨h1, h2, h3, h4, h5⟩ := k
  refine ⟨d, .dp h ?_, h1, by rw [sizeLine_eq]; omega, h3⟩
  unfold SeqAt.shaped
  rw [h4, decide_eq_true (by omega)]
  rfl
/-- a value and its data, of depth at most two -/
inductive It (K : PySem.W.Frag) (H : Hp) : V → PyData → Prop
  | atm {v : V} {d : PyData} : Atm v d → It K H v d
  | str (s : Str) : Nice 2000 0 (.str s) → It K H (.str s) (.str s)
  | tup {a : Addr} {vs : List V} {ds : List PyData} : SqT K H a vs → DpAll K H vs ds → ds.length ≤ 10 → (∀ d ∈ ds, Nice 2000 0 d) → It K H (.ref a) (.tuple ds)
  | lst {a : Addr} {vs : List V} {ds : List PyData} : SqL K H a vs → DpAll K H vs ds → ds.length ≤ 10 → (∀ d ∈ ds, Nice 2000 0 d) → It K H (.ref a) (.list ds)
theorem It.dp (h : It K H v d) : Dp K H v d := by
  cases h with
  | atm h => exact h.dp
  | str s _ => exact .str s
  | tup h p _ _ => exact .tup h p
  | lst h p _ _ => exact .lst h p
theorem It.nice (h : It K H v d) : Nice 30000 1 d := by
  cases h with
  | atm h => exact h.nice.mono (by decide) (by decide)
  | str s h => exact h.mono (by decide) (by decide)
  | tup h p l n => exact (nice_tup n l).mono (by decide) (by decide)
  | lst h p l n => exact (nice_lst n l).mono (by decide) (by decide)
theorem It.upN (e : ExtN H H') (h : It K H v d) : It K H' v d := by
  cases h with
  | atm h => exact .atm h
  | str s h => exact .str s h
  | tup h p l n => exact .tup (sqN_t e h) (dpsN e p) l n
  | lst h p l n => exact .lst (sqN_l e h) (dpsN e p) l n
theorem its_dp (h : Paired (It K H) vs ds) : DpAll K H vs ds ∧ ∀ d ∈ ds, Nice 30000 1 d := by
  induction h with
  | nil => exact ⟨.nil, fun d m => by cases m⟩
  | cons h t ih =>
    refine ⟨.cons h.dp ih.1, fun d m => ?_⟩
    rcases List.mem_cons.mp m with rfl | m
    · exact h.nice
    · exact ih.2 d m
theorem its_up (e : ExtN H H') (h : Paired (It K H) vs ds) : Paired (It K H') vs ds := by
  induction h with
  | nil => exact .nil
  | cons h t ih => exact .cons (h.upN e) ih
theorem It.dsp (h : It K H v d) : Dsp K H v := dsp_nice h.dp (h.nice.mono (by decide) (by decide))
theorem its_dsp_t (h : SqT K H a vs) (p : Paired (It K H) vs ds) (hl : vs.length ≤ 100) : Dsp K H (.ref a) :=
  dsp_nice (.tup h (its_dp p).1) ((nice_tup (n := 100) (its_dp p).2 (by rw [← Paired.length p]; exact hl)).mono (by decide) (by decide))
theorem its_dsp_l (h : SqL K H a vs) (p : Paired (It K H) vs ds) (hl : vs.length ≤ 100) : Dsp K H (.ref a) :=
  dsp_nice (.lst h (its_dp p).1) ((nice_lst (n := 100) (its_dp p).2 (by rw [← Paired.length p]; exact hl)).mono (by decide) (by decide))
/-! ### tuples and tables -/
/-- a tuple, its object known or not -/
def Tl (H : Hp) (a : Addr) (xs : List V) : Prop := H a = some (.tup xs) ∨ ∃ o, H a = some (.frz o (.tup xs))
theorem Tl.sq (h : Tl H a xs) : SqT K H a xs := .inl h
theorem Tl.kd (h : Tl H a xs) : Kd H (.ref a) "tuple" := by
  rcases h with h | ⟨o, h⟩
  · exact .tup h
  · exact .fz h
theorem Tl.upN (e : ExtN H H') (h : Tl H a xs) : Tl H' a xs := by
  rcases h with h | ⟨o, h⟩
  · exact .inl (e _ _ h fun ps z => by cases z)
  · exact .inr ⟨o, e _ _ h fun ps z => by cases z⟩
theorem Tl.up (e : Ex H H') (h : Tl H a xs) : Tl H' a xs := h.upN (ExtN.ex e)
theorem Tu.tl (h : Tu H a xs) : Tl H a xs := let ⟨o, _, e⟩ := h; .inr ⟨o, e⟩
theorem catTl {Q : VK} (ha : Tl H a xs) (hb : Tl H b ys) (hz : xs.length + ys.length ≤ 1000) (q : ∀ p H', Ex H H' → Tl H' p (xs ++ ys) → Q (.ref p) H') : rCatA K (.ref a) (.ref b) H Q := by
  refine ⟨a, b, xs, ys, rfl, rfl, ha.sq, hb.sq, Nat.le_trans hz (by decide), fun e => ?_, fun _ e => ?_, fun _ _ p n => q p _ (Ex.new n) (.inl upd_same)⟩
  · exact q b H (Ex.refl H) (by rw [e]; exact hb)
  · exact q a H (Ex.refl H) (by rw [e, List.append_nil]; exact ha)
theorem slTl {lo hi : Option Int} {Q : VK} (ha : Tl H a xs) (q : ∀ p H', Ex H H' → Tl H' p (cutV xs lo hi) → Q (.ref p) H') : rSlA K (.ref a) lo hi H Q := by
  refine ⟨a, xs, rfl, ha.sq, fun h => q a H (Ex.refl H) ?_, fun _ p n => q p _ (Ex.new n) (.inl upd_same)⟩
  have e : cutV xs lo hi = xs := by
    unfold cutV
    rw [h.1, h.2]
    simp
  rw [e]
  exact ha
def pairL : List V → Bool
  | [x, y] => inB 0 1000000000 x && inB 0 1000000000 y
  | _ => false
/-- x in a table: is it a pair of colours -/
inductive Pv (H : Hp) : V → Bool → Prop
  | other {v : V} {n : String} (k : Kd H v n) (h : n ≠ "tuple") : Pv H v false
  | tup {a : Addr} {xs : List V} (h : H a = some (.tup xs)) (ks : ∀ x ∈ xs, ∃ n, Kd H x n) : Pv H (.ref a) (pairL xs)
theorem pairL_len (h : xs.length ≠ 2) : pairL xs = false := by
  unfold pairL
  split
  · exact absurd rfl h
  · rfl
theorem Pv.upN {t : Bool} (e : ExtN H H') (h : Pv H v t) : Pv H' v t := by
  cases h with
  | other k h => exact .other (k.upN e) h
  | tup h ks => exact .tup (e _ _ h fun ps z => by cases z) fun x m => let ⟨n, k⟩ := ks x m; ⟨n, k.upN e⟩
/-- a value that is no table -/
inductive Tv (H : Hp) : V → Prop
  | other {v : V} {n : String} (k : Kd H v n) (h : n ≠ "tuple") : Tv H v
  | bad {a : Addr} {xs : List V} (h : Tl H a xs) (hl : xs.length ≤ 1000) (pv : ∀ x ∈ xs, ∃ t, Pv H x t) (x : V) (m : x ∈ xs) (px : Pv H x false) : Tv H (.ref a)
  | desc {a q r : Addr} {x y : Int × Int} (h : H a = some (.tup [.ref q, .ref r])) (hq : RowAt H q x) (hr : RowAt H r y) (c1 : Col x.1) (c2 : Col x.2) (c3 : Col y.1) (c4 : Col y.2) (lt : ¬ x.1 < y.1) : Tv H (.ref a)
theorem Tv.upN (e : ExtN H H') (h : Tv H v) : Tv H' v := by
  cases h with
  | other k h => exact .other (k.upN e) h
  | bad h hl pv x m px => exact .bad (h.upN e) hl (fun y my => let ⟨t, p⟩ := pv y my; ⟨t, p.upN e⟩) x m (px.upN e)
  | desc h hq hr c1 c2 c3 c4 lt => exact .desc (e _ _ h fun ps z => by cases z) (e _ _ hq fun ps z => by cases z) (e _ _ hr fun ps z => by cases z) c1 c2 c3 c4 lt
theorem Tv.up (e : Ex H H') (h : Tv H v) : Tv H' v := h.upN (ExtN.ex e)
/-- bools with one false among them -/
theorem all_false {ys : List V} (h : ∀ y ∈ ys, ∃ t, y = V.bl t) (hf : V.bl false ∈ ys) : ∃ bs : List Bool, ys = bs.map V.bl ∧ bs.all id = false := by
  induction ys with
  | nil => cases hf
  | cons y ys ih =>
    obtain ⟨t, rfl⟩ := h y List.mem_cons_self
    cases t with
    | false =>
      have : ∃ bs : List Bool, ys = bs.map V.bl := by
        clear ih hf
        induction ys with
        | nil => exact ⟨[], rfl⟩
        | cons z zs ih =>
          obtain ⟨s, rfl⟩ := h z (by simp)
          obtain ⟨bs, e⟩ := ih fun y m => h y (by simp at m ⊢; rcases m with rfl | m <;> simp [*])
          exact ⟨s :: bs, by rw [e]; rfl⟩
      obtain ⟨bs, e⟩ := this
      exact ⟨false :: bs, by rw [e]; rfl, rfl⟩
    | true =>
      rcases List.mem_cons.mp hf with z | hf
      · cases z
      · obtain ⟨bs, e, f⟩ := ih (fun y m => h y (List.mem_cons_of_mem _ m)) hf
        exact ⟨true :: bs, by rw [e]; rfl, f⟩
/-- no table, and its text can be told -/
def Bad (K : PySem.W.Frag) (H : Hp) (v : V) : Prop := Tv H v ∧ Dsp K H v
theorem Bad.upN (e : ExtN H H') (h : Bad K H v) : Bad K H' v := ⟨h.1.upN e, h.2.upN e⟩
theorem Bad.up (e : Ex H H') (h : Bad K H v) : Bad K H' v := h.upN (ExtN.ex e)
/-- no colour, and its text can be told -/
def Hue (K : PySem.W.Frag) (H : Hp) (v : V) : Prop := (∃ n, Kd H v n) ∧ inB 0 1000000000 v = false ∧ Dsp K H v
theorem Hue.upN (e : ExtN H H') (h : Hue K H v) : Hue K H' v := ⟨let ⟨n, k⟩ := h.1; ⟨n, k.upN e⟩, h.2.1, h.2.2.upN e⟩
/-- many lists of two texts -/
theorem nes_rows {t s : Str} {as bs : List Addr} {Q : VK} (k2 : PyData.strOk s = true) (k1 : PyData.strOk t = true) (h : H a = some (.lst (as.map V.ref))) (h' : H b = some (.lst (bs.map V.ref))) (l : as.length = bs.length) (ha : ∀ c ∈ as, H c = some (.lst [.str t, .str s])) (hb : ∀ c ∈ bs, H c = some (.lst [.str t, .str s]))
    (q : Q (.bl false) H) : rNeD K (.ref a) (.ref b) H Q := ne_rows k1 k2 h h' l ha hb q
end
/-! ### defs with a star parameter alone -/
structure ClR (P : Program) (w : World) (K : PySem.W.Frag) (mg : Str → Option Value) (base : Heap) (CX : CXT) (k : Nat) (x : Str) (sp : Sp) : Prop where
  ex : ∃ f : Addr, FnR P w K mg base CX k f sp ∧ PySem.W.keepIn K (.ref f) = true ∧ mg x = some (.ref f)
def StarB (x : Str) (st : Stmt) (pv : Str) : Prop := ∀ (kV doc pm : Value) (an : Option Addr) (cdv ct : Value) (us : List Value), bindArgs (PySem.W.fnOf x x (defArgs st) (defBody st) (defScope st) .none kV doc pm an cdv ct) ⟨us, []⟩ = (newTuple us >>= fun t => pure [(pv, t)])
theorem clR_star {P : Program} {w : World} {K : PySem.W.Frag} {mg : Str → Option Value} {base : Heap} {CX : CXT} {k : Nat} {x pv : Str} {st : Stmt} {N : List Str} {sp : Sp} (D : DefAt K mg x st) (S : FnScope N [pv] (defScope st)) (hC : StX.CXUp CX) (hb : StarB x st pv)
    (hbody : ∀ (f : Addr) (cdv : Value) (A : Around) (outer : List Env) (s : Shared) (H : Hp) (vs : List V) (Q : VK) (E : XK), Room k (A.deeper (envOfC x (defScope st) s.heap.objs.size f cdv)) → sp vs H Q E →
      ∃ t, PSs (cxOf CX P w K mg base N x (defScope st) f cdv A outer s H E) (defBody st) t ∧ t { nx := fun _ H' => Q .non H', rt := Q } (start N vs) H) :
    ClR P w K mg base CX (k + 1) x (fun vs H Q E => vs.length ≤ sizeLine ∧ ∀ p, H p = none → sp [.ref p] (upd H p (.tup vs)) Q E) := by
  obtain ⟨f, fd, F, m⟩ := D.ex
  have kp := F.kp
  obtain ⟨oc, od, kV, doc, pm, an, cdv, ct, osl, rfl, lk, hcd⟩ := F.ex
  refine ⟨f, fun A outer s H us vs Q E hr e0 r hs => ?_, kp, m⟩
  refine StX.fn_star (ps := []) (pv := pv) lk hcd S hC (fun us rest hl => ?_) (fun A outer s H vs Q E hr h => hbody f cdv A outer s H vs Q E hr h) A outer s H us vs Q E hr e0 r ⟨[], vs, rfl, rfl, hs.1, hs.2⟩
  obtain rfl : us = [] := List.length_eq_zero_iff.mp hl
  exact hb kV doc pm an cdv ct rest
section
variable {X : Cx} {CX : CXT} {k j : Nat} {x : Str} {sp : Sp} {p pos : Pos} {e : Expr} {es : List Expr} {t : TA} {E : XK}
theorem pe_clR (c : ClR X.prog X.w X.K X.mg X.base CX k x sp) (hr : Room j X.A) (hk : k ≤ j) (hg : Gl X x) (hx : Passes CX X E) (ha : PA X (e :: es) t)
    (hdb : (x == ("__debug__" : Str)) = false := by decide) (he : starEach (e :: es) X.env = (false, eval e X.env) :: starEach es X.env := by rfl) (hpl : (backTo pos (starEach es X.env)).any (·.1) = false := by rfl) :
    PE X (.Call (.Name x p) (e :: es) [] pos) (fun σ H Q => t σ H fun vs H' => sp vs H' Q E) := by
  obtain ⟨f, F, kp, m⟩ := c.ex
  refine ⟨fun pins s σ H Q I hq => wpAny_Call_Name_kw (ld_glob I hg m (PySem.W.callWith_K (h₀ := X.base) I.ok.mod.kin kp (thn (ha.run pos pins s σ H _ I hq) fun us s1 hh => ?_) he hpl) hdb)⟩
  obtain ⟨vs, H1, J, r, q⟩ := hh
  exact ⟨J.kIn, wpAny_call (run_fnR (us := us) (vs := vs) F (hr.mono hk) hx J r q)⟩
end
end Lw
local macro_rules | `(tactic| fail "side") => `(tactic| first
  | ((with_reducible show (0 : Int) < _); omega)
  | ((with_reducible show L2.CMul _ _); unfold L2.CMul; omega)
  | ((with_reducible show L2.CDiv _ _); unfold L2.CDiv; omega)
  | ((with_reducible show L2.CPow _ _); unfold L2.CPow; decide)
  | ((with_reducible show (_ : Nat) ≤ _); refine Nat.le_trans ?_ Lw.line_ge; simp only [List.length_cons, List.length_nil, Nat.zero_add, Nat.reduceAdd]; decide)
  | ((with_reducible show (_ : Nat) < _); refine Nat.lt_of_lt_of_le ?_ Lw.line_ge; simp only [List.length_cons, List.length_nil, Nat.zero_add, Nat.reduceAdd]; decide)
  | ((with_reducible show (_ : Int) < _); first | omega | decide)
  | ((with_reducible show (_ : Int) ≤ _); first | omega | decide | (split <;> omega))
  | (show (0 : Int) < _; omega))
local macro_rules | `(tactic| fail "at1") => `(tactic| first
  | (with_reducible assumption)
  | ((with_reducible show L2.upd _ _ _ _ = _); first | exact L2.upd_same | exact Lw.upd_new (by with_reducible assumption) (by fail "at1"))
  | ((with_reducible show Lw.Minus _ _ _ = _); exact Lw.minus_at (Lw.ne_fresh (by with_reducible assumption) (by fail "at1")) (by fail "at1"))
  | exact Lw.ex_at (by with_reducible assumption) (by fail "at1"))
local macro_rules | `(tactic| fail "at") => `(tactic| ((with_reducible show (_ : Option L2.HO) = _); fail "at1"))
local macro_rules | `(tactic| fail "pool1") => `(tactic| first
  | (with_reducible assumption)
  | ((with_reducible show Lw.Pool (L2.upd _ _ _) _); exact Lw.Pool.new (by with_reducible assumption) (by fail "pool1"))
  | exact Lw.Pool.up (by with_reducible assumption) (by fail "pool1"))
local macro_rules | `(tactic| fail "pool") => `(tactic| ((with_reducible show Lw.Pool _ _); fail "pool1"))
local macro_rules | `(tactic| fail "th1") => `(tactic| first
  | (with_reducible assumption)
  | ((with_reducible show Lw.Th (L2.upd _ _ _) _ _); exact Lw.Th.new (by with_reducible assumption) (by fail "th1"))
  | exact Lw.Th.up (by with_reducible assumption) (by fail "th1"))
local macro_rules | `(tactic| fail "th") => `(tactic| ((with_reducible show Lw.Th _ _ _); fail "th1"))
local macro_rules | `(tactic| fail "sql1") => `(tactic| first
  | (apply Lw.sqlK; (with_reducible assumption); rfl)
  | exact L2.SqL.of (by fail "at1")
  | ((with_reducible show L2.SqL _ (L2.upd _ _ _) _ _); exact Evl.ex_l (Evl.Ex.new (by with_reducible assumption)) (by fail "sql1"))
  | exact Evl.ex_l (by with_reducible assumption) (by fail "sql1"))
local macro_rules | `(tactic| fail "sql") => `(tactic| ((with_reducible show L2.SqL _ _ _ _); fail "sql1"))
local macro_rules | `(tactic| fail "tu1") => `(tactic| first
  | (with_reducible assumption)
  | ((with_reducible show Lw.Tu (L2.upd _ _ _) _ _); exact Lw.Tu.up (Evl.Ex.new (by with_reducible assumption)) (by fail "tu1"))
  | exact Lw.Tu.up (by with_reducible assumption) (by fail "tu1"))
local macro_rules | `(tactic| fail "sqt1") => `(tactic| first
  | (apply Lw.sqtK; (with_reducible assumption); rfl)
  | exact Lw.Tu.sq (by fail "tu1")
  | exact L2.SqT.of (by fail "at1")
  | ((with_reducible show L2.SqT _ (L2.upd _ _ _) _ _); exact Evl.ex_t (Evl.Ex.new (by with_reducible assumption)) (by fail "sqt1"))
  | exact Evl.ex_t (by with_reducible assumption) (by fail "sqt1"))
local macro_rules | `(tactic| fail "sqt") => `(tactic| ((with_reducible show L2.SqT _ _ _ _); fail "sqt1"))
local macro_rules | `(tactic| fail "kd1") => `(tactic| first
  | (with_reducible assumption) | exact Lw.Kd.int _ | exact Lw.Kd.bl _ | exact Lw.Kd.str _ | exact Lw.Kd.non
  | exact Lw.Kd.tup (by fail "at1") | exact Lw.Kd.fz (by fail "at1") | exact Lw.Kd.lst (by fail "at1") | exact Lw.Kd.dK (by fail "at1")
  | ((with_reducible show Lw.Kd (L2.upd _ _ _) _ _); exact Lw.Kd.new (by with_reducible assumption) (by fail "kd1"))
  | exact Lw.Kd.up (by with_reducible assumption) (by fail "kd1"))
local macro_rules | `(tactic| fail "kd") => `(tactic| ((with_reducible show Lw.Kd _ _ _); fail "kd1"))
local macro_rules | `(tactic| fail "ati") => `(tactic| first
  | (with_reducible assumption)
  | ((with_reducible show L2.atI _ 0 = _); rfl)
  | ((with_reducible show L2.atI _ 1 = _); rfl)
  | ((with_reducible show L2.atI _ 2 = _); rfl)
  | ((with_reducible show L2.atI _ 3 = _); rfl)
  | ((with_reducible show L2.atI _ (-1) = _); rfl))
local macro_rules | `(tactic| fail "st") => `(tactic| first
  | (refine ⟨_, rfl, ?_⟩)
  | (refine ⟨_, _, rfl, rfl, ?_⟩)
  | (refine ⟨_, _, _, _, rfl, rfl, (by fail "sql"), (by fail "ati"), ?_⟩)
  | (refine ⟨_, _, _, _, rfl, rfl, (by fail "sqt"), (by fail "ati"), ?_⟩)
  | (refine ⟨_, _, _, _, rfl, rfl, (by fail "at"), rfl, ?_⟩)
  | (refine Or.inl ⟨_, _, _, _, rfl, rfl, (by fail "sql"), (by fail "ati"), ?_⟩)
  | (refine Or.inr (Or.inl ⟨_, _, _, _, rfl, rfl, (by fail "sqt"), (by fail "ati"), ?_⟩))
  | (refine ⟨_, _, _, _, rfl, (by fail "kd"), ?_⟩)
  | (refine ⟨_, _, rfl, Or.inl ⟨_, (by fail "sql"), rfl⟩, ?_⟩)
  | (refine ⟨_, _, rfl, Or.inr ⟨_, (by fail "sqt"), rfl⟩, ?_⟩)
  | (refine ⟨_, _, rfl, (by fail "sqt"), rfl, ?_⟩)
  | (refine ⟨_, _, rfl, (by fail "kd"), ?_⟩)
  | (refine ⟨_, _, rfl, (by fail "th"), ?_⟩)
  | (refine ⟨_, _, rfl, (by fail "sql"), ?_⟩)
  | (refine ⟨_, _, rfl, (by fail "sqt"), ?_⟩)
  | (refine ⟨(by fail "side"), ?_⟩)
  | (refine ⟨(by fail "pool"), ?_⟩)
  | (refine ⟨⟨_, (by fail "sqt")⟩, ?_⟩)
  | (refine ⟨⟨_, (by fail "sql")⟩, ?_⟩)
  | (refine ⟨_, _, rfl, ?_⟩)
  | (refine ⟨rfl, ?_⟩)
  | (refine ⟨_, _, _, _, _, rfl, L2.ClsV.ty _, Lw.Kd.ty (by fail "kd"), Lw.kit_k (by fail "kd") (by decide), ?_⟩))
namespace K11
open PySem PySem.Spec PyProof.Rows L2 Evl Lw
def topS (i : Nat) : Stmt := PySem.Challenge.pw_allscreens_k11_tables_refused.main.body.getD i (.Pass ⟨0, 0, 0, 0⟩)
abbrev s_InvalidRect___init__ : Stmt := inClass (topS 4) 0
abbrev N_InvalidRect___init__ : List Str := ["self", "value"]
theorem sc_InvalidRect___init__ : FnScope N_InvalidRect___init__ ["self", "value"] (defScope s_InvalidRect___init__) := ⟨rfl, rfl, rfl, by decide +kernel, rfl, by decide +kernel, by decide +kernel⟩
abbrev s_InvalidNumber___init__ : Stmt := inClass (topS 5) 0
abbrev N_InvalidNumber___init__ : List Str := ["self", "value"]
theorem sc_InvalidNumber___init__ : FnScope N_InvalidNumber___init__ ["self", "value"] (defScope s_InvalidNumber___init__) := ⟨rfl, rfl, rfl, by decide +kernel, rfl, by decide +kernel, by decide +kernel⟩
abbrev s_InvalidColour___init__ : Stmt := inClass (topS 6) 0
abbrev N_InvalidColour___init__ : List Str := ["self", "value"]
theorem sc_InvalidColour___init__ : FnScope N_InvalidColour___init__ ["self", "value"] (defScope s_InvalidColour___init__) := ⟨rfl, rfl, rfl, by decide +kernel, rfl, by decide +kernel, by decide +kernel⟩
abbrev s_InvalidPairs___init__ : Stmt := inClass (topS 7) 0
abbrev N_InvalidPairs___init__ : List Str := ["self", "value"]
theorem sc_InvalidPairs___init__ : FnScope N_InvalidPairs___init__ ["self", "value"] (defScope s_InvalidPairs___init__) := ⟨rfl, rfl, rfl, by decide +kernel, rfl, by decide +kernel, by decide +kernel⟩
abbrev s_is_integer : Stmt := topS 10
abbrev N_is_integer : List Str := ["value"]
theorem sc_is_integer : FnScope N_is_integer ["value"] (defScope s_is_integer) := ⟨rfl, rfl, rfl, by decide +kernel, rfl, by decide +kernel, by decide +kernel⟩
theorem b_is_integer : Lw.Bnd "is_integer" s_is_integer ["value"] := fun _ _ _ _ _ _ us hl => match us, hl with | [_], _ => rfl
abbrev s_is_between : Stmt := topS 11
abbrev N_is_between : List Str := ["value", "low", "high"]
theorem sc_is_between : FnScope N_is_between ["value", "low", "high"] (defScope s_is_between) := ⟨rfl, rfl, rfl, by decide +kernel, rfl, by decide +kernel, by decide +kernel⟩
theorem b_is_between : Lw.Bnd "is_between" s_is_between ["value", "low", "high"] := fun _ _ _ _ _ _ us hl => match us, hl with | [_, _, _], _ => rfl
abbrev s_is_colour : Stmt := topS 12
abbrev N_is_colour : List Str := ["value"]
theorem sc_is_colour : FnScope N_is_colour ["value"] (defScope s_is_colour) := ⟨rfl, rfl, rfl, by decide +kernel, rfl, by decide +kernel, by decide +kernel⟩
theorem b_is_colour : Lw.Bnd "is_colour" s_is_colour ["value"] := fun _ _ _ _ _ _ us hl => match us, hl with | [_], _ => rfl
abbrev s_check_colour : Stmt := topS 13
abbrev N_check_colour : List Str := ["value"]
theorem sc_check_colour : FnScope N_check_colour ["value"] (defScope s_check_colour) := ⟨rfl, rfl, rfl, by decide +kernel, rfl, by decide +kernel, by decide +kernel⟩
theorem b_check_colour : Lw.Bnd "check_colour" s_check_colour ["value"] := fun _ _ _ _ _ _ us hl => match us, hl with | [_], _ => rfl
abbrev s_is_pair : Stmt := topS 15
abbrev N_is_pair : List Str := ["value"]
theorem sc_is_pair : FnScope N_is_pair ["value"] (defScope s_is_pair) := ⟨rfl, rfl, rfl, by decide +kernel, rfl, by decide +kernel, by decide +kernel⟩
theorem b_is_pair : Lw.Bnd "is_pair" s_is_pair ["value"] := fun _ _ _ _ _ _ us hl => match us, hl with | [_], _ => rfl
abbrev s_is_pairs : Stmt := topS 16
abbrev N_is_pairs : List Str := ["value", "index", "pair"]
theorem sc_is_pairs : FnScope N_is_pairs ["value"] (defScope s_is_pairs) := ⟨rfl, rfl, rfl, by decide +kernel, rfl, by decide +kernel, by decide +kernel⟩
theorem b_is_pairs : Lw.Bnd "is_pairs" s_is_pairs ["value"] := fun _ _ _ _ _ _ us hl => match us, hl with | [_], _ => rfl
abbrev s_check_pairs : Stmt := topS 17
abbrev N_check_pairs : List Str := ["value"]
theorem sc_check_pairs : FnScope N_check_pairs ["value"] (defScope s_check_pairs) := ⟨rfl, rfl, rfl, by decide +kernel, rfl, by decide +kernel, by decide +kernel⟩
theorem b_check_pairs : Lw.Bnd "check_pairs" s_check_pairs ["value"] := fun _ _ _ _ _ _ us hl => match us, hl with | [_], _ => rfl
abbrev s_turned : Stmt := topS 18
abbrev N_turned : List Str := ["colour", "pairs"]
theorem sc_turned : FnScope N_turned ["colour", "pairs"] (defScope s_turned) := ⟨rfl, rfl, rfl, by decide +kernel, rfl, by decide +kernel, by decide +kernel⟩
theorem b_turned : Lw.Bnd "turned" s_turned ["colour", "pairs"] := fun _ _ _ _ _ _ us hl => match us, hl with | [_, _], _ => rfl
abbrev s_chained : Stmt := topS 19
abbrev N_chained : List Str := ["pairs", "other_pairs", "olds", "found", "old", "pair", "new"]
theorem sc_chained : FnScope N_chained ["pairs", "other_pairs"] (defScope s_chained) := ⟨rfl, rfl, rfl, by decide +kernel, rfl, by decide +kernel, by decide +kernel⟩
theorem b_chained : Lw.Bnd "chained" s_chained ["pairs", "other_pairs"] := fun _ _ _ _ _ _ us hl => match us, hl with | [_, _], _ => rfl
abbrev s_parts_all : Stmt := topS 20
abbrev N_parts_all : List Str := ["tables", "colour", "named", "seen", "told", "table", "pair"]
theorem sc_parts_all : FnScope N_parts_all ["tables"] (defScope s_parts_all) := ⟨rfl, rfl, rfl, by decide +kernel, rfl, by decide +kernel, by decide +kernel⟩
theorem b_parts_all : Lw.Bnd "parts_all" s_parts_all ["tables"] := fun _ _ _ _ _ _ us hl => match us, hl with | [_], _ => rfl
abbrev s_recoloured : Stmt := topS 21
abbrev N_recoloured : List Str := ["colour", "pairs"]
theorem sc_recoloured : FnScope N_recoloured ["colour", "pairs"] (defScope s_recoloured) := ⟨rfl, rfl, rfl, by decide +kernel, rfl, by decide +kernel, by decide +kernel⟩
theorem b_recoloured : Lw.Bnd "recoloured" s_recoloured ["colour", "pairs"] := fun _ _ _ _ _ _ us hl => match us, hl with | [_, _], _ => rfl
abbrev s_combined : Stmt := topS 22
abbrev N_combined : List Str := ["pairs", "other_pairs"]
theorem sc_combined : FnScope N_combined ["pairs", "other_pairs"] (defScope s_combined) := ⟨rfl, rfl, rfl, by decide +kernel, rfl, by decide +kernel, by decide +kernel⟩
theorem b_combined : Lw.Bnd "combined" s_combined ["pairs", "other_pairs"] := fun _ _ _ _ _ _ us hl => match us, hl with | [_, _], _ => rfl
abbrev s_keeps_apart : Stmt := topS 23
abbrev N_keeps_apart : List Str := ["tables", "table"]
theorem sc_keeps_apart : FnScope N_keeps_apart ["tables"] (defScope s_keeps_apart) := ⟨rfl, rfl, rfl, by decide +kernel, rfl, by decide +kernel, by decide +kernel⟩
abbrev s_law_cell : Stmt := topS 25
abbrev N_law_cell : List Str := ["_law_script", "_law_k", "_law_state_here", "_law_cell_here"]
theorem sc_law_cell : FnScope N_law_cell ["_law_script", "_law_k"] (defScope s_law_cell) := ⟨rfl, rfl, rfl, by decide +kernel, rfl, by decide +kernel, by decide +kernel⟩
theorem b_law_cell : Lw.Bnd "_law_cell" s_law_cell ["_law_script", "_law_k"] := fun _ _ _ _ _ _ us hl => match us, hl with | [_, _], _ => rfl
abbrev s_law_pool : Stmt := topS 26
abbrev N_law_pool : List Str := ["_law_cell_here", "_law_digits"]
theorem sc_law_pool : FnScope N_law_pool ["_law_cell_here"] (defScope s_law_pool) := ⟨rfl, rfl, rfl, by decide +kernel, rfl, by decide +kernel, by decide +kernel⟩
theorem b_law_pool : Lw.Bnd "_law_pool" s_law_pool ["_law_cell_here"] := fun _ _ _ _ _ _ us hl => match us, hl with | [_], _ => rfl
abbrev s_law_draw : Stmt := topS 27
abbrev N_law_draw : List Str := ["_law_pool_here", "_law_many", "_law_old", "_law_digit"]
theorem sc_law_draw : FnScope N_law_draw ["_law_pool_here", "_law_many"] (defScope s_law_draw) := ⟨rfl, rfl, rfl, by decide +kernel, rfl, by decide +kernel, by decide +kernel⟩
theorem b_law_draw : Lw.Bnd "_law_draw" s_law_draw ["_law_pool_here", "_law_many"] := fun _ _ _ _ _ _ us hl => match us, hl with | [_, _], _ => rfl
abbrev s_law_caught : Stmt := topS 28
abbrev N_law_caught : List Str := ["_law_call", "_law_caught_here", "e"]
theorem sc_law_caught : FnScope N_law_caught ["_law_call"] (defScope s_law_caught) := ⟨rfl, rfl, rfl, by decide +kernel, rfl, by decide +kernel, by decide +kernel⟩
theorem b_law_caught : Lw.Bnd "_law_caught" s_law_caught ["_law_call"] := fun _ _ _ _ _ _ us hl => match us, hl with | [_], _ => rfl
abbrev s_law_bad_table : Stmt := topS 29
abbrev N_law_bad_table : List Str := ["_law_pool_here", "_law_good", "_law_odd", "_law_rows", "_law_at"]
theorem sc_law_bad_table : FnScope N_law_bad_table ["_law_pool_here", "_law_good"] (defScope s_law_bad_table) := ⟨rfl, rfl, rfl, by decide +kernel, rfl, by decide +kernel, by decide +kernel⟩
theorem b_law_bad_table : Lw.Bnd "_law_bad_table" s_law_bad_table ["_law_pool_here", "_law_good"] := fun _ _ _ _ _ _ us hl => match us, hl with | [_, _], _ => rfl
abbrev s_law_right : Stmt := topS 30
abbrev N_law_right : List Str := ["_law_pool_here", "_law_hues", "_law_told", "_law_bad", "_law_good", "_law_hue", "_law_worse", "_law_k"]
theorem sc_law_right : FnScope N_law_right ["_law_pool_here"] (defScope s_law_right) := ⟨rfl, rfl, rfl, by decide +kernel, rfl, by decide +kernel, by decide +kernel⟩
theorem b_law_right : Lw.Bnd "_law_right" s_law_right ["_law_pool_here"] := fun _ _ _ _ _ _ us hl => match us, hl with | [_], _ => rfl
abbrev s_law : Stmt := topS 31
abbrev N_law : List Str := ["_law_script", "_law_k", "_law_pool_here", "_law_turn"]
theorem sc_law : FnScope N_law ["_law_script"] (defScope s_law) := ⟨rfl, rfl, rfl, by decide +kernel, rfl, by decide +kernel, by decide +kernel⟩
theorem b_law : Lw.Bnd "law" s_law ["_law_script"] := fun _ _ _ _ _ _ us hl => match us, hl with | [_], _ => rfl
def gk_bk_recoloured_0_pairs_colour {α : Type} : List α → List α → List α | [], [z0, z1] => [z1, z0] | _, _ => []
theorem rk_bk_recoloured_0_pairs_colour {vs zs : List V} {us ws : List Value} (a : Vals vs us) (b : Vals zs ws) : Vals (gk_bk_recoloured_0_pairs_colour vs zs) (gk_bk_recoloured_0_pairs_colour us ws) := by
  have la := Paired.length a
  have lb := Paired.length b
  by_cases h1 : vs.length = 0 ∧ zs.length = 2
  · obtain ⟨h1, h2⟩ := h1
    match vs, us, zs, ws, a, b, h1, h2 with
    | [], [], [_, _], [_, _], .nil, .cons k0 (.cons k1 (.nil)), _, _ => exact .cons k1 (.cons k0 (.nil))
  · have e1 : gk_bk_recoloured_0_pairs_colour vs zs = [] := by
      unfold gk_bk_recoloured_0_pairs_colour; split
      · exact absurd ⟨rfl, rfl⟩ h1
      · rfl
    have e2 : gk_bk_recoloured_0_pairs_colour us ws = [] := by
      unfold gk_bk_recoloured_0_pairs_colour; split
      · exact absurd ⟨la, lb⟩ h1
      · rfl
    rw [e1, e2]
    exact .nil
theorem bk_recoloured_0_pairs_colour : Lw.BndK "recoloured" s_recoloured ["colour", "pairs"] 0 ["pairs", "colour"] (fun {_} => gk_bk_recoloured_0_pairs_colour) := fun _ _ _ _ _ _ us ws h1 h2 => match us, h1, ws, h2 with | [], _, [_, _], _ => rfl
def gk_bk_combined_0_other_pairs_pairs {α : Type} : List α → List α → List α | [], [z0, z1] => [z1, z0] | _, _ => []
theorem rk_bk_combined_0_other_pairs_pairs {vs zs : List V} {us ws : List Value} (a : Vals vs us) (b : Vals zs ws) : Vals (gk_bk_combined_0_other_pairs_pairs vs zs) (gk_bk_combined_0_other_pairs_pairs us ws) := by
  have la := Paired.length a
  have lb := Paired.length b
  by_cases h1 : vs.length = 0 ∧ zs.length = 2
  · obtain ⟨h1, h2⟩ := h1
    match vs, us, zs, ws, a, b, h1, h2 with
    | [], [], [_, _], [_, _], .nil, .cons k0 (.cons k1 (.nil)), _, _ => exact .cons k1 (.cons k0 (.nil))
  · have e1 : gk_bk_combined_0_other_pairs_pairs vs zs = [] := by
      unfold gk_bk_combined_0_other_pairs_pairs; split
      · exact absurd ⟨rfl, rfl⟩ h1
      · rfl
    have e2 : gk_bk_combined_0_other_pairs_pairs us ws = [] := by
      unfold gk_bk_combined_0_other_pairs_pairs; split
      · exact absurd ⟨la, lb⟩ h1
      · rfl
    rw [e1, e2]
    exact .nil
theorem bk_combined_0_other_pairs_pairs : Lw.BndK "combined" s_combined ["pairs", "other_pairs"] 0 ["other_pairs", "pairs"] (fun {_} => gk_bk_combined_0_other_pairs_pairs) := fun _ _ _ _ _ _ us ws h1 h2 => match us, h1, ws, h2 with | [], _, [_, _], _ => rfl
theorem bt_ArithmeticError : bootBuiltins "ArithmeticError" = some (.type "ArithmeticError") := by decide +kernel
theorem bt_LookupError : bootBuiltins "LookupError" = some (.type "LookupError") := by decide +kernel
theorem bt_ValueError : bootBuiltins "ValueError" = some (.type "ValueError") := by decide +kernel
theorem bt_abs : bootBuiltins "abs" = some (.builtin "abs") := by decide +kernel
theorem bt_all : bootBuiltins "all" = some (.builtin "all") := by decide +kernel
theorem bt_bool : bootBuiltins "bool" = some (.type "bool") := by decide +kernel
theorem bt_dict : bootBuiltins "dict" = some (.type "dict") := by decide +kernel
theorem bt_divmod : bootBuiltins "divmod" = some (.builtin "divmod") := by decide +kernel
theorem bt_int : bootBuiltins "int" = some (.type "int") := by decide +kernel
theorem bt_isinstance : bootBuiltins "isinstance" = some (.builtin "isinstance") := by decide +kernel
theorem bt_len : bootBuiltins "len" = some (.builtin "len") := by decide +kernel
theorem bt_max : bootBuiltins "max" = some (.builtin "max") := by decide +kernel
theorem bt_min : bootBuiltins "min" = some (.builtin "min") := by decide +kernel
theorem bt_range : bootBuiltins "range" = some (.type "range") := by decide +kernel
theorem bt_repr : bootBuiltins "repr" = some (.builtin "repr") := by decide +kernel
theorem bt_sorted : bootBuiltins "sorted" = some (.builtin "sorted") := by decide +kernel
theorem bt_tuple : bootBuiltins "tuple" = some (.type "tuple") := by decide +kernel
/-- what stands behind the top -/
structure Txt (K : PySem.W.Frag) (mg : Str → Option Value) : Prop where
  d_is_integer : Lw.DefAt K mg "is_integer" s_is_integer
  d_is_between : Lw.DefAt K mg "is_between" s_is_between
  d_is_colour : Lw.DefAt K mg "is_colour" s_is_colour
  d_check_colour : Lw.DefAt K mg "check_colour" s_check_colour
  d_is_pair : Lw.DefAt K mg "is_pair" s_is_pair
  d_is_pairs : Lw.DefAt K mg "is_pairs" s_is_pairs
  d_check_pairs : Lw.DefAt K mg "check_pairs" s_check_pairs
  d_turned : Lw.DefAt K mg "turned" s_turned
  d_chained : Lw.DefAt K mg "chained" s_chained
  d_parts_all : Lw.DefAt K mg "parts_all" s_parts_all
  d_recoloured : Lw.DefAt K mg "recoloured" s_recoloured
  d_combined : Lw.DefAt K mg "combined" s_combined
  d_keeps_apart : Lw.DefAt K mg "keeps_apart" s_keeps_apart
  d_law_cell : Lw.DefAt K mg "_law_cell" s_law_cell
  d_law_pool : Lw.DefAt K mg "_law_pool" s_law_pool
  d_law_draw : Lw.DefAt K mg "_law_draw" s_law_draw
  d_law_caught : Lw.DefAt K mg "_law_caught" s_law_caught
  d_law_bad_table : Lw.DefAt K mg "_law_bad_table" s_law_bad_table
  d_law_right : Lw.DefAt K mg "_law_right" s_law_right
  d_law : Lw.DefAt K mg "law" s_law
  b_ArithmeticError : mg "ArithmeticError" = none
  b_LookupError : mg "LookupError" = none
  b_ValueError : mg "ValueError" = none
  b_abs : mg "abs" = none
  b_all : mg "all" = none
  b_bool : mg "bool" = none
  b_dict : mg "dict" = none
  b_divmod : mg "divmod" = none
  b_int : mg "int" = none
  b_isinstance : mg "isinstance" = none
  b_len : mg "len" = none
  b_max : mg "max" = none
  b_min : mg "min" = none
  b_range : mg "range" = none
  b_repr : mg "repr" = none
  b_sorted : mg "sorted" = none
  b_tuple : mg "tuple" = none
  x_InvalidColour : Lw.ClsAt K mg "InvalidColour" "InvalidColour.__init__" s_InvalidColour___init__
  x_InvalidPairs : Lw.ClsAt K mg "InvalidPairs" "InvalidPairs.__init__" s_InvalidPairs___init__
  e_InvalidColour : Lw.ErrAt K mg "InvalidColour" "FormError" "StateError" "LimitError"
  e_InvalidPairs : Lw.ErrAt K mg "InvalidPairs" "FormError" "StateError" "LimitError"
  k_InvalidColour_FormError : Lw.AskC K mg "InvalidColour" "FormError" true
  k_InvalidColour_InvalidNumber : Lw.AskC K mg "InvalidColour" "InvalidNumber" false
  k_InvalidColour_InvalidRect : Lw.AskC K mg "InvalidColour" "InvalidRect" false
  k_InvalidColour_InvalidColour : Lw.AskC K mg "InvalidColour" "InvalidColour" true
  k_InvalidColour_InvalidPairs : Lw.AskC K mg "InvalidColour" "InvalidPairs" false
  k_InvalidPairs_FormError : Lw.AskC K mg "InvalidPairs" "FormError" true
  k_InvalidPairs_InvalidNumber : Lw.AskC K mg "InvalidPairs" "InvalidNumber" false
  k_InvalidPairs_InvalidRect : Lw.AskC K mg "InvalidPairs" "InvalidRect" false
  k_InvalidPairs_InvalidColour : Lw.AskC K mg "InvalidPairs" "InvalidColour" false
  k_InvalidPairs_InvalidPairs : Lw.AskC K mg "InvalidPairs" "InvalidPairs" true
  kt_InvalidColour_ValueError : Lw.AskT K mg "InvalidColour" "ValueError" true
  kt_InvalidPairs_ValueError : Lw.AskT K mg "InvalidPairs" "ValueError" true
  g_MOST_COLOUR : ∃ u, mg "MOST_COLOUR" = some u ∧ RelV (.int 1000000000) u

end K11
namespace K11
open PySem PySem.Spec PyProof.Rows L2 Evl Lw
section
variable {P : Program} {w : World} {K : PySem.W.Frag} {mg : Str → Option Value} {base : Heap}
theorem c_law_draw (T : Txt K mg) : Cl P w K mg base CX0 1 "_law_draw" s_law_draw ["_law_pool_here", "_law_many"] spDraw := by
  refine Cl.pool (cl_of (sp := spDraw1) (k := 0) T.d_law_draw sc_law_draw (fun vs H Q E h => ?_) (fun f cdv A outer s H vs Q E hr h => ?_)) spDraw_of
  · obtain ⟨p, m, a, b, c, rfl, _⟩ := h
    rfl
  · obtain ⟨p, m, a, b, c, rfl, hp, h0, h1, q⟩ := h
    have nd := sc_law_draw.nd
    refine ⟨_, (pss_cons (ps_asg (pe_op op_add (pe_ix ix_seq (pv 0) pe_int (fun _ _ => rfl)) pe_int) (pg_sub (pv 0) pe_int set_list))
      (pss_cons (ps_set (i := 2) nd rfl (Or.inl rfl) (pe_ix ix_seq (pv 0) pe_int (fun _ _ => rfl)))
      (pss_cons (ps_asg (pe_op op_mod (pe_op op_add (pe_op op_add (pe_op op_mul (pv 2) (pe_op op_add (pe_op op_mod (pv 2) pe_int) pe_int)) (pe_op op_mul pe_int (pe_ix ix_seq (pv 0) pe_int (fun _ _ => rfl)))) pe_int) pe_int) (pg_sub (pv 0) pe_int set_list))
      (pss_cons (ps_if (pt_cmpR op_gt (pe_ix ix_seq (pv 0) pe_int (fun _ _ => rfl)) pe_int (nomark _)) (pss_cons (ps_asg (pe_callB (call_divmodW) (by rfl) T.b_divmod bt_divmod (pa_cons (pe_ix ix_seq (pv 0) pe_int (fun _ _ => rfl)) (pa_cons (pv 1) pa_nil))) (pg_tup rfl (pgs_cons (pg_sub (pv 0) pe_int set_list) (pgs_cons (pg_name (i := 3) nd rfl (Or.inl rfl)) pgs_nil))))
      (pss_one (ps_ret (pv 3)))) pss_nil)
      (pss_one (ps_ret (pe_op op_mod (pe_op op_fdiv (pe_ix ix_seq (pv 0) pe_int (fun _ _ => rfl)) pe_int) (pv 1)))))))), ?_⟩
    repeat fail "st"
    refine ifD (fun hb => ?_) (fun hb => ?_)
    · repeat fail "st"
      refine ⟨cdivp h0 h1, fun t ht => ?_⟩
      have np : p ≠ t := ne_of_none upd_same ht
      repeat fail "st"
      exact q _ _ _ _ _ (But.mut (But.new (But.mut (But.mut But.refl)) ht)) upd_same (Int.emod_nonneg _ (by omega)) (Int.emod_lt_of_pos _ h0)
    · repeat fail "st"
      exact q _ _ _ _ _ (But.mut (But.mut But.refl)) upd_same (Int.emod_nonneg _ (by omega)) (Int.emod_lt_of_pos _ h0)
theorem c_law_pool (T : Txt K mg) : Cl P w K mg base CX0 1 "_law_pool" s_law_pool ["_law_cell_here"] spPool := by
  refine Cl.newpool (cl_of (sp := spPool1) (k := 0) T.d_law_pool sc_law_pool (fun vs H Q E h => ?_) (fun f cdv A outer s H vs Q E hr h => ?_)) spPool_of
  · obtain ⟨i, rfl, _⟩ := h
    rfl
  · obtain ⟨i, rfl, q⟩ := h
    have nd := sc_law_pool.nd
    refine ⟨_, (pss_cons (ps_set (i := 1) nd rfl (Or.inl rfl) (pe_ifExp (PW.pt (pw_or (pt_cmpR op_lt (pv 0) pe_int (nomark _)) (pw_or1 (pt_cmpR op_ge (pv 0) (pe_op op_pow pe_int pe_int) (nomark _))))) (pe_callB (call_abs) (by rfl) T.b_abs bt_abs (pa_cons (pv 0) pa_nil)) pe_int))
      (pss_one (ps_ret (pe_lst (pa_cons (pe_op op_mod (pv 0) pe_int) (pa_cons (pv 1) (pa_cons pe_int pa_nil))))))), ?_⟩
    repeat fail "st"
    refine ifD (fun hb => ?_) (fun hb => ?_)
    · repeat fail "st"
      refine iteT (B := True) ?_
      repeat fail "st"
      exact fun t ht => q t _ _ _ _ ht upd_same (Ex.new ht)
    · repeat fail "st"
      refine ifD (fun hb => ?_) (fun hb => ?_)
      · repeat fail "st"

        exact fun t ht => q t _ _ _ _ ht upd_same (Ex.new ht)
      · repeat fail "st"
        exact fun t ht => q t _ _ _ _ ht upd_same (Ex.new ht)
theorem c_law_cell (T : Txt K mg) : Cl P w K mg base CX0 1 "_law_cell" s_law_cell ["_law_script", "_law_k"] (Lw.spCell K) := by
  refine cl_of (k := 0) T.d_law_cell sc_law_cell (fun vs H Q E h => ?_) (fun f cdv A outer s H vs Q E hr h => ?_)
  · obtain ⟨a, ns, i, rfl, _⟩ := h
    rfl
  · obtain ⟨a, ns, i, rfl, hS, hl, h0, h1, q⟩ := h
    have nd := sc_law_cell.nd
    refine ⟨_, (pss_cons (ps_if (pt_cmpR op_lt (pv 1) (pe_callB (call_len) (by rfl) T.b_len bt_len (pa_cons (pv 0) pa_nil)) (nomark _)) (pss_one (ps_ret (pe_ix ix_seq (pv 0) (pv 1) (fun _ _ => rfl)))) pss_nil)
      (pss_cons (ps_set (i := 2) nd rfl (Or.inl rfl) (pe_op op_mod (pe_op op_mul pe_int (pe_op op_add (pe_op op_add (pe_op op_mul (pv 1) (pv 1)) (pe_op op_mul pe_int (pv 1))) pe_int)) pe_int))
      (pss_cons (ps_for PassesOwn.never rfl (pi_list (pe_slice sl_list (pv 0) po_none (po_some pe_int))) (pg_name (i := 3) nd rfl (Or.inl rfl)) (pss_one (ps_set (i := 2) nd rfl (Or.inl rfl) (pe_op op_mod (pe_op op_add (pe_op op_mul (pv 2) pe_int) (pv 3)) pe_int))))
      (pss_one (ps_ret (pv 2)))))), ?_⟩
    repeat fail "st"
    refine ifD (fun hb => ?_) (fun hb => ?_)
    · rw [List.length_map] at hb
      obtain ⟨j, rfl⟩ := Int.eq_ofNat_of_zero_le h0
      have hj : j < ns.length := by omega
      have ga : atI (ns.map V.int) (j : Int) = some (.int ns[j]) := atI_nat (by rw [List.getElem?_map, List.getElem?_eq_getElem hj]; rfl)
      repeat fail "st"
      exact q _ _ (Ex.refl H)
    · repeat fail "st"
      intro c nc
      refine ⟨_, rfl, ⟨_, SqL.of upd_same⟩, ?_⟩
      refine for_list (xs := cutV (ns.map V.int) none (some 3)) (fun _ σ H' => ∃ (z : Int) (y : Option V), σ = [some (.ref a), some (.int i), some (.int z), y] ∧ H' = upd H c (.lst (cutV (ns.map V.int) none (some 3)))) ⟨_, _, rfl, rfl⟩ ?_ ?_ ?_
      · rintro _ _ _ _ ⟨z, y, rfl, rfl⟩
        exact SqL.of upd_same
      · rintro _ x _ _ hx ⟨z, y, rfl, rfl⟩
        obtain ⟨n, rfl⟩ := cut_int hx
        repeat fail "st"
        rfl
      · rintro _ _ ⟨z, y, rfl, rfl⟩
        repeat fail "st"
        exact q _ _ (Ex.new nc)
end

end K11
namespace K11
open PySem PySem.Spec PyProof.Rows L2 Evl Lw
section
variable {P : Program} {w : World} {K : PySem.W.Frag} {mg : Str → Option Value} {base : Heap}
theorem c_is_integer (T : Txt K mg) : Cl P w K mg base CX0 1 "is_integer" s_is_integer ["value"] spInteger := by
  refine cl_of (k := 0) T.d_is_integer sc_is_integer (fun vs H Q E h => ?_) (fun f cdv A outer s H vs Q E hr h => ?_)
  · obtain ⟨v, n, rfl, _⟩ := h
    rfl
  · obtain ⟨v, n, rfl, k, q⟩ := h
    have nd := sc_is_integer.nd
    refine ⟨_, (pss_one (ps_ret (pe_and (pe_callB (call_isi) (by rfl) T.b_isinstance bt_isinstance (pa_cons (pv 0) (pa_cons (pe_bltn (v := .ty "int") (by rfl) T.b_int bt_int rfl) pa_nil))) (pe_one (pe_not (pe_callB (call_isi) (by rfl) T.b_isinstance bt_isinstance (pa_cons (pv 0) (pa_cons (pe_bltn (v := .ty "bool") (by rfl) T.b_bool bt_bool rfl) pa_nil)))))))), ?_⟩
    repeat fail "st"
    refine ifB (fun h => ?_) (fun h => ?_)
    · repeat fail "st"
      rw [int_yes k h] at q
      exact q
    · rw [int_no h] at q
      exact q
theorem c_is_between (T : Txt K mg) : Cl P w K mg base CX0 2 "is_between" s_is_between ["value", "low", "high"] spBetween := by
  refine cl_of (k := 1) T.d_is_between sc_is_between (fun vs H Q E h => ?_) (fun f cdv A outer s H vs Q E hr h => ?_)
  · obtain ⟨v, lo, hi, n, rfl, _⟩ := h
    rfl
  · obtain ⟨v, lo, hi, n, rfl, k, q⟩ := h
    have nd := sc_is_between.nd
    refine ⟨_, (pss_one (ps_ret (pe_and (Lw.pe_cl (c_is_integer T) b_is_integer hr (by decide) (by rfl) pass0 (pa_cons (pv 0) pa_nil)) (pe_one (pe_chain op_le op_le (pv 1) (pv 0) (pv 2)))))), ?_⟩
    repeat fail "st"
    refine ifB (fun h => ?_) (fun h => ?_)
    · obtain ⟨i, rfl⟩ := k.of_int h
      repeat fail "st"
      refine ifD (fun h1 => ?_) (fun h1 => ?_)
      · repeat fail "st"
        rw [inB, decide_eq_true h1] at q
        exact q
      · rw [inB, decide_eq_false h1] at q
        exact q
    · rw [inB_no k h] at q
      exact q
def spColour : Sp := fun vs H Q _ => ∃ v n, vs = [v] ∧ Kd H v n ∧ Q (.bl (Lw.inB 0 1000000000 v)) H
theorem c_is_colour (T : Txt K mg) : Cl P w K mg base CX0 3 "is_colour" s_is_colour ["value"] spColour := by
  refine cl_of (k := 2) T.d_is_colour sc_is_colour (fun vs H Q E h => ?_) (fun f cdv A outer s H vs Q E hr h => ?_)
  · obtain ⟨v, n, rfl, _⟩ := h
    rfl
  · obtain ⟨v, n, rfl, k, q⟩ := h
    have nd := sc_is_colour.nd
    refine ⟨_, (pss_one (ps_ret (Lw.pe_cl (c_is_between T) b_is_between hr (by decide) (by rfl) pass0 (pa_cons (pv 0) (pa_cons pe_int (pa_cons (C8.pe_gc (by rfl) T.g_MOST_COLOUR) pa_nil)))))), ?_⟩
    repeat fail "st"
    exact q
theorem inB_col {c : Int} (h : Col c) : Lw.inB 0 1000000000 (.int c) = true := by
  show (decide (0 ≤ c) && decide (c ≤ 1000000000)) = true
  rw [decide_eq_true h.1, decide_eq_true h.2]; rfl
def spCkC : Sp := fun vs H Q _ => ∃ c, Col c ∧ vs = [.int c] ∧ Q .non H
theorem c_check_colour (T : Txt K mg) : Cl P w K mg base CX0 4 "check_colour" s_check_colour ["value"] spCkC := by
  refine cl_of (k := 3) T.d_check_colour sc_check_colour (fun vs H Q E h => ?_) (fun f cdv A outer s H vs Q E hr h => ?_)
  · obtain ⟨c, _, rfl, _⟩ := h
    rfl
  · obtain ⟨c, hc, rfl, q⟩ := h
    have nd := sc_check_colour.nd
    refine ⟨_, (pss_one (ps_if (pt_not (pt_val (Lw.pe_cl (c_is_colour T) b_is_colour hr (by decide) (by rfl) pass0 (pa_cons (pv 0) pa_nil)))) (pss_one Lw.ps_dead) pss_nil)), ?_⟩
    repeat fail "st"
    rw [inB_col hc]
    repeat fail "st"
    exact q
def spPair : Sp := fun vs H Q _ => ∃ r p, vs = [.ref r] ∧ RowAt H r p ∧ Col p.1 ∧ Col p.2 ∧ Q (.bl true) H
theorem c_is_pair (T : Txt K mg) : Cl P w K mg base CX0 4 "is_pair" s_is_pair ["value"] spPair := by
  refine cl_of (k := 3) T.d_is_pair sc_is_pair (fun vs H Q E h => ?_) (fun f cdv A outer s H vs Q E hr h => ?_)
  · obtain ⟨r, p, rfl, _⟩ := h
    rfl
  · obtain ⟨r, p, rfl, hp, h1, h2, q⟩ := h
    have nd := sc_is_pair.nd
    replace hp : H r = some (.tup [.int p.1, .int p.2]) := hp
    refine ⟨_, (pss_one (ps_ret (pe_and (pe_callB (call_isi) (by rfl) T.b_isinstance bt_isinstance (pa_cons (pv 0) (pa_cons (pe_bltn (v := .ty "tuple") (by rfl) T.b_tuple bt_tuple rfl) pa_nil))) (pe_and (pe_cmpR op_eq (pe_callB (call_len) (by rfl) T.b_len bt_len (pa_cons (pv 0) pa_nil)) pe_int (nomark _)) (pe_and (Lw.pe_cl (c_is_colour T) b_is_colour hr (by decide) (by rfl) pass0 (pa_cons (pe_ix ix_seq (pv 0) pe_int (fun _ _ => rfl)) pa_nil)) (pe_one (Lw.pe_cl (c_is_colour T) b_is_colour hr (by decide) (by rfl) pass0 (pa_cons (pe_ix ix_seq (pv 0) pe_int (fun _ _ => rfl)) pa_nil)))))))), ?_⟩
    repeat fail "st"
    rw [if_pos (inB_col h1)]
    repeat fail "st"
    rw [inB_col h2]
    exact q
def spPairs (r : V) : Sp := fun vs H Q _ => ∃ v ps, Tab H v ps ∧ vs = [v] ∧ Good ps ∧ ∀ H', Ex H H' → Q r H'
theorem c_is_pairs (T : Txt K mg) : Cl P w K mg base CX0 5 "is_pairs" s_is_pairs ["value"] (spPairs (.bl true)) := by
  refine cl_of (k := 4) T.d_is_pairs sc_is_pairs (fun vs H Q E h => ?_) (fun f cdv A outer s H vs Q E hr h => ?_)
  · obtain ⟨r, p, _, rfl, _⟩ := h
    rfl
  · obtain ⟨v, ps, ⟨a, qs, rfl, ht, hr0⟩, rfl, hg, q⟩ := h
    have nd := sc_is_pairs.nd
    have ⟨o, hd, ho⟩ := ht
    have ll := hr0.len
    refine ⟨_, (pss_cons (ps_if (PW.pt (pw_or (pt_not (pt_val (pe_callB (call_isi) (by rfl) T.b_isinstance bt_isinstance (pa_cons (pv 0) (pa_cons (pe_bltn (v := .ty "tuple") (by rfl) T.b_tuple bt_tuple rfl) pa_nil))))) (pw_or1 (pt_not (pt_val (pe_callB (cr_all rfl) (by rfl) T.b_all bt_all (pa_cons (pe_lc (own := [("pair", 2)]) (g := gName 2) (tt := tYes) rfl nd (pi_tup (pv 0)) (L2.blkOk_by (N := N_is_pairs) (sc := defScope s_is_pairs) (by decide +kernel)) (fun _ _ _ _ _ => (pg_name (i := 2) nd rfl (Or.inl rfl))) (fun _ _ _ _ _ => pts_nil) (fun _ _ _ _ _ => (Lw.pe_cl (c_is_pair T) b_is_pair hr (by decide) (by rfl) pass0 (pa_cons (pv 2) pa_nil)))) pa_nil))))))) (pss_one (ps_ret pe_bl)) pss_nil)
      (pss_one (ps_ret (pe_callB (cr_all rfl) (by rfl) T.b_all bt_all (pa_cons (pe_lc (own := [("index", 1)]) (g := gName 1) (tt := tYes) rfl nd (pi_range1 (by rfl) T.b_range (pa_cons (pe_op op_sub (pe_callB (call_len) (by rfl) T.b_len bt_len (pa_cons (pv 0) pa_nil)) pe_int) pa_nil)) (L2.blkOk_by (N := N_is_pairs) (sc := defScope s_is_pairs) (by decide +kernel)) (fun _ _ _ _ _ => (pg_name (i := 1) nd rfl (Or.inl rfl))) (fun _ _ _ _ _ => pts_nil) (fun _ _ _ _ _ => (pe_cmpR op_lt (pe_ix (ix_seq : IxR _ (rIx K)) (pe_ix (ix_seq : IxR _ (rIx K)) (pv 0) (pv 1) (fun _ _ => rfl)) pe_int (fun _ _ => rfl)) (pe_ix (ix_seq : IxR _ (rIx K)) (pe_ix (ix_seq : IxR _ (rIx K)) (pv 0) (pe_op op_add (pv 1) pe_int) (fun _ _ => rfl)) pe_int (fun _ _ => rfl)) (nomark _)))) pa_nil))))), ?_⟩
    repeat fail "st"
    intro D hD
    refine lcT (All fun _ v _ => v = V.bl true) (all_mono fun _ _ _ _ _ h => h) hD ht.sq (by rw [List.length_map, ll]; exact Nat.le_trans hg.len (by decide)) (fun i x hi H' e Q1 Q2 q1 q2 => ?_) (fun H1 os e1 hl1 hD1 hp1 => ?_)
    · obtain ⟨r, p, rfl, _, hp, ra⟩ := rows_at' hr0 hi
      have hc := hg.col p (List.mem_of_getElem? hp)
      repeat fail "st"
      refine ⟨_, _, rfl, e _ _ ra, hc.1, hc.2, ?_⟩
      exact q1 _ _ (Ex.refl _) ⟨_, rfl, rfl⟩
    · obtain ⟨ys, ey, ly, hy⟩ := All.end hp1
      rw [ey] at hD1
      obtain ⟨bs, eb, hb⟩ := all_true (ys := ys) (fun y hy1 => by
        obtain ⟨i, hi, e⟩ := List.getElem_of_mem hy1
        exact hy i y (by rw [List.getElem?_eq_getElem hi, e]))
      subst eb
      refine ⟨_, _, rfl, SqL.of hD1, ?_⟩
      rw [hb]
      repeat fail "st"
      have hlen := hg.len
      refine ⟨by rw [List.length_map, ll]; omega, ?_⟩
      intro D2 hD2
      have ht1 := ht.up e1
      have hr1 := hr0.up e1
      refine lcR (All fun _ v _ => v = V.bl true) (all_mono fun _ _ _ _ _ h => h) hD2 (by rw [List.length_map, ll]; omega) (fun i hi H' e Q1 Q2 q1 q2 => ?_) (fun H2 os e2 hl2 hD2 hp2 => ?_)
      · rw [List.length_map, ll] at hi
        have li : i < ps.length := by omega
        have lj : i + 1 < ps.length := by omega
        obtain ⟨r1, g1, a1⟩ := rows_ref (hr1.up e) li
        obtain ⟨r2, g2, a2⟩ := rows_ref (hr1.up e) lj
        repeat fail "st"
        show rIx K _ _ _ _
        have sq := (ht1.up e).sq (K := K)
        have ei : (0 + (i : Int)) = ((i : Nat) : Int) := by omega
        have ei2 : (0 + (i : Int)) + 1 = ((i + 1 : Nat) : Int) := by omega
        refine ixT_at (K := K) (H := H') (p := a) sq ei g1 ?_
        repeat fail "st"
        show rIx K _ _ _ _
        refine ixT_at (K := K) (H := H') (p := a) sq ei2 g2 ?_
        repeat fail "st"
        refine q1 _ _ (Ex.refl _) ⟨_, rfl, congrArg V.bl (decide_eq_true (hg.at li lj (by omega)))⟩
      · obtain ⟨ys, ey, ly, hy⟩ := All.end hp2
        rw [ey] at hD2
        obtain ⟨bs2, eb, hb2⟩ := all_true (ys := ys) (fun y hy1 => by
          obtain ⟨i, hi, e⟩ := List.getElem_of_mem hy1
          exact hy i y (by rw [List.getElem?_eq_getElem hi, e]))
        subst eb
        refine ⟨_, _, rfl, SqL.of hD2, ?_⟩
        rw [hb2]
        exact q _ (e1.trans e2)
theorem c_check_pairs (T : Txt K mg) : Cl P w K mg base CX0 6 "check_pairs" s_check_pairs ["value"] (spPairs .non) := by
  refine cl_of (k := 5) T.d_check_pairs sc_check_pairs (fun vs H Q E h => ?_) (fun f cdv A outer s H vs Q E hr h => ?_)
  · obtain ⟨r, p, _, rfl, _⟩ := h
    rfl
  · obtain ⟨v, ps, ht, rfl, hg, q⟩ := h
    have nd := sc_check_pairs.nd
    refine ⟨_, (pss_one (ps_if (pt_not (pt_val (Lw.pe_cl (c_is_pairs T) b_is_pairs hr (by decide) (by rfl) pass0 (pa_cons (pv 0) pa_nil)))) (pss_one Lw.ps_dead) pss_nil)), ?_⟩
    repeat fail "st"
    refine ⟨_, _, ht, rfl, hg, fun H' e => ?_⟩
    repeat fail "st"
    exact q _ e
def spTurned : Sp := fun vs H Q _ => ∃ c v ps, Tab H v ps ∧ vs = [.int c, v] ∧ Good ps ∧ ∀ H', Ex H H' → Q (.int (look ps c)) H'
theorem c_turned (T : Txt K mg) : Cl P w K mg base CX0 1 "turned" s_turned ["colour", "pairs"] spTurned := by
  refine cl_of (k := 0) T.d_turned sc_turned (fun vs H Q E h => ?_) (fun f cdv A outer s H vs Q E hr h => ?_)
  · obtain ⟨c, v, ps, _, rfl, _⟩ := h
    rfl
  · obtain ⟨c, v, ps, ⟨a, qs, rfl, ht, hr0⟩, rfl, hg, q⟩ := h
    have nd := sc_turned.nd
    refine ⟨_, (pss_one (ps_ret (pe_dget2 (Lw.u1 hr.units) (pe_callTy (Lw.cr_dictT rfl) (by rfl) T.b_dict bt_dict (pa_cons (pv 1) pa_nil)) (pv 0) (pv 0) ⟨rfl, rfl, rfl, rfl⟩))), ?_⟩
    repeat fail "st"
    refine ⟨_, _, _, rfl, ht, hr0, ?_⟩
    intro d n_d
    generalize hh : upd _ d _ = H_d
    have e_d := newEx hh n_d
    have h_d := newAt hh
    clear hh
    have md : H_d d = some (.dK (kvI ps)) := by
      have e : mergeK [] (kvI ps) = kvI ps := merge_asc (κ := Unit) (acc := []) hg.ne
      rw [h_d, e]
    refine ⟨_, rfl, .inl ⟨_, .inl md⟩, ?_⟩
    repeat fail "st"
    refine ⟨_, .inl ⟨_, .inl c, .inl md, rfl, rfl⟩, ?_⟩
    rw [val_look]
    exact q _ e_d
def spRec : Sp := fun vs H Q _ => ∃ c v ps, Tab H v ps ∧ vs = [.int c, v] ∧ Col c ∧ Good ps ∧ ∀ H', Ex H H' → Q (.int (look ps c)) H'
theorem c_recoloured (T : Txt K mg) : Cl P w K mg base CX0 7 "recoloured" s_recoloured ["colour", "pairs"] spRec := by
  refine cl_of (k := 6) T.d_recoloured sc_recoloured (fun vs H Q E h => ?_) (fun f cdv A outer s H vs Q E hr h => ?_)
  · obtain ⟨c, v, ps, _, rfl, _⟩ := h
    rfl
  · obtain ⟨c, v, ps, ht, rfl, hc, hg, q⟩ := h
    have nd := sc_recoloured.nd
    refine ⟨_, (pss_cons (ps_expr (Lw.pe_cl (c_check_colour T) b_check_colour hr (by decide) (by rfl) pass0 (pa_cons (pv 0) pa_nil)))
      (pss_cons (ps_expr (Lw.pe_cl (c_check_pairs T) b_check_pairs hr (by decide) (by rfl) pass0 (pa_cons (pv 1) pa_nil)))
      (pss_one (ps_ret (Lw.pe_cl (c_turned T) b_turned hr (by decide) (by rfl) pass0 (pa_cons (pv 0) (pa_cons (pv 1) pa_nil))))))), ?_⟩
    repeat fail "st"
    refine ⟨_, hc, rfl, ?_⟩
    repeat fail "st"
    refine ⟨_, _, ht, rfl, hg, fun H1 e1 => ?_⟩
    repeat fail "st"
    refine ⟨_, _, _, ht.up e1, rfl, hg, fun H2 e2 => ?_⟩
    exact q _ (e1.trans e2)
def spChain : Sp := fun vs H Q _ => ∃ v u ps rs, Tab H v ps ∧ Tab H u rs ∧ vs = [v, u] ∧ Good ps ∧ Good rs ∧ ps.length + rs.length ≤ 60 ∧ ∀ x ts H', Ex H H' → Tab H' x ts → IsChain ps rs ts → Q x H'
theorem c_chained (T : Txt K mg) : Cl P w K mg base CX0 2 "chained" s_chained ["pairs", "other_pairs"] spChain := by
  refine cl_of (k := 1) T.d_chained sc_chained (fun vs H Q E h => ?_) (fun f cdv A outer s H vs Q E hr h => ?_)
  · obtain ⟨v, u, ps, rs, _, _, rfl, _⟩ := h
    rfl
  · obtain ⟨v, u, ps, rs, ⟨a, qs, rfl, ta, ra⟩, ⟨b, qs', rfl, tb, rb⟩, rfl, ga, gb, hl, q⟩ := h
    have nd := sc_chained.nd
    refine ⟨_, (pss_cons (ps_set (i := 2) nd rfl (Or.inl rfl) (pe_callB (cr_sortedSet rfl) (by rfl) T.b_sorted bt_sorted (pa_cons (Lw.pe_scI (own := [("pair", 5)]) (g := gName 5) (tt := tYes) rfl nd (pi_tup (pe_op op_catA (pv 0) (pv 1))) (L2.blkOk_by (N := N_chained) (sc := defScope s_chained) (by decide +kernel)) (fun _ _ _ _ _ => (pg_name (i := 5) nd rfl (Or.inl rfl))) (fun _ _ _ _ _ => pts_nil) (fun _ _ _ _ _ => (pe_ix (ix_seq : IxR _ (rIx K)) (pv 5) pe_int (fun _ _ => rfl)))) pa_nil)))
      (pss_cons (ps_setLc (own := [("old", 4)]) (g := gName 4) (tt := tYes) (i := 3) rfl nd rfl rfl (sw_true rfl rfl rfl (by decide +kernel)) (pi_list (pv 2)) (L2.blkOk_by (N := N_chained) (sc := defScope s_chained) (by decide +kernel)) (fun _ _ _ _ _ => (pg_name (i := 4) nd rfl (Or.inl rfl))) (fun _ _ _ _ _ => pts_nil) (fun _ _ _ _ _ => (pe_tup (pa_cons (pv 4) (pa_cons (Lw.pe_cl (c_turned T) b_turned hr (by decide) (by rfl) pass0 (pa_cons (Lw.pe_cl (c_turned T) b_turned hr (by decide) (by rfl) pass0 (pa_cons (pv 4) (pa_cons (pv 0) pa_nil))) (pa_cons (pv 1) pa_nil))) pa_nil)))))
      (pss_one (ps_ret (pe_callTy (Lw.cr_tupF) (by rfl) T.b_tuple bt_tuple (pa_cons (pe_lc (own := [("old", 4), ("new", 6)]) (g := gTup K 2 (gCons (gName 4) (gCons (gName 6) (gNil)))) rfl nd (pi_list (pv 3)) (L2.blkOk_by (N := N_chained) (sc := defScope s_chained) (by decide +kernel)) (fun _ _ _ _ _ => (pg_tup rfl (pgs_cons (pg_name (i := 4) nd rfl (Or.inl rfl)) (pgs_cons (pg_name (i := 6) nd rfl (Or.inl rfl)) pgs_nil)))) (fun _ _ _ _ _ => (pts_one (pt_cmpR op_ne (pv 4) (pv 6) (nomark _)))) (fun _ _ _ _ _ => (pe_tup (pa_cons (pv 4) (pa_cons (pv 6) pa_nil))))) pa_nil)))))), ?_⟩
    have l1 := ra.len
    have l2 := rb.len
    repeat fail "st"
    refine catT ta.sq tb.sq (by rw [List.length_map, List.length_map, l1, l2]; omega) fun c H0 e0 hc => ?_
    rw [← List.map_append] at hc
    have rc := (ra.app rb).up e0
    repeat fail "st"
    intro D hD
    refine scT (fun v => (kOf H0 v).1) hD hc (by rw [List.length_map, rc.len, List.length_append]; omega) (fun i x hi H' e Q1 q1 => ?_) (fun H1 S n e1 hS hk hn => ?_)
    · obtain ⟨r, p, rfl, _, hp, rp⟩ := rows_at' rc hi
      have rp' := rp.up e
      repeat fail "st"
      have z := q1 H' (Ex.refl _)
      rw [kOf_row rp] at z
      exact z
    · rw [List.length_map, rc.len, List.length_append] at hn
      refine ⟨_, _, _, rfl, hS, by omega, fun ns d hs hm hln hd => ?_⟩
      have mem : ∀ k, k ∈ ns ↔ ∃ p ∈ ps ++ rs, p.1 = k := fun k => by
        rw [hm, hk, rows_get rc]
        constructor
        · rintro ⟨x, m, e⟩
          obtain ⟨y, m', rfl⟩ := List.mem_map.mp m
          exact ⟨_, List.mem_map.mpr ⟨y, m', rfl⟩, e⟩
        · rintro ⟨x, m, e⟩
          obtain ⟨y, m', rfl⟩ := List.mem_map.mp m
          exact ⟨_, List.mem_map.mpr ⟨y, m', rfl⟩, e⟩
      have ch := chain_mk (ps := ps) (rs := rs) hs mem (by omega)
      generalize hh : upd H1 d _ = H2
      have e2 := newEx hh hd
      have h2 := newAt hh
      clear hh
      have ta2 := (ta.up e0).up (e1.trans e2)
      have tb2 := (tb.up e0).up (e1.trans e2)
      have ra2 := (ra.up e0).up (e1.trans e2)
      have rb2 := (rb.up e0).up (e1.trans e2)
      have ln : ns.length ≤ 60 := by omega
      clear hS hln mem hm hk rc hc ta tb
      repeat fail "st"
      intro D3 hD3
      refine lcL (All fun i v H => ∃ q k, v = .ref q ∧ ns[i]? = some k ∧ RowAt H q (k, look rs (look ps k))) (all_mono fun i v H H' e ⟨q, k, a, b, c⟩ => ⟨q, k, a, b, e _ _ (fun xs => by intro z; cases z) c⟩) hD3 (SqL.of h2) (by rw [List.length_map]; omega) (fun i x hi H' e Q1 Q2 q1 q2 => ?_) (fun H3 os e3 hl3 hD3 hp3 => ?_)
      · rw [List.getElem?_map] at hi
        obtain ⟨k, hk, rfl⟩ : ∃ k, ns[i]? = some k ∧ V.int k = x := by
          cases hz : ns[i]? with
          | none => rw [hz] at hi; cases hi
          | some k => rw [hz] at hi; exact ⟨k, rfl, Option.some.inj hi⟩
        repeat fail "st"
        refine ⟨_, _, ps, ⟨_, _, rfl, ta2.up e, ra2.up e⟩, rfl, ga, fun H4 e4 => ?_⟩
        repeat fail "st"
        refine ⟨_, _, rs, ⟨_, _, rfl, (tb2.up e).up e4, (rb2.up e).up e4⟩, rfl, gb, fun H5 e5 => ?_⟩
        repeat fail "st"
        intro t n_t
        generalize hh : upd _ t _ = H_t
        have e_t := newEx hh n_t
        have h_t := newAt hh
        clear hh
        exact q1 _ _ (e4.trans (e5.trans e_t)) ⟨_, rfl, _, _, rfl, hk, h_t⟩
      · obtain ⟨ys, ey, ly, hy⟩ := All.end hp3
        rw [ey] at hD3
        obtain ⟨ks, rfl, rk⟩ := rows_of_all (H := H3) (ys := ys) (fs := ns.map fun k => (k, look rs (look ps k))) (by rw [ly, hl3, List.length_map, List.length_map]) fun i y e => by
          obtain ⟨q, k, a, b, c⟩ := hy i y e
          exact ⟨q, _, a, by rw [List.getElem?_map, b]; rfl, c⟩
        have lk : (ks.map V.ref).length ≤ 60 := by rw [ly, hl3, List.length_map]; exact ln
        clear hy ey hp3
        repeat fail "st"
        intro D4 hD4
        refine lcL (SiftP (ns.map fun k => (k, look rs (look ps k)))) (sift_mono _) hD4 (SqL.of hD3) (by omega) (fun i x hi H' e Q1 Q2 q1 q2 => ?_) (fun H4 os4 e4 hl4 hD4 hp4 => ?_)
        · obtain ⟨r, p, rfl, _, hp, rp⟩ := rows_at' rk hi
          have rp' := rp.up e
          repeat fail "st"
          refine ifNt (fun hd => ?_) (fun hd => ?_)
          · have ne : p.1 ≠ p.2 := fun z => of_decide_eq_false hd (congrArg V.int z)
            repeat fail "st"
            intro t n_t
            generalize hh : upd _ t _ = H_t
            have e_t := newEx hh n_t
            have h_t := newAt hh
            clear hh
            exact q1 _ _ e_t ⟨p, hp, .inl ⟨ne, _, rfl, h_t⟩⟩
          · exact q2 _ (Ex.refl _) ⟨p, hp, .inr ⟨V.int.inj (of_decide_eq_true hd), rfl⟩⟩
        · obtain ⟨js, ej, rj⟩ := sift_all (fs := ns.map fun k => (k, look rs (look ps k))) (by rw [hl4, rk.len.symm, List.length_map]) hp4
          rw [ej] at hD4
          refine ⟨_, _, rfl, SqL.of hD4, fun l o hl ho => ?_⟩
          refine q _ _ _ (e0.trans (e1.trans (e2.trans (e3.trans (e4.trans (Ex.new hl)))))) ⟨l, js, rfl, ⟨o, ho, upd_same⟩, rj.up (Ex.new hl)⟩ ch
theorem c_combined (T : Txt K mg) : Cl P w K mg base CX0 7 "combined" s_combined ["pairs", "other_pairs"] spChain := by
  refine cl_of (k := 6) T.d_combined sc_combined (fun vs H Q E h => ?_) (fun f cdv A outer s H vs Q E hr h => ?_)
  · obtain ⟨v, u, ps, rs, _, _, rfl, _⟩ := h
    rfl
  · obtain ⟨v, u, ps, rs, ta, tb, rfl, ga, gb, hl, q⟩ := h
    have nd := sc_combined.nd
    refine ⟨_, (pss_cons (ps_expr (Lw.pe_cl (c_check_pairs T) b_check_pairs hr (by decide) (by rfl) pass0 (pa_cons (pv 0) pa_nil)))
      (pss_cons (ps_expr (Lw.pe_cl (c_check_pairs T) b_check_pairs hr (by decide) (by rfl) pass0 (pa_cons (pv 1) pa_nil)))
      (pss_one (ps_ret (Lw.pe_cl (c_chained T) b_chained hr (by decide) (by rfl) pass0 (pa_cons (pv 0) (pa_cons (pv 1) pa_nil))))))), ?_⟩
    repeat fail "st"
    refine ⟨_, _, ta, rfl, ga, fun H1 e1 => ?_⟩
    repeat fail "st"
    refine ⟨_, _, tb.up e1, rfl, gb, fun H2 e2 => ?_⟩
    repeat fail "st"
    refine ⟨_, _, _, _, (ta.up e1).up e2, (tb.up e1).up e2, rfl, ga, gb, hl, fun x ts H3 e3 ht hc => ?_⟩
    exact q _ _ _ (e1.trans (e2.trans e3)) ht hc
end

end K11
namespace K11
open PySem PySem.Spec PyProof.Rows L2 Evl Lw
section
variable {P : Program} {w : World} {K : PySem.W.Frag} {mg : Str → Option Value} {base : Heap}
theorem init_InvalidColour {B C f : Addr} {fd : FuncData} (hB : mg "FormError" = some (.ref B)) (b : BaseC K B) (T : OexC K C) (hno : PySem.W.findIn K (.ref C) "value" = some none)
    (F : Fun K "__init__" "InvalidColour.__init__" s_InvalidColour___init__ f fd) : FnOk P w K mg base CX0 1 f fd ["self", "value"] (spInit C) := by
  refine F.ok (k := 0) sc_InvalidColour___init__ (fun vs H Q E h => ?_) (fun cdv A outer s H vs Q E hr h => ?_)
  · obtain ⟨a, v, _, rfl, _⟩ := h
    rfl
  · obtain ⟨a, v, ha, rfl, q⟩ := h
    have nd := sc_InvalidColour___init__.nd
    refine ⟨_, pss_cons (ps_expr (Lw.pe_binit (by rfl) hB b (pa_cons (pv 0) (pa_cons pe_str pa_nil)))) (pss_one (ps_ost (pv 0) (pv 1))), ?_⟩
    repeat fail "st"
    refine ⟨a, C, _, rfl, (by show 1 ≤ 1000; decide), T, ha, ?_⟩
    repeat fail "st"
    refine ⟨a, C, rfl, T, hno, .inl ⟨ha, fun d hd ne => ?_⟩⟩
    exact q d hd ne
theorem init_InvalidPairs {B C f : Addr} {fd : FuncData} (hB : mg "FormError" = some (.ref B)) (b : BaseC K B) (T : OexC K C) (hno : PySem.W.findIn K (.ref C) "value" = some none)
    (F : Fun K "__init__" "InvalidPairs.__init__" s_InvalidPairs___init__ f fd) : FnOk P w K mg base CX0 1 f fd ["self", "value"] (spInit C) := by
  refine F.ok (k := 0) sc_InvalidPairs___init__ (fun vs H Q E h => ?_) (fun cdv A outer s H vs Q E hr h => ?_)
  · obtain ⟨a, v, _, rfl, _⟩ := h
    rfl
  · obtain ⟨a, v, ha, rfl, q⟩ := h
    have nd := sc_InvalidPairs___init__.nd
    refine ⟨_, pss_cons (ps_expr (Lw.pe_binit (by rfl) hB b (pa_cons (pv 0) (pa_cons pe_str pa_nil)))) (pss_one (ps_ost (pv 0) (pv 1))), ?_⟩
    repeat fail "st"
    refine ⟨a, C, _, rfl, (by show 1 ≤ 1000; decide), T, ha, ?_⟩
    repeat fail "st"
    refine ⟨a, C, rfl, T, hno, .inl ⟨ha, fun d hd ne => ?_⟩⟩
    exact q d hd ne
/-- check_colour at a value of a known kind -/
def spCkCX (C : Addr) : Sp := fun vs H Q E => ∃ v n, Kd H v n ∧ vs = [v] ∧ (Lw.inB 0 1000000000 v = true → Q .non H) ∧ (Lw.inB 0 1000000000 v = false → ∀ d H', Ex H H' → H' d = some (.xd [("value", v)]) → E (.ref C) (some d) H')
theorem c_check_colourX (T : Txt K mg) {C : Addr} (cC : ExcAt P w K mg base "InvalidColour" C) : Cl P w K mg base (L2.CX P w) 4 "check_colour" s_check_colour ["value"] (spCkCX C) := by
  refine clX_of (k := 3) T.d_check_colour sc_check_colour (fun vs H Q E h => ?_) (fun f cdv A outer s H vs Q E hr h => ?_)
  · obtain ⟨v, n, _, rfl, _⟩ := h
    rfl
  · obtain ⟨v, n, k, rfl, q1, q2⟩ := h
    have nd := sc_check_colour.nd
    refine ⟨_, (pss_one (ps_if (pt_not (pt_val (Lw.pe_cl (c_is_colour T) b_is_colour hr (by decide) (by rfl) pass0 (pa_cons (pv 0) pa_nil)))) (pss_one (Lw.ps_raiseO rfl (takes_of rfl rfl rfl rfl) cC (hr.mono (by decide)) (by rfl) (pa_cons (pv 0) pa_nil))) pss_nil)), ?_⟩
    repeat fail "st"
    refine ifNt (fun hb => ?_) (fun hb => ?_)
    · repeat fail "st"
      exact mkO_in fun d H2 e hd => q2 hb d H2 e hd
    · repeat fail "st"
      exact q1 hb
def spPairX : Sp := fun vs H Q _ => ∃ v b, Pv H v b ∧ vs = [v] ∧ Q (.bl b) H
theorem c_is_pairX (T : Txt K mg) : Cl P w K mg base CX0 4 "is_pair" s_is_pair ["value"] spPairX := by
  refine cl_of (k := 3) T.d_is_pair sc_is_pair (fun vs H Q E h => ?_) (fun f cdv A outer s H vs Q E hr h => ?_)
  · obtain ⟨v, b, _, rfl, _⟩ := h
    rfl
  · obtain ⟨v, b, pv0, rfl, q⟩ := h
    have nd := sc_is_pair.nd
    refine ⟨_, (pss_one (ps_ret (pe_and (pe_callB (call_isi) (by rfl) T.b_isinstance bt_isinstance (pa_cons (pv 0) (pa_cons (pe_bltn (v := .ty "tuple") (by rfl) T.b_tuple bt_tuple rfl) pa_nil))) (pe_and (pe_cmpR op_eq (pe_callB (call_len) (by rfl) T.b_len bt_len (pa_cons (pv 0) pa_nil)) pe_int (nomark _)) (pe_and (Lw.pe_cl (c_is_colour T) b_is_colour hr (by decide) (by rfl) pass0 (pa_cons (pe_ix ix_seq (pv 0) pe_int (fun _ _ => rfl)) pa_nil)) (pe_one (Lw.pe_cl (c_is_colour T) b_is_colour hr (by decide) (by rfl) pass0 (pa_cons (pe_ix ix_seq (pv 0) pe_int (fun _ _ => rfl)) pa_nil)))))))), ?_⟩
    cases pv0 with
    | other k h =>
      repeat fail "st"
      refine ifB (fun h1 => ?_) (fun h1 => ?_)
      · rw [isK_ne h (by decide)] at h1
        cases h1
      · exact q
    | tup h ks =>
      rename_i a xs
      repeat fail "st"
      refine ifD (fun e => ?_) (fun e => ?_)
      · have hl : xs.length = 2 := by have := V.int.inj e; omega
        obtain ⟨x, y, rfl⟩ : ∃ x y, xs = [x, y] := by
          match xs, hl with
          | [x, y], _ => exact ⟨x, y, rfl⟩
        obtain ⟨nx, kx⟩ := ks x (by simp)
        obtain ⟨ny, ky⟩ := ks y (by simp)
        repeat fail "st"
        refine ifB (fun h1 => ?_) (fun h1 => ?_)
        · repeat fail "st"
          rw [show pairL [x, y] = Lw.inB 0 1000000000 y by simp [pairL, h1]] at q
          exact q
        · rw [show pairL [x, y] = false by simp [pairL, h1]] at q
          exact q
      · rw [pairL_len (fun z => e (by rw [z]; rfl))] at q
        exact q
/-- is_pairs at what is none -/
def spPairsX : Sp := fun vs H Q _ => ∃ v, Tv H v ∧ vs = [v] ∧ ∀ H', Ex H H' → Q (.bl false) H'
theorem c_is_pairsX (T : Txt K mg) : Cl P w K mg base CX0 5 "is_pairs" s_is_pairs ["value"] spPairsX := by
  refine cl_of (k := 4) T.d_is_pairs sc_is_pairs (fun vs H Q E h => ?_) (fun f cdv A outer s H vs Q E hr h => ?_)
  · obtain ⟨v, _, rfl, _⟩ := h
    rfl
  · obtain ⟨v, tv, rfl, q⟩ := h
    have nd := sc_is_pairs.nd
    refine ⟨_, (pss_cons (ps_if (PW.pt (pw_or (pt_not (pt_val (pe_callB (call_isi) (by rfl) T.b_isinstance bt_isinstance (pa_cons (pv 0) (pa_cons (pe_bltn (v := .ty "tuple") (by rfl) T.b_tuple bt_tuple rfl) pa_nil))))) (pw_or1 (pt_not (pt_val (pe_callB (cr_all rfl) (by rfl) T.b_all bt_all (pa_cons (pe_lc (own := [("pair", 2)]) (g := gName 2) (tt := tYes) rfl nd (pi_tup (pv 0)) (L2.blkOk_by (N := N_is_pairs) (sc := defScope s_is_pairs) (by decide +kernel)) (fun _ _ _ _ _ => (pg_name (i := 2) nd rfl (Or.inl rfl))) (fun _ _ _ _ _ => pts_nil) (fun _ _ _ _ _ => (Lw.pe_cl (c_is_pairX T) b_is_pair hr (by decide) (by rfl) pass0 (pa_cons (pv 2) pa_nil)))) pa_nil))))))) (pss_one (ps_ret pe_bl)) pss_nil)
      (pss_one (ps_ret (pe_callB (cr_all rfl) (by rfl) T.b_all bt_all (pa_cons (pe_lc (own := [("index", 1)]) (g := gName 1) (tt := tYes) rfl nd (pi_range1 (by rfl) T.b_range (pa_cons (pe_op op_sub (pe_callB (call_len) (by rfl) T.b_len bt_len (pa_cons (pv 0) pa_nil)) pe_int) pa_nil)) (L2.blkOk_by (N := N_is_pairs) (sc := defScope s_is_pairs) (by decide +kernel)) (fun _ _ _ _ _ => (pg_name (i := 1) nd rfl (Or.inl rfl))) (fun _ _ _ _ _ => pts_nil) (fun _ _ _ _ _ => (pe_cmpR op_lt (pe_ix (ix_seq : IxR _ (rIx K)) (pe_ix (ix_seq : IxR _ (rIx K)) (pv 0) (pv 1) (fun _ _ => rfl)) pe_int (fun _ _ => rfl)) (pe_ix (ix_seq : IxR _ (rIx K)) (pe_ix (ix_seq : IxR _ (rIx K)) (pv 0) (pe_op op_add (pv 1) pe_int) (fun _ _ => rfl)) pe_int (fun _ _ => rfl)) (nomark _)))) pa_nil))))), ?_⟩
    cases tv with
    | other k h =>
      repeat fail "st"
      refine ifNt (fun h1 => ?_) (fun h1 => ?_)
      · repeat fail "st"
        exact q _ (Ex.refl _)
      · rw [isK_ne h (by decide)] at h1
        cases h1
    | bad h hl pv0 x m px =>
      rename_i a xs
      have hk := h.kd
      repeat fail "st"
      refine ⟨⟨_, h.sq⟩, ?_⟩
      obtain ⟨m0, hm0⟩ := List.mem_iff_getElem?.mp m
      intro D hD
      refine lcT (All fun i v _ => ∃ t, v = V.bl t ∧ (i = m0 → t = false)) (all_mono fun _ _ _ _ _ h => h) hD h.sq (by omega) (fun i y hi H' e Q1 Q2 q1 q2 => ?_) (fun H1 os e1 hl1 hD1 hp1 => ?_)
      · obtain ⟨t, pt, ht⟩ : ∃ t, Pv H y t ∧ (i = m0 → t = false) := by
          by_cases z : i = m0
          · subst z
            rw [hm0] at hi
            cases hi
            exact ⟨false, px, fun _ => rfl⟩
          · obtain ⟨t, p⟩ := pv0 y (List.mem_of_getElem? hi)
            exact ⟨t, p, fun e => absurd e z⟩
        repeat fail "st"
        exact ⟨y, t, pt.upN (ExtN.ex e), rfl, q1 _ _ (Ex.refl _) ⟨_, rfl, t, rfl, ht⟩⟩
      · obtain ⟨ys, ey, ly, hy⟩ := All.end hp1
        rw [ey] at hD1
        have lt0 : m0 < ys.length := by rw [ly, hl1]; exact (List.getElem?_eq_some_iff.mp hm0).1
        obtain ⟨t0, z0, f0⟩ := hy m0 _ (List.getElem?_eq_getElem lt0)
        obtain ⟨bs, eb, hb⟩ := all_false (ys := ys) (fun y hy1 => by
          obtain ⟨i, hi, e⟩ := List.getElem_of_mem hy1
          obtain ⟨t, z, _⟩ := hy i y (by rw [List.getElem?_eq_getElem hi, e])
          exact ⟨t, z⟩) (by rw [f0 rfl] at z0; rw [← z0]; exact List.getElem_mem lt0)
        subst eb
        refine ⟨_, _, rfl, SqL.of hD1, ?_⟩
        rw [hb]
        repeat fail "st"
        exact q _ e1
    | desc h hq hr0 c1 c2 c3 c4 lt =>
      rename_i a q1 q2 x y
      repeat fail "st"
      intro D hD
      refine lcT (All fun _ v _ => v = V.bl true) (all_mono fun _ _ _ _ _ h => h) hD (SqT.of h) (by show 2 ≤ 50000; decide) (fun i z hi H' e Q1 Q2 q1' q2' => ?_) (fun H1 os e1 hl1 hD1 hp1 => ?_)
      · have pz : Pv H z true := by
          match i, hi with
          | 0, hi =>
            cases hi
            have p := Pv.tup hq (fun v m => by simp only [List.mem_cons, List.not_mem_nil, or_false] at m; rcases m with rfl | rfl <;> exact ⟨_, .int _⟩)
            rw [show pairL [V.int x.1, V.int x.2] = true by show (Lw.inB _ _ _ && Lw.inB _ _ _) = true; rw [inB_col c1, inB_col c2]; rfl] at p
            exact p
          | 1, hi =>
            cases hi
            have p := Pv.tup hr0 (fun v m => by simp only [List.mem_cons, List.not_mem_nil, or_false] at m; rcases m with rfl | rfl <;> exact ⟨_, .int _⟩)
            rw [show pairL [V.int y.1, V.int y.2] = true by show (Lw.inB _ _ _ && Lw.inB _ _ _) = true; rw [inB_col c3, inB_col c4]; rfl] at p
            exact p
        repeat fail "st"
        exact ⟨z, true, pz.upN (ExtN.ex e), rfl, q1' _ _ (Ex.refl _) ⟨_, rfl, rfl⟩⟩
      · obtain ⟨ys, ey, ly, hy⟩ := All.end hp1
        rw [ey] at hD1
        obtain ⟨bs, eb, hb⟩ := all_true (ys := ys) (fun y hy1 => by
          obtain ⟨i, hi, e⟩ := List.getElem_of_mem hy1
          exact hy i y (by rw [List.getElem?_eq_getElem hi, e]))
        subst eb
        refine ⟨_, _, rfl, SqL.of hD1, ?_⟩
        rw [hb]
        have h1 := e1 _ _ h
        have hq1 : H1 q1 = some (.tup [.int x.1, .int x.2]) := e1 _ _ hq
        have hq2 : H1 q2 = some (.tup [.int y.1, .int y.2]) := e1 _ _ hr0
        iterate 4 fail "st"
        refine ⟨_, rfl, by show (-2 ^ 62 : Int) ≤ (2 : Int) - 1; omega, by show (2 : Int) - 1 < 2 ^ 62; omega, ?_⟩
        intro D2 hD2
        refine lcR (All fun _ v _ => v = V.bl false) (all_mono fun _ _ _ _ _ h => h) hD2 (by show 1 ≤ 50000; decide) (fun i hi H' e Q1 Q2 q1' q2' => ?_) (fun H2 os e2 hl2 hD2 hp2 => ?_)
        · have i0 : i = 0 := by
            have : i < 1 := hi
            omega
          subst i0
          have h2 := e _ _ h1
          have hq3 := e _ _ hq1
          have hq4 := e _ _ hq2
          repeat fail "st"
          have sq : SqT K H' a [.ref q1, .ref q2] := SqT.of h2
          have ei : (0 + ((0 : Nat) : Int)) = ((0 : Nat) : Int) := by omega
          have ei2 : (0 + ((0 : Nat) : Int)) + 1 = ((1 : Nat) : Int) := by omega
          show rIx K _ _ _ _
          refine ixT_at (K := K) (H := H') (p := a) sq ei rfl ?_
          repeat fail "st"
          show rIx K _ _ _ _
          refine ixT_at (K := K) (H := H') (p := a) sq ei2 rfl ?_
          repeat fail "st"
          refine q1' _ _ (Ex.refl _) ⟨_, rfl, congrArg V.bl (decide_eq_false lt)⟩
        · obtain ⟨ys, ey, ly, hy⟩ := All.end hp2
          rw [ey] at hD2
          have l1 : ys.length = 1 := by rw [ly, hl2]; rfl
          obtain ⟨u, rfl⟩ : ∃ u, ys = [u] := by
            match ys, l1 with
            | [u], _ => exact ⟨u, rfl⟩
          obtain rfl : u = V.bl false := hy 0 u rfl
          refine ⟨_, [false], rfl, SqL.of hD2, ?_⟩
          exact q _ (e1.trans e2)
/-- check_pairs at a table or at what is none -/
def spCkPB (C : Addr) : Sp := fun vs H Q E => ∃ v, vs = [v] ∧ ((∃ ps, Tab H v ps ∧ Good ps ∧ ∀ H', Ex H H' → Q .non H') ∨ (Tv H v ∧ ∀ d H', Ex H H' → H' d = some (.xd [("value", v)]) → E (.ref C) (some d) H'))
theorem c_check_pairsB (T : Txt K mg) {C : Addr} (cP : ExcAt P w K mg base "InvalidPairs" C) : Cl P w K mg base (L2.CX P w) 6 "check_pairs" s_check_pairs ["value"] (spCkPB C) := by
  refine clX_of (k := 5) T.d_check_pairs sc_check_pairs (fun vs H Q E h => ?_) (fun f cdv A outer s H vs Q E hr h => ?_)
  · obtain ⟨v, rfl, _⟩ := h
    rfl
  · obtain ⟨v, rfl, h⟩ := h
    have nd := sc_check_pairs.nd
    rcases h with ⟨ps, ht, hg, q⟩ | ⟨tv, q⟩
    · refine ⟨_, (pss_one (ps_if (pt_not (pt_val (Lw.pe_cl (c_is_pairs T) b_is_pairs hr (by decide) (by rfl) pass0 (pa_cons (pv 0) pa_nil)))) (pss_one Lw.ps_dead) pss_nil)), ?_⟩
      repeat fail "st"
      refine ⟨_, _, ht, rfl, hg, fun H' e => ?_⟩
      repeat fail "st"
      exact q _ e
    · refine ⟨_, (pss_one (ps_if (pt_not (pt_val (Lw.pe_cl (c_is_pairsX T) b_is_pairs hr (by decide) (by rfl) pass0 (pa_cons (pv 0) pa_nil)))) (pss_one (Lw.ps_raiseO rfl (takes_of rfl rfl rfl rfl) cP (hr.mono (by decide)) (by rfl) (pa_cons (pv 0) pa_nil))) pss_nil)), ?_⟩
      repeat fail "st"
      refine ⟨v, tv, rfl, fun H' e => ?_⟩
      repeat fail "st"
      exact mkO_in fun d H2 e2 hd => q d H2 (e.trans e2) hd
/-- combined, where one is no table -/
def spCombX (C : Addr) : Sp := fun vs H _ E => ∃ v u, vs = [v, u] ∧ ((Tv H v ∧ ∀ d H', Ex H H' → H' d = some (.xd [("value", v)]) → E (.ref C) (some d) H') ∨ (∃ ps, Tab H v ps ∧ Good ps ∧ Tv H u ∧ ∀ d H', Ex H H' → H' d = some (.xd [("value", u)]) → E (.ref C) (some d) H'))
theorem c_combinedX (T : Txt K mg) {C : Addr} (cP : ExcAt P w K mg base "InvalidPairs" C) : Cl P w K mg base (L2.CX P w) 7 "combined" s_combined ["pairs", "other_pairs"] (spCombX C) := by
  refine clX_of (k := 6) T.d_combined sc_combined (fun vs H Q E h => ?_) (fun f cdv A outer s H vs Q E hr h => ?_)
  · obtain ⟨v, u, rfl, _⟩ := h
    rfl
  · obtain ⟨v, u, rfl, h⟩ := h
    have nd := sc_combined.nd
    refine ⟨_, (pss_cons (ps_expr (Lw.pe_cl (c_check_pairsB T cP) b_check_pairs hr (by decide) (by rfl) (passes_call (takes_of rfl rfl rfl rfl) (fun _ _ _ _ h => h)) (pa_cons (pv 0) pa_nil)))
      (pss_cons (ps_expr (Lw.pe_cl (c_check_pairsB T cP) b_check_pairs hr (by decide) (by rfl) (passes_call (takes_of rfl rfl rfl rfl) (fun _ _ _ _ h => h)) (pa_cons (pv 1) pa_nil)))
      (pss_one Lw.ps_dead))), ?_⟩
    repeat fail "st"
    rcases h with ⟨tv, q⟩ | ⟨ps, ht, hg, tv, q⟩
    · exact .inr ⟨tv, q⟩
    · refine .inl ⟨ps, ht, hg, fun H' e => ?_⟩
      repeat fail "st"
      exact .inr ⟨tv.up e, fun d H2 e2 hd => q d H2 (e.trans e2) hd⟩
/-- recoloured, where one is not right -/
def spRecX (CC CP : Addr) : Sp := fun vs H _ E => ∃ v n u, vs = [v, u] ∧ Kd H v n ∧ ((Lw.inB 0 1000000000 v = false ∧ ∀ d H', Ex H H' → H' d = some (.xd [("value", v)]) → E (.ref CC) (some d) H') ∨ (Lw.inB 0 1000000000 v = true ∧ Tv H u ∧ ∀ d H', Ex H H' → H' d = some (.xd [("value", u)]) → E (.ref CP) (some d) H'))
theorem c_recolouredX (T : Txt K mg) {CC CP : Addr} (cC : ExcAt P w K mg base "InvalidColour" CC) (cP : ExcAt P w K mg base "InvalidPairs" CP) : Cl P w K mg base (L2.CX P w) 7 "recoloured" s_recoloured ["colour", "pairs"] (spRecX CC CP) := by
  refine clX_of (k := 6) T.d_recoloured sc_recoloured (fun vs H Q E h => ?_) (fun f cdv A outer s H vs Q E hr h => ?_)
  · obtain ⟨v, n, u, rfl, _⟩ := h
    rfl
  · obtain ⟨v, n, u, rfl, hk, h⟩ := h
    have nd := sc_recoloured.nd
    refine ⟨_, (pss_cons (ps_expr (Lw.pe_cl (c_check_colourX T cC) b_check_colour hr (by decide) (by rfl) (passes_call (takes_of rfl rfl rfl rfl) (fun _ _ _ _ h => h)) (pa_cons (pv 0) pa_nil)))
      (pss_cons (ps_expr (Lw.pe_cl (c_check_pairsB T cP) b_check_pairs hr (by decide) (by rfl) (passes_call (takes_of rfl rfl rfl rfl) (fun _ _ _ _ h => h)) (pa_cons (pv 1) pa_nil)))
      (pss_one Lw.ps_dead))), ?_⟩
    repeat fail "st"
    rcases h with ⟨hb, q⟩ | ⟨hb, tv, q⟩
    · exact ⟨v, n, hk, rfl, (fun z => by rw [hb] at z; cases z), fun _ => q⟩
    · refine ⟨v, n, hk, rfl, fun _ => ?_, (fun z => by rw [hb] at z; cases z)⟩
      repeat fail "st"
      exact .inr ⟨tv, q⟩
/-- keeps_apart, where one is not right -/
def spKeepX (C : Addr) : Sp := fun vs H _ E => ∃ t pre v post, vs = [.ref t] ∧ H t = some (.tup (pre ++ v :: post)) ∧ pre.length + post.length ≤ 1000 ∧ (∀ u ∈ pre, ∃ ps, Tab H u ps ∧ Good ps) ∧ Tv H v ∧ ∀ d H', Ex H H' → H' d = some (.xd [("value", v)]) → E (.ref C) (some d) H'
theorem c_keeps_apartX (T : Txt K mg) {C : Addr} (cP : ExcAt P w K mg base "InvalidPairs" C) : ClR P w K mg base (L2.CX P w) 7 "keeps_apart" (fun vs H Q E => vs.length ≤ sizeLine ∧ ∀ p, H p = none → spKeepX C [.ref p] (upd H p (.tup vs)) Q E) := by
  refine clR_star (pv := "tables") (k := 6) T.d_keeps_apart sc_keeps_apart StX.cxUp (fun _ _ _ _ _ _ us => match us with | [] => rfl | _ :: _ => rfl) (fun f cdv A outer s H vs Q E hr h => ?_)
  obtain ⟨t, pre, v, post, rfl, ht, hl, hg, tv, q⟩ := h
  have nd := sc_keeps_apart.nd
  refine ⟨_, (pss_cons (ps_for (passes_of rfl) rfl (pi_tup (pv 0)) (pg_name (i := 1) nd rfl (Or.inl rfl)) (pss_one (ps_expr (Lw.pe_cl (c_check_pairsB T cP) b_check_pairs hr (by decide) (by rfl) (passes_call (takes_of rfl rfl rfl rfl) (fun _ _ _ _ h => h)) (pa_cons (pv 1) pa_nil)))))
      (pss_one Lw.ps_dead)), ?_⟩
  repeat fail "st"
  refine for_tup (xs := pre ++ v :: post) (fun i σ H' => ∃ y, σ = [some (.ref t), y] ∧ Ex H H' ∧ i ≤ pre.length) ?_ ?_ ?_ ?_
  · exact ⟨_, rfl, Ex.refl _, Nat.zero_le _⟩
  · rintro i _ H' _ ⟨y, rfl, e, _⟩
    exact ex_t e (SqT.of ht)
  · rintro i x _ H' hx ⟨y, rfl, e, hi⟩
    by_cases c : i < pre.length
    · rw [List.getElem?_append_left c] at hx
      obtain ⟨ps, tb, gd⟩ := hg x (List.mem_of_getElem? hx)
      have tb' := tb.up e
      repeat fail "st"
      refine .inl ⟨ps, tb', gd, fun H2 e2 => ?_⟩
      repeat fail "st"
      exact ⟨e.trans e2, c⟩
    · obtain rfl : i = pre.length := by omega
      rw [List.getElem?_append_right (Nat.le_refl _), Nat.sub_self] at hx
      obtain rfl : v = x := Option.some.inj hx
      repeat fail "st"
      exact .inr ⟨tv.up e, fun d H2 e2 hd => q d H2 (e.trans e2) hd⟩
  · rintro _ H' ⟨y, rfl, e, hi⟩
    rw [List.length_append, List.length_cons] at hi
    omega
end

end K11
namespace K11
open PySem PySem.Spec PyProof.Rows L2 Evl Lw
section
theorem g_caught {X : Cx} (T : Txt X.K X.mg) {C A B D DN DR DC DP : Addr} {bc : Bool} (mA : X.mg "FormError" = some (.ref A)) (mB : X.mg "StateError" = some (.ref B)) (mD : X.mg "LimitError" = some (.ref D)) (hm : PySem.W.exmAny X.K (.ref C) [.ref A, .ref B, .ref D] = some true) (EX : ExcK X.K C)
    (m_InvalidNumber : X.mg "InvalidNumber" = some (.ref DN)) (m_InvalidRect : X.mg "InvalidRect" = some (.ref DR)) (m_InvalidColour : X.mg "InvalidColour" = some (.ref DC)) (m_InvalidPairs : X.mg "InvalidPairs" = some (.ref DP))
    (q0 : PySem.W.kitOne X.K (.ref C) (.ref A) = some true) (q1 : PySem.W.kitOne X.K (.ref C) (.type "ValueError") = some true) (q2 : PySem.W.kitOne X.K (.ref C) (.ref DN) = some false) (q3 : PySem.W.kitOne X.K (.ref C) (.ref DR) = some false)
    (q4 : PySem.W.kitOne X.K (.ref C) (.ref DC) = some bc) (q5 : PySem.W.kitOne X.K (.ref C) (.ref DP) = some (!bc))
    (no : PySem.W.findIn X.K (.ref C) "value" = some none) (gd : X.A.guards = some []) (hr0 : Room 1 X.A) (g : Addr) (cdg : Value) (qn : Str) :
    LamX.GivesTo X N_law_caught "_law_caught" (defScope s_law_caught) g cdg (defBody s_law_caught) "_law_call" qn (TCaught X.K C "value" (if bc = true then "colour" else "pairs")) := by
  intro f c' s H Q tl act hc h
  have nd := sc_law_caught.nd
  have hr := hr0.deeper (envOfC "_law_caught" (defScope s_law_caught) s.heap.objs.size g cdg)
  have m_FormError := mA
  refine ⟨_, (pss_cons (ps_set (i := 1) nd rfl (Or.inl rfl) pe_non)
      (pss_cons (Lw.ps_try_kept (tb := fun W D σ H => ∃ Ech : XK, (∀ cls d σ' H', Ech cls d H' → W cls d σ' H') ∧ σ[0]? = some (some (.ref f)) ∧ H c' = some (LamX.CodeO c' qn) ∧ tl Ech H (fun _ H' => [V.str "none", V.str ""].length ≤ sizeLine ∧ ∀ p, H' p = none → D.rt (.ref p) (upd H' p (.lst [.str "none", .str ""])))) rfl rfl nd (i := 2) rfl rfl (by rfl) mA (by rfl) mB (by rfl) mD (fun W pn xe tk => ?_) (fun a oe cls d pn => pss_one (ps_set (i := 1) nd rfl (Or.inl rfl) (pv 2))))
      (pss_cons (ps_if (PW.pt (pw_or (pt_not (pt_val (pe_callB ((Lw.call_isX EX)) (by rfl) T.b_isinstance bt_isinstance (pa_cons (pv 1) (pa_cons (pe_glob (v := .ref _) (by rfl) m_FormError rfl) pa_nil))))) (pw_or1 (pt_not (pt_val (pe_callB ((Lw.call_isX EX)) (by rfl) T.b_isinstance bt_isinstance (pa_cons (pv 1) (pa_cons (pe_bltn (v := .ty "ValueError") (by rfl) T.b_ValueError bt_ValueError rfl) pa_nil)))))))) (pss_one (ps_ret (pe_lst (pa_cons pe_str (pa_cons pe_str pa_nil))))) pss_nil)
      (pss_cons (ps_if (PW.pt (pw_or (pt_val (pe_callB ((Lw.call_isX EX)) (by rfl) T.b_isinstance bt_isinstance (pa_cons (pv 1) (pa_cons (pe_glob (v := .ref _) (by rfl) m_InvalidNumber rfl) pa_nil)))) (pw_or1 (pt_val (pe_callB ((Lw.call_isX EX)) (by rfl) T.b_isinstance bt_isinstance (pa_cons (pv 1) (pa_cons (pe_glob (v := .ref _) (by rfl) m_InvalidRect rfl) pa_nil))))))) (pss_one (ps_ret (pe_lst (pa_cons pe_str (pa_cons pe_str pa_nil))))) pss_nil)
      (pss_cons (ps_if (pt_cmpR op_eq (pe_callB ((Lw.call_isX EX)) (by rfl) T.b_isinstance bt_isinstance (pa_cons (pv 1) (pa_cons (pe_glob (v := .ref _) (by rfl) m_InvalidColour rfl) pa_nil))) (pe_callB ((Lw.call_isX EX)) (by rfl) T.b_isinstance bt_isinstance (pa_cons (pv 1) (pa_cons (pe_glob (v := .ref _) (by rfl) m_InvalidPairs rfl) pa_nil))) (nomark _)) (pss_one (ps_ret (pe_lst (pa_cons pe_str (pa_cons pe_str pa_nil))))) pss_nil)
      (pss_one (ps_ret (pe_lst (pa_cons (pe_ifExp (pt_val (pe_callB ((Lw.call_isX EX)) (by rfl) T.b_isinstance bt_isinstance (pa_cons (pv 1) (pa_cons (pe_glob (v := .ref _) (by rfl) m_InvalidColour rfl) pa_nil)))) pe_str pe_str) (pa_cons (pe_callB (Lw.call_reprD gd (Lw.u70 hr)) (by rfl) T.b_repr bt_repr (pa_cons (Lw.pe_xk EX no (pv 1)) pa_nil)) pa_nil)))))))))), ?_⟩
  · refine ⟨fun pins s' σ H' D I h' => ?_⟩
    obtain ⟨Ech, hW, h1, h2, h3⟩ := h'
    exact (pss_cons (ps_expr (act W pn xe Ech _ _ tk hW)) (pss_one (ps_ret (pe_lst (pa_cons pe_str (pa_cons pe_str pa_nil)))))).run pins s' σ H' D I ⟨h1, h2, h3⟩
  · show ∃ Ech : XK, _
    refine ⟨_, fun cls d σ' H' z => ?_, rfl, hc, h⟩
    obtain ⟨dt, ⟨dd, v, rfl, rfl, hdd, hv, hs⟩, q⟩ := z
    refine ⟨hm, fun a na len => ?_⟩
    obtain ⟨x0, x1, x2, rfl⟩ : ∃ x0 x1 x2, σ' = [x0, x1, x2] := by
      match σ', len with
      | [x0, x1, x2], _ => exact ⟨x0, x1, x2, rfl⟩
    repeat fail "st"
    intro _
    have xA := Ex.new (o := exc a (.ref C) (some dd)) na
    have hA : upd H' a (exc a (.ref C) (some dd)) a = some (exc a (.ref C) (some dd)) := upd_same
    generalize upd H' a (exc a (.ref C) (some dd)) = G at *
    have hdd' := xA _ _ hdd
    have hv' := hv.up xA
    repeat fail "st"
    refine ⟨a, dd, _, _, _, _, hA, hdd', rfl, fun u z => z, q0, ?_⟩
    repeat fail "st"
    refine ⟨a, dd, _, _, _, _, hA, hdd', rfl, fun u z => z, q1, ?_⟩
    repeat fail "st"
    refine ⟨a, dd, _, _, _, _, hA, hdd', rfl, fun u z => z, q2, ?_⟩
    repeat fail "st"
    refine ⟨a, dd, _, _, _, _, hA, hdd', rfl, fun u z => z, q3, ?_⟩
    repeat fail "st"
    refine ⟨a, dd, _, _, _, _, hA, hdd', rfl, fun u z => z, q4, ?_⟩
    repeat fail "st"
    refine ⟨a, dd, _, _, _, _, hA, hdd', rfl, fun u z => z, q5, ?_⟩
    repeat fail "st"
    refine ifD (fun z => by cases bc <;> cases z) (fun _ => ?_)
    repeat fail "st"
    refine ⟨a, dd, _, _, _, _, hA, hdd', rfl, fun u z => z, q4, ?_⟩
    cases bc with
    | true =>
      repeat fail "st"
      refine ⟨a, dd, _, _, rfl, hA, hdd', rfl, ?_⟩
      repeat fail "st"
      refine ⟨_, _, hv', hs, rfl, ?_⟩
      repeat fail "st"
      intro l n_l
      generalize hh : upd _ l _ = H_l
      have e_l := newEx hh n_l
      have h_l := newAt hh
      clear hh
      exact q l _ (xA.trans e_l) h_l
    | false =>
      repeat fail "st"
      refine ⟨a, dd, _, _, rfl, hA, hdd', rfl, ?_⟩
      repeat fail "st"
      refine ⟨_, _, hv', hs, rfl, ?_⟩
      repeat fail "st"
      intro l n_l
      generalize hh : upd _ l _ = H_l
      have e_l := newEx hh n_l
      have h_l := newAt hh
      clear hh
      exact q l _ (xA.trans e_l) h_l
theorem g_caughtC {X : Cx} (T : Txt X.K X.mg) {C : Addr} (mC : X.mg "InvalidColour" = some (.ref C)) (no : PySem.W.findIn X.K (.ref C) "value" = some none) (gd : X.A.guards = some []) (hr0 : Room 1 X.A) (g : Addr) (cdg : Value) (qn : Str) :
    LamX.GivesTo X N_law_caught "_law_caught" (defScope s_law_caught) g cdg (defBody s_law_caught) "_law_call" qn (TCaught X.K C "value" "colour") := by
  obtain ⟨C1, A, B, D, m0, mA, mB, mD, hm, EX⟩ := T.e_InvalidColour.ex
  rw [mC] at m0
  cases m0
  obtain ⟨C1, A1, m0, m1, q0⟩ := T.k_InvalidColour_FormError.ex
  rw [mC] at m0
  rw [mA] at m1
  cases m0
  cases m1
  obtain ⟨C1, DN, m0, mN, q2⟩ := T.k_InvalidColour_InvalidNumber.ex
  rw [mC] at m0
  cases m0
  obtain ⟨C1, DR, m0, mR, q3⟩ := T.k_InvalidColour_InvalidRect.ex
  rw [mC] at m0
  cases m0
  obtain ⟨C1, DC, m0, m1, q4⟩ := T.k_InvalidColour_InvalidColour.ex
  rw [mC] at m0 m1
  cases m0
  cases m1
  obtain ⟨C1, DP, m0, mP, q5⟩ := T.k_InvalidColour_InvalidPairs.ex
  rw [mC] at m0
  cases m0
  obtain ⟨C1, m0, q1⟩ := T.kt_InvalidColour_ValueError.ex
  rw [mC] at m0
  cases m0
  exact g_caught (bc := true) T mA mB mD hm EX mN mR mC mP q0 q1 q2 q3 q4 q5 no gd hr0 g cdg qn
theorem g_caughtP {X : Cx} (T : Txt X.K X.mg) {C : Addr} (mC : X.mg "InvalidPairs" = some (.ref C)) (no : PySem.W.findIn X.K (.ref C) "value" = some none) (gd : X.A.guards = some []) (hr0 : Room 1 X.A) (g : Addr) (cdg : Value) (qn : Str) :
    LamX.GivesTo X N_law_caught "_law_caught" (defScope s_law_caught) g cdg (defBody s_law_caught) "_law_call" qn (TCaught X.K C "value" "pairs") := by
  obtain ⟨C1, A, B, D, m0, mA, mB, mD, hm, EX⟩ := T.e_InvalidPairs.ex
  rw [mC] at m0
  cases m0
  obtain ⟨C1, A1, m0, m1, q0⟩ := T.k_InvalidPairs_FormError.ex
  rw [mC] at m0
  rw [mA] at m1
  cases m0
  cases m1
  obtain ⟨C1, DN, m0, mN, q2⟩ := T.k_InvalidPairs_InvalidNumber.ex
  rw [mC] at m0
  cases m0
  obtain ⟨C1, DR, m0, mR, q3⟩ := T.k_InvalidPairs_InvalidRect.ex
  rw [mC] at m0
  cases m0
  obtain ⟨C1, DC, m0, mK, q4⟩ := T.k_InvalidPairs_InvalidColour.ex
  rw [mC] at m0
  cases m0
  obtain ⟨C1, DP, m0, m1, q5⟩ := T.k_InvalidPairs_InvalidPairs.ex
  rw [mC] at m0 m1
  cases m0
  cases m1
  obtain ⟨C1, m0, q1⟩ := T.kt_InvalidPairs_ValueError.ex
  rw [mC] at m0
  cases m0
  exact g_caught (bc := false) T mA mB mD hm EX mN mR mK mC q0 q1 q2 q3 q4 q5 no gd hr0 g cdg qn
end

end K11
namespace K11
open PySem PySem.Spec PyProof.Rows L2 Evl Lw
section
variable {P : Program} {w : World} {K : PySem.W.Frag} {mg : Str → Option Value} {base : Heap}
/-- a row that is no pair, and its data -/
def BadRow (K : PySem.W.Frag) (H : Hp) (v : V) : Prop := Pv H v false ∧ ∃ d, It K H v d
theorem paired_all {H : Hp} : ∀ {vs : List V}, (∀ v ∈ vs, ∃ d, It K H v d) → ∃ ds, Paired (It K H) vs ds
  | [], _ => ⟨[], .nil⟩
  | v :: vs, h => by
    obtain ⟨d, i⟩ := h v List.mem_cons_self
    obtain ⟨ds, p⟩ := paired_all (vs := vs) fun u m => h u (List.mem_cons_of_mem _ m)
    exact ⟨d :: ds, .cons i p⟩
theorem it_t {H : Hp} {a : Addr} {vs : List V} {ds : List PyData} (h : H a = some (.tup vs)) (p : Paired Atm vs ds) (l : ds.length ≤ 10) : It K H (.ref a) (.tuple ds) := .tup (SqT.of h) (atms_dp p) l fun d m => by
  obtain ⟨i, hi⟩ := List.mem_iff_getElem?.mp m
  obtain ⟨v, _, q⟩ := L2.DX.pget p hi
  exact q.nice
theorem it_l {H : Hp} {a : Addr} {vs : List V} {ds : List PyData} (h : H a = some (.lst vs)) (p : Paired Atm vs ds) (l : ds.length ≤ 10) : It K H (.ref a) (.list ds) := .lst (SqL.of h) (atms_dp p) l fun d m => by
  obtain ⟨i, hi⟩ := List.mem_iff_getElem?.mp m
  obtain ⟨v, _, q⟩ := L2.DX.pget p hi
  exact q.nice
theorem pv_t {H : Hp} {a : Addr} {vs : List V} {ds : List PyData} (h : H a = some (.tup vs)) (p : Paired Atm vs ds) (r : pairL vs = false) : Pv H (.ref a) false := by
  have := Pv.tup h (atms_kd p)
  rwa [r] at this
theorem pvs_int {H : Hp} {vs : List V} {ds : List PyData} (p : Paired Atm vs ds) : ∀ x ∈ vs, ∃ t, Pv H x t := by
  induction p with
  | nil => intro x m; cases m
  | cons h t ih =>
    intro x m
    rcases List.mem_cons.mp m with rfl | m
    · obtain ⟨n, k, ne⟩ := h.kd (H := H)
      exact ⟨false, .other k ne⟩
    · exact ih x m
def spBadT : Sp := fun vs H Q _ => ∃ p g qs ps, vs = [.ref p, .ref g] ∧ Pool H p ∧ Tl H g (qs.map V.ref) ∧ Rows H qs ps ∧ ps.length ≤ 10 ∧ (∀ r ∈ ps, Col r.1 ∧ Col r.2) ∧ ∀ v H', Ex H H' → Bad K H' v → Q v H'
theorem c_law_bad_table (T : Txt K mg) : Cl P w K mg base CX0 2 "_law_bad_table" s_law_bad_table ["_law_pool_here", "_law_good"] (spBadT (K := K)) := by
  refine cl_of (k := 1) T.d_law_bad_table sc_law_bad_table (fun vs H Q E h => ?_) (fun f cdv A outer s H vs Q E hr h => ?_)
  · obtain ⟨p, g, qs, ps, rfl, _⟩ := h
    rfl
  · obtain ⟨p, g, qs, ps, rfl, hp, hg, rows, lps, cols, q⟩ := h
    have nd := sc_law_bad_table.nd
    refine ⟨_, (pss_cons (ps_set (i := 2) nd rfl (Or.inl rfl) (pe_lst (pa_cons pe_non (pa_cons pe_int (pa_cons pe_str (pa_cons (pe_lst pa_nil) (pa_cons (pe_lst (pa_cons (pe_tup (pa_cons pe_int (pa_cons pe_int pa_nil))) pa_nil)) (pa_cons pe_dnewK (pa_cons (pe_disp (pps_cons pe_int pe_int pps_nil) rfl rfl (by intro z; cases z) (by decide)) (pa_cons (pe_tup (pa_cons pe_int (pa_cons pe_int pa_nil))) (pa_cons (pe_tup (pa_cons (pe_tup (pa_cons pe_int (pa_cons pe_int pa_nil))) (pa_cons (pe_tup (pa_cons pe_int (pa_cons pe_int pa_nil))) pa_nil))) (pa_cons (pe_tup (pa_cons (pe_tup (pa_cons pe_int (pa_cons pe_int pa_nil))) (pa_cons (pe_tup (pa_cons pe_int (pa_cons pe_int pa_nil))) pa_nil))) (pa_cons (pe_tup (pa_cons (pe_tup (pa_cons pe_int (pa_cons pe_int (pa_cons pe_int pa_nil)))) pa_nil)) (pa_cons (pe_tup (pa_cons pe_str pa_nil)) pa_nil))))))))))))))
      (pss_cons (ps_set (i := 3) nd rfl (Or.inl rfl) (pe_lst (pa_cons (pe_tup (pa_cons pe_int pa_nil)) (pa_cons (pe_tup (pa_cons pe_int (pa_cons pe_non pa_nil))) (pa_cons (pe_tup (pa_cons pe_bl (pa_cons pe_int pa_nil))) (pa_cons (pe_tup (pa_cons pe_int (pa_cons pe_bl pa_nil))) (pa_cons (pe_tup (pa_cons pe_int (pa_cons (pe_op op_add (pe_op op_pow pe_int pe_int) pe_int) pa_nil))) (pa_cons (pe_tup (pa_cons (pe_un un_neg pe_int) (pa_cons pe_int pa_nil))) (pa_cons (pe_lst (pa_cons pe_str (pa_cons pe_int pa_nil))) (pa_cons (pe_tup (pa_cons pe_int (pa_cons pe_str pa_nil))) (pa_cons (pe_lst (pa_cons pe_int (pa_cons pe_int pa_nil))) (pa_cons pe_non (pa_cons pe_int pa_nil)))))))))))))
      (pss_cons (ps_if (pt_cmpR op_eq (Lw.pe_cl (c_law_draw T) b_law_draw hr (by decide) (by rfl) pass0 (pa_cons (pv 0) (pa_cons pe_int pa_nil))) pe_int (nomark _)) (pss_one (ps_ret (pe_ix ix_seq (pv 2) (Lw.pe_cl (c_law_draw T) b_law_draw hr (by decide) (by rfl) pass0 (pa_cons (pv 0) (pa_cons pe_int pa_nil))) (fun _ _ => rfl)))) pss_nil)
      (pss_cons (ps_set (i := 4) nd rfl (Or.inl rfl) (Lw.pe_cl (c_law_draw T) b_law_draw hr (by decide) (by rfl) pass0 (pa_cons (pv 0) (pa_cons (pe_op op_add (pe_callB (call_len) (by rfl) T.b_len bt_len (pa_cons (pv 1) pa_nil)) pe_int) pa_nil))))
      (pss_one (ps_ret (pe_op op_catA (pe_op op_catA (pe_slice sl_tupA (pv 1) po_none (po_some (pv 4))) (pe_tup (pa_cons (pe_ix ix_seq (pv 3) (Lw.pe_cl (c_law_draw T) b_law_draw hr (by decide) (by rfl) pass0 (pa_cons (pv 0) (pa_cons pe_int pa_nil))) (fun _ _ => rfl)) pa_nil))) (pe_slice sl_tupA (pv 1) (po_some (pv 4)) po_none)))))))), ?_⟩
    repeat fail "st"
    intro l0 n_l0
    generalize hh : upd _ l0 _ = H_l0
    have e_l0 := newEx hh n_l0
    have h_l0 := newAt hh
    clear hh
    repeat fail "st"
    intro t1 n_t1
    generalize hh : upd _ t1 _ = H_t1
    have e_t1 := newEx hh n_t1
    have h_t1 := newAt hh
    clear hh
    repeat fail "st"
    intro l1 n_l1
    generalize hh : upd _ l1 _ = H_l1
    have e_l1 := newEx hh n_l1
    have h_l1 := newAt hh
    clear hh
    repeat fail "st"
    intro d0 n_d0
    generalize hh : upd _ d0 _ = H_d0
    have e_d0 := newEx hh n_d0
    have h_d0 := newAt hh
    clear hh
    repeat fail "st"
    intro d1 n_d1
    generalize hh : upd _ d1 _ = H_d1
    have e_d1 := newEx hh n_d1
    have h_d1 := newAt hh
    clear hh
    repeat fail "st"
    dsimp only [tPairs, tC]
    refine ⟨h_d1, [(.inl 1, .int 2)], rfl, by decide, ?_⟩
    generalize hh : upd H_d1 d1 _ = H_dz
    have e_dz := (by rw [← hh]; exact Ex.mut e_d1 n_d1 : Ex H_d0 H_dz)
    have h_dz : H_dz d1 = some (.dK (kvI [(1, 2)])) := by rw [← hh]; exact upd_same
    clear hh e_d1 h_d1
    have e_d1 := e_dz
    have h_d1 := h_dz
    clear e_dz h_dz
    repeat fail "st"
    intro t2 n_t2
    generalize hh : upd _ t2 _ = H_t2
    have e_t2 := newEx hh n_t2
    have h_t2 := newAt hh
    clear hh
    repeat fail "st"
    intro t3 n_t3
    generalize hh : upd _ t3 _ = H_t3
    have e_t3 := newEx hh n_t3
    have h_t3 := newAt hh
    clear hh
    repeat fail "st"
    intro t4 n_t4
    generalize hh : upd _ t4 _ = H_t4
    have e_t4 := newEx hh n_t4
    have h_t4 := newAt hh
    clear hh
    repeat fail "st"
    intro t5 n_t5
    generalize hh : upd _ t5 _ = H_t5
    have e_t5 := newEx hh n_t5
    have h_t5 := newAt hh
    clear hh
    repeat fail "st"
    intro t6 n_t6
    generalize hh : upd _ t6 _ = H_t6
    have e_t6 := newEx hh n_t6
    have h_t6 := newAt hh
    clear hh
    repeat fail "st"
    intro t7 n_t7
    generalize hh : upd _ t7 _ = H_t7
    have e_t7 := newEx hh n_t7
    have h_t7 := newAt hh
    clear hh
    repeat fail "st"
    intro t8 n_t8
    generalize hh : upd _ t8 _ = H_t8
    have e_t8 := newEx hh n_t8
    have h_t8 := newAt hh
    clear hh
    repeat fail "st"
    intro t9 n_t9
    generalize hh : upd _ t9 _ = H_t9
    have e_t9 := newEx hh n_t9
    have h_t9 := newAt hh
    clear hh
    repeat fail "st"
    intro t10 n_t10
    generalize hh : upd _ t10 _ = H_t10
    have e_t10 := newEx hh n_t10
    have h_t10 := newAt hh
    clear hh
    repeat fail "st"
    intro t11 n_t11
    generalize hh : upd _ t11 _ = H_t11
    have e_t11 := newEx hh n_t11
    have h_t11 := newAt hh
    clear hh
    repeat fail "st"
    intro o1 n_o1
    generalize hh : upd _ o1 _ = H_o1
    have e_o1 := newEx hh n_o1
    have h_o1 := newAt hh
    clear hh
    repeat fail "st"
    intro r1 n_r1
    generalize hh : upd _ r1 _ = H_r1
    have e_r1 := newEx hh n_r1
    have h_r1 := newAt hh
    clear hh
    repeat fail "st"
    intro r2 n_r2
    generalize hh : upd _ r2 _ = H_r2
    have e_r2 := newEx hh n_r2
    have h_r2 := newAt hh
    clear hh
    repeat fail "st"
    intro r3 n_r3
    generalize hh : upd _ r3 _ = H_r3
    have e_r3 := newEx hh n_r3
    have h_r3 := newAt hh
    clear hh
    repeat fail "st"
    intro r4 n_r4
    generalize hh : upd _ r4 _ = H_r4
    have e_r4 := newEx hh n_r4
    have h_r4 := newAt hh
    clear hh
    repeat fail "st"
    intro r5 n_r5
    generalize hh : upd _ r5 _ = H_r5
    have e_r5 := newEx hh n_r5
    have h_r5 := newAt hh
    clear hh
    repeat fail "st"
    intro r6 n_r6
    generalize hh : upd _ r6 _ = H_r6
    have e_r6 := newEx hh n_r6
    have h_r6 := newAt hh
    clear hh
    repeat fail "st"
    intro r7 n_r7
    generalize hh : upd _ r7 _ = H_r7
    have e_r7 := newEx hh n_r7
    have h_r7 := newAt hh
    clear hh
    repeat fail "st"
    intro r8 n_r8
    generalize hh : upd _ r8 _ = H_r8
    have e_r8 := newEx hh n_r8
    have h_r8 := newAt hh
    clear hh
    repeat fail "st"
    intro r9 n_r9
    generalize hh : upd _ r9 _ = H_r9
    have e_r9 := newEx hh n_r9
    have h_r9 := newAt hh
    clear hh
    repeat fail "st"
    intro o2 n_o2
    generalize hh : upd _ o2 _ = H_o2
    have e_o2 := newEx hh n_o2
    have h_o2 := newAt hh
    clear hh
    repeat fail "st"
    have x_r9 := e_o2
    have x_r8 := e_r9.trans x_r9
    have x_r7 := e_r8.trans x_r8
    have x_r6 := e_r7.trans x_r7
    have x_r5 := e_r6.trans x_r6
    have x_r4 := e_r5.trans x_r5
    have x_r3 := e_r4.trans x_r4
    have x_r2 := e_r3.trans x_r3
    have x_r1 := e_r2.trans x_r2
    have x_o1 := e_r1.trans x_r1
    have x_t11 := e_o1.trans x_o1
    have x_t10 := e_t11.trans x_t11
    have x_t9 := e_t10.trans x_t10
    have x_t8 := e_t9.trans x_t9
    have x_t7 := e_t8.trans x_t8
    have x_t6 := e_t7.trans x_t7
    have x_t5 := e_t6.trans x_t6
    have x_t4 := e_t5.trans x_t5
    have x_t3 := e_t4.trans x_t4
    have x_t2 := e_t3.trans x_t3
    have x_d1 := e_t2.trans x_t2
    have x_d0 := e_d1.trans x_d1
    have x_l1 := e_d0.trans x_d0
    have x_t1 := e_l1.trans x_l1
    have x_l0 := e_t1.trans x_t1
    have g_l0 : H_o2 l0 = some (.lst []) := x_l0 _ _ h_l0
    have g_t1 : H_o2 t1 = some (.tup [.int 1, .int 2]) := x_t1 _ _ h_t1
    have g_l1 : H_o2 l1 = some (.lst [.ref t1]) := x_l1 _ _ h_l1
    have g_d0 : H_o2 d0 = some (.dK []) := x_d0 _ _ h_d0
    have g_d1 : H_o2 d1 = some (.dK (kvI [(1, 2)])) := x_d1 _ _ h_d1
    have g_t2 : H_o2 t2 = some (.tup [.int 1, .int 2]) := x_t2 _ _ h_t2
    have g_t3 : H_o2 t3 = some (.tup [.int 1, .int 2]) := x_t3 _ _ h_t3
    have g_t4 : H_o2 t4 = some (.tup [.int 1, .int 3]) := x_t4 _ _ h_t4
    have g_t5 : H_o2 t5 = some (.tup [.ref t3, .ref t4]) := x_t5 _ _ h_t5
    have g_t6 : H_o2 t6 = some (.tup [.int 2, .int 1]) := x_t6 _ _ h_t6
    have g_t7 : H_o2 t7 = some (.tup [.int 1, .int 2]) := x_t7 _ _ h_t7
    have g_t8 : H_o2 t8 = some (.tup [.ref t6, .ref t7]) := x_t8 _ _ h_t8
    have g_t9 : H_o2 t9 = some (.tup [.int 1, .int 2, .int 3]) := x_t9 _ _ h_t9
    have g_t10 : H_o2 t10 = some (.tup [.ref t9]) := x_t10 _ _ h_t10
    have g_t11 : H_o2 t11 = some (.tup [.str "12"]) := x_t11 _ _ h_t11
    have g_o1 : H_o2 o1 = some (.lst [V.non, .int 0, .str "", .ref l0, .ref l1, .ref d0, .ref d1, .ref t2, .ref t5, .ref t8, .ref t10, .ref t11]) := x_o1 _ _ h_o1
    have g_r1 : H_o2 r1 = some (.tup [.int 1]) := x_r1 _ _ h_r1
    have g_r2 : H_o2 r2 = some (.tup [.int 1, .non]) := x_r2 _ _ h_r2
    have g_r3 : H_o2 r3 = some (.tup [.bl true, .int 2]) := x_r3 _ _ h_r3
    have g_r4 : H_o2 r4 = some (.tup [.int 1, .bl false]) := x_r4 _ _ h_r4
    have g_r5 : H_o2 r5 = some (.tup [.int 1, .int 1000000001]) := x_r5 _ _ h_r5
    have g_r6 : H_o2 r6 = some (.tup [.int (-1), .int 1]) := x_r6 _ _ h_r6
    have g_r7 : H_o2 r7 = some (.lst [.str "1", .int 2]) := x_r7 _ _ h_r7
    have g_r8 : H_o2 r8 = some (.tup [.int 1, .str "0"]) := x_r8 _ _ h_r8
    have g_r9 : H_o2 r9 = some (.lst [.int 7, .int 8]) := x_r9 _ _ h_r9
    replace h_o2 : H_o2 o2 = some (.lst [.ref r1, .ref r2, .ref r3, .ref r4, .ref r5, .ref r6, .ref r7, .ref r8, .ref r9, .non, .int 9]) := h_o2
    have eA := e_l0.trans x_l0
    clear x_l0 e_l0 h_l0 x_t1 e_t1 h_t1 x_l1 e_l1 h_l1 x_d0 e_d0 h_d0 x_d1 e_d1 h_d1 x_t2 e_t2 h_t2 x_t3 e_t3 h_t3 x_t4 e_t4 h_t4 x_t5 e_t5 h_t5 x_t6 e_t6 h_t6 x_t7 e_t7 h_t7 x_t8 e_t8 h_t8 x_t9 e_t9 h_t9 x_t10 e_t10 h_t10 x_t11 e_t11 h_t11 x_o1 e_o1 h_o1 x_r1 e_r1 h_r1 x_r2 e_r2 h_r2 x_r3 e_r3 h_r3 x_r4 e_r4 h_r4 x_r5 e_r5 h_r5 x_r6 e_r6 h_r6 x_r7 e_r7 h_r7 x_r8 e_r8 h_r8 x_r9 e_r9 h_r9 e_o2
    clear n_l0 n_t1 n_l1 n_d0 n_d1 n_t2 n_t3 n_t4 n_t5 n_t6 n_t7 n_t8 n_t9 n_t10 n_t11 n_o1 n_r1 n_r2 n_r3 n_r4 n_r5 n_r6 n_r7 n_r8 n_r9 n_o2
    have i1 : Atm (.int 1) (.int 1) := atm_small (by decide) (by decide)
    have i2 : Atm (.int 2) (.int 2) := atm_small (by decide) (by decide)
    have i3 : Atm (.int 3) (.int 3) := atm_small (by decide) (by decide)
    have it12 : ∀ {a : Addr}, H_o2 a = some (.tup [.int 1, .int 2]) → It K H_o2 (.ref a) (.tuple [.int 1, .int 2]) := fun h => it_t h (.cons i1 (.cons i2 .nil)) (by decide)
    have nice1 : ∀ s : Str, PyData.strOk s = true → (reprText s).length ≤ 2000 → PyData.strOk (reprText s) = true → Nice 2000 0 (.str s) := fun s h1 h2 h3 => ⟨rfl, h2, h3, by rw [PyData.canLay0]; exact h1, by simp [PyData.depth]⟩
    have str12 : Nice 2000 0 (.str "12") := nice1 _ (by decide +kernel) (by decide +kernel) (by decide +kernel)
    have str1 : Nice 2000 0 (.str "1") := nice1 _ (by decide +kernel) (by decide +kernel) (by decide +kernel)
    have str0 : Nice 2000 0 (.str "0") := nice1 _ (by decide +kernel) (by decide +kernel) (by decide +kernel)
    have odd : ∀ v ∈ [V.non, .int 0, .str "", .ref l0, .ref l1, .ref d0, .ref d1, .ref t2, .ref t5, .ref t8, .ref t10, .ref t11], Bad K H_o2 v := by
      simp only [List.forall_mem_cons]
      refine ⟨⟨.other .non (by decide), Atm.non.dsp⟩, ⟨.other (.int 0) (by decide), (atm_small (by decide) (by decide)).dsp⟩, ⟨.other (.str _) (by decide), Atm.emp.dsp⟩, ⟨.other (.lst g_l0) (by decide), dsp_l (SqL.of g_l0) .nil (by decide)⟩,
        ⟨.other (.lst g_l1) (by decide), its_dsp_l (SqL.of g_l1) (.cons (it12 g_t1) .nil) (Nat.le_of_ble_eq_true rfl)⟩, ⟨.other (.dK g_d0) (by decide), dsp_d g_d0⟩, ⟨.other (.dK g_d1) (by decide), _, .kv g_d1, rfl, by decide +kernel, by decide +kernel⟩,
        ⟨.bad (.inl g_t2) (by decide) (pvs_int (.cons i1 (.cons i2 .nil))) (.int 1) (by simp) (.other (.int 1) (by decide)), dsp_t (SqT.of g_t2) (.cons i1 (.cons i2 .nil)) (by decide)⟩,
        ⟨.desc (x := (1, 2)) (y := (1, 3)) g_t5 g_t3 g_t4 ⟨by decide, by decide⟩ ⟨by decide, by decide⟩ ⟨by decide, by decide⟩ ⟨by decide, by decide⟩ (by decide), its_dsp_t (SqT.of g_t5) (.cons (it12 g_t3) (.cons (it_t g_t4 (.cons i1 (.cons i3 .nil)) (by decide)) .nil)) (Nat.le_of_ble_eq_true rfl)⟩,
        ⟨.desc (x := (2, 1)) (y := (1, 2)) g_t8 g_t6 g_t7 ⟨by decide, by decide⟩ ⟨by decide, by decide⟩ ⟨by decide, by decide⟩ ⟨by decide, by decide⟩ (by decide), its_dsp_t (SqT.of g_t8) (.cons (it_t g_t6 (.cons i2 (.cons i1 .nil)) (by decide)) (.cons (it12 g_t7) .nil)) (Nat.le_of_ble_eq_true rfl)⟩,
        ⟨.bad (.inl g_t10) (Nat.le_of_ble_eq_true rfl) (fun x m => ?_) (.ref t9) (by simp) (pv_t g_t9 (.cons i1 (.cons i2 (.cons i3 .nil))) rfl), its_dsp_t (SqT.of g_t10) (.cons (it_t g_t9 (.cons i1 (.cons i2 (.cons i3 .nil))) (by decide)) .nil) (Nat.le_of_ble_eq_true rfl)⟩,
        ⟨.bad (.inl g_t11) (by decide) (fun x m => ?_) (.str "12") (by simp) (.other (.str _) (by decide)), its_dsp_t (SqT.of g_t11) (.cons (.str _ str12) .nil) (by decide)⟩, by simp⟩
      · obtain rfl : x = .ref t9 := by simpa using m
        exact ⟨_, pv_t g_t9 (.cons i1 (.cons i2 (.cons i3 .nil))) rfl⟩
      · obtain rfl : x = .str "12" := by simpa using m
        exact ⟨_, .other (.str _) (by decide)⟩
    have bad : ∀ v ∈ [V.ref r1, .ref r2, .ref r3, .ref r4, .ref r5, .ref r6, .ref r7, .ref r8, .ref r9, .non, .int 9], BadRow K H_o2 v := by
      simp only [List.forall_mem_cons]
      refine ⟨⟨pv_t g_r1 (.cons i1 .nil) rfl, _, it_t g_r1 (.cons i1 .nil) (by decide)⟩, ⟨pv_t g_r2 (.cons i1 (.cons .non .nil)) (by decide), _, it_t g_r2 (.cons i1 (.cons .non .nil)) (by decide)⟩, ⟨pv_t g_r3 (.cons (.bl true) (.cons i2 .nil)) (by decide), _, it_t g_r3 (.cons (.bl true) (.cons i2 .nil)) (by decide)⟩,
        ⟨pv_t g_r4 (.cons i1 (.cons (.bl false) .nil)) (by decide), _, it_t g_r4 (.cons i1 (.cons (.bl false) .nil)) (by decide)⟩, ⟨pv_t g_r5 (.cons i1 (.cons (atm_small (by decide) (by decide)) .nil)) (by decide), _, it_t g_r5 (.cons i1 (.cons (atm_small (by decide) (by decide)) .nil)) (by decide)⟩,
        ⟨pv_t g_r6 (.cons (atm_small (by decide) (by decide)) (.cons i1 .nil)) (by decide), _, it_t g_r6 (.cons (atm_small (by decide) (by decide)) (.cons i1 .nil)) (by decide)⟩, ⟨.other (.lst g_r7) (by decide), _, .lst (SqL.of g_r7) (.cons (.str _) (.cons (.int _) .nil)) (by decide) (fun d m => ?_)⟩,
        ⟨?_, _, .tup (SqT.of g_r8) (.cons (.int _) (.cons (.str _) .nil)) (by decide) (fun d m => ?_)⟩, ⟨.other (.lst g_r9) (by decide), _, it_l g_r9 (.cons (atm_small (by decide) (by decide)) (.cons (atm_small (by decide) (by decide)) .nil)) (by decide)⟩, ⟨.other .non (by decide), _, .atm .non⟩, ⟨.other (.int 9) (by decide), _, .atm (atm_small (by decide) (by decide))⟩, by simp⟩
      · simp only [List.mem_cons, List.not_mem_nil, or_false] at m
        rcases m with rfl | rfl
        · exact str1
        · exact i2.nice
      · have pv0 := Pv.tup g_r8 (fun x m => by
          simp only [List.mem_cons, List.not_mem_nil, or_false] at m
          rcases m with rfl | rfl
          · exact ⟨_, .int _⟩
          · exact ⟨_, .str _⟩)
        rw [show pairL [V.int 1, .str "0"] = false by decide] at pv0
        exact pv0
      · simp only [List.mem_cons, List.not_mem_nil, or_false] at m
        rcases m with rfl | rfl
        · exact i1.nice
        · exact str0
    clear g_l0 g_t1 g_l1 g_d0 g_d1 g_t2 g_t3 g_t4 g_t5 g_t6 g_t7 g_t8 g_t9 g_t10 g_t11 g_r1 g_r2 g_r3 g_r4 g_r5 g_r6 g_r7 g_r8 g_r9 it12 i3 str12 str1 str0 nice1
    have hp1 := hp.up eA
    have hg1 := hg.up eA
    have rows1 := rows.up eA
    clear hp hg rows
    have lq := rows1.len
    have hsq : SqT K H_o2 g (qs.map V.ref) := hg1.sq
    have hlen : (qs.map V.ref).length ≤ 10 := by rw [List.length_map, lq]; exact lps
    repeat fail "st"
    intro c2 Hc ec c0 c1
    have hp2 := hp1.up ec
    have go1 := ec _ _ g_o1
    have hsq2 : SqT K Hc g (qs.map V.ref) := (hg1.up ec).sq
    repeat fail "st"
    refine ifD (fun hz => ?_) (fun hz => ?_)
    · repeat fail "st"
      intro c3 Hc3 ec3 c30 c31
      have go2 := ec3 _ _ go1
      repeat fail "st"
      refine ix_in (.inl (SqL.of go2)) c30 (by show c3 < ((12 : Nat) : Int); omega) fun v mv => ?_
      exact q v _ (eA.trans (ec.trans ec3)) ((odd v mv).up (ec.trans ec3))
    · repeat fail "st"
      intro at0 Ha ea a0 a1
      have tg := (hg1.up ec).up ea
      clear hsq hsq2
      have gr2 := ea _ _ (ec _ _ h_o2)
      have hp3 := hp2.up ea
      repeat fail "st"
      refine slTl tg fun p1 H1 e1 t1 => ?_
      have gr3 := e1 _ _ gr2
      have hp4 := hp3.up e1
      repeat fail "st"
      intro c5 Hc5 ec5 c50 c51
      have gr4 := ec5 _ _ gr3
      repeat fail "st"
      refine ix_in (.inl (SqL.of gr4)) c50 (by show c5 < ((11 : Nat) : Int); omega) fun row mrow => ?_
      repeat fail "st"
      intro rt n_rt
      generalize hh : upd _ rt _ = H_rt
      have e_rt := newEx hh n_rt
      have h_rt := newAt hh
      clear hh
      have t1' := (t1.up ec5).up e_rt
      repeat fail "st"
      have lc1 : (cutV (qs.map V.ref) none (some at0)).length ≤ 10 := Nat.le_trans (cutV_length _ _ _) hlen
      have lc2 : (cutV (qs.map V.ref) (some at0) none).length ≤ 10 := Nat.le_trans (cutV_length _ _ _) hlen
      refine catTl t1' (.inl h_rt) (by show _ + 1 ≤ 1000; omega) fun p2 H2 e2 t2 => ?_
      have tg2 := ((((tg.up e1).up ec5).up e_rt).up e2)
      repeat fail "st"
      dsimp only [tNoPart]
      refine slTl tg2 fun p3 H3 e3 t3 => ?_
      refine catTl (t2.up e3) t3 (by rw [List.length_append]; show _ + 1 + _ ≤ 1000; omega) fun p4 H4 e4 t4 => ?_
      have eB : Ex H_o2 H4 := ec.trans (ea.trans (e1.trans (ec5.trans (e_rt.trans (e2.trans (e3.trans e4))))))
      obtain ⟨pr, dr, ir⟩ := bad row mrow
      have pr4 := pr.upN (ExtN.ex eB)
      have ir4 := ir.upN (ExtN.ex eB)
      have good : ∀ x ∈ qs.map V.ref, (∃ t, Pv H4 x t) ∧ ∃ d, It K H4 x d := fun x m => by
        obtain ⟨i, hi⟩ := List.mem_iff_getElem?.mp m
        obtain ⟨r, pp, rfl, _, hpp, rp⟩ := rows_at' (rows1.up eB) hi
        have hr4 : H4 r = some (.tup [.int pp.1, .int pp.2]) := rp
        obtain ⟨⟨a1, a2⟩, a3, a4⟩ := cols pp (List.mem_of_getElem? hpp)
        have A1 : Atm (.int pp.1) (.int pp.1) := atm_small (by omega) (by omega)
        have A2 : Atm (.int pp.2) (.int pp.2) := atm_small (by omega) (by omega)
        exact ⟨⟨_, .tup hr4 (atms_kd (.cons A1 (.cons A2 .nil)))⟩, _, it_t hr4 (.cons A1 (.cons A2 .nil)) (Nat.le_of_ble_eq_true rfl)⟩
      have all : ∀ x ∈ (cutV (qs.map V.ref) none (some at0) ++ [row]) ++ cutV (qs.map V.ref) (some at0) none, (∃ t, Pv H4 x t) ∧ ∃ d, It K H4 x d := fun x m => by
        rcases List.mem_append.mp m with m | m
        · rcases List.mem_append.mp m with m | m
          · exact good x (mem_cut m)
          · obtain rfl : x = row := by simpa using m
            exact ⟨⟨_, pr4⟩, _, ir4⟩
        · exact good x (mem_cut m)
      have ll : ((cutV (qs.map V.ref) none (some at0) ++ [row]) ++ cutV (qs.map V.ref) (some at0) none).length ≤ 100 := by
        rw [List.length_append, List.length_append]
        show _ + 1 + _ ≤ 100
        omega
      obtain ⟨ds, pds⟩ := paired_all (K := K) (H := H4) fun v m => (all v m).2
      exact q _ _ (eA.trans eB) ⟨.bad t4 (by omega) (fun x m => (all x m).1) row (by simp) pr4, its_dsp_t t4.sq pds ll⟩
end

end K11
namespace K11
open PySem PySem.Spec PyProof.Rows L2 Evl Lw
section
variable {P : Program} {w : World} {K : PySem.W.Frag} {mg : Str → Option Value} {base : Heap}
abbrev lamQ : Str := (envOfC "_law_right" (defScope s_law_right) 0 0 .none).qual ++ "<lambda>"
theorem tabN {H H' : Hp} {v : V} {ps : Tb} (e : LamX.ExtN H H') (t : Tab H v ps) : Tab H' v ps := by
  obtain ⟨a, qs, rfl, ⟨o, h1, h2⟩, r⟩ := t
  refine ⟨a, qs, rfl, ⟨o, h1, e _ _ h2 fun ps z => by cases z⟩, ?_⟩
  clear h1 h2
  induction r with
  | nil => exact .nil
  | cons h t ih => exact .cons (e _ _ h fun ps z => by cases z) ih
theorem ex_free {H H' : Hp} {a : Addr} (e : Ex H H') (n : H' a = none) : H a = none := by
  cases h : H a with
  | none => rfl
  | some o =>
    have := e a o h
    rw [n] at this
    cases this
theorem row_mut {H : Hp} {a b : Addr} {t s : Str} {xs ys : List V} (h : H b = some (.lst [.str t, .str s])) (ha : H a = some (.lst xs)) (n : xs ≠ [.str t, .str s]) : upd H a (.lst ys) b = some (.lst [.str t, .str s]) := by
  rw [upd_ne (fun z => by rw [z, ha] at h; cases h; exact n rfl)]
  exact h
theorem repN {H : Hp} {l : Addr} {x : V} {n : Nat} {Q : VK} (h : H l = some (.lst [x])) (h1 : 1 ≤ n) (hn : n ≤ 1000) (q : ∀ p, H p = none → Q (.ref p) (upd H p (.lst (List.replicate n x)))) : rRep (.ref l) (.int n) H Q := by
  refine ⟨l, n, [x], rfl, rfl, h, by omega, by omega, ?_, fun p np => ?_⟩
  · exact Nat.le_trans (by show 1 * n ≤ 100000; omega) line_ge
  · have e : (List.replicate (n : Int).toNat [x]).flatten = List.replicate n x := by
      rw [Int.toNat_natCast]
      exact List.flatten_replicate_singleton
    first
      | (rw [e]; exact q p np)
      | exact q p np
/-- rows that ascend by tens -/
theorem rows_tens {H : Hp} : ∀ {ys : List V} {k : Nat}, (∀ (i : Nat) y, ys[i]? = some y → ∃ q p, y = .ref q ∧ RowAt H q p ∧ (10 * ((k + i : Nat) : Int) ≤ p.1 ∧ p.1 < 10 * ((k + i : Nat) : Int) + 9) ∧ 0 ≤ p.2 ∧ p.2 < 99) →
    ∃ (qs : List Addr) (ps : Tb), ys = qs.map V.ref ∧ Rows H qs ps ∧ ps.length = ys.length ∧ (∀ p ∈ ps, 10 * (k : Int) ≤ p.1 ∧ p.1 < 10 * ((k + ps.length : Nat) : Int) ∧ 0 ≤ p.2 ∧ p.2 < 99) ∧ ps.Pairwise fun p q => p.1 < q.1
  | [], _, _ => ⟨[], [], rfl, .nil, rfl, (fun p m => by cases m), .nil⟩
  | y :: ys, k, h => by
    obtain ⟨q, p, rfl, r, ⟨b1, b2⟩, b3, b4⟩ := h 0 _ rfl
    obtain ⟨qs, ps, rfl, t, l, bs, asc⟩ := rows_tens (ys := ys) (k := k + 1) fun i y e => by
      have := h (i + 1) y e
      rwa [show k + (i + 1) = k + 1 + i by omega] at this
    refine ⟨q :: qs, p :: ps, rfl, .cons r t, by rw [List.length_cons, l, List.length_cons], fun z m => ?_, .cons (fun z m => ?_) asc⟩
    · rw [List.length_cons]
      rcases List.mem_cons.mp m with rfl | m
      · exact ⟨by omega, by omega, b3, b4⟩
      · obtain ⟨c1, c2, c3, c4⟩ := bs z m
        exact ⟨by omega, by omega, c3, c4⟩
    · obtain ⟨c1, _⟩ := bs z m
      omega
theorem hue_a {H : Hp} {v : V} {d : PyData} (h : Atm v d) (r : Lw.inB 0 1000000000 v = false) : Hue K H v := ⟨let ⟨n, k, _⟩ := h.kd (H := H); ⟨n, k⟩, r, h.dsp⟩
def spRightT (B : Addr) : Sp := fun vs H Q _ => ∃ p, vs = [.ref p] ∧ Pool H p ∧ LamX.Tabs [(B, lamQ)] H ∧ ∀ H', LamX.ExtN H H' → LamX.Tabs [(B, lamQ)] H' → Q (.bl true) H'
set_option maxHeartbeats 8000000 in
theorem c_law_right (T : Txt K mg) {CC CP c B : Addr} (cC : ExcAt P w K mg base "InvalidColour" CC) (noC : PySem.W.findIn K (.ref CC) "value" = some none) (cP : ExcAt P w K mg base "InvalidPairs" CP) (noP : PySem.W.findIn K (.ref CP) "value" = some none)
    (D : Lw.DefC K mg "_law_right" s_law_right c) (TB : LamX.TabB base mg c B) : ClG P w K mg base CX0 10 "_law_right" s_law_right ["_law_pool_here"] (spRightT B) := by
  refine clC_of (k := 9) D sc_law_right (fun vs H Q E h => ?_) (fun f A outer s H vs Q E gd hr h => ?_)
  · obtain ⟨p, rfl, _⟩ := h
    rfl
  · obtain ⟨p, rfl, hp, tabs, q⟩ := h
    have mC := cC.nm
    have mP := cP.nm
    have nd := sc_law_right.nd
    refine ⟨_, (pss_cons (ps_set (i := 4) nd rfl (Or.inr rfl) (pe_callTy (Lw.cr_tupF) (by rfl) T.b_tuple bt_tuple (pa_cons (pe_lc (own := [("_law_k", 7)]) (g := gName 7) (tt := tYes) rfl nd (pi_range1 (by rfl) T.b_range (pa_cons (Lw.pe_cl (c_law_draw T) b_law_draw hr (by decide) (by rfl) pass0 (pa_cons (pv 0) (pa_cons pe_int pa_nil))) pa_nil)) (L2.blkOk_by (N := N_law_right) (sc := defScope s_law_right) (by decide +kernel)) (fun _ _ _ _ _ => (pg_name (i := 7) nd rfl (Or.inl rfl))) (fun _ _ _ _ _ => pts_nil) (fun _ _ _ _ _ => (pe_tup (pa_cons (pe_op op_add (pe_op op_mul pe_int (pv 7)) (Lw.pe_cl (c_law_draw T) b_law_draw hr (by decide) (by rfl) pass0 (pa_cons (pv 0) (pa_cons pe_int pa_nil)))) (pa_cons (Lw.pe_cl (c_law_draw T) b_law_draw hr (by decide) (by rfl) pass0 (pa_cons (pv 0) (pa_cons pe_int pa_nil))) pa_nil))))) pa_nil)))
      (pss_cons (ps_asg (pe_tup (pa_cons (Lw.pe_cl (c_law_bad_table T) b_law_bad_table hr (by decide) (by rfl) pass0 (pa_cons (pv 0) (pa_cons (pv 4) pa_nil))) (pa_cons (Lw.pe_cl (c_law_bad_table T) b_law_bad_table hr (by decide) (by rfl) pass0 (pa_cons (pv 0) (pa_cons (pv 4) pa_nil))) pa_nil))) (pg_tup rfl (pgs_cons (pg_name (i := 3) nd rfl (Or.inr rfl)) (pgs_cons (pg_name (i := 6) nd rfl (Or.inr rfl)) pgs_nil))))
      (pss_cons (ps_set (i := 1) nd rfl (Or.inl rfl) (pe_lst (pa_cons pe_non (pa_cons pe_bl (pa_cons pe_bl (pa_cons pe_str (pa_cons pe_str (pa_cons (pe_un un_neg pe_int) (pa_cons (pe_op op_add (pe_op op_pow pe_int pe_int) pe_int) (pa_cons (pe_op op_pow pe_int pe_int) (pa_cons (Lw.pe_tupF pa_nil) (pa_cons (pe_tup (pa_cons pe_int pa_nil)) (pa_cons (pe_lst (pa_cons pe_int pa_nil)) (pa_cons pe_dnewK pa_nil))))))))))))))
      (pss_cons (ps_set (i := 5) nd rfl (Or.inr rfl) (pe_ix ix_seq (pv 1) (Lw.pe_cl (c_law_draw T) b_law_draw hr (by decide) (by rfl) pass0 (pa_cons (pv 0) (pa_cons pe_int pa_nil))) (fun _ _ => rfl)))
      (pss_cons (ps_set (i := 2) nd rfl (Or.inl rfl) (pe_lst (pa_cons (Lw.pe_lamc (k := 7) T.d_law_caught b_law_caught (by rfl) sc_law_caught rfl (Or.inl rfl) (fun g cdv => g_caughtC T mC noC gd (hr.mono (by decide)) g cdv _) TB rfl (hr.mono (by decide)) (LamX.lamS_by (by rfl)) rfl (fun _ _ _ _ _ => rfl) (fun A2 o2 s2 H2 E2 f2 c2 hr2 => Lw.pe_cl (c_recolouredX T cC cP) b_recoloured hr2 (by decide) (by rfl) (passes_call (takes_of rfl rfl rfl rfl) (fun _ _ _ _ h => h)) (pa_cons (pv 5) (pa_cons (pv 3) pa_nil)))) pa_nil)))
      (pss_cons (ps_expr (pe_bm PySem.F.plainAttrs_list PySem.F.slot_list_append PySem.F.type_list_append mt_append (pv 2) (pa_cons (Lw.pe_lamc (k := 7) T.d_law_caught b_law_caught (by rfl) sc_law_caught rfl (Or.inl rfl) (fun g cdv => g_caughtC T mC noC gd (hr.mono (by decide)) g cdv _) TB rfl (hr.mono (by decide)) (LamX.lamS_by (by rfl)) rfl (fun _ _ _ _ _ => rfl) (fun A2 o2 s2 H2 E2 f2 c2 hr2 => Lw.pe_clk0 (g := fun {_} => gk_bk_recoloured_0_pairs_colour) (c_recolouredX T cC cP) bk_recoloured_0_pairs_colour rk_bk_recoloured_0_pairs_colour hr2 (by decide) (by rfl) (passes_call (takes_of rfl rfl rfl rfl) (fun _ _ _ _ h => h)) (pk_cons (pv 4) (pk_cons (pv 5) pk_nil)))) pa_nil)))
      (pss_cons (ps_if (pt_cmpR (op_neD hr.units) (pv 2) (pe_op op_rep (pe_lst (pa_cons (pe_lst (pa_cons pe_str (pa_cons (pe_callB (Lw.call_reprD gd (Lw.u70 hr)) (by rfl) T.b_repr bt_repr (pa_cons (pv 5) pa_nil)) pa_nil))) pa_nil)) pe_int) (nomark _)) (pss_one (ps_ret pe_bl)) pss_nil)
      (pss_cons (ps_set (i := 2) nd rfl (Or.inl rfl) (pe_lst (pa_cons (Lw.pe_lamc (k := 7) T.d_law_caught b_law_caught (by rfl) sc_law_caught rfl (Or.inl rfl) (fun g cdv => g_caughtP T mP noP gd (hr.mono (by decide)) g cdv _) TB rfl (hr.mono (by decide)) (LamX.lamS_by (by rfl)) rfl (fun _ _ _ _ _ => rfl) (fun A2 o2 s2 H2 E2 f2 c2 hr2 => Lw.pe_cl (c_recolouredX T cC cP) b_recoloured hr2 (by decide) (by rfl) (passes_call (takes_of rfl rfl rfl rfl) (fun _ _ _ _ h => h)) (pa_cons pe_int (pa_cons (pv 3) pa_nil)))) pa_nil)))
      (pss_cons (ps_expr (pe_bm PySem.F.plainAttrs_list PySem.F.slot_list_append PySem.F.type_list_append mt_append (pv 2) (pa_cons (Lw.pe_lamc (k := 7) T.d_law_caught b_law_caught (by rfl) sc_law_caught rfl (Or.inl rfl) (fun g cdv => g_caughtP T mP noP gd (hr.mono (by decide)) g cdv _) TB rfl (hr.mono (by decide)) (LamX.lamS_by (by rfl)) rfl (fun _ _ _ _ _ => rfl) (fun A2 o2 s2 H2 E2 f2 c2 hr2 => Lw.pe_cl (c_combinedX T cP) b_combined hr2 (by decide) (by rfl) (passes_call (takes_of rfl rfl rfl rfl) (fun _ _ _ _ h => h)) (pa_cons (pv 3) (pa_cons (pv 6) pa_nil)))) pa_nil)))
      (pss_cons (ps_set (i := 2) nd rfl (Or.inl rfl) (pe_op op_cat (pv 2) (pe_lst (pa_cons (Lw.pe_lamc (k := 7) T.d_law_caught b_law_caught (by rfl) sc_law_caught rfl (Or.inl rfl) (fun g cdv => g_caughtP T mP noP gd (hr.mono (by decide)) g cdv _) TB rfl (hr.mono (by decide)) (LamX.lamS_by (by rfl)) rfl (fun _ _ _ _ _ => rfl) (fun A2 o2 s2 H2 E2 f2 c2 hr2 => Lw.pe_cl (c_combinedX T cP) b_combined hr2 (by decide) (by rfl) (passes_call (takes_of rfl rfl rfl rfl) (fun _ _ _ _ h => h)) (pa_cons (pv 4) (pa_cons (pv 3) pa_nil)))) pa_nil))))
      (pss_cons (ps_set (i := 2) nd rfl (Or.inl rfl) (pe_op op_cat (pv 2) (pe_lst (pa_cons (Lw.pe_lamc (k := 7) T.d_law_caught b_law_caught (by rfl) sc_law_caught rfl (Or.inl rfl) (fun g cdv => g_caughtP T mP noP gd (hr.mono (by decide)) g cdv _) TB rfl (hr.mono (by decide)) (LamX.lamS_by (by rfl)) rfl (fun _ _ _ _ _ => rfl) (fun A2 o2 s2 H2 E2 f2 c2 hr2 => Lw.pe_clk0 (g := fun {_} => gk_bk_combined_0_other_pairs_pairs) (c_combinedX T cP) bk_combined_0_other_pairs_pairs rk_bk_combined_0_other_pairs_pairs hr2 (by decide) (by rfl) (passes_call (takes_of rfl rfl rfl rfl) (fun _ _ _ _ h => h)) (pk_cons (pv 6) (pk_cons (pv 3) pk_nil)))) pa_nil))))
      (pss_cons (ps_set (i := 2) nd rfl (Or.inl rfl) (pe_op op_cat (pv 2) (pe_lst (pa_cons (Lw.pe_lamc (k := 7) T.d_law_caught b_law_caught (by rfl) sc_law_caught rfl (Or.inl rfl) (fun g cdv => g_caughtP T mP noP gd (hr.mono (by decide)) g cdv _) TB rfl (hr.mono (by decide)) (LamX.lamS_by (by rfl)) rfl (fun _ _ _ _ _ => rfl) (fun A2 o2 s2 H2 E2 f2 c2 hr2 => Lw.pe_clR (c_keeps_apartX T cP) hr2 (by decide) (by rfl) (passes_call (takes_of rfl rfl rfl rfl) (fun _ _ _ _ h => h)) (pa_cons (pv 3) pa_nil))) pa_nil))))
      (pss_cons (ps_expr (pe_bm PySem.F.plainAttrs_list PySem.F.slot_list_append PySem.F.type_list_append mt_append (pv 2) (pa_cons (Lw.pe_lamc (k := 7) T.d_law_caught b_law_caught (by rfl) sc_law_caught rfl (Or.inl rfl) (fun g cdv => g_caughtP T mP noP gd (hr.mono (by decide)) g cdv _) TB rfl (hr.mono (by decide)) (LamX.lamS_by (by rfl)) rfl (fun _ _ _ _ _ => rfl) (fun A2 o2 s2 H2 E2 f2 c2 hr2 => Lw.pe_clR (c_keeps_apartX T cP) hr2 (by decide) (by rfl) (passes_call (takes_of rfl rfl rfl rfl) (fun _ _ _ _ h => h)) (pa_cons (pv 4) (pa_cons (pv 3) (pa_cons (pv 6) pa_nil))))) pa_nil)))
      (pss_cons (ps_set (i := 2) nd rfl (Or.inl rfl) (pe_op op_cat (pv 2) (pe_lst (pa_cons (Lw.pe_lamc (k := 7) T.d_law_caught b_law_caught (by rfl) sc_law_caught rfl (Or.inl rfl) (fun g cdv => g_caughtP T mP noP gd (hr.mono (by decide)) g cdv _) TB rfl (hr.mono (by decide)) (LamX.lamS_by (by rfl)) rfl (fun _ _ _ _ _ => rfl) (fun A2 o2 s2 H2 E2 f2 c2 hr2 => Lw.pe_clR (c_keeps_apartX T cP) hr2 (by decide) (by rfl) (passes_call (takes_of rfl rfl rfl rfl) (fun _ _ _ _ h => h)) (pa_cons (pv 4) (pa_cons (pv 4) (pa_cons (pv 3) pa_nil))))) pa_nil))))
      (pss_cons (ps_if (pt_cmpR (op_neD hr.units) (pv 2) (pe_op op_rep (pe_lst (pa_cons (pe_lst (pa_cons pe_str (pa_cons (pe_callB (Lw.call_reprD gd (Lw.u70 hr)) (by rfl) T.b_repr bt_repr (pa_cons (pv 3) pa_nil)) pa_nil))) pa_nil)) pe_int) (nomark _)) (pss_one (ps_ret pe_bl)) pss_nil)
      (pss_one (ps_ret (pe_and (pe_cmpR (op_eqD hr.units) (Lw.pe_cl (c_combined T) b_combined hr (by decide) (by rfl) pass0 (pa_cons (pv 4) (pa_cons (Lw.pe_tupF pa_nil) pa_nil))) (Lw.pe_cl (c_combined T) b_combined hr (by decide) (by rfl) pass0 (pa_cons (Lw.pe_tupF pa_nil) (pa_cons (pv 4) pa_nil))) (nomark _)) (pe_one (pe_cmpR op_eq (Lw.pe_cl (c_recoloured T) b_recoloured hr (by decide) (by rfl) pass0 (pa_cons (pe_op op_pow pe_int pe_int) (pa_cons (pv 4) pa_nil))) (pe_op op_pow pe_int pe_int) (nomark _))))))))))))))))))))), ?_⟩
    repeat fail "st"
    intro c1 H1 e1 c10 c11
    have hp1 := hp.up e1
    repeat fail "st"
    intro D1 hD1
    refine lcR (All fun i v H => ∃ q p, v = .ref q ∧ RowAt H q p ∧ (10 * (i : Int) ≤ p.1 ∧ p.1 < 10 * (i : Int) + 9) ∧ 0 ≤ p.2 ∧ p.2 < 99) (all_mono fun i v H H' e ⟨q, p, a, b, c⟩ => ⟨q, p, a, e _ _ (fun xs => by intro z; cases z) b, c⟩) hD1 (by omega) (fun i hi H' e Q1 Q2 q1 q2 => ?_) (fun H2 os e2 hl2 hD2 hp2 => ?_)
    · have hp2 := hp1.up e
      repeat fail "st"
      intro x Hx ex x0 x1
      have hp3 := hp2.up ex
      repeat fail "st"
      intro y Hy ey y0 y1
      repeat fail "st"
      intro t n_t
      generalize hh : upd _ t _ = H_t
      have e_t := newEx hh n_t
      have h_t := newAt hh
      clear hh
      exact q1 _ _ (ex.trans (ey.trans e_t)) ⟨_, rfl, t, (_, _), rfl, h_t, ⟨by show 10 * (i : Int) ≤ 10 * (0 + (i : Int)) + x; omega, by show 10 * (0 + (i : Int)) + x < 10 * (i : Int) + 9; omega⟩, y0, y1⟩
    obtain ⟨ys, ey, ly, hy⟩ := All.end hp2
    rw [ey] at hD2
    obtain ⟨qs, ps, rfl, rows, lps, bnd, asc⟩ := rows_tens (H := H2) (ys := ys) (k := 0) fun i y e => by
      obtain ⟨q, p, a, b, c, d⟩ := hy i y e
      rw [Nat.zero_add]
      exact ⟨q, p, a, b, c, d⟩
    have l3 : ps.length ≤ 3 := by rw [lps, ly, hl2]; omega
    have lq := rows.len
    have cols : ∀ r ∈ ps, Col r.1 ∧ Col r.2 := fun r m => by
      obtain ⟨b1, b2, b3, b4⟩ := bnd r m
      exact ⟨⟨by omega, by omega⟩, by omega, by omega⟩
    have good : Good ps := ⟨cols, asc, by omega⟩
    clear hp2 ey ly hl2 hy
    refine ⟨_, _, rfl, SqL.of hD2, fun ga o nga ho => ?_⟩
    generalize hh : upd H2 ga _ = H3
    have e3 := newEx hh nga
    have h3 := newAt hh
    clear hh
    have rows3 := rows.up e3
    have tab3 : Tab H3 (.ref ga) ps := ⟨ga, qs, rfl, ⟨o, ho, h3⟩, rows3⟩
    have tl3 : Tl H3 ga (qs.map V.ref) := .inr ⟨o, h3⟩
    have e4 := e2.trans e3
    have hp4 := hp1.up e4
    clear e2 e3 h3 nga ho rows hD2 hD1
    repeat fail "st"
    refine ⟨p, ga, qs, ps, rfl, hp4, tl3, rows3, by omega, cols, fun bad H5 e5 bb => ?_⟩
    have hp5 := hp4.up e5
    repeat fail "st"
    refine ⟨p, ga, qs, ps, rfl, hp5, tl3.up e5, rows3.up e5, by omega, cols, fun worse H6 e6 bw => ?_⟩
    have bb6 := bb.up e6
    have tab6 := (tab3.up e5).up e6
    have hp6 := hp5.up e6
    have eA := e1.trans (e4.trans (e5.trans e6))
    clear e4 e5 e6 tab3 tl3 rows3 hp1 hp4 hp5 bb e1
    repeat fail "st"
    intro tt n_tt
    generalize hh : upd _ tt _ = H_tt
    have e_tt := newEx hh n_tt
    have h_tt := newAt hh
    clear hh
    repeat fail "st"
    have bbt := bb6.up e_tt
    have bwt := bw.up e_tt
    have tabt := tab6.up e_tt
    have hpt := hp6.up e_tt
    have eT := eA.trans e_tt
    clear bb6 bw tab6 hp6 eA e_tt h_tt
    intro u0 o0 nu0 ho0
    generalize hh : upd H_tt u0 _ = H_u0
    have e_u0 := newEx hh nu0
    have h_u0 := newAt hh
    clear hh nu0
    repeat fail "st"
    intro u1 n_u1
    generalize hh : upd _ u1 _ = H_u1
    have e_u1 := newEx hh n_u1
    have h_u1 := newAt hh
    clear hh
    repeat fail "st"
    intro u2 n_u2
    generalize hh : upd _ u2 _ = H_u2
    have e_u2 := newEx hh n_u2
    have h_u2 := newAt hh
    clear hh
    repeat fail "st"
    intro u3 n_u3
    generalize hh : upd _ u3 _ = H_u3
    have e_u3 := newEx hh n_u3
    have h_u3 := newAt hh
    clear hh
    repeat fail "st"
    intro hues n_hues
    generalize hh : upd _ hues _ = H_hues
    have e_hues := newEx hh n_hues
    have h_hues := newAt hh
    clear hh
    repeat fail "st"
    have x_u3 := e_hues
    have x_u2 := e_u3.trans x_u3
    have x_u1 := e_u2.trans x_u2
    have x_u0 := e_u1.trans x_u1
    have g_u0 := x_u0 _ _ h_u0
    have g_u1 : H_hues u1 = some (.tup [.int 5]) := x_u1 _ _ h_u1
    have g_u2 : H_hues u2 = some (.lst [.int 5]) := x_u2 _ _ h_u2
    have g_u3 : H_hues u3 = some (.dK []) := x_u3 _ _ h_u3
    replace h_hues : H_hues hues = some (.lst [.non, .bl true, .bl false, .str "5", .str "", .int (-1), .int 1000000001, .int 1000000000000000000000000000000, .ref u0, .ref u1, .ref u2, .ref u3]) := h_hues
    have eB := e_u0.trans x_u0
    have nice5 : Nice 2000 0 (.str "5") := ⟨rfl, by decide +kernel, by decide +kernel, by rw [PyData.canLay0]; decide +kernel, by simp [PyData.depth]⟩
    have five : Atm (.int 5) (.int 5) := atm_small (by decide) (by decide)
    have hue : ∀ v ∈ [V.non, .bl true, .bl false, .str "5", .str "", .int (-1), .int 1000000001, .int 1000000000000000000000000000000, .ref u0, .ref u1, .ref u2, .ref u3], Hue K H_hues v := by
      simp only [List.forall_mem_cons]
      exact ⟨hue_a .non rfl, hue_a (.bl true) rfl, hue_a (.bl false) rfl, ⟨⟨_, .str _⟩, rfl, (It.str _ nice5).dsp⟩, hue_a .emp rfl, hue_a (atm_small (by decide) (by decide)) (by decide), hue_a (atm_small (by decide) (by decide)) (by decide), hue_a (.int _ (by decide +kernel)) (by decide),
        ⟨⟨_, .fz g_u0⟩, rfl, dsp_t (.inl (.inr ⟨_, g_u0⟩)) .nil (by decide)⟩, ⟨⟨_, .tup g_u1⟩, rfl, dsp_t (SqT.of g_u1) (.cons five .nil) (by decide)⟩, ⟨⟨_, .lst g_u2⟩, rfl, dsp_l (SqL.of g_u2) (.cons five .nil) (by decide)⟩, ⟨⟨_, .dK g_u3⟩, rfl, dsp_d g_u3⟩, by simp⟩
    have hp7 := hpt.up eB
    have bb7 := bbt.up eB
    have bw7 := bwt.up eB
    have tab7 := tabt.up eB
    have e8 := eT.trans eB
    clear x_u0 x_u1 x_u2 x_u3 e_u0 e_u1 e_u2 e_u3 e_hues h_u0 h_u1 h_u2 h_u3 n_u1 n_u2 n_u3 n_hues g_u0 g_u1 g_u2 g_u3 nice5 five bbt bwt tabt eT eB hpt
    repeat fail "st"
    intro c9 H9 e9 c90 c91
    have g9 := e9 _ _ h_hues
    repeat fail "st"
    refine ix_in (.inl (SqL.of g9)) c90 (by show c9 < ((12 : Nat) : Int); omega) fun hu mh => ?_
    have huG := (hue hu mh).upN (ExtN.ex e9)
    have bbG := bb7.up e9
    have bwG := bw7.up e9
    have tabG := tab7.up e9
    have eG := e8.trans e9
    have tG := tabs.ext (fun b o h => eG b o h)
    clear mh hue g9 h_hues bb7 bw7 tab7 e9 hp7 e8
    obtain ⟨dh, Dh, Sh⟩ := huG.2.2
    obtain ⟨db, Db, Sb⟩ := bbG.2
    obtain ⟨nh, kh⟩ := huG.1
    have ih := huG.2.1
    repeat fail "st"
    have G0 := LamX.ExtN.refl H9
    have xz := LamX.ExtN.refl H9
    refine ⟨tG, fun HL1 xl1 tl1 => ?_⟩
    have xc1 := G0.trans xl1
    repeat fail "st"
    refine ⟨hu, nh, bad, rfl, kh.upN xc1, .inl ⟨ih, fun dx1 HE1 ee1 hd1 => ?_⟩⟩
    have ef1 := ee1
    refine ⟨dh, ⟨dx1, hu, rfl, rfl, hd1, (Dh.upN xc1).up ef1, Sh⟩, fun l1 HR1 er1 r1 => ?_⟩
    have xd1 := xc1.trans (ExtN.ex (ef1.trans er1))
    have td1 := tl1.ext (fun b o h => (ef1.trans er1) b o h)
    clear xl1 tl1 ee1 hd1 er1 xc1 ef1
    repeat fail "st"
    replace kh := kh.upN xd1
    replace bbG := bbG.upN xd1
    replace bwG := bwG.upN xd1
    replace tabG := tabN xd1 tabG
    replace Dh := Dh.upN xd1
    replace Db := Db.upN xd1
    replace xz := xz.trans xd1
    clear xd1
    intro ta n_ta
    generalize hh : upd _ ta _ = H_ta
    have e_ta := newEx hh n_ta
    have h_ta := newAt hh
    clear hh
    have x_ta := ExtN.ex e_ta
    have t_ta := td1.ext (fun b o h => e_ta b o h)
    replace r1 := e_ta _ _ r1
    clear e_ta
    repeat fail "st"
    refine ⟨.inl ⟨rfl, _, SqL.of h_ta⟩, ?_⟩
    refine ⟨t_ta, fun HL2 xl2 tl2 => ?_⟩
    have xc2 := x_ta.trans xl2
    repeat fail "st"
    refine ⟨hu, nh, .ref ga, rfl, kh.upN xc2, .inl ⟨ih, fun dx2 HE2 ee2 hd2 => ?_⟩⟩
    have ef2 := ee2
    refine ⟨dh, ⟨dx2, hu, rfl, rfl, hd2, (Dh.upN xc2).up ef2, Sh⟩, fun l2 HR2 er2 r2 => ?_⟩
    have xd2 := xc2.trans (ExtN.ex (ef2.trans er2))
    have td2 := tl2.ext (fun b o h => (ef2.trans er2) b o h)
    replace r1 := (ef2.trans er2) _ _ (xl2 _ _ r1 (fun ps z => by cases z))
    replace h_ta := (ef2.trans er2) _ _ (xl2 _ _ h_ta (fun ps z => by cases z))
    clear xl2 tl2 ee2 hd2 er2 xc2 ef2
    repeat fail "st"
    refine ⟨ta, _, _, rfl, rfl, h_ta, Nat.lt_of_lt_of_le (show 1 < 1000 by decide) (by decide), ?_⟩
    generalize hh : upd HR2 ta _ = HA2
    have xa2 : LamX.ExtN HR1 HA2 := by rw [← hh]; exact extN_mut xd2 n_ta
    have ta2 : LamX.Tabs [(B, lamQ)] HA2 := by rw [← hh]; exact tabs_mut td2 h_ta
    replace r1 := (by rw [← hh]; exact row_mut r1 h_ta (by intro z; cases z) : HA2 l1 = some (.lst [.str "colour", .str dh.shown]))
    replace r2 := (by rw [← hh]; exact row_mut r2 h_ta (by intro z; cases z) : HA2 l2 = some (.lst [.str "colour", .str dh.shown]))
    replace h_ta := (by rw [← hh]; exact upd_same : HA2 ta = some (.lst [.ref l1, .ref l2]))
    clear hh xd2 td2
    repeat fail "st"
    refine ⟨_, _, Dh.upN xa2, Sh, rfl, ?_⟩
    repeat fail "st"
    intro rap n_rap
    generalize hh : upd _ rap _ = H_rap
    have e_rap := newEx hh n_rap
    have h_rap := newAt hh
    clear hh
    repeat fail "st"
    intro rbp n_rbp
    generalize hh : upd _ rbp _ = H_rbp
    have e_rbp := newEx hh n_rbp
    have h_rbp := newAt hh
    clear hh
    repeat fail "st"
    dsimp only [tC]
    refine repN (n := 2) h_rbp (by decide) (by decide) ?_
    intro rcp n_rcp
    generalize hh : upd _ rcp _ = H_rcp
    have e_rcp := newEx hh n_rcp
    have h_rcp := newAt hh
    clear hh
    have eRp := e_rap.trans (e_rbp.trans e_rcp)
    replace r1 := eRp _ _ r1
    replace r2 := eRp _ _ r2
    have hrp := (e_rbp.trans e_rcp) _ _ h_rap
    refine ne_rows (as := [l1, l2]) (bs := List.replicate 2 rap) (ok_of _) Sh.2.2 (eRp _ _ h_ta) (by rw [List.map_replicate]; exact h_rcp) rfl (t := "colour") (s := dh.shown) (fun c m => ?_) (fun c m => ?_) ?_
    · simp only [List.mem_cons, List.not_mem_nil, or_false] at m
      rcases m with rfl | rfl
      · exact r1
      · exact r2
    · obtain rfl := List.eq_of_mem_replicate m
      exact hrp
    have xep := xa2.trans (ExtN.ex eRp)
    have tep := ta2.ext (fun b o h => eRp b o h)
    clear eRp e_rap e_rbp e_rcp h_rap h_rbp h_rcp n_rap n_rbp n_rcp hrp xa2 ta2 r1 r2 h_ta
    repeat fail "st"
    refine ⟨tep, fun HL3 xl3 tl3 => ?_⟩
    have xc3 := xep.trans xl3
    repeat fail "st"
    refine ⟨.int 5, _, bad, rfl, .int 5, .inr ⟨by decide, bbG.1.upN xc3, fun dx3 HE3 ee3 hd3 => ?_⟩⟩
    have ef3 := ee3
    refine ⟨db, ⟨dx3, bad, rfl, rfl, hd3, (Db.upN xc3).up ef3, Sb⟩, fun l3 HR3 er3 r3 => ?_⟩
    have xd3 := xc3.trans (ExtN.ex (ef3.trans er3))
    have td3 := tl3.ext (fun b o h => (ef3.trans er3) b o h)
    clear xl3 tl3 ee3 hd3 er3 xc3 ef3
    repeat fail "st"
    replace kh := kh.upN xd3
    replace bbG := bbG.upN xd3
    replace bwG := bwG.upN xd3
    replace tabG := tabN xd3 tabG
    replace Dh := Dh.upN xd3
    replace Db := Db.upN xd3
    replace xz := xz.trans xd3
    clear xd3
    intro tb n_tb
    generalize hh : upd _ tb _ = H_tb
    have e_tb := newEx hh n_tb
    have h_tb := newAt hh
    clear hh
    have x_tb := ExtN.ex e_tb
    have t_tb := td3.ext (fun b o h => e_tb b o h)
    replace r3 := e_tb _ _ r3
    clear e_tb
    repeat fail "st"
    refine ⟨.inl ⟨rfl, _, SqL.of h_tb⟩, ?_⟩
    refine ⟨t_tb, fun HL4 xl4 tl4 => ?_⟩
    have xc4 := x_tb.trans xl4
    repeat fail "st"
    refine .inl ⟨bbG.1.upN xc4, fun dx4 HE4 ee4 hd4 => ?_⟩
    have ef4 := ee4
    refine ⟨db, ⟨dx4, bad, rfl, rfl, hd4, (Db.upN xc4).up ef4, Sb⟩, fun l4 HR4 er4 r4 => ?_⟩
    have xd4 := xc4.trans (ExtN.ex (ef4.trans er4))
    have td4 := tl4.ext (fun b o h => (ef4.trans er4) b o h)
    replace r3 := (ef4.trans er4) _ _ (xl4 _ _ r3 (fun ps z => by cases z))
    replace h_tb := (ef4.trans er4) _ _ (xl4 _ _ h_tb (fun ps z => by cases z))
    clear xl4 tl4 ee4 hd4 er4 xc4 ef4
    repeat fail "st"
    refine ⟨tb, _, _, rfl, rfl, h_tb, Nat.lt_of_lt_of_le (show 1 < 1000 by decide) (by decide), ?_⟩
    generalize hh : upd HR4 tb _ = HA4
    have xa4 : LamX.ExtN HR3 HA4 := by rw [← hh]; exact extN_mut xd4 n_tb
    have ta4 : LamX.Tabs [(B, lamQ)] HA4 := by rw [← hh]; exact tabs_mut td4 h_tb
    replace r3 := (by rw [← hh]; exact row_mut r3 h_tb (by intro z; cases z) : HA4 l3 = some (.lst [.str "pairs", .str db.shown]))
    replace r4 := (by rw [← hh]; exact row_mut r4 h_tb (by intro z; cases z) : HA4 l4 = some (.lst [.str "pairs", .str db.shown]))
    replace h_tb := (by rw [← hh]; exact upd_same : HA4 tb = some (.lst [.ref l3, .ref l4]))
    clear hh xd4 td4
    repeat fail "st"
    refine ⟨ta4, fun HL5 xl5 tl5 => ?_⟩
    have xc5 := xa4.trans xl5
    repeat fail "st"
    refine .inr ⟨ps, tabN xc5 tabG, good, bbG.1.upN xc5, fun dx5 HE5 ee5 hd5 => ?_⟩
    have ef5 := ee5
    refine ⟨db, ⟨dx5, bad, rfl, rfl, hd5, (Db.upN xc5).up ef5, Sb⟩, fun l5 HR5 er5 r5 => ?_⟩
    have xd5 := xc5.trans (ExtN.ex (ef5.trans er5))
    have td5 := tl5.ext (fun b o h => (ef5.trans er5) b o h)
    replace r3 := (ef5.trans er5) _ _ (xl5 _ _ r3 (fun ps z => by cases z))
    replace r4 := (ef5.trans er5) _ _ (xl5 _ _ r4 (fun ps z => by cases z))
    replace h_tb := (ef5.trans er5) _ _ (xl5 _ _ h_tb (fun ps z => by cases z))
    clear xl5 tl5 ee5 hd5 er5 xc5 ef5
    repeat fail "st"
    replace kh := kh.upN xd5
    replace bbG := bbG.upN xd5
    replace bwG := bwG.upN xd5
    replace tabG := tabN xd5 tabG
    replace Dh := Dh.upN xd5
    replace Db := Db.upN xd5
    replace xz := xz.trans xd5
    clear xd5
    intro otc n_otc
    generalize hh : upd _ otc _ = H_otc
    have e_otc := newEx hh n_otc
    have h_otc := newAt hh
    clear hh
    have x_otc := ExtN.ex e_otc
    have t_otc := td5.ext (fun b o h => e_otc b o h)
    replace r3 := e_otc _ _ r3
    replace r4 := e_otc _ _ r4
    replace r5 := e_otc _ _ r5
    replace h_tb := e_otc _ _ h_tb
    have eo_tc := e_otc
    clear e_otc
    repeat fail "st"
    refine ⟨_, _, _, _, rfl, rfl, h_tb, h_otc, Nat.le_trans (show 3 ≤ 1000 by decide) (by decide), ?_⟩
    intro tc n_tc
    generalize hh : upd _ tc _ = H_tc
    have e_tc := newEx hh n_tc
    have h_tc := newAt hh
    clear hh
    have x_tc := x_otc.trans (ExtN.ex e_tc)
    have t_tc := t_otc.ext (fun b o h => e_tc b o h)
    replace r3 := e_tc _ _ r3
    replace r4 := e_tc _ _ r4
    replace r5 := e_tc _ _ r5
    replace h_tb := e_tc _ _ h_tb
    clear e_tc
    repeat fail "st"
    have fr_tc : HR5 tc = none := ex_free eo_tc n_tc
    replace h_tc : H_tc tc = some (.lst [.ref l3, .ref l4, .ref l5]) := h_tc
    refine ⟨t_tc, fun HL6 xl6 tl6 => ?_⟩
    have xc6 := x_tc.trans xl6
    repeat fail "st"
    refine .inl ⟨bbG.1.upN xc6, fun dx6 HE6 ee6 hd6 => ?_⟩
    have ef6 := ee6
    refine ⟨db, ⟨dx6, bad, rfl, rfl, hd6, (Db.upN xc6).up ef6, Sb⟩, fun l6 HR6 er6 r6 => ?_⟩
    have xd6 := xc6.trans (ExtN.ex (ef6.trans er6))
    have td6 := tl6.ext (fun b o h => (ef6.trans er6) b o h)
    replace r3 := (ef6.trans er6) _ _ (xl6 _ _ r3 (fun ps z => by cases z))
    replace r4 := (ef6.trans er6) _ _ (xl6 _ _ r4 (fun ps z => by cases z))
    replace r5 := (ef6.trans er6) _ _ (xl6 _ _ r5 (fun ps z => by cases z))
    replace h_tc := (ef6.trans er6) _ _ (xl6 _ _ h_tc (fun ps z => by cases z))
    clear xl6 tl6 ee6 hd6 er6 xc6 ef6
    repeat fail "st"
    replace kh := kh.upN xd6
    replace bbG := bbG.upN xd6
    replace bwG := bwG.upN xd6
    replace tabG := tabN xd6 tabG
    replace Dh := Dh.upN xd6
    replace Db := Db.upN xd6
    replace xz := xz.trans xd6
    clear xd6
    intro otd n_otd
    generalize hh : upd _ otd _ = H_otd
    have e_otd := newEx hh n_otd
    have h_otd := newAt hh
    clear hh
    have x_otd := ExtN.ex e_otd
    have t_otd := td6.ext (fun b o h => e_otd b o h)
    replace r3 := e_otd _ _ r3
    replace r4 := e_otd _ _ r4
    replace r5 := e_otd _ _ r5
    replace r6 := e_otd _ _ r6
    replace h_tc := e_otd _ _ h_tc
    have eo_td := e_otd
    clear e_otd
    repeat fail "st"
    refine ⟨_, _, _, _, rfl, rfl, h_tc, h_otd, Nat.le_trans (show 4 ≤ 1000 by decide) (by decide), ?_⟩
    intro td n_td
    generalize hh : upd _ td _ = H_td
    have e_td := newEx hh n_td
    have h_td := newAt hh
    clear hh
    have x_td := x_otd.trans (ExtN.ex e_td)
    have t_td := t_otd.ext (fun b o h => e_td b o h)
    replace r3 := e_td _ _ r3
    replace r4 := e_td _ _ r4
    replace r5 := e_td _ _ r5
    replace r6 := e_td _ _ r6
    replace h_tc := e_td _ _ h_tc
    clear e_td
    repeat fail "st"
    have fr_td : HR6 td = none := ex_free eo_td n_td
    replace h_td : H_td td = some (.lst [.ref l3, .ref l4, .ref l5, .ref l6]) := h_td
    refine ⟨t_td, fun HL7 xl7 tl7 => ?_⟩
    have xc7 := x_td.trans xl7
    repeat fail "st"
    intro kt7 nk7
    have ek7 := ExtN.ex (Ex.new (o := .tup ([] ++ bad :: [])) nk7)
    refine ⟨kt7, [], bad, [], rfl, upd_same, Nat.le_of_ble_eq_true rfl, fun u m => ?_, bbG.1.upN (xc7.trans ek7), fun dx7 HE7 ee7 hd7 => ?_⟩
    · cases m
    have ef7 := (Ex.new (o := .tup _) nk7).trans ee7
    refine ⟨db, ⟨dx7, bad, rfl, rfl, hd7, (Db.upN xc7).up ef7, Sb⟩, fun l7 HR7 er7 r7 => ?_⟩
    have xd7 := xc7.trans (ExtN.ex (ef7.trans er7))
    have td7 := tl7.ext (fun b o h => (ef7.trans er7) b o h)
    replace r3 := (ef7.trans er7) _ _ (xl7 _ _ r3 (fun ps z => by cases z))
    replace r4 := (ef7.trans er7) _ _ (xl7 _ _ r4 (fun ps z => by cases z))
    replace r5 := (ef7.trans er7) _ _ (xl7 _ _ r5 (fun ps z => by cases z))
    replace r6 := (ef7.trans er7) _ _ (xl7 _ _ r6 (fun ps z => by cases z))
    replace h_td := (ef7.trans er7) _ _ (xl7 _ _ h_td (fun ps z => by cases z))
    clear xl7 tl7 ee7 hd7 er7 xc7 ef7 ek7 nk7
    repeat fail "st"
    replace kh := kh.upN xd7
    replace bbG := bbG.upN xd7
    replace bwG := bwG.upN xd7
    replace tabG := tabN xd7 tabG
    replace Dh := Dh.upN xd7
    replace Db := Db.upN xd7
    replace xz := xz.trans xd7
    clear xd7
    intro ote n_ote
    generalize hh : upd _ ote _ = H_ote
    have e_ote := newEx hh n_ote
    have h_ote := newAt hh
    clear hh
    have x_ote := ExtN.ex e_ote
    have t_ote := td7.ext (fun b o h => e_ote b o h)
    replace r3 := e_ote _ _ r3
    replace r4 := e_ote _ _ r4
    replace r5 := e_ote _ _ r5
    replace r6 := e_ote _ _ r6
    replace r7 := e_ote _ _ r7
    replace h_td := e_ote _ _ h_td
    have eo_te := e_ote
    clear e_ote
    repeat fail "st"
    refine ⟨_, _, _, _, rfl, rfl, h_td, h_ote, Nat.le_trans (show 5 ≤ 1000 by decide) (by decide), ?_⟩
    intro te n_te
    generalize hh : upd _ te _ = H_te
    have e_te := newEx hh n_te
    have h_te := newAt hh
    clear hh
    have x_te := x_ote.trans (ExtN.ex e_te)
    have t_te := t_ote.ext (fun b o h => e_te b o h)
    replace r3 := e_te _ _ r3
    replace r4 := e_te _ _ r4
    replace r5 := e_te _ _ r5
    replace r6 := e_te _ _ r6
    replace r7 := e_te _ _ r7
    replace h_td := e_te _ _ h_td
    clear e_te
    repeat fail "st"
    have fr_te : HR7 te = none := ex_free eo_te n_te
    replace h_te : H_te te = some (.lst [.ref l3, .ref l4, .ref l5, .ref l6, .ref l7]) := h_te
    refine ⟨.inl ⟨rfl, _, SqL.of h_te⟩, ?_⟩
    refine ⟨t_te, fun HL8 xl8 tl8 => ?_⟩
    have xc8 := x_te.trans xl8
    repeat fail "st"
    intro kt8 nk8
    have ek8 := ExtN.ex (Ex.new (o := .tup ([.ref ga] ++ bad :: [worse])) nk8)
    refine ⟨kt8, [.ref ga], bad, [worse], rfl, upd_same, Nat.le_of_ble_eq_true rfl, fun u m => ?_, bbG.1.upN (xc8.trans ek8), fun dx8 HE8 ee8 hd8 => ?_⟩
    · simp only [List.mem_cons, List.not_mem_nil, or_false, or_self] at m
      rw [m]
      exact ⟨ps, tabN (xc8.trans ek8) tabG, good⟩
    have ef8 := (Ex.new (o := .tup _) nk8).trans ee8
    refine ⟨db, ⟨dx8, bad, rfl, rfl, hd8, (Db.upN xc8).up ef8, Sb⟩, fun l8 HR8 er8 r8 => ?_⟩
    have xd8 := xc8.trans (ExtN.ex (ef8.trans er8))
    have td8 := tl8.ext (fun b o h => (ef8.trans er8) b o h)
    replace r3 := (ef8.trans er8) _ _ (xl8 _ _ r3 (fun ps z => by cases z))
    replace r4 := (ef8.trans er8) _ _ (xl8 _ _ r4 (fun ps z => by cases z))
    replace r5 := (ef8.trans er8) _ _ (xl8 _ _ r5 (fun ps z => by cases z))
    replace r6 := (ef8.trans er8) _ _ (xl8 _ _ r6 (fun ps z => by cases z))
    replace r7 := (ef8.trans er8) _ _ (xl8 _ _ r7 (fun ps z => by cases z))
    replace h_te := (ef8.trans er8) _ _ (xl8 _ _ h_te (fun ps z => by cases z))
    clear xl8 tl8 ee8 hd8 er8 xc8 ef8 ek8 nk8
    repeat fail "st"
    refine ⟨te, _, _, rfl, rfl, h_te, Nat.lt_of_lt_of_le (show 5 < 1000 by decide) (by decide), ?_⟩
    generalize hh : upd HR8 te _ = HA8
    have xa8 : LamX.ExtN HR7 HA8 := by rw [← hh]; exact extN_mut xd8 fr_te
    have ta8 : LamX.Tabs [(B, lamQ)] HA8 := by rw [← hh]; exact tabs_mut td8 h_te
    replace r3 := (by rw [← hh]; exact row_mut r3 h_te (by intro z; cases z) : HA8 l3 = some (.lst [.str "pairs", .str db.shown]))
    replace r4 := (by rw [← hh]; exact row_mut r4 h_te (by intro z; cases z) : HA8 l4 = some (.lst [.str "pairs", .str db.shown]))
    replace r5 := (by rw [← hh]; exact row_mut r5 h_te (by intro z; cases z) : HA8 l5 = some (.lst [.str "pairs", .str db.shown]))
    replace r6 := (by rw [← hh]; exact row_mut r6 h_te (by intro z; cases z) : HA8 l6 = some (.lst [.str "pairs", .str db.shown]))
    replace r7 := (by rw [← hh]; exact row_mut r7 h_te (by intro z; cases z) : HA8 l7 = some (.lst [.str "pairs", .str db.shown]))
    replace r8 := (by rw [← hh]; exact row_mut r8 h_te (by intro z; cases z) : HA8 l8 = some (.lst [.str "pairs", .str db.shown]))
    replace h_te := (by rw [← hh]; exact upd_same : HA8 te = some (.lst [.ref l3, .ref l4, .ref l5, .ref l6, .ref l7, .ref l8]))
    clear hh xd8 td8
    repeat fail "st"
    refine ⟨ta8, fun HL9 xl9 tl9 => ?_⟩
    have xc9 := xa8.trans xl9
    repeat fail "st"
    intro kt9 nk9
    have ek9 := ExtN.ex (Ex.new (o := .tup ([.ref ga, .ref ga] ++ bad :: [])) nk9)
    refine ⟨kt9, [.ref ga, .ref ga], bad, [], rfl, upd_same, Nat.le_of_ble_eq_true rfl, fun u m => ?_, bbG.1.upN (xc9.trans ek9), fun dx9 HE9 ee9 hd9 => ?_⟩
    · simp only [List.mem_cons, List.not_mem_nil, or_false, or_self] at m
      rw [m]
      exact ⟨ps, tabN (xc9.trans ek9) tabG, good⟩
    have ef9 := (Ex.new (o := .tup _) nk9).trans ee9
    refine ⟨db, ⟨dx9, bad, rfl, rfl, hd9, (Db.upN xc9).up ef9, Sb⟩, fun l9 HR9 er9 r9 => ?_⟩
    have xd9 := xc9.trans (ExtN.ex (ef9.trans er9))
    have td9 := tl9.ext (fun b o h => (ef9.trans er9) b o h)
    replace r3 := (ef9.trans er9) _ _ (xl9 _ _ r3 (fun ps z => by cases z))
    replace r4 := (ef9.trans er9) _ _ (xl9 _ _ r4 (fun ps z => by cases z))
    replace r5 := (ef9.trans er9) _ _ (xl9 _ _ r5 (fun ps z => by cases z))
    replace r6 := (ef9.trans er9) _ _ (xl9 _ _ r6 (fun ps z => by cases z))
    replace r7 := (ef9.trans er9) _ _ (xl9 _ _ r7 (fun ps z => by cases z))
    replace r8 := (ef9.trans er9) _ _ (xl9 _ _ r8 (fun ps z => by cases z))
    replace h_te := (ef9.trans er9) _ _ (xl9 _ _ h_te (fun ps z => by cases z))
    clear xl9 tl9 ee9 hd9 er9 xc9 ef9 ek9 nk9
    repeat fail "st"
    replace kh := kh.upN xd9
    replace bbG := bbG.upN xd9
    replace bwG := bwG.upN xd9
    replace tabG := tabN xd9 tabG
    replace Dh := Dh.upN xd9
    replace Db := Db.upN xd9
    replace xz := xz.trans xd9
    clear xd9
    intro otf n_otf
    generalize hh : upd _ otf _ = H_otf
    have e_otf := newEx hh n_otf
    have h_otf := newAt hh
    clear hh
    have x_otf := ExtN.ex e_otf
    have t_otf := td9.ext (fun b o h => e_otf b o h)
    replace r3 := e_otf _ _ r3
    replace r4 := e_otf _ _ r4
    replace r5 := e_otf _ _ r5
    replace r6 := e_otf _ _ r6
    replace r7 := e_otf _ _ r7
    replace r8 := e_otf _ _ r8
    replace r9 := e_otf _ _ r9
    replace h_te := e_otf _ _ h_te
    have eo_tf := e_otf
    clear e_otf
    repeat fail "st"
    refine ⟨_, _, _, _, rfl, rfl, h_te, h_otf, Nat.le_trans (show 7 ≤ 1000 by decide) (by decide), ?_⟩
    intro tf n_tf
    generalize hh : upd _ tf _ = H_tf
    have e_tf := newEx hh n_tf
    have h_tf := newAt hh
    clear hh
    have x_tf := x_otf.trans (ExtN.ex e_tf)
    have t_tf := t_otf.ext (fun b o h => e_tf b o h)
    replace r3 := e_tf _ _ r3
    replace r4 := e_tf _ _ r4
    replace r5 := e_tf _ _ r5
    replace r6 := e_tf _ _ r6
    replace r7 := e_tf _ _ r7
    replace r8 := e_tf _ _ r8
    replace r9 := e_tf _ _ r9
    replace h_te := e_tf _ _ h_te
    clear e_tf
    repeat fail "st"
    have fr_tf : HR9 tf = none := ex_free eo_tf n_tf
    replace h_tf : H_tf tf = some (.lst [.ref l3, .ref l4, .ref l5, .ref l6, .ref l7, .ref l8, .ref l9]) := h_tf
    refine ⟨_, _, Db.upN x_tf, Sb, rfl, ?_⟩
    repeat fail "st"
    intro raq n_raq
    generalize hh : upd _ raq _ = H_raq
    have e_raq := newEx hh n_raq
    have h_raq := newAt hh
    clear hh
    repeat fail "st"
    intro rbq n_rbq
    generalize hh : upd _ rbq _ = H_rbq
    have e_rbq := newEx hh n_rbq
    have h_rbq := newAt hh
    clear hh
    repeat fail "st"
    dsimp only [tC]
    refine repN (n := 7) h_rbq (by decide) (by decide) ?_
    intro rcq n_rcq
    generalize hh : upd _ rcq _ = H_rcq
    have e_rcq := newEx hh n_rcq
    have h_rcq := newAt hh
    clear hh
    have eRq := e_raq.trans (e_rbq.trans e_rcq)
    replace r3 := eRq _ _ r3
    replace r4 := eRq _ _ r4
    replace r5 := eRq _ _ r5
    replace r6 := eRq _ _ r6
    replace r7 := eRq _ _ r7
    replace r8 := eRq _ _ r8
    replace r9 := eRq _ _ r9
    have hrq := (e_rbq.trans e_rcq) _ _ h_raq
    refine ne_rows (as := [l3, l4, l5, l6, l7, l8, l9]) (bs := List.replicate 7 raq) (ok_of _) Sb.2.2 (eRq _ _ h_tf) (by rw [List.map_replicate]; exact h_rcq) rfl (t := "pairs") (s := db.shown) (fun c m => ?_) (fun c m => ?_) ?_
    · simp only [List.mem_cons, List.not_mem_nil, or_false] at m
      rcases m with rfl | rfl | rfl | rfl | rfl | rfl | rfl
      · exact r3
      · exact r4
      · exact r5
      · exact r6
      · exact r7
      · exact r8
      · exact r9
    · obtain rfl := List.eq_of_mem_replicate m
      exact hrq
    have xeq := x_tf.trans (ExtN.ex eRq)
    have teq := t_tf.ext (fun b o h => eRq b o h)
    clear eRq e_raq e_rbq e_rcq h_raq h_rbq h_rcq n_raq n_rbq n_rcq hrq x_tf t_tf r3 r4 r5 r6 r7 r8 r9 h_tf
    repeat fail "st"
    intro em oe nem hoe
    generalize hh : upd H_rcq em _ = HE
    have eE := newEx hh nem
    have hE := newAt hh
    clear hh
    have tabE : Tab HE (.ref em) [] := ⟨em, [], rfl, ⟨oe, hoe, hE⟩, .nil⟩
    have tabg := tabN (xeq.trans (ExtN.ex eE)) tabG
    repeat fail "st"
    refine ⟨_, _, ps, [], tabg, tabE, rfl, good, good_nil, by show ps.length + 0 ≤ 60; omega, fun x ts HA xA tx ch => ?_⟩
    repeat fail "st"
    intro em2 oe2 nem2 hoe2
    generalize hh : upd HA em2 _ = HF
    have eF := newEx hh nem2
    have hF := newAt hh
    clear hh
    have tabF : Tab HF (.ref em2) [] := ⟨em2, [], rfl, ⟨oe2, hoe2, hF⟩, .nil⟩
    have tabg2 := (tabg.up xA).up eF
    repeat fail "st"
    refine ⟨_, _, [], ps, tabF, tabg2, rfl, good_nil, good, by show 0 + ps.length ≤ 60; omega, fun x2 ts2 HB xB tx2 ch2 => ?_⟩
    obtain rfl : ts = ts2 := asc_uniq ch.asc ch2.asc fun p => by rw [ch.mem, ch2.mem]; exact Iff.rfl
    refine eq_tab ((tx.up eF).up xB) tx2 ?_
    repeat fail "st"
    refine ⟨_, _, ps, tabg2.up xB, rfl, ⟨by decide, by decide⟩, good, fun HC xC => ?_⟩
    repeat fail "st"
    have eZ := eE.trans (xA.trans (eF.trans (xB.trans xC)))
    have lk : look ps (10 ^ Int.toNat 9) = 10 ^ Int.toNat 9 := by
      rcases look_in (ps := ps) (c := 10 ^ Int.toNat 9) with ⟨r, m, e, _⟩ | ⟨_, e⟩
      · obtain ⟨b1, b2, _⟩ := bnd r m
        have : (10 : Int) ^ Int.toNat 9 = 1000000000 := by decide
        omega
      · exact e
    rw [lk]
    refine q _ ((ExtN.ex eG).trans (xz.trans (xeq.trans (ExtN.ex eZ)))) (teq.ext (fun b o h => eZ b o h))
end

end K11
namespace K11
open PySem PySem.Spec PyProof.Rows L2 Evl Lw
section
variable {P : Program} {w : World} {K : PySem.W.Frag} {mg : Str → Option Value} {base : Heap}
def spLawT (K : PySem.W.Frag) (B : Addr) : Sp := fun vs H Q _ => ∃ (a : Addr) (ns : List Int), vs = [.ref a] ∧ LamX.Tabs [(B, lamQ)] H ∧ SqL K H a (ns.map V.int) ∧ ns.length ≤ 63 ∧ ∀ H', Q (.bl true) H'
theorem c_law (T : Txt K mg) {CC CP c B : Addr} (cC : ExcAt P w K mg base "InvalidColour" CC) (noC : PySem.W.findIn K (.ref CC) "value" = some none) (cP : ExcAt P w K mg base "InvalidPairs" CP) (noP : PySem.W.findIn K (.ref CP) "value" = some none)
    (D : Lw.DefC K mg "_law_right" s_law_right c) (TB : LamX.TabB base mg c B) : ClG P w K mg base CX0 11 "law" s_law ["_law_script"] (spLawT K B) := by
  refine clG_of (k := 10) T.d_law sc_law (fun vs H Q E h => ?_) (fun f cdv A outer s H vs Q E gd hr h => ?_)
  · obtain ⟨a, ns, rfl, _⟩ := h
    rfl
  · obtain ⟨a, ns, rfl, tabs, hS, hl, q⟩ := h
    have nd := sc_law.nd
    refine ⟨_, (pss_cons (ps_for PassesOwn.never rfl (pi_range1 (by rfl) T.b_range (pa_cons (pe_callB (call_max2 rfl) (by rfl) T.b_max bt_max (pa_cons pe_int (pa_cons (pe_callB (call_min2 rfl) (by rfl) T.b_min bt_min (pa_cons (pe_callB (call_len) (by rfl) T.b_len bt_len (pa_cons (pv 0) pa_nil)) (pa_cons pe_int pa_nil))) pa_nil))) pa_nil)) (pg_name (i := 1) nd rfl (Or.inl rfl)) (pss_cons (ps_set (i := 2) nd rfl (Or.inr rfl) (Lw.pe_cl (c_law_pool T) b_law_pool hr (by decide) (by rfl) pass0 (pa_cons (Lw.pe_cl (c_law_cell T) b_law_cell hr (by decide) (by rfl) pass0 (pa_cons (pv 0) (pa_cons (pv 1) pa_nil))) pa_nil)))
      (pss_one (ps_if (pt_not (pt_val (pe_callB (cr_all rfl) (by rfl) T.b_all bt_all (pa_cons (pe_lc (own := [("_law_turn", 3)]) (g := gName 3) (tt := tYes) rfl nd (pi_range1 (by rfl) T.b_range (pa_cons pe_int pa_nil)) (L2.blkOk_by (N := N_law) (sc := defScope s_law) (by decide +kernel)) (fun _ _ _ _ _ => (pg_name (i := 3) nd rfl (Or.inl rfl))) (fun _ _ _ _ _ => pts_nil) (fun _ _ _ _ _ => (Lw.pe_clG (c_law_right T cC noC cP noP D TB) b_law_right gd hr (by decide) (by rfl) pass0 (pa_cons (pv 2) pa_nil)))) pa_nil)))) (pss_one (ps_ret pe_bl)) pss_nil))))
      (pss_one (ps_ret pe_bl))), ?_⟩
    repeat fail "st"
    refine for_range (fun _ σ H' => ∃ y z u, σ = [some (.ref a), y, z, u] ∧ LamX.ExtN H H' ∧ LamX.Tabs [(B, lamQ)] H') ⟨_, _, _, rfl, LamX.ExtN.refl _, tabs⟩ ?_ ?_
    · rintro i _ H' hi ⟨y, z, u, rfl, e, t⟩
      have hi6 : i ≤ 6 := by
        revert hi
        (repeat' split) <;> omega
      have hS' := sqN_l e hS
      repeat fail "st"
      refine ⟨_, _, _, rfl, (by fail "sql"), hl, by omega, by omega, fun c Hc ec => ?_⟩
      repeat fail "st"
      intro pl Hp np ep pp
      have t2 := t.ext (fun b o h => (ec.trans ep) b o h)
      repeat fail "st"
      intro D1 hD1
      refine lcRT [(B, lamQ)] hD1 (by decide) t2 (fun j hj H1 e1 t1 Q1 Q2 q1 => ?_) (fun H1 e1 t1 h1 => ?_)
      · have pp1 := pp.upN e1
        repeat fail "st"
        refine ⟨t1, fun H4 x4 t4 => ?_⟩
        exact q1 _ x4 t4
      · refine ⟨_, _, rfl, SqL.of h1, ?_⟩
        rw [show (List.replicate _ true).all id = true from by simp]
        repeat fail "st"
        exact ⟨_, _, _, rfl, e.trans ((ExtN.ex (ec.trans ep)).trans e1), t1⟩
    · rintro _ H' ⟨y, z, u, rfl, e, t⟩
      repeat fail "st"
      exact q _
theorem law_mk {l : PySem.W.OpenLaw} {h : Heap} {fa c B : Addr} (T : Txt K mg) (D : Lw.DefC K mg "_law_right" s_law_right c) {ce : Value} {dd : Option Addr} {vs : Array Value} {sl : Array (Option Value)} (hv : K.lookup c = some ⟨ce, dd, .fields vs, sl⟩) (ht : vs[11]? = some (.ref B))
    (hc : PySem.W.codeHdIn K c B = true) (hn : K.lookup B = none) (KX : K.In h) (hT : h.get? B = some noCodes) (hfa : mg "law" = some (.ref fa)) : LawG l w K CX0 11 63 "_law_script" mg fa h := by
  obtain ⟨fd, F, b⟩ := law_fd T.d_law b_law hfa
  refine ⟨fd, [(c, B)], spLawT K B, fun p m => ?_, fun p m => ?_, fun p m => ?_, b, fun H a ns hl tb hS => ?_, fun base _ _ TB => ?_⟩
  · obtain rfl : p = _ := by simpa using m
    exact hT
  · obtain rfl : p = _ := by simpa using m
    exact hn
  · obtain rfl : p = _ := by simpa using m
    exact PySem.W.codeHd_of_K KX hc
  · refine ⟨a, ns, rfl, fun p m => ?_, hS, hl, fun _ => rfl⟩
    obtain rfl : p = _ := by simpa using m
    exact LamX.TabS.nil (tb (c, B) (by simp))
  · obtain ⟨CC, Bb, fi, fdi, mC, ox, iC, tI, Fi, no, mF, bc⟩ := T.x_InvalidColour.ex
    have cC : ExcAt l.prog w K mg base "InvalidColour" CC := ⟨mC, ox, fi, fdi, iC, tI, init_InvalidColour mF bc ox no Fi, Fi.binds (fun _ _ _ _ _ _ us hl => match us, hl with | [_, _], _ => rfl)⟩
    obtain ⟨CP, Bb2, fi2, fdi2, mC2, ox2, iC2, tI2, Fi2, no2, mF2, bc2⟩ := T.x_InvalidPairs.ex
    have cP : ExcAt l.prog w K mg base "InvalidPairs" CP := ⟨mC2, ox2, fi2, fdi2, iC2, tI2, init_InvalidPairs mF2 bc2 ox2 no2 Fi2, Fi2.binds (fun _ _ _ _ _ _ us hl => match us, hl with | [_, _], _ => rfl)⟩
    exact (c_law T cC no cP no2 D (TB (c, B) (by simp))).at F hfa
end

end K11
open PySem PySem.W PyProof.Rows
set_option maxHeartbeats 0 in
theorem PySem.Challenge.cw_allscreens_k11_tables_refused_holds : PySem.Challenge.rw_allscreens_k11_tables_refused.Holds := by
  w_on; o_law; k_head; (case hw => w_witness2)
  k_fill
  refine Lw.walk_gd (l := PySem.Challenge.rw_allscreens_k11_tables_refused) (n := 63) (k := 11) (x := "_law_script") (CX := fun _ => L2.CX0) rfl (by decide) rfl ⟨rfl, by decide, by decide⟩ (fun w h Y => PySem.W.km_in_of Y) ?F (fun _ _ _ _ _ h => h)
  case F =>
    intro w mg fa h Y KX G hmg
    refine' K11.law_mk ⟨Lw.defAt_mk KX G ?a0 ?l0 ?c0 ?k0, Lw.defAt_mk KX G ?a1 ?l1 ?c1 ?k1, Lw.defAt_mk KX G ?a2 ?l2 ?c2 ?k2, Lw.defAt_mk KX G ?a3 ?l3 ?c3 ?k3, Lw.defAt_mk KX G ?a4 ?l4 ?c4 ?k4, Lw.defAt_mk KX G ?a5 ?l5 ?c5 ?k5, Lw.defAt_mk KX G ?a6 ?l6 ?c6 ?k6, Lw.defAt_mk KX G ?a7 ?l7 ?c7 ?k7, Lw.defAt_mk KX G ?a8 ?l8 ?c8 ?k8, Lw.defAt_mk KX G ?a9 ?l9 ?c9 ?k9, Lw.defAt_mk KX G ?a10 ?l10 ?c10 ?k10, Lw.defAt_mk KX G ?a11 ?l11 ?c11 ?k11, Lw.defAt_mk KX G ?a12 ?l12 ?c12 ?k12, Lw.defAt_mk KX G ?a13 ?l13 ?c13 ?k13, Lw.defAt_mk KX G ?a14 ?l14 ?c14 ?k14, Lw.defAt_mk KX G ?a15 ?l15 ?c15 ?k15, Lw.defAt_mk KX G ?a16 ?l16 ?c16 ?k16, Lw.defAt_mk KX G ?a17 ?l17 ?c17 ?k17, Lw.defAt_mk KX G ?a18 ?l18 ?c18 ?k18, Lw.defAt_mk KX G ?a19 ?l19 ?c19 ?k19, PySem.W.mg_none_of KX G ?z0, PySem.W.mg_none_of KX G ?z1, PySem.W.mg_none_of KX G ?z2, PySem.W.mg_none_of KX G ?z3, PySem.W.mg_none_of KX G ?z4, PySem.W.mg_none_of KX G ?z5, PySem.W.mg_none_of KX G ?z6, PySem.W.mg_none_of KX G ?z7, PySem.W.mg_none_of KX G ?z8, PySem.W.mg_none_of KX G ?z9, PySem.W.mg_none_of KX G ?z10, PySem.W.mg_none_of KX G ?z11, PySem.W.mg_none_of KX G ?z12, PySem.W.mg_none_of KX G ?z13, PySem.W.mg_none_of KX G ?z14, PySem.W.mg_none_of KX G ?z15, PySem.W.mg_none_of KX G ?z16, Lw.clsAt_mk KX G ?xa0 ?xcl0 ?xr0 ?xsa0 ?xexC0 ?xtyC0 ?xkC0 ?xi0 ?xti0 ?xl0 ?xc0 ?xkp0 ?xno0 ?xaB0 ?xga0 ?xty0 ?xrd0 ?xfc0, Lw.clsAt_mk KX G ?xa1 ?xcl1 ?xr1 ?xsa1 ?xexC1 ?xtyC1 ?xkC1 ?xi1 ?xti1 ?xl1 ?xc1 ?xkp1 ?xno1 ?xaB1 ?xga1 ?xty1 ?xrd1 ?xfc1, Lw.errAt_mk KX G ?e0_0 ?e0_1 ?e0_2 ?e0_3 ?e0_4 ?e0_5 ?e0_6 ?e0_7 ?e0_8 ?e0_9 ?e0_10 ?e0_11 ?e0_12, Lw.errAt_mk KX G ?e1_0 ?e1_1 ?e1_2 ?e1_3 ?e1_4 ?e1_5 ?e1_6 ?e1_7 ?e1_8 ?e1_9 ?e1_10 ?e1_11 ?e1_12, Lw.askC_mk KX G ?q0_0 ?q0_1 ?q0_2, Lw.askC_mk KX G ?q1_0 ?q1_1 ?q1_2, Lw.askC_mk KX G ?q2_0 ?q2_1 ?q2_2, Lw.askC_mk KX G ?q3_0 ?q3_1 ?q3_2, Lw.askC_mk KX G ?q4_0 ?q4_1 ?q4_2, Lw.askC_mk KX G ?q5_0 ?q5_1 ?q5_2, Lw.askC_mk KX G ?q6_0 ?q6_1 ?q6_2, Lw.askC_mk KX G ?q7_0 ?q7_1 ?q7_2, Lw.askC_mk KX G ?q8_0 ?q8_1 ?q8_2, Lw.askC_mk KX G ?q9_0 ?q9_1 ?q9_2, Lw.askT_mk KX G ?qt0_0 ?qt0_1, Lw.askT_mk KX G ?qt1_0 ?qt1_1, Lw.const_mk KX G ?cst0 ?rst0⟩ (Lw.defC_mk KX G ?la0 ?ll0 ?li0 ?lk0) ?lv0 ?lt0 ?lh0 ?ln0 KX (PySem.W.km_tabs_of Y _ ?mem) hmg
    (case a0 => k_is)
    (case l0 => k_is)
    (case c0 => k_is)
    (case k0 => k_is)
    (case a1 => k_is)
    (case l1 => k_is)
    (case c1 => k_is)
    (case k1 => k_is)
    (case a2 => k_is)
    (case l2 => k_is)
    (case c2 => k_is)
    (case k2 => k_is)
    (case a3 => k_is)
    (case l3 => k_is)
    (case c3 => k_is)
    (case k3 => k_is)
    (case a4 => k_is)
    (case l4 => k_is)
    (case c4 => k_is)
    (case k4 => k_is)
    (case a5 => k_is)
    (case l5 => k_is)
    (case c5 => k_is)
    (case k5 => k_is)
    (case a6 => k_is)
    (case l6 => k_is)
    (case c6 => k_is)
    (case k6 => k_is)
    (case a7 => k_is)
    (case l7 => k_is)
    (case c7 => k_is)
    (case k7 => k_is)
    (case a8 => k_is)
    (case l8 => k_is)
    (case c8 => k_is)
    (case k8 => k_is)
    (case a9 => k_is)
    (case l9 => k_is)
    (case c9 => k_is)
    (case k9 => k_is)
    (case a10 => k_is)
    (case l10 => k_is)
    (case c10 => k_is)
    (case k10 => k_is)
    (case a11 => k_is)
    (case l11 => k_is)
    (case c11 => k_is)
    (case k11 => k_is)
    (case a12 => k_is)
    (case l12 => k_is)
    (case c12 => k_is)
    (case k12 => k_is)
    (case a13 => k_is)
    (case l13 => k_is)
    (case c13 => k_is)
    (case k13 => k_is)
    (case a14 => k_is)
    (case l14 => k_is)
    (case c14 => k_is)
    (case k14 => k_is)
    (case a15 => k_is)
    (case l15 => k_is)
    (case c15 => k_is)
    (case k15 => k_is)
    (case a16 => k_is)
    (case l16 => k_is)
    (case c16 => k_is)
    (case k16 => k_is)
    (case a17 => k_is)
    (case l17 => k_is)
    (case c17 => k_is)
    (case k17 => k_is)
    (case a18 => k_is)
    (case l18 => k_is)
    (case c18 => k_is)
    (case k18 => k_is)
    (case a19 => k_is)
    (case l19 => k_is)
    (case c19 => k_is)
    (case k19 => k_is)
    (case z0 => k_is)
    (case z1 => k_is)
    (case z2 => k_is)
    (case z3 => k_is)
    (case z4 => k_is)
    (case z5 => k_is)
    (case z6 => k_is)
    (case z7 => k_is)
    (case z8 => k_is)
    (case z9 => k_is)
    (case z10 => k_is)
    (case z11 => k_is)
    (case z12 => k_is)
    (case z13 => k_is)
    (case z14 => k_is)
    (case z15 => k_is)
    (case z16 => k_is)
    (case xa0 => k_is)
    (case xcl0 => k_is)
    (case xsa0 => k_is)
    (case xexC0 => k_is)
    (case xtyC0 => k_is)
    (case xkC0 => k_is)
    (case xi0 => k_is)
    (case xti0 => k_is)
    (case xl0 => k_is)
    (case xc0 => k_is)
    (case xkp0 => k_is)
    (case xno0 => k_is)
    (case xaB0 => k_is)
    (case xga0 => k_is)
    (case xty0 => k_is)
    (case xrd0 => k_is)
    (case xfc0 => k_is)
    (case xa1 => k_is)
    (case xcl1 => k_is)
    (case xsa1 => k_is)
    (case xexC1 => k_is)
    (case xtyC1 => k_is)
    (case xkC1 => k_is)
    (case xi1 => k_is)
    (case xti1 => k_is)
    (case xl1 => k_is)
    (case xc1 => k_is)
    (case xkp1 => k_is)
    (case xno1 => k_is)
    (case xaB1 => k_is)
    (case xga1 => k_is)
    (case xty1 => k_is)
    (case xrd1 => k_is)
    (case xfc1 => k_is)
    (case e0_0 => k_is)
    (case e0_1 => k_is)
    (case e0_2 => k_is)
    (case e0_3 => k_is)
    (case e0_4 => kernel_rfl)
    (case e0_5 => k_is)
    (case e0_6 => k_is)
    (case e0_7 => k_is)
    (case e0_8 => k_is)
    (case e0_9 => k_is)
    (case e0_10 => k_is)
    (case e0_11 => k_is)
    (case e0_12 => k_is)
    (case e1_0 => k_is)
    (case e1_1 => k_is)
    (case e1_2 => k_is)
    (case e1_3 => k_is)
    (case e1_4 => kernel_rfl)
    (case e1_5 => k_is)
    (case e1_6 => k_is)
    (case e1_7 => k_is)
    (case e1_8 => k_is)
    (case e1_9 => k_is)
    (case e1_10 => k_is)
    (case e1_11 => k_is)
    (case e1_12 => k_is)
    (case q0_0 => k_is)
    (case q0_1 => k_is)
    (case q0_2 => kernel_rfl)
    (case q1_0 => k_is)
    (case q1_1 => k_is)
    (case q1_2 => kernel_rfl)
    (case q2_0 => k_is)
    (case q2_1 => k_is)
    (case q2_2 => kernel_rfl)
    (case q3_0 => k_is)
    (case q3_1 => k_is)
    (case q3_2 => kernel_rfl)
    (case q4_0 => k_is)
    (case q4_1 => k_is)
    (case q4_2 => kernel_rfl)
    (case q5_0 => k_is)
    (case q5_1 => k_is)
    (case q5_2 => kernel_rfl)
    (case q6_0 => k_is)
    (case q6_1 => k_is)
    (case q6_2 => kernel_rfl)
    (case q7_0 => k_is)
    (case q7_1 => k_is)
    (case q7_2 => kernel_rfl)
    (case q8_0 => k_is)
    (case q8_1 => k_is)
    (case q8_2 => kernel_rfl)
    (case q9_0 => k_is)
    (case q9_1 => k_is)
    (case q9_2 => kernel_rfl)
    (case qt0_0 => k_is)
    (case qt0_1 => kernel_rfl)
    (case qt1_0 => k_is)
    (case qt1_1 => kernel_rfl)
    (case cst0 => k_is)
    (case xr0 => first | rfl | decide +kernel)
    (case xr1 => first | rfl | decide +kernel)
    (case rst0 => exact ⟨_, rfl⟩)
    (case la0 => k_is)
    (case ll0 => k_is)
    (case lv0 => k_is)
    (case lt0 => rfl)
    (case li0 => k_is)
    (case lk0 => k_is)
    (case lh0 => kernel_rfl)
    (case ln0 => first | k_is | kernel_rfl)
    (case mem => first | decide | simp)
